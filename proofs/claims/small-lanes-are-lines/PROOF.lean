import PyProof.Rows.All
import Wide.All
import OpenK.AllK
import Wide.FinOn
import HandS.Words
import HandS.Call
import HandS.Defaults
import HandS.Ends
import HandS.WordsExc
import HandS.Head0
import HandS.Head1
import HandS.Head2
import HandS.HeadEnd
import HandS.HeadHook1
import HandS.HeadHook2
import HandS.ForMost
import HandS.ForExc
import HandS.IsInst
import HandS.TupAny
import HandS.Walk
import HandS.Zip
import HandS.More
import HandS.MakeKwOnly
import KE.KUnpackStar
import KE.GoesEnumKw
import KE.KDictKeyed
import KE.KDictDisplayH
import KE.KeyNested
import HandS.Finally
import HandS.CallSlots
import HandS.TupMul
import PyProof.Rows.RuleB_pow
import PyProof.Rows.IntMath
import KE.DataCmp
import KE.LtData
import PySem.Challenge.RW_waitmark_k91_whole_small_lanes_are_lines
set_option Elab.async false
set_option linter.all false
set_option maxRecDepth 100000
set_option maxHeartbeats 4000000
/-! the text by places (printed by gen.py) -/
namespace KW
open PySem PySem.Spec L2
def topS (i : Nat) : Stmt := PySem.Challenge.pw_waitmark_k91_whole_small_lanes_are_lines.main.body.getD i (.Pass ⟨0, 0, 0, 0⟩)
abbrev s_is_whole : Stmt := topS 18
abbrev s_is_within : Stmt := topS 19
abbrev s_need_within : Stmt := topS 20
abbrev s_is_comer : Stmt := topS 21
abbrev s_come_right : Stmt := topS 22
abbrev s_need_many : Stmt := topS 23
abbrev s_are_comers : Stmt := topS 24
abbrev s_need_comers : Stmt := topS 25
abbrev s_root_of : Stmt := topS 28
abbrev s_gap_of : Stmt := topS 29
abbrev s_gap : Stmt := topS 30
abbrev s_is_late : Stmt := topS 35
abbrev s_need_late : Stmt := topS 36
abbrev s_is_late_memory : Stmt := topS 37
abbrev s_need_late_memory : Stmt := topS 38
abbrev s_late_first : Stmt := topS 39
abbrev s_late_looked : Stmt := topS 40
abbrev s_late_passed : Stmt := topS 41
abbrev s_is_share : Stmt := topS 47
abbrev s_need_share : Stmt := topS 48
abbrev s_is_share_memory : Stmt := topS 49
abbrev s_need_share_memory : Stmt := topS 50
abbrev s_share_first : Stmt := topS 51
abbrev s_share_renewed : Stmt := topS 52
abbrev s_share_come : Stmt := topS 53
abbrev s_share_passed : Stmt := topS 54
abbrev s_is_between : Stmt := topS 58
abbrev s_is_none : Stmt := topS 59
abbrev s_is_rule : Stmt := topS 60
abbrev s_need_rule : Stmt := topS 61
abbrev s_is_memory_of : Stmt := topS 62
abbrev s_is_wait : Stmt := topS 63
abbrev s_first_memory : Stmt := topS 64
abbrev s_looked_by : Stmt := topS 65
abbrev s_come_by : Stmt := topS 66
abbrev s_renewed_by : Stmt := topS 67
abbrev s_passed_by : Stmt := topS 68
abbrev s_is_stream : Stmt := topS 76
abbrev s_need_stream : Stmt := topS 77
abbrev s_is_size : Stmt := topS 78
abbrev s_is_piece : Stmt := topS 79
abbrev s_are_pieces : Stmt := topS 80
abbrev s_most_credit : Stmt := topS 81
abbrev s_is_lane_of : Stmt := topS 82
abbrev s_empty_lane : Stmt := topS 83
abbrev s_put_by : Stmt := topS 84
abbrev s_head_by : Stmt := topS 85
abbrev s_head_wait : Stmt := topS 86
abbrev s_lane_renewed_by : Stmt := topS 87
abbrev s_lane_passed_by : Stmt := topS 88
abbrev s_need_small : Stmt := topS 95
abbrev s_need_most : Stmt := topS 96
abbrev s_small_stream : Stmt := topS 97
abbrev s_is_small_run : Stmt := topS 98
abbrev s_done_by : Stmt := topS 100
abbrev s_small_words : Stmt := topS 101
abbrev s_unlike_words : Stmt := topS 105
abbrev s_need_rules : Stmt := topS 106
abbrev s_joint_alike : Stmt := topS 107
abbrev s_alike : Stmt := topS 108
abbrev s_are_streams : Stmt := topS 113
abbrev s_need_streams : Stmt := topS 114
abbrev s_need_rate : Stmt := topS 115
abbrev s_are_lanes : Stmt := topS 116
abbrev s_is_ring : Stmt := topS 117
abbrev s_are_credits : Stmt := topS 118
abbrev s_is_standing_of : Stmt := topS 119
abbrev s_need_standing : Stmt := topS 120
abbrev s_first_standing : Stmt := topS 121
abbrev s_served_by : Stmt := topS 123
abbrev s_all_renewed : Stmt := topS 125
abbrev s_all_passed : Stmt := topS 126
abbrev s_all_come : Stmt := topS 127
abbrev s_stepped_by : Stmt := topS 128
abbrev s__law_pot : Stmt := topS 132
abbrev s__law_take : Stmt := topS 133
abbrev s__law_folded : Stmt := topS 134
abbrev s__law_small_rule : Stmt := topS 135
abbrev s__law_counts : Stmt := topS 136
abbrev s__law_words : Stmt := topS 137
abbrev s__law_alike_told : Stmt := topS 138
abbrev s__law_run_right : Stmt := topS 139
abbrev s__law_pair_right : Stmt := topS 140
abbrev s_law : Stmt := topS 141
abbrev s_NoRun___init__ : Stmt := inClass (topS 12) 0
abbrev s_Done___init__ : Stmt := inClass (topS 99) 0
abbrev s_Found___init__ : Stmt := inClass (topS 102) 0
abbrev s_Found_put : Stmt := inClass (topS 102) 1
abbrev s_Found_run_to : Stmt := inClass (topS 102) 2
abbrev s_Joint___init__ : Stmt := inClass (topS 104) 0
abbrev s_Joint_first : Stmt := inClass (topS 104) 1
abbrev s_Joint_done : Stmt := inClass (topS 104) 2
abbrev s_Joint_is_pair : Stmt := inClass (topS 104) 3
abbrev s_Joint_told : Stmt := inClass (topS 104) 4
abbrev s_Joint_shows_by_run : Stmt := inClass (topS 104) 5
abbrev s_Joint_never_shows : Stmt := inClass (topS 104) 6
abbrev s_Joint_is_told : Stmt := inClass (topS 104) 7
abbrev s_Serving___init__ : Stmt := inClass (topS 122) 0
abbrev s_Serving_begin_turn : Stmt := inClass (topS 122) 1
abbrev s_Serving_end_turn : Stmt := inClass (topS 122) 2
abbrev s_Serving_head_goes : Stmt := inClass (topS 122) 3
abbrev s_Serving_goes_on : Stmt := inClass (topS 122) 4
abbrev s_Serving_stands : Stmt := inClass (topS 122) 5
abbrev s_Line___init__ : Stmt := inClass (topS 130) 0
abbrev s_Line_done : Stmt := inClass (topS 130) 1
abbrev s_Line_step : Stmt := inClass (topS 130) 2
abbrev s_Line_all_steps : Stmt := inClass (topS 130) 3
abbrev s_Line_run : Stmt := inClass (topS 130) 4
abbrev s_Line_back : Stmt := inClass (topS 130) 5
abbrev s_Line_standing : Stmt := inClass (topS 130) 6
abbrev s_Line_journal : Stmt := inClass (topS 130) 7
abbrev s_Line_pieces : Stmt := inClass (topS 130) 8
abbrev s_Line_waiting : Stmt := inClass (topS 130) 9
abbrev s_Line_diary : Stmt := inClass (topS 130) 10
abbrev s_Line___eq__ : Stmt := inClass (topS 130) 11
abbrev s_Line___len__ : Stmt := inClass (topS 130) 12
abbrev s_Line___repr__ : Stmt := inClass (topS 130) 13
end KW
set_option maxHeartbeats 0
/-! the head: what is looked at, the run of the top (printed by genH.py) -/
namespace KW
open PySem PySem.Spec L2
def hdD (x : Str) (st : Stmt) (kws : List (Str × He.Dv)) : He.DefD := ⟨(x, none), x, x, defArgs st, defBody st, defScope st, [], kws⟩
def hdM (c m q : Str) (st : Stmt) (dfl : List He.Dv) (kws : List (Str × He.Dv)) : He.DefD := ⟨(c, some m), m, q, defArgs st, defBody st, defScope st, dfl, kws⟩
def fnL_0 : List He.DefD := [hdD "is_whole" s_is_whole [],
  hdD "is_within" s_is_within [],
  hdD "need_within" s_need_within [],
  hdD "is_comer" s_is_comer [],
  hdD "come_right" s_come_right [],
  hdD "need_many" s_need_many [],
  hdD "are_comers" s_are_comers [],
  hdD "need_comers" s_need_comers [],
  hdD "root_of" s_root_of [],
  hdD "gap_of" s_gap_of [],
  hdD "gap" s_gap [],
  hdD "is_late" s_is_late [],
  hdD "need_late" s_need_late [],
  hdD "is_late_memory" s_is_late_memory [],
  hdD "need_late_memory" s_need_late_memory [],
  hdD "late_first" s_late_first [],
  hdD "late_looked" s_late_looked [("alone", .bl false)],
  hdD "late_passed" s_late_passed [],
  hdD "is_share" s_is_share [],
  hdD "need_share" s_need_share [],
  hdD "is_share_memory" s_is_share_memory [],
  hdD "need_share_memory" s_need_share_memory [],
  hdD "share_first" s_share_first [],
  hdD "share_renewed" s_share_renewed [],
  hdD "share_come" s_share_come [],
  hdD "share_passed" s_share_passed [],
  hdD "is_between" s_is_between [],
  hdD "is_none" s_is_none [],
  hdD "is_rule" s_is_rule [],
  hdD "need_rule" s_need_rule []]
def fnL_1 : List He.DefD := [hdD "is_memory_of" s_is_memory_of [],
  hdD "is_wait" s_is_wait [],
  hdD "first_memory" s_first_memory [],
  hdD "looked_by" s_looked_by [],
  hdD "come_by" s_come_by [],
  hdD "renewed_by" s_renewed_by [],
  hdD "passed_by" s_passed_by [],
  hdD "is_stream" s_is_stream [],
  hdD "need_stream" s_need_stream [],
  hdD "is_size" s_is_size [],
  hdD "is_piece" s_is_piece [],
  hdD "are_pieces" s_are_pieces [],
  hdD "most_credit" s_most_credit [],
  hdD "is_lane_of" s_is_lane_of [],
  hdD "empty_lane" s_empty_lane [],
  hdD "put_by" s_put_by [],
  hdD "head_by" s_head_by [],
  hdD "head_wait" s_head_wait [],
  hdD "lane_renewed_by" s_lane_renewed_by [],
  hdD "lane_passed_by" s_lane_passed_by [],
  hdD "need_small" s_need_small [],
  hdD "need_most" s_need_most [],
  hdD "small_stream" s_small_stream [],
  hdD "is_small_run" s_is_small_run [],
  hdD "done_by" s_done_by [],
  hdD "small_words" s_small_words [],
  hdD "unlike_words" s_unlike_words [],
  hdD "need_rules" s_need_rules [],
  hdD "joint_alike" s_joint_alike [],
  hdD "alike" s_alike [("most", .int 2)]]
def fnL_2 : List He.DefD := [hdD "are_streams" s_are_streams [],
  hdD "need_streams" s_need_streams [],
  hdD "need_rate" s_need_rate [],
  hdD "are_lanes" s_are_lanes [],
  hdD "is_ring" s_is_ring [],
  hdD "are_credits" s_are_credits [],
  hdD "is_standing_of" s_is_standing_of [],
  hdD "need_standing" s_need_standing [],
  hdD "first_standing" s_first_standing [],
  hdD "served_by" s_served_by [],
  hdD "all_renewed" s_all_renewed [],
  hdD "all_passed" s_all_passed [],
  hdD "all_come" s_all_come [],
  hdD "stepped_by" s_stepped_by [],
  hdD "_law_pot" s__law_pot [],
  hdD "_law_take" s__law_take [],
  hdD "_law_folded" s__law_folded [],
  hdD "_law_small_rule" s__law_small_rule [],
  hdD "_law_counts" s__law_counts [],
  hdD "_law_words" s__law_words [],
  hdD "_law_alike_told" s__law_alike_told [],
  hdD "_law_run_right" s__law_run_right [],
  hdD "_law_pair_right" s__law_pair_right [],
  hdD "law" s_law [],
  hdM "Done" "__init__" "Done.__init__" s_Done___init__ [] [],
  hdM "Found" "__init__" "Found.__init__" s_Found___init__ [] [],
  hdM "Found" "put" "Found.put" s_Found_put [] [],
  hdM "Found" "run_to" "Found.run_to" s_Found_run_to [] [],
  hdM "Joint" "__init__" "Joint.__init__" s_Joint___init__ [] [],
  hdM "Joint" "first" "Joint.first" s_Joint_first [] []]
def fnL_3 : List He.DefD := [hdM "Joint" "done" "Joint.done" s_Joint_done [] [],
  hdM "Joint" "told" "Joint.told" s_Joint_told [] [],
  hdM "Serving" "__init__" "Serving.__init__" s_Serving___init__ [] [],
  hdM "Serving" "begin_turn" "Serving.begin_turn" s_Serving_begin_turn [] [],
  hdM "Serving" "end_turn" "Serving.end_turn" s_Serving_end_turn [] [],
  hdM "Serving" "head_goes" "Serving.head_goes" s_Serving_head_goes [] [],
  hdM "Serving" "goes_on" "Serving.goes_on" s_Serving_goes_on [] [],
  hdM "Serving" "stands" "Serving.stands" s_Serving_stands [] [],
  hdM "Line" "__init__" "Line.__init__" s_Line___init__ [] [("rate", .int 9), ("standing", .non)],
  hdM "Line" "done" "Line.done" s_Line_done [] [],
  hdM "Line" "step" "Line.step" s_Line_step [.adr (He.dflAt ("Line", some "step") 0)] [],
  hdM "Line" "all_steps" "Line.all_steps" s_Line_all_steps [] [],
  hdM "Line" "run" "Line.run" s_Line_run [] []]
def fnL : List He.DefD := fnL_0 ++ fnL_1 ++ fnL_2 ++ fnL_3
def faL_0 : List He.Fa := [.glo "is_whole",
  .glo "is_within",
  .glo "need_within",
  .glo "is_comer",
  .glo "come_right",
  .glo "need_many",
  .glo "are_comers",
  .glo "need_comers",
  .glo "root_of",
  .glo "gap_of",
  .glo "gap",
  .glo "is_late",
  .glo "need_late",
  .glo "is_late_memory",
  .glo "need_late_memory",
  .glo "late_first",
  .glo "late_looked",
  .glo "late_passed",
  .glo "is_share",
  .glo "need_share",
  .glo "is_share_memory",
  .glo "need_share_memory",
  .glo "share_first",
  .glo "share_renewed",
  .glo "share_come",
  .glo "share_passed",
  .glo "is_between",
  .glo "is_none",
  .glo "is_rule",
  .glo "need_rule"]
def faL_1 : List He.Fa := [.glo "is_memory_of",
  .glo "is_wait",
  .glo "first_memory",
  .glo "looked_by",
  .glo "come_by",
  .glo "renewed_by",
  .glo "passed_by",
  .glo "is_stream",
  .glo "need_stream",
  .glo "is_size",
  .glo "is_piece",
  .glo "are_pieces",
  .glo "most_credit",
  .glo "is_lane_of",
  .glo "empty_lane",
  .glo "put_by",
  .glo "head_by",
  .glo "head_wait",
  .glo "lane_renewed_by",
  .glo "lane_passed_by",
  .glo "need_small",
  .glo "need_most",
  .glo "small_stream",
  .glo "is_small_run",
  .glo "done_by",
  .glo "small_words",
  .glo "unlike_words",
  .glo "need_rules",
  .glo "joint_alike",
  .glo "alike"]
def faL_2 : List He.Fa := [.glo "are_streams",
  .glo "need_streams",
  .glo "need_rate",
  .glo "are_lanes",
  .glo "is_ring",
  .glo "are_credits",
  .glo "is_standing_of",
  .glo "need_standing",
  .glo "first_standing",
  .glo "served_by",
  .glo "all_renewed",
  .glo "all_passed",
  .glo "all_come",
  .glo "stepped_by",
  .glo "_law_pot",
  .glo "_law_take",
  .glo "_law_folded",
  .glo "_law_small_rule",
  .glo "_law_counts",
  .glo "_law_words",
  .glo "_law_alike_told",
  .glo "_law_run_right",
  .glo "_law_pair_right",
  .glo "law",
  .int "MOST_SIZE" 9,
  .int "MOST_STREAMS_comers" 8,
  .int "MOST_COMERS" 64,
  .int "MOST_TICKS" 400,
  .int "MOST_SPAN" 99,
  .str "LATE" "late"]
def faL_3 : List He.Fa := [.int "MOST_late" 99,
  .int "MOST_WAIT_late" 1000000,
  .str "SHARE" "share",
  .int "WHOLE" 1000,
  .int "MOST_STEP" 999,
  .int "MOST_OLD" 99,
  .int "MOST_WAIT_rules" 1000000,
  .glo "NONE",
  .int "MOST_WEIGHT" 9,
  .int "MOST_PIECES" 99,
  .int "LEAST_SIZE" 1,
  .int "LARGEST" 9,
  .int "TURN" 9,
  .int "KEPT" 8,
  .int "MOST_runs" 2,
  .int "MOST_EACH" 3,
  .int "MOST_LIMIT" 6,
  .int "MOST_LANES" 1500,
  .str "DROPPED" "drop",
  .int "RATE" 9,
  .int "MOST_STREAMS_turns" 8,
  .int "MOST_RATE" 99,
  .free "isinstance",
  .free "len",
  .free "all",
  .free "zip",
  .free "tuple",
  .free "list",
  .free "int",
  .free "bool"]
def faL_4 : List He.Fa := [.free "str",
  .free "min",
  .free "max",
  .free "divmod",
  .free "enumerate",
  .free "range",
  .free "sorted",
  .free "abs",
  .glo "Done",
  .cls "Done",
  .noat "Done" "lane",
  .noat "Done" "words",
  .noat "Done" "sent_wait",
  .mkr "Done",
  .glo "Found",
  .cls "Found",
  .noat "Found" "things",
  .noat "Found" "numbers",
  .noat "Found" "steps",
  .mkr "Found",
  .meth "Found" "put",
  .meth "Found" "run_to",
  .glo "Joint",
  .cls "Joint",
  .noat "Joint" "rules",
  .noat "Joint" "limit",
  .noat "Joint" "streams",
  .noat "Joint" "shows",
  .mkr "Joint",
  .meth "Joint" "first"]
def faL_5 : List He.Fa := [.meth "Joint" "done",
  .meth "Joint" "told",
  .glo "Serving",
  .cls "Serving",
  .noat "Serving" "own_streams",
  .noat "Serving" "own_budget",
  .noat "Serving" "own_begun",
  .noat "Serving" "own_ring",
  .noat "Serving" "own_lanes",
  .noat "Serving" "own_rows",
  .mkr "Serving",
  .meth "Serving" "begin_turn",
  .meth "Serving" "end_turn",
  .meth "Serving" "head_goes",
  .meth "Serving" "goes_on",
  .meth "Serving" "stands",
  .glo "Line",
  .cls "Line",
  .noat "Line" "line_streams",
  .noat "Line" "line_rate",
  .noat "Line" "line_standing",
  .noat "Line" "line_past",
  .noat "Line" "line_diary",
  .mkr "Line",
  .meth "Line" "done",
  .meth "Line" "step",
  .meth "Line" "all_steps",
  .meth "Line" "run",
  .glo "TooWide",
  .exc "TooWide"]
def faL_6 : List He.Fa := [.exm "TooWide" "TooWide" true]
def faL : List He.Fa := faL_0 ++ faL_1 ++ faL_2 ++ faL_3 ++ faL_4 ++ faL_5 ++ faL_6
def looseL_0 : List Str := ["_wall",
  "LineError",
  "NoStreams",
  "NoComers",
  "NoRate",
  "NoNumber",
  "NoRule",
  "NoMemory",
  "NoStream",
  "NoStanding",
  "TooWide",
  "NoRun",
  "MOST_SIZE",
  "MOST_STREAMS_comers",
  "MOST_COMERS",
  "MOST_TICKS",
  "is_whole",
  "is_within",
  "need_within",
  "is_comer",
  "come_right",
  "need_many",
  "are_comers",
  "need_comers",
  "MOST_SPAN",
  "root_of",
  "gap_of",
  "gap",
  "LATE",
  "MOST_late"]
def looseL_1 : List Str := ["MOST_WAIT_late",
  "is_late",
  "need_late",
  "is_late_memory",
  "need_late_memory",
  "late_first",
  "late_looked",
  "late_passed",
  "SHARE",
  "WHOLE",
  "MOST_STEP",
  "MOST_OLD",
  "is_share",
  "need_share",
  "is_share_memory",
  "need_share_memory",
  "share_first",
  "share_renewed",
  "share_come",
  "share_passed",
  "MOST_WAIT_rules",
  "NONE",
  "is_between",
  "is_none",
  "is_rule",
  "need_rule",
  "is_memory_of",
  "is_wait",
  "first_memory",
  "looked_by"]
def looseL_2 : List Str := ["come_by",
  "renewed_by",
  "passed_by",
  "MOST_WEIGHT",
  "MOST_PIECES",
  "LEAST_SIZE",
  "LARGEST",
  "TURN",
  "KEPT",
  "is_stream",
  "need_stream",
  "is_size",
  "is_piece",
  "are_pieces",
  "most_credit",
  "is_lane_of",
  "empty_lane",
  "put_by",
  "head_by",
  "head_wait",
  "lane_renewed_by",
  "lane_passed_by",
  "MOST_runs",
  "MOST_EACH",
  "MOST_LIMIT",
  "MOST_LANES",
  "DROPPED",
  "need_small",
  "need_most",
  "small_stream"]
def looseL_3 : List Str := ["is_small_run",
  "Done",
  "done_by",
  "small_words",
  "Found",
  "Joint",
  "unlike_words",
  "need_rules",
  "joint_alike",
  "alike",
  "RATE",
  "MOST_STREAMS_turns",
  "MOST_RATE",
  "are_streams",
  "need_streams",
  "need_rate",
  "are_lanes",
  "is_ring",
  "are_credits",
  "is_standing_of",
  "need_standing",
  "first_standing",
  "Serving",
  "served_by",
  "all_renewed",
  "all_passed",
  "all_come",
  "stepped_by",
  "Line",
  "_law_pot"]
def looseL_4 : List Str := ["_law_take",
  "_law_folded",
  "_law_small_rule",
  "_law_counts",
  "_law_words",
  "_law_alike_told",
  "_law_run_right",
  "_law_pair_right"]
def looseL : List Str := looseL_0 ++ looseL_1 ++ looseL_2 ++ looseL_3 ++ looseL_4
def isLst (o : Obj) : Bool := match o.cls with
  | .type c => decide (c = "list")
  | _ => false
def extraB (K : PySem.W.Frag) : Bool := He.tupB K "NONE" [.str "none"] && K.all fun q => !isLst q.2
abbrev AlK : Type := He.AlD × Bool
def obsK (fa : List He.Fa) (fn : List He.DefD) (K : PySem.W.Frag) : AlK := (He.obsD fa fn K, extraB K)
def valK (fn : List He.DefD) : AlK := (He.valD fn, true)
def SaysK (fa : List He.Fa) (fn : List He.DefD) (K : PySem.W.Frag) : Prop := obsK fa fn K = valK fn
/-- what is looked at: what the module's names stand for, a class's names, a function's code and defaults -/
def refsA (o : Obj) : List Addr := match o.data with
  | .func fd => He.refV fd.code ++ (He.refV fd.defaults ++ He.refV fd.kwdefaults)
  | .cls cd => [cd.ns]
  | _ => []
def refsB (o : Obj) : List Addr := match o.data with
  | .dict es _ => es.toList.flatMap fun e => He.refV e.val
  | _ => []
def overA (g : Addr → Option Obj) (f : Obj → List Addr) (as : List Addr) : List Addr := as.flatMap fun a => match g a with
  | some o => f o
  | none => []
def asK (g : Addr → Option Obj) : List Addr := match overA g refsB [mainGlobals] with
  | l1 => match overA g refsA l1 with
    | l2 => match overA g refsB l2 with
      | l3 => mainGlobals :: (l1 ++ (l2 ++ (l3 ++ overA g refsA l3)))
def obsKG (fa : List He.Fa) (fn : List He.DefD) (g : Addr → Option Obj) : AlK := obsK fa fn (He.frG g (asK g))
def hookK (fa : List He.Fa) (fn : List He.DefD) : PySem.W.Hook where
  α := AlK
  obs := fun s => obsKG fa fn s.heap.get?
  val := fun _ => valK fn
  says := fun _ h => ∃ K : PySem.W.Frag, K.In h ∧ SaysK fa fn K
  of := fun _ _ e => ⟨_, He.frG_in, e⟩
  keeps := fun _ _ _ ⟨K, hK, c⟩ k => ⟨K, PySem.W.Frag.In.keeps hK k, c⟩
theorem obsKG_eq {fa : List He.Fa} {fn : List He.DefD} {g : Addr → Option Obj} {s : Shared} (h : ∀ a, g a = s.heap.get? a) : obsKG fa fn g = (hookK fa fn).obs s := by
  have e : g = s.heap.get? := funext h
  rw [e] <;> rfl
abbrev RR : PySem.W.OpenRow := PySem.W.OpenLaw.row PySem.Challenge.rw_waitmark_k91_whole_small_lanes_are_lines
abbrev hkR : PySem.W.Hook := hookK faL fnL
def obR (s : PySem.W.SharedT) : AlK := obsKG faL fnL (HandSHeadRun.getT s)
theorem obR_eq (s : PySem.W.SharedT) : obR s = hkR.obs s.abs := obsKG_eq (HandSHeadRun.getT_eq s)
abbrev qR : Program := PySem.W.view RR.prog [141]
noncomputable abbrev endR (w : World) (os : OsState) : Option PySem.W.SharedT := HandSHeadRun.endF (HandSHeadRun.stepQ (HandSHeadRun.denQ HandSHeadRun.tabQ) RR.prog w) 20000 RR.prog w os
noncomputable abbrev seenR (s : PySem.W.SharedT) := HandSHeadRun.seenQ qR looseL (importedModules RR.prog.main.body) (fun s => PySem.W.xlAt qR [] s && PySem.W.recOk RR.toRowW.records s) s.abs
theorem runA (w : World) (os : OsState) : (endR w os).map (fun s => (HandSHeadRun.looksF RR.prog (PySem.W.boot_heap w.params) s.abs, seenR s)) = some (true, PySem.W.openGood qR looseL) := by
  kernel_rfl
theorem runB (w : World) (os : OsState) : @Option.map PySem.W.SharedT hkR.α obR (endR w os) = some (hkR.val w) := by
  kernel_rfl
theorem run_both {α β γ δ : Type} {o : Option α} {f : α → β} {g : α → γ} {h : α → δ} {b : β} {c : γ} {d : δ} (h1 : o.map (fun s => (f s, g s)) = some (b, c)) (h2 : o.map h = some d) : o.map (fun s => (f s, g s, h s)) = some (b, c, d) := by
  cases o with
  | none => cases h1
  | some s =>
    have e1 : (f s, g s) = (b, c) := Option.some.inj h1
    have e2 : h s = d := Option.some.inj h2
    obtain ⟨e3, e4⟩ := Prod.mk.inj e1
    show some (f s, g s, h s) = _
    rw [e3, e4, e2]
theorem runR (w : World) : HandSHeadRun.RunEq RR qR hkR obR 20000 looseL w := by
  intro os
  exact @run_both PySem.W.SharedT Bool _ hkR.α (endR w os) (fun s => HandSHeadRun.looksF RR.prog (PySem.W.boot_heap w.params) s.abs) (fun s => seenR s) obR true (PySem.W.openGood qR looseL) (hkR.val w) (runA w os) (runB w os)
end KW
set_option maxHeartbeats 4000000
/-! DLa: a layer of data over the hand layer: readings by total functions of data -/
namespace L2
open PySem PySem.Spec
/-! ### data in the heap -/
theorem SqT.mono {K : PySem.W.Frag} {H H' : Hp} {a : Addr} {xs : List V} (e : Same H H') (h : SqT K H a xs) : SqT K H' a xs := by
  rcases h with (h | ⟨o, h⟩) | h
  · exact .inl (.inl (e _ _ h))
  · exact .inl (.inr ⟨o, e _ _ h⟩)
  · exact .inr h
mutual
theorem Dp.mono {K : PySem.W.Frag} {H H' : Hp} (s : Same H H') : ∀ (d : PyData) (v : V), Dp K H v d → Dp K H' v d
  | .none, _, h => by cases h; exact .non
  | .bool _, _, h => by cases h; exact .bl _
  | .int _, _, h => by cases h; exact .int _
  | .str _, _, h => by cases h; exact .str _
  | .list ds, _, h => by
    cases h with
    | lst hs ha => exact .lst (s.seq hs) (DpAll.mono s ds _ ha)
  | .tuple ds, _, h => by
    cases h with
    | tup hs ha => exact .tup (SqT.mono s hs) (DpAll.mono s ds _ ha)
  | .dict _, _, h => by cases h
theorem DpAll.mono {K : PySem.W.Frag} {H H' : Hp} (s : Same H H') : ∀ (ds : List PyData) (vs : List V), DpAll K H vs ds → DpAll K H' vs ds
  | [], _, h => by cases h; exact .nil
  | d :: ds, _, h => by
    cases h with
    | cons h1 h2 => exact .cons (Dp.mono s d _ h1) (DpAll.mono s ds _ h2)
end
theorem DpAll.len {K : PySem.W.Frag} {H : Hp} : ∀ {vs : List V} {ds : List PyData}, DpAll K H vs ds → vs.length = ds.length
  | _, [], h => by cases h; rfl
  | _, d :: ds, h => by
    cases h with
    | cons _ h2 => simp [DpAll.len h2]
theorem DpAll.get {K : PySem.W.Frag} {H : Hp} : ∀ {vs : List V} {ds : List PyData} {i : Nat} {d : PyData}, DpAll K H vs ds → ds[i]? = some d → ∃ v, vs[i]? = some v ∧ Dp K H v d
  | _, [], _, _, _, e => by simp at e
  | _, d :: ds, 0, _, h, e => by
    cases h with
    | cons h1 _ => simp at e; subst e; exact ⟨_, rfl, h1⟩
  | _, d :: ds, i + 1, _, h, e => by
    cases h with
    | cons _ h2 =>
      obtain ⟨v, a, b⟩ := DpAll.get (i := i) h2 (by simpa using e)
      exact ⟨v, by simpa using a, b⟩
theorem DpAll.getV {K : PySem.W.Frag} {H : Hp} : ∀ {ds : List PyData} {vs : List V} {i : Nat} {v : V}, DpAll K H vs ds → vs[i]? = some v → ∃ d, ds[i]? = some d ∧ Dp K H v d
  | [], _, _, _, h, e => by cases h; simp at e
  | d :: ds, _, 0, _, h, e => by
    cases h with
    | cons h1 _ => simp at e; subst e; exact ⟨_, rfl, h1⟩
  | d :: ds, _, i + 1, _, h, e => by
    cases h with
    | cons _ h2 =>
      obtain ⟨v, a, b⟩ := DpAll.getV (i := i) h2 (by simpa using e)
      exact ⟨v, by simpa using a, b⟩
theorem DpAll.append {K : PySem.W.Frag} {H : Hp} : ∀ {ds es : List PyData} {vs ws : List V}, DpAll K H vs ds → DpAll K H ws es → DpAll K H (vs ++ ws) (ds ++ es)
  | [], _, _, _, h, k => by cases h; exact k
  | d :: ds, _, _, _, h, k => by
    cases h with
    | cons h1 h2 => exact .cons h1 (DpAll.append h2 k)
theorem DpAll.take {K : PySem.W.Frag} {H : Hp} : ∀ {ds : List PyData} {vs : List V} (n : Nat), DpAll K H vs ds → DpAll K H (vs.take n) (ds.take n)
  | _, _, 0, _ => by simp; exact .nil
  | [], _, n + 1, h => by cases h; exact .nil
  | d :: ds, _, n + 1, h => by
    cases h with
    | cons h1 h2 => exact .cons h1 (DpAll.take n h2)
theorem DpAll.drop {K : PySem.W.Frag} {H : Hp} : ∀ {ds : List PyData} {vs : List V} (n : Nat), DpAll K H vs ds → DpAll K H (vs.drop n) (ds.drop n)
  | _, _, 0, h => h
  | [], _, n + 1, h => by cases h; exact .nil
  | d :: ds, _, n + 1, h => by
    cases h with
    | cons h1 h2 => exact DpAll.drop n h2
theorem DpAll.one {K : PySem.W.Frag} {H : Hp} {v : V} {d : PyData} (h : Dp K H v d) : DpAll K H [v] [d] := .cons h .nil
section
variable {X : Cx}
theorem PE.imp {e : Expr} {t t' : TE} (h : PE X e t) (i : ∀ σ H Q, t' σ H Q → t σ H Q) : PE X e t' := ⟨fun pins s σ H Q I q => h.run pins s σ H Q I (i _ _ _ q)⟩
theorem PT.imp {e : Expr} {t t' : TT} (h : PT X e t) (i : ∀ σ H Q, t' σ H Q → t σ H Q) : PT X e t' := ⟨fun pins s σ H Q I q => h.run pins s σ H Q I (i _ _ _ q)⟩
theorem PW.imp {e : Expr} {t t' : TT} (h : PW X e t) (i : ∀ σ H Q, t' σ H Q → t σ H Q) : PW X e t' := ⟨fun wh pins s σ H Q I q => h.run wh pins s σ H Q I (i _ _ _ q)⟩
theorem PA.imp {e : List Expr} {t t' : TA} (h : PA X e t) (i : ∀ σ H Q, t' σ H Q → t σ H Q) : PA X e t' := ⟨fun pos pins s σ H Q I q => h.run pos pins s σ H Q I (i _ _ _ q)⟩
theorem PS.imp {e : Stmt} {t t' : TS} (h : PS X e t) (i : ∀ D σ H, t' D σ H → t D σ H) : PS X e t' := ⟨fun pins s σ H D I q => h.run pins s σ H D I (i _ _ _ q)⟩
theorem PSs.imp {e : List Stmt} {t t' : TS} (h : PSs X e t) (i : ∀ D σ H, t' D σ H → t D σ H) : PSs X e t' := ⟨fun pins s σ H D I q => h.run pins s σ H D I (i _ _ _ q)⟩
theorem PG.imp {e : Expr} {t t' : TG} (h : PG X e t) (i : ∀ v σ H Q, t' v σ H Q → t v σ H Q) : PG X e t' := ⟨fun pins s σ H v u Q I r q => h.run pins s σ H v u Q I r (i _ _ _ _ q)⟩
theorem PGs.imp {e : List Expr} {t t' : TGs} (h : PGs X e t) (i : ∀ v σ H Q, t' v σ H Q → t v σ H Q) : PGs X e t' := ⟨fun pins s σ H v u Q I r q => h.run pins s σ H v u Q I r (i _ _ _ _ q)⟩
end
end L2
namespace KW
open PySem PySem.Spec L2
/-! ### slots -/
inductive SV where
  | dat (d : PyData)
  | val (v : V)
abbrev DS := List (Option SV)
def RepV (K : PySem.W.Frag) (H : Hp) : SV → V → Prop
  | .dat d, v => Dp K H v d
  | .val u, v => v = u
theorem RepV.mono {K : PySem.W.Frag} {H H' : Hp} (s : Same H H') : ∀ {x : SV} {v : V}, RepV K H x v → RepV K H' x v
  | .dat d, v, h => Dp.mono s d v h
  | .val _, _, h => h
structure Rep (K : PySem.W.Frag) (H : Hp) (σ : St) (ρ : DS) : Prop where
  len : σ.length = ρ.length
  at_ : ∀ (i : Nat) (x : SV), ρ[i]? = some (some x) → ∃ v, σ[i]? = some (some v) ∧ RepV K H x v
theorem Rep.mono {K : PySem.W.Frag} {H H' : Hp} {σ : St} {ρ : DS} (r : Rep K H σ ρ) (s : Same H H') : Rep K H' σ ρ :=
  ⟨r.len, fun i x e => let ⟨v, a, b⟩ := r.at_ i x e; ⟨v, a, b.mono s⟩⟩
theorem Rep.set {K : PySem.W.Frag} {H : Hp} {σ : St} {ρ : DS} (r : Rep K H σ ρ) (i : Nat) {x : SV} {v : V} (h : RepV K H x v) : Rep K H (σ.set i (some v)) (ρ.set i (some x)) := by
  refine ⟨by simp [r.len], fun j y e => ?_⟩
  by_cases hj : i = j
  · subst hj
    have hi : i < ρ.length := by
      rcases Nat.lt_or_ge i ρ.length with h | h
      · exact h
      · rw [List.getElem?_eq_none (by simpa using h)] at e; cases e
    rw [List.getElem?_set_self hi] at e
    cases e
    exact ⟨v, List.getElem?_set_self (by rw [r.len]; exact hi), h⟩
  · rw [List.getElem?_set_ne hj] at e
    obtain ⟨w, a, b⟩ := r.at_ j y e
    exact ⟨w, by rw [List.getElem?_set_ne hj]; exact a, b⟩
theorem Rep.wipe1 {K : PySem.W.Frag} {H : Hp} {σ : St} {ρ : DS} (r : Rep K H σ ρ) (i : Nat) : Rep K H (σ.set i none) (ρ.set i none) := by
  refine ⟨by simp [r.len], fun j y e => ?_⟩
  by_cases hj : i = j
  · subst hj
    rcases Nat.lt_or_ge i ρ.length with h | h
    · rw [List.getElem?_set_self h] at e; cases e
    · rw [List.getElem?_eq_none (by simpa using h)] at e; cases e
  · rw [List.getElem?_set_ne hj] at e
    obtain ⟨w, a, b⟩ := r.at_ j y e
    exact ⟨w, by rw [List.getElem?_set_ne hj]; exact a, b⟩
@[simp] def wipeD (ρ : DS) : List Nat → DS
  | [] => ρ
  | v :: vs => (wipeD ρ vs).set v none
theorem Rep.wipe {K : PySem.W.Frag} {H : Hp} {σ : St} {ρ : DS} (r : Rep K H σ ρ) : ∀ vs, Rep K H (L2.wipe σ vs) (wipeD ρ vs)
  | [] => r
  | v :: vs => (Rep.wipe r vs).wipe1 v
/-- slots alike but at vs -/
structure SOff (vs : List Nat) (σ σ' : St) : Prop where
  len : σ'.length = σ.length
  at_ : ∀ j, j ∉ vs → σ'[j]? = σ[j]?
theorem SOff.refl (vs : List Nat) (σ : St) : SOff vs σ σ := ⟨rfl, fun _ _ => rfl⟩
theorem SOff.set {vs : List Nat} {σ : St} {i : Nat} {x : Option V} (h : i ∈ vs) : SOff vs σ (σ.set i x) :=
  ⟨by simp, fun j hj => List.getElem?_set_ne (fun e => hj (by rw [← e]; exact h))⟩
theorem SOff.trans {vs : List Nat} {σ σ1 σ2 : St} (a : SOff vs σ σ1) (b : SOff vs σ1 σ2) : SOff vs σ σ2 := ⟨b.len.trans a.len, fun j hj => (b.at_ j hj).trans (a.at_ j hj)⟩
theorem SOff.mono {vs ws : List Nat} {σ σ1 : St} (a : SOff vs σ σ1) (h : ∀ j ∈ vs, j ∈ ws) : SOff ws σ σ1 := ⟨a.len, fun j hj => a.at_ j fun z => hj (h j z)⟩
theorem wipe_at {σ : St} {j : Nat} : ∀ {vs : List Nat}, (L2.wipe σ vs)[j]? = if j ∈ vs then (if j < σ.length then some none else none) else σ[j]?
  | [] => by simp [L2.wipe]
  | v :: vs => by
    unfold L2.wipe
    by_cases hj : v = j
    · subst hj
      rw [if_pos (by simp)]
      by_cases hl : v < σ.length
      · rw [if_pos hl, List.getElem?_set_self (by rw [wipe_length]; exact hl)]
      · rw [if_neg hl, List.getElem?_eq_none (by simp [wipe_length]; omega)]
    · rw [List.getElem?_set_ne hj, wipe_at (vs := vs)]
      have : (j ∈ v :: vs) ↔ j ∈ vs := by simp [Ne.symm hj]
      simp only [this]
theorem SOff.wipe {vs : List Nat} {σ σ' : St} (a : SOff vs σ σ') : L2.wipe σ' vs = L2.wipe σ vs := by
  apply List.ext_getElem?
  intro j
  rw [wipe_at, wipe_at, a.len]
  by_cases h : j ∈ vs
  · rw [if_pos h, if_pos h]
  · rw [if_neg h, if_neg h, a.at_ j h]
theorem wipe_wipe {σ : St} {vs : List Nat} : L2.wipe (L2.wipe σ vs) vs = L2.wipe σ vs := by
  apply List.ext_getElem?
  intro j
  rw [wipe_at, wipe_at, wipe_length]
  by_cases h : j ∈ vs
  · rw [if_pos h, if_pos h]
  · rw [if_neg h, if_neg h]
/-! ### readings by functions -/
abbrev DE := DS → Option PyData
abbrev DT := DS → Option Bool
abbrev DA := DS → Option (List PyData)
inductive DOut where
  | nx (ρ : DS)
  | rt (d : PyData)
abbrev DB := DS → Option DOut
abbrev DG := PyData → DS → Option DS
abbrev DGs := List PyData → DS → Option DS
def tE (K : PySem.W.Frag) (f : DE) : TE := fun σ H Q => ∃ ρ d, Rep K H σ ρ ∧ f ρ = some d ∧ ∀ v H', Same H H' → Dp K H' v d → Q v H'
def tT (K : PySem.W.Frag) (f : DT) : TT := fun σ H Q => ∃ ρ b, Rep K H σ ρ ∧ f ρ = some b ∧ ∀ H', Same H H' → Q b H'
def tA (K : PySem.W.Frag) (f : DA) : TA := fun σ H Q => ∃ ρ ds, Rep K H σ ρ ∧ f ρ = some ds ∧ ∀ vs H', Same H H' → DpAll K H' vs ds → Q vs H'
def OutOk (K : PySem.W.Frag) (H : Hp) (D : Ends) : DOut → Prop
  | .nx ρ => ∀ σ' H', Same H H' → Rep K H' σ' ρ → D.nx σ' H'
  | .rt d => ∀ v H', Same H H' → Dp K H' v d → D.rt v H'
def tS (K : PySem.W.Frag) (f : DB) : TS := fun D σ H => ∃ ρ o, Rep K H σ ρ ∧ f ρ = some o ∧ OutOk K H D o
def tG (K : PySem.W.Frag) (vs : List Nat) (f : DG) : TG := fun v σ H Q => ∃ ρ d ρ', Rep K H σ ρ ∧ Dp K H v d ∧ f d ρ = some ρ' ∧ ∀ σ' H', Same H H' → Rep K H' σ' ρ' → SOff vs σ σ' → Q σ' H'
def tGs (K : PySem.W.Frag) (vs : List Nat) (f : DGs) : TGs := fun xs σ H Q => ∃ ρ ds ρ', Rep K H σ ρ ∧ DpAll K H xs ds ∧ f ds ρ = some ρ' ∧ ∀ σ' H', Same H H' → Rep K H' σ' ρ' → SOff vs σ σ' → Q σ' H'
theorem OutOk.mono {K : PySem.W.Frag} {H H' : Hp} {D : Ends} (s : Same H H') : ∀ {o : DOut}, OutOk K H D o → OutOk K H' D o
  | .nx _, h => fun σ1 H1 s1 r => h σ1 H1 (s.trans s1) r
  | .rt _, h => fun v H1 s1 r => h v H1 (s.trans s1) r
section
variable {X : Cx}
theorem pe_never {e : Expr} : PE X e (fun _ _ _ => False) := ⟨fun _ _ _ _ _ _ h => h.elim⟩
/-- the judgements -/
abbrev PD (X : Cx) (e : Expr) (f : DE) : Prop := PE X e (tE X.K f)
abbrev PDT (X : Cx) (e : Expr) (f : DT) : Prop := PT X e (tT X.K f)
abbrev PDW (X : Cx) (e : Expr) (f : DT) : Prop := PW X e (tT X.K f)
structure PDA (X : Cx) (es : List Expr) (f : DA) : Prop where
  pa : PA X es (tA X.K f)
  len : ∀ ρ ds, f ρ = some ds → ds.length = es.length
abbrev PDS (X : Cx) (st : Stmt) (f : DB) : Prop := PS X st (tS X.K f)
abbrev PDSs (X : Cx) (sts : List Stmt) (f : DB) : Prop := PSs X sts (tS X.K f)
abbrev PDG (X : Cx) (vs : List Nat) (e : Expr) (f : DG) : Prop := PG X e (tG X.K vs f)
structure PDGs (X : Cx) (vs : List Nat) (es : List Expr) (f : DGs) : Prop where
  pg : PGs X es (tGs X.K vs f)
  len : ∀ ρ ds ρ', f ds ρ = some ρ' → ds.length = es.length
/-! #### names, constants -/
@[simp] def eVar (i : Nat) : DE := fun ρ => match ρ[i]? with
  | some (some (.dat d)) => some d
  | _ => none
@[simp] def eC (d : PyData) : DE := fun _ => some d
@[simp] def eNever : DE := fun _ => none
theorem eVar_some {i : Nat} {ρ : DS} {d : PyData} (h : eVar i ρ = some d) : ρ[i]? = some (some (.dat d)) := by
  unfold eVar at h
  split at h
  · cases h; assumption
  · cases h
variable {a b c e : Expr} {es : List Expr} {f g h : DE} {pos : Pos}
theorem pd_of {i : Nat} (h : PE X e (tVar i)) : PD X e (eVar i) := h.imp fun σ H Q ⟨ρ, d, r, q, k⟩ => by
  obtain ⟨v, hv, dp⟩ := r.at_ i _ (eVar_some q)
  exact ⟨v, hv, k v H (Same.refl _) dp⟩
theorem pdv (i : Nat) {x : Str} (hN : X.N[i]? = some x := by rfl) (hv : Vis X.env.scope x := by first | exact Or.inl rfl | exact Or.inr (Or.inl rfl) | exact Or.inr (Or.inr rfl)) (hd : (x == ("__debug__" : Str)) = false := by decide)
    (hcd : (x == ("__classdict__" : Str)) = false := by decide) : PD X (.Name x pos) (eVar i) := pd_of (pe_var hN hv hd hcd)
theorem pd_c {v : V} {d : PyData} (h : PE X e (tC v)) (hd : ∀ H, Dp X.K H v d) : PD X e (eC d) := h.imp fun σ H Q ⟨ρ, d', r, q, k⟩ => by
  cases q
  exact k v H (Same.refl _) (hd H)
theorem pd_int {i j} : PD X (.Constant (.int i) j pos) (eC (.int i)) := pd_c pe_int fun _ => .int _
theorem pd_bl {b j} : PD X (.Constant (.bool b) j pos) (eC (.bool b)) := pd_c pe_bl fun _ => .bl _
theorem pd_non {j} : PD X (.Constant .none j pos) (eC .none) := pd_c pe_non fun _ => .non
theorem pd_str {x j} : PD X (.Constant (.str x) j pos) (eC (.str x)) := pd_c pe_str fun _ => .str _
theorem pd_never : PD X e eNever := pe_never.imp fun σ H Q ⟨_, _, _, q, _⟩ => nomatch q
/-- a module's constant -/
structure GlobD (K : PySem.W.Frag) (mg : Str → Option Value) (x : Str) (d : PyData) : Prop where
  ex : ∃ (u : Value) (v : V), mg x = some u ∧ RelV v u ∧ ∀ H, Dp K H v d
theorem pd_glob {x : Str} {d : PyData} (G : GlobD X.K X.mg x d) (hg : Gl X x := by rfl) (hd : (x == ("__debug__" : Str)) = false := by decide) : PD X (.Name x pos) (eC d) := by
  obtain ⟨u, v, h1, h2, h3⟩ := G.ex
  exact pd_c (pe_glob hg h1 h2 hd) h3
/-! #### operators -/
@[simp] def eBin (F : PyData → PyData → Option PyData) (f g : DE) : DE := fun ρ => match f ρ, g ρ with
  | some d, some e => F d e
  | _, _ => none
theorem eBin_some {F : PyData → PyData → Option PyData} {ρ : DS} {z : PyData} (q : eBin F f g ρ = some z) : ∃ d e, f ρ = some d ∧ g ρ = some e ∧ F d e = some z := by
  unfold eBin at q
  split at q
  · exact ⟨_, _, by assumption, by assumption, q⟩
  · cases q
/-- a rule by values gives what F says -/
def ROk (K : PySem.W.Frag) (r : R2) (F : PyData → PyData → Option PyData) : Prop := ∀ (x y : V) (H : Hp) (Q : VK) (d e z : PyData), Dp K H x d → Dp K H y e → F d e = some z → (∀ v H', Same H H' → Dp K H' v z → Q v H') → r x y H Q
theorem tOp_ok {r : R2} {F : PyData → PyData → Option PyData} (hr : ROk X.K r F) {σ : St} {H : Hp} {Q : VK} (q : tE X.K (eBin F f g) σ H Q) : tOp r (tE X.K f) (tE X.K g) σ H Q := by
  obtain ⟨ρ, z, rp, q, k⟩ := q
  obtain ⟨d, e, h1, h2, h3⟩ := eBin_some q
  exact ⟨ρ, d, rp, h1, fun x H1 s1 dx => ⟨ρ, e, rp.mono s1, h2, fun y H2 s2 dy => hr x y H2 Q d e z (Dp.mono s2 _ _ dx) dy h3 fun v H' s3 dv => k v H' ((s1.trans s2).trans s3) dv⟩⟩
theorem pd_bin {op : Operator} {r : R2} {F : PyData → PyData → Option PyData} (ho : OpR X (binaryOp op) r) (hr : ROk X.K r F) (ha : PD X a f) (hb : PD X b g) : PD X (.BinOp a op b pos) (eBin F f g) :=
  (pe_op ho ha hb).imp fun σ H Q q => tOp_ok hr q
@[simp] def fI (p : Int → Int → Option Int) : PyData → PyData → Option PyData
  | .int i, .int j => (p i j).map .int
  | _, _ => none
theorem rok_int {K : PySem.W.Frag} {C : Int → Int → Prop} {g : Int → Int → Int} {p : Int → Int → Option Int} (h : ∀ i j z, p i j = some z → C i j ∧ g i j = z) : ROk K (rI C fun i j => .int (g i j)) (fI p) := by
  intro x y H Q d e z dx dy q k
  cases d <;> cases e <;> simp only [fI] at q <;> try (cases q; done)
  cases dx; cases dy
  rename_i i j
  obtain ⟨w, hw, e⟩ := Option.map_eq_some_iff.mp q
  subst e
  obtain ⟨c, e⟩ := h i j w hw
  subst e
  exact ⟨i, j, rfl, rfl, c, k _ _ (Same.refl _) (.int _)⟩
theorem rok_int0 {K : PySem.W.Frag} {g : Int → Int → Int} : ROk K (rI0 fun i j => .int (g i j)) (fI fun i j => some (g i j)) := by
  intro x y H Q d e z dx dy q k
  cases d <;> cases e <;> simp only [fI] at q <;> try (cases q; done)
  cases dx; cases dy
  cases q
  exact ⟨_, _, rfl, rfl, k _ _ (Same.refl _) (.int _)⟩
@[simp] def fAdd : PyData → PyData → Option PyData
  | .int i, .int j => some (.int (i + j))
  | .tuple xs, .tuple ys => if xs.length + ys.length ≤ 10000 then some (.tuple (xs ++ ys)) else none
  | _, _ => none
@[simp] def fSub := fI fun i j => some (i - j)
def fMul := fI fun i j => if -(2 ^ 64) < i ∧ i < 2 ^ 64 then some (i * j) else none
@[simp] def fDiv := fI fun i j => if 0 < j ∧ j < 1073741824 then some (i / j) else none
@[simp] def fOr := fI fun i j => some (Builtin.bitOr i j)
abbrev eAdd := eBin fAdd
abbrev eSub := eBin fSub
abbrev eMul := eBin fMul
abbrev eDiv := eBin fDiv
abbrev eOr := eBin fOr
theorem line10 {n : Nat} (h : n ≤ 10000) : n ≤ sizeLine := Nat.le_trans h (by rw [sizeLine_eq]; decide)
theorem rok_add {K : PySem.W.Frag} : ROk K (fun x y H Q => (rI0 (fun i j => .int (i + j)) x y H Q) ∨ rCatA K x y H Q) fAdd := by
  intro x y H Q d e z dx dy q k
  cases d <;> cases e <;> simp only [fAdd] at q <;> try (cases q; done)
  · cases dx; cases dy
    cases q
    exact .inl ⟨_, _, rfl, rfl, k _ _ (Same.refl _) (.int _)⟩
  · rename_i xs ys
    cases dx with
    | tup hx ax =>
      cases dy with
      | tup hy ay =>
        rename_i a vs b ws
        by_cases hz : xs.length + ys.length ≤ 10000
        · rw [if_pos hz] at q
          cases q
          have l1 := ax.len
          have l2 := ay.len
          refine .inr ⟨a, b, vs, ws, rfl, rfl, hx, hy, line10 (by omega), fun e => ?_, fun _ e => ?_, fun _ _ p hp => ?_⟩
          · subst e
            cases ax
            exact k _ _ (Same.refl _) (.tup hy ay)
          · subst e
            cases ay
            exact k _ _ (Same.refl _) (.tup hx (by simpa using ax))
          · have s : Same H (upd H p (.tup (vs ++ ws))) := fun c o e => by rw [upd_ne (ne_of_none e hp)]; exact e
            exact k _ _ s (.tup (SqT.of upd_same) (DpAll.mono s _ _ (ax.append ay)))
        · rw [if_neg hz] at q; cases q
theorem pd_add (ha : PD X a f) (hb : PD X b g) : PD X (.BinOp a .Add b pos) (eAdd f g) := pd_bin (op_add.or op_catA) rok_add ha hb
theorem pd_sub (ha : PD X a f) (hb : PD X b g) : PD X (.BinOp a .Sub b pos) (eSub f g) := pd_bin op_sub rok_int0 ha hb
theorem pd_mul (ha : PD X a f) (hb : PD X b g) : PD X (.BinOp a .Mult b pos) (eMul f g) := pd_bin op_mul (rok_int fun i j z e => by
  by_cases h : -(2 ^ 64) < i ∧ i < 2 ^ 64
  · rw [if_pos h] at e; cases e; exact ⟨.inl h, rfl⟩
  · rw [if_neg h] at e; cases e) ha hb
theorem pd_div (ha : PD X a f) (hb : PD X b g) : PD X (.BinOp a .FloorDiv b pos) (eDiv f g) := pd_bin op_fdiv (rok_int fun i j z e => by
  by_cases h : 0 < j ∧ j < 1073741824
  · rw [if_pos h] at e; cases e; exact ⟨h, rfl⟩
  · rw [if_neg h] at e; cases e) ha hb
theorem pd_or_ (ha : PD X a f) (hb : PD X b g) : PD X (.BinOp a .BitOr b pos) (eOr f g) := pd_bin op_or rok_int0 ha hb
end
end KW
/-! DLb: comparisons, truth, calls, built-ins -/
namespace KW
open PySem PySem.Spec L2
section
variable {X : Cx} {a b c e : Expr} {es : List Expr} {f g h : DE} {pos : Pos}
/-! #### comparisons -/
@[simp] def eCmp (F : PyData → PyData → Option Bool) (f g : DE) : DE := fun ρ => match f ρ, g ρ with
  | some d, some e => (F d e).map .bool
  | _, _ => none
@[simp] def cCmp (F : PyData → PyData → Option Bool) (f g : DE) : DT := fun ρ => match f ρ, g ρ with
  | some d, some e => F d e
  | _, _ => none
theorem eCmp_some {F : PyData → PyData → Option Bool} {ρ : DS} {z : PyData} (q : eCmp F f g ρ = some z) : ∃ d e b, f ρ = some d ∧ g ρ = some e ∧ F d e = some b ∧ z = .bool b := by
  unfold eCmp at q
  split at q
  · obtain ⟨b, h1, h2⟩ := Option.map_eq_some_iff.mp q
    exact ⟨_, _, b, by assumption, by assumption, h1, h2.symm⟩
  · cases q
theorem cCmp_some {F : PyData → PyData → Option Bool} {ρ : DS} {z : Bool} (q : cCmp F f g ρ = some z) : ∃ d e, f ρ = some d ∧ g ρ = some e ∧ F d e = some z := by
  unfold cCmp at q
  split at q
  · exact ⟨_, _, by assumption, by assumption, q⟩
  · cases q
def ROkB (K : PySem.W.Frag) (r : R2) (F : PyData → PyData → Option Bool) : Prop := ∀ (x y : V) (H : Hp) (Q : VK) (d e : PyData) (z : Bool), Dp K H x d → Dp K H y e → F d e = some z → Q (.bl z) H → r x y H Q
theorem pd_cmp {op : CmpOp} {r : R2} {F : PyData → PyData → Option Bool} (ho : OpR X (compareOp op) r) (hr : ROkB X.K r F) (ha : PD X a f) (hb : PD X b g) (hm : behindInMarks op b = false) : PD X (.Compare a [op] [b] pos) (eCmp F f g) :=
  (pe_cmpR ho ha hb hm).imp fun σ H Q ⟨ρ, z, rp, q, k⟩ => by
    obtain ⟨d, e, bb, h1, h2, h3, rfl⟩ := eCmp_some q
    exact ⟨ρ, d, rp, h1, fun x H1 s1 dx => ⟨ρ, e, rp.mono s1, h2, fun y H2 s2 dy => hr x y H2 Q d e bb (Dp.mono s2 _ _ dx) dy h3 (k _ _ (s1.trans s2) (.bl _))⟩⟩
theorem pt_cmp_ {op : CmpOp} {r : R2} {F : PyData → PyData → Option Bool} (ho : OpR X (compareOp op) r) (hr : ROkB X.K r F) (ha : PD X a f) (hb : PD X b g) (hm : behindInMarks op b = false) : PDT X (.Compare a [op] [b] pos) (cCmp F f g) :=
  (pt_cmpR ho ha hb hm).imp fun σ H Q ⟨ρ, z, rp, q, k⟩ => by
    obtain ⟨d, e, h1, h2, h3⟩ := cCmp_some q
    exact ⟨ρ, d, rp, h1, fun x H1 s1 dx => ⟨ρ, e, rp.mono s1, h2, fun y H2 s2 dy => hr x y H2 _ d e z (Dp.mono s2 _ _ dx) dy h3 ⟨z, rfl, k _ (s1.trans s2)⟩⟩⟩
@[simp] def iLt : PyData → PyData → Option Bool | .int i, .int j => some (decide (i < j)) | _, _ => none
@[simp] def iLe : PyData → PyData → Option Bool | .int i, .int j => some (decide (i ≤ j)) | _, _ => none
@[simp] def iGt : PyData → PyData → Option Bool | .int i, .int j => some (decide (j < i)) | _, _ => none
@[simp] def iGe : PyData → PyData → Option Bool | .int i, .int j => some (decide (j ≤ i)) | _, _ => none
def dEq (d e : PyData) : Option Bool := if (SeqAt.shaped d && SeqAt.shaped e) = true then some (PyData.eqv d e) else none
def dNe (d e : PyData) : Option Bool := if (SeqAt.shaped d && SeqAt.shaped e) = true then some (!PyData.eqv d e) else none
@[simp] def dIsN (d e : PyData) : Option Bool := match e with
  | .none => some (match d with | .none => true | _ => false)
  | _ => none
@[simp] def dNotN (d e : PyData) : Option Bool := match e with
  | .none => some (match d with | .none => false | _ => true)
  | _ => none
theorem rok_lt {K : PySem.W.Frag} : ROkB K (rI0 fun i j => .bl (decide (i < j))) iLt := by
  intro x y H Q d e z dx dy q k
  cases d <;> cases e <;> simp only [iLt] at q <;> try (cases q; done)
  cases dx; cases dy; cases q
  exact ⟨_, _, rfl, rfl, k⟩
theorem rok_le {K : PySem.W.Frag} : ROkB K (rI0 fun i j => .bl (decide (i ≤ j))) iLe := by
  intro x y H Q d e z dx dy q k
  cases d <;> cases e <;> simp only [iLe] at q <;> try (cases q; done)
  cases dx; cases dy; cases q
  exact ⟨_, _, rfl, rfl, k⟩
theorem rok_gt {K : PySem.W.Frag} : ROkB K (rI0 fun i j => .bl (decide (j < i))) iGt := by
  intro x y H Q d e z dx dy q k
  cases d <;> cases e <;> simp only [iGt] at q <;> try (cases q; done)
  cases dx; cases dy; cases q
  exact ⟨_, _, rfl, rfl, k⟩
theorem rok_ge {K : PySem.W.Frag} : ROkB K (rI0 fun i j => .bl (decide (j ≤ i))) iGe := by
  intro x y H Q d e z dx dy q k
  cases d <;> cases e <;> simp only [iGe] at q <;> try (cases q; done)
  cases dx; cases dy; cases q
  exact ⟨_, _, rfl, rfl, k⟩
theorem rok_eq {K : PySem.W.Frag} : ROkB K (rEqD K) dEq := by
  intro x y H Q d e z dx dy q k
  unfold dEq at q
  by_cases hs : (SeqAt.shaped d && SeqAt.shaped e) = true
  · rw [if_pos hs] at q
    cases q
    obtain ⟨s1, s2⟩ := Bool.and_eq_true_iff.mp hs
    exact ⟨d, e, dx, dy, s1, s2, k⟩
  · rw [if_neg hs] at q; cases q
theorem rok_ne {K : PySem.W.Frag} : ROkB K (rNeD K) dNe := by
  intro x y H Q d e z dx dy q k
  unfold dNe at q
  by_cases hs : (SeqAt.shaped d && SeqAt.shaped e) = true
  · rw [if_pos hs] at q
    cases q
    obtain ⟨s1, s2⟩ := Bool.and_eq_true_iff.mp hs
    exact ⟨d, e, dx, dy, s1, s2, k⟩
  · rw [if_neg hs] at q; cases q
theorem rok_isN {K : PySem.W.Frag} : ROkB K (fun x y H Q => y = .non ∧ Q (.bl (decide (x = .non))) H) dIsN := by
  intro x y H Q d e z dx dy q k
  cases e <;> simp only [dIsN] at q <;> try (cases q; done)
  cases dy
  refine ⟨rfl, ?_⟩
  cases q
  cases d <;> cases dx <;> exact k
theorem rok_notN {K : PySem.W.Frag} : ROkB K (fun x y H Q => y = .non ∧ Q (.bl (!decide (x = .non))) H) dNotN := by
  intro x y H Q d e z dx dy q k
  cases e <;> simp only [dNotN] at q <;> try (cases q; done)
  cases dy
  refine ⟨rfl, ?_⟩
  cases q
  cases d <;> cases dx <;> exact k
abbrev eLt := eCmp iLt
abbrev eLe := eCmp iLe
abbrev eGt := eCmp iGt
abbrev eGe := eCmp iGe
abbrev eEq := eCmp dEq
abbrev eNe := eCmp dNe
abbrev eIsN := eCmp dIsN
abbrev eNotN := eCmp dNotN
abbrev cLt := cCmp iLt
abbrev cLe := cCmp iLe
abbrev cGt := cCmp iGt
abbrev cGe := cCmp iGe
abbrev cEq := cCmp dEq
abbrev cNe := cCmp dNe
abbrev cIsN := cCmp dIsN
abbrev cNotN := cCmp dNotN
theorem pd_lt (ha : PD X a f) (hb : PD X b g) : PD X (.Compare a [.Lt] [b] pos) (eLt f g) := pd_cmp op_lt rok_lt ha hb (nomark _)
theorem pd_le (ha : PD X a f) (hb : PD X b g) : PD X (.Compare a [.LtE] [b] pos) (eLe f g) := pd_cmp op_le rok_le ha hb (nomark _)
theorem pd_gt (ha : PD X a f) (hb : PD X b g) : PD X (.Compare a [.Gt] [b] pos) (eGt f g) := pd_cmp op_gt rok_gt ha hb (nomark _)
theorem pd_ge (ha : PD X a f) (hb : PD X b g) : PD X (.Compare a [.GtE] [b] pos) (eGe f g) := pd_cmp op_ge rok_ge ha hb (nomark _)
theorem pd_eq (hu : X.A.units + 64 < cLine) (ha : PD X a f) (hb : PD X b g) : PD X (.Compare a [.Eq] [b] pos) (eEq f g) := pd_cmp (op_eqD hu) rok_eq ha hb (nomark _)
theorem pd_ne (hu : X.A.units + 64 < cLine) (ha : PD X a f) (hb : PD X b g) : PD X (.Compare a [.NotEq] [b] pos) (eNe f g) := pd_cmp (op_neD hu) rok_ne ha hb (nomark _)
theorem pd_isN (ha : PD X a f) (hb : PD X b g) : PD X (.Compare a [.Is] [b] pos) (eIsN f g) := pd_cmp op_isN rok_isN ha hb (nomark _)
theorem pd_notN (ha : PD X a f) (hb : PD X b g) : PD X (.Compare a [.IsNot] [b] pos) (eNotN f g) := pd_cmp op_notN rok_notN ha hb (nomark _)
theorem pdt_lt (ha : PD X a f) (hb : PD X b g) : PDT X (.Compare a [.Lt] [b] pos) (cLt f g) := pt_cmp_ op_lt rok_lt ha hb (nomark _)
theorem pdt_le (ha : PD X a f) (hb : PD X b g) : PDT X (.Compare a [.LtE] [b] pos) (cLe f g) := pt_cmp_ op_le rok_le ha hb (nomark _)
theorem pdt_gt (ha : PD X a f) (hb : PD X b g) : PDT X (.Compare a [.Gt] [b] pos) (cGt f g) := pt_cmp_ op_gt rok_gt ha hb (nomark _)
theorem pdt_ge (ha : PD X a f) (hb : PD X b g) : PDT X (.Compare a [.GtE] [b] pos) (cGe f g) := pt_cmp_ op_ge rok_ge ha hb (nomark _)
theorem pdt_eq (hu : X.A.units + 64 < cLine) (ha : PD X a f) (hb : PD X b g) : PDT X (.Compare a [.Eq] [b] pos) (cEq f g) := pt_cmp_ (op_eqD hu) rok_eq ha hb (nomark _)
theorem pdt_ne (hu : X.A.units + 64 < cLine) (ha : PD X a f) (hb : PD X b g) : PDT X (.Compare a [.NotEq] [b] pos) (cNe f g) := pt_cmp_ (op_neD hu) rok_ne ha hb (nomark _)
theorem pdt_isN (ha : PD X a f) (hb : PD X b g) : PDT X (.Compare a [.Is] [b] pos) (cIsN f g) := pt_cmp_ op_isN rok_isN ha hb (nomark _)
theorem pdt_notN (ha : PD X a f) (hb : PD X b g) : PDT X (.Compare a [.IsNot] [b] pos) (cNotN f g) := pt_cmp_ op_notN rok_notN ha hb (nomark _)
/-- a <= b <= c -/
@[simp] def eChain (f g h : DE) : DE := fun ρ => match f ρ, g ρ with
  | some d, some e => (match iLe d e with
    | some true => (match h ρ with
      | some w => (iLe e w).map .bool
      | none => none)
    | some false => some (.bool false)
    | none => none)
  | _, _ => none
@[simp] def cVal (f : DE) : DT := fun ρ => match f ρ with
  | some (.bool b) => some b
  | _ => none
theorem cVal_some {ρ : DS} {b : Bool} (q : cVal f ρ = some b) : f ρ = some (.bool b) := by
  unfold cVal at q
  split at q
  · cases q; assumption
  · cases q
theorem eChain_ok {ρ : DS} {z : PyData} (q : eChain f g h ρ = some z) : ∃ i j, f ρ = some (.int i) ∧ g ρ = some (.int j) ∧ ((decide (i ≤ j) = true ∧ ∃ w, h ρ = some (.int w) ∧ z = .bool (decide (j ≤ w))) ∨ (decide (i ≤ j) = false ∧ z = .bool false)) := by
  unfold eChain at q
  split at q
  · rename_i d e h1 h2
    cases d <;> cases e <;> simp only [iLe] at q <;> try (cases q; done)
    rename_i i j
    refine ⟨i, j, h1, h2, ?_⟩
    cases hd : decide (i ≤ j) with
    | true =>
      rw [hd] at q
      simp only at q
      split at q
      · rename_i w hw
        cases w <;> simp only [iLe, Option.map_some, Option.map_none] at q <;> try (cases q; done)
        cases q
        exact .inl ⟨rfl, _, hw, rfl⟩
      · cases q
    | false =>
      rw [hd] at q
      simp only at q
      cases q
      exact .inr ⟨rfl, rfl⟩
  · cases q
theorem pd_chain (ha : PD X a f) (hb : PD X b g) (hc : PD X c h) (hm : lastMarks [.LtE, .LtE] [b, c] = false := by with_unfolding_all rfl) : PD X (.Compare a [.LtE, .LtE] [b, c] pos) (eChain f g h) :=
  (pe_chain op_le op_le ha hb hc hm).imp fun σ H Q ⟨ρ, z, rp, q, k⟩ => by
    obtain ⟨i, j, h1, h2, h3⟩ := eChain_ok q
    refine ⟨ρ, _, rp, h1, fun x H1 s1 dx => ⟨ρ, _, rp.mono s1, h2, fun y H2 s2 dy => ?_⟩⟩
    cases dx; cases dy
    refine ⟨i, j, rfl, rfl, _, rfl, ?_⟩
    rcases h3 with ⟨hd, w, hw, rfl⟩ | ⟨hd, rfl⟩
    · rw [hd]
      refine iteT ⟨ρ, _, rp.mono (s1.trans s2), hw, fun y H3 s3 dw => ?_⟩
      cases dw
      exact ⟨_, _, rfl, rfl, k _ _ ((s1.trans s2).trans s3) (.bl _)⟩
    · rw [hd]
      exact iteF (k _ _ (s1.trans s2) (.bl _))
/-! #### truth -/
theorem pdt_val (ha : PD X e f) (he : ∀ whole, isTrue e X.env whole = (do let v ← whole; standAt e.pos; holding [v] (truthy v)) := by intro _; rfl) : PDT X e (cVal f) :=
  (pt_val ha he).imp fun σ H Q ⟨ρ, b, rp, q, k⟩ => ⟨ρ, _, rp, cVal_some q, fun v H' s d => by cases d; exact ⟨b, rfl, k H' s⟩⟩
/-- a chain as a test -/
theorem pdt_chain (ha : PD X a f) (hb : PD X b g) (hc : PD X c h) (hm : lastMarks [.LtE, .LtE] [b, c] = false := by with_unfolding_all rfl) : PDT X (.Compare a [.LtE, .LtE] [b, c] pos) (cVal (eChain f g h)) :=
  (pt_chain op_le op_le ha hb hc hm).imp fun σ H Q ⟨ρ, z, rp, q, k⟩ => by
    obtain ⟨i, j, h1, h2, h3⟩ := eChain_ok (cVal_some q)
    refine ⟨ρ, _, rp, h1, fun x H1 s1 dx => ⟨ρ, _, rp.mono s1, h2, fun y H2 s2 dy => ?_⟩⟩
    cases dx; cases dy
    refine ⟨i, j, rfl, rfl, _, rfl, ?_⟩
    rcases h3 with ⟨hd, w, hw, e⟩ | ⟨hd, e⟩
    · cases e
      rw [hd]
      refine iteT ⟨ρ, _, rp.mono (s1.trans s2), hw, fun y H3 s3 dw => ?_⟩
      cases dw
      exact ⟨_, _, rfl, rfl, _, rfl, k _ ((s1.trans s2).trans s3)⟩
    · cases e
      rw [hd]
      exact iteF ⟨_, rfl, k _ (s1.trans s2)⟩
variable {p q : DT} {rest : List Expr}
@[simp] def cAnd (p q : DT) : DT := fun ρ => match p ρ with
  | some true => q ρ
  | some false => some false
  | none => none
@[simp] def cOr (p q : DT) : DT := fun ρ => match p ρ with
  | some true => some true
  | some false => q ρ
  | none => none
@[simp] def cNot (p : DT) : DT := fun ρ => (p ρ).map (!·)
theorem pdw_and1 (ha : PDT X a p) : PDW X (.BoolOp .And [a] pos) p := pw_and1 ha
theorem pdw_or1 (ha : PDT X a p) : PDW X (.BoolOp .Or [a] pos) p := pw_or1 ha
theorem pdw_and (ha : PDT X a p) (hb : PDW X (.BoolOp .And (b :: rest) pos) q) : PDW X (.BoolOp .And (a :: b :: rest) pos) (cAnd p q) :=
  (pw_and ha hb).imp fun σ H Q ⟨ρ, z, rp, e, k⟩ => by
    unfold cAnd at e
    split at e
    · exact ⟨ρ, _, rp, by assumption, fun H1 s1 => iteT ⟨ρ, _, rp.mono s1, e, fun H2 s2 => k H2 (s1.trans s2)⟩⟩
    · cases e
      exact ⟨ρ, _, rp, by assumption, fun H1 s1 => iteF (k H1 s1)⟩
    · cases e
theorem pdw_or (ha : PDT X a p) (hb : PDW X (.BoolOp .Or (b :: rest) pos) q) : PDW X (.BoolOp .Or (a :: b :: rest) pos) (cOr p q) :=
  (pw_or ha hb).imp fun σ H Q ⟨ρ, z, rp, e, k⟩ => by
    unfold cOr at e
    split at e
    · cases e
      exact ⟨ρ, _, rp, by assumption, fun H1 s1 => iteT (k H1 s1)⟩
    · exact ⟨ρ, _, rp, by assumption, fun H1 s1 => iteF ⟨ρ, _, rp.mono s1, e, fun H2 s2 => k H2 (s1.trans s2)⟩⟩
    · cases e
theorem pdt_w (h : PDW X a p) : PDT X a p := PW.pt h
theorem pdt_not (ha : PDT X a p) : PDT X (.UnaryOp .Not a pos) (cNot p) :=
  (pt_not ha).imp fun σ H Q ⟨ρ, z, rp, e, k⟩ => by
    obtain ⟨b, h1, h2⟩ := Option.map_eq_some_iff.mp e
    subst h2
    exact ⟨ρ, b, rp, h1, fun H1 s1 => k H1 s1⟩
/-! .. as values -/
@[simp] def eAnd (f g : DE) : DE := fun ρ => match f ρ with
  | some (.bool true) => g ρ
  | some (.bool false) => some (.bool false)
  | _ => none
@[simp] def eOrV (f g : DE) : DE := fun ρ => match f ρ with
  | some (.bool true) => some (.bool true)
  | some (.bool false) => g ρ
  | _ => none
@[simp] def eNot (f : DE) : DE := fun ρ => match f ρ with
  | some (.bool b) => some (.bool (!b))
  | _ => none
theorem pd_one {op} (h : PD X a f) : PD X (.BoolOp op [a] pos) f := pe_one h
theorem pd_and (ha : PD X a f) (hb : PD X (.BoolOp .And (b :: rest) pos) g) : PD X (.BoolOp .And (a :: b :: rest) pos) (eAnd f g) :=
  (pe_and ha hb).imp fun σ H Q ⟨ρ, z, rp, e, k⟩ => by
    unfold eAnd at e
    split at e
    · exact ⟨ρ, _, rp, by assumption, fun v H1 s1 d => by cases d; exact ⟨_, rfl, iteT ⟨ρ, _, rp.mono s1, e, fun v H2 s2 d => k v H2 (s1.trans s2) d⟩⟩⟩
    · cases e
      exact ⟨ρ, _, rp, by assumption, fun v H1 s1 d => by cases d; exact ⟨_, rfl, iteF (k _ H1 s1 (.bl _))⟩⟩
    · cases e
theorem pd_or (ha : PD X a f) (hb : PD X (.BoolOp .Or (b :: rest) pos) g) : PD X (.BoolOp .Or (a :: b :: rest) pos) (eOrV f g) :=
  (pe_or ha hb).imp fun σ H Q ⟨ρ, z, rp, e, k⟩ => by
    unfold eOrV at e
    split at e
    · cases e
      exact ⟨ρ, _, rp, by assumption, fun v H1 s1 d => by cases d; exact ⟨_, rfl, iteT (k _ H1 s1 (.bl _))⟩⟩
    · exact ⟨ρ, _, rp, by assumption, fun v H1 s1 d => by cases d; exact ⟨_, rfl, iteF ⟨ρ, _, rp.mono s1, e, fun v H2 s2 d => k v H2 (s1.trans s2) d⟩⟩⟩
    · cases e
theorem pd_not (ha : PD X a f) : PD X (.UnaryOp .Not a pos) (eNot f) :=
  (pe_not ha).imp fun σ H Q ⟨ρ, z, rp, e, k⟩ => by
    unfold eNot at e
    split at e
    · cases e
      exact ⟨ρ, _, rp, by assumption, fun v H1 s1 d => by cases d; exact ⟨_, rfl, k _ H1 s1 (.bl _)⟩⟩
    · cases e
@[simp] def eIf (p : DT) (f g : DE) : DE := fun ρ => match p ρ with
  | some true => f ρ
  | some false => g ρ
  | none => none
theorem pd_if (hc : PDT X c p) (ha : PD X a f) (hb : PD X b g) : PD X (.IfExp c a b pos) (eIf p f g) :=
  (pe_ifExp hc ha hb).imp fun σ H Q ⟨ρ, z, rp, e, k⟩ => by
    unfold eIf at e
    split at e
    · exact ⟨ρ, _, rp, by assumption, fun H1 s1 => iteT ⟨ρ, _, rp.mono s1, e, fun v H2 s2 d => k v H2 (s1.trans s2) d⟩⟩
    · exact ⟨ρ, _, rp, by assumption, fun H1 s1 => iteF ⟨ρ, _, rp.mono s1, e, fun v H2 s2 d => k v H2 (s1.trans s2) d⟩⟩
    · cases e
/-! #### tuples, arguments -/
@[simp] def aNil : DA := fun _ => some []
@[simp] def aCons (f : DE) (r : DA) : DA := fun ρ => match f ρ, r ρ with
  | some d, some ds => some (d :: ds)
  | _, _ => none
variable {r : DA}
theorem pda_nil : PDA X [] aNil := ⟨PA.imp pa_nil fun σ H Q ⟨ρ, ds, rp, e, k⟩ => by cases e; exact k [] H (Same.refl _) .nil, fun ρ ds e => by cases e; rfl⟩
theorem pda_cons (ha : PD X e f) (hr : PDA X es r) (hs : starEach (e :: es) X.env = (false, eval e X.env) :: starEach es X.env := by rfl) : PDA X (e :: es) (aCons f r) := by
  refine ⟨PA.imp (pa_cons ha hr.pa hs) fun σ H Q ⟨ρ, ds, rp, q, k⟩ => ?_, fun ρ ds q => ?_⟩
  · unfold aCons at q
    split at q
    · cases q
      exact ⟨ρ, _, rp, by assumption, fun v H1 s1 d1 => ⟨ρ, _, rp.mono s1, by assumption, fun vs H2 s2 d2 => k _ H2 (s1.trans s2) (.cons (Dp.mono s2 _ _ d1) d2)⟩⟩
    · cases q
  · unfold aCons at q
    split at q
    · cases q
      rename_i h1
      simp [hr.len _ _ h1]
    · cases q
@[simp] def eTup (r : DA) : DE := fun ρ => (r ρ).map .tuple
theorem pd_tup {x1} (ha : PDA X es r) (hz : es.length ≤ 1000 := by decide) : PD X (.Tuple es x1 pos) (eTup r) :=
  PE.imp (pe_tup ha.pa) fun σ H Q ⟨ρ, z, rp, e, k⟩ => by
    obtain ⟨ds, h1, h2⟩ := Option.map_eq_some_iff.mp e
    subst h2
    refine ⟨ρ, ds, rp, h1, fun vs H1 s1 d1 => ⟨?_, fun p hp => ?_⟩⟩
    · rw [d1.len, ha.len _ _ h1]
      exact line10 (by omega)
    · have s : Same H1 (upd H1 p (.tup vs)) := fun c o e => by rw [upd_ne (ne_of_none e hp)]; exact e
      exact k _ _ (s1.trans s) (.tup (SqT.of upd_same) (DpAll.mono s _ _ d1))
@[simp] def eLst (r : DA) : DE := fun ρ => (r ρ).map .list
theorem pd_lst (ha : PDA X es r) (hz : es.length ≤ 1000 := by decide) : PD X (.List es pos) (eLst r) :=
  PE.imp (pe_lst ha.pa) fun σ H Q ⟨ρ, z, rp, e, k⟩ => by
    obtain ⟨ds, h1, h2⟩ := Option.map_eq_some_iff.mp e
    subst h2
    refine ⟨ρ, ds, rp, h1, fun vs H1 s1 d1 => ⟨?_, fun p hp => ?_⟩⟩
    · rw [d1.len, ha.len _ _ h1]
      exact line10 (by omega)
    · have s : Same H1 (upd H1 p (.lst vs)) := fun c o e => by rw [upd_ne (ne_of_none e hp)]; exact e
      exact k _ _ (s1.trans s) (.lst (SqL.of upd_same) (DpAll.mono s _ _ d1))
/-! #### items -/
@[simp] def eIx (f : DE) (i : Nat) : DE := fun ρ => match f ρ with
  | some (.tuple ds) => ds[i]?
  | some (.list ds) => ds[i]?
  | _ => none
theorem pd_ix {i : Nat} {j p'} (ha : PD X a f) : PD X (.Subscript a (.Constant (.int (i : Int)) j p') pos) (eIx f i) :=
  (pe_ix ix_seq ha (pe_int (i := (i : Int))) (fun _ _ => rfl)).imp fun σ H Q ⟨ρ, z, rp, e, k⟩ => by
    unfold eIx at e
    split at e
    · rename_i ds h1
      refine ⟨ρ, _, rp, h1, fun v H1 s1 d1 => ?_⟩
      cases d1 with
      | tup hq ha =>
        obtain ⟨w, hw, dw⟩ := ha.get e
        exact .inr (.inl ⟨_, _, _, w, rfl, rfl, hq, atI_nat hw, k w H1 s1 dw⟩)
    · rename_i ds h1
      refine ⟨ρ, _, rp, h1, fun v H1 s1 d1 => ?_⟩
      cases d1 with
      | lst hq ha =>
        obtain ⟨w, hw, dw⟩ := ha.get e
        exact .inl ⟨_, _, _, w, rfl, rfl, hq, atI_nat hw, k w H1 s1 dw⟩
    · cases e
/-- t[n:] of a tuple -/
@[simp] def eFrom (f : DE) (n : Nat) : DE := fun ρ => match f ρ with
  | some (.tuple ds) => some (.tuple (ds.drop n))
  | _ => none
theorem sIx_n {m n : Nat} : HT.sIx m 0 (some (n : Int)) = min n m := HT.sIx_nat m 0 n
theorem sIx_none {m d : Nat} : HT.sIx m d none = d := rfl
theorem cut_from {xs : List V} {n : Nat} : cutV xs (some (n : Int)) none = xs.drop n := by
  unfold cutV
  rw [sIx_n, sIx_none]
  by_cases h : n ≤ xs.length
  · rw [Nat.min_eq_left h]
    exact List.take_of_length_le (by simp)
  · rw [Nat.min_eq_right (by omega), List.drop_of_length_le (Nat.le_refl _), List.drop_of_length_le (show xs.length ≤ n by omega)]
    simp
theorem pd_from {n : Nat} {j p' p2} (ha : PD X a f) : PD X (.Subscript a (.Slice (some (.Constant (.int (n : Int)) j p')) none none p2) pos) (eFrom f n) :=
  (pe_slice sl_tupA ha (po_some pe_int) po_none).imp fun σ H Q ⟨ρ, z, rp, e, k⟩ => by
    unfold eFrom at e
    split at e
    · rename_i ds h1
      cases e
      refine ⟨ρ, _, rp, h1, fun v H1 s1 d1 => ?_⟩
      cases d1 with
      | tup hq ha =>
        rename_i a' vs
        refine ⟨_, rfl, a', vs, rfl, hq, fun hw => ?_, fun hw p hp => ?_⟩
        · refine k _ _ s1 (.tup hq ?_)
          have : vs.drop n = vs := by
            have h0 := hw.1
            rw [sIx_n] at h0
            by_cases hn : n = 0
            · rw [hn]; rfl
            · have h1 : vs.length = 0 := by omega
              rw [List.length_eq_zero_iff.mp h1]
              exact List.drop_nil
          rw [← this]
          exact ha.drop n
        · have s : Same H1 (upd H1 p (.tup (cutV vs (some (n : Int)) none))) := fun c o e => by rw [upd_ne (ne_of_none e hp)]; exact e
          refine k _ _ (s1.trans s) (.tup (SqT.of upd_same) ?_)
          rw [cut_from]
          rw [cut_from] at s
          exact DpAll.mono s _ _ (ha.drop n)
    · cases e
end
end KW
/-! DLc: calls, built-ins, targets, statements -/
namespace KW
open PySem PySem.Spec L2
/-- the built-in names that the text does not bind -/
structure Blt (mg : Str → Option Value) : Prop where
  isinstance : mg "isinstance" = none
  len : mg "len" = none
  all : mg "all" = none
  zip : mg "zip" = none
  tuple : mg "tuple" = none
  list : mg "list" = none
  int : mg "int" = none
  bool : mg "bool" = none
  str : mg "str" = none
  min : mg "min" = none
  max : mg "max" = none
  divmod : mg "divmod" = none
  enumerate : mg "enumerate" = none
  range : mg "range" = none
  sorted : mg "sorted" = none
  abs : mg "abs" = none
/-- a def's promise by a function of data: it lays new objects alone -/
def spD (K : PySem.W.Frag) (n : Nat) (F : List PyData → Option PyData) : Sp := fun vs H Q _ => ∃ ds d, ds.length = n ∧ DpAll K H vs ds ∧ F ds = some d ∧ ∀ v H', Same H H' → Dp K H' v d → Q v H'
structure DefD (P : Program) (w : World) (K : PySem.W.Frag) (mg : Str → Option Value) (base : Heap) (x : Str) (n k : Nat) (F : List PyData → Option PyData) : Prop where
  ex : ∃ (f : Addr) (fd : FuncData) (ps : List Str), ps.length = n ∧ FnOk P w K mg base CX0 k f fd ps (spD K n F) ∧ mg x = some (.ref f) ∧ PySem.W.keepIn K (.ref f) = true ∧ Binds K fd ps []
section
variable {X : Cx} {a b c e : Expr} {es : List Expr} {f g h : DE} {pos p p2 : Pos} {r : DA} {x : Str} {n k k' : Nat} {F : List PyData → Option PyData}
/-! #### calls -/
@[simp] def eCall (F : List PyData → Option PyData) (r : DA) : DE := fun ρ => (r ρ).bind F
theorem pd_call (C : DefD X.prog X.w X.K X.mg X.base x n k F) (hr : Room k' X.A) (hk : k ≤ k' := by decide) (ha : PDA X (e :: es) r) (hn : n = (e :: es).length := by rfl) (hg : Gl X x := by rfl) (hdb : (x == ("__debug__" : Str)) = false := by decide)
    (he : starEach (e :: es) X.env = (false, eval e X.env) :: starEach es X.env := by rfl) (hpl : (backTo pos (starEach es X.env)).any (·.1) = false := by rfl) : PD X (.Call (.Name x p) (e :: es) [] pos) (eCall F r) := by
  obtain ⟨f, fd, ps, hps, F1, hm, kp, hb⟩ := C.ex
  refine PE.imp (pe_call F1 (hr.mono hk) hg hm kp hb .nil pass0 ha.pa hdb he hpl) fun σ H Q ⟨ρ, z, rp, q, k⟩ => ?_
  obtain ⟨ds, h1, h2⟩ := Option.bind_eq_some_iff.mp q
  refine ⟨ρ, ds, rp, h1, fun vs H1 s1 d1 => ⟨ds, z, ?_, by rw [List.append_nil]; exact d1, h2, fun v H' s2 dv => k v H' (s1.trans s2) dv⟩⟩
  rw [ha.len _ _ h1, hn]
/-! #### built-ins -/
@[simp] def eLen (f : DE) : DE := fun ρ => match f ρ with
  | some (.tuple ds) => some (.int ds.length)
  | some (.list ds) => some (.int ds.length)
  | _ => none
theorem pd_len (T : Blt X.mg) (ha : PD X a f) (hg : Gl X "len" := by rfl) (hs : starEach [a] X.env = (false, eval a X.env) :: starEach [] X.env := by rfl) : PD X (.Call (.Name "len" p) [a] [] pos) (eLen f) :=
  (pe_callB call_len_seq hg T.len PySem.boot_len (pa_cons ha pa_nil hs) (he := hs)).imp fun σ H Q ⟨ρ, z, rp, e, k⟩ => by
    unfold eLen at e
    split at e
    · cases e
      refine ⟨ρ, _, rp, by assumption, fun v H1 s1 d => ?_⟩
      cases d with
      | tup hq ha =>
        refine ⟨_, _, rfl, .inr hq, ?_⟩
        rw [ha.len]
        exact k _ _ s1 (.int _)
    · cases e
      refine ⟨ρ, _, rp, by assumption, fun v H1 s1 d => ?_⟩
      cases d with
      | lst hq ha =>
        refine ⟨_, _, rfl, .inl hq, ?_⟩
        rw [ha.len]
        exact k _ _ s1 (.int _)
    · cases e
/-- isinstance(x, T) for T of int, bool, str, tuple -/
def isi (T : String) : PyData → Option Bool
  | .none => kitB "NoneType" T
  | .bool _ => kitB "bool" T
  | .int _ => kitB "int" T
  | .str _ => kitB "str" T
  | .list _ => kitB "list" T
  | .tuple _ => kitB "tuple" T
  | .dict _ => none
@[simp] def eIsi (T : String) (f : DE) : DE := fun ρ => match f ρ with
  | some d => (isi T d).map .bool
  | none => none
theorem SqT.tyx {K : PySem.W.Frag} {H : Hp} {a : Addr} {xs : List V} (h : SqT K H a xs) : TyX K H (.ref a) (.type "tuple") := by
  rcases h with (h | ⟨o, h⟩) | ⟨o, its, n, h1, h2, _⟩
  · exact .base (.tup h)
  · exact .fTuple h
  · exact .kTuple h1 h2
theorem SqL.tyx {K : PySem.W.Frag} {H : Hp} {a : Addr} {xs : List V} (h : SqL K H a xs) : TyX K H (.ref a) (.type "list") := by
  rcases h with (h | ⟨o, h⟩) | ⟨o, its, n, h1, h2, _⟩
  · exact .base (.lst h)
  · exact .base (.frz h)
  · exact .kList h1 h2
theorem isi_ok {K : PySem.W.Frag} {H : Hp} {T : String} {d : PyData} {v : V} {b : Bool} (h : Dp K H v d) (e : isi T d = some b) : ∃ t, TyX K H v t ∧ PySem.W.kitOne K t (.type T) = some b := by
  cases h with
  | non => exact ⟨_, .base .non, kit_ty e⟩
  | bl b => exact ⟨_, .base (.bl _), kit_ty e⟩
  | int i => exact ⟨_, .base (.int _), kit_ty e⟩
  | str x => exact ⟨_, .base (.str _), kit_ty e⟩
  | lst hs _ => exact ⟨_, SqL.tyx hs, kit_ty e⟩
  | tup hs _ => exact ⟨_, SqT.tyx hs, kit_ty e⟩
theorem pd_isi {ty : Str} (T : String) (B : Blt X.mg) (hm : X.mg ty = none) (ht : bootBuiltins ty = some (.type T)) (ha : PD X a f) (hg : Gl X "isinstance" := by rfl) (hgt : Gl X ty := by rfl) (hn : ty ≠ "__name__" := by decide) (hd : (ty == ("__debug__" : Str)) = false := by decide)
    (hs : starEach [a, .Name ty p2] X.env = (false, eval a X.env) :: starEach [.Name ty p2] X.env := by rfl) (hs2 : starEach [.Name ty p2] X.env = (false, eval (.Name ty p2) X.env) :: starEach [] X.env := by rfl) :
    PD X (.Call (.Name "isinstance" p) [a, .Name ty p2] [] pos) (eIsi T f) :=
  (pe_callB call_isi hg B.isinstance (by decide +kernel) (pa_cons ha (pa_cons (pe_bltn (v := .ty T) hgt hm ht rfl hn hd) pa_nil hs2) hs) (he := hs) (hpl := by rw [hs2]; rfl)).imp fun σ H Q ⟨ρ, z, rp, e, k⟩ => by
    unfold eIsi at e
    split at e
    · obtain ⟨b, h1, h2⟩ := Option.map_eq_some_iff.mp e
      subst h2
      refine ⟨ρ, _, rp, by assumption, fun v H1 s1 d => ?_⟩
      obtain ⟨t, h3, h4⟩ := isi_ok d h1
      exact ⟨_, _, t, _, b, rfl, .ty T, h3, h4, k _ _ s1 (.bl _)⟩
    · cases e
@[simp] def eMin (f g : DE) : DE := eBin (fI fun i j => some (if j < i then j else i)) f g
@[simp] def eMax (f g : DE) : DE := eBin (fI fun i j => some (if j > i then j else i)) f g
theorem fI_some {p : Int → Int → Option Int} {d e z : PyData} (h : fI p d e = some z) : ∃ i j w, d = .int i ∧ e = .int j ∧ p i j = some w ∧ z = .int w := by
  cases d <;> cases e <;> simp only [fI] at h <;> try (cases h; done)
  obtain ⟨w, h1, h2⟩ := Option.map_eq_some_iff.mp h
  exact ⟨_, _, w, rfl, rfl, h1, h2.symm⟩
theorem pd_min (T : Blt X.mg) (ha : PD X a f) (hb : PD X b g) (hc : X.calm = true := by rfl) (hg : Gl X "min" := by rfl) (hs : starEach [a, b] X.env = (false, eval a X.env) :: starEach [b] X.env := by rfl) (hs2 : starEach [b] X.env = (false, eval b X.env) :: starEach [] X.env := by rfl) :
    PD X (.Call (.Name "min" p) [a, b] [] pos) (eMin f g) :=
  (pe_callB (call_min2 hc) hg T.min (by decide +kernel) (pa_cons ha (pa_cons hb pa_nil hs2) hs) (he := hs) (hpl := by rw [hs2]; rfl)).imp fun σ H Q ⟨ρ, z, rp, e, k⟩ => by
    obtain ⟨d, e', h1, h2, h3⟩ := eBin_some e
    obtain ⟨i, j, w, rfl, rfl, h4, rfl⟩ := fI_some h3
    cases h4
    exact ⟨ρ, _, rp, h1, fun v H1 s1 dx => ⟨ρ, _, rp.mono s1, h2, fun v2 H2 s2 dy => by cases dx; cases dy; exact ⟨i, j, rfl, k _ _ (s1.trans s2) (.int _)⟩⟩⟩
theorem pd_max (T : Blt X.mg) (ha : PD X a f) (hb : PD X b g) (hc : X.calm = true := by rfl) (hg : Gl X "max" := by rfl) (hs : starEach [a, b] X.env = (false, eval a X.env) :: starEach [b] X.env := by rfl) (hs2 : starEach [b] X.env = (false, eval b X.env) :: starEach [] X.env := by rfl) :
    PD X (.Call (.Name "max" p) [a, b] [] pos) (eMax f g) :=
  (pe_callB (call_max2 hc) hg T.max (by decide +kernel) (pa_cons ha (pa_cons hb pa_nil hs2) hs) (he := hs) (hpl := by rw [hs2]; rfl)).imp fun σ H Q ⟨ρ, z, rp, e, k⟩ => by
    obtain ⟨d, e', h1, h2, h3⟩ := eBin_some e
    obtain ⟨i, j, w, rfl, rfl, h4, rfl⟩ := fI_some h3
    cases h4
    exact ⟨ρ, _, rp, h1, fun v H1 s1 dx => ⟨ρ, _, rp.mono s1, h2, fun v2 H2 s2 dy => by cases dx; cases dy; exact ⟨i, j, rfl, k _ _ (s1.trans s2) (.int _)⟩⟩⟩
@[simp] def dDivmod : PyData → PyData → Option PyData
  | .int i, .int j => if 0 < j ∧ j < 1073741824 then some (.tuple [.int (i / j), .int (i % j)]) else none
  | _, _ => none
@[simp] def eDivmod (f g : DE) : DE := eBin dDivmod f g
theorem pd_divmod (T : Blt X.mg) (ha : PD X a f) (hb : PD X b g) (hg : Gl X "divmod" := by rfl) (hs : starEach [a, b] X.env = (false, eval a X.env) :: starEach [b] X.env := by rfl) (hs2 : starEach [b] X.env = (false, eval b X.env) :: starEach [] X.env := by rfl) :
    PD X (.Call (.Name "divmod" p) [a, b] [] pos) (eDivmod f g) :=
  (pe_callB call_divmod hg T.divmod (by decide +kernel) (pa_cons ha (pa_cons hb pa_nil hs2) hs) (he := hs) (hpl := by rw [hs2]; rfl)).imp fun σ H Q ⟨ρ, z, rp, e, k⟩ => by
    obtain ⟨d, e', h1, h2, h3⟩ := eBin_some e
    cases d <;> cases e' <;> simp only [dDivmod] at h3 <;> try (cases h3; done)
    rename_i i j
    by_cases hc : 0 < j ∧ j < 1073741824
    · rw [if_pos hc] at h3
      cases h3
      refine ⟨ρ, _, rp, h1, fun v H1 s1 dx => ⟨ρ, _, rp.mono s1, h2, fun v2 H2 s2 dy => ?_⟩⟩
      cases dx; cases dy
      refine ⟨i, j, rfl, hc, fun p hp => ?_⟩
      have s : Same H2 (upd H2 p (.tup [.int (i / j), .int (i % j)])) := fun c o e => by rw [upd_ne (ne_of_none e hp)]; exact e
      exact k _ _ ((s1.trans s2).trans s) (.tup (SqT.of upd_same) (.cons (.int _) (.cons (.int _) .nil)))
    · rw [if_neg hc] at h3; cases h3
/-- tuple(x) -/
@[simp] def eTupOf (f : DE) : DE := fun ρ => match f ρ with
  | some (.tuple ds) => some (.tuple ds)
  | some (.list ds) => some (.tuple ds)
  | _ => none
theorem pd_tupOf (T : Blt X.mg) (ha : PD X a f) (hg : Gl X "tuple" := by rfl) (hs : starEach [a] X.env = (false, eval a X.env) :: starEach [] X.env := by rfl) : PD X (.Call (.Name "tuple" p) [a] [] pos) (eTupOf f) :=
  (pe_callTy call_tuple_of hg T.tuple (by decide +kernel) (pa_cons ha pa_nil hs) (he := hs)).imp fun σ H Q ⟨ρ, z, rp, e, k⟩ => by
    unfold eTupOf at e
    split at e
    · cases e
      refine ⟨ρ, _, rp, by assumption, fun v H1 s1 d => ?_⟩
      cases d with
      | tup hq ha => exact ⟨_, _, rfl, .inr ⟨hq, k _ _ s1 (.tup hq ha)⟩⟩
    · cases e
      refine ⟨ρ, _, rp, by assumption, fun v H1 s1 d => ?_⟩
      cases d with
      | lst hq ha =>
        refine ⟨_, _, rfl, .inl ⟨hq, fun l hl => ?_⟩⟩
        rename_i a' vs
        have s : Same H1 (upd H1 l (.tup vs)) := fun c o e => by rw [upd_ne (ne_of_none e hl)]; exact e
        exact k _ _ (s1.trans s) (.tup (SqT.of upd_same) (DpAll.mono s _ _ ha))
    · cases e
/-- all(x) of a list of truths -/
@[simp] def allB : List PyData → Option Bool
  | [] => some true
  | .bool b :: r => (allB r).map (b && ·)
  | _ :: _ => none
theorem allB_some {K : PySem.W.Frag} {H : Hp} : ∀ {ds : List PyData} {vs : List V} {b : Bool}, allB ds = some b → DpAll K H vs ds → ∃ bs : List Bool, vs = bs.map V.bl ∧ bs.all id = b
  | [], _, b, e, h => by cases h; cases e; exact ⟨[], rfl, rfl⟩
  | .bool c :: r, _, b, e, h => by
    cases h with
    | cons h1 h2 =>
      cases h1
      unfold allB at e
      obtain ⟨w, h3, h4⟩ := Option.map_eq_some_iff.mp e
      obtain ⟨bs, h5, h6⟩ := allB_some h3 h2
      refine ⟨c :: bs, by rw [h5]; rfl, ?_⟩
      rw [List.all_cons, h6]
      exact h4
  | .none :: _, _, _, e, _ => nomatch e
  | .int _ :: _, _, _, e, _ => nomatch e
  | .str _ :: _, _, _, e, _ => nomatch e
  | .list _ :: _, _, _, e, _ => nomatch e
  | .tuple _ :: _, _, _, e, _ => nomatch e
  | .dict _ :: _, _, _, e, _ => nomatch e
@[simp] def eAll (f : DE) : DE := fun ρ => match f ρ with
  | some (.list ds) => (allB ds).map .bool
  | _ => none
theorem pd_all (T : Blt X.mg) (ha : PD X a f) (hc : X.calm = true := by rfl) (hg : Gl X "all" := by rfl) (hs : starEach [a] X.env = (false, eval a X.env) :: starEach [] X.env := by rfl) : PD X (.Call (.Name "all" p) [a] [] pos) (eAll f) :=
  (pe_callB (cr_all hc) hg T.all (by decide +kernel) (pa_cons ha pa_nil hs) (he := hs)).imp fun σ H Q ⟨ρ, z, rp, e, k⟩ => by
    unfold eAll at e
    split at e
    · obtain ⟨b, h1, h2⟩ := Option.map_eq_some_iff.mp e
      subst h2
      refine ⟨ρ, _, rp, by assumption, fun v H1 s1 d => ?_⟩
      cases d with
      | lst hq ha =>
        obtain ⟨bs, h3, h4⟩ := allB_some h1 ha
        subst h3
        refine ⟨_, bs, rfl, hq, ?_⟩
        rw [h4]
        exact k _ _ s1 (.bl _)
    · cases e
end
/-! #### targets -/
@[simp] def gNm (i : Nat) : DG := fun d ρ => some (ρ.set i (some (.dat d)))
@[simp] def gT (gs : DGs) : DG := fun d ρ => match d with
  | .tuple ds => gs ds ρ
  | _ => none
@[simp] def gsNil : DGs := fun ds ρ => match ds with
  | [] => some ρ
  | _ => none
@[simp] def gsCons (g : DG) (gs : DGs) : DGs := fun ds ρ => match ds with
  | d :: r => (g d ρ).bind (gs r)
  | [] => none
/-- a, *b = t: the star last -/
@[simp] def gStar (i : Nat) (gs : DGs) : DG := fun d ρ => match d with
  | .tuple ds => if i ≤ ds.length ∧ ds.length ≤ 1000 then gs (ds.take i ++ [.list (ds.drop i)]) ρ else none
  | _ => none
section
variable {X : Cx} {e : Expr} {es : List Expr} {pos p : Pos} {vs ws : List Nat} {g : DG} {gs : DGs}
theorem pdg_nm (i : Nat) {x : Str} (hN : X.N.Nodup) (hi : X.N[i]? = some x := by rfl) (hx : Loc X.env.scope x := by first | exact Or.inl rfl | exact Or.inr rfl) (hf : X.fn x = true ∨ X.env.scope.names.lookup x = some .local := by first | exact .inl rfl | exact .inr rfl) : PDG X [i] (.Name x pos) (gNm i) :=
  (pg_name hN hi hx hf).imp fun v σ H Q ⟨ρ, d, ρ', rp, dp, e, k⟩ => by
    cases e
    exact k _ H (Same.refl _) (rp.set i dp) (.set (by simp))
theorem pdgs_nil : PDGs X [] [] gsNil := by
  refine ⟨pgs_nil.imp fun xs σ H Q ⟨ρ, ds, ρ', rp, dp, e, k⟩ => ?_, fun ρ ds ρ' e => ?_⟩
  · cases ds with
    | nil =>
      cases dp
      cases e
      exact ⟨rfl, k σ H (Same.refl _) rp (.refl _ _)⟩
    | cons d r => cases e
  · cases ds with
    | nil => rfl
    | cons d r => cases e
theorem pdgs_cons (h1 : PDG X vs e g) (h2 : PDGs X ws es gs) (hs : (assignEach (e :: es) X.env).map (·.2) = assign e X.env :: (assignEach es X.env).map (·.2) := by rfl) : PDGs X (vs ++ ws) (e :: es) (gsCons g gs) := by
  refine ⟨(pgs_cons h1 h2.pg hs).imp fun xs σ H Q ⟨ρ, ds, ρ', rp, dp, e, k⟩ => ?_, fun ρ ds ρ' e => ?_⟩
  · cases ds with
    | nil => cases e
    | cons d r =>
      cases dp with
      | cons d1 d2 =>
        obtain ⟨ρ1, e1, e2⟩ := Option.bind_eq_some_iff.mp e
        exact ⟨_, _, rfl, ρ, d, ρ1, rp, d1, e1, fun σ1 H1 s1 r1 o1 => ⟨ρ1, r, ρ', r1, DpAll.mono s1 _ _ d2, e2, fun σ2 H2 s2 r2 o2 => k σ2 H2 (s1.trans s2) r2 ((o1.mono fun j hj => List.mem_append_left _ hj).trans (o2.mono fun j hj => List.mem_append_right _ hj))⟩⟩
  · cases ds with
    | nil => cases e
    | cons d r =>
      obtain ⟨ρ1, e1, e2⟩ := Option.bind_eq_some_iff.mp e
      simp [h2.len _ _ _ e2]
/-- a starred target stands for its inner one -/
theorem pdgs_star (h1 : PDG X vs e g) (h2 : PDGs X ws es gs) (hs : (assignEach (.Starred e p :: es) X.env).map (·.2) = assign e X.env :: (assignEach es X.env).map (·.2) := by rfl) : PDGs X (vs ++ ws) (.Starred e p :: es) (gsCons g gs) := by
  have q : PGs X (.Starred e p :: es) (gCons (tG X.K vs g) (tGs X.K ws gs)) := by
    refine ⟨fun pins s σ H vs us Q I r h => ?_⟩
    obtain ⟨v, vr, e1, h⟩ := h
    subst e1
    cases r with
    | cons r rr =>
      rw [hs]
      refine PyProof.Rows.assignInOrder_cons (thn (h1.run pins s σ H _ _ _ I r h) fun _ s1 ⟨σ1, H1, I1, q1⟩ => ?_)
      exact h2.pg.run pins s1 σ1 H1 _ _ Q I1 rr q1
  refine ⟨q.imp fun xs σ H Q ⟨ρ, ds, ρ', rp, dp, e, k⟩ => ?_, fun ρ ds ρ' e => ?_⟩
  · cases ds with
    | nil => cases e
    | cons d r =>
      cases dp with
      | cons d1 d2 =>
        obtain ⟨ρ1, e1, e2⟩ := Option.bind_eq_some_iff.mp e
        exact ⟨_, _, rfl, ρ, d, ρ1, rp, d1, e1, fun σ1 H1 s1 r1 o1 => ⟨ρ1, r, ρ', r1, DpAll.mono s1 _ _ d2, e2, fun σ2 H2 s2 r2 o2 => k σ2 H2 (s1.trans s2) r2 ((o1.mono fun j hj => List.mem_append_left _ hj).trans (o2.mono fun j hj => List.mem_append_right _ hj))⟩⟩
  · cases ds with
    | nil => cases e
    | cons d r =>
      obtain ⟨ρ1, e1, e2⟩ := Option.bind_eq_some_iff.mp e
      simp [h2.len _ _ _ e2]
theorem pdg_tup {k : Nat} (h : PDGs X vs es gs) (hc : X.calm = true := by rfl) (hn : (assignEach es X.env).length = es.length := by rfl) (hst : (assignEach es X.env).findIdx? (·.1) = none := by rfl) : PDG X vs (.Tuple es k pos) (gT gs) :=
  PG.imp (pg_tup hc h.pg hn hst) fun v σ H Q ⟨ρ, d, ρ', rp, dp, e, k⟩ => by
    cases d with
    | tuple ds =>
      cases dp with
      | tup hq ha => exact ⟨_, _, rfl, hq, by rw [ha.len, h.len _ _ _ e], ρ, ds, ρ', rp, ha, e, k⟩
    | _ => cases e
/-- the star's rule: the star last -/
def gStarV (K : PySem.W.Frag) (i : Nat) (t : TGs) : TG := fun v σ H Q => ∃ a xs, v = .ref a ∧ SqT K H a xs ∧ i ≤ xs.length ∧ xs.length ≤ 1000 ∧ ∀ q, H q = none → t (xs.take i ++ [.ref q]) σ (upd H q (.lst (xs.drop i))) Q
theorem pg_star {k i : Nat} {t : TGs} (hc : X.calm = true) (h : PGs X es t) (hn : (assignEach es X.env).length = i + 1) (hst : (assignEach es X.env).findIdx? (·.1) = some i) : PG X (.Tuple es k pos) (gStarV X.K i t) := by
  refine ⟨fun pins s σ H v u Q I r hw => ?_⟩
  obtain ⟨a, xs, e1, hq, hi, hz, hw⟩ := hw
  subst e1
  cases r
  obtain ⟨its, rv, ht, _⟩ := I.tuple hq
  have hsz : its.toArray.size = xs.length := by rw [List.size_toArray]; exact rv.length.symm
  rw [PyProof.Rows.assign_Tuple]
  refine wpAny_bind (wpAny_standAt ?_)
  unfold unpack
  rw [hn, hst]
  refine wpAny_bind (wpAny_holding ?_)
  have hlt : a ≠ s.heap.objs.size := Nat.ne_of_lt ht.lt
  unfold unpackItems
  refine wpAny_bind ?_
  unfold notIterableAtAll
  refine wpAny_bind (wpAny_specialOf ht.typeIs PyProof.Rows.slot_tuple_iter.lookup ?_)
  refine wpAny_pure ?_
  simp only [Bool.false_eq_true, if_false]
  refine wpAny_bind (wpAny_holding (PyProof.Rows.iter_tuple ht ?_))
  refine wpAny_bind (wpAny_holding (PyProof.Rows.draw_tuple hlt i 0 _ _ ⟨_, Heap.get?_push_size _ rfl, rfl, rfl⟩ (ht.push _) (by omega) fun h₁ hit₁ hs₁ => ?_))
  have hl₁ : PyProof.Rows.IsTup h₁ a its.toArray := (ht.push _).extBut hs₁.extBut hlt
  rw [Nat.zero_add] at hit₁
  obtain ⟨oi, hoi, _⟩ := id hit₁
  obtain ⟨ol, hol, _⟩ := id hl₁
  rw [List.drop_zero]
  have hfl : (its.toArray.toList.take i).length = i := by rw [List.length_take, Array.length_toList]; omega
  rw [if_neg (show ¬ ((its.toArray.toList.take i).length < i) by rw [hfl]; omega)]
  refine wpAny_bind (wpAny_holding (PySem.W.kun_collect (s := { s with heap := h₁ }) (T := "tuple_iterator") (.inr (.inr (.inr rfl))) (Walks.tuple (A := X.A.in1) (I.ok.hd hc) s.heap.objs.size a hlt its.toArray) (fun j u st => st.1.typeIs) (k := i) (by omega) ⟨hit₁, hl₁⟩ (Heap.lt_size hoi) (Heap.lt_size hol) (fun h₂ tk hk => ?_) (by rw [sizeLine_eq]; omega)))
  have hrl : (its.toArray.toList.drop i).length = its.toArray.size - i := by rw [List.length_drop, Array.length_toList]
  show wpAny _ _ (if (its.toArray.toList.drop i).length < i + 1 - 1 - i then _ else _) _ _ _
  rw [if_neg (by omega)]
  have hmid : (its.toArray.toList.drop i).length - (i + 1 - 1 - i) = (its.toArray.toList.drop i).length := by omega
  show wpAny _ _ (newList ((its.toArray.toList.drop i).take ((its.toArray.toList.drop i).length - (i + 1 - 1 - i))) >>= fun d => pure (its.toArray.toList.take i ++ [d] ++ (its.toArray.toList.drop i).drop ((its.toArray.toList.drop i).length - (i + 1 - 1 - i)))) _ _ _
  rw [hmid, List.take_length, List.drop_length]
  have he : ∀ b o, s.heap.get? b = some o → h₂.get? b = some o := fun b o e => by
    have hb : b ≠ s.heap.objs.size := Nat.ne_of_lt (Heap.lt_size e)
    exact hk b o hb (hs₁.extBut b o hb (Heap.get?_push_of_some _ e))
  have I2 : Inv X pins σ H { s with heap := h₂, toks := tk } := I.kept he
  refine wpAny_bind (PySem.wpAny_newList (wpAny_pure ?_) (by rw [hrl, sizeLine_eq]; omega))
  have hnew : H h₂.objs.size = none := I2.hok.fresh (Nat.le_refl _)
  have I3 : Inv X pins σ (upd H h₂.objs.size (.lst (xs.drop i))) { s with heap := h₂.push { cls := .type "list", data := .seq (its.toArray.toList.drop i).toArray }, toks := tk } :=
    I2.laid (t' := tk) (fun b o e => Heap.get?_push_of_some _ e) (Nat.le_refl _) ⟨line10 (by rw [List.length_drop]; omega), its.drop i, 0, rv.drop i, by simpa using Heap.get?_push_size _ rfl⟩
  rw [List.append_nil]
  exact h.run pins _ σ _ _ _ Q I3 ((by simpa using rv.take i : Vals (xs.take i) (its.toArray.toList.take i)).append (.cons (show RelV (V.ref h₂.objs.size) (Value.ref h₂.objs.size) from rfl) .nil)) (hw _ hnew)
theorem pdg_star {k : Nat} (i : Nat) (h : PDGs X vs es gs) (hc : X.calm = true := by rfl) (hn : (assignEach es X.env).length = i + 1 := by rfl) (hst : (assignEach es X.env).findIdx? (·.1) = some i := by rfl) : PDG X vs (.Tuple es k pos) (gStar i gs) :=
  PG.imp (pg_star hc h.pg hn hst) fun v σ H Q ⟨ρ, d, ρ', rp, dp, e, k⟩ => by
    cases d with
    | tuple ds =>
      simp only [gStar] at e
      by_cases hh : i ≤ ds.length ∧ ds.length ≤ 1000
      · rw [if_pos hh] at e
        cases dp with
        | @tup a' xs _ hq ha =>
          refine ⟨_, _, rfl, hq, by rw [ha.len]; exact hh.1, by rw [ha.len]; exact hh.2, fun q hq2 => ?_⟩
          have s : Same H (upd H q (.lst (xs.drop i))) := fun c o e => by rw [upd_ne (ne_of_none e hq2)]; exact e
          exact ⟨ρ, _, ρ', rp.mono s, (DpAll.mono s _ _ (ha.take i)).append (.cons (.lst (SqL.of upd_same) (DpAll.mono s _ _ (ha.drop i))) .nil), e, fun σ' H' s' r' o' => k σ' H' (s.trans s') r' o'⟩
      · rw [if_neg hh] at e; cases e
    | _ => cases e
end
end KW
/-! DLd: statements, loops, comprehensions, a def -/
namespace KW
open PySem PySem.Spec L2
section
variable {X : Cx} {a b c e tg : Expr} {es : List Expr} {f g h : DE} {pos p p2 : Pos} {r : DA} {x : Str} {st : Stmt} {sts body orelse : List Stmt} {u v : DB} {q : DT} {gg : DG} {vs : List Nat}
/-! #### statements -/
@[simp] def sSeq (u v : DB) : DB := fun ρ => match u ρ with
  | some (.nx ρ') => v ρ'
  | some (.rt d) => some (.rt d)
  | none => none
@[simp] def sNil : DB := fun ρ => some (.nx ρ)
@[simp] def sRet (f : DE) : DB := fun ρ => (f ρ).map .rt
@[simp] def sNever : DB := fun _ => none
@[simp] def sExp (f : DE) : DB := fun ρ => (f ρ).map fun _ => .nx ρ
@[simp] def sIf (q : DT) (u v : DB) : DB := fun ρ => match q ρ with
  | some true => u ρ
  | some false => v ρ
  | none => none
@[simp] def sAsg (f : DE) (g : DG) : DB := fun ρ => match f ρ with
  | some d => (g d ρ).map .nx
  | none => none
theorem pds_nil : PDSs X [] sNil := PSs.imp pss_nil fun D σ H ⟨ρ, o, rp, e, k⟩ => by
  cases e
  exact k σ H (Same.refl _) rp
theorem pds_cons (h1 : PDS X st u) (h2 : PDSs X sts v) : PDSs X (st :: sts) (sSeq u v) :=
  PSs.imp (pss_cons h1 h2) fun D σ H ⟨ρ, o, rp, e, k⟩ => by
    unfold sSeq at e
    split at e
    · rename_i ρ1 h1
      exact ⟨ρ, .nx ρ1, rp, h1, fun σ1 H1 s1 r1 => ⟨ρ1, o, r1, e, k.mono s1⟩⟩
    · rename_i d h1
      cases e
      exact ⟨ρ, .rt d, rp, h1, k⟩
    · cases e
theorem pds_one (h1 : PDS X st u) : PDSs X [st] u := pss_one h1
theorem pds_ret (h : PD X e f) : PDS X (.Return (some e) pos) (sRet f) :=
  PS.imp (ps_ret h) fun D σ H ⟨ρ, o, rp, q, k⟩ => by
    obtain ⟨d, h1, h2⟩ := Option.map_eq_some_iff.mp q
    subst h2
    exact ⟨ρ, d, rp, h1, k⟩
theorem pds_never : PDS X st sNever := PS.imp ps_never fun D σ H ⟨_, _, _, q, _⟩ => nomatch q
theorem pdss_never : PDSs X sts sNever := PSs.imp pss_never fun D σ H ⟨_, _, _, q, _⟩ => nomatch q
theorem pds_exp (h : PD X e f) (hs : swapsWith e none pos.line X.env = pure false := by rfl) : PDS X (.Expr e pos) (sExp f) :=
  PS.imp (ps_expr h hs) fun D σ H ⟨ρ, o, rp, q, k⟩ => by
    obtain ⟨d, h1, h2⟩ := Option.map_eq_some_iff.mp q
    subst h2
    exact ⟨ρ, d, rp, h1, fun v H1 s1 _ => k σ H1 s1 (rp.mono s1)⟩
theorem pds_if (hc : PDT X c q) (ha : PDSs X body u) (hb : PDSs X orelse v) : PDS X (.If c body orelse pos) (sIf q u v) :=
  PS.imp (ps_if hc ha hb) fun D σ H ⟨ρ, o, rp, e, k⟩ => by
    unfold sIf at e
    split at e
    · exact ⟨ρ, _, rp, by assumption, fun H1 s1 => iteT ⟨ρ, o, rp.mono s1, e, k.mono s1⟩⟩
    · exact ⟨ρ, _, rp, by assumption, fun H1 s1 => iteF ⟨ρ, o, rp.mono s1, e, k.mono s1⟩⟩
    · cases e
theorem sAsg_some {ρ : DS} {o : DOut} (e : sAsg f gg ρ = some o) : ∃ d ρ', f ρ = some d ∧ gg d ρ = some ρ' ∧ o = .nx ρ' := by
  unfold sAsg at e
  split at e
  · obtain ⟨ρ', h1, h2⟩ := Option.map_eq_some_iff.mp e
    exact ⟨_, ρ', by assumption, h1, h2.symm⟩
  · cases e
theorem pds_asg (he : PD X e f) (hg : PDG X vs tg gg) (hs : swapsWithSole [tg] e pos.line X.env = pure false := by rfl) (hw : swappedStores [tg] e X.env = pure none := by rfl)
    (h1 : (assignEach [tg] X.env).map (·.2) = [assign tg X.env] := by rfl) : PDS X (.Assign [tg] e pos) (sAsg f gg) :=
  PS.imp (ps_asg he hg hs hw h1) fun D σ H ⟨ρ, o, rp, q, k⟩ => by
    obtain ⟨d, ρ', h1, h2, rfl⟩ := sAsg_some q
    exact ⟨ρ, d, rp, h1, fun v H1 s1 dv => ⟨ρ, d, ρ', rp.mono s1, dv, h2, fun σ' H' s' r' _ => k σ' H' (s1.trans s') r'⟩⟩
theorem pds_set (i : Nat) {pos' : Pos} (hN : X.N.Nodup) (he : PD X e f) (hi : X.N[i]? = some x := by rfl) (hx : Loc X.env.scope x := by first | exact Or.inl rfl | exact Or.inr rfl) (hs : swapsWith e (some (.Name x pos')) pos.line X.env = pure false := by rfl)
    (hf : X.fn x = true ∨ X.env.scope.names.lookup x = some .local := by first | exact .inl rfl | exact .inr rfl) : PDS X (.Assign [.Name x pos'] e pos) (sAsg f (gNm i)) :=
  PS.imp (ps_set hN hi hx he hs hf) fun D σ H ⟨ρ, o, rp, q, k⟩ => by
    obtain ⟨d, ρ', h1, h2, rfl⟩ := sAsg_some q
    cases h2
    exact ⟨ρ, d, rp, h1, fun v H1 s1 dv => k _ H1 s1 ((rp.mono s1).set i dv)⟩
/-- x op= e -/
@[simp] def sAug (i : Nat) (F : PyData → PyData → Option PyData) (f : DE) : DB := sAsg (eBin F (eVar i) f) (gNm i)
theorem pds_aug (i : Nat) {op : Operator} {rr : R2} {F : PyData → PyData → Option PyData} {pos' : Pos} (ho : OpR X (inplaceOp op) rr) (hr : ROk X.K rr F) (hN : X.N.Nodup) (he : PD X e f) (hi : X.N[i]? = some x := by rfl) (hx : Loc X.env.scope x := by first | exact Or.inl rfl | exact Or.inr rfl)
    (hf : X.fn x = true ∨ X.env.scope.names.lookup x = some .local := by first | exact .inl rfl | exact .inr rfl) : PDS X (.AugAssign (.Name x pos') op e pos) (sAug i F f) :=
  PS.imp (ps_aug (ti := rr) hN hi hx he ho hf) fun D σ H ⟨ρ, o, rp, q, k⟩ => by
    obtain ⟨d, ρ', h1, h2, rfl⟩ := sAsg_some q
    cases h2
    obtain ⟨d1, d2, h3, h4, h5⟩ := eBin_some h1
    obtain ⟨v, hv, dv⟩ := rp.at_ i _ (eVar_some h3)
    exact ⟨v, hv, ρ, d2, rp, h4, fun y H1 s1 dy => hr v y H1 _ d1 d2 d (Dp.mono s1 _ _ dv) dy h5 fun z H2 s2 dz => k _ H2 (s1.trans s2) ((rp.mono (s1.trans s2)).set i dz)⟩
@[simp] def fAddI := fI fun i j => some (i + j)
@[simp] def fShl := fI fun i j => if 0 ≤ j ∧ j ≤ 1000000 ∧ i.natAbs < 2 ^ 64 then some (i * 2 ^ j.toNat) else none
@[simp] def fShr := fI fun i j => if 0 ≤ j then some (i / 2 ^ j.toNat) else none
theorem rok_shl {K : PySem.W.Frag} : ROk K (rI CPow fun i j => .int (i * 2 ^ j.toNat)) fShl := rok_int fun i j z e => by
  by_cases h : 0 ≤ j ∧ j ≤ 1000000 ∧ i.natAbs < 2 ^ 64
  · rw [if_pos h] at e; cases e; exact ⟨h, rfl⟩
  · rw [if_neg h] at e; cases e
theorem rok_shr {K : PySem.W.Frag} : ROk K (rI (fun _ j => 0 ≤ j) fun i j => .int (i / 2 ^ j.toNat)) fShr := rok_int fun i j z e => by
  by_cases h : 0 ≤ j
  · rw [if_pos h] at e; cases e; exact ⟨h, rfl⟩
  · rw [if_neg h] at e; cases e
theorem rok_addI {K : PySem.W.Frag} : ROk K (rI0 fun i j => .int (i + j)) fAddI := rok_int0
theorem rok_orI {K : PySem.W.Frag} : ROk K (rI0 fun i j => .int (Builtin.bitOr i j)) fOr := rok_int0
/-! #### while, with fuel -/
def sWhile : Nat → DT → DB → DB
  | 0, _, _ => fun _ => none
  | n + 1, q, u => fun ρ => match q ρ with
    | some true => (match u ρ with
      | some (.nx ρ') => sWhile n q u ρ'
      | some (.rt d) => some (.rt d)
      | none => none)
    | some false => some (.nx ρ)
    | none => none
theorem pds_while (n : Nat) (hp : PassesOwn (model X.prog X.w) X.A X.env X.xe) (hc : PDT X c q) (hb : PDSs X body u) : PDS X (.While c body [] pos) (sWhile n q u) :=
  PS.imp (ps_while hp hc hb) fun D σ H ⟨ρ, o, rp, e, k⟩ => by
    refine ⟨fun m σ' H' => ∃ ρ', Rep X.K H' σ' ρ' ∧ sWhile m q u ρ' = some o ∧ Same H H', ⟨n, ρ, rp, e, Same.refl _⟩, ?_⟩
    rintro m σ1 H1 ⟨ρ1, r1, e1, s1⟩
    cases m with
    | zero => cases e1
    | succ m =>
      unfold sWhile at e1
      split at e1
      · rename_i h1
        refine ⟨ρ1, true, r1, h1, fun H2 s2 => iteT ⟨fun σ' H' => ∃ ρ', Rep X.K H' σ' ρ' ∧ sWhile m q u ρ' = some o ∧ Same H H', fun σ' H' n => ⟨m, Nat.lt_succ_self _, n⟩, ?_⟩⟩
        split at e1
        · rename_i h2
          exact ⟨ρ1, _, r1.mono s2, h2, fun σ3 H3 s3 r3 => ⟨_, r3, e1, (s1.trans s2).trans s3⟩⟩
        · rename_i d h2
          cases e1
          exact ⟨ρ1, _, r1.mono s2, h2, fun v H3 s3 dv => k v H3 ((s1.trans s2).trans s3) dv⟩
        · cases e1
      · rename_i h1
        cases e1
        exact ⟨ρ1, false, r1, h1, fun H2 s2 => iteF (k σ1 H2 (s1.trans s2) (r1.mono s2))⟩
      · cases e1
/-! #### for over a tuple -/
@[simp] def dFor (g : DG) (u : DB) : List PyData → DB
  | [] => fun ρ => some (.nx ρ)
  | d :: ds => fun ρ => match g d ρ with
    | some ρ1 => (match u ρ1 with
      | some (.nx ρ2) => dFor g u ds ρ2
      | some (.rt z) => some (.rt z)
      | none => none)
    | none => none
@[simp] def sFor (f : DE) (g : DG) (u : DB) : DB := fun ρ => match f ρ with
  | some (.tuple ds) => dFor g u ds ρ
  | _ => none
theorem pds_for (hp : PassesOwn (model X.prog X.w) X.A X.env X.xe) (hi : PD X e f) (hg : PDG X vs tg gg) (hb : PDSs X body u) (hc : X.calm = true := by rfl) (hs : ∀ x, foldedSetIterable e X.env x = pure x := by intro _; rfl) : PDS X (.For tg e body [] pos) (sFor f gg u) :=
  PS.imp (ps_for hp hc (pi_tup hi) hg hb hs) fun D σ H ⟨ρ, o, rp, e, k⟩ => by
    unfold sFor at e
    split at e
    · rename_i ds h1
      refine ⟨ρ, _, rp, h1, fun v H1 s1 dv => ?_⟩
      cases dv with
      | @tup a xs _ hq ha =>
        refine ⟨a, rfl, ⟨xs, hq⟩, for_tup (K := X.K) (a := a) (xs := xs) (fun i σ' H' => ∃ ρ', Rep X.K H' σ' ρ' ∧ dFor gg u (ds.drop i) ρ' = some o ∧ Same H1 H') ⟨ρ, rp.mono s1, e, Same.refl _⟩ (fun i σ' H' _ ⟨_, _, _, s'⟩ => SqT.mono s' hq) ?_ ?_⟩
        · rintro i x σ' H' hx ⟨ρ', r', e', s'⟩
          obtain ⟨d, hd, dd⟩ := ha.getV hx
          have hdrop : ds.drop i = d :: ds.drop (i + 1) := by
            obtain ⟨hlt, he⟩ := List.getElem?_eq_some_iff.mp hd
            rw [List.drop_eq_getElem_cons hlt, he]
          rw [hdrop] at e'
          unfold dFor at e'
          split at e'
          · rename_i ρ1 h2
            refine ⟨ρ', d, ρ1, r', Dp.mono s' _ _ dd, h2, fun σ2 H2 s2 r2 _ => ?_⟩
            split at e'
            · rename_i ρ2 h3
              exact ⟨ρ1, _, r2, h3, fun σ3 H3 s3 r3 => ⟨ρ2, r3, e', (s'.trans s2).trans s3⟩⟩
            · rename_i z h3
              cases e'
              exact ⟨ρ1, _, r2, h3, fun v H3 s3 dv => k v H3 (((s1.trans s').trans s2).trans s3) dv⟩
            · cases e'
          · cases e'
        · rintro σ' H' ⟨ρ', r', e', s'⟩
          have : ds.drop xs.length = [] := by rw [ha.len]; exact List.drop_length
          rw [this] at e'
          cases e'
          exact k σ' H' (s1.trans s') r'
    · cases e
/-! #### comprehensions -/
/-- what is walked: data in a row -/
structure PDI (X : Cx) (tg iter : Expr) (f : DS → Option (List PyData)) : Prop where
  ex : ∃ wi : TI, PI X tg iter wi ∧ ∀ (ρ : DS) (ds : List PyData) (σ : L2.St) (H : Hp) (R : It → Hp → Prop), Rep X.K H σ ρ → f ρ = some ds →
    (∀ (J : It) (H1 : Hp), Same H H1 → (∃ (G : Hp → Prop) (Y : Nat → Hp → V → Hp → Prop), Walk J ds.length G Y ∧ (∀ H', Same H1 H' → G H') ∧
      ∀ i H' x H'' d, ds[i]? = some d → Same H1 H' → Y i H' x H'' → Same H' H'' ∧ Dp X.K H'' x d) → R J H1) → wi σ H R
@[simp] def iTupD (f : DE) : DS → Option (List PyData) := fun ρ => match f ρ with
  | some (.tuple ds) => some ds
  | _ => none
@[simp] def iLstD (f : DE) : DS → Option (List PyData) := fun ρ => match f ρ with
  | some (.list ds) => some ds
  | _ => none
theorem pdi_tup (h : PD X e f) : PDI X tg e (iTupD f) := by
  refine ⟨_, pi_tup h, fun ρ ds σ H R rp q k => ?_⟩
  unfold iTupD at q
  split at q
  · rename_i h1
    cases q
    refine ⟨ρ, _, rp, h1, fun v H1 s1 dv => ?_⟩
    cases dv with
    | @tup a xs _ hq ha =>
      refine ⟨a, rfl, ⟨xs, hq⟩, k _ H1 s1 ⟨fun H => SqT X.K H a xs, YAt xs, ?_, fun H' s' => SqT.mono s' hq, ?_⟩⟩
      · have w := walk_tup (K := X.K) (a := a) (xs := xs)
        rw [ha.len] at w
        exact w
      · rintro i H' x H'' d hd s' ⟨rfl, hx⟩
        obtain ⟨d', hd', dd⟩ := ha.getV hx
        rw [hd] at hd'; cases hd'
        exact ⟨Same.refl _, Dp.mono s' _ _ dd⟩
  · cases q
theorem pdi_lst (h : PD X e f) : PDI X tg e (iLstD f) := by
  refine ⟨_, pi_list h, fun ρ ds σ H R rp q k => ?_⟩
  unfold iLstD at q
  split at q
  · rename_i h1
    cases q
    refine ⟨ρ, _, rp, h1, fun v H1 s1 dv => ?_⟩
    cases dv with
    | @lst a xs _ hq ha =>
      refine ⟨a, rfl, ⟨xs, hq⟩, k _ H1 s1 ⟨fun H => SqL X.K H a xs, YAt xs, ?_, fun H' s' => s'.seq hq, ?_⟩⟩
      · have w := walk_list (K := X.K) (a := a) (xs := xs)
        rw [ha.len] at w
        exact w
      · rintro i H' x H'' d hd s' ⟨rfl, hx⟩
        obtain ⟨d', hd', dd⟩ := ha.getV hx
        rw [hd] at hd'; cases hd'
        exact ⟨Same.refl _, Dp.mono s' _ _ dd⟩
  · cases q
/-- pairs by places, as far as both go -/
@[simp] def zipD : List PyData → List PyData → List PyData
  | d :: ds, e :: es => .tuple [d, e] :: zipD ds es
  | _, _ => []
theorem zipD_len : ∀ ds es : List PyData, (zipD ds es).length = min ds.length es.length
  | [], _ => by simp [zipD]
  | _ :: _, [] => by simp [zipD]
  | d :: ds, e :: es => by simp [zipD, zipD_len ds es]
theorem zipD_get : ∀ {ds es : List PyData} {i : Nat} {z : PyData}, (zipD ds es)[i]? = some z → ∃ d e, ds[i]? = some d ∧ es[i]? = some e ∧ z = .tuple [d, e]
  | [], _, _, _, h => by simp [zipD] at h
  | _ :: _, [], _, _, h => by simp [zipD] at h
  | d :: ds, e :: es, 0, z, h => by simp [zipD] at h; exact ⟨d, e, rfl, rfl, h.symm⟩
  | d :: ds, e :: es, i + 1, z, h => by
    obtain ⟨d', e', h1, h2, h3⟩ := zipD_get (ds := ds) (es := es) (i := i) (by simpa [zipD] using h)
    exact ⟨d', e', by simpa using h1, by simpa using h2, h3⟩
@[simp] def iZipD (f g : DE) : DS → Option (List PyData) := fun ρ => match f ρ, g ρ with
  | some (.tuple ds), some (.tuple es) => some (zipD ds es)
  | _, _ => none
theorem walk_zipT {K : PySem.W.Frag} {a b : Addr} {xs ys : List V} {n : Nat} (hn : n = min xs.length ys.length) : Walk (RZ.ItzT K a b) n (fun H => SqT K H a xs ∧ SqT K H b ys) (YPair (fun i => xs[i]?) (fun i => ys[i]?)) := by
  subst hn
  refine ⟨fun i _ hi q => ?_, fun _ q => ⟨xs, ys, q.1, q.2, by omega⟩, fun i H v H' _ q y => ?_⟩
  · have h1 : i < xs.length := by omega
    have h2 : i < ys.length := by omega
    exact ⟨xs, ys, xs[i], ys[i], q.1, q.2, by simp [h1], by simp [h2]⟩
  · obtain ⟨T, x, z, h1, h2, h3, h4, h5⟩ := y
    exact ⟨T, x, z, h1, h2, h3, h4 xs q.1, h5 ys q.2⟩
theorem pdi_zip {elts : List Expr} {kk : Nat} {tpos : Pos} (T : Blt X.mg) (ha : PD X a f) (hb : PD X b g) (hg : Gl X "zip" := by rfl) (hs : starEach [a, b] X.env = (false, eval a X.env) :: starEach [b] X.env := by rfl) (hs2 : starEach [b] X.env = (false, eval b X.env) :: starEach [] X.env := by rfl) :
    PDI X (.Tuple elts kk tpos) (.Call (.Name "zip" p) [a, b] [] pos) (iZipD f g) := by
  refine ⟨_, RZ.pi_zipA hg T.zip (pa_cons ha (pa_cons hb pa_nil hs2) hs) hs (by rw [hs2]; rfl), fun ρ ds σ H R rp q k => ?_⟩
  unfold iZipD at q
  split at q
  · rename_i d1 d2 h1 h2
    cases q
    refine ⟨ρ, _, rp, h1, fun v H1 s1 dv => ⟨ρ, _, rp.mono s1, h2, fun v2 H2 s2 dv2 => ?_⟩⟩
    have dv' := Dp.mono s2 _ _ dv
    cases dv' with
    | @tup a xs _ hq ha =>
      cases dv2 with
      | @tup b ys _ hq2 hb =>
        refine ⟨a, b, xs, ys, rfl, .inr ⟨hq, hq2, k _ H2 (s1.trans s2) ⟨_, _, walk_zipT (xs := xs) (ys := ys) (by rw [zipD_len, ha.len, hb.len]), fun H' s' => ⟨SqT.mono s' hq, SqT.mono s' hq2⟩, ?_⟩⟩⟩
        rintro i H' x H'' d hd s' ⟨T, y, z, rfl, hT, rfl, hy, hz⟩
        obtain ⟨e1, e2, h3, h4, rfl⟩ := zipD_get hd
        obtain ⟨e1', h5, dd1⟩ := ha.getV hy
        obtain ⟨e2', h6, dd2⟩ := hb.getV hz
        rw [h3] at h5; cases h5
        rw [h4] at h6; cases h6
        have s : Same H' (upd H' T (.tup [y, z])) := fun c o e => by rw [upd_ne (ne_of_none e hT)]; exact e
        exact ⟨s, .tup (SqT.of upd_same) (.cons (Dp.mono (s'.trans s) _ _ dd1) (.cons (Dp.mono (s'.trans s) _ _ dd2) .nil))⟩
  · cases q
mutual
@[simp] def noList : PyData → Bool
  | .list _ => false
  | .dict _ => false
  | .tuple ds => noLists ds
  | .none => true
  | .bool _ => true
  | .int _ => true
  | .str _ => true
@[simp] def noLists : List PyData → Bool
  | [] => true
  | d :: ds => noList d && noLists ds
end
theorem SqT.updL {K : PySem.W.Frag} {H : Hp} {D a : Addr} {acc : List V} {o : HO} {xs : List V} (hD : H D = some (.lst acc)) (h : SqT K H a xs) : SqT K (upd H D o) a xs := by
  rcases h with (h | ⟨ob, h⟩) | h
  · exact .inl (.inl (by rw [upd_ne (ne_of h hD (by intro z; cases z))]; exact h))
  · exact .inl (.inr ⟨ob, by rw [upd_ne (ne_of h hD (by intro z; cases z))]; exact h⟩)
  · exact .inr h
mutual
theorem Dp_updL {K : PySem.W.Frag} {H : Hp} {D : Addr} {acc : List V} {o : HO} (hD : H D = some (.lst acc)) : ∀ (d : PyData) (v : V), noList d = true → Dp K H v d → Dp K (upd H D o) v d
  | .none, _, _, h => by cases h; exact .non
  | .bool _, _, _, h => by cases h; exact .bl _
  | .int _, _, _, h => by cases h; exact .int _
  | .str _, _, _, h => by cases h; exact .str _
  | .list ds, _, e, h => by simp [noList] at e
  | .tuple ds, _, e, h => by
    cases h with
    | tup hs ha => exact .tup (SqT.updL hD hs) (DpAll_updL hD ds _ (by simpa [noList] using e) ha)
  | .dict _, _, _, h => by cases h
theorem DpAll_updL {K : PySem.W.Frag} {H : Hp} {D : Addr} {acc : List V} {o : HO} (hD : H D = some (.lst acc)) : ∀ (ds : List PyData) (vs : List V), noLists ds = true → DpAll K H vs ds → DpAll K (upd H D o) vs ds
  | [], _, _, h => by cases h; exact .nil
  | d :: ds, _, e, h => by
    have e' : noList d = true ∧ noLists ds = true := by simpa [noLists] using e
    cases h with
    | cons h1 h2 => exact .cons (Dp_updL hD d _ e'.1 h1) (DpAll_updL hD ds _ e'.2 h2)
end
theorem noLists_take : ∀ {ds : List PyData} (n : Nat), noLists ds = true → noLists (ds.take n) = true
  | _, 0, _ => by simp [noLists]
  | [], n + 1, _ => by simp [noLists]
  | d :: ds, n + 1, h => by
    have e' : noList d = true ∧ noLists ds = true := by simpa [noLists] using h
    simp [noLists, e'.1, noLists_take n e'.2]
/-- the elements, one behind another -/
@[simp] def dMap (g : DG) (f : DE) (ρ : DS) : List PyData → Option (List PyData)
  | [] => some []
  | d :: ds => match g d ρ with
    | some ρ1 => (match f ρ1, dMap g f ρ ds with
      | some z, some zs => some (z :: zs)
      | _, _ => none)
    | none => none
theorem dMap_len {g : DG} {f : DE} {ρ : DS} : ∀ {ds zs : List PyData}, dMap g f ρ ds = some zs → zs.length = ds.length
  | [], _, h => by cases h; rfl
  | d :: ds, zs, h => by
    unfold dMap at h
    split at h
    · split at h
      · cases h
        rename_i h1
        simp [dMap_len h1]
      · cases h
    · cases h
theorem dMap_get {g : DG} {f : DE} {ρ : DS} : ∀ {ds zs : List PyData} {i : Nat} {d : PyData}, dMap g f ρ ds = some zs → ds[i]? = some d → ∃ ρ1 z, g d ρ = some ρ1 ∧ f ρ1 = some z ∧ zs[i]? = some z
  | [], _, _, _, _, h => by simp at h
  | e :: ds, zs, 0, d, h, h2 => by
    unfold dMap at h
    split at h
    · split at h
      · cases h
        simp at h2
        subst h2
        exact ⟨_, _, by assumption, by assumption, rfl⟩
      · cases h
    · cases h
  | e :: ds, zs, i + 1, d, h, h2 => by
    unfold dMap at h
    split at h
    · split at h
      · cases h
        rename_i h1
        obtain ⟨ρ1, z, a, b, c⟩ := dMap_get (i := i) h1 (by simpa using h2)
        exact ⟨ρ1, z, a, b, by simpa using c⟩
      · cases h
    · cases h
@[simp] def eLc (vs : List Nat) (it : DS → Option (List PyData)) (g : DG) (f : DE) : DE := fun ρ => match it ρ with
  | some ds => if ds.length ≤ 10000 then (match dMap g f (wipeD ρ vs) ds with
    | some zs => if noLists zs = true then some (.list zs) else none
    | none => none) else none
  | none => none
theorem eLc_some {vs : List Nat} {it : DS → Option (List PyData)} {g : DG} {f : DE} {ρ : DS} {z : PyData} (h : eLc vs it g f ρ = some z) : ∃ ds zs, it ρ = some ds ∧ ds.length ≤ 10000 ∧ dMap g f (wipeD ρ vs) ds = some zs ∧ noLists zs = true ∧ z = .list zs := by
  unfold eLc at h
  split at h
  · split at h
    · split at h
      · split at h
        · cases h
          exact ⟨_, _, by assumption, by assumption, by assumption, by assumption, rfl⟩
        · cases h
      · cases h
    · cases h
  · cases h
variable {it : DS → Option (List PyData)} {scope : Scope} {own : List (Str × Nat)} {elt iter : Expr}
/-- the reading of a comprehension by data -/
theorem tLc_ok {K : PySem.W.Frag} {wi : TI} {ws : List Nat} (hws : ∀ j ∈ vs, j ∈ ws) (hw : ∀ (ρ : DS) (ds : List PyData) (σ : L2.St) (H : Hp) (R : It → Hp → Prop), Rep K H σ ρ → it ρ = some ds →
    (∀ (J : It) (H1 : Hp), Same H H1 → (∃ (G : Hp → Prop) (Y : Nat → Hp → V → Hp → Prop), Walk J ds.length G Y ∧ (∀ H', Same H1 H' → G H') ∧
      ∀ i H' x H'' d, ds[i]? = some d → Same H1 H' → Y i H' x H'' → Same H' H'' ∧ Dp K H'' x d) → R J H1) → wi σ H R) {σ : L2.St} {H : Hp} {Q : VK} (q : tE K (eLc ws it gg f) σ H Q) :
    tLc wi (tG K vs gg) tYes (tE K f) ws σ H Q := by
  obtain ⟨ρ, z, rp, e, k⟩ := q
  obtain ⟨ds, zs, h1, hz, h2, hn, rfl⟩ := eLc_some e
  refine hw ρ ds σ H _ rp h1 fun J H1 s1 ⟨G, Y, W, hG, hY⟩ D hD => ?_
  refine lc_it W (fun i H' => Same H1 H' ∧ ∃ acc, H' D = some (.lst acc) ∧ DpAll K H' acc (zs.take i)) ?_ ?_ ?_ ?_
  · exact ⟨fun b o e => by rw [upd_ne (ne_of_none e hD)]; exact e, [], upd_same, .nil⟩
  · rintro i H' hi ⟨s', _⟩
    exact hG _ s'
  · rintro i x H' H'' hi ⟨s', acc, ha, da⟩ y
    have hd : ds[i]? = some ds[i] := List.getElem?_eq_getElem hi
    obtain ⟨s2, dx⟩ := hY i H' x H'' ds[i] hd s' y
    obtain ⟨ρ1, z, h3, h4, h5⟩ := dMap_get h2 hd
    refine ⟨wipeD ρ ws, ds[i], ρ1, (rp.mono ((s1.trans s').trans s2)).wipe ws, dx, h3, fun σ3 H3 s3 r3 o3 => ⟨?_, ?_⟩⟩
    · have := (o3.mono hws).wipe
      rw [wipe_wipe] at this
      exact this
    · unfold tYes
      apply iteT
      refine ⟨ρ1, z, r3, h4, fun y H4 s4 dy => ?_⟩
      have st := (s'.trans s2).trans (s3.trans s4)
      have s24 := s2.trans (s3.trans s4)
      have ha4 : H4 D = some (.lst acc) := s24 _ _ ha
      have hz2 : zs.take (i + 1) = zs.take i ++ [z] := by
        rw [List.take_add_one, h5]
        rfl
      refine ⟨acc, ha4, ?_, ?_, acc ++ [y], upd_same, ?_⟩
      · rw [da.len, List.length_take]
        exact Nat.lt_of_le_of_lt (show _ ≤ 10000 by omega) (by rw [sizeLine_eq]; decide)
      · intro b o e
        rw [upd_ne (ne_of_none e hD)]
        exact st _ _ e
      · refine DpAll_updL ha4 _ _ (noLists_take _ hn) ?_
        rw [hz2]
        exact (DpAll.mono s24 _ _ da).append (.cons dy .nil)
  · rintro H' ⟨s', acc, ha, da⟩
    have : zs.take ds.length = zs := by rw [← dMap_len h2]; exact List.take_length
    rw [this] at da
    exact k _ _ (s1.trans s') (.lst (SqL.of ha) da)
/-- [elt for tg in iter] -/
theorem pd_lc {sc : Scope} (own : List (Str × Nat)) (hi : PDI X tg iter it) (ok : BlkOk X.N X.env.scope scope own) (hv : ∀ j ∈ vs, j ∈ own.map (·.2)) (hN : X.N.Nodup)
    (hg : ∀ (s : Shared) (H : Hp) (C : Addr) (cl : List (Str × Addr)) (fp : List Addr), PDG (X.blk s H scope (compEnvC scope cl C X.env) fp) vs tg gg)
    (he : ∀ (s : Shared) (H : Hp) (C : Addr) (cl : List (Str × Addr)) (fp : List Addr), PD (X.blk s H scope (compEnvC scope cl C X.env) fp) elt f) (hc : X.calm = true := by rfl) (hs : ∀ x, foldedSetIterable iter X.env x = pure x := by intro _; rfl) :
    PD X (.ListComp elt [⟨tg, iter, [], 0⟩] scope pos) (eLc (own.map (·.2)) it gg f) := by
  obtain ⟨wi, hw, hk⟩ := hi.ex
  exact PE.imp (pe_lc (own := own) hc hN hw ok hg (fun _ _ _ _ _ => pts_nil) he hs) fun σ H Q q => tLc_ok hv hk q
theorem pds_setLc {sc : Scope} (i : Nat) {y : Str} {py spos : Pos} (own : List (Str × Nat)) (hi : PDI X tg iter it) (ok : BlkOk X.N X.env.scope scope own) (hv : ∀ j ∈ vs, j ∈ own.map (·.2)) (hN : X.N.Nodup)
    (hsw : swapsWith (.ListComp elt [⟨tg, iter, [], 0⟩] scope pos) (some (.Name y py)) spos.line X.env = pure true)
    (hg : ∀ (s : Shared) (H : Hp) (C : Addr) (cl : List (Str × Addr)) (fp : List Addr), PDG (X.blk s H scope (compEnvC scope cl C X.env) fp) vs tg gg)
    (he : ∀ (s : Shared) (H : Hp) (C : Addr) (cl : List (Str × Addr)) (fp : List Addr), PD (X.blk s H scope (compEnvC scope cl C X.env) fp) elt f) (hy : X.N[i]? = some y := by rfl) (hyl : X.env.scope.names.lookup y = some .local := by rfl) (hc : X.calm = true := by rfl) (hs : ∀ x, foldedSetIterable iter X.env x = pure x := by intro _; rfl) :
    PDS X (.Assign [.Name y py] (.ListComp elt [⟨tg, iter, [], 0⟩] scope pos) spos) (sAsg (eLc (own.map (·.2)) it gg f) (gNm i)) := by
  obtain ⟨wi, hw, hk⟩ := hi.ex
  refine PS.imp (ps_setLc (i := i) (own := own) (te := tE X.K f) (g := tG X.K vs gg) hc hN hy hyl hsw hw ok hg (fun _ _ _ _ _ => pts_nil) he hs) fun D σ H ⟨ρ, o, rp, q, k⟩ => ?_
  obtain ⟨d, ρ', h1, h2, rfl⟩ := sAsg_some q
  cases h2
  exact tLc_ok hv hk ⟨ρ, d, rp, h1, fun v H1 s1 dv => k _ H1 s1 ((rp.mono s1).set i dv)⟩
end
/-! #### a def -/
/-- what a body gives at its parameters' values -/
@[simp] def runD (n : Nat) (u : DB) : List PyData → Option PyData := fun ds => match u (ds.map (fun d => some (.dat d)) ++ List.replicate (n - ds.length) none) with
  | some (.rt d) => some d
  | some (.nx _) => some .none
  | none => none
theorem rep_start {K : PySem.W.Frag} {H : Hp} {N : List Str} {vs : List V} {ds : List PyData} (h : DpAll K H vs ds) : Rep K H (L2.start N vs) (ds.map (fun d => some (SV.dat d)) ++ List.replicate (N.length - ds.length) none) := by
  have hl := h.len
  refine ⟨by unfold L2.start; simp [hl], fun i x e => ?_⟩
  by_cases hi : i < ds.length
  · rw [List.getElem?_append_left (by simpa using hi), List.getElem?_map] at e
    have hd : ds[i]? = some ds[i] := List.getElem?_eq_getElem hi
    rw [hd] at e
    cases e
    obtain ⟨v, hv, dv⟩ := h.get hd
    refine ⟨v, ?_, dv⟩
    unfold L2.start
    rw [List.getElem?_append_left (by simp; omega), List.getElem?_map, hv]
    rfl
  · rw [List.getElem?_append_right (by simp; omega), List.getElem?_replicate] at e
    split at e <;> cases e
section
variable {P : Program} {w : World} {K : PySem.W.Frag} {mg : Str → Option Value} {base : Heap}
/-- THE RULE for a def by data -/
theorem FunD_okD {x qual : Str} {st : Stmt} {f : Addr} {fd : FuncData} {N ps : List Str} {k m : Nat} {u : DB} (F : FunD K x qual (defArgs st) (defBody st) (defScope st) [] [] f fd) (hm : mg x = some (.ref f)) (hb : Binds K fd ps []) (hps : ps.length = m) (S : FnScope N ps (defScope st))
    (hbody : ∀ (cdv : Value) (A : Around) (outer : List Env) (s : Shared) (H : Hp) (E : XK), Room k (A.deeper (PyProof.Rows.envOfC qual (defScope st) s.heap.objs.size f cdv)) →
      PDSs (cxOf CX0 P w K mg base N qual (defScope st) f cdv A outer s H E).nox (defBody st) u) : DefD P w K mg base x m (k + 1) (runD N.length u) := by
  refine ⟨f, fd, ps, hps, ?_, hm, F.kp, hb⟩
  refine F.ok S (fun vs H Q E ⟨ds, d, h1, h2, _⟩ => by rw [h2.len, h1, hps]) fun cdv A outer s H vs Q E hr ⟨ds, d, h1, h2, h3, k⟩ => ⟨_, (hbody cdv A outer s H E hr).nox, ?_⟩
  unfold runD at h3
  split at h3
  · rename_i z h4
    cases h3
    exact ⟨_, _, rep_start h2, h4, k⟩
  · rename_i ρ h4
    cases h3
    exact ⟨_, _, rep_start h2, h4, fun σ' H' s' _ => k .non H' s' .non⟩
  · cases h3
end
end KW
/-! DLe: keyword calls -/
namespace KW
open PySem PySem.Spec L2
/-- a def by data whose last parameter is keyword-only and always given -/
structure DefKw (P : Program) (w : World) (K : PySem.W.Frag) (mg : Str → Option Value) (base : Heap) (x : Str) (kw : Str) (n k : Nat) (F : List PyData → Option PyData) : Prop where
  ex : ∃ (f : Addr) (fd : FuncData) (ps : List Str), ps.length = n + 1 ∧ FnOk P w K mg base CX0 k f fd ps (spD K (n + 1) F) ∧ mg x = some (.ref f) ∧ PySem.W.keepIn K (.ref f) = true ∧
    ∃ (g : List Value → List Value → List Value) , KBn K fd ps n [kw] g (fun vs zs => vs ++ zs)
@[simp] def eCallKw (F : List PyData → Option PyData) (r : DA) (g : DE) : DE := fun ρ => match r ρ, g ρ with
  | some ds, some d => F (ds ++ [d])
  | _, _ => none
section
variable {X : Cx} {e e2 : Expr} {es : List Expr} {g : DE} {pos p kp : Pos} {r : DA} {x kw : Str} {n k k' : Nat} {F : List PyData → Option PyData}
theorem pd_callKw (C : DefKw X.prog X.w X.K X.mg X.base x kw n k F) (hr : Room k' X.A) (hle : k ≤ k' := by decide) (ha : PDA X (e :: es) r) (hk : PD X e2 g) (hn : n = (e :: es).length := by rfl) (hg : Gl X x := by rfl) (hdb : (x == ("__debug__" : Str)) = false := by decide)
    (hall : (backToKw pos (keywordEach [⟨some kw, e2, kp⟩] X.env)).all (·.1.isSome) = true := by rfl) (hks : (backToKw pos (keywordEach [⟨some kw, e2, kp⟩] X.env)).filterMap (·.1) = [kw] := by rfl)
    (he : starEach (e :: es) X.env = (false, eval e X.env) :: starEach es X.env := by rfl)
    (hpl : ((backTo pos (starEach (e :: es) X.env)).any (·.1) || (backToKw pos (keywordEach [⟨some kw, e2, kp⟩] X.env)).any (·.1.isNone)) = false := by rfl) :
    PD X (.Call (.Name x p) (e :: es) [⟨some kw, e2, kp⟩] pos) (eCallKw F r g) := by
  obtain ⟨f, fd, ps, hps, F1, hm, hkp, gv, hb⟩ := C.ex
  refine PE.imp (pe_callN F1 (hr.mono hle) hg hm hkp hb pass0 ha.pa (pk_cons hk pk_nil) hall hks hdb he hpl) fun σ H Q ⟨ρ, z, rp, q, k⟩ => ?_
  unfold eCallKw at q
  split at q
  · rename_i ds d h1 h2
    refine ⟨ρ, ds, rp, h1, fun vs H1 s1 d1 => ⟨ρ, d, rp.mono s1, h2, fun v H2 s2 d2 => ?_⟩⟩
    have hlen : ds.length = n := by rw [ha.len _ _ h1, hn]
    refine ⟨by rw [d1.len, hlen], rfl, ds ++ [d], z, by simp [hlen], ?_, q, fun v' H' s' dv => k v' H' ((s1.trans s2).trans s') dv⟩
    exact (DpAll.mono s2 _ _ d1).append (.cons d2 .nil)
  · cases q
end
section
variable {P : Program} {w : World} {K : PySem.W.Frag} {mg : Str → Option Value} {base : Heap}
theorem FunKw_okD {x qual : Str} {st : Stmt} {kws : List (Str × V)} {f : Addr} {fd : FuncData} {N ps : List Str} {k m : Nat} {u : DB} {kw : Str} {g : List Value → List Value → List Value} (F : FunD K x qual (defArgs st) (defBody st) (defScope st) [] kws f fd) (hm : mg x = some (.ref f)) (hb : KBn K fd ps m [kw] g (fun vs zs => vs ++ zs)) (hps : ps.length = m + 1) (S : FnScope N ps (defScope st))
    (hbody : ∀ (cdv : Value) (A : Around) (outer : List Env) (s : Shared) (H : Hp) (E : XK), Room k (A.deeper (PyProof.Rows.envOfC qual (defScope st) s.heap.objs.size f cdv)) →
      PDSs (cxOf CX0 P w K mg base N qual (defScope st) f cdv A outer s H E).nox (defBody st) u) : DefKw P w K mg base x kw m (k + 1) (runD N.length u) := by
  refine ⟨f, fd, ps, hps, ?_, hm, F.kp, g, hb⟩
  refine F.ok S (fun vs H Q E ⟨ds, d, h1, h2, _⟩ => by rw [h2.len, h1, hps]) fun cdv A outer s H vs Q E hr ⟨ds, d, h1, h2, h3, k⟩ => ⟨_, (hbody cdv A outer s H E hr).nox, ?_⟩
  unfold runD at h3
  split at h3
  · rename_i z h4
    cases h3
    exact ⟨_, _, rep_start h2, h4, k⟩
  · rename_i ρ h4
    cases h3
    exact ⟨_, _, rep_start h2, h4, fun σ' H' s' _ => k .non H' s' .non⟩
  · cases h3
end
end KW
/-! DLz: enumerate of tuples, sorted of the empty tuple, zip(.., strict=True), comprehensions with a test -/
namespace KW
open PySem PySem.Spec L2
/-! ### enumerate(t) -/
def IteT (K : PySem.W.Frag) (a : Addr) : It :=
  ⟨fun i H => ∃ (xs : List V) (x : V), SqT K H a xs ∧ xs[i]? = some x, fun i H v H' => ∃ T x, v = .ref T ∧ H T = none ∧ H' = upd H T (.tup [.int (i : Nat), x]) ∧ ∀ xs, SqT K H a xs → xs[i]? = some x, fun i H => ∃ xs : List V, SqT K H a xs ∧ i = xs.length⟩
theorem turn_enumT {P : Program} {w : World} {K : PySem.W.Frag} {elts : List Expr} {kk : Nat} {tpos : Pos} (a e it : Addr) (hae : a ≠ e) (hai : a ≠ it) :
    Turn P w K (.Tuple elts kk tpos) (IteT K a) [e, it] e (fun i h => (∃ old, IsEnum h e it ((i : Nat) : Int) old) ∧ h.IsTupleIter it a i ∧ e ≠ it) where
  mem := by simp
  obj := fun i h st b hb => by
    obtain ⟨⟨old, he⟩, ⟨o, ho, hc, hd⟩, _⟩ := st
    have e' : b = e ∨ b = it := by simpa using hb
    rcases e' with z | z
    · rw [z]; exact ⟨_, he, fun v q => nomatch q⟩
    · rw [z]; exact ⟨o, ho, fun v q => by rw [hd] at q; cases q⟩
  keep := fun i h h' st k => let ⟨⟨old, he⟩, hi, hne⟩ := st; ⟨⟨old, k e (by simp) _ he⟩, hi.at fun o q => k it (by simp) o q, hne⟩
  item := by
    intro X hP hw hK hc i pins s σ H E I hf st hg
    subst hP hw hK
    obtain ⟨⟨old, he⟩, hit, hne⟩ := st
    obtain ⟨xs, x, hq, hx⟩ := hg
    obtain ⟨its, rv, p, hz⟩ := I.tuple hq
    obtain ⟨u, hu, ru⟩ := rv.get hx
    have hel : e < s.heap.objs.size := Heap.lt_size he
    have hil : it < s.heap.objs.size := by obtain ⟨_, q, _⟩ := hit; exact Heap.lt_size q
    have hlt : i < its.toArray.size := by
      rw [List.size_toArray]
      exact (List.getElem?_eq_some_iff.mp hu).1
    refine wpAny_pyNext_enum_itemD (Draws.tuple (A := X.A.in1) (I.ok.hd hc) it a hai its.toArray) he ⟨hit, p⟩ hlt hne (by simp [hne, Ne.symm hae]) fun x' h' tk hp ho hst' hT hsz hk => ?_
    have hx' : x' = u := by
      have q : its[i]? = some x' := by simpa using hp
      rw [hu] at q; cases q; rfl
    subst hx'
    refine ⟨_, rfl, wpAny_letOwnedTupleGo_enum (s := { s with heap := h', toks := tk + 1 }) ho fun h'' he' sb => ?_⟩
    have hT2 : h''.get? s.heap.objs.size = some { cls := .type "tuple", data := .seq #[.int i tk, x'] } := (sb.2 _ (Nat.ne_of_gt hel)).trans hT
    have new : ObjOk X.prog X.w (upd H s.heap.objs.size (.tup [.int (i : Nat), x])) h'' s.heap.objs.size (.tup [.int (i : Nat), x]) :=
      ⟨by show 2 ≤ sizeLine; decide, [.int i tk, x'], .cons ⟨_, rfl⟩ (.cons ru .nil), ⟨_, hT2, rfl, _, rfl⟩⟩
    have I1 : Inv X pins σ (upd H s.heap.objs.size (.tup [.int (i : Nat), x])) { s with heap := h'', toks := tk + 1 } :=
      I.turnedNew (ch := [e, it]) (fun b ob hb q => (sb.2 b (fun z => hb (by simp [z]))).trans (hk b ob (fun z => hb (by simp [z])) (fun z => hb (by simp [z])) q)) hf (Nat.le_refl _) new
    refine ⟨.ref s.heap.objs.size, _, I1, rfl, ⟨_, x, rfl, I.hok.fresh (Nat.le_refl _), rfl, fun ys hy => by rw [I.tuple_inj hy hq]; exact hx⟩, ⟨⟨x', ?_⟩, hst'.1.at fun o q => (sb.2 it (Ne.symm hne)).trans q, hne⟩, fun b hb => ?_⟩
    · have e1 : ((i + 1 : Nat) : Int) = (i : Int) + 1 := by omega
      rw [e1]; exact he'
    · have hb' : b < s.heap.objs.size := by
        have e' : b = e ∨ b = it := by simpa using hb
        rcases e' with z | z
        · rw [z]; exact hel
        · rw [z]; exact hil
      rw [upd_ne (Nat.ne_of_lt hb')]
      exact (hf b hb).1
  done := by
    intro X hP hw hK hc i pins s σ H E I hf st hg
    subst hP hw hK
    obtain ⟨⟨old, he⟩, hit, hne⟩ := st
    obtain ⟨xs, hq, hx⟩ := hg
    obtain ⟨its, rv, p, hz⟩ := I.tuple hq
    have hl : its.toArray.size = i := by rw [List.size_toArray, hx]; exact rv.length.symm
    obtain ⟨f0, f1, f2, f3, f4, f5⟩ := hf it (by simp)
    refine wpAny_pyNext_enum_endD (n := its.toArray.size) (Draws.tuple (A := X.A.in1) (I.ok.hd hc) it a hai its.toArray) he (by rw [hl]; exact ⟨hit, p⟩) fun h' eb => ⟨rfl, I.turned (t' := s.toks) (fun b o hb q => eb b o hb q) f0 f1 f3 f4 f5⟩
  self := fun A i s Q E st h => let ⟨⟨_, he⟩, _⟩ := st; wpAny_pyIter_enum he h
set_option maxHeartbeats 4000000 in
theorem meets_enumerate_newT {v : Value} {o : Obj} {H : Heap → Prop} (B : PySem.Begins v o H) :
    Meets (Builtin.«enumerate.__new__» ⟨[.type "enumerate", v], []⟩) (fun _ R s => H s.heap ∧
      R (.ok (.ret (.ref (s.heap.push o).objs.size))) { s with heap := (s.heap.push o).push { cls := .type "enumerate", data := .fields #[.none, .bool false, .ref s.heap.objs.size, rawInt 0, .none, .none] } }) :=
  .of_wp fun prog w A R s h => by
    obtain ⟨hp, g, d, tk, os⟩ := s; obtain ⟨h1, h⟩ := h
    have hsub := sub_enumerate
    have q1 : ∀ {A' : Around} {E : Value → Shared → Prop} {Q : Value → Shared → Prop}, Q (.ref hp.objs.size) ⟨hp.push o, g, d, tk, os⟩ → wpAny (model prog w) A' (pyIter v) Q E ⟨hp, g, d, tk, os⟩ :=
      fun q => B.iter prog w _ _ ⟨hp, g, d, tk, os⟩ _ h1 q
    wp_walk using q1
    refine wpAny_stack_any fun st => wpAny_pure ?_
    split
    · rename_i c _ _ _ _ _
      cases (c == Value.type "enumerate")
      · wp_walk using q1
        exact ⟨_, rfl, h⟩
      · wp_walk using q1
        exact ⟨_, rfl, h⟩
    · wp_walk using q1
      exact ⟨_, rfl, h⟩
section
variable {prog : Program} {w : World} {A : Around} {E : Value → Shared → Prop} {s : Shared}
theorem call_enumerate_tup {l : Addr} {items : Array Value} {Q : Value → Shared → Prop} (hL : s.heap.IsTuple l items)
    (h : ∀ h', IsEnum h' (s.heap.objs.size + 1) s.heap.objs.size 0 .none → h'.IsTupleIter s.heap.objs.size l 0 → h'.objs.size = s.heap.objs.size + 2 →
      (∀ b o, s.heap.get? b = some o → h'.get? b = some o) → Q (.ref (s.heap.objs.size + 1)) { s with heap := h' }) :
    wpAny (model prog w) A (call (.type "enumerate") [.ref l]) Q E s := by
  refine callType_new F.called_enumerate (by decide) (F.typeCall_enumerate_1 _) (F.newCall_enumerate_1 _) (fun obj => F.args_object_init_2 obj _) F.entry_enumerate_new
    (meets_enumerate_newT (begins_tuple l items)) ⟨hL, ?_⟩
  have hz : (s.heap.push { cls := .type "tuple_iterator", data := .fields #[.ref l, .int 0 0] }).objs.size = s.heap.objs.size + 1 := Heap.size_push ..
  show _ ∧ _
  rw [hz]
  have he : IsEnum ((s.heap.push { cls := .type "tuple_iterator", data := .fields #[.ref l, .int 0 0] }).push
      { cls := .type "enumerate", data := .fields #[.none, .bool false, .ref s.heap.objs.size, rawInt 0, .none, .none] }) (s.heap.objs.size + 1) s.heap.objs.size 0 .none := by
    have := Heap.get?_push_size (s.heap.push { cls := .type "tuple_iterator", data := .fields #[.ref l, .int 0 0] })
      (o := { cls := .type "enumerate", data := .fields #[.none, .bool false, .ref s.heap.objs.size, rawInt 0, .none, .none] }) rfl
    rw [hz] at this; exact this
  refine ⟨⟨_, he, rfl⟩, h _ he ⟨_, Heap.get?_push_of_some _ (Heap.get?_push_size _ rfl), rfl, rfl⟩ (by rw [Heap.size_push, hz]) fun b o x => Heap.get?_push_of_some _ (Heap.get?_push_of_some _ x)⟩
end
def iEnumT (K : PySem.W.Frag) (ta : TA) : TI := fun σ H R => ta σ H fun vs H1 => ∃ a xs, vs = [.ref a] ∧ SqT K H1 a xs ∧ R (IteT K a) H1
theorem pi_enumT {X : Cx} {e : Expr} {ta : TA} {p pos tpos : Pos} {elts : List Expr} {kk : Nat} (hg : Gl X "enumerate") (hm : X.mg "enumerate" = none) (ha : PA X [e] ta) (hs : starEach [e] X.env = (false, eval e X.env) :: starEach [] X.env := by rfl) :
    PI X (.Tuple elts kk tpos) (.Call (.Name "enumerate" p) [e] [] pos) (iEnumT X.K ta) := by
  refine ⟨fun pins s σ H R I h => ?_⟩
  refine PyProof.Rows.Call_ (ld_blt I hg hm PyProof.Rows.boot_enumerate (PyProof.Rows.callWith_type1 (thn (ha.run pos pins s σ H _ I h) fun us s1 ⟨vs, H1, I1, r1, q1⟩ => ?_) hs rfl))
  obtain ⟨a, xs, ex, hq, q⟩ := q1
  subst ex
  cases r1 with
  | cons r rr =>
    cases rr
    cases r
    obtain ⟨its, rv, p', hz⟩ := I1.tuple hq
    have hal : a < s1.heap.objs.size := p'.lt
    refine call_enumerate_tup (show s1.heap.IsTuple a its.toArray from p') fun h' he hit hsz hk => wpAny_pyIter_enum he ?_
    have I2 : Inv X pins σ H1 { s1 with heap := h' } := I1.kept (t' := s1.toks) hk
    refine ⟨s1.heap.objs.size + 1, [s1.heap.objs.size + 1, s1.heap.objs.size], _, _, H1, rfl, I2, turn_enumT a (s1.heap.objs.size + 1) s1.heap.objs.size (Nat.ne_of_lt (Nat.lt_succ_of_lt hal)) (Nat.ne_of_lt hal), ⟨⟨.none, he⟩, hit, Nat.succ_ne_self _⟩, fun b hb => ?_, q⟩
    have e' : b = s1.heap.objs.size + 1 ∨ b = s1.heap.objs.size := by simpa using hb
    have hle : s1.heap.objs.size ≤ b := by
      rcases e' with z | z
      · rw [z]; exact Nat.le_add_right _ _
      · rw [z]; exact Nat.le_refl _
    exact I1.fpOk hle (I1.hok.fresh hle)
theorem walk_enumT {K : PySem.W.Frag} {a : Addr} {xs : List V} : Walk (IteT K a) xs.length (fun H => SqT K H a xs) (YPair (fun i => some (.int (i : Nat))) (fun i => xs[i]?)) := by
  refine ⟨fun i _ hi q => ⟨xs, xs[i], q, by simp [hi]⟩, fun _ q => ⟨xs, q, rfl⟩, fun i H v H' _ q y => ?_⟩
  obtain ⟨T, x, h1, h2, h3, h4⟩ := y
  exact ⟨T, .int (i : Nat), x, h1, h2, h3, rfl, h4 xs q⟩
@[simp] def enumD : Nat → List PyData → List PyData
  | _, [] => []
  | n, d :: ds => .tuple [.int n, d] :: enumD (n + 1) ds
theorem enumD_len : ∀ (n : Nat) (ds : List PyData), (enumD n ds).length = ds.length
  | _, [] => rfl
  | n, d :: ds => by simp [enumD, enumD_len (n + 1) ds]
theorem enumD_get : ∀ {n : Nat} {ds : List PyData} {i : Nat} {z : PyData}, (enumD n ds)[i]? = some z → ∃ d, ds[i]? = some d ∧ z = .tuple [.int ((n + i : Nat) : Int), d]
  | _, [], _, _, h => by simp [enumD] at h
  | n, d :: ds, 0, z, h => by simp [enumD] at h; exact ⟨d, rfl, by simp [h]⟩
  | n, d :: ds, i + 1, z, h => by
    obtain ⟨d', h1, h2⟩ := enumD_get (n := n + 1) (ds := ds) (i := i) (by simpa [enumD] using h)
    refine ⟨d', by simpa using h1, ?_⟩
    rw [h2]
    have : n + 1 + i = n + (i + 1) := by omega
    rw [this]
@[simp] def iEnumD (f : DE) : DS → Option (List PyData) := fun ρ => match f ρ with
  | some (.tuple ds) => some (enumD 0 ds)
  | _ => none
section
variable {X : Cx} {a b : Expr} {f g : DE} {pos p kp kp2 : Pos}
theorem pdi_enum {elts : List Expr} {kk : Nat} {tpos : Pos} (T : Blt X.mg) (ha : PD X a f) (hg : Gl X "enumerate" := by rfl) (hs : starEach [a] X.env = (false, eval a X.env) :: starEach [] X.env := by rfl) :
    PDI X (.Tuple elts kk tpos) (.Call (.Name "enumerate" p) [a] [] pos) (iEnumD f) := by
  refine ⟨_, pi_enumT hg T.enumerate (pa_cons ha pa_nil hs) hs, fun ρ ds σ H R rp q k => ?_⟩
  unfold iEnumD at q
  split at q
  · rename_i d1 h1
    cases q
    refine ⟨ρ, _, rp, h1, fun v H1 s1 dv => ?_⟩
    cases dv with
    | @tup a xs _ hq ha =>
      refine ⟨a, xs, rfl, hq, k _ H1 s1 ⟨fun H => SqT X.K H a xs, YPair (fun i => some (.int (i : Nat))) (fun i => xs[i]?), ?_, fun H' s' => SqT.mono s' hq, ?_⟩⟩
      · have w := walk_enumT (K := X.K) (a := a) (xs := xs)
        rw [ha.len] at w
        rw [enumD_len]
        exact w
      · rintro i H' x H'' d hd s' ⟨T, y, z, rfl, hT, rfl, hy, hz⟩
        obtain ⟨e1, h3, rfl⟩ := enumD_get hd
        obtain ⟨e2, h4, dd⟩ := ha.getV hz
        rw [h3] at h4; cases h4
        cases hy
        have s : Same H' (upd H' T (.tup [.int (i : Nat), z])) := fun c o e => by rw [upd_ne (ne_of_none e hT)]; exact e
        refine ⟨s, .tup (SqT.of upd_same) (.cons ?_ (.cons (Dp.mono (s'.trans s) _ _ dd) .nil))⟩
        rw [Nat.zero_add]
        exact .int _
  · cases q
end
end KW
/-! DLy: sorted of the empty tuple, comprehensions with a test -/
namespace KW
open PySem PySem.Spec L2
section
open PyProof.Rows
variable {prog : Program} {w : World} {A : Around} {E : Value → Shared → Prop} {s : Shared}
theorem collect_tup {l : Addr} {vs : List Value} {Q : List Value → Shared → Prop} (hl : s.heap.IsTuple l vs.toArray)
    (h : Q vs { s with heap := (s.heap.push (seqObj "list" #[] 0)).update s.heap.objs.size (Obj.mapSeq (· ++ vs.toArray)) }) (hsz : vs.length ≤ sizeLine := by size_fits) :
    wpAny (model prog w) A (collect (.ref l)) Q E s := by
  obtain ⟨o, ho, hc, n, hd⟩ := id hl
  unfold collect
  refine wpAny_bind (wpAny_runValue (codeAny_builtin entry_proto_collect' ?_))
  show wpAny _ _ (do again (.builtin "list.__iadd__" ⟨[← newList [], .ref l], []⟩)) _ _ s
  refine wpAny_bind (wpAny_newList (wpAny_pure ⟨Code.quiet_builtin _ (by decide +kernel), codeAny_builtin entry_list_iadd' ?_⟩))
  show wpAny _ _ (Builtin.List.listExtendWith (.ref s.heap.objs.size) (.ref l) (.ref s.heap.objs.size)) _ _ { s with heap := s.heap.push (seqObj "list" #[] 0) }
  unfold Builtin.List.listExtendWith
  have ho' : (s.heap.push (seqObj "list" #[] 0)).get? l = some o := Heap.get?_push_of_some _ ho
  refine wpAny_bind (wpAny_typeOf (T := "tuple") ⟨o, ho', hc⟩ ?_)
  have ht : (Value.type "tuple" == Value.type "tuple") = true := by rfl
  rw [if_pos (by rw [ht]; simp)]
  refine wpAny_bind (listItems_at ho' hd ?_)
  refine wpAny_bind (listItems_at (xs := #[]) (n := 0) (Heap.get?_push_size _ rfl) rfl ?_)
  rw [if_neg (by simp)]
  refine wpAny_bind (listUpdate_at (xs := #[]) (n := 0) (Heap.get?_push_size _ rfl) rfl ?_ (Nat.zero_le _) (by show (#[] ++ vs.toArray).size ≤ sizeLine + 1; simp only [Array.size_append, List.size_toArray, List.length_nil]; omega))
  refine wpAny_pure ?_
  show wpAny (model prog w) A (do
      let o ← load s.heap.objs.size
      match o.data with
      | .seq xs _ => pure xs.toList
      | _ => unsupported "internal:collect") Q E { s with heap := (s.heap.push (seqObj "list" #[] 0)).update s.heap.objs.size (Obj.mapSeq (· ++ vs.toArray)) }
  refine wpAny_bind (wpAny_load (get?_update_seq (Heap.get?_push_size _ rfl) _) ?_)
  show wpAny _ _ (pure ((#[] : Array Value) ++ vs.toArray).toList) Q E _
  rw [show ((#[] : Array Value) ++ vs.toArray).toList = vs by simp]
  exact wpAny_pure h
theorem sorted_tup {l : Addr} {vs : List Value} {ns : List Int} {Q : Value → Shared → Prop} (hl : s.heap.IsTuple l vs.toArray) (hI : IntsAre vs ns) (h64 : vs.length < 64)
    (h : ∀ (out : Array Value) (ns' : List Int), IntsAre out.toList ns' → ns'.Perm ns → ns'.Pairwise (· ≤ ·) → Q (.ref (s.heap.objs.size + 1)) { s with heap := sortedAll s.heap vs out }) :
    wpAny (model prog w) A (call (.builtin "sorted") [.ref l]) Q E s := by
  refine Calls.call_function_entry kind_sorted plain_sorted entry_sorted (args_sorted1 _) ?_
  unfold Builtin.«sorted»
  refine wpAny_bind (m := checkCount "sorted" 1 1 _) (wpAny_pure ?_)
  refine wpAny_bind (collect_tup hl ?_ (by rw [sizeLine_eq]; omega))
  refine wpAny_bind (PySem.wpAny_newList ?_ (by rw [sizeLine_eq]; omega))
  have hsz : ((s.heap.push (seqObj "list" #[] 0)).update s.heap.objs.size (Obj.mapSeq (· ++ vs.toArray))).objs.size = s.heap.objs.size + 1 := by
    rw [Heap.size_update, size_push']
  have hoL : (((s.heap.push (seqObj "list" #[] 0)).update s.heap.objs.size (Obj.mapSeq (· ++ vs.toArray))).push (seqObj "list" vs.toArray 0)).get? (s.heap.objs.size + 1) = some (seqObj "list" vs.toArray 0) := by
    rw [← hsz]; exact Heap.get?_push_size _ rfl
  show wpAny _ _ _ _ _ { s with heap := ((s.heap.push (seqObj "list" #[] 0)).update s.heap.objs.size (Obj.mapSeq (· ++ vs.toArray))).push (seqObj "list" vs.toArray 0) }
  rw [hsz]
  refine wpAny_bind (wpAny_holding (wpAny_call_entry slot_list_sort ⟨_, hoL, rfl⟩ entry_list_sort (list_sort_tree hoL hI h64 fun out ns' a1 a2 a3 => ⟨_, rfl, ?_⟩) (args_list_sort _)))
  exact wpAny_pure ⟨_, rfl, h out ns' a1 a2 a3⟩
end
section
variable {X : Cx} {a : Expr} {f : DE} {pos p : Pos}
/-- sorted(()) -/
@[simp] def eSorted0 (f : DE) : DE := fun ρ => match f ρ with
  | some (.tuple []) => some (.list [])
  | _ => none
theorem cr_sorted0 : CallR X (.builtin "sorted") (fun vs H Q => ∃ a, vs = [.ref a] ∧ SqT X.K H a [] ∧ ∀ p, H p = none → Q (.ref p) (upd H p (.lst []))) := by
  intro pins s σ H vs us Q I r h
  obtain ⟨a, rfl, hs, q⟩ := h
  obtain ⟨its, rv, hl, _⟩ := I.tuple hs
  rw [Vals.ref1 r]
  cases rv
  refine sorted_tup (show s.heap.IsTuple a ([] : List Value).toArray from hl) (ns := []) .nil (by decide) fun out ns' h1 h2 h3 => ?_
  have e : ns' = [] := List.Perm.eq_nil h2
  subst e
  have e2 : out.toList = [] := by cases h : out.toList with
    | nil => rfl
    | cons x r => rw [h] at h1; cases h1
  obtain ⟨ep, he'⟩ := PyProof.Rows.sortedAll_at s.heap [] out
  exact ⟨.ref _, upd H (s.heap.objs.size + 1) (.lst []), I.laid (t' := s.toks) (fun _ _ => PyProof.Rows.sortedAll_old) (Nat.le_succ _) ⟨Nat.zero_le _, out.toList, ep, by rw [e2]; exact .nil, he'⟩, rfl, q _ (I.hok.fresh (Nat.le_succ _))⟩
theorem pd_sorted0 (T : Blt X.mg) (ha : PD X a f) (hg : Gl X "sorted" := by rfl) (hs : starEach [a] X.env = (false, eval a X.env) :: starEach [] X.env := by rfl) : PD X (.Call (.Name "sorted" p) [a] [] pos) (eSorted0 f) :=
  (pe_callB cr_sorted0 hg T.sorted (by decide +kernel) (pa_cons ha pa_nil hs) (he := hs)).imp fun σ H Q ⟨ρ, z, rp, e, k⟩ => by
    unfold eSorted0 at e
    split at e
    · cases e
      refine ⟨ρ, _, rp, by assumption, fun v H1 s1 d => ?_⟩
      cases d with
      | @tup a xs _ hq ha =>
        cases ha
        refine ⟨_, rfl, hq, fun p hp => ?_⟩
        have s : Same H1 (upd H1 p (.lst [])) := fun c o e => by rw [upd_ne (ne_of_none e hp)]; exact e
        exact k _ _ (s1.trans s) (.lst (SqL.of upd_same) .nil)
    · cases e
end
/-! ### [elt for tg in iter if test] -/
def dMapI (g : DG) (q : DT) (f : DE) (ρ : DS) : List PyData → Option (List PyData)
  | [] => some []
  | d :: ds => match g d ρ with
    | some ρ1 => (match q ρ1 with
      | some true => (match f ρ1, dMapI g q f ρ ds with
        | some z, some zs => some (z :: zs)
        | _, _ => none)
      | some false => dMapI g q f ρ ds
      | none => none)
    | none => none
def tNo : TE := fun _ _ _ => False
/-- none is taken -/
@[simp] def eLcNo (vs : List Nat) (it : DS → Option (List PyData)) (g : DG) (q : DT) : DE := fun ρ => match it ρ with
  | some ds => if (ds.all fun d => match g d (wipeD ρ vs) with
      | some ρ1 => q ρ1 == some false
      | none => false) = true then some (.list []) else none
  | none => none
section
variable {X : Cx} {a b c e tg : Expr} {f : DE} {pos : Pos} {q : DT} {gg : DG} {vs : List Nat} {it : DS → Option (List PyData)} {scope : Scope} {elt iter : Expr}
theorem pd_lcNo {sc : Scope} (own : List (Str × Nat)) (hi : PDI X tg iter it) (ok : BlkOk X.N X.env.scope scope own) (hv : ∀ j ∈ vs, j ∈ own.map (·.2)) (hN : X.N.Nodup)
    (hg : ∀ (s : Shared) (H : Hp) (C : Addr) (cl : List (Str × Addr)) (fp : List Addr), PDG (X.blk s H scope (compEnvC scope cl C X.env) fp) vs tg gg)
    (hq : ∀ (s : Shared) (H : Hp) (C : Addr) (cl : List (Str × Addr)) (fp : List Addr), PDT (X.blk s H scope (compEnvC scope cl C X.env) fp) c q) (hc : X.calm = true := by rfl) (hs : ∀ x, foldedSetIterable iter X.env x = pure x := by intro _; rfl) :
    PD X (.ListComp elt [⟨tg, iter, [c], 0⟩] scope pos) (eLcNo (own.map (·.2)) it gg q) := by
  obtain ⟨wi, hw, hk⟩ := hi.ex
  refine PE.imp (pe_lc (own := own) (g := tG X.K vs gg) (tt := tT X.K q) (te := tNo) hc hN hw ok hg (fun s H C cl fp => pts_one (hq s H C cl fp)) (fun _ _ _ _ _ => pe_never) hs) fun σ H Q ⟨ρ, z, rp, e, k⟩ => ?_
  unfold eLcNo at e
  split at e
  · rename_i ds h1
    split at e
    · rename_i hall
      cases e
      refine hk ρ ds σ H _ rp h1 fun J H1 s1 ⟨G, Y, W, hG, hY⟩ D hD => ?_
      refine lc_it (te := tNo) W (fun i H' => Same H1 H' ∧ H' D = some (.lst [])) ?_ ?_ ?_ ?_
      · exact ⟨fun b o e => by rw [upd_ne (ne_of_none e hD)]; exact e, upd_same⟩
      · rintro i H' hi ⟨s', _⟩
        exact hG _ s'
      · rintro i x H' H'' hi ⟨s', ha⟩ y
        have hd : ds[i]? = some ds[i] := List.getElem?_eq_getElem hi
        obtain ⟨s2, dx⟩ := hY i H' x H'' ds[i] hd s' y
        have hi2 := List.all_eq_true.mp hall ds[i] (List.getElem_mem hi)
        split at hi2
        · rename_i ρ1 h3
          refine ⟨wipeD ρ _, ds[i], ρ1, (rp.mono ((s1.trans s').trans s2)).wipe _, dx, h3, fun σ3 H3 s3 r3 o3 => ⟨?_, ?_⟩⟩
          · have := (o3.mono hv).wipe
            rw [wipe_wipe] at this
            exact this
          · refine ⟨ρ1, false, r3, by simpa using hi2, fun H4 s4 => ?_⟩
            apply iteF
            have st := s2.trans (s3.trans s4)
            exact ⟨s'.trans st, st _ _ ha⟩
        · cases hi2
      · rintro H' ⟨s', ha⟩
        exact k _ _ (s1.trans s') (.lst (SqL.of ha) .nil)
    · cases e
  · cases e
end
end KW
/-! DLx: zip(t, u, strict=True) of two tuples of one length -/
namespace KW
open PySem PySem.Spec L2
abbrev IsZipS (h : Heap) (z TI TO : Addr) (f0 : Value) : Prop :=
  h.get? z = some { cls := .type "zip", dict := none, data := .fields #[f0, .bool false, .bool true, .ref TI, .ref TO], slots := #[] }
section
variable {prog : Program} {w : World} {A : Around} {E : Value → Shared → Prop} {s : Shared}
theorem nextOrEnd_item {it l : Addr} {i : Nat} {items} {x : Value} {Q : Option Value → Shared → Prop} (hit : s.heap.IsTupleIter it l i) (hl : s.heap.IsTuple l items) (hx : items[i]? = some x)
    (hQ : ∀ h', h'.IsTupleIter it l (i + 1) → Heap.SameBut it s.heap h' → Q (some x) { s with heap := h' }) : wpAny (model prog w) A (Builtin.SmallTypes.nextOrEnd (.ref it)) Q E s := by
  unfold Builtin.SmallTypes.nextOrEnd
  exact wpAny_bind (wpAny_attempt (RZ.nextOf_tuple_item hit hl hx fun h' a b => wpAny_pure (hQ h' a b)))
theorem nextOrEnd_end {it l : Addr} {i : Nat} {items} {Q : Option Value → Shared → Prop} (hh : A.handled = none) (hit : s.heap.IsTupleIter it l i) (hl : s.heap.IsTuple l items) (hx : items[i]? = none)
    (hQ : ∀ h', Heap.ExtBut it s.heap h' → Q none { s with heap := h' }) : wpAny (model prog w) A (Builtin.SmallTypes.nextOrEnd (.ref it)) Q E s := by
  unfold Builtin.SmallTypes.nextOrEnd
  refine wpAny_bind (wpAny_attempt (RZ.nextOf_tuple_end hh hit hl hx fun h' e a he => ?_))
  obtain ⟨o, ho, hc⟩ := he
  refine wpAny_bind (wpAny_isInstance (T := "StopIteration") (b := true) ⟨o, ho, hc⟩ isSubtype_stop ?_)
  exact wpAny_pure (hQ _ a)
theorem zipS_next_item {z TI TO i1 i2 l1 l2 : Addr} {k1 k2 : Nat} {xs ys : Array Value} {x y a b : Value} {Q : Value → Shared → Prop} (D : ZipApart z TI TO i1 i2 l1 l2)
    (hz : IsZipS s.heap z TI TO .none) (hTI : IsPair s.heap TI (.ref i1) (.ref i2)) (hTO : IsPair s.heap TO a b)
    (h1 : s.heap.IsTupleIter i1 l1 k1) (h2 : s.heap.IsTupleIter i2 l2 k2) (hl1 : s.heap.IsTuple l1 xs) (hl2 : s.heap.IsTuple l2 ys) (hx : xs[k1]? = some x) (hy : ys[k2]? = some y)
    (hQ : ∀ h', IsZipS h' z TI TO (rawInt s.heap.objs.size) → IsPair h' TO x y → h'.IsTupleIter i1 l1 (k1 + 1) → h'.IsTupleIter i2 l2 (k2 + 1) → IsPair h' s.heap.objs.size x y →
      (∀ c o, c ≠ z → c ≠ TO → c ≠ i1 → c ≠ i2 → s.heap.get? c = some o → h'.get? c = some o) → Q (.ref s.heap.objs.size) { s with heap := h' }) :
    wpAny (model prog w) A (Builtin.«zip.__next__» ⟨[.ref z], []⟩) (fun fin s' => ∃ v, fin = .done (.ret v) ∧ Q v s') E s := by
  show wpAny _ _ (field (.ref z) 2 >>= _) _ _ _
  refine wpAny_bind (wpAny_field hz rfl (x := .bool true) rfl ?_)
  show wpAny _ _ (field (.ref z) 3 >>= _) _ _ _
  refine wpAny_bind (wpAny_field hz rfl (x := .ref TI) rfl (wpAny_bind (wpAny_seqItems hTI rfl ?_)))
  show wpAny _ _ (Builtin.SmallTypes.ownedTupleIsFree (.ref z) >>= _) _ _ _
  refine wpAny_bind ?_
  unfold Builtin.SmallTypes.ownedTupleIsFree
  refine wpAny_bind (wpAny_field hz rfl (x := .none) rfl (wpAny_pure ?_))
  simp only [if_true]
  refine wpAny_bind (wpAny_rule (wpAny_bind (wpAny_field hz rfl (x := .ref TO) rfl (wpAny_bind (wpAny_setField_rec hz (by simp) fun ha za sa => ?_)))))
  replace za : IsZipS ha z TI TO .ellipsis := za
  refine wpAny_bind ?_
  simp only [List.zipIdx_cons, List.zipIdx_nil, List.forIn_cons, List.forIn_nil]
  -- the first
  refine wpAny_bind (wpAny_bind (wpAny_onRaise ?_))
  show wpAny _ _ (Builtin.SmallTypes.nextOrEnd (.ref i1)) _ _ _
  refine nextOrEnd_item (h1.extBut sa.extBut D.i1z) (hl1.extBut sa.extBut D.l1z) hx fun hb ib sb => ?_
  have Tb : IsPair hb TO a b := sb.extBut _ _ D.TOi1 (sa.extBut _ _ D.TOz hTO)
  refine wpAny_bind (wpAny_seqItems Tb rfl (wpAny_bind (wpAny_updateSeq_pair Tb fun hc Tc sc => ?_)))
  replace Tc : IsPair hc TO x b := Tc
  refine wpAny_bind (wpAny_letGo (wpAny_pure ?_))
  -- the second
  refine wpAny_bind (wpAny_bind (wpAny_onRaise ?_))
  show wpAny _ _ (Builtin.SmallTypes.nextOrEnd (.ref i2)) _ _ _
  refine nextOrEnd_item (((h2.extBut sa.extBut D.i2z).extBut sb.extBut D.i12.symm).extBut sc.extBut D.TOi2.symm) (((hl2.extBut sa.extBut D.l2z).extBut sb.extBut D.l2i1).extBut sc.extBut D.l2TO) hy fun hd jd sd => ?_
  have Td : IsPair hd TO x b := sd.extBut _ _ D.TOi2 Tc
  refine wpAny_bind (wpAny_seqItems Td rfl (wpAny_bind (wpAny_updateSeq_pair Td fun he Te se => ?_)))
  replace Te : IsPair he TO x y := Te
  refine wpAny_bind (wpAny_letGo (wpAny_pure (wpAny_pure ?_)))
  refine wpAny_bind (wpAny_seqItems Te rfl (wpAny_bind (wpAny_newTuple ?_)))
  have size : he.objs.size = s.heap.objs.size := by rw [se.1, sd.1, sc.1, sb.1, sa.1]
  have ze : IsZipS he z TI TO .ellipsis := se.extBut _ _ D.TOz.symm (sd.extBut _ _ D.i2z.symm (sc.extBut _ _ D.TOz.symm (sb.extBut _ _ D.i1z.symm za)))
  have keep : ∀ c o, c ≠ z → c ≠ TO → c ≠ i1 → c ≠ i2 → s.heap.get? c = some o → he.get? c = some o := fun c o c1 c2 c3 c4 e =>
    se.extBut _ _ c2 (sd.extBut _ _ c4 (sc.extBut _ _ c2 (sb.extBut _ _ c3 (sa.extBut _ _ c1 e))))
  have ie : he.IsTupleIter i1 l1 (k1 + 1) := ((ib.extBut sc.extBut D.TOi1.symm).extBut sd.extBut D.i12).extBut se.extBut D.TOi1.symm
  have je : he.IsTupleIter i2 l2 (k2 + 1) := jd.extBut se.extBut D.TOi2.symm
  have zlt : z < he.objs.size := Heap.lt_size ze
  show wpAny _ _ (Builtin.SmallTypes.ownedTupleHandOut (.ref z) (.ref he.objs.size) >>= _) _ _ _
  refine wpAny_bind ?_
  unfold Builtin.SmallTypes.ownedTupleHandOut
  have zf : IsZipS (he.push { cls := .type "tuple", data := .seq #[x, y] }) z TI TO .ellipsis := Heap.get?_push_of_some _ ze
  refine wpAny_bind (wpAny_setField_rec zf (by simp) fun hg zg sg => ?_)
  replace zg : IsZipS hg z TI TO (rawInt he.objs.size) := zg
  refine wpAny_setField_rec zg (by simp) fun hk zk sk => ?_
  replace zk : IsZipS hk z TI TO (rawInt he.objs.size) := zk
  have up : ∀ c o, c ≠ z → he.get? c = some o → hk.get? c = some o := fun c o c1 e => sk.extBut _ _ c1 (sg.extBut _ _ c1 (Heap.get?_push_of_some _ e))
  have Tk : IsPair hk he.objs.size x y := sk.extBut _ _ (Nat.ne_of_gt zlt) (sg.extBut _ _ (Nat.ne_of_gt zlt) (Heap.get?_push_size _ rfl))
  rw [size] at zk Tk
  refine wpAny_pure ⟨_, rfl, ?_⟩
  show Q (.ref he.objs.size) _
  rw [size]
  exact hQ hk zk (up _ _ D.TOz Te) (ie.at fun o e => up _ o D.i1z e) (je.at fun o e => up _ o D.i2z e) Tk fun c o c1 c2 c3 c4 e => up c o c1 (keep c o c1 c2 c3 c4 e)
theorem wp_if_neg {α : Type} {M : Model} {c : Prop} [Decidable c] {a b : Sem α} {Q : α → Shared → Prop} (h : ¬ c) (hb : wpAny M A b Q E s) : wpAny M A (if c then a else b) Q E s := by
  rw [if_neg h]; exact hb
theorem wp_if_pos {α : Type} {M : Model} {c : Prop} [Decidable c] {a b : Sem α} {Q : α → Shared → Prop} (h : c) (ha : wpAny M A a Q E s) : wpAny M A (if c then a else b) Q E s := by
  rw [if_pos h]; exact ha
/-- both at their end -/
theorem zipS_next_end {z TI TO i1 i2 l1 l2 : Addr} {k1 k2 : Nat} {xs ys : Array Value} {a b : Value} {Q : Fin → Shared → Prop} (hh : A.handled = none) (D : ZipApart z TI TO i1 i2 l1 l2)
    (hz : IsZipS s.heap z TI TO .none) (hTI : IsPair s.heap TI (.ref i1) (.ref i2)) (hTO : IsPair s.heap TO a b)
    (h1 : s.heap.IsTupleIter i1 l1 k1) (h2 : s.heap.IsTupleIter i2 l2 k2) (hl1 : s.heap.IsTuple l1 xs) (hl2 : s.heap.IsTuple l2 ys) (hx : xs[k1]? = none) (hy : ys[k2]? = none)
    (hE : ∀ h' e, (∀ c o, c ≠ z → c ≠ TO → c ≠ i1 → c ≠ i2 → s.heap.get? c = some o → h'.get? c = some o) → (∃ o, h'.get? e = some o ∧ o.cls = .type "StopIteration") → E (.ref e) { s with heap := h' }) :
    wpAny (model prog w) A (Builtin.«zip.__next__» ⟨[.ref z], []⟩) Q E s := by
  show wpAny _ _ (field (.ref z) 2 >>= _) _ _ _
  refine wpAny_bind (wpAny_field hz rfl (x := .bool true) rfl ?_)
  show wpAny _ _ (field (.ref z) 3 >>= _) _ _ _
  refine wpAny_bind (wpAny_field hz rfl (x := .ref TI) rfl (wpAny_bind (wpAny_seqItems hTI rfl ?_)))
  show wpAny _ _ (Builtin.SmallTypes.ownedTupleIsFree (.ref z) >>= _) _ _ _
  refine wpAny_bind ?_
  unfold Builtin.SmallTypes.ownedTupleIsFree
  refine wpAny_bind (wpAny_field hz rfl (x := .none) rfl (wpAny_pure ?_))
  simp only [if_true]
  refine wpAny_bind (wpAny_rule (wpAny_bind (wpAny_field hz rfl (x := .ref TO) rfl (wpAny_bind (wpAny_setField_rec hz (by simp) fun ha za sa => ?_)))))
  replace za : IsZipS ha z TI TO .ellipsis := za
  refine wpAny_bind ?_
  simp only [List.zipIdx_cons, List.zipIdx_nil, List.forIn_cons, List.forIn_nil]
  refine wpAny_bind (wpAny_bind (wpAny_onRaise ?_))
  show wpAny _ _ (Builtin.SmallTypes.nextOrEnd (.ref i1)) _ _ _
  refine nextOrEnd_end hh (h1.extBut sa.extBut D.i1z) (hl1.extBut sa.extBut D.l1z) hx fun hb sb => ?_
  have zb : IsZipS hb z TI TO .ellipsis := sb _ _ D.i1z.symm za
  refine wpAny_bind (wpAny_setField_rec zb (by simp) fun hc zc sc => ?_)
  refine wpAny_bind ?_
  refine wp_if_neg (c := (0 : Nat) > 0) (a := unsupported "") (by decide) ?_
  rw [if_neg (by decide)]
  simp only [List.drop_succ_cons, List.drop_zero, List.zipIdx_cons, List.zipIdx_nil, List.forIn_cons, List.forIn_nil]
  refine wpAny_bind (wpAny_bind (wpAny_bind (nextOrEnd_end hh (((h2.extBut sa.extBut D.i2z).extBut sb D.i12.symm).extBut sc.extBut D.i2z) (((hl2.extBut sa.extBut D.l2z).extBut sb D.l2i1).extBut sc.extBut D.l2z) hy fun hd sd => ?_)))
  simp only [Option.isSome_none, Bool.false_eq_true, if_false]
  refine wpAny_pure (wpAny_pure (wpAny_bind (wpAny_rule ?_)))
  show wpAny _ _ (PySem.newExc (.type "StopIteration") [] >>= _) _ _ _
  refine wpAny_bind ?_
  simp only [PySem.newExc, newTuple]
  refine wpAny_bind (wpAny_newObj_type ?_ (by size_fits))
  refine wpAny_bind (m := firstArgMember _ _) (wpAny_of_eq (a := Value.none) (by first | rfl | (simp only [firstArgMember]; rfl)) ?_)
  refine wpAny_newObj_type ?_ (by size_fits)
  simp only [raiseNew]
  refine wpAny_bind (wpAny_handled ?_)
  rw [hh]
  refine wpAny_bind (wpAny_pure (wpAny_throw ?_))
  exact hE _ _ (fun c o c1 _ c3 c4 x => Heap.get?_push_of_some _ (Heap.get?_push_of_some _ (sd _ _ c4 (sc.extBut _ _ c1 (sb _ _ c3 (sa.extBut _ _ c1 x)))))) ⟨_, Heap.get?_push_size _ rfl, rfl⟩
theorem pyNext_zipS_item {z TI TO i1 i2 l1 l2 : Addr} {k1 k2 : Nat} {xs ys : Array Value} {x y a b : Value} {Q : Option Value → Shared → Prop} (D : ZipApart z TI TO i1 i2 l1 l2)
    (hz : IsZipS s.heap z TI TO .none) (hTI : IsPair s.heap TI (.ref i1) (.ref i2)) (hTO : IsPair s.heap TO a b)
    (h1 : s.heap.IsTupleIter i1 l1 k1) (h2 : s.heap.IsTupleIter i2 l2 k2) (hl1 : s.heap.IsTuple l1 xs) (hl2 : s.heap.IsTuple l2 ys) (hx : xs[k1]? = some x) (hy : ys[k2]? = some y)
    (hQ : ∀ h', IsZipS h' z TI TO (rawInt s.heap.objs.size) → IsPair h' TO x y → h'.IsTupleIter i1 l1 (k1 + 1) → h'.IsTupleIter i2 l2 (k2 + 1) → IsPair h' s.heap.objs.size x y →
      (∀ c o, c ≠ z → c ≠ TO → c ≠ i1 → c ≠ i2 → s.heap.get? c = some o → h'.get? c = some o) → Q (some (.ref s.heap.objs.size)) { s with heap := h' }) :
    wpAny (model prog w) A (pyNext (.ref z)) Q E s := by
  have hT : s.TypeIs (.ref z) "zip" := ⟨_, hz, rfl⟩
  unfold pyNext
  exact wpAny_bind (wpAny_attempt (wpAny_callSpecial?_slot (name := Str.ofString "__next__") hT F.slot_zip_next
    (wpAny_call_entry F.slot_zip_next hT F.entry_zip_next (zipS_next_item D hz hTI hTO h1 h2 hl1 hl2 hx hy fun h' a1 a2 a3 a4 a5 a6 => wpAny_pure (hQ h' a1 a2 a3 a4 a5 a6)) (F.args_zip_next_1 _))))
theorem pyNext_zipS_end {z TI TO i1 i2 l1 l2 : Addr} {k1 k2 : Nat} {xs ys : Array Value} {a b : Value} {Q : Option Value → Shared → Prop} (hh : A.handled = none) (D : ZipApart z TI TO i1 i2 l1 l2)
    (hz : IsZipS s.heap z TI TO .none) (hTI : IsPair s.heap TI (.ref i1) (.ref i2)) (hTO : IsPair s.heap TO a b)
    (h1 : s.heap.IsTupleIter i1 l1 k1) (h2 : s.heap.IsTupleIter i2 l2 k2) (hl1 : s.heap.IsTuple l1 xs) (hl2 : s.heap.IsTuple l2 ys) (hx : xs[k1]? = none) (hy : ys[k2]? = none)
    (hQ : ∀ h', (∀ c o, c ≠ z → c ≠ TO → c ≠ i1 → c ≠ i2 → s.heap.get? c = some o → h'.get? c = some o) → Q none { s with heap := h' }) : wpAny (model prog w) A (pyNext (.ref z)) Q E s := by
  have hT : s.TypeIs (.ref z) "zip" := ⟨_, hz, rfl⟩
  unfold pyNext
  refine wpAny_bind (wpAny_attempt (wpAny_callSpecial?_slot (name := Str.ofString "__next__") hT F.slot_zip_next
    (wpAny_call_entry F.slot_zip_next hT F.entry_zip_next (zipS_next_end hh D hz hTI hTO h1 h2 hl1 hl2 hx hy fun h' e hk he => ?_) (F.args_zip_next_1 _))))
  obtain ⟨o, ho, hc⟩ := he
  refine wpAny_bind (wpAny_isInstance (T := "StopIteration") (b := true) ⟨o, ho, hc⟩ isSubtype_stop ?_)
  exact wpAny_pure (hQ _ hk)
theorem pyIter_zipS {z TI TO : Addr} {f0 : Value} {Q : Value → Shared → Prop} (hz : IsZipS s.heap z TI TO f0) (h : Q (.ref z) s) : wpAny (model prog w) A (pyIter (.ref z)) Q E s := by
  have hT : s.TypeIs (.ref z) "zip" := ⟨_, hz, rfl⟩
  refine wpAny_pyIter_slot hT F.slot_zip_iter (wpAny_call_entry F.slot_zip_iter hT F.entry_zip_iter ?_ (F.args_zip_iter_1 _))
  show wpAny _ _ (ret (.ref z)) _ _ s
  exact wpAny_pure ⟨_, rfl, "zip", _, hT, F.slot_zip_next.lookup, h⟩
theorem letOwned_zipS {elts : List Expr} {x1} {pos : Pos} {z TI TO T : Addr} {Q : Unit → Shared → Prop} (hz : IsZipS s.heap z TI TO (rawInt T))
    (hQ : ∀ h', IsZipS h' z TI TO .none → Heap.SameBut z s.heap h' → Q () { s with heap := h' }) : wpAny (model prog w) A (letOwnedTupleGo (.Tuple elts x1 pos) (.ref z) (.ref T)) Q E s := by
  unfold letOwnedTupleGo
  refine wpAny_bind (wpAny_load hz ?_)
  refine wp_if_pos (c := (["enumerate", "zip", "dict_itemiterator", "dict_reverseitemiterator", "odict_iterator", "itertools.zip_longest", "itertools.pairwise"].contains "zip" && (#[rawInt T, .bool false, .bool true, .ref TI, .ref TO] : Array Value)[0]? == some (rawInt T)) = true) (by simp) ?_
  refine wpAny_bind (wpAny_rule ?_)
  show wpAny _ _ (setField (.ref z) 0 .none) Q E s
  exact wpAny_setField_rec hz (by simp) fun h' hz' hs' => hQ h' hz' hs'
end
theorem F.typeCall_zip_strict (a b c : Value) : checkTypeCall "zip" ⟨[a, b], [(Str.ofString "strict", c)]⟩ = pure () := by kernel_rfl
theorem F.newCall_zip_strict (a b c : Value) : checkBuiltinCall "zip.__new__" ⟨[.type "zip", a, b], [(Str.ofString "strict", c)]⟩ = pure () := by kernel_rfl
theorem F.args_object_init_strict (obj a b c : Value) : argsOk "object.__init__" ⟨[obj, a, b], [(Str.ofString "strict", c)]⟩ := by unfold argsOk; kernel_rfl
abbrev zsH (h : Heap) (l1 l2 : Addr) : Heap := (RZ.zipTH4 h l1 l2).push { cls := .type "zip", data := .fields #[.none, .bool false, .bool true, .ref (RZ.zipTH2 h l1 l2).objs.size, .ref (RZ.zipTH3 h l1 l2).objs.size] }
theorem meets_zipS_new (l1 l2 : Addr) (xs ys : Array Value) :
    Meets (Builtin.«zip.__new__» ⟨[.type "zip", .ref l1, .ref l2], [(Str.ofString "strict", .bool true)]⟩) (fun _ R s => s.heap.IsTuple l1 xs ∧ s.heap.IsTuple l2 ys ∧
      R (.ok (.ret (.ref (RZ.zipTH4 s.heap l1 l2).objs.size))) { s with heap := zsH s.heap l1 l2 }) :=
  .of_wp fun prog w A R s h => by
    obtain ⟨hp, g, d, tk, os⟩ := s; obtain ⟨hl1, hl2, h⟩ := h
    have hsub := sub_zip
    have e1 : (Str.ofString "strict" != ("strict" : Str)) = false := by decide +kernel
    have hL1 : Heap.IsTuple (Shared.heap ⟨hp, g, d, tk, os⟩) l1 xs := hl1
    have hL2 : Heap.IsTuple (Shared.heap ⟨hp.push { cls := .type "tuple_iterator", data := .fields #[.ref l1, .int 0 0] }, g, d, tk, os⟩) l2 ys := Heap.IsTuple.push hl2 _
    wp_walk using wpAny_pyIter_tuple hL1, wpAny_pyIter_tuple hL2
    exact ⟨_, rfl, h⟩
section
variable {prog : Program} {w : World} {A : Around} {E : Value → Shared → Prop} {s : Shared}
theorem call_zipS {l1 l2 : Addr} {xs ys : Array Value} {Q : Value → Shared → Prop} (hl1 : s.heap.IsTuple l1 xs) (hl2 : s.heap.IsTuple l2 ys)
    (h : ∀ h', IsZipS h' (s.heap.objs.size + 4) (s.heap.objs.size + 2) (s.heap.objs.size + 3) .none → IsPair h' (s.heap.objs.size + 2) (.ref s.heap.objs.size) (.ref (s.heap.objs.size + 1)) →
      IsPair h' (s.heap.objs.size + 3) .none .none → h'.IsTupleIter s.heap.objs.size l1 0 → h'.IsTupleIter (s.heap.objs.size + 1) l2 0 →
      (∀ c o, s.heap.get? c = some o → h'.get? c = some o) → Q (.ref (s.heap.objs.size + 4)) { s with heap := h' }) :
    wpAny (model prog w) A (call (.type "zip") [.ref l1, .ref l2] [(Str.ofString "strict", .bool true)]) Q E s := by
  refine callType_newKw F.called_zip (by decide) (F.typeCall_zip_strict _ _ _) (F.newCall_zip_strict _ _ _) (fun obj => F.args_object_init_strict obj _ _ _) F.entry_zip_new
    (meets_zipS_new l1 l2 xs ys) ⟨hl1, hl2, ?_⟩
  have q1 : (RZ.zipTH1 s.heap l1).objs.size = s.heap.objs.size + 1 := Heap.size_push ..
  have q2 : (RZ.zipTH2 s.heap l1 l2).objs.size = s.heap.objs.size + 2 := by rw [Heap.size_push, q1]
  have q3 : (RZ.zipTH3 s.heap l1 l2).objs.size = s.heap.objs.size + 3 := by rw [Heap.size_push, q2]
  have q4 : (RZ.zipTH4 s.heap l1 l2).objs.size = s.heap.objs.size + 4 := by rw [Heap.size_push, q3]
  have g5 : (zsH s.heap l1 l2).get? (RZ.zipTH4 s.heap l1 l2).objs.size = some _ := Heap.get?_push_size _ rfl
  have up : ∀ c o, (RZ.zipTH4 s.heap l1 l2).get? c = some o → (zsH s.heap l1 l2).get? c = some o := fun c o x => Heap.get?_push_of_some _ x
  have g4 : (zsH s.heap l1 l2).get? (RZ.zipTH3 s.heap l1 l2).objs.size = some _ := up _ _ (Heap.get?_push_size _ rfl)
  have g3 : (zsH s.heap l1 l2).get? (RZ.zipTH2 s.heap l1 l2).objs.size = some _ := up _ _ (Heap.get?_push_of_some _ (Heap.get?_push_size _ rfl))
  have g2 : (zsH s.heap l1 l2).get? (RZ.zipTH1 s.heap l1).objs.size = some _ := up _ _ (Heap.get?_push_of_some _ (Heap.get?_push_of_some _ (Heap.get?_push_size _ rfl)))
  have g1 : (zsH s.heap l1 l2).get? s.heap.objs.size = some _ := up _ _ (Heap.get?_push_of_some _ (Heap.get?_push_of_some _ (Heap.get?_push_of_some _ (Heap.get?_push_size _ rfl))))
  show _ ∧ _
  rw [q2, q3, q4] at g5
  rw [q1, q2] at g3
  rw [q3] at g4
  rw [q1] at g2
  rw [q4]
  exact ⟨⟨_, g5, rfl⟩, h _ g5 g3 g4 ⟨_, g1, rfl, rfl⟩ ⟨_, g2, rfl, rfl⟩ fun c o x => up _ _ (Heap.get?_push_of_some _ (Heap.get?_push_of_some _ (Heap.get?_push_of_some _ (Heap.get?_push_of_some _ x))))⟩
end
end KW
/-! DLw: walking zip(t, u, strict=True) -/
namespace KW
open PySem PySem.Spec L2
def ItzS (K : PySem.W.Frag) (a b : Addr) : It :=
  ⟨fun i H => ∃ (xs ys : List V) (x y : V), SqT K H a xs ∧ SqT K H b ys ∧ xs[i]? = some x ∧ ys[i]? = some y,
    fun i H v H' => ∃ T x y, v = .ref T ∧ H T = none ∧ H' = upd H T (.tup [x, y]) ∧ (∀ xs, SqT K H a xs → xs[i]? = some x) ∧ ∀ ys, SqT K H b ys → ys[i]? = some y,
    fun i H => ∃ xs ys : List V, SqT K H a xs ∧ SqT K H b ys ∧ xs.length ≤ i ∧ ys.length ≤ i⟩
theorem turn_zipS {P : Program} {w : World} {K : PySem.W.Frag} {elts : List Expr} {kk : Nat} {tpos : Pos} {a b z TI TO i1 i2 : Addr} (D : ZipApart z TI TO i1 i2 a b) :
    Turn P w K (.Tuple elts kk tpos) (ItzS K a b) [z, TI, TO, i1, i2] z (fun i h => IsZipS h z TI TO .none ∧ IsPair h TI (.ref i1) (.ref i2) ∧ (∃ x y, IsPair h TO x y) ∧ h.IsTupleIter i1 a i ∧ h.IsTupleIter i2 b i) where
  mem := by simp
  obj := fun i h st c hc => by
    obtain ⟨hz, hTI, ⟨x, y, hTO⟩, ⟨o1, e1, _, d1⟩, ⟨o2, e2, _, d2⟩⟩ := st
    have e' : c = z ∨ c = TI ∨ c = TO ∨ c = i1 ∨ c = i2 := by simpa using hc
    rcases e' with rfl | rfl | rfl | rfl | rfl
    · exact ⟨_, hz, fun v q => nomatch q⟩
    · exact ⟨_, hTI, fun v q => nomatch q⟩
    · exact ⟨_, hTO, fun v q => nomatch q⟩
    · exact ⟨o1, e1, fun v q => by rw [d1] at q; cases q⟩
    · exact ⟨o2, e2, fun v q => by rw [d2] at q; cases q⟩
  keep := fun i h h' st k => by
    obtain ⟨hz, hTI, ⟨x, y, hTO⟩, h1, h2⟩ := st
    exact ⟨k z (by simp) _ hz, k TI (by simp) _ hTI, ⟨x, y, k TO (by simp) _ hTO⟩, h1.at fun o q => k i1 (by simp) o q, h2.at fun o q => k i2 (by simp) o q⟩
  item := by
    intro X hP hw hK hc i pins s σ H E I hf st hg
    subst hP hw hK
    obtain ⟨hz, hTI, ⟨x0, y0, hTO⟩, h1, h2⟩ := st
    obtain ⟨xs, ys, x, y, hqx, hqy, hx, hy⟩ := hg
    obtain ⟨its, rv, p, _⟩ := I.tuple hqx
    obtain ⟨its2, rv2, p2, _⟩ := I.tuple hqy
    obtain ⟨u, hu, ru⟩ := rv.get hx
    obtain ⟨u2, hu2, ru2⟩ := rv2.get hy
    have hzl : z < s.heap.objs.size := Heap.lt_size hz
    refine pyNext_zipS_item D hz hTI hTO h1 h2 p p2 (x := u) (y := u2) (by simpa using hu) (by simpa using hu2) fun h' z' TO' h1' h2' hT hk => ?_
    refine ⟨_, rfl, letOwned_zipS (s := { s with heap := h' }) z' fun h'' z'' sb => ?_⟩
    have hT2 : h''.get? s.heap.objs.size = some { cls := .type "tuple", data := .seq #[u, u2] } := (sb.2 _ (Nat.ne_of_gt hzl)).trans hT
    have new : ObjOk X.prog X.w (upd H s.heap.objs.size (.tup [x, y])) h'' s.heap.objs.size (.tup [x, y]) :=
      ⟨by show 2 ≤ sizeLine; decide, [u, u2], .cons ru (.cons ru2 .nil), ⟨_, hT2, rfl, _, rfl⟩⟩
    have I1 : Inv X pins σ (upd H s.heap.objs.size (.tup [x, y])) { s with heap := h'' } :=
      I.turnedNew (t' := s.toks) (ch := [z, TI, TO, i1, i2]) (fun c o hb q => by
        have hb' : c ≠ z ∧ c ≠ TI ∧ c ≠ TO ∧ c ≠ i1 ∧ c ≠ i2 := by simpa using hb
        exact (sb.2 c hb'.1).trans (hk c o hb'.1 hb'.2.2.1 hb'.2.2.2.1 hb'.2.2.2.2 q)) hf (Nat.le_refl _) new
    refine ⟨.ref s.heap.objs.size, _, I1, rfl, ⟨_, x, y, rfl, I.hok.fresh (Nat.le_refl _), rfl, fun l hl => by rw [I.tuple_inj hl hqx]; exact hx, fun l hl => by rw [I.tuple_inj hl hqy]; exact hy⟩, ⟨z'', ?_, ⟨u, u2, ?_⟩, ?_, ?_⟩, fun c hcm => ?_⟩
    · exact (sb.2 _ D.TIz).trans (hk _ _ D.TIz D.TITO D.TIi1 D.TIi2 hTI)
    · exact (sb.2 _ D.TOz).trans TO'
    · exact h1'.at fun o q => (sb.2 _ D.i1z).trans q
    · exact h2'.at fun o q => (sb.2 _ D.i2z).trans q
    · have hlt : c < s.heap.objs.size := by
        have e' : c = z ∨ c = TI ∨ c = TO ∨ c = i1 ∨ c = i2 := by simpa using hcm
        rcases e' with rfl | rfl | rfl | rfl | rfl
        · exact hzl
        · exact Heap.lt_size hTI
        · exact Heap.lt_size hTO
        · obtain ⟨_, e1, _⟩ := h1; exact Heap.lt_size e1
        · obtain ⟨_, e2, _⟩ := h2; exact Heap.lt_size e2
      rw [upd_ne (Nat.ne_of_lt hlt)]
      exact (hf c hcm).1
  done := by
    intro X hP hw hK hc i pins s σ H E I hf st hg
    subst hP hw hK
    obtain ⟨hz, hTI, ⟨x0, y0, hTO⟩, h1, h2⟩ := st
    obtain ⟨xs, ys, hqx, hqy, e1, e2⟩ := hg
    obtain ⟨its, rv, p, _⟩ := I.tuple hqx
    obtain ⟨its2, rv2, p2, _⟩ := I.tuple hqy
    have l1 := rv.length
    have l2 := rv2.length
    refine pyNext_zipS_end (I.ok.hd hc) D hz hTI hTO h1 h2 p p2 (by simp; omega) (by simp; omega) fun h' hk => ⟨rfl, I.turnedL (t' := s.toks) (ch := [z, TI, TO, i1, i2]) (fun c o hb q => ?_) hf⟩
    have hb' : c ≠ z ∧ c ≠ TI ∧ c ≠ TO ∧ c ≠ i1 ∧ c ≠ i2 := by simpa using hb
    exact hk c o hb'.1 hb'.2.2.1 hb'.2.2.2.1 hb'.2.2.2.2 q
  self := fun A i s Q E st h => pyIter_zipS st.1 h
theorem callWith_typeKw {M : Model} {A : Around} {E : Value → Shared → Prop} {s : Shared} {env : Env} {pos : Pos} {T : String} {e : Expr} {rest : List Expr} {kws : List Keyword} {Q : Value → Shared → Prop}
    (h : wpAny M A (spliced (backTo pos (starEach (e :: rest) env))) (fun vs s₁ => wpAny M A (evalAll ((backToKw pos (keywordEach kws env)).map (·.2)))
      (fun kvs s₂ => wpAny M A (call (.type T) vs (((backToKw pos (keywordEach kws env)).filterMap (·.1)).zip kvs)) Q E s₂) E s₁) E s)
    (he : backTo pos (starEach (e :: rest) env) = (false, eval e env) :: backTo pos (starEach rest env) := by rfl)
    (hplain : (backTo pos (starEach (e :: rest) env)).any (·.1) = false := by rfl)
    (hall : (backToKw pos (keywordEach kws env)).all (·.1.isSome) = true := by rfl)
    (hkw : (backToKw pos (keywordEach kws env)).any (·.1.isNone) = false := by rfl) :
    wpAny M A (callWith pos (.type T) [] (backTo pos (starEach (e :: rest) env)) (backToKw pos (keywordEach kws env))) Q E s := by
  unfold callWith
  have h2 : wpAny M A (evalArgs (.type T) true (backTo pos (starEach (e :: rest) env)) (backToKw pos (keywordEach kws env))) (fun a s₁ => wpAny M A (call (.type T) ([] ++ a.pos) a.kw) Q E s₁) E s := by
    rw [he] at h ⊢
    exact PyProof.Rows.evalArgs_kwB hall h
  refine wpAny_bind (wpAny_holding (wpAny_mono h2 (fun a s₁ h₁ => wpAny_bind (wpAny_standAt ?_)) fun _ _ x => x))
  simp only [hplain, hkw, Bool.or_false]
  refine wpAny_bind (wpAny_pure ?_)
  exact wpAny_bind (wpAny_mono h₁ (fun r s₂ hr => wpAny_bind (wpAny_holding (wpAny_point (wpAny_pure hr)))) fun _ _ x => x)
def iZipV (K : PySem.W.Frag) (ta : TA) : TI := fun σ H R => ta σ H fun vs H1 => ∃ a b xs ys, vs = [.ref a, .ref b] ∧ SqT K H1 a xs ∧ SqT K H1 b ys ∧ R (ItzS K a b) H1
section
variable {X : Cx} {a b : Expr} {f g : DE} {pos p kp kp2 : Pos}
theorem pi_zipS {e e2 : Expr} {ta : TA} {tpos : Pos} {elts : List Expr} {kk j : Nat} (hg : Gl X "zip") (hm : X.mg "zip" = none) (ha : PA X [e, e2] ta)
    (hs : starEach [e, e2] X.env = (false, eval e X.env) :: starEach [e2] X.env := by rfl) (hs2 : starEach [e2] X.env = (false, eval e2 X.env) :: starEach [] X.env := by rfl) :
    PI X (.Tuple elts kk tpos) (.Call (.Name "zip" p) [e, e2] [⟨some "strict", .Constant (.bool true) j kp2, kp⟩] pos) (iZipV X.K ta) := by
  refine ⟨fun pins s σ H R I h => ?_⟩
  refine wpAny_Call_Name_kw (ld_blt I hg hm PyProof.Rows.boot_zip ?_)
  refine callWith_typeKw (thn (ha.run pos pins s σ H _ I h) fun us s1 ⟨vs, H1, I1, r1, q1⟩ => ?_) (by rw [hs]; rfl) (by rw [hs, hs2]; rfl)
  refine PyProof.Rows.kws_cons (PyProof.Rows.Constant_bool (PyProof.Rows.kws_nil ?_))
  obtain ⟨a, b, xs, ys, ex, hqx, hqy, q⟩ := q1
  subst ex
  cases r1 with
  | cons r rr =>
    cases rr with
    | cons r' rr =>
      cases rr
      cases r
      cases r'
      obtain ⟨its, rv, p1, _⟩ := I1.tuple hqx
      obtain ⟨its2, rv2, p2, _⟩ := I1.tuple hqy
      refine call_zipS (show s1.heap.IsTuple a its.toArray from p1) (show s1.heap.IsTuple b its2.toArray from p2) fun h' hz hTI hTO h1 h2 hk => pyIter_zipS hz ?_
      have I2 : Inv X pins σ H1 { s1 with heap := h' } := I1.kept (t' := s1.toks) hk
      refine ⟨s1.heap.objs.size + 4, [s1.heap.objs.size + 4, s1.heap.objs.size + 2, s1.heap.objs.size + 3, s1.heap.objs.size, s1.heap.objs.size + 1], _, _, H1, rfl, I2, turn_zipS (PySem.W.ktu_apart s1.heap.objs.size a b p1.lt p2.lt), ⟨hz, hTI, ⟨_, _, hTO⟩, h1, h2⟩, fun c hcm => ?_, q⟩
      have hle : s1.heap.objs.size ≤ c := by
        have e' : c = s1.heap.objs.size + 4 ∨ c = s1.heap.objs.size + 2 ∨ c = s1.heap.objs.size + 3 ∨ c = s1.heap.objs.size ∨ c = s1.heap.objs.size + 1 := by simpa using hcm
        rcases e' with z | z | z | z | z <;> rw [z]
        · exact Nat.le_add_right _ _
        · exact Nat.le_add_right _ _
        · exact Nat.le_add_right _ _
        · exact Nat.le_refl _
        · exact Nat.le_add_right _ _
      exact I1.fpOk hle (I1.hok.fresh hle)
theorem walk_zipS {K : PySem.W.Frag} {a b : Addr} {xs ys : List V} {n : Nat} (h1 : n = xs.length) (h2 : n = ys.length) : Walk (ItzS K a b) n (fun H => SqT K H a xs ∧ SqT K H b ys) (YPair (fun i => xs[i]?) (fun i => ys[i]?)) := by
  refine ⟨fun i _ hi q => ?_, fun _ q => ⟨xs, ys, q.1, q.2, by omega, by omega⟩, fun i H v H' _ q y => ?_⟩
  · have h1 : i < xs.length := by omega
    have h2 : i < ys.length := by omega
    exact ⟨xs, ys, xs[i], ys[i], q.1, q.2, by simp [h1], by simp [h2]⟩
  · obtain ⟨T, x, z, h1, h2, h3, h4, h5⟩ := y
    exact ⟨T, x, z, h1, h2, h3, h4 xs q.1, h5 ys q.2⟩
@[simp] def iZipS (f g : DE) : DS → Option (List PyData) := fun ρ => match f ρ, g ρ with
  | some (.tuple ds), some (.tuple es) => if ds.length = es.length then some (zipD ds es) else none
  | _, _ => none
theorem pdi_zipS {elts : List Expr} {kk j : Nat} {tpos : Pos} (T : Blt X.mg) (ha : PD X a f) (hb : PD X b g) (hg : Gl X "zip" := by rfl) (hs : starEach [a, b] X.env = (false, eval a X.env) :: starEach [b] X.env := by rfl) (hs2 : starEach [b] X.env = (false, eval b X.env) :: starEach [] X.env := by rfl) :
    PDI X (.Tuple elts kk tpos) (.Call (.Name "zip" p) [a, b] [⟨some "strict", .Constant (.bool true) j kp2, kp⟩] pos) (iZipS f g) := by
  refine ⟨_, pi_zipS hg T.zip (pa_cons ha (pa_cons hb pa_nil hs2) hs) hs hs2, fun ρ ds σ H R rp q k => ?_⟩
  unfold iZipS at q
  split at q
  · rename_i d1 d2 h1 h2
    by_cases hl : d1.length = d2.length
    · rw [if_pos hl] at q
      cases q
      refine ⟨ρ, _, rp, h1, fun v H1 s1 dv => ⟨ρ, _, rp.mono s1, h2, fun v2 H2 s2 dv2 => ?_⟩⟩
      have dv' := Dp.mono s2 _ _ dv
      cases dv' with
      | @tup a xs _ hq ha =>
        cases dv2 with
        | @tup b ys _ hq2 hb =>
          have e1 := ha.len
          have e2 := hb.len
          refine ⟨a, b, xs, ys, rfl, hq, hq2, k _ H2 (s1.trans s2) ⟨_, _, walk_zipS (xs := xs) (ys := ys) (by rw [zipD_len]; omega) (by rw [zipD_len]; omega), fun H' s' => ⟨SqT.mono s' hq, SqT.mono s' hq2⟩, ?_⟩⟩
          rintro i H' x H'' d hd s' ⟨T, y, z, rfl, hT, rfl, hy, hz⟩
          obtain ⟨e1, e2, h3, h4, rfl⟩ := zipD_get hd
          obtain ⟨e1', h5, dd1⟩ := ha.getV hy
          obtain ⟨e2', h6, dd2⟩ := hb.getV hz
          rw [h3] at h5; cases h5
          rw [h4] at h6; cases h6
          have s : Same H' (upd H' T (.tup [y, z])) := fun c o e => by rw [upd_ne (ne_of_none e hT)]; exact e
          exact ⟨s, .tup (SqT.of upd_same) (.cons (Dp.mono (s'.trans s) _ _ dd1) (.cons (Dp.mono (s'.trans s) _ _ dd2) .nil))⟩
    · rw [if_neg hl] at q; cases q
  · cases q
end
end KW
/-! EA: a layer of objects over the layer of data: objects by number -/
namespace KW
open PySem PySem.Spec L2
/-- what a slot holds: data; an object by its number; a fixed value -/
inductive IV where
  | dat (d : PyData)
  | obj (i : Nat)
  | val (v : V)
/-- an object: a list; an instance of the class of that name; the keys of a dict by nested tuples -/
inductive Ob where
  | lst (xs : List IV)
  | ins (c : Str) (fs : List (Str × IV))
  | kd (ks : List PyData)
  /-- the script: a list that is read alone -/
  | scr (xs : List IV)
abbrev HS := List Ob
abbrev IR := List (Option IV)
@[simp] def prj : Option IV → Option SV
  | some (.dat d) => some (.dat d)
  | some (.obj _) => none
  | some (.val _) => none
  | none => none
mutual
def kOf : PyData → NestedKey
  | .none => .none
  | .bool b => .num (if b = true then 1 else 0)
  | .int i => .num i
  | .str x => .text x
  | .tuple ds => .tup (kOfs ds)
  | .list _ => .none
  | .dict _ => .none
def kOfs : List PyData → List NestedKey
  | [] => []
  | d :: ds => kOf d :: kOfs ds
end
/-- the world that is spoken of: XC the class of the exception -/
structure Wd where
  P : Program
  w : World
  K : PySem.W.Frag
  mg : Str → Option Value
  XC : Addr
def RepIV (K : PySem.W.Frag) (H : Hp) (m : List Addr) : IV → V → Prop
  | .dat d, v => Dp K H v d ∧ noList d = true
  | .obj i, v => ∃ a, m[i]? = some a ∧ v = .ref a
  | .val u, v => v = u
inductive RepAll (K : PySem.W.Frag) (H : Hp) (m : List Addr) : List IV → List V → Prop
  | nil : RepAll K H m [] []
  | cons {x v xs vs} : RepIV K H m x v → RepAll K H m xs vs → RepAll K H m (x :: xs) (v :: vs)
inductive RepFs (K : PySem.W.Frag) (H : Hp) (m : List Addr) : List (Str × IV) → List (Str × V) → Prop
  | nil : RepFs K H m [] []
  | cons {n x v xs vs} : RepIV K H m x v → RepFs K H m xs vs → RepFs K H m ((n, x) :: xs) ((n, v) :: vs)
/-- the keys' own places -/
inductive RepKs (K : PySem.W.Frag) (H : Hp) : List PyData → List (NestedKey × Addr × Value) → Prop
  | nil : RepKs K H [] []
  | cons {d b u ds xs} : Dp K H (.ref b) d → noList d = true → (kOf d).depth ≤ 8 → RepKs K H ds xs → RepKs K H (d :: ds) ((kOf d, b, u) :: xs)
def ObRep (Ω : Wd) (H : Hp) (m : List Addr) (a : Addr) : Ob → Prop
  | .lst xs => ∃ vs, H a = some (.lst vs) ∧ RepAll Ω.K H m xs vs
  | .ins c fs => ∃ C dx gs, Ω.mg c = some (.ref C) ∧ H a = some (.ins C dx gs) ∧ RepFs Ω.K H m fs gs
  | .kd ks => ∃ (o : Obj) (es : Array DictEntry) (ep : Nat) (xs : List (NestedKey × Addr × Value)), H a = some (.ext fun h => h.get? a = some o) ∧ o.ExactDict ∧ o.data = .dict es ep ∧
      es.toList = xs.map (entryOfKey (nestedKind Ω.P Ω.w)) ∧ (xs.map (·.1)).Nodup ∧ (a == sysModules) = false ∧ RepKs Ω.K H ks xs
  | .scr xs => ∃ o vs, H a = some (.frz o (.lst vs)) ∧ RepAll Ω.K H m xs vs
structure HRep (Ω : Wd) (H : Hp) (m : List Addr) (S : HS) : Prop where
  len : m.length = S.length
  nd : m.Nodup
  at_ : ∀ (i : Nat) (o : Ob), S[i]? = some o → ∃ a, m[i]? = some a ∧ ObRep Ω H m a o
/-- one goes on from the other: what is no object of these stays; new ones are new -/
structure Step (H : Hp) (m : List Addr) (H' : Hp) (m' : List Addr) : Prop where
  ext : ∃ t, m' = m ++ t ∧ ∀ a ∈ t, a ∉ m → H a = none
  keep : ∀ b o, H b = some o → b ∉ m → H' b = some o
section
variable {Ω : Wd} {K : PySem.W.Frag} {H H' H'' : Hp} {m m' m'' : List Addr} {S : HS}
theorem Step.refl (H : Hp) (m : List Addr) : Step H m H m := ⟨⟨[], by simp, fun _ h => nomatch h⟩, fun _ _ e _ => e⟩
theorem Step.trans (a : Step H m H' m') (b : Step H' m' H'' m'') : Step H m H'' m'' := by
  obtain ⟨t, e1, n1⟩ := a.ext
  obtain ⟨t', e2, n2⟩ := b.ext
  refine ⟨⟨t ++ t', by rw [e2, e1, List.append_assoc], fun x hx hm => ?_⟩, fun c o e hc => ?_⟩
  · rcases List.mem_append.mp hx with h | h
    · exact n1 x h hm
    · cases e : H x with
      | none => rfl
      | some o =>
        have h1 := a.keep x o e hm
        by_cases hx' : x ∈ m'
        · rw [e1] at hx'
          rcases List.mem_append.mp hx' with z | z
          · exact absurd z hm
          · rw [n1 x z hm] at e; cases e
        · rw [n2 x h hx'] at h1; cases h1
  · refine b.keep c o (a.keep c o e hc) fun z => ?_
    rw [e1] at z
    rcases List.mem_append.mp z with z | z
    · exact hc z
    · rw [n1 c z hc] at e; cases e
theorem Step.same (s : Same H H') : Step H m H' m := ⟨⟨[], by simp, fun _ h => nomatch h⟩, fun b o e _ => s b o e⟩
theorem Step.get (a : Step H m H' m') {i : Nat} {x : Addr} (h : m[i]? = some x) : m'[i]? = some x := by
  obtain ⟨t, rfl, _⟩ := a.ext
  obtain ⟨hl, _⟩ := List.getElem?_eq_some_iff.mp h
  rw [List.getElem?_append_left hl]
  exact h
/-- no object of these is a tuple -/
def NoTup (H : Hp) (m : List Addr) : Prop := ∀ a ∈ m, ∃ o, H a = some o ∧ (∀ xs, o ≠ .tup xs) ∧ ∀ ob xs, o ≠ .frz ob (.tup xs)
theorem HRep.noTup (h : HRep Ω H m S) : NoTup H m := fun a ha => by
  obtain ⟨i, hi, e⟩ := List.getElem_of_mem ha
  have hi' : i < S.length := by rw [← h.len]; exact hi
  obtain ⟨a', e1, r⟩ := h.at_ i S[i] (List.getElem?_eq_getElem hi')
  rw [List.getElem?_eq_getElem hi, e] at e1
  cases e1
  cases hS : S[i] with
  | lst xs => rw [hS] at r; obtain ⟨vs, e2, _⟩ := r; exact ⟨_, e2, (fun _ z => nomatch z), fun _ _ z => nomatch z⟩
  | ins c fs => rw [hS] at r; obtain ⟨C, dx, gs, _, e2, _⟩ := r; exact ⟨_, e2, (fun _ z => nomatch z), fun _ _ z => nomatch z⟩
  | kd ks => rw [hS] at r; obtain ⟨o, es, ep, xs, e2, _⟩ := r; exact ⟨_, e2, (fun _ z => nomatch z), fun _ _ z => nomatch z⟩
  | scr xs => rw [hS] at r; obtain ⟨o, vs, e2, _⟩ := r; exact ⟨_, e2, (fun _ z => nomatch z), fun _ _ z => by cases z⟩
theorem SqT.step (n : NoTup H m) (s : Step H m H' m') {a : Addr} {xs : List V} (h : SqT K H a xs) : SqT K H' a xs := by
  rcases h with (h | ⟨o, h⟩) | h
  · refine .inl (.inl (s.keep _ _ h fun z => ?_))
    obtain ⟨o, e, n1, _⟩ := n a z
    rw [h] at e; cases e; exact n1 _ rfl
  · refine .inl (.inr ⟨o, s.keep _ _ h fun z => ?_⟩)
    obtain ⟨o', e, _, n1⟩ := n a z
    rw [h] at e; cases e; exact n1 _ _ rfl
  · exact .inr h
mutual
theorem Dp.step (n : NoTup H m) (s : Step H m H' m') : ∀ (d : PyData) (v : V), noList d = true → Dp K H v d → Dp K H' v d
  | .none, _, _, h => by cases h; exact .non
  | .bool _, _, _, h => by cases h; exact .bl _
  | .int _, _, _, h => by cases h; exact .int _
  | .str _, _, _, h => by cases h; exact .str _
  | .list ds, _, e, h => by simp [noList] at e
  | .tuple ds, _, e, h => by
    cases h with
    | tup hs ha => exact .tup (SqT.step n s hs) (DpAll.step n s ds _ (by simpa [noList] using e) ha)
  | .dict _, _, _, h => by cases h
theorem DpAll.step (n : NoTup H m) (s : Step H m H' m') : ∀ (ds : List PyData) (vs : List V), noLists ds = true → DpAll K H vs ds → DpAll K H' vs ds
  | [], _, _, h => by cases h; exact .nil
  | d :: ds, _, e, h => by
    have e' : noList d = true ∧ noLists ds = true := by simpa [noLists] using e
    cases h with
    | cons h1 h2 => exact .cons (Dp.step n s d _ e'.1 h1) (DpAll.step n s ds _ e'.2 h2)
end
theorem RepIV.step (n : NoTup H m) (s : Step H m H' m') : ∀ {x : IV} {v : V}, RepIV K H m x v → RepIV K H' m' x v
  | .dat d, v, h => ⟨Dp.step n s d v h.2 h.1, h.2⟩
  | .obj i, v, ⟨a, h, e⟩ => ⟨a, s.get h, e⟩
  | .val _, _, h => h
theorem RepAll.step (n : NoTup H m) (s : Step H m H' m') : ∀ {xs : List IV} {vs : List V}, RepAll K H m xs vs → RepAll K H' m' xs vs
  | _, _, .nil => .nil
  | _, _, .cons h t => .cons (h.step n s) (RepAll.step n s t)
theorem RepFs.step (n : NoTup H m) (s : Step H m H' m') : ∀ {xs : List (Str × IV)} {vs : List (Str × V)}, RepFs K H m xs vs → RepFs K H' m' xs vs
  | _, _, .nil => .nil
  | _, _, .cons h t => .cons (h.step n s) (RepFs.step n s t)
theorem RepKs.step (n : NoTup H m) (s : Step H m H' m') : ∀ {ds : List PyData} {xs : List (NestedKey × Addr × Value)}, RepKs K H ds xs → RepKs K H' ds xs
  | _, _, .nil => .nil
  | _, _, .cons h e q t => .cons (Dp.step n s _ _ e h) e q (RepKs.step n s t)
theorem RepAll.len : ∀ {xs : List IV} {vs : List V}, RepAll K H m xs vs → xs.length = vs.length
  | _, _, .nil => rfl
  | _, _, .cons _ t => by simp [RepAll.len t]
theorem RepAll.get : ∀ {xs : List IV} {vs : List V} {i : Nat} {x : IV}, RepAll K H m xs vs → xs[i]? = some x → ∃ v, vs[i]? = some v ∧ RepIV K H m x v
  | _, _, _, _, .nil, e => by simp at e
  | _, _, 0, x, .cons h t, e => by simp at e; subst e; exact ⟨_, rfl, h⟩
  | _, _, i + 1, x, .cons h t, e => by
    obtain ⟨v, a, b⟩ := RepAll.get (i := i) t (by simpa using e)
    exact ⟨v, by simpa using a, b⟩
theorem RepAll.set : ∀ {xs : List IV} {vs : List V} {x : IV} {v : V} (i : Nat), RepAll K H m xs vs → RepIV K H m x v → RepAll K H m (xs.set i x) (vs.set i v)
  | _, _, _, _, _, .nil, _ => .nil
  | _, _, _, _, 0, .cons h t, e => .cons e t
  | _, _, _, _, i + 1, .cons h t, e => .cons h (RepAll.set i t e)
theorem RepAll.append : ∀ {xs ys : List IV} {vs ws : List V}, RepAll K H m xs vs → RepAll K H m ys ws → RepAll K H m (xs ++ ys) (vs ++ ws)
  | _, _, _, _, .nil, k => k
  | _, _, _, _, .cons h t, k => .cons h (RepAll.append t k)
theorem RepAll.one {x : IV} {v : V} (h : RepIV K H m x v) : RepAll K H m [x] [v] := .cons h .nil
theorem RepAll.drop : ∀ {xs : List IV} {vs : List V} (n : Nat), RepAll K H m xs vs → RepAll K H m (xs.drop n) (vs.drop n)
  | _, _, 0, h => h
  | _, _, n + 1, .nil => .nil
  | _, _, n + 1, .cons h t => RepAll.drop n t
theorem RepAll.take : ∀ {xs : List IV} {vs : List V} (n : Nat), RepAll K H m xs vs → RepAll K H m (xs.take n) (vs.take n)
  | _, _, 0, h => by simp; exact .nil
  | _, _, n + 1, .nil => by simp; exact .nil
  | _, _, n + 1, .cons h t => .cons h (RepAll.take n t)
/-- all are data -/
@[simp] def datOf : IV → Option PyData
  | .dat d => some d
  | .obj _ => none
  | .val _ => none
@[simp] def datsOf : List IV → Option (List PyData)
  | [] => some []
  | .dat d :: xs => (datsOf xs).map (d :: ·)
  | .obj _ :: _ => none
  | .val _ :: _ => none
theorem RepAll.dats : ∀ {xs : List IV} {vs : List V} {ds : List PyData}, RepAll K H m xs vs → datsOf xs = some ds → DpAll K H vs ds ∧ noLists ds = true ∧ ds.length = xs.length
  | _, _, _, .nil, e => by cases e; exact ⟨.nil, rfl, rfl⟩
  | .dat d :: xs, _, _, .cons h t, e => by
    obtain ⟨ds, h1, h2⟩ := Option.map_eq_some_iff.mp e
    subst h2
    obtain ⟨a, b, c⟩ := RepAll.dats t h1
    exact ⟨.cons h.1 a, by simp [h.2, b], by simp [c]⟩
  | .obj _ :: _, _, _, _, e => by cases e
  | .val _ :: _, _, _, _, e => by cases e
theorem DpAll.rep : ∀ {ds : List PyData} {vs : List V}, DpAll K H vs ds → noLists ds = true → RepAll K H m (ds.map .dat) vs
  | [], _, h, _ => by cases h; exact .nil
  | d :: ds, _, h, e => by
    have e' : noList d = true ∧ noLists ds = true := by simpa [noLists] using e
    cases h with
    | cons h1 h2 => exact .cons ⟨h1, e'.1⟩ (DpAll.rep h2 e'.2)
/-! an instance's fields -/
@[simp] def putI (f : Str) (x : IV) : List (Str × IV) → List (Str × IV)
  | [] => [(f, x)]
  | (g, y) :: r => if g = f then (g, x) :: r else (g, y) :: putI f x r
theorem RepFs.len : ∀ {xs : List (Str × IV)} {vs : List (Str × V)}, RepFs K H m xs vs → xs.length = vs.length
  | _, _, .nil => rfl
  | _, _, .cons _ t => by simp [RepFs.len t]
theorem RepFs.lookup {f : Str} : ∀ {xs : List (Str × IV)} {vs : List (Str × V)} {x : IV}, RepFs K H m xs vs → xs.lookup f = some x → ∃ v, vs.lookup f = some v ∧ RepIV K H m x v
  | _, _, _, .nil, e => by cases e
  | _, _, x, .cons (n := n) h t, e => by
    simp only [List.lookup] at e ⊢
    cases hn : f == n with
    | true => rw [hn] at e; cases e; exact ⟨_, rfl, h⟩
    | false => rw [hn] at e; exact RepFs.lookup t e
theorem RepFs.lookupN {f : Str} : ∀ {xs : List (Str × IV)} {vs : List (Str × V)}, RepFs K H m xs vs → xs.lookup f = none → vs.lookup f = none
  | _, _, .nil, e => rfl
  | _, _, .cons (n := n) h t, e => by
    simp only [List.lookup] at e ⊢
    cases hn : f == n with
    | true => rw [hn] at e; cases e
    | false => rw [hn] at e; exact RepFs.lookupN t e
theorem RepFs.put {f : Str} {x : IV} {v : V} (hx : RepIV K H m x v) : ∀ {xs : List (Str × IV)} {vs : List (Str × V)}, RepFs K H m xs vs → RepFs K H m (putI f x xs) (putF f v vs)
  | _, _, .nil => .cons hx .nil
  | _, _, .cons (n := n) h t => by
    by_cases hn : n = f
    · simp only [putI, putF, if_pos hn]; exact .cons hx t
    · simp only [putI, putF, if_neg hn]; exact .cons h (RepFs.put hx t)
theorem ObRep.step (n : NoTup H m) (s : Step H m H' m') {a : Addr} (ha : H' a = H a) : ∀ {o : Ob}, ObRep Ω H m a o → ObRep Ω H' m' a o
  | .lst xs, ⟨vs, e, r⟩ => ⟨vs, by rw [ha]; exact e, r.step n s⟩
  | .ins c fs, ⟨C, dx, gs, e1, e2, r⟩ => ⟨C, dx, gs, e1, by rw [ha]; exact e2, r.step n s⟩
  | .kd ks, ⟨o, es, ep, xs, e, h1, h2, h3, h4, h5, r⟩ => ⟨o, es, ep, xs, by rw [ha]; exact e, h1, h2, h3, h4, h5, r.step n s⟩
  | .scr xs, ⟨o, vs, e, r⟩ => ⟨o, vs, by rw [ha]; exact e, r.step n s⟩
theorem ObRep.there {a : Addr} : ∀ {o : Ob}, ObRep Ω H m a o → ∃ q, H a = some q
  | .lst xs, ⟨vs, e, r⟩ => ⟨_, e⟩
  | .ins c fs, ⟨C, dx, gs, e1, e2, r⟩ => ⟨_, e2⟩
  | .kd ks, ⟨o, es, ep, xs, e, _⟩ => ⟨_, e⟩
  | .scr xs, ⟨o, vs, e, _⟩ => ⟨_, e⟩
theorem HRep.has (h : HRep Ω H m S) {i : Nat} {o : Ob} {a : Addr} (e : S[i]? = some o) (ea : m[i]? = some a) : ObRep Ω H m a o := by
  obtain ⟨a', e1, r⟩ := h.at_ i o e
  rw [ea] at e1; cases e1
  exact r
theorem HRep.inj (h : HRep Ω H m S) {i j : Nat} {a : Addr} (e1 : m[i]? = some a) (e2 : m[j]? = some a) : i = j := by
  obtain ⟨h1, g1⟩ := List.getElem?_eq_some_iff.mp e1
  obtain ⟨h2, g2⟩ := List.getElem?_eq_some_iff.mp e2
  have p := List.pairwise_iff_getElem.mp h.nd
  rcases Nat.lt_trichotomy i j with l | l | l
  · exact absurd (g1.trans g2.symm) (p i j h1 h2 l)
  · exact l
  · exact absurd (g2.trans g1.symm) (p j i h2 h1 l)
theorem HRep.same (h : HRep Ω H m S) (s : Same H H') : HRep Ω H' m S := by
  refine ⟨h.len, h.nd, fun i o e => ?_⟩
  obtain ⟨a, e1, r⟩ := h.at_ i o e
  obtain ⟨q, hq⟩ := r.there
  exact ⟨a, e1, r.step h.noTup (.same s) (by rw [s a q hq, hq])⟩
theorem Step.upd {i : Nat} {a : Addr} {q : HO} (ha : m[i]? = some a) : Step H m (upd H a q) m :=
  ⟨⟨[], by simp, fun _ h => nomatch h⟩, fun b o e hb => by
    have : b ≠ a := fun z => hb (by rw [z]; exact List.mem_of_getElem? ha)
    rw [upd_ne this]; exact e⟩
/-- an object is changed -/
theorem HRep.set (h : HRep Ω H m S) {i : Nat} {a : Addr} {q : HO} {o : Ob} (ha : m[i]? = some a) (r : ObRep Ω (upd H a q) m a o) : HRep Ω (upd H a q) m (S.set i o) := by
  refine ⟨by rw [List.length_set]; exact h.len, h.nd, fun j o' e => ?_⟩
  by_cases hj : i = j
  · subst hj
    obtain ⟨hl, _⟩ := List.getElem?_eq_some_iff.mp ha
    rw [List.getElem?_set_self (by rw [← h.len]; exact hl)] at e
    cases e
    exact ⟨a, ha, r⟩
  · rw [List.getElem?_set_ne hj] at e
    obtain ⟨a', e1, r'⟩ := h.at_ j o' e
    have : a' ≠ a := fun z => hj (h.inj ha (by rw [← z]; exact e1))
    exact ⟨a', e1, r'.step h.noTup (.upd ha) (upd_ne this)⟩
theorem Step.lay (s : Same H H') {a : Addr} (ha : H a = none) : Step H m H' (m ++ [a]) :=
  ⟨⟨[a], rfl, fun x hx _ => by rw [List.mem_singleton.mp hx]; exact ha⟩, fun b o e _ => s b o e⟩
/-- a new object -/
theorem HRep.lay (h : HRep Ω H m S) (s : Same H H') {a : Addr} {o : Ob} (ha : H a = none) (r : ObRep Ω H' (m ++ [a]) a o) : HRep Ω H' (m ++ [a]) (S ++ [o]) := by
  have hn : a ∉ m := fun z => by
    obtain ⟨q, e, _⟩ := h.noTup a z
    rw [ha] at e; cases e
  refine ⟨by simp [h.len], ?_, fun j o' e => ?_⟩
  · rw [List.nodup_append]
    exact ⟨h.nd, by simp, fun x hx y hy => by rw [List.mem_singleton.mp hy]; exact fun z => hn (by rw [← z]; exact hx)⟩
  · rcases Nat.lt_or_ge j S.length with hl | hl
    · rw [List.getElem?_append_left hl] at e
      obtain ⟨a', e1, r'⟩ := h.at_ j o' e
      obtain ⟨q, hq⟩ := r'.there
      exact ⟨a', (Step.lay s ha).get e1, r'.step h.noTup (.lay s ha) (by rw [s a' q hq, hq])⟩
    · rw [List.getElem?_append_right hl] at e
      have hj : j - S.length = 0 := by
        cases z : j - S.length with
        | zero => rfl
        | succ k => rw [z] at e; simp at e
      rw [hj] at e
      cases e
      refine ⟨a, ?_, r⟩
      rw [List.getElem?_append_right (by rw [h.len]; exact hl), h.len, hj]
      rfl
theorem same_upd {a : Addr} {q : HO} (ha : H a = none) : Same H (upd H a q) := fun c o e => by rw [upd_ne (ne_of_none e ha)]; exact e
/-! ### slots -/
structure IRep (Ω : Wd) (H : Hp) (m : List Addr) (S : HS) (σ : St) (ρ : IR) : Prop where
  hr : HRep Ω H m S
  len : σ.length = ρ.length
  at_ : ∀ (i : Nat) (x : IV), ρ[i]? = some (some x) → ∃ v, σ[i]? = some (some v) ∧ RepIV Ω.K H m x v
variable {σ σ' : St} {ρ ρ' : IR} {S' : HS}
theorem IRep.step (r : IRep Ω H m S σ ρ) (s : Step H m H' m') (h : HRep Ω H' m' S') : IRep Ω H' m' S' σ ρ :=
  ⟨h, r.len, fun i x e => let ⟨v, a, b⟩ := r.at_ i x e; ⟨v, a, b.step r.hr.noTup s⟩⟩
theorem IRep.set (r : IRep Ω H m S σ ρ) (i : Nat) {x : IV} {v : V} (h : RepIV Ω.K H m x v) : IRep Ω H m S (σ.set i (some v)) (ρ.set i (some x)) := by
  refine ⟨r.hr, by simp [r.len], fun j y e => ?_⟩
  by_cases hj : i = j
  · subst hj
    have hi : i < ρ.length := by
      rcases Nat.lt_or_ge i ρ.length with h | h
      · exact h
      · rw [List.getElem?_eq_none (by simpa using h)] at e; cases e
    rw [List.getElem?_set_self hi] at e
    cases e
    exact ⟨v, List.getElem?_set_self (by rw [r.len]; exact hi), h⟩
  · rw [List.getElem?_set_ne hj] at e
    obtain ⟨w, a, b⟩ := r.at_ j y e
    exact ⟨w, by rw [List.getElem?_set_ne hj]; exact a, b⟩
@[simp] def wipeI (ρ : IR) : List Nat → IR
  | [] => ρ
  | v :: vs => (wipeI ρ vs).set v none
theorem IRep.wipe1 (r : IRep Ω H m S σ ρ) (i : Nat) : IRep Ω H m S (σ.set i none) (ρ.set i none) := by
  refine ⟨r.hr, by simp [r.len], fun j y e => ?_⟩
  by_cases hj : i = j
  · subst hj
    rcases Nat.lt_or_ge i ρ.length with h | h
    · rw [List.getElem?_set_self h] at e; cases e
    · rw [List.getElem?_eq_none (by simpa using h)] at e; cases e
  · rw [List.getElem?_set_ne hj] at e
    obtain ⟨w, a, b⟩ := r.at_ j y e
    exact ⟨w, by rw [List.getElem?_set_ne hj]; exact a, b⟩
theorem IRep.wipe (r : IRep Ω H m S σ ρ) : ∀ vs, IRep Ω H m S (L2.wipe σ vs) (wipeI ρ vs)
  | [] => r
  | v :: vs => (IRep.wipe r vs).wipe1 v
theorem IRep.prj (r : IRep Ω H m S σ ρ) : Rep Ω.K H σ (ρ.map prj) := by
  refine ⟨by simp [r.len], fun i x e => ?_⟩
  rw [List.getElem?_map] at e
  obtain ⟨y, h1, h2⟩ := Option.map_eq_some_iff.mp e
  cases y with
  | none => cases h2
  | some y =>
    cases y with
    | dat d =>
      cases h2
      obtain ⟨v, a, b⟩ := r.at_ i _ h1
      exact ⟨v, a, b.1⟩
    | obj i => cases h2
    | val u => cases h2
end
end KW
/-! EB: expressions over objects -/
namespace KW
open PySem PySem.Spec L2
inductive Io (α : Type) where
  | ok (a : α) (S : HS)
  | ex (S : HS)
abbrev IX (α : Type) := IR → HS → Option (Io α)
abbrev IE := IX IV
@[simp] def iBind {α β : Type} (F : IX α) (G : α → IX β) : IX β := fun ρ S => match F ρ S with
  | some (.ok x S1) => G x ρ S1
  | some (.ex S1) => some (.ex S1)
  | none => none
def EOk (Ω : Wd) (W : WX) (H : Hp) (m : List Addr) (σ : St) {α β : Type} (R : Hp → List Addr → α → β → Prop) (Q : β → Hp → Prop) : Io α → Prop
  | .ok x S' => ∀ v H' m', Step H m H' m' → HRep Ω H' m' S' → R H' m' x v → Q v H'
  | .ex S' => ∀ H' m', Step H m H' m' → HRep Ω H' m' S' → W (.ref Ω.XC) none σ H'
/-- F at a state -/
def At_ (Ω : Wd) (W : WX) {α β : Type} (R : Hp → List Addr → α → β → Prop) (F : IX α) (σ : St) (H : Hp) (m : List Addr) (ρ : IR) (S : HS) (Q : β → Hp → Prop) : Prop :=
  IRep Ω H m S σ ρ ∧ ∃ r, F ρ S = some r ∧ EOk Ω W H m σ R Q r
def tX (Ω : Wd) (W : WX) {α β : Type} (R : Hp → List Addr → α → β → Prop) (F : IX α) : St → Hp → (β → Hp → Prop) → Prop := fun σ H Q => ∃ m ρ S, At_ Ω W R F σ H m ρ S Q
abbrev RV (Ω : Wd) : Hp → List Addr → IV → V → Prop := fun H m x v => RepIV Ω.K H m x v
abbrev RB : Hp → List Addr → Bool → Bool → Prop := fun _ _ x v => v = x
abbrev RA (Ω : Wd) : Hp → List Addr → List IV → List V → Prop := fun H m x v => RepAll Ω.K H m x v
abbrev tI (Ω : Wd) (W : WX) (F : IE) : TE := tX Ω W (RV Ω) F
abbrev tIT (Ω : Wd) (W : WX) (F : IX Bool) : TT := tX Ω W RB F
abbrev tIA (Ω : Wd) (W : WX) (F : IX (List IV)) : TA := tX Ω W (RA Ω) F
def om (X : Cx) (C : Addr) : Wd := ⟨X.prog, X.w, X.K, X.mg, C⟩
abbrev JE (X : Cx) (C : Addr) (W : WX) (e : Expr) (F : IE) : Prop := PE X e (tI (om X C) W F)
abbrev JT (X : Cx) (C : Addr) (W : WX) (e : Expr) (F : IX Bool) : Prop := PT X e (tIT (om X C) W F)
abbrev JW (X : Cx) (C : Addr) (W : WX) (e : Expr) (F : IX Bool) : Prop := PW X e (tIT (om X C) W F)
structure JA (X : Cx) (C : Addr) (W : WX) (es : List Expr) (F : IX (List IV)) : Prop where
  pa : PA X es (tIA (om X C) W F)
  len : ∀ ρ S xs S', F ρ S = some (.ok xs S') → xs.length = es.length
section
variable {Ω : Wd} {W : WX} {α β γ δ : Type} {R : Hp → List Addr → α → β → Prop} {R' : Hp → List Addr → γ → δ → Prop} {σ : St} {H H' : Hp} {m m' : List Addr} {S S' : HS} {ρ : IR}
theorem EOk.mono {Q : β → Hp → Prop} (s : Step H m H' m') : ∀ {r : Io α}, EOk Ω W H m σ R Q r → EOk Ω W H' m' σ R Q r
  | .ok x S', h => fun v H1 m1 s1 h1 r => h v H1 m1 (s.trans s1) h1 r
  | .ex S', h => fun H1 m1 s1 h1 => h H1 m1 (s.trans s1) h1
theorem At_.bind {F : IX α} {G : α → IX γ} {Q : δ → Hp → Prop} (h : At_ Ω W R' (iBind F G) σ H m ρ S Q) :
    At_ Ω W R F σ H m ρ S fun v H1 => ∃ x m1 S1, Step H m H1 m1 ∧ R H1 m1 x v ∧ At_ Ω W R' (G x) σ H1 m1 ρ S1 Q := by
  obtain ⟨rp, r, e, k⟩ := h
  refine ⟨rp, ?_⟩
  unfold iBind at e
  split at e
  · rename_i x S1 h1
    exact ⟨_, h1, fun v H1 m1 s1 r1 q => ⟨x, m1, S1, s1, q, rp.step s1 r1, r, e, k.mono s1⟩⟩
  · rename_i S1 h1
    cases e
    exact ⟨_, h1, k⟩
  · cases e
theorem tX.bind {F : IX α} {G : α → IX γ} {Q : δ → Hp → Prop} (h : tX Ω W R' (iBind F G) σ H Q) :
    tX Ω W R F σ H fun v H1 => ∃ x m1 ρ S1, R H1 m1 x v ∧ At_ Ω W R' (G x) σ H1 m1 ρ S1 Q := by
  obtain ⟨m, ρ, S, h⟩ := h
  obtain ⟨rp, r, e, k⟩ := h.bind (R := R)
  refine ⟨m, ρ, S, rp, r, e, ?_⟩
  cases r with
  | ok x S1 => exact fun v H1 m1 s1 r1 q => let ⟨x, m2, S2, a, b, c⟩ := k v H1 m1 s1 r1 q; ⟨x, m2, ρ, S2, b, c⟩
  | ex S1 => exact k
theorem At_.tX {F : IX α} {Q : β → Hp → Prop} (h : At_ Ω W R F σ H m ρ S Q) : tX Ω W R F σ H Q := ⟨m, ρ, S, h⟩
/-- the state stays, a value is handed on -/
theorem At_.fin {F : IX α} {Q : β → Hp → Prop} {x : α} {v : β} (h : At_ Ω W R F σ H m ρ S Q) (e : F ρ S = some (.ok x S)) (s : Same H H') (r : R H' m x v) : Q v H' := by
  obtain ⟨rp, r', e', k⟩ := h
  rw [e] at e'
  cases e'
  exact k v H' m (.same s) (rp.hr.same s) r
theorem At_.get {F : IX α} {Q : β → Hp → Prop} (h : At_ Ω W R F σ H m ρ S Q) : IRep Ω H m S σ ρ ∧ ∃ r, F ρ S = some r ∧ EOk Ω W H m σ R Q r := h
end
/-! ### pure ones -/
@[simp] def iRet (d : PyData) (S : HS) : Option (Io IV) := if noList d = true then some (.ok (.dat d) S) else none
@[simp] def iP (f : DE) : IE := fun ρ S => match f (ρ.map prj) with
  | some d => iRet d S
  | none => none
@[simp] def iPT (f : DT) : IX Bool := fun ρ S => match f (ρ.map prj) with
  | some b => some (.ok b S)
  | none => none
@[simp] def iVar (i : Nat) : IE := fun ρ S => match ρ[i]? with
  | some (some x) => some (.ok x S)
  | _ => none
section
variable {X : Cx} {C : Addr} {W : WX} {a b c e : Expr} {es rest : List Expr} {F G J : IE} {T U : IX Bool} {A : IX (List IV)} {pos p p2 : Pos} {f : DE}
theorem iRet_some {d : PyData} {S : HS} {r : Io IV} (h : iRet d S = some r) : noList d = true ∧ r = .ok (.dat d) S := by
  unfold iRet at h
  split at h
  · cases h; exact ⟨by assumption, rfl⟩
  · cases h
theorem ji_p (h : PD X e f) : JE X C W e (iP f) := h.imp fun σ H Q ⟨m, ρ, S, rp, r, q, k⟩ => by
  unfold iP at q
  split at q
  · rename_i d h1
    obtain ⟨n, rfl⟩ := iRet_some q
    exact ⟨_, d, rp.prj, h1, fun v H' s dv => k v H' m (.same s) (rp.hr.same s) ⟨dv, n⟩⟩
  · cases q
theorem jt_p {f : DT} (h : PDT X e f) : JT X C W e (iPT f) := PT.imp h fun σ H Q ⟨m, ρ, S, rp, r, q, k⟩ => by
  unfold iPT at q
  split at q
  · rename_i d h1
    cases q
    exact ⟨_, d, rp.prj, h1, fun H' s => k d H' m (.same s) (rp.hr.same s) rfl⟩
  · cases q
theorem iVar_some {i : Nat} {ρ : IR} {S : HS} {r : Io IV} (h : iVar i ρ S = some r) : ∃ x, ρ[i]? = some (some x) ∧ r = .ok x S := by
  unfold iVar at h
  split at h
  · cases h; exact ⟨_, by assumption, rfl⟩
  · cases h
theorem jv (i : Nat) {x : Str} (hN : X.N[i]? = some x := by rfl) (hv : Vis X.env.scope x := by first | exact Or.inl rfl | exact Or.inr (Or.inl rfl) | exact Or.inr (Or.inr rfl)) (hd : (x == ("__debug__" : Str)) = false := by decide)
    (hcd : (x == ("__classdict__" : Str)) = false := by decide) : JE X C W (.Name x pos) (iVar i) := (pe_var hN hv hd hcd).imp fun σ H Q ⟨m, ρ, S, rp, r, q, k⟩ => by
  obtain ⟨x, h1, rfl⟩ := iVar_some q
  obtain ⟨v, hv, r⟩ := rp.at_ i x h1
  exact ⟨v, hv, k v H m (.refl _ _) rp.hr r⟩
@[simp] def iVal (v : V) : IE := fun _ S => some (.ok (.val v) S)
/-- a global as a fixed value -/
theorem ji_val {x : Str} {v : V} {u : Value} (hm : X.mg x = some u) (r : RelV v u) (hg : Gl X x := by rfl) (hd : (x == ("__debug__" : Str)) = false := by decide) : JE X C W (.Name x pos) (iVal v) := (pe_glob hg hm r hd).imp fun σ H Q ⟨m, ρ, S, rp, r, q, k⟩ => by
  cases q
  exact k v H m (.refl _ _) rp.hr rfl
/-- read as data: a list of data, too -/
@[simp] def asD (S : HS) : IV → Option PyData
  | .dat d => some d
  | .obj i => (match S[i]? with
    | some (.lst xs) => (datsOf xs).map .list
    | _ => none)
  | .val _ => none
theorem asD_ok {Ω : Wd} {H : Hp} {m : List Addr} {S : HS} (h : HRep Ω H m S) {x : IV} {v : V} {d : PyData} (r : RepIV Ω.K H m x v) (e : asD S x = some d) : Dp Ω.K H v d := by
  cases x with
  | dat d' => cases e; exact r.1
  | val u => cases e
  | obj i =>
    simp only [asD] at e
    obtain ⟨a, h1, rfl⟩ := r
    split at e
    · rename_i xs h2
      obtain ⟨ds, h3, rfl⟩ := Option.map_eq_some_iff.mp e
      obtain ⟨vs, h4, h5⟩ := h.has h2 h1
      exact .lst (SqL.of h4) (h5.dats h3).1
    · cases e
/-! ### two values -/
@[simp] def dOp (Fo : PyData → PyData → Option PyData) (x y : IV) : IE := fun _ S => match asD S x, asD S y with
  | some d, some e => (match Fo d e with
    | some z => iRet z S
    | none => none)
  | _, _ => none
@[simp] def dCmp (Fo : PyData → PyData → Option Bool) (x y : IV) : IE := fun _ S => match asD S x, asD S y with
  | some d, some e => (match Fo d e with
    | some z => some (.ok (.dat (.bool z)) S)
    | none => none)
  | _, _ => none
@[simp] def dCmpT (Fo : PyData → PyData → Option Bool) (x y : IV) : IX Bool := fun _ S => match asD S x, asD S y with
  | some d, some e => (match Fo d e with
    | some z => some (.ok z S)
    | none => none)
  | _, _ => none
@[simp] def iTwo {α : Type} (Go : IV → IV → IX α) (F G : IE) : IX α := iBind F fun x => iBind G fun y => Go x y
/-- a rule by values gives what Go says -/
def RI (Ω : Wd) (W : WX) {α β : Type} (R : Hp → List Addr → α → β → Prop) (r : V → V → Hp → (β → Hp → Prop) → Prop) (Go : IV → IV → IX α) : Prop :=
  ∀ (x y : IV) (v u : V) (σ : St) (H : Hp) (m : List Addr) (ρ : IR) (S : HS) (Q : β → Hp → Prop), RepIV Ω.K H m x v → RepIV Ω.K H m y u → At_ Ω W R (Go x y) σ H m ρ S Q → r v u H Q
theorem dOp_ok {Ω : Wd} {r : R2} {Fo : PyData → PyData → Option PyData} (hr : ROk Ω.K r Fo) : RI Ω W (RV Ω) r (dOp Fo) := by
  intro x y v u σ H m ρ S Q hx hy ⟨rp, r', e, k⟩
  unfold dOp at e
  split at e
  · rename_i d d' h1 h2
    split at e
    · rename_i z h3
      obtain ⟨n, rfl⟩ := iRet_some e
      exact hr v u H Q d d' z (asD_ok rp.hr hx h1) (asD_ok rp.hr hy h2) h3 fun v' H' s dz => k v' H' m (.same s) (rp.hr.same s) ⟨dz, n⟩
    · cases e
  · cases e
theorem dCmp_ok {Ω : Wd} {r : R2} {Fo : PyData → PyData → Option Bool} (hr : ROkB Ω.K r Fo) : RI Ω W (RV Ω) r (dCmp Fo) := by
  intro x y v u σ H m ρ S Q hx hy ⟨rp, r', e, k⟩
  unfold dCmp at e
  split at e
  · rename_i d d' h1 h2
    split at e
    · rename_i z h3
      cases e
      exact hr v u H Q d d' z (asD_ok rp.hr hx h1) (asD_ok rp.hr hy h2) h3 (k _ H m (.refl _ _) rp.hr ⟨.bl _, rfl⟩)
    · cases e
  · cases e
theorem dCmpT_ok {Ω : Wd} {r : R2} {Fo : PyData → PyData → Option Bool} (hr : ROkB Ω.K r Fo) : RI Ω W RB (fun x y H Q => r x y H fun z H' => ∃ k, z = .bl k ∧ Q k H') (dCmpT Fo) := by
  intro x y v u σ H m ρ S Q hx hy ⟨rp, r', e, k⟩
  unfold dCmpT at e
  split at e
  · rename_i d d' h1 h2
    split at e
    · rename_i z h3
      cases e
      exact hr v u H _ d d' z (asD_ok rp.hr hx h1) (asD_ok rp.hr hy h2) h3 ⟨_, rfl, k _ H m (.refl _ _) rp.hr rfl⟩
    · cases e
  · cases e
theorem iTwo_ok {Ω : Wd} {α β : Type} {R : Hp → List Addr → α → β → Prop} {r : V → V → Hp → (β → Hp → Prop) → Prop} {Go : IV → IV → IX α} (hr : RI Ω W R r Go) {σ : St} {H : Hp} {Q : β → Hp → Prop} (h : tX Ω W R (iTwo Go F G) σ H Q) :
    tI Ω W F σ H fun x H1 => tI Ω W G σ H1 fun y H2 => r x y H2 Q := by
  obtain ⟨m, ρ, S, rp, r0, e0, k0⟩ := tX.bind (R := RV Ω) h
  refine ⟨m, ρ, S, rp, r0, e0, ?_⟩
  cases r0 with
  | ex S1 => exact k0
  | ok x0 S1 =>
    intro v H1 m1 s1 h1 q
    obtain ⟨x, m2, ρ2, S2, rx, at2⟩ := k0 v H1 m1 s1 h1 q
    obtain ⟨rp2, r2, e2, k2⟩ := at2.bind (R := RV Ω)
    refine ⟨m2, ρ2, S2, rp2, r2, e2, ?_⟩
    cases r2 with
    | ex S3 => exact k2
    | ok y0 S3 =>
      intro u H3 m3 s3 h3 q3
      obtain ⟨y, m4, S4, s4, ry, at4⟩ := k2 u H3 m3 s3 h3 q3
      exact hr x y v u σ H3 m4 ρ2 S4 Q (RepIV.step rp2.hr.noTup s4 rx) ry at4
theorem ji_op2 {op : Operator} {r : R2} {Go : IV → IV → IE} (ho : OpR X (binaryOp op) r) (hr : RI (om X C) W (RV (om X C)) r Go) (ha : JE X C W a F) (hb : JE X C W b G) : JE X C W (.BinOp a op b pos) (iTwo Go F G) :=
  (pe_op ho ha hb).imp fun σ H Q h => iTwo_ok hr h
abbrev iBin (Fo : PyData → PyData → Option PyData) (F G : IE) : IE := iTwo (dOp Fo) F G
abbrev iCmp (Fo : PyData → PyData → Option Bool) (F G : IE) : IE := iTwo (dCmp Fo) F G
abbrev iCmpT (Fo : PyData → PyData → Option Bool) (F G : IE) : IX Bool := iTwo (dCmpT Fo) F G
theorem ji_op {op : Operator} {r : R2} {Fo : PyData → PyData → Option PyData} (ho : OpR X (binaryOp op) r) (hr : ROk X.K r Fo) (ha : JE X C W a F) (hb : JE X C W b G) : JE X C W (.BinOp a op b pos) (iBin Fo F G) := ji_op2 ho (dOp_ok (Ω := om X C) hr) ha hb
theorem ji_cmp {op : CmpOp} {r : R2} {Fo : PyData → PyData → Option Bool} (ho : OpR X (compareOp op) r) (hr : ROkB X.K r Fo) (ha : JE X C W a F) (hb : JE X C W b G) (hm : behindInMarks op b = false) : JE X C W (.Compare a [op] [b] pos) (iCmp Fo F G) :=
  (pe_cmpR ho ha hb hm).imp fun σ H Q h => iTwo_ok (dCmp_ok (Ω := om X C) hr) h
theorem jt_cmp {op : CmpOp} {r : R2} {Fo : PyData → PyData → Option Bool} (ho : OpR X (compareOp op) r) (hr : ROkB X.K r Fo) (ha : JE X C W a F) (hb : JE X C W b G) (hm : behindInMarks op b = false) : JT X C W (.Compare a [op] [b] pos) (iCmpT Fo F G) :=
  PT.imp (pt_cmpR ho ha hb hm) fun σ H Q h => iTwo_ok (dCmpT_ok (Ω := om X C) hr) h
theorem jt_cmp2 {op : CmpOp} {r : R2} {Go : IV → IV → IX Bool} (ho : OpR X (compareOp op) r) (hr : RI (om X C) W RB (fun x y H Q => r x y H fun z H' => ∃ k, z = .bl k ∧ Q k H') Go) (ha : JE X C W a F) (hb : JE X C W b G) (hm : behindInMarks op b = false) : JT X C W (.Compare a [op] [b] pos) (iTwo Go F G) :=
  PT.imp (pt_cmpR ho ha hb hm) fun σ H Q h => iTwo_ok hr h
end
end KW
/-! EC: more expressions over objects -/
namespace KW
open PySem PySem.Spec L2
theorem noLists_get : ∀ {ds : List PyData} {i : Nat} {d : PyData}, noLists ds = true → ds[i]? = some d → noList d = true
  | [], _, _, _, e => by simp at e
  | d :: ds, 0, _, h, e => by
    simp at e; subst e
    have e' : noList d = true ∧ noLists ds = true := by simpa [noLists] using h
    exact e'.1
  | d :: ds, i + 1, _, h, e => by
    have e' : noList d = true ∧ noLists ds = true := by simpa [noLists] using h
    exact noLists_get e'.2 (by simpa using e)
section
variable {X : Cx} {C : Addr} {W : WX} {a b c e : Expr} {es rest : List Expr} {F G J : IE} {T U : IX Bool} {A : IX (List IV)} {pos p p2 : Pos} {f : DE} {Ω : Wd}
/-! ### one value, and what follows -/
theorem EOk.imp {α β : Type} {R : Hp → List Addr → α → β → Prop} {σ : St} {H : Hp} {m : List Addr} {Q Q' : β → Hp → Prop} (i : ∀ v H', Q v H' → Q' v H') : ∀ {r : Io α}, EOk Ω W H m σ R Q r → EOk Ω W H m σ R Q' r
  | .ok x S', h => fun v H' m' s hr r => i _ _ (h v H' m' s hr r)
  | .ex S', h => h
theorem At_.imp {α β : Type} {R : Hp → List Addr → α → β → Prop} {K : IX α} {σ : St} {H : Hp} {m : List Addr} {ρ : IR} {S : HS} {Q Q' : β → Hp → Prop} (h : At_ Ω W R K σ H m ρ S Q) (i : ∀ v H', Q v H' → Q' v H') : At_ Ω W R K σ H m ρ S Q' :=
  let ⟨rp, r, e, k⟩ := h; ⟨rp, r, e, k.imp i⟩
theorem bind_ok {α β γ δ : Type} {R1 : Hp → List Addr → α → β → Prop} {R2 : Hp → List Addr → γ → δ → Prop} {K : IX α} {Go : α → IX γ} {r : β → St → Hp → (δ → Hp → Prop) → Prop}
    (hr : ∀ (x : α) (v : β) (σ : St) (H : Hp) (m : List Addr) (ρ : IR) (S : HS) (Q : δ → Hp → Prop), R1 H m x v → At_ Ω W R2 (Go x) σ H m ρ S Q → r v σ H Q) {σ : St} {H : Hp} {Q : δ → Hp → Prop} (h : tX Ω W R2 (iBind K Go) σ H Q) :
    tX Ω W R1 K σ H fun v H1 => r v σ H1 Q := by
  obtain ⟨m, ρ, S, h⟩ := h
  exact ⟨m, ρ, S, (h.bind (R := R1)).imp fun v H1 ⟨x, m1, S1, _, r1, a⟩ => hr x v σ H1 m1 ρ S1 Q r1 a⟩
/-! ### lists of expressions -/
@[simp] def iNil : IX (List IV) := fun _ S => some (.ok [] S)
@[simp] def iRA (xs : List IV) : IX (List IV) := fun _ S => some (.ok xs S)
@[simp] def iCons (F : IE) (A : IX (List IV)) : IX (List IV) := iBind F fun x => iBind A fun xs => iRA (x :: xs)
theorem ja_nil : JA X C W [] iNil := ⟨PA.imp pa_nil fun σ H Q ⟨m, ρ, S, rp, r, e, k⟩ => by cases e; exact k [] H m (.refl _ _) rp.hr .nil, fun ρ S xs S' e => by cases e; rfl⟩
theorem ja_cons (ha : JE X C W e F) (hr : JA X C W es A) (hs : starEach (e :: es) X.env = (false, eval e X.env) :: starEach es X.env := by rfl) : JA X C W (e :: es) (iCons F A) := by
  refine ⟨PA.imp (pa_cons ha hr.pa hs) fun σ H Q h => ?_, fun ρ S xs S' q => ?_⟩
  · refine bind_ok (r := fun x σ H1 Q => tIA (om X C) W A σ H1 fun vs H2 => Q (x :: vs) H2) (fun x v σ H m ρ S Q rx a => ?_) h
    refine ⟨m, ρ, S, (At_.bind (R := RA (om X C)) a).imp fun vs H1 ⟨xs, m1, S1, s1, ra, a1⟩ => ?_⟩
    exact a1.fin rfl (Same.refl _) (.cons (rx.step a.get.1.hr.noTup s1) ra)
  · unfold iCons at q
    simp only [iBind] at q
    split at q
    · split at q
      · cases q
        rename_i h2
        simp [hr.len _ _ _ _ h2]
      · cases q
      · cases q
    · cases q
    · cases q
/-! ### displays -/
@[simp] def iTup (A : IX (List IV)) : IE := iBind A fun xs => fun _ S => match datsOf xs with
  | some ds => some (.ok (.dat (.tuple ds)) S)
  | none => none
theorem ji_tup {x1} (ha : JA X C W es A) (hz : es.length ≤ 1000 := by decide) : JE X C W (.Tuple es x1 pos) (iTup A) :=
  PE.imp (pe_tup ha.pa) fun σ H Q h => by
    obtain ⟨m, ρ, S, rp, r, e, k⟩ := h
    have hl : ∀ xs S', A ρ S = some (.ok xs S') → xs.length = es.length := fun xs S' q => ha.len _ _ _ _ q
    refine ⟨m, ρ, S, rp, ?_⟩
    simp only [iTup, iBind] at e
    split at e
    · rename_i xs S1 h1
      refine ⟨_, h1, fun vs H1 m1 s1 hr1 ra => ?_⟩
      split at e
      · rename_i ds h2
        cases e
        obtain ⟨d1, d2, d3⟩ := ra.dats h2
        refine ⟨by rw [← ra.len, hl _ _ h1]; exact line10 (by omega), fun p hp => ?_⟩
        have s := same_upd (q := .tup vs) hp
        exact k _ _ m1 (s1.trans (.same s)) (hr1.same s) ⟨.tup (SqT.of upd_same) (DpAll.mono s _ _ d1), by simpa [noList] using d2⟩
      · cases e
    · rename_i S1 h1
      cases e
      exact ⟨_, h1, k⟩
    · cases e
/-- a list, laid anew -/
@[simp] def iLst (A : IX (List IV)) : IE := iBind A fun xs => fun _ S => some (.ok (.obj S.length) (S ++ [.lst xs]))
theorem lay_lst {H H' : Hp} {m : List Addr} {S : HS} (h : HRep Ω H m S) {l : Addr} {xs : List IV} {vs : List V} (hl : H l = none) (r : RepAll Ω.K H m xs vs) : Step H m (upd H l (.lst vs)) (m ++ [l]) ∧ HRep Ω (upd H l (.lst vs)) (m ++ [l]) (S ++ [.lst xs]) ∧ RepIV Ω.K (upd H l (.lst vs)) (m ++ [l]) (.obj S.length) (.ref l) := by
  have s := same_upd (q := .lst vs) hl
  have st : Step H m (upd H l (.lst vs)) (m ++ [l]) := .lay s hl
  refine ⟨st, h.lay s hl ⟨vs, upd_same, r.step h.noTup st⟩, l, ?_, rfl⟩
  rw [← h.len]
  simp
theorem ji_lst (ha : JA X C W es A) (hz : es.length ≤ 1000 := by decide) : JE X C W (.List es pos) (iLst A) :=
  PE.imp (pe_lst ha.pa) fun σ H Q h => by
    obtain ⟨m, ρ, S, rp, r, e, k⟩ := h
    have hl : ∀ xs S', A ρ S = some (.ok xs S') → xs.length = es.length := fun xs S' q => ha.len _ _ _ _ q
    refine ⟨m, ρ, S, rp, ?_⟩
    simp only [iLst, iBind] at e
    split at e
    · rename_i xs S1 h1
      refine ⟨_, h1, fun vs H1 m1 s1 hr1 ra => ?_⟩
      cases e
      refine ⟨by rw [← ra.len, hl _ _ h1]; exact line10 (by omega), fun p hp => ?_⟩
      obtain ⟨a, b, c⟩ := lay_lst (H' := H1) hr1 hp ra
      exact k _ _ _ (s1.trans a) b c
    · rename_i S1 h1
      cases e
      exact ⟨_, h1, k⟩
    · cases e
/-! ### built-ins of one value -/
theorem one_arg {r : List V → Hp → VK → Prop} {Go : IV → IE} (hr : ∀ (x : IV) (v : V) (σ : St) (H : Hp) (m : List Addr) (ρ : IR) (S : HS) (Q : VK), RepIV Ω.K H m x v → At_ Ω W (RV Ω) (Go x) σ H m ρ S Q → r [v] H Q) {σ : St} {H : Hp} {Q : VK}
    (h : tI Ω W (iBind F Go) σ H Q) : tCB r (tCons (tI Ω W F) tNil) σ H Q :=
  bind_ok (r := fun v _ H Q => r [v] H Q) hr h
@[simp] def lenD : PyData → Option PyData
  | .tuple ds => some (.int ds.length)
  | .list ds => some (.int ds.length)
  | _ => none
@[simp] def sizeOf_ (S : HS) : IV → Option Nat
  | .dat (.tuple ds) => some ds.length
  | .obj i => (match S[i]? with
    | some (.lst xs) => some xs.length
    | some (.scr xs) => some xs.length
    | _ => none)
  | _ => none
@[simp] def iLen (F : IE) : IE := iBind F fun x => fun _ S => match sizeOf_ S x with
  | some n => some (.ok (.dat (.int n)) S)
  | none => none
theorem ji_len (T : Blt X.mg) (ha : JE X C W a F) (hg : Gl X "len" := by rfl) (hs : starEach [a] X.env = (false, eval a X.env) :: starEach [] X.env := by rfl) : JE X C W (.Call (.Name "len" p) [a] [] pos) (iLen F) :=
  (pe_callB call_len_seq hg T.len PySem.boot_len (pa_cons ha pa_nil hs) (he := hs)).imp fun σ H Q h => one_arg (fun x v σ H m ρ S Q rx a => by
    obtain ⟨rp, r, e, k⟩ := a
    simp only at e
    split at e
    · rename_i n h1
      cases e
      have fin : Q (.int n) H := k _ H m (.refl _ _) rp.hr ⟨.int _, rfl⟩
      cases x with
      | dat d =>
        cases d with
        | tuple ds =>
          cases h1
          obtain ⟨r1, _⟩ := rx
          cases r1 with
          | tup hq ha => exact ⟨_, _, rfl, .inr hq, by rw [ha.len]; exact fin⟩
        | _ => cases h1
      | val u => cases h1
      | obj i =>
        simp only [sizeOf_] at h1
        split at h1
        · rename_i xs h2
          cases h1
          obtain ⟨l, h3, rfl⟩ := rx
          obtain ⟨vs, h4, h5⟩ := rp.hr.has h2 h3
          exact ⟨_, _, rfl, .inl (SqL.of h4), by rw [← h5.len]; exact fin⟩
        · rename_i xs h2
          cases h1
          obtain ⟨l, h3, rfl⟩ := rx
          obtain ⟨o, vs, h4, h5⟩ := rp.hr.has h2 h3
          exact ⟨_, _, rfl, .inl (.inl (.inr ⟨o, h4⟩)), by rw [← h5.len]; exact fin⟩
        · cases h1
    · cases e) h
/-- tuple(x) -/
@[simp] def tupOf_ (S : HS) : IV → Option (List PyData)
  | .dat (.tuple ds) => some ds
  | .obj i => (match S[i]? with
    | some (.lst xs) => datsOf xs
    | _ => none)
  | _ => none
@[simp] def iTupOf (F : IE) : IE := iBind F fun x => fun _ S => match tupOf_ S x with
  | some ds => some (.ok (.dat (.tuple ds)) S)
  | none => none
theorem ji_tupOf (T : Blt X.mg) (ha : JE X C W a F) (hg : Gl X "tuple" := by rfl) (hs : starEach [a] X.env = (false, eval a X.env) :: starEach [] X.env := by rfl) : JE X C W (.Call (.Name "tuple" p) [a] [] pos) (iTupOf F) :=
  (pe_callTy call_tuple_of hg T.tuple (by decide +kernel) (pa_cons ha pa_nil hs) (he := hs)).imp fun σ H Q h => one_arg (fun x v σ H m ρ S Q rx a => by
    obtain ⟨rp, r, e, k⟩ := a
    simp only at e
    split at e
    · rename_i ds h1
      cases e
      cases x with
      | dat d =>
        cases d with
        | tuple ds' =>
          cases h1
          have rx' := rx
          obtain ⟨r1, _⟩ := rx
          cases r1 with
          | tup hq ha => exact ⟨_, _, rfl, .inr ⟨hq, k _ H m (.refl _ _) rp.hr rx'⟩⟩
        | _ => cases h1
      | val u => cases h1
      | obj i =>
        simp only [tupOf_] at h1
        split at h1
        · rename_i xs h2
          obtain ⟨l, h3, rfl⟩ := rx
          obtain ⟨vs, h4, h5⟩ := rp.hr.has h2 h3
          obtain ⟨d1, d2, _⟩ := h5.dats h1
          refine ⟨_, _, rfl, .inl ⟨SqL.of h4, fun q hq => ?_⟩⟩
          have s := same_upd (q := .tup vs) hq
          exact k _ _ m (.same s) (rp.hr.same s) ⟨.tup (SqT.of upd_same) (DpAll.mono s _ _ d1), by simpa [noList] using d2⟩
        · cases h1
    · cases e) h
/-- list(x) -/
@[simp] def iLstOf (F : IE) : IE := iBind F fun x => fun _ S => match tupOf_ S x with
  | some ds => some (.ok (.obj S.length) (S ++ [.lst (ds.map .dat)]))
  | none => none
theorem ji_lstOf (T : Blt X.mg) (ha : JE X C W a F) (hg : Gl X "list" := by rfl) (hs : starEach [a] X.env = (false, eval a X.env) :: starEach [] X.env := by rfl) : JE X C W (.Call (.Name "list" p) [a] [] pos) (iLstOf F) :=
  (pe_callTy call_list_of hg T.list (by decide +kernel) (pa_cons ha pa_nil hs) (he := hs)).imp fun σ H Q h => one_arg (fun x v σ H m ρ S Q rx a => by
    obtain ⟨rp, r, e, k⟩ := a
    simp only at e
    split at e
    · rename_i ds h1
      cases e
      have fin : ∀ vs, DpAll X.K H vs ds → noLists ds = true → ∀ l, H l = none → Q (.ref l) (upd H l (.lst vs)) := fun vs d n l hl => by
        obtain ⟨a, b, c⟩ := lay_lst (H' := H) rp.hr hl (DpAll.rep d n)
        exact k _ _ _ a b c
      cases x with
      | dat d =>
        cases d with
        | tuple ds' =>
          cases h1
          obtain ⟨r1, r2⟩ := rx
          cases r1 with
          | tup hq ha => exact ⟨_, _, rfl, .inr hq, fin _ ha (by simpa [noList] using r2)⟩
        | _ => cases h1
      | val u => cases h1
      | obj i =>
        simp only [tupOf_] at h1
        split at h1
        · rename_i xs h2
          obtain ⟨l, h3, rfl⟩ := rx
          obtain ⟨vs, h4, h5⟩ := rp.hr.has h2 h3
          obtain ⟨d1, d2, _⟩ := h5.dats h1
          exact ⟨_, _, rfl, .inl (SqL.of h4), fin _ d1 d2⟩
        · cases h1
    · cases e) h
end
end KW
/-! ED: items, attributes, truth -/
namespace KW
open PySem PySem.Spec L2
section
variable {X : Cx} {C : Addr} {W : WX} {a b c e : Expr} {es rest : List Expr} {F G J : IE} {T U : IX Bool} {A : IX (List IV)} {pos p p2 : Pos} {f : DE} {Ω : Wd} {x : Str}
/-! ### items -/
@[simp] def ixGo (x y : IV) : IE := fun _ S => match y with
  | .dat (.int i) => if 0 ≤ i then (match x with
    | .dat (.tuple ds) => (match ds[i.toNat]? with
      | some d => some (.ok (.dat d) S)
      | none => none)
    | .obj n => (match S[n]? with
      | some (.lst xs) => (match xs[i.toNat]? with
        | some z => some (.ok z S)
        | none => none)
      | some (.scr xs) => (match xs[i.toNat]? with
        | some z => some (.ok z S)
        | none => none)
      | _ => none)
    | _ => none) else none
  | _ => none
theorem atI_pos {xs : List V} {i : Int} {v : V} (h0 : 0 ≤ i) (h : xs[i.toNat]? = some v) : atI xs i = some v := by
  have := atI_nat h
  rwa [Int.toNat_of_nonneg h0] at this
theorem ixGo_ok : RI Ω W (RV Ω) (rIx Ω.K) ixGo := by
  intro x y v u σ H m ρ S Q hx hy ⟨rp, r, e, k⟩
  unfold ixGo at e
  split at e
  · rename_i i
    obtain ⟨hy, _⟩ := hy
    cases hy
    split at e
    · rename_i h0
      split at e
      · rename_i ds
        split at e
        · rename_i d h1
          cases e
          obtain ⟨hx, n⟩ := hx
          have n' : noLists ds = true := by simpa [noList] using n
          cases hx with
          | tup hq ha =>
            obtain ⟨w, hw, dw⟩ := ha.get h1
            exact .inr (.inl ⟨_, _, _, w, rfl, rfl, hq, atI_pos h0 hw, k w H m (.refl _ _) rp.hr ⟨dw, noLists_get n' h1⟩⟩)
        · cases e
      · rename_i n
        split at e
        · rename_i xs h1
          split at e
          · rename_i z h2
            cases e
            obtain ⟨l, h3, rfl⟩ := hx
            obtain ⟨vs, h4, h5⟩ := rp.hr.has h1 h3
            obtain ⟨w, hw, rw_⟩ := h5.get h2
            exact .inl ⟨_, _, _, w, rfl, rfl, SqL.of h4, atI_pos h0 hw, k w H m (.refl _ _) rp.hr rw_⟩
          · cases e
        · rename_i xs h1
          split at e
          · rename_i z h2
            cases e
            obtain ⟨l, h3, rfl⟩ := hx
            obtain ⟨o, vs, h4, h5⟩ := rp.hr.has h1 h3
            obtain ⟨w, hw, rw_⟩ := h5.get h2
            exact .inl ⟨_, _, _, w, rfl, rfl, .inl (.inr ⟨o, h4⟩), atI_pos h0 hw, k w H m (.refl _ _) rp.hr rw_⟩
          · cases e
        · cases e
      · cases e
    · cases e
  · cases e
abbrev iIx (F G : IE) : IE := iTwo ixGo F G
theorem ji_ix (ha : JE X C W a F) (hb : JE X C W b G) (hs : PlainIx b := by intro _ _; rfl) : JE X C W (.Subscript a b pos) (iIx F G) := (pe_ix ix_seq ha hb hs).imp fun σ H Q h => iTwo_ok (ixGo_ok (Ω := om X C)) h
/-! ### xs[n:] of a list -/
@[simp] def iFrom (F : IE) (n : Nat) : IE := iBind F fun x => fun _ S => match x with
  | .obj i => (match S[i]? with
    | some (.lst xs) => some (.ok (.obj S.length) (S ++ [.lst (xs.drop n)]))
    | _ => none)
  | _ => none
theorem ji_from {n : Nat} {j p'} (ha : JE X C W a F) : JE X C W (.Subscript a (.Slice (some (.Constant (.int (n : Int)) j p')) none none p2) pos) (iFrom F n) :=
  (pe_slice sl_list ha (po_some pe_int) po_none).imp fun σ H Q h => by
    refine bind_ok (R1 := RV (om X C)) (r := fun v σ H Q => tPart (tC (V.int (n : Int))) σ H fun l H2 => tNoPart σ H2 fun u H3 => rSlL X.K v l u H3 Q) (fun x v σ H m ρ S Q rx a => ?_) h
    obtain ⟨rp, r, e, k⟩ := a
    simp only at e
    split at e
    · split at e
      · rename_i xs h1
        cases e
        obtain ⟨l, h3, rfl⟩ := rx
        obtain ⟨vs, h4, h5⟩ := rp.hr.has h1 h3
        refine ⟨_, rfl, l, vs, rfl, SqL.of h4, fun q hq => ?_⟩
        rw [cut_from]
        obtain ⟨a, b, c⟩ := lay_lst (H' := H) rp.hr hq (h5.drop n)
        exact k _ _ _ a b c
      · cases e
    · cases e
/-- xs[:k] of a list -/
@[simp] def iTo (F G : IE) : IE := iBind F fun x => iBind G fun y => fun _ S => match x, y with
  | .obj i, .dat (.int k) => if 0 ≤ k then (match S[i]? with
    | some (.lst xs) => some (.ok (.obj S.length) (S ++ [.lst (xs.take k.toNat)]))
    | some (.scr xs) => some (.ok (.obj S.length) (S ++ [.lst (xs.take k.toNat)]))
    | _ => none) else none
  | _, _ => none
theorem cut_to {xs : List V} {k : Int} (h : 0 ≤ k) : cutV xs none (some k) = xs.take k.toNat := by
  unfold cutV
  have e : k = (k.toNat : Int) := (Int.toNat_of_nonneg h).symm
  rw [sIx_none]
  rw [show HT.sIx xs.length xs.length (some k) = min k.toNat xs.length by rw [e]; exact HT.sIx_nat _ _ _]
  simp only [List.drop_zero, Nat.sub_zero]
  rcases Nat.le_total k.toNat xs.length with h | h
  · rw [Nat.min_eq_left h]
  · rw [Nat.min_eq_right h, List.take_length, List.take_of_length_le h]
theorem ji_to (ha : JE X C W a F) (hb : JE X C W b G) : JE X C W (.Subscript a (.Slice none (some b) none p2) pos) (iTo F G) :=
  (pe_slice sl_list ha po_none (po_some hb)).imp fun σ H Q h => by
    refine bind_ok (R1 := RV (om X C)) (r := fun v σ H Q => tNoPart σ H fun l H2 => tPart (tI (om X C) W G) σ H2 fun u H3 => rSlL X.K v l u H3 Q) (fun x v σ H m ρ S Q rx a => ?_) h
    have n0 := a.get.1.hr.noTup
    refine ⟨m, ρ, S, (At_.bind (R := RV (om X C)) a).imp fun w H1 ⟨y, m1, S1, s1, ry, a1⟩ => ?_⟩
    obtain ⟨rp, r, e, k⟩ := a1
    cases x with
    | dat _ => cases e
    | val _ => cases e
    | obj i =>
      cases y with
      | obj _ => cases e
      | val _ => cases e
      | dat d =>
        cases d with
        | int kk =>
          simp only at e
          split at e
          · rename_i hk
            obtain ⟨ry, _⟩ := ry
            cases ry
            obtain ⟨l, h3, rfl⟩ := rx
            have h3' := s1.get h3
            split at e
            · rename_i xs h1
              cases e
              obtain ⟨vs, h4, h5⟩ := rp.hr.has h1 h3'
              refine ⟨_, rfl, l, vs, rfl, SqL.of h4, fun q hq => ?_⟩
              rw [cut_to hk]
              obtain ⟨a, b, c⟩ := lay_lst (H' := H1) rp.hr hq (h5.take kk.toNat)
              exact k _ _ _ a b c
            · rename_i xs h1
              cases e
              obtain ⟨o, vs, h4, h5⟩ := rp.hr.has h1 h3'
              refine ⟨_, rfl, l, vs, rfl, .inl (.inr ⟨o, h4⟩), fun q hq => ?_⟩
              rw [cut_to hk]
              obtain ⟨a, b, c⟩ := lay_lst (H' := H1) rp.hr hq (h5.take kk.toNat)
              exact k _ _ _ a b c
            · cases e
          · cases e
        | _ => cases e
/-- two lists in one -/
@[simp] def catGo (x y : IV) : IE := fun _ S => match x, y with
  | .obj i, .obj j => (match S[i]?, S[j]? with
    | some (.lst xs), some (.lst ys) => if xs.length + ys.length < 10000 then some (.ok (.obj S.length) (S ++ [.lst (xs ++ ys)])) else none
    | _, _ => none)
  | _, _ => none
theorem catGo_ok : RI Ω W (RV Ω) rCat catGo := by
  intro x y v u σ H m ρ S Q hx hy ⟨rp, r, e, k⟩
  unfold catGo at e
  split at e
  · rename_i i j
    split at e
    · rename_i xs ys h1 h2
      split at e
      · rename_i hz
        cases e
        obtain ⟨l, h3, rfl⟩ := hx
        obtain ⟨l2, h3', rfl⟩ := hy
        obtain ⟨vs, h4, h5⟩ := rp.hr.has h1 h3
        obtain ⟨vs2, h6, h7⟩ := rp.hr.has h2 h3'
        refine ⟨l, l2, vs, vs2, rfl, rfl, h4, h6, by rw [sizeLine_eq, ← h5.len, ← h7.len]; omega, fun q hq => ?_⟩
        obtain ⟨a, b, c⟩ := lay_lst (H' := H) rp.hr hq (h5.append h7)
        exact k _ _ _ a b c
      · cases e
    · cases e
  · cases e
theorem ji_cat (ha : JE X C W a F) (hb : JE X C W b G) : JE X C W (.BinOp a .Add b pos) (iTwo catGo F G) := ji_op2 op_cat catGo_ok ha hb
/-! ### truth -/
@[simp] def iNot (T : IX Bool) : IX Bool := iBind T fun b => fun _ S => some (.ok (!b) S)
@[simp] def iAnd (T U : IX Bool) : IX Bool := iBind T fun b => if b = true then U else fun _ S => some (.ok false S)
@[simp] def iOr (T U : IX Bool) : IX Bool := iBind T fun b => if b = true then fun _ S => some (.ok true S) else U
@[simp] def iIf {α : Type} (T : IX Bool) (F G : IX α) : IX α := iBind T fun b => if b = true then F else G
theorem jt_not (ha : JT X C W a T) : JT X C W (.UnaryOp .Not a pos) (iNot T) := PT.imp (pt_not ha) fun σ H Q h =>
  bind_ok (R1 := RB) (r := fun c _ H Q => Q (!c) H) (fun x v σ H m ρ S Q rx a => by cases rx; exact a.fin rfl (Same.refl _) rfl) h
theorem jw_and1 (ha : JT X C W a T) : JW X C W (.BoolOp .And [a] pos) T := pw_and1 ha
theorem jw_or1 (ha : JT X C W a T) : JW X C W (.BoolOp .Or [a] pos) T := pw_or1 ha
theorem jw_and (ha : JT X C W a T) (hb : JW X C W (.BoolOp .And (b :: rest) pos) U) : JW X C W (.BoolOp .And (a :: b :: rest) pos) (iAnd T U) := PW.imp (pw_and ha hb) fun σ H Q h =>
  bind_ok (R1 := RB) (r := fun c σ H Q => if c = true then tIT (om X C) W U σ H Q else Q false H) (fun x v σ H m ρ S Q rx a => by
    cases rx
    cases x with
    | true => exact iteT a.tX
    | false => exact iteF (a.fin rfl (Same.refl _) rfl)) h
theorem jw_or (ha : JT X C W a T) (hb : JW X C W (.BoolOp .Or (b :: rest) pos) U) : JW X C W (.BoolOp .Or (a :: b :: rest) pos) (iOr T U) := PW.imp (pw_or ha hb) fun σ H Q h =>
  bind_ok (R1 := RB) (r := fun c σ H Q => if c = true then Q true H else tIT (om X C) W U σ H Q) (fun x v σ H m ρ S Q rx a => by
    cases rx
    cases x with
    | true => exact iteT (a.fin rfl (Same.refl _) rfl)
    | false => exact iteF a.tX) h
theorem jt_w (h : JW X C W a T) : JT X C W a T := PW.pt h
theorem ji_if (hc : JT X C W c T) (ha : JE X C W a F) (hb : JE X C W b G) : JE X C W (.IfExp c a b pos) (iIf T F G) := (pe_ifExp hc ha hb).imp fun σ H Q h =>
  bind_ok (R1 := RB) (r := fun c σ H Q => if c = true then tI (om X C) W F σ H Q else tI (om X C) W G σ H Q) (fun x v σ H m ρ S Q rx a => by
    cases rx
    cases x with
    | true => exact iteT a.tX
    | false => exact iteF a.tX) h
/-- a value's truth -/
@[simp] def iValT (F : IE) : IX Bool := iBind F fun x => fun _ S => match x with
  | .dat (.bool b) => some (.ok b S)
  | _ => none
theorem jt_val (ha : JE X C W e F) (he : ∀ whole, isTrue e X.env whole = (do let v ← whole; standAt e.pos; holding [v] (truthy v)) := by intro _; rfl) : JT X C W e (iValT F) := PT.imp (pt_val ha he) fun σ H Q h =>
  bind_ok (R1 := RV (om X C)) (r := fun v _ H Q => ∃ c, v = .bl c ∧ Q c H) (fun x v σ H m ρ S Q rx a => by
    obtain ⟨rp, r, e, k⟩ := a
    simp only at e
    split at e
    · cases e
      obtain ⟨rx, _⟩ := rx
      cases rx
      exact ⟨_, rfl, k _ H m (.refl _ _) rp.hr rfl⟩
    · cases e) h
/-! ### attributes -/
/-- the class of that name, with these attributes that are its instances' alone -/
structure CF (K : PySem.W.Frag) (mg : Str → Option Value) (c : Str) (fs : List Str) : Prop where
  ex : ∃ C, mg c = some (.ref C) ∧ Cls K C ∧ ∀ f ∈ fs, NoAttr K C f
@[simp] def fldGo (cl : Str) (f : Str) (x : IV) : IE := fun _ S => match x with
  | .obj i => (match S[i]? with
    | some (.ins c fs) => if c = cl then (match fs.lookup f with
      | some z => some (.ok z S)
      | none => none) else none
    | _ => none)
  | _ => none
@[simp] def iFld (cl : Str) (F : IE) (f : Str) : IE := iBind F (fldGo cl f)
theorem ji_fld {cl f : Str} {fs : List Str} (T : CF X.K X.mg cl fs) (ha : JE X C W e F) (hf : f ∈ fs := by decide) (hb : attributeBase e f X.env (eval e X.env) = eval e X.env := by rfl) : JE X C W (.Attribute e f pos) (iFld cl F f) :=
  (pe_fld ha hb).imp fun σ H Q h => by
    obtain ⟨D, hD, hc, hn⟩ := T.ex
    refine bind_ok (R1 := RV (om X C)) (r := fun x _ H1 Q => ∃ a C dx fs v, x = .ref a ∧ H1 a = some (.ins C dx fs) ∧ Cls X.K C ∧ NoAttr X.K C f ∧ fs.lookup f = some v ∧ Q v H1) (fun x v σ H m ρ S Q rx a => ?_) h
    obtain ⟨rp, r, e, k⟩ := a
    unfold fldGo at e
    split at e
    · split at e
      · rename_i c gs h1
        split at e
        · rename_i hcl
          subst hcl
          split at e
          · rename_i z h2
            cases e
            obtain ⟨l, h3, rfl⟩ := rx
            obtain ⟨C', dx, ws, h4, h5, h6⟩ := rp.hr.has h1 h3
            have e1 : X.mg c = some (.ref C') := h4
            rw [hD] at e1
            cases e1
            obtain ⟨v, h7, h8⟩ := h6.lookup h2
            exact ⟨l, D, dx, ws, v, rfl, h5, hc, hn f hf, h7, k v H m (.refl _ _) rp.hr h8⟩
          · cases e
        · cases e
      · cases e
    · cases e
end
end KW
/-! EE: targets, statements over objects -/
namespace KW
open PySem PySem.Spec L2
abbrev IG := IV → IR → HS → Option (IR × HS)
abbrev IGs := List IV → IR → HS → Option (IR × HS)
inductive IOut where
  | nx (ρ : IR) (S : HS)
  | rt (x : IV) (S : HS)
  | ex (ρ : IR) (S : HS)
abbrev IB := IR → HS → Option IOut
def SOk (Ω : Wd) (W : WX) (H : Hp) (m : List Addr) (D : Ends) : IOut → Prop
  | .nx ρ S => ∀ σ' H' m', Step H m H' m' → IRep Ω H' m' S σ' ρ → D.nx σ' H'
  | .rt x S => ∀ v H' m', Step H m H' m' → HRep Ω H' m' S → RepIV Ω.K H' m' x v → D.rt v H'
  | .ex ρ S => ∀ σ' H' m', Step H m H' m' → IRep Ω H' m' S σ' ρ → W (.ref Ω.XC) none σ' H'
def tIS (Ω : Wd) (W : WX) (F : IB) : TS := fun D σ H => ∃ m ρ S o, IRep Ω H m S σ ρ ∧ F ρ S = some o ∧ SOk Ω W H m D o
def tIG (Ω : Wd) (vs : List Nat) (G : IG) : TG := fun v σ H Q => ∃ m ρ S x ρ' S', IRep Ω H m S σ ρ ∧ RepIV Ω.K H m x v ∧ G x ρ S = some (ρ', S') ∧ ∀ σ' H' m', Step H m H' m' → IRep Ω H' m' S' σ' ρ' → SOff vs σ σ' → Q σ' H'
def tIGs (Ω : Wd) (vs : List Nat) (G : IGs) : TGs := fun v σ H Q => ∃ m ρ S x ρ' S', IRep Ω H m S σ ρ ∧ RepAll Ω.K H m x v ∧ G x ρ S = some (ρ', S') ∧ ∀ σ' H' m', Step H m H' m' → IRep Ω H' m' S' σ' ρ' → SOff vs σ σ' → Q σ' H'
abbrev JS (X : Cx) (C : Addr) (W : WX) (st : Stmt) (F : IB) : Prop := PS X st (tIS (om X C) W F)
abbrev JSs (X : Cx) (C : Addr) (W : WX) (sts : List Stmt) (F : IB) : Prop := PSs X sts (tIS (om X C) W F)
abbrev JG (X : Cx) (C : Addr) (vs : List Nat) (e : Expr) (G : IG) : Prop := PG X e (tIG (om X C) vs G)
structure JGs (X : Cx) (C : Addr) (vs : List Nat) (es : List Expr) (G : IGs) : Prop where
  pg : PGs X es (tIGs (om X C) vs G)
  len : ∀ xs ρ S r, G xs ρ S = some r → xs.length = es.length
section
variable {X : Cx} {C : Addr} {W : WX} {a b c e tg : Expr} {es rest : List Expr} {F F' : IE} {T U : IX Bool} {A : IX (List IV)} {pos p p2 : Pos} {f : DE} {Ω : Wd} {x : Str} {vs ws : List Nat} {g : IG} {gs : IGs} {st : Stmt} {sts body orelse : List Stmt} {u v : IB}
theorem SOk.mono {H H' : Hp} {m m' : List Addr} {D : Ends} (s : Step H m H' m') : ∀ {o : IOut}, SOk Ω W H m D o → SOk Ω W H' m' D o
  | .nx _ _, h => fun σ1 H1 m1 s1 r => h σ1 H1 m1 (s.trans s1) r
  | .rt _ _, h => fun v H1 m1 s1 r d => h v H1 m1 (s.trans s1) r d
  | .ex _ _, h => fun σ1 H1 m1 s1 r => h σ1 H1 m1 (s.trans s1) r
/-! ### targets -/
@[simp] def gIN (i : Nat) : IG := fun x ρ S => some (ρ.set i (some x), S)
@[simp] def gIT (gs : IGs) : IG := fun x ρ S => match x with
  | .dat (.tuple ds) => gs (ds.map .dat) ρ S
  | _ => none
@[simp] def gsIN : IGs := fun xs ρ S => match xs with
  | [] => some (ρ, S)
  | _ :: _ => none
@[simp] def gsIC (g : IG) (gs : IGs) : IGs := fun xs ρ S => match xs with
  | x :: r => (match g x ρ S with
    | some (ρ1, S1) => gs r ρ1 S1
    | none => none)
  | [] => none
theorem jg_nm (i : Nat) {x : Str} (hN : X.N.Nodup) (hi : X.N[i]? = some x := by rfl) (hx : Loc X.env.scope x := by first | exact Or.inl rfl | exact Or.inr rfl) (hf : X.fn x = true ∨ X.env.scope.names.lookup x = some .local := by first | exact .inl rfl | exact .inr rfl) : JG X C [i] (.Name x pos) (gIN i) :=
  (pg_name hN hi hx hf).imp fun v σ H Q ⟨m, ρ, S, x, ρ', S', rp, rx, e, k⟩ => by
    cases e
    exact k _ H m (.refl _ _) (rp.set i rx) (.set (by simp))
theorem jgs_nil : JGs X C [] [] gsIN := by
  refine ⟨pgs_nil.imp fun xs σ H Q ⟨m, ρ, S, ds, ρ', S', rp, rx, e, k⟩ => ?_, fun xs ρ S r e => ?_⟩
  · cases ds with
    | nil =>
      cases rx
      cases e
      exact ⟨rfl, k σ H m (.refl _ _) rp (.refl _ _)⟩
    | cons d r => cases e
  · cases xs with
    | nil => rfl
    | cons d r => cases e
theorem gsIC_some {xs : List IV} {ρ : IR} {S : HS} {r : IR × HS} (e : gsIC g gs xs ρ S = some r) : ∃ x xr ρ1 S1, xs = x :: xr ∧ g x ρ S = some (ρ1, S1) ∧ gs xr ρ1 S1 = some r := by
  cases xs with
  | nil => cases e
  | cons x xr =>
    simp only [gsIC] at e
    split at e
    · exact ⟨x, xr, _, _, rfl, by assumption, e⟩
    · cases e
theorem jgs_cons (h1 : JG X C vs e g) (h2 : JGs X C ws es gs) (hs : (assignEach (e :: es) X.env).map (·.2) = assign e X.env :: (assignEach es X.env).map (·.2) := by rfl) : JGs X C (vs ++ ws) (e :: es) (gsIC g gs) := by
  refine ⟨(pgs_cons h1 h2.pg hs).imp fun xs σ H Q ⟨m, ρ, S, ds, ρ', S', rp, rx, e, k⟩ => ?_, fun xs ρ S r e => ?_⟩
  · obtain ⟨x, xr, ρ1, S1, rfl, e1, e2⟩ := gsIC_some e
    cases rx with
    | cons r1 r2 =>
      exact ⟨_, _, rfl, m, ρ, S, x, ρ1, S1, rp, r1, e1, fun σ1 H1 m1 s1 i1 o1 => ⟨m1, ρ1, S1, xr, ρ', S', i1, r2.step rp.hr.noTup s1, e2, fun σ2 H2 m2 s2 i2 o2 => k σ2 H2 m2 (s1.trans s2) i2 ((o1.mono fun j hj => List.mem_append_left _ hj).trans (o2.mono fun j hj => List.mem_append_right _ hj))⟩⟩
  · obtain ⟨x, xr, ρ1, S1, rfl, e1, e2⟩ := gsIC_some e
    simp [h2.len _ _ _ _ e2]
theorem jg_tup {k : Nat} (h : JGs X C vs es gs) (hc : X.calm = true := by rfl) (hn : (assignEach es X.env).length = es.length := by rfl) (hst : (assignEach es X.env).findIdx? (·.1) = none := by rfl) : JG X C vs (.Tuple es k pos) (gIT gs) :=
  PG.imp (pg_tup hc h.pg hn hst) fun v σ H Q ⟨m, ρ, S, x, ρ', S', rp, rx, e, k⟩ => by
    unfold gIT at e
    split at e
    · rename_i ds
      obtain ⟨r1, r2⟩ := rx
      cases r1 with
      | @tup a' us _ hq ha =>
        have l := h.len _ _ _ _ e
        simp only [List.length_map] at l
        exact ⟨_, _, rfl, hq, by rw [ha.len, l], m, ρ, S, ds.map .dat, ρ', S', rp, DpAll.rep ha (by simpa [noList] using r2), e, k⟩
    · cases e
/-- x.f as a target -/
def gFld (K : PySem.W.Frag) (to : TE) (f : Str) : TG := fun v σ H Q => to σ H fun x H2 => ∃ a C dx fs, x = .ref a ∧ H2 a = some (.ins C dx fs) ∧ Cls K C ∧ NoAttr K C f ∧ fs.length < 1000 ∧ Q σ (upd H2 a (.ins C dx (putF f v fs)))
theorem pg_fld {o : Expr} {f : Str} {to : TE} (ho : PE X o to) : PG X (.Attribute o f pos) (gFld X.K to f) := by
  refine ⟨fun pins s σ H v u Q I r h => ?_⟩
  rw [arm_assign_Attribute]
  refine wpAny_bind (wpAny_holding (thn (ho.run pins s σ H _ I h) fun ov s1 ⟨x, H1, I1, r1, a, D, dx, fs, ex, ea, c, n, l, q⟩ => ?_))
  subst ex
  obtain rfl : ov = Value.ref a := r1
  exact wpAny_bind (wpAny_standAt (wpAny_bind (wpAny_holding (setattr_ok I1 ea c n l r fun s3 I3 => wpAny_release ⟨σ, _, I3, q⟩))))
@[simp] def putFld (cl f : Str) (o x : IV) (S : HS) : Option HS := match o with
  | .obj i => (match S[i]? with
    | some (.ins c fs) => if c = cl ∧ fs.length < 900 then some (S.set i (.ins c (putI f x fs))) else none
    | _ => none)
  | _ => none
/-- what is stored has no effect, the object named by a slot -/
@[simp] def gIF (cl : Str) (i : Nat) (f : Str) : IG := fun x ρ S => match ρ[i]? with
  | some (some o) => (putFld cl f o x S).map fun S' => (ρ, S')
  | _ => none
theorem putFld_ok {cl f : Str} {fs : List Str} (T : CF Ω.K Ω.mg cl fs) (hf : f ∈ fs) {H : Hp} {m : List Addr} {S S' : HS} {o x : IV} {w y : V} (hr : HRep Ω H m S) (ro : RepIV Ω.K H m o w) (rx : RepIV Ω.K H m x y) (e : putFld cl f o x S = some S') :
    ∃ a C dx gs, w = .ref a ∧ H a = some (.ins C dx gs) ∧ Cls Ω.K C ∧ NoAttr Ω.K C f ∧ gs.length < 1000 ∧ Step H m (upd H a (.ins C dx (putF f y gs))) m ∧ HRep Ω (upd H a (.ins C dx (putF f y gs))) m S' := by
  obtain ⟨D, hD, hc, hn⟩ := T.ex
  unfold putFld at e
  split at e
  · rename_i i
    split at e
    · rename_i c gs h1
      split at e
      · rename_i hcl
        obtain ⟨hcl, hz⟩ := hcl
        subst hcl
        cases e
        obtain ⟨l, h3, rfl⟩ := ro
        obtain ⟨C', dx, us, h4, h5, h6⟩ := hr.has h1 h3
        rw [hD] at h4
        cases h4
        have st : Step H m (upd H l (.ins D dx (putF f y us))) m := .upd h3
        exact ⟨l, D, dx, us, rfl, h5, hc, hn f hf, by rw [← h6.len]; omega, st, hr.set h3 ⟨D, dx, _, hD, upd_same, (h6.put rx).step hr.noTup st⟩⟩
      · cases e
    · cases e
  · cases e
theorem jg_fld {y cl f : Str} {fs : List Str} (i : Nat) (T : CF X.K X.mg cl fs) (hf : f ∈ fs := by decide) (hN : X.N[i]? = some y := by rfl) (hv : Vis X.env.scope y := by first | exact Or.inl rfl | exact Or.inr (Or.inl rfl) | exact Or.inr (Or.inr rfl)) (hd : (y == ("__debug__" : Str)) = false := by decide)
    (hcd : (y == ("__classdict__" : Str)) = false := by decide) : JG X C [] (.Attribute (.Name y p) f pos) (gIF cl i f) :=
  (pg_fld (pe_var hN hv hd hcd)).imp fun v σ H Q ⟨m, ρ, S, x, ρ', S', rp, rx, e, k⟩ => by
    unfold gIF at e
    split at e
    · rename_i o h1
      obtain ⟨S1, h2, h3⟩ := Option.map_eq_some_iff.mp e
      cases h3
      obtain ⟨w, hw, ro⟩ := rp.at_ i o h1
      obtain ⟨a, D, dx, us, rfl, h5, h6, h7, h8, h9, h10⟩ := putFld_ok (Ω := om X C) T hf rp.hr ro rx h2
      exact ⟨_, hw, a, D, dx, us, rfl, h5, h6, h7, h8, k _ _ m h9 (rp.step h9 h10) (.refl _ _)⟩
    · cases e
/-- x[i] = of a list: both named without effect -/
@[simp] def putIx (o j x : IV) (S : HS) : Option HS := match o, j with
  | .obj n, .dat (.int i) => (match S[n]? with
    | some (.lst xs) => if 0 ≤ i ∧ i.toNat < xs.length then some (S.set n (.lst (xs.set i.toNat x))) else none
    | _ => none)
  | _, _ => none
@[simp] def gIS (F F' : IE) : IG := fun x ρ S => match F ρ S with
  | some (.ok o S1) => (match F' ρ S1 with
    | some (.ok j S2) => (putIx o j x S2).map fun S' => (ρ, S')
    | _ => none)
  | _ => none
theorem jg_sub (ha : JE X C (fun _ _ _ _ => False) a F) (hb : JE X C (fun _ _ _ _ => False) b F') (hq : ∀ v, assign (.Subscript a b pos) X.env v = (do
      let ov ← holding [v] (eval a X.env)
      let iv ← holding [v, ov] (eval b X.env)
      standAt pos
      holding [v, ov, iv] (setItem ov iv v)
      release [v, ov, iv] []) := by intro _; rfl) : JG X C [] (.Subscript a b pos) (gIS F F') :=
  PG.imp (pg_sub ha hb set_list hq) fun v σ H Q ⟨m, ρ, S, x, ρ', S', rp, rx, e, k⟩ => by
    unfold gIS at e
    split at e
    · rename_i o S1 h1
      split at e
      · rename_i j S2 h2
        obtain ⟨S3, h3, h4⟩ := Option.map_eq_some_iff.mp e
        cases h4
        refine ⟨m, ρ, S, rp, _, h1, fun w H1 m1 s1 r1 ro => ⟨m1, ρ, S1, rp.step s1 r1, _, h2, fun z H2 m2 s2 r2 rj => ?_⟩⟩
        have ro' := RepIV.step r1.noTup s2 ro
        have rx' := RepIV.step rp.hr.noTup (s1.trans s2) rx
        unfold putIx at h3
        split at h3
        · rename_i n i
          split at h3
          · rename_i xs h5
            split at h3
            · rename_i hi
              cases h3
              obtain ⟨rj, _⟩ := rj
              cases rj
              obtain ⟨l, h6, rfl⟩ := ro'
              obtain ⟨us, h7, h8⟩ := r2.has h5 h6
              refine ⟨l, us, i, i.toNat, rfl, rfl, h7, ?_, ?_⟩
              · unfold ixN
                have := h8.len
                rw [if_pos hi.1, if_pos (by omega)]
              · have st : Step H2 m2 (upd H2 l (.lst (us.set i.toNat v))) m2 := .upd h6
                refine k _ _ m2 ((s1.trans s2).trans st) (rp.step ((s1.trans s2).trans st) (r2.set h6 ⟨_, upd_same, ?_⟩)) (.refl _ _)
                exact (h8.set _ rx').step r2.noTup st
            · cases h3
          · cases h3
        · cases h3
      · cases e
    · cases e
/-! ### statements -/
@[simp] def bSeq (u v : IB) : IB := fun ρ S => match u ρ S with
  | some (.nx ρ' S') => v ρ' S'
  | some (.rt x S') => some (.rt x S')
  | some (.ex ρ' S') => some (.ex ρ' S')
  | none => none
@[simp] def bNil : IB := fun ρ S => some (.nx ρ S)
@[simp] def bRet (F : IE) : IB := fun ρ S => match F ρ S with
  | some (.ok x S') => some (.rt x S')
  | some (.ex S') => some (.ex ρ S')
  | none => none
@[simp] def bExp (F : IE) : IB := fun ρ S => match F ρ S with
  | some (.ok x S') => some (.nx ρ S')
  | some (.ex S') => some (.ex ρ S')
  | none => none
@[simp] def bAsg (F : IE) (g : IG) : IB := fun ρ S => match F ρ S with
  | some (.ok x S') => (match g x ρ S' with
    | some (ρ', S2) => some (.nx ρ' S2)
    | none => none)
  | some (.ex S') => some (.ex ρ S')
  | none => none
@[simp] def bIf (T : IX Bool) (u v : IB) : IB := fun ρ S => match T ρ S with
  | some (.ok true S') => u ρ S'
  | some (.ok false S') => v ρ S'
  | some (.ex S') => some (.ex ρ S')
  | none => none
theorem jss_nil : JSs X C W [] bNil := PSs.imp pss_nil fun D σ H ⟨m, ρ, S, o, rp, e, k⟩ => by
  cases e
  exact k σ H m (.refl _ _) rp
theorem jss_cons (h1 : JS X C W st u) (h2 : JSs X C W sts v) : JSs X C W (st :: sts) (bSeq u v) := PSs.imp (pss_cons h1 h2) fun D σ H ⟨m, ρ, S, o, rp, e, k⟩ => by
  unfold bSeq at e
  split at e
  · rename_i ρ1 S1 h1
    exact ⟨m, ρ, S, _, rp, h1, fun σ1 H1 m1 s1 r1 => ⟨m1, ρ1, S1, o, r1, e, k.mono s1⟩⟩
  · rename_i h1
    cases e
    exact ⟨m, ρ, S, _, rp, h1, k⟩
  · rename_i h1
    cases e
    exact ⟨m, ρ, S, _, rp, h1, k⟩
  · cases e
theorem jss_one (h1 : JS X C W st u) : JSs X C W [st] u := pss_one h1
theorem js_ret (h : JE X C W e F) : JS X C W (.Return (some e) pos) (bRet F) := PS.imp (ps_ret h) fun D σ H ⟨m, ρ, S, o, rp, e, k⟩ => by
  unfold bRet at e
  split at e
  · rename_i h1
    cases e
    exact ⟨m, ρ, S, rp, _, h1, k⟩
  · rename_i h1
    cases e
    exact ⟨m, ρ, S, rp, _, h1, fun H' m' s r => k σ H' m' s (rp.step s r)⟩
  · cases e
theorem js_exp (h : JE X C W e F) (hs : swapsWith e none pos.line X.env = pure false := by rfl) : JS X C W (.Expr e pos) (bExp F) := PS.imp (ps_expr h hs) fun D σ H ⟨m, ρ, S, o, rp, e, k⟩ => by
  unfold bExp at e
  split at e
  · rename_i h1
    cases e
    exact ⟨m, ρ, S, rp, _, h1, fun v H' m' s r _ => k σ H' m' s (rp.step s r)⟩
  · rename_i h1
    cases e
    exact ⟨m, ρ, S, rp, _, h1, fun H' m' s r => k σ H' m' s (rp.step s r)⟩
  · cases e
theorem js_asg (he : JE X C W e F) (hg : JG X C vs tg g) (hs : swapsWithSole [tg] e pos.line X.env = pure false := by rfl) (hw : swappedStores [tg] e X.env = pure none := by rfl)
    (h1 : (assignEach [tg] X.env).map (·.2) = [assign tg X.env] := by rfl) : JS X C W (.Assign [tg] e pos) (bAsg F g) := PS.imp (ps_asg he hg hs hw h1) fun D σ H ⟨m, ρ, S, o, rp, e, k⟩ => by
  unfold bAsg at e
  split at e
  · rename_i x S1 h1
    split at e
    · rename_i ρ' S2 h2
      cases e
      exact ⟨m, ρ, S, rp, _, h1, fun v H1 m1 s1 r1 rx => ⟨m1, ρ, S1, x, ρ', S2, rp.step s1 r1, rx, h2, fun σ2 H2 m2 s2 r2 _ => k σ2 H2 m2 (s1.trans s2) r2⟩⟩
    · cases e
  · rename_i h1
    cases e
    exact ⟨m, ρ, S, rp, _, h1, fun H' m' s r => k σ H' m' s (rp.step s r)⟩
  · cases e
theorem js_set (i : Nat) {pos' : Pos} (hN : X.N.Nodup) (he : JE X C W e F) (hi : X.N[i]? = some x := by rfl) (hx : Loc X.env.scope x := by first | exact Or.inl rfl | exact Or.inr rfl) (hs : swapsWith e (some (.Name x pos')) pos.line X.env = pure false := by rfl)
    (hf : X.fn x = true ∨ X.env.scope.names.lookup x = some .local := by first | exact .inl rfl | exact .inr rfl) : JS X C W (.Assign [.Name x pos'] e pos) (bAsg F (gIN i)) := PS.imp (ps_set hN hi hx he hs hf) fun D σ H ⟨m, ρ, S, o, rp, e, k⟩ => by
  unfold bAsg at e
  split at e
  · rename_i x S1 h1
    cases e
    exact ⟨m, ρ, S, rp, _, h1, fun v H1 m1 s1 r1 rx => k _ H1 m1 s1 ((rp.step s1 r1).set i rx)⟩
  · rename_i h1
    cases e
    exact ⟨m, ρ, S, rp, _, h1, fun H' m' s r => k σ H' m' s (rp.step s r)⟩
  · cases e
theorem js_fld {cl f : Str} {o : Expr} {fs : List Str} {pos' : Pos} {Fo : IE} (T : CF X.K X.mg cl fs) (ho : JE X C W o Fo) (he : JE X C W e F) (hf : f ∈ fs := by decide) (hs : swapsWith e (some (.Attribute o f pos')) pos.line X.env = pure false := by rfl) :
    JS X C W (.Assign [.Attribute o f pos'] e pos) (fun ρ S => match F ρ S with
      | some (.ok x S1) => (match Fo ρ S1 with
        | some (.ok y S2) => (putFld cl f y x S2).map (.nx ρ)
        | some (.ex S2) => some (.ex ρ S2)
        | none => none)
      | some (.ex S1) => some (.ex ρ S1)
      | none => none) := PS.imp (ps_fld ho he hs) fun D σ H ⟨m, ρ, S, q, rp, e, k⟩ => by
  simp only at e
  split at e
  · rename_i x S1 h1
    refine ⟨m, ρ, S, rp, _, h1, fun v H1 m1 s1 r1 rx => ?_⟩
    split at e
    · rename_i y S2 h2
      refine ⟨m1, ρ, S1, rp.step s1 r1, _, h2, fun w H2 m2 s2 r2 ry => ?_⟩
      obtain ⟨S3, h3, h4⟩ := Option.map_eq_some_iff.mp e
      cases h4
      obtain ⟨a, D, dx, us, rfl, h5, h6, h7, h8, h9, h10⟩ := putFld_ok (Ω := om X C) T hf r2 ry (RepIV.step r1.noTup s2 rx) h3
      exact ⟨a, D, dx, us, rfl, h5, h6, h7, h8, k σ _ m2 ((s1.trans s2).trans h9) (rp.step ((s1.trans s2).trans h9) h10)⟩
    · rename_i S2 h2
      cases e
      exact ⟨m1, ρ, S1, rp.step s1 r1, _, h2, fun H' m' s r => k σ H' m' (s1.trans s) (rp.step (s1.trans s) r)⟩
    · cases e
  · rename_i h1
    cases e
    exact ⟨m, ρ, S, rp, _, h1, fun H' m' s r => k σ H' m' s (rp.step s r)⟩
  · cases e
theorem js_if (hc : JT X C W c T) (ha : JSs X C W body u) (hb : JSs X C W orelse v) : JS X C W (.If c body orelse pos) (bIf T u v) := PS.imp (ps_if hc ha hb) fun D σ H ⟨m, ρ, S, o, rp, e, k⟩ => by
  unfold bIf at e
  split at e
  · rename_i S1 h1
    exact ⟨m, ρ, S, rp, _, h1, fun b H1 m1 s1 r1 q => by cases q; exact iteT ⟨m1, ρ, S1, o, rp.step s1 r1, e, k.mono s1⟩⟩
  · rename_i S1 h1
    exact ⟨m, ρ, S, rp, _, h1, fun b H1 m1 s1 r1 q => by cases q; exact iteF ⟨m1, ρ, S1, o, rp.step s1 r1, e, k.mono s1⟩⟩
  · rename_i h1
    cases e
    exact ⟨m, ρ, S, rp, _, h1, fun H' m' s r => k σ H' m' s (rp.step s r)⟩
  · cases e
/-- a statement that is never come to -/
@[simp] def bNever : IB := fun _ _ => none
theorem js_never : JS X C W st bNever := PS.imp ps_never fun D σ H ⟨_, _, _, _, _, q, _⟩ => nomatch q
theorem jss_never : JSs X C W sts bNever := PSs.imp pss_never fun D σ H ⟨_, _, _, _, _, q, _⟩ => nomatch q
end
end KW
/-! EF: loops, stores, calls over objects -/
namespace KW
open PySem PySem.Spec L2
section
variable {X : Cx} {C : Addr} {W : WX} {a b c e tg : Expr} {es rest : List Expr} {F F' : IE} {T U : IX Bool} {A : IX (List IV)} {pos p p2 : Pos} {f : DE} {Ω : Wd} {x : Str} {vs ws : List Nat} {g : IG} {gs : IGs} {st : Stmt} {sts body orelse : List Stmt} {u v : IB}
/-! ### x op= e -/
@[simp] def bAug (i : Nat) (Fo : PyData → PyData → Option PyData) (F : IE) : IB := fun ρ S => match ρ[i]? with
  | some (some (.dat d)) => (match F ρ S with
    | some (.ok (.dat d') S1) => (match Fo d d' with
      | some z => if noList z = true then some (.nx (ρ.set i (some (.dat z))) S1) else none
      | none => none)
    | _ => none)
  | _ => none
theorem js_aug (i : Nat) {op : Operator} {rr : R2} {Fo : PyData → PyData → Option PyData} {pos' : Pos} (ho : OpR X (inplaceOp op) rr) (hr : ROk X.K rr Fo) (hN : X.N.Nodup) (he : JE X C W e F) (hi : X.N[i]? = some x := by rfl) (hx : Loc X.env.scope x := by first | exact Or.inl rfl | exact Or.inr rfl)
    (hf : X.fn x = true ∨ X.env.scope.names.lookup x = some .local := by first | exact .inl rfl | exact .inr rfl) : JS X C W (.AugAssign (.Name x pos') op e pos) (bAug i Fo F) :=
  PS.imp (ps_aug (ti := rr) hN hi hx he ho hf) fun D σ H ⟨m, ρ, S, o, rp, e, k⟩ => by
    unfold bAug at e
    split at e
    · rename_i d h1
      split at e
      · rename_i d' S1 h2
        split at e
        · rename_i z h3
          split at e
          · rename_i hn
            cases e
            obtain ⟨w, hw, rw_⟩ := rp.at_ i _ h1
            refine ⟨w, hw, m, ρ, S, rp, _, h2, fun y H1 m1 s1 r1 ry => ?_⟩
            have rw2 := RepIV.step rp.hr.noTup s1 rw_
            refine hr w y H1 _ d d' z rw2.1 ry.1 h3 fun q H2 s2 dq => ?_
            exact k _ H2 m1 (s1.trans (.same s2)) ((rp.step (s1.trans (.same s2)) (r1.same s2)).set i ⟨dq, hn⟩)
          · cases e
        · cases e
      · cases e
    · cases e
/-- o.f op= e of whole numbers, o in slot i -/
@[simp] def bFldAug (cl : Str) (i : Nat) (f : Str) (op : Int → Int → Int) (F : IE) : IB := fun ρ S => match ρ[i]? with
  | some (some o) => (match fldGo cl f o ρ S with
    | some (.ok (.dat (.int a)) _) => (match F ρ S with
      | some (.ok (.dat (.int b)) S1) => (putFld cl f o (.dat (.int (op a b))) S1).map (.nx ρ)
      | _ => none)
    | _ => none)
  | _ => none
theorem js_fldaug {cl f y : Str} {fs : List Str} {op : Operator} {fn : Int → Int → Int} {tpos : Pos} (i : Nat) (ho : InOp X op fun x y H Q => ∃ i j, x = .int i ∧ y = .int j ∧ Q (.int (fn i j)) H) (T : CF X.K X.mg cl fs) (he : JE X C W e F) (hf : f ∈ fs := by decide)
    (hN : X.N[i]? = some y := by rfl) (hv : Vis X.env.scope y := by first | exact Or.inl rfl | exact Or.inr (Or.inl rfl) | exact Or.inr (Or.inr rfl)) (hd : (y == ("__debug__" : Str)) = false := by decide)
    (hcd : (y == ("__classdict__" : Str)) = false := by decide) : JS X C W (.AugAssign (.Attribute (.Name y p) f tpos) op e pos) (bFldAug cl i f fn F) :=
  PS.imp (ps_fldaug (pe_var hN hv hd hcd) he ho) fun D σ H ⟨m, ρ, S, o, rp, e, k⟩ => by
    unfold bFldAug at e
    split at e
    · rename_i ob h1
      split at e
      · rename_i a S' h2
        split at e
        · rename_i b S1 h3
          obtain ⟨S2, h4, h5⟩ := Option.map_eq_some_iff.mp e
          cases h5
          obtain ⟨w, hw, ro⟩ := rp.at_ i _ h1
          unfold fldGo at h2
          split at h2
          · rename_i n
            split at h2
            · rename_i c gs h6
              split at h2
              · rename_i hcl
                subst hcl
                split at h2
                · rename_i z h7
                  cases h2
                  obtain ⟨D', hD, hc, hn⟩ := T.ex
                  obtain ⟨l, h8, rfl⟩ := ro
                  obtain ⟨C', dx, us, h9, h10, h11⟩ := rp.hr.has h6 h8
                  have e1 : X.mg c = some (.ref C') := h9
                  rw [hD] at e1
                  cases e1
                  obtain ⟨q, h12, h13⟩ := h11.lookup h7
                  refine ⟨_, hw, l, D', dx, us, q, rfl, h10, hc, hn f hf, h12, m, ρ, S, rp, _, h3, fun y H1 m1 s1 r1 ry => ?_⟩
                  obtain ⟨d1, _⟩ := h13
                  cases d1
                  obtain ⟨d2, _⟩ := ry
                  cases d2
                  refine ⟨a, b, rfl, rfl, ?_⟩
                  obtain ⟨l', D'', dx', us', e2, h14, h15, h16, h17, h18, h19⟩ := putFld_ok (Ω := om X C) (w := .ref l) (y := .int (fn a b)) T hf r1 (show RepIV X.K H1 m1 (.obj n) (.ref l) from ⟨l, s1.get h8, rfl⟩) (show RepIV X.K H1 m1 (.dat (.int (fn a b))) (.int (fn a b)) from ⟨.int _, rfl⟩) h4
                  cases e2
                  have hDD : D'' = D' := by
                    have := r1.noTup l (List.mem_of_getElem? (s1.get h8))
                    unfold putFld at h4
                    simp only at h4
                    split at h4
                    · rename_i c2 gs2 h20
                      split at h4
                      · rename_i hc2
                        obtain ⟨C3, dx3, us3, h21, h22, _⟩ := r1.has h20 (s1.get h8)
                        have e3 : X.mg c2 = some (.ref C3) := h21
                        rw [hc2.1, hD] at e3
                        cases e3
                        rw [h14] at h22
                        cases h22
                        rfl
                      · cases h4
                    · cases h4
                  subst hDD
                  exact ⟨dx', us', h14, h17, k σ _ m1 (s1.trans h18) (rp.step (s1.trans h18) h19)⟩
                · cases h2
              · cases h2
            · cases h2
          · cases h2
        · cases e
      · cases e
    · cases e
/-! ### while, with fuel -/
def bWhile : Nat → IX Bool → IB → IB
  | 0, _, _ => fun _ _ => none
  | n + 1, T, u => fun ρ S => match T ρ S with
    | some (.ok true S1) => (match u ρ S1 with
      | some (.nx ρ' S2) => bWhile n T u ρ' S2
      | some (.rt x S2) => some (.rt x S2)
      | some (.ex ρ' S2) => some (.ex ρ' S2)
      | none => none)
    | some (.ok false S1) => some (.nx ρ S1)
    | some (.ex S1) => some (.ex ρ S1)
    | none => none
theorem js_while (n : Nat) (hp : PassesOwn (model X.prog X.w) X.A X.env X.xe) (hc : JT X C W c T) (hb : JSs X C W body u) : JS X C W (.While c body [] pos) (bWhile n T u) :=
  PS.imp (ps_while hp hc hb) fun D σ H ⟨m, ρ, S, o, rp, e, k⟩ => by
    refine ⟨fun n' σ' H' => ∃ m' ρ' S', IRep (om X C) H' m' S' σ' ρ' ∧ bWhile n' T u ρ' S' = some o ∧ Step H m H' m', ⟨n, m, ρ, S, rp, e, .refl _ _⟩, ?_⟩
    rintro n' σ1 H1 ⟨m1, ρ1, S1, r1, e1, s1⟩
    cases n' with
    | zero => cases e1
    | succ n' =>
      unfold bWhile at e1
      split at e1
      · rename_i S2 h1
        refine ⟨m1, ρ1, S1, r1, _, h1, fun b H2 m2 s2 r2 q => ?_⟩
        cases q
        refine iteT ⟨fun σ' H' => ∃ m' ρ' S', IRep (om X C) H' m' S' σ' ρ' ∧ bWhile n' T u ρ' S' = some o ∧ Step H m H' m', fun σ' H' h => ⟨n', Nat.lt_succ_self _, h⟩, ?_⟩
        split at e1
        · rename_i h2
          exact ⟨m2, ρ1, S2, _, r1.step s2 r2, h2, fun σ3 H3 m3 s3 r3 => ⟨m3, _, _, r3, e1, (s1.trans s2).trans s3⟩⟩
        · rename_i h2
          cases e1
          exact ⟨m2, ρ1, S2, _, r1.step s2 r2, h2, fun v H3 m3 s3 r3 d3 => k v H3 m3 ((s1.trans s2).trans s3) r3 d3⟩
        · rename_i h2
          cases e1
          exact ⟨m2, ρ1, S2, _, r1.step s2 r2, h2, fun σ3 H3 m3 s3 r3 => k σ3 H3 m3 ((s1.trans s2).trans s3) r3⟩
        · cases e1
      · rename_i S2 h1
        cases e1
        exact ⟨m1, ρ1, S1, r1, _, h1, fun b H2 m2 s2 r2 q => by cases q; exact iteF (k σ1 H2 m2 (s1.trans s2) (r1.step s2 r2))⟩
      · rename_i S2 h1
        cases e1
        exact ⟨m1, ρ1, S1, r1, _, h1, fun H2 m2 s2 r2 => k σ1 H2 m2 (s1.trans s2) (r1.step s2 r2)⟩
      · cases e1
/-! ### what is walked -/
structure JI (X : Cx) (C : Addr) (W : WX) (tg iter : Expr) (F : IX (List IV)) : Prop where
  ex : ∃ wi : TI, PI X tg iter wi ∧ ∀ (m : List Addr) (ρ : IR) (S : HS) (σ : L2.St) (H : Hp) (R : It → Hp → Prop) (r : Io (List IV)), IRep (om X C) H m S σ ρ → F ρ S = some r →
    (match r with
      | .ok xs S1 => ∀ (J : It) (H1 : Hp) (m1 : List Addr), Step H m H1 m1 → HRep (om X C) H1 m1 S1 → (∃ (G : Hp → Prop) (Y : Nat → Hp → V → Hp → Prop), Walk J xs.length G Y ∧ (∀ H' m', Step H1 m1 H' m' → G H') ∧
        ∀ i H' m' x H'' z, xs[i]? = some z → Step H1 m1 H' m' → Y i H' x H'' → Same H' H'' ∧ RepIV X.K H'' m' z x) → R J H1
      | .ex S1 => ∀ H1 m1, Step H m H1 m1 → HRep (om X C) H1 m1 S1 → W (.ref C) none σ H1) → wi σ H R
@[simp] def tupsOf : IV → Option (List PyData)
  | .dat (.tuple ds) => some ds
  | _ => none
@[simp] def iTupI (F : IE) : IX (List IV) := iBind F fun x => fun _ S => match tupsOf x with
  | some ds => some (.ok (ds.map .dat) S)
  | none => none
theorem tupsOf_some {x : IV} {ds : List PyData} (h : tupsOf x = some ds) : x = .dat (.tuple ds) := by
  cases x with
  | dat d => cases d <;> cases h; rfl
  | obj i => cases h
  | val v => cases h
theorem walk_tupI {K : PySem.W.Frag} {H1 : Hp} {m1 : List Addr} {a : Addr} {xs : List V} {ds : List PyData} (hq : SqT K H1 a xs) (ha : DpAll K H1 xs ds) (n : NoTup H1 m1) (hn : noLists ds = true) : ∃ (G : Hp → Prop) (Y : Nat → Hp → V → Hp → Prop), Walk (Itt K a) (ds.map IV.dat).length G Y ∧ (∀ H' m', Step H1 m1 H' m' → G H') ∧
    ∀ i H' m' x H'' z, (ds.map IV.dat)[i]? = some z → Step H1 m1 H' m' → Y i H' x H'' → Same H' H'' ∧ RepIV K H'' m' z x := by
  refine ⟨fun H => SqT K H a xs, YAt xs, ?_, fun H' m' s => SqT.step n s hq, ?_⟩
  · have w := walk_tup (K := K) (a := a) (xs := xs)
    rw [ha.len] at w
    rw [List.length_map]
    exact w
  · rintro i H' m' x H'' z hz s ⟨rfl, hx⟩
    rw [List.getElem?_map] at hz
    obtain ⟨d, h1, rfl⟩ := Option.map_eq_some_iff.mp hz
    obtain ⟨d', hd', dd⟩ := ha.getV hx
    rw [h1] at hd'; cases hd'
    exact ⟨Same.refl _, Dp.step n s d x (noLists_get hn h1) dd, noLists_get hn h1⟩
theorem jii_tup (h : JE X C W e F) : JI X C W tg e (iTupI F) := by
  refine ⟨_, pi_tup h, fun m ρ S σ H R r rp q k => ?_⟩
  simp only [iTupI, iBind] at q
  split at q
  · rename_i x S1 h1
    split at q
    · rename_i ds h2
      cases q
      refine ⟨m, ρ, S, rp, _, h1, fun v H1 m1 s1 r1 rx => ?_⟩
      rw [tupsOf_some h2] at rx
      obtain ⟨d1, n1⟩ := rx
      cases d1 with
      | @tup a xs _ hq ha =>
        exact ⟨a, rfl, ⟨xs, hq⟩, k _ H1 m1 s1 r1 (walk_tupI hq ha r1.noTup (by simpa [noList] using n1))⟩
    · cases q
  · rename_i h1
    cases q
    exact ⟨m, ρ, S, rp, _, h1, k⟩
  · cases q
/-- range(n) -/
@[simp] def rangeI (lo : Int) (n : Nat) : List IV := (List.range n).map fun (i : Nat) => IV.dat (.int (lo + i))
@[simp] def iRngI (F : IE) : IX (List IV) := iBind F fun x => fun _ S => match x with
  | .dat (.int n) => if -(2 ^ 62) ≤ n ∧ n < 2 ^ 62 then some (.ok (rangeI 0 n.toNat) S) else none
  | _ => none
theorem walk_rangeI {K : PySem.W.Frag} {H1 : Hp} {m1 : List Addr} {lo : Int} {n : Nat} : ∃ (G : Hp → Prop) (Y : Nat → Hp → V → Hp → Prop), Walk (Itr lo n) (rangeI lo n).length G Y ∧ (∀ H' m', Step H1 m1 H' m' → G H') ∧
    ∀ i H' m' x H'' z, (rangeI lo n)[i]? = some z → Step H1 m1 H' m' → Y i H' x H'' → Same H' H'' ∧ RepIV K H'' m' z x := by
  refine ⟨fun _ => True, YFn fun i => .int (lo + i), ?_, fun _ _ _ => trivial, ?_⟩
  · have w := walk_range (lo := lo) (n := n)
    have : (rangeI lo n).length = n := by simp
    rw [this]
    exact w
  · rintro i H' m' x H'' z hz s ⟨rfl, rfl⟩
    simp only [rangeI, List.getElem?_map] at hz
    obtain ⟨j, h1, rfl⟩ := Option.map_eq_some_iff.mp hz
    obtain ⟨hl, h2⟩ := List.getElem?_eq_some_iff.mp h1
    rw [List.getElem_range] at h2
    subst h2
    exact ⟨Same.refl _, .int _, rfl⟩
theorem jii_range1 (B : Blt X.mg) (h : JE X C W a F) (hg : Gl X "range" := by rfl) (hs : starEach [a] X.env = [(false, eval a X.env)] := by rfl) (hs2 : starEach [a] X.env = (false, eval a X.env) :: starEach [] X.env := by rfl) : JI X C W tg (.Call (.Name "range" p) [a] [] pos) (iRngI F) := by
  refine ⟨_, pi_range1 hg B.range (pa_cons h pa_nil hs2) hs, fun m ρ S σ H R r rp q k => ?_⟩
  simp only [iRngI, iBind] at q
  split at q
  · rename_i x S1 h1
    split at q
    · rename_i n
      split at q
      · rename_i hn
        cases q
        refine ⟨m, ρ, S, rp, _, h1, fun v H1 m1 s1 r1 rx => ?_⟩
        obtain ⟨d1, n1⟩ := rx
        cases d1
        exact ⟨n, rfl, hn.1, hn.2, k _ H1 m1 s1 r1 walk_rangeI⟩
      · cases q
    · cases q
  · rename_i h1
    cases q
    exact ⟨m, ρ, S, rp, _, h1, k⟩
  · cases q
/-! ### for -/
@[simp] def bForL (g : IG) (u : IB) : List IV → IB
  | [] => fun ρ S => some (.nx ρ S)
  | x :: xs => fun ρ S => match g x ρ S with
    | some (ρ1, S1) => (match u ρ1 S1 with
      | some (.nx ρ2 S2) => bForL g u xs ρ2 S2
      | some (.rt z S2) => some (.rt z S2)
      | some (.ex ρ2 S2) => some (.ex ρ2 S2)
      | none => none)
    | none => none
@[simp] def bFor (A : IX (List IV)) (g : IG) (u : IB) : IB := fun ρ S => match A ρ S with
  | some (.ok xs S1) => bForL g u xs ρ S1
  | some (.ex S1) => some (.ex ρ S1)
  | none => none
theorem js_for (hp : PassesOwn (model X.prog X.w) X.A X.env X.xe) (hi : JI X C W tg e A) (hg : JG X C vs tg g) (hb : JSs X C W body u) (hc : X.calm = true := by rfl) (hs : ∀ x, foldedSetIterable e X.env x = pure x := by intro _; rfl) : JS X C W (.For tg e body [] pos) (bFor A g u) := by
  obtain ⟨wi, hw, hk⟩ := hi.ex
  refine PS.imp (ps_for hp hc hw hg hb hs) fun D σ H ⟨m, ρ, S, o, rp, e, k⟩ => ?_
  unfold bFor at e
  split at e
  · rename_i xs S1 h1
    refine hk m ρ S σ H _ _ rp h1 fun J H1 m1 s1 r1 ⟨G, Y, w, hG, hY⟩ => ?_
    refine for_it w (fun i σ' H' => ∃ m' ρ' S', IRep (om X C) H' m' S' σ' ρ' ∧ bForL g u (xs.drop i) ρ' S' = some o ∧ Step H1 m1 H' m') ⟨m1, ρ, S1, rp.step s1 r1, e, .refl _ _⟩ (fun i σ' H' _ ⟨m', _, _, _, _, s'⟩ => hG H' m' s') ?_ ?_
    · rintro i x σ' H' H'' hi ⟨m', ρ', S', r', e', s'⟩ y
      have hx : xs[i]? = some xs[i] := List.getElem?_eq_getElem hi
      obtain ⟨s2, rx⟩ := hY i H' m' x H'' xs[i] hx s' y
      rw [List.drop_eq_getElem_cons hi] at e'
      unfold bForL at e'
      split at e'
      · rename_i ρ1 S2 h2
        have st : Step H' m' H'' m' := .same s2
        refine ⟨m', ρ', S', xs[i], ρ1, S2, r'.step st (r'.hr.same s2), rx, h2, fun σ2 H2 m2 s3 r2 _ => ?_⟩
        split at e'
        · rename_i ρ2 S3 h3
          exact ⟨m2, ρ1, S2, _, r2, h3, fun σ3 H3 m3 s4 r3 => ⟨m3, ρ2, S3, r3, e', ((s'.trans st).trans s3).trans s4⟩⟩
        · rename_i h3
          cases e'
          exact ⟨m2, ρ1, S2, _, r2, h3, fun v H3 m3 s4 r3 d3 => k v H3 m3 ((((s1.trans s').trans st).trans s3).trans s4) r3 d3⟩
        · rename_i h3
          cases e'
          exact ⟨m2, ρ1, S2, _, r2, h3, fun σ3 H3 m3 s4 r3 => k σ3 H3 m3 ((((s1.trans s').trans st).trans s3).trans s4) r3⟩
        · cases e'
      · cases e'
    · rintro σ' H' ⟨m', ρ', S', r', e', s'⟩
      rw [List.drop_length] at e'
      cases e'
      exact k σ' H' m' (s1.trans s') r'
  · rename_i h1
    cases e
    exact hk m ρ S σ H _ _ rp h1 fun H1 m1 s1 r1 => k σ H1 m1 s1 (rp.step s1 r1)
  · cases e
end
end KW
/-! EH: calls, methods, instances, a list's methods -/
namespace KW
open PySem PySem.Spec L2
/-- a def's promise over objects -/
def spI (Ω : Wd) (n : Nat) (F : List IV → HS → Option (Io IV)) : Sp := fun vs H Q E => ∃ m S xs r, xs.length = n ∧ HRep Ω H m S ∧ RepAll Ω.K H m xs vs ∧ F xs S = some r ∧
  match r with
  | .ok x S' => ∀ v H' m', Step H m H' m' → HRep Ω H' m' S' → RepIV Ω.K H' m' x v → Q v H'
  | .ex S' => ∀ H' m', Step H m H' m' → HRep Ω H' m' S' → E (.ref Ω.XC) none H'
structure FnI (P : Program) (w : World) (K : PySem.W.Frag) (mg : Str → Option Value) (base : Heap) (XC : Addr) (k n : Nat) (F : List IV → HS → Option (Io IV)) (f : Addr) (fd : FuncData) (ps : List Str) : Prop where
  fn : FnOk P w K mg base (L2.CX P w) k f fd ps (spI ⟨P, w, K, mg, XC⟩ n F)
  len : ps.length = n
structure DefI (P : Program) (w : World) (K : PySem.W.Frag) (mg : Str → Option Value) (base : Heap) (XC : Addr) (x : Str) (n k : Nat) (F : List IV → HS → Option (Io IV)) : Prop where
  ex : ∃ (f : Addr) (fd : FuncData) (ps : List Str), FnI P w K mg base XC k n F f fd ps ∧ mg x = some (.ref f) ∧ PySem.W.keepIn K (.ref f) = true ∧ Binds K fd ps []
structure MethI (P : Program) (w : World) (K : PySem.W.Frag) (mg : Str → Option Value) (base : Heap) (XC : Addr) (cl x : Str) (n k : Nat) (F : List IV → HS → Option (Io IV)) : Prop where
  ex : ∃ (D f : Addr) (fd : FuncData) (ps : List Str), mg cl = some (.ref D) ∧ Cls K D ∧ Meth K D x f ∧ FnI P w K mg base XC k (n + 1) F f fd ps ∧ Binds K fd ps []
structure InitI (P : Program) (w : World) (K : PySem.W.Frag) (mg : Str → Option Value) (base : Heap) (XC : Addr) (cl : Str) (n k : Nat) (F : List IV → HS → Option (Io IV)) : Prop where
  ex : ∃ (D f : Addr) (fd : FuncData) (ps : List Str), mg cl = some (.ref D) ∧ Mk K D f ∧ FnI P w K mg base XC k (n + 1) F f fd ps ∧ Binds K fd ps []
section
variable {X : Cx} {C : Addr} {W : WX} {a b c e o tg : Expr} {es rest : List Expr} {F F' Fo : IE} {T U : IX Bool} {A : IX (List IV)} {pos apos p p2 : Pos} {f : DE} {Ω : Wd} {x : Str} {k k' n : Nat} {Fn : List IV → HS → Option (Io IV)}
/-! ### calls of defs over data -/
@[simp] def iCallD (Fd : List PyData → Option PyData) (A : IX (List IV)) : IE := iBind A fun xs => fun _ S => match datsOf xs with
  | some ds => (match Fd ds with
    | some z => iRet z S
    | none => none)
  | none => none
theorem ji_callD {Fd : List PyData → Option PyData} (D : DefD X.prog X.w X.K X.mg X.base x n k Fd) (hr : Room k' X.A) (hk : k ≤ k' := by decide) (ha : JA X C W (e :: es) A) (hn : n = (e :: es).length := by rfl) (hg : Gl X x := by rfl) (hdb : (x == ("__debug__" : Str)) = false := by decide)
    (he : starEach (e :: es) X.env = (false, eval e X.env) :: starEach es X.env := by rfl) (hpl : (backTo pos (starEach es X.env)).any (·.1) = false := by rfl) : JE X C W (.Call (.Name x p) (e :: es) [] pos) (iCallD Fd A) := by
  obtain ⟨f, fd, ps, hps, F1, hm, kp, hb⟩ := D.ex
  refine PE.imp (pe_call F1 (hr.mono hk) hg hm kp hb .nil pass0 ha.pa hdb he hpl) fun σ H Q ⟨m, ρ, S, rp, r, q, k⟩ => ?_
  have hl : ∀ xs S', A ρ S = some (.ok xs S') → xs.length = (e :: es).length := fun xs S' q => ha.len _ _ _ _ q
  refine ⟨m, ρ, S, rp, ?_⟩
  simp only [iCallD, iBind] at q
  split at q
  · rename_i xs S1 h1
    refine ⟨_, h1, fun vs H1 m1 s1 r1 ra => ?_⟩
    split at q
    · rename_i ds h2
      split at q
      · rename_i z h3
        obtain ⟨nn, rfl⟩ := iRet_some q
        obtain ⟨d1, d2, d3⟩ := ra.dats h2
        exact ⟨ds, z, by rw [d3, hl _ _ h1, hn], by rw [List.append_nil]; exact d1, h3, fun v H' s dv => k v H' m1 (s1.trans (.same s)) (r1.same s) ⟨dv, nn⟩⟩
      · cases q
    · cases q
  · rename_i h1
    cases q
    exact ⟨_, h1, k⟩
  · cases q
/-! ### calls of defs over objects -/
@[simp] def iCall (Fn : List IV → HS → Option (Io IV)) (A : IX (List IV)) : IE := iBind A fun xs => fun _ S => Fn xs S
theorem sp_call {H1 : Hp} {m1 : List Addr} {S1 : HS} {xs : List IV} {vs : List V} {r : Io IV} {Q : VK} {σ : St} (hn : xs.length = n) (r1 : HRep Ω H1 m1 S1) (ra : RepAll Ω.K H1 m1 xs vs) (q : Fn xs S1 = some r) (k : EOk Ω W H1 m1 σ (RV Ω) Q r) : spI Ω n Fn vs H1 Q (WE W σ) := by
  refine ⟨m1, S1, xs, r, hn, r1, ra, q, ?_⟩
  cases r with
  | ok x S2 => exact k
  | ex S2 => exact k
theorem ji_call (D : DefI X.prog X.w X.K X.mg X.base C x n k Fn) (tk : Takes X W) (hr : Room k' X.A) (hk : k ≤ k' := by decide) (ha : JA X C W (e :: es) A) (hn : n = (e :: es).length := by rfl) (hg : Gl X x := by rfl) (hdb : (x == ("__debug__" : Str)) = false := by decide)
    (he : starEach (e :: es) X.env = (false, eval e X.env) :: starEach es X.env := by rfl) (hpl : (backTo pos (starEach es X.env)).any (·.1) = false := by rfl) : JE X C W (.Call (.Name x p) (e :: es) [] pos) (iCall Fn A) := by
  obtain ⟨f, fd, ps, F1, hm, kp, hb⟩ := D.ex
  refine PE.imp (pe_callS F1.fn (hr.mono hk) hg hm kp hb (fun σ => passAt tk σ) ha.pa hdb he hpl) fun σ H Q ⟨m, ρ, S, rp, r, q, k⟩ => ?_
  have hl : ∀ xs S', A ρ S = some (.ok xs S') → xs.length = (e :: es).length := fun xs S' q => ha.len _ _ _ _ q
  refine ⟨m, ρ, S, rp, ?_⟩
  simp only [iCall, iBind] at q
  split at q
  · rename_i xs S1 h1
    exact ⟨_, h1, fun vs H1 m1 s1 r1 ra => sp_call (Ω := om X C) (by rw [hl _ _ h1, hn]) r1 ra q (k.mono s1)⟩
  · rename_i h1
    cases q
    exact ⟨_, h1, k⟩
  · cases q
/-! ### methods -/
def tMethE (C : Addr) (m : Str) (sp : Sp) (E : St → XK) (ta : TE) (t : TA) : TE := fun σ H Q => ta σ H fun x H1 => ∃ a dx fs, x = .ref a ∧ H1 a = some (.ins C dx fs) ∧ fs.lookup m = none ∧
  t σ H1 fun vs H2 => sp (x :: vs) H2 Q (E σ)
theorem pe_methE {CX : CXT} {D g : Addr} {fd : FuncData} {ps : List Str} {sp : Sp} {E : St → XK} {m : Str} {pl : Sem Bool} {ta : TE} {t : TA} (he : PE X o ta) (c : Cls X.K D) (hm : Meth X.K D m g) (F : FnOk X.prog X.w X.K X.mg X.base CX k g fd ps sp) (hr : Room k X.A) (hb : Binds X.K fd ps []) (hx : ∀ σ, PassesAt CX X σ (E σ)) (ha : PA X (e :: es) t)
    (hst : starEach (e :: es) X.env = (false, eval e X.env) :: starEach es X.env := by rfl) (hpl : (backTo pos (starEach es X.env)).any (·.1) = false := by rfl)
    (ht : eval (.Call (.Attribute o m apos) (e :: es) [] pos) X.env = (do
      let ov ← eval o X.env
      standAt apos.atName
      let (f, first) ← holding [ov] (getMethod ov m pl)
      callWith pos f first (backTo pos (starEach (e :: es) X.env)) (backToKw pos (keywordEach [] X.env))) := by rfl) :
    PE X (.Call (.Attribute o m apos) (e :: es) [] pos) (tMethE D m sp E ta t) := by
  refine ⟨fun pins s σ H Q I h => ?_⟩
  refine PySem.W.methodCall_KW (pl := pl) (thn (he.run pins s σ H _ I h) fun u s1 ⟨x, H1, I1, rx, a, dx, fs, ex, ea, l, q⟩ => ?_) ht
  subst ex
  obtain rfl : u = Value.ref a := rx
  refine getmeth_ok I1 ea c hm l ?_
  refine PySem.W.callWith_K (first := [.ref a]) (h₀ := X.base) I.ok.mod.kin hm.kp (thn (ha.run pos pins s1 σ H1 _ I1 q) fun us s2 ⟨vs, H2, I2, r, q2⟩ => ⟨I2.kIn, ?_⟩) hst hpl
  exact run_fnS (us := .ref a :: us) (vs := .ref a :: vs) F hr hb (hx σ) I2 (.cons rfl r) q2
theorem pe_methE0 {CX : CXT} {D g : Addr} {fd : FuncData} {ps : List Str} {sp : Sp} {E : St → XK} {m : Str} {pl : Sem Bool} {ta : TE} (he : PE X o ta) (c : Cls X.K D) (hm : Meth X.K D m g) (F : FnOk X.prog X.w X.K X.mg X.base CX k g fd ps sp) (hr : Room k X.A) (hb : Binds X.K fd ps []) (hx : ∀ σ, PassesAt CX X σ (E σ))
    (ht : eval (.Call (.Attribute o m apos) [] [] pos) X.env = (do
      let ov ← eval o X.env
      standAt apos.atName
      let (f, first) ← holding [ov] (getMethod ov m pl)
      callWith pos f first (backTo pos (starEach [] X.env)) (backToKw pos (keywordEach [] X.env))) := by rfl) :
    PE X (.Call (.Attribute o m apos) [] [] pos) (tMethE D m sp E ta tNil) := by
  refine ⟨fun pins s σ H Q I h => ?_⟩
  refine PySem.W.methodCall_KW (pl := pl) (thn (he.run pins s σ H _ I h) fun u s1 ⟨x, H1, I1, rx, a, dx, fs, ex, ea, l, q⟩ => ?_) ht
  subst ex
  obtain rfl : u = Value.ref a := rx
  refine getmeth_ok I1 ea c hm l ?_
  exact PySem.W.callWith_K0 (first := [.ref a]) I1.kIn hm.kp (run_fnS (us := [.ref a]) (vs := [.ref a]) F hr hb (hx σ) I1 (.cons rfl .nil) q)
/-- an instance of the class, the name no attribute of it -/
@[simp] def isI (cl m : Str) (S : HS) : IV → Bool
  | .obj i => (match S[i]? with
    | some (.ins c fs) => decide (c = cl) && (fs.lookup m).isNone
    | _ => false)
  | _ => false
theorem isI_ok {cl m : Str} {S : HS} {x : IV} {H : Hp} {ms : List Addr} {v : V} {D : Addr} (hD : Ω.mg cl = some (.ref D)) (h : HRep Ω H ms S) (r : RepIV Ω.K H ms x v) (e : isI cl m S x = true) : ∃ a dx fs, v = .ref a ∧ H a = some (.ins D dx fs) ∧ fs.lookup m = none := by
  cases x with
  | dat d => cases e
  | val v => cases e
  | obj i =>
    simp only [isI] at e
    split at e
    · rename_i c fs h1
      obtain ⟨l, h3, rfl⟩ := r
      obtain ⟨C', dx, us, h4, h5, h6⟩ := h.has h1 h3
      rw [Bool.and_eq_true, decide_eq_true_eq] at e
      rw [e.1, hD] at h4
      cases h4
      exact ⟨l, dx, us, rfl, h5, h6.lookupN (Option.isNone_iff_eq_none.mp e.2)⟩
    · cases e
@[simp] def iMeth (cl m : Str) (Fn : List IV → HS → Option (Io IV)) (Fo : IE) (A : IX (List IV)) : IE := iBind Fo fun o => fun ρ S => if isI cl m S o = true then iBind A (fun xs => fun _ S' => Fn (o :: xs) S') ρ S else none
theorem iMeth_ok {cl m : Str} {D : Addr} (hD : Ω.mg cl = some (.ref D)) (hl : ∀ ρ S xs S', A ρ S = some (.ok xs S') → xs.length = n) {σ : St} {H : Hp} {Q : VK} (h : tI Ω W (iMeth cl m Fn Fo A) σ H Q) :
    tMethE D m (spI Ω (n + 1) Fn) (WE W) (tI Ω W Fo) (tIA Ω W A) σ H Q := by
  refine bind_ok (R1 := RV Ω) (r := fun x σ H1 Q => ∃ a dx fs, x = .ref a ∧ H1 a = some (.ins D dx fs) ∧ fs.lookup m = none ∧ tIA Ω W A σ H1 fun vs H2 => spI Ω (n + 1) Fn (x :: vs) H2 Q (WE W σ)) (fun x v σ H ms ρ S Q rx a => ?_) h
  obtain ⟨rp, r, e, k⟩ := a
  simp only at e
  split at e
  · rename_i hi
    obtain ⟨l, dx, fs, rfl, h5, h6⟩ := isI_ok hD rp.hr rx hi
    refine ⟨l, dx, fs, rfl, h5, h6, ms, ρ, S, rp, ?_⟩
    simp only [iBind] at e
    split at e
    · rename_i xs S1 h1
      refine ⟨_, h1, fun vs H1 m1 s1 r1 ra => sp_call (by simp [hl _ _ _ _ h1]) r1 (.cons (rx.step rp.hr.noTup s1) ra) e (k.mono s1)⟩
    · rename_i h1
      cases e
      exact ⟨_, h1, k⟩
    · cases e
  · cases e
theorem ji_meth {cl m : Str} {pl : Sem Bool} (D : MethI X.prog X.w X.K X.mg X.base C cl m n k Fn) (tk : Takes X W) (hr : Room k' X.A) (hk : k ≤ k' := by decide) (ho : JE X C W o Fo) (ha : JA X C W (e :: es) A) (hn : n = (e :: es).length := by rfl)
    (hst : starEach (e :: es) X.env = (false, eval e X.env) :: starEach es X.env := by rfl) (hpl : (backTo pos (starEach es X.env)).any (·.1) = false := by rfl)
    (ht : eval (.Call (.Attribute o m apos) (e :: es) [] pos) X.env = (do
      let ov ← eval o X.env
      standAt apos.atName
      let (f, first) ← holding [ov] (getMethod ov m pl)
      callWith pos f first (backTo pos (starEach (e :: es) X.env)) (backToKw pos (keywordEach [] X.env))) := by rfl) :
    JE X C W (.Call (.Attribute o m apos) (e :: es) [] pos) (iMeth cl m Fn Fo A) := by
  obtain ⟨D, f, fd, ps, hD, hc, hm, F1, hb⟩ := D.ex
  exact PE.imp (pe_methE (pl := pl) ho hc hm F1.fn (hr.mono hk) hb (fun σ => passAt tk σ) ha.pa hst hpl ht) fun σ H Q h => iMeth_ok (Ω := om X C) hD (fun ρ S xs S' q => by rw [ha.len _ _ _ _ q, hn]) h
theorem ji_meth0 {cl m : Str} {pl : Sem Bool} (D : MethI X.prog X.w X.K X.mg X.base C cl m 0 k Fn) (tk : Takes X W) (hr : Room k' X.A) (hk : k ≤ k' := by decide) (ho : JE X C W o Fo)
    (ht : eval (.Call (.Attribute o m apos) [] [] pos) X.env = (do
      let ov ← eval o X.env
      standAt apos.atName
      let (f, first) ← holding [ov] (getMethod ov m pl)
      callWith pos f first (backTo pos (starEach [] X.env)) (backToKw pos (keywordEach [] X.env))) := by rfl) :
    JE X C W (.Call (.Attribute o m apos) [] [] pos) (iMeth cl m Fn Fo iNil) := by
  obtain ⟨D, f, fd, ps, hD, hc, hm, F1, hb⟩ := D.ex
  refine PE.imp (pe_methE0 (pl := pl) ho hc hm F1.fn (hr.mono hk) hb (fun σ => passAt tk σ) ht) fun σ H Q h => ?_
  have := iMeth_ok (Ω := om X C) (n := 0) hD (fun ρ S xs S' q => by cases q; rfl) h
  obtain ⟨m1, ρ, S, rp, r, e, k⟩ := this
  refine ⟨m1, ρ, S, rp, r, e, k.imp fun v H' ⟨a, dx, fs, h1, h2, h3, m2, ρ2, S2, rp2, r2, e2, k2⟩ => ⟨a, dx, fs, h1, h2, h3, ?_⟩⟩
  cases e2
  exact k2 [] H' m2 (.refl _ _) rp2.hr .nil
/-! ### a new instance -/
@[simp] def iMake (cl : Str) (Fn : List IV → HS → Option (Io IV)) (A : IX (List IV)) : IE := iBind A fun xs => fun _ S => match Fn (.obj S.length :: xs) (S ++ [.ins cl []]) with
  | some (.ok (.dat .none) S') => some (.ok (.obj S.length) S')
  | _ => none
theorem sp_make {cl : Str} {D : Addr} {H1 : Hp} {m1 : List Addr} {S1 S2 : HS} {xs : List IV} {vs : List V} {Q : VK} {E : XK} (hD : Ω.mg cl = some (.ref D)) (hn : xs.length = n) (r1 : HRep Ω H1 m1 S1) (ra : RepAll Ω.K H1 m1 xs vs) (q : Fn (.obj S1.length :: xs) (S1 ++ [.ins cl []]) = some (.ok (.dat .none) S2))
    (k : ∀ v H' m', Step H1 m1 H' m' → HRep Ω H' m' S2 → RepIV Ω.K H' m' (.obj S1.length) v → Q v H') (x dx : Addr) (hx : H1 x = none) (hdx : H1 dx = none) (hne : dx ≠ x) :
    spI Ω (n + 1) Fn (.ref x :: vs) (upd (upd H1 dx (.own x)) x (.ins D dx [])) (fun v H2 => v = .non ∧ Q (.ref x) H2) E := by
  have s1 := same_upd (q := .own x) hdx
  have hx2 : upd H1 dx (.own x) x = none := by rw [upd_ne (Ne.symm hne)]; exact hx
  have s2 := same_upd (q := .ins D dx []) hx2
  have s := s1.trans s2
  have st : Step H1 m1 (upd (upd H1 dx (.own x)) x (.ins D dx [])) (m1 ++ [x]) := .lay s hx
  refine ⟨m1 ++ [x], S1 ++ [.ins cl []], .obj S1.length :: xs, _, by simp [hn], r1.lay s hx (o := .ins cl []) ⟨D, dx, [], hD, upd_same, .nil⟩, .cons ⟨x, by rw [← r1.len]; simp, rfl⟩ (ra.step r1.noTup st), q, ?_⟩
  intro v H' m' s' r' rv
  obtain ⟨rv, _⟩ := rv
  cases rv
  exact ⟨rfl, k _ H' m' (st.trans s') r' ⟨x, s'.get (by rw [← r1.len]; simp), rfl⟩⟩
theorem ji_make {cl : Str} (D : InitI X.prog X.w X.K X.mg X.base C cl n k Fn) (hr : Room (k' + 1) X.A) (hk : k ≤ k' := by decide) (ha : JA X C W (e :: es) A) (hn : n = (e :: es).length := by rfl) (hg : Gl X cl := by rfl) (hdb : (cl == ("__debug__" : Str)) = false := by decide)
    (he : starEach (e :: es) X.env = (false, eval e X.env) :: starEach es X.env := by rfl) (hpl : (backTo pos (starEach es X.env)).any (·.1) = false := by rfl) : JE X C W (.Call (.Name cl p) (e :: es) [] pos) (iMake cl Fn A) := by
  obtain ⟨D, f, fd, ps, hD, M, F1, hb⟩ := D.ex
  refine PE.imp (pe_make (E := E0) M F1.fn (hr.mono (Nat.succ_le_succ hk)) hg hD hb .nil passL ha.pa hdb he hpl) fun σ H Q ⟨m, ρ, S, rp, r, q, k⟩ => ?_
  have hl : ∀ xs S', A ρ S = some (.ok xs S') → xs.length = (e :: es).length := fun xs S' q => ha.len _ _ _ _ q
  refine ⟨m, ρ, S, rp, ?_⟩
  simp only [iMake, iBind] at q
  split at q
  · rename_i xs S1 h1
    refine ⟨_, h1, fun vs H1 m1 s1 r1 ra x dx hx hdx hne => ?_⟩
    split at q
    · rename_i S2 h2
      cases q
      rw [List.append_nil]
      exact sp_make (Ω := om X C) hD (by rw [hl _ _ h1, hn]) r1 ra h2 (fun v H' m' s' r' rv => k v H' m' (s1.trans s') r' rv) x dx hx hdx hne
    · cases q
  · rename_i h1
    cases q
    exact ⟨_, h1, k⟩
  · cases q
/-! ### a list's methods -/
@[simp] def iAppend (Fo F : IE) : IE := iBind Fo fun o => fun ρ S => match o with
  | .obj i => (match S[i]? with
    | some (.lst _) => iBind F (fun x => fun _ S1 => match S1[i]? with
      | some (.lst xs) => if xs.length < 10000 then some (.ok (.dat .none) (S1.set i (.lst (xs ++ [x])))) else none
      | _ => none) ρ S
    | _ => none)
  | _ => none
theorem ji_append (ho : JE X C W o Fo) (ha : JE X C W e F) (hs : starEach [e] X.env = (false, eval e X.env) :: starEach [] X.env := by rfl)
    (hbase : attributeBase o "append" X.env (eval o X.env) = eval o X.env := by rfl)
    (hfew : ((backTo pos (starEach [e] X.env)).all (fun x => !x.1) && (backToKw pos (keywordEach [] X.env)).all (fun x => x.1.isSome)
      && decide ([e].length + ([] : List Keyword).length + (if ([] : List Keyword).isEmpty then 0 else 1) < 30)) = true := by rfl)
    (hline : (apos.endLine == pos.line) = true := by rfl) : JE X C W (.Call (.Attribute o "append" apos) [e] [] pos) (iAppend Fo F) :=
  PE.imp (pe_bm PySem.F.plainAttrs_list PySem.F.slot_list_append PySem.F.type_list_append mt_append ho (pa_cons ha pa_nil hs) hbase hfew hline hs) fun σ H Q h => by
    refine bind_ok (R1 := RV (om X C)) (r := fun x σ H1 Q => tyV X.K "list" x H1 ∧ tCons (tI (om X C) W F) tNil σ H1 fun xs H2 => rAppend x xs H2 Q) (fun x v σ H m ρ S Q rx a => ?_) h
    obtain ⟨rp, r, e, k⟩ := a
    simp only at e
    split at e
    · rename_i i
      split at e
      · rename_i xs0 h1
        obtain ⟨l, h3, rfl⟩ := rx
        obtain ⟨us, h4, h5⟩ := rp.hr.has h1 h3
        refine ⟨.inl ⟨rfl, _, SqL.of h4⟩, m, ρ, S, rp, ?_⟩
        simp only [iBind] at e
        split at e
        · rename_i x S1 h6
          refine ⟨_, h6, fun y H1 m1 s1 r1 ry => ?_⟩
          split at e
          · rename_i xs h7
            split at e
            · rename_i hz
              cases e
              obtain ⟨us1, h8, h9⟩ := r1.has h7 (s1.get h3)
              have st : Step H1 m1 (upd H1 l (.lst (us1 ++ [y]))) m1 := .upd (s1.get h3)
              exact ⟨l, us1, y, rfl, rfl, h8, by rw [← h9.len, sizeLine_eq]; omega, k _ _ m1 (s1.trans st) (r1.set (s1.get h3) ⟨_, upd_same, (h9.append (.one ry)).step r1.noTup st⟩) ⟨.non, rfl⟩⟩
            · cases e
          · cases e
        · rename_i h6
          cases e
          exact ⟨_, h6, k⟩
        · cases e
      · cases e
    · cases e
end
end KW
/-! EI: comprehensions over objects, a def's body, raise -/
namespace KW
open PySem PySem.Spec L2
def WN : WX := fun _ _ _ _ => False
/-- the elements, one behind another, put to the list that is the k-th object -/
def dLc (g : IG) (F : IE) (k : Nat) (ρ : IR) : List IV → HS → Option HS
  | [] => fun S => some S
  | x :: xs => fun S => match g x ρ S with
    | some (ρ1, S1) => (match F ρ1 S1 with
      | some (.ok z S2) => (match S2[k]? with
        | some (.lst acc) => if acc.length < 10000 then dLc g F k ρ xs (S2.set k (.lst (acc ++ [z]))) else none
        | _ => none)
      | _ => none)
    | none => none
@[simp] def iLc (vs : List Nat) (A : IX (List IV)) (g : IG) (F : IE) : IE := fun ρ S => match A ρ S with
  | some (.ok xs S1) => (match dLc g F S1.length (wipeI ρ vs) xs (S1 ++ [.lst []]) with
    | some S2 => some (.ok (.obj S1.length) S2)
    | none => none)
  | some (.ex S1) => some (.ex S1)
  | none => none
section
variable {X : Cx} {C : Addr} {W : WX} {a b c e o tg : Expr} {es rest : List Expr} {F F' Fo : IE} {T U : IX Bool} {A : IX (List IV)} {pos apos p p2 : Pos} {f : DE} {Ω : Wd} {x : Str} {k k' n : Nat} {Fn : List IV → HS → Option (Io IV)} {vs : List Nat} {g : IG} {scope : Scope} {own : List (Str × Nat)} {elt iter : Expr}
theorem ji_lc {sc : Scope} (own : List (Str × Nat)) (hi : JI X C W tg iter A) (ok : BlkOk X.N X.env.scope scope own) (hv : ∀ j ∈ vs, j ∈ own.map (·.2)) (hN : X.N.Nodup)
    (hg : ∀ (s : Shared) (H : Hp) (Ca : Addr) (cl : List (Str × Addr)) (fp : List Addr), PG (X.blk s H scope (compEnvC scope cl Ca X.env) fp) tg (tIG (om X C) vs g))
    (he : ∀ (s : Shared) (H : Hp) (Ca : Addr) (cl : List (Str × Addr)) (fp : List Addr), PE (X.blk s H scope (compEnvC scope cl Ca X.env) fp) elt (tI (om X C) WN F)) (hc : X.calm = true := by rfl) (hs : ∀ x, foldedSetIterable iter X.env x = pure x := by intro _; rfl) :
    JE X C W (.ListComp elt [⟨tg, iter, [], 0⟩] scope pos) (iLc (own.map (·.2)) A g F) := by
  obtain ⟨wi, hw, hk⟩ := hi.ex
  refine PE.imp (pe_lc (own := own) (te := tI (om X C) WN F) (g := tIG (om X C) vs g) hc hN hw ok hg (fun _ _ _ _ _ => pts_nil) he hs) fun σ H Q ⟨m, ρ, S, rp, r, e, kk⟩ => ?_
  unfold iLc at e
  split at e
  · rename_i xs S1 h1
    refine hk m ρ S σ H _ _ rp h1 fun J H1 m1 s1 r1 ⟨G, Y, w, hG, hY⟩ D hD => ?_
    split at e
    · rename_i Sf h2
      cases e
      have sl := same_upd (q := .lst []) hD
      have st0 : Step H1 m1 (upd H1 D (.lst [])) (m1 ++ [D]) := .lay sl hD
      have r0 : HRep (om X C) (upd H1 D (.lst [])) (m1 ++ [D]) (S1 ++ [.lst []]) := r1.lay sl hD (o := .lst []) ⟨[], upd_same, .nil⟩
      have hk1 : (m1 ++ [D])[S1.length]? = some D := by rw [← r1.len]; simp
      refine lc_it w (fun i H' => ∃ m' S', Step (upd H1 D (.lst [])) (m1 ++ [D]) H' m' ∧ HRep (om X C) H' m' S' ∧ dLc g F S1.length (wipeI ρ (own.map (·.2))) (xs.drop i) S' = some Sf) ?_ ?_ ?_ ?_
      · exact ⟨m1 ++ [D], S1 ++ [Ob.lst []], .refl _ _, r0, by rw [List.drop_zero]; exact h2⟩
      · rintro i H' hi ⟨m', S', s', _⟩
        exact hG H' m' (st0.trans s')
      · rintro i x H' H'' hi ⟨m', S', s', r', e'⟩ y
        have hx : xs[i]? = some xs[i] := List.getElem?_eq_getElem hi
        obtain ⟨s2, rx⟩ := hY i H' m' x H'' xs[i] hx (st0.trans s') y
        rw [List.drop_eq_getElem_cons hi] at e'
        unfold dLc at e'
        split at e'
        · rename_i ρ1 S2 h3
          have st2 : Step H' m' H'' m' := .same s2
          have sall : Step H m H'' m' := ((s1.trans st0).trans s').trans st2
          refine ⟨m', wipeI ρ (own.map (·.2)), S', xs[i], ρ1, S2, (rp.step sall (r'.same s2)).wipe _, rx, h3, fun σ3 H3 m3 s3 r3 o3 => ⟨?_, ?_⟩⟩
          · have := (o3.mono hv).wipe
            rw [wipe_wipe] at this
            exact this
          · unfold tYes
            apply iteT
            split at e'
            · rename_i z S3 h4
              refine ⟨m3, ρ1, S2, r3, _, h4, fun y H4 m4 s4 r4 ry => ?_⟩
              split at e'
              · rename_i acc h5
                split at e'
                · rename_i hz
                  have hkm : m4[S1.length]? = some D := s4.get (s3.get (st2.get (s'.get hk1)))
                  obtain ⟨us, h6, h7⟩ := r4.has h5 hkm
                  have st5 : Step H4 m4 (upd H4 D (.lst (us ++ [y]))) m4 := .upd hkm
                  exact ⟨us, h6, by rw [← h7.len, sizeLine_eq]; omega, m4, _, (((s'.trans st2).trans s3).trans s4).trans st5, r4.set hkm (o := .lst (acc ++ [z])) ⟨_, upd_same, (h7.append (.one ry)).step r4.noTup st5⟩, e'⟩
                · cases e'
              · cases e'
            · cases e'
        · cases e'
      · rintro H' ⟨m', S', s', r', e'⟩
        rw [List.drop_length] at e'
        cases e'
        exact kk _ H' m' ((s1.trans st0).trans s') r' ⟨D, s'.get hk1, rfl⟩
    · cases e
  · rename_i h1
    cases e
    exact hk m ρ S σ H _ _ rp h1 fun H1 m1 s1 r1 => kk H1 m1 s1 r1
  · cases e
theorem js_setLc {sc : Scope} (i : Nat) {y : Str} {py spos : Pos} (own : List (Str × Nat)) (hi : JI X C W tg iter A) (ok : BlkOk X.N X.env.scope scope own) (hv : ∀ j ∈ vs, j ∈ own.map (·.2)) (hN : X.N.Nodup)
    (hsw : swapsWith (.ListComp elt [⟨tg, iter, [], 0⟩] scope pos) (some (.Name y py)) spos.line X.env = pure true)
    (hg : ∀ (s : Shared) (H : Hp) (Ca : Addr) (cl : List (Str × Addr)) (fp : List Addr), PG (X.blk s H scope (compEnvC scope cl Ca X.env) fp) tg (tIG (om X C) vs g))
    (he : ∀ (s : Shared) (H : Hp) (Ca : Addr) (cl : List (Str × Addr)) (fp : List Addr), PE (X.blk s H scope (compEnvC scope cl Ca X.env) fp) elt (tI (om X C) WN F)) (hy : X.N[i]? = some y := by rfl) (hyl : X.env.scope.names.lookup y = some .local := by rfl) (hc : X.calm = true := by rfl) (hs : ∀ x, foldedSetIterable iter X.env x = pure x := by intro _; rfl) :
    JS X C W (.Assign [.Name y py] (.ListComp elt [⟨tg, iter, [], 0⟩] scope pos) spos) (bAsg (iLc (own.map (·.2)) A g F) (gIN i)) := by
  obtain ⟨wi, hw, hk⟩ := hi.ex
  refine PS.imp (ps_setLc (i := i) (own := own) (te := tI (om X C) WN F) (g := tIG (om X C) vs g) hc hN hy hyl hsw hw ok hg (fun _ _ _ _ _ => pts_nil) he hs) fun D0 σ H ⟨m, ρ, S, o, rp, e, kk⟩ => ?_
  simp only [bAsg, iLc] at e
  split at e
  · rename_i x S' h0
    split at h0
    · rename_i xs S1 h1
      refine hk m ρ S σ H _ _ rp h1 fun J H1 m1 s1 r1 ⟨G, Y, w, hG, hY⟩ D hD => ?_
      split at h0
      · rename_i Sf h2
        injection h0 with h0
        injection h0 with h00 h01
        subst h00
        obtain ⟨Sg, hSg⟩ : ∃ Sg, Sg = Sf := ⟨_, rfl⟩
        rw [← hSg] at h2 h01
        subst h01
        simp only [gIN] at e
        cases e
        have sl := same_upd (q := .lst []) hD
        have st0 : Step H1 m1 (upd H1 D (.lst [])) (m1 ++ [D]) := .lay sl hD
        have r0 : HRep (om X C) (upd H1 D (.lst [])) (m1 ++ [D]) (S1 ++ [.lst []]) := r1.lay sl hD (o := .lst []) ⟨[], upd_same, .nil⟩
        have hk1 : (m1 ++ [D])[S1.length]? = some D := by rw [← r1.len]; simp
        refine lc_it w (fun i H' => ∃ m' S', Step (upd H1 D (.lst [])) (m1 ++ [D]) H' m' ∧ HRep (om X C) H' m' S' ∧ dLc g F S1.length (wipeI ρ (own.map (·.2))) (xs.drop i) S' = some Sg) ?_ ?_ ?_ ?_
        · exact ⟨m1 ++ [D], S1 ++ [Ob.lst []], .refl _ _, r0, by rw [List.drop_zero]; exact h2⟩
        · rintro i H' hi ⟨m', S', s', _⟩
          exact hG H' m' (st0.trans s')
        · rintro i x H' H'' hi ⟨m', S', s', r', e'⟩ y
          have hx : xs[i]? = some xs[i] := List.getElem?_eq_getElem hi
          obtain ⟨s2, rx⟩ := hY i H' m' x H'' xs[i] hx (st0.trans s') y
          rw [List.drop_eq_getElem_cons hi] at e'
          unfold dLc at e'
          split at e'
          · rename_i ρ1 S2 h3
            have st2 : Step H' m' H'' m' := .same s2
            have sall : Step H m H'' m' := ((s1.trans st0).trans s').trans st2
            refine ⟨m', wipeI ρ (own.map (·.2)), S', xs[i], ρ1, S2, (rp.step sall (r'.same s2)).wipe _, rx, h3, fun σ3 H3 m3 s3 r3 o3 => ⟨?_, ?_⟩⟩
            · have := (o3.mono hv).wipe
              rw [wipe_wipe] at this
              exact this
            · unfold tYes
              apply iteT
              split at e'
              · rename_i z S3 h4
                refine ⟨m3, ρ1, S2, r3, _, h4, fun y H4 m4 s4 r4 ry => ?_⟩
                split at e'
                · rename_i acc h5
                  split at e'
                  · rename_i hz
                    have hkm : m4[S1.length]? = some D := s4.get (s3.get (st2.get (s'.get hk1)))
                    obtain ⟨us, h6, h7⟩ := r4.has h5 hkm
                    have st5 : Step H4 m4 (upd H4 D (.lst (us ++ [y]))) m4 := .upd hkm
                    exact ⟨us, h6, by rw [← h7.len, sizeLine_eq]; omega, m4, _, (((s'.trans st2).trans s3).trans s4).trans st5, r4.set hkm (o := .lst (acc ++ [z])) ⟨_, upd_same, (h7.append (.one ry)).step r4.noTup st5⟩, e'⟩
                  · cases e'
                · cases e'
              · cases e'
          · cases e'
        · rintro H' ⟨m', S', s', r', e'⟩
          rw [List.drop_length] at e'
          cases e'
          have sall : Step H m H' m' := (s1.trans st0).trans s'
          exact kk _ H' m' sall ((rp.step sall r').set i (x := .obj S1.length) (v := .ref D) ⟨D, s'.get hk1, rfl⟩)
      · cases h0
    · cases h0
    · cases h0
  · rename_i S' h0
    split at h0
    · split at h0
      · cases h0
      · cases h0
    · rename_i S1 h1
      cases h0
      cases e
      exact hk m ρ S σ H _ _ rp h1 fun H1 m1 s1 r1 => kk σ H1 m1 s1 (rp.step s1 r1)
    · cases h0
  · cases e
/-! ### raise -/
@[simp] def bRaise : IB := fun ρ S => some (.ex ρ S)
theorem js_raise {t : L2.St → Hp → XK → Prop} (hc : X.calm = true) (tk : Takes X W) (he : PMk X e t) (ht : ∀ σ H Q, Q (.ref C) none H → t σ H Q) : JS X C W (.Raise (some e) none pos) bRaise := PS.imp (ps_raise hc tk he) fun D σ H ⟨m, ρ, S, o, rp, e, k⟩ => by
  cases e
  exact ht _ _ _ (k σ H m (.refl _ _) rp)
end
/-! ### a def -/
/-- what a body gives at its parameters' values -/
def runI (n : Nat) (u : IB) : List IV → HS → Option (Io IV) := fun xs S => match u (xs.map some ++ List.replicate (n - xs.length) none) S with
  | some (.rt x S') => some (.ok x S')
  | some (.nx _ S') => some (.ok (.dat .none) S')
  | some (.ex _ S') => some (.ex S')
  | none => none
theorem irep_start {Ω : Wd} {H : Hp} {m : List Addr} {S : HS} {N : List Str} {vs : List V} {xs : List IV} (r : HRep Ω H m S) (h : RepAll Ω.K H m xs vs) : IRep Ω H m S (L2.start N vs) (xs.map some ++ List.replicate (N.length - xs.length) none) := by
  have hl := h.len
  refine ⟨r, by unfold L2.start; simp [hl], fun i x e => ?_⟩
  by_cases hi : i < xs.length
  · rw [List.getElem?_append_left (by simpa using hi), List.getElem?_map] at e
    have hd : xs[i]? = some xs[i] := List.getElem?_eq_getElem hi
    rw [hd] at e
    cases e
    obtain ⟨v, hv, dv⟩ := h.get hd
    refine ⟨v, ?_, dv⟩
    unfold L2.start
    rw [List.getElem?_append_left (by simp; omega), List.getElem?_map, hv]
    rfl
  · rw [List.getElem?_append_right (by simp; omega), List.getElem?_replicate] at e
    split at e <;> cases e
section
variable {P : Program} {w : World} {K : PySem.W.Frag} {mg : Str → Option Value} {base : Heap} {C : Addr}
abbrev WEx (E : XK) : WX := fun cls d _ H => E cls d H
/-- THE RULE for a def over objects -/
theorem FunI_ok {x qual : Str} {st : Stmt} {dvs : List V} {kws : List (Str × V)} {f : Addr} {fd : FuncData} {N ps : List Str} {k m : Nat} {u : IB} (F : FunD K x qual (defArgs st) (defBody st) (defScope st) dvs kws f fd) (hps : ps.length = m) (S : FnScope N ps (defScope st))
    (hbody : ∀ (cdv : Value) (A : Around) (outer : List Env) (s : Shared) (H : Hp) (E : XK), Room k (A.deeper (PyProof.Rows.envOfC qual (defScope st) s.heap.objs.size f cdv)) →
      JSs (cxOf (L2.CX P w) P w K mg base N qual (defScope st) f cdv A outer s H E) C (WEx E) (defBody st) u) : FnI P w K mg base C (k + 1) m (runI N.length u) f fd ps := by
  refine ⟨F.ok S (fun vs H Q E ⟨ms, S', xs, r, h1, h2, h3, _⟩ => by rw [← h3.len, h1, hps]) fun cdv A outer s H vs Q E hr ⟨ms, S', xs, r, h1, h2, h3, h4, kk⟩ => ⟨_, hbody cdv A outer s H E hr, ?_⟩, hps⟩
  unfold runI at h4
  split at h4
  · rename_i x S1 h5
    cases h4
    exact ⟨ms, _, S', _, irep_start h2 h3, h5, kk⟩
  · rename_i ρ S1 h5
    cases h4
    exact ⟨ms, _, S', _, irep_start h2 h3, h5, fun σ' H' m' s' r' => kk .non H' m' s' r'.hr ⟨.non, rfl⟩⟩
  · rename_i ρ S1 h5
    cases h4
    exact ⟨ms, _, S', _, irep_start h2 h3, h5, fun σ' H' m' s' r' => kk H' m' s' r'.hr⟩
  · cases h4
end
end KW
/-! EJ: try .. finally where nothing raises, insert, an attribute that is a def, a list of objects walked -/
namespace KW
open PySem PySem.Spec L2
/-! ### blocks that end in return -/
abbrev TR := (V → St → Hp → Prop) → St → Hp → Prop
structure PR (X : Cx) (sts : List Stmt) (t : TR) : Prop where
  run : ∀ (pins : List (Addr × Obj)) (s : Shared) (σ : St) (H : Hp) (Q : V → St → Hp → Prop), Inv X pins σ H s → t Q σ H → wpAny (model X.prog X.w) X.A (execs sts X.env) (fun f s' => ∃ u v σ' H', f = .ret u ∧ Inv X pins σ' H' s' ∧ RelV v u ∧ Q v σ' H') X.xe s
section
variable {X : Cx} {C : Addr} {W : WX} {a b c e o tg : Expr} {es rest : List Expr} {F F' Fo : IE} {T U : IX Bool} {A : IX (List IV)} {pos apos p p2 rp : Pos} {f : DE} {Ω : Wd} {x : Str} {k k' n : Nat} {Fn : List IV → HS → Option (Io IV)} {vs : List Nat} {g : IG} {st f₀ : Stmt} {sts fs : List Stmt} {u v : IB}
theorem pr_ret {te : TE} (he : PE X e te) : PR X [.Return (some e) rp] (fun Q σ H => te σ H fun v H1 => Q v σ H1) := by
  refine ⟨fun pins s σ H Q I h => ?_⟩
  refine wpAny_execs_cons (wpAny_Return_some (thn (he.run pins s σ H _ I h) fun u s1 ⟨v, H1, I1, r1, q1⟩ => ?_))
  exact ⟨u, v, σ, H1, rfl, I1, r1, q1⟩
theorem pr_cons {t : TS} {r : TR} (h1 : PS X st t) (h2 : PR X sts r) : PR X (st :: sts) (fun Q σ H => t { nx := r Q, rt := fun _ _ => False } σ H) := by
  refine ⟨fun pins s σ H Q I h => ?_⟩
  refine wpAny_execs_cons (thn (h1.run pins s σ H { nx := r Q, rt := fun _ _ => False } I h) fun f s1 q => ?_)
  cases f with
  | next =>
    obtain ⟨σ', H', I', q⟩ := q
    exact h2.run pins s1 σ' H' Q I' q
  | ret v => obtain ⟨_, _, _, _, _, q⟩ := q; exact q.elim
  | brk => obtain ⟨_, _, _, q⟩ := q; exact q.elim
  | cont => obtain ⟨_, _, _, q⟩ := q; exact q.elim
theorem ps_bodyFin {body : List Stmt} {r : TR} {tf : TS} (hb : PR X.nox body r) (hf : PSs X.nox (f₀ :: fs) tf) : PS X (.Try body [] [] (f₀ :: fs) pos) (fun D σ H => r (fun v σ1 H1 => tf { D with nx := fun _ H2 => D.rt v H2 } σ1 H1) σ H) := by
  refine ⟨fun pins s σ H D I h => ?_⟩
  refine wpAny_Try_finally (wpAny_mono (hb.run pins s σ H _ (I.wish _) h) (fun fl s1 z => ?_) fun _ _ z => False.elim z)
  obtain ⟨u, v, σ1, H1, rfl, I1, r1, q1⟩ := z
  exact fin_ret hf I1.unwish r1 q1
/-- .. over objects -/
abbrev IRet := IR → HS → Option (IV × IR × HS)
def tIR (Ω : Wd) (G : IRet) : TR := fun Q σ H => ∃ m ρ S x ρ' S', IRep Ω H m S σ ρ ∧ G ρ S = some (x, ρ', S') ∧ ∀ v σ' H' m', Step H m H' m' → IRep Ω H' m' S' σ' ρ' → RepIV Ω.K H' m' x v → Q v σ' H'
abbrev JR (X : Cx) (C : Addr) (sts : List Stmt) (G : IRet) : Prop := PR X sts (tIR (om X C) G)
theorem PR.imp {sts : List Stmt} {t t' : TR} (h : PR X sts t) (i : ∀ Q σ H, t' Q σ H → t Q σ H) : PR X sts t' := ⟨fun pins s σ H Q I q => h.run pins s σ H Q I (i _ _ _ q)⟩
@[simp] def rRet (F : IE) : IRet := fun ρ S => match F ρ S with
  | some (.ok x S') => some (x, ρ, S')
  | _ => none
@[simp] def rSeq (u : IB) (G : IRet) : IRet := fun ρ S => match u ρ S with
  | some (.nx ρ' S') => G ρ' S'
  | _ => none
theorem jr_ret (h : JE X C WN e F) : JR X C [.Return (some e) rp] (rRet F) := (pr_ret h).imp fun Q σ H ⟨m, ρ, S, x, ρ', S', rp, q, kk⟩ => by
  unfold rRet at q
  split at q
  · rename_i h1
    cases q
    exact ⟨m, ρ, S, rp, _, h1, fun v H' m' s r rx => kk v σ H' m' s (rp.step s r) rx⟩
  · cases q
theorem jr_cons {G : IRet} (h1 : JS X C WN st u) (h2 : JR X C sts G) : JR X C (st :: sts) (rSeq u G) := (pr_cons h1 h2).imp fun Q σ H ⟨m, ρ, S, x, ρ', S', rp, q, kk⟩ => by
  unfold rSeq at q
  split at q
  · rename_i ρ1 S1 h1
    exact ⟨m, ρ, S, _, rp, h1, fun σ1 H1 m1 s1 r1 => ⟨m1, ρ1, S1, x, ρ', S', r1, q, fun v σ2 H2 m2 s2 r2 rx => kk v σ2 H2 m2 (s1.trans s2) r2 rx⟩⟩
  · cases q
@[simp] def bFin (G : IRet) (u : IB) : IB := fun ρ S => match G ρ S with
  | some (x, ρ', S') => (match u ρ' S' with
    | some (.nx _ S2) => some (.rt x S2)
    | _ => none)
  | none => none
theorem js_fin {G : IRet} {body : List Stmt} (hb : JR X.nox C body G) (hf : JSs X.nox C WN (f₀ :: fs) u) : JS X C W (.Try body [] [] (f₀ :: fs) pos) (bFin G u) := PS.imp (ps_bodyFin hb hf) fun D σ H ⟨m, ρ, S, o, rp, q, kk⟩ => by
  unfold bFin at q
  split at q
  · rename_i x ρ' S' h1
    refine ⟨m, ρ, S, x, ρ', S', rp, h1, fun v σ1 H1 m1 s1 r1 rx => ?_⟩
    split at q
    · rename_i ρ2 S2 h2
      cases q
      exact ⟨m1, ρ', S', _, r1, h2, fun σ2 H2 m2 s2 r2 => kk v H2 m2 (s1.trans s2) r2.hr (rx.step r1.hr.noTup s2)⟩
    · cases q
  · cases q
/-! ### xs.insert(0, e) -/
@[simp] def iInsert0 (Fo F : IE) : IE := iBind Fo fun o => fun ρ S => match o with
  | .obj i => (match S[i]? with
    | some (.lst _) => iBind F (fun x => fun _ S1 => match S1[i]? with
      | some (.lst xs) => if xs.length < 10000 then some (.ok (.dat .none) (S1.set i (.lst (x :: xs)))) else none
      | _ => none) ρ S
    | _ => none)
  | _ => none
theorem ji_insert0 {j : Nat} {pc : Pos} (ho : JE X C W o Fo) (ha : JE X C W e F) (hs : starEach [.Constant (.int 0) j pc, e] X.env = (false, eval (.Constant (.int 0) j pc) X.env) :: starEach [e] X.env := by rfl) (hs1 : starEach [e] X.env = (false, eval e X.env) :: starEach [] X.env := by rfl)
    (hbase : attributeBase o "insert" X.env (eval o X.env) = eval o X.env := by rfl)
    (hfew : ((backTo pos (starEach [.Constant (.int 0) j pc, e] X.env)).all (fun x => !x.1) && (backToKw pos (keywordEach [] X.env)).all (fun x => x.1.isSome)
      && decide ([Expr.Constant (.int 0) j pc, e].length + ([] : List Keyword).length + (if ([] : List Keyword).isEmpty then 0 else 1) < 30)) = true := by rfl)
    (hline : (apos.endLine == pos.line) = true := by rfl) (hpl : (backTo pos (starEach [e] X.env)).any (·.1) = false := by rfl) : JE X C W (.Call (.Attribute o "insert" apos) [.Constant (.int 0) j pc, e] [] pos) (iInsert0 Fo F) :=
  PE.imp (pe_bm PySem.F.plainAttrs_list PySem.F.slot_list_insert PySem.F.type_list_insert mt_insert ho (pa_cons pe_int (pa_cons ha pa_nil hs1) hs) hbase hfew hline hs hpl) fun σ H Q h => by
    refine bind_ok (R1 := RV (om X C)) (r := fun x σ H1 Q => tyV X.K "list" x H1 ∧ tCons (tC (.int 0)) (tCons (tI (om X C) W F) tNil) σ H1 fun vs H2 => ∃ (l : Addr) (xs : List V) (i : Int) (y : V), x = .ref l ∧ vs = [.int i, y] ∧ H2 l = some (.lst xs) ∧ xs.length < sizeLine ∧ 0 ≤ i ∧ i < 2 ^ 63 ∧
    Q .non (upd H2 l (.lst (xs.take i.toNat ++ [y] ++ xs.drop i.toNat)))) (fun x v σ H m ρ S Q rx a => ?_) h
    obtain ⟨rp, r, e, kk⟩ := a
    simp only at e
    split at e
    · rename_i i
      split at e
      · rename_i xs0 h1
        obtain ⟨l, h3, rfl⟩ := rx
        obtain ⟨us, h4, h5⟩ := rp.hr.has h1 h3
        refine ⟨.inl ⟨rfl, _, SqL.of h4⟩, m, ρ, S, rp, ?_⟩
        simp only [iBind] at e
        split at e
        · rename_i x S1 h6
          refine ⟨_, h6, fun y H1 m1 s1 r1 ry => ?_⟩
          split at e
          · rename_i xs h7
            split at e
            · rename_i hz
              cases e
              obtain ⟨us1, h8, h9⟩ := r1.has h7 (s1.get h3)
              have st : Step H1 m1 (upd H1 l (.lst (y :: us1))) m1 := .upd (s1.get h3)
              refine ⟨l, us1, 0, y, rfl, rfl, h8, by rw [← h9.len, sizeLine_eq]; omega, by omega, by decide, ?_⟩
              have : us1.take (0 : Int).toNat ++ [y] ++ us1.drop (0 : Int).toNat = y :: us1 := by simp
              rw [this]
              exact kk _ _ m1 (s1.trans st) (r1.set (s1.get h3) (o := .lst (x :: xs)) ⟨_, upd_same, (RepAll.cons ry h9).step r1.noTup st⟩) ⟨.non, rfl⟩
            · cases e
          · cases e
        · rename_i h6
          cases e
          exact ⟨_, h6, kk⟩
        · cases e
      · cases e
    · cases e
/-! ### o.f(e, ..), f an attribute of the instance that is a def over objects -/
structure ValI (P : Program) (w : World) (K : PySem.W.Frag) (mg : Str → Option Value) (base : Heap) (XC : Addr) (fa : Addr) (n k : Nat) (F : List IV → HS → Option (Io IV)) : Prop where
  ex : ∃ (fd : FuncData) (ps : List Str), FnI P w K mg base XC k n F fa fd ps ∧ PySem.W.keepIn K (.ref fa) = true ∧ Binds K fd ps []
theorem getmethA_ok {D dx l : Addr} {fs : List (Str × V)} {pins : List (Addr × Obj)} {σ : St} {H : Hp} {s : Shared} {E : Value → Shared → Prop} {m : Str} {y : V} {pl : Sem Bool} {Q : Value × List Value → Shared → Prop} (I : Inv X pins σ H s) (e : H l = some (.ins D dx fs)) (c : Cls X.K D) (nn : NoAttr X.K D m) (lk : fs.lookup m = some y)
    (h : ∀ u s', Inv X pins σ H s' → RelV y u → Q (u, []) s') : wpAny (model X.prog X.w) X.A (getMethod (.ref l) m pl) Q E s := by
  obtain ⟨mA, O, r, _, _, _⟩ := ins_get I.hok e
  obtain ⟨od, J, hl⟩ := O.look
  exact PySem.W.method_usual I.kIn J (PySem.W.plainGet_of c.pg).1 (PySem.W.plainGet_of c.pg).2 nn rfl (getattr_ok I e c nn lk fun u s' I' r' => h u s' I' r')
def tAttrE (D : Addr) (m : Str) (fa : Addr) (sp : Sp) (E : St → XK) (ta : TE) (t : TA) : TE := fun σ H Q => ta σ H fun x H1 => ∃ a dx fs, x = .ref a ∧ H1 a = some (.ins D dx fs) ∧ fs.lookup m = some (.ref fa) ∧ t σ H1 fun vs H2 => sp vs H2 Q (E σ)
theorem pe_attrE {CX : CXT} {D g : Addr} {fd : FuncData} {ps : List Str} {sp : Sp} {E : St → XK} {m : Str} {pl : Sem Bool} {ta : TE} {t : TA} (he : PE X o ta) (c : Cls X.K D) (nn : NoAttr X.K D m) (F : FnOk X.prog X.w X.K X.mg X.base CX k g fd ps sp) (hr : Room k X.A) (hkp : PySem.W.keepIn X.K (.ref g) = true) (hb : Binds X.K fd ps []) (hx : ∀ σ, PassesAt CX X σ (E σ)) (ha : PA X (e :: es) t)
    (hst : starEach (e :: es) X.env = (false, eval e X.env) :: starEach es X.env := by rfl) (hpl : (backTo pos (starEach es X.env)).any (·.1) = false := by rfl)
    (ht : eval (.Call (.Attribute o m apos) (e :: es) [] pos) X.env = (do
      let ov ← eval o X.env
      standAt apos.atName
      let (f, first) ← holding [ov] (getMethod ov m pl)
      callWith pos f first (backTo pos (starEach (e :: es) X.env)) (backToKw pos (keywordEach [] X.env))) := by rfl) :
    PE X (.Call (.Attribute o m apos) (e :: es) [] pos) (tAttrE D m g sp E ta t) := by
  refine ⟨fun pins s σ H Q I h => ?_⟩
  refine PySem.W.methodCall_KW (pl := pl) (thn (he.run pins s σ H _ I h) fun u s1 ⟨x, H1, I1, rx, a, dx, fs, ex, ea, l, q⟩ => ?_) ht
  subst ex
  obtain rfl : u = Value.ref a := rx
  refine getmethA_ok I1 ea c nn l fun u s2 I2 ru => ?_
  obtain rfl : u = Value.ref g := ru
  refine PySem.W.callWith_K (first := []) (h₀ := X.base) I.ok.mod.kin hkp (thn (ha.run pos pins s2 σ H1 _ I2 q) fun us s3 ⟨vs, H2, I3, r, q2⟩ => ⟨I3.kIn, ?_⟩) hst hpl
  exact run_fnS (us := us) (vs := vs) F hr hb (hx σ) I3 r q2
@[simp] def hasV (cl m : Str) (fa : Addr) (S : HS) : IV → Prop
  | .obj i => ∃ fs, S[i]? = some (.ins cl fs) ∧ fs.lookup m = some (.val (.ref fa))
  | _ => False
open Classical in
noncomputable def iAttr (cl m : Str) (fa : Addr) (Fn : List IV → HS → Option (Io IV)) (Fo : IE) (A : IX (List IV)) : IE := iBind Fo fun o => fun ρ S => if hasV cl m fa S o then iBind A (fun xs => fun _ S' => Fn xs S') ρ S else none
theorem ji_attr {cl m : Str} {pl : Sem Bool} {fa : Addr} {fl : List Str} (V : ValI X.prog X.w X.K X.mg X.base C fa n k Fn) (T : CF X.K X.mg cl fl) (tk : Takes X W) (hr : Room k' X.A) (hk : k ≤ k' := by decide) (ho : JE X C W o Fo) (ha : JA X C W (e :: es) A) (hn : n = (e :: es).length := by rfl) (hf : m ∈ fl := by decide)
    (hst : starEach (e :: es) X.env = (false, eval e X.env) :: starEach es X.env := by rfl) (hpl : (backTo pos (starEach es X.env)).any (·.1) = false := by rfl)
    (ht : eval (.Call (.Attribute o m apos) (e :: es) [] pos) X.env = (do
      let ov ← eval o X.env
      standAt apos.atName
      let (f, first) ← holding [ov] (getMethod ov m pl)
      callWith pos f first (backTo pos (starEach (e :: es) X.env)) (backToKw pos (keywordEach [] X.env))) := by rfl) :
    JE X C W (.Call (.Attribute o m apos) (e :: es) [] pos) (iAttr cl m fa Fn Fo A) := by
  obtain ⟨fd, ps, F1, hkp, hb⟩ := V.ex
  obtain ⟨D, hD, hc, hnn⟩ := T.ex
  refine PE.imp (pe_attrE (pl := pl) ho hc (hnn m hf) F1.fn (hr.mono hk) hkp hb (fun σ => passAt tk σ) ha.pa hst hpl ht) fun σ H Q h => ?_
  refine bind_ok (R1 := RV (om X C)) (r := fun x σ H1 Q => ∃ a dx fs, x = .ref a ∧ H1 a = some (.ins D dx fs) ∧ fs.lookup m = some (.ref fa) ∧ tIA (om X C) W A σ H1 fun vs H2 => spI (om X C) n Fn vs H2 Q (WE W σ)) (fun x v σ H ms ρ S Q rx a => ?_) h
  obtain ⟨rp, r, e, kk⟩ := a
  simp only at e
  split at e
  · rename_i hi
    cases x with
    | dat d => exact hi.elim
    | val u => exact hi.elim
    | obj i =>
      obtain ⟨gs, h1, h2⟩ := hi
      obtain ⟨l, h3, rfl⟩ := rx
      obtain ⟨C', dx, us, h4, h5, h6⟩ := rp.hr.has h1 h3
      have e1 : X.mg cl = some (.ref C') := h4
      rw [hD] at e1
      cases e1
      obtain ⟨y, h7, h8⟩ := h6.lookup h2
      cases h8
      refine ⟨l, dx, us, rfl, h5, h7, ms, ρ, S, rp, ?_⟩
      simp only [iBind] at e
      split at e
      · rename_i xs S1 h1'
        refine ⟨_, h1', fun vs H1 m1 s1 r1 ra => sp_call (Ω := om X C) (by rw [ha.len _ _ _ _ h1', hn]) r1 ra e (kk.mono s1)⟩
      · rename_i h1'
        cases e
        exact ⟨_, h1', kk⟩
      · cases e
  · cases e
end
end KW
/-! EK: a list of objects walked by a comprehension, dicts by nested tuples, try .. except -/
namespace KW
open PySem PySem.Spec L2
section
variable {X : Cx} {C : Addr} {W : WX} {a b c e o tg : Expr} {es rest : List Expr} {F F' Fo : IE} {T U : IX Bool} {A : IX (List IV)} {pos apos p p2 rp : Pos} {f : DE} {Ω : Wd} {x : Str} {k k' n : Nat} {Fn : List IV → HS → Option (Io IV)} {vs : List Nat} {g : IG} {st f₀ : Stmt} {sts fs : List Stmt} {u v : IB} {scope : Scope} {own : List (Str × Nat)} {elt iter : Expr}
@[simp] def lstOf (S : HS) : IV → Option (List IV)
  | .obj i => (match S[i]? with
    | some (.lst xs) => some xs
    | _ => none)
  | _ => none
@[simp] def iObjI (F : IE) : IX (List IV) := iBind F fun x => fun _ S => match lstOf S x with
  | some xs => some (.ok xs S)
  | none => none
theorem walk_listO {K : PySem.W.Frag} {a : Addr} {n : Nat} : Walk (Itl K a) n (fun H => ∃ xs, SqL K H a xs ∧ xs.length = n) (fun i H x H' => H' = H ∧ ∀ xs, SqL K H a xs → xs[i]? = some x) :=
  ⟨fun i _ hi ⟨xs, q, e⟩ => ⟨xs, xs[i], q, by simp [e, hi]⟩, fun _ ⟨xs, q, e⟩ => ⟨xs, q, by omega⟩, fun _ _ _ _ _ _ y => y⟩
/-- [e for x in xs] of a list of objects: e looks alone -/
theorem ji_lcO {sc : Scope} (own : List (Str × Nat)) (j : Nat) (hi : JE X C W iter F') (ok : BlkOk X.N X.env.scope scope own) (hv : j ∈ own.map (·.2)) (hN : X.N.Nodup)
    (hg : ∀ (s : Shared) (H : Hp) (Ca : Addr) (cl : List (Str × Addr)) (fp : List Addr), PG (X.blk s H scope (compEnvC scope cl Ca X.env) fp) tg (tIG (om X C) [j] (gIN j)))
    (he : ∀ (s : Shared) (H : Hp) (Ca : Addr) (cl : List (Str × Addr)) (fp : List Addr), PE (X.blk s H scope (compEnvC scope cl Ca X.env) fp) elt (tI (om X C) WN F)) (hpure : ∀ ρ S r, F ρ S = some r → ∃ x, r = .ok x S) (hc : X.calm = true := by rfl) (hs : ∀ x, foldedSetIterable iter X.env x = pure x := by intro _; rfl) :
    JE X C W (.ListComp elt [⟨tg, iter, [], 0⟩] scope pos) (iLc (own.map (·.2)) (iObjI F') (gIN j) F) := by
  refine PE.imp (pe_lc (own := own) (te := tI (om X C) WN F) (g := tIG (om X C) [j] (gIN j)) hc hN (pi_list hi) ok hg (fun _ _ _ _ _ => pts_nil) he hs) fun σ H Q ⟨m, ρ, S, rp, r, e, kk⟩ => ?_
  unfold iLc at e
  split at e
  · rename_i xs S1 h1
    simp only [iObjI, iBind] at h1
    split at h1
    · rename_i x S1' h0
      split at h1
      · rename_i xs' h00
        cases h1
        refine ⟨m, ρ, S, rp, _, h0, fun v H1 m1 s1 r1 rx => ?_⟩
        cases x with
        | dat d => cases h00
        | val u => cases h00
        | obj i =>
          simp only [lstOf] at h00
          split at h00
          · rename_i xs'' hS
            cases h00
            obtain ⟨l, hl, rfl⟩ := rx
            obtain ⟨us0, hu0, hr0⟩ := r1.has hS hl
            refine ⟨l, rfl, ⟨us0, SqL.of hu0⟩, fun D hD => ?_⟩
            split at e
            · rename_i Sf h2
              cases e
              have hiS : i < S1.length := (List.getElem?_eq_some_iff.mp hS).1
              have sl := same_upd (q := .lst []) hD
              have st0 : Step H1 m1 (upd H1 D (.lst [])) (m1 ++ [D]) := .lay sl hD
              have r0 : HRep (om X C) (upd H1 D (.lst [])) (m1 ++ [D]) (S1 ++ [.lst []]) := r1.lay sl hD (o := .lst []) ⟨[], upd_same, .nil⟩
              have hk1 : (m1 ++ [D])[S1.length]? = some D := by rw [← r1.len]; simp
              refine lc_it (walk_listO (n := xs.length)) (fun t H' => ∃ m' S', Step (upd H1 D (.lst [])) (m1 ++ [D]) H' m' ∧ HRep (om X C) H' m' S' ∧ S'[i]? = some (.lst xs) ∧ dLc (gIN j) F S1.length (wipeI ρ (own.map (·.2))) (xs.drop t) S' = some Sf) ?_ ?_ ?_ ?_
              · exact ⟨m1 ++ [D], S1 ++ [Ob.lst []], .refl _ _, r0, by rw [List.getElem?_append_left hiS]; exact hS, by rw [List.drop_zero]; exact h2⟩
              · rintro t H' ht ⟨m', S', s', r', hS', _⟩
                obtain ⟨us, hu, hr⟩ := r'.has hS' ((st0.trans s').get hl)
                exact ⟨us, SqL.of hu, hr.len.symm⟩
              · rintro t x H' H'' ht ⟨m', S', s', r', hS', e'⟩ ⟨rfl, hy⟩
                have hx : xs[t]? = some xs[t] := List.getElem?_eq_getElem ht
                obtain ⟨us, hu, hr⟩ := r'.has hS' ((st0.trans s').get hl)
                obtain ⟨w, hw, rw_⟩ := hr.get hx
                have hww := hy us (SqL.of hu)
                rw [hw] at hww
                cases hww
                rw [List.drop_eq_getElem_cons ht] at e'
                unfold dLc at e'
                simp only [gIN] at e'
                have sall : Step H m H'' m' := (s1.trans st0).trans s'
                refine ⟨m', wipeI ρ (own.map (·.2)), S', xs[t], _, S', (rp.step sall r').wipe _, rw_, rfl, fun σ3 H3 m3 s3 r3 o3 => ⟨?_, ?_⟩⟩
                · have := (o3.mono (ws := own.map (·.2)) (fun q hq => by rw [List.mem_singleton.mp hq]; exact hv)).wipe
                  rw [wipe_wipe] at this
                  exact this
                · unfold tYes
                  apply iteT
                  split at e'
                  · rename_i z S3 h4
                    refine ⟨m3, _, S', r3, _, h4, fun y H4 m4 s4 r4 ry => ?_⟩
                    obtain ⟨x', hx'⟩ := hpure _ _ _ h4
                    cases hx'
                    split at e'
                    · rename_i acc h5
                      split at e'
                      · rename_i hz
                        have hkm : m4[S1.length]? = some D := s4.get (s3.get (s'.get hk1))
                        obtain ⟨us', h6, h7⟩ := r4.has h5 hkm
                        have st5 : Step H4 m4 (upd H4 D (.lst (us' ++ [y]))) m4 := .upd hkm
                        exact ⟨us', h6, by rw [← h7.len, sizeLine_eq]; omega, m4, _, ((s'.trans s3).trans s4).trans st5, r4.set hkm (o := .lst (acc ++ [z])) ⟨_, upd_same, (h7.append (.one ry)).step r4.noTup st5⟩, by rw [List.getElem?_set_ne (by omega)]; exact hS', e'⟩
                      · cases e'
                    · cases e'
                  · cases e'
              · rintro H' ⟨m', S', s', r', hS', e'⟩
                rw [List.drop_length] at e'
                cases e'
                exact kk _ H' m' ((s1.trans st0).trans s') r' ⟨D, s'.get hk1, rfl⟩
            · cases e
          · cases h00
      · cases h1
    · cases h1
    · cases h1
  · rename_i S1 h1
    cases e
    simp only [iObjI, iBind] at h1
    split at h1
    · split at h1 <;> cases h1
    · rename_i h0
      cases h1
      exact ⟨m, ρ, S, rp, _, h0, kk⟩
    · cases h1
  · cases e
/-! ### try .. except X -/
@[simp] def bTry (u v : IB) : IB := fun ρ S => match u ρ S with
  | some (.ex ρ' S') => (match v ρ' S' with
    | some (.nx ρ2 S2) => some (.nx ρ2 S2)
    | some (.rt x S2) => some (.rt x S2)
    | _ => none)
  | some (.nx ρ' S') => some (.nx ρ' S')
  | some (.rt x S') => some (.rt x S')
  | none => none
theorem js_try {cn : Str} {np pos' : Pos} {body suite : List Stmt} {b₀ : Stmt} (hs : X.stack = X.env :: X.outer) (hf : X.env.frame = some X.env.locals) (hc : Names X cn (.ref C)) (tk : Takes X W) (hx : PySem.W.exmOne X.K (.ref C) (.ref C) = some true)
    (hb : ∀ (W' : WX) (pn : List (Addr × Obj)) (xe : Value → Shared → Prop), Takes (X.tr pn xe) W' → PSs (X.tr pn xe) body (tIS (om X C) W' u))
    (hsu : ∀ (a : Addr) (oe : Obj) (cls : Value) (d : Option Addr) (pn : List (Addr × Obj)), PSs (X.suite a ((a, oe) :: pn)) (b₀ :: suite) (tIS (om X C) WN v)) :
    JS X C W (.Try body [.ExceptHandler (some (.Name cn np)) none (b₀ :: suite) pos'] [] [] pos) (bTry u v) :=
  PS.imp (ps_try_only (tb := fun W' => tIS (om X C) W' u) (ts := fun _ _ _ => tIS (om X C) WN v) (Wout := W) hs hf hc tk (fun W' pn xe t _ => hb W' pn xe t) (fun a oe cls d pn _ _ => hsu a oe cls d pn)) fun D σ H ⟨m, ρ, S, q, rp, e, kk⟩ => by
    unfold bTry at e
    split at e
    · rename_i ρ' S' h1
      refine ⟨m, ρ, S, _, rp, h1, fun σ' H' m' s' r' => ⟨true, hx, fun _ a ha => ?_, fun z => nomatch z⟩⟩
      split at e
      · rename_i ρ2 S2 h2
        cases e
        exact ⟨m', ρ', S', _, r', h2, fun σ2 H2 m2 s2 r2 => kk σ2 H2 m2 (s'.trans s2) r2⟩
      · rename_i x S2 h2
        cases e
        exact ⟨m', ρ', S', _, r', h2, fun v H2 m2 s2 r2 rx => kk v H2 m2 (s'.trans s2) r2 rx⟩
      · cases e
    · rename_i h1
      cases e
      exact ⟨m, ρ, S, _, rp, h1, kk⟩
    · rename_i h1
      cases e
      exact ⟨m, ρ, S, _, rp, h1, kk⟩
    · cases e
/-! ### dicts by nested tuples -/
theorem RepKs.len {K : PySem.W.Frag} {H : Hp} : ∀ {ds : List PyData} {xs : List (NestedKey × Addr × Value)}, RepKs K H ds xs → ds.length = xs.length
  | _, _, .nil => rfl
  | _, _, .cons _ _ _ t => by simp [RepKs.len t]
theorem RepKs.keys {K : PySem.W.Frag} {H : Hp} : ∀ {ds : List PyData} {xs : List (NestedKey × Addr × Value)}, RepKs K H ds xs → xs.map (·.1) = ds.map kOf
  | _, _, .nil => rfl
  | _, _, .cons _ _ _ t => by simp [RepKs.keys t]
mutual
/-- no deeper than that -/
@[simp] def deepD : Nat → PyData → Bool
  | _, .none => true
  | _, .bool _ => true
  | _, .int _ => true
  | _, .str _ => true
  | 0, .tuple _ => false
  | n + 1, .tuple ds => deepDs n ds
  | _, .list _ => false
  | _, .dict _ => false
@[simp] def deepDs : Nat → List PyData → Bool
  | _, [] => true
  | n, d :: ds => deepD n d && deepDs n ds
end
end
end KW
/-! EL: dicts by nested tuples -/
namespace KW
open PySem PySem.Spec L2
mutual
theorem depth_kOf : ∀ (n : Nat) (d : PyData), deepD n d = true → (kOf d).depth ≤ n
  | _, .none, _ => Nat.zero_le _
  | _, .bool _, _ => Nat.zero_le _
  | _, .int _, _ => Nat.zero_le _
  | _, .str _, _ => Nat.zero_le _
  | 0, .tuple _, h => by simp [deepD] at h
  | n + 1, .tuple ds, h => by
    have := depth_kOfs n ds (by simpa [deepD] using h)
    show NestedKey.depthAll (kOfs ds) + 1 ≤ n + 1
    omega
  | _, .list _, h => by simp [deepD] at h
  | _, .dict _, h => by simp [deepD] at h
theorem depth_kOfs : ∀ (n : Nat) (ds : List PyData), deepDs n ds = true → NestedKey.depthAll (kOfs ds) ≤ n
  | _, [], _ => Nat.zero_le _
  | n, d :: ds, h => by
    have h' : deepD n d = true ∧ deepDs n ds = true := by simpa [deepDs] using h
    have h1 := depth_kOf n d h'.1
    have h2 := depth_kOfs n ds h'.2
    show max (kOf d).depth (NestedKey.depthAll (kOfs ds)) ≤ n
    omega
end
/-- the tuples stay -/
def TupKeep (H H' : Hp) : Prop := ∀ b o, H b = some o → ((∃ xs, o = .tup xs) ∨ ∃ ob xs, o = .frz ob (.tup xs)) → H' b = some o
section
variable {Ω : Wd} {K : PySem.W.Frag} {H H' : Hp} {m m' : List Addr}
theorem SqT.tk (t : TupKeep H H') {a : Addr} {xs : List V} (h : SqT K H a xs) : SqT K H' a xs := by
  rcases h with (h | ⟨o, h⟩) | h
  · exact .inl (.inl (t _ _ h (.inl ⟨_, rfl⟩)))
  · exact .inl (.inr ⟨o, t _ _ h (.inr ⟨_, _, rfl⟩)⟩)
  · exact .inr h
mutual
theorem Dp.tk (t : TupKeep H H') : ∀ (d : PyData) (v : V), noList d = true → Dp K H v d → Dp K H' v d
  | .none, _, _, h => by cases h; exact .non
  | .bool _, _, _, h => by cases h; exact .bl _
  | .int _, _, _, h => by cases h; exact .int _
  | .str _, _, _, h => by cases h; exact .str _
  | .list ds, _, e, h => by simp [noList] at e
  | .tuple ds, _, e, h => by
    cases h with
    | tup hs ha => exact .tup (SqT.tk t hs) (DpAll.tk t ds _ (by simpa [noList] using e) ha)
  | .dict _, _, _, h => by cases h
theorem DpAll.tk (t : TupKeep H H') : ∀ (ds : List PyData) (vs : List V), noLists ds = true → DpAll K H vs ds → DpAll K H' vs ds
  | [], _, _, h => by cases h; exact .nil
  | d :: ds, _, e, h => by
    have e' : noList d = true ∧ noLists ds = true := by simpa [noLists] using e
    cases h with
    | cons h1 h2 => exact .cons (Dp.tk t d _ e'.1 h1) (DpAll.tk t ds _ e'.2 h2)
end
theorem RepIV.tk (t : TupKeep H H') (pre : ∃ t, m' = m ++ t) : ∀ {x : IV} {v : V}, RepIV K H m x v → RepIV K H' m' x v
  | .dat d, v, h => ⟨Dp.tk t d v h.2 h.1, h.2⟩
  | .obj i, v, ⟨a, h, e⟩ => by
    obtain ⟨t, rfl⟩ := pre
    exact ⟨a, by rw [List.getElem?_append_left (List.getElem?_eq_some_iff.mp h).1]; exact h, e⟩
  | .val _, _, h => h
theorem RepAll.tk (t : TupKeep H H') (pre : ∃ t, m' = m ++ t) : ∀ {xs : List IV} {vs : List V}, RepAll K H m xs vs → RepAll K H' m' xs vs
  | _, _, .nil => .nil
  | _, _, .cons h r => .cons (h.tk t pre) (RepAll.tk t pre r)
theorem RepFs.tk (t : TupKeep H H') (pre : ∃ t, m' = m ++ t) : ∀ {xs : List (Str × IV)} {vs : List (Str × V)}, RepFs K H m xs vs → RepFs K H' m' xs vs
  | _, _, .nil => .nil
  | _, _, .cons h r => .cons (h.tk t pre) (RepFs.tk t pre r)
theorem RepKs.tk (t : TupKeep H H') : ∀ {ds : List PyData} {xs : List (NestedKey × Addr × Value)}, RepKs K H ds xs → RepKs K H' ds xs
  | _, _, .nil => .nil
  | _, _, .cons h e q r => .cons (Dp.tk t _ _ e h) e q (RepKs.tk t r)
theorem ObRep.tk (t : TupKeep H H') (pre : ∃ t, m' = m ++ t) {a : Addr} (ha : H' a = H a) : ∀ {o : Ob}, ObRep Ω H m a o → ObRep Ω H' m' a o
  | .lst xs, ⟨vs, e, r⟩ => ⟨vs, by rw [ha]; exact e, r.tk t pre⟩
  | .ins c fs, ⟨C, dx, gs, e1, e2, r⟩ => ⟨C, dx, gs, e1, by rw [ha]; exact e2, r.tk t pre⟩
  | .kd ks, ⟨o, es, ep, xs, e, h1, h2, h3, h4, h5, r⟩ => ⟨o, es, ep, xs, by rw [ha]; exact e, h1, h2, h3, h4, h5, r.tk t⟩
  | .scr xs, ⟨o, vs, e, r⟩ => ⟨o, vs, by rw [ha]; exact e, r.tk t pre⟩
end
section
variable {X : Cx} {pins : List (Addr × Obj)} {σ : St} {H : Hp} {s : Shared}
mutual
theorem nis (I : Inv X pins σ H s) : ∀ (d : PyData) (v : V) (u : Value), Dp X.K H v d → noList d = true → RelV v u → NestedIs s.heap (kOf d) u
  | .none, v, u, h, _, r => by cases h; cases r; exact .none
  | .bool b, v, u, h, _, r => by cases h; cases r; exact .bool rfl
  | .int i, v, u, h, _, r => by
    cases h
    obtain ⟨t, rfl⟩ := (show ∃ t, u = Value.int i t from r)
    exact .int _ _
  | .str x, v, u, h, _, r => by
    cases h
    obtain ⟨t, rfl⟩ := (show ∃ t, u = Value.str x t from r)
    exact .text _ _
  | .list ds, v, u, h, n, r => by simp [noList] at n
  | .dict ds, v, u, h, n, r => by simp [noList] at n
  | .tuple ds, v, u, h, n, r => by
    cases h with
    | tup hq ha =>
      cases r
      obtain ⟨its, rv, p, _⟩ := I.tuple hq
      obtain ⟨o, ho, hc, k, hd⟩ := id p
      refine .tup ho hc hd ?_
      rw [List.toList_toArray]
      exact niss I ds _ its ha (by simpa [noList] using n) rv
theorem niss (I : Inv X pins σ H s) : ∀ (ds : List PyData) (vs : List V) (us : List Value), DpAll X.K H vs ds → noLists ds = true → Vals vs us → NestedAll s.heap (kOfs ds) us
  | [], vs, us, h, _, r => by cases h; cases r; exact .nil
  | d :: ds, vs, us, h, n, r => by
    have n' : noList d = true ∧ noLists ds = true := by simpa [noLists] using n
    cases h with
    | cons h1 h2 =>
      cases r with
      | cons r1 r2 => exact .cons (nis I d _ _ h1 n'.1 r1) (niss I ds _ _ h2 n'.2 r2)
end
theorem ks_is (I : Inv X pins σ H s) : ∀ {ks : List PyData} {xs : List (NestedKey × Addr × Value)}, RepKs X.K H ks xs → ∀ x ∈ xs, (nestedKind X.prog X.w).is s.heap x.1 x.2.1
  | _, _, .nil, x, h => by cases h
  | _, _, .cons (d := d) (b := b) h1 h2 h3 h4, x, h => by
    rcases List.mem_cons.mp h with rfl | h
    · exact ⟨nis I d (.ref b) (.ref b) h1 h2 rfl, h3⟩
    · exact ks_is I h4 x h
end
/-- the dict at a has these keys -/
structure KdAt (P : Program) (w : World) (K : PySem.W.Frag) (H : Hp) (a : Addr) (ks : List PyData) (o : Obj) (es : Array DictEntry) (ep : Nat) (xs : List (NestedKey × Addr × Value)) : Prop where
  at_ : H a = some (.ext fun h => h.get? a = some o)
  ex : o.ExactDict
  data : o.data = .dict es ep
  ents : es.toList = xs.map (entryOfKey (nestedKind P w))
  nd : (xs.map (·.1)).Nodup
  sys : (a == sysModules) = false
  ks : RepKs K H ks xs
theorem KdAt.dict {X : Cx} {pins : List (Addr × Obj)} {σ : St} {H : Hp} {s : Shared} {a : Addr} {ks : List PyData} {o : Obj} {es : Array DictEntry} {ep : Nat} {xs : List (NestedKey × Addr × Value)} (I : Inv X pins σ H s) (k : KdAt X.prog X.w X.K H a ks o es ep xs) : s.heap.DictOfH (nestedKind X.prog X.w) a xs := by
  obtain ⟨h1, _⟩ := (show ObjOk X.prog X.w H s.heap a (.ext fun h => h.get? a = some o) from I.hok a _ k.at_)
  exact ⟨o, es, ep, h1, k.ex, k.data, k.ents, ks_is I k.ks, k.nd⟩
theorem atKey_mem {xs : List (NestedKey × Addr × Value)} {k : NestedKey} : (atKey xs k).isSome = decide (k ∈ xs.map (·.1)) := by
  unfold atKey
  rw [Option.isSome_map, Bool.eq_iff_iff, List.find?_isSome]
  simp only [decide_eq_true_eq, List.mem_map]
section
variable {X : Cx} {C : Addr} {W : WX} {a b c e o tg kx vx : Expr} {es rest : List Expr} {F F' Fo : IE} {pos apos p p2 rp : Pos} {Ω : Wd}
def rNotInKd (P : Program) (w : World) (K : PySem.W.Frag) : R2 := fun x y H Q => ∃ a b d ks o es ep xs, x = .ref b ∧ y = .ref a ∧ KdAt P w K H a ks o es ep xs ∧ Dp K H (.ref b) d ∧ noList d = true ∧ (kOf d).depth ≤ 8 ∧ Q (.bl (!decide (kOf d ∈ ks.map kOf))) H
theorem op_notInKd (hu : X.A.units + 64 < cLine) : OpR X (compareOp .NotIn) (rNotInKd X.prog X.w X.K) := by
  intro pins s σ H x y v u Q I rx ry ⟨a, b, d, ks, o, es, ep, xs, h1, h2, k, hd, n, dp, q⟩
  subst h1; subst h2
  obtain rfl : v = Value.ref b := rx
  obtain rfl : u = Value.ref a := ry
  refine notIn_keyed (knd := nestedKind X.prog X.w) (kvs := pairsH xs) (k := kOf d) (show X.A.in1.units + 8 < cLine by show X.A.units + 1 + 8 < cLine; omega) ⟨nis I d (.ref b) (.ref b) hd n rfl, dp⟩ k.sys ⟨xs, k.dict I, rfl⟩ ?_
  refine ⟨.bl _, H, I.tok _, ?_, q⟩
  rw [valueAt_pairsH, Option.isSome_map, atKey_mem, k.ks.keys]
  rfl
@[simp] def isTupD : PyData → Bool
  | .tuple _ => true
  | _ => false
@[simp] def notInGo (x y : IV) : IX Bool := fun _ S => match x, y with
  | .dat d, .obj i => (match S[i]? with
    | some (.kd ks) => if (isTupD d && deepD 8 d) = true then some (.ok (!decide (kOf d ∈ ks.map kOf)) S) else none
    | _ => none)
  | _, _ => none
theorem isTupD_ref {K : PySem.W.Frag} {H : Hp} {v : V} {d : PyData} (h : Dp K H v d) (t : isTupD d = true) : ∃ b, v = .ref b := by
  cases h with
  | tup _ _ => exact ⟨_, rfl⟩
  | _ => cases t
theorem notInGo_ok : RI Ω W RB (fun x y H Q => rNotInKd Ω.P Ω.w Ω.K x y H fun z H' => ∃ k, z = .bl k ∧ Q k H') notInGo := by
  intro x y v u σ H m ρ S Q hx hy ⟨rp, r', e, k⟩
  unfold notInGo at e
  split at e
  · rename_i d i
    split at e
    · rename_i ks h1
      split at e
      · rename_i hg
        cases e
        rw [Bool.and_eq_true] at hg
        obtain ⟨h2, n⟩ := hx
        obtain ⟨bb, rfl⟩ := isTupD_ref h2 hg.1
        obtain ⟨l, h3, rfl⟩ := hy
        obtain ⟨o, es, ep, xs, q1, q2, q3, q4, q5, q6, q7⟩ := rp.hr.has h1 h3
        exact ⟨l, bb, d, ks, o, es, ep, xs, rfl, rfl, ⟨q1, q2, q3, q4, q5, q6, q7⟩, h2, n, depth_kOf 8 d hg.2, _, rfl, k _ H m (.refl _ _) rp.hr rfl⟩
      · cases e
    · cases e
  · cases e
theorem jt_notInKd (hu : X.A.units + 64 < cLine) (ha : JE X C W a F) (hb : JE X C W b F') (hm : behindInMarks .NotIn b = false := by first | rfl | with_unfolding_all rfl) : JT X C W (.Compare a [.NotIn] [b] pos) (iTwo notInGo F F') := jt_cmp2 (op_notInKd hu) notInGo_ok ha hb hm
/-! d[k] = v of a new key -/
theorem RepKs.snoc {K : PySem.W.Frag} {H : Hp} {d : PyData} {b : Addr} {u : Value} (h1 : Dp K H (.ref b) d) (h2 : noList d = true) (h3 : (kOf d).depth ≤ 8) : ∀ {ks : List PyData} {xs : List (NestedKey × Addr × Value)}, RepKs K H ks xs → RepKs K H (ks ++ [d]) (xs ++ [(kOf d, b, u)])
  | _, _, .nil => .cons h1 h2 h3 .nil
  | _, _, .cons a b c t => .cons a b c (RepKs.snoc h1 h2 h3 t)
def rSetKd (P : Program) (w : World) (K : PySem.W.Frag) : TSet := fun oo i v H Q => ∃ a b d ks o es ep xs, oo = .ref a ∧ i = .ref b ∧ KdAt P w K H a ks o es ep xs ∧ Dp K H (.ref b) d ∧ noList d = true ∧ (kOf d).depth ≤ 8 ∧ kOf d ∉ ks.map kOf ∧ ks.length < 10000 ∧
  ∀ o' es' ep' u, o'.ExactDict → o'.data = .dict es' ep' → es'.toList = (xs ++ [(kOf d, b, u)]).map (entryOfKey (nestedKind P w)) → ((xs ++ [(kOf d, b, u)]).map (·.1)).Nodup → Q (upd H a (.ext fun h => h.get? a = some o'))
theorem set_kd (hu : X.A.units + 64 < cLine) : PSet X (rSetKd X.prog X.w X.K) := by
  intro pins s σ H oo i v ov iv u Q I ro ri rv ⟨a, b, d, ks, o, es, ep, xs, h1, h2, k, hd, n, dp, hk, hz, q⟩
  subst h1; subst h2
  obtain rfl : ov = Value.ref a := ro
  obtain rfl : iv = Value.ref b := ri
  have hnone : atKey xs (kOf d) = none := by
    have := atKey_mem (xs := xs) (k := kOf d)
    rw [k.ks.keys, decide_eq_false hk] at this
    exact Option.not_isSome_iff_eq_none.mp (by rw [this]; simp)
  refine wpAny_setItem_heap (knd := nestedKind X.prog X.w) (k := kOf d) (show X.A.in1.units + 8 < cLine by show X.A.units + 1 + 8 < cLine; omega) ⟨nis I d (.ref b) (.ref b) hd n rfl, dp⟩ (k.dict I) (fun h' hm' hs => ?_) (by rw [← k.ks.len, sizeLine_eq]; omega)
  rw [storedH_new hnone] at hm'
  obtain ⟨o', es', ep', g1, g2, g3, g4, g5, g6⟩ := hm'
  refine ⟨_, ?_, q o' es' ep' u g2 g3 g4 g6⟩
  exact d_write I (by rw [k.at_]; exact True.intro) hs ⟨o', g1⟩ ⟨g1, ⟨o', g1⟩, fun h1 h2 e1 e2 => e2 _ e1⟩
@[simp] def putKd (oo j : IV) (S : HS) : Option HS := match oo, j with
  | .obj n, .dat d => (match S[n]? with
    | some (.kd ks) => if (isTupD d && deepD 8 d && !decide (kOf d ∈ ks.map kOf) && decide (ks.length < 10000)) = true then some (S.set n (.kd (ks ++ [d]))) else none
    | _ => none)
  | _, _ => none
@[simp] def gIK (F F' : IE) : IG := fun _ ρ S => match F ρ S with
  | some (.ok o S1) => (match F' ρ S1 with
    | some (.ok j S2) => (putKd o j S2).map fun S' => (ρ, S')
    | _ => none)
  | _ => none
theorem jg_kd (hu : X.A.units + 64 < cLine) (ha : JE X C (fun _ _ _ _ => False) a F) (hb : JE X C (fun _ _ _ _ => False) b F') (hq : ∀ v, assign (.Subscript a b pos) X.env v = (do
      let ov ← holding [v] (eval a X.env)
      let iv ← holding [v, ov] (eval b X.env)
      standAt pos
      holding [v, ov, iv] (setItem ov iv v)
      release [v, ov, iv] []) := by intro _; rfl) : JG X C [] (.Subscript a b pos) (gIK F F') :=
  PG.imp (pg_sub ha hb (set_kd hu) hq) fun v σ H Q ⟨m, ρ, S, x, ρ', S', rp, rx, e, k⟩ => by
    unfold gIK at e
    split at e
    · rename_i o S1 h1
      split at e
      · rename_i j S2 h2
        obtain ⟨S3, h3, h4⟩ := Option.map_eq_some_iff.mp e
        cases h4
        refine ⟨m, ρ, S, rp, _, h1, fun w H1 m1 s1 r1 ro => ⟨m1, ρ, S1, rp.step s1 r1, _, h2, fun z H2 m2 s2 r2 rj => ?_⟩⟩
        have ro' := RepIV.step r1.noTup s2 ro
        unfold putKd at h3
        split at h3
        · rename_i n d
          split at h3
          · rename_i ks h5
            split at h3
            · rename_i hg
              cases h3
              simp only [Bool.and_eq_true, Bool.not_eq_true', decide_eq_false_iff_not, decide_eq_true_eq] at hg
              obtain ⟨⟨⟨g1, g2⟩, g3⟩, g4⟩ := hg
              obtain ⟨dd, nn⟩ := rj
              obtain ⟨bb, rfl⟩ := isTupD_ref dd g1
              obtain ⟨l, h6, rfl⟩ := ro'
              obtain ⟨o, es, ep, xs, q1, q2, q3, q4, q5, q6, q7⟩ := r2.has h5 h6
              refine ⟨l, bb, d, ks, o, es, ep, xs, rfl, rfl, ⟨q1, q2, q3, q4, q5, q6, q7⟩, dd, nn, depth_kOf 8 d g2, g3, g4, fun o' es' ep' u e1 e2 e3 e4 => ?_⟩
              have st : Step H2 m2 (upd H2 l (.ext fun h => h.get? l = some o')) m2 := .upd h6
              refine k _ _ m2 ((s1.trans s2).trans st) (rp.step ((s1.trans s2).trans st) (r2.set h6 (o := .kd (ks ++ [d])) ⟨o', es', ep', _, upd_same, e1, e2, e3, e4, q6, ?_⟩)) (.refl _ _)
              exact (RepKs.snoc dd nn (depth_kOf 8 d g2) q7).step r2.noTup st
            · cases h3
          · cases h3
        · cases h3
      · cases e
    · cases e
/-- {k: v}, one entry -/
@[simp] def iDict1 (F F' : IE) : IE := iBind F fun x => iBind F' fun _ => fun _ S => match x with
  | .dat d => if (isTupD d && deepD 8 d) = true then some (.ok (.obj S.length) (S ++ [.kd [d]])) else none
  | _ => none
def tDict1 (P : Program) (w : World) (K : PySem.W.Frag) (tk tv : TE) : TE := fun σ H Q => ∀ p, H p = none → (p == sysModules) = false → tk σ (upd H p (.dK [])) fun x H1 => tv σ H1 fun y H2 => ∃ b d, x = .ref b ∧ H2 p = some (.dK []) ∧ Dp K H2 (.ref b) d ∧ noList d = true ∧ (kOf d).depth ≤ 8 ∧
  ∀ o' es' ep' u, o'.ExactDict → o'.data = .dict es' ep' → es'.toList = [(kOf d, b, u)].map (entryOfKey (nestedKind P w)) → Q (.ref p) (upd H2 p (.ext fun h => h.get? p = some o'))
theorem pe_dict1 {tk tv : TE} (hu : X.A.units + 64 < cLine) (hk : PE X kx tk) (hv : PE X vx tv) : PE X (.Dict [some kx] [vx] pos) (tDict1 X.prog X.w X.K tk tv) := by
  refine ⟨fun pins s σ H Q I q => ?_⟩
  have hn := I.hok.fresh (Nat.le_refl s.heap.objs.size)
  have I1 := I.laid (a := s.heap.objs.size) (o := .dK []) (h' := s.heap.push { cls := .type "dict", data := .dict #[] }) (t' := s.toks) (fun _ _ q => Heap.get?_push_of_some _ q) (Nat.le_refl _) (dk_empty s.heap I.big)
  have hsys : (s.heap.objs.size == sysModules) = false := beq_eq_false_iff_ne.mpr (Ne.symm (Nat.ne_of_lt I.big))
  rw [arm_eval_Dict, zip_pairTrees [some kx] [vx] X.env pos rfl rfl, dictDisplay_pairs (pairTrees [some kx] [vx] X.env pos) (by intro z; cases z) (by rw [pairTrees_length _ _ _ _ rfl rfl]; show 1 < 17; decide)]
  refine wpAny_bind (wpAny_standAt (wpAny_bind (wpAny_subDictH (knd := nestedKind X.prog X.w) (Q := fun d s' => wpAny (model X.prog X.w) X.A (pure (Value.ref d)) (EP X pins σ Q) X.xe s') (show X.A.units + 8 < cLine by omega) (by rw [pairTrees_length _ _ _ _ rfl rfl]; show 1 ≤ 15; decide) ?_)))
  refine pairTrees_cons_walk (thn (hk.run pins _ σ _ _ I1 (q _ hn hsys)) fun u s1 ⟨x, H1, I1', rx, q1⟩ => thn (hv.run pins s1 σ H1 _ I1' q1) fun w2 s2 ⟨y, H2, I2, ry, b, d, ex, e, dd, n, dp, q2⟩ => pairTrees_nil_walk ?_)
  subst ex
  obtain rfl : u = Value.ref b := rx
  obtain ⟨z, hd, vs0, r0, dd0⟩ := dk_of I2.hok e
  cases r0
  have kis : (nestedKind X.prog X.w).is s2.heap (kOf d) b := ⟨nis I2 d (.ref b) (.ref b) dd n rfl, dp⟩
  refine ⟨[(kOf d, b, w2)], ⟨rfl, rfl, kis, trivial⟩, ?_, fun h' tk' dd' hs => wpAny_pure ?_⟩
  · obtain ⟨o, es, ep, g1, g2, g3, g4, g5, g6⟩ := dd0
    have : es.toList = [] := by cases hl : es.toList with
      | nil => rfl
      | cons x r => rw [hl] at g5; cases g5
    exact ⟨o, es, ep, g1, g2, g3, by rw [this]; rfl, fun x hx => by simp at hx, List.nodup_nil⟩
  · obtain ⟨o', es', ep', g1, g2, g3, g4, g5, g6⟩ := dd'
    refine ⟨.ref s.heap.objs.size, _, ?_, rfl, q2 o' es' ep' w2 g2 g3 g4⟩
    exact d_write I2 (by rw [e]; exact True.intro) hs ⟨o', g1⟩ ⟨g1, ⟨o', g1⟩, fun h1 h2 e1 e2 => e2 _ e1⟩
theorem ji_dict1 (hu : X.A.units + 64 < cLine) (hk : JE X C W kx F) (hv : JE X C W vx F') : JE X C W (.Dict [some kx] [vx] pos) (iDict1 F F') := PE.imp (pe_dict1 hu hk hv) fun σ H Q ⟨m, ρ, S, rp, r, e, kk⟩ p hp hsys => by
  have sl := same_upd (q := .dK []) hp
  simp only [iDict1, iBind] at e
  split at e
  · rename_i x S1 h1
    refine ⟨m, ρ, S, rp.step (.same sl) (rp.hr.same sl), _, h1, fun v H1 m1 s1 r1 rx => ?_⟩
    split at e
    · rename_i y S2 h2
      refine ⟨m1, ρ, S1, rp.step ((Step.same sl).trans s1) r1, _, h2, fun v2 H2 m2 s2 r2 ry => ?_⟩
      split at e
      · rename_i d
        split at e
        · rename_i hg
          cases e
          rw [Bool.and_eq_true] at hg
          have rx' := RepIV.step (x := .dat d) r1.noTup s2 rx
          obtain ⟨dd, nn⟩ := rx'
          obtain ⟨bb, rfl⟩ := isTupD_ref dd hg.1
          have hpm : p ∉ m := fun z => by
            obtain ⟨o, e1, _⟩ := rp.hr.noTup p z
            rw [hp] at e1; cases e1
          have hkeep : Step (upd H p (.dK [])) m H2 m2 := s1.trans s2
          have hp2 : H2 p = some (.dK []) := hkeep.keep p _ upd_same hpm
          have hpm2 : p ∉ m2 := fun z => by
            obtain ⟨t, e1, e2⟩ := hkeep.ext
            rw [e1] at z
            rcases List.mem_append.mp z with z | z
            · exact hpm z
            · have := e2 p z hpm
              rw [upd_same] at this
              cases this
          refine ⟨bb, d, rfl, hp2, dd, nn, depth_kOf 8 d hg.2, fun o' es' ep' u e1 e2 e3 => ?_⟩
          have tk : TupKeep H2 (upd H2 p (.ext fun h => h.get? p = some o')) := fun b o q hq => by
            have : b ≠ p := fun z => by
              rw [z, hp2] at q
              cases q
              rcases hq with ⟨_, z⟩ | ⟨_, _, z⟩ <;> cases z
            rw [upd_ne this]; exact q
          have pre : ∃ t, m2 ++ [p] = m2 ++ t := ⟨_, rfl⟩
          refine kk _ _ (m2 ++ [p]) ?_ ?_ ⟨p, by rw [← r2.len]; simp, rfl⟩
          · obtain ⟨t, e4, e5⟩ := hkeep.ext
            refine ⟨⟨t ++ [p], by rw [e4, List.append_assoc], fun x hx hm => ?_⟩, fun b o q hb => ?_⟩
            · rcases List.mem_append.mp hx with z | z
              · have h0 := e5 x z hm
                by_cases hxp : x = p
                · rw [hxp]; exact hp
                · rwa [upd_ne hxp] at h0
              · rw [List.mem_singleton.mp z]; exact hp
            · have hbp : b ≠ p := ne_of_none q hp
              rw [upd_ne hbp]
              exact hkeep.keep b o (by rw [upd_ne hbp]; exact q) hb
          · refine ⟨by simp [r2.len], ?_, fun j o q => ?_⟩
            · rw [List.nodup_append]
              exact ⟨r2.nd, by simp, fun x hx y hy => by rw [List.mem_singleton.mp hy]; exact fun z => hpm2 (by rw [← z]; exact hx)⟩
            · rcases Nat.lt_or_ge j S2.length with hl | hl
              · rw [List.getElem?_append_left hl] at q
                obtain ⟨a', h3, h4⟩ := r2.at_ j o q
                have : a' ≠ p := fun z => hpm2 (by rw [← z]; exact List.mem_of_getElem? h3)
                exact ⟨a', by rw [List.getElem?_append_left (List.getElem?_eq_some_iff.mp h3).1]; exact h3, h4.tk tk pre (upd_ne this)⟩
              · rw [List.getElem?_append_right hl] at q
                have hj : j - S2.length = 0 := by
                  cases z : j - S2.length with
                  | zero => rfl
                  | succ k => rw [z] at q; simp at q
                rw [hj] at q
                cases q
                refine ⟨p, by rw [List.getElem?_append_right (by rw [r2.len]; exact hl), r2.len, hj]; rfl, ?_⟩
                exact ⟨o', es', ep', _, upd_same, e1, e2, e3, by simp, hsys, .cons (Dp.tk tk _ _ nn dd) nn (depth_kOf 8 d hg.2) .nil⟩
        · cases e
      · cases e
    · rename_i S2 h2
      cases e
      exact ⟨m1, ρ, S1, rp.step ((Step.same sl).trans s1) r1, _, h2, fun H2 m2 s2 r2 => kk H2 m2 (((Step.same sl).trans s1).trans s2) r2⟩
    · cases e
  · rename_i S1 h1
    cases e
    exact ⟨m, ρ, S, rp.step (.same sl) (rp.hr.same sl), _, h1, fun H1 m1 s1 r1 => kk H1 m1 ((Step.same sl).trans s1) r1⟩
  · cases e
end
end KW
/-! EM: zip, enumerate, min, max, calls with defaults and keywords -/
namespace KW
open PySem PySem.Spec L2
section
variable {X : Cx} {C : Addr} {W : WX} {a b c e o tg : Expr} {es rest : List Expr} {F F' G Fo : IE} {T U : IX Bool} {A : IX (List IV)} {pos apos p p2 rp kp kp2 : Pos} {f : DE} {Ω : Wd} {x kw cl : Str} {k k' n : Nat} {Fn : List IV → HS → Option (Io IV)}
@[simp] def iZipI (F G : IE) : IX (List IV) := iBind F fun x => iBind G fun y => fun _ S => match tupsOf x, tupsOf y with
  | some ds, some es => some (.ok ((zipD ds es).map .dat) S)
  | _, _ => none
theorem noLists_zip : ∀ {ds es : List PyData}, noLists ds = true → noLists es = true → noLists (zipD ds es) = true
  | [], _, _, _ => by simp [zipD]
  | _ :: _, [], _, _ => by simp [zipD]
  | d :: ds, e :: es, h, h' => by
    have a : noList d = true ∧ noLists ds = true := by simpa [noLists] using h
    have b : noList e = true ∧ noLists es = true := by simpa [noLists] using h'
    simp [zipD, a.1, b.1, noLists_zip a.2 b.2]
theorem jii_zip {elts : List Expr} {kk : Nat} {tpos : Pos} (B : Blt X.mg) (ha : JE X C W a F) (hb : JE X C W b G) (hg : Gl X "zip" := by rfl) (hs : starEach [a, b] X.env = (false, eval a X.env) :: starEach [b] X.env := by rfl) (hs2 : starEach [b] X.env = (false, eval b X.env) :: starEach [] X.env := by rfl) :
    JI X C W (.Tuple elts kk tpos) (.Call (.Name "zip" p) [a, b] [] pos) (iZipI F G) := by
  refine ⟨_, RZ.pi_zipA hg B.zip (pa_cons ha (pa_cons hb pa_nil hs2) hs) hs (by rw [hs2]; rfl), fun m ρ S σ H R r rp q kk => ?_⟩
  simp only [iZipI, iBind] at q
  split at q
  · rename_i x S1 h1
    refine ⟨m, ρ, S, rp, _, h1, fun v H1 m1 s1 r1 rx => ?_⟩
    split at q
    · rename_i y S2 h2
      refine ⟨m1, ρ, S1, rp.step s1 r1, _, h2, fun v2 H2 m2 s2 r2 ry => ?_⟩
      split at q
      · rename_i ds es h3 h4
        cases q
        have rx' := RepIV.step r1.noTup s2 rx
        rw [tupsOf_some h3] at rx'
        rw [tupsOf_some h4] at ry
        obtain ⟨d1, n1⟩ := rx'
        obtain ⟨d2, n2⟩ := ry
        have n1' : noLists ds = true := by simpa [noList] using n1
        have n2' : noLists es = true := by simpa [noList] using n2
        cases d1 with
        | @tup a xs _ hq ha =>
          cases d2 with
          | @tup b ys _ hq2 hb =>
            refine ⟨a, b, xs, ys, rfl, .inr ⟨hq, hq2, kk _ H2 m2 (s1.trans s2) r2 ⟨_, _, walk_zipT (xs := xs) (ys := ys) (by rw [List.length_map, zipD_len, ha.len, hb.len]), fun H' m' s' => ⟨SqT.step r2.noTup s' hq, SqT.step r2.noTup s' hq2⟩, ?_⟩⟩⟩
            rintro i H' m' x H'' z hz s' ⟨T, y, w, rfl, hT, rfl, hy, hw⟩
            rw [List.getElem?_map] at hz
            obtain ⟨d, hd, rfl⟩ := Option.map_eq_some_iff.mp hz
            obtain ⟨e1, e2, h5, h6, rfl⟩ := zipD_get hd
            obtain ⟨e1', h7, dd1⟩ := ha.getV hy
            obtain ⟨e2', h8, dd2⟩ := hb.getV hw
            rw [h5] at h7; cases h7
            rw [h6] at h8; cases h8
            have s := same_upd (q := .tup [y, w]) hT
            have k1 := Dp.step r2.noTup s' _ _ (noLists_get n1' h5) dd1
            have k2 := Dp.step r2.noTup s' _ _ (noLists_get n2' h6) dd2
            exact ⟨s, .tup (SqT.of upd_same) (.cons (Dp.mono s _ _ k1) (.cons (Dp.mono s _ _ k2) .nil)), by simp [noLists_get n1' h5, noLists_get n2' h6]⟩
      · cases q
    · rename_i h2
      cases q
      exact ⟨m1, ρ, S1, rp.step s1 r1, _, h2, fun H2 m2 s2 r2 => kk H2 m2 (s1.trans s2) r2⟩
    · cases q
  · rename_i h1
    cases q
    exact ⟨m, ρ, S, rp, _, h1, kk⟩
  · cases q
@[simp] def iEnumI (F : IE) : IX (List IV) := iBind F fun x => fun _ S => match tupsOf x with
  | some ds => some (.ok ((enumD 0 ds).map .dat) S)
  | none => none
theorem jii_enum {elts : List Expr} {kk : Nat} {tpos : Pos} (B : Blt X.mg) (ha : JE X C W a F) (hg : Gl X "enumerate" := by rfl) (hs : starEach [a] X.env = (false, eval a X.env) :: starEach [] X.env := by rfl) :
    JI X C W (.Tuple elts kk tpos) (.Call (.Name "enumerate" p) [a] [] pos) (iEnumI F) := by
  refine ⟨_, pi_enumT hg B.enumerate (pa_cons ha pa_nil hs) hs, fun m ρ S σ H R r rp q kk => ?_⟩
  simp only [iEnumI, iBind] at q
  split at q
  · rename_i x S1 h1
    refine ⟨m, ρ, S, rp, _, h1, fun v H1 m1 s1 r1 rx => ?_⟩
    split at q
    · rename_i ds h3
      cases q
      rw [tupsOf_some h3] at rx
      obtain ⟨d1, n1⟩ := rx
      have n1' : noLists ds = true := by simpa [noList] using n1
      cases d1 with
      | @tup a xs _ hq ha =>
        refine ⟨a, xs, rfl, hq, kk _ H1 m1 s1 r1 ⟨_, YPair (fun i => some (.int (i : Nat))) (fun i => xs[i]?), ?_, fun H' m' s' => SqT.step r1.noTup s' hq, ?_⟩⟩
        · have w := walk_enumT (K := X.K) (a := a) (xs := xs)
          rw [ha.len] at w
          rw [List.length_map, enumD_len]
          exact w
        · rintro i H' m' x H'' z hz s' ⟨T, y, w, rfl, hT, rfl, hy, hw⟩
          rw [List.getElem?_map] at hz
          obtain ⟨d, hd, rfl⟩ := Option.map_eq_some_iff.mp hz
          obtain ⟨e1, h5, rfl⟩ := enumD_get hd
          obtain ⟨e1', h7, dd1⟩ := ha.getV hw
          rw [h5] at h7; cases h7
          cases hy
          have s := same_upd (q := .tup [.int (i : Nat), w]) hT
          have k1 := Dp.step r1.noTup s' _ _ (noLists_get n1' h5) dd1
          refine ⟨s, ?_, by simp [noLists_get n1' h5]⟩
          rw [Nat.zero_add]
          exact .tup (SqT.of upd_same) (.cons (.int _) (.cons (Dp.mono s _ _ k1) .nil))
    · cases q
  · rename_i h1
    cases q
    exact ⟨m, ρ, S, rp, _, h1, kk⟩
  · cases q
/-! ### min, max -/
theorem two_args {r : List V → Hp → VK → Prop} {Go : IV → IV → IE} (hr : RI Ω W (RV Ω) (fun x y H Q => r [x, y] H Q) Go) {σ : St} {H : Hp} {Q : VK} (h : tI Ω W (iTwo Go F G) σ H Q) : tCB r (tCons (tI Ω W F) (tCons (tI Ω W G) tNil)) σ H Q :=
  iTwo_ok hr h
@[simp] def fnGo (fn : Int → Int → Int) (x y : IV) : IE := fun _ S => match x, y with
  | .dat (.int i), .dat (.int j) => some (.ok (.dat (.int (fn i j))) S)
  | _, _ => none
theorem fnGo_ok {fn : Int → Int → Int} : RI Ω W (RV Ω) (fun x y H Q => ∃ i j, x = .int i ∧ y = .int j ∧ Q (.int (fn i j)) H) (fnGo fn) := by
  intro x y v u σ H m ρ S Q hx hy ⟨rp, r', e, k⟩
  unfold fnGo at e
  split at e
  · cases e
    obtain ⟨hx, _⟩ := hx
    obtain ⟨hy, _⟩ := hy
    cases hx; cases hy
    exact ⟨_, _, rfl, rfl, k _ H m (.refl _ _) rp.hr ⟨.int _, rfl⟩⟩
  · cases e
abbrev iMin (F G : IE) : IE := iTwo (fnGo fun i j => if j < i then j else i) F G
abbrev iMax (F G : IE) : IE := iTwo (fnGo fun i j => if j > i then j else i) F G
theorem ji_min (B : Blt X.mg) (ha : JE X C W a F) (hb : JE X C W b G) (hc : X.calm = true := by rfl) (hg : Gl X "min" := by rfl) (hs : starEach [a, b] X.env = (false, eval a X.env) :: starEach [b] X.env := by rfl) (hs2 : starEach [b] X.env = (false, eval b X.env) :: starEach [] X.env := by rfl) :
    JE X C W (.Call (.Name "min" p) [a, b] [] pos) (iMin F G) :=
  (pe_callB (call_min2 hc) hg B.min (by decide +kernel) (pa_cons ha (pa_cons hb pa_nil hs2) hs) (he := hs) (hpl := by rw [hs2]; rfl)).imp fun σ H Q h => two_args (fun x y v u σ H m ρ S Q hx hy a => by
    obtain ⟨i, j, rfl, rfl, q⟩ := fnGo_ok x y v u σ H m ρ S Q hx hy a
    exact ⟨i, j, rfl, q⟩) h
theorem ji_max (B : Blt X.mg) (ha : JE X C W a F) (hb : JE X C W b G) (hc : X.calm = true := by rfl) (hg : Gl X "max" := by rfl) (hs : starEach [a, b] X.env = (false, eval a X.env) :: starEach [b] X.env := by rfl) (hs2 : starEach [b] X.env = (false, eval b X.env) :: starEach [] X.env := by rfl) :
    JE X C W (.Call (.Name "max" p) [a, b] [] pos) (iMax F G) :=
  (pe_callB (call_max2 hc) hg B.max (by decide +kernel) (pa_cons ha (pa_cons hb pa_nil hs2) hs) (he := hs) (hpl := by rw [hs2]; rfl)).imp fun σ H Q h => two_args (fun x y v u σ H m ρ S Q hx hy a => by
    obtain ⟨i, j, rfl, rfl, q⟩ := fnGo_ok x y v u σ H m ρ S Q hx hy a
    exact ⟨i, j, rfl, q⟩) h
/-! range(a, b) -/
@[simp] def iRngI2 (F G : IE) : IX (List IV) := iBind F fun x => iBind G fun y => fun _ S => match x, y with
  | .dat (.int i), .dat (.int j) => if (-(2 ^ 62) ≤ i ∧ i < 2 ^ 62) ∧ -(2 ^ 62) ≤ j ∧ j < 2 ^ 62 then some (.ok (rangeI i (j - i).toNat) S) else none
  | _, _ => none
theorem jii_range2 (B : Blt X.mg) (ha : JE X C W a F) (hb : JE X C W b G) (hg : Gl X "range" := by rfl) (hs : starEach [a, b] X.env = [(false, eval a X.env), (false, eval b X.env)] := by rfl) (hs2 : starEach [b] X.env = [(false, eval b X.env)] := by rfl)
    (hs3 : starEach [a, b] X.env = (false, eval a X.env) :: starEach [b] X.env := by rfl) (hs4 : starEach [b] X.env = (false, eval b X.env) :: starEach [] X.env := by rfl) : JI X C W tg (.Call (.Name "range" p) [a, b] [] pos) (iRngI2 F G) := by
  refine ⟨_, pi_range2 hg B.range (pa_cons ha (pa_cons hb pa_nil hs4) hs3) hs hs2, fun m ρ S σ H R r rp q kk => ?_⟩
  simp only [iRngI2, iBind] at q
  split at q
  · rename_i x S1 h1
    refine ⟨m, ρ, S, rp, _, h1, fun v H1 m1 s1 r1 rx => ?_⟩
    split at q
    · rename_i y S2 h2
      refine ⟨m1, ρ, S1, rp.step s1 r1, _, h2, fun v2 H2 m2 s2 r2 ry => ?_⟩
      split at q
      · rename_i i j
        split at q
        · rename_i hn
          cases q
          obtain ⟨rx, _⟩ := rx
          obtain ⟨ry, _⟩ := ry
          cases rx; cases ry
          exact ⟨i, j, rfl, ⟨hn.1.1, hn.1.2, hn.2.1, hn.2.2⟩, kk _ H2 m2 (s1.trans s2) r2 walk_rangeI⟩
        · cases q
      · cases q
    · rename_i h2
      cases q
      exact ⟨m1, ρ, S1, rp.step s1 r1, _, h2, fun H2 m2 s2 r2 => kk H2 m2 (s1.trans s2) r2⟩
    · cases q
  · rename_i h1
    cases q
    exact ⟨m, ρ, S, rp, _, h1, kk⟩
  · cases q
/-! ### calls: a default fills up; a keyword -/
structure DefKI (P : Program) (w : World) (K : PySem.W.Frag) (mg : Str → Option Value) (base : Heap) (XC : Addr) (x kw : Str) (dv : Int) (n k : Nat) (F : List IV → HS → Option (Io IV)) : Prop where
  ex : ∃ (f : Addr) (fd : FuncData) (ps : List Str), FnI P w K mg base XC k (n + 1) F f fd ps ∧ mg x = some (.ref f) ∧ PySem.W.keepIn K (.ref f) = true ∧ (∃ ds, Vals [V.int dv] ds ∧ Binds K fd ps ds) ∧
    ∃ (g : List Value → List Value → List Value), KBn K fd ps n [kw] g (fun vs zs => vs ++ zs)
@[simp] def iCallDf (dv : Int) (Fn : List IV → HS → Option (Io IV)) (A : IX (List IV)) : IE := iBind A fun xs => fun _ S => Fn (xs ++ [.dat (.int dv)]) S
theorem ji_callDf {dv : Int} (D : DefKI X.prog X.w X.K X.mg X.base C x kw dv n k Fn) (tk : Takes X W) (hr : Room k' X.A) (hk : k ≤ k' := by decide) (ha : JA X C W (e :: es) A) (hn : n = (e :: es).length := by rfl) (hg : Gl X x := by rfl) (hdb : (x == ("__debug__" : Str)) = false := by decide)
    (he : starEach (e :: es) X.env = (false, eval e X.env) :: starEach es X.env := by rfl) (hpl : (backTo pos (starEach es X.env)).any (·.1) = false := by rfl) : JE X C W (.Call (.Name x p) (e :: es) [] pos) (iCallDf dv Fn A) := by
  obtain ⟨f, fd, ps, F1, hm, kp, ⟨ds, hd, hb⟩, _⟩ := D.ex
  refine PE.imp (pe_callSD F1.fn (hr.mono hk) hg hm kp hb hd (fun σ => passAt tk σ) ha.pa hdb he hpl) fun σ H Q ⟨m, ρ, S, rp, r, q, kk⟩ => ?_
  have hl : ∀ xs S', A ρ S = some (.ok xs S') → xs.length = (e :: es).length := fun xs S' q => ha.len _ _ _ _ q
  refine ⟨m, ρ, S, rp, ?_⟩
  simp only [iCallDf, iBind] at q
  split at q
  · rename_i xs S1 h1
    exact ⟨_, h1, fun vs H1 m1 s1 r1 ra => sp_call (Ω := om X C) (by simp [hl _ _ h1, hn]) r1 (ra.append (.one (show RepIV X.K H1 m1 (.dat (.int dv)) (.int dv) from ⟨.int _, rfl⟩))) q (kk.mono s1)⟩
  · rename_i h1
    cases q
    exact ⟨_, h1, kk⟩
  · cases q
def tCallNE (n m : Nat) (sp : Sp) (gV : List V → List V → List V) (E : St → XK) (t tk : TA) : TE := fun σ H Q => t σ H fun vs H1 => tk σ H1 fun zs H2 => vs.length = n ∧ zs.length = m ∧ sp (gV vs zs) H2 Q (E σ)
theorem run_fnNE {CX : CXT} {f : Addr} {fd : FuncData} {ps ks : List Str} {sp : Sp} {E : St → XK} {g : List Value → List Value → List Value} {gV : List V → List V → List V} {pins : List (Addr × Obj)} {σ : St} {H : Hp} {s : Shared} {Q : VK} {us ws : List Value} {vs zs : List V} (F : FnOk X.prog X.w X.K X.mg X.base CX k f fd ps sp) (hr : Room k X.A) (hb : KBn X.K fd ps n ks g gV) (hx : PassesAt CX X σ (E σ))
    (I : Inv X pins σ H s) (r : Vals vs us) (rz : Vals zs ws) (l1 : vs.length = n) (l2 : zs.length = ks.length) (h : sp (gV vs zs) H Q (E σ)) : wpAny (model X.prog X.w) X.A (call (.ref f) us (ks.zip ws)) (EP X pins σ Q) X.xe s := by
  have r2 := hb.rel r rz
  refine wpAny_call (codeAny_mono (F.run X.A X.stack s H ⟨us, ks.zip ws⟩ (g us ws) (gV vs zs) Q (E σ) hr I.env0 (hb.to s us ws I.kIn (r.length.symm.trans l1) (rz.length.symm.trans l2)) r2 h) fun r s' hq => ?_)
  cases r with
  | error e => exact hx pins H s e s' I hq
  | ok fl =>
    cases fl with
    | ret u => exact I.after hq
    | next => exact False.elim hq
    | brk => exact False.elim hq
    | cont => exact False.elim hq
theorem pe_callNE {CX : CXT} {f : Addr} {fd : FuncData} {ps ks : List Str} {sp : Sp} {E : St → XK} {g : List Value → List Value → List Value} {gV : List V → List V → List V} {t tk : TA} {kws : List Keyword} (F : FnOk X.prog X.w X.K X.mg X.base CX k f fd ps sp) (hr : Room k X.A) (hg : Gl X x) (hm : X.mg x = some (.ref f)) (hk : PySem.W.keepIn X.K (.ref f) = true) (hb : KBn X.K fd ps n ks g gV) (hx : ∀ σ, PassesAt CX X σ (E σ))
    (ha : PA X (e :: es) t) (hkw : PK X kws tk) (hall : (backToKw pos (keywordEach kws X.env)).all (·.1.isSome) = true := by rfl) (hks : (backToKw pos (keywordEach kws X.env)).filterMap (·.1) = ks := by rfl)
    (hdb : (x == ("__debug__" : Str)) = false := by decide) (he : starEach (e :: es) X.env = (false, eval e X.env) :: starEach es X.env := by rfl)
    (hpl : ((backTo pos (starEach (e :: es) X.env)).any (·.1) || (backToKw pos (keywordEach kws X.env)).any (·.1.isNone)) = false := by rfl) :
    PE X (.Call (.Name x p) (e :: es) kws pos) (tCallNE n ks.length sp gV E t tk) := by
  refine ⟨fun pins s σ H Q I h => ?_⟩
  refine wpAny_Call_Name_kw (ld_glob I hg hm ?_ hdb)
  refine PySem.W.callWith_KW (h₀ := X.base) I.ok.mod.kin hk hall (thn (ha.run pos pins s σ H _ I h) fun us s1 ⟨vs, H1, I1, r, q⟩ => ?_) hpl he
  refine thn (hkw.run pos pins s1 σ H1 _ I1 q) fun ws s2 ⟨zs, H2, I2, rz, l1, l2, q2⟩ => ⟨I2.kIn, ?_⟩
  rw [hks]
  exact run_fnNE F hr hb (hx σ) I2 r rz l1 l2 q2
@[simp] def iCallKw (Fn : List IV → HS → Option (Io IV)) (A : IX (List IV)) (G : IE) : IE := iBind A fun xs => iBind G fun y => fun _ S => Fn (xs ++ [y]) S
theorem ji_callKw {dv : Int} {e2 : Expr} (D : DefKI X.prog X.w X.K X.mg X.base C x kw dv n k Fn) (tk : Takes X W) (hr : Room k' X.A) (hk : k ≤ k' := by decide) (ha : JA X C W (e :: es) A) (hkw : JE X C W e2 G) (hn : n = (e :: es).length := by rfl) (hg : Gl X x := by rfl) (hdb : (x == ("__debug__" : Str)) = false := by decide)
    (hall : (backToKw pos (keywordEach [⟨some kw, e2, kp⟩] X.env)).all (·.1.isSome) = true := by rfl) (hks : (backToKw pos (keywordEach [⟨some kw, e2, kp⟩] X.env)).filterMap (·.1) = [kw] := by rfl)
    (he : starEach (e :: es) X.env = (false, eval e X.env) :: starEach es X.env := by rfl)
    (hpl : ((backTo pos (starEach (e :: es) X.env)).any (·.1) || (backToKw pos (keywordEach [⟨some kw, e2, kp⟩] X.env)).any (·.1.isNone)) = false := by rfl) :
    JE X C W (.Call (.Name x p) (e :: es) [⟨some kw, e2, kp⟩] pos) (iCallKw Fn A G) := by
  obtain ⟨f, fd, ps, F1, hm, kp, _, gv, hb⟩ := D.ex
  refine PE.imp (pe_callNE F1.fn (hr.mono hk) hg hm kp hb (fun σ => passAt tk σ) ha.pa (pk_cons hkw pk_nil) hall hks hdb he hpl) fun σ H Q ⟨m, ρ, S, rp, r, q, kk⟩ => ?_
  have hl : ∀ xs S', A ρ S = some (.ok xs S') → xs.length = (e :: es).length := fun xs S' q => ha.len _ _ _ _ q
  refine ⟨m, ρ, S, rp, ?_⟩
  simp only [iCallKw, iBind] at q
  split at q
  · rename_i xs S1 h1
    refine ⟨_, h1, fun vs H1 m1 s1 r1 ra => ⟨m1, ρ, S1, rp.step s1 r1, ?_⟩⟩
    split at q
    · rename_i y S2 h2
      exact ⟨_, h2, fun v H2 m2 s2 r2 ry => ⟨by rw [← ra.len, hl _ _ h1, hn], rfl, sp_call (Ω := om X C) (by simp [hl _ _ h1, hn]) r2 ((ra.step r1.noTup s2).append (.one ry)) q (kk.mono (s1.trans s2))⟩⟩
    · rename_i h2
      cases q
      exact ⟨_, h2, fun H2 m2 s2 r2 => kk H2 m2 (s1.trans s2) r2⟩
    · cases q
  · rename_i h1
    cases q
    exact ⟨_, h1, kk⟩
  · cases q
/-- C(e, .., k = v): one keyword, what is left by default -/
structure InitKI (P : Program) (w : World) (K : PySem.W.Frag) (mg : Str → Option Value) (base : Heap) (XC : Addr) (cl kw : Str) (n k : Nat) (F : List IV → HS → Option (Io IV)) : Prop where
  ex : ∃ (D f : Addr) (fd : FuncData) (ps : List Str), mg cl = some (.ref D) ∧ Mk K D f ∧ FnI P w K mg base XC k (n + 3) F f fd ps ∧ ∃ (g : List Value → List Value → List Value), KBn K fd ps (n + 1) [kw] g (fun vs zs => vs ++ zs ++ [V.non])
@[simp] def iMakeKw (cl : Str) (Fn : List IV → HS → Option (Io IV)) (A : IX (List IV)) (G : IE) : IE := iBind A fun xs => iBind G fun y => fun _ S => match Fn (.obj S.length :: (xs ++ [y, .dat .none])) (S ++ [.ins cl []]) with
  | some (.ok (.dat .none) S') => some (.ok (.obj S.length) S')
  | _ => none
theorem ji_makeKw {e2 : Expr} (D : InitKI X.prog X.w X.K X.mg X.base C cl kw n k Fn) (hr : Room (k' + 1) X.A) (hk : k ≤ k' := by decide) (ha : JA X C W (e :: es) A) (hkw : JE X C W e2 G) (hn : n = (e :: es).length := by rfl) (hg : Gl X cl := by rfl) (hdb : (cl == ("__debug__" : Str)) = false := by decide)
    (hall : (backToKw pos (keywordEach [⟨some kw, e2, kp⟩] X.env)).all (·.1.isSome) = true := by rfl) (hks : (backToKw pos (keywordEach [⟨some kw, e2, kp⟩] X.env)).filterMap (·.1) = [kw] := by rfl)
    (he : starEach (e :: es) X.env = (false, eval e X.env) :: starEach es X.env := by rfl)
    (hpl : ((backTo pos (starEach (e :: es) X.env)).any (·.1) || (backToKw pos (keywordEach [⟨some kw, e2, kp⟩] X.env)).any (·.1.isNone)) = false := by rfl) :
    JE X C W (.Call (.Name cl p) (e :: es) [⟨some kw, e2, kp⟩] pos) (iMakeKw cl Fn A G) := by
  obtain ⟨D, f, fd, ps, hD, M, F1, gv, hb⟩ := D.ex
  refine PE.imp (pe_makeK (E := E0) M F1.fn (hr.mono (Nat.succ_le_succ hk)) hg hD hb passL ha.pa (pk_cons hkw pk_nil) hall hks hdb he hpl) fun σ H Q ⟨m, ρ, S, rp, r, q, kk⟩ => ?_
  have hl : ∀ xs S', A ρ S = some (.ok xs S') → xs.length = (e :: es).length := fun xs S' q => ha.len _ _ _ _ q
  refine ⟨m, ρ, S, rp, ?_⟩
  simp only [iMakeKw, iBind] at q
  split at q
  · rename_i xs S1 h1
    refine ⟨_, h1, fun vs H1 m1 s1 r1 ra => ⟨m1, ρ, S1, rp.step s1 r1, ?_⟩⟩
    split at q
    · rename_i y S2 h2
      refine ⟨_, h2, fun v H2 m2 s2 r2 ry => ⟨by rw [← ra.len, hl _ _ h1, hn], rfl, fun x dx hx hdx hne => ?_⟩⟩
      split at q
      · rename_i S3 h3
        cases q
        have := sp_make (E := E0) (Ω := om X C) (n := n + 2) (vs := vs ++ [v, V.non]) hD (by simp [hl _ _ h1, hn]) r2 ((ra.step r1.noTup s2).append (.cons ry (.one (show RepIV X.K H2 m2 (.dat .none) .non from ⟨.non, rfl⟩)))) h3 (fun v H' m' s' r' rv => kk v H' m' ((s1.trans s2).trans s') r' rv) x dx hx hdx hne
        have e1 : (fun (vs zs : List V) => vs ++ zs ++ [V.non]) (V.ref x :: vs) [v] = V.ref x :: (vs ++ [v, V.non]) := by simp
        rw [e1]
        exact this
      · cases q
    · rename_i h2
      cases q
      exact ⟨_, h2, fun H2 m2 s2 r2 => kk H2 m2 (s1.trans s2) r2⟩
    · cases q
  · rename_i h1
    cases q
    exact ⟨_, h1, kk⟩
  · cases q
end
end KW
/-! EN: what a class's text must have; rules for methods -/
namespace KW
open PySem PySem.Spec L2
structure MAt (K : PySem.W.Frag) (mg : Str → Option Value) (cl m q : Str) (st : Stmt) : Prop where
  ex : ∃ (D f : Addr) (fd : FuncData), mg cl = some (.ref D) ∧ Cls K D ∧ Meth K D m f ∧ FunD K m q (defArgs st) (defBody st) (defScope st) [] [] f fd
/-- .. with one default -/
structure MAtD (K : PySem.W.Frag) (mg : Str → Option Value) (cl m q : Str) (st : Stmt) : Prop where
  ex : ∃ (D f : Addr) (fd : FuncData) (dv : V), mg cl = some (.ref D) ∧ Cls K D ∧ Meth K D m f ∧ FunD K m q (defArgs st) (defBody st) (defScope st) [dv] [] f fd
structure IAt (K : PySem.W.Frag) (mg : Str → Option Value) (cl q : Str) (st : Stmt) (kws : List (Str × V)) : Prop where
  ex : ∃ (D f : Addr) (fd : FuncData), mg cl = some (.ref D) ∧ Mk K D f ∧ FunD K "__init__" q (defArgs st) (defBody st) (defScope st) [] kws f fd
/-- the exception's class -/
structure XAt (K : PySem.W.Frag) (mg : Str → Option Value) (x : Str) (C : Addr) : Prop where
  g : mg x = some (.ref C)
  x : PySem.W.excIn K C [.type "ValueError", .type "Exception", .type "BaseException", .type "object"] "ValueError.__new__" = true
  k : PySem.W.keepIn K (.ref C) = true
  b : PySem.W.subIn K (.ref C) (.type "BaseException") = some true
  t : PySem.W.typeIn K (.ref C) = some (.type "type")
  e : PySem.W.exmOne K (.ref C) (.ref C) = some true
section
variable {X : Cx} {C : Addr} {W : WX} {x m : Str} {j : Nat} {p p2 pos pos2 : Pos}
theorem js_raiseX (T : XAt X.K X.mg x C) (tk : Takes X W) (hc : X.calm = true := by rfl) (hg : Gl X x := by rfl) (hdb : (x == ("__debug__" : Str)) = false := by decide) :
    JS X C W (.Raise (some (.Call (.Name x p) [.Constant (.str m) j p2] [] pos)) none pos2) bRaise :=
  js_raise hc tk (pmk_own PySem.F.excBase_ValueError T.x T.g T.k (raises_own T.b T.t) hg hdb) fun σ H Q q => q
end
theorem pure_fldVar {cl f : Str} {j : Nat} {ρ : IR} {S : HS} {r : Io IV} (h : iFld cl (iVar j) f ρ S = some r) : ∃ x, r = .ok x S := by
  simp only [iFld, iBind] at h
  split at h
  · rename_i x S1 h1
    obtain ⟨y, _, h2⟩ := iVar_some h1
    cases h2
    unfold fldGo at h
    split at h
    · split at h
      · split at h
        · split at h
          · cases h; exact ⟨_, rfl⟩
          · cases h
        · cases h
      · cases h
    · cases h
  · rename_i S1 h1
    obtain ⟨y, _, h2⟩ := iVar_some h1
    cases h2
  · cases h
/-- a, b = e, e2 of local names -/
@[simp] def bPar (i j : Nat) (F G : IE) : IB := fun ρ S => match F ρ S with
  | some (.ok x S1) => (match G ρ S1 with
    | some (.ok y S2) => some (.nx ((ρ.set i (some x)).set j (some y)) S2)
    | some (.ex S2) => some (.ex ρ S2)
    | none => none)
  | some (.ex S1) => some (.ex ρ S1)
  | none => none
section
variable {X : Cx} {C : Addr} {W : WX} {F G : IE}
theorem js_par {x y : Str} {a b : Expr} {px py pt pos : Pos} {kt k2 pt2} (i j : Nat) (hN : X.N.Nodup) (ha : JE X C W a F) (hb : JE X C W b G) (hij : i ≠ j := by decide) (hc : X.calm = true := by rfl) (hi : X.N[i]? = some x := by rfl) (hj : X.N[j]? = some y := by rfl)
    (hx : X.env.scope.names.lookup x = some .local := by rfl) (hy : X.env.scope.names.lookup y = some .local := by rfl) (hs1 : starEach [a, b] X.env = (false, eval a X.env) :: starEach [b] X.env := by rfl) (hs2 : starEach [b] X.env = (false, eval b X.env) :: starEach [] X.env := by rfl)
    (hw : swappedStores [.Tuple [.Name x px, .Name y py] kt pt] (.Tuple [a, b] k2 pt2) X.env = pure (some [x, y]) := by rfl)
    (hs : swapsWithSole [.Tuple [.Name x px, .Name y py] kt pt] (.Tuple [a, b] k2 pt2) pos.line X.env = pure false := by rfl) :
    JS X C W (.Assign [.Tuple [.Name x px, .Name y py] kt pt] (.Tuple [a, b] k2 pt2) pos) (bPar i j F G) :=
  PS.imp (ps_par hc hN hi hj hij hx hy (pa_cons ha (pa_cons hb pa_nil hs2) hs1) hw hs) fun D σ H ⟨m, ρ, S, q, rp, e, kk⟩ => by
    unfold bPar at e
    split at e
    · rename_i x S1 h1
      refine ⟨m, ρ, S, rp, _, h1, fun v H1 m1 s1 r1 rx => ⟨m1, ρ, S1, rp.step s1 r1, ?_⟩⟩
      split at e
      · rename_i y S2 h2
        cases e
        exact ⟨_, h2, fun w H2 m2 s2 r2 ry => ⟨v, w, rfl, kk _ H2 m2 (s1.trans s2) (((rp.step (s1.trans s2) r2).set i (rx.step r1.noTup s2)).set j ry)⟩⟩
      · rename_i S2 h2
        cases e
        exact ⟨_, h2, fun H2 m2 s2 r2 => kk σ H2 m2 (s1.trans s2) (rp.step (s1.trans s2) r2)⟩
      · cases e
    · rename_i h1
      cases e
      exact ⟨m, ρ, S, rp, _, h1, fun H' m' s r => kk σ H' m' s (rp.step s r)⟩
    · cases e
end
def scInner (st : Stmt) : Scope := match (defBody st).getLast? with
  | some (.Return (some (.Call _ [.ListComp _ _ sc _] _ _)) _) => sc
  | _ => defScope st
end KW
/-! EO: further operators -/
namespace L2
open PySem PySem.Spec PyProof.Rows HT
theorem tuple_mul0 (l : Addr) (items : Array Value) (n : Nat) (dd : Option Addr) (sl : Array (Option Value)) (u : Tok) (hi : items.isEmpty = false) :
    Meets (Builtin.«tuple.__mul__» ⟨[.ref l, .int 0 u], []⟩) (fun _ R s => s.heap.get? l = some { cls := .type "tuple", dict := dd, data := .seq items n, slots := sl } ∧
      R (.ok (.ret (Value.ref s.heap.objs.size))) { s with heap := s.heap.push { cls := Value.type "tuple", data := Data.seq #[] }, toks := s.toks }) :=
  .of_wp fun prog w A R s h => by
    obtain ⟨hp, g, d, tk, os⟩ := s
    obtain ⟨hl, h⟩ := h
    have f1 := AutoSeq1.idx_int
    have c1 : (items.isEmpty || (0 : Int) == 1) = false := by rw [hi]; rfl
    wp_walk using wpAny_loadPart' hl
    repeat (first
      | (refine wpAny_ite_false (decide_eq_false (by decide)) ?_; wp_walk using wpAny_loadPart' hl)
      | (refine wpAny_ite_false (decide_eq_false (by rw [c1]; exact Bool.false_ne_true)) ?_; wp_walk using wpAny_loadPart' hl)
      | (refine wpAny_ite_true (decide_eq_true (by simp)) ?_; wp_walk using wpAny_loadPart' hl))
    exact ⟨_, rfl, h⟩
theorem tuple_mul1 (l : Addr) (items : Array Value) (n : Nat) (dd : Option Addr) (sl : Array (Option Value)) (u : Tok) :
    Meets (Builtin.«tuple.__mul__» ⟨[.ref l, .int 1 u], []⟩) (fun _ R s => s.heap.get? l = some { cls := .type "tuple", dict := dd, data := .seq items n, slots := sl } ∧
      R (.ok (.ret (Value.ref l))) s) :=
  .of_wp fun prog w A R s h => by
    obtain ⟨hp, g, d, tk, os⟩ := s
    obtain ⟨hl, h⟩ := h
    have f1 := AutoSeq1.idx_int
    have c1 : (items.isEmpty || (1 : Int) == 1) = true := by simp
    wp_walk using wpAny_loadPart' hl
    exact ⟨_, rfl, h⟩
def rRep01 (K : PySem.W.Frag) : R2 := fun x y H Q => ∃ l k xs, x = .ref l ∧ y = .int k ∧ SqT K H l xs ∧ xs ≠ [] ∧ ((k = 0 ∧ ∀ p, H p = none → Q (.ref p) (upd H p (.tup []))) ∨ (k = 1 ∧ Q (.ref l) H))
section
variable {X : Cx}
theorem op_rep01 : OpR X (binaryOp .Mult) (rRep01 X.K) := by
  intro pins s σ H x y v u Q I rx ry h
  obtain ⟨l, k, xs, rfl, rfl, hT, hne, h⟩ := h
  cases rx
  obtain ⟨t, rfl⟩ := ry
  obtain ⟨its, r, ⟨⟨cls, dd, data, sl⟩, ho, hc, n, hd⟩, hs⟩ := I.tuple hT
  simp only at hc hd
  subst hc hd
  have hle : its.length = xs.length := r.length.symm
  have hn : its ≠ [] := fun e => hne (by
    rw [e] at hle
    exact List.eq_nil_of_length_eq_zero hle.symm)
  have hi : its.toArray.isEmpty = false := by
    cases its with
    | nil => exact absurd rfl hn
    | cons a b => rfl
  rcases h with ⟨rfl, q⟩ | ⟨rfl, q⟩
  · refine wpAny_binaryOp_repeat_ref (T := "tuple") (U := "int") (by decide) ⟨_, ho, rfl⟩ (fun s' => typeIs_int s' 0 t) noFill_tuple_mul F.fills_int_mul F.slot_int_rmul repeat_tuple F.slot_int_index.lookup
      (call_meets F.slot_int_rmul (typeIs_int s 0 t) F.entry_int_rmul (F.args_int_rmul_2 _ _) (int_rmul_tuple 0 t l its.toArray n dd sl)
        ⟨ho, rfl, ⟨_, ho, rfl⟩, call_meets F.slot_tuple_mul ⟨_, ho, rfl⟩ F.entry_tuple_mul (F.args_tuple_mul_2 _ _) (tuple_mul0 l its.toArray n dd sl t hi) ⟨ho, ?_⟩⟩)
    refine ⟨.ref s.heap.objs.size, _, I.laid (t' := s.toks) (o := .tup []) (fun b ob q => Heap.get?_push_of_some _ q) (Nat.le_refl _) ?_, rfl, q _ (I.hok.fresh (Nat.le_refl _))⟩
    exact ⟨Nat.zero_le _, [], .nil, IsTup.new _ _⟩
  · exact wpAny_binaryOp_repeat_ref (T := "tuple") (U := "int") (by decide) ⟨_, ho, rfl⟩ (fun s' => typeIs_int s' 1 t) noFill_tuple_mul F.fills_int_mul F.slot_int_rmul repeat_tuple F.slot_int_index.lookup
      (call_meets F.slot_int_rmul (typeIs_int s 1 t) F.entry_int_rmul (F.args_int_rmul_2 _ _) (int_rmul_tuple 1 t l its.toArray n dd sl)
        ⟨ho, rfl, ⟨_, ho, rfl⟩, call_meets F.slot_tuple_mul ⟨_, ho, rfl⟩ F.entry_tuple_mul (F.args_tuple_mul_2 _ _) (tuple_mul1 l its.toArray n dd sl t) ⟨ho, ⟨.ref l, H, I, rfl, q⟩⟩⟩)
/-- t += u of tuples, u not empty -/
theorem noI_tuple_add : typeLookup (.type "tuple") (dunderI "add") = pure none := by kernel_rfl
def rICat (K : PySem.W.Frag) : R2 := fun x y H Q => ∃ a b xs ys, x = .ref a ∧ y = .ref b ∧ SqT K H a xs ∧ SqT K H b ys ∧ ys ≠ [] ∧ xs.length + ys.length ≤ sizeLine ∧
  (xs = [] → Q (.ref b) H) ∧ (xs ≠ [] → ∀ p, H p = none → Q (.ref p) (upd H p (.tup (xs ++ ys))))
theorem iop_catA : OpR X (inplaceOp .Add) (rICat X.K) := by
  intro pins s σ H x y v u Q I rx ry h
  obtain ⟨a, b, xs, ys, rfl, rfl, ha, hb, hy, hz, q1, q2⟩ := h
  cases rx
  cases ry
  obtain ⟨its, r1, ⟨⟨cls, dd, data, sl⟩, ho, hc, n, hd⟩, _⟩ := I.tuple ha
  obtain ⟨its2, r2, ⟨⟨cls2, dd2, data2, sl2⟩, ho2, hc2, n2, hd2⟩, _⟩ := I.tuple hb
  simp only at hc hd hc2 hd2
  subst hc hd hc2 hd2
  by_cases hx : xs = []
  · have hi : its = [] := r1.nil_iff.mpr hx
    refine PySem.wpAny_inplaceOp_concat ⟨_, ho, rfl⟩ ⟨_, ho2, rfl⟩ noI_tuple_add noFill_tuple_add seq_tuple_add (call_meets PySem.F.slot_tuple_add ⟨_, ho, rfl⟩ PySem.F.entry_tuple_add (PySem.F.args_tuple_add_2 _ _)
      (tuple_addW0 a b its.toArray its2.toArray n n2 dd dd2 sl sl2 (by simp [hi])) ⟨ho, ho2, ⟨.ref b, H, I, rfl, q1 hx⟩⟩)
  · have hi : its ≠ [] := fun z => hx (r1.nil_iff.mp z)
    have hi2 : its2 ≠ [] := fun z => hy (r2.nil_iff.mp z)
    refine PySem.wpAny_inplaceOp_concat ⟨_, ho, rfl⟩ ⟨_, ho2, rfl⟩ noI_tuple_add noFill_tuple_add seq_tuple_add (call_meets PySem.F.slot_tuple_add ⟨_, ho, rfl⟩ PySem.F.entry_tuple_add (PySem.F.args_tuple_add_2 _ _)
      (tuple_addW2 a b its.toArray its2.toArray n n2 dd dd2 sl sl2 (by simpa using hi) (by simpa using hi2) (by rw [List.size_toArray, List.size_toArray, ← r1.length, ← r2.length]; exact hz)) ⟨ho, ho2, ?_⟩)
    have e : its.toArray ++ its2.toArray = (its ++ its2).toArray := by simp
    rw [e]
    refine ⟨.ref s.heap.objs.size, _, I.laid (t' := s.toks) (o := .tup (xs ++ ys)) (fun b ob q => Heap.get?_push_of_some _ q) (Nat.le_refl _) ?_, rfl, q2 hx _ (I.hok.fresh (Nat.le_refl _))⟩
    exact ⟨by rw [List.length_append]; exact hz, _, r1.append r2, IsTup.new _ _⟩
def CPowW (i j : Int) : Prop := 0 ≤ j ∧ (Builtin.Int.intBits i : Int) * j ≤ 2 ^ 27
theorem op_powW : OpR X (binaryOp .Pow) (rI CPowW fun i j => .int (i ^ j.toNat)) := opI fun _ _ _ _ _ _ _ hc q => pow_int hc.1 hc.2 q
def rLtD (K : PySem.W.Frag) : R2 := fun x y H Q => ∃ d e, Dp K H x d ∧ Dp K H y e ∧ PySem.W.alike d e = true ∧ d ≠ .none ∧ min d.depth e.depth ≤ 60 ∧ Q (.bl (PySem.W.dataLt d e)) H
theorem op_ltD (hu : X.A.units + 64 < cLine) : OpR X (compareOp .Lt) (rLtD X.K) := by
  intro pins s σ H x y v u Q I rx ry h
  obtain ⟨d, e, hd, he, ha, hn, hm, q⟩ := h
  obtain ⟨as, r1⟩ := Dp.reads I d x v hd rx
  obtain ⟨bs, r2⟩ := Dp.reads I e y u he ry
  exact PySem.W.lt_data r1 r2 ha hn (by omega) ⟨.bl _, H, I, rfl, q⟩
end
end L2
namespace KW
open PySem PySem.Spec L2
theorem rok_sub {K : PySem.W.Frag} : ROk K (rI0 fun i j => .int (i - j)) fSub := rok_int0
theorem rok_modN {K : PySem.W.Frag} : ROk K (rI (fun _ j => j ≠ 0) fun i j => .int (i.fmod j)) (fI fun i j => if 0 < j then some (i % j) else none) := rok_int fun i j z e => by
  by_cases h : 0 < j
  · rw [if_pos h] at e; cases e; exact ⟨by omega, Int.fmod_eq_emod_of_nonneg _ (by omega)⟩
  · rw [if_neg h] at e; cases e
def fMod := fI fun i j => if 0 < j then some (i % j) else none
def fFdiv := fI fun i j => if 0 < j ∧ j < 1073741824 then some (i / j) else none
theorem rok_fdivN {K : PySem.W.Frag} : ROk K (rI CDivN fun i j => .int (i.fdiv j)) fFdiv := rok_int fun i j z e => by
  by_cases h : 0 < j ∧ j < 1073741824
  · rw [if_pos h] at e; cases e; exact ⟨⟨by omega, by omega⟩, Int.fdiv_eq_ediv_of_nonneg _ (by omega)⟩
  · rw [if_neg h] at e; cases e
def fPow := fI fun i j => if 0 ≤ j ∧ j ≤ 1000 ∧ i.natAbs < 2 ^ 256 then some (i ^ j.toNat) else none
theorem rok_powW {K : PySem.W.Frag} : ROk K (rI CPowW fun i j => .int (i ^ j.toNat)) fPow := rok_int fun i j z e => by
  by_cases h : 0 ≤ j ∧ j ≤ 1000 ∧ i.natAbs < 2 ^ 256
  · rw [if_pos h] at e; cases e
    refine ⟨⟨h.1, ?_⟩, rfl⟩
    have h1 := PyProof.Rows.intBits_le h.2.2
    have h2 : (Builtin.Int.intBits i : Int) ≤ 256 := by omega
    have h3 : (Builtin.Int.intBits i : Int) * j ≤ 256 * 1000 := Int.mul_le_mul h2 h.2.1 h.1 (by decide)
    exact Int.le_trans h3 (by decide)
  · rw [if_neg h] at e; cases e
/-- int * int, one below 2^64; tuple * int -/
def fMulR : PyData → PyData → Option PyData
  | .int i, .int j => if (-(2 ^ 64) < i ∧ i < 2 ^ 64) ∨ (-(2 ^ 64) < j ∧ j < 2 ^ 64) then some (.int (i * j)) else none
  | .tuple ds, .int k => if ds ≠ [] ∧ 0 ≤ k ∧ k ≤ 1000 ∧ ds.length ≤ 1000 then some (.tuple (List.replicate k.toNat ds).flatten) else none
  | _, _ => none
theorem DpAll.rep_ {K : PySem.W.Frag} {H : Hp} {vs : List V} {ds : List PyData} (h : DpAll K H vs ds) : ∀ n : Nat, DpAll K H (List.replicate n vs).flatten (List.replicate n ds).flatten
  | 0 => .nil
  | n + 1 => by
    rw [List.replicate_succ, List.replicate_succ, List.flatten_cons, List.flatten_cons]
    exact DpAll.append h (DpAll.rep_ h n)
theorem DpAll.nil_iff {K : PySem.W.Frag} {H : Hp} {vs : List V} {ds : List PyData} (h : DpAll K H vs ds) : vs = [] ↔ ds = [] := by
  have := h.len
  constructor
  · rintro rfl; exact List.length_eq_zero_iff.mp this.symm
  · rintro rfl; exact List.length_eq_zero_iff.mp this
theorem rok_mulR {K : PySem.W.Frag} : ROk K (fun x y H Q => (rI CMul (fun i j => .int (i * j)) x y H Q ∨ rRep01 K x y H Q) ∨ rRepT K x y H Q) fMulR := by
  intro x y H Q d e z dx dy q k
  cases d <;> cases e <;> simp only [fMulR] at q <;> try (cases q; done)
  · split at q
    · rename_i i j h
      cases q
      cases dx; cases dy
      exact .inl (.inl ⟨i, j, rfl, rfl, h, k _ _ (Same.refl _) (.int _)⟩)
    · cases q
  · split at q
    · rename_i i ds h
      cases q
      cases dy
      cases dx with
      | @tup a xs _ hq ha =>
        have hne : xs ≠ [] := fun z => h.1 ((DpAll.nil_iff ha).mp z)
        by_cases h0 : ds = 0
        · subst h0
          exact .inl (.inr ⟨a, 0, xs, rfl, rfl, hq, hne, .inl ⟨rfl, fun p hp => k _ _ (same_upd hp) (.tup (SqT.of upd_same) .nil)⟩⟩)
        · by_cases h1 : ds = 1
          · subst h1
            exact .inl (.inr ⟨a, 1, xs, rfl, rfl, hq, hne, .inr ⟨rfl, k _ _ (Same.refl _) (by
              have : (List.replicate (1 : Int).toNat i).flatten = i := by simp
              rw [this]; exact .tup hq ha)⟩⟩)
          · refine .inr ⟨a, ds, xs, rfl, rfl, hq, hne, by omega, h.2.2.1, by rw [ha.len]; exact h.2.2.2, fun p hp => ?_⟩
            have s := same_upd (q := .tup (List.replicate ds.toNat xs).flatten) hp
            exact k _ _ s (.tup (SqT.of upd_same) (DpAll.mono s _ _ (DpAll.rep_ ha _)))
    · cases q
theorem op_mulR {X : Cx} : OpR X (binaryOp .Mult) (fun x y H Q => (rI CMul (fun i j => .int (i * j)) x y H Q ∨ rRep01 X.K x y H Q) ∨ rRepT X.K x y H Q) := (op_mul.or op_rep01).or op_repT
/-- t += (e,) -/
def fICat : PyData → PyData → Option PyData
  | .int i, .int j => some (.int (i + j))
  | .tuple xs, .tuple ys => if ys ≠ [] ∧ xs.length + ys.length ≤ 1000 then some (.tuple (xs ++ ys)) else none
  | _, _ => none
theorem rok_icat {K : PySem.W.Frag} : ROk K (fun x y H Q => rI0 (fun i j => .int (i + j)) x y H Q ∨ rICat K x y H Q) fICat := by
  intro x y H Q d e z dx dy q k
  cases d <;> cases e <;> simp only [fICat] at q <;> try (cases q; done)
  · cases q
    cases dx; cases dy
    exact .inl ⟨_, _, rfl, rfl, k _ _ (Same.refl _) (.int _)⟩
  · split at q
    · rename_i xs ys h
      cases q
      cases dx with
      | @tup a us _ hq ha =>
        cases dy with
        | @tup b ws _ hq2 hb =>
          refine .inr ⟨a, b, us, ws, rfl, rfl, hq, hq2, fun z => h.1 ((DpAll.nil_iff hb).mp z), by rw [ha.len, hb.len, sizeLine_eq]; omega, fun z => ?_, fun _ p hp => ?_⟩
          · have hx : xs = [] := (DpAll.nil_iff ha).mp z
            subst hx
            exact k _ _ (Same.refl _) (.tup hq2 hb)
          · have s := same_upd (q := .tup (us ++ ws)) hp
            exact k _ _ s (.tup (SqT.of upd_same) (DpAll.mono s _ _ (ha.append hb)))
    · cases q
theorem iop_icat {X : Cx} : OpR X (inplaceOp .Add) (fun x y H Q => rI0 (fun i j => .int (i + j)) x y H Q ∨ rICat X.K x y H Q) := iop_add.or iop_catA
def iLtD (d e : PyData) : Option Bool := if (PySem.W.alike d e && !(decide (min d.depth e.depth > 60))) = true then (match d with
  | .tuple _ => some (PySem.W.dataLt d e)
  | _ => none) else none
theorem rok_ltD {K : PySem.W.Frag} : ROkB K (rLtD K) iLtD := by
  intro x y H Q d e z dx dy q k
  unfold iLtD at q
  split at q
  · rename_i h
    rw [Bool.and_eq_true] at h
    split at q
    · cases q
      exact ⟨_, e, dx, dy, h.1, (fun z => nomatch z), by simpa using h.2, k⟩
    · cases q
  · cases q
/-- x in t, of ints and texts -/
@[simp] def flatD : PyData → Bool
  | .int _ => true
  | .str _ => true
  | _ => false
@[simp] def eqFl : PyData → PyData → Bool
  | .int i, .int j => i == j
  | .str x, .str y => x == y
  | _, _ => false
@[simp] def dIn (d e : PyData) : Option Bool := match e with
  | .tuple ds => if (flatD d && ds.all flatD) = true then some (ds.any fun y => eqFl y d) else none
  | _ => none
@[simp] def dNotIn (d e : PyData) : Option Bool := (dIn d e).map (!·)
theorem flat_V {K : PySem.W.Frag} {H : Hp} {d : PyData} {v : V} (h : Dp K H v d) (f : flatD d = true) : flatV v = true := by
  cases h <;> first | rfl | cases f
theorem eqFl_V {K : PySem.W.Frag} {H : Hp} {d e : PyData} {v u : V} (h : Dp K H v d) (h2 : Dp K H u e) (f : flatD d = true) (f2 : flatD e = true) : eqV v u = eqFl d e := by
  cases h <;> cases h2 <;> first | rfl | (cases f; done) | (cases f2; done)
theorem flats_V {K : PySem.W.Frag} {H : Hp} {x : PyData} {v : V} (h : Dp K H v x) (f : flatD x = true) : ∀ {ds : List PyData} {vs : List V}, DpAll K H vs ds → ds.all flatD = true → vs.all flatV = true ∧ (vs.any fun y => eqV y v) = ds.any fun y => eqFl y x
  | [], _, a, _ => by cases a; exact ⟨rfl, rfl⟩
  | d :: ds, _, a, q => by
    rw [List.all_cons, Bool.and_eq_true] at q
    cases a with
    | cons a1 a2 =>
      obtain ⟨h1, h2⟩ := flats_V h f a2 q.2
      exact ⟨by rw [List.all_cons, flat_V a1 q.1, h1]; rfl, by rw [List.any_cons, List.any_cons, eqFl_V a1 h q.1 f, h2]⟩
theorem dIn_some {d e : PyData} {z : Bool} (q : dIn d e = some z) : ∃ ds, e = .tuple ds ∧ flatD d = true ∧ ds.all flatD = true ∧ z = ds.any fun y => eqFl y d := by
  unfold dIn at q
  split at q
  · split at q
    · rename_i h
      rw [Bool.and_eq_true] at h
      cases q
      exact ⟨_, rfl, h.1, h.2, rfl⟩
    · cases q
  · cases q
theorem rok_in {K : PySem.W.Frag} : ROkB K (rIn K false) dIn := by
  intro x y H Q d e z dx dy q k
  obtain ⟨ds, rfl, h1, h2, rfl⟩ := dIn_some q
  cases dy with
  | @tup a vs _ hq ha =>
    obtain ⟨h3, h4⟩ := flats_V dx h1 ha h2
    refine ⟨a, vs, rfl, .inr hq, flat_V dx h1, h3, ?_⟩
    show Q (.bl (inV x vs)) H
    rw [show inV x vs = _ from h4]
    exact k
theorem rok_notIn {K : PySem.W.Frag} : ROkB K (rIn K true) dNotIn := by
  intro x y H Q d e z dx dy q k
  obtain ⟨b, h0, rfl⟩ := Option.map_eq_some_iff.mp q
  obtain ⟨ds, rfl, h1, h2, rfl⟩ := dIn_some h0
  cases dy with
  | @tup a vs _ hq ha =>
    obtain ⟨h3, h4⟩ := flats_V dx h1 ha h2
    refine ⟨a, vs, rfl, .inr hq, flat_V dx h1, h3, ?_⟩
    show Q (.bl (!inV x vs)) H
    rw [show inV x vs = _ from h4]
    exact k
section
variable {X : Cx} {C : Addr} {W : WX} {a b c e : Expr} {es : List Expr} {F G : IE} {pos p p2 p3 : Pos} {f g : DE}
theorem pd_in (ha : PD X a f) (hb : PD X b g) (hm : behindInMarks .In b = false := by first | rfl | with_unfolding_all rfl) : PD X (.Compare a [.In] [b] pos) (eCmp dIn f g) := pd_cmp op_in_seq rok_in ha hb hm
theorem pdt_notIn (ha : PD X a f) (hb : PD X b g) (hm : behindInMarks .NotIn b = false := by first | rfl | with_unfolding_all rfl) : PDT X (.Compare a [.NotIn] [b] pos) (cCmp dNotIn f g) := pt_cmp_ op_notIn_seq rok_notIn ha hb hm
theorem pdt_ltD (hu : X.A.units + 64 < cLine) (ha : PD X a f) (hb : PD X b g) : PDT X (.Compare a [.Lt] [b] pos) (cCmp iLtD f g) := pt_cmp_ (op_ltD hu) rok_ltD ha hb (nomark _)
theorem pd_mod (ha : PD X a f) (hb : PD X b g) : PD X (.BinOp a .Mod b pos) (eBin fMod f g) := pd_bin op_modN rok_modN ha hb
theorem pd_fdivN (ha : PD X a f) (hb : PD X b g) : PD X (.BinOp a .FloorDiv b pos) (eBin fFdiv f g) := pd_bin op_fdivN rok_fdivN ha hb
theorem pd_pow (ha : PD X a f) (hb : PD X b g) : PD X (.BinOp a .Pow b pos) (eBin fPow f g) := pd_bin op_powW rok_powW ha hb
theorem pd_mulR (ha : PD X a f) (hb : PD X b g) : PD X (.BinOp a .Mult b pos) (eBin fMulR f g) := pd_bin op_mulR rok_mulR ha hb
/-- int(x) of a truth -/
@[simp] def eIntB (f : DE) : DE := fun ρ => match f ρ with
  | some (.bool b) => some (.int (if b = true then 1 else 0))
  | _ => none
theorem pd_intB (B : Blt X.mg) (ha : PD X a f) (hg : Gl X "int" := by rfl) (hs : starEach [a] X.env = (false, eval a X.env) :: starEach [] X.env := by rfl) : PD X (.Call (.Name "int" p) [a] [] pos) (eIntB f) :=
  (pe_callTy call_int1 hg B.int (by decide +kernel) (pa_cons ha pa_nil hs) (he := hs)).imp fun σ H Q ⟨ρ, z, rp, e, k⟩ => by
    unfold eIntB at e
    split at e
    · cases e
      exact ⟨ρ, _, rp, by assumption, fun v H1 s1 d => by cases d; exact .inr ⟨_, rfl, k _ H1 s1 (.int _)⟩⟩
    · cases e
/-- abs(x) -/
@[simp] def iAbs (F : IE) : IE := iBind F fun x => fun _ S => match x with
  | .dat (.int i) => some (.ok (.dat (.int (if i < 0 then -i else i))) S)
  | _ => none
theorem ji_abs (B : Blt X.mg) (ha : JE X C W a F) (hg : Gl X "abs" := by rfl) (hs : starEach [a] X.env = (false, eval a X.env) :: starEach [] X.env := by rfl) : JE X C W (.Call (.Name "abs" p) [a] [] pos) (iAbs F) :=
  (pe_callB call_abs hg B.abs (by decide +kernel) (pa_cons ha pa_nil hs) (he := hs)).imp fun σ H Q h => one_arg (fun x v σ H m ρ S Q rx a => by
    obtain ⟨rp, r, e, k⟩ := a
    simp only at e
    split at e
    · cases e
      obtain ⟨rx, _⟩ := rx
      cases rx
      exact ⟨_, rfl, k _ H m (.refl _ _) rp.hr ⟨.int _, rfl⟩⟩
    · cases e) h
/-- t[:k] of a tuple -/
def upTo (k : Int) (ds : List PyData) : List PyData := ds.take (if k < 0 then (k + ds.length).toNat else k.toNat)
@[simp] def eUpto (f g : DE) : DE := fun ρ => match f ρ, g ρ with
  | some (.tuple ds), some (.int k) => some (.tuple (upTo k ds))
  | _, _ => none
theorem cut_toZ {xs : List V} {k : Int} : cutV xs none (some k) = xs.take (if k < 0 then (k + xs.length).toNat else k.toNat) := by
  by_cases h : k < 0
  · rw [if_pos h]
    unfold cutV
    rw [sIx_none, show HT.sIx xs.length xs.length (some k) = (k + (xs.length : Int)).toNat from if_pos h]
    simp
  · rw [if_neg h, cut_to (by omega)]
theorem pd_upto (ha : PD X a f) (hb : PD X b g) : PD X (.Subscript a (.Slice none (some b) none p2) pos) (eUpto f g) :=
  (pe_slice sl_tupA ha po_none (po_some hb)).imp fun σ H Q ⟨ρ, z, rp, e, k⟩ => by
    unfold eUpto at e
    split at e
    · rename_i ds kk h1 h2
      cases e
      refine ⟨ρ, _, rp, h1, fun v H1 s1 d1 => ?_⟩
      refine ⟨ρ, _, rp.mono s1, h2, fun w H2 s2 d2 => ?_⟩
      cases d2
      have d1' := Dp.mono s2 _ _ d1
      cases d1' with
      | @tup a' vs _ hq ha =>
        have hl := ha.len
        refine ⟨_, rfl, a', vs, rfl, hq, fun hw => ?_, fun hw p hp => ?_⟩
        · refine k _ _ (s1.trans s2) (.tup hq ?_)
          have : vs.take (if kk < 0 then (kk + ds.length).toNat else kk.toNat) = vs := by
            rw [← hl, ← cut_toZ]
            unfold cutV
            rw [hw.1, hw.2]
            simp
          unfold upTo
          rw [← this]
          exact ha.take _
        · have s := same_upd (q := .tup (cutV vs none (some kk))) hp
          refine k _ _ ((s1.trans s2).trans s) (.tup (SqT.of upd_same) ?_)
          rw [cut_toZ, hl]
          rw [cut_toZ, hl] at s
          exact DpAll.mono s _ _ (ha.take _)
    · cases e
@[simp] def eNeg (f : DE) : DE := fun ρ => match f ρ with
  | some (.int i) => some (.int (-i))
  | _ => none
theorem pd_neg (ha : PD X a f) : PD X (.UnaryOp .USub a pos) (eNeg f) := (pe_un un_neg ha).imp fun σ H Q ⟨ρ, z, rp, e, k⟩ => by
  unfold eNeg at e
  split at e
  · cases e
    exact ⟨ρ, _, rp, by assumption, fun v H1 s1 d => by cases d; exact ⟨_, rfl, k _ H1 s1 (.int _)⟩⟩
  · cases e
/-- t[i] of a tuple -/
@[simp] def eIxV (f g : DE) : DE := fun ρ => match f ρ, g ρ with
  | some (.tuple ds), some (.int i) => atI ds i
  | _, _ => none
theorem pd_ixV (ha : PD X a f) (hb : PD X b g) (hs : PlainIx b := by intro _ _; rfl) : PD X (.Subscript a b pos) (eIxV f g) := (pe_ix ix_tup ha hb hs).imp fun σ H Q ⟨ρ, z, rp, e, k⟩ => by
  unfold eIxV at e
  split at e
  · rename_i ds i h1 h2
    refine ⟨ρ, _, rp, h1, fun v H1 s1 d1 => ⟨ρ, _, rp.mono s1, h2, fun w H2 s2 d2 => ?_⟩⟩
    cases d2
    have d1' := Dp.mono s2 _ _ d1
    cases d1' with
    | @tup a' vs _ hq ha =>
      obtain ⟨j, hj, hd⟩ := Option.bind_eq_some_iff.mp e
      obtain ⟨u, hu, du⟩ := ha.get hd
      refine ⟨a', vs, i, u, rfl, rfl, hq, ?_, k u _ (s1.trans s2) du⟩
      show (ixN vs.length i).bind _ = _
      rw [ha.len, hj]
      exact hu
  · cases e
end
end KW
/-! what the top has written (printed by gen.py) -/
namespace KW
open PySem PySem.Spec L2
/-- a def of the top -/
structure At (K : PySem.W.Frag) (mg : Str → Option Value) (x : Str) (st : Stmt) : Prop where
  ex : ∃ (f : Addr) (fd : FuncData), FunD K x x (defArgs st) (defBody st) (defScope st) [] [] f fd ∧ mg x = some (.ref f)
/-- .. with keyword-only defaults -/
structure AtK (K : PySem.W.Frag) (mg : Str → Option Value) (x : Str) (st : Stmt) (kws : List (Str × V)) : Prop where
  ex : ∃ (f : Addr) (fd : FuncData), FunD K x x (defArgs st) (defBody st) (defScope st) [] kws f fd ∧ mg x = some (.ref f)
structure Txt (K : PySem.W.Frag) (mg : Str → Option Value) : Prop where
  a_is_whole : At K mg "is_whole" s_is_whole
  a_is_within : At K mg "is_within" s_is_within
  a_need_within : At K mg "need_within" s_need_within
  a_is_comer : At K mg "is_comer" s_is_comer
  a_come_right : At K mg "come_right" s_come_right
  a_need_many : At K mg "need_many" s_need_many
  a_are_comers : At K mg "are_comers" s_are_comers
  a_need_comers : At K mg "need_comers" s_need_comers
  a_root_of : At K mg "root_of" s_root_of
  a_gap_of : At K mg "gap_of" s_gap_of
  a_gap : At K mg "gap" s_gap
  a_is_late : At K mg "is_late" s_is_late
  a_need_late : At K mg "need_late" s_need_late
  a_is_late_memory : At K mg "is_late_memory" s_is_late_memory
  a_need_late_memory : At K mg "need_late_memory" s_need_late_memory
  a_late_first : At K mg "late_first" s_late_first
  k_late_looked : AtK K mg "late_looked" s_late_looked [("alone", .bl false)]
  a_late_passed : At K mg "late_passed" s_late_passed
  a_is_share : At K mg "is_share" s_is_share
  a_need_share : At K mg "need_share" s_need_share
  a_is_share_memory : At K mg "is_share_memory" s_is_share_memory
  a_need_share_memory : At K mg "need_share_memory" s_need_share_memory
  a_share_first : At K mg "share_first" s_share_first
  a_share_renewed : At K mg "share_renewed" s_share_renewed
  a_share_come : At K mg "share_come" s_share_come
  a_share_passed : At K mg "share_passed" s_share_passed
  a_is_between : At K mg "is_between" s_is_between
  a_is_none : At K mg "is_none" s_is_none
  a_is_rule : At K mg "is_rule" s_is_rule
  a_need_rule : At K mg "need_rule" s_need_rule
  a_is_memory_of : At K mg "is_memory_of" s_is_memory_of
  a_is_wait : At K mg "is_wait" s_is_wait
  a_first_memory : At K mg "first_memory" s_first_memory
  a_looked_by : At K mg "looked_by" s_looked_by
  a_come_by : At K mg "come_by" s_come_by
  a_renewed_by : At K mg "renewed_by" s_renewed_by
  a_passed_by : At K mg "passed_by" s_passed_by
  a_is_stream : At K mg "is_stream" s_is_stream
  a_need_stream : At K mg "need_stream" s_need_stream
  a_is_size : At K mg "is_size" s_is_size
  a_is_piece : At K mg "is_piece" s_is_piece
  a_are_pieces : At K mg "are_pieces" s_are_pieces
  a_most_credit : At K mg "most_credit" s_most_credit
  a_is_lane_of : At K mg "is_lane_of" s_is_lane_of
  a_empty_lane : At K mg "empty_lane" s_empty_lane
  a_put_by : At K mg "put_by" s_put_by
  a_head_by : At K mg "head_by" s_head_by
  a_head_wait : At K mg "head_wait" s_head_wait
  a_lane_renewed_by : At K mg "lane_renewed_by" s_lane_renewed_by
  a_lane_passed_by : At K mg "lane_passed_by" s_lane_passed_by
  a_need_small : At K mg "need_small" s_need_small
  a_need_most : At K mg "need_most" s_need_most
  a_small_stream : At K mg "small_stream" s_small_stream
  a_is_small_run : At K mg "is_small_run" s_is_small_run
  a_done_by : At K mg "done_by" s_done_by
  a_small_words : At K mg "small_words" s_small_words
  a_unlike_words : At K mg "unlike_words" s_unlike_words
  a_need_rules : At K mg "need_rules" s_need_rules
  a_joint_alike : At K mg "joint_alike" s_joint_alike
  k_alike : AtK K mg "alike" s_alike [("most", .int 2)]
  a_are_streams : At K mg "are_streams" s_are_streams
  a_need_streams : At K mg "need_streams" s_need_streams
  a_need_rate : At K mg "need_rate" s_need_rate
  a_are_lanes : At K mg "are_lanes" s_are_lanes
  a_is_ring : At K mg "is_ring" s_is_ring
  a_are_credits : At K mg "are_credits" s_are_credits
  a_is_standing_of : At K mg "is_standing_of" s_is_standing_of
  a_need_standing : At K mg "need_standing" s_need_standing
  a_first_standing : At K mg "first_standing" s_first_standing
  a_served_by : At K mg "served_by" s_served_by
  a_all_renewed : At K mg "all_renewed" s_all_renewed
  a_all_passed : At K mg "all_passed" s_all_passed
  a_all_come : At K mg "all_come" s_all_come
  a_stepped_by : At K mg "stepped_by" s_stepped_by
  a__law_pot : At K mg "_law_pot" s__law_pot
  a__law_take : At K mg "_law_take" s__law_take
  a__law_folded : At K mg "_law_folded" s__law_folded
  a__law_small_rule : At K mg "_law_small_rule" s__law_small_rule
  a__law_counts : At K mg "_law_counts" s__law_counts
  a__law_words : At K mg "_law_words" s__law_words
  a__law_alike_told : At K mg "_law_alike_told" s__law_alike_told
  a__law_run_right : At K mg "_law_run_right" s__law_run_right
  a__law_pair_right : At K mg "_law_pair_right" s__law_pair_right
  a_law : At K mg "law" s_law
  c_MOST_SIZE : GlobD K mg "MOST_SIZE" (.int 9)
  c_MOST_STREAMS_comers : GlobD K mg "MOST_STREAMS_comers" (.int 8)
  c_MOST_COMERS : GlobD K mg "MOST_COMERS" (.int 64)
  c_MOST_TICKS : GlobD K mg "MOST_TICKS" (.int 400)
  c_MOST_SPAN : GlobD K mg "MOST_SPAN" (.int 99)
  c_LATE : GlobD K mg "LATE" (.str "late")
  c_MOST_late : GlobD K mg "MOST_late" (.int 99)
  c_MOST_WAIT_late : GlobD K mg "MOST_WAIT_late" (.int 1000000)
  c_SHARE : GlobD K mg "SHARE" (.str "share")
  c_WHOLE : GlobD K mg "WHOLE" (.int 1000)
  c_MOST_STEP : GlobD K mg "MOST_STEP" (.int 999)
  c_MOST_OLD : GlobD K mg "MOST_OLD" (.int 99)
  c_MOST_WAIT_rules : GlobD K mg "MOST_WAIT_rules" (.int 1000000)
  c_NONE : GlobD K mg "NONE" (.tuple [(.str "none")])
  c_MOST_WEIGHT : GlobD K mg "MOST_WEIGHT" (.int 9)
  c_MOST_PIECES : GlobD K mg "MOST_PIECES" (.int 99)
  c_LEAST_SIZE : GlobD K mg "LEAST_SIZE" (.int 1)
  c_LARGEST : GlobD K mg "LARGEST" (.int 9)
  c_TURN : GlobD K mg "TURN" (.int 9)
  c_KEPT : GlobD K mg "KEPT" (.int 8)
  c_MOST_runs : GlobD K mg "MOST_runs" (.int 2)
  c_MOST_EACH : GlobD K mg "MOST_EACH" (.int 3)
  c_MOST_LIMIT : GlobD K mg "MOST_LIMIT" (.int 6)
  c_MOST_LANES : GlobD K mg "MOST_LANES" (.int 1500)
  c_DROPPED : GlobD K mg "DROPPED" (.str "drop")
  c_RATE : GlobD K mg "RATE" (.int 9)
  c_MOST_STREAMS_turns : GlobD K mg "MOST_STREAMS_turns" (.int 8)
  c_MOST_RATE : GlobD K mg "MOST_RATE" (.int 99)
end KW
namespace KW
open PySem PySem.Spec L2
section
variable {P : Program} {w : World} {K : PySem.W.Frag} {mg : Str → Option Value} {base : Heap}
abbrev N_is_whole : List Str := ["thing"]
theorem sc_is_whole : FnScope N_is_whole ["thing"] (defScope s_is_whole) := ⟨rfl, rfl, rfl, by decide +kernel, rfl, by decide +kernel, by decide +kernel⟩
def F_is_whole : List PyData → Option PyData := runD 1 ((sSeq (sRet (eAnd (eIsi "int" (eVar 0)) (eNot (eIsi "bool" (eVar 0))))) sNil))
theorem ok_is_whole (T : Txt K mg) (B : Blt mg) : DefD P w K mg base "is_whole" 1 1 F_is_whole := by
  obtain ⟨f, fd, F, hm⟩ := T.a_is_whole.ex
  exact FunD_okD F hm (F.bindsN fun _ _ _ _ _ _ us hl => match us, hl with | [_], _ => rfl) rfl sc_is_whole (fun cdv A outer s H E hr => (pds_cons (pds_ret (pd_and (pd_isi "int" B B.int (by decide +kernel) (pdv 0)) (pd_one (pd_not (pd_isi "bool" B B.bool (by decide +kernel) (pdv 0)))))) pds_nil))
abbrev N_is_within : List Str := ["thing", "least", "most"]
theorem sc_is_within : FnScope N_is_within ["thing", "least", "most"] (defScope s_is_within) := ⟨rfl, rfl, rfl, by decide +kernel, rfl, by decide +kernel, by decide +kernel⟩
def F_is_within : List PyData → Option PyData := runD 3 ((sSeq (sRet (eAnd (eCall F_is_whole (aCons (eVar 0) aNil)) (eChain (eVar 1) (eVar 0) (eVar 2)))) sNil))
theorem ok_is_within (T : Txt K mg) (B : Blt mg) : DefD P w K mg base "is_within" 3 2 F_is_within := by
  obtain ⟨f, fd, F, hm⟩ := T.a_is_within.ex
  exact FunD_okD F hm (F.bindsN fun _ _ _ _ _ _ us hl => match us, hl with | [_, _, _], _ => rfl) rfl sc_is_within (fun cdv A outer s H E hr => (pds_cons (pds_ret (pd_and (pd_call (ok_is_whole T B) hr (ha := (pda_cons (pdv 0) pda_nil))) (pd_one (pd_chain (pdv 1) (pdv 0) (pdv 2))))) pds_nil))
abbrev N_need_within : List Str := ["thing", "least", "most"]
theorem sc_need_within : FnScope N_need_within ["thing", "least", "most"] (defScope s_need_within) := ⟨rfl, rfl, rfl, by decide +kernel, rfl, by decide +kernel, by decide +kernel⟩
def F_need_within : List PyData → Option PyData := runD 3 ((sSeq (sIf (cNot (cVal (eCall F_is_within (aCons (eVar 0) (aCons (eVar 1) (aCons (eVar 2) aNil)))))) (sSeq sNever sNil) sNil) sNil))
theorem ok_need_within (T : Txt K mg) (B : Blt mg) : DefD P w K mg base "need_within" 3 3 F_need_within := by
  obtain ⟨f, fd, F, hm⟩ := T.a_need_within.ex
  exact FunD_okD F hm (F.bindsN fun _ _ _ _ _ _ us hl => match us, hl with | [_, _, _], _ => rfl) rfl sc_need_within (fun cdv A outer s H E hr => (pds_cons (pds_if (pdt_not (pdt_val (pd_call (ok_is_within T B) hr (ha := (pda_cons (pdv 0) (pda_cons (pdv 1) (pda_cons (pdv 2) pda_nil))))))) (pds_cons pds_never pds_nil) pds_nil) pds_nil))
abbrev N_is_comer : List Str := ["many", "thing", "stream", "size", "can"]
theorem sc_is_comer : FnScope N_is_comer ["many", "thing"] (defScope s_is_comer) := ⟨rfl, rfl, rfl, by decide +kernel, rfl, by decide +kernel, by decide +kernel⟩
def F_is_comer : List PyData → Option PyData := runD 5 ((sSeq (sIf (cOr (cNot (cVal (eIsi "tuple" (eVar 1)))) (cNe (eLen (eVar 1)) (eC (.int 3)))) (sSeq (sRet (eC (.bool false))) sNil) sNil) (sSeq (sAsg (eVar 1) (gT (gsCons (gNm 2) (gsCons (gNm 3) (gsCons (gNm 4) gsNil))))) (sSeq (sRet (eAnd (eCall F_is_within (aCons (eVar 2) (aCons (eC (.int 0)) (aCons (eSub (eVar 0) (eC (.int 1))) aNil)))) (eAnd (eCall F_is_within (aCons (eVar 3) (aCons (eC (.int 1)) (aCons (eC (.int 9)) aNil)))) (eIsi "bool" (eVar 4))))) sNil))))
theorem ok_is_comer (T : Txt K mg) (B : Blt mg) : DefD P w K mg base "is_comer" 2 3 F_is_comer := by
  obtain ⟨f, fd, F, hm⟩ := T.a_is_comer.ex
  exact FunD_okD F hm (F.bindsN fun _ _ _ _ _ _ us hl => match us, hl with | [_, _], _ => rfl) rfl sc_is_comer (fun cdv A outer s H E hr => (pds_cons (pds_if (pdt_w (pdw_or (pdt_not (pdt_val (pd_isi "tuple" B B.tuple (by decide +kernel) (pdv 1)))) (pdw_or1 (pdt_ne hr.units (pd_len B (pdv 1)) pd_int)))) (pds_cons (pds_ret pd_bl) pds_nil) pds_nil) (pds_cons (pds_asg (pdv 1) (pdg_tup (pdgs_cons (pdg_nm 2 sc_is_comer.nd) (pdgs_cons (pdg_nm 3 sc_is_comer.nd) (pdgs_cons (pdg_nm 4 sc_is_comer.nd) pdgs_nil))))) (pds_cons (pds_ret (pd_and (pd_call (ok_is_within T B) hr (ha := (pda_cons (pdv 2) (pda_cons pd_int (pda_cons (pd_sub (pdv 0) pd_int) pda_nil))))) (pd_and (pd_call (ok_is_within T B) hr (ha := (pda_cons (pdv 3) (pda_cons pd_int (pda_cons (pd_glob T.c_MOST_SIZE) pda_nil))))) (pd_one (pd_isi "bool" B B.bool (by decide +kernel) (pdv 4)))))) pds_nil))))
abbrev N_come_right : List Str := ["many", "thing", "one"]
theorem sc_come_right : FnScope N_come_right ["many", "thing"] (defScope s_come_right) := ⟨rfl, rfl, rfl, by decide +kernel, rfl, by decide +kernel, by decide +kernel⟩
def F_come_right : List PyData → Option PyData := runD 3 ((sSeq (sRet (eAnd (eIsi "tuple" (eVar 1)) (eAnd (eLe (eLen (eVar 1)) (eC (.int 64))) (eAll (eLc (List.map (fun p : Str × Nat => p.2) [("one", 2)]) (iTupD (eVar 1)) (gNm 2) (eCall F_is_comer (aCons (eVar 0) (aCons (eVar 2) aNil)))))))) sNil))
theorem ok_come_right (T : Txt K mg) (B : Blt mg) : DefD P w K mg base "come_right" 2 4 F_come_right := by
  obtain ⟨f, fd, F, hm⟩ := T.a_come_right.ex
  exact FunD_okD F hm (F.bindsN fun _ _ _ _ _ _ us hl => match us, hl with | [_, _], _ => rfl) rfl sc_come_right (fun cdv A outer s H E hr => (pds_cons (pds_ret (pd_and (pd_isi "tuple" B B.tuple (by decide +kernel) (pdv 1)) (pd_and (pd_le (pd_len B (pdv 1)) (pd_glob T.c_MOST_COMERS)) (pd_one (pd_all B (pd_lc (sc := defScope s_come_right) [("one", 2)] (pdi_tup (pdv 1)) (blkOk_by (N := N_come_right) (sc := defScope s_come_right) (by decide +kernel)) (by decide) sc_come_right.nd (fun _ _ _ _ _ => (pdg_nm 2 sc_come_right.nd)) (fun _ _ _ _ _ => (pd_call (ok_is_comer T B) hr (ha := (pda_cons (pdv 0) (pda_cons (pdv 2) pda_nil))))))))))) pds_nil))
abbrev N_need_many : List Str := ["many"]
theorem sc_need_many : FnScope N_need_many ["many"] (defScope s_need_many) := ⟨rfl, rfl, rfl, by decide +kernel, rfl, by decide +kernel, by decide +kernel⟩
def F_need_many : List PyData → Option PyData := runD 1 ((sSeq (sIf (cNot (cVal (eCall F_is_within (aCons (eVar 0) (aCons (eC (.int 1)) (aCons (eC (.int 8)) aNil)))))) (sSeq sNever sNil) sNil) sNil))
theorem ok_need_many (T : Txt K mg) (B : Blt mg) : DefD P w K mg base "need_many" 1 3 F_need_many := by
  obtain ⟨f, fd, F, hm⟩ := T.a_need_many.ex
  exact FunD_okD F hm (F.bindsN fun _ _ _ _ _ _ us hl => match us, hl with | [_], _ => rfl) rfl sc_need_many (fun cdv A outer s H E hr => (pds_cons (pds_if (pdt_not (pdt_val (pd_call (ok_is_within T B) hr (ha := (pda_cons (pdv 0) (pda_cons pd_int (pda_cons (pd_glob T.c_MOST_STREAMS_comers) pda_nil))))))) (pds_cons pds_never pds_nil) pds_nil) pds_nil))
abbrev N_are_comers : List Str := ["many", "thing"]
theorem sc_are_comers : FnScope N_are_comers ["many", "thing"] (defScope s_are_comers) := ⟨rfl, rfl, rfl, by decide +kernel, rfl, by decide +kernel, by decide +kernel⟩
def F_are_comers : List PyData → Option PyData := runD 2 ((sSeq (sExp (eCall F_need_many (aCons (eVar 0) aNil))) (sSeq (sRet (eCall F_come_right (aCons (eVar 0) (aCons (eVar 1) aNil)))) sNil)))
theorem ok_are_comers (T : Txt K mg) (B : Blt mg) : DefD P w K mg base "are_comers" 2 5 F_are_comers := by
  obtain ⟨f, fd, F, hm⟩ := T.a_are_comers.ex
  exact FunD_okD F hm (F.bindsN fun _ _ _ _ _ _ us hl => match us, hl with | [_, _], _ => rfl) rfl sc_are_comers (fun cdv A outer s H E hr => (pds_cons (pds_exp (pd_call (ok_need_many T B) hr (ha := (pda_cons (pdv 0) pda_nil)))) (pds_cons (pds_ret (pd_call (ok_come_right T B) hr (ha := (pda_cons (pdv 0) (pda_cons (pdv 1) pda_nil))))) pds_nil)))
abbrev N_need_comers : List Str := ["many", "thing"]
theorem sc_need_comers : FnScope N_need_comers ["many", "thing"] (defScope s_need_comers) := ⟨rfl, rfl, rfl, by decide +kernel, rfl, by decide +kernel, by decide +kernel⟩
def F_need_comers : List PyData → Option PyData := runD 2 ((sSeq (sIf (cNot (cVal (eCall F_are_comers (aCons (eVar 0) (aCons (eVar 1) aNil))))) (sSeq sNever sNil) sNil) sNil))
theorem ok_need_comers (T : Txt K mg) (B : Blt mg) : DefD P w K mg base "need_comers" 2 6 F_need_comers := by
  obtain ⟨f, fd, F, hm⟩ := T.a_need_comers.ex
  exact FunD_okD F hm (F.bindsN fun _ _ _ _ _ _ us hl => match us, hl with | [_, _], _ => rfl) rfl sc_need_comers (fun cdv A outer s H E hr => (pds_cons (pds_if (pdt_not (pdt_val (pd_call (ok_are_comers T B) hr (ha := (pda_cons (pdv 0) (pda_cons (pdv 1) pda_nil)))))) (pds_cons pds_never pds_nil) pds_nil) pds_nil))
abbrev N_root_of : List Str := ["number", "bit", "found"]
theorem sc_root_of : FnScope N_root_of ["number"] (defScope s_root_of) := ⟨rfl, rfl, rfl, by decide +kernel, rfl, by decide +kernel, by decide +kernel⟩
def F_root_of : List PyData → Option PyData := runD 3 ((sSeq (sAsg (eC (.int 1)) (gNm 1)) (sSeq (sWhile 8 (cLe (eMul (eVar 1) (eVar 1)) (eVar 0)) (sSeq (sAug 1 fShl (eC (.int 1))) sNil)) (sSeq (sAsg (eC (.int 0)) (gNm 2)) (sSeq (sWhile 8 (cGt (eVar 1) (eC (.int 0))) (sSeq (sIf (cLe (eMul (eOr (eVar 2) (eVar 1)) (eOr (eVar 2) (eVar 1))) (eVar 0)) (sSeq (sAug 2 fOr (eVar 1)) sNil) sNil) (sSeq (sAug 1 fShr (eC (.int 1))) sNil))) (sSeq (sRet (eVar 2)) sNil))))))
theorem ok_root_of (T : Txt K mg) (B : Blt mg) : DefD P w K mg base "root_of" 1 1 F_root_of := by
  obtain ⟨f, fd, F, hm⟩ := T.a_root_of.ex
  exact FunD_okD F hm (F.bindsN fun _ _ _ _ _ _ us hl => match us, hl with | [_], _ => rfl) rfl sc_root_of (fun cdv A outer s H E hr => (pds_cons (pds_set 1 sc_root_of.nd pd_int) (pds_cons (pds_while 8 PassesOwn.never (pdt_le (pd_mul (pdv 1) (pdv 1)) (pdv 0)) (pds_cons (pds_aug 1 iop_shl rok_shl sc_root_of.nd pd_int) pds_nil)) (pds_cons (pds_set 2 sc_root_of.nd pd_int) (pds_cons (pds_while 8 PassesOwn.never (pdt_gt (pdv 1) pd_int) (pds_cons (pds_if (pdt_le (pd_mul (pd_or_ (pdv 2) (pdv 1)) (pd_or_ (pdv 2) (pdv 1))) (pdv 0)) (pds_cons (pds_aug 2 iop_or rok_orI sc_root_of.nd (pdv 1)) pds_nil) pds_nil) (pds_cons (pds_aug 1 iop_shr rok_shr sc_root_of.nd pd_int) pds_nil))) (pds_cons (pds_ret (pdv 2)) pds_nil))))))
abbrev N_gap_of : List Str := ["span", "count"]
theorem sc_gap_of : FnScope N_gap_of ["span", "count"] (defScope s_gap_of) := ⟨rfl, rfl, rfl, by decide +kernel, rfl, by decide +kernel, by decide +kernel⟩
def F_gap_of : List PyData → Option PyData := runD 2 ((sSeq (sRet (eCall F_root_of (aCons (eDiv (eMul (eVar 0) (eVar 0)) (eVar 1)) aNil))) sNil))
theorem ok_gap_of (T : Txt K mg) (B : Blt mg) : DefD P w K mg base "gap_of" 2 2 F_gap_of := by
  obtain ⟨f, fd, F, hm⟩ := T.a_gap_of.ex
  exact FunD_okD F hm (F.bindsN fun _ _ _ _ _ _ us hl => match us, hl with | [_, _], _ => rfl) rfl sc_gap_of (fun cdv A outer s H E hr => (pds_cons (pds_ret (pd_call (ok_root_of T B) hr (ha := (pda_cons (pd_div (pd_mul (pdv 0) (pdv 0)) (pdv 1)) pda_nil)))) pds_nil))
abbrev N_gap : List Str := ["span", "count"]
theorem sc_gap : FnScope N_gap ["span", "count"] (defScope s_gap) := ⟨rfl, rfl, rfl, by decide +kernel, rfl, by decide +kernel, by decide +kernel⟩
def F_gap : List PyData → Option PyData := runD 2 ((sSeq (sExp (eCall F_need_within (aCons (eVar 0) (aCons (eC (.int 1)) (aCons (eC (.int 99)) aNil))))) (sSeq (sExp (eCall F_need_within (aCons (eVar 1) (aCons (eC (.int 1)) (aCons (eMul (eVar 0) (eVar 0)) aNil))))) (sSeq (sRet (eCall F_gap_of (aCons (eVar 0) (aCons (eVar 1) aNil)))) sNil))))
theorem ok_gap (T : Txt K mg) (B : Blt mg) : DefD P w K mg base "gap" 2 4 F_gap := by
  obtain ⟨f, fd, F, hm⟩ := T.a_gap.ex
  exact FunD_okD F hm (F.bindsN fun _ _ _ _ _ _ us hl => match us, hl with | [_, _], _ => rfl) rfl sc_gap (fun cdv A outer s H E hr => (pds_cons (pds_exp (pd_call (ok_need_within T B) hr (ha := (pda_cons (pdv 0) (pda_cons pd_int (pda_cons (pd_glob T.c_MOST_SPAN) pda_nil)))))) (pds_cons (pds_exp (pd_call (ok_need_within T B) hr (ha := (pda_cons (pdv 1) (pda_cons pd_int (pda_cons (pd_mul (pdv 0) (pdv 0)) pda_nil)))))) (pds_cons (pds_ret (pd_call (ok_gap_of T B) hr (ha := (pda_cons (pdv 0) (pda_cons (pdv 1) pda_nil))))) pds_nil))))
end
end KW
namespace KW
open PySem PySem.Spec L2
section
variable {P : Program} {w : World} {K : PySem.W.Frag} {mg : Str → Option Value} {base : Heap}
abbrev N_is_late : List Str := ["thing", "word", "parts", "part"]
theorem sc_is_late : FnScope N_is_late ["thing"] (defScope s_is_late) := ⟨rfl, rfl, rfl, by decide +kernel, rfl, by decide +kernel, by decide +kernel⟩
def F_is_late : List PyData → Option PyData := runD 4 ((sSeq (sIf (cOr (cNot (cVal (eIsi "tuple" (eVar 0)))) (cNe (eLen (eVar 0)) (eC (.int 3)))) (sSeq (sRet (eC (.bool false))) sNil) sNil) (sSeq (sAsg (eVar 0) (gStar 1 (gsCons (gNm 1) (gsCons (gNm 2) gsNil)))) (sSeq (sRet (eAnd (eIsi "str" (eVar 1)) (eAnd (eEq (eVar 1) (eC (.str "late"))) (eAll (eLc (List.map (fun p : Str × Nat => p.2) [("part", 3)]) (iLstD (eVar 2)) (gNm 3) (eCall F_is_within (aCons (eVar 3) (aCons (eC (.int 1)) (aCons (eC (.int 99)) aNil))))))))) sNil))))
theorem ok_is_late (T : Txt K mg) (B : Blt mg) : DefD P w K mg base "is_late" 1 3 F_is_late := by
  obtain ⟨f, fd, F, hm⟩ := T.a_is_late.ex
  exact FunD_okD F hm (F.bindsN fun _ _ _ _ _ _ us hl => match us, hl with | [_], _ => rfl) rfl sc_is_late (fun cdv A outer s H E hr => (pds_cons (pds_if (pdt_w (pdw_or (pdt_not (pdt_val (pd_isi "tuple" B B.tuple (by decide +kernel) (pdv 0)))) (pdw_or1 (pdt_ne hr.units (pd_len B (pdv 0)) pd_int)))) (pds_cons (pds_ret pd_bl) pds_nil) pds_nil) (pds_cons (pds_asg (pdv 0) (pdg_star 1 (pdgs_cons (pdg_nm 1 sc_is_late.nd) (pdgs_star (pdg_nm 2 sc_is_late.nd) pdgs_nil)))) (pds_cons (pds_ret (pd_and (pd_isi "str" B B.str (by decide +kernel) (pdv 1)) (pd_and (pd_eq hr.units (pdv 1) (pd_glob T.c_LATE)) (pd_one (pd_all B (pd_lc (sc := defScope s_is_late) [("part", 3)] (pdi_lst (pdv 2)) (blkOk_by (N := N_is_late) (sc := defScope s_is_late) (by decide +kernel)) (by decide) sc_is_late.nd (fun _ _ _ _ _ => (pdg_nm 3 sc_is_late.nd)) (fun _ _ _ _ _ => (pd_call (ok_is_within T B) hr (ha := (pda_cons (pdv 3) (pda_cons pd_int (pda_cons (pd_glob T.c_MOST_late) pda_nil)))))))))))) pds_nil))))
abbrev N_need_late : List Str := ["thing"]
theorem sc_need_late : FnScope N_need_late ["thing"] (defScope s_need_late) := ⟨rfl, rfl, rfl, by decide +kernel, rfl, by decide +kernel, by decide +kernel⟩
def F_need_late : List PyData → Option PyData := runD 1 ((sSeq (sIf (cNot (cVal (eCall F_is_late (aCons (eVar 0) aNil)))) (sSeq sNever sNil) sNil) sNil))
theorem ok_need_late (T : Txt K mg) (B : Blt mg) : DefD P w K mg base "need_late" 1 4 F_need_late := by
  obtain ⟨f, fd, F, hm⟩ := T.a_need_late.ex
  exact FunD_okD F hm (F.bindsN fun _ _ _ _ _ _ us hl => match us, hl with | [_], _ => rfl) rfl sc_need_late (fun cdv A outer s H E hr => (pds_cons (pds_if (pdt_not (pdt_val (pd_call (ok_is_late T B) hr (ha := (pda_cons (pdv 0) pda_nil))))) (pds_cons pds_never pds_nil) pds_nil) pds_nil))
abbrev N_is_late_memory : List Str := ["rule", "thing", "age", "left", "count", "span"]
theorem sc_is_late_memory : FnScope N_is_late_memory ["rule", "thing"] (defScope s_is_late_memory) := ⟨rfl, rfl, rfl, by decide +kernel, rfl, by decide +kernel, by decide +kernel⟩
def F_is_late_memory : List PyData → Option PyData := runD 6 ((sSeq (sExp (eCall F_need_late (aCons (eVar 0) aNil))) (sSeq (sIf (cOr (cNot (cVal (eIsi "tuple" (eVar 1)))) (cNe (eLen (eVar 1)) (eC (.int 3)))) (sSeq (sRet (eC (.bool false))) sNil) sNil) (sSeq (sAsg (eTup (aCons (eVar 1) (aCons (eIx (eVar 0) 2) aNil))) (gT (gsCons (gT (gsCons (gNm 2) (gsCons (gNm 3) (gsCons (gNm 4) gsNil)))) (gsCons (gNm 5) gsNil)))) (sSeq (sIf (cOr (cNot (cVal (eCall F_is_within (aCons (eVar 4) (aCons (eC (.int 0)) (aCons (eMul (eVar 5) (eVar 5)) aNil)))))) (cAnd (cNotN (eVar 2) (eC .none)) (cNot (cVal (eCall F_is_within (aCons (eVar 2) (aCons (eC (.int 0)) (aCons (eVar 5) aNil)))))))) (sSeq (sRet (eC (.bool false))) sNil) sNil) (sSeq (sRet (eOrV (eIsN (eVar 3) (eC .none)) (eAnd (eEq (eVar 2) (eVar 5)) (eCall F_is_within (aCons (eVar 3) (aCons (eC (.int 0)) (aCons (eVar 5) aNil))))))) sNil))))))
theorem ok_is_late_memory (T : Txt K mg) (B : Blt mg) : DefD P w K mg base "is_late_memory" 2 5 F_is_late_memory := by
  obtain ⟨f, fd, F, hm⟩ := T.a_is_late_memory.ex
  exact FunD_okD F hm (F.bindsN fun _ _ _ _ _ _ us hl => match us, hl with | [_, _], _ => rfl) rfl sc_is_late_memory (fun cdv A outer s H E hr => (pds_cons (pds_exp (pd_call (ok_need_late T B) hr (ha := (pda_cons (pdv 0) pda_nil)))) (pds_cons (pds_if (pdt_w (pdw_or (pdt_not (pdt_val (pd_isi "tuple" B B.tuple (by decide +kernel) (pdv 1)))) (pdw_or1 (pdt_ne hr.units (pd_len B (pdv 1)) pd_int)))) (pds_cons (pds_ret pd_bl) pds_nil) pds_nil) (pds_cons (pds_asg (pd_tup (pda_cons (pdv 1) (pda_cons (pd_ix (i := 2) (pdv 0)) pda_nil))) (pdg_tup (pdgs_cons (pdg_tup (pdgs_cons (pdg_nm 2 sc_is_late_memory.nd) (pdgs_cons (pdg_nm 3 sc_is_late_memory.nd) (pdgs_cons (pdg_nm 4 sc_is_late_memory.nd) pdgs_nil)))) (pdgs_cons (pdg_nm 5 sc_is_late_memory.nd) pdgs_nil)))) (pds_cons (pds_if (pdt_w (pdw_or (pdt_not (pdt_val (pd_call (ok_is_within T B) hr (ha := (pda_cons (pdv 4) (pda_cons pd_int (pda_cons (pd_mul (pdv 5) (pdv 5)) pda_nil))))))) (pdw_or1 (pdt_w (pdw_and (pdt_notN (pdv 2) pd_non) (pdw_and1 (pdt_not (pdt_val (pd_call (ok_is_within T B) hr (ha := (pda_cons (pdv 2) (pda_cons pd_int (pda_cons (pdv 5) pda_nil))))))))))))) (pds_cons (pds_ret pd_bl) pds_nil) pds_nil) (pds_cons (pds_ret (pd_or (pd_isN (pdv 3) pd_non) (pd_one (pd_and (pd_eq hr.units (pdv 2) (pdv 5)) (pd_one (pd_call (ok_is_within T B) hr (ha := (pda_cons (pdv 3) (pda_cons pd_int (pda_cons (pdv 5) pda_nil)))))))))) pds_nil))))))
abbrev N_need_late_memory : List Str := ["rule", "thing"]
theorem sc_need_late_memory : FnScope N_need_late_memory ["rule", "thing"] (defScope s_need_late_memory) := ⟨rfl, rfl, rfl, by decide +kernel, rfl, by decide +kernel, by decide +kernel⟩
def F_need_late_memory : List PyData → Option PyData := runD 2 ((sSeq (sIf (cNot (cVal (eCall F_is_late_memory (aCons (eVar 0) (aCons (eVar 1) aNil))))) (sSeq sNever sNil) sNil) sNil))
theorem ok_need_late_memory (T : Txt K mg) (B : Blt mg) : DefD P w K mg base "need_late_memory" 2 6 F_need_late_memory := by
  obtain ⟨f, fd, F, hm⟩ := T.a_need_late_memory.ex
  exact FunD_okD F hm (F.bindsN fun _ _ _ _ _ _ us hl => match us, hl with | [_, _], _ => rfl) rfl sc_need_late_memory (fun cdv A outer s H E hr => (pds_cons (pds_if (pdt_not (pdt_val (pd_call (ok_is_late_memory T B) hr (ha := (pda_cons (pdv 0) (pda_cons (pdv 1) pda_nil)))))) (pds_cons pds_never pds_nil) pds_nil) pds_nil))
abbrev N_late_first : List Str := ["rule"]
theorem sc_late_first : FnScope N_late_first ["rule"] (defScope s_late_first) := ⟨rfl, rfl, rfl, by decide +kernel, rfl, by decide +kernel, by decide +kernel⟩
def F_late_first : List PyData → Option PyData := runD 1 ((sSeq (sExp (eCall F_need_late (aCons (eVar 0) aNil))) (sSeq (sRet (eTup (aCons (eC .none) (aCons (eC .none) (aCons (eC (.int 0)) aNil))))) sNil)))
theorem ok_late_first (T : Txt K mg) (B : Blt mg) : DefD P w K mg base "late_first" 1 5 F_late_first := by
  obtain ⟨f, fd, F, hm⟩ := T.a_late_first.ex
  exact FunD_okD F hm (F.bindsN fun _ _ _ _ _ _ us hl => match us, hl with | [_], _ => rfl) rfl sc_late_first (fun cdv A outer s H E hr => (pds_cons (pds_exp (pd_call (ok_need_late T B) hr (ha := (pda_cons (pdv 0) pda_nil)))) (pds_cons (pds_ret (pd_tup (pda_cons pd_non (pda_cons pd_non (pda_cons pd_int pda_nil))))) pds_nil)))
abbrev N_late_looked : List Str := ["rule", "memory", "wait", "alone", "age", "left", "count", "word", "mark", "span"]
theorem sc_late_looked : FnScope N_late_looked ["rule", "memory", "wait", "alone"] (defScope s_late_looked) := ⟨rfl, rfl, rfl, by decide +kernel, rfl, by decide +kernel, by decide +kernel⟩
def F_late_looked : List PyData → Option PyData := runD 10 ((sSeq (sExp (eCall F_need_late_memory (aCons (eVar 0) (aCons (eVar 1) aNil)))) (sSeq (sExp (eCall F_need_within (aCons (eVar 2) (aCons (eC (.int 0)) (aCons (eC (.int 1000000)) aNil))))) (sSeq (sAsg (eTup (aCons (eVar 1) (aCons (eVar 0) aNil))) (gT (gsCons (gT (gsCons (gNm 4) (gsCons (gNm 5) (gsCons (gNm 6) gsNil)))) (gsCons (gT (gsCons (gNm 7) (gsCons (gNm 8) (gsCons (gNm 9) gsNil)))) gsNil)))) (sSeq (sIf (cOr (cLt (eVar 2) (eVar 8)) (cVal (eVar 3))) (sSeq (sRet (eTup (aCons (eTup (aCons (eC .none) (aCons (eC .none) (aCons (eVar 6) aNil)))) (aCons (eC (.bool false)) aNil)))) sNil) sNil) (sSeq (sAsg (eIf (cIsN (eVar 4) (eC .none)) (eC (.int 0)) (eVar 4)) (gNm 4)) (sSeq (sIf (cOr (cLt (eVar 4) (eVar 9)) (cAnd (cNotN (eVar 5) (eC .none)) (cGt (eVar 5) (eC (.int 0))))) (sSeq (sRet (eTup (aCons (eTup (aCons (eVar 4) (aCons (eVar 5) (aCons (eVar 6) aNil)))) (aCons (eC (.bool false)) aNil)))) sNil) sNil) (sSeq (sAsg (eIf (cIsN (eVar 5) (eC .none)) (eAdd (eDiv (eVar 6) (eC (.int 2))) (eC (.int 1))) (eMin (eAdd (eVar 6) (eC (.int 1))) (eMul (eVar 9) (eVar 9)))) (gNm 6)) (sSeq (sRet (eTup (aCons (eTup (aCons (eVar 4) (aCons (eCall F_gap (aCons (eVar 9) (aCons (eVar 6) aNil))) (aCons (eVar 6) aNil)))) (aCons (eC (.bool true)) aNil)))) sNil)))))))))
theorem ok_late_looked (T : Txt K mg) (B : Blt mg) : DefKw P w K mg base "late_looked" "alone" 3 7 F_late_looked := by
  obtain ⟨f, fd, F, hm⟩ := T.k_late_looked.ex
  obtain ⟨mv, hb⟩ := F.kbinds0 (ps := ["rule", "memory", "wait", "alone"]) 3 ["alone"] [] (fun us _ ws => us ++ ws) (by simp) (by simp) (fun r1 _ r3 => r1.append r3) (fun D doc pm an cdv ct us mv ws h1 h2 h3 => match us, mv, ws, h1, h2, h3 with | [_, _, _], [], [_], _, _, _ => rfl)
  exact FunKw_okD F hm hb rfl sc_late_looked (fun cdv A outer s H E hr => (pds_cons (pds_exp (pd_call (ok_need_late_memory T B) hr (ha := (pda_cons (pdv 0) (pda_cons (pdv 1) pda_nil))))) (pds_cons (pds_exp (pd_call (ok_need_within T B) hr (ha := (pda_cons (pdv 2) (pda_cons pd_int (pda_cons (pd_glob T.c_MOST_WAIT_late) pda_nil)))))) (pds_cons (pds_asg (pd_tup (pda_cons (pdv 1) (pda_cons (pdv 0) pda_nil))) (pdg_tup (pdgs_cons (pdg_tup (pdgs_cons (pdg_nm 4 sc_late_looked.nd) (pdgs_cons (pdg_nm 5 sc_late_looked.nd) (pdgs_cons (pdg_nm 6 sc_late_looked.nd) pdgs_nil)))) (pdgs_cons (pdg_tup (pdgs_cons (pdg_nm 7 sc_late_looked.nd) (pdgs_cons (pdg_nm 8 sc_late_looked.nd) (pdgs_cons (pdg_nm 9 sc_late_looked.nd) pdgs_nil)))) pdgs_nil)))) (pds_cons (pds_if (pdt_w (pdw_or (pdt_lt (pdv 2) (pdv 8)) (pdw_or1 (pdt_val (pdv 3))))) (pds_cons (pds_ret (pd_tup (pda_cons (pd_tup (pda_cons pd_non (pda_cons pd_non (pda_cons (pdv 6) pda_nil)))) (pda_cons pd_bl pda_nil)))) pds_nil) pds_nil) (pds_cons (pds_set 4 sc_late_looked.nd (pd_if (pdt_isN (pdv 4) pd_non) pd_int (pdv 4))) (pds_cons (pds_if (pdt_w (pdw_or (pdt_lt (pdv 4) (pdv 9)) (pdw_or1 (pdt_w (pdw_and (pdt_notN (pdv 5) pd_non) (pdw_and1 (pdt_gt (pdv 5) pd_int))))))) (pds_cons (pds_ret (pd_tup (pda_cons (pd_tup (pda_cons (pdv 4) (pda_cons (pdv 5) (pda_cons (pdv 6) pda_nil)))) (pda_cons pd_bl pda_nil)))) pds_nil) pds_nil) (pds_cons (pds_set 6 sc_late_looked.nd (pd_if (pdt_isN (pdv 5) pd_non) (pd_add (pd_div (pdv 6) pd_int) pd_int) (pd_min B (pd_add (pdv 6) pd_int) (pd_mul (pdv 9) (pdv 9))))) (pds_cons (pds_ret (pd_tup (pda_cons (pd_tup (pda_cons (pdv 4) (pda_cons (pd_call (ok_gap T B) hr (ha := (pda_cons (pdv 9) (pda_cons (pdv 6) pda_nil)))) (pda_cons (pdv 6) pda_nil)))) (pda_cons pd_bl pda_nil)))) pds_nil)))))))))
abbrev N_late_passed : List Str := ["rule", "memory", "age", "left", "count"]
theorem sc_late_passed : FnScope N_late_passed ["rule", "memory"] (defScope s_late_passed) := ⟨rfl, rfl, rfl, by decide +kernel, rfl, by decide +kernel, by decide +kernel⟩
def F_late_passed : List PyData → Option PyData := runD 5 ((sSeq (sExp (eCall F_need_late_memory (aCons (eVar 0) (aCons (eVar 1) aNil)))) (sSeq (sAsg (eVar 1) (gT (gsCons (gNm 2) (gsCons (gNm 3) (gsCons (gNm 4) gsNil))))) (sSeq (sIf (cNotN (eVar 2) (eC .none)) (sSeq (sAsg (eMin (eAdd (eVar 2) (eC (.int 1))) (eIx (eVar 0) 2)) (gNm 2)) sNil) sNil) (sSeq (sIf (cNotN (eVar 3) (eC .none)) (sSeq (sAsg (eMax (eSub (eVar 3) (eC (.int 1))) (eC (.int 0))) (gNm 3)) sNil) sNil) (sSeq (sRet (eTup (aCons (eVar 2) (aCons (eVar 3) (aCons (eVar 4) aNil))))) sNil))))))
theorem ok_late_passed (T : Txt K mg) (B : Blt mg) : DefD P w K mg base "late_passed" 2 7 F_late_passed := by
  obtain ⟨f, fd, F, hm⟩ := T.a_late_passed.ex
  exact FunD_okD F hm (F.bindsN fun _ _ _ _ _ _ us hl => match us, hl with | [_, _], _ => rfl) rfl sc_late_passed (fun cdv A outer s H E hr => (pds_cons (pds_exp (pd_call (ok_need_late_memory T B) hr (ha := (pda_cons (pdv 0) (pda_cons (pdv 1) pda_nil))))) (pds_cons (pds_asg (pdv 1) (pdg_tup (pdgs_cons (pdg_nm 2 sc_late_passed.nd) (pdgs_cons (pdg_nm 3 sc_late_passed.nd) (pdgs_cons (pdg_nm 4 sc_late_passed.nd) pdgs_nil))))) (pds_cons (pds_if (pdt_notN (pdv 2) pd_non) (pds_cons (pds_set 2 sc_late_passed.nd (pd_min B (pd_add (pdv 2) pd_int) (pd_ix (i := 2) (pdv 0)))) pds_nil) pds_nil) (pds_cons (pds_if (pdt_notN (pdv 3) pd_non) (pds_cons (pds_set 3 sc_late_passed.nd (pd_max B (pd_sub (pdv 3) pd_int) pd_int)) pds_nil) pds_nil) (pds_cons (pds_ret (pd_tup (pda_cons (pdv 2) (pda_cons (pdv 3) (pda_cons (pdv 4) pda_nil))))) pds_nil))))))
abbrev N_is_share : List Str := ["thing", "word", "mark", "period", "steps", "step"]
theorem sc_is_share : FnScope N_is_share ["thing"] (defScope s_is_share) := ⟨rfl, rfl, rfl, by decide +kernel, rfl, by decide +kernel, by decide +kernel⟩
def F_is_share : List PyData → Option PyData := runD 6 ((sSeq (sIf (cOr (cNot (cVal (eIsi "tuple" (eVar 0)))) (cNe (eLen (eVar 0)) (eC (.int 5)))) (sSeq (sRet (eC (.bool false))) sNil) sNil) (sSeq (sAsg (eVar 0) (gStar 3 (gsCons (gNm 1) (gsCons (gNm 2) (gsCons (gNm 3) (gsCons (gNm 4) gsNil)))))) (sSeq (sIf (cOr (cNot (cVal (eIsi "str" (eVar 1)))) (cOr (cNe (eVar 1) (eC (.str "share"))) (cOr (cNot (cVal (eCall F_is_within (aCons (eVar 2) (aCons (eC (.int 1)) (aCons (eC (.int 99)) aNil)))))) (cNot (cVal (eCall F_is_within (aCons (eVar 3) (aCons (eC (.int 1)) (aCons (eC (.int 99)) aNil))))))))) (sSeq (sRet (eC (.bool false))) sNil) sNil) (sSeq (sRet (eAll (eLc (List.map (fun p : Str × Nat => p.2) [("step", 5)]) (iLstD (eVar 4)) (gNm 5) (eCall F_is_within (aCons (eVar 5) (aCons (eC (.int 0)) (aCons (eC (.int 999)) aNil))))))) sNil)))))
theorem ok_is_share (T : Txt K mg) (B : Blt mg) : DefD P w K mg base "is_share" 1 3 F_is_share := by
  obtain ⟨f, fd, F, hm⟩ := T.a_is_share.ex
  exact FunD_okD F hm (F.bindsN fun _ _ _ _ _ _ us hl => match us, hl with | [_], _ => rfl) rfl sc_is_share (fun cdv A outer s H E hr => (pds_cons (pds_if (pdt_w (pdw_or (pdt_not (pdt_val (pd_isi "tuple" B B.tuple (by decide +kernel) (pdv 0)))) (pdw_or1 (pdt_ne hr.units (pd_len B (pdv 0)) pd_int)))) (pds_cons (pds_ret pd_bl) pds_nil) pds_nil) (pds_cons (pds_asg (pdv 0) (pdg_star 3 (pdgs_cons (pdg_nm 1 sc_is_share.nd) (pdgs_cons (pdg_nm 2 sc_is_share.nd) (pdgs_cons (pdg_nm 3 sc_is_share.nd) (pdgs_star (pdg_nm 4 sc_is_share.nd) pdgs_nil)))))) (pds_cons (pds_if (pdt_w (pdw_or (pdt_not (pdt_val (pd_isi "str" B B.str (by decide +kernel) (pdv 1)))) (pdw_or (pdt_ne hr.units (pdv 1) (pd_glob T.c_SHARE)) (pdw_or (pdt_not (pdt_val (pd_call (ok_is_within T B) hr (ha := (pda_cons (pdv 2) (pda_cons pd_int (pda_cons (pd_glob T.c_MOST_late) pda_nil))))))) (pdw_or1 (pdt_not (pdt_val (pd_call (ok_is_within T B) hr (ha := (pda_cons (pdv 3) (pda_cons pd_int (pda_cons (pd_glob T.c_MOST_late) pda_nil)))))))))))) (pds_cons (pds_ret pd_bl) pds_nil) pds_nil) (pds_cons (pds_ret (pd_all B (pd_lc (sc := defScope s_is_share) [("step", 5)] (pdi_lst (pdv 4)) (blkOk_by (N := N_is_share) (sc := defScope s_is_share) (by decide +kernel)) (by decide) sc_is_share.nd (fun _ _ _ _ _ => (pdg_nm 5 sc_is_share.nd)) (fun _ _ _ _ _ => (pd_call (ok_is_within T B) hr (ha := (pda_cons (pdv 5) (pda_cons pd_int (pda_cons (pd_glob T.c_MOST_STEP) pda_nil))))))))) pds_nil)))))
abbrev N_need_share : List Str := ["thing"]
theorem sc_need_share : FnScope N_need_share ["thing"] (defScope s_need_share) := ⟨rfl, rfl, rfl, by decide +kernel, rfl, by decide +kernel, by decide +kernel⟩
def F_need_share : List PyData → Option PyData := runD 1 ((sSeq (sIf (cNot (cVal (eCall F_is_share (aCons (eVar 0) aNil)))) (sSeq sNever sNil) sNil) sNil))
theorem ok_need_share (T : Txt K mg) (B : Blt mg) : DefD P w K mg base "need_share" 1 4 F_need_share := by
  obtain ⟨f, fd, F, hm⟩ := T.a_need_share.ex
  exact FunD_okD F hm (F.bindsN fun _ _ _ _ _ _ us hl => match us, hl with | [_], _ => rfl) rfl sc_need_share (fun cdv A outer s H E hr => (pds_cons (pds_if (pdt_not (pdt_val (pd_call (ok_is_share T B) hr (ha := (pda_cons (pdv 0) pda_nil))))) (pds_cons pds_never pds_nil) pds_nil) pds_nil))
abbrev N_is_share_memory : List Str := ["rule", "thing", "most", "part", "bound"]
theorem sc_is_share_memory : FnScope N_is_share_memory ["rule", "thing"] (defScope s_is_share_memory) := ⟨rfl, rfl, rfl, by decide +kernel, rfl, by decide +kernel, by decide +kernel⟩
def F_is_share_memory : List PyData → Option PyData := runD 5 ((sSeq (sExp (eCall F_need_share (aCons (eVar 0) aNil))) (sSeq (sIf (cOr (cNot (cVal (eIsi "tuple" (eVar 1)))) (cNe (eLen (eVar 1)) (eC (.int 4)))) (sSeq (sRet (eC (.bool false))) sNil) sNil) (sSeq (sAsg (eTup (aCons (eSub (eIx (eVar 0) 2) (eC (.int 1))) (aCons (eC (.int 1000)) (aCons (eC (.int 99)) (aCons (eSub (eC (.int 1000)) (eC (.int 1))) aNil))))) (gNm 2)) (sSeq (sRet (eAll (eLc (List.map (fun p : Str × Nat => p.2) [("part", 3), ("bound", 4)]) (iZipS (eVar 1) (eVar 2)) (gT (gsCons (gNm 3) (gsCons (gNm 4) gsNil))) (eCall F_is_within (aCons (eVar 3) (aCons (eC (.int 0)) (aCons (eVar 4) aNil))))))) sNil)))))
theorem ok_is_share_memory (T : Txt K mg) (B : Blt mg) : DefD P w K mg base "is_share_memory" 2 5 F_is_share_memory := by
  obtain ⟨f, fd, F, hm⟩ := T.a_is_share_memory.ex
  exact FunD_okD F hm (F.bindsN fun _ _ _ _ _ _ us hl => match us, hl with | [_, _], _ => rfl) rfl sc_is_share_memory (fun cdv A outer s H E hr => (pds_cons (pds_exp (pd_call (ok_need_share T B) hr (ha := (pda_cons (pdv 0) pda_nil)))) (pds_cons (pds_if (pdt_w (pdw_or (pdt_not (pdt_val (pd_isi "tuple" B B.tuple (by decide +kernel) (pdv 1)))) (pdw_or1 (pdt_ne hr.units (pd_len B (pdv 1)) pd_int)))) (pds_cons (pds_ret pd_bl) pds_nil) pds_nil) (pds_cons (pds_set 2 sc_is_share_memory.nd (pd_tup (pda_cons (pd_sub (pd_ix (i := 2) (pdv 0)) pd_int) (pda_cons (pd_glob T.c_WHOLE) (pda_cons (pd_glob T.c_MOST_OLD) (pda_cons (pd_sub (pd_glob T.c_WHOLE) pd_int) pda_nil)))))) (pds_cons (pds_ret (pd_all B (pd_lc (sc := defScope s_is_share_memory) [("part", 3), ("bound", 4)] (pdi_zipS B (pdv 1) (pdv 2)) (blkOk_by (N := N_is_share_memory) (sc := defScope s_is_share_memory) (by decide +kernel)) (by decide) sc_is_share_memory.nd (fun _ _ _ _ _ => (pdg_tup (pdgs_cons (pdg_nm 3 sc_is_share_memory.nd) (pdgs_cons (pdg_nm 4 sc_is_share_memory.nd) pdgs_nil)))) (fun _ _ _ _ _ => (pd_call (ok_is_within T B) hr (ha := (pda_cons (pdv 3) (pda_cons pd_int (pda_cons (pdv 4) pda_nil))))))))) pds_nil)))))
abbrev N_need_share_memory : List Str := ["rule", "thing"]
theorem sc_need_share_memory : FnScope N_need_share_memory ["rule", "thing"] (defScope s_need_share_memory) := ⟨rfl, rfl, rfl, by decide +kernel, rfl, by decide +kernel, by decide +kernel⟩
def F_need_share_memory : List PyData → Option PyData := runD 2 ((sSeq (sIf (cNot (cVal (eCall F_is_share_memory (aCons (eVar 0) (aCons (eVar 1) aNil))))) (sSeq sNever sNil) sNil) sNil))
theorem ok_need_share_memory (T : Txt K mg) (B : Blt mg) : DefD P w K mg base "need_share_memory" 2 6 F_need_share_memory := by
  obtain ⟨f, fd, F, hm⟩ := T.a_need_share_memory.ex
  exact FunD_okD F hm (F.bindsN fun _ _ _ _ _ _ us hl => match us, hl with | [_, _], _ => rfl) rfl sc_need_share_memory (fun cdv A outer s H E hr => (pds_cons (pds_if (pdt_not (pdt_val (pd_call (ok_is_share_memory T B) hr (ha := (pda_cons (pdv 0) (pda_cons (pdv 1) pda_nil)))))) (pds_cons pds_never pds_nil) pds_nil) pds_nil))
abbrev N_share_first : List Str := ["rule"]
theorem sc_share_first : FnScope N_share_first ["rule"] (defScope s_share_first) := ⟨rfl, rfl, rfl, by decide +kernel, rfl, by decide +kernel, by decide +kernel⟩
def F_share_first : List PyData → Option PyData := runD 1 ((sSeq (sExp (eCall F_need_share (aCons (eVar 0) aNil))) (sSeq (sRet (eTup (aCons (eC (.int 0)) (aCons (eC (.int 0)) (aCons (eC (.int 0)) (aCons (eC (.int 0)) aNil)))))) sNil)))
theorem ok_share_first (T : Txt K mg) (B : Blt mg) : DefD P w K mg base "share_first" 1 5 F_share_first := by
  obtain ⟨f, fd, F, hm⟩ := T.a_share_first.ex
  exact FunD_okD F hm (F.bindsN fun _ _ _ _ _ _ us hl => match us, hl with | [_], _ => rfl) rfl sc_share_first (fun cdv A outer s H E hr => (pds_cons (pds_exp (pd_call (ok_need_share T B) hr (ha := (pda_cons (pdv 0) pda_nil)))) (pds_cons (pds_ret (pd_tup (pda_cons pd_int (pda_cons pd_int (pda_cons pd_int (pda_cons pd_int pda_nil)))))) pds_nil)))
abbrev N_share_renewed : List Str := ["rule", "memory", "wait", "phase", "share", "old", "total", "word", "mark", "period", "up", "turn", "now"]
theorem sc_share_renewed : FnScope N_share_renewed ["rule", "memory", "wait"] (defScope s_share_renewed) := ⟨rfl, rfl, rfl, by decide +kernel, rfl, by decide +kernel, by decide +kernel⟩
def F_share_renewed : List PyData → Option PyData := runD 13 ((sSeq (sExp (eCall F_need_share_memory (aCons (eVar 0) (aCons (eVar 1) aNil)))) (sSeq (sExp (eCall F_need_within (aCons (eVar 2) (aCons (eC (.int 0)) (aCons (eC (.int 1000000)) aNil))))) (sSeq (sAsg (eVar 1) (gT (gsCons (gNm 3) (gsCons (gNm 4) (gsCons (gNm 5) (gsCons (gNm 6) gsNil)))))) (sSeq (sIf (cGt (eVar 3) (eC (.int 0))) (sSeq (sRet (eVar 1)) sNil) sNil) (sSeq (sAsg (eVar 0) (gT (gsCons (gNm 7) (gsCons (gNm 8) (gsCons (gNm 9) (gsCons (gNm 10) (gsCons (gNm 11) gsNil))))))) (sSeq (sAsg (eMin (eVar 2) (eC (.int 99))) (gNm 12)) (sSeq (sAug 4 fAddI (eAdd (eMul (eVar 10) (eSub (eVar 12) (eVar 8))) (eMul (eVar 11) (eSub (eVar 12) (eVar 5))))) (sSeq (sRet (eTup (aCons (eVar 3) (aCons (eMax (eC (.int 0)) (eMin (eVar 4) (eC (.int 1000)))) (aCons (eVar 12) (aCons (eVar 6) aNil)))))) sNil)))))))))
theorem ok_share_renewed (T : Txt K mg) (B : Blt mg) : DefD P w K mg base "share_renewed" 3 7 F_share_renewed := by
  obtain ⟨f, fd, F, hm⟩ := T.a_share_renewed.ex
  exact FunD_okD F hm (F.bindsN fun _ _ _ _ _ _ us hl => match us, hl with | [_, _, _], _ => rfl) rfl sc_share_renewed (fun cdv A outer s H E hr => (pds_cons (pds_exp (pd_call (ok_need_share_memory T B) hr (ha := (pda_cons (pdv 0) (pda_cons (pdv 1) pda_nil))))) (pds_cons (pds_exp (pd_call (ok_need_within T B) hr (ha := (pda_cons (pdv 2) (pda_cons pd_int (pda_cons (pd_glob T.c_MOST_WAIT_late) pda_nil)))))) (pds_cons (pds_asg (pdv 1) (pdg_tup (pdgs_cons (pdg_nm 3 sc_share_renewed.nd) (pdgs_cons (pdg_nm 4 sc_share_renewed.nd) (pdgs_cons (pdg_nm 5 sc_share_renewed.nd) (pdgs_cons (pdg_nm 6 sc_share_renewed.nd) pdgs_nil)))))) (pds_cons (pds_if (pdt_gt (pdv 3) pd_int) (pds_cons (pds_ret (pdv 1)) pds_nil) pds_nil) (pds_cons (pds_asg (pdv 0) (pdg_tup (pdgs_cons (pdg_nm 7 sc_share_renewed.nd) (pdgs_cons (pdg_nm 8 sc_share_renewed.nd) (pdgs_cons (pdg_nm 9 sc_share_renewed.nd) (pdgs_cons (pdg_nm 10 sc_share_renewed.nd) (pdgs_cons (pdg_nm 11 sc_share_renewed.nd) pdgs_nil))))))) (pds_cons (pds_set 12 sc_share_renewed.nd (pd_min B (pdv 2) (pd_glob T.c_MOST_OLD))) (pds_cons (pds_aug 4 iop_add rok_addI sc_share_renewed.nd (pd_add (pd_mul (pdv 10) (pd_sub (pdv 12) (pdv 8))) (pd_mul (pdv 11) (pd_sub (pdv 12) (pdv 5))))) (pds_cons (pds_ret (pd_tup (pda_cons (pdv 3) (pda_cons (pd_max B pd_int (pd_min B (pdv 4) (pd_glob T.c_WHOLE))) (pda_cons (pdv 12) (pda_cons (pdv 6) pda_nil)))))) pds_nil)))))))))
abbrev N_share_come : List Str := ["rule", "memory", "phase", "share", "old", "total", "struck"]
theorem sc_share_come : FnScope N_share_come ["rule", "memory"] (defScope s_share_come) := ⟨rfl, rfl, rfl, by decide +kernel, rfl, by decide +kernel, by decide +kernel⟩
def F_share_come : List PyData → Option PyData := runD 7 ((sSeq (sExp (eCall F_need_share_memory (aCons (eVar 0) (aCons (eVar 1) aNil)))) (sSeq (sAsg (eVar 1) (gT (gsCons (gNm 2) (gsCons (gNm 3) (gsCons (gNm 4) (gsCons (gNm 5) gsNil)))))) (sSeq (sAsg (eDivmod (eAdd (eVar 5) (eVar 3)) (eC (.int 1000))) (gT (gsCons (gNm 6) (gsCons (gNm 5) gsNil)))) (sSeq (sRet (eTup (aCons (eTup (aCons (eVar 2) (aCons (eVar 3) (aCons (eVar 4) (aCons (eVar 5) aNil))))) (aCons (eGt (eVar 6) (eC (.int 0))) aNil)))) sNil)))))
theorem ok_share_come (T : Txt K mg) (B : Blt mg) : DefD P w K mg base "share_come" 2 7 F_share_come := by
  obtain ⟨f, fd, F, hm⟩ := T.a_share_come.ex
  exact FunD_okD F hm (F.bindsN fun _ _ _ _ _ _ us hl => match us, hl with | [_, _], _ => rfl) rfl sc_share_come (fun cdv A outer s H E hr => (pds_cons (pds_exp (pd_call (ok_need_share_memory T B) hr (ha := (pda_cons (pdv 0) (pda_cons (pdv 1) pda_nil))))) (pds_cons (pds_asg (pdv 1) (pdg_tup (pdgs_cons (pdg_nm 2 sc_share_come.nd) (pdgs_cons (pdg_nm 3 sc_share_come.nd) (pdgs_cons (pdg_nm 4 sc_share_come.nd) (pdgs_cons (pdg_nm 5 sc_share_come.nd) pdgs_nil)))))) (pds_cons (pds_asg (pd_divmod B (pd_add (pdv 5) (pdv 3)) (pd_glob T.c_WHOLE)) (pdg_tup (pdgs_cons (pdg_nm 6 sc_share_come.nd) (pdgs_cons (pdg_nm 5 sc_share_come.nd) pdgs_nil)))) (pds_cons (pds_ret (pd_tup (pda_cons (pd_tup (pda_cons (pdv 2) (pda_cons (pdv 3) (pda_cons (pdv 4) (pda_cons (pdv 5) pda_nil))))) (pda_cons (pd_gt (pdv 6) pd_int) pda_nil)))) pds_nil)))))
abbrev N_share_passed : List Str := ["rule", "memory", "phase", "rest"]
theorem sc_share_passed : FnScope N_share_passed ["rule", "memory"] (defScope s_share_passed) := ⟨rfl, rfl, rfl, by decide +kernel, rfl, by decide +kernel, by decide +kernel⟩
def F_share_passed : List PyData → Option PyData := runD 4 ((sSeq (sExp (eCall F_need_share_memory (aCons (eVar 0) (aCons (eVar 1) aNil)))) (sSeq (sAsg (eVar 1) (gStar 1 (gsCons (gNm 2) (gsCons (gNm 3) gsNil)))) (sSeq (sRet (eAdd (eTup (aCons (eIf (cGt (eVar 2) (eC (.int 0))) (eSub (eVar 2) (eC (.int 1))) (eSub (eIx (eVar 0) 2) (eC (.int 1)))) aNil)) (eTupOf (eVar 3)))) sNil))))
theorem ok_share_passed (T : Txt K mg) (B : Blt mg) : DefD P w K mg base "share_passed" 2 7 F_share_passed := by
  obtain ⟨f, fd, F, hm⟩ := T.a_share_passed.ex
  exact FunD_okD F hm (F.bindsN fun _ _ _ _ _ _ us hl => match us, hl with | [_, _], _ => rfl) rfl sc_share_passed (fun cdv A outer s H E hr => (pds_cons (pds_exp (pd_call (ok_need_share_memory T B) hr (ha := (pda_cons (pdv 0) (pda_cons (pdv 1) pda_nil))))) (pds_cons (pds_asg (pdv 1) (pdg_star 1 (pdgs_cons (pdg_nm 2 sc_share_passed.nd) (pdgs_star (pdg_nm 3 sc_share_passed.nd) pdgs_nil)))) (pds_cons (pds_ret (pd_add (pd_tup (pda_cons (pd_if (pdt_gt (pdv 2) pd_int) (pd_sub (pdv 2) pd_int) (pd_sub (pd_ix (i := 2) (pdv 0)) pd_int)) pda_nil)) (pd_tupOf B (pdv 3)))) pds_nil))))
end
end KW
namespace KW
open PySem PySem.Spec L2
section
variable {P : Program} {w : World} {K : PySem.W.Frag} {mg : Str → Option Value} {base : Heap}
abbrev N_is_between : List Str := ["thing", "least", "most"]
theorem sc_is_between : FnScope N_is_between ["thing", "least", "most"] (defScope s_is_between) := ⟨rfl, rfl, rfl, by decide +kernel, rfl, by decide +kernel, by decide +kernel⟩
def F_is_between : List PyData → Option PyData := runD 3 ((sSeq (sRet (eAnd (eIsi "int" (eVar 0)) (eAnd (eNot (eIsi "bool" (eVar 0))) (eChain (eVar 1) (eVar 0) (eVar 2))))) sNil))
theorem ok_is_between (T : Txt K mg) (B : Blt mg) : DefD P w K mg base "is_between" 3 1 F_is_between := by
  obtain ⟨f, fd, F, hm⟩ := T.a_is_between.ex
  exact FunD_okD F hm (F.bindsN fun _ _ _ _ _ _ us hl => match us, hl with | [_, _, _], _ => rfl) rfl sc_is_between (fun cdv A outer s H E hr => (pds_cons (pds_ret (pd_and (pd_isi "int" B B.int (by decide +kernel) (pdv 0)) (pd_and (pd_not (pd_isi "bool" B B.bool (by decide +kernel) (pdv 0))) (pd_one (pd_chain (pdv 1) (pdv 0) (pdv 2)))))) pds_nil))
abbrev N_is_none : List Str := ["thing"]
theorem sc_is_none : FnScope N_is_none ["thing"] (defScope s_is_none) := ⟨rfl, rfl, rfl, by decide +kernel, rfl, by decide +kernel, by decide +kernel⟩
def F_is_none : List PyData → Option PyData := runD 1 ((sSeq (sRet (eAnd (eIsi "tuple" (eVar 0)) (eAnd (eEq (eLen (eVar 0)) (eC (.int 1))) (eAnd (eIsi "str" (eIx (eVar 0) 0)) (eEq (eVar 0) (eC (.tuple [(.str "none")]))))))) sNil))
theorem ok_is_none (T : Txt K mg) (B : Blt mg) : DefD P w K mg base "is_none" 1 1 F_is_none := by
  obtain ⟨f, fd, F, hm⟩ := T.a_is_none.ex
  exact FunD_okD F hm (F.bindsN fun _ _ _ _ _ _ us hl => match us, hl with | [_], _ => rfl) rfl sc_is_none (fun cdv A outer s H E hr => (pds_cons (pds_ret (pd_and (pd_isi "tuple" B B.tuple (by decide +kernel) (pdv 0)) (pd_and (pd_eq hr.units (pd_len B (pdv 0)) pd_int) (pd_and (pd_isi "str" B B.str (by decide +kernel) (pd_ix (i := 0) (pdv 0))) (pd_one (pd_eq hr.units (pdv 0) (pd_glob T.c_NONE))))))) pds_nil))
abbrev N_is_rule : List Str := ["thing"]
theorem sc_is_rule : FnScope N_is_rule ["thing"] (defScope s_is_rule) := ⟨rfl, rfl, rfl, by decide +kernel, rfl, by decide +kernel, by decide +kernel⟩
def F_is_rule : List PyData → Option PyData := runD 1 ((sSeq (sRet (eOrV (eCall F_is_none (aCons (eVar 0) aNil)) (eOrV (eCall F_is_late (aCons (eVar 0) aNil)) (eCall F_is_share (aCons (eVar 0) aNil))))) sNil))
theorem ok_is_rule (T : Txt K mg) (B : Blt mg) : DefD P w K mg base "is_rule" 1 4 F_is_rule := by
  obtain ⟨f, fd, F, hm⟩ := T.a_is_rule.ex
  exact FunD_okD F hm (F.bindsN fun _ _ _ _ _ _ us hl => match us, hl with | [_], _ => rfl) rfl sc_is_rule (fun cdv A outer s H E hr => (pds_cons (pds_ret (pd_or (pd_call (ok_is_none T B) hr (ha := (pda_cons (pdv 0) pda_nil))) (pd_or (pd_call (ok_is_late T B) hr (ha := (pda_cons (pdv 0) pda_nil))) (pd_one (pd_call (ok_is_share T B) hr (ha := (pda_cons (pdv 0) pda_nil))))))) pds_nil))
abbrev N_need_rule : List Str := ["thing"]
theorem sc_need_rule : FnScope N_need_rule ["thing"] (defScope s_need_rule) := ⟨rfl, rfl, rfl, by decide +kernel, rfl, by decide +kernel, by decide +kernel⟩
def F_need_rule : List PyData → Option PyData := runD 1 ((sSeq (sIf (cNot (cVal (eCall F_is_rule (aCons (eVar 0) aNil)))) (sSeq sNever sNil) sNil) sNil))
theorem ok_need_rule (T : Txt K mg) (B : Blt mg) : DefD P w K mg base "need_rule" 1 5 F_need_rule := by
  obtain ⟨f, fd, F, hm⟩ := T.a_need_rule.ex
  exact FunD_okD F hm (F.bindsN fun _ _ _ _ _ _ us hl => match us, hl with | [_], _ => rfl) rfl sc_need_rule (fun cdv A outer s H E hr => (pds_cons (pds_if (pdt_not (pdt_val (pd_call (ok_is_rule T B) hr (ha := (pda_cons (pdv 0) pda_nil))))) (pds_cons pds_never pds_nil) pds_nil) pds_nil))
abbrev N_is_memory_of : List Str := ["rule", "thing"]
theorem sc_is_memory_of : FnScope N_is_memory_of ["rule", "thing"] (defScope s_is_memory_of) := ⟨rfl, rfl, rfl, by decide +kernel, rfl, by decide +kernel, by decide +kernel⟩
def F_is_memory_of : List PyData → Option PyData := runD 2 ((sSeq (sIf (cEq (eIx (eVar 0) 0) (eC (.str "none"))) (sSeq (sRet (eAnd (eIsi "tuple" (eVar 1)) (eEq (eVar 1) (eTup aNil)))) sNil) sNil) (sSeq (sIf (cEq (eIx (eVar 0) 0) (eC (.str "late"))) (sSeq (sRet (eCall F_is_late_memory (aCons (eVar 0) (aCons (eVar 1) aNil)))) sNil) sNil) (sSeq (sRet (eCall F_is_share_memory (aCons (eVar 0) (aCons (eVar 1) aNil)))) sNil))))
theorem ok_is_memory_of (T : Txt K mg) (B : Blt mg) : DefD P w K mg base "is_memory_of" 2 6 F_is_memory_of := by
  obtain ⟨f, fd, F, hm⟩ := T.a_is_memory_of.ex
  exact FunD_okD F hm (F.bindsN fun _ _ _ _ _ _ us hl => match us, hl with | [_, _], _ => rfl) rfl sc_is_memory_of (fun cdv A outer s H E hr => (pds_cons (pds_if (pdt_eq hr.units (pd_ix (i := 0) (pdv 0)) pd_str) (pds_cons (pds_ret (pd_and (pd_isi "tuple" B B.tuple (by decide +kernel) (pdv 1)) (pd_one (pd_eq hr.units (pdv 1) (pd_tup pda_nil))))) pds_nil) pds_nil) (pds_cons (pds_if (pdt_eq hr.units (pd_ix (i := 0) (pdv 0)) pd_str) (pds_cons (pds_ret (pd_call (ok_is_late_memory T B) hr (ha := (pda_cons (pdv 0) (pda_cons (pdv 1) pda_nil))))) pds_nil) pds_nil) (pds_cons (pds_ret (pd_call (ok_is_share_memory T B) hr (ha := (pda_cons (pdv 0) (pda_cons (pdv 1) pda_nil))))) pds_nil))))
abbrev N_is_wait : List Str := ["thing"]
theorem sc_is_wait : FnScope N_is_wait ["thing"] (defScope s_is_wait) := ⟨rfl, rfl, rfl, by decide +kernel, rfl, by decide +kernel, by decide +kernel⟩
def F_is_wait : List PyData → Option PyData := runD 1 ((sSeq (sRet (eCall F_is_between (aCons (eVar 0) (aCons (eC (.int 0)) (aCons (eC (.int 1000000)) aNil))))) sNil))
theorem ok_is_wait (T : Txt K mg) (B : Blt mg) : DefD P w K mg base "is_wait" 1 2 F_is_wait := by
  obtain ⟨f, fd, F, hm⟩ := T.a_is_wait.ex
  exact FunD_okD F hm (F.bindsN fun _ _ _ _ _ _ us hl => match us, hl with | [_], _ => rfl) rfl sc_is_wait (fun cdv A outer s H E hr => (pds_cons (pds_ret (pd_call (ok_is_between T B) hr (ha := (pda_cons (pdv 0) (pda_cons pd_int (pda_cons (pd_glob T.c_MOST_WAIT_rules) pda_nil)))))) pds_nil))
abbrev N_first_memory : List Str := ["rule"]
theorem sc_first_memory : FnScope N_first_memory ["rule"] (defScope s_first_memory) := ⟨rfl, rfl, rfl, by decide +kernel, rfl, by decide +kernel, by decide +kernel⟩
def F_first_memory : List PyData → Option PyData := runD 1 ((sSeq (sExp (eCall F_need_rule (aCons (eVar 0) aNil))) (sSeq (sIf (cEq (eIx (eVar 0) 0) (eC (.str "none"))) (sSeq (sRet (eTup aNil)) sNil) sNil) (sSeq (sRet (eIf (cEq (eIx (eVar 0) 0) (eC (.str "late"))) (eCall F_late_first (aCons (eVar 0) aNil)) (eCall F_share_first (aCons (eVar 0) aNil)))) sNil))))
theorem ok_first_memory (T : Txt K mg) (B : Blt mg) : DefD P w K mg base "first_memory" 1 6 F_first_memory := by
  obtain ⟨f, fd, F, hm⟩ := T.a_first_memory.ex
  exact FunD_okD F hm (F.bindsN fun _ _ _ _ _ _ us hl => match us, hl with | [_], _ => rfl) rfl sc_first_memory (fun cdv A outer s H E hr => (pds_cons (pds_exp (pd_call (ok_need_rule T B) hr (ha := (pda_cons (pdv 0) pda_nil)))) (pds_cons (pds_if (pdt_eq hr.units (pd_ix (i := 0) (pdv 0)) pd_str) (pds_cons (pds_ret (pd_tup pda_nil)) pds_nil) pds_nil) (pds_cons (pds_ret (pd_if (pdt_eq hr.units (pd_ix (i := 0) (pdv 0)) pd_str) (pd_call (ok_late_first T B) hr (ha := (pda_cons (pdv 0) pda_nil))) (pd_call (ok_share_first T B) hr (ha := (pda_cons (pdv 0) pda_nil))))) pds_nil))))
abbrev N_looked_by : List Str := ["rule", "memory", "wait", "alone"]
theorem sc_looked_by : FnScope N_looked_by ["rule", "memory", "wait", "alone"] (defScope s_looked_by) := ⟨rfl, rfl, rfl, by decide +kernel, rfl, by decide +kernel, by decide +kernel⟩
def F_looked_by : List PyData → Option PyData := runD 4 ((sSeq (sIf (cNe (eIx (eVar 0) 0) (eC (.str "late"))) (sSeq (sRet (eTup (aCons (eVar 1) (aCons (eC (.bool false)) aNil)))) sNil) sNil) (sSeq (sRet (eCallKw F_late_looked (aCons (eVar 0) (aCons (eVar 1) (aCons (eVar 2) aNil))) (eVar 3))) sNil)))
theorem ok_looked_by (T : Txt K mg) (B : Blt mg) : DefD P w K mg base "looked_by" 4 8 F_looked_by := by
  obtain ⟨f, fd, F, hm⟩ := T.a_looked_by.ex
  exact FunD_okD F hm (F.bindsN fun _ _ _ _ _ _ us hl => match us, hl with | [_, _, _, _], _ => rfl) rfl sc_looked_by (fun cdv A outer s H E hr => (pds_cons (pds_if (pdt_ne hr.units (pd_ix (i := 0) (pdv 0)) pd_str) (pds_cons (pds_ret (pd_tup (pda_cons (pdv 1) (pda_cons pd_bl pda_nil)))) pds_nil) pds_nil) (pds_cons (pds_ret (pd_callKw (ok_late_looked T B) hr (ha := (pda_cons (pdv 0) (pda_cons (pdv 1) (pda_cons (pdv 2) pda_nil)))) (hk := (pdv 3)))) pds_nil)))
abbrev N_come_by : List Str := ["rule", "memory"]
theorem sc_come_by : FnScope N_come_by ["rule", "memory"] (defScope s_come_by) := ⟨rfl, rfl, rfl, by decide +kernel, rfl, by decide +kernel, by decide +kernel⟩
def F_come_by : List PyData → Option PyData := runD 2 ((sSeq (sRet (eIf (cEq (eIx (eVar 0) 0) (eC (.str "share"))) (eCall F_share_come (aCons (eVar 0) (aCons (eVar 1) aNil))) (eTup (aCons (eVar 1) (aCons (eC (.bool false)) aNil))))) sNil))
theorem ok_come_by (T : Txt K mg) (B : Blt mg) : DefD P w K mg base "come_by" 2 8 F_come_by := by
  obtain ⟨f, fd, F, hm⟩ := T.a_come_by.ex
  exact FunD_okD F hm (F.bindsN fun _ _ _ _ _ _ us hl => match us, hl with | [_, _], _ => rfl) rfl sc_come_by (fun cdv A outer s H E hr => (pds_cons (pds_ret (pd_if (pdt_eq hr.units (pd_ix (i := 0) (pdv 0)) pd_str) (pd_call (ok_share_come T B) hr (ha := (pda_cons (pdv 0) (pda_cons (pdv 1) pda_nil)))) (pd_tup (pda_cons (pdv 1) (pda_cons pd_bl pda_nil))))) pds_nil))
abbrev N_renewed_by : List Str := ["rule", "memory", "wait"]
theorem sc_renewed_by : FnScope N_renewed_by ["rule", "memory", "wait"] (defScope s_renewed_by) := ⟨rfl, rfl, rfl, by decide +kernel, rfl, by decide +kernel, by decide +kernel⟩
def F_renewed_by : List PyData → Option PyData := runD 3 ((sSeq (sRet (eIf (cEq (eIx (eVar 0) 0) (eC (.str "share"))) (eCall F_share_renewed (aCons (eVar 0) (aCons (eVar 1) (aCons (eVar 2) aNil)))) (eVar 1))) sNil))
theorem ok_renewed_by (T : Txt K mg) (B : Blt mg) : DefD P w K mg base "renewed_by" 3 8 F_renewed_by := by
  obtain ⟨f, fd, F, hm⟩ := T.a_renewed_by.ex
  exact FunD_okD F hm (F.bindsN fun _ _ _ _ _ _ us hl => match us, hl with | [_, _, _], _ => rfl) rfl sc_renewed_by (fun cdv A outer s H E hr => (pds_cons (pds_ret (pd_if (pdt_eq hr.units (pd_ix (i := 0) (pdv 0)) pd_str) (pd_call (ok_share_renewed T B) hr (ha := (pda_cons (pdv 0) (pda_cons (pdv 1) (pda_cons (pdv 2) pda_nil))))) (pdv 1))) pds_nil))
abbrev N_passed_by : List Str := ["rule", "memory"]
theorem sc_passed_by : FnScope N_passed_by ["rule", "memory"] (defScope s_passed_by) := ⟨rfl, rfl, rfl, by decide +kernel, rfl, by decide +kernel, by decide +kernel⟩
def F_passed_by : List PyData → Option PyData := runD 2 ((sSeq (sIf (cEq (eIx (eVar 0) 0) (eC (.str "late"))) (sSeq (sRet (eCall F_late_passed (aCons (eVar 0) (aCons (eVar 1) aNil)))) sNil) sNil) (sSeq (sRet (eIf (cEq (eIx (eVar 0) 0) (eC (.str "share"))) (eCall F_share_passed (aCons (eVar 0) (aCons (eVar 1) aNil))) (eVar 1))) sNil)))
theorem ok_passed_by (T : Txt K mg) (B : Blt mg) : DefD P w K mg base "passed_by" 2 8 F_passed_by := by
  obtain ⟨f, fd, F, hm⟩ := T.a_passed_by.ex
  exact FunD_okD F hm (F.bindsN fun _ _ _ _ _ _ us hl => match us, hl with | [_, _], _ => rfl) rfl sc_passed_by (fun cdv A outer s H E hr => (pds_cons (pds_if (pdt_eq hr.units (pd_ix (i := 0) (pdv 0)) pd_str) (pds_cons (pds_ret (pd_call (ok_late_passed T B) hr (ha := (pda_cons (pdv 0) (pda_cons (pdv 1) pda_nil))))) pds_nil) pds_nil) (pds_cons (pds_ret (pd_if (pdt_eq hr.units (pd_ix (i := 0) (pdv 0)) pd_str) (pd_call (ok_share_passed T B) hr (ha := (pda_cons (pdv 0) (pda_cons (pdv 1) pda_nil)))) (pdv 1))) pds_nil)))
end
end KW
namespace KW
open PySem PySem.Spec L2
section
variable {P : Program} {w : World} {K : PySem.W.Frag} {mg : Str → Option Value} {base : Heap}
abbrev N_is_stream : List Str := ["thing", "weight", "rule", "limit"]
theorem sc_is_stream : FnScope N_is_stream ["thing"] (defScope s_is_stream) := ⟨rfl, rfl, rfl, by decide +kernel, rfl, by decide +kernel, by decide +kernel⟩
def F_is_stream : List PyData → Option PyData := runD 4 ((sSeq (sIf (cOr (cNot (cVal (eIsi "tuple" (eVar 0)))) (cNe (eLen (eVar 0)) (eC (.int 3)))) (sSeq (sRet (eC (.bool false))) sNil) sNil) (sSeq (sAsg (eVar 0) (gT (gsCons (gNm 1) (gsCons (gNm 2) (gsCons (gNm 3) gsNil))))) (sSeq (sRet (eAnd (eCall F_is_between (aCons (eVar 1) (aCons (eC (.int 1)) (aCons (eC (.int 9)) aNil)))) (eAnd (eCall F_is_rule (aCons (eVar 2) aNil)) (eCall F_is_between (aCons (eVar 3) (aCons (eC (.int 1)) (aCons (eC (.int 99)) aNil))))))) sNil))))
theorem ok_is_stream (T : Txt K mg) (B : Blt mg) : DefD P w K mg base "is_stream" 1 5 F_is_stream := by
  obtain ⟨f, fd, F, hm⟩ := T.a_is_stream.ex
  exact FunD_okD F hm (F.bindsN fun _ _ _ _ _ _ us hl => match us, hl with | [_], _ => rfl) rfl sc_is_stream (fun cdv A outer s H E hr => (pds_cons (pds_if (pdt_w (pdw_or (pdt_not (pdt_val (pd_isi "tuple" B B.tuple (by decide +kernel) (pdv 0)))) (pdw_or1 (pdt_ne hr.units (pd_len B (pdv 0)) pd_int)))) (pds_cons (pds_ret pd_bl) pds_nil) pds_nil) (pds_cons (pds_asg (pdv 0) (pdg_tup (pdgs_cons (pdg_nm 1 sc_is_stream.nd) (pdgs_cons (pdg_nm 2 sc_is_stream.nd) (pdgs_cons (pdg_nm 3 sc_is_stream.nd) pdgs_nil))))) (pds_cons (pds_ret (pd_and (pd_call (ok_is_between T B) hr (ha := (pda_cons (pdv 1) (pda_cons pd_int (pda_cons (pd_glob T.c_MOST_WEIGHT) pda_nil))))) (pd_and (pd_call (ok_is_rule T B) hr (ha := (pda_cons (pdv 2) pda_nil))) (pd_one (pd_call (ok_is_between T B) hr (ha := (pda_cons (pdv 3) (pda_cons pd_int (pda_cons (pd_glob T.c_MOST_PIECES) pda_nil))))))))) pds_nil))))
abbrev N_need_stream : List Str := ["thing"]
theorem sc_need_stream : FnScope N_need_stream ["thing"] (defScope s_need_stream) := ⟨rfl, rfl, rfl, by decide +kernel, rfl, by decide +kernel, by decide +kernel⟩
def F_need_stream : List PyData → Option PyData := runD 1 ((sSeq (sIf (cNot (cVal (eCall F_is_stream (aCons (eVar 0) aNil)))) (sSeq sNever sNil) sNil) sNil))
theorem ok_need_stream (T : Txt K mg) (B : Blt mg) : DefD P w K mg base "need_stream" 1 6 F_need_stream := by
  obtain ⟨f, fd, F, hm⟩ := T.a_need_stream.ex
  exact FunD_okD F hm (F.bindsN fun _ _ _ _ _ _ us hl => match us, hl with | [_], _ => rfl) rfl sc_need_stream (fun cdv A outer s H E hr => (pds_cons (pds_if (pdt_not (pdt_val (pd_call (ok_is_stream T B) hr (ha := (pda_cons (pdv 0) pda_nil))))) (pds_cons pds_never pds_nil) pds_nil) pds_nil))
abbrev N_is_size : List Str := ["thing"]
theorem sc_is_size : FnScope N_is_size ["thing"] (defScope s_is_size) := ⟨rfl, rfl, rfl, by decide +kernel, rfl, by decide +kernel, by decide +kernel⟩
def F_is_size : List PyData → Option PyData := runD 1 ((sSeq (sRet (eCall F_is_between (aCons (eVar 0) (aCons (eC (.int 1)) (aCons (eC (.int 9)) aNil))))) sNil))
theorem ok_is_size (T : Txt K mg) (B : Blt mg) : DefD P w K mg base "is_size" 1 2 F_is_size := by
  obtain ⟨f, fd, F, hm⟩ := T.a_is_size.ex
  exact FunD_okD F hm (F.bindsN fun _ _ _ _ _ _ us hl => match us, hl with | [_], _ => rfl) rfl sc_is_size (fun cdv A outer s H E hr => (pds_cons (pds_ret (pd_call (ok_is_between T B) hr (ha := (pda_cons (pdv 0) (pda_cons (pd_glob T.c_LEAST_SIZE) (pda_cons (pd_glob T.c_LARGEST) pda_nil)))))) pds_nil))
abbrev N_is_piece : List Str := ["thing", "size", "can", "marked", "wait"]
theorem sc_is_piece : FnScope N_is_piece ["thing"] (defScope s_is_piece) := ⟨rfl, rfl, rfl, by decide +kernel, rfl, by decide +kernel, by decide +kernel⟩
def F_is_piece : List PyData → Option PyData := runD 5 ((sSeq (sIf (cOr (cNot (cVal (eIsi "tuple" (eVar 0)))) (cNe (eLen (eVar 0)) (eC (.int 4)))) (sSeq (sRet (eC (.bool false))) sNil) sNil) (sSeq (sAsg (eVar 0) (gT (gsCons (gNm 1) (gsCons (gNm 2) (gsCons (gNm 3) (gsCons (gNm 4) gsNil)))))) (sSeq (sIf (cOr (cNot (cVal (eCall F_is_size (aCons (eVar 1) aNil)))) (cOr (cNot (cVal (eIsi "bool" (eVar 2)))) (cOr (cNot (cVal (eIsi "bool" (eVar 3)))) (cNot (cVal (eCall F_is_wait (aCons (eVar 4) aNil))))))) (sSeq (sRet (eC (.bool false))) sNil) sNil) (sSeq (sRet (eOrV (eVar 2) (eNot (eVar 3)))) sNil)))))
theorem ok_is_piece (T : Txt K mg) (B : Blt mg) : DefD P w K mg base "is_piece" 1 3 F_is_piece := by
  obtain ⟨f, fd, F, hm⟩ := T.a_is_piece.ex
  exact FunD_okD F hm (F.bindsN fun _ _ _ _ _ _ us hl => match us, hl with | [_], _ => rfl) rfl sc_is_piece (fun cdv A outer s H E hr => (pds_cons (pds_if (pdt_w (pdw_or (pdt_not (pdt_val (pd_isi "tuple" B B.tuple (by decide +kernel) (pdv 0)))) (pdw_or1 (pdt_ne hr.units (pd_len B (pdv 0)) pd_int)))) (pds_cons (pds_ret pd_bl) pds_nil) pds_nil) (pds_cons (pds_asg (pdv 0) (pdg_tup (pdgs_cons (pdg_nm 1 sc_is_piece.nd) (pdgs_cons (pdg_nm 2 sc_is_piece.nd) (pdgs_cons (pdg_nm 3 sc_is_piece.nd) (pdgs_cons (pdg_nm 4 sc_is_piece.nd) pdgs_nil)))))) (pds_cons (pds_if (pdt_w (pdw_or (pdt_not (pdt_val (pd_call (ok_is_size T B) hr (ha := (pda_cons (pdv 1) pda_nil))))) (pdw_or (pdt_not (pdt_val (pd_isi "bool" B B.bool (by decide +kernel) (pdv 2)))) (pdw_or (pdt_not (pdt_val (pd_isi "bool" B B.bool (by decide +kernel) (pdv 3)))) (pdw_or1 (pdt_not (pdt_val (pd_call (ok_is_wait T B) hr (ha := (pda_cons (pdv 4) pda_nil)))))))))) (pds_cons (pds_ret pd_bl) pds_nil) pds_nil) (pds_cons (pds_ret (pd_or (pdv 2) (pd_one (pd_not (pdv 3))))) pds_nil)))))
abbrev N_are_pieces : List Str := ["limit", "thing", "piece", "one", "other"]
theorem sc_are_pieces : FnScope N_are_pieces ["limit", "thing"] (defScope s_are_pieces) := ⟨rfl, rfl, rfl, by decide +kernel, rfl, by decide +kernel, by decide +kernel⟩
def F_are_pieces : List PyData → Option PyData := runD 5 ((sSeq (sIf (cOr (cNot (cVal (eIsi "tuple" (eVar 1)))) (cOr (cGt (eLen (eVar 1)) (eVar 0)) (cNot (cVal (eAll (eLc (List.map (fun p : Str × Nat => p.2) [("piece", 2)]) (iTupD (eVar 1)) (gNm 2) (eCall F_is_piece (aCons (eVar 2) aNil)))))))) (sSeq (sRet (eC (.bool false))) sNil) sNil) (sSeq (sRet (eAll (eLc (List.map (fun p : Str × Nat => p.2) [("one", 3), ("other", 4)]) (iZipD (eVar 1) (eFrom (eVar 1) 1)) (gT (gsCons (gNm 3) (gsCons (gNm 4) gsNil))) (eGe (eIx (eVar 3) 3) (eIx (eVar 4) 3))))) sNil)))
theorem ok_are_pieces (T : Txt K mg) (B : Blt mg) : DefD P w K mg base "are_pieces" 2 4 F_are_pieces := by
  obtain ⟨f, fd, F, hm⟩ := T.a_are_pieces.ex
  exact FunD_okD F hm (F.bindsN fun _ _ _ _ _ _ us hl => match us, hl with | [_, _], _ => rfl) rfl sc_are_pieces (fun cdv A outer s H E hr => (pds_cons (pds_if (pdt_w (pdw_or (pdt_not (pdt_val (pd_isi "tuple" B B.tuple (by decide +kernel) (pdv 1)))) (pdw_or (pdt_gt (pd_len B (pdv 1)) (pdv 0)) (pdw_or1 (pdt_not (pdt_val (pd_all B (pd_lc (sc := defScope s_are_pieces) [("piece", 2)] (pdi_tup (pdv 1)) (blkOk_by (N := N_are_pieces) (sc := defScope s_are_pieces) (by decide +kernel)) (by decide) sc_are_pieces.nd (fun _ _ _ _ _ => (pdg_nm 2 sc_are_pieces.nd)) (fun _ _ _ _ _ => (pd_call (ok_is_piece T B) hr (ha := (pda_cons (pdv 2) pda_nil)))))))))))) (pds_cons (pds_ret pd_bl) pds_nil) pds_nil) (pds_cons (pds_ret (pd_all B (pd_lc (sc := defScope s_are_pieces) [("one", 3), ("other", 4)] (pdi_zip B (pdv 1) (pd_from (n := 1) (pdv 1))) (blkOk_by (N := N_are_pieces) (sc := defScope s_are_pieces) (by decide +kernel)) (by decide) sc_are_pieces.nd (fun _ _ _ _ _ => (pdg_tup (pdgs_cons (pdg_nm 3 sc_are_pieces.nd) (pdgs_cons (pdg_nm 4 sc_are_pieces.nd) pdgs_nil)))) (fun _ _ _ _ _ => (pd_ge (pd_ix (i := 3) (pdv 3)) (pd_ix (i := 3) (pdv 4))))))) pds_nil)))
abbrev N_most_credit : List Str := ["stream"]
theorem sc_most_credit : FnScope N_most_credit ["stream"] (defScope s_most_credit) := ⟨rfl, rfl, rfl, by decide +kernel, rfl, by decide +kernel, by decide +kernel⟩
def F_most_credit : List PyData → Option PyData := runD 1 ((sSeq (sRet (eAdd (eMul (eC (.int 9)) (eIx (eVar 0) 0)) (eC (.int 8)))) sNil))
theorem ok_most_credit (T : Txt K mg) (B : Blt mg) : DefD P w K mg base "most_credit" 1 1 F_most_credit := by
  obtain ⟨f, fd, F, hm⟩ := T.a_most_credit.ex
  exact FunD_okD F hm (F.bindsN fun _ _ _ _ _ _ us hl => match us, hl with | [_], _ => rfl) rfl sc_most_credit (fun cdv A outer s H E hr => (pds_cons (pds_ret (pd_add (pd_mul (pd_glob T.c_TURN) (pd_ix (i := 0) (pdv 0))) (pd_glob T.c_KEPT))) pds_nil))
abbrev N_is_lane_of : List Str := ["stream", "thing", "credit", "pieces", "memory", "weight", "rule", "limit"]
theorem sc_is_lane_of : FnScope N_is_lane_of ["stream", "thing"] (defScope s_is_lane_of) := ⟨rfl, rfl, rfl, by decide +kernel, rfl, by decide +kernel, by decide +kernel⟩
def F_is_lane_of : List PyData → Option PyData := runD 8 ((sSeq (sIf (cOr (cNot (cVal (eIsi "tuple" (eVar 1)))) (cNe (eLen (eVar 1)) (eC (.int 3)))) (sSeq (sRet (eC (.bool false))) sNil) sNil) (sSeq (sAsg (eVar 1) (gT (gsCons (gNm 2) (gsCons (gNm 3) (gsCons (gNm 4) gsNil))))) (sSeq (sAsg (eVar 0) (gT (gsCons (gNm 5) (gsCons (gNm 6) (gsCons (gNm 7) gsNil))))) (sSeq (sIf (cOr (cNot (cVal (eCall F_are_pieces (aCons (eVar 7) (aCons (eVar 3) aNil))))) (cNot (cVal (eCall F_is_memory_of (aCons (eVar 6) (aCons (eVar 4) aNil)))))) (sSeq (sRet (eC (.bool false))) sNil) sNil) (sSeq (sRet (eCall F_is_between (aCons (eVar 2) (aCons (eC (.int 0)) (aCons (eIf (cNe (eVar 3) (eTup aNil)) (eCall F_most_credit (aCons (eVar 0) aNil)) (eC (.int 0))) aNil))))) sNil))))))
theorem ok_is_lane_of (T : Txt K mg) (B : Blt mg) : DefD P w K mg base "is_lane_of" 2 7 F_is_lane_of := by
  obtain ⟨f, fd, F, hm⟩ := T.a_is_lane_of.ex
  exact FunD_okD F hm (F.bindsN fun _ _ _ _ _ _ us hl => match us, hl with | [_, _], _ => rfl) rfl sc_is_lane_of (fun cdv A outer s H E hr => (pds_cons (pds_if (pdt_w (pdw_or (pdt_not (pdt_val (pd_isi "tuple" B B.tuple (by decide +kernel) (pdv 1)))) (pdw_or1 (pdt_ne hr.units (pd_len B (pdv 1)) pd_int)))) (pds_cons (pds_ret pd_bl) pds_nil) pds_nil) (pds_cons (pds_asg (pdv 1) (pdg_tup (pdgs_cons (pdg_nm 2 sc_is_lane_of.nd) (pdgs_cons (pdg_nm 3 sc_is_lane_of.nd) (pdgs_cons (pdg_nm 4 sc_is_lane_of.nd) pdgs_nil))))) (pds_cons (pds_asg (pdv 0) (pdg_tup (pdgs_cons (pdg_nm 5 sc_is_lane_of.nd) (pdgs_cons (pdg_nm 6 sc_is_lane_of.nd) (pdgs_cons (pdg_nm 7 sc_is_lane_of.nd) pdgs_nil))))) (pds_cons (pds_if (pdt_w (pdw_or (pdt_not (pdt_val (pd_call (ok_are_pieces T B) hr (ha := (pda_cons (pdv 7) (pda_cons (pdv 3) pda_nil)))))) (pdw_or1 (pdt_not (pdt_val (pd_call (ok_is_memory_of T B) hr (ha := (pda_cons (pdv 6) (pda_cons (pdv 4) pda_nil))))))))) (pds_cons (pds_ret pd_bl) pds_nil) pds_nil) (pds_cons (pds_ret (pd_call (ok_is_between T B) hr (ha := (pda_cons (pdv 2) (pda_cons pd_int (pda_cons (pd_if (pdt_ne hr.units (pdv 3) (pd_tup pda_nil)) (pd_call (ok_most_credit T B) hr (ha := (pda_cons (pdv 0) pda_nil))) pd_int) pda_nil)))))) pds_nil))))))
abbrev N_empty_lane : List Str := ["stream"]
theorem sc_empty_lane : FnScope N_empty_lane ["stream"] (defScope s_empty_lane) := ⟨rfl, rfl, rfl, by decide +kernel, rfl, by decide +kernel, by decide +kernel⟩
def F_empty_lane : List PyData → Option PyData := runD 1 ((sSeq (sExp (eCall F_need_stream (aCons (eVar 0) aNil))) (sSeq (sRet (eTup (aCons (eC (.int 0)) (aCons (eTup aNil) (aCons (eCall F_first_memory (aCons (eIx (eVar 0) 1) aNil)) aNil))))) sNil)))
theorem ok_empty_lane (T : Txt K mg) (B : Blt mg) : DefD P w K mg base "empty_lane" 1 7 F_empty_lane := by
  obtain ⟨f, fd, F, hm⟩ := T.a_empty_lane.ex
  exact FunD_okD F hm (F.bindsN fun _ _ _ _ _ _ us hl => match us, hl with | [_], _ => rfl) rfl sc_empty_lane (fun cdv A outer s H E hr => (pds_cons (pds_exp (pd_call (ok_need_stream T B) hr (ha := (pda_cons (pdv 0) pda_nil)))) (pds_cons (pds_ret (pd_tup (pda_cons pd_int (pda_cons (pd_tup pda_nil) (pda_cons (pd_call (ok_first_memory T B) hr (ha := (pda_cons (pd_ix (i := 1) (pdv 0)) pda_nil))) pda_nil))))) pds_nil)))
abbrev N_put_by : List Str := ["stream", "lane", "size", "can", "weight", "rule", "limit", "credit", "pieces", "memory", "struck"]
theorem sc_put_by : FnScope N_put_by ["stream", "lane", "size", "can"] (defScope s_put_by) := ⟨rfl, rfl, rfl, by decide +kernel, rfl, by decide +kernel, by decide +kernel⟩
def F_put_by : List PyData → Option PyData := runD 11 ((sSeq (sAsg (eVar 0) (gT (gsCons (gNm 4) (gsCons (gNm 5) (gsCons (gNm 6) gsNil))))) (sSeq (sAsg (eVar 1) (gT (gsCons (gNm 7) (gsCons (gNm 8) (gsCons (gNm 9) gsNil))))) (sSeq (sIf (cEq (eLen (eVar 8)) (eVar 6)) (sSeq (sRet (eTup (aCons (eVar 1) (aCons (eC (.str "full")) aNil)))) sNil) sNil) (sSeq (sAsg (eCall F_come_by (aCons (eVar 5) (aCons (eVar 9) aNil))) (gT (gsCons (gNm 9) (gsCons (gNm 10) gsNil)))) (sSeq (sIf (cAnd (cVal (eVar 10)) (cNot (cVal (eVar 3)))) (sSeq (sRet (eTup (aCons (eTup (aCons (eVar 7) (aCons (eVar 8) (aCons (eVar 9) aNil)))) (aCons (eC (.str "drop")) aNil)))) sNil) sNil) (sSeq (sRet (eTup (aCons (eTup (aCons (eVar 7) (aCons (eAdd (eVar 8) (eTup (aCons (eTup (aCons (eVar 2) (aCons (eVar 3) (aCons (eVar 10) (aCons (eC (.int 0)) aNil))))) aNil))) (aCons (eVar 9) aNil)))) (aCons (eIf (cVal (eVar 10)) (eC (.str "mark")) (eC (.str "come"))) aNil)))) sNil)))))))
theorem ok_put_by (T : Txt K mg) (B : Blt mg) : DefD P w K mg base "put_by" 4 9 F_put_by := by
  obtain ⟨f, fd, F, hm⟩ := T.a_put_by.ex
  exact FunD_okD F hm (F.bindsN fun _ _ _ _ _ _ us hl => match us, hl with | [_, _, _, _], _ => rfl) rfl sc_put_by (fun cdv A outer s H E hr => (pds_cons (pds_asg (pdv 0) (pdg_tup (pdgs_cons (pdg_nm 4 sc_put_by.nd) (pdgs_cons (pdg_nm 5 sc_put_by.nd) (pdgs_cons (pdg_nm 6 sc_put_by.nd) pdgs_nil))))) (pds_cons (pds_asg (pdv 1) (pdg_tup (pdgs_cons (pdg_nm 7 sc_put_by.nd) (pdgs_cons (pdg_nm 8 sc_put_by.nd) (pdgs_cons (pdg_nm 9 sc_put_by.nd) pdgs_nil))))) (pds_cons (pds_if (pdt_eq hr.units (pd_len B (pdv 8)) (pdv 6)) (pds_cons (pds_ret (pd_tup (pda_cons (pdv 1) (pda_cons pd_str pda_nil)))) pds_nil) pds_nil) (pds_cons (pds_asg (pd_call (ok_come_by T B) hr (ha := (pda_cons (pdv 5) (pda_cons (pdv 9) pda_nil)))) (pdg_tup (pdgs_cons (pdg_nm 9 sc_put_by.nd) (pdgs_cons (pdg_nm 10 sc_put_by.nd) pdgs_nil)))) (pds_cons (pds_if (pdt_w (pdw_and (pdt_val (pdv 10)) (pdw_and1 (pdt_not (pdt_val (pdv 3)))))) (pds_cons (pds_ret (pd_tup (pda_cons (pd_tup (pda_cons (pdv 7) (pda_cons (pdv 8) (pda_cons (pdv 9) pda_nil)))) (pda_cons pd_str pda_nil)))) pds_nil) pds_nil) (pds_cons (pds_ret (pd_tup (pda_cons (pd_tup (pda_cons (pdv 7) (pda_cons (pd_add (pdv 8) (pd_tup (pda_cons (pd_tup (pda_cons (pdv 2) (pda_cons (pdv 3) (pda_cons (pdv 10) (pda_cons pd_int pda_nil))))) pda_nil))) (pda_cons (pdv 9) pda_nil)))) (pda_cons (pd_if (pdt_val (pdv 10)) pd_str pd_str) pda_nil)))) pds_nil)))))))
abbrev N_head_by : List Str := ["stream", "lane", "credit", "pieces", "memory", "size", "can", "marked", "wait", "rest", "struck", "word"]
theorem sc_head_by : FnScope N_head_by ["stream", "lane"] (defScope s_head_by) := ⟨rfl, rfl, rfl, by decide +kernel, rfl, by decide +kernel, by decide +kernel⟩
def F_head_by : List PyData → Option PyData := runD 12 ((sSeq (sAsg (eVar 1) (gT (gsCons (gNm 2) (gsCons (gNm 3) (gsCons (gNm 4) gsNil))))) (sSeq (sAsg (eVar 3) (gStar 1 (gsCons (gT (gsCons (gNm 5) (gsCons (gNm 6) (gsCons (gNm 7) (gsCons (gNm 8) gsNil))))) (gsCons (gNm 9) gsNil)))) (sSeq (sAsg (eCall F_looked_by (aCons (eIx (eVar 0) 1) (aCons (eVar 4) (aCons (eVar 8) (aCons (eEq (eVar 9) (eLst aNil)) aNil))))) (gT (gsCons (gNm 4) (gsCons (gNm 10) gsNil)))) (sSeq (sAsg (eIf (cOr (cVal (eVar 10)) (cVal (eVar 7))) (eC (.str "bell")) (eC (.str "send"))) (gNm 11)) (sSeq (sIf (cAnd (cVal (eVar 10)) (cNot (cVal (eVar 6)))) (sSeq (sAsg (eC (.str "drop")) (gNm 11)) sNil) sNil) (sSeq (sRet (eTup (aCons (eTup (aCons (eIf (cNe (eVar 9) (eLst aNil)) (eVar 2) (eC (.int 0))) (aCons (eTupOf (eVar 9)) (aCons (eVar 4) aNil)))) (aCons (eVar 11) aNil)))) sNil)))))))
theorem ok_head_by (T : Txt K mg) (B : Blt mg) : DefD P w K mg base "head_by" 2 9 F_head_by := by
  obtain ⟨f, fd, F, hm⟩ := T.a_head_by.ex
  exact FunD_okD F hm (F.bindsN fun _ _ _ _ _ _ us hl => match us, hl with | [_, _], _ => rfl) rfl sc_head_by (fun cdv A outer s H E hr => (pds_cons (pds_asg (pdv 1) (pdg_tup (pdgs_cons (pdg_nm 2 sc_head_by.nd) (pdgs_cons (pdg_nm 3 sc_head_by.nd) (pdgs_cons (pdg_nm 4 sc_head_by.nd) pdgs_nil))))) (pds_cons (pds_asg (pdv 3) (pdg_star 1 (pdgs_cons (pdg_tup (pdgs_cons (pdg_nm 5 sc_head_by.nd) (pdgs_cons (pdg_nm 6 sc_head_by.nd) (pdgs_cons (pdg_nm 7 sc_head_by.nd) (pdgs_cons (pdg_nm 8 sc_head_by.nd) pdgs_nil))))) (pdgs_star (pdg_nm 9 sc_head_by.nd) pdgs_nil)))) (pds_cons (pds_asg (pd_call (ok_looked_by T B) hr (ha := (pda_cons (pd_ix (i := 1) (pdv 0)) (pda_cons (pdv 4) (pda_cons (pdv 8) (pda_cons (pd_eq hr.units (pdv 9) (pd_lst pda_nil)) pda_nil)))))) (pdg_tup (pdgs_cons (pdg_nm 4 sc_head_by.nd) (pdgs_cons (pdg_nm 10 sc_head_by.nd) pdgs_nil)))) (pds_cons (pds_set 11 sc_head_by.nd (pd_if (pdt_w (pdw_or (pdt_val (pdv 10)) (pdw_or1 (pdt_val (pdv 7))))) pd_str pd_str)) (pds_cons (pds_if (pdt_w (pdw_and (pdt_val (pdv 10)) (pdw_and1 (pdt_not (pdt_val (pdv 6)))))) (pds_cons (pds_set 11 sc_head_by.nd pd_str) pds_nil) pds_nil) (pds_cons (pds_ret (pd_tup (pda_cons (pd_tup (pda_cons (pd_if (pdt_ne hr.units (pdv 9) (pd_lst pda_nil)) (pdv 2) pd_int) (pda_cons (pd_tupOf B (pdv 9)) (pda_cons (pdv 4) pda_nil)))) (pda_cons (pdv 11) pda_nil)))) pds_nil)))))))
abbrev N_head_wait : List Str := ["lane"]
theorem sc_head_wait : FnScope N_head_wait ["lane"] (defScope s_head_wait) := ⟨rfl, rfl, rfl, by decide +kernel, rfl, by decide +kernel, by decide +kernel⟩
def F_head_wait : List PyData → Option PyData := runD 1 ((sSeq (sRet (eIf (cNe (eIx (eVar 0) 1) (eTup aNil)) (eIx (eIx (eIx (eVar 0) 1) 0) 3) (eC (.int 0)))) sNil))
theorem ok_head_wait (T : Txt K mg) (B : Blt mg) : DefD P w K mg base "head_wait" 1 1 F_head_wait := by
  obtain ⟨f, fd, F, hm⟩ := T.a_head_wait.ex
  exact FunD_okD F hm (F.bindsN fun _ _ _ _ _ _ us hl => match us, hl with | [_], _ => rfl) rfl sc_head_wait (fun cdv A outer s H E hr => (pds_cons (pds_ret (pd_if (pdt_ne hr.units (pd_ix (i := 1) (pdv 0)) (pd_tup pda_nil)) (pd_ix (i := 3) (pd_ix (i := 0) (pd_ix (i := 1) (pdv 0)))) pd_int)) pds_nil))
abbrev N_lane_renewed_by : List Str := ["stream", "lane", "credit", "pieces", "memory"]
theorem sc_lane_renewed_by : FnScope N_lane_renewed_by ["stream", "lane"] (defScope s_lane_renewed_by) := ⟨rfl, rfl, rfl, by decide +kernel, rfl, by decide +kernel, by decide +kernel⟩
def F_lane_renewed_by : List PyData → Option PyData := runD 5 ((sSeq (sAsg (eVar 1) (gT (gsCons (gNm 2) (gsCons (gNm 3) (gsCons (gNm 4) gsNil))))) (sSeq (sRet (eTup (aCons (eVar 2) (aCons (eVar 3) (aCons (eCall F_renewed_by (aCons (eIx (eVar 0) 1) (aCons (eVar 4) (aCons (eCall F_head_wait (aCons (eVar 1) aNil)) aNil)))) aNil))))) sNil)))
theorem ok_lane_renewed_by (T : Txt K mg) (B : Blt mg) : DefD P w K mg base "lane_renewed_by" 2 9 F_lane_renewed_by := by
  obtain ⟨f, fd, F, hm⟩ := T.a_lane_renewed_by.ex
  exact FunD_okD F hm (F.bindsN fun _ _ _ _ _ _ us hl => match us, hl with | [_, _], _ => rfl) rfl sc_lane_renewed_by (fun cdv A outer s H E hr => (pds_cons (pds_asg (pdv 1) (pdg_tup (pdgs_cons (pdg_nm 2 sc_lane_renewed_by.nd) (pdgs_cons (pdg_nm 3 sc_lane_renewed_by.nd) (pdgs_cons (pdg_nm 4 sc_lane_renewed_by.nd) pdgs_nil))))) (pds_cons (pds_ret (pd_tup (pda_cons (pdv 2) (pda_cons (pdv 3) (pda_cons (pd_call (ok_renewed_by T B) hr (ha := (pda_cons (pd_ix (i := 1) (pdv 0)) (pda_cons (pdv 4) (pda_cons (pd_call (ok_head_wait T B) hr (ha := (pda_cons (pdv 1) pda_nil))) pda_nil))))) pda_nil))))) pds_nil)))
abbrev N_lane_passed_by : List Str := ["stream", "lane", "credit", "pieces", "memory", "older", "size", "can", "marked", "wait"]
theorem sc_lane_passed_by : FnScope N_lane_passed_by ["stream", "lane"] (defScope s_lane_passed_by) := ⟨rfl, rfl, rfl, by decide +kernel, rfl, by decide +kernel, by decide +kernel⟩
def F_lane_passed_by : List PyData → Option PyData := runD 10 ((sSeq (sAsg (eVar 1) (gT (gsCons (gNm 2) (gsCons (gNm 3) (gsCons (gNm 4) gsNil))))) (sSeq (sAsg (eLc (List.map (fun p : Str × Nat => p.2) [("size", 6), ("can", 7), ("marked", 8), ("wait", 9)]) (iTupD (eVar 3)) (gT (gsCons (gNm 6) (gsCons (gNm 7) (gsCons (gNm 8) (gsCons (gNm 9) gsNil))))) (eTup (aCons (eVar 6) (aCons (eVar 7) (aCons (eVar 8) (aCons (eMin (eC (.int 1000000)) (eAdd (eVar 9) (eC (.int 1)))) aNil)))))) (gNm 5)) (sSeq (sRet (eTup (aCons (eVar 2) (aCons (eTupOf (eVar 5)) (aCons (eCall F_passed_by (aCons (eIx (eVar 0) 1) (aCons (eVar 4) aNil))) aNil))))) sNil))))
theorem ok_lane_passed_by (T : Txt K mg) (B : Blt mg) : DefD P w K mg base "lane_passed_by" 2 9 F_lane_passed_by := by
  obtain ⟨f, fd, F, hm⟩ := T.a_lane_passed_by.ex
  exact FunD_okD F hm (F.bindsN fun _ _ _ _ _ _ us hl => match us, hl with | [_, _], _ => rfl) rfl sc_lane_passed_by (fun cdv A outer s H E hr => (pds_cons (pds_asg (pdv 1) (pdg_tup (pdgs_cons (pdg_nm 2 sc_lane_passed_by.nd) (pdgs_cons (pdg_nm 3 sc_lane_passed_by.nd) (pdgs_cons (pdg_nm 4 sc_lane_passed_by.nd) pdgs_nil))))) (pds_cons (pds_setLc (sc := defScope s_lane_passed_by) 5 [("size", 6), ("can", 7), ("marked", 8), ("wait", 9)] (pdi_tup (pdv 3)) (blkOk_by (N := N_lane_passed_by) (sc := defScope s_lane_passed_by) (by decide +kernel)) (by decide) sc_lane_passed_by.nd (sw_true rfl rfl rfl (by decide +kernel)) (fun _ _ _ _ _ => (pdg_tup (pdgs_cons (pdg_nm 6 sc_lane_passed_by.nd) (pdgs_cons (pdg_nm 7 sc_lane_passed_by.nd) (pdgs_cons (pdg_nm 8 sc_lane_passed_by.nd) (pdgs_cons (pdg_nm 9 sc_lane_passed_by.nd) pdgs_nil)))))) (fun _ _ _ _ _ => (pd_tup (pda_cons (pdv 6) (pda_cons (pdv 7) (pda_cons (pdv 8) (pda_cons (pd_min B (pd_glob T.c_MOST_WAIT_rules) (pd_add (pdv 9) pd_int)) pda_nil))))))) (pds_cons (pds_ret (pd_tup (pda_cons (pdv 2) (pda_cons (pd_tupOf B (pdv 5)) (pda_cons (pd_call (ok_passed_by T B) hr (ha := (pda_cons (pd_ix (i := 1) (pdv 0)) (pda_cons (pdv 4) pda_nil)))) pda_nil))))) pds_nil))))
end
end KW
namespace KW
open PySem PySem.Spec L2
section
variable {P : Program} {w : World} {K : PySem.W.Frag} {mg : Str → Option Value} {base : Heap}
abbrev N_need_small : List Str := ["rule", "limit"]
theorem sc_need_small : FnScope N_need_small ["rule", "limit"] (defScope s_need_small) := ⟨rfl, rfl, rfl, by decide +kernel, rfl, by decide +kernel, by decide +kernel⟩
def F_need_small : List PyData → Option PyData := runD 2 ((sSeq (sIf (cNot (cVal (eCall F_is_rule (aCons (eVar 0) aNil)))) (sSeq sNever sNil) sNil) (sSeq (sIf (cNot (cVal (eCall F_is_between (aCons (eVar 1) (aCons (eC (.int 1)) (aCons (eC (.int 6)) aNil)))))) (sSeq sNever sNil) sNil) sNil)))
theorem ok_need_small (T : Txt K mg) (B : Blt mg) : DefD P w K mg base "need_small" 2 5 F_need_small := by
  obtain ⟨f, fd, F, hm⟩ := T.a_need_small.ex
  exact FunD_okD F hm (F.bindsN fun _ _ _ _ _ _ us hl => match us, hl with | [_, _], _ => rfl) rfl sc_need_small (fun cdv A outer s H E hr => (pds_cons (pds_if (pdt_not (pdt_val (pd_call (ok_is_rule T B) hr (ha := (pda_cons (pdv 0) pda_nil))))) (pds_cons pds_never pds_nil) pds_nil) (pds_cons (pds_if (pdt_not (pdt_val (pd_call (ok_is_between T B) hr (ha := (pda_cons (pdv 1) (pda_cons pd_int (pda_cons (pd_glob T.c_MOST_LIMIT) pda_nil))))))) (pds_cons pds_never pds_nil) pds_nil) pds_nil)))
abbrev N_need_most : List Str := ["most"]
theorem sc_need_most : FnScope N_need_most ["most"] (defScope s_need_most) := ⟨rfl, rfl, rfl, by decide +kernel, rfl, by decide +kernel, by decide +kernel⟩
def F_need_most : List PyData → Option PyData := runD 1 ((sSeq (sIf (cNot (cVal (eCall F_is_between (aCons (eVar 0) (aCons (eC (.int 1)) (aCons (eC (.int 3)) aNil)))))) (sSeq sNever sNil) sNil) sNil))
theorem ok_need_most (T : Txt K mg) (B : Blt mg) : DefD P w K mg base "need_most" 1 2 F_need_most := by
  obtain ⟨f, fd, F, hm⟩ := T.a_need_most.ex
  exact FunD_okD F hm (F.bindsN fun _ _ _ _ _ _ us hl => match us, hl with | [_], _ => rfl) rfl sc_need_most (fun cdv A outer s H E hr => (pds_cons (pds_if (pdt_not (pdt_val (pd_call (ok_is_between T B) hr (ha := (pda_cons (pdv 0) (pda_cons pd_int (pda_cons (pd_glob T.c_MOST_EACH) pda_nil))))))) (pds_cons pds_never pds_nil) pds_nil) pds_nil))
abbrev N_small_stream : List Str := ["rule", "limit"]
theorem sc_small_stream : FnScope N_small_stream ["rule", "limit"] (defScope s_small_stream) := ⟨rfl, rfl, rfl, by decide +kernel, rfl, by decide +kernel, by decide +kernel⟩
def F_small_stream : List PyData → Option PyData := runD 2 ((sSeq (sRet (eTup (aCons (eC (.int 1)) (aCons (eVar 0) (aCons (eVar 1) aNil))))) sNil))
theorem ok_small_stream (T : Txt K mg) (B : Blt mg) : DefD P w K mg base "small_stream" 2 1 F_small_stream := by
  obtain ⟨f, fd, F, hm⟩ := T.a_small_stream.ex
  exact FunD_okD F hm (F.bindsN fun _ _ _ _ _ _ us hl => match us, hl with | [_, _], _ => rfl) rfl sc_small_stream (fun cdv A outer s H E hr => (pds_cons (pds_ret (pd_tup (pda_cons pd_int (pda_cons (pdv 0) (pda_cons (pdv 1) pda_nil))))) pds_nil))
abbrev N_is_small_run : List Str := ["most", "thing", "many"]
theorem sc_is_small_run : FnScope N_is_small_run ["most", "thing"] (defScope s_is_small_run) := ⟨rfl, rfl, rfl, by decide +kernel, rfl, by decide +kernel, by decide +kernel⟩
def F_is_small_run : List PyData → Option PyData := runD 3 ((sSeq (sIf (cOr (cNot (cVal (eIsi "tuple" (eVar 1)))) (cGt (eLen (eVar 1)) (eC (.int 1500)))) (sSeq (sRet (eC (.bool false))) sNil) sNil) (sSeq (sRet (eAll (eLc (List.map (fun p : Str × Nat => p.2) [("many", 2)]) (iTupD (eVar 1)) (gNm 2) (eCall F_is_between (aCons (eVar 2) (aCons (eC (.int 0)) (aCons (eVar 0) aNil))))))) sNil)))
theorem ok_is_small_run (T : Txt K mg) (B : Blt mg) : DefD P w K mg base "is_small_run" 2 2 F_is_small_run := by
  obtain ⟨f, fd, F, hm⟩ := T.a_is_small_run.ex
  exact FunD_okD F hm (F.bindsN fun _ _ _ _ _ _ us hl => match us, hl with | [_, _], _ => rfl) rfl sc_is_small_run (fun cdv A outer s H E hr => (pds_cons (pds_if (pdt_w (pdw_or (pdt_not (pdt_val (pd_isi "tuple" B B.tuple (by decide +kernel) (pdv 1)))) (pdw_or1 (pdt_gt (pd_len B (pdv 1)) (pd_glob T.c_MOST_LANES))))) (pds_cons (pds_ret pd_bl) pds_nil) pds_nil) (pds_cons (pds_ret (pd_all B (pd_lc (sc := defScope s_is_small_run) [("many", 2)] (pdi_tup (pdv 1)) (blkOk_by (N := N_is_small_run) (sc := defScope s_is_small_run) (by decide +kernel)) (by decide) sc_is_small_run.nd (fun _ _ _ _ _ => (pdg_nm 2 sc_is_small_run.nd)) (fun _ _ _ _ _ => (pd_call (ok_is_between T B) hr (ha := (pda_cons (pdv 2) (pda_cons pd_int (pda_cons (pdv 0) pda_nil))))))))) pds_nil)))
abbrev N_need_rules : List Str := ["one", "other", "rule"]
theorem sc_need_rules : FnScope N_need_rules ["one", "other"] (defScope s_need_rules) := ⟨rfl, rfl, rfl, by decide +kernel, rfl, by decide +kernel, by decide +kernel⟩
def F_need_rules : List PyData → Option PyData := runD 3 ((sSeq (sFor (eTup (aCons (eVar 0) (aCons (eVar 1) aNil))) (gNm 2) (sSeq (sIf (cNot (cVal (eCall F_is_rule (aCons (eVar 2) aNil)))) (sSeq sNever sNil) sNil) sNil)) sNil))
theorem ok_need_rules (T : Txt K mg) (B : Blt mg) : DefD P w K mg base "need_rules" 2 5 F_need_rules := by
  obtain ⟨f, fd, F, hm⟩ := T.a_need_rules.ex
  exact FunD_okD F hm (F.bindsN fun _ _ _ _ _ _ us hl => match us, hl with | [_, _], _ => rfl) rfl sc_need_rules (fun cdv A outer s H E hr => (pds_cons (pds_for PassesOwn.never (pd_tup (pda_cons (pdv 0) (pda_cons (pdv 1) pda_nil))) (pdg_nm 2 sc_need_rules.nd) (pds_cons (pds_if (pdt_not (pdt_val (pd_call (ok_is_rule T B) hr (ha := (pda_cons (pdv 2) pda_nil))))) (pds_cons pds_never pds_nil) pds_nil) pds_nil)) pds_nil))
abbrev N_are_streams : List Str := ["thing", "stream"]
theorem sc_are_streams : FnScope N_are_streams ["thing"] (defScope s_are_streams) := ⟨rfl, rfl, rfl, by decide +kernel, rfl, by decide +kernel, by decide +kernel⟩
def F_are_streams : List PyData → Option PyData := runD 2 ((sSeq (sIf (cOr (cNot (cVal (eIsi "tuple" (eVar 0)))) (cNot (cVal (eChain (eC (.int 1)) (eLen (eVar 0)) (eC (.int 8)))))) (sSeq (sRet (eC (.bool false))) sNil) sNil) (sSeq (sRet (eAll (eLc (List.map (fun p : Str × Nat => p.2) [("stream", 1)]) (iTupD (eVar 0)) (gNm 1) (eCall F_is_stream (aCons (eVar 1) aNil))))) sNil)))
theorem ok_are_streams (T : Txt K mg) (B : Blt mg) : DefD P w K mg base "are_streams" 1 6 F_are_streams := by
  obtain ⟨f, fd, F, hm⟩ := T.a_are_streams.ex
  exact FunD_okD F hm (F.bindsN fun _ _ _ _ _ _ us hl => match us, hl with | [_], _ => rfl) rfl sc_are_streams (fun cdv A outer s H E hr => (pds_cons (pds_if (pdt_w (pdw_or (pdt_not (pdt_val (pd_isi "tuple" B B.tuple (by decide +kernel) (pdv 0)))) (pdw_or1 (pdt_not (pdt_chain pd_int (pd_len B (pdv 0)) (pd_glob T.c_MOST_STREAMS_turns)))))) (pds_cons (pds_ret pd_bl) pds_nil) pds_nil) (pds_cons (pds_ret (pd_all B (pd_lc (sc := defScope s_are_streams) [("stream", 1)] (pdi_tup (pdv 0)) (blkOk_by (N := N_are_streams) (sc := defScope s_are_streams) (by decide +kernel)) (by decide) sc_are_streams.nd (fun _ _ _ _ _ => (pdg_nm 1 sc_are_streams.nd)) (fun _ _ _ _ _ => (pd_call (ok_is_stream T B) hr (ha := (pda_cons (pdv 1) pda_nil))))))) pds_nil)))
abbrev N_need_streams : List Str := ["thing"]
theorem sc_need_streams : FnScope N_need_streams ["thing"] (defScope s_need_streams) := ⟨rfl, rfl, rfl, by decide +kernel, rfl, by decide +kernel, by decide +kernel⟩
def F_need_streams : List PyData → Option PyData := runD 1 ((sSeq (sIf (cNot (cVal (eCall F_are_streams (aCons (eVar 0) aNil)))) (sSeq sNever sNil) sNil) sNil))
theorem ok_need_streams (T : Txt K mg) (B : Blt mg) : DefD P w K mg base "need_streams" 1 7 F_need_streams := by
  obtain ⟨f, fd, F, hm⟩ := T.a_need_streams.ex
  exact FunD_okD F hm (F.bindsN fun _ _ _ _ _ _ us hl => match us, hl with | [_], _ => rfl) rfl sc_need_streams (fun cdv A outer s H E hr => (pds_cons (pds_if (pdt_not (pdt_val (pd_call (ok_are_streams T B) hr (ha := (pda_cons (pdv 0) pda_nil))))) (pds_cons pds_never pds_nil) pds_nil) pds_nil))
abbrev N_need_rate : List Str := ["thing"]
theorem sc_need_rate : FnScope N_need_rate ["thing"] (defScope s_need_rate) := ⟨rfl, rfl, rfl, by decide +kernel, rfl, by decide +kernel, by decide +kernel⟩
def F_need_rate : List PyData → Option PyData := runD 1 ((sSeq (sIf (cNot (cVal (eCall F_is_between (aCons (eVar 0) (aCons (eC (.int 1)) (aCons (eC (.int 99)) aNil)))))) (sSeq sNever sNil) sNil) sNil))
theorem ok_need_rate (T : Txt K mg) (B : Blt mg) : DefD P w K mg base "need_rate" 1 2 F_need_rate := by
  obtain ⟨f, fd, F, hm⟩ := T.a_need_rate.ex
  exact FunD_okD F hm (F.bindsN fun _ _ _ _ _ _ us hl => match us, hl with | [_], _ => rfl) rfl sc_need_rate (fun cdv A outer s H E hr => (pds_cons (pds_if (pdt_not (pdt_val (pd_call (ok_is_between T B) hr (ha := (pda_cons (pdv 0) (pda_cons pd_int (pda_cons (pd_glob T.c_MOST_RATE) pda_nil))))))) (pds_cons pds_never pds_nil) pds_nil) pds_nil))
abbrev N_are_lanes : List Str := ["streams", "thing", "stream", "lane"]
theorem sc_are_lanes : FnScope N_are_lanes ["streams", "thing"] (defScope s_are_lanes) := ⟨rfl, rfl, rfl, by decide +kernel, rfl, by decide +kernel, by decide +kernel⟩
def F_are_lanes : List PyData → Option PyData := runD 4 ((sSeq (sIf (cOr (cNot (cVal (eIsi "tuple" (eVar 1)))) (cNe (eLen (eVar 1)) (eLen (eVar 0)))) (sSeq (sRet (eC (.bool false))) sNil) sNil) (sSeq (sRet (eAll (eLc (List.map (fun p : Str × Nat => p.2) [("stream", 2), ("lane", 3)]) (iZipD (eVar 0) (eVar 1)) (gT (gsCons (gNm 2) (gsCons (gNm 3) gsNil))) (eCall F_is_lane_of (aCons (eVar 2) (aCons (eVar 3) aNil)))))) sNil)))
theorem ok_are_lanes (T : Txt K mg) (B : Blt mg) : DefD P w K mg base "are_lanes" 2 8 F_are_lanes := by
  obtain ⟨f, fd, F, hm⟩ := T.a_are_lanes.ex
  exact FunD_okD F hm (F.bindsN fun _ _ _ _ _ _ us hl => match us, hl with | [_, _], _ => rfl) rfl sc_are_lanes (fun cdv A outer s H E hr => (pds_cons (pds_if (pdt_w (pdw_or (pdt_not (pdt_val (pd_isi "tuple" B B.tuple (by decide +kernel) (pdv 1)))) (pdw_or1 (pdt_ne hr.units (pd_len B (pdv 1)) (pd_len B (pdv 0)))))) (pds_cons (pds_ret pd_bl) pds_nil) pds_nil) (pds_cons (pds_ret (pd_all B (pd_lc (sc := defScope s_are_lanes) [("stream", 2), ("lane", 3)] (pdi_zip B (pdv 0) (pdv 1)) (blkOk_by (N := N_are_lanes) (sc := defScope s_are_lanes) (by decide +kernel)) (by decide) sc_are_lanes.nd (fun _ _ _ _ _ => (pdg_tup (pdgs_cons (pdg_nm 2 sc_are_lanes.nd) (pdgs_cons (pdg_nm 3 sc_are_lanes.nd) pdgs_nil)))) (fun _ _ _ _ _ => (pd_call (ok_is_lane_of T B) hr (ha := (pda_cons (pdv 2) (pda_cons (pdv 3) pda_nil)))))))) pds_nil)))
abbrev N_is_ring : List Str := ["lanes", "thing", "at", "lane"]
theorem sc_is_ring : FnScope N_is_ring ["lanes", "thing"] (defScope s_is_ring) := ⟨rfl, rfl, rfl, by decide +kernel, rfl, by decide +kernel, by decide +kernel⟩
def F_is_ring : List PyData → Option PyData := runD 4 ((sSeq (sIf (cOr (cNot (cVal (eIsi "tuple" (eVar 1)))) (cNot (cVal (eAll (eLc (List.map (fun p : Str × Nat => p.2) [("at", 2)]) (iTupD (eVar 1)) (gNm 2) (eCall F_is_between (aCons (eVar 2) (aCons (eC (.int 0)) (aCons (eSub (eLen (eVar 0)) (eC (.int 1))) aNil))))))))) (sSeq (sRet (eC (.bool false))) sNil) sNil) (sSeq (sRet (eEq (eSorted0 (eVar 1)) (eLcNo (List.map (fun p : Str × Nat => p.2) [("at", 2), ("lane", 3)]) (iEnumD (eVar 0)) (gT (gsCons (gNm 2) (gsCons (gNm 3) gsNil))) (cNe (eIx (eVar 3) 1) (eTup aNil))))) sNil)))
theorem ok_is_ring (T : Txt K mg) (B : Blt mg) : DefD P w K mg base "is_ring" 2 2 F_is_ring := by
  obtain ⟨f, fd, F, hm⟩ := T.a_is_ring.ex
  exact FunD_okD F hm (F.bindsN fun _ _ _ _ _ _ us hl => match us, hl with | [_, _], _ => rfl) rfl sc_is_ring (fun cdv A outer s H E hr => (pds_cons (pds_if (pdt_w (pdw_or (pdt_not (pdt_val (pd_isi "tuple" B B.tuple (by decide +kernel) (pdv 1)))) (pdw_or1 (pdt_not (pdt_val (pd_all B (pd_lc (sc := defScope s_is_ring) [("at", 2)] (pdi_tup (pdv 1)) (blkOk_by (N := N_is_ring) (sc := defScope s_is_ring) (by decide +kernel)) (by decide) sc_is_ring.nd (fun _ _ _ _ _ => (pdg_nm 2 sc_is_ring.nd)) (fun _ _ _ _ _ => (pd_call (ok_is_between T B) hr (ha := (pda_cons (pdv 2) (pda_cons pd_int (pda_cons (pd_sub (pd_len B (pdv 0)) pd_int) pda_nil))))))))))))) (pds_cons (pds_ret pd_bl) pds_nil) pds_nil) (pds_cons (pds_ret (pd_eq hr.units (pd_sorted0 B (pdv 1)) (pd_lcNo (sc := defScope s_is_ring) [("at", 2), ("lane", 3)] (pdi_enum B (pdv 0)) (blkOk_by (N := N_is_ring) (sc := defScope s_is_ring) (by decide +kernel)) (by decide) sc_is_ring.nd (fun _ _ _ _ _ => (pdg_tup (pdgs_cons (pdg_nm 2 sc_is_ring.nd) (pdgs_cons (pdg_nm 3 sc_is_ring.nd) pdgs_nil)))) (fun _ _ _ _ _ => (pdt_ne hr.units (pd_ix (i := 1) (pdv 3)) (pd_tup pda_nil)))))) pds_nil)))
abbrev N_are_credits : List Str := ["begun", "ring", "lanes", "free", "at", "lane"]
theorem sc_are_credits : FnScope N_are_credits ["begun", "ring", "lanes"] (defScope s_are_credits) := ⟨rfl, rfl, rfl, by decide +kernel, rfl, by decide +kernel, by decide +kernel⟩
def F_are_credits : List PyData → Option PyData := runD 6 ((sSeq (sAsg (eIf (cVal (eVar 0)) eNever (eTup aNil)) (gNm 3)) (sSeq (sRet (eAll (eLc (List.map (fun p : Str × Nat => p.2) [("at", 4), ("lane", 5)]) (iEnumD (eVar 2)) (gT (gsCons (gNm 4) (gsCons (gNm 5) gsNil))) (eOrV (eLe (eIx (eVar 5) 0) (eC (.int 8))) eNever)))) sNil)))
theorem ok_are_credits (T : Txt K mg) (B : Blt mg) : DefD P w K mg base "are_credits" 3 1 F_are_credits := by
  obtain ⟨f, fd, F, hm⟩ := T.a_are_credits.ex
  exact FunD_okD F hm (F.bindsN fun _ _ _ _ _ _ us hl => match us, hl with | [_, _, _], _ => rfl) rfl sc_are_credits (fun cdv A outer s H E hr => (pds_cons (pds_set 3 sc_are_credits.nd (pd_if (pdt_val (pdv 0)) pd_never (pd_tup pda_nil))) (pds_cons (pds_ret (pd_all B (pd_lc (sc := defScope s_are_credits) [("at", 4), ("lane", 5)] (pdi_enum B (pdv 2)) (blkOk_by (N := N_are_credits) (sc := defScope s_are_credits) (by decide +kernel)) (by decide) sc_are_credits.nd (fun _ _ _ _ _ => (pdg_tup (pdgs_cons (pdg_nm 4 sc_are_credits.nd) (pdgs_cons (pdg_nm 5 sc_are_credits.nd) pdgs_nil)))) (fun _ _ _ _ _ => (pd_or (pd_le (pd_ix (i := 0) (pdv 5)) (pd_glob T.c_KEPT)) (pd_one pd_never)))))) pds_nil)))
abbrev N_is_standing_of : List Str := ["streams", "thing", "budget", "begun", "ring", "lanes"]
theorem sc_is_standing_of : FnScope N_is_standing_of ["streams", "thing"] (defScope s_is_standing_of) := ⟨rfl, rfl, rfl, by decide +kernel, rfl, by decide +kernel, by decide +kernel⟩
def F_is_standing_of : List PyData → Option PyData := runD 6 ((sSeq (sIf (cOr (cNot (cVal (eIsi "tuple" (eVar 1)))) (cNe (eLen (eVar 1)) (eC (.int 4)))) (sSeq (sRet (eC (.bool false))) sNil) sNil) (sSeq (sAsg (eVar 1) (gT (gsCons (gNm 2) (gsCons (gNm 3) (gsCons (gNm 4) (gsCons (gNm 5) gsNil)))))) (sSeq (sIf (cOr (cNot (cVal (eCall F_is_between (aCons (eVar 2) (aCons (eC (.int 0)) (aCons (eC (.int 8)) aNil)))))) (cNot (cVal (eIsi "bool" (eVar 3))))) (sSeq (sRet (eC (.bool false))) sNil) sNil) (sSeq (sIf (cOr (cNot (cVal (eCall F_are_lanes (aCons (eVar 0) (aCons (eVar 5) aNil))))) (cOr (cNot (cVal (eCall F_is_ring (aCons (eVar 5) (aCons (eVar 4) aNil))))) (cNot (cVal (eCall F_are_credits (aCons (eVar 3) (aCons (eVar 4) (aCons (eVar 5) aNil)))))))) (sSeq (sRet (eC (.bool false))) sNil) sNil) (sSeq (sRet (eOrV (eNe (eVar 4) (eTup aNil)) (eAnd (eEq (eVar 2) (eC (.int 0))) (eNot (eVar 3))))) sNil))))))
theorem ok_is_standing_of (T : Txt K mg) (B : Blt mg) : DefD P w K mg base "is_standing_of" 2 9 F_is_standing_of := by
  obtain ⟨f, fd, F, hm⟩ := T.a_is_standing_of.ex
  exact FunD_okD F hm (F.bindsN fun _ _ _ _ _ _ us hl => match us, hl with | [_, _], _ => rfl) rfl sc_is_standing_of (fun cdv A outer s H E hr => (pds_cons (pds_if (pdt_w (pdw_or (pdt_not (pdt_val (pd_isi "tuple" B B.tuple (by decide +kernel) (pdv 1)))) (pdw_or1 (pdt_ne hr.units (pd_len B (pdv 1)) pd_int)))) (pds_cons (pds_ret pd_bl) pds_nil) pds_nil) (pds_cons (pds_asg (pdv 1) (pdg_tup (pdgs_cons (pdg_nm 2 sc_is_standing_of.nd) (pdgs_cons (pdg_nm 3 sc_is_standing_of.nd) (pdgs_cons (pdg_nm 4 sc_is_standing_of.nd) (pdgs_cons (pdg_nm 5 sc_is_standing_of.nd) pdgs_nil)))))) (pds_cons (pds_if (pdt_w (pdw_or (pdt_not (pdt_val (pd_call (ok_is_between T B) hr (ha := (pda_cons (pdv 2) (pda_cons pd_int (pda_cons (pd_glob T.c_KEPT) pda_nil))))))) (pdw_or1 (pdt_not (pdt_val (pd_isi "bool" B B.bool (by decide +kernel) (pdv 3))))))) (pds_cons (pds_ret pd_bl) pds_nil) pds_nil) (pds_cons (pds_if (pdt_w (pdw_or (pdt_not (pdt_val (pd_call (ok_are_lanes T B) hr (ha := (pda_cons (pdv 0) (pda_cons (pdv 5) pda_nil)))))) (pdw_or (pdt_not (pdt_val (pd_call (ok_is_ring T B) hr (ha := (pda_cons (pdv 5) (pda_cons (pdv 4) pda_nil)))))) (pdw_or1 (pdt_not (pdt_val (pd_call (ok_are_credits T B) hr (ha := (pda_cons (pdv 3) (pda_cons (pdv 4) (pda_cons (pdv 5) pda_nil))))))))))) (pds_cons (pds_ret pd_bl) pds_nil) pds_nil) (pds_cons (pds_ret (pd_or (pd_ne hr.units (pdv 4) (pd_tup pda_nil)) (pd_one (pd_and (pd_eq hr.units (pdv 2) pd_int) (pd_one (pd_not (pdv 3))))))) pds_nil))))))
abbrev N_need_standing : List Str := ["streams", "standing"]
theorem sc_need_standing : FnScope N_need_standing ["streams", "standing"] (defScope s_need_standing) := ⟨rfl, rfl, rfl, by decide +kernel, rfl, by decide +kernel, by decide +kernel⟩
def F_need_standing : List PyData → Option PyData := runD 2 ((sSeq (sIf (cNot (cVal (eCall F_is_standing_of (aCons (eVar 0) (aCons (eVar 1) aNil))))) (sSeq sNever sNil) sNil) sNil))
theorem ok_need_standing (T : Txt K mg) (B : Blt mg) : DefD P w K mg base "need_standing" 2 10 F_need_standing := by
  obtain ⟨f, fd, F, hm⟩ := T.a_need_standing.ex
  exact FunD_okD F hm (F.bindsN fun _ _ _ _ _ _ us hl => match us, hl with | [_, _], _ => rfl) rfl sc_need_standing (fun cdv A outer s H E hr => (pds_cons (pds_if (pdt_not (pdt_val (pd_call (ok_is_standing_of T B) hr (ha := (pda_cons (pdv 0) (pda_cons (pdv 1) pda_nil)))))) (pds_cons pds_never pds_nil) pds_nil) pds_nil))
abbrev N_first_standing : List Str := ["streams", "stream"]
theorem sc_first_standing : FnScope N_first_standing ["streams"] (defScope s_first_standing) := ⟨rfl, rfl, rfl, by decide +kernel, rfl, by decide +kernel, by decide +kernel⟩
def F_first_standing : List PyData → Option PyData := runD 2 ((sSeq (sExp (eCall F_need_streams (aCons (eVar 0) aNil))) (sSeq (sRet (eTup (aCons (eC (.int 0)) (aCons (eC (.bool false)) (aCons (eTup aNil) (aCons (eTupOf (eLc (List.map (fun p : Str × Nat => p.2) [("stream", 1)]) (iTupD (eVar 0)) (gNm 1) (eCall F_empty_lane (aCons (eVar 1) aNil)))) aNil)))))) sNil)))
theorem ok_first_standing (T : Txt K mg) (B : Blt mg) : DefD P w K mg base "first_standing" 1 8 F_first_standing := by
  obtain ⟨f, fd, F, hm⟩ := T.a_first_standing.ex
  exact FunD_okD F hm (F.bindsN fun _ _ _ _ _ _ us hl => match us, hl with | [_], _ => rfl) rfl sc_first_standing (fun cdv A outer s H E hr => (pds_cons (pds_exp (pd_call (ok_need_streams T B) hr (ha := (pda_cons (pdv 0) pda_nil)))) (pds_cons (pds_ret (pd_tup (pda_cons pd_int (pda_cons pd_bl (pda_cons (pd_tup pda_nil) (pda_cons (pd_tupOf B (pd_lc (sc := defScope s_first_standing) [("stream", 1)] (pdi_tup (pdv 0)) (blkOk_by (N := N_first_standing) (sc := defScope s_first_standing) (by decide +kernel)) (by decide) sc_first_standing.nd (fun _ _ _ _ _ => (pdg_nm 1 sc_first_standing.nd)) (fun _ _ _ _ _ => (pd_call (ok_empty_lane T B) hr (ha := (pda_cons (pdv 1) pda_nil)))))) pda_nil)))))) pds_nil)))
abbrev N_all_renewed : List Str := ["streams", "standing", "budget", "begun", "ring", "lanes", "stream", "lane"]
theorem sc_all_renewed : FnScope N_all_renewed ["streams", "standing"] (defScope s_all_renewed) := ⟨rfl, rfl, rfl, by decide +kernel, rfl, by decide +kernel, by decide +kernel⟩
def F_all_renewed : List PyData → Option PyData := runD 8 ((sSeq (sAsg (eVar 1) (gT (gsCons (gNm 2) (gsCons (gNm 3) (gsCons (gNm 4) (gsCons (gNm 5) gsNil)))))) (sSeq (sRet (eTup (aCons (eVar 2) (aCons (eVar 3) (aCons (eVar 4) (aCons (eTupOf (eLc (List.map (fun p : Str × Nat => p.2) [("stream", 6), ("lane", 7)]) (iZipD (eVar 0) (eVar 5)) (gT (gsCons (gNm 6) (gsCons (gNm 7) gsNil))) (eCall F_lane_renewed_by (aCons (eVar 6) (aCons (eVar 7) aNil))))) aNil)))))) sNil)))
theorem ok_all_renewed (T : Txt K mg) (B : Blt mg) : DefD P w K mg base "all_renewed" 2 10 F_all_renewed := by
  obtain ⟨f, fd, F, hm⟩ := T.a_all_renewed.ex
  exact FunD_okD F hm (F.bindsN fun _ _ _ _ _ _ us hl => match us, hl with | [_, _], _ => rfl) rfl sc_all_renewed (fun cdv A outer s H E hr => (pds_cons (pds_asg (pdv 1) (pdg_tup (pdgs_cons (pdg_nm 2 sc_all_renewed.nd) (pdgs_cons (pdg_nm 3 sc_all_renewed.nd) (pdgs_cons (pdg_nm 4 sc_all_renewed.nd) (pdgs_cons (pdg_nm 5 sc_all_renewed.nd) pdgs_nil)))))) (pds_cons (pds_ret (pd_tup (pda_cons (pdv 2) (pda_cons (pdv 3) (pda_cons (pdv 4) (pda_cons (pd_tupOf B (pd_lc (sc := defScope s_all_renewed) [("stream", 6), ("lane", 7)] (pdi_zip B (pdv 0) (pdv 5)) (blkOk_by (N := N_all_renewed) (sc := defScope s_all_renewed) (by decide +kernel)) (by decide) sc_all_renewed.nd (fun _ _ _ _ _ => (pdg_tup (pdgs_cons (pdg_nm 6 sc_all_renewed.nd) (pdgs_cons (pdg_nm 7 sc_all_renewed.nd) pdgs_nil)))) (fun _ _ _ _ _ => (pd_call (ok_lane_renewed_by T B) hr (ha := (pda_cons (pdv 6) (pda_cons (pdv 7) pda_nil))))))) pda_nil)))))) pds_nil)))
abbrev N_all_passed : List Str := ["streams", "standing", "budget", "begun", "ring", "lanes", "stream", "lane"]
theorem sc_all_passed : FnScope N_all_passed ["streams", "standing"] (defScope s_all_passed) := ⟨rfl, rfl, rfl, by decide +kernel, rfl, by decide +kernel, by decide +kernel⟩
def F_all_passed : List PyData → Option PyData := runD 8 ((sSeq (sAsg (eVar 1) (gT (gsCons (gNm 2) (gsCons (gNm 3) (gsCons (gNm 4) (gsCons (gNm 5) gsNil)))))) (sSeq (sRet (eTup (aCons (eVar 2) (aCons (eVar 3) (aCons (eVar 4) (aCons (eTupOf (eLc (List.map (fun p : Str × Nat => p.2) [("stream", 6), ("lane", 7)]) (iZipD (eVar 0) (eVar 5)) (gT (gsCons (gNm 6) (gsCons (gNm 7) gsNil))) (eCall F_lane_passed_by (aCons (eVar 6) (aCons (eVar 7) aNil))))) aNil)))))) sNil)))
theorem ok_all_passed (T : Txt K mg) (B : Blt mg) : DefD P w K mg base "all_passed" 2 10 F_all_passed := by
  obtain ⟨f, fd, F, hm⟩ := T.a_all_passed.ex
  exact FunD_okD F hm (F.bindsN fun _ _ _ _ _ _ us hl => match us, hl with | [_, _], _ => rfl) rfl sc_all_passed (fun cdv A outer s H E hr => (pds_cons (pds_asg (pdv 1) (pdg_tup (pdgs_cons (pdg_nm 2 sc_all_passed.nd) (pdgs_cons (pdg_nm 3 sc_all_passed.nd) (pdgs_cons (pdg_nm 4 sc_all_passed.nd) (pdgs_cons (pdg_nm 5 sc_all_passed.nd) pdgs_nil)))))) (pds_cons (pds_ret (pd_tup (pda_cons (pdv 2) (pda_cons (pdv 3) (pda_cons (pdv 4) (pda_cons (pd_tupOf B (pd_lc (sc := defScope s_all_passed) [("stream", 6), ("lane", 7)] (pdi_zip B (pdv 0) (pdv 5)) (blkOk_by (N := N_all_passed) (sc := defScope s_all_passed) (by decide +kernel)) (by decide) sc_all_passed.nd (fun _ _ _ _ _ => (pdg_tup (pdgs_cons (pdg_nm 6 sc_all_passed.nd) (pdgs_cons (pdg_nm 7 sc_all_passed.nd) pdgs_nil)))) (fun _ _ _ _ _ => (pd_call (ok_lane_passed_by T B) hr (ha := (pda_cons (pdv 6) (pda_cons (pdv 7) pda_nil))))))) pda_nil)))))) pds_nil)))
end
end KW
/-! the classes (printed by genI.py) -/
namespace KW
open PySem PySem.Spec L2
structure Txi (K : PySem.W.Frag) (mg : Str → Option Value) (C : Addr) : Prop where
  cf_Done : CF K mg "Done" ["lane", "words", "sent_wait"]
  i_Done : IAt K mg "Done" "Done.__init__" s_Done___init__ []
  cf_Found : CF K mg "Found" ["things", "numbers", "steps"]
  i_Found : IAt K mg "Found" "Found.__init__" s_Found___init__ []
  m_Found_put : MAt K mg "Found" "put" "Found.put" s_Found_put
  m_Found_run_to : MAt K mg "Found" "run_to" "Found.run_to" s_Found_run_to
  cf_Joint : CF K mg "Joint" ["rules", "limit", "streams", "shows"]
  i_Joint : IAt K mg "Joint" "Joint.__init__" s_Joint___init__ []
  m_Joint_first : MAt K mg "Joint" "first" "Joint.first" s_Joint_first
  m_Joint_done : MAt K mg "Joint" "done" "Joint.done" s_Joint_done
  m_Joint_told : MAt K mg "Joint" "told" "Joint.told" s_Joint_told
  cf_Serving : CF K mg "Serving" ["own_streams", "own_budget", "own_begun", "own_ring", "own_lanes", "own_rows"]
  i_Serving : IAt K mg "Serving" "Serving.__init__" s_Serving___init__ []
  m_Serving_begin_turn : MAt K mg "Serving" "begin_turn" "Serving.begin_turn" s_Serving_begin_turn
  m_Serving_end_turn : MAt K mg "Serving" "end_turn" "Serving.end_turn" s_Serving_end_turn
  m_Serving_head_goes : MAt K mg "Serving" "head_goes" "Serving.head_goes" s_Serving_head_goes
  m_Serving_goes_on : MAt K mg "Serving" "goes_on" "Serving.goes_on" s_Serving_goes_on
  m_Serving_stands : MAt K mg "Serving" "stands" "Serving.stands" s_Serving_stands
  cf_Line : CF K mg "Line" ["line_streams", "line_rate", "line_standing", "line_past", "line_diary"]
  i_Line : IAt K mg "Line" "Line.__init__" s_Line___init__ [("rate", .int 9), ("standing", .non)]
  m_Line_done : MAt K mg "Line" "done" "Line.done" s_Line_done
  m_Line_step : MAtD K mg "Line" "step" "Line.step" s_Line_step
  m_Line_all_steps : MAt K mg "Line" "all_steps" "Line.all_steps" s_Line_all_steps
  m_Line_run : MAt K mg "Line" "run" "Line.run" s_Line_run
  x : XAt K mg "TooWide" C
end KW
namespace KW
open PySem PySem.Spec L2
section
variable {P : Program} {w : World} {K : PySem.W.Frag} {mg : Str → Option Value} {base : Heap} {C : Addr}
abbrev N_Done_init : List Str := ["self", "lane", "words", "sent_wait"]
theorem sc_Done_init : FnScope N_Done_init ["self", "lane", "words", "sent_wait"] (defScope s_Done___init__) := ⟨rfl, rfl, rfl, by decide +kernel, rfl, by decide +kernel, by decide +kernel⟩
def FI_Done_init : List IV → HS → Option (Io IV) := runI 4 ((bSeq (bAsg (iP (eVar 1)) (gIF "Done" 0 "lane")) (bSeq (bAsg (iP (eVar 2)) (gIF "Done" 0 "words")) (bSeq (bAsg (iP (eVar 3)) (gIF "Done" 0 "sent_wait")) bNil))))
theorem oi_Done_init (T : Txt K mg) (B : Blt mg) (Z : Txi K mg C) : InitI P w K mg base C "Done" 3 1 FI_Done_init := by
  obtain ⟨D, f, fd, hD, hM, F⟩ := Z.i_Done.ex
  exact ⟨D, f, fd, ["self", "lane", "words", "sent_wait"], hD, hM, (FunI_ok F rfl sc_Done_init (fun cdv A outer s H E hr => (jss_cons (js_asg (ji_p (pdv 1)) (jg_fld 0 Z.cf_Done)) (jss_cons (js_asg (ji_p (pdv 2)) (jg_fld 0 Z.cf_Done)) (jss_cons (js_asg (ji_p (pdv 3)) (jg_fld 0 Z.cf_Done)) jss_nil))))), (F.bindsN fun _ _ _ _ _ _ us hl => match us, hl with | [_, _, _, _], _ => rfl)⟩
abbrev N_done_by : List Str := ["stream", "lane", "many", "words", "turn", "word", "sent_wait", "ahead"]
theorem sc_done_by : FnScope N_done_by ["stream", "lane", "many"] (defScope s_done_by) := ⟨rfl, rfl, rfl, by decide +kernel, rfl, by decide +kernel, by decide +kernel⟩
def FI_done_by : List IV → HS → Option (Io IV) := runI 8 ((bSeq (bAsg (iP (eCall F_lane_renewed_by (aCons (eVar 0) (aCons (eVar 1) aNil)))) (gIN 1)) (bSeq (bAsg (iLst iNil) (gIN 3)) (bSeq (bFor (iRngI (iP (eVar 2))) (gIN 4) (bSeq (bAsg (iP (eCall F_put_by (aCons (eVar 0) (aCons (eVar 1) (aCons (eC (.int 1)) (aCons (eC (.bool false)) aNil)))))) (gIT (gsIC (gIN 1) (gsIC (gIN 5) gsIN)))) (bSeq (bExp (iAppend (iVar 3) (iP (eVar 5)))) bNil))) (bSeq (bAsg (iP (eC .none)) (gIN 6)) (bSeq (bWhile 2000 (iPT (cAnd (cNe (eIx (eVar 1) 1) (eTup aNil)) (cIsN (eVar 6) (eC .none)))) (bSeq (bAsg (iP (eCall F_head_wait (aCons (eVar 1) aNil))) (gIN 7)) (bSeq (bAsg (iP (eCall F_head_by (aCons (eVar 0) (aCons (eVar 1) aNil)))) (gIT (gsIC (gIN 1) (gsIC (gIN 5) gsIN)))) (bSeq (bExp (iAppend (iVar 3) (iP (eVar 5)))) (bSeq (bIf (iPT (cNe (eVar 5) (eC (.str "drop")))) (bSeq (bAsg (iP (eVar 7)) (gIN 6)) bNil) bNil) bNil))))) (bSeq (bRet (iMake "Done" FI_Done_init (iCons (iP (eCall F_lane_passed_by (aCons (eVar 0) (aCons (eVar 1) aNil)))) (iCons (iTupOf (iVar 3)) (iCons (iP (eVar 6)) iNil))))) bNil)))))))
theorem oi_done_by (T : Txt K mg) (B : Blt mg) (Z : Txi K mg C) : DefI P w K mg base C "done_by" 3 10 FI_done_by := by
  obtain ⟨f, fd, F, hm⟩ := T.a_done_by.ex
  exact ⟨f, fd, ["stream", "lane", "many"], (FunI_ok F rfl sc_done_by (fun cdv A outer s H E hr => (jss_cons (js_set 1 sc_done_by.nd (ji_p (pd_call (ok_lane_renewed_by T B) hr (ha := (pda_cons (pdv 0) (pda_cons (pdv 1) pda_nil)))))) (jss_cons (js_set 3 sc_done_by.nd (ji_lst ja_nil)) (jss_cons (js_for (passes_of rfl) (jii_range1 B (ji_p (pdv 2))) (jg_nm 4 sc_done_by.nd) (jss_cons (js_asg (ji_p (pd_call (ok_put_by T B) hr (ha := (pda_cons (pdv 0) (pda_cons (pdv 1) (pda_cons pd_int (pda_cons pd_bl pda_nil))))))) (jg_tup (jgs_cons (jg_nm 1 sc_done_by.nd) (jgs_cons (jg_nm 5 sc_done_by.nd) jgs_nil)))) (jss_cons (js_exp (ji_append (jv 3) (ji_p (pdv 5)))) jss_nil))) (jss_cons (js_set 6 sc_done_by.nd (ji_p pd_non)) (jss_cons (js_while 2000 (passes_of rfl) (jt_p (pdt_w (pdw_and (pdt_ne hr.units (pd_ix (i := 1) (pdv 1)) (pd_tup pda_nil)) (pdw_and1 (pdt_isN (pdv 6) pd_non))))) (jss_cons (js_set 7 sc_done_by.nd (ji_p (pd_call (ok_head_wait T B) hr (ha := (pda_cons (pdv 1) pda_nil))))) (jss_cons (js_asg (ji_p (pd_call (ok_head_by T B) hr (ha := (pda_cons (pdv 0) (pda_cons (pdv 1) pda_nil))))) (jg_tup (jgs_cons (jg_nm 1 sc_done_by.nd) (jgs_cons (jg_nm 5 sc_done_by.nd) jgs_nil)))) (jss_cons (js_exp (ji_append (jv 3) (ji_p (pdv 5)))) (jss_cons (js_if (jt_p (pdt_ne hr.units (pdv 5) (pd_glob T.c_DROPPED))) (jss_cons (js_set 6 sc_done_by.nd (ji_p (pdv 7))) jss_nil) jss_nil) jss_nil))))) (jss_cons (js_ret (ji_make (oi_Done_init T B Z) hr (ha := (ja_cons (ji_p (pd_call (ok_lane_passed_by T B) hr (ha := (pda_cons (pdv 0) (pda_cons (pdv 1) pda_nil))))) (ja_cons (ji_tupOf B (jv 3)) (ja_cons (ji_p (pdv 6)) ja_nil)))))) jss_nil)))))))), hm, F.kp, (F.bindsN fun _ _ _ _ _ _ us hl => match us, hl with | [_, _, _], _ => rfl)⟩
abbrev N_small_words : List Str := ["rule", "limit", "run", "stream", "lane", "found", "many", "done"]
theorem sc_small_words : FnScope N_small_words ["rule", "limit", "run"] (defScope s_small_words) := ⟨rfl, rfl, rfl, by decide +kernel, rfl, by decide +kernel, by decide +kernel⟩
def FI_small_words : List IV → HS → Option (Io IV) := runI 8 ((bSeq (bExp (iP (eCall F_need_small (aCons (eVar 0) (aCons (eVar 1) aNil))))) (bSeq (bIf (iPT (cNot (cVal (eCall F_is_small_run (aCons (eC (.int 3)) (aCons (eVar 2) aNil)))))) (bSeq bNever bNil) bNil) (bSeq (bAsg (iP (eCall F_small_stream (aCons (eVar 0) (aCons (eVar 1) aNil)))) (gIN 3)) (bSeq (bAsg (iP (eCall F_empty_lane (aCons (eVar 3) aNil))) (gIN 4)) (bSeq (bAsg (iLst iNil) (gIN 5)) (bSeq (bFor (iTupI (iP (eVar 2))) (gIN 6) (bSeq (bAsg (iCall FI_done_by (iCons (iP (eVar 3)) (iCons (iP (eVar 4)) (iCons (iP (eVar 6)) iNil)))) (gIN 7)) (bSeq (bAsg (iFld "Done" (iVar 7) "lane") (gIN 4)) (bSeq (bExp (iAppend (iVar 5) (iFld "Done" (iVar 7) "words"))) bNil)))) (bSeq (bRet (iTupOf (iVar 5))) bNil))))))))
theorem oi_small_words (T : Txt K mg) (B : Blt mg) (Z : Txi K mg C) : DefI P w K mg base C "small_words" 3 11 FI_small_words := by
  obtain ⟨f, fd, F, hm⟩ := T.a_small_words.ex
  exact ⟨f, fd, ["rule", "limit", "run"], (FunI_ok F rfl sc_small_words (fun cdv A outer s H E hr => (jss_cons (js_exp (ji_p (pd_call (ok_need_small T B) hr (ha := (pda_cons (pdv 0) (pda_cons (pdv 1) pda_nil)))))) (jss_cons (js_if (jt_p (pdt_not (pdt_val (pd_call (ok_is_small_run T B) hr (ha := (pda_cons (pd_glob T.c_MOST_EACH) (pda_cons (pdv 2) pda_nil))))))) (jss_cons js_never jss_nil) jss_nil) (jss_cons (js_set 3 sc_small_words.nd (ji_p (pd_call (ok_small_stream T B) hr (ha := (pda_cons (pdv 0) (pda_cons (pdv 1) pda_nil)))))) (jss_cons (js_set 4 sc_small_words.nd (ji_p (pd_call (ok_empty_lane T B) hr (ha := (pda_cons (pdv 3) pda_nil))))) (jss_cons (js_set 5 sc_small_words.nd (ji_lst ja_nil)) (jss_cons (js_for (passes_of rfl) (jii_tup (ji_p (pdv 2))) (jg_nm 6 sc_small_words.nd) (jss_cons (js_set 7 sc_small_words.nd (ji_call (oi_done_by T B Z) (takes_of rfl rfl rfl rfl) hr (ha := (ja_cons (ji_p (pdv 3)) (ja_cons (ji_p (pdv 4)) (ja_cons (ji_p (pdv 6)) ja_nil)))))) (jss_cons (js_set 4 sc_small_words.nd (ji_fld Z.cf_Done (jv 7))) (jss_cons (js_exp (ji_append (jv 5) (ji_fld Z.cf_Done (jv 7)))) jss_nil)))) (jss_cons (js_ret (ji_tupOf B (jv 5))) jss_nil))))))))), hm, F.kp, (F.bindsN fun _ _ _ _ _ _ us hl => match us, hl with | [_, _, _], _ => rfl)⟩
abbrev N_Found_init : List Str := ["self", "first"]
theorem sc_Found_init : FnScope N_Found_init ["self", "first"] (defScope s_Found___init__) := ⟨rfl, rfl, rfl, by decide +kernel, rfl, by decide +kernel, by decide +kernel⟩
def FI_Found_init : List IV → HS → Option (Io IV) := runI 2 ((bSeq (bAsg (iLst (iCons (iP (eVar 1)) iNil)) (gIF "Found" 0 "things")) (bSeq (bAsg (iDict1 (iP (eVar 1)) (iP (eC (.int 0)))) (gIF "Found" 0 "numbers")) (bSeq (bAsg (iLst (iCons (iP (eTup (aCons (eC .none) (aCons (eC .none) aNil)))) iNil)) (gIF "Found" 0 "steps")) bNil))))
theorem oi_Found_init (T : Txt K mg) (B : Blt mg) (Z : Txi K mg C) : InitI P w K mg base C "Found" 1 1 FI_Found_init := by
  obtain ⟨D, f, fd, hD, hM, F⟩ := Z.i_Found.ex
  exact ⟨D, f, fd, ["self", "first"], hD, hM, (FunI_ok F rfl sc_Found_init (fun cdv A outer s H E hr => (jss_cons (js_asg (ji_lst (ja_cons (ji_p (pdv 1)) ja_nil)) (jg_fld 0 Z.cf_Found)) (jss_cons (js_asg (ji_dict1 hr.units (ji_p (pdv 1)) (ji_p pd_int)) (jg_fld 0 Z.cf_Found)) (jss_cons (js_asg (ji_lst (ja_cons (ji_p (pd_tup (pda_cons pd_non (pda_cons pd_non pda_nil)))) ja_nil)) (jg_fld 0 Z.cf_Found)) jss_nil))))), (F.bindsN fun _ _ _ _ _ _ us hl => match us, hl with | [_, _], _ => rfl)⟩
abbrev N_Found_put : List Str := ["self", "thing", "at", "many"]
theorem sc_Found_put : FnScope N_Found_put ["self", "thing", "at", "many"] (defScope s_Found_put) := ⟨rfl, rfl, rfl, by decide +kernel, rfl, by decide +kernel, by decide +kernel⟩
def FI_Found_put : List IV → HS → Option (Io IV) := runI 4 ((bSeq (bIf (iTwo notInGo (iP (eVar 1)) (iFld "Found" (iVar 0) "numbers")) (bSeq (bAsg (iLen (iFld "Found" (iVar 0) "things")) (gIK (iFld "Found" (iVar 0) "numbers") (iP (eVar 1)))) (bSeq (bExp (iAppend (iFld "Found" (iVar 0) "things") (iP (eVar 1)))) (bSeq (bExp (iAppend (iFld "Found" (iVar 0) "steps") (iP (eTup (aCons (eVar 2) (aCons (eVar 3) aNil)))))) (bSeq (bIf (iCmpT iGt (iLen (iFld "Found" (iVar 0) "things")) (iP (eC (.int 1500)))) (bSeq bRaise bNil) bNil) bNil)))) bNil) bNil))
theorem oi_Found_put (T : Txt K mg) (B : Blt mg) (Z : Txi K mg C) : MethI P w K mg base C "Found" "put" 3 1 FI_Found_put := by
  obtain ⟨D, f, fd, hD, hc, hm, F⟩ := Z.m_Found_put.ex
  exact ⟨D, f, fd, ["self", "thing", "at", "many"], hD, hc, hm, (FunI_ok F rfl sc_Found_put (fun cdv A outer s H E hr => (jss_cons (js_if (jt_notInKd hr.units (ji_p (pdv 1)) (ji_fld Z.cf_Found (jv 0))) (jss_cons (js_asg (ji_len B (ji_fld Z.cf_Found (jv 0))) (jg_kd hr.units (ji_fld Z.cf_Found (jv 0)) (ji_p (pdv 1)))) (jss_cons (js_exp (ji_append (ji_fld Z.cf_Found (jv 0)) (ji_p (pdv 1)))) (jss_cons (js_exp (ji_append (ji_fld Z.cf_Found (jv 0)) (ji_p (pd_tup (pda_cons (pdv 2) (pda_cons (pdv 3) pda_nil)))))) (jss_cons (js_if (jt_cmp op_gt rok_gt (ji_len B (ji_fld Z.cf_Found (jv 0))) (ji_p (pd_glob T.c_MOST_LANES)) (nomark _)) (jss_cons (js_raiseX Z.x (takes_of rfl rfl rfl rfl)) jss_nil) jss_nil) jss_nil)))) jss_nil) jss_nil))), (F.bindsN fun _ _ _ _ _ _ us hl => match us, hl with | [_, _, _, _], _ => rfl)⟩
abbrev N_Found_run_to : List Str := ["self", "at", "many", "run"]
theorem sc_Found_run_to : FnScope N_Found_run_to ["self", "at", "many"] (defScope s_Found_run_to) := ⟨rfl, rfl, rfl, by decide +kernel, rfl, by decide +kernel, by decide +kernel⟩
def FI_Found_run_to : List IV → HS → Option (Io IV) := runI 4 ((bSeq (bAsg (iLst (iCons (iP (eVar 2)) iNil)) (gIN 3)) (bSeq (bWhile 2000 (iPT (cGt (eVar 1) (eC (.int 0)))) (bSeq (bAsg (iIx (iFld "Found" (iVar 0) "steps") (iP (eVar 1))) (gIT (gsIC (gIN 1) (gsIC (gIN 2) gsIN)))) (bSeq (bExp (iInsert0 (iVar 3) (iP (eVar 2)))) bNil))) (bSeq (bRet (iTupOf (iVar 3))) bNil))))
theorem oi_Found_run_to (T : Txt K mg) (B : Blt mg) (Z : Txi K mg C) : MethI P w K mg base C "Found" "run_to" 2 1 FI_Found_run_to := by
  obtain ⟨D, f, fd, hD, hc, hm, F⟩ := Z.m_Found_run_to.ex
  exact ⟨D, f, fd, ["self", "at", "many"], hD, hc, hm, (FunI_ok F rfl sc_Found_run_to (fun cdv A outer s H E hr => (jss_cons (js_set 3 sc_Found_run_to.nd (ji_lst (ja_cons (ji_p (pdv 2)) ja_nil))) (jss_cons (js_while 2000 (passes_of rfl) (jt_p (pdt_gt (pdv 1) pd_int)) (jss_cons (js_asg (ji_ix (ji_fld Z.cf_Found (jv 0)) (ji_p (pdv 1))) (jg_tup (jgs_cons (jg_nm 1 sc_Found_run_to.nd) (jgs_cons (jg_nm 2 sc_Found_run_to.nd) jgs_nil)))) (jss_cons (js_exp (ji_insert0 (jv 3) (ji_p (pdv 2)))) jss_nil))) (jss_cons (js_ret (ji_tupOf B (jv 3))) jss_nil))))), (F.bindsN fun _ _ _ _ _ _ us hl => match us, hl with | [_, _, _], _ => rfl)⟩
end
end KW
namespace KW
open PySem PySem.Spec L2
section
variable {P : Program} {w : World} {K : PySem.W.Frag} {mg : Str → Option Value} {base : Heap} {C : Addr}
abbrev N_Joint_init : List Str := ["self", "one", "other", "limit", "shows"]
theorem sc_Joint_init : FnScope N_Joint_init ["self", "one", "other", "limit", "shows"] (defScope s_Joint___init__) := ⟨rfl, rfl, rfl, by decide +kernel, rfl, by decide +kernel, by decide +kernel⟩
def FI_Joint_init : List IV → HS → Option (Io IV) := runI 5 ((bSeq (bAsg (iP (eTup (aCons (eVar 1) (aCons (eVar 2) aNil)))) (gIF "Joint" 0 "rules")) (bSeq (bAsg (iP (eVar 3)) (gIF "Joint" 0 "limit")) (bSeq (bAsg (iP (eTup (aCons (eCall F_small_stream (aCons (eVar 1) (aCons (eVar 3) aNil))) (aCons (eCall F_small_stream (aCons (eVar 2) (aCons (eVar 3) aNil))) aNil)))) (gIF "Joint" 0 "streams")) (bSeq (bAsg (iVar 4) (gIF "Joint" 0 "shows")) bNil)))))
theorem oi_Joint_init (T : Txt K mg) (B : Blt mg) (Z : Txi K mg C) : InitI P w K mg base C "Joint" 4 2 FI_Joint_init := by
  obtain ⟨D, f, fd, hD, hM, F⟩ := Z.i_Joint.ex
  exact ⟨D, f, fd, ["self", "one", "other", "limit", "shows"], hD, hM, (FunI_ok F rfl sc_Joint_init (fun cdv A outer s H E hr => (jss_cons (js_asg (ji_p (pd_tup (pda_cons (pdv 1) (pda_cons (pdv 2) pda_nil)))) (jg_fld 0 Z.cf_Joint)) (jss_cons (js_asg (ji_p (pdv 3)) (jg_fld 0 Z.cf_Joint)) (jss_cons (js_asg (ji_p (pd_tup (pda_cons (pd_call (ok_small_stream T B) hr (ha := (pda_cons (pdv 1) (pda_cons (pdv 3) pda_nil)))) (pda_cons (pd_call (ok_small_stream T B) hr (ha := (pda_cons (pdv 2) (pda_cons (pdv 3) pda_nil)))) pda_nil)))) (jg_fld 0 Z.cf_Joint)) (jss_cons (js_asg (jv 4) (jg_fld 0 Z.cf_Joint)) jss_nil)))))), (F.bindsN fun _ _ _ _ _ _ us hl => match us, hl with | [_, _, _, _, _], _ => rfl)⟩
abbrev N_Joint_first : List Str := ["self", "one", "other"]
theorem sc_Joint_first : FnScope N_Joint_first ["self"] (defScope s_Joint_first) := ⟨rfl, rfl, rfl, by decide +kernel, rfl, by decide +kernel, by decide +kernel⟩
def FI_Joint_first : List IV → HS → Option (Io IV) := runI 3 ((bSeq (bAsg (iFld "Joint" (iVar 0) "streams") (gIT (gsIC (gIN 1) (gsIC (gIN 2) gsIN)))) (bSeq (bRet (iP (eTup (aCons (eCall F_empty_lane (aCons (eVar 1) aNil)) (aCons (eCall F_empty_lane (aCons (eVar 2) aNil)) aNil))))) bNil)))
theorem oi_Joint_first (T : Txt K mg) (B : Blt mg) (Z : Txi K mg C) : MethI P w K mg base C "Joint" "first" 0 8 FI_Joint_first := by
  obtain ⟨D, f, fd, hD, hc, hm, F⟩ := Z.m_Joint_first.ex
  exact ⟨D, f, fd, ["self"], hD, hc, hm, (FunI_ok F rfl sc_Joint_first (fun cdv A outer s H E hr => (jss_cons (js_asg (ji_fld Z.cf_Joint (jv 0)) (jg_tup (jgs_cons (jg_nm 1 sc_Joint_first.nd) (jgs_cons (jg_nm 2 sc_Joint_first.nd) jgs_nil)))) (jss_cons (js_ret (ji_p (pd_tup (pda_cons (pd_call (ok_empty_lane T B) hr (ha := (pda_cons (pdv 1) pda_nil))) (pda_cons (pd_call (ok_empty_lane T B) hr (ha := (pda_cons (pdv 2) pda_nil))) pda_nil))))) jss_nil)))), (F.bindsN fun _ _ _ _ _ _ us hl => match us, hl with | [_], _ => rfl)⟩
abbrev N_unlike_words : List Str := ["one", "other"]
theorem sc_unlike_words : FnScope N_unlike_words ["one", "other"] (defScope s_unlike_words) := ⟨rfl, rfl, rfl, by decide +kernel, rfl, by decide +kernel, by decide +kernel⟩
def FI_unlike_words : List IV → HS → Option (Io IV) := runI 2 ((bSeq (bRet (iCmp dNe (iFld "Done" (iVar 0) "words") (iFld "Done" (iVar 1) "words"))) bNil))
theorem oi_unlike_words (T : Txt K mg) (B : Blt mg) (Z : Txi K mg C) : DefI P w K mg base C "unlike_words" 2 1 FI_unlike_words := by
  obtain ⟨f, fd, F, hm⟩ := T.a_unlike_words.ex
  exact ⟨f, fd, ["one", "other"], (FunI_ok F rfl sc_unlike_words (fun cdv A outer s H E hr => (jss_cons (js_ret (ji_cmp (op_neD hr.units) rok_ne (ji_fld Z.cf_Done (jv 0)) (ji_fld Z.cf_Done (jv 1)) (nomark _))) jss_nil))), hm, F.kp, (F.bindsN fun _ _ _ _ _ _ us hl => match us, hl with | [_, _], _ => rfl)⟩
abbrev N_Joint_done : List Str := ["self", "pair", "many", "ends", "stream", "lane", "end"]
theorem sc_Joint_done : FnScope N_Joint_done ["self", "pair", "many"] (defScope s_Joint_done) := ⟨rfl, rfl, rfl, by decide +kernel, rfl, by decide +kernel, by decide +kernel⟩
noncomputable def FI_Joint_done (fa : Addr) : List IV → HS → Option (Io IV) := runI 7 ((bSeq (bAsg (iLc (List.map (fun p : Str × Nat => p.2) [("stream", 4), ("lane", 5)]) (iZipI (iFld "Joint" (iVar 0) "streams") (iP (eVar 1))) (gIT (gsIC (gIN 4) (gsIC (gIN 5) gsIN))) (iCall FI_done_by (iCons (iP (eVar 4)) (iCons (iP (eVar 5)) (iCons (iP (eVar 2)) iNil))))) (gIN 3)) (bSeq (bRet (iTup (iCons (iTupOf (iLc (List.map (fun p : Str × Nat => p.2) [("end", 6)]) (iObjI (iVar 3)) (gIN 6) (iFld "Done" (iVar 6) "lane"))) (iCons (iAttr "Joint" "shows" fa FI_unlike_words (iVar 0) (iCons (iIx (iVar 3) (iP (eC (.int 0)))) (iCons (iIx (iVar 3) (iP (eC (.int 1)))) iNil))) iNil)))) bNil)))
theorem oi_Joint_done (T : Txt K mg) (B : Blt mg) (Z : Txi K mg C) {fa : Addr} (hf : ValI P w K mg base C fa 2 1 FI_unlike_words) : MethI P w K mg base C "Joint" "done" 2 11 (FI_Joint_done fa) := by
  obtain ⟨D, f, fd, hD, hc, hm, F⟩ := Z.m_Joint_done.ex
  exact ⟨D, f, fd, ["self", "pair", "many"], hD, hc, hm, (FunI_ok F rfl sc_Joint_done (fun cdv A outer s H E hr => (jss_cons (js_setLc (sc := defScope s_Joint_done) 3 [("stream", 4), ("lane", 5)] (jii_zip B (ji_fld Z.cf_Joint (jv 0)) (ji_p (pdv 1))) (blkOk_by (N := N_Joint_done) (sc := defScope s_Joint_done) (by decide +kernel)) (by decide) sc_Joint_done.nd (sw_true rfl rfl rfl (by decide +kernel)) (fun _ _ _ _ _ => (jg_tup (jgs_cons (jg_nm 4 sc_Joint_done.nd) (jgs_cons (jg_nm 5 sc_Joint_done.nd) jgs_nil)))) (fun _ _ _ _ _ => (ji_call (oi_done_by T B Z) takes0 hr (ha := (ja_cons (ji_p (pdv 4)) (ja_cons (ji_p (pdv 5)) (ja_cons (ji_p (pdv 2)) ja_nil))))))) (jss_cons (js_ret (ji_tup (ja_cons (ji_tupOf B (ji_lcO (sc := defScope s_Joint_done) [("end", 6)] 6 (jv 3) (blkOk_by (N := N_Joint_done) (sc := defScope s_Joint_done) (by decide +kernel)) (by decide) sc_Joint_done.nd (fun _ _ _ _ _ => (jg_nm 6 sc_Joint_done.nd)) (fun _ _ _ _ _ => (ji_fld Z.cf_Done (jv 6))) (fun _ _ _ h => pure_fldVar h))) (ja_cons (ji_attr hf Z.cf_Joint (takes_of rfl rfl rfl rfl) hr (ho := (jv 0)) (ha := (ja_cons (ji_ix (jv 3) (ji_p pd_int)) (ja_cons (ji_ix (jv 3) (ji_p pd_int)) ja_nil)))) ja_nil)))) jss_nil)))), (F.bindsN fun _ _ _ _ _ _ us hl => match us, hl with | [_, _, _], _ => rfl)⟩
abbrev N_Joint_told : List Str := ["self", "most", "by_table", "by_run", "found", "at", "many", "pair", "shown"]
theorem sc_Joint_told : FnScope N_Joint_told ["self", "most", "by_table", "by_run"] (defScope s_Joint_told) := ⟨rfl, rfl, rfl, by decide +kernel, rfl, by decide +kernel, by decide +kernel⟩
noncomputable def FI_Joint_told (fa : Addr) : List IV → HS → Option (Io IV) := runI 9 ((bSeq (bAsg (iMake "Found" FI_Found_init (iCons (iMeth "Joint" "first" FI_Joint_first (iVar 0) iNil) iNil)) (gIN 4)) (bSeq (bAsg (iP (eC (.int 0))) (gIN 5)) (bSeq (bWhile 2000 (iCmpT iLt (iP (eVar 5)) (iLen (iFld "Found" (iVar 4) "things"))) (bSeq (bFor (iRngI (iP (eAdd (eVar 1) (eC (.int 1))))) (gIN 6) (bSeq (bAsg (iMeth "Joint" "done" (FI_Joint_done fa) (iVar 0) (iCons (iIx (iFld "Found" (iVar 4) "things") (iP (eVar 5))) (iCons (iP (eVar 6)) iNil))) (gIT (gsIC (gIN 7) (gsIC (gIN 8) gsIN)))) (bSeq (bIf (iPT (cVal (eVar 8))) (bSeq (bRet (iTup (iCons (iP (eVar 3)) (iCons (iMeth "Found" "run_to" FI_Found_run_to (iVar 4) (iCons (iP (eVar 5)) (iCons (iP (eVar 6)) iNil))) iNil)))) bNil) bNil) (bSeq (bExp (iMeth "Found" "put" FI_Found_put (iVar 4) (iCons (iP (eVar 7)) (iCons (iP (eVar 5)) (iCons (iP (eVar 6)) iNil))))) bNil)))) (bSeq (bAug 5 fICat (iP (eC (.int 1)))) bNil))) (bSeq (bRet (iTup (iCons (iP (eVar 2)) (iCons (iTupOf (iFld "Found" (iVar 4) "things")) iNil)))) bNil)))))
theorem oi_Joint_told (T : Txt K mg) (B : Blt mg) (Z : Txi K mg C) {fa : Addr} (hf : ValI P w K mg base C fa 2 1 FI_unlike_words) : MethI P w K mg base C "Joint" "told" 3 12 (FI_Joint_told fa) := by
  obtain ⟨D, f, fd, hD, hc, hm, F⟩ := Z.m_Joint_told.ex
  exact ⟨D, f, fd, ["self", "most", "by_table", "by_run"], hD, hc, hm, (FunI_ok F rfl sc_Joint_told (fun cdv A outer s H E hr => (jss_cons (js_set 4 sc_Joint_told.nd (ji_make (oi_Found_init T B Z) hr (ha := (ja_cons (ji_meth0 (oi_Joint_first T B Z) (takes_of rfl rfl rfl rfl) hr (ho := (jv 0))) ja_nil)))) (jss_cons (js_set 5 sc_Joint_told.nd (ji_p pd_int)) (jss_cons (js_while 2000 (passes_of rfl) (jt_cmp op_lt rok_lt (ji_p (pdv 5)) (ji_len B (ji_fld Z.cf_Found (jv 4))) (nomark _)) (jss_cons (js_for (passes_of rfl) (jii_range1 B (ji_p (pd_add (pdv 1) pd_int))) (jg_nm 6 sc_Joint_told.nd) (jss_cons (js_asg (ji_meth (oi_Joint_done T B Z hf) (takes_of rfl rfl rfl rfl) hr (ho := (jv 0)) (ha := (ja_cons (ji_ix (ji_fld Z.cf_Found (jv 4)) (ji_p (pdv 5))) (ja_cons (ji_p (pdv 6)) ja_nil)))) (jg_tup (jgs_cons (jg_nm 7 sc_Joint_told.nd) (jgs_cons (jg_nm 8 sc_Joint_told.nd) jgs_nil)))) (jss_cons (js_if (jt_p (pdt_val (pdv 8))) (jss_cons (js_ret (ji_tup (ja_cons (ji_p (pdv 3)) (ja_cons (ji_meth (oi_Found_run_to T B Z) (takes_of rfl rfl rfl rfl) hr (ho := (jv 4)) (ha := (ja_cons (ji_p (pdv 5)) (ja_cons (ji_p (pdv 6)) ja_nil)))) ja_nil)))) jss_nil) jss_nil) (jss_cons (js_exp (ji_meth (oi_Found_put T B Z) (takes_of rfl rfl rfl rfl) hr (ho := (jv 4)) (ha := (ja_cons (ji_p (pdv 7)) (ja_cons (ji_p (pdv 5)) (ja_cons (ji_p (pdv 6)) ja_nil)))))) jss_nil)))) (jss_cons (js_aug 5 iop_icat rok_icat sc_Joint_told.nd (ji_p pd_int)) jss_nil))) (jss_cons (js_ret (ji_tup (ja_cons (ji_p (pdv 2)) (ja_cons (ji_tupOf B (ji_fld Z.cf_Found (jv 4))) ja_nil)))) jss_nil)))))), (F.bindsN fun _ _ _ _ _ _ us hl => match us, hl with | [_, _, _, _], _ => rfl)⟩
abbrev N_joint_alike : List Str := ["one", "other", "limit", "most"]
theorem sc_joint_alike : FnScope N_joint_alike ["one", "other", "limit", "most"] (defScope s_joint_alike) := ⟨rfl, rfl, rfl, by decide +kernel, rfl, by decide +kernel, by decide +kernel⟩
def FI_joint_alike (fa : Addr) : List IV → HS → Option (Io IV) := runI 4 ((bSeq (bExp (iP (eCall F_need_rules (aCons (eVar 0) (aCons (eVar 1) aNil))))) (bSeq (bExp (iP (eCall F_need_small (aCons (eVar 0) (aCons (eVar 2) aNil))))) (bSeq (bExp (iP (eCall F_need_most (aCons (eVar 3) aNil)))) (bSeq (bRet (iMake "Joint" FI_Joint_init (iCons (iP (eVar 0)) (iCons (iP (eVar 1)) (iCons (iP (eVar 2)) (iCons (iVal (.ref fa)) iNil)))))) bNil)))))
theorem oi_joint_alike (T : Txt K mg) (B : Blt mg) (Z : Txi K mg C) {fa : Addr} (hv : mg "unlike_words" = some (.ref fa) ∧ RelV (.ref fa) (.ref fa)) : DefI P w K mg base C "joint_alike" 4 6 (FI_joint_alike fa) := by
  obtain ⟨f, fd, F, hm⟩ := T.a_joint_alike.ex
  exact ⟨f, fd, ["one", "other", "limit", "most"], (FunI_ok F rfl sc_joint_alike (fun cdv A outer s H E hr => (jss_cons (js_exp (ji_p (pd_call (ok_need_rules T B) hr (ha := (pda_cons (pdv 0) (pda_cons (pdv 1) pda_nil)))))) (jss_cons (js_exp (ji_p (pd_call (ok_need_small T B) hr (ha := (pda_cons (pdv 0) (pda_cons (pdv 2) pda_nil)))))) (jss_cons (js_exp (ji_p (pd_call (ok_need_most T B) hr (ha := (pda_cons (pdv 3) pda_nil))))) (jss_cons (js_ret (ji_make (oi_Joint_init T B Z) hr (ha := (ja_cons (ji_p (pdv 0)) (ja_cons (ji_p (pdv 1)) (ja_cons (ji_p (pdv 2)) (ja_cons (ji_val hv.1 hv.2) ja_nil))))))) jss_nil)))))), hm, F.kp, (F.bindsN fun _ _ _ _ _ _ us hl => match us, hl with | [_, _, _, _], _ => rfl)⟩
abbrev N_alike : List Str := ["one", "other", "limit", "most"]
theorem sc_alike : FnScope N_alike ["one", "other", "limit", "most"] (defScope s_alike) := ⟨rfl, rfl, rfl, by decide +kernel, rfl, by decide +kernel, by decide +kernel⟩
noncomputable def FI_alike (fa : Addr) : List IV → HS → Option (Io IV) := runI 4 ((bSeq (bRet (iMeth "Joint" "told" (FI_Joint_told fa) (iCall (FI_joint_alike fa) (iCons (iP (eVar 0)) (iCons (iP (eVar 1)) (iCons (iP (eVar 2)) (iCons (iP (eVar 3)) iNil))))) (iCons (iP (eVar 3)) (iCons (iP (eC (.str "alike"))) (iCons (iP (eC (.str "unlike"))) iNil))))) bNil))
theorem oi_alike (T : Txt K mg) (B : Blt mg) (Z : Txi K mg C) {fa : Addr} (hv : (mg "unlike_words" = some (.ref fa) ∧ RelV (.ref fa) (.ref fa)) ∧ ValI P w K mg base C fa 2 1 FI_unlike_words) : DefKI P w K mg base C "alike" "most" 2 3 13 (FI_alike fa) := by
  obtain ⟨f, fd, F, hm⟩ := T.k_alike.ex
  have hv := hv
  refine ⟨f, fd, ["one", "other", "limit", "most"], (FunI_ok F rfl sc_alike (fun cdv A outer s H E hr => (jss_cons (js_ret (ji_meth (oi_Joint_told T B Z hv.2) (takes_of rfl rfl rfl rfl) hr (ho := (ji_call (oi_joint_alike T B Z hv.1) (takes_of rfl rfl rfl rfl) hr (ha := (ja_cons (ji_p (pdv 0)) (ja_cons (ji_p (pdv 1)) (ja_cons (ji_p (pdv 2)) (ja_cons (ji_p (pdv 3)) ja_nil))))))) (ha := (ja_cons (ji_p (pdv 3)) (ja_cons (ji_p pd_str) (ja_cons (ji_p pd_str) ja_nil)))))) jss_nil))), hm, F.kp, ?_, ?_⟩
  · exact F.binds0 (ps := ["one", "other", "limit", "most"]) 3 (by simp) rfl (fun D doc pm an cdv ct us ks h1 h2 => match us, ks, h1, h2 with | [_, _, _], [_], _, _ => ⟨_, _, _, _, _, _, rfl, rfl, rfl⟩)
  · obtain ⟨mv, hb⟩ := F.kbinds0 (ps := ["one", "other", "limit", "most"]) 3 ["most"] [] (fun us _ ws => us ++ ws) (by simp) (by simp) (fun r1 _ r3 => r1.append r3) (fun D doc pm an cdv ct us mv ws h1 h2 h3 => match us, mv, ws, h1, h2, h3 with | [_, _, _], [], [_], _, _, _ => rfl)
    exact ⟨_, hb⟩
end
end KW
namespace KW
open PySem PySem.Spec L2
section
variable {P : Program} {w : World} {K : PySem.W.Frag} {mg : Str → Option Value} {base : Heap} {C : Addr}
abbrev N_Serving_init : List Str := ["self", "streams", "rate", "standing", "ring", "lanes"]
theorem sc_Serving_init : FnScope N_Serving_init ["self", "streams", "rate", "standing"] (defScope s_Serving___init__) := ⟨rfl, rfl, rfl, by decide +kernel, rfl, by decide +kernel, by decide +kernel⟩
def FI_Serving_init : List IV → HS → Option (Io IV) := runI 6 ((bSeq (bAsg (iP (eVar 1)) (gIF "Serving" 0 "own_streams")) (bSeq (bAsg (iP (eVar 3)) (gIT (gsIC (gIF "Serving" 0 "own_budget") (gsIC (gIF "Serving" 0 "own_begun") (gsIC (gIN 4) (gsIC (gIN 5) gsIN)))))) (bSeq (bAsg (iLstOf (iP (eVar 4))) (gIF "Serving" 0 "own_ring")) (bSeq (bAsg (iLstOf (iP (eVar 5))) (gIF "Serving" 0 "own_lanes")) (bSeq (bAsg (iLst iNil) (gIF "Serving" 0 "own_rows")) (bSeq (bIf (iCmpT dNe (iFld "Serving" (iVar 0) "own_ring") (iLst iNil)) (bSeq (bFldAug "Serving" 0 "own_budget" (fun i j => i + j) (iP (eVar 2))) bNil) bNil) bNil)))))))
theorem oi_Serving_init (T : Txt K mg) (B : Blt mg) (Z : Txi K mg C) : InitI P w K mg base C "Serving" 3 1 FI_Serving_init := by
  obtain ⟨D, f, fd, hD, hM, F⟩ := Z.i_Serving.ex
  exact ⟨D, f, fd, ["self", "streams", "rate", "standing"], hD, hM, (FunI_ok F rfl sc_Serving_init (fun cdv A outer s H E hr => (jss_cons (js_asg (ji_p (pdv 1)) (jg_fld 0 Z.cf_Serving)) (jss_cons (js_asg (ji_p (pdv 3)) (jg_tup (jgs_cons (jg_fld 0 Z.cf_Serving) (jgs_cons (jg_fld 0 Z.cf_Serving) (jgs_cons (jg_nm 4 sc_Serving_init.nd) (jgs_cons (jg_nm 5 sc_Serving_init.nd) jgs_nil)))))) (jss_cons (js_asg (ji_lstOf B (ji_p (pdv 4))) (jg_fld 0 Z.cf_Serving)) (jss_cons (js_asg (ji_lstOf B (ji_p (pdv 5))) (jg_fld 0 Z.cf_Serving)) (jss_cons (js_asg (ji_lst ja_nil) (jg_fld 0 Z.cf_Serving)) (jss_cons (js_if (jt_cmp (op_neD hr.units) rok_ne (ji_fld Z.cf_Serving (jv 0)) (ji_lst ja_nil) (nomark _)) (jss_cons (js_fldaug 0 in_add Z.cf_Serving (ji_p (pdv 2))) jss_nil) jss_nil) jss_nil)))))))), (F.bindsN fun _ _ _ _ _ _ us hl => match us, hl with | [_, _, _, _], _ => rfl)⟩
abbrev N_Serving_begin_turn : List Str := ["self", "at", "credit", "pieces", "memory"]
theorem sc_Serving_begin_turn : FnScope N_Serving_begin_turn ["self", "at"] (defScope s_Serving_begin_turn) := ⟨rfl, rfl, rfl, by decide +kernel, rfl, by decide +kernel, by decide +kernel⟩
def FI_Serving_begin_turn : List IV → HS → Option (Io IV) := runI 5 ((bSeq (bAsg (iIx (iFld "Serving" (iVar 0) "own_lanes") (iP (eVar 1))) (gIT (gsIC (gIN 2) (gsIC (gIN 3) (gsIC (gIN 4) gsIN))))) (bSeq (bAsg (iTup (iCons (iBin fAdd (iP (eVar 2)) (iBin fMulR (iP (eC (.int 9))) (iIx (iIx (iFld "Serving" (iVar 0) "own_streams") (iP (eVar 1))) (iP (eC (.int 0)))))) (iCons (iP (eVar 3)) (iCons (iP (eVar 4)) iNil)))) (gIS (iFld "Serving" (iVar 0) "own_lanes") (iP (eVar 1)))) (bSeq (bAsg (iP (eC (.bool true))) (gIF "Serving" 0 "own_begun")) bNil))))
theorem oi_Serving_begin_turn (T : Txt K mg) (B : Blt mg) (Z : Txi K mg C) : MethI P w K mg base C "Serving" "begin_turn" 1 1 FI_Serving_begin_turn := by
  obtain ⟨D, f, fd, hD, hc, hm, F⟩ := Z.m_Serving_begin_turn.ex
  exact ⟨D, f, fd, ["self", "at"], hD, hc, hm, (FunI_ok F rfl sc_Serving_begin_turn (fun cdv A outer s H E hr => (jss_cons (js_asg (ji_ix (ji_fld Z.cf_Serving (jv 0)) (ji_p (pdv 1))) (jg_tup (jgs_cons (jg_nm 2 sc_Serving_begin_turn.nd) (jgs_cons (jg_nm 3 sc_Serving_begin_turn.nd) (jgs_cons (jg_nm 4 sc_Serving_begin_turn.nd) jgs_nil))))) (jss_cons (js_asg (ji_tup (ja_cons (ji_op (op_add.or op_catA) rok_add (ji_p (pdv 2)) (ji_op op_mulR rok_mulR (ji_p (pd_glob T.c_TURN)) (ji_ix (ji_ix (ji_fld Z.cf_Serving (jv 0)) (ji_p (pdv 1))) (ji_p pd_int)))) (ja_cons (ji_p (pdv 3)) (ja_cons (ji_p (pdv 4)) ja_nil)))) (jg_sub (ji_fld Z.cf_Serving (jv 0)) (ji_p (pdv 1)))) (jss_cons (js_asg (ji_p pd_bl) (jg_fld 0 Z.cf_Serving)) jss_nil))))), (F.bindsN fun _ _ _ _ _ _ us hl => match us, hl with | [_, _], _ => rfl)⟩
abbrev N_Serving_end_turn : List Str := ["self", "at"]
theorem sc_Serving_end_turn : FnScope N_Serving_end_turn ["self", "at"] (defScope s_Serving_end_turn) := ⟨rfl, rfl, rfl, by decide +kernel, rfl, by decide +kernel, by decide +kernel⟩
def FI_Serving_end_turn : List IV → HS → Option (Io IV) := runI 2 ((bSeq (bAsg (iTwo catGo (iFrom (iFld "Serving" (iVar 0) "own_ring") 1) (iIf (iCmpT dNe (iIx (iIx (iFld "Serving" (iVar 0) "own_lanes") (iP (eVar 1))) (iP (eC (.int 1)))) (iP (eTup aNil))) (iLst (iCons (iP (eVar 1)) iNil)) (iLst iNil))) (gIF "Serving" 0 "own_ring")) (bSeq (bAsg (iP (eC (.bool false))) (gIF "Serving" 0 "own_begun")) bNil)))
theorem oi_Serving_end_turn (T : Txt K mg) (B : Blt mg) (Z : Txi K mg C) : MethI P w K mg base C "Serving" "end_turn" 1 1 FI_Serving_end_turn := by
  obtain ⟨D, f, fd, hD, hc, hm, F⟩ := Z.m_Serving_end_turn.ex
  exact ⟨D, f, fd, ["self", "at"], hD, hc, hm, (FunI_ok F rfl sc_Serving_end_turn (fun cdv A outer s H E hr => (jss_cons (js_asg (ji_cat (ji_from (n := 1) (ji_fld Z.cf_Serving (jv 0))) (ji_if (jt_cmp (op_neD hr.units) rok_ne (ji_ix (ji_ix (ji_fld Z.cf_Serving (jv 0)) (ji_p (pdv 1))) (ji_p pd_int)) (ji_p (pd_tup pda_nil)) (nomark _)) (ji_lst (ja_cons (ji_p (pdv 1)) ja_nil)) (ji_lst ja_nil))) (jg_fld 0 Z.cf_Serving)) (jss_cons (js_asg (ji_p pd_bl) (jg_fld 0 Z.cf_Serving)) jss_nil)))), (F.bindsN fun _ _ _ _ _ _ us hl => match us, hl with | [_, _], _ => rfl)⟩
abbrev N_Serving_head_goes : List Str := ["self", "at", "size", "can", "marked", "wait", "credit", "pieces", "memory", "word"]
theorem sc_Serving_head_goes : FnScope N_Serving_head_goes ["self", "at"] (defScope s_Serving_head_goes) := ⟨rfl, rfl, rfl, by decide +kernel, rfl, by decide +kernel, by decide +kernel⟩
def FI_Serving_head_goes : List IV → HS → Option (Io IV) := runI 10 ((bSeq (bAsg (iIx (iIx (iIx (iFld "Serving" (iVar 0) "own_lanes") (iP (eVar 1))) (iP (eC (.int 1)))) (iP (eC (.int 0)))) (gIT (gsIC (gIN 2) (gsIC (gIN 3) (gsIC (gIN 4) (gsIC (gIN 5) gsIN)))))) (bSeq (bAsg (iCallD F_head_by (iCons (iIx (iFld "Serving" (iVar 0) "own_streams") (iP (eVar 1))) (iCons (iIx (iFld "Serving" (iVar 0) "own_lanes") (iP (eVar 1))) iNil))) (gIT (gsIC (gIT (gsIC (gIN 6) (gsIC (gIN 7) (gsIC (gIN 8) gsIN)))) (gsIC (gIN 9) gsIN)))) (bSeq (bExp (iAppend (iFld "Serving" (iVar 0) "own_rows") (iP (eTup (aCons (eVar 9) (aCons (eVar 1) (aCons (eVar 2) (aCons (eVar 5) aNil)))))))) (bSeq (bIf (iPT (cNe (eVar 9) (eC (.str "drop")))) (bSeq (bFldAug "Serving" 0 "own_budget" (fun i j => i - j) (iP (eVar 2))) (bSeq (bAug 6 fSub (iP (eIf (cNe (eVar 7) (eTup aNil)) (eVar 2) (eC (.int 0))))) bNil)) bNil) (bSeq (bAsg (iP (eTup (aCons (eVar 6) (aCons (eVar 7) (aCons (eVar 8) aNil))))) (gIS (iFld "Serving" (iVar 0) "own_lanes") (iP (eVar 1)))) (bSeq (bIf (iPT (cEq (eVar 7) (eTup aNil))) (bSeq (bExp (iMeth "Serving" "end_turn" FI_Serving_end_turn (iVar 0) (iCons (iP (eVar 1)) iNil))) bNil) bNil) bNil)))))))
theorem oi_Serving_head_goes (T : Txt K mg) (B : Blt mg) (Z : Txi K mg C) : MethI P w K mg base C "Serving" "head_goes" 1 10 FI_Serving_head_goes := by
  obtain ⟨D, f, fd, hD, hc, hm, F⟩ := Z.m_Serving_head_goes.ex
  exact ⟨D, f, fd, ["self", "at"], hD, hc, hm, (FunI_ok F rfl sc_Serving_head_goes (fun cdv A outer s H E hr => (jss_cons (js_asg (ji_ix (ji_ix (ji_ix (ji_fld Z.cf_Serving (jv 0)) (ji_p (pdv 1))) (ji_p pd_int)) (ji_p pd_int)) (jg_tup (jgs_cons (jg_nm 2 sc_Serving_head_goes.nd) (jgs_cons (jg_nm 3 sc_Serving_head_goes.nd) (jgs_cons (jg_nm 4 sc_Serving_head_goes.nd) (jgs_cons (jg_nm 5 sc_Serving_head_goes.nd) jgs_nil)))))) (jss_cons (js_asg (ji_callD (ok_head_by T B) hr (ha := (ja_cons (ji_ix (ji_fld Z.cf_Serving (jv 0)) (ji_p (pdv 1))) (ja_cons (ji_ix (ji_fld Z.cf_Serving (jv 0)) (ji_p (pdv 1))) ja_nil)))) (jg_tup (jgs_cons (jg_tup (jgs_cons (jg_nm 6 sc_Serving_head_goes.nd) (jgs_cons (jg_nm 7 sc_Serving_head_goes.nd) (jgs_cons (jg_nm 8 sc_Serving_head_goes.nd) jgs_nil)))) (jgs_cons (jg_nm 9 sc_Serving_head_goes.nd) jgs_nil)))) (jss_cons (js_exp (ji_append (ji_fld Z.cf_Serving (jv 0)) (ji_p (pd_tup (pda_cons (pdv 9) (pda_cons (pdv 1) (pda_cons (pdv 2) (pda_cons (pdv 5) pda_nil)))))))) (jss_cons (js_if (jt_p (pdt_ne hr.units (pdv 9) pd_str)) (jss_cons (js_fldaug 0 in_sub Z.cf_Serving (ji_p (pdv 2))) (jss_cons (js_aug 6 iop_sub rok_sub sc_Serving_head_goes.nd (ji_p (pd_if (pdt_ne hr.units (pdv 7) (pd_tup pda_nil)) (pdv 2) pd_int))) jss_nil)) jss_nil) (jss_cons (js_asg (ji_p (pd_tup (pda_cons (pdv 6) (pda_cons (pdv 7) (pda_cons (pdv 8) pda_nil))))) (jg_sub (ji_fld Z.cf_Serving (jv 0)) (ji_p (pdv 1)))) (jss_cons (js_if (jt_p (pdt_eq hr.units (pdv 7) (pd_tup pda_nil))) (jss_cons (js_exp (ji_meth (oi_Serving_end_turn T B Z) (takes_of rfl rfl rfl rfl) hr (ho := (jv 0)) (ha := (ja_cons (ji_p (pdv 1)) ja_nil)))) jss_nil) jss_nil) jss_nil)))))))), (F.bindsN fun _ _ _ _ _ _ us hl => match us, hl with | [_, _], _ => rfl)⟩
abbrev N_Serving_goes_on : List Str := ["self", "at", "size"]
theorem sc_Serving_goes_on : FnScope N_Serving_goes_on ["self"] (defScope s_Serving_goes_on) := ⟨rfl, rfl, rfl, by decide +kernel, rfl, by decide +kernel, by decide +kernel⟩
def FI_Serving_goes_on : List IV → HS → Option (Io IV) := runI 3 ((bSeq (bIf (iCmpT dEq (iFld "Serving" (iVar 0) "own_ring") (iLst iNil)) (bSeq (bRet (iP (eC (.bool false)))) bNil) bNil) (bSeq (bAsg (iIx (iFld "Serving" (iVar 0) "own_ring") (iP (eC (.int 0)))) (gIN 1)) (bSeq (bIf (iNot (iValT (iFld "Serving" (iVar 0) "own_begun"))) (bSeq (bExp (iMeth "Serving" "begin_turn" FI_Serving_begin_turn (iVar 0) (iCons (iP (eVar 1)) iNil))) bNil) bNil) (bSeq (bAsg (iIx (iIx (iIx (iIx (iFld "Serving" (iVar 0) "own_lanes") (iP (eVar 1))) (iP (eC (.int 1)))) (iP (eC (.int 0)))) (iP (eC (.int 0)))) (gIN 2)) (bSeq (bIf (iCmpT iGt (iP (eVar 2)) (iIx (iIx (iFld "Serving" (iVar 0) "own_lanes") (iP (eVar 1))) (iP (eC (.int 0))))) (bSeq (bExp (iMeth "Serving" "end_turn" FI_Serving_end_turn (iVar 0) (iCons (iP (eVar 1)) iNil))) bNil) (bSeq (bIf (iCmpT iGt (iP (eVar 2)) (iFld "Serving" (iVar 0) "own_budget")) (bSeq (bRet (iP (eC (.bool false)))) bNil) (bSeq (bExp (iMeth "Serving" "head_goes" FI_Serving_head_goes (iVar 0) (iCons (iP (eVar 1)) iNil))) bNil)) bNil)) (bSeq (bRet (iP (eC (.bool true)))) bNil)))))))
theorem oi_Serving_goes_on (T : Txt K mg) (B : Blt mg) (Z : Txi K mg C) : MethI P w K mg base C "Serving" "goes_on" 0 11 FI_Serving_goes_on := by
  obtain ⟨D, f, fd, hD, hc, hm, F⟩ := Z.m_Serving_goes_on.ex
  exact ⟨D, f, fd, ["self"], hD, hc, hm, (FunI_ok F rfl sc_Serving_goes_on (fun cdv A outer s H E hr => (jss_cons (js_if (jt_cmp (op_eqD hr.units) rok_eq (ji_fld Z.cf_Serving (jv 0)) (ji_lst ja_nil) (nomark _)) (jss_cons (js_ret (ji_p pd_bl)) jss_nil) jss_nil) (jss_cons (js_set 1 sc_Serving_goes_on.nd (ji_ix (ji_fld Z.cf_Serving (jv 0)) (ji_p pd_int))) (jss_cons (js_if (jt_not (jt_val (ji_fld Z.cf_Serving (jv 0)))) (jss_cons (js_exp (ji_meth (oi_Serving_begin_turn T B Z) (takes_of rfl rfl rfl rfl) hr (ho := (jv 0)) (ha := (ja_cons (ji_p (pdv 1)) ja_nil)))) jss_nil) jss_nil) (jss_cons (js_set 2 sc_Serving_goes_on.nd (ji_ix (ji_ix (ji_ix (ji_ix (ji_fld Z.cf_Serving (jv 0)) (ji_p (pdv 1))) (ji_p pd_int)) (ji_p pd_int)) (ji_p pd_int))) (jss_cons (js_if (jt_cmp op_gt rok_gt (ji_p (pdv 2)) (ji_ix (ji_ix (ji_fld Z.cf_Serving (jv 0)) (ji_p (pdv 1))) (ji_p pd_int)) (nomark _)) (jss_cons (js_exp (ji_meth (oi_Serving_end_turn T B Z) (takes_of rfl rfl rfl rfl) hr (ho := (jv 0)) (ha := (ja_cons (ji_p (pdv 1)) ja_nil)))) jss_nil) (jss_cons (js_if (jt_cmp op_gt rok_gt (ji_p (pdv 2)) (ji_fld Z.cf_Serving (jv 0)) (nomark _)) (jss_cons (js_ret (ji_p pd_bl)) jss_nil) (jss_cons (js_exp (ji_meth (oi_Serving_head_goes T B Z) (takes_of rfl rfl rfl rfl) hr (ho := (jv 0)) (ha := (ja_cons (ji_p (pdv 1)) ja_nil)))) jss_nil)) jss_nil)) (jss_cons (js_ret (ji_p pd_bl)) jss_nil)))))))), (F.bindsN fun _ _ _ _ _ _ us hl => match us, hl with | [_], _ => rfl)⟩
abbrev N_Serving_stands : List Str := ["self", "budget"]
theorem sc_Serving_stands : FnScope N_Serving_stands ["self"] (defScope s_Serving_stands) := ⟨rfl, rfl, rfl, by decide +kernel, rfl, by decide +kernel, by decide +kernel⟩
def FI_Serving_stands : List IV → HS → Option (Io IV) := runI 2 ((bSeq (bAsg (iIf (iCmpT dNe (iFld "Serving" (iVar 0) "own_ring") (iLst iNil)) (iFld "Serving" (iVar 0) "own_budget") (iP (eC (.int 0)))) (gIN 1)) (bSeq (bRet (iTup (iCons (iP (eVar 1)) (iCons (iFld "Serving" (iVar 0) "own_begun") (iCons (iTupOf (iFld "Serving" (iVar 0) "own_ring")) (iCons (iTupOf (iFld "Serving" (iVar 0) "own_lanes")) iNil)))))) bNil)))
theorem oi_Serving_stands (T : Txt K mg) (B : Blt mg) (Z : Txi K mg C) : MethI P w K mg base C "Serving" "stands" 0 1 FI_Serving_stands := by
  obtain ⟨D, f, fd, hD, hc, hm, F⟩ := Z.m_Serving_stands.ex
  exact ⟨D, f, fd, ["self"], hD, hc, hm, (FunI_ok F rfl sc_Serving_stands (fun cdv A outer s H E hr => (jss_cons (js_set 1 sc_Serving_stands.nd (ji_if (jt_cmp (op_neD hr.units) rok_ne (ji_fld Z.cf_Serving (jv 0)) (ji_lst ja_nil) (nomark _)) (ji_fld Z.cf_Serving (jv 0)) (ji_p pd_int))) (jss_cons (js_ret (ji_tup (ja_cons (ji_p (pdv 1)) (ja_cons (ji_fld Z.cf_Serving (jv 0)) (ja_cons (ji_tupOf B (ji_fld Z.cf_Serving (jv 0))) (ja_cons (ji_tupOf B (ji_fld Z.cf_Serving (jv 0))) ja_nil)))))) jss_nil)))), (F.bindsN fun _ _ _ _ _ _ us hl => match us, hl with | [_], _ => rfl)⟩
abbrev N_served_by : List Str := ["streams", "rate", "standing", "serving", "going"]
theorem sc_served_by : FnScope N_served_by ["streams", "rate", "standing"] (defScope s_served_by) := ⟨rfl, rfl, rfl, by decide +kernel, rfl, by decide +kernel, by decide +kernel⟩
def FI_served_by : List IV → HS → Option (Io IV) := runI 5 ((bSeq (bAsg (iMake "Serving" FI_Serving_init (iCons (iP (eVar 0)) (iCons (iP (eVar 1)) (iCons (iP (eVar 2)) iNil)))) (gIN 3)) (bSeq (bAsg (iP (eC (.bool true))) (gIN 4)) (bSeq (bWhile 2000 (iPT (cVal (eVar 4))) (bSeq (bAsg (iMeth "Serving" "goes_on" FI_Serving_goes_on (iVar 3) iNil) (gIN 4)) bNil)) (bSeq (bRet (iTup (iCons (iMeth "Serving" "stands" FI_Serving_stands (iVar 3) iNil) (iCons (iTupOf (iFld "Serving" (iVar 3) "own_rows")) iNil)))) bNil)))))
theorem oi_served_by (T : Txt K mg) (B : Blt mg) (Z : Txi K mg C) : DefI P w K mg base C "served_by" 3 12 FI_served_by := by
  obtain ⟨f, fd, F, hm⟩ := T.a_served_by.ex
  exact ⟨f, fd, ["streams", "rate", "standing"], (FunI_ok F rfl sc_served_by (fun cdv A outer s H E hr => (jss_cons (js_set 3 sc_served_by.nd (ji_make (oi_Serving_init T B Z) hr (ha := (ja_cons (ji_p (pdv 0)) (ja_cons (ji_p (pdv 1)) (ja_cons (ji_p (pdv 2)) ja_nil)))))) (jss_cons (js_set 4 sc_served_by.nd (ji_p pd_bl)) (jss_cons (js_while 2000 (passes_of rfl) (jt_p (pdt_val (pdv 4))) (jss_cons (js_set 4 sc_served_by.nd (ji_meth0 (oi_Serving_goes_on T B Z) (takes_of rfl rfl rfl rfl) hr (ho := (jv 3)))) jss_nil)) (jss_cons (js_ret (ji_tup (ja_cons (ji_meth0 (oi_Serving_stands T B Z) (takes_of rfl rfl rfl rfl) hr (ho := (jv 3))) (ja_cons (ji_tupOf B (ji_fld Z.cf_Serving (jv 3))) ja_nil)))) jss_nil)))))), hm, F.kp, (F.bindsN fun _ _ _ _ _ _ us hl => match us, hl with | [_, _, _], _ => rfl)⟩
abbrev N_all_come : List Str := ["streams", "standing", "comers", "budget", "begun", "ring", "lanes", "rows", "at", "size", "can", "word"]
theorem sc_all_come : FnScope N_all_come ["streams", "standing", "comers"] (defScope s_all_come) := ⟨rfl, rfl, rfl, by decide +kernel, rfl, by decide +kernel, by decide +kernel⟩
def FI_all_come : List IV → HS → Option (Io IV) := runI 12 ((bSeq (bAsg (iP (eVar 1)) (gIT (gsIC (gIN 3) (gsIC (gIN 4) (gsIC (gIN 5) (gsIC (gIN 6) gsIN)))))) (bSeq (bAsg (iLstOf (iVar 6)) (gIN 6)) (bSeq (bAsg (iLst iNil) (gIN 7)) (bSeq (bFor (iTupI (iP (eVar 2))) (gIT (gsIC (gIN 8) (gsIC (gIN 9) (gsIC (gIN 10) gsIN)))) (bSeq (bAsg (iCallD F_put_by (iCons (iP (eIxV (eVar 0) (eVar 8))) (iCons (iIx (iVar 6) (iP (eVar 8))) (iCons (iP (eVar 9)) (iCons (iP (eVar 10)) iNil))))) (gIT (gsIC (gIS (iVar 6) (iP (eVar 8))) (gsIC (gIN 11) gsIN)))) (bSeq (bExp (iAppend (iVar 7) (iP (eTup (aCons (eVar 11) (aCons (eVar 8) (aCons (eVar 9) (aCons (eC (.int 0)) aNil)))))))) (bSeq (bIf (iAnd (iCmpT dNe (iIx (iIx (iVar 6) (iP (eVar 8))) (iP (eC (.int 1)))) (iP (eTup aNil))) (iPT (cCmp dNotIn (eVar 8) (eVar 5)))) (bSeq (bAug 5 fICat (iP (eTup (aCons (eVar 8) aNil)))) bNil) bNil) bNil)))) (bSeq (bRet (iTup (iCons (iTup (iCons (iP (eVar 3)) (iCons (iP (eVar 4)) (iCons (iP (eVar 5)) (iCons (iTupOf (iVar 6)) iNil))))) (iCons (iTupOf (iVar 7)) iNil)))) bNil))))))
theorem oi_all_come (T : Txt K mg) (B : Blt mg) (Z : Txi K mg C) : DefI P w K mg base C "all_come" 3 10 FI_all_come := by
  obtain ⟨f, fd, F, hm⟩ := T.a_all_come.ex
  exact ⟨f, fd, ["streams", "standing", "comers"], (FunI_ok F rfl sc_all_come (fun cdv A outer s H E hr => (jss_cons (js_asg (ji_p (pdv 1)) (jg_tup (jgs_cons (jg_nm 3 sc_all_come.nd) (jgs_cons (jg_nm 4 sc_all_come.nd) (jgs_cons (jg_nm 5 sc_all_come.nd) (jgs_cons (jg_nm 6 sc_all_come.nd) jgs_nil)))))) (jss_cons (js_set 6 sc_all_come.nd (ji_lstOf B (jv 6))) (jss_cons (js_set 7 sc_all_come.nd (ji_lst ja_nil)) (jss_cons (js_for (passes_of rfl) (jii_tup (ji_p (pdv 2))) (jg_tup (jgs_cons (jg_nm 8 sc_all_come.nd) (jgs_cons (jg_nm 9 sc_all_come.nd) (jgs_cons (jg_nm 10 sc_all_come.nd) jgs_nil)))) (jss_cons (js_asg (ji_callD (ok_put_by T B) hr (ha := (ja_cons (ji_p (pd_ixV (pdv 0) (pdv 8))) (ja_cons (ji_ix (jv 6) (ji_p (pdv 8))) (ja_cons (ji_p (pdv 9)) (ja_cons (ji_p (pdv 10)) ja_nil)))))) (jg_tup (jgs_cons (jg_sub (jv 6) (ji_p (pdv 8))) (jgs_cons (jg_nm 11 sc_all_come.nd) jgs_nil)))) (jss_cons (js_exp (ji_append (jv 7) (ji_p (pd_tup (pda_cons (pdv 11) (pda_cons (pdv 8) (pda_cons (pdv 9) (pda_cons pd_int pda_nil)))))))) (jss_cons (js_if (jt_w (jw_and (jt_cmp (op_neD hr.units) rok_ne (ji_ix (ji_ix (jv 6) (ji_p (pdv 8))) (ji_p pd_int)) (ji_p (pd_tup pda_nil)) (nomark _)) (jw_and1 (jt_p (pdt_notIn (pdv 8) (pdv 5)))))) (jss_cons (js_aug 5 iop_icat rok_icat sc_all_come.nd (ji_p (pd_tup (pda_cons (pdv 8) pda_nil)))) jss_nil) jss_nil) jss_nil)))) (jss_cons (js_ret (ji_tup (ja_cons (ji_tup (ja_cons (ji_p (pdv 3)) (ja_cons (ji_p (pdv 4)) (ja_cons (ji_p (pdv 5)) (ja_cons (ji_tupOf B (jv 6)) ja_nil))))) (ja_cons (ji_tupOf B (jv 7)) ja_nil)))) jss_nil))))))), hm, F.kp, (F.bindsN fun _ _ _ _ _ _ us hl => match us, hl with | [_, _, _], _ => rfl)⟩
abbrev N_stepped_by : List Str := ["streams", "rate", "standing", "comers", "ahead", "behind"]
theorem sc_stepped_by : FnScope N_stepped_by ["streams", "rate", "standing", "comers"] (defScope s_stepped_by) := ⟨rfl, rfl, rfl, by decide +kernel, rfl, by decide +kernel, by decide +kernel⟩
def FI_stepped_by : List IV → HS → Option (Io IV) := runI 6 ((bSeq (bAsg (iCall FI_all_come (iCons (iP (eVar 0)) (iCons (iP (eCall F_all_renewed (aCons (eVar 0) (aCons (eVar 2) aNil)))) (iCons (iP (eVar 3)) iNil)))) (gIT (gsIC (gIN 2) (gsIC (gIN 4) gsIN)))) (bSeq (bAsg (iCall FI_served_by (iCons (iP (eVar 0)) (iCons (iP (eVar 1)) (iCons (iP (eVar 2)) iNil)))) (gIT (gsIC (gIN 2) (gsIC (gIN 5) gsIN)))) (bSeq (bRet (iP (eTup (aCons (eCall F_all_passed (aCons (eVar 0) (aCons (eVar 2) aNil))) (aCons (eAdd (eVar 4) (eVar 5)) aNil))))) bNil))))
theorem oi_stepped_by (T : Txt K mg) (B : Blt mg) (Z : Txi K mg C) : DefI P w K mg base C "stepped_by" 4 13 FI_stepped_by := by
  obtain ⟨f, fd, F, hm⟩ := T.a_stepped_by.ex
  exact ⟨f, fd, ["streams", "rate", "standing", "comers"], (FunI_ok F rfl sc_stepped_by (fun cdv A outer s H E hr => (jss_cons (js_asg (ji_call (oi_all_come T B Z) (takes_of rfl rfl rfl rfl) hr (ha := (ja_cons (ji_p (pdv 0)) (ja_cons (ji_p (pd_call (ok_all_renewed T B) hr (ha := (pda_cons (pdv 0) (pda_cons (pdv 2) pda_nil))))) (ja_cons (ji_p (pdv 3)) ja_nil))))) (jg_tup (jgs_cons (jg_nm 2 sc_stepped_by.nd) (jgs_cons (jg_nm 4 sc_stepped_by.nd) jgs_nil)))) (jss_cons (js_asg (ji_call (oi_served_by T B Z) (takes_of rfl rfl rfl rfl) hr (ha := (ja_cons (ji_p (pdv 0)) (ja_cons (ji_p (pdv 1)) (ja_cons (ji_p (pdv 2)) ja_nil))))) (jg_tup (jgs_cons (jg_nm 2 sc_stepped_by.nd) (jgs_cons (jg_nm 5 sc_stepped_by.nd) jgs_nil)))) (jss_cons (js_ret (ji_p (pd_tup (pda_cons (pd_call (ok_all_passed T B) hr (ha := (pda_cons (pdv 0) (pda_cons (pdv 2) pda_nil)))) (pda_cons (pd_add (pdv 4) (pdv 5)) pda_nil))))) jss_nil))))), hm, F.kp, (F.bindsN fun _ _ _ _ _ _ us hl => match us, hl with | [_, _, _, _], _ => rfl)⟩
end
end KW
namespace KW
open PySem PySem.Spec L2
section
variable {P : Program} {w : World} {K : PySem.W.Frag} {mg : Str → Option Value} {base : Heap} {C : Addr}
abbrev N_Line_init : List Str := ["self", "streams", "rate", "standing"]
theorem sc_Line_init : FnScope N_Line_init ["self", "streams", "rate", "standing"] (defScope s_Line___init__) := ⟨rfl, rfl, rfl, by decide +kernel, rfl, by decide +kernel, by decide +kernel⟩
def FI_Line_init : List IV → HS → Option (Io IV) := runI 4 ((bSeq (bExp (iP (eCall F_need_streams (aCons (eVar 1) aNil)))) (bSeq (bExp (iP (eCall F_need_rate (aCons (eVar 2) aNil)))) (bSeq (bIf (iPT (cIsN (eVar 3) (eC .none))) (bSeq (bAsg (iP (eCall F_first_standing (aCons (eVar 1) aNil))) (gIN 3)) bNil) bNil) (bSeq (bExp (iP (eCall F_need_standing (aCons (eVar 1) (aCons (eVar 3) aNil))))) (bSeq (bAsg (iP (eTup (aCons (eVar 1) (aCons (eVar 2) (aCons (eVar 3) aNil))))) (gIT (gsIC (gIF "Line" 0 "line_streams") (gsIC (gIF "Line" 0 "line_rate") (gsIC (gIF "Line" 0 "line_standing") gsIN))))) (bSeq (bAsg (iLst iNil) (gIF "Line" 0 "line_past")) (bSeq (bAsg (iLst iNil) (gIF "Line" 0 "line_diary")) bNil))))))))
theorem oi_Line_init (T : Txt K mg) (B : Blt mg) (Z : Txi K mg C) : InitKI P w K mg base C "Line" "rate" 1 11 FI_Line_init := by
  obtain ⟨D, f, fd, hD, hM, F⟩ := Z.i_Line.ex
  refine ⟨D, f, fd, ["self", "streams", "rate", "standing"], hD, hM, (FunI_ok F rfl sc_Line_init (fun cdv A outer s H E hr => (jss_cons (js_exp (ji_p (pd_call (ok_need_streams T B) hr (ha := (pda_cons (pdv 1) pda_nil))))) (jss_cons (js_exp (ji_p (pd_call (ok_need_rate T B) hr (ha := (pda_cons (pdv 2) pda_nil))))) (jss_cons (js_if (jt_p (pdt_isN (pdv 3) pd_non)) (jss_cons (js_set 3 sc_Line_init.nd (ji_p (pd_call (ok_first_standing T B) hr (ha := (pda_cons (pdv 1) pda_nil))))) jss_nil) jss_nil) (jss_cons (js_exp (ji_p (pd_call (ok_need_standing T B) hr (ha := (pda_cons (pdv 1) (pda_cons (pdv 3) pda_nil)))))) (jss_cons (js_asg (ji_p (pd_tup (pda_cons (pdv 1) (pda_cons (pdv 2) (pda_cons (pdv 3) pda_nil))))) (jg_tup (jgs_cons (jg_fld 0 Z.cf_Line) (jgs_cons (jg_fld 0 Z.cf_Line) (jgs_cons (jg_fld 0 Z.cf_Line) jgs_nil))))) (jss_cons (js_asg (ji_lst ja_nil) (jg_fld 0 Z.cf_Line)) (jss_cons (js_asg (ji_lst ja_nil) (jg_fld 0 Z.cf_Line)) jss_nil))))))))), ?_⟩
  obtain ⟨mv, hb⟩ := F.kbinds0 (ps := ["self", "streams", "rate", "standing"]) 2 ["rate"] [("standing", V.non)] (fun us mz ws => us ++ ws ++ mz) (by simp) (by simp) (fun r1 r2 r3 => (r1.append r3).append r2) (fun D doc pm an cdv ct us mv ws h1 h2 h3 => match us, mv, ws, h1, h2, h3 with | [_, _], [_], [_], _, _, _ => ⟨_, _, _, _, _, _, rfl, rfl, rfl⟩)
  exact ⟨_, hb⟩
abbrev N_Line_done : List Str := ["self", "comers", "ahead", "rows"]
theorem sc_Line_done : FnScope N_Line_done ["self", "comers"] (defScope s_Line_done) := ⟨rfl, rfl, rfl, by decide +kernel, rfl, by decide +kernel, by decide +kernel⟩
def FI_Line_done : List IV → HS → Option (Io IV) := runI 4 ((bSeq (bAsg (iFld "Line" (iVar 0) "line_standing") (gIN 2)) (bSeq (bAsg (iCall FI_stepped_by (iCons (iFld "Line" (iVar 0) "line_streams") (iCons (iFld "Line" (iVar 0) "line_rate") (iCons (iP (eVar 2)) (iCons (iP (eVar 1)) iNil))))) (gIT (gsIC (gIF "Line" 0 "line_standing") (gsIC (gIN 3) gsIN)))) (bSeq (bExp (iAppend (iFld "Line" (iVar 0) "line_past") (iP (eTup (aCons (eVar 2) (aCons (eVar 3) aNil)))))) (bSeq (bRet (iP (eVar 3))) bNil)))))
theorem oi_Line_done (T : Txt K mg) (B : Blt mg) (Z : Txi K mg C) : MethI P w K mg base C "Line" "done" 1 14 FI_Line_done := by
  obtain ⟨D, f, fd, hD, hc, hm, F⟩ := Z.m_Line_done.ex
  exact ⟨D, f, fd, ["self", "comers"], hD, hc, hm, (FunI_ok F rfl sc_Line_done (fun cdv A outer s H E hr => (jss_cons (js_set 2 sc_Line_done.nd (ji_fld Z.cf_Line (jv 0))) (jss_cons (js_asg (ji_call (oi_stepped_by T B Z) (takes_of rfl rfl rfl rfl) hr (ha := (ja_cons (ji_fld Z.cf_Line (jv 0)) (ja_cons (ji_fld Z.cf_Line (jv 0)) (ja_cons (ji_p (pdv 2)) (ja_cons (ji_p (pdv 1)) ja_nil)))))) (jg_tup (jgs_cons (jg_fld 0 Z.cf_Line) (jgs_cons (jg_nm 3 sc_Line_done.nd) jgs_nil)))) (jss_cons (js_exp (ji_append (ji_fld Z.cf_Line (jv 0)) (ji_p (pd_tup (pda_cons (pdv 2) (pda_cons (pdv 3) pda_nil)))))) (jss_cons (js_ret (ji_p (pdv 3))) jss_nil)))))), (F.bindsN fun _ _ _ _ _ _ us hl => match us, hl with | [_, _], _ => rfl)⟩
abbrev N_Line_step : List Str := ["self", "comers", "end", "rows"]
theorem sc_Line_step : FnScope N_Line_step ["self", "comers"] (defScope s_Line_step) := ⟨rfl, rfl, rfl, by decide +kernel, rfl, by decide +kernel, by decide +kernel⟩
def FI_Line_step : List IV → HS → Option (Io IV) := runI 4 ((bSeq (bAsg (iP (eC (.str "refused"))) (gIN 2)) (bSeq (bFin (rSeq (bExp (iCallD F_need_comers (iCons (iLen (iFld "Line" (iVar 0) "line_streams")) (iCons (iP (eVar 1)) iNil)))) (rSeq (bAsg (iMeth "Line" "done" FI_Line_done (iVar 0) (iCons (iP (eVar 1)) iNil)) (gIN 3)) (rSeq (bAsg (iP (eC (.str "done"))) (gIN 2)) (rRet (iP (eVar 3)))))) (bSeq (bExp (iAppend (iFld "Line" (iVar 0) "line_diary") (iP (eTup (aCons (eC (.str "step")) (aCons (eVar 2) aNil)))))) bNil)) bNil)))
theorem oi_Line_step (T : Txt K mg) (B : Blt mg) (Z : Txi K mg C) : MethI P w K mg base C "Line" "step" 1 15 FI_Line_step := by
  obtain ⟨D, f, fd, dv, hD, hc, hm, F⟩ := Z.m_Line_step.ex
  refine ⟨D, f, fd, ["self", "comers"], hD, hc, hm, (FunI_ok F rfl sc_Line_step (fun cdv A outer s H E hr => (jss_cons (js_set 2 sc_Line_step.nd (ji_p pd_str)) (jss_cons (js_fin (jr_cons (js_exp (ji_callD (ok_need_comers T B) hr (ha := (ja_cons (ji_len B (ji_fld Z.cf_Line (jv 0))) (ja_cons (ji_p (pdv 1)) ja_nil))))) (jr_cons (js_set 3 sc_Line_step.nd (ji_meth (oi_Line_done T B Z) takes0 hr (ho := (jv 0)) (ha := (ja_cons (ji_p (pdv 1)) ja_nil)))) (jr_cons (js_set 2 sc_Line_step.nd (ji_p pd_str)) (jr_ret (ji_p (pdv 3)))))) (jss_cons (js_exp (ji_append (ji_fld Z.cf_Line (jv 0)) (ji_p (pd_tup (pda_cons pd_str (pda_cons (pdv 2) pda_nil)))))) jss_nil)) jss_nil)))), ?_⟩
  obtain ⟨ds, r, hb⟩ := F.binds1 (ps := ["self", "comers"]) 2 1 (by simp) rfl (fun T kV doc pm an cdv ct us its h1 h2 => match us, its, h1, h2 with | [_, _], [_], _, _ => ⟨_, rfl, rfl⟩)
  cases r
  exact hb
abbrev N_Line_all_steps : List Str := ["self", "ticks", "rows", "number", "comers"]
theorem sc_Line_all_steps : FnScope N_Line_all_steps ["self", "ticks"] (defScope s_Line_all_steps) := ⟨rfl, rfl, rfl, by decide +kernel, rfl, by decide +kernel, by decide +kernel⟩
def FI_Line_all_steps : List IV → HS → Option (Io IV) := runI 5 ((bSeq (bIf (iPT (cOr (cNot (cVal (eIsi "tuple" (eVar 1)))) (cGt (eLen (eVar 1)) (eC (.int 400))))) (bSeq bNever bNil) bNil) (bSeq (bAsg (iLst iNil) (gIN 2)) (bSeq (bFor (iEnumI (iP (eVar 1))) (gIT (gsIC (gIN 3) (gsIC (gIN 4) gsIN))) (bSeq (bIf (iNot (iValT (iCallD F_come_right (iCons (iLen (iFld "Line" (iVar 0) "line_streams")) (iCons (iP (eVar 4)) iNil))))) (bSeq bNever bNil) bNil) (bSeq (bExp (iAppend (iVar 2) (iMeth "Line" "step" FI_Line_step (iVar 0) (iCons (iP (eVar 4)) iNil)))) bNil))) (bSeq (bRet (iTupOf (iVar 2))) bNil)))))
theorem oi_Line_all_steps (T : Txt K mg) (B : Blt mg) (Z : Txi K mg C) : MethI P w K mg base C "Line" "all_steps" 1 16 FI_Line_all_steps := by
  obtain ⟨D, f, fd, hD, hc, hm, F⟩ := Z.m_Line_all_steps.ex
  exact ⟨D, f, fd, ["self", "ticks"], hD, hc, hm, (FunI_ok F rfl sc_Line_all_steps (fun cdv A outer s H E hr => (jss_cons (js_if (jt_p (pdt_w (pdw_or (pdt_not (pdt_val (pd_isi "tuple" B B.tuple (by decide +kernel) (pdv 1)))) (pdw_or1 (pdt_gt (pd_len B (pdv 1)) (pd_glob T.c_MOST_TICKS)))))) (jss_cons js_never jss_nil) jss_nil) (jss_cons (js_set 2 sc_Line_all_steps.nd (ji_lst ja_nil)) (jss_cons (js_for (passes_of rfl) (jii_enum B (ji_p (pdv 1))) (jg_tup (jgs_cons (jg_nm 3 sc_Line_all_steps.nd) (jgs_cons (jg_nm 4 sc_Line_all_steps.nd) jgs_nil))) (jss_cons (js_if (jt_not (jt_val (ji_callD (ok_come_right T B) hr (ha := (ja_cons (ji_len B (ji_fld Z.cf_Line (jv 0))) (ja_cons (ji_p (pdv 4)) ja_nil)))))) (jss_cons js_never jss_nil) jss_nil) (jss_cons (js_exp (ji_append (jv 2) (ji_meth (oi_Line_step T B Z) (takes_of rfl rfl rfl rfl) hr (ho := (jv 0)) (ha := (ja_cons (ji_p (pdv 4)) ja_nil))))) jss_nil))) (jss_cons (js_ret (ji_tupOf B (jv 2))) jss_nil)))))), (F.bindsN fun _ _ _ _ _ _ us hl => match us, hl with | [_, _], _ => rfl)⟩
abbrev N_Line_run : List Str := ["self", "ticks", "ahead", "end", "rows"]
theorem sc_Line_run : FnScope N_Line_run ["self", "ticks"] (defScope s_Line_run) := ⟨rfl, rfl, rfl, by decide +kernel, rfl, by decide +kernel, by decide +kernel⟩
def FI_Line_run : List IV → HS → Option (Io IV) := runI 5 ((bSeq (bAsg (iFld "Line" (iVar 0) "line_diary") (gIN 2)) (bSeq (bAsg (iLst iNil) (gIF "Line" 0 "line_diary")) (bSeq (bAsg (iP (eC (.str "refused"))) (gIN 3)) (bSeq (bFin (rSeq (bAsg (iMeth "Line" "all_steps" FI_Line_all_steps (iVar 0) (iCons (iP (eVar 1)) iNil)) (gIN 4)) (rSeq (bAsg (iP (eC (.str "done"))) (gIN 3)) (rRet (iP (eVar 4))))) (bSeq (bAsg (iTwo catGo (iTwo catGo (iVar 2) (iLst (iCons (iP (eTup (aCons (eC (.str "run")) (aCons (eVar 3) aNil)))) iNil))) (iFld "Line" (iVar 0) "line_diary")) (gIF "Line" 0 "line_diary")) bNil)) bNil)))))
theorem oi_Line_run (T : Txt K mg) (B : Blt mg) (Z : Txi K mg C) : MethI P w K mg base C "Line" "run" 1 17 FI_Line_run := by
  obtain ⟨D, f, fd, hD, hc, hm, F⟩ := Z.m_Line_run.ex
  exact ⟨D, f, fd, ["self", "ticks"], hD, hc, hm, (FunI_ok F rfl sc_Line_run (fun cdv A outer s H E hr => (jss_cons (js_set 2 sc_Line_run.nd (ji_fld Z.cf_Line (jv 0))) (jss_cons (js_asg (ji_lst ja_nil) (jg_fld 0 Z.cf_Line)) (jss_cons (js_set 3 sc_Line_run.nd (ji_p pd_str)) (jss_cons (js_fin (jr_cons (js_set 4 sc_Line_run.nd (ji_meth (oi_Line_all_steps T B Z) takes0 hr (ho := (jv 0)) (ha := (ja_cons (ji_p (pdv 1)) ja_nil)))) (jr_cons (js_set 3 sc_Line_run.nd (ji_p pd_str)) (jr_ret (ji_p (pdv 4))))) (jss_cons (js_asg (ji_cat (ji_cat (jv 2) (ji_lst (ja_cons (ji_p (pd_tup (pda_cons pd_str (pda_cons (pdv 3) pda_nil)))) ja_nil))) (ji_fld Z.cf_Line (jv 0))) (jg_fld 0 Z.cf_Line)) jss_nil)) jss_nil)))))), (F.bindsN fun _ _ _ _ _ _ us hl => match us, hl with | [_, _], _ => rfl)⟩
end
end KW
namespace KW
open PySem PySem.Spec L2
section
variable {P : Program} {w : World} {K : PySem.W.Frag} {mg : Str → Option Value} {base : Heap} {C : Addr}
abbrev N__law_take : List Str := ["_law_pot_here", "_law_many", "_law_found", "_law_one", "_law_other"]
theorem sc__law_take : FnScope N__law_take ["_law_pot_here", "_law_many"] (defScope s__law_take) := ⟨rfl, rfl, rfl, by decide +kernel, rfl, by decide +kernel, by decide +kernel⟩
def FI__law_take : List IV → HS → Option (Io IV) := runI 5 ((bSeq (bIf (iCmpT iGt (iIx (iVar 0) (iP (eC (.int 0)))) (iP (eC (.int 0)))) (bSeq (bAsg (iBin fMod (iIx (iVar 0) (iP (eC (.int 0)))) (iP (eVar 1))) (gIN 2)) (bSeq (bAsg (iBin fFdiv (iIx (iVar 0) (iP (eC (.int 0)))) (iP (eVar 1))) (gIS (iVar 0) (iP (eC (.int 0))))) (bSeq (bRet (iP (eVar 2))) bNil))) bNil) (bSeq (bAsg (iBin fAdd (iIx (iVar 0) (iP (eC (.int 2)))) (iP (eC (.int 1)))) (gIS (iVar 0) (iP (eC (.int 2))))) (bSeq (bAsg (iBin fMod (iBin fPow (iBin fAdd (iIx (iVar 0) (iP (eC (.int 1)))) (iBin fMulR (iP (eC (.int 104729))) (iIx (iVar 0) (iP (eC (.int 2)))))) (iP (eC (.int 3)))) (iP (eC (.int 2305843009213693921)))) (gIN 3)) (bSeq (bAsg (iBin fMod (iBin fPow (iBin fAdd (iBin fAdd (iP (eVar 3)) (iBin fMod (iIx (iVar 0) (iP (eC (.int 1)))) (iP (eC (.int 65537))))) (iBin fMulR (iP (eC (.int 31))) (iIx (iVar 0) (iP (eC (.int 2)))))) (iP (eC (.int 5)))) (iP (eC (.int 2305843009213693907)))) (gIN 4)) (bSeq (bRet (iP (eBin fMod (eBin fFdiv (eVar 4) (eC (.int 1024))) (eVar 1)))) bNil))))))
theorem oi__law_take (T : Txt K mg) (B : Blt mg) (Z : Txi K mg C) : DefI P w K mg base C "_law_take" 2 1 FI__law_take := by
  obtain ⟨f, fd, F, hm⟩ := T.a__law_take.ex
  exact ⟨f, fd, ["_law_pot_here", "_law_many"], (FunI_ok F rfl sc__law_take (fun cdv A outer s H E hr => (jss_cons (js_if (jt_cmp op_gt rok_gt (ji_ix (jv 0) (ji_p pd_int)) (ji_p pd_int) (nomark _)) (jss_cons (js_set 2 sc__law_take.nd (ji_op op_modN rok_modN (ji_ix (jv 0) (ji_p pd_int)) (ji_p (pdv 1)))) (jss_cons (js_asg (ji_op op_fdivN rok_fdivN (ji_ix (jv 0) (ji_p pd_int)) (ji_p (pdv 1))) (jg_sub (jv 0) (ji_p pd_int))) (jss_cons (js_ret (ji_p (pdv 2))) jss_nil))) jss_nil) (jss_cons (js_asg (ji_op (op_add.or op_catA) rok_add (ji_ix (jv 0) (ji_p pd_int)) (ji_p pd_int)) (jg_sub (jv 0) (ji_p pd_int))) (jss_cons (js_set 3 sc__law_take.nd (ji_op op_modN rok_modN (ji_op op_powW rok_powW (ji_op (op_add.or op_catA) rok_add (ji_ix (jv 0) (ji_p pd_int)) (ji_op op_mulR rok_mulR (ji_p pd_int) (ji_ix (jv 0) (ji_p pd_int)))) (ji_p pd_int)) (ji_p pd_int))) (jss_cons (js_set 4 sc__law_take.nd (ji_op op_modN rok_modN (ji_op op_powW rok_powW (ji_op (op_add.or op_catA) rok_add (ji_op (op_add.or op_catA) rok_add (ji_p (pdv 3)) (ji_op op_modN rok_modN (ji_ix (jv 0) (ji_p pd_int)) (ji_p pd_int))) (ji_op op_mulR rok_mulR (ji_p pd_int) (ji_ix (jv 0) (ji_p pd_int)))) (ji_p pd_int)) (ji_p pd_int))) (jss_cons (js_ret (ji_p (pd_mod (pd_fdivN (pdv 4) pd_int) (pdv 1)))) jss_nil))))))), hm, F.kp, (F.bindsN fun _ _ _ _ _ _ us hl => match us, hl with | [_, _], _ => rfl)⟩
abbrev N__law_pot : List Str := ["_law_script", "_law_k", "_law_cell", "_law_mixed"]
theorem sc__law_pot : FnScope N__law_pot ["_law_script", "_law_k"] (defScope s__law_pot) := ⟨rfl, rfl, rfl, by decide +kernel, rfl, by decide +kernel, by decide +kernel⟩
def FI__law_pot : List IV → HS → Option (Io IV) := runI 4 ((bSeq (bAsg (iP (eC (.int 0))) (gIN 2)) (bSeq (bIf (iCmpT iLt (iP (eVar 1)) (iLen (iVar 0))) (bSeq (bAsg (iBin fMod (iAbs (iIx (iVar 0) (iP (eVar 1)))) (iP (eBin fPow (eBin fPow (eC (.int 10)) (eC (.int 60))) (eC (.int 14))))) (gIN 2)) bNil) bNil) (bSeq (bAsg (iP (eBin fMod (eBin fPow (eAdd (eAdd (eBin fMod (eVar 2) (eC (.int 2147483629))) (eBin fMulR (eC (.int 7919)) (eVar 1))) (eC (.int 1))) (eC (.int 5))) (eC (.int 2305843009213693951)))) (gIN 3)) (bSeq (bRet (iLst (iCons (iP (eBin fMulR (eVar 2) (eIntB (eGe (eVar 2) (eBin fPow (eC (.int 10)) (eC (.int 18))))))) (iCons (iP (eVar 3)) (iCons (iP (eC (.int 0))) iNil))))) bNil)))))
theorem oi__law_pot (T : Txt K mg) (B : Blt mg) (Z : Txi K mg C) : DefI P w K mg base C "_law_pot" 2 1 FI__law_pot := by
  obtain ⟨f, fd, F, hm⟩ := T.a__law_pot.ex
  exact ⟨f, fd, ["_law_script", "_law_k"], (FunI_ok F rfl sc__law_pot (fun cdv A outer s H E hr => (jss_cons (js_set 2 sc__law_pot.nd (ji_p pd_int)) (jss_cons (js_if (jt_cmp op_lt rok_lt (ji_p (pdv 1)) (ji_len B (jv 0)) (nomark _)) (jss_cons (js_set 2 sc__law_pot.nd (ji_op op_modN rok_modN (ji_abs B (ji_ix (jv 0) (ji_p (pdv 1)))) (ji_p (pd_pow (pd_pow pd_int pd_int) pd_int)))) jss_nil) jss_nil) (jss_cons (js_set 3 sc__law_pot.nd (ji_p (pd_mod (pd_pow (pd_add (pd_add (pd_mod (pdv 2) pd_int) (pd_mulR pd_int (pdv 1))) pd_int) pd_int) pd_int))) (jss_cons (js_ret (ji_lst (ja_cons (ji_p (pd_mulR (pdv 2) (pd_intB B (pd_ge (pdv 2) (pd_pow pd_int pd_int))))) (ja_cons (ji_p (pdv 3)) (ja_cons (ji_p pd_int) ja_nil))))) jss_nil)))))), hm, F.kp, (F.bindsN fun _ _ _ _ _ _ us hl => match us, hl with | [_, _], _ => rfl)⟩
abbrev N__law_folded : List Str := ["_law_script", "_law_lot", "_law_found", "_law_k"]
theorem sc__law_folded : FnScope N__law_folded ["_law_script", "_law_lot"] (defScope s__law_folded) := ⟨rfl, rfl, rfl, by decide +kernel, rfl, by decide +kernel, by decide +kernel⟩
def FI__law_folded : List IV → HS → Option (Io IV) := runI 4 ((bSeq (bAsg (iLstOf (iTo (iVar 0) (iP (eVar 1)))) (gIN 2)) (bSeq (bFor (iRngI2 (iP (eVar 1)) (iMin (iP (eC (.int 63))) (iLen (iVar 0)))) (gIN 3) (bSeq (bAsg (iBin fAdd (iBin fMulR (iIx (iVar 2) (iP (eBin fMod (eVar 3) (eVar 1)))) (iP (eC (.int 31)))) (iIx (iVar 0) (iP (eVar 3)))) (gIS (iVar 2) (iP (eBin fMod (eVar 3) (eVar 1))))) bNil)) (bSeq (bRet (iVar 2)) bNil))))
theorem oi__law_folded (T : Txt K mg) (B : Blt mg) (Z : Txi K mg C) : DefI P w K mg base C "_law_folded" 2 1 FI__law_folded := by
  obtain ⟨f, fd, F, hm⟩ := T.a__law_folded.ex
  exact ⟨f, fd, ["_law_script", "_law_lot"], (FunI_ok F rfl sc__law_folded (fun cdv A outer s H E hr => (jss_cons (js_set 2 sc__law_folded.nd (ji_lstOf B (ji_to (jv 0) (ji_p (pdv 1))))) (jss_cons (js_for (passes_of rfl) (jii_range2 B (ji_p (pdv 1)) (ji_min B (ji_p pd_int) (ji_len B (jv 0)))) (jg_nm 3 sc__law_folded.nd) (jss_cons (js_asg (ji_op (op_add.or op_catA) rok_add (ji_op op_mulR rok_mulR (ji_ix (jv 2) (ji_p (pd_mod (pdv 3) (pdv 1)))) (ji_p pd_int)) (ji_ix (jv 0) (ji_p (pdv 3)))) (jg_sub (jv 2) (ji_p (pd_mod (pdv 3) (pdv 1))))) jss_nil)) (jss_cons (js_ret (jv 2)) jss_nil))))), hm, F.kp, (F.bindsN fun _ _ _ _ _ _ us hl => match us, hl with | [_, _], _ => rfl)⟩
abbrev N__law_small_rule : List Str := ["_law_pot_here", "_law_way", "_law_mark", "_law_period"]
theorem sc__law_small_rule : FnScope N__law_small_rule ["_law_pot_here"] (defScope s__law_small_rule) := ⟨rfl, rfl, rfl, by decide +kernel, rfl, by decide +kernel, by decide +kernel⟩
def FI__law_small_rule : List IV → HS → Option (Io IV) := runI 4 ((bSeq (bAsg (iCall FI__law_take (iCons (iVar 0) (iCons (iP (eC (.int 6))) iNil))) (gIN 1)) (bSeq (bIf (iPT (cEq (eVar 1) (eC (.int 0)))) (bSeq (bRet (iP (eTup (aCons (eC (.str "none")) aNil)))) bNil) bNil) (bSeq (bIf (iPT (cLt (eVar 1) (eC (.int 4)))) (bSeq (bRet (iTup (iCons (iP (eC (.str "late"))) (iCons (iBin fAdd (iP (eC (.int 1))) (iCall FI__law_take (iCons (iVar 0) (iCons (iP (eC (.int 3))) iNil)))) (iCons (iBin fAdd (iP (eC (.int 1))) (iCall FI__law_take (iCons (iVar 0) (iCons (iP (eC (.int 3))) iNil)))) iNil))))) bNil) bNil) (bSeq (bPar 2 3 (iBin fAdd (iP (eC (.int 1))) (iCall FI__law_take (iCons (iVar 0) (iCons (iP (eC (.int 2))) iNil)))) (iBin fAdd (iP (eC (.int 1))) (iCall FI__law_take (iCons (iVar 0) (iCons (iP (eC (.int 2))) iNil))))) (bSeq (bRet (iTup (iCons (iP (eC (.str "share"))) (iCons (iP (eVar 2)) (iCons (iP (eVar 3)) (iCons (iIx (iLst (iCons (iP (eC (.int 0))) (iCons (iP (eC (.int 500))) (iCons (iP (eC (.int 250))) iNil)))) (iCall FI__law_take (iCons (iVar 0) (iCons (iP (eC (.int 3))) iNil)))) (iCons (iIx (iLst (iCons (iP (eC (.int 0))) (iCons (iP (eC (.int 500))) iNil))) (iCall FI__law_take (iCons (iVar 0) (iCons (iP (eC (.int 2))) iNil)))) iNil))))))) bNil))))))
theorem oi__law_small_rule (T : Txt K mg) (B : Blt mg) (Z : Txi K mg C) : DefI P w K mg base C "_law_small_rule" 1 2 FI__law_small_rule := by
  obtain ⟨f, fd, F, hm⟩ := T.a__law_small_rule.ex
  exact ⟨f, fd, ["_law_pot_here"], (FunI_ok F rfl sc__law_small_rule (fun cdv A outer s H E hr => (jss_cons (js_set 1 sc__law_small_rule.nd (ji_call (oi__law_take T B Z) (takes_of rfl rfl rfl rfl) hr (ha := (ja_cons (jv 0) (ja_cons (ji_p pd_int) ja_nil))))) (jss_cons (js_if (jt_p (pdt_eq hr.units (pdv 1) pd_int)) (jss_cons (js_ret (ji_p (pd_tup (pda_cons pd_str pda_nil)))) jss_nil) jss_nil) (jss_cons (js_if (jt_p (pdt_lt (pdv 1) pd_int)) (jss_cons (js_ret (ji_tup (ja_cons (ji_p pd_str) (ja_cons (ji_op (op_add.or op_catA) rok_add (ji_p pd_int) (ji_call (oi__law_take T B Z) (takes_of rfl rfl rfl rfl) hr (ha := (ja_cons (jv 0) (ja_cons (ji_p pd_int) ja_nil))))) (ja_cons (ji_op (op_add.or op_catA) rok_add (ji_p pd_int) (ji_call (oi__law_take T B Z) (takes_of rfl rfl rfl rfl) hr (ha := (ja_cons (jv 0) (ja_cons (ji_p pd_int) ja_nil))))) ja_nil))))) jss_nil) jss_nil) (jss_cons (js_par 2 3 sc__law_small_rule.nd (ji_op (op_add.or op_catA) rok_add (ji_p pd_int) (ji_call (oi__law_take T B Z) (takes_of rfl rfl rfl rfl) hr (ha := (ja_cons (jv 0) (ja_cons (ji_p pd_int) ja_nil))))) (ji_op (op_add.or op_catA) rok_add (ji_p pd_int) (ji_call (oi__law_take T B Z) (takes_of rfl rfl rfl rfl) hr (ha := (ja_cons (jv 0) (ja_cons (ji_p pd_int) ja_nil)))))) (jss_cons (js_ret (ji_tup (ja_cons (ji_p pd_str) (ja_cons (ji_p (pdv 2)) (ja_cons (ji_p (pdv 3)) (ja_cons (ji_ix (ji_lst (ja_cons (ji_p pd_int) (ja_cons (ji_p pd_int) (ja_cons (ji_p pd_int) ja_nil)))) (ji_call (oi__law_take T B Z) (takes_of rfl rfl rfl rfl) hr (ha := (ja_cons (jv 0) (ja_cons (ji_p pd_int) ja_nil))))) (ja_cons (ji_ix (ji_lst (ja_cons (ji_p pd_int) (ja_cons (ji_p pd_int) ja_nil))) (ji_call (oi__law_take T B Z) (takes_of rfl rfl rfl rfl) hr (ha := (ja_cons (jv 0) (ja_cons (ji_p pd_int) ja_nil))))) ja_nil))))))) jss_nil))))))), hm, F.kp, (F.bindsN fun _ _ _ _ _ _ us hl => match us, hl with | [_], _ => rfl)⟩
abbrev N__law_counts : List Str := ["_law_pot_here", "_law_lot", "_law_size", "_law_tick"]
theorem sc__law_counts : FnScope N__law_counts ["_law_pot_here", "_law_lot", "_law_size"] (defScope s__law_counts) := ⟨rfl, rfl, rfl, by decide +kernel, rfl, by decide +kernel, by decide +kernel⟩
def FI__law_counts : List IV → HS → Option (Io IV) := runI 4 ((bSeq (bRet (iTupOf (iLc (List.map (fun p : Str × Nat => p.2) [("_law_tick", 3)]) (iRngI (iCall FI__law_take (iCons (iVar 0) (iCons (iP (eAdd (eVar 2) (eC (.int 1)))) iNil)))) (gIN 3) (iCall FI__law_take (iCons (iVar 0) (iCons (iP (eAdd (eVar 1) (eC (.int 1)))) iNil)))))) bNil))
theorem oi__law_counts (T : Txt K mg) (B : Blt mg) (Z : Txi K mg C) : DefI P w K mg base C "_law_counts" 3 2 FI__law_counts := by
  obtain ⟨f, fd, F, hm⟩ := T.a__law_counts.ex
  exact ⟨f, fd, ["_law_pot_here", "_law_lot", "_law_size"], (FunI_ok F rfl sc__law_counts (fun cdv A outer s H E hr => (jss_cons (js_ret (ji_tupOf B (ji_lc (sc := defScope s__law_counts) [("_law_tick", 3)] (jii_range1 B (ji_call (oi__law_take T B Z) (takes_of rfl rfl rfl rfl) hr (ha := (ja_cons (jv 0) (ja_cons (ji_p (pd_add (pdv 2) pd_int)) ja_nil))))) (blkOk_by (N := N__law_counts) (sc := defScope s__law_counts) (by decide +kernel)) (by decide) sc__law_counts.nd (fun _ _ _ _ _ => (jg_nm 3 sc__law_counts.nd)) (fun _ _ _ _ _ => (ji_call (oi__law_take T B Z) takes0 hr (ha := (ja_cons (jv 0) (ja_cons (ji_p (pd_add (pdv 1) pd_int)) ja_nil)))))))) jss_nil))), hm, F.kp, (F.bindsN fun _ _ _ _ _ _ us hl => match us, hl with | [_, _, _], _ => rfl)⟩
abbrev N__law_words : List Str := ["_law_rule", "_law_few", "_law_counts_here", "_law_line", "_law_rows", "_law_count", "_law_tick", "_law_row"]
theorem sc__law_words : FnScope N__law_words ["_law_rule", "_law_few", "_law_counts_here"] (defScope s__law_words) := ⟨rfl, rfl, rfl, by decide +kernel, rfl, by decide +kernel, by decide +kernel⟩
def FI__law_words : List IV → HS → Option (Io IV) := runI 8 ((bSeq (bAsg (iMakeKw "Line" FI_Line_init (iCons (iP (eTup (aCons (eTup (aCons (eC (.int 1)) (aCons (eVar 0) (aCons (eVar 1) aNil)))) aNil))) iNil) (iP (eC (.int 1)))) (gIN 3)) (bSeq (bAsg (iMeth "Line" "run" FI_Line_run (iVar 3) (iCons (iP (eTupOf (eLc (List.map (fun p : Str × Nat => p.2) [("_law_count", 5)]) (iTupD (eVar 2)) (gNm 5) (eBin fMulR (eTup (aCons (eTup (aCons (eC (.int 0)) (aCons (eC (.int 1)) (aCons (eC (.bool false)) aNil)))) aNil)) (eVar 5))))) iNil)) (gIN 4)) (bSeq (bRet (iP (eTupOf (eLc (List.map (fun p : Str × Nat => p.2) [("_law_tick", 6)]) (iTupD (eVar 4)) (gNm 6) (eTupOf (eLc (List.map (fun p : Str × Nat => p.2) [("_law_row", 7)]) (iTupD (eVar 6)) (gNm 7) (eIx (eVar 7) 0))))))) bNil))))
theorem oi__law_words (T : Txt K mg) (B : Blt mg) (Z : Txi K mg C) : DefI P w K mg base C "_law_words" 3 18 FI__law_words := by
  obtain ⟨f, fd, F, hm⟩ := T.a__law_words.ex
  exact ⟨f, fd, ["_law_rule", "_law_few", "_law_counts_here"], (FunI_ok F rfl sc__law_words (fun cdv A outer s H E hr => (jss_cons (js_set 3 sc__law_words.nd (ji_makeKw (oi_Line_init T B Z) hr (ha := (ja_cons (ji_p (pd_tup (pda_cons (pd_tup (pda_cons pd_int (pda_cons (pdv 0) (pda_cons (pdv 1) pda_nil)))) pda_nil))) ja_nil)) (hkw := (ji_p pd_int)))) (jss_cons (js_set 4 sc__law_words.nd (ji_meth (oi_Line_run T B Z) (takes_of rfl rfl rfl rfl) hr (ho := (jv 3)) (ha := (ja_cons (ji_p (pd_tupOf B (pd_lc (sc := defScope s__law_words) [("_law_count", 5)] (pdi_tup (pdv 2)) (blkOk_by (N := N__law_words) (sc := defScope s__law_words) (by decide +kernel)) (by decide) sc__law_words.nd (fun _ _ _ _ _ => (pdg_nm 5 sc__law_words.nd)) (fun _ _ _ _ _ => (pd_mulR (pd_tup (pda_cons (pd_tup (pda_cons pd_int (pda_cons pd_int (pda_cons pd_bl pda_nil)))) pda_nil)) (pdv 5)))))) ja_nil)))) (jss_cons (js_ret (ji_p (pd_tupOf B (pd_lc (sc := defScope s__law_words) [("_law_tick", 6)] (pdi_tup (pdv 4)) (blkOk_by (N := N__law_words) (sc := defScope s__law_words) (by decide +kernel)) (by decide) sc__law_words.nd (fun _ _ _ _ _ => (pdg_nm 6 sc__law_words.nd)) (fun _ _ _ _ _ => (pd_tupOf B (pd_lc (sc := scInner s__law_words) [("_law_row", 7)] (pdi_tup (pdv 6)) (blkOk_by (N := N__law_words) (sc := scInner s__law_words) (by decide +kernel)) (by decide) sc__law_words.nd (fun _ _ _ _ _ => (pdg_nm 7 sc__law_words.nd)) (fun _ _ _ _ _ => (pd_ix (i := 0) (pdv 7)))))))))) jss_nil))))), hm, F.kp, (F.bindsN fun _ _ _ _ _ _ us hl => match us, hl with | [_, _, _], _ => rfl)⟩
abbrev N__law_alike_told : List Str := ["_law_one", "_law_other", "_law_few", "_law_lot", "_law_found"]
theorem sc__law_alike_told : FnScope N__law_alike_told ["_law_one", "_law_other", "_law_few", "_law_lot"] (defScope s__law_alike_told) := ⟨rfl, rfl, rfl, by decide +kernel, rfl, by decide +kernel, by decide +kernel⟩
noncomputable def FI__law_alike_told (fa : Addr) : List IV → HS → Option (Io IV) := runI 5 ((bSeq (bAsg (iP (eC .none)) (gIN 4)) (bSeq (bTry (bSeq (bAsg (iIf (iPT (cEq (eVar 3) (eC (.int 2)))) (iCallDf 2 (FI_alike fa) (iCons (iP (eVar 0)) (iCons (iP (eVar 1)) (iCons (iP (eVar 2)) iNil)))) (iCallKw (FI_alike fa) (iCons (iP (eVar 0)) (iCons (iP (eVar 1)) (iCons (iP (eVar 2)) iNil))) (iP (eVar 3)))) (gIN 4)) bNil) (bSeq (bAsg (iP (eC .none)) (gIN 4)) bNil)) (bSeq (bRet (iP (eVar 4))) bNil))))
theorem oi__law_alike_told (T : Txt K mg) (B : Blt mg) (Z : Txi K mg C) {fa : Addr} (hv : (mg "unlike_words" = some (.ref fa) ∧ RelV (.ref fa) (.ref fa)) ∧ ValI P w K mg base C fa 2 1 FI_unlike_words) : DefI P w K mg base C "_law_alike_told" 4 14 (FI__law_alike_told fa) := by
  obtain ⟨f, fd, F, hm⟩ := T.a__law_alike_told.ex
  exact ⟨f, fd, ["_law_one", "_law_other", "_law_few", "_law_lot"], (FunI_ok F rfl sc__law_alike_told (fun cdv A outer s H E hr => (jss_cons (js_set 4 sc__law_alike_told.nd (ji_p pd_non)) (jss_cons (js_try rfl rfl ⟨rfl, by decide, .inl Z.x.g⟩ (takes_of rfl rfl rfl rfl) Z.x.e (fun W pn xe tk => (jss_cons (js_set 4 sc__law_alike_told.nd (ji_if (jt_p (pdt_eq hr.units (pdv 3) pd_int)) (ji_callDf (oi_alike T B Z hv) tk hr (ha := (ja_cons (ji_p (pdv 0)) (ja_cons (ji_p (pdv 1)) (ja_cons (ji_p (pdv 2)) ja_nil))))) (ji_callKw (oi_alike T B Z hv) tk hr (ha := (ja_cons (ji_p (pdv 0)) (ja_cons (ji_p (pdv 1)) (ja_cons (ji_p (pdv 2)) ja_nil)))) (hkw := (ji_p (pdv 3)))))) jss_nil)) (fun _ _ _ _ _ => (jss_cons (js_set 4 sc__law_alike_told.nd (ji_p pd_non)) jss_nil))) (jss_cons (js_ret (ji_p (pdv 4))) jss_nil))))), hm, F.kp, (F.bindsN fun _ _ _ _ _ _ us hl => match us, hl with | [_, _, _, _], _ => rfl)⟩
abbrev N__law_run_right : List Str := ["_law_one", "_law_other", "_law_few", "_law_told", "_law_first", "_law_second"]
theorem sc__law_run_right : FnScope N__law_run_right ["_law_one", "_law_other", "_law_few", "_law_told"] (defScope s__law_run_right) := ⟨rfl, rfl, rfl, by decide +kernel, rfl, by decide +kernel, by decide +kernel⟩
def FI__law_run_right : List IV → HS → Option (Io IV) := runI 6 ((bSeq (bPar 4 5 (iCall FI__law_words (iCons (iP (eVar 0)) (iCons (iP (eVar 2)) (iCons (iP (eVar 3)) iNil)))) (iCall FI__law_words (iCons (iP (eVar 1)) (iCons (iP (eVar 2)) (iCons (iP (eVar 3)) iNil))))) (bSeq (bRet (iP (eAnd (eNe (eVar 3) (eTup aNil)) (eAnd (eEq (eUpto (eVar 4) (eNeg (eC (.int 1)))) (eUpto (eVar 5) (eNeg (eC (.int 1))))) (eNe (eIxV (eVar 4) (eNeg (eC (.int 1)))) (eIxV (eVar 5) (eNeg (eC (.int 1))))))))) bNil)))
theorem oi__law_run_right (T : Txt K mg) (B : Blt mg) (Z : Txi K mg C) : DefI P w K mg base C "_law_run_right" 4 19 FI__law_run_right := by
  obtain ⟨f, fd, F, hm⟩ := T.a__law_run_right.ex
  exact ⟨f, fd, ["_law_one", "_law_other", "_law_few", "_law_told"], (FunI_ok F rfl sc__law_run_right (fun cdv A outer s H E hr => (jss_cons (js_par 4 5 sc__law_run_right.nd (ji_call (oi__law_words T B Z) (takes_of rfl rfl rfl rfl) hr (ha := (ja_cons (ji_p (pdv 0)) (ja_cons (ji_p (pdv 2)) (ja_cons (ji_p (pdv 3)) ja_nil))))) (ji_call (oi__law_words T B Z) (takes_of rfl rfl rfl rfl) hr (ha := (ja_cons (ji_p (pdv 1)) (ja_cons (ji_p (pdv 2)) (ja_cons (ji_p (pdv 3)) ja_nil)))))) (jss_cons (js_ret (ji_p (pd_and (pd_ne hr.units (pdv 3) (pd_tup pda_nil)) (pd_and (pd_eq hr.units (pd_upto (pdv 4) (pd_neg pd_int)) (pd_upto (pdv 5) (pd_neg pd_int))) (pd_one (pd_ne hr.units (pd_ixV (pdv 4) (pd_neg pd_int)) (pd_ixV (pdv 5) (pd_neg pd_int)))))))) jss_nil)))), hm, F.kp, (F.bindsN fun _ _ _ _ _ _ us hl => match us, hl with | [_, _, _, _], _ => rfl)⟩
abbrev N__law_pair_right : List Str := ["_law_pot_here", "_law_one", "_law_other", "_law_few", "_law_lot", "_law_found", "_law_word", "_law_paper", "_law_turn", "_law_counts_here", "_law_same"]
theorem sc__law_pair_right : FnScope N__law_pair_right ["_law_pot_here", "_law_one", "_law_other", "_law_few", "_law_lot"] (defScope s__law_pair_right) := ⟨rfl, rfl, rfl, by decide +kernel, rfl, by decide +kernel, by decide +kernel⟩
noncomputable def FI__law_pair_right (fa : Addr) : List IV → HS → Option (Io IV) := runI 11 ((bSeq (bAsg (iCall (FI__law_alike_told fa) (iCons (iP (eVar 1)) (iCons (iP (eVar 2)) (iCons (iP (eVar 3)) (iCons (iP (eVar 4)) iNil))))) (gIN 5)) (bSeq (bIf (iPT (cIsN (eVar 5) (eC .none))) (bSeq (bRet (iP (eC (.bool true)))) bNil) bNil) (bSeq (bAsg (iP (eVar 5)) (gIT (gsIC (gIN 6) (gsIC (gIN 7) gsIN)))) (bSeq (bIf (iAnd (iPT (cEq (eVar 6) (eC (.str "unlike")))) (iNot (iValT (iCall FI__law_run_right (iCons (iP (eVar 1)) (iCons (iP (eVar 2)) (iCons (iP (eVar 3)) (iCons (iP (eVar 7)) iNil)))))))) (bSeq (bRet (iP (eC (.bool false)))) bNil) bNil) (bSeq (bFor (iRngI (iP (eC (.int 4)))) (gIN 8) (bSeq (bAsg (iCall FI__law_counts (iCons (iVar 0) (iCons (iP (eVar 4)) (iCons (iP (eC (.int 12))) iNil)))) (gIN 9)) (bSeq (bIf (iPT (cEq (eVar 6) (eC (.str "unlike")))) (bSeq (bAsg (iP (eUpto (eVar 9) (eLen (eVar 7)))) (gIN 9)) bNil) bNil) (bSeq (bAsg (iCmp dEq (iCall FI__law_words (iCons (iP (eVar 1)) (iCons (iP (eVar 3)) (iCons (iP (eVar 9)) iNil)))) (iCall FI__law_words (iCons (iP (eVar 2)) (iCons (iP (eVar 3)) (iCons (iP (eVar 9)) iNil))))) (gIN 10)) (bSeq (bIf (iPT (cAnd (cEq (eVar 6) (eC (.str "alike"))) (cNot (cVal (eVar 10))))) (bSeq (bRet (iP (eC (.bool false)))) bNil) bNil) (bSeq (bIf (iPT (cAnd (cEq (eVar 6) (eC (.str "unlike"))) (cAnd (cCmp iLtD (eTup (aCons (eLen (eVar 9)) (aCons (eVar 9) aNil))) (eTup (aCons (eLen (eVar 7)) (aCons (eVar 7) aNil)))) (cNot (cVal (eVar 10)))))) (bSeq (bRet (iP (eC (.bool false)))) bNil) bNil) bNil)))))) (bSeq (bRet (iP (eCmp dIn (eVar 6) (eTup (aCons (eC (.str "alike")) (aCons (eC (.str "unlike")) aNil)))))) bNil)))))))
theorem oi__law_pair_right (T : Txt K mg) (B : Blt mg) (Z : Txi K mg C) {fa : Addr} (hv : (mg "unlike_words" = some (.ref fa) ∧ RelV (.ref fa) (.ref fa)) ∧ ValI P w K mg base C fa 2 1 FI_unlike_words) : DefI P w K mg base C "_law_pair_right" 5 20 (FI__law_pair_right fa) := by
  obtain ⟨f, fd, F, hm⟩ := T.a__law_pair_right.ex
  exact ⟨f, fd, ["_law_pot_here", "_law_one", "_law_other", "_law_few", "_law_lot"], (FunI_ok F rfl sc__law_pair_right (fun cdv A outer s H E hr => (jss_cons (js_set 5 sc__law_pair_right.nd (ji_call (oi__law_alike_told T B Z hv) (takes_of rfl rfl rfl rfl) hr (ha := (ja_cons (ji_p (pdv 1)) (ja_cons (ji_p (pdv 2)) (ja_cons (ji_p (pdv 3)) (ja_cons (ji_p (pdv 4)) ja_nil))))))) (jss_cons (js_if (jt_p (pdt_isN (pdv 5) pd_non)) (jss_cons (js_ret (ji_p pd_bl)) jss_nil) jss_nil) (jss_cons (js_asg (ji_p (pdv 5)) (jg_tup (jgs_cons (jg_nm 6 sc__law_pair_right.nd) (jgs_cons (jg_nm 7 sc__law_pair_right.nd) jgs_nil)))) (jss_cons (js_if (jt_w (jw_and (jt_p (pdt_eq hr.units (pdv 6) pd_str)) (jw_and1 (jt_not (jt_val (ji_call (oi__law_run_right T B Z) (takes_of rfl rfl rfl rfl) hr (ha := (ja_cons (ji_p (pdv 1)) (ja_cons (ji_p (pdv 2)) (ja_cons (ji_p (pdv 3)) (ja_cons (ji_p (pdv 7)) ja_nil))))))))))) (jss_cons (js_ret (ji_p pd_bl)) jss_nil) jss_nil) (jss_cons (js_for (passes_of rfl) (jii_range1 B (ji_p pd_int)) (jg_nm 8 sc__law_pair_right.nd) (jss_cons (js_set 9 sc__law_pair_right.nd (ji_call (oi__law_counts T B Z) (takes_of rfl rfl rfl rfl) hr (ha := (ja_cons (jv 0) (ja_cons (ji_p (pdv 4)) (ja_cons (ji_p pd_int) ja_nil)))))) (jss_cons (js_if (jt_p (pdt_eq hr.units (pdv 6) pd_str)) (jss_cons (js_set 9 sc__law_pair_right.nd (ji_p (pd_upto (pdv 9) (pd_len B (pdv 7))))) jss_nil) jss_nil) (jss_cons (js_set 10 sc__law_pair_right.nd (ji_cmp (op_eqD hr.units) rok_eq (ji_call (oi__law_words T B Z) (takes_of rfl rfl rfl rfl) hr (ha := (ja_cons (ji_p (pdv 1)) (ja_cons (ji_p (pdv 3)) (ja_cons (ji_p (pdv 9)) ja_nil))))) (ji_call (oi__law_words T B Z) (takes_of rfl rfl rfl rfl) hr (ha := (ja_cons (ji_p (pdv 2)) (ja_cons (ji_p (pdv 3)) (ja_cons (ji_p (pdv 9)) ja_nil))))) (nomark _))) (jss_cons (js_if (jt_p (pdt_w (pdw_and (pdt_eq hr.units (pdv 6) pd_str) (pdw_and1 (pdt_not (pdt_val (pdv 10))))))) (jss_cons (js_ret (ji_p pd_bl)) jss_nil) jss_nil) (jss_cons (js_if (jt_p (pdt_w (pdw_and (pdt_eq hr.units (pdv 6) pd_str) (pdw_and (pdt_ltD hr.units (pd_tup (pda_cons (pd_len B (pdv 9)) (pda_cons (pdv 9) pda_nil))) (pd_tup (pda_cons (pd_len B (pdv 7)) (pda_cons (pdv 7) pda_nil)))) (pdw_and1 (pdt_not (pdt_val (pdv 10)))))))) (jss_cons (js_ret (ji_p pd_bl)) jss_nil) jss_nil) jss_nil)))))) (jss_cons (js_ret (ji_p (pd_in (pdv 6) (pd_tup (pda_cons pd_str (pda_cons pd_str pda_nil)))))) jss_nil)))))))), hm, F.kp, (F.bindsN fun _ _ _ _ _ _ us hl => match us, hl with | [_, _, _, _, _], _ => rfl)⟩
abbrev N_law : List Str := ["_law_script", "_law_k", "_law_pot_here", "_law_one", "_law_other", "_law_few", "_law_lot", "_law_rule", "_law_counts_here"]
theorem sc_law : FnScope N_law ["_law_script"] (defScope s_law) := ⟨rfl, rfl, rfl, by decide +kernel, rfl, by decide +kernel, by decide +kernel⟩
noncomputable def FI_law (fa : Addr) : List IV → HS → Option (Io IV) := runI 9 ((bSeq (bFor (iRngI (iMax (iP (eC (.int 1))) (iMin (iP (eC (.int 2))) (iLen (iVar 0))))) (gIN 1) (bSeq (bAsg (iCall FI__law_pot (iCons (iCall FI__law_folded (iCons (iVar 0) (iCons (iP (eC (.int 2))) iNil))) (iCons (iP (eVar 1)) iNil))) (gIN 2)) (bSeq (bAsg (iCall FI__law_small_rule (iCons (iVar 2) iNil)) (gIN 3)) (bSeq (bAsg (iIx (iLst (iCons (iP (eVar 3)) (iCons (iCall FI__law_small_rule (iCons (iVar 2) iNil)) iNil))) (iBin fMod (iBin fFdiv (iCall FI__law_take (iCons (iVar 2) (iCons (iP (eC (.int 5))) iNil))) (iP (eC (.int 2)))) (iP (eC (.int 2))))) (gIN 4)) (bSeq (bPar 5 6 (iBin fAdd (iP (eC (.int 1))) (iCall FI__law_take (iCons (iVar 2) (iCons (iP (eC (.int 3))) iNil)))) (iBin fAdd (iP (eC (.int 1))) (iCall FI__law_take (iCons (iVar 2) (iCons (iP (eC (.int 2))) iNil))))) (bSeq (bFor (iTupI (iP (eTup (aCons (eVar 3) (aCons (eVar 4) aNil))))) (gIN 7) (bSeq (bAsg (iCall FI__law_counts (iCons (iVar 2) (iCons (iP (eC (.int 3))) (iCons (iP (eC (.int 12))) iNil)))) (gIN 8)) (bSeq (bIf (iCmpT dNe (iCall FI_small_words (iCons (iP (eVar 7)) (iCons (iP (eVar 5)) (iCons (iP (eVar 8)) iNil)))) (iCall FI__law_words (iCons (iP (eVar 7)) (iCons (iP (eVar 5)) (iCons (iP (eVar 8)) iNil))))) (bSeq (bRet (iP (eC (.bool false)))) bNil) bNil) bNil))) (bSeq (bIf (iNot (iValT (iCall (FI__law_pair_right fa) (iCons (iVar 2) (iCons (iP (eVar 3)) (iCons (iP (eVar 4)) (iCons (iP (eVar 5)) (iCons (iP (eVar 6)) iNil)))))))) (bSeq (bRet (iP (eC (.bool false)))) bNil) bNil) bNil))))))) (bSeq (bRet (iP (eC (.bool true)))) bNil)))
theorem oi_law (T : Txt K mg) (B : Blt mg) (Z : Txi K mg C) {fa : Addr} (hv : (mg "unlike_words" = some (.ref fa) ∧ RelV (.ref fa) (.ref fa)) ∧ ValI P w K mg base C fa 2 1 FI_unlike_words) {f : Addr} {fd : FuncData} (F : FunD K "law" "law" (defArgs s_law) (defBody s_law) (defScope s_law) [] [] f fd) : FnI P w K mg base C 21 1 (FI_law fa) f fd ["_law_script"] :=
  (FunI_ok F rfl sc_law (fun cdv A outer s H E hr => (jss_cons (js_for (passes_of rfl) (jii_range1 B (ji_max B (ji_p pd_int) (ji_min B (ji_p pd_int) (ji_len B (jv 0))))) (jg_nm 1 sc_law.nd) (jss_cons (js_set 2 sc_law.nd (ji_call (oi__law_pot T B Z) (takes_of rfl rfl rfl rfl) hr (ha := (ja_cons (ji_call (oi__law_folded T B Z) (takes_of rfl rfl rfl rfl) hr (ha := (ja_cons (jv 0) (ja_cons (ji_p pd_int) ja_nil)))) (ja_cons (ji_p (pdv 1)) ja_nil))))) (jss_cons (js_set 3 sc_law.nd (ji_call (oi__law_small_rule T B Z) (takes_of rfl rfl rfl rfl) hr (ha := (ja_cons (jv 2) ja_nil)))) (jss_cons (js_set 4 sc_law.nd (ji_ix (ji_lst (ja_cons (ji_p (pdv 3)) (ja_cons (ji_call (oi__law_small_rule T B Z) (takes_of rfl rfl rfl rfl) hr (ha := (ja_cons (jv 2) ja_nil))) ja_nil))) (ji_op op_modN rok_modN (ji_op op_fdivN rok_fdivN (ji_call (oi__law_take T B Z) (takes_of rfl rfl rfl rfl) hr (ha := (ja_cons (jv 2) (ja_cons (ji_p pd_int) ja_nil)))) (ji_p pd_int)) (ji_p pd_int)))) (jss_cons (js_par 5 6 sc_law.nd (ji_op (op_add.or op_catA) rok_add (ji_p pd_int) (ji_call (oi__law_take T B Z) (takes_of rfl rfl rfl rfl) hr (ha := (ja_cons (jv 2) (ja_cons (ji_p pd_int) ja_nil))))) (ji_op (op_add.or op_catA) rok_add (ji_p pd_int) (ji_call (oi__law_take T B Z) (takes_of rfl rfl rfl rfl) hr (ha := (ja_cons (jv 2) (ja_cons (ji_p pd_int) ja_nil)))))) (jss_cons (js_for (passes_of rfl) (jii_tup (ji_p (pd_tup (pda_cons (pdv 3) (pda_cons (pdv 4) pda_nil))))) (jg_nm 7 sc_law.nd) (jss_cons (js_set 8 sc_law.nd (ji_call (oi__law_counts T B Z) (takes_of rfl rfl rfl rfl) hr (ha := (ja_cons (jv 2) (ja_cons (ji_p pd_int) (ja_cons (ji_p pd_int) ja_nil)))))) (jss_cons (js_if (jt_cmp (op_neD hr.units) rok_ne (ji_call (oi_small_words T B Z) (takes_of rfl rfl rfl rfl) hr (ha := (ja_cons (ji_p (pdv 7)) (ja_cons (ji_p (pdv 5)) (ja_cons (ji_p (pdv 8)) ja_nil))))) (ji_call (oi__law_words T B Z) (takes_of rfl rfl rfl rfl) hr (ha := (ja_cons (ji_p (pdv 7)) (ja_cons (ji_p (pdv 5)) (ja_cons (ji_p (pdv 8)) ja_nil))))) (nomark _)) (jss_cons (js_ret (ji_p pd_bl)) jss_nil) jss_nil) jss_nil))) (jss_cons (js_if (jt_not (jt_val (ji_call (oi__law_pair_right T B Z hv) (takes_of rfl rfl rfl rfl) hr (ha := (ja_cons (jv 2) (ja_cons (ji_p (pdv 3)) (ja_cons (ji_p (pdv 4)) (ja_cons (ji_p (pdv 5)) (ja_cons (ji_p (pdv 6)) ja_nil))))))))) (jss_cons (js_ret (ji_p pd_bl)) jss_nil) jss_nil) jss_nil))))))) (jss_cons (js_ret (ji_p pd_bl)) jss_nil))))
end
end KW
/-! TYa: what the readings give, step by step -/
namespace KW
open PySem PySem.Spec L2
@[simp] theorem isi_int_none  : isi "int" .none = some false := by show kitB "NoneType" "int" = _; decide +kernel
@[simp] theorem isi_int_bool (b : Bool) : isi "int" (.bool b) = some true := by show kitB "bool" "int" = _; decide +kernel
@[simp] theorem isi_int_int (i : Int) : isi "int" (.int i) = some true := by show kitB "int" "int" = _; decide +kernel
@[simp] theorem isi_int_str (x : Str) : isi "int" (.str x) = some false := by show kitB "str" "int" = _; decide +kernel
@[simp] theorem isi_int_lst (l : List PyData) : isi "int" (.list l) = some false := by show kitB "list" "int" = _; decide +kernel
@[simp] theorem isi_int_tup (l : List PyData) : isi "int" (.tuple l) = some false := by show kitB "tuple" "int" = _; decide +kernel
@[simp] theorem isi_bool_none  : isi "bool" .none = some false := by show kitB "NoneType" "bool" = _; decide +kernel
@[simp] theorem isi_bool_bool (b : Bool) : isi "bool" (.bool b) = some true := by show kitB "bool" "bool" = _; decide +kernel
@[simp] theorem isi_bool_int (i : Int) : isi "bool" (.int i) = some false := by show kitB "int" "bool" = _; decide +kernel
@[simp] theorem isi_bool_str (x : Str) : isi "bool" (.str x) = some false := by show kitB "str" "bool" = _; decide +kernel
@[simp] theorem isi_bool_lst (l : List PyData) : isi "bool" (.list l) = some false := by show kitB "list" "bool" = _; decide +kernel
@[simp] theorem isi_bool_tup (l : List PyData) : isi "bool" (.tuple l) = some false := by show kitB "tuple" "bool" = _; decide +kernel
@[simp] theorem isi_str_none  : isi "str" .none = some false := by show kitB "NoneType" "str" = _; decide +kernel
@[simp] theorem isi_str_bool (b : Bool) : isi "str" (.bool b) = some false := by show kitB "bool" "str" = _; decide +kernel
@[simp] theorem isi_str_int (i : Int) : isi "str" (.int i) = some false := by show kitB "int" "str" = _; decide +kernel
@[simp] theorem isi_str_str (x : Str) : isi "str" (.str x) = some true := by show kitB "str" "str" = _; decide +kernel
@[simp] theorem isi_str_lst (l : List PyData) : isi "str" (.list l) = some false := by show kitB "list" "str" = _; decide +kernel
@[simp] theorem isi_str_tup (l : List PyData) : isi "str" (.tuple l) = some false := by show kitB "tuple" "str" = _; decide +kernel
@[simp] theorem isi_tuple_none  : isi "tuple" .none = some false := by show kitB "NoneType" "tuple" = _; decide +kernel
@[simp] theorem isi_tuple_bool (b : Bool) : isi "tuple" (.bool b) = some false := by show kitB "bool" "tuple" = _; decide +kernel
@[simp] theorem isi_tuple_int (i : Int) : isi "tuple" (.int i) = some false := by show kitB "int" "tuple" = _; decide +kernel
@[simp] theorem isi_tuple_str (x : Str) : isi "tuple" (.str x) = some false := by show kitB "str" "tuple" = _; decide +kernel
@[simp] theorem isi_tuple_lst (l : List PyData) : isi "tuple" (.list l) = some false := by show kitB "list" "tuple" = _; decide +kernel
@[simp] theorem isi_tuple_tup (l : List PyData) : isi "tuple" (.tuple l) = some true := by show kitB "tuple" "tuple" = _; decide +kernel
theorem shaped_int (i : Int) : SeqAt.shaped (.int i) = true := rfl
@[simp] theorem dEq_int (i j : Int) : dEq (.int i) (.int j) = some (decide (i = j)) := by
  unfold dEq
  rw [show (SeqAt.shaped (.int i) && SeqAt.shaped (.int j)) = true from rfl, if_pos rfl]
  show some (i == j) = _
  rw [Bool.beq_eq_decide_eq]
@[simp] theorem dNe_int (i j : Int) : dNe (.int i) (.int j) = some (!decide (i = j)) := by
  unfold dNe
  rw [show (SeqAt.shaped (.int i) && SeqAt.shaped (.int j)) = true from rfl, if_pos rfl]
  show some (!(i == j)) = _
  rw [Bool.beq_eq_decide_eq]
@[simp] theorem dEq_ss1 : dEq (.str "none") (.str "none") = some true := by decide +kernel
@[simp] theorem dEq_ss2 : dEq (.str "late") (.str "none") = some false := by decide +kernel
@[simp] theorem dEq_ss3 : dEq (.str "share") (.str "none") = some false := by decide +kernel
@[simp] theorem dEq_ss4 : dEq (.str "late") (.str "late") = some true := by decide +kernel
@[simp] theorem dEq_ss5 : dEq (.str "share") (.str "late") = some false := by decide +kernel
@[simp] theorem dEq_ss6 : dEq (.str "none") (.str "late") = some false := by decide +kernel
@[simp] theorem dEq_ss7 : dEq (.str "share") (.str "share") = some true := by decide +kernel
@[simp] theorem dEq_ss8 : dEq (.str "late") (.str "share") = some false := by decide +kernel
@[simp] theorem dEq_ss9 : dEq (.str "none") (.str "share") = some false := by decide +kernel
@[simp] theorem dNe_ss1 : dNe (.str "none") (.str "late") = some true := by decide +kernel
@[simp] theorem dNe_ss2 : dNe (.str "late") (.str "late") = some false := by decide +kernel
@[simp] theorem dNe_ss3 : dNe (.str "share") (.str "late") = some true := by decide +kernel
@[simp] theorem dNe_ss4 : dNe (.str "none") (.str "share") = some true := by decide +kernel
@[simp] theorem dNe_ss5 : dNe (.str "late") (.str "share") = some true := by decide +kernel
@[simp] theorem dNe_ss6 : dNe (.str "share") (.str "share") = some false := by decide +kernel
@[simp] theorem dEq_none_t : dEq (.tuple [.str "none"]) (.tuple [.str "none"]) = some true := by decide +kernel
@[simp] theorem dEq_t0 : dEq (.tuple []) (.tuple []) = some true := by decide +kernel
@[simp] theorem dNe_t0 : dNe (.tuple []) (.tuple []) = some false := by decide +kernel
@[simp] theorem dEq_l0 : dEq (.list []) (.list []) = some true := by decide +kernel
@[simp] theorem dNe_l0 : dNe (.list []) (.list []) = some false := by decide +kernel
theorem fMul_int {i j : Int} (h : -100000 ≤ i ∧ i ≤ 100000) : fMul (.int i) (.int j) = some (.int (i * j)) := by
  have h2 : -(2 ^ 64) < i ∧ i < 2 ^ 64 := ⟨by omega, by omega⟩
  simp only [fMul, fI, if_pos h2, Option.map_some]
@[simp] theorem F_is_whole_int (i : Int) : F_is_whole [.int i] = some (.bool true) := by
  unfold F_is_whole; simp
@[simp] theorem F_is_within_int (i a b : Int) : F_is_within [.int i, .int a, .int b] = some (.bool (decide (a ≤ i ∧ i ≤ b))) := by
  unfold F_is_within; simp
  by_cases h : a ≤ i <;> simp [h]
theorem F_need_within_int {i a b : Int} (h : a ≤ i ∧ i ≤ b) : F_need_within [.int i, .int a, .int b] = some .none := by
  unfold F_need_within; simp [h]
@[simp] theorem F_is_between_int (i a b : Int) : F_is_between [.int i, .int a, .int b] = some (.bool (decide (a ≤ i ∧ i ≤ b))) := by
  unfold F_is_between; simp
  by_cases h : a ≤ i <;> simp [h]
theorem F_is_wait_int {i : Int} (h : 0 ≤ i ∧ i ≤ 1000000) : F_is_wait [.int i] = some (.bool true) := by
  unfold F_is_wait; simp [h]
end KW
/-! TYb: rules and memories -/
namespace KW
open PySem PySem.Spec L2
inductive Rl where
  | non
  | late (m s : Int)
  | share (m p u t : Int)
def Rl.Ok : Rl → Prop
  | .non => True
  | .late m s => (1 ≤ m ∧ m ≤ 3) ∧ 1 ≤ s ∧ s ≤ 3
  | .share m p u t => (1 ≤ m ∧ m ≤ 2) ∧ (1 ≤ p ∧ p ≤ 2) ∧ (0 ≤ u ∧ u ≤ 999) ∧ 0 ≤ t ∧ t ≤ 999
def encR : Rl → PyData
  | .non => .tuple [.str "none"]
  | .late m s => .tuple [.str "late", .int m, .int s]
  | .share m p u t => .tuple [.str "share", .int m, .int p, .int u, .int t]
inductive Mm where
  | non
  | late (a l : Option Int) (c : Int)
  | share (ph sh ol su : Int)
def encO : Option Int → PyData
  | none => .none
  | some i => .int i
def encM : Mm → PyData
  | .non => .tuple []
  | .late a l c => .tuple [encO a, encO l, .int c]
  | .share ph sh ol su => .tuple [.int ph, .int sh, .int ol, .int su]
def MmOk : Rl → Mm → Prop
  | .non, .non => True
  | .late _ s, .late a l c => (0 ≤ c ∧ c ≤ s * s) ∧ (match a with | some x => 0 ≤ x ∧ x ≤ s | none => True) ∧ (match l with | some y => a = some s ∧ 0 ≤ y ∧ y ≤ s | none => True)
  | .share _ p _ _, .share ph sh ol su => (0 ≤ ph ∧ ph ≤ p - 1) ∧ (0 ≤ sh ∧ sh ≤ 1000) ∧ (0 ≤ ol ∧ ol ≤ 99) ∧ 0 ≤ su ∧ su ≤ 999
  | _, _ => False
/-! ### which rule -/
theorem F_is_none_n : F_is_none [encR .non] = some (.bool true) := by simp [F_is_none, encR]
theorem F_is_none_l (m s : Int) : F_is_none [encR (.late m s)] = some (.bool false) := by simp [F_is_none, encR]
theorem F_is_none_s (m p u t : Int) : F_is_none [encR (.share m p u t)] = some (.bool false) := by simp [F_is_none, encR]
theorem F_is_late_n : F_is_late [encR .non] = some (.bool false) := by simp [F_is_late, encR]
theorem F_is_late_l {m s : Int} (h : Rl.Ok (.late m s)) : F_is_late [encR (.late m s)] = some (.bool true) := by
  obtain ⟨⟨h1, h2⟩, h3, h4⟩ := h
  simp [F_is_late, encR]
  omega
theorem F_is_late_s (m p u t : Int) : F_is_late [encR (.share m p u t)] = some (.bool false) := by simp [F_is_late, encR]
theorem F_is_share_n : F_is_share [encR .non] = some (.bool false) := by simp [F_is_share, encR]
theorem F_is_share_l (m s : Int) : F_is_share [encR (.late m s)] = some (.bool false) := by simp [F_is_share, encR]
theorem F_is_share_s {m p u t : Int} (h : Rl.Ok (.share m p u t)) : F_is_share [encR (.share m p u t)] = some (.bool true) := by
  obtain ⟨⟨h1, h2⟩, ⟨h3, h4⟩, ⟨h5, h6⟩, h7, h8⟩ := h
  have q1 : m ≤ 99 := by omega
  have q2 : p ≤ 99 := by omega
  simp [F_is_share, encR, h1, h3, q1, q2, h5, h6, h7, h8]
theorem F_is_rule_ok {r : Rl} (h : r.Ok) : F_is_rule [encR r] = some (.bool true) := by
  cases r with
  | non => simp [F_is_rule, F_is_none_n]
  | late m s => simp [F_is_rule, F_is_none_l, F_is_late_l h]
  | share m p u t => simp [F_is_rule, F_is_none_s, F_is_late_s, F_is_share_s h]
theorem F_need_rule_ok {r : Rl} (h : r.Ok) : F_need_rule [encR r] = some .none := by simp [F_need_rule, F_is_rule_ok h]
theorem F_need_late_ok {m s : Int} (h : Rl.Ok (.late m s)) : F_need_late [encR (.late m s)] = some .none := by simp [F_need_late, F_is_late_l h]
theorem F_need_share_ok {m p u t : Int} (h : Rl.Ok (.share m p u t)) : F_need_share [encR (.share m p u t)] = some .none := by simp [F_need_share, F_is_share_s h]
/-! ### gaps -/
def gapM (s c : Int) : Int := match F_gap [.int s, .int c] with
  | some (.int g) => g
  | _ => 0
theorem gap_all (s c : Int) (h1 : 1 ≤ s) (h2 : s ≤ 3) (h3 : 1 ≤ c) (h4 : c ≤ s * s) : F_gap [.int s, .int c] = some (.int (gapM s c)) ∧ 0 ≤ gapM s c ∧ gapM s c ≤ s := by
  have e : s = 1 ∨ s = 2 ∨ s = 3 := by omega
  rcases e with rfl | rfl | rfl
  · have e : c = 1 := by omega
    subst e
    exact ⟨by rfl, by decide +kernel, by decide +kernel⟩
  · have e : c = 1 ∨ c = 2 ∨ c = 3 ∨ c = 4 := by omega
    rcases e with rfl | rfl | rfl | rfl <;> exact ⟨by rfl, by decide +kernel, by decide +kernel⟩
  · have e : c = 1 ∨ c = 2 ∨ c = 3 ∨ c = 4 ∨ c = 5 ∨ c = 6 ∨ c = 7 ∨ c = 8 ∨ c = 9 := by omega
    rcases e with rfl | rfl | rfl | rfl | rfl | rfl | rfl | rfl | rfl <;> exact ⟨by rfl, by decide +kernel, by decide +kernel⟩
/-! ### the late rule -/
theorem sq_le {s : Int} (h1 : 1 ≤ s) (h2 : s ≤ 3) : s * s ≤ 9 ∧ 1 ≤ s * s := by
  have e : s = 1 ∨ s = 2 ∨ s = 3 := by omega
  rcases e with rfl | rfl | rfl <;> decide
theorem F_is_late_memory_ok {m s : Int} {a l : Option Int} {c : Int} (h : Rl.Ok (.late m s)) (hm : MmOk (.late m s) (.late a l c)) : F_is_late_memory [encR (.late m s), encM (.late a l c)] = some (.bool true) := by
  obtain ⟨⟨h1, h2⟩, h3, h4⟩ := id h
  obtain ⟨⟨c0, c1⟩, ha, hl⟩ := hm
  have hs := fMul_int (i := s) (j := s) ⟨by omega, by omega⟩
  have hn := F_need_late_ok h
  simp only [encR] at hn
  cases a with
  | none =>
    cases l with
    | none => simp [F_is_late_memory, encR, encM, encO, hs, hn, c0, c1]
    | some y => exact absurd hl.1 (by simp)
  | some x =>
    cases l with
    | none => simp [F_is_late_memory, encR, encM, encO, hs, hn, c0, c1, ha]
    | some y =>
      obtain ⟨e, y0, y1⟩ := hl
      cases e
      simp [F_is_late_memory, encR, encM, encO, hs, hn, c0, c1, ha, y0, y1]
theorem F_need_late_memory_ok {m s : Int} {a l : Option Int} {c : Int} (h : Rl.Ok (.late m s)) (hm : MmOk (.late m s) (.late a l c)) : F_need_late_memory [encR (.late m s), encM (.late a l c)] = some .none := by
  simp [F_need_late_memory, F_is_late_memory_ok h hm]
def lookL (m s : Int) (a l : Option Int) (c w : Int) (al : Bool) : Mm × Bool :=
  if w < m ∨ al = true then (.late none none c, false)
  else
    let x := a.getD 0
    match l with
    | none => if x < s then (.late (some x) none c, false) else (.late (some x) (some (gapM s (c / 2 + 1))) (c / 2 + 1), true)
    | some y => if x < s ∨ 0 < y then (.late (some x) (some y) c, false) else (.late (some x) (some (gapM s (if s * s < c + 1 then s * s else c + 1))) (if s * s < c + 1 then s * s else c + 1), true)
theorem F_late_looked_ok {m s : Int} {a l : Option Int} {c w : Int} {al : Bool} (h : Rl.Ok (.late m s)) (hm : MmOk (.late m s) (.late a l c)) (hw : 0 ≤ w ∧ w ≤ 1000000) :
    F_late_looked [encR (.late m s), encM (.late a l c), .int w, .bool al] = some (.tuple [encM (lookL m s a l c w al).1, .bool (lookL m s a l c w al).2]) ∧ MmOk (.late m s) (lookL m s a l c w al).1 := by
  obtain ⟨⟨h1, h2⟩, h3, h4⟩ := id h
  obtain ⟨⟨c0, c1⟩, ha, hl⟩ := id hm
  have hs := fMul_int (i := s) (j := s) ⟨by omega, by omega⟩
  have hn := F_need_late_memory_ok h hm
  have hw' := F_need_within_int hw
  have hsq := sq_le h3 h4
  by_cases hc : w < m ∨ al = true
  · simp only [lookL, if_pos hc]
    refine ⟨?_, ⟨⟨c0, c1⟩, trivial, trivial⟩⟩
    by_cases hc1 : w < m
    · cases a <;> cases l <;> simp only [encR, encM, encO] at hn <;> simp [F_late_looked, encR, encM, encO, hn, hw', hc1]
    · have hc2 : al = true := hc.resolve_left hc1
      subst hc2
      cases a <;> cases l <;> simp only [encR, encM, encO] at hn <;> simp [F_late_looked, encR, encM, encO, hn, hw', hc1]
  · simp only [lookL, if_neg hc]
    have hc1 : ¬ w < m := fun z => hc (.inl z)
    have hc2 : al = false := by cases al with
      | true => exact absurd (.inr rfl) hc
      | false => rfl
    subst hc2
    -- the age
    obtain ⟨x, hx, x0, x1⟩ : ∃ x, a.getD 0 = x ∧ 0 ≤ x ∧ x ≤ s := by
      cases a with
      | none => exact ⟨0, rfl, by omega, by omega⟩
      | some x => exact ⟨x, rfl, ha.1, ha.2⟩
    rw [hx]
    cases l with
    | none =>
      simp only
      by_cases hxs : x < s
      · simp only [if_pos hxs]
        refine ⟨?_, ⟨⟨c0, c1⟩, ⟨x0, x1⟩, trivial⟩⟩
        cases a <;> simp at hx <;> subst hx <;> simp only [encR, encM, encO] at hn <;> simp [F_late_looked, encR, encM, encO, hn, hw', hc1, hxs]
      · simp only [if_neg hxs]
        have hxe : x = s := by omega
        have hd0 : 0 ≤ c / 2 := Int.ediv_nonneg c0 (by decide)
        have hd1 : c / 2 + 1 ≤ s * s := by omega
        obtain ⟨g1, g2, g3⟩ := gap_all s (c / 2 + 1) h3 h4 (by omega) hd1
        refine ⟨?_, ⟨⟨by omega, hd1⟩, ⟨x0, x1⟩, ⟨by rw [hxe], g2, g3⟩⟩⟩
        cases a <;> simp at hx <;> subst hx
        · omega
        · simp only [encR, encM, encO] at hn
          simp [F_late_looked, encR, encM, encO, hn, hw', hc1, hxs, g1]
    | some y =>
      obtain ⟨e, y0, y1⟩ := hl
      subst e
      simp at hx
      subst hx
      simp only
      simp only [encR, encM, encO] at hn
      by_cases hy : 0 < y
      · simp only [if_pos (show s < s ∨ 0 < y from .inr hy)]
        exact ⟨by simp [F_late_looked, encR, encM, encO, hn, hw', hc1, hy], ⟨⟨c0, c1⟩, ⟨x0, x1⟩, ⟨rfl, y0, y1⟩⟩⟩
      · simp only [if_neg (show ¬ (s < s ∨ 0 < y) by omega)]
        by_cases hq : s * s < c + 1
        · simp only [if_pos hq]
          obtain ⟨g1, g2, g3⟩ := gap_all s (s * s) h3 h4 (by omega) (by omega)
          exact ⟨by simp [F_late_looked, encR, encM, encO, hn, hw', hc1, hy, hs, hq, g1], ⟨⟨by omega, by omega⟩, ⟨x0, x1⟩, ⟨rfl, g2, g3⟩⟩⟩
        · simp only [if_neg hq]
          obtain ⟨g1, g2, g3⟩ := gap_all s (c + 1) h3 h4 (by omega) (by omega)
          exact ⟨by simp [F_late_looked, encR, encM, encO, hn, hw', hc1, hy, hs, hq, g1], ⟨⟨by omega, by omega⟩, ⟨x0, x1⟩, ⟨rfl, g2, g3⟩⟩⟩
end KW
/-! TYc: memories that pass, shares, rules of all kinds -/
namespace KW
open PySem PySem.Spec L2
/-! ### the late rule, a tick -/
def passL (s : Int) (a l : Option Int) (c : Int) : Mm := .late (a.map fun x => if s < x + 1 then s else x + 1) (l.map fun y => if 0 > y - 1 then 0 else y - 1) c
theorem F_late_passed_ok {m s : Int} {a l : Option Int} {c : Int} (h : Rl.Ok (.late m s)) (hm : MmOk (.late m s) (.late a l c)) :
    F_late_passed [encR (.late m s), encM (.late a l c)] = some (encM (passL s a l c)) ∧ MmOk (.late m s) (passL s a l c) := by
  obtain ⟨⟨h1, h2⟩, h3, h4⟩ := id h
  obtain ⟨⟨c0, c1⟩, ha, hl⟩ := id hm
  have hn := F_need_late_memory_ok h hm
  refine ⟨?_, ⟨c0, c1⟩, ?_, ?_⟩
  · cases a <;> cases l <;> simp only [encR, encM, encO] at hn <;> simp [F_late_passed, encR, encM, encO, passL, hn]
  · cases a with
    | none => trivial
    | some x =>
      obtain ⟨q1, q2⟩ := ha
      simp only [Option.map_some]
      split <;> omega
  · cases l with
    | none => trivial
    | some y =>
      obtain ⟨e, q1, q2⟩ := hl
      subst e
      simp only [Option.map_some]
      refine ⟨?_, ?_⟩
      · rw [if_pos (by omega)]
      · split <;> omega
/-! ### the share rule -/
theorem F_is_share_memory_ok {m p u t ph sh ol su : Int} (h : Rl.Ok (.share m p u t)) (hm : MmOk (.share m p u t) (.share ph sh ol su)) :
    F_is_share_memory [encR (.share m p u t), encM (.share ph sh ol su)] = some (.bool true) := by
  obtain ⟨⟨h1, h2⟩, ⟨h3, h4⟩, ⟨h5, h6⟩, h7⟩ := hm
  have hn := F_need_share_ok h
  simp only [encR] at hn
  simp [F_is_share_memory, encR, encM, hn, h1, h2, h3, h4, h5, h6, h7]
theorem F_need_share_memory_ok {m p u t ph sh ol su : Int} (h : Rl.Ok (.share m p u t)) (hm : MmOk (.share m p u t) (.share ph sh ol su)) :
    F_need_share_memory [encR (.share m p u t), encM (.share ph sh ol su)] = some .none := by
  simp [F_need_share_memory, F_is_share_memory_ok h hm]
def renS (m u t ph sh ol su w : Int) : Mm :=
  if ph > 0 then .share ph sh ol su
  else .share ph (if (if 1000 < sh + (u * ((if 99 < w then 99 else w) - m) + t * ((if 99 < w then 99 else w) - ol)) then 1000 else sh + (u * ((if 99 < w then 99 else w) - m) + t * ((if 99 < w then 99 else w) - ol))) > 0 then
    (if 1000 < sh + (u * ((if 99 < w then 99 else w) - m) + t * ((if 99 < w then 99 else w) - ol)) then 1000 else sh + (u * ((if 99 < w then 99 else w) - m) + t * ((if 99 < w then 99 else w) - ol))) else 0) (if 99 < w then 99 else w) su
theorem F_share_renewed_ok {m p u t ph sh ol su w : Int} (h : Rl.Ok (.share m p u t)) (hm : MmOk (.share m p u t) (.share ph sh ol su)) (hw : 0 ≤ w ∧ w ≤ 1000000) :
    F_share_renewed [encR (.share m p u t), encM (.share ph sh ol su), .int w] = some (encM (renS m u t ph sh ol su w)) ∧ MmOk (.share m p u t) (renS m u t ph sh ol su w) := by
  have hn := F_need_share_memory_ok h hm
  have hw' := F_need_within_int hw
  obtain ⟨⟨g1, g2⟩, ⟨g3, g4⟩, ⟨g5, g6⟩, g7, g8⟩ := id h
  obtain ⟨⟨h1, h2⟩, ⟨h3, h4⟩, ⟨h5, h6⟩, h7, h8⟩ := id hm
  simp only [encR, encM] at hn
  have m1 : ∀ x, fMul (.int u) (.int x) = some (.int (u * x)) := fun x => fMul_int ⟨by omega, by omega⟩
  have m2 : ∀ x, fMul (.int t) (.int x) = some (.int (t * x)) := fun x => fMul_int ⟨by omega, by omega⟩
  by_cases hp : ph > 0
  · refine ⟨by simp [F_share_renewed, encR, encM, renS, hn, hw', hp], ?_⟩
    simp only [renS, if_pos hp]
    exact hm
  · refine ⟨by simp [F_share_renewed, encR, encM, renS, hn, hw', hp, m1, m2], ?_⟩
    simp only [renS, if_neg hp]
    generalize sh + (u * ((if 99 < w then 99 else w) - m) + t * ((if 99 < w then 99 else w) - ol)) = z
    refine ⟨⟨h1, h2⟩, ⟨?_, ?_⟩, ⟨?_, ?_⟩, h7, h8⟩
    · split <;> split <;> omega
    · split <;> split <;> omega
    · split <;> omega
    · split <;> omega
def comeS (ph sh ol su : Int) : Mm × Bool := (.share ph sh ol ((su + sh) % 1000), decide ((su + sh) / 1000 > 0))
theorem F_share_come_ok {m p u t ph sh ol su : Int} (h : Rl.Ok (.share m p u t)) (hm : MmOk (.share m p u t) (.share ph sh ol su)) :
    F_share_come [encR (.share m p u t), encM (.share ph sh ol su)] = some (.tuple [encM (comeS ph sh ol su).1, .bool (comeS ph sh ol su).2]) ∧ MmOk (.share m p u t) (comeS ph sh ol su).1 := by
  have hn := F_need_share_memory_ok h hm
  obtain ⟨⟨h1, h2⟩, ⟨h3, h4⟩, ⟨h5, h6⟩, h7, h8⟩ := id hm
  simp only [encR, encM] at hn
  refine ⟨by simp [F_share_come, encR, encM, comeS, hn], ⟨h1, h2⟩, ⟨h3, h4⟩, ⟨h5, h6⟩, ?_⟩
  have e1 := Int.emod_nonneg (su + sh) (b := 1000) (by decide)
  have e2 := Int.emod_lt_of_pos (su + sh) (b := 1000) (by decide)
  exact ⟨e1, by omega⟩
def passS (p ph sh ol su : Int) : Mm := .share (if ph > 0 then ph - 1 else p - 1) sh ol su
theorem F_share_passed_ok {m p u t ph sh ol su : Int} (h : Rl.Ok (.share m p u t)) (hm : MmOk (.share m p u t) (.share ph sh ol su)) :
    F_share_passed [encR (.share m p u t), encM (.share ph sh ol su)] = some (encM (passS p ph sh ol su)) ∧ MmOk (.share m p u t) (passS p ph sh ol su) := by
  have hn := F_need_share_memory_ok h hm
  obtain ⟨⟨g1, g2⟩, ⟨g3, g4⟩, ⟨g5, g6⟩, g7, g8⟩ := id h
  obtain ⟨⟨h1, h2⟩, ⟨h3, h4⟩, ⟨h5, h6⟩, h7, h8⟩ := id hm
  simp only [encR, encM] at hn
  refine ⟨?_, ⟨?_, ?_⟩, ⟨h3, h4⟩, ⟨h5, h6⟩, h7, h8⟩
  · by_cases hp : ph > 0
    · have hp' : 0 < ph := hp
      simp [F_share_passed, encR, encM, passS, hn, hp']
    · have hp' : ¬ 0 < ph := hp
      simp [F_share_passed, encR, encM, passS, hn, hp']
  · split <;> omega
  · split <;> omega
/-! ### rules of all kinds -/
def firstM : Rl → Mm
  | .non => .non
  | .late _ _ => .late none none 0
  | .share _ _ _ _ => .share 0 0 0 0
def lookM : Rl → Mm → Int → Bool → Mm × Bool
  | .late m s, .late a l c, w, al => lookL m s a l c w al
  | _, x, _, _ => (x, false)
def comeM : Rl → Mm → Mm × Bool
  | .share _ _ _ _, .share ph sh ol su => comeS ph sh ol su
  | _, x => (x, false)
def renM : Rl → Mm → Int → Mm
  | .share m _ u t, .share ph sh ol su, w => renS m u t ph sh ol su w
  | _, x, _ => x
def pasM : Rl → Mm → Mm
  | .late _ s, .late a l c => passL s a l c
  | .share _ p _ _, .share ph sh ol su => passS p ph sh ol su
  | _, x => x
theorem F_first_memory_ok {r : Rl} (h : r.Ok) : F_first_memory [encR r] = some (encM (firstM r)) ∧ MmOk r (firstM r) := by
  have hn := F_need_rule_ok h
  cases r with
  | non =>
    simp only [encR] at hn
    exact ⟨by simp [F_first_memory, encR, hn, encM, firstM], trivial⟩
  | late m s =>
    obtain ⟨⟨h1, h2⟩, h3, h4⟩ := id h
    have hl := F_need_late_ok h
    have hsq := sq_le h3 h4
    simp only [encR] at hn hl
    exact ⟨by simp [F_first_memory, encR, hn, encM, firstM, F_late_first, hl, encO], ⟨by omega, by omega⟩, trivial, trivial⟩
  | share m p u t =>
    obtain ⟨⟨h1, h2⟩, ⟨h3, h4⟩, _⟩ := id h
    have hl := F_need_share_ok h
    simp only [encR] at hn hl
    exact ⟨by simp [F_first_memory, encR, hn, encM, firstM, F_share_first, hl], ⟨by omega, by omega⟩, ⟨by decide, by decide⟩, ⟨by decide, by decide⟩, by decide, by decide⟩
theorem F_looked_by_ok {r : Rl} {x : Mm} {w : Int} {al : Bool} (h : r.Ok) (hm : MmOk r x) (hw : 0 ≤ w ∧ w ≤ 1000000) :
    F_looked_by [encR r, encM x, .int w, .bool al] = some (.tuple [encM (lookM r x w al).1, .bool (lookM r x w al).2]) ∧ MmOk r (lookM r x w al).1 := by
  cases r with
  | non => cases x <;> first | exact hm.elim | exact ⟨by simp [F_looked_by, encR, encM, lookM], hm⟩
  | late m s =>
    cases x with
    | late a l c =>
      obtain ⟨h1, h2⟩ := F_late_looked_ok h hm hw (al := al)
      simp only [encR] at h1
      exact ⟨by simp [F_looked_by, encR, lookM, h1], h2⟩
    | _ => exact hm.elim
  | share m p u t => cases x <;> first | exact hm.elim | exact ⟨by simp [F_looked_by, encR, encM, lookM], hm⟩
theorem F_come_by_ok {r : Rl} {x : Mm} (h : r.Ok) (hm : MmOk r x) : F_come_by [encR r, encM x] = some (.tuple [encM (comeM r x).1, .bool (comeM r x).2]) ∧ MmOk r (comeM r x).1 := by
  cases r with
  | non => cases x <;> first | exact hm.elim | exact ⟨by simp [F_come_by, encR, encM, comeM], hm⟩
  | late m s => cases x <;> first | exact hm.elim | exact ⟨by simp [F_come_by, encR, encM, comeM], hm⟩
  | share m p u t =>
    cases x with
    | share ph sh ol su =>
      obtain ⟨h1, h2⟩ := F_share_come_ok h hm
      simp only [encR] at h1
      exact ⟨by simp [F_come_by, encR, comeM, h1], h2⟩
    | _ => exact hm.elim
theorem F_renewed_by_ok {r : Rl} {x : Mm} {w : Int} (h : r.Ok) (hm : MmOk r x) (hw : 0 ≤ w ∧ w ≤ 1000000) : F_renewed_by [encR r, encM x, .int w] = some (encM (renM r x w)) ∧ MmOk r (renM r x w) := by
  cases r with
  | non => cases x <;> first | exact hm.elim | exact ⟨by simp [F_renewed_by, encR, encM, renM], hm⟩
  | late m s => cases x <;> first | exact hm.elim | exact ⟨by simp [F_renewed_by, encR, encM, renM], hm⟩
  | share m p u t =>
    cases x with
    | share ph sh ol su =>
      obtain ⟨h1, h2⟩ := F_share_renewed_ok h hm hw
      simp only [encR] at h1
      exact ⟨by simp [F_renewed_by, encR, renM, h1], h2⟩
    | _ => exact hm.elim
theorem F_passed_by_ok {r : Rl} {x : Mm} (h : r.Ok) (hm : MmOk r x) : F_passed_by [encR r, encM x] = some (encM (pasM r x)) ∧ MmOk r (pasM r x) := by
  cases r with
  | non => cases x <;> first | exact hm.elim | exact ⟨by simp [F_passed_by, encR, encM, pasM], hm⟩
  | late m s =>
    cases x with
    | late a l c =>
      obtain ⟨h1, h2⟩ := F_late_passed_ok h hm
      simp only [encR] at h1
      exact ⟨by simp [F_passed_by, encR, pasM, h1], h2⟩
    | _ => exact hm.elim
  | share m p u t =>
    cases x with
    | share ph sh ol su =>
      obtain ⟨h1, h2⟩ := F_share_passed_ok h hm
      simp only [encR] at h1
      exact ⟨by simp [F_passed_by, encR, pasM, h1], h2⟩
    | _ => exact hm.elim
end KW
/-! TYd: lanes -/
namespace KW
open PySem PySem.Spec L2
structure Ln where
  ws : List Int
  mm : Mm
def encP (w : Int) : PyData := .tuple [.int 1, .bool false, .bool false, .int w]
def encL (c : Int) (l : Ln) : PyData := .tuple [.int c, .tuple (l.ws.map encP), encM l.mm]
def encS (r : Rl) (few : Int) : PyData := .tuple [.int 1, encR r, .int few]
structure LnOk (r : Rl) (few : Int) (l : Ln) : Prop where
  mm : MmOk r l.mm
  ws : ∀ w ∈ l.ws, 0 ≤ w ∧ w ≤ 1000000
  len : (l.ws.length : Int) ≤ few
theorem canLay_encP : ∀ ws : List Int, PyData.canLayAll0 (ws.map encP) = true
  | [] => rfl
  | w :: ws => by
    show (PyData.canLay0 (encP w) && PyData.canLayAll0 (ws.map encP)) = true
    rw [canLay_encP ws]; rfl
theorem depth_encP : ∀ ws : List Int, PyData.depthAll (ws.map encP) ≤ 1
  | [] => Nat.zero_le _
  | w :: ws => by
    show max (PyData.depth (encP w)) (PyData.depthAll (ws.map encP)) ≤ 1
    have := depth_encP ws
    have e : PyData.depth (encP w) = 1 := rfl
    omega
theorem shaped_encPt (ws : List Int) : SeqAt.shaped (.tuple (ws.map encP)) = true := by
  unfold SeqAt.shaped
  have h := depth_encP ws
  have e1 : PyData.canLay0 (.tuple (ws.map encP)) = true := canLay_encP ws
  have e2 : PyData.depth (.tuple (ws.map encP)) ≤ 64 := by
    show PyData.depthAll (ws.map encP) + 1 ≤ 64
    omega
  rw [e1, decide_eq_true e2]; rfl
theorem shaped_encPl (ws : List Int) : SeqAt.shaped (.list (ws.map encP)) = true := by
  unfold SeqAt.shaped
  have h := depth_encP ws
  have e1 : PyData.canLay0 (.list (ws.map encP)) = true := canLay_encP ws
  have e2 : PyData.depth (.list (ws.map encP)) ≤ 64 := by
    show PyData.depthAll (ws.map encP) + 1 ≤ 64
    omega
  rw [e1, decide_eq_true e2]; rfl
theorem eqv_nil_t (ws : List Int) : PyData.eqv (.tuple (ws.map encP)) (.tuple []) = decide (ws = []) := by cases ws <;> rfl
theorem eqv_nil_l (ws : List Int) : PyData.eqv (.list (ws.map encP)) (.list []) = decide (ws = []) := by cases ws <;> rfl
@[simp] theorem dNe_encP_t (ws : List Int) : dNe (.tuple (ws.map encP)) (.tuple []) = some (!decide (ws = [])) := by
  unfold dNe
  rw [shaped_encPt, show SeqAt.shaped (.tuple []) = true from rfl, eqv_nil_t]; rfl
@[simp] theorem dEq_encP_t (ws : List Int) : dEq (.tuple (ws.map encP)) (.tuple []) = some (decide (ws = [])) := by
  unfold dEq
  rw [shaped_encPt, show SeqAt.shaped (.tuple []) = true from rfl, eqv_nil_t]; rfl
@[simp] theorem dNe_encP_l (ws : List Int) : dNe (.list (ws.map encP)) (.list []) = some (!decide (ws = [])) := by
  unfold dNe
  rw [shaped_encPl, show SeqAt.shaped (.list []) = true from rfl, eqv_nil_l]; rfl
@[simp] theorem dEq_encP_l (ws : List Int) : dEq (.list (ws.map encP)) (.list []) = some (decide (ws = [])) := by
  unfold dEq
  rw [shaped_encPl, show SeqAt.shaped (.list []) = true from rfl, eqv_nil_l]; rfl
/-! ### a comer -/
def putL (r : Rl) (few : Int) (l : Ln) : Ln × Str :=
  if (l.ws.length : Int) = few then (l, "full")
  else if (comeM r l.mm).2 = true then (⟨l.ws, (comeM r l.mm).1⟩, "drop")
  else (⟨l.ws ++ [0], (comeM r l.mm).1⟩, "come")
theorem F_put_by_ok {r : Rl} {few c : Int} {l : Ln} (h : r.Ok) (hf : few ≤ 99) (hl : LnOk r few l) :
    F_put_by [encS r few, encL c l, .int 1, .bool false] = some (.tuple [encL c (putL r few l).1, .str (putL r few l).2]) ∧ LnOk r few (putL r few l).1 := by
  obtain ⟨hm, hw, hn⟩ := id hl
  obtain ⟨h1, h2⟩ := F_come_by_ok h hm
  by_cases hq : (l.ws.length : Int) = few
  · simp only [putL, if_pos hq]
    refine ⟨?_, hl⟩
    simp [F_put_by, encS, encL, hq]
  · simp only [putL, if_neg hq]
    cases hb : (comeM r l.mm).2 with
    | true =>
      rw [hb] at h1
      refine ⟨by simp [F_put_by, encS, encL, hq, h1], h2, hw, hn⟩
    | false =>
      rw [hb] at h1
      have hz : l.ws.length + 1 ≤ 10000 := by omega
      refine ⟨by simp [F_put_by, encS, encL, hq, h1, hz, encP], h2, ?_, ?_⟩
      · intro w hw'
        simp at hw'
        rcases hw' with z | z
        · exact hw w z
        · subst z; exact ⟨by decide, by decide⟩
      · simp; omega
/-! ### a head -/
def headL (r : Rl) (l : Ln) : Ln × Str := match l.ws with
  | [] => (l, "send")
  | w :: rest => (⟨rest, (lookM r l.mm w (decide (rest = []))).1⟩, if (lookM r l.mm w (decide (rest = []))).2 = true then "drop" else "send")
theorem F_head_by_ok {r : Rl} {few c : Int} {l : Ln} (h : r.Ok) (hf : few ≤ 99) (hl : LnOk r few l) (hne : l.ws ≠ []) :
    F_head_by [encS r few, encL c l] = some (.tuple [encL (if (headL r l).1.ws = [] then 0 else c) (headL r l).1, .str (headL r l).2]) ∧ LnOk r few (headL r l).1 ∧ (headL r l).1.ws.length + 1 = l.ws.length := by
  obtain ⟨hm, hw, hn⟩ := id hl
  obtain ⟨ws, mm⟩ := l
  cases ws with
  | nil => exact absurd rfl hne
  | cons w rest =>
    simp only at hm hw hn hne
    obtain ⟨h1, h2⟩ := F_looked_by_ok (al := decide (rest = [])) h hm (hw w (by simp))
    have hz : rest.length + 1 ≤ 1000 := by simp at hn; omega
    refine ⟨?_, ⟨h2, fun v hv => hw v (by simp [headL] at hv; simp [hv]), ?_⟩, ?_⟩
    · cases hb : (lookM r mm w (decide (rest = []))).2 with
      | true =>
        rw [hb] at h1
        by_cases he : rest = []
        · simp [he] at h1 hb
          simp [F_head_by, encS, encL, encP, headL, h1, hb, he]
        · simp [he] at h1 hb
          simp [F_head_by, encS, encL, encP, headL, h1, hb, he, hz]
      | false =>
        rw [hb] at h1
        by_cases he : rest = []
        · simp [he] at h1 hb
          simp [F_head_by, encS, encL, encP, headL, h1, hb, he]
        · simp [he] at h1 hb
          simp [F_head_by, encS, encL, encP, headL, h1, hb, he, hz]
    · simp [headL]; simp at hn; omega
    · simp [headL]
end KW
/-! TYe: a tick's begin and end in a lane; streams -/
namespace KW
open PySem PySem.Spec L2
def waitL (l : Ln) : Int := match l.ws with
  | [] => 0
  | w :: _ => w
theorem F_head_wait_ok {c : Int} {l : Ln} : F_head_wait [encL c l] = some (.int (waitL l)) := by
  obtain ⟨ws, mm⟩ := l
  cases ws with
  | nil => simp [F_head_wait, encL, waitL]
  | cons w rest =>
    have e := dNe_encP_t (w :: rest)
    simp at e
    simp [F_head_wait, encL, waitL, e]
    simp [encP]
theorem waitL_ok {r : Rl} {few : Int} {l : Ln} (h : LnOk r few l) : 0 ≤ waitL l ∧ waitL l ≤ 1000000 := by
  obtain ⟨ws, mm⟩ := l
  cases ws with
  | nil => exact ⟨Int.le_refl _, by show (0 : Int) ≤ 1000000; decide⟩
  | cons w rest => exact h.ws w (by simp)
def renL (r : Rl) (l : Ln) : Ln := ⟨l.ws, renM r l.mm (waitL l)⟩
theorem F_lane_renewed_by_ok {r : Rl} {few c : Int} {l : Ln} (h : r.Ok) (hl : LnOk r few l) : F_lane_renewed_by [encS r few, encL c l] = some (encL c (renL r l)) ∧ LnOk r few (renL r l) := by
  have hw := F_head_wait_ok (c := c) (l := l)
  obtain ⟨h1, h2⟩ := F_renewed_by_ok h hl.mm (waitL_ok hl)
  simp only [encL] at hw
  exact ⟨by simp [F_lane_renewed_by, encS, encL, hw, h1, renL], h2, hl.ws, hl.len⟩
theorem sSeq_nx {u v : DB} {ρ ρ' : DS} (h : u ρ = some (.nx ρ')) : sSeq u v ρ = v ρ' := by simp only [sSeq, h]
theorem eLc_eq {vs : List Nat} {it : DS → Option (List PyData)} {g : DG} {f : DE} {ρ : DS} {ds zs : List PyData} (h1 : it ρ = some ds) (h2 : ds.length ≤ 10000) (h3 : dMap g f (wipeD ρ vs) ds = some zs) (h4 : noLists zs = true) : eLc vs it g f ρ = some (.list zs) := by
  simp only [eLc, h1, if_pos h2, h3, if_pos h4]
def older (w : Int) : Int := if w + 1 < 1000000 then w + 1 else 1000000
def pasL (r : Rl) (l : Ln) : Ln := ⟨l.ws.map older, pasM r l.mm⟩
theorem noLists_encP : ∀ ws : List Int, noLists (ws.map encP) = true
  | [] => rfl
  | w :: ws => by
    show (noList (encP w) && noLists (ws.map encP)) = true
    rw [noLists_encP ws]; rfl
theorem dMap_older {g : DG} {f : DE} {ρ : DS} (hg : ∀ w, ∃ ρ1, g (encP w) ρ = some ρ1 ∧ f ρ1 = some (encP (older w))) : ∀ ws : List Int, dMap g f ρ (ws.map encP) = some ((ws.map older).map encP)
  | [] => rfl
  | w :: ws => by
    obtain ⟨ρ1, h1, h2⟩ := hg w
    have ih := dMap_older hg ws
    show (match g (encP w) ρ with
      | some ρ1 => (match f ρ1, dMap g f ρ (ws.map encP) with
        | some z, some zs => some (z :: zs)
        | _, _ => none)
      | none => none) = _
    rw [h1]
    simp only [h2, ih]
    rfl
theorem older_ok (w : Int) (h : 0 ≤ w) : 0 ≤ older w ∧ older w ≤ 1000000 := by
  unfold older
  split <;> omega
theorem F_lane_passed_by_ok {r : Rl} {few c : Int} {l : Ln} (h : r.Ok) (hf : few ≤ 99) (hl : LnOk r few l) : F_lane_passed_by [encS r few, encL c l] = some (encL c (pasL r l)) ∧ LnOk r few (pasL r l) := by
  obtain ⟨h1, h2⟩ := F_passed_by_ok h hl.mm
  have hz : l.ws.length ≤ 10000 := by have := hl.len; omega
  have hd := noLists_encP (l.ws.map older)
  refine ⟨?_, h2, ?_, ?_⟩
  · have hm := dMap_older (g := gT (gsCons (gNm 6) (gsCons (gNm 7) (gsCons (gNm 8) (gsCons (gNm 9) gsNil)))))
      (f := eTup (aCons (eVar 6) (aCons (eVar 7) (aCons (eVar 8) (aCons (eMin (eC (.int 1000000)) (eAdd (eVar 9) (eC (.int 1)))) aNil)))))
      (ρ := [some (.dat (encS r few)), some (.dat (encL c l)), some (.dat (.int c)), some (.dat (.tuple (l.ws.map encP))), some (.dat (encM l.mm)), none, none, none, none, none]) (fun w => ⟨_, rfl, by simp [encP, older]⟩) l.ws
    unfold F_lane_passed_by
    unfold runD
    rw [sSeq_nx (ρ' := [some (.dat (encS r few)), some (.dat (encL c l)), some (.dat (.int c)), some (.dat (.tuple (l.ws.map encP))), some (.dat (encM l.mm)), none, none, none, none, none]) (by simp [encL])]
    rw [sSeq_nx (ρ' := [some (.dat (encS r few)), some (.dat (encL c l)), some (.dat (.int c)), some (.dat (.tuple (l.ws.map encP))), some (.dat (encM l.mm)), some (.dat (.list ((l.ws.map older).map encP))), none, none, none, none])]
    · simp [encS, h1, encL, pasL]
    · unfold sAsg
      rw [show eLc (List.map (fun p : Str × Nat => p.2) [("size", 6), ("can", 7), ("marked", 8), ("wait", 9)]) (iTupD (eVar 3)) _ _ _ = some (.list ((l.ws.map older).map encP)) from eLc_eq rfl (by simpa using hz) hm hd]
      rfl
  · intro w hw
    simp only [pasL, List.mem_map] at hw
    obtain ⟨v, hv, rfl⟩ := hw
    exact older_ok v (hl.ws v hv).1
  · show (((l.ws.map older).length : Nat) : Int) ≤ few
    rw [List.length_map]; exact hl.len
end KW
/-! TYf: streams, standings, comers -/
namespace KW
open PySem PySem.Spec L2
theorem F_is_stream_ok {r : Rl} {few : Int} (h : r.Ok) (h1 : 1 ≤ few) (h2 : few ≤ 99) : F_is_stream [encS r few] = some (.bool true) := by
  simp [F_is_stream, encS, F_is_rule_ok h, h1, h2]
theorem F_need_stream_ok {r : Rl} {few : Int} (h : r.Ok) (h1 : 1 ≤ few) (h2 : few ≤ 99) : F_need_stream [encS r few] = some .none := by
  simp [F_need_stream, F_is_stream_ok h h1 h2]
def emptyL (r : Rl) : Ln := ⟨[], firstM r⟩
theorem emptyL_ok {r : Rl} {few : Int} (h : r.Ok) (h1 : 1 ≤ few) : LnOk r few (emptyL r) := ⟨(F_first_memory_ok h).2, fun w hw => by simp [emptyL] at hw, by simp [emptyL]; omega⟩
theorem F_empty_lane_ok {r : Rl} {few : Int} (h : r.Ok) (h1 : 1 ≤ few) (h2 : few ≤ 99) : F_empty_lane [encS r few] = some (encL 0 (emptyL r)) := by
  have e := F_need_stream_ok h h1 h2
  simp only [encS] at e
  simp [F_empty_lane, encS, e, (F_first_memory_ok h).1, encL, emptyL]
theorem F_small_stream_ok {r : Rl} {few : Int} : F_small_stream [encR r, .int few] = some (encS r few) := by simp [F_small_stream, encS]
theorem F_need_small_ok {r : Rl} {few : Int} (h : r.Ok) (h1 : 1 ≤ few) (h2 : few ≤ 6) : F_need_small [encR r, .int few] = some .none := by
  simp [F_need_small, F_is_rule_ok h, h1, h2]
theorem F_need_most_ok {m : Int} (h1 : 1 ≤ m) (h2 : m ≤ 3) : F_need_most [.int m] = some .none := by simp [F_need_most, h1, h2]
theorem F_need_rate_ok {m : Int} (h1 : 1 ≤ m) (h2 : m ≤ 99) : F_need_rate [.int m] = some .none := by simp [F_need_rate, h1, h2]
theorem F_need_rules_ok {a b : Rl} (ha : a.Ok) (hb : b.Ok) : F_need_rules [encR a, encR b] = some .none := by
  simp [F_need_rules, F_is_rule_ok ha, F_is_rule_ok hb]
theorem runD_ret {n : Nat} {f : DE} {ds : List PyData} {d : PyData} (h : f (ds.map (fun d => some (.dat d)) ++ List.replicate (n - ds.length) none) = some d) : runD n (sSeq (sRet f) sNil) ds = some d := by
  simp only [runD, sSeq, sRet, h, Option.map_some]
/-! ### rows of checks -/
theorem dMap_true {g : DG} {f : DE} {ρ : DS} : ∀ {ds : List PyData}, (∀ d ∈ ds, ∃ ρ1, g d ρ = some ρ1 ∧ f ρ1 = some (.bool true)) → dMap g f ρ ds = some (ds.map fun _ => .bool true)
  | [], _ => rfl
  | d :: ds, h => by
    obtain ⟨ρ1, h1, h2⟩ := h d (by simp)
    have ih := dMap_true (ds := ds) fun e he => h e (by simp [he])
    show (match g d ρ with
      | some ρ1 => (match f ρ1, dMap g f ρ ds with
        | some z, some zs => some (z :: zs)
        | _, _ => none)
      | none => none) = _
    rw [h1]
    simp only [h2, ih]
    rfl
theorem noLists_true : ∀ ds : List PyData, noLists (ds.map fun _ => PyData.bool true) = true
  | [] => rfl
  | d :: ds => by simp [noLists_true ds]
theorem allB_true : ∀ ds : List PyData, allB (ds.map fun _ => PyData.bool true) = some true
  | [] => rfl
  | d :: ds => by simp [allB_true ds]
theorem eAll_true {vs : List Nat} {it : DS → Option (List PyData)} {g : DG} {f : DE} {ρ : DS} {ds : List PyData} (h1 : it ρ = some ds) (h2 : ds.length ≤ 10000) (h : ∀ d ∈ ds, ∃ ρ1, g d (wipeD ρ vs) = some ρ1 ∧ f ρ1 = some (.bool true)) :
    eAll (eLc vs it g f) ρ = some (.bool true) := by
  have e := eLc_eq (vs := vs) (it := it) (ρ := ρ) h1 h2 (dMap_true h) (noLists_true ds)
  simp only [eAll, e, allB_true]
  rfl
theorem F_is_small_run_ok {m : Int} {ns : List Int} (hz : ns.length ≤ 1500) (h : ∀ n ∈ ns, 0 ≤ n ∧ n ≤ m) : F_is_small_run [.int m, .tuple (ns.map .int)] = some (.bool true) := by
  unfold F_is_small_run runD
  rw [sSeq_nx (ρ' := [some (.dat (.int m)), some (.dat (.tuple (ns.map .int))), none]) (by
    have : ¬ (1500 : Int) < (ns.length : Int) := by omega
    simp [this])]
  unfold sSeq sRet
  rw [eAll_true (ds := ns.map .int) rfl (by simpa using Nat.le_trans hz (by decide)) (fun d hd => by
    simp only [List.mem_map] at hd
    obtain ⟨n, hn, rfl⟩ := hd
    exact ⟨_, rfl, by simp [h n hn]⟩)]
  rfl
def encC : PyData := .tuple [.int 0, .int 1, .bool false]
theorem F_is_comer_ok : F_is_comer [.int 1, encC] = some (.bool true) := by simp [F_is_comer, encC]
theorem F_come_right_ok {n : Nat} (h : n ≤ 64) : F_come_right [.int 1, .tuple (List.replicate n encC)] = some (.bool true) := by
  have hz : ((List.replicate n encC).length : Int) ≤ 64 := by rw [List.length_replicate]; omega
  have e := eAll_true (vs := List.map (fun p : Str × Nat => p.2) [("one", 2)]) (it := iTupD (eVar 1)) (g := gNm 2) (f := eCall F_is_comer (aCons (eVar 0) (aCons (eVar 2) aNil)))
    (ρ := [some (.dat (.int 1)), some (.dat (.tuple (List.replicate n encC))), none]) (ds := List.replicate n encC) rfl (by rw [List.length_replicate]; omega) (fun d hd => by
      rw [List.eq_of_mem_replicate hd]
      exact ⟨_, rfl, by simp [F_is_comer_ok]⟩)
  refine runD_ret ?_
  show eAnd _ (eAnd _ _) [some (.dat (.int 1)), some (.dat (.tuple (List.replicate n encC))), none] = _
  have e1 : eIsi "tuple" (eVar 1) [some (.dat (.int 1)), some (.dat (.tuple (List.replicate n encC))), none] = some (.bool true) := by simp
  have e2 : eLe (eLen (eVar 1)) (eC (.int 64)) [some (.dat (.int 1)), some (.dat (.tuple (List.replicate n encC))), none] = some (.bool true) := by simp; omega
  simp only [eAnd, e1, e2, e]
theorem F_need_comers_ok {n : Nat} (h : n ≤ 64) : F_need_comers [.int 1, .tuple (List.replicate n encC)] = some .none := by
  simp [F_need_comers, F_are_comers, F_need_many, F_come_right_ok h]
/-! ### one stream -/
def encSs (r : Rl) (few : Int) : PyData := .tuple [encS r few]
/-- a standing of one stream -/
def encSt (b : Int) (g : Bool) (ring : List Int) (c : Int) (l : Ln) : PyData := .tuple [.int b, .bool g, .tuple (ring.map .int), .tuple [encL c l]]
theorem noList_encM (m : Mm) : noList (encM m) = true := by
  cases m with
  | non => rfl
  | late a l c => cases a <;> cases l <;> rfl
  | share ph sh ol su => rfl
theorem noList_encL (c : Int) (l : Ln) : noList (encL c l) = true := by simp [encL, noLists_encP, noList_encM]
theorem noList_encR (r : Rl) : noList (encR r) = true := by cases r <;> rfl
theorem noList_encS (r : Rl) (few : Int) : noList (encS r few) = true := by simp [encS, noList_encR]
theorem F_need_streams_ok {r : Rl} {few : Int} (h : r.Ok) (h1 : 1 ≤ few) (h2 : few ≤ 99) : F_need_streams [encSs r few] = some .none := by
  simp [F_need_streams, F_are_streams, encSs, F_is_stream_ok h h1 h2]
theorem F_first_standing_ok {r : Rl} {few : Int} (h : r.Ok) (h1 : 1 ≤ few) (h2 : few ≤ 99) : F_first_standing [encSs r few] = some (encSt 0 false [] 0 (emptyL r)) := by
  have e := F_need_streams_ok h h1 h2
  simp only [encSs] at e
  simp [F_first_standing, encSs, e, F_empty_lane_ok h h1 h2, noList_encL, encSt]
theorem F_all_renewed_ok {r : Rl} {few b c : Int} {g : Bool} {ring : List Int} {l : Ln} (h : r.Ok) (hl : LnOk r few l) : F_all_renewed [encSs r few, encSt b g ring c l] = some (encSt b g ring c (renL r l)) := by
  simp [F_all_renewed, encSs, encSt, (F_lane_renewed_by_ok h hl).1, noList_encL]
theorem F_all_passed_ok {r : Rl} {few b c : Int} {g : Bool} {ring : List Int} {l : Ln} (h : r.Ok) (hf : few ≤ 99) (hl : LnOk r few l) : F_all_passed [encSs r few, encSt b g ring c l] = some (encSt b g ring c (pasL r l)) := by
  simp [F_all_passed, encSs, encSt, (F_lane_passed_by_ok h hf hl).1, noList_encL]
/-! ### the first standing is one -/
theorem F_is_memory_first {r : Rl} (h : r.Ok) : F_is_memory_of [encR r, encM (firstM r)] = some (.bool true) := by
  have hm := (F_first_memory_ok h).2
  cases r with
  | non => simp [F_is_memory_of, encR, firstM, encM]
  | late m s =>
    have e := F_is_late_memory_ok h hm
    simp only [encR] at e
    simp [F_is_memory_of, encR, firstM, e]
  | share m p u t =>
    have e := F_is_share_memory_ok h hm
    simp only [encR] at e
    simp [F_is_memory_of, encR, firstM, e]
theorem F_are_pieces_0 {few : Int} (h : 1 ≤ few) : F_are_pieces [.int few, .tuple []] = some (.bool true) := by
  have e : ¬ few < 0 := by omega
  simp [F_are_pieces, e]
theorem F_is_lane_first {r : Rl} {few : Int} (h : r.Ok) (h1 : 1 ≤ few) : F_is_lane_of [encS r few, encL 0 (emptyL r)] = some (.bool true) := by
  have e1 := F_are_pieces_0 h1
  have e2 := F_is_memory_first h
  simp [F_is_lane_of, encS, encL, emptyL, e1, e2]
theorem F_need_standing_ok {r : Rl} {few : Int} (h : r.Ok) (h1 : 1 ≤ few) : F_need_standing [encSs r few, encSt 0 false [] 0 (emptyL r)] = some .none := by
  have e1 := F_is_lane_first h h1
  have e2 : F_are_lanes [encSs r few, .tuple [encL 0 (emptyL r)]] = some (.bool true) := by simp [F_are_lanes, encSs, e1]
  have e3 : F_is_ring [.tuple [encL 0 (emptyL r)], .tuple []] = some (.bool true) := by
    simp [F_is_ring, encL, emptyL]
  have e4 : F_are_credits [.bool false, .tuple [], .tuple [encL 0 (emptyL r)]] = some (.bool true) := by
    simp [F_are_credits, encL, emptyL]
  simp [F_need_standing, F_is_standing_of, encSt, e2, e3, e4]
end KW
/-! MA: a tick of a small lane -/
namespace KW
open PySem PySem.Spec L2
theorem bSeq_nx {u v : IB} {ρ ρ' : IR} {S S' : HS} (h : u ρ S = some (.nx ρ' S')) : bSeq u v ρ S = v ρ' S' := by simp only [bSeq, h]
theorem bSeq_rt {u v : IB} {ρ : IR} {S S' : HS} {x : IV} (h : u ρ S = some (.rt x S')) : bSeq u v ρ S = some (.rt x S') := by simp only [bSeq, h]
theorem bSeq_ex {u v : IB} {ρ ρ' : IR} {S S' : HS} (h : u ρ S = some (.ex ρ' S')) : bSeq u v ρ S = some (.ex ρ' S') := by simp only [bSeq, h]
@[simp] theorem get_last (S : HS) (x : Ob) : (S ++ [x])[S.length]? = some x := by simp
@[simp] theorem set_last (S : HS) (x y : Ob) : (S ++ [x]).set S.length y = S ++ [y] := by simp [List.set_append]
theorem Done_init_ok (S : HS) (a b c : PyData) (ha : noList a = true) (hb : noList b = true) (hc : noList c = true) :
    FI_Done_init [.obj S.length, .dat a, .dat b, .dat c] (S ++ [.ins "Done" []]) = some (.ok (.dat .none) (S ++ [.ins "Done" [("lane", .dat a), ("words", .dat b), ("sent_wait", .dat c)]])) := by
  simp (decide := true) [FI_Done_init, runI, ha, hb, hc]
def puts (r : Rl) (few : Int) : Nat → Ln → Ln × List Str
  | 0, l => (l, [])
  | n + 1, l => ((puts r few n (putL r few l).1).1, (putL r few l).2 :: (puts r few n (putL r few l).1).2)
def serve (r : Rl) : Nat → Ln → Ln × List Str × Option Int
  | 0, l => (l, [], none)
  | n + 1, l => if l.ws = [] then (l, [], none) else if (headL r l).2 = "drop" then ((serve r n (headL r l).1).1, (headL r l).2 :: (serve r n (headL r l).1).2.1, (serve r n (headL r l).1).2.2)
    else ((headL r l).1, [(headL r l).2], some (waitL l))
def doneM (r : Rl) (few : Int) (l : Ln) (n : Nat) : Ln × List Str × Option Int :=
  let p := puts r few n (renL r l)
  let q := serve r p.1.ws.length p.1
  (pasL r q.1, p.2 ++ q.2.1, q.2.2)
@[simp] theorem set_at0 (S T : HS) (x y : Ob) : (S ++ x :: T).set S.length y = S ++ y :: T := by simp [List.set_append]
theorem puts_ok {r : Rl} {few : Int} (h : r.Ok) (hf : few ≤ 99) : ∀ (n : Nat) (l : Ln), LnOk r few l → LnOk r few (puts r few n l).1 ∧ (puts r few n l).2.length = n
  | 0, l, hl => ⟨hl, rfl⟩
  | n + 1, l, hl => by
    obtain ⟨a, b⟩ := puts_ok h hf n _ (F_put_by_ok (c := 0) h hf hl).2
    exact ⟨a, by simp [puts, b]⟩
def sIV (x : Str) : IV := .dat (.str x)
theorem put_loop {r : Rl} {few : Int} (h : r.Ok) (hf : few ≤ 99) (many : PyData) (S0 : HS) (x6 x7 : Option IV) : ∀ (n : Nat) (xs : List IV) (l : Ln) (acc : List IV) (x4 x5 : Option IV), xs.length = n → LnOk r few l → acc.length + n < 10000 →
    ∃ y4 y5, bForL (gIN 4) (bSeq (bAsg (iP (eCall F_put_by (aCons (eVar 0) (aCons (eVar 1) (aCons (eC (.int 1)) (aCons (eC (.bool false)) aNil)))))) (gIT (gsIC (gIN 1) (gsIC (gIN 5) gsIN)))) (bSeq (bExp (iAppend (iVar 3) (iP (eVar 5)))) bNil)) xs
      [some (.dat (encS r few)), some (.dat (encL 0 l)), some (.dat many), some (.obj S0.length), x4, x5, x6, x7] (S0 ++ [.lst acc]) =
      some (.nx [some (.dat (encS r few)), some (.dat (encL 0 (puts r few n l).1)), some (.dat many), some (.obj S0.length), y4, y5, x6, x7] (S0 ++ [.lst (acc ++ (puts r few n l).2.map sIV)]))
  | 0, xs, l, acc, x4, x5, hx, hl, hz => by
    have : xs = [] := List.length_eq_zero_iff.mp hx
    subst this
    exact ⟨x4, x5, by simp [puts]⟩
  | n + 1, [], l, acc, x4, x5, hx, hl, hz => by cases hx
  | n + 1, x :: xs, l, acc, x4, x5, hx, hl, hz => by
    obtain ⟨h1, h2⟩ := F_put_by_ok (c := 0) h hf hl
    have hz1 : acc.length < 10000 := by omega
    obtain ⟨y4, y5, ih⟩ := put_loop h hf many S0 x6 x7 n xs _ (acc ++ [sIV (putL r few l).2]) (some x) (some (sIV (putL r few l).2)) (by simpa using hx) h2 (by simp; omega)
    refine ⟨y4, y5, ?_⟩
    rw [bForL]
    simp only [gIN, List.set_cons_succ, List.set_cons_zero]
    rw [bSeq_nx (ρ' := [some (.dat (encS r few)), some (.dat (encL 0 (putL r few l).1)), some (.dat many), some (.obj S0.length), some x, some (sIV (putL r few l).2), x6, x7]) (S' := S0 ++ [.lst acc]) (by
      simp [h1, noList_encL, sIV])]
    rw [bSeq_nx (ρ' := [some (.dat (encS r few)), some (.dat (encL 0 (putL r few l).1)), some (.dat many), some (.obj S0.length), some x, some (sIV (putL r few l).2), x6, x7]) (S' := S0 ++ [.lst (acc ++ [sIV (putL r few l).2])]) (by
      simp [sIV, hz1])]
    simp only [bNil]
    rw [ih]
    simp [puts]
@[simp] theorem dNe_sd1 : dNe (.str "send") (.str "drop") = some true := by decide +kernel
@[simp] theorem dNe_sd2 : dNe (.str "drop") (.str "drop") = some false := by decide +kernel
theorem headL_word (r : Rl) (l : Ln) : (headL r l).2 = "drop" ∨ (headL r l).2 = "send" := by
  unfold headL
  split
  · exact .inr rfl
  · dsimp only
    split
    · exact .inl rfl
    · exact .inr rfl
abbrev serveT : IX Bool := iPT (cAnd (cNe (eIx (eVar 1) 1) (eTup aNil)) (cIsN (eVar 6) (eC .none)))
abbrev serveB : IB := (bSeq (bAsg (iP (eCall F_head_wait (aCons (eVar 1) aNil))) (gIN 7)) (bSeq (bAsg (iP (eCall F_head_by (aCons (eVar 0) (aCons (eVar 1) aNil)))) (gIT (gsIC (gIN 1) (gsIC (gIN 5) gsIN)))) (bSeq (bExp (iAppend (iVar 3) (iP (eVar 5)))) (bSeq (bIf (iPT (cNe (eVar 5) (eC (.str "drop")))) (bSeq (bAsg (iP (eVar 7)) (gIN 6)) bNil) bNil) bNil))))
theorem serve_ok {r : Rl} {few : Int} (h : r.Ok) (hf : few ≤ 99) : ∀ (n : Nat) (l : Ln), LnOk r few l → LnOk r few (serve r n l).1 ∧ (serve r n l).2.1.length ≤ n
  | 0, l, hl => ⟨hl, Nat.le_refl _⟩
  | n + 1, l, hl => by
    unfold serve
    by_cases he : l.ws = []
    · rw [if_pos he]; exact ⟨hl, Nat.zero_le _⟩
    · rw [if_neg he]
      have h2 := (F_head_by_ok (c := 0) h hf hl he).2.1
      split
      · obtain ⟨a, b⟩ := serve_ok h hf n _ h2
        exact ⟨a, by simp; omega⟩
      · exact ⟨h2, by simp⟩
theorem serveT_at {ρ0 ρ2 ρ3 ρ4 ρ5 ρ7 : Option IV} {l : Ln} {w : Option Int} {S : HS} : serveT [ρ0, some (.dat (encL 0 l)), ρ2, ρ3, ρ4, ρ5, some (.dat (encO w)), ρ7] S = some (.ok (decide (l.ws ≠ [] ∧ w = none)) S) := by
  by_cases he : l.ws = []
  · simp [encL, he]
  · cases w <;> simp [encL, he, encO]
theorem serve_loop {r : Rl} {few : Int} (h : r.Ok) (hf : few ≤ 99) (many : PyData) (S0 : HS) (x4 : Option IV) : ∀ (n : Nat) (l : Ln) (acc : List IV) (x5 x7 : Option IV) (N : Nat), l.ws.length = n → n + 2 ≤ N → LnOk r few l → acc.length + n < 10000 →
    ∃ y5 y7, bWhile N serveT serveB [some (.dat (encS r few)), some (.dat (encL 0 l)), some (.dat many), some (.obj S0.length), x4, x5, some (.dat .none), x7] (S0 ++ [.lst acc]) =
      some (.nx [some (.dat (encS r few)), some (.dat (encL 0 (serve r n l).1)), some (.dat many), some (.obj S0.length), x4, y5, some (.dat (encO (serve r n l).2.2)), y7] (S0 ++ [.lst (acc ++ (serve r n l).2.1.map sIV)]))
  | 0, l, acc, x5, x7, N, hn, hN, hl, hz => by
    obtain ⟨N, rfl⟩ : ∃ M, N = M + 1 := ⟨N - 1, by omega⟩
    have he : l.ws = [] := List.length_eq_zero_iff.mp hn
    refine ⟨x5, x7, ?_⟩
    unfold bWhile
    rw [show (PyData.none) = encO none from rfl, serveT_at]
    simp [he, serve, encO]
  | n + 1, l, acc, x5, x7, N, hn, hN, hl, hz => by
    obtain ⟨N, rfl⟩ : ∃ M, N = M + 1 := ⟨N - 1, by omega⟩
    have he : l.ws ≠ [] := fun z => by rw [z] at hn; cases hn
    obtain ⟨h1, h2, h3⟩ := F_head_by_ok (c := 0) h hf hl he
    have hc : (if (headL r l).1.ws = [] then (0 : Int) else 0) = 0 := by split <;> rfl
    rw [hc] at h1
    have hw := F_head_wait_ok (c := 0) (l := l)
    have hz1 : acc.length < 10000 := by omega
    have step : ∀ (X6 : Option Int), ((headL r l).2 = "drop" ∧ X6 = none) ∨ ((headL r l).2 ≠ "drop" ∧ X6 = some (waitL l)) →
        serveB [some (.dat (encS r few)), some (.dat (encL 0 l)), some (.dat many), some (.obj S0.length), x4, x5, some (.dat .none), x7] (S0 ++ [.lst acc]) =
        some (.nx [some (.dat (encS r few)), some (.dat (encL 0 (headL r l).1)), some (.dat many), some (.obj S0.length), x4, some (sIV (headL r l).2), some (.dat (encO X6)), some (.dat (.int (waitL l)))] (S0 ++ [.lst (acc ++ [sIV (headL r l).2])])) := by
      intro X6 hX
      rcases hX with ⟨hd, rfl⟩ | ⟨hd, rfl⟩
      · rw [hd] at h1 ⊢
        simp [serveB, hw, h1, noList_encL, sIV, hz1, encO]
      · have hd2 : (headL r l).2 = "send" := (headL_word r l).resolve_left hd
        rw [hd2] at h1 ⊢
        simp [serveB, hw, h1, noList_encL, sIV, hz1, encO]
    unfold bWhile
    rw [show (some (IV.dat PyData.none)) = some (.dat (encO none)) from rfl, serveT_at]
    simp only [he, ne_eq, not_false_eq_true, and_self, decide_true]
    by_cases hd : (headL r l).2 = "drop"
    · obtain ⟨y5, y7, ih⟩ := serve_loop h hf many S0 x4 n (headL r l).1 (acc ++ [sIV (headL r l).2]) (some (sIV (headL r l).2)) (some (.dat (.int (waitL l)))) N (by omega) (by omega) h2 (by simp; omega)
      refine ⟨y5, y7, ?_⟩
      have st := step none (.inl ⟨hd, rfl⟩)
      simp only [encO] at st ⊢
      rw [st]
      simp only
      rw [ih]
      simp only [serve, if_neg he, if_pos hd, List.map_cons, List.append_assoc, List.cons_append, List.nil_append]
      rfl
    · refine ⟨some (sIV (headL r l).2), some (.dat (.int (waitL l))), ?_⟩
      have st := step (some (waitL l)) (.inr ⟨hd, rfl⟩)
      have e0 : encO none = .none := rfl
      rw [e0, st]
      simp only
      obtain ⟨N, rfl⟩ : ∃ M, N = M + 1 := ⟨N - 1, by omega⟩
      unfold bWhile
      rw [serveT_at]
      simp [serve, he, hd]
theorem rng_ok {f : DE} {ρ : IR} {S : HS} {n : Nat} (h : f (ρ.map prj) = some (.int n)) (hn : n ≤ 1000000) : iRngI (iP f) ρ S = some (.ok (rangeI 0 n) S) := by
  have h2 : -(2 ^ 62) ≤ (n : Int) ∧ (n : Int) < 2 ^ 62 := by omega
  simp only [iRngI, iBind, iP, h, iRet, noList, if_true, if_pos h2, Int.toNat_natCast]
theorem bFor_ok {A : IX (List IV)} {g : IG} {u : IB} {ρ : IR} {S S1 : HS} {xs : List IV} {o : IOut} (h1 : A ρ S = some (.ok xs S1)) (h2 : bForL g u xs ρ S1 = some o) : bFor A g u ρ S = some o := by
  simp only [bFor, h1, h2]
theorem bAsgN {f : DE} {i : Nat} {ρ : IR} {S : HS} {d : PyData} (h : f (ρ.map prj) = some d) (hn : noList d = true) : bAsg (iP f) (gIN i) ρ S = some (.nx (ρ.set i (some (.dat d))) S) := by
  simp only [bAsg, iP, h, iRet, hn, if_true, gIN]
def wsD (ws : List Str) : PyData := .tuple (ws.map .str)
theorem datsOf_sIV : ∀ ws : List Str, datsOf (ws.map sIV) = some (ws.map .str)
  | [] => rfl
  | w :: ws => by simp [sIV, datsOf_sIV ws]
theorem noLists_str : ∀ ws : List Str, noLists (ws.map PyData.str) = true
  | [] => rfl
  | w :: ws => by simp [noLists_str ws]
theorem noList_encO (o : Option Int) : noList (encO o) = true := by cases o <;> rfl
theorem noList_wsD (ws : List Str) : noList (wsD ws) = true := by simp [wsD, noLists_str]
def doneO (p : Ln × List Str × Option Int) : Ob := .ins "Done" [("lane", .dat (encL 0 p.1)), ("words", .dat (wsD p.2.1)), ("sent_wait", .dat (encO p.2.2))]
theorem done_by_ok {r : Rl} {few : Int} {l : Ln} {n : Nat} (h : r.Ok) (hf : few ≤ 99) (hl : LnOk r few l) (hn : n ≤ 1000) (S : HS) :
    FI_done_by [.dat (encS r few), .dat (encL 0 l), .dat (.int n)] S = some (.ok (.obj (S.length + 1)) (S ++ [.lst ((doneM r few l n).2.1.map sIV), doneO (doneM r few l n)])) ∧ LnOk r few (doneM r few l n).1 := by
  obtain ⟨h1, h2⟩ := F_lane_renewed_by_ok (c := 0) h hl
  obtain ⟨p1, p2⟩ := puts_ok h hf n _ h2
  obtain ⟨s1, s2⟩ := serve_ok h hf (puts r few n (renL r l)).1.ws.length _ p1
  obtain ⟨q1, q2⟩ := F_lane_passed_by_ok (c := 0) h hf s1
  have hlen : ((puts r few n (renL r l)).1.ws.length : Int) ≤ few := p1.len
  refine ⟨?_, q2⟩
  unfold FI_done_by runI
  simp only [List.map_cons, List.map_nil, List.length_cons, List.length_nil, List.cons_append, List.nil_append, List.replicate]
  obtain ⟨y4, y5, e1⟩ := put_loop h hf (.int n) S none none n (rangeI 0 n) (renL r l) [] none none (by simp) h2 (by simp; omega)
  obtain ⟨z5, z7, e2⟩ := serve_loop h hf (.int n) S y4 _ (puts r few n (renL r l)).1 ((puts r few n (renL r l)).2.map sIV) y5 none 2000 rfl (by omega) p1 (by simp [p2]; omega)
  simp only [List.nil_append] at e1
  rw [bSeq_nx (ρ' := [some (.dat (encS r few)), some (.dat (encL 0 (renL r l))), some (.dat (.int n)), none, none, none, none, none]) (S' := S) (by simp [h1, noList_encL])]
  rw [bSeq_nx (ρ' := [some (.dat (encS r few)), some (.dat (encL 0 (renL r l))), some (.dat (.int n)), some (.obj S.length), none, none, none, none]) (S' := S ++ [.lst []]) (by simp)]
  rw [bSeq_nx (bFor_ok (rng_ok (n := n) rfl (by omega)) e1)]
  rw [bSeq_nx (bAsgN (f := eC .none) rfl rfl)]
  simp only [List.set_cons_succ, List.set_cons_zero]
  rw [bSeq_nx (ρ' := _) (S' := _) e2]
  have hd := Done_init_ok (S ++ [.lst ((puts r few n (renL r l)).2.map sIV ++ (serve r (puts r few n (renL r l)).1.ws.length (puts r few n (renL r l)).1).2.1.map sIV)]) (encL 0 (doneM r few l n).1) (wsD (doneM r few l n).2.1) (encO (doneM r few l n).2.2) (noList_encL _ _) (noList_wsD _) (noList_encO _)
  have hds : datsOf ((puts r few n (renL r l)).2.map sIV ++ (serve r (puts r few n (renL r l)).1.ws.length (puts r few n (renL r l)).1).2.1.map sIV) = some ((doneM r few l n).2.1.map .str) := by
    rw [← List.map_append, datsOf_sIV]
    rfl
  simp only [bSeq, bRet, iMake, iBind, iCons, iP, List.map_cons, List.map_nil, prj, eCall, aCons, aNil, eVar, List.getElem?_cons_zero, List.getElem?_cons_succ, Option.bind_some, q1, iRet, noList_encL, if_true, iTupOf, iVar, tupOf_, get_last, hds, noList_encO, iNil, iRA]
  simp only [List.length_append, List.length_cons, List.length_nil, List.append_assoc, List.cons_append, List.nil_append] at hd ⊢
  rw [show PyData.tuple ((doneM r few l n).2.1.map .str) = wsD (doneM r few l n).2.1 from rfl]
  erw [hd]
  simp only
  congr 2
  rw [← List.map_append]
  rfl
end KW
/-! MB: the words of a small run -/
namespace KW
open PySem PySem.Spec L2
def runW (r : Rl) (few : Int) : Ln → List Nat → List (List Str)
  | _, [] => []
  | l, n :: ns => (doneM r few l n).2.1 :: runW r few (doneM r few l n).1 ns
def runL (r : Rl) (few : Int) : Ln → List Nat → Ln
  | l, [] => l
  | l, n :: ns => runL r few (doneM r few l n).1 ns
@[simp] theorem get_at0 (S T : HS) (x : Ob) : (S ++ x :: T)[S.length]? = some x := by simp
theorem get_done (S : HS) (x y : Ob) : (S ++ [x, y])[S.length + 1]? = some y := by
  rw [List.getElem?_append_right (by omega)]
  simp
theorem fld_lane (S : HS) (x : Ob) (p : Ln × List Str × Option Int) {ρ : IR} {i : Nat} (h : ρ[i]? = some (some (.obj (S.length + 1)))) : iFld "Done" (iVar i) "lane" ρ (S ++ [x, doneO p]) = some (.ok (.dat (encL 0 p.1)) (S ++ [x, doneO p])) := by
  simp only [iFld, iBind, iVar, h, fldGo, get_done, doneO]
  rfl
theorem fld_words (S : HS) (x : Ob) (p : Ln × List Str × Option Int) {ρ : IR} {i : Nat} (h : ρ[i]? = some (some (.obj (S.length + 1)))) : iFld "Done" (iVar i) "words" ρ (S ++ [x, doneO p]) = some (.ok (.dat (wsD p.2.1)) (S ++ [x, doneO p])) := by
  simp only [iFld, iBind, iVar, h, fldGo, get_done, doneO]
  rfl
abbrev smallB : IB := (bSeq (bAsg (iCall FI_done_by (iCons (iP (eVar 3)) (iCons (iP (eVar 4)) (iCons (iP (eVar 6)) iNil)))) (gIN 7)) (bSeq (bAsg (iFld "Done" (iVar 7) "lane") (gIN 4)) (bSeq (bExp (iAppend (iVar 5) (iFld "Done" (iVar 7) "words"))) bNil)))
def wIV (ws : List Str) : IV := .dat (wsD ws)
theorem small_loop {r : Rl} {few : Int} (h : r.Ok) (hf : few ≤ 99) (v1 v2 : PyData) (S0 : HS) (x0 : Option IV) : ∀ (ns : List Nat) (l : Ln) (acc : List IV) (T : HS) (x6 x7 : Option IV), LnOk r few l → (∀ n ∈ ns, n ≤ 1000) → acc.length + ns.length < 10000 →
    ∃ y6 y7 T', bForL (gIN 6) smallB (ns.map fun (n : Nat) => IV.dat (.int n)) [x0, some (.dat v1), some (.dat v2), some (.dat (encS r few)), some (.dat (encL 0 l)), some (.obj S0.length), x6, x7] (S0 ++ .lst acc :: T) =
      some (.nx [x0, some (.dat v1), some (.dat v2), some (.dat (encS r few)), some (.dat (encL 0 (runL r few l ns))), some (.obj S0.length), y6, y7] (S0 ++ .lst (acc ++ (runW r few l ns).map wIV) :: T'))
  | [], l, acc, T, x6, x7, hl, hn, hz => ⟨x6, x7, T, by simp [runL, runW]⟩
  | n :: ns, l, acc, T, x6, x7, hl, hn, hz => by
    obtain ⟨d1, d2⟩ := done_by_ok h hf hl (hn n (by simp)) (S0 ++ .lst acc :: T)
    obtain ⟨y6, y7, T', ih⟩ := small_loop h hf v1 v2 S0 x0 ns _ (acc ++ [wIV (doneM r few l n).2.1]) (T ++ [.lst ((doneM r few l n).2.1.map sIV), doneO (doneM r few l n)]) (some (.dat (.int n))) (some (.obj ((S0 ++ .lst acc :: T).length + 1))) d2 (fun m hm => hn m (by simp [hm])) (by simp at hz ⊢; omega)
    refine ⟨y6, y7, T', ?_⟩
    have hz1 : acc.length < 10000 := by omega
    rw [List.map_cons, bForL]
    simp only [gIN, List.set_cons_succ, List.set_cons_zero]
    unfold smallB
    rw [bSeq_nx (ρ' := [x0, some (.dat v1), some (.dat v2), some (.dat (encS r few)), some (.dat (encL 0 l)), some (.obj S0.length), some (.dat (.int n)), some (.obj ((S0 ++ .lst acc :: T).length + 1))]) (S' := (S0 ++ .lst acc :: T) ++ [.lst ((doneM r few l n).2.1.map sIV), doneO (doneM r few l n)]) (by
      simp only [bAsg, iCall, iBind, iCons, iP, iNil, iRA, List.map_cons, List.map_nil, prj, eVar, List.getElem?_cons_zero, List.getElem?_cons_succ, iRet, noList_encS, noList_encL, noList, if_true, d1, gIN, List.set_cons_succ, List.set_cons_zero])]
    rw [bSeq_nx (ρ' := [x0, some (.dat v1), some (.dat v2), some (.dat (encS r few)), some (.dat (encL 0 (doneM r few l n).1)), some (.obj S0.length), some (.dat (.int n)), some (.obj ((S0 ++ .lst acc :: T).length + 1))]) (S' := (S0 ++ .lst acc :: T) ++ [.lst ((doneM r few l n).2.1.map sIV), doneO (doneM r few l n)]) (by
      simp only [bAsg, fld_lane _ _ _ (show ([x0, some (.dat v1), some (.dat v2), some (.dat (encS r few)), some (.dat (encL 0 l)), some (.obj S0.length), some (.dat (.int n)), some (.obj ((S0 ++ .lst acc :: T).length + 1))] : IR)[7]? = _ from rfl), gIN, List.set_cons_succ, List.set_cons_zero])]
    rw [bSeq_nx (ρ' := [x0, some (.dat v1), some (.dat v2), some (.dat (encS r few)), some (.dat (encL 0 (doneM r few l n).1)), some (.obj S0.length), some (.dat (.int n)), some (.obj ((S0 ++ .lst acc :: T).length + 1))]) (S' := S0 ++ .lst (acc ++ [wIV (doneM r few l n).2.1]) :: (T ++ [.lst ((doneM r few l n).2.1.map sIV), doneO (doneM r few l n)])) (by
      have e := fld_words (S0 ++ .lst acc :: T) (.lst ((doneM r few l n).2.1.map sIV)) (doneM r few l n) (ρ := [x0, some (.dat v1), some (.dat v2), some (.dat (encS r few)), some (.dat (encL 0 (doneM r few l n).1)), some (.obj S0.length), some (.dat (.int n)), some (.obj ((S0 ++ .lst acc :: T).length + 1))]) (i := 7) rfl
      simp only [List.append_assoc, List.cons_append] at e ⊢
      simp only [bExp, iAppend, iBind, iVar, List.getElem?_cons_zero, List.getElem?_cons_succ, get_at0]
      simp only [iFld, iBind, iVar] at e ⊢
      rw [e]
      simp only [get_at0, hz1, if_true, set_at0]
      rfl)]
    simp only [bNil]
    rw [ih]
    simp [runL, runW]
theorem runW_len (r : Rl) (few : Int) : ∀ (ns : List Nat) (l : Ln), (runW r few l ns).length = ns.length
  | [], l => rfl
  | n :: ns, l => by simp [runW, runW_len r few ns]
theorem datsOf_wIV : ∀ ws : List (List Str), datsOf (ws.map wIV) = some (ws.map wsD)
  | [] => rfl
  | w :: ws => by simp [wIV, datsOf_wIV ws]
theorem noLists_ints : ∀ ns : List Nat, noLists (ns.map fun (n : Nat) => PyData.int n) = true
  | [] => rfl
  | n :: ns => by simp [noLists_ints ns]
def encN (ns : List Nat) : PyData := .tuple (ns.map fun (n : Nat) => PyData.int n)
theorem noList_encN (ns : List Nat) : noList (encN ns) = true := by simp [encN, noLists_ints]
def encWs (ws : List (List Str)) : PyData := .tuple (ws.map wsD)
theorem bExpN {f : DE} {ρ : IR} {S : HS} {d : PyData} (h : f (ρ.map prj) = some d) (hn : noList d = true) : bExp (iP f) ρ S = some (.nx ρ S) := by
  simp only [bExp, iP, h, iRet, hn, if_true]
theorem bIfF {f : DT} {u v : IB} {ρ : IR} {S : HS} (h : f (ρ.map prj) = some false) : bIf (iPT f) u v ρ S = v ρ S := by
  simp only [bIf, iPT, h]
theorem bIfT {f : DT} {u v : IB} {ρ : IR} {S : HS} (h : f (ρ.map prj) = some true) : bIf (iPT f) u v ρ S = u ρ S := by
  simp only [bIf, iPT, h]
theorem bAsgLst {i : Nat} {ρ : IR} {S : HS} : bAsg (iLst iNil) (gIN i) ρ S = some (.nx (ρ.set i (some (.obj S.length))) (S ++ [.lst []])) := by
  simp only [bAsg, iLst, iBind, iNil, gIN]
theorem small_words_ok {r : Rl} {few : Int} {ns : List Nat} (h : r.Ok) (h1 : 1 ≤ few) (h6 : few ≤ 6) (hz : ns.length ≤ 1500) (hn : ∀ n ∈ ns, n ≤ 3) (S : HS) :
    ∃ T, FI_small_words [.dat (encR r), .dat (.int few), .dat (encN ns)] S = some (.ok (.dat (encWs (runW r few (emptyL r) ns))) (S ++ T)) := by
  have hns : F_is_small_run [.int 3, encN ns] = some (.bool true) := by
    have := F_is_small_run_ok (m := 3) (ns := ns.map fun (n : Nat) => (n : Int)) (by simpa using hz) (by
      intro x hx
      obtain ⟨n, hn', rfl⟩ := List.mem_map.mp hx
      have := hn n hn'
      omega)
    rw [List.map_map] at this
    exact this
  obtain ⟨y6, y7, T', e⟩ := small_loop h (by omega) (.int few) (encN ns) S (some (.dat (encR r))) ns (emptyL r) [] [] none none (emptyL_ok h h1) (fun n hn' => Nat.le_trans (hn n hn') (by decide)) (by simp; omega)
  refine ⟨.lst ((runW r few (emptyL r) ns).map wIV) :: T', ?_⟩
  simp only [List.nil_append] at e
  unfold FI_small_words runI
  simp only [List.map_cons, List.map_nil, List.length_cons, List.length_nil, List.cons_append, List.nil_append, List.replicate]
  rw [bSeq_nx (bExpN (d := .none) (by simp [F_need_small_ok h h1 h6]) rfl)]
  rw [bSeq_nx (ρ' := [some (.dat (encR r)), some (.dat (.int few)), some (.dat (encN ns)), none, none, none, none, none]) (S' := S) (by rw [bIfF (by simp [hns])]; rfl)]
  rw [bSeq_nx (bAsgN (d := encS r few) (by simp [F_small_stream_ok]) (noList_encS _ _))]
  simp only [List.set_cons_succ, List.set_cons_zero]
  rw [bSeq_nx (bAsgN (d := encL 0 (emptyL r)) (by simp [F_empty_lane_ok h h1 (show few ≤ 99 by omega)]) (noList_encL _ _))]
  simp only [List.set_cons_succ, List.set_cons_zero]
  rw [bSeq_nx bAsgLst]
  simp only [List.set_cons_succ, List.set_cons_zero]
  rw [bSeq_nx (bFor_ok (S1 := S ++ [.lst []]) (xs := ns.map fun (n : Nat) => IV.dat (.int n)) (by
    simp only [iTupI, iBind, iP, List.map_cons, List.map_nil, prj, eVar, List.getElem?_cons_zero, List.getElem?_cons_succ, iRet, noList_encN, if_true, encN, tupsOf, List.map_map]
    have := noLists_ints ns
    simp [noLists_ints]) e)]
  simp [bRet, datsOf_wIV, encWs]
end KW
/-! MC: a serving of one lane -/
namespace KW
open PySem PySem.Spec L2
/-- below base nothing changes -/
structure Fr (base : Nat) (S S' : HS) : Prop where
  keep : ∀ j, j < base → S'[j]? = S[j]?
  len : S.length ≤ S'.length
theorem Fr.refl (base : Nat) (S : HS) : Fr base S S := ⟨fun _ _ => rfl, Nat.le_refl _⟩
theorem Fr.trans {base : Nat} {S S1 S2 : HS} (a : Fr base S S1) (b : Fr base S1 S2) : Fr base S S2 := ⟨fun j h => (b.keep j h).trans (a.keep j h), Nat.le_trans a.len b.len⟩
theorem Fr.set {base : Nat} {S S' : HS} {i : Nat} {x : Ob} (h : base ≤ i) (a : Fr base S S') : Fr base S (S'.set i x) := ⟨fun j hj => by rw [List.getElem?_set_ne (by omega)]; exact a.keep j hj, by rw [List.length_set]; exact a.len⟩
theorem Fr.app {base : Nat} {S S' T : HS} (h : base ≤ S.length) (a : Fr base S S') : Fr base S (S' ++ T) := ⟨fun j hj => by rw [List.getElem?_append_left (by have := a.len; omega)]; exact a.keep j hj, by simp; have := a.len; omega⟩
def svO (r : Rl) (few b : Int) (g : Bool) (k1 k2 k3 : Nat) : Ob := .ins "Serving" [("own_streams", .dat (encSs r few)), ("own_budget", .dat (.int b)), ("own_begun", .dat (.bool g)), ("own_ring", .obj k1), ("own_lanes", .obj k2), ("own_rows", .obj k3)]
def ringI (ring : Bool) : List IV := if ring = true then [.dat (.int 0)] else []
def rowD (p : Str × Int) : PyData := .tuple [.str p.1, .int 0, .int 1, .int p.2]
/-- the serving i, its lists at k1, k2, k3 -/
structure Sv (r : Rl) (few : Int) (S : HS) (base i k1 k2 k3 : Nat) (b : Int) (g ring : Bool) (c : Int) (l : Ln) (rows : List (Str × Int)) : Prop where
  s : S[i]? = some (svO r few b g k1 k2 k3)
  r1 : S[k1]? = some (.lst (ringI ring))
  r2 : S[k2]? = some (.lst [.dat (encL c l)])
  r3 : S[k3]? = some (.lst (rows.map fun p => .dat (rowD p)))
  n1 : i ≠ k1
  n2 : i ≠ k2
  n3 : i ≠ k3
  n4 : k1 ≠ k2
  n5 : k1 ≠ k3
  n6 : k2 ≠ k3
  b0 : base ≤ i
  b1 : base ≤ k1
  b2 : base ≤ k2
  b3 : base ≤ k3
theorem lt_of_get {S : HS} {i : Nat} {x : Ob} (h : S[i]? = some x) : i < S.length := (List.getElem?_eq_some_iff.mp h).1
section
variable {r : Rl} {few : Int} {S : HS} {base i k1 k2 k3 : Nat} {b : Int} {g ring : Bool} {c : Int} {l : Ln} {rows : List (Str × Int)}
theorem Sv.setI (h : Sv r few S base i k1 k2 k3 b g ring c l rows) (b' : Int) (g' : Bool) : Sv r few (S.set i (svO r few b' g' k1 k2 k3)) base i k1 k2 k3 b' g' ring c l rows := by
  obtain ⟨h0, h1, h2, h3, n1, n2, n3, n4, n5, n6, b0, b1, b2, b3⟩ := h
  refine ⟨?_, ?_, ?_, ?_, n1, n2, n3, n4, n5, n6, b0, b1, b2, b3⟩
  · rw [List.getElem?_set_self (lt_of_get h0)]
  · rw [List.getElem?_set_ne n1]; exact h1
  · rw [List.getElem?_set_ne n2]; exact h2
  · rw [List.getElem?_set_ne n3]; exact h3
theorem Sv.setL (h : Sv r few S base i k1 k2 k3 b g ring c l rows) (c' : Int) (l' : Ln) : Sv r few (S.set k2 (.lst [.dat (encL c' l')])) base i k1 k2 k3 b g ring c' l' rows := by
  obtain ⟨h0, h1, h2, h3, n1, n2, n3, n4, n5, n6, b0, b1, b2, b3⟩ := h
  refine ⟨?_, ?_, ?_, ?_, n1, n2, n3, n4, n5, n6, b0, b1, b2, b3⟩
  · rw [List.getElem?_set_ne (Ne.symm n2)]; exact h0
  · rw [List.getElem?_set_ne (Ne.symm n4)]; exact h1
  · rw [List.getElem?_set_self (lt_of_get h2)]
  · rw [List.getElem?_set_ne n6]; exact h3
theorem Sv.setR (h : Sv r few S base i k1 k2 k3 b g ring c l rows) (p : Str × Int) : Sv r few (S.set k3 (.lst ((rows ++ [p]).map fun p => .dat (rowD p)))) base i k1 k2 k3 b g ring c l (rows ++ [p]) := by
  obtain ⟨h0, h1, h2, h3, n1, n2, n3, n4, n5, n6, b0, b1, b2, b3⟩ := h
  refine ⟨?_, ?_, ?_, ?_, n1, n2, n3, n4, n5, n6, b0, b1, b2, b3⟩
  · rw [List.getElem?_set_ne (Ne.symm n3)]; exact h0
  · rw [List.getElem?_set_ne (Ne.symm n5)]; exact h1
  · rw [List.getElem?_set_ne (Ne.symm n6)]; exact h2
  · rw [List.getElem?_set_self (lt_of_get h3)]
theorem Sv.app (h : Sv r few S base i k1 k2 k3 b g ring c l rows) (T : HS) : Sv r few (S ++ T) base i k1 k2 k3 b g ring c l rows := by
  obtain ⟨h0, h1, h2, h3, n1, n2, n3, n4, n5, n6, b0, b1, b2, b3⟩ := h
  refine ⟨?_, ?_, ?_, ?_, n1, n2, n3, n4, n5, n6, b0, b1, b2, b3⟩
  · rw [List.getElem?_append_left (lt_of_get h0)]; exact h0
  · rw [List.getElem?_append_left (lt_of_get h1)]; exact h1
  · rw [List.getElem?_append_left (lt_of_get h2)]; exact h2
  · rw [List.getElem?_append_left (lt_of_get h3)]; exact h3
/-! attributes -/
theorem fld_i (m : Str) (x : IV) {ρ : IR} {v : Nat} (hv : ρ[v]? = some (some (.obj i))) (h : S[i]? = some (svO r few b g k1 k2 k3))
    (hm : ([("own_streams", .dat (encSs r few)), ("own_budget", .dat (.int b)), ("own_begun", .dat (.bool g)), ("own_ring", .obj k1), ("own_lanes", .obj k2), ("own_rows", .obj k3)] : List (Str × IV)).lookup m = some x) :
    iFld "Serving" (iVar v) m ρ S = some (.ok x S) := by
  simp only [iFld, iBind, iVar, hv, fldGo, h, svO, if_true, hm]
theorem begin_turn_ok (h : Sv r few S base i k1 k2 k3 b g ring c l rows) : FI_Serving_begin_turn [.obj i, .dat (.int 0)] S = some (.ok (.dat .none) ((S.set k2 (.lst [.dat (encL (c + 9) l)])).set i (svO r few b true k1 k2 k3))) := by
  have h0 := h.s
  have f1 : ∀ rest : IR, iFld "Serving" (iVar 0) "own_lanes" (some (.obj i) :: rest) S = some (.ok (.obj k2) S) := fun rest => fld_i _ _ rfl h0 rfl
  have f2 : ∀ rest : IR, iFld "Serving" (iVar 0) "own_streams" (some (.obj i) :: rest) S = some (.ok (.dat (encSs r few)) S) := fun rest => fld_i _ _ rfl h0 rfl
  have g1 : (S.set k2 (.lst [.dat (encL (c + 9) l)]))[i]? = some (svO r few b g k1 k2 k3) := by rw [List.getElem?_set_ne (Ne.symm h.n2)]; exact h0
  have h2 := h.r2
  have hm : fMulR (.int 9) (.int 1) = some (.int 9) := by simp [fMulR]
  unfold FI_Serving_begin_turn runI
  simp only [List.map_cons, List.map_nil, List.length_cons, List.length_nil, List.cons_append, List.nil_append, List.replicate]
  rw [bSeq_nx (ρ' := [some (.obj i), some (.dat (.int 0)), some (.dat (.int c)), some (.dat (.tuple (l.ws.map encP))), some (.dat (encM l.mm))]) (S' := S) (by
    simp only [bAsg, iTwo, iBind]
    rw [f1]
    simp [h2, encL])]
  rw [bSeq_nx (ρ' := [some (.obj i), some (.dat (.int 0)), some (.dat (.int c)), some (.dat (.tuple (l.ws.map encP))), some (.dat (encM l.mm))]) (S' := S.set k2 (.lst [.dat (encL (c + 9) l)])) (by
    simp only [bAsg, iTup, iCons, iTwo, iBind, gIS]
    simp [-iFld, f1, f2, h2, encL, encSs, encS, hm, noLists_encP, noList_encM])]
  rw [bSeq_nx (ρ' := [some (.obj i), some (.dat (.int 0)), some (.dat (.int c)), some (.dat (.tuple (l.ws.map encP))), some (.dat (encM l.mm))]) (S' := (S.set k2 (.lst [.dat (encL (c + 9) l)])).set i (svO r few b true k1 k2 k3)) (by
    simp only [bAsg, iP, eC, iRet, noList, if_true, gIF, List.getElem?_cons_zero, putFld, g1, svO]
    rfl)]
  rfl
theorem Sv.newR (h : Sv r few S base i k1 k2 k3 b g ring c l rows) (R1 R2 : List IV) (ring' : Bool) (g' : Bool) (hb : base ≤ S.length) :
    Sv r few ((S ++ [Ob.lst R1, Ob.lst R2, Ob.lst (ringI ring')]).set i (svO r few b g' (S.length + 2) k2 k3)) base i (S.length + 2) k2 k3 b g' ring' c l rows := by
  obtain ⟨h0, h1, h2, h3, n1, n2, n3, n4, n5, n6, b0, b1, b2, b3⟩ := h
  have l0 := lt_of_get h0
  have l2 := lt_of_get h2
  have l3 := lt_of_get h3
  refine ⟨?_, ?_, ?_, ?_, by omega, n2, n3, by omega, by omega, n6, b0, by omega, b2, b3⟩
  · rw [List.getElem?_set_self (by simp; omega)]
  · rw [List.getElem?_set_ne (by omega), List.getElem?_append_right (by omega)]
    simp
  · rw [List.getElem?_set_ne n2, List.getElem?_append_left l2]; exact h2
  · rw [List.getElem?_set_ne n3, List.getElem?_append_left l3]; exact h3
theorem setBegun (h : S[i]? = some (svO r few b g k1 k2 k3)) (v : Bool) (rest : IR) : bAsg (iP (eC (.bool v))) (gIF "Serving" 0 "own_begun") (some (.obj i) :: rest) S = some (.nx (some (.obj i) :: rest) (S.set i (svO r few b v k1 k2 k3))) := by
  simp only [bAsg, iP, eC, iRet, noList, if_true, gIF, List.getElem?_cons_zero, putFld, h, svO]
  rfl
theorem end_turn_ok (h : Sv r few S base i k1 k2 k3 b g true c l rows) : FI_Serving_end_turn [.obj i, .dat (.int 0)] S =
    some (.ok (.dat .none) ((S ++ [Ob.lst [], Ob.lst (ringI (decide (l.ws ≠ []))), Ob.lst (ringI (decide (l.ws ≠ [])))]).set i (svO r few b false (S.length + 2) k2 k3))) := by
  have h0 := h.s
  have h1 := h.r1
  have h2 := h.r2
  have l0 := lt_of_get h0
  have l2 := lt_of_get h2
  have f1 : ∀ rest : IR, iFld "Serving" (iVar 0) "own_ring" (some (.obj i) :: rest) S = some (.ok (.obj k1) S) := fun rest => fld_i _ _ rfl h0 rfl
  have f2 : ∀ rest : IR, iFld "Serving" (iVar 0) "own_lanes" (some (.obj i) :: rest) (S ++ [Ob.lst []]) = some (.ok (.obj k2) (S ++ [Ob.lst []])) := fun rest => fld_i _ _ rfl (by rw [List.getElem?_append_left l0]; exact h0) rfl
  have e2 : (S ++ [Ob.lst []])[k2]? = some (Ob.lst [.dat (encL c l)]) := by rw [List.getElem?_append_left l2]; exact h2
  unfold FI_Serving_end_turn runI
  simp only [List.map_cons, List.map_nil, List.length_cons, List.length_nil, List.cons_append, List.nil_append, Nat.reduceAdd, Nat.reduceSub, List.replicate]
  have e5 : ∀ R : List IV, (S ++ [Ob.lst [], Ob.lst R, Ob.lst R])[i]? = some (svO r few b g k1 k2 k3) := fun R => by rw [List.getElem?_append_left l0]; exact h0
  have st : bAsg (iTwo catGo (iFrom (iFld "Serving" (iVar 0) "own_ring") 1) (iIf (iCmpT dNe (iIx (iIx (iFld "Serving" (iVar 0) "own_lanes") (iP (eVar 1))) (iP (eC (.int 1)))) (iP (eTup aNil))) (iLst (iCons (iP (eVar 1)) iNil)) (iLst iNil))) (gIF "Serving" 0 "own_ring") [some (.obj i), some (.dat (.int 0))] S =
      some (.nx [some (.obj i), some (.dat (.int 0))] ((S ++ [Ob.lst [], Ob.lst (ringI (decide (l.ws ≠ []))), Ob.lst (ringI (decide (l.ws ≠ [])))]).set i (svO r few b g (S.length + 2) k2 k3))) := by
    by_cases hw : l.ws = []
    · have e3 : (S ++ [Ob.lst [], Ob.lst []])[S.length]? = some (Ob.lst []) := by rw [List.getElem?_append_right (by omega)]; simp
      have e4 : (S ++ [Ob.lst [], Ob.lst []])[S.length + 1]? = some (Ob.lst []) := by rw [List.getElem?_append_right (by omega)]; simp
      have e6 := e5 []
      simp [-iFld, f1, f2, h1, ringI, e2, encL, hw, e3, e4, e6, svO]
      rfl
    · have e3 : (S ++ [Ob.lst [], Ob.lst [.dat (.int 0)]])[S.length]? = some (Ob.lst []) := by rw [List.getElem?_append_right (by omega)]; simp
      have e4 : (S ++ [Ob.lst [], Ob.lst [.dat (.int 0)]])[S.length + 1]? = some (Ob.lst [.dat (.int 0)]) := by rw [List.getElem?_append_right (by omega)]; simp
      have e6 := e5 [.dat (.int 0)]
      simp [-iFld, f1, f2, h1, ringI, e2, encL, hw, e3, e4, e6, svO]
      rfl
  rw [bSeq_nx st]
  have e7 : ((S ++ [Ob.lst [], Ob.lst (ringI (decide (l.ws ≠ []))), Ob.lst (ringI (decide (l.ws ≠ [])))]).set i (svO r few b g (S.length + 2) k2 k3))[i]? = some (svO r few b g (S.length + 2) k2 k3) := by
    rw [List.getElem?_set_self (by simp; omega)]
  rw [bSeq_nx (setBegun e7 false _), List.set_set]
  rfl
end
end KW
/-! MD: a head goes; the serving goes on -/
namespace KW
open PySem PySem.Spec L2
section
variable {r : Rl} {few : Int} {S : HS} {base i k1 k2 k3 : Nat} {b : Int} {g ring : Bool} {c : Int} {l : Ln} {rows : List (Str × Int)}
theorem budgetSub (h : S[i]? = some (svO r few b g k1 k2 k3)) {f : DE} (rest : IR) (hf : f ((some (.obj i) :: rest : IR).map prj) = some (.int 1)) : bFldAug "Serving" 0 "own_budget" (fun i j => i - j) (iP f) (some (.obj i) :: rest) S = some (.nx (some (.obj i) :: rest) (S.set i (svO r few (b - 1) g k1 k2 k3))) := by
  simp only [bFldAug, List.getElem?_cons_zero, fldGo, h, svO, if_true, iP, hf, iRet, noList, putFld]
  rfl
theorem setLane (h : S[i]? = some (svO r few b g k1 k2 k3)) (h2 : S[k2]? = some (.lst [.dat (encL c l)])) {f : DE} (rest : IR) {c' : Int} {l' : Ln} (hf : f ((some (.obj i) :: some (.dat (.int 0)) :: rest : IR).map prj) = some (encL c' l')) :
    bAsg (iP f) (gIS (iFld "Serving" (iVar 0) "own_lanes") (iP (eVar 1))) (some (.obj i) :: some (.dat (.int 0)) :: rest) S = some (.nx (some (.obj i) :: some (.dat (.int 0)) :: rest) (S.set k2 (.lst [.dat (encL c' l')]))) := by
  have f1 : iFld "Serving" (iVar 0) "own_lanes" (some (.obj i) :: some (.dat (.int 0)) :: rest) S = some (.ok (.obj k2) S) := fld_i _ _ rfl h rfl
  simp only [bAsg, iP, hf, iRet, noList_encL, if_true, gIS, f1]
  simp [h2]
theorem addRow (h : S[i]? = some (svO r few b g k1 k2 k3)) (h3 : S[k3]? = some (.lst (rows.map fun p => .dat (rowD p)))) (hz : rows.length < 10000) {f : DE} (rest : IR) {p : Str × Int} (hf : f ((some (.obj i) :: rest : IR).map prj) = some (rowD p)) :
    bExp (iAppend (iFld "Serving" (iVar 0) "own_rows") (iP f)) (some (.obj i) :: rest) S = some (.nx (some (.obj i) :: rest) (S.set k3 (.lst ((rows ++ [p]).map fun p => .dat (rowD p))))) := by
  have f1 : iFld "Serving" (iVar 0) "own_rows" (some (.obj i) :: rest) S = some (.ok (.obj k3) S) := fld_i _ _ rfl h rfl
  have hn : noList (rowD p) = true := rfl
  simp only [bExp, iAppend, iBind, f1, h3, iP, hf, iRet, hn, if_true, List.length_map, hz]
  rw [List.map_append]
  rfl
theorem callEnd (h : Sv r few S base i k1 k2 k3 b g true c l rows) (rest : IR) : bExp (iMeth "Serving" "end_turn" FI_Serving_end_turn (iVar 0) (iCons (iP (eVar 1)) iNil)) (some (.obj i) :: some (.dat (.int 0)) :: rest) S =
    some (.nx (some (.obj i) :: some (.dat (.int 0)) :: rest) ((S ++ [Ob.lst [], Ob.lst (ringI (decide (l.ws ≠ []))), Ob.lst (ringI (decide (l.ws ≠ [])))]).set i (svO r few b false (S.length + 2) k2 k3))) := by
  have hi : isI "Serving" "end_turn" S (.obj i) = true := by
    simp only [isI, h.s, svO]
    rfl
  simp only [bExp, iMeth, iBind, iVar, List.getElem?_cons_zero, hi, if_true, iCons, iP, List.map_cons, prj, eVar, List.getElem?_cons_succ, iRet, noList, iNil, iRA, end_turn_ok h]
def headGo (r : Rl) (b c : Int) (l : Ln) : Int × Int :=
  let c1 := if (headL r l).1.ws = [] then 0 else c
  if (headL r l).2 = "drop" then (b, c1) else (b - 1, c1 - (if (headL r l).1.ws = [] then 0 else 1))
theorem head_goes_ok (hr : r.Ok) (hf : few ≤ 99) (hl : LnOk r few l) (hne : l.ws ≠ []) (h : Sv r few S base i k1 k2 k3 b true true c l rows) (hz : rows.length < 10000) (hb : base ≤ S.length) :
    ∃ S' k1', FI_Serving_head_goes [.obj i, .dat (.int 0)] S = some (.ok (.dat .none) S') ∧ Fr base S S' ∧
      Sv r few S' base i k1' k2 k3 (headGo r b c l).1 (decide ((headL r l).1.ws ≠ [])) (decide ((headL r l).1.ws ≠ [])) (headGo r b c l).2 (headL r l).1 (rows ++ [((headL r l).2, waitL l)]) := by
  obtain ⟨p1, p2, p3⟩ := F_head_by_ok (c := c) hr hf hl hne
  have h0 := h.s
  have h2 := h.r2
  obtain ⟨w, rest, hws⟩ : ∃ w rest, l.ws = w :: rest := by
    cases e : l.ws with
    | nil => exact absurd e hne
    | cons w rest => exact ⟨w, rest, rfl⟩
  have hwt : waitL l = w := by unfold waitL; rw [hws]
  have f1 : ∀ rest : IR, iFld "Serving" (iVar 0) "own_lanes" (some (.obj i) :: rest) S = some (.ok (.obj k2) S) := fun rest => fld_i _ _ rfl h0 rfl
  have f2 : ∀ rest : IR, iFld "Serving" (iVar 0) "own_streams" (some (.obj i) :: rest) S = some (.ok (.dat (encSs r few)) S) := fun rest => fld_i _ _ rfl h0 rfl
  -- c1
  obtain ⟨c1, hc1⟩ : ∃ c1, c1 = (if (headL r l).1.ws = [] then (0 : Int) else c) := ⟨_, rfl⟩
  rw [← hc1] at p1
  unfold FI_Serving_head_goes runI
  simp only [List.map_cons, List.map_nil, List.length_cons, List.length_nil, List.cons_append, List.nil_append, Nat.reduceAdd, Nat.reduceSub, List.replicate]
  rw [bSeq_nx (ρ' := [some (.obj i), some (.dat (.int 0)), some (.dat (.int 1)), some (.dat (.bool false)), some (.dat (.bool false)), some (.dat (.int w)), none, none, none, none]) (S' := S) (by
    simp [-iFld, f1, h2, encL, hws, encP])]
  rw [bSeq_nx (ρ' := [some (.obj i), some (.dat (.int 0)), some (.dat (.int 1)), some (.dat (.bool false)), some (.dat (.bool false)), some (.dat (.int w)), some (.dat (.int c1)), some (.dat (.tuple ((headL r l).1.ws.map encP))), some (.dat (encM (headL r l).1.mm)), some (.dat (.str (headL r l).2))]) (S' := S) (by
    have n1 := noList_encL c1 (headL r l).1
    have e1 : datsOf [IV.dat (encS r few), IV.dat (encL c l)] = some [encS r few, encL c l] := rfl
    simp only [bAsg, iCallD, iCons, iTwo, iBind, iNil, iRA]
    simp [-iFld, f1, f2, h2, encSs, p1, n1]
    simp [encL])]
  have R1 := h.setR ((headL r l).2, waitL l)
  rw [bSeq_nx (addRow h0 h.r3 hz (p := ((headL r l).2, waitL l)) _ (by simp [rowD, hwt]))]
  have Fr1 : Fr base S (S.set k3 (.lst ((rows ++ [((headL r l).2, waitL l)]).map fun p => .dat (rowD p)))) := (Fr.refl _ _).set h.b3
  obtain ⟨S1, hS1⟩ : ∃ S1, S1 = S.set k3 (.lst ((rows ++ [((headL r l).2, waitL l)]).map fun p => .dat (rowD p))) := ⟨_, rfl⟩
  rw [← hS1] at R1 Fr1 ⊢
  -- the budget, the credit
  obtain ⟨S2, e2, Fr2, R2⟩ : ∃ S2, bIf (iPT (cNe (eVar 9) (eC (.str "drop")))) (bSeq (bFldAug "Serving" 0 "own_budget" (fun i j => i - j) (iP (eVar 2))) (bSeq (bAug 6 fSub (iP (eIf (cNe (eVar 7) (eTup aNil)) (eVar 2) (eC (.int 0))))) bNil)) bNil
      [some (.obj i), some (.dat (.int 0)), some (.dat (.int 1)), some (.dat (.bool false)), some (.dat (.bool false)), some (.dat (.int w)), some (.dat (.int c1)), some (.dat (.tuple ((headL r l).1.ws.map encP))), some (.dat (encM (headL r l).1.mm)), some (.dat (.str (headL r l).2))] S1 =
      some (.nx [some (.obj i), some (.dat (.int 0)), some (.dat (.int 1)), some (.dat (.bool false)), some (.dat (.bool false)), some (.dat (.int w)), some (.dat (.int (headGo r b c l).2)), some (.dat (.tuple ((headL r l).1.ws.map encP))), some (.dat (encM (headL r l).1.mm)), some (.dat (.str (headL r l).2))] S2) ∧ Fr base S1 S2 ∧
      Sv r few S2 base i k1 k2 k3 (headGo r b c l).1 true true c l (rows ++ [((headL r l).2, waitL l)]) := by
    by_cases hd : (headL r l).2 = "drop"
    · refine ⟨S1, ?_, Fr.refl _ _, ?_⟩
      · rw [bIfF (by simp [hd])]
        simp only [headGo, if_pos hd, ← hc1, bNil]
      · simp only [headGo, if_pos hd]; exact R1
    · have hd2 : (headL r l).2 = "send" := (headL_word r l).resolve_left hd
      refine ⟨S1.set i (svO r few (b - 1) true k1 k2 k3), ?_, (Fr.refl _ _).set h.b0, ?_⟩
      · rw [bIfT (by simp [hd2]), bSeq_nx (budgetSub R1.s _ rfl)]
        simp only [headGo, if_neg hd, ← hc1]
        by_cases he : (headL r l).1.ws = []
        · simp [he]
        · simp [he]
      · simp only [headGo, if_neg hd]; exact R1.setI _ _
  rw [bSeq_nx e2]
  rw [bSeq_nx (setLane R2.s R2.r2 (c' := (headGo r b c l).2) (l' := (headL r l).1) _ (by simp [encL]))]
  have R3 := R2.setL (headGo r b c l).2 (headL r l).1
  have Fr3 : Fr base S2 (S2.set k2 (.lst [.dat (encL (headGo r b c l).2 (headL r l).1)])) := (Fr.refl _ _).set h.b2
  obtain ⟨S3, hS3⟩ : ∃ S3, S3 = S2.set k2 (.lst [.dat (encL (headGo r b c l).2 (headL r l).1)]) := ⟨_, rfl⟩
  rw [← hS3] at R3 Fr3 ⊢
  have FrA := (Fr1.trans Fr2).trans Fr3
  by_cases he : (headL r l).1.ws = []
  · rw [bSeq_nx (ρ' := _) (S' := _) (by
      rw [bIfT (by simp [he]), bSeq_nx (callEnd R3 _)]
      rfl)]
    have hb3 : base ≤ S3.length := Nat.le_trans hb FrA.len
    refine ⟨_, S3.length + 2, rfl, (FrA.app hb).set h.b0, ?_⟩
    have := R3.newR [] (ringI (decide ((headL r l).1.ws ≠ []))) (decide ((headL r l).1.ws ≠ [])) false hb3
    simp only [he, ne_eq, not_true_eq_false, decide_false] at this ⊢
    exact this
  · rw [bSeq_nx (ρ' := _) (S' := _) (by
      rw [bIfF (by simp [he])]
      rfl)]
    refine ⟨_, k1, rfl, FrA, ?_⟩
    simp only [he, ne_eq, not_false_eq_true, decide_true]
    exact R3
end
end KW
/-! ME: the serving goes on -/
namespace KW
open PySem PySem.Spec L2
@[simp] theorem dEq_l1 : dEq (.list [.int 0]) (.list []) = some false := by decide +kernel
@[simp] theorem dNe_l1 : dNe (.list [.int 0]) (.list []) = some true := by decide +kernel
section
variable {r : Rl} {few : Int} {S : HS} {base i k1 k2 k3 : Nat} {b : Int} {g ring : Bool} {c : Int} {l : Ln} {rows : List (Str × Int)}
theorem asD_ring (h : S[k1]? = some (.lst (ringI ring))) : asD S (.obj k1) = some (.list (if ring = true then [.int 0] else [])) := by
  simp only [asD, h]
  cases ring <;> rfl
/-- own_ring == [] -/
theorem ringEq (h : Sv r few S base i k1 k2 k3 b g ring c l rows) (rest : IR) : iCmpT dEq (iFld "Serving" (iVar 0) "own_ring") (iLst iNil) (some (.obj i) :: rest) S = some (.ok (!ring) (S ++ [.lst []])) := by
  have f1 : iFld "Serving" (iVar 0) "own_ring" (some (.obj i) :: rest) S = some (.ok (.obj k1) S) := fld_i _ _ rfl h.s rfl
  have e1 : (S ++ [Ob.lst []])[k1]? = some (.lst (ringI ring)) := by rw [List.getElem?_append_left (lt_of_get h.r1)]; exact h.r1
  have e2 := asD_ring e1
  have e3 : asD (S ++ [Ob.lst []]) (.obj S.length) = some (.list []) := by simp [asD]
  simp only [iTwo, iBind, f1, iLst, iNil, dCmpT, e2, e3]
  cases ring <;> simp
theorem callMeth {m : Str} {Fn : List IV → HS → Option (Io IV)} {S' : HS} (h : Sv r few S base i k1 k2 k3 b g ring c l rows) (rest : IR) (hm : ([("own_streams", .dat (encSs r few)), ("own_budget", .dat (.int b)), ("own_begun", .dat (.bool g)), ("own_ring", .obj k1), ("own_lanes", .obj k2), ("own_rows", .obj k3)] : List (Str × IV)).lookup m = none)
    (hf : Fn [.obj i, .dat (.int 0)] S = some (.ok (.dat .none) S')) : bExp (iMeth "Serving" m Fn (iVar 0) (iCons (iP (eVar 1)) iNil)) (some (.obj i) :: some (.dat (.int 0)) :: rest) S = some (.nx (some (.obj i) :: some (.dat (.int 0)) :: rest) S') := by
  have hi : isI "Serving" m S (.obj i) = true := by
    simp only [isI, h.s, svO, hm]
    rfl
  simp only [bExp, iMeth, iBind, iVar, List.getElem?_cons_zero, hi, if_true, iCons, iP, List.map_cons, prj, eVar, List.getElem?_cons_succ, iRet, noList, iNil, iRA, hf]
/-- the part behind the turn's begin -/
abbrev goB : IB := (bSeq (bAsg (iIx (iIx (iIx (iIx (iFld "Serving" (iVar 0) "own_lanes") (iP (eVar 1))) (iP (eC (.int 1)))) (iP (eC (.int 0)))) (iP (eC (.int 0)))) (gIN 2)) (bSeq (bIf (iCmpT iGt (iP (eVar 2)) (iIx (iIx (iFld "Serving" (iVar 0) "own_lanes") (iP (eVar 1))) (iP (eC (.int 0))))) (bSeq (bExp (iMeth "Serving" "end_turn" FI_Serving_end_turn (iVar 0) (iCons (iP (eVar 1)) iNil))) bNil) (bSeq (bIf (iCmpT iGt (iP (eVar 2)) (iFld "Serving" (iVar 0) "own_budget")) (bSeq (bRet (iP (eC (.bool false)))) bNil) (bSeq (bExp (iMeth "Serving" "head_goes" FI_Serving_head_goes (iVar 0) (iCons (iP (eVar 1)) iNil))) bNil)) bNil)) (bSeq (bRet (iP (eC (.bool true)))) bNil)))
theorem goB_ok (hr : r.Ok) (hf : few ≤ 99) (hl : LnOk r few l) (hne : l.ws ≠ []) (h : Sv r few S base i k1 k2 k3 b true true c l rows) (hz : rows.length < 10000) (hb : base ≤ S.length) :
    ∃ S' k1', Fr base S S' ∧
      ((1 > c ∧ goB [some (.obj i), some (.dat (.int 0)), none] S = some (.rt (.dat (.bool true)) S') ∧ Sv r few S' base i k1' k2 k3 b false true c l rows) ∨
       (¬ 1 > c ∧ 1 > b ∧ goB [some (.obj i), some (.dat (.int 0)), none] S = some (.rt (.dat (.bool false)) S') ∧ Sv r few S' base i k1' k2 k3 b true true c l rows) ∨
       (¬ 1 > c ∧ ¬ 1 > b ∧ goB [some (.obj i), some (.dat (.int 0)), none] S = some (.rt (.dat (.bool true)) S') ∧
         Sv r few S' base i k1' k2 k3 (headGo r b c l).1 (decide ((headL r l).1.ws ≠ [])) (decide ((headL r l).1.ws ≠ [])) (headGo r b c l).2 (headL r l).1 (rows ++ [((headL r l).2, waitL l)]))) := by
  have h0 := h.s
  have h2 := h.r2
  obtain ⟨w, rest, hws⟩ : ∃ w rest, l.ws = w :: rest := by
    cases e : l.ws with
    | nil => exact absurd e hne
    | cons w rest => exact ⟨w, rest, rfl⟩
  have f1 : ∀ rest : IR, iFld "Serving" (iVar 0) "own_lanes" (some (.obj i) :: rest) S = some (.ok (.obj k2) S) := fun rest => fld_i _ _ rfl h0 rfl
  have f2 : ∀ rest : IR, iFld "Serving" (iVar 0) "own_budget" (some (.obj i) :: rest) S = some (.ok (.dat (.int b)) S) := fun rest => fld_i _ _ rfl h0 rfl
  have s1 : bAsg (iIx (iIx (iIx (iIx (iFld "Serving" (iVar 0) "own_lanes") (iP (eVar 1))) (iP (eC (.int 1)))) (iP (eC (.int 0)))) (iP (eC (.int 0)))) (gIN 2) [some (.obj i), some (.dat (.int 0)), none] S = some (.nx [some (.obj i), some (.dat (.int 0)), some (.dat (.int 1))] S) := by
    simp [-iFld, f1, h2, encL, hws, encP]
  have s2 : iCmpT iGt (iP (eVar 2)) (iIx (iIx (iFld "Serving" (iVar 0) "own_lanes") (iP (eVar 1))) (iP (eC (.int 0)))) [some (.obj i), some (.dat (.int 0)), some (.dat (.int 1))] S = some (.ok (decide (1 > c)) S) := by
    simp [-iFld, f1, h2, encL]
  have s3 : iCmpT iGt (iP (eVar 2)) (iFld "Serving" (iVar 0) "own_budget") [some (.obj i), some (.dat (.int 0)), some (.dat (.int 1))] S = some (.ok (decide (1 > b)) S) := by
    simp [-iFld, f2]
  unfold goB
  rw [bSeq_nx s1]
  by_cases hc : 1 > c
  · have he := h.newR [] (ringI (decide (l.ws ≠ []))) (decide (l.ws ≠ [])) false hb
    refine ⟨(S ++ [Ob.lst [], Ob.lst (ringI (decide (l.ws ≠ []))), Ob.lst (ringI (decide (l.ws ≠ [])))]).set i (svO r few b false (S.length + 2) k2 k3), S.length + 2, ((Fr.refl _ _).app hb).set h.b0, .inl ⟨hc, ?_, ?_⟩⟩
    · have s4 := callEnd h [some (.dat (.int 1))]
      have s5 := bSeq_nx (v := bNil) s4
      simp only [bSeq, bIf, s2, hc, decide_true, s4, bNil]
      simp
    · simp only [hne, ne_eq, not_false_eq_true, decide_true] at he ⊢
      exact he
  · by_cases hbb : 1 > b
    · refine ⟨S, k1, Fr.refl _ _, .inr (.inl ⟨hc, hbb, ?_, h⟩)⟩
      simp only [bSeq, bIf, s2, hc, decide_false, s3, hbb, decide_true]
      simp
    · obtain ⟨S', k1', e1, e2, e3⟩ := head_goes_ok hr hf hl hne h hz hb
      refine ⟨S', k1', e2, .inr (.inr ⟨hc, hbb, ?_, e3⟩)⟩
      have s4 := callMeth h [some (.dat (.int 1))] (m := "head_goes") rfl e1
      simp only [bSeq, bIf, s2, hc, decide_false, s3, hbb, s4, bNil]
      simp
/-- the credit as the turn has begun -/
def cr0 (g : Bool) (c : Int) : Int := if g = true then c else c + 9
theorem goes_on_0 (h : Sv r few S base i k1 k2 k3 b g false c l rows) : FI_Serving_goes_on [.obj i] S = some (.ok (.dat (.bool false)) (S ++ [.lst []])) := by
  unfold FI_Serving_goes_on runI
  simp only [List.map_cons, List.map_nil, List.length_cons, List.length_nil, List.cons_append, List.nil_append, Nat.reduceAdd, Nat.reduceSub, List.replicate]
  rw [bSeq_rt (S' := S ++ [.lst []]) (x := .dat (.bool false)) (by
    simp only [bIf, ringEq h, Bool.not_false]
    simp)]
theorem goes_on_ok (hr : r.Ok) (hf : few ≤ 99) (hl : LnOk r few l) (hne : l.ws ≠ []) (h : Sv r few S base i k1 k2 k3 b g true c l rows) (hz : rows.length < 10000) (hb : base ≤ S.length) :
    ∃ S' k1', Fr base S S' ∧
      ((1 > cr0 g c ∧ FI_Serving_goes_on [.obj i] S = some (.ok (.dat (.bool true)) S') ∧ Sv r few S' base i k1' k2 k3 b false true (cr0 g c) l rows) ∨
       (¬ 1 > cr0 g c ∧ 1 > b ∧ FI_Serving_goes_on [.obj i] S = some (.ok (.dat (.bool false)) S') ∧ Sv r few S' base i k1' k2 k3 b true true (cr0 g c) l rows) ∨
       (¬ 1 > cr0 g c ∧ ¬ 1 > b ∧ FI_Serving_goes_on [.obj i] S = some (.ok (.dat (.bool true)) S') ∧
         Sv r few S' base i k1' k2 k3 (headGo r b (cr0 g c) l).1 (decide ((headL r l).1.ws ≠ [])) (decide ((headL r l).1.ws ≠ [])) (headGo r b (cr0 g c) l).2 (headL r l).1 (rows ++ [((headL r l).2, waitL l)]))) := by
  have hA := h.app [.lst []]
  have FrA : Fr base S (S ++ [Ob.lst []]) := (Fr.refl _ _).app hb
  have f1 : ∀ rest : IR, iFld "Serving" (iVar 0) "own_ring" (some (.obj i) :: rest) (S ++ [.lst []]) = some (.ok (.obj k1) (S ++ [.lst []])) := fun rest => fld_i _ _ rfl hA.s rfl
  have f2 : ∀ rest : IR, iFld "Serving" (iVar 0) "own_begun" (some (.obj i) :: rest) (S ++ [.lst []]) = some (.ok (.dat (.bool g)) (S ++ [.lst []])) := fun rest => fld_i _ _ rfl hA.s rfl
  have s0 : bIf (iCmpT dEq (iFld "Serving" (iVar 0) "own_ring") (iLst iNil)) (bSeq (bRet (iP (eC (.bool false)))) bNil) bNil [some (.obj i), none, none] S = some (.nx [some (.obj i), none, none] (S ++ [.lst []])) := by
    simp only [bIf, ringEq h, Bool.not_true, bNil]
  have s1 : bAsg (iIx (iFld "Serving" (iVar 0) "own_ring") (iP (eC (.int 0)))) (gIN 1) [some (.obj i), none, none] (S ++ [.lst []]) = some (.nx [some (.obj i), some (.dat (.int 0)), none] (S ++ [.lst []])) := by
    simp [-iFld, f1, hA.r1, ringI]
  -- the turn begins
  obtain ⟨S1, s2, Fr1, h1⟩ : ∃ S1, bIf (iNot (iValT (iFld "Serving" (iVar 0) "own_begun"))) (bSeq (bExp (iMeth "Serving" "begin_turn" FI_Serving_begin_turn (iVar 0) (iCons (iP (eVar 1)) iNil))) bNil) bNil [some (.obj i), some (.dat (.int 0)), none] (S ++ [.lst []]) =
      some (.nx [some (.obj i), some (.dat (.int 0)), none] S1) ∧ Fr base S S1 ∧ Sv r few S1 base i k1 k2 k3 b true true (cr0 g c) l rows := by
    cases g with
    | true =>
      refine ⟨_, ?_, FrA, hA⟩
      simp [-iFld, f2]
    | false =>
      have s4 := callMeth hA [none] (m := "begin_turn") rfl (begin_turn_ok hA)
      refine ⟨_, ?_, (FrA.set h.b2).set h.b0, ((hA.setL (c + 9) l).setI b true)⟩
      simp only [bIf, iNot, iValT, iBind, f2, Bool.not_false, bSeq, s4, bNil]
  have hb1 : base ≤ S1.length := Nat.le_trans hb Fr1.len
  obtain ⟨S', k1', Fr2, hh⟩ := goB_ok hr hf hl hne h1 hz hb1
  have fin : ∀ o, goB [some (.obj i), some (.dat (.int 0)), none] S1 = some (.rt (.dat (.bool o)) S') → FI_Serving_goes_on [.obj i] S = some (.ok (.dat (.bool o)) S') := fun o e => by
    unfold FI_Serving_goes_on runI
    simp only [List.map_cons, List.map_nil, List.length_cons, List.length_nil, List.cons_append, List.nil_append, Nat.reduceAdd, Nat.reduceSub, List.replicate]
    rw [bSeq_nx s0, bSeq_nx s1, bSeq_nx s2]
    rw [show bSeq _ _ _ _ = _ from e]
  refine ⟨S', k1', Fr1.trans Fr2, ?_⟩
  rcases hh with ⟨a, e, s⟩ | ⟨a, b', e, s⟩ | ⟨a, b', e, s⟩
  · exact .inl ⟨a, fin _ e, s⟩
  · exact .inr (.inl ⟨a, b', fin _ e, s⟩)
  · exact .inr (.inr ⟨a, b', fin _ e, s⟩)
end
end KW
/-! MF: served_by -/
namespace KW
open PySem PySem.Spec L2
def serveR (r : Rl) : Nat → Ln → List (Str × Int)
  | 0, _ => []
  | n + 1, l => if l.ws = [] then [] else if (headL r l).2 = "drop" then ((headL r l).2, waitL l) :: serveR r n (headL r l).1 else [((headL r l).2, waitL l)]
theorem serveR_fst (r : Rl) : ∀ (n : Nat) (l : Ln), (serveR r n l).map Prod.fst = (serve r n l).2.1
  | 0, l => rfl
  | n + 1, l => by
    unfold serveR serve
    by_cases he : l.ws = []
    · simp [he]
    · by_cases hd : (headL r l).2 = "drop"
      · simp only [if_neg he, if_pos hd, List.map_cons, serveR_fst r n]
      · simp only [if_neg he, if_neg hd, List.map_cons, List.map_nil]
theorem serveR_len (r : Rl) (n : Nat) (l : Ln) : (serveR r n l).length = (serve r n l).2.1.length := by rw [← serveR_fst, List.length_map]
abbrev svB : IB := (bSeq (bAsg (iMeth "Serving" "goes_on" FI_Serving_goes_on (iVar 3) iNil) (gIN 4)) bNil)
abbrev svT : IX Bool := iPT (cVal (eVar 4))
section
variable {r : Rl} {few : Int} {S : HS} {base i k1 k2 k3 : Nat} {b : Int} {g ring : Bool} {c : Int} {l : Ln} {rows : List (Str × Int)} {x0 x1 x2 : Option IV}
theorem svB_ok {o : Bool} {S' : HS} (h : Sv r few S base i k1 k2 k3 b g ring c l rows) (e : FI_Serving_goes_on [.obj i] S = some (.ok (.dat (.bool o)) S')) :
    svB [x0, x1, x2, some (.obj i), some (.dat (.bool true))] S = some (.nx [x0, x1, x2, some (.obj i), some (.dat (.bool o))] S') := by
  have hi : isI "Serving" "goes_on" S (.obj i) = true := by
    simp only [isI, h.s, svO]
    rfl
  simp only [svB, bSeq, bAsg, iMeth, iBind, iVar, List.getElem?_cons_zero, List.getElem?_cons_succ, hi, if_true, iNil, e, gIN, List.set_cons_succ, List.set_cons_zero, bNil]
theorem svT_at {o : Bool} {x3 : Option IV} : svT [x0, x1, x2, x3, some (.dat (.bool o))] S = some (.ok o S) := by simp
theorem sv_stop (N : Nat) {x3 : Option IV} : bWhile (N + 1) svT svB [x0, x1, x2, x3, some (.dat (.bool false))] S = some (.nx [x0, x1, x2, x3, some (.dat (.bool false))] S) := by
  unfold bWhile
  rw [svT_at]
theorem sv_go {o : Bool} {S' : HS} {res : IOut} (N : Nat) (h : Sv r few S base i k1 k2 k3 b g ring c l rows) (e : FI_Serving_goes_on [.obj i] S = some (.ok (.dat (.bool o)) S'))
    (e2 : bWhile N svT svB [x0, x1, x2, some (.obj i), some (.dat (.bool o))] S' = some res) : bWhile (N + 1) svT svB [x0, x1, x2, some (.obj i), some (.dat (.bool true))] S = some res := by
  unfold bWhile
  rw [svT_at]
  simp only
  rw [svB_ok h e]
  exact e2
/-- nothing waits -/
theorem sv_loop0 (N : Nat) (h : Sv r few S base i k1 k2 k3 b g false c l rows) : bWhile (N + 2) svT svB [x0, x1, x2, some (.obj i), some (.dat (.bool true))] S = some (.nx [x0, x1, x2, some (.obj i), some (.dat (.bool false))] (S ++ [.lst []])) :=
  sv_go (N + 1) h (goes_on_0 h) (sv_stop N)
/-- no budget is left -/
theorem sv_loopB (hr : r.Ok) (hf : few ≤ 99) (hl : LnOk r few l) (hne : l.ws ≠ []) (N : Nat) (h : Sv r few S base i k1 k2 k3 b g true c l rows) (hz : rows.length < 10000) (hb : base ≤ S.length) (h0 : 1 > b) (hc : 0 ≤ c) :
    ∃ S' k1' c', Fr base S S' ∧ 0 ≤ c' ∧ bWhile (N + 3) svT svB [x0, x1, x2, some (.obj i), some (.dat (.bool true))] S = some (.nx [x0, x1, x2, some (.obj i), some (.dat (.bool false))] S') ∧ Sv r few S' base i k1' k2 k3 b true true c' l rows := by
  obtain ⟨S1, q1, Fr1, hh⟩ := goes_on_ok hr hf hl hne h hz hb
  rcases hh with ⟨a, e, s⟩ | ⟨a, b', e, s⟩ | ⟨a, b', e, s⟩
  · have hb1 : base ≤ S1.length := Nat.le_trans hb Fr1.len
    obtain ⟨S2, q2, Fr2, hh⟩ := goes_on_ok hr hf hl hne s hz hb1
    have c1 : 0 ≤ cr0 g c := by unfold cr0; split <;> omega
    have c2 : ¬ 1 > cr0 false (cr0 g c) := by simp only [cr0, Bool.false_eq_true, if_false] at *; omega
    rcases hh with ⟨a2, _⟩ | ⟨_, _, e2, s2⟩ | ⟨_, b2, _⟩
    · exact absurd a2 c2
    · exact ⟨S2, q2, _, Fr1.trans Fr2, by omega, sv_go (N + 2) h e (sv_go (N + 1) s e2 (sv_stop N)), s2⟩
    · exact absurd h0 b2
  · exact ⟨S1, q1, _, Fr1, by omega, sv_go (N + 2) h e (sv_stop (N + 1)), s⟩
  · exact absurd h0 b'
/-- how a serving ends -/
def EndOk (b' : Int) (g' ring' : Bool) (c' : Int) (l' : Ln) : Prop := ring' = decide (l'.ws ≠ []) ∧ 0 ≤ c' ∧ (l'.ws ≠ [] → b' = 0) ∧ (l'.ws = [] → g' = false ∧ c' = 0)
theorem headL_nil {r : Rl} {l : Ln} (h : (headL r l).1.ws = []) (c b : Int) : (headGo r b c l).2 = 0 := by
  unfold headGo
  simp only [h, if_true]
  split <;> rfl
theorem sv_loop1 (hr : r.Ok) (hf : few ≤ 99) : ∀ (n : Nat) (N : Nat) (S : HS) (k1 : Nat) (g : Bool) (c : Int) (l : Ln) (rows : List (Str × Int)), l.ws.length = n → 2 * n + 6 ≤ N → LnOk r few l → l.ws ≠ [] → 0 ≤ c → rows.length + n < 10000 → base ≤ S.length →
    Sv r few S base i k1 k2 k3 1 g true c l rows →
    ∃ S' k1' b' g' ring' c', Fr base S S' ∧ EndOk b' g' ring' c' (serve r n l).1 ∧ bWhile N svT svB [x0, x1, x2, some (.obj i), some (.dat (.bool true))] S = some (.nx [x0, x1, x2, some (.obj i), some (.dat (.bool false))] S') ∧
      Sv r few S' base i k1' k2 k3 b' g' ring' c' (serve r n l).1 (rows ++ serveR r n l)
  | 0, N, S, k1, g, c, l, rows, hn, hN, hl, hne, hc, hz, hb, h => absurd (List.length_eq_zero_iff.mp hn) hne
  | n + 1, N, S, k1, g, c, l, rows, hn, hN, hl, hne, hc, hz, hb, h => by
    -- the head goes, from a state with enough credit
    have key : ∀ (N : Nat) (S : HS) (k1 : Nat) (g : Bool) (c : Int), 2 * n + 6 + 1 ≤ N → base ≤ S.length → Sv r few S base i k1 k2 k3 1 g true c l rows → ¬ 1 > cr0 g c →
        ∃ S' k1' b' g' ring' c', Fr base S S' ∧ EndOk b' g' ring' c' (serve r (n + 1) l).1 ∧ bWhile N svT svB [x0, x1, x2, some (.obj i), some (.dat (.bool true))] S = some (.nx [x0, x1, x2, some (.obj i), some (.dat (.bool false))] S') ∧
          Sv r few S' base i k1' k2 k3 b' g' ring' c' (serve r (n + 1) l).1 (rows ++ serveR r (n + 1) l) := by
      intro N S k1 g c hN hb h hcr
      obtain ⟨N, rfl⟩ : ∃ M, N = M + 1 := ⟨N - 1, by omega⟩
      obtain ⟨S1, q1, Fr1, hh⟩ := goes_on_ok hr hf hl hne h (by omega) hb
      rcases hh with ⟨a, _⟩ | ⟨_, b', _⟩ | ⟨_, _, e, s⟩
      · exact absurd a hcr
      · exact absurd b' (by decide)
      · have hb1 : base ≤ S1.length := Nat.le_trans hb Fr1.len
        obtain ⟨_, hl2, hlen⟩ := F_head_by_ok (c := 0) hr hf hl hne
        have hd0 : (decide ((headL r l).1.ws ≠ [])) = true ∨ (headL r l).1.ws = [] := by
          by_cases he : (headL r l).1.ws = []
          · exact .inr he
          · exact .inl (by simp [he])
        by_cases hd : (headL r l).2 = "drop"
        · have eS : (serve r (n + 1) l).1 = (serve r n (headL r l).1).1 := by simp only [serve, if_neg hne, if_pos hd]
          have eR : serveR r (n + 1) l = ((headL r l).2, waitL l) :: serveR r n (headL r l).1 := by simp only [serveR, if_neg hne, if_pos hd]
          have hg1 : (headGo r 1 (cr0 g c) l).1 = 1 := by simp only [headGo, if_pos hd]
          rw [hg1] at s
          by_cases he : (headL r l).1.ws = []
          · -- the lane is empty
            have hn0 : n = 0 := by rw [he] at hlen; simp at hlen; omega
            subst hn0
            have s' := s
            simp only [he, ne_eq, not_true_eq_false, decide_false] at s'
            obtain ⟨N, rfl⟩ : ∃ M, N = M + 2 := ⟨N - 2, by omega⟩
            refine ⟨_, q1, 1, false, false, (headGo r 1 (cr0 g c) l).2, Fr1.trans ((Fr.refl _ _).app hb1), ?_, sv_go (N + 2) h e (sv_loop0 N s'), ?_⟩
            · rw [eS]
              simp only [serve]
              exact ⟨by simp [he], by rw [headL_nil he]; exact Int.le_refl _, fun z => absurd he z, fun _ => ⟨rfl, headL_nil he _ _⟩⟩
            · rw [eS, eR]
              simp only [serve, serveR]
              exact s'.app _
          · have s' := s
            simp only [he, ne_eq, not_false_eq_true, decide_true] at s'
            have hc2 : 0 ≤ (headGo r 1 (cr0 g c) l).2 := by simp only [headGo, if_pos hd, if_neg he]; omega
            obtain ⟨S2, q2, b2, g2, ring2, c2, Fr2, E2, w2, s2⟩ := sv_loop1 hr hf n N S1 q1 true (headGo r 1 (cr0 g c) l).2 (headL r l).1 (rows ++ [((headL r l).2, waitL l)]) (by omega) (by omega) hl2 he hc2 (by simp; omega) hb1 s'
            refine ⟨S2, q2, b2, g2, ring2, c2, Fr1.trans Fr2, by rw [eS]; exact E2, sv_go N h e w2, ?_⟩
            rw [eS, eR]
            simpa using s2
        · have eS : (serve r (n + 1) l).1 = (headL r l).1 := by simp only [serve, if_neg hne, if_neg hd]
          have eR : serveR r (n + 1) l = [((headL r l).2, waitL l)] := by simp only [serveR, if_neg hne, if_neg hd]
          have hg1 : (headGo r 1 (cr0 g c) l).1 = 0 := by simp only [headGo, if_neg hd]; rfl
          rw [hg1] at s
          rw [eS, eR]
          by_cases he : (headL r l).1.ws = []
          · have s' := s
            simp only [he, ne_eq, not_true_eq_false, decide_false] at s'
            obtain ⟨N, rfl⟩ : ∃ M, N = M + 2 := ⟨N - 2, by omega⟩
            refine ⟨_, q1, 0, false, false, (headGo r 1 (cr0 g c) l).2, Fr1.trans ((Fr.refl _ _).app hb1), ?_, sv_go (N + 2) h e (sv_loop0 N s'), s'.app _⟩
            exact ⟨by simp [he], by rw [headL_nil he]; exact Int.le_refl _, fun z => absurd he z, fun _ => ⟨rfl, headL_nil he _ _⟩⟩
          · have s' := s
            simp only [he, ne_eq, not_false_eq_true, decide_true] at s'
            have hc2 : 0 ≤ (headGo r 1 (cr0 g c) l).2 := by simp only [headGo, if_neg hd, if_neg he]; omega
            obtain ⟨N, rfl⟩ : ∃ M, N = M + 3 := ⟨N - 3, by omega⟩
            obtain ⟨S2, q2, c2, Fr2, hc3, w2, s2⟩ := sv_loopB (x0 := x0) (x1 := x1) (x2 := x2) hr hf hl2 he N s' (by simp; omega) hb1 (by decide) hc2
            exact ⟨S2, q2, 0, true, true, c2, Fr1.trans Fr2, ⟨by simp [he], hc3, fun _ => rfl, fun z => absurd z he⟩, sv_go (N + 3) h e w2, s2⟩
    by_cases hcr : 1 > cr0 g c
    · obtain ⟨N, rfl⟩ : ∃ M, N = M + 1 := ⟨N - 1, by omega⟩
      obtain ⟨S1, q1, Fr1, hh⟩ := goes_on_ok hr hf hl hne h (by omega) hb
      rcases hh with ⟨_, e, s⟩ | ⟨a, _⟩ | ⟨a, _⟩
      · have c1 : 0 ≤ cr0 g c := by unfold cr0; split <;> omega
        obtain ⟨S2, q2, b2, g2, ring2, c2, Fr2, E2, w2, s2⟩ := key N S1 q1 false (cr0 g c) (by omega) (Nat.le_trans hb Fr1.len) s (by simp only [cr0, Bool.false_eq_true, if_false] at *; omega)
        exact ⟨S2, q2, b2, g2, ring2, c2, Fr1.trans Fr2, E2, sv_go N h e w2, s2⟩
      · exact absurd hcr a
      · exact absurd hcr a
    · exact key N S k1 g c (by omega) hb h hcr
end
end KW
/-! MG: served_by, whole -/
namespace KW
open PySem PySem.Spec L2
def ringZ (l : Ln) : List Int := if l.ws = [] then [] else [0]
theorem at_ap {S T : HS} (n : Nat) : (S ++ T)[S.length + n]? = T[n]? := by rw [List.getElem?_append_right (by omega)]; congr 1; omega
theorem at_ap0 {S T : HS} : (S ++ T)[S.length]? = T[0]? := by rw [List.getElem?_append_right (by omega)]; congr 1; omega
theorem set_ap {S T : HS} {x : Ob} (n : Nat) : (S ++ T).set (S.length + n) x = S ++ T.set n x := by
  rw [List.set_append, if_neg (by omega)]
  congr 2
  omega
theorem set_ap0 {S T : HS} {x : Ob} : (S ++ T).set S.length x = S ++ T.set 0 x := by
  rw [List.set_append, if_neg (by omega)]
  congr 2
  omega
theorem noList_encSs (r : Rl) (few : Int) : noList (encSs r few) = true := by simp [encSs, noList_encS]
theorem noLists_ints' : ∀ ns : List Int, noLists (ns.map PyData.int) = true
  | [] => rfl
  | n :: ns => by simp [noLists_ints' ns]
theorem noList_encSt (b : Int) (g : Bool) (ring : List Int) (c : Int) (l : Ln) : noList (encSt b g ring c l) = true := by simp [encSt, noLists_ints', noList_encL]
theorem lk_ring (x : IV) (b : Int) (g : Bool) (k1 k2 k3 : IV) : List.lookup ("own_ring" : Str) [(("own_streams" : Str), x), ("own_budget", .dat (.int b)), ("own_begun", .dat (.bool g)), ("own_ring", k1), ("own_lanes", k2), ("own_rows", k3)] = some k1 := rfl
theorem lk_budget (x : IV) (b : Int) (g : Bool) (k1 k2 k3 : IV) : List.lookup ("own_budget" : Str) [(("own_streams" : Str), x), ("own_budget", .dat (.int b)), ("own_begun", .dat (.bool g)), ("own_ring", k1), ("own_lanes", k2), ("own_rows", k3)] = some (.dat (.int b)) := rfl
theorem Serving_init_ok {r : Rl} {few c : Int} {g : Bool} {l : Ln} (S : HS) :
    FI_Serving_init [.obj S.length, .dat (encSs r few), .dat (.int 1), .dat (encSt 0 g (ringZ l) c l)] (S ++ [.ins "Serving" []]) =
      some (.ok (.dat .none) (S ++ [svO r few (if l.ws = [] then 0 else 1) g (S.length + 1) (S.length + 2) (S.length + 3), .lst (ringI (decide (l.ws ≠ []))), .lst [.dat (encL c l)], .lst [], .lst []])) := by
  have n1 := noList_encSs r few
  have n2 := noList_encL c l
  by_cases hw : l.ws = []
  · unfold FI_Serving_init runI
    simp only [List.map_cons, List.map_nil, List.length_cons, List.length_nil, List.cons_append, List.nil_append, Nat.reduceAdd, Nat.reduceSub, List.replicate]
    simp (decide := true) [n1, n2, encSt, ringZ, hw, at_ap, at_ap0, set_ap, set_ap0, svO, ringI, lk_ring, lk_budget]
  · unfold FI_Serving_init runI
    simp only [List.map_cons, List.map_nil, List.length_cons, List.length_nil, List.cons_append, List.nil_append, Nat.reduceAdd, Nat.reduceSub, List.replicate]
    simp (decide := true) [n1, n2, encSt, ringZ, hw, at_ap, at_ap0, set_ap, set_ap0, svO, ringI, lk_ring, lk_budget]
section
variable {r : Rl} {few : Int} {S : HS} {base i k1 k2 k3 : Nat} {b : Int} {g ring : Bool} {c : Int} {l : Ln} {rows : List (Str × Int)}
theorem ringNe (h : Sv r few S base i k1 k2 k3 b g ring c l rows) (rest : IR) : iCmpT dNe (iFld "Serving" (iVar 0) "own_ring") (iLst iNil) (some (.obj i) :: rest) S = some (.ok ring (S ++ [.lst []])) := by
  have f1 : iFld "Serving" (iVar 0) "own_ring" (some (.obj i) :: rest) S = some (.ok (.obj k1) S) := fld_i _ _ rfl h.s rfl
  have e1 : (S ++ [Ob.lst []])[k1]? = some (.lst (ringI ring)) := by rw [List.getElem?_append_left (lt_of_get h.r1)]; exact h.r1
  have e2 := asD_ring e1
  have e3 : asD (S ++ [Ob.lst []]) (.obj S.length) = some (.list []) := by simp [asD]
  simp only [iTwo, iBind, f1, iLst, iNil, dCmpT, e2, e3]
  cases ring <;> simp
theorem stands_ok (h : Sv r few S base i k1 k2 k3 b g ring c l rows) : FI_Serving_stands [.obj i] S = some (.ok (.dat (encSt (if ring = true then b else 0) g (if ring = true then [0] else []) c l)) (S ++ [.lst []])) := by
  have hA := h.app [.lst []]
  have f1 : ∀ rest : IR, iFld "Serving" (iVar 0) "own_budget" (some (.obj i) :: rest) (S ++ [.lst []]) = some (.ok (.dat (.int b)) (S ++ [.lst []])) := fun rest => fld_i _ _ rfl hA.s rfl
  have f2 : ∀ rest : IR, iFld "Serving" (iVar 0) "own_begun" (some (.obj i) :: rest) (S ++ [.lst []]) = some (.ok (.dat (.bool g)) (S ++ [.lst []])) := fun rest => fld_i _ _ rfl hA.s rfl
  have f3 : ∀ rest : IR, iFld "Serving" (iVar 0) "own_ring" (some (.obj i) :: rest) (S ++ [.lst []]) = some (.ok (.obj k1) (S ++ [.lst []])) := fun rest => fld_i _ _ rfl hA.s rfl
  have f4 : ∀ rest : IR, iFld "Serving" (iVar 0) "own_lanes" (some (.obj i) :: rest) (S ++ [.lst []]) = some (.ok (.obj k2) (S ++ [.lst []])) := fun rest => fld_i _ _ rfl hA.s rfl
  unfold FI_Serving_stands runI
  simp only [List.map_cons, List.map_nil, List.length_cons, List.length_nil, List.cons_append, List.nil_append, Nat.reduceAdd, Nat.reduceSub, List.replicate]
  rw [bSeq_nx (ρ' := [some (.obj i), some (.dat (.int (if ring = true then b else 0)))]) (S' := S ++ [.lst []]) (by
    have e := ringNe h [none]
    simp only [bAsg, iIf, iBind]
    rw [e]
    cases ring <;> simp [-iFld, f1])]
  have r1 := hA.r1
  have r2 := hA.r2
  cases ring <;> simp [-iFld, bRet, f2, f3, f4, r1, r2, ringI, encSt]
theorem noLists_rows : ∀ rows : List (Str × Int), noLists (rows.map rowD) = true
  | [] => rfl
  | p :: rows => by simp [noLists_rows rows, rowD]
theorem datsOf_rows : ∀ rows : List (Str × Int), datsOf (rows.map fun p => IV.dat (rowD p)) = some (rows.map rowD)
  | [] => rfl
  | p :: rows => by simp [datsOf_rows rows]
theorem served_ok (hr : r.Ok) (hf : few ≤ 99) (hl : LnOk r few l) (hc : 0 ≤ c) (h0 : l.ws = [] → g = false ∧ c = 0) (S : HS) :
    ∃ S' g' c', Fr S.length S S' ∧ 0 ≤ c' ∧ ((serve r l.ws.length l).1.ws = [] → g' = false ∧ c' = 0) ∧
      FI_served_by [.dat (encSs r few), .dat (.int 1), .dat (encSt 0 g (ringZ l) c l)] S =
        some (.ok (.dat (.tuple [encSt 0 g' (ringZ (serve r l.ws.length l).1) c' (serve r l.ws.length l).1, .tuple ((serveR r l.ws.length l).map rowD)])) S') := by
  obtain ⟨S0, hS0⟩ : ∃ S0, S0 = S ++ [svO r few (if l.ws = [] then 0 else 1) g (S.length + 1) (S.length + 2) (S.length + 3), .lst (ringI (decide (l.ws ≠ []))), .lst [.dat (encL c l)], .lst [], .lst []] := ⟨_, rfl⟩
  have hlen : S.length ≤ S0.length := by rw [hS0]; simp
  have Fr0 : Fr S.length S S0 := by rw [hS0]; exact (Fr.refl _ _).app (Nat.le_refl _)
  have sv0 : Sv r few S0 S.length S.length (S.length + 1) (S.length + 2) (S.length + 3) (if l.ws = [] then 0 else 1) g (decide (l.ws ≠ [])) c l [] := by
    rw [hS0]
    refine ⟨by rw [at_ap0]; rfl, by rw [at_ap]; rfl, by rw [at_ap]; rfl, by rw [at_ap]; rfl, by omega, by omega, by omega, by omega, by omega, by omega, by omega, by omega, by omega, by omega⟩
  have mk : bAsg (iMake "Serving" FI_Serving_init (iCons (iP (eVar 0)) (iCons (iP (eVar 1)) (iCons (iP (eVar 2)) iNil)))) (gIN 3) [some (.dat (encSs r few)), some (.dat (.int 1)), some (.dat (encSt 0 g (ringZ l) c l)), none, none] S =
      some (.nx [some (.dat (encSs r few)), some (.dat (.int 1)), some (.dat (encSt 0 g (ringZ l) c l)), some (.obj S.length), none] S0) := by
    simp only [bAsg, iMake, iBind, iCons, iP, iNil, iRA, List.map_cons, List.map_nil, prj, eVar, List.getElem?_cons_zero, List.getElem?_cons_succ, iRet, noList_encSs, noList_encSt, noList, if_true, Serving_init_ok, gIN, List.set_cons_succ, List.set_cons_zero, hS0]
  -- the loop
  obtain ⟨S1, q1, b', g', ring', c', Fr1, E1, w1, s1⟩ : ∃ S1 q1 b' g' ring' c', Fr S.length S0 S1 ∧ EndOk b' g' ring' c' (serve r l.ws.length l).1 ∧
      bWhile 2000 svT svB [some (.dat (encSs r few)), some (.dat (.int 1)), some (.dat (encSt 0 g (ringZ l) c l)), some (.obj S.length), some (.dat (.bool true))] S0 =
        some (.nx [some (.dat (encSs r few)), some (.dat (.int 1)), some (.dat (encSt 0 g (ringZ l) c l)), some (.obj S.length), some (.dat (.bool false))] S1) ∧
      Sv r few S1 S.length S.length q1 (S.length + 2) (S.length + 3) b' g' ring' c' (serve r l.ws.length l).1 (serveR r l.ws.length l) := by
    by_cases hw : l.ws = []
    · obtain ⟨hg, hc0⟩ := h0 hw
      have s' := sv0
      simp only [hw, if_true, ne_eq, not_true_eq_false, decide_false] at s'
      have e0 : l.ws.length = 0 := by rw [hw]; rfl
      rw [e0]
      refine ⟨_, S.length + 1, 0, g, false, c, (Fr.refl _ _).app hlen, ?_, sv_loop0 1998 s', ?_⟩
      · exact ⟨by simp [serve, hw], hc, fun z => absurd hw z, fun _ => ⟨hg, hc0⟩⟩
      · exact s'.app _
    · have s' := sv0
      simp only [hw, if_false, ne_eq, not_false_eq_true, decide_true] at s'
      have hz : (l.ws.length : Int) ≤ few := hl.len
      obtain ⟨S1, q1, b', g', ring', c', a1, a2, a3, a4⟩ := sv_loop1 (x0 := some (.dat (encSs r few))) (x1 := some (.dat (.int 1))) (x2 := some (.dat (encSt 0 g (ringZ l) c l))) hr hf l.ws.length 2000 S0 _ g c l [] rfl (by omega) hl hw hc (by simp; omega) hlen s'
      exact ⟨S1, q1, b', g', ring', c', a1, a2, a3, by simpa using a4⟩
  have hi : isI "Serving" "stands" S1 (.obj S.length) = true := by
    simp only [isI, s1.s, svO]
    rfl
  have st := stands_ok s1
  have hA := s1.app [.lst []]
  have f1 : iFld "Serving" (iVar 3) "own_rows" [some (.dat (encSs r few)), some (.dat (.int 1)), some (.dat (encSt 0 g (ringZ l) c l)), some (.obj S.length), some (.dat (.bool false))] (S1 ++ [.lst []]) = some (.ok (.obj (S.length + 3)) (S1 ++ [.lst []])) := fld_i _ _ rfl hA.s rfl
  refine ⟨S1 ++ [.lst []], g', c', (Fr0.trans Fr1).app (Nat.le_refl _), E1.2.1, fun z => E1.2.2.2 z, ?_⟩
  have eSt : encSt (if ring' = true then b' else 0) g' (if ring' = true then [0] else []) c' (serve r l.ws.length l).1 = encSt 0 g' (ringZ (serve r l.ws.length l).1) c' (serve r l.ws.length l).1 := by
    obtain ⟨e1, e2, e3, e4⟩ := E1
    rw [e1]
    by_cases hw : (serve r l.ws.length l).1.ws = []
    · simp [hw, ringZ]
    · simp [hw, ringZ, e3 hw]
  rw [eSt] at st
  unfold FI_served_by runI
  simp only [List.map_cons, List.map_nil, List.length_cons, List.length_nil, List.cons_append, List.nil_append, Nat.reduceAdd, Nat.reduceSub, List.replicate]
  rw [bSeq_nx mk, bSeq_nx (bAsgN (f := eC (.bool true)) rfl rfl)]
  simp only [List.set_cons_succ, List.set_cons_zero]
  rw [bSeq_nx w1]
  simp only [bSeq, bRet, iTup, iBind, iCons, iMeth, iVar, List.getElem?_cons_zero, List.getElem?_cons_succ, hi, if_true, iNil, iRA, st]
  have e5 : iTupOf (iFld "Serving" (iVar 3) "own_rows") [some (.dat (encSs r few)), some (.dat (.int 1)), some (.dat (encSt 0 g (ringZ l) c l)), some (.obj S.length), some (.dat (.bool false))] (S1 ++ [.lst []]) = some (.ok (.dat (.tuple ((serveR r l.ws.length l).map rowD))) (S1 ++ [.lst []])) := by
    simp only [iTupOf, iBind, f1, tupOf_, hA.r3, datsOf_rows]
  simp only [iTupOf, iBind, iVar] at e5 ⊢
  rw [e5]
  simp
end
end KW
/-! MH: all_come, stepped_by -/
namespace KW
open PySem PySem.Spec L2
abbrev comeB : IB := (bSeq (bAsg (iCallD F_put_by (iCons (iP (eIxV (eVar 0) (eVar 8))) (iCons (iIx (iVar 6) (iP (eVar 8))) (iCons (iP (eVar 9)) (iCons (iP (eVar 10)) iNil))))) (gIT (gsIC (gIS (iVar 6) (iP (eVar 8))) (gsIC (gIN 11) gsIN)))) (bSeq (bExp (iAppend (iVar 7) (iP (eTup (aCons (eVar 11) (aCons (eVar 8) (aCons (eVar 9) (aCons (eC (.int 0)) aNil)))))))) (bSeq (bIf (iAnd (iCmpT dNe (iIx (iIx (iVar 6) (iP (eVar 8))) (iP (eC (.int 1)))) (iP (eTup aNil))) (iPT (cCmp dNotIn (eVar 8) (eVar 5)))) (bSeq (bAug 5 fICat (iP (eTup (aCons (eVar 8) aNil)))) bNil) bNil) bNil)))
abbrev comeG : IG := (gIT (gsIC (gIN 8) (gsIC (gIN 9) (gsIC (gIN 10) gsIN))))
theorem putL_ws {r : Rl} {few : Int} {l : Ln} (h : l.ws ≠ []) : (putL r few l).1.ws ≠ [] := by
  unfold putL
  split
  · exact h
  · split
    · exact h
    · simp
def putRows (ws : List Str) : List (Str × Int) := ws.map fun w => (w, 0)
theorem at_e0 (few : Int) (r : Rl) : atI [encS r few] 0 = some (encS r few) := by rfl
theorem come_one {r : Rl} {few c : Int} {l : Ln} (hr : r.Ok) (hf : few ≤ 99) (hl : LnOk r few l) (S0 : HS) (acc : List (Str × Int)) (hz : acc.length < 10000) (x1 x2 x3 x4 x8 x9 x10 x11 : Option IV) :
    ∃ ρ1, comeG (.dat encC) [some (.dat (encSs r few)), x1, x2, x3, x4, some (.dat (.tuple ((ringZ l).map .int))), some (.obj S0.length), some (.obj (S0.length + 1)), x8, x9, x10, x11] (S0 ++ [.lst [.dat (encL c l)], .lst (acc.map fun p => .dat (rowD p))]) = some (ρ1, S0 ++ [.lst [.dat (encL c l)], .lst (acc.map fun p => .dat (rowD p))]) ∧
      comeB ρ1 (S0 ++ [.lst [.dat (encL c l)], .lst (acc.map fun p => .dat (rowD p))]) =
        some (.nx [some (.dat (encSs r few)), x1, x2, x3, x4, some (.dat (.tuple ((ringZ (putL r few l).1).map .int))), some (.obj S0.length), some (.obj (S0.length + 1)), some (.dat (.int 0)), some (.dat (.int 1)), some (.dat (.bool false)), some (.dat (.str (putL r few l).2))]
          (S0 ++ [.lst [.dat (encL c (putL r few l).1)], .lst ((acc ++ [((putL r few l).2, 0)]).map fun p => .dat (rowD p))])) := by
  obtain ⟨h1, h2⟩ := F_put_by_ok (c := c) hr hf hl
  refine ⟨[some (.dat (encSs r few)), x1, x2, x3, x4, some (.dat (.tuple ((ringZ l).map .int))), some (.obj S0.length), some (.obj (S0.length + 1)), some (.dat (.int 0)), some (.dat (.int 1)), some (.dat (.bool false)), x11], by simp [comeG, encC], ?_⟩
  have nS := noList_encS r few
  have nL := noList_encL c (putL r few l).1
  have q0 : ∀ x y : Ob, (S0 ++ [x, y])[S0.length]? = some x := fun x y => by rw [at_ap0]; rfl
  have q1 : ∀ x y : Ob, (S0 ++ [x, y])[S0.length + 1]? = some y := fun x y => by rw [at_ap]; rfl
  have t0 : ∀ x y z : Ob, (S0 ++ [x, y]).set S0.length z = S0 ++ [z, y] := fun x y z => by rw [set_ap0]; rfl
  have t1 : ∀ x y z : Ob, (S0 ++ [x, y]).set (S0.length + 1) z = S0 ++ [x, z] := fun x y z => by rw [set_ap]; rfl
  unfold comeB
  rw [bSeq_nx (ρ' := [some (.dat (encSs r few)), x1, x2, x3, x4, some (.dat (.tuple ((ringZ l).map .int))), some (.obj S0.length), some (.obj (S0.length + 1)), some (.dat (.int 0)), some (.dat (.int 1)), some (.dat (.bool false)), some (.dat (.str (putL r few l).2))])
    (S' := S0 ++ [.lst [.dat (encL c (putL r few l).1)], .lst (acc.map fun p => .dat (rowD p))]) (by
      simp [encSs, at_e0, nS, q0, h1, nL, t0])]
  rw [bSeq_nx (ρ' := [some (.dat (encSs r few)), x1, x2, x3, x4, some (.dat (.tuple ((ringZ l).map .int))), some (.obj S0.length), some (.obj (S0.length + 1)), some (.dat (.int 0)), some (.dat (.int 1)), some (.dat (.bool false)), some (.dat (.str (putL r few l).2))])
    (S' := S0 ++ [.lst [.dat (encL c (putL r few l).1)], .lst ((acc ++ [((putL r few l).2, 0)]).map fun p => .dat (rowD p))]) (by
      simp [q1, hz, t1, rowD])]
  have e1 : iCmpT dNe (iIx (iIx (iVar 6) (iP (eVar 8))) (iP (eC (.int 1)))) (iP (eTup aNil)) [some (.dat (encSs r few)), x1, x2, x3, x4, some (.dat (.tuple ((ringZ l).map .int))), some (.obj S0.length), some (.obj (S0.length + 1)), some (.dat (.int 0)), some (.dat (.int 1)), some (.dat (.bool false)), some (.dat (.str (putL r few l).2))]
      (S0 ++ [.lst [.dat (encL c (putL r few l).1)], .lst ((acc ++ [((putL r few l).2, 0)]).map fun p => .dat (rowD p))]) = some (.ok (!decide ((putL r few l).1.ws = [])) (S0 ++ [.lst [.dat (encL c (putL r few l).1)], .lst ((acc ++ [((putL r few l).2, 0)]).map fun p => .dat (rowD p))])) := by
    simp [q0, encL]
  by_cases hw : (putL r few l).1.ws = []
  · have hw0 : l.ws = [] := by
      by_cases h : l.ws = []
      · exact h
      · exact absurd hw (putL_ws h)
    rw [bSeq_nx (ρ' := [some (.dat (encSs r few)), x1, x2, x3, x4, some (.dat (.tuple ((ringZ l).map .int))), some (.obj S0.length), some (.obj (S0.length + 1)), some (.dat (.int 0)), some (.dat (.int 1)), some (.dat (.bool false)), some (.dat (.str (putL r few l).2))])
      (S' := S0 ++ [.lst [.dat (encL c (putL r few l).1)], .lst ((acc ++ [((putL r few l).2, 0)]).map fun p => .dat (rowD p))]) (by
        simp only [bIf, iAnd, iBind, e1, hw]
        simp)]
    simp [ringZ, hw, hw0]
  · by_cases hw0 : l.ws = []
    · rw [bSeq_nx (ρ' := [some (.dat (encSs r few)), x1, x2, x3, x4, some (.dat (.tuple [.int 0])), some (.obj S0.length), some (.obj (S0.length + 1)), some (.dat (.int 0)), some (.dat (.int 1)), some (.dat (.bool false)), some (.dat (.str (putL r few l).2))])
        (S' := S0 ++ [.lst [.dat (encL c (putL r few l).1)], .lst ((acc ++ [((putL r few l).2, 0)]).map fun p => .dat (rowD p))]) (by
          simp only [bIf, iAnd, iBind, e1, hw]
          simp [ringZ, hw0, fICat])]
      simp [ringZ, hw]
    · rw [bSeq_nx (ρ' := [some (.dat (encSs r few)), x1, x2, x3, x4, some (.dat (.tuple ((ringZ l).map .int))), some (.obj S0.length), some (.obj (S0.length + 1)), some (.dat (.int 0)), some (.dat (.int 1)), some (.dat (.bool false)), some (.dat (.str (putL r few l).2))])
        (S' := S0 ++ [.lst [.dat (encL c (putL r few l).1)], .lst ((acc ++ [((putL r few l).2, 0)]).map fun p => .dat (rowD p))]) (by
          simp only [bIf, iAnd, iBind, e1, hw]
          simp [ringZ, hw0])]
      simp [ringZ, hw, hw0]
theorem come_loop {r : Rl} {few c : Int} (hr : r.Ok) (hf : few ≤ 99) (S0 : HS) (x1 x2 x3 x4 : Option IV) : ∀ (n : Nat) (l : Ln) (acc : List (Str × Int)) (x8 x9 x10 x11 : Option IV), LnOk r few l → acc.length + n < 10000 →
    ∃ y8 y9 y10 y11, bForL comeG comeB (List.replicate n (.dat encC)) [some (.dat (encSs r few)), x1, x2, x3, x4, some (.dat (.tuple ((ringZ l).map .int))), some (.obj S0.length), some (.obj (S0.length + 1)), x8, x9, x10, x11] (S0 ++ [.lst [.dat (encL c l)], .lst (acc.map fun p => .dat (rowD p))]) =
      some (.nx [some (.dat (encSs r few)), x1, x2, x3, x4, some (.dat (.tuple ((ringZ (puts r few n l).1).map .int))), some (.obj S0.length), some (.obj (S0.length + 1)), y8, y9, y10, y11] (S0 ++ [.lst [.dat (encL c (puts r few n l).1)], .lst ((acc ++ putRows (puts r few n l).2).map fun p => .dat (rowD p))]))
  | 0, l, acc, x8, x9, x10, x11, hl, hz => ⟨x8, x9, x10, x11, by simp [puts, putRows]⟩
  | n + 1, l, acc, x8, x9, x10, x11, hl, hz => by
    obtain ⟨ρ1, e1, e2⟩ := come_one (c := c) hr hf hl S0 acc (by omega) x1 x2 x3 x4 x8 x9 x10 x11
    obtain ⟨y8, y9, y10, y11, ih⟩ := come_loop (c := c) hr hf S0 x1 x2 x3 x4 n _ (acc ++ [((putL r few l).2, 0)]) (some (.dat (.int 0))) (some (.dat (.int 1))) (some (.dat (.bool false))) (some (.dat (.str (putL r few l).2))) (F_put_by_ok (c := 0) hr hf hl).2 (by simp; omega)
    refine ⟨y8, y9, y10, y11, ?_⟩
    rw [List.replicate_succ, bForL]
    simp only [e1, e2]
    rw [ih]
    simp [puts, putRows]
def encCs (n : Nat) : PyData := .tuple (List.replicate n encC)
theorem noLists_C : ∀ n : Nat, noLists (List.replicate n encC) = true
  | 0 => rfl
  | n + 1 => by
    rw [List.replicate_succ]
    show (noList encC && noLists (List.replicate n encC)) = true
    rw [noLists_C n]
    rfl
theorem noList_encCs (n : Nat) : noList (encCs n) = true := by simp [encCs, noLists_C]
theorem all_come_ok {r : Rl} {few c : Int} {g : Bool} {l : Ln} (hr : r.Ok) (hf : few ≤ 99) (hl : LnOk r few l) (n : Nat) (hn : n ≤ 1000) (S : HS) :
    ∃ T, FI_all_come [.dat (encSs r few), .dat (encSt 0 g (ringZ l) c l), .dat (encCs n)] S =
      some (.ok (.dat (.tuple [encSt 0 g (ringZ (puts r few n l).1) c (puts r few n l).1, .tuple ((putRows (puts r few n l).2).map rowD)])) (S ++ T)) := by
  obtain ⟨y8, y9, y10, y11, e⟩ := come_loop (c := c) hr hf S (some (.dat (encSt 0 g (ringZ l) c l))) (some (.dat (encCs n))) (some (.dat (.int 0))) (some (.dat (.bool g))) n l [] none none none none hl (by simp; omega)
  have nS := noList_encSt 0 g (ringZ l) c l
  have nC := noList_encCs n
  have q0 : ∀ x y : Ob, (S ++ [x, y])[S.length]? = some x := fun x y => by rw [at_ap0]; rfl
  have q1 : ∀ x y : Ob, (S ++ [x, y])[S.length + 1]? = some y := fun x y => by rw [at_ap]; rfl
  have nl : noLists ((ringZ (puts r few n l).1).map PyData.int) = true := noLists_ints' _
  refine ⟨[.lst [.dat (encL c (puts r few n l).1)], .lst (([] ++ putRows (puts r few n l).2).map fun p => .dat (rowD p))], ?_⟩
  unfold FI_all_come runI
  simp only [List.map_cons, List.map_nil, List.length_cons, List.length_nil, List.cons_append, List.nil_append, Nat.reduceAdd, Nat.reduceSub, List.replicate] at e ⊢
  rw [bSeq_nx (ρ' := [some (.dat (encSs r few)), some (.dat (encSt 0 g (ringZ l) c l)), some (.dat (encCs n)), some (.dat (.int 0)), some (.dat (.bool g)), some (.dat (.tuple ((ringZ l).map .int))), some (.dat (.tuple [encL c l])), none, none, none, none, none]) (S' := S) (by
    simp [nS]
    simp [encSt])]
  rw [bSeq_nx (ρ' := [some (.dat (encSs r few)), some (.dat (encSt 0 g (ringZ l) c l)), some (.dat (encCs n)), some (.dat (.int 0)), some (.dat (.bool g)), some (.dat (.tuple ((ringZ l).map .int))), some (.obj S.length), none, none, none, none, none]) (S' := S ++ [.lst [.dat (encL c l)]]) (by simp)]
  rw [bSeq_nx (ρ' := [some (.dat (encSs r few)), some (.dat (encSt 0 g (ringZ l) c l)), some (.dat (encCs n)), some (.dat (.int 0)), some (.dat (.bool g)), some (.dat (.tuple ((ringZ l).map .int))), some (.obj S.length), some (.obj (S.length + 1)), none, none, none, none]) (S' := S ++ [.lst [.dat (encL c l)], .lst []]) (by simp)]
  rw [bSeq_nx (bFor_ok (S1 := S ++ [.lst [.dat (encL c l)], .lst []]) (xs := List.replicate n (.dat encC)) (by
    simp [nC]
    simp [encCs]) e)]
  simp [-bFor, bSeq, bRet, q0, q1, noLists_ints', datsOf_rows, encSt]
def servedR (r : Rl) (few : Int) (l : Ln) (n : Nat) : List (Str × Int) := putRows (puts r few n (renL r l)).2 ++ serveR r (puts r few n (renL r l)).1.ws.length (puts r few n (renL r l)).1
theorem servedR_fst (r : Rl) (few : Int) (l : Ln) (n : Nat) : (servedR r few l n).map Prod.fst = (doneM r few l n).2.1 := by
  simp only [servedR, List.map_append, serveR_fst, doneM]
  congr 1
  simp [putRows, Function.comp_def]
theorem stepped_by_ok {r : Rl} {few c : Int} {g : Bool} {l : Ln} (hr : r.Ok) (hf : few ≤ 99) (hl : LnOk r few l) (hc : 0 ≤ c) (h0 : l.ws = [] → g = false ∧ c = 0) (n : Nat) (hn : n ≤ 1000) (S : HS) :
    ∃ S' g' c', Fr S.length S S' ∧ 0 ≤ c' ∧ ((doneM r few l n).1.ws = [] → g' = false ∧ c' = 0) ∧ LnOk r few (doneM r few l n).1 ∧
      FI_stepped_by [.dat (encSs r few), .dat (.int 1), .dat (encSt 0 g (ringZ l) c l), .dat (encCs n)] S =
        some (.ok (.dat (.tuple [encSt 0 g' (ringZ (doneM r few l n).1) c' (doneM r few l n).1, .tuple ((servedR r few l n).map rowD)])) S') := by
  have h1 := F_all_renewed_ok (b := 0) (c := c) (g := g) (ring := ringZ l) hr hl
  have h2 := (F_lane_renewed_by_ok (c := 0) hr hl).2
  obtain ⟨p1, p2⟩ := puts_ok hr hf n _ h2
  obtain ⟨T, e1⟩ := all_come_ok (c := c) (g := g) hr hf h2 n hn S
  have h0' : (puts r few n (renL r l)).1.ws = [] → g = false ∧ c = 0 := fun z => h0 (by
    have : ∀ (n : Nat) (l : Ln), (puts r few n l).1.ws = [] → l.ws = [] := by
      intro n
      induction n with
      | zero => exact fun l h => h
      | succ n ih =>
        intro l h
        have := ih _ h
        by_cases hw : l.ws = []
        · exact hw
        · exact absurd this (putL_ws hw)
    exact this n (renL r l) z)
  obtain ⟨S', g', c', Fr1, hc', hE, e2⟩ := served_ok hr hf p1 hc h0' (S ++ T)
  obtain ⟨s1, s2⟩ := serve_ok hr hf (puts r few n (renL r l)).1.ws.length _ p1
  have h3 := F_all_passed_ok (b := 0) (c := c') (g := g') (ring := ringZ (serve r (puts r few n (renL r l)).1.ws.length (puts r few n (renL r l)).1).1) hr hf s1
  have h4 := (F_lane_passed_by_ok (c := 0) hr hf s1).2
  have hlen : ((puts r few n (renL r l)).1.ws.length : Int) ≤ few := p1.len
  have rz : ringZ (renL r l) = ringZ l := rfl
  rw [rz] at e1
  have rz2 : ringZ (doneM r few l n).1 = ringZ (serve r (puts r few n (renL r l)).1.ws.length (puts r few n (renL r l)).1).1 := by
    simp only [ringZ, doneM, pasL, List.map_eq_nil_iff]
  refine ⟨S', g', c', ⟨fun j hj => ?_, ?_⟩, hc', fun z => hE (by simpa [doneM, pasL] using z), h4, ?_⟩
  · rw [Fr1.keep j (by simp; omega), List.getElem?_append_left hj]
  · have := Fr1.len
    simp at this
    omega
  · have n1 := noList_encSs r few
    have n2 := fun g ring c l => noList_encSt 0 g ring c l
    have n3 := noList_encCs n
    have n4 := noLists_rows (putRows (puts r few n (renL r l)).2)
    have n5 := noLists_rows (serveR r (puts r few n (renL r l)).1.ws.length (puts r few n (renL r l)).1)
    rw [rz2]
    unfold FI_stepped_by runI
    simp only [List.map_cons, List.map_nil, List.length_cons, List.length_nil, List.cons_append, List.nil_append, Nat.reduceAdd, Nat.reduceSub, List.replicate]
    rw [bSeq_nx (ρ' := [some (.dat (encSs r few)), some (.dat (.int 1)), some (.dat (encSt 0 g (ringZ (puts r few n (renL r l)).1) c (puts r few n (renL r l)).1)), some (.dat (encCs n)), some (.dat (.tuple ((putRows (puts r few n (renL r l)).2).map rowD))), none]) (S' := S ++ T) (by
      simp [n1, n2, n3, h1, e1])]
    rw [bSeq_nx (ρ' := [some (.dat (encSs r few)), some (.dat (.int 1)), some (.dat (encSt 0 g' (ringZ (serve r (puts r few n (renL r l)).1.ws.length (puts r few n (renL r l)).1).1) c' (serve r (puts r few n (renL r l)).1.ws.length (puts r few n (renL r l)).1).1)), some (.dat (encCs n)), some (.dat (.tuple ((putRows (puts r few n (renL r l)).2).map rowD))), some (.dat (.tuple ((serveR r (puts r few n (renL r l)).1.ws.length (puts r few n (renL r l)).1).map rowD)))]) (S' := S') (by
      simp [n1, n2, e2])]
    have hz2 : (putRows (puts r few n (renL r l)).2).length + (serveR r (puts r few n (renL r l)).1.ws.length (puts r few n (renL r l)).1).length ≤ 10000 := by
      rw [serveR_len]
      simp [putRows, p2]
      omega
    have n6 : noLists ((putRows (puts r few n (renL r l)).2).map rowD ++ (serveR r (puts r few n (renL r l)).1.ws.length (puts r few n (renL r l)).1).map rowD) = true := by rw [← List.map_append]; exact noLists_rows _
    simp [bRet, h3, n2, servedR, hz2, n6, doneM]
end KW
/-! MI: a Line of one stream -/
namespace KW
open PySem PySem.Spec L2
def lnO (r : Rl) (few : Int) (st : PyData) (p d : Nat) : Ob := .ins "Line" [("line_streams", .dat (encSs r few)), ("line_rate", .dat (.int 1)), ("line_standing", .dat st), ("line_past", .obj p), ("line_diary", .obj d)]
structure LnS (r : Rl) (few : Int) (S : HS) (base i p d : Nat) (g : Bool) (c : Int) (l : Ln) (m1 m2 : Nat) : Prop where
  s : S[i]? = some (lnO r few (encSt 0 g (ringZ l) c l) p d)
  r1 : ∃ P : List IV, S[p]? = some (.lst P) ∧ P.length = m1
  r2 : ∃ D : List IV, S[d]? = some (.lst D) ∧ D.length = m2
  n1 : i ≠ p
  n2 : i ≠ d
  n3 : p ≠ d
  b0 : base ≤ i
  b1 : base ≤ p
  b2 : base ≤ d
  ok : LnOk r few l
  c0 : 0 ≤ c
  e0 : l.ws = [] → g = false ∧ c = 0
section
variable {r : Rl} {few : Int} {S : HS} {base i p d : Nat} {g : Bool} {c : Int} {l : Ln} {m1 m2 : Nat}
theorem ln_i (m : Str) (x : IV) {st : PyData} {ρ : IR} {v : Nat} (hv : ρ[v]? = some (some (.obj i))) (h : S[i]? = some (lnO r few st p d))
    (hm : ([("line_streams", .dat (encSs r few)), ("line_rate", .dat (.int 1)), ("line_standing", .dat st), ("line_past", .obj p), ("line_diary", .obj d)] : List (Str × IV)).lookup m = some x) :
    iFld "Line" (iVar v) m ρ S = some (.ok x S) := by
  simp only [iFld, iBind, iVar, hv, fldGo, h, lnO, if_true, hm]
theorem setStand {st st' : PyData} (h : S[i]? = some (lnO r few st p d)) (rest : IR) : gIF "Line" 0 "line_standing" (.dat st') (some (.obj i) :: rest) S = some (some (.obj i) :: rest, S.set i (lnO r few st' p d)) := by
  simp only [gIF, List.getElem?_cons_zero, putFld, h, lnO]
  rfl
/-- nothing but the line, its past and its diary changes -/
structure Fx (i p d : Nat) (S S' : HS) : Prop where
  keep : ∀ j, j < S.length → j ≠ i → j ≠ p → j ≠ d → S'[j]? = S[j]?
  len : S.length ≤ S'.length
theorem Fx.trans {i p d : Nat} {S S1 S2 : HS} (a : Fx i p d S S1) (b : Fx i p d S1 S2) : Fx i p d S S2 := ⟨fun j h h1 h2 h3 => (b.keep j (by have := a.len; omega) h1 h2 h3).trans (a.keep j h h1 h2 h3), Nat.le_trans a.len b.len⟩
theorem Line_done_ok (hr : r.Ok) (hf : few ≤ 99) (h : LnS r few S base i p d g c l m1 m2) (n : Nat) (hn : n ≤ 1000) (hz : m1 < 10000) (hb : base ≤ S.length) :
    ∃ S' g' c', Fx i p d S S' ∧ LnS r few S' base i p d g' c' (doneM r few l n).1 (m1 + 1) m2 ∧
      FI_Line_done [.obj i, .dat (encCs n)] S = some (.ok (.dat (.tuple ((servedR r few l n).map rowD))) S') := by
  obtain ⟨S1, g', c', Fr1, hc', hE, hok, e1⟩ := stepped_by_ok hr hf h.ok h.c0 h.e0 n hn S
  obtain ⟨P, hP, hPl⟩ := h.r1
  obtain ⟨D, hD, hDl⟩ := h.r2
  have li := lt_of_get h.s
  have lp := lt_of_get hP
  have ld := lt_of_get hD
  have s1 : S1[i]? = some (lnO r few (encSt 0 g (ringZ l) c l) p d) := by rw [Fr1.keep i li]; exact h.s
  have s2 : (S1.set i (lnO r few (encSt 0 g' (ringZ (doneM r few l n).1) c' (doneM r few l n).1) p d))[p]? = some (.lst P) := by
    rw [List.getElem?_set_ne h.n1, Fr1.keep p lp]; exact hP
  have nrow : noList (.tuple ((servedR r few l n).map rowD)) = true := by simp [noLists_rows]
  have nst : ∀ g c l, noList (encSt 0 g (ringZ l) c l) = true := fun g c l => noList_encSt 0 g _ c l
  have hzP : P.length < 10000 := by omega
  obtain ⟨S2, hS2⟩ : ∃ S2, S2 = S1.set i (lnO r few (encSt 0 g' (ringZ (doneM r few l n).1) c' (doneM r few l n).1) p d) := ⟨_, rfl⟩
  rw [← hS2] at s2
  have i1 : i < S1.length := by have := Fr1.len; omega
  have s3 : S2[i]? = some (lnO r few (encSt 0 g' (ringZ (doneM r few l n).1) c' (doneM r few l n).1) p d) := by rw [hS2, List.getElem?_set_self i1]
  have s4 : S2[d]? = some (.lst D) := by rw [hS2, List.getElem?_set_ne h.n2, Fr1.keep d ld]; exact hD
  refine ⟨S2.set p (.lst (P ++ [.dat (.tuple [encSt 0 g (ringZ l) c l, .tuple ((servedR r few l n).map rowD)])])), g', c', ?_, ?_, ?_⟩
  · rw [hS2]
    exact ⟨fun j hj h1 h2 h3 => by rw [List.getElem?_set_ne (Ne.symm h2), List.getElem?_set_ne (Ne.symm h1)]; exact Fr1.keep j hj, by simp only [List.length_set]; exact Fr1.len⟩
  · refine ⟨by rw [List.getElem?_set_ne (Ne.symm h.n1)]; exact s3, ⟨_, List.getElem?_set_self (lt_of_get s2), by simp [hPl]⟩, ⟨D, by rw [List.getElem?_set_ne h.n3]; exact s4, hDl⟩, h.n1, h.n2, h.n3, h.b0, h.b1, h.b2, hok, hc', hE⟩
  · unfold FI_Line_done runI
    simp only [List.map_cons, List.map_nil, List.length_cons, List.length_nil, List.cons_append, List.nil_append, Nat.reduceAdd, Nat.reduceSub, List.replicate]
    have f0 : ∀ rest : IR, iFld "Line" (iVar 0) "line_standing" (some (.obj i) :: rest) S = some (.ok (.dat (encSt 0 g (ringZ l) c l)) S) := fun rest => ln_i _ _ rfl h.s rfl
    have f1 : ∀ rest : IR, iFld "Line" (iVar 0) "line_streams" (some (.obj i) :: rest) S = some (.ok (.dat (encSs r few)) S) := fun rest => ln_i _ _ rfl h.s rfl
    have f2 : ∀ rest : IR, iFld "Line" (iVar 0) "line_rate" (some (.obj i) :: rest) S = some (.ok (.dat (.int 1)) S) := fun rest => ln_i _ _ rfl h.s rfl
    have f3 : ∀ rest : IR, iFld "Line" (iVar 0) "line_past" (some (.obj i) :: rest) S2 = some (.ok (.obj p) S2) := fun rest => ln_i _ _ rfl s3 rfl
    rw [bSeq_nx (ρ' := [some (.obj i), some (.dat (encCs n)), some (.dat (encSt 0 g (ringZ l) c l)), none]) (S' := S) (by
      simp only [bAsg, f0]
      rfl)]
    rw [bSeq_nx (ρ' := [some (.obj i), some (.dat (encCs n)), some (.dat (encSt 0 g (ringZ l) c l)), some (.dat (.tuple ((servedR r few l n).map rowD)))]) (S' := S2) (by
      have nC := noList_encCs n
      simp only [bAsg, iCall, iBind, iCons, f1, f2, iP, iNil, iRA, List.map_cons, List.map_nil, prj, eVar, List.getElem?_cons_zero, List.getElem?_cons_succ, iRet, nC, nst, if_true, e1, gIT, gsIC, setStand s1, ← hS2, gIN, List.set_cons_succ, List.set_cons_zero, gsIN])]
    rw [bSeq_nx (ρ' := [some (.obj i), some (.dat (encCs n)), some (.dat (encSt 0 g (ringZ l) c l)), some (.dat (.tuple ((servedR r few l n).map rowD)))]) (S' := S2.set p (.lst (P ++ [.dat (.tuple [encSt 0 g (ringZ l) c l, .tuple ((servedR r few l n).map rowD)])]))) (by
      simp [-iFld, f3, s2, hzP, nst, noLists_rows])]
    simp [bRet, noLists_rows]
theorem noLists_C1 (n : Nat) : F_come_right [.int 1, encCs n] = F_come_right [.int 1, .tuple (List.replicate n encC)] := rfl
theorem Line_step_ok (hr : r.Ok) (hf : few ≤ 99) (h : LnS r few S base i p d g c l m1 m2) (n : Nat) (hn : n ≤ 64) (hz : m1 < 10000) (hz2 : m2 < 10000) (hb : base ≤ S.length) :
    ∃ S' g' c', Fx i p d S S' ∧ LnS r few S' base i p d g' c' (doneM r few l n).1 (m1 + 1) (m2 + 1) ∧
      FI_Line_step [.obj i, .dat (encCs n)] S = some (.ok (.dat (.tuple ((servedR r few l n).map rowD))) S') := by
  obtain ⟨S1, g', c', Fr1, h1, e1⟩ := Line_done_ok hr hf h n (by omega) hz hb
  obtain ⟨D, hD, hDl⟩ := h1.r2
  obtain ⟨P, hP, hPl⟩ := h1.r1
  have hzD : D.length < 10000 := by omega
  have f1 : ∀ rest : IR, iFld "Line" (iVar 0) "line_streams" (some (.obj i) :: rest) S = some (.ok (.dat (encSs r few)) S) := fun rest => ln_i _ _ rfl h.s rfl
  have f3 : ∀ rest : IR, iFld "Line" (iVar 0) "line_diary" (some (.obj i) :: rest) S1 = some (.ok (.obj d) S1) := fun rest => ln_i _ _ rfl h1.s rfl
  have hi : isI "Line" "done" S (.obj i) = true := by
    simp only [isI, h.s, lnO]
    rfl
  have nC := noList_encCs n
  have hnc : F_need_comers [.int 1, encCs n] = some .none := F_need_comers_ok hn
  refine ⟨S1.set d (.lst (D ++ [.dat (.tuple [.str "step", .str "done"])])), g', c', ⟨fun j hj q1 q2 q3 => by rw [List.getElem?_set_ne (Ne.symm q3)]; exact Fr1.keep j hj q1 q2 q3, by simp only [List.length_set]; exact Fr1.len⟩, ?_, ?_⟩
  · exact ⟨by rw [List.getElem?_set_ne (Ne.symm h.n2)]; exact h1.s, ⟨P, by rw [List.getElem?_set_ne (Ne.symm h.n3)]; exact hP, hPl⟩, ⟨_, List.getElem?_set_self (lt_of_get hD), by simp [hDl]⟩, h.n1, h.n2, h.n3, h.b0, h.b1, h.b2, h1.ok, h1.c0, h1.e0⟩
  · unfold FI_Line_step runI
    simp only [List.map_cons, List.map_nil, List.length_cons, List.length_nil, List.cons_append, List.nil_append, Nat.reduceAdd, Nat.reduceSub, List.replicate]
    rw [bSeq_nx (bAsgN (f := eC (.str "refused")) rfl rfl)]
    simp only [List.set_cons_succ, List.set_cons_zero]
    have b1 : bExp (iCallD F_need_comers (iCons (iLen (iFld "Line" (iVar 0) "line_streams")) (iCons (iP (eVar 1)) iNil))) [some (.obj i), some (.dat (encCs n)), some (.dat (.str "refused")), none] S = some (.nx [some (.obj i), some (.dat (encCs n)), some (.dat (.str "refused")), none] S) := by
      simp [-iFld, f1, encSs, nC, hnc]
    have b2 : bAsg (iMeth "Line" "done" FI_Line_done (iVar 0) (iCons (iP (eVar 1)) iNil)) (gIN 3) [some (.obj i), some (.dat (encCs n)), some (.dat (.str "refused")), none] S = some (.nx [some (.obj i), some (.dat (encCs n)), some (.dat (.str "refused")), some (.dat (.tuple ((servedR r few l n).map rowD)))] S1) := by
      simp only [bAsg, iMeth, iBind, iVar, List.getElem?_cons_zero, hi, if_true, iCons, iP, List.map_cons, List.map_nil, prj, eVar, List.getElem?_cons_succ, iRet, nC, iNil, iRA, e1, gIN, List.set_cons_succ, List.set_cons_zero]
    have b3 : bExp (iAppend (iFld "Line" (iVar 0) "line_diary") (iP (eTup (aCons (eC (.str "step")) (aCons (eVar 2) aNil))))) [some (.obj i), some (.dat (encCs n)), some (.dat (.str "done")), some (.dat (.tuple ((servedR r few l n).map rowD)))] S1 = some (.nx [some (.obj i), some (.dat (encCs n)), some (.dat (.str "done")), some (.dat (.tuple ((servedR r few l n).map rowD)))] (S1.set d (.lst (D ++ [.dat (.tuple [.str "step", .str "done"])])))) := by
      simp [-iFld, f3, hD, hzD]
    have n3 := noLists_rows (servedR r few l n)
    rw [bSeq_rt (x := .dat (.tuple ((servedR r few l n).map rowD))) (S' := S1.set d (.lst (D ++ [.dat (.tuple [.str "step", .str "done"])]))) (by
      simp only [bFin, rSeq, b1, b2]
      rw [bAsgN (f := eC (.str "done")) rfl rfl]
      simp only [List.set_cons_succ, List.set_cons_zero]
      have b4 : rRet (iP (eVar 3)) [some (.obj i), some (.dat (encCs n)), some (.dat (.str "done")), some (.dat (.tuple ((servedR r few l n).map rowD)))] S1 = some (.dat (.tuple ((servedR r few l n).map rowD)), [some (.obj i), some (.dat (encCs n)), some (.dat (.str "done")), some (.dat (.tuple ((servedR r few l n).map rowD)))], S1) := by
        simp [n3]
      rw [b4]
      simp only [bSeq, b3, bNil])]
/-- the lane behind ticks -/
theorem callStep {S' : HS} {n : Nat} {v : PyData} {x2 x3 : Option IV} (h : LnS r few S base i p d g c l m1 m2) (e : FI_Line_step [.obj i, .dat (encCs n)] S = some (.ok (.dat v) S')) (x1 : Option IV) :
    iMeth "Line" "step" FI_Line_step (iVar 0) (iCons (iP (eVar 4)) iNil) [some (.obj i), x1, x2, x3, some (.dat (encCs n))] S = some (.ok (.dat v) S') := by
  have hi : isI "Line" "step" S (.obj i) = true := by
    simp only [isI, h.s, lnO]
    rfl
  have nC := noList_encCs n
  simp only [iMeth, iBind, iVar, List.getElem?_cons_zero, hi, if_true, iCons, iP, List.map_cons, List.map_nil, prj, eVar, List.getElem?_cons_succ, iRet, nC, iNil, iRA, e]
end
def rowsR (r : Rl) (few : Int) : Ln → List Nat → List (List (Str × Int))
  | _, [] => []
  | l, n :: ns => servedR r few l n :: rowsR r few (doneM r few l n).1 ns
theorem rowsR_fst (r : Rl) (few : Int) : ∀ (ns : List Nat) (l : Ln), (rowsR r few l ns).map (fun rs => rs.map Prod.fst) = runW r few l ns
  | [], l => rfl
  | n :: ns, l => by simp only [rowsR, runW, List.map_cons, servedR_fst, rowsR_fst r few ns]
theorem rowsR_len (r : Rl) (few : Int) : ∀ (ns : List Nat) (l : Ln), (rowsR r few l ns).length = ns.length
  | [], l => rfl
  | n :: ns, l => by simp [rowsR, rowsR_len r few ns]
def encRs (rs : List (Str × Int)) : PyData := .tuple (rs.map rowD)
abbrev stepsG : IG := (gIT (gsIC (gIN 3) (gsIC (gIN 4) gsIN)))
abbrev stepsB : IB := (bSeq (bIf (iNot (iValT (iCallD F_come_right (iCons (iLen (iFld "Line" (iVar 0) "line_streams")) (iCons (iP (eVar 4)) iNil))))) (bSeq bNever bNil) bNil) (bSeq (bExp (iAppend (iVar 2) (iMeth "Line" "step" FI_Line_step (iVar 0) (iCons (iP (eVar 4)) iNil)))) bNil))
theorem steps_loop {r : Rl} {few : Int} {base i p d : Nat} (hr : r.Ok) (hf : few ≤ 99) (x1 : Option IV) (k : Nat) (hk : k ≠ i ∧ k ≠ p ∧ k ≠ d) : ∀ (ns : List Nat) (j : Nat) (S : HS) (g : Bool) (c : Int) (l : Ln) (m1 m2 : Nat) (acc : List IV) (x3 x4 : Option IV),
    (∀ n ∈ ns, n ≤ 64) → LnS r few S base i p d g c l m1 m2 → S[k]? = some (.lst acc) → m1 + ns.length < 10000 → m2 + ns.length < 10000 → acc.length + ns.length < 10000 → base ≤ S.length →
    ∃ S' g' c' y3 y4, Fx i p d (S.set k (.lst (acc ++ (rowsR r few l ns).map fun rs => .dat (encRs rs)))) S' ∧ LnS r few S' base i p d g' c' (runL r few l ns) (m1 + ns.length) (m2 + ns.length) ∧
      bForL stepsG stepsB ((enumD j (ns.map encCs)).map .dat) [some (.obj i), x1, some (.obj k), x3, x4] S = some (.nx [some (.obj i), x1, some (.obj k), y3, y4] S') ∧ S'[k]? = some (.lst (acc ++ (rowsR r few l ns).map fun rs => .dat (encRs rs)))
  | [], j, S, g, c, l, m1, m2, acc, x3, x4, hn, h, hk2, z1, z2, z3, hb => by
    refine ⟨S, g, c, x3, x4, ?_, h, by simp, by simp [rowsR, hk2]⟩
    refine ⟨fun q hq h1 h2 h3 => ?_, by simp⟩
    by_cases e : k = q
    · subst e
      rw [List.getElem?_set_self (lt_of_get hk2), hk2]
      simp [rowsR]
    · rw [List.getElem?_set_ne e]
  | n :: ns, j, S, g, c, l, m1, m2, acc, x3, x4, hn, h, hk2, z1, z2, z3, hb => by
    obtain ⟨S1, g1, c1, Fr1, h1, e1⟩ := Line_step_ok hr hf h n (hn n (by simp)) (by simp at z1; omega) (by simp at z2; omega) hb
    have lk := lt_of_get hk2
    have hk3 : S1[k]? = some (.lst acc) := by rw [Fr1.keep k lk hk.1 hk.2.1 hk.2.2]; exact hk2
    have hL : LnS r few (S1.set k (.lst (acc ++ [.dat (encRs (servedR r few l n))]))) base i p d g1 c1 (doneM r few l n).1 (m1 + 1) (m2 + 1) := by
      obtain ⟨a0, ⟨P, a1, a1'⟩, ⟨D, a2, a2'⟩, a3, a4, a5, a6, a7, a8, a9, a10, a11⟩ := h1
      exact ⟨by rw [List.getElem?_set_ne hk.1]; exact a0, ⟨P, by rw [List.getElem?_set_ne hk.2.1]; exact a1, a1'⟩, ⟨D, by rw [List.getElem?_set_ne hk.2.2]; exact a2, a2'⟩, a3, a4, a5, a6, a7, a8, a9, a10, a11⟩
    obtain ⟨S2, g2, c2, y3, y4, Fr2, h2, e2, e3⟩ := steps_loop hr hf x1 k hk ns (j + 1) (S1.set k (.lst (acc ++ [.dat (encRs (servedR r few l n))]))) g1 c1 (doneM r few l n).1 (m1 + 1) (m2 + 1) (acc ++ [.dat (encRs (servedR r few l n))]) (some (.dat (.int j))) (some (.dat (encCs n)))
      (fun m hm => hn m (by simp [hm])) hL (List.getElem?_set_self (lt_of_get hk3)) (by simp at z1; omega) (by simp at z2; omega) (by simp at z3 ⊢; omega) (by rw [List.length_set]; have := Fr1.len; omega)
    have hacc : acc ++ [IV.dat (encRs (servedR r few l n))] ++ (rowsR r few (doneM r few l n).1 ns).map (fun rs => IV.dat (encRs rs)) = acc ++ (rowsR r few l (n :: ns)).map (fun rs => IV.dat (encRs rs)) := by simp [rowsR]
    rw [hacc] at Fr2 e3
    refine ⟨S2, g2, c2, y3, y4, ?_, ?_, ?_, e3⟩
    · refine ⟨fun q hq q1 q2 q3 => ?_, ?_⟩
      · have hq' : q < S.length := by simpa using hq
        rw [Fr2.keep q (by simp; have := Fr1.len; omega) q1 q2 q3]
        by_cases e : k = q
        · subst e
          rw [List.getElem?_set_self (by simp; exact lt_of_get hk3), List.getElem?_set_self lk]
        · rw [List.getElem?_set_ne e, List.getElem?_set_ne e, List.getElem?_set_ne e]
          exact Fr1.keep q hq' q1 q2 q3
      · have a := Fr2.len
        have b := Fr1.len
        simp at a ⊢
        omega
    · have e5 : m1 + (n :: ns).length = m1 + 1 + ns.length := by simp; omega
      have e6 : m2 + (n :: ns).length = m2 + 1 + ns.length := by simp; omega
      rw [e5, e6]
      exact h2
    · have f1 : ∀ rest : IR, iFld "Line" (iVar 0) "line_streams" (some (.obj i) :: rest) S = some (.ok (.dat (encSs r few)) S) := fun rest => ln_i _ _ rfl h.s rfl
      have nC := noList_encCs n
      have hcr : F_come_right [.int 1, encCs n] = some (.bool true) := F_come_right_ok (hn n (by simp))
      have b1 : bIf (iNot (iValT (iCallD F_come_right (iCons (iLen (iFld "Line" (iVar 0) "line_streams")) (iCons (iP (eVar 4)) iNil))))) (bSeq bNever bNil) bNil [some (.obj i), x1, some (.obj k), some (.dat (.int j)), some (.dat (encCs n))] S = some (.nx [some (.obj i), x1, some (.obj k), some (.dat (.int j)), some (.dat (encCs n))] S) := by
        simp [-iFld, f1, encSs, nC, hcr]
      have hz3 : acc.length < 10000 := by simp at z3; omega
      have b2 : bExp (iAppend (iVar 2) (iMeth "Line" "step" FI_Line_step (iVar 0) (iCons (iP (eVar 4)) iNil))) [some (.obj i), x1, some (.obj k), some (.dat (.int j)), some (.dat (encCs n))] S = some (.nx [some (.obj i), x1, some (.obj k), some (.dat (.int j)), some (.dat (encCs n))] (S1.set k (.lst (acc ++ [.dat (encRs (servedR r few l n))])))) := by
        have e4 := callStep (x2 := some (.obj k)) (x3 := some (.dat (.int j))) h e1 x1
        simp only [bExp, iAppend, iBind, iVar, List.getElem?_cons_zero, List.getElem?_cons_succ, hk2] at e4 ⊢
        rw [e4]
        simp only [hk3, hz3, if_true]
        rfl
      rw [List.map_cons, enumD, List.map_cons, bForL]
      have b3 : stepsG (.dat (.tuple [.int j, encCs n])) [some (.obj i), x1, some (.obj k), x3, x4] S = some ([some (.obj i), x1, some (.obj k), some (.dat (.int j)), some (.dat (encCs n))], S) := by simp [stepsG]
      have b4 : stepsB [some (.obj i), x1, some (.obj k), some (.dat (.int j)), some (.dat (encCs n))] S = some (.nx [some (.obj i), x1, some (.obj k), some (.dat (.int j)), some (.dat (encCs n))] (S1.set k (.lst (acc ++ [.dat (encRs (servedR r few l n))])))) := by
        simp only [stepsB, bSeq, b1, b2, bNil]
      simp only [b3, b4]
      exact e2
end KW
/-! MJ: a Line's run; the words of a line -/
namespace KW
open PySem PySem.Spec L2
def encTs (ns : List Nat) : PyData := .tuple (ns.map encCs)
theorem noLists_Ts : ∀ ns : List Nat, noLists (ns.map encCs) = true
  | [] => rfl
  | n :: ns => by simp [noLists_Ts ns, noList_encCs]
theorem noList_encTs (ns : List Nat) : noList (encTs ns) = true := by simp [encTs, noLists_Ts]
theorem datsOf_Rs : ∀ rs : List (List (Str × Int)), datsOf (rs.map fun r => IV.dat (encRs r)) = some (rs.map encRs)
  | [] => rfl
  | r :: rs => by simp [datsOf_Rs rs]
theorem noLists_Rs : ∀ rs : List (List (Str × Int)), noLists (rs.map encRs) = true
  | [] => rfl
  | r :: rs => by simp [noLists_Rs rs, encRs, noLists_rows]
section
variable {r : Rl} {few : Int} {S : HS} {base i p d : Nat} {g : Bool} {c : Int} {l : Ln} {m1 m2 : Nat}
theorem LnS.app (h : LnS r few S base i p d g c l m1 m2) (T : HS) : LnS r few (S ++ T) base i p d g c l m1 m2 := by
  obtain ⟨a0, ⟨P, a1, a1'⟩, ⟨D, a2, a2'⟩, a3, a4, a5, a6, a7, a8, a9, a10, a11⟩ := h
  exact ⟨by rw [List.getElem?_append_left (lt_of_get a0)]; exact a0, ⟨P, by rw [List.getElem?_append_left (lt_of_get a1)]; exact a1, a1'⟩, ⟨D, by rw [List.getElem?_append_left (lt_of_get a2)]; exact a2, a2'⟩, a3, a4, a5, a6, a7, a8, a9, a10, a11⟩
theorem all_steps_ok (hr : r.Ok) (hf : few ≤ 99) (h : LnS r few S base i p d g c l m1 m2) (ns : List Nat) (hn : ∀ n ∈ ns, n ≤ 64) (hz : ns.length ≤ 400) (hm1 : m1 ≤ 1000) (hm2 : m2 ≤ 1000) (hb : base ≤ S.length) :
    ∃ S' g' c', Fx i p d S S' ∧ LnS r few S' base i p d g' c' (runL r few l ns) (m1 + ns.length) (m2 + ns.length) ∧
      FI_Line_all_steps [.obj i, .dat (encTs ns)] S = some (.ok (.dat (.tuple ((rowsR r few l ns).map encRs))) S') := by
  have li := lt_of_get h.s
  obtain ⟨P, hP, _⟩ := h.r1
  obtain ⟨D, hD, _⟩ := h.r2
  have lp := lt_of_get hP
  have ld := lt_of_get hD
  obtain ⟨S', g', c', y3, y4, Fr1, h1, e1, e2⟩ := steps_loop hr hf (some (.dat (encTs ns))) S.length ⟨by omega, by omega, by omega⟩ ns 0 (S ++ [.lst []]) g c l m1 m2 [] none none hn (h.app _) (by simp) (by omega) (by omega) (by simp; omega) (by simp; omega)
  simp only [List.nil_append] at Fr1 e1 e2
  refine ⟨S', g', c', ⟨fun j hj q1 q2 q3 => ?_, ?_⟩, h1, ?_⟩
  · rw [Fr1.keep j (by simp; omega) q1 q2 q3, List.getElem?_set_ne (by omega), List.getElem?_append_left hj]
  · have := Fr1.len
    simp at this
    omega
  · have nT := noList_encTs ns
    unfold FI_Line_all_steps runI
    simp only [List.map_cons, List.map_nil, List.length_cons, List.length_nil, List.cons_append, List.nil_append, Nat.reduceAdd, Nat.reduceSub, List.replicate]
    rw [bSeq_nx (ρ' := [some (.obj i), some (.dat (encTs ns)), none, none, none]) (S' := S) (by
      rw [bIfF (by
        have : ¬ (400 : Int) < ns.length := by omega
        simp [encTs]
        omega)]
      rfl)]
    rw [bSeq_nx bAsgLst]
    simp only [List.set_cons_succ, List.set_cons_zero]
    rw [bSeq_nx (bFor_ok (S1 := S ++ [.lst []]) (xs := (enumD 0 (ns.map encCs)).map .dat) (by
      simp [nT]
      simp [encTs]) e1)]
    simp [bRet, e2, datsOf_Rs]
theorem ln_diary {st : PyData} {d' : Nat} (h : S[i]? = some (lnO r few st p d)) (rest : IR) : gIF "Line" 0 "line_diary" (.obj d') (some (.obj i) :: rest) S = some (some (.obj i) :: rest, S.set i (lnO r few st p d')) := by
  simp only [gIF, List.getElem?_cons_zero, putFld, h, lnO]
  rfl
theorem Line_run_ok (hr : r.Ok) (hf : few ≤ 99) (h : LnS r few S base i p d g c l m1 m2) (ns : List Nat) (hn : ∀ n ∈ ns, n ≤ 64) (hz : ns.length ≤ 400) (hm1 : m1 ≤ 1000) (hm2 : m2 ≤ 1000) (hb : base ≤ S.length) :
    ∃ S', Fr base S S' ∧ FI_Line_run [.obj i, .dat (encTs ns)] S = some (.ok (.dat (.tuple ((rowsR r few l ns).map encRs))) S') := by
  have li := lt_of_get h.s
  obtain ⟨P, hP, hPl⟩ := h.r1
  obtain ⟨D, hD, hDl⟩ := h.r2
  have lp := lt_of_get hP
  have ld := lt_of_get hD
  -- a new diary
  obtain ⟨S0, hS0⟩ : ∃ S0, S0 = (S ++ [Ob.lst []]).set i (lnO r few (encSt 0 g (ringZ l) c l) p S.length) := ⟨_, rfl⟩
  have sA : (S ++ [Ob.lst []])[i]? = some (lnO r few (encSt 0 g (ringZ l) c l) p d) := by rw [List.getElem?_append_left li]; exact h.s
  have h0 : LnS r few S0 base i p S.length g c l m1 0 := by
    rw [hS0]
    refine ⟨List.getElem?_set_self (by simp; omega), ⟨P, by rw [List.getElem?_set_ne h.n1, List.getElem?_append_left lp]; exact hP, hPl⟩, ⟨[], by rw [List.getElem?_set_ne (by omega)]; simp, rfl⟩, h.n1, by omega, by omega, h.b0, h.b1, hb, h.ok, h.c0, h.e0⟩
  have hl0 : S0.length = S.length + 1 := by rw [hS0]; simp
  have hD0 : S0[d]? = some (.lst D) := by rw [hS0, List.getElem?_set_ne h.n2, List.getElem?_append_left ld]; exact hD
  obtain ⟨S1, g1, c1, Fr1, h1, e1⟩ := all_steps_ok hr hf h0 ns hn hz hm1 (by omega) (by omega)
  obtain ⟨D2, hD2, hD2l⟩ := h1.r2
  have hD1 : S1[d]? = some (.lst D) := by rw [Fr1.keep d (by omega) (Ne.symm h.n2) (Ne.symm h.n3) (by omega)]; exact hD0
  have nT := noList_encTs ns
  have nR : noList (.tuple ((rowsR r few l ns).map encRs)) = true := by simp [noLists_Rs]
  have f1 : ∀ rest : IR, iFld "Line" (iVar 0) "line_diary" (some (.obj i) :: rest) S = some (.ok (.obj d) S) := fun rest => ln_i _ _ rfl h.s rfl
  have l1 := Fr1.len
  have li1 : i < S1.length := by omega
  have hi : isI "Line" "all_steps" S0 (.obj i) = true := by
    simp only [isI, h0.s, lnO]
    rfl
  -- the end of the diary
  obtain ⟨S2, hS2⟩ : ∃ S2, S2 = S1 ++ [Ob.lst [.dat (.tuple [.str "run", .str "done"])], Ob.lst (D ++ [.dat (.tuple [.str "run", .str "done"])]), Ob.lst (D ++ [.dat (.tuple [.str "run", .str "done"])] ++ D2)] := ⟨_, rfl⟩
  have b3 : bAsg (iTwo catGo (iTwo catGo (iVar 2) (iLst (iCons (iP (eTup (aCons (eC (.str "run")) (aCons (eVar 3) aNil)))) iNil))) (iFld "Line" (iVar 0) "line_diary")) (gIF "Line" 0 "line_diary") [some (.obj i), some (.dat (encTs ns)), some (.obj d), some (.dat (.str "done")), some (.dat (.tuple ((rowsR r few l ns).map encRs)))] S1 =
      some (.nx [some (.obj i), some (.dat (encTs ns)), some (.obj d), some (.dat (.str "done")), some (.dat (.tuple ((rowsR r few l ns).map encRs)))] (S2.set i (lnO r few (encSt 0 g1 (ringZ (runL r few l ns)) c1 (runL r few l ns)) p (S1.length + 2)))) := by
    have a1 : ∀ x : Ob, (S1 ++ [x])[d]? = some (.lst D) := fun x => by rw [List.getElem?_append_left (lt_of_get hD1)]; exact hD1
    have a2 : ∀ x y : Ob, (S1 ++ [x, y])[i]? = some (lnO r few (encSt 0 g1 (ringZ (runL r few l ns)) c1 (runL r few l ns)) p S.length) := fun x y => by rw [List.getElem?_append_left li1]; exact h1.s
    have a3 : ∀ x y : Ob, (S1 ++ [x, y])[S.length]? = some (.lst D2) := fun x y => by rw [List.getElem?_append_left (lt_of_get hD2)]; exact hD2
    have a4 : ∀ x y : Ob, (S1 ++ [x, y])[S1.length + 1]? = some y := fun x y => by rw [at_ap]; rfl
    have a5 : ∀ x : Ob, (S1 ++ [x])[S1.length]? = some x := fun x => by simp
    have f2 : ∀ (x y : Ob) (rest : IR), iFld "Line" (iVar 0) "line_diary" (some (.obj i) :: rest) (S1 ++ [x, y]) = some (.ok (.obj S.length) (S1 ++ [x, y])) := fun x y rest => ln_i _ _ rfl (a2 x y) rfl
    have z1 : D.length + 1 < 10000 := by omega
    have z2 : D.length + (1 + D2.length) < 10000 := by omega
    have z3 : D.length + 1 + D2.length < 10000 := by omega
    have a6 : S2[i]? = some (lnO r few (encSt 0 g1 (ringZ (runL r few l ns)) c1 (runL r few l ns)) p S.length) := by rw [hS2, List.getElem?_append_left li1]; exact h1.s
    have e5 : iTwo catGo (iTwo catGo (iVar 2) (iLst (iCons (iP (eTup (aCons (eC (.str "run")) (aCons (eVar 3) aNil)))) iNil))) (iFld "Line" (iVar 0) "line_diary") [some (.obj i), some (.dat (encTs ns)), some (.obj d), some (.dat (.str "done")), some (.dat (.tuple ((rowsR r few l ns).map encRs)))] S1 = some (.ok (.obj (S1.length + 2)) S2) := by
      rw [hS2]
      simp [-iFld, a1, a3, a4, f2, z1, z2, z3]
    simp only [bAsg, e5, ln_diary a6]
  refine ⟨S2.set i (lnO r few (encSt 0 g1 (ringZ (runL r few l ns)) c1 (runL r few l ns)) p (S1.length + 2)), ⟨fun j hj => ?_, ?_⟩, ?_⟩
  · have jb : j ≠ i := by have := h.b0; omega
    rw [List.getElem?_set_ne (Ne.symm jb), hS2, List.getElem?_append_left (by omega), Fr1.keep j (by omega) jb (by have := h.b1; omega) (by omega), hS0, List.getElem?_set_ne (Ne.symm jb), List.getElem?_append_left (by omega)]
  · rw [List.length_set, hS2]
    simp
    omega
  · unfold FI_Line_run runI
    simp only [List.map_cons, List.map_nil, List.length_cons, List.length_nil, List.cons_append, List.nil_append, Nat.reduceAdd, Nat.reduceSub, List.replicate]
    rw [bSeq_nx (ρ' := [some (.obj i), some (.dat (encTs ns)), some (.obj d), none, none]) (S' := S) (by
      simp only [bAsg, f1]
      rfl)]
    rw [bSeq_nx (ρ' := [some (.obj i), some (.dat (encTs ns)), some (.obj d), none, none]) (S' := S0) (by
      simp only [bAsg, iLst, iBind, iNil, ln_diary sA, hS0])]
    rw [bSeq_nx (bAsgN (f := eC (.str "refused")) rfl rfl)]
    simp only [List.set_cons_succ, List.set_cons_zero]
    have b1 : bAsg (iMeth "Line" "all_steps" FI_Line_all_steps (iVar 0) (iCons (iP (eVar 1)) iNil)) (gIN 4) [some (.obj i), some (.dat (encTs ns)), some (.obj d), some (.dat (.str "refused")), none] S0 =
        some (.nx [some (.obj i), some (.dat (encTs ns)), some (.obj d), some (.dat (.str "refused")), some (.dat (.tuple ((rowsR r few l ns).map encRs)))] S1) := by
      simp only [bAsg, iMeth, iBind, iVar, List.getElem?_cons_zero, hi, if_true, iCons, iP, List.map_cons, List.map_nil, prj, eVar, List.getElem?_cons_succ, iRet, nT, iNil, iRA, e1, gIN, List.set_cons_succ, List.set_cons_zero]
    rw [bSeq_rt (x := .dat (.tuple ((rowsR r few l ns).map encRs))) (S' := S2.set i (lnO r few (encSt 0 g1 (ringZ (runL r few l ns)) c1 (runL r few l ns)) p (S1.length + 2))) (by
      simp only [bFin, rSeq, b1]
      rw [bAsgN (f := eC (.str "done")) rfl rfl]
      simp only [List.set_cons_succ, List.set_cons_zero]
      have b4 : rRet (iP (eVar 4)) [some (.obj i), some (.dat (encTs ns)), some (.obj d), some (.dat (.str "done")), some (.dat (.tuple ((rowsR r few l ns).map encRs)))] S1 = some (.dat (.tuple ((rowsR r few l ns).map encRs)), [some (.obj i), some (.dat (encTs ns)), some (.obj d), some (.dat (.str "done")), some (.dat (.tuple ((rowsR r few l ns).map encRs)))], S1) := by
        simp [noLists_Rs]
      rw [b4]
      simp only [bSeq, b3, bNil])]
end
end KW
/-! MK: a new Line; the words that a Line tells -/
namespace KW
open PySem PySem.Spec L2
theorem bExpC {f : DE} {ρ : IR} {S : HS} (h : f (ρ.map prj) = some .none) : bExp (iP f) ρ S = some (.nx ρ S) := bExpN h rfl
theorem Line_init_ok {r : Rl} {few : Int} (hr : r.Ok) (h1 : 1 ≤ few) (h2 : few ≤ 99) (S : HS) :
    FI_Line_init [.obj S.length, .dat (encSs r few), .dat (.int 1), .dat .none] (S ++ [.ins "Line" []]) =
      some (.ok (.dat .none) (S ++ [lnO r few (encSt 0 false (ringZ (emptyL r)) 0 (emptyL r)) (S.length + 1) (S.length + 2), .lst [], .lst []])) := by
  have e1 := F_need_streams_ok hr h1 h2
  have e2 := F_need_rate_ok (m := 1) (by decide) (by decide)
  have e3 := F_first_standing_ok hr h1 h2
  have e4 := F_need_standing_ok hr h1
  have e5 : encSt 0 false (ringZ (emptyL r)) 0 (emptyL r) = encSt 0 false [] 0 (emptyL r) := rfl
  rw [e5]
  have nS : noList (encSs r few) = true := by simp [encSs, noList_encS]
  have nT : noList (encSt 0 false [] 0 (emptyL r)) = true := noList_encSt 0 false [] 0 (emptyL r)
  unfold FI_Line_init runI
  simp only [List.map_cons, List.map_nil, List.length_cons, List.length_nil, List.cons_append, List.nil_append, Nat.reduceAdd, Nat.reduceSub, List.replicate]
  rw [bSeq_nx (bExpC (by simp [e1]))]
  rw [bSeq_nx (bExpC (by simp [e2]))]
  rw [bSeq_nx (ρ' := [some (.obj S.length), some (.dat (encSs r few)), some (.dat (.int 1)), some (.dat (encSt 0 false [] 0 (emptyL r)))]) (S' := S ++ [.ins "Line" []]) (by
    rw [bIfT (by simp)]
    rw [bSeq_nx (bAsgN (d := encSt 0 false [] 0 (emptyL r)) (by simp [e3]) nT)]
    rfl)]
  rw [bSeq_nx (bExpC (by simp [e4]))]
  rw [bSeq_nx (ρ' := [some (.obj S.length), some (.dat (encSs r few)), some (.dat (.int 1)), some (.dat (encSt 0 false [] 0 (emptyL r)))]) (S' := S ++ [.ins "Line" [("line_streams", .dat (encSs r few)), ("line_rate", .dat (.int 1)), ("line_standing", .dat (encSt 0 false [] 0 (emptyL r)))]]) (by
    simp (decide := true) [nS, nT, putFld, putI])]
  rw [bSeq_nx (ρ' := [some (.obj S.length), some (.dat (encSs r few)), some (.dat (.int 1)), some (.dat (encSt 0 false [] 0 (emptyL r)))]) (S' := S ++ [.ins "Line" [("line_streams", .dat (encSs r few)), ("line_rate", .dat (.int 1)), ("line_standing", .dat (encSt 0 false [] 0 (emptyL r))), ("line_past", .obj (S.length + 1))], .lst []]) (by
    simp (decide := true) [putFld, putI])]
  rw [bSeq_nx (ρ' := [some (.obj S.length), some (.dat (encSs r few)), some (.dat (.int 1)), some (.dat (encSt 0 false [] 0 (emptyL r)))]) (S' := S ++ [lnO r few (encSt 0 false [] 0 (emptyL r)) (S.length + 1) (S.length + 2), .lst [], .lst []]) (by
    simp (decide := true) [putFld, putI, lnO])]
  rfl
abbrev csE : DE := eBin fMulR (eTup (aCons (eTup (aCons (eC (.int 0)) (aCons (eC (.int 1)) (aCons (eC (.bool false)) aNil)))) aNil)) (eVar 5)
theorem flat_rep (x : PyData) : ∀ n : Nat, (List.replicate n [x]).flatten = List.replicate n x
  | 0 => rfl
  | n + 1 => by simp [List.replicate_succ, flat_rep x n]
theorem csE_ok {ρ : DS} {n : Nat} (h : ρ[5]? = some (some (.dat (.int n)))) (hn : n ≤ 1000) : csE ρ = some (encCs n) := by
  have a : ((n : Int)).toNat = n := rfl
  have b : (n : Int) ≤ 1000 := by omega
  simp [csE, fMulR, h, flat_rep, encCs, encC, b]
theorem dMap_cs {ρ : DS} (h : 5 < ρ.length) : ∀ ns : List Nat, (∀ n ∈ ns, n ≤ 1000) → dMap (gNm 5) csE ρ (ns.map fun (n : Nat) => PyData.int n) = some (ns.map encCs)
  | [], _ => rfl
  | n :: ns, hn => by
    have ih := dMap_cs h ns fun m hm => hn m (by simp [hm])
    have e : csE (ρ.set 5 (some (.dat (.int n)))) = some (encCs n) := csE_ok (by rw [List.getElem?_set_self h]) (hn n (by simp))
    rw [List.map_cons, dMap]
    simp only [gNm, e, ih, List.map_cons]
abbrev rwE : DE := eIx (eVar 7) 0
theorem dMap_row {ρ : DS} (h : 7 < ρ.length) : ∀ rs : List (Str × Int), dMap (gNm 7) rwE ρ (rs.map rowD) = some (rs.map fun p => PyData.str p.1)
  | [] => rfl
  | p :: rs => by
    have ih := dMap_row h rs
    have e : rwE (ρ.set 7 (some (.dat (rowD p)))) = some (.str p.1) := by simp [rwE, h, rowD]
    rw [List.map_cons, dMap]
    simp only [gNm, e, ih, List.map_cons]
theorem noLists_strs : ∀ rs : List (Str × Int), noLists (rs.map fun p => PyData.str p.1) = true
  | [] => rfl
  | p :: rs => by simp [noLists_strs rs]
abbrev tkE : DE := eTupOf (eLc (List.map (fun p : Str × Nat => p.2) [("_law_row", 7)]) (iTupD (eVar 6)) (gNm 7) rwE)
theorem tkE_ok {ρ : DS} {rs : List (Str × Int)} (h : ρ[6]? = some (some (.dat (encRs rs)))) (h7 : 7 < ρ.length) (hz : rs.length ≤ 10000) : tkE ρ = some (wsD (rs.map Prod.fst)) := by
  have e : eLc [7] (iTupD (eVar 6)) (gNm 7) rwE ρ = some (.list (rs.map fun p => PyData.str p.1)) := eLc_eq (ds := rs.map rowD) (by simp [h, encRs]) (by simpa using hz) (dMap_row (by simp [wipeD, h7]) rs) (noLists_strs rs)
  simp only [tkE, eTupOf, List.map_cons, List.map_nil, e, wsD, List.map_map]
  rfl
theorem dMap_tick {ρ : DS} (h : 7 < ρ.length) : ∀ rss : List (List (Str × Int)), (∀ rs ∈ rss, rs.length ≤ 10000) → dMap (gNm 6) tkE ρ (rss.map encRs) = some (rss.map fun rs => wsD (rs.map Prod.fst))
  | [], _ => rfl
  | rs :: rss, hn => by
    have ih := dMap_tick h rss fun m hm => hn m (by simp [hm])
    have e : tkE (ρ.set 6 (some (.dat (encRs rs)))) = some (wsD (rs.map Prod.fst)) := tkE_ok (by rw [List.getElem?_set_self (by omega)]) (by simpa using h) (hn rs (by simp))
    rw [List.map_cons, dMap]
    simp only [gNm, e, ih, List.map_cons]
theorem serve_len (r : Rl) : ∀ (n : Nat) (l : Ln), (serve r n l).2.1.length ≤ n
  | 0, l => by simp [serve]
  | n + 1, l => by
    have ih := serve_len r n (headL r l).1
    unfold serve
    by_cases he : l.ws = []
    · simp [he]
    · by_cases hd : (headL r l).2 = "drop"
      · simp only [if_neg he, if_pos hd, List.length_cons]
        omega
      · simp [if_neg he, if_neg hd]
theorem doneM_ok {r : Rl} {few : Int} {l : Ln} (hr : r.Ok) (hf : few ≤ 99) (hl : LnOk r few l) {n : Nat} (hn : n ≤ 1000) : LnOk r few (doneM r few l n).1 := (done_by_ok hr hf hl hn []).2
theorem doneM_len {r : Rl} {few : Int} {l : Ln} (hr : r.Ok) (hf : few ≤ 99) (hl : LnOk r few l) (n : Nat) : (doneM r few l n).2.1.length ≤ n + 99 := by
  have h2 := (F_lane_renewed_by_ok (c := 0) hr hl).2
  obtain ⟨a, b⟩ := puts_ok hr hf n _ h2
  have c := serve_len r (puts r few n (renL r l)).1.ws.length (puts r few n (renL r l)).1
  have d := a.3
  simp only [doneM, List.length_append, b]
  omega
theorem rowsR_lens {r : Rl} {few : Int} (hr : r.Ok) (hf : few ≤ 99) : ∀ (ns : List Nat) (l : Ln), LnOk r few l → (∀ n ∈ ns, n ≤ 64) → ∀ rs ∈ rowsR r few l ns, rs.length ≤ 10000
  | [], l, hl, hn, rs, h => by cases h
  | n :: ns, l, hl, hn, rs, h => by
    have hn1 := hn n (by simp)
    rcases List.mem_cons.mp h with rfl | h
    · have e : (servedR r few l n).length = (doneM r few l n).2.1.length := by rw [← servedR_fst, List.length_map]
      have := doneM_len hr hf hl n
      omega
    · exact rowsR_lens hr hf ns _ (doneM_ok hr hf hl (by omega)) (fun m hm => hn m (by simp [hm])) rs h
theorem noLists_S : ∀ ws : List Str, noLists (ws.map PyData.str) = true
  | [] => rfl
  | w :: ws => by simp [noLists_S ws]
theorem noLists_Ws : ∀ ws : List (List Str), noLists (ws.map wsD) = true
  | [] => rfl
  | w :: ws => by simp [noLists_Ws ws, wsD, noLists_S]
theorem noLists_wss : ∀ ws : List (List (Str × Int)), noLists (ws.map fun rs => wsD (rs.map Prod.fst)) = true
  | [] => rfl
  | w :: ws => by
    have ih := noLists_wss ws
    have e : noList (wsD (w.map Prod.fst)) = true := by simp only [wsD, noList, noLists_S]
    simp only [List.map_cons, noLists, ih, e, Bool.and_self]
theorem law_words_ok {r : Rl} {few : Int} (hr : r.Ok) (h1 : 1 ≤ few) (h2 : few ≤ 99) (ns : List Nat) (hn : ∀ n ∈ ns, n ≤ 64) (hz : ns.length ≤ 400) (S : HS) :
    ∃ S', Fr S.length S S' ∧ FI__law_words [.dat (encR r), .dat (.int few), .dat (encN ns)] S = some (.ok (.dat (encWs (runW r few (emptyL r) ns))) S') := by
  obtain ⟨T, hT⟩ : ∃ T, T = S ++ [lnO r few (encSt 0 false (ringZ (emptyL r)) 0 (emptyL r)) (S.length + 1) (S.length + 2), .lst [], .lst []] := ⟨_, rfl⟩
  have L0 : LnS r few T S.length S.length (S.length + 1) (S.length + 2) false 0 (emptyL r) 0 0 := by
    rw [hT]
    refine ⟨by simp, ⟨[], by rw [at_ap]; rfl, rfl⟩, ⟨[], by rw [at_ap]; rfl, rfl⟩, by omega, by omega, by omega, by omega, by omega, by omega, emptyL_ok hr h1, by omega, fun _ => ⟨rfl, rfl⟩⟩
  obtain ⟨S1, Fr1, e1⟩ := Line_run_ok hr h2 L0 ns hn hz (by omega) (by omega) (by rw [hT]; simp)
  have e0 := Line_init_ok hr h1 h2 S
  rw [← hT] at e0
  refine ⟨S1, ⟨fun j hj => ?_, ?_⟩, ?_⟩
  · rw [Fr1.keep j hj, hT, List.getElem?_append_left hj]
  · have := Fr1.len
    rw [hT] at this
    simp at this
    omega
  · have nR := noList_encR r
    have nN := noList_encN ns
    have nS : noList (encSs r few) = true := by simp [encSs, noList_encS]
    have nRs : noList (.tuple ((rowsR r few (emptyL r) ns).map encRs)) = true := by simp [noLists_Rs]
    have hi : isI "Line" "run" T (.obj S.length) = true := by
      simp only [isI, L0.s, lnO]
      rfl
    unfold FI__law_words runI
    simp only [List.map_cons, List.map_nil, List.length_cons, List.length_nil, List.cons_append, List.nil_append, Nat.reduceAdd, Nat.reduceSub, List.replicate]
    rw [bSeq_nx (ρ' := [some (.dat (encR r)), some (.dat (.int few)), some (.dat (encN ns)), some (.obj S.length), none, none, none, none]) (S' := T) (by
      have b : eTup (aCons (eTup (aCons (eC (.int 1)) (aCons (eVar 0) (aCons (eVar 1) aNil)))) aNil) (List.map prj [some (.dat (encR r)), some (.dat (.int few)), some (.dat (encN ns)), none, none, none, none, none]) = some (encSs r few) := by
        simp [nR, encSs, encS]
      simp only [bAsg, iMakeKw, iBind, iCons, iP, b, iNil, eC, iRA, iRet, nS, noList, if_true, List.cons_append, List.nil_append, e0, gIN, List.set_cons_succ, List.set_cons_zero])]
    rw [bSeq_nx (ρ' := [some (.dat (encR r)), some (.dat (.int few)), some (.dat (encN ns)), some (.obj S.length), some (.dat (.tuple ((rowsR r few (emptyL r) ns).map encRs))), none, none, none]) (S' := S1) (by
      have c1 : eTupOf (eLc [5] (iTupD (eVar 2)) (gNm 5) csE) [some (.dat (encR r)), some (.dat (.int few)), some (.dat (encN ns)), none, none, none, none, none] = some (encTs ns) := by
        have e : eLc [5] (iTupD (eVar 2)) (gNm 5) csE [some (.dat (encR r)), some (.dat (.int few)), some (.dat (encN ns)), none, none, none, none, none] = some (.list (ns.map encCs)) := eLc_eq (ds := ns.map fun (n : Nat) => PyData.int n) (by simp [encN]) (by simpa using Nat.le_trans hz (by decide)) (dMap_cs (by simp [wipeD]) ns fun n h => Nat.le_trans (hn n h) (by decide)) (noLists_Ts ns)
        simp only [eTupOf, e, encTs]
      have nT := noList_encTs ns
      simp only [bAsg, iMeth, iBind, iVar, List.getElem?_cons_zero, hi, if_true, iCons, iP, List.map_cons, List.map_nil, prj, List.getElem?_cons_succ, c1, iRet, nT, iNil, iRA, e1, gIN, List.set_cons_succ, List.set_cons_zero])]
    have c2 : eTupOf (eLc [6] (iTupD (eVar 4)) (gNm 6) tkE) [some (.dat (encR r)), some (.dat (.int few)), some (.dat (encN ns)), none, some (.dat (.tuple ((rowsR r few (emptyL r) ns).map encRs))), none, none, none] = some (encWs (runW r few (emptyL r) ns)) := by
      have q := rowsR_lens hr h2 ns _ (emptyL_ok hr h1) hn
      have ql := rowsR_len r few ns (emptyL r)
      have e : eLc [6] (iTupD (eVar 4)) (gNm 6) tkE [some (.dat (encR r)), some (.dat (.int few)), some (.dat (encN ns)), none, some (.dat (.tuple ((rowsR r few (emptyL r) ns).map encRs))), none, none, none] = some (.list ((rowsR r few (emptyL r) ns).map fun rs => wsD (rs.map Prod.fst))) := eLc_eq (ds := (rowsR r few (emptyL r) ns).map encRs) (by simp) (by simp; omega) (dMap_tick (by simp [wipeD]) _ q) (noLists_wss _)
      simp only [eTupOf, e, encWs, ← rowsR_fst, List.map_map]
      rfl
    have nW : noList (encWs (runW r few (emptyL r) ns)) = true := by simp [encWs, noLists_Ws]
    simp only [tkE, rwE, List.map_cons, List.map_nil] at c2
    simp only [bSeq, bRet, iP, List.map_cons, List.map_nil, prj, c2, iRet, nW, if_true]
end KW
/-! ML: words held against one another -/
namespace KW
open PySem PySem.Spec L2
def WsOk (ws : List Str) : Prop := ∀ w ∈ ws, PyData.canLay0 (.str w) = true
theorem canLay_strs : ∀ ws : List Str, WsOk ws → PyData.canLayAll0 (ws.map PyData.str) = true
  | [], _ => rfl
  | w :: ws, h => by
    have ih := canLay_strs ws fun v hv => h v (by simp [hv])
    show (PyData.canLay0 (.str w) && PyData.canLayAll0 (ws.map PyData.str)) = true
    rw [ih, h w (by simp)]; rfl
theorem depth_strs : ∀ ws : List Str, PyData.depthAll (ws.map PyData.str) ≤ 1
  | [] => by decide
  | w :: ws => by
    have ih := depth_strs ws
    show max (PyData.depth (.str w)) (PyData.depthAll (ws.map PyData.str)) ≤ 1
    have : PyData.depth (.str w) = 0 := rfl
    omega
theorem eqvAll_strs : ∀ xs ys : List Str, PyData.eqvAll (xs.map PyData.str) (ys.map PyData.str) = decide (xs = ys)
  | [], [] => rfl
  | [], _ :: _ => rfl
  | _ :: _, [] => rfl
  | x :: xs, y :: ys => by
    have ih := eqvAll_strs xs ys
    rw [List.map_cons, List.map_cons, PySem.W.eqv_all_cons, ih]
    have : PyData.eqv (.str x) (.str y) = decide (x = y) := by
      rw [PyData.eqv]
      by_cases a : x = y <;> simp [a]
    rw [this]
    by_cases a : x = y <;> by_cases b : xs = ys <;> simp [a, b]
theorem shaped_wsD {ws : List Str} (h : WsOk ws) : SeqAt.shaped (wsD ws) = true := by
  unfold SeqAt.shaped
  have e1 : PyData.canLay0 (wsD ws) = true := canLay_strs ws h
  have e2 : PyData.depth (wsD ws) ≤ 64 := by
    show PyData.depthAll (ws.map PyData.str) + 1 ≤ 64
    have := depth_strs ws
    omega
  rw [e1, decide_eq_true e2]; rfl
theorem eqv_wsD (xs ys : List Str) : PyData.eqv (wsD xs) (wsD ys) = decide (xs = ys) := by
  unfold wsD
  rw [PyData.eqv, eqvAll_strs]
theorem dNe_wsD {xs ys : List Str} (h : WsOk xs) (h' : WsOk ys) : dNe (wsD xs) (wsD ys) = some (!decide (xs = ys)) := by
  unfold dNe
  rw [shaped_wsD h, shaped_wsD h', eqv_wsD]; rfl
theorem canLay_wss : ∀ ws : List (List Str), (∀ w ∈ ws, WsOk w) → PyData.canLayAll0 (ws.map wsD) = true
  | [], _ => rfl
  | w :: ws, h => by
    have ih := canLay_wss ws fun v hv => h v (by simp [hv])
    show (PyData.canLayAll0 (w.map PyData.str) && PyData.canLayAll0 (ws.map wsD)) = true
    rw [ih, canLay_strs w (h w (by simp))]; rfl
theorem depth_wss : ∀ ws : List (List Str), PyData.depthAll (ws.map wsD) ≤ 2
  | [] => by decide
  | w :: ws => by
    have ih := depth_wss ws
    have := depth_strs w
    show max (PyData.depthAll (w.map PyData.str) + 1) (PyData.depthAll (ws.map wsD)) ≤ 2
    omega
theorem eqvAll_wss : ∀ xs ys : List (List Str), PyData.eqvAll (xs.map wsD) (ys.map wsD) = decide (xs = ys)
  | [], [] => rfl
  | [], _ :: _ => rfl
  | _ :: _, [] => rfl
  | x :: xs, y :: ys => by
    have ih := eqvAll_wss xs ys
    rw [List.map_cons, List.map_cons, PySem.W.eqv_all_cons, ih, eqv_wsD]
    by_cases a : x = y <;> by_cases b : xs = ys <;> simp [a, b]
def WssOk (ws : List (List Str)) : Prop := ∀ w ∈ ws, WsOk w
theorem shaped_encWs {ws : List (List Str)} (h : WssOk ws) : SeqAt.shaped (encWs ws) = true := by
  unfold SeqAt.shaped
  have e1 : PyData.canLay0 (encWs ws) = true := canLay_wss ws h
  have e2 : PyData.depth (encWs ws) ≤ 64 := by
    show PyData.depthAll (ws.map wsD) + 1 ≤ 64
    have := depth_wss ws
    omega
  rw [e1, decide_eq_true e2]; rfl
theorem eqv_encWs (xs ys : List (List Str)) : PyData.eqv (encWs xs) (encWs ys) = decide (xs = ys) := by
  unfold encWs
  rw [PyData.eqv, eqvAll_wss]
theorem dNe_encWs {xs ys : List (List Str)} (h : WssOk xs) (h' : WssOk ys) : dNe (encWs xs) (encWs ys) = some (!decide (xs = ys)) := by
  unfold dNe
  rw [shaped_encWs h, shaped_encWs h', eqv_encWs]; rfl
theorem dEq_encWs {xs ys : List (List Str)} (h : WssOk xs) (h' : WssOk ys) : dEq (encWs xs) (encWs ys) = some (decide (xs = ys)) := by
  unfold dEq
  rw [shaped_encWs h, shaped_encWs h', eqv_encWs]; rfl
/-! ### the words are words -/
theorem cFull : PyData.canLay0 (.str "full") = true := by decide +kernel
theorem cDrop : PyData.canLay0 (.str "drop") = true := by decide +kernel
theorem cCome : PyData.canLay0 (.str "come") = true := by decide +kernel
theorem cSend : PyData.canLay0 (.str "send") = true := by decide +kernel
theorem putL_w (r : Rl) (few : Int) (l : Ln) : PyData.canLay0 (.str (putL r few l).2) = true := by
  unfold putL
  split
  · exact cFull
  · split
    · exact cDrop
    · exact cCome
theorem headL_w (r : Rl) (l : Ln) : PyData.canLay0 (.str (headL r l).2) = true := by
  unfold headL
  split
  · exact cSend
  · simp only
    split
    · exact cDrop
    · exact cSend
theorem puts_w (r : Rl) (few : Int) : ∀ (n : Nat) (l : Ln), WsOk (puts r few n l).2
  | 0, l => by intro w h; cases h
  | n + 1, l => by
    intro w h
    rcases List.mem_cons.mp h with rfl | h
    · exact putL_w r few l
    · exact puts_w r few n _ w h
theorem serve_w (r : Rl) : ∀ (n : Nat) (l : Ln), WsOk (serve r n l).2.1
  | 0, l => by intro w h; cases h
  | n + 1, l => by
    intro w h
    unfold serve at h
    by_cases he : l.ws = []
    · simp [he] at h
    · by_cases hd : (headL r l).2 = "drop"
      · simp only [if_neg he, if_pos hd] at h
        rcases List.mem_cons.mp h with h | h
        · rw [h, hd]; exact cDrop
        · exact serve_w r n _ w h
      · simp only [if_neg he, if_neg hd, List.mem_singleton] at h
        rw [h]; exact headL_w r l
theorem doneM_w (r : Rl) (few : Int) (l : Ln) (n : Nat) : WsOk (doneM r few l n).2.1 := by
  intro w h
  simp only [doneM, List.mem_append] at h
  rcases h with h | h
  · exact puts_w r few _ _ w h
  · exact serve_w r _ _ w h
theorem runW_w (r : Rl) (few : Int) : ∀ (ns : List Nat) (l : Ln), WssOk (runW r few l ns)
  | [], l => by intro w h; cases h
  | n :: ns, l => by
    intro w h
    rcases List.mem_cons.mp h with rfl | h
    · exact doneM_w r few l n
    · exact runW_w r few ns _ w h
theorem unlike_ok {S : HS} {a b : Nat} {p q : Ln × List Str × Option Int} (ha : S[a]? = some (doneO p)) (hb : S[b]? = some (doneO q)) (wa : WsOk p.2.1) (wb : WsOk q.2.1) :
    FI_unlike_words [.obj a, .obj b] S = some (.ok (.dat (.bool (!decide (p.2.1 = q.2.1)))) S) := by
  have f1 : iFld "Done" (iVar 0) "words" [some (.obj a), some (.obj b)] S = some (.ok (.dat (wsD p.2.1)) S) := by
    simp only [iFld, iBind, iVar, List.getElem?_cons_zero, fldGo, ha, doneO]
    rfl
  have f2 : iFld "Done" (iVar 1) "words" [some (.obj a), some (.obj b)] S = some (.ok (.dat (wsD q.2.1)) S) := by
    simp only [iFld, iBind, iVar, List.getElem?_cons_zero, List.getElem?_cons_succ, fldGo, hb, doneO]
    rfl
  simp [-iFld, FI_unlike_words, runI, f1, f2, dNe_wsD wa wb]
end KW
/-! MN: two lanes that do the same -/
namespace KW
open PySem PySem.Spec L2
abbrev Pr := Ln × Ln
def encPr (p : Pr) : PyData := .tuple [encL 0 p.1, encL 0 p.2]
theorem noList_encPr (p : Pr) : noList (encPr p) = true := by simp [encPr, noList_encL]
def jO (r1 r2 : Rl) (few : Int) (fa : Addr) : Ob := .ins "Joint" [("rules", .dat (.tuple [encR r1, encR r2])), ("limit", .dat (.int few)), ("streams", .dat (.tuple [encS r1 few, encS r2 few])), ("shows", .val (.ref fa))]
section
variable {r1 r2 : Rl} {few : Int} {fa : Addr}
theorem Joint_init_ok (S : HS) : FI_Joint_init [.obj S.length, .dat (encR r1), .dat (encR r2), .dat (.int few), .val (.ref fa)] (S ++ [.ins "Joint" []]) = some (.ok (.dat .none) (S ++ [jO r1 r2 few fa])) := by
  have n1 := noList_encR r1
  have n2 := noList_encR r2
  have n3 := noList_encS r1 few
  have n4 := noList_encS r2 few
  have e1 := F_small_stream_ok (r := r1) (few := few)
  have e2 := F_small_stream_ok (r := r2) (few := few)
  unfold FI_Joint_init runI
  simp only [List.map_cons, List.map_nil, List.length_cons, List.length_nil, List.cons_append, List.nil_append, Nat.reduceAdd, Nat.reduceSub, List.replicate]
  rw [bSeq_nx (ρ' := [some (.obj S.length), some (.dat (encR r1)), some (.dat (encR r2)), some (.dat (.int few)), some (.val (.ref fa))]) (S' := S ++ [.ins "Joint" [("rules", .dat (.tuple [encR r1, encR r2]))]]) (by
    simp (decide := true) [n1, n2, putFld, putI])]
  rw [bSeq_nx (ρ' := [some (.obj S.length), some (.dat (encR r1)), some (.dat (encR r2)), some (.dat (.int few)), some (.val (.ref fa))]) (S' := S ++ [.ins "Joint" [("rules", .dat (.tuple [encR r1, encR r2])), ("limit", .dat (.int few))]]) (by
    simp (decide := true) [n1, n2, putFld, putI])]
  rw [bSeq_nx (ρ' := [some (.obj S.length), some (.dat (encR r1)), some (.dat (encR r2)), some (.dat (.int few)), some (.val (.ref fa))]) (S' := S ++ [.ins "Joint" [("rules", .dat (.tuple [encR r1, encR r2])), ("limit", .dat (.int few)), ("streams", .dat (.tuple [encS r1 few, encS r2 few]))]]) (by
    simp (decide := true) [e1, e2, n3, n4, putFld, putI])]
  rw [bSeq_nx (ρ' := [some (.obj S.length), some (.dat (encR r1)), some (.dat (encR r2)), some (.dat (.int few)), some (.val (.ref fa))]) (S' := S ++ [jO r1 r2 few fa]) (by
    simp (decide := true) [putFld, putI, jO])]
  rfl
theorem joint_alike_ok (h1 : r1.Ok) (h2 : r2.Ok) (f1 : 1 ≤ few) (f2 : few ≤ 6) {most : Int} (m1 : 1 ≤ most) (m2 : most ≤ 3) (S : HS) :
    FI_joint_alike fa [.dat (encR r1), .dat (encR r2), .dat (.int few), .dat (.int most)] S = some (.ok (.obj S.length) (S ++ [jO r1 r2 few fa])) := by
  have e1 := F_need_rules_ok h1 h2
  have e2 := F_need_small_ok h1 f1 f2
  have e3 := F_need_most_ok m1 m2
  have e4 := Joint_init_ok (r1 := r1) (r2 := r2) (few := few) (fa := fa) S
  have n1 := noList_encR r1
  have n2 := noList_encR r2
  unfold FI_joint_alike runI
  simp only [List.map_cons, List.map_nil, List.length_cons, List.length_nil, List.cons_append, List.nil_append, Nat.reduceAdd, Nat.reduceSub, List.replicate]
  rw [bSeq_nx (bExpC (by simp [e1]))]
  rw [bSeq_nx (bExpC (by simp [e2]))]
  rw [bSeq_nx (bExpC (by simp [e3]))]
  simp only [bSeq, bRet, iMake, iBind, iCons, iP, List.map_cons, List.map_nil, prj, eVar, List.getElem?_cons_zero, List.getElem?_cons_succ, iRet, n1, n2, noList, if_true, iVal, iNil, iRA, e4]
theorem fld_j {S : HS} {j : Nat} (m : Str) (x : IV) {ρ : IR} {v : Nat} (hv : ρ[v]? = some (some (.obj j))) (h : S[j]? = some (jO r1 r2 few fa))
    (hm : ([("rules", .dat (.tuple [encR r1, encR r2])), ("limit", .dat (.int few)), ("streams", .dat (.tuple [encS r1 few, encS r2 few])), ("shows", .val (.ref fa))] : List (Str × IV)).lookup m = some x) :
    iFld "Joint" (iVar v) m ρ S = some (.ok x S) := by
  simp only [iFld, iBind, iVar, hv, fldGo, h, jO, if_true, hm]
theorem Joint_first_ok (h1 : r1.Ok) (h2 : r2.Ok) (f1 : 1 ≤ few) (f2 : few ≤ 99) {S : HS} {j : Nat} (h : S[j]? = some (jO r1 r2 few fa)) :
    FI_Joint_first [.obj j] S = some (.ok (.dat (encPr (emptyL r1, emptyL r2))) S) := by
  have e1 := F_empty_lane_ok h1 f1 f2
  have e2 := F_empty_lane_ok h2 f1 f2
  have f : ∀ rest : IR, iFld "Joint" (iVar 0) "streams" (some (.obj j) :: rest) S = some (.ok (.dat (.tuple [encS r1 few, encS r2 few])) S) := fun rest => fld_j _ _ rfl h rfl
  have n1 := noList_encS r1 few
  have n2 := noList_encS r2 few
  simp [-iFld, FI_Joint_first, runI, f, e1, e2, noList_encL, encPr]
def doneP (r1 r2 : Rl) (few : Int) (p : Pr) (n : Nat) : Pr := ((doneM r1 few p.1 n).1, (doneM r2 few p.2 n).1)
def showsP (r1 r2 : Rl) (few : Int) (p : Pr) (n : Nat) : Bool := !decide ((doneM r1 few p.1 n).2.1 = (doneM r2 few p.2 n).2.1)
def PrOk (r1 r2 : Rl) (few : Int) (p : Pr) : Prop := LnOk r1 few p.1 ∧ LnOk r2 few p.2
theorem PrOk.done (h1 : r1.Ok) (h2 : r2.Ok) (f2 : few ≤ 99) {p : Pr} (h : PrOk r1 r2 few p) {n : Nat} (hn : n ≤ 1000) : PrOk r1 r2 few (doneP r1 r2 few p n) := ⟨doneM_ok h1 f2 h.1 hn, doneM_ok h2 f2 h.2 hn⟩
theorem fld_dl {S : HS} {a : Nat} {q : Ln × List Str × Option Int} {ρ : IR} {v : Nat} (hv : ρ[v]? = some (some (.obj a))) (h : S[a]? = some (doneO q)) : iFld "Done" (iVar v) "lane" ρ S = some (.ok (.dat (encL 0 q.1)) S) := by
  simp only [iFld, iBind, iVar, hv, fldGo, h, doneO]
  rfl
theorem iTup2 {F G : IE} {ρ : IR} {S S1 S2 : HS} {a b : PyData} (hF : F ρ S = some (.ok (.dat a) S1)) (hG : G ρ S1 = some (.ok (.dat b) S2)) : iTup (iCons F (iCons G iNil)) ρ S = some (.ok (.dat (.tuple [a, b])) S2) := by
  simp only [iTup, iBind, iCons, hF, hG, iNil, iRA, datsOf, Option.map_some]
theorem Joint_done_ok (h1 : r1.Ok) (h2 : r2.Ok) (f2 : few ≤ 99) {S : HS} {j : Nat} (h : S[j]? = some (jO r1 r2 few fa)) {p : Pr} (hp : PrOk r1 r2 few p) {n : Nat} (hn : n ≤ 1000) :
    ∃ T, FI_Joint_done fa [.obj j, .dat (encPr p), .dat (.int n)] S = some (.ok (.dat (.tuple [encPr (doneP r1 r2 few p n), .bool (showsP r1 r2 few p n)])) (S ++ T)) := by
  have f : ∀ rest : IR, iFld "Joint" (iVar 0) "streams" (some (.obj j) :: rest) S = some (.ok (.dat (.tuple [encS r1 few, encS r2 few])) S) := fun rest => fld_j _ _ rfl h rfl
  obtain ⟨d1, -⟩ := done_by_ok h1 f2 hp.1 hn (S ++ [.lst []])
  obtain ⟨W1, hW1⟩ : ∃ W1 : Ob, W1 = .lst ((doneM r1 few p.1 n).2.1.map sIV) := ⟨_, rfl⟩
  obtain ⟨W2, hW2⟩ : ∃ W2 : Ob, W2 = .lst ((doneM r2 few p.2 n).2.1.map sIV) := ⟨_, rfl⟩
  obtain ⟨D1, hD1⟩ : ∃ D1 : Ob, D1 = doneO (doneM r1 few p.1 n) := ⟨_, rfl⟩
  obtain ⟨D2, hD2⟩ : ∃ D2 : Ob, D2 = doneO (doneM r2 few p.2 n) := ⟨_, rfl⟩
  obtain ⟨d2, -⟩ := done_by_ok h2 f2 hp.2 hn (S ++ [.lst [.obj (S.length + 2)], W1, D1])
  rw [← hW1, ← hD1] at d1
  rw [← hW2, ← hD2] at d2
  simp only [List.length_append, List.length_cons, List.length_nil, Nat.reduceAdd, Nat.zero_add, List.append_assoc, List.cons_append, List.nil_append, Nat.add_assoc] at d1 d2
  refine ⟨[.lst [.obj (S.length + 2), .obj (S.length + 4)], W1, D1, W2, D2, .lst [.dat (encL 0 (doneM r1 few p.1 n).1), .dat (encL 0 (doneM r2 few p.2 n).1)]], ?_⟩
  have hj := lt_of_get h
  have nS1 := noList_encS r1 few
  have nS2 := noList_encS r2 few
  have nL1 := noList_encL 0 p.1
  have nL2 := noList_encL 0 p.2
  have nP : noList (encPr p) = true := noList_encPr p
  have nM1 := noList_encL 0 (doneM r1 few p.1 n).1
  have nM2 := noList_encL 0 (doneM r2 few p.2 n).1
  have L0 : ∀ x1 x2 x3 : Ob, (S ++ [x1, x2, x3])[S.length]? = some x1 := fun x1 x2 x3 => by simp
  have L1 : ∀ x1 x2 x3 x4 x5 : Ob, (S ++ [x1, x2, x3, x4, x5])[S.length]? = some x1 := fun x1 x2 x3 x4 x5 => by simp
  obtain ⟨S5, hS5⟩ : ∃ S5, S5 = S ++ [.lst [.obj (S.length + 2), .obj (S.length + 4)], W1, D1, W2, D2] := ⟨_, rfl⟩
  obtain ⟨S6, hS6⟩ : ∃ S6, S6 = S ++ [.lst [.obj (S.length + 2), .obj (S.length + 4)], W1, D1, W2, D2, .lst [.dat (encL 0 (doneM r1 few p.1 n).1), .dat (encL 0 (doneM r2 few p.2 n).1)]] := ⟨_, rfl⟩
  unfold FI_Joint_done runI
  simp only [List.map_cons, List.map_nil, List.length_cons, List.length_nil, List.cons_append, List.nil_append, Nat.reduceAdd, Nat.reduceSub, List.replicate]
  have c1 : iLc [4, 5] (iZipI (iFld "Joint" (iVar 0) "streams") (iP (eVar 1))) (gIT (gsIC (gIN 4) (gsIC (gIN 5) gsIN))) (iCall FI_done_by (iCons (iP (eVar 4)) (iCons (iP (eVar 5)) (iCons (iP (eVar 2)) iNil))))
      [some (.obj j), some (.dat (encPr p)), some (.dat (.int n)), none, none, none, none] S = some (.ok (.obj S.length) S5) := by
    rw [hS5]
    have tp : tupsOf (.dat (encPr p)) = some [encL 0 p.1, encL 0 p.2] := rfl
    have ts : tupsOf (.dat (.tuple [encS r1 few, encS r2 few])) = some [encS r1 few, encS r2 few] := rfl
    simp only [iLc, iZipI, iBind, f, iP, List.map_cons, List.map_nil, prj, eVar, List.getElem?_cons_zero, List.getElem?_cons_succ, iRet, nP, if_true, tp, ts, zipD, wipeI, List.set_cons_succ, List.set_cons_zero]
    simp only [dLc, gIT, gsIC, gIN, gsIN, List.map_cons, List.map_nil, List.set_cons_succ, List.set_cons_zero, iCall, iBind, iCons, iP, prj, eVar, List.getElem?_cons_zero, List.getElem?_cons_succ, iRet, nS1, nS2, nL1, nL2, noList, if_true, iNil, iRA, d1, L0, set_at0, List.length_nil, List.nil_append]
    simp only [show (0:Nat) < 10000 from by decide, if_true, d2, L1, List.length_cons, List.length_nil, show (0:Nat) + 1 < 10000 from by decide, set_at0, List.cons_append, List.nil_append]
  rw [bSeq_nx (ρ' := [some (.obj j), some (.dat (encPr p)), some (.dat (.int n)), some (.obj S.length), none, none, none]) (S' := S5) (by
    simp only [bAsg, c1, gIN, List.set_cons_succ, List.set_cons_zero])]
  have g0 : S5[S.length]? = some (.lst [.obj (S.length + 2), .obj (S.length + 4)]) := by rw [hS5]; simp
  have h5 : S5[j]? = some (jO r1 r2 few fa) := by rw [hS5, List.getElem?_append_left hj]; exact h
  have gl : S5.length = S.length + 5 := by rw [hS5]; simp
  have e56 : S5 ++ [.lst [.dat (encL 0 (doneM r1 few p.1 n).1), .dat (encL 0 (doneM r2 few p.2 n).1)]] = S6 := by rw [hS5, hS6]; simp
  have c2 : iLc [6] (iObjI (iVar 3)) (gIN 6) (iFld "Done" (iVar 6) "lane") [some (.obj j), some (.dat (encPr p)), some (.dat (.int n)), some (.obj S.length), none, none, none] S5 = some (.ok (.obj (S.length + 5)) S6) := by
    have q1 : ∀ x : Ob, (S5 ++ [x])[S.length + 2]? = some (doneO (doneM r1 few p.1 n)) := fun x => by
      rw [hS5, List.append_assoc, at_ap, ← hD1]; rfl
    have q2 : ∀ x : Ob, (S5 ++ [x])[S.length + 4]? = some (doneO (doneM r2 few p.2 n)) := fun x => by
      rw [hS5, List.append_assoc, at_ap, ← hD2]; rfl
    have w1 : ∀ (x : Ob) (x0 x1 x2 x3 x4 x5 : Option IV), iFld "Done" (iVar 6) "lane" [x0, x1, x2, x3, x4, x5, some (.obj (S.length + 2))] (S5 ++ [x]) = some (.ok (.dat (encL 0 (doneM r1 few p.1 n).1)) (S5 ++ [x])) := fun x x0 x1 x2 x3 x4 x5 => fld_dl rfl (q1 x)
    have w2 : ∀ (x : Ob) (x0 x1 x2 x3 x4 x5 : Option IV), iFld "Done" (iVar 6) "lane" [x0, x1, x2, x3, x4, x5, some (.obj (S.length + 4))] (S5 ++ [x]) = some (.ok (.dat (encL 0 (doneM r2 few p.2 n).1)) (S5 ++ [x])) := fun x x0 x1 x2 x3 x4 x5 => fld_dl rfl (q2 x)
    have g1 : ∀ x : Ob, (S5 ++ [x])[S5.length]? = some x := fun x => get_last S5 x
    have g2 : ∀ x y : Ob, (S5 ++ [x]).set S5.length y = S5 ++ [y] := fun x y => set_last S5 x y
    rw [← e56, ← gl]
    simp only [iLc, iObjI, iBind, iVar, List.getElem?_cons_zero, List.getElem?_cons_succ, lstOf, g0, wipeI, List.set_cons_succ, List.set_cons_zero]
    simp only [dLc, gIN, List.set_cons_succ, List.set_cons_zero, w1, w2, g1, g2, List.length_nil, List.length_cons, show (0:Nat) < 10000 from by decide, show (0:Nat) + 1 < 10000 from by decide, if_true, List.nil_append, List.cons_append]
  have t0 : S6[S.length]? = some (.lst [.obj (S.length + 2), .obj (S.length + 4)]) := by rw [hS6]; simp
  have t1 : S6[S.length + 2]? = some (doneO (doneM r1 few p.1 n)) := by rw [hS6, at_ap, ← hD1]; rfl
  have t2 : S6[S.length + 4]? = some (doneO (doneM r2 few p.2 n)) := by rw [hS6, at_ap, ← hD2]; rfl
  have t5 : S6[S.length + 5]? = some (.lst [.dat (encL 0 (doneM r1 few p.1 n).1), .dat (encL 0 (doneM r2 few p.2 n).1)]) := by rw [hS6, at_ap]; rfl
  have t6 : S6[j]? = some (jO r1 r2 few fa) := by rw [hS6, List.getElem?_append_left hj]; exact h
  have hv : hasV "Joint" "shows" fa S6 (.obj j) := ⟨_, t6, rfl⟩
  have c3 : iAttr "Joint" "shows" fa FI_unlike_words (iVar 0) (iCons (iIx (iVar 3) (iP (eC (.int 0)))) (iCons (iIx (iVar 3) (iP (eC (.int 1)))) iNil)) [some (.obj j), some (.dat (encPr p)), some (.dat (.int n)), some (.obj S.length), none, none, none] S6 = some (.ok (.dat (.bool (showsP r1 r2 few p n))) S6) := by
    have u := unlike_ok t1 t2 (doneM_w r1 few p.1 n) (doneM_w r2 few p.2 n)
    have i1 : iIx (iVar 3) (iP (eC (.int 0))) [some (.obj j), some (.dat (encPr p)), some (.dat (.int n)), some (.obj S.length), none, none, none] S6 = some (.ok (.obj (S.length + 2)) S6) := by simp [t0]
    have i2 : iIx (iVar 3) (iP (eC (.int 1))) [some (.obj j), some (.dat (encPr p)), some (.dat (.int n)), some (.obj S.length), none, none, none] S6 = some (.ok (.obj (S.length + 4)) S6) := by simp [t0]
    unfold iAttr
    simp only [iBind, iVar, List.getElem?_cons_zero, if_pos hv, iCons]
    rw [i1]
    simp only [i2, iNil, iRA, u, showsP]
  rw [← hS6]
  have c4 : iTupOf (iLc [6] (iObjI (iVar 3)) (gIN 6) (iFld "Done" (iVar 6) "lane")) [some (.obj j), some (.dat (encPr p)), some (.dat (.int n)), some (.obj S.length), none, none, none] S5 = some (.ok (.dat (encPr (doneP r1 r2 few p n))) S6) := by
    rw [show encPr (doneP r1 r2 few p n) = .tuple [encL 0 (doneM r1 few p.1 n).1, encL 0 (doneM r2 few p.2 n).1] from rfl]
    simp only [iTupOf, iBind, c2, tupOf_, t5, datsOf, Option.map_some]
  have c5 : iTup (iCons (iTupOf (iLc [6] (iObjI (iVar 3)) (gIN 6) (iFld "Done" (iVar 6) "lane"))) (iCons (iAttr "Joint" "shows" fa FI_unlike_words (iVar 0) (iCons (iIx (iVar 3) (iP (eC (.int 0)))) (iCons (iIx (iVar 3) (iP (eC (.int 1)))) iNil))) iNil)) [some (.obj j), some (.dat (encPr p)), some (.dat (.int n)), some (.obj S.length), none, none, none] S5 = some (.ok (.dat (.tuple [encPr (doneP r1 r2 few p n), .bool (showsP r1 r2 few p n)])) S6) := by
    exact iTup2 c4 c3
  rw [bSeq_rt (x := .dat (.tuple [encPr (doneP r1 r2 few p n), .bool (showsP r1 r2 few p n)])) (S' := S6) (by
    unfold bRet
    rw [c5])]
end
end KW
/-! MO: what is found -/
namespace KW
open PySem PySem.Spec L2
def Mm.code : Mm → List (Option Int)
  | .non => []
  | .late a l c => [a, l, some c]
  | .share ph sh ol su => [some ph, some sh, some ol, some su]
theorem Mm.code_inj {a b : Mm} (h : a.code = b.code) : a = b := by
  cases a <;> cases b <;> simp_all [Mm.code]
instance : DecidableEq Mm := fun a b => decidable_of_iff (a.code = b.code) ⟨Mm.code_inj, fun h => by rw [h]⟩
instance : DecidableEq Ln := fun a b => decidable_of_iff (a.ws = b.ws ∧ a.mm = b.mm) ⟨fun h => by
  obtain ⟨aw, am⟩ := a
  obtain ⟨bw, bm⟩ := b
  obtain ⟨h1, h2⟩ := h
  simp only at h1 h2
  rw [h1, h2], fun h => by rw [h]; exact ⟨rfl, rfl⟩⟩
/-! ### keys -/
theorem deep_encPs : ∀ ws : List Int, deepDs 5 (ws.map encP) = true
  | [] => rfl
  | w :: ws => by
    have ih := deep_encPs ws
    show (deepD 5 (encP w) && deepDs 5 (ws.map encP)) = true
    rw [ih]; rfl
theorem deep_encL (l : Ln) : deepD 7 (encL 0 l) = true := by
  have h := deep_encPs l.ws
  have hm : deepD 6 (encM l.mm) = true := by
    cases l.mm with
    | non => rfl
    | late a y c => cases a <;> cases y <;> rfl
    | share ph sh ol su => rfl
  show (deepD 6 (.int 0) && (deepDs 5 (l.ws.map encP) && (deepD 6 (encM l.mm) && true))) = true
  rw [h, hm]; rfl
theorem deep_encPr (p : Pr) : (isTupD (encPr p) && deepD 8 (encPr p)) = true := by
  show (true && (deepD 7 (encL 0 p.1) && (deepD 7 (encL 0 p.2) && true))) = true
  rw [deep_encL, deep_encL]; rfl
theorem kOf_encP {a b : Int} (h : kOf (encP a) = kOf (encP b)) : a = b := by
  simpa [encP, kOf, kOfs] using h
theorem kOfs_encP : ∀ {xs ys : List Int}, kOfs (xs.map encP) = kOfs (ys.map encP) → xs = ys
  | [], [], _ => rfl
  | [], _ :: _, h => by simp [kOfs] at h
  | _ :: _, [], h => by simp [kOfs] at h
  | x :: xs, y :: ys, h => by
    simp only [List.map_cons, kOfs, List.cons.injEq] at h
    rw [kOf_encP h.1, kOfs_encP h.2]
theorem kOf_encO {a b : Option Int} (h : kOf (encO a) = kOf (encO b)) : a = b := by
  cases a <;> cases b <;> simp_all [encO, kOf]
theorem kOf_encM {a b : Mm} (h : kOf (encM a) = kOf (encM b)) : a = b := by
  cases a <;> cases b <;> simp_all [encM, kOf, kOfs]
  exact ⟨kOf_encO h.1, kOf_encO h.2.1⟩
theorem kOf_encL {a b : Ln} (h : kOf (encL 0 a) = kOf (encL 0 b)) : a = b := by
  obtain ⟨aw, am⟩ := a
  obtain ⟨bw, bm⟩ := b
  simp only [encL, kOf, kOfs, NestedKey.tup.injEq, List.cons.injEq, true_and, and_true] at h
  obtain ⟨h1, h2⟩ := h
  rw [kOfs_encP h1, kOf_encM h2]
theorem kOf_encPr {p q : Pr} (h : kOf (encPr p) = kOf (encPr q)) : p = q := by
  obtain ⟨a, b⟩ := p
  obtain ⟨c, d⟩ := q
  simp only [encPr, kOf, kOfs, NestedKey.tup.injEq, List.cons.injEq, and_true] at h
  rw [kOf_encL h.1, kOf_encL h.2]
theorem key_mem {p : Pr} {Q : List Pr} : kOf (encPr p) ∈ (Q.map encPr).map kOf ↔ p ∈ Q := by
  constructor
  · intro h
    simp only [List.map_map, List.mem_map, Function.comp_apply] at h
    obtain ⟨q, hq, e⟩ := h
    rw [← kOf_encPr e]; exact hq
  · intro h
    simp only [List.map_map, List.mem_map, Function.comp_apply]
    exact ⟨p, h, rfl⟩
/-! ### the three books -/
def fO (a b c : Nat) : Ob := .ins "Found" [("things", .obj a), ("numbers", .obj b), ("steps", .obj c)]
def stD (st : List (Nat × Nat)) : List IV := .dat (.tuple [.none, .none]) :: st.map fun p => .dat (.tuple [.int p.1, .int p.2])
structure FSt (S : HS) (f : Nat) (Q : List Pr) (st : List (Nat × Nat)) : Prop where
  s : S[f]? = some (fO (f + 1) (f + 2) (f + 3))
  th : S[f + 1]? = some (.lst (Q.map fun p => .dat (encPr p)))
  nu : S[f + 2]? = some (.kd (Q.map encPr))
  sp : S[f + 3]? = some (.lst (stD st))
theorem FSt.app {S : HS} {f : Nat} {Q : List Pr} {st : List (Nat × Nat)} (h : FSt S f Q st) (T : HS) : FSt (S ++ T) f Q st :=
  ⟨by rw [List.getElem?_append_left (lt_of_get h.s)]; exact h.s, by rw [List.getElem?_append_left (lt_of_get h.th)]; exact h.th, by rw [List.getElem?_append_left (lt_of_get h.nu)]; exact h.nu, by rw [List.getElem?_append_left (lt_of_get h.sp)]; exact h.sp⟩
theorem Found_init_ok (p : Pr) (S : HS) : FI_Found_init [.obj S.length, .dat (encPr p)] (S ++ [.ins "Found" []]) =
    some (.ok (.dat .none) (S ++ [fO (S.length + 1) (S.length + 2) (S.length + 3), .lst [.dat (encPr p)], .kd [encPr p], .lst [.dat (.tuple [.none, .none])]])) := by
  have n := noList_encPr p
  have d := deep_encPr p
  unfold FI_Found_init runI
  simp only [List.map_cons, List.map_nil, List.length_cons, List.length_nil, List.cons_append, List.nil_append, Nat.reduceAdd, Nat.reduceSub, List.replicate]
  rw [bSeq_nx (ρ' := [some (.obj S.length), some (.dat (encPr p))]) (S' := S ++ [.ins "Found" [("things", .obj (S.length + 1))], .lst [.dat (encPr p)]]) (by
    simp (decide := true) [n, putFld, putI])]
  rw [bSeq_nx (ρ' := [some (.obj S.length), some (.dat (encPr p))]) (S' := S ++ [.ins "Found" [("things", .obj (S.length + 1)), ("numbers", .obj (S.length + 2))], .lst [.dat (encPr p)], .kd [encPr p]]) (by
    simp (decide := true) [n, d, putFld, putI, -deepD, -isTupD])]
  rw [bSeq_nx (ρ' := [some (.obj S.length), some (.dat (encPr p))]) (S' := S ++ [fO (S.length + 1) (S.length + 2) (S.length + 3), .lst [.dat (encPr p)], .kd [encPr p], .lst [.dat (.tuple [.none, .none])]]) (by
    simp (decide := true) [n, putFld, putI, fO])]
  rfl
theorem fld_f {S : HS} {f a b c : Nat} (m : Str) (x : IV) {ρ : IR} {v : Nat} (hv : ρ[v]? = some (some (.obj f))) (h : S[f]? = some (fO a b c))
    (hm : ([("things", .obj a), ("numbers", .obj b), ("steps", .obj c)] : List (Str × IV)).lookup m = some x) :
    iFld "Found" (iVar v) m ρ S = some (.ok x S) := by
  simp only [iFld, iBind, iVar, hv, fldGo, h, fO, if_true, hm]
section
variable {S : HS} {f : Nat} {Q : List Pr} {st : List (Nat × Nat)}
theorem FSt.things (h : FSt S f Q st) (rest : IR) : iFld "Found" (iVar 0) "things" (some (.obj f) :: rest) S = some (.ok (.obj (f + 1)) S) := fld_f _ _ rfl h.s rfl
theorem FSt.numbers (h : FSt S f Q st) (rest : IR) : iFld "Found" (iVar 0) "numbers" (some (.obj f) :: rest) S = some (.ok (.obj (f + 2)) S) := fld_f _ _ rfl h.s rfl
theorem FSt.steps (h : FSt S f Q st) (rest : IR) : iFld "Found" (iVar 0) "steps" (some (.obj f) :: rest) S = some (.ok (.obj (f + 3)) S) := fld_f _ _ rfl h.s rfl
theorem notIn_ok (h : FSt S f Q st) (p : Pr) (rest : IR) : iTwo notInGo (iP (eVar 1)) (iFld "Found" (iVar 0) "numbers") (some (.obj f) :: some (.dat (encPr p)) :: rest) S = some (.ok (!decide (p ∈ Q)) S) := by
  have n := noList_encPr p
  have d := deep_encPr p
  have e := h.numbers (some (.dat (encPr p)) :: rest)
  have k : decide (kOf (encPr p) ∈ (Q.map encPr).map kOf) = decide (p ∈ Q) := decide_eq_decide.mpr key_mem
  simp only [iTwo, iBind, iP, List.map_cons, prj, eVar, List.getElem?_cons_zero, List.getElem?_cons_succ, iRet, n, if_true, e, notInGo, h.nu, d, k]
theorem Found_put_old (h : FSt S f Q st) {p : Pr} (hp : p ∈ Q) (a c : Nat) : FI_Found_put [.obj f, .dat (encPr p), .dat (.int a), .dat (.int c)] S = some (.ok (.dat .none) S) := by
  have e := notIn_ok h p [some (.dat (.int a)), some (.dat (.int c))]
  unfold FI_Found_put runI
  simp only [List.map_cons, List.map_nil, List.length_cons, List.length_nil, List.cons_append, List.nil_append, Nat.reduceAdd, Nat.reduceSub, List.replicate]
  have hd : (!decide (p ∈ Q)) = false := by simp [hp]
  rw [hd] at e
  rw [bSeq_nx (ρ' := [some (.obj f), some (.dat (encPr p)), some (.dat (.int a)), some (.dat (.int c))]) (S' := S) (by
    unfold bIf
    rw [e]
    rfl)]
  rfl
theorem Found_put_new (h : FSt S f Q st) {p : Pr} (hp : p ∉ Q) (hl : st.length + 1 = Q.length) (hz : Q.length ≤ 1500) (a c : Nat) :
    ∃ S', FSt S' f (Q ++ [p]) (st ++ [(a, c)]) ∧ S'.length = S.length ∧ (∀ j, j < f → S'[j]? = S[j]?) ∧
      FI_Found_put [.obj f, .dat (encPr p), .dat (.int a), .dat (.int c)] S = if 1500 < Q.length + 1 then some (.ex S') else some (.ok (.dat .none) S') := by
  have n := noList_encPr p
  have d := deep_encPr p
  have z1 : Q.length < 10000 := by omega
  have z2 : (stD st).length < 10000 := by simp [stD]; omega
  have l1 := lt_of_get h.th
  have l2 := lt_of_get h.nu
  have l3 := lt_of_get h.sp
  obtain ⟨S1, hS1⟩ : ∃ S1, S1 = S.set (f + 2) (.kd (Q.map encPr ++ [encPr p])) := ⟨_, rfl⟩
  obtain ⟨S2, hS2⟩ : ∃ S2, S2 = S1.set (f + 1) (.lst ((Q.map fun p => IV.dat (encPr p)) ++ [.dat (encPr p)])) := ⟨_, rfl⟩
  obtain ⟨S3, hS3⟩ : ∃ S3, S3 = S2.set (f + 3) (.lst (stD st ++ [.dat (.tuple [.int a, .int c])])) := ⟨_, rfl⟩
  have a0 : S1[f]? = some (fO (f + 1) (f + 2) (f + 3)) := by rw [hS1, List.getElem?_set_ne (by omega)]; exact h.s
  have a1 : S1[f + 1]? = some (.lst (Q.map fun p => .dat (encPr p))) := by rw [hS1, List.getElem?_set_ne (by omega)]; exact h.th
  have b0 : S2[f]? = some (fO (f + 1) (f + 2) (f + 3)) := by rw [hS2, List.getElem?_set_ne (by omega)]; exact a0
  have b1 : S2[f + 3]? = some (.lst (stD st)) := by rw [hS2, List.getElem?_set_ne (by omega), hS1, List.getElem?_set_ne (by omega)]; exact h.sp
  have F3 : FSt S3 f (Q ++ [p]) (st ++ [(a, c)]) := by
    refine ⟨?_, ?_, ?_, ?_⟩
    · rw [hS3, List.getElem?_set_ne (by omega)]; exact b0
    · rw [hS3, List.getElem?_set_ne (by omega), hS2, List.getElem?_set_self (by rw [hS1, List.length_set]; exact l1)]
      simp
    · rw [hS3, List.getElem?_set_ne (by omega), hS2, List.getElem?_set_ne (by omega), hS1, List.getElem?_set_self l2]
      simp
    · rw [hS3, List.getElem?_set_self (by rw [hS2, hS1, List.length_set, List.length_set]; exact l3)]
      simp [stD]
  refine ⟨S3, F3, by rw [hS3, hS2, hS1]; simp only [List.length_set], fun j hj => ?_, ?_⟩
  · rw [hS3, List.getElem?_set_ne (by omega), hS2, List.getElem?_set_ne (by omega), hS1, List.getElem?_set_ne (by omega)]
  · have e := notIn_ok h p [some (.dat (.int a)), some (.dat (.int c))]
    have hd : (!decide (p ∈ Q)) = true := by simp [hp]
    rw [hd] at e
    have t0 : ∀ rest : IR, iFld "Found" (iVar 0) "things" (some (.obj f) :: rest) S = some (.ok (.obj (f + 1)) S) := fun rest => h.things rest
    have t1 : ∀ rest : IR, iFld "Found" (iVar 0) "numbers" (some (.obj f) :: rest) S = some (.ok (.obj (f + 2)) S) := fun rest => h.numbers rest
    have t2 : ∀ rest : IR, iFld "Found" (iVar 0) "things" (some (.obj f) :: rest) S1 = some (.ok (.obj (f + 1)) S1) := fun rest => fld_f _ _ rfl a0 rfl
    have t3 : ∀ rest : IR, iFld "Found" (iVar 0) "steps" (some (.obj f) :: rest) S2 = some (.ok (.obj (f + 3)) S2) := fun rest => fld_f _ _ rfl b0 rfl
    have t4 : ∀ rest : IR, iFld "Found" (iVar 0) "things" (some (.obj f) :: rest) S3 = some (.ok (.obj (f + 1)) S3) := fun rest => F3.things rest
    have k : decide (kOf (encPr p) ∈ (Q.map encPr).map kOf) = false := decide_eq_false fun q => hp (key_mem.mp q)
    have zq : decide ((Q.map encPr).length < 10000) = true := by simpa using z1
    have zt : (Q.map fun p => IV.dat (encPr p)).length < 10000 := by simpa using z1
    unfold FI_Found_put runI
    simp only [List.map_cons, List.map_nil, List.length_cons, List.length_nil, List.cons_append, List.nil_append, Nat.reduceAdd, Nat.reduceSub, List.replicate]
    obtain ⟨ρ, hρ⟩ : ∃ ρ : IR, ρ = [some (.obj f), some (.dat (encPr p)), some (.dat (.int a)), some (.dat (.int c))] := ⟨_, rfl⟩
    have s1 : bAsg (iLen (iFld "Found" (iVar 0) "things")) (gIK (iFld "Found" (iVar 0) "numbers") (iP (eVar 1))) ρ S = some (.nx ρ S1) := by
      rw [hρ, hS1]
      simp only [bAsg, iLen, iBind, t0, sizeOf_, h.th, gIK, t1, iP, List.map_cons, List.map_nil, prj, eVar, List.getElem?_cons_zero, List.getElem?_cons_succ, iRet, n, if_true, putKd, h.nu, d, k, zq, Bool.and_true, Bool.not_false, Bool.true_and, Option.map_some]
    have s2 : bExp (iAppend (iFld "Found" (iVar 0) "things") (iP (eVar 1))) ρ S1 = some (.nx ρ S2) := by
      rw [hρ, hS2]
      simp only [bExp, iAppend, iBind, t2, a1, iP, List.map_cons, List.map_nil, prj, eVar, List.getElem?_cons_zero, List.getElem?_cons_succ, iRet, n, if_true, zt]
    have s3 : bExp (iAppend (iFld "Found" (iVar 0) "steps") (iP (eTup (aCons (eVar 2) (aCons (eVar 3) aNil))))) ρ S2 = some (.nx ρ S3) := by
      rw [hρ, hS3]
      simp [-iFld, t3, b1, z2]
    have s4 : iCmpT iGt (iLen (iFld "Found" (iVar 0) "things")) (iP (eC (.int 1500))) ρ S3 = some (.ok (decide (1500 < Q.length + 1)) S3) := by
      rw [hρ]
      have gt := F3.th
      have dd : decide ((1500 : Int) < ((Q.length + 1 : Nat) : Int)) = decide (1500 < Q.length + 1) := decide_eq_decide.mpr (by omega)
      simp [-iFld, t4, gt]
      omega
    rw [← hρ] at e ⊢
    by_cases hw : 1500 < Q.length + 1
    · rw [if_pos hw]
      rw [decide_eq_true hw] at s4
      simp only [bSeq, bIf, e, s1, s2, s3, s4, bRaise]
    · rw [if_neg hw]
      rw [decide_eq_false hw] at s4
      simp only [bSeq, bIf, e, s1, s2, s3, s4, bNil]
end
end KW
/-! MP: the run to a pair -/
namespace KW
open PySem PySem.Spec L2
theorem FSt.set {S : HS} {f g : Nat} {Q : List Pr} {st : List (Nat × Nat)} (h : FSt S f Q st) (hg : f + 3 < g) (x : Ob) : FSt (S.set g x) f Q st :=
  ⟨by rw [List.getElem?_set_ne (by omega)]; exact h.s, by rw [List.getElem?_set_ne (by omega)]; exact h.th, by rw [List.getElem?_set_ne (by omega)]; exact h.nu, by rw [List.getElem?_set_ne (by omega)]; exact h.sp⟩
/-- each step is taken from an earlier one -/
def StOk (st : List (Nat × Nat)) (P : List (List Nat)) : Prop := ∀ (k a b : Nat), st[k]? = some (a, b) → a ≤ k ∧ ∃ p, P[a]? = some p ∧ P[k + 1]? = some (p ++ [b])
def nIV (n : Nat) : IV := .dat (.int n)
theorem stD_get {st : List (Nat × Nat)} {k a b : Nat} (h : st[k]? = some (a, b)) : (stD st)[k + 1]? = some (.dat (.tuple [.int a, .int b])) := by
  simp [stD, h]
abbrev rtT : IX Bool := iPT (cGt (eVar 1) (eC (.int 0)))
abbrev rtB : IB := (bSeq (bAsg (iIx (iFld "Found" (iVar 0) "steps") (iP (eVar 1))) (gIT (gsIC (gIN 1) (gsIC (gIN 2) gsIN)))) (bSeq (bExp (iInsert0 (iVar 3) (iP (eVar 2)))) bNil))
theorem run_to_loop {f g : Nat} {Q : List Pr} {st : List (Nat × Nat)} {P : List (List Nat)} (hst : StOk st P) (h0 : P[0]? = some []) (hl : st.length + 1 = P.length) (hg : f + 3 < g) :
    ∀ (m n : Nat) (pn tl : List Nat) (S : HS) (x2 : Option IV), n < m → FSt S f Q st → P[n]? = some pn → S[g]? = some (.lst (tl.map nIV)) → tl.length + n < 10000 →
      ∃ y2, bWhile m rtT rtB [some (.obj f), some (nIV n), x2, some (.obj g)] S = some (.nx [some (.obj f), some (nIV 0), y2, some (.obj g)] (S.set g (.lst ((pn ++ tl).map nIV))))
  | 0, n, pn, tl, S, x2, h1, h2, h3, h4, h5 => by omega
  | m + 1, 0, pn, tl, S, x2, h1, h2, h3, h4, h5 => by
    rw [h0] at h3
    cases h3
    refine ⟨x2, ?_⟩
    have e : rtT [some (.obj f), some (nIV 0), x2, some (.obj g)] S = some (.ok false S) := by simp [rtT, nIV]
    have es : S.set g (.lst (tl.map nIV)) = S := by
      apply List.ext_getElem?
      intro i
      by_cases hi : g = i
      · subst hi; rw [List.getElem?_set_self (lt_of_get h4), h4]
      · rw [List.getElem?_set_ne hi]
    simp only [bWhile, e, List.nil_append, es]
  | m + 1, n + 1, pn, tl, S, x2, h1, h2, h3, h4, h5 => by
    have hn : n < st.length := by
      have := (List.getElem?_eq_some_iff.mp h3).1
      omega
    obtain ⟨⟨a, b⟩, hab⟩ : ∃ q, st[n]? = some q := ⟨st[n], List.getElem?_eq_getElem hn⟩
    obtain ⟨ha, p, hp, hp2⟩ := hst n a b hab
    rw [h3] at hp2
    cases hp2
    have gp := lt_of_get h4
    have e : rtT [some (.obj f), some (nIV (n + 1)), x2, some (.obj g)] S = some (.ok true S) := by
      simp [rtT, nIV]
    obtain ⟨y2, ih⟩ := run_to_loop hst h0 hl hg m a p (b :: tl) (S.set g (.lst ((b :: tl).map nIV))) (some (nIV b)) (by omega) (h2.set hg _) hp (by rw [List.getElem?_set_self gp]) (by simp; omega)
    refine ⟨y2, ?_⟩
    have gs := stD_get hab
    have i1 : bAsg (iIx (iFld "Found" (iVar 0) "steps") (iP (eVar 1))) (gIT (gsIC (gIN 1) (gsIC (gIN 2) gsIN))) [some (.obj f), some (nIV (n + 1)), x2, some (.obj g)] S = some (.nx [some (.obj f), some (nIV a), some (nIV b), some (.obj g)] S) := by
      have t := h2.steps [some (nIV (n + 1)), x2, some (.obj g)]
      have z : (0 : Int) ≤ ((n + 1 : Nat) : Int) := by omega
      have zt : (((n + 1 : Nat) : Int)).toNat = n + 1 := rfl
      simp only [nIV] at t ⊢
      simp only [bAsg, iIx, iTwo, iBind, t, iP, List.map_cons, List.map_nil, prj, eVar, List.getElem?_cons_zero, List.getElem?_cons_succ, iRet, noList, if_true, ixGo, z, zt, h2.sp, gs, gIT, gsIC, gsIN, gIN, List.set_cons_succ, List.set_cons_zero]
    have i2 : bExp (iInsert0 (iVar 3) (iP (eVar 2))) [some (.obj f), some (nIV a), some (nIV b), some (.obj g)] S = some (.nx [some (.obj f), some (nIV a), some (nIV b), some (.obj g)] (S.set g (.lst ((b :: tl).map nIV)))) := by
      have z : (tl.map nIV).length < 10000 := by simp; omega
      have q : IV.dat (PyData.int b) = nIV b := rfl
      simp only [nIV] at h4 z ⊢
      simp only [bExp, iInsert0, iBind, iVar, List.getElem?_cons_zero, List.getElem?_cons_succ, h4, iP, List.map_cons, List.map_nil, prj, eVar, iRet, noList, if_true, z]
      rfl
    simp only [bWhile, e]
    unfold rtB
    rw [bSeq_nx i1, bSeq_nx i2]
    simp only [bNil]
    rw [ih]
    simp [List.set_set]
theorem datsOf_nIV : ∀ ns : List Nat, datsOf (ns.map nIV) = some (ns.map fun (n : Nat) => PyData.int n)
  | [] => rfl
  | n :: ns => by simp [nIV, datsOf_nIV ns]
theorem run_to_ok {f : Nat} {Q : List Pr} {st : List (Nat × Nat)} {P : List (List Nat)} (hst : StOk st P) (h0 : P[0]? = some []) (hl : st.length + 1 = P.length) {S : HS} (h : FSt S f Q st) {n c : Nat} {pn : List Nat} (hn : P[n]? = some pn) (hz : n < 1999) :
    ∃ S', Fr S.length S S' ∧ FI_Found_run_to [.obj f, .dat (.int n), .dat (.int c)] S = some (.ok (.dat (encN (pn ++ [c]))) S') := by
  have lf := lt_of_get h.sp
  obtain ⟨y2, e⟩ := run_to_loop hst h0 hl lf 2000 n pn [c] (S ++ [.lst [nIV c]]) (some (nIV c)) (by omega) (h.app _) hn (by simp) (by simp; omega)
  rw [set_last] at e
  refine ⟨S ++ [.lst ((pn ++ [c]).map nIV)], ⟨fun j hj => by rw [List.getElem?_append_left hj], by simp⟩, ?_⟩
  unfold FI_Found_run_to runI
  simp only [List.map_cons, List.map_nil, List.length_cons, List.length_nil, List.cons_append, List.nil_append, Nat.reduceAdd, Nat.reduceSub, List.replicate]
  rw [bSeq_nx (ρ' := [some (.obj f), some (nIV n), some (nIV c), some (.obj S.length)]) (S' := S ++ [.lst [nIV c]]) (by simp [nIV])]
  rw [bSeq_nx e]
  have q := datsOf_nIV (pn ++ [c])
  simp only [bSeq, bRet, iTupOf, iBind, iVar, List.getElem?_cons_zero, List.getElem?_cons_succ, tupOf_, get_last, q, encN]
end KW
/-! MQ: breadth first, plainly -/
namespace KW
open PySem PySem.Spec L2
def num (p : List Nat) : Nat := p.foldl (fun a x => 4 * a + x) 1
theorem glast {α : Type} (S : List α) (x : α) : (S ++ [x])[S.length]? = some x := by simp
theorem num_snoc (p : List Nat) (x : Nat) : num (p ++ [x]) = 4 * num p + x := by simp [num, List.foldl_append]
theorem runL_snoc (r : Rl) (few : Int) (x : Nat) : ∀ (ns : List Nat) (l : Ln), runL r few l (ns ++ [x]) = (doneM r few (runL r few l ns) x).1
  | [], l => rfl
  | n :: ns, l => by simp only [List.cons_append, runL, runL_snoc r few x ns]
theorem runW_snoc (r : Rl) (few : Int) (x : Nat) : ∀ (ns : List Nat) (l : Ln), runW r few l (ns ++ [x]) = runW r few l ns ++ [(doneM r few (runL r few l ns) x).2.1]
  | [], l => rfl
  | n :: ns, l => by simp only [List.cons_append, runW, runL, runW_snoc r few x ns]
section
variable {r1 r2 : Rl} {few : Int}
def endP (r1 r2 : Rl) (few : Int) (p : List Nat) : Pr := (runL r1 few (emptyL r1) p, runL r2 few (emptyL r2) p)
def likeW (r1 r2 : Rl) (few : Int) (p : List Nat) : Prop := runW r1 few (emptyL r1) p = runW r2 few (emptyL r2) p
theorem endP_snoc (p : List Nat) (x : Nat) : endP r1 r2 few (p ++ [x]) = doneP r1 r2 few (endP r1 r2 few p) x := by simp only [endP, runL_snoc, doneP]
theorem likeW_snoc {p : List Nat} {x : Nat} (h : likeW r1 r2 few p) (hs : showsP r1 r2 few (endP r1 r2 few p) x = false) : likeW r1 r2 few (p ++ [x]) := by
  have hs' : (doneM r1 few (runL r1 few (emptyL r1) p) x).2.1 = (doneM r2 few (runL r2 few (emptyL r2) p) x).2.1 := by
    simp only [showsP, Bool.not_eq_false', endP] at hs
    exact of_decide_eq_true hs
  simp only [likeW, runW_snoc, hs'] at h ⊢
  rw [h]
structure Bfs (r1 r2 : Rl) (few : Int) (M : Nat) (Q : List Pr) (st : List (Nat × Nat)) (P : List (List Nat)) (n c : Nat) : Prop where
  len : P.length = Q.length
  lst : st.length + 1 = Q.length
  root : P[0]? = some []
  ok : ∀ q ∈ Q, PrOk r1 r2 few q
  dig : ∀ p ∈ P, ∀ x ∈ p, x ≤ M
  val : ∀ (k : Nat) (q : Pr) (p : List Nat), Q[k]? = some q → P[k]? = some p → q = endP r1 r2 few p ∧ likeW r1 r2 few p
  stp : StOk st P
  srt : ∀ (i j : Nat) (p q : List Nat), i < j → P[i]? = some p → P[j]? = some q → num p < num q
  bnd : ∀ (k : Nat) (p pn : List Nat), P[k]? = some p → P[n]? = some pn → num p < 4 * num pn + c
  cl : ∀ (i x : Nat) (q : Pr) (p : List Nat), (i < n ∧ x ≤ M ∨ i = n ∧ x < c) → Q[i]? = some q → P[i]? = some p → showsP r1 r2 few q x = false ∧ ∃ (k : Nat) (p' : List Nat), Q[k]? = some (doneP r1 r2 few q x) ∧ P[k]? = some p' ∧ num p' ≤ 4 * num p + x
variable {M : Nat} {Q : List Pr} {st : List (Nat × Nat)} {P : List (List Nat)} {n c : Nat}
theorem Bfs.init (h1 : r1.Ok) (h2 : r2.Ok) (f1 : 1 ≤ few) : Bfs r1 r2 few M [(emptyL r1, emptyL r2)] [] [[]] 0 0 := by
  refine ⟨rfl, rfl, rfl, fun q hq => ?_, fun p hp x hx => ?_, fun k q p hq hp => ?_, fun k a b h => (by cases h), fun i j p q hij hp hq => ?_, fun k p pn hp hn => ?_, fun i x q p h => (by omega)⟩
  · rw [List.mem_singleton.mp hq]
    exact ⟨emptyL_ok h1 f1, emptyL_ok h2 f1⟩
  · rw [List.mem_singleton.mp hp] at hx
    cases hx
  · cases k with
    | zero => cases hq; cases hp; exact ⟨rfl, rfl⟩
    | succ k => cases hq
  · cases j with
    | zero => omega
    | succ j => cases hq
  · cases k with
    | zero => cases hp; cases hn; decide
    | succ k => cases hp
theorem Bfs.pn (h : Bfs r1 r2 few M Q st P n c) {q : Pr} (hq : Q[n]? = some q) : ∃ pn, P[n]? = some pn := by
  have := (List.getElem?_eq_some_iff.mp hq).1
  exact ⟨P[n]'(by rw [h.len]; exact this), List.getElem?_eq_getElem _⟩
theorem Bfs.old (h : Bfs r1 r2 few M Q st P n c) {q : Pr} (hq : Q[n]? = some q) (hs : showsP r1 r2 few q c = false) (hm : doneP r1 r2 few q c ∈ Q) : Bfs r1 r2 few M Q st P n (c + 1) := by
  refine ⟨h.len, h.lst, h.root, h.ok, h.dig, h.val, h.stp, h.srt, fun k p pn hp hn => ?_, fun i x q' p hx hq' hp => ?_⟩
  · have := h.bnd k p pn hp hn
    omega
  · by_cases hc : i = n ∧ x = c
    · obtain ⟨rfl, rfl⟩ := hc
      rw [hq] at hq'
      cases hq'
      refine ⟨hs, ?_⟩
      obtain ⟨k, hk, hk2⟩ := List.mem_iff_getElem.mp hm
      have hkP : k < P.length := by rw [h.len]; exact hk
      refine ⟨k, P[k], by rw [List.getElem?_eq_getElem hk, hk2], List.getElem?_eq_getElem hkP, ?_⟩
      have := h.bnd k P[k] p (List.getElem?_eq_getElem hkP) hp
      omega
    · exact h.cl i x q' p (by omega) hq' hp
theorem Bfs.new (h : Bfs r1 r2 few M Q st P n c) (h1 : r1.Ok) (h2 : r2.Ok) (f2 : few ≤ 99) (hM : M ≤ 1000) (hc : c ≤ M) {q : Pr} (hq : Q[n]? = some q) {pn : List Nat} (hp : P[n]? = some pn) (hs : showsP r1 r2 few q c = false) :
    Bfs r1 r2 few M (Q ++ [doneP r1 r2 few q c]) (st ++ [(n, c)]) (P ++ [pn ++ [c]]) n (c + 1) := by
  have lQ := (List.getElem?_eq_some_iff.mp hq).1
  have lP := (List.getElem?_eq_some_iff.mp hp).1
  have hl := h.len
  have hls := h.lst
  obtain ⟨v1, v2⟩ := h.val n q pn hq hp
  have gP : ∀ (k : Nat) (p : List Nat), (P ++ [pn ++ [c]])[k]? = some p → (k < P.length ∧ P[k]? = some p) ∨ (k = P.length ∧ p = pn ++ [c]) := by
    intro k p hk
    rcases Nat.lt_or_ge k P.length with g | g
    · rw [List.getElem?_append_left g] at hk; exact .inl ⟨g, hk⟩
    · have := (List.getElem?_eq_some_iff.mp hk).1
      simp at this
      have e : k = P.length := by omega
      subst e
      rw [glast] at hk
      cases hk
      exact .inr ⟨rfl, rfl⟩
  have gQ : ∀ (k : Nat) (p : Pr), (Q ++ [doneP r1 r2 few q c])[k]? = some p → (k < Q.length ∧ Q[k]? = some p) ∨ (k = Q.length ∧ p = doneP r1 r2 few q c) := by
    intro k p hk
    rcases Nat.lt_or_ge k Q.length with g | g
    · rw [List.getElem?_append_left g] at hk; exact .inl ⟨g, hk⟩
    · have := (List.getElem?_eq_some_iff.mp hk).1
      simp at this
      have e : k = Q.length := by omega
      subst e
      rw [glast] at hk
      cases hk
      exact .inr ⟨rfl, rfl⟩
  have up : ∀ (k : Nat) (p : List Nat), P[k]? = some p → (P ++ [pn ++ [c]])[k]? = some p := fun k p hk => by
    rw [List.getElem?_append_left (List.getElem?_eq_some_iff.mp hk).1]; exact hk
  have upQ : ∀ (k : Nat) (p : Pr), Q[k]? = some p → (Q ++ [doneP r1 r2 few q c])[k]? = some p := fun k p hk => by
    rw [List.getElem?_append_left (List.getElem?_eq_some_iff.mp hk).1]; exact hk
  refine ⟨by simp [hl], by simp [hls], up 0 _ h.root, fun q' hq' => ?_, fun p hp' x hx => ?_, fun k q' p hq' hp' => ?_, fun k a b hk => ?_, fun i j p q' hij hpi hpj => ?_, fun k p pn' hk hn => ?_, fun i x q' p hx hq' hp' => ?_⟩
  · rcases List.mem_append.mp hq' with g | g
    · exact h.ok _ g
    · rw [List.mem_singleton.mp g]
      exact (h.ok q (List.mem_of_getElem? hq)).done h1 h2 f2 (by omega)
  · rcases List.mem_append.mp hp' with g | g
    · exact h.dig _ g x hx
    · rw [List.mem_singleton.mp g] at hx
      rcases List.mem_append.mp hx with g2 | g2
      · exact h.dig pn (List.mem_of_getElem? hp) x g2
      · rw [List.mem_singleton.mp g2]; exact hc
  · rcases gP k p hp' with ⟨g1, g2⟩ | ⟨g1, g2⟩ <;> rcases gQ k q' hq' with ⟨g3, g4⟩ | ⟨g3, g4⟩
    · exact h.val k q' p g4 g2
    · omega
    · omega
    · rw [g2, g4, endP_snoc, ← v1]
      refine ⟨rfl, likeW_snoc v2 ?_⟩
      rw [← v1]; exact hs
  · rcases Nat.lt_or_ge k st.length with g | g
    · rw [List.getElem?_append_left g] at hk
      obtain ⟨a1, p, a2, a3⟩ := h.stp k a b hk
      exact ⟨a1, p, up _ _ a2, up _ _ a3⟩
    · have := (List.getElem?_eq_some_iff.mp hk).1
      simp at this
      have e : k = st.length := by omega
      subst e
      rw [glast] at hk
      cases hk
      refine ⟨by omega, pn, up _ _ hp, ?_⟩
      have : st.length + 1 = P.length := by omega
      rw [this, glast]
  · rcases gP i p hpi with ⟨g1, g2⟩ | ⟨g1, g2⟩ <;> rcases gP j q' hpj with ⟨g3, g4⟩ | ⟨g3, g4⟩
    · exact h.srt i j p q' hij g2 g4
    · rw [g4, num_snoc]
      exact h.bnd i p pn g2 hp
    · omega
    · omega
  · rcases gP n pn' hn with ⟨g1, g2⟩ | ⟨g1, g2⟩
    · rw [hp] at g2
      cases g2
      rcases gP k p hk with ⟨g3, g4⟩ | ⟨g3, g4⟩
      · have := h.bnd k p pn g4 hp
        omega
      · rw [g4, num_snoc]; omega
    · omega
  · have hi : i < Q.length := by omega
    rcases gP i p hp' with ⟨g1, g2⟩ | ⟨g1, g2⟩
    · rcases gQ i q' hq' with ⟨g3, g4⟩ | ⟨g3, g4⟩
      · by_cases hcc : i = n ∧ x = c
        · obtain ⟨rfl, rfl⟩ := hcc
          rw [hq] at g4
          cases g4
          rw [hp] at g2
          cases g2
          refine ⟨hs, Q.length, pn ++ [x], glast _ _, ?_, ?_⟩
          · rw [← hl, glast]
          · rw [num_snoc]; omega
        · obtain ⟨a1, k, p', a2, a3, a4⟩ := h.cl i x q' p (by omega) g4 g2
          exact ⟨a1, k, p', upQ _ _ a2, up _ _ a3, a4⟩
      · omega
    · omega
theorem Bfs.next (h : Bfs r1 r2 few M Q st P n (M + 1)) (hM : M ≤ 3) : Bfs r1 r2 few M Q st P (n + 1) 0 := by
  refine ⟨h.len, h.lst, h.root, h.ok, h.dig, h.val, h.stp, h.srt, fun k p pn hp hn => ?_, fun i x q' p hx hq' hp => h.cl i x q' p (by omega) hq' hp⟩
  have ln := (List.getElem?_eq_some_iff.mp hn).1
  have g : P[n]? = some P[n] := List.getElem?_eq_getElem (by omega)
  have a := h.bnd k p _ hp g
  have b := h.srt n (n + 1) _ _ (by omega) g hn
  omega
/-- all runs that come ahead of a candidate -/
theorem Bfs.least (h : Bfs r1 r2 few M Q st P n c) (hc : c ≤ 3) {pn : List Nat} (hp : P[n]? = some pn) : ∀ (k : Nat) (ns : List Nat), ns.length = k → (∀ x ∈ ns, x ≤ M) → num ns < 4 * num pn + c →
    ∃ (i : Nat) (q : Pr) (p : List Nat), Q[i]? = some q ∧ P[i]? = some p ∧ num p ≤ num ns ∧ q = endP r1 r2 few ns ∧ likeW r1 r2 few ns
  | 0, ns, hk, hd, hlt => by
    have : ns = [] := List.length_eq_zero_iff.mp hk
    subst this
    have lp := (List.getElem?_eq_some_iff.mp h.root).1
    have lq : 0 < Q.length := by rw [← h.len]; exact lp
    exact ⟨0, Q[0], [], List.getElem?_eq_getElem lq, h.root, Nat.le_refl _, (h.val 0 _ _ (List.getElem?_eq_getElem lq) h.root).1, rfl⟩
  | k + 1, ns, hk, hd, hlt => by
    obtain ⟨ns', x, rfl⟩ : ∃ ns' x, ns = ns' ++ [x] := ⟨ns.dropLast, ns.getLast (by intro e; rw [e] at hk; cases hk), (List.dropLast_concat_getLast _).symm⟩
    rw [num_snoc] at hlt
    obtain ⟨i, q, p, hq, hpi, hle, he, hw⟩ := h.least hc hp k ns' (by simpa using hk) (fun y hy => hd y (by simp [hy])) (by omega)
    have hx : x ≤ M := hd x (by simp)
    have hproc : i < n ∧ x ≤ M ∨ i = n ∧ x < c := by
      rcases Nat.lt_trichotomy i n with g | g | g
      · exact .inl ⟨g, hx⟩
      · subst g
        rw [hp] at hpi
        cases hpi
        exact .inr ⟨rfl, by omega⟩
      · have := h.srt n i _ _ g hp hpi
        omega
    obtain ⟨a1, j, p', a2, a3, a4⟩ := h.cl i x q p hproc hq hpi
    refine ⟨j, _, p', a2, a3, by rw [num_snoc]; omega, by rw [endP_snoc, he], likeW_snoc hw (by rw [← he]; exact a1)⟩
/-- nothing is left: all runs -/
theorem Bfs.all (h : Bfs r1 r2 few M Q st P Q.length 0) : ∀ (k : Nat) (ns : List Nat), ns.length = k → (∀ x ∈ ns, x ≤ M) → (∃ i : Nat, Q[i]? = some (endP r1 r2 few ns)) ∧ likeW r1 r2 few ns
  | 0, ns, hk, hd => by
    have : ns = [] := List.length_eq_zero_iff.mp hk
    subst this
    have lp := (List.getElem?_eq_some_iff.mp h.root).1
    have lq : 0 < Q.length := by rw [← h.len]; exact lp
    exact ⟨⟨0, by rw [List.getElem?_eq_getElem lq, (h.val 0 _ _ (List.getElem?_eq_getElem lq) h.root).1]⟩, rfl⟩
  | k + 1, ns, hk, hd => by
    obtain ⟨ns', x, rfl⟩ : ∃ ns' x, ns = ns' ++ [x] := ⟨ns.dropLast, ns.getLast (by intro e; rw [e] at hk; cases hk), (List.dropLast_concat_getLast _).symm⟩
    obtain ⟨⟨i, hi⟩, hw⟩ := h.all k ns' (by simpa using hk) (fun y hy => hd y (by simp [hy]))
    have li := (List.getElem?_eq_some_iff.mp hi).1
    have lp : i < P.length := by rw [h.len]; exact li
    obtain ⟨a1, j, p', a2, a3, a4⟩ := h.cl i x _ P[i] (.inl ⟨li, hd x (by simp)⟩) hi (List.getElem?_eq_getElem lp)
    exact ⟨⟨j, by rw [a2, endP_snoc]⟩, likeW_snoc hw a1⟩
end
end KW
/-! MR: told is breadth first -/
namespace KW
open PySem PySem.Spec L2
section
variable {r1 r2 : Rl} {few : Int} {fa : Addr} {M : Nat} {Q : List Pr} {st : List (Nat × Nat)} {P : List (List Nat)} {n c j f : Nat} {S : HS}
structure ToldRun (r1 r2 : Rl) (few : Int) (M : Nat) (t : List Nat) : Prop where
  ex : ∃ pn c, t = pn ++ [c] ∧ c ≤ M ∧ (∀ x ∈ pn, x ≤ M) ∧ likeW r1 r2 few pn ∧ showsP r1 r2 few (endP r1 r2 few pn) c = true
  least : ∀ ns : List Nat, (∀ x ∈ ns, x ≤ M) → num ns < num t → likeW r1 r2 few ns
theorem Bfs.told (h : Bfs r1 r2 few M Q st P n c) (hM : M ≤ 3) (hc : c ≤ M) {q : Pr} (hq : Q[n]? = some q) {pn : List Nat} (hp : P[n]? = some pn) (hs : showsP r1 r2 few q c = true) : ToldRun r1 r2 few M (pn ++ [c]) := by
  obtain ⟨v1, v2⟩ := h.val n q pn hq hp
  refine ⟨⟨pn, c, rfl, hc, h.dig pn (List.mem_of_getElem? hp), v2, by rw [← v1]; exact hs⟩, fun ns hd hlt => ?_⟩
  rw [num_snoc] at hlt
  obtain ⟨i, q', p', -, -, -, -, hw⟩ := h.least (by omega) hp ns.length ns rfl hd hlt
  exact hw
noncomputable abbrev tdA (fa : Addr) : IB := bAsg (iMeth "Joint" "done" (FI_Joint_done fa) (iVar 0) (iCons (iIx (iFld "Found" (iVar 4) "things") (iP (eVar 5))) (iCons (iP (eVar 6)) iNil))) (gIT (gsIC (gIN 7) (gsIC (gIN 8) gsIN)))
abbrev tdR : IB := bRet (iTup (iCons (iP (eVar 3)) (iCons (iMeth "Found" "run_to" FI_Found_run_to (iVar 4) (iCons (iP (eVar 5)) (iCons (iP (eVar 6)) iNil))) iNil)))
abbrev tdP : IB := bExp (iMeth "Found" "put" FI_Found_put (iVar 4) (iCons (iP (eVar 7)) (iCons (iP (eVar 5)) (iCons (iP (eVar 6)) iNil))))
noncomputable abbrev tdB (fa : Addr) : IB := bSeq (tdA fa) (bSeq (bIf (iPT (cVal (eVar 8))) (bSeq tdR bNil) bNil) (bSeq tdP bNil))
theorem tdA_ok (h1 : r1.Ok) (h2 : r2.Ok) (f2 : few ≤ 99) (hj : S[j]? = some (jO r1 r2 few fa)) (F : FSt S f Q st) {q : Pr} (hq : Q[n]? = some q) (ok : PrOk r1 r2 few q) (hc : c ≤ 1000) (x1 x2 x3 x7 x8 : Option IV) :
    ∃ T, tdA fa [some (.obj j), x1, x2, x3, some (.obj f), some (nIV n), some (nIV c), x7, x8] S = some (.nx [some (.obj j), x1, x2, x3, some (.obj f), some (nIV n), some (nIV c), some (.dat (encPr (doneP r1 r2 few q c))), some (.dat (.bool (showsP r1 r2 few q c)))] (S ++ T)) := by
  obtain ⟨T, e⟩ := Joint_done_ok (fa := fa) h1 h2 f2 hj ok hc
  refine ⟨T, ?_⟩
  have hi : isI "Joint" "done" S (.obj j) = true := by
    simp only [isI, hj, jO]
    rfl
  have t : ∀ ρ : IR, ρ[4]? = some (some (.obj f)) → iFld "Found" (iVar 4) "things" ρ S = some (.ok (.obj (f + 1)) S) := fun ρ hv => fld_f _ _ hv F.s rfl
  have i1 : iIx (iFld "Found" (iVar 4) "things") (iP (eVar 5)) [some (.obj j), x1, x2, x3, some (.obj f), some (nIV n), some (nIV c), x7, x8] S = some (.ok (.dat (encPr q)) S) := by
    have z : (0 : Int) ≤ ((n : Nat) : Int) := by omega
    have zt : (((n : Nat) : Int)).toNat = n := rfl
    have g : (Q.map fun p => IV.dat (encPr p))[n]? = some (.dat (encPr q)) := by simp [hq]
    have e1 := t [some (.obj j), x1, x2, x3, some (.obj f), some (nIV n), some (nIV c), x7, x8] rfl
    simp only [nIV] at e1 ⊢
    simp only [iIx, iTwo, iBind, e1, iP, List.map_cons, List.map_nil, prj, eVar, List.getElem?_cons_zero, List.getElem?_cons_succ, iRet, noList, if_true, ixGo, z, zt, F.th, g]
  have nP := noList_encPr q
  simp only [tdA, bAsg, iMeth, iBind, iVar, List.getElem?_cons_zero, hi, if_true, iCons, i1]
  simp only [nIV, iP, List.map_cons, List.map_nil, prj, eVar, List.getElem?_cons_zero, List.getElem?_cons_succ, iRet, noList, if_true, iNil, iRA, e, gIT, gsIC, gsIN, gIN, List.set_cons_succ, List.set_cons_zero]
theorem tdR_ok (h : Bfs r1 r2 few M Q st P n c) (F : FSt S f Q st) {pn : List Nat} (hp : P[n]? = some pn) (hz : Q.length ≤ 1500) (w2 : Str) (x0 x1 x2 x7 x8 : Option IV) :
    ∃ S', Fr S.length S S' ∧ tdR [x0, x1, x2, some (.dat (.str w2)), some (.obj f), some (nIV n), some (nIV c), x7, x8] S = some (.rt (.dat (.tuple [.str w2, encN (pn ++ [c])])) S') := by
  have ln := (List.getElem?_eq_some_iff.mp hp).1
  have hl := h.len
  have hl2 := h.lst
  obtain ⟨S', Fr1, e⟩ := run_to_ok (c := c) h.stp h.root (by omega) F hp (by omega)
  refine ⟨S', Fr1, ?_⟩
  have hi : isI "Found" "run_to" S (.obj f) = true := by
    simp only [isI, F.s, fO]
    rfl
  have a1 : iP (eVar 3) [x0, x1, x2, some (.dat (.str w2)), some (.obj f), some (nIV n), some (nIV c), x7, x8] S = some (.ok (.dat (.str w2)) S) := by
    simp [nIV]
  have a2 : iMeth "Found" "run_to" FI_Found_run_to (iVar 4) (iCons (iP (eVar 5)) (iCons (iP (eVar 6)) iNil)) [x0, x1, x2, some (.dat (.str w2)), some (.obj f), some (nIV n), some (nIV c), x7, x8] S = some (.ok (.dat (encN (pn ++ [c]))) S') := by
    simp only [iMeth, iBind, iVar, List.getElem?_cons_zero, List.getElem?_cons_succ, hi, if_true, iCons, nIV, iP, List.map_cons, List.map_nil, prj, eVar, iRet, noList, iNil, iRA, e]
  unfold tdR bRet
  rw [iTup2 a1 a2]
theorem tdP_old (F : FSt S f Q st) {q : Pr} (hq : q ∈ Q) (x0 x1 x2 x3 x8 : Option IV) :
    tdP [x0, x1, x2, x3, some (.obj f), some (nIV n), some (nIV c), some (.dat (encPr q)), x8] S = some (.nx [x0, x1, x2, x3, some (.obj f), some (nIV n), some (nIV c), some (.dat (encPr q)), x8] S) := by
  have hi : isI "Found" "put" S (.obj f) = true := by
    simp only [isI, F.s, fO]
    rfl
  have e := Found_put_old F hq n c
  have nP := noList_encPr q
  simp only [tdP, bExp, iMeth, iBind, iVar, List.getElem?_cons_zero, List.getElem?_cons_succ, hi, if_true, iCons, nIV, iP, List.map_cons, List.map_nil, prj, eVar, iRet, noList, nP, iNil, iRA, e]
theorem tdP_new (F : FSt S f Q st) {q : Pr} (hq : q ∉ Q) (hl : st.length + 1 = Q.length) (hz : Q.length ≤ 1500) (x0 x1 x2 x3 x8 : Option IV) :
    ∃ S', FSt S' f (Q ++ [q]) (st ++ [(n, c)]) ∧ S'.length = S.length ∧ (∀ j, j < f → S'[j]? = S[j]?) ∧
      tdP [x0, x1, x2, x3, some (.obj f), some (nIV n), some (nIV c), some (.dat (encPr q)), x8] S = if 1500 < Q.length + 1 then some (.ex [x0, x1, x2, x3, some (.obj f), some (nIV n), some (nIV c), some (.dat (encPr q)), x8] S') else some (.nx [x0, x1, x2, x3, some (.obj f), some (nIV n), some (nIV c), some (.dat (encPr q)), x8] S') := by
  obtain ⟨S', F', l', k', e⟩ := Found_put_new F hq hl hz n c
  refine ⟨S', F', l', k', ?_⟩
  have hi : isI "Found" "put" S (.obj f) = true := by
    simp only [isI, F.s, fO]
    rfl
  have nP := noList_encPr q
  by_cases hw : 1500 < Q.length + 1
  · rw [if_pos hw] at e ⊢
    simp only [tdP, bExp, iMeth, iBind, iVar, List.getElem?_cons_zero, List.getElem?_cons_succ, hi, if_true, iCons, nIV, iP, List.map_cons, List.map_nil, prj, eVar, iRet, noList, nP, iNil, iRA, e]
  · rw [if_neg hw] at e ⊢
    simp only [tdP, bExp, iMeth, iBind, iVar, List.getElem?_cons_zero, List.getElem?_cons_succ, hi, if_true, iCons, nIV, iP, List.map_cons, List.map_nil, prj, eVar, iRet, noList, nP, iNil, iRA, e]
end
end KW
/-! MS: told, its loops -/
namespace KW
open PySem PySem.Spec L2
section
variable {r1 r2 : Rl} {few : Int} {fa : Addr} {M : Nat}
theorem Fr.ap2 {b : Nat} {S : HS} (h : b ≤ S.length) (T : HS) : Fr b S (S ++ T) := ⟨fun j hj => by rw [List.getElem?_append_left (by omega)], by simp⟩
theorem Fr.weak {b b' : Nat} {S S' : HS} (h : Fr b S S') (hb : b' ≤ b) : Fr b' S S' := ⟨fun j hj => h.keep j (by omega), h.len⟩
theorem inner_ok (h1 : r1.Ok) (h2 : r2.Ok) (f2 : few ≤ 99) (hM : M ≤ 3) {j f n : Nat} (hjf : j < f) (w2 : Str) (x1 x2 : Option IV) : ∀ (k c : Nat) (Q : List Pr) (st : List (Nat × Nat)) (P : List (List Nat)) (S : HS) (x6 x7 x8 : Option IV), c + k = M + 1 → Bfs r1 r2 few M Q st P n c → FSt S f Q st → Q.length ≤ 1500 → n < Q.length → S[j]? = some (jO r1 r2 few fa) →
    (∃ S' Q' st' P' y6 y7 y8, Bfs r1 r2 few M Q' st' P' n (M + 1) ∧ FSt S' f Q' st' ∧ Q'.length ≤ 1500 ∧ n < Q'.length ∧ Fr f S S' ∧
      bForL (gIN 6) (tdB fa) ((List.range' c k).map nIV) [some (.obj j), x1, x2, some (.dat (.str w2)), some (.obj f), some (nIV n), x6, x7, x8] S = some (.nx [some (.obj j), x1, x2, some (.dat (.str w2)), some (.obj f), some (nIV n), y6, y7, y8] S'))
    ∨ (∃ S' t, ToldRun r1 r2 few M t ∧ Fr f S S' ∧ bForL (gIN 6) (tdB fa) ((List.range' c k).map nIV) [some (.obj j), x1, x2, some (.dat (.str w2)), some (.obj f), some (nIV n), x6, x7, x8] S = some (.rt (.dat (.tuple [.str w2, encN t])) S'))
    ∨ (∃ S' ρ', Fr f S S' ∧ bForL (gIN 6) (tdB fa) ((List.range' c k).map nIV) [some (.obj j), x1, x2, some (.dat (.str w2)), some (.obj f), some (nIV n), x6, x7, x8] S = some (.ex ρ' S'))
  | 0, c, Q, st, P, S, x6, x7, x8, hc, B, F, hz, hn, hj => by
    have : c = M + 1 := by omega
    subst this
    exact .inl ⟨S, Q, st, P, x6, x7, x8, B, F, hz, hn, Fr.refl _ _, rfl⟩
  | k + 1, c, Q, st, P, S, x6, x7, x8, hc, B, F, hz, hn, hj => by
    have hcM : c ≤ M := by omega
    have lf := lt_of_get F.s
    have hq : Q[n]? = some Q[n] := List.getElem?_eq_getElem hn
    obtain ⟨pn, hp⟩ := B.pn hq
    obtain ⟨T, eA⟩ := tdA_ok h1 h2 f2 hj F hq (B.ok _ (List.mem_of_getElem? hq)) (c := c) (by omega) x1 x2 (some (.dat (.str w2))) x7 x8
    have FT := F.app T
    have hjT : (S ++ T)[j]? = some (jO r1 r2 few fa) := by rw [List.getElem?_append_left (by omega)]; exact hj
    have FrT : Fr f S (S ++ T) := Fr.ap2 (by omega) T
    have hhead : ∀ rest, bForL (gIN 6) (tdB fa) (nIV c :: rest) [some (.obj j), x1, x2, some (.dat (.str w2)), some (.obj f), some (nIV n), x6, x7, x8] S =
        (match tdB fa [some (.obj j), x1, x2, some (.dat (.str w2)), some (.obj f), some (nIV n), some (nIV c), x7, x8] S with
          | some (.nx ρ2 S2) => bForL (gIN 6) (tdB fa) rest ρ2 S2
          | some (.rt z S2) => some (.rt z S2)
          | some (.ex ρ2 S2) => some (.ex ρ2 S2)
          | none => none) := fun rest => rfl
    rw [List.range'_succ, List.map_cons, hhead]
    unfold tdB
    rw [bSeq_nx eA]
    by_cases hs : showsP r1 r2 few Q[n] c = true
    · right; left
      obtain ⟨S', Fr1, eR⟩ := tdR_ok B FT hp hz w2 (some (.obj j)) x1 x2 (some (.dat (encPr (doneP r1 r2 few Q[n] c)))) (some (.dat (.bool (showsP r1 r2 few Q[n] c))))
      refine ⟨S', pn ++ [c], B.told hM hcM hq hp hs, FrT.trans (Fr1.weak (by simp; omega)), ?_⟩
      rw [bSeq_rt (x := .dat (.tuple [.str w2, encN (pn ++ [c])])) (S' := S') (by
        rw [bIfT (by simp [nIV, hs])]
        exact bSeq_rt eR)]
    · have hs' : showsP r1 r2 few Q[n] c = false := by simpa using hs
      rw [bSeq_nx (ρ' := [some (.obj j), x1, x2, some (.dat (.str w2)), some (.obj f), some (nIV n), some (nIV c), some (.dat (encPr (doneP r1 r2 few Q[n] c))), some (.dat (.bool (showsP r1 r2 few Q[n] c)))]) (S' := S ++ T) (by
        rw [bIfF (by simp [nIV, hs'])]
        rfl)]
      by_cases hm : doneP r1 r2 few Q[n] c ∈ Q
      · have eP := tdP_old (n := n) (c := c) FT hm (some (.obj j)) x1 x2 (some (.dat (.str w2))) (some (.dat (.bool (showsP r1 r2 few Q[n] c))))
        rw [bSeq_nx eP]
        have B' := B.old hq hs' hm
        rcases inner_ok h1 h2 f2 hM hjf w2 x1 x2 k (c + 1) Q st P (S ++ T) (some (nIV c)) (some (.dat (encPr (doneP r1 r2 few Q[n] c)))) (some (.dat (.bool (showsP r1 r2 few Q[n] c)))) (by omega) B' FT hz hn hjT with ⟨S', Q', st', P', y6, y7, y8, b1, b2, b3, b4, b5, b6⟩ | ⟨S', t, b1, b2, b3⟩ | ⟨S', ρ', b1, b2⟩
        · exact .inl ⟨S', Q', st', P', y6, y7, y8, b1, b2, b3, b4, FrT.trans b5, b6⟩
        · exact .inr (.inl ⟨S', t, b1, FrT.trans b2, b3⟩)
        · exact .inr (.inr ⟨S', ρ', FrT.trans b1, b2⟩)
      · obtain ⟨S2, F2, l2, k2, eP⟩ := tdP_new (n := n) (c := c) FT hm B.lst hz (some (.obj j)) x1 x2 (some (.dat (.str w2))) (some (.dat (.bool (showsP r1 r2 few Q[n] c))))
        have Fr2 : Fr f S S2 := FrT.trans ⟨k2, by omega⟩
        by_cases hw : 1500 < Q.length + 1
        · rw [if_pos hw] at eP
          rw [bSeq_ex eP]
          exact .inr (.inr ⟨S2, _, Fr2, rfl⟩)
        · rw [if_neg hw] at eP
          rw [bSeq_nx eP]
          have B' := B.new h1 h2 f2 (by omega) hcM hq hp hs'
          have hj2 : S2[j]? = some (jO r1 r2 few fa) := by rw [k2 j hjf]; exact hjT
          rcases inner_ok h1 h2 f2 hM hjf w2 x1 x2 k (c + 1) _ _ _ S2 (some (nIV c)) (some (.dat (encPr (doneP r1 r2 few Q[n] c)))) (some (.dat (.bool (showsP r1 r2 few Q[n] c)))) (by omega) B' F2 (by simp; omega) (by simp; omega) hj2 with ⟨S', Q', st', P', y6, y7, y8, b1, b2, b3, b4, b5, b6⟩ | ⟨S', t, b1, b2, b3⟩ | ⟨S', ρ', b1, b2⟩
          · exact .inl ⟨S', Q', st', P', y6, y7, y8, b1, b2, b3, b4, Fr2.trans b5, b6⟩
          · exact .inr (.inl ⟨S', t, b1, Fr2.trans b2, b3⟩)
          · exact .inr (.inr ⟨S', ρ', Fr2.trans b1, b2⟩)
end
end KW
/-! MT: told; alike -/
namespace KW
open PySem PySem.Spec L2
section
variable {r1 r2 : Rl} {few : Int} {fa : Addr} {M : Nat}
abbrev toT : IX Bool := iCmpT iLt (iP (eVar 5)) (iLen (iFld "Found" (iVar 4) "things"))
noncomputable abbrev toB (fa : Addr) : IB := bSeq (bFor (iRngI (iP (eAdd (eVar 1) (eC (.int 1))))) (gIN 6) (tdB fa)) (bSeq (bAug 5 fICat (iP (eC (.int 1)))) bNil)
theorem rng_M (M : Nat) : rangeI 0 (M + 1) = (List.range' 0 (M + 1)).map nIV := by
  simp [rangeI, List.range_eq_range', nIV]
theorem eRng {ρ : IR} {S : HS} {M : Nat} (h : ρ[1]? = some (some (nIV M))) (hM : M ≤ 3) : iRngI (iP (eAdd (eVar 1) (eC (.int 1)))) ρ S = some (.ok ((List.range' 0 (M + 1)).map nIV) S) := by
  have e : eAdd (eVar 1) (eC (.int 1)) (ρ.map prj) = some (.int ((M : Int) + 1)) := by
    have g : (ρ.map prj)[1]? = some (some (.dat (.int M))) := by simp [h, nIV]
    simp [g, fAdd]
  have z : (-(2 ^ 62 : Int)) ≤ (M : Int) + 1 ∧ (M : Int) + 1 < 2 ^ 62 := by omega
  have zt : ((M : Int) + 1).toNat = M + 1 := by omega
  rw [← rng_M]
  simp only [iRngI, iBind, iP, e, iRet, noList, if_true]
  rw [if_pos z, zt]
theorem bWhile_t {m : Nat} {T : IX Bool} {u : IB} {ρ ρ' : IR} {S S' : HS} (hT : T ρ S = some (.ok true S)) (hB : u ρ S = some (.nx ρ' S')) : bWhile (m + 1) T u ρ S = bWhile m T u ρ' S' := by simp only [bWhile, hT, hB]
theorem bWhile_r {m : Nat} {T : IX Bool} {u : IB} {ρ : IR} {S S' : HS} {z : IV} (hT : T ρ S = some (.ok true S)) (hB : u ρ S = some (.rt z S')) : bWhile (m + 1) T u ρ S = some (.rt z S') := by simp only [bWhile, hT, hB]
theorem bWhile_e {m : Nat} {T : IX Bool} {u : IB} {ρ ρ' : IR} {S S' : HS} (hT : T ρ S = some (.ok true S)) (hB : u ρ S = some (.ex ρ' S')) : bWhile (m + 1) T u ρ S = some (.ex ρ' S') := by simp only [bWhile, hT, hB]
theorem bWhile_f {m : Nat} {T : IX Bool} {u : IB} {ρ : IR} {S : HS} (hT : T ρ S = some (.ok false S)) : bWhile (m + 1) T u ρ S = some (.nx ρ S) := by simp only [bWhile, hT]
theorem outer_ok (h1 : r1.Ok) (h2 : r2.Ok) (f2 : few ≤ 99) (hM : M ≤ 3) {j f : Nat} (hjf : j < f) (w2 : Str) (x2 : Option IV) : ∀ (m n : Nat) (Q : List Pr) (st : List (Nat × Nat)) (P : List (List Nat)) (S : HS) (x6 x7 x8 : Option IV), 1501 ≤ n + m → Bfs r1 r2 few M Q st P n 0 → FSt S f Q st → Q.length ≤ 1500 → n ≤ Q.length → S[j]? = some (jO r1 r2 few fa) →
    (∃ S' Q' st' P' y6 y7 y8, Bfs r1 r2 few M Q' st' P' Q'.length 0 ∧ FSt S' f Q' st' ∧ Fr f S S' ∧
      bWhile m toT (toB fa) [some (.obj j), some (nIV M), x2, some (.dat (.str w2)), some (.obj f), some (nIV n), x6, x7, x8] S = some (.nx [some (.obj j), some (nIV M), x2, some (.dat (.str w2)), some (.obj f), some (nIV Q'.length), y6, y7, y8] S'))
    ∨ (∃ S' t, ToldRun r1 r2 few M t ∧ Fr f S S' ∧ bWhile m toT (toB fa) [some (.obj j), some (nIV M), x2, some (.dat (.str w2)), some (.obj f), some (nIV n), x6, x7, x8] S = some (.rt (.dat (.tuple [.str w2, encN t])) S'))
    ∨ (∃ S' ρ', Fr f S S' ∧ bWhile m toT (toB fa) [some (.obj j), some (nIV M), x2, some (.dat (.str w2)), some (.obj f), some (nIV n), x6, x7, x8] S = some (.ex ρ' S'))
  | 0, n, Q, st, P, S, x6, x7, x8, hm, B, F, hz, hn, hj => by omega
  | m + 1, n, Q, st, P, S, x6, x7, x8, hm, B, F, hz, hn, hj => by
    have eT : toT [some (.obj j), some (nIV M), x2, some (.dat (.str w2)), some (.obj f), some (nIV n), x6, x7, x8] S = some (.ok (decide (n < Q.length)) S) := by
      have t : iFld "Found" (iVar 4) "things" [some (.obj j), some (nIV M), x2, some (.dat (.str w2)), some (.obj f), some (nIV n), x6, x7, x8] S = some (.ok (.obj (f + 1)) S) := fld_f _ _ rfl F.s rfl
      have g := F.th
      simp [-iFld, nIV] at t ⊢
      simp [-iFld, t, g]
    by_cases hlt : n < Q.length
    · rw [decide_eq_true hlt] at eT
      have eR : iRngI (iP (eAdd (eVar 1) (eC (.int 1)))) [some (.obj j), some (nIV M), x2, some (.dat (.str w2)), some (.obj f), some (nIV n), x6, x7, x8] S = some (.ok ((List.range' 0 (M + 1)).map nIV) S) :=
         eRng rfl hM
      rcases inner_ok (fa := fa) h1 h2 f2 hM hjf w2 (some (nIV M)) x2 (M + 1) 0 Q st P S x6 x7 x8 (by omega) B F hz hlt hj with ⟨S', Q', st', P', y6, y7, y8, b1, b2, b3, b4, b5, b6⟩ | ⟨S', t, b1, b2, b3⟩ | ⟨S', ρ', b1, b2⟩
      · have eF := bFor_ok eR b6
        have eB : toB fa [some (.obj j), some (nIV M), x2, some (.dat (.str w2)), some (.obj f), some (nIV n), x6, x7, x8] S = some (.nx [some (.obj j), some (nIV M), x2, some (.dat (.str w2)), some (.obj f), some (nIV (n + 1)), y6, y7, y8] S') := by
          unfold toB
          rw [bSeq_nx eF]
          simp [nIV, fICat]
        have hj' : S'[j]? = some (jO r1 r2 few fa) := by rw [b5.keep j hjf]; exact hj
        have e := bWhile_t (m := m) eT eB
        rcases outer_ok h1 h2 f2 hM hjf w2 x2 m (n + 1) Q' st' P' S' y6 y7 y8 (by omega) (b1.next hM) b2 b3 (by omega) hj' with ⟨S2, Q2, st2, P2, z6, z7, z8, c1, c2, c3, c4⟩ | ⟨S2, t, c1, c2, c3⟩ | ⟨S2, ρ', c1, c2⟩
        · exact .inl ⟨S2, Q2, st2, P2, z6, z7, z8, c1, c2, b5.trans c3, e.trans c4⟩
        · exact .inr (.inl ⟨S2, t, c1, b5.trans c2, e.trans c3⟩)
        · exact .inr (.inr ⟨S2, ρ', b5.trans c1, e.trans c2⟩)
      · have eF := bFor_ok eR b3
        have eB : toB fa [some (.obj j), some (nIV M), x2, some (.dat (.str w2)), some (.obj f), some (nIV n), x6, x7, x8] S = some (.rt (.dat (.tuple [.str w2, encN t])) S') := by
          unfold toB
          rw [bSeq_rt eF]
        exact .inr (.inl ⟨S', t, b1, b2, bWhile_r eT eB⟩)
      · have eF := bFor_ok eR b2
        have eB : toB fa [some (.obj j), some (nIV M), x2, some (.dat (.str w2)), some (.obj f), some (nIV n), x6, x7, x8] S = some (.ex ρ' S') := by
          unfold toB
          rw [bSeq_ex eF]
        exact .inr (.inr ⟨S', ρ', b1, bWhile_e eT eB⟩)
    · have hn' : n = Q.length := by omega
      subst hn'
      rw [decide_eq_false hlt] at eT
      exact .inl ⟨S, Q, st, P, x6, x7, x8, B, F, Fr.refl _ _, bWhile_f eT⟩
end
end KW
/-! MU: alike -/
namespace KW
open PySem PySem.Spec L2
section
variable {r1 r2 : Rl} {few : Int} {fa : Addr} {M : Nat}
/-- what alike gives -/
def AlikeOut (r1 r2 : Rl) (few : Int) (M : Nat) (S : HS) (o : Option (Io IV)) : Prop :=
  (∃ S' d, Fr S.length S S' ∧ (∀ ns : List Nat, (∀ x ∈ ns, x ≤ M) → likeW r1 r2 few ns) ∧ noList d = true ∧ o = some (.ok (.dat (.tuple [.str "alike", d])) S'))
  ∨ (∃ S' t, Fr S.length S S' ∧ ToldRun r1 r2 few M t ∧ o = some (.ok (.dat (.tuple [.str "unlike", encN t])) S'))
  ∨ (∃ S', Fr S.length S S' ∧ o = some (.ex S'))
theorem datsOf_Pr : ∀ Q : List Pr, datsOf (Q.map fun p => IV.dat (encPr p)) = some (Q.map encPr)
  | [] => rfl
  | q :: Q => by simp [datsOf_Pr Q]
theorem noLists_Pr : ∀ Q : List Pr, noLists (Q.map encPr) = true
  | [] => rfl
  | q :: Q => by simp [noLists_Pr Q, noList_encPr]
theorem told_ok (h1 : r1.Ok) (h2 : r2.Ok) (f1 : 1 ≤ few) (f2 : few ≤ 99) (hM : M ≤ 3) {S : HS} {j : Nat} (hj : S[j]? = some (jO r1 r2 few fa)) :
    AlikeOut r1 r2 few M S (FI_Joint_told fa [.obj j, .dat (.int M), .dat (.str "alike"), .dat (.str "unlike")] S) := by
  have lj := lt_of_get hj
  have e1 := Joint_first_ok h1 h2 f1 f2 hj
  have e2 := Found_init_ok (emptyL r1, emptyL r2) S
  obtain ⟨S1, hS1⟩ : ∃ S1, S1 = S ++ [fO (S.length + 1) (S.length + 2) (S.length + 3), .lst [.dat (encPr (emptyL r1, emptyL r2))], .kd [encPr (emptyL r1, emptyL r2)], .lst [.dat (.tuple [.none, .none])]] := ⟨_, rfl⟩
  rw [← hS1] at e2
  have F1 : FSt S1 S.length [(emptyL r1, emptyL r2)] [] := by
    rw [hS1]
    exact ⟨by simp, by rw [at_ap]; rfl, by rw [at_ap]; rfl, by rw [at_ap]; rfl⟩
  have hj1 : S1[j]? = some (jO r1 r2 few fa) := by rw [hS1, List.getElem?_append_left lj]; exact hj
  have Fr1 : Fr S.length S S1 := by rw [hS1]; exact Fr.ap2 (Nat.le_refl _) _
  have hi : isI "Joint" "first" S (.obj j) = true := by
    simp only [isI, hj, jO]
    rfl
  have nE := noList_encPr (emptyL r1, emptyL r2)
  unfold FI_Joint_told runI
  simp only [List.map_cons, List.map_nil, List.length_cons, List.length_nil, List.cons_append, List.nil_append, Nat.reduceAdd, Nat.reduceSub, List.replicate]
  rw [bSeq_nx (ρ' := [some (.obj j), some (nIV M), some (.dat (.str "alike")), some (.dat (.str "unlike")), some (.obj S.length), none, none, none, none]) (S' := S1) (by
    simp only [bAsg, iMake, iBind, iCons, iMeth, iVar, List.getElem?_cons_zero, hi, if_true, iNil, iRA, e1, e2, gIN, List.set_cons_succ, List.set_cons_zero, nIV])]
  rw [bSeq_nx (ρ' := [some (.obj j), some (nIV M), some (.dat (.str "alike")), some (.dat (.str "unlike")), some (.obj S.length), some (nIV 0), none, none, none]) (S' := S1) (by
    exact bAsgN (d := .int 0) rfl rfl)]
  rcases outer_ok (fa := fa) h1 h2 f2 hM lj "unlike" (some (.dat (.str "alike"))) 2000 0 _ _ _ S1 none none none (by omega) (Bfs.init h1 h2 f1) F1 (by simp) (by simp) hj1 with ⟨S', Q', st', P', y6, y7, y8, b1, b2, b3, b4⟩ | ⟨S', t, b1, b2, b3⟩ | ⟨S', ρ', b1, b2⟩
  · left
    have t : iFld "Found" (iVar 4) "things" [some (.obj j), some (nIV M), some (.dat (.str "alike")), some (.dat (.str "unlike")), some (.obj S.length), some (nIV Q'.length), y6, y7, y8] S' = some (.ok (.obj (S.length + 1)) S') := fld_f _ _ rfl b2.s rfl
    have a1 : iP (eVar 2) [some (.obj j), some (nIV M), some (.dat (.str "alike")), some (.dat (.str "unlike")), some (.obj S.length), some (nIV Q'.length), y6, y7, y8] S' = some (.ok (.dat (.str "alike")) S') := by
      simp [nIV]
    have a2 : iTupOf (iFld "Found" (iVar 4) "things") [some (.obj j), some (nIV M), some (.dat (.str "alike")), some (.dat (.str "unlike")), some (.obj S.length), some (nIV Q'.length), y6, y7, y8] S' = some (.ok (.dat (.tuple (Q'.map encPr))) S') := by
      simp only [iTupOf, iBind, t, tupOf_, b2.th, datsOf_Pr]
    refine ⟨S', .tuple (Q'.map encPr), Fr1.trans b3, fun ns hd => (b1.all ns.length ns rfl hd).2, by simp [noLists_Pr], ?_⟩
    rw [bSeq_nx b4]
    rw [bSeq_rt (x := .dat (.tuple [.str "alike", .tuple (Q'.map encPr)])) (S' := S') (by
      unfold bRet
      rw [iTup2 a1 a2])]
  · right; left
    refine ⟨S', t, Fr1.trans b2, b1, ?_⟩
    rw [bSeq_rt b3]
  · right; right
    refine ⟨S', Fr1.trans b1, ?_⟩
    rw [bSeq_ex b2]
theorem AlikeOut.lift {S S1 : HS} {o : Option (Io IV)} (hF : Fr S.length S S1) (h : AlikeOut r1 r2 few M S1 o) : AlikeOut r1 r2 few M S o := by
  have hl := hF.len
  rcases h with ⟨S', d, b1, b2, b3, b4⟩ | ⟨S', t, b1, b2, b3⟩ | ⟨S', b1, b2⟩
  · exact .inl ⟨S', d, hF.trans (b1.weak hl), b2, b3, b4⟩
  · exact .inr (.inl ⟨S', t, hF.trans (b1.weak hl), b2, b3⟩)
  · exact .inr (.inr ⟨S', hF.trans (b1.weak hl), b2⟩)
theorem alike_ok (h1 : r1.Ok) (h2 : r2.Ok) (f1 : 1 ≤ few) (f2 : few ≤ 6) (hM1 : 1 ≤ M) (hM : M ≤ 3) (S : HS) :
    AlikeOut r1 r2 few M S (FI_alike fa [.dat (encR r1), .dat (encR r2), .dat (.int few), .dat (.int M)] S) := by
  have e0 := joint_alike_ok (fa := fa) h1 h2 f1 f2 (most := (M : Int)) (by omega) (by omega) S
  obtain ⟨S1, hS1⟩ : ∃ S1, S1 = S ++ [jO r1 r2 few fa] := ⟨_, rfl⟩
  rw [← hS1] at e0
  have hj : S1[S.length]? = some (jO r1 r2 few fa) := by rw [hS1]; simp
  have k := told_ok (M := M) h1 h2 f1 (by omega) hM hj
  have Fr1 : Fr S.length S S1 := by rw [hS1]; exact Fr.ap2 (Nat.le_refl _) _
  have hi : isI "Joint" "told" S1 (.obj S.length) = true := by
    simp only [isI, hj, jO]
    rfl
  have n1 := noList_encR r1
  have n2 := noList_encR r2
  have e : FI_alike fa [.dat (encR r1), .dat (encR r2), .dat (.int few), .dat (.int M)] S = FI_Joint_told fa [.obj S.length, .dat (.int M), .dat (.str "alike"), .dat (.str "unlike")] S1 := by
    unfold FI_alike runI
    simp only [List.map_cons, List.map_nil, List.length_cons, List.length_nil, List.cons_append, List.nil_append, Nat.reduceAdd, Nat.reduceSub, List.replicate]
    simp only [bSeq, bRet, iMeth, iCall, iBind, iCons, iP, List.map_cons, List.map_nil, prj, eVar, eC, List.getElem?_cons_zero, List.getElem?_cons_succ, iRet, n1, n2, noList, if_true, iNil, iRA, e0, hi]
    cases FI_Joint_told fa [.obj S.length, .dat (.int M), .dat (.str "alike"), .dat (.str "unlike")] S1 with
    | none => rfl
    | some o => cases o <;> rfl
  rw [e]
  exact k.lift Fr1
end
end KW
/-! MV: told runs are short -/
namespace KW
open PySem PySem.Spec L2
section
variable {r1 r2 : Rl} {few : Int} {M : Nat}
def closedK (r1 r2 : Rl) (few : Int) (M : Nat) (K : List Pr) : Bool := decide ((emptyL r1, emptyL r2) ∈ K) && K.all fun p => (List.range (M + 1)).all fun n => !showsP r1 r2 few p n && decide (doneP r1 r2 few p n ∈ K)
theorem closedK_ok {K : List Pr} (h : closedK r1 r2 few M K = true) : ∀ (k : Nat) (ns : List Nat), ns.length = k → (∀ x ∈ ns, x ≤ M) → endP r1 r2 few ns ∈ K ∧ likeW r1 r2 few ns := by
  simp only [closedK, Bool.and_eq_true, decide_eq_true_eq, List.all_eq_true, List.mem_range, Bool.not_eq_true'] at h
  obtain ⟨h0, h1⟩ := h
  intro k
  induction k with
  | zero =>
    intro ns hk hd
    rw [List.length_eq_zero_iff.mp hk]
    exact ⟨h0, rfl⟩
  | succ k ih =>
    intro ns hk hd
    obtain ⟨ns', x, rfl⟩ : ∃ ns' x, ns = ns' ++ [x] := ⟨ns.dropLast, ns.getLast (by intro e; rw [e] at hk; cases hk), (List.dropLast_concat_getLast _).symm⟩
    obtain ⟨a, b⟩ := ih ns' (by simpa using hk) (fun y hy => hd y (by simp [hy]))
    obtain ⟨c, d⟩ := h1 _ a x (by have := hd x (by simp); omega)
    exact ⟨by rw [endP_snoc]; exact d, likeW_snoc b c⟩
theorem num_lt : ∀ (a : List Nat), (∀ x ∈ a, x ≤ 3) → ∀ s : Nat, s * 4 ^ a.length ≤ a.foldl (fun a x => 4 * a + x) s ∧ a.foldl (fun a x => 4 * a + x) s < (s + 1) * 4 ^ a.length
  | [], h, s => by simp
  | x :: a, h, s => by
    have hx := h x (by simp)
    obtain ⟨h1, h2⟩ := num_lt a (fun y hy => h y (by simp [hy])) (4 * s + x)
    rw [List.foldl_cons, List.length_cons, Nat.pow_succ]
    generalize hp : 4 ^ a.length = p at *
    constructor
    · refine Nat.le_trans ?_ h1
      rw [show s * (p * 4) = (4 * s) * p by rw [Nat.mul_comm p 4, ← Nat.mul_assoc, Nat.mul_comm s 4]]
      exact Nat.mul_le_mul_right p (by omega)
    · refine Nat.lt_of_lt_of_le h2 ?_
      rw [show (s + 1) * (p * 4) = (4 * (s + 1)) * p by rw [Nat.mul_comm p 4, ← Nat.mul_assoc, Nat.mul_comm (s + 1) 4]]
      exact Nat.mul_le_mul_right p (by omega)
theorem num_len {a b : List Nat} (ha : ∀ x ∈ a, x ≤ 3) (hb : ∀ x ∈ b, x ≤ 3) (h : a.length < b.length) : num a < num b := by
  obtain ⟨-, h1⟩ := num_lt a ha 1
  obtain ⟨h2, -⟩ := num_lt b hb 1
  have : (1 + 1) * 4 ^ a.length ≤ 1 * 4 ^ b.length := by
    have := Nat.pow_le_pow_right (n := 4) (by decide) h
    rw [Nat.pow_succ] at this
    omega
  unfold num
  omega
end
end KW
/-! MW: the search, by the kernel -/
namespace KW
open PySem PySem.Spec L2
/-- one level: the pairs behind those of the level, or a run that shows -/
def lvl (r1 r2 : Rl) (few : Int) (ds : List Nat) : List (Pr × List Nat) → List Pr → List (Pr × List Nat) → List Nat ⊕ (List Pr × List (Pr × List Nat))
  | [], seen, acc => .inr (seen, acc)
  | (p, w) :: r, seen, acc => match ds.find? fun n => showsP r1 r2 few p n with
    | some n => .inl (w ++ [n])
    | none => let q := ds.foldl (fun (sa : List Pr × List (Pr × List Nat)) n => let p' := doneP r1 r2 few p n; if p' ∈ sa.1 then sa else (p' :: sa.1, (p', w ++ [n]) :: sa.2)) (seen, acc)
      lvl r1 r2 few ds r q.1 q.2
def srch (r1 r2 : Rl) (few : Int) (ds : List Nat) : Nat → List Pr → List (Pr × List Nat) → List Nat ⊕ List Pr
  | 0, _, _ => .inl []
  | m + 1, seen, fr => match lvl r1 r2 few ds fr seen [] with
    | .inl w => .inl w
    | .inr (s, []) => .inr s
    | .inr (s, f) => srch r1 r2 few ds m s f
def shortB (r1 r2 : Rl) (few : Int) (M : Nat) : Bool := match srch r1 r2 few (List.range (M + 1)) 100 [(emptyL r1, emptyL r2)] [((emptyL r1, emptyL r2), [])] with
  | .inl w => decide (w.length ≤ 400) && w.all (fun x => decide (x ≤ M)) && !decide (runW r1 few (emptyL r1) w = runW r2 few (emptyL r2) w)
  | .inr K => closedK r1 r2 few M K
theorem ToldRun.dig {r1 r2 : Rl} {few : Int} {M : Nat} {t : List Nat} (h : ToldRun r1 r2 few M t) : ∀ x ∈ t, x ≤ M := by
  obtain ⟨pn, c, rfl, h1, h2, -, -⟩ := h.ex
  intro x hx
  rcases List.mem_append.mp hx with g | g
  · exact h2 x g
  · rw [List.mem_singleton.mp g]; exact h1
theorem ToldRun.parts {r1 r2 : Rl} {few : Int} {M : Nat} {t : List Nat} (h : ToldRun r1 r2 few M t) : ¬ likeW r1 r2 few t := by
  obtain ⟨pn, c, rfl, -, -, h3, h4⟩ := h.ex
  intro hw
  simp only [likeW, runW_snoc] at hw h3
  rw [h3] at hw
  have := List.append_cancel_left hw
  simp only [List.cons.injEq, and_true] at this
  simp [showsP, endP, this] at h4
theorem short_ok {r1 r2 : Rl} {few : Int} {M : Nat} (hB : shortB r1 r2 few M = true) (hM : M ≤ 3) {t : List Nat} (ht : ToldRun r1 r2 few M t) : t.length ≤ 400 := by
  unfold shortB at hB
  split at hB
  · rename_i w _
    simp only [Bool.and_eq_true, decide_eq_true_eq, List.all_eq_true, Bool.not_eq_true', decide_eq_false_iff_not] at hB
    obtain ⟨⟨h1, h2⟩, h3⟩ := hB
    rcases Nat.lt_or_ge 400 t.length with g | g
    · exact absurd (ht.least w h2 (num_len (fun x hx => Nat.le_trans (h2 x hx) hM) (fun x hx => Nat.le_trans (ht.dig x hx) hM) (by omega))) h3
    · exact g
  · rename_i K _
    exact absurd ((closedK_ok hB t.length t rfl ht.dig).2) ht.parts
end KW
/-! MX: all pairs of rules: alike, or parted by a short run (the rows of rules are printed by mx.py) -/
namespace KW
open PySem PySem.Spec L2
def Rl.code : Rl → List Int
  | .non => []
  | .late m s => [m, s]
  | .share m p u t => [m, p, u, t]
theorem Rl.code_inj {a b : Rl} (h : a.code = b.code) : a = b := by
  cases a <;> cases b <;> simp_all [Rl.code]
instance : DecidableEq Rl := fun a b => decidable_of_iff (a.code = b.code) ⟨Rl.code_inj, fun h => by rw [h]⟩
def allR : List Rl := [.non, .late 1 1, .late 1 2, .late 1 3, .late 2 1, .late 2 2, .late 2 3, .late 3 1, .late 3 2, .late 3 3, .share 1 1 0 0, .share 1 1 0 500, .share 1 1 500 0, .share 1 1 500 500, .share 1 1 250 0, .share 1 1 250 500, .share 1 2 0 0, .share 1 2 0 500, .share 1 2 500 0, .share 1 2 500 500, .share 1 2 250 0, .share 1 2 250 500, .share 2 1 0 0, .share 2 1 0 500, .share 2 1 500 0, .share 2 1 500 500, .share 2 1 250 0, .share 2 1 250 500, .share 2 2 0 0, .share 2 2 0 500, .share 2 2 500 0, .share 2 2 500 500, .share 2 2 250 0, .share 2 2 250 500]
def Like (few : Int) (M : Nat) (r1 r2 : Rl) : Prop := ∀ ns : List Nat, (∀ x ∈ ns, x ≤ M) → likeW r1 r2 few ns
def Part (few : Int) (M : Nat) (r1 r2 : Rl) : Prop := ∃ w : List Nat, w.length ≤ 400 ∧ (∀ x ∈ w, x ≤ M) ∧ ¬ likeW r1 r2 few w
theorem Like.refl (few : Int) (M : Nat) (r : Rl) : Like few M r r := fun _ _ => rfl
def likeB (few : Int) (M : Nat) (a b : Rl) : Bool := match srch a b few (List.range (M + 1)) 300 [(emptyL a, emptyL b)] [((emptyL a, emptyL b), [])] with
  | .inl _ => false
  | .inr K => closedK a b few M K
theorem likeB_ok {few : Int} {M : Nat} {a b : Rl} (h : likeB few M a b = true) : Like few M a b := fun ns hd => by
  unfold likeB at h
  split at h
  · cases h
  · exact (closedK_ok h ns.length ns rfl hd).2
def partB (few : Int) (M : Nat) (runs : List (List Nat)) (a b : Rl) : Bool := runs.any fun w => decide (w.length ≤ 400) && w.all (fun x => decide (x ≤ M)) && !decide (runW a few (emptyL a) w = runW b few (emptyL b) w)
theorem partB_ok {few : Int} {M : Nat} {runs : List (List Nat)} {a b : Rl} (h : partB few M runs a b = true) : Part few M a b := by
  obtain ⟨w, -, h⟩ := List.any_eq_true.mp h
  simp only [Bool.and_eq_true, decide_eq_true_eq, List.all_eq_true, Bool.not_eq_true', decide_eq_false_iff_not] at h
  exact ⟨w, h.1.1, h.1.2, h.2⟩
def sepB (few : Int) (M : Nat) (runs : List (List Nat)) : List Rl → Bool
  | [] => true
  | a :: as => as.all (partB few M runs a) && sepB few M runs as
theorem Part.symm {few : Int} {M : Nat} {a b : Rl} (h : Part few M a b) : Part few M b a := by
  obtain ⟨w, h1, h2, h3⟩ := h
  exact ⟨w, h1, h2, fun e => h3 e.symm⟩
theorem sepB_ok {few : Int} {M : Nat} {runs : List (List Nat)} : ∀ {hs : List Rl}, sepB few M runs hs = true → ∀ a ∈ hs, ∀ b ∈ hs, a = b ∨ Part few M a b
  | [], _, a, ha, _, _ => by cases ha
  | h :: hs, e, a, ha, b, hb => by
    simp only [sepB, Bool.and_eq_true, List.all_eq_true] at e
    rcases List.mem_cons.mp ha with rfl | ha'
    · rcases List.mem_cons.mp hb with rfl | hb'
      · exact .inl rfl
      · exact .inr (partB_ok (e.1 b hb'))
    · rcases List.mem_cons.mp hb with rfl | hb'
      · exact .inr (partB_ok (e.1 a ha')).symm
      · exact sepB_ok e.2 a ha' b hb'
def okB (few : Int) (M : Nat) (runs : List (List Nat)) (cs : List (Rl × List Rl)) : Bool :=
  cs.all (fun c => c.2.all (likeB few M c.1)) && (sepB few M runs (cs.map (·.1)) && allR.all fun r => cs.any fun c => decide (r = c.1) || decide (r ∈ c.2))
theorem okB_ok {few : Int} {M : Nat} {runs : List (List Nat)} {cs : List (Rl × List Rl)} (h : okB few M runs cs = true) {a b : Rl} (ha : a ∈ allR) (hb : b ∈ allR) : Like few M a b ∨ Part few M a b := by
  simp only [okB, Bool.and_eq_true, List.all_eq_true, List.any_eq_true, Bool.or_eq_true, decide_eq_true_eq] at h
  obtain ⟨h1, h2, h3⟩ := h
  have key : ∀ r ∈ allR, ∃ k ∈ cs.map (·.1), Like few M k r := fun r hr => by
    obtain ⟨c, hc, e⟩ := h3 r hr
    refine ⟨c.1, List.mem_map_of_mem hc, ?_⟩
    rcases e with rfl | e
    · exact .refl _ _ _
    · exact likeB_ok (h1 c hc r e)
  obtain ⟨k, hk, la⟩ := key a ha
  obtain ⟨l, hl, lb⟩ := key b hb
  rcases sepB_ok h2 k hk l hl with rfl | p
  · exact .inl fun ns hd => (la ns hd).symm.trans (lb ns hd)
  · obtain ⟨w, w1, w2, w3⟩ := p
    exact .inr ⟨w, w1, w2, fun e => w3 ((la w w2).trans (e.trans (lb w w2).symm))⟩
def cls11 : List (Rl × List Rl) := [(.non, [.late 1 1, .late 1 2, .late 1 3, .late 2 1, .late 2 2, .late 2 3, .late 3 1, .late 3 2, .late 3 3, .share 1 1 0 0, .share 1 1 0 500, .share 1 1 500 0, .share 1 1 500 500, .share 1 1 250 0, .share 1 1 250 500, .share 1 2 0 0, .share 1 2 0 500, .share 1 2 500 0, .share 1 2 500 500, .share 1 2 250 0, .share 1 2 250 500, .share 2 1 0 0, .share 2 1 0 500, .share 2 1 500 0, .share 2 1 500 500, .share 2 1 250 0, .share 2 1 250 500, .share 2 2 0 0, .share 2 2 0 500, .share 2 2 500 0, .share 2 2 500 500, .share 2 2 250 0, .share 2 2 250 500])]
theorem all_11 : okB 1 1 [] cls11 = true := by decide +kernel
def cls12 : List (Rl × List Rl) := [(.non, [.late 1 1, .late 1 2, .late 1 3, .late 2 1, .late 2 2, .late 2 3, .late 3 1, .late 3 2, .late 3 3, .share 1 1 0 0, .share 1 1 0 500, .share 1 1 500 0, .share 1 1 500 500, .share 1 1 250 0, .share 1 1 250 500, .share 1 2 0 0, .share 1 2 0 500, .share 1 2 500 0, .share 1 2 500 500, .share 1 2 250 0, .share 1 2 250 500, .share 2 1 0 0, .share 2 1 0 500, .share 2 1 500 0, .share 2 1 500 500, .share 2 1 250 0, .share 2 1 250 500, .share 2 2 0 0, .share 2 2 0 500, .share 2 2 500 0, .share 2 2 500 500, .share 2 2 250 0, .share 2 2 250 500])]
theorem all_12 : okB 1 2 [] cls12 = true := by decide +kernel
def cls21 : List (Rl × List Rl) := [(.non, [.late 1 1, .late 1 2, .late 1 3, .late 2 1, .late 2 2, .late 2 3, .late 3 1, .late 3 2, .late 3 3, .share 1 1 0 0, .share 1 1 0 500, .share 1 1 500 0, .share 1 1 500 500, .share 1 1 250 0, .share 1 1 250 500, .share 1 2 0 0, .share 1 2 0 500, .share 1 2 500 0, .share 1 2 500 500, .share 1 2 250 0, .share 1 2 250 500, .share 2 1 0 0, .share 2 1 0 500, .share 2 1 500 0, .share 2 1 500 500, .share 2 1 250 0, .share 2 1 250 500, .share 2 2 0 0, .share 2 2 0 500, .share 2 2 500 0, .share 2 2 500 500, .share 2 2 250 0, .share 2 2 250 500])]
theorem all_21 : okB 2 1 [] cls21 = true := by decide +kernel
def cls22 : List (Rl × List Rl) := [(.non, [.late 2 1, .late 2 2, .late 2 3, .late 3 1, .late 3 2, .late 3 3, .share 1 1 0 0, .share 1 1 500 0, .share 1 1 250 0, .share 1 2 0 0, .share 1 2 500 0, .share 1 2 250 0, .share 2 1 0 0, .share 2 1 500 0, .share 2 1 500 500, .share 2 1 250 0, .share 2 2 0 0, .share 2 2 500 0, .share 2 2 500 500, .share 2 2 250 0]),
  (.late 1 1, []),
  (.late 1 2, []),
  (.late 1 3, []),
  (.share 1 1 0 500, [.share 1 1 500 500, .share 1 1 250 500, .share 2 1 0 500]),
  (.share 1 2 0 500, [.share 1 2 500 500, .share 1 2 250 500, .share 2 2 0 500]),
  (.share 2 1 250 500, []),
  (.share 2 2 250 500, [])]
theorem all_22 : okB 2 2 [[2, 1, 1, 1, 1], [2, 1, 0, 2, 1, 0, 2, 1, 0, 2, 1]] cls22 = true := by decide +kernel
def cls31 : List (Rl × List Rl) := [(.non, [.late 1 1, .late 1 2, .late 1 3, .late 2 1, .late 2 2, .late 2 3, .late 3 1, .late 3 2, .late 3 3, .share 1 1 0 0, .share 1 1 0 500, .share 1 1 500 0, .share 1 1 500 500, .share 1 1 250 0, .share 1 1 250 500, .share 1 2 0 0, .share 1 2 0 500, .share 1 2 500 0, .share 1 2 500 500, .share 1 2 250 0, .share 1 2 250 500, .share 2 1 0 0, .share 2 1 0 500, .share 2 1 500 0, .share 2 1 500 500, .share 2 1 250 0, .share 2 1 250 500, .share 2 2 0 0, .share 2 2 0 500, .share 2 2 500 0, .share 2 2 500 500, .share 2 2 250 0, .share 2 2 250 500])]
theorem all_31 : okB 3 1 [] cls31 = true := by decide +kernel
def cls32 : List (Rl × List Rl) := [(.non, [.late 3 1, .late 3 2, .late 3 3, .share 1 1 0 0, .share 1 2 0 0, .share 2 1 0 0, .share 2 1 500 0, .share 2 1 250 0, .share 2 2 0 0, .share 2 2 500 0, .share 2 2 250 0]),
  (.late 1 1, []),
  (.late 1 2, []),
  (.late 1 3, []),
  (.late 2 1, []),
  (.late 2 2, []),
  (.late 2 3, []),
  (.share 1 1 0 500, [.share 1 1 500 500, .share 1 1 250 500, .share 2 1 0 500]),
  (.share 1 1 500 0, []),
  (.share 1 1 250 0, []),
  (.share 1 2 0 500, [.share 1 2 500 500, .share 1 2 250 500, .share 2 2 0 500]),
  (.share 1 2 500 0, []),
  (.share 1 2 250 0, []),
  (.share 2 1 500 500, []),
  (.share 2 1 250 500, []),
  (.share 2 2 500 500, []),
  (.share 2 2 250 500, [])]
theorem all_32 : okB 3 2 [[2, 2, 1, 1, 1, 0, 1], [0, 2, 2, 0, 1, 2, 1]] cls32 = true := by decide +kernel
theorem like_or {few : Int} (f1 : 1 ≤ few) (f2 : few ≤ 3) {M : Nat} (m1 : 1 ≤ M) (m2 : M ≤ 2) {a b : Rl} (ha : a ∈ allR) (hb : b ∈ allR) : Like few M a b ∨ Part few M a b := by
  have e : few = 1 ∨ few = 2 ∨ few = 3 := by omega
  have e2 : M = 1 ∨ M = 2 := by omega
  rcases e with rfl | rfl | rfl <;> rcases e2 with rfl | rfl
  · exact okB_ok all_11 ha hb
  · exact okB_ok all_12 ha hb
  · exact okB_ok all_21 ha hb
  · exact okB_ok all_22 ha hb
  · exact okB_ok all_31 ha hb
  · exact okB_ok all_32 ha hb
/-- a told run is short -/
theorem short_told {few : Int} (f1 : 1 ≤ few) (f2 : few ≤ 3) {M : Nat} (m1 : 1 ≤ M) (m2 : M ≤ 2) {a b : Rl} (ha : a ∈ allR) (hb : b ∈ allR) {t : List Nat} (ht : ToldRun a b few M t) : t.length ≤ 400 := by
  rcases like_or f1 f2 m1 m2 ha hb with l | ⟨w, w1, w2, w3⟩
  · exact absurd (l t ht.dig) ht.parts
  · rcases Nat.lt_or_ge 400 t.length with g | g
    · exact absurd (ht.least w w2 (num_len (fun x hx => Nat.le_trans (w2 x hx) (by omega)) (fun x hx => Nat.le_trans (ht.dig x hx) (by omega)) (by omega))) w3
    · exact g
theorem allR_ok : ∀ r ∈ allR, r.Ok := by
  intro r hr
  simp only [allR, List.mem_cons, List.not_mem_nil, or_false] at hr
  rcases hr with rfl | rfl | rfl | rfl | rfl | rfl | rfl | rfl | rfl | rfl | rfl | rfl | rfl | rfl | rfl | rfl | rfl | rfl | rfl | rfl | rfl | rfl | rfl | rfl | rfl | rfl | rfl | rfl | rfl | rfl | rfl | rfl | rfl | rfl <;> simp [Rl.Ok]
end KW
/-! MYa: the law's own draws: a pot, a number, a rule, counts -/
namespace KW
open PySem PySem.Spec L2
theorem fMod_int {i j : Int} (h : 0 < j) : fMod (.int i) (.int j) = some (.int (i % j)) := by simp [fMod, h]
theorem fFdiv_int {i j : Int} (h : 0 < j) (h2 : j < 1073741824) : fFdiv (.int i) (.int j) = some (.int (i / j)) := by simp [fFdiv, h, h2]
theorem fPow_int {i j : Int} (h : 0 ≤ j) (h1 : j ≤ 1000) (h2 : i.natAbs < 2 ^ 256) : fPow (.int i) (.int j) = some (.int (i ^ j.toNat)) := by
  show Option.map PyData.int (if 0 ≤ j ∧ j ≤ 1000 ∧ i.natAbs < 2 ^ 256 then some (i ^ j.toNat) else none) = _
  rw [if_pos ⟨h, h1, h2⟩]
  rfl
theorem fMulR_int {i j : Int} (h : -(2 ^ 64) < i ∧ i < 2 ^ 64) : fMulR (.int i) (.int j) = some (.int (i * j)) := by
  unfold fMulR
  exact if_pos (.inl h)
theorem fMulR_intR {i j : Int} (h : -(2 ^ 64) < j ∧ j < 2 ^ 64) : fMulR (.int i) (.int j) = some (.int (i * j)) := by
  unfold fMulR
  exact if_pos (.inr h)
/-! ### pieces -/
theorem ixK {v : Nat} {k : Int} {ρ : IR} {S : HS} {i : Nat} {xs : List IV} {z : IV} (hρ : ρ[v]? = some (some (.obj i))) (hS : S[i]? = some (.lst xs)) (hk : 0 ≤ k) (hz : xs[k.toNat]? = some z) :
    iIx (iVar v) (iP (eC (.int k))) ρ S = some (.ok z S) := by
  simp only [iIx, iTwo, iBind, iVar, hρ, iP, eC, iRet, noList, if_true, ixGo, if_pos hk, hS, hz]
theorem cK {d : PyData} (h : noList d = true) {ρ : IR} {S : HS} : iP (eC d) ρ S = some (.ok (.dat d) S) := by
  simp only [iP, eC, iRet, h, if_true]
theorem vK {i : Nat} {d : PyData} {ρ : IR} {S : HS} (hρ : ρ[i]? = some (some (.dat d))) (h : noList d = true) : iP (eVar i) ρ S = some (.ok (.dat d) S) := by
  have e : (ρ.map prj)[i]? = some (some (.dat d)) := by rw [List.getElem?_map, hρ]; rfl
  simp only [iP, eVar, e, iRet, h, if_true]
theorem binS {Fo : PyData → PyData → Option PyData} {F G : IE} {ρ : IR} {S S1 S2 : HS} {x y z : PyData} (hF : F ρ S = some (.ok (.dat x) S1)) (hG : G ρ S1 = some (.ok (.dat y) S2)) (hz : Fo x y = some z) (hn : noList z = true) :
    iBin Fo F G ρ S = some (.ok (.dat z) S2) := by
  simp only [iBin, iTwo, iBind, hF, hG, dOp, asD, hz, iRet, hn, if_true]
theorem cmpS {Fo : PyData → PyData → Option Bool} {F G : IE} {ρ : IR} {S S1 S2 : HS} {x y : PyData} {z : Bool} (hF : F ρ S = some (.ok (.dat x) S1)) (hG : G ρ S1 = some (.ok (.dat y) S2)) (hz : Fo x y = some z) :
    iCmpT Fo F G ρ S = some (.ok z S2) := by
  simp only [iCmpT, iTwo, iBind, hF, hG, dCmpT, asD, hz]
theorem asgS {F : IE} {v : Nat} {k : Int} {ρ : IR} {S S1 : HS} {i : Nat} {xs : List IV} {x : IV} (hF : F ρ S = some (.ok x S1)) (hρ : ρ[v]? = some (some (.obj i))) (hS : S1[i]? = some (.lst xs)) (hk : 0 ≤ k ∧ k.toNat < xs.length) :
    bAsg F (gIS (iVar v) (iP (eC (.int k)))) ρ S = some (.nx ρ (S1.set i (.lst (xs.set k.toNat x)))) := by
  simp only [bAsg, hF, gIS, iVar, hρ, iP, eC, iRet, noList, if_true, putIx, hS, if_pos hk, Option.map_some]
theorem asgV {F : IE} {i : Nat} {ρ : IR} {S S1 : HS} {x : IV} (hF : F ρ S = some (.ok x S1)) : bAsg F (gIN i) ρ S = some (.nx (ρ.set i (some x)) S1) := by
  simp only [bAsg, hF, gIN]
theorem retS {F : IE} {ρ : IR} {S S1 : HS} {x : IV} (hF : F ρ S = some (.ok x S1)) : bRet F ρ S = some (.rt x S1) := by
  simp only [bRet, hF]
theorem ifT {T : IX Bool} {u v : IB} {ρ : IR} {S S1 : HS} (hT : T ρ S = some (.ok true S1)) : bIf T u v ρ S = u ρ S1 := by simp only [bIf, hT]
theorem ifF {T : IX Bool} {u v : IB} {ρ : IR} {S S1 : HS} (hT : T ρ S = some (.ok false S1)) : bIf T u v ρ S = v ρ S1 := by simp only [bIf, hT]
/-! ### a pot -/
def potO (a b c : Int) : Ob := .lst [.dat (.int a), .dat (.int b), .dat (.int c)]
def Pot (S : HS) (i n : Nat) : Prop := ∃ a b c : Int, S[i]? = some (potO a b c) ∧ 0 ≤ a ∧ (0 ≤ b ∧ b < 2305843009213693951) ∧ 0 ≤ c ∧ c ≤ n
/-- but for the one at i, what is there stays -/
structure Ke (i : Nat) (S S' : HS) : Prop where
  len : S.length ≤ S'.length
  keep : ∀ j, j ≠ i → j < S.length → S'[j]? = S[j]?
theorem Ke.refl (i : Nat) (S : HS) : Ke i S S := ⟨Nat.le_refl _, fun _ _ _ => rfl⟩
theorem Ke.trans {i : Nat} {S S1 S2 : HS} (h : Ke i S S1) (k : Ke i S1 S2) : Ke i S S2 := ⟨Nat.le_trans h.len k.len, fun j hj hl => by rw [k.keep j hj (Nat.lt_of_lt_of_le hl h.len), h.keep j hj hl]⟩
theorem Ke.set (i : Nat) (S : HS) (o : Ob) : Ke i S (S.set i o) := ⟨by simp, fun j hj _ => List.getElem?_set_ne (Ne.symm hj)⟩
theorem Ke.app (i : Nat) (S T : HS) : Ke i S (S ++ T) := ⟨by simp, fun j _ hl => List.getElem?_append_left hl⟩
theorem Fr.ke {i : Nat} {S S' : HS} (h : Fr S.length S S') : Ke i S S' := ⟨h.len, fun j _ hl => h.keep j hl⟩
theorem Pot.lt {S : HS} {i n : Nat} (h : Pot S i n) : i < S.length := by
  obtain ⟨a, b, c, h, -⟩ := h
  exact lt_of_get h
theorem Pot.fr {S S' : HS} {i n : Nat} (h : Pot S i n) (f : Fr S.length S S') : Pot S' i n := by
  have l := h.lt
  obtain ⟨a, b, c, h, r⟩ := h
  exact ⟨a, b, c, by rw [f.keep i l]; exact h, r⟩
theorem Pot.app {S : HS} {i n : Nat} (h : Pot S i n) (T : HS) : Pot (S ++ T) i n := h.fr ⟨fun j hj => List.getElem?_append_left hj, by simp⟩
theorem Pot.mono {S : HS} {i n m : Nat} (h : Pot S i n) (k : n ≤ m) : Pot S i m := by
  obtain ⟨a, b, c, h1, h2, h3, h4, h5⟩ := h
  exact ⟨a, b, c, h1, h2, h3, h4, by omega⟩
theorem natOf {v : Int} {m : Nat} (h0 : 0 ≤ v) (h1 : v < m) : ∃ n : Nat, v = n ∧ n < m := ⟨v.toNat, by omega, by omega⟩
theorem take_ok {S : HS} {i n : Nat} (h : Pot S i n) (hn : n ≤ 1000) {m : Nat} (m1 : 1 ≤ m) (m2 : m ≤ 1000) :
    ∃ (v : Nat) (S' : HS), FI__law_take [.obj i, .dat (.int m)] S = some (.ok (.dat (.int v)) S') ∧ v < m ∧ Pot S' i (n + 1) ∧ Ke i S S' := by
  obtain ⟨a, b, c, hS, a0, ⟨b0, b1⟩, c0, c1⟩ := h
  have li := lt_of_get hS
  unfold FI__law_take runI
  simp only [List.map_cons, List.map_nil, List.length_cons, List.length_nil, List.cons_append, List.nil_append, Nat.reduceAdd, Nat.reduceSub, List.replicate]
  have g0 : ∀ ρ : IR, ρ[0]? = some (some (.obj i)) → iIx (iVar 0) (iP (eC (.int 0))) ρ S = some (.ok (.dat (.int a)) S) := fun ρ hρ => ixK hρ hS (by decide) rfl
  have hm : (0 : Int) < m := by omega
  by_cases ha : 0 < a
  · obtain ⟨v, hv, vm⟩ := natOf (Int.emod_nonneg a (b := (m : Int)) (by omega)) (Int.emod_lt_of_pos a hm)
    refine ⟨v, S.set i (potO (a / m) b c), ?_, vm, ⟨a / m, b, c, List.getElem?_set_self li, Int.ediv_nonneg a0 (by omega), ⟨b0, b1⟩, c0, by omega⟩, Ke.set _ _ _⟩
    rw [bSeq_rt (x := .dat (.int v)) (S' := S.set i (potO (a / m) b c)) (by
      rw [ifT (S1 := S) (cmpS (g0 _ rfl) (cK rfl) (by simp [ha]))]
      rw [bSeq_nx (asgV (binS (g0 _ rfl) (vK rfl rfl) (fMod_int hm) rfl))]
      rw [bSeq_nx (asgS (S1 := S) (binS (g0 _ rfl) (vK rfl rfl) (fFdiv_int hm (by omega)) rfl) rfl hS ⟨by decide, by simp⟩)]
      rw [bSeq_rt (retS (vK (d := .int (a % m)) rfl rfl))]
      rw [hv]; rfl)]
  · have hSc : (S.set i (potO a b (c + 1)))[i]? = some (potO a b (c + 1)) := List.getElem?_set_self li
    obtain ⟨S1, hS1⟩ : ∃ S1, S1 = S.set i (potO a b (c + 1)) := ⟨_, rfl⟩
    rw [← hS1] at hSc
    obtain ⟨x, hx⟩ : ∃ x : Int, x = b + 104729 * (c + 1) := ⟨_, rfl⟩
    have hxb : x.natAbs < 2 ^ 256 := by omega
    obtain ⟨p, hp⟩ : ∃ p : Int, p = x ^ 3 % 2305843009213693921 := ⟨_, rfl⟩
    have p0 : 0 ≤ p := by rw [hp]; exact Int.emod_nonneg _ (by decide)
    have p1 : p < 2305843009213693921 := by rw [hp]; exact Int.emod_lt_of_pos _ (by decide)
    obtain ⟨y, hy⟩ : ∃ y : Int, y = p + b % 65537 + 31 * (c + 1) := ⟨_, rfl⟩
    have hyb : y.natAbs < 2 ^ 256 := by omega
    obtain ⟨q, hq⟩ : ∃ q : Int, q = y ^ 5 % 2305843009213693907 := ⟨_, rfl⟩
    have q0 : 0 ≤ q := by rw [hq]; exact Int.emod_nonneg _ (by decide)
    obtain ⟨v, hv, vm⟩ := natOf (Int.emod_nonneg (q / 1024) (b := (m : Int)) (by omega)) (Int.emod_lt_of_pos (q / 1024) hm)
    refine ⟨v, S1, ?_, vm, ⟨a, b, c + 1, hSc, a0, ⟨b0, b1⟩, by omega, by omega⟩, by rw [hS1]; exact Ke.set _ _ _⟩
    have g1 : ∀ ρ : IR, ρ[0]? = some (some (.obj i)) → iIx (iVar 0) (iP (eC (.int 1))) ρ S1 = some (.ok (.dat (.int b)) S1) := fun ρ hρ => ixK hρ hSc (by decide) rfl
    have g2 : ∀ ρ : IR, ρ[0]? = some (some (.obj i)) → iIx (iVar 0) (iP (eC (.int 2))) ρ S1 = some (.ok (.dat (.int (c + 1))) S1) := fun ρ hρ => ixK hρ hSc (by decide) rfl
    have g2' : ∀ ρ : IR, ρ[0]? = some (some (.obj i)) → iIx (iVar 0) (iP (eC (.int 2))) ρ S = some (.ok (.dat (.int c)) S) := fun ρ hρ => ixK hρ hS (by decide) rfl
    rw [bSeq_nx (ρ' := [some (.obj i), some (.dat (.int m)), none, none, none]) (S' := S) (by
      rw [ifF (S1 := S) (cmpS (g0 _ rfl) (cK rfl) (by simp [ha]))]
      rfl)]
    rw [bSeq_nx (ρ' := [some (.obj i), some (.dat (.int m)), none, none, none]) (S' := S1) (by
      rw [asgS (S1 := S) (binS (g2' _ rfl) (cK rfl) (z := .int (c + 1)) rfl rfl) rfl hS ⟨by decide, by simp⟩, hS1]
      rfl)]
    rw [bSeq_nx (ρ' := [some (.obj i), some (.dat (.int m)), none, some (.dat (.int p)), none]) (S' := S1) (by
      rw [asgV (binS (binS (x := .int x) (binS (x := .int b) (y := .int (104729 * (c + 1))) (g1 _ rfl) (binS (cK rfl) (g2 _ rfl) (fMulR_int (by decide)) rfl) (by rw [hx]; rfl) rfl) (cK rfl) (fPow_int (by decide) (by decide) hxb) rfl) (cK rfl) (fMod_int (by decide)) rfl), hp]
      rfl)]
    rw [bSeq_nx (ρ' := [some (.obj i), some (.dat (.int m)), none, some (.dat (.int p)), some (.dat (.int q))]) (S' := S1) (by
      rw [asgV (binS (binS (x := .int y) (binS (x := .int (p + b % 65537)) (y := .int (31 * (c + 1))) (binS (x := .int p) (y := .int (b % 65537)) (vK rfl rfl) (binS (g1 _ rfl) (cK rfl) (fMod_int (by decide)) rfl) rfl rfl) (binS (cK rfl) (g2 _ rfl) (fMulR_int (by decide)) rfl) (by rw [hy]; rfl) rfl) (cK rfl) (fPow_int (by decide) (by decide) hyb) rfl) (cK rfl) (fMod_int (by decide)) rfl), hq]
      rfl)]
    rw [bSeq_rt (x := .dat (.int v)) (S' := S1) (by
      refine retS ?_
      simp only [iP, eBin, List.map_cons, List.map_nil, prj, eVar, eC, List.getElem?_cons_zero, List.getElem?_cons_succ, fFdiv_int (i := q) (j := 1024) (by decide) (by decide), fMod_int hm, hv, iRet, noList, if_true])]
theorem takeC {ρ : IR} {S : HS} {i : Nat} {m : Int} {w : Nat} (hρ : ρ[w]? = some (some (.obj i))) : iCall FI__law_take (iCons (iVar w) (iCons (iP (eC (.int m))) iNil)) ρ S = FI__law_take [.obj i, .dat (.int m)] S := by
  simp only [iCall, iBind, iCons, iVar, hρ, iP, eC, iRet, noList, if_true, iNil, iRA]
/-- 1 + a number drawn -/
theorem add_take {S : HS} {i n : Nat} (h : Pot S i n) (hn : n ≤ 1000) {m : Nat} (m1 : 1 ≤ m) (m2 : m ≤ 1000) {ρ : IR} {w : Nat} (hρ : ρ[w]? = some (some (.obj i))) {mi : Int} (hm : mi = m) :
    ∃ (v : Nat) (S' : HS), iBin fAdd (iP (eC (.int 1))) (iCall FI__law_take (iCons (iVar w) (iCons (iP (eC (.int mi))) iNil))) ρ S = some (.ok (.dat (.int ((v + 1 : Nat) : Int))) S') ∧ v < m ∧ Pot S' i (n + 1) ∧ Ke i S S' := by
  obtain ⟨v, S', e, h1, h2, h3⟩ := take_ok h hn m1 m2
  refine ⟨v, S', ?_, h1, h2, h3⟩
  subst hm
  exact binS (cK rfl) ((takeC hρ).trans e) (by simp; omega) rfl
/-- a list's entry by a number drawn -/
theorem ix_take {S : HS} {i n : Nat} (h : Pot S i n) (hn : n ≤ 1000) {m : Nat} (m1 : 1 ≤ m) (m2 : m ≤ 1000) {ρ : IR} (hρ : ρ[0]? = some (some (.obj i))) {A : IX (List IV)} {xs : List IV} (hA : A ρ S = some (.ok xs S)) (hx : xs.length = m) {mi : Int} (hm : mi = m) :
    ∃ (x : IV) (S' : HS), iIx (iLst A) (iCall FI__law_take (iCons (iVar 0) (iCons (iP (eC (.int mi))) iNil))) ρ S = some (.ok x S') ∧ x ∈ xs ∧ Pot S' i (n + 1) ∧ Ke i S S' := by
  obtain ⟨v, S', e, h1, h2, h3⟩ := take_ok (h.app [.lst xs]) hn m1 m2
  have li := h.lt
  have hg : S'[S.length]? = some (.lst xs) := by rw [h3.keep S.length (by omega) (by simp)]; simp
  have hz : xs[v]? = some (xs[v]'(by omega)) := List.getElem?_eq_getElem _
  refine ⟨xs[v]'(by omega), S', ?_, List.getElem_mem _, h2, (Ke.app i S [.lst xs]).trans h3⟩
  subst hm
  have e' := (takeC (ρ := ρ) (S := S ++ [.lst xs]) (m := m) hρ).trans e
  have z : (0 : Int) ≤ ((v : Nat) : Int) := by omega
  have zt : (((v : Nat) : Int)).toNat = v := rfl
  simp only [iIx, iTwo]
  simp only [iBind] at e' ⊢
  simp only [iLst, iBind, hA]
  rw [e']
  simp only [ixGo, if_pos z, hg, zt, hz]
end KW
/-! MYb: a rule, counts drawn -/
namespace KW
open PySem PySem.Spec L2
theorem mem_share (m p u t : Int) (hm : m = 1 ∨ m = 2) (hp : p = 1 ∨ p = 2) (hu : u = 0 ∨ u = 500 ∨ u = 250) (ht : t = 0 ∨ t = 500) : Rl.share m p u t ∈ allR := by
  rcases hm with rfl | rfl <;> rcases hp with rfl | rfl <;> rcases hu with rfl | rfl | rfl <;> rcases ht with rfl | rfl <;> decide +kernel
theorem mem_late (m s : Int) (hm : m = 1 ∨ m = 2 ∨ m = 3) (hs : s = 1 ∨ s = 2 ∨ s = 3) : Rl.late m s ∈ allR := by
  rcases hm with rfl | rfl | rfl <;> rcases hs with rfl | rfl | rfl <;> decide +kernel
theorem iTup3 {F G E : IE} {ρ : IR} {S S1 S2 S3 : HS} {a b c : PyData} (hF : F ρ S = some (.ok (.dat a) S1)) (hG : G ρ S1 = some (.ok (.dat b) S2)) (hE : E ρ S2 = some (.ok (.dat c) S3)) : iTup (iCons F (iCons G (iCons E iNil))) ρ S = some (.ok (.dat (.tuple [a, b, c])) S3) := by
  simp only [iTup, iBind, iCons, hF, hG, hE, iNil, iRA, datsOf, Option.map_some]
theorem iTup5 {F G E F4 F5 : IE} {ρ : IR} {S S1 S2 S3 S4 S5 : HS} {a b c d e : PyData} (hF : F ρ S = some (.ok (.dat a) S1)) (hG : G ρ S1 = some (.ok (.dat b) S2)) (hE : E ρ S2 = some (.ok (.dat c) S3)) (h4 : F4 ρ S3 = some (.ok (.dat d) S4)) (h5 : F5 ρ S4 = some (.ok (.dat e) S5)) : iTup (iCons F (iCons G (iCons E (iCons F4 (iCons F5 iNil))))) ρ S = some (.ok (.dat (.tuple [a, b, c, d, e])) S5) := by
  simp only [iTup, iBind, iCons, hF, hG, hE, h4, h5, iNil, iRA, datsOf, Option.map_some]
theorem dEq_intc (i j : Int) : cEq (eVar 1) (eC (.int j)) [none, some (.dat (.int i)), none, none] = some (decide (i = j)) := by simp
theorem rule_ok {S : HS} {i n : Nat} (h : Pot S i n) (hn : n ≤ 900) :
    ∃ (r : Rl) (S' : HS), FI__law_small_rule [.obj i] S = some (.ok (.dat (encR r)) S') ∧ r ∈ allR ∧ Pot S' i (n + 5) ∧ Ke i S S' := by
  unfold FI__law_small_rule runI
  simp only [List.map_cons, List.map_nil, List.length_cons, List.length_nil, List.cons_append, List.nil_append, Nat.reduceAdd, Nat.reduceSub, List.replicate]
  obtain ⟨v, S1, e1, v1, p1, k1⟩ := take_ok h (by omega) (m := 6) (by omega) (by omega)
  rw [bSeq_nx (asgV ((takeC (m := 6) (w := 0) rfl).trans e1))]
  by_cases hv : v = 0
  · subst hv
    refine ⟨.non, S1, ?_, by simp [allR], p1.mono (by omega), k1⟩
    rw [bSeq_rt (x := .dat (encR .non)) (S' := S1) (by
      rw [bIfT (by simp)]
      exact bSeq_rt (retS (cK rfl)))]
  · have hv0 : ¬ ((v : Int) = 0) := by omega
    rw [bSeq_nx (ρ' := [some (.obj i), some (.dat (.int v)), none, none]) (S' := S1) (by
      rw [bIfF (by simp; exact hv)]
      rfl)]
    by_cases h4 : v < 4
    · have hv4 : (v : Int) < 4 := by omega
      obtain ⟨a, S2, e2, a1, p2, k2⟩ := add_take p1 (by omega) (m := 3) (by omega) (by omega) (ρ := [some (.obj i), some (.dat (.int v)), none, none]) (w := 0) rfl (mi := 3) rfl
      obtain ⟨b, S3, e3, b1, p3, k3⟩ := add_take p2 (by omega) (m := 3) (by omega) (by omega) (ρ := [some (.obj i), some (.dat (.int v)), none, none]) (w := 0) rfl (mi := 3) rfl
      refine ⟨.late ((a + 1 : Nat) : Int) ((b + 1 : Nat) : Int), S3, ?_, mem_late _ _ (by omega) (by omega), p3.mono (by omega), (k1.trans k2).trans k3⟩
      rw [bSeq_rt (x := .dat (encR (.late ((a + 1 : Nat) : Int) ((b + 1 : Nat) : Int)))) (S' := S3) (by
        rw [bIfT (by simp [hv4])]
        exact bSeq_rt (retS (iTup3 (cK rfl) e2 e3)))]
    · have hv4 : ¬ ((v : Int) < 4) := by omega
      rw [bSeq_nx (ρ' := [some (.obj i), some (.dat (.int v)), none, none]) (S' := S1) (by
        rw [bIfF (by simp; omega)]
        rfl)]
      obtain ⟨a, S2, e2, a1, p2, k2⟩ := add_take p1 (by omega) (m := 2) (by omega) (by omega) (ρ := [some (.obj i), some (.dat (.int v)), none, none]) (w := 0) rfl (mi := 2) rfl
      obtain ⟨b, S3, e3, b1, p3, k3⟩ := add_take p2 (by omega) (m := 2) (by omega) (by omega) (ρ := [some (.obj i), some (.dat (.int v)), none, none]) (w := 0) rfl (mi := 2) rfl
      rw [bSeq_nx (ρ' := [some (.obj i), some (.dat (.int v)), some (.dat (.int ((a + 1 : Nat) : Int))), some (.dat (.int ((b + 1 : Nat) : Int)))]) (S' := S3) (by
        simp only [bPar, e2, e3]
        rfl)]
      have A1 : ∀ (S : HS) (ρ : IR), iCons (iP (eC (.int 0))) (iCons (iP (eC (.int 500))) (iCons (iP (eC (.int 250))) iNil)) ρ S = some (.ok [.dat (.int 0), .dat (.int 500), .dat (.int 250)] S) := fun _ _ => rfl
      have A2 : ∀ (S : HS) (ρ : IR), iCons (iP (eC (.int 0))) (iCons (iP (eC (.int 500))) iNil) ρ S = some (.ok [.dat (.int 0), .dat (.int 500)] S) := fun _ _ => rfl
      obtain ⟨x, S4, e4, x1, p4, k4⟩ := ix_take p3 (by omega) (m := 3) (by omega) (by omega) (ρ := [some (.obj i), some (.dat (.int v)), some (.dat (.int ((a + 1 : Nat) : Int))), some (.dat (.int ((b + 1 : Nat) : Int)))]) rfl (A1 _ _) rfl (mi := 3) rfl
      obtain ⟨y, S5, e5, y1, p5, k5⟩ := ix_take p4 (by omega) (m := 2) (by omega) (by omega) (ρ := [some (.obj i), some (.dat (.int v)), some (.dat (.int ((a + 1 : Nat) : Int))), some (.dat (.int ((b + 1 : Nat) : Int)))]) rfl (A2 _ _) rfl (mi := 2) rfl
      have hx : ∃ u : Int, x = .dat (.int u) ∧ (u = 0 ∨ u = 500 ∨ u = 250) := by
        simp only [List.mem_cons, List.not_mem_nil, or_false] at x1
        rcases x1 with rfl | rfl | rfl
        · exact ⟨_, rfl, by omega⟩
        · exact ⟨_, rfl, by omega⟩
        · exact ⟨_, rfl, by omega⟩
      have hy : ∃ t : Int, y = .dat (.int t) ∧ (t = 0 ∨ t = 500) := by
        simp only [List.mem_cons, List.not_mem_nil, or_false] at y1
        rcases y1 with rfl | rfl
        · exact ⟨_, rfl, by omega⟩
        · exact ⟨_, rfl, by omega⟩
      obtain ⟨u, rfl, hu⟩ := hx
      obtain ⟨t, rfl, ht⟩ := hy
      refine ⟨.share ((a + 1 : Nat) : Int) ((b + 1 : Nat) : Int) u t, S5, ?_, mem_share _ _ _ _ (by omega) (by omega) hu ht, p5.mono (by omega), (((k1.trans k2).trans k3).trans k4).trans k5⟩
      rw [bSeq_rt (retS (iTup5 (cK rfl) (vK rfl rfl) (vK rfl rfl) e4 e5))]
      rfl
/-! ### counts -/
theorem nIV_dat (n : Nat) : nIV n = .dat (.int n) := rfl
theorem takeL {ρ : IR} {S : HS} {i : Nat} {m : Int} {v : Nat} (hρ : ρ[0]? = some (some (.obj i))) (hv : ρ[v]? = some (some (.dat (.int m)))) : iCall FI__law_take (iCons (iVar 0) (iCons (iP (eAdd (eVar v) (eC (.int 1)))) iNil)) ρ S = FI__law_take [.obj i, .dat (.int (m + 1))] S := by
  have e : (ρ.map prj)[v]? = some (some (.dat (.int m))) := by rw [List.getElem?_map, hv]; rfl
  simp only [iCall, iBind, iCons, iVar, hρ, iP, eAdd, eBin, eVar, e, eC, fAdd, iRet, noList, if_true, iNil, iRA]
theorem counts_loop {i lot : Nat} (hl : lot ≤ 900) (size : PyData) : ∀ (xs : List IV) (acc : List IV) (S : HS) (K n : Nat) (x3 : Option IV), K ≠ i → S[K]? = some (.lst acc) → acc.length + xs.length < 10000 → Pot S i n → n + xs.length ≤ 1000 →
    ∃ (ns : List Nat) (S' : HS), dLc (gIN 3) (iCall FI__law_take (iCons (iVar 0) (iCons (iP (eAdd (eVar 1) (eC (.int 1)))) iNil))) K [some (.obj i), some (.dat (.int lot)), some (.dat size), x3] xs S = some S' ∧ S'[K]? = some (.lst (acc ++ ns.map nIV)) ∧ ns.length = xs.length ∧ (∀ x ∈ ns, x ≤ lot) ∧ Pot S' i (n + xs.length) ∧ S.length ≤ S'.length ∧ ∀ j, j ≠ i → j ≠ K → j < S.length → S'[j]? = S[j]?
  | [], acc, S, K, n, x3, hK, hS, hz, p, hn => ⟨[], S, rfl, by simpa using hS, rfl, (by intro x hx; cases hx), p, Nat.le_refl _, fun _ _ _ _ => rfl⟩
  | x :: xs, acc, S, K, n, x3, hK, hS, hz, p, hn => by
    simp only [List.length_cons] at hz hn
    obtain ⟨v, S1, e1, v1, p1, k1⟩ := take_ok p (by omega) (m := lot + 1) (by omega) (by omega)
    have lK := lt_of_get hS
    have g1 : S1[K]? = some (.lst acc) := by rw [k1.keep K hK lK]; exact hS
    have lK1 := lt_of_get g1
    have p2 : Pot (S1.set K (.lst (acc ++ [nIV v]))) i (n + 1) := by
      obtain ⟨a, b, c, h, r⟩ := p1
      exact ⟨a, b, c, by rw [List.getElem?_set_ne hK]; exact h, r⟩
    obtain ⟨ns, S', e2, g2, l2, d2, p3, le, kp⟩ := counts_loop hl size xs (acc ++ [nIV v]) (S1.set K (.lst (acc ++ [nIV v]))) K (n + 1) x3 hK (List.getElem?_set_self lK1) (by simp; omega) p2 (by omega)
    refine ⟨v :: ns, S', ?_, by rw [g2]; simp, by simp [l2], fun y hy => ?_, by rw [show n + (x :: xs).length = n + 1 + xs.length by simp; omega]; exact p3, ?_, fun j h1 h2 h3 => ?_⟩
    · have e := (takeL (ρ := [some (.obj i), some (.dat (.int lot)), some (.dat size), some x]) (S := S) (v := 1) (m := lot) rfl rfl).trans e1
      simp only [dLc, gIN, List.set_cons_succ, List.set_cons_zero]
      rw [e]
      simp only [g1]
      rw [if_pos (by omega)]
      exact e2
    · rcases List.mem_cons.mp hy with rfl | hy
      · omega
      · exact d2 y hy
    · have := k1.len
      simp at le
      omega
    · have := k1.len
      rw [kp j h1 h2 (by simp; omega), List.getElem?_set_ne (Ne.symm h2), k1.keep j h1 h3]
theorem counts_ok {S : HS} {i n : Nat} (h : Pot S i n) {lot size : Nat} (hl : lot ≤ 900) (hs : size ≤ 100) (hn : n ≤ 800) :
    ∃ (ns : List Nat) (S' : HS), FI__law_counts [.obj i, .dat (.int lot), .dat (.int size)] S = some (.ok (.dat (encN ns)) S') ∧ ns.length ≤ size ∧ (∀ x ∈ ns, x ≤ lot) ∧ Pot S' i (n + 1 + size) ∧ Ke i S S' := by
  obtain ⟨v, S1, e1, v1, p1, k1⟩ := take_ok h (by omega) (m := size + 1) (by omega) (by omega)
  have li := p1.lt
  have lr : (rangeI 0 v).length = v := by simp
  obtain ⟨ns, S2, e2, g2, l2, d2, p2, le, kp⟩ := counts_loop (i := i) (lot := lot) hl (.int size) (rangeI 0 v) [] (S1 ++ [.lst []]) S1.length (n + 1) none (by omega) (by simp) (by rw [lr]; simp; omega) (p1.app _) (by rw [lr]; omega)
  rw [lr] at l2 p2
  refine ⟨ns, S2, ?_, by omega, d2, p2.mono (by omega), ⟨?_, fun j h1 h2 => ?_⟩⟩
  · unfold FI__law_counts runI
    simp only [List.map_cons, List.map_nil, List.length_cons, List.length_nil, List.cons_append, List.nil_append, Nat.reduceAdd, Nat.reduceSub, List.replicate]
    have e := (takeL (ρ := [some (.obj i), some (.dat (.int lot)), some (.dat (.int size)), none]) (S := S) (v := 2) (m := size) rfl rfl).trans e1
    have hr : -(2 ^ 62) ≤ (v : Int) ∧ (v : Int) < 2 ^ 62 := by omega
    have hA : iRngI (iCall FI__law_take (iCons (iVar 0) (iCons (iP (eAdd (eVar 2) (eC (.int 1)))) iNil))) [some (.obj i), some (.dat (.int lot)), some (.dat (.int size)), none] S = some (.ok (rangeI 0 v) S1) := by
      simp only [iRngI]
      simp only [iBind] at e ⊢
      rw [e]
      simp only [if_pos hr, Int.toNat_natCast]
    have hL : iLc [3] (iRngI (iCall FI__law_take (iCons (iVar 0) (iCons (iP (eAdd (eVar 2) (eC (.int 1)))) iNil)))) (gIN 3) (iCall FI__law_take (iCons (iVar 0) (iCons (iP (eAdd (eVar 1) (eC (.int 1)))) iNil))) [some (.obj i), some (.dat (.int lot)), some (.dat (.int size)), none] S = some (.ok (.obj S1.length) S2) := by
      have w : wipeI [some (IV.obj i), some (.dat (.int lot)), some (.dat (.int size)), none] [3] = [some (.obj i), some (.dat (.int lot)), some (.dat (.int size)), none] := rfl
      simp only [iLc]
      rw [hA]
      simp only [w]
      rw [e2]
    rw [bSeq_rt (x := .dat (encN ns)) (S' := S2) (by
      refine retS ?_
      simp only [iTupOf]
      simp only [iBind] at hL ⊢
      rw [hL]
      simp only [tupOf_, g2, List.nil_append, datsOf_nIV, encN])]
  · have := k1.len
    simp at le
    omega
  · have := k1.len
    rw [kp j h1 (by omega) (by simp; omega), List.getElem?_append_left (by omega), k1.keep j h1 h2]
end KW
/-! MYc: what is told of two rules; a told run's words -/
namespace KW
open PySem PySem.Spec L2
/-- what _law_alike_told gives -/
def AnyOut (r1 r2 : Rl) (few : Int) (M : Nat) (S : HS) (o : Option (Io IV)) : Prop :=
  (∃ S' d, Fr S.length S S' ∧ Like few M r1 r2 ∧ noList d = true ∧ o = some (.ok (.dat (.tuple [.str "alike", d])) S'))
  ∨ (∃ S' t, Fr S.length S S' ∧ ToldRun r1 r2 few M t ∧ o = some (.ok (.dat (.tuple [.str "unlike", encN t])) S'))
  ∨ (∃ S', Fr S.length S S' ∧ o = some (.ok (.dat .none) S'))
theorem args3 {ρ : IR} {S : HS} {a b c : PyData} (ha : ρ[0]? = some (some (.dat a))) (hb : ρ[1]? = some (some (.dat b))) (hc : ρ[2]? = some (some (.dat c))) (na : noList a = true) (nb : noList b = true) (nc : noList c = true) :
    iCons (iP (eVar 0)) (iCons (iP (eVar 1)) (iCons (iP (eVar 2)) iNil)) ρ S = some (.ok [.dat a, .dat b, .dat c] S) := by
  simp only [iCons, iBind, vK ha na, vK hb nb, vK hc nc, iNil, iRA]
theorem told_any {r1 r2 : Rl} {few : Int} {fa : Addr} {M : Nat} (h1 : r1.Ok) (h2 : r2.Ok) (f1 : 1 ≤ few) (f2 : few ≤ 6) (m1 : 1 ≤ M) (m2 : M ≤ 2) (S : HS) :
    AnyOut r1 r2 few M S (FI__law_alike_told fa [.dat (encR r1), .dat (encR r2), .dat (.int few), .dat (.int M)] S) := by
  have n1 := noList_encR r1
  have n2 := noList_encR r2
  have k := alike_ok (fa := fa) h1 h2 f1 f2 m1 (show M ≤ 3 by omega) S
  have e : iIf (iPT (cEq (eVar 3) (eC (.int 2)))) (iCallDf 2 (FI_alike fa) (iCons (iP (eVar 0)) (iCons (iP (eVar 1)) (iCons (iP (eVar 2)) iNil)))) (iCallKw (FI_alike fa) (iCons (iP (eVar 0)) (iCons (iP (eVar 1)) (iCons (iP (eVar 2)) iNil))) (iP (eVar 3)))
      [some (.dat (encR r1)), some (.dat (encR r2)), some (.dat (.int few)), some (.dat (.int M)), some (.dat .none)] S = FI_alike fa [.dat (encR r1), .dat (encR r2), .dat (.int few), .dat (.int M)] S := by
    have a := args3 (ρ := [some (.dat (encR r1)), some (.dat (encR r2)), some (.dat (.int few)), some (.dat (.int M)), some (.dat .none)]) (S := S) rfl rfl rfl n1 n2 rfl
    simp only [iIf]
    unfold iBind
    rcases (show M = 1 ∨ M = 2 by omega) with rfl | rfl
    · have t : iPT (cEq (eVar 3) (eC (.int 2))) [some (.dat (encR r1)), some (.dat (encR r2)), some (.dat (.int few)), some (.dat (.int ((1 : Nat) : Int))), some (.dat .none)] S = some (.ok false S) := by
        simp
      rw [t]
      simp only [Bool.false_eq_true, if_false, iCallKw]
      unfold iBind
      rw [a]
      have v := vK (i := 3) (d := .int ((1 : Nat) : Int)) (ρ := [some (.dat (encR r1)), some (.dat (encR r2)), some (.dat (.int few)), some (.dat (.int ((1 : Nat) : Int))), some (.dat .none)]) (S := S) rfl rfl
      simp only
      rw [v]
      rfl
    · have t : iPT (cEq (eVar 3) (eC (.int 2))) [some (.dat (encR r1)), some (.dat (encR r2)), some (.dat (.int few)), some (.dat (.int ((2 : Nat) : Int))), some (.dat .none)] S = some (.ok true S) := by
        simp
      rw [t]
      simp only [if_true, iCallDf]
      unfold iBind
      rw [a]
      rfl
  unfold FI__law_alike_told runI
  simp only [List.map_cons, List.map_nil, List.length_cons, List.length_nil, List.cons_append, List.nil_append, Nat.reduceAdd, Nat.reduceSub, List.replicate]
  rw [bSeq_nx (asgV (cK rfl))]
  simp only [List.set_cons_succ, List.set_cons_zero]
  rcases k with ⟨S', d, b1, b2, b3, b4⟩ | ⟨S', t, b1, b2, b3⟩ | ⟨S', b1, b2⟩
  · refine .inl ⟨S', d, b1, b2, b3, ?_⟩
    have nd : noList (.tuple [.str "alike", d]) = true := by simp [b3]
    rw [bSeq_nx (ρ' := [some (.dat (encR r1)), some (.dat (encR r2)), some (.dat (.int few)), some (.dat (.int M)), some (.dat (.tuple [.str "alike", d]))]) (S' := S') (by
      unfold bTry
      rw [bSeq_nx (asgV (e.trans b4))]
      rfl)]
    rw [bSeq_rt (retS (vK (d := .tuple [.str "alike", d]) rfl nd))]
  · refine .inr (.inl ⟨S', t, b1, b2, ?_⟩)
    have nd : noList (.tuple [.str "unlike", encN t]) = true := by simp [noList_encN]
    rw [bSeq_nx (ρ' := [some (.dat (encR r1)), some (.dat (encR r2)), some (.dat (.int few)), some (.dat (.int M)), some (.dat (.tuple [.str "unlike", encN t]))]) (S' := S') (by
      unfold bTry
      rw [bSeq_nx (asgV (e.trans b3))]
      rfl)]
    rw [bSeq_rt (retS (vK (d := .tuple [.str "unlike", encN t]) rfl nd))]
  · refine .inr (.inr ⟨S', b1, ?_⟩)
    rw [bSeq_nx (ρ' := [some (.dat (encR r1)), some (.dat (encR r2)), some (.dat (.int few)), some (.dat (.int M)), some (.dat .none)]) (S' := S') (by
      unfold bTry
      rw [bSeq_ex (ρ' := [some (.dat (encR r1)), some (.dat (encR r2)), some (.dat (.int few)), some (.dat (.int M)), some (.dat .none)]) (S' := S') (by
        unfold bAsg
        rw [e, b2])]
      simp only
      rw [bSeq_nx (asgV (cK rfl))]
      rfl)]
    rw [bSeq_rt (retS (vK (d := .none) rfl rfl))]
/-! ### a told run's words -/
theorem canLay_ints : ∀ ns : List Nat, PyData.canLayAll0 (ns.map fun (n : Nat) => PyData.int n) = true
  | [] => rfl
  | n :: ns => by
    have ih := canLay_ints ns
    show (PyData.canLay0 (.int n) && PyData.canLayAll0 (ns.map fun (n : Nat) => PyData.int n)) = true
    rw [ih]; rfl
theorem depth_ints : ∀ ns : List Nat, PyData.depthAll (ns.map fun (n : Nat) => PyData.int n) ≤ 1
  | [] => by decide
  | n :: ns => by
    have ih := depth_ints ns
    show max (PyData.depth (.int n)) (PyData.depthAll (ns.map fun (n : Nat) => PyData.int n)) ≤ 1
    have : PyData.depth (.int n) = 0 := rfl
    omega
theorem shaped_encN (ns : List Nat) : SeqAt.shaped (encN ns) = true := by
  unfold SeqAt.shaped
  have e1 : PyData.canLay0 (encN ns) = true := canLay_ints ns
  have e2 : PyData.depth (encN ns) ≤ 64 := by
    show PyData.depthAll (ns.map fun (n : Nat) => PyData.int n) + 1 ≤ 64
    have := depth_ints ns
    omega
  rw [e1, decide_eq_true e2]; rfl
theorem dNe_encN_nil {t : List Nat} (h : t ≠ []) : dNe (encN t) (.tuple []) = some true := by
  unfold dNe
  rw [shaped_encN]
  have : PyData.eqv (encN t) (.tuple []) = false := by
    cases t with
    | nil => exact absurd rfl h
    | cons x t => rfl
  rw [this]
  rfl
theorem upTo_last {α : List (List Str)} {x : List Str} : upTo (-1) ((α ++ [x]).map wsD) = α.map wsD := by
  unfold upTo
  rw [if_pos (by decide)]
  have e : ((-1 : Int) + (((α ++ [x]).map wsD).length : Nat)).toNat = (α.map wsD).length := by simp; omega
  rw [e, List.map_append]
  exact List.take_left
theorem atI_last {α : List (List Str)} {x : List Str} : atI ((α ++ [x]).map wsD) (-1) = some (wsD x) := by
  have e : ixN ((α ++ [x]).map wsD).length (-1) = some α.length := by
    unfold ixN
    rw [if_neg (by decide), if_pos (by simp; omega)]
    simp
    omega
  unfold atI
  rw [e]
  simp
theorem wordsC {ρ : IR} {S : HS} {i j k : Nat} {a b c : PyData} (ha : ρ[i]? = some (some (.dat a))) (hb : ρ[j]? = some (some (.dat b))) (hc : ρ[k]? = some (some (.dat c))) (na : noList a = true) (nb : noList b = true) (nc : noList c = true) :
    iCall FI__law_words (iCons (iP (eVar i)) (iCons (iP (eVar j)) (iCons (iP (eVar k)) iNil))) ρ S = FI__law_words [.dat a, .dat b, .dat c] S := by
  simp only [iCall, iBind, iCons, vK ha na, vK hb nb, vK hc nc, iNil, iRA]
theorem run_right_ok {r1 r2 : Rl} {few : Int} {M : Nat} (h1 : r1.Ok) (h2 : r2.Ok) (f1 : 1 ≤ few) (f2 : few ≤ 99) (m2 : M ≤ 3) {t : List Nat} (ht : ToldRun r1 r2 few M t) (hz : t.length ≤ 400) (S : HS) :
    ∃ S', Fr S.length S S' ∧ FI__law_run_right [.dat (encR r1), .dat (encR r2), .dat (.int few), .dat (encN t)] S = some (.ok (.dat (.bool true)) S') := by
  have hd : ∀ x ∈ t, x ≤ 64 := fun x hx => by have := ht.dig x hx; omega
  obtain ⟨S1, k1, e1⟩ := law_words_ok h1 f1 f2 t hd hz S
  obtain ⟨S2, k2, e2⟩ := law_words_ok h2 f1 f2 t hd hz S1
  have n1 := noList_encR r1
  have n2 := noList_encR r2
  have nt := noList_encN t
  have w1 := runW_w r1 few t (emptyL r1)
  have w2 := runW_w r2 few t (emptyL r2)
  have hp := ht.parts
  obtain ⟨pn, c, et, -, -, hl, hs⟩ := ht.ex
  have q1 : runW r1 few (emptyL r1) t = runW r1 few (emptyL r1) pn ++ [(doneM r1 few (runL r1 few (emptyL r1) pn) c).2.1] := by rw [et, runW_snoc]
  have q2 : runW r2 few (emptyL r2) t = runW r1 few (emptyL r1) pn ++ [(doneM r2 few (runL r2 few (emptyL r2) pn) c).2.1] := by rw [et, runW_snoc]; simp only [likeW] at hl; rw [hl]
  obtain ⟨A, hA⟩ : ∃ A, A = runW r1 few (emptyL r1) pn := ⟨_, rfl⟩
  obtain ⟨x, hx⟩ : ∃ x, x = (doneM r1 few (runL r1 few (emptyL r1) pn) c).2.1 := ⟨_, rfl⟩
  obtain ⟨y, hy⟩ : ∃ y, y = (doneM r2 few (runL r2 few (emptyL r2) pn) c).2.1 := ⟨_, rfl⟩
  rw [← hA, ← hx] at q1
  rw [← hA, ← hy] at q2
  have hxy : ¬ x = y := fun e => hp (by simp only [likeW]; rw [q1, q2, e])
  rw [q1] at e1 w1
  rw [q2] at e2 w2
  have wA : WssOk A := fun w hw => w1 w (by simp [hw])
  have wx : WsOk x := w1 x (by simp)
  have wy : WsOk y := w2 y (by simp)
  have tn : t ≠ [] := by rw [et]; simp
  have nW : ∀ ws : List (List Str), noList (encWs ws) = true := fun ws => by simp [encWs, noLists_Ws]
  refine ⟨S2, k1.trans (k2.weak k1.len), ?_⟩
  unfold FI__law_run_right runI
  simp only [List.map_cons, List.map_nil, List.length_cons, List.length_nil, List.cons_append, List.nil_append, Nat.reduceAdd, Nat.reduceSub, List.replicate]
  rw [bSeq_nx (ρ' := [some (.dat (encR r1)), some (.dat (encR r2)), some (.dat (.int few)), some (.dat (encN t)), some (.dat (encWs (A ++ [x]))), some (.dat (encWs (A ++ [y])))]) (S' := S2) (by
    unfold bPar
    rw [wordsC (a := encR r1) (b := .int few) (c := encN t) rfl rfl rfl n1 rfl nt, e1]
    simp only
    rw [wordsC (a := encR r2) (b := .int few) (c := encN t) rfl rfl rfl n2 rfl nt, e2]
    rfl)]
  rw [bSeq_rt (x := .dat (.bool true)) (S' := S2) (by
    refine retS ?_
    have u : ∀ z, (eUpto (eVar 4) (eNeg (eC (.int 1)))) [some (SV.dat (encR r1)), some (.dat (encR r2)), some (.dat (.int few)), some (.dat (encN t)), some (.dat (encWs (A ++ [x]))), some (.dat (encWs (A ++ [z])))] = some (encWs A) := fun z => by
      show some (PyData.tuple (upTo (-1) ((A ++ [x]).map wsD))) = _
      rw [upTo_last]; rfl
    have u' : (eUpto (eVar 5) (eNeg (eC (.int 1)))) [some (SV.dat (encR r1)), some (.dat (encR r2)), some (.dat (.int few)), some (.dat (encN t)), some (.dat (encWs (A ++ [x]))), some (.dat (encWs (A ++ [y])))] = some (encWs A) := by
      show some (PyData.tuple (upTo (-1) ((A ++ [y]).map wsD))) = _
      rw [upTo_last]; rfl
    have v : (eIxV (eVar 4) (eNeg (eC (.int 1)))) [some (SV.dat (encR r1)), some (.dat (encR r2)), some (.dat (.int few)), some (.dat (encN t)), some (.dat (encWs (A ++ [x]))), some (.dat (encWs (A ++ [y])))] = some (wsD x) := by
      show atI ((A ++ [x]).map wsD) (-1) = _
      exact atI_last
    have v' : (eIxV (eVar 5) (eNeg (eC (.int 1)))) [some (SV.dat (encR r1)), some (.dat (encR r2)), some (.dat (.int few)), some (.dat (encN t)), some (.dat (encWs (A ++ [x]))), some (.dat (encWs (A ++ [y])))] = some (wsD y) := by
      show atI ((A ++ [y]).map wsD) (-1) = _
      exact atI_last
    have b1 : eNe (eVar 3) (eTup aNil) [some (SV.dat (encR r1)), some (.dat (encR r2)), some (.dat (.int few)), some (.dat (encN t)), some (.dat (encWs (A ++ [x]))), some (.dat (encWs (A ++ [y])))] = some (.bool true) := by
      show Option.map PyData.bool (dNe (encN t) (.tuple [])) = _
      rw [dNe_encN_nil tn]; rfl
    have b2 : eEq (eUpto (eVar 4) (eNeg (eC (.int 1)))) (eUpto (eVar 5) (eNeg (eC (.int 1)))) [some (SV.dat (encR r1)), some (.dat (encR r2)), some (.dat (.int few)), some (.dat (encN t)), some (.dat (encWs (A ++ [x]))), some (.dat (encWs (A ++ [y])))] = some (.bool true) := by
      unfold eEq eCmp
      rw [u y, u']
      simp only
      rw [dEq_encWs wA wA]
      simp
    have b3 : eNe (eIxV (eVar 4) (eNeg (eC (.int 1)))) (eIxV (eVar 5) (eNeg (eC (.int 1)))) [some (SV.dat (encR r1)), some (.dat (encR r2)), some (.dat (.int few)), some (.dat (encN t)), some (.dat (encWs (A ++ [x]))), some (.dat (encWs (A ++ [y])))] = some (.bool true) := by
      unfold eNe eCmp
      rw [v, v']
      simp only
      rw [dNe_wsD wx wy]
      simp [hxy]
    unfold iP
    simp only [List.map_cons, List.map_nil, prj]
    unfold eAnd
    rw [b1]
    simp only
    rw [b2]
    simp only
    rw [b3]
    rfl)]
end KW
/-! MYd: drawn runs held against what is told -/
namespace KW
open PySem PySem.Spec L2
/-! ### shorter, or less and as long -/
theorem lex_num : ∀ (xs ys : List Nat) (s : Nat), xs.length = ys.length → (∀ x ∈ xs, x ≤ 3) → (∀ y ∈ ys, y ≤ 3) →
    PyProof.Rows.lexLt PyProof.Rows.itemOrd (PySem.W.keyToksAll (xs.map fun (n : Nat) => PyData.int n) ++ [.inl 0]) (PySem.W.keyToksAll (ys.map fun (n : Nat) => PyData.int n) ++ [.inl 0]) = true →
    xs.foldl (fun a x => 4 * a + x) s < ys.foldl (fun a x => 4 * a + x) s
  | [], [], s, _, _, _, h => by exact absurd h (by decide +kernel)
  | [], _ :: _, s, hl, _, _, _ => by cases hl
  | _ :: _, [], s, hl, _, _, _ => by cases hl
  | x :: xs, y :: ys, s, hl, hx, hy, h => by
    have e : ∀ (z : Nat) (zs : List Nat), PySem.W.keyToksAll ((z :: zs).map fun (n : Nat) => PyData.int n) ++ [.inl 0] = .inl 1 :: .inl (z : Int) :: (PySem.W.keyToksAll (zs.map fun (n : Nat) => PyData.int n) ++ [.inl 0]) := fun z zs => by
      rw [List.map_cons, PySem.W.keyToksAll, PySem.W.keyToks]
      rfl
    rw [e, e, PyProof.Rows.lex_self, PyProof.Rows.lex_cons] at h
    have b : ∀ i j : Int, PyProof.Rows.itemOrd.blt (.inl i) (.inl j) = decide (i < j) := fun i j => rfl
    rw [b, b, Bool.or_eq_true, Bool.and_eq_true, decide_eq_true_eq, Bool.not_eq_true', decide_eq_false_iff_not] at h
    rw [List.foldl_cons, List.foldl_cons]
    have hl' : xs.length = ys.length := by simpa using hl
    have hx' : ∀ z ∈ xs, z ≤ 3 := fun z hz => hx z (by simp [hz])
    have hy' : ∀ z ∈ ys, z ≤ 3 := fun z hz => hy z (by simp [hz])
    rcases h with h | ⟨h1, h2⟩
    · obtain ⟨-, a⟩ := num_lt xs hx' (4 * s + x)
      obtain ⟨c, -⟩ := num_lt ys hy' (4 * s + y)
      rw [← hl'] at c
      have : (4 * s + x + 1) * 4 ^ xs.length ≤ (4 * s + y) * 4 ^ xs.length := Nat.mul_le_mul_right _ (by omega)
      omega
    · by_cases hxy : (x : Int) < y
      · obtain ⟨-, a⟩ := num_lt xs hx' (4 * s + x)
        obtain ⟨c, -⟩ := num_lt ys hy' (4 * s + y)
        rw [← hl'] at c
        have : (4 * s + x + 1) * 4 ^ xs.length ≤ (4 * s + y) * 4 ^ xs.length := Nat.mul_le_mul_right _ (by omega)
        omega
      · have : x = y := by omega
        subst this
        exact lex_num xs ys _ hl' hx' hy' h2
theorem lt_num {ns t : List Nat} (hn : ∀ x ∈ ns, x ≤ 3) (ht : ∀ x ∈ t, x ≤ 3) (hl : ns.length ≤ t.length) (h : PySem.W.dataLt (.tuple [.int ns.length, encN ns]) (.tuple [.int t.length, encN t]) = true) : num ns < num t := by
  rcases Nat.lt_or_ge ns.length t.length with g | g
  · exact num_len hn ht g
  · have e : ns.length = t.length := by omega
    rw [PySem.W.dataLt_tuple] at h
    have k : ∀ (zs : List Nat) (a : Int), PySem.W.keyToksAll [.int a, encN zs] = .inl 1 :: .inl a :: .inl 1 :: (PySem.W.keyToksAll (zs.map fun (n : Nat) => PyData.int n) ++ [.inl 0]) := fun zs a => by
      unfold encN
      rw [PySem.W.keyToksAll, PySem.W.keyToks, PySem.W.keyToksAll, PySem.W.keyToks, PySem.W.keyToksAll]
      rfl
    rw [k, k, e, PyProof.Rows.lex_self, PyProof.Rows.lex_self, PyProof.Rows.lex_self] at h
    exact lex_num ns t 1 e hn ht h
theorem alike_ints : ∀ xs ys : List Nat, PySem.W.alikeAll (xs.map fun (n : Nat) => PyData.int n) (ys.map fun (n : Nat) => PyData.int n) = true
  | [], _ => by rw [List.map_nil, PySem.W.alikeAll]
  | _ :: _, [] => by rw [List.map_cons, List.map_nil, PySem.W.alikeAll]
  | x :: xs, y :: ys => by
    rw [List.map_cons, List.map_cons, PySem.W.alikeAll, PySem.W.alike, alike_ints xs ys]
    rfl
theorem iLtD_encN (a b : Int) (xs ys : List Nat) : iLtD (.tuple [.int a, encN xs]) (.tuple [.int b, encN ys]) = some (PySem.W.dataLt (.tuple [.int a, encN xs]) (.tuple [.int b, encN ys])) := by
  have e1 : PySem.W.alike (.tuple [.int a, encN xs]) (.tuple [.int b, encN ys]) = true := by
    unfold encN
    rw [PySem.W.alike, PySem.W.alikeAll, PySem.W.alike, PySem.W.alikeAll, PySem.W.alike, alike_ints, PySem.W.alikeAll]
    rfl
  have e2 : ¬ (min (PyData.depth (.tuple [.int a, encN xs])) (PyData.depth (.tuple [.int b, encN ys])) > 60) := by
    have : PyData.depth (.tuple [.int a, encN xs]) ≤ 3 := by
      show max (PyData.depth (.int a)) (max (PyData.depthAll (xs.map fun (n : Nat) => PyData.int n) + 1) 0) + 1 ≤ 3
      have h1 := depth_ints xs
      have h2 : PyData.depth (.int a) = 0 := rfl
      omega
    omega
  unfold iLtD
  rw [e1, decide_eq_false e2]
  rfl
instance (r1 r2 : Rl) (few : Int) (ns : List Nat) : Decidable (likeW r1 r2 few ns) := inferInstanceAs (Decidable (_ = _))
/-! ### a turn -/
abbrev prBody : IB := (bSeq (bAsg (iCall FI__law_counts (iCons (iVar 0) (iCons (iP (eVar 4)) (iCons (iP (eC (.int 12))) iNil)))) (gIN 9)) (bSeq (bIf (iPT (cEq (eVar 6) (eC (.str "unlike")))) (bSeq (bAsg (iP (eUpto (eVar 9) (eLen (eVar 7)))) (gIN 9)) bNil) bNil) (bSeq (bAsg (iCmp dEq (iCall FI__law_words (iCons (iP (eVar 1)) (iCons (iP (eVar 3)) (iCons (iP (eVar 9)) iNil)))) (iCall FI__law_words (iCons (iP (eVar 2)) (iCons (iP (eVar 3)) (iCons (iP (eVar 9)) iNil))))) (gIN 10)) (bSeq (bIf (iPT (cAnd (cEq (eVar 6) (eC (.str "alike"))) (cNot (cVal (eVar 10))))) (bSeq (bRet (iP (eC (.bool false)))) bNil) bNil) (bSeq (bIf (iPT (cAnd (cEq (eVar 6) (eC (.str "unlike"))) (cAnd (cCmp iLtD (eTup (aCons (eLen (eVar 9)) (aCons (eVar 9) aNil))) (eTup (aCons (eLen (eVar 7)) (aCons (eVar 7) aNil)))) (cNot (cVal (eVar 10)))))) (bSeq (bRet (iP (eC (.bool false)))) bNil) bNil) bNil)))))
theorem countsC {ρ : IR} {S : HS} {i v : Nat} {m k : Int} (hρ : ρ[0]? = some (some (.obj i))) (hv : ρ[v]? = some (some (.dat (.int m)))) : iCall FI__law_counts (iCons (iVar 0) (iCons (iP (eVar v)) (iCons (iP (eC (.int k))) iNil))) ρ S = FI__law_counts [.obj i, .dat (.int m), .dat (.int k)] S := by
  have e := vK (S := S) hv (d := .int m) rfl
  have c := cK (d := .int k) rfl (ρ := ρ) (S := S)
  simp only [iCall, iBind, iCons, iVar, hρ, e, c, iNil, iRA]
theorem cmpV {Fo : PyData → PyData → Option Bool} {F G : IE} {ρ : IR} {S S1 S2 : HS} {x y : PyData} {z : Bool} (hF : F ρ S = some (.ok (.dat x) S1)) (hG : G ρ S1 = some (.ok (.dat y) S2)) (hz : Fo x y = some z) :
    iCmp Fo F G ρ S = some (.ok (.dat (.bool z)) S2) := by
  simp only [iCmp, iTwo, iBind, hF, hG, dCmp, asD, hz]
theorem noList_encWs (ws : List (List Str)) : noList (encWs ws) = true := by simp [encWs, noLists_Ws]
theorem eq_aa : dEq (.str "alike") (.str "alike") = some true := by decide +kernel
theorem eq_au : dEq (.str "alike") (.str "unlike") = some false := by decide +kernel
theorem eq_ua : dEq (.str "unlike") (.str "alike") = some false := by decide +kernel
theorem eq_uu : dEq (.str "unlike") (.str "unlike") = some true := by decide +kernel
/-- words of two rules held against one another -/
theorem same_ok {r1 r2 : Rl} {few : Int} (h1 : r1.Ok) (h2 : r2.Ok) (f1 : 1 ≤ few) (f2 : few ≤ 99) {ns : List Nat} (hn : ∀ x ∈ ns, x ≤ 64) (hz : ns.length ≤ 400) {ρ : IR} (S : HS) (e1 : ρ[1]? = some (some (.dat (encR r1)))) (e2 : ρ[2]? = some (some (.dat (encR r2)))) (e3 : ρ[3]? = some (some (.dat (.int few)))) (e9 : ρ[9]? = some (some (.dat (encN ns)))) :
    ∃ S', Fr S.length S S' ∧ iCmp dEq (iCall FI__law_words (iCons (iP (eVar 1)) (iCons (iP (eVar 3)) (iCons (iP (eVar 9)) iNil)))) (iCall FI__law_words (iCons (iP (eVar 2)) (iCons (iP (eVar 3)) (iCons (iP (eVar 9)) iNil)))) ρ S = some (.ok (.dat (.bool (decide (likeW r1 r2 few ns)))) S') := by
  obtain ⟨S1, k1, w1⟩ := law_words_ok h1 f1 f2 ns hn hz S
  obtain ⟨S2, k2, w2⟩ := law_words_ok h2 f1 f2 ns hn hz S1
  refine ⟨S2, k1.trans (k2.weak k1.len), ?_⟩
  rw [cmpV ((wordsC e1 e3 e9 (noList_encR r1) rfl (noList_encN ns)).trans w1) ((wordsC e2 e3 e9 (noList_encR r2) rfl (noList_encN ns)).trans w2) (dEq_encWs (runW_w _ _ _ _) (runW_w _ _ _ _))]
  rfl
theorem loop_alike {r1 r2 : Rl} {few : Int} {M : Nat} (h1 : r1.Ok) (h2 : r2.Ok) (f1 : 1 ≤ few) (f2 : few ≤ 99) (m2 : M ≤ 3) (hw : Like few M r1 r2) {i : Nat} {d5 : Option IV} {d7 : Option IV} : ∀ (xs : List IV) (S : HS) (n : Nat) (x8 x9 x10 : Option IV), Pot S i n → n + 13 * xs.length ≤ 700 →
    ∃ S' y8 y9 y10, bForL (gIN 8) prBody xs [some (.obj i), some (.dat (encR r1)), some (.dat (encR r2)), some (.dat (.int few)), some (.dat (.int M)), d5, some (.dat (.str "alike")), d7, x8, x9, x10] S =
      some (.nx [some (.obj i), some (.dat (encR r1)), some (.dat (encR r2)), some (.dat (.int few)), some (.dat (.int M)), d5, some (.dat (.str "alike")), d7, y8, y9, y10] S') ∧ Pot S' i (n + 13 * xs.length) ∧ Ke i S S'
  | [], S, n, x8, x9, x10, p, hn => ⟨S, x8, x9, x10, rfl, p, .refl _ _⟩
  | x :: xs, S, n, x8, x9, x10, p, hn => by
    simp only [List.length_cons] at hn
    obtain ⟨ns, S1, e1, l1, d1, p1, k1⟩ := counts_ok p (lot := M) (size := 12) (by omega) (by omega) (by omega)
    obtain ⟨S2, k2, e2⟩ := same_ok h1 h2 f1 f2 (ns := ns) (fun y hy => by have := d1 y hy; omega) (by omega) (ρ := [some (.obj i), some (.dat (encR r1)), some (.dat (encR r2)), some (.dat (.int few)), some (.dat (.int M)), d5, some (.dat (.str "alike")), d7, some x, some (.dat (encN ns)), x10]) S1 rfl rfl rfl rfl
    rw [decide_eq_true (hw ns d1)] at e2
    obtain ⟨S', y8, y9, y10, e3, p3, k3⟩ := loop_alike h1 h2 f1 f2 m2 hw xs S2 (n + 13) (some x) (some (.dat (encN ns))) (some (.dat (.bool true))) ((p1.fr k2).mono (by omega)) (by omega)
    refine ⟨S', y8, y9, y10, ?_, p3.mono (by simp; omega), (k1.trans k2.ke).trans k3⟩
    have eb : prBody [some (.obj i), some (.dat (encR r1)), some (.dat (encR r2)), some (.dat (.int few)), some (.dat (.int M)), d5, some (.dat (.str "alike")), d7, some x, x9, x10] S = some (.nx [some (.obj i), some (.dat (encR r1)), some (.dat (encR r2)), some (.dat (.int few)), some (.dat (.int M)), d5, some (.dat (.str "alike")), d7, some x, some (.dat (encN ns)), some (.dat (.bool true))] S2) := by
      unfold prBody
      rw [bSeq_nx (asgV ((countsC (v := 4) (m := M) (k := 12) rfl rfl).trans e1))]
      simp only [List.set_cons_succ, List.set_cons_zero]
      rw [bSeq_nx (ρ' := [some (.obj i), some (.dat (encR r1)), some (.dat (encR r2)), some (.dat (.int few)), some (.dat (.int M)), d5, some (.dat (.str "alike")), d7, some x, some (.dat (encN ns)), x10]) (S' := S1) (by
        rw [bIfF (by simp [eq_au])]
        rfl)]
      rw [bSeq_nx (asgV e2)]
      simp only [List.set_cons_succ, List.set_cons_zero]
      rw [bSeq_nx (ρ' := [some (.obj i), some (.dat (encR r1)), some (.dat (encR r2)), some (.dat (.int few)), some (.dat (.int M)), d5, some (.dat (.str "alike")), d7, some x, some (.dat (encN ns)), some (.dat (.bool true))]) (S' := S2) (by
        rw [bIfF (by simp [eq_aa])]
        rfl)]
      rw [bSeq_nx (ρ' := [some (.obj i), some (.dat (encR r1)), some (.dat (encR r2)), some (.dat (.int few)), some (.dat (.int M)), d5, some (.dat (.str "alike")), d7, some x, some (.dat (encN ns)), some (.dat (.bool true))]) (S' := S2) (by
        rw [bIfF (by simp [eq_au])]
        rfl)]
      rfl
    unfold bForL
    simp only [gIN, List.set_cons_succ, List.set_cons_zero]
    rw [eb]
    exact e3
theorem upTo_encN (ns t : List Nat) : upTo (t.length : Int) (ns.map fun (n : Nat) => PyData.int n) = (ns.take t.length).map fun (n : Nat) => PyData.int n := by
  unfold upTo
  rw [if_neg (by omega), Int.toNat_natCast, List.map_take]
theorem loop_unlike {r1 r2 : Rl} {few : Int} {M : Nat} (h1 : r1.Ok) (h2 : r2.Ok) (f1 : 1 ≤ few) (f2 : few ≤ 99) (m2 : M ≤ 3) {t : List Nat} (ht : ToldRun r1 r2 few M t) {i : Nat} {d5 : Option IV} : ∀ (xs : List IV) (S : HS) (n : Nat) (x8 x9 x10 : Option IV), Pot S i n → n + 13 * xs.length ≤ 700 →
    ∃ S' y8 y9 y10, bForL (gIN 8) prBody xs [some (.obj i), some (.dat (encR r1)), some (.dat (encR r2)), some (.dat (.int few)), some (.dat (.int M)), d5, some (.dat (.str "unlike")), some (.dat (encN t)), x8, x9, x10] S =
      some (.nx [some (.obj i), some (.dat (encR r1)), some (.dat (encR r2)), some (.dat (.int few)), some (.dat (.int M)), d5, some (.dat (.str "unlike")), some (.dat (encN t)), y8, y9, y10] S') ∧ Pot S' i (n + 13 * xs.length) ∧ Ke i S S'
  | [], S, n, x8, x9, x10, p, hn => ⟨S, x8, x9, x10, rfl, p, .refl _ _⟩
  | x :: xs, S, n, x8, x9, x10, p, hn => by
    simp only [List.length_cons] at hn
    obtain ⟨ns, S1, e1, l1, d1, p1, k1⟩ := counts_ok p (lot := M) (size := 12) (by omega) (by omega) (by omega)
    obtain ⟨ms, hms⟩ : ∃ ms, ms = ns.take t.length := ⟨_, rfl⟩
    have dm : ∀ y ∈ ms, y ≤ M := fun y hy => d1 y (by rw [hms] at hy; exact List.mem_of_mem_take hy)
    have lm : ms.length ≤ t.length := by rw [hms]; simp; omega
    have lm2 : ms.length ≤ 12 := by rw [hms]; simp; omega
    obtain ⟨S2, k2, e2⟩ := same_ok h1 h2 f1 f2 (ns := ms) (fun y hy => by have := dm y hy; omega) (by omega) (ρ := [some (.obj i), some (.dat (encR r1)), some (.dat (encR r2)), some (.dat (.int few)), some (.dat (.int M)), d5, some (.dat (.str "unlike")), some (.dat (encN t)), some x, some (.dat (encN ms)), x10]) S1 rfl rfl rfl rfl
    obtain ⟨S', y8, y9, y10, e3, p3, k3⟩ := loop_unlike h1 h2 f1 f2 m2 ht xs S2 (n + 13) (some x) (some (.dat (encN ms))) (some (.dat (.bool (decide (likeW r1 r2 few ms))))) ((p1.fr k2).mono (by omega)) (by omega)
    refine ⟨S', y8, y9, y10, ?_, p3.mono (by simp; omega), (k1.trans k2.ke).trans k3⟩
    have eb : prBody [some (.obj i), some (.dat (encR r1)), some (.dat (encR r2)), some (.dat (.int few)), some (.dat (.int M)), d5, some (.dat (.str "unlike")), some (.dat (encN t)), some x, x9, x10] S = some (.nx [some (.obj i), some (.dat (encR r1)), some (.dat (encR r2)), some (.dat (.int few)), some (.dat (.int M)), d5, some (.dat (.str "unlike")), some (.dat (encN t)), some x, some (.dat (encN ms)), some (.dat (.bool (decide (likeW r1 r2 few ms))))] S2) := by
      unfold prBody
      rw [bSeq_nx (asgV ((countsC (v := 4) (m := M) (k := 12) rfl rfl).trans e1))]
      simp only [List.set_cons_succ, List.set_cons_zero]
      rw [bSeq_nx (ρ' := [some (.obj i), some (.dat (encR r1)), some (.dat (encR r2)), some (.dat (.int few)), some (.dat (.int M)), d5, some (.dat (.str "unlike")), some (.dat (encN t)), some x, some (.dat (encN ms)), x10]) (S' := S1) (by
        rw [bIfT (by simp [eq_uu])]
        have u : eUpto (eVar 9) (eLen (eVar 7)) (List.map prj [some (.obj i), some (.dat (encR r1)), some (.dat (encR r2)), some (.dat (.int few)), some (.dat (.int M)), d5, some (.dat (.str "unlike")), some (.dat (encN t)), some x, some (.dat (encN ns)), x10]) = some (encN ms) := by
          show some (PyData.tuple (upTo ((t.map fun (n : Nat) => PyData.int n).length : Int) (ns.map fun (n : Nat) => PyData.int n))) = _
          rw [List.length_map, upTo_encN, hms]
          rfl
        rw [bSeq_nx (bAsgN u (noList_encN ms))]
        rfl)]
      rw [bSeq_nx (asgV e2)]
      simp only [List.set_cons_succ, List.set_cons_zero]
      rw [bSeq_nx (ρ' := [some (.obj i), some (.dat (encR r1)), some (.dat (encR r2)), some (.dat (.int few)), some (.dat (.int M)), d5, some (.dat (.str "unlike")), some (.dat (encN t)), some x, some (.dat (encN ms)), some (.dat (.bool (decide (likeW r1 r2 few ms))))]) (S' := S2) (by
        rw [bIfF (by simp [eq_ua])]
        rfl)]
      rw [bSeq_nx (ρ' := [some (.obj i), some (.dat (encR r1)), some (.dat (encR r2)), some (.dat (.int few)), some (.dat (.int M)), d5, some (.dat (.str "unlike")), some (.dat (encN t)), some x, some (.dat (encN ms)), some (.dat (.bool (decide (likeW r1 r2 few ms))))]) (S' := S2) (by
        rw [bIfF (by
          have c1 : cCmp iLtD (eTup (aCons (eLen (eVar 9)) (aCons (eVar 9) aNil))) (eTup (aCons (eLen (eVar 7)) (aCons (eVar 7) aNil))) (List.map prj [some (.obj i), some (.dat (encR r1)), some (.dat (encR r2)), some (.dat (.int few)), some (.dat (.int M)), d5, some (.dat (.str "unlike")), some (.dat (encN t)), some x, some (.dat (encN ms)), some (.dat (.bool (decide (likeW r1 r2 few ms))))]) = some (PySem.W.dataLt (.tuple [.int ms.length, encN ms]) (.tuple [.int t.length, encN t])) := by
            show iLtD (.tuple [.int ((ms.map fun (n : Nat) => PyData.int n).length : Int), encN ms]) (.tuple [.int ((t.map fun (n : Nat) => PyData.int n).length : Int), encN t]) = _
            rw [List.length_map, List.length_map]
            exact iLtD_encN _ _ _ _
          have c0 : cEq (eVar 6) (eC (.str "unlike")) (List.map prj [some (.obj i), some (.dat (encR r1)), some (.dat (encR r2)), some (.dat (.int few)), some (.dat (.int M)), d5, some (.dat (.str "unlike")), some (.dat (encN t)), some x, some (.dat (encN ms)), some (.dat (.bool (decide (likeW r1 r2 few ms))))]) = some true := eq_uu
          have c2 : cNot (cVal (eVar 10)) (List.map prj [some (.obj i), some (.dat (encR r1)), some (.dat (encR r2)), some (.dat (.int few)), some (.dat (.int M)), d5, some (.dat (.str "unlike")), some (.dat (encN t)), some x, some (.dat (encN ms)), some (.dat (.bool (decide (likeW r1 r2 few ms))))]) = some (!decide (likeW r1 r2 few ms)) := rfl
          unfold cAnd
          rw [c0]
          simp only
          rw [c1, c2]
          cases hlt : PySem.W.dataLt (.tuple [.int ms.length, encN ms]) (.tuple [.int t.length, encN t]) with
          | false => rfl
          | true =>
            have hn := lt_num (fun y hy => by have := dm y hy; omega) (fun y hy => by have := ht.dig y hy; omega) lm hlt
            simp only
            rw [decide_eq_true (ht.least ms dm hn)]
            rfl)]
        rfl)]
      rfl
    unfold bForL
    simp only [gIN, List.set_cons_succ, List.set_cons_zero]
    rw [eb]
    exact e3
end KW
/-! MYe: pairs held against what is told; the script folded; a pot -/
namespace KW
open PySem PySem.Spec L2
theorem dIn_a : dIn (.str "alike") (.tuple [.str "alike", .str "unlike"]) = some true := by decide +kernel
theorem dIn_u : dIn (.str "unlike") (.tuple [.str "alike", .str "unlike"]) = some true := by decide +kernel
theorem argsT {ρ : IR} {S : HS} {a b c d : PyData} {i j k l : Nat} (ha : ρ[i]? = some (some (.dat a))) (hb : ρ[j]? = some (some (.dat b))) (hc : ρ[k]? = some (some (.dat c))) (hd : ρ[l]? = some (some (.dat d))) (na : noList a = true) (nb : noList b = true) (nc : noList c = true) (nd : noList d = true) :
    iCons (iP (eVar i)) (iCons (iP (eVar j)) (iCons (iP (eVar k)) (iCons (iP (eVar l)) iNil))) ρ S = some (.ok [.dat a, .dat b, .dat c, .dat d] S) := by
  simp only [iCons, iBind, vK ha na, vK hb nb, vK hc nc, vK hd nd, iNil, iRA]
theorem iCallA {Fn : List IV → HS → Option (Io IV)} {A : IX (List IV)} {ρ : IR} {S S1 : HS} {xs : List IV} (h : A ρ S = some (.ok xs S1)) : iCall Fn A ρ S = Fn xs S1 := by
  simp only [iCall, iBind, h]
theorem pair_right_ok {r1 r2 : Rl} {few : Int} {fa : Addr} {M : Nat} (h1 : r1 ∈ allR) (h2 : r2 ∈ allR) (f1 : 1 ≤ few) (f2 : few ≤ 3) (m1 : 1 ≤ M) (m2 : M ≤ 2) {S : HS} {i n : Nat} (p : Pot S i n) (hn : n ≤ 600) :
    ∃ S', FI__law_pair_right fa [.obj i, .dat (encR r1), .dat (encR r2), .dat (.int few), .dat (.int M)] S = some (.ok (.dat (.bool true)) S') ∧ Ke i S S' := by
  have o1 := allR_ok r1 h1
  have o2 := allR_ok r2 h2
  have n1 := noList_encR r1
  have n2 := noList_encR r2
  have lr : (rangeI 0 4).length = 4 := by simp
  have hR : ∀ (ρ : IR) (S : HS), iRngI (iP (eC (.int 4))) ρ S = some (.ok (rangeI 0 4) S) := fun ρ S => rfl
  unfold FI__law_pair_right runI
  simp only [List.map_cons, List.map_nil, List.length_cons, List.length_nil, List.cons_append, List.nil_append, Nat.reduceAdd, Nat.reduceSub, List.replicate]
  have eA : ∀ r, FI__law_alike_told fa [.dat (encR r1), .dat (encR r2), .dat (.int few), .dat (.int M)] S = r → iCall (FI__law_alike_told fa) (iCons (iP (eVar 1)) (iCons (iP (eVar 2)) (iCons (iP (eVar 3)) (iCons (iP (eVar 4)) iNil)))) [some (.obj i), some (.dat (encR r1)), some (.dat (encR r2)), some (.dat (.int few)), some (.dat (.int M)), none, none, none, none, none, none] S = r := fun r e => by
    rw [iCallA (argsT rfl rfl rfl rfl n1 n2 rfl rfl)]
    exact e
  rcases told_any (fa := fa) o1 o2 f1 (by omega) m1 m2 S with ⟨S1, d, k1, hl, nd, e⟩ | ⟨S1, t, k1, ht, e⟩ | ⟨S1, k1, e⟩
  · have nt : noList (.tuple [.str "alike", d]) = true := by simp [nd]
    rw [bSeq_nx (asgV (eA _ e))]
    simp only [List.set_cons_succ, List.set_cons_zero]
    rw [bSeq_nx (ρ' := [some (.obj i), some (.dat (encR r1)), some (.dat (encR r2)), some (.dat (.int few)), some (.dat (.int M)), some (.dat (.tuple [.str "alike", d])), none, none, none, none, none]) (S' := S1) (by
      rw [bIfF (by simp)]
      rfl)]
    rw [bSeq_nx (ρ' := [some (.obj i), some (.dat (encR r1)), some (.dat (encR r2)), some (.dat (.int few)), some (.dat (.int M)), some (.dat (.tuple [.str "alike", d])), some (.dat (.str "alike")), some (.dat d), none, none, none]) (S' := S1) (by
      unfold bAsg
      rw [vK rfl nt]
      rfl)]
    rw [bSeq_nx (ρ' := [some (.obj i), some (.dat (encR r1)), some (.dat (encR r2)), some (.dat (.int few)), some (.dat (.int M)), some (.dat (.tuple [.str "alike", d])), some (.dat (.str "alike")), some (.dat d), none, none, none]) (S' := S1) (by
      rw [ifF (S1 := S1) (by simp [eq_au])]
      rfl)]
    obtain ⟨S2, y8, y9, y10, e2, p2, k2⟩ := loop_alike o1 o2 f1 (by omega) (M := M) (by omega) hl (d5 := some (.dat (.tuple [.str "alike", d]))) (d7 := some (.dat d)) (rangeI 0 4) S1 n none none none (p.fr k1) (by rw [lr]; omega)
    rw [bSeq_nx (bFor_ok (hR _ _) e2)]
    refine ⟨S2, ?_, k1.ke.trans k2⟩
    rw [bSeq_rt (x := .dat (.bool true)) (S' := S2) (by
      refine retS ?_
      simp only [iP, eCmp, List.map_cons, List.map_nil, prj, eVar, List.getElem?_cons_zero, List.getElem?_cons_succ, eTup, aCons, aNil, eC, Option.map_some, dIn_a, iRet, noList, if_true])]
  · have nN := noList_encN t
    have nt : noList (.tuple [.str "unlike", encN t]) = true := by simp [nN]
    have hz := short_told f1 f2 m1 m2 h1 h2 ht
    rw [bSeq_nx (asgV (eA _ e))]
    simp only [List.set_cons_succ, List.set_cons_zero]
    rw [bSeq_nx (ρ' := [some (.obj i), some (.dat (encR r1)), some (.dat (encR r2)), some (.dat (.int few)), some (.dat (.int M)), some (.dat (.tuple [.str "unlike", encN t])), none, none, none, none, none]) (S' := S1) (by
      rw [bIfF (by simp)]
      rfl)]
    rw [bSeq_nx (ρ' := [some (.obj i), some (.dat (encR r1)), some (.dat (encR r2)), some (.dat (.int few)), some (.dat (.int M)), some (.dat (.tuple [.str "unlike", encN t])), some (.dat (.str "unlike")), some (.dat (encN t)), none, none, none]) (S' := S1) (by
      unfold bAsg
      rw [vK rfl nt]
      rfl)]
    obtain ⟨S2, k2, e2⟩ := run_right_ok o1 o2 f1 (by omega) (by omega) ht hz S1
    have eT : iPT (cEq (eVar 6) (eC (.str "unlike"))) [some (.obj i), some (.dat (encR r1)), some (.dat (encR r2)), some (.dat (.int few)), some (.dat (.int M)), some (.dat (.tuple [.str "unlike", encN t])), some (.dat (.str "unlike")), some (.dat (encN t)), none, none, none] S1 = some (.ok true S1) := by simp [eq_uu]
    have eC_ : iCall FI__law_run_right (iCons (iP (eVar 1)) (iCons (iP (eVar 2)) (iCons (iP (eVar 3)) (iCons (iP (eVar 7)) iNil)))) [some (.obj i), some (.dat (encR r1)), some (.dat (encR r2)), some (.dat (.int few)), some (.dat (.int M)), some (.dat (.tuple [.str "unlike", encN t])), some (.dat (.str "unlike")), some (.dat (encN t)), none, none, none] S1 = some (.ok (.dat (.bool true)) S2) := by
      rw [iCallA (argsT rfl rfl rfl rfl n1 n2 rfl nN)]
      exact e2
    rw [bSeq_nx (ρ' := [some (.obj i), some (.dat (encR r1)), some (.dat (encR r2)), some (.dat (.int few)), some (.dat (.int M)), some (.dat (.tuple [.str "unlike", encN t])), some (.dat (.str "unlike")), some (.dat (encN t)), none, none, none]) (S' := S2) (by
      rw [ifF (S1 := S2) (by
        simp only [iAnd, iNot, iValT]
        unfold iBind
        rw [eT]
        simp only [if_true]
        rw [eC_]
        rfl)]
      rfl)]
    obtain ⟨S3, y8, y9, y10, e3, p3, k3⟩ := loop_unlike o1 o2 f1 (by omega) (M := M) (by omega) ht (d5 := some (.dat (.tuple [.str "unlike", encN t]))) (rangeI 0 4) S2 n none none none ((p.fr k1).fr k2) (by rw [lr]; omega)
    rw [bSeq_nx (bFor_ok (hR _ _) e3)]
    refine ⟨S3, ?_, (k1.ke.trans k2.ke).trans k3⟩
    rw [bSeq_rt (x := .dat (.bool true)) (S' := S3) (by
      refine retS ?_
      simp only [iP, eCmp, List.map_cons, List.map_nil, prj, eVar, List.getElem?_cons_zero, List.getElem?_cons_succ, eTup, aCons, aNil, eC, Option.map_some, dIn_u, iRet, noList, if_true])]
  · refine ⟨S1, ?_, k1.ke⟩
    rw [bSeq_nx (asgV (eA _ e))]
    simp only [List.set_cons_succ, List.set_cons_zero]
    rw [bSeq_rt (x := .dat (.bool true)) (S' := S1) (by
      rw [bIfT (by simp)]
      exact bSeq_rt (retS (cK rfl)))]
/-! ### the script folded -/
def zIV (z : Int) : IV := .dat (.int z)
theorem datsOf_z : ∀ zs : List Int, datsOf (zs.map zIV) = some (zs.map PyData.int)
  | [] => rfl
  | z :: zs => by simp [zIV, datsOf_z zs]
theorem ixE {v : Nat} {k : Int} {E : IE} {ρ : IR} {S : HS} {i : Nat} {xs : List IV} {z : IV} (hρ : ρ[v]? = some (some (.obj i))) (hS : S[i]? = some (.lst xs)) (hE : E ρ S = some (.ok (.dat (.int k)) S)) (hk : 0 ≤ k) (hz : xs[k.toNat]? = some z) :
    iIx (iVar v) E ρ S = some (.ok z S) := by
  simp only [iIx, iTwo, iBind, iVar, hρ, hE, ixGo, if_pos hk, hS, hz]
theorem ixSc {v : Nat} {k : Int} {E : IE} {ρ : IR} {S : HS} {i : Nat} {xs : List IV} {z : IV} (hρ : ρ[v]? = some (some (.obj i))) (hS : S[i]? = some (.scr xs)) (hE : E ρ S = some (.ok (.dat (.int k)) S)) (hk : 0 ≤ k) (hz : xs[k.toNat]? = some z) :
    iIx (iVar v) E ρ S = some (.ok z S) := by
  simp only [iIx, iTwo, iBind, iVar, hρ, hE, ixGo, if_pos hk, hS, hz]
abbrev foldB : IB := (bSeq (bAsg (iBin fAdd (iBin fMulR (iIx (iVar 2) (iP (eBin fMod (eVar 3) (eVar 1)))) (iP (eC (.int 31)))) (iIx (iVar 0) (iP (eVar 3)))) (gIS (iVar 2) (iP (eBin fMod (eVar 3) (eVar 1))))) bNil)
theorem fold_loop {zs : List Int} {L : Nat} (hL : L ≠ 0) : ∀ (xs : List IV) (ys : List Int) (S : HS) (x3 : Option IV), (∀ x ∈ xs, ∃ k : Nat, x = .dat (.int k) ∧ k < zs.length) → ys.length = 2 → S[L]? = some (.lst (ys.map zIV)) → S[0]? = some (.scr (zs.map zIV)) →
    ∃ (ys' : List Int) (S' : HS) (y3 : Option IV), bForL (gIN 3) foldB xs [some (.obj 0), some (.dat (.int 2)), some (.obj L), x3] S = some (.nx [some (.obj 0), some (.dat (.int 2)), some (.obj L), y3] S') ∧ S'.length = S.length ∧ S'[L]? = some (.lst (ys'.map zIV)) ∧ ∀ j, j ≠ L → S'[j]? = S[j]?
  | [], ys, S, x3, hx, hy, h1, h0 => ⟨ys, S, x3, rfl, rfl, h1, fun _ _ => rfl⟩
  | x :: xs, ys, S, x3, hx, hy, h1, h0 => by
    obtain ⟨k, rfl, hk⟩ := hx x (by simp)
    have lL := lt_of_get h1
    obtain ⟨m, hm⟩ : ∃ m : Int, m = (k : Int) % 2 := ⟨_, rfl⟩
    have m0 : 0 ≤ m := by omega
    have m2 : m.toNat < ys.length := by omega
    have g : (ys.map zIV)[m.toNat]? = some (zIV ys[m.toNat]) := by rw [List.getElem?_map, List.getElem?_eq_getElem m2]; rfl
    have gz : (zs.map zIV)[((k : Nat) : Int).toNat]? = some (zIV zs[k]) := by rw [List.getElem?_map, Int.toNat_natCast, List.getElem?_eq_getElem hk]; rfl
    obtain ⟨y, hyy⟩ : ∃ y, y = ys[m.toNat] := ⟨_, rfl⟩
    obtain ⟨z, hzz⟩ : ∃ z, z = zs[k] := ⟨_, rfl⟩
    rw [← hyy] at g
    rw [← hzz] at gz
    have e1 : ∀ S, iP (eBin fMod (eVar 3) (eVar 1)) [some (.obj 0), some (.dat (.int 2)), some (.obj L), some (.dat (.int k))] S = some (.ok (.dat (.int m)) S) := fun S => by
      have : fMod (.int k) (.int 2) = some (.int m) := by rw [fMod_int (by decide), hm]
      simp only [iP, eBin, List.map_cons, List.map_nil, prj, eVar, List.getElem?_cons_zero, List.getElem?_cons_succ, this, iRet, noList, if_true]
    have e2 := ixE (v := 2) (ρ := [some (.obj 0), some (.dat (.int 2)), some (.obj L), some (.dat (.int k))]) (i := L) rfl h1 (e1 S) m0 g
    have e3 := ixSc (v := 0) (ρ := [some (.obj 0), some (.dat (.int 2)), some (.obj L), some (.dat (.int k))]) (i := 0) rfl h0 (vK (i := 3) (d := .int k) rfl rfl) (by omega) gz
    have e4 := binS (Fo := fAdd) (binS (Fo := fMulR) e2 (cK (d := .int 31) rfl) (fMulR_intR (by decide)) rfl) e3 (z := .int (y * 31 + z)) rfl rfl
    have eb : foldB [some (.obj 0), some (.dat (.int 2)), some (.obj L), some (.dat (.int k))] S = some (.nx [some (.obj 0), some (.dat (.int 2)), some (.obj L), some (.dat (.int k))] (S.set L (.lst ((ys.set m.toNat (y * 31 + z)).map zIV)))) := by
      unfold foldB
      rw [bSeq_nx (ρ' := [some (.obj 0), some (.dat (.int 2)), some (.obj L), some (.dat (.int k))]) (S' := S.set L (.lst ((ys.set m.toNat (y * 31 + z)).map zIV))) (by
        unfold bAsg
        rw [e4]
        simp only
        have c : 0 ≤ m ∧ m.toNat < (ys.map zIV).length := ⟨m0, by simpa using m2⟩
        have q := e1 S
        simp only [gIS, iVar, List.getElem?_cons_zero, List.getElem?_cons_succ]
        rw [q]
        simp only [putIx, h1, if_pos c, Option.map_some, List.map_set]
        rfl)]
      rfl
    obtain ⟨ys', S', y3, e, l, g', kp⟩ := fold_loop hL xs (ys.set m.toNat (y * 31 + z)) (S.set L (.lst ((ys.set m.toNat (y * 31 + z)).map zIV))) (some (.dat (.int k))) (fun x h => hx x (by simp [h])) (by simpa using hy) (List.getElem?_set_self lL) (by rw [List.getElem?_set_ne hL]; exact h0)
    refine ⟨ys', S', y3, ?_, by simpa using l, g', fun j hj => by rw [kp j hj, List.getElem?_set_ne (Ne.symm hj)]⟩
    unfold bForL
    simp only [gIN, List.set_cons_succ, List.set_cons_zero]
    rw [eb]
    exact e
theorem folded_ok {zs : List Int} (hz : zs.length ≤ 63) {S : HS} (h0 : S[0]? = some (.scr (zs.map zIV))) :
    ∃ (ys : List Int) (L : Nat) (S' : HS), FI__law_folded [.obj 0, .dat (.int 2)] S = some (.ok (.obj L) S') ∧ S'[L]? = some (.lst (ys.map zIV)) ∧ Fr S.length S S' := by
  have l0 := lt_of_get h0
  obtain ⟨S1, hS1⟩ : ∃ S1, S1 = S ++ [.lst ((zs.take 2).map zIV), .lst ((zs.take 2).map zIV)] := ⟨_, rfl⟩
  have g1 : S1[S.length + 1]? = some (.lst ((zs.take 2).map zIV)) := by
    rw [hS1, List.getElem?_append_right (by omega)]
    simp
  have g0 : S1[0]? = some (.scr (zs.map zIV)) := by rw [hS1, List.getElem?_append_left l0]; exact h0
  have k1 : Fr S.length S S1 := by rw [hS1]; exact ⟨fun j hj => List.getElem?_append_left hj, by simp⟩
  have eA : iLstOf (iTo (iVar 0) (iP (eVar 1))) [some (.obj 0), some (.dat (.int 2)), none, none] S = some (.ok (.obj (S.length + 1)) S1) := by
    have v := vK (i := 1) (d := .int 2) (ρ := [some (.obj 0), some (.dat (.int 2)), none, none]) (S := S) rfl rfl
    have t : (zs.map zIV).take (2 : Int).toNat = (zs.take 2).map zIV := by rw [List.map_take]; rfl
    have e : iTo (iVar 0) (iP (eVar 1)) [some (.obj 0), some (.dat (.int 2)), none, none] S = some (.ok (.obj S.length) (S ++ [.lst ((zs.take 2).map zIV)])) := by
      simp only [iTo, iBind, iVar, List.getElem?_cons_zero, v, h0, t]
      rfl
    simp only [iLstOf]
    unfold iBind
    rw [e]
    simp only [tupOf_, get_last, datsOf_z, List.map_map, hS1, List.append_assoc, List.length_append, List.length_cons, List.length_nil, List.cons_append, List.nil_append]
    rfl
  have eR : iRngI2 (iP (eVar 1)) (iMin (iP (eC (.int 63))) (iLen (iVar 0))) [some (.obj 0), some (.dat (.int 2)), some (.obj (S.length + 1)), none] S1 = some (.ok (rangeI 2 ((zs.length : Int) - 2).toNat) S1) := by
    have v := vK (i := 1) (d := .int 2) (ρ := [some (.obj 0), some (.dat (.int 2)), some (.obj (S.length + 1)), none]) (S := S1) rfl rfl
    have c := cK (d := .int 63) rfl (ρ := [some (.obj 0), some (.dat (.int 2)), some (.obj (S.length + 1)), none]) (S := S1)
    have mn : (if ((zs.length : Nat) : Int) < 63 then ((zs.length : Nat) : Int) else 63) = zs.length := by split <;> omega
    have em : iMin (iP (eC (.int 63))) (iLen (iVar 0)) [some (.obj 0), some (.dat (.int 2)), some (.obj (S.length + 1)), none] S1 = some (.ok (.dat (.int zs.length)) S1) := by
      simp only [iMin, iTwo, iBind, c, iLen, iVar, List.getElem?_cons_zero, sizeOf_, g0, fnGo, List.length_map, mn]
    have b : (-(2 ^ 62) ≤ (2 : Int) ∧ (2 : Int) < 2 ^ 62) ∧ -(2 ^ 62) ≤ (zs.length : Int) ∧ (zs.length : Int) < 2 ^ 62 := by omega
    simp only [iRngI2]
    unfold iBind
    rw [v]
    simp only
    rw [em]
    simp only [if_pos b]
  unfold FI__law_folded runI
  simp only [List.map_cons, List.map_nil, List.length_cons, List.length_nil, List.cons_append, List.nil_append, Nat.reduceAdd, Nat.reduceSub, List.replicate]
  rw [bSeq_nx (asgV eA)]
  simp only [List.set_cons_succ, List.set_cons_zero]
  by_cases hl : zs.length ≤ 2
  · have e : rangeI 2 ((zs.length : Int) - 2).toNat = [] := by
      rw [show ((zs.length : Int) - 2).toNat = 0 by omega]
      rfl
    rw [e] at eR
    refine ⟨zs.take 2, S.length + 1, S1, ?_, g1, k1⟩
    rw [bSeq_nx (bFor_ok eR (o := .nx [some (.obj 0), some (.dat (.int 2)), some (.obj (S.length + 1)), none] S1) rfl)]
    rw [bSeq_rt (x := .obj (S.length + 1)) (S' := S1) (retS rfl)]
  · obtain ⟨ys', S', y3, e, l, g', kp⟩ := fold_loop (L := S.length + 1) (zs := zs) (by omega) (rangeI 2 ((zs.length : Int) - 2).toNat) (zs.take 2) S1 none (fun x hx => by
      obtain ⟨j, hj, rfl⟩ := List.mem_map.mp hx
      have := List.mem_range.mp hj
      exact ⟨2 + j, by simp, by omega⟩) (by simp; omega) g1 g0
    refine ⟨ys', S.length + 1, S', ?_, g', ⟨fun j hj => by rw [kp j (by omega)]; exact k1.keep j hj, by have := k1.len; omega⟩⟩
    rw [bSeq_nx (bFor_ok eR e)]
    rw [bSeq_rt (x := .obj (S.length + 1)) (S' := S') (retS rfl)]
end KW
/-! MYf: a pot; the law -/
namespace KW
open PySem PySem.Spec L2
theorem iConsS {F : IE} {A : IX (List IV)} {ρ : IR} {S S1 S2 : HS} {x : IV} {xs : List IV} (hF : F ρ S = some (.ok x S1)) (hA : A ρ S1 = some (.ok xs S2)) : iCons F A ρ S = some (.ok (x :: xs) S2) := by
  simp only [iCons, iBind, hF, hA, iRA]
theorem iLstS {A : IX (List IV)} {ρ : IR} {S S1 : HS} {xs : List IV} (hA : A ρ S = some (.ok xs S1)) : iLst A ρ S = some (.ok (.obj S1.length) (S1 ++ [.lst xs])) := by
  simp only [iLst, iBind, hA]
theorem pow840 : ∃ B : Int, 0 < B ∧ ∀ (ρ : IR) (S : HS), iP (eBin fPow (eBin fPow (eC (.int 10)) (eC (.int 60))) (eC (.int 14))) ρ S = some (.ok (.dat (.int B)) S) := by
  refine ⟨((10 : Int) ^ (60 : Int).toNat) ^ (14 : Int).toNat, by decide +kernel, fun ρ S => ?_⟩
  have e1 : fPow (.int 10) (.int 60) = some (.int ((10 : Int) ^ (60 : Int).toNat)) := fPow_int (by decide) (by decide) (by decide +kernel)
  have e2 : fPow (.int ((10 : Int) ^ (60 : Int).toNat)) (.int 14) = some (.int (((10 : Int) ^ (60 : Int).toNat) ^ (14 : Int).toNat)) := fPow_int (by decide) (by decide) (by decide +kernel)
  simp only [iP, eBin, eC, e1, e2, iRet, noList, if_true]
theorem absS {F : IE} {ρ : IR} {S S1 : HS} {y : Int} (hF : F ρ S = some (.ok (.dat (.int y)) S1)) : ∃ z : Int, 0 ≤ z ∧ iAbs F ρ S = some (.ok (.dat (.int z)) S1) := by
  refine ⟨if y < 0 then -y else y, by split <;> omega, ?_⟩
  simp only [iAbs, iBind, hF]
theorem pot_tail {L : Nat} {k : Int} (k0 : 0 ≤ k) (k1 : k ≤ 1) {c : Int} (c0 : 0 ≤ c) (S : HS) :
    ∃ a b : Int, 0 ≤ a ∧ (0 ≤ b ∧ b < 2305843009213693951) ∧
      (bSeq (bAsg (iP (eBin fMod (eBin fPow (eAdd (eAdd (eBin fMod (eVar 2) (eC (.int 2147483629))) (eBin fMulR (eC (.int 7919)) (eVar 1))) (eC (.int 1))) (eC (.int 5))) (eC (.int 2305843009213693951)))) (gIN 3)) (bSeq (bRet (iLst (iCons (iP (eBin fMulR (eVar 2) (eIntB (eGe (eVar 2) (eBin fPow (eC (.int 10)) (eC (.int 18))))))) (iCons (iP (eVar 3)) (iCons (iP (eC (.int 0))) iNil))))) bNil))
        [some (.obj L), some (.dat (.int k)), some (.dat (.int c)), none] S = some (.rt (.obj S.length) (S ++ [potO a b 0])) := by
  obtain ⟨x, hx⟩ : ∃ x : Int, x = c % 2147483629 + 7919 * k + 1 := ⟨_, rfl⟩
  have xb : x.natAbs < 2 ^ 256 := by omega
  obtain ⟨b, hb⟩ : ∃ b : Int, b = x ^ 5 % 2305843009213693951 := ⟨_, rfl⟩
  have b0 : 0 ≤ b := by rw [hb]; exact Int.emod_nonneg _ (by decide)
  have b1 : b < 2305843009213693951 := by rw [hb]; exact Int.emod_lt_of_pos _ (by decide)
  obtain ⟨q, hq⟩ : ∃ q : Int, q = if (decide ((10 : Int) ^ (18 : Int).toNat ≤ c)) = true then 1 else 0 := ⟨_, rfl⟩
  have q0 : 0 ≤ q ∧ q ≤ 1 := by rw [hq]; split <;> omega
  have e18 : fPow (.int 10) (.int 18) = some (.int ((10 : Int) ^ (18 : Int).toNat)) := fPow_int (by decide) (by decide) (by decide +kernel)
  have ec : fMod (.int c) (.int 2147483629) = some (.int (c % 2147483629)) := fMod_int (by decide)
  have ek : fMulR (.int 7919) (.int k) = some (.int (7919 * k)) := fMulR_int (by decide)
  have ex : fPow (.int x) (.int 5) = some (.int (x ^ 5)) := fPow_int (by decide) (by decide) xb
  have eb : fMod (.int (x ^ 5)) (.int 2305843009213693951) = some (.int b) := by rw [fMod_int (by decide), hb]
  have eq_ : fMulR (.int c) (.int q) = some (.int (c * q)) := fMulR_intR (by omega)
  refine ⟨c * q, b, Int.mul_nonneg c0 q0.1, ⟨b0, b1⟩, ?_⟩
  rw [bSeq_nx (ρ' := [some (.obj L), some (.dat (.int k)), some (.dat (.int c)), some (.dat (.int b))]) (S' := S) (by
    refine asgV (i := 3) ?_
    simp only [iP, eAdd, eBin, List.map_cons, List.map_nil, prj, eVar, List.getElem?_cons_zero, List.getElem?_cons_succ, eC, ec, ek, fAdd, ← hx, ex, eb, iRet, noList, if_true])]
  rw [bSeq_rt (x := .obj S.length) (S' := S ++ [potO (c * q) b 0]) (by
    refine retS ?_
    have a1 : iP (eBin fMulR (eVar 2) (eIntB (eGe (eVar 2) (eBin fPow (eC (.int 10)) (eC (.int 18)))))) [some (.obj L), some (.dat (.int k)), some (.dat (.int c)), some (.dat (.int b))] S = some (.ok (.dat (.int (c * q))) S) := by
      simp only [iP, eBin, eIntB, eGe, eCmp, iGe, List.map_cons, List.map_nil, prj, eVar, List.getElem?_cons_zero, List.getElem?_cons_succ, eC, e18, Option.map_some, ← hq, eq_, iRet, noList, if_true]
    have a2 := vK (i := 3) (d := .int b) (ρ := [some (.obj L), some (.dat (.int k)), some (.dat (.int c)), some (.dat (.int b))]) (S := S) rfl rfl
    have a3 := cK (d := .int 0) rfl (ρ := [some (.obj L), some (.dat (.int k)), some (.dat (.int c)), some (.dat (.int b))]) (S := S)
    simp only [iLst, iBind, iCons, a1, a2, a3, iNil, iRA, potO])]
theorem pot_ok {S : HS} {L : Nat} {ys : List Int} (h : S[L]? = some (.lst (ys.map zIV))) {k : Nat} (hk : k ≤ 1) :
    ∃ (i : Nat) (S' : HS), FI__law_pot [.obj L, .dat (.int k)] S = some (.ok (.obj i) S') ∧ i ≠ 0 ∧ Pot S' i 0 ∧ Fr S.length S S' := by
  obtain ⟨B, hB, eB⟩ := pow840
  have lL := lt_of_get h
  have fin : ∀ c : Int, 0 ≤ c → ∃ a b : Int, 0 ≤ a ∧ (0 ≤ b ∧ b < 2305843009213693951) ∧
      (bSeq (bAsg (iP (eBin fMod (eBin fPow (eAdd (eAdd (eBin fMod (eVar 2) (eC (.int 2147483629))) (eBin fMulR (eC (.int 7919)) (eVar 1))) (eC (.int 1))) (eC (.int 5))) (eC (.int 2305843009213693951)))) (gIN 3)) (bSeq (bRet (iLst (iCons (iP (eBin fMulR (eVar 2) (eIntB (eGe (eVar 2) (eBin fPow (eC (.int 10)) (eC (.int 18))))))) (iCons (iP (eVar 3)) (iCons (iP (eC (.int 0))) iNil))))) bNil))
        [some (.obj L), some (.dat (.int k)), some (.dat (.int c)), none] S = some (.rt (.obj S.length) (S ++ [potO a b 0])) := fun c hc => pot_tail (by omega) (by omega) hc S
  have pot : ∀ a b : Int, 0 ≤ a → (0 ≤ b ∧ b < 2305843009213693951) → Pot (S ++ [potO a b 0]) S.length 0 := fun a b h1 h2 => ⟨a, b, 0, by simp, h1, h2, by omega, by omega⟩
  have fr : ∀ T, Fr S.length S (S ++ T) := fun T => ⟨fun j hj => List.getElem?_append_left hj, by simp⟩
  have eT : iCmpT iLt (iP (eVar 1)) (iLen (iVar 0)) [some (.obj L), some (.dat (.int k)), some (.dat (.int 0)), none] S = some (.ok (decide ((k : Int) < ys.length)) S) := by
    refine cmpS (vK (i := 1) (d := .int k) rfl rfl) (y := .int ys.length) ?_ rfl
    simp only [iLen, iBind, iVar, List.getElem?_cons_zero, sizeOf_, h, List.length_map]
  unfold FI__law_pot runI
  simp only [List.map_cons, List.map_nil, List.length_cons, List.length_nil, List.cons_append, List.nil_append, Nat.reduceAdd, Nat.reduceSub, List.replicate]
  rw [bSeq_nx (asgV (cK rfl))]
  simp only [List.set_cons_succ, List.set_cons_zero]
  by_cases hl : k < ys.length
  · rw [decide_eq_true (show (k : Int) < ys.length by omega)] at eT
    have g : (ys.map zIV)[((k : Nat) : Int).toNat]? = some (zIV ys[k]) := by rw [List.getElem?_map, Int.toNat_natCast, List.getElem?_eq_getElem hl]; rfl
    obtain ⟨z, z0, eZ⟩ := absS (ixE (v := 0) (ρ := [some (.obj L), some (.dat (.int k)), some (.dat (.int 0)), none]) (i := L) rfl h (vK (i := 1) (d := .int k) rfl rfl) (by omega) g)
    obtain ⟨a, b, h1, h2, e⟩ := fin (z % B) (Int.emod_nonneg _ (by omega))
    refine ⟨S.length, S ++ [potO a b 0], ?_, by omega, pot a b h1 h2, fr _⟩
    rw [bSeq_nx (ρ' := [some (.obj L), some (.dat (.int k)), some (.dat (.int (z % B))), none]) (S' := S) (by
      rw [ifT eT]
      rw [bSeq_nx (asgV (binS eZ (eB _ _) (fMod_int hB) rfl))]
      rfl)]
    rw [e]
  · rw [decide_eq_false (show ¬ (k : Int) < ys.length by omega)] at eT
    obtain ⟨a, b, h1, h2, e⟩ := fin 0 (Int.le_refl _)
    refine ⟨S.length, S ++ [potO a b 0], ?_, by omega, pot a b h1 h2, fr _⟩
    rw [bSeq_nx (ρ' := [some (.obj L), some (.dat (.int k)), some (.dat (.int 0)), none]) (S' := S) (by
      rw [ifF eT]
      rfl)]
    rw [e]
/-! ### the law -/
abbrev innerB : IB := (bSeq (bAsg (iCall FI__law_counts (iCons (iVar 2) (iCons (iP (eC (.int 3))) (iCons (iP (eC (.int 12))) iNil)))) (gIN 8)) (bSeq (bIf (iCmpT dNe (iCall FI_small_words (iCons (iP (eVar 7)) (iCons (iP (eVar 5)) (iCons (iP (eVar 8)) iNil)))) (iCall FI__law_words (iCons (iP (eVar 7)) (iCons (iP (eVar 5)) (iCons (iP (eVar 8)) iNil))))) (bSeq (bRet (iP (eC (.bool false)))) bNil) bNil) bNil))
theorem inner_law {few : Int} (f1 : 1 ≤ few) (f2 : few ≤ 3) {i : Nat} {d0 d1 d3 d4 d6 : Option IV} : ∀ (rs : List Rl) (S : HS) (n : Nat) (x7 x8 : Option IV), (∀ r ∈ rs, r ∈ allR) → Pot S i n → n + 13 * rs.length ≤ 700 →
    ∃ S' y7 y8, bForL (gIN 7) innerB (rs.map fun r => .dat (encR r)) [d0, d1, some (.obj i), d3, d4, some (.dat (.int few)), d6, x7, x8] S = some (.nx [d0, d1, some (.obj i), d3, d4, some (.dat (.int few)), d6, y7, y8] S') ∧ Pot S' i (n + 13 * rs.length) ∧ Ke i S S'
  | [], S, n, x7, x8, hr, p, hn => ⟨S, x7, x8, rfl, p, .refl _ _⟩
  | r :: rs, S, n, x7, x8, hr, p, hn => by
    simp only [List.length_cons] at hn
    have hR := hr r (by simp)
    have o := allR_ok r hR
    obtain ⟨ns, S1, e1, l1, d1', p1, k1⟩ := counts_ok p (lot := 3) (size := 12) (by omega) (by omega) (by omega)
    obtain ⟨T, e2⟩ := small_words_ok o f1 (by omega) (ns := ns) (by omega) d1' S1
    obtain ⟨S3, k3, e3⟩ := law_words_ok o f1 (by omega) ns (fun y hy => by have := d1' y hy; omega) (by omega) (S1 ++ T)
    have kT : Fr S1.length S1 (S1 ++ T) := ⟨fun j hj => List.getElem?_append_left hj, by simp⟩
    obtain ⟨S', y7, y8, e4, p4, k4⟩ := inner_law f1 f2 (i := i) (d0 := d0) (d1 := d1) (d3 := d3) (d4 := d4) (d6 := d6) rs S3 (n + 13) (some (.dat (encR r))) (some (.dat (encN ns))) (fun x h => hr x (by simp [h])) (((p1.fr kT).fr k3).mono (by omega)) (by omega)
    refine ⟨S', y7, y8, ?_, p4.mono (by simp; omega), ((k1.trans kT.ke).trans k3.ke).trans k4⟩
    have nN := noList_encN ns
    have nR := noList_encR r
    have c1 : iCall FI__law_counts (iCons (iVar 2) (iCons (iP (eC (.int 3))) (iCons (iP (eC (.int 12))) iNil))) [d0, d1, some (.obj i), d3, d4, some (.dat (.int few)), d6, some (.dat (encR r)), x8] S = some (.ok (.dat (encN ns)) S1) := by
      rw [iCallA (S1 := S) (xs := [.obj i, .dat (.int 3), .dat (.int 12)]) rfl]
      exact e1
    have a3 : ∀ S, iCons (iP (eVar 7)) (iCons (iP (eVar 5)) (iCons (iP (eVar 8)) iNil)) [d0, d1, some (.obj i), d3, d4, some (.dat (.int few)), d6, some (.dat (encR r)), some (.dat (encN ns))] S = some (.ok [.dat (encR r), .dat (.int few), .dat (encN ns)] S) := fun S => by
      have v1 := vK (i := 7) (d := encR r) (ρ := [d0, d1, some (.obj i), d3, d4, some (.dat (.int few)), d6, some (.dat (encR r)), some (.dat (encN ns))]) (S := S) rfl nR
      have v2 := vK (i := 5) (d := .int few) (ρ := [d0, d1, some (.obj i), d3, d4, some (.dat (.int few)), d6, some (.dat (encR r)), some (.dat (encN ns))]) (S := S) rfl rfl
      have v3 := vK (i := 8) (d := encN ns) (ρ := [d0, d1, some (.obj i), d3, d4, some (.dat (.int few)), d6, some (.dat (encR r)), some (.dat (encN ns))]) (S := S) rfl nN
      simp only [iCons, iBind, v1, v2, v3, iNil, iRA]
    have eb : innerB [d0, d1, some (.obj i), d3, d4, some (.dat (.int few)), d6, some (.dat (encR r)), x8] S = some (.nx [d0, d1, some (.obj i), d3, d4, some (.dat (.int few)), d6, some (.dat (encR r)), some (.dat (encN ns))] S3) := by
      unfold innerB
      rw [bSeq_nx (asgV c1)]
      simp only [List.set_cons_succ, List.set_cons_zero]
      have w := runW_w r few ns (emptyL r)
      rw [bSeq_nx (ρ' := [d0, d1, some (.obj i), d3, d4, some (.dat (.int few)), d6, some (.dat (encR r)), some (.dat (encN ns))]) (S' := S3) (by
        rw [ifF (S1 := S3) (cmpS ((iCallA (a3 _)).trans e2) ((iCallA (a3 _)).trans e3) ((dNe_encWs w w).trans (by simp)))]
        rfl)]
      rfl
    rw [List.map_cons]
    unfold bForL
    simp only [gIN, List.set_cons_succ, List.set_cons_zero]
    rw [eb]
    exact e4
noncomputable abbrev lawB (fa : Addr) : IB := (bSeq (bAsg (iCall FI__law_pot (iCons (iCall FI__law_folded (iCons (iVar 0) (iCons (iP (eC (.int 2))) iNil))) (iCons (iP (eVar 1)) iNil))) (gIN 2)) (bSeq (bAsg (iCall FI__law_small_rule (iCons (iVar 2) iNil)) (gIN 3)) (bSeq (bAsg (iIx (iLst (iCons (iP (eVar 3)) (iCons (iCall FI__law_small_rule (iCons (iVar 2) iNil)) iNil))) (iBin fMod (iBin fFdiv (iCall FI__law_take (iCons (iVar 2) (iCons (iP (eC (.int 5))) iNil))) (iP (eC (.int 2)))) (iP (eC (.int 2))))) (gIN 4)) (bSeq (bPar 5 6 (iBin fAdd (iP (eC (.int 1))) (iCall FI__law_take (iCons (iVar 2) (iCons (iP (eC (.int 3))) iNil)))) (iBin fAdd (iP (eC (.int 1))) (iCall FI__law_take (iCons (iVar 2) (iCons (iP (eC (.int 2))) iNil))))) (bSeq (bFor (iTupI (iP (eTup (aCons (eVar 3) (aCons (eVar 4) aNil))))) (gIN 7) innerB) (bSeq (bIf (iNot (iValT (iCall (FI__law_pair_right fa) (iCons (iVar 2) (iCons (iP (eVar 3)) (iCons (iP (eVar 4)) (iCons (iP (eVar 5)) (iCons (iP (eVar 6)) iNil)))))))) (bSeq (bRet (iP (eC (.bool false)))) bNil) bNil) bNil))))))
theorem law_turn {fa : Addr} {zs : List Int} (hz : zs.length ≤ 63) {S : HS} (h0 : S[0]? = some (.scr (zs.map zIV))) {k : Nat} (hk : k ≤ 1) (x2 x3 x4 x5 x6 x7 x8 : Option IV) :
    ∃ S' y2 y3 y4 y5 y6 y7 y8, lawB fa [some (.obj 0), some (.dat (.int k)), x2, x3, x4, x5, x6, x7, x8] S = some (.nx [some (.obj 0), some (.dat (.int k)), y2, y3, y4, y5, y6, y7, y8] S') ∧ S'[0]? = some (.scr (zs.map zIV)) := by
  have l0 := lt_of_get h0
  obtain ⟨ys, L, S1, e1, g1, k1⟩ := folded_ok hz h0
  obtain ⟨i, S2, e2, hi, p2, k2⟩ := pot_ok g1 hk
  obtain ⟨r1, S3, e3, m3, p3, k3⟩ := rule_ok p2 (by omega)
  obtain ⟨r2, S4, e4, m4, p4, k4⟩ := rule_ok p3 (by omega)
  have n1 := noList_encR r1
  have n2 := noList_encR r2
  obtain ⟨v, S5, e5, v5, p5, k5⟩ := take_ok (p4.app [.lst [.dat (encR r1), .dat (encR r2)]]) (by omega) (m := 5) (by omega) (by omega)
  have li := p4.lt
  have g5 : S5[S4.length]? = some (.lst [.dat (encR r1), .dat (encR r2)]) := by rw [k5.keep S4.length (by omega) (by simp)]; simp
  obtain ⟨r, hr, hre⟩ : ∃ r : Rl, r ∈ allR ∧ ([IV.dat (encR r1), .dat (encR r2)])[((v : Int) / 2 % 2).toNat]? = some (.dat (encR r)) := by
    have : (v : Int) / 2 % 2 = 0 ∨ (v : Int) / 2 % 2 = 1 := by omega
    rcases this with h | h
    · rw [h]; exact ⟨r1, m3, rfl⟩
    · rw [h]; exact ⟨r2, m4, rfl⟩
  have n3 := noList_encR r
  obtain ⟨a, S6, e6, a6, p6, k6⟩ := add_take p5 (by omega) (m := 3) (by omega) (by omega) (ρ := [some (.obj 0), some (.dat (.int k)), some (.obj i), some (.dat (encR r1)), some (.dat (encR r)), x5, x6, x7, x8]) (w := 2) rfl (mi := 3) rfl
  obtain ⟨b, S7, e7, b7, p7, k7⟩ := add_take p6 (by omega) (m := 2) (by omega) (by omega) (ρ := [some (.obj 0), some (.dat (.int k)), some (.obj i), some (.dat (encR r1)), some (.dat (encR r)), x5, x6, x7, x8]) (w := 2) rfl (mi := 2) rfl
  obtain ⟨S8, y7, y8, e8, p8, k8⟩ := inner_law (few := ((a + 1 : Nat) : Int)) (by omega) (by omega) (i := i) (d0 := some (.obj 0)) (d1 := some (.dat (.int k))) (d3 := some (.dat (encR r1))) (d4 := some (.dat (encR r))) (d6 := some (.dat (.int ((b + 1 : Nat) : Int)))) [r1, r] S7 _ x7 x8 (by intro q hq; simp only [List.mem_cons, List.not_mem_nil, or_false] at hq; rcases hq with rfl | rfl <;> assumption) p7 (by simp)
  obtain ⟨S9, e9, k9⟩ := pair_right_ok (fa := fa) m3 hr (few := ((a + 1 : Nat) : Int)) (by omega) (by omega) (M := b + 1) (by omega) (by omega) p8 (by simp)
  have K : Ke i S2 S9 := ((((((k3.trans k4).trans (Ke.app i S4 _)).trans k5).trans k6).trans k7).trans k8).trans k9
  have h02 : S2[0]? = some (.scr (zs.map zIV)) := by rw [k2.keep 0 (by have := k1.len; omega), k1.keep 0 l0]; exact h0
  refine ⟨S9, some (.obj i), some (.dat (encR r1)), some (.dat (encR r)), some (.dat (.int ((a + 1 : Nat) : Int))), some (.dat (.int ((b + 1 : Nat) : Int))), y7, y8, ?_, by rw [K.keep 0 (Ne.symm hi) (lt_of_get h02)]; exact h02⟩
  unfold lawB
  have c1 : iCall FI__law_folded (iCons (iVar 0) (iCons (iP (eC (.int 2))) iNil)) [some (.obj 0), some (.dat (.int k)), x2, x3, x4, x5, x6, x7, x8] S = some (.ok (.obj L) S1) := by
    rw [iCallA (S1 := S) (xs := [.obj 0, .dat (.int 2)]) rfl]
    exact e1
  have c2 : iCall FI__law_pot (iCons (iCall FI__law_folded (iCons (iVar 0) (iCons (iP (eC (.int 2))) iNil))) (iCons (iP (eVar 1)) iNil)) [some (.obj 0), some (.dat (.int k)), x2, x3, x4, x5, x6, x7, x8] S = some (.ok (.obj i) S2) := by
    have v1 := vK (i := 1) (d := .int k) (ρ := [some (.obj 0), some (.dat (.int k)), x2, x3, x4, x5, x6, x7, x8]) (S := S1) rfl rfl
    rw [iCallA (S1 := S1) (xs := [.obj L, .dat (.int k)]) (iConsS c1 (iConsS v1 rfl))]
    exact e2
  rw [bSeq_nx (asgV c2)]
  simp only [List.set_cons_succ, List.set_cons_zero]
  rw [bSeq_nx (asgV (x := .dat (encR r1)) (S1 := S3) (by
    rw [iCallA (S1 := S2) (xs := [.obj i]) rfl]
    exact e3))]
  simp only [List.set_cons_succ, List.set_cons_zero]
  rw [bSeq_nx (asgV (x := .dat (encR r)) (S1 := S5) (by
    have v3 := vK (i := 3) (d := encR r1) (ρ := [some (.obj 0), some (.dat (.int k)), some (.obj i), some (.dat (encR r1)), x4, x5, x6, x7, x8]) (S := S3) rfl n1
    have q4 : iCall FI__law_small_rule (iCons (iVar 2) iNil) [some (.obj 0), some (.dat (.int k)), some (.obj i), some (.dat (encR r1)), x4, x5, x6, x7, x8] S3 = some (.ok (.dat (encR r2)) S4) := by
      rw [iCallA (S1 := S3) (xs := [.obj i]) rfl]
      exact e4
    have q5 := (takeC (ρ := [some (.obj 0), some (.dat (.int k)), some (.obj i), some (.dat (encR r1)), x4, x5, x6, x7, x8]) (S := S4 ++ [.lst [.dat (encR r1), .dat (encR r2)]]) (i := i) (m := 5) (w := 2) rfl).trans e5
    have q6 := binS (Fo := fMod) (binS (Fo := fFdiv) q5 (cK (d := .int 2) rfl) (fFdiv_int (by decide) (by decide)) rfl) (cK (d := .int 2) rfl) (fMod_int (by decide)) rfl
    have q7 : iLst (iCons (iP (eVar 3)) (iCons (iCall FI__law_small_rule (iCons (iVar 2) iNil)) iNil)) [some (.obj 0), some (.dat (.int k)), some (.obj i), some (.dat (encR r1)), x4, x5, x6, x7, x8] S3 = some (.ok (.obj S4.length) (S4 ++ [.lst [.dat (encR r1), .dat (encR r2)]])) := by
      exact iLstS (iConsS v3 (iConsS q4 rfl))
    have z : 0 ≤ (v : Int) / 2 % 2 := by omega
    unfold iIx iTwo iBind
    rw [q7]
    simp only
    rw [q6]
    simp only [ixGo, if_pos z, g5, hre]))]
  simp only [List.set_cons_succ, List.set_cons_zero]
  rw [bSeq_nx (ρ' := [some (.obj 0), some (.dat (.int k)), some (.obj i), some (.dat (encR r1)), some (.dat (encR r)), some (.dat (.int ((a + 1 : Nat) : Int))), some (.dat (.int ((b + 1 : Nat) : Int))), x7, x8]) (S' := S7) (by
    unfold bPar
    rw [e6]
    simp only
    rw [e7]
    rfl)]
  rw [bSeq_nx (bFor_ok (xs := [r1, r].map fun r => IV.dat (encR r)) (S1 := S7) (by
    have nt : noList (.tuple [encR r1, encR r]) = true := by simp [n1, n3]
    have t : iP (eTup (aCons (eVar 3) (aCons (eVar 4) aNil))) [some (.obj 0), some (.dat (.int k)), some (.obj i), some (.dat (encR r1)), some (.dat (encR r)), some (.dat (.int ((a + 1 : Nat) : Int))), some (.dat (.int ((b + 1 : Nat) : Int))), x7, x8] S7 = some (.ok (.dat (.tuple [encR r1, encR r])) S7) := by
      show iRet (.tuple [encR r1, encR r]) S7 = _
      simp only [iRet, nt, if_true]
    unfold iTupI iBind
    rw [t]
    rfl) e8)]
  have c9 : iCall (FI__law_pair_right fa) (iCons (iVar 2) (iCons (iP (eVar 3)) (iCons (iP (eVar 4)) (iCons (iP (eVar 5)) (iCons (iP (eVar 6)) iNil))))) [some (.obj 0), some (.dat (.int k)), some (.obj i), some (.dat (encR r1)), some (.dat (encR r)), some (.dat (.int ((a + 1 : Nat) : Int))), some (.dat (.int ((b + 1 : Nat) : Int))), y7, y8] S8 = some (.ok (.dat (.bool true)) S9) := by
    rw [iCallA (S1 := S8) (xs := [.obj i, .dat (encR r1), .dat (encR r), .dat (.int ((a + 1 : Nat) : Int)), .dat (.int ((b + 1 : Nat) : Int))]) (by
      have q := argsT (ρ := [some (.obj 0), some (.dat (.int k)), some (.obj i), some (.dat (encR r1)), some (.dat (encR r)), some (.dat (.int ((a + 1 : Nat) : Int))), some (.dat (.int ((b + 1 : Nat) : Int))), y7, y8]) (S := S8) (i := 3) (j := 4) (k := 5) (l := 6) (a := encR r1) (b := encR r) (c := .int ((a + 1 : Nat) : Int)) (d := .int ((b + 1 : Nat) : Int)) rfl rfl rfl rfl n1 n3 rfl rfl
      have ih : ∀ (A : IX (List IV)) (ρ : IR) (x : IV) (xs : List IV), ρ[2]? = some (some x) → A ρ S8 = some (.ok xs S8) → iCons (iVar 2) A ρ S8 = some (.ok (x :: xs) S8) := fun A ρ x xs h1 h2 => by simp only [iCons, iBind, iVar, h1, h2, iRA]
      exact ih _ _ _ _ rfl q)]
    exact e9
  rw [bSeq_nx (ρ' := [some (.obj 0), some (.dat (.int k)), some (.obj i), some (.dat (encR r1)), some (.dat (encR r)), some (.dat (.int ((a + 1 : Nat) : Int))), some (.dat (.int ((b + 1 : Nat) : Int))), y7, y8]) (S' := S9) (by
    rw [ifF (S1 := S9) (by
      unfold iNot iValT iBind
      rw [c9]
      rfl)]
    rfl)]
  rfl
theorem law_ok {fa : Addr} {zs : List Int} (hz : zs.length ≤ 63) : ∃ S', FI_law fa [.obj 0] [.scr (zs.map zIV)] = some (.ok (.dat (.bool true)) S') := by
  have loop : ∀ (xs : List IV) (S : HS) (x1 x2 x3 x4 x5 x6 x7 x8 : Option IV), (∀ x ∈ xs, ∃ k : Nat, x = .dat (.int k) ∧ k ≤ 1) → S[0]? = some (.scr (zs.map zIV)) →
      ∃ (S' : HS) (ρ' : IR), bForL (gIN 1) (lawB fa) xs [some (.obj 0), x1, x2, x3, x4, x5, x6, x7, x8] S = some (.nx ρ' S') := by
    intro xs
    induction xs with
    | nil => intro S x1 x2 x3 x4 x5 x6 x7 x8 _ _; exact ⟨S, _, rfl⟩
    | cons x xs ih =>
      intro S x1 x2 x3 x4 x5 x6 x7 x8 hx h0
      obtain ⟨k, rfl, hk⟩ := hx x (by simp)
      obtain ⟨S1, y2, y3, y4, y5, y6, y7, y8, e, h1⟩ := law_turn (fa := fa) hz h0 hk x2 x3 x4 x5 x6 x7 x8
      obtain ⟨S', ρ', e'⟩ := ih S1 (some (.dat (.int k))) y2 y3 y4 y5 y6 y7 y8 (fun x h => hx x (by simp [h])) h1
      refine ⟨S', ρ', ?_⟩
      unfold bForL
      simp only [gIN, List.set_cons_succ, List.set_cons_zero]
      rw [e]
      exact e'
  obtain ⟨m, hm, m1⟩ : ∃ m : Int, (m = if (if (zs.length : Int) < 2 then (zs.length : Int) else 2) > 1 then (if (zs.length : Int) < 2 then (zs.length : Int) else 2) else 1) ∧ (m = 1 ∨ m = 2) := ⟨_, rfl, by split <;> split <;> omega⟩
  obtain ⟨S', ρ', e⟩ := loop (rangeI 0 m.toNat) [.scr (zs.map zIV)] none none none none none none none none (fun x hx => by
    obtain ⟨j, hj, rfl⟩ := List.mem_map.mp hx
    have := List.mem_range.mp hj
    exact ⟨j, by simp, by omega⟩) rfl
  refine ⟨S', ?_⟩
  unfold FI_law runI
  simp only [List.map_cons, List.map_nil, List.length_cons, List.length_nil, List.cons_append, List.nil_append, Nat.reduceAdd, Nat.reduceSub, List.replicate]
  rw [bSeq_nx (bFor_ok (xs := rangeI 0 m.toNat) (S1 := [.scr (zs.map zIV)]) (by
    have b : -(2 ^ 62) ≤ m ∧ m < 2 ^ 62 := by omega
    have c1 := cK (d := .int 1) rfl (ρ := [some (.obj 0), none, none, none, none, none, none, none, none]) (S := [.scr (zs.map zIV)])
    have c2 := cK (d := .int 2) rfl (ρ := [some (.obj 0), none, none, none, none, none, none, none, none]) (S := [.scr (zs.map zIV)])
    have l : iLen (iVar 0) [some (.obj 0), none, none, none, none, none, none, none, none] [.scr (zs.map zIV)] = some (.ok (.dat (.int zs.length)) [.scr (zs.map zIV)]) := by
      simp only [iLen, iBind, iVar, List.getElem?_cons_zero, sizeOf_, List.length_map]
    have q : iMin (iP (eC (.int 2))) (iLen (iVar 0)) [some (.obj 0), none, none, none, none, none, none, none, none] [.scr (zs.map zIV)] = some (.ok (.dat (.int (if (zs.length : Int) < 2 then (zs.length : Int) else 2))) [.scr (zs.map zIV)]) := by
      unfold iMin iTwo iBind
      rw [c2]
      simp only
      rw [l]
      rfl
    have q2 : iMax (iP (eC (.int 1))) (iMin (iP (eC (.int 2))) (iLen (iVar 0))) [some (.obj 0), none, none, none, none, none, none, none, none] [.scr (zs.map zIV)] = some (.ok (.dat (.int m)) [.scr (zs.map zIV)]) := by
      unfold iMax iTwo iBind
      rw [c1]
      simp only
      rw [q, hm]
      rfl
    unfold iRngI iBind
    rw [q2]
    simp only [if_pos b]) e)]
  rw [bSeq_rt (retS (cK (d := .bool true) rfl))]
end KW
/-! what the top has written (printed by genH.py) -/
namespace KW
open PySem PySem.Spec L2 PyProof.Rows
section
variable {K : PySem.W.Frag} {h : Heap} {mg : Str → Option Value}
theorem SaysK.d (c : SaysK faL fnL K) : He.SaysD faL fnL K := congrArg (fun z : AlK => z.1) c
theorem SaysK.x (c : SaysK faL fnL K) : extraB K = true := congrArg (fun z : AlK => z.2) c
theorem SaysK.nolist (c : SaysK faL fnL K) {a : Addr} {o : Obj} (e : K.lookup a = some o) : o.cls ≠ .type "list" := fun z => by
  have h1 := (He.ba c.x).2
  have h2 : ∀ l : List (Addr × Obj), (l.all fun q => !isLst q.2) = true → l.lookup a = some o → isLst o = false := by
    intro l
    induction l with
    | nil => intro _ e; cases e
    | cons p r ih =>
      intro h e
      obtain ⟨b, u⟩ := p
      rw [List.all_cons, Bool.and_eq_true] at h
      simp only [List.lookup] at e
      cases q : a == b with
      | true => rw [q] at e; cases e; simpa using h.1
      | false => rw [q] at e; exact ih h.2 e
  have h3 := h2 K h1 e
  unfold isLst at h3
  rw [z] at h3
  simp at h3
theorem txt_of (X : K.In h) (G : h.Ns mainGlobals mg) (s : SaysK faL fnL K) : Txt K mg := by
  have c := s.d
  exact ⟨by obtain ⟨fd, F⟩ := c.def_ 0 (d := hdD "is_whole" s_is_whole []) rfl; exact ⟨⟨_, fd, F, He.glo_ok X G (c.fact 0 (f := .glo "is_whole") rfl)⟩⟩,
    by obtain ⟨fd, F⟩ := c.def_ 1 (d := hdD "is_within" s_is_within []) rfl; exact ⟨⟨_, fd, F, He.glo_ok X G (c.fact 1 (f := .glo "is_within") rfl)⟩⟩,
    by obtain ⟨fd, F⟩ := c.def_ 2 (d := hdD "need_within" s_need_within []) rfl; exact ⟨⟨_, fd, F, He.glo_ok X G (c.fact 2 (f := .glo "need_within") rfl)⟩⟩,
    by obtain ⟨fd, F⟩ := c.def_ 3 (d := hdD "is_comer" s_is_comer []) rfl; exact ⟨⟨_, fd, F, He.glo_ok X G (c.fact 3 (f := .glo "is_comer") rfl)⟩⟩,
    by obtain ⟨fd, F⟩ := c.def_ 4 (d := hdD "come_right" s_come_right []) rfl; exact ⟨⟨_, fd, F, He.glo_ok X G (c.fact 4 (f := .glo "come_right") rfl)⟩⟩,
    by obtain ⟨fd, F⟩ := c.def_ 5 (d := hdD "need_many" s_need_many []) rfl; exact ⟨⟨_, fd, F, He.glo_ok X G (c.fact 5 (f := .glo "need_many") rfl)⟩⟩,
    by obtain ⟨fd, F⟩ := c.def_ 6 (d := hdD "are_comers" s_are_comers []) rfl; exact ⟨⟨_, fd, F, He.glo_ok X G (c.fact 6 (f := .glo "are_comers") rfl)⟩⟩,
    by obtain ⟨fd, F⟩ := c.def_ 7 (d := hdD "need_comers" s_need_comers []) rfl; exact ⟨⟨_, fd, F, He.glo_ok X G (c.fact 7 (f := .glo "need_comers") rfl)⟩⟩,
    by obtain ⟨fd, F⟩ := c.def_ 8 (d := hdD "root_of" s_root_of []) rfl; exact ⟨⟨_, fd, F, He.glo_ok X G (c.fact 8 (f := .glo "root_of") rfl)⟩⟩,
    by obtain ⟨fd, F⟩ := c.def_ 9 (d := hdD "gap_of" s_gap_of []) rfl; exact ⟨⟨_, fd, F, He.glo_ok X G (c.fact 9 (f := .glo "gap_of") rfl)⟩⟩,
    by obtain ⟨fd, F⟩ := c.def_ 10 (d := hdD "gap" s_gap []) rfl; exact ⟨⟨_, fd, F, He.glo_ok X G (c.fact 10 (f := .glo "gap") rfl)⟩⟩,
    by obtain ⟨fd, F⟩ := c.def_ 11 (d := hdD "is_late" s_is_late []) rfl; exact ⟨⟨_, fd, F, He.glo_ok X G (c.fact 11 (f := .glo "is_late") rfl)⟩⟩,
    by obtain ⟨fd, F⟩ := c.def_ 12 (d := hdD "need_late" s_need_late []) rfl; exact ⟨⟨_, fd, F, He.glo_ok X G (c.fact 12 (f := .glo "need_late") rfl)⟩⟩,
    by obtain ⟨fd, F⟩ := c.def_ 13 (d := hdD "is_late_memory" s_is_late_memory []) rfl; exact ⟨⟨_, fd, F, He.glo_ok X G (c.fact 13 (f := .glo "is_late_memory") rfl)⟩⟩,
    by obtain ⟨fd, F⟩ := c.def_ 14 (d := hdD "need_late_memory" s_need_late_memory []) rfl; exact ⟨⟨_, fd, F, He.glo_ok X G (c.fact 14 (f := .glo "need_late_memory") rfl)⟩⟩,
    by obtain ⟨fd, F⟩ := c.def_ 15 (d := hdD "late_first" s_late_first []) rfl; exact ⟨⟨_, fd, F, He.glo_ok X G (c.fact 15 (f := .glo "late_first") rfl)⟩⟩,
    by obtain ⟨fd, F⟩ := c.def_ 16 (d := hdD "late_looked" s_late_looked [("alone", .bl false)]) rfl; exact ⟨⟨_, fd, F, He.glo_ok X G (c.fact 16 (f := .glo "late_looked") rfl)⟩⟩,
    by obtain ⟨fd, F⟩ := c.def_ 17 (d := hdD "late_passed" s_late_passed []) rfl; exact ⟨⟨_, fd, F, He.glo_ok X G (c.fact 17 (f := .glo "late_passed") rfl)⟩⟩,
    by obtain ⟨fd, F⟩ := c.def_ 18 (d := hdD "is_share" s_is_share []) rfl; exact ⟨⟨_, fd, F, He.glo_ok X G (c.fact 18 (f := .glo "is_share") rfl)⟩⟩,
    by obtain ⟨fd, F⟩ := c.def_ 19 (d := hdD "need_share" s_need_share []) rfl; exact ⟨⟨_, fd, F, He.glo_ok X G (c.fact 19 (f := .glo "need_share") rfl)⟩⟩,
    by obtain ⟨fd, F⟩ := c.def_ 20 (d := hdD "is_share_memory" s_is_share_memory []) rfl; exact ⟨⟨_, fd, F, He.glo_ok X G (c.fact 20 (f := .glo "is_share_memory") rfl)⟩⟩,
    by obtain ⟨fd, F⟩ := c.def_ 21 (d := hdD "need_share_memory" s_need_share_memory []) rfl; exact ⟨⟨_, fd, F, He.glo_ok X G (c.fact 21 (f := .glo "need_share_memory") rfl)⟩⟩,
    by obtain ⟨fd, F⟩ := c.def_ 22 (d := hdD "share_first" s_share_first []) rfl; exact ⟨⟨_, fd, F, He.glo_ok X G (c.fact 22 (f := .glo "share_first") rfl)⟩⟩,
    by obtain ⟨fd, F⟩ := c.def_ 23 (d := hdD "share_renewed" s_share_renewed []) rfl; exact ⟨⟨_, fd, F, He.glo_ok X G (c.fact 23 (f := .glo "share_renewed") rfl)⟩⟩,
    by obtain ⟨fd, F⟩ := c.def_ 24 (d := hdD "share_come" s_share_come []) rfl; exact ⟨⟨_, fd, F, He.glo_ok X G (c.fact 24 (f := .glo "share_come") rfl)⟩⟩,
    by obtain ⟨fd, F⟩ := c.def_ 25 (d := hdD "share_passed" s_share_passed []) rfl; exact ⟨⟨_, fd, F, He.glo_ok X G (c.fact 25 (f := .glo "share_passed") rfl)⟩⟩,
    by obtain ⟨fd, F⟩ := c.def_ 26 (d := hdD "is_between" s_is_between []) rfl; exact ⟨⟨_, fd, F, He.glo_ok X G (c.fact 26 (f := .glo "is_between") rfl)⟩⟩,
    by obtain ⟨fd, F⟩ := c.def_ 27 (d := hdD "is_none" s_is_none []) rfl; exact ⟨⟨_, fd, F, He.glo_ok X G (c.fact 27 (f := .glo "is_none") rfl)⟩⟩,
    by obtain ⟨fd, F⟩ := c.def_ 28 (d := hdD "is_rule" s_is_rule []) rfl; exact ⟨⟨_, fd, F, He.glo_ok X G (c.fact 28 (f := .glo "is_rule") rfl)⟩⟩,
    by obtain ⟨fd, F⟩ := c.def_ 29 (d := hdD "need_rule" s_need_rule []) rfl; exact ⟨⟨_, fd, F, He.glo_ok X G (c.fact 29 (f := .glo "need_rule") rfl)⟩⟩,
    by obtain ⟨fd, F⟩ := c.def_ 30 (d := hdD "is_memory_of" s_is_memory_of []) rfl; exact ⟨⟨_, fd, F, He.glo_ok X G (c.fact 30 (f := .glo "is_memory_of") rfl)⟩⟩,
    by obtain ⟨fd, F⟩ := c.def_ 31 (d := hdD "is_wait" s_is_wait []) rfl; exact ⟨⟨_, fd, F, He.glo_ok X G (c.fact 31 (f := .glo "is_wait") rfl)⟩⟩,
    by obtain ⟨fd, F⟩ := c.def_ 32 (d := hdD "first_memory" s_first_memory []) rfl; exact ⟨⟨_, fd, F, He.glo_ok X G (c.fact 32 (f := .glo "first_memory") rfl)⟩⟩,
    by obtain ⟨fd, F⟩ := c.def_ 33 (d := hdD "looked_by" s_looked_by []) rfl; exact ⟨⟨_, fd, F, He.glo_ok X G (c.fact 33 (f := .glo "looked_by") rfl)⟩⟩,
    by obtain ⟨fd, F⟩ := c.def_ 34 (d := hdD "come_by" s_come_by []) rfl; exact ⟨⟨_, fd, F, He.glo_ok X G (c.fact 34 (f := .glo "come_by") rfl)⟩⟩,
    by obtain ⟨fd, F⟩ := c.def_ 35 (d := hdD "renewed_by" s_renewed_by []) rfl; exact ⟨⟨_, fd, F, He.glo_ok X G (c.fact 35 (f := .glo "renewed_by") rfl)⟩⟩,
    by obtain ⟨fd, F⟩ := c.def_ 36 (d := hdD "passed_by" s_passed_by []) rfl; exact ⟨⟨_, fd, F, He.glo_ok X G (c.fact 36 (f := .glo "passed_by") rfl)⟩⟩,
    by obtain ⟨fd, F⟩ := c.def_ 37 (d := hdD "is_stream" s_is_stream []) rfl; exact ⟨⟨_, fd, F, He.glo_ok X G (c.fact 37 (f := .glo "is_stream") rfl)⟩⟩,
    by obtain ⟨fd, F⟩ := c.def_ 38 (d := hdD "need_stream" s_need_stream []) rfl; exact ⟨⟨_, fd, F, He.glo_ok X G (c.fact 38 (f := .glo "need_stream") rfl)⟩⟩,
    by obtain ⟨fd, F⟩ := c.def_ 39 (d := hdD "is_size" s_is_size []) rfl; exact ⟨⟨_, fd, F, He.glo_ok X G (c.fact 39 (f := .glo "is_size") rfl)⟩⟩,
    by obtain ⟨fd, F⟩ := c.def_ 40 (d := hdD "is_piece" s_is_piece []) rfl; exact ⟨⟨_, fd, F, He.glo_ok X G (c.fact 40 (f := .glo "is_piece") rfl)⟩⟩,
    by obtain ⟨fd, F⟩ := c.def_ 41 (d := hdD "are_pieces" s_are_pieces []) rfl; exact ⟨⟨_, fd, F, He.glo_ok X G (c.fact 41 (f := .glo "are_pieces") rfl)⟩⟩,
    by obtain ⟨fd, F⟩ := c.def_ 42 (d := hdD "most_credit" s_most_credit []) rfl; exact ⟨⟨_, fd, F, He.glo_ok X G (c.fact 42 (f := .glo "most_credit") rfl)⟩⟩,
    by obtain ⟨fd, F⟩ := c.def_ 43 (d := hdD "is_lane_of" s_is_lane_of []) rfl; exact ⟨⟨_, fd, F, He.glo_ok X G (c.fact 43 (f := .glo "is_lane_of") rfl)⟩⟩,
    by obtain ⟨fd, F⟩ := c.def_ 44 (d := hdD "empty_lane" s_empty_lane []) rfl; exact ⟨⟨_, fd, F, He.glo_ok X G (c.fact 44 (f := .glo "empty_lane") rfl)⟩⟩,
    by obtain ⟨fd, F⟩ := c.def_ 45 (d := hdD "put_by" s_put_by []) rfl; exact ⟨⟨_, fd, F, He.glo_ok X G (c.fact 45 (f := .glo "put_by") rfl)⟩⟩,
    by obtain ⟨fd, F⟩ := c.def_ 46 (d := hdD "head_by" s_head_by []) rfl; exact ⟨⟨_, fd, F, He.glo_ok X G (c.fact 46 (f := .glo "head_by") rfl)⟩⟩,
    by obtain ⟨fd, F⟩ := c.def_ 47 (d := hdD "head_wait" s_head_wait []) rfl; exact ⟨⟨_, fd, F, He.glo_ok X G (c.fact 47 (f := .glo "head_wait") rfl)⟩⟩,
    by obtain ⟨fd, F⟩ := c.def_ 48 (d := hdD "lane_renewed_by" s_lane_renewed_by []) rfl; exact ⟨⟨_, fd, F, He.glo_ok X G (c.fact 48 (f := .glo "lane_renewed_by") rfl)⟩⟩,
    by obtain ⟨fd, F⟩ := c.def_ 49 (d := hdD "lane_passed_by" s_lane_passed_by []) rfl; exact ⟨⟨_, fd, F, He.glo_ok X G (c.fact 49 (f := .glo "lane_passed_by") rfl)⟩⟩,
    by obtain ⟨fd, F⟩ := c.def_ 50 (d := hdD "need_small" s_need_small []) rfl; exact ⟨⟨_, fd, F, He.glo_ok X G (c.fact 50 (f := .glo "need_small") rfl)⟩⟩,
    by obtain ⟨fd, F⟩ := c.def_ 51 (d := hdD "need_most" s_need_most []) rfl; exact ⟨⟨_, fd, F, He.glo_ok X G (c.fact 51 (f := .glo "need_most") rfl)⟩⟩,
    by obtain ⟨fd, F⟩ := c.def_ 52 (d := hdD "small_stream" s_small_stream []) rfl; exact ⟨⟨_, fd, F, He.glo_ok X G (c.fact 52 (f := .glo "small_stream") rfl)⟩⟩,
    by obtain ⟨fd, F⟩ := c.def_ 53 (d := hdD "is_small_run" s_is_small_run []) rfl; exact ⟨⟨_, fd, F, He.glo_ok X G (c.fact 53 (f := .glo "is_small_run") rfl)⟩⟩,
    by obtain ⟨fd, F⟩ := c.def_ 54 (d := hdD "done_by" s_done_by []) rfl; exact ⟨⟨_, fd, F, He.glo_ok X G (c.fact 54 (f := .glo "done_by") rfl)⟩⟩,
    by obtain ⟨fd, F⟩ := c.def_ 55 (d := hdD "small_words" s_small_words []) rfl; exact ⟨⟨_, fd, F, He.glo_ok X G (c.fact 55 (f := .glo "small_words") rfl)⟩⟩,
    by obtain ⟨fd, F⟩ := c.def_ 56 (d := hdD "unlike_words" s_unlike_words []) rfl; exact ⟨⟨_, fd, F, He.glo_ok X G (c.fact 56 (f := .glo "unlike_words") rfl)⟩⟩,
    by obtain ⟨fd, F⟩ := c.def_ 57 (d := hdD "need_rules" s_need_rules []) rfl; exact ⟨⟨_, fd, F, He.glo_ok X G (c.fact 57 (f := .glo "need_rules") rfl)⟩⟩,
    by obtain ⟨fd, F⟩ := c.def_ 58 (d := hdD "joint_alike" s_joint_alike []) rfl; exact ⟨⟨_, fd, F, He.glo_ok X G (c.fact 58 (f := .glo "joint_alike") rfl)⟩⟩,
    by obtain ⟨fd, F⟩ := c.def_ 59 (d := hdD "alike" s_alike [("most", .int 2)]) rfl; exact ⟨⟨_, fd, F, He.glo_ok X G (c.fact 59 (f := .glo "alike") rfl)⟩⟩,
    by obtain ⟨fd, F⟩ := c.def_ 60 (d := hdD "are_streams" s_are_streams []) rfl; exact ⟨⟨_, fd, F, He.glo_ok X G (c.fact 60 (f := .glo "are_streams") rfl)⟩⟩,
    by obtain ⟨fd, F⟩ := c.def_ 61 (d := hdD "need_streams" s_need_streams []) rfl; exact ⟨⟨_, fd, F, He.glo_ok X G (c.fact 61 (f := .glo "need_streams") rfl)⟩⟩,
    by obtain ⟨fd, F⟩ := c.def_ 62 (d := hdD "need_rate" s_need_rate []) rfl; exact ⟨⟨_, fd, F, He.glo_ok X G (c.fact 62 (f := .glo "need_rate") rfl)⟩⟩,
    by obtain ⟨fd, F⟩ := c.def_ 63 (d := hdD "are_lanes" s_are_lanes []) rfl; exact ⟨⟨_, fd, F, He.glo_ok X G (c.fact 63 (f := .glo "are_lanes") rfl)⟩⟩,
    by obtain ⟨fd, F⟩ := c.def_ 64 (d := hdD "is_ring" s_is_ring []) rfl; exact ⟨⟨_, fd, F, He.glo_ok X G (c.fact 64 (f := .glo "is_ring") rfl)⟩⟩,
    by obtain ⟨fd, F⟩ := c.def_ 65 (d := hdD "are_credits" s_are_credits []) rfl; exact ⟨⟨_, fd, F, He.glo_ok X G (c.fact 65 (f := .glo "are_credits") rfl)⟩⟩,
    by obtain ⟨fd, F⟩ := c.def_ 66 (d := hdD "is_standing_of" s_is_standing_of []) rfl; exact ⟨⟨_, fd, F, He.glo_ok X G (c.fact 66 (f := .glo "is_standing_of") rfl)⟩⟩,
    by obtain ⟨fd, F⟩ := c.def_ 67 (d := hdD "need_standing" s_need_standing []) rfl; exact ⟨⟨_, fd, F, He.glo_ok X G (c.fact 67 (f := .glo "need_standing") rfl)⟩⟩,
    by obtain ⟨fd, F⟩ := c.def_ 68 (d := hdD "first_standing" s_first_standing []) rfl; exact ⟨⟨_, fd, F, He.glo_ok X G (c.fact 68 (f := .glo "first_standing") rfl)⟩⟩,
    by obtain ⟨fd, F⟩ := c.def_ 69 (d := hdD "served_by" s_served_by []) rfl; exact ⟨⟨_, fd, F, He.glo_ok X G (c.fact 69 (f := .glo "served_by") rfl)⟩⟩,
    by obtain ⟨fd, F⟩ := c.def_ 70 (d := hdD "all_renewed" s_all_renewed []) rfl; exact ⟨⟨_, fd, F, He.glo_ok X G (c.fact 70 (f := .glo "all_renewed") rfl)⟩⟩,
    by obtain ⟨fd, F⟩ := c.def_ 71 (d := hdD "all_passed" s_all_passed []) rfl; exact ⟨⟨_, fd, F, He.glo_ok X G (c.fact 71 (f := .glo "all_passed") rfl)⟩⟩,
    by obtain ⟨fd, F⟩ := c.def_ 72 (d := hdD "all_come" s_all_come []) rfl; exact ⟨⟨_, fd, F, He.glo_ok X G (c.fact 72 (f := .glo "all_come") rfl)⟩⟩,
    by obtain ⟨fd, F⟩ := c.def_ 73 (d := hdD "stepped_by" s_stepped_by []) rfl; exact ⟨⟨_, fd, F, He.glo_ok X G (c.fact 73 (f := .glo "stepped_by") rfl)⟩⟩,
    by obtain ⟨fd, F⟩ := c.def_ 74 (d := hdD "_law_pot" s__law_pot []) rfl; exact ⟨⟨_, fd, F, He.glo_ok X G (c.fact 74 (f := .glo "_law_pot") rfl)⟩⟩,
    by obtain ⟨fd, F⟩ := c.def_ 75 (d := hdD "_law_take" s__law_take []) rfl; exact ⟨⟨_, fd, F, He.glo_ok X G (c.fact 75 (f := .glo "_law_take") rfl)⟩⟩,
    by obtain ⟨fd, F⟩ := c.def_ 76 (d := hdD "_law_folded" s__law_folded []) rfl; exact ⟨⟨_, fd, F, He.glo_ok X G (c.fact 76 (f := .glo "_law_folded") rfl)⟩⟩,
    by obtain ⟨fd, F⟩ := c.def_ 77 (d := hdD "_law_small_rule" s__law_small_rule []) rfl; exact ⟨⟨_, fd, F, He.glo_ok X G (c.fact 77 (f := .glo "_law_small_rule") rfl)⟩⟩,
    by obtain ⟨fd, F⟩ := c.def_ 78 (d := hdD "_law_counts" s__law_counts []) rfl; exact ⟨⟨_, fd, F, He.glo_ok X G (c.fact 78 (f := .glo "_law_counts") rfl)⟩⟩,
    by obtain ⟨fd, F⟩ := c.def_ 79 (d := hdD "_law_words" s__law_words []) rfl; exact ⟨⟨_, fd, F, He.glo_ok X G (c.fact 79 (f := .glo "_law_words") rfl)⟩⟩,
    by obtain ⟨fd, F⟩ := c.def_ 80 (d := hdD "_law_alike_told" s__law_alike_told []) rfl; exact ⟨⟨_, fd, F, He.glo_ok X G (c.fact 80 (f := .glo "_law_alike_told") rfl)⟩⟩,
    by obtain ⟨fd, F⟩ := c.def_ 81 (d := hdD "_law_run_right" s__law_run_right []) rfl; exact ⟨⟨_, fd, F, He.glo_ok X G (c.fact 81 (f := .glo "_law_run_right") rfl)⟩⟩,
    by obtain ⟨fd, F⟩ := c.def_ 82 (d := hdD "_law_pair_right" s__law_pair_right []) rfl; exact ⟨⟨_, fd, F, He.glo_ok X G (c.fact 82 (f := .glo "_law_pair_right") rfl)⟩⟩,
    by obtain ⟨fd, F⟩ := c.def_ 83 (d := hdD "law" s_law []) rfl; exact ⟨⟨_, fd, F, He.glo_ok X G (c.fact 83 (f := .glo "law") rfl)⟩⟩,
    by obtain ⟨t, e⟩ := He.int_ok X G (c.fact 84 (f := .int "MOST_SIZE" 9) rfl); exact ⟨⟨_, .int 9, e, ⟨t, rfl⟩, fun _ => .int _⟩⟩,
    by obtain ⟨t, e⟩ := He.int_ok X G (c.fact 85 (f := .int "MOST_STREAMS_comers" 8) rfl); exact ⟨⟨_, .int 8, e, ⟨t, rfl⟩, fun _ => .int _⟩⟩,
    by obtain ⟨t, e⟩ := He.int_ok X G (c.fact 86 (f := .int "MOST_COMERS" 64) rfl); exact ⟨⟨_, .int 64, e, ⟨t, rfl⟩, fun _ => .int _⟩⟩,
    by obtain ⟨t, e⟩ := He.int_ok X G (c.fact 87 (f := .int "MOST_TICKS" 400) rfl); exact ⟨⟨_, .int 400, e, ⟨t, rfl⟩, fun _ => .int _⟩⟩,
    by obtain ⟨t, e⟩ := He.int_ok X G (c.fact 88 (f := .int "MOST_SPAN" 99) rfl); exact ⟨⟨_, .int 99, e, ⟨t, rfl⟩, fun _ => .int _⟩⟩,
    by obtain ⟨t, e⟩ := He.str_ok X G (c.fact 89 (f := .str "LATE" "late") rfl); exact ⟨⟨_, .str "late", e, ⟨t, rfl⟩, fun _ => .str _⟩⟩,
    by obtain ⟨t, e⟩ := He.int_ok X G (c.fact 90 (f := .int "MOST_late" 99) rfl); exact ⟨⟨_, .int 99, e, ⟨t, rfl⟩, fun _ => .int _⟩⟩,
    by obtain ⟨t, e⟩ := He.int_ok X G (c.fact 91 (f := .int "MOST_WAIT_late" 1000000) rfl); exact ⟨⟨_, .int 1000000, e, ⟨t, rfl⟩, fun _ => .int _⟩⟩,
    by obtain ⟨t, e⟩ := He.str_ok X G (c.fact 92 (f := .str "SHARE" "share") rfl); exact ⟨⟨_, .str "share", e, ⟨t, rfl⟩, fun _ => .str _⟩⟩,
    by obtain ⟨t, e⟩ := He.int_ok X G (c.fact 93 (f := .int "WHOLE" 1000) rfl); exact ⟨⟨_, .int 1000, e, ⟨t, rfl⟩, fun _ => .int _⟩⟩,
    by obtain ⟨t, e⟩ := He.int_ok X G (c.fact 94 (f := .int "MOST_STEP" 999) rfl); exact ⟨⟨_, .int 999, e, ⟨t, rfl⟩, fun _ => .int _⟩⟩,
    by obtain ⟨t, e⟩ := He.int_ok X G (c.fact 95 (f := .int "MOST_OLD" 99) rfl); exact ⟨⟨_, .int 99, e, ⟨t, rfl⟩, fun _ => .int _⟩⟩,
    by obtain ⟨t, e⟩ := He.int_ok X G (c.fact 96 (f := .int "MOST_WAIT_rules" 1000000) rfl); exact ⟨⟨_, .int 1000000, e, ⟨t, rfl⟩, fun _ => .int _⟩⟩,
    ⟨⟨_, .ref _, He.glo_ok X G (c.fact 97 (f := .glo "NONE") rfl), rfl, fun H => .tup (He.tupB_ok (He.ba s.x).1 H) (.cons (.str _) .nil)⟩⟩,
    by obtain ⟨t, e⟩ := He.int_ok X G (c.fact 98 (f := .int "MOST_WEIGHT" 9) rfl); exact ⟨⟨_, .int 9, e, ⟨t, rfl⟩, fun _ => .int _⟩⟩,
    by obtain ⟨t, e⟩ := He.int_ok X G (c.fact 99 (f := .int "MOST_PIECES" 99) rfl); exact ⟨⟨_, .int 99, e, ⟨t, rfl⟩, fun _ => .int _⟩⟩,
    by obtain ⟨t, e⟩ := He.int_ok X G (c.fact 100 (f := .int "LEAST_SIZE" 1) rfl); exact ⟨⟨_, .int 1, e, ⟨t, rfl⟩, fun _ => .int _⟩⟩,
    by obtain ⟨t, e⟩ := He.int_ok X G (c.fact 101 (f := .int "LARGEST" 9) rfl); exact ⟨⟨_, .int 9, e, ⟨t, rfl⟩, fun _ => .int _⟩⟩,
    by obtain ⟨t, e⟩ := He.int_ok X G (c.fact 102 (f := .int "TURN" 9) rfl); exact ⟨⟨_, .int 9, e, ⟨t, rfl⟩, fun _ => .int _⟩⟩,
    by obtain ⟨t, e⟩ := He.int_ok X G (c.fact 103 (f := .int "KEPT" 8) rfl); exact ⟨⟨_, .int 8, e, ⟨t, rfl⟩, fun _ => .int _⟩⟩,
    by obtain ⟨t, e⟩ := He.int_ok X G (c.fact 104 (f := .int "MOST_runs" 2) rfl); exact ⟨⟨_, .int 2, e, ⟨t, rfl⟩, fun _ => .int _⟩⟩,
    by obtain ⟨t, e⟩ := He.int_ok X G (c.fact 105 (f := .int "MOST_EACH" 3) rfl); exact ⟨⟨_, .int 3, e, ⟨t, rfl⟩, fun _ => .int _⟩⟩,
    by obtain ⟨t, e⟩ := He.int_ok X G (c.fact 106 (f := .int "MOST_LIMIT" 6) rfl); exact ⟨⟨_, .int 6, e, ⟨t, rfl⟩, fun _ => .int _⟩⟩,
    by obtain ⟨t, e⟩ := He.int_ok X G (c.fact 107 (f := .int "MOST_LANES" 1500) rfl); exact ⟨⟨_, .int 1500, e, ⟨t, rfl⟩, fun _ => .int _⟩⟩,
    by obtain ⟨t, e⟩ := He.str_ok X G (c.fact 108 (f := .str "DROPPED" "drop") rfl); exact ⟨⟨_, .str "drop", e, ⟨t, rfl⟩, fun _ => .str _⟩⟩,
    by obtain ⟨t, e⟩ := He.int_ok X G (c.fact 109 (f := .int "RATE" 9) rfl); exact ⟨⟨_, .int 9, e, ⟨t, rfl⟩, fun _ => .int _⟩⟩,
    by obtain ⟨t, e⟩ := He.int_ok X G (c.fact 110 (f := .int "MOST_STREAMS_turns" 8) rfl); exact ⟨⟨_, .int 8, e, ⟨t, rfl⟩, fun _ => .int _⟩⟩,
    by obtain ⟨t, e⟩ := He.int_ok X G (c.fact 111 (f := .int "MOST_RATE" 99) rfl); exact ⟨⟨_, .int 99, e, ⟨t, rfl⟩, fun _ => .int _⟩⟩⟩
theorem blt_of (X : K.In h) (G : h.Ns mainGlobals mg) (s : SaysK faL fnL K) : Blt mg := by
  have c := s.d
  exact ⟨He.free_ok X G (c.fact 112 (f := .free "isinstance") rfl),
    He.free_ok X G (c.fact 113 (f := .free "len") rfl),
    He.free_ok X G (c.fact 114 (f := .free "all") rfl),
    He.free_ok X G (c.fact 115 (f := .free "zip") rfl),
    He.free_ok X G (c.fact 116 (f := .free "tuple") rfl),
    He.free_ok X G (c.fact 117 (f := .free "list") rfl),
    He.free_ok X G (c.fact 118 (f := .free "int") rfl),
    He.free_ok X G (c.fact 119 (f := .free "bool") rfl),
    He.free_ok X G (c.fact 120 (f := .free "str") rfl),
    He.free_ok X G (c.fact 121 (f := .free "min") rfl),
    He.free_ok X G (c.fact 122 (f := .free "max") rfl),
    He.free_ok X G (c.fact 123 (f := .free "divmod") rfl),
    He.free_ok X G (c.fact 124 (f := .free "enumerate") rfl),
    He.free_ok X G (c.fact 125 (f := .free "range") rfl),
    He.free_ok X G (c.fact 126 (f := .free "sorted") rfl),
    He.free_ok X G (c.fact 127 (f := .free "abs") rfl)⟩
theorem txi_of (X : K.In h) (G : h.Ns mainGlobals mg) (s : SaysK faL fnL K) : Txi K mg (He.ga K "TooWide") := by
  have c := s.d
  exact ⟨⟨⟨_, He.glo_ok X G (c.fact 128 (f := .glo "Done") rfl), He.cls_ok (c.fact 129 (f := .cls "Done") rfl), fun f hf => by simp only [List.mem_cons, List.not_mem_nil, or_false] at hf; rcases hf with rfl | rfl | rfl <;> first | exact He.noat_ok (c.fact 130 (f := .noat "Done" "lane") rfl) | exact He.noat_ok (c.fact 131 (f := .noat "Done" "words") rfl) | exact He.noat_ok (c.fact 132 (f := .noat "Done" "sent_wait") rfl)⟩⟩,
    by obtain ⟨fd, F⟩ := c.def_ 84 (d := hdM "Done" "__init__" "Done.__init__" s_Done___init__ [] []) rfl; exact ⟨⟨_, _, fd, He.glo_ok X G (c.fact 128 (f := .glo "Done") rfl), He.mkr_ok (c.fact 133 (f := .mkr "Done") rfl), F⟩⟩,
    ⟨⟨_, He.glo_ok X G (c.fact 134 (f := .glo "Found") rfl), He.cls_ok (c.fact 135 (f := .cls "Found") rfl), fun f hf => by simp only [List.mem_cons, List.not_mem_nil, or_false] at hf; rcases hf with rfl | rfl | rfl <;> first | exact He.noat_ok (c.fact 136 (f := .noat "Found" "things") rfl) | exact He.noat_ok (c.fact 137 (f := .noat "Found" "numbers") rfl) | exact He.noat_ok (c.fact 138 (f := .noat "Found" "steps") rfl)⟩⟩,
    by obtain ⟨fd, F⟩ := c.def_ 85 (d := hdM "Found" "__init__" "Found.__init__" s_Found___init__ [] []) rfl; exact ⟨⟨_, _, fd, He.glo_ok X G (c.fact 134 (f := .glo "Found") rfl), He.mkr_ok (c.fact 139 (f := .mkr "Found") rfl), F⟩⟩,
    by obtain ⟨fd, F⟩ := c.def_ 86 (d := hdM "Found" "put" "Found.put" s_Found_put [] []) rfl; exact ⟨⟨_, _, fd, He.glo_ok X G (c.fact 134 (f := .glo "Found") rfl), He.cls_ok (c.fact 135 (f := .cls "Found") rfl), He.meth_ok (c.fact 140 (f := .meth "Found" "put") rfl), F⟩⟩,
    by obtain ⟨fd, F⟩ := c.def_ 87 (d := hdM "Found" "run_to" "Found.run_to" s_Found_run_to [] []) rfl; exact ⟨⟨_, _, fd, He.glo_ok X G (c.fact 134 (f := .glo "Found") rfl), He.cls_ok (c.fact 135 (f := .cls "Found") rfl), He.meth_ok (c.fact 141 (f := .meth "Found" "run_to") rfl), F⟩⟩,
    ⟨⟨_, He.glo_ok X G (c.fact 142 (f := .glo "Joint") rfl), He.cls_ok (c.fact 143 (f := .cls "Joint") rfl), fun f hf => by simp only [List.mem_cons, List.not_mem_nil, or_false] at hf; rcases hf with rfl | rfl | rfl | rfl <;> first | exact He.noat_ok (c.fact 144 (f := .noat "Joint" "rules") rfl) | exact He.noat_ok (c.fact 145 (f := .noat "Joint" "limit") rfl) | exact He.noat_ok (c.fact 146 (f := .noat "Joint" "streams") rfl) | exact He.noat_ok (c.fact 147 (f := .noat "Joint" "shows") rfl)⟩⟩,
    by obtain ⟨fd, F⟩ := c.def_ 88 (d := hdM "Joint" "__init__" "Joint.__init__" s_Joint___init__ [] []) rfl; exact ⟨⟨_, _, fd, He.glo_ok X G (c.fact 142 (f := .glo "Joint") rfl), He.mkr_ok (c.fact 148 (f := .mkr "Joint") rfl), F⟩⟩,
    by obtain ⟨fd, F⟩ := c.def_ 89 (d := hdM "Joint" "first" "Joint.first" s_Joint_first [] []) rfl; exact ⟨⟨_, _, fd, He.glo_ok X G (c.fact 142 (f := .glo "Joint") rfl), He.cls_ok (c.fact 143 (f := .cls "Joint") rfl), He.meth_ok (c.fact 149 (f := .meth "Joint" "first") rfl), F⟩⟩,
    by obtain ⟨fd, F⟩ := c.def_ 90 (d := hdM "Joint" "done" "Joint.done" s_Joint_done [] []) rfl; exact ⟨⟨_, _, fd, He.glo_ok X G (c.fact 142 (f := .glo "Joint") rfl), He.cls_ok (c.fact 143 (f := .cls "Joint") rfl), He.meth_ok (c.fact 150 (f := .meth "Joint" "done") rfl), F⟩⟩,
    by obtain ⟨fd, F⟩ := c.def_ 91 (d := hdM "Joint" "told" "Joint.told" s_Joint_told [] []) rfl; exact ⟨⟨_, _, fd, He.glo_ok X G (c.fact 142 (f := .glo "Joint") rfl), He.cls_ok (c.fact 143 (f := .cls "Joint") rfl), He.meth_ok (c.fact 151 (f := .meth "Joint" "told") rfl), F⟩⟩,
    ⟨⟨_, He.glo_ok X G (c.fact 152 (f := .glo "Serving") rfl), He.cls_ok (c.fact 153 (f := .cls "Serving") rfl), fun f hf => by simp only [List.mem_cons, List.not_mem_nil, or_false] at hf; rcases hf with rfl | rfl | rfl | rfl | rfl | rfl <;> first | exact He.noat_ok (c.fact 154 (f := .noat "Serving" "own_streams") rfl) | exact He.noat_ok (c.fact 155 (f := .noat "Serving" "own_budget") rfl) | exact He.noat_ok (c.fact 156 (f := .noat "Serving" "own_begun") rfl) | exact He.noat_ok (c.fact 157 (f := .noat "Serving" "own_ring") rfl) | exact He.noat_ok (c.fact 158 (f := .noat "Serving" "own_lanes") rfl) | exact He.noat_ok (c.fact 159 (f := .noat "Serving" "own_rows") rfl)⟩⟩,
    by obtain ⟨fd, F⟩ := c.def_ 92 (d := hdM "Serving" "__init__" "Serving.__init__" s_Serving___init__ [] []) rfl; exact ⟨⟨_, _, fd, He.glo_ok X G (c.fact 152 (f := .glo "Serving") rfl), He.mkr_ok (c.fact 160 (f := .mkr "Serving") rfl), F⟩⟩,
    by obtain ⟨fd, F⟩ := c.def_ 93 (d := hdM "Serving" "begin_turn" "Serving.begin_turn" s_Serving_begin_turn [] []) rfl; exact ⟨⟨_, _, fd, He.glo_ok X G (c.fact 152 (f := .glo "Serving") rfl), He.cls_ok (c.fact 153 (f := .cls "Serving") rfl), He.meth_ok (c.fact 161 (f := .meth "Serving" "begin_turn") rfl), F⟩⟩,
    by obtain ⟨fd, F⟩ := c.def_ 94 (d := hdM "Serving" "end_turn" "Serving.end_turn" s_Serving_end_turn [] []) rfl; exact ⟨⟨_, _, fd, He.glo_ok X G (c.fact 152 (f := .glo "Serving") rfl), He.cls_ok (c.fact 153 (f := .cls "Serving") rfl), He.meth_ok (c.fact 162 (f := .meth "Serving" "end_turn") rfl), F⟩⟩,
    by obtain ⟨fd, F⟩ := c.def_ 95 (d := hdM "Serving" "head_goes" "Serving.head_goes" s_Serving_head_goes [] []) rfl; exact ⟨⟨_, _, fd, He.glo_ok X G (c.fact 152 (f := .glo "Serving") rfl), He.cls_ok (c.fact 153 (f := .cls "Serving") rfl), He.meth_ok (c.fact 163 (f := .meth "Serving" "head_goes") rfl), F⟩⟩,
    by obtain ⟨fd, F⟩ := c.def_ 96 (d := hdM "Serving" "goes_on" "Serving.goes_on" s_Serving_goes_on [] []) rfl; exact ⟨⟨_, _, fd, He.glo_ok X G (c.fact 152 (f := .glo "Serving") rfl), He.cls_ok (c.fact 153 (f := .cls "Serving") rfl), He.meth_ok (c.fact 164 (f := .meth "Serving" "goes_on") rfl), F⟩⟩,
    by obtain ⟨fd, F⟩ := c.def_ 97 (d := hdM "Serving" "stands" "Serving.stands" s_Serving_stands [] []) rfl; exact ⟨⟨_, _, fd, He.glo_ok X G (c.fact 152 (f := .glo "Serving") rfl), He.cls_ok (c.fact 153 (f := .cls "Serving") rfl), He.meth_ok (c.fact 165 (f := .meth "Serving" "stands") rfl), F⟩⟩,
    ⟨⟨_, He.glo_ok X G (c.fact 166 (f := .glo "Line") rfl), He.cls_ok (c.fact 167 (f := .cls "Line") rfl), fun f hf => by simp only [List.mem_cons, List.not_mem_nil, or_false] at hf; rcases hf with rfl | rfl | rfl | rfl | rfl <;> first | exact He.noat_ok (c.fact 168 (f := .noat "Line" "line_streams") rfl) | exact He.noat_ok (c.fact 169 (f := .noat "Line" "line_rate") rfl) | exact He.noat_ok (c.fact 170 (f := .noat "Line" "line_standing") rfl) | exact He.noat_ok (c.fact 171 (f := .noat "Line" "line_past") rfl) | exact He.noat_ok (c.fact 172 (f := .noat "Line" "line_diary") rfl)⟩⟩,
    by obtain ⟨fd, F⟩ := c.def_ 98 (d := hdM "Line" "__init__" "Line.__init__" s_Line___init__ [] [("rate", .int 9), ("standing", .non)]) rfl; exact ⟨⟨_, _, fd, He.glo_ok X G (c.fact 166 (f := .glo "Line") rfl), He.mkr_ok (c.fact 173 (f := .mkr "Line") rfl), F⟩⟩,
    by obtain ⟨fd, F⟩ := c.def_ 99 (d := hdM "Line" "done" "Line.done" s_Line_done [] []) rfl; exact ⟨⟨_, _, fd, He.glo_ok X G (c.fact 166 (f := .glo "Line") rfl), He.cls_ok (c.fact 167 (f := .cls "Line") rfl), He.meth_ok (c.fact 174 (f := .meth "Line" "done") rfl), F⟩⟩,
    by obtain ⟨fd, F⟩ := c.def_ 100 (d := hdM "Line" "step" "Line.step" s_Line_step [.adr (He.dflAt ("Line", some "step") 0)] []) rfl; exact ⟨⟨_, _, fd, _, He.glo_ok X G (c.fact 166 (f := .glo "Line") rfl), He.cls_ok (c.fact 167 (f := .cls "Line") rfl), He.meth_ok (c.fact 175 (f := .meth "Line" "step") rfl), F⟩⟩,
    by obtain ⟨fd, F⟩ := c.def_ 101 (d := hdM "Line" "all_steps" "Line.all_steps" s_Line_all_steps [] []) rfl; exact ⟨⟨_, _, fd, He.glo_ok X G (c.fact 166 (f := .glo "Line") rfl), He.cls_ok (c.fact 167 (f := .cls "Line") rfl), He.meth_ok (c.fact 176 (f := .meth "Line" "all_steps") rfl), F⟩⟩,
    by obtain ⟨fd, F⟩ := c.def_ 102 (d := hdM "Line" "run" "Line.run" s_Line_run [] []) rfl; exact ⟨⟨_, _, fd, He.glo_ok X G (c.fact 166 (f := .glo "Line") rfl), He.cls_ok (c.fact 167 (f := .cls "Line") rfl), He.meth_ok (c.fact 177 (f := .meth "Line" "run") rfl), F⟩⟩,
    by obtain ⟨a1, a2, a3, a4⟩ := He.exc_ok (c.fact 179 (f := .exc "TooWide") rfl); exact ⟨He.glo_ok X G (c.fact 178 (f := .glo "TooWide") rfl), a1, a2, a3, a4, He.exm_ok (c.fact 180 (f := .exm "TooWide" "TooWide" true) rfl)⟩⟩
end
end KW
/-! HF: the law's def keeps its promise; the end -/
namespace KW
open PySem PySem.Spec L2 PyProof.Rows
theorem repAll_z {K : PySem.W.Frag} {H : Hp} {m : List Addr} : ∀ zs : List Int, RepAll K H m (zs.map zIV) (zs.map V.int)
  | [] => .nil
  | z :: zs => .cons (show RepIV K H m (zIV z) (.int z) from ⟨.int _, rfl⟩) (repAll_z zs)
theorem sp_law {Ω : Wd} {fa : Addr} (hK : ∀ {a : Addr} {o : Obj}, Ω.K.lookup a = some o → o.cls ≠ .type "list") (H : Hp) (a : Addr) (ns : List Int) (hl : ns.length ≤ 63) (hO : Only H) (hS : SqL Ω.K H a (ns.map V.int)) :
    spI Ω 1 (FI_law fa) [.ref a] H (fun v _ => v = .bl true) fun _ _ _ => False := by
  obtain ⟨S', e⟩ := law_ok (fa := fa) hl
  have hf : ∃ o, H a = some (.frz o (.lst (ns.map V.int))) := by
    rcases hS with (h | ⟨o, h⟩) | ⟨o, its, n, h1, h2, -⟩
    · rcases hO a with z | ⟨o, xs, z⟩
      · rw [h] at z; cases z
      · rw [h] at z; cases z
    · exact ⟨o, h⟩
    · exact absurd h2 (hK h1)
  obtain ⟨o, hf⟩ := hf
  refine ⟨[a], [.scr (ns.map zIV)], [.obj 0], .ok (.dat (.bool true)) S', rfl, ⟨rfl, by simp, fun i ob hi => ?_⟩, .cons ⟨a, rfl, rfl⟩ .nil, e, fun v H' m' s' r' rx => ?_⟩
  · cases i with
    | zero =>
      cases hi
      exact ⟨a, rfl, o, _, hf, repAll_z ns⟩
    | succ i => cases hi
  · obtain ⟨rx, -⟩ := rx
    cases rx
    rfl
theorem law_facts {P : Program} {w : World} {K : PySem.W.Frag} {h : Heap} {mg : Str → Option Value} {f : Addr} (X : K.In h) (G : h.Ns mainGlobals mg) (hf : mg ("law" : Str) = some (.ref f)) (s : SaysK faL fnL K) :
    ∃ (fd : FuncData) (sp : Sp), (∀ (s : Shared) (v : Value), BindsTo s fd ⟨[v], []⟩ [("_law_script", v)]) ∧
      (∀ (H : Hp) (a : Addr) (ns : List Int), ns.length ≤ 63 → Only H → SqL K H a (ns.map V.int) → sp [.ref a] H (fun v _ => v = .bl true) fun _ _ _ => False) ∧
      ∀ base : Heap, K.In base → base.Ns mainGlobals mg → FnOk P w K mg base (L2.CX P w) 21 f fd ["_law_script"] sp := by
  have T := txt_of X G s
  have B := blt_of X G s
  have Z := txi_of X G s
  obtain ⟨f', fd, F, hm⟩ := T.a_law.ex
  rw [hf] at hm
  cases hm
  obtain ⟨fa, fd2, F2, hm2⟩ := T.a_unlike_words.ex
  have b := FunD.bindsA (ps := ["_law_script"]) F fun _ _ _ _ _ _ us hl => match us, hl with | [_], _ => rfl
  refine ⟨fd, spI ⟨P, w, K, mg, He.ga K "TooWide"⟩ 1 (FI_law fa), fun s v => b s [v] rfl, fun H a ns h1 h2 h3 => sp_law (Ω := ⟨P, w, K, mg, He.ga K "TooWide"⟩) (fun e => s.nolist e) H a ns h1 h2 h3, fun base _ _ => ?_⟩
  obtain ⟨f3, fd3, ps3, k1, k2, k3, k4⟩ := (oi_unlike_words (P := P) (w := w) (base := base) T B Z).ex
  rw [hm2] at k2
  cases k2
  exact (oi_law (P := P) (w := w) (base := base) T B Z ⟨⟨hm2, rfl⟩, ⟨fd3, ps3, k1, k3, k4⟩⟩ F).fn
theorem cx_false (P : Program) (w : World) (H : Hp) (s : Shared) (e : Value) (s' : Shared) (h : L2.CX P w [] H s (fun _ _ _ => False) e s') : False := by
  obtain ⟨_, _, _, _, _, _, _, _, _, _, _, _, z⟩ := h
  exact z
/-- the law's call, behind the head -/
theorem walk_law : PySem.W.WalkO qR looseL (PySem.W.XL qR []) hkR.says RR.toRowW (HandSHeadRun.topDef RR.prog 141) [] (fun f vs => PySem.call f vs) := by
  refine Att.attach_call (l := PySem.Challenge.rw_waitmark_k91_whole_small_lanes_are_lines) (n := 63) rfl (by kernel_rfl) fun w s₀ s₁ mg mb fa o pm cd doc a vs ns G Y _ _ _ hmg0 hobj hints hlen hg => ?_
  obtain ⟨K, X, s⟩ := Y
  have hmg : mg ("law" : Str) = some (.ref fa) := by
    have e : (HandSHeadRun.topDef RR.prog 141).name = ("law" : Str) := by kernel_rfl
    rw [← e]
    exact hmg0
  obtain ⟨fd, sp, hb, hsp, hF⟩ := law_facts (P := RR.prog) (w := w) X G.T.g hmg s
  exact law_call X G.T.g G.T.b G.T.builtins G.T.nolimit hg hobj hints (Nat.le_trans hlen (by decide)) ⟨rfl, by decide, by decide⟩ hF hb (fun H h1 h2 => hsp H a ns hlen h1 h2) fun H e s' => cx_false _ w H s₁ e s'
end KW
set_option maxHeartbeats 0
/-! PF: the statement -/
open PySem PySem.W PySem.Calls PyProof.Rows
theorem PySem.Challenge.cw_waitmark_k91_whole_small_lanes_are_lines_holds : PySem.Challenge.rw_waitmark_k91_whole_small_lanes_are_lines.Holds := by
  w_on; o_law
  refine HandSHeadRun.head_any (r := KW.RR) (q := KW.qR) (H := KW.hkR) (ob := KW.obR) (M := 20000) (loose := KW.looseL) (d := HandSHeadRun.topDef KW.RR.prog 141) (kwd := []) KW.obR_eq
    (by kernel_rfl) (fun s => by kernel_rfl) KW.runR (by kernel_rfl) (by kernel_rfl) (by kernel_rfl) (by rfl) (by first | assumption | decide +kernel) (by decide +kernel) ⟨rfl, rfl, rfl, rfl, rfl, by decide +kernel⟩ ?hw ?hc
  case hw => w_witness2
  case hc => exact KW.walk_law
