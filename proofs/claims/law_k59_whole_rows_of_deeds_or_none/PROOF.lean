import PyProof.Rows.All
import Wide.All
import OpenK.AllK
import Wide.FinOn
import HandS.Words
import HandS.Codes
import HandS.ExcField
import KE.KExcInit
import HandS.HeadHook4
import KE.KStateDown
import HandS.Head0
import HandS.Head1
import HandS.Head2
import HandS.ForMost
import HandS.Exc
import HandS.TryOnly
import HandS.TryMany
import HandS.ExcInit
import HandS.Finally
import HandS.Lambda
import HandS.EndTab
import HandS.HeadWalk
import HandS.IsInst
import HandS.CallLocal
import HandS.Defaults
import HandS.MakeKw
import HandS.MakeKwOnly
import HandS.DictComp
import HandS.DictTup
import HandS.NoneIn
import HandS.SortInts
import HandS.Conv
import HandS.Style
import HandS.Flow
import HandS.More
import HandS.Slots
import KE.GoesEnumKw
import HandS.Walk
import HandS.Zip
import HandS.ListItems
import HandS.SortOrd
import HandS.SortRule
import HandS.ExcOwn
import KE.DataEq
import PySem.Challenge.RW_reedtapes_k59_whole_rows_of_deeds_or_non
set_option Elab.async false
set_option linter.all false
set_option maxRecDepth 100000
set_option maxHeartbeats 4000000
namespace K59
open PySem PySem.Spec PyProof.Rows L2 He
def top (i : Nat) : Stmt := PySem.Challenge.pw_reedtapes_k59_whole_rows_of_deeds_or_non.main.body.getD i (.Pass ⟨0, 0, 0, 0⟩)
abbrev veTail : List Value := [.type "ValueError", .type "Exception", .type "BaseException", .type "object"]
abbrev leTail : List Value := [.type "LookupError", .type "Exception", .type "BaseException", .type "object"]
def sizeTab : List (Str × Int) := [("new", 3), ("drop", 2), ("add", 2), ("put", 4), ("take", 4), ("pace", 4), ("later", 4), ("part", 4)]
def deedTab : List (Str × Str) := [("new", "do_new"), ("add", "do_add"), ("put", "do_put"), ("take", "do_take"), ("pace", "do_pace"), ("later", "do_later"), ("part", "do_part")]
/-- an event's bounds by its word -/
def formTab : List (Str × List (Int × Int)) := [("on", [(0, 15), (0, 127), (1, 127)]), ("off", [(0, 15), (0, 127), (0, 127)]), ("knob", [(0, 15), (0, 127), (0, 127)]), ("voice", [(0, 15), (0, 127)])]
/-! ### what the head is asked -/
def tapeT (K : PySem.W.Frag) : Addr := dflAt ("Tape", some "__init__") 1 K
def seq0 (K : PySem.W.Frag) (a : Addr) : Addr := match K.lookup a with
  | some ⟨_, _, .seq its _, _⟩ => (match its.toList with
    | .ref b :: _ => b
    | _ => 0)
  | _ => 0
def tapeP (K : PySem.W.Frag) : Addr := match K.lookup (fAd K ("Tape", some "__init__")) with
  | some ⟨_, _, .func fd, _⟩ => (match fd.kwdefaults with
    | .ref D => (match PySem.W.nsIn K D "paces" with
      | some (some (.ref b)) => b
      | _ => 0)
    | _ => 0)
  | _ => 0
def tupA (K : PySem.W.Frag) (a : Addr) (vs : List V) : Bool := match K.lookup a with
  | some ⟨.type c, _, .seq its _, _⟩ => decide (c = "tuple") && (decide (its.size ≤ sizeLine) && relAll vs its.toList)
  | _ => false
def refsAt (K : PySem.W.Frag) (a : Addr) : List Addr := match K.lookup a with
  | some ⟨_, _, .seq its _, _⟩ => its.toList.filterMap fun v => match v with
    | .ref b => some b
    | _ => none
  | _ => []
def pairsB (K : PySem.W.Frag) : List Addr → List (Int × Int) → Bool
  | [], [] => true
  | b :: bs, q :: qs => tupA K b [.int q.1, .int q.2] && pairsB K bs qs
  | _, _ => false
def formAt (K : PySem.W.Frag) (x : Str) : Addr := match PySem.W.nsIn K (ga K "FORMS") x with
  | some (some (.ref f)) => f
  | _ => 0
def formB (K : PySem.W.Frag) (p : Str × List (Int × Int)) : Bool := eqO (PySem.W.nsIn K (ga K "FORMS") p.1) (some (some (.ref (formAt K p.1)))) && (tupA K (formAt K p.1) ((refsAt K (formAt K p.1)).map V.ref) && pairsB K (refsAt K (formAt K p.1)) p.2)
def sizeDv : List (Str × Dv) := sizeTab.map fun p => (p.1, .int p.2)
def deedDv : List (Str × Dv) := deedTab.map fun p => (p.1, .glo p.2)
def xcB (K : PySem.W.Frag) (x : Str) (bm : List Value) (id : String) : Bool := PySem.W.keepIn K (.ref (ga K x)) && (PySem.W.excInitIn K (ga K x) bm id && (eqO (PySem.W.findIn K (.ref (ga K x)) "__setattr__") (some (some (.builtin "object.__setattr__"))) && (PySem.W.excOver K (ga K x) bm && (eqO (PySem.W.takerIn K (ga K x) "called") (some none) &&
  ((PySem.W.clsIn K (ga K x)).any (·.hasDict) && (eqO (PySem.W.findIn K (.ref (ga K x)) "__init__") (some (some (.ref (ma K (ga K x) "__init__")))) && (decide (PySem.W.typeIn K (.ref (ma K (ga K x) "__init__")) = some (.type "function")) && (decide (PySem.W.subIn K (.ref (ga K x)) (.type "BaseException") = some true) &&
    (decide (PySem.W.typeIn K (.ref (ga K x)) = some (.type "type")) && xfB K (ga K x))))))))))
def exB (K : PySem.W.Frag) : Bool := tupA K (tapeT K) [.ref (seq0 K (tapeT K))] && (tupA K (seq0 K (tapeT K)) [] && (tupA K (tapeP K) [] && (tupA K (ga K "CHANNEL") [.int 0, .int 15] && (formTab.all (formB K) && (valsB K (ga K "SIZES") sizeDv && (valsB K (ga K "DEEDS") deedDv &&
  (xcB K "BadDeed" veTail "ValueError.__new__" && (xcB K "BadName" veTail "ValueError.__new__" && xcB K "NoTape" leTail "LookupError.__new__"))))))))
def adrs : List Addr := [3, 418, 417, 423, 422, 428, 427, 435, 434, 442, 441, 449, 448, 454, 453, 471, 470, 478, 477, 485, 484, 827, 826, 832, 831, 843, 842, 850, 849, 857, 856, 864, 863, 871, 870, 878, 877, 885, 884, 892, 891, 899, 898, 906, 905, 920, 919, 955, 954, 980, 979, 987, 986, 1093, 1092, 1100, 1099, 1107, 1106, 1114, 1113, 1121, 1120, 1128, 1127, 1135, 1134, 1140, 1139, 1147, 1146, 1152, 1151, 1159, 1158, 1166, 1165, 1173, 1172, 1178, 1177, 1185, 1184, 1190, 1189, 1195, 1194, 1202, 1201, 1207, 1206, 1214, 1213, 1219, 1218, 1226, 1225, 1231, 1230, 1236, 1235, 1243, 1242, 1248, 1247, 1255, 1254, 1262, 1261, 1267, 1266, 591, 590, 527, 526, 541, 540, 548, 547, 588, 587, 499, 498, 494, 493, 745, 744, 723, 722, 728, 727, 735, 734, 742, 741, 697, 696, 691, 689, 688, 692, 690, 1084, 1083, 1008, 1007, 1027, 1026, 1034, 1033, 1041, 1040, 1053, 1052, 1060, 1059, 1067, 1066, 1074, 1073, 1001, 1000, 268, 267, 265, 264, 211, 210, 208, 207, 344, 343, 341, 340, 38, 37, 58, 57, 406, 408, 404, 405, 407, 409, 410, 411, 838, 973]
def fa0 : List He.Fa := [.glo "is_between",
  .glo "is_text",
  .glo "is_event",
  .glo "need_track",
  .glo "need_tick",
  .glo "need_room_events",
  .glo "later",
  .glo "put_in",
  .glo "need_beat",
  .glo "need_pace",
  .glo "is_of",
  .glo "apart",
  .glo "need_new",
  .glo "need_room_deeds",
  .glo "tape_of",
  .glo "track_of",
  .glo "with_track",
  .glo "do_new",
  .glo "do_add",
  .glo "do_put",
  .glo "do_take",
  .glo "do_pace",
  .glo "do_later",
  .glo "do_part",
  .glo "after",
  .glo "others",
  .glo "_law_book_copy",
  .glo "_law_pick",
  .glo "_law_one",
  .glo "_law_beat",
  .glo "_law_tick",
  .glo "_law_channel",
  .glo "_law_key",
  .glo "_law_word",
  .glo "_law_thing",
  .glo "_law_some_event",
  .glo "_law_pace",
  .glo "_law_slim_deed",
  .glo "_law_slim_sizes",
  .glo "_law_name_word"]
def fa1 : List He.Fa := [.glo "_law_within",
  .glo "_law_event_good",
  .glo "_law_slim_track_word",
  .glo "_law_slim_word",
  .glo "_law_put_in",
  .glo "_law_lane",
  .glo "_law_slim_done",
  .glo "_law_begin",
  .glo "_law_names",
  .glo "_law_same",
  .glo "_law_tried",
  .glo "_law_pairs",
  .glo "_law_deck_so",
  .glo "_law_row_of",
  .glo "law",
  .glo "Map",
  .glo "Tape",
  .glo "Deck",
  .glo "BadDeed",
  .glo "BadName",
  .glo "NoTape",
  .glo "TapeError",
  .glo "MissingError",
  .glo "FORMS",
  .glo "SIZES",
  .glo "DEEDS",
  .glo "CHANNEL",
  .free "len",
  .free "all",
  .free "isinstance",
  .free "int",
  .free "str",
  .free "bool",
  .free "list",
  .free "tuple",
  .free "dict",
  .free "sorted",
  .free "range",
  .free "enumerate",
  .free "zip"]
def fa2 : List He.Fa := [.int "MOST_TICK" 999999,
  .int "MOST_EVENTS" 200,
  .int "MOST_SIGNS_events" 12,
  .int "MOST_BEAT" 960,
  .int "MOST_PACE" 16777215,
  .int "MOST_PACES" 20,
  .int "MOST_TRACKS" 6,
  .int "MOST_TAPES" 6,
  .int "MOST_SIGNS_deeds" 8,
  .str "SIGNS" "abcdefghijklmnopqrstuvwxyz0123456789 ",
  .str "LETTERS" "abcdefghijklmnopqrstuvwxyz",
  .cls "Map",
  .noat "Map" "ticks",
  .noat "Map" "known",
  .meth "Map" "put",
  .meth "Map" "beat",
  .meth "Map" "paces",
  .meth "Map" "twin",
  .cls "Tape",
  .noat "Tape" "own",
  .noat "Tape" "rows",
  .meth "Tape" "beat",
  .meth "Tape" "tracks",
  .meth "Tape" "paces",
  .meth "Tape" "paced",
  .cls "Deck",
  .noat "Deck" "book",
  .noat "Deck" "elder",
  .noat "Deck" "past",
  .noat "Deck" "ahead",
  .noat "Deck" "under",
  .meth "Deck" "__len__",
  .meth "Deck" "do_all",
  .meth "Deck" "busy",
  .meth "Deck" "undo",
  .meth "Deck" "deeds",
  .meth "Deck" "names",
  .meth "Deck" "tape",
  .meth "Deck" "fresh",
  .mkr "Map"]
def fa3 : List He.Fa := [.mkr "Deck",
  .mkr "Tape",
  .noat "BadDeed" "called",
  .noat "BadName" "called",
  .noat "NoTape" "called",
  .exm "BadDeed" "TapeError" true,
  .exm "BadName" "TapeError" true,
  .exm "NoTape" "TapeError" false,
  .exm "NoTape" "MissingError" true]
def fa : List He.Fa := fa0 ++ (fa1 ++ (fa2 ++ (fa3)))
def fn0 : List He.DefD := [⟨("is_between", none), "is_between", "is_between", C8.fnArgs (top 30), C8.fnBody (top 30), C8.fnScope (top 30), [], []⟩,
  ⟨("is_text", none), "is_text", "is_text", C8.fnArgs (top 31), C8.fnBody (top 31), C8.fnScope (top 31), [], []⟩,
  ⟨("is_event", none), "is_event", "is_event", C8.fnArgs (top 32), C8.fnBody (top 32), C8.fnScope (top 32), [], []⟩,
  ⟨("need_track", none), "need_track", "need_track", C8.fnArgs (top 33), C8.fnBody (top 33), C8.fnScope (top 33), [], []⟩,
  ⟨("need_tick", none), "need_tick", "need_tick", C8.fnArgs (top 34), C8.fnBody (top 34), C8.fnScope (top 34), [], []⟩,
  ⟨("need_room_events", none), "need_room", "need_room", C8.fnArgs (top 35), C8.fnBody (top 35), C8.fnScope (top 35), [], []⟩,
  ⟨("later", none), "later", "later", C8.fnArgs (top 37), C8.fnBody (top 37), C8.fnScope (top 37), [], []⟩,
  ⟨("put_in", none), "put_in", "put_in", C8.fnArgs (top 40), C8.fnBody (top 40), C8.fnScope (top 40), [], []⟩,
  ⟨("need_beat", none), "need_beat", "need_beat", C8.fnArgs (top 46), C8.fnBody (top 46), C8.fnScope (top 46), [], []⟩,
  ⟨("need_pace", none), "need_pace", "need_pace", C8.fnArgs (top 47), C8.fnBody (top 47), C8.fnScope (top 47), [], []⟩,
  ⟨("is_of", none), "is_of", "is_of", C8.fnArgs (top 69), C8.fnBody (top 69), C8.fnScope (top 69), [], []⟩,
  ⟨("apart", none), "apart", "apart", C8.fnArgs (top 70), C8.fnBody (top 70), C8.fnScope (top 70), [], []⟩,
  ⟨("need_new", none), "need_new", "need_new", C8.fnArgs (top 77), C8.fnBody (top 77), C8.fnScope (top 77), [], []⟩,
  ⟨("need_room_deeds", none), "need_room", "need_room", C8.fnArgs (top 78), C8.fnBody (top 78), C8.fnScope (top 78), [], []⟩,
  ⟨("tape_of", none), "tape_of", "tape_of", C8.fnArgs (top 80), C8.fnBody (top 80), C8.fnScope (top 80), [], []⟩,
  ⟨("track_of", none), "track_of", "track_of", C8.fnArgs (top 81), C8.fnBody (top 81), C8.fnScope (top 81), [], []⟩,
  ⟨("with_track", none), "with_track", "with_track", C8.fnArgs (top 82), C8.fnBody (top 82), C8.fnScope (top 82), [], []⟩,
  ⟨("do_new", none), "do_new", "do_new", C8.fnArgs (top 83), C8.fnBody (top 83), C8.fnScope (top 83), [], []⟩,
  ⟨("do_add", none), "do_add", "do_add", C8.fnArgs (top 84), C8.fnBody (top 84), C8.fnScope (top 84), [], []⟩,
  ⟨("do_put", none), "do_put", "do_put", C8.fnArgs (top 85), C8.fnBody (top 85), C8.fnScope (top 85), [], []⟩]
def fn1 : List He.DefD := [⟨("do_take", none), "do_take", "do_take", C8.fnArgs (top 86), C8.fnBody (top 86), C8.fnScope (top 86), [], []⟩,
  ⟨("do_pace", none), "do_pace", "do_pace", C8.fnArgs (top 87), C8.fnBody (top 87), C8.fnScope (top 87), [], []⟩,
  ⟨("do_later", none), "do_later", "do_later", C8.fnArgs (top 89), C8.fnBody (top 89), C8.fnScope (top 89), [], []⟩,
  ⟨("do_part", none), "do_part", "do_part", C8.fnArgs (top 94), C8.fnBody (top 94), C8.fnScope (top 94), [], []⟩,
  ⟨("after", none), "after", "after", C8.fnArgs (top 99), C8.fnBody (top 99), C8.fnScope (top 99), [], []⟩,
  ⟨("others", none), "others", "others", C8.fnArgs (top 101), C8.fnBody (top 101), C8.fnScope (top 101), [], []⟩,
  ⟨("_law_book_copy", none), "_law_book_copy", "_law_book_copy", C8.fnArgs (top 104), C8.fnBody (top 104), C8.fnScope (top 104), [], []⟩,
  ⟨("_law_pick", none), "_law_pick", "_law_pick", C8.fnArgs (top 105), C8.fnBody (top 105), C8.fnScope (top 105), [], []⟩,
  ⟨("_law_one", none), "_law_one", "_law_one", C8.fnArgs (top 106), C8.fnBody (top 106), C8.fnScope (top 106), [], []⟩,
  ⟨("_law_beat", none), "_law_beat", "_law_beat", C8.fnArgs (top 107), C8.fnBody (top 107), C8.fnScope (top 107), [], []⟩,
  ⟨("_law_tick", none), "_law_tick", "_law_tick", C8.fnArgs (top 108), C8.fnBody (top 108), C8.fnScope (top 108), [], []⟩,
  ⟨("_law_channel", none), "_law_channel", "_law_channel", C8.fnArgs (top 109), C8.fnBody (top 109), C8.fnScope (top 109), [], []⟩,
  ⟨("_law_key", none), "_law_key", "_law_key", C8.fnArgs (top 110), C8.fnBody (top 110), C8.fnScope (top 110), [], []⟩,
  ⟨("_law_word", none), "_law_word", "_law_word", C8.fnArgs (top 111), C8.fnBody (top 111), C8.fnScope (top 111), [], []⟩,
  ⟨("_law_thing", none), "_law_thing", "_law_thing", C8.fnArgs (top 112), C8.fnBody (top 112), C8.fnScope (top 112), [], []⟩,
  ⟨("_law_some_event", none), "_law_some_event", "_law_some_event", C8.fnArgs (top 113), C8.fnBody (top 113), C8.fnScope (top 113), [], []⟩,
  ⟨("_law_pace", none), "_law_pace", "_law_pace", C8.fnArgs (top 114), C8.fnBody (top 114), C8.fnScope (top 114), [], []⟩,
  ⟨("_law_slim_deed", none), "_law_slim_deed", "_law_slim_deed", C8.fnArgs (top 115), C8.fnBody (top 115), C8.fnScope (top 115), [], []⟩,
  ⟨("_law_slim_sizes", none), "_law_slim_sizes", "_law_slim_sizes", C8.fnArgs (top 116), C8.fnBody (top 116), C8.fnScope (top 116), [], []⟩,
  ⟨("_law_name_word", none), "_law_name_word", "_law_name_word", C8.fnArgs (top 117), C8.fnBody (top 117), C8.fnScope (top 117), [], []⟩]
def fn2 : List He.DefD := [⟨("_law_within", none), "_law_within", "_law_within", C8.fnArgs (top 118), C8.fnBody (top 118), C8.fnScope (top 118), [], []⟩,
  ⟨("_law_event_good", none), "_law_event_good", "_law_event_good", C8.fnArgs (top 119), C8.fnBody (top 119), C8.fnScope (top 119), [], []⟩,
  ⟨("_law_slim_track_word", none), "_law_slim_track_word", "_law_slim_track_word", C8.fnArgs (top 120), C8.fnBody (top 120), C8.fnScope (top 120), [], []⟩,
  ⟨("_law_slim_word", none), "_law_slim_word", "_law_slim_word", C8.fnArgs (top 121), C8.fnBody (top 121), C8.fnScope (top 121), [], []⟩,
  ⟨("_law_put_in", none), "_law_put_in", "_law_put_in", C8.fnArgs (top 122), C8.fnBody (top 122), C8.fnScope (top 122), [], []⟩,
  ⟨("_law_lane", none), "_law_lane", "_law_lane", C8.fnArgs (top 123), C8.fnBody (top 123), C8.fnScope (top 123), [], []⟩,
  ⟨("_law_slim_done", none), "_law_slim_done", "_law_slim_done", C8.fnArgs (top 124), C8.fnBody (top 124), C8.fnScope (top 124), [], []⟩,
  ⟨("_law_begin", none), "_law_begin", "_law_begin", C8.fnArgs (top 125), C8.fnBody (top 125), C8.fnScope (top 125), [], []⟩,
  ⟨("_law_names", none), "_law_names", "_law_names", C8.fnArgs (top 126), C8.fnBody (top 126), C8.fnScope (top 126), [], []⟩,
  ⟨("_law_same", none), "_law_same", "_law_same", C8.fnArgs (top 127), C8.fnBody (top 127), C8.fnScope (top 127), [], []⟩,
  ⟨("_law_tried", none), "_law_tried", "_law_tried", C8.fnArgs (top 128), C8.fnBody (top 128), C8.fnScope (top 128), [], []⟩,
  ⟨("_law_pairs", none), "_law_pairs", "_law_pairs", C8.fnArgs (top 129), C8.fnBody (top 129), C8.fnScope (top 129), [], []⟩,
  ⟨("_law_deck_so", none), "_law_deck_so", "_law_deck_so", C8.fnArgs (top 130), C8.fnBody (top 130), C8.fnScope (top 130), [], []⟩,
  ⟨("_law_row_of", none), "_law_row_of", "_law_row_of", C8.fnArgs (top 131), C8.fnBody (top 131), C8.fnScope (top 131), [], []⟩,
  ⟨("law", none), "law", "law", C8.fnArgs (top 132), C8.fnBody (top 132), C8.fnScope (top 132), [], []⟩,
  ⟨("Map", some "put"), "put", "Map.put", C8.fnArgs (inClass (top 48) 4), C8.fnBody (inClass (top 48) 4), C8.fnScope (inClass (top 48) 4), [], []⟩,
  ⟨("Map", some "beat"), "beat", "Map.beat", C8.fnArgs (inClass (top 48) 6), C8.fnBody (inClass (top 48) 6), C8.fnScope (inClass (top 48) 6), [], []⟩,
  ⟨("Map", some "paces"), "paces", "Map.paces", C8.fnArgs (inClass (top 48) 7), C8.fnBody (inClass (top 48) 7), C8.fnScope (inClass (top 48) 7), [], []⟩,
  ⟨("Map", some "twin"), "twin", "Map.twin", C8.fnArgs (inClass (top 48) 13), C8.fnBody (inClass (top 48) 13), C8.fnScope (inClass (top 48) 13), [], []⟩,
  ⟨("Tape", some "beat"), "beat", "Tape.beat", C8.fnArgs (inClass (top 64) 4), C8.fnBody (inClass (top 64) 4), C8.fnScope (inClass (top 64) 4), [], []⟩]
def fn3 : List He.DefD := [⟨("Tape", some "tracks"), "tracks", "Tape.tracks", C8.fnArgs (inClass (top 64) 5), C8.fnBody (inClass (top 64) 5), C8.fnScope (inClass (top 64) 5), [], []⟩,
  ⟨("Tape", some "paces"), "paces", "Tape.paces", C8.fnArgs (inClass (top 64) 6), C8.fnBody (inClass (top 64) 6), C8.fnScope (inClass (top 64) 6), [], []⟩,
  ⟨("Tape", some "paced"), "paced", "Tape.paced", C8.fnArgs (inClass (top 64) 7), C8.fnBody (inClass (top 64) 7), C8.fnScope (inClass (top 64) 7), [], []⟩,
  ⟨("Deck", some "__len__"), "__len__", "Deck.__len__", C8.fnArgs (inClass (top 102) 1), C8.fnBody (inClass (top 102) 1), C8.fnScope (inClass (top 102) 1), [], []⟩,
  ⟨("Deck", some "do_all"), "do_all", "Deck.do_all", C8.fnArgs (inClass (top 102) 4), C8.fnBody (inClass (top 102) 4), C8.fnScope (inClass (top 102) 4), [], []⟩,
  ⟨("Deck", some "busy"), "busy", "Deck.busy", C8.fnArgs (inClass (top 102) 5), C8.fnBody (inClass (top 102) 5), C8.fnScope (inClass (top 102) 5), [], []⟩,
  ⟨("Deck", some "undo"), "undo", "Deck.undo", C8.fnArgs (inClass (top 102) 6), C8.fnBody (inClass (top 102) 6), C8.fnScope (inClass (top 102) 6), [], []⟩,
  ⟨("Deck", some "deeds"), "deeds", "Deck.deeds", C8.fnArgs (inClass (top 102) 8), C8.fnBody (inClass (top 102) 8), C8.fnScope (inClass (top 102) 8), [], []⟩,
  ⟨("Deck", some "names"), "names", "Deck.names", C8.fnArgs (inClass (top 102) 9), C8.fnBody (inClass (top 102) 9), C8.fnScope (inClass (top 102) 9), [], []⟩,
  ⟨("Deck", some "tape"), "tape", "Deck.tape", C8.fnArgs (inClass (top 102) 10), C8.fnBody (inClass (top 102) 10), C8.fnScope (inClass (top 102) 10), [], []⟩,
  ⟨("Deck", some "fresh"), "fresh", "Deck.fresh", C8.fnArgs (inClass (top 102) 11), C8.fnBody (inClass (top 102) 11), C8.fnScope (inClass (top 102) 11), [], []⟩,
  ⟨("Map", some "__init__"), "__init__", "Map.__init__", C8.fnArgs (inClass (top 48) 0), C8.fnBody (inClass (top 48) 0), C8.fnScope (inClass (top 48) 0), [.adr (dflAt ("Map", some "__init__") 0)], []⟩,
  ⟨("Deck", some "__init__"), "__init__", "Deck.__init__", C8.fnArgs (inClass (top 102) 0), C8.fnBody (inClass (top 102) 0), C8.fnScope (inClass (top 102) 0), [], []⟩,
  ⟨("Tape", some "__init__"), "__init__", "Tape.__init__", C8.fnArgs (inClass (top 64) 0), C8.fnBody (inClass (top 64) 0), C8.fnScope (inClass (top 64) 0), [.int 96, .adr tapeT], [("paces", .adr tapeP)]⟩,
  ⟨("BadDeed", some "__init__"), "__init__", "BadDeed.__init__", C8.fnArgs (inClass (top 14) 0), C8.fnBody (inClass (top 14) 0), C8.fnScope (inClass (top 14) 0), [], []⟩,
  ⟨("BadName", some "__init__"), "__init__", "BadName.__init__", C8.fnArgs (inClass (top 11) 0), C8.fnBody (inClass (top 11) 0), C8.fnScope (inClass (top 11) 0), [], []⟩,
  ⟨("NoTape", some "__init__"), "__init__", "NoTape.__init__", C8.fnArgs (inClass (top 18) 0), C8.fnBody (inClass (top 18) 0), C8.fnScope (inClass (top 18) 0), [], []⟩]
def fn : List He.DefD := fn0 ++ (fn1 ++ (fn2 ++ (fn3)))
def ts : List He.Tab := [((fun K => ga K "FORMS"), ["on", "off", "knob", "voice"]), ((fun K => ga K "SIZES"), ["new", "drop", "add", "put", "take", "pace", "unpace", "later", "keyed", "even", "cure", "merge", "part", "beat", "cut"]), ((fun K => ga K "DEEDS"), ["new", "add", "put", "take", "pace", "unpace", "later", "keyed", "even", "cure", "merge", "part", "beat"])]
def tf : List He.Defn := [("law", none)]
def obL (as : List Addr) (h : Addr → Option Obj) : He.AlX := (obsT fa fn ts (frT h as), exB (frT h as) && tabsB h tf (frT h as))
def vaL (w : World) : He.AlX := (valT fn ts w, true)
end K59
set_option maxHeartbeats 0
namespace K59
open PySem PySem.Spec PyProof.Rows L2 He
abbrev Law0 : PySem.W.OpenLaw := PySem.Challenge.rw_reedtapes_k59_whole_rows_of_deeds_or_non
abbrev R : PySem.W.OpenRow := PySem.W.OpenLaw.row Law0
theorem told {as : List Addr} {w : World} {h : Heap} (e : obL as h.get? = vaL w) : SaysX fa fn ts tf exB w h (frT h.get? as) := by
  obtain ⟨h1, h2⟩ := ba (show (exB (frT h.get? as) && tabsB h.get? tf (frT h.get? as)) = true from congrArg Prod.snd e)
  have key : ∀ p ∈ tf, PySem.W.codeHdIn (frT h.get? as) (cT (frT h.get? as) p).1 (cT (frT h.get? as) p).2 = true ∧ ∃ o, h.get? (cT (frT h.get? as) p).2 = some o ∧ emptyTab o = true := fun p hp => by
    obtain ⟨h3, h4⟩ := ba (List.all_eq_true.mp h2 p hp)
    refine ⟨h3, ?_⟩
    cases q : h.get? (cT (frT h.get? as) p).2 with
    | none => rw [q] at h4; cases h4
    | some o => rw [q] at h4; exact ⟨o, rfl, h4⟩
  refine ⟨congrArg Prod.fst e, h1, fun p hp => (key p hp).1, fun p hp => ?_, fun p hp => ?_⟩
  · obtain ⟨_, o, q, z⟩ := key p hp
    exact frT_none q z
  · obtain ⟨_, o, q, z⟩ := key p hp
    rw [q, emptyTab_eq z]
def hkL : PySem.W.Hook where
  α := He.AlX
  obs := fun s => obL adrs s.heap.get?
  val := fun w => vaL w
  says := fun w h => ∃ K : PySem.W.Frag, K.In h ∧ SaysX fa fn ts tf exB w h K
  of := fun _ _ e => ⟨_, frT_in, told e⟩
  keeps := fun _ _ _ ⟨K, hK, c⟩ k => ⟨K, PySem.W.Frag.In.keeps hK k, ⟨c.t, c.more, c.hd, c.out, fun p hp => k _ _ (c.empty p hp)⟩⟩
theorem obL_eq {f : Addr → Option Obj} {s : Shared} (h : ∀ a, f a = s.heap.get? a) : obL adrs f = hkL.obs s := by
  rw [show f = s.heap.get? from funext h]
  rfl
def ob (s : PySem.W.SharedT) : He.AlX := obL adrs (HandSHeadRun.getT s)
theorem ob_eq (s : PySem.W.SharedT) : ob s = hkL.obs s.abs := obL_eq (HandSHeadRun.getT_eq s)
def nm0 : List PySem.Str := ["_wall", "TapeError", "MissingError", "BadEvent", "BadBeat", "BadPace", "BadTick", "BadKey", "BadGrid", "BadChannel", "BadName", "Taken", "Full", "BadDeed", "NothingLeft", "BadTrack", "NotWhole", "NoTape", "NoTrack", "NoEvent", "NoPace", "MOST_TICK", "MOST_EVENTS", "MOST_SIGNS_events", "SIGNS", "CHANNEL", "SEVEN", "FORMS", "is_between", "is_text"]
def nm1 : List PySem.Str := ["is_event", "need_track", "need_tick", "need_room", "need_room_events", "later", "keyed_event", "keyed", "put_in", "USUAL", "MOST_BEAT", "MOST_PACE", "MOST_PACES", "need_beat", "need_pace", "Map", "MOST_STEP", "WHOLE", "Grid", "evened", "SOFT", "paired", "notes", "lone", "hung", "cured", "MOST_TRACKS", "PLAIN_BEAT", "Tape", "Stand"]
def nm2 : List PySem.Str := ["stand_behind", "is_of", "apart", "cut", "MOST_TAPES", "MOST_SIGNS_deeds", "LETTERS", "SIZES", "need_new", "need_room_deeds", "tape_of", "track_of", "with_track", "do_new", "do_add", "do_put", "do_take", "do_pace", "do_unpace", "do_later", "do_keyed", "do_even", "do_cure", "do_merge", "do_part", "at_new_beat", "do_beat", "do_cut", "DEEDS", "after"]
def nm3 : List PySem.Str := ["others", "Deck", "_law_book_copy", "_law_pick", "_law_one", "_law_beat", "_law_tick", "_law_channel", "_law_key", "_law_word", "_law_thing", "_law_some_event", "_law_pace", "_law_slim_deed", "_law_slim_sizes", "_law_name_word", "_law_within", "_law_event_good", "_law_slim_track_word", "_law_slim_word", "_law_put_in", "_law_lane", "_law_slim_done", "_law_begin", "_law_names", "_law_same", "_law_tried", "_law_pairs", "_law_deck_so", "_law_row_of"]
def loose : List PySem.Str := nm0 ++ nm1 ++ nm2 ++ nm3
abbrev topQ : PySem.Program := PySem.W.view R.prog [132]
noncomputable abbrev endW (w : World) (os : OsState) : Option PySem.W.SharedT := HandSHeadRun.endF (HandSHeadRun.stepQ (HandSHeadRun.denQ HandSHeadRun.tabQ) R.prog w) 10600 R.prog w os
def factsO (s : PySem.W.SharedT) : Bool := (fa.all fun f => f.ok (frT (HandSHeadRun.getT s) adrs)) && (exB (frT (HandSHeadRun.getT s) adrs) && tabsB (HandSHeadRun.getT s) tf (frT (HandSHeadRun.getT s) adrs))
def defsO (s : PySem.W.SharedT) := ((fn.all fun d => d.ok (frT (HandSHeadRun.getT s) adrs)), fn.map (fun d => fnW (frT (HandSHeadRun.getT s) adrs) d.at_), ts.map (fun t => dicW (frT (HandSHeadRun.getT s) adrs) (t.1 (frT (HandSHeadRun.getT s) adrs))))
def defsV (w : World) := (true, fn.map DefD.val, ts.map (fun t => some (keysIn w.params t.2)))
theorem joinA {g : Addr → Option Obj} {K : PySem.W.Frag} {w : World} {fa : List He.Fa} {fn : List He.DefD} {ts : List He.Tab} {a e : Bool} (ha : a = true) (he : e = true) (h1 : (fa.all fun f => f.ok K) = a) (h2 : (fn.all fun d => d.ok K) = true) (h3 : fn.map (fun d => fnW K d.at_) = fn.map DefD.val) (h4 : ts.map (fun t => dicW K (t.1 K)) = ts.map (fun t => some (keysIn w.params t.2))) : (obsT fa fn ts K, e) = (valT fn ts w, true) := by
  unfold obsT valT obsD valD
  rw [h1, h2, h3, h4, ha, he]
  rfl
theorem joinB {w : World} {s : PySem.W.SharedT} (b : factsO s = true) (c : defsO s = defsV w) : ob s = vaL w := by
  obtain ⟨b1, b2⟩ := ba b
  unfold ob obL vaL
  unfold defsO defsV at c
  have c1 := congrArg Prod.fst c
  have c2 := congrArg (fun z => z.2.1) c
  have c3 := congrArg (fun z => z.2.2) c
  exact joinA (g := HandSHeadRun.getT s) b1 b2 rfl c1 c2 c3
theorem join {o : Option PySem.W.SharedT} {w : World} {α : Type} {L : PySem.W.SharedT → Bool} {S : PySem.W.SharedT → α} {g : α} (h1 : o.map (fun s => (L s, S s)) = some (true, g)) (h2 : o.map factsO = some true) (h3 : o.map defsO = some (defsV w)) :
    o.map (fun s => (L s, S s, ob s)) = some (true, g, hkL.val w) := by
  cases o with
  | none => cases h1
  | some s =>
    have a := Option.some.inj h1
    have b : factsO s = true := Option.some.inj h2
    have c : defsO s = defsV w := Option.some.inj h3
    have e : ob s = vaL w := joinB b c
    have e1 : L s = true := congrArg Prod.fst a
    have e2 : S s = g := congrArg Prod.snd a
    show some (L s, S s, ob s) = some (true, g, vaL w)
    rw [e1, e2, e]
theorem looks_false (w : World) (os : OsState) : (endW (w.withFollow "special-get-raises" false) os).map (fun s => (HandSHeadRun.looksF R.prog (PySem.W.boot_heap (w.withFollow "special-get-raises" false).params) s.abs, HandSHeadRun.seenQ topQ loose (importedModules R.prog.main.body) (fun s => PySem.W.xlAt topQ [] s && PySem.W.recOk R.toRowW.records s) s.abs)) = some (true, PySem.W.openGood topQ loose) := by
  kernel_rfl
theorem facts_false (w : World) (os : OsState) : (endW (w.withFollow "special-get-raises" false) os).map factsO = some true := by
  kernel_rfl
theorem defs_false (w : World) (os : OsState) : (endW (w.withFollow "special-get-raises" false) os).map defsO = some (defsV (w.withFollow "special-get-raises" false)) := by
  kernel_rfl
theorem run_false (w : World) : HandSHeadRun.RunEq R topQ hkL ob 10600 loose (w.withFollow "special-get-raises" false) := by
  intro os
  exact join (looks_false w os) (facts_false w os) (defs_false w os)
theorem looks_true (w : World) (os : OsState) : (endW (w.withFollow "special-get-raises" true) os).map (fun s => (HandSHeadRun.looksF R.prog (PySem.W.boot_heap (w.withFollow "special-get-raises" true).params) s.abs, HandSHeadRun.seenQ topQ loose (importedModules R.prog.main.body) (fun s => PySem.W.xlAt topQ [] s && PySem.W.recOk R.toRowW.records s) s.abs)) = some (true, PySem.W.openGood topQ loose) := by
  kernel_rfl
theorem facts_true (w : World) (os : OsState) : (endW (w.withFollow "special-get-raises" true) os).map factsO = some true := by
  kernel_rfl
theorem defs_true (w : World) (os : OsState) : (endW (w.withFollow "special-get-raises" true) os).map defsO = some (defsV (w.withFollow "special-get-raises" true)) := by
  kernel_rfl
theorem run_true (w : World) : HandSHeadRun.RunEq R topQ hkL ob 10600 loose (w.withFollow "special-get-raises" true) := by
  intro os
  exact join (looks_true w os) (facts_true w os) (defs_true w os)
theorem run (w : World) : HandSHeadRun.RunEq R topQ hkL ob 10600 loose w :=
  PySem.W.byRow2 "special-get-raises" (P := fun w => HandSHeadRun.RunEq R topQ hkL ob 10600 loose w) run_false run_true w
end K59
set_option maxHeartbeats 4000000
namespace K59
open PySem PySem.Spec PyProof.Rows L2

/-! ### small rules -/
section
variable {X : Cx}
theorem gK {x : Str} {v : V} {pos : Pos} (h : ∃ u, X.mg x = some u ∧ RelV v u) (hg : Gl X x := by rfl) (hd : (x == ("__debug__" : Str)) = false := by decide) : PE X (.Name x pos) (tC v) := by
  obtain ⟨u, e, r⟩ := h
  exact pe_glob hg e r hd
theorem bT_int {pos : Pos} (hm : X.mg "int" = none) (hg : Gl X "int" := by rfl) : PE X (.Name "int" pos) (tC (.ty "int")) := pe_bltn hg hm (by decide +kernel) rfl
theorem bT_str {pos : Pos} (hm : X.mg "str" = none) (hg : Gl X "str" := by rfl) : PE X (.Name "str" pos) (tC (.ty "str")) := pe_bltn hg hm (by decide +kernel) rfl
theorem bT_bool {pos : Pos} (hm : X.mg "bool" = none) (hg : Gl X "bool" := by rfl) : PE X (.Name "bool" pos) (tC (.ty "bool")) := pe_bltn hg hm (by decide +kernel) rfl
theorem bT_list {pos : Pos} (hm : X.mg "list" = none) (hg : Gl X "list" := by rfl) : PE X (.Name "list" pos) (tC (.ty "list")) := pe_bltn hg hm (by decide +kernel) rfl
theorem bT_tuple {pos : Pos} (hm : X.mg "tuple" = none) (hg : Gl X "tuple" := by rfl) : PE X (.Name "tuple" pos) (tC (.ty "tuple")) := pe_bltn hg hm (by decide +kernel) rfl
end
/-! ### heaps -/
/-- the heap without the places S -/
def wo (S : List Addr) (H : Hp) : Hp := fun a => if a ∈ S then none else H a
/-- all places beyond S are as they were -/
structure Kp (S : List Addr) (H H' : Hp) : Prop where
  keep : ∀ a o, a ∉ S → H a = some o → H' a = some o
  dom : ∀ a, H a ≠ none → H' a ≠ none
/-- S stands in H -/
def In (S : List Addr) (H : Hp) : Prop := ∀ a ∈ S, H a ≠ none
theorem wo_in {S : List Addr} {H : Hp} {a : Addr} (h : a ∈ S) : wo S H a = none := if_pos h
theorem wo_out {S : List Addr} {H : Hp} {a : Addr} (h : a ∉ S) : wo S H a = H a := if_neg h
theorem wo_sub {S : List Addr} {H : Hp} : Same (wo S H) H := fun a o e => by
  by_cases h : a ∈ S
  · rw [wo_in h] at e; cases e
  · rw [wo_out h] at e; exact e
theorem wo_less {S S' : List Addr} {H : Hp} (h : ∀ a ∈ S, a ∈ S') : Same (wo S' H) (wo S H) := fun a o e => by
  by_cases q : a ∈ S'
  · rw [wo_in q] at e; cases e
  · rw [wo_out q] at e; rw [wo_out fun z => q (h a z)]; exact e
theorem Kp.refl (S : List Addr) (H : Hp) : Kp S H H := ⟨fun _ _ _ e => e, fun _ h => h⟩
theorem Kp.trans {S : List Addr} {H H1 H2 : Hp} (a : Kp S H H1) (b : Kp S H1 H2) : Kp S H H2 := ⟨fun c o h e => b.keep c o h (a.keep c o h e), fun c h => b.dom c (a.dom c h)⟩
theorem Kp.more {S S' : List Addr} {H H' : Hp} (k : Kp S H H') (h : ∀ a ∈ S, a ∈ S') : Kp S' H H' := ⟨fun c o q e => k.keep c o (fun z => q (h c z)) e, k.dom⟩
theorem Kp.wo {S S' : List Addr} {H H' : Hp} (k : Kp S H H') (h : ∀ a ∈ S, a ∈ S') : Same (wo S' H) (wo S' H') := fun a o e => by
  by_cases q : a ∈ S'
  · rw [wo_in q] at e; cases e
  · rw [wo_out q] at e ⊢; exact k.keep a o (fun z => q (h a z)) e
theorem Kp.of {H H' : Hp} (s : Same H H') {S : List Addr} : Kp S H H' := ⟨fun a o _ e => s a o e, fun a h z => by
  cases e : H a with
  | none => exact h e
  | some o => rw [s a o e] at z; cases z⟩
theorem Kp.same {H H' : Hp} (k : Kp [] H H') : Same H H' := fun a o e => k.keep a o (by simp) e
theorem Same.upd {H : Hp} {p : Addr} {o : HO} (h : H p = none) : Same H (upd H p o) := fun a u e => by
  rw [upd_ne (ne_of_none e h)]
  exact e
theorem Same.wo {H H' : Hp} (s : Same H H') {S : List Addr} : Same (K59.wo S H) (K59.wo S H') := (Kp.of s (S := [])).wo (by simp)
theorem In.same {S : List Addr} {H H' : Hp} (h : In S H) (s : Same H H') : In S H' := fun a q => (Kp.of (S := []) s).dom a (h a q)
theorem In.kp {S S' : List Addr} {H H' : Hp} (h : In S H) (s : Kp S' H H') : In S H' := fun a q => s.dom a (h a q)
theorem In.out {S : List Addr} {H : Hp} (h : In S H) {p : Addr} (e : H p = none) : p ∉ S := fun q => h p q e
theorem wo_new {S : List Addr} {H : Hp} (h : In S H) {p : Addr} {o : HO} (e : H p = none) : wo S (upd H p o) p = some o := by
  rw [wo_out (h.out e), upd_same]
/-- an old place stays fresh of the new ones -/
theorem back {H H' : Hp} (s : Same H H') {p : Addr} (e : H' p = none) : H p = none := s.free e
theorem same_t {K : PySem.W.Frag} {H H' : Hp} {a : Addr} {xs : List V} (e : Same H H') (h : SqT K H a xs) : SqT K H' a xs := by
  rcases h with (h | ⟨o, h⟩) | h
  · exact Or.inl (Or.inl (e a _ h))
  · exact Or.inl (Or.inr ⟨o, e a _ h⟩)
  · exact Or.inr h
theorem same_l {K : PySem.W.Frag} {H H' : Hp} {a : Addr} {xs : List V} (e : Same H H') (h : SqL K H a xs) : SqL K H' a xs := e.seq h
/-! ### data -/
mutual
theorem Dp.to {K : PySem.W.Frag} {H H' : Hp} (s : Same H H') : ∀ (d : PyData) (v : V), Dp K H v d → Dp K H' v d
  | .none, _, h => by cases h; exact .non
  | .bool b, _, h => by cases h; exact .bl b
  | .int i, _, h => by cases h; exact .int i
  | .str x, _, h => by cases h; exact .str x
  | .list ds, _, h => by cases h with | lst a b => exact .lst (s.seq a) (DpAll.to s ds _ b)
  | .tuple ds, _, h => by cases h with | tup a b => exact .tup (same_t s a) (DpAll.to s ds _ b)
  | .dict _, _, h => by cases h
theorem DpAll.to {K : PySem.W.Frag} {H H' : Hp} (s : Same H H') : ∀ (ds : List PyData) (vs : List V), DpAll K H vs ds → DpAll K H' vs ds
  | [], _, h => by cases h; exact .nil
  | d :: ds, _, h => by cases h with | cons a b => exact .cons (Dp.to s d _ a) (DpAll.to s ds _ b)
end
theorem dp {K : PySem.W.Frag} {H H' : Hp} {d : PyData} {v : V} (h : Dp K H v d) (s : Same H H') : Dp K H' v d := Dp.to s d v h
theorem da {K : PySem.W.Frag} {H H' : Hp} {ds : List PyData} {vs : List V} (h : DpAll K H vs ds) (s : Same H H') : DpAll K H' vs ds := DpAll.to s ds vs h
section
variable {K : PySem.W.Frag} {H : Hp}
theorem DpAll.len : ∀ {ds : List PyData} {vs : List V}, DpAll K H vs ds → vs.length = ds.length
  | _, _, .nil => rfl
  | _, _, .cons _ t => congrArg (· + 1) (DpAll.len t)
theorem DpAll.at : ∀ {ds : List PyData} {vs : List V} {i : Nat} {v : V}, DpAll K H vs ds → vs[i]? = some v → ∃ d, ds[i]? = some d ∧ Dp K H v d
  | _, _, _, _, .nil, e => by simp at e
  | _, _, 0, _, .cons a _, e => by simp at e; subst e; exact ⟨_, rfl, a⟩
  | _, _, i + 1, _, .cons _ t, e => by
    obtain ⟨d, h1, h2⟩ := DpAll.at (i := i) t (by simpa using e)
    exact ⟨d, by simpa using h1, h2⟩
theorem DpAll.at' : ∀ {ds : List PyData} {vs : List V} {i : Nat} {d : PyData}, DpAll K H vs ds → ds[i]? = some d → ∃ v, vs[i]? = some v ∧ Dp K H v d
  | _, _, _, _, .nil, e => by simp at e
  | _, _, 0, _, .cons a _, e => by simp at e; subst e; exact ⟨_, rfl, a⟩
  | _, _, i + 1, _, .cons _ t, e => by
    obtain ⟨d, h1, h2⟩ := DpAll.at' (i := i) t (by simpa using e)
    exact ⟨d, by simpa using h1, h2⟩
theorem DpAll.app : ∀ {ds es : List PyData} {vs us : List V}, DpAll K H vs ds → DpAll K H us es → DpAll K H (vs ++ us) (ds ++ es)
  | _, _, _, _, .nil, h => h
  | _, _, _, _, .cons a t, h => .cons a (DpAll.app t h)
theorem DpAll.take : ∀ (n : Nat) {ds : List PyData} {vs : List V}, DpAll K H vs ds → DpAll K H (vs.take n) (ds.take n)
  | 0, _, _, _ => by simp; exact .nil
  | _ + 1, _, _, .nil => .nil
  | n + 1, _, _, .cons a t => .cons a (DpAll.take n t)
theorem DpAll.drop : ∀ (n : Nat) {ds : List PyData} {vs : List V}, DpAll K H vs ds → DpAll K H (vs.drop n) (ds.drop n)
  | 0, _, _, h => h
  | _ + 1, _, _, .nil => .nil
  | n + 1, _, _, .cons _ t => DpAll.drop n t
theorem DpAll.set : ∀ (n : Nat) {ds : List PyData} {vs : List V} {v : V} {d : PyData}, DpAll K H vs ds → Dp K H v d → DpAll K H (vs.set n v) (ds.set n d)
  | _, _, _, _, _, .nil, _ => .nil
  | 0, _, _, _, _, .cons _ t, h => .cons h t
  | n + 1, _, _, _, _, .cons a t, h => .cons a (DpAll.set n t h)
theorem Dp.tupI {v : V} {ds : List PyData} (h : Dp K H v (.tuple ds)) : ∃ a xs, v = .ref a ∧ SqT K H a xs ∧ DpAll K H xs ds := by
  cases h with | tup a b => exact ⟨_, _, rfl, a, b⟩
theorem Dp.lstI {v : V} {ds : List PyData} (h : Dp K H v (.list ds)) : ∃ a xs, v = .ref a ∧ SqL K H a xs ∧ DpAll K H xs ds := by
  cases h with | lst a b => exact ⟨_, _, rfl, a, b⟩
/-- a scalar's value -/
def scV : PyData → V
  | .int i => .int i
  | .str x => .str x
  | .bool b => .bl b
  | _ => .non
def isSc : PyData → Bool
  | .int _ => true
  | .str _ => true
  | _ => false
theorem DpAll.flat : ∀ {ds : List PyData} {vs : List V}, ds.all isSc = true → DpAll K H vs ds → vs = ds.map scV
  | [], _, _, h => by cases h; rfl
  | d :: ds, _, q, h => by
    obtain ⟨q1, q2⟩ := Bool.and_eq_true_iff.mp (show (isSc d && ds.all isSc) = true from q)
    cases h with
    | cons a t =>
      rw [DpAll.flat q2 t]
      cases d with
      | int i => cases a; rfl
      | str x => cases a; rfl
      | _ => cases q1
theorem DpAll.ofFlat : ∀ {ds : List PyData}, ds.all isSc = true → DpAll K H (ds.map scV) ds
  | [], _ => .nil
  | d :: ds, q => by
    obtain ⟨q1, q2⟩ := Bool.and_eq_true_iff.mp (show (isSc d && ds.all isSc) = true from q)
    refine .cons ?_ (DpAll.ofFlat q2)
    cases d with
    | int i => exact .int i
    | str x => exact .str x
    | _ => cases q1
end
end K59
set_option maxHeartbeats 4000000
/-! ### the mirror: plain data -/
namespace K59
open PySem L2
abbrev Ev := List PyData
abbrev Tr := List Ev
def evP (e : Ev) : PyData := .tuple e
def trP (t : Tr) : PyData := .list (t.map evP)
def tick : Ev → Int
  | .int t :: _ => t
  | _ => 0
def signs : List Nat := ("abcdefghijklmnopqrstuvwxyz0123456789 " : Str).cps.toList
def letters : List Nat := ("abcdefghijklmnopqrstuvwxyz" : Str).cps.toList
inductive GoodEv : Ev → Prop
  | three (w : Str) (t c a b : Int) : (w = "on" ∨ w = "off" ∨ w = "knob") → (0 ≤ t ∧ t ≤ 999999) → (0 ≤ c ∧ c ≤ 15) → (0 ≤ a ∧ a ≤ 127) → (0 ≤ b ∧ b ≤ 127) → (w = "on" → 1 ≤ b) → GoodEv [.int t, .str w, .int c, .int a, .int b]
  | voice (t c a : Int) : (0 ≤ t ∧ t ≤ 999999) → (0 ≤ c ∧ c ≤ 15) → (0 ≤ a ∧ a ≤ 127) → GoodEv [.int t, .str "voice", .int c, .int a]
  | mark (t : Int) (z : Str) : (0 ≤ t ∧ t ≤ 999999) → z.length ≤ 12 → (∀ c ∈ z.cps.toList, c ∈ signs) → GoodEv [.int t, .str "mark", .str z]
theorem GoodEv.flat {e : Ev} (h : GoodEv e) : e.all isSc = true := by cases h <;> rfl
theorem GoodEv.tk {e : Ev} (h : GoodEv e) : ∃ w r, e = .int (tick e) :: .str w :: r ∧ r ≠ [] ∧ 0 ≤ tick e ∧ tick e ≤ 999999 ∧ e.length ≤ 5 := by
  cases h with
  | three w t c a b h1 h2 h3 h4 h5 h6 => exact ⟨w, _, rfl, by simp, h2.1, h2.2, by simp⟩
  | voice t c a h1 h2 h3 => exact ⟨_, _, rfl, by simp, h1.1, h1.2, by simp⟩
  | mark t z h1 h2 h3 => exact ⟨_, _, rfl, by simp, h1.1, h1.2, by simp⟩
/-- with another tick -/
def atTick (e : Ev) (t : Int) : Ev := .int t :: e.tail
theorem GoodEv.at {e : Ev} (h : GoodEv e) {t : Int} (ht : 0 ≤ t ∧ t ≤ 999999) : GoodEv (atTick e t) := by
  cases h with
  | three w t' c a b h1 h2 h3 h4 h5 h6 => exact .three w t c a b h1 ht h3 h4 h5 h6
  | voice t' c a h1 h2 h3 => exact .voice t c a ht h2 h3
  | mark t' z h1 h2 h3 => exact .mark t z ht h2 h3
theorem tick_at {e : Ev} {t : Int} : tick (atTick e t) = t := rfl
structure TrOk (t : Tr) : Prop where
  good : ∀ e ∈ t, GoodEv e
  rise : t.Pairwise fun a b => tick a ≤ tick b
  few : t.length ≤ 200
theorem TrOk.nil : TrOk [] := ⟨fun _ h => by simp at h, .nil, by simp⟩
/-! ### put, take, later, part -/
def plc (t : Tr) (x : Int) : Nat := (t.filter fun o => decide (tick o ≤ x)).length
def putIn (t : Tr) (e : Ev) : Tr := t.take (plc t (tick e)) ++ [e] ++ t.drop (plc t (tick e))
theorem plc_le (t : Tr) (x : Int) : plc t x ≤ t.length := List.length_filter_le _ _
theorem plc_split {x : Int} : ∀ {t : Tr}, (t.Pairwise fun a b => tick a ≤ tick b) → (∀ e ∈ t.take (plc t x), tick e ≤ x) ∧ ∀ e ∈ t.drop (plc t x), x < tick e
  | [], _ => ⟨fun _ h => by simp [plc] at h, fun _ h => by simp [plc] at h⟩
  | a :: r, h => by
    rw [List.pairwise_cons] at h
    obtain ⟨ha, hr⟩ := h
    obtain ⟨i1, i2⟩ := plc_split (x := x) hr
    by_cases c : tick a ≤ x
    · have e : plc (a :: r) x = plc r x + 1 := by unfold plc; rw [List.filter_cons, if_pos (by simpa using c)]; rfl
      rw [e]
      refine ⟨fun e' he => ?_, fun e' he => i2 e' (by simpa using he)⟩
      rcases List.mem_cons.mp (show e' ∈ a :: r.take (plc r x) by simpa using he) with rfl | he
      · exact c
      · exact i1 e' he
    · have z : ∀ e ∈ r, ¬ tick e ≤ x := fun e' he q => c (Int.le_trans (ha e' he) q)
      have e0 : plc (a :: r) x = 0 := by
        unfold plc
        rw [List.length_eq_zero_iff, List.filter_eq_nil_iff]
        intro e' he
        rcases List.mem_cons.mp he with rfl | he
        · simpa using c
        · simpa using z e' he
      rw [e0]
      refine ⟨fun e' he => by simp at he, fun e' he => ?_⟩
      rcases List.mem_cons.mp (show e' ∈ a :: r from he) with rfl | he
      · omega
      · have := z e' he; omega
theorem putIn_ok {t : Tr} {e : Ev} (h : TrOk t) (g : GoodEv e) (l : t.length ≤ 199) : TrOk (putIn t e) := by
  obtain ⟨s1, s2⟩ := plc_split (x := tick e) h.rise
  have mem : ∀ e' ∈ putIn t e, e' ∈ t ∨ e' = e := fun e' he => by
    unfold putIn at he
    rcases List.mem_append.mp he with he | he
    · rcases List.mem_append.mp he with he | he
      · exact .inl (List.mem_of_mem_take he)
      · exact .inr (List.mem_singleton.mp he)
    · exact .inl (List.mem_of_mem_drop he)
  refine ⟨fun e' he => (mem e' he).elim (h.good e') fun z => z ▸ g, ?_, ?_⟩
  · unfold putIn
    have hr := h.rise
    have hs : (t.take (plc t (tick e)) ++ t.drop (plc t (tick e))).Pairwise fun a b => tick a ≤ tick b := by rw [List.take_append_drop]; exact hr
    rw [List.pairwise_append] at hs
    obtain ⟨p1, p2, p3⟩ := hs
    rw [List.pairwise_append]
    refine ⟨?_, p2, fun a ha b hb => ?_⟩
    · rw [List.pairwise_append]
      exact ⟨p1, List.pairwise_singleton _ _, fun a ha b hb => by rw [List.mem_singleton.mp hb]; exact s1 a ha⟩
    · have hb' := s2 b hb
      rcases List.mem_append.mp ha with ha | ha
      · have := s1 a ha; omega
      · rw [List.mem_singleton.mp ha]; omega
  · unfold putIn
    have := plc_le t (tick e)
    simp only [List.length_append, List.length_take, List.length_drop, List.length_cons, List.length_nil]
    omega
def takeAt (t : Tr) (p : Nat) : Tr := t.take p ++ t.drop (p + 1)
theorem takeAt_sub (t : Tr) (p : Nat) : (takeAt t p).Sublist t := by
  unfold takeAt
  have h : (t.take p ++ t.drop (p + 1)).Sublist (t.take p ++ t.drop p) := (List.Sublist.refl _).append (by
    have : t.drop (p + 1) = (t.drop p).drop 1 := by rw [List.drop_drop]
    rw [this]
    exact List.drop_sublist _ _)
  rwa [List.take_append_drop] at h
theorem TrOk.sub {t u : Tr} (h : TrOk t) (s : u.Sublist t) : TrOk u := ⟨fun e he => h.good e (s.subset he), h.rise.sublist s, Nat.le_trans s.length_le h.few⟩
def laterT (t : Tr) (by' : Int) : Tr := t.map fun e => atTick e (tick e + by')
theorem laterT_ok {t : Tr} {b : Int} (h : TrOk t) (g : ∀ e ∈ t, 0 ≤ tick e + b ∧ tick e + b ≤ 999999) : TrOk (laterT t b) := by
  refine ⟨fun e he => ?_, ?_, by unfold laterT; rw [List.length_map]; exact h.few⟩
  · obtain ⟨e', he', rfl⟩ := List.mem_map.mp he
    exact (h.good e' he').at (g e' he')
  · unfold laterT
    rw [List.pairwise_map]
    refine h.rise.imp fun {a b'} hab => ?_
    show tick a + b ≤ tick b' + b
    omega
/-- of a channel -/
def isOf (c : Int) : Ev → Bool
  | _ :: .str w :: .int k :: _ => !decide (w = "mark") && decide (k = c)
  | _ => false
def mineT (t : Tr) (c : Int) : Tr := t.filter (isOf c)
def restT (t : Tr) (c : Int) : Tr := t.filter fun e => !isOf c e
/-! ### tapes and books -/
structure Tp where
  beat : Int
  paces : List (Int × Int)
  tracks : List Tr
abbrev Bk := List (Str × Tp)
def tksP (ts : List Tr) : PyData := .list (ts.map trP)
def kvI (p : Int × Int) : Key × V := (Sum.inl p.1, .int p.2)
def prP (p : Int × Int) : PyData := .tuple [.int p.1, .int p.2]
structure TpOk (t : Tp) : Prop where
  beat : 1 ≤ t.beat ∧ t.beat ≤ 960
  keys : (t.paces.map (·.1)).Nodup
  pace : ∀ p ∈ t.paces, (0 ≤ p.1 ∧ p.1 ≤ 999999) ∧ 1 ≤ p.2 ∧ p.2 ≤ 16777215
  fewP : t.paces.length ≤ 20
  some1 : 1 ≤ t.tracks.length
  few : t.tracks.length ≤ 6
  trs : ∀ r ∈ t.tracks, TrOk r
def nameOk (n : Str) : Prop := 1 ≤ n.length ∧ n.length ≤ 8 ∧ ∀ c ∈ n.cps.toList, 97 ≤ c ∧ c ≤ 122
structure BkOk (b : Bk) : Prop where
  keys : (b.map (·.1)).Nodup
  nm : ∀ p ∈ b, nameOk p.1
  tp : ∀ p ∈ b, TpOk p.2
  few : b.length ≤ 6
/-- put at a key -/
def putA {κ α : Type} [DecidableEq κ] (l : List (κ × α)) (k : κ) (v : α) : List (κ × α) := if (l.any fun p => decide (p.1 = k)) = true then l.map (fun p => if p.1 = k then (p.1, v) else p) else l ++ [(k, v)]
def atA {κ α : Type} [DecidableEq κ] (l : List (κ × α)) (k : κ) : Option α := (l.find? fun p => decide (p.1 = k)).map (·.2)
def dropA {κ α : Type} [DecidableEq κ] (l : List (κ × α)) (k : κ) : List (κ × α) := l.filter fun p => !decide (p.1 = k)
inductive Deed where
  | new (n : Str) (b : Int) | drop (n : Str) | add (n : Str) | put (n : Str) (k : Int) (e : Ev) | take (n : Str) (k p : Int) | pace (n : Str) (t p : Int) | later (n : Str) (k b : Int) | part (n : Str) (k c : Int)
def Deed.word : Deed → Str
  | .new .. => "new" | .drop .. => "drop" | .add .. => "add" | .put .. => "put" | .take .. => "take" | .pace .. => "pace" | .later .. => "later" | .part .. => "part"
def Deed.name : Deed → Str
  | .new n .. => n | .drop n => n | .add n => n | .put n .. => n | .take n .. => n | .pace n .. => n | .later n .. => n | .part n .. => n
def Deed.rest : Deed → List PyData
  | .new _ b => [.int b] | .drop _ => [] | .add _ => [] | .put _ k e => [.int k, evP e] | .take _ k p => [.int k, .int p] | .pace _ t p => [.int t, .int p] | .later _ k b => [.int k, .int b] | .part _ k c => [.int k, .int c]
def Deed.P (d : Deed) : PyData := .tuple (.str d.word :: .str d.name :: d.rest)
def setT (t : Tp) (k : Int) (f : Tr → Tr) : Tp := { t with tracks := t.tracks.set k.toNat (f (t.tracks.getD k.toNat [])) }
/-- what the deed makes of the tape of its name -/
def onTp (t : Tp) : Deed → Tp
  | .add _ => { t with tracks := t.tracks ++ [[]] }
  | .put _ k e => setT t k fun r => putIn r e
  | .take _ k p => setT t k fun r => takeAt r p.toNat
  | .pace _ x p => { t with paces := putA t.paces x p }
  | .later _ k b => setT t k fun r => laterT r b
  | .part _ k c => { t with tracks := t.tracks.set k.toNat (restT (t.tracks.getD k.toNat []) c) ++ [mineT (t.tracks.getD k.toNat []) c] }
  | _ => t
def done (b : Bk) (d : Deed) : Bk := match d with
  | .new n x => b ++ [(n, ⟨x, [], [[]]⟩)]
  | .drop n => dropA b n
  | d => b.map fun p => if p.1 = d.name then (p.1, onTp p.2 d) else p
/-- may be done to a tape -/
def GoodT (t : Tp) : Deed → Prop
  | .add _ => t.tracks.length ≤ 5
  | .put _ k e => (0 ≤ k ∧ k < t.tracks.length) ∧ GoodEv e ∧ (t.tracks.getD k.toNat []).length ≤ 199
  | .take _ k p => (0 ≤ k ∧ k < t.tracks.length) ∧ 0 ≤ p ∧ p < (t.tracks.getD k.toNat []).length
  | .pace _ x p => (0 ≤ x ∧ x ≤ 999999) ∧ (1 ≤ p ∧ p ≤ 16777215) ∧ (x ∈ t.paces.map (·.1) ∨ t.paces.length ≤ 19)
  | .later _ k b => (0 ≤ k ∧ k < t.tracks.length) ∧ ∀ e ∈ t.tracks.getD k.toNat [], 0 ≤ tick e + b ∧ tick e + b ≤ 999999
  | .part _ k c => (0 ≤ k ∧ k < t.tracks.length) ∧ (0 ≤ c ∧ c ≤ 15) ∧ t.tracks.length ≤ 5
  | _ => True
def Good (b : Bk) (d : Deed) : Prop := match d with
  | .new n x => nameOk n ∧ n ∉ b.map (·.1) ∧ (1 ≤ x ∧ x ≤ 960) ∧ b.length ≤ 5
  | d => ∃ t, atA b d.name = some t ∧ GoodT t d
end K59
set_option maxHeartbeats 4000000
namespace K59
open PySem PySem.Spec PyProof.Rows L2
theorem ok_there {P : Program} {w : World} {H : Hp} {h : Heap} {a : Addr} {o : HO} (x : ObjOk P w H h a o) : ∃ ob, h.get? a = some ob := by
  cases o with
  | lst xs => obtain ⟨_, _, _, _, e⟩ := x; exact ⟨_, e⟩
  | tup xs => obtain ⟨_, _, _, ob, e, _⟩ := x; exact ⟨_, e⟩
  | dK kvs => obtain ⟨_, _, _, _, ob, _, _, e, _⟩ := x; exact ⟨_, e⟩
  | dT kvs => obtain ⟨_, _, _, _, ob, _, _, e, _⟩ := x; exact ⟨_, e⟩
  | set S n => obtain ⟨ob, _, _, _, e, _⟩ := x; exact ⟨_, e⟩
  | ins C dx fs => obtain ⟨_, _, _, e, _⟩ := x; exact ⟨_, e⟩
  | own y => exact x
  | xd fs => obtain ⟨_, ⟨_, _, _, e, _⟩, _⟩ := x; exact ⟨_, e⟩
  | rng lo hi => obtain ⟨_, _, _, e⟩ := x; exact ⟨_, e⟩
  | frz ob u => exact ⟨_, x.1⟩
  | tbl ps => exact ⟨_, show h.get? a = some _ from x⟩
  | met f y => exact ⟨_, show h.get? a = some _ from x⟩
  | ext φ => exact x.2.1
/-! ### a star among the targets -/
section
variable {X : Cx} {pos : Pos}
/-- (a, b, *c) = a tuple: n targets, the star at i -/
def gStar (K : PySem.W.Frag) (n i : Nat) (t : TGs) : TG := fun v σ H Q => ∃ a xs, v = .ref a ∧ SqT K H a xs ∧ n ≤ xs.length + 1 ∧ xs.length ≤ 16384 ∧
  ∀ D, H D = none → t (xs.take i ++ [.ref D] ++ (xs.drop i).drop (xs.length + 1 - n)) σ (upd H D (.lst ((xs.drop i).take (xs.length + 1 - n)))) Q
theorem pgs_star {e : Expr} {es : List Expr} {t : TG} {u : TGs} {x1 : Pos} (h1 : PG X e t) (h2 : PGs X es u)
    (hs : (assignEach (.Starred e x1 :: es) X.env).map (·.2) = assign e X.env :: (assignEach es X.env).map (·.2) := by rfl) : PGs X (.Starred e x1 :: es) (gCons t u) := by
  refine ⟨fun pins s σ H vs us Q I r h => ?_⟩
  obtain ⟨v, vr, rfl, h⟩ := h
  cases r with
  | cons r rr =>
    rw [hs]
    exact assignInOrder_cons (thn (h1.run pins s σ H _ _ _ I r h) fun _ s1 ⟨σ1, H1, I1, q1⟩ => h2.run pins s1 σ1 H1 _ _ Q I1 rr q1)
theorem pg_star {es : List Expr} {k : Nat} {t : TGs} {n i : Nat} (hc : X.calm = true) (h : PGs X es t) (hn : (assignEach es X.env).length = n := by rfl) (hst : (assignEach es X.env).findIdx? (·.1) = some i := by rfl) (hi : i < n := by decide) :
    PG X (.Tuple es k pos) (gStar X.K n i t) := by
  refine ⟨fun pins s σ H v u Q I r hw => ?_⟩
  obtain ⟨a, xs, rfl, hq, hl, hz, hw⟩ := hw
  cases r
  obtain ⟨its, rv, ht, hz'⟩ := I.tuple hq
  obtain ⟨m, F⟩ := I.fr
  have hlen : its.length = xs.length := rv.length.symm
  refine PySem.W.kun_assignT F (news_all (g := X.base) (h := s.heap) (L := X.env.locals)) ht (I.ok.hd hc) hn hst hi (by rw [List.size_toArray, hlen]; exact hl) (by rw [List.size_toArray, hlen]; exact hz) rfl rfl rfl fun D h' tk F' N' hD => ?_
  have kept : ∀ b o, b ≠ X.env.locals → s.heap.get? b = some o → h'.get? b = some o := fun b o hb e => by
    cases q : X.base.get? b with
    | some o' =>
      have e2 := I.bk b o' q
      rw [e] at e2
      cases e2
      exact F'.keep b _ q
    | none => exact (N' (b, o) (List.mem_cons_of_mem _ (mem_allNews hb q e))).1
  have newD : h'.get? D = some (PySem.W.listOf ((its.toArray.toList.drop i).take (its.toArray.size + 1 - n)).toArray 0) := (N' _ List.mem_cons_self).1
  have DL : D ≠ X.env.locals := (N' _ List.mem_cons_self).2.1
  have DB : X.base.get? D = none := (N' _ List.mem_cons_self).2.2
  have hsD : s.heap.get? D = none := by
    cases q : s.heap.get? D with
    | none => rfl
    | some o => exact absurd (hD (D, o) (mem_allNews DL DB q)) (Nat.lt_irrefl _)
  have freshD : H D = none := by
    cases q : H D with
    | none => rfl
    | some o =>
      obtain ⟨ob, e⟩ := ok_there (I.hok D o q)
      rw [hsD] at e
      cases e
  have hLs : ∃ oL, s.heap.get? X.env.locals = some oL := by
    obtain ⟨_, ⟨oL, _, _, e, _⟩, _⟩ := id I.loc
    exact ⟨oL, e⟩
  have eD : (its.toArray.toList.drop i).take (its.toArray.size + 1 - n) = (its.drop i).take (xs.length + 1 - n) := by rw [List.size_toArray, hlen]
  have rD : Vals ((xs.drop i).take (xs.length + 1 - n)) ((its.drop i).take (xs.length + 1 - n)) := (rv.drop i).take _
  rw [eD] at newD
  have stayH : ∀ b o, H b = some o → upd H D (.lst ((xs.drop i).take (xs.length + 1 - n))) b = some o := fun b o e => by
    rw [upd_ne (ne_of_none e freshD)]
    exact e
  have hok' : HOk X.prog X.w (upd H D (.lst ((xs.drop i).take (xs.length + 1 - n)))) h' := fun b o e => by
    by_cases hb : b = D
    · subst hb
      rw [upd_same] at e
      cases e
      exact ⟨by rw [List.length_take, List.length_drop]; omega, _, 0, rD, newD⟩
    · rw [upd_ne hb] at e
      refine (I.hok b o e).stay (fun c ob hc q => kept c ob (fun z => ?_) q) (fun c q => stayH c _ q) fun c ys q => stayH c _ q
      rcases hc with hc | hc
      · rw [hc] at z; rw [z, I.free] at e; cases e
      · rw [z, I.free] at hc; cases hc
  have J : Inv X pins σ (upd H D (.lst ((xs.drop i).take (xs.length + 1 - n)))) { s with heap := h', toks := tk } := by
    refine I.step (g' := s.gens) (d' := s.drawn) (ch := []) (fun _ z => nomatch z) (fun b o hb _ _ e _ => kept b o hb e) (fun b o hb _ _ e _ => ⟨o.slots, kept b o hb e⟩) (fun b o _ e q => ?_) (fun b o _ e => ?_) (fun b ys e => stayH b _ e) (fun b ob u e => stayH b _ e)
      (fun b ps e => ⟨#[], by rw [stayH b _ e]; simp⟩) (fun m' hm => ?_) hok' I.bare
    · rw [upd_ne (fun z => by rw [z, hsD] at e; cases e)]
      exact q
    · by_cases hb : b = X.env.locals
      · subst hb
        obtain ⟨oL, _, _, e2, _⟩ := F'.ns
        exact ⟨oL, e2⟩
      · exact ⟨o, kept b o hb e⟩
    · rw [SlX.ns_only hm F.ns]
      exact F'.ns
  have e1 : its.toArray.toList.take i = its.take i := rfl
  have e3 : (its.toArray.toList.drop i).drop (its.toArray.size + 1 - n) = (its.drop i).drop (xs.length + 1 - n) := by rw [List.size_toArray, hlen]
  rw [e1, e3]
  exact h.run pins _ σ _ _ _ Q J (((rv.take i).append (.cons (show RelV (V.ref D) (Value.ref D) from rfl) .nil)).append ((rv.drop i).drop _)) (hw D freshD)
end
/-! ### o.f as a target among others -/
section
variable {X : Cx} {pos : Pos}
def gFld (K : PySem.W.Frag) (ta : TE) (f : Str) : TG := fun v σ H Q => ta σ H fun x H1 => ∃ a C dx fs, x = .ref a ∧ H1 a = some (.ins C dx fs) ∧ Cls K C ∧ NoAttr K C f ∧ fs.length < 1000 ∧ Q σ (upd H1 a (.ins C dx (putF f v fs)))
theorem pg_fld {o : Expr} {f : Str} {ta : TE} (ha : PE X o ta) : PG X (.Attribute o f pos) (gFld X.K ta f) := by
  refine ⟨fun pins s σ H v u Q I r h => ?_⟩
  rw [assign_Attribute]
  refine wpAny_bind (wpAny_holding (thn (ha.run pins s σ H _ I h) fun ov s1 ⟨x, H1, I1, rx, a, C, dx, fs, ex, ea, c, n, l, q⟩ => ?_))
  subst ex
  obtain rfl : ov = Value.ref a := rx
  refine wpAny_bind (wpAny_standAt (wpAny_bind (wpAny_holding (setattr_ok I1 ea c n l r fun s2 I2 => ?_))))
  exact wpAny_release ⟨σ, _, I2, q⟩
end
/-! ### dict(d) -/
theorem call_dict_copy {X : Cx} : CallR X (.type "dict") (fun xs H Q => ∃ (a : Addr) (kvs : List (Key × V)), xs = [.ref a] ∧ Rd H a (.dK kvs) ∧ ∀ p, H p = none → Q (.ref p) (upd H p (.dK kvs))) := by
  intro pins s σ H xs us Q I r h
  obtain ⟨a, kvs, rfl, e, q⟩ := h
  obtain ⟨u, rfl, ru⟩ := vals1 r
  obtain rfl : u = Value.ref a := ru
  exact d_copyOf I e fun p s' n J => ⟨.ref p, _, J, rfl, q p n⟩
end K59
set_option maxHeartbeats 4000000
/-! ### zip(v, t, strict=True) over two sources of one length -/
namespace K59
open PySem PySem.Sem
abbrev IsZipS (h : Heap) (z TI TO : Addr) (f0 : Value) : Prop :=
  h.get? z = some { cls := .type "zip", dict := none, data := .fields #[f0, .bool false, .bool true, .ref TI, .ref TO], slots := #[] }
section
variable {prog : Program} {w : World} {A : Around} {E : Value → Shared → Prop} {s : Shared}
/-- the end of an iterator, told as none -/
theorem end_none {it : Value} {Q : Option Value → Shared → Prop}
    (h : ∀ E' : Value → Shared → Prop, (∀ e s', (∃ a o, e = .ref a ∧ s'.heap.get? a = some o ∧ o.cls = .type "StopIteration") ∧ Q none s' → E' e s') → wpAny (model prog w) A (Builtin.SmallTypes.nextOf it) (fun _ _ => False) E' s) :
    wpAny (model prog w) A (Builtin.SmallTypes.nextOrEnd it) Q E s := by
  unfold Builtin.SmallTypes.nextOrEnd
  refine wpAny_bind (wpAny_attempt (wpAny_mono (h (fun e s' => (∃ a o, e = .ref a ∧ s'.heap.get? a = some o ∧ o.cls = .type "StopIteration") ∧ Q none s') fun _ _ q => q) (fun _ _ z => z.elim) fun e s' hx => ?_))
  obtain ⟨⟨a, o, rfl, ho, hc⟩, q⟩ := hx
  refine wpAny_bind (wpAny_isInstance (T := "StopIteration") (b := true) ⟨o, ho, hc⟩ isSubtype_stop ?_)
  exact wpAny_pure q
theorem one_some {it : Value} {Q : Option Value → Shared → Prop} (h : wpAny (model prog w) A (Builtin.SmallTypes.nextOf it) (fun v s' => Q (some v) s') (fun _ _ => False) s) :
    wpAny (model prog w) A (Builtin.SmallTypes.nextOrEnd it) Q E s := by
  unfold Builtin.SmallTypes.nextOrEnd
  exact wpAny_bind (wpAny_attempt (wpAny_mono h (fun v s' q => wpAny_pure q) fun _ _ z => z.elim))
/-- a new StopIteration -/
theorem stop_new {α : Type} {Q : α → Shared → Prop} (hh : A.handled = none) (hE : ∀ h' e, (∀ b o, s.heap.get? b = some o → h'.get? b = some o) → (∃ o, h'.get? e = some o ∧ o.cls = .type "StopIteration") → E (.ref e) { s with heap := h' }) :
    wpAny (model prog w) A (Builtin.SmallTypes.stopIteration : Sem α) Q E s := by
  unfold Builtin.SmallTypes.stopIteration
  refine wpAny_bind ?_
  simp only [newExc, newTuple]
  refine wpAny_bind (wpAny_newObj_type ?_ (by size_fits))
  refine wpAny_bind (m := firstArgMember _ _) (wpAny_of_eq (a := Value.none) (by first | rfl | (simp only [firstArgMember]; rfl)) ?_)
  refine wpAny_newObj_type ?_ (by size_fits)
  simp only [raiseNew]
  refine wpAny_bind (wpAny_handled ?_)
  first | rw [show A.in1.handled = none from hh] | rw [hh]
  refine wpAny_bind (wpAny_pure (wpAny_throw ?_))
  exact hE _ _ (fun b o e => Heap.get?_push_of_some _ (Heap.get?_push_of_some _ e)) ⟨_, Heap.get?_push_size _ rfl, rfl⟩
end
section
variable {prog : Program} {w : World} {A : Around} {E : Value → Shared → Prop} {s : Shared} {z TI TO i1 i2 : Addr} {fp1 fp2 : List Addr} {n n1 n2 i : Nat} {P1 P2 : Nat → Value → Prop} {St1 St2 : Nat → Heap → Prop} {a1 a2 : Value}
theorem zipS_item {Q : Value → Shared → Prop} (S : ZipSep2 z TI TO i1 i2 fp1 fp2) (D1 : Draws prog w A i1 fp1 n1 P1 St1) (D2 : Draws prog w A i2 fp2 n2 P2 St2)
    (hz : IsZipS s.heap z TI TO .none) (hTI : IsTupOf2 s.heap TI (.ref i1) (.ref i2)) (hTO : IsTupOf2 s.heap TO a1 a2) (st1 : St1 i s.heap) (st2 : St2 i s.heap) (lt1 : i < n1) (lt2 : i < n2)
    (hQ : ∀ x1 x2 h' tk, P1 i x1 → P2 i x2 → IsZipS h' z TI TO (rawInt s.heap.objs.size) → IsTupOf2 h' TO x1 x2 → St1 (i + 1) h' → St2 (i + 1) h' → IsTupOf2 h' s.heap.objs.size x1 x2 → h'.objs.size = s.heap.objs.size + 1 →
      (∀ c o, c ≠ z → c ≠ TO → c ≠ i1 → c ≠ i2 → s.heap.get? c = some o → h'.get? c = some o) → Q (.ref s.heap.objs.size) { s with heap := h', toks := tk }) :
    wpAny (model prog w) A (Builtin.«zip.__next__» ⟨[.ref z], []⟩) (fun fin s' => ∃ v, fin = .done (.ret v) ∧ Q v s') E s := by
  obtain ⟨hp, g, d, tk0, os⟩ := s
  show wpAny _ _ (field (.ref z) 2 >>= _) _ _ _
  refine wpAny_bind (wpAny_field hz rfl (x := .bool true) rfl ?_)
  show wpAny _ _ (field (.ref z) 3 >>= _) _ _ _
  refine wpAny_bind (wpAny_field hz rfl (x := .ref TI) rfl (wpAny_bind (wpAny_seqItems hTI rfl ?_)))
  show wpAny _ _ (Builtin.SmallTypes.ownedTupleIsFree (.ref z) >>= _) _ _ _
  unfold Builtin.SmallTypes.ownedTupleIsFree
  refine wpAny_bind (wpAny_bind (wpAny_field hz rfl (x := .none) rfl (wpAny_pure ?_)))
  simp only [if_true]
  refine wpAny_bind (wpAny_rule (wpAny_bind (wpAny_field hz rfl (x := .ref TO) rfl (wpAny_bind (wpAny_setField_rec hz (by simp) fun g0 hz0 hs0 => ?_)))))
  replace hz0 : IsZipS g0 z TI TO .ellipsis := hz0
  replace hs0 : Heap.SameBut z hp g0 := hs0
  refine wpAny_bind ?_
  simp only [List.zipIdx_cons, List.zipIdx_nil, List.forIn_cons, List.forIn_nil]
  refine wpAny_bind (wpAny_bind (wpAny_onRaise ?_))
  show wpAny _ _ (Builtin.SmallTypes.nextOrEnd (.ref i1)) _ _ ⟨g0, g, d, tk0, os⟩
  refine one_some (D1.item i _ _ _ lt1 (D1.over st1 hs0 S.zf1) fun x1 p1 tk1 hx1 sn1 hp1 => ?_)
  replace hp1 : Heap.SameBut i1 g0 p1 := hp1
  have hU1 : IsTupOf2 p1 TO a1 a2 := hp1.extBut _ _ S.Ti1 (hs0.extBut _ _ S.TOz hTO)
  refine wpAny_bind (wpAny_seqItems (s := ⟨p1, g, d, tk1, os⟩) hU1 rfl (wpAny_bind (updateSeq_IsTupOf2 (s := ⟨p1, g, d, tk1, os⟩) hU1 fun g1 hT1 hs1 => ?_)))
  replace hT1 : IsTupOf2 g1 TO x1 a2 := hT1
  replace hs1 : Heap.SameBut TO p1 g1 := hs1
  refine wpAny_bind (wpAny_letGo (wpAny_pure (wpAny_bind (wpAny_bind (wpAny_onRaise ?_)))))
  show wpAny _ _ (Builtin.SmallTypes.nextOrEnd (.ref i2)) _ _ ⟨g1, g, d, tk1, os⟩
  refine one_some (D2.item i _ _ _ lt2 (D2.over (D2.over (D2.over st2 hs0 S.zf2) hp1 S.sep1_2) hs1 S.Tf2) fun x2 p2 tk2 hx2 sn2 hp2 => ?_)
  replace hp2 : Heap.SameBut i2 g1 p2 := hp2
  have hU2 : IsTupOf2 p2 TO x1 a2 := hp2.extBut _ _ S.Ti2 hT1
  refine wpAny_bind (wpAny_seqItems (s := ⟨p2, g, d, tk2, os⟩) hU2 rfl (wpAny_bind (updateSeq_IsTupOf2 (s := ⟨p2, g, d, tk2, os⟩) hU2 fun g2 hT2 hs2 => ?_)))
  replace hT2 : IsTupOf2 g2 TO x1 x2 := hT2
  replace hs2 : Heap.SameBut TO p2 g2 := hs2
  refine wpAny_bind (wpAny_letGo (wpAny_pure (wpAny_pure ?_)))
  refine wpAny_bind (wpAny_seqItems (s := ⟨g2, g, d, tk2, os⟩) hT2 rfl (wpAny_bind (wpAny_newTuple ?_)))
  have hsz : g2.objs.size = hp.objs.size := by rw [hs2.1, hp2.1, hs1.1, hp1.1, hs0.1]
  have hzz : IsZipS g2 z TI TO .ellipsis := hs2.extBut _ _ S.TOz.symm (hp2.extBut _ _ S.zi2 (hs1.extBut _ _ S.TOz.symm (hp1.extBut _ _ S.zi1 hz0)))
  have old : ∀ c o, c ≠ z → c ≠ TO → c ≠ i1 → c ≠ i2 → hp.get? c = some o → g2.get? c = some o := fun c o cz cT c1 c2 e =>
    hs2.extBut _ _ cT (hp2.extBut _ _ c2 (hs1.extBut _ _ cT (hp1.extBut _ _ c1 (hs0.extBut _ _ cz e))))
  have hj1 := D1.over (D1.over (D1.over sn1 hs1 S.Tf1) hp2 S.sep2_1) hs2 S.Tf1
  have hj2 := D2.over sn2 hs2 S.Tf2
  have zlt : z < g2.objs.size := Heap.lt_size hzz
  show wpAny _ _ (Builtin.SmallTypes.ownedTupleHandOut (.ref z) (.ref g2.objs.size) >>= _) _ _ ⟨g2.push { cls := .type "tuple", data := .seq #[x1, x2] }, g, d, tk2, os⟩
  unfold Builtin.SmallTypes.ownedTupleHandOut
  have hz6 : IsZipS (g2.push { cls := .type "tuple", data := .seq #[x1, x2] }) z TI TO .ellipsis := Heap.get?_push_of_some _ hzz
  refine wpAny_bind (wpAny_bind (wpAny_setField_rec hz6 (by simp) fun h7 hz7 hs7 => ?_))
  replace hz7 : IsZipS h7 z TI TO (rawInt g2.objs.size) := hz7
  refine wpAny_setField_rec hz7 (by simp) fun h8 hz8 hs8 => ?_
  replace hz8 : IsZipS h8 z TI TO (rawInt g2.objs.size) := hz8
  replace hs7 : Heap.SameBut z (g2.push { cls := .type "tuple", data := .seq #[x1, x2] }) h7 := hs7
  replace hs8 : Heap.SameBut z h7 h8 := hs8
  have up : ∀ c o, c ≠ z → g2.get? c = some o → h8.get? c = some o := fun c o c1 e => hs8.extBut _ _ c1 (hs7.extBut _ _ c1 (Heap.get?_push_of_some _ e))
  have hT8 : IsTupOf2 h8 g2.objs.size x1 x2 := hs8.extBut _ _ (Nat.ne_of_gt zlt) (hs7.extBut _ _ (Nat.ne_of_gt zlt) (Heap.get?_push_size _ rfl))
  have sz8 : h8.objs.size = g2.objs.size + 1 := by rw [hs8.1, hs7.1, Heap.size_push]
  rw [hsz] at hz8 hT8 sz8
  refine wpAny_pure ⟨_, rfl, ?_⟩
  show Q (.ref g2.objs.size) ⟨h8, g, d, tk2, os⟩
  rw [hsz]
  exact hQ x1 x2 h8 tk2 hx1 hx2 hz8 (up _ _ S.TOz hT2) (D1.frame _ _ _ hj1 fun b hb o e => up b o (fun q => S.zf1 (q ▸ hb)) e) (D2.frame _ _ _ hj2 fun b hb o e => up b o (fun q => S.zf2 (q ▸ hb)) e) hT8 sz8 fun c o cz cT c1 c2 e => up c o cz (old c o cz cT c1 c2 e)
theorem zipS_end {Q : Fin → Shared → Prop} (hh : A.handled = none) (S : ZipSep2 z TI TO i1 i2 fp1 fp2) (D1 : Draws prog w A i1 fp1 n P1 St1) (D2 : Draws prog w A i2 fp2 n P2 St2)
    (hz : IsZipS s.heap z TI TO .none) (hTI : IsTupOf2 s.heap TI (.ref i1) (.ref i2)) (hTO : IsTupOf2 s.heap TO a1 a2) (st1 : St1 n s.heap) (st2 : St2 n s.heap)
    (hE : ∀ h' tk e, (∀ c o, c ≠ z → c ≠ TO → c ≠ i1 → c ≠ i2 → s.heap.get? c = some o → h'.get? c = some o) → (∃ o, h'.get? e = some o ∧ o.cls = .type "StopIteration") → E (.ref e) { s with heap := h', toks := tk }) :
    wpAny (model prog w) A (Builtin.«zip.__next__» ⟨[.ref z], []⟩) Q E s := by
  obtain ⟨hp, g, d, tk0, os⟩ := s
  show wpAny _ _ (field (.ref z) 2 >>= _) _ _ _
  refine wpAny_bind (wpAny_field hz rfl (x := .bool true) rfl ?_)
  show wpAny _ _ (field (.ref z) 3 >>= _) _ _ _
  refine wpAny_bind (wpAny_field hz rfl (x := .ref TI) rfl (wpAny_bind (wpAny_seqItems hTI rfl ?_)))
  show wpAny _ _ (Builtin.SmallTypes.ownedTupleIsFree (.ref z) >>= _) _ _ _
  unfold Builtin.SmallTypes.ownedTupleIsFree
  refine wpAny_bind (wpAny_bind (wpAny_field hz rfl (x := .none) rfl (wpAny_pure ?_)))
  simp only [if_true]
  refine wpAny_bind (wpAny_rule (wpAny_bind (wpAny_field hz rfl (x := .ref TO) rfl (wpAny_bind (wpAny_setField_rec hz (by simp) fun g0 hz0 hs0 => ?_)))))
  replace hz0 : IsZipS g0 z TI TO .ellipsis := hz0
  replace hs0 : Heap.SameBut z hp g0 := hs0
  refine wpAny_bind ?_
  simp only [List.zipIdx_cons, List.zipIdx_nil, List.forIn_cons, List.forIn_nil]
  refine wpAny_bind (wpAny_bind (wpAny_onRaise ?_))
  show wpAny _ _ (Builtin.SmallTypes.nextOrEnd (.ref i1)) _ _ ⟨g0, g, d, tk0, os⟩
  refine end_none fun E' k1 => D1.done ⟨g0, g, d, tk0, os⟩ _ _ (D1.over st1 hs0 S.zf1) fun q1 e1 hq1 he1 => k1 _ _ ⟨⟨e1, he1.choose, rfl, he1.choose_spec.1, he1.choose_spec.2⟩, ?_⟩
  clear k1 E'
  replace hq1 : Heap.ExtBut i1 g0 q1 := hq1
  have hzq : IsZipS q1 z TI TO .ellipsis := hq1 _ _ S.zi1 hz0
  show wpAny _ _ (setField (.ref z) 0 .none >>= _) _ _ ⟨q1, g, d, tk0, os⟩
  refine wpAny_bind (wpAny_setField_rec (s := ⟨q1, g, d, tk0, os⟩) hzq (by simp) fun g1 hz1 hs1 => ?_)
  replace hs1 : Heap.SameBut z q1 g1 := hs1
  refine wpAny_bind ?_
  show wpAny _ _ (_ >>= _) _ _ ⟨g1, g, d, tk0, os⟩
  refine wpAny_bind ?_
  simp only [List.drop_succ_cons, List.drop_zero, List.zipIdx_cons, List.zipIdx_nil, List.forIn_cons, List.forIn_nil]
  refine wpAny_bind (wpAny_bind ?_)
  have sn2 : St2 n g1 := D2.frame _ _ _ st2 fun b hb o e => hs1.extBut _ _ (fun q => S.zf2 (q ▸ hb)) (hq1 _ _ (fun q => S.sep1_2 (q ▸ hb)) (hs0.extBut _ _ (fun q => S.zf2 (q ▸ hb)) e))
  refine end_none fun E' k2 => D2.done ⟨g1, g, d, tk0, os⟩ _ _ sn2 fun q2 e2 hq2 he2 => k2 _ _ ⟨⟨e2, he2.choose, rfl, he2.choose_spec.1, he2.choose_spec.2⟩, ?_⟩
  clear k2 E'
  replace hq2 : Heap.ExtBut i2 g1 q2 := hq2
  refine wpAny_pure (wpAny_pure (wpAny_bind (wpAny_rule ?_)))
  refine stop_new (s := ⟨q2, g, d, tk0, os⟩) hh fun h' e ho he => ?_
  exact hE h' tk0 e (fun c o cz cT c1 c2 x => ho _ _ (hq2 _ _ c2 (hs1.extBut _ _ cz (hq1 _ _ c1 (hs0.extBut _ _ cz x))))) he
theorem nextS_item {Q : Option Value → Shared → Prop} (S : ZipSep2 z TI TO i1 i2 fp1 fp2) (D1 : Draws prog w A.in1 i1 fp1 n1 P1 St1) (D2 : Draws prog w A.in1 i2 fp2 n2 P2 St2)
    (hz : IsZipS s.heap z TI TO .none) (hTI : IsTupOf2 s.heap TI (.ref i1) (.ref i2)) (hTO : IsTupOf2 s.heap TO a1 a2) (st1 : St1 i s.heap) (st2 : St2 i s.heap) (lt1 : i < n1) (lt2 : i < n2)
    (hQ : ∀ x1 x2 h' tk, P1 i x1 → P2 i x2 → IsZipS h' z TI TO (rawInt s.heap.objs.size) → IsTupOf2 h' TO x1 x2 → St1 (i + 1) h' → St2 (i + 1) h' → IsTupOf2 h' s.heap.objs.size x1 x2 → h'.objs.size = s.heap.objs.size + 1 →
      (∀ c o, c ≠ z → c ≠ TO → c ≠ i1 → c ≠ i2 → s.heap.get? c = some o → h'.get? c = some o) → Q (some (.ref s.heap.objs.size)) { s with heap := h', toks := tk }) :
    wpAny (model prog w) A (pyNext (.ref z)) Q E s := by
  have hT : s.TypeIs (.ref z) "zip" := ⟨_, hz, rfl⟩
  unfold pyNext
  refine wpAny_bind (wpAny_attempt (wpAny_callSpecial?_slot (name := Str.ofString "__next__") hT F.slot_zip_next (wpAny_call_entry F.slot_zip_next hT F.entry_zip_next ?_ (F.args_zip_next_1 _))))
  exact zipS_item S D1 D2 hz hTI hTO st1 st2 lt1 lt2 fun x1 x2 h' tk y1 y2 b1 b2 d1 d2 b5 b6 b7 => wpAny_pure (hQ x1 x2 h' tk y1 y2 b1 b2 d1 d2 b5 b6 b7)
theorem nextS_end {Q : Option Value → Shared → Prop} (hh : A.in1.handled = none) (S : ZipSep2 z TI TO i1 i2 fp1 fp2) (D1 : Draws prog w A.in1 i1 fp1 n P1 St1) (D2 : Draws prog w A.in1 i2 fp2 n P2 St2)
    (hz : IsZipS s.heap z TI TO .none) (hTI : IsTupOf2 s.heap TI (.ref i1) (.ref i2)) (hTO : IsTupOf2 s.heap TO a1 a2) (st1 : St1 n s.heap) (st2 : St2 n s.heap)
    (hQ : ∀ h' tk, (∀ c o, c ≠ z → c ≠ TO → c ≠ i1 → c ≠ i2 → s.heap.get? c = some o → h'.get? c = some o) → Q none { s with heap := h', toks := tk }) : wpAny (model prog w) A (pyNext (.ref z)) Q E s := by
  have hT : s.TypeIs (.ref z) "zip" := ⟨_, hz, rfl⟩
  unfold pyNext
  refine wpAny_bind (wpAny_attempt (wpAny_callSpecial?_slot (name := Str.ofString "__next__") hT F.slot_zip_next (wpAny_call_entry F.slot_zip_next hT F.entry_zip_next ?_ (F.args_zip_next_1 _))))
  refine zipS_end hh S D1 D2 hz hTI hTO st1 st2 fun h' tk e hk he => ?_
  obtain ⟨o, ho, hc⟩ := he
  exact wpAny_bind (wpAny_isInstance (T := "StopIteration") (b := true) ⟨o, ho, hc⟩ isSubtype_stop (wpAny_pure (hQ _ _ hk)))
theorem goS {elts : List Expr} {x1 : Nat} {pos : Pos} {T : Addr} {Q : Unit → Shared → Prop} (hz : IsZipS s.heap z TI TO (rawInt T))
    (hQ : ∀ h', IsZipS h' z TI TO .none → Heap.SameBut z s.heap h' → Q () { s with heap := h' }) : wpAny (model prog w) A (letOwnedTupleGo (.Tuple elts x1 pos) (.ref z) (.ref T)) Q E s := by
  unfold letOwnedTupleGo
  refine wpAny_bind (wpAny_load hz ?_)
  show wpAny _ _ (if (["enumerate", "zip", "dict_itemiterator", "dict_reverseitemiterator", "odict_iterator", "itertools.zip_longest", "itertools.pairwise"].contains "zip" &&
      (#[rawInt T, .bool false, .bool true, .ref TI, .ref TO] : Array Value)[0]? == some (rawInt T)) = true then _ else _) Q E s
  rw [if_pos (by simp)]
  refine wpAny_bind (wpAny_rule ?_)
  show wpAny _ _ (setField (.ref z) 0 .none) Q E s
  exact wpAny_setField_rec hz (by simp) fun h' hz' hs' => hQ h' hz' hs'
theorem iterS {f0 : Value} {Q : Value → Shared → Prop} (hz : IsZipS s.heap z TI TO f0) (h : Q (.ref z) s) : wpAny (model prog w) A (pyIter (.ref z)) Q E s := by
  have hT : s.TypeIs (.ref z) "zip" := ⟨_, hz, rfl⟩
  refine wpAny_pyIter_slot hT F.slot_zip_iter (wpAny_call_entry F.slot_zip_iter hT F.entry_zip_iter ?_ (F.args_zip_iter_1 _))
  show wpAny _ _ (ret (.ref z)) _ _ s
  exact wpAny_pure ⟨_, rfl, "zip", _, hT, F.slot_zip_next.lookup, h⟩
end
/-! ### the call -/
theorem zipS_type (a b c : Value) : checkTypeCall "zip" ⟨[a, b], [(Str.ofString "strict", c)]⟩ = pure () := by kernel_rfl
theorem zipS_new (a b c : Value) : checkBuiltinCall "zip.__new__" ⟨[.type "zip", a, b], [(Str.ofString "strict", c)]⟩ = pure () := by kernel_rfl
theorem zipS_obj (obj a b c : Value) : argsOk "object.__init__" ⟨[obj, a, b], [(Str.ofString "strict", c)]⟩ := by unfold argsOk; kernel_rfl
abbrev zsZ (h : Heap) (o1 o2 : Obj) : Heap := (gzO2 h o1 o2).push { cls := .type "zip", data := .fields #[.none, .bool false, .bool true, .ref ((h.push o1).push o2).objs.size, .ref (gzT2 h o1 o2).objs.size] }
theorem zipS_meets {v1 v2 : Value} {o1 o2 : Obj} {H1 H2 : Heap → Prop} (B1 : Begins v1 o1 H1) (B2 : Begins v2 o2 H2) :
    Meets (Builtin.«zip.__new__» ⟨[.type "zip", v1, v2], [(Str.ofString "strict", .bool true)]⟩) (fun _ R s => (H1 s.heap ∧ H2 s.heap) ∧ R (.ok (.ret (.ref (gzO2 s.heap o1 o2).objs.size))) { s with heap := zsZ s.heap o1 o2 }) :=
  .of_wp fun prog w A R s h => by
    obtain ⟨hp, g, d, tk, os⟩ := s; obtain ⟨⟨h1, h2⟩, h⟩ := h
    have hsub := sub_zip
    have e1 : (Str.ofString "strict" != ("strict" : Str)) = false := by decide +kernel
    have q1 : ∀ {A' : Around} {E : Value → Shared → Prop} {Q : Value → Shared → Prop}, Q (.ref hp.objs.size) ⟨(hp.push o1), g, d, tk, os⟩ → wpAny (model prog w) A' (pyIter v1) Q E ⟨hp, g, d, tk, os⟩ := fun q => B1.iter prog w _ _ ⟨hp, g, d, tk, os⟩ _ h1 q
    have q2 : ∀ {A' : Around} {E : Value → Shared → Prop} {Q : Value → Shared → Prop}, Q (.ref (hp.push o1).objs.size) ⟨((hp.push o1).push o2), g, d, tk, os⟩ → wpAny (model prog w) A' (pyIter v2) Q E ⟨(hp.push o1), g, d, tk, os⟩ :=
      fun q => B2.iter prog w _ _ ⟨(hp.push o1), g, d, tk, os⟩ _ (B2.keeps _ _ h2 fun b o' e => Heap.get?_push_of_some _ e) q
    wp_walk using q1, q2
    exact ⟨_, rfl, h⟩
section
variable {prog : Program} {w : World} {A : Around} {E : Value → Shared → Prop} {s : Shared}
/-- its five new cells -/
theorem zipS_begins {v1 v2 : Value} {o1 o2 : Obj} {H1 H2 : Heap → Prop} {Q : Value → Shared → Prop} (B1 : Begins v1 o1 H1) (B2 : Begins v2 o2 H2) (h1 : H1 s.heap) (h2 : H2 s.heap)
    (h : ∀ h', IsZipS h' (s.heap.objs.size + 4) (s.heap.objs.size + 2) (s.heap.objs.size + 3) .none → IsTupOf2 h' (s.heap.objs.size + 2) (.ref s.heap.objs.size) (.ref (s.heap.objs.size + 1)) →
      IsTupOf2 h' (s.heap.objs.size + 3) .none .none → h'.get? s.heap.objs.size = some o1 → h'.get? (s.heap.objs.size + 1) = some o2 → (∀ c o, s.heap.get? c = some o → h'.get? c = some o) → Q (.ref (s.heap.objs.size + 4)) { s with heap := h' }) :
    wpAny (model prog w) A (call (.type "zip") [v1, v2] [(Str.ofString "strict", .bool true)]) Q E s := by
  refine callType_newKw F.called_zip (by decide) (zipS_type _ _ _) (zipS_new _ _ _) (fun obj => zipS_obj obj _ _ _) F.entry_zip_new (zipS_meets B1 B2) ⟨⟨h1, h2⟩, ?_⟩
  have z1 : (s.heap.push o1).objs.size = s.heap.objs.size + 1 := Heap.size_push ..
  have z2 : ((s.heap.push o1).push o2).objs.size = s.heap.objs.size + 2 := by rw [Heap.size_push, z1]
  have zT : (gzT2 s.heap o1 o2).objs.size = s.heap.objs.size + 3 := by rw [Heap.size_push, z2]
  have zO : (gzO2 s.heap o1 o2).objs.size = s.heap.objs.size + 4 := by rw [Heap.size_push, zT]
  have p1 : ∀ {c o}, (gzO2 s.heap o1 o2).get? c = some o → (zsZ s.heap o1 o2).get? c = some o := fun e => Heap.get?_push_of_some _ e
  have p2 : ∀ {c o}, (gzT2 s.heap o1 o2).get? c = some o → (zsZ s.heap o1 o2).get? c = some o := fun e => p1 (Heap.get?_push_of_some _ e)
  have p3 : ∀ {c o}, ((s.heap.push o1).push o2).get? c = some o → (zsZ s.heap o1 o2).get? c = some o := fun e => p2 (Heap.get?_push_of_some _ e)
  have gZ : (zsZ s.heap o1 o2).get? (gzO2 s.heap o1 o2).objs.size = some _ := Heap.get?_push_size _ rfl
  have gO : (zsZ s.heap o1 o2).get? (gzT2 s.heap o1 o2).objs.size = some _ := p1 (Heap.get?_push_size _ rfl)
  have gT : (zsZ s.heap o1 o2).get? ((s.heap.push o1).push o2).objs.size = some _ := p2 (Heap.get?_push_size _ rfl)
  have g1 : (zsZ s.heap o1 o2).get? s.heap.objs.size = some o1 := p3 (Heap.get?_push_of_some _ (Heap.get?_push_size _ B1.free))
  have g2 : (zsZ s.heap o1 o2).get? (s.heap.push o1).objs.size = some o2 := p3 (Heap.get?_push_size _ B2.free)
  rw [zO, zT, z2] at gZ
  rw [zT] at gO
  rw [z2, z1] at gT
  rw [z1] at g2
  show _ ∧ _
  rw [zO]
  exact ⟨⟨_, gZ, rfl⟩, h _ gZ gT gO g1 g2 fun c o e => p3 (Heap.get?_push_of_some _ (Heap.get?_push_of_some _ e))⟩
/-- T(e, .., k = v): a built-in class called with keywords -/
theorem typeKw {M : Model} {env : Env} {pos : Pos} {T : String} {e : Expr} {rest : List Expr} {kws : List Keyword} {Q : Value → Shared → Prop}
    (h : wpAny M A (spliced (backTo pos (starEach (e :: rest) env))) (fun vs s₁ => wpAny M A (evalAll ((backToKw pos (keywordEach kws env)).map (·.2)))
      (fun kvs s₂ => wpAny M A (call (.type T) vs (((backToKw pos (keywordEach kws env)).filterMap (·.1)).zip kvs)) Q E s₂) E s₁) E s)
    (he : backTo pos (starEach (e :: rest) env) = (false, eval e env) :: backTo pos (starEach rest env) := by rfl) (hplain : (backTo pos (starEach (e :: rest) env)).any (·.1) = false := by rfl)
    (hall : (backToKw pos (keywordEach kws env)).all (·.1.isSome) = true := by rfl) (hkw : (backToKw pos (keywordEach kws env)).any (·.1.isNone) = false := by rfl) :
    wpAny M A (callWith pos (.type T) [] (backTo pos (starEach (e :: rest) env)) (backToKw pos (keywordEach kws env))) Q E s := by
  unfold callWith
  rw [he] at h ⊢
  refine wpAny_bind (wpAny_holding (wpAny_mono (PyProof.Rows.evalArgs_kwB (f := .type T) (Q := fun a s₁ => wpAny M A (call (.type T) ([] ++ a.pos) a.kw) Q E s₁) hall h) (fun a s₁ h₁ => wpAny_bind (wpAny_standAt ?_)) fun _ _ x => x))
  rw [he] at hplain
  simp only [hplain, hkw, Bool.or_false]
  refine wpAny_bind (wpAny_pure ?_)
  exact wpAny_bind (wpAny_mono h₁ (fun r s₂ hr => wpAny_bind (wpAny_holding (wpAny_point (wpAny_pure hr)))) fun _ _ x => x)
end
/-! ### enumerate(v) -/
theorem enumV_meets {v : Value} {o : Obj} {H : Heap → Prop} (B : Begins v o H) :
    Meets (Builtin.«enumerate.__new__» ⟨[.type "enumerate", v], []⟩) (fun _ R s => H s.heap ∧
      R (.ok (.ret (.ref (s.heap.push o).objs.size))) { s with heap := (s.heap.push o).push { cls := .type "enumerate", data := .fields #[.none, .bool false, .ref s.heap.objs.size, rawInt 0, .none, .none] } }) :=
  .of_wp fun prog w A R s h => by
    obtain ⟨hp, g, d, tk, os⟩ := s; obtain ⟨h1, h⟩ := h
    have hsub := sub_enumerate
    have q1 : ∀ {A' : Around} {E : Value → Shared → Prop} {Q : Value → Shared → Prop}, Q (.ref hp.objs.size) ⟨hp.push o, g, d, tk, os⟩ → wpAny (model prog w) A' (pyIter v) Q E ⟨hp, g, d, tk, os⟩ := fun q => B.iter prog w _ _ ⟨hp, g, d, tk, os⟩ _ h1 q
    wp_walk using q1
    refine wpAny_stack_any fun st => wpAny_pure ?_
    split
    · rename_i c _ _ _ _ _
      cases (c == Value.type "enumerate")
      · wp_walk using q1
        exact ⟨_, rfl, h⟩
      · wp_walk using q1
        exact ⟨_, rfl, h⟩
    · wp_walk using q1
      exact ⟨_, rfl, h⟩
theorem enumV_begins {prog : Program} {w : World} {A : Around} {E : Value → Shared → Prop} {s : Shared} {v : Value} {o : Obj} {H : Heap → Prop} {Q : Value → Shared → Prop} (B : Begins v o H) (h1 : H s.heap)
    (h : ∀ h', IsEnum h' (s.heap.objs.size + 1) s.heap.objs.size 0 .none → h'.get? s.heap.objs.size = some o → (∀ b u, s.heap.get? b = some u → h'.get? b = some u) → Q (.ref (s.heap.objs.size + 1)) { s with heap := h' }) :
    wpAny (model prog w) A (call (.type "enumerate") [v]) Q E s := by
  refine callType_new F.called_enumerate (by decide) (F.typeCall_enumerate_1 _) (F.newCall_enumerate_1 _) (fun obj => F.args_object_init_2 obj _) F.entry_enumerate_new (enumV_meets B) ⟨h1, ?_⟩
  have hz : (s.heap.push o).objs.size = s.heap.objs.size + 1 := Heap.size_push ..
  show _ ∧ _
  rw [hz]
  have he : ((s.heap.push o).push { cls := .type "enumerate", data := .fields #[.none, .bool false, .ref s.heap.objs.size, rawInt 0, .none, .none] }).get? (s.heap.push o).objs.size = some _ := Heap.get?_push_size _ rfl
  rw [hz] at he
  exact ⟨⟨_, he, rfl⟩, h _ he (Heap.get?_push_of_some _ (Heap.get?_push_size _ B.free)) fun b u x => Heap.get?_push_of_some _ (Heap.get?_push_of_some _ x)⟩
end K59
set_option maxHeartbeats 4000000
/-! ### an own error without arguments, its own __init__ stores one text -/
namespace K59
open PySem PySem.Spec PyProof.Rows L2
def iA (p1 : Pos) : Arguments := { posonlyargs := [], args := [{ arg := "self", annotation := none, pos := p1 }], vararg := none, kwonlyargs := [], kw_defaults := [], kwarg := none, defaults := [] }
def iB (q1 q2 q3 q4 : Pos) (z : Str) : List Stmt := [.Assign [.Attribute (.Name "self" q1) "called" q2] (.Constant (.str z) 0 q3) q4]
def iS : Scope := { kind := .function, names := [(PySem.Str.ofString "self", .local)], isGenerator := false, isCoroutine := false, more := [] : Scope }
/-- what the written part says of an error's class, of its __init__ -/
structure XcT (K : PySem.W.Frag) (mg : Str → Option Value) (x : Str) (C fI : Addr) (bmB : List Value) (newId : String) (z : Str) : Prop where
  gC : mg x = some (.ref C)
  kC : PySem.W.keepIn K (.ref C) = true
  ini : PySem.W.excInitIn K C bmB newId = true
  sa : PySem.W.findIn K (.ref C) "__setattr__" = some (some (.builtin "object.__setattr__"))
  ov : PySem.W.excOver K C bmB = true
  tk : PySem.W.takerIn K C "called" = some none
  cl : ∃ cd, PySem.W.clsIn K C = some cd ∧ cd.hasDict = true
  iC : PySem.W.findIn K (.ref C) "__init__" = some (some (.ref fI))
  tI : PySem.W.typeIn K (.ref fI) = some (.type "function")
  exC : PySem.W.subIn K (.ref C) (.type "BaseException") = some true
  tyC : PySem.W.typeIn K (.ref C) = some (.type "type")
  fn : ∃ (oc : Value) (od : Option Addr) (qual : Str) (kV doc pm : Value) (an : Option Addr) (cdv ct : Value) (osl : Array (Option Value)) (p1 q1 q2 q3 q4 : Pos),
    K.lookup fI = some ⟨oc, od, .func (PySem.W.fnOf "__init__" qual (iA p1) (iB q1 q2 q3 q4 z) iS .none kV doc pm an cdv ct), osl⟩ ∧ PySem.W.codeIn K cdv qual = true
end K59
namespace K59
open PySem PySem.Spec PySem.W PySem.Calls PyProof.Rows PySem.HandSPX Builtin Builtin.ObjectAttr
theorem ld_self {M : Model} {s : Shared} {name : Str} {scope : Scope} {L a : Addr} {cd : Value} {m : Str → Option Value} {x : Str} {pos : Pos} {v : Value} {Q : Value → Shared → Prop} {A : Around} {E : Value → Shared → Prop} (hn : s.heap.Ns L m) (hv : m x = some v) (h : Q v s)
    (hk : scope.kind = .function := by rfl) (hl : (envOfC name scope L a cd).kindOf x = some .local := by rfl) (hd : (x == ("__debug__" : Str)) = false := by decide) :
    wpAny M A (eval (.Name x pos) (envOfC name scope L a cd)) Q E s := wpAny_Name (wpAny_loadName_local hk hl hn hv h) hd
/-- what the store leaves of the new error at x -/
structure XEnd (h h' : Heap) (x C dx t1 : Addr) (v : Value) : Prop where
  keep : ∀ b o, b ≠ x → h.get? b = some o → h'.get? b = some o
  obj : h'.get? x = some { cls := .ref C, dict := some dx, data := .fields #[.ref t1, .none, .none, .none, .bool false, .none] }
  dbig : h.objs.size ≤ dx
  dne : dx ≠ x
  ns : h'.Ns1 dx (fun y => if y = "called" then some v else none)
section
variable {prog : Program} {w : World} {A : Around} {E : Value → Shared → Prop} {R : Result → Shared → Prop} {s : Shared} {K : Frag} {mg : Str → Option Value} {C fI : Addr} {bmB : List Value} {B newId initId : String} {x : Str} {z : Str}
theorem x_store (SF : StoreFacts B bmB "object.__setattr__" "object") (T : XcT K mg x C fI bmB newId z) (X : K.In s.heap) {e t0 : Addr} {v : Value} {tk : Tok} (he : s.heap.get? e = some (excO C t0))
    (hq : ∀ h' tk' dx, XEnd s.heap h' e C dx t0 v → R (.ok (.ret .none)) { s with heap := h', toks := tk' }) :
    codeAny (model prog w) A (.call (.builtin "object.__setattr__") ⟨[.ref e, .str "called" tk, v], []⟩) R s := by
  obtain ⟨cd, hcd, hh⟩ := T.cl
  refine osa_openX SF X (ox := excO C t0) (od := none) ⟨he, rfl, rfl, trivial⟩ T.ov T.tk fun b => ?_
  have hes : e ≠ s.heap.objs.size := Nat.ne_of_lt (Heap.lt_size he)
  have look : Looks (model prog w) s.heap (classData C) cd := looks_clsIn X hcd
  obtain ⟨hp, g, d, t, os⟩ := s
  obtain ⟨nm, bs, mro, ns, qn, hd, sn, sb, ab, col, del⟩ := cd
  have hd1 : hd = true := hh
  subst hd1
  show wpAny _ _ (storeInOwnDict (.ref e) (.ref C) (.str "called" tk) "called" v b) _ _ _
  unfold storeInOwnDict ownDictForStores
  repeat' (first | with_reducible refine HandSPX.store_in_new ?_ (fun h' tk' hn' hs => ?_) | with_reducible refine wpAny_loadPart_at he ?_ | with_reducible refine look.at ?_ | wp_step)
  · exact ⟨_, #[], _, (Heap.get?_update_ne _ _ _ _ hes.symm).trans (Heap.get?_push_at rfl rfl), rfl, fun q hq => absurd hq (by simp), fun _ => rfl⟩
  · have he1 : (hp.push { cls := .type "dict", data := .dict #[] }).get? e = some (excO C t0) := Heap.get?_push_of_some _ he
    refine hq h' tk' hp.objs.size ⟨fun c o hc eo => ?_, ?_, Nat.le_refl _, hes.symm, hn'⟩
    · exact (hs.2 c (Nat.ne_of_lt (Heap.lt_size eo))).trans ((Heap.get?_update_ne _ _ _ _ hc).trans (Heap.get?_push_of_some _ eo))
    · exact (hs.2 e hes).trans (Heap.get?_update_self _ he1 rfl)
theorem x_init (SF : StoreFacts B bmB "object.__setattr__" "object") (T : XcT K mg x C fI bmB newId z) {e t0 : Addr} (X : K.In s.heap) (hlim : s.heap.NoLimit) (he : s.heap.get? e = some (excO C t0)) (hroom : A.depth < recursionLimit)
    (hq : ∀ h' tk dx u, XEnd s.heap h' e C dx t0 (.str z u) → R (.ok (.ret .none)) { s with heap := h', toks := tk }) :
    codeAny (model prog w) A (.call (.ref fI) ⟨[.ref e], []⟩) R s := by
  obtain ⟨oc, od, qual, kV, doc, pm, an, cdv, ct, osl, p1, q1, q2, q3, q4, ho, hcd⟩ := T.fn
  refine Att.call_fn (binds := [("self", .ref e)]) X hlim ho hcd hroom (BindsTo.of_eq (by first | rfl | with_unfolding_all rfl)) (by first | rfl | decide | with_unfolding_all rfl) (fun s₁ IC => ?_) rfl rfl rfl
  obtain ⟨h₁, tk₁, rfl⟩ := IC.toInCall.same
  have k : ∀ b o, s.heap.get? b = some o → h₁.get? b = some o := IC.toInCall.keep
  have hn := IC.toInCall.ns
  have heL : s.heap.objs.size ≠ e := Nat.ne_of_gt (Heap.lt_size he)
  have X₁ : K.In h₁ := X.keeps k
  have he₁ := k _ _ he
  show wpAny _ _ (execs _ _) _ _ _
  refine wpAny_execs_cons (plainObj_wpAny_Assign_Attribute (Calls.Constant_str ?_))
  refine ld_self (v := .ref e) hn (by first | rfl | with_unfolding_all rfl | kernel_rfl) ?_
  refine set_plain X₁ (ox := excO C t0) (od := none) ⟨he₁, rfl, rfl, trivial⟩ T.sa ?_
  refine x_store SF T X₁ he₁ (fun h₃ tk₃ dx Z => ?_)
  show wpAny _ _ (execs _ _) _ _ _
  have lt : s.heap.objs.size < h₁.objs.size := hn.lt
  exact wpAny_execs_nil (hq h₃ tk₃ dx _ ⟨fun b o hb eo => Z.keep b o hb (k b o eo), Z.obj, Nat.le_of_lt (Nat.lt_of_lt_of_le lt Z.dbig), Z.dne, Z.ns⟩)
/-- a made error -/
structure XMade (h h' : Heap) (e C d : Addr) (v : Value) : Prop where
  keep : ∀ b o, h.get? b = some o → h'.get? b = some o
  new : h.objs.size ≤ e
  obj : ∃ oe vs, h'.get? e = some oe ∧ oe.cls = .ref C ∧ oe.dict = some d ∧ oe.data = .fields vs ∧ vs[1]? = some .none
  dbig : h.objs.size ≤ d
  dne : d ≠ e
  ns : h'.Ns1 d (fun y => if y = "called" then some v else none)
theorem x_made (BF : ExcBaseFacts B newId initId bmB) (SF : StoreFacts B bmB "object.__setattr__" "object") (T : XcT K mg x C fI bmB newId z) (X : K.In s.heap) (hlim : s.heap.NoLimit) (hroom : A.depth + 1 < recursionLimit)
    (hq : ∀ h' tk e d u, XMade s.heap h' e C d (.str z u) → R (.ok (.ret (.ref e))) { s with heap := h', toks := tk }) :
    codeAny (model prog w) A (.call (.ref C) ⟨[], []⟩) R s := by
  obtain ⟨nm, N, qn, bs, bm, hdct, sn, sub, ab, col, dd, k0, k1, k2, k3, k5, hC, hbm⟩ := excInit_of X T.ini
  obtain ⟨hp, g, dr, tk, os⟩ := s
  have k : ∀ b o, hp.get? b = some o → ((hp.push (kdv_tup [])).push (excO C hp.objs.size)).get? b = some o := fun b o e => Heap.get?_push_of_some _ (Heap.get?_push_of_some _ e)
  have hget : ((hp.push (kdv_tup [])).push (excO C hp.objs.size)).get? (hp.objs.size + 1) = some (excO C hp.objs.size) := by heap_get
  refine HandSPX.call_own BF hbm hC (looks_findIn X T.iC) (fun self => bind_fn X self T.tI) (by rw [sizeLine_eq]; exact (by decide : 0 ≤ 16777216)) ?_
  refine x_init (s := ⟨(hp.push (kdv_tup [])).push (excO C hp.objs.size), g, dr, tk, os⟩) SF T (X.keeps k) (hlim.keeps k) hget ?_ fun h' tk' dx u Z => ?_
  · show A.depth + 1 < recursionLimit
    exact hroom
  · have old : ∀ b o, hp.get? b = some o → h'.get? b = some o := fun b o e => Z.keep b o (Nat.ne_of_lt (Nat.lt_succ_of_lt (Heap.lt_size e))) (k b o e)
    have bigd : hp.objs.size ≤ dx := by
      have q := Z.dbig
      rw [Heap.size_push, Heap.size_push] at q
      exact Nat.le_trans (Nat.le_succ _) (Nat.le_trans (Nat.le_succ _) q)
    exact ⟨rfl, hq h' tk' (hp.objs.size + 1) dx u ⟨old, Nat.le_succ _, ⟨_, _, Z.obj, rfl, rfl, rfl, rfl⟩, bigd, Z.dne, Z.ns⟩⟩
end
end K59
namespace K59
open PySem PySem.Spec PyProof.Rows L2
theorem relO_called {v : V} {v' : Value} (r : RelV v v') (f : Str) : RelO (List.lookup f [(("called" : Str), v)]) (if f = "called" then some v' else none) := by
  by_cases hw : f = "called"
  · subst hw
    rw [if_pos rfl]
    have q : List.lookup ("called" : Str) [(("called" : Str), v)] = some v := by simp [List.lookup]
    rw [q]
    exact r
  · rw [if_neg hw]
    have qw : (f == ("called" : Str)) = false := by simpa using hw
    have q2 : List.lookup f [(("called" : Str), v)] = none := by simp [List.lookup, qw]
    rw [q2]
    trivial
section
variable {X : Cx} {C fI : Addr} {bmB : List Value} {B newId initId : String} {x : Str} {z : Str}
/-- X() -/
def tMkX (C : Addr) (z : Str) : L2.St → Hp → XK → Prop := fun _ H Q => ∀ d, H d = none → Q (.ref C) (some d) (upd H d (.xd [(("called" : Str), .str z)]))
theorem pmk_x {p pos : Pos} {k : Nat} (BF : ExcBaseFacts B newId initId bmB) (SF : StoreFacts B bmB "object.__setattr__" "object") (T : XcT X.K X.mg x C fI bmB newId z) (hr : Room k X.A) (hg : Gl X x := by rfl) (hdb : (x == ("__debug__" : Str)) = false := by decide) :
    PMk X (.Call (.Name x p) [] [] pos) (tMkX C z) := by
  intro pins s σ H Q I h
  refine wpAny_Call_Name_kw (ld_glob I hg T.gC ?_ hdb)
  refine PySem.W.callWith_K0 I.kIn T.kC ?_
  show wpAny _ _ (call (.ref C) []) _ _ _
  have hlim := I.nolimit
  have XI := I.kIn
  obtain ⟨hp, g, dr, tk, os⟩ := s
  refine wpAny_call (x_made BF SF T XI hlim (by have := hr.dp; omega) fun h' tk' e d u M => ?_)
  show MkP X pins σ Q (.ref e) ⟨h', g, dr, tk', os⟩
  obtain ⟨oe, fv, hoe, hc, hd, hdat, h1⟩ := M.obj
  have hns := M.ns
  obtain ⟨G', g1, g2⟩ := restrict h' fun b => decide (b ≠ e)
  have gk : ∀ b, b ≠ e → G'.get? b = h'.get? b := fun b hb => g1 b (decide_eq_true hb)
  have ge : G'.get? e = none := g2 e (by simp)
  have old : ∀ b o, hp.get? b = some o → G'.get? b = some o := fun b o q => (gk b (Nat.ne_of_lt (Nat.lt_of_lt_of_le (Heap.lt_size q) M.new))).trans (M.keep b o q)
  have ob : ObjOk X.prog X.w (upd H d (.xd [(("called" : Str), .str z)])) G' d (.xd [(("called" : Str), .str z)]) :=
    ⟨_, hns.at (fun o q => (gk d M.dne).trans q), fun f => relO_called (v := .str z) ⟨u, rfl⟩ f⟩
  have J : Inv X pins σ (upd H d (.xd [(("called" : Str), .str z)])) ⟨G', g, dr, tk', os⟩ := I.laid (t' := tk') old M.dbig ob
  refine ⟨e, oe, fv, ⟨G', g, dr, tk', os⟩, _, .ref C, some d, rfl, J, fun b o q => ?_, ge, hoe, ⟨hc, hd⟩, hdat, h1, ?_, rfl, I.bare, raises_own T.exC T.tyC, h d (I.hok.fresh M.dbig)⟩
  · by_cases hb : b = e
    · have q' : G'.get? b = some o := q
      rw [hb, ge] at q'; cases q'
    · exact (gk b hb).symm.trans q
  · rw [upd_ne (Ne.symm M.dne)]
    exact I.hok.fresh M.new
end
end K59
set_option maxHeartbeats 4000000
namespace K59
open PySem PySem.Spec PyProof.Rows L2
/-! ### zip(xs, t, strict=True): a list and a tuple of one length -/
def Itzs (K : PySem.W.Frag) (a b : Addr) : It :=
  ⟨fun i H => ∃ (xs ys : List V) (x y : V), SqL K H a xs ∧ SqT K H b ys ∧ xs[i]? = some x ∧ ys[i]? = some y,
    fun i H v H' => ∃ T x y, v = .ref T ∧ H T = none ∧ H' = upd H T (.tup [x, y]) ∧ (∀ xs, SqL K H a xs → xs[i]? = some x) ∧ ∀ ys, SqT K H b ys → ys[i]? = some y,
    fun i H => ∃ xs ys : List V, SqL K H a xs ∧ SqT K H b ys ∧ xs.length ≤ i ∧ ys.length ≤ i⟩
def iZipS (K : PySem.W.Frag) (ta : TA) : TI := fun σ H R => ta σ H fun vs H1 => ∃ a b xs ys, vs = [.ref a, .ref b] ∧ SqL K H1 a xs ∧ SqT K H1 b ys ∧ R (Itzs K a b) H1
section
variable {prog : Program} {w : World} {A : Around}
theorem dr_list {it l : Addr} {items : Array Value} {n : Nat} (hh : A.handled = none) (hne : l ≠ it) (hx : items[n]? = none) : Draws prog w A it [it, l] n (fun _ _ => True) (fun j h => j = n ∧ h.IsListIter it l n ∧ h.IsList l items) where
  live := fun _ _ st => let ⟨o, ho, _⟩ := st.2.1; ⟨o, ho⟩
  frame := fun _ _ _ st hk => ⟨st.1, st.2.1.at fun o e => hk it (by simp) o e, st.2.2.at fun o e => hk l (by simp) o e⟩
  item := fun i s Q E hi st _ => absurd st.1 (Nat.ne_of_lt hi)
  done := fun s Q E st hE => wpAny_nextOf_list_end hh st.2.1 st.2.2 hx hE
theorem dr_tup {it l : Addr} {items : Array Value} {n : Nat} (hh : A.handled = none) (hne : l ≠ it) (hx : items[n]? = none) : Draws prog w A it [it, l] n (fun _ _ => True) (fun j h => j = n ∧ h.IsTupleIter it l n ∧ h.IsTuple l items) where
  live := fun _ _ st => let ⟨o, ho, _⟩ := st.2.1; ⟨o, ho⟩
  frame := fun _ _ _ st hk => ⟨st.1, st.2.1.at fun o e => hk it (by simp) o e, st.2.2.at fun o e => hk l (by simp) o e⟩
  item := fun i s Q E hi st _ => absurd st.1 (Nat.ne_of_lt hi)
  done := fun s Q E st hE => RZ.nextOf_tuple_end hh st.2.1 st.2.2 hx hE
end
theorem sep2 {z TI TO i1 i2 l1 l2 : Addr} (D : ZipApart z TI TO i1 i2 l1 l2) : ZipSep2 z TI TO i1 i2 [i1, l1] [i2, l2] where
  TIz := D.TIz
  TOz := D.TOz
  TITO := D.TITO
  TIi1 := D.TIi1
  TIi2 := D.TIi2
  mem1 := by simp
  mem2 := by simp
  zf1 := by simp [D.i1z.symm, D.l1z.symm]
  zf2 := by simp [D.i2z.symm, D.l2z.symm]
  Tf1 := by simp [D.TOi1, D.l1TO.symm]
  Tf2 := by simp [D.TOi2, D.l2TO.symm]
  sep1_2 := by simp [D.i12, D.l2i1.symm]
  sep2_1 := by simp [D.i12.symm, D.l1i2.symm]
theorem turn_zipS {P : Program} {w : World} {K : PySem.W.Frag} {elts : List Expr} {kk : Nat} {tpos : Pos} {a b z TI TO i1 i2 : Addr} (D : ZipApart z TI TO i1 i2 a b) :
    Turn P w K (.Tuple elts kk tpos) (Itzs K a b) [z, TI, TO, i1, i2] z (fun i h => IsZipS h z TI TO .none ∧ IsTupOf2 h TI (.ref i1) (.ref i2) ∧ (∃ x y, IsTupOf2 h TO x y) ∧ h.IsListIter i1 a i ∧ h.IsTupleIter i2 b i) where
  mem := by simp
  obj := fun i h st c hc => by
    obtain ⟨hz, hTI, ⟨x, y, hTO⟩, ⟨o1, e1, _, d1⟩, ⟨o2, e2, _, d2⟩⟩ := st
    simp only [List.mem_cons, List.not_mem_nil, or_false] at hc
    rcases hc with rfl | rfl | rfl | rfl | rfl
    · exact ⟨_, hz, fun v q => nomatch q⟩
    · exact ⟨_, hTI, fun v q => nomatch q⟩
    · exact ⟨_, hTO, fun v q => nomatch q⟩
    · exact ⟨o1, e1, fun v q => by rw [d1] at q; cases q⟩
    · exact ⟨o2, e2, fun v q => by rw [d2] at q; cases q⟩
  keep := fun i h h' st k => by
    obtain ⟨hz, hTI, ⟨x, y, hTO⟩, h1, h2⟩ := st
    exact ⟨k z (by simp) _ hz, k TI (by simp) _ hTI, ⟨x, y, k TO (by simp) _ hTO⟩, h1.at fun o q => k i1 (by simp) o q, h2.at fun o q => k i2 (by simp) o q⟩
  item := by
    intro X hP hw hK hc i pins s σ H E I hf st hg
    subst hP hw hK
    obtain ⟨hz, hTI, ⟨x0, y0, hTO⟩, h1, h2⟩ := st
    obtain ⟨xs, ys, x, y, hqx, hqy, hx, hy⟩ := hg
    obtain ⟨its, rv, p, _⟩ := I.list hqx
    obtain ⟨its2, rv2, p2, _⟩ := I.tuple hqy
    obtain ⟨u, hu, ru⟩ := rv.get hx
    obtain ⟨u2, hu2, ru2⟩ := rv2.get hy
    have hzl : z < s.heap.objs.size := Heap.lt_size hz
    have hh : X.A.in1.handled = none := I.ok.hd hc
    have lt1 : i < its.toArray.size := by simpa using (List.getElem?_eq_some_iff.mp hu).1
    have lt2 : i < its2.toArray.size := by simpa using (List.getElem?_eq_some_iff.mp hu2).1
    refine nextS_item (sep2 D) (Draws.list hh i1 a D.l1i1 its.toArray) (Draws.tuple hh i2 b D.l2i2 its2.toArray) hz hTI hTO ⟨h1, p.isList⟩ ⟨h2, p2⟩ lt1 lt2 fun v1 v2 h' tk y1 y2 z' TO' s1' s2' hT hsz hk => ?_
    obtain rfl : u = v1 := by have := hu.symm.trans (by simpa using y1); exact Option.some.inj this
    obtain rfl : u2 = v2 := by have := hu2.symm.trans (by simpa using y2); exact Option.some.inj this
    refine ⟨_, rfl, goS (s := { s with heap := h', toks := tk }) z' fun h'' z'' sb => ?_⟩
    have hT2 : h''.get? s.heap.objs.size = some { cls := .type "tuple", data := .seq #[u, u2] } := (sb.2 _ (Nat.ne_of_gt hzl)).trans hT
    have new : ObjOk X.prog X.w (L2.upd H s.heap.objs.size (.tup [x, y])) h'' s.heap.objs.size (.tup [x, y]) := ⟨by show 2 ≤ sizeLine; decide, [u, u2], .cons ru (.cons ru2 .nil), ⟨_, hT2, rfl, _, rfl⟩⟩
    have I1 : Inv X pins σ (L2.upd H s.heap.objs.size (.tup [x, y])) { s with heap := h'', toks := tk } :=
      I.turnedNew (t' := tk) (ch := [z, TI, TO, i1, i2]) (fun c o hb q => (sb.2 c (fun q' => hb (by simp [q']))).trans (hk c o (fun q' => hb (by simp [q'])) (fun q' => hb (by simp [q'])) (fun q' => hb (by simp [q'])) (fun q' => hb (by simp [q'])) q)) hf (Nat.le_refl _) new
    refine ⟨.ref s.heap.objs.size, _, I1, rfl, ⟨_, x, y, rfl, I.hok.fresh (Nat.le_refl _), rfl, fun l hl => by rw [I.list_inj hl hqx]; exact hx, fun l hl => by rw [I.tuple_inj hl hqy]; exact hy⟩, ⟨z'', ?_, ⟨u, u2, ?_⟩, ?_, ?_⟩, fun c hcm => ?_⟩
    · exact (sb.2 _ D.TIz).trans (hk _ _ D.TIz D.TITO D.TIi1 D.TIi2 hTI)
    · exact (sb.2 _ D.TOz).trans TO'
    · exact s1'.1.at fun o q => (sb.2 _ D.i1z).trans q
    · exact s2'.1.at fun o q => (sb.2 _ D.i2z).trans q
    · have hlt : c < s.heap.objs.size := by
        simp only [List.mem_cons, List.not_mem_nil, or_false] at hcm
        rcases hcm with rfl | rfl | rfl | rfl | rfl
        · exact hzl
        · exact Heap.lt_size hTI
        · exact Heap.lt_size hTO
        · obtain ⟨_, e1, _⟩ := h1; exact Heap.lt_size e1
        · obtain ⟨_, e2, _⟩ := h2; exact Heap.lt_size e2
      rw [upd_ne (Nat.ne_of_lt hlt)]
      exact (hf c hcm).1
  done := by
    intro X hP hw hK hc i pins s σ H E I hf st hg
    subst hP hw hK
    obtain ⟨hz, hTI, ⟨x0, y0, hTO⟩, h1, h2⟩ := st
    obtain ⟨xs, ys, hqx, hqy, l1, l2⟩ := hg
    obtain ⟨its, rv, p, _⟩ := I.list hqx
    obtain ⟨its2, rv2, p2, _⟩ := I.tuple hqy
    have e1 := rv.length
    have e2 := rv2.length
    have hh : X.A.in1.handled = none := I.ok.hd hc
    exact nextS_end hh (sep2 D) (dr_list hh D.l1i1 (items := its.toArray) (n := i) (by simp; omega)) (dr_tup hh D.l2i2 (items := its2.toArray) (by simp; omega)) hz hTI hTO ⟨rfl, h1, p.isList⟩ ⟨rfl, h2, p2⟩ fun h' tk hk => ⟨rfl, I.turnedL (t' := tk) (ch := [z, TI, TO, i1, i2]) (fun c o hb q =>
      hk c o (fun q' => hb (by simp [q'])) (fun q' => hb (by simp [q'])) (fun q' => hb (by simp [q'])) (fun q' => hb (by simp [q'])) q) hf⟩
  self := fun A i s Q E st h => iterS st.1 h
theorem pi_zipS {X : Cx} {e e2 : Expr} {ta : TA} {p pos tpos kp cp : Pos} {elts : List Expr} {kk j : Nat} (hg : Gl X "zip") (hm : X.mg "zip" = none) (ha : PA X [e, e2] ta)
    (hs : starEach [e, e2] X.env = (false, eval e X.env) :: starEach [e2] X.env := by rfl) (hpl : (backTo pos (starEach [e2] X.env)).any (·.1) = false := by rfl) :
    PI X (.Tuple elts kk tpos) (.Call (.Name "zip" p) [e, e2] [⟨some "strict", .Constant (.bool true) j cp, kp⟩] pos) (iZipS X.K ta) := by
  refine ⟨fun pins s σ H R I h => ?_⟩
  have he : backTo pos (starEach [e, e2] X.env) = (false, eval e X.env) :: backTo pos (starEach [e2] X.env) := by rw [hs]; rfl
  have hpl2 : (backTo pos (starEach [e, e2] X.env)).any (·.1) = false := by rw [he]; exact hpl
  refine wpAny_Call_Name_kw (ld_blt I hg hm PyProof.Rows.boot_zip (typeKw (thn (ha.run pos pins s σ H _ I h) fun us s1 ⟨vs, H1, I1, r1, q1⟩ => ?_) he hpl2))
  obtain ⟨a, b, xs, ys, ex, hqx, hqy, q⟩ := q1
  subst ex
  cases r1 with
  | cons r rr =>
    cases rr with
    | cons r' rr =>
      cases rr
      cases r
      cases r'
      obtain ⟨its, rv, p1, _⟩ := I1.list hqx
      obtain ⟨its2, rv2, p2, _⟩ := I1.tuple hqy
      obtain ⟨o2, ho2, _⟩ := id p2
      refine PyProof.Rows.kws_cons (PyProof.Rows.Constant_bool (PyProof.Rows.kws_nil ?_))
      refine zipS_begins (begins_list a its.toArray) (begins_tuple b its2.toArray) p1.isList p2 fun h' hz hTI hTO hi1 hi2 hk => iterS hz ?_
      have I2 : Inv X pins σ H1 { s1 with heap := h' } := I1.kept (t' := s1.toks) hk
      refine ⟨s1.heap.objs.size + 4, [s1.heap.objs.size + 4, s1.heap.objs.size + 2, s1.heap.objs.size + 3, s1.heap.objs.size, s1.heap.objs.size + 1], _, _, H1, rfl, I2, turn_zipS (PySem.W.ktu_apart s1.heap.objs.size a b p1.lt (Heap.lt_size ho2)), ⟨hz, hTI, ⟨_, _, hTO⟩, ⟨_, hi1, rfl, rfl⟩, ⟨_, hi2, rfl, rfl⟩⟩, fun c hcm => ?_, q⟩
      have hle : s1.heap.objs.size ≤ c := by
        simp only [List.mem_cons, List.not_mem_nil, or_false] at hcm
        rcases hcm with rfl | rfl | rfl | rfl | rfl
        · exact Nat.le_add_right _ _
        · exact Nat.le_add_right _ _
        · exact Nat.le_add_right _ _
        · exact Nat.le_refl _
        · exact Nat.le_add_right _ _
      exact I1.fpOk hle (I1.hok.fresh hle)
theorem walk_zipS {K : PySem.W.Frag} {a b : Addr} {xs ys : List V} (hn : ys.length = xs.length) : Walk (Itzs K a b) xs.length (fun H => SqL K H a xs ∧ SqT K H b ys) (YPair (fun i => xs[i]?) (fun i => ys[i]?)) := by
  refine ⟨fun i _ hi q => ?_, fun _ q => ⟨xs, ys, q.1, q.2, by omega, by omega⟩, fun i H v H' _ q y => ?_⟩
  · have h2 : i < ys.length := by omega
    exact ⟨xs, ys, xs[i], ys[i], q.1, q.2, by simp [hi], by simp [h2]⟩
  · obtain ⟨T, x, z, h1, h2, h3, h4, h5⟩ := y
    exact ⟨T, x, z, h1, h2, h3, h4 xs q.1, h5 ys q.2⟩
/-! ### enumerate of a list, or of the empty tuple -/
def It0 (K : PySem.W.Frag) (a : Addr) : It := ⟨fun _ _ => False, fun _ _ _ _ => False, fun _ H => SqT K H a []⟩
def iEnum2 (K : PySem.W.Frag) (ta : TA) : TI := fun σ H R => ta σ H fun vs H1 => (∃ a xs, vs = [.ref a] ∧ SqL K H1 a xs ∧ R (Ite K a) H1) ∨ ∃ a, vs = [.ref a] ∧ SqT K H1 a [] ∧ R (It0 K a) H1
theorem turn_enum0 {P : Program} {w : World} {K : PySem.W.Frag} {elts : List Expr} {kk : Nat} {tpos : Pos} (a e it : Addr) :
    Turn P w K (.Tuple elts kk tpos) (It0 K a) [e, it] e (fun _ h => (∃ old, IsEnum h e it 0 old) ∧ h.IsTupleIter it a 0 ∧ e ≠ it ∧ a ≠ it) where
  mem := by simp
  obj := fun i h st b hb => by
    obtain ⟨⟨old, he⟩, ⟨o, ho, hc, hd⟩, _⟩ := st
    simp only [List.mem_cons, List.not_mem_nil, or_false] at hb
    rcases hb with rfl | rfl
    · exact ⟨_, he, fun v q => nomatch q⟩
    · exact ⟨o, ho, fun v q => by rw [hd] at q; cases q⟩
  keep := fun i h h' st k => let ⟨⟨old, he⟩, hi, hne⟩ := st; ⟨⟨old, k e (by simp) _ he⟩, hi.at fun o q => k it (by simp) o q, hne⟩
  item := fun X hP hw hK hc i pins s σ H E I hf st hg => hg.elim
  done := by
    intro X hP hw hK hc i pins s σ H E I hf st hg
    subst hP hw hK
    obtain ⟨⟨old, he⟩, hit, hne, na⟩ := st
    obtain ⟨its, rv, ht, _⟩ := I.tuple (show SqT X.K H a [] from hg)
    cases rv
    obtain ⟨f0, f1, f2, f3, f4, f5⟩ := hf it (by simp)
    have hh : X.A.in1.handled = none := I.ok.hd hc
    exact wpAny_pyNext_enum_endD (dr_tup hh na (items := #[]) (n := 0) (by simp)) he ⟨rfl, hit, ht⟩ fun h' eb => ⟨rfl, I.turned (t' := s.toks) (fun b o hb q => eb b o hb q) f0 f1 f3 f4 f5⟩
  self := fun A i s Q E st h => let ⟨⟨_, he⟩, _⟩ := st; wpAny_pyIter_enum he h
theorem pi_enum2 {X : Cx} {e : Expr} {ta : TA} {p pos tpos : Pos} {elts : List Expr} {kk : Nat} (hg : Gl X "enumerate") (hm : X.mg "enumerate" = none) (ha : PA X [e] ta) (hs : starEach [e] X.env = [(false, eval e X.env)] := by rfl) :
    PI X (.Tuple elts kk tpos) (.Call (.Name "enumerate" p) [e] [] pos) (iEnum2 X.K ta) := by
  refine ⟨fun pins s σ H R I h => ?_⟩
  refine PyProof.Rows.Call_ (ld_blt I hg hm boot_enumerate (PyProof.Rows.callWith_type1 (thn (ha.run pos pins s σ H _ I h) fun us s1 ⟨vs, H1, I1, r1, q1⟩ => ?_) hs rfl))
  have fresh2 : ∀ c, c ∈ [s1.heap.objs.size + 1, s1.heap.objs.size] → FpOk X pins H1 c := fun c hcm => by
    have hle : s1.heap.objs.size ≤ c := by
      simp only [List.mem_cons, List.not_mem_nil, or_false] at hcm
      rcases hcm with rfl | rfl
      · exact Nat.le_add_right _ _
      · exact Nat.le_refl _
    exact I1.fpOk hle (I1.hok.fresh hle)
  rcases q1 with ⟨a, xs, ex, hq, q⟩ | ⟨a, ex, hq, q⟩
  · subst ex
    cases r1 with
    | cons r rr =>
      cases rr
      cases r
      obtain ⟨its, rv, p', hz⟩ := I1.list hq
      refine enumV_begins (begins_list a its.toArray) p'.isList fun h' he hit hk => wpAny_pyIter_enum he ?_
      exact ⟨s1.heap.objs.size + 1, [s1.heap.objs.size + 1, s1.heap.objs.size], _, _, H1, rfl, I1.kept (t' := s1.toks) hk, turn_enum a (s1.heap.objs.size + 1) s1.heap.objs.size, ⟨⟨.none, he⟩, ⟨_, hit, rfl, rfl⟩, Nat.succ_ne_self _⟩, fresh2, q⟩
  · subst ex
    cases r1 with
    | cons r rr =>
      cases rr
      cases r
      obtain ⟨its, rv, p', hz⟩ := I1.tuple hq
      cases rv
      obtain ⟨o2, ho2, _⟩ := id p'
      refine enumV_begins (begins_tuple a _) p' fun h' he hit hk => wpAny_pyIter_enum he ?_
      exact ⟨s1.heap.objs.size + 1, [s1.heap.objs.size + 1, s1.heap.objs.size], _, _, H1, rfl, I1.kept (t' := s1.toks) hk, turn_enum0 (K := X.K) a (s1.heap.objs.size + 1) s1.heap.objs.size, ⟨⟨.none, he⟩, ⟨_, hit, rfl, rfl⟩, Nat.succ_ne_self _, Nat.ne_of_lt (Heap.lt_size ho2)⟩, fresh2, q⟩
/-! ### d.get(k, x), d a written dict, k there -/
def tKGet2 (K : PySem.W.Frag) (w : World) (td ty tx : TE) : TE := fun σ H Q => td σ H fun x H1 => ∃ a, x = .ref a ∧ (a == sysModules) = false ∧ (∃ es n, KDict K w a es n) ∧ ty σ H1 fun y H2 => tx σ H2 fun _ H3 => ∃ k v, y = .str k ∧ KDct K w a k v ∧ Q v H3
theorem pe_kget2 {X : Cx} {o e f : Expr} {td ty tx : TE} {apos cpos : Pos} (ho : PE X o td) (he : PE X e ty) (hf : PE X f tx) (m : M2 X o "get" apos e f cpos) : PE X (.Call (.Attribute o "get" apos) [e, f] [] cpos) (tKGet2 X.K X.w td ty tx) := by
  refine ⟨fun pins s σ H Q I h => ?_⟩
  refine wpAny_Call_method m.base m.few m.line PySem.F.plainAttrs_dict PySem.F.slot_dict_get PySem.F.type_dict_get (thn (ho.run pins s σ H _ I h) fun u s1 ⟨x, H1, I1, rx, a, ex, hlow, ⟨es0, n0, D⟩, q1⟩ => ?_)
  subst ex
  obtain rfl : u = Value.ref a := rx
  refine ⟨kd_type D I1, fun b eb => ?_, ?_⟩
  · cases eb
    exact ⟨_, I1.kIn _ _ D.at_, rfl⟩
  rw [m.trees]
  refine Calls.callWith_builtin rfl (Calls.evalArgs_plain (Calls.spliced_cons (thn (he.run pins s1 σ H1 _ I1 q1) fun iv s2 ⟨y, H2, I2, ry, q2⟩ =>
    Calls.spliced_cons (thn (hf.run pins s2 σ H2 _ I2 q2) fun fv s3 ⟨z, H3, I3, rz, k, v, ey, kd, q3⟩ => Calls.spliced_nil ?_))))
  subst ey
  obtain ⟨t, rfl⟩ := ry
  obtain ⟨es, n, u, hl, hk, hm, ru⟩ := kd
  have mo := PySem.W.mapOf_K (prog := X.prog) (w := X.w) I3.kIn hl hk
  refine call_meetsIn PySem.F.slot_dict_get mo.typeIs PySem.F.entry_dict_get (PySem.F.args_dict_get_3 _ _ _) (meets_dict_get_default (strKind X.prog X.w) a (strKind_is X.prog X.w k t) hlow fv) ⟨_, mo, ?_⟩
  rw [PySem.W.find_K hl hm]
  exact ⟨v, H3, I3.tok _, ru, q3⟩
/-! ### len(o), o of an own class with __len__ -/
def rLenI (C : Addr) (sp : Sp) : List V → Hp → VK → Prop := fun vs H Q => ∃ a dx fs, vs = [.ref a] ∧ H a = some (.ins C dx fs) ∧ sp [.ref a] H (fun v H' => ∃ n : Nat, n ≤ sizeLine ∧ v = .int n ∧ Q v H') (fun _ _ _ => False)
theorem call_lenI {X : Cx} {k : Nat} {C : Addr} {sp : Sp} (c : C8.Met X.prog X.w X.K X.mg X.base k C "__len__" sp []) (hr : Room (k + 1) X.A) : CallR X (.builtin "len") (rLenI C sp) := by
  intro pins s σ H xs us Q I r h
  obtain ⟨a, dx, fs, rfl, ha, q⟩ := h
  obtain ⟨u, rfl, ru⟩ := vals1 r
  obtain rfl : u = Value.ref a := ru
  obtain ⟨f, fd, ps, ds, hc, hm, F, b, d⟩ := c.ex
  cases d
  obtain ⟨mA, O, r2, wi, _, _⟩ := ins_get I.hok ha
  obtain ⟨od, J, _⟩ := O.look
  obtain ⟨m, fr⟩ := I.fr
  have hl : ([Value.ref a] ++ ([] : List Value)).length = ps.length := (F.len _ _ _ _ q)
  refine PySem.W.len_K fr I.ok.mod.kin J hm.at_ hm.fn ?_
  refine wpAny_call (codeAny_mono (F.run X.A.in1 X.stack s H ⟨[.ref a], []⟩ [.ref a] [.ref a] _ _ hr.in1 I.env0.in1 (b s [.ref a] I.kIn hl) (.cons rfl .nil) q) fun r s' hq => ?_)
  cases r with
  | error e => exact (show False from hq).elim
  | ok fl =>
    cases fl with
    | ret u =>
      obtain ⟨v, H', J', rv, n, hn, ev, q2⟩ := I.after hq
      subst ev
      obtain ⟨t, rfl⟩ := rv
      have hz := hn
      rw [sizeLine_eq] at hz
      exact ⟨⟨by omega, by omega⟩, ⟨.int n, H', J'.tok _, ⟨_, rfl⟩, q2⟩⟩
    | next => exact False.elim hq
    | brk => exact False.elim hq
    | cont => exact False.elim hq
end K59
set_option maxHeartbeats 4000000
namespace K59
open PySem PySem.Spec PySem.Calls PyProof.Rows L2 L2.DX
/-! ### sorted(d.items()), ints by ints -/
section
variable {X : Cx}
def rItemsK : V → List V → Hp → VK → Prop := fun x xs H Q => ∃ (a : Addr) (kvs : List (Key × V)), x = .ref a ∧ xs = [] ∧ H a = some (.dK kvs) ∧ ∀ p, H p = none → Q (.ref p) (upd H p (itemsO p a))
theorem mt_itemsK : MtR X "dict.items" rItemsK := by
  intro pins s σ H x xs v us Q I rx rxs h
  obtain ⟨a, kvs, rfl, rfl, ha, q⟩ := h
  cases rx
  cases rxs
  obtain ⟨z, hd, vs, kv, hdo⟩ := dk_of I.hok ha
  obtain ⟨o, es, ep, ho, hx, hdat, _⟩ := id hdo
  refine DT.callItems (es := es) (ep := ep) hd ⟨o, ho, hx, hdat⟩ ?_
  have hf : H s.heap.objs.size = none := I.hok.fresh (Nat.le_refl _)
  exact ⟨.ref s.heap.objs.size, upd H s.heap.objs.size (itemsO s.heap.objs.size a), I.laid (t' := s.toks) (fun b u e => Heap.get?_push_of_some _ e) (Nat.le_refl _) (itemsO_ok (Heap.get?_push_size _ rfl)), rfl, q _ hf⟩
theorem exk : ∀ (as : List Addr) (ks : List (Int × Int)), as.Nodup → as.length = ks.length → ∃ k : Addr → Int × Int, ∀ (j : Nat) b e, as[j]? = some b → ks[j]? = some e → k b = e
  | [], _, _, _ => ⟨fun _ => (0, 0), fun j b e h => by simp at h⟩
  | a :: as, [], _, h => by cases h
  | a :: as, e :: ks, hn, h => by
    obtain ⟨h1, h2⟩ := List.nodup_cons.mp hn
    obtain ⟨k, hk⟩ := exk as ks h2 (Nat.succ.inj h)
    refine ⟨fun b => if b = a then e else k b, fun j b e' hb he => ?_⟩
    cases j with
    | zero => simp at hb he; subst hb he; exact if_pos rfl
    | succ j =>
      have hb' : as[j]? = some b := by simpa using hb
      have he' : ks[j]? = some e' := by simpa using he
      show (if b = a then e else k b) = e'
      rw [if_neg (fun (z : b = a) => h1 (by rw [← z]; exact List.mem_of_getElem? hb'))]
      exact hk j b e' hb' he'
abbrev kvJ (p : Int × Int) : Key × V := (Sum.inl p.1, .int p.2)
theorem pairs_both {P : Program} {w : World} : ∀ {ks : List (Int × Int)} {es : List DictEntry} {vs : List (Key × Value)}, KV (ks.map kvJ) vs → Pairs (mixKind P w) es vs →
    ∀ (j : Nat) en, es[j]? = some en → ∃ (e : Int × Int) (t1 t2 : Tok), ks[j]? = some e ∧ en.key = .int e.1 t1 ∧ en.val = .int e.2 t2
  | _, _, _, _, .nil, j, en, h => by simp at h
  | [], _, _, k, .cons _ _ _, _, _, _ => by cases k
  | e :: ks, _, _, k, .cons a b t, 0, en, h => by
    simp at h
    subst h
    cases k with
    | cons k1 k2 =>
      obtain ⟨h1, t2, h2⟩ := k1
      rw [← h1] at a
      obtain ⟨t1, h3⟩ := relV_key (show keyIs (Sum.inl e.1) _ = true from a)
      exact ⟨e, t1, t2, rfl, h3, b.trans h2⟩
  | e :: ks, _, _, k, .cons a b t, j + 1, en, h => by
    cases k with
    | cons k1 k2 =>
      obtain ⟨e', t1, t2, h1, h2, h3⟩ := pairs_both (ks := ks) k2 t j en (by simpa using h)
      exact ⟨e', t1, t2, by simpa using h1, h2, h3⟩
theorem pairs_len {P : Program} {w : World} : ∀ {es : List DictEntry} {vs : List (Key × Value)}, Pairs (mixKind P w) es vs → es.length = vs.length
  | _, _, .nil => rfl
  | _, _, .cons _ _ t => congrArg (· + 1) (pairs_len t)
/-- sorted(view): a new list of new pairs -/
def rSortItI : List V → Hp → VK → Prop := fun vs H Q => ∃ (p a : Addr) (ks : List (Int × Int)), vs = [.ref p] ∧ H p = some (itemsO p a) ∧ H a = some (.dK (ks.map kvJ)) ∧
  ∀ (H' : Hp) (l : Addr) (ps : List (Addr × Int × Int)), Same H H' → (ps.map (·.2)).Perm ks → (ps.map (·.2)).Pairwise (fun e f => SrtO.lexB f e = false) → H l = none → H' l = some (.lst (ps.map fun z => V.ref z.1)) →
    (∀ z ∈ ps, H z.1 = none ∧ l ≠ z.1 ∧ H' z.1 = some (.tup [.int z.2.1, .int z.2.2])) → Q (.ref l) H'
theorem cr_sortedItI (hc : X.calm = true) : CallR X (.builtin "sorted") rSortItI := by
  intro pins s σ H xs us Q I r h
  obtain ⟨p, a, ks, rfl, hp, ha, q⟩ := h
  obtain rfl := Vals.ref1 r
  have view : s.heap.IsItemsView p a := (show ObjOk X.prog X.w H s.heap p (itemsO p a) from I.hok p _ hp).1
  obtain ⟨hz, hd, vs, kv, o, es, ep, ho, hx, hdat, hkeys, hps, hndk⟩ := dk_of I.hok ha
  have lk : (ks.map kvJ).length = vs.length := Paired.length kv
  have hbo := pairs_both kv hps
  have le : es.toList.length = vs.length := pairs_len hps
  rw [Array.length_toList] at le
  rw [List.length_map] at hz lk
  have hh : X.A.handled = none := I.ok.hd hc
  refine DT.sortedI (es := es) (ep := ep) hh view ⟨o, ho, hx, hdat⟩ (by rw [sizeLine_eq] at hz ⊢; omega) fun h' tk as hk hlt hl hG => ?_
  have lak : as.length = ks.length := by omega
  have nd : as.Nodup := List.Pairwise.imp (fun h => Nat.ne_of_lt h) hG.rise
  have pr : ∀ (j : Nat) (b : Addr), as[j]? = some b → ∃ (e : Int × Int) (t1 t2 : Tok), ks[j]? = some e ∧ h'.get? b = some { cls := .type "tuple", data := .seq #[Value.int e.1 t1, Value.int e.2 t2] } := by
    intro j b hj
    obtain ⟨en, he, hg⟩ := hG.pairs j b hj
    obtain ⟨e, t1, t2, h1, h2, h3⟩ := hbo j en (by rw [Array.getElem?_toList]; exact he)
    rw [h2, h3] at hg
    exact ⟨e, t1, t2, h1, hg⟩
  obtain ⟨kk, hkk⟩ := exk as ks nd lak
  have hob : (h'.push { cls := .type "list", data := .seq (as.map Value.ref).toArray }).get? h'.objs.size = some (seqObj "list" (as.map Value.ref).toArray 0) := Heap.get?_push_size _ rfl
  have kb : ∀ b o, s.heap.get? b = some o → (h'.push { cls := .type "list", data := .seq (as.map Value.ref).toArray }).get? b = some o := fun b o e => Heap.get?_push_of_some _ (hk b o e)
  have ne0 : ∀ b o, h'.get? b = some o → b ≠ h'.objs.size := fun b o e => Nat.ne_of_lt (Heap.lt_size e)
  generalize hh2 : h'.push { cls := .type "list", data := .seq (as.map Value.ref).toArray } = h2 at hob kb ⊢
  have ka : ∀ b o, h'.get? b = some o → h2.get? b = some o := fun b o e => by rw [← hh2]; exact Heap.get?_push_of_some _ e
  let kf : Value → Int × Int := fun v => match v with
    | .ref b => kk b
    | _ => (0, 0)
  have pin : ∀ v ∈ as.map Value.ref, Srt.IsPair h2 v (kf v).1 (kf v).2 := by
    intro v hv
    obtain ⟨b, hb, rfl⟩ := List.mem_map.mp hv
    obtain ⟨j, hj⟩ := List.mem_iff_getElem?.mp hb
    obtain ⟨e, t1, t2, he, hg⟩ := pr j b hj
    have ek : kf (.ref b) = e := hkk j b e hj he
    rw [ek]
    exact ⟨b, _, t1, t2, 0, rfl, ka _ _ hg, rfl, rfl⟩
  refine wpAny_call_entry slot_list_sort ⟨_, hob, rfl⟩ entry_list_sort (SrtO.list_sort_ord (SrtO.swo_lex kf) hob (by rw [List.length_map]; omega) (fun h2' => SrtO.pairs_sortableO (by omega) pin (fun o e => by rw [hob] at e; cases e; exact fun z => absurd (Value.type.inj z) (by decide))) fun out o1 o2 => ⟨_, rfl, ?_⟩) (args_list_sort _)
  show EP X pins σ Q (.ref h'.objs.size) { s with heap := sortedHeap h2 h'.objs.size (as.map Value.ref) out.toArray, toks := tk }
  obtain ⟨zs, pz, ez⟩ := perm_lift (fun z : Addr × Int × Int => Value.ref z.1) o2.perm (as.zip ks) (by have e := congrArg (List.map Value.ref) (List.map_fst_zip (l₁ := as) (l₂ := ks) (by omega)); rw [List.map_map] at e; exact e)
  have idx : ∀ z ∈ zs, ∃ j : Nat, as[j]? = some z.1 ∧ ks[j]? = some z.2 := by
    intro z' hz'
    obtain ⟨j, hj⟩ := List.mem_iff_getElem?.mp (pz.mem_iff.mp hz')
    exact ⟨j, List.getElem?_zip_eq_some.mp hj⟩
  have hperm : (zs.map (·.2)).Perm ks := by
    have e := pz.map (·.2)
    have m2 : (as.zip ks).map (·.2) = ks := List.map_snd_zip (by rw [lak]; exact Nat.le_refl _)
    rw [m2] at e
    exact e
  have hsort : (zs.map (·.2)).Pairwise (fun e f => SrtO.lexB f e = false) := by
    have o1' : List.Pairwise (fun x y => SrtO.lexB (kf y) (kf x) = false) out := o1
    rw [← ez, List.pairwise_map] at o1'
    rw [List.pairwise_map]
    refine List.Pairwise.imp_of_mem (fun {x y} hx hy h => ?_) o1'
    obtain ⟨j, j1, j2⟩ := idx x hx
    obtain ⟨i, i1, i2⟩ := idx y hy
    have hx' : kf (.ref x.1) = x.2 := hkk j _ _ j1 j2
    have hy' : kf (.ref y.1) = y.2 := hkk i _ _ i1 i2
    rw [hx', hy'] at h
    exact h
  have kF : ∀ b o, b ≠ h'.objs.size → h2.get? b = some o → (sortedHeap h2 h'.objs.size (as.map Value.ref) out.toArray).get? b = some o := fun b o hb e => (PyProof.Rows.sortedHeap_old hb (Heap.lt_size e)).trans e
  have kS : ∀ b o, s.heap.get? b = some o → (sortedHeap h2 h'.objs.size (as.map Value.ref) out.toArray).get? b = some o := fun b o e => kF b o (ne0 _ _ (hk b o e)) (kb b o e)
  obtain ⟨eF, heF⟩ := PyProof.Rows.sortedHeap_at (vs := as.map Value.ref) (out := out.toArray) hob
  have I1 : Inv X pins σ H { s with heap := sortedHeap h2 h'.objs.size (as.map Value.ref) out.toArray, toks := tk } := I.kept (t' := tk) kS
  have hn0 : H h'.objs.size = none := I.hok.fresh (Nat.le_of_lt hlt)
  have hlen : (zs.map fun z => V.ref z.1).length ≤ sizeLine := by
    have e := hperm.length_eq
    rw [List.length_map] at e
    rw [List.length_map, e]
    exact hz
  have rv : Vals (zs.map fun z => V.ref z.1) out.toArray.toList := by
    rw [← ez]
    exact vals_maps (fun z : Addr × Int × Int => V.ref z.1) (fun z => Value.ref z.1) zs fun _ _ => rfl
  have I2 : Inv X pins σ (upd H h'.objs.size (.lst (zs.map fun z => V.ref z.1))) { s with heap := sortedHeap h2 h'.objs.size (as.map Value.ref) out.toArray, toks := tk } :=
    I1.take (h' := sortedHeap h2 h'.objs.size (as.map Value.ref) out.toArray) (t' := tk) (fun b ob _ e => e) (I.fpOk (Nat.le_of_lt hlt) hn0) ⟨hlen, out, eF, by simpa using rv, by simpa using heF⟩
  obtain ⟨H2, I3, g, qt⟩ := takeT (P := fun b vs => H b = none ∧ h'.objs.size ≠ b ∧ ∃ (j : Nat) (e : Int × Int), as[j]? = some b ∧ ks[j]? = some e ∧ vs = [.int e.1, .int e.2]) I as _ I2 nd fun b hb => by
    obtain ⟨j, hj⟩ := List.mem_iff_getElem?.mp hb
    obtain ⟨e, t1, t2, he, hg⟩ := pr j b hj
    have hbl : s.heap.objs.size ≤ b := Nat.le_of_lt (hG.above b hb)
    refine ⟨hbl, ?_, [.int e.1, .int e.2], ⟨I.hok.fresh hbl, Ne.symm (ne0 _ _ hg), j, e, hj, he, rfl⟩, fun H3 => ⟨(by rw [sizeLine_eq]; show 2 ≤ 16777216; omega), [Value.int e.1 t1, Value.int e.2 t2], .cons ⟨t1, rfl⟩ (.cons ⟨t2, rfl⟩ .nil), ⟨_, kF _ _ (ne0 _ _ hg) (ka _ _ hg), rfl, 0, rfl⟩⟩⟩
    rw [upd_ne (ne0 _ _ hg)]
    exact I.hok.fresh hbl
  have gr : ∀ b o, H b = some o → H2 b = some o := fun b o e => g b o (by rw [upd_ne (ne_of_none e hn0)]; exact e)
  refine ⟨.ref h'.objs.size, H2, I3, rfl, q H2 h'.objs.size zs gr hperm hsort hn0 (g _ _ upd_same) fun z' hz' => ?_⟩
  obtain ⟨i, i1, i2⟩ := idx z' hz'
  obtain ⟨vs', ⟨f1, f2, j, e, j1, j2, ev⟩, hH⟩ := qt z'.1 (List.mem_of_getElem? i1)
  have eij : i = j := (List.getElem?_inj (List.getElem?_eq_some_iff.mp i1).1 nd).mp (i1.trans j1.symm)
  subst eij
  have ee : e = z'.2 := Option.some.inj (j2.symm.trans i2)
  rw [ev, ee] at hH
  exact ⟨f1, f2, hH⟩
end
end K59
set_option maxHeartbeats 4000000
namespace K59
open PySem PySem.Spec PyProof.Rows L2
/-! ### the text's defs -/
/-- what the module's name x stands for -/
abbrev cA (K : PySem.W.Frag) (x : Str) : Addr := He.ga K x
structure Df (K : PySem.W.Frag) (mg : Str → Option Value) (g x : Str) (st : Stmt) : Prop where
  ex : ∃ (f : Addr) (fd : FuncData), C8.Fun K x x st f fd ∧ mg g = some (.ref f) ∧ PySem.W.keepIn K (.ref f) = true ∧ fd.defaults = .none
structure Mf (K : PySem.W.Frag) (C : Addr) (m qual : Str) (st : Stmt) : Prop where
  ex : ∃ (f : Addr) (fd : FuncData), C8.Fun K m qual st f fd ∧ Meth K C m f ∧ fd.defaults = .none
/-- every argument given by its place -/
def BindOk (x qual : Str) (st : Stmt) (ps : List Str) : Prop := ∀ (kV doc pm : Value) (an : Option Addr) (cdv ct : Value) (us : List Value), us.length = ps.length →
  bindArgs (PySem.W.fnOf x qual (C8.fnArgs st) (C8.fnBody st) (C8.fnScope st) .none kV doc pm an cdv ct) ⟨us, []⟩ = pure (ps.zip us)
section
variable {P : Program} {w : World} {K : PySem.W.Frag} {mg : Str → Option Value} {base : Heap}
theorem cal_ {g x : Str} {st : Stmt} {N ps : List Str} {k : Nat} {sp : Sp} (D : Df K mg g x st) (b : BindOk x x st ps) (S : FnScope N ps (C8.fnScope st)) (len : ∀ vs H Q E, sp vs H Q E → vs.length = ps.length)
    (body : ∀ (f : Addr) (cdv : Value) (A : Around) (outer : List Env) (s : Shared) (H : Hp) (vs : List V) (Q : VK) (E : XK), Room k (A.deeper (envOfC x (C8.fnScope st) s.heap.objs.size f cdv)) → sp vs H Q E →
      ∃ t, PSs (cxOf C8.CX0 P w K mg base N x (C8.fnScope st) f cdv A outer s H E).nox (C8.fnBody st) t ∧ t { nx := fun _ H' => Q .non H', rt := Q } (start N vs) H) : C8.Cal P w K mg base (k + 1) g sp [] := by
  obtain ⟨f, fd, F, m, kp, df⟩ := D.ex
  exact ⟨f, fd, ps, [], C8.fn0 F S len (body f), m, kp, F.binds df b, .nil⟩
theorem met_ {C : Addr} {x qual : Str} {st : Stmt} {N ps : List Str} {k : Nat} {sp : Sp} (c : Cls K C) (D : Mf K C x qual st) (b : BindOk x qual st ps) (S : FnScope N ps (C8.fnScope st)) (len : ∀ vs H Q E, sp vs H Q E → vs.length = ps.length)
    (body : ∀ (f : Addr) (cdv : Value) (A : Around) (outer : List Env) (s : Shared) (H : Hp) (vs : List V) (Q : VK) (E : XK), Room k (A.deeper (envOfC qual (C8.fnScope st) s.heap.objs.size f cdv)) → sp vs H Q E →
      ∃ t, PSs (cxOf C8.CX0 P w K mg base N qual (C8.fnScope st) f cdv A outer s H E).nox (C8.fnBody st) t ∧ t { nx := fun _ H' => Q .non H', rt := Q } (start N vs) H) : C8.Met P w K mg base (k + 1) C x sp [] := by
  obtain ⟨f, fd, F, m, df⟩ := D.ex
  exact ⟨f, fd, ps, [], c, m, C8.fn0 F S len (body f), F.binds df b, .nil⟩
theorem mak_ {C : Addr} {x qual : Str} {st : Stmt} {N ps : List Str} {k : Nat} {sp : Sp} {dvs : List V} {kws : List (Str × V)} {f : Addr} {fd : FuncData} (hm : mg x = some (.ref C)) (F : FunD K "__init__" qual (C8.fnArgs st) (C8.fnBody st) (C8.fnScope st) dvs kws f fd) (M : Mk K C f) (b : Binds K fd ps []) (S : FnScope N ps (C8.fnScope st)) (len : ∀ vs H Q E, sp vs H Q E → vs.length = ps.length)
    (body : ∀ (f : Addr) (cdv : Value) (A : Around) (outer : List Env) (s : Shared) (H : Hp) (vs : List V) (Q : VK) (E : XK), Room k (A.deeper (envOfC qual (C8.fnScope st) s.heap.objs.size f cdv)) → sp vs H Q E →
      ∃ t, PSs (cxOf C8.CX0 P w K mg base N qual (C8.fnScope st) f cdv A outer s H E).nox (C8.fnBody st) t ∧ t { nx := fun _ H' => Q .non H', rt := Q } (start N vs) H) : C8.Mak P w K mg base (k + 1) x C sp [] :=
  ⟨f, fd, ps, [], M, F.ok S len (fun cdv A outer s H vs Q E hr hsp => by
    obtain ⟨t, h1, h2⟩ := body f cdv A outer s H vs Q E hr hsp
    exact ⟨t, h1.nox, h2⟩), hm, b, .nil⟩
/-- a def that errors leave -/
structure CalX (P : Program) (w : World) (K : PySem.W.Frag) (mg : Str → Option Value) (base : Heap) (k : Nat) (x : Str) (sp : Sp) : Prop where
  ex : ∃ (f : Addr) (fd : FuncData) (ps : List Str), FnOk P w K mg base (L2.CX P w) k f fd ps sp ∧ mg x = some (.ref f) ∧ PySem.W.keepIn K (.ref f) = true ∧ Binds K fd ps []
structure MetX (P : Program) (w : World) (K : PySem.W.Frag) (mg : Str → Option Value) (base : Heap) (k : Nat) (C : Addr) (m : Str) (sp : Sp) : Prop where
  ex : ∃ (f : Addr) (fd : FuncData) (ps : List Str), Cls K C ∧ Meth K C m f ∧ FnOk P w K mg base (L2.CX P w) k f fd ps sp ∧ Binds K fd ps []
theorem fnX {x qual : Str} {st : Stmt} {f : Addr} {fd : FuncData} {N ps : List Str} {k : Nat} {sp : Sp} (F : C8.Fun K x qual st f fd) (S : FnScope N ps (C8.fnScope st)) (len : ∀ vs H Q E, sp vs H Q E → vs.length = ps.length)
    (body : ∀ (f : Addr) (cdv : Value) (A : Around) (outer : List Env) (s : Shared) (H : Hp) (vs : List V) (Q : VK) (E : XK), Room k (A.deeper (envOfC qual (C8.fnScope st) s.heap.objs.size f cdv)) → sp vs H Q E →
      ∃ t, PSs (cxOf (L2.CX P w) P w K mg base N qual (C8.fnScope st) f cdv A outer s H E) (C8.fnBody st) t ∧ t { nx := fun _ H' => Q .non H', rt := Q } (start N vs) H) : FnOk P w K mg base (L2.CX P w) (k + 1) f fd ps sp := by
  obtain ⟨oc, od, dV, kV, doc, pm, an, cdv, ct, osl, rfl, lk, hcd⟩ := F.ex
  exact fn_of lk hcd S len fun A outer s H vs Q E hr hsp => body f cdv A outer s H vs Q E hr hsp
theorem calX_ {g x : Str} {st : Stmt} {N ps : List Str} {k : Nat} {sp : Sp} (D : Df K mg g x st) (b : BindOk x x st ps) (S : FnScope N ps (C8.fnScope st)) (len : ∀ vs H Q E, sp vs H Q E → vs.length = ps.length)
    (body : ∀ (f : Addr) (cdv : Value) (A : Around) (outer : List Env) (s : Shared) (H : Hp) (vs : List V) (Q : VK) (E : XK), Room k (A.deeper (envOfC x (C8.fnScope st) s.heap.objs.size f cdv)) → sp vs H Q E →
      ∃ t, PSs (cxOf (L2.CX P w) P w K mg base N x (C8.fnScope st) f cdv A outer s H E) (C8.fnBody st) t ∧ t { nx := fun _ H' => Q .non H', rt := Q } (start N vs) H) : CalX P w K mg base (k + 1) g sp := by
  obtain ⟨f, fd, F, m, kp, df⟩ := D.ex
  exact ⟨f, fd, ps, fnX F S len body, m, kp, F.binds df b⟩
theorem metX_ {C : Addr} {x qual : Str} {st : Stmt} {N ps : List Str} {k : Nat} {sp : Sp} (c : Cls K C) (D : Mf K C x qual st) (b : BindOk x qual st ps) (S : FnScope N ps (C8.fnScope st)) (len : ∀ vs H Q E, sp vs H Q E → vs.length = ps.length)
    (body : ∀ (f : Addr) (cdv : Value) (A : Around) (outer : List Env) (s : Shared) (H : Hp) (vs : List V) (Q : VK) (E : XK), Room k (A.deeper (envOfC qual (C8.fnScope st) s.heap.objs.size f cdv)) → sp vs H Q E →
      ∃ t, PSs (cxOf (L2.CX P w) P w K mg base N qual (C8.fnScope st) f cdv A outer s H E) (C8.fnBody st) t ∧ t { nx := fun _ H' => Q .non H', rt := Q } (start N vs) H) : MetX P w K mg base (k + 1) C x sp := by
  obtain ⟨f, fd, F, m, df⟩ := D.ex
  exact ⟨f, fd, ps, c, m, fnX F S len body, F.binds df b⟩
end
section
variable {X : Cx} {k j : Nat} {x : Str} {sp : Sp} {p pos : Pos} {e : Expr} {es : List Expr} {t : TA}
/-- f(e, ..), f may raise; here it does not -/
theorem pass_no {E : XK} (h : ∀ c d H, ¬ E c d H) : Passes (L2.CX X.prog X.w) X E := passes_call (W := fun _ _ _ _ => False) takes_none5 (fun c d _ H z => (h c d H z).elim)
theorem pe_cx0 (c : CalX X.prog X.w X.K X.mg X.base k x sp) (hr : Room j X.A) (hk : k ≤ j) (hg : Gl X x) (ha : PA X (e :: es) t)
    (hdb : (x == ("__debug__" : Str)) = false := by decide) (he : starEach (e :: es) X.env = (false, eval e X.env) :: starEach es X.env := by rfl) (hpl : (backTo pos (starEach es X.env)).any (·.1) = false := by rfl) :
    PE X (.Call (.Name x p) (e :: es) [] pos) (tCall sp [] E0 t) := by
  obtain ⟨f, fd, ps, F, hm, kp, b⟩ := c.ex
  exact pe_call F (hr.mono hk) hg hm kp b .nil (pass_no fun _ _ _ z => z) ha hdb he hpl
/-- f(e, ..), f may raise, in a def that lets it out: E -/
theorem pe_cx {E : XK} (c : CalX X.prog X.w X.K X.mg X.base k x sp) (hr : Room j X.A) (hk : k ≤ j) (hg : Gl X x) (hx : Passes (L2.CX X.prog X.w) X E) (ha : PA X (e :: es) t)
    (hdb : (x == ("__debug__" : Str)) = false := by decide) (he : starEach (e :: es) X.env = (false, eval e X.env) :: starEach es X.env := by rfl) (hpl : (backTo pos (starEach es X.env)).any (·.1) = false := by rfl) :
    PE X (.Call (.Name x p) (e :: es) [] pos) (tCall sp [] E t) := by
  obtain ⟨f, fd, ps, F, hm, kp, b⟩ := c.ex
  exact pe_call F (hr.mono hk) hg hm kp b .nil hx ha hdb he hpl
end
theorem pass_self {P : Program} {w : World} {K : PySem.W.Frag} {mg : Str → Option Value} {base : Heap} {N : List Str} {q : Str} {sc : Scope} {f : Addr} {cdv : Value} {A : Around} {outer : List Env} {s : Shared} {H : Hp} {E : XK} :
    Passes (L2.CX P w) (cxOf (L2.CX P w) P w K mg base N q sc f cdv A outer s H E) E := passes_call (takes_of rfl rfl rfl rfl) fun _ _ _ _ h => h
abbrev rListOf (K : PySem.W.Frag) : List V → Hp → VK → Prop := fun xs H Q => ∃ p ys, xs = [V.ref p] ∧ (SqL K H p ys ∨ SqT K H p ys) ∧ ∀ l, H l = none → Q (.ref l) (L2.upd H l (.lst ys))
abbrev rLenSq (K : PySem.W.Frag) : List V → Hp → VK → Prop := fun xs H Q => ∃ p ys, xs = [V.ref p] ∧ (SqL K H p ys ∨ SqT K H p ys) ∧ Q (.int ys.length) H
theorem hu64 {A : Around} {k : Nat} (hr : Room k A) : A.units + 64 < cLine := by have := hr.un; omega
def Forms (K : PySem.W.Frag) (w : World) (d : Addr) : Prop := (∃ es n, KDict K w d es n) ∧ ∀ p ∈ formTab, ∃ (f : Addr) (bs : List Addr), KDct K w d p.1 (.ref f) ∧ (∀ H, SqT K H f (bs.map V.ref)) ∧
  Paired (fun (b : Addr) (q : Int × Int) => ∀ H, SqT K H b [.int q.1, .int q.2]) bs p.2
/-- the facts of the top -/
structure Fx (w : World) (K : PySem.W.Frag) (mg : Str → Option Value) : Prop where
  f_len : mg "len" = none
  f_all : mg "all" = none
  f_isinstance : mg "isinstance" = none
  f_int : mg "int" = none
  f_str : mg "str" = none
  f_bool : mg "bool" = none
  f_list : mg "list" = none
  f_tuple : mg "tuple" = none
  f_dict : mg "dict" = none
  f_sorted : mg "sorted" = none
  f_range : mg "range" = none
  f_enumerate : mg "enumerate" = none
  f_zip : mg "zip" = none
  g_MOST_TICK : ∃ u, mg "MOST_TICK" = some u ∧ RelV (.int 999999) u
  g_MOST_EVENTS : ∃ u, mg "MOST_EVENTS" = some u ∧ RelV (.int 200) u
  g_MOST_SIGNS_events : ∃ u, mg "MOST_SIGNS_events" = some u ∧ RelV (.int 12) u
  g_MOST_BEAT : ∃ u, mg "MOST_BEAT" = some u ∧ RelV (.int 960) u
  g_MOST_PACE : ∃ u, mg "MOST_PACE" = some u ∧ RelV (.int 16777215) u
  g_MOST_PACES : ∃ u, mg "MOST_PACES" = some u ∧ RelV (.int 20) u
  g_MOST_TRACKS : ∃ u, mg "MOST_TRACKS" = some u ∧ RelV (.int 6) u
  g_MOST_TAPES : ∃ u, mg "MOST_TAPES" = some u ∧ RelV (.int 6) u
  g_MOST_SIGNS_deeds : ∃ u, mg "MOST_SIGNS_deeds" = some u ∧ RelV (.int 8) u
  g_SIGNS : ∃ u, mg "SIGNS" = some u ∧ RelV (.str "abcdefghijklmnopqrstuvwxyz0123456789 ") u
  g_LETTERS : ∃ u, mg "LETTERS" = some u ∧ RelV (.str "abcdefghijklmnopqrstuvwxyz") u
  d_is_between : Df K mg "is_between" "is_between" (top 30)
  d_is_text : Df K mg "is_text" "is_text" (top 31)
  d_is_event : Df K mg "is_event" "is_event" (top 32)
  d_need_track : Df K mg "need_track" "need_track" (top 33)
  d_need_tick : Df K mg "need_tick" "need_tick" (top 34)
  d_need_room_events : Df K mg "need_room_events" "need_room" (top 35)
  d_later : Df K mg "later" "later" (top 37)
  d_put_in : Df K mg "put_in" "put_in" (top 40)
  d_need_beat : Df K mg "need_beat" "need_beat" (top 46)
  d_need_pace : Df K mg "need_pace" "need_pace" (top 47)
  d_is_of : Df K mg "is_of" "is_of" (top 69)
  d_apart : Df K mg "apart" "apart" (top 70)
  d_need_new : Df K mg "need_new" "need_new" (top 77)
  d_need_room_deeds : Df K mg "need_room_deeds" "need_room" (top 78)
  d_tape_of : Df K mg "tape_of" "tape_of" (top 80)
  d_track_of : Df K mg "track_of" "track_of" (top 81)
  d_with_track : Df K mg "with_track" "with_track" (top 82)
  d_do_new : Df K mg "do_new" "do_new" (top 83)
  d_do_add : Df K mg "do_add" "do_add" (top 84)
  d_do_put : Df K mg "do_put" "do_put" (top 85)
  d_do_take : Df K mg "do_take" "do_take" (top 86)
  d_do_pace : Df K mg "do_pace" "do_pace" (top 87)
  d_do_later : Df K mg "do_later" "do_later" (top 89)
  d_do_part : Df K mg "do_part" "do_part" (top 94)
  d_after : Df K mg "after" "after" (top 99)
  d_others : Df K mg "others" "others" (top 101)
  d_law_book_copy : Df K mg "_law_book_copy" "_law_book_copy" (top 104)
  d_law_pick : Df K mg "_law_pick" "_law_pick" (top 105)
  d_law_one : Df K mg "_law_one" "_law_one" (top 106)
  d_law_beat : Df K mg "_law_beat" "_law_beat" (top 107)
  d_law_tick : Df K mg "_law_tick" "_law_tick" (top 108)
  d_law_channel : Df K mg "_law_channel" "_law_channel" (top 109)
  d_law_key : Df K mg "_law_key" "_law_key" (top 110)
  d_law_word : Df K mg "_law_word" "_law_word" (top 111)
  d_law_thing : Df K mg "_law_thing" "_law_thing" (top 112)
  d_law_some_event : Df K mg "_law_some_event" "_law_some_event" (top 113)
  d_law_pace : Df K mg "_law_pace" "_law_pace" (top 114)
  d_law_slim_deed : Df K mg "_law_slim_deed" "_law_slim_deed" (top 115)
  d_law_slim_sizes : Df K mg "_law_slim_sizes" "_law_slim_sizes" (top 116)
  d_law_name_word : Df K mg "_law_name_word" "_law_name_word" (top 117)
  d_law_within : Df K mg "_law_within" "_law_within" (top 118)
  d_law_event_good : Df K mg "_law_event_good" "_law_event_good" (top 119)
  d_law_slim_track_word : Df K mg "_law_slim_track_word" "_law_slim_track_word" (top 120)
  d_law_slim_word : Df K mg "_law_slim_word" "_law_slim_word" (top 121)
  d_law_put_in : Df K mg "_law_put_in" "_law_put_in" (top 122)
  d_law_lane : Df K mg "_law_lane" "_law_lane" (top 123)
  d_law_slim_done : Df K mg "_law_slim_done" "_law_slim_done" (top 124)
  d_law_begin : Df K mg "_law_begin" "_law_begin" (top 125)
  d_law_names : Df K mg "_law_names" "_law_names" (top 126)
  d_law_same : Df K mg "_law_same" "_law_same" (top 127)
  d_law_tried : Df K mg "_law_tried" "_law_tried" (top 128)
  d_law_pairs : Df K mg "_law_pairs" "_law_pairs" (top 129)
  d_law_deck_so : Df K mg "_law_deck_so" "_law_deck_so" (top 130)
  d_law_row_of : Df K mg "_law_row_of" "_law_row_of" (top 131)
  d_law : Df K mg "law" "law" (top 132)
  c_Map : Cls K (cA K "Map")
  mg_Map : mg "Map" = some (.ref (cA K "Map"))
  n_Map_ticks : NoAttr K (cA K "Map") "ticks"
  n_Map_known : NoAttr K (cA K "Map") "known"
  m_Map_put : Mf K (cA K "Map") "put" "Map.put" (inClass (top 48) 4)
  m_Map_beat : Mf K (cA K "Map") "beat" "Map.beat" (inClass (top 48) 6)
  m_Map_paces : Mf K (cA K "Map") "paces" "Map.paces" (inClass (top 48) 7)
  m_Map_twin : Mf K (cA K "Map") "twin" "Map.twin" (inClass (top 48) 13)
  c_Tape : Cls K (cA K "Tape")
  mg_Tape : mg "Tape" = some (.ref (cA K "Tape"))
  n_Tape_own : NoAttr K (cA K "Tape") "own"
  n_Tape_rows : NoAttr K (cA K "Tape") "rows"
  m_Tape_beat : Mf K (cA K "Tape") "beat" "Tape.beat" (inClass (top 64) 4)
  m_Tape_tracks : Mf K (cA K "Tape") "tracks" "Tape.tracks" (inClass (top 64) 5)
  m_Tape_paces : Mf K (cA K "Tape") "paces" "Tape.paces" (inClass (top 64) 6)
  m_Tape_paced : Mf K (cA K "Tape") "paced" "Tape.paced" (inClass (top 64) 7)
  c_Deck : Cls K (cA K "Deck")
  mg_Deck : mg "Deck" = some (.ref (cA K "Deck"))
  n_Deck_book : NoAttr K (cA K "Deck") "book"
  n_Deck_elder : NoAttr K (cA K "Deck") "elder"
  n_Deck_past : NoAttr K (cA K "Deck") "past"
  n_Deck_ahead : NoAttr K (cA K "Deck") "ahead"
  n_Deck_under : NoAttr K (cA K "Deck") "under"
  m_Deck_len : Mf K (cA K "Deck") "__len__" "Deck.__len__" (inClass (top 102) 1)
  m_Deck_do_all : Mf K (cA K "Deck") "do_all" "Deck.do_all" (inClass (top 102) 4)
  m_Deck_busy : Mf K (cA K "Deck") "busy" "Deck.busy" (inClass (top 102) 5)
  m_Deck_undo : Mf K (cA K "Deck") "undo" "Deck.undo" (inClass (top 102) 6)
  m_Deck_deeds : Mf K (cA K "Deck") "deeds" "Deck.deeds" (inClass (top 102) 8)
  m_Deck_names : Mf K (cA K "Deck") "names" "Deck.names" (inClass (top 102) 9)
  m_Deck_tape : Mf K (cA K "Deck") "tape" "Deck.tape" (inClass (top 102) 10)
  m_Deck_fresh : Mf K (cA K "Deck") "fresh" "Deck.fresh" (inClass (top 102) 11)
  i_Map : ∃ (f fd : _) (t1 : Addr), FunD K "__init__" "Map.__init__" (C8.fnArgs (inClass (top 48) 0)) (C8.fnBody (inClass (top 48) 0)) (C8.fnScope (inClass (top 48) 0)) [.ref t1] [] f fd ∧ Mk K (cA K "Map") f
  i_Deck : ∃ (f fd : _) (_ : Unit), FunD K "__init__" "Deck.__init__" (C8.fnArgs (inClass (top 102) 0)) (C8.fnBody (inClass (top 102) 0)) (C8.fnScope (inClass (top 102) 0)) [] [] f fd ∧ Mk K (cA K "Deck") f
  i_Tape : ∃ (f fd : _) (tt t0 t1 : Addr), FunD K "__init__" "Tape.__init__" (C8.fnArgs (inClass (top 64) 0)) (C8.fnBody (inClass (top 64) 0)) (C8.fnScope (inClass (top 64) 0)) [.int 96, .ref tt] [("paces", .ref t1)] f fd ∧ Mk K (cA K "Tape") f ∧ (∀ H, SqT K H tt [.ref t0]) ∧ (∀ H, SqT K H t0 []) ∧ ∀ H, SqT K H t1 []
  chan : mg "CHANNEL" = some (.ref (cA K "CHANNEL")) ∧ ∀ H, SqT K H (cA K "CHANNEL") [.int 0, .int 15]
  g_FORMS : ∃ d, mg "FORMS" = some (.ref d) ∧ Forms K w d
  g_SIZES : ∃ d, mg "SIZES" = some (.ref d) ∧ (d == sysModules) = false ∧ (∃ es n, KDict K w d es n) ∧ ∀ p ∈ sizeTab, KDct K w d p.1 (.int p.2)
  g_DEEDS : ∃ d, mg "DEEDS" = some (.ref d) ∧ ∀ p ∈ deedTab, KDct K w d p.1 (.ref (cA K p.2))
  a_do_new : mg "do_new" = some (.ref (cA K "do_new"))
  a_do_add : mg "do_add" = some (.ref (cA K "do_add"))
  a_do_put : mg "do_put" = some (.ref (cA K "do_put"))
  a_do_take : mg "do_take" = some (.ref (cA K "do_take"))
  a_do_pace : mg "do_pace" = some (.ref (cA K "do_pace"))
  a_do_later : mg "do_later" = some (.ref (cA K "do_later"))
  a_do_part : mg "do_part" = some (.ref (cA K "do_part"))
  x_BadDeed : ∃ fI, XcT K mg "BadDeed" (cA K "BadDeed") fI veTail "ValueError.__new__" "baddeed"
  y_BadDeed : XfC K (cA K "BadDeed") ∧ PySem.W.findIn K (.ref (cA K "BadDeed")) "called" = some none
  x_BadName : ∃ fI, XcT K mg "BadName" (cA K "BadName") fI veTail "ValueError.__new__" "badname"
  y_BadName : XfC K (cA K "BadName") ∧ PySem.W.findIn K (.ref (cA K "BadName")) "called" = some none
  x_NoTape : ∃ fI, XcT K mg "NoTape" (cA K "NoTape") fI leTail "LookupError.__new__" "notape"
  y_NoTape : XfC K (cA K "NoTape") ∧ PySem.W.findIn K (.ref (cA K "NoTape")) "called" = some none
  e_Tape : mg "TapeError" = some (.ref (cA K "TapeError"))
  e_Miss : mg "MissingError" = some (.ref (cA K "MissingError"))
  q_BadDeed : PySem.W.exmOne K (.ref (cA K "BadDeed")) (.ref (cA K "TapeError")) = some true
  q_BadName : PySem.W.exmOne K (.ref (cA K "BadName")) (.ref (cA K "TapeError")) = some true
  q_NoTape : PySem.W.exmOne K (.ref (cA K "NoTape")) (.ref (cA K "TapeError")) = some false ∧ PySem.W.exmOne K (.ref (cA K "NoTape")) (.ref (cA K "MissingError")) = some true
theorem kit_ii {K : PySem.W.Frag} : PySem.W.kitOne K (.type "int") (.type "int") = some true := kit_ty (by decide +kernel)
theorem kit_si {K : PySem.W.Frag} : PySem.W.kitOne K (.type "str") (.type "int") = some false := kit_ty (by decide +kernel)
theorem kit_is {K : PySem.W.Frag} : PySem.W.kitOne K (.type "int") (.type "str") = some false := kit_ty (by decide +kernel)
theorem kit_ss {K : PySem.W.Frag} : PySem.W.kitOne K (.type "str") (.type "str") = some true := kit_ty (by decide +kernel)
end K59
set_option maxHeartbeats 4000000
namespace K59
open PySem PySem.Spec PyProof.Rows L2
theorem over {H0 H1 : Hp} {D : Addr} {o : HO} (s : Same H0 H1) (h : H0 D = none) : Same H0 (upd H1 D o) := fun a o' e => by
  rw [upd_ne (ne_of_none e h)]
  exact s a o' e
theorem same_rfl {H : Hp} : Same H H := fun _ _ e => e
theorem wasNone {H H' : Hp} {a : Addr} (s : Same H H') (h : H' a = none) : H a = none := by
  cases e : H a with
  | none => rfl
  | some o => rw [s a o e] at h; cases h
theorem cut_upto {xs : List V} {n : Nat} : cutV xs none (some (n : Int)) = xs.take n := by
  unfold cutV
  rw [HT.sIx_nat, HT.sIx_none, List.drop_zero, Nat.sub_zero]
  by_cases h : n ≤ xs.length
  · rw [Nat.min_eq_left h]
  · rw [Nat.min_eq_right (by omega), List.take_of_length_le (Nat.le_refl _), List.take_of_length_le (by omega)]
theorem cut_from {xs : List V} {n : Nat} : cutV xs (some (n : Int)) none = xs.drop n := by
  unfold cutV
  rw [HT.sIx_nat, HT.sIx_none]
  rw [List.take_of_length_le (by rw [List.length_drop]; exact Nat.le_refl _)]
  by_cases h : n ≤ xs.length
  · rw [Nat.min_eq_left h]
  · rw [Nat.min_eq_right (by omega), List.drop_eq_nil_of_le (Nat.le_refl _), List.drop_eq_nil_of_le (by omega)]
theorem cut_1 {x : V} {xs : List V} : cutV (x :: xs) (some 1) none = xs := cut_from (n := 1)
theorem nocut_1 {x : V} {xs : List V} : ¬ (HT.sIx (x :: xs).length 0 (some 1) = 0 ∧ HT.sIx (x :: xs).length (x :: xs).length none = (x :: xs).length) := by
  intro h
  have := h.1
  rw [show (some (1 : Int)) = some ((1 : Nat) : Int) from rfl, HT.sIx_nat] at this
  simp at this
theorem at_nat {α : Type} {xs : List α} {i : Int} {j : Nat} {v : α} (e : i = (j : Int)) (h : xs[j]? = some v) : atI xs i = some v := by subst e; exact atI_nat h
theorem sz {n : Nat} (h : n ≤ 16777216) : n ≤ sizeLine := by rw [sizeLine_eq]; omega
theorem szl {n : Nat} (h : n < 16777216) : n < sizeLine := by rw [sizeLine_eq]; omega
section
variable {K : PySem.W.Frag} {H : Hp}
theorem ev_sq {v : V} {ev : Ev} (h : Dp K H v (evP ev)) (g : GoodEv ev) : ∃ e, v = .ref e ∧ SqT K H e (ev.map scV) := by
  obtain ⟨a, xs, rfl, h1, h2⟩ := Dp.tupI h
  rw [DpAll.flat g.flat h2] at h1
  exact ⟨a, rfl, h1⟩
theorem ev_dp {e : Addr} {ev : Ev} (h : SqT K H e (ev.map scV)) (g : ev.all isSc = true) : Dp K H (.ref e) (evP ev) := .tup h (DpAll.ofFlat g)
theorem ev_at {xs : List V} {t : Tr} {i : Nat} {x : V} (h : DpAll K H xs (t.map evP)) (hx : xs[i]? = some x) : ∃ ev, t[i]? = some ev ∧ Dp K H x (evP ev) := by
  obtain ⟨d, h1, h2⟩ := DpAll.at h hx
  rw [List.getElem?_map] at h1
  cases e : t[i]? with
  | none => rw [e] at h1; cases h1
  | some ev => rw [e] at h1; cases h1; exact ⟨ev, rfl, h2⟩
theorem ev_at' {xs : List V} {t : Tr} {i : Nat} {ev : Ev} (h : DpAll K H xs (t.map evP)) (hx : t[i]? = some ev) : ∃ x, xs[i]? = some x ∧ Dp K H x (evP ev) :=
  DpAll.at' h (by rw [List.getElem?_map, hx]; rfl)
theorem tr_len {xs : List V} {t : Tr} (h : DpAll K H xs (t.map evP)) : xs.length = t.length := by rw [DpAll.len h, List.length_map]
/-- an event seen whole -/
theorem ev_in {xs : List V} {t : Tr} {i : Nat} {x : V} (ok : ∀ e ∈ t, GoodEv e) (h : DpAll K H xs (t.map evP)) (hx : xs[i]? = some x) :
    ∃ e ev w r, x = .ref e ∧ t[i]? = some ev ∧ GoodEv ev ∧ Dp K H x (evP ev) ∧ SqT K H e (ev.map scV) ∧ ev = .int (tick ev) :: .str w :: r ∧ r ≠ [] ∧ 0 ≤ tick ev ∧ tick ev ≤ 999999 ∧ ev.length ≤ 5 := by
  obtain ⟨ev, h1, h2⟩ := ev_at h hx
  have g := ok ev (List.mem_of_getElem? h1)
  obtain ⟨e, rfl, h3⟩ := ev_sq h2 g
  obtain ⟨w, r, e0, hr, a, b, c⟩ := g.tk
  exact ⟨e, ev, w, r, rfl, h1, g, h2, h3, e0, hr, a, b, c⟩
end
theorem sc_head {ev : Ev} {w : Str} {r : List PyData} (e : ev = .int (tick ev) :: .str w :: r) : ev.map scV = .int (tick ev) :: .str w :: r.map scV := by
  rw [e]; rfl
theorem decT {p : Prop} [Decidable p] (h : p) : decide p = true := decide_eq_true h
theorem decF {p : Prop} [Decidable p] (h : ¬ p) : decide p = false := decide_eq_false h
/-- the step of a comprehension: the list D grows -/
theorem acc_step {H0 H1 : Hp} {D : Addr} {xs : List V} {y : V} (s : Same H0 H1) (h : H0 D = none) : Same H0 (upd H1 D (.lst (xs ++ [y]))) ∧ upd H1 D (.lst (xs ++ [y])) D = some (.lst (xs ++ [y])) := ⟨over s h, upd_same⟩
theorem take_succ' {α : Type} {xs : List α} {i : Nat} {x : α} (h : xs[i]? = some x) : xs.take (i + 1) = xs.take i ++ [x] := by
  rw [List.take_add_one, h]; rfl
/-! ### lists that grow -/
theorem wo_upd {S : List Addr} {H : Hp} {d : Addr} {o : HO} (h : d ∈ S) : wo S (upd H d o) = wo S H := by
  funext a
  by_cases q : a ∈ S
  · rw [wo_in q, wo_in q]
  · rw [wo_out q, wo_out q, upd_ne (fun z => q (by rw [z]; exact h))]
/-- the list at D through i turns: f i -/
structure Gro (K : PySem.W.Frag) (S : List Addr) (H1 : Hp) (D : Addr) (f : Nat → List PyData) (i : Nat) (H : Hp) : Prop where
  same : Same H1 H
  free : H1 D = none
  ins : In S H1
  ex : ∃ ys, H D = some (.lst ys) ∧ ys.length ≤ i ∧ DpAll K (wo (D :: S) H) ys (f i)
section
variable {K : PySem.W.Frag} {S : List Addr} {H1 H H' : Hp} {D : Addr} {f : Nat → List PyData} {i : Nat}
theorem Gro.start (hS : In S H1) (h : H1 D = none) (h0 : f 0 = []) : Gro K S H1 D f 0 (upd H1 D (.lst [])) := ⟨over same_rfl h, h, hS, [], upd_same, Nat.le_refl _, by rw [h0]; exact .nil⟩
theorem Gro.old (a : Gro K S H1 D f i H) : Same (wo S H1) (wo (D :: S) H) := fun b o e => by
  by_cases q : b ∈ S
  · rw [wo_in q] at e; cases e
  · rw [wo_out q] at e
    rw [wo_out]
    · exact a.same b o e
    · intro z
      rcases List.mem_cons.mp z with z | z
      · rw [z, a.free] at e; cases e
      · exact q z
theorem Gro.in (a : Gro K S H1 D f i H) : In (D :: S) H := fun b z => by
  rcases List.mem_cons.mp z with z | z
  · obtain ⟨ys, e, _⟩ := a.ex
    rw [z, e]; exact fun q => nomatch q
  · exact (In.same a.ins a.same) b z
theorem Gro.more {y : V} {d : PyData} (a : Gro K S H1 D f i H) (s : Same H H') (hd : Dp K (wo (D :: S) H') y d) (e : f (i + 1) = f i ++ [d]) (hi : i < 16777216) :
    ∃ acc, H' D = some (.lst acc) ∧ acc.length < sizeLine ∧ Gro K S H1 D f (i + 1) (upd H' D (.lst (acc ++ [y]))) := by
  obtain ⟨ys, e1, hl, hys⟩ := a.ex
  refine ⟨ys, s _ _ e1, by rw [sizeLine_eq]; omega, over (a.same.trans s) a.free, a.free, a.ins, _, upd_same, by simp; omega, ?_⟩
  rw [wo_upd List.mem_cons_self, e]
  exact DpAll.app (da hys (Same.wo s)) (.cons hd .nil)
theorem Gro.skip (a : Gro K S H1 D f i H) (s : Same H H') (e : f (i + 1) = f i) : Gro K S H1 D f (i + 1) H' := by
  obtain ⟨ys, e1, hl, hys⟩ := a.ex
  exact ⟨a.same.trans s, a.free, a.ins, ys, s _ _ e1, by omega, by rw [e]; exact da hys (Same.wo s)⟩
theorem Gro.stop (a : Gro K S H1 D f i H) : Dp K (wo S H) (.ref D) (.list (f i)) := by
  obtain ⟨ys, e1, hl, hys⟩ := a.ex
  refine .lst (SqL.of ?_) (da hys (wo_less fun b z => List.mem_cons_of_mem _ z))
  rw [wo_out (a.ins.out a.free)]
  exact e1
theorem sqt_new {p : Addr} {xs : List V} (h : In S H) (hp : H p = none) : SqT K (wo S (upd H p (.tup xs))) p xs := SqT.of (wo_new h hp)
theorem sql_new {p : Addr} {xs : List V} (h : In S H) (hp : H p = none) : SqL K (wo S (upd H p (.lst xs))) p xs := SqL.of (wo_new h hp)
theorem tup_dp {p : Addr} {xs : List V} {ds : List PyData} (h : In S H) (hp : H p = none) (hx : DpAll K (wo S H) xs ds) : Dp K (wo S (upd H p (.tup xs))) (.ref p) (.tuple ds) := .tup (sqt_new h hp) (da hx (Same.wo (Same.upd hp)))
theorem lst_dp {p : Addr} {xs : List V} {ds : List PyData} (h : In S H) (hp : H p = none) (hx : DpAll K (wo S H) xs ds) : Dp K (wo S (upd H p (.lst xs))) (.ref p) (.list ds) := .lst (sql_new h hp) (da hx (Same.wo (Same.upd hp)))
end
theorem take_full {α : Type} {xs : List α} {n : Nat} (h : xs.length = n) : xs.take n = xs := List.take_of_length_le (by omega)
end K59
set_option maxHeartbeats 4000000
namespace K59
open PySem PySem.Spec PyProof.Rows L2
theorem pi_or {X : Cx} {tg e : Expr} {wi wi2 : TI} (h1 : PI X tg e wi) (h2 : PI X tg e wi2) : PI X tg e (fun σ H R => wi σ H R ∨ wi2 σ H R) :=
  ⟨fun pins s σ H R I h => h.elim (h1.run pins s σ H R I) (h2.run pins s σ H R I)⟩
theorem dc_it {J : It} {n : Nat} {G : Hp → Prop} {Y : Nat → Hp → V → Hp → Prop} (w : Walk J n G Y) {g : TG} {tt : TT} {tk tv : TE} {vs : List Nat} {σ : L2.St} {H1 : Hp} {D : Addr} {Qd : Hp → Prop} (Pv : Nat → Hp → Prop) (h0 : Pv 0 (upd H1 D (.dK []))) (hG : ∀ i H, i ≤ n → Pv i H → G H)
    (hs : ∀ i x H H', i < n → Pv i H → Y i H x H' → g x (wipe σ vs) H' fun σ2 H2 => wipe σ2 vs = wipe σ vs ∧ tt σ2 H2 fun b H3 =>
      if b = true then tk σ2 H3 fun y H4 => tv σ2 H4 fun z H5 => ∃ kvs k, y = kV k ∧ H5 D = some (.dK kvs) ∧ kvs.length < sizeLine ∧ Pv (i + 1) (upd H5 D (.dK (putK kvs k z))) else Pv (i + 1) H3) (hd : ∀ H, Pv n H → Qd H) :
    ∃ W : Nat → Nat → Hp → Prop, (∃ m, W 0 m (upd H1 D (.dK []))) ∧ ∀ i m H, W i m H →
      (J.stop i H ∧ Qd H) ∨ (J.go i H ∧ ∃ Nx : Hp → Prop, (∀ H', Nx H' → ∃ m', m' < m ∧ W (i + 1) m' H') ∧ ∀ x H', J.yld i H x H' → g x (wipe σ vs) H' fun σ2 H2 => wipe σ2 vs = wipe σ vs ∧ tt σ2 H2 fun b H3 =>
        if b = true then tk σ2 H3 fun y H4 => tv σ2 H4 fun z H5 => ∃ kvs k, y = kV k ∧ H5 D = some (.dK kvs) ∧ kvs.length < sizeLine ∧ Nx (upd H5 D (.dK (putK kvs k z))) else Nx H3) := by
  refine ⟨fun i m H => m = n - i ∧ i ≤ n ∧ Pv i H, ⟨n, by simp, Nat.zero_le _, h0⟩, ?_⟩
  rintro i m H ⟨rfl, hi, p⟩
  have q := hG i H hi p
  by_cases hlt : i < n
  · exact .inr ⟨w.goes i H hlt q, Pv (i + 1), fun H' p' => ⟨n - (i + 1), by omega, rfl, hlt, p'⟩, fun x H' y => hs i x H H' hlt p (w.yields i H x H' hlt q y)⟩
  · have e : i = n := by omega
    subst e
    exact .inl ⟨w.stops H q, hd H p⟩
/-! ### maps -/
theorem val_kvI (ps : List (Int × Int)) (t : Int) : valV (ps.map kvI) (Sum.inl t) = (atA ps t).map V.int := by
  induction ps with
  | nil => rfl
  | cons p r ih =>
    by_cases h : p.1 = t
    · rw [List.map_cons, valV_pos (by show Sum.inl p.1 = _; rw [h])]
      unfold atA
      rw [List.find?_cons, decide_eq_true h]
      rfl
    · rw [List.map_cons, valV_neg (by show ¬ Sum.inl p.1 = _; intro z; exact h (Sum.inl.inj z)), ih]
      unfold atA
      rw [List.find?_cons, decide_eq_false h]
theorem any_kvI (ps : List (Int × Int)) (t : Int) : ((ps.map kvI).any fun kv => decide (kv.1 = Sum.inl t)) = ps.any fun p => decide (p.1 = t) := by
  rw [List.any_map]
  congr 1
  funext p
  show decide (Sum.inl p.1 = Sum.inl t) = decide (p.1 = t)
  rw [Bool.eq_iff_iff]; simp
theorem put_kvI (ps : List (Int × Int)) (t p : Int) : putK (ps.map kvI) (Sum.inl t) (.int p) = (putA ps t p).map kvI := by
  unfold putK putA
  rw [any_kvI]
  by_cases h : (ps.any fun p => decide (p.1 = t)) = true
  · rw [if_pos h, if_pos h, List.map_map, List.map_map]
    refine List.map_congr_left fun q hq => ?_
    by_cases e : q.1 = t
    · have e2 : (kvI q).1 = Sum.inl t := congrArg Sum.inl e
      simp only [Function.comp, if_pos e, if_pos e2]
      rfl
    · have e2 : ¬ (kvI q).1 = Sum.inl t := fun z => e (Sum.inl.inj z)
      simp only [Function.comp, if_neg e, if_neg e2]
  · rw [if_neg h, if_neg h, List.map_append]; rfl
theorem putA_new {κ α : Type} [DecidableEq κ] {l : List (κ × α)} {k : κ} {v : α} (h : k ∉ l.map (·.1)) : putA l k v = l ++ [(k, v)] := by
  unfold putA
  rw [if_neg]
  intro z
  rw [List.any_eq_true] at z
  obtain ⟨p, hp, e⟩ := z
  exact h (List.mem_map.mpr ⟨p, hp, of_decide_eq_true e⟩)
theorem atA_none {κ α : Type} [DecidableEq κ] {l : List (κ × α)} {k : κ} : atA l k = none ↔ k ∉ l.map (·.1) := by
  unfold atA
  rw [Option.map_eq_none_iff, List.find?_eq_none]
  constructor
  · intro h z
    obtain ⟨p, hp, e⟩ := List.mem_map.mp z
    exact h p hp (decide_eq_true e)
  · intro h p hp e
    exact h (List.mem_map.mpr ⟨p, hp, of_decide_eq_true e⟩)
structure PsOk (b : Int) (ps : List (Int × Int)) : Prop where
  beat : 1 ≤ b ∧ b ≤ 960
  keys : (ps.map (·.1)).Nodup
  pace : ∀ p ∈ ps, (0 ≤ p.1 ∧ p.1 ≤ 999999) ∧ 1 ≤ p.2 ∧ p.2 ≤ 16777215
  few : ps.length ≤ 20
theorem PsOk.perm {b : Int} {ps qs : List (Int × Int)} (h : PsOk b ps) (p : qs.Perm ps) : PsOk b qs := ⟨h.beat, (p.map (·.1)).nodup_iff.mpr h.keys, fun x hx => h.pace x (p.mem_iff.mp hx), by rw [p.length_eq]; exact h.few⟩
theorem TpOk.ps {t : Tp} (h : TpOk t) : PsOk t.beat t.paces := ⟨h.beat, h.keys, h.pace, h.fewP⟩
abbrev srtd (ys : List (Int × Int)) : Prop := ys.Pairwise fun e f => SrtO.lexB f e = false
structure MapIs (K : PySem.W.Frag) (G : Hp) (x d : Addr) (b : Int) (ps : List (Int × Int)) : Prop where
  me : ∃ dx, G x = some (.ins (cA K "Map") dx [("ticks", .int b), ("known", .ref d)])
  kn : G d = some (.dK (ps.map kvI))
theorem MapIs.to {K : PySem.W.Frag} {G G' : Hp} {x d : Addr} {b : Int} {ps : List (Int × Int)} (m : MapIs K G x d b ps) (s : Same G G') : MapIs K G' x d b ps := by
  obtain ⟨dx, e⟩ := m.me
  exact ⟨⟨dx, s _ _ e⟩, s _ _ m.kn⟩
structure TapeIs (K : PySem.W.Frag) (G : Hp) (v : V) (t : Tp) : Prop where
  ex : ∃ a dx m d r ps, v = .ref a ∧ G a = some (.ins (cA K "Tape") dx [("own", .ref m), ("rows", r)]) ∧ MapIs K G m d t.beat ps ∧ ps.Perm t.paces ∧ Dp K G r (tksP t.tracks)
theorem TapeIs.to {K : PySem.W.Frag} {G G' : Hp} {v : V} {t : Tp} (m : TapeIs K G v t) (s : Same G G') : TapeIs K G' v t := by
  obtain ⟨a, dx, m', d, r, ps, h1, h2, h3, h4, h5⟩ := m.ex
  exact ⟨a, dx, m', d, r, ps, h1, s _ _ h2, h3.to s, h4, dp h5 s⟩
/-- a list of pairs, or the empty tuple -/
def PcsIn (K : PySem.W.Frag) (G : Hp) (v : V) (ps : List (Int × Int)) : Prop := Dp K G v (.list (ps.map prP)) ∨ (∃ a, v = .ref a ∧ SqT K G a []) ∧ ps = []
theorem pr_at {K : PySem.W.Frag} {H : Hp} {xs : List V} {ps : List (Int × Int)} {i : Nat} {x : V} (h : DpAll K H xs (ps.map prP)) (hx : xs[i]? = some x) : ∃ a p, x = .ref a ∧ ps[i]? = some p ∧ SqT K H a [.int p.1, .int p.2] := by
  obtain ⟨d, h1, h2⟩ := DpAll.at h hx
  rw [List.getElem?_map] at h1
  cases e : ps[i]? with
  | none => rw [e] at h1; cases h1
  | some p =>
    rw [e] at h1
    cases h1
    obtain ⟨a, zs, rfl, h3, h4⟩ := Dp.tupI h2
    rw [DpAll.flat rfl h4] at h3
    exact ⟨a, p, rfl, rfl, h3⟩
end K59
namespace K59
open PySem PySem.Spec PyProof.Rows L2
section
variable {K : PySem.W.Frag} {H : Hp}
def SqV (K : PySem.W.Frag) (H : Hp) (v : V) (xs : List V) : Prop := ∃ a, v = .ref a ∧ (SqL K H a xs ∨ SqT K H a xs)
theorem SqV.to {H' : Hp} {v : V} {xs : List V} (h : SqV K H v xs) (s : Same H H') : SqV K H' v xs := by
  obtain ⟨a, e, h⟩ := h
  exact ⟨a, e, h.imp (same_l s) (same_t s)⟩
/-- a walk over a list or a tuple -/
theorem seq_it {v : V} {xs : List V} (h : SqV K H v xs) : ∃ J, Walk J xs.length (Same H) (YAt xs) ∧ ∀ (i : Nat) (σ : L2.St) (H' : Hp) (R : It → Hp → Prop), Same H H' → σ[i]? = some (some v) → R J H' →
    (iList K (tVar i) σ H' R ∨ iTup K (tVar i) σ H' R) := by
  obtain ⟨a, rfl, h | h⟩ := h
  · exact ⟨Itl K a, walk_list.mono (fun H' s => same_l s h) (fun _ _ _ _ _ _ y => y), fun i σ H' R s e r => .inl ⟨_, e, a, rfl, ⟨xs, same_l s h⟩, r⟩⟩
  · exact ⟨Itt K a, walk_tup.mono (fun H' s => same_t s h) (fun _ _ _ _ _ _ y => y), fun i σ H' R s e r => .inr ⟨_, e, a, rfl, ⟨xs, same_t s h⟩, r⟩⟩
theorem PcsIn.seq {v : V} {ps : List (Int × Int)} (h : PcsIn K H v ps) : ∃ xs, SqV K H v xs ∧ xs.length = ps.length ∧ ∀ (i : Nat) x, xs[i]? = some x → ∃ a p, x = .ref a ∧ ps[i]? = some p ∧ SqT K H a [.int p.1, .int p.2] := by
  rcases h with h | ⟨⟨a, rfl, h⟩, rfl⟩
  · obtain ⟨a, xs, rfl, h1, h2⟩ := Dp.lstI h
    exact ⟨xs, ⟨a, rfl, .inl h1⟩, by rw [DpAll.len h2, List.length_map], fun i x hx => pr_at h2 hx⟩
  · exact ⟨[], ⟨a, rfl, .inr h⟩, rfl, fun i x hx => by simp at hx⟩
theorem PcsIn.to {H' : Hp} {v : V} {ps : List (Int × Int)} (h : PcsIn K H v ps) (s : Same H H') : PcsIn K H' v ps := by
  rcases h with h | ⟨⟨a, rfl, h⟩, rfl⟩
  · exact .inl (dp h s)
  · exact .inr ⟨⟨a, rfl, same_t s h⟩, rfl⟩
/-- a track, or the empty tuple -/
def TrIn (K : PySem.W.Frag) (G : Hp) (v : V) (t : Tr) : Prop := Dp K G v (trP t) ∨ (∃ a, v = .ref a ∧ SqT K G a []) ∧ t = []
theorem TrIn.to {H' : Hp} {v : V} {t : Tr} (h : TrIn K H v t) (s : Same H H') : TrIn K H' v t := by
  rcases h with h | ⟨⟨a, rfl, h⟩, rfl⟩
  · exact .inl (dp h s)
  · exact .inr ⟨⟨a, rfl, same_t s h⟩, rfl⟩
theorem TrIn.seq {v : V} {t : Tr} (h : TrIn K H v t) : ∃ a ys, v = .ref a ∧ (SqL K H a ys ∨ SqT K H a ys) ∧ DpAll K H ys (t.map evP) := by
  rcases h with h | ⟨⟨a, rfl, h⟩, rfl⟩
  · obtain ⟨a, ys, rfl, h1, h2⟩ := Dp.lstI h
    exact ⟨a, ys, rfl, .inl h1, h2⟩
  · exact ⟨a, [], rfl, .inr h, .nil⟩
/-- a list of tracks, or the tuple of the empty tuple -/
def TksIn (K : PySem.W.Frag) (G : Hp) (v : V) (ts : List Tr) : Prop := Dp K G v (tksP ts) ∨ (∃ a b, v = .ref a ∧ SqT K G a [.ref b] ∧ SqT K G b []) ∧ ts = [[]]
theorem tk_at {xs : List V} {ts : List Tr} {i : Nat} {x : V} (h : DpAll K H xs (ts.map trP)) (hx : xs[i]? = some x) : ∃ t, ts[i]? = some t ∧ Dp K H x (trP t) := by
  obtain ⟨d, h1, h2⟩ := DpAll.at h hx
  rw [List.getElem?_map] at h1
  cases e : ts[i]? with
  | none => rw [e] at h1; cases h1
  | some t => rw [e] at h1; cases h1; exact ⟨t, rfl, h2⟩
theorem TksIn.seq {v : V} {ts : List Tr} (h : TksIn K H v ts) : ∃ xs, SqV K H v xs ∧ xs.length = ts.length ∧ ∀ (i : Nat) x, xs[i]? = some x → ∃ t, ts[i]? = some t ∧ TrIn K H x t := by
  rcases h with h | ⟨⟨a, b, rfl, h1, h2⟩, rfl⟩
  · obtain ⟨a, xs, rfl, h1, h2⟩ := Dp.lstI h
    exact ⟨xs, ⟨a, rfl, .inl h1⟩, by rw [DpAll.len h2, List.length_map], fun i x hx => by
      obtain ⟨t, e1, e2⟩ := tk_at h2 hx
      exact ⟨t, e1, .inl e2⟩⟩
  · refine ⟨[.ref b], ⟨a, rfl, .inr h1⟩, rfl, fun i x hx => ?_⟩
    cases i with
    | zero => simp at hx; subst hx; exact ⟨[], rfl, .inr ⟨⟨b, rfl, h2⟩, rfl⟩⟩
    | succ i => simp at hx
end
theorem Kp.upd {x : Addr} {H : Hp} {o : HO} {S : List Addr} (h : x ∈ S) : Kp S H (L2.upd H x o) := ⟨fun a o' q e => by rw [upd_ne (fun z => q (by rw [z]; exact h))]; exact e, fun a q => by
  by_cases z : a = x
  · rw [z, upd_same]; exact fun y => nomatch y
  · rw [upd_ne z]; exact q⟩
theorem wo_plus {S : List Addr} {H0 H' : Hp} {x : Addr} (s : Same H0 H') (n : H0 x = none) : Same (wo S H0) (wo (x :: S) H') := fun a o e => by
  by_cases q : a ∈ S
  · rw [wo_in q] at e; cases e
  · rw [wo_out q] at e
    rw [wo_out]
    · exact s a o e
    · intro z
      rcases List.mem_cons.mp z with z | z
      · rw [z, n] at e; cases e
      · exact q z
theorem In.plus {S : List Addr} {H : Hp} {x : Addr} (h : In S H) (n : H x ≠ none) : In (x :: S) H := fun a z => by
  rcases List.mem_cons.mp z with z | z
  · rw [z]; exact n
  · exact h a z
end K59
set_option maxHeartbeats 4000000
/-! ### the plain law: what deeds keep -/
namespace K59
open PySem L2
section
variable {κ α : Type} [DecidableEq κ]
theorem any_iff {l : List (κ × α)} {k : κ} : (l.any fun p => decide (p.1 = k)) = true ↔ k ∈ l.map (·.1) := by
  rw [List.any_eq_true, List.mem_map]
  constructor
  · rintro ⟨p, h, e⟩; exact ⟨p, h, of_decide_eq_true e⟩
  · rintro ⟨p, h, e⟩; exact ⟨p, h, decide_eq_true e⟩
theorem putA_in {l : List (κ × α)} {k : κ} {v : α} (h : k ∈ l.map (·.1)) : putA l k v = l.map fun p => if p.1 = k then (p.1, v) else p := by
  unfold putA; rw [if_pos (any_iff.mpr h)]
theorem putA_keys {l : List (κ × α)} {k : κ} {v : α} : (putA l k v).map (·.1) = if k ∈ l.map (·.1) then l.map (·.1) else l.map (·.1) ++ [k] := by
  by_cases h : k ∈ l.map (·.1)
  · rw [putA_in h, if_pos h, List.map_map]
    refine List.map_congr_left fun p _ => ?_
    show (if p.1 = k then (p.1, v) else p).1 = p.1
    by_cases e : p.1 = k
    · rw [if_pos e]
    · rw [if_neg e]
  · rw [putA_new h, if_neg h, List.map_append]; rfl
theorem putA_len {l : List (κ × α)} {k : κ} {v : α} : (putA l k v).length = if k ∈ l.map (·.1) then l.length else l.length + 1 := by
  have e := congrArg List.length (putA_keys (l := l) (k := k) (v := v))
  rw [List.length_map] at e
  rw [e]
  by_cases h : k ∈ l.map (·.1)
  · rw [if_pos h, if_pos h, List.length_map]
  · rw [if_neg h, if_neg h]; simp
theorem putA_mem {l : List (κ × α)} {k : κ} {v : α} {p : κ × α} (h : p ∈ putA l k v) : p ∈ l ∨ p = (k, v) := by
  by_cases c : k ∈ l.map (·.1)
  · rw [putA_in c] at h
    obtain ⟨q, hq, e⟩ := List.mem_map.mp h
    by_cases z : q.1 = k
    · rw [if_pos z] at e; right; rw [← e, z]
    · rw [if_neg z] at e; left; rw [← e]; exact hq
  · rw [putA_new c] at h
    rcases List.mem_append.mp h with h | h
    · exact .inl h
    · exact .inr (List.mem_singleton.mp h)
theorem putA_nodup {l : List (κ × α)} {k : κ} {v : α} (h : (l.map (·.1)).Nodup) : ((putA l k v).map (·.1)).Nodup := by
  rw [putA_keys]
  by_cases c : k ∈ l.map (·.1)
  · rw [if_pos c]; exact h
  · rw [if_neg c]
    rw [List.nodup_append]
    exact ⟨h, by simp, fun a ha b hb e => c (by rw [List.mem_singleton.mp hb] at e; rw [← e]; exact ha)⟩
theorem putA_perm {l m : List (κ × α)} {k : κ} {v : α} (h : l.Perm m) : (putA l k v).Perm (putA m k v) := by
  by_cases c : k ∈ l.map (·.1)
  · rw [putA_in c, putA_in ((h.map (·.1)).mem_iff.mp c)]
    exact h.map _
  · rw [putA_new c, putA_new (fun z => c ((h.map (·.1)).mem_iff.mpr z))]
    exact h.append_right _
end
theorem getD_mem {t : Tp} {k : Int} (h : 0 ≤ k ∧ k < t.tracks.length) : t.tracks.getD k.toNat [] ∈ t.tracks := by
  have hl : k.toNat < t.tracks.length := by omega
  rw [List.getD_eq_getElem?_getD, List.getElem?_eq_getElem hl]
  exact List.getElem_mem hl
theorem TpOk.set' {t : Tp} (ok : TpOk t) {r : Tr} (hr : TrOk r) (k : Nat) : TpOk { t with tracks := t.tracks.set k r } :=
  ⟨ok.beat, ok.keys, ok.pace, ok.fewP, by simpa using ok.some1, by simpa using ok.few, fun x hx => (List.mem_or_eq_of_mem_set hx).elim (ok.trs x) fun e => e ▸ hr⟩
theorem TpOk.app {t : Tp} (ok : TpOk t) {r : Tr} (hr : TrOk r) (h : t.tracks.length ≤ 5) : TpOk { t with tracks := t.tracks ++ [r] } :=
  ⟨ok.beat, ok.keys, ok.pace, ok.fewP, by simp, by simp; omega, fun x hx => (List.mem_append.mp hx).elim (ok.trs x) fun e => List.mem_singleton.mp e ▸ hr⟩
theorem PsOk.put {b : Int} {ps : List (Int × Int)} (h : PsOk b ps) {x p : Int} (hx : 0 ≤ x ∧ x ≤ 999999) (hp : 1 ≤ p ∧ p ≤ 16777215) (hf : x ∈ ps.map (·.1) ∨ ps.length ≤ 19) : PsOk b (putA ps x p) := by
  refine ⟨h.beat, putA_nodup h.keys, fun q hq => ?_, ?_⟩
  · rcases putA_mem hq with z | rfl
    · exact h.pace q z
    · exact ⟨hx, hp⟩
  · rw [putA_len]
    have := h.few
    by_cases c : x ∈ ps.map (·.1)
    · rw [if_pos c]; exact h.few
    · rw [if_neg c]
      rcases hf with z | z
      · exact absurd z c
      · omega
theorem onTp_ok {t : Tp} {d : Deed} (ok : TpOk t) (g : GoodT t d) : TpOk (onTp t d) := by
  cases d with
  | new n b => exact ok
  | drop n => exact ok
  | add n => exact ok.app TrOk.nil g
  | put n k e => exact ok.set' (putIn_ok (ok.trs _ (getD_mem g.1)) g.2.1 g.2.2) _
  | take n k p => exact ok.set' ((ok.trs _ (getD_mem g.1)).sub (takeAt_sub _ _)) _
  | pace n x p =>
    have h := ok.ps.put g.1 g.2.1 g.2.2
    exact ⟨ok.beat, h.keys, h.pace, h.few, ok.some1, ok.few, ok.trs⟩
  | later n k b => exact ok.set' (laterT_ok (ok.trs _ (getD_mem g.1)) g.2) _
  | part n k c =>
    have h1 := ok.set' ((ok.trs _ (getD_mem g.1)).sub (List.filter_sublist (p := fun e => !isOf c e))) k.toNat
    exact h1.app ((ok.trs _ (getD_mem g.1)).sub (List.filter_sublist (p := isOf c))) (by simpa using g.2.2)
theorem atA_in {κ α : Type} [DecidableEq κ] {l : List (κ × α)} {k : κ} {v : α} (h : atA l k = some v) : (k, v) ∈ l := by
  unfold atA at h
  obtain ⟨p, hp, e⟩ := Option.map_eq_some_iff.mp h
  have h1 := List.find?_some hp
  have h2 := List.mem_of_find?_eq_some hp
  have h3 : p.1 = k := of_decide_eq_true h1
  rw [← h3, ← e]; exact h2
theorem uniq_key {κ α : Type} {l : List (κ × α)} (h : (l.map (·.1)).Nodup) {p q : κ × α} (hp : p ∈ l) (hq : q ∈ l) (e : p.1 = q.1) : p = q := by
  induction l with
  | nil => simp at hp
  | cons a l ih =>
    rw [List.map_cons, List.nodup_cons] at h
    rcases List.mem_cons.mp hp with e1 | hp1
    · rcases List.mem_cons.mp hq with e2 | hq1
      · rw [e1, e2]
      · exact absurd (List.mem_map.mpr ⟨q, hq1, by rw [← e, e1]⟩) h.1
    · rcases List.mem_cons.mp hq with e2 | hq1
      · exact absurd (List.mem_map.mpr ⟨p, hp1, by rw [e, e2]⟩) h.1
      · exact ih h.2 hp1 hq1
theorem map_fst_keep {b : Bk} {n : Str} {f : Tp → Tp} : ((b.map fun p => if p.1 = n then (p.1, f p.2) else p).map (·.1)) = b.map (·.1) := by
  rw [List.map_map]
  refine List.map_congr_left fun p _ => ?_
  show (if p.1 = n then (p.1, f p.2) else p).1 = p.1
  by_cases e : p.1 = n
  · rw [if_pos e]
  · rw [if_neg e]
theorem on_ok {b : Bk} {d : Deed} {t : Tp} (ok : BkOk b) (ht : atA b d.name = some t) (g : GoodT t d) : BkOk (b.map fun p => if p.1 = d.name then (p.1, onTp p.2 d) else p) := by
  refine ⟨by have e : ((b.map fun p => if p.1 = d.name then (p.1, onTp p.2 d) else p).map (·.1)) = b.map (·.1) := map_fst_keep (f := fun t => onTp t d); rw [e]; exact ok.keys, fun p hp => ?_, fun p hp => ?_, by rw [List.length_map]; exact ok.few⟩
  · obtain ⟨q, hq, rfl⟩ := List.mem_map.mp hp
    by_cases e : q.1 = d.name
    · rw [if_pos e]; exact ok.nm q hq
    · rw [if_neg e]; exact ok.nm q hq
  · obtain ⟨q, hq, rfl⟩ := List.mem_map.mp hp
    by_cases e : q.1 = d.name
    · rw [if_pos e]
      have z := uniq_key ok.keys hq (atA_in ht) e
      show TpOk (onTp q.2 d)
      rw [z]
      exact onTp_ok (ok.tp _ (atA_in ht)) g
    · rw [if_neg e]; exact ok.tp q hq
theorem TpOk.new {x : Int} (h : 1 ≤ x ∧ x ≤ 960) : TpOk ⟨x, [], [[]]⟩ := ⟨h, by simp, by intro p hp; simp at hp, by simp, by simp, by simp, fun r hr => by rw [List.mem_singleton.mp hr]; exact TrOk.nil⟩
theorem done_ok {b : Bk} {d : Deed} (ok : BkOk b) (g : Good b d) : BkOk (done b d) := by
  cases d with
  | new n x =>
    obtain ⟨h1, h2, h3, h4⟩ := g
    refine ⟨?_, fun p hp => ?_, fun p hp => ?_, by show (b ++ _).length ≤ 6; simp; omega⟩
    · show ((b ++ [(n, (⟨x, [], [[]]⟩ : Tp))]).map (·.1)).Nodup
      rw [List.map_append, List.nodup_append]
      exact ⟨ok.keys, by simp, fun a ha c hc e => h2 (by simp at hc; rw [← hc, ← e]; exact ha)⟩
    · rcases List.mem_append.mp hp with hp | hp
      · exact ok.nm p hp
      · rw [List.mem_singleton.mp hp]; exact h1
    · rcases List.mem_append.mp hp with hp | hp
      · exact ok.tp p hp
      · rw [List.mem_singleton.mp hp]; exact TpOk.new h3
  | drop n =>
    refine ⟨ok.keys.sublist ((List.filter_sublist).map _), fun p hp => ok.nm p (List.mem_filter.mp hp).1, fun p hp => ok.tp p (List.mem_filter.mp hp).1, Nat.le_trans (List.length_filter_le _ _) ok.few⟩
  | add n => obtain ⟨t, h1, h2⟩ := g; exact on_ok ok h1 h2
  | put n k e => obtain ⟨t, h1, h2⟩ := g; exact on_ok ok h1 h2
  | take n k p => obtain ⟨t, h1, h2⟩ := g; exact on_ok ok h1 h2
  | pace n x p => obtain ⟨t, h1, h2⟩ := g; exact on_ok ok h1 h2
  | later n k b' => obtain ⟨t, h1, h2⟩ := g; exact on_ok ok h1 h2
  | part n k c => obtain ⟨t, h1, h2⟩ := g; exact on_ok ok h1 h2
end K59
set_option maxHeartbeats 4000000
namespace K59
open PySem PySem.Spec PyProof.Rows L2
/-! ### two lists of other lengths -/
section
variable {X : Cx}
def rEqLen (K : PySem.W.Frag) : R2 := fun x y H Q => ∃ l b xs ys, x = .ref l ∧ y = .ref b ∧ SqL K H l xs ∧ SqL K H b ys ∧ xs.length ≠ ys.length ∧ Q (.bl false) H
theorem op_eqLen (hu : X.A.units + 64 < cLine) : OpR X (compareOp .Eq) (rEqLen X.K) := by
  intro pins s σ H x y v u Q I rx ry h
  obtain ⟨l, b, xs, ys, rfl, rfl, hl, hb, hn, q⟩ := h
  obtain rfl : v = Value.ref l := rx
  obtain rfl : u = Value.ref b := ry
  obtain ⟨its, r1, p1, _⟩ := I.list hl
  obtain ⟨its2, r2, p2, _⟩ := I.list hb
  refine PySem.SeqAt.eq_list_lengthsAt p1.isList p2.isList ?_ (by omega) ⟨.bl false, H, I, rfl, q⟩
  rw [bne_iff_ne, List.size_toArray, List.size_toArray, ← r1.length, ← r2.length]
  exact hn
end
/-! ### sorted texts -/
theorem ltCps_irr : ∀ l : List Nat, ltCps l l = false := by
  intro l
  induction l with
  | nil => rfl
  | cons a l ih => simp [ltCps, ih]
end K59
namespace K59
open PySem PySem.Spec PyProof.Rows L2
theorem perm_uniq {α : Type} {r : α → α → Prop} (anti : ∀ a b, r a b → r b a → a = b) : ∀ {l m : List α}, l.Perm m → l.Pairwise r → m.Pairwise r → l = m
  | [], m, h, _, _ => by
    have := h.length_eq
    cases m with
    | nil => rfl
    | cons a m => simp at this
  | x :: l, [], h, _, _ => by have := h.length_eq; simp at this
  | x :: l, y :: m, h, h1, h2 => by
    rw [List.pairwise_cons] at h1 h2
    have e : x = y := by
      rcases List.mem_cons.mp (h.mem_iff.mp List.mem_cons_self : x ∈ y :: m) with e | hx
      · exact e
      · rcases List.mem_cons.mp (h.mem_iff.mpr List.mem_cons_self : y ∈ x :: l) with e | hy
        · exact e.symm
        · exact anti x y (h1.1 y hy) (h2.1 x hx)
    subst e
    rw [perm_uniq anti h.cons_inv h1.2 h2.2]
theorem lt_anti : ∀ a b : List Nat, ltCps a b = false → ltCps b a = false → a = b
  | [], [], _, _ => rfl
  | [], _ :: _, h, _ => by simp [ltCps] at h
  | _ :: _, [], _, h => by simp [ltCps] at h
  | a :: r, b :: t, h1, h2 => by
    simp only [ltCps, Bool.or_eq_false_iff, decide_eq_false_iff_not, Bool.and_eq_false_iff, beq_eq_false_iff_ne] at h1 h2
    have e : a = b := by omega
    subst e
    rw [lt_anti r t (h1.2.elim (fun z => absurd rfl z) id) (h2.2.elim (fun z => absurd rfl z) id)]
theorem le_trans' : ∀ a b c : List Nat, ltCps b a = false → ltCps c b = false → ltCps c a = false
  | [], _, [], _, _ => rfl
  | [], _, _ :: _, _, _ => rfl
  | _ :: _, [], _, h, _ => by simp [ltCps] at h
  | _ :: _, _ :: _, [], _, h => by simp [ltCps] at h
  | a :: r, b :: t, c :: u, h1, h2 => by
    simp only [ltCps, Bool.or_eq_false_iff, decide_eq_false_iff_not, Bool.and_eq_false_iff, beq_eq_false_iff_ne] at h1 h2 ⊢
    refine ⟨by omega, ?_⟩
    by_cases e : c = a
    · subst e
      have e2 : b = c := by omega
      subst e2
      exact .inr (le_trans' r t u (h1.2.elim (fun z => absurd rfl z) id) (h2.2.elim (fun z => absurd rfl z) id))
    · exact .inl e
abbrev leS (a b : Str) : Prop := ltCps b.cps.toList a.cps.toList = false
theorem rising_pw : ∀ (p : Str) (l : List Str), risingS p l = true → (p :: l).Pairwise leS
  | p, [], _ => List.pairwise_singleton _ _
  | p, x :: r, h => by
    simp only [risingS, Bool.and_eq_true, Bool.not_eq_true'] at h
    have ih := rising_pw x r h.2
    rw [List.pairwise_cons] at ih ⊢
    refine ⟨fun y hy => ?_, List.pairwise_cons.mpr ih⟩
    rcases List.mem_cons.mp hy with rfl | hy
    · exact h.1
    · exact le_trans' _ _ _ h.1 (ih.1 y hy)
theorem sortedS_pw {l : List Str} (h : sortedS l = true) : l.Pairwise leS := by
  cases l with
  | nil => exact .nil
  | cons p l => exact rising_pw p l h
theorem leS_anti (a b : Str) (h1 : leS a b) (h2 : leS b a) : a = b := by
  have e := lt_anti _ _ h2 h1
  obtain ⟨⟨x⟩⟩ := a
  obtain ⟨⟨y⟩⟩ := b
  simp at e
  rw [e]
/-- sorted texts are one -/
theorem sortS_uniq {l m : List Str} (p : l.Perm m) (h1 : sortedS l = true) (h2 : sortedS m = true) : l = m := perm_uniq leS_anti p (sortedS_pw h1) (sortedS_pw h2)
theorem srtd_uniq {l m : List (Int × Int)} (p : l.Perm m) (h1 : srtd l) (h2 : srtd m) : l = m := by
  refine perm_uniq (fun a b h1 h2 => ?_) p h1 h2
  have x := SrtO.lexB_no.mp h1
  have y := SrtO.lexB_no.mp h2
  obtain ⟨a1, a2⟩ := a
  obtain ⟨b1, b2⟩ := b
  simp only at x y
  have e1 : a1 = b1 := by omega
  have e2 : a2 = b2 := by omega
  rw [e1, e2]
/-! ### a list that grows, no turns -/
structure Gw (K : PySem.W.Frag) (S : List Addr) (H1 : Hp) (D : Addr) (L : List PyData) (H : Hp) : Prop where
  same : Same H1 H
  free : H1 D = none
  ins : In S H1
  ex : ∃ ys, H D = some (.lst ys) ∧ DpAll K (wo (D :: S) H) ys L
section
variable {K : PySem.W.Frag} {S : List Addr} {H1 H H' : Hp} {D : Addr} {L : List PyData}
theorem Gw.start (hS : In S H1) (h : H1 D = none) : Gw K S H1 D [] (L2.upd H1 D (.lst [])) := ⟨over same_rfl h, h, hS, [], upd_same, .nil⟩
theorem Gw.old (a : Gw K S H1 D L H) : Same (wo S H1) (wo (D :: S) H) := wo_plus a.same a.free
theorem Gw.in (a : Gw K S H1 D L H) : In (D :: S) H := (In.same a.ins a.same).plus (by obtain ⟨ys, e, _⟩ := a.ex; rw [e]; exact fun q => nomatch q)
theorem Gw.go (a : Gw K S H1 D L H) (s : Same H H') : Gw K S H1 D L H' := by
  obtain ⟨ys, e1, hys⟩ := a.ex
  exact ⟨a.same.trans s, a.free, a.ins, ys, s _ _ e1, da hys (Same.wo s)⟩
theorem Gw.more {y : V} {d : PyData} (a : Gw K S H1 D L H) (hd : Dp K (wo (D :: S) H) y d) (hi : L.length < 16777216) :
    ∃ acc, H D = some (.lst acc) ∧ acc.length < sizeLine ∧ Gw K S H1 D (L ++ [d]) (L2.upd H D (.lst (acc ++ [y]))) := by
  obtain ⟨ys, e1, hys⟩ := a.ex
  refine ⟨ys, e1, by rw [sizeLine_eq, DpAll.len hys]; omega, over a.same a.free, a.free, a.ins, _, upd_same, ?_⟩
  rw [wo_upd List.mem_cons_self]
  exact DpAll.app hys (.cons hd .nil)
theorem Gw.stop (a : Gw K S H1 D L H) : Dp K (wo S H) (.ref D) (.list L) := by
  obtain ⟨ys, e1, hys⟩ := a.ex
  refine .lst (SqL.of ?_) (da hys (wo_less fun b z => List.mem_cons_of_mem _ z))
  rw [wo_out (a.ins.out a.free)]
  exact e1
end
/-! ### shaped data -/
theorem canAll {l : List PyData} (h : ∀ d ∈ l, d.canLay0 = true) : PyData.canLayAll0 l = true := by
  induction l with
  | nil => rfl
  | cons a l ih => simp only [PyData.canLayAll0, Bool.and_eq_true]; exact ⟨h a List.mem_cons_self, ih fun d hd => h d (List.mem_cons_of_mem _ hd)⟩
theorem depAll {l : List PyData} {n : Nat} (h : ∀ d ∈ l, d.depth ≤ n) : PyData.depthAll l ≤ n := by
  induction l with
  | nil => exact Nat.zero_le _
  | cons a l ih => simp only [PyData.depthAll]; exact Nat.max_le.mpr ⟨h a List.mem_cons_self, ih fun d hd => h d (List.mem_cons_of_mem _ hd)⟩
/-- may be compared: n levels at most -/
def Shp (n : Nat) (d : PyData) : Prop := d.canLay0 = true ∧ d.depth ≤ n
theorem Shp.int (i : Int) {n : Nat} : Shp n (.int i) := ⟨rfl, Nat.zero_le _⟩
theorem Shp.lst {n : Nat} {l : List PyData} (h : ∀ d ∈ l, Shp n d) : Shp (n + 1) (.list l) := ⟨by show PyData.canLayAll0 l = true; exact canAll fun d hd => (h d hd).1, by show PyData.depthAll l + 1 ≤ n + 1; exact Nat.succ_le_succ (depAll fun d hd => (h d hd).2)⟩
theorem Shp.tup {n : Nat} {l : List PyData} (h : ∀ d ∈ l, Shp n d) : Shp (n + 1) (.tuple l) := ⟨by show PyData.canLayAll0 l = true; exact canAll fun d hd => (h d hd).1, by show PyData.depthAll l + 1 ≤ n + 1; exact Nat.succ_le_succ (depAll fun d hd => (h d hd).2)⟩
theorem Shp.ok {n : Nat} {d : PyData} (h : Shp n d) (hn : n ≤ 64) : SeqAt.shaped d = true := by
  unfold SeqAt.shaped
  rw [h.1, decT (Nat.le_trans h.2 hn)]; rfl
theorem Shp.mono {n m : Nat} {d : PyData} (h : Shp n d) (hn : n ≤ m) : Shp m d := ⟨h.1, Nat.le_trans h.2 hn⟩
end K59
set_option maxHeartbeats 4000000
namespace K59
open PySem PySem.Spec PyProof.Rows L2
def rRepS' : R2 := fun x y H Q => ∃ z n, x = .str z ∧ y = .int n ∧ z.length ≤ 40 ∧ (0 ≤ n ∧ n ≤ 1000) ∧ Q (.str (Txt.mul z n)) H
theorem mulok {z : Str} {n : Int} (h : z.length ≤ 40) (hn : 0 ≤ n ∧ n ≤ 1000) : MulOk z n := by
  refine ⟨?_, fun h1 _ => ?_, fun h1 _ => ?_⟩
  · rw [decF (by omega), decF (by omega)]; rfl
  · have : (40 : Int) ≤ (2 ^ 63 - 1) / n := (Int.le_ediv_iff_mul_le (by omega)).mpr (by omega)
    omega
  · have h2 : z.length * n.toNat ≤ 40 * 1000 := Nat.mul_le_mul h (by omega)
    unfold Builtin.Str.tooLong
    rw [decF]
    rw [sizeLine_eq]
    omega
theorem op_repS {X : Cx} : OpR X (binaryOp .Mult) rRepS' := by
  intro pins s σ H x y v u Q I rx ry h
  obtain ⟨z, n, rfl, rfl, hz, hn, q⟩ := h
  obtain ⟨t, rfl⟩ := rx
  obtain ⟨t', rfl⟩ := ry
  exact SB.mul (mulok hz hn) fun t' k => ⟨.str (Txt.mul z n), H, I.tok _, ⟨_, rfl⟩, q⟩
theorem fold_size : ∀ (l : List (Array Nat)) (a : Array Nat), (l.foldl (· ++ ·) a).size = a.size + (l.map (·.size)).sum
  | [], a => by simp
  | x :: l, a => by
    rw [List.foldl_cons, fold_size l, Array.size_append, List.map_cons, List.sum_cons]
    omega
theorem mul_len {z : Str} {n : Int} (hn : 0 ≤ n) : ((Txt.mul z n).length : Int) ≤ z.length * n ∨ (Txt.mul z n).length ≤ z.length := by
  unfold Txt.mul
  by_cases h1 : n < 1
  · rw [if_pos h1]; exact .inr (by show 0 ≤ _; omega)
  · rw [if_neg h1]
    by_cases h2 : (n == 1 || z.length == 0) = true
    · rw [if_pos h2]; exact .inr (Nat.le_refl _)
    · rw [if_neg h2]
      refine .inl ?_
      show ((List.foldl (· ++ ·) #[] (List.replicate n.toNat z.cps)).size : Int) ≤ _
      rw [fold_size, List.map_replicate, List.sum_replicate_nat]
      simp only [Array.size_empty, Nat.zero_add]
      have e : ((n.toNat : Nat) : Int) = n := by omega
      rw [Int.natCast_mul, e, Int.mul_comm]
      exact Int.le_refl _
end K59
set_option maxHeartbeats 4000000
namespace K59
open PySem PySem.Spec PyProof.Rows L2
/-! ### the law's own book, its places -/
abbrev W3 := Addr × Addr × Addr
def pl3 (w : W3) : List Addr := [w.1, w.2.1, w.2.2]
def plAll (o : Addr) (E : List W3) : List Addr := o :: E.flatMap pl3
def lwR (K : PySem.W.Frag) (G H : Hp) (w : W3) (p : Str × Tp) : Prop := H w.1 = some (.lst [.int p.2.beat, .ref w.2.1, .ref w.2.2]) ∧ H w.2.1 = some (.dK (p.2.paces.map kvI)) ∧ ∃ ts, H w.2.2 = some (.lst ts) ∧ DpAll K G ts (p.2.tracks.map trP)
def lwK (E : List W3) (bk : Bk) : List (Key × V) := List.zipWith (fun w p => (Sum.inr p.1, V.ref w.1)) E bk
structure LOwn (K : PySem.W.Frag) (S : List Addr) (H : Hp) (o : Addr) (bk : Bk) (E : List W3) : Prop where
  at_ : H o = some (.dK (lwK E bk))
  ent : Paired (lwR K (wo (plAll o E ++ S) H) H) E bk
  nd : (plAll o E).Nodup
  out : ∀ a ∈ plAll o E, a ∉ S
theorem Paired.mp {α β : Type} {R R' : α → β → Prop} {f : β → β} : ∀ {xs : List α} {ys : List β}, Paired R xs ys → (∀ (i : Nat) x y, xs[i]? = some x → ys[i]? = some y → R x y → R' x (f y)) → Paired R' xs (ys.map f)
  | _, _, .nil, _ => .nil
  | _, _, .cons r t, h => .cons (h 0 _ _ rfl rfl r) (Paired.mp t fun i x y a b => h (i + 1) x y (by simpa using a) (by simpa using b))
theorem flat_idx : ∀ {E : List W3} {i j : Nat} {w v : W3} {a : Addr}, (E.flatMap pl3).Nodup → E[i]? = some w → E[j]? = some v → a ∈ pl3 w → a ∈ pl3 v → i = j
  | [], i, j, w, v, a, _, h, _, _, _ => by simp at h
  | x :: E, 0, 0, _, _, _, _, _, _, _, _ => rfl
  | x :: E, 0, j + 1, w, v, a, hn, h1, h2, h3, h4 => by
    simp at h1; subst h1
    rw [List.flatMap_cons, List.nodup_append] at hn
    exact absurd rfl (hn.2.2 a h3 a (List.mem_flatMap.mpr ⟨v, List.mem_of_getElem? (by simpa using h2), h4⟩))
  | x :: E, i + 1, 0, w, v, a, hn, h1, h2, h3, h4 => by
    simp at h2; subst h2
    rw [List.flatMap_cons, List.nodup_append] at hn
    exact absurd rfl (hn.2.2 a h4 a (List.mem_flatMap.mpr ⟨w, List.mem_of_getElem? (by simpa using h1), h3⟩))
  | x :: E, i + 1, j + 1, w, v, a, hn, h1, h2, h3, h4 => by
    rw [List.flatMap_cons, List.nodup_append] at hn
    exact congrArg (· + 1) (flat_idx hn.2.1 (by simpa using h1) (by simpa using h2) h3 h4)
theorem pl3_in {E : List W3} {i : Nat} {w : W3} {a : Addr} (o : Addr) (h : E[i]? = some w) (ha : a ∈ pl3 w) : a ∈ plAll o E := List.mem_cons_of_mem _ (List.mem_flatMap.mpr ⟨w, List.mem_of_getElem? h, ha⟩)
theorem lw_val : ∀ {E : List W3} {bk : Bk} {n : Str}, E.length = bk.length → (∃ (i : Nat) (w : W3) (t : Tp), E[i]? = some w ∧ bk[i]? = some (n, t) ∧ valV (lwK E bk) (Sum.inr n) = some (.ref w.1) ∧ atA bk n = some t) ∨ (valV (lwK E bk) (Sum.inr n) = none ∧ atA bk n = none)
  | [], [], n, _ => .inr ⟨rfl, rfl⟩
  | [], _ :: _, _, h => by simp at h
  | _ :: _, [], _, h => by simp at h
  | w :: E, p :: bk, n, h => by
    by_cases e : p.1 = n
    · refine .inl ⟨0, w, p.2, rfl, by rw [← e]; rfl, valV_pos (by show Sum.inr p.1 = _; rw [e]), ?_⟩
      unfold atA
      rw [List.find?_cons, decT e]; rfl
    · have e1 : valV (lwK (w :: E) (p :: bk)) (Sum.inr n) = valV (lwK E bk) (Sum.inr n) := valV_neg (fun z => e (Sum.inr.inj z))
      have e2 : atA (p :: bk) n = atA bk n := by
        unfold atA
        rw [List.find?_cons, decF e]
      rw [e1, e2]
      rcases lw_val (E := E) (bk := bk) (n := n) (by simpa using h) with ⟨i, w', t, a, b, c, d⟩ | h
      · exact .inl ⟨i + 1, w', t, by simpa using a, by simpa using b, c, d⟩
      · exact .inr h
/-- places that stay without what was changed -/
theorem kp_wo {pl pl' S : List Addr} {H H' : Hp} (k : Kp pl H H') (h : ∀ a ∈ pl', a ∈ pl ∨ H a = none) : Same (wo (pl ++ S) H) (wo (pl' ++ S) H') := fun a o e => by
  by_cases q : a ∈ pl ++ S
  · rw [wo_in q] at e; cases e
  · rw [wo_out q] at e
    have q1 : a ∉ pl := fun z => q (List.mem_append_left _ z)
    have q2 : a ∉ S := fun z => q (List.mem_append_right _ z)
    rw [wo_out]
    · exact k.keep a o q1 e
    · intro z
      rcases List.mem_append.mp z with z | z
      · rcases h a z with y | y
        · exact q1 y
        · rw [y] at e; cases e
      · exact q2 z
section
variable {K : PySem.W.Frag} {S : List Addr} {H H' : Hp} {o : Addr} {bk : Bk} {E : List W3}
theorem LOwn.len (h : LOwn K S H o bk E) : E.length = bk.length := Paired.length h.ent
theorem LOwn.lk (h : LOwn K S H o bk E) : (lwK E bk).length = bk.length := by unfold lwK; rw [List.length_zipWith, h.len, Nat.min_self]
theorem LOwn.entry (h : LOwn K S H o bk E) {i : Nat} {w : W3} {p : Str × Tp} (h1 : E[i]? = some w) (h2 : bk[i]? = some p) : lwR K (wo (plAll o E ++ S) H) H w p := by
  obtain ⟨y, e, r⟩ := LiI.paired_get h.ent h1
  rw [h2] at e
  cases e
  exact r
theorem LOwn.to (h : LOwn K S H o bk E) (s : Same H H') : LOwn K S H' o bk E := by
  refine ⟨s _ _ h.at_, ?_, h.nd, h.out⟩
  have e := Paired.mp (f := id) h.ent fun i x y _ _ r => (show lwR K (wo (plAll o E ++ S) H') H' x y from by
    obtain ⟨r1, r2, ts, r3, r4⟩ := r
    exact ⟨s _ _ r1, s _ _ r2, ts, s _ _ r3, da r4 (Same.wo s)⟩)
  rwa [List.map_id] at e
theorem lwK_map {f : Tp → Tp} {n : Str} : ∀ {E : List W3} {bk : Bk}, lwK E (bk.map fun p => if p.1 = n then (p.1, f p.2) else p) = lwK E bk
  | [], _ => by simp [lwK]
  | _ :: _, [] => by simp [lwK]
  | w :: E, p :: bk => by
    show (Sum.inr (if p.1 = n then (p.1, f p.2) else p).1, V.ref w.1) :: lwK E _ = _
    rw [lwK_map]
    by_cases e : p.1 = n
    · rw [if_pos e]; rfl
    · rw [if_neg e]; rfl
/-- one tape of it changed in place -/
theorem LOwn.on (h : LOwn K S H o bk E) (ok : BkOk bk) {i : Nat} {w : W3} {n : Str} {t : Tp} {f : Tp → Tp} (h1 : E[i]? = some w) (h2 : bk[i]? = some (n, t)) (k : Kp [w.2.1, w.2.2] H H')
    (hm : lwR K (wo (plAll o E ++ S) H') H' w (n, f t)) : LOwn K S H' o (bk.map fun p => if p.1 = n then (p.1, f p.2) else p) E := by
  have nd := h.nd
  unfold plAll at nd
  rw [List.nodup_cons] at nd
  have kp : Kp (plAll o E) H H' := k.more fun a ha => pl3_in o h1 (by
    simp only [List.mem_cons, List.not_mem_nil, or_false] at ha
    rcases ha with rfl | rfl <;> simp [pl3])
  have oo : o ∉ [w.2.1, w.2.2] := fun z => nd.1 (List.mem_flatMap.mpr ⟨w, List.mem_of_getElem? h1, by
    simp only [List.mem_cons, List.not_mem_nil, or_false] at z
    rcases z with z | z <;> simp [pl3, z]⟩)
  refine ⟨by rw [lwK_map]; exact k.keep o _ oo h.at_, Paired.mp h.ent fun j v p j1 j2 r => ?_, h.nd, h.out⟩
  by_cases e : p.1 = n
  · rw [if_pos e]
    have ij : i = j := (List.getElem?_inj (by rw [List.length_map]; exact (List.getElem?_eq_some_iff.mp h2).1) ok.keys).mp (by rw [List.getElem?_map, List.getElem?_map, h2, j2]; simp [e])
    subst ij
    rw [h1] at j1
    rw [h2] at j2
    cases j1
    cases j2
    exact hm
  · rw [if_neg e]
    have ij : i ≠ j := fun z => e (by subst z; rw [h2] at j2; cases j2; rfl)
    have off : ∀ a ∈ pl3 v, a ∉ [w.2.1, w.2.2] := fun a ha z => ij (flat_idx nd.2 h1 j1 (by
      simp only [List.mem_cons, List.not_mem_nil, or_false] at z
      rcases z with rfl | rfl <;> simp [pl3]) ha)
    obtain ⟨r1, r2, ts, r3, r4⟩ := r
    exact ⟨k.keep _ _ (off _ (by simp [pl3])) r1, k.keep _ _ (off _ (by simp [pl3])) r2, ts, k.keep _ _ (off _ (by simp [pl3])) r3, da r4 (kp_wo kp fun a ha => .inl ha)⟩
end
end K59
set_option maxHeartbeats 4000000
namespace K59
open PySem PySem.Spec PyProof.Rows L2
theorem Paired.sn {α β : Type} {R : α → β → Prop} {a : α} {b : β} (h : R a b) : ∀ {xs : List α} {ys : List β}, Paired R xs ys → Paired R (xs ++ [a]) (ys ++ [b])
  | _, _, .nil => .cons h .nil
  | _, _, .cons r t => .cons r (Paired.sn h t)
theorem sub_flat : ∀ {E' E : List W3}, E'.Sublist E → (E'.flatMap pl3).Sublist (E.flatMap pl3) := by
  intro E' E h
  induction h with
  | slnil => exact List.Sublist.refl _
  | cons a _ ih => rw [List.flatMap_cons]; exact ih.trans (List.sublist_append_right _ _)
  | cons_cons a _ ih => rw [List.flatMap_cons, List.flatMap_cons]; exact (List.Sublist.refl _).append ih
theorem drop_E {R : W3 → Str × Tp → Prop} {n : Str} : ∀ {E : List W3} {bk : Bk}, Paired R E bk → ∃ E', E'.Sublist E ∧ lwK E' (dropA bk n) = dropK (lwK E bk) (Sum.inr n) ∧ Paired R E' (dropA bk n)
  | _, _, .nil => ⟨[], List.Sublist.refl _, rfl, .nil⟩
  | w :: E, p :: bk, .cons r t => by
    obtain ⟨E', h1, h2, h3⟩ := drop_E (n := n) t
    by_cases e : p.1 = n
    · refine ⟨E', h1.cons _, ?_, ?_⟩
      · have e1 : dropA (p :: bk) n = dropA bk n := by unfold dropA; rw [List.filter_cons_of_neg (by simp [e])]
        rw [e1, h2]
        show _ = dropK ((Sum.inr p.1, V.ref w.1) :: lwK E bk) (Sum.inr n)
        unfold dropK
        rw [List.filter_cons_of_neg (by simp [e])]
      · have e1 : dropA (p :: bk) n = dropA bk n := by unfold dropA; rw [List.filter_cons_of_neg (by simp [e])]
        rw [e1]; exact h3
    · have e1 : dropA (p :: bk) n = p :: dropA bk n := by unfold dropA; rw [List.filter_cons_of_pos (by simp [e])]
      refine ⟨w :: E', h1.cons_cons _, ?_, ?_⟩
      · rw [e1]
        show (Sum.inr p.1, V.ref w.1) :: lwK E' (dropA bk n) = dropK ((Sum.inr p.1, V.ref w.1) :: lwK E bk) (Sum.inr n)
        rw [h2]
        unfold dropK
        rw [List.filter_cons_of_pos (by simp [e])]
      · rw [e1]; exact .cons r h3
theorem Paired.imp' {α β : Type} {R R' : α → β → Prop} : ∀ {xs : List α} {ys : List β}, Paired R xs ys → (∀ x y, x ∈ xs → R x y → R' x y) → Paired R' xs ys
  | _, _, .nil, _ => .nil
  | _, _, .cons r t, h => .cons (h _ _ List.mem_cons_self r) (Paired.imp' t fun x y a => h x y (List.mem_cons_of_mem _ a))
section
variable {K : PySem.W.Frag} {S : List Addr} {H H' : Hp} {o : Addr} {bk : Bk} {E : List W3}
theorem LOwn.new (h : LOwn K S H o bk E) (hS : In S H) {n : Str} {x : Int} {m kn tr l0 : Addr} (hn : n ∉ bk.map (·.1)) (k : Kp [o] H H') (f1 : H m = none) (f2 : H kn = none) (f3 : H tr = none) (f4 : H l0 = none) (d1 : m ≠ kn) (d2 : m ≠ tr) (d3 : kn ≠ tr) (d4 : l0 ≠ m) (d5 : l0 ≠ kn) (d6 : l0 ≠ tr)
    (e1 : H' m = some (.lst [.int x, .ref kn, .ref tr])) (e2 : H' kn = some (.dK [])) (e3 : H' tr = some (.lst [.ref l0])) (e4 : H' l0 = some (.lst [])) (e0 : H' o = some (.dK (putK (lwK E bk) (Sum.inr n) (.ref m)))) : LOwn K S H' o (bk ++ [(n, ⟨x, [], [[]]⟩)]) (E ++ [(m, kn, tr)]) ∧ ∀ a ∈ plAll o (E ++ [(m, kn, tr)]), a ∈ plAll o E ∨ H a = none := by
  have pe : plAll o (E ++ [(m, kn, tr)]) = plAll o E ++ [m, kn, tr] := by unfold plAll; rw [List.flatMap_append]; rfl
  have no : ∀ w ∈ E, ∀ a ∈ pl3 w, a ≠ o := fun w hw a ha z => by
    have nd := h.nd
    unfold plAll at nd
    rw [List.nodup_cons] at nd
    exact nd.1 (List.mem_flatMap.mpr ⟨w, hw, by rw [← z]; exact ha⟩)
  have there : ∀ a ∈ plAll o E, H a ≠ none := by
    intro a ha
    rcases List.mem_cons.mp ha with rfl | ha
    · rw [h.at_]; exact fun z => nomatch z
    · obtain ⟨w, hw, ha⟩ := List.mem_flatMap.mp ha
      obtain ⟨i, hi⟩ := List.mem_iff_getElem?.mp hw
      have hl : i < bk.length := by rw [← h.len]; exact (List.getElem?_eq_some_iff.mp hi).1
      obtain ⟨r1, r2, ts, r3, _⟩ := h.entry hi (List.getElem?_eq_getElem hl)
      simp only [pl3, List.mem_cons, List.not_mem_nil, or_false] at ha
      rcases ha with rfl | rfl | rfl
      · rw [r1]; exact fun z => nomatch z
      · rw [r2]; exact fun z => nomatch z
      · rw [r3]; exact fun z => nomatch z
  have fr : ∀ a ∈ plAll o (E ++ [(m, kn, tr)]), a ∈ plAll o E ∨ H a = none := fun a ha => by
    rw [pe] at ha
    rcases List.mem_append.mp ha with ha | ha
    · exact .inl ha
    · simp only [List.mem_cons, List.not_mem_nil, or_false] at ha
      rcases ha with rfl | rfl | rfl
      · exact .inr f1
      · exact .inr f2
      · exact .inr f3
  have kp : Kp (plAll o E) H H' := k.more fun a ha => by rw [List.mem_singleton.mp ha]; exact List.mem_cons_self
  have sw := kp_wo (S := S) kp fr
  refine ⟨⟨?_, Paired.sn ?_ (Paired.imp' h.ent fun w p hw r => ?_), ?_, fun a ha z => ?_⟩, fr⟩
  · rw [e0]
    have hv : valV (lwK E bk) (Sum.inr n) = none := by
      rcases lw_val (n := n) h.len with ⟨i, w, t, _, h2, _, _⟩ | ⟨h1, _⟩
      · exact absurd (List.mem_map.mpr ⟨_, List.mem_of_getElem? h2, rfl⟩) hn
      · exact h1
    rw [putK_new _ hv]
    unfold lwK
    rw [List.zipWith_append h.len]
    rfl
  · refine ⟨e1, e2, [.ref l0], e3, .cons (.lst (SqL.of ?_) .nil) .nil⟩
    rw [wo_out]
    · exact e4
    · intro z
      rw [pe] at z
      rcases List.mem_append.mp z with z | z
      · rcases List.mem_append.mp z with z | z
        · exact there _ z f4
        · simp only [List.mem_cons, List.not_mem_nil, or_false] at z
          rcases z with z | z | z
          · exact d4 z
          · exact d5 z
          · exact d6 z
      · exact hS l0 z f4
  · obtain ⟨r1, r2, ts, r3, r4⟩ := r
    have k' : ∀ a ∈ pl3 w, a ∉ [o] := fun a ha z => no w hw a ha (List.mem_singleton.mp z)
    exact ⟨k.keep _ _ (k' _ (by simp [pl3])) r1, k.keep _ _ (k' _ (by simp [pl3])) r2, ts, k.keep _ _ (k' _ (by simp [pl3])) r3, da r4 sw⟩
  · rw [pe, List.nodup_append]
    refine ⟨h.nd, by simp [d1, d2, d3], fun a ha b hb e => ?_⟩
    subst e
    refine there a ha ?_
    simp only [List.mem_cons, List.not_mem_nil, or_false] at hb
    rcases hb with rfl | rfl | rfl
    · exact f1
    · exact f2
    · exact f3
  · rcases fr a ha with y | y
    · exact h.out a y z
    · exact hS a z y
theorem LOwn.drop (h : LOwn K S H o bk E) {n : Str} (k : Kp [o] H H') (e0 : H' o = some (.dK (dropK (lwK E bk) (Sum.inr n)))) : ∃ E', LOwn K S H' o (dropA bk n) E' ∧ ∀ a ∈ plAll o E', a ∈ plAll o E ∨ H a = none := by
  obtain ⟨E', h1, h2, h3⟩ := drop_E (n := n) h.ent
  have no : ∀ w ∈ E', ∀ a ∈ pl3 w, a ≠ o := fun w hw a ha z => by
    have nd := h.nd
    unfold plAll at nd
    rw [List.nodup_cons] at nd
    exact nd.1 (List.mem_flatMap.mpr ⟨w, h1.subset hw, by rw [← z]; exact ha⟩)
  have sb : (plAll o E').Sublist (plAll o E) := (sub_flat h1).cons_cons o
  have kp : Kp (plAll o E) H H' := k.more fun a ha => by rw [List.mem_singleton.mp ha]; exact List.mem_cons_self
  have sw := kp_wo (S := S) kp (pl' := plAll o E') fun a ha => .inl (sb.subset ha)
  refine ⟨E', ⟨by rw [h2]; exact e0, Paired.imp' h3 fun w p hw r => ?_, h.nd.sublist sb, fun a ha => h.out a (sb.subset ha)⟩, fun a ha => .inl (sb.subset ha)⟩
  obtain ⟨r1, r2, ts, r3, r4⟩ := r
  have k' : ∀ a ∈ pl3 w, a ∉ [o] := fun a ha z => no w hw a ha (List.mem_singleton.mp z)
  exact ⟨k.keep _ _ (k' _ (by simp [pl3])) r1, k.keep _ _ (k' _ (by simp [pl3])) r2, ts, k.keep _ _ (k' _ (by simp [pl3])) r3, da r4 sw⟩
end
end K59
namespace K59
open PySem PySem.Spec PyProof.Rows L2
section
variable {K : PySem.W.Frag} {S : List Addr} {H H' : Hp} {o : Addr} {bk : Bk} {E : List W3}
theorem LOwn.ins (h : LOwn K S H o bk E) (hS : In S H) : In (plAll o E ++ S) H := by
  intro a ha
  rcases List.mem_append.mp ha with ha | ha
  · rcases List.mem_cons.mp ha with rfl | ha
    · rw [h.at_]; exact fun z => nomatch z
    · obtain ⟨w, hw, ha⟩ := List.mem_flatMap.mp ha
      obtain ⟨i, hi⟩ := List.mem_iff_getElem?.mp hw
      have hl : i < bk.length := by rw [← h.len]; exact (List.getElem?_eq_some_iff.mp hi).1
      obtain ⟨r1, r2, ts, r3, _⟩ := h.entry hi (List.getElem?_eq_getElem hl)
      simp only [pl3, List.mem_cons, List.not_mem_nil, or_false] at ha
      rcases ha with rfl | rfl | rfl
      · rw [r1]; exact fun z => nomatch z
      · rw [r2]; exact fun z => nomatch z
      · rw [r3]; exact fun z => nomatch z
  · exact hS a ha
theorem LOwn.ne (h : LOwn K S H o bk E) {i : Nat} {w : W3} (h1 : E[i]? = some w) : w.1 ≠ w.2.1 ∧ w.1 ≠ w.2.2 ∧ w.2.1 ≠ w.2.2 := by
  have nd := h.nd
  unfold plAll at nd
  rw [List.nodup_cons] at nd
  have sb : (pl3 w).Sublist (E.flatMap pl3) := by
    have : ([w].flatMap pl3).Sublist (E.flatMap pl3) := sub_flat (List.singleton_sublist.mpr (List.mem_of_getElem? h1))
    simpa using this
  have := nd.2.sublist sb
  simp [pl3] at this
  exact ⟨this.1.1, this.1.2, this.2⟩
theorem LOwn.tr (h : LOwn K S H o bk E) (ok : BkOk bk) {i : Nat} {w : W3} {n : Str} {t : Tp} {f : Tp → Tp} {ts' : List V} {tk' : List Tr} (h1 : E[i]? = some w) (h2 : bk[i]? = some (n, t)) (ht : DpAll K (wo (plAll o E ++ S) H) ts' (tk'.map trP)) (hf : f t = { t with tracks := tk' }) :
    LOwn K S (upd H w.2.2 (.lst ts')) o (bk.map fun p => if p.1 = n then (p.1, f p.2) else p) E := by
  obtain ⟨n1, n2, n3⟩ := h.ne h1
  obtain ⟨r1, r2, ts, r3, r4⟩ := h.entry h1 h2
  refine h.on ok h1 h2 (Kp.upd (by simp)) ?_
  rw [hf]
  refine ⟨by rw [upd_ne n2]; exact r1, by rw [upd_ne n3]; exact r2, ts', upd_same, ?_⟩
  rw [wo_upd (List.mem_append_left _ (pl3_in o h1 (by simp [pl3])))]
  exact ht
theorem LOwn.kn (h : LOwn K S H o bk E) (ok : BkOk bk) {i : Nat} {w : W3} {n : Str} {t : Tp} {f : Tp → Tp} {ps : List (Int × Int)} (h1 : E[i]? = some w) (h2 : bk[i]? = some (n, t)) (hf : f t = { t with paces := ps }) :
    LOwn K S (upd H w.2.1 (.dK (ps.map kvI))) o (bk.map fun p => if p.1 = n then (p.1, f p.2) else p) E := by
  obtain ⟨n1, n2, n3⟩ := h.ne h1
  obtain ⟨r1, r2, ts, r3, r4⟩ := h.entry h1 h2
  refine h.on ok h1 h2 (Kp.upd (by simp)) ?_
  rw [hf]
  refine ⟨by rw [upd_ne n1]; exact r1, upd_same, ts, by rw [upd_ne (Ne.symm n3)]; exact r3, ?_⟩
  rw [wo_upd (List.mem_append_left _ (pl3_in o h1 (by simp [pl3])))]
  exact r4
end
end K59
set_option maxHeartbeats 4000000
namespace K59
open PySem PySem.Spec PyProof.Rows L2
section
variable {K : PySem.W.Frag} {S : List Addr} {H H' : Hp} {o : Addr} {bk : Bk} {E : List W3}
/-- one tape more -/
theorem LOwn.snoc (h : LOwn K S H o bk E) (hS : In S H) {n : Str} {t : Tp} {m kn tr : Addr} {ts : List V} (hn : n ∉ bk.map (·.1)) (k : Kp [o] H H') (f1 : H m = none) (f2 : H kn = none) (f3 : H tr = none) (d1 : m ≠ kn) (d2 : m ≠ tr) (d3 : kn ≠ tr)
    (e1 : H' m = some (.lst [.int t.beat, .ref kn, .ref tr])) (e2 : H' kn = some (.dK (t.paces.map kvI))) (e3 : H' tr = some (.lst ts)) (e4 : DpAll K (wo (plAll o (E ++ [(m, kn, tr)]) ++ S) H') ts (t.tracks.map trP)) (e0 : H' o = some (.dK (putK (lwK E bk) (Sum.inr n) (.ref m)))) :
    LOwn K S H' o (bk ++ [(n, t)]) (E ++ [(m, kn, tr)]) := by
  have pe : plAll o (E ++ [(m, kn, tr)]) = plAll o E ++ [m, kn, tr] := by unfold plAll; rw [List.flatMap_append]; rfl
  have no : ∀ w ∈ E, ∀ a ∈ pl3 w, a ≠ o := fun w hw a ha z => by
    have nd := h.nd
    unfold plAll at nd
    rw [List.nodup_cons] at nd
    exact nd.1 (List.mem_flatMap.mpr ⟨w, hw, by rw [← z]; exact ha⟩)
  have there : ∀ a ∈ plAll o E, H a ≠ none := fun a ha => h.ins hS a (List.mem_append_left _ ha)
  have fr : ∀ a ∈ plAll o (E ++ [(m, kn, tr)]), a ∈ plAll o E ∨ H a = none := fun a ha => by
    rw [pe] at ha
    rcases List.mem_append.mp ha with ha | ha
    · exact .inl ha
    · simp only [List.mem_cons, List.not_mem_nil, or_false] at ha
      rcases ha with rfl | rfl | rfl
      · exact .inr f1
      · exact .inr f2
      · exact .inr f3
  have kp : Kp (plAll o E) H H' := k.more fun a ha => by rw [List.mem_singleton.mp ha]; exact List.mem_cons_self
  have sw := kp_wo (S := S) kp fr
  refine ⟨?_, Paired.sn ⟨e1, e2, ts, e3, e4⟩ (Paired.imp' h.ent fun w p hw r => ?_), ?_, fun a ha z => ?_⟩
  · rw [e0]
    have hv : valV (lwK E bk) (Sum.inr n) = none := by
      rcases lw_val (n := n) h.len with ⟨i, w, t, _, h2, _, _⟩ | ⟨h1, _⟩
      · exact absurd (List.mem_map.mpr ⟨_, List.mem_of_getElem? h2, rfl⟩) hn
      · exact h1
    rw [putK_new _ hv]
    unfold lwK
    rw [List.zipWith_append h.len]
    rfl
  · obtain ⟨r1, r2, ts, r3, r4⟩ := r
    have k' : ∀ a ∈ pl3 w, a ∉ [o] := fun a ha z => no w hw a ha (List.mem_singleton.mp z)
    exact ⟨k.keep _ _ (k' _ (by simp [pl3])) r1, k.keep _ _ (k' _ (by simp [pl3])) r2, ts, k.keep _ _ (k' _ (by simp [pl3])) r3, da r4 sw⟩
  · rw [pe, List.nodup_append]
    refine ⟨h.nd, by simp [d1, d2, d3], fun a ha b hb e => ?_⟩
    subst e
    refine there a ha ?_
    simp only [List.mem_cons, List.not_mem_nil, or_false] at hb
    rcases hb with rfl | rfl | rfl
    · exact f1
    · exact f2
    · exact f3
  · rcases fr a ha with y | y
    · exact h.out a y z
    · exact hS a z y
end
end K59
namespace K59
open PySem PySem.Spec PyProof.Rows L2
/-! ### d == {} -/
def rEqDE : R2 := fun x y H Q => ∃ a b ks, x = .ref a ∧ y = .ref b ∧ H a = some (.dK ks) ∧ H b = some (.dK []) ∧ Q (.bl (ks.length == 0)) H
theorem op_eqDE {X : Cx} (hu : X.A.units < cLine) : OpR X (compareOp .Eq) rEqDE := by
  intro pins s σ H x y v u Q I rx ry h
  obtain ⟨a, b, ks, rfl, rfl, ea, eb, q⟩ := h
  obtain rfl : v = Value.ref a := rx
  obtain rfl : u = Value.ref b := ry
  obtain ⟨_, ya, va, ra, da⟩ := (show ObjOk X.prog X.w H s.heap a (.dK ks) from I.hok a _ ea)
  obtain ⟨_, yb, vb, rb, db⟩ := (show ObjOk X.prog X.w H s.heap b (.dK []) from I.hok b _ eb)
  cases rb
  have hl : ks.length = va.length := ra.length
  refine PySem.W.keq_eq (knd := mixKind X.prog X.w) (r := true) ya yb da db hu (fun h0 => ?_) (fin_bl I q (by rw [hl]; simp))
  cases va with
  | nil => exact .nil
  | cons a b => simp at h0
end K59
set_option maxHeartbeats 4000000
namespace K59
open PySem PySem.Spec PyProof.Rows L2
section
variable {P : Program} {w : World} {K : PySem.W.Frag} {mg : Str → Option Value} {base : Heap}
/-! ### events.py -/
def spBetween (K : PySem.W.Frag) : Sp := fun vs H Q _ => ∃ (x : V) (b : Addr) (lo hi : Int), vs = [x, .ref b] ∧ SqT K H b [.int lo, .int hi] ∧
  ((∃ i, x = .int i ∧ Q (.bl (decide (lo ≤ i ∧ i ≤ hi))) H) ∨ ((∃ z, x = .str z) ∧ Q (.bl false) H))
abbrev s_is_between : Stmt := top 30
abbrev N_is_between : List Str := ["thing", "bounds", "low", "high"]
theorem sc_is_between : FnScope N_is_between ["thing", "bounds"] (C8.fnScope s_is_between) := C8.fnScope_by (by decide +kernel)
theorem c_is_between (T : Fx w K mg) : C8.Cal P w K mg base 1 "is_between" (spBetween K) [] := by
  refine cal_ T.d_is_between (fun _ _ _ _ _ _ us hl => match us, hl with | [_, _], _ => rfl) sc_is_between (fun vs H Q E h => by obtain ⟨x, b, lo, hi, rfl, _⟩ := h; rfl) (fun f cdv A outer s H vs Q E hr h => ?_)
  have nd := sc_is_between.nd
  have hu := hu_of hr
  have hu64 := hu64 hr
  refine ⟨_, (pss_cons (ps_asg (pv 1) (pg_tup rfl (pgs_cons (pg_name (i := 2) nd rfl (by first | exact Or.inl rfl | exact Or.inr rfl)) (pgs_cons (pg_name (i := 3) nd rfl
      (by first | exact Or.inl rfl | exact Or.inr rfl)) pgs_nil)))) (pss_one (ps_ret (pe_and (pe_callB call_isi (by rfl) T.f_isinstance (by decide +kernel)
      (pa_cons (pv 0) (pa_cons (bT_int T.f_int) pa_nil))) (pe_one (pe_chain op_le op_le (pv 2) (pv 0) (pv 3))))))), ?_⟩

  obtain ⟨x, b, lo, hi, rfl, hb, hx⟩ := h
  refine ⟨_, rfl, b, _, rfl, hb, rfl, _, _, rfl, _, _, rfl, rfl, ?_⟩
  rcases hx with ⟨i, rfl, q⟩ | ⟨⟨z, rfl⟩, q⟩
  · refine ⟨_, rfl, _, _, _, _, true, rfl, .ty "int", .base (.int _), kit_ii, true, rfl, iteT ?_⟩
    refine ⟨_, rfl, _, rfl, _, _, rfl, rfl, _, rfl, ?_⟩
    by_cases c : lo ≤ i
    · rw [decide_eq_true c]
      refine iteT ⟨_, rfl, _, _, rfl, rfl, ?_⟩
      have e : decide (lo ≤ i ∧ i ≤ hi) = decide (i ≤ hi) := by simp [c]
      rw [e] at q
      exact q
    · rw [decide_eq_false c]
      refine iteF ?_
      have e : decide (lo ≤ i ∧ i ≤ hi) = false := by simp [c]
      rw [e] at q
      exact q
  · exact ⟨_, rfl, _, _, _, _, false, rfl, .ty "int", .base (.str _), kit_si, false, rfl, iteF q⟩
def spText : Sp := fun vs H Q _ => ∃ z : Str, vs = [.str z] ∧ z.length ≤ 12 ∧ (∀ c ∈ z.cps.toList, c ∈ signs) ∧ ∀ H', Same H H' → Q (.bl true) H'
abbrev s_is_text : Stmt := top 31
abbrev N_is_text : List Str := ["thing", "sign"]
theorem sc_is_text : FnScope N_is_text ["thing"] (C8.fnScope s_is_text) := C8.fnScope_by (by decide +kernel)
theorem c_is_text (T : Fx w K mg) : C8.Cal P w K mg base 1 "is_text" spText [] := by
  refine cal_ T.d_is_text (fun _ _ _ _ _ _ us hl => match us, hl with | [_], _ => rfl) sc_is_text (fun vs H Q E h => by obtain ⟨z, rfl, _⟩ := h; rfl) (fun f cdv A outer s H vs Q E hr h => ?_)
  have nd := sc_is_text.nd
  have hu := hu_of hr
  have hu64 := hu64 hr
  refine ⟨_, (pss_one (ps_ret (pe_and (pe_callB call_isi (by rfl) T.f_isinstance (by decide +kernel) (pa_cons (pv 0) (pa_cons (bT_str T.f_str) pa_nil))) (pe_and
      (pe_cmpR op_le (pe_callB call_len_str (by rfl) T.f_len PySem.boot_len (pa_cons (pv 0) pa_nil)) (gK T.g_MOST_SIGNS_events) (nomark _)) (pe_one
      (pe_callB (cr_all rfl) (by rfl) T.f_all (by decide +kernel) (pa_cons (pe_lc (own := [("sign", 1)]) (g := gName 1) (tt := tYes) rfl nd (pi_str (pv 0))
      (blkOk_by (own := [("sign", 1)]) (N := N_is_text) (sc := C8.fnScope s_is_text) (by decide +kernel)) (fun _ _ _ _ _ => (pg_name (i := 1) nd rfl
      (by first | exact Or.inl rfl | exact Or.inr rfl))) (fun _ _ _ _ _ => pts_nil) (fun _ _ _ _ _ => (pe_cmpR op_in_sign (pv 1) (gK T.g_SIGNS) rfl))) pa_nil))))))), ?_⟩

  obtain ⟨z, rfl, hl, hs, q⟩ := h
  refine ⟨_, rfl, _, _, _, _, true, rfl, .ty "str", .base (.str _), kit_ss, true, rfl, iteT ?_⟩
  refine ⟨_, rfl, z, rfl, by rw [sizeLine_eq]; omega, _, _, rfl, rfl, true, ?_, iteT ?_⟩
  · show V.bl (decide ((z.length : Int) ≤ 12)) = V.bl true
    rw [decide_eq_true (by omega)]
  have zsz : z.cps.size ≤ 12 := hl
  refine ⟨_, rfl, z, rfl, fun D hD => lc_it walk_str (fun i H' => Same H H' ∧ H' D = some (.lst ((List.replicate i true).map V.bl))) ⟨Same.upd hD, upd_same⟩ (fun _ _ _ _ => trivial) ?_ ?_⟩
  · rintro i x H1 H2 hi ⟨s1, h1⟩ ⟨rfl, c, hc, rfl⟩
    refine ⟨rfl, _, rfl, _, _, rfl, rfl, _, h1, by simp; rw [sizeLine_eq]; omega, ?_⟩
    have hm : c ∈ signs := hs c (Array.mem_toList_iff.mpr (Array.mem_of_getElem? hc))
    have e : decide (c ∈ (Str.ofString "abcdefghijklmnopqrstuvwxyz0123456789 ").cps.toList) = true := decide_eq_true hm
    refine ⟨fun a o eo => ?_, ?_⟩
    · rw [upd_ne (ne_of_none eo hD)]
      exact s1 a o eo
    · rw [upd_same, e, List.replicate_succ', List.map_append]
      rfl
  · rintro H1 ⟨s1, h1⟩
    refine ⟨D, _, rfl, SqL.of h1, ?_⟩
    have e : (List.replicate z.cps.size true).all id = true := by simp
    rw [e]
    exact q H1 s1
def spTick : Sp := fun vs H Q _ => ∃ t : Int, vs = [.int t] ∧ (0 ≤ t ∧ t ≤ 999999) ∧ Q .non H
abbrev s_need_tick : Stmt := top 34
abbrev N_need_tick : List Str := ["tick"]
theorem sc_need_tick : FnScope N_need_tick ["tick"] (C8.fnScope s_need_tick) := C8.fnScope_by (by decide +kernel)
theorem c_need_tick (T : Fx w K mg) : C8.Cal P w K mg base 1 "need_tick" spTick [] := by
  refine cal_ T.d_need_tick (fun _ _ _ _ _ _ us hl => match us, hl with | [_], _ => rfl) sc_need_tick (fun vs H Q E h => by obtain ⟨t, rfl, _⟩ := h; rfl) (fun f cdv A outer s H vs Q E hr h => ?_)
  have nd := sc_need_tick.nd
  have hu := hu_of hr
  have hu64 := hu64 hr
  refine ⟨_, (pss_one (ps_if (pt_not (pt_chain op_le op_le pe_int (pv 0) (gK T.g_MOST_TICK))) (pss_one ps_never) pss_nil)), ?_⟩

  obtain ⟨t, rfl, ⟨h0, h1⟩, q⟩ := h
  refine ⟨_, rfl, _, _, rfl, rfl, _, rfl, ?_⟩
  rw [decide_eq_true h0]
  refine iteT ⟨_, _, rfl, rfl, _, rfl, ?_⟩
  rw [decide_eq_true h1]
  exact iteF q
def spRoom (K : PySem.W.Frag) : Sp := fun vs H Q _ => ∃ (a : Addr) (xs : List V), vs = [.ref a] ∧ SqL K H a xs ∧ xs.length ≤ 200 ∧ Q .non H
abbrev s_need_room_events : Stmt := top 35
abbrev N_need_room_events : List Str := ["track"]
theorem sc_need_room_events : FnScope N_need_room_events ["track"] (C8.fnScope s_need_room_events) := C8.fnScope_by (by decide +kernel)
theorem c_need_room_events (T : Fx w K mg) : C8.Cal P w K mg base 1 "need_room_events" (spRoom K) [] := by
  refine cal_ T.d_need_room_events (fun _ _ _ _ _ _ us hl => match us, hl with | [_], _ => rfl) sc_need_room_events (fun vs H Q E h => by obtain ⟨a, xs, rfl, _⟩ := h; rfl) (fun f cdv A outer s H vs Q E hr h => ?_)
  have nd := sc_need_room_events.nd
  have hu := hu_of hr
  have hu64 := hu64 hr
  refine ⟨_, (pss_one (ps_if (pt_cmpR op_gt (pe_callB (r := rLenSq K) call_len_seq (by rfl) T.f_len PySem.boot_len (pa_cons (pv 0) pa_nil)) (gK T.g_MOST_EVENTS)
      (nomark _)) (pss_one ps_never) pss_nil)), ?_⟩

  obtain ⟨a, xs, rfl, ha, hl, q⟩ := h
  refine ⟨_, rfl, a, xs, rfl, .inl ha, _, _, rfl, rfl, _, rfl, ?_⟩
  rw [decide_eq_false (by omega)]
  exact iteF q
end
end K59
set_option maxHeartbeats 4000000
namespace K59
open PySem PySem.Spec PyProof.Rows L2
theorem GoodEv.shape {e : Ev} (g : GoodEv e) : (∃ t z, e = [.int t, .str "mark", .str z] ∧ (0 ≤ t ∧ t ≤ 999999) ∧ z.length ≤ 12 ∧ ∀ c ∈ z.cps.toList, c ∈ signs) ∨
    ∃ t w is bd, e = .int t :: .str w :: is.map PyData.int ∧ (0 ≤ t ∧ t ≤ 999999) ∧ (w, bd) ∈ formTab ∧ Paired (fun (i : Int) (q : Int × Int) => q.1 ≤ i ∧ i ≤ q.2) is bd ∧ ¬ w = "mark" ∧ is.length ≤ 3 := by
  cases g with
  | mark t z h1 h2 h3 => exact .inl ⟨t, z, rfl, h1, h2, h3⟩
  | voice t c a h1 h2 h3 => exact .inr ⟨t, _, [c, a], [(0, 15), (0, 127)], rfl, h1, by simp [formTab], .cons h2 (.cons h3 .nil), by decide +kernel, by simp⟩
  | three w t c a b h0 h1 h2 h3 h4 h5 =>
    rcases h0 with rfl | rfl | rfl
    · exact .inr ⟨t, _, [c, a, b], [(0, 15), (0, 127), (1, 127)], rfl, h1, by simp [formTab], .cons h2 (.cons h3 (.cons ⟨h5 rfl, h4.2⟩ .nil)), by decide +kernel, by simp⟩
    · exact .inr ⟨t, _, [c, a, b], [(0, 15), (0, 127), (0, 127)], rfl, h1, by simp [formTab], .cons h2 (.cons h3 (.cons h4 .nil)), by decide +kernel, by simp⟩
    · exact .inr ⟨t, _, [c, a, b], [(0, 15), (0, 127), (0, 127)], rfl, h1, by simp [formTab], .cons h2 (.cons h3 (.cons h4 .nil)), by decide +kernel, by simp⟩
theorem map_scV_int (is : List Int) : (is.map PyData.int).map scV = is.map V.int := by rw [List.map_map]; rfl
section
variable {P : Program} {w : World} {K : PySem.W.Frag} {mg : Str → Option Value} {base : Heap}
theorem paired_at {α β : Type} {F : α → β → Prop} : ∀ {xs : List α} {ys : List β} {i : Nat} {x : α} {y : β}, Paired F xs ys → xs[i]? = some x → ys[i]? = some y → F x y
  | _, _, _, _, _, .nil, h, _ => by simp at h
  | _, _, 0, _, _, .cons r _, h1, h2 => by simp at h1 h2; subst h1 h2; exact r
  | _, _, i + 1, _, _, .cons _ t, h1, h2 => paired_at (i := i) t (by simpa using h1) (by simpa using h2)
theorem star3 (a b : V) (D : Addr) (r : List V) : (a :: b :: r).take 2 ++ [.ref D] ++ ((a :: b :: r).drop 2).drop ((a :: b :: r).length + 1 - 3) = [a, b, .ref D] := by simp
theorem star3' (a b : V) (r : List V) : ((a :: b :: r).drop 2).take ((a :: b :: r).length + 1 - 3) = r := by simp
def spEvent (K : PySem.W.Frag) : Sp := fun vs H Q _ => ∃ (e : Addr) (ev : Ev), vs = [.ref e] ∧ SqT K H e (ev.map scV) ∧ GoodEv ev ∧ ∀ H', Same H H' → Q (.bl true) H'
abbrev s_is_event : Stmt := top 32
abbrev N_is_event : List Str := ["event", "tick", "word", "things", "thing", "bounds"]
theorem sc_is_event : FnScope N_is_event ["event"] (C8.fnScope s_is_event) := C8.fnScope_by (by decide +kernel)
theorem c_is_event (T : Fx w K mg) : C8.Cal P w K mg base 2 "is_event" (spEvent K) [] := by
  obtain ⟨dF, hF, ⟨es, n, DF⟩, tab⟩ := T.g_FORMS
  refine cal_ T.d_is_event (fun _ _ _ _ _ _ us hl => match us, hl with | [_], _ => rfl) sc_is_event (fun vs H Q E h => by obtain ⟨e, ev, rfl, _⟩ := h; rfl) (fun f cdv A outer s H vs Q E hr h => ?_)
  have nd := sc_is_event.nd
  have hu := hu_of hr
  have hu64 := hu64 hr
  refine ⟨_, (pss_cons (ps_if (PW.pt (pw_or (pt_cmpR op_lt (pe_callB (r := rLenSq K) call_len_seq (by rfl) T.f_len PySem.boot_len (pa_cons (pv 0) pa_nil)) pe_int
      (nomark _)) (pw_or1 (pt_not (pt_val (C8.pe_c (c_is_between T) hr (by decide) rfl (pa_cons (pe_ix (r := rIxT K) ix_tup (pv 0) pe_int (fun _ _ => rfl))
      (pa_cons (pe_tup (pa_cons pe_int (pa_cons (gK T.g_MOST_TICK) pa_nil))) pa_nil)))))))) (pss_one (ps_ret pe_bl)) pss_nil) (pss_cons (ps_asg (pv 0)
      (pg_star (n := 3) (i := 2) rfl (pgs_cons (pg_name (i := 1) nd rfl (by first | exact Or.inl rfl | exact Or.inr rfl)) (pgs_cons (pg_name (i := 2) nd rfl
      (by first | exact Or.inl rfl | exact Or.inr rfl)) (pgs_star (pg_name (i := 3) nd rfl (by first | exact Or.inl rfl | exact Or.inr rfl)) pgs_nil)))))
      (pss_cons (ps_if (pt_cmpR op_eq (pv 2) pe_str (nomark _)) (pss_one (ps_ret (pe_and (pe_cmpR op_eq (pe_callB (r := rLenSq K) call_len_seq (by rfl) T.f_len PySem.boot_len
      (pa_cons (pv 3) pa_nil)) pe_int (nomark _)) (pe_one (C8.pe_c (c_is_text T) hr (by decide) rfl (pa_cons (pe_ix (r := rIxL K) ix_list (pv 3) pe_int
      (fun _ _ => rfl)) pa_nil)))))) pss_nil) (pss_cons (ps_if (PW.pt (pw_or (pt_not (pt_val (pe_callB call_isi (by rfl) T.f_isinstance (by decide +kernel)
      (pa_cons (pv 2) (pa_cons (bT_str T.f_str) pa_nil))))) (pw_or (pt_cmpR (op_notIn_kd DF) (pv 2) (pe_glob (v := .ref dF) rfl hF rfl) rfl) (pw_or1
      (pt_cmpR op_ne (pe_callB (r := rLenSq K) call_len_seq (by rfl) T.f_len PySem.boot_len (pa_cons (pv 3) pa_nil)) (pe_callB (r := rLenSq K) call_len_seq
      (by rfl) T.f_len PySem.boot_len (pa_cons (pe_ix ix_kdict (pe_glob (v := .ref dF) rfl hF rfl) (pv 2) (fun _ _ => rfl)) pa_nil)) (nomark _))))))
      (pss_one (ps_ret pe_bl)) pss_nil) (pss_one (ps_ret (pe_callB (cr_all rfl) (by rfl) T.f_all (by decide +kernel) (pa_cons (pe_lc (own := [("thing", 4),
      ("bounds", 5)]) (g := gTup K 2 (gCons (gName 4) (gCons (gName 5) gNil))) (tt := tYes) rfl nd (pi_zipS (by rfl) T.f_zip (pa_cons (pv 3) (pa_cons
      (pe_ix ix_kdict (pe_glob (v := .ref dF) rfl hF rfl) (pv 2) (fun _ _ => rfl)) pa_nil))) (blkOk_by (own := [("thing", 4), ("bounds", 5)]) (N := N_is_event)
      (sc := C8.fnScope s_is_event) (by decide +kernel)) (fun _ _ _ _ _ => (pg_tup rfl (pgs_cons (pg_name (i := 4) nd rfl (by first | exact Or.inl rfl | exact Or.inr rfl))
      (pgs_cons (pg_name (i := 5) nd rfl (by first | exact Or.inl rfl | exact Or.inr rfl)) pgs_nil)))) (fun _ _ _ _ _ => pts_nil) (fun _ _ _ _ _ =>
      (C8.pe_c (c_is_between T) hr (by decide) rfl (pa_cons (pv 4) (pa_cons (pv 5) pa_nil))))) pa_nil)))))))), ?_⟩

  obtain ⟨e, ev, rfl, he, g, q⟩ := h
  have main : ∀ (t : Int) (w0 : Str) (r : List V), ev.map scV = .int t :: .str w0 :: r → (0 ≤ t ∧ t ≤ 999999) → r.length ≤ 5 → ∀ G : Prop, G → G := fun _ _ _ _ _ _ _ g => g
  rcases g.shape with ⟨t, z, rfl, ht, hz, hs⟩ | ⟨t, w0, is, bd, rfl, ht, hw, hp, hm, hl⟩
  · refine ⟨_, rfl, e, _, rfl, .inr he, _, _, rfl, rfl, _, rfl, iteF ⟨_, rfl, e, _, _, _, rfl, rfl, he, rfl, ?_⟩⟩
    refine ⟨by show 2 ≤ sizeLine; decide, fun p hp => ?_⟩
    refine ⟨_, p, 0, 999999, rfl, SqT.of upd_same, .inl ⟨t, rfl, true, ?_, iteF ?_⟩⟩
    · rw [decide_eq_true ht]
    have s1 := Same.upd (o := .tup [.int 0, .int 999999]) hp
    refine ⟨_, rfl, e, _, rfl, same_t s1 he, by simp, by simp, fun D hD => ?_⟩
    refine ⟨_, _, rfl, _, _, rfl, _, _, rfl, rfl, ?_⟩
    have s2 := s1.trans (Same.upd (o := .lst [.str z]) hD)
    refine ⟨_, rfl, rfl, _, rfl, iteT ?_⟩
    refine ⟨_, rfl, D, _, rfl, .inl (SqL.of upd_same), rfl, true, rfl, iteT ?_⟩
    exact ⟨_, rfl, D, _, _, _, rfl, rfl, SqL.of upd_same, rfl, z, rfl, hz, hs, fun H' s => q H' (s2.trans s)⟩
  · have he' : SqT K H e (.int t :: .str w0 :: is.map V.int) := by rw [← map_scV_int]; exact he
    obtain ⟨f, bs, kd, hf, hb⟩ := tab _ hw
    have kd' := kd
    obtain ⟨es', n', u, hl1, hl2, hns, ru⟩ := kd'
    have lb : bs.length = bd.length := Paired.length hb
    have li : is.length = bd.length := Paired.length hp
    refine ⟨_, rfl, e, _, rfl, .inr he', _, _, rfl, rfl, _, rfl, ?_⟩
    rw [decide_eq_false (by simp; omega)]
    refine iteF ⟨_, rfl, e, _, _, _, rfl, rfl, he', atI_nat (j := 0) rfl, ?_⟩
    refine ⟨by show 2 ≤ sizeLine; decide, fun p hp' => ?_⟩
    refine ⟨_, p, 0, 999999, rfl, SqT.of upd_same, .inl ⟨t, rfl, true, ?_, iteF ?_⟩⟩
    · rw [decide_eq_true ht]
    have s1 := Same.upd (o := .tup [.int 0, .int 999999]) hp'
    refine ⟨_, rfl, e, _, rfl, same_t s1 he', by simp, by simp; omega, fun D hD => ?_⟩
    rw [star3, star3']
    refine ⟨_, _, rfl, _, _, rfl, _, _, rfl, rfl, ?_⟩
    have s2 := s1.trans (Same.upd (o := .lst (is.map V.int)) hD)
    refine ⟨_, rfl, rfl, _, rfl, ?_⟩
    rw [decide_eq_false (by simpa using hm)]
    refine iteF ?_
    refine ⟨_, rfl, _, _, _, _, true, rfl, .ty "str", .base (.str _), kit_ss, true, rfl, iteF ?_⟩
    refine ⟨_, rfl, w0, _, rfl, rfl, hns, _, rfl, iteF ?_⟩
    refine ⟨_, rfl, D, _, rfl, .inl (SqL.of upd_same), _, rfl, dF, w0, _, rfl, rfl, kd, f, _, rfl, .inr (hf _), rfl, _, rfl, ?_⟩
    rw [List.length_map, List.length_map, lb, ← li, decide_eq_true rfl]
    refine iteF ?_
    have DL : SqL K (upd (upd H p (.tup [.int 0, .int 999999])) D (.lst (is.map V.int))) D (is.map V.int) := SqL.of upd_same
    refine ⟨_, rfl, _, rfl, dF, w0, _, rfl, rfl, kd, D, f, _, _, rfl, DL, hf _, fun D2 hD2 => ?_⟩
    refine lc_it (walk_zipS (xs := is.map V.int) (ys := bs.map V.ref) (by simp; omega)) (fun i H' => Same _ H' ∧ H' D2 = some (.lst ((List.replicate i true).map V.bl))) ⟨Same.upd hD2, upd_same⟩ (fun i H' _ hh => ⟨same_l hh.1 DL, hf _⟩) ?_ ?_
    · rintro i x H1 H2 hi ⟨s3, h1⟩ ⟨T0, x, y, rfl, hT, rfl, hx, hy⟩
      simp only [List.getElem?_map, Option.map_eq_some_iff] at hx hy
      obtain ⟨xi, hx, rfl⟩ := hx
      obtain ⟨yi, hy, rfl⟩ := hy
      have hil : i < bd.length := by simpa [li] using hi
      obtain ⟨q0, hq0⟩ : ∃ q0, bd[i]? = some q0 := ⟨_, List.getElem?_eq_getElem hil⟩
      have in1 := paired_at hp hx hq0
      have sb := paired_at hb hy hq0
      refine ⟨T0, _, rfl, SqT.of upd_same, rfl, _, _, rfl, _, _, rfl, rfl, rfl, ?_⟩
      refine ⟨_, rfl, _, rfl, _, yi, q0.1, q0.2, rfl, sb _, .inl ⟨xi, rfl, _, (by rw [upd_ne (ne_of_none h1 hT)]; exact h1), by simp; rw [sizeLine_eq]; simp at hi; omega, ?_⟩⟩
      have s4 := Same.upd (o := .tup [.int xi, .ref yi]) hT
      refine ⟨fun a o eo => ?_, ?_⟩
      · rw [upd_ne (ne_of_none eo hD2)]
        exact s4 a o (s3 a o eo)
      · rw [upd_same, decide_eq_true in1, List.replicate_succ', List.map_append]
        rfl
    · rintro H1 ⟨s3, h1⟩
      refine ⟨D2, _, rfl, SqL.of h1, ?_⟩
      have e1 : (List.replicate (is.map V.int).length true).all id = true := by simp
      rw [e1]
      exact q H1 (s2.trans s3)
end
end K59
set_option maxHeartbeats 4000000
namespace K59
open PySem PySem.Spec PyProof.Rows L2
section
variable {P : Program} {w : World} {K : PySem.W.Frag} {mg : Str → Option Value} {base : Heap}
def spTrack (K : PySem.W.Frag) : Sp := fun vs H Q _ => ∃ v : V, vs = [v] ∧ ((∃ t, Dp K H v (trP t) ∧ TrOk t) ∨ ∃ a, v = .ref a ∧ SqT K H a []) ∧ ∀ H', Same H H' → Q .non H'
abbrev s_need_track : Stmt := top 33
abbrev N_need_track : List Str := ["track", "at", "event"]
theorem sc_need_track : FnScope N_need_track ["track"] (C8.fnScope s_need_track) := C8.fnScope_by (by decide +kernel)
theorem c_need_track (T : Fx w K mg) : C8.Cal P w K mg base 3 "need_track" (spTrack K) [] := by
  refine cal_ T.d_need_track (fun _ _ _ _ _ _ us hl => match us, hl with | [_], _ => rfl) sc_need_track (fun vs H Q E h => by obtain ⟨v, rfl, _⟩ := h; rfl) (fun f cdv A outer s H vs Q E hr h => ?_)
  have nd := sc_need_track.nd
  have hu := hu_of hr
  have hu64 := hu64 hr
  refine ⟨_, (pss_one (ps_for PassesOwn.never rfl (pi_enum2 (by rfl) T.f_enumerate (pa_cons (pv 0) pa_nil)) (pg_tup rfl (pgs_cons (pg_name (i := 1) nd rfl (by first | exact Or.inl rfl | exact Or.inr rfl))
      (pgs_cons (pg_name (i := 2) nd rfl (by first | exact Or.inl rfl | exact Or.inr rfl)) pgs_nil))) (pss_one (ps_if (PW.pt (pw_or (pt_cmpR op_ge (pv 1)
      (gK T.g_MOST_EVENTS) (nomark _)) (pw_or (pt_not (pt_val (C8.pe_c (c_is_event T) hr (by decide) rfl (pa_cons (pv 2) pa_nil)))) (pw_or1 (PW.pt
      (pw_and (pt_cmpR op_gt (pv 1) pe_int (nomark _)) (pw_and1 (pt_cmpR op_lt (pe_ix (r := rIxT K) ix_tup (pv 2) pe_int (fun _ _ => rfl)) (pe_ix (r := rIxT K) ix_tup
      (pe_ix (r := rIxL K) ix_list (pv 0) (pe_op op_sub (pv 1) pe_int) (fun _ _ => rfl)) pe_int (fun _ _ => rfl)) (nomark _))))))))) (pss_one ps_never) pss_nil)))), ?_⟩

  obtain ⟨v, rfl, hv, q⟩ := h
  rcases hv with ⟨t, d, ok⟩ | ⟨a, rfl, ha⟩
  · obtain ⟨a, xs, rfl, ha, hx⟩ := Dp.lstI d
    have ln := tr_len hx
    refine ⟨_, rfl, .inl ⟨a, xs, rfl, ha, ?_⟩⟩
    refine for_it walk_enum (fun i σ H' => (∃ x y, σ = [some (.ref a), x, y]) ∧ Same H H') ⟨⟨_, _, rfl⟩, fun _ _ e => e⟩ (fun _ _ _ _ hh => same_l hh.2 ha) ?_ (fun σ H' hh => q H' hh.2)
    rintro i x σ H1 H2 hi ⟨⟨x1, x2, rfl⟩, s1⟩ ⟨T0, x, y, rfl, hT, rfl, hx0, hy⟩
    simp only [Option.some.injEq] at hx0
    subst hx0
    obtain ⟨e, ev, w0, r, rfl, ht, g, hd, hs, e0, hr, k0, k1, k5⟩ := ev_in ok.good hx hy
    have il : i < t.length := by rw [← ln]; exact hi
    have few := ok.few
    have s2 : Same H (upd H1 T0 (.tup [.int (i : Nat), .ref e])) := s1.trans (Same.upd hT)
    refine ⟨T0, _, rfl, SqT.of upd_same, rfl, _, _, rfl, _, _, rfl, rfl, ?_⟩
    refine ⟨_, rfl, _, _, rfl, rfl, _, rfl, ?_⟩
    rw [decF (by omega)]
    refine iteF ⟨_, rfl, e, ev, rfl, same_t s2 hs, g, fun H3 s3 => ⟨true, rfl, iteF ?_⟩⟩
    have s4 := s2.trans s3
    refine ⟨_, rfl, _, _, rfl, rfl, _, rfl, ?_⟩
    by_cases i0 : i = 0
    · rw [decF (by omega)]
      refine iteF ?_
      exact iteF ⟨⟨_, _, rfl⟩, s4⟩
    · rw [decT (by omega)]
      refine iteT ?_
      have hs' := hs
      rw [sc_head e0] at hs'
      have hlt : i - 1 < xs.length := by omega
      obtain ⟨e2, ev2, w2, r2, ex2, ht2, g2, hd2, hs2, e02, _⟩ := ev_in ok.good hx (List.getElem?_eq_getElem hlt)
      have hs2' := hs2
      rw [sc_head e02] at hs2'
      have gx : xs[i - 1]? = some (.ref e2) := by rw [List.getElem?_eq_getElem hlt, ex2]
      refine ⟨_, rfl, e, _, _, _, rfl, rfl, same_t s4 hs', atI_nat (j := 0) rfl, ?_⟩
      refine ⟨_, rfl, _, rfl, _, _, rfl, rfl, a, _, _, _, rfl, rfl, same_l s4 ha, at_nat (by omega) gx, ?_⟩
      refine ⟨e2, _, _, _, rfl, rfl, same_t s4 hs2', atI_nat (j := 0) rfl, _, _, rfl, rfl, _, rfl, ?_⟩
      have ord : tick ev2 ≤ tick ev := by
        have hp := ok.rise
        rw [List.pairwise_iff_getElem] at hp
        have l1 : i - 1 < t.length := by omega
        have a1 := hp (i - 1) i l1 il (by omega)
        have b1 : t[i - 1] = ev2 := by rw [List.getElem?_eq_getElem l1] at ht2; exact Option.some.inj ht2
        have b2 : t[i] = ev := by rw [List.getElem?_eq_getElem il] at ht; exact Option.some.inj ht
        rwa [b1, b2] at a1
      rw [decF (by omega)]
      exact iteF ⟨⟨_, _, rfl⟩, s4⟩
  · refine ⟨_, rfl, .inr ⟨a, rfl, ha, ?_⟩⟩
    exact ⟨fun _ _ _ H' => H' = H, ⟨0, rfl⟩, fun i m σ H' e => .inl ⟨by rw [e]; exact ha, by subst e; exact q _ fun _ _ z => z⟩⟩
def spLater (K : PySem.W.Frag) : Sp := fun vs H Q _ => ∃ (S : List Addr) (v : V) (t : Tr) (b : Int), vs = [v, .int b] ∧ In S H ∧ Dp K (wo S H) v (trP t) ∧ TrOk t ∧ (∀ e ∈ t, 0 ≤ tick e + b ∧ tick e + b ≤ 999999) ∧
  ∀ H' p, Same H H' → Dp K (wo S H') p (trP (laterT t b)) → Q p H'
abbrev s_later : Stmt := top 37
abbrev N_later : List Str := ["track", "by", "event"]
theorem sc_later : FnScope N_later ["track", "by"] (C8.fnScope s_later) := C8.fnScope_by (by decide +kernel)
theorem c_later (T : Fx w K mg) : C8.Cal P w K mg base 2 "later" (spLater K) [] := by
  refine cal_ T.d_later (fun _ _ _ _ _ _ us hl => match us, hl with | [_, _], _ => rfl) sc_later (fun vs H Q E h => by obtain ⟨S, v, t, b, rfl, _⟩ := h; rfl) (fun f cdv A outer s H vs Q E hr h => ?_)
  have nd := sc_later.nd
  have hu := hu_of hr
  have hu64 := hu64 hr
  refine ⟨_, (pss_cons (ps_for PassesOwn.never rfl (pi_list (pv 0)) (pg_name (i := 2) nd rfl (by first | exact Or.inl rfl | exact Or.inr rfl)) (pss_one (ps_expr
      (C8.pe_c (c_need_tick T) hr (by decide) rfl (pa_cons (pe_op op_add (pe_ix (r := rIxT K) ix_tup (pv 2) pe_int (fun _ _ => rfl)) (pv 1)) pa_nil)))))
      (pss_one (ps_ret (pe_lc (own := [("event", 2)]) (g := gName 2) (tt := tYes) rfl nd (pi_list (pv 0)) (blkOk_by (own := [("event", 2)]) (N := N_later)
      (sc := C8.fnScope s_later) (by decide +kernel)) (fun _ _ _ _ _ => (pg_name (i := 2) nd rfl (by first | exact Or.inl rfl | exact Or.inr rfl)))
      (fun _ _ _ _ _ => pts_nil) (fun _ _ _ _ _ => (pe_op (r := rCatT K) op_catT (pe_tup (pa_cons (pe_op op_add (pe_ix (r := rIxT K) ix_tup (pv 2) pe_int
      (fun _ _ => rfl)) (pv 1)) pa_nil)) (pe_slice (r := rSlT K) sl_tup (pv 2) (po_some pe_int) po_none))))))), ?_⟩

  obtain ⟨S, v, t, b, rfl, hS, d, ok, hb, q⟩ := h
  obtain ⟨a, xs, rfl, ha, hx⟩ := Dp.lstI d
  have ln := tr_len hx
  have few := ok.few
  refine ⟨_, rfl, a, rfl, ⟨xs, same_l wo_sub ha⟩, ?_⟩
  refine for_it walk_list (fun i σ H' => (∃ x, σ = [some (.ref a), some (.int b), x]) ∧ H' = H) ⟨⟨_, rfl⟩, rfl⟩ (fun _ _ _ _ hh => by rw [hh.2]; exact same_l wo_sub ha) ?_ ?_
  · rintro i x σ H1 H2 hi ⟨⟨x1, rfl⟩, rfl⟩ ⟨rfl, hy⟩
    obtain ⟨e, ev, w0, r, rfl, ht, g, hd, hs, e0, hr', k0, k1, k5⟩ := ev_in ok.good hx hy
    rw [sc_head e0] at hs
    have bb := hb ev (List.mem_of_getElem? ht)
    refine ⟨_, rfl, e, _, _, _, rfl, rfl, same_t wo_sub hs, atI_nat (j := 0) rfl, _, rfl, _, _, rfl, rfl, _, rfl, bb, ?_⟩
    exact ⟨⟨_, rfl⟩, rfl⟩
  rintro σ H' ⟨⟨x1, rfl⟩, rfl⟩
  refine ⟨_, rfl, a, rfl, ⟨xs, same_l wo_sub ha⟩, fun D hD => ?_⟩
  refine lc_it walk_list (Gro K S H' D fun i => (laterT (t.take i) b).map evP) (Gro.start hS hD (by simp [laterT])) (fun _ _ _ hh => same_l hh.same (same_l wo_sub ha)) ?_ ?_
  · rintro i x H1 H2 hi ac ⟨rfl, hy⟩
    obtain ⟨e, ev, w0, r, rfl, ht, g, hd, hs, e0, hr', k0, k1, k5⟩ := ev_in ok.good hx hy
    rw [sc_head e0] at hs
    have hs1 := same_t ac.same (same_t wo_sub hs)
    have bb := hb ev (List.mem_of_getElem? ht)
    have lr : r.length ≤ 3 := by have := congrArg List.length e0; simp at this; omega
    refine ⟨rfl, _, rfl, e, _, _, _, rfl, rfl, hs1, atI_nat (j := 0) rfl, _, rfl, _, _, rfl, rfl, sz (by simp), fun p hp => ?_⟩
    have s2 : Same H2 (upd H2 p (.tup [.int (tick ev + b)])) := Same.upd hp
    refine ⟨_, rfl, _, rfl, e, _, rfl, same_t s2 hs1, nocut_1, fun p2 hp2 => ?_⟩
    rw [cut_1]
    have s3 := s2.trans (Same.upd (o := .tup (.str w0 :: r.map scV)) hp2)
    refine ⟨p, p2, [.int (tick ev + b)], .str w0 :: r.map scV, rfl, rfl, same_t (Same.upd hp2) (SqT.of upd_same), SqT.of upd_same, by simp, sz (by simp; omega), (fun z => by cases z), fun _ p3 hp3 => ?_⟩
    have s4 := s3.trans (Same.upd (o := .tup ([.int (tick ev + b)] ++ (.str w0 :: r.map scV))) hp3)
    have fl : (atTick ev (tick ev + b)).all isSc = true := (g.at bb).flat
    have em : (atTick ev (tick ev + b)).map scV = [.int (tick ev + b)] ++ (.str w0 :: r.map scV) := by
      unfold atTick
      rw [e0]
      rfl
    refine ac.more s4 (d := evP (atTick ev (tick ev + b))) (ev_dp ?_ fl) ?_ (by have := ok.few; omega)
    · rw [em]
      exact sqt_new (In.same ac.in s3) hp3
    · simp only [take_succ' ht, laterT, List.map_append, List.map_cons, List.map_nil]
  · intro H1 ac
    have z := ac.stop
    simp only [take_full (show t.length = xs.length from ln.symm)] at z
    exact q H1 _ ac.same z
end
end K59
set_option maxHeartbeats 4000000
namespace K59
open PySem PySem.Spec PyProof.Rows L2
theorem filt_yes {α : Type} {p : α → Bool} {xs : List α} {i : Nat} {x : α} (h : xs[i]? = some x) (c : p x = true) : (xs.take (i + 1)).filter p = (xs.take i).filter p ++ [x] := by
  rw [take_succ' h, List.filter_append, List.filter_cons, if_pos c]; rfl
theorem filt_no {α : Type} {p : α → Bool} {xs : List α} {i : Nat} {x : α} (h : xs[i]? = some x) (c : p x = false) : (xs.take (i + 1)).filter p = (xs.take i).filter p := by
  rw [take_succ' h, List.filter_append, List.filter_cons, if_neg (by simp [c])]; simp
section
variable {P : Program} {w : World} {K : PySem.W.Frag} {mg : Str → Option Value} {base : Heap}
def spPutIn (K : PySem.W.Frag) : Sp := fun vs H Q _ => ∃ (S : List Addr) (v : V) (e : Addr) (t : Tr) (ev : Ev), vs = [v, .ref e] ∧ In S H ∧ Dp K (wo S H) v (trP t) ∧ TrOk t ∧ SqT K (wo S H) e (ev.map scV) ∧ GoodEv ev ∧ t.length ≤ 199 ∧
  ∀ H' p, Same H H' → Dp K (wo S H') p (trP (putIn t ev)) → Q p H'
abbrev s_put_in : Stmt := top 40
abbrev N_put_in : List Str := ["track", "event", "place", "found", "one"]
theorem sc_put_in : FnScope N_put_in ["track", "event"] (C8.fnScope s_put_in) := C8.fnScope_by (by decide +kernel)
theorem c_put_in (T : Fx w K mg) : C8.Cal P w K mg base 3 "put_in" (spPutIn K) [] := by
  refine cal_ T.d_put_in (fun _ _ _ _ _ _ us hl => match us, hl with | [_, _], _ => rfl) sc_put_in (fun vs H Q E h => by obtain ⟨S, v, e, t, ev, rfl, _⟩ := h; rfl) (fun f cdv A outer s H vs Q E hr h => ?_)
  have nd := sc_put_in.nd
  have hu := hu_of hr
  have hu64 := hu64 hr
  refine ⟨_, (pss_cons (ps_if (pt_not (pt_val (C8.pe_c (c_is_event T) hr (by decide) rfl (pa_cons (pv 1) pa_nil)))) (pss_one ps_never) pss_nil) (pss_cons (ps_set (i := 2) nd rfl
      (by first | exact Or.inl rfl | exact Or.inr rfl) (pe_callB (r := rLenSq K) call_len_seq (by rfl) T.f_len PySem.boot_len (pa_cons (pe_lc (own := [("one", 4)])
      (g := gName 4) rfl nd (pi_list (pv 0)) (blkOk_by (own := [("one", 4)]) (N := N_put_in) (sc := C8.fnScope s_put_in) (by decide +kernel)) (fun _ _ _ _ _ =>
      (pg_name (i := 4) nd rfl (by first | exact Or.inl rfl | exact Or.inr rfl))) (fun _ _ _ _ _ => (pts_one (pt_cmpR op_le (pe_ix (r := rIxT K) ix_tup
      (pv 4) pe_int (fun _ _ => rfl)) (pe_ix (r := rIxT K) ix_tup (pv 1) pe_int (fun _ _ => rfl)) (nomark _)))) (fun _ _ _ _ _ => (pv 4))) pa_nil)))
      (pss_cons (ps_set (i := 3) nd rfl (by first | exact Or.inl rfl | exact Or.inr rfl) (pe_op op_cat (pe_op op_cat (pe_slice (r := rSlL K) sl_list
      (pv 0) po_none (po_some (pv 2))) (pe_lst (pa_cons (pv 1) pa_nil))) (pe_slice (r := rSlL K) sl_list (pv 0) (po_some (pv 2)) po_none))) (pss_cons
      (ps_expr (C8.pe_c (c_need_room_events T) hr (by decide) rfl (pa_cons (pv 3) pa_nil))) (pss_one (ps_ret (pv 3))))))), ?_⟩

  obtain ⟨S, v, e, t, ev, rfl, hS, d, ok, he, g, few, q⟩ := h
  obtain ⟨a, xs, rfl, ha, hx⟩ := Dp.lstI d
  have ln := tr_len hx
  refine ⟨_, rfl, e, ev, rfl, same_t wo_sub he, g, fun H1 s1 => ⟨true, rfl, iteF ?_⟩⟩
  have hx1 := da hx (Same.wo s1)
  have ha1 := same_l s1 (same_l wo_sub ha)
  have hS1 := In.same hS s1
  obtain ⟨w0, r0, e0, hr0, k0, k1, k5⟩ := g.tk
  have he1 := same_t s1 (same_t wo_sub he)
  rw [sc_head e0] at he1
  refine ⟨_, rfl, a, rfl, ⟨xs, ha1⟩, fun D hD => ?_⟩
  refine lc_it walk_list (Gro K S H1 D fun i => ((t.take i).filter fun o => decide (tick o ≤ tick ev)).map evP) (Gro.start hS1 hD (by simp)) (fun _ _ _ hh => same_l hh.same ha1) ?_ ?_
  · rintro i x H2 H3 hi ac ⟨rfl, hy⟩
    obtain ⟨e2, ev2, w2, r2, rfl, ht, g2, hd2, hs2, e02, hr2, k02, k12, k52⟩ := ev_in ok.good hx1 hy
    rw [sc_head e02] at hs2
    have hs2' := same_t ac.same (same_t wo_sub hs2)
    refine ⟨rfl, _, rfl, e2, _, _, _, rfl, rfl, hs2', atI_nat (j := 0) rfl, _, rfl, e, _, _, _, rfl, rfl, same_t ac.same he1, atI_nat (j := 0) rfl, _, _, rfl, rfl, _, rfl, ?_⟩
    by_cases c : tick ev2 ≤ tick ev
    · rw [decT c]
      refine iteT ⟨_, rfl, ac.more same_rfl (dp hd2 ac.old) ?_ (by omega)⟩
      simp only [filt_yes ht (p := fun o => decide (tick o ≤ tick ev)) (decT c), List.map_append, List.map_cons, List.map_nil]
    · rw [decF c]
      refine iteF (ac.skip same_rfl ?_)
      simp only [filt_no ht (p := fun o => decide (tick o ≤ tick ev)) (decF c)]
  · intro H2 ac
    have z := ac.stop
    simp only [take_full (show t.length = xs.length from ln.symm)] at z
    obtain ⟨D', zs, ez, hzs, hz⟩ := Dp.lstI z
    cases ez
    have hl : zs.length = plc t (tick ev) := by rw [DpAll.len hz, List.length_map]; rfl
    have s2 := ac.same
    have hx2 := da hx1 (Same.wo s2)
    have ha2 := same_l s2 ha1
    have hS2 := In.same hS1 s2
    refine ⟨D, zs, rfl, .inl (same_l wo_sub hzs), ?_⟩
    rw [hl]
    refine ⟨_, rfl, _, rfl, _, rfl, a, xs, rfl, ha2, fun p hp => ?_⟩
    rw [cut_upto]
    have s3 := Same.upd (o := .lst (xs.take (plc t (tick ev)))) hp
    refine ⟨_, rfl, by rw [sizeLine_eq]; simp, fun p2 hp2 => ?_⟩
    have s4 := Same.upd (o := .lst [.ref e]) hp2
    have lx : xs.length ≤ 199 := by omega
    refine ⟨p, p2, _, _, rfl, rfl, s4 _ _ upd_same, upd_same, sz (by simp; omega), fun p3 hp3 => ?_⟩
    have s5 := Same.upd (o := .lst (xs.take (plc t (tick ev)) ++ [V.ref e])) hp3
    refine ⟨_, rfl, _, rfl, _, rfl, a, xs, rfl, same_l (s3.trans (s4.trans s5)) ha2, fun p4 hp4 => ?_⟩
    rw [cut_from]
    have s6 := Same.upd (o := .lst (xs.drop (plc t (tick ev)))) hp4
    refine ⟨p3, p4, _, _, rfl, rfl, s6 _ _ upd_same, upd_same, sz (by simp; omega), fun p5 hp5 => ?_⟩
    refine ⟨_, rfl, p5, _, rfl, SqL.of upd_same, by simp; omega, ?_⟩
    refine ⟨_, rfl, ?_⟩
    have s7 := s3.trans (s4.trans (s5.trans s6))
    refine q _ _ (s1.trans (s2.trans (s7.trans (Same.upd hp5)))) (lst_dp (In.same hS2 s7) hp5 ?_)
    have ed : Dp K (wo S H) (.ref e) (evP ev) := ev_dp he g.flat
    have big := (s1.trans (s2.trans s7))
    unfold putIn
    rw [List.map_append, List.map_append, List.map_take, List.map_drop]
    have hx3 := da hx (Same.wo big)
    exact DpAll.app (DpAll.app (DpAll.take _ hx3) (.cons (dp ed (Same.wo big)) .nil)) (DpAll.drop _ hx3)
def spBeat : Sp := fun vs H Q _ => ∃ t : Int, vs = [.int t] ∧ (1 ≤ t ∧ t ≤ 960) ∧ Q .non H
abbrev s_need_beat : Stmt := top 46
abbrev N_need_beat : List Str := ["beat"]
theorem sc_need_beat : FnScope N_need_beat ["beat"] (C8.fnScope s_need_beat) := C8.fnScope_by (by decide +kernel)
theorem c_need_beat (T : Fx w K mg) : C8.Cal P w K mg base 1 "need_beat" spBeat [] := by
  refine cal_ T.d_need_beat (fun _ _ _ _ _ _ us hl => match us, hl with | [_], _ => rfl) sc_need_beat (fun vs H Q E h => by obtain ⟨t, rfl, _⟩ := h; rfl) (fun f cdv A outer s H vs Q E hr h => ?_)
  have nd := sc_need_beat.nd
  have hu := hu_of hr
  have hu64 := hu64 hr
  refine ⟨_, (pss_one (ps_if (pt_not (pt_chain op_le op_le pe_int (pv 0) (gK T.g_MOST_BEAT))) (pss_one ps_never) pss_nil)), ?_⟩

  obtain ⟨t, rfl, ⟨h0, h1⟩, q⟩ := h
  refine ⟨_, rfl, _, _, rfl, rfl, _, rfl, ?_⟩
  rw [decide_eq_true h0]
  refine iteT ⟨_, _, rfl, rfl, _, rfl, ?_⟩
  rw [decide_eq_true h1]
  exact iteF q
def spPace : Sp := fun vs H Q _ => ∃ t : Int, vs = [.int t] ∧ (1 ≤ t ∧ t ≤ 16777215) ∧ Q .non H
abbrev s_need_pace : Stmt := top 47
abbrev N_need_pace : List Str := ["pace"]
theorem sc_need_pace : FnScope N_need_pace ["pace"] (C8.fnScope s_need_pace) := C8.fnScope_by (by decide +kernel)
theorem c_need_pace (T : Fx w K mg) : C8.Cal P w K mg base 1 "need_pace" spPace [] := by
  refine cal_ T.d_need_pace (fun _ _ _ _ _ _ us hl => match us, hl with | [_], _ => rfl) sc_need_pace (fun vs H Q E h => by obtain ⟨t, rfl, _⟩ := h; rfl) (fun f cdv A outer s H vs Q E hr h => ?_)
  have nd := sc_need_pace.nd
  have hu := hu_of hr
  have hu64 := hu64 hr
  refine ⟨_, (pss_one (ps_if (pt_not (pt_chain op_le op_le pe_int (pv 0) (gK T.g_MOST_PACE))) (pss_one ps_never) pss_nil)), ?_⟩

  obtain ⟨t, rfl, ⟨h0, h1⟩, q⟩ := h
  refine ⟨_, rfl, _, _, rfl, rfl, _, rfl, ?_⟩
  rw [decide_eq_true h0]
  refine iteT ⟨_, _, rfl, rfl, _, rfl, ?_⟩
  rw [decide_eq_true h1]
  exact iteF q
def spIsOf (K : PySem.W.Frag) : Sp := fun vs H Q _ => ∃ (e : Addr) (ev : Ev) (c : Int), vs = [.ref e, .int c] ∧ SqT K H e (ev.map scV) ∧ GoodEv ev ∧ Q (.bl (isOf c ev)) H
abbrev s_is_of : Stmt := top 69
abbrev N_is_of : List Str := ["event", "channel"]
theorem sc_is_of : FnScope N_is_of ["event", "channel"] (C8.fnScope s_is_of) := C8.fnScope_by (by decide +kernel)
theorem c_is_of (T : Fx w K mg) : C8.Cal P w K mg base 1 "is_of" (spIsOf K) [] := by
  refine cal_ T.d_is_of (fun _ _ _ _ _ _ us hl => match us, hl with | [_, _], _ => rfl) sc_is_of (fun vs H Q E h => by obtain ⟨e, ev, c, rfl, _⟩ := h; rfl) (fun f cdv A outer s H vs Q E hr h => ?_)
  have nd := sc_is_of.nd
  have hu := hu_of hr
  have hu64 := hu64 hr
  refine ⟨_, (pss_one (ps_ret (pe_and (pe_cmpR op_ne (pe_ix (r := rIxT K) ix_tup (pv 0) pe_int (fun _ _ => rfl)) pe_str (nomark _)) (pe_one (pe_cmpR op_eq (pe_ix (r := rIxT K) ix_tup
      (pv 0) pe_int (fun _ _ => rfl)) (pv 1) (nomark _)))))), ?_⟩

  obtain ⟨e, ev, c, rfl, he, g, q⟩ := h
  cases g with
  | mark t z h1 h2 h3 =>
    refine ⟨_, rfl, e, _, _, _, rfl, rfl, he, atI_nat (j := 1) rfl, rfl, false, rfl, iteF ?_⟩
    exact q
  | voice t c2 a h1 h2 h3 =>
    refine ⟨_, rfl, e, _, _, _, rfl, rfl, he, atI_nat (j := 1) rfl, rfl, true, rfl, iteT ?_⟩
    refine ⟨_, rfl, e, _, _, _, rfl, rfl, he, atI_nat (j := 2) rfl, _, rfl, rfl, ?_⟩
    have e1 : decide (V.int c2 = V.int c) = isOf c [.int t, .str "voice", .int c2, .int a] := by
      rw [dec_int]; rfl
    show Q (.bl (decide (V.int c2 = V.int c))) H
    rw [e1]; exact q
  | three w0 t c2 a b h0 h1 h2 h3 h4 h5 =>
    have nm : ¬ w0 = "mark" := by rcases h0 with rfl | rfl | rfl <;> decide +kernel
    refine ⟨_, rfl, e, _, _, _, rfl, rfl, he, atI_nat (j := 1) rfl, rfl, true, ?_, iteT ?_⟩
    · show V.bl (!decide (V.str w0 = V.str "mark")) = V.bl true
      rw [decF (by simpa using nm)]; rfl
    refine ⟨_, rfl, e, _, _, _, rfl, rfl, he, atI_nat (j := 2) rfl, _, rfl, rfl, ?_⟩
    have e1 : decide (V.int c2 = V.int c) = isOf c [.int t, .str w0, .int c2, .int a, .int b] := by
      rw [dec_int]
      show (c2 == c) = (!decide (w0 = "mark") && decide (c2 = c))
      rw [decF nm, Bool.eq_iff_iff]; simp
    show Q (.bl (decide (V.int c2 = V.int c))) H
    rw [e1]; exact q
def spApart (K : PySem.W.Frag) : Sp := fun vs H Q _ => ∃ (S : List Addr) (v : V) (t : Tr) (c : Int), vs = [v, .int c] ∧ In S H ∧ Dp K (wo S H) v (trP t) ∧ TrOk t ∧
  ∀ H' p m r, Same H H' → H' p = some (.tup [m, r]) → Dp K (wo S H') m (trP (mineT t c)) → Dp K (wo S H') r (trP (restT t c)) → Q (.ref p) H'
abbrev s_apart : Stmt := top 70
abbrev N_apart : List Str := ["track", "channel", "mine", "event"]
theorem sc_apart : FnScope N_apart ["track", "channel"] (C8.fnScope s_apart) := C8.fnScope_by (by decide +kernel)
theorem c_apart (T : Fx w K mg) : C8.Cal P w K mg base 2 "apart" (spApart K) [] := by
  refine cal_ T.d_apart (fun _ _ _ _ _ _ us hl => match us, hl with | [_, _], _ => rfl) sc_apart (fun vs H Q E h => by obtain ⟨S, v, t, c, rfl, _⟩ := h; rfl) (fun f cdv A outer s H vs Q E hr h => ?_)
  have nd := sc_apart.nd
  have hu := hu_of hr
  have hu64 := hu64 hr
  refine ⟨_, (pss_cons (ps_setLc (i := 2) (own := [("event", 3)]) (g := gName 3) rfl nd rfl rfl (sw_true rfl rfl rfl (by decide +kernel)) (pi_list (pv 0)) (blkOk_by
      (own := [("event", 3)]) (N := N_apart) (sc := C8.fnScope s_apart) (by decide +kernel)) (fun _ _ _ _ _ => (pg_name (i := 3) nd rfl (by first | exact Or.inl rfl | exact Or.inr rfl)))
      (fun _ _ _ _ _ => (pts_one (pt_val (C8.pe_c (c_is_of T) hr (by decide) rfl (pa_cons (pv 3) (pa_cons (pv 1) pa_nil)))))) (fun _ _ _ _ _ => (pv 3)))
      (pss_one (ps_ret (pe_tup (pa_cons (pv 2) (pa_cons (pe_lc (own := [("event", 3)]) (g := gName 3) rfl nd (pi_list (pv 0)) (blkOk_by (own := [("event", 3)])
      (N := N_apart) (sc := C8.fnScope s_apart) (by decide +kernel)) (fun _ _ _ _ _ => (pg_name (i := 3) nd rfl (by first | exact Or.inl rfl | exact Or.inr rfl)))
      (fun _ _ _ _ _ => (pts_one (pt_not (pt_val (C8.pe_c (c_is_of T) hr (by decide) rfl (pa_cons (pv 3) (pa_cons (pv 1) pa_nil))))))) (fun _ _ _ _ _ =>
      (pv 3))) pa_nil)))))), ?_⟩

  obtain ⟨S, v, t, c, rfl, hS, d, ok, q⟩ := h
  obtain ⟨a, xs, rfl, ha, hx⟩ := Dp.lstI d
  have ln := tr_len hx
  have few := ok.few
  have ha' := same_l wo_sub ha
  refine ⟨_, rfl, a, rfl, ⟨xs, ha'⟩, fun D hD => ?_⟩
  refine lc_it walk_list (Gro K S H D fun i => ((t.take i).filter (isOf c)).map evP) (Gro.start hS hD (by simp)) (fun _ _ _ hh => same_l hh.same ha') ?_ ?_
  · rintro i x H2 H3 hi ac ⟨rfl, hy⟩
    obtain ⟨e2, ev2, w2, r2, rfl, ht, g2, hd2, hs2, e02, hr2, k02, k12, k52⟩ := ev_in ok.good hx hy
    have hs2' := same_t ac.same (same_t wo_sub hs2)
    refine ⟨rfl, _, rfl, _, rfl, e2, ev2, c, rfl, hs2', g2, _, rfl, ?_⟩
    by_cases cc : isOf c ev2 = true
    · rw [cc]
      refine iteT ⟨_, rfl, ac.more same_rfl (dp hd2 ac.old) ?_ (by omega)⟩
      simp only [filt_yes ht cc, List.map_append, List.map_cons, List.map_nil]
    · rw [Bool.eq_false_iff.mpr cc]
      refine iteF (ac.skip same_rfl ?_)
      simp only [filt_no ht (Bool.eq_false_iff.mpr cc)]
  intro H1 ac1
  have z1 := ac1.stop
  simp only [take_full (show t.length = xs.length from ln.symm)] at z1
  have s1 := ac1.same
  have hx1 := da hx (Same.wo s1)
  have hS1 := In.same hS s1
  have ha1 := same_l s1 ha'
  refine ⟨_, rfl, ?_⟩
  refine ⟨_, rfl, a, rfl, ⟨xs, ha1⟩, fun D2 hD2 => ?_⟩
  refine lc_it walk_list (Gro K S H1 D2 fun i => ((t.take i).filter fun e => !isOf c e).map evP) (Gro.start hS1 hD2 (by simp)) (fun _ _ _ hh => same_l hh.same ha1) ?_ ?_
  · rintro i x H2 H3 hi ac ⟨rfl, hy⟩
    obtain ⟨e2, ev2, w2, r2, rfl, ht, g2, hd2, hs2, e02, hr2, k02, k12, k52⟩ := ev_in ok.good hx1 hy
    have hs2' := same_t ac.same (same_t wo_sub hs2)
    refine ⟨rfl, _, rfl, _, rfl, e2, ev2, c, rfl, hs2', g2, _, rfl, ?_⟩
    by_cases cc : isOf c ev2 = true
    · rw [cc]
      refine iteF (ac.skip same_rfl ?_)
      simp only [filt_no ht (p := fun e => !isOf c e) (by simp [cc])]
    · rw [Bool.eq_false_iff.mpr cc]
      refine iteT ⟨_, rfl, ac.more same_rfl (dp hd2 ac.old) ?_ (by omega)⟩
      simp only [filt_yes ht (p := fun e => !isOf c e) (by simp [Bool.eq_false_iff.mpr cc]), List.map_append, List.map_cons, List.map_nil]
  intro H2 ac2
  have z2 := ac2.stop
  simp only [take_full (show t.length = xs.length from ln.symm)] at z2
  refine ⟨by show 2 ≤ sizeLine; decide, fun p hp => ?_⟩
  have s3 := Same.upd (o := .tup [.ref D, .ref D2]) hp
  exact q _ p _ _ (s1.trans (ac2.same.trans s3)) upd_same (dp z1 (Same.wo (ac2.same.trans s3))) (dp z2 (Same.wo s3))
def spRoomD : Sp := fun vs H Q _ => ∃ (b : Addr) (kvs : List (Key × V)), vs = [.ref b] ∧ H b = some (.dK kvs) ∧ kvs.length ≤ 5 ∧ Q .non H
abbrev s_need_room_deeds : Stmt := top 78
abbrev N_need_room_deeds : List Str := ["book"]
theorem sc_need_room_deeds : FnScope N_need_room_deeds ["book"] (C8.fnScope s_need_room_deeds) := C8.fnScope_by (by decide +kernel)
theorem c_need_room_deeds (T : Fx w K mg) : C8.Cal P w K mg base 1 "need_room_deeds" spRoomD [] := by
  refine cal_ T.d_need_room_deeds (fun _ _ _ _ _ _ us hl => match us, hl with | [_], _ => rfl) sc_need_room_deeds (fun vs H Q E h => by obtain ⟨b, kvs, rfl, _⟩ := h; rfl) (fun f cdv A outer s H vs Q E hr h => ?_)
  have nd := sc_need_room_deeds.nd
  have hu := hu_of hr
  have hu64 := hu64 hr
  refine ⟨_, (pss_one (ps_if (pt_cmpR op_ge (pe_callB call_lenD (by rfl) T.f_len PySem.boot_len (pa_cons (pv 0) pa_nil)) (gK T.g_MOST_TAPES) (nomark _)) (pss_one ps_never) pss_nil)), ?_⟩

  obtain ⟨b, kvs, rfl, hb, hl, q⟩ := h
  refine ⟨_, rfl, b, kvs, rfl, hb, _, _, rfl, rfl, _, rfl, ?_⟩
  rw [decF (by omega)]
  exact iteF q
end
end K59
set_option maxHeartbeats 4000000
namespace K59
open PySem PySem.Spec PyProof.Rows L2
section
variable {P : Program} {w : World} {K : PySem.W.Frag} {mg : Str → Option Value} {base : Heap}
/-! ### Map -/
def spMapInit (K : PySem.W.Frag) : Sp := fun vs H Q _ => ∃ (H0 : Hp) (x dx : Addr) (b : Int) (v : V) (ps : List (Int × Int)), vs = [.ref x, .int b, v] ∧ Same H0 H ∧ H0 x = none ∧ H x = some (.ins (cA K "Map") dx []) ∧ PcsIn K H v ps ∧ PsOk b ps ∧
  ∀ H' d, Same H0 H' → H0 d = none → d ≠ x → MapIs K H' x d b ps → Q .non H'
abbrev s_Map_init : Stmt := inClass (top 48) 0
abbrev N_Map_init : List Str := ["self", "beat", "paces", "tick", "pace"]
theorem sc_Map_init : FnScope N_Map_init ["self", "beat", "paces"] (C8.fnScope s_Map_init) := C8.fnScope_by (by decide +kernel)
theorem k_Map (T : Fx w K mg) : C8.Mak P w K mg base 2 "Map" (cA K "Map") (spMapInit K) [] := by
  obtain ⟨f0, fd0, t1, FD, M⟩ := T.i_Map
  obtain ⟨ds, vd, bd⟩ := FD.binds1 (ps := ["self", "beat", "paces"]) 3 1 (by simp) rfl (fun T kV doc pm an cdv ct us its h1 h2 => match us, its, h1, h2 with | [_, _, _], [_], _, _ => ⟨_, rfl, rfl⟩)
  cases vd
  refine mak_ T.mg_Map FD M bd sc_Map_init (fun vs H Q E h => by obtain ⟨H0, x, dx, b, v, ps, rfl, _⟩ := h; rfl) (fun f cdv A outer s H vs Q E hr h => ?_)
  have nd := sc_Map_init.nd
  have hu := hu_of hr
  have hu64 := hu64 hr
  refine ⟨_, (pss_cons (ps_expr (C8.pe_c (c_need_beat T) hr (by decide) rfl (pa_cons (pv 1) pa_nil))) (pss_cons (ps_for PassesOwn.never rfl (pi_or (pi_list (pv 2))
      (pi_tup (pv 2))) (pg_tup rfl (pgs_cons (pg_name (i := 3) nd rfl (by first | exact Or.inl rfl | exact Or.inr rfl)) (pgs_cons (pg_name (i := 4) nd rfl
      (by first | exact Or.inl rfl | exact Or.inr rfl)) pgs_nil))) (pss_cons (ps_expr (C8.pe_c (c_need_tick T) hr (by decide) rfl (pa_cons (pv 3) pa_nil)))
      (pss_one (ps_expr (C8.pe_c (c_need_pace T) hr (by decide) rfl (pa_cons (pv 4) pa_nil)))))) (pss_cons (ps_fld (pv 0) (pv 1) rfl) (pss_cons (ps_fld
      (pv 0) (pe_dc (own := [("tick", 3), ("pace", 4)]) (g := gTup K 2 (gCons (gName 3) (gCons (gName 4) gNil))) (tt := tYes) rfl nd (pi_or (pi_list
      (pv 2)) (pi_tup (pv 2))) (blkOk_by (own := [("tick", 3), ("pace", 4)]) (N := N_Map_init) (sc := C8.fnScope s_Map_init) (by decide +kernel)) (fun _ _ _ _ _ =>
      (pg_tup rfl (pgs_cons (pg_name (i := 3) nd rfl (by first | exact Or.inl rfl | exact Or.inr rfl)) (pgs_cons (pg_name (i := 4) nd rfl (by first | exact Or.inl rfl | exact Or.inr rfl)) pgs_nil))))
      (fun _ _ _ _ _ => pts_nil) (fun _ _ _ _ _ => (pv 3)) (fun _ _ _ _ _ => (pv 4))) rfl) (pss_one (ps_if (pt_cmpR op_gt (pe_callB call_lenD (by rfl) T.f_len PySem.boot_len
      (pa_cons (pe_fld (pv 0) rfl) pa_nil)) (gK T.g_MOST_PACES) (nomark _)) (pss_one ps_never) pss_nil)))))), ?_⟩

  obtain ⟨H0, x, dx, b, v, ps, rfl, s0, n0, hx, hp, ok, q⟩ := h
  obtain ⟨xs, sv, lx, hxs⟩ := hp.seq
  obtain ⟨J, wk, hJ⟩ := seq_it sv
  have few := ok.few
  refine ⟨_, rfl, b, rfl, ok.beat, ?_⟩
  refine hJ 2 _ H _ same_rfl rfl ?_
  refine for_it wk (fun i σ H' => (∃ x1 x2, σ = [some (.ref x), some (.int b), some v, x1, x2]) ∧ H' = H) ⟨⟨_, _, rfl⟩, rfl⟩ (fun _ _ _ _ hh => by rw [hh.2]; exact same_rfl) ?_ ?_
  · rintro i y σ H1 H2 hi ⟨⟨x1, x2, rfl⟩, rfl⟩ ⟨rfl, hy⟩
    obtain ⟨a, p, rfl, hp1, hp2⟩ := hxs i y hy
    obtain ⟨pk1, pk2⟩ := ok.pace p (List.mem_of_getElem? hp1)
    refine ⟨a, _, rfl, hp2, rfl, _, _, rfl, _, _, rfl, rfl, ?_⟩
    exact ⟨_, rfl, _, rfl, pk1, _, rfl, _, rfl, pk2, ⟨_, _, rfl⟩, rfl⟩
  rintro σ H1 ⟨⟨x1, x2, rfl⟩, rfl⟩
  refine ⟨_, rfl, _, rfl, x, _, dx, _, rfl, hx, T.c_Map, T.n_Map_ticks, by simp, ?_⟩
  have kp : ∀ H2, Same (upd H1 x (.ins (cA K "Map") dx (putF "ticks" (.int b) []))) H2 → Same H0 H2 := fun H2 s a o e => by
    refine s a o ?_
    rw [upd_ne (ne_of_none e n0)]
    exact s0 a o e
  have xs2 : ∀ (i : Nat) y, xs[i]? = some y → ∃ a p, y = .ref a ∧ ps[i]? = some p ∧ ∀ H2, Same (upd H1 x (.ins (cA K "Map") dx (putF "ticks" (.int b) []))) H2 → SqT K H2 a [.int p.1, .int p.2] := fun i y hy => by
    obtain ⟨a, p, e, hp1, hp2⟩ := hxs i y hy
    refine ⟨a, p, e, hp1, fun H2 s => ?_⟩
    rcases hp2 with (h | ⟨o, h⟩) | h
    · exact .inl (.inl (s _ _ (by rw [upd_ne (fun z => by rw [z, hx] at h; cases h)]; exact h)))
    · exact .inl (.inr ⟨o, s _ _ (by rw [upd_ne (fun z => by rw [z, hx] at h; cases h)]; exact h)⟩)
    · exact .inr h
  have sv2 : SqV K (upd H1 x (.ins (cA K "Map") dx (putF "ticks" (.int b) []))) v xs := by
    obtain ⟨a, rfl, h⟩ := sv
    refine ⟨a, rfl, h.imp (fun h => ?_) (fun h => ?_)⟩
    · rcases h with (h | ⟨o, h⟩) | h
      · exact .inl (.inl (by rw [upd_ne (fun z => by rw [z, hx] at h; cases h)]; exact h))
      · exact .inl (.inr ⟨o, by rw [upd_ne (fun z => by rw [z, hx] at h; cases h)]; exact h⟩)
      · exact .inr h
    · rcases h with (h | ⟨o, h⟩) | h
      · exact .inl (.inl (by rw [upd_ne (fun z => by rw [z, hx] at h; cases h)]; exact h))
      · exact .inl (.inr ⟨o, by rw [upd_ne (fun z => by rw [z, hx] at h; cases h)]; exact h⟩)
      · exact .inr h
  generalize eH : upd H1 x (.ins (cA K "Map") dx (putF "ticks" (.int b) [])) = Hm at *
  have hxm : Hm x = some (.ins (cA K "Map") dx (putF "ticks" (.int b) [])) := by rw [← eH]; exact upd_same
  obtain ⟨J2, wk2, hJ2⟩ := seq_it sv2
  refine hJ2 2 _ Hm _ same_rfl rfl fun D hD => ?_
  refine dc_it wk2 (fun i H' => Same Hm H' ∧ H' D = some (.dK ((ps.take i).map kvI))) ⟨Same.upd hD, upd_same⟩ (fun _ _ _ hh => hh.1) ?_ ?_
  · rintro i y H2 H3 hi ⟨s2, h2⟩ ⟨rfl, hy⟩
    obtain ⟨a, p, rfl, hp1, hp2⟩ := xs2 i y hy
    refine ⟨a, _, rfl, hp2 _ s2, rfl, _, _, rfl, _, _, rfl, rfl, rfl, ?_⟩
    refine ⟨_, rfl, _, rfl, _, Sum.inl p.1, rfl, h2, szl (by simp; omega), over s2 hD, ?_⟩
    rw [upd_same, put_kvI, take_succ' hp1, putA_new]
    have hn := ok.keys
    rw [← List.take_append_drop (i + 1) ps, take_succ' hp1, List.map_append, List.map_append] at hn
    have hn2 := (List.nodup_append.mp hn).1
    intro z
    exact (List.nodup_append.mp hn2).2.2 p.1 z p.1 (by simp) rfl
  rintro H2 ⟨s2, h2⟩
  rw [take_full lx.symm] at h2
  refine ⟨_, rfl, x, _, dx, _, rfl, s2 _ _ hxm, T.c_Map, T.n_Map_known, by simp [putF], ?_⟩
  have Dx : D ≠ x := fun z => by rw [z, hxm] at hD; cases hD
  refine ⟨_, rfl, x, _, dx, _, _, rfl, upd_same, T.c_Map, T.n_Map_known, rfl, ?_⟩
  refine ⟨D, _, rfl, by rw [upd_ne Dx]; exact h2, _, _, rfl, rfl, _, rfl, ?_⟩
  rw [decF (by simp; omega)]
  refine iteF ?_
  have s3 : Same H0 H2 := kp H2 s2
  refine q _ D (over s3 n0) ?_ Dx ⟨⟨dx, by rw [upd_same]; rfl⟩, by rw [upd_ne Dx]; exact h2⟩
  exact wasNone (kp Hm same_rfl) hD
def spMapPut (K : PySem.W.Frag) : Sp := fun vs H Q _ => ∃ (x d : Addr) (b t p : Int) (ps : List (Int × Int)), vs = [.ref x, .int t, .int p] ∧ MapIs K H x d b ps ∧ (0 ≤ t ∧ t ≤ 999999) ∧ (1 ≤ p ∧ p ≤ 16777215) ∧ (t ∈ ps.map (·.1) ∨ ps.length ≤ 19) ∧ ps.length ≤ 20 ∧
  Q .non (upd H d (.dK ((putA ps t p).map kvI)))
abbrev s_Map_put : Stmt := inClass (top 48) 4
abbrev N_Map_put : List Str := ["self", "tick", "pace"]
theorem sc_Map_put : FnScope N_Map_put ["self", "tick", "pace"] (C8.fnScope s_Map_put) := C8.fnScope_by (by decide +kernel)
theorem m_Map_put (T : Fx w K mg) : C8.Met P w K mg base 2 (cA K "Map") "put" (spMapPut K) [] := by
  refine met_ T.c_Map T.m_Map_put (fun _ _ _ _ _ _ us hl => match us, hl with | [_, _, _], _ => rfl) sc_Map_put (fun vs H Q E h => by obtain ⟨x, d, b, t, p, ps, rfl, _⟩ := h; rfl) (fun f cdv A outer s H vs Q E hr h => ?_)
  have nd := sc_Map_put.nd
  have hu := hu_of hr
  have hu64 := hu64 hr
  refine ⟨_, (pss_cons (ps_expr (C8.pe_c (c_need_tick T) hr (by decide) rfl (pa_cons (pv 1) pa_nil))) (pss_cons (ps_expr (C8.pe_c (c_need_pace T) hr (by decide) rfl
      (pa_cons (pv 2) pa_nil))) (pss_cons (ps_if (PW.pt (pw_and (pt_cmp (pc_dnotin hu (pv 1) (pe_fld (pv 0) rfl))) (pw_and1 (pt_cmpR op_ge (pe_callB call_lenD
      (by rfl) T.f_len PySem.boot_len (pa_cons (pe_fld (pv 0) rfl) pa_nil)) (gK T.g_MOST_PACES) (nomark _))))) (pss_one ps_never) pss_nil) (pss_one
      (ps_dput hu (pe_fld (pv 0) rfl) (pv 1) (pv 2) rfl))))), ?_⟩

  obtain ⟨x, d, b, t, p, ps, rfl, ⟨⟨dx, hx⟩, hd⟩, ht, hp, hr', hl, q⟩ := h
  refine ⟨_, rfl, t, rfl, ht, _, rfl, p, rfl, hp, ?_⟩
  have fin : Q .non (upd H d (.dK (putK (ps.map kvI) (Sum.inl t) (.int p)))) := by rw [put_kvI]; exact q
  have go : (sDPut (tFld K (tVar 0) "known") (tVar 1) (tVar 2)) { nx := fun _ H' => Q .non H', rt := Q } (start N_Map_put [.ref x, .int t, .int p]) H :=
    ⟨_, rfl, _, rfl, x, _, dx, _, _, rfl, hx, T.c_Map, T.n_Map_known, rfl, _, rfl, d, _, rfl, .inl ⟨_, Sum.inl t, hd, rfl, szl (by simp; omega), rfl⟩, fin⟩
  refine ⟨_, rfl, _, rfl, x, _, dx, _, _, rfl, hx, T.c_Map, T.n_Map_known, rfl, d, _, rfl, .inl ⟨_, Sum.inl t, .inl hd, rfl, rfl⟩, _, rfl, ?_⟩
  rw [val_kvI]
  rcases Classical.em (t ∈ ps.map (·.1)) with c | c
  · cases e : atA ps t with
    | none => exact absurd c (atA_none.mp e)
    | some z => exact iteF (iteF go)
  · rw [atA_none.mpr c]
    refine iteT ⟨_, rfl, x, _, dx, _, _, rfl, hx, T.c_Map, T.n_Map_known, rfl, d, _, rfl, hd, _, _, rfl, rfl, _, rfl, ?_⟩
    rw [decF (by simp; rcases hr' with z | z; exact absurd z c; omega)]
    exact iteF go
def spMapBeat (K : PySem.W.Frag) : Sp := fun vs H Q _ => ∃ (x d : Addr) (b : Int) (ps : List (Int × Int)), vs = [.ref x] ∧ MapIs K H x d b ps ∧ Q (.int b) H
abbrev s_Map_beat : Stmt := inClass (top 48) 6
abbrev N_Map_beat : List Str := ["self"]
theorem sc_Map_beat : FnScope N_Map_beat ["self"] (C8.fnScope s_Map_beat) := C8.fnScope_by (by decide +kernel)
theorem m_Map_beat (T : Fx w K mg) : C8.Met P w K mg base 1 (cA K "Map") "beat" (spMapBeat K) [] := by
  refine met_ T.c_Map T.m_Map_beat (fun _ _ _ _ _ _ us hl => match us, hl with | [_], _ => rfl) sc_Map_beat (fun vs H Q E h => by obtain ⟨x, d, b, ps, rfl, _⟩ := h; rfl) (fun f cdv A outer s H vs Q E hr h => ?_)
  have nd := sc_Map_beat.nd
  have hu := hu_of hr
  have hu64 := hu64 hr
  refine ⟨_, (pss_one (ps_ret (pe_fld (pv 0) rfl))), ?_⟩

  obtain ⟨x, d, b, ps, rfl, ⟨⟨dx, hx⟩, hd⟩, q⟩ := h
  exact ⟨_, rfl, x, _, dx, _, _, rfl, hx, T.c_Map, T.n_Map_ticks, rfl, q⟩
def spMapPaces (K : PySem.W.Frag) : Sp := fun vs H Q _ => ∃ (S : List Addr) (x d : Addr) (b : Int) (ps : List (Int × Int)), vs = [.ref x] ∧ In S H ∧ MapIs K H x d b ps ∧
  ∀ H' p ys, Same H H' → ys.Perm ps → srtd ys → H p = none → Dp K (wo S H') (.ref p) (.list (ys.map prP)) → Q (.ref p) H'
theorem pr_all {K : PySem.W.Frag} {G : Hp} : ∀ {ps : List (Addr × Int × Int)}, (∀ z ∈ ps, G z.1 = some (.tup [.int z.2.1, .int z.2.2])) → DpAll K G (ps.map fun z => V.ref z.1) ((ps.map (·.2)).map prP)
  | [], _ => .nil
  | z :: ps, h => .cons (.tup (SqT.of (h z List.mem_cons_self)) (.cons (.int _) (.cons (.int _) .nil))) (pr_all fun y hy => h y (List.mem_cons_of_mem _ hy))
abbrev s_Map_paces : Stmt := inClass (top 48) 7
abbrev N_Map_paces : List Str := ["self"]
theorem sc_Map_paces : FnScope N_Map_paces ["self"] (C8.fnScope s_Map_paces) := C8.fnScope_by (by decide +kernel)
theorem m_Map_paces (T : Fx w K mg) : C8.Met P w K mg base 1 (cA K "Map") "paces" (spMapPaces K) [] := by
  refine met_ T.c_Map T.m_Map_paces (fun _ _ _ _ _ _ us hl => match us, hl with | [_], _ => rfl) sc_Map_paces (fun vs H Q E h => by obtain ⟨S, x, d, b, ps, rfl, _⟩ := h; rfl) (fun f cdv A outer s H vs Q E hr h => ?_)
  have nd := sc_Map_paces.nd
  have hu := hu_of hr
  have hu64 := hu64 hr
  refine ⟨_, (pss_one (ps_ret (pe_callB (cr_sortedItI rfl) (by rfl) T.f_sorted (by decide +kernel) (pa_cons (pe_bm0 PySem.F.plainAttrs_dict PySem.F.slot_dict_items PySem.F.type_dict_items mt_itemsK
      (pe_fld (pv 0) rfl)) pa_nil)))), ?_⟩

  obtain ⟨S, x, d, b, ps, rfl, hS, ⟨⟨dx, hx⟩, hd⟩, q⟩ := h
  refine ⟨_, rfl, x, _, dx, _, _, rfl, hx, T.c_Map, T.n_Map_known, rfl, .inr (.inr (.inl ⟨rfl, .inl ⟨_, hd⟩⟩)), ?_⟩
  refine ⟨d, _, rfl, rfl, hd, fun p hp => ?_⟩
  have s1 := Same.upd (o := DX.itemsO p d) hp
  refine ⟨p, d, ps, rfl, upd_same, s1 _ _ hd, fun H' l zs s2 pz sz' hl hl2 hz => ?_⟩
  refine q H' l _ (s1.trans s2) pz sz' (wasNone s1 hl) (.lst (SqL.of ?_) (pr_all fun z hz' => ?_))
  · rw [wo_out (hS.out (wasNone s1 hl))]; exact hl2
  · rw [wo_out (hS.out (wasNone s1 (hz z hz').1))]; exact (hz z hz').2.2
def spMapTwin (K : PySem.W.Frag) : Sp := fun vs H Q _ => ∃ (x d : Addr) (b : Int) (ps : List (Int × Int)), vs = [.ref x] ∧ MapIs K H x d b ps ∧ PsOk b ps ∧
  ∀ H' x' d' ys, Same H H' → H x' = none → H d' = none → d' ≠ x' → ys.Perm ps → MapIs K H' x' d' b ys → Q (.ref x') H'
abbrev s_Map_twin : Stmt := inClass (top 48) 13
abbrev N_Map_twin : List Str := ["self"]
theorem sc_Map_twin : FnScope N_Map_twin ["self"] (C8.fnScope s_Map_twin) := C8.fnScope_by (by decide +kernel)
theorem m_Map_twin (T : Fx w K mg) : C8.Met P w K mg base 4 (cA K "Map") "twin" (spMapTwin K) [] := by
  refine met_ T.c_Map T.m_Map_twin (fun _ _ _ _ _ _ us hl => match us, hl with | [_], _ => rfl) sc_Map_twin (fun vs H Q E h => by obtain ⟨x, d, b, ps, rfl, _⟩ := h; rfl) (fun f cdv A outer s H vs Q E hr h => ?_)
  have nd := sc_Map_twin.nd
  have hu := hu_of hr
  have hu64 := hu64 hr
  refine ⟨_, (pss_one (ps_ret (C8.pe_mk (k_Map T) hr (by decide) rfl (pa_cons (pe_fld (pv 0) rfl) (pa_cons (C8.pe_mt0 (m_Map_paces T) hr (by decide) (pv 0)) pa_nil))))), ?_⟩

  obtain ⟨x, d, b, ps, rfl, m, ok, q⟩ := h
  obtain ⟨⟨dx, hx⟩, hd⟩ := id m
  refine ⟨_, rfl, x, _, dx, _, _, rfl, hx, T.c_Map, T.n_Map_ticks, rfl, ?_⟩
  refine ⟨_, rfl, x, dx, _, rfl, hx, rfl, [], x, d, b, ps, rfl, fun a z => by simp at z, m, fun H1 p ys s1 pm so np hy => ?_⟩
  intro x' dx' nx ndx hne
  have s2 : Same H1 (upd (upd H1 dx' (.own x')) x' (.ins (cA K "Map") dx' [])) := over (Same.upd ndx) nx
  have hy' : Dp K H1 (.ref p) (.list (ys.map prP)) := dp hy wo_sub
  refine ⟨H1, x', dx', b, .ref p, ys, rfl, s2, nx, upd_same, .inl (dp hy' s2), ok.perm pm, fun H' d' s3 nd' hn m' => ?_⟩
  exact ⟨rfl, q H' x' d' ys (s1.trans s3) (wasNone s1 nx) (wasNone s1 nd') hn pm m'⟩
end
end K59
set_option maxHeartbeats 4000000
namespace K59
open PySem PySem.Spec PyProof.Rows L2
section
variable {P : Program} {w : World} {K : PySem.W.Frag} {mg : Str → Option Value} {base : Heap}
/-! ### Tape -/
theorem DpAll.end {K : PySem.W.Frag} {G : Hp} {xs : List V} {ds : List PyData} (h : DpAll K G xs ds) : xs.length = ds.length := DpAll.len h
theorem keep_in {K : PySem.W.Frag} {H : Hp} {x : Addr} {C : Addr} {dx : Addr} {fs fs' : List (Str × V)} (hx : H x = some (.ins C dx fs)) {a : Addr} {ys : List V} : (SqT K H a ys → SqT K (upd H x (.ins C dx fs')) a ys) ∧ (SqL K H a ys → SqL K (upd H x (.ins C dx fs')) a ys) := by
  constructor
  · intro h
    rcases h with (h | ⟨o, h⟩) | h
    · exact .inl (.inl (by rw [upd_ne (fun z => by rw [z, hx] at h; cases h)]; exact h))
    · exact .inl (.inr ⟨o, by rw [upd_ne (fun z => by rw [z, hx] at h; cases h)]; exact h⟩)
    · exact .inr h
  · intro h
    rcases h with (h | ⟨o, h⟩) | h
    · exact .inl (.inl (by rw [upd_ne (fun z => by rw [z, hx] at h; cases h)]; exact h))
    · exact .inl (.inr ⟨o, by rw [upd_ne (fun z => by rw [z, hx] at h; cases h)]; exact h⟩)
    · exact .inr h
def spTapeInit (K : PySem.W.Frag) : Sp := fun vs H Q _ => ∃ (H0 : Hp) (S : List Addr) (x dx : Addr) (v u : V) (t : Tp), vs = [.ref x, .int t.beat, v, u] ∧ Same H0 H ∧ In S H0 ∧ H0 x = none ∧ H x = some (.ins (cA K "Tape") dx []) ∧ PcsIn K (wo S H0) u t.paces ∧ TksIn K (wo S H0) v t.tracks ∧ TpOk t ∧
  ∀ H', Same H0 H' → TapeIs K (wo S H') (.ref x) t → Q .non H'
abbrev s_Tape_init : Stmt := inClass (top 64) 0
abbrev N_Tape_init : List Str := ["self", "beat", "tracks", "paces", "track"]
theorem sc_Tape_init : FnScope N_Tape_init ["self", "beat", "tracks", "paces"] (C8.fnScope s_Tape_init) := C8.fnScope_by (by decide +kernel)
theorem ok_Tape (T : Fx w K mg) {f : Addr} {fd : FuncData} {dvs : List V} {kws : List (Str × V)} (FD : FunD K "__init__" "Tape.__init__" (C8.fnArgs s_Tape_init) (C8.fnBody s_Tape_init) (C8.fnScope s_Tape_init) dvs kws f fd) : FnOk P w K mg base C8.CX0 4 f fd ["self", "beat", "tracks", "paces"] (spTapeInit K) := by
  refine FD.ok sc_Tape_init (fun vs H Q E h => by obtain ⟨H0, S, x, dx, v, u, t, rfl, _⟩ := h; rfl) (fun cdv A outer s H vs Q E hr h => ?_)
  suffices hh : ∃ t, PSs (cxOf C8.CX0 P w K mg base N_Tape_init "Tape.__init__" (C8.fnScope s_Tape_init) f cdv A outer s H E).nox (C8.fnBody s_Tape_init) t ∧ t { nx := fun _ H' => Q .non H', rt := Q } (start N_Tape_init vs) H by
    obtain ⟨t, h1, h2⟩ := hh
    exact ⟨t, h1.nox, h2⟩
  have nd := sc_Tape_init.nd
  have hu := hu_of hr
  have hu64 := hu64 hr
  refine ⟨_, (pss_cons (ps_fld (pv 0) (C8.pe_mk (k_Map T) hr (by decide) rfl (pa_cons (pv 1) (pa_cons (pv 3) pa_nil))) rfl) (pss_cons (ps_if (pt_not (pt_chain op_le op_le pe_int
      (pe_callB (r := rLenSq K) call_len_seq (by rfl) T.f_len PySem.boot_len (pa_cons (pv 2) pa_nil)) (gK T.g_MOST_TRACKS))) (pss_one ps_never) pss_nil)
      (pss_cons (ps_for PassesOwn.never rfl (pi_or (pi_list (pv 2)) (pi_tup (pv 2))) (pg_name (i := 4) nd rfl (by first | exact Or.inl rfl | exact Or.inr rfl))
      (pss_one (ps_expr (C8.pe_c (c_need_track T) hr (by decide) rfl (pa_cons (pv 4) pa_nil))))) (pss_one (ps_fld (pv 0) (pe_lc (own := [("track", 4)])
      (g := gName 4) (tt := tYes) rfl nd (pi_or (pi_list (pv 2)) (pi_tup (pv 2))) (blkOk_by (own := [("track", 4)]) (N := N_Tape_init) (sc := C8.fnScope s_Tape_init)
      (by decide +kernel)) (fun _ _ _ _ _ => (pg_name (i := 4) nd rfl (by first | exact Or.inl rfl | exact Or.inr rfl))) (fun _ _ _ _ _ => pts_nil)
      (fun _ _ _ _ _ => (pe_callTy (T := "list") (r := rListOf K) call_list_of (by rfl) T.f_list (by decide +kernel) (pa_cons (pv 4) pa_nil)))) rfl))))), ?_⟩

  obtain ⟨H0, S, x, dx, v, u, t, rfl, s0, hS, n0, hx, hp, hv, ok, q⟩ := h
  have xS : x ∉ S := hS.out n0
  refine ⟨_, rfl, _, rfl, ?_⟩
  intro m dm nm ndm hne
  have s1 : Same H (upd (upd H dm (.own m)) m (.ins (cA K "Map") dm [])) := over (Same.upd ndm) nm
  refine ⟨H, m, dm, t.beat, u, t.paces, rfl, s1, nm, upd_same, hp.to (wo_sub.trans (s0.trans s1)), ok.ps, fun H1 d s2 nd dm' mi => ?_⟩
  refine ⟨rfl, _, rfl, x, _, dx, _, rfl, s2 _ _ hx, T.c_Tape, T.n_Tape_own, by simp, ?_⟩
  have sx : Same H0 (upd H1 x (.ins (cA K "Tape") dx (putF "own" (.ref m) []))) := over (s0.trans s2) n0
  have mx : m ≠ x := fun z => by rw [z, hx] at nm; cases nm
  have dx2 : d ≠ x := fun z => by rw [z, hx] at nd; cases nd
  have mS : m ∉ S := (In.same hS s0).out nm
  have dS : d ∉ S := (In.same hS s0).out nd
  have mi2 : MapIs K (wo S (upd H1 x (.ins (cA K "Tape") dx (putF "own" (.ref m) [])))) m d t.beat t.paces := by
    obtain ⟨⟨dx', e1⟩, e2⟩ := mi
    exact ⟨⟨dx', by rw [wo_out mS, upd_ne mx]; exact e1⟩, by rw [wo_out dS, upd_ne dx2]; exact e2⟩
  have hv2 : TksIn K (wo (x :: S) (upd H1 x (.ins (cA K "Tape") dx (putF "own" (.ref m) [])))) v t.tracks := by
    rcases hv with h | ⟨⟨a, b, e, h1, h2⟩, h3⟩
    · exact .inl (dp h (wo_plus sx n0))
    · exact .inr ⟨⟨a, b, e, same_t (wo_plus sx n0) h1, same_t (wo_plus sx n0) h2⟩, h3⟩
  have hxm : (upd H1 x (.ins (cA K "Tape") dx (putF "own" (.ref m) []))) x = some (.ins (cA K "Tape") dx (putF "own" (.ref m) [])) := upd_same
  generalize eH : upd H1 x (.ins (cA K "Tape") dx (putF "own" (.ref m) [])) = Hm at *
  obtain ⟨xs, sv, lx, hxs⟩ := hv2.seq
  obtain ⟨av, ev, sv0⟩ := id sv
  have few := ok.few
  have some1 := ok.some1
  have hSm : In (x :: S) Hm := (In.same hS sx).plus (by rw [hxm]; exact fun z => nomatch z)
  refine ⟨_, rfl, av, xs, ?_, sv0.imp (same_l wo_sub) (same_t wo_sub), _, _, rfl, rfl, _, rfl, ?_⟩
  · rw [← ev]
  rw [decT (by omega)]
  refine iteT ⟨_, _, rfl, rfl, _, rfl, ?_⟩
  rw [decT (by omega)]
  refine iteF ?_
  obtain ⟨J, wk, hJ⟩ := seq_it (sv.to wo_sub)
  refine hJ 2 _ Hm _ same_rfl rfl ?_
  refine for_it wk (fun i σ H' => (∃ x1, σ = [some (.ref x), some (.int t.beat), some v, some u, x1]) ∧ Same Hm H') ⟨⟨_, rfl⟩, same_rfl⟩ (fun _ _ _ _ hh => hh.2) ?_ ?_
  · rintro i y σ H3 H4 hi ⟨⟨x1, rfl⟩, s3⟩ ⟨rfl, hy⟩
    obtain ⟨tr, ht, htr⟩ := hxs i y hy
    refine ⟨_, rfl, y, rfl, ?_, fun H' s4 => ⟨⟨_, rfl⟩, s3.trans s4⟩⟩
    rcases htr with h | ⟨⟨a, e, h⟩, e2⟩
    · exact .inl ⟨tr, dp h (wo_sub.trans s3), ok.trs tr (List.mem_of_getElem? ht)⟩
    · exact .inr ⟨a, e, same_t (wo_sub.trans s3) h⟩
  rintro σ H3 ⟨⟨x1, rfl⟩, s3⟩
  have hS3 := In.same hSm s3
  obtain ⟨J2, wk2, hJ2⟩ := seq_it ((sv.to wo_sub).to s3)
  refine hJ2 2 _ H3 _ same_rfl rfl fun D hD => ?_
  refine lc_it wk2 (Gro K (x :: S) H3 D fun i => (t.tracks.take i).map trP) (Gro.start hS3 hD (by simp)) (fun _ _ _ hh => hh.same) ?_ ?_
  · rintro i y H4 H5 hi ac ⟨rfl, hy⟩
    obtain ⟨tr, ht, htr⟩ := hxs i y hy
    obtain ⟨a, ys, rfl, hya, hyd⟩ := (htr.to ((Same.wo s3).trans ac.old)).seq
    refine ⟨rfl, _, rfl, a, ys, rfl, hya.imp (same_l wo_sub) (same_t wo_sub), fun l hl => ?_⟩
    refine ac.more (Same.upd hl) (lst_dp ac.in hl hyd) ?_ (by omega)
    simp only [take_succ' ht, List.map_append, List.map_cons, List.map_nil]
    rfl
  intro H4 ac
  have z := ac.stop
  simp only [take_full lx.symm] at z
  have s4 := s3.trans ac.same
  refine ⟨_, rfl, x, _, dx, _, rfl, s4 _ _ hxm, T.c_Tape, T.n_Tape_rows, by simp [putF], ?_⟩
  have sf : Same H0 (upd H4 x (.ins (cA K "Tape") dx (putF "rows" (.ref D) (putF "own" (.ref m) [])))) := over (sx.trans s4) n0
  have big : Same (wo (x :: S) H4) (wo S (upd H4 x (.ins (cA K "Tape") dx (putF "rows" (.ref D) (putF "own" (.ref m) []))))) := by
    have e := wo_upd (S := x :: S) (H := H4) (d := x) (o := .ins (cA K "Tape") dx (putF "rows" (.ref D) (putF "own" (.ref m) []))) List.mem_cons_self
    rw [← e]
    exact wo_less fun a h => List.mem_cons_of_mem _ h
  have hx4 : H4 x = some (.ins (cA K "Tape") dx (putF "own" (.ref m) [])) := s4 _ _ hxm
  refine q _ sf ⟨x, dx, m, d, .ref D, t.paces, rfl, ?_, ?_, List.Perm.refl _, ?_⟩
  · rw [wo_out xS, upd_same]; rfl
  · have m4 := mi2.to (Same.wo s4)
    obtain ⟨⟨dx', e1⟩, e2⟩ := m4
    rw [wo_out mS] at e1
    rw [wo_out dS] at e2
    exact ⟨⟨dx', by rw [wo_out mS, upd_ne mx]; exact e1⟩, by rw [wo_out dS, upd_ne dx2]; exact e2⟩
  · exact dp z big
def spTBeat (K : PySem.W.Frag) : Sp := fun vs H Q _ => ∃ (v : V) (t : Tp), vs = [v] ∧ TapeIs K H v t ∧ Q (.int t.beat) H
abbrev s_Tape_beat : Stmt := inClass (top 64) 4
abbrev N_Tape_beat : List Str := ["self"]
theorem sc_Tape_beat : FnScope N_Tape_beat ["self"] (C8.fnScope s_Tape_beat) := C8.fnScope_by (by decide +kernel)
theorem m_Tape_beat (T : Fx w K mg) : C8.Met P w K mg base 2 (cA K "Tape") "beat" (spTBeat K) [] := by
  refine met_ T.c_Tape T.m_Tape_beat (fun _ _ _ _ _ _ us hl => match us, hl with | [_], _ => rfl) sc_Tape_beat (fun vs H Q E h => by obtain ⟨v, t, rfl, _⟩ := h; rfl) (fun f cdv A outer s H vs Q E hr h => ?_)
  have nd := sc_Tape_beat.nd
  have hu := hu_of hr
  have hu64 := hu64 hr
  refine ⟨_, (pss_one (ps_ret (C8.pe_mt0 (m_Map_beat T) hr (by decide) (pe_fld (pv 0) rfl)))), ?_⟩

  obtain ⟨v, t, rfl, ⟨a, dx, m, d, r, ps, rfl, ha, mi, pm, hr'⟩, q⟩ := h
  obtain ⟨⟨dm, hm⟩, hd⟩ := id mi
  exact ⟨_, rfl, a, _, dx, _, _, rfl, ha, T.c_Tape, T.n_Tape_own, rfl, m, dm, _, rfl, hm, rfl, m, d, _, ps, rfl, mi, q⟩
def spTPaces (K : PySem.W.Frag) : Sp := fun vs H Q _ => ∃ (S : List Addr) (v : V) (t : Tp), vs = [v] ∧ In S H ∧ TapeIs K H v t ∧
  ∀ H' p ys, Same H H' → ys.Perm t.paces → srtd ys → H p = none → Dp K (wo S H') (.ref p) (.list (ys.map prP)) → Q (.ref p) H'
abbrev s_Tape_paces : Stmt := inClass (top 64) 6
abbrev N_Tape_paces : List Str := ["self"]
theorem sc_Tape_paces : FnScope N_Tape_paces ["self"] (C8.fnScope s_Tape_paces) := C8.fnScope_by (by decide +kernel)
theorem m_Tape_paces (T : Fx w K mg) : C8.Met P w K mg base 2 (cA K "Tape") "paces" (spTPaces K) [] := by
  refine met_ T.c_Tape T.m_Tape_paces (fun _ _ _ _ _ _ us hl => match us, hl with | [_], _ => rfl) sc_Tape_paces (fun vs H Q E h => by obtain ⟨S, v, t, rfl, _⟩ := h; rfl) (fun f cdv A outer s H vs Q E hr h => ?_)
  have nd := sc_Tape_paces.nd
  have hu := hu_of hr
  have hu64 := hu64 hr
  refine ⟨_, (pss_one (ps_ret (C8.pe_mt0 (m_Map_paces T) hr (by decide) (pe_fld (pv 0) rfl)))), ?_⟩

  obtain ⟨S, v, t, rfl, hS, ⟨a, dx, m, d, r, ps, rfl, ha, mi, pm, hr'⟩, q⟩ := h
  obtain ⟨⟨dm, hm⟩, hd⟩ := id mi
  exact ⟨_, rfl, a, _, dx, _, _, rfl, ha, T.c_Tape, T.n_Tape_own, rfl, m, dm, _, rfl, hm, rfl, S, m, d, _, ps, rfl, hS, mi, fun H' p ys s1 p1 so np hy => q H' p ys s1 (p1.trans pm) so np hy⟩
def spPaced (K : PySem.W.Frag) : Sp := fun vs H Q _ => ∃ (v : V) (t : Tp), vs = [v] ∧ TapeIs K H v t ∧ TpOk t ∧
  ∀ H' x d ys, Same H H' → H x = none → H d = none → d ≠ x → ys.Perm t.paces → MapIs K H' x d t.beat ys → Q (.ref x) H'
abbrev s_Tape_paced : Stmt := inClass (top 64) 7
abbrev N_Tape_paced : List Str := ["self"]
theorem sc_Tape_paced : FnScope N_Tape_paced ["self"] (C8.fnScope s_Tape_paced) := C8.fnScope_by (by decide +kernel)
theorem m_Tape_paced (T : Fx w K mg) : C8.Met P w K mg base 5 (cA K "Tape") "paced" (spPaced K) [] := by
  refine met_ T.c_Tape T.m_Tape_paced (fun _ _ _ _ _ _ us hl => match us, hl with | [_], _ => rfl) sc_Tape_paced (fun vs H Q E h => by obtain ⟨v, t, rfl, _⟩ := h; rfl) (fun f cdv A outer s H vs Q E hr h => ?_)
  have nd := sc_Tape_paced.nd
  have hu := hu_of hr
  have hu64 := hu64 hr
  refine ⟨_, (pss_one (ps_ret (C8.pe_mt0 (m_Map_twin T) hr (by decide) (pe_fld (pv 0) rfl)))), ?_⟩

  obtain ⟨v, t, rfl, ⟨a, dx, m, d, r, ps, rfl, ha, mi, pm, hr'⟩, ok, q⟩ := h
  obtain ⟨⟨dm, hm⟩, hd⟩ := id mi
  exact ⟨_, rfl, a, _, dx, _, _, rfl, ha, T.c_Tape, T.n_Tape_own, rfl, m, dm, _, rfl, hm, rfl, m, d, _, ps, rfl, mi, ok.ps.perm pm, fun H' x' d' ys s1 n1 n2 ne p1 mm => q H' x' d' ys s1 n1 n2 ne (p1.trans pm) mm⟩
def spTracks (K : PySem.W.Frag) : Sp := fun vs H Q _ => ∃ (S : List Addr) (v : V) (t : Tp), vs = [v] ∧ In S H ∧ TapeIs K (wo S H) v t ∧ TpOk t ∧
  ∀ H' p xs, Same H H' → H p = none → H' p = some (.lst xs) → DpAll K (wo (p :: S) H') xs (t.tracks.map trP) → Q (.ref p) H'
abbrev s_Tape_tracks : Stmt := inClass (top 64) 5
abbrev N_Tape_tracks : List Str := ["self", "track"]
theorem sc_Tape_tracks : FnScope N_Tape_tracks ["self"] (C8.fnScope s_Tape_tracks) := C8.fnScope_by (by decide +kernel)
theorem m_Tape_tracks (T : Fx w K mg) : C8.Met P w K mg base 1 (cA K "Tape") "tracks" (spTracks K) [] := by
  refine met_ T.c_Tape T.m_Tape_tracks (fun _ _ _ _ _ _ us hl => match us, hl with | [_], _ => rfl) sc_Tape_tracks (fun vs H Q E h => by obtain ⟨S, v, t, rfl, _⟩ := h; rfl) (fun f cdv A outer s H vs Q E hr h => ?_)
  have nd := sc_Tape_tracks.nd
  have hu := hu_of hr
  have hu64 := hu64 hr
  refine ⟨_, (pss_one (ps_ret (pe_lc (own := [("track", 1)]) (g := gName 1) (tt := tYes) rfl nd (pi_list (pe_fld (pv 0) rfl)) (blkOk_by (own := [("track", 1)]) (N := N_Tape_tracks)
      (sc := C8.fnScope s_Tape_tracks) (by decide +kernel)) (fun _ _ _ _ _ => (pg_name (i := 1) nd rfl (by first | exact Or.inl rfl | exact Or.inr rfl)))
      (fun _ _ _ _ _ => pts_nil) (fun _ _ _ _ _ => (pe_callTy (T := "list") (r := rListOf K) call_list_of (by rfl) T.f_list (by decide +kernel)
      (pa_cons (pv 1) pa_nil)))))), ?_⟩

  obtain ⟨S, v, t, rfl, hS, ⟨a, dx, m, d, r, ps, rfl, ha, mi, pm, hr'⟩, ok, q⟩ := h
  obtain ⟨r, xs, rfl, h1, h2⟩ := Dp.lstI hr'
  have few := ok.few
  have lx : xs.length = t.tracks.length := by rw [DpAll.len h2, List.length_map]
  have h1' := same_l wo_sub h1
  refine ⟨_, rfl, a, _, dx, _, _, rfl, wo_sub _ _ ha, T.c_Tape, T.n_Tape_rows, rfl, r, rfl, ⟨xs, h1'⟩, fun D hD => ?_⟩
  refine lc_it walk_list (Gro K S H D fun i => (t.tracks.take i).map trP) (Gro.start hS hD (by simp)) (fun _ _ _ hh => same_l hh.same h1') ?_ ?_
  · rintro i y H4 H5 hi ac ⟨rfl, hy⟩
    obtain ⟨tr, ht, htr⟩ := tk_at h2 hy
    obtain ⟨b, ys, rfl, hya, hyd⟩ := Dp.lstI (dp htr ac.old)
    refine ⟨rfl, _, rfl, b, ys, rfl, .inl (same_l wo_sub hya), fun l hl => ?_⟩
    refine ac.more (Same.upd hl) (lst_dp ac.in hl hyd) ?_ (by omega)
    simp only [take_succ' ht, List.map_append, List.map_cons, List.map_nil]
    rfl
  intro H4 ac
  obtain ⟨ys, e1, e2, e3⟩ := ac.ex
  simp only [take_full lx.symm] at e3
  exact q H4 D ys ac.same hD e1 e3
end
end K59
set_option maxHeartbeats 4000000
namespace K59
open PySem PySem.Spec PyProof.Rows L2
/-! ### Tape(..) -/
section
variable {X : Cx} {j : Nat} {p pos kp : Pos} {e1 e2 e3 : Expr} {t1 t2 t3 : TE}
theorem pe_tape (T : Fx X.w X.K X.mg) (hr : Room j X.A) (hk : 5 ≤ j) (hg : Gl X "Tape") (h1 : PE X e1 t1) (h2 : PE X e2 t2) (h3 : PE X e3 t3)
    (hst2 : starEach [e2] X.env = (false, eval e2 X.env) :: starEach [] X.env := by rfl)
    (hall : (backToKw pos (keywordEach [⟨some "paces", e3, kp⟩] X.env)).all (·.1.isSome) = true := by rfl) (hks : (backToKw pos (keywordEach [⟨some "paces", e3, kp⟩] X.env)).filterMap (·.1) = [("paces" : Str)] := by rfl)
    (he : starEach [e1, e2] X.env = (false, eval e1 X.env) :: starEach [e2] X.env := by rfl)
    (hpl : ((backTo pos (starEach [e1, e2] X.env)).any (·.1) || (backToKw pos (keywordEach [⟨some "paces", e3, kp⟩] X.env)).any (·.1.isNone)) = false := by rfl) :
    PE X (.Call (.Name "Tape" p) [e1, e2] [⟨some "paces", e3, kp⟩] pos) (tMakeN (cA X.K "Tape") 2 1 (spTapeInit X.K) (fun vs zs => vs ++ zs) C8.E0 (tCons t1 (tCons t2 tNil)) (tCons t3 tNil)) := by
  obtain ⟨f, fd, tt, t0, t1', FD, M, a1, a2, a3⟩ := T.i_Tape
  obtain ⟨its, kb⟩ := FD.kbindsD (ps := ["self", "beat", "tracks", "paces"]) 3 ["paces"] (fun us its ws => us ++ ws) (by simp) (fun r1 _ r3 => r1.append r3) (fun T kV doc pm an cdv ct us its ws h1 h2 h3 => match us, its, ws, h1, h2, h3 with | [_, _, _], [_, _], [_], _, _, _ => ⟨_, rfl, rfl⟩)
  exact pe_makeN (n := 2) M (ok_Tape T FD) (hr.mono hk) hg T.mg_Tape kb C8.pass0 (pa_cons h1 (pa_cons h2 pa_nil hst2) he) (pk_cons h3 pk_nil) hall hks (by decide) he hpl
theorem pe_tape1 (T : Fx X.w X.K X.mg) (hr : Room j X.A) (hk : 5 ≤ j) (hg : Gl X "Tape") (h1 : PE X e1 t1)
    (he : starEach [e1] X.env = (false, eval e1 X.env) :: starEach [] X.env := by rfl) (hpl : (backTo pos (starEach [] X.env)).any (·.1) = false := by rfl) :
    PE X (.Call (.Name "Tape" p) [e1] [] pos) (fun σ H Q => ∀ tt t0 t1', (∀ H, SqT X.K H tt [.ref t0]) → (∀ H, SqT X.K H t0 []) → (∀ H, SqT X.K H t1' []) → tMake (cA X.K "Tape") (spTapeInit X.K) [.ref tt, .ref t1'] C8.E0 (tCons t1 tNil) σ H Q) := by
  obtain ⟨f, fd, tt, t0, t1', FD, M, a1, a2, a3⟩ := T.i_Tape
  obtain ⟨ds, vd, bd⟩ := FD.binds (ps := ["self", "beat", "tracks", "paces"]) 2 1 (by simp) rfl (fun T D doc pm an cdv ct us its ks h1 h2 h3 => match us, its, ks, h1, h2, h3 with | [_, _], [_, _], [_], _, _, _ => ⟨_, rfl, _, _, _, _, _, _, rfl, rfl, rfl⟩) (by simp)
  exact ⟨fun pins s σ H Q I h => (pe_make M (ok_Tape T FD) (hr.mono hk) hg T.mg_Tape bd vd C8.pass0 (pa_cons h1 pa_nil he) (by decide) he hpl).run pins s σ H Q I (h tt t0 t1' a1 a2 a3)⟩
end
theorem TapeIs.perm {K : PySem.W.Frag} {G : Hp} {v : V} {t t2 : Tp} (h : TapeIs K G v t) (hb : t.beat = t2.beat) (ht : t.tracks = t2.tracks) (hp : t.paces.Perm t2.paces) : TapeIs K G v t2 := by
  obtain ⟨a, dx, m', d, r, ps, h1, h2, h3, h4, h5⟩ := h.ex
  rw [hb] at h3
  rw [ht] at h5
  exact ⟨a, dx, m', d, r, ps, h1, h2, h3, h4.trans hp, h5⟩
theorem tape_new {K : PySem.W.Frag} {H : Hp} {S : List Addr} {v u : V} {t t2 : Tp} {Q : VK} {E : XK} {vs : List V} (hS : In S H) (hvs : vs = [.int t.beat, v, u]) (hp : PcsIn K (wo S H) u t.paces) (hv : TksIn K (wo S H) v t.tracks) (ok : TpOk t) (hb : t.beat = t2.beat) (ht : t.tracks = t2.tracks) (pm : t.paces.Perm t2.paces)
    (q : ∀ H' x, Same H H' → H x = none → TapeIs K (wo S H') (.ref x) t2 → Q (.ref x) H') : ∀ x dx, H x = none → H dx = none → dx ≠ x → spTapeInit K (.ref x :: vs) (upd (upd H dx (.own x)) x (.ins (cA K "Tape") dx [])) (fun v H3 => v = .non ∧ Q (.ref x) H3) E := by
  intro x dx nx ndx hne
  subst hvs
  have s := over (Same.upd (o := .own x) ndx) (o := HO.ins (cA K "Tape") dx []) nx
  exact ⟨H, S, x, dx, v, u, t, rfl, s, hS, nx, upd_same, hp, hv, ok, fun H' s' ti => ⟨rfl, q H' x s' nx (ti.perm hb ht pm)⟩⟩
/-! ### books -/
def bkR (K : PySem.W.Frag) (G : Hp) (kv : Key × V) (p : Str × Tp) : Prop := kv.1 = Sum.inr p.1 ∧ TapeIs K G kv.2 p.2
structure BkIs (K : PySem.W.Frag) (G : Hp) (b : Addr) (bk : Bk) : Prop where
  ex : ∃ kvs, G b = some (.dK kvs) ∧ Paired (bkR K G) kvs bk
theorem bkR.to {K : PySem.W.Frag} {G G' : Hp} (s : Same G G') : ∀ {kvs : List (Key × V)} {bk : Bk}, Paired (bkR K G) kvs bk → Paired (bkR K G') kvs bk
  | _, _, .nil => .nil
  | _, _, .cons r t => .cons ⟨r.1, r.2.to s⟩ (bkR.to s t)
theorem BkIs.to {K : PySem.W.Frag} {G G' : Hp} {b : Addr} {bk : Bk} (h : BkIs K G b bk) (s : Same G G') : BkIs K G' b bk := by
  obtain ⟨kvs, e, r⟩ := h.ex
  exact ⟨kvs, s _ _ e, bkR.to s r⟩
theorem bk_at {K : PySem.W.Frag} {G : Hp} {n : Str} : ∀ {kvs : List (Key × V)} {bk : Bk}, Paired (bkR K G) kvs bk → (∃ v t, valV kvs (Sum.inr n) = some v ∧ atA bk n = some t ∧ TapeIs K G v t) ∨ (valV kvs (Sum.inr n) = none ∧ atA bk n = none)
  | _, _, .nil => .inr ⟨rfl, rfl⟩
  | kv :: kvs, p :: bk, .cons r t => by
    by_cases h : p.1 = n
    · refine .inl ⟨kv.2, p.2, valV_pos (by rw [r.1, h]), ?_, r.2⟩
      unfold atA
      rw [List.find?_cons, decT h]; rfl
    · have e1 : valV (kv :: kvs) (Sum.inr n) = valV kvs (Sum.inr n) := valV_neg (by rw [r.1]; exact fun z => h (Sum.inr.inj z))
      have e2 : atA (p :: bk) n = atA bk n := by
        unfold atA
        rw [List.find?_cons, decF h]
      rw [e1, e2]
      exact bk_at t
section
variable {P : Program} {w : World} {K : PySem.W.Frag} {mg : Str → Option Value} {base : Heap}
/-- an own error with its word -/
def Raised (K : PySem.W.Frag) (E : XK) (H : Hp) (x z : Str) : Prop := ∀ H' d, Same H H' → H d = none → H' d = some (.xd [("called", .str z)]) → E (.ref (cA K x)) (some d) H'
def spTapeOf (K : PySem.W.Frag) : Sp := fun vs H Q E => ∃ (b : Addr) (n : Str) (kvs : List (Key × V)), vs = [.ref b, .str n] ∧ H b = some (.dK kvs) ∧
  ((∃ v, valV kvs (Sum.inr n) = some v ∧ Q v H) ∨ (valV kvs (Sum.inr n) = none ∧ Raised K E H "NoTape" "notape"))
abbrev s_tape_of : Stmt := top 80
abbrev N_tape_of : List Str := ["book", "name"]
theorem sc_tape_of : FnScope N_tape_of ["book", "name"] (C8.fnScope s_tape_of) := C8.fnScope_by (by decide +kernel)
theorem c_tape_of (T : Fx w K mg) : CalX P w K mg base 3 "tape_of" (spTapeOf K) := by
  obtain ⟨fI, xT_NoTape⟩ := T.x_NoTape
  refine calX_ T.d_tape_of (fun _ _ _ _ _ _ us hl => match us, hl with | [_, _], _ => rfl) sc_tape_of (fun vs H Q E h => by obtain ⟨b, n, kvs, rfl, _⟩ := h; rfl) (fun f cdv A outer s H vs Q E hr h => ?_)
  have nd := sc_tape_of.nd
  have hu := hu_of hr
  have hu64 := hu64 hr
  refine ⟨_, (pss_cons (ps_if (pt_cmp (pc_dnotin hu (pv 1) (pv 0))) (pss_one (ps_raise rfl (takes_of rfl rfl rfl rfl) (pmk_x PySem.F.excBase_LookupError PySem.F.store_LookupError xT_NoTape hr))) pss_nil)
      (pss_one (ps_ret (pe_dget hu (pv 0) (pv 1) (fun _ _ => rfl))))), ?_⟩

  obtain ⟨b, n, kvs, rfl, hb, h⟩ := h
  refine ⟨_, rfl, _, rfl, b, _, rfl, .inl ⟨kvs, Sum.inr n, .inl hb, rfl, rfl⟩, _, rfl, ?_⟩
  rcases h with ⟨v, hv, q⟩ | ⟨hv, q⟩
  · rw [hv]
    exact iteF ⟨_, rfl, _, rfl, b, v, rfl, .inl ⟨kvs, Sum.inr n, .inl hb, rfl, hv.symm⟩, q⟩
  · rw [hv]
    exact iteT fun d hd => q _ d (Same.upd hd) hd upd_same
def spNeedNew (K : PySem.W.Frag) : Sp := fun vs H Q E => ∃ (b : Addr) (n : Str) (kvs : List (Key × V)), vs = [.ref b, .str n] ∧ H b = some (.dK kvs) ∧
  ((nameOk n ∧ valV kvs (Sum.inr n) = none ∧ ∀ H', Same H H' → Q .non H') ∨ (n = "A" ∧ Raised K E H "BadName" "badname"))
theorem low_letter {c : Nat} (h : 97 ≤ c ∧ c ≤ 122) : c ∈ letters := by
  have e : letters = (List.range 26).map (97 + ·) := by decide +kernel
  rw [e]
  exact List.mem_map.mpr ⟨c - 97, by rw [List.mem_range]; omega, by omega⟩
abbrev s_need_new : Stmt := top 77
abbrev N_need_new : List Str := ["book", "name", "sign"]
theorem sc_need_new : FnScope N_need_new ["book", "name"] (C8.fnScope s_need_new) := C8.fnScope_by (by decide +kernel)
theorem c_need_new (T : Fx w K mg) : CalX P w K mg base 3 "need_new" (spNeedNew K) := by
  obtain ⟨fI, xT_BadName⟩ := T.x_BadName
  refine calX_ T.d_need_new (fun _ _ _ _ _ _ us hl => match us, hl with | [_, _], _ => rfl) sc_need_new (fun vs H Q E h => by obtain ⟨b, n, kvs, rfl, _⟩ := h; rfl) (fun f cdv A outer s H vs Q E hr h => ?_)
  have nd := sc_need_new.nd
  have hu := hu_of hr
  have hu64 := hu64 hr
  refine ⟨_, (pss_cons (ps_if (PW.pt (pw_or (pt_not (pt_chain op_le op_le pe_int (pe_callB call_len_str (by rfl) T.f_len PySem.boot_len (pa_cons (pv 1) pa_nil)) (gK T.g_MOST_SIGNS_deeds)))
      (pw_or1 (pt_not (pt_val (pe_callB (cr_all rfl) (by rfl) T.f_all (by decide +kernel) (pa_cons (pe_lc (own := [("sign", 2)]) (g := gName 2) (tt := tYes) rfl nd
      (pi_str (pv 1)) (blkOk_by (own := [("sign", 2)]) (N := N_need_new) (sc := C8.fnScope s_need_new) (by decide +kernel)) (fun _ _ _ _ _ => (pg_name
      (i := 2) nd rfl (by first | exact Or.inl rfl | exact Or.inr rfl))) (fun _ _ _ _ _ => pts_nil) (fun _ _ _ _ _ => (pe_cmpR op_in_sign (pv 2) (gK T.g_LETTERS) rfl))) pa_nil)))))))
      (pss_one (ps_raise rfl (takes_of rfl rfl rfl rfl) (pmk_x PySem.F.excBase_ValueError PySem.F.store_ValueError xT_BadName hr))) pss_nil) (pss_one
      (ps_if (pt_cmp (pc_din hu (pv 1) (pv 0))) (pss_one ps_never) pss_nil))), ?_⟩

  obtain ⟨b, n, kvs, rfl, hb, h⟩ := h
  have lo : 1 ≤ n.length ∧ n.length ≤ 8 := by
    rcases h with ⟨h, _⟩ | ⟨rfl, _⟩
    · exact ⟨h.1, h.2.1⟩
    · decide +kernel
  refine ⟨_, rfl, n, rfl, sz (by omega), _, _, rfl, rfl, _, rfl, ?_⟩
  rw [decT (by omega)]
  refine iteT ⟨_, _, rfl, rfl, _, rfl, ?_⟩
  rw [decT (by omega)]
  refine iteF ?_
  have nsz : n.cps.size ≤ 8 := lo.2
  refine ⟨_, rfl, n, rfl, fun D hD => lc_it walk_str (fun i H' => Same H H' ∧ H' D = some (.lst (((n.cps.toList.take i).map fun c => decide (c ∈ letters)).map V.bl))) ⟨Same.upd hD, upd_same⟩ (fun _ _ _ _ => trivial) ?_ ?_⟩
  · rintro i x H1 H2 hi ⟨s1, h1⟩ ⟨rfl, c, hc, rfl⟩
    have hc' : n.cps.toList[i]? = some c := by rw [Array.getElem?_toList]; exact hc
    refine ⟨rfl, _, rfl, _, _, rfl, rfl, _, h1, szl (by simp; omega), over s1 hD, ?_⟩
    rw [upd_same, take_succ' hc', List.map_append, List.map_append]
    rfl
  rintro H1 ⟨s1, h1⟩
  rw [take_full (by simp)] at h1
  refine ⟨D, _, rfl, SqL.of h1, _, rfl, ?_⟩
  rcases h with ⟨hn, hv, q⟩ | ⟨rfl, q⟩
  · have e : ((n.cps.toList.map fun c => decide (c ∈ letters)).all id) = true := by
      rw [List.all_map, List.all_eq_true]
      intro c hc
      exact decT (low_letter (hn.2.2 c hc))
    rw [e]
    refine iteF ⟨_, rfl, _, rfl, b, _, rfl, .inl ⟨kvs, Sum.inr n, .inl (s1 _ _ hb), rfl, rfl⟩, _, rfl, ?_⟩
    rw [hv]
    exact iteF (q H1 s1)
  · have e : ((("A" : Str).cps.toList.map fun c => decide (c ∈ letters)).all id) = false := by decide +kernel
    rw [e]
    refine iteT fun d hd => q _ d (s1.trans (Same.upd hd)) (wasNone s1 hd) upd_same
def spTrackOf (K : PySem.W.Frag) : Sp := fun vs H Q _ => ∃ (S : List Addr) (v : V) (t : Tp) (k : Int), vs = [v, .int k] ∧ In S H ∧ TapeIs K (wo S H) v t ∧ TpOk t ∧ (0 ≤ k ∧ k < t.tracks.length) ∧
  ∀ H' u, Same H H' → Dp K (wo S H') u (trP (t.tracks.getD k.toNat [])) → Q u H'
abbrev s_track_of : Stmt := top 81
abbrev N_track_of : List Str := ["tape", "number", "rows"]
theorem sc_track_of : FnScope N_track_of ["tape", "number"] (C8.fnScope s_track_of) := C8.fnScope_by (by decide +kernel)
theorem c_track_of (T : Fx w K mg) : C8.Cal P w K mg base 2 "track_of" (spTrackOf K) [] := by
  refine cal_ T.d_track_of (fun _ _ _ _ _ _ us hl => match us, hl with | [_, _], _ => rfl) sc_track_of (fun vs H Q E h => by obtain ⟨S, v, t, k, rfl, _⟩ := h; rfl) (fun f cdv A outer s H vs Q E hr h => ?_)
  have nd := sc_track_of.nd
  have hu := hu_of hr
  have hu64 := hu64 hr
  refine ⟨_, (pss_cons (ps_set (i := 2) nd rfl (by first | exact Or.inl rfl | exact Or.inr rfl) (C8.pe_mt0 (m_Tape_tracks T) hr (by decide) (pv 0))) (pss_cons
      (ps_if (pt_not (pt_chain op_le op_lt pe_int (pv 1) (pe_callB (r := rLenSq K) call_len_seq (by rfl) T.f_len PySem.boot_len (pa_cons (pv 2) pa_nil))))
      (pss_one ps_never) pss_nil) (pss_one (ps_ret (pe_ix (r := rIxL K) ix_list (pv 2) (pv 1) (fun _ _ => rfl)))))), ?_⟩

  obtain ⟨S, v, t, k, rfl, hS, ti, ok, ⟨k0, k1⟩, q⟩ := h
  obtain ⟨a, dx, m, d, r, ps, rfl, ha, mi, pm, hr'⟩ := id ti
  refine ⟨_, rfl, a, dx, _, rfl, wo_sub _ _ ha, rfl, S, _, t, rfl, hS, ti, ok, fun H1 p xs s1 np hp hx => ?_⟩
  have lx : xs.length = t.tracks.length := by rw [DpAll.len hx, List.length_map]
  refine ⟨_, rfl, _, _, rfl, rfl, _, rfl, ?_⟩
  rw [decT k0]
  refine iteT ⟨_, rfl, p, xs, rfl, .inl (SqL.of hp), _, _, rfl, rfl, _, rfl, ?_⟩
  rw [decT (by omega)]
  refine iteF ?_
  have kl : k.toNat < xs.length := by omega
  have kl2 : k.toNat < t.tracks.length := by omega
  obtain ⟨tr, ht, hd⟩ := tk_at hx (List.getElem?_eq_getElem kl)
  refine ⟨_, rfl, _, rfl, p, xs, k, xs[k.toNat], rfl, rfl, SqL.of hp, at_nat (by omega) (List.getElem?_eq_getElem kl), ?_⟩
  have e : t.tracks.getD k.toNat [] = tr := by rw [List.getD_eq_getElem?_getD, ht]; rfl
  refine q H1 _ s1 ?_
  rw [e]
  exact dp hd (wo_less fun a h => List.mem_cons_of_mem _ h)
def spWithTrack (K : PySem.W.Frag) : Sp := fun vs H Q _ => ∃ (S : List Addr) (v u : V) (t : Tp) (k : Int) (r : Tr), vs = [v, .int k, u] ∧ In S H ∧ TapeIs K (wo S H) v t ∧ TpOk t ∧ Dp K (wo S H) u (trP r) ∧ TrOk r ∧ (0 ≤ k ∧ k < t.tracks.length) ∧
  ∀ H' x, Same H H' → H x = none → TapeIs K (wo S H') (.ref x) { t with tracks := t.tracks.set k.toNat r } → Q (.ref x) H'
theorem ixN_in {n : Nat} {k : Int} (h0 : 0 ≤ k) (h1 : k < n) : ixN n k = some k.toNat := by
  unfold ixN
  rw [if_pos h0, if_pos h1]
theorem TpOk.set {t : Tp} (ok : TpOk t) {r : Tr} (hr : TrOk r) (k : Nat) : TpOk { t with tracks := t.tracks.set k r } :=
  ⟨ok.beat, ok.keys, ok.pace, ok.fewP, by simpa using ok.some1, by simpa using ok.few, fun x hx => (List.mem_or_eq_of_mem_set hx).elim (ok.trs x) fun e => e ▸ hr⟩
theorem TpOk.perm {t : Tp} (ok : TpOk t) {ys : List (Int × Int)} (p : ys.Perm t.paces) : TpOk { t with paces := ys } := by
  have h := ok.ps.perm p
  exact ⟨ok.beat, h.keys, h.pace, h.few, ok.some1, ok.few, ok.trs⟩
abbrev s_with_track : Stmt := top 82
abbrev N_with_track : List Str := ["tape", "number", "track", "rows"]
theorem sc_with_track : FnScope N_with_track ["tape", "number", "track"] (C8.fnScope s_with_track) := C8.fnScope_by (by decide +kernel)
theorem c_with_track (T : Fx w K mg) : C8.Cal P w K mg base 6 "with_track" (spWithTrack K) [] := by
  refine cal_ T.d_with_track (fun _ _ _ _ _ _ us hl => match us, hl with | [_, _, _], _ => rfl) sc_with_track (fun vs H Q E h => by obtain ⟨S, v, u, t, k, r, rfl, _⟩ := h; rfl) (fun f cdv A outer s H vs Q E hr h => ?_)
  have nd := sc_with_track.nd
  have hu := hu_of hr
  have hu64 := hu64 hr
  refine ⟨_, (pss_cons (ps_set (i := 3) nd rfl (by first | exact Or.inl rfl | exact Or.inr rfl) (C8.pe_mt0 (m_Tape_tracks T) hr (by decide) (pv 0))) (pss_cons
      (ps_asg (pv 2) (pg_sub (pv 3) (pv 1) set_list)) (pss_one (ps_ret (pe_tape T hr (by decide) rfl (C8.pe_mt0 (m_Tape_beat T) hr (by decide) (pv 0))
      (pv 3) (C8.pe_mt0 (m_Tape_paces T) hr (by decide) (pv 0))))))), ?_⟩

  obtain ⟨S, v, u, t, k, r, rfl, hS, ti, ok, hu', hok, ⟨k0, k1⟩, q⟩ := h
  obtain ⟨a, dx, m, d, rr, ps, rfl, ha, mi, pm, hr'⟩ := id ti
  refine ⟨_, rfl, a, dx, _, rfl, wo_sub _ _ ha, rfl, S, _, t, rfl, hS, ti, ok, fun H1 p xs s1 np hp hx => ?_⟩
  have lx : xs.length = t.tracks.length := by rw [DpAll.len hx, List.length_map]
  refine ⟨_, rfl, _, rfl, _, rfl, p, xs, k, k.toNat, rfl, rfl, hp, ixN_in k0 (by omega), ?_⟩
  have s2 : Same H (upd H1 p (.lst (xs.set k.toNat u))) := over s1 np
  have hS2 := In.same hS s2
  have pS := hS.out np
  have dr : Dp K (wo S (upd H1 p (.lst (xs.set k.toNat u)))) (.ref p) (tksP (t.tracks.set k.toNat r)) := by
    refine .lst (SqL.of (by rw [wo_out pS, upd_same])) ?_
    rw [List.map_set]
    have e := wo_upd (S := p :: S) (H := H1) (d := p) (o := .lst (xs.set k.toNat u)) List.mem_cons_self
    refine da (DpAll.set _ (H := wo (p :: S) (upd H1 p (.lst (xs.set k.toNat u)))) (by rw [e]; exact hx) ?_) (wo_less fun a h => List.mem_cons_of_mem _ h)
    rw [e]
    exact dp hu' (wo_plus s1 np)
  generalize upd H1 p (.lst (xs.set k.toNat u)) = H2 at *
  have ti2 := ti.to (Same.wo s2)
  have ha2 := s2 _ _ (wo_sub _ _ ha)
  refine ⟨_, rfl, a, dx, _, rfl, ha2, rfl, _, t, rfl, ti2.to wo_sub, ?_⟩
  refine ⟨_, rfl, _, rfl, a, dx, _, rfl, ha2, rfl, S, _, t, rfl, hS2, ti2.to wo_sub, fun H3 p3 ys s3 pm3 so3 np3 hy3 => ?_⟩
  refine ⟨rfl, rfl, ?_⟩
  have okT : TpOk { t with tracks := t.tracks.set k.toNat r, paces := ys } := (ok.set hok k.toNat).perm (t := { t with tracks := t.tracks.set k.toNat r }) pm3
  exact tape_new (t := { t with tracks := t.tracks.set k.toNat r, paces := ys }) (t2 := { t with tracks := t.tracks.set k.toNat r }) (In.same hS2 s3) rfl (.inl hy3) (.inl (dp dr (Same.wo s3))) okT rfl rfl pm3 fun H4 x s4 nx ti4 => q H4 x (s2.trans (s3.trans s4)) (wasNone (s2.trans s3) nx) ti4
end
end K59
set_option maxHeartbeats 4000000
namespace K59
open PySem PySem.Spec PyProof.Rows L2
section
variable {P : Program} {w : World} {K : PySem.W.Frag} {mg : Str → Option Value} {base : Heap}
/-! ### deeds -/
structure ActIn (K : PySem.W.Frag) (H : Hp) (S : List Addr) (b : Addr) (n : Str) (th : Addr) (xs : List V) (bk : Bk) (t : Tp) (d : Deed) : Prop where
  ins : In S H
  nm : d.name = n
  bki : BkIs K (wo S H) b bk
  sq : SqL K (wo S H) th xs
  dat : DpAll K (wo S H) xs d.rest
  got : atA bk n = some t
  ok : TpOk t
  good : GoodT t d
def spAct (K : PySem.W.Frag) (p : Deed → Prop) : Sp := fun vs H Q _ => ∃ (S : List Addr) (b : Addr) (n : Str) (th : Addr) (xs : List V) (bk : Bk) (t : Tp) (d : Deed), vs = [.ref b, .str n, .ref th] ∧ p d ∧ ActIn K H S b n th xs bk t d ∧
  ∀ H' x, Same H H' → H x = none → TapeIs K (wo S H') (.ref x) (onTp t d) → Q (.ref x) H'
theorem ActIn.tape {H : Hp} {S : List Addr} {b : Addr} {n : Str} {th : Addr} {xs : List V} {bk : Bk} {t : Tp} {d : Deed} (a : ActIn K H S b n th xs bk t d) : ∃ kvs ta dx m dd r ps, H b = some (.dK kvs) ∧ valV kvs (Sum.inr n) = some (.ref ta) ∧ TapeIs K (wo S H) (.ref ta) t ∧ H ta = some (.ins (cA K "Tape") dx [("own", .ref m), ("rows", r)]) ∧ MapIs K H m dd t.beat ps := by
  obtain ⟨kvs, e, r⟩ := a.bki.ex
  rcases bk_at (n := n) r with ⟨v, t', h1, h2, h3⟩ | ⟨h1, h2⟩
  · rw [a.got] at h2
    cases h2
    obtain ⟨ta, dx, m, dd, rr, ps, rfl, ha, mi, pm, hr'⟩ := id h3
    exact ⟨kvs, ta, dx, m, dd, rr, ps, wo_sub _ _ e, h1, h3, wo_sub _ _ ha, mi.to wo_sub⟩
  · rw [a.got] at h2; cases h2
theorem nil2 {xs : List V} {a b : PyData} {G : Hp} (h : DpAll K G xs [a, b]) : ∃ x y, xs = [x, y] ∧ Dp K G x a ∧ Dp K G y b := by
  cases h with
  | cons h1 t => cases t with
    | cons h2 t => cases t; exact ⟨_, _, rfl, h1, h2⟩
theorem nil1 {xs : List V} {a : PyData} {G : Hp} (h : DpAll K G xs [a]) : ∃ x, xs = [x] ∧ Dp K G x a := by
  cases h with
  | cons h1 t => cases t; exact ⟨_, rfl, h1⟩
theorem dpi {G : Hp} {x : V} {i : Int} (h : Dp K G x (.int i)) : x = .int i := by cases h; rfl
abbrev s_do_add : Stmt := top 84
abbrev N_do_add : List Str := ["book", "name", "things", "tape"]
theorem sc_do_add : FnScope N_do_add ["book", "name", "things"] (C8.fnScope s_do_add) := C8.fnScope_by (by decide +kernel)
theorem c_do_add (T : Fx w K mg) : C8.Cal P w K mg base 6 "do_add" (spAct K (fun d => ∃ n, d = .add n)) [] := by
  refine cal_ T.d_do_add (fun _ _ _ _ _ _ us hl => match us, hl with | [_, _, _], _ => rfl) sc_do_add (fun vs H Q E h => by obtain ⟨S, b, n, th, xs, bk, t, d, rfl, _⟩ := h; rfl) (fun f cdv A outer s H vs Q E hr h => ?_)
  have nd := sc_do_add.nd
  have hu := hu_of hr
  have hu64 := hu64 hr
  refine ⟨_, (pss_cons (ps_set (i := 3) nd rfl (by first | exact Or.inl rfl | exact Or.inr rfl) (pe_cx0 (c_tape_of T) hr (by decide) rfl (pa_cons (pv 0) (pa_cons
      (pv 1) pa_nil)))) (pss_one (ps_ret (pe_tape T hr (by decide) rfl (C8.pe_mt0 (m_Tape_beat T) hr (by decide) (pv 3)) (pe_op op_cat (C8.pe_mt0
      (m_Tape_tracks T) hr (by decide) (pv 3)) (pe_lst (pa_cons (pe_lst pa_nil) pa_nil))) (C8.pe_mt0 (m_Tape_paces T) hr (by decide) (pv 3)))))), ?_⟩

  obtain ⟨S, b, n, th, xs, bk, t, d, rfl, ⟨n', rfl⟩, ai, q⟩ := h
  obtain ⟨kvs, ta, dx, m, dd, r, ps, hb, hv, ti, ha, mi⟩ := ai.tape
  have hS := ai.ins
  have ok := ai.ok
  refine ⟨_, rfl, _, rfl, b, n, kvs, rfl, hb, .inl ⟨_, hv, ?_⟩⟩
  refine ⟨_, rfl, ta, dx, _, rfl, ha, rfl, _, t, rfl, ti.to wo_sub, ?_⟩
  refine ⟨_, rfl, ta, dx, _, rfl, ha, rfl, S, _, t, rfl, hS, ti, ok, fun H1 p zs s1 np hp hz => ?_⟩
  refine ⟨sz (by simp), fun p1 n1 => ⟨sz (by simp), fun p2 n2 => ?_⟩⟩
  have s2 := Same.upd (o := .lst []) n1
  have s3 := Same.upd (o := .lst [.ref p1]) n2
  have lz : zs.length = t.tracks.length := by rw [DpAll.len hz, List.length_map]
  have l6 : t.tracks.length ≤ 5 := ai.good
  refine ⟨p, p2, zs, [.ref p1], rfl, rfl, s3 _ _ (s2 _ _ hp), upd_same, sz (by simp; omega), fun p3 n3 => ?_⟩
  have s4 := Same.upd (o := .lst (zs ++ [.ref p1])) n3
  have sa := s1.trans (s2.trans (s3.trans s4))
  have hS4 := In.same hS sa
  have hz0 : DpAll K (wo S H1) zs (t.tracks.map trP) := da hz (wo_less fun a h => List.mem_cons_of_mem _ h)
  have d4 : Dp K (wo S (upd (upd (upd H1 p1 (.lst [])) p2 (.lst [.ref p1])) p3 (.lst (zs ++ [.ref p1])))) (.ref p3) (tksP (t.tracks ++ [[]])) := by
    refine lst_dp (In.same hS (s1.trans (s2.trans s3))) n3 ?_
    rw [List.map_append]
    refine DpAll.app (da hz0 (Same.wo (s2.trans s3))) (.cons (dp (lst_dp (In.same hS s1) n1 .nil) (Same.wo s3)) .nil)
  generalize upd (upd (upd H1 p1 (.lst [])) p2 (.lst [.ref p1])) p3 (.lst (zs ++ [.ref p1])) = H4 at *
  refine ⟨_, rfl, ta, dx, _, rfl, sa _ _ ha, rfl, S, _, t, rfl, hS4, (ti.to (Same.wo sa)).to wo_sub, fun H5 p5 ys s5 pm5 so5 np5 hy5 => ?_⟩
  refine ⟨rfl, rfl, ?_⟩
  have okT : TpOk { t with tracks := t.tracks ++ [[]], paces := ys } := (ok.app TrOk.nil l6).perm (t := { t with tracks := t.tracks ++ [[]] }) pm5
  exact tape_new (t := { t with tracks := t.tracks ++ [[]], paces := ys }) (t2 := { t with tracks := t.tracks ++ [[]] }) (In.same hS4 s5) rfl (.inl hy5) (.inl (dp d4 (Same.wo s5))) okT rfl rfl pm5 fun H6 x s6 nx ti6 => q H6 x (sa.trans (s5.trans s6)) (wasNone (sa.trans s5) nx) ti6
abbrev s_do_put : Stmt := top 85
abbrev N_do_put : List Str := ["book", "name", "things", "tape", "number", "event"]
theorem sc_do_put : FnScope N_do_put ["book", "name", "things"] (C8.fnScope s_do_put) := C8.fnScope_by (by decide +kernel)
theorem c_do_put (T : Fx w K mg) : C8.Cal P w K mg base 7 "do_put" (spAct K (fun d => ∃ n k e, d = .put n k e)) [] := by
  refine cal_ T.d_do_put (fun _ _ _ _ _ _ us hl => match us, hl with | [_, _, _], _ => rfl) sc_do_put (fun vs H Q E h => by obtain ⟨S, b, n, th, xs, bk, t, d, rfl, _⟩ := h; rfl) (fun f cdv A outer s H vs Q E hr h => ?_)
  have nd := sc_do_put.nd
  have hu := hu_of hr
  have hu64 := hu64 hr
  refine ⟨_, (pss_cons (ps_set (i := 3) nd rfl (by first | exact Or.inl rfl | exact Or.inr rfl) (pe_cx0 (c_tape_of T) hr (by decide) rfl (pa_cons (pv 0) (pa_cons
      (pv 1) pa_nil)))) (pss_cons (ps_asg (pv 2) (pg_unl rfl (pgs_cons (pg_name (i := 4) nd rfl (by first | exact Or.inl rfl | exact Or.inr rfl))
      (pgs_cons (pg_name (i := 5) nd rfl (by first | exact Or.inl rfl | exact Or.inr rfl)) pgs_nil)))) (pss_one (ps_ret (C8.pe_c (c_with_track T) hr
      (by decide) rfl (pa_cons (pv 3) (pa_cons (pv 4) (pa_cons (C8.pe_c (c_put_in T) hr (by decide) rfl (pa_cons (C8.pe_c (c_track_of T) hr (by decide) rfl
      (pa_cons (pv 3) (pa_cons (pv 4) pa_nil))) (pa_cons (pv 5) pa_nil))) pa_nil)))))))), ?_⟩

  obtain ⟨S, b, n, th, xs, bk, t, d, rfl, ⟨n', k, ev, rfl⟩, ai, q⟩ := h
  obtain ⟨kvs, ta, dx, m, dd, r, ps, hb, hv, ti, ha, mi⟩ := ai.tape
  have hS := ai.ins
  have ok := ai.ok
  obtain ⟨g1, g2, g3⟩ := ai.good
  obtain ⟨x1, x2, rfl, h1, h2⟩ := nil2 ai.dat
  obtain rfl := dpi h1
  obtain ⟨e, rfl, he⟩ := ev_sq h2 g2
  refine ⟨_, rfl, _, rfl, b, n, kvs, rfl, hb, .inl ⟨_, hv, ?_⟩⟩
  refine ⟨_, rfl, th, _, rfl, same_l wo_sub ai.sq, rfl, _, _, rfl, _, _, rfl, rfl, ?_⟩
  refine ⟨_, rfl, _, rfl, _, rfl, _, rfl, S, _, t, k, rfl, hS, ti, ok, g1, fun H1 u s1 hu1 => ?_⟩
  have okr := ok.trs _ (getD_mem g1)
  refine ⟨_, rfl, S, u, e, _, ev, rfl, In.same hS s1, hu1, okr, same_t (Same.wo s1) he, g2, g3, fun H2 u2 s2 hu2 => ?_⟩
  have s12 := s1.trans s2
  exact ⟨S, _, u2, t, k, _, rfl, In.same hS s12, ti.to (Same.wo s12), ok, hu2, putIn_ok okr g2 g3, g1, fun H3 x s3 nx ti3 => q H3 x (s12.trans s3) (wasNone s12 nx) ti3⟩
abbrev s_do_take : Stmt := top 86
abbrev N_do_take : List Str := ["book", "name", "things", "tape", "number", "place", "track"]
theorem sc_do_take : FnScope N_do_take ["book", "name", "things"] (C8.fnScope s_do_take) := C8.fnScope_by (by decide +kernel)
theorem c_do_take (T : Fx w K mg) : C8.Cal P w K mg base 7 "do_take" (spAct K (fun d => ∃ n k e, d = .take n k e)) [] := by
  refine cal_ T.d_do_take (fun _ _ _ _ _ _ us hl => match us, hl with | [_, _, _], _ => rfl) sc_do_take (fun vs H Q E h => by obtain ⟨S, b, n, th, xs, bk, t, d, rfl, _⟩ := h; rfl) (fun f cdv A outer s H vs Q E hr h => ?_)
  have nd := sc_do_take.nd
  have hu := hu_of hr
  have hu64 := hu64 hr
  refine ⟨_, (pss_cons (ps_set (i := 3) nd rfl (by first | exact Or.inl rfl | exact Or.inr rfl) (pe_cx0 (c_tape_of T) hr (by decide) rfl (pa_cons (pv 0) (pa_cons
      (pv 1) pa_nil)))) (pss_cons (ps_asg (pv 2) (pg_unl rfl (pgs_cons (pg_name (i := 4) nd rfl (by first | exact Or.inl rfl | exact Or.inr rfl))
      (pgs_cons (pg_name (i := 5) nd rfl (by first | exact Or.inl rfl | exact Or.inr rfl)) pgs_nil)))) (pss_cons (ps_set (i := 6) nd rfl (by first | exact Or.inl rfl | exact Or.inr rfl)
      (C8.pe_c (c_track_of T) hr (by decide) rfl (pa_cons (pv 3) (pa_cons (pv 4) pa_nil)))) (pss_cons (ps_if (pt_not (pt_chain op_le op_lt pe_int (pv 5)
      (pe_callB (r := rLenSq K) call_len_seq (by rfl) T.f_len PySem.boot_len (pa_cons (pv 6) pa_nil)))) (pss_one ps_never) pss_nil) (pss_one (ps_ret
      (C8.pe_c (c_with_track T) hr (by decide) rfl (pa_cons (pv 3) (pa_cons (pv 4) (pa_cons (pe_op op_cat (pe_slice (r := rSlL K) sl_list (pv 6) po_none
      (po_some (pv 5))) (pe_slice (r := rSlL K) sl_list (pv 6) (po_some (pe_op op_add (pv 5) pe_int)) po_none)) pa_nil)))))))))), ?_⟩

  obtain ⟨S, b, n, th, xs, bk, t, d, rfl, ⟨n', k, pl, rfl⟩, ai, q⟩ := h
  obtain ⟨kvs, ta, dx, m, dd, r, ps, hb, hv, ti, ha, mi⟩ := ai.tape
  have hS := ai.ins
  have ok := ai.ok
  obtain ⟨g1, g2, g3⟩ := ai.good
  obtain ⟨x1, x2, rfl, h1, h2⟩ := nil2 ai.dat
  obtain rfl := dpi h1
  obtain rfl := dpi h2
  refine ⟨_, rfl, _, rfl, b, n, kvs, rfl, hb, .inl ⟨_, hv, ?_⟩⟩
  refine ⟨_, rfl, th, _, rfl, same_l wo_sub ai.sq, rfl, _, _, rfl, _, _, rfl, rfl, ?_⟩
  refine ⟨_, rfl, _, rfl, S, _, t, k, rfl, hS, ti, ok, g1, fun H1 u s1 hu1 => ?_⟩
  have okr := ok.trs _ (getD_mem g1)
  obtain ⟨a, zs, rfl, hz, hzd⟩ := Dp.lstI hu1
  have lz := tr_len hzd
  have hS1 := In.same hS s1
  have few := okr.few
  refine ⟨_, rfl, _, _, rfl, rfl, _, rfl, ?_⟩
  rw [decT g2]
  refine iteT ⟨_, rfl, a, zs, rfl, .inl (same_l wo_sub hz), _, _, rfl, rfl, _, rfl, ?_⟩
  rw [decT (by omega)]
  refine iteF ?_
  obtain ⟨pn, rfl⟩ : ∃ pn : Nat, pl = pn := ⟨pl.toNat, by omega⟩
  refine ⟨_, rfl, _, rfl, _, rfl, _, rfl, _, rfl, a, zs, rfl, same_l wo_sub hz, fun p1 n1 => ?_⟩
  rw [cut_upto]
  have s2 := Same.upd (o := .lst (zs.take pn)) n1
  refine ⟨_, rfl, _, rfl, _, _, rfl, rfl, _, rfl, a, zs, rfl, same_l s2 (same_l wo_sub hz), fun p2 n2 => ?_⟩
  rw [show ((pn : Int) + 1) = ((pn + 1 : Nat) : Int) by omega, cut_from]
  have s3 := Same.upd (o := .lst (zs.drop (pn + 1))) n2
  refine ⟨p1, p2, _, _, rfl, rfl, s3 _ _ upd_same, upd_same, sz (by simp; omega), fun p3 n3 => ?_⟩
  have s4 := Same.upd (o := .lst (zs.take pn ++ zs.drop (pn + 1))) n3
  have s123 := s1.trans (s2.trans s3)
  have d3 := lst_dp (K := K) (In.same hS s123) n3 (DpAll.app (DpAll.take pn (da hzd (Same.wo (s2.trans s3)))) (DpAll.drop (pn + 1) (da hzd (Same.wo (s2.trans s3)))))
  rw [← List.map_take, ← List.map_drop, ← List.map_append] at d3
  have sa := s123.trans s4
  exact ⟨S, _, _, t, k, takeAt (t.tracks.getD k.toNat []) pn, rfl, In.same hS sa, ti.to (Same.wo sa), ok, d3, okr.sub (takeAt_sub _ _), g1, fun H3 x s5 nx ti3 => q H3 x (sa.trans s5) (wasNone sa nx) ti3⟩
abbrev s_do_pace : Stmt := top 87
abbrev N_do_pace : List Str := ["book", "name", "things", "tape", "paced"]
theorem sc_do_pace : FnScope N_do_pace ["book", "name", "things"] (C8.fnScope s_do_pace) := C8.fnScope_by (by decide +kernel)
theorem c_do_pace (T : Fx w K mg) : C8.Cal P w K mg base 6 "do_pace" (spAct K (fun d => ∃ n k e, d = .pace n k e)) [] := by
  refine cal_ T.d_do_pace (fun _ _ _ _ _ _ us hl => match us, hl with | [_, _, _], _ => rfl) sc_do_pace (fun vs H Q E h => by obtain ⟨S, b, n, th, xs, bk, t, d, rfl, _⟩ := h; rfl) (fun f cdv A outer s H vs Q E hr h => ?_)
  have nd := sc_do_pace.nd
  have hu := hu_of hr
  have hu64 := hu64 hr
  refine ⟨_, (pss_cons (ps_set (i := 3) nd rfl (by first | exact Or.inl rfl | exact Or.inr rfl) (pe_cx0 (c_tape_of T) hr (by decide) rfl (pa_cons (pv 0) (pa_cons
      (pv 1) pa_nil)))) (pss_cons (ps_set (i := 4) nd rfl (by first | exact Or.inl rfl | exact Or.inr rfl) (C8.pe_mt0 (m_Tape_paced T) hr (by decide)
      (pv 3))) (pss_cons (ps_expr (C8.pe_mt (m_Map_put T) hr (by decide) (pv 4) (pa_cons (pe_ix (r := rIxL K) ix_list (pv 2) pe_int (fun _ _ => rfl))
      (pa_cons (pe_ix (r := rIxL K) ix_list (pv 2) pe_int (fun _ _ => rfl)) pa_nil)))) (pss_one (ps_ret (pe_tape T hr (by decide) rfl (C8.pe_mt0
      (m_Tape_beat T) hr (by decide) (pv 3)) (C8.pe_mt0 (m_Tape_tracks T) hr (by decide) (pv 3)) (C8.pe_mt0 (m_Map_paces T) hr (by decide) (pv 4)))))))), ?_⟩

  obtain ⟨S, b, n, th, xs, bk, t, d, rfl, ⟨n', k, pc, rfl⟩, ai, q⟩ := h
  obtain ⟨kvs, ta, dx, m, dd, r, ps, hb, hv, ti, ha, mi⟩ := ai.tape
  have hS := ai.ins
  have ok := ai.ok
  obtain ⟨g1, g2, g3⟩ := id ai.good
  obtain ⟨x1, x2, rfl, h1, h2⟩ := nil2 ai.dat
  obtain rfl := dpi h1
  obtain rfl := dpi h2
  refine ⟨_, rfl, _, rfl, b, n, kvs, rfl, hb, .inl ⟨_, hv, ?_⟩⟩
  refine ⟨_, rfl, ta, dx, _, rfl, ha, rfl, _, t, rfl, ti.to wo_sub, ok, fun H1 x d1 ys s1 nx nd ne pm1 m1 => ?_⟩
  obtain ⟨⟨dxm, hx1⟩, hd1⟩ := id m1
  have th1 := same_l s1 (same_l wo_sub ai.sq)
  have g3' : k ∈ ys.map (·.1) ∨ ys.length ≤ 19 := g3.imp (fun z => (pm1.map (·.1)).mem_iff.mpr z) fun z => by rw [pm1.length_eq]; exact z
  have ysl : ys.length ≤ 20 := by rw [pm1.length_eq]; exact ok.fewP
  refine ⟨_, rfl, x, dxm, _, rfl, hx1, rfl, ?_⟩
  refine ⟨_, rfl, th, _, _, _, rfl, rfl, th1, atI_nat (j := 0) rfl, _, rfl, th, _, _, _, rfl, rfl, th1, atI_nat (j := 1) rfl, ?_⟩
  refine ⟨x, d1, _, k, pc, ys, rfl, m1, g1, g2, g3', ysl, ?_⟩
  have s2 : Same H (upd H1 d1 (.dK ((putA ys k pc).map kvI))) := over s1 nd
  have m2 : MapIs K (upd H1 d1 (.dK ((putA ys k pc).map kvI))) x d1 t.beat (putA ys k pc) := ⟨⟨dxm, by rw [upd_ne (Ne.symm ne)]; exact hx1⟩, upd_same⟩
  generalize upd H1 d1 (.dK ((putA ys k pc).map kvI)) = H2 at *
  have hS2 := In.same hS s2
  obtain ⟨⟨dxm2, hx2⟩, hd2⟩ := id m2
  refine ⟨_, rfl, ta, dx, _, rfl, s2 _ _ ha, rfl, _, t, rfl, (ti.to (Same.wo s2)).to wo_sub, ?_⟩
  refine ⟨_, rfl, ta, dx, _, rfl, s2 _ _ ha, rfl, S, _, t, rfl, hS2, ti.to (Same.wo s2), ok, fun H3 p zs s3 np hp hz => ?_⟩
  refine ⟨_, rfl, x, dxm2, _, rfl, s3 _ _ hx2, rfl, S, x, d1, _, _, rfl, In.same hS2 s3, m2.to s3, fun H4 p4 ws s4 pm4 so4 np4 hw4 => ?_⟩
  refine ⟨rfl, rfl, ?_⟩
  have d3 : Dp K (wo S H3) (.ref p) (tksP t.tracks) := by
    refine .lst (SqL.of (by rw [wo_out (In.out hS2 np)]; exact hp)) (da hz (wo_less fun a h => List.mem_cons_of_mem _ h))
  have pm5 : ws.Perm (putA t.paces k pc) := pm4.trans (putA_perm pm1)
  have okT : TpOk { t with paces := ws } := (onTp_ok ok ai.good).perm (t := onTp t (.pace n' k pc)) pm5
  have sa := s2.trans (s3.trans s4)
  exact tape_new (t := { t with paces := ws }) (t2 := onTp t (.pace n' k pc)) (In.same hS sa) rfl (.inl hw4) (.inl (dp d3 (Same.wo s4))) okT rfl rfl pm5 fun H6 x6 s6 nx6 ti6 => q H6 x6 (sa.trans s6) (wasNone sa nx6) ti6
abbrev s_do_later : Stmt := top 89
abbrev N_do_later : List Str := ["book", "name", "things", "tape"]
theorem sc_do_later : FnScope N_do_later ["book", "name", "things"] (C8.fnScope s_do_later) := C8.fnScope_by (by decide +kernel)
theorem c_do_later (T : Fx w K mg) : C8.Cal P w K mg base 7 "do_later" (spAct K (fun d => ∃ n k e, d = .later n k e)) [] := by
  refine cal_ T.d_do_later (fun _ _ _ _ _ _ us hl => match us, hl with | [_, _, _], _ => rfl) sc_do_later (fun vs H Q E h => by obtain ⟨S, b, n, th, xs, bk, t, d, rfl, _⟩ := h; rfl) (fun f cdv A outer s H vs Q E hr h => ?_)
  have nd := sc_do_later.nd
  have hu := hu_of hr
  have hu64 := hu64 hr
  refine ⟨_, (pss_cons (ps_set (i := 3) nd rfl (by first | exact Or.inl rfl | exact Or.inr rfl) (pe_cx0 (c_tape_of T) hr (by decide) rfl (pa_cons (pv 0) (pa_cons
      (pv 1) pa_nil)))) (pss_one (ps_ret (C8.pe_c (c_with_track T) hr (by decide) rfl (pa_cons (pv 3) (pa_cons (pe_ix (r := rIxL K) ix_list (pv 2) pe_int
      (fun _ _ => rfl)) (pa_cons (C8.pe_c (c_later T) hr (by decide) rfl (pa_cons (C8.pe_c (c_track_of T) hr (by decide) rfl (pa_cons (pv 3) (pa_cons
      (pe_ix (r := rIxL K) ix_list (pv 2) pe_int (fun _ _ => rfl)) pa_nil))) (pa_cons (pe_ix (r := rIxL K) ix_list (pv 2) pe_int (fun _ _ => rfl)) pa_nil))) pa_nil))))))), ?_⟩

  obtain ⟨S, b, n, th, xs, bk, t, d, rfl, ⟨n', k, by', rfl⟩, ai, q⟩ := h
  obtain ⟨kvs, ta, dx, m, dd, r, ps, hb, hv, ti, ha, mi⟩ := ai.tape
  have hS := ai.ins
  have ok := ai.ok
  obtain ⟨g1, g2⟩ := ai.good
  obtain ⟨x1, x2, rfl, h1, h2⟩ := nil2 ai.dat
  obtain rfl := dpi h1
  obtain rfl := dpi h2
  have th1 := same_l wo_sub ai.sq
  refine ⟨_, rfl, _, rfl, b, n, kvs, rfl, hb, .inl ⟨_, hv, ?_⟩⟩
  refine ⟨_, rfl, _, rfl, th, _, _, _, rfl, rfl, th1, atI_nat (j := 0) rfl, _, rfl, _, rfl, th, _, _, _, rfl, rfl, th1, atI_nat (j := 0) rfl, ?_⟩
  refine ⟨S, _, t, k, rfl, hS, ti, ok, g1, fun H1 u s1 hu1 => ?_⟩
  have okr := ok.trs _ (getD_mem g1)
  refine ⟨_, rfl, th, _, _, _, rfl, rfl, same_l s1 th1, atI_nat (j := 1) rfl, S, u, _, by', rfl, In.same hS s1, hu1, okr, g2, fun H2 u2 s2 hu2 => ?_⟩
  have s12 := s1.trans s2
  exact ⟨S, _, u2, t, k, _, rfl, In.same hS s12, ti.to (Same.wo s12), ok, hu2, laterT_ok okr g2, g1, fun H3 x s3 nx ti3 => q H3 x (s12.trans s3) (wasNone s12 nx) ti3⟩
end
end K59
set_option maxHeartbeats 4000000
namespace K59
open PySem PySem.Spec PyProof.Rows L2
section
variable {X : Cx} {i k : Nat} {E : XK} {x : Str} {p pos : Pos} {e : Expr} {es : List Expr} {t : TA}
def tAct (i : Nat) (R : Addr → Sp → Prop) (E : XK) (t : TA) : TE := fun σ H Q => ∃ f sp, σ[i]? = some (some (.ref f)) ∧ R f sp ∧ t σ H fun vs H1 => sp vs H1 Q E
theorem pe_act {R : Addr → Sp → Prop} (A : ∀ f sp, R f sp → ∃ (CX : CXT) (k' : Nat) (fd : FuncData) (ps : List Str), k' ≤ k ∧ FnOk X.prog X.w X.K X.mg X.base CX k' f fd ps sp ∧ PySem.W.keepIn X.K (.ref f) = true ∧ Binds X.K fd ps [] ∧ Passes CX X E)
    (hr : Room k X.A) (hN : X.N[i]? = some x) (hv : Vis X.env.scope x) (ha : PA X (e :: es) t)
    (hdb : (x == ("__debug__" : Str)) = false := by decide) (hcd : (x == ("__classdict__" : Str)) = false := by decide)
    (he : starEach (e :: es) X.env = (false, eval e X.env) :: starEach es X.env := by rfl) (hpl : (backTo pos (starEach es X.env)).any (·.1) = false := by rfl) : PE X (.Call (.Name x p) (e :: es) [] pos) (tAct i R E t) := by
  refine ⟨fun pins s σ H Q I h => ?_⟩
  obtain ⟨f, sp, hs, hS, ht⟩ := h
  obtain ⟨CX, k', fd, ps, hk', F, hk, hb, hx⟩ := A f sp hS
  refine (pe_callL (i := i) (f := f) (sp := sp) (dvs := []) (E := E) F (hr.mono hk') hN hv hk hb .nil hx ha hdb hcd he hpl).run pins s σ H Q I ⟨hs, ?_⟩
  have e0 : (fun (vs : List V) (H1 : Hp) => sp (vs ++ []) H1 Q E) = fun vs H1 => sp vs H1 Q E := by
    funext vs H1
    rw [List.append_nil]
  show t σ H (fun vs H1 => sp (vs ++ []) H1 Q E)
  rw [e0]
  exact ht
end
section
variable {P : Program} {w : World} {K : PySem.W.Frag} {mg : Str → Option Value} {base : Heap}
abbrev s_do_part : Stmt := top 94
abbrev N_do_part : List Str := ["book", "name", "things", "tape", "number", "channel", "track", "mine", "rest"]
theorem sc_do_part : FnScope N_do_part ["book", "name", "things"] (C8.fnScope s_do_part) := C8.fnScope_by (by decide +kernel)
theorem c_do_part (T : Fx w K mg) : C8.Cal P w K mg base 7 "do_part" (spAct K (fun d => ∃ n k e, d = .part n k e)) [] := by
  refine cal_ T.d_do_part (fun _ _ _ _ _ _ us hl => match us, hl with | [_, _, _], _ => rfl) sc_do_part (fun vs H Q E h => by obtain ⟨S, b, n, th, xs, bk, t, d, rfl, _⟩ := h; rfl) (fun f cdv A outer s H vs Q E hr h => ?_)
  have nd := sc_do_part.nd
  have hu := hu_of hr
  have hu64 := hu64 hr
  refine ⟨_, (pss_cons (ps_set (i := 3) nd rfl (by first | exact Or.inl rfl | exact Or.inr rfl) (pe_cx0 (c_tape_of T) hr (by decide) rfl (pa_cons (pv 0) (pa_cons
      (pv 1) pa_nil)))) (pss_cons (ps_asg (pv 2) (pg_unl rfl (pgs_cons (pg_name (i := 4) nd rfl (by first | exact Or.inl rfl | exact Or.inr rfl))
      (pgs_cons (pg_name (i := 5) nd rfl (by first | exact Or.inl rfl | exact Or.inr rfl)) pgs_nil)))) (pss_cons (ps_set (i := 6) nd rfl (by first | exact Or.inl rfl | exact Or.inr rfl)
      (C8.pe_c (c_track_of T) hr (by decide) rfl (pa_cons (pv 3) (pa_cons (pv 4) pa_nil)))) (pss_cons (ps_if (pt_not (pt_chain op_le op_le pe_int (pv 5) pe_int))
      (pss_one ps_never) pss_nil) (pss_cons (ps_if (pt_cmpR op_ge (pe_callB (r := rLenSq K) call_len_seq (by rfl) T.f_len PySem.boot_len (pa_cons
      (C8.pe_mt0 (m_Tape_tracks T) hr (by decide) (pv 3)) pa_nil)) (gK T.g_MOST_TRACKS) (nomark _)) (pss_one ps_never) pss_nil) (pss_cons (ps_asg
      (C8.pe_c (c_apart T) hr (by decide) rfl (pa_cons (pv 6) (pa_cons (pv 5) pa_nil))) (pg_tup rfl (pgs_cons (pg_name (i := 7) nd rfl (by first | exact Or.inl rfl | exact Or.inr rfl))
      (pgs_cons (pg_name (i := 8) nd rfl (by first | exact Or.inl rfl | exact Or.inr rfl)) pgs_nil)))) (pss_one (ps_ret (pe_tape T hr (by decide) rfl
      (C8.pe_mt0 (m_Tape_beat T) hr (by decide) (pv 3)) (pe_op op_cat (C8.pe_mt0 (m_Tape_tracks T) hr (by decide) (C8.pe_c (c_with_track T) hr (by decide) rfl
      (pa_cons (pv 3) (pa_cons (pv 4) (pa_cons (pv 8) pa_nil))))) (pe_lst (pa_cons (pv 7) pa_nil))) (C8.pe_mt0 (m_Tape_paces T) hr (by decide) (pv 3))))))))))), ?_⟩

  obtain ⟨S, b, n, th, xs, bk, t, d, rfl, ⟨n', k, c, rfl⟩, ai, q⟩ := h
  obtain ⟨kvs, ta, dx, m, dd, r, ps, hb, hv, ti, ha, mi⟩ := ai.tape
  have hS := ai.ins
  have ok := ai.ok
  obtain ⟨g1, g2, g3⟩ := id ai.good
  obtain ⟨x1, x2, rfl, h1, h2⟩ := nil2 ai.dat
  obtain rfl := dpi h1
  obtain rfl := dpi h2
  refine ⟨_, rfl, _, rfl, b, n, kvs, rfl, hb, .inl ⟨_, hv, ?_⟩⟩
  refine ⟨_, rfl, th, _, rfl, same_l wo_sub ai.sq, rfl, _, _, rfl, _, _, rfl, rfl, ?_⟩
  refine ⟨_, rfl, _, rfl, S, _, t, k, rfl, hS, ti, ok, g1, fun H1 u s1 hu1 => ?_⟩
  have okr := ok.trs _ (getD_mem g1)
  refine ⟨_, rfl, _, _, rfl, rfl, _, rfl, ?_⟩
  rw [decT g2.1]
  refine iteT ⟨_, _, rfl, rfl, _, rfl, ?_⟩
  rw [decT g2.2]
  refine iteF ?_
  refine ⟨_, rfl, ta, dx, _, rfl, s1 _ _ ha, rfl, S, _, t, rfl, In.same hS s1, ti.to (Same.wo s1), ok, fun H2 p zs s2 np hp hz => ?_⟩
  have lz : zs.length = t.tracks.length := by rw [DpAll.len hz, List.length_map]
  refine ⟨p, zs, rfl, .inl (SqL.of hp), _, _, rfl, rfl, _, rfl, ?_⟩
  rw [decF (by omega)]
  refine iteF ?_
  have s12 := s1.trans s2
  refine ⟨_, rfl, _, rfl, S, u, _, c, rfl, In.same hS s12, dp hu1 (Same.wo s2), okr, fun H3 p3 mi3 re3 s3 hp3 hm3 hr3 => ?_⟩
  refine ⟨p3, _, rfl, SqT.of hp3, rfl, _, _, rfl, _, _, rfl, rfl, ?_⟩
  have s13 := s12.trans s3
  refine ⟨_, rfl, ta, dx, _, rfl, s13 _ _ ha, rfl, _, t, rfl, (ti.to (Same.wo s13)).to wo_sub, ?_⟩
  have okrest : TrOk (restT (t.tracks.getD k.toNat []) c) := okr.sub List.filter_sublist
  refine ⟨_, rfl, _, rfl, _, rfl, S, _, re3, t, k, _, rfl, In.same hS s13, ti.to (Same.wo s13), ok, hr3, okrest, g1, fun H4 x4 s4 n4 ti4 => ?_⟩
  have ok4 := ok.set okrest k.toNat
  obtain ⟨a4, dx4, m4, d4, r4, ps4, ea, ha4, mi4, pm4, hr4⟩ := id ti4
  cases ea
  have s14 := s13.trans s4
  refine ⟨x4, dx4, _, rfl, wo_sub _ _ ha4, rfl, S, _, _, rfl, In.same hS s14, ti4, ok4, fun H5 p5 ws s5 n5 hp5 hw5 => ?_⟩
  have s15 := s14.trans s5
  refine ⟨_, rfl, sz (by simp), fun p6 n6 => ?_⟩
  have s6 := Same.upd (o := .lst [mi3]) n6
  have lw : ws.length = t.tracks.length := by rw [DpAll.len hw5, List.length_map, List.length_set]
  refine ⟨p5, p6, ws, [mi3], rfl, rfl, s6 _ _ hp5, upd_same, sz (by simp; omega), fun p7 n7 => ?_⟩
  have s7 := Same.upd (o := .lst (ws ++ [mi3])) n7
  have d7 : Dp K (wo S (upd (upd H5 p6 (.lst [mi3])) p7 (.lst (ws ++ [mi3])))) (.ref p7) (tksP (onTp t (.part n' k c)).tracks) := by
    refine lst_dp (In.same hS (s15.trans s6)) n7 ?_
    show DpAll _ _ _ (List.map trP (t.tracks.set k.toNat (restT (t.tracks.getD k.toNat []) c) ++ [mineT (t.tracks.getD k.toNat []) c]))
    rw [List.map_append]
    exact DpAll.app (da hw5 ((wo_less fun a h => List.mem_cons_of_mem _ h).trans (Same.wo s6))) (.cons (dp hm3 (Same.wo (s4.trans (s5.trans s6)))) .nil)
  have s17 := s15.trans (s6.trans s7)
  generalize upd (upd H5 p6 (.lst [mi3])) p7 (.lst (ws ++ [mi3])) = H7 at *
  refine ⟨_, rfl, ta, dx, _, rfl, s17 _ _ ha, rfl, S, _, t, rfl, In.same hS s17, (ti.to (Same.wo s17)).to wo_sub, fun H8 p8 ys s8 pm8 so8 np8 hy8 => ?_⟩
  refine ⟨rfl, rfl, ?_⟩
  have okT : TpOk { onTp t (.part n' k c) with paces := ys } := (onTp_ok ok ai.good).perm (t := onTp t (.part n' k c)) pm8
  have sa := s17.trans s8
  exact tape_new (t := { onTp t (.part n' k c) with paces := ys }) (t2 := onTp t (.part n' k c)) (In.same hS sa) rfl (.inl hy8) (.inl (dp d7 (Same.wo s8))) okT rfl rfl pm8 fun H9 x9 s9 nx9 ti9 => q H9 x9 (sa.trans s9) (wasNone sa nx9) ti9
def spDoNew (K : PySem.W.Frag) : Sp := fun vs H Q E => ∃ (S : List Addr) (b : Addr) (n : Str) (th : Addr) (x : Int) (bk : Bk), vs = [.ref b, .str n, .ref th] ∧ In S H ∧ BkIs K (wo S H) b bk ∧ SqL K (wo S H) th [.int x] ∧
  ((Good bk (.new n x) ∧ ∀ H' z, Same H H' → H z = none → TapeIs K (wo S H') (.ref z) ⟨x, [], [[]]⟩ → Q (.ref z) H') ∨ (n = "A" ∧ Raised K E H "BadName" "badname"))
theorem bk_len {G : Hp} {kvs : List (Key × V)} {bk : Bk} (r : Paired (bkR K G) kvs bk) : kvs.length = bk.length := Paired.length r
theorem bk_none {G : Hp} {kvs : List (Key × V)} {bk : Bk} {n : Str} (r : Paired (bkR K G) kvs bk) (h : n ∉ bk.map (·.1)) : valV kvs (Sum.inr n) = none := by
  rcases bk_at (n := n) r with ⟨v, t, h1, h2, h3⟩ | ⟨h1, h2⟩
  · rw [atA_none.mpr h] at h2; cases h2
  · exact h1
abbrev s_do_new : Stmt := top 83
abbrev N_do_new : List Str := ["book", "name", "things", "tape"]
theorem sc_do_new : FnScope N_do_new ["book", "name", "things"] (C8.fnScope s_do_new) := C8.fnScope_by (by decide +kernel)
theorem c_do_new (T : Fx w K mg) : CalX P w K mg base 6 "do_new" (spDoNew K) := by
  refine calX_ T.d_do_new (fun _ _ _ _ _ _ us hl => match us, hl with | [_, _, _], _ => rfl) sc_do_new (fun vs H Q E h => by obtain ⟨S, b, n, th, x, bk, rfl, _⟩ := h; rfl) (fun f cdv A outer s H vs Q E hr h => ?_)
  have nd := sc_do_new.nd
  have hu := hu_of hr
  have hu64 := hu64 hr
  refine ⟨_, (pss_cons (ps_expr (pe_cx (c_need_new T) hr (by decide) rfl pass_self (pa_cons (pv 0) (pa_cons (pv 1) pa_nil)))) (pss_cons (ps_set (i := 3) nd rfl (by first | exact Or.inl rfl | exact Or.inr rfl)
      (pe_tape1 T hr (by decide) rfl (pe_ix (r := rIxL K) ix_list (pv 2) pe_int (fun _ _ => rfl)))) (pss_cons (ps_expr (C8.pe_c (c_need_room_deeds T) hr
      (by decide) rfl (pa_cons (pv 0) pa_nil))) (pss_one (ps_ret (pv 3)))))), ?_⟩

  obtain ⟨S, b, n, th, x, bk, rfl, hS, ⟨kvs, hb, hr'⟩, hth, h⟩ := h
  have hb' := wo_sub _ _ hb
  rcases h with ⟨⟨g1, g2, g3, g4⟩, q⟩ | ⟨rfl, q⟩
  · refine ⟨_, rfl, _, rfl, b, n, kvs, rfl, hb', .inl ⟨g1, bk_none hr' g2, fun H1 s1 => ?_⟩⟩
    intro tt t0 t1 a1 a2 a3
    refine ⟨_, rfl, th, _, _, _, rfl, rfl, same_l s1 (same_l wo_sub hth), atI_nat (j := 0) rfl, fun x' dx' nx ndx hne => ?_⟩
    refine tape_new (Q := fun z H2 => gName 3 z (L2.start N_do_new [.ref b, .str n, .ref th]) H2 (tSeq (tDrop (tCall spRoomD [] C8.E0 (tCons (tVar 0) tNil))) (tRet (tVar 3)) { nx := fun _ H' => Q .non H', rt := Q })) (t := ⟨x, [], [[]]⟩) (t2 := ⟨x, [], [[]]⟩) (In.same hS s1) rfl (.inr ⟨⟨t1, rfl, a3 _⟩, rfl⟩) (.inr ⟨⟨tt, t0, rfl, a1 _, a2 _⟩, rfl⟩) (TpOk.new g3) rfl rfl (List.Perm.refl _) (fun H2 z s2 nz tz => ?_) x' dx' nx ndx hne
    have s12 := s1.trans s2
    exact ⟨_, rfl, b, kvs, rfl, s12 _ _ hb', by rw [bk_len hr']; exact g4, _, rfl, q H2 z s12 (wasNone s1 nz) tz⟩
  · exact ⟨_, rfl, _, rfl, b, _, kvs, rfl, hb', .inr ⟨rfl, q⟩⟩
/-! ### after -/
inductive ActR (K : PySem.W.Frag) : Addr → Sp → Prop
  | new : ActR K (cA K "do_new") (spDoNew K)
  | add : ActR K (cA K "do_add") (spAct K (fun d => ∃ n, d = .add n))
  | put : ActR K (cA K "do_put") (spAct K (fun d => ∃ n k e, d = .put n k e))
  | take : ActR K (cA K "do_take") (spAct K (fun d => ∃ n k e, d = .take n k e))
  | pace : ActR K (cA K "do_pace") (spAct K (fun d => ∃ n k e, d = .pace n k e))
  | later : ActR K (cA K "do_later") (spAct K (fun d => ∃ n k e, d = .later n k e))
  | part : ActR K (cA K "do_part") (spAct K (fun d => ∃ n k e, d = .part n k e))
theorem held_of {k : Nat} {x : Str} {sp : Sp} (c : C8.Cal P w K mg base k x sp []) (a : mg x = some (.ref (cA K x))) (hk : k ≤ 8) :
    ∃ (CX : CXT) (k' : Nat) (fd : FuncData) (ps : List Str), k' ≤ 8 ∧ FnOk P w K mg base CX k' (cA K x) fd ps sp ∧ PySem.W.keepIn K (.ref (cA K x)) = true ∧ Binds K fd ps [] ∧ (CX = C8.CX0 ∨ CX = L2.CX P w) := by
  obtain ⟨f, fd, ps, ds, F, hm, kp, b, d⟩ := c.ex
  rw [a] at hm
  cases hm
  cases d
  exact ⟨_, k, fd, ps, hk, F, kp, b, .inl rfl⟩
theorem act_held (T : Fx w K mg) : ∀ f sp, ActR K f sp → ∃ (CX : CXT) (k' : Nat) (fd : FuncData) (ps : List Str), k' ≤ 8 ∧ FnOk P w K mg base CX k' f fd ps sp ∧ PySem.W.keepIn K (.ref f) = true ∧ Binds K fd ps [] ∧ (CX = C8.CX0 ∨ CX = L2.CX P w) := by
  intro f sp h
  cases h with
  | new =>
    obtain ⟨f, fd, ps, F, hm, kp, b⟩ := (c_do_new (P := P) (base := base) T).ex
    have a := T.a_do_new
    rw [a] at hm
    cases hm
    exact ⟨_, _, fd, ps, by decide, F, kp, b, .inr rfl⟩
  | add => exact held_of (c_do_add T) T.a_do_add (by decide)
  | put => exact held_of (c_do_put T) T.a_do_put (by decide)
  | take => exact held_of (c_do_take T) T.a_do_take (by decide)
  | pace => exact held_of (c_do_pace T) T.a_do_pace (by decide)
  | later => exact held_of (c_do_later T) T.a_do_later (by decide)
  | part => exact held_of (c_do_part T) T.a_do_part (by decide)
end
end K59
set_option maxHeartbeats 4000000
namespace K59
open PySem PySem.Spec PyProof.Rows L2
def resT (bk : Bk) (d : Deed) : Tp := match d with
  | .new _ x => ⟨x, [], [[]]⟩
  | d => onTp ((atA bk d.name).getD ⟨0, [], []⟩) d
def isDrop : Deed → Bool
  | .drop _ => true
  | _ => false
theorem size_of (d : Deed) : (d.word, ((d.rest.length + 2 : Nat) : Int)) ∈ sizeTab := by
  cases d <;> simp [sizeTab, Deed.word, Deed.rest]
theorem word_no {a b : Str} (h : (a == b) = false) : decide (V.str a = V.str b) = false := decF fun z => by
  rw [V.str.inj z] at h
  simp at h
theorem word_drop (d : Deed) : decide (V.str d.word = V.str "drop") = isDrop d := by
  cases d <;> simp only [Deed.word, isDrop] <;> first | exact decF (fun z => absurd (V.str.inj z) (by decide +kernel)) | rfl | simp
theorem word_cut (d : Deed) : decide (V.str d.word = V.str "cut") = false := by
  cases d <;> simp only [Deed.word] <;> exact decF (fun z => absurd (V.str.inj z) (by decide +kernel))
theorem resT_eq {bk : Bk} {d : Deed} {t : Tp} (h : atA bk d.name = some t) (hn : ∀ n x, d ≠ .new n x) : resT bk d = onTp t d := by
  cases d with
  | new n x => exact absurd rfl (hn n x)
  | _ =>
    unfold resT
    simp only [h, Option.getD_some]
section
variable {K : PySem.W.Frag}
theorem putK_map {kvs : List (Key × V)} {k : Key} {v : V} (h : (valV kvs k).isSome = true) : putK kvs k v = kvs.map fun kv => if kv.1 = k then (kv.1, v) else kv := by
  unfold putK
  rw [valV_any, if_pos h]
theorem bk_on {G : Hp} {n : Str} {z : V} {d : Deed} : ∀ {kvs : List (Key × V)} {bk : Bk}, Paired (bkR K G) kvs bk → (∀ p ∈ bk, p.1 = n → TapeIs K G z (onTp p.2 d)) →
    Paired (bkR K G) (kvs.map fun kv => if kv.1 = Sum.inr n then (kv.1, z) else kv) (bk.map fun p => if p.1 = n then (p.1, onTp p.2 d) else p)
  | _, _, .nil, _ => .nil
  | kv :: kvs, p :: bk, .cons r t, h => by
    refine .cons ?_ (bk_on t fun q hq => h q (List.mem_cons_of_mem _ hq))
    show bkR K G (if kv.1 = Sum.inr n then (kv.1, z) else kv) (if p.1 = n then (p.1, onTp p.2 d) else p)
    by_cases e : p.1 = n
    · rw [if_pos e, if_pos (by rw [r.1, e])]
      exact ⟨r.1, h p List.mem_cons_self e⟩
    · rw [if_neg e, if_neg (by rw [r.1]; exact fun z => e (Sum.inr.inj z))]
      exact r
theorem Paired_app {α β : Type} {R : α → β → Prop} {a : α} {b : β} (h : R a b) : ∀ {xs : List α} {ys : List β}, Paired R xs ys → Paired R (xs ++ [a]) (ys ++ [b])
  | _, _, .nil => .cons h .nil
  | _, _, .cons r t => .cons r (Paired_app h t)
theorem bk_dropK {G : Hp} {n : Str} : ∀ {kvs : List (Key × V)} {bk : Bk}, Paired (bkR K G) kvs bk → Paired (bkR K G) (dropK kvs (Sum.inr n)) (dropA bk n)
  | _, _, .nil => .nil
  | kv :: kvs, p :: bk, .cons r t => by
    unfold dropK dropA
    by_cases e : p.1 = n
    · rw [List.filter_cons_of_neg (by simp [r.1, e]), List.filter_cons_of_neg (by simp [e])]
      exact bk_dropK t
    · rw [List.filter_cons_of_pos (by rw [decide_eq_true_eq, r.1]; exact fun z => e (Sum.inr.inj z)), List.filter_cons_of_pos (by simp [e])]
      exact .cons r (bk_dropK t)
/-- the book with the new tape -/
theorem bk_done {G : Hp} {kvs : List (Key × V)} {bk : Bk} {d : Deed} {z : V} (ok : BkOk bk) (r : Paired (bkR K G) kvs bk) (g : Good bk d) (hd : isDrop d = false) (hz : TapeIs K G z (resT bk d)) : Paired (bkR K G) (putK kvs (Sum.inr d.name) z) (done bk d) := by
  have on : ∀ t, atA bk d.name = some t → resT bk d = onTp t d → Paired (bkR K G) (putK kvs (Sum.inr d.name) z) (bk.map fun p => if p.1 = d.name then (p.1, onTp p.2 d) else p) := by
    intro t ht e
    rw [e] at hz
    rcases bk_at (n := d.name) r with ⟨v, t', h1, h2, h3⟩ | ⟨h1, h2⟩
    · rw [putK_map (by rw [h1]; rfl)]
      refine bk_on r fun p hp e2 => ?_
      have z2 := uniq_key ok.keys hp (atA_in ht) e2
      rw [z2]
      exact hz
    · rw [ht] at h2; cases h2
  cases d with
  | new n x =>
    have h := bk_none r g.2.1
    show Paired _ (putK kvs (Sum.inr n) z) (bk ++ [(n, _)])
    rw [putK_new _ h]
    exact Paired_app ⟨rfl, hz⟩ r
  | drop n => cases hd
  | add n => obtain ⟨t, h1, h2⟩ := g; exact on t h1 (resT_eq h1 (fun _ _ z => by cases z))
  | put n k e => obtain ⟨t, h1, h2⟩ := g; exact on t h1 (resT_eq h1 (fun _ _ z => by cases z))
  | take n k p => obtain ⟨t, h1, h2⟩ := g; exact on t h1 (resT_eq h1 (fun _ _ z => by cases z))
  | pace n x p => obtain ⟨t, h1, h2⟩ := g; exact on t h1 (resT_eq h1 (fun _ _ z => by cases z))
  | later n k b' => obtain ⟨t, h1, h2⟩ := g; exact on t h1 (resT_eq h1 (fun _ _ z => by cases z))
  | part n k c => obtain ⟨t, h1, h2⟩ := g; exact on t h1 (resT_eq h1 (fun _ _ z => by cases z))
theorem act_of (d : Deed) (hd : isDrop d = false) : ∃ nm sp, (d.word, nm) ∈ deedTab ∧ ActR K (cA K nm) sp ∧ ∀ (H : Hp) (Q : VK) (E : XK) (S : List Addr) (b th : Addr) (xs : List V) (bk : Bk), In S H → BkIs K (wo S H) b bk → BkOk bk → SqL K (wo S H) th xs → DpAll K (wo S H) xs d.rest →
    ((Good bk d ∧ ∀ H' x, Same H H' → H x = none → TapeIs K (wo S H') (.ref x) (resT bk d) → Q (.ref x) H') ∨ ((∃ x, d = .new "A" x) ∧ Raised K E H "BadName" "badname")) → sp [.ref b, .str d.name, .ref th] H Q E := by
  have on : ∀ (p : Deed → Prop), p d → (∀ n x, d ≠ .new n x) → (∀ bk, Good bk d → ∃ t, atA bk d.name = some t ∧ GoodT t d ∧ resT bk d = onTp t d) → ∀ (H : Hp) (Q : VK) (E : XK) (S : List Addr) (b th : Addr) (xs : List V) (bk : Bk), In S H → BkIs K (wo S H) b bk → BkOk bk → SqL K (wo S H) th xs → DpAll K (wo S H) xs d.rest →
    ((Good bk d ∧ ∀ H' x, Same H H' → H x = none → TapeIs K (wo S H') (.ref x) (resT bk d) → Q (.ref x) H') ∨ ((∃ x, d = .new "A" x) ∧ Raised K E H "BadName" "badname")) → spAct K p [.ref b, .str d.name, .ref th] H Q E := by
    intro p hp hn hg H Q E S b th xs bk h1 h2 h3 h4 h5 h6
    rcases h6 with ⟨g, q⟩ | ⟨⟨x, e⟩, _⟩
    · obtain ⟨t, g1, g2, g3⟩ := hg bk g
      rw [g3] at q
      exact ⟨S, b, d.name, th, xs, bk, t, d, rfl, hp, ⟨h1, rfl, h2, h4, h5, g1, h3.tp _ (atA_in g1), g2⟩, q⟩
    · exact absurd e (hn _ _)
  cases d with
  | new n x =>
    refine ⟨"do_new", _, by simp [deedTab, Deed.word], .new, fun H Q E S b th xs bk h1 h2 h3 h4 h5 h6 => ?_⟩
    obtain ⟨y, rfl, hy⟩ := nil1 h5
    obtain rfl := dpi hy
    refine ⟨S, b, n, th, x, bk, rfl, h1, h2, h4, ?_⟩
    rcases h6 with h | ⟨⟨y, e⟩, h⟩
    · exact .inl h
    · exact .inr ⟨by cases e; rfl, h⟩
  | drop n => cases hd
  | add n => exact ⟨"do_add", _, by simp [deedTab, Deed.word], .add, on _ ⟨n, rfl⟩ (fun _ _ z => by cases z) fun bk g => by obtain ⟨t, h1, h2⟩ := g; exact ⟨t, h1, h2, resT_eq h1 (fun _ _ z => by cases z)⟩⟩
  | put n k e => exact ⟨"do_put", _, by simp [deedTab, Deed.word], .put, on _ ⟨n, k, e, rfl⟩ (fun _ _ z => by cases z) fun bk g => by obtain ⟨t, h1, h2⟩ := g; exact ⟨t, h1, h2, resT_eq h1 (fun _ _ z => by cases z)⟩⟩
  | take n k p => exact ⟨"do_take", _, by simp [deedTab, Deed.word], .take, on _ ⟨n, k, p, rfl⟩ (fun _ _ z => by cases z) fun bk g => by obtain ⟨t, h1, h2⟩ := g; exact ⟨t, h1, h2, resT_eq h1 (fun _ _ z => by cases z)⟩⟩
  | pace n x p => exact ⟨"do_pace", _, by simp [deedTab, Deed.word], .pace, on _ ⟨n, x, p, rfl⟩ (fun _ _ z => by cases z) fun bk g => by obtain ⟨t, h1, h2⟩ := g; exact ⟨t, h1, h2, resT_eq h1 (fun _ _ z => by cases z)⟩⟩
  | later n k b' => exact ⟨"do_later", _, by simp [deedTab, Deed.word], .later, on _ ⟨n, k, b', rfl⟩ (fun _ _ z => by cases z) fun bk g => by obtain ⟨t, h1, h2⟩ := g; exact ⟨t, h1, h2, resT_eq h1 (fun _ _ z => by cases z)⟩⟩
  | part n k c => exact ⟨"do_part", _, by simp [deedTab, Deed.word], .part, on _ ⟨n, k, c, rfl⟩ (fun _ _ z => by cases z) fun bk g => by obtain ⟨t, h1, h2⟩ := g; exact ⟨t, h1, h2, resT_eq h1 (fun _ _ z => by cases z)⟩⟩
end
theorem Dp.P {K : PySem.W.Frag} {G : Hp} {v : V} {d : Deed} (h : Dp K G v d.P) : ∃ a rs, v = .ref a ∧ SqT K G a (.str d.word :: .str d.name :: rs) ∧ DpAll K G rs d.rest := by
  obtain ⟨a, xs, rfl, h1, h2⟩ := Dp.tupI h
  cases h2 with
  | cons a1 t => cases a1; cases t with
    | cons a2 t => cases a2; exact ⟨a, _, rfl, h1, t⟩
section
variable {P : Program} {w : World} {K : PySem.W.Frag} {mg : Str → Option Value} {base : Heap}
def spAfter (K : PySem.W.Frag) : Sp := fun vs H Q E => ∃ (S : List Addr) (b : Addr) (v : V) (bk : Bk), vs = [.ref b, v] ∧ In S H ∧ BkIs K (wo S H) b bk ∧ BkOk bk ∧
  ((∃ d : Deed, Dp K (wo S H) v d.P ∧ ((Good bk d ∧ ∀ H' p, Same H H' → H p = none → BkIs K (wo S H') p (done bk d) → Q (.ref p) H') ∨
    ((∃ x, d = .new "A" x) ∧ Raised K E H "BadName" "badname") ∨ ((∃ n, d = .drop n ∧ n ∉ bk.map (·.1)) ∧ Raised K E H "NoTape" "notape"))) ∨
   (∃ a, v = .ref a ∧ SqT K H a []) ∧ Raised K E H "BadDeed" "baddeed")
theorem Raised.to {E : XK} {H H1 : Hp} {x z : Str} (r : Raised K E H x z) (s : Same H H1) : Raised K E H1 x z := fun H' d s' n e => r H' d (s.trans s') (wasNone s n) e
abbrev s_after : Stmt := top 99
abbrev N_after : List Str := ["book", "deed", "word", "name", "things", "later_book", "act"]
theorem sc_after : FnScope N_after ["book", "deed"] (C8.fnScope s_after) := C8.fnScope_by (by decide +kernel)
theorem c_after (T : Fx w K mg) : CalX P w K mg base 9 "after" (spAfter K) := by
  obtain ⟨fI, xT_BadDeed⟩ := T.x_BadDeed
  obtain ⟨dZ, hZ, lowZ, kdZ, tabZ⟩ := T.g_SIZES
  obtain ⟨dD, hD, tabD⟩ := T.g_DEEDS
  refine calX_ T.d_after (fun _ _ _ _ _ _ us hl => match us, hl with | [_, _], _ => rfl) sc_after (fun vs H Q E h => by obtain ⟨S, b, v, bk, rfl, _⟩ := h; rfl) (fun f cdv A outer s H vs Q E hr h => ?_)
  have nd := sc_after.nd
  have hu := hu_of hr
  have hu64 := hu64 hr
  have actH : ∀ f' sp, ActR K f' sp → ∃ (CX : CXT) (k' : Nat) (fd : FuncData) (ps : List Str), k' ≤ 8 ∧ FnOk P w K mg base CX k' f' fd ps sp ∧ PySem.W.keepIn K (.ref f') = true ∧ Binds K fd ps [] ∧ Passes CX (cxOf (L2.CX P w) P w K mg base N_after "after" (C8.fnScope s_after) f cdv A outer s H E) E := by
    intro f' sp h'
    obtain ⟨CX, k', fd, ps, a1, a2, a3, a4, a5⟩ := act_held (P := P) (base := base) T f' sp h'
    rcases a5 with rfl | rfl
    · exact ⟨_, k', fd, ps, a1, a2, a3, a4, C8.pass0⟩
    · exact ⟨_, k', fd, ps, a1, a2, a3, a4, pass_self⟩
  refine ⟨_, (pss_cons (ps_if (PW.pt (pw_or (pt_cmpR op_eq (pe_callB (r := rLenSq K) call_len_seq (by rfl) T.f_len PySem.boot_len (pa_cons (pv 1) pa_nil)) pe_int
      (nomark _)) (pw_or1 (pt_cmpR op_ne (pe_kget2 (pe_glob (v := .ref dZ) rfl hZ rfl) (pe_ix (r := rIxT K) ix_tup (pv 1) pe_int (fun _ _ => rfl)) pe_int ⟨rfl, rfl, rfl, rfl⟩)
      (pe_callB (r := rLenSq K) call_len_seq (by rfl) T.f_len PySem.boot_len (pa_cons (pv 1) pa_nil)) (nomark _))))) (pss_one (ps_raise rfl (takes_of rfl rfl rfl rfl)
      (pmk_x PySem.F.excBase_ValueError PySem.F.store_ValueError xT_BadDeed hr))) pss_nil) (pss_cons (ps_asg (pv 1) (pg_star (n := 3) (i := 2) rfl
      (pgs_cons (pg_name (i := 2) nd rfl (by first | exact Or.inl rfl | exact Or.inr rfl)) (pgs_cons (pg_name (i := 3) nd rfl (by first | exact Or.inl rfl | exact Or.inr rfl))
      (pgs_star (pg_name (i := 4) nd rfl (by first | exact Or.inl rfl | exact Or.inr rfl)) pgs_nil))))) (pss_cons (ps_set (i := 5) nd rfl (by first | exact Or.inl rfl | exact Or.inr rfl)
      (pe_callTy call_dict_copy (by rfl) T.f_dict (by decide +kernel) (pa_cons (pv 0) pa_nil))) (pss_cons (ps_if (pt_cmpR op_eq (pv 2) pe_str (nomark _))
      (pss_cons (ps_expr (pe_cx (c_tape_of T) hr (by decide) rfl pass_self (pa_cons (pv 0) (pa_cons (pv 3) pa_nil)))) (pss_one (ps_expr (pe_dpop1 (pv 5)
      (pv 3) ⟨rfl, rfl, rfl, rfl⟩)))) (pss_one (ps_if (pt_cmpR op_eq (pv 2) pe_str (nomark _)) (pss_one ps_never) (pss_cons (ps_set (i := 6) nd rfl (by first | exact Or.inl rfl | exact Or.inr rfl)
      (pe_ix ix_kdict (pe_glob (v := .ref dD) rfl hD rfl) (pv 2) (fun _ _ => rfl))) (pss_one (ps_dput hu (pv 5) (pv 3) (pe_act (i := 6) (R := ActR K)
      (E := E) (k := 8) actH hr rfl (Or.inl rfl) (pa_cons (pv 0) (pa_cons (pv 3) (pa_cons (pv 4) pa_nil)))) rfl)))))) (pss_one (ps_ret (pv 5))))))), ?_⟩

  obtain ⟨S, b, v, bk, rfl, hS, bki, ok, h⟩ := h
  have bki' := bki
  obtain ⟨kvs, hb, hr'⟩ := bki'
  have hb' := wo_sub _ _ hb
  rcases h with ⟨d, hd, h⟩ | ⟨⟨a, rfl, ha⟩, q⟩
  · obtain ⟨a, rs, rfl, ha, hrs⟩ := K59.Dp.P hd
    have ha' := same_t wo_sub ha
    have lr : rs.length = d.rest.length := DpAll.len hrs
    have l4 : d.rest.length ≤ 2 := by cases d <;> simp [Deed.rest]
    refine ⟨_, rfl, a, _, rfl, .inr ha', rfl, _, rfl, ?_⟩
    rw [decF (fun z => by have := V.int.inj z; simp at this; omega)]
    refine iteF ⟨dZ, rfl, lowZ, kdZ, _, rfl, a, _, _, _, rfl, rfl, ha', atI_nat (j := 0) rfl, _, _, rfl, tabZ _ (size_of d), _, rfl, a, _, rfl, .inr ha', rfl, _, rfl, ?_⟩
    rw [decT (by simp [lr]; omega)]
    refine iteF ⟨_, rfl, a, _, rfl, ha', (by show 3 ≤ rs.length + 2 + 1; omega), (by show rs.length + 2 ≤ 16384; omega), fun D hD => ?_⟩
    rw [star3, star3']
    refine ⟨_, _, rfl, _, _, rfl, _, _, rfl, rfl, ?_⟩
    have s1 := Same.upd (o := .lst rs) hD
    refine ⟨_, rfl, b, kvs, rfl, .inl (s1 _ _ hb'), fun p np => ?_⟩
    have s2 := Same.upd (o := .dK kvs) np
    have s12 := s1.trans s2
    have npH := wasNone s1 np
    have pS := hS.out npH
    refine ⟨_, rfl, rfl, _, rfl, ?_⟩
    rw [word_drop d]
    rcases Bool.eq_false_or_eq_true (isDrop d) with hdr | hdr
    · rw [hdr]
      obtain ⟨n, rfl⟩ : ∃ n, d = .drop n := by cases d <;> first | exact ⟨_, rfl⟩ | cases hdr
      refine iteT ⟨_, rfl, _, rfl, b, n, kvs, rfl, s12 _ _ hb', ?_⟩
      rcases h with ⟨⟨t, g, _⟩, q⟩ | ⟨⟨x, e⟩, _⟩ | ⟨⟨n', e, hn⟩, q⟩
      · rcases bk_at (n := n) hr' with ⟨v, t', h1, h2, h3⟩ | ⟨h1, h2⟩
        · refine .inl ⟨v, h1, ?_⟩
          refine ⟨_, rfl, p, rfl, .inl ⟨kvs, .inl upd_same⟩, _, rfl, kvs, Sum.inr n, v, upd_same, rfl, h1, ?_⟩
          refine ⟨_, rfl, q _ p (over s12 npH) npH ⟨_, by rw [wo_out pS, upd_same], ?_⟩⟩
          have e := wo_upd (S := p :: S) (H := upd (upd H D (.lst rs)) p (.dK kvs)) (d := p) (o := .dK (dropK kvs (Sum.inr n))) List.mem_cons_self
          have s3 : Same (wo S H) (wo S (upd (upd (upd H D (.lst rs)) p (.dK kvs)) p (.dK (dropK kvs (Sum.inr n))))) := by
            refine (wo_plus (x := p) s12 npH).trans ?_
            rw [← e]
            exact wo_less fun a z => List.mem_cons_of_mem _ z
          exact bkR.to s3 (bk_dropK hr')
        · rw [show atA bk n = some t from g] at h2; cases h2
      · cases e
      · cases e
        exact .inr ⟨bk_none hr' hn, q.to s12⟩
    · rw [hdr]
      refine iteF ⟨_, rfl, rfl, _, rfl, ?_⟩
      rw [word_cut d]
      obtain ⟨nm, sp, h1, h2, h3⟩ := act_of (K := K) d hdr
      refine iteF ⟨_, rfl, dD, _, _, rfl, rfl, tabD _ h1, ?_⟩
      have hS2 : In (p :: S) (upd (upd H D (.lst rs)) p (.dK kvs)) := (In.same hS s12).plus (by rw [upd_same]; exact fun z => nomatch z)
      have pl := wo_plus (S := S) (x := p) s12 npH
      have bk2 := bki.to pl
      have hD2 : SqL K (wo (p :: S) (upd (upd H D (.lst rs)) p (.dK kvs))) D rs := by
        refine SqL.of ?_
        rw [wo_out]
        · exact s2 _ _ upd_same
        · intro z
          rcases List.mem_cons.mp z with z | z
          · rw [z] at hD; rw [← z] at np; rw [upd_same] at np; cases np
          · exact hS.out hD z
      refine ⟨_, sp, rfl, h2, _, rfl, _, rfl, _, rfl, h3 _ _ _ (p :: S) b D rs bk hS2 bk2 ok hD2 (da hrs pl) ?_⟩
      rcases h with ⟨g, q⟩ | ⟨hx, q⟩ | ⟨⟨n', e, hn⟩, q⟩
      · refine .inl ⟨g, fun H3 z s3 nz tz => ?_⟩
        have hp3 := s3 _ _ (show (upd (upd H D (.lst rs)) p (.dK kvs)) p = some (.dK kvs) from upd_same)
        have kl : kvs.length ≤ 6 := by rw [bk_len hr']; exact ok.few
        refine ⟨_, rfl, _, rfl, p, _, rfl, .inl ⟨kvs, Sum.inr d.name, hp3, rfl, szl (by omega), rfl⟩, _, rfl, ?_⟩
        have s13 := s12.trans s3
        refine q _ p (over s13 npH) npH ⟨_, by rw [wo_out pS, upd_same], ?_⟩
        have e := wo_upd (S := p :: S) (H := H3) (d := p) (o := .dK (putK kvs (Sum.inr d.name) (.ref z))) List.mem_cons_self
        have s4 : Same (wo (p :: S) H3) (wo S (upd H3 p (.dK (putK kvs (Sum.inr d.name) (.ref z))))) := by
          rw [← e]
          exact wo_less fun a z => List.mem_cons_of_mem _ z
        exact bkR.to s4 (bk_done ok (bkR.to (pl.trans (Same.wo s3)) hr') g hdr tz)
      · exact .inr ⟨hx, q.to s12⟩
      · rw [e] at hdr; cases hdr
  · refine ⟨_, rfl, a, _, rfl, .inr ha, rfl, _, rfl, iteT fun d hd => q _ d (Same.upd hd) hd upd_same⟩
end
end K59
set_option maxHeartbeats 4000000
namespace K59
open PySem PySem.Spec PyProof.Rows L2
def trks (b : Bk) (n : Str) : List Tr := match atA b n with
  | some t => t.tracks
  | none => []
def frB (tb te : List Tr) (j : Nat) : Bool := decide ((j : Int) ≥ te.length) || !PyData.eqv (trP (te.getD j [])) (trP (tb.getD j []))
def frN (n : Str) (tb te : List Tr) (k : Nat) : List PyData := ((List.range k).filter (frB tb te)).map fun j => .tuple [.str n, .int (j : Nat)]
def othersL (ys : List Str) (bk el : Bk) : List PyData := ys.flatMap fun n => frN n (trks bk n) (trks el n) (trks bk n).length
theorem frN_yes {n : Str} {tb te : List Tr} {k : Nat} (h : frB tb te k = true) : frN n tb te (k + 1) = frN n tb te k ++ [.tuple [.str n, .int (k : Nat)]] := by
  unfold frN
  rw [List.range_succ, List.filter_append, List.filter_cons, if_pos h, List.map_append]; rfl
theorem frN_no {n : Str} {tb te : List Tr} {k : Nat} (h : frB tb te k = false) : frN n tb te (k + 1) = frN n tb te k := by
  unfold frN
  rw [List.range_succ, List.filter_append, List.filter_cons, if_neg (by simp [h])]; simp
theorem frN_len {n : Str} {tb te : List Tr} {k : Nat} : (frN n tb te k).length ≤ k := by
  unfold frN
  rw [List.length_map]
  exact Nat.le_trans (List.length_filter_le _ _) (by simp)
theorem others_len {bk el : Bk} (ok : BkOk bk) : ∀ (ys : List Str), (othersL ys bk el).length ≤ 6 * ys.length
  | [] => Nat.zero_le _
  | n :: ys => by
    have h := others_len ok ys (el := el)
    have h1 : (trks bk n).length ≤ 6 := by
      unfold trks
      cases e : atA bk n with
      | none => exact Nat.zero_le _
      | some t => exact (ok.tp _ (atA_in e)).few
    have h2 := frN_len (n := n) (tb := trks bk n) (te := trks el n) (k := (trks bk n).length)
    show (frN n (trks bk n) (trks el n) (trks bk n).length ++ othersL ys bk el).length ≤ _
    rw [List.length_append, List.length_cons]
    omega
theorem shp_ev {e : Ev} (g : GoodEv e) : Shp 1 (evP e) := by
  have sg : ∀ c ∈ signs, c < 0x110000 := by decide +kernel
  refine Shp.tup (n := 0) fun d hd => ?_
  cases g with
  | three w t c a b h1 h2 h3 h4 h5 h6 =>
    simp only [List.mem_cons, List.not_mem_nil, or_false] at hd
    rcases hd with rfl | rfl | rfl | rfl | rfl
    · exact Shp.int _
    · rcases h1 with rfl | rfl | rfl <;> exact ⟨by decide +kernel, Nat.zero_le _⟩
    · exact Shp.int _
    · exact Shp.int _
    · exact Shp.int _
  | voice t c a h1 h2 h3 =>
    simp only [List.mem_cons, List.not_mem_nil, or_false] at hd
    rcases hd with rfl | rfl | rfl | rfl
    · exact Shp.int _
    · exact ⟨by decide +kernel, Nat.zero_le _⟩
    · exact Shp.int _
    · exact Shp.int _
  | mark t z h1 h2 h3 =>
    simp only [List.mem_cons, List.not_mem_nil, or_false] at hd
    rcases hd with rfl | rfl | rfl
    · exact Shp.int _
    · exact ⟨by decide +kernel, Nat.zero_le _⟩
    · refine ⟨?_, Nat.zero_le _⟩
      show z.cps.all (· < 0x110000) = true
      rw [Array.all_eq_true']
      intro c hc
      exact decT (sg c (h3 c (Array.mem_toList_iff.mpr hc)))
theorem shp_tr {t : Tr} (ok : TrOk t) : Shp 2 (trP t) := by
  refine Shp.lst (n := 1) fun d hd => ?_
  obtain ⟨e, he, rfl⟩ := List.mem_map.mp hd
  exact shp_ev (ok.good e he)
section
variable {P : Program} {w : World} {K : PySem.W.Frag} {mg : Str → Option Value} {base : Heap}
theorem bk_keys {G : Hp} : ∀ {kvs : List (Key × V)} {bk : Bk}, Paired (bkR K G) kvs bk → kvs.map (·.1) = (bk.map (·.1)).map Sum.inr
  | _, _, .nil => rfl
  | _, _, .cons r t => by rw [List.map_cons, List.map_cons, List.map_cons, r.1, bk_keys t]
def spOthers (K : PySem.W.Frag) : Sp := fun vs H Q _ => ∃ (S : List Addr) (b e : Addr) (bk el : Bk), vs = [.ref b, .ref e] ∧ In S H ∧ BkIs K (wo S H) b bk ∧ BkIs K (wo S H) e el ∧ BkOk bk ∧ BkOk el ∧
  ∀ H' p ys, Same H H' → H p = none → ys.Perm (bk.map (·.1)) → sortedS ys = true → Dp K (wo S H') (.ref p) (.list (othersL ys bk el)) → Q (.ref p) H'
abbrev s_others : Stmt := top 101
abbrev N_others : List Str := ["book", "elder", "found", "name", "before", "number", "track"]
theorem sc_others : FnScope N_others ["book", "elder"] (C8.fnScope s_others) := C8.fnScope_by (by decide +kernel)
theorem c_others (T : Fx w K mg) : C8.Cal P w K mg base 2 "others" (spOthers K) [] := by
  refine cal_ T.d_others (fun _ _ _ _ _ _ us hl => match us, hl with | [_, _], _ => rfl) sc_others (fun vs H Q E h => by obtain ⟨S, b, e, bk, el, rfl, _⟩ := h; rfl) (fun f cdv A outer s H vs Q E hr h => ?_)
  have nd := sc_others.nd
  have hu := hu_of hr
  have hu64 := hu64 hr
  refine ⟨_, (pss_cons (ps_set (i := 2) nd rfl (by first | exact Or.inl rfl | exact Or.inr rfl) (pe_lst pa_nil)) (pss_cons (ps_for PassesOwn.never rfl (pi_list
      (pe_callB (call_sortedD rfl) (by rfl) T.f_sorted (by decide +kernel) (pa_cons (pv 0) pa_nil))) (pg_name (i := 3) nd rfl (by first | exact Or.inl rfl | exact Or.inr rfl))
      (C8.pss_cut (ps_set (i := 4) nd rfl (by first | exact Or.inl rfl | exact Or.inr rfl) (pe_ifExp (pt_cmp (pc_din hu (pv 3) (pv 1))) (C8.pe_mt0
      (m_Tape_tracks T) hr (by decide) (pe_dget hu (pv 1) (pv 3) (fun _ _ => rfl))) (pe_lst pa_nil))) (pss_one (ps_for PassesOwn.never rfl (pi_enum2
      (by rfl) T.f_enumerate (pa_cons (C8.pe_mt0 (m_Tape_tracks T) hr (by decide) (pe_dget hu (pv 0) (pv 3) (fun _ _ => rfl))) pa_nil)) (pg_tup rfl
      (pgs_cons (pg_name (i := 5) nd rfl (by first | exact Or.inl rfl | exact Or.inr rfl)) (pgs_cons (pg_name (i := 6) nd rfl (by first | exact Or.inl rfl | exact Or.inr rfl)) pgs_nil)))
      (pss_one (ps_if (PW.pt (pw_or (pt_cmpR op_ge (pv 5) (pe_callB (r := rLenSq K) call_len_seq (by rfl) T.f_len PySem.boot_len (pa_cons (pv 4) pa_nil))
      (nomark _)) (pw_or1 (pt_cmpR (op_neD hu64) (pe_ix (r := rIxL K) ix_list (pv 4) (pv 5) (fun _ _ => rfl)) (pv 6) (nomark _))))) (pss_one (ps_expr
      (pe_bm PySem.F.plainAttrs_list PySem.F.slot_list_append PySem.F.type_list_append mt_append (pv 2) (pa_cons (pe_tup (pa_cons (pv 3) (pa_cons (pv 5) pa_nil))) pa_nil)))) pss_nil))))))
      (pss_one (ps_ret (pv 2))))), ?_⟩

  obtain ⟨S, b, e, bk, el, rfl, hS, hb, he, ob, oe, q⟩ := h
  obtain ⟨kvb, hb1, hb2⟩ := id hb
  obtain ⟨kve, he1, he2⟩ := id he
  have hb0 := wo_sub _ _ hb1
  have he0 := wo_sub _ _ he1
  have bf := ob.few
  refine ⟨sz (by simp), fun fd nfd => ?_⟩
  have g0 : Gw K S H fd [] (L2.upd H fd (.lst [])) := Gw.start hS nfd
  refine ⟨_, rfl, b, kvb, bk.map (·.1), rfl, .inl (g0.same _ _ hb0), bk_keys hb2, by rw [List.length_map]; omega, fun ys p pys sys np => ?_⟩
  have yl : ys.length = bk.length := by rw [pys.length_eq, List.length_map]
  have g1 := g0.go (Same.upd (o := .lst (ys.map V.str)) np)
  have hp1 : (L2.upd (L2.upd H fd (.lst [])) p (.lst (ys.map V.str))) p = some (.lst (ys.map V.str)) := upd_same
  generalize L2.upd (L2.upd H fd (.lst [])) p (.lst (ys.map V.str)) = Hb at *
  have pS : p ∉ fd :: S := by
    intro z
    rcases List.mem_cons.mp z with z | z
    · rw [z, upd_same] at np; cases np
    · exact hS.out (wasNone g0.same np) z
  refine ⟨p, rfl, ⟨_, SqL.of hp1⟩, ?_⟩
  refine for_it walk_list (fun i σ H' => (∃ x3 x4 x5 x6, σ = [some (.ref b), some (.ref e), some (.ref fd), x3, x4, x5, x6]) ∧ Gw K S H fd (othersL (ys.take i) bk el) H' ∧ Same (wo (fd :: S) Hb) (wo (fd :: S) H')) ⟨⟨_, _, _, _, rfl⟩, g1, same_rfl⟩
    (fun i σ H' _ hh => SqL.of (wo_sub _ _ (hh.2.2 p _ (by rw [wo_out pS]; exact hp1)))) ?_ ?_
  · rintro i x σ H2 H3 hi ⟨⟨x3, x4, x5, x6, rfl⟩, gw, sb⟩ ⟨rfl, hy⟩
    rw [List.getElem?_map] at hy
    obtain ⟨n, hn, rfl⟩ := Option.map_eq_some_iff.mp hy
    have hS2 := gw.in
    have ol := others_len ob (el := el) (ys.take i)
    have tl : (ys.take i).length ≤ 6 := by rw [List.length_take]; omega
    have bkn : ∃ v t, valV kvb (Sum.inr n) = some v ∧ atA bk n = some t ∧ TapeIs K (wo S H) v t := by
      rcases bk_at (n := n) hb2 with h | ⟨h1, h2⟩
      · exact h
      · exact absurd (pys.mem_iff.mp (List.mem_of_getElem? hn)) (atA_none.mp h2)
    obtain ⟨vb, tb, hvb, hab, htb⟩ := bkn
    have okb := ob.tp _ (atA_in hab)
    have etb : trks bk n = tb.tracks := by unfold trks; rw [hab]
    refine ⟨fun σ' H4 => ∃ p2, σ' = [some (.ref b), some (.ref e), some (.ref fd), some (.str n), some (.ref p2), x5, x6] ∧ Same H3 H4 ∧ Dp K (wo (fd :: S) H4) (.ref p2) (tksP (trks el n)), ?_, ?_⟩
    · refine ⟨_, rfl, _, rfl, e, _, rfl, .inl ⟨kve, Sum.inr n, .inl (gw.same _ _ he0), rfl, rfl⟩, _, rfl, ?_⟩
      rcases bk_at (n := n) he2 with ⟨ve, te, h1, h2, h3⟩ | ⟨h1, h2⟩
      · have ete : trks el n = te.tracks := by unfold trks; rw [h2]
        rw [h1]
        obtain ⟨ta, dx, m, d, r, ps, rfl, ha, mi, pm, hr'⟩ := id h3
        refine iteT ⟨_, rfl, _, rfl, e, _, rfl, .inl ⟨kve, Sum.inr n, .inl (gw.same _ _ he0), rfl, h1.symm⟩, ?_⟩
        refine ⟨ta, dx, _, rfl, gw.same _ _ (wo_sub _ _ ha), rfl, fd :: S, _, te, rfl, hS2, h3.to gw.old, oe.tp _ (atA_in h2), fun H4 p2 xs s4 np2 hp2 hxs => ?_⟩
        refine ⟨p2, rfl, s4, ?_⟩
        rw [ete]
        exact .lst (SqL.of (by rw [wo_out (hS2.out np2)]; exact hp2)) (da hxs (wo_less fun a z => List.mem_cons_of_mem _ z))
      · have ete : trks el n = [] := by unfold trks; rw [h2]
        rw [h1]
        refine iteF ⟨sz (by simp), fun p2 np2 => ⟨p2, rfl, Same.upd np2, ?_⟩⟩
        rw [ete]
        exact lst_dp hS2 np2 .nil
    rintro σ' H4 ⟨p2, rfl, s4, hd2⟩
    obtain ⟨p2', zs, e2, hz, hzd⟩ := Dp.lstI hd2
    cases e2
    have lz : zs.length = (trks el n).length := by rw [DpAll.len hzd, List.length_map]
    have gw4 := gw.go s4
    obtain ⟨ta, dx, m, d, r, ps, rfl, ha, mi, pm, hr'⟩ := id htb
    refine ⟨_, rfl, _, rfl, b, _, rfl, .inl ⟨kvb, Sum.inr n, .inl (gw4.same _ _ hb0), rfl, hvb.symm⟩, ?_⟩
    refine ⟨ta, dx, _, rfl, gw4.same _ _ (wo_sub _ _ ha), rfl, fd :: S, _, tb, rfl, gw4.in, htb.to gw4.old, okb, fun H5 p3 ws s5 np3 hp3 hws => ?_⟩
    have gw5 := gw4.go s5
    have hws' := da hws (wo_less fun a z => List.mem_cons_of_mem _ z)
    have p3S : p3 ∉ fd :: S := (gw4.in).out np3
    have lw : ws.length = tb.tracks.length := by rw [DpAll.len hws, List.length_map]
    have few : tb.tracks.length ≤ 6 := okb.few
    have sq3 : SqL K (wo (fd :: S) H5) p3 ws := SqL.of (by rw [wo_out p3S]; exact hp3)
    have hz5 := same_l (Same.wo s5) hz
    have hzd5 := da hzd (Same.wo s5)
    refine .inl ⟨p3, ws, rfl, SqL.of hp3, ?_⟩
    refine for_it walk_enum (fun j σ H' => (∃ y5 y6, σ = [some (.ref b), some (.ref e), some (.ref fd), some (.str n), some (.ref p2), y5, y6]) ∧ Gw K S H fd (othersL (ys.take i) bk el ++ frN n tb.tracks (trks el n) j) H' ∧ Same (wo (fd :: S) H5) (wo (fd :: S) H'))
      ⟨⟨_, _, rfl⟩, by simpa [frN] using gw5, same_rfl⟩ (fun j σ H' _ hh => same_l (hh.2.2.trans wo_sub) sq3) ?_ ?_
    · rintro j x σ H6 H7 hj ⟨⟨y5, y6, rfl⟩, gj, sj⟩ ⟨T0, x, y, rfl, hT, rfl, hx0, hy⟩
      simp only [Option.some.injEq] at hx0
      subst hx0
      obtain ⟨tr, htr, hdtr⟩ := tk_at hws' hy
      have gj2 := gj.go (Same.upd (o := .tup [.int (j : Nat), y]) hT)
      have sj2 : Same (wo (fd :: S) H5) (wo (fd :: S) (L2.upd H6 T0 (.tup [.int (j : Nat), y]))) := sj.trans (Same.wo (Same.upd hT))
      refine ⟨T0, _, rfl, SqT.of upd_same, rfl, _, _, rfl, _, _, rfl, rfl, ?_⟩
      generalize L2.upd H6 T0 (.tup [.int (j : Nat), y]) = H8 at *
      have etr : tb.tracks.getD j [] = tr := by rw [List.getD_eq_getElem?_getD, htr]; rfl
      have oktr := okb.trs tr (List.mem_of_getElem? htr)
      have app : frB tb.tracks (trks el n) j = true → (tDrop (tBM K "list" rAppend (tVar 2) (tCons (tTup (tCons (tVar 3) (tCons (tVar 5) tNil))) tNil))) { nx := fun σ' H' => (∃ y5 y6, σ' = [some (.ref b), some (.ref e), some (.ref fd), some (.str n), some (.ref p2), y5, y6]) ∧ Gw K S H fd (othersL (ys.take i) bk el ++ frN n tb.tracks (trks el n) (j + 1)) H' ∧ Same (wo (fd :: S) H5) (wo (fd :: S) H'), rt := fun _ _ => False }
          [some (.ref b), some (.ref e), some (.ref fd), some (.str n), some (.ref p2), some (.int (j : Nat)), some y] H8 := by
        intro hf
        obtain ⟨acc0, ea0, _⟩ := gj2.ex
        refine ⟨_, rfl, .inl ⟨rfl, _, SqL.of ea0⟩, _, rfl, _, rfl, by show 2 ≤ sizeLine; decide, fun q1 nq1 => ?_⟩
        have gj3 := gj2.go (Same.upd (o := .tup [.str n, .int (j : Nat)]) nq1)
        have fl := frN_len (n := n) (tb := tb.tracks) (te := trks el n) (k := j)
        obtain ⟨acc, ea, la, gm⟩ := gj3.more (y := .ref q1) (d := .tuple [.str n, .int (j : Nat)]) (tup_dp gj2.in nq1 (.cons (.str _) (.cons (.int _) .nil))) (by rw [List.length_append]; omega)
        refine ⟨fd, acc, _, rfl, rfl, ea, la, ⟨_, _, rfl⟩, ?_, ?_⟩
        · rw [frN_yes hf, ← List.append_assoc]; exact gm
        · rw [wo_upd List.mem_cons_self]
          exact sj2.trans (Same.wo (Same.upd nq1))
      refine ⟨_, rfl, _, rfl, p2, zs, rfl, .inl (same_l (sj2.trans wo_sub) hz5), _, _, rfl, rfl, _, rfl, ?_⟩
      rw [lz]
      by_cases c : ((j : Nat) : Int) ≥ (trks el n).length
      · rw [decT c]
        exact iteT (iteT (app (by unfold frB; rw [decT c]; rfl)))
      · rw [decF c]
        have jl : j < zs.length := by omega
        obtain ⟨te, hte, hdte⟩ := tk_at hzd5 (List.getElem?_eq_getElem jl)
        have ete : (trks el n).getD j [] = te := by rw [List.getD_eq_getElem?_getD, hte]; rfl
        have okte : TrOk te := by
          have hm := List.mem_of_getElem? hte
          unfold trks at hm
          cases ee : atA el n with
          | none => rw [ee] at hm; simp at hm
          | some t => rw [ee] at hm; exact (oe.tp _ (atA_in ee)).trs te hm
        refine iteF ⟨_, rfl, _, rfl, p2, zs, _, zs[j], rfl, rfl, same_l (sj2.trans wo_sub) hz5, atI_nat (List.getElem?_eq_getElem jl), _, rfl, trP te, trP tr, dp hdte (sj2.trans wo_sub), dp hdtr (sj2.trans wo_sub), (shp_tr okte).ok (by decide), (shp_tr oktr).ok (by decide), _, rfl, ?_⟩
        cases cc : PyData.eqv (trP te) (trP tr) with
        | false => exact iteT (app (by unfold frB; rw [decF c, ete, etr, cc]; rfl))
        | true =>
          refine iteF ⟨⟨_, _, rfl⟩, ?_, sj2⟩
          rw [frN_no (by unfold frB; rw [decF c, ete, etr, cc]; rfl)]
          exact gj2
    · rintro σ H6 ⟨⟨y5, y6, rfl⟩, gj, sj⟩
      refine ⟨⟨_, _, _, _, rfl⟩, ?_, sb.trans ((Same.wo (s4.trans s5)).trans sj)⟩
      rw [take_succ' hn]
      have e1 : othersL (ys.take i ++ [n]) bk el = othersL (ys.take i) bk el ++ frN n (trks bk n) (trks el n) (trks bk n).length := by unfold othersL; rw [List.flatMap_append]; simp
      rw [e1, etb, ← lw]
      exact gj
  · rintro σ H2 ⟨⟨x3, x4, x5, x6, rfl⟩, gw, sb⟩
    rw [take_full (by simp)] at gw
    exact ⟨_, rfl, q H2 fd ys gw.same nfd pys sys gw.stop⟩
end
end K59
set_option maxHeartbeats 4000000
namespace K59
open PySem PySem.Spec PyProof.Rows L2
abbrev dkF (b e pa ah : Addr) (u : Int) : List (Str × V) := [("book", .ref b), ("elder", .ref e), ("past", .ref pa), ("ahead", .ref ah), ("under", .int u)]
def DkIs (K : PySem.W.Frag) (H : Hp) (dk b e pa ah : Addr) (u : Int) : Prop := ∃ dx, H dk = some (.ins (cA K "Deck") dx (dkF b e pa ah u))
/-- a row of the past: its deeds, the book before it -/
def rowR (K : PySem.W.Frag) (G : Hp) (x : V) (r : List PyData × Bk) : Prop := ∃ t l b, x = .ref t ∧ SqT K G t [.ref l, .ref b] ∧ Dp K G (.ref l) (.list r.1) ∧ BkIs K G b r.2
theorem rowR.to {K : PySem.W.Frag} {G G' : Hp} (s : Same G G') : ∀ {xs : List V} {rs : List (List PyData × Bk)}, Paired (rowR K G) xs rs → Paired (rowR K G') xs rs
  | _, _, .nil => .nil
  | _, _, .cons ⟨t, l, b, e, h1, h2, h3⟩ r => .cons ⟨t, l, b, e, same_t s h1, dp h2 s, h3.to s⟩ (rowR.to s r)
section
variable {P : Program} {w : World} {K : PySem.W.Frag} {mg : Str → Option Value} {base : Heap}
def spDeckInit (K : PySem.W.Frag) : Sp := fun vs H Q _ => ∃ (H0 : Hp) (x dx : Addr), vs = [.ref x] ∧ Same H0 H ∧ H0 x = none ∧ H x = some (.ins (cA K "Deck") dx []) ∧
  ∀ H' b e pa ah, Same H0 H' → H0 b = none → H0 e = none → H0 pa = none → H0 ah = none → pa ≠ x → ah ≠ x → pa ≠ ah → b ≠ x → e ≠ x → b ≠ pa → b ≠ ah → e ≠ pa → e ≠ ah → H' b = some (.dK []) → H' e = some (.dK []) → H' pa = some (.lst []) → H' ah = some (.lst []) → DkIs K H' x b e pa ah 0 → Q .non H'
abbrev s_Deck_init : Stmt := inClass (top 102) 0
abbrev N_Deck_init : List Str := ["self"]
theorem sc_Deck_init : FnScope N_Deck_init ["self"] (C8.fnScope s_Deck_init) := C8.fnScope_by (by decide +kernel)
theorem k_Deck (T : Fx w K mg) : C8.Mak P w K mg base 1 "Deck" (cA K "Deck") (spDeckInit K) [] := by
  obtain ⟨f0, fd0, _, FD, M⟩ := T.i_Deck
  have bd := FD.bindsN (ps := ["self"]) (fun kV doc pm an cdv ct us hl => match us, hl with | [_], _ => rfl)
  refine mak_ T.mg_Deck FD M bd sc_Deck_init (fun vs H Q E h => by obtain ⟨H0, x, dx, rfl, _⟩ := h; rfl) (fun f cdv A outer s H vs Q E hr h => ?_)
  have nd := sc_Deck_init.nd
  have hu := hu_of hr
  have hu64 := hu64 hr
  refine ⟨_, (pss_cons (ps_fld (pv 0) pe_dnewK rfl) (pss_cons (ps_fld (pv 0) pe_dnewK rfl) (pss_cons (ps_fld (pv 0) (pe_lst pa_nil) rfl) (pss_cons (ps_fld (pv 0)
      (pe_lst pa_nil) rfl) (pss_one (ps_fld (pv 0) pe_int rfl)))))), ?_⟩

  obtain ⟨H0, x, dx, rfl, s0, n0, hx, q⟩ := h
  intro b nb
  have bx : b ≠ x := fun z => by rw [z, hx] at nb; cases nb
  refine ⟨_, rfl, x, _, dx, _, rfl, by rw [upd_ne (Ne.symm bx)]; exact hx, T.c_Deck, T.n_Deck_book, by simp, ?_⟩
  generalize e1 : upd (upd H b (.dK [])) x (.ins (cA K "Deck") dx (putF "book" (.ref b) [])) = H1
  have h1 : H1 x = some (.ins (cA K "Deck") dx (putF "book" (.ref b) [])) := by rw [← e1]; exact upd_same
  have h1b : H1 b = some (.dK []) := by rw [← e1, upd_ne bx]; exact upd_same
  have s1 : Same H0 H1 := by rw [← e1]; exact over (over s0 (wasNone s0 nb)) n0
  intro e ne
  have ex : e ≠ x := fun z => by rw [z, h1] at ne; cases ne
  have eb : e ≠ b := fun z => by rw [z, h1b] at ne; cases ne
  refine ⟨_, rfl, x, _, dx, _, rfl, by rw [upd_ne (Ne.symm ex)]; exact h1, T.c_Deck, T.n_Deck_elder, (by show 1 < 1000; decide), ?_⟩
  generalize e2 : upd (upd H1 e (.dK [])) x (.ins (cA K "Deck") dx (putF "elder" (.ref e) (putF "book" (.ref b) []))) = H2
  have h2 : H2 x = some (.ins (cA K "Deck") dx (putF "elder" (.ref e) (putF "book" (.ref b) []))) := by rw [← e2]; exact upd_same
  have h2b : H2 b = some (.dK []) := by rw [← e2, upd_ne bx, upd_ne (Ne.symm eb)]; exact h1b
  have h2e : H2 e = some (.dK []) := by rw [← e2, upd_ne ex]; exact upd_same
  have s2 : Same H0 H2 := by rw [← e2]; exact over (over s1 (wasNone s1 ne)) n0
  refine ⟨sz (by simp), fun pa np => ?_⟩
  have px : pa ≠ x := fun z => by rw [z, h2] at np; cases np
  have pb : pa ≠ b := fun z => by rw [z, h2b] at np; cases np
  have pe : pa ≠ e := fun z => by rw [z, h2e] at np; cases np
  refine ⟨_, rfl, x, _, dx, _, rfl, by rw [upd_ne (Ne.symm px)]; exact h2, T.c_Deck, T.n_Deck_past, (by show 2 < 1000; decide), ?_⟩
  generalize e3 : upd (upd H2 pa (.lst [])) x (.ins (cA K "Deck") dx (putF "past" (.ref pa) (putF "elder" (.ref e) (putF "book" (.ref b) [])))) = H3
  have h3 : H3 x = some (.ins (cA K "Deck") dx (putF "past" (.ref pa) (putF "elder" (.ref e) (putF "book" (.ref b) [])))) := by rw [← e3]; exact upd_same
  have h3b : H3 b = some (.dK []) := by rw [← e3, upd_ne bx, upd_ne (Ne.symm pb)]; exact h2b
  have h3e : H3 e = some (.dK []) := by rw [← e3, upd_ne ex, upd_ne (Ne.symm pe)]; exact h2e
  have h3p : H3 pa = some (.lst []) := by rw [← e3, upd_ne px]; exact upd_same
  have s3 : Same H0 H3 := by rw [← e3]; exact over (over s2 (wasNone s2 np)) n0
  refine ⟨sz (by simp), fun ah na => ?_⟩
  have ax : ah ≠ x := fun z => by rw [z, h3] at na; cases na
  have ab : ah ≠ b := fun z => by rw [z, h3b] at na; cases na
  have ae : ah ≠ e := fun z => by rw [z, h3e] at na; cases na
  have ap : ah ≠ pa := fun z => by rw [z, h3p] at na; cases na
  refine ⟨_, rfl, x, _, dx, _, rfl, by rw [upd_ne (Ne.symm ax)]; exact h3, T.c_Deck, T.n_Deck_ahead, (by show 3 < 1000; decide), ?_⟩
  refine ⟨_, rfl, x, _, dx, _, rfl, upd_same, T.c_Deck, T.n_Deck_under, (by show 4 < 1000; decide), ?_⟩
  refine q _ b e pa ah (over (over (over s3 (wasNone s3 na)) n0) n0) (wasNone s0 nb) (wasNone s1 ne) (wasNone s2 np) (wasNone s3 na) px ax (Ne.symm ap) bx ex (Ne.symm pb) (Ne.symm ab) (Ne.symm pe) (Ne.symm ae) ?_ ?_ ?_ ?_ ⟨dx, upd_same⟩
  · rw [upd_ne bx, upd_ne bx, upd_ne (Ne.symm ab)]; exact h3b
  · rw [upd_ne ex, upd_ne ex, upd_ne (Ne.symm ae)]; exact h3e
  · rw [upd_ne px, upd_ne px, upd_ne (Ne.symm ap)]; exact h3p
  · rw [upd_ne ax, upd_ne ax]; exact upd_same
def spDeckLen (K : PySem.W.Frag) : Sp := fun vs H Q _ => ∃ (dk b e pa ah : Addr) (u : Int) (kvs : List (Key × V)), vs = [.ref dk] ∧ DkIs K H dk b e pa ah u ∧ H b = some (.dK kvs) ∧ Q (.int kvs.length) H
abbrev s_Deck_len : Stmt := inClass (top 102) 1
abbrev N_Deck_len : List Str := ["self"]
theorem sc_Deck_len : FnScope N_Deck_len ["self"] (C8.fnScope s_Deck_len) := C8.fnScope_by (by decide +kernel)
theorem m_Deck_len (T : Fx w K mg) : C8.Met P w K mg base 1 (cA K "Deck") "__len__" (spDeckLen K) [] := by
  refine met_ T.c_Deck T.m_Deck_len (fun _ _ _ _ _ _ us hl => match us, hl with | [_], _ => rfl) sc_Deck_len (fun vs H Q E h => by obtain ⟨dk, b, e, pa, ah, u, kvs, rfl, _⟩ := h; rfl) (fun f cdv A outer s H vs Q E hr h => ?_)
  have nd := sc_Deck_len.nd
  have hu := hu_of hr
  have hu64 := hu64 hr
  refine ⟨_, (pss_one (ps_ret (pe_callB call_lenD (by rfl) T.f_len PySem.boot_len (pa_cons (pe_fld (pv 0) rfl) pa_nil)))), ?_⟩

  obtain ⟨dk, b, e, pa, ah, u, kvs, rfl, ⟨dx, hd⟩, hb, q⟩ := h
  exact ⟨_, rfl, dk, _, dx, _, _, rfl, hd, T.c_Deck, T.n_Deck_book, rfl, b, kvs, rfl, hb, q⟩
def spBusy (K : PySem.W.Frag) : Sp := fun vs H Q _ => ∃ (dk b e pa ah : Addr), vs = [.ref dk] ∧ DkIs K H dk b e pa ah 0 ∧ Q (.bl false) H
abbrev s_Deck_busy : Stmt := inClass (top 102) 5
abbrev N_Deck_busy : List Str := ["self"]
theorem sc_Deck_busy : FnScope N_Deck_busy ["self"] (C8.fnScope s_Deck_busy) := C8.fnScope_by (by decide +kernel)
theorem m_Deck_busy (T : Fx w K mg) : C8.Met P w K mg base 1 (cA K "Deck") "busy" (spBusy K) [] := by
  refine met_ T.c_Deck T.m_Deck_busy (fun _ _ _ _ _ _ us hl => match us, hl with | [_], _ => rfl) sc_Deck_busy (fun vs H Q E h => by obtain ⟨dk, b, e, pa, ah, rfl, _⟩ := h; rfl) (fun f cdv A outer s H vs Q E hr h => ?_)
  have nd := sc_Deck_busy.nd
  have hu := hu_of hr
  have hu64 := hu64 hr
  refine ⟨_, (pss_one (ps_ret (pe_cmpR op_gt (pe_fld (pv 0) rfl) pe_int (nomark _)))), ?_⟩

  obtain ⟨dk, b, e, pa, ah, rfl, ⟨dx, hd⟩, q⟩ := h
  exact ⟨_, rfl, dk, _, dx, _, _, rfl, hd, T.c_Deck, T.n_Deck_under, rfl, _, _, rfl, rfl, q⟩
def spNames (K : PySem.W.Frag) : Sp := fun vs H Q _ => ∃ (S : List Addr) (dk b e pa ah : Addr) (bk : Bk), vs = [.ref dk] ∧ In S H ∧ DkIs K H dk b e pa ah 0 ∧ BkIs K (wo S H) b bk ∧ BkOk bk ∧
  ∀ H' p ys, Same H H' → H p = none → ys.Perm (bk.map (·.1)) → sortedS ys = true → Dp K (wo S H') (.ref p) (.list (ys.map .str)) → Q (.ref p) H'
theorem strs_dp {G : Hp} : ∀ (ys : List Str), DpAll K G (ys.map V.str) (ys.map PyData.str)
  | [] => .nil
  | y :: ys => .cons (.str y) (strs_dp ys)
abbrev s_Deck_names : Stmt := inClass (top 102) 9
abbrev N_Deck_names : List Str := ["self"]
theorem sc_Deck_names : FnScope N_Deck_names ["self"] (C8.fnScope s_Deck_names) := C8.fnScope_by (by decide +kernel)
theorem m_Deck_names (T : Fx w K mg) : C8.Met P w K mg base 1 (cA K "Deck") "names" (spNames K) [] := by
  refine met_ T.c_Deck T.m_Deck_names (fun _ _ _ _ _ _ us hl => match us, hl with | [_], _ => rfl) sc_Deck_names (fun vs H Q E h => by obtain ⟨S, dk, b, e, pa, ah, bk, rfl, _⟩ := h; rfl) (fun f cdv A outer s H vs Q E hr h => ?_)
  have nd := sc_Deck_names.nd
  have hu := hu_of hr
  have hu64 := hu64 hr
  refine ⟨_, (pss_one (ps_ret (pe_callB (call_sortedD rfl) (by rfl) T.f_sorted (by decide +kernel) (pa_cons (pe_fld (pv 0) rfl) pa_nil)))), ?_⟩

  obtain ⟨S, dk, b, e, pa, ah, bk, rfl, hS, ⟨dx, hd⟩, ⟨kvs, hb1, hb2⟩, ob, q⟩ := h
  have bf := ob.few
  refine ⟨_, rfl, dk, _, dx, _, _, rfl, hd, T.c_Deck, T.n_Deck_book, rfl, b, kvs, bk.map (·.1), rfl, .inl (wo_sub _ _ hb1), bk_keys hb2, by rw [List.length_map]; omega, fun ys p pys sys np => ?_⟩
  exact q _ p ys (Same.upd np) np pys sys (lst_dp hS np (strs_dp ys))
def spDTape (K : PySem.W.Frag) : Sp := fun vs H Q _ => ∃ (dk b e pa ah : Addr) (n : Str) (kvs : List (Key × V)) (v : V), vs = [.ref dk, .str n] ∧ DkIs K H dk b e pa ah 0 ∧ H b = some (.dK kvs) ∧ valV kvs (Sum.inr n) = some v ∧ Q v H
abbrev s_Deck_tape : Stmt := inClass (top 102) 10
abbrev N_Deck_tape : List Str := ["self", "name"]
theorem sc_Deck_tape : FnScope N_Deck_tape ["self", "name"] (C8.fnScope s_Deck_tape) := C8.fnScope_by (by decide +kernel)
theorem m_Deck_tape (T : Fx w K mg) : C8.Met P w K mg base 4 (cA K "Deck") "tape" (spDTape K) [] := by
  refine met_ T.c_Deck T.m_Deck_tape (fun _ _ _ _ _ _ us hl => match us, hl with | [_, _], _ => rfl) sc_Deck_tape (fun vs H Q E h => by obtain ⟨dk, b, e, pa, ah, n, kvs, v, rfl, _⟩ := h; rfl) (fun f cdv A outer s H vs Q E hr h => ?_)
  have nd := sc_Deck_tape.nd
  have hu := hu_of hr
  have hu64 := hu64 hr
  refine ⟨_, (pss_one (ps_ret (pe_cx0 (c_tape_of T) hr (by decide) rfl (pa_cons (pe_fld (pv 0) rfl) (pa_cons (pv 1) pa_nil))))), ?_⟩

  obtain ⟨dk, b, e, pa, ah, n, kvs, v, rfl, ⟨dx, hd⟩, hb, hv, q⟩ := h
  exact ⟨_, rfl, dk, _, dx, _, _, rfl, hd, T.c_Deck, T.n_Deck_book, rfl, _, rfl, b, n, kvs, rfl, hb, .inl ⟨v, hv, q⟩⟩
def spFresh (K : PySem.W.Frag) : Sp := fun vs H Q _ => ∃ (S : List Addr) (dk b e pa ah : Addr) (bk el : Bk), vs = [.ref dk] ∧ In S H ∧ DkIs K H dk b e pa ah 0 ∧ BkIs K (wo S H) b bk ∧ BkIs K (wo S H) e el ∧ BkOk bk ∧ BkOk el ∧
  ∀ H' p ys, Same H H' → H p = none → ys.Perm (bk.map (·.1)) → sortedS ys = true → Dp K (wo S H') (.ref p) (.list (othersL ys bk el)) → Q (.ref p) H'
abbrev s_Deck_fresh : Stmt := inClass (top 102) 11
abbrev N_Deck_fresh : List Str := ["self"]
theorem sc_Deck_fresh : FnScope N_Deck_fresh ["self"] (C8.fnScope s_Deck_fresh) := C8.fnScope_by (by decide +kernel)
theorem m_Deck_fresh (T : Fx w K mg) : C8.Met P w K mg base 3 (cA K "Deck") "fresh" (spFresh K) [] := by
  refine met_ T.c_Deck T.m_Deck_fresh (fun _ _ _ _ _ _ us hl => match us, hl with | [_], _ => rfl) sc_Deck_fresh (fun vs H Q E h => by obtain ⟨S, dk, b, e, pa, ah, bk, el, rfl, _⟩ := h; rfl) (fun f cdv A outer s H vs Q E hr h => ?_)
  have nd := sc_Deck_fresh.nd
  have hu := hu_of hr
  have hu64 := hu64 hr
  refine ⟨_, (pss_one (ps_ret (C8.pe_c (c_others T) hr (by decide) rfl (pa_cons (pe_fld (pv 0) rfl) (pa_cons (pe_fld (pv 0) rfl) pa_nil))))), ?_⟩

  obtain ⟨S, dk, b, e, pa, ah, bk, el, rfl, hS, ⟨dx, hd⟩, hb, he, ob, oe, q⟩ := h
  exact ⟨_, rfl, dk, _, dx, _, _, rfl, hd, T.c_Deck, T.n_Deck_book, rfl, _, rfl, dk, _, dx, _, _, rfl, hd, T.c_Deck, T.n_Deck_elder, rfl, S, b, e, bk, el, rfl, hS, hb, he, ob, oe, q⟩
def spDeeds (K : PySem.W.Frag) : Sp := fun vs H Q _ => ∃ (S : List Addr) (dk b e pa ah : Addr) (xs : List V) (rs : List (List PyData × Bk)), vs = [.ref dk] ∧ In S H ∧ DkIs K H dk b e pa ah 0 ∧ H pa = some (.lst xs) ∧ Paired (rowR K (wo S H)) xs rs ∧ rs.length ≤ 100 ∧
  ∀ H' p, Same H H' → H p = none → Dp K (wo S H') (.ref p) (.list (rs.map fun r => .list r.1)) → Q (.ref p) H'
abbrev s_Deck_deeds : Stmt := inClass (top 102) 8
abbrev N_Deck_deeds : List Str := ["self", "deeds", "begun"]
theorem sc_Deck_deeds : FnScope N_Deck_deeds ["self"] (C8.fnScope s_Deck_deeds) := C8.fnScope_by (by decide +kernel)
theorem m_Deck_deeds (T : Fx w K mg) : C8.Met P w K mg base 1 (cA K "Deck") "deeds" (spDeeds K) [] := by
  refine met_ T.c_Deck T.m_Deck_deeds (fun _ _ _ _ _ _ us hl => match us, hl with | [_], _ => rfl) sc_Deck_deeds (fun vs H Q E h => by obtain ⟨S, dk, b, e, pa, ah, xs, rs, rfl, _⟩ := h; rfl) (fun f cdv A outer s H vs Q E hr h => ?_)
  have nd := sc_Deck_deeds.nd
  have hu := hu_of hr
  have hu64 := hu64 hr
  refine ⟨_, (pss_one (ps_ret (pe_lc (own := [("deeds", 1), ("begun", 2)]) (g := gTup K 2 (gCons (gName 1) (gCons (gName 2) gNil))) (tt := tYes) rfl nd (pi_list
      (pe_fld (pv 0) rfl)) (blkOk_by (own := [("deeds", 1), ("begun", 2)]) (N := N_Deck_deeds) (sc := C8.fnScope s_Deck_deeds) (by decide +kernel))
      (fun _ _ _ _ _ => (pg_tup rfl (pgs_cons (pg_name (i := 1) nd rfl (by first | exact Or.inl rfl | exact Or.inr rfl)) (pgs_cons (pg_name (i := 2) nd rfl
      (by first | exact Or.inl rfl | exact Or.inr rfl)) pgs_nil)))) (fun _ _ _ _ _ => pts_nil) (fun _ _ _ _ _ => (pe_callTy (T := "list") (r := rListOf K) call_list_of
      (by rfl) T.f_list (by decide +kernel) (pa_cons (pv 1) pa_nil)))))), ?_⟩

  obtain ⟨S, dk, b, e, pa, ah, xs, rs, rfl, hS, ⟨dx, hd⟩, hp, hr', few, q⟩ := h
  have lx : xs.length = rs.length := Paired.length hr'
  refine ⟨_, rfl, dk, _, dx, _, _, rfl, hd, T.c_Deck, T.n_Deck_past, rfl, pa, rfl, ⟨xs, SqL.of hp⟩, fun D hD => ?_⟩
  refine lc_it walk_list (Gro K S H D fun i => (rs.take i).map fun r => .list r.1) (Gro.start hS hD (by simp)) (fun _ _ _ hh => same_l hh.same (SqL.of hp)) ?_ ?_
  · rintro i y H4 H5 hi ac ⟨rfl, hy⟩
    obtain ⟨r, hr1, t, l, b', rfl, h1, h2, h3⟩ := LiI.paired_get hr' hy
    obtain ⟨l', zs, el, hz, hzd⟩ := Dp.lstI (dp h2 ac.old)
    cases el
    refine ⟨t, _, rfl, same_t (ac.old.trans wo_sub) h1, rfl, _, _, rfl, _, _, rfl, rfl, rfl, ?_⟩
    refine ⟨_, rfl, l, zs, rfl, .inl (same_l wo_sub hz), fun p np => ?_⟩
    refine ac.more (Same.upd np) (lst_dp ac.in np hzd) ?_ (by omega)
    simp only [take_succ' hr1, List.map_append, List.map_cons, List.map_nil]
  intro H4 ac
  have z := ac.stop
  simp only [take_full lx.symm] at z
  exact q H4 D ac.same hD z
def spUndo (K : PySem.W.Frag) : Sp := fun vs H Q _ => ∃ (S : List Addr) (dk b e pa ah : Addr) (xs : List V) (x : V) (r : List PyData × Bk) (zs : List V), vs = [.ref dk] ∧ In S H ∧ dk ∈ S ∧ pa ∈ S ∧ ah ∈ S ∧ pa ≠ dk ∧ ah ≠ dk ∧ pa ≠ ah ∧ DkIs K H dk b e pa ah 0 ∧ H pa = some (.lst (xs ++ [x])) ∧ H ah = some (.lst zs) ∧ zs.length ≤ 1000 ∧ rowR K (wo S H) x r ∧
  ∀ H' b' p, Kp [dk, pa, ah] H H' → DkIs K H' dk b' b pa ah 0 → BkIs K (wo S H') b' r.2 → H' pa = some (.lst xs) → (∃ zs', H' ah = some (.lst zs') ∧ zs'.length ≤ zs.length + 1) → H p = none → Dp K (wo S H') (.ref p) (.list r.1) → Q (.ref p) H'
abbrev s_Deck_undo : Stmt := inClass (top 102) 6
abbrev N_Deck_undo : List Str := ["self", "deeds", "begun"]
theorem sc_Deck_undo : FnScope N_Deck_undo ["self"] (C8.fnScope s_Deck_undo) := C8.fnScope_by (by decide +kernel)
theorem m_Deck_undo (T : Fx w K mg) : C8.Met P w K mg base 1 (cA K "Deck") "undo" (spUndo K) [] := by
  refine met_ T.c_Deck T.m_Deck_undo (fun _ _ _ _ _ _ us hl => match us, hl with | [_], _ => rfl) sc_Deck_undo (fun vs H Q E h => by obtain ⟨S, dk, b, e, pa, ah, xs, x, r, zs, rfl, _⟩ := h; rfl) (fun f cdv A outer s H vs Q E hr h => ?_)
  have nd := sc_Deck_undo.nd
  have hu := hu_of hr
  have hu64 := hu64 hr
  refine ⟨_, (pss_cons (ps_if (pt_cmpR (op_eqLen hu64) (pe_fld (pv 0) rfl) (pe_lst pa_nil) (nomark _)) (pss_one ps_never) pss_nil) (pss_cons (ps_asg (pe_bm0 PySem.F.plainAttrs_list PySem.F.slot_list_pop PySem.F.type_list_pop mt_pop
      (pe_fld (pv 0) rfl)) (pg_tup rfl (pgs_cons (pg_name (i := 1) nd rfl (by first | exact Or.inl rfl | exact Or.inr rfl)) (pgs_cons (pg_name (i := 2) nd rfl
      (by first | exact Or.inl rfl | exact Or.inr rfl)) pgs_nil)))) (pss_cons (ps_expr (pe_bm PySem.F.plainAttrs_list PySem.F.slot_list_append PySem.F.type_list_append mt_append
      (pe_fld (pv 0) rfl) (pa_cons (pe_tup (pa_cons (pv 1) (pa_cons (pe_fld (pv 0) rfl) pa_nil))) pa_nil))) (pss_cons (ps_asg (pe_tup (pa_cons (pe_fld
      (pv 0) rfl) (pa_cons (pv 2) pa_nil))) (pg_tup rfl (pgs_cons (pg_fld (pv 0)) (pgs_cons (pg_fld (pv 0)) pgs_nil)))) (pss_one (ps_ret (pe_callTy (T := "list")
      (r := rListOf K) call_list_of (by rfl) T.f_list (by decide +kernel) (pa_cons (pv 1) pa_nil)))))))), ?_⟩

  obtain ⟨S, dk, b, e, pa, ah, xs, x, r, zs, rfl, hS, k1, k2, k3, n1, n2, n3, ⟨dx, hd⟩, hp, ha, lz, hr', q⟩ := h
  refine ⟨_, rfl, dk, _, dx, _, _, rfl, hd, T.c_Deck, T.n_Deck_past, rfl, sz (by simp), fun p0 np0 => ?_⟩
  have s1 := Same.upd (o := .lst []) np0
  refine ⟨pa, p0, _, [], rfl, rfl, SqL.of (s1 _ _ hp), SqL.of upd_same, by simp, _, rfl, iteF ?_⟩
  generalize e1 : L2.upd H p0 (.lst []) = H1 at s1
  obtain ⟨t, l, b', rfl, h1, h2, h3⟩ := hr'
  have t1 := same_t ((Same.wo s1).trans wo_sub) h1
  refine ⟨_, rfl, dk, _, dx, _, _, rfl, s1 _ _ hd, T.c_Deck, T.n_Deck_past, rfl, .inl ⟨rfl, _, SqL.of (s1 _ _ hp)⟩, pa, _, .ref t, rfl, rfl, s1 _ _ hp, by simp, ?_⟩
  rw [List.dropLast_concat]
  have w2 : wo S (L2.upd H1 pa (.lst xs)) = wo S H1 := wo_upd k2
  have kp2 : Kp [dk, pa, ah] H (L2.upd H1 pa (.lst xs)) := (Kp.of s1).trans (Kp.upd (by simp))
  have hp2 : (L2.upd H1 pa (.lst xs)) pa = some (.lst xs) := upd_same
  have hd2 : (L2.upd H1 pa (.lst xs)) dk = some (.ins (cA K "Deck") dx (dkF b e pa ah 0)) := by rw [upd_ne (Ne.symm n1)]; exact s1 _ _ hd
  have ha2 : (L2.upd H1 pa (.lst xs)) ah = some (.lst zs) := by rw [upd_ne (Ne.symm n3)]; exact s1 _ _ ha
  have sw2 : Same (wo S H) (wo S (L2.upd H1 pa (.lst xs))) := by rw [w2]; exact Same.wo s1
  generalize e2 : L2.upd H1 pa (.lst xs) = H2 at *
  refine ⟨t, _, rfl, same_t (sw2.trans wo_sub) h1, rfl, _, _, rfl, _, _, rfl, rfl, ?_⟩
  refine ⟨_, rfl, dk, _, dx, _, _, rfl, hd2, T.c_Deck, T.n_Deck_ahead, rfl, .inl ⟨rfl, _, SqL.of ha2⟩, _, rfl, _, rfl, dk, _, dx, _, _, rfl, hd2, T.c_Deck, T.n_Deck_book, rfl, by show 2 ≤ sizeLine; decide, fun p3 np3 => ?_⟩
  have s3 := Same.upd (o := .tup [.ref l, .ref b]) np3
  refine ⟨ah, zs, _, rfl, rfl, s3 _ _ ha2, szl (by omega), ?_⟩
  have kp3 : Kp [dk, pa, ah] H (L2.upd (L2.upd H2 p3 (.tup [.ref l, .ref b])) ah (.lst (zs ++ [.ref p3]))) := kp2.trans ((Kp.of s3).trans (Kp.upd (by simp)))
  have hd3 : (L2.upd (L2.upd H2 p3 (.tup [.ref l, .ref b])) ah (.lst (zs ++ [.ref p3]))) dk = some (.ins (cA K "Deck") dx (dkF b e pa ah 0)) := by rw [upd_ne (Ne.symm n2)]; exact s3 _ _ hd2
  have hp3 : (L2.upd (L2.upd H2 p3 (.tup [.ref l, .ref b])) ah (.lst (zs ++ [.ref p3]))) pa = some (.lst xs) := by rw [upd_ne n3]; exact s3 _ _ hp2
  have ha3 : (L2.upd (L2.upd H2 p3 (.tup [.ref l, .ref b])) ah (.lst (zs ++ [.ref p3]))) ah = some (.lst (zs ++ [.ref p3])) := upd_same
  have sw3 : Same (wo S H) (wo S (L2.upd (L2.upd H2 p3 (.tup [.ref l, .ref b])) ah (.lst (zs ++ [.ref p3])))) := by rw [wo_upd k3]; exact sw2.trans (Same.wo s3)
  generalize e3 : L2.upd (L2.upd H2 p3 (.tup [.ref l, .ref b])) ah (.lst (zs ++ [.ref p3])) = H3 at *
  refine ⟨_, rfl, dk, _, dx, _, _, rfl, hd3, T.c_Deck, T.n_Deck_book, rfl, _, rfl, by show 2 ≤ sizeLine; decide, fun p4 np4 => ?_⟩
  have s4 := Same.upd (o := .tup [.ref b, .ref b']) np4
  refine ⟨p4, _, rfl, SqT.of upd_same, rfl, _, _, rfl, _, rfl, dk, _, dx, _, rfl, s4 _ _ hd3, T.c_Deck, T.n_Deck_elder, (by show 5 < 1000; decide), _, _, rfl, _, rfl, dk, _, dx, _, rfl, upd_same, T.c_Deck, T.n_Deck_book, (by show 5 < 1000; decide), rfl, ?_⟩
  have e5 : putF "book" (.ref b') (putF "elder" (.ref b) (dkF b e pa ah 0)) = dkF b' b pa ah 0 := rfl
  rw [e5]
  generalize putF "elder" (.ref b) (dkF b e pa ah 0) = fs4
  have p4pa : pa ≠ p4 := fun z => by rw [z, np4] at hp3; cases hp3
  have p4ah : ah ≠ p4 := fun z => by rw [z, np4] at ha3; cases ha3
  have hd5 : (L2.upd (L2.upd (L2.upd H3 p4 (.tup [.ref b, .ref b'])) dk (.ins (cA K "Deck") dx fs4)) dk (.ins (cA K "Deck") dx (dkF b' b pa ah 0))) dk = some (.ins (cA K "Deck") dx (dkF b' b pa ah 0)) := upd_same
  have hp5 : (L2.upd (L2.upd (L2.upd H3 p4 (.tup [.ref b, .ref b'])) dk (.ins (cA K "Deck") dx fs4)) dk (.ins (cA K "Deck") dx (dkF b' b pa ah 0))) pa = some (.lst xs) := by rw [upd_ne n1, upd_ne n1, upd_ne p4pa]; exact hp3
  have ha5 : (L2.upd (L2.upd (L2.upd H3 p4 (.tup [.ref b, .ref b'])) dk (.ins (cA K "Deck") dx fs4)) dk (.ins (cA K "Deck") dx (dkF b' b pa ah 0))) ah = some (.lst (zs ++ [.ref p3])) := by rw [upd_ne n2, upd_ne n2, upd_ne p4ah]; exact ha3
  have kp5 : Kp [dk, pa, ah] H (L2.upd (L2.upd (L2.upd H3 p4 (.tup [.ref b, .ref b'])) dk (.ins (cA K "Deck") dx fs4)) dk (.ins (cA K "Deck") dx (dkF b' b pa ah 0))) := kp3.trans ((Kp.of s4).trans ((Kp.upd (by simp)).trans (Kp.upd (by simp))))
  have sw5 : Same (wo S H) (wo S (L2.upd (L2.upd (L2.upd H3 p4 (.tup [.ref b, .ref b'])) dk (.ins (cA K "Deck") dx fs4)) dk (.ins (cA K "Deck") dx (dkF b' b pa ah 0)))) := by rw [wo_upd k1, wo_upd k1]; exact sw3.trans (Same.wo s4)
  generalize L2.upd (L2.upd (L2.upd H3 p4 (.tup [.ref b, .ref b'])) dk (.ins (cA K "Deck") dx fs4)) dk (.ins (cA K "Deck") dx (dkF b' b pa ah 0)) = H5 at *
  obtain ⟨l', ws, el, hw, hwd⟩ := Dp.lstI h2
  cases el
  refine ⟨_, rfl, l, ws, rfl, .inl (same_l (sw5.trans wo_sub) hw), fun p6 np6 => ?_⟩
  have s6 := Same.upd (o := .lst ws) np6
  have np6H : H p6 = none := by
    cases z : H p6 with
    | none => rfl
    | some o => exact absurd np6 (kp5.dom p6 (by rw [z]; exact fun y => nomatch y))
  refine q _ b' p6 (kp5.trans (Kp.of s6)) ⟨dx, s6 _ _ hd5⟩ (h3.to (sw5.trans (Same.wo s6))) (s6 _ _ hp5) ⟨_, s6 _ _ ha5, by simp⟩ np6H (lst_dp ?_ np6 (da hwd sw5))
  exact In.kp hS kp5
end
end K59
set_option maxHeartbeats 4000000
namespace K59
open PySem PySem.Spec PyProof.Rows L2
/-- try: body / finally: suite. tb W: the body's reading, W what is wished of its errors; tf: the suite behind a body that ran through; tfs: the suite with the error in flight, which goes on to Wout -/
def tFin (tb : WX → TS) (tf tfs : TS) (Wout : WX) : TS := fun D σ H => tb (wFin tfs Wout) { nx := fun σ1 H1 => tf D σ1 H1, rt := fun _ _ => False } σ H
section
variable {X : Cx} {body : List Stmt} {f₀ : Stmt} {fs : List Stmt} {pos : Pos} {tb : WX → TS} {tf tfs : TS} {Wout : WX}
theorem ps_fin (hs : X.stack = X.env :: X.outer) (hf : X.env.frame = some X.env.locals) (hex : X.ex = []) (tk : Takes X Wout)
    (hb : ∀ (W : WX) (pn : List (Addr × Obj)) (xe : Value → Shared → Prop), Takes (X.tr pn xe) W → PassesOwn (model X.prog X.w) X.A X.env xe → PSs (X.tr pn xe) body (tb W))
    (hfin : PSs X.nox (f₀ :: fs) tf) (hsu : ∀ (a : Addr) (pn : List (Addr × Obj)), PSs (X.suite a pn) (f₀ :: fs) tfs) : PS X (.Try body [] [] (f₀ :: fs) pos) (tFin tb tf tfs Wout) := by
  refine ⟨fun pins s σ H D I h => ?_⟩
  have ok := I.ok
  refine wpAny_Try_finally ?_
  refine wpAny_mono ((hb (wFin tfs Wout) (X.pn ++ pins) (fun x s₁ => wpAny (model X.prog X.w) X.A (noteFrame x X.env) (fun _ s₂ => FinallyRaised X.prog X.w X.A X.xe X.env (f₀ :: fs) (SP X pins D) x s₂) (FinallyRaised X.prog X.w X.A X.xe X.env (f₀ :: fs) (SP X pins D)) s₁)
    (fun u s' xx => ?_) PassesOwn.looking).run [] s σ H { nx := fun σ1 H1 => tf D σ1 H1, rt := fun _ _ => False } (I.toTry _) h) (fun g s1 z => ?_) (fun x s1 hx => hx)
  · exact fin_exc hs hf hex ok tk hsu xx
  · cases g with
    | ret u =>
      obtain ⟨_, _, _, _, _, q⟩ := z
      exact False.elim q
    | brk =>
      obtain ⟨_, _, _, q⟩ := z
      exact False.elim q
    | cont =>
      obtain ⟨_, _, _, q⟩ := z
      exact False.elim q
    | next =>
      obtain ⟨σ1, H1, J1, q1⟩ := z
      refine wpAny_execs_nil ?_
      refine wpAny_mono (hfin.run pins s1 σ1 H1 D ((J1.ofTry ok).wish _) q1) (fun g2 s2 q2 => ?_) fun _ _ e => False.elim e
      have q3 : SP X pins D g2 s2 := q2.unwish
      cases g2 <;> exact q3
end
def goodAll : Bk → List Deed → Prop
  | _, [] => True
  | b, d :: ds => Good b d ∧ goodAll (done b d) ds
def doneAll (b : Bk) (ds : List Deed) : Bk := ds.foldl done b
theorem doneAll_snoc {b : Bk} {ds : List Deed} {d : Deed} : doneAll b (ds ++ [d]) = done (doneAll b ds) d := by
  unfold doneAll; rw [List.foldl_append]; rfl
theorem goodAll_at : ∀ {ds : List Deed} {b : Bk} {i : Nat} {d : Deed}, goodAll b ds → ds[i]? = some d → Good (doneAll b (ds.take i)) d
  | [], _, _, _, _, h => by simp at h
  | d :: ds, b, 0, e, g, h => by simp at h; subst h; exact g.1
  | d :: ds, b, i + 1, e, g, h => goodAll_at (ds := ds) (b := done b d) (i := i) g.2 (by simpa using h)
theorem goodAll_ok : ∀ {ds : List Deed} {b : Bk}, BkOk b → goodAll b ds → BkOk (doneAll b ds)
  | [], _, h, _ => h
  | d :: ds, b, h, g => show BkOk (doneAll (done b d) ds) from goodAll_ok (done_ok h g.1) g.2
theorem goodAll_take : ∀ {ds : List Deed} {b : Bk} {i : Nat}, goodAll b ds → goodAll b (ds.take i)
  | [], _, _, _ => by simp [goodAll]
  | _ :: _, _, 0, _ => trivial
  | _ :: _, _, _ + 1, g => ⟨g.1, goodAll_take g.2⟩
/-- a deed that never may be done, its error -/
inductive BadAt : Str → Str → PyData → Prop
  | deed : BadAt "BadDeed" "baddeed" (.tuple [])
  | tape : BadAt "NoTape" "notape" (Deed.drop "none at all").P
  | name : BadAt "BadName" "badname" (Deed.new "A" 96).P
section
variable {P : Program} {w : World} {K : PySem.W.Frag} {mg : Str → Option Value} {base : Heap}
structure DoIn (K : PySem.W.Frag) (H : Hp) (S : List Addr) (dk b e pa ah h : Addr) (xs vs : List V) (bk : Bk) (ds : List Deed) (tl : List PyData) : Prop where
  ins : In S H
  dkS : dk ∈ S
  paS : pa ∈ S
  pd : pa ≠ dk
  hd : h ≠ dk
  hp : h ≠ pa
  is : DkIs K H dk b e pa ah 0
  past : H pa = some (.lst xs)
  fewP : xs.length ≤ 1000
  hand : H h = some (.lst vs)
  bki : BkIs K (wo S H) b bk
  ok : BkOk bk
  dat : DpAll K (wo S H) vs (ds.map Deed.P ++ tl)
  few : vs.length ≤ 1000
  good : goodAll bk ds
def spDoAll (K : PySem.W.Frag) : Sp := fun vs' H Q E => ∃ (S : List Addr) (dk b e pa ah h : Addr) (xs vs : List V) (bk : Bk) (ds : List Deed) (tl : List PyData), vs' = [.ref dk, .ref h] ∧ DoIn K H S dk b e pa ah h xs vs bk ds tl ∧
  ((tl = [] ∧ ds = [] ∧ ∀ H', Kp [dk] H H' → DkIs K H' dk b e pa ah 0 → Q .non H') ∨
   (tl = [] ∧ ds ≠ [] ∧ ∀ H' b' ah' x, Kp [dk, pa] H H' → DkIs K H' dk b' b pa ah' 0 → BkIs K (wo (ah' :: S) H') b' (doneAll bk ds) → H' pa = some (.lst (xs ++ [x])) → rowR K (wo (ah' :: S) H') x (ds.map Deed.P, bk) → H' ah' = some (.lst []) → H ah' = none → Q .non H') ∨
   (∃ x z bad tl', tl = bad :: tl' ∧ BadAt x z bad ∧ ∀ H' d, Kp [dk] H H' → DkIs K H' dk b e pa ah 0 → H d = none → H' d = some (.xd [("called", .str z)]) → E (.ref (cA K x)) (some d) H'))
abbrev tbDo (K : PySem.W.Frag) (W : WX) : TS := tSeq (tFor (iList K (tVar 1)) (gName 4) (sFld K (tVar 0) (tCallS (spAfter K) (WE W) (tCons (tFld K (tVar 0) "book") (tCons (tVar 4) tNil))) "book")) (tAsg (tC (.bl true)) (gName 3))
abbrev tfDo (K : PySem.W.Frag) : TS := tSeq (sFldAug K (tVar 0) (tC (.int 1)) rSub "under") (tIfS (tTest (tOp (fun x y H Q => y = .non ∧ Q (.bl (decide (x = .non))) H) (tVar 3) (tC .non))) (sFld K (tVar 0) (tVar 2) "book") tNext)
abbrev s_Deck_do_all : Stmt := inClass (top 102) 4
abbrev N_Deck_do_all : List Str := ["self", "deeds", "begun", "done", "deed"]
theorem sc_Deck_do_all : FnScope N_Deck_do_all ["self", "deeds"] (C8.fnScope s_Deck_do_all) := C8.fnScope_by (by decide +kernel)
theorem m_Deck_do_all (T : Fx w K mg) : MetX P w K mg base 10 (cA K "Deck") "do_all" (spDoAll K) := by
  refine metX_ T.c_Deck T.m_Deck_do_all (fun _ _ _ _ _ _ us hl => match us, hl with | [_, _], _ => rfl) sc_Deck_do_all (fun vs H Q E h => by obtain ⟨S, dk, b, e, pa, ah, h, xs, vs', bk, ds, tl, rfl, _⟩ := h; rfl) (fun f cdv A outer s H vs Q E hr h => ?_)
  have nd := sc_Deck_do_all.nd
  have hu := hu_of hr
  have hu64 := hu64 hr
  obtain ⟨fA, fdA, psA, FA, hmA, kpA, bA⟩ := (c_after (P := P) (base := base) T).ex
  refine ⟨_, (pss_cons (ps_set (i := 2) nd rfl (by first | exact Or.inl rfl | exact Or.inr rfl) (pe_fld (pv 0) rfl)) (pss_cons (ps_set (i := 3) nd rfl (by first | exact Or.inl rfl | exact Or.inr rfl) pe_non)
      (pss_cons (ps_fldaug (pv 0) pe_int in_add) (pss_cons (ps_fin (tb := tbDo K) (tf := tfDo K) (tfs := tfDo K) rfl rfl rfl (takes_of rfl rfl rfl rfl)
      (fun W pn xe tk po => pss_cons (ps_for po rfl (pi_list (pv 1)) (pg_name (i := 4) nd rfl (Or.inl rfl)) (pss_one (ps_fld (pv 0) (pe_callS (E := WE W) FA hr rfl hmA kpA bA
      (fun σ => passAt tk σ) (pa_cons (pe_fld (pv 0) rfl) (pa_cons (pv 4) pa_nil))) rfl))) (pss_one (ps_set (i := 3) nd rfl (Or.inl rfl) pe_bl)))
      (pss_cons (ps_fldaug (pv 0) pe_int in_sub) (pss_one (ps_if (pt_cmpR op_isN (pv 3) pe_non (nomark _)) (pss_one (ps_fld (pv 0) (pv 2) rfl)) pss_nil)))
      (fun a pn => pss_cons (ps_fldaug (pv 0) pe_int in_sub) (pss_one (ps_if (pt_cmpR op_isN (pv 3) pe_non (nomark _)) (pss_one (ps_fld (pv 0) (pv 2) rfl)) pss_nil))))
      (pss_one (ps_if (pt_cmpR op_gt (pe_callB (r := rLenSq K) call_len_seq (by rfl) T.f_len PySem.boot_len (pa_cons (pv 1) pa_nil)) pe_int (nomark _))
      (pss_cons (ps_expr (pe_bm PySem.F.plainAttrs_list PySem.F.slot_list_append PySem.F.type_list_append mt_append (pe_fld (pv 0) rfl) (pa_cons
      (pe_tup (pa_cons (pe_callTy (T := "list") (r := rListOf K) call_list_of (by rfl) T.f_list (by decide +kernel) (pa_cons (pv 1) pa_nil)) (pa_cons
      (pv 2) pa_nil))) pa_nil))) (pss_cons (ps_fld (pv 0) (pe_lst pa_nil) rfl) (pss_one (ps_fld (pv 0) (pv 2) rfl)))) pss_nil)))))), ?_⟩

  obtain ⟨S, dk, b, e, pa, ah, h, xs, vs', bk, ds, tl, rfl, di, out⟩ := h
  obtain ⟨hS, k1, k2, n1, n2, n3, ⟨dx, hd⟩, hp, lp, hh, bki, ok, dat, few, ga⟩ := di
  have lv : vs'.length = ds.length + tl.length := by rw [DpAll.len dat, List.length_append, List.length_map]
  refine ⟨_, rfl, dk, _, dx, _, _, rfl, hd, T.c_Deck, T.n_Deck_book, rfl, ?_⟩
  refine ⟨_, rfl, dk, _, dx, _, _, rfl, hd, T.c_Deck, T.n_Deck_under, rfl, _, _, rfl, rfl, dx, _, hd, (by show 5 < 1000; decide), ?_⟩
  have h1 : DkIs K (L2.upd H dk (.ins (cA K "Deck") dx (dkF b e pa ah 1))) dk b e pa ah 1 := ⟨dx, upd_same⟩
  have kp1 : Kp [dk] H (L2.upd H dk (.ins (cA K "Deck") dx (dkF b e pa ah 1))) := Kp.upd (by simp)
  have sub1 : ∀ a ∈ [dk], a ∈ S := fun a ha => by rw [List.mem_singleton.mp ha]; exact k1
  show tFin (tbDo K) (tfDo K) (tfDo K) (fun cls d x H => E cls d H) _ _ (L2.upd H dk (.ins (cA K "Deck") dx (dkF b e pa ah 1)))
  generalize L2.upd H dk (.ins (cA K "Deck") dx (dkF b e pa ah 1)) = H1 at h1 kp1
  have hand : ∀ H', Kp [dk] H H' → H' h = some (.lst vs') := fun H' k => k.keep h _ (by simpa using n2) hh
  have past : ∀ H', Kp [dk] H H' → H' pa = some (.lst xs) := fun H' k => k.keep pa _ (by simpa using n1) hp
  refine ⟨_, rfl, h, rfl, ⟨vs', SqL.of (hand _ kp1)⟩, ?_⟩
  refine for_it walk_list (fun i σ H' => (∃ y, σ = [some (.ref dk), some (.ref h), some (.ref b), some .non, y]) ∧ i ≤ ds.length ∧ ∃ b', (i = 0 → b' = b) ∧ DkIs K H' dk b' e pa ah 1 ∧ Kp [dk] H H' ∧ BkIs K (wo S H') b' (doneAll bk (ds.take i)))
    ⟨⟨_, rfl⟩, Nat.zero_le _, b, fun _ => rfl, h1, kp1, by simpa [doneAll] using bki.to (kp1.wo sub1)⟩ (fun i σ H' _ hh => by obtain ⟨_, _, b', _, _, k, _⟩ := hh; exact SqL.of (hand _ k)) ?_ ?_
  · rintro i el σ H2 H3 hi ⟨⟨y, rfl⟩, il, b', i0, ⟨dx2, hd2⟩, kp2, bk2⟩ ⟨rfl, hx⟩
    have ok2 := goodAll_ok ok (goodAll_take (i := i) ga)
    have hS2 := In.kp hS kp2
    have dat2 := da dat (kp2.wo sub1)
    refine ⟨_, rfl, dk, _, dx2, _, _, rfl, hd2, T.c_Deck, T.n_Deck_book, rfl, _, rfl, ?_⟩
    refine ⟨S, b', el, _, rfl, hS2, bk2, ok2, ?_⟩
    have raise : ∀ x z, (∀ H' d, Kp [dk] H H' → DkIs K H' dk b e pa ah 0 → H d = none → H' d = some (.xd [("called", .str z)]) → E (.ref (cA K x)) (some d) H') →
        Raised K (WE (wFin (tfDo K) fun cls d x H => E cls d H) [some (.ref dk), some (.ref h), some (.ref b), some .non, some el]) H3 x z := by
      intro x z hE H4 d s4 nd4 hd4
      have hdk4 := s4 _ _ hd2
      have ndk : d ≠ dk := fun z => by rw [z, hd2] at nd4; cases nd4
      refine ⟨_, rfl, dk, _, dx2, _, _, rfl, hdk4, T.c_Deck, T.n_Deck_under, rfl, _, _, rfl, rfl, dx2, _, hdk4, (by show 5 < 1000; decide), ?_⟩
      refine ⟨_, rfl, rfl, _, rfl, iteT ?_⟩
      refine ⟨_, rfl, _, rfl, dk, _, dx2, _, rfl, upd_same, T.c_Deck, T.n_Deck_book, (by show 5 < 1000; decide), ?_⟩
      refine hE _ d (kp2.trans ((Kp.of s4).trans ((Kp.upd (by simp)).trans (Kp.upd (by simp))))) ⟨dx2, upd_same⟩ ?_ ?_
      · cases z : H d with
        | none => rfl
        | some o => exact absurd nd4 (kp2.dom d (by rw [z]; exact fun y => nomatch y))
      · rw [upd_ne ndk, upd_ne ndk]; exact hd4
    obtain ⟨dd, hdd, hde⟩ := DpAll.at dat2 hx
    by_cases c : i < ds.length
    · rw [List.getElem?_append_left (by rw [List.length_map]; exact c), List.getElem?_map, List.getElem?_eq_getElem c] at hdd
      cases hdd
      refine .inl ⟨ds[i], hde, .inl ⟨goodAll_at ga (List.getElem?_eq_getElem c), fun H4 p s4 np bk4 => ?_⟩⟩
      refine ⟨_, rfl, dk, _, dx2, _, rfl, s4 _ _ hd2, T.c_Deck, T.n_Deck_book, (by show 5 < 1000; decide), ?_⟩
      refine ⟨⟨_, rfl⟩, c, p, fun z => by omega, ⟨dx2, upd_same⟩, kp2.trans ((Kp.of s4).trans (Kp.upd (by simp))), ?_⟩
      rw [wo_upd k1, take_succ' (List.getElem?_eq_getElem c), doneAll_snoc]
      exact bk4
    · have ie : i = ds.length := by omega
      rcases out with ⟨rfl, _⟩ | ⟨rfl, _⟩ | ⟨x, z, bad, tl', rfl, hb, hE⟩
      · simp at lv; omega
      · simp at lv; omega
      · rw [List.getElem?_append_right (by rw [List.length_map]; omega), List.length_map, ie, Nat.sub_self] at hdd
        cases hdd
        have r := raise x z hE
        cases hb with
        | deed =>
          obtain ⟨a, zs, rfl, h1, h2⟩ := Dp.tupI hde
          cases h2
          exact .inr ⟨⟨a, rfl, same_t wo_sub h1⟩, r⟩
        | tape =>
          refine .inl ⟨_, hde, .inr (.inr ⟨⟨_, rfl, fun z => ?_⟩, r⟩)⟩
          obtain ⟨p, hp', e'⟩ := List.mem_map.mp z
          have nk := (ok2.nm p hp').2.1
          rw [e'] at nk
          exact absurd nk (by decide +kernel)
        | name => exact .inl ⟨_, hde, .inr (.inl ⟨⟨96, rfl⟩, r⟩)⟩
  · rintro σ H2 ⟨⟨y, rfl⟩, il, b', i0, ⟨dx2, hd2⟩, kp2, bk2⟩
    rw [List.take_of_length_le (by omega)] at bk2
    have tl0 : tl = [] := by
      have : tl.length = 0 := by omega
      exact List.eq_nil_of_length_eq_zero this
    subst tl0
    refine ⟨_, rfl, dk, _, dx2, _, _, rfl, hd2, T.c_Deck, T.n_Deck_under, rfl, _, _, rfl, rfl, dx2, _, hd2, (by show 5 < 1000; decide), ?_⟩
    refine ⟨_, rfl, rfl, _, rfl, iteF ?_⟩
    have hd3 : (L2.upd H2 dk (.ins (cA K "Deck") dx2 (dkF b' e pa ah 0))) dk = some (.ins (cA K "Deck") dx2 (dkF b' e pa ah 0)) := upd_same
    have kp3 : Kp [dk] H (L2.upd H2 dk (.ins (cA K "Deck") dx2 (dkF b' e pa ah 0))) := kp2.trans (Kp.upd (by simp))
    have bk3 : BkIs K (wo S (L2.upd H2 dk (.ins (cA K "Deck") dx2 (dkF b' e pa ah 0)))) b' (doneAll bk ds) := by rw [wo_upd k1]; exact bk2
    have eu : putF "under" (V.int (1 - 1)) (dkF b' e pa ah 1) = dkF b' e pa ah 0 := rfl
    rw [eu]
    generalize L2.upd H2 dk (.ins (cA K "Deck") dx2 (dkF b' e pa ah 0)) = H3 at hd3 kp3 bk3
    refine ⟨_, rfl, h, vs', rfl, .inl (SqL.of (hand _ kp3)), _, _, rfl, rfl, _, rfl, ?_⟩
    rcases out with ⟨_, e0, q⟩ | ⟨_, ne, q⟩ | ⟨x, z, bad, tl', e0, _⟩
    · subst e0
      rw [decF (by rw [lv]; simp)]
      have z0 := i0 (by rw [lv]; rfl)
      subst z0
      exact iteF (q H3 kp3 ⟨dx2, hd3⟩)
    · have lp1 : 0 < ds.length := List.length_pos_iff.mpr ne
      rw [decT (by rw [lv]; simp; omega)]
      refine iteT ?_
      refine ⟨_, rfl, dk, _, dx2, _, _, rfl, hd3, T.c_Deck, T.n_Deck_past, rfl, .inl ⟨rfl, _, SqL.of (past _ kp3)⟩, ?_⟩
      refine ⟨_, rfl, h, vs', rfl, .inl (SqL.of (hand _ kp3)), fun l nl => ?_⟩
      have s4 := Same.upd (o := .lst vs') nl
      refine ⟨_, rfl, by show 2 ≤ sizeLine; decide, fun t nt => ?_⟩
      have s5 := Same.upd (o := .tup [.ref l, .ref b]) nt
      have hS3 := In.kp hS kp3
      have dat3 := da dat (kp3.wo sub1)
      simp only [List.append_nil] at dat3
      have dl : Dp K (wo S (L2.upd (L2.upd H3 l (.lst vs')) t (.tup [.ref l, .ref b]))) (.ref l) (.list (ds.map Deed.P)) := dp (lst_dp hS3 nl dat3) (Same.wo s5)
      have rt : SqT K (wo S (L2.upd (L2.upd H3 l (.lst vs')) t (.tup [.ref l, .ref b]))) t [.ref l, .ref b] := sqt_new (In.same hS3 s4) nt
      have s45 := s4.trans s5
      have past5 := s45 _ _ (past _ kp3)
      have hd5 := s45 _ _ hd3
      have kp5 := kp3.trans (Kp.of (S := [dk]) s45)
      have bk5 := bk3.to (Same.wo s45)
      generalize L2.upd (L2.upd H3 l (.lst vs')) t (.tup [.ref l, .ref b]) = H5 at *
      refine ⟨pa, xs, _, rfl, rfl, past5, szl (by omega), ?_⟩
      have hd6 : (L2.upd H5 pa (.lst (xs ++ [.ref t]))) dk = some (.ins (cA K "Deck") dx2 (dkF b' e pa ah 0)) := by rw [upd_ne (Ne.symm n1)]; exact hd5
      have w6 : wo S (L2.upd H5 pa (.lst (xs ++ [.ref t]))) = wo S H5 := wo_upd k2
      refine ⟨sz (by simp), fun ah' na => ?_⟩
      have s7 := Same.upd (o := .lst []) na
      have adk : ah' ≠ dk := fun z => by rw [z, hd6] at na; cases na
      have apa : ah' ≠ pa := fun z => by rw [z, upd_same] at na; cases na
      refine ⟨_, rfl, dk, _, dx2, _, rfl, s7 _ _ hd6, T.c_Deck, T.n_Deck_ahead, (by show 5 < 1000; decide), ?_⟩
      refine ⟨_, rfl, _, rfl, dk, _, dx2, _, rfl, upd_same, T.c_Deck, T.n_Deck_elder, (by show 5 < 1000; decide), ?_⟩
      have kpA : Kp [dk, pa] H (L2.upd H5 pa (.lst (xs ++ [.ref t]))) := (kp5.more (by simp)).trans (Kp.upd (by simp))
      have naH : H ah' = none := by
        cases z : H ah' with
        | none => rfl
        | some o => exact absurd na (kpA.dom ah' (by rw [z]; exact fun y => nomatch y))
      have sw : Same (wo S H5) (wo (ah' :: S) (L2.upd (L2.upd (L2.upd (L2.upd H5 pa (.lst (xs ++ [.ref t]))) ah' (.lst [])) dk (.ins (cA K "Deck") dx2 (dkF b' e pa ah' 0))) dk (.ins (cA K "Deck") dx2 (dkF b' b pa ah' 0)))) := by
        rw [wo_upd (List.mem_cons_of_mem _ k1), wo_upd (List.mem_cons_of_mem _ k1), ← w6]
        exact wo_plus s7 na
      refine q _ b' ah' (.ref t) (kpA.trans ((Kp.of s7).trans ((Kp.upd (by simp)).trans (Kp.upd (by simp))))) ⟨dx2, upd_same⟩ (bk5.to sw) ?_ ⟨t, l, b, rfl, same_t sw rt, dp dl sw, (bki.to (kp5.wo sub1)).to sw⟩ ?_ naH
      · rw [upd_ne n1, upd_ne n1, upd_ne (Ne.symm apa), upd_same]
      · rw [upd_ne adk, upd_ne adk, upd_same]
    · cases e0
end
end K59
set_option maxHeartbeats 4000000
namespace K59
open PySem PySem.Spec PyProof.Rows L2
/-! ### draws -/
structure DrawAt (K : PySem.W.Frag) (H : Hp) (d c : Addr) : Prop where
  ex : ∃ (at' big small cnt : Int) (cs : List Int), H d = some (.lst [.ref c, .int at', .int big, .int small, .int cnt]) ∧ SqL K (wo [d] H) c (cs.map V.int) ∧ 0 ≤ at' ∧ 0 ≤ big ∧ (0 ≤ small ∧ small < 1000000007) ∧ 0 ≤ cnt
section
variable {K : PySem.W.Frag} {H H' : Hp} {d c : Addr}
theorem DrawAt.to (h : DrawAt K H d c) (s : Same H H') : DrawAt K H' d c := by
  obtain ⟨a, b, sm, cn, cs, h1, h2, r⟩ := h.ex
  exact ⟨a, b, sm, cn, cs, s _ _ h1, same_l (Same.wo s) h2, r⟩
theorem DrawAt.at (h : DrawAt K H d c) : H d ≠ none := by
  obtain ⟨a, b, sm, cn, cs, h1, _⟩ := h.ex
  rw [h1]; exact fun z => nomatch z
end
theorem set0 {a b c d e x : V} : [a, b, c, d, e].set 1 x = [a, x, c, d, e] := rfl
section
variable {P : Program} {w : World} {K : PySem.W.Frag} {mg : Str → Option Value} {base : Heap}
def spPick (K : PySem.W.Frag) : Sp := fun vs H Q _ => ∃ (d c : Addr) (m : Int), vs = [.ref d, .int m] ∧ DrawAt K H d c ∧ (0 < m ∧ m < 1073741824) ∧ ∀ H' k, (0 ≤ k ∧ k < m) → Kp [d] H H' → DrawAt K H' d c → Q (.int k) H'
abbrev s_law_pick : Stmt := top 105
abbrev N_law_pick : List Str := ["_law_draw", "_law_many", "_law_cell", "_law_got"]
theorem sc_law_pick : FnScope N_law_pick ["_law_draw", "_law_many"] (C8.fnScope s_law_pick) := C8.fnScope_by (by decide +kernel)
theorem c_law_pick (T : Fx w K mg) : C8.Cal P w K mg base 1 "_law_pick" (spPick K) [] := by
  refine cal_ T.d_law_pick (fun _ _ _ _ _ _ us hl => match us, hl with | [_, _], _ => rfl) sc_law_pick (fun vs H Q E h => by obtain ⟨d, c, m, rfl, _⟩ := h; rfl) (fun f cdv A outer s H vs Q E hr h => ?_)
  have nd := sc_law_pick.nd
  have hu := hu_of hr
  have hu64 := hu64 hr
  refine ⟨_, (C8.pss_cut (ps_if (PW.pt (pw_and (pt_cmpR op_lt (pe_ix (r := rIxL K) ix_list (pv 0) pe_int (fun _ _ => rfl)) (pv 1) (nomark _)) (pw_and1 (pt_cmpR op_lt
      (pe_ix (r := rIxL K) ix_list (pv 0) pe_int (fun _ _ => rfl)) (pe_callB (r := rLenSq K) call_len_seq (by rfl) T.f_len PySem.boot_len (pa_cons
      (pe_ix (r := rIxL K) ix_list (pv 0) pe_int (fun _ _ => rfl)) pa_nil)) (nomark _))))) (pss_cons (ps_set (i := 2) nd rfl (by first | exact Or.inl rfl | exact Or.inr rfl)
      (pe_ix (r := rIxL K) ix_list (pe_ix (r := rIxL K) ix_list (pv 0) pe_int (fun _ _ => rfl)) (pe_ix (r := rIxL K) ix_list (pv 0) pe_int (fun _ _ => rfl))
      (fun _ _ => rfl))) (pss_cons (ps_asg (pe_op op_add (pe_ix (r := rIxL K) ix_list (pv 0) pe_int (fun _ _ => rfl)) pe_int) (pg_sub (pv 0) pe_int set_list))
      (pss_cons (ps_asg pe_int (pg_sub (pv 0) pe_int set_list)) (pss_one (ps_if (pt_cmpR op_ge (pv 2) (pe_op op_pow pe_int pe_int) (nomark _)) (pss_one
      (ps_asg (pv 2) (pg_sub (pv 0) pe_int set_list))) (pss_one (ps_asg (pe_op op_mod (pe_op op_add (pe_ix (r := rIxL K) ix_list (pv 0) pe_int (fun _ _ => rfl))
      (pv 2)) pe_int) (pg_sub (pv 0) pe_int set_list)))))))) pss_nil) (pss_cons (ps_if (pt_cmpR op_ge (pe_ix (r := rIxL K) ix_list (pv 0) pe_int (fun _ _ => rfl))
      (pv 1) (nomark _)) (pss_cons (ps_set (i := 3) nd rfl (by first | exact Or.inl rfl | exact Or.inr rfl) (pe_op op_mod (pe_ix (r := rIxL K) ix_list
      (pv 0) pe_int (fun _ _ => rfl)) (pv 1))) (pss_cons (ps_asg (pe_op op_fdiv (pe_ix (r := rIxL K) ix_list (pv 0) pe_int (fun _ _ => rfl)) (pv 1))
      (pg_sub (pv 0) pe_int set_list)) (pss_one (ps_ret (pv 3))))) pss_nil) (pss_cons (ps_asg (pe_op op_add (pe_ix (r := rIxL K) ix_list (pv 0) pe_int
      (fun _ _ => rfl)) pe_int) (pg_sub (pv 0) pe_int set_list)) (pss_cons (ps_asg (pe_op op_mod (pe_op op_add (pe_op op_add (pe_op op_pow (pe_ix (r := rIxL K) ix_list
      (pv 0) pe_int (fun _ _ => rfl)) pe_int) (pe_op op_mul pe_int (pe_ix (r := rIxL K) ix_list (pv 0) pe_int (fun _ _ => rfl)))) pe_int) pe_int)
      (pg_sub (pv 0) pe_int set_list)) (pss_one (ps_ret (pe_op op_mod (pe_op op_fdiv (pe_ix (r := rIxL K) ix_list (pv 0) pe_int (fun _ _ => rfl)) pe_int)
      (pv 1)))))))), ?_⟩

  obtain ⟨d, c, m, rfl, ⟨at0, big, small, cnt, cs, hd, hc, a0, b0, ⟨s0, s1⟩, c0⟩, ⟨m0, m1⟩, q⟩ := h
  have kS : ∀ xs H0, Kp [d] H H0 → Kp [d] H (L2.upd H0 d (.lst xs)) := fun xs H0 k => k.trans (Kp.upd (by simp))
  refine ⟨fun σ H' => (∃ x3 x4, σ = [some (.ref d), some (.int m), x3, x4]) ∧ Kp [d] H H' ∧ DrawAt K H' d c, ?_, ?_⟩
  · refine ⟨_, rfl, d, _, _, _, rfl, rfl, SqL.of hd, atI_nat (j := 2) rfl, _, rfl, _, _, rfl, rfl, _, rfl, ?_⟩
    have stay : (∃ x3 x4, [some (.ref d), some (.int m), none, none] = [some (V.ref d), some (.int m), x3, x4]) ∧ Kp [d] H H ∧ DrawAt K H d c := ⟨⟨_, _, rfl⟩, Kp.refl _ _, ⟨at0, big, small, cnt, cs, hd, hc, a0, b0, ⟨s0, s1⟩, c0⟩⟩
    by_cases t1 : big < m
    · rw [decT t1]
      refine iteT ⟨_, rfl, d, _, _, _, rfl, rfl, SqL.of hd, atI_nat (j := 1) rfl, _, rfl, d, _, _, _, rfl, rfl, SqL.of hd, atI_nat (j := 0) rfl, c, _, rfl, .inl (same_l wo_sub hc), _, _, rfl, rfl, _, rfl, ?_⟩
      by_cases t2 : at0 < (cs.map V.int).length
      · rw [decT t2]
        refine iteT ?_
        obtain ⟨an, rfl⟩ : ∃ an : Nat, at0 = an := ⟨at0.toNat, by omega⟩
        have al : an < cs.length := by rw [List.length_map] at t2; omega
        have hx : (cs.map V.int)[an]? = some (.int cs[an]) := by rw [List.getElem?_map, List.getElem?_eq_getElem al]; rfl
        refine ⟨_, rfl, d, _, _, _, rfl, rfl, SqL.of hd, atI_nat (j := 0) rfl, _, rfl, d, _, _, _, rfl, rfl, SqL.of hd, atI_nat (j := 1) rfl, c, _, _, _, rfl, rfl, same_l wo_sub hc, atI_nat hx, ?_⟩
        refine ⟨_, rfl, d, _, _, _, rfl, rfl, SqL.of hd, atI_nat (j := 1) rfl, _, _, rfl, rfl, _, rfl, d, _, _, _, rfl, rfl, hd, ixN_in (by decide) (by simp), ?_⟩
        refine ⟨_, rfl, d, _, _, _, rfl, rfl, upd_same, ixN_in (by decide) (by simp), ?_⟩
        refine ⟨_, rfl, _, _, rfl, rfl, (by unfold CPow; decide), _, _, rfl, rfl, _, rfl, ?_⟩
        have k3 : Kp [d] H (L2.upd (L2.upd H d (.lst [.ref c, .int (an + 1), .int big, .int small, .int cnt])) d (.lst [.ref c, .int (an + 1), .int 0, .int small, .int cnt])) := kS _ _ (kS _ _ (Kp.refl _ _))
        have w3 : wo [d] (L2.upd (L2.upd H d (.lst [.ref c, .int (an + 1), .int big, .int small, .int cnt])) d (.lst [.ref c, .int (an + 1), .int 0, .int small, .int cnt])) = wo [d] H := by rw [wo_upd (by simp), wo_upd (by simp)]
        by_cases t3 : cs[an] ≥ (10 : Int) ^ (18 : Int).toNat
        · rw [decT t3]
          refine iteT ⟨_, rfl, _, rfl, d, _, _, _, rfl, rfl, upd_same, ixN_in (by decide) (by simp), ?_⟩
          refine ⟨⟨_, _, rfl⟩, kS _ _ k3, ⟨an + 1, cs[an], small, cnt, cs, upd_same, by rw [wo_upd (by simp)]; rw [← w3] at hc; exact hc, by omega, ?_, ⟨s0, s1⟩, c0⟩⟩
          have : (0 : Int) ≤ (10 : Int) ^ (18 : Int).toNat := by decide
          omega
        · rw [decF t3]
          refine iteF ⟨_, rfl, d, _, _, _, rfl, rfl, SqL.of upd_same, atI_nat (j := 3) rfl, _, rfl, _, _, rfl, rfl, _, _, rfl, rfl, (by decide : (0 : Int) < 1000000007), ?_⟩
          refine ⟨_, rfl, d, _, _, _, rfl, rfl, upd_same, ixN_in (by decide) (by simp), ?_⟩
          exact ⟨⟨_, _, rfl⟩, kS _ _ k3, ⟨an + 1, 0, _, cnt, cs, upd_same, by rw [wo_upd (by simp)]; rw [← w3] at hc; exact hc, by omega, by omega, ⟨Int.emod_nonneg _ (by decide), Int.emod_lt_of_pos _ (by decide)⟩, c0⟩⟩
      · rw [decF t2]
        exact iteF stay
    · rw [decF t1]
      exact iteF (iteF stay)
  rintro σ H2 ⟨⟨x3, x4, rfl⟩, k2, ⟨at0, big, small, cnt, cs, hd, hc, a0, b0, ⟨s0, s1⟩, c0⟩⟩
  refine ⟨_, rfl, d, _, _, _, rfl, rfl, SqL.of hd, atI_nat (j := 2) rfl, _, rfl, _, _, rfl, rfl, _, rfl, ?_⟩
  by_cases t1 : big ≥ m
  · rw [decT t1]
    refine iteT ⟨_, rfl, d, _, _, _, rfl, rfl, SqL.of hd, atI_nat (j := 2) rfl, _, rfl, _, _, rfl, rfl, m0, ?_⟩
    refine ⟨_, rfl, d, _, _, _, rfl, rfl, SqL.of hd, atI_nat (j := 2) rfl, _, rfl, _, _, rfl, rfl, ⟨m0, m1⟩, ?_⟩
    refine ⟨_, rfl, d, _, _, _, rfl, rfl, hd, ixN_in (by decide) (by simp), ?_⟩
    refine ⟨_, rfl, q _ _ ⟨Int.emod_nonneg _ (by omega), Int.emod_lt_of_pos _ m0⟩ (kS _ _ k2) ⟨at0, big / m, small, cnt, cs, upd_same, by rw [wo_upd (by simp)]; exact hc, a0, Int.ediv_nonneg b0 (by omega), ⟨s0, s1⟩, c0⟩⟩
  · rw [decF t1]
    refine iteF ⟨_, rfl, d, _, _, _, rfl, rfl, SqL.of hd, atI_nat (j := 4) rfl, _, _, rfl, rfl, _, rfl, d, _, _, _, rfl, rfl, hd, ixN_in (by decide) (by simp), ?_⟩
    have k3 := kS [.ref c, .int at0, .int big, .int small, .int (cnt + 1)] _ k2
    refine ⟨_, rfl, d, _, _, _, rfl, rfl, SqL.of upd_same, atI_nat (j := 3) rfl, _, _, rfl, rfl, ⟨by decide, by decide, by omega⟩, _, rfl, d, _, _, _, rfl, rfl, SqL.of upd_same, atI_nat (j := 4) rfl, _, _, rfl, rfl, .inl ⟨by decide, by decide⟩, _, _, rfl, rfl, _, _, rfl, rfl, _, _, rfl, rfl, (by decide : (0 : Int) < 1000000007), ?_⟩
    refine ⟨_, rfl, d, _, _, _, rfl, rfl, upd_same, ixN_in (by decide) (by simp), ?_⟩
    refine ⟨_, rfl, d, _, _, _, rfl, rfl, SqL.of upd_same, atI_nat (j := 3) rfl, _, _, rfl, rfl, ⟨by decide, by decide⟩, _, rfl, _, _, rfl, rfl, m0, ?_⟩
    exact q _ _ ⟨Int.emod_nonneg _ (by omega), Int.emod_lt_of_pos _ m0⟩ (kS _ _ k3) ⟨at0, big, _, cnt + 1, cs, upd_same, by rw [wo_upd (by simp), wo_upd (by simp)]; exact hc, a0, b0, ⟨Int.emod_nonneg _ (by decide), Int.emod_lt_of_pos _ (by decide)⟩, by omega⟩
def spOne (K : PySem.W.Frag) : Sp := fun vs H Q _ => ∃ (d c l : Addr) (xs : List V), vs = [.ref d, .ref l] ∧ DrawAt K H d c ∧ SqL K (wo [d] H) l xs ∧ (0 < xs.length ∧ xs.length ≤ 1000) ∧ ∀ H' x, x ∈ xs → Kp [d] H H' → DrawAt K H' d c → Q x H'
abbrev s_law_one : Stmt := top 106
abbrev N_law_one : List Str := ["_law_draw", "_law_some"]
theorem sc_law_one : FnScope N_law_one ["_law_draw", "_law_some"] (C8.fnScope s_law_one) := C8.fnScope_by (by decide +kernel)
theorem c_law_one (T : Fx w K mg) : C8.Cal P w K mg base 2 "_law_one" (spOne K) [] := by
  refine cal_ T.d_law_one (fun _ _ _ _ _ _ us hl => match us, hl with | [_, _], _ => rfl) sc_law_one (fun vs H Q E h => by obtain ⟨d, c, l, xs, rfl, _⟩ := h; rfl) (fun f cdv A outer s H vs Q E hr h => ?_)
  have nd := sc_law_one.nd
  have hu := hu_of hr
  have hu64 := hu64 hr
  refine ⟨_, (pss_one (ps_ret (pe_ix (r := rIxL K) ix_list (pv 1) (C8.pe_c (c_law_pick T) hr (by decide) rfl (pa_cons (pv 0) (pa_cons (pe_callB (r := rLenSq K) call_len_seq
      (by rfl) T.f_len PySem.boot_len (pa_cons (pv 1) pa_nil)) pa_nil))) (fun _ _ => rfl)))), ?_⟩

  obtain ⟨d, c, l, xs, rfl, da, hl, ⟨l0, l1⟩, q⟩ := h
  refine ⟨_, rfl, _, rfl, _, rfl, l, xs, rfl, .inl (same_l wo_sub hl), d, c, _, rfl, da, ⟨by omega, by omega⟩, fun H1 k hk kp da1 => ?_⟩
  obtain ⟨kn, rfl⟩ : ∃ kn : Nat, k = kn := ⟨k.toNat, by omega⟩
  have kl : kn < xs.length := by omega
  exact ⟨l, xs, _, xs[kn], rfl, rfl, same_l ((kp.wo (by simp)).trans wo_sub) hl, atI_nat (List.getElem?_eq_getElem kl), q H1 _ (List.getElem_mem kl) kp da1⟩
end
end K59
set_option maxHeartbeats 4000000
namespace K59
open PySem PySem.Spec PyProof.Rows L2
theorem DrawAt.ins {K : PySem.W.Frag} {H : Hp} {d c : Addr} (h : DrawAt K H d c) : In [d] H := fun a z => by rw [List.mem_singleton.mp z]; exact h.at
theorem ints_at {is : List Int} {k : Int} (h : 0 ≤ k ∧ k < is.length) : ∃ i, i ∈ is ∧ atI (is.map V.int) k = some (.int i) := by
  obtain ⟨kn, rfl⟩ : ∃ kn : Nat, k = kn := ⟨k.toNat, by omega⟩
  have hl : kn < is.length := by omega
  exact ⟨is[kn], List.getElem_mem hl, atI_nat (by rw [List.getElem?_map, List.getElem?_eq_getElem hl]; rfl)⟩
section
variable {P : Program} {w : World} {K : PySem.W.Frag} {mg : Str → Option Value} {base : Heap}
def spInt (K : PySem.W.Frag) : Sp := fun vs H Q _ => ∃ d c : Addr, vs = [.ref d] ∧ DrawAt K H d c ∧ ∀ H' i, Kp [d] H H' → DrawAt K H' d c → Q (.int i) H'
abbrev s_law_beat : Stmt := top 107
abbrev N_law_beat : List Str := ["_law_draw"]
theorem sc_law_beat : FnScope N_law_beat ["_law_draw"] (C8.fnScope s_law_beat) := C8.fnScope_by (by decide +kernel)
theorem c_law_beat (T : Fx w K mg) : C8.Cal P w K mg base 3 "_law_beat" (spInt K) [] := by
  refine cal_ T.d_law_beat (fun _ _ _ _ _ _ us hl => match us, hl with | [_], _ => rfl) sc_law_beat (fun vs H Q E h => by obtain ⟨d, c, rfl, _⟩ := h; rfl) (fun f cdv A outer s H vs Q E hr h => ?_)
  have nd := sc_law_beat.nd
  have hu := hu_of hr
  have hu64 := hu64 hr
  refine ⟨_, (pss_one (ps_ret (C8.pe_c (c_law_one T) hr (by decide) rfl (pa_cons (pv 0) (pa_cons (pe_lst (pa_cons pe_int (pa_cons pe_int (pa_cons pe_int (pa_cons
      (pe_op op_add pe_int (C8.pe_c (c_law_pick T) hr (by decide) rfl (pa_cons (pv 0) (pa_cons pe_int pa_nil)))) (pa_cons pe_int (pa_cons pe_int pa_nil))))))) pa_nil))))), ?_⟩

  obtain ⟨d, c, rfl, da, q⟩ := h
  refine ⟨_, rfl, _, rfl, d, c, _, rfl, da, ⟨by decide, by decide⟩, fun H1 k hk kp da1 => ⟨_, _, rfl, rfl, sz (by simp), fun p np => ?_⟩⟩
  refine ⟨d, c, p, _, rfl, da1.to (Same.upd np), sql_new da1.ins np, ⟨by simp, by simp⟩, fun H2 x hx kp2 da2 => ?_⟩
  obtain ⟨i, rfl⟩ : ∃ i, x = V.int i := by
    simp only [List.mem_cons, List.not_mem_nil, or_false] at hx
    rcases hx with rfl | rfl | rfl | rfl | rfl | rfl <;> exact ⟨_, rfl⟩
  exact q H2 i (kp.trans ((Kp.of (Same.upd np)).trans kp2)) da2
abbrev s_law_pace : Stmt := top 114
abbrev N_law_pace : List Str := ["_law_draw"]
theorem sc_law_pace : FnScope N_law_pace ["_law_draw"] (C8.fnScope s_law_pace) := C8.fnScope_by (by decide +kernel)
theorem c_law_pace (T : Fx w K mg) : C8.Cal P w K mg base 3 "_law_pace" (spInt K) [] := by
  refine cal_ T.d_law_pace (fun _ _ _ _ _ _ us hl => match us, hl with | [_], _ => rfl) sc_law_pace (fun vs H Q E h => by obtain ⟨d, c, rfl, _⟩ := h; rfl) (fun f cdv A outer s H vs Q E hr h => ?_)
  have nd := sc_law_pace.nd
  have hu := hu_of hr
  have hu64 := hu64 hr
  refine ⟨_, (pss_one (ps_ret (C8.pe_c (c_law_one T) hr (by decide) rfl (pa_cons (pv 0) (pa_cons (pe_lst (pa_cons pe_int (pa_cons pe_int (pa_cons pe_int (pa_cons
      (pe_op op_add pe_int (C8.pe_c (c_law_pick T) hr (by decide) rfl (pa_cons (pv 0) (pa_cons pe_int pa_nil)))) (pa_cons (pe_op op_add pe_int (C8.pe_c
      (c_law_pick T) hr (by decide) rfl (pa_cons (pv 0) (pa_cons pe_int pa_nil)))) (pa_cons pe_int pa_nil))))))) pa_nil))))), ?_⟩

  obtain ⟨d, c, rfl, da, q⟩ := h
  refine ⟨_, rfl, _, rfl, d, c, _, rfl, da, ⟨by decide, by decide⟩, fun H1 k hk kp da1 => ⟨_, _, rfl, rfl, _, rfl, d, c, _, rfl, da1, ⟨by decide, by decide⟩, fun H1' k' hk' kp' da1' => ⟨_, _, rfl, rfl, sz (by simp), fun p np => ?_⟩⟩⟩
  refine ⟨d, c, p, _, rfl, da1'.to (Same.upd np), sql_new da1'.ins np, ⟨by simp, by simp⟩, fun H2 x hx kp2 da2 => ?_⟩
  obtain ⟨i, rfl⟩ : ∃ i, x = V.int i := by
    simp only [List.mem_cons, List.not_mem_nil, or_false] at hx
    rcases hx with rfl | rfl | rfl | rfl | rfl | rfl <;> exact ⟨_, rfl⟩
  exact q H2 i (kp.trans (kp'.trans ((Kp.of (Same.upd np)).trans kp2))) da2
abbrev s_law_tick : Stmt := top 108
abbrev N_law_tick : List Str := ["_law_draw"]
theorem sc_law_tick : FnScope N_law_tick ["_law_draw"] (C8.fnScope s_law_tick) := C8.fnScope_by (by decide +kernel)
theorem c_law_tick (T : Fx w K mg) : C8.Cal P w K mg base 2 "_law_tick" (spInt K) [] := by
  refine cal_ T.d_law_tick (fun _ _ _ _ _ _ us hl => match us, hl with | [_], _ => rfl) sc_law_tick (fun vs H Q E h => by obtain ⟨d, c, rfl, _⟩ := h; rfl) (fun f cdv A outer s H vs Q E hr h => ?_)
  have nd := sc_law_tick.nd
  have hu := hu_of hr
  have hu64 := hu64 hr
  refine ⟨_, (pss_one (ps_ret (pe_ix (r := rIxT K) ix_tup (pe_tup (pa_cons (C8.pe_c (c_law_pick T) hr (by decide) rfl (pa_cons (pv 0) (pa_cons pe_int pa_nil)))
      (pa_cons (C8.pe_c (c_law_pick T) hr (by decide) rfl (pa_cons (pv 0) (pa_cons pe_int pa_nil))) (pa_cons (C8.pe_c (c_law_pick T) hr (by decide) rfl
      (pa_cons (pv 0) (pa_cons (pe_op op_pow pe_int pe_int) pa_nil))) (pa_cons pe_int pa_nil))))) (C8.pe_c (c_law_pick T) hr (by decide) rfl (pa_cons
      (pv 0) (pa_cons pe_int pa_nil))) (fun _ _ => rfl)))), ?_⟩

  obtain ⟨d, c, rfl, da, q⟩ := h
  refine ⟨_, rfl, d, c, _, rfl, da, ⟨by decide, by decide⟩, fun H1 k1 hk1 kp1 da1 => ⟨_, rfl, d, c, _, rfl, da1, ⟨by decide, by decide⟩, fun H2 k2 hk2 kp2 da2 => ⟨_, rfl, _, _, rfl, rfl, ⟨by decide, by decide, by decide⟩, d, c, _, rfl, da2, ⟨by decide, by decide⟩, fun H3 k3 hk3 kp3 da3 => ⟨sz (by simp), fun p np => ?_⟩⟩⟩⟩
  refine ⟨_, rfl, d, c, _, rfl, da3.to (Same.upd np), ⟨by decide, by decide⟩, fun H4 k4 hk4 kp4 da4 => ?_⟩
  have pd : p ∉ [d] := da3.ins.out np
  obtain ⟨i, _, hi⟩ := ints_at (is := [k1, k2, k3, 999999]) (k := k4) (by simpa using hk4)
  exact ⟨p, _, _, _, rfl, rfl, SqT.of (kp4.keep p _ pd upd_same), hi, q H4 i (kp1.trans (kp2.trans (kp3.trans ((Kp.of (Same.upd np)).trans kp4)))) da4⟩
abbrev s_law_channel : Stmt := top 109
abbrev N_law_channel : List Str := ["_law_draw"]
theorem sc_law_channel : FnScope N_law_channel ["_law_draw"] (C8.fnScope s_law_channel) := C8.fnScope_by (by decide +kernel)
theorem c_law_channel (T : Fx w K mg) : C8.Cal P w K mg base 2 "_law_channel" (spInt K) [] := by
  refine cal_ T.d_law_channel (fun _ _ _ _ _ _ us hl => match us, hl with | [_], _ => rfl) sc_law_channel (fun vs H Q E h => by obtain ⟨d, c, rfl, _⟩ := h; rfl) (fun f cdv A outer s H vs Q E hr h => ?_)
  have nd := sc_law_channel.nd
  have hu := hu_of hr
  have hu64 := hu64 hr
  refine ⟨_, (pss_one (ps_ret (pe_ix (r := rIxT K) ix_tup (pe_tup (pa_cons (C8.pe_c (c_law_pick T) hr (by decide) rfl (pa_cons (pv 0) (pa_cons pe_int pa_nil)))
      (pa_cons (C8.pe_c (c_law_pick T) hr (by decide) rfl (pa_cons (pv 0) (pa_cons pe_int pa_nil))) pa_nil))) (C8.pe_c (c_law_pick T) hr (by decide) rfl
      (pa_cons (pv 0) (pa_cons pe_int pa_nil))) (fun _ _ => rfl)))), ?_⟩

  obtain ⟨d, c, rfl, da, q⟩ := h
  refine ⟨_, rfl, d, c, _, rfl, da, ⟨by decide, by decide⟩, fun H1 k1 hk1 kp1 da1 => ⟨_, rfl, d, c, _, rfl, da1, ⟨by decide, by decide⟩, fun H2 k2 hk2 kp2 da2 => ⟨sz (by simp), fun p np => ?_⟩⟩⟩
  refine ⟨_, rfl, d, c, _, rfl, da2.to (Same.upd np), ⟨by decide, by decide⟩, fun H4 k4 hk4 kp4 da4 => ?_⟩
  have pd : p ∉ [d] := da2.ins.out np
  obtain ⟨i, _, hi⟩ := ints_at (is := [k1, k2]) (k := k4) (by simpa using hk4)
  exact ⟨p, _, _, _, rfl, rfl, SqT.of (kp4.keep p _ pd upd_same), hi, q H4 i (kp1.trans (kp2.trans ((Kp.of (Same.upd np)).trans kp4))) da4⟩
abbrev s_law_key : Stmt := top 110
abbrev N_law_key : List Str := ["_law_draw"]
theorem sc_law_key : FnScope N_law_key ["_law_draw"] (C8.fnScope s_law_key) := C8.fnScope_by (by decide +kernel)
theorem c_law_key (T : Fx w K mg) : C8.Cal P w K mg base 2 "_law_key" (spInt K) [] := by
  refine cal_ T.d_law_key (fun _ _ _ _ _ _ us hl => match us, hl with | [_], _ => rfl) sc_law_key (fun vs H Q E h => by obtain ⟨d, c, rfl, _⟩ := h; rfl) (fun f cdv A outer s H vs Q E hr h => ?_)
  have nd := sc_law_key.nd
  have hu := hu_of hr
  have hu64 := hu64 hr
  refine ⟨_, (pss_one (ps_ret (pe_ix (r := rIxT K) ix_tup (pe_tup (pa_cons (pe_op op_add pe_int (C8.pe_c (c_law_pick T) hr (by decide) rfl (pa_cons (pv 0) (pa_cons pe_int pa_nil))))
      (pa_cons (C8.pe_c (c_law_pick T) hr (by decide) rfl (pa_cons (pv 0) (pa_cons pe_int pa_nil))) pa_nil))) (C8.pe_c (c_law_pick T) hr (by decide) rfl
      (pa_cons (pv 0) (pa_cons pe_int pa_nil))) (fun _ _ => rfl)))), ?_⟩

  obtain ⟨d, c, rfl, da, q⟩ := h
  refine ⟨_, rfl, d, c, _, rfl, da, ⟨by decide, by decide⟩, fun H1 k1 hk1 kp1 da1 => ⟨_, _, rfl, rfl, _, rfl, d, c, _, rfl, da1, ⟨by decide, by decide⟩, fun H2 k2 hk2 kp2 da2 => ⟨sz (by simp), fun p np => ?_⟩⟩⟩
  refine ⟨_, rfl, d, c, _, rfl, da2.to (Same.upd np), ⟨by decide, by decide⟩, fun H4 k4 hk4 kp4 da4 => ?_⟩
  have pd : p ∉ [d] := da2.ins.out np
  obtain ⟨i, _, hi⟩ := ints_at (is := [60 + k1, k2]) (k := k4) (by simpa using hk4)
  exact ⟨p, _, _, _, rfl, rfl, SqT.of (kp4.keep p _ pd upd_same), hi, q H4 i (kp1.trans (kp2.trans ((Kp.of (Same.upd np)).trans kp4))) da4⟩
def spWord (K : PySem.W.Frag) : Sp := fun vs H Q _ => ∃ (d c : Addr), vs = [.ref d, .int 12] ∧ DrawAt K H d c ∧ ∀ H' z, z.length ≤ 40 → Kp [d] H H' → DrawAt K H' d c → Q (.str z) H'
theorem sign_at {k : Int} (h : 0 ≤ k ∧ k < 37) : ∃ c, atI (("abcdefghijklmnopqrstuvwxyz0123456789 " : Str).cps.toList) k = some c := by
  obtain ⟨kn, rfl⟩ : ∃ kn : Nat, k = kn := ⟨k.toNat, by omega⟩
  have hl : kn < ("abcdefghijklmnopqrstuvwxyz0123456789 " : Str).cps.toList.length := by
    have e : ("abcdefghijklmnopqrstuvwxyz0123456789 " : Str).cps.toList.length = 37 := by decide +kernel
    rw [e]; omega
  exact ⟨_, atI_nat (List.getElem?_eq_getElem hl)⟩
abbrev s_law_word : Stmt := top 111
abbrev N_law_word : List Str := ["_law_draw", "_law_most", "_law_signs", "_law_k"]
theorem sc_law_word : FnScope N_law_word ["_law_draw", "_law_most"] (C8.fnScope s_law_word) := C8.fnScope_by (by decide +kernel)
theorem c_law_word (T : Fx w K mg) : C8.Cal P w K mg base 2 "_law_word" (spWord K) [] := by
  refine cal_ T.d_law_word (fun _ _ _ _ _ _ us hl => match us, hl with | [_, _], _ => rfl) sc_law_word (fun vs H Q E h => by obtain ⟨d, c, rfl, _⟩ := h; rfl) (fun f cdv A outer s H vs Q E hr h => ?_)
  have nd := sc_law_word.nd
  have hu := hu_of hr
  have hu64 := hu64 hr
  refine ⟨_, (pss_cons (ps_set (i := 2) nd rfl (by first | exact Or.inl rfl | exact Or.inr rfl) pe_str) (pss_cons (ps_if (pt_cmpR op_eq (C8.pe_c (c_law_pick T) hr
      (by decide) rfl (pa_cons (pv 0) (pa_cons pe_int pa_nil))) pe_int (nomark _)) (pss_one (ps_ret (pe_op op_repS (pe_ix ix_str (pv 2) (C8.pe_c
      (c_law_pick T) hr (by decide) rfl (pa_cons (pv 0) (pa_cons pe_int pa_nil))) (fun _ _ => rfl)) (C8.pe_c (c_law_pick T) hr (by decide) rfl (pa_cons
      (pv 0) (pa_cons (pe_op op_add (pv 1) pe_int) pa_nil)))))) pss_nil) (pss_one (ps_ret (pe_join pe_str (pe_lc (own := [("_law_k", 3)]) (g := gName 3)
      (tt := tYes) rfl nd (pi_range1 rfl T.f_range (pa_cons (C8.pe_c (c_law_pick T) hr (by decide) rfl (pa_cons (pv 0) (pa_cons (pe_op op_add (pv 1) pe_int) pa_nil))) pa_nil))
      (blkOk_by (own := [("_law_k", 3)]) (N := N_law_word) (sc := C8.fnScope s_law_word) (by decide +kernel)) (fun _ _ _ _ _ => (pg_name (i := 3) nd rfl
      (by first | exact Or.inl rfl | exact Or.inr rfl))) (fun _ _ _ _ _ => pts_nil) (fun _ _ _ _ _ => (pe_ix ix_str (pv 2) (C8.pe_c (c_law_pick T) hr
      (by decide) rfl (pa_cons (pv 0) (pa_cons pe_int pa_nil))) (fun _ _ => rfl))))))))), ?_⟩

  obtain ⟨d, c, rfl, da, q⟩ := h
  have sl : ("abcdefghijklmnopqrstuvwxyz0123456789 " : Str).length ≤ sizeLine := by decide +kernel
  refine ⟨_, rfl, d, c, _, rfl, da, ⟨by decide, by decide⟩, fun H1 k1 hk1 kp1 da1 => ⟨rfl, _, rfl, ?_⟩⟩
  by_cases c0 : k1 = 0
  · subst c0
    refine iteT ⟨_, rfl, _, rfl, d, c, _, rfl, da1, ⟨by decide, by decide⟩, fun H2 k2 hk2 kp2 da2 => ?_⟩
    obtain ⟨ch, hc⟩ := sign_at hk2
    refine ⟨_, k2, ch, rfl, rfl, sl, hc, _, rfl, _, rfl, _, _, rfl, rfl, d, c, _, rfl, da2, ⟨by decide, by decide⟩, fun H3 k3 hk3 kp3 da3 => ?_⟩
    have l1 : (⟨#[ch]⟩ : Str).length = 1 := rfl
    refine ⟨⟨#[ch]⟩, k3, rfl, rfl, by rw [l1]; decide, ⟨hk3.1, by omega⟩, q H3 _ ?_ (kp1.trans (kp2.trans kp3)) da3⟩
    have hk3' := hk3.2
    rcases mul_len (z := ⟨#[ch]⟩) hk3.1 with h | h
    · rw [l1] at h; omega
    · rw [l1] at h; omega
  · rw [decF (fun z => c0 (V.int.inj z))]
    refine iteF ⟨⟨_, rfl⟩, _, rfl, _, rfl, _, _, rfl, rfl, d, c, _, rfl, da1, ⟨by decide, by decide⟩, fun H2 k2 hk2 kp2 da2 => ?_⟩
    have hk2' := hk2.2
    refine ⟨k2, rfl, by omega, by omega, fun D hD => ?_⟩
    have Dd : D ∉ [d] := da2.ins.out hD
    refine lc_it walk_range (fun i H' => Kp [d] H2 H' ∧ DrawAt K H' d c ∧ ∃ ss : List Str, H' D = some (.lst (ss.map V.str)) ∧ ss.length = i ∧ (ss.map (·.length)).sum = i) ⟨Kp.of (Same.upd hD), da2.to (Same.upd hD), [], upd_same, rfl, rfl⟩ (fun _ _ _ _ => trivial) ?_ ?_
    · rintro i x H3 H4 hi ⟨kp3, da3, ss, hs1, hs2, hs3⟩ ⟨rfl, rfl⟩
      refine ⟨rfl, _, rfl, _, rfl, d, c, _, rfl, da3, ⟨by decide, by decide⟩, fun H5 k5 hk5 kp5 da5 => ?_⟩
      obtain ⟨ch, hc⟩ := sign_at hk5
      have hD5 := kp5.keep D _ Dd hs1
      refine ⟨_, k5, ch, rfl, rfl, sl, hc, _, hD5, szl (by rw [List.length_map]; omega), ?_⟩
      have dD : d ∉ [D] := fun z => Dd (by rw [List.mem_singleton.mp z]; simp)
      refine ⟨⟨fun a o ha e => ?_, fun a ha => ?_⟩, ?_, ss ++ [⟨#[ch]⟩], by rw [upd_same, List.map_append]; rfl, by simp [hs2], ?_⟩
      · have aD : a ≠ D := fun z => by rw [z, hD] at e; cases e
        rw [upd_ne aD]
        exact kp5.keep a o ha (kp3.keep a o ha e)
      · by_cases z : a = D
        · rw [z, upd_same]; exact fun y => nomatch y
        · rw [upd_ne z]; exact kp5.dom a (kp3.dom a ha)
      · obtain ⟨a5, b5, m5, n5, cs5, e1, e2, r5⟩ := da5.ex
        obtain ⟨_, _, _, _, cs2, _, f2, _⟩ := da2.ex
        have aD : d ≠ D := fun z => dD (by simp [z])
        refine ⟨a5, b5, m5, n5, cs2, by rw [upd_ne aD]; exact e1, same_l (fun a o e => ?_) f2, r5⟩
        by_cases z : a ∈ [d]
        · rw [wo_in z] at e; cases e
        · rw [wo_out z] at e ⊢
          rw [upd_ne (fun y => by rw [y, hD] at e; cases e)]
          exact kp5.keep a o z (kp3.keep a o z e)
      · rw [List.map_append, List.sum_append, hs3]; rfl
    · rintro H3 ⟨kp3, da3, ss, hs1, hs2, hs3⟩
      have ek : ss.length ≤ 12 := by omega
      refine ⟨_, D, ss, rfl, rfl, .inl (SqL.of hs1), ?_, ?_⟩
      · show (ss.map (·.length)).sum + ss.length * 0 ≤ _
        omega
      · refine q H3 _ ?_ (kp1.trans (kp2.trans kp3)) da3
        have h := StrLaws.join_length_le "" ss
        have ej : Txt.join "" ss = Str.join "" ss := by unfold Txt.join; rw [StrLaws.glued_eq_join]
        rw [ej]
        have e0 : (("" : Str)).length = 0 := rfl
        rw [e0] at h
        omega
end
end K59
set_option maxHeartbeats 4000000
namespace K59
open PySem PySem.Spec PyProof.Rows L2
/-- a thing: a word and what follows -/
def ThSh (e : List PyData) : Prop := ∃ w r, e = .str w :: r ∧ (1 ≤ r.length ∧ r.length ≤ 3) ∧ ((w = "mark" ∧ ∃ z, r = [.str z] ∧ z.length ≤ 40) ∨ (¬ w = "mark" ∧ ∃ is : List Int, r = is.map .int))
def EvSh (e : Ev) : Prop := ∃ t w r, e = .int t :: .str w :: r ∧ r.length ≤ 3 ∧ ((w = "mark" ∧ (r = [] ∨ ∃ z, r = [.str z] ∧ z.length ≤ 40)) ∨ (¬ w = "mark" ∧ ∃ is : List Int, r = is.map .int))
theorem int_flat : ∀ (is : List Int), (is.map PyData.int).all isSc = true
  | [] => rfl
  | _ :: is => int_flat is
theorem ThSh.flat {e : List PyData} (h : ThSh e) : e.all isSc = true := by
  obtain ⟨w, r, rfl, _, h⟩ := h
  rcases h with ⟨_, z, rfl, _⟩ | ⟨_, is, rfl⟩
  · rfl
  · exact int_flat is
theorem EvSh.flat {e : Ev} (h : EvSh e) : e.all isSc = true := by
  obtain ⟨t, w, r, rfl, _, h⟩ := h
  rcases h with ⟨_, rfl | ⟨z, rfl, _⟩⟩ | ⟨_, is, rfl⟩
  · rfl
  · rfl
  · exact int_flat is
theorem ThSh.ints {w : Str} (h : ¬ w = "mark") (is : List Int) (hl : 1 ≤ is.length ∧ is.length ≤ 3) : ThSh (.str w :: is.map .int) := ⟨w, _, rfl, by simpa using hl, .inr ⟨h, is, rfl⟩⟩
theorem ThSh.ev {e : List PyData} (h : ThSh e) (t : Int) : EvSh (.int t :: e) := by
  obtain ⟨w, r, rfl, hl, h⟩ := h
  exact ⟨t, w, r, rfl, hl.2, h.imp (fun ⟨a, z, b, c⟩ => ⟨a, .inr ⟨z, b, c⟩⟩) id⟩
theorem EvSh.init {e : Ev} (h : EvSh e) (h3 : 3 ≤ e.length) : EvSh e.dropLast := by
  obtain ⟨t, w, r, rfl, hl, h⟩ := h
  have rn : r ≠ [] := fun z => by rw [z] at h3; simp at h3
  refine ⟨t, w, r.dropLast, ?_, by simp; omega, ?_⟩
  · rw [List.dropLast_cons_of_ne_nil (by simp), List.dropLast_cons_of_ne_nil rn]
  · rcases h with ⟨a, z⟩ | ⟨a, is, rfl⟩
    · refine .inl ⟨a, .inl ?_⟩
      rcases z with z | ⟨z, rfl, _⟩
      · exact absurd z rn
      · rfl
    · exact .inr ⟨a, is.dropLast, by rw [List.map_dropLast]⟩
theorem cut_last {x y : V} {xs : List V} : cutV (x :: y :: xs) none (some (-1)) = (x :: y :: xs).dropLast := by
  unfold cutV
  have e : HT.sIx (x :: y :: xs).length (x :: y :: xs).length (some (-1)) = (x :: y :: xs).length - 1 := by
    show (if (-1 : Int) < 0 then ((-1 : Int) + ((x :: y :: xs).length : Int)).toNat else min ((-1 : Int)).toNat (x :: y :: xs).length) = _
    rw [if_pos (by decide)]; simp; omega
  rw [e, HT.sIx_none, List.drop_zero, Nat.sub_zero, List.dropLast_eq_take]
theorem nocut_last {x y : V} {xs : List V} : ¬ (HT.sIx (x :: y :: xs).length 0 none = 0 ∧ HT.sIx (x :: y :: xs).length (x :: y :: xs).length (some (-1)) = (x :: y :: xs).length) := by
  intro h
  have e : HT.sIx (x :: y :: xs).length (x :: y :: xs).length (some (-1)) = (x :: y :: xs).length - 1 := by
    show (if (-1 : Int) < 0 then ((-1 : Int) + ((x :: y :: xs).length : Int)).toNat else min ((-1 : Int)).toNat (x :: y :: xs).length) = _
    rw [if_pos (by decide)]; simp; omega
  rw [e] at h
  have := h.2
  simp at this
def evP' (t : Int) (w : Str) (r : List PyData) : Ev := .int t :: .str w :: r
section
variable {P : Program} {w : World} {K : PySem.W.Frag} {mg : Str → Option Value} {base : Heap}
def spThing (K : PySem.W.Frag) : Sp := fun vs H Q _ => ∃ d c : Addr, vs = [.ref d] ∧ DrawAt K H d c ∧ ∀ H' p e, ThSh e → Kp [d] H H' → DrawAt K H' d c → H p = none → H' p = some (.tup (e.map scV)) → Q (.ref p) H'
theorem kp_none {S : List Addr} {H H' : Hp} (k : Kp S H H') {p : Addr} (h : H' p = none) : H p = none := by
  cases z : H p with
  | none => rfl
  | some o => exact absurd h (k.dom p (by rw [z]; exact fun y => nomatch y))
abbrev s_law_thing : Stmt := top 112
abbrev N_law_thing : List Str := ["_law_draw", "_law_kind", "_law_channel_here"]
theorem sc_law_thing : FnScope N_law_thing ["_law_draw"] (C8.fnScope s_law_thing) := C8.fnScope_by (by decide +kernel)
theorem c_law_thing (T : Fx w K mg) : C8.Cal P w K mg base 3 "_law_thing" (spThing K) [] := by
  refine cal_ T.d_law_thing (fun _ _ _ _ _ _ us hl => match us, hl with | [_], _ => rfl) sc_law_thing (fun vs H Q E h => by obtain ⟨d, c, rfl, _⟩ := h; rfl) (fun f cdv A outer s H vs Q E hr h => ?_)
  have nd := sc_law_thing.nd
  have hu := hu_of hr
  have hu64 := hu64 hr
  refine ⟨_, (pss_cons (ps_set (i := 1) nd rfl (by first | exact Or.inl rfl | exact Or.inr rfl) (C8.pe_c (c_law_pick T) hr (by decide) rfl (pa_cons (pv 0) (pa_cons pe_int pa_nil))))
      (pss_cons (ps_set (i := 2) nd rfl (by first | exact Or.inl rfl | exact Or.inr rfl) (C8.pe_c (c_law_channel T) hr (by decide) rfl (pa_cons (pv 0) pa_nil)))
      (pss_cons (ps_if (pt_cmpR op_lt (pv 1) pe_int (nomark _)) (pss_one (ps_ret (pe_tup (pa_cons pe_str (pa_cons (pv 2) (pa_cons (C8.pe_c (c_law_key T) hr
      (by decide) rfl (pa_cons (pv 0) pa_nil)) (pa_cons (pe_op op_add pe_int (C8.pe_c (c_law_pick T) hr (by decide) rfl (pa_cons (pv 0) (pa_cons pe_int pa_nil)))) pa_nil))))))) pss_nil)
      (pss_cons (ps_if (pt_cmpR op_lt (pv 1) pe_int (nomark _)) (pss_one (ps_ret (pe_tup (pa_cons pe_str (pa_cons (pv 2) (pa_cons (C8.pe_c (c_law_key T) hr
      (by decide) rfl (pa_cons (pv 0) pa_nil)) (pa_cons (pe_ix (r := rIxT K) ix_tup (pe_tup (pa_cons pe_int (pa_cons (C8.pe_c (c_law_pick T) hr (by decide) rfl
      (pa_cons (pv 0) (pa_cons pe_int pa_nil))) pa_nil))) (C8.pe_c (c_law_pick T) hr (by decide) rfl (pa_cons (pv 0) (pa_cons pe_int pa_nil))) (fun _ _ => rfl)) pa_nil))))))) pss_nil)
      (pss_cons (ps_if (pt_cmpR op_lt (pv 1) pe_int (nomark _)) (pss_one (ps_ret (pe_tup (pa_cons pe_str (pa_cons (pv 2) (pa_cons (pe_ix (r := rIxT K) ix_tup
      (pe_tup (pa_cons (C8.pe_c (c_law_pick T) hr (by decide) rfl (pa_cons (pv 0) (pa_cons pe_int pa_nil))) (pa_cons (C8.pe_c (c_law_pick T) hr (by decide) rfl
      (pa_cons (pv 0) (pa_cons pe_int pa_nil))) pa_nil))) (C8.pe_c (c_law_pick T) hr (by decide) rfl (pa_cons (pv 0) (pa_cons pe_int pa_nil))) (fun _ _ => rfl))
      (pa_cons (C8.pe_c (c_law_pick T) hr (by decide) rfl (pa_cons (pv 0) (pa_cons pe_int pa_nil))) pa_nil))))))) pss_nil) (pss_cons (ps_if (pt_cmpR op_eq
      (pv 1) pe_int (nomark _)) (pss_one (ps_ret (pe_tup (pa_cons pe_str (pa_cons (pv 2) (pa_cons (C8.pe_c (c_law_pick T) hr (by decide) rfl (pa_cons
      (pv 0) (pa_cons pe_int pa_nil))) pa_nil)))))) pss_nil) (pss_one (ps_ret (pe_tup (pa_cons pe_str (pa_cons (C8.pe_c (c_law_word T) hr (by decide) rfl
      (pa_cons (pv 0) (pa_cons pe_int pa_nil))) pa_nil))))))))))), ?_⟩

  obtain ⟨d, c, rfl, da, q⟩ := h
  refine ⟨_, rfl, d, c, _, rfl, da, ⟨by decide, by decide⟩, fun H1 k1 hk1 kp1 da1 => ⟨_, rfl, d, c, rfl, da1, fun H2 ch kp2 da2 => ?_⟩⟩
  have kp12 := kp1.trans kp2
  have fin : ∀ H3 p e, ThSh e → Kp [d] H H3 → DrawAt K H3 d c → H3 p = none → Q (.ref p) (L2.upd H3 p (.tup (e.map scV))) := fun H3 p e he kp da np =>
    q _ p e he (kp.trans (Kp.of (Same.upd np))) (da.to (Same.upd np)) (kp_none kp np) upd_same
  refine ⟨_, rfl, _, _, rfl, rfl, _, rfl, ?_⟩
  by_cases t1 : k1 < 4
  · rw [decT t1]
    refine iteT ⟨_, rfl, _, rfl, d, c, rfl, da2, fun H3 i3 kp3 da3 => ⟨_, rfl, d, c, _, rfl, da3, ⟨by decide, by decide⟩, fun H4 k4 hk4 kp4 da4 => ⟨_, _, rfl, rfl, sz (by simp), fun p np => ?_⟩⟩⟩
    exact fin H4 p (.str "on" :: [ch, i3, 1 + k4].map .int) (ThSh.ints (by decide +kernel) _ (by simp)) (kp12.trans (kp3.trans kp4)) da4 np
  rw [decF t1]
  refine iteF ⟨_, rfl, _, _, rfl, rfl, _, rfl, ?_⟩
  by_cases t2 : k1 < 8
  · rw [decT t2]
    refine iteT ⟨_, rfl, _, rfl, d, c, rfl, da2, fun H3 i3 kp3 da3 => ⟨_, rfl, d, c, _, rfl, da3, ⟨by decide, by decide⟩, fun H4 k4 hk4 kp4 da4 => ⟨sz (by simp), fun p0 np0 => ⟨_, rfl, d, c, _, rfl, da4.to (Same.upd np0), ⟨by decide, by decide⟩, fun H5 k5 hk5 kp5 da5 => ?_⟩⟩⟩⟩
    obtain ⟨i, _, hi⟩ := ints_at (is := [64, k4]) (k := k5) (by simpa using hk5)
    refine ⟨p0, _, _, _, rfl, rfl, SqT.of (kp5.keep p0 _ (da4.ins.out np0) upd_same), hi, sz (by simp), fun p np => ?_⟩
    exact fin H5 p (.str "off" :: [ch, i3, i].map .int) (ThSh.ints (by decide +kernel) _ (by simp)) (kp12.trans (kp3.trans (kp4.trans ((Kp.of (Same.upd np0)).trans kp5)))) da5 np
  rw [decF t2]
  refine iteF ⟨_, rfl, _, _, rfl, rfl, _, rfl, ?_⟩
  by_cases t3 : k1 < 10
  · rw [decT t3]
    refine iteT ⟨_, rfl, _, rfl, d, c, _, rfl, da2, ⟨by decide, by decide⟩, fun H3 k3 hk3 kp3 da3 => ⟨_, rfl, d, c, _, rfl, da3, ⟨by decide, by decide⟩, fun H4 k4 hk4 kp4 da4 => ⟨sz (by simp), fun p0 np0 => ⟨_, rfl, d, c, _, rfl, da4.to (Same.upd np0), ⟨by decide, by decide⟩, fun H5 k5 hk5 kp5 da5 => ?_⟩⟩⟩⟩
    obtain ⟨i, _, hi⟩ := ints_at (is := [k3, k4]) (k := k5) (by simpa using hk5)
    refine ⟨p0, _, _, _, rfl, rfl, SqT.of (kp5.keep p0 _ (da4.ins.out np0) upd_same), hi, _, rfl, d, c, _, rfl, da5, ⟨by decide, by decide⟩, fun H6 k6 hk6 kp6 da6 => ⟨sz (by simp), fun p np => ?_⟩⟩
    exact fin H6 p (.str "knob" :: [ch, i, k6].map .int) (ThSh.ints (by decide +kernel) _ (by simp)) (kp12.trans (kp3.trans (kp4.trans ((Kp.of (Same.upd np0)).trans (kp5.trans kp6))))) da6 np
  rw [decF t3]
  refine iteF ⟨_, rfl, rfl, _, rfl, ?_⟩
  by_cases t4 : k1 = 10
  · rw [decT (by rw [t4])]
    refine iteT ⟨_, rfl, _, rfl, d, c, _, rfl, da2, ⟨by decide, by decide⟩, fun H3 k3 hk3 kp3 da3 => ⟨sz (by simp), fun p np => ?_⟩⟩
    exact fin H3 p (.str "voice" :: [ch, k3].map .int) (ThSh.ints (by decide +kernel) _ (by simp)) (kp12.trans kp3) da3 np
  rw [decF (fun z => t4 (V.int.inj z))]
  refine iteF ⟨_, rfl, d, c, rfl, da2, fun H3 z hz kp3 da3 => ⟨sz (by simp), fun p np => ?_⟩⟩
  exact fin H3 p [.str "mark", .str z] ⟨"mark", [.str z], rfl, by simp, .inl ⟨rfl, z, rfl, hz⟩⟩ (kp12.trans kp3) da3 np
def spSomeEv (K : PySem.W.Frag) : Sp := fun vs H Q _ => ∃ (S : List Addr) (d c tr : Addr) (t : Tr), vs = [.ref d, .ref tr] ∧ d ∈ S ∧ In S H ∧ DrawAt K H d c ∧ Dp K (wo [d] H) (.ref tr) (trP t) ∧ TrOk t ∧
  ∀ H' v e, EvSh e → Kp [d] H H' → DrawAt K H' d c → Dp K (wo S H') v (evP e) → Q v H'
abbrev s_law_some_event : Stmt := top 113
abbrev N_law_some_event : List Str := ["_law_draw", "_law_track", "_law_ticks", "_law_event"]
theorem sc_law_some_event : FnScope N_law_some_event ["_law_draw", "_law_track"] (C8.fnScope s_law_some_event) := C8.fnScope_by (by decide +kernel)
theorem c_law_some_event (T : Fx w K mg) : C8.Cal P w K mg base 4 "_law_some_event" (spSomeEv K) [] := by
  refine cal_ T.d_law_some_event (fun _ _ _ _ _ _ us hl => match us, hl with | [_, _], _ => rfl) sc_law_some_event (fun vs H Q E h => by obtain ⟨S, d, c, tr, t, rfl, _⟩ := h; rfl) (fun f cdv A outer s H vs Q E hr h => ?_)
  have nd := sc_law_some_event.nd
  have hu := hu_of hr
  have hu64 := hu64 hr
  refine ⟨_, (pss_cons (ps_set (i := 2) nd rfl (by first | exact Or.inl rfl | exact Or.inr rfl) (pe_op op_cat (pe_lc (own := [("_law_event", 3)]) (g := gName 3) (tt := tYes) rfl nd
      (pi_list (pv 1)) (blkOk_by (own := [("_law_event", 3)]) (N := N_law_some_event) (sc := C8.fnScope s_law_some_event) (by decide +kernel)) (fun _ _ _ _ _ =>
      (pg_name (i := 3) nd rfl (by first | exact Or.inl rfl | exact Or.inr rfl))) (fun _ _ _ _ _ => pts_nil) (fun _ _ _ _ _ => (pe_ix (r := rIxT K) ix_tup
      (pv 3) pe_int (fun _ _ => rfl)))) (pe_lst (pa_cons pe_int (pa_cons (C8.pe_c (c_law_pick T) hr (by decide) rfl (pa_cons (pv 0) (pa_cons pe_int pa_nil)))
      (pa_cons (C8.pe_c (c_law_tick T) hr (by decide) rfl (pa_cons (pv 0) pa_nil)) pa_nil)))))) (pss_cons (ps_set (i := 3) nd rfl (by first | exact Or.inl rfl | exact Or.inr rfl)
      (pe_op (r := rCatT K) op_catT (pe_tup (pa_cons (C8.pe_c (c_law_one T) hr (by decide) rfl (pa_cons (pv 0) (pa_cons (pv 2) pa_nil))) pa_nil))
      (C8.pe_c (c_law_thing T) hr (by decide) rfl (pa_cons (pv 0) pa_nil)))) (pss_cons (ps_if (pt_cmpR op_eq (C8.pe_c (c_law_pick T) hr (by decide) rfl
      (pa_cons (pv 0) (pa_cons pe_int pa_nil))) pe_int (nomark _)) (pss_one (ps_set (i := 3) nd rfl (by first | exact Or.inl rfl | exact Or.inr rfl)
      (C8.pe_c (c_law_one T) hr (by decide) rfl (pa_cons (pv 0) (pa_cons (pe_lst (pa_cons (pe_slice (r := rSlT K) sl_tup (pv 3) po_none (po_some (pe_un un_neg pe_int)))
      (pa_cons (pe_op (r := rCatT K) op_catT (pe_tup (pa_cons (pe_op op_sub pe_int pe_int) pa_nil)) (pe_slice (r := rSlT K) sl_tup (pv 3) (po_some pe_int) po_none))
      (pa_cons (pe_op (r := rCatT K) op_catT (pe_tup (pa_cons (pe_op op_pow pe_int pe_int) pa_nil)) (pe_slice (r := rSlT K) sl_tup (pv 3) (po_some pe_int) po_none))
      (pa_cons (pe_tup (pa_cons pe_int (pa_cons pe_str (pa_cons pe_int (pa_cons pe_int (pa_cons pe_int pa_nil)))))) pa_nil))))) pa_nil))))) pss_nil)
      (pss_one (ps_ret (pv 3)))))), ?_⟩

  obtain ⟨S, d, c, tr, t, rfl, dS, hS, da, ht, ok, q⟩ := h
  obtain ⟨a, xs, ea, ha, hx⟩ := Dp.lstI ht
  cases ea
  have ln := tr_len hx
  have few := ok.few
  refine ⟨_, rfl, tr, rfl, ⟨xs, same_l wo_sub ha⟩, fun D hD => ?_⟩
  have Dd : D ∉ [d] := da.ins.out hD
  refine lc_it walk_list (fun i H' => Same H H' ∧ ∃ is : List Int, H' D = some (.lst (is.map V.int)) ∧ is.length = i) ⟨Same.upd hD, [], upd_same, rfl⟩ (fun _ _ _ hh => same_l (wo_sub.trans hh.1) ha) ?_ ?_
  · rintro i x H2 H3 hi ⟨s1, is, h1, h2⟩ ⟨rfl, hy⟩
    obtain ⟨e2, ev2, w2, r2, rfl, ht2, g2, hd2, hs2, e02, _⟩ := ev_in ok.good hx hy
    rw [sc_head e02] at hs2
    exact ⟨rfl, _, rfl, e2, _, _, _, rfl, rfl, same_t (wo_sub.trans s1) hs2, atI_nat (j := 0) rfl, _, h1, szl (by rw [List.length_map]; omega), over s1 hD, is ++ [tick ev2], by rw [upd_same, List.map_append]; rfl, by simp [h2]⟩
  rintro H1 ⟨s1, is, h1, h2⟩
  refine ⟨_, rfl, d, c, _, rfl, da.to s1, ⟨by decide, by decide⟩, fun H2 k2 hk2 kp2 da2 => ⟨_, rfl, d, c, rfl, da2, fun H3 i3 kp3 da3 => ⟨sz (by simp), fun p np => ?_⟩⟩⟩
  have kpH3 : Kp [d] H H3 := (Kp.of s1).trans (kp2.trans kp3)
  have hD3 := kp3.keep D _ Dd (kp2.keep D _ Dd h1)
  have s4 := Same.upd (o := .lst [.int 0, .int k2, .int i3]) np
  refine ⟨D, p, _, _, rfl, rfl, s4 _ _ hD3, upd_same, sz (by simp; omega), fun p2 np2 => ?_⟩
  have s5 := Same.upd (o := .lst (is.map V.int ++ [.int 0, .int k2, .int i3])) np2
  have da5 := (da3.to s4).to s5
  have kp5 : Kp [d] H (L2.upd (L2.upd H3 p (.lst [.int 0, .int k2, .int i3])) p2 (.lst (is.map V.int ++ [.int 0, .int k2, .int i3]))) := kpH3.trans (Kp.of (s4.trans s5))
  have sq5 : SqL K (wo [d] (L2.upd (L2.upd H3 p (.lst [.int 0, .int k2, .int i3])) p2 (.lst (is.map V.int ++ [.int 0, .int k2, .int i3])))) p2 (is.map V.int ++ [.int 0, .int k2, .int i3]) := sql_new (da3.to s4).ins np2
  generalize L2.upd (L2.upd H3 p (.lst [.int 0, .int k2, .int i3])) p2 (.lst (is.map V.int ++ [.int 0, .int k2, .int i3])) = H5 at *
  refine ⟨_, rfl, _, rfl, d, c, p2, _, rfl, da5, sq5, ⟨by simp, by simp; omega⟩, fun H6 x hx6 kp6 da6 => ⟨sz (by simp), fun p3 np3 => ⟨_, rfl, d, c, rfl, da6.to (Same.upd np3), fun H7 p5 e he kp7 da7 np5 hp5 => ?_⟩⟩⟩
  obtain ⟨tt, rfl⟩ : ∃ tt, x = V.int tt := by
    rcases List.mem_append.mp hx6 with h | h
    · obtain ⟨i, _, rfl⟩ := List.mem_map.mp h; exact ⟨i, rfl⟩
    · simp only [List.mem_cons, List.not_mem_nil, or_false] at h
      rcases h with rfl | rfl | rfl <;> exact ⟨_, rfl⟩
  obtain ⟨w0, r0, rfl, ⟨l1, l3⟩, hr0⟩ := id he
  have p3d : p3 ∉ [d] := da6.ins.out np3
  refine ⟨p3, p5, _, _, rfl, rfl, SqT.of (kp7.keep p3 _ p3d upd_same), SqT.of hp5, by simp, sz (by simp; omega), (fun z => by cases z), fun _ p6 np6 => ?_⟩
  have kp8 : Kp [d] H (L2.upd H7 p6 (.tup ([.int tt] ++ (PyData.str w0 :: r0).map scV))) := kp5.trans (kp6.trans ((Kp.of (Same.upd np3)).trans (kp7.trans (Kp.of (Same.upd np6)))))
  have da8 := da7.to (Same.upd (o := .tup ([.int tt] ++ (PyData.str w0 :: r0).map scV)) np6)
  have hp6 : (L2.upd H7 p6 (.tup ([.int tt] ++ (PyData.str w0 :: r0).map scV))) p6 = some (.tup ([.int tt] ++ (PyData.str w0 :: r0).map scV)) := upd_same
  have p6S : p6 ∉ S := (In.kp (In.kp (In.kp (In.kp hS kp5) kp6) (Kp.of (S := []) (Same.upd (o := .tup [.int tt]) np3))) kp7).out np6
  have p6d : p6 ∉ [d] := fun z => p6S (by rw [List.mem_singleton.mp z]; exact dS)
  have eqv : [V.int tt] ++ (PyData.str w0 :: r0).map scV = (evP' tt w0 r0).map scV := rfl
  have evs : EvSh (evP' tt w0 r0) := he.ev tt
  generalize L2.upd H7 p6 (.tup ([.int tt] ++ (PyData.str w0 :: r0).map scV)) = H8 at *
  have sub1 : ∀ a ∈ [d], a ∈ S := fun a ha => by rw [List.mem_singleton.mp ha]; exact dS
  refine ⟨_, rfl, d, c, _, rfl, da8, ⟨by decide, by decide⟩, fun H9 k9 hk9 kp9 da9 => ⟨rfl, _, rfl, ?_⟩⟩
  have kpH9 := kp8.trans kp9
  have hp69 := kp9.keep p6 _ p6d hp6
  have hS9 := In.kp hS kpH9
  by_cases c0 : k9 = 0
  · rw [decT (by rw [c0])]
    refine iteT ?_
    have t9 : SqT K H9 p6 (.int tt :: .str w0 :: r0.map scV) := SqT.of hp69
    refine ⟨_, rfl, _, rfl, _, rfl, _, rfl, p6, _, rfl, t9, nocut_last, fun pa na => ?_⟩
    rw [cut_last]
    have sA := Same.upd (o := .tup (V.int tt :: .str w0 :: r0.map scV).dropLast) na
    have fA : SqT K (wo S (L2.upd H9 pa (.tup (V.int tt :: .str w0 :: r0.map scV).dropLast))) pa _ := sqt_new hS9 na
    have hSA := In.same hS9 sA
    have tA := same_t sA t9
    generalize L2.upd H9 pa (.tup (V.int tt :: .str w0 :: r0.map scV).dropLast) = HA at *
    refine ⟨_, _, rfl, rfl, sz (by simp), fun pb nb => ?_⟩
    have sB := Same.upd (o := .tup [.int (0 - 1)]) nb
    refine ⟨_, rfl, _, rfl, p6, _, rfl, same_t sB tA, nocut_1, fun pc nc => ?_⟩
    rw [cut_1]
    have sC := Same.upd (o := .tup (V.str w0 :: r0.map scV)) nc
    refine ⟨pb, pc, _, _, rfl, rfl, same_t sC (SqT.of upd_same), SqT.of upd_same, by simp, sz (by simp; omega), (fun z => by cases z), fun _ pd nd' => ?_⟩
    have sBC := sB.trans sC
    have sD := Same.upd (o := .tup ([V.int (0 - 1)] ++ (V.str w0 :: r0.map scV))) nd'
    have sAD := sBC.trans sD
    have fD : SqT K (wo S (L2.upd (L2.upd (L2.upd HA pb (.tup [.int (0 - 1)])) pc (.tup (V.str w0 :: r0.map scV))) pd (.tup ([V.int (0 - 1)] ++ (V.str w0 :: r0.map scV))))) pd _ := sqt_new (In.same hSA sBC) nd'
    generalize L2.upd (L2.upd (L2.upd HA pb (.tup [.int (0 - 1)])) pc (.tup (V.str w0 :: r0.map scV))) pd (.tup ([V.int (0 - 1)] ++ (V.str w0 :: r0.map scV))) = HD at *
    refine ⟨_, _, rfl, rfl, ⟨by decide, by decide, by decide⟩, sz (by simp), fun pe ne => ?_⟩
    have sE := Same.upd (o := .tup [.int ((10 : Int) ^ (6 : Int).toNat)]) ne
    refine ⟨_, rfl, _, rfl, p6, _, rfl, same_t (sAD.trans sE) tA, nocut_1, fun pf nf => ?_⟩
    rw [cut_1]
    have sF := Same.upd (o := .tup (V.str w0 :: r0.map scV)) nf
    refine ⟨pe, pf, _, _, rfl, rfl, same_t sF (SqT.of upd_same), SqT.of upd_same, by simp, sz (by simp; omega), (fun z => by cases z), fun _ pg ng => ?_⟩
    have sEF := sE.trans sF
    have hSD := In.same hSA sAD
    have sG := Same.upd (o := .tup ([V.int ((10 : Int) ^ (6 : Int).toNat)] ++ (V.str w0 :: r0.map scV))) ng
    have sDG := sEF.trans sG
    have fG : SqT K (wo S (L2.upd (L2.upd (L2.upd HD pe (.tup [.int ((10 : Int) ^ (6 : Int).toNat)])) pf (.tup (V.str w0 :: r0.map scV))) pg (.tup ([V.int ((10 : Int) ^ (6 : Int).toNat)] ++ (V.str w0 :: r0.map scV))))) pg _ := sqt_new (In.same hSD sEF) ng
    generalize L2.upd (L2.upd (L2.upd HD pe (.tup [.int ((10 : Int) ^ (6 : Int).toNat)])) pf (.tup (V.str w0 :: r0.map scV))) pg (.tup ([V.int ((10 : Int) ^ (6 : Int).toNat)] ++ (V.str w0 :: r0.map scV))) = HG at *
    have hSG := In.same hSD sDG
    refine ⟨sz (by simp), fun ph nh => ?_⟩
    have sH := Same.upd (o := .tup [.int 3, .str "on", .int 16, .int 1, .int 1]) nh
    have fH : SqT K (wo S (L2.upd HG ph (.tup [.int 3, .str "on", .int 16, .int 1, .int 1]))) ph _ := sqt_new hSG nh
    refine ⟨sz (by simp), fun pl nl => ?_⟩
    have sL := Same.upd (o := .lst [.ref pa, .ref pd, .ref pg, .ref ph]) nl
    have sAll : Same H9 (L2.upd (L2.upd HG ph (.tup [.int 3, .str "on", .int 16, .int 1, .int 1])) pl (.lst [.ref pa, .ref pd, .ref pg, .ref ph])) := sA.trans (sAD.trans (sDG.trans (sH.trans sL)))
    have daL := da9.to sAll
    refine ⟨d, c, pl, _, rfl, daL, sql_new ((da9.to (sA.trans (sAD.trans (sDG.trans sH)))).ins) nl, ⟨by simp, by simp⟩, fun HM x hx kpM daM => ?_⟩
    have kpAll := kpH9.trans ((Kp.of sAll).trans kpM)
    have wM := kpM.wo sub1
    have goal : ∃ e, EvSh e ∧ Dp K (wo S HM) x (evP e) := by
      simp only [List.mem_cons, List.not_mem_nil, or_false] at hx
      rcases hx with rfl | rfl | rfl | rfl
      · have es := EvSh.init evs (by show 3 ≤ r0.length + 2; omega)
        refine ⟨_, es, ev_dp ?_ es.flat⟩
        rw [List.map_dropLast]
        exact same_t ((Same.wo (sAD.trans (sDG.trans (sH.trans sL)))).trans wM) fA
      · have es := he.ev (0 - 1)
        exact ⟨_, es, ev_dp (same_t ((Same.wo (sDG.trans (sH.trans sL))).trans wM) fD) es.flat⟩
      · have es := he.ev ((10 : Int) ^ (6 : Int).toNat)
        exact ⟨_, es, ev_dp (same_t ((Same.wo (sH.trans sL)).trans wM) fG) es.flat⟩
      · have es : EvSh [.int 3, .str "on", .int 16, .int 1, .int 1] := ⟨3, "on", _, rfl, by simp, .inr ⟨by decide +kernel, [16, 1, 1], rfl⟩⟩
        exact ⟨_, es, ev_dp (same_t ((Same.wo sL).trans wM) fH) es.flat⟩
    obtain ⟨e, he2, hde⟩ := goal
    exact ⟨_, rfl, q HM x e he2 kpAll daM hde⟩
  · rw [decF (fun z => c0 (V.int.inj z))]
    refine iteF ⟨_, rfl, q H9 _ _ evs kpH9 da9 (ev_dp (SqT.of ?_) evs.flat)⟩
    rw [wo_out p6S]; exact hp69
end
end K59
set_option maxHeartbeats 4000000
namespace K59
open PySem PySem.Spec PyProof.Rows L2
section
variable {X : Cx} {k j : Nat} {x : Str} {sp : Sp} {p pos : Pos}
theorem pe_c0 (c : C8.Cal X.prog X.w X.K X.mg X.base k x sp []) (hr : Room j X.A) (hk : k ≤ j) (hg : Gl X x) (hdb : (x == ("__debug__" : Str)) = false := by decide) : PE X (.Call (.Name x p) [] [] pos) (tCall sp [] C8.E0 tNil) := by
  obtain ⟨f, fd, ps, ds, F, hm, kp, b, d⟩ := c.ex
  exact pe_call0 F (hr.mono hk) hg hm kp b d C8.pass0 (hdb := hdb)
end
theorem sl_to {z : Str} {i : Int} (h : 0 ≤ i) : (Txt.slice z none (some i)).length ≤ z.length := by
  have e := SX.slice_to (a := z.cps.toList) h
  rw [SX.S_tl] at e
  rw [e, SX.S_len, List.length_take]
  show _ ≤ z.cps.size
  simp; omega
theorem sl_from {z : Str} {i : Int} (h : 0 ≤ i) : (Txt.slice z (some i) none).length ≤ z.length := by
  have e := SX.slice_from (a := z.cps.toList) h
  rw [SX.S_tl] at e
  rw [e, SX.S_len, List.length_drop]
  show _ ≤ z.cps.size
  simp
theorem cat_len (a b : Str) : (a ++ b).length = a.length + b.length := Array.size_append
section
variable {P : Program} {w : World} {K : PySem.W.Frag} {mg : Str → Option Value} {base : Heap}
def spLNames (K : PySem.W.Frag) : Sp := fun vs H Q _ => ∃ (d c : Addr), vs = [.ref d] ∧ DrawAt K H d c ∧ ∀ H' p (ns : List Str), ns.length = 8 → (∀ n ∈ ns, n.length ≤ 40) → Kp [d] H H' → DrawAt K H' d c → H p = none → H' p = some (.lst (ns.map V.str)) → Q (.ref p) H'
theorem stems (k : Int) (h : 0 ≤ k ∧ k < 6) : ∃ z : Str, z.length ≤ 8 ∧ atI [V.str "", .str "q", .str "tape", .str "aaaaaaa", .str "zzyzx", .str "hh"] k = some (.str z) := by
  obtain ⟨kn, rfl⟩ : ∃ kn : Nat, k = kn := ⟨k.toNat, by omega⟩
  rcases (by omega : kn = 0 ∨ kn = 1 ∨ kn = 2 ∨ kn = 3 ∨ kn = 4 ∨ kn = 5) with rfl | rfl | rfl | rfl | rfl | rfl
  · exact ⟨"", by decide +kernel, atI_nat rfl⟩
  · exact ⟨"q", by decide +kernel, atI_nat rfl⟩
  · exact ⟨"tape", by decide +kernel, atI_nat rfl⟩
  · exact ⟨"aaaaaaa", by decide +kernel, atI_nat rfl⟩
  · exact ⟨"zzyzx", by decide +kernel, atI_nat rfl⟩
  · exact ⟨"hh", by decide +kernel, atI_nat rfl⟩
abbrev s_law_names : Stmt := top 126
abbrev N_law_names : List Str := ["_law_draw", "_law_stem", "_law_at", "_law_first", "_law_letters", "_law_k"]
theorem sc_law_names : FnScope N_law_names ["_law_draw"] (C8.fnScope s_law_names) := C8.fnScope_by (by decide +kernel)
theorem c_law_names (T : Fx w K mg) : C8.Cal P w K mg base 2 "_law_names" (spLNames K) [] := by
  refine cal_ T.d_law_names (fun _ _ _ _ _ _ us hl => match us, hl with | [_], _ => rfl) sc_law_names (fun vs H Q E h => by obtain ⟨d, c, rfl, _⟩ := h; rfl) (fun f cdv A outer s H vs Q E hr h => ?_)
  have nd := sc_law_names.nd
  have hu := hu_of hr
  have hu64 := hu64 hr
  refine ⟨_, (pss_cons (ps_set (i := 1) nd rfl (by first | exact Or.inl rfl | exact Or.inr rfl) (pe_ix (r := rIxT K) ix_tup (pe_tup (pa_cons pe_str (pa_cons pe_str
      (pa_cons pe_str (pa_cons pe_str (pa_cons pe_str (pa_cons pe_str pa_nil))))))) (C8.pe_c (c_law_pick T) hr (by decide) rfl (pa_cons (pv 0) (pa_cons pe_int pa_nil)))
      (fun _ _ => rfl))) (pss_cons (ps_set (i := 2) nd rfl (by first | exact Or.inl rfl | exact Or.inr rfl) (C8.pe_c (c_law_pick T) hr (by decide) rfl
      (pa_cons (pv 0) (pa_cons (pe_op op_add (pe_callB call_len_str (by rfl) T.f_len PySem.boot_len (pa_cons (pv 1) pa_nil)) pe_int) pa_nil))))
      (pss_cons (ps_set (i := 3) nd rfl (by first | exact Or.inl rfl | exact Or.inr rfl) (C8.pe_c (c_law_pick T) hr (by decide) rfl (pa_cons (pv 0)
      (pa_cons pe_int pa_nil)))) (pss_cons (ps_set (i := 4) nd rfl (by first | exact Or.inl rfl | exact Or.inr rfl) (pe_op op_repS pe_str pe_int))
      (pss_one (ps_ret (pe_lc (own := [("_law_k", 5)]) (g := gName 5) (tt := tYes) rfl nd (pi_range1 rfl T.f_range (pa_cons pe_int pa_nil)) (blkOk_by
      (own := [("_law_k", 5)]) (N := N_law_names) (sc := C8.fnScope s_law_names) (by decide +kernel)) (fun _ _ _ _ _ => (pg_name (i := 5) nd rfl (by first | exact Or.inl rfl | exact Or.inr rfl)))
      (fun _ _ _ _ _ => pts_nil) (fun _ _ _ _ _ => (pe_op op_add_str (pe_op op_add_str (pe_slice C8.sl_txt (pv 1) po_none (po_some (pv 2))) (pe_ix ix_str
      (pv 4) (pe_op op_add (pv 3) (pe_op op_mul pe_int (pv 5))) (fun _ _ => rfl))) (pe_slice C8.sl_txt (pv 1) (po_some (pv 2)) po_none)))))))))), ?_⟩

  obtain ⟨d, c, rfl, da, q⟩ := h
  refine ⟨sz (by simp), fun p0 np0 => ⟨_, rfl, d, c, _, rfl, da.to (Same.upd np0), ⟨by decide, by decide⟩, fun H1 k1 hk1 kp1 da1 => ?_⟩⟩
  obtain ⟨st, hst, eat⟩ := stems k1 hk1
  refine ⟨p0, _, _, _, rfl, rfl, SqT.of (kp1.keep p0 _ (da.ins.out np0) upd_same), eat, ?_⟩
  refine ⟨_, rfl, _, rfl, st, rfl, sz (by omega), _, _, rfl, rfl, d, c, _, rfl, da1, ⟨by omega, by omega⟩, fun H2 k2 hk2 kp2 da2 => ?_⟩
  refine ⟨_, rfl, d, c, _, rfl, da2, ⟨by decide, by decide⟩, fun H3 k3 hk3 kp3 da3 => ?_⟩
  refine ⟨_, 2, rfl, rfl, by decide +kernel, ⟨by decide, by decide⟩, ?_⟩
  have el : (Txt.mul "abcdefghijklmnopqrstuvwxyz" 2).cps.toList.length = 52 := by decide +kernel
  have el2 : (Txt.mul "abcdefghijklmnopqrstuvwxyz" 2).length ≤ sizeLine := by decide +kernel
  generalize Txt.mul "abcdefghijklmnopqrstuvwxyz" 2 = let' at *
  refine ⟨8, rfl, by decide, by decide, fun D hD => ?_⟩
  have kpH3 := (Kp.of (S := [d]) (Same.upd (o := .tup [V.str "", .str "q", .str "tape", .str "aaaaaaa", .str "zzyzx", .str "hh"]) np0)).trans (kp1.trans (kp2.trans kp3))
  refine lc_it walk_range (fun i H' => Same H3 H' ∧ ∃ ss : List Str, H' D = some (.lst (ss.map V.str)) ∧ ss.length = i ∧ ∀ n ∈ ss, n.length ≤ 40) ⟨Same.upd hD, [], upd_same, rfl, by simp⟩ (fun _ _ _ _ => trivial) ?_ ?_
  · rintro i x H4 H5 hi ⟨s4, ss, h1, h2, h3⟩ ⟨rfl, rfl⟩
    have hi8 : i < 8 := hi
    obtain ⟨ch, hch⟩ : ∃ ch, atI let'.cps.toList (k3 + 3 * (0 + (i : Int))) = some ch := by
      obtain ⟨k3n, rfl⟩ : ∃ k3n : Nat, k3 = k3n := ⟨k3.toNat, by omega⟩
      have hl : k3n + 3 * i < let'.cps.toList.length := by omega
      exact ⟨_, at_nat (j := k3n + 3 * i) (by omega) (List.getElem?_eq_getElem hl)⟩
    have la := sl_to (z := st) (i := k2) hk2.1
    have lb := sl_from (z := st) (i := k2) hk2.1
    have l1 : (⟨#[ch]⟩ : Str).length = 1 := rfl
    refine ⟨rfl, _, rfl, _, rfl, _, rfl, st, rfl, sz (by omega), _, rfl, _, rfl, _, rfl, _, _, rfl, rfl, (by left; decide), _, _, rfl, rfl, _, _, ch, rfl, rfl, el2, hch, _, _, rfl, rfl, sz (by omega), _, rfl, _, rfl, _, rfl, st, rfl, sz (by omega), _, _, rfl, rfl, sz (by rw [cat_len]; omega), _, h1, szl (by rw [List.length_map]; omega), over s4 hD, ss ++ [_], by rw [upd_same, List.map_append]; rfl, by simp [h2], fun n hn => ?_⟩
    rcases List.mem_append.mp hn with hn | hn
    · exact h3 n hn
    · rw [List.mem_singleton.mp hn, cat_len, cat_len]; omega
  · rintro H4 ⟨s4, ss, h1, h2, h3⟩
    exact q H4 D ss h2 h3 (kpH3.trans (Kp.of s4)) (da3.to s4) (kp_none kpH3 hD) h1
def spBegin (K : PySem.W.Frag) : Sp := fun vs H Q _ => ∃ (a : Addr) (ns : List Int), vs = [.ref a] ∧ SqL K H a (ns.map V.int) ∧ ∀ H' d c, Same H H' → H d = none → DrawAt K H' d c → Q (.ref d) H'
abbrev s_law_begin : Stmt := top 125
abbrev N_law_begin : List Str := ["_law_script"]
theorem sc_law_begin : FnScope N_law_begin ["_law_script"] (C8.fnScope s_law_begin) := C8.fnScope_by (by decide +kernel)
theorem c_law_begin (T : Fx w K mg) : C8.Cal P w K mg base 1 "_law_begin" (spBegin K) [] := by
  refine cal_ T.d_law_begin (fun _ _ _ _ _ _ us hl => match us, hl with | [_], _ => rfl) sc_law_begin (fun vs H Q E h => by obtain ⟨a, ns, rfl, _⟩ := h; rfl) (fun f cdv A outer s H vs Q E hr h => ?_)
  have nd := sc_law_begin.nd
  have hu := hu_of hr
  have hu64 := hu64 hr
  refine ⟨_, (pss_one (ps_ret (pe_lst (pa_cons (pe_callTy (T := "list") (r := rListOf K) call_list_of (by rfl) T.f_list (by decide +kernel) (pa_cons (pe_slice (r := rSlL K) sl_list
      (pv 0) po_none (po_some pe_int)) pa_nil)) (pa_cons pe_int (pa_cons pe_int (pa_cons pe_int (pa_cons pe_int pa_nil)))))))), ?_⟩

  obtain ⟨a, ns, rfl, ha, q⟩ := h
  refine ⟨_, rfl, _, rfl, a, _, rfl, ha, fun p1 n1 => ?_⟩
  rw [show (some (63 : Int)) = some ((63 : Nat) : Int) from rfl, cut_upto]
  have s1 := Same.upd (o := .lst ((ns.map V.int).take 63)) n1
  refine ⟨p1, _, rfl, .inl (SqL.of upd_same), fun c nc => ?_⟩
  have s2 := Same.upd (o := .lst ((ns.map V.int).take 63)) nc
  refine ⟨sz (by simp), fun d nd' => ?_⟩
  have s3 := Same.upd (o := .lst [.ref c, .int 0, .int 0, .int 1, .int 0]) nd'
  have cd : c ∉ [d] := fun z => by rw [List.mem_singleton.mp z] at s2; rw [← List.mem_singleton.mp z, upd_same] at nd'; cases nd'
  refine q _ d c (s1.trans (s2.trans s3)) (wasNone (s1.trans s2) nd') ⟨0, 0, 1, 0, ns.take 63, upd_same, SqL.of ?_, by decide, by decide, by decide, by decide⟩
  rw [wo_out cd, List.map_take]
  exact s3 _ _ upd_same
def spSizes : Sp := fun vs H Q _ => vs = [] ∧ ∀ H' p, Same H H' → H' p = some (.dK (sizeTab.map fun q => (Sum.inr q.1, .int q.2))) → Q (.ref p) H'
abbrev s_law_slim_sizes : Stmt := top 116
abbrev N_law_slim_sizes : List Str := []
theorem sc_law_slim_sizes : FnScope N_law_slim_sizes [] (C8.fnScope s_law_slim_sizes) := C8.fnScope_by (by decide +kernel)
theorem c_law_slim_sizes (T : Fx w K mg) : C8.Cal P w K mg base 1 "_law_slim_sizes" spSizes [] := by
  refine cal_ T.d_law_slim_sizes (fun _ _ _ _ _ _ us hl => match us, hl with | [], _ => rfl) sc_law_slim_sizes (fun vs H Q E h => by obtain ⟨rfl, _⟩ := h; rfl) (fun f cdv A outer s H vs Q E hr h => ?_)
  have nd := sc_law_slim_sizes.nd
  have hu := hu_of hr
  have hu64 := hu64 hr
  refine ⟨_, (pss_one (ps_ret (pe_disp (pps_cons pe_str pe_int (pps_cons pe_str pe_int (pps_cons pe_str pe_int (pps_cons pe_str pe_int (pps_cons pe_str pe_int
      (pps_cons pe_str pe_int (pps_cons pe_str pe_int (pps_cons pe_str pe_int pps_nil)))))))) (by rfl) (by rfl) (fun z => by cases z) (by decide)))), ?_⟩

  obtain ⟨rfl, q⟩ := h
  refine fun p np => ⟨upd_same, sizeTab.map (fun q => (Sum.inr q.1, .int q.2)), rfl, by decide, ?_⟩
  have e : mergeK [] (sizeTab.map (fun q => ((Sum.inr q.1 : Key), V.int q.2))) = sizeTab.map (fun q => (Sum.inr q.1, .int q.2)) := by decide +kernel
  rw [e]
  exact q _ p (over (over same_rfl np) np) upd_same
abbrev s_law_within : Stmt := top 118
abbrev N_law_within : List Str := ["_law_thing_here", "_law_least", "_law_most"]
theorem sc_law_within : FnScope N_law_within ["_law_thing_here", "_law_least", "_law_most"] (C8.fnScope s_law_within) := C8.fnScope_by (by decide +kernel)
theorem c_law_within (T : Fx w K mg) : C8.Cal P w K mg base 1 "_law_within" (fun vs H Q _ => ∃ (x : V) (lo hi : Int), vs = [x, .int lo, .int hi] ∧ ((∃ i, x = .int i ∧ Q (.bl (decide (lo ≤ i ∧ i ≤ hi))) H) ∨ ((∃ z, x = .str z) ∧ Q (.bl false) H))) [] := by
  refine cal_ T.d_law_within (fun _ _ _ _ _ _ us hl => match us, hl with | [_, _, _], _ => rfl) sc_law_within (fun vs H Q E h => by obtain ⟨x, lo, hi, rfl, _⟩ := h; rfl) (fun f cdv A outer s H vs Q E hr h => ?_)
  have nd := sc_law_within.nd
  have hu := hu_of hr
  have hu64 := hu64 hr
  refine ⟨_, (pss_one (ps_ret (pe_and (pe_callB call_isi (by rfl) T.f_isinstance (by decide +kernel) (pa_cons (pv 0) (pa_cons (bT_int T.f_int) pa_nil))) (pe_one
      (pe_chain op_le op_le (pv 1) (pv 0) (pv 2)))))), ?_⟩

  obtain ⟨x, lo, hi, rfl, hx⟩ := h
  rcases hx with ⟨i, rfl, q⟩ | ⟨⟨z, rfl⟩, q⟩
  · refine ⟨_, rfl, _, _, _, _, true, rfl, .ty "int", .base (.int _), kit_ii, true, rfl, iteT ?_⟩
    refine ⟨_, rfl, _, rfl, _, _, rfl, rfl, _, rfl, ?_⟩
    by_cases c : lo ≤ i
    · rw [decide_eq_true c]
      refine iteT ⟨_, rfl, _, _, rfl, rfl, ?_⟩
      have e : decide (lo ≤ i ∧ i ≤ hi) = decide (i ≤ hi) := by simp [c]
      rw [e] at q
      exact q
    · rw [decide_eq_false c]
      refine iteF ?_
      have e : decide (lo ≤ i ∧ i ≤ hi) = false := by simp [c]
      rw [e] at q
      exact q
  · exact ⟨_, rfl, _, _, _, _, false, rfl, .ty "int", .base (.str _), kit_si, false, rfl, iteF q⟩
def spNameWord : Sp := fun vs H Q _ => ∃ (o : Addr) (n : Str) (kvs : List (Key × V)), vs = [.ref o, .str n] ∧ H o = some (.dK kvs) ∧ n.length ≤ 100 ∧ ∀ H' (z : Str), Same H H' → (z = "" → nameOk n ∧ valV kvs (Sum.inr n) = none) → Q (.str z) H'
def loB (c : Nat) : Bool := !decide (c < 97) && !decide (122 < c)
theorem lt_one (a b : Nat) : decide ([a] < [b]) = decide (a < b) := by
  rw [Bool.eq_iff_iff]; simp [List.cons_lt_cons_iff]
abbrev s_law_name_word : Stmt := top 117
abbrev N_law_name_word : List Str := ["_law_book", "_law_name", "_law_sign"]
theorem sc_law_name_word : FnScope N_law_name_word ["_law_book", "_law_name"] (C8.fnScope s_law_name_word) := C8.fnScope_by (by decide +kernel)
theorem c_law_name_word (T : Fx w K mg) : C8.Cal P w K mg base 1 "_law_name_word" spNameWord [] := by
  refine cal_ T.d_law_name_word (fun _ _ _ _ _ _ us hl => match us, hl with | [_, _], _ => rfl) sc_law_name_word (fun vs H Q E h => by obtain ⟨o, n, kvs, rfl, _⟩ := h; rfl) (fun f cdv A outer s H vs Q E hr h => ?_)
  have nd := sc_law_name_word.nd
  have hu := hu_of hr
  have hu64 := hu64 hr
  refine ⟨_, (pss_cons (ps_if (PW.pt (pw_or (pt_not (pt_chain op_le op_le pe_int (pe_callB call_len_str (by rfl) T.f_len PySem.boot_len (pa_cons (pv 1) pa_nil)) pe_int))
      (pw_or1 (pt_not (pt_val (pe_callB (cr_all rfl) (by rfl) T.f_all (by decide +kernel) (pa_cons (pe_lc (own := [("_law_sign", 2)]) (g := gName 2)
      (tt := tYes) rfl nd (pi_str (pv 1)) (blkOk_by (own := [("_law_sign", 2)]) (N := N_law_name_word) (sc := C8.fnScope s_law_name_word) (by decide +kernel))
      (fun _ _ _ _ _ => (pg_name (i := 2) nd rfl (by first | exact Or.inl rfl | exact Or.inr rfl))) (fun _ _ _ _ _ => pts_nil) (fun _ _ _ _ _ =>
      (pe_chain op_le_str op_le_str pe_str (pv 2) pe_str))) pa_nil))))))) (pss_one (ps_ret pe_str)) pss_nil) (pss_one (ps_ret (pe_ifExp (pt_cmp (pc_din hu
      (pv 1) (pv 0))) pe_str pe_str)))), ?_⟩

  obtain ⟨o, n, kvs, rfl, ho, ln, q⟩ := h
  have bad : ∀ H', Same H H' → Q (.str "badname") H' := fun H' s => q H' _ s fun z => absurd z (by decide +kernel)
  refine ⟨_, rfl, n, rfl, sz (by omega), _, _, rfl, rfl, _, rfl, ?_⟩
  by_cases c1 : (1 : Int) ≤ n.length
  · rw [decT c1]
    refine iteT ⟨_, _, rfl, rfl, _, rfl, ?_⟩
    by_cases c2 : (n.length : Int) ≤ 8
    · rw [decT c2]
      refine iteF ⟨_, rfl, n, rfl, fun D hD => ?_⟩
      have nsz : n.cps.size ≤ 8 := by
        have : n.length ≤ 8 := by omega
        exact this
      refine lc_it walk_str (fun i H' => Same H H' ∧ H' D = some (.lst (((n.cps.toList.take i).map loB).map V.bl))) ⟨Same.upd hD, upd_same⟩ (fun _ _ _ _ => trivial) ?_ ?_
      · rintro i x H1 H2 hi ⟨s1, h1⟩ ⟨rfl, ch, hc, rfl⟩
        have hc' : n.cps.toList[i]? = some ch := by rw [Array.getElem?_toList]; exact hc
        have step : ∀ b, b = loB ch → ∃ acc, H2 D = some (.lst acc) ∧ acc.length < sizeLine ∧ (Same H (L2.upd H2 D (.lst (acc ++ [.bl b]))) ∧ (L2.upd H2 D (.lst (acc ++ [.bl b]))) D = some (.lst (((n.cps.toList.take (i + 1)).map loB).map V.bl))) := by
          intro b hb
          refine ⟨_, h1, szl (by simp; omega), over s1 hD, ?_⟩
          rw [upd_same, take_succ' hc', List.map_append, List.map_append, hb]
          rfl
        have e1 : decide ((⟨#[ch]⟩ : Str).cps.toList < ("a" : Str).cps.toList) = decide (ch < 97) := lt_one ch 97
        have e2 : decide (("z" : Str).cps.toList < (⟨#[ch]⟩ : Str).cps.toList) = decide (122 < ch) := lt_one 122 ch
        refine ⟨rfl, _, rfl, _, _, rfl, rfl, _, rfl, ?_⟩
        rw [e1]
        by_cases z1 : ch < 97
        · rw [decT z1]
          exact iteF (step false (by unfold loB; rw [decT z1]; rfl))
        · rw [decF z1]
          refine iteT ⟨_, _, rfl, rfl, ?_⟩
          rw [e2]
          exact step _ (by unfold loB; rw [decF z1]; rfl)
      · rintro H1 ⟨s1, h1⟩
        rw [take_full (by simp)] at h1
        refine ⟨D, _, rfl, SqL.of h1, _, rfl, ?_⟩
        cases ca : (n.cps.toList.map loB).all id with
        | false => exact iteT (bad H1 s1)
        | true =>
          refine iteF ?_
          have nk : nameOk n := by
            refine ⟨by omega, by omega, fun ch hc => ?_⟩
            rw [List.all_map, List.all_eq_true] at ca
            have h := ca ch hc
            simp [loB] at h
            exact h
          refine ⟨_, rfl, _, rfl, o, _, rfl, .inl ⟨kvs, Sum.inr n, .inl (s1 _ _ ho), rfl, rfl⟩, _, rfl, ?_⟩
          cases cv : valV kvs (Sum.inr n) with
          | some v => exact iteT (q H1 _ s1 fun z => absurd z (by decide +kernel))
          | none => exact iteF (q H1 _ s1 fun _ => ⟨nk, cv⟩)
    · rw [decF c2]
      exact iteT (bad H same_rfl)
  · rw [decF c1]
    exact iteF ⟨_, rfl, iteT (bad H same_rfl)⟩
end
end K59
set_option maxHeartbeats 4000000
namespace K59
open PySem PySem.Spec PyProof.Rows L2
def manyT : List (Key × V) := [(Sum.inr "on", .int 3), (Sum.inr "off", .int 3), (Sum.inr "knob", .int 3), (Sum.inr "voice", .int 2)]
theorem many_of (w : Str) : (valV manyT (Sum.inr w) = some (.int 3) ∧ (w = "on" ∨ w = "off" ∨ w = "knob")) ∨ (valV manyT (Sum.inr w) = some (.int 2) ∧ w = "voice") ∨ valV manyT (Sum.inr w) = none := by
  by_cases h1 : w = "on"
  · subst h1; exact .inl ⟨by decide +kernel, .inl rfl⟩
  by_cases h2 : w = "off"
  · subst h2; exact .inl ⟨by decide +kernel, .inr (.inl rfl)⟩
  by_cases h3 : w = "knob"
  · subst h3; exact .inl ⟨by decide +kernel, .inr (.inr rfl)⟩
  by_cases h4 : w = "voice"
  · subst h4; exact .inr (.inl ⟨by decide +kernel, rfl⟩)
  refine .inr (.inr ?_)
  unfold manyT
  rw [valV_neg (fun z => h1 (Sum.inr.inj z).symm), valV_neg (fun z => h2 (Sum.inr.inj z).symm), valV_neg (fun z => h3 (Sum.inr.inj z).symm), valV_neg (fun z => h4 (Sum.inr.inj z).symm)]
  rfl
theorem cut_2 {x y : V} {xs : List V} : cutV (x :: y :: xs) (some 2) none = xs := cut_from (n := 2)
theorem nocut_2 {x y : V} {xs : List V} : ¬ (HT.sIx (x :: y :: xs).length 0 (some 2) = 0 ∧ HT.sIx (x :: y :: xs).length (x :: y :: xs).length none = (x :: y :: xs).length) := by
  intro h
  have := h.1
  rw [show (some (2 : Int)) = some ((2 : Nat) : Int) from rfl, HT.sIx_nat] at this
  simp at this
section
variable {P : Program} {w : World} {K : PySem.W.Frag} {mg : Str → Option Value} {base : Heap}
def spEvGood (K : PySem.W.Frag) : Sp := fun vs H Q _ => ∃ (e : Addr) (ev : Ev), vs = [.ref e] ∧ SqT K H e (ev.map scV) ∧ EvSh ev ∧ ∀ H' b, Same H H' → (b = true → GoodEv ev) → Q (.bl b) H'
abbrev s_law_event_good : Stmt := top 119
abbrev N_law_event_good : List Str := ["_law_event", "_law_word_here", "_law_things", "_law_text", "_law_many", "_law_sign", "_law_thing_here"]
theorem sc_law_event_good : FnScope N_law_event_good ["_law_event"] (C8.fnScope s_law_event_good) := C8.fnScope_by (by decide +kernel)
theorem c_law_event_good (T : Fx w K mg) : C8.Cal P w K mg base 2 "_law_event_good" (spEvGood K) [] := by
  refine cal_ T.d_law_event_good (fun _ _ _ _ _ _ us hl => match us, hl with | [_], _ => rfl) sc_law_event_good (fun vs H Q E h => by obtain ⟨e, ev, rfl, _⟩ := h; rfl) (fun f cdv A outer s H vs Q E hr h => ?_)
  have nd := sc_law_event_good.nd
  have hu := hu_of hr
  have hu64 := hu64 hr
  refine ⟨_, (pss_cons (ps_if (PW.pt (pw_or (pt_cmpR op_lt (pe_callB (r := rLenSq K) call_len_seq (by rfl) T.f_len PySem.boot_len (pa_cons (pv 0) pa_nil)) pe_int
      (nomark _)) (pw_or (pt_not (pt_val (C8.pe_c (c_law_within T) hr (by decide) rfl (pa_cons (pe_ix (r := rIxT K) ix_tup (pv 0) pe_int (fun _ _ => rfl))
      (pa_cons pe_int (pa_cons pe_int pa_nil)))))) (pw_or1 (pt_not (pt_val (pe_callB call_isi (by rfl) T.f_isinstance (by decide +kernel) (pa_cons
      (pe_ix (r := rIxT K) ix_tup (pv 0) pe_int (fun _ _ => rfl)) (pa_cons (bT_str T.f_str) pa_nil))))))))) (pss_one (ps_ret pe_bl)) pss_nil) (pss_cons
      (ps_par (i := 1) (j := 2) rfl nd rfl rfl (by decide) rfl rfl (pa_cons (pe_ix (r := rIxT K) ix_tup (pv 0) pe_int (fun _ _ => rfl)) (pa_cons
      (pe_slice (r := rSlT K) sl_tup (pv 0) (po_some pe_int) po_none) pa_nil)) rfl) (pss_cons (ps_if (pt_cmpR op_eq (pv 1) pe_str (nomark _)) (pss_cons
      (ps_set (i := 3) nd rfl (by first | exact Or.inl rfl | exact Or.inr rfl) (pe_ix (r := rIxT K) ix_tup (pv 2) pe_int (fun _ _ => rfl))) (pss_cons
      (ps_if (PW.pt (pw_or (pt_cmpR op_ne (pe_callB (r := rLenSq K) call_len_seq (by rfl) T.f_len PySem.boot_len (pa_cons (pv 2) pa_nil)) pe_int
      (nomark _)) (pw_or (pt_not (pt_val (pe_callB call_isi (by rfl) T.f_isinstance (by decide +kernel) (pa_cons (pv 3) (pa_cons (bT_str T.f_str) pa_nil)))))
      (pw_or1 (pt_cmpR op_gt (pe_callB call_len_str (by rfl) T.f_len PySem.boot_len (pa_cons (pv 3) pa_nil)) pe_int (nomark _)))))) (pss_one (ps_ret pe_bl)) pss_nil)
      (pss_one (ps_ret (pe_callB (cr_all rfl) (by rfl) T.f_all (by decide +kernel) (pa_cons (pe_lc (own := [("_law_sign", 5)]) (g := gName 5) (tt := tYes) rfl nd
      (pi_str (pv 3)) (blkOk_by (own := [("_law_sign", 5)]) (N := N_law_event_good) (sc := C8.fnScope s_law_event_good) (by decide +kernel)) (fun _ _ _ _ _ =>
      (pg_name (i := 5) nd rfl (by first | exact Or.inl rfl | exact Or.inr rfl))) (fun _ _ _ _ _ => pts_nil) (fun _ _ _ _ _ => (pe_cmpR op_in_sign (pv 5) pe_str rfl))) pa_nil)))))) pss_nil)
      (pss_cons (ps_set (i := 4) nd rfl (by first | exact Or.inl rfl | exact Or.inr rfl) (pe_dget2 hu (pe_disp (pps_cons pe_str pe_int (pps_cons pe_str pe_int
      (pps_cons pe_str pe_int (pps_cons pe_str pe_int pps_nil)))) (by rfl) (by rfl) (fun z => by cases z) (by decide)) (pv 1) pe_int ⟨rfl, rfl, rfl, rfl⟩))
      (pss_cons (ps_if (PW.pt (pw_or (pt_cmpR op_ne (pe_callB (r := rLenSq K) call_len_seq (by rfl) T.f_len PySem.boot_len (pa_cons (pv 2) pa_nil)) (pv 4)
      (nomark _)) (pw_or1 (pt_not (pt_val (C8.pe_c (c_law_within T) hr (by decide) rfl (pa_cons (pe_ix (r := rIxT K) ix_tup (pv 2) pe_int (fun _ _ => rfl))
      (pa_cons pe_int (pa_cons pe_int pa_nil))))))))) (pss_one (ps_ret pe_bl)) pss_nil) (pss_cons (ps_if (pt_not (pt_val (pe_callB (cr_all rfl) (by rfl) T.f_all
      (by decide +kernel) (pa_cons (pe_lc (own := [("_law_thing_here", 6)]) (g := gName 6) (tt := tYes) rfl nd (pi_tup (pe_slice (r := rSlT K) sl_tup
      (pv 2) (po_some pe_int) po_none)) (blkOk_by (own := [("_law_thing_here", 6)]) (N := N_law_event_good) (sc := C8.fnScope s_law_event_good) (by decide +kernel))
      (fun _ _ _ _ _ => (pg_name (i := 6) nd rfl (by first | exact Or.inl rfl | exact Or.inr rfl))) (fun _ _ _ _ _ => pts_nil) (fun _ _ _ _ _ =>
      (C8.pe_c (c_law_within T) hr (by decide) rfl (pa_cons (pv 6) (pa_cons pe_int (pa_cons pe_int pa_nil)))))) pa_nil)))) (pss_one (ps_ret pe_bl)) pss_nil)
      (pss_one (ps_ret (pe_or (pe_cmpR op_ne (pv 1) pe_str (nomark _)) (pe_one (pe_cmpR op_gt (pe_ix (r := rIxT K) ix_tup (pv 2) pe_int (fun _ _ => rfl)) pe_int
      (nomark _)))))))))))), ?_⟩

  obtain ⟨e, ev, rfl, he, sh, q⟩ := h
  obtain ⟨t, w0, r, rfl, lr, hr0⟩ := sh
  have he : SqT K H e (V.int t :: V.str w0 :: r.map scV) := he
  have no : ∀ H', Same H H' → Q (.bl false) H' := fun H' s => q H' false s fun z => by cases z
  refine ⟨_, rfl, e, _, rfl, .inr he, _, _, rfl, rfl, _, rfl, ?_⟩
  have len : (V.int t :: V.str w0 :: r.map scV).length = r.length + 2 := by simp
  rw [len]
  by_cases l3 : ((r.length + 2 : Nat) : Int) < 3
  · rw [decT l3]
    exact iteT (iteT (no H same_rfl))
  rw [decF l3]
  refine iteF ⟨_, rfl, e, _, _, _, rfl, rfl, he, atI_nat (j := 0) rfl, .int t, 0, 999999, rfl, .inl ⟨t, rfl, _, rfl, ?_⟩⟩
  rcases (Classical.em (0 ≤ t ∧ t ≤ 999999)).symm with ht | ht
  · rw [decF ht]
    exact iteT (iteT (no H same_rfl))
  rw [decT ht]
  refine iteF ⟨_, rfl, e, _, _, _, rfl, rfl, he, atI_nat (j := 1) rfl, _, _, _, _, true, rfl, .ty "str", .base (.str _), kit_ss, true, rfl, iteF ?_⟩
  refine ⟨_, rfl, e, _, _, _, rfl, rfl, he, atI_nat (j := 1) rfl, _, rfl, _, rfl, e, _, rfl, he, nocut_2, fun p np => ⟨_, _, rfl, ?_⟩⟩
  rw [cut_2]
  have s1 := Same.upd (o := .tup (r.map scV)) np
  have hp1 : SqT K (L2.upd H p (.tup (r.map scV))) p (r.map scV) := SqT.of upd_same
  generalize L2.upd H p (.tup (r.map scV)) = H1 at *
  refine ⟨_, rfl, rfl, _, rfl, ?_⟩
  rcases hr0 with ⟨rfl, hz⟩ | ⟨nm, is, rfl⟩
  · refine iteT ?_
    rcases hz with rfl | ⟨z, rfl, lz⟩
    · simp at l3
    refine ⟨_, rfl, p, _, _, _, rfl, rfl, hp1, atI_nat (j := 0) rfl, ?_⟩
    refine ⟨_, rfl, p, _, rfl, .inr hp1, rfl, _, rfl, iteF ?_⟩
    refine ⟨_, rfl, _, _, _, _, true, rfl, .ty "str", .base (.str _), kit_ss, true, rfl, iteF ?_⟩
    refine ⟨_, rfl, z, rfl, sz (by omega), _, _, rfl, rfl, _, rfl, ?_⟩
    by_cases lz2 : (z.length : Int) > 12
    · rw [decT lz2]
      exact iteT (no H1 s1)
    rw [decF lz2]
    refine iteF ⟨_, rfl, z, rfl, fun D hD => ?_⟩
    have zsz : z.cps.size ≤ 40 := lz
    refine lc_it walk_str (fun i H' => Same H1 H' ∧ H' D = some (.lst (((z.cps.toList.take i).map fun ch => decide (ch ∈ signs)).map V.bl))) ⟨Same.upd hD, upd_same⟩ (fun _ _ _ _ => trivial) ?_ ?_
    · rintro i x H2 H3 hi ⟨s2, h2⟩ ⟨rfl, ch, hc, rfl⟩
      have hc' : z.cps.toList[i]? = some ch := by rw [Array.getElem?_toList]; exact hc
      refine ⟨rfl, _, rfl, _, _, rfl, rfl, _, h2, szl (by simp; omega), over s2 hD, ?_⟩
      rw [upd_same, take_succ' hc', List.map_append, List.map_append]
      rfl
    · rintro H2 ⟨s2, h2⟩
      rw [take_full (by simp)] at h2
      refine ⟨D, _, rfl, SqL.of h2, q H2 _ (s1.trans s2) fun ha => ?_⟩
      rw [List.all_map, List.all_eq_true] at ha
      exact .mark t z ht (by omega) fun ch hc => of_decide_eq_true (ha ch hc)
  · rw [decF (fun z => nm (V.str.inj z))]
    refine iteF ?_
    intro pd npd
    refine ⟨upd_same, manyT, rfl, by decide, ?_⟩
    have em : mergeK [] manyT = manyT := by decide +kernel
    rw [em]
    have s2 : Same H1 (L2.upd (L2.upd H1 pd (.dK [])) pd (.dK manyT)) := over (over same_rfl npd) npd
    have hpd : (L2.upd (L2.upd H1 pd (.dK [])) pd (.dK manyT)) pd = some (.dK manyT) := upd_same
    generalize L2.upd (L2.upd H1 pd (.dK [])) pd (.dK manyT) = H2 at *
    refine ⟨pd, rfl, .inl ⟨_, .inl hpd⟩, _, rfl, _, .inl ⟨manyT, Sum.inr w0, .inl hpd, rfl, rfl⟩, ?_⟩
    have hp2 := same_t s2 hp1
    have emap : (is.map PyData.int).map scV = is.map V.int := map_scV_int is
    rw [emap] at hp2
    rw [List.length_map] at lr l3
    have s12 := s1.trans s2
    obtain ⟨m, hm1, hm2⟩ : ∃ m : Nat, (valV manyT (Sum.inr w0)).getD (.int 0) = .int (m : Int) ∧ ((m = 3 ∧ (w0 = "on" ∨ w0 = "off" ∨ w0 = "knob")) ∨ (m = 2 ∧ w0 = "voice") ∨ m = 0) := by
      rcases many_of w0 with ⟨h1, h2⟩ | ⟨h1, h2⟩ | h1
      · exact ⟨3, by rw [h1]; rfl, .inl ⟨rfl, h2⟩⟩
      · exact ⟨2, by rw [h1]; rfl, .inr (.inl ⟨rfl, h2⟩)⟩
      · exact ⟨0, by rw [h1]; rfl, .inr (.inr rfl)⟩
    rw [hm1]
    refine ⟨_, rfl, p, _, rfl, .inr hp2, _, rfl, rfl, _, rfl, ?_⟩
    rcases (Classical.em (is.length = m)).symm with lm | lm
    · rw [decF (fun z => lm (by have := V.int.inj z; rw [List.length_map] at this; omega))]
      exact iteT (iteT (no H2 s12))
    rw [decT (by rw [List.length_map, lm])]
    refine iteF ?_
    obtain ⟨i0, is', rfl⟩ : ∃ i0 is', is = i0 :: is' := by
      cases is with
      | nil => simp at l3
      | cons a b => exact ⟨a, b, rfl⟩
    refine ⟨_, rfl, p, _, _, _, rfl, rfl, hp2, atI_nat (j := 0) rfl, .int i0, 0, 15, rfl, .inl ⟨i0, rfl, _, rfl, ?_⟩⟩
    rcases (Classical.em (0 ≤ i0 ∧ i0 ≤ 15)).symm with h0 | h0
    · rw [decF h0]
      exact iteT (no H2 s12)
    rw [decT h0]
    refine iteF ?_
    refine ⟨_, rfl, _, rfl, p, _, rfl, hp2, nocut_1, fun p3 np3 => ?_⟩
    have e1 : cutV ((i0 :: is').map V.int) (some 1) none = is'.map V.int := cut_1
    rw [e1]
    have s3 := Same.upd (o := .tup (is'.map V.int)) np3
    have hp3 : SqT K (L2.upd H2 p3 (.tup (is'.map V.int))) p3 (is'.map V.int) := SqT.of upd_same
    generalize L2.upd H2 p3 (.tup (is'.map V.int)) = H3 at *
    refine ⟨p3, rfl, ⟨_, hp3⟩, fun D hD => ?_⟩
    refine lc_it walk_tup (fun i H' => Same H3 H' ∧ H' D = some (.lst (((is'.take i).map fun i => decide (0 ≤ i ∧ i ≤ 127)).map V.bl))) ⟨Same.upd hD, upd_same⟩ (fun _ _ _ hh => same_t hh.1 hp3) ?_ ?_
    · rintro i x H4 H5 hi ⟨s4, h4⟩ ⟨rfl, hy⟩
      rw [List.getElem?_map] at hy
      obtain ⟨iv, hiv, rfl⟩ := Option.map_eq_some_iff.mp hy
      have il : is'.length ≤ 3 := by simp at lr; omega
      refine ⟨rfl, _, rfl, .int iv, 0, 127, rfl, .inl ⟨iv, rfl, _, h4, szl (by simp; omega), over s4 hD, ?_⟩⟩
      rw [upd_same, take_succ' hiv, List.map_append, List.map_append]
      rfl
    · rintro H4 ⟨s4, h4⟩
      rw [take_full (by simp)] at h4
      have s14 := s12.trans (s3.trans s4)
      refine ⟨D, _, rfl, SqL.of h4, _, rfl, ?_⟩
      cases ca : (is'.map fun i => decide (0 ≤ i ∧ i ≤ 127)).all id with
      | false => exact iteT (no H4 s14)
      | true =>
        rw [List.all_map, List.all_eq_true] at ca
        have ca' : ∀ i ∈ is', 0 ≤ i ∧ i ≤ 127 := fun i hi => of_decide_eq_true (ca i hi)
        refine iteF ⟨_, rfl, rfl, _, rfl, ?_⟩
        have hp4 := same_t (s3.trans s4) hp2
        by_cases won : w0 = "on"
        · subst won
          rw [decT rfl]
          refine iteF ?_
          rcases hm2 with ⟨rfl, _⟩ | ⟨_, z⟩ | rfl
          · obtain ⟨a, b, rfl⟩ : ∃ a b, is' = [a, b] := by
              match is', lm with
              | [a, b], _ => exact ⟨a, b, rfl⟩
            refine ⟨_, rfl, p, _, _, _, rfl, rfl, hp4, atI_nat (j := 2) rfl, _, _, rfl, rfl, q H4 _ s14 fun hb => ?_⟩
            exact .three _ t i0 a b (.inl rfl) ht h0 (ca' a (by simp)) (ca' b (by simp)) fun _ => by have := of_decide_eq_true hb; omega
          · exact absurd z (by decide +kernel)
          · simp at lm
        · rw [decF (fun z => won (V.str.inj z))]
          refine iteT (q H4 true s14 fun _ => ?_)
          rcases hm2 with ⟨rfl, h⟩ | ⟨rfl, rfl⟩ | rfl
          · obtain ⟨a, b, rfl⟩ : ∃ a b, is' = [a, b] := by
              match is', lm with
              | [a, b], _ => exact ⟨a, b, rfl⟩
            exact .three _ t i0 a b h ht h0 (ca' a (by simp)) (ca' b (by simp)) fun z => absurd z won
          · obtain ⟨a, rfl⟩ : ∃ a, is' = [a] := by
              match is', lm with
              | [a], _ => exact ⟨a, rfl⟩
            exact .voice t i0 a ht h0 (ca' a (by simp))
          · simp at lm
end
end K59
set_option maxHeartbeats 4000000
namespace K59
open PySem PySem.Spec PyProof.Rows L2
def lbR (K : PySem.W.Frag) (G : Hp) (kv : Key × V) (p : Str × Tp) : Prop := kv.1 = Sum.inr p.1 ∧ ∃ m kn tr ts, kv.2 = .ref m ∧ G m = some (.lst [.int p.2.beat, .ref kn, .ref tr]) ∧ G kn = some (.dK (p.2.paces.map kvI)) ∧ G tr = some (.lst ts) ∧ DpAll K G ts (p.2.tracks.map trP)
structure LbIs (K : PySem.W.Frag) (G : Hp) (o : Addr) (bk : Bk) : Prop where
  ex : ∃ kvs, G o = some (.dK kvs) ∧ Paired (lbR K G) kvs bk
theorem lbR.to {K : PySem.W.Frag} {G G' : Hp} (s : Same G G') : ∀ {kvs : List (Key × V)} {bk : Bk}, Paired (lbR K G) kvs bk → Paired (lbR K G') kvs bk
  | _, _, .nil => .nil
  | _, _, .cons ⟨e, m, kn, tr, ts, h1, h2, h3, h4, h5⟩ t => .cons ⟨e, m, kn, tr, ts, h1, s _ _ h2, s _ _ h3, s _ _ h4, da h5 s⟩ (lbR.to s t)
theorem LbIs.to {K : PySem.W.Frag} {G G' : Hp} {o : Addr} {bk : Bk} (h : LbIs K G o bk) (s : Same G G') : LbIs K G' o bk := by
  obtain ⟨kvs, e, r⟩ := h.ex
  exact ⟨kvs, s _ _ e, lbR.to s r⟩
theorem lb_at {K : PySem.W.Frag} {G : Hp} {n : Str} : ∀ {kvs : List (Key × V)} {bk : Bk}, Paired (lbR K G) kvs bk → (∃ m kn tr ts t, valV kvs (Sum.inr n) = some (.ref m) ∧ atA bk n = some t ∧ G m = some (.lst [.int t.beat, .ref kn, .ref tr]) ∧ G kn = some (.dK (t.paces.map kvI)) ∧ G tr = some (.lst ts) ∧ DpAll K G ts (t.tracks.map trP)) ∨ (valV kvs (Sum.inr n) = none ∧ atA bk n = none)
  | _, _, .nil => .inr ⟨rfl, rfl⟩
  | kv :: kvs, p :: bk, .cons r t => by
    by_cases h : p.1 = n
    · obtain ⟨e, m, kn, tr, ts, h1, h2, h3, h4, h5⟩ := r
      refine .inl ⟨m, kn, tr, ts, p.2, by rw [valV_pos (by rw [e, h]), h1], ?_, h2, h3, h4, h5⟩
      unfold atA
      rw [List.find?_cons, decT h]; rfl
    · have e1 : valV (kv :: kvs) (Sum.inr n) = valV kvs (Sum.inr n) := valV_neg (by rw [r.1]; exact fun z => h (Sum.inr.inj z))
      have e2 : atA (p :: bk) n = atA bk n := by
        unfold atA
        rw [List.find?_cons, decF h]
      rw [e1, e2]
      exact lb_at t
def DeedSh (d : Deed) : Prop := d.name.length ≤ 100 ∧ match d with
  | .put _ _ e => EvSh e
  | _ => True
def TrGood (t : Tr) (n : Nat) : Deed → Prop
  | .put _ _ e => GoodEv e ∧ t.length ≤ 199
  | .take _ _ p => 0 ≤ p ∧ p < t.length
  | .later _ _ b => ∀ e ∈ t, 0 ≤ tick e + b ∧ tick e + b ≤ 999999
  | .part _ _ c => (0 ≤ c ∧ c ≤ 15) ∧ n ≤ 5
  | _ => False
def isTr : Deed → Bool
  | .put .. => true | .take .. => true | .later .. => true | .part .. => true | _ => false
theorem sne {a b : Str} (h : ¬ a = b) : decide (V.str a = V.str b) = false := decF fun z => h (V.str.inj z)
theorem seq' {a : Str} : decide (V.str a = V.str a) = true := decT rfl
section
variable {P : Program} {w : World} {K : PySem.W.Frag} {mg : Str → Option Value} {base : Heap}
def spTrackWord (K : PySem.W.Frag) : Sp := fun vs H Q _ => ∃ (m tr : Addr) (v x y : V) (trs : Addr) (ts : List V) (t : Tr) (d : Deed), vs = [.ref m, .ref tr, v] ∧ H m = some (.lst [x, y, .ref trs]) ∧ H trs = some (.lst ts) ∧ Dp K H (.ref tr) (trP t) ∧ TrOk t ∧ Dp K H v d.P ∧ DeedSh d ∧ isTr d = true ∧
  ∀ H' z, Same H H' → (z = ("" : Str) → TrGood t ts.length d) → Q (.str z) H'
abbrev s_law_slim_track_word : Stmt := top 120
abbrev N_law_slim_track_word : List Str := ["_law_m", "_law_track", "_law_deed", "_law_event"]
theorem sc_law_slim_track_word : FnScope N_law_slim_track_word ["_law_m", "_law_track", "_law_deed"] (C8.fnScope s_law_slim_track_word) := C8.fnScope_by (by decide +kernel)
theorem c_law_slim_track_word (T : Fx w K mg) : C8.Cal P w K mg base 3 "_law_slim_track_word" (spTrackWord K) [] := by
  refine cal_ T.d_law_slim_track_word (fun _ _ _ _ _ _ us hl => match us, hl with | [_, _, _], _ => rfl) sc_law_slim_track_word (fun vs H Q E h => by obtain ⟨m, tr, v, x, y, trs, ts, t, d, rfl, _⟩ := h; rfl) (fun f cdv A outer s H vs Q E hr h => ?_)
  have nd := sc_law_slim_track_word.nd
  have hu := hu_of hr
  have hu64 := hu64 hr
  refine ⟨_, (pss_cons (ps_if (pt_cmpR op_eq (pe_ix (r := rIxT K) ix_tup (pv 2) pe_int (fun _ _ => rfl)) pe_str (nomark _)) (pss_one (ps_ret (pe_ifExp (pt_not
      (pt_val (C8.pe_c (c_law_event_good T) hr (by decide) rfl (pa_cons (pe_ix (r := rIxT K) ix_tup (pv 2) pe_int (fun _ _ => rfl)) pa_nil)))) pe_str
      (pe_ifExp (pt_cmpR op_gt (pe_callB (r := rLenSq K) call_len_seq (by rfl) T.f_len PySem.boot_len (pa_cons (pv 1) pa_nil)) pe_int (nomark _)) pe_str pe_str)))) pss_nil)
      (pss_cons (ps_if (pt_cmpR op_eq (pe_ix (r := rIxT K) ix_tup (pv 2) pe_int (fun _ _ => rfl)) pe_str (nomark _)) (pss_one (ps_ret (pe_ifExp
      (pt_chain op_le op_lt pe_int (pe_ix (r := rIxT K) ix_tup (pv 2) pe_int (fun _ _ => rfl)) (pe_callB (r := rLenSq K) call_len_seq (by rfl) T.f_len PySem.boot_len
      (pa_cons (pv 1) pa_nil))) pe_str pe_str))) pss_nil) (pss_cons (ps_if (pt_cmpR op_eq (pe_ix (r := rIxT K) ix_tup (pv 2) pe_int (fun _ _ => rfl)) pe_str
      (nomark _)) (pss_one (ps_ret (pe_ifExp (pt_val (pe_callB (cr_all rfl) (by rfl) T.f_all (by decide +kernel) (pa_cons (pe_lc (own := [("_law_event", 3)])
      (g := gName 3) (tt := tYes) rfl nd (pi_list (pv 1)) (blkOk_by (own := [("_law_event", 3)]) (N := N_law_slim_track_word) (sc := C8.fnScope s_law_slim_track_word)
      (by decide +kernel)) (fun _ _ _ _ _ => (pg_name (i := 3) nd rfl (by first | exact Or.inl rfl | exact Or.inr rfl))) (fun _ _ _ _ _ => pts_nil)
      (fun _ _ _ _ _ => (pe_chain op_le op_le pe_int (pe_op op_add (pe_ix (r := rIxT K) ix_tup (pv 3) pe_int (fun _ _ => rfl)) (pe_ix (r := rIxT K) ix_tup
      (pv 2) pe_int (fun _ _ => rfl))) pe_int))) pa_nil))) pe_str pe_str))) pss_nil) (pss_cons (ps_if (pt_not (pt_chain op_le op_le pe_int (pe_ix (r := rIxT K) ix_tup
      (pv 2) pe_int (fun _ _ => rfl)) pe_int)) (pss_one (ps_ret pe_str)) pss_nil) (pss_one (ps_ret (pe_ifExp (pt_cmpR op_gt (pe_callB (r := rLenSq K) call_len_seq
      (by rfl) T.f_len PySem.boot_len (pa_cons (pe_ix (r := rIxL K) ix_list (pv 0) pe_int (fun _ _ => rfl)) pa_nil)) pe_int (nomark _)) pe_str pe_str))))))), ?_⟩

  obtain ⟨m, tr, v, x, y, trs, ts, t, d, rfl, hm, htrs, ht, ok, hd, ⟨hn, hsh⟩, htr, q⟩ := h
  obtain ⟨a, rs, rfl, ha, hrs⟩ := K59.Dp.P hd
  obtain ⟨tr', xs, e, hx1, hx⟩ := Dp.lstI ht
  cases e
  have ln := tr_len hx
  have few := ok.few
  have bad : ∀ H' (z : Str), Same H H' → ¬ z = "" → Q (.str z) H' := fun H' z s hz => q H' z s fun e => absurd e hz
  cases d with
  | new n b => cases htr
  | drop n => cases htr
  | add n => cases htr
  | pace n k p => cases htr
  | put n k e =>
    obtain ⟨x1, x2, rfl, h1, h2⟩ := nil2 hrs
    have ha : SqT K H a [.str "put", .str n, x1, x2] := ha
    obtain ⟨ea, es, rfl, he1, he2⟩ := Dp.tupI h2
    rw [DpAll.flat (EvSh.flat hsh) he2] at he1
    refine ⟨_, rfl, a, _, _, _, rfl, rfl, ha, atI_nat (j := 0) rfl, rfl, _, rfl, ?_⟩
    rw [seq']
    refine iteT ⟨_, rfl, a, _, _, _, rfl, rfl, ha, atI_nat (j := 3) rfl, ea, e, rfl, he1, hsh, fun H1 b s1 hb => ⟨_, rfl, ?_⟩⟩
    cases b with
    | false => exact iteT (bad H1 _ s1 (by decide +kernel))
    | true =>
      refine iteF ⟨_, rfl, tr, xs, rfl, .inl (same_l s1 hx1), _, _, rfl, rfl, _, rfl, ?_⟩
      by_cases c : (xs.length : Int) > 199
      · rw [decT c]; exact iteT (bad H1 _ s1 (by decide +kernel))
      · rw [decF c]; exact iteF (q H1 _ s1 fun _ => ⟨hb rfl, by omega⟩)
  | take n k p =>
    obtain ⟨x1, x2, rfl, h1, h2⟩ := nil2 hrs
    obtain rfl := dpi h2
    have ha : SqT K H a [.str "take", .str n, x1, .int p] := ha
    refine ⟨_, rfl, a, _, _, _, rfl, rfl, ha, atI_nat (j := 0) rfl, rfl, _, rfl, ?_⟩
    rw [sne (by decide +kernel)]
    refine iteF ⟨_, rfl, a, _, _, _, rfl, rfl, ha, atI_nat (j := 0) rfl, rfl, _, rfl, ?_⟩
    rw [seq']
    refine iteT ⟨_, rfl, a, _, _, _, rfl, rfl, ha, atI_nat (j := 3) rfl, _, _, rfl, rfl, _, rfl, ?_⟩
    by_cases c1 : 0 ≤ p
    · rw [decT c1]
      refine iteT ⟨_, rfl, tr, xs, rfl, .inl hx1, _, _, rfl, rfl, _, rfl, ?_⟩
      by_cases c2 : p < xs.length
      · rw [decT c2]; exact iteT (q H _ same_rfl fun _ => ⟨c1, by omega⟩)
      · rw [decF c2]; exact iteF (bad H _ same_rfl (by decide +kernel))
    · rw [decF c1]; exact iteF ⟨_, rfl, iteF (bad H _ same_rfl (by decide +kernel))⟩
  | later n k b =>
    obtain ⟨x1, x2, rfl, h1, h2⟩ := nil2 hrs
    obtain rfl := dpi h2
    have ha : SqT K H a [.str "later", .str n, x1, .int b] := ha
    refine ⟨_, rfl, a, _, _, _, rfl, rfl, ha, atI_nat (j := 0) rfl, rfl, _, rfl, ?_⟩
    rw [sne (by decide +kernel)]
    refine iteF ⟨_, rfl, a, _, _, _, rfl, rfl, ha, atI_nat (j := 0) rfl, rfl, _, rfl, ?_⟩
    rw [sne (by decide +kernel)]
    refine iteF ⟨_, rfl, a, _, _, _, rfl, rfl, ha, atI_nat (j := 0) rfl, rfl, _, rfl, ?_⟩
    rw [seq']
    refine iteT ⟨_, rfl, tr, rfl, ⟨xs, hx1⟩, fun D hD => ?_⟩
    refine lc_it walk_list (fun i H' => Same H H' ∧ H' D = some (.lst (((t.take i).map fun e => decide (0 ≤ tick e + b ∧ tick e + b ≤ 999999)).map V.bl))) ⟨Same.upd hD, upd_same⟩ (fun _ _ _ hh => same_l hh.1 hx1) ?_ ?_
    · rintro i x H1 H2 hi ⟨s1, h1⟩ ⟨rfl, hy⟩
      obtain ⟨e2, ev2, w2, r2, rfl, ht2, g2, hd2, hs2, e02, _⟩ := ev_in ok.good hx hy
      rw [sc_head e02] at hs2
      have step : ∀ bb, bb = decide (0 ≤ tick ev2 + b ∧ tick ev2 + b ≤ 999999) → ∃ acc, H2 D = some (.lst acc) ∧ acc.length < sizeLine ∧ (Same H (L2.upd H2 D (.lst (acc ++ [.bl bb]))) ∧ (L2.upd H2 D (.lst (acc ++ [.bl bb]))) D = some (.lst (((t.take (i + 1)).map fun e => decide (0 ≤ tick e + b ∧ tick e + b ≤ 999999)).map V.bl))) := by
        intro bb hbb
        refine ⟨_, h1, szl (by simp; omega), over s1 hD, ?_⟩
        rw [upd_same, take_succ' ht2, List.map_append, List.map_append, hbb]
        rfl
      refine ⟨rfl, _, rfl, e2, _, _, _, rfl, rfl, same_t s1 hs2, atI_nat (j := 0) rfl, _, rfl, a, _, _, _, rfl, rfl, same_t s1 ha, atI_nat (j := 3) rfl, _, _, rfl, rfl, _, _, rfl, rfl, _, rfl, ?_⟩
      by_cases c1 : 0 ≤ tick ev2 + b
      · rw [decT c1]
        exact iteT ⟨_, _, rfl, rfl, step _ (by simp [c1])⟩
      · rw [decF c1]
        exact iteF (step _ (by simp [c1]))
    · rintro H1 ⟨s1, h1⟩
      rw [take_full ln.symm] at h1
      refine ⟨D, _, rfl, SqL.of h1, _, rfl, ?_⟩
      cases ca : (t.map fun e => decide (0 ≤ tick e + b ∧ tick e + b ≤ 999999)).all id with
      | false => exact iteF (bad H1 _ s1 (by decide +kernel))
      | true =>
        rw [List.all_map, List.all_eq_true] at ca
        exact iteT (q H1 _ s1 fun _ => fun e he => of_decide_eq_true (ca e he))
  | part n k c =>
    obtain ⟨x1, x2, rfl, h1, h2⟩ := nil2 hrs
    obtain rfl := dpi h2
    have ha : SqT K H a [.str "part", .str n, x1, .int c] := ha
    refine ⟨_, rfl, a, _, _, _, rfl, rfl, ha, atI_nat (j := 0) rfl, rfl, _, rfl, ?_⟩
    rw [sne (by decide +kernel)]
    refine iteF ⟨_, rfl, a, _, _, _, rfl, rfl, ha, atI_nat (j := 0) rfl, rfl, _, rfl, ?_⟩
    rw [sne (by decide +kernel)]
    refine iteF ⟨_, rfl, a, _, _, _, rfl, rfl, ha, atI_nat (j := 0) rfl, rfl, _, rfl, ?_⟩
    rw [sne (by decide +kernel)]
    refine iteF ⟨_, rfl, a, _, _, _, rfl, rfl, ha, atI_nat (j := 3) rfl, _, _, rfl, rfl, _, rfl, ?_⟩
    by_cases c1 : 0 ≤ c
    · rw [decT c1]
      refine iteT ⟨_, _, rfl, rfl, _, rfl, ?_⟩
      by_cases c2 : c ≤ 15
      · rw [decT c2]
        refine iteF ⟨_, rfl, m, _, _, _, rfl, rfl, SqL.of hm, atI_nat (j := 2) rfl, trs, ts, rfl, .inl (SqL.of htrs), _, _, rfl, rfl, _, rfl, ?_⟩
        by_cases c3 : (ts.length : Int) > 5
        · rw [decT c3]; exact iteT (bad H _ same_rfl (by decide +kernel))
        · rw [decF c3]; exact iteF (q H _ same_rfl fun _ => ⟨⟨c1, c2⟩, by omega⟩)
      · rw [decF c2]; exact iteT (bad H _ same_rfl (by decide +kernel))
    · rw [decF c1]; exact iteF ⟨_, rfl, iteT (bad H _ same_rfl (by decide +kernel))⟩
end
end K59
set_option maxHeartbeats 4000000
namespace K59
open PySem PySem.Spec PyProof.Rows L2
theorem size_val (d : Deed) : valV (sizeTab.map fun q => ((Sum.inr q.1 : Key), V.int q.2)) (Sum.inr d.word) = some (.int ((d.rest.length + 2 : Nat) : Int)) := by
  cases d <;> simp only [Deed.word, Deed.rest, List.length_cons, List.length_nil] <;> exact rfl
theorem good_tr {bk : Bk} {d : Deed} {t : Tp} {k : Int} (h : atA bk d.name = some t) (hk : 0 ≤ k ∧ k < t.tracks.length) (hd : isTr d = true) (hr : ∃ y, d.rest = [.int k, y]) (g : TrGood (t.tracks.getD k.toNat []) t.tracks.length d) : Good bk d := by
  cases d with
  | put n k' e => obtain ⟨y, e'⟩ := hr; cases e'; exact ⟨t, h, hk, g.1, g.2⟩
  | take n k' p => obtain ⟨y, e'⟩ := hr; cases e'; exact ⟨t, h, hk, g.1, g.2⟩
  | later n k' b => obtain ⟨y, e'⟩ := hr; cases e'; exact ⟨t, h, hk, g⟩
  | part n k' c => obtain ⟨y, e'⟩ := hr; cases e'; exact ⟨t, h, hk, g.1, g.2⟩
  | _ => cases hd
section
variable {P : Program} {w : World} {K : PySem.W.Frag} {mg : Str → Option Value} {base : Heap}
theorem lb_len {K : PySem.W.Frag} {G : Hp} {kvs : List (Key × V)} {bk : Bk} (r : Paired (lbR K G) kvs bk) : kvs.length = bk.length := Paired.length r
def spSlimWord (K : PySem.W.Frag) : Sp := fun vs H Q _ => ∃ (o : Addr) (v : V) (bk : Bk) (d : Deed), vs = [.ref o, v] ∧ LbIs K H o bk ∧ BkOk bk ∧ Dp K H v d.P ∧ DeedSh d ∧ ∀ H' z, Same H H' → (z = ("" : Str) → Good bk d) → Q (.str z) H'
abbrev s_law_slim_word : Stmt := top 121
abbrev N_law_slim_word : List Str := ["_law_book", "_law_deed", "_law_word_here", "_law_m"]
theorem sc_law_slim_word : FnScope N_law_slim_word ["_law_book", "_law_deed"] (C8.fnScope s_law_slim_word) := C8.fnScope_by (by decide +kernel)
theorem c_law_slim_word (T : Fx w K mg) : C8.Cal P w K mg base 4 "_law_slim_word" (spSlimWord K) [] := by
  refine cal_ T.d_law_slim_word (fun _ _ _ _ _ _ us hl => match us, hl with | [_, _], _ => rfl) sc_law_slim_word (fun vs H Q E h => by obtain ⟨o, v, bk, d, rfl, _⟩ := h; rfl) (fun f cdv A outer s H vs Q E hr h => ?_)
  have nd := sc_law_slim_word.nd
  have hu := hu_of hr
  have hu64 := hu64 hr
  refine ⟨_, (pss_cons (ps_if (PW.pt (pw_or (pt_cmpR op_eq (pe_callB (r := rLenSq K) call_len_seq (by rfl) T.f_len PySem.boot_len (pa_cons (pv 1) pa_nil)) pe_int
      (nomark _)) (pw_or1 (pt_cmpR op_ne (pe_dget2 hu (pe_c0 (c_law_slim_sizes T) hr (by decide) rfl) (pe_ix (r := rIxT K) ix_tup (pv 1) pe_int (fun _ _ => rfl)) pe_int ⟨rfl, rfl, rfl, rfl⟩)
      (pe_callB (r := rLenSq K) call_len_seq (by rfl) T.f_len PySem.boot_len (pa_cons (pv 1) pa_nil)) (nomark _))))) (pss_one (ps_ret pe_str)) pss_nil)
      (pss_cons (ps_if (pt_cmpR op_eq (pe_ix (r := rIxT K) ix_tup (pv 1) pe_int (fun _ _ => rfl)) pe_str (nomark _)) (pss_cons (ps_set (i := 2) nd rfl
      (by first | exact Or.inl rfl | exact Or.inr rfl) (C8.pe_c (c_law_name_word T) hr (by decide) rfl (pa_cons (pv 0) (pa_cons (pe_ix (r := rIxT K) ix_tup
      (pv 1) pe_int (fun _ _ => rfl)) pa_nil)))) (pss_cons (ps_if (PW.pt (pw_and (pt_cmpR op_eq (pv 2) pe_str (nomark _)) (pw_and1 (pt_not (pt_chain op_le op_le pe_int
      (pe_ix (r := rIxT K) ix_tup (pv 1) pe_int (fun _ _ => rfl)) pe_int))))) (pss_one (ps_set (i := 2) nd rfl (by first | exact Or.inl rfl | exact Or.inr rfl) pe_str)) pss_nil)
      (pss_one (ps_ret (pe_ifExp (PW.pt (pw_and (pt_cmpR op_eq (pv 2) pe_str (nomark _)) (pw_and1 (pt_cmpR op_gt (pe_callB call_lenD (by rfl) T.f_len PySem.boot_len
      (pa_cons (pv 0) pa_nil)) pe_int (nomark _))))) pe_str (pv 2)))))) pss_nil) (pss_cons (ps_if (pt_cmp (pc_dnotin hu (pe_ix (r := rIxT K) ix_tup (pv 1) pe_int
      (fun _ _ => rfl)) (pv 0))) (pss_one (ps_ret pe_str)) pss_nil) (pss_cons (ps_set (i := 3) nd rfl (by first | exact Or.inl rfl | exact Or.inr rfl)
      (pe_dget hu (pv 0) (pe_ix (r := rIxT K) ix_tup (pv 1) pe_int (fun _ _ => rfl)) (fun _ _ => rfl))) (pss_cons (ps_if (pt_cmpR op_in_seq (pe_ix (r := rIxT K) ix_tup
      (pv 1) pe_int (fun _ _ => rfl)) (pe_tup (pa_cons pe_str (pa_cons pe_str pa_nil))) rfl) (pss_one (ps_ret (pe_ifExp (PW.pt (pw_and (pt_cmpR op_eq
      (pe_ix (r := rIxT K) ix_tup (pv 1) pe_int (fun _ _ => rfl)) pe_str (nomark _)) (pw_and1 (pt_cmpR op_gt (pe_callB (r := rLenSq K) call_len_seq (by rfl) T.f_len PySem.boot_len
      (pa_cons (pe_ix (r := rIxL K) ix_list (pv 3) pe_int (fun _ _ => rfl)) pa_nil)) pe_int (nomark _))))) pe_str pe_str))) pss_nil) (pss_cons (ps_if
      (pt_cmpR op_eq (pe_ix (r := rIxT K) ix_tup (pv 1) pe_int (fun _ _ => rfl)) pe_str (nomark _)) (pss_cons (ps_if (pt_not (pt_chain op_le op_le pe_int
      (pe_ix (r := rIxT K) ix_tup (pv 1) pe_int (fun _ _ => rfl)) pe_int)) (pss_one (ps_ret pe_str)) pss_nil) (pss_cons (ps_if (pt_not (pt_chain op_le op_le pe_int
      (pe_ix (r := rIxT K) ix_tup (pv 1) pe_int (fun _ _ => rfl)) pe_int)) (pss_one (ps_ret pe_str)) pss_nil) (pss_one (ps_ret (pe_ifExp (PW.pt (pw_and
      (pt_cmp (pc_dnotin hu (pe_ix (r := rIxT K) ix_tup (pv 1) pe_int (fun _ _ => rfl)) (pe_ix (r := rIxL K) ix_list (pv 3) pe_int (fun _ _ => rfl))))
      (pw_and1 (pt_cmpR op_gt (pe_callB call_lenD (by rfl) T.f_len PySem.boot_len (pa_cons (pe_ix (r := rIxL K) ix_list (pv 3) pe_int (fun _ _ => rfl)) pa_nil)) pe_int
      (nomark _))))) pe_str pe_str))))) pss_nil) (pss_cons (ps_if (pt_not (pt_chain op_le op_lt pe_int (pe_ix (r := rIxT K) ix_tup (pv 1) pe_int (fun _ _ => rfl))
      (pe_callB (r := rLenSq K) call_len_seq (by rfl) T.f_len PySem.boot_len (pa_cons (pe_ix (r := rIxL K) ix_list (pv 3) pe_int (fun _ _ => rfl)) pa_nil))))
      (pss_one (ps_ret pe_str)) pss_nil) (pss_one (ps_ret (C8.pe_c (c_law_slim_track_word T) hr (by decide) rfl (pa_cons (pv 3) (pa_cons (pe_ix (r := rIxL K) ix_list
      (pe_ix (r := rIxL K) ix_list (pv 3) pe_int (fun _ _ => rfl)) (pe_ix (r := rIxT K) ix_tup (pv 1) pe_int (fun _ _ => rfl)) (fun _ _ => rfl))
      (pa_cons (pv 1) pa_nil))))))))))))), ?_⟩

  obtain ⟨o, v, bk, d, rfl, ⟨kvs, ho, hr'⟩, ok, hd, sh, q⟩ := h
  obtain ⟨a, rs, rfl, ha, hrs⟩ := K59.Dp.P hd
  have bad : ∀ H' (z : Str), Same H H' → ¬ z = "" → Q (.str z) H' := fun H' z s hz => q H' z s fun e => absurd e hz
  have lr : rs.length = d.rest.length := DpAll.len hrs
  have l4 : d.rest.length ≤ 2 := by cases d <;> simp [Deed.rest]
  refine ⟨_, rfl, a, _, rfl, .inr ha, rfl, _, rfl, ?_⟩
  rw [decF (fun z => by have := V.int.inj z; simp at this; omega)]
  refine iteF ⟨rfl, fun H1 p1 s1 hp1 => ?_⟩
  have ha1 := same_t s1 ha
  refine ⟨p1, rfl, .inl ⟨_, .inl hp1⟩, _, rfl, a, _, _, _, rfl, rfl, ha1, atI_nat (j := 0) rfl, _, .inl ⟨_, Sum.inr d.word, .inl hp1, rfl, rfl⟩, ?_⟩
  rw [size_val d, Option.getD_some]
  refine ⟨_, rfl, a, _, rfl, .inr ha1, rfl, _, rfl, ?_⟩
  rw [decT (show V.int ((d.rest.length + 2 : Nat) : Int) = V.int (((V.str d.word :: V.str d.name :: rs).length : Nat) : Int) by simp [lr]; omega)]
  refine iteF ?_
  have ho1 := s1 _ _ ho
  have hr1 := lbR.to s1 hr'
  have hd1 := dp hd s1
  refine ⟨_, rfl, a, _, _, _, rfl, rfl, ha1, atI_nat (j := 0) rfl, rfl, _, rfl, ?_⟩
  rcases Classical.em (∃ n b, d = .new n b) with ⟨n, b, rfl⟩ | nn
  · obtain ⟨x1, rfl, h1⟩ := nil1 hrs
    obtain rfl := dpi h1
    have ha1 : SqT K H1 a [.str "new", .str n, .int b] := ha1
    rw [show (Deed.new n b).word = "new" from rfl, seq']
    refine iteT ⟨_, rfl, _, rfl, a, _, _, _, rfl, rfl, ha1, atI_nat (j := 1) rfl, o, n, kvs, rfl, ho1, sh.1, fun H2 z s2 hz => ?_⟩
    have s12 := s1.trans s2
    have ha2 := same_t s2 ha1
    have ho2 := s2 _ _ ho1
    refine ⟨_, rfl, rfl, _, rfl, ?_⟩
    by_cases z0 : z = ""
    · subst z0
      obtain ⟨nk, nv⟩ := hz rfl
      have nn : n ∉ bk.map (·.1) := by
        intro z
        rcases lb_at (n := n) hr' with ⟨m, kn, tr, ts, t, g1, _⟩ | ⟨g1, g2⟩
        · rw [nv] at g1; cases g1
        · exact atA_none.mp g2 z
      rw [seq']
      refine iteT ⟨_, rfl, a, _, _, _, rfl, rfl, ha2, atI_nat (j := 2) rfl, _, _, rfl, rfl, _, rfl, ?_⟩
      have goBad : (∃ k, V.bl (decide (V.str ("badbeat" : Str) = V.str "")) = V.bl k ∧ True) := ⟨_, rfl, trivial⟩
      have bad2 : (tRet (tIf (tAnd (tTest (tOp rEq (tVar 2) (tC (.str "")))) (tTest (tOp (rI0 fun i j => V.bl (decide (j < i))) (tCB (fun xs H Q => ∃ a kvs, xs = [V.ref a] ∧ H a = some (.dK kvs) ∧ Q (.int kvs.length) H) (tCons (tVar 0) tNil)) (tC (.int 5))))) (tC (.str "full")) (tVar 2))) { nx := fun _ H' => Q .non H', rt := Q } [some (.ref o), some (.ref a), some (.str "badbeat"), none] H2 := by
        refine ⟨_, rfl, rfl, _, rfl, ?_⟩
        rw [sne (by decide +kernel)]
        exact iteF (iteF ⟨_, rfl, bad H2 _ s12 (by decide +kernel)⟩)
      by_cases c1 : 1 ≤ b
      · rw [decT c1]
        refine iteT ⟨_, _, rfl, rfl, _, rfl, ?_⟩
        by_cases c2 : b ≤ 960
        · rw [decT c2]
          refine iteF ⟨_, rfl, rfl, _, rfl, ?_⟩
          rw [seq']
          refine iteT ⟨_, rfl, o, kvs, rfl, ho2, _, _, rfl, rfl, _, rfl, ?_⟩
          by_cases c3 : (kvs.length : Int) > 5
          · rw [decT c3]; exact iteT (bad H2 _ s12 (by decide +kernel))
          · rw [decF c3]; exact iteF ⟨_, rfl, q H2 _ s12 fun _ => ⟨nk, nn, ⟨c1, c2⟩, by rw [← lb_len hr']; omega⟩⟩
        · rw [decF c2]; exact iteT bad2
      · rw [decF c1]; exact iteF ⟨_, rfl, iteT bad2⟩
    · rw [sne z0]
      refine iteF (iteF ⟨_, rfl, rfl, _, rfl, ?_⟩)
      rw [sne z0]
      exact iteF (iteF ⟨_, rfl, bad H2 _ s12 z0⟩)
  have wn : ¬ d.word = "new" := by
    cases d with
    | new n b => exact absurd ⟨n, b, rfl⟩ nn
    | _ => simp only [Deed.word]; decide +kernel
  rw [sne wn]
  refine iteF ⟨_, rfl, a, _, _, _, rfl, rfl, ha1, atI_nat (j := 1) rfl, _, rfl, o, _, rfl, .inl ⟨kvs, Sum.inr d.name, .inl ho1, rfl, rfl⟩, _, rfl, ?_⟩
  rcases lb_at (n := d.name) hr1 with ⟨m, kn, tr, ts, t, g1, g2, g3, g4, g5, g6⟩ | ⟨g1, g2⟩
  rotate_left
  · rw [g1]
    exact iteT (bad H1 _ s1 (by decide +kernel))
  rw [g1]
  have okt := ok.tp _ (atA_in g2)
  have lts : ts.length = t.tracks.length := by rw [DpAll.len g6, List.length_map]
  refine iteF ⟨_, rfl, _, rfl, a, _, _, _, rfl, rfl, ha1, atI_nat (j := 1) rfl, o, _, rfl, .inl ⟨kvs, Sum.inr d.name, .inl ho1, rfl, g1.symm⟩, ?_⟩
  refine ⟨_, rfl, a, _, _, _, rfl, rfl, ha1, atI_nat (j := 0) rfl, sz (by simp), fun pt npt => ⟨pt, _, rfl, .inr (SqT.of upd_same), rfl, rfl, _, rfl, ?_⟩⟩
  have s2 := Same.upd (o := .tup [.str "drop", .str "add"]) npt
  have s12 := s1.trans s2
  have ha2 := same_t s2 ha1
  have g3 := s2 _ _ g3
  have g4 := s2 _ _ g4
  have g5 := s2 _ _ g5
  have g6 := da g6 s2
  have hd2 := dp hd1 s2
  have hrs2 := da hrs s12
  generalize L2.upd H1 pt (.tup [.str "drop", .str "add"]) = H2 at *
  rcases Classical.em (isTr d = true) with htr | htr
  · have e1 : inV (V.str d.word) [.str "drop", .str "add"] = false := by
      cases d with
      | put n k e => exact (by decide +kernel : inV (V.str "put") [V.str "drop", .str "add"] = false)
      | take n k e => exact (by decide +kernel : inV (V.str "take") [V.str "drop", .str "add"] = false)
      | later n k e => exact (by decide +kernel : inV (V.str "later") [V.str "drop", .str "add"] = false)
      | part n k e => exact (by decide +kernel : inV (V.str "part") [V.str "drop", .str "add"] = false)
      | _ => cases htr
    have e2 : ¬ d.word = "pace" := by
      cases d with
      | put n k e => exact (by decide +kernel : ¬ ("put" : Str) = "pace")
      | take n k e => exact (by decide +kernel : ¬ ("take" : Str) = "pace")
      | later n k e => exact (by decide +kernel : ¬ ("later" : Str) = "pace")
      | part n k e => exact (by decide +kernel : ¬ ("part" : Str) = "pace")
      | _ => cases htr
    obtain ⟨k, y, e3⟩ : ∃ k y, d.rest = [.int k, y] := by
      cases d with
      | put n k e => exact ⟨_, _, rfl⟩
      | take n k e => exact ⟨_, _, rfl⟩
      | later n k e => exact ⟨_, _, rfl⟩
      | part n k e => exact ⟨_, _, rfl⟩
      | _ => cases htr
    rw [e3] at hrs2
    obtain ⟨x1, x2, rfl, h1, h2⟩ := nil2 hrs2
    obtain rfl := dpi h1
    rw [e1]
    refine iteF ⟨_, rfl, a, _, _, _, rfl, rfl, ha2, atI_nat (j := 0) rfl, rfl, _, rfl, ?_⟩
    rw [sne e2]
    refine iteF ⟨_, rfl, a, _, _, _, rfl, rfl, ha2, atI_nat (j := 2) rfl, _, _, rfl, rfl, _, rfl, ?_⟩
    by_cases c1 : 0 ≤ k
    · rw [decT c1]
      refine iteT ⟨_, rfl, m, _, _, _, rfl, rfl, SqL.of g3, atI_nat (j := 2) rfl, tr, ts, rfl, .inl (SqL.of g5), _, _, rfl, rfl, _, rfl, ?_⟩
      by_cases c2 : k < ts.length
      · rw [decT c2]
        refine iteF ?_
        obtain ⟨kn', rfl⟩ : ∃ kn' : Nat, k = kn' := ⟨k.toNat, by omega⟩
        have kl : kn' < ts.length := by omega
        obtain ⟨tt, htt, hdt⟩ := tk_at g6 (List.getElem?_eq_getElem kl)
        have egd : t.tracks.getD (kn' : Int).toNat [] = tt := by rw [Int.toNat_natCast, List.getD_eq_getElem?_getD, htt]; rfl
        refine ⟨_, rfl, _, rfl, m, _, _, _, rfl, rfl, SqL.of g3, atI_nat (j := 2) rfl, _, rfl, a, _, _, _, rfl, rfl, ha2, atI_nat (j := 2) rfl, tr, ts, _, _, rfl, rfl, SqL.of g5, atI_nat (List.getElem?_eq_getElem kl), _, rfl, ?_⟩
        obtain ⟨ta, tas, eta, _, _⟩ := Dp.lstI hdt
        rw [eta] at hdt ⊢
        refine ⟨m, ta, .ref a, _, _, tr, ts, tt, d, rfl, g3, g5, hdt, okt.trs tt (List.mem_of_getElem? htt), hd2, sh, htr, fun H3 z s3 hz => q H3 z (s12.trans s3) fun z0 => ?_⟩
        have g := hz z0
        rw [lts] at g
        refine good_tr g2 ⟨c1, by omega⟩ htr ⟨_, e3⟩ ?_
        rw [egd]
        exact g
      · rw [decF c2]; exact iteT (bad H2 _ s12 (by decide +kernel))
    · rw [decF c1]; exact iteF ⟨_, rfl, iteT (bad H2 _ s12 (by decide +kernel))⟩
  cases d with
  | new n b => exact absurd ⟨n, b, rfl⟩ nn
  | put n k e => exact absurd rfl htr
  | take n k e => exact absurd rfl htr
  | later n k e => exact absurd rfl htr
  | part n k e => exact absurd rfl htr
  | drop n =>
    have ha2 : SqT K H2 a (.str "drop" :: .str n :: rs) := ha2
    rw [show inV (V.str (Deed.drop n).word) [.str "drop", .str "add"] = true from (by decide +kernel : inV (V.str "drop") [V.str "drop", .str "add"] = true)]
    refine iteT ⟨_, rfl, a, _, _, _, rfl, rfl, ha2, atI_nat (j := 0) rfl, rfl, _, rfl, ?_⟩
    rw [sne (by decide +kernel)]
    exact iteF (iteF (q H2 _ s12 fun _ => ⟨t, g2, trivial⟩))
  | add n =>
    have ha2 : SqT K H2 a (.str "add" :: .str n :: rs) := ha2
    rw [show inV (V.str (Deed.add n).word) [.str "drop", .str "add"] = true from (by decide +kernel : inV (V.str "add") [V.str "drop", .str "add"] = true)]
    refine iteT ⟨_, rfl, a, _, _, _, rfl, rfl, ha2, atI_nat (j := 0) rfl, rfl, _, rfl, ?_⟩
    rw [seq']
    refine iteT ⟨_, rfl, m, _, _, _, rfl, rfl, SqL.of g3, atI_nat (j := 2) rfl, tr, ts, rfl, .inl (SqL.of g5), _, _, rfl, rfl, _, rfl, ?_⟩
    by_cases c3 : (ts.length : Int) > 5
    · rw [decT c3]; exact iteT (bad H2 _ s12 (by decide +kernel))
    · rw [decF c3]; exact iteF (q H2 _ s12 fun _ => ⟨t, g2, by show t.tracks.length ≤ 5; omega⟩)
  | pace n x p =>
    obtain ⟨x1, x2, rfl, h1, h2⟩ := nil2 hrs2
    obtain rfl := dpi h1
    obtain rfl := dpi h2
    have ha2 : SqT K H2 a [.str "pace", .str n, .int x, .int p] := ha2
    rw [show inV (V.str (Deed.pace n x p).word) [.str "drop", .str "add"] = false from (by decide +kernel : inV (V.str "pace") [V.str "drop", .str "add"] = false)]
    refine iteF ⟨_, rfl, a, _, _, _, rfl, rfl, ha2, atI_nat (j := 0) rfl, rfl, _, rfl, ?_⟩
    rw [seq']
    refine iteT ⟨_, rfl, a, _, _, _, rfl, rfl, ha2, atI_nat (j := 2) rfl, _, _, rfl, rfl, _, rfl, ?_⟩
    rcases (Classical.em (0 ≤ x)).symm with c1 | c1
    · rw [decF c1]; exact iteF ⟨_, rfl, iteT (bad H2 _ s12 (by decide +kernel))⟩
    rw [decT c1]
    refine iteT ⟨_, _, rfl, rfl, _, rfl, ?_⟩
    rcases (Classical.em (x ≤ 999999)).symm with c2 | c2
    · rw [decF c2]; exact iteT (bad H2 _ s12 (by decide +kernel))
    rw [decT c2]
    refine iteF ⟨_, rfl, a, _, _, _, rfl, rfl, ha2, atI_nat (j := 3) rfl, _, _, rfl, rfl, _, rfl, ?_⟩
    rcases (Classical.em (1 ≤ p)).symm with c3 | c3
    · rw [decF c3]; exact iteF ⟨_, rfl, iteT (bad H2 _ s12 (by decide +kernel))⟩
    rw [decT c3]
    refine iteT ⟨_, _, rfl, rfl, _, rfl, ?_⟩
    rcases (Classical.em (p ≤ 16777215)).symm with c4 | c4
    · rw [decF c4]; exact iteT (bad H2 _ s12 (by decide +kernel))
    rw [decT c4]
    refine iteF ⟨_, rfl, a, _, _, _, rfl, rfl, ha2, atI_nat (j := 2) rfl, _, rfl, m, _, _, _, rfl, rfl, SqL.of g3, atI_nat (j := 1) rfl, kn, _, rfl, .inl ⟨_, Sum.inl x, .inl g4, rfl, rfl⟩, _, rfl, ?_⟩
    rw [val_kvI]
    rcases Classical.em (x ∈ t.paces.map (·.1)) with c | c
    · cases e : atA t.paces x with
      | none => exact absurd c (atA_none.mp e)
      | some z => exact iteF (iteF (q H2 _ s12 fun _ => ⟨t, g2, ⟨c1, c2⟩, ⟨c3, c4⟩, .inl c⟩))
    · rw [atA_none.mpr c]
      refine iteT ⟨_, rfl, m, _, _, _, rfl, rfl, SqL.of g3, atI_nat (j := 1) rfl, kn, _, rfl, g4, _, _, rfl, rfl, _, rfl, ?_⟩
      rw [List.length_map]
      by_cases c5 : (t.paces.length : Int) > 19
      · rw [decT c5]; exact iteT (bad H2 _ s12 (by decide +kernel))
      · rw [decF c5]; exact iteF (q H2 _ s12 fun _ => ⟨t, g2, ⟨c1, c2⟩, ⟨c3, c4⟩, .inr (by omega)⟩)
end
end K59
set_option maxHeartbeats 4000000
namespace K59
open PySem PySem.Spec PyProof.Rows L2
def laneE : Ev → Int
  | _ :: .str w :: .int k :: _ => if w = "mark" then -1 else k
  | _ => -1
theorem lane_of {e : Ev} (g : GoodEv e) {c : Int} (hc : 0 ≤ c ∧ c ≤ 15) : decide (laneE e = c) = isOf c e := by
  cases g with
  | mark t z h1 h2 h3 => rw [decF (by show ¬ (-1 : Int) = c; omega)]; rfl
  | voice t c2 a h1 h2 h3 =>
    show decide ((if ("voice" : Str) = "mark" then (-1 : Int) else c2) = c) = (!decide (("voice" : Str) = "mark") && decide (c2 = c))
    rw [if_neg (by decide +kernel), decF (show ¬ ("voice" : Str) = "mark" by decide +kernel)]; rfl
  | three w t c2 a b h0 h1 h2 h3 h4 h5 =>
    have nm : ¬ w = "mark" := by rcases h0 with rfl | rfl | rfl <;> decide +kernel
    show decide ((if w = "mark" then (-1 : Int) else c2) = c) = (!decide (w = "mark") && decide (c2 = c))
    rw [if_neg nm, decF nm]; rfl
section
variable {P : Program} {w : World} {K : PySem.W.Frag} {mg : Str → Option Value} {base : Heap}
def spLPutIn (K : PySem.W.Frag) : Sp := fun vs H Q _ => ∃ (S : List Addr) (v : V) (e : Addr) (t : Tr) (ev : Ev), vs = [v, .ref e] ∧ In S H ∧ Dp K (wo S H) v (trP t) ∧ TrOk t ∧ SqT K (wo S H) e (ev.map scV) ∧ GoodEv ev ∧ t.length ≤ 199 ∧
  ∀ H' p, Same H H' → Dp K (wo S H') p (trP (putIn t ev)) → Q p H'
abbrev s_law_put_in : Stmt := top 122
abbrev N_law_put_in : List Str := ["_law_track", "_law_event", "_law_at", "_law_one_here"]
theorem sc_law_put_in : FnScope N_law_put_in ["_law_track", "_law_event"] (C8.fnScope s_law_put_in) := C8.fnScope_by (by decide +kernel)
theorem c_law_put_in (T : Fx w K mg) : C8.Cal P w K mg base 1 "_law_put_in" (spLPutIn K) [] := by
  refine cal_ T.d_law_put_in (fun _ _ _ _ _ _ us hl => match us, hl with | [_, _], _ => rfl) sc_law_put_in (fun vs H Q E h => by obtain ⟨S, v, e, t, ev, rfl, _⟩ := h; rfl) (fun f cdv A outer s H vs Q E hr h => ?_)
  have nd := sc_law_put_in.nd
  have hu := hu_of hr
  have hu64 := hu64 hr
  refine ⟨_, (pss_cons (ps_set (i := 2) nd rfl (by first | exact Or.inl rfl | exact Or.inr rfl) (pe_callB (r := rLenSq K) call_len_seq (by rfl) T.f_len PySem.boot_len
      (pa_cons (pe_lc (own := [("_law_one_here", 3)]) (g := gName 3) rfl nd (pi_list (pv 0)) (blkOk_by (own := [("_law_one_here", 3)]) (N := N_law_put_in)
      (sc := C8.fnScope s_law_put_in) (by decide +kernel)) (fun _ _ _ _ _ => (pg_name (i := 3) nd rfl (by first | exact Or.inl rfl | exact Or.inr rfl)))
      (fun _ _ _ _ _ => (pts_one (pt_cmpR op_le (pe_ix (r := rIxT K) ix_tup (pv 3) pe_int (fun _ _ => rfl)) (pe_ix (r := rIxT K) ix_tup (pv 1) pe_int
      (fun _ _ => rfl)) (nomark _)))) (fun _ _ _ _ _ => (pv 3))) pa_nil))) (pss_one (ps_ret (pe_op op_cat (pe_op op_cat (pe_slice (r := rSlL K) sl_list
      (pv 0) po_none (po_some (pv 2))) (pe_lst (pa_cons (pv 1) pa_nil))) (pe_slice (r := rSlL K) sl_list (pv 0) (po_some (pv 2)) po_none))))), ?_⟩

  obtain ⟨S, v, e, t, ev, rfl, hS, d, ok, he, g, few, q⟩ := h
  obtain ⟨a, xs, rfl, ha, hx⟩ := Dp.lstI d
  have ln := tr_len hx
  have s1 : Same H H := same_rfl
  have hx1 := hx
  have ha1 := same_l wo_sub ha
  have hS1 := hS
  obtain ⟨w0, r0, e0, hr0, k0, k1, k5⟩ := g.tk
  have he1 := same_t s1 (same_t wo_sub he)
  rw [sc_head e0] at he1
  refine ⟨_, rfl, a, rfl, ⟨xs, ha1⟩, fun D hD => ?_⟩
  refine lc_it walk_list (Gro K S H D fun i => ((t.take i).filter fun o => decide (tick o ≤ tick ev)).map evP) (Gro.start hS1 hD (by simp)) (fun _ _ _ hh => same_l hh.same ha1) ?_ ?_
  · rintro i x H2 H3 hi ac ⟨rfl, hy⟩
    obtain ⟨e2, ev2, w2, r2, rfl, ht, g2, hd2, hs2, e02, hr2, k02, k12, k52⟩ := ev_in ok.good hx1 hy
    rw [sc_head e02] at hs2
    have hs2' := same_t ac.same (same_t wo_sub hs2)
    refine ⟨rfl, _, rfl, e2, _, _, _, rfl, rfl, hs2', atI_nat (j := 0) rfl, _, rfl, e, _, _, _, rfl, rfl, same_t ac.same he1, atI_nat (j := 0) rfl, _, _, rfl, rfl, _, rfl, ?_⟩
    by_cases c : tick ev2 ≤ tick ev
    · rw [decT c]
      refine iteT ⟨_, rfl, ac.more same_rfl (dp hd2 ac.old) ?_ (by omega)⟩
      simp only [filt_yes ht (p := fun o => decide (tick o ≤ tick ev)) (decT c), List.map_append, List.map_cons, List.map_nil]
    · rw [decF c]
      refine iteF (ac.skip same_rfl ?_)
      simp only [filt_no ht (p := fun o => decide (tick o ≤ tick ev)) (decF c)]
  · intro H2 ac
    have z := ac.stop
    simp only [take_full (show t.length = xs.length from ln.symm)] at z
    obtain ⟨D', zs, ez, hzs, hz⟩ := Dp.lstI z
    cases ez
    have hl : zs.length = plc t (tick ev) := by rw [DpAll.len hz, List.length_map]; rfl
    have s2 := ac.same
    have hx2 := da hx1 (Same.wo s2)
    have ha2 := same_l s2 ha1
    have hS2 := In.same hS1 s2
    refine ⟨D, zs, rfl, .inl (same_l wo_sub hzs), ?_⟩
    rw [hl]
    refine ⟨_, rfl, _, rfl, _, rfl, a, xs, rfl, ha2, fun p hp => ?_⟩
    rw [cut_upto]
    have s3 := Same.upd (o := .lst (xs.take (plc t (tick ev)))) hp
    refine ⟨_, rfl, by rw [sizeLine_eq]; simp, fun p2 hp2 => ?_⟩
    have s4 := Same.upd (o := .lst [.ref e]) hp2
    have lx : xs.length ≤ 199 := by omega
    refine ⟨p, p2, _, _, rfl, rfl, s4 _ _ upd_same, upd_same, sz (by simp; omega), fun p3 hp3 => ?_⟩
    have s5 := Same.upd (o := .lst (xs.take (plc t (tick ev)) ++ [V.ref e])) hp3
    refine ⟨_, rfl, _, rfl, _, rfl, a, xs, rfl, same_l (s3.trans (s4.trans s5)) ha2, fun p4 hp4 => ?_⟩
    rw [cut_from]
    have s6 := Same.upd (o := .lst (xs.drop (plc t (tick ev)))) hp4
    refine ⟨p3, p4, _, _, rfl, rfl, s6 _ _ upd_same, upd_same, sz (by simp; omega), fun p5 hp5 => ?_⟩
    have s7 := s3.trans (s4.trans (s5.trans s6))
    refine q _ _ (s1.trans (s2.trans (s7.trans (Same.upd hp5)))) (lst_dp (In.same hS2 s7) hp5 ?_)
    have ed : Dp K (wo S H) (.ref e) (evP ev) := ev_dp he g.flat
    have big := (s1.trans (s2.trans s7))
    unfold putIn
    rw [List.map_append, List.map_append, List.map_take, List.map_drop]
    have hx3 := da hx (Same.wo big)
    exact DpAll.app (DpAll.app (DpAll.take _ hx3) (.cons (dp ed (Same.wo big)) .nil)) (DpAll.drop _ hx3)
def spLane (K : PySem.W.Frag) : Sp := fun vs H Q _ => ∃ (e : Addr) (ev : Ev), vs = [.ref e] ∧ SqT K H e (ev.map scV) ∧ GoodEv ev ∧ Q (.int (laneE ev)) H
abbrev s_law_lane : Stmt := top 123
abbrev N_law_lane : List Str := ["_law_event"]
theorem sc_law_lane : FnScope N_law_lane ["_law_event"] (C8.fnScope s_law_lane) := C8.fnScope_by (by decide +kernel)
theorem c_law_lane (T : Fx w K mg) : C8.Cal P w K mg base 1 "_law_lane" (spLane K) [] := by
  refine cal_ T.d_law_lane (fun _ _ _ _ _ _ us hl => match us, hl with | [_], _ => rfl) sc_law_lane (fun vs H Q E h => by obtain ⟨e, ev, rfl, _⟩ := h; rfl) (fun f cdv A outer s H vs Q E hr h => ?_)
  have nd := sc_law_lane.nd
  have hu := hu_of hr
  have hu64 := hu64 hr
  refine ⟨_, (pss_one (ps_ret (pe_ifExp (pt_cmpR op_eq (pe_ix (r := rIxT K) ix_tup (pv 0) pe_int (fun _ _ => rfl)) pe_str (nomark _)) (pe_op op_sub pe_int pe_int)
      (pe_ix (r := rIxT K) ix_tup (pv 0) pe_int (fun _ _ => rfl))))), ?_⟩

  obtain ⟨e, ev, rfl, he, g, q⟩ := h
  cases g with
  | mark t z h1 h2 h3 =>
    have he : SqT K H e [.int t, .str "mark", .str z] := he
    refine ⟨_, rfl, e, _, _, _, rfl, rfl, he, atI_nat (j := 1) rfl, rfl, _, rfl, ?_⟩
    rw [seq']
    exact iteT ⟨_, _, rfl, rfl, q⟩
  | voice t c2 a h1 h2 h3 =>
    have he : SqT K H e [.int t, .str "voice", .int c2, .int a] := he
    refine ⟨_, rfl, e, _, _, _, rfl, rfl, he, atI_nat (j := 1) rfl, rfl, _, rfl, ?_⟩
    rw [sne (by decide +kernel)]
    have e1 : laneE [.int t, .str "voice", .int c2, .int a] = c2 := by
      show (if ("voice" : Str) = "mark" then (-1 : Int) else c2) = c2
      exact if_neg (by decide +kernel)
    rw [e1] at q
    exact iteF ⟨_, rfl, e, _, _, _, rfl, rfl, he, atI_nat (j := 2) rfl, q⟩
  | three w0 t c2 a b h0 h1 h2 h3 h4 h5 =>
    have nm : ¬ w0 = "mark" := by rcases h0 with rfl | rfl | rfl <;> decide +kernel
    have he : SqT K H e [.int t, .str w0, .int c2, .int a, .int b] := he
    refine ⟨_, rfl, e, _, _, _, rfl, rfl, he, atI_nat (j := 1) rfl, rfl, _, rfl, ?_⟩
    rw [sne nm]
    have e1 : laneE [.int t, .str w0, .int c2, .int a, .int b] = c2 := if_neg nm
    rw [e1] at q
    exact iteF ⟨_, rfl, e, _, _, _, rfl, rfl, he, atI_nat (j := 2) rfl, q⟩
end
end K59
set_option maxHeartbeats 4000000
namespace K59
open PySem PySem.Spec PyProof.Rows L2
section
variable {P : Program} {w : World} {K : PySem.W.Frag} {mg : Str → Option Value} {base : Heap}
def spSlimDone (K : PySem.W.Frag) : Sp := fun vs H Q _ => ∃ (S : List Addr) (o : Addr) (v : V) (bk : Bk) (E : List W3) (d : Deed), vs = [.ref o, v] ∧ In S H ∧ LOwn K S H o bk E ∧ BkOk bk ∧ Good bk d ∧ Dp K (wo (plAll o E ++ S) H) v d.P ∧
  ∀ H' E', Kp (plAll o E) H H' → (∀ a ∈ plAll o E', a ∈ plAll o E ∨ H a = none) → LOwn K S H' o (done bk d) E' → Q .non H'
abbrev s_law_slim_done : Stmt := top 124
abbrev N_law_slim_done : List Str := ["_law_book", "_law_deed", "_law_word_here", "_law_m", "_law_track", "_law_event"]
theorem sc_law_slim_done : FnScope N_law_slim_done ["_law_book", "_law_deed"] (C8.fnScope s_law_slim_done) := C8.fnScope_by (by decide +kernel)
theorem c_law_slim_done (T : Fx w K mg) : C8.Cal P w K mg base 2 "_law_slim_done" (spSlimDone K) [] := by
  refine cal_ T.d_law_slim_done (fun _ _ _ _ _ _ us hl => match us, hl with | [_, _], _ => rfl) sc_law_slim_done (fun vs H Q E h => by obtain ⟨S, o, v, bk, E, d, rfl, _⟩ := h; rfl) (fun f cdv A outer s H vs Q E hr h => ?_)
  have nd := sc_law_slim_done.nd
  have hu := hu_of hr
  have hu64 := hu64 hr
  refine ⟨_, (pss_cons (ps_set (i := 2) nd rfl (by first | exact Or.inl rfl | exact Or.inr rfl) (pe_ix (r := rIxT K) ix_tup (pv 1) pe_int (fun _ _ => rfl)))
      (pss_cons (ps_if (pt_cmpR op_eq (pv 2) pe_str (nomark _)) (pss_cons (ps_dput hu (pv 0) (pe_ix (r := rIxT K) ix_tup (pv 1) pe_int (fun _ _ => rfl))
      (pe_lst (pa_cons (pe_ix (r := rIxT K) ix_tup (pv 1) pe_int (fun _ _ => rfl)) (pa_cons pe_dnewK (pa_cons (pe_lst (pa_cons (pe_lst pa_nil) pa_nil)) pa_nil)))) rfl)
      (pss_one ps_retN)) pss_nil) (pss_cons (ps_if (pt_cmpR op_eq (pv 2) pe_str (nomark _)) (pss_cons (ps_expr (pe_dpop1 (pv 0) (pe_ix (r := rIxT K) ix_tup
      (pv 1) pe_int (fun _ _ => rfl)) ⟨rfl, rfl, rfl, rfl⟩)) (pss_one ps_retN)) pss_nil) (pss_cons (ps_set (i := 3) nd rfl (by first | exact Or.inl rfl | exact Or.inr rfl)
      (pe_dget hu (pv 0) (pe_ix (r := rIxT K) ix_tup (pv 1) pe_int (fun _ _ => rfl)) (fun _ _ => rfl))) (pss_cons (ps_if (pt_cmpR op_eq (pv 2) pe_str
      (nomark _)) (pss_cons (ps_expr (pe_bm PySem.F.plainAttrs_list PySem.F.slot_list_append PySem.F.type_list_append mt_append (pe_ix (r := rIxL K) ix_list
      (pv 3) pe_int (fun _ _ => rfl)) (pa_cons (pe_lst pa_nil) pa_nil))) (pss_one ps_retN)) pss_nil) (pss_cons (ps_if (pt_cmpR op_eq (pv 2) pe_str
      (nomark _)) (pss_cons (ps_dput hu (pe_ix (r := rIxL K) ix_list (pv 3) pe_int (fun _ _ => rfl)) (pe_ix (r := rIxT K) ix_tup (pv 1) pe_int (fun _ _ => rfl))
      (pe_ix (r := rIxT K) ix_tup (pv 1) pe_int (fun _ _ => rfl)) rfl) (pss_one ps_retN)) pss_nil) (pss_cons (ps_set (i := 4) nd rfl (by first | exact Or.inl rfl | exact Or.inr rfl)
      (pe_ix (r := rIxL K) ix_list (pe_ix (r := rIxL K) ix_list (pv 3) pe_int (fun _ _ => rfl)) (pe_ix (r := rIxT K) ix_tup (pv 1) pe_int (fun _ _ => rfl))
      (fun _ _ => rfl))) (pss_cons (ps_if (pt_cmpR op_eq (pv 2) pe_str (nomark _)) (pss_one (ps_asg (C8.pe_c (c_law_put_in T) hr (by decide) rfl
      (pa_cons (pv 4) (pa_cons (pe_ix (r := rIxT K) ix_tup (pv 1) pe_int (fun _ _ => rfl)) pa_nil))) (pg_sub (pe_ix (r := rIxL K) ix_list (pv 3) pe_int
      (fun _ _ => rfl)) (pe_ix (r := rIxT K) ix_tup (pv 1) pe_int (fun _ _ => rfl)) set_list))) pss_nil) (pss_cons (ps_if (pt_cmpR op_eq (pv 2) pe_str
      (nomark _)) (pss_one (ps_asg (pe_op op_cat (pe_slice (r := rSlL K) sl_list (pv 4) po_none (po_some (pe_ix (r := rIxT K) ix_tup (pv 1) pe_int (fun _ _ => rfl))))
      (pe_slice (r := rSlL K) sl_list (pv 4) (po_some (pe_op op_add (pe_ix (r := rIxT K) ix_tup (pv 1) pe_int (fun _ _ => rfl)) pe_int)) po_none))
      (pg_sub (pe_ix (r := rIxL K) ix_list (pv 3) pe_int (fun _ _ => rfl)) (pe_ix (r := rIxT K) ix_tup (pv 1) pe_int (fun _ _ => rfl)) set_list))) pss_nil)
      (pss_cons (ps_if (pt_cmpR op_eq (pv 2) pe_str (nomark _)) (pss_one (ps_asg (pe_lc (own := [("_law_event", 5)]) (g := gName 5) (tt := tYes) rfl nd
      (pi_list (pv 4)) (blkOk_by (own := [("_law_event", 5)]) (N := N_law_slim_done) (sc := C8.fnScope s_law_slim_done) (by decide +kernel)) (fun _ _ _ _ _ =>
      (pg_name (i := 5) nd rfl (by first | exact Or.inl rfl | exact Or.inr rfl))) (fun _ _ _ _ _ => pts_nil) (fun _ _ _ _ _ => (pe_op (r := rCatT K) op_catT
      (pe_tup (pa_cons (pe_op op_add (pe_ix (r := rIxT K) ix_tup (pv 5) pe_int (fun _ _ => rfl)) (pe_ix (r := rIxT K) ix_tup (pv 1) pe_int (fun _ _ => rfl))) pa_nil))
      (pe_slice (r := rSlT K) sl_tup (pv 5) (po_some pe_int) po_none)))) (pg_sub (pe_ix (r := rIxL K) ix_list (pv 3) pe_int (fun _ _ => rfl)) (pe_ix (r := rIxT K) ix_tup
      (pv 1) pe_int (fun _ _ => rfl)) set_list))) pss_nil) (pss_one (ps_if (pt_cmpR op_eq (pv 2) pe_str (nomark _)) (pss_cons (ps_expr (pe_bm PySem.F.plainAttrs_list PySem.F.slot_list_append PySem.F.type_list_append mt_append
      (pe_ix (r := rIxL K) ix_list (pv 3) pe_int (fun _ _ => rfl)) (pa_cons (pe_lc (own := [("_law_event", 5)]) (g := gName 5) rfl nd (pi_list (pv 4))
      (blkOk_by (own := [("_law_event", 5)]) (N := N_law_slim_done) (sc := C8.fnScope s_law_slim_done) (by decide +kernel)) (fun _ _ _ _ _ => (pg_name
      (i := 5) nd rfl (by first | exact Or.inl rfl | exact Or.inr rfl))) (fun _ _ _ _ _ => (pts_one (pt_cmpR op_eq (C8.pe_c (c_law_lane T) hr (by decide) rfl
      (pa_cons (pv 5) pa_nil)) (pe_ix (r := rIxT K) ix_tup (pv 1) pe_int (fun _ _ => rfl)) (nomark _)))) (fun _ _ _ _ _ => (pv 5))) pa_nil))) (pss_one
      (ps_asg (pe_lc (own := [("_law_event", 5)]) (g := gName 5) rfl nd (pi_list (pv 4)) (blkOk_by (own := [("_law_event", 5)]) (N := N_law_slim_done)
      (sc := C8.fnScope s_law_slim_done) (by decide +kernel)) (fun _ _ _ _ _ => (pg_name (i := 5) nd rfl (by first | exact Or.inl rfl | exact Or.inr rfl)))
      (fun _ _ _ _ _ => (pts_one (pt_cmpR op_ne (C8.pe_c (c_law_lane T) hr (by decide) rfl (pa_cons (pv 5) pa_nil)) (pe_ix (r := rIxT K) ix_tup (pv 1) pe_int
      (fun _ _ => rfl)) (nomark _)))) (fun _ _ _ _ _ => (pv 5))) (pg_sub (pe_ix (r := rIxL K) ix_list (pv 3) pe_int (fun _ _ => rfl)) (pe_ix (r := rIxT K) ix_tup
      (pv 1) pe_int (fun _ _ => rfl)) set_list)))) pss_nil)))))))))))), ?_⟩

  obtain ⟨S, o, v, bk, E, d, rfl, hS, lo, ok, g, hd, q⟩ := h
  obtain ⟨a, rs, rfl, ha0, hrs⟩ := K59.Dp.P hd
  have ha := same_t wo_sub ha0
  have hS' := lo.ins hS
  have oin : o ∈ plAll o E := List.mem_cons_self
  have lk := lo.lk
  have few := ok.few
  refine ⟨_, rfl, a, _, _, _, rfl, rfl, ha, atI_nat (j := 0) rfl, ?_⟩
  refine ⟨_, rfl, rfl, _, rfl, ?_⟩
  rcases Classical.em (∃ n x, d = .new n x) with ⟨n, x, rfl⟩ | nn
  · obtain ⟨x1, rfl, h1⟩ := nil1 hrs
    obtain rfl := dpi h1
    have ha : SqT K H a [.str "new", .str n, .int x] := ha
    rw [show (Deed.new n x).word = "new" from rfl, seq']
    refine iteT ⟨_, rfl, a, _, _, _, rfl, rfl, ha, atI_nat (j := 2) rfl, ?_⟩
    intro kn nkn
    have s1 := Same.upd (o := .dK []) nkn
    refine ⟨sz (by simp), fun l0 nl0 => ⟨sz (by simp), fun tr ntr => ⟨sz (by simp), fun m nm => ?_⟩⟩⟩
    have s2 := Same.upd (o := .lst []) nl0
    have s3 := Same.upd (o := .lst [.ref l0]) ntr
    have s4 := Same.upd (o := .lst [.int x, .ref kn, .ref tr]) nm
    have sa := s1.trans (s2.trans (s3.trans s4))
    have ho4 := sa _ _ lo.at_
    refine ⟨_, rfl, _, rfl, a, _, _, _, rfl, rfl, same_t sa ha, atI_nat (j := 1) rfl, o, _, rfl, .inl ⟨_, Sum.inr n, ho4, rfl, szl (by omega), rfl⟩, ?_⟩
    have ol0 : l0 ≠ kn := fun z => by rw [z, upd_same] at nl0; cases nl0
    have otr : tr ≠ l0 := fun z => by rw [z, upd_same] at ntr; cases ntr
    have otk : tr ≠ kn := fun z => by rw [z, upd_ne (Ne.symm ol0), upd_same] at ntr; cases ntr
    have omt : m ≠ tr := fun z => by rw [z, upd_same] at nm; cases nm
    have oml : m ≠ l0 := fun z => by rw [z, upd_ne (Ne.symm otr), upd_same] at nm; cases nm
    have omk : m ≠ kn := fun z => by rw [z, upd_ne (Ne.symm otk), upd_ne (Ne.symm ol0), upd_same] at nm; cases nm
    have fl0 := wasNone s1 nl0
    have ftr := wasNone (s1.trans s2) ntr
    have fm := wasNone (s1.trans (s2.trans s3)) nm
    have no : ∀ b, H b = none → b ≠ o := fun b hb z => by rw [z, lo.at_] at hb; cases hb
    obtain ⟨L1, L2'⟩ := lo.new hS (x := x) (m := m) (kn := kn) (tr := tr) (l0 := l0) (n := n) g.2.1 ((Kp.of sa).trans (Kp.upd (o := .dK (putK (lwK E bk) (Sum.inr n) (.ref m))) (by simp))) fm nkn ftr fl0 omk omt (Ne.symm otk) (Ne.symm oml) ol0 (Ne.symm otr)
      (by rw [upd_ne (no m fm), upd_same]) (by rw [upd_ne (no kn nkn), upd_ne (Ne.symm omk), upd_ne (Ne.symm otk), upd_ne (Ne.symm ol0), upd_same]) (by rw [upd_ne (no tr ftr), upd_ne (Ne.symm omt), upd_same]) (by rw [upd_ne (no l0 fl0), upd_ne (Ne.symm oml), upd_ne (Ne.symm otr), upd_same]) upd_same
    exact q _ _ ((Kp.of sa).trans (Kp.upd oin)) L2' L1
  have wn : ¬ d.word = "new" := by
    cases d with
    | new n b => exact absurd ⟨n, b, rfl⟩ nn
    | _ => simp only [Deed.word]; decide +kernel
  rw [sne wn]
  refine iteF ⟨_, rfl, rfl, _, rfl, ?_⟩
  have at_ : ∃ t, atA bk d.name = some t := by
    cases d with
    | new n b => exact absurd ⟨n, b, rfl⟩ nn
    | _ => obtain ⟨t, h, _⟩ := g; exact ⟨t, h⟩
  obtain ⟨t0, ht0⟩ := at_
  obtain ⟨i, w3, t, e1, e2, e3, e4⟩ : ∃ (i : Nat) (w : W3) (t : Tp), E[i]? = some w ∧ bk[i]? = some (d.name, t) ∧ valV (lwK E bk) (Sum.inr d.name) = some (.ref w.1) ∧ atA bk d.name = some t := by
    rcases lw_val (n := d.name) lo.len with h | ⟨_, h⟩
    · exact h
    · rw [ht0] at h; cases h
  rcases Classical.em (∃ n, d = .drop n) with ⟨n, rfl⟩ | nd'
  · have ha : SqT K H a (.str "drop" :: .str n :: rs) := ha
    rw [show (Deed.drop n).word = "drop" from rfl, seq']
    refine iteT ⟨_, rfl, o, rfl, .inl ⟨_, .inl lo.at_⟩, _, rfl, a, _, _, _, rfl, rfl, ha, atI_nat (j := 1) rfl, _, Sum.inr n, _, lo.at_, rfl, e3, ?_⟩
    obtain ⟨E', L1, L2'⟩ := lo.drop (n := n) (Kp.upd (o := .dK (dropK (lwK E bk) (Sum.inr n))) (by simp)) upd_same
    exact q _ E' (Kp.upd oin) L2' L1
  have wd : ¬ d.word = "drop" := by
    cases d with
    | new n b => exact absurd ⟨n, b, rfl⟩ nn
    | drop n => exact absurd ⟨n, rfl⟩ nd'
    | _ => simp only [Deed.word]; decide +kernel
  rw [sne wd]
  refine iteF ⟨_, rfl, _, rfl, a, _, _, _, rfl, rfl, ha, atI_nat (j := 1) rfl, o, _, rfl, .inl ⟨_, Sum.inr d.name, .inl lo.at_, rfl, e3.symm⟩, ?_⟩
  obtain ⟨r1, r2, ts, r3, r4⟩ := lo.entry e1 e2
  have lts : ts.length = t.tracks.length := by rw [DpAll.len r4, List.length_map]
  have okt := ok.tp _ (List.mem_of_getElem? e2)
  have fewT : t.tracks.length ≤ 6 := okt.few
  have fewP : t.paces.length ≤ 20 := okt.fewP
  have trin : w3.2.2 ∈ plAll o E := pl3_in o e1 (by simp [pl3])
  have knin : w3.2.1 ∈ plAll o E := pl3_in o e1 (by simp [pl3])
  obtain ⟨n1, n2, n3⟩ := lo.ne e1
  refine ⟨_, rfl, rfl, _, rfl, ?_⟩
  rcases Classical.em (∃ n, d = .add n) with ⟨n, rfl⟩ | na
  · have ha : SqT K H a (.str "add" :: .str n :: rs) := ha
    rw [show (Deed.add n).word = "add" from rfl, seq']
    refine iteT ⟨_, rfl, w3.1, _, _, _, rfl, rfl, SqL.of r1, atI_nat (j := 2) rfl, .inl ⟨rfl, _, SqL.of r3⟩, sz (by simp), fun l0 nl0 => ?_⟩
    have s1 := Same.upd (o := .lst []) nl0
    refine ⟨w3.2.2, ts, _, rfl, rfl, s1 _ _ r3, szl (by omega), ?_⟩
    have L0 := lo.to s1
    have r4' := da r4 (Same.wo s1)
    have L1 := L0.tr ok e1 e2 (ts' := ts ++ [.ref l0]) (tk' := t.tracks ++ [[]]) (f := fun t => onTp t (.add n)) (by rw [List.map_append]; exact DpAll.app r4' (.cons (lst_dp hS' nl0 .nil) .nil)) rfl
    exact q _ E ((Kp.of s1).trans (Kp.upd trin)) (fun a ha => .inl ha) L1
  have wa : ¬ d.word = "add" := by
    cases d with
    | new n b => exact absurd ⟨n, b, rfl⟩ nn
    | add n => exact absurd ⟨n, rfl⟩ na
    | _ => simp only [Deed.word]; decide +kernel
  rw [sne wa]
  refine iteF ⟨_, rfl, rfl, _, rfl, ?_⟩
  rcases Classical.em (∃ n x p, d = .pace n x p) with ⟨n, x, p, rfl⟩ | np
  · obtain ⟨x1, x2, rfl, h1, h2⟩ := nil2 hrs
    obtain rfl := dpi h1
    obtain rfl := dpi h2
    have ha : SqT K H a [.str "pace", .str n, .int x, .int p] := ha
    rw [show (Deed.pace n x p).word = "pace" from rfl, seq']
    refine iteT ⟨_, rfl, a, _, _, _, rfl, rfl, ha, atI_nat (j := 3) rfl, _, rfl, w3.1, _, _, _, rfl, rfl, SqL.of r1, atI_nat (j := 1) rfl, _, rfl, a, _, _, _, rfl, rfl, ha, atI_nat (j := 2) rfl, w3.2.1, _, rfl, .inl ⟨_, Sum.inl x, r2, rfl, szl (by simp; omega), rfl⟩, ?_⟩
    rw [put_kvI]
    have L1 := lo.kn ok e1 e2 (ps := putA t.paces x p) (f := fun t => onTp t (.pace n x p)) rfl
    exact q _ E (Kp.upd knin) (fun a ha => .inl ha) L1
  have wp : ¬ d.word = "pace" := by
    cases d with
    | new n b => exact absurd ⟨n, b, rfl⟩ nn
    | pace n x p => exact absurd ⟨n, x, p, rfl⟩ np
    | _ => simp only [Deed.word]; decide +kernel
  rw [sne wp]
  refine iteF ?_
  have gt : ∃ t, atA bk d.name = some t ∧ GoodT t d := by
    cases d with
    | new n b => exact absurd ⟨n, b, rfl⟩ nn
    | _ => exact g
  obtain ⟨t1, f1, f2⟩ := gt
  rw [e4] at f1
  cases f1
  obtain ⟨k, y, e5⟩ : ∃ k y, d.rest = [.int k, y] := by
    cases d with
    | put n k e => exact ⟨_, _, rfl⟩
    | take n k e => exact ⟨_, _, rfl⟩
    | later n k e => exact ⟨_, _, rfl⟩
    | part n k e => exact ⟨_, _, rfl⟩
    | new n b => exact absurd ⟨n, b, rfl⟩ nn
    | drop n => exact absurd ⟨n, rfl⟩ nd'
    | add n => exact absurd ⟨n, rfl⟩ na
    | pace n x p => exact absurd ⟨n, x, p, rfl⟩ np
  rw [e5] at hrs
  obtain ⟨x1, x2, rfl, h1, h2⟩ := nil2 hrs
  obtain rfl := dpi h1
  have hk : 0 ≤ k ∧ k < t.tracks.length := by
    cases d with
    | put n k e => cases e5; exact f2.1
    | take n k e => cases e5; exact f2.1
    | later n k e => cases e5; exact f2.1
    | part n k e => cases e5; exact f2.1
    | new n b => exact absurd ⟨n, b, rfl⟩ nn
    | drop n => exact absurd ⟨n, rfl⟩ nd'
    | add n => exact absurd ⟨n, rfl⟩ na
    | pace n x p => exact absurd ⟨n, x, p, rfl⟩ np
  have kl : k.toNat < ts.length := by omega
  obtain ⟨tt, htt, hdt⟩ := tk_at r4 (List.getElem?_eq_getElem kl)
  have egd : t.tracks.getD k.toNat [] = tt := by rw [List.getD_eq_getElem?_getD, htt]; rfl
  have oktt := okt.trs tt (List.mem_of_getElem? htt)
  obtain ⟨ta, xs, eta, hxs1, hxs⟩ := Dp.lstI hdt
  have lx := tr_len hxs
  have fewt := oktt.few
  refine ⟨_, rfl, w3.1, _, _, _, rfl, rfl, SqL.of r1, atI_nat (j := 2) rfl, _, rfl, a, _, _, _, rfl, rfl, ha, atI_nat (j := 2) rfl, w3.2.2, ts, _, _, rfl, rfl, SqL.of r3, at_nat (by omega) (List.getElem?_eq_getElem kl), ?_⟩
  rw [eta] at hdt ⊢
  cases d with
  | new n b => exact absurd ⟨n, b, rfl⟩ nn
  | drop n => exact absurd ⟨n, rfl⟩ nd'
  | add n => exact absurd ⟨n, rfl⟩ na
  | pace n x p => exact absurd ⟨n, x, p, rfl⟩ np
  | put n k' ev =>
    cases e5
    have ha : SqT K H a [.str "put", .str n, .int k, x2] := ha
    obtain ⟨g1, g2, g3⟩ := f2
    rw [egd] at g3
    obtain ⟨ea, rfl, hea⟩ := ev_sq h2 g2
    refine ⟨_, rfl, rfl, _, rfl, ?_⟩
    rw [show (Deed.put n k ev).word = "put" from rfl, seq']
    refine iteT ⟨_, rfl, _, rfl, a, _, _, _, rfl, rfl, ha, atI_nat (j := 3) rfl, plAll o E ++ S, .ref ta, ea, tt, ev, rfl, hS', hdt, oktt, hea, g2, g3, fun H1 p s1 hp1 => ?_⟩
    refine ⟨_, rfl, w3.1, _, _, _, rfl, rfl, SqL.of (s1 _ _ r1), atI_nat (j := 2) rfl, _, rfl, a, _, _, _, rfl, rfl, same_t s1 ha, atI_nat (j := 2) rfl, w3.2.2, ts, k, k.toNat, rfl, rfl, s1 _ _ r3, ixN_in hk.1 (by omega), ?_⟩
    have L1 := (lo.to s1).tr ok e1 e2 (ts' := ts.set k.toNat p) (tk' := t.tracks.set k.toNat (putIn tt ev)) (f := fun t => onTp t (.put n k ev)) (by rw [List.map_set]; exact DpAll.set _ (da r4 (Same.wo s1)) hp1) (by rw [← egd]; rfl)
    refine ⟨_, rfl, rfl, _, rfl, ?_⟩
    rw [sne (by decide +kernel)]
    refine iteF ⟨_, rfl, rfl, _, rfl, ?_⟩
    rw [sne (by decide +kernel)]
    refine iteF ⟨_, rfl, rfl, _, rfl, ?_⟩
    rw [sne (by decide +kernel)]
    exact iteF (q _ E ((Kp.of s1).trans (Kp.upd trin)) (fun a ha => .inl ha) L1)
  | take n k' pl =>
    cases e5
    obtain rfl := dpi h2
    have ha : SqT K H a [.str "take", .str n, .int k, .int pl] := ha
    obtain ⟨g1, g2, g3⟩ := f2
    rw [egd] at g3
    obtain ⟨pn, rfl⟩ : ∃ pn : Nat, pl = pn := ⟨pl.toNat, by omega⟩
    refine ⟨_, rfl, rfl, _, rfl, ?_⟩
    rw [show (Deed.take n k pn).word = "take" from rfl, sne (by decide +kernel)]
    refine iteF ⟨_, rfl, rfl, _, rfl, ?_⟩
    rw [seq']
    have hxs1' := same_l wo_sub hxs1
    refine iteT ⟨_, rfl, _, rfl, a, _, _, _, rfl, rfl, ha, atI_nat (j := 3) rfl, _, rfl, ta, xs, rfl, hxs1', fun p1 np1 => ?_⟩
    rw [cut_upto]
    have s1 := Same.upd (o := .lst (xs.take pn)) np1
    refine ⟨_, rfl, _, rfl, a, _, _, _, rfl, rfl, same_t s1 ha, atI_nat (j := 3) rfl, _, _, rfl, rfl, _, rfl, ta, xs, rfl, same_l s1 hxs1', fun p2 np2 => ?_⟩
    rw [show ((pn : Int) + 1) = ((pn + 1 : Nat) : Int) by omega, cut_from]
    have s2 := Same.upd (o := .lst (xs.drop (pn + 1))) np2
    refine ⟨p1, p2, _, _, rfl, rfl, s2 _ _ upd_same, upd_same, sz (by simp; omega), fun p3 np3 => ?_⟩
    have s3 := Same.upd (o := .lst (xs.take pn ++ xs.drop (pn + 1))) np3
    have s12 := s1.trans s2
    have d3 := lst_dp (K := K) (In.same hS' s12) np3 (DpAll.app (DpAll.take pn (da hxs (Same.wo s12))) (DpAll.drop (pn + 1) (da hxs (Same.wo s12))))
    rw [← List.map_take, ← List.map_drop, ← List.map_append] at d3
    have sa := s12.trans s3
    generalize L2.upd (L2.upd (L2.upd H p1 (.lst (xs.take pn))) p2 (.lst (xs.drop (pn + 1)))) p3 (.lst (xs.take pn ++ xs.drop (pn + 1))) = H1 at *
    refine ⟨_, rfl, w3.1, _, _, _, rfl, rfl, SqL.of (sa _ _ r1), atI_nat (j := 2) rfl, _, rfl, a, _, _, _, rfl, rfl, same_t sa ha, atI_nat (j := 2) rfl, w3.2.2, ts, k, k.toNat, rfl, rfl, sa _ _ r3, ixN_in hk.1 (by omega), ?_⟩
    have L1 := (lo.to sa).tr ok e1 e2 (ts' := ts.set k.toNat (.ref p3)) (tk' := t.tracks.set k.toNat (takeAt tt pn)) (f := fun t => onTp t (.take n k pn)) (by rw [List.map_set]; exact DpAll.set _ (da r4 (Same.wo sa)) d3) (by rw [← egd]; rfl)
    refine ⟨_, rfl, rfl, _, rfl, ?_⟩
    rw [sne (by decide +kernel)]
    refine iteF ⟨_, rfl, rfl, _, rfl, ?_⟩
    rw [sne (by decide +kernel)]
    exact iteF (q _ E ((Kp.of sa).trans (Kp.upd trin)) (fun a ha => .inl ha) L1)
  | later n k' b =>
    cases e5
    obtain rfl := dpi h2
    have ha : SqT K H a [.str "later", .str n, .int k, .int b] := ha
    obtain ⟨g1, g2⟩ := f2
    rw [egd] at g2
    refine ⟨_, rfl, rfl, _, rfl, ?_⟩
    rw [show (Deed.later n k b).word = "later" from rfl, sne (by decide +kernel)]
    refine iteF ⟨_, rfl, rfl, _, rfl, ?_⟩
    rw [sne (by decide +kernel)]
    refine iteF ⟨_, rfl, rfl, _, rfl, ?_⟩
    rw [seq']
    have hxs1' := same_l wo_sub hxs1
    refine iteT ⟨_, rfl, ta, rfl, ⟨xs, hxs1'⟩, fun D hD => ?_⟩
    refine lc_it walk_list (Gro K (plAll o E ++ S) H D fun i => (laterT (tt.take i) b).map evP) (Gro.start hS' hD (by simp [laterT])) (fun _ _ _ hh => same_l hh.same hxs1') ?_ ?_
    · rintro i' x H1 H2 hi ac ⟨rfl, hy⟩
      obtain ⟨e, ev, w0, r, rfl, ht, g, hd', hs, e0, hr', k0, k1, k5⟩ := ev_in oktt.good hxs hy
      rw [sc_head e0] at hs
      have hs1 := same_t ac.same (same_t wo_sub hs)
      have bb := g2 ev (List.mem_of_getElem? ht)
      have lr : r.length ≤ 3 := by have := congrArg List.length e0; simp at this; omega
      refine ⟨rfl, _, rfl, e, _, _, _, rfl, rfl, hs1, atI_nat (j := 0) rfl, _, rfl, a, _, _, _, rfl, rfl, same_t ac.same ha, atI_nat (j := 3) rfl, _, _, rfl, rfl, sz (by simp), fun p hp => ?_⟩
      have s2 : Same H2 (L2.upd H2 p (.tup [.int (tick ev + b)])) := Same.upd hp
      refine ⟨_, rfl, _, rfl, e, _, rfl, same_t s2 hs1, nocut_1, fun p2 hp2 => ?_⟩
      rw [cut_1]
      have s3 := s2.trans (Same.upd (o := .tup (.str w0 :: r.map scV)) hp2)
      refine ⟨p, p2, [.int (tick ev + b)], .str w0 :: r.map scV, rfl, rfl, same_t (Same.upd hp2) (SqT.of upd_same), SqT.of upd_same, by simp, sz (by simp; omega), (fun z => by cases z), fun _ p3 hp3 => ?_⟩
      have s4 := s3.trans (Same.upd (o := .tup ([.int (tick ev + b)] ++ (.str w0 :: r.map scV))) hp3)
      have fl : (atTick ev (tick ev + b)).all isSc = true := (g.at bb).flat
      have em : (atTick ev (tick ev + b)).map scV = [.int (tick ev + b)] ++ (.str w0 :: r.map scV) := by
        unfold atTick
        rw [e0]
        rfl
      refine ac.more s4 (d := evP (atTick ev (tick ev + b))) (ev_dp ?_ fl) ?_ (by omega)
      · rw [em]
        exact sqt_new (In.same ac.in s3) hp3
      · simp only [take_succ' ht, laterT, List.map_append, List.map_cons, List.map_nil]
    intro H1 ac
    have d3 := ac.stop
    simp only [take_full (show tt.length = xs.length from lx.symm)] at d3
    have sa := ac.same
    refine ⟨_, rfl, w3.1, _, _, _, rfl, rfl, SqL.of (sa _ _ r1), atI_nat (j := 2) rfl, _, rfl, a, _, _, _, rfl, rfl, same_t sa ha, atI_nat (j := 2) rfl, w3.2.2, ts, k, k.toNat, rfl, rfl, sa _ _ r3, ixN_in hk.1 (by omega), ?_⟩
    have L1 := (lo.to sa).tr ok e1 e2 (ts' := ts.set k.toNat (.ref D)) (tk' := t.tracks.set k.toNat (laterT tt b)) (f := fun t => onTp t (.later n k b)) (by rw [List.map_set]; exact DpAll.set _ (da r4 (Same.wo sa)) d3) (by rw [← egd]; rfl)
    refine ⟨_, rfl, rfl, _, rfl, ?_⟩
    rw [sne (by decide +kernel)]
    exact iteF (q _ E ((Kp.of sa).trans (Kp.upd trin)) (fun a ha => .inl ha) L1)
  | part n k' c =>
    cases e5
    obtain rfl := dpi h2
    have ha : SqT K H a [.str "part", .str n, .int k, .int c] := ha
    obtain ⟨g1, g2, g3⟩ := f2
    refine ⟨_, rfl, rfl, _, rfl, ?_⟩
    rw [show (Deed.part n k c).word = "part" from rfl, sne (by decide +kernel)]
    refine iteF ⟨_, rfl, rfl, _, rfl, ?_⟩
    rw [sne (by decide +kernel)]
    refine iteF ⟨_, rfl, rfl, _, rfl, ?_⟩
    rw [sne (by decide +kernel)]
    refine iteF ⟨_, rfl, rfl, _, rfl, ?_⟩
    rw [seq']
    have hxs1' := same_l wo_sub hxs1
    refine iteT ⟨_, rfl, w3.1, _, _, _, rfl, rfl, SqL.of r1, atI_nat (j := 2) rfl, .inl ⟨rfl, _, SqL.of r3⟩, _, rfl, ta, rfl, ⟨xs, hxs1'⟩, fun D hD => ?_⟩
    refine lc_it walk_list (Gro K (plAll o E ++ S) H D fun i => ((tt.take i).filter (isOf c)).map evP) (Gro.start hS' hD (by simp)) (fun _ _ _ hh => same_l hh.same hxs1') ?_ ?_
    · rintro i' x H2 H3 hi ac ⟨rfl, hy⟩
      obtain ⟨e, ev2, w0, r, rfl, ht, g', hd', hs, _⟩ := ev_in oktt.good hxs hy
      refine ⟨rfl, _, rfl, e, ev2, rfl, same_t ac.same (same_t wo_sub hs), g', _, rfl, a, _, _, _, rfl, rfl, same_t ac.same ha, atI_nat (j := 3) rfl, rfl, _, rfl, ?_⟩
      have el : decide (V.int (laneE ev2) = V.int c) = isOf c ev2 := by rw [dec_int, ← lane_of g' g2, Bool.eq_iff_iff]; simp
      rw [el]
      by_cases cc : isOf c ev2 = true
      · rw [cc]
        refine iteT ⟨_, rfl, ac.more same_rfl (dp hd' ac.old) ?_ (by omega)⟩
        simp only [filt_yes ht cc, List.map_append, List.map_cons, List.map_nil]
      · rw [Bool.eq_false_iff.mpr cc]
        refine iteF (ac.skip same_rfl ?_)
        simp only [filt_no ht (Bool.eq_false_iff.mpr cc)]
    intro H1 ac
    have d1 := ac.stop
    simp only [take_full (show tt.length = xs.length from lx.symm)] at d1
    have s1 := ac.same
    refine ⟨w3.2.2, ts, _, rfl, rfl, s1 _ _ r3, szl (by omega), ?_⟩
    have trS : w3.2.2 ∈ plAll o E ++ S := List.mem_append_left _ trin
    have w2 : wo (plAll o E ++ S) (L2.upd H1 w3.2.2 (.lst (ts ++ [.ref D]))) = wo (plAll o E ++ S) H1 := wo_upd trS
    have kp2 : Kp [w3.2.1, w3.2.2] H (L2.upd H1 w3.2.2 (.lst (ts ++ [.ref D]))) := (Kp.of s1).trans (Kp.upd (by simp))
    have a2 : SqT K (L2.upd H1 w3.2.2 (.lst (ts ++ [.ref D]))) a [.str "part", .str n, .int k, .int c] := same_t wo_sub (by rw [w2]; exact same_t (Same.wo s1) ha0)
    have q1 : (L2.upd H1 w3.2.2 (.lst (ts ++ [.ref D]))) w3.1 = some (.lst [.int t.beat, .ref w3.2.1, .ref w3.2.2]) := by rw [upd_ne n2]; exact s1 _ _ r1
    have q2 : (L2.upd H1 w3.2.2 (.lst (ts ++ [.ref D]))) w3.2.1 = some (.dK (t.paces.map kvI)) := by rw [upd_ne n3]; exact s1 _ _ r2
    have q3 : (L2.upd H1 w3.2.2 (.lst (ts ++ [.ref D]))) w3.2.2 = some (.lst (ts ++ [.ref D])) := upd_same
    have r42 : DpAll K (wo (plAll o E ++ S) (L2.upd H1 w3.2.2 (.lst (ts ++ [.ref D])))) ts (t.tracks.map trP) := by rw [w2]; exact da r4 (Same.wo s1)
    have d12 : Dp K (wo (plAll o E ++ S) (L2.upd H1 w3.2.2 (.lst (ts ++ [.ref D])))) (.ref D) (trP (mineT tt c)) := by rw [w2]; exact d1
    have x2 : SqL K (wo (plAll o E ++ S) (L2.upd H1 w3.2.2 (.lst (ts ++ [.ref D])))) ta xs := by rw [w2]; exact same_l (Same.wo s1) hxs1
    have xd2 : DpAll K (wo (plAll o E ++ S) (L2.upd H1 w3.2.2 (.lst (ts ++ [.ref D])))) xs (tt.map evP) := by rw [w2]; exact da hxs (Same.wo s1)
    generalize L2.upd H1 w3.2.2 (.lst (ts ++ [.ref D])) = H2 at *
    have hS2 := In.kp hS' kp2
    refine ⟨_, rfl, ta, rfl, ⟨xs, same_l wo_sub x2⟩, fun D2 hD2 => ?_⟩
    refine lc_it walk_list (Gro K (plAll o E ++ S) H2 D2 fun i => ((tt.take i).filter fun e => !isOf c e).map evP) (Gro.start hS2 hD2 (by simp)) (fun _ _ _ hh => same_l hh.same (same_l wo_sub x2)) ?_ ?_
    · rintro i' x H3 H4 hi ac2 ⟨rfl, hy⟩
      obtain ⟨e, ev2, w0, r, rfl, ht, g', hd', hs, _⟩ := ev_in oktt.good xd2 hy
      refine ⟨rfl, _, rfl, e, ev2, rfl, same_t ac2.same (same_t wo_sub hs), g', _, rfl, a, _, _, _, rfl, rfl, same_t ac2.same a2, atI_nat (j := 3) rfl, rfl, _, rfl, ?_⟩
      have el : decide (V.int (laneE ev2) = V.int c) = isOf c ev2 := by rw [dec_int, ← lane_of g' g2, Bool.eq_iff_iff]; simp
      rw [el]
      by_cases cc : isOf c ev2 = true
      · rw [cc]
        refine iteF (ac2.skip same_rfl ?_)
        simp only [filt_no ht (p := fun e => !isOf c e) (by simp [cc])]
      · rw [Bool.eq_false_iff.mpr cc]
        refine iteT ⟨_, rfl, ac2.more same_rfl (dp hd' ac2.old) ?_ (by omega)⟩
        simp only [filt_yes ht (p := fun e => !isOf c e) (by simp [Bool.eq_false_iff.mpr cc]), List.map_append, List.map_cons, List.map_nil]
    intro H3 ac2
    have d3 := ac2.stop
    simp only [take_full (show tt.length = xs.length from lx.symm)] at d3
    have s3 := ac2.same
    refine ⟨_, rfl, w3.1, _, _, _, rfl, rfl, SqL.of (s3 _ _ q1), atI_nat (j := 2) rfl, _, rfl, a, _, _, _, rfl, rfl, same_t s3 a2, atI_nat (j := 2) rfl, w3.2.2, _, k, k.toNat, rfl, rfl, s3 _ _ q3, ixN_in hk.1 (by simp; omega), ?_⟩
    have kp4 : Kp [w3.2.1, w3.2.2] H (L2.upd H3 w3.2.2 (.lst ((ts ++ [V.ref D]).set k.toNat (V.ref D2)))) := kp2.trans ((Kp.of s3).trans (Kp.upd (by simp)))
    have L1 := lo.on (f := fun t => onTp t (.part n k c)) ok e1 e2 kp4 ⟨by rw [upd_ne n2]; exact s3 _ _ q1, by rw [upd_ne n3]; exact s3 _ _ q2, _, upd_same, by
      rw [wo_upd trS, List.set_append_left _ _ kl]
      show DpAll _ _ _ (List.map trP (t.tracks.set k.toNat (restT (t.tracks.getD k.toNat []) c) ++ [mineT (t.tracks.getD k.toNat []) c]))
      rw [List.map_append, List.map_set, egd]
      exact DpAll.app (DpAll.set _ (da r42 (Same.wo s3)) d3) (.cons (dp d12 (Same.wo s3)) .nil)⟩
    exact q _ E (kp4.more fun a ha => by
      simp only [List.mem_cons, List.not_mem_nil, or_false] at ha
      rcases ha with rfl | rfl
      · exact knin
      · exact trin) (fun a ha => .inl ha) L1
end
end K59
set_option maxHeartbeats 4000000
namespace K59
open PySem PySem.Spec PyProof.Rows L2
def tyD : PyData → String
  | .none => "NoneType"
  | .bool _ => "bool"
  | .int _ => "int"
  | .str _ => "str"
  | .list _ => "list"
  | .tuple _ => "tuple"
  | .dict _ => "dict"
theorem Dp.tyx {K : PySem.W.Frag} {H : Hp} {v : V} {d : PyData} (h : Dp K H v d) : TyX K H v (.type (tyD d)) := by
  cases h with
  | non => exact .base .non
  | bl b => exact .base (.bl b)
  | int i => exact .base (.int i)
  | str x => exact .base (.str x)
  | lst a b =>
    rcases a with (h | ⟨o, h⟩) | ⟨o, its, n, h, hc, _⟩
    · exact .base (.lst h)
    · exact .base (.frz h)
    · exact .kList h hc
  | tup a b =>
    rcases a with (h | ⟨o, h⟩) | ⟨o, its, n, h, hc, _⟩
    · exact .base (.tup h)
    · exact .fTuple h
    · exact .kTuple h hc
/-- small data: n levels -/
inductive SmD : Nat → PyData → Prop
  | non {n : Nat} : SmD (n + 1) .none
  | bl {n : Nat} (b : Bool) : SmD (n + 1) (.bool b)
  | int {n : Nat} (i : Int) : SmD (n + 1) (.int i)
  | str {n : Nat} (z : Str) : SmD (n + 1) (.str z)
  | lst {n : Nat} {ds : List PyData} (h : ds.length ≤ 100000) (hs : ∀ d ∈ ds, SmD n d) : SmD (n + 1) (.list ds)
  | tup {n : Nat} {ds : List PyData} (h : ds.length ≤ 100000) (hs : ∀ d ∈ ds, SmD n d) : SmD (n + 1) (.tuple ds)
theorem kit2 {K : PySem.W.Frag} {a b : String} {r : Bool} (h : kitB a b = some r) : PySem.W.kitOne K (.type a) (.type b) = some r := kit_ty h
theorem rIx_of {K : PySem.W.Frag} {H : Hp} {a : Addr} {xs : List V} {i : Int} {v : V} {Q : VK} (h : SqL K H a xs ∨ SqT K H a xs) (e : atI xs i = some v) (q : Q v H) : rIx K (.ref a) (.int i) H Q := by
  rcases h with h | h
  · exact .inl ⟨a, xs, i, v, rfl, rfl, h, e, q⟩
  · exact .inr (.inl ⟨a, xs, i, v, rfl, rfl, h, e, q⟩)
theorem sq_to {K : PySem.W.Frag} {H H' : Hp} {a : Addr} {xs : List V} (h : SqL K H a xs ∨ SqT K H a xs) (s : Same H H') : SqL K H' a xs ∨ SqT K H' a xs := h.imp (same_l s) (same_t s)
theorem any2 {K : PySem.W.Frag} {t : String} {b1 b2 : Bool} (h1 : kitB t "int" = some b1) (h2 : kitB t "str" = some b2) : PySem.W.kitAny K (.type t) [.type "int", .type "str"] = some (b1 || b2) := by
  refine kitAny_cons (b := b1) (kit_ty h1) (fun e => ?_) (fun e => by rw [e]; rfl)
  subst e
  exact kitAny_cons (b := b2) (kit_ty h2) (fun e => by rw [e]; rfl) (fun e => by rw [e]; rfl)
def spSame (K : PySem.W.Frag) (n : Nat) : Sp := fun vs H Q _ => ∃ (v u : V) (d : PyData), vs = [v, u] ∧ Dp K H v d ∧ Dp K H u d ∧ SmD n d ∧ ∀ H', Same H H' → Q (.bl true) H'
section
variable {P : Program} {w : World} {K : PySem.W.Frag} {mg : Str → Option Value} {base : Heap}
abbrev s_law_same : Stmt := top 127
abbrev N_law_same : List Str := ["_law_found", "_law_due", "_law_k"]
theorem sc_law_same : FnScope N_law_same ["_law_found", "_law_due"] (C8.fnScope s_law_same) := C8.fnScope_by (by decide +kernel)
theorem c_law_same (n : Nat) (IH : Fx w K mg → C8.Cal P w K mg base (n + 1) "_law_same" (spSame K n) []) (T : Fx w K mg) : C8.Cal P w K mg base (n + 1 + 1) "_law_same" (spSame K (n + 1)) [] := by
  refine cal_ T.d_law_same (fun _ _ _ _ _ _ us hl => match us, hl with | [_, _], _ => rfl) sc_law_same (fun vs H Q E h => by obtain ⟨v, u, d, rfl, _⟩ := h; rfl) (fun f cdv A outer s H vs Q E hr h => ?_)
  have nd := sc_law_same.nd
  have hu := hu_of hr
  have hu64 := hu64 hr
  refine ⟨_, (pss_cons (ps_if (pt_cmpR op_isN (pv 1) pe_non (nomark _)) (pss_one (ps_ret (pe_cmpR op_isN (pv 0) pe_non (nomark _)))) pss_nil) (pss_cons (ps_if
      (PW.pt (pw_or (pt_val (pe_callB call_isi (by rfl) T.f_isinstance (by decide +kernel) (pa_cons (pv 1) (pa_cons (bT_bool T.f_bool) pa_nil))))
      (pw_or1 (pt_val (pe_callB call_isi (by rfl) T.f_isinstance (by decide +kernel) (pa_cons (pv 0) (pa_cons (bT_bool T.f_bool) pa_nil))))))) (pss_one
      (ps_ret (pe_and (pe_callB call_isi (by rfl) T.f_isinstance (by decide +kernel) (pa_cons (pv 1) (pa_cons (bT_bool T.f_bool) pa_nil))) (pe_and
      (pe_callB call_isi (by rfl) T.f_isinstance (by decide +kernel) (pa_cons (pv 0) (pa_cons (bT_bool T.f_bool) pa_nil))) (pe_one (pe_cmpR op_eq (pv 0)
      (pv 1) (nomark _))))))) pss_nil) (pss_cons (ps_if (pt_val (pe_callB call_isiT (by rfl) T.f_isinstance (by decide +kernel) (pa_cons (pv 1)
      (pa_cons (pe_tup (pa_cons (bT_int T.f_int) (pa_cons (bT_str T.f_str) pa_nil))) pa_nil)))) (pss_one (ps_ret (pe_and (pe_cmpR op_eq (pe_callB call_isi
      (by rfl) T.f_isinstance (by decide +kernel) (pa_cons (pv 0) (pa_cons (bT_int T.f_int) pa_nil))) (pe_callB call_isi (by rfl) T.f_isinstance (by decide +kernel)
      (pa_cons (pv 1) (pa_cons (bT_int T.f_int) pa_nil))) (nomark _)) (pe_and (pe_callB call_isiT (by rfl) T.f_isinstance (by decide +kernel) (pa_cons
      (pv 0) (pa_cons (pe_tup (pa_cons (bT_int T.f_int) (pa_cons (bT_str T.f_str) pa_nil))) pa_nil))) (pe_one (pe_cmpR op_eq (pv 0) (pv 1) (nomark _))))))) pss_nil)
      (pss_cons (ps_if (PW.pt (pw_or (pt_cmpR op_ne (pe_callB call_isi (by rfl) T.f_isinstance (by decide +kernel) (pa_cons (pv 0) (pa_cons (bT_list T.f_list) pa_nil)))
      (pe_callB call_isi (by rfl) T.f_isinstance (by decide +kernel) (pa_cons (pv 1) (pa_cons (bT_list T.f_list) pa_nil))) (nomark _)) (pw_or1 (pt_cmpR op_ne
      (pe_callB call_isi (by rfl) T.f_isinstance (by decide +kernel) (pa_cons (pv 0) (pa_cons (bT_tuple T.f_tuple) pa_nil))) (pe_callB call_isi (by rfl) T.f_isinstance
      (by decide +kernel) (pa_cons (pv 1) (pa_cons (bT_tuple T.f_tuple) pa_nil))) (nomark _))))) (pss_one (ps_ret pe_bl)) pss_nil) (pss_one (ps_ret
      (pe_and (pe_cmpR op_eq (pe_callB (r := rLenSq K) call_len_seq (by rfl) T.f_len PySem.boot_len (pa_cons (pv 0) pa_nil)) (pe_callB (r := rLenSq K) call_len_seq
      (by rfl) T.f_len PySem.boot_len (pa_cons (pv 1) pa_nil)) (nomark _)) (pe_one (pe_callB (cr_all rfl) (by rfl) T.f_all (by decide +kernel) (pa_cons
      (pe_lc (own := [("_law_k", 2)]) (g := gName 2) (tt := tYes) rfl nd (pi_range1 rfl T.f_range (pa_cons (pe_callB (r := rLenSq K) call_len_seq (by rfl) T.f_len PySem.boot_len
      (pa_cons (pv 1) pa_nil)) pa_nil)) (blkOk_by (own := [("_law_k", 2)]) (N := N_law_same) (sc := C8.fnScope s_law_same) (by decide +kernel)) (fun _ _ _ _ _ =>
      (pg_name (i := 2) nd rfl (by first | exact Or.inl rfl | exact Or.inr rfl))) (fun _ _ _ _ _ => pts_nil) (fun _ _ _ _ _ => (C8.pe_c (IH T) hr (by omega) rfl
      (pa_cons (pe_ix (r := rIx K) ix_seq (pv 0) (pv 2) (fun _ _ => rfl)) (pa_cons (pe_ix (r := rIx K) ix_seq (pv 1) (pv 2) (fun _ _ => rfl)) pa_nil))))) pa_nil)))))))))), ?_⟩

  obtain ⟨v, u, d, rfl, hv, hu', sm, q⟩ := h
  have tv := Dp.tyx hv
  have tu := Dp.tyx hu'
  have refs : ∀ (H0 : Hp), Same H H0 → ∀ (a b : Addr) (xs ys : List V) (ds : List PyData), v = .ref a → u = .ref b → (SqL K H0 a xs ∨ SqT K H0 a xs) → (SqL K H0 b ys ∨ SqT K H0 b ys) → DpAll K H0 xs ds → DpAll K H0 ys ds → ds.length ≤ 100000 → (∀ d ∈ ds, SmD n d) →
      (tRet (tAndV (tOp rEq (tCB (rLenSq K) (tCons (tVar 0) tNil)) (tCB (rLenSq K) (tCons (tVar 1) tNil))) (tCB (rAll K) (tCons (tLc (iRng1 (tCons (tCB (rLenSq K) (tCons (tVar 1) tNil)) tNil)) (gName 2) tYes (tCall (spSame K n) [] C8.E0 (tCons (tOp (rIx K) (tVar 0) (tVar 2)) (tCons (tOp (rIx K) (tVar 1) (tVar 2)) tNil))) [2]) tNil)))) { nx := fun _ H' => Q .non H', rt := Q } [some v, some u, none] H0 := by
    intro H0 s0 a b xs ys ds ea eb ha hb hx hy hl hs
    rw [ea, eb]
    have lx := DpAll.len hx
    have ly := DpAll.len hy
    refine ⟨_, rfl, a, xs, rfl, ha, _, rfl, b, ys, rfl, hb, rfl, true, ?_, iteT ?_⟩
    · show V.bl (decide (V.int (xs.length : Int) = V.int (ys.length : Int))) = V.bl true
      rw [decT (by rw [lx, ly])]
    refine ⟨_, rfl, b, ys, rfl, hb, _, rfl, by omega, by omega, fun D hD => ?_⟩
    refine lc_it walk_range (fun i H' => Same H0 H' ∧ H' D = some (.lst ((List.replicate i true).map V.bl))) ⟨Same.upd hD, upd_same⟩ (fun _ _ _ _ => trivial) ?_ ?_
    · rintro i x H1 H2 hi ⟨s1, h1⟩ ⟨rfl, rfl⟩
      have hi' : i < ys.length := by simpa using hi
      have hix : i < xs.length := by omega
      obtain ⟨d1, e1, e2⟩ := DpAll.at hx (List.getElem?_eq_getElem hix)
      obtain ⟨d2, e3, e4⟩ := DpAll.at hy (List.getElem?_eq_getElem hi')
      rw [e1] at e3
      cases e3
      refine ⟨rfl, _, rfl, _, rfl, rIx_of (sq_to ha s1) (at_nat (by omega) (List.getElem?_eq_getElem hix)) ?_⟩
      refine ⟨_, rfl, _, rfl, rIx_of (sq_to hb s1) (at_nat (by omega) (List.getElem?_eq_getElem hi')) ?_⟩
      refine ⟨_, _, d1, rfl, dp e2 s1, dp e4 s1, hs d1 (List.mem_of_getElem? e1), fun H3 s3 => ⟨_, s3 _ _ h1, szl (by simp; omega), over (s1.trans s3) hD, ?_⟩⟩
      rw [upd_same, List.replicate_succ', List.map_append]
      rfl
    · rintro H1 ⟨s1, h1⟩
      refine ⟨D, _, rfl, SqL.of h1, ?_⟩
      rw [show ((List.replicate _ true).all id) = true by simp]
      exact q H1 (s0.trans s1)
  cases sm with
  | non =>
    cases hv
    cases hu'
    exact ⟨_, rfl, rfl, _, rfl, iteT ⟨_, rfl, rfl, q H same_rfl⟩⟩
  | bl b =>
    cases hv
    cases hu'
    refine ⟨_, rfl, rfl, _, rfl, ?_⟩
    rw [decF (by simp)]
    refine iteF ⟨_, rfl, _, _, _, _, true, rfl, .ty "bool", .base (.bl b), kit2 (show kitB "bool" "bool" = some true by decide +kernel), true, rfl, iteT (iteT ?_)⟩
    refine ⟨_, rfl, _, _, _, _, true, rfl, .ty "bool", .base (.bl b), kit2 (show kitB "bool" "bool" = some true by decide +kernel), true, rfl, iteT ?_⟩
    refine ⟨_, rfl, _, _, _, _, true, rfl, .ty "bool", .base (.bl b), kit2 (show kitB "bool" "bool" = some true by decide +kernel), true, rfl, iteT ?_⟩
    refine ⟨_, rfl, _, rfl, by cases b <;> rfl, ?_⟩
    rw [decT rfl]
    exact q H same_rfl
  | int i =>
    cases hv
    cases hu'
    refine ⟨_, rfl, rfl, _, rfl, ?_⟩
    rw [decF (by simp)]
    refine iteF ⟨_, rfl, _, _, _, _, false, rfl, .ty "bool", .base (.int i), kit2 (show kitB "int" "bool" = some false by decide +kernel), false, rfl, iteF ?_⟩
    refine ⟨_, rfl, _, _, _, _, false, rfl, .ty "bool", .base (.int i), kit2 (show kitB "int" "bool" = some false by decide +kernel), false, rfl, iteF ?_⟩
    refine ⟨_, rfl, by show 2 ≤ sizeLine; decide, fun tp ntp => ⟨_, tp, _, _, _, true, rfl, upd_same, .cons (.ty "int") (.cons (.ty "str") .nil), .base (.int i), any2 (b1 := true) (b2 := false) (by decide +kernel) (by decide +kernel), true, rfl, iteT ?_⟩⟩
    have s1 := Same.upd (o := .tup [.ty "int", .ty "str"]) ntp
    refine ⟨_, rfl, _, _, _, _, true, rfl, .ty "int", .base (.int i), kit2 (show kitB "int" "int" = some true by decide +kernel), _, rfl, _, _, _, _, true, rfl, .ty "int", .base (.int i), kit2 (show kitB "int" "int" = some true by decide +kernel), rfl, true, rfl, iteT ?_⟩
    refine ⟨_, rfl, by show 2 ≤ sizeLine; decide, fun tp2 ntp2 => ⟨_, tp2, _, _, _, true, rfl, upd_same, .cons (.ty "int") (.cons (.ty "str") .nil), .base (.int i), any2 (b1 := true) (b2 := false) (by decide +kernel) (by decide +kernel), true, rfl, iteT ?_⟩⟩
    refine ⟨_, rfl, _, rfl, rfl, ?_⟩
    rw [decT rfl]
    exact q _ (s1.trans (Same.upd ntp2))
  | str z =>
    cases hv
    cases hu'
    refine ⟨_, rfl, rfl, _, rfl, ?_⟩
    rw [decF (by simp)]
    refine iteF ⟨_, rfl, _, _, _, _, false, rfl, .ty "bool", .base (.str z), kit2 (show kitB "str" "bool" = some false by decide +kernel), false, rfl, iteF ?_⟩
    refine ⟨_, rfl, _, _, _, _, false, rfl, .ty "bool", .base (.str z), kit2 (show kitB "str" "bool" = some false by decide +kernel), false, rfl, iteF ?_⟩
    refine ⟨_, rfl, by show 2 ≤ sizeLine; decide, fun tp ntp => ⟨_, tp, _, _, _, true, rfl, upd_same, .cons (.ty "int") (.cons (.ty "str") .nil), .base (.str z), any2 (b1 := false) (b2 := true) (by decide +kernel) (by decide +kernel), true, rfl, iteT ?_⟩⟩
    have s1 := Same.upd (o := .tup [.ty "int", .ty "str"]) ntp
    refine ⟨_, rfl, _, _, _, _, false, rfl, .ty "int", .base (.str z), kit2 (show kitB "str" "int" = some false by decide +kernel), _, rfl, _, _, _, _, false, rfl, .ty "int", .base (.str z), kit2 (show kitB "str" "int" = some false by decide +kernel), rfl, true, rfl, iteT ?_⟩
    refine ⟨_, rfl, by show 2 ≤ sizeLine; decide, fun tp2 ntp2 => ⟨_, tp2, _, _, _, true, rfl, upd_same, .cons (.ty "int") (.cons (.ty "str") .nil), .base (.str z), any2 (b1 := false) (b2 := true) (by decide +kernel) (by decide +kernel), true, rfl, iteT ?_⟩⟩
    refine ⟨_, rfl, _, rfl, rfl, ?_⟩
    rw [decT rfl]
    exact q _ (s1.trans (Same.upd ntp2))
  | lst hl hs =>
    obtain ⟨a, xs, rfl, ha, hx⟩ := Dp.lstI hv
    obtain ⟨b, ys, rfl, hb, hy⟩ := Dp.lstI hu'
    refine ⟨_, rfl, rfl, _, rfl, ?_⟩
    rw [decF (by simp)]
    refine iteF ⟨_, rfl, _, _, _, _, false, rfl, .ty "bool", tu, kit2 (show kitB "list" "bool" = some false by decide +kernel), false, rfl, iteF ?_⟩
    refine ⟨_, rfl, _, _, _, _, false, rfl, .ty "bool", tv, kit2 (show kitB "list" "bool" = some false by decide +kernel), false, rfl, iteF ?_⟩
    refine ⟨_, rfl, by show 2 ≤ sizeLine; decide, fun tp ntp => ⟨_, tp, _, _, _, false, rfl, upd_same, .cons (.ty "int") (.cons (.ty "str") .nil), Dp.tyx (dp hu' (Same.upd ntp)), any2 (b1 := false) (b2 := false) (show kitB "list" "int" = some false by decide +kernel) (show kitB "list" "str" = some false by decide +kernel), false, rfl, iteF ?_⟩⟩
    have s1 := Same.upd (o := .tup [.ty "int", .ty "str"]) ntp
    have tv1 := Dp.tyx (dp hv s1)
    have tu1 := Dp.tyx (dp hu' s1)
    refine ⟨_, rfl, _, _, _, _, true, rfl, .ty "list", tv1, kit2 (show kitB "list" "list" = some true by decide +kernel), _, rfl, _, _, _, _, true, rfl, .ty "list", tu1, kit2 (show kitB "list" "list" = some true by decide +kernel), rfl, _, rfl, ?_⟩
    rw [decT rfl]
    refine iteF ⟨_, rfl, _, _, _, _, false, rfl, .ty "tuple", tv1, kit2 (show kitB "list" "tuple" = some false by decide +kernel), _, rfl, _, _, _, _, false, rfl, .ty "tuple", tu1, kit2 (show kitB "list" "tuple" = some false by decide +kernel), rfl, _, rfl, ?_⟩
    rw [decT rfl]
    exact iteF (refs _ s1 a b xs ys _ rfl rfl (.inl <| same_l s1 ha) (.inl <| same_l s1 hb) (da hx s1) (da hy s1) hl hs)
  | tup hl hs =>
    obtain ⟨a, xs, rfl, ha, hx⟩ := Dp.tupI hv
    obtain ⟨b, ys, rfl, hb, hy⟩ := Dp.tupI hu'
    refine ⟨_, rfl, rfl, _, rfl, ?_⟩
    rw [decF (by simp)]
    refine iteF ⟨_, rfl, _, _, _, _, false, rfl, .ty "bool", tu, kit2 (show kitB "tuple" "bool" = some false by decide +kernel), false, rfl, iteF ?_⟩
    refine ⟨_, rfl, _, _, _, _, false, rfl, .ty "bool", tv, kit2 (show kitB "tuple" "bool" = some false by decide +kernel), false, rfl, iteF ?_⟩
    refine ⟨_, rfl, by show 2 ≤ sizeLine; decide, fun tp ntp => ⟨_, tp, _, _, _, false, rfl, upd_same, .cons (.ty "int") (.cons (.ty "str") .nil), Dp.tyx (dp hu' (Same.upd ntp)), any2 (b1 := false) (b2 := false) (show kitB "tuple" "int" = some false by decide +kernel) (show kitB "tuple" "str" = some false by decide +kernel), false, rfl, iteF ?_⟩⟩
    have s1 := Same.upd (o := .tup [.ty "int", .ty "str"]) ntp
    have tv1 := Dp.tyx (dp hv s1)
    have tu1 := Dp.tyx (dp hu' s1)
    refine ⟨_, rfl, _, _, _, _, false, rfl, .ty "list", tv1, kit2 (show kitB "tuple" "list" = some false by decide +kernel), _, rfl, _, _, _, _, false, rfl, .ty "list", tu1, kit2 (show kitB "tuple" "list" = some false by decide +kernel), rfl, _, rfl, ?_⟩
    rw [decT rfl]
    refine iteF ⟨_, rfl, _, _, _, _, true, rfl, .ty "tuple", tv1, kit2 (show kitB "tuple" "tuple" = some true by decide +kernel), _, rfl, _, _, _, _, true, rfl, .ty "tuple", tu1, kit2 (show kitB "tuple" "tuple" = some true by decide +kernel), rfl, _, rfl, ?_⟩
    rw [decT rfl]
    exact iteF (refs _ s1 a b xs ys _ rfl rfl (.inr <| same_t s1 ha) (.inr <| same_t s1 hb) (da hx s1) (da hy s1) hl hs)
end
section
variable {P : Program} {w : World} {K : PySem.W.Frag} {mg : Str → Option Value} {base : Heap}
theorem c_same0 (T : Fx w K mg) : C8.Cal P w K mg base 1 "_law_same" (spSame K 0) [] := by
  have no : ∀ vs H Q E, ¬ spSame K 0 vs H Q E := fun vs H Q E h => by
    obtain ⟨_, _, _, _, _, _, h, _⟩ := h
    cases h
  exact cal_ (k := 0) T.d_law_same (fun _ _ _ _ _ _ us hl => match us, hl with | [_, _], _ => rfl) sc_law_same (fun vs H Q E h => (no _ _ _ _ h).elim) (fun f cdv A outer s H vs Q E hr h => (no _ _ _ _ h).elim)
theorem c_same (T : Fx w K mg) : ∀ n, C8.Cal P w K mg base (n + 1) "_law_same" (spSame K n) []
  | 0 => c_same0 T
  | n + 1 => c_law_same n (fun _ => c_same T n) T
end
end K59
set_option maxHeartbeats 4000000
namespace K59
open PySem PySem.Spec PyProof.Rows L2
theorem atA_get {ps : List (Int × Int)} (h : (ps.map (·.1)).Nodup) {p : Int × Int} (hp : p ∈ ps) : atA ps p.1 = some p.2 := by
  cases e : atA ps p.1 with
  | none => exact absurd (List.mem_map.mpr ⟨p, hp, rfl⟩) (atA_none.mp e)
  | some v =>
    have := uniq_key h hp (atA_in e) rfl
    rw [this]
def keyG (ps : List (Int × Int)) (t : Int) : Int × Int := (t, (atA ps t).getD 0)
theorem keyG_perm {ps : List (Int × Int)} (h : (ps.map (·.1)).Nodup) {ns : List Int} (hp : ns.Perm (ps.map (·.1))) : (ns.map (keyG ps)).Perm ps := by
  have e := hp.map (keyG ps)
  rw [List.map_map] at e
  have e2 : ps.map (keyG ps ∘ (·.1)) = ps := by
    have : ps.map (keyG ps ∘ (·.1)) = ps.map id := List.map_congr_left fun p hp => by
      show (p.1, (atA ps p.1).getD 0) = p
      rw [atA_get h hp]; rfl
    rw [this, List.map_id]
  rw [e2] at e
  exact e
theorem keyG_srt {ps : List (Int × Int)} {ns : List Int} (hp : ns.Pairwise (· ≤ ·)) : srtd (ns.map (keyG ps)) := by
  unfold srtd
  rw [List.pairwise_map]
  refine hp.imp fun {a b} hab => SrtO.lexB_no.mpr ?_
  show ¬ (b < a ∨ (b = a ∧ (atA ps b).getD 0 < (atA ps a).getD 0))
  intro z
  rcases z with z | ⟨z, y⟩
  · omega
  · subst z; omega
section
variable {P : Program} {w : World} {K : PySem.W.Frag} {mg : Str → Option Value} {base : Heap}
def spPairs (K : PySem.W.Frag) : Sp := fun vs H Q _ => ∃ (S : List Addr) (kn : Addr) (ps : List (Int × Int)), vs = [.ref kn] ∧ In S H ∧ H kn = some (.dK (ps.map kvI)) ∧ (ps.map (·.1)).Nodup ∧ ps.length ≤ 20 ∧
  ∀ H' p ys, Same H H' → H p = none → ys.Perm ps → srtd ys → Dp K (wo S H') (.ref p) (.list (ys.map prP)) → Q (.ref p) H'
abbrev s_law_pairs : Stmt := top 129
abbrev N_law_pairs : List Str := ["_law_known", "_law_tick_here"]
theorem sc_law_pairs : FnScope N_law_pairs ["_law_known"] (C8.fnScope s_law_pairs) := C8.fnScope_by (by decide +kernel)
theorem c_law_pairs (T : Fx w K mg) : C8.Cal P w K mg base 1 "_law_pairs" (spPairs K) [] := by
  refine cal_ T.d_law_pairs (fun _ _ _ _ _ _ us hl => match us, hl with | [_], _ => rfl) sc_law_pairs (fun vs H Q E h => by obtain ⟨S, kn, ps, rfl, _⟩ := h; rfl) (fun f cdv A outer s H vs Q E hr h => ?_)
  have nd := sc_law_pairs.nd
  have hu := hu_of hr
  have hu64 := hu64 hr
  refine ⟨_, (pss_one (ps_ret (pe_lc (own := [("_law_tick_here", 1)]) (g := gName 1) (tt := tYes) rfl nd (pi_list (pe_callB cr_sorted (by rfl) T.f_sorted (by decide +kernel)
      (pa_cons (pe_callTy (T := "list") (call_listD rfl) (by rfl) T.f_list (by decide +kernel) (pa_cons (pv 0) pa_nil)) pa_nil))) (blkOk_by (own := [("_law_tick_here", 1)])
      (N := N_law_pairs) (sc := C8.fnScope s_law_pairs) (by decide +kernel)) (fun _ _ _ _ _ => (pg_name (i := 1) nd rfl (by first | exact Or.inl rfl | exact Or.inr rfl)))
      (fun _ _ _ _ _ => pts_nil) (fun _ _ _ _ _ => (pe_tup (pa_cons (pv 1) (pa_cons (pe_dget hu (pv 0) (pv 1) (fun _ _ => rfl)) pa_nil))))))), ?_⟩

  obtain ⟨S, kn, ps, rfl, hS, hk, nk, few, q⟩ := h
  refine ⟨_, rfl, kn, _, rfl, .inl hk, fun p1 np1 => ?_⟩
  have s1 := Same.upd (o := .lst ((ps.map kvI).map fun kv => kV kv.1)) np1
  have e1 : ((ps.map kvI).map fun kv => kV kv.1) = (ps.map (·.1)).map V.int := by rw [List.map_map, List.map_map]; rfl
  refine ⟨p1, ps.map (·.1), rfl, by rw [← e1]; exact SqL.of upd_same, by rw [List.length_map]; omega, fun ns p2 pns sns np2 => ?_⟩
  have s2 := Same.upd (o := .lst (ns.map V.int)) np2
  have s12 := s1.trans s2
  have hp2 : (L2.upd (L2.upd H p1 (.lst ((ps.map kvI).map fun kv => kV kv.1))) p2 (.lst (ns.map V.int))) p2 = some (.lst (ns.map V.int)) := upd_same
  have hk2 := s12 _ _ hk
  have hS2 := In.same hS s12
  generalize L2.upd (L2.upd H p1 (.lst ((ps.map kvI).map fun kv => kV kv.1))) p2 (.lst (ns.map V.int)) = H2 at *
  have ln : ns.length = ps.length := by rw [pns.length_eq, List.length_map]
  refine ⟨p2, rfl, ⟨_, SqL.of hp2⟩, fun D hD => ?_⟩
  refine lc_it walk_list (Gro K S H2 D fun i => ((ns.take i).map (keyG ps)).map prP) (Gro.start hS2 hD (by simp)) (fun _ _ _ hh => same_l hh.same (SqL.of hp2)) ?_ ?_
  · rintro i x H3 H4 hi ac ⟨rfl, hy⟩
    rw [List.getElem?_map] at hy
    obtain ⟨t, ht, rfl⟩ := Option.map_eq_some_iff.mp hy
    have hm : t ∈ ps.map (·.1) := pns.mem_iff.mp (List.mem_of_getElem? ht)
    obtain ⟨v, hv⟩ : ∃ v, atA ps t = some v := by
      cases e : atA ps t with
      | none => exact absurd hm (atA_none.mp e)
      | some v => exact ⟨v, rfl⟩
    refine ⟨rfl, _, rfl, _, rfl, _, rfl, kn, .int v, rfl, .inl ⟨_, Sum.inl t, .inl (ac.same _ _ hk2), rfl, by rw [val_kvI, hv]; rfl⟩, sz (by simp), fun p np => ?_⟩
    refine ac.more (Same.upd np) (d := prP (keyG ps t)) ?_ ?_ (by simp at hi; omega)
    · have ek : keyG ps t = (t, v) := by unfold keyG; rw [hv]; rfl
      rw [ek]
      exact tup_dp ac.in np (.cons (.int t) (.cons (.int v) .nil))
    · simp only [take_succ' ht, List.map_append, List.map_cons, List.map_nil]
  · intro H3 ac
    have z := ac.stop
    simp only [take_full (show ns.length = (ns.map V.int).length by simp)] at z
    exact q H3 D (ns.map (keyG ps)) (s12.trans ac.same) (wasNone s12 hD) (keyG_perm nk pns) (keyG_srt sns) z
end
end K59
set_option maxHeartbeats 4000000
namespace K59
open PySem PySem.Spec PyProof.Rows L2
/-- the law's book at o (in S): its dict as it stands, the rest without S -/
structure LbO (K : PySem.W.Frag) (S : List Addr) (H : Hp) (o : Addr) (bk : Bk) : Prop where
  ex : ∃ kvs, H o = some (.dK kvs) ∧ Paired (lbR K (wo S H)) kvs bk
theorem lb_keys {K : PySem.W.Frag} {G : Hp} : ∀ {kvs : List (Key × V)} {bk : Bk}, Paired (lbR K G) kvs bk → kvs.map (·.1) = (bk.map (·.1)).map Sum.inr
  | _, _, .nil => rfl
  | _, _, .cons r t => by rw [List.map_cons, List.map_cons, List.map_cons, r.1, lb_keys t]
theorem kv_strs {K : PySem.W.Frag} {G : Hp} : ∀ {kvs : List (Key × V)} {bk : Bk}, Paired (lbR K G) kvs bk → (kvs.map fun kv => kV kv.1) = (bk.map (·.1)).map V.str
  | _, _, .nil => rfl
  | _, _, .cons r t => by rw [List.map_cons, List.map_cons, List.map_cons, r.1, kv_strs t]; rfl
theorem smEv {e : Ev} (g : GoodEv e) {n : Nat} : SmD (n + 2) (evP e) := by
  refine .tup ?_ fun d hd => ?_
  · obtain ⟨_, _, _, _, _, _, h⟩ := g.tk; omega
  · have h := List.all_eq_true.mp g.flat d hd
    cases d with
    | int i => exact .int i
    | str z => exact .str z
    | _ => cases h
theorem smTr {t : Tr} (ok : TrOk t) {n : Nat} : SmD (n + 3) (trP t) := by
  refine .lst (by rw [List.length_map]; have := ok.few; omega) fun d hd => ?_
  obtain ⟨e, he, rfl⟩ := List.mem_map.mp hd
  exact smEv (ok.good e he)
theorem smTks {ts : List Tr} (h : ∀ t ∈ ts, TrOk t) (hl : ts.length ≤ 6) {n : Nat} : SmD (n + 4) (tksP ts) := by
  refine .lst (by rw [List.length_map]; omega) fun d hd => ?_
  obtain ⟨t, ht, rfl⟩ := List.mem_map.mp hd
  exact smTr (h t ht)
theorem smPr {ps : List (Int × Int)} (hl : ps.length ≤ 20) {n : Nat} : SmD (n + 3) (.list (ps.map prP)) := by
  refine .lst (by rw [List.length_map]; omega) fun d hd => ?_
  obtain ⟨p, _, rfl⟩ := List.mem_map.mp hd
  exact .tup (by simp) fun d hd => by
    simp only [List.mem_cons, List.not_mem_nil, or_false] at hd
    rcases hd with rfl | rfl <;> exact .int _
theorem smStr {ys : List Str} (hl : ys.length ≤ 100000) {n : Nat} : SmD (n + 2) (.list (ys.map .str)) := by
  refine .lst (by rw [List.length_map]; exact hl) fun d hd => ?_
  obtain ⟨p, _, rfl⟩ := List.mem_map.mp hd
  exact .str _
theorem unfrz {H2 H' : Hp} {o : Addr} {f u : HO} (h : H2 o = some u) (s : Same (L2.upd H2 o f) H') : Same H2 (L2.upd H' o u) := fun a x e => by
  by_cases z : a = o
  · rw [z] at e ⊢; rw [upd_same, ← h]; exact e
  · rw [upd_ne z]; exact s a x (by rw [upd_ne z]; exact e)
section
variable {P : Program} {w : World} {K : PySem.W.Frag} {mg : Str → Option Value} {base : Heap}
def spDeckSo (K : PySem.W.Frag) : Sp := fun vs H Q _ => ∃ (S : List Addr) (dk b e pa ah o : Addr) (bk : Bk), vs = [.ref dk, .ref o] ∧ In S H ∧ o ∈ S ∧ dk ≠ o ∧ DkIs K H dk b e pa ah 0 ∧ BkIs K (wo S H) b bk ∧ LbO K S H o bk ∧ BkOk bk ∧ ∀ H', Same H H' → Q (.bl true) H'
abbrev s_law_deck_so : Stmt := top 130
abbrev N_law_deck_so : List Str := ["_law_deck", "_law_book", "_law_name", "_law_tape", "_law_due"]
theorem sc_law_deck_so : FnScope N_law_deck_so ["_law_deck", "_law_book"] (C8.fnScope s_law_deck_so) := C8.fnScope_by (by decide +kernel)
theorem c_law_deck_so (T : Fx w K mg) : C8.Cal P w K mg base 8 "_law_deck_so" (spDeckSo K) [] := by
  refine cal_ T.d_law_deck_so (fun _ _ _ _ _ _ us hl => match us, hl with | [_, _], _ => rfl) sc_law_deck_so (fun vs H Q E h => by obtain ⟨S, dk, b, e, pa, ah, o, bk, rfl, _⟩ := h; rfl) (fun f cdv A outer s H vs Q E hr h => ?_)
  have nd := sc_law_deck_so.nd
  have hu := hu_of hr
  have hu64 := hu64 hr
  refine ⟨_, (pss_cons (ps_if (pt_not (pt_val (C8.pe_c (c_same T 6) hr (by decide) rfl (pa_cons (pe_lst (pa_cons (C8.pe_mt0 (m_Deck_names T) hr (by decide) (pv 0))
      (pa_cons (pe_callB (call_lenI (m_Deck_len T) (hr.mono (by decide))) (by rfl) T.f_len PySem.boot_len (pa_cons (pv 0) pa_nil)) (pa_cons (C8.pe_mt0
      (m_Deck_busy T) hr (by decide) (pv 0)) pa_nil)))) (pa_cons (pe_lst (pa_cons (pe_callB cr_sortedS (by rfl) T.f_sorted (by decide +kernel) (pa_cons
      (pe_callTy (T := "list") (call_listD rfl) (by rfl) T.f_list (by decide +kernel) (pa_cons (pv 1) pa_nil)) pa_nil)) (pa_cons (pe_callB call_lenD
      (by rfl) T.f_len PySem.boot_len (pa_cons (pv 1) pa_nil)) (pa_cons pe_bl pa_nil)))) pa_nil))))) (pss_one (ps_ret pe_bl)) pss_nil) (pss_cons
      (ps_lock (ps_for PassesOwn.never rfl (pi_keys (pv 1)) (pg_name (i := 2) nd rfl (by first | exact Or.inl rfl | exact Or.inr rfl)) (pss_cons
      (ps_set (i := 3) nd rfl (by first | exact Or.inl rfl | exact Or.inr rfl) (C8.pe_mt (m_Deck_tape T) hr (by decide) (pv 0) (pa_cons (pv 2) pa_nil)))
      (pss_cons (ps_set (i := 4) nd rfl (by first | exact Or.inl rfl | exact Or.inr rfl) (pe_lst (pa_cons (pe_ix (r := rIxL K) ix_list (pe_dget hu (pv 1)
      (pv 2) (fun _ _ => rfl)) pe_int (fun _ _ => rfl)) (pa_cons (C8.pe_c (c_law_pairs T) hr (by decide) rfl (pa_cons (pe_ix (r := rIxL K) ix_list
      (pe_dget hu (pv 1) (pv 2) (fun _ _ => rfl)) pe_int (fun _ _ => rfl)) pa_nil)) (pa_cons (pe_ix (r := rIxL K) ix_list (pe_dget hu (pv 1) (pv 2)
      (fun _ _ => rfl)) pe_int (fun _ _ => rfl)) pa_nil))))) (pss_one (ps_if (pt_not (pt_val (C8.pe_c (c_same T 6) hr (by decide) rfl (pa_cons (pe_lst
      (pa_cons (C8.pe_mt0 (m_Tape_beat T) hr (by decide) (pv 3)) (pa_cons (C8.pe_mt0 (m_Tape_paces T) hr (by decide) (pv 3)) (pa_cons (C8.pe_mt0
      (m_Tape_tracks T) hr (by decide) (pv 3)) pa_nil)))) (pa_cons (pv 4) pa_nil))))) (pss_one (ps_ret pe_bl)) pss_nil)))))) (pss_one (ps_ret pe_bl)))), ?_⟩

  obtain ⟨S, dk, b, e, pa, ah, o, bk, rfl, hS, oS, dko, dis, bki, ⟨kvs, ho, hr'⟩, ok, q⟩ := h
  have bf := ok.few
  obtain ⟨dx, hd⟩ := dis
  obtain ⟨kvb, hb1, hb2⟩ := id bki
  have hb := wo_sub _ _ hb1
  refine ⟨_, rfl, dk, dx, _, rfl, hd, rfl, S, dk, b, e, pa, ah, bk, rfl, hS, ⟨dx, hd⟩, bki, ok, fun H1 p1 ys s1 np1 pys sys dp1 => ?_⟩
  refine ⟨_, rfl, dk, dx, _, rfl, s1 _ _ hd, dk, b, e, pa, ah, 0, kvb, rfl, ⟨dx, s1 _ _ hd⟩, s1 _ _ hb, kvb.length, sz (by rw [bk_len hb2]; omega), rfl, ?_⟩
  refine ⟨_, rfl, dk, dx, _, rfl, s1 _ _ hd, rfl, dk, b, e, pa, ah, rfl, ⟨dx, s1 _ _ hd⟩, sz (by simp), fun pl npl => ?_⟩
  have s2 := Same.upd (o := .lst [.ref p1, .int (kvb.length : Nat), .bl false]) npl
  have d1 : Dp K (L2.upd H1 pl (.lst [.ref p1, .int (kvb.length : Nat), .bl false])) (.ref pl) (.list [.list (ys.map .str), .int (kvb.length : Nat), .bool false]) := .lst (SqL.of upd_same) (.cons (dp dp1 (wo_sub.trans s2)) (.cons (.int _) (.cons (.bl _) .nil)))
  have s12 := s1.trans s2
  generalize L2.upd H1 pl (.lst [.ref p1, .int (kvb.length : Nat), .bl false]) = H2 at *
  refine ⟨_, rfl, o, kvs, rfl, .inl (s12 _ _ ho), fun p2 np2 => ?_⟩
  have s3 := Same.upd (o := .lst (kvs.map fun kv => kV kv.1)) np2
  refine ⟨p2, bk.map (·.1), rfl, by rw [← kv_strs hr']; exact SqL.of upd_same, by rw [List.length_map]; omega, fun ys2 p3 pys2 sys2 np3 => ?_⟩
  have s4 := Same.upd (o := .lst (ys2.map V.str)) np3
  have eys : ys2 = ys := sortS_uniq (pys2.trans pys.symm) sys2 sys
  subst eys
  have s14 := s12.trans (s3.trans s4)
  refine ⟨_, rfl, o, kvs, rfl, s14 _ _ ho, sz (by simp), fun pl2 npl2 => ?_⟩
  have s5 := Same.upd (o := .lst [.ref p3, .int (kvs.length : Nat), .bl false]) npl2
  have ekv : kvs.length = kvb.length := by rw [lb_len hr', bk_len hb2]
  have yl : ys2.length ≤ 6 := by rw [pys.length_eq, List.length_map]; exact bf
  refine ⟨_, _, .list [.list (ys2.map .str), .int (kvb.length : Nat), .bool false], rfl, dp d1 (s3.trans (s4.trans s5)), ?_, ?_, fun H6 s6 => ⟨true, rfl, iteF ?_⟩⟩
  · refine .lst (SqL.of upd_same) (.cons (.lst (SqL.of (s5 _ _ upd_same)) (strs_dp ys2)) (.cons ?_ (.cons (.bl _) .nil)))
    rw [ekv]; exact .int _
  · refine .lst (by simp) fun d hd => ?_
    simp only [List.mem_cons, List.not_mem_nil, or_false] at hd
    rcases hd with rfl | rfl | rfl
    · exact smStr (by omega)
    · exact .int _
    · exact .bl _
  have s16 := s14.trans (s5.trans s6)
  have ho6 := s16 _ _ ho
  refine ⟨o, _, ho6, True.intro, fun od => ?_⟩
  have hdf : (L2.upd H6 o (.frz od (.dK kvs))) dk = some (.ins (cA K "Deck") dx (dkF b e pa ah 0)) := by rw [upd_ne dko]; exact s16 _ _ hd
  have wf : wo S (L2.upd H6 o (.frz od (.dK kvs))) = wo S H6 := wo_upd oS
  have sf : Same (wo S H) (wo S (L2.upd H6 o (.frz od (.dK kvs)))) := by rw [wf]; exact Same.wo s16
  have hof : (L2.upd H6 o (.frz od (.dK kvs))) o = some (.frz od (.dK kvs)) := upd_same
  have hSf : In S (L2.upd H6 o (.frz od (.dK kvs))) := In.kp (In.same hS s16) (Kp.upd (S := S) oS)
  have un : ∀ H', Same (L2.upd H6 o (.frz od (.dK kvs))) H' → Same H (L2.upd H' o (.dK kvs)) := fun H' s => s16.trans (unfrz ho6 s)
  generalize L2.upd H6 o (.frz od (.dK kvs)) = Hf at *
  refine ⟨_, rfl, o, od, rfl, .inl ⟨kvs, hof, ?_⟩⟩
  refine for_it walk_keys (fun i σ H' => (∃ x2 x3 x4, σ = [some (.ref dk), some (.ref o), x2, x3, x4]) ∧ Same Hf H') ⟨⟨_, _, _, rfl⟩, same_rfl⟩ (fun i σ H' _ hh => hh.2 _ _ hof) ?_ ?_
  · rintro i x σ H7 H8 hi ⟨⟨x2, x3, x4, rfl⟩, s7⟩ ⟨rfl, k, v, hk, rfl⟩
    obtain ⟨⟨n, t0⟩, hp, ek, _⟩ := LiI.paired_get hr' hk
    simp only at ek
    subst ek
    have nin : n ∈ bk.map (·.1) := List.mem_map.mpr ⟨_, List.mem_of_getElem? hp, rfl⟩
    obtain ⟨m, kn, tr, ts, t, hkv, hat, g1, g2, g3, g4⟩ : ∃ m kn tr ts t, valV kvs (Sum.inr n) = some (.ref m) ∧ atA bk n = some t ∧ wo S H m = some (.lst [.int t.beat, .ref kn, .ref tr]) ∧ wo S H kn = some (.dK (t.paces.map kvI)) ∧ wo S H tr = some (.lst ts) ∧ DpAll K (wo S H) ts (t.tracks.map trP) := by
      rcases lb_at (n := n) hr' with h | ⟨_, h2⟩
      · exact h
      · exact absurd nin (atA_none.mp h2)
    have okt : TpOk t := ok.tp _ (atA_in hat)
    have sv : Same (wo S H) (wo S H8) := sf.trans (Same.wo s7)
    obtain ⟨vb, hvb, htb⟩ : ∃ v, valV kvb (Sum.inr n) = some v ∧ TapeIs K (wo S H) v t := by
      rcases bk_at (n := n) hb2 with ⟨v, t', h1, h2, h3⟩ | ⟨h1, h2⟩
      · rw [hat] at h2; cases h2; exact ⟨v, h1, h3⟩
      · rw [hat] at h2; cases h2
    obtain ⟨ta, dxt, mm, dd, rr, ps, rfl, hta, _⟩ := id htb
    refine ⟨_, rfl, dk, dx, _, rfl, s7 _ _ hdf, rfl, _, rfl, dk, b, e, pa, ah, n, kvb, .ref ta, rfl, ⟨dx, s7 _ _ hdf⟩, wo_sub _ _ (sv _ _ hb1), hvb, ?_⟩
    have ho8 := s7 _ _ hof
    have hS8 := In.same hSf s7
    refine ⟨_, rfl, _, rfl, o, .ref m, rfl, .inl ⟨kvs, Sum.inr n, .inr ⟨od, ho8⟩, rfl, hkv.symm⟩, m, _, _, _, rfl, rfl, SqL.of (wo_sub _ _ (sv _ _ g1)), atI_nat (j := 0) rfl, ?_⟩
    refine ⟨_, rfl, _, rfl, o, .ref m, rfl, .inl ⟨kvs, Sum.inr n, .inr ⟨od, ho8⟩, rfl, hkv.symm⟩, m, _, _, _, rfl, rfl, SqL.of (wo_sub _ _ (sv _ _ g1)), atI_nat (j := 1) rfl, S, kn, t.paces, rfl, hS8, wo_sub _ _ (sv _ _ g2), okt.keys, okt.fewP, fun H9 p9 yp s9 np9 pyp syp dyp => ?_⟩
    have sv9 := sv.trans (Same.wo s9)
    have ho9 := s9 _ _ ho8
    refine ⟨_, rfl, _, rfl, o, .ref m, rfl, .inl ⟨kvs, Sum.inr n, .inr ⟨od, ho9⟩, rfl, hkv.symm⟩, m, _, _, _, rfl, rfl, SqL.of (wo_sub _ _ (sv9 _ _ g1)), atI_nat (j := 2) rfl, sz (by simp), fun pd npd => ?_⟩
    have s10 := Same.upd (o := .lst [.int t.beat, .ref p9, .ref tr]) npd
    have dd10 : Dp K (L2.upd H9 pd (.lst [.int t.beat, .ref p9, .ref tr])) (.ref pd) (.list [.int t.beat, .list (yp.map prP), tksP t.tracks]) :=
      .lst (SqL.of upd_same) (.cons (.int _) (.cons (dp dyp (wo_sub.trans s10)) (.cons (.lst (SqL.of (s10 _ _ (wo_sub _ _ (sv9 _ _ g3)))) (da g4 (sv9.trans (wo_sub.trans s10)))) .nil)))
    have s7a := s7.trans (s9.trans s10)
    have sv10 := sv9.trans (Same.wo s10)
    have hS10 := In.same hS8 (s9.trans s10)
    generalize L2.upd H9 pd (.lst [.int t.beat, .ref p9, .ref tr]) = H10 at *
    refine ⟨_, rfl, ta, dxt, _, rfl, wo_sub _ _ (sv10 _ _ hta), rfl, _, t, rfl, htb.to (sv10.trans wo_sub), ?_⟩
    refine ⟨_, rfl, ta, dxt, _, rfl, wo_sub _ _ (sv10 _ _ hta), rfl, S, _, t, rfl, hS10, htb.to (sv10.trans wo_sub), fun H11 q1 yq s11 pyq syq nq1 dyq => ?_⟩
    have eyq : yq = yp := srtd_uniq (pyq.trans pyp.symm) syq syp
    subst eyq
    have sv11 := sv10.trans (Same.wo s11)
    refine ⟨_, rfl, ta, dxt, _, rfl, wo_sub _ _ (sv11 _ _ hta), rfl, S, _, t, rfl, In.same hS10 s11, htb.to sv11, okt, fun H12 q2 xq s12' nq2 hq2 hxq => ?_⟩
    refine ⟨sz (by simp), fun pf npf => ?_⟩
    have s13 := Same.upd (o := .lst [.int t.beat, .ref q1, .ref q2]) npf
    have yql : yq.length ≤ 20 := by rw [pyq.length_eq]; exact okt.fewP
    refine ⟨_, rfl, _, _, .list [.int t.beat, .list (yq.map prP), tksP t.tracks], rfl, ?_, dp dd10 (s11.trans (s12'.trans s13)), ?_, fun H14 s14' => ⟨true, rfl, iteF ⟨⟨_, _, _, rfl⟩, s7a.trans (s11.trans (s12'.trans (s13.trans s14')))⟩⟩⟩
    · refine .lst (SqL.of upd_same) (.cons (.int _) (.cons (dp dyq (wo_sub.trans (s12'.trans s13))) (.cons (.lst (SqL.of (s13 _ _ hq2)) (da hxq (wo_sub.trans s13))) .nil)))
    · refine .lst (by simp) fun d hd => ?_
      simp only [List.mem_cons, List.not_mem_nil, or_false] at hd
      rcases hd with rfl | rfl | rfl
      · exact .int _
      · exact smPr yql
      · exact smTks okt.trs okt.few
  · rintro σ H7 ⟨⟨x2, x3, x4, rfl⟩, s7⟩
    exact ⟨s7 _ _ hof, q _ (un H7 s7)⟩
end
end K59
set_option maxHeartbeats 4000000
namespace K59
open PySem PySem.Spec PyProof.Rows L2
section
variable {P : Program} {w : World} {K : PySem.W.Frag} {mg : Str → Option Value} {base : Heap}
def spCopy (K : PySem.W.Frag) : Sp := fun vs H Q _ => ∃ (S : List Addr) (b : Addr) (bk : Bk), vs = [.ref b] ∧ In S H ∧ b ∈ S ∧ LbO K S H b bk ∧ BkOk bk ∧
  ∀ H' o E, Same H H' → (∀ a ∈ plAll o E, H a = none) → LOwn K S H' o bk E → Q (.ref o) H'
abbrev s_law_book_copy : Stmt := top 104
abbrev N_law_book_copy : List Str := ["_law_book", "_law_found", "_law_name", "_law_beat_here", "_law_known", "_law_tracks", "_law_track"]
theorem sc_law_book_copy : FnScope N_law_book_copy ["_law_book"] (C8.fnScope s_law_book_copy) := C8.fnScope_by (by decide +kernel)
theorem c_law_book_copy (T : Fx w K mg) : C8.Cal P w K mg base 1 "_law_book_copy" (spCopy K) [] := by
  refine cal_ T.d_law_book_copy (fun _ _ _ _ _ _ us hl => match us, hl with | [_], _ => rfl) sc_law_book_copy (fun vs H Q E h => by obtain ⟨S, b, bk, rfl, _⟩ := h; rfl) (fun f cdv A outer s H vs Q E hr h => ?_)
  have nd := sc_law_book_copy.nd
  have hu := hu_of hr
  have hu64 := hu64 hr
  refine ⟨_, (pss_cons (ps_set (i := 1) nd rfl (by first | exact Or.inl rfl | exact Or.inr rfl) pe_dnewK) (pss_cons (ps_lock (ps_for PassesOwn.never rfl (pi_keys
      (pv 0)) (pg_name (i := 2) nd rfl (by first | exact Or.inl rfl | exact Or.inr rfl)) (pss_cons (ps_asg (pe_dget hu (pv 0) (pv 2) (fun _ _ => rfl))
      (pg_unl rfl (pgs_cons (pg_name (i := 3) nd rfl (by first | exact Or.inl rfl | exact Or.inr rfl)) (pgs_cons (pg_name (i := 4) nd rfl (by first | exact Or.inl rfl | exact Or.inr rfl))
      (pgs_cons (pg_name (i := 5) nd rfl (by first | exact Or.inl rfl | exact Or.inr rfl)) pgs_nil))))) (pss_one (ps_dput hu (pv 1) (pv 2) (pe_lst
      (pa_cons (pv 3) (pa_cons (pe_callTy call_dict_copy (by rfl) T.f_dict (by decide +kernel) (pa_cons (pv 4) pa_nil)) (pa_cons (pe_lc (own := [("_law_track", 6)])
      (g := gName 6) (tt := tYes) rfl nd (pi_list (pv 5)) (blkOk_by (own := [("_law_track", 6)]) (N := N_law_book_copy) (sc := C8.fnScope s_law_book_copy)
      (by decide +kernel)) (fun _ _ _ _ _ => (pg_name (i := 6) nd rfl (by first | exact Or.inl rfl | exact Or.inr rfl))) (fun _ _ _ _ _ => pts_nil)
      (fun _ _ _ _ _ => (pe_callTy (T := "list") (r := rListOf K) call_list_of (by rfl) T.f_list (by decide +kernel) (pa_cons (pv 6) pa_nil)))) pa_nil)))) rfl)))))
      (pss_one (ps_ret (pv 1))))), ?_⟩

  obtain ⟨S, b, bk, rfl, hS, bS, ⟨kvs, hb, hr'⟩, ok, q⟩ := h
  have few := ok.few
  intro o no
  have bo : b ≠ o := fun z => by rw [z, no] at hb; cases hb
  have oS : o ∉ S := hS.out no
  have hb1 : (L2.upd H o (.dK [])) b = some (.dK kvs) := by rw [upd_ne bo]; exact hb
  refine ⟨b, _, hb1, True.intro, fun od => ?_⟩
  have hof : (L2.upd (L2.upd H o (.dK [])) b (.frz od (.dK kvs))) o = some (.dK []) := by rw [upd_ne (Ne.symm bo)]; exact upd_same
  have hbf : (L2.upd H b (.frz od (.dK kvs))) b = some (.frz od (.dK kvs)) := upd_same
  have nof : (L2.upd H b (.frz od (.dK kvs))) o = none := by rw [upd_ne (Ne.symm bo)]; exact no
  have sb0 : Same (L2.upd H b (.frz od (.dK kvs))) (L2.upd (L2.upd H o (.dK [])) b (.frz od (.dK kvs))) := fun a x e => by
    by_cases z : a = b
    · rw [z, upd_same] at e ⊢; exact e
    · rw [upd_ne z] at e ⊢
      exact Same.upd no a x e
  have wb : wo S (L2.upd H b (.frz od (.dK kvs))) = wo S H := wo_upd bS
  have hSb : In S (L2.upd H b (.frz od (.dK kvs))) := In.kp hS (Kp.upd (S := S) bS)
  have un : ∀ H', Same (L2.upd H b (.frz od (.dK kvs))) H' → Same H (L2.upd H' b (.dK kvs)) := fun H' s => unfrz hb s
  have nn : ∀ a, (L2.upd H b (.frz od (.dK kvs))) a = none → H a = none := fun a h => by
    by_cases z : a = b
    · rw [z, upd_same] at h; cases h
    · rwa [upd_ne z] at h
  generalize eHb : L2.upd H b (.frz od (.dK kvs)) = Hb at *
  generalize L2.upd (L2.upd H o (.dK [])) b (.frz od (.dK kvs)) = H0 at *
  refine ⟨_, rfl, b, od, rfl, .inl ⟨kvs, sb0 _ _ hbf, ?_⟩⟩
  refine for_it walk_keys (fun i σ H' => (∃ x2 x3 x4 x5 x6, σ = [some (.ref b), some (.ref o), x2, x3, x4, x5, x6]) ∧ Same Hb H' ∧ ∃ E, LOwn K S H' o (bk.take i) E ∧ ∀ a ∈ plAll o E, Hb a = none)
    ⟨⟨_, _, _, _, _, rfl⟩, sb0, [], ⟨by rw [hof]; simp [lwK], by simp; exact .nil, by simp [plAll], fun a ha z => oS (by rw [← show a = o by simpa [plAll] using ha]; exact z)⟩, fun a ha => by rw [show a = o by simpa [plAll] using ha]; exact nof⟩ (fun i σ H' _ hh => hh.2.1 _ _ hbf) ?_ ?_
  · rintro i x σ H7 H8 hi ⟨⟨x2, x3, x4, x5, x6, rfl⟩, s7, E, lo, fr⟩ ⟨rfl, k, v, hk, rfl⟩
    obtain ⟨⟨n, t⟩, hp, ek, _⟩ := LiI.paired_get hr' hk
    simp only at ek
    subst ek
    have nin : n ∈ bk.map (·.1) := List.mem_map.mpr ⟨_, List.mem_of_getElem? hp, rfl⟩
    obtain ⟨m, kn, tr, ts, hkv, g1, g2, g3, g4⟩ : ∃ m kn tr ts, valV kvs (Sum.inr n) = some (.ref m) ∧ wo S H m = some (.lst [.int t.beat, .ref kn, .ref tr]) ∧ wo S H kn = some (.dK (t.paces.map kvI)) ∧ wo S H tr = some (.lst ts) ∧ DpAll K (wo S H) ts (t.tracks.map trP) := by
      rcases lb_at (n := n) hr' with ⟨m, kn, tr, ts, t', a1, a2, a3, a4, a5, a6⟩ | ⟨_, h2⟩
      · have := uniq_key ok.keys (atA_in a2) (List.mem_of_getElem? hp) rfl
        obtain rfl : t' = t := congrArg (·.2) this
        exact ⟨m, kn, tr, ts, a1, a3, a4, a5, a6⟩
      · exact absurd nin (atA_none.mp h2)
    have okt : TpOk t := ok.tp _ (List.mem_of_getElem? hp)
    have fewT := okt.few
    have sv : Same (wo S H) (wo S H8) := by rw [← wb]; exact Same.wo s7
    have hb8 := s7 _ _ hbf
    refine ⟨_, rfl, _, rfl, b, .ref m, rfl, .inl ⟨kvs, Sum.inr n, .inr ⟨od, hb8⟩, rfl, hkv.symm⟩, m, _, rfl, SqL.of (wo_sub _ _ (sv _ _ g1)), rfl, _, _, rfl, _, _, rfl, _, _, rfl, rfl, ?_⟩
    have hS8 := In.same hSb s7
    have hP8 := lo.ins hS8
    have dPs : Same (wo S H) (wo (plAll o E ++ S) H8) := fun a x e => by
      by_cases qa : a ∈ S
      · rw [wo_in qa] at e; cases e
      · have e2 : Hb a = some x := by rw [← wo_out (S := S) (H := Hb) qa, wb]; exact e
        rw [wo_out]
        · exact s7 _ _ e2
        · intro z
          rcases List.mem_append.mp z with z | z
          · rw [fr a z] at e2; cases e2
          · exact qa z
    have hkn8 := wo_sub _ _ (sv _ _ g2)
    have htr8 := wo_sub _ _ (sv _ _ g3)
    refine ⟨_, rfl, _, rfl, kn, _, rfl, .inl hkn8, fun kn' nkn => ?_⟩
    have s9 := Same.upd (o := .dK (t.paces.map kvI)) nkn
    have hkn9 : (L2.upd H8 kn' (.dK (t.paces.map kvI))) kn' = some (.dK (t.paces.map kvI)) := upd_same
    have data9 := da g4 (dPs.trans (wo_plus s9 nkn))
    have hS9 : In (kn' :: (plAll o E ++ S)) (L2.upd H8 kn' (.dK (t.paces.map kvI))) := (In.same hP8 s9).plus (by rw [hkn9]; exact fun z => nomatch z)
    have lts : ts.length = t.tracks.length := by rw [DpAll.len g4, List.length_map]
    generalize L2.upd H8 kn' (.dK (t.paces.map kvI)) = H9 at *
    refine ⟨_, rfl, tr, rfl, ⟨ts, SqL.of (s9 _ _ htr8)⟩, fun D hD => ?_⟩
    refine lc_it walk_list (Gro K (kn' :: (plAll o E ++ S)) H9 D fun j => (t.tracks.take j).map trP) (Gro.start hS9 hD (by simp)) (fun _ _ _ hh => SqL.of (hh.same _ _ (s9 _ _ htr8))) ?_ ?_
    · rintro j y H10 H11 hj ac ⟨rfl, hy⟩
      obtain ⟨trk, ht, htd⟩ := tk_at data9 hy
      obtain ⟨l0, ys, rfl, hya, hyd⟩ := Dp.lstI (dp htd ac.old)
      refine ⟨rfl, _, rfl, l0, ys, rfl, .inl (same_l wo_sub hya), fun p np => ?_⟩
      refine ac.more (Same.upd np) (lst_dp ac.in np hyd) ?_ (by omega)
      simp only [take_succ' ht, List.map_append, List.map_cons, List.map_nil]
      rfl
    intro H10 ac
    obtain ⟨ys, e1, e2, e3⟩ := ac.ex
    simp only [take_full lts.symm] at e3
    have s10 := ac.same
    refine ⟨sz (by simp), fun m' nm => ?_⟩
    have s11 := Same.upd (o := .lst [.int t.beat, .ref kn', .ref D]) nm
    have s8a := s9.trans (s10.trans s11)
    have mk : m' ≠ kn' := fun z => by rw [z, s10 _ _ hkn9] at nm; cases nm
    have mD : m' ≠ D := fun z => by rw [z, e1] at nm; cases nm
    have kD : kn' ≠ D := fun z => by rw [← z, hkn9] at hD; cases hD
    have f1 := wasNone (s9.trans s10) nm
    have f3 := wasNone s9 hD
    have ho11 := s8a _ _ lo.at_
    have no8 : ∀ a, H8 a = none → a ≠ o := fun a ha z => by rw [z, lo.at_] at ha; cases ha
    have lk := lo.lk
    have li : (bk.take i).length ≤ 6 := by rw [List.length_take]; omega
    have hn : n ∉ (bk.take i).map (·.1) := by
      have hk2 := ok.keys
      rw [← List.take_append_drop (i + 1) bk, take_succ' hp, List.map_append, List.map_append] at hk2
      have h2 := (List.nodup_append.mp hk2).1
      intro z
      exact (List.nodup_append.mp h2).2.2 n z n (by simp) rfl
    have Do : D ≠ o := no8 D f3
    have mo : m' ≠ o := no8 m' f1
    have ko : kn' ≠ o := no8 kn' nkn
    have kpo : Kp [o] H8 (L2.upd (L2.upd H10 m' (.lst [.int t.beat, .ref kn', .ref D])) o (.dK (putK (lwK E (bk.take i)) (Sum.inr n) (.ref m')))) := (Kp.of s8a).trans (Kp.upd (by simp))
    have pe : plAll o (E ++ [(m', kn', D)]) = plAll o E ++ [m', kn', D] := by unfold plAll; rw [List.flatMap_append]; rfl
    have L1 := lo.snoc (t := t) (ts := ys) hS8 hn kpo f1 nkn f3 mk mD kD (by rw [upd_ne mo]; exact upd_same) (by rw [upd_ne ko, upd_ne (Ne.symm mk)]; exact s10 _ _ hkn9) (by rw [upd_ne Do, upd_ne (Ne.symm mD)]; exact e1) (da e3 (fun a x e => by
      by_cases qa : a ∈ D :: kn' :: (plAll o E ++ S)
      · rw [wo_in qa] at e; cases e
      · rw [wo_out qa] at e
        have am : a ≠ m' := fun z => by rw [z, nm] at e; cases e
        have ao : a ≠ o := fun z => qa (by rw [z]; exact List.mem_cons_of_mem _ (List.mem_cons_of_mem _ (List.mem_append_left _ List.mem_cons_self)))
        rw [wo_out]
        · rw [upd_ne ao, upd_ne am]; exact e
        · intro z
          rw [pe] at z
          rcases List.mem_append.mp z with z | z
          · rcases List.mem_append.mp z with z | z
            · exact qa (List.mem_cons_of_mem _ (List.mem_cons_of_mem _ (List.mem_append_left _ z)))
            · simp only [List.mem_cons, List.not_mem_nil, or_false] at z
              rcases z with z | z | z
              · exact am z
              · exact qa (by rw [z]; simp)
              · exact qa (by rw [z]; simp)
          · exact qa (List.mem_cons_of_mem _ (List.mem_cons_of_mem _ (List.mem_append_right _ z))))) upd_same
    refine ⟨_, rfl, _, rfl, o, _, rfl, .inl ⟨_, Sum.inr n, ho11, rfl, szl (by omega), rfl⟩, ⟨_, _, _, _, _, rfl⟩, over (s7.trans s8a) nof, E ++ [(m', kn', D)], ?_, fun a ha => ?_⟩
    · rw [take_succ' hp]; exact L1
    · rw [pe] at ha
      rcases List.mem_append.mp ha with ha | ha
      · exact fr a ha
      · simp only [List.mem_cons, List.not_mem_nil, or_false] at ha
        rcases ha with rfl | rfl | rfl
        · exact wasNone s7 f1
        · exact wasNone s7 nkn
        · exact wasNone s7 f3
  · rintro σ H7 ⟨⟨x2, x3, x4, x5, x6, rfl⟩, s7, E, lo, fr⟩
    rw [List.take_of_length_le (by rw [lb_len hr']; exact Nat.le_refl _)] at lo
    refine ⟨s7 _ _ hbf, _, rfl, q _ o E (un H7 s7) (fun a ha => nn a (fr a ha)) ?_⟩
    have bn : ∀ a ∈ plAll o E, a ≠ b := fun a ha z => by have := fr a ha; rw [z, hbf] at this; cases this
    refine ⟨by rw [upd_ne (Ne.symm bo)]; exact lo.at_, ?_, lo.nd, lo.out⟩
    rw [wo_upd (List.mem_append_right _ bS)]
    refine Paired.imp' lo.ent fun w p hw r => ?_
    obtain ⟨r1, r2, ts, r3, r4⟩ := r
    have bw : ∀ a ∈ pl3 w, a ≠ b := fun a ha => bn a (List.mem_cons_of_mem _ (List.mem_flatMap.mpr ⟨w, hw, ha⟩))
    exact ⟨by rw [upd_ne (bw _ (by simp [pl3]))]; exact r1, by rw [upd_ne (bw _ (by simp [pl3]))]; exact r2, ts, by rw [upd_ne (bw _ (by simp [pl3]))]; exact r3, r4⟩
end
end K59
set_option maxHeartbeats 4000000
namespace K59
open PySem PySem.Spec PyProof.Rows L2
section
variable {P : Program} {w : World} {K : PySem.W.Frag} {mg : Str → Option Value} {base : Heap}
def spSlimDeed (K : PySem.W.Frag) : Sp := fun vs H Q _ => ∃ (S : List Addr) (d c o nl : Addr) (bk : Bk) (ns : List Str), vs = [.ref d, .ref o, .ref nl] ∧ d ∈ S ∧ In S H ∧ DrawAt K H d c ∧ LbIs K (wo [d] H) o bk ∧ BkOk bk ∧ nl ≠ d ∧ H nl = some (.lst (ns.map V.str)) ∧ ns.length = 8 ∧ (∀ n ∈ ns, n.length ≤ 40) ∧
  ∀ H' v dd, DeedSh dd → Kp [d] H H' → DrawAt K H' d c → Dp K (wo S H') v dd.P → Q v H'
abbrev s_law_slim_deed : Stmt := top 115
abbrev N_law_slim_deed : List Str := ["_law_draw", "_law_book", "_law_names_here", "_law_beat_here", "_law_name", "_law_m", "_law_number", "_law_track", "_law_kind", "_law_first", "_law_tick_here"]
theorem sc_law_slim_deed : FnScope N_law_slim_deed ["_law_draw", "_law_book", "_law_names_here"] (C8.fnScope s_law_slim_deed) := C8.fnScope_by (by decide +kernel)
theorem c_law_slim_deed (T : Fx w K mg) : C8.Cal P w K mg base 5 "_law_slim_deed" (spSlimDeed K) [] := by
  refine cal_ T.d_law_slim_deed (fun _ _ _ _ _ _ us hl => match us, hl with | [_, _, _], _ => rfl) sc_law_slim_deed (fun vs H Q E h => by obtain ⟨S, d, c, o, nl, bk, ns, rfl, _⟩ := h; rfl) (fun f cdv A outer s H vs Q E hr h => ?_)
  have nd := sc_law_slim_deed.nd
  have hu := hu_of hr
  have hu64 := hu64 hr
  refine ⟨_, (pss_cons (ps_if (PW.pt (pw_or (pt_cmpR (op_eqDE (Nat.lt_of_succ_lt hu)) (pv 1) pe_dnewK (nomark _)) (pw_or1 (pt_cmpR op_eq (C8.pe_c (c_law_pick T) hr
      (by decide) rfl (pa_cons (pv 0) (pa_cons pe_int pa_nil))) pe_int (nomark _))))) (pss_cons (ps_set (i := 3) nd rfl (by first | exact Or.inl rfl | exact Or.inr rfl)
      (C8.pe_c (c_law_one T) hr (by decide) rfl (pa_cons (pv 0) (pa_cons (pe_lst (pa_cons (C8.pe_c (c_law_beat T) hr (by decide) rfl (pa_cons (pv 0) pa_nil))
      (pa_cons (C8.pe_c (c_law_beat T) hr (by decide) rfl (pa_cons (pv 0) pa_nil)) (pa_cons pe_int (pa_cons pe_int (pa_cons pe_int pa_nil)))))) pa_nil))))
      (pss_one (ps_ret (pe_tup (pa_cons pe_str (pa_cons (C8.pe_c (c_law_one T) hr (by decide) rfl (pa_cons (pv 0) (pa_cons (pe_op op_cat (pv 2) (pe_lst
      (pa_cons pe_str (pa_cons pe_str pa_nil)))) pa_nil))) (pa_cons (pv 3) pa_nil))))))) pss_nil) (pss_cons (ps_set (i := 4) nd rfl (by first | exact Or.inl rfl | exact Or.inr rfl)
      (C8.pe_c (c_law_one T) hr (by decide) rfl (pa_cons (pv 0) (pa_cons (pe_callB cr_sortedS (by rfl) T.f_sorted (by decide +kernel) (pa_cons
      (pe_callTy (T := "list") (call_listD rfl) (by rfl) T.f_list (by decide +kernel) (pa_cons (pv 1) pa_nil)) pa_nil)) pa_nil)))) (C8.pss_cut (ps_if
      (pt_cmpR op_eq (C8.pe_c (c_law_pick T) hr (by decide) rfl (pa_cons (pv 0) (pa_cons pe_int pa_nil))) pe_int (nomark _)) (pss_one (ps_set (i := 4) nd rfl
      (by first | exact Or.inl rfl | exact Or.inr rfl) (C8.pe_c (c_law_one T) hr (by decide) rfl (pa_cons (pv 0) (pa_cons (pv 2) pa_nil))))) pss_nil)
      (pss_cons (ps_set (i := 5) nd rfl (by first | exact Or.inl rfl | exact Or.inr rfl) (pe_dget2 hu (pv 1) (pv 4) (pe_lst (pa_cons pe_int (pa_cons pe_dnewK
      (pa_cons (pe_lst (pa_cons (pe_lst pa_nil) pa_nil)) pa_nil)))) ⟨rfl, rfl, rfl, rfl⟩)) (pss_cons (ps_set (i := 6) nd rfl (by first | exact Or.inl rfl | exact Or.inr rfl)
      (C8.pe_c (c_law_pick T) hr (by decide) rfl (pa_cons (pv 0) (pa_cons (pe_callB (r := rLenSq K) call_len_seq (by rfl) T.f_len PySem.boot_len
      (pa_cons (pe_ix (r := rIxL K) ix_list (pv 5) pe_int (fun _ _ => rfl)) pa_nil)) pa_nil)))) (pss_cons (ps_set (i := 7) nd rfl (by first | exact Or.inl rfl | exact Or.inr rfl)
      (pe_ix (r := rIxL K) ix_list (pe_ix (r := rIxL K) ix_list (pv 5) pe_int (fun _ _ => rfl)) (pv 6) (fun _ _ => rfl))) (C8.pss_cut (ps_if (pt_cmpR op_eq
      (C8.pe_c (c_law_pick T) hr (by decide) rfl (pa_cons (pv 0) (pa_cons pe_int pa_nil))) pe_int (nomark _)) (pss_one (ps_set (i := 6) nd rfl (by first | exact Or.inl rfl | exact Or.inr rfl)
      (C8.pe_c (c_law_one T) hr (by decide) rfl (pa_cons (pv 0) (pa_cons (pe_lst (pa_cons (pe_op op_sub pe_int pe_int) (pa_cons (pe_callB (r := rLenSq K) call_len_seq
      (by rfl) T.f_len PySem.boot_len (pa_cons (pe_ix (r := rIxL K) ix_list (pv 5) pe_int (fun _ _ => rfl)) pa_nil)) (pa_cons pe_int pa_nil)))) pa_nil))))) pss_nil)
      (pss_cons (ps_set (i := 8) nd rfl (by first | exact Or.inl rfl | exact Or.inr rfl) (C8.pe_c (c_law_pick T) hr (by decide) rfl (pa_cons (pv 0)
      (pa_cons pe_int pa_nil)))) (pss_cons (ps_if (pt_cmpR op_lt (pv 8) pe_int (nomark _)) (pss_one (ps_ret (pe_tup (pa_cons pe_str (pa_cons (pv 4)
      (pa_cons (pv 6) (pa_cons (C8.pe_c (c_law_some_event T) hr (by decide) rfl (pa_cons (pv 0) (pa_cons (pv 7) pa_nil))) pa_nil))))))) pss_nil)
      (pss_cons (ps_if (pt_cmpR op_eq (pv 8) pe_int (nomark _)) (pss_one (ps_ret (pe_tup (pa_cons pe_str (pa_cons (pv 4) (pa_cons (pv 6) (pa_cons
      (pe_op op_sub (C8.pe_c (c_law_pick T) hr (by decide) rfl (pa_cons (pv 0) (pa_cons (pe_op op_add (pe_callB (r := rLenSq K) call_len_seq (by rfl) T.f_len PySem.boot_len
      (pa_cons (pv 7) pa_nil)) pe_int) pa_nil))) pe_int) pa_nil))))))) pss_nil) (pss_cons (ps_if (pt_cmpR op_eq (pv 8) pe_int (nomark _)) (pss_cons
      (ps_set (i := 9) nd rfl (by first | exact Or.inl rfl | exact Or.inr rfl) (pe_ifExp (pt_cmpR (op_neD hu64) (pv 7) (pe_lst pa_nil) (nomark _))
      (pe_ix (r := rIxT K) ix_tup (pe_ix (r := rIxL K) ix_list (pv 7) pe_int (fun _ _ => rfl)) pe_int (fun _ _ => rfl)) pe_int)) (pss_one (ps_ret
      (pe_tup (pa_cons pe_str (pa_cons (pv 4) (pa_cons (pv 6) (pa_cons (C8.pe_c (c_law_one T) hr (by decide) rfl (pa_cons (pv 0) (pa_cons (pe_lst
      (pa_cons pe_int (pa_cons (pe_op op_sub pe_int (pv 9)) (pa_cons (pe_op op_sub (pe_op op_sub pe_int (pv 9)) pe_int) (pa_cons (C8.pe_c (c_law_pick T) hr
      (by decide) rfl (pa_cons (pv 0) (pa_cons pe_int pa_nil))) (pa_cons (pe_op op_pow pe_int pe_int) pa_nil)))))) pa_nil))) pa_nil)))))))) pss_nil)
      (pss_cons (ps_if (pt_cmpR op_eq (pv 8) pe_int (nomark _)) (pss_one (ps_ret (pe_tup (pa_cons pe_str (pa_cons (pv 4) (pa_cons (pv 6) (pa_cons
      (C8.pe_c (c_law_one T) hr (by decide) rfl (pa_cons (pv 0) (pa_cons (pe_lst (pa_cons (C8.pe_c (c_law_channel T) hr (by decide) rfl (pa_cons (pv 0) pa_nil))
      (pa_cons (C8.pe_c (c_law_channel T) hr (by decide) rfl (pa_cons (pv 0) pa_nil)) (pa_cons pe_int (pa_cons (pe_op op_sub pe_int pe_int) pa_nil))))) pa_nil))) pa_nil))))))) pss_nil)
      (pss_cons (ps_if (pt_cmpR op_lt (pv 8) pe_int (nomark _)) (pss_cons (ps_set (i := 10) nd rfl (by first | exact Or.inl rfl | exact Or.inr rfl)
      (C8.pe_c (c_law_one T) hr (by decide) rfl (pa_cons (pv 0) (pa_cons (pe_op op_cat (pe_callTy (T := "list") (call_listD rfl) (by rfl) T.f_list (by decide +kernel)
      (pa_cons (pe_ix (r := rIxL K) ix_list (pv 5) pe_int (fun _ _ => rfl)) pa_nil)) (pe_lst (pa_cons (C8.pe_c (c_law_tick T) hr (by decide) rfl
      (pa_cons (pv 0) pa_nil)) (pa_cons (C8.pe_c (c_law_pick T) hr (by decide) rfl (pa_cons (pv 0) (pa_cons pe_int pa_nil))) (pa_cons (pe_op op_pow pe_int pe_int) pa_nil))))) pa_nil))))
      (pss_one (ps_ret (pe_tup (pa_cons pe_str (pa_cons (pv 4) (pa_cons (pv 10) (pa_cons (C8.pe_c (c_law_one T) hr (by decide) rfl (pa_cons (pv 0)
      (pa_cons (pe_lst (pa_cons (C8.pe_c (c_law_pace T) hr (by decide) rfl (pa_cons (pv 0) pa_nil)) (pa_cons (C8.pe_c (c_law_pace T) hr (by decide) rfl
      (pa_cons (pv 0) pa_nil)) (pa_cons pe_int pa_nil)))) pa_nil))) pa_nil)))))))) pss_nil) (pss_one (ps_ret (pe_ifExp (pt_cmpR op_eq (C8.pe_c
      (c_law_pick T) hr (by decide) rfl (pa_cons (pv 0) (pa_cons pe_int pa_nil))) pe_int (nomark _)) (pe_tup (pa_cons pe_str (pa_cons (pv 4) pa_nil)))
      (pe_tup (pa_cons pe_str (pa_cons (pv 4) pa_nil))))))))))))))))))), ?_⟩

  obtain ⟨S, d, c, o, nl, bk, ns, rfl, dS, hS, da, ⟨kvs, ho, hr'⟩, ok, nd1, hnl, nsl, nss, q⟩ := h
  have few := ok.few
  have sub1 : ∀ a ∈ [d], a ∈ S := fun a ha => by rw [List.mem_singleton.mp ha]; exact dS
  have hod : o ∉ [d] := fun z => by rw [wo_in z] at ho; cases ho
  have hnd : nl ∉ [d] := fun z => nd1 (List.mem_singleton.mp z)
  have lkb := lb_len hr'
  have newB : ∀ (NX : L2.St → Hp → Prop) H1, Kp [d] H H1 → DrawAt K H1 d c → (tSeq (tAsg (tCall (spOne K) [] C8.E0 (tCons (tVar 0) (tCons (tLst (tCons (tCall (spInt K) [] C8.E0 (tCons (tVar 0) tNil)) (tCons (tCall (spInt K) [] C8.E0 (tCons (tVar 0) tNil)) (tCons (tC (.int 48)) (tCons (tC (.int 0)) (tCons (tC (.int 961)) tNil)))))) tNil))) (gName 3)) (tRet (tTup (tCons (tC (.str "new")) (tCons (tCall (spOne K) [] C8.E0 (tCons (tVar 0) (tCons (tOp rCat (tVar 2) (tLst (tCons (tC (.str "")) (tCons (tC (.str "A")) tNil)))) tNil))) (tCons (tVar 3) tNil)))))) { nx := NX, rt := Q }
      [some (.ref d), some (.ref o), some (.ref nl), none, none, none, none, none, none, none, none] H1 := by
    intro NX H1 kp1 da1
    refine ⟨_, rfl, _, rfl, d, c, rfl, da1, fun H2 i2 kp2 da2 => ⟨_, rfl, d, c, rfl, da2, fun H3 i3 kp3 da3 => ⟨sz (by simp), fun p np => ?_⟩⟩⟩
    refine ⟨d, c, p, _, rfl, da3.to (Same.upd np), sql_new da3.ins np, ⟨by simp, by simp⟩, fun H4 x hx kp4 da4 => ?_⟩
    obtain ⟨b, rfl⟩ : ∃ b, x = V.int b := by
      simp only [List.mem_cons, List.not_mem_nil, or_false] at hx
      rcases hx with rfl | rfl | rfl | rfl | rfl <;> exact ⟨_, rfl⟩
    have kp14 : Kp [d] H H4 := kp1.trans (kp2.trans (kp3.trans ((Kp.of (Same.upd np)).trans kp4)))
    refine ⟨_, rfl, _, rfl, sz (by simp), fun p5 np5 => ?_⟩
    have s5 := Same.upd (o := .lst [.str "", .str "A"]) np5
    refine ⟨nl, p5, _, _, rfl, rfl, s5 _ _ (kp14.keep nl _ hnd hnl), upd_same, sz (by simp; omega), fun p6 np6 => ?_⟩
    have s6 := Same.upd (o := .lst (ns.map V.str ++ [.str "", .str "A"])) np6
    have da6 := da4.to s5
    refine ⟨d, c, p6, _, rfl, da6.to s6, sql_new da6.ins np6, ⟨by simp, by simp; omega⟩, fun H7 y hy kp7 da7 => ?_⟩
    obtain ⟨n, rfl, hn⟩ : ∃ n : Str, y = V.str n ∧ n.length ≤ 40 := by
      rcases List.mem_append.mp hy with h | h
      · obtain ⟨n, h1, rfl⟩ := List.mem_map.mp h; exact ⟨n, rfl, nss n h1⟩
      · simp only [List.mem_cons, List.not_mem_nil, or_false] at h
        rcases h with rfl | rfl
        · exact ⟨_, rfl, by decide +kernel⟩
        · exact ⟨_, rfl, by decide +kernel⟩
    have kpA : Kp [d] H H7 := kp14.trans ((Kp.of (s5.trans s6)).trans kp7)
    refine ⟨_, rfl, sz (by simp), fun p8 np8 => ?_⟩
    exact q _ _ (.new n b) ⟨by show n.length ≤ 100; omega, trivial⟩ (kpA.trans (Kp.of (Same.upd np8))) (da7.to (Same.upd np8)) (tup_dp (In.kp hS kpA) np8 (.cons (.str _) (.cons (.str _) (.cons (.int _) .nil))))
  refine ⟨_, rfl, fun pd npd => ?_⟩
  have s0 := Same.upd (o := .dK []) npd
  refine ⟨o, pd, kvs, rfl, rfl, s0 _ _ (wo_sub _ _ ho), upd_same, _, rfl, ?_⟩
  cases ke : (kvs.length == 0) with
  | true => exact iteT (iteT (newB _ _ (Kp.of s0) (da.to s0)))
  | false =>
    have kne : kvs.length ≠ 0 := by simpa using ke
    refine iteF ⟨_, rfl, d, c, _, rfl, da.to s0, ⟨by decide, by decide⟩, fun H1 k1 hk1 kp1 da1 => ⟨rfl, _, rfl, ?_⟩⟩
    have kp01 := (Kp.of (S := [d]) s0).trans kp1
    by_cases c0 : k1 = 0
    · rw [decT (by rw [c0])]
      exact iteT (newB _ _ kp01 da1)
    rw [decF (fun z => c0 (V.int.inj z))]
    refine iteF ?_
    have ho1 := wo_sub _ _ (kp01.wo (S' := [d]) (fun a h => h) _ _ ho)
    refine ⟨_, rfl, _, rfl, o, kvs, rfl, .inl ho1, fun p1 np1 => ?_⟩
    have s2 := Same.upd (o := .lst (kvs.map fun kv => kV kv.1)) np1
    refine ⟨p1, bk.map (·.1), rfl, by rw [← kv_strs hr']; exact SqL.of upd_same, by rw [List.length_map]; omega, fun ys p2 pys sys np2 => ?_⟩
    have s3 := Same.upd (o := .lst (ys.map V.str)) np2
    have yl : ys.length = bk.length := by rw [pys.length_eq, List.length_map]
    refine ⟨d, c, p2, _, rfl, (da1.to s2).to s3, sql_new (da1.to s2).ins np2, ⟨by rw [List.length_map]; omega, by rw [List.length_map]; omega⟩, fun H4 x hx kp4 da4 => ?_⟩
    obtain ⟨n0, hn0, rfl⟩ := List.mem_map.mp hx
    have hn0l : n0.length ≤ 40 := by
      obtain ⟨pp, hpp, e⟩ := List.mem_map.mp (pys.mem_iff.mp hn0)
      have := (ok.nm pp hpp).2.1
      rw [e] at this
      omega
    have kp04 : Kp [d] H H4 := kp01.trans ((Kp.of (s2.trans s3)).trans kp4)
    refine ⟨fun σ' H' => ∃ n : Str, σ' = [some (.ref d), some (.ref o), some (.ref nl), none, some (.str n), none, none, none, none, none, none] ∧ n.length ≤ 40 ∧ Kp [d] H H' ∧ DrawAt K H' d c, ?_, ?_⟩
    · refine ⟨_, rfl, d, c, _, rfl, da4, ⟨by decide, by decide⟩, fun H5 k5 hk5 kp5 da5 => ⟨rfl, _, rfl, ?_⟩⟩
      by_cases c5 : k5 = 0
      · rw [decT (by rw [c5])]
        refine iteT ⟨_, rfl, _, rfl, d, c, nl, _, rfl, da5, SqL.of (by rw [wo_out hnd]; exact (kp04.trans kp5).keep nl _ hnd hnl), ⟨by rw [List.length_map]; omega, by rw [List.length_map]; omega⟩, fun H6 x hx kp6 da6 => ?_⟩
        obtain ⟨n1, hn1, rfl⟩ := List.mem_map.mp hx
        exact ⟨n1, rfl, nss n1 hn1, kp04.trans (kp5.trans kp6), da6⟩
      · rw [decF (fun z => c5 (V.int.inj z))]
        exact iteF ⟨n0, rfl, hn0l, kp04.trans kp5, da5⟩
    rintro σ' H5 ⟨n, rfl, hn, kp5, da5⟩
    have ho5 := wo_sub _ _ (kp5.wo (S' := [d]) (fun a h => h) _ _ ho)
    have hr5 := lbR.to (kp5.wo (S' := [d]) (fun a h => h)) hr'
    refine ⟨_, rfl, o, rfl, .inl ⟨_, .inl ho5⟩, _, rfl, ?_⟩
    intro e0 ne0
    refine ⟨sz (by simp), fun t0 nt0 => ⟨sz (by simp), fun l0 nl0 => ⟨sz (by simp), fun m0 nm0 => ?_⟩⟩⟩
    have s6 := Same.upd (o := .dK []) ne0
    have s7 := Same.upd (o := .lst []) nt0
    have s8 := Same.upd (o := .lst [.ref t0]) nl0
    have s9 := Same.upd (o := .lst [.int 96, .ref e0, .ref l0]) nm0
    have s59 := s6.trans (s7.trans (s8.trans s9))
    have kp9 := kp5.trans (Kp.of (S := [d]) s59)
    have da9 := da5.to s59
    have hmd : (L2.upd (L2.upd (L2.upd (L2.upd H5 e0 (.dK [])) t0 (.lst [])) l0 (.lst [.ref t0])) m0 (.lst [.int 96, .ref e0, .ref l0])) m0 = some (.lst [.int 96, .ref e0, .ref l0]) := upd_same
    have hed := (s7.trans (s8.trans s9)) _ _ (show (L2.upd H5 e0 (.dK [])) e0 = some (.dK []) from upd_same)
    have hld := s9 _ _ (show (L2.upd (L2.upd (L2.upd H5 e0 (.dK [])) t0 (.lst [])) l0 (.lst [.ref t0])) l0 = some (.lst [.ref t0]) from upd_same)
    have htd := (s8.trans s9) _ _ (show (L2.upd (L2.upd H5 e0 (.dK [])) t0 (.lst [])) t0 = some (.lst []) from upd_same)
    have e0d : e0 ∉ [d] := da5.ins.out ne0
    have t0d : t0 ∉ [d] := (da5.to s6).ins.out nt0
    have l0d : l0 ∉ [d] := (da5.to (s6.trans s7)).ins.out nl0
    have m0d : m0 ∉ [d] := (da5.to (s6.trans (s7.trans s8))).ins.out nm0
    generalize L2.upd (L2.upd (L2.upd (L2.upd H5 e0 (.dK [])) t0 (.lst [])) l0 (.lst [.ref t0])) m0 (.lst [.int 96, .ref e0, .ref l0]) = H9 at *
    refine ⟨_, .inl ⟨kvs, Sum.inr n, .inl (s59 _ _ ho5), rfl, rfl⟩, ?_⟩
    obtain ⟨mm, kn, tr, ts, tks, ps, x, em, hmm, hkn, htr, dts, ⟨l1, l6⟩, oks, lps, mmd, knd, trd⟩ : ∃ (mm kn tr : Addr) (ts : List V) (tks : List Tr) (ps : List (Int × Int)) (x : V), (valV kvs (Sum.inr n)).getD (.ref m0) = .ref mm ∧ H9 mm = some (.lst [x, .ref kn, .ref tr]) ∧ H9 kn = some (.dK (ps.map kvI)) ∧ H9 tr = some (.lst ts) ∧ DpAll K (wo [d] H9) ts (tks.map trP) ∧ (1 ≤ ts.length ∧ ts.length ≤ 6) ∧ (∀ t ∈ tks, TrOk t) ∧ ps.length ≤ 20 ∧ mm ∉ [d] ∧ kn ∉ [d] ∧ tr ∉ [d] := by
      rcases lb_at (n := n) hr5 with ⟨m, kn, tr, ts, t, g1, g2, g3, g4, g5, g6⟩ | ⟨g1, g2⟩
      · have okt := ok.tp _ (atA_in g2)
        have lts : ts.length = t.tracks.length := by rw [DpAll.len g6, List.length_map]
        have f1 := okt.some1
        have f2 : t.tracks.length ≤ 6 := okt.few
        have nz : ∀ a x, wo [d] H5 a = some x → a ∉ [d] := fun a x e z => by rw [wo_in z] at e; cases e
        exact ⟨m, kn, tr, ts, t.tracks, t.paces, _, by rw [g1]; rfl, s59 _ _ (wo_sub _ _ g3), s59 _ _ (wo_sub _ _ g4), s59 _ _ (wo_sub _ _ g5), K59.da g6 (Same.wo s59), ⟨by rw [lts]; exact f1, by omega⟩, okt.trs, okt.fewP, nz _ _ g3, nz _ _ g4, nz _ _ g5⟩
      · exact ⟨m0, e0, l0, [.ref t0], [[]], [], _, by rw [g1]; rfl, hmd, hed, hld, .cons (.lst (SqL.of (by rw [wo_out t0d]; exact htd)) .nil) .nil, ⟨by simp, by simp⟩, fun t ht => by rw [List.mem_singleton.mp ht]; exact TrOk.nil, by simp, m0d, e0d, l0d⟩
    rw [em]
    refine ⟨_, rfl, _, rfl, mm, _, _, _, rfl, rfl, SqL.of hmm, atI_nat (j := 2) rfl, tr, ts, rfl, .inl (SqL.of htr), d, c, _, rfl, da9, ⟨by omega, by omega⟩, fun H10 k10 hk10 kp10 da10 => ?_⟩
    obtain ⟨kk, rfl⟩ : ∃ kk : Nat, k10 = kk := ⟨k10.toNat, by omega⟩
    have kkl : kk < ts.length := by omega
    obtain ⟨tt, htt, hdt⟩ := tk_at dts (List.getElem?_eq_getElem kkl)
    have oktt := oks tt (List.mem_of_getElem? htt)
    have fewt := oktt.few
    obtain ⟨ta, xs, eta, hxs1, hxs⟩ := Dp.lstI hdt
    have lx := tr_len hxs
    rw [eta] at hdt
    refine ⟨_, rfl, mm, _, _, _, rfl, rfl, SqL.of (kp10.keep mm _ mmd hmm), atI_nat (j := 2) rfl, _, rfl, tr, ts, _, _, rfl, rfl, SqL.of (kp10.keep tr _ trd htr), atI_nat (List.getElem?_eq_getElem kkl), ?_⟩
    rw [eta]
    refine ⟨fun σ' H' => ∃ k' : Int, σ' = [some (.ref d), some (.ref o), some (.ref nl), none, some (.str n), some (.ref mm), some (.int k'), some (.ref ta), none, none, none] ∧ Kp [d] H9 H' ∧ DrawAt K H' d c, ?_, ?_⟩
    · refine ⟨_, rfl, d, c, _, rfl, da10, ⟨by decide, by decide⟩, fun H11 k11 hk11 kp11 da11 => ⟨rfl, _, rfl, ?_⟩⟩
      have kpb := kp10.trans kp11
      by_cases c5 : k11 = 0
      · rw [decT (by rw [c5])]
        refine iteT ⟨_, rfl, _, _, rfl, rfl, _, rfl, mm, _, _, _, rfl, rfl, SqL.of (kpb.keep mm _ mmd hmm), atI_nat (j := 2) rfl, tr, ts, rfl, .inl (SqL.of (kpb.keep tr _ trd htr)), sz (by simp), fun p np => ?_⟩
        refine ⟨d, c, p, _, rfl, da11.to (Same.upd np), sql_new da11.ins np, ⟨by simp, by simp⟩, fun H12 y hy kp12 da12 => ?_⟩
        obtain ⟨k', rfl⟩ : ∃ k', y = V.int k' := by
          simp only [List.mem_cons, List.not_mem_nil, or_false] at hy
          rcases hy with rfl | rfl | rfl <;> exact ⟨_, rfl⟩
        exact ⟨k', rfl, kpb.trans ((Kp.of (Same.upd np)).trans kp12), da12⟩
      · rw [decF (fun z => c5 (V.int.inj z))]
        exact iteF ⟨_, rfl, kpb, da11⟩
    rintro σ' H12 ⟨k', rfl, kp12, da12⟩
    have kpH := kp9.trans kp12
    have hn100 : n.length ≤ 100 := by omega
    have fin : ∀ Hx p dd xs, Kp [d] H Hx → DrawAt K Hx d c → Hx p = none → DeedSh dd → DpAll K (wo S Hx) xs (.str dd.word :: .str dd.name :: dd.rest) → Q (.ref p) (L2.upd Hx p (.tup xs)) := fun Hx p dd xs k da np sh hx =>
      q _ _ dd sh (k.trans (Kp.of (Same.upd np))) (da.to (Same.upd np)) (tup_dp (In.kp hS k) np hx)
    have hdt12 : Dp K (wo [d] H12) (.ref ta) (trP tt) := dp hdt (kp12.wo (S' := [d]) (fun a h => h))
    refine ⟨_, rfl, d, c, _, rfl, da12, ⟨by decide, by decide⟩, fun H13 k13 hk13 kp13 da13 => ?_⟩
    have kp13H := kpH.trans kp13
    have hdt13 : Dp K (wo [d] H13) (.ref ta) (trP tt) := dp hdt12 (kp13.wo (S' := [d]) (fun a h => h))
    refine ⟨_, rfl, _, _, rfl, rfl, _, rfl, ?_⟩
    by_cases t1 : k13 < 6
    · rw [decT t1]
      refine iteT ⟨_, rfl, _, rfl, _, rfl, _, rfl, S, d, c, ta, tt, rfl, dS, In.kp hS kp13H, da13, hdt13, oktt, fun H14 v ev sh kp14 da14 hv => ⟨sz (by simp), fun p np => ?_⟩⟩
      exact fin H14 p (.put n k' ev) _ (kp13H.trans kp14) da14 np ⟨hn100, sh⟩ (.cons (.str _) (.cons (.str _) (.cons (.int _) (.cons hv .nil))))
    rw [decF t1]
    refine iteF ⟨_, rfl, rfl, _, rfl, ?_⟩
    have hxs13 : SqL K H13 ta xs := same_l wo_sub (by
      exact (same_l ((kp12.wo (S' := [d]) (fun a h => h)).trans (kp13.wo (S' := [d]) (fun a h => h))) hxs1))
    by_cases t2 : k13 = 6
    · rw [decT (by rw [t2])]
      refine iteT ⟨_, rfl, _, rfl, _, rfl, _, rfl, ta, xs, rfl, .inl hxs13, _, _, rfl, rfl, d, c, _, rfl, da13, ⟨by omega, by omega⟩, fun H14 k14 hk14 kp14 da14 => ⟨_, _, rfl, rfl, sz (by simp), fun p np => ?_⟩⟩
      exact fin H14 p (.take n k' (k14 - 1)) _ (kp13H.trans kp14) da14 np ⟨hn100, trivial⟩ (.cons (.str _) (.cons (.str _) (.cons (.int _) (.cons (.int _) .nil))))
    rw [decF (fun z => t2 (V.int.inj z))]
    refine iteF ⟨_, rfl, rfl, _, rfl, ?_⟩
    by_cases t3 : k13 = 7
    · rw [decT (by rw [t3])]
      refine iteT ?_
      have cont : ∀ (NX : L2.St → Hp → Prop) (f : Int) Hx, Kp [d] H Hx → DrawAt K Hx d c → (tRet (tTup (tCons (tC (.str "later")) (tCons (tVar 4) (tCons (tVar 6) (tCons (tCall (spOne K) [] C8.E0 (tCons (tVar 0) (tCons (tLst (tCons (tC (.int 5)) (tCons (tOp (rI0 fun i j => .int (i - j)) (tC (.int 0)) (tVar 9)) (tCons (tOp (rI0 fun i j => .int (i - j)) (tOp (rI0 fun i j => .int (i - j)) (tC (.int 0)) (tVar 9)) (tC (.int 1))) (tCons (tCall (spPick K) [] C8.E0 (tCons (tVar 0) (tCons (tC (.int 2000)) tNil))) (tCons (tOp (rI CPow fun i j => .int (i ^ j.toNat)) (tC (.int 10)) (tC (.int 6))) tNil)))))) tNil))) tNil)))))) { nx := NX, rt := Q }
          [some (.ref d), some (.ref o), some (.ref nl), none, some (.str n), some (.ref mm), some (.int k'), some (.ref ta), some (.int k13), some (.int f), none] Hx := by
        intro NX f Hx kpx dax
        refine ⟨_, rfl, _, rfl, _, rfl, _, rfl, _, _, rfl, rfl, _, rfl, _, _, rfl, rfl, _, _, rfl, rfl, _, rfl, d, c, _, rfl, dax, ⟨by decide, by decide⟩, fun H14 k14 hk14 kp14 da14 => ⟨_, _, rfl, rfl, ⟨by decide, by decide, by decide⟩, sz (by simp), fun p np => ?_⟩⟩
        refine ⟨d, c, p, _, rfl, da14.to (Same.upd np), sql_new da14.ins np, ⟨by simp, by simp⟩, fun H16 y hy kp16 da16 => ⟨sz (by simp), fun p2 np2 => ?_⟩⟩
        obtain ⟨bv, rfl⟩ : ∃ bv, y = V.int bv := by
          simp only [List.mem_cons, List.not_mem_nil, or_false] at hy
          rcases hy with rfl | rfl | rfl | rfl | rfl <;> exact ⟨_, rfl⟩
        exact fin H16 p2 (.later n k' bv) _ (kpx.trans (kp14.trans ((Kp.of (Same.upd np)).trans kp16))) da16 np2 ⟨hn100, trivial⟩ (.cons (.str _) (.cons (.str _) (.cons (.int _) (.cons (.int _) .nil))))
      refine ⟨_, rfl, sz (by simp), fun pe npe => ?_⟩
      have sE := Same.upd (o := .lst []) npe
      refine ⟨trP tt, .list [], dp hdt13 (wo_sub.trans sE), .lst (SqL.of upd_same) .nil, (shp_tr oktt).ok (by decide), (Shp.lst (n := 0) (by simp)).ok (by decide), _, rfl, ?_⟩
      cases tt with
      | nil => exact iteF (cont _ 0 _ (kp13H.trans (Kp.of sE)) (da13.to sE))
      | cons e1 r1 =>
        cases hxs with
        | cons g1 g2 =>
          rename_i x0 xs0
          have hx0 : (x0 :: xs0)[0]? = some x0 := rfl
          obtain ⟨e2, ev2, w2, r2, ex, ht2, gg2, hd2, hs2, e02, _⟩ := ev_in oktt.good (DpAll.cons g1 g2) hx0
          subst ex
          rw [sc_head e02] at hs2
          have hs13 := same_t (((kp12.wo (S' := [d]) (fun a h => h)).trans (kp13.wo (S' := [d]) (fun a h => h))).trans (wo_sub.trans sE)) hs2
          exact iteT ⟨_, rfl, ta, _, _, _, rfl, rfl, same_l sE hxs13, atI_nat (j := 0) rfl, e2, _, _, _, rfl, rfl, hs13, atI_nat (j := 0) rfl, cont _ _ _ (kp13H.trans (Kp.of sE)) (da13.to sE)⟩
    rw [decF (fun z => t3 (V.int.inj z))]
    refine iteF ⟨_, rfl, rfl, _, rfl, ?_⟩
    by_cases t4 : k13 = 8
    · rw [decT (by rw [t4])]
      refine iteT ⟨_, rfl, _, rfl, _, rfl, _, rfl, d, c, rfl, da13, fun H14 i14 kp14 da14 => ⟨_, rfl, d, c, rfl, da14, fun H15 i15 kp15 da15 => ⟨_, _, rfl, rfl, sz (by simp), fun p np => ?_⟩⟩⟩
      refine ⟨d, c, p, _, rfl, da15.to (Same.upd np), sql_new da15.ins np, ⟨by simp, by simp⟩, fun H16 y hy kp16 da16 => ⟨sz (by simp), fun p2 np2 => ?_⟩⟩
      obtain ⟨cv, rfl⟩ : ∃ cv, y = V.int cv := by
        simp only [List.mem_cons, List.not_mem_nil, or_false] at hy
        rcases hy with rfl | rfl | rfl | rfl <;> exact ⟨_, rfl⟩
      exact fin H16 p2 (.part n k' cv) _ (kp13H.trans (kp14.trans (kp15.trans ((Kp.of (Same.upd np)).trans kp16)))) da16 np2 ⟨hn100, trivial⟩ (.cons (.str _) (.cons (.str _) (.cons (.int _) (.cons (.int _) .nil))))
    rw [decF (fun z => t4 (V.int.inj z))]
    refine iteF ⟨_, rfl, _, _, rfl, rfl, _, rfl, ?_⟩
    by_cases t5 : k13 < 11
    · rw [decT t5]
      have hkn13 := (kp12.trans kp13).keep kn _ knd hkn
      refine iteT ⟨_, rfl, _, rfl, mm, _, _, _, rfl, rfl, SqL.of ((kp12.trans kp13).keep mm _ mmd hmm), atI_nat (j := 1) rfl, kn, _, rfl, .inl hkn13, fun p1 np1 => ?_⟩
      have s1 := Same.upd (o := .lst ((ps.map kvI).map fun kv => kV kv.1)) np1
      have p1d : p1 ∉ [d] := da13.ins.out np1
      refine ⟨_, rfl, d, c, rfl, da13.to s1, fun H14 i14 kp14 da14 => ⟨_, rfl, d, c, _, rfl, da14, ⟨by decide, by decide⟩, fun H15 k15 hk15 kp15 da15 => ⟨_, _, rfl, rfl, ⟨by decide, by decide, by decide⟩, sz (by simp), fun p2 np2 => ?_⟩⟩⟩
      have s2 := Same.upd (o := .lst [.int i14, .int k15, .int (10 ^ 6)]) np2
      have h1 := s2 _ _ ((kp14.trans kp15).keep p1 _ p1d upd_same)
      refine ⟨p1, p2, _, _, rfl, rfl, h1, upd_same, sz (by simp; omega), fun p3 np3 => ?_⟩
      have s3 := Same.upd (o := .lst ((ps.map kvI).map (fun kv => kV kv.1) ++ [.int i14, .int k15, .int (10 ^ 6)])) np3
      have da3 := (da15.to s2).to s3
      refine ⟨d, c, p3, _, rfl, da3, sql_new (da15.to s2).ins np3, ⟨by simp, by simp; omega⟩, fun H16 y hy kp16 da16 => ?_⟩
      obtain ⟨at', rfl⟩ : ∃ at' : Int, y = V.int at' := by
        rcases List.mem_append.mp hy with h | h
        · obtain ⟨kv, hkv, rfl⟩ := List.mem_map.mp h
          obtain ⟨pq, _, rfl⟩ := List.mem_map.mp hkv
          exact ⟨pq.1, rfl⟩
        · simp only [List.mem_cons, List.not_mem_nil, or_false] at h
          rcases h with rfl | rfl | rfl <;> exact ⟨_, rfl⟩
      have kpX := kp13H.trans ((Kp.of s1).trans (kp14.trans (kp15.trans ((Kp.of (s2.trans s3)).trans kp16))))
      refine ⟨_, rfl, _, rfl, _, rfl, _, rfl, d, c, rfl, da16, fun H17 i17 kp17 da17 => ⟨_, rfl, d, c, rfl, da17, fun H18 i18 kp18 da18 => ⟨sz (by simp), fun p np => ?_⟩⟩⟩
      refine ⟨d, c, p, _, rfl, da18.to (Same.upd np), sql_new da18.ins np, ⟨by simp, by simp⟩, fun H19 y hy kp19 da19 => ⟨sz (by simp), fun p9 np9 => ?_⟩⟩
      obtain ⟨bv, rfl⟩ : ∃ bv, y = V.int bv := by
        simp only [List.mem_cons, List.not_mem_nil, or_false] at hy
        rcases hy with rfl | rfl | rfl <;> exact ⟨_, rfl⟩
      exact fin H19 p9 (.pace n at' bv) _ (kpX.trans (kp17.trans (kp18.trans ((Kp.of (Same.upd np)).trans kp19)))) da19 np9 ⟨hn100, trivial⟩ (.cons (.str _) (.cons (.str _) (.cons (.int _) (.cons (.int _) .nil))))
    rw [decF t5]
    refine iteF ⟨_, rfl, d, c, _, rfl, da13, ⟨by decide, by decide⟩, fun H14 k14 hk14 kp14 da14 => ⟨rfl, _, rfl, ?_⟩⟩
    have kpz := kp13H.trans kp14
    by_cases t6 : k14 = 0
    · rw [decT (by rw [t6])]
      refine iteT ⟨_, rfl, sz (by simp), fun p np => ?_⟩
      exact fin H14 p (.drop n) _ kpz da14 np ⟨hn100, trivial⟩ (.cons (.str _) (.cons (.str _) .nil))
    rw [decF (fun z => t6 (V.int.inj z))]
    refine iteF ⟨_, rfl, sz (by simp), fun p np => ?_⟩
    exact fin H14 p (.add n) _ kpz da14 np ⟨hn100, trivial⟩ (.cons (.str _) (.cons (.str _) .nil))
end
end K59
set_option maxHeartbeats 4000000
namespace K59
open PySem PySem.Spec PyProof.Rows L2
theorem lw_lb {K : PySem.W.Frag} {G H : Hp} {T : List Addr} (s : Same G (wo T H)) : ∀ {E : List W3} {bk : Bk}, Paired (lwR K G H) E bk → (∀ w ∈ E, ∀ a ∈ pl3 w, a ∉ T) → Paired (lbR K (wo T H)) (lwK E bk) bk
  | _, _, .nil, _ => .nil
  | w :: _, _, .cons ⟨r1, r2, ts, r3, r4⟩ t, h =>
    have f := h w List.mem_cons_self
    .cons ⟨rfl, w.1, w.2.1, w.2.2, ts, rfl, by rw [wo_out (f _ (by simp [pl3]))]; exact r1, by rw [wo_out (f _ (by simp [pl3]))]; exact r2, by rw [wo_out (f _ (by simp [pl3]))]; exact r3, K59.da r4 s⟩ (lw_lb s t fun w' hw => h w' (List.mem_cons_of_mem _ hw))
theorem LOwn.pl {K : PySem.W.Frag} {S : List Addr} {H : Hp} {o : Addr} {bk : Bk} {E : List W3} (h : LOwn K S H o bk E) {w : W3} (hw : w ∈ E) {a : Addr} (ha : a ∈ pl3 w) : a ≠ o ∧ a ∉ S := by
  have nd := h.nd
  unfold plAll at nd
  rw [List.nodup_cons] at nd
  have m := List.mem_flatMap.mpr ⟨w, hw, ha⟩
  exact ⟨fun z => nd.1 (z ▸ m), h.out a (List.mem_cons_of_mem _ m)⟩
theorem LOwn.lbIs {K : PySem.W.Frag} {S T : List Addr} {H : Hp} {o : Addr} {bk : Bk} {E : List W3} (h : LOwn K S H o bk E) (hT : ∀ a ∈ T, a ∈ S) : LbIs K (wo T H) o bk :=
  ⟨_, by rw [wo_out (fun z => h.out o List.mem_cons_self (hT _ z))]; exact h.at_, lw_lb (wo_less fun a ha => List.mem_append_right _ (hT a ha)) h.ent fun w hw a ha z => (h.pl hw ha).2 (hT a z)⟩
theorem LOwn.lbO {K : PySem.W.Frag} {S T : List Addr} {H : Hp} {o : Addr} {bk : Bk} {E : List W3} (h : LOwn K S H o bk E) (hT : ∀ a ∈ T, a ∈ S) : LbO K (o :: T) H o bk :=
  ⟨_, h.at_, lw_lb (wo_less fun a ha => by
    rcases List.mem_cons.mp ha with rfl | ha
    · exact List.mem_append_left _ List.mem_cons_self
    · exact List.mem_append_right _ (hT a ha)) h.ent fun w hw a ha z => by
      rcases List.mem_cons.mp z with z | z
      · exact (h.pl hw ha).1 z
      · exact (h.pl hw ha).2 (hT a z)⟩
theorem Kp.thru {S T : List Addr} {H H1 H2 : Hp} (a : Kp S H H1) (b : Kp T H1 H2) (f : ∀ x ∈ T, x ∈ S ∨ H x = none) : Kp S H H2 := ⟨fun c o h e => b.keep c o (fun z => (f c z).elim h fun n => by rw [n] at e; cases e) (a.keep c o h e), fun c h => b.dom c (a.dom c h)⟩
theorem wo_nil {H : Hp} : wo [] H = H := by funext a; exact wo_out (by simp)
theorem LOwn.kp {K : PySem.W.Frag} {S T : List Addr} {H H' : Hp} {o : Addr} {bk : Bk} {E : List W3} (h : LOwn K S H o bk E) (k : Kp T H H') (hT : ∀ a ∈ T, a ∈ S) : LOwn K S H' o bk E := by
  have off : ∀ a ∈ plAll o E, a ∉ T := fun a ha z => h.out a ha (hT a z)
  refine ⟨k.keep _ _ (off o List.mem_cons_self) h.at_, Paired.imp' h.ent fun w p hw r => ?_, h.nd, h.out⟩
  obtain ⟨r1, r2, ts, r3, r4⟩ := r
  have of : ∀ a ∈ pl3 w, a ∉ T := fun a ha => off a (List.mem_cons_of_mem _ (List.mem_flatMap.mpr ⟨w, hw, ha⟩))
  exact ⟨k.keep _ _ (of _ (by simp [pl3])) r1, k.keep _ _ (of _ (by simp [pl3])) r2, ts, k.keep _ _ (of _ (by simp [pl3])) r3, da r4 (k.wo fun a ha => List.mem_append_right _ (hT a ha))⟩
theorem DrawAt.far {K : PySem.W.Frag} {H H1 H2 : Hp} {d c : Addr} (h0 : DrawAt K H d c) (h1 : DrawAt K H1 d c) (k : Kp [d] H H2) (e : ∀ u, H1 d = some u → H2 d = some u) : DrawAt K H2 d c := by
  obtain ⟨a1, a2, a3, a4, cs, b1, b2, b3⟩ := h1.ex
  obtain ⟨_, _, _, _, cs', _, c2, _⟩ := h0.ex
  exact ⟨a1, a2, a3, a4, cs', e _ b1, same_l (k.wo fun _ h => h) c2, b3⟩
theorem LbO.to {K : PySem.W.Frag} {S : List Addr} {H H' : Hp} {o : Addr} {bk : Bk} (h : LbO K S H o bk) (s : Same H H') : LbO K S H' o bk := by
  obtain ⟨kvs, h1, h2⟩ := h
  exact ⟨kvs, s _ _ h1, lbR.to (Same.wo s) h2⟩
theorem LbO.kp {K : PySem.W.Frag} {S T : List Addr} {H H' : Hp} {o : Addr} {bk : Bk} (h : LbO K S H o bk) (k : Kp T H H') (hT : ∀ a ∈ T, a ∈ S) (ho : o ∉ T) : LbO K S H' o bk := by
  obtain ⟨kvs, h1, h2⟩ := h
  exact ⟨kvs, k.keep _ _ ho h1, lbR.to (k.wo hT) h2⟩
theorem nameOk.shp {n : Str} (h : nameOk n) {k : Nat} : Shp k (.str n) := ⟨by
  show n.cps.all (· < 0x110000) = true
  rw [Array.all_eq_true']
  intro c hc
  have := h.2.2 c (Array.mem_toList_iff.mpr hc)
  exact decT (by omega), Nat.zero_le _⟩
theorem shpStr (z : Str) (h : z.cps.all (· < 0x110000) = true) {k : Nat} : Shp k (.str z) := ⟨h, Nat.zero_le _⟩
theorem Good.shp {b : Bk} {d : Deed} (ok : BkOk b) (g : Good b d) : Shp 2 d.P := by
  have nm : nameOk d.name := by
    cases d
    case new => exact g.1
    all_goals
      obtain ⟨t, ht, _⟩ := g
      exact ok.nm _ (atA_in ht)
  have ev : ∀ n k e, d = .put n k e → GoodEv e := fun n k e h => by
    subst h
    obtain ⟨t, _, g⟩ := g
    exact g.2.1
  refine Shp.tup (n := 1) fun x hx => ?_
  rcases List.mem_cons.mp hx with rfl | hx
  · cases d <;> exact shpStr _ (by simp only [Deed.word]; decide +kernel)
  rcases List.mem_cons.mp hx with rfl | hx
  · exact nm.shp
  cases d <;> simp only [Deed.rest, List.mem_cons, List.not_mem_nil, or_false] at hx
  case put n k e =>
    rcases hx with rfl | rfl
    · exact Shp.int _
    · exact shp_ev (ev _ _ _ rfl)
  all_goals first | (rcases hx with rfl | rfl <;> exact Shp.int _) | (subst hx; exact Shp.int _)
theorem goodAll_shp : ∀ {ds : List Deed} {b : Bk}, BkOk b → goodAll b ds → ∀ e ∈ ds, Shp 2 e.P
  | [], _, _, _, _, h => by simp at h
  | d :: ds, b, ok, g, e, h => by
    rcases List.mem_cons.mp h with rfl | h
    · exact Good.shp ok g.1
    · exact goodAll_shp (done_ok ok g.1) g.2 e h
theorem BadAt.shp {x z : Str} {bad : PyData} (h : BadAt x z bad) : Shp 2 bad := by
  cases h with
  | deed => exact Shp.tup fun d hd => by simp at hd
  | tape => exact ⟨by decide +kernel, by decide +kernel⟩
  | name => exact ⟨by decide +kernel, by decide +kernel⟩
theorem goodAll_snoc : ∀ {ds : List Deed} {b : Bk} {d : Deed}, goodAll b ds → Good (doneAll b ds) d → goodAll b (ds ++ [d])
  | [], _, _, _, g => ⟨g, trivial⟩
  | _ :: _, _, _, h, g => ⟨h.1, goodAll_snoc h.2 g⟩
section
variable {P : Program} {w : World} {K : PySem.W.Frag} {mg : Str → Option Value} {base : Heap}
def spRowOf (K : PySem.W.Frag) : Sp := fun vs H Q _ => ∃ (S : List Addr) (d c b nl : Addr) (bk : Bk) (ns : List Str), vs = [.ref d, .ref b, .ref nl] ∧ In S H ∧ d ∈ S ∧ b ∈ S ∧ DrawAt K H d c ∧ LbO K S H b bk ∧ BkOk bk ∧ nl ∉ S ∧ H nl = some (.lst (ns.map V.str)) ∧ ns.length = 8 ∧ (∀ n ∈ ns, n.length ≤ 40) ∧
  (∀ H' p dl o xs ds, Kp [d] H H' → DrawAt K H' d c → H dl = none → H o = none → H p = none → H' p = some (.tup [.ref dl, .str "", .ref o]) → H' dl = some (.lst xs) → DpAll K (wo (o :: S) H') xs (ds.map Deed.P) → goodAll bk ds → (∀ e ∈ ds, DeedSh e) → ds.length ≤ 7 → dl ≠ o → LbO K (o :: S) H' o (doneAll bk ds) → Q (.ref p) H') ∧
  (∀ H' p dl xs ds tl x z bad tl', Kp [d] H H' → DrawAt K H' d c → H dl = none → H p = none → H' p = some (.tup [.ref dl, .str z, .ref b]) → H' dl = some (.lst xs) → tl = bad :: tl' → BadAt x z bad → DpAll K (wo S H') xs (ds.map Deed.P ++ tl) → goodAll bk ds → (∀ e ∈ ds, DeedSh e) → ds.length + tl.length ≤ 8 → (∀ y ∈ ds.map Deed.P ++ tl, Shp 2 y) → Q (.ref p) H')
abbrev s_law_row_of : Stmt := top 131
abbrev N_law_row_of : List Str := ["_law_draw", "_law_book", "_law_names_here", "_law_deeds", "_law_here", "_law_k", "_law_deed", "_law_odds", "_law_bad", "_law_word_here", "_law_at"]
theorem sc_law_row_of : FnScope N_law_row_of ["_law_draw", "_law_book", "_law_names_here"] (C8.fnScope s_law_row_of) := C8.fnScope_by (by decide +kernel)
theorem c_law_row_of (T : Fx w K mg) : C8.Cal P w K mg base 6 "_law_row_of" (spRowOf K) [] := by
  refine cal_ T.d_law_row_of (fun _ _ _ _ _ _ us hl => match us, hl with | [_, _, _], _ => rfl) sc_law_row_of (fun vs H Q E h => by obtain ⟨S, d, c, b, nl, bk, ns, rfl, _⟩ := h; rfl) (fun f cdv A outer s H vs Q E hr h => ?_)
  have nd := sc_law_row_of.nd
  have hu := hu_of hr
  have hu64 := hu64 hr
  refine ⟨_, (pss_cons (ps_par (i := 3) (j := 4) rfl nd rfl rfl (by decide) rfl rfl (pa_cons (pe_lst pa_nil) (pa_cons (C8.pe_c (c_law_book_copy T) hr (by decide) rfl
      (pa_cons (pv 1) pa_nil)) pa_nil)) rfl) (pss_cons (ps_for PassesOwn.never rfl (pi_range1 rfl T.f_range (pa_cons (C8.pe_c (c_law_pick T) hr (by decide) rfl
      (pa_cons (pv 0) (pa_cons pe_int pa_nil))) pa_nil)) (pg_name (i := 5) nd rfl (by first | exact Or.inl rfl | exact Or.inr rfl)) (pss_cons (ps_set
      (i := 6) nd rfl (by first | exact Or.inl rfl | exact Or.inr rfl) (C8.pe_c (c_law_slim_deed T) hr (by decide) rfl (pa_cons (pv 0) (pa_cons (pv 4)
      (pa_cons (pv 2) pa_nil))))) (pss_one (ps_if (pt_cmpR op_eq (C8.pe_c (c_law_slim_word T) hr (by decide) rfl (pa_cons (pv 4) (pa_cons (pv 6) pa_nil))) pe_str
      (nomark _)) (pss_cons (ps_expr (C8.pe_c (c_law_slim_done T) hr (by decide) rfl (pa_cons (pv 4) (pa_cons (pv 6) pa_nil)))) (pss_one (ps_expr
      (pe_bm PySem.F.plainAttrs_list PySem.F.slot_list_append PySem.F.type_list_append mt_append (pv 3) (pa_cons (pv 6) pa_nil))))) pss_nil))))
      (pss_cons (ps_set (i := 7) nd rfl (by first | exact Or.inl rfl | exact Or.inr rfl) (pe_lst (pa_cons (pe_tup (pa_cons (pe_tup pa_nil) (pa_cons pe_str pa_nil)))
      (pa_cons (pe_tup (pa_cons (pe_tup (pa_cons pe_str (pa_cons pe_str pa_nil))) (pa_cons pe_str pa_nil))) (pa_cons (pe_tup (pa_cons (pe_tup (pa_cons pe_str
      (pa_cons pe_str (pa_cons pe_int pa_nil)))) (pa_cons pe_str pa_nil))) pa_nil))))) (pss_cons (ps_if (pt_cmpR op_eq (C8.pe_c (c_law_pick T) hr (by decide) rfl
      (pa_cons (pv 0) (pa_cons pe_int pa_nil))) pe_int (nomark _)) (pss_one (ps_ret (pe_tup (pa_cons (pv 3) (pa_cons pe_str (pa_cons (pv 4) pa_nil)))))) pss_nil)
      (pss_cons (ps_asg (C8.pe_c (c_law_one T) hr (by decide) rfl (pa_cons (pv 0) (pa_cons (pv 7) pa_nil))) (pg_tup rfl (pgs_cons (pg_name (i := 8) nd rfl
      (by first | exact Or.inl rfl | exact Or.inr rfl)) (pgs_cons (pg_name (i := 9) nd rfl (by first | exact Or.inl rfl | exact Or.inr rfl)) pgs_nil))))
      (pss_cons (ps_set (i := 10) nd rfl (by first | exact Or.inl rfl | exact Or.inr rfl) (C8.pe_c (c_law_pick T) hr (by decide) rfl (pa_cons (pv 0)
      (pa_cons (pe_op op_add (pe_callB (r := rLenSq K) call_len_seq (by rfl) T.f_len PySem.boot_len (pa_cons (pv 3) pa_nil)) pe_int) pa_nil))))
      (pss_one (ps_ret (pe_tup (pa_cons (pe_op op_cat (pe_op op_cat (pe_slice (r := rSlL K) sl_list (pv 3) po_none (po_some (pv 10))) (pe_lst (pa_cons
      (pv 8) pa_nil))) (pe_slice (r := rSlL K) sl_list (pv 3) (po_some (pv 10)) po_none)) (pa_cons (pv 9) (pa_cons (pv 1) pa_nil)))))))))))), ?_⟩

  obtain ⟨S, d, c, b, nl, bk, ns, rfl, hS, dS, bS, da, lbo, ok, nlS, hnl, nsl, nss, q1, q2⟩ := h
  refine ⟨sz (by simp), fun dl ndl => ⟨_, rfl, dl :: S, b, bk, rfl, ?_, List.mem_cons_of_mem _ bS, ?_, ok, fun H2 o E s2 fr lo => ?_⟩⟩
  · exact In.plus (In.same hS (Same.upd ndl)) (by rw [upd_same]; exact fun z => nomatch z)
  · obtain ⟨kvs, hb, hr'⟩ := lbo
    exact ⟨kvs, Same.upd ndl _ _ hb, lbR.to (wo_plus (Same.upd ndl) ndl) hr'⟩
  have s1 := Same.upd (o := .lst []) ndl
  have da2 := (da.to s1).to s2
  refine ⟨_, _, rfl, _, rfl, d, c, _, rfl, da2, ⟨by decide, by decide⟩, fun H3 k3 hk3 kp3 da3 => ?_⟩
  refine ⟨_, rfl, by omega, by omega, ?_⟩
  have dnl : d ≠ dl := fun z => hS d dS (by rw [z]; exact ndl)
  have nnl : nl ≠ d := fun z => nlS (by rw [z]; exact dS)
  have hdl3 : H3 dl = some (.lst []) := kp3.keep dl _ (by simpa using Ne.symm dnl) (s2 _ _ upd_same)
  have sb : ∀ a ∈ [d], a ∈ dl :: S := fun a ha => by rw [List.mem_singleton.mp ha]; exact List.mem_cons_of_mem _ dS
  have kpH : Kp [d] H H3 := (Kp.of (s1.trans s2)).trans kp3
  have lo3 := lo.kp kp3 sb
  refine for_it walk_range (fun i σ H' => (∃ x5 x6, σ = [some (.ref d), some (.ref b), some (.ref nl), some (.ref dl), some (.ref o), x5, x6, none, none, none, none]) ∧ Kp [d] H H' ∧ DrawAt K H' d c ∧ ∃ (ds : List Deed) (E : List W3) (xs : List V), LOwn K (dl :: S) H' o (doneAll bk ds) E ∧ (∀ a ∈ plAll o E, H a = none) ∧ H' dl = some (.lst xs) ∧ DpAll K (wo (plAll o E ++ dl :: S) H') xs (ds.map Deed.P) ∧ goodAll bk ds ∧ (∀ e ∈ ds, DeedSh e) ∧ ds.length ≤ i) ?_ (fun _ _ _ _ _ => trivial) ?_ ?_
  · exact ⟨⟨_, _, rfl⟩, kpH, da3, [], E, [], lo3, fun a ha => wasNone s1 (fr a ha), hdl3, .nil, trivial, fun _ h => by simp at h, Nat.zero_le _⟩
  · rintro i x σ H7 H8 hi ⟨⟨x5, x6, rfl⟩, kp7, da7, ds, E7, xs, lo7, fr7, hdl7, dat7, ga7, sh7, len7⟩ ⟨rfl, rfl⟩
    have ok7 := goodAll_ok ok ga7
    have hS7 : In (dl :: S) H8 := In.plus (In.kp hS kp7) (by rw [hdl7]; exact fun z => nomatch z)
    have hnl7 := kp7.keep nl _ (by simpa using nnl) hnl
    have sbE : ∀ a ∈ [d], a ∈ plAll o E7 ++ dl :: S := fun a ha => List.mem_append_right _ (sb a ha)
    refine ⟨_, rfl, _, rfl, _, rfl, plAll o E7 ++ dl :: S, d, c, o, nl, doneAll bk ds, ns, rfl, sbE d (by simp), lo7.ins hS7, da7, lo7.lbIs sb, ok7, nnl, hnl7, nsl, nss, fun H9 v dd shd kp9 da9 dp9 => ?_⟩
    have lo9 := lo7.kp kp9 sb
    refine ⟨_, rfl, _, rfl, o, v, doneAll bk ds, dd, rfl, (lo9.lbIs (T := []) (by simp)).to wo_sub, ok7, dp dp9 wo_sub, shd, fun H10 z s10 hz => ⟨rfl, _, rfl, ?_⟩⟩
    have lo10 := lo9.to s10
    have dp10 := dp dp9 (Same.wo s10)
    have kp10 : Kp [d] H8 H10 := kp9.trans (Kp.of s10)
    have dat10 := K59.da dat7 (kp10.wo sbE)
    have hdl10 := kp10.keep dl _ (by simpa using Ne.symm dnl) hdl7
    have da10 := da9.to s10
    have hS10 := In.kp hS7 kp10
    by_cases cz : z = ""
    · rw [decT (by rw [cz])]
      refine iteT ⟨_, rfl, _, rfl, dl :: S, o, v, doneAll bk ds, E7, dd, rfl, hS10, lo10, ok7, hz cz, dp10, fun H11 E11 kp11 fr11 lo11 => ?_⟩
      have out7 : ∀ a ∈ plAll o E7, a ∉ dl :: S := lo7.out
      have dl7 : dl ∉ plAll o E7 := fun z => out7 dl z List.mem_cons_self
      have hdl11 := kp11.keep dl _ dl7 hdl10
      have fr11' : ∀ a ∈ plAll o E11, H a = none := fun a ha => (fr11 a ha).elim (fr7 a) fun n => kp_none (kp7.trans kp10) n
      have d7 : d ∉ plAll o E7 := fun z => out7 d z (List.mem_cons_of_mem _ dS)
      have kpB : Kp [d] H H11 := (kp7.trans kp10).thru kp11 fun a ha => .inr (fr7 a ha)
      have da11 : DrawAt K H11 d c := da.far da10 kpB fun u e => kp11.keep d u d7 e
      have swA := kp_wo (S := dl :: S) kp11 fr11
      refine ⟨_, rfl, .inl ⟨rfl, _, SqL.of hdl11⟩, _, rfl, dl, xs, _, rfl, rfl, hdl11, szl (by rw [DpAll.len dat7, List.length_map]; omega), ?_⟩
      have kpD : Kp [dl] H11 (L2.upd H11 dl (.lst (xs ++ [v]))) := Kp.upd (by simp)
      have kpF : Kp [d] H (L2.upd H11 dl (.lst (xs ++ [v]))) := kpB.thru kpD fun a ha => .inr (by rw [List.mem_singleton.mp ha]; exact ndl)
      refine ⟨⟨_, _, rfl⟩, kpF, da.far da11 kpF fun u e => by rw [upd_ne dnl]; exact e, ds ++ [dd], E11, xs ++ [v], ?_, fr11', upd_same, ?_, goodAll_snoc ga7 (hz cz), ?_, by rw [List.length_append]; show ds.length + 1 ≤ i + 1; omega⟩
      · rw [doneAll_snoc]; exact lo11.kp kpD (by simp)
      · rw [wo_upd (List.mem_append_right _ List.mem_cons_self), List.map_append]
        exact DpAll.app (K59.da dat10 swA) (.cons (dp dp10 swA) .nil)
      · intro e he
        rcases List.mem_append.mp he with he | he
        · exact sh7 e he
        · rw [List.mem_singleton.mp he]; exact shd
    · rw [decF (fun y => cz (V.str.inj y))]
      refine iteF ⟨⟨_, _, rfl⟩, kp7.trans kp10, da10, ds, E7, xs, lo10, fr7, hdl10, dat10, ga7, sh7, by omega⟩
  · rintro σ H7 ⟨⟨x5, x6, rfl⟩, kp7, da7, ds, E7, xs, lo7, fr7, hdl7, dat7, ga7, sh7, len7⟩
    have lds : xs.length = ds.length := by rw [DpAll.len dat7, List.length_map]
    have l6 : ds.length ≤ 6 := by omega
    have oH : H o = none := fr7 o List.mem_cons_self
    have dlo : dl ≠ o := fun z => lo7.out o List.mem_cons_self (by rw [← z]; exact List.mem_cons_self)
    have dat8 : DpAll K (wo (o :: S) H7) xs (ds.map Deed.P) := K59.da dat7 (wo_less fun a ha => by
      rcases List.mem_cons.mp ha with rfl | ha
      · exact List.mem_append_left _ List.mem_cons_self
      · exact List.mem_append_right _ (List.mem_cons_of_mem _ ha))
    have lb7 := lo7.lbO (T := S) fun a ha => List.mem_cons_of_mem _ ha
    have hS7 := In.kp hS kp7
    have ok7 := goodAll_ok ok ga7
    refine ⟨sz (by simp), fun e0 ne0 => ⟨sz (by simp), fun t0 nt0 => ⟨sz (by simp), fun e1 ne1 => ⟨sz (by simp), fun t1 nt1 => ⟨sz (by simp), fun e2 ne2 => ⟨sz (by simp), fun t2 nt2 => ⟨sz (by simp), fun L nL => ?_⟩⟩⟩⟩⟩⟩⟩
    have g1 := Same.upd (o := .tup []) ne0
    have g2 := Same.upd (o := .tup [.ref e0, .str "baddeed"]) nt0
    have g3 := Same.upd (o := .tup [.str "drop", .str "none at all"]) ne1
    have g4 := Same.upd (o := .tup [.ref e1, .str "notape"]) nt1
    have g5 := Same.upd (o := .tup [.str "new", .str "A", .int 96]) ne2
    have g6 := Same.upd (o := .tup [.ref e2, .str "badname"]) nt2
    have g7 := Same.upd (o := .lst [.ref t0, .ref t1, .ref t2]) nL
    have k67 := g7
    have k57 := g6.trans k67
    have k47 := g5.trans k57
    have k37 := g4.trans k47
    have k27 := g3.trans k37
    have k17 := g2.trans k27
    have s8 := g1.trans k17
    have v0 := k17 _ _ (upd_same (a := e0))
    have v1 := k27 _ _ (upd_same (a := t0))
    have v2 := k37 _ _ (upd_same (a := e1))
    have v3 := k47 _ _ (upd_same (a := t1))
    have v4 := k57 _ _ (upd_same (a := e2))
    have v5 := k67 _ _ (upd_same (a := t2))
    have m1 := hS7.out (wasNone (g1.trans g2) ne1)
    have m2 := hS7.out (wasNone (g1.trans (g2.trans (g3.trans g4))) ne2)
    have mL : ∀ a ∈ [d], a ≠ L := fun a ha z => hS7 a (by rw [List.mem_singleton.mp ha]; exact dS) (by rw [z]; exact wasNone (g1.trans (g2.trans (g3.trans (g4.trans (g5.trans g6))))) nL)
    have da8 := da7.to s8
    have kp8 : Kp [d] H _ := kp7.trans (Kp.of s8)
    have hdl8 := s8 _ _ hdl7
    have lb8 := lb7.ex
    have dat9 := K59.da dat8 (Same.wo s8)
    have vL := upd_same (H := L2.upd (L2.upd (L2.upd (L2.upd (L2.upd (L2.upd H7 e0 (.tup [])) t0 (.tup [.ref e0, .str "baddeed"])) e1 (.tup [.str "drop", .str "none at all"])) t1 (.tup [.ref e1, .str "notape"])) e2 (.tup [.str "new", .str "A", .int 96])) t2 (.tup [.ref e2, .str "badname"])) (a := L) (o := .lst [.ref t0, .ref t1, .ref t2])
    have hS8 := In.same hS7 s8
    have lb8 : LbO K (o :: S) (L2.upd (L2.upd (L2.upd (L2.upd (L2.upd (L2.upd (L2.upd H7 e0 (.tup [])) t0 (.tup [.ref e0, .str "baddeed"])) e1 (.tup [.str "drop", .str "none at all"])) t1 (.tup [.ref e1, .str "notape"])) e2 (.tup [.str "new", .str "A", .int 96])) t2 (.tup [.ref e2, .str "badname"])) L (.lst [.ref t0, .ref t1, .ref t2])) o (doneAll bk ds) := lb7.to s8
    generalize L2.upd (L2.upd (L2.upd (L2.upd (L2.upd (L2.upd (L2.upd H7 e0 (.tup [])) t0 (.tup [.ref e0, .str "baddeed"])) e1 (.tup [.str "drop", .str "none at all"])) t1 (.tup [.ref e1, .str "notape"])) e2 (.tup [.str "new", .str "A", .int 96])) t2 (.tup [.ref e2, .str "badname"])) L (.lst [.ref t0, .ref t1, .ref t2]) = H8 at *
    have d0 : Dp K (wo S H8) (.ref e0) (.tuple []) := .tup (SqT.of (by rw [wo_out (hS7.out ne0)]; exact v0)) .nil
    have d1 : Dp K (wo S H8) (.ref e1) (Deed.drop "none at all").P := .tup (SqT.of (by rw [wo_out m1]; exact v2)) (.cons (.str _) (.cons (.str _) .nil))
    have d2 : Dp K (wo S H8) (.ref e2) (Deed.new "A" 96).P := .tup (SqT.of (by rw [wo_out m2]; exact v4)) (.cons (.str _) (.cons (.str _) (.cons (.int _) .nil)))
    refine ⟨_, rfl, d, c, _, rfl, da8, ⟨by decide, by decide⟩, fun H9 k9 hk9 kp9 da9 => ⟨rfl, _, rfl, ?_⟩⟩
    have sbS : ∀ a ∈ [d], a ∈ S := fun a ha => by rw [List.mem_singleton.mp ha]; exact dS
    have sbO : ∀ a ∈ [d], a ∈ o :: S := fun a ha => List.mem_cons_of_mem _ (sbS a ha)
    have hdl9 := kp9.keep dl _ (by simpa using Ne.symm dnl) hdl8
    by_cases c0 : k9 = 0
    · rw [decT (by rw [c0])]
      have dof : o ∉ [d] := fun z => hS d dS (by rw [← List.mem_singleton.mp z]; exact oH)
      refine iteT ⟨_, rfl, _, rfl, by show 3 ≤ sizeLine; decide, fun p np => ?_⟩
      have sp := Same.upd (o := .tup [.ref dl, .str "", .ref o]) np
      exact q1 _ p dl o xs ds ((kp8.trans kp9).trans (Kp.of sp)) (da9.to sp) ndl oH (kp_none (kp8.trans kp9) np) upd_same (sp _ _ hdl9) (K59.da dat9 ((kp9.wo sbO).trans (Same.wo sp))) ga7 sh7 (by omega) dlo ((lb8.kp kp9 sbO dof).to sp)
    rw [decF (fun z => c0 (V.int.inj z))]
    refine iteF ?_
    have vL9 : SqL K (wo [d] H9) L [.ref t0, .ref t1, .ref t2] := SqL.of (by rw [wo_out (fun z => mL _ (List.mem_singleton_self d) (List.mem_singleton.mp z).symm)]; exact kp9.keep L _ (fun z => mL _ (List.mem_singleton_self d) (List.mem_singleton.mp z).symm) vL)
    refine ⟨_, rfl, _, rfl, d, c, L, _, rfl, da9, vL9, ⟨by simp, by simp⟩, fun H10 x hx kp10 da10 => ?_⟩
    have kpA := kp9.trans kp10
    have vt : ∀ t u, t ≠ d → H8 t = some u → H10 t = some u := fun t u h e => kpA.keep t u (by simpa using h) e
    have td : ∀ t u, H8 t = some (.tup u) → t ≠ d := fun t u e z => by
      obtain ⟨_, _, _, _, _, b1, _⟩ := da8.ex
      rw [z, b1] at e; cases e
    have swS := kpA.wo sbS
    obtain ⟨t, bv, bad, xn, z, rfl, ht, hbd, hba⟩ : ∃ t bv bad xn z, x = .ref t ∧ H10 t = some (.tup [bv, .str z]) ∧ Dp K (wo S H10) bv bad ∧ BadAt xn z bad := by
      simp only [List.mem_cons, List.not_mem_nil, or_false] at hx
      rcases hx with rfl | rfl | rfl
      · exact ⟨_, _, _, _, _, rfl, vt _ _ (td _ _ v1) v1, dp d0 swS, .deed⟩
      · exact ⟨_, _, _, _, _, rfl, vt _ _ (td _ _ v3) v3, dp d1 swS, .tape⟩
      · exact ⟨_, _, _, _, _, rfl, vt _ _ (td _ _ v5) v5, dp d2 swS, .name⟩
    refine ⟨t, _, rfl, SqT.of ht, rfl, ?_⟩
    refine ⟨_, _, rfl, _, _, rfl, rfl, ?_⟩
    have dH8 : dl ∉ [d] := by simpa using Ne.symm dnl
    have hdlA := kpA.keep dl _ dH8 hdl8
    refine ⟨_, rfl, _, rfl, dl, xs, rfl, .inl (SqL.of hdlA), _, _, rfl, rfl, d, c, _, rfl, da10, ⟨by omega, by omega⟩, fun H11 at' hat kp11 da11 => ?_⟩
    obtain ⟨an, rfl⟩ : ∃ an : Nat, at' = an := ⟨at'.toNat, by omega⟩
    have hdlB := kp11.keep dl _ dH8 hdlA
    refine ⟨_, rfl, _, rfl, _, rfl, dl, xs, rfl, SqL.of hdlB, fun p hp => ?_⟩
    rw [cut_upto]
    have s3 := Same.upd (o := .lst (xs.take an)) hp
    refine ⟨_, rfl, sz (by simp), fun p2 hp2 => ?_⟩
    have s4 := Same.upd (o := .lst [bv]) hp2
    refine ⟨p, p2, _, _, rfl, rfl, s4 _ _ upd_same, upd_same, sz (by simp; omega), fun p3 hp3 => ?_⟩
    have s5 := Same.upd (o := .lst (xs.take an ++ [bv])) hp3
    refine ⟨_, rfl, _, rfl, _, rfl, dl, xs, rfl, SqL.of ((s3.trans (s4.trans s5)) _ _ hdlB), fun p4 hp4 => ?_⟩
    rw [cut_from]
    have s6 := Same.upd (o := .lst (xs.drop an)) hp4
    refine ⟨p3, p4, _, _, rfl, rfl, s6 _ _ upd_same, upd_same, sz (by simp; omega), fun p5 hp5 => ?_⟩
    have s7 := Same.upd (o := .lst (xs.take an ++ [bv] ++ xs.drop an)) hp5
    refine ⟨_, rfl, _, rfl, by show 3 ≤ sizeLine; decide, fun p6 hp6 => ?_⟩
    have s8' := Same.upd (o := .tup [.ref p5, .str z, .ref b]) hp6
    have s36 := s3.trans (s4.trans (s5.trans s6))
    have s38 := s36.trans (s7.trans s8')
    have kpB := kp8.trans (kpA.trans kp11)
    have datB := K59.da dat7 (wo_less (S := S) fun a ha => List.mem_append_right _ (List.mem_cons_of_mem _ ha))
    have datC := K59.da datB ((Same.wo s8).trans (((kpA.trans kp11).wo sbS).trans (Same.wo s38)))
    refine q2 _ p6 p5 _ (ds.take an) (bad :: (ds.drop an).map Deed.P) xn z bad ((ds.drop an).map Deed.P) (kpB.trans (Kp.of s38)) (da11.to s38) (kp_none kpB (wasNone s36 hp5)) (kp_none kpB (wasNone (s36.trans s7) hp6)) upd_same (s8' _ _ upd_same) rfl hba ?dat (goodAll_take ga7) (fun e he => sh7 e (List.mem_of_mem_take he)) (by rw [List.length_take, List.length_cons, List.length_map, List.length_drop]; omega) (fun y hy => ?shp)
    case shp =>
      have al : ∀ y ∈ ds.map Deed.P, Shp 2 y := fun y hy => by
        obtain ⟨e, he, rfl⟩ := List.mem_map.mp hy
        exact goodAll_shp ok ga7 e he
      rcases List.mem_append.mp hy with hy | hy
      · rw [List.map_take] at hy
        exact al y (List.mem_of_mem_take hy)
      · rcases List.mem_cons.mp hy with rfl | hy
        · exact hba.shp
        · rw [List.map_drop] at hy
          exact al y (List.mem_of_mem_drop hy)
    rw [List.map_take, List.map_drop]
    have e1 : List.take an (ds.map Deed.P) ++ (bad :: List.drop an (ds.map Deed.P)) = List.take an (ds.map Deed.P) ++ [bad] ++ List.drop an (ds.map Deed.P) := by rw [List.append_assoc]; rfl
    rw [e1]
    exact DpAll.app (DpAll.app (DpAll.take _ datC) (.cons (dp hbd ((kp11.wo sbS).trans (Same.wo s38))) .nil)) (DpAll.drop _ datC)
end
end K59
set_option maxHeartbeats 4000000
/-! ### several except clauses, all with one name -/
namespace K59
open PySem PySem.Spec PyProof.Rows L2
abbrev Cl : Type := Value × (Addr → Value → Option Addr → TS)
/-- what the clauses wish of an exception of the body: slot i is the name's -/
def wAsL (K : PySem.W.Frag) (i : Nat) (Wout : WX) (D : Ends) : List Cl → WX
  | [] => Wout
  | q :: r => wAs K q.1 i q.2 (wAsL K i Wout D r) D
inductive HdsA (X : Cx) (n : Str) : List ExceptHandler → List Cl → Prop
  | nil : HdsA X n [] []
  | cons {x : Str} {q : Cl} {b₀ : Stmt} {su : List Stmt} {np hp : Pos} {hds : List ExceptHandler} {l : List Cl} (nm : Names X x q.1)
      (go : ∀ (a : Addr) (oe : Obj) (cls : Value) (d : Option Addr) (pn : List (Addr × Obj)), Zc cls d oe → (∃ vs, oe.data = .fields vs) → PSs (X.suite a ((a, oe) :: pn)) (b₀ :: su) (q.2 a cls d)) (r : HdsA X n hds l) :
      HdsA X n (.ExceptHandler (some (.Name x np)) (some n) (b₀ :: su) hp :: hds) (q :: l)
section
variable {X : Cx} {n : Str} {i : Nat} {Wout : WX} {pins : List (Addr × Obj)} {σ : L2.St} {H : Hp} {s : Shared}
/-- an exception that has landed in this frame, its clauses still to be looked at -/
structure Landed (X : Cx) (pins : List (Addr × Obj)) (a : Addr) (cls : Value) (d : Option Addr) (B : Heap) (sI s : Shared) (σ : L2.St) (H : Hp) : Prop where
  inv : Inv X pins σ H sI
  nb : ∀ b o, sI.heap.get? b = some o → b ∉ frs X.stack → B.get? b = some o
  up : sI.heap.UpToSlots s.heap
  fl : HandSPX.FlyingZ B (X.env :: X.outer) a (Zc cls d) s.heap
  na : H a = none
  os : s.os = sI.os
  ag : AllBare s.gens
theorem Landed.j {a : Addr} {cls : Value} {d : Option Addr} {B : Heap} {sI : Shared} (L : Landed X pins a cls d B sI s σ H) : Inv X pins σ H s := L.inv.landed L.nb L.fl.1 L.up L.os L.ag
theorem Landed.off {a : Addr} {cls : Value} {d : Option Addr} {B : Heap} {sI : Shared} (L : Landed X pins a cls d B sI s σ H) (hf : X.env.frame = some X.env.locals) : a ≠ X.env.locals ∧ a ∉ X.fs := by
  obtain ⟨oe, vs, he, _, hd⟩ := L.fl.there
  have key : a ∉ frs (X.env :: X.outer) := fun hm => by
    obtain ⟨_, o', e', hn⟩ := L.fl.2.2.1.mem hm
    rw [he] at e'
    cases e'
    exact hn _ hd
  refine ⟨fun z => key (List.mem_filterMap.mpr ⟨X.env, List.mem_cons_self, by rw [hf, z]⟩), fun hm => ?_⟩
  obtain ⟨e, h1, h2⟩ := List.mem_filterMap.mp hm
  exact key (List.mem_filterMap.mpr ⟨e, List.mem_cons_of_mem _ h1, h2⟩)
/-- no clause takes it: it goes on -/
theorem landed_on {a : Addr} {cls : Value} {d : Option Addr} {B : Heap} {sI : Shared} {D : Ends} (hs : X.stack = X.env :: X.outer) (hf : X.env.frame = some X.env.locals) (tk : Takes X Wout) (L : Landed X pins a cls d B sI s σ H) (w : Wout cls d σ H) :
    wpAny (model X.prog X.w) X.A (handleBy (.ref a) X.env []) (SP X pins D) X.xe s := by
  refine wpAny_handleBy_nil ?_
  obtain ⟨_, _, _, oe, vs, T, _, _, he, _, hd, h1, _⟩ := id L.fl
  have out : wpAny (model X.prog X.w) X.A (setFlight (.ref a) X.env.frame) (fun _ s4 => wpAny (model X.prog X.w) X.A (throw (.ref a) : Sem Flow) (SP X pins D) X.xe s4) X.xe s := by
    rw [hf]
    exact HandSPX.setFlight_upZ L.fl fun h4 hh up4 => wpAny_throw (tk _ _ ⟨a, B, sI, pins, σ, H, cls, d, rfl, L.inv, L.nb, L.up.trans up4, .inr (.inr (by rw [hs]; exact hh)), L.na, L.os, L.ag, w⟩)
  unfold PySem.passOn
  refine wpAny_bind (wpAny_field he hd h1 ?_)
  rw [if_neg (show ¬ ((Value.ref T == Value.none) = true) from by simp)]
  first
    | exact wpAny_bind (wpAny_pure (wpAny_bind out))
    | exact wpAny_bind out
theorem landed_by {a : Addr} {cls : Value} {d : Option Addr} {B : Heap} {sI : Shared} {D : Ends} (hs : X.stack = X.env :: X.outer) (hf : X.env.frame = some X.env.locals) (hN : X.N.Nodup) (hi : X.N[i]? = some n) (hl : X.env.kindOf n = some .local) (tk : Takes X Wout) (L : Landed X pins a cls d B sI s σ H) :
    ∀ {hds : List ExceptHandler} {l : List Cl}, HdsA X n hds l → wAsL X.K i Wout D l cls d σ H → wpAny (model X.prog X.w) X.A (handleBy (.ref a) X.env hds) (SP X pins D) X.xe s := by
  intro hds l hk
  have ok := L.inv.ok
  obtain ⟨nL, nF⟩ := L.off hf
  induction hk with
  | nil => exact fun w => landed_on hs hf tk L w
  | @cons x q b₀ su np hp hds l nm go r ih =>
    rintro ⟨b, hb, yes, no⟩
    have J3 := L.j
    obtain ⟨oe, vs, he, hz, hd⟩ := L.fl.there
    have S3 := J3.suite he hd L.na nL nF
    have LM := PySem.W.exm_one (M := model X.prog X.w) (J3.kIn) (fun A Q E s k q => wpAny_typeOf_ref (k _ _ he) (by rw [hz.1]; exact q)) hb
    have look : ∀ {Q E : Value → Shared → Prop}, Q q.1 s → wpAny (model X.prog X.w) (X.A.mark (some (.ref a))) (eval (.Name x np) X.env) Q E s := fun {Q E} h => by
      obtain ⟨hg, hdb, hm | ⟨hm, hv, hnn⟩⟩ := nm
      · exact ld_glob (X := X.suite a ((a, oe) :: (X.pn ++ pins))) S3 hg hm h hdb
      · exact ld_blt (X := X.suite a ((a, oe) :: (X.pn ++ pins))) S3 hg hm hv h hnn hdb
    refine wpAny_handleBy_cons (codeAny_handlers_test (look (LM.here ?_))) (by intro q; cases q)
    cases b with
    | false => exact ih (no rfl)
    | true =>
      refine codeAny_handlers_suite_as (HandSPX.lands_againZ L.fl fun h4 fl4 up4 => ?_)
      have L4 : Landed X pins a cls d B sI { s with heap := h4 } σ H := ⟨L.inv, L.nb, L.up.trans up4, fl4, L.na, L.os, L.ag⟩
      obtain ⟨oe4, vs4, he4, hz4, hd4⟩ := fl4.there
      refine store_ok (X := X.suite a ((a, oe4) :: (X.pn ++ pins))) (v := .ref a) (L4.j.suite he4 hd4 L.na nL nF) hN hi (.inl hl) rfl (fun s5 S5 => ?_) (.inr hl)
      refine wpAny_mono ((go a oe4 cls d (X.pn ++ pins) hz4 ⟨_, hd4⟩).run [] s5 _ H _ S5 (yes rfl a L.na)) (fun f s6 h6 => ?_) (fun _ _ z => False.elim z)
      cases f with
      | ret u =>
        obtain ⟨v6, σ6, H6, S6, r6, q6⟩ := h6
        exact gone_ok (S6.unsuite ok) hN hi hl fun s7 J7 => ⟨_, _, _, J7, r6, q6⟩
      | _ =>
        obtain ⟨σ6, H6, S6, q6⟩ := h6
        exact gone_ok (S6.unsuite ok) hN hi hl fun s7 J7 => ⟨_, _, J7, q6⟩
theorem ps_try_asL {body : List Stmt} {h₀ : ExceptHandler} {hds : List ExceptHandler} {l : List Cl} {pos : Pos} {tb : WX → TS} (hs : X.stack = X.env :: X.outer) (hf : X.env.frame = some X.env.locals) (hN : X.N.Nodup) (hi : X.N[i]? = some n) (hl : X.env.kindOf n = some .local) (tk : Takes X Wout)
    (hb : ∀ (W : WX) (pn : List (Addr × Obj)) (xe : Value → Shared → Prop), Takes (X.tr pn xe) W → PassesOwn (model X.prog X.w) X.A X.env xe → PSs (X.tr pn xe) body (tb W))
    (hh : HdsA X n (h₀ :: hds) l) : PS X (.Try body (h₀ :: hds) [] [] pos) (fun D σ H => tb (wAsL X.K i Wout D l) D σ H) := by
  refine ⟨fun pins s σ H D I h => ?_⟩
  have ok := I.ok
  refine wpAny_Try_except (wpAny_mono ((hb (wAsL X.K i Wout D l) (X.pn ++ pins) (fun e s₁ => wpAny (model X.prog X.w) X.A (noteFrame e X.env) (fun _ s₂ => wpAny (model X.prog X.w) X.A (setFlight e none) (fun _ s₃ =>
    wpAny (model X.prog X.w) X.A (handleBy e X.env (h₀ :: hds)) (SP X pins D) X.xe s₃) X.xe s₂) X.xe s₁) (fun u s' xx => ?_) PassesOwn.looking).run [] s σ H D (I.toTry _) h) (fun f s1 h1 => ?_) (fun e s1 he => he))
  · obtain ⟨a, B, sI, pins', σ', H', cls, d, rfl, J', nb, up, sky, na, os, ag, w⟩ := xx
    refine Sky.land Zc.steady (by rw [ok.frames, hs]) hf (by rw [← hs]; exact sky) fun h3 fl3 up3 => ?_
    exact landed_by (s := { s' with heap := h3 }) hs hf hN hi hl tk ⟨J'.ofTry ok, nb, up.trans up3, fl3, na, os, ag⟩ hh w
  · cases f with
    | next =>
      obtain ⟨σ', H', J', q⟩ := h1
      exact wpAny_execs_nil ⟨σ', H', J'.ofTry ok, q⟩
    | ret u =>
      obtain ⟨v, σ', H', J', r, q⟩ := h1
      exact ⟨v, σ', H', J'.ofTry ok, r, q⟩
    | _ =>
      obtain ⟨σ', H', J', q⟩ := h1
      exact ⟨σ', H', J'.ofTry ok, q⟩
end
/-! ### e.f of a caught error, its class told by the reading -/
def tXfG (K : PySem.W.Frag) (a : Addr) (cls : Value) (d : Option Addr) (f : Str) (i : Nat) : TE := fun σ H Q => σ[i]? = some (some (.ref a)) ∧ ∃ (C dd : Addr) (fs : List (Str × V)) (v : V), cls = .ref C ∧ XfC K C ∧ PySem.W.findIn K (.ref C) f = some none ∧ d = some dd ∧ H dd = some (.xd fs) ∧ fs.lookup f = some v ∧ Q v H
theorem pe_xfG {X : Cx} {a : Addr} {oe : Obj} {cls : Value} {d : Option Addr} {pn : List (Addr × Obj)} {x : Str} {p pos : Pos} {i : Nat} {f : Str} (hz : Zc cls d oe) (hf : ∃ vs, oe.data = .fields vs)
    (hN : X.N[i]? = some x) (hv : Vis X.env.scope x) (hd : (x == ("__debug__" : Str)) = false := by decide) (hcd : (x == ("__classdict__" : Str)) = false := by decide) (hb : attributeBase (.Name x p) f X.env (eval (.Name x p) X.env) = eval (.Name x p) X.env := by rfl) :
    PE (X.suite a ((a, oe) :: pn)) (.Attribute (.Name x p) f pos) (tXfG X.K a cls d f i) := by
  refine ⟨fun pins s σ H Q I h => ?_⟩
  obtain ⟨h0, C, dd, fs, v, ec, T, hno, ed, ea, l, q⟩ := h
  exact (pe_xf (pos := pos) T hno hz hf (pe_var (X := X.suite a ((a, oe) :: pn)) (pos := p) hN hv hd hcd) hb).run pins s σ H Q I ⟨.ref a, h0, rfl, ec, dd, fs, v, ed, ea, l, q⟩
end K59
set_option maxHeartbeats 4000000
/-! ### a lambda handed to a def that calls it in a try and goes on behind the clauses -/
namespace K59
open PySem PySem.Spec PyProof.Rows L2 LamX
section
variable {X : Cx}
/-- the call x() in the def that got the lambda f; what it lets out is told at that def's slots -/
theorem lam_called {Z : Cx} {pinsX pins : List (Addr × Obj)} {σ σZ : L2.St} {H HZ : Hp} {s sZ : Shared} {Q : VK} {f c' : Addr} {pm ctv : Value} {params : Arguments} {body : Expr} {scope : Scope} {k : Nat} {W : WX} {t : XK → TE}
    (hZ : Z.prog = X.prog ∧ Z.w = X.w ∧ Z.K = X.K ∧ Z.mg = X.mg ∧ Z.base = X.base) (I : Inv X pinsX σ H s) (L : LamS X.env.scope scope) (hf : s.heap.get? f = some (PySem.W.kla_obj "<lambda>" (X.env.qual ++ "<lambda>") params body scope (cloFrom X.env.cells scope.names []) pm c' ctv)) (hfn : H f = none) (hfr : f ∉ frs X.stack)
    (hbind : bindArgs (PySem.W.kla_fn "<lambda>" (X.env.qual ++ "<lambda>") params body scope (cloFrom X.env.cells scope.names []) pm (.ref c') ctv) ⟨[], []⟩ = pure []) (tk : Takes Z W) (hr : Room (k + 1) Z.A) (hd : Z.A.handled = none)
    (hbody : ∀ (A : Around) (outer : List Env) (s : Shared) (H : Hp) (E : XK), Room k (A.deeper (lamEnv X scope s.heap.objs.size f c')) → PE (lamCx X A outer s H E scope f c') body (t E))
    (IZ : Inv Z pins σZ HZ sZ) (un : Un (frs X.stack) [] H HZ s.heap sZ.heap) (hc : HZ c' = some (CodeO c' (X.env.qual ++ "<lambda>"))) (h : t (WE W σZ) σ HZ Q) :
    wpAny (model Z.prog Z.w) Z.A (call (.ref f) []) (EP Z pins σZ Q) Z.xe sZ := by
  obtain ⟨z1, z2, z3, z4, z5⟩ := hZ
  have ho : sZ.heap.get? f = some (PySem.W.kla_obj "<lambda>" (X.env.qual ++ "<lambda>") params body scope (cloFrom X.env.cells scope.names []) pm c' ctv) := un.keep f _ hf hfn hfr (fun z => nomatch (show f ∈ ([] : List Addr) from z))
  obtain ⟨⟨oc, vs, tq, hoc, hdc, hvc⟩, _, _⟩ := IZ.hok c' _ hc
  have E0' : Env0 X.prog X.w X.K X.mg X.base Z.A Z.stack sZ HZ := by
    have e := IZ.env0
    rw [z1, z2, z3, z4, z5] at e
    exact e
  have rc : codeAny (model X.prog X.w) Z.A (.call (.ref f) ⟨[], []⟩) (CR (L2.CX X.prog X.w) Z.stack X.prog X.w HZ sZ Q (WE W σZ)) sZ := by
    refine PySem.W.kla_callFunE hr.depth ho rfl L.co L.gen rfl ⟨c', oc, vs, tq, rfl, hoc, hdc, hvc⟩ ?_
    rw [hbind]
    refine wpAny_pure (wpAny_newFunctionEnv (fun y hy => (L.own y hy).2) (fun y hy => absurd hy (by simp)) (fun h₁ hns hsb => ⟨IZ.nolimit.fresh _ hsb, ?_⟩) L.kind)
    have kp : ∀ b o, sZ.heap.get? b = some o → h₁.get? b = some o := fun b o e => hsb.extBut b o (Nat.ne_of_lt (Heap.lt_size e)) (Heap.get?_push_of_some _ e)
    have J : Inv (lamCx X Z.A Z.stack sZ HZ (WE W σZ) scope f c') [] σ HZ { sZ with heap := h₁, toks := sZ.toks + ([] : List (Str × Value)).length } := lam_start2 I L E0' hd un hns kp
    refine PySem.W.kla_codeExpr (wpAny_mono ((hbody Z.A Z.stack sZ HZ (WE W σZ) (hr.deeper _)).run [] _ _ HZ Q J h) (fun v s' hq => ?_) fun e s' hq => hq)
    obtain ⟨w', H', J', rv, q⟩ := hq
    exact ⟨w', H', J'.os, J'.bare, J'.base, J'.hok, rv, q⟩
  rw [z1, z2]
  refine wpAny_call (codeAny_mono rc fun r s' hq => ?_)
  cases r with
  | error e =>
    have hq' : L2.CX Z.prog Z.w Z.stack HZ sZ (WE W σZ) e s' := by rw [z1, z2]; exact hq
    exact passAt tk σZ pins HZ sZ e s' IZ hq'
  | ok fl =>
    cases fl with
    | ret u => exact IZ.after (by rw [z1, z2]; exact hq)
    | next => exact False.elim hq
    | brk => exact False.elim hq
    | cont => exact False.elim hq
/-- what the def makes of the lambda: the call is known at any state behind the lambda's making -/
def GivesAt (X : Cx) (Ng : List Str) (x : Str) (sg : Scope) (g : Addr) (cdg : Value) (bg : List Stmt) (a : Str) (q : Str) (TT : (XK → Hp → VK → Prop) → Hp → VK → Prop) : Prop :=
  ∀ (f c' : Addr) (s : Shared) (H : Hp) (Q : VK) (tl : XK → Hp → VK → Prop),
    (∀ (W : WX) (pn : List (Addr × Obj)) (xe : Value → Shared → Prop) (p1 p2 : Pos), Takes ((cxOf C8.CX0 X.prog X.w X.K X.mg X.base Ng x sg g cdg X.A X.stack s H C8.E0).tr pn xe) W →
      PE ((cxOf C8.CX0 X.prog X.w X.K X.mg X.base Ng x sg g cdg X.A X.stack s H C8.E0).tr pn xe) (.Call (.Name a p1) [] [] p2) (fun σZ HZ Q => σZ[0]? = some (some (.ref f)) ∧ HZ c' = some (CodeO c' q) ∧ tl (WE W σZ) HZ Q)) →
    H c' = some (CodeO c' q) → TT tl H Q →
    ∃ t, PSs (cxOf C8.CX0 X.prog X.w X.K X.mg X.base Ng x sg g cdg X.A X.stack s H C8.E0).nox bg t ∧ t { nx := fun _ H' => Q .non H', rt := Q } (L2.start Ng [.ref f]) H
/-- x(lambda: body), x goes on behind its try -/
theorem pe_lamat {T : List (Addr × Str)} {TT : (XK → Hp → VK → Prop) → Hp → VK → Prop} {x a : Str} {g c P : Addr} {k : Nat} {pg : Arguments} {bg : List Stmt} {sg : Scope} {dV kV doc pm cdv ct oc : Value} {an od : Option Addr} {osl : Array (Option Value)} {Ng : List Str}
    {params : Arguments} {body : Expr} {scope : Scope} {t : XK → TE} {p lpos pos : Pos} (hg : Gl X x) (hm : X.mg x = some (.ref g)) (hk : PySem.W.keepIn X.K (.ref g) = true)
    (lk : X.K.lookup g = some ⟨oc, od, .func (PySem.W.fnOf x x pg bg sg dV kV doc pm an cdv ct), osl⟩) (hcg : PySem.W.codeIn X.K cdv x = true) (hb : L2.Binds X.K (PySem.W.fnOf x x pg bg sg dV kV doc pm an cdv ct) [a] []) (Sg : FnScope Ng [a] sg) (hNg : Ng[0]? = some a) (hva : Vis sg a)
    (hG : GivesAt X Ng x sg g cdv bg a (X.env.qual ++ "<lambda>") TT) (TB : TabB X.base X.mg c P) (hcode : X.env.code = .ref c) (hmT : (P, X.env.qual ++ "<lambda>") ∈ T) (hu : ∀ p ∈ T, p.1 = P → p.2 = X.env.qual ++ "<lambda>") (hr : Room (k + 2) X.A) (L : LamS X.env.scope scope) (hdef : defaultsOf params X.env = ([], []))
    (hbind : ∀ (q : Str) (cl : List (Str × Addr)) (pm cv ctv : Value), bindArgs (PySem.W.kla_fn "<lambda>" q params body scope cl pm cv ctv) ⟨[], []⟩ = pure [])
    (hbody : ∀ (A : Around) (outer : List Env) (s : Shared) (H : Hp) (E : XK) (f c' : Addr), Room k (A.deeper (lamEnv X scope s.heap.objs.size f c')) → PE (lamCx X A outer s H E scope f c') body (t E))
    (hdb : (x == ("__debug__" : Str)) = false := by decide) (hd : (a == ("__debug__" : Str)) = false := by decide) (hcd : (a == ("__classdict__" : Str)) = false := by decide) :
    PE X (.Call (.Name x p) [.Lambda params body scope lpos] [] pos) (tLam T TT t) := by
  refine ⟨fun pins s σ H Q I h => ?_⟩
  obtain ⟨hT, h⟩ := h
  refine wpAny_Call_Name_kw (ld_glob I hg hm (PySem.W.callWith_K (h₀ := X.base) I.ok.mod.kin hk ?_ (by rfl) (by rfl)) hdb)
  show wpAny _ _ (spliced ((false, eval (.Lambda params body scope lpos) X.env) :: backTo pos (starEach [] X.env))) _ _ s
  refine Calls.spliced_cons (lam_make2 I TB hcode hmT hu hT hdef (L.has I.ok) fun f c' pm' ctv H1 s' I1 eN T1 hf hfn hfr hco => Calls.spliced_nil ⟨I1.kIn, ?_⟩)
  refine wpAny_call (codeAny_mono (show codeAny (model X.prog X.w) X.A (.call (.ref g) ⟨[.ref f], []⟩) (CR C8.CX0 X.stack X.prog X.w H1 s' Q C8.E0) s' from
    run_ofS (N := Ng) (ps := [a]) (us := [.ref f]) (vs := [.ref f]) lk hcg Sg hr I1.env0 (hb s' [.ref f] I1.kIn rfl) (.cons rfl .nil) rfl fun hr' => ?_) fun r s2 hq => ?_)
  · refine Exists.elim (hG f c' s' H1 Q (fun E H' Q' => t E σ H' Q') (fun W pn xe p1 p2 tk => ?_) hco (h H1 eN T1)) fun t' z => ⟨t', z.1.nox, z.2⟩
    · refine ⟨fun pinsZ sZ σZ HZ QZ IZ hz => ?_⟩
      obtain ⟨h0, hc, ht⟩ := hz
      refine wpAny_Call_Name_kw (thn ((pe_var (pos := p1) (i := 0) hNg hva hd hcd).run pinsZ sZ σZ HZ (fun v H1 => v = .ref f ∧ H1 = HZ) IZ ⟨.ref f, h0, rfl, rfl⟩) fun u s1 ⟨v, H2, I2, r1, q1⟩ => ?_)
      obtain ⟨ev, eH⟩ := q1
      subst ev
      rw [eH] at I2
      obtain rfl : u = Value.ref f := r1
      refine PySem.W.callWith_F0 ⟨_, _, _, _, I2.base.keep f _ hf hfn hfr (fun z => nomatch (show f ∈ ([] : List Addr) from z))⟩ ?_
      exact lam_called (X := X) ⟨rfl, rfl, rfl, rfl, rfl⟩ I1 L hf hfn hfr (hbind _ _ _ _ _) tk hr' hr.hd (fun A outer s H E hr2 => hbody A outer s H E f c' hr2) I2 I2.base hc ht
  · cases r with
    | error e => exact (show False from hq).elim
    | ok fl =>
      cases fl with
      | ret u => exact I1.after hq
      | next => exact False.elim hq
      | brk => exact False.elim hq
      | cont => exact False.elim hq
end
end K59
set_option maxHeartbeats 4000000
namespace K59
open PySem PySem.Spec PyProof.Rows L2 LamX
abbrev s_law_tried : Stmt := top 128
abbrev N_law_tried : List Str := ["_law_ask", "_law_found", "_law_word_here", "e"]
theorem sc_law_tried : FnScope N_law_tried ["_law_ask"] (C8.fnScope s_law_tried) := C8.fnScope_by (by decide +kernel)
/-- tried: what was found and "", or None and what the refusal is called -/
def TTtr (K : PySem.W.Frag) : (XK → Hp → VK → Prop) → Hp → VK → Prop := fun tl H Q => ∀ (E : XK) (Q' : VK),
  (∀ cls d H', (∃ (C dd : Addr) (z : Str) (b : Bool), cls = .ref C ∧ d = some dd ∧ H' dd = some (.xd [("called", .str z)]) ∧ XfC K C ∧ PySem.W.findIn K (.ref C) "called" = some none ∧
      PySem.W.exmOne K cls (.ref (cA K "TapeError")) = some b ∧ (b = false → PySem.W.exmOne K cls (.ref (cA K "MissingError")) = some true) ∧ ∀ p, H' p = none → Q (.ref p) (L2.upd H' p (.tup [.non, .str z]))) → E cls d H') →
    (∀ v H', (∀ p, H' p = none → Q (.ref p) (L2.upd H' p (.tup [v, .str ""]))) → Q' v H') → tl E H Q'
theorem tried_gives {X : Cx} (T : Fx X.w X.K X.mg) {g : Addr} {cdg : Value} {q : Str} : GivesAt X N_law_tried "_law_tried" (C8.fnScope s_law_tried) g cdg (C8.fnBody s_law_tried) "_law_ask" q (TTtr X.K) := by
  intro f c' s H Q tl act hc h
  have nd := sc_law_tried.nd
  refine ⟨_, pss_cons (ps_set (i := 1) nd rfl (by first | exact Or.inl rfl | exact Or.inr rfl) pe_non) (pss_cons (ps_set (i := 2) nd rfl (by first | exact Or.inl rfl | exact Or.inr rfl) pe_str)
    (pss_cons (ps_try_asL (i := 3) (l := [(.ref (cA X.K "TapeError"), fun a cls d => tAsg (tXfG X.K a cls d "called" 3) (gName 2)), (.ref (cA X.K "MissingError"), fun a cls d => tAsg (tXfG X.K a cls d "called" 3) (gName 2))])
        (tb := fun W => tAsg (fun σZ HZ Q => σZ[0]? = some (some (.ref f)) ∧ HZ c' = some (CodeO c' q) ∧ tl (WE W σZ) HZ Q) (gName 1)) rfl rfl nd rfl rfl takes0
        (fun W pn xe tk _ => pss_one (ps_set (i := 1) nd rfl (by first | exact Or.inl rfl | exact Or.inr rfl) (act W pn xe _ _ tk)))
        (.cons ⟨rfl, by decide, .inl T.e_Tape⟩ (fun a oe cls d pn hz hf => pss_one (ps_set (i := 2) nd rfl (by first | exact Or.inl rfl | exact Or.inr rfl) (pe_xfG hz hf rfl (.inl rfl))))
          (.cons ⟨rfl, by decide, .inl T.e_Miss⟩ (fun a oe cls d pn hz hf => pss_one (ps_set (i := 2) nd rfl (by first | exact Or.inl rfl | exact Or.inr rfl) (pe_xfG hz hf rfl (.inl rfl)))) .nil)))
      (pss_one (ps_ret (pe_tup (pa_cons (pv 1) (pa_cons (pv 2) pa_nil))))))), ?_⟩
  refine ⟨rfl, hc, ?_⟩
  have l2 : (2 : Nat) ≤ sizeLine := sz (by decide)
  refine h _ _ (fun cls d H' hx => ?_) fun v H' hq => ?_
  · obtain ⟨C, dd, z, b, rfl, rfl, hd, xf, fi, eb, eb2, hq⟩ := hx
    refine ⟨b, eb, fun _ a na => ?_, fun hb => ⟨true, eb2 hb, fun _ a na => ?_, fun z => nomatch z⟩⟩
    · exact ⟨rfl, C, dd, _, _, rfl, xf, fi, rfl, hd, rfl, _, rfl, _, rfl, l2, hq⟩
    · exact ⟨rfl, C, dd, _, _, rfl, xf, fi, rfl, hd, rfl, _, rfl, _, rfl, l2, hq⟩
  · exact ⟨_, rfl, _, rfl, l2, hq⟩
end K59
set_option maxHeartbeats 4000000
namespace K59
open PySem PySem.Spec PyProof.Rows L2 LamX
/-! ### all but tables stays -/
def NT (o : HO) : Prop := ∀ ps, o ≠ .tbl ps
theorem NT.lst {xs : List V} : NT (.lst xs) := fun _ z => nomatch z
theorem NT.ins {C dx : Addr} {fs : List (Str × V)} : NT (.ins C dx fs) := fun _ z => nomatch z
theorem NT.dK {kvs : List (Key × V)} : NT (.dK kvs) := fun _ z => nomatch z
section
variable {K : PySem.W.Frag} {H H' : Hp}
theorem ExtN.wo {H H' : Hp} (e : ExtN H H') (S : List Addr) : ExtN (K59.wo S H) (K59.wo S H') := fun a o h n => by
  by_cases q : a ∈ S
  · rw [wo_in q] at h; cases h
  · rw [wo_out q] at h ⊢; exact e a o h n
theorem xl {a : Addr} {xs : List V} (e : ExtN H H') (h : SqL K H a xs) : SqL K H' a xs := by
  rcases h with (h | ⟨o, h⟩) | h
  · exact .inl (.inl (e a _ h fun _ z => nomatch z))
  · exact .inl (.inr ⟨o, e a _ h fun _ z => nomatch z⟩)
  · exact .inr h
theorem xt {a : Addr} {xs : List V} (e : ExtN H H') (h : SqT K H a xs) : SqT K H' a xs := by
  rcases h with (h | ⟨o, h⟩) | h
  · exact .inl (.inl (e a _ h fun _ z => nomatch z))
  · exact .inl (.inr ⟨o, e a _ h fun _ z => nomatch z⟩)
  · exact .inr h
mutual
theorem xd (e : ExtN H H') : ∀ (d : PyData) (v : V), Dp K H v d → Dp K H' v d
  | .none, _, h => by cases h; exact .non
  | .bool b, _, h => by cases h; exact .bl b
  | .int i, _, h => by cases h; exact .int i
  | .str x, _, h => by cases h; exact .str x
  | .list ds, _, h => by cases h with | lst a b => exact .lst (xl e a) (xda e ds _ b)
  | .tuple ds, _, h => by cases h with | tup a b => exact .tup (xt e a) (xda e ds _ b)
  | .dict _, _, h => by cases h
theorem xda (e : ExtN H H') : ∀ (ds : List PyData) (vs : List V), DpAll K H vs ds → DpAll K H' vs ds
  | [], _, h => by cases h; exact .nil
  | d :: ds, _, h => by cases h with | cons a b => exact .cons (xd e d _ a) (xda e ds _ b)
end
theorem MapIs.ext {x d : Addr} {b : Int} {ps : List (Int × Int)} (m : MapIs K H x d b ps) (e : ExtN H H') : MapIs K H' x d b ps := by
  obtain ⟨dx, q⟩ := m.me
  exact ⟨⟨dx, e _ _ q NT.ins⟩, e _ _ m.kn NT.dK⟩
theorem TapeIs.ext {v : V} {t : Tp} (m : TapeIs K H v t) (e : ExtN H H') : TapeIs K H' v t := by
  obtain ⟨a, dx, m', d, r, ps, h1, h2, h3, h4, h5⟩ := m.ex
  exact ⟨a, dx, m', d, r, ps, h1, e _ _ h2 NT.ins, h3.ext e, h4, xd e _ _ h5⟩
theorem bkR.ext (e : ExtN H H') : ∀ {kvs : List (Key × V)} {bk : Bk}, Paired (bkR K H) kvs bk → Paired (bkR K H') kvs bk
  | _, _, .nil => .nil
  | _, _, .cons r t => .cons ⟨r.1, r.2.ext e⟩ (bkR.ext e t)
theorem BkIs.ext {b : Addr} {bk : Bk} (h : BkIs K H b bk) (e : ExtN H H') : BkIs K H' b bk := by
  obtain ⟨kvs, q, r⟩ := h.ex
  exact ⟨kvs, e _ _ q NT.dK, bkR.ext e r⟩
theorem lbR.ext (e : ExtN H H') : ∀ {kvs : List (Key × V)} {bk : Bk}, Paired (lbR K H) kvs bk → Paired (lbR K H') kvs bk
  | _, _, .nil => .nil
  | _, _, .cons ⟨q, m, kn, tr, ts, h1, h2, h3, h4, h5⟩ t => .cons ⟨q, m, kn, tr, ts, h1, e _ _ h2 NT.lst, e _ _ h3 NT.dK, e _ _ h4 NT.lst, xda e _ _ h5⟩ (lbR.ext e t)
theorem rowR.ext (e : ExtN H H') : ∀ {xs : List V} {rs : List (List PyData × Bk)}, Paired (rowR K H) xs rs → Paired (rowR K H') xs rs
  | _, _, .nil => .nil
  | _, _, .cons ⟨t, l, b, h1, h2, h3, h4⟩ q => .cons ⟨t, l, b, h1, xt e h2, xd e _ _ h3, h4.ext e⟩ (rowR.ext e q)
theorem DrawAt.ext {d c : Addr} (h : DrawAt K H d c) (e : ExtN H H') : DrawAt K H' d c := by
  obtain ⟨a, b, sm, cn, cs, h1, h2, r⟩ := h.ex
  exact ⟨a, b, sm, cn, cs, e _ _ h1 NT.lst, xl (ExtN.wo e [d]) h2, r⟩
end
/-! ### a ledger of what stands: deck's rows (deeds, the book ahead), law's rows (deeds, the book behind) -/
abbrev Row : Type := List PyData × Bk
inductive Ch : List Row → List Row → Bk → Prop
  | nil : Ch [] [([], [])] []
  | snoc {rs qs : List Row} {bk bk' : Bk} {p : List PyData} (h : Ch rs qs bk) : Ch (rs ++ [(p, bk)]) (qs ++ [(p, bk')]) bk'
theorem Ch.last {rs qs : List Row} {bk : Bk} (h : Ch rs qs bk) : ∃ qs' p, qs = qs' ++ [(p, bk)] := by
  cases h with
  | nil => exact ⟨[], [], rfl⟩
  | snoc h => exact ⟨_, _, rfl⟩
theorem Ch.inv {rs qs : List Row} {bk : Bk} (h : Ch rs qs bk) : (rs = [] ∧ qs.length = 1) ∨ ∃ rs' qs' p bk0, rs = rs' ++ [(p, bk0)] ∧ qs = qs' ++ [(p, bk)] ∧ Ch rs' qs' bk0 := by
  cases h with
  | nil => exact .inl ⟨rfl, rfl⟩
  | snoc h => exact .inr ⟨_, _, _, _, rfl, rfl, h⟩
theorem Ch.len {rs qs : List Row} {bk : Bk} (h : Ch rs qs bk) : qs.length = rs.length + 1 := by
  induction h with
  | nil => rfl
  | snoc h ih => rw [List.length_append, List.length_append, ih]; rfl
theorem Ch.tail {rs qs : List Row} {bk : Bk} (h : Ch rs qs bk) : ∃ q qs', qs = q :: qs' ∧ qs'.map (·.1) = rs.map (·.1) := by
  induction h with
  | nil => exact ⟨_, _, rfl, rfl⟩
  | snoc h ih =>
    obtain ⟨q, qs', rfl, e⟩ := ih
    exact ⟨q, qs' ++ [_], rfl, by rw [List.map_append, List.map_append, e]; rfl⟩
/-! ### deeds are small, shaped, plain -/
theorem smSc {n : Nat} {ds : List PyData} (h : ds.all isSc = true) : ∀ d ∈ ds, SmD (n + 1) d := fun d hd => by
  have := List.all_eq_true.mp h d hd
  cases d with
  | int i => exact .int i
  | str z => exact .str z
  | _ => cases this
theorem DeedSh.sm {d : Deed} (h : DeedSh d) {n : Nat} : SmD (n + 3) d.P := by
  have ev : ∀ e, EvSh e → SmD (n + 2) (evP e) := fun e he => .tup (by obtain ⟨t, w, r, rfl, hl, _⟩ := he; simp; omega) (smSc he.flat)
  refine .tup (by cases d <;> simp [Deed.rest]) fun x hx => ?_
  cases d <;> simp only [Deed.rest, List.mem_cons, List.not_mem_nil, or_false] at hx
  case put n' k e => rcases hx with rfl | rfl | rfl | rfl <;> first | exact .str _ | exact .int _ | exact ev _ h.2
  case drop => rcases hx with rfl | rfl <;> exact .str _
  case add => rcases hx with rfl | rfl <;> exact .str _
  case new => rcases hx with rfl | rfl | rfl <;> first | exact .str _ | exact .int _
  all_goals rcases hx with rfl | rfl | rfl | rfl <;> first | exact .str _ | exact .int _
/-- shaped data is like itself -/
theorem Shp.self {n : Nat} {d : PyData} (h : Shp n d) : PyData.eqv d d = true := PySem.SeqAt.eqv_refl_plain d (PyData.plain_of_canLay0 d h.1)
theorem SmD.mono : ∀ {n m : Nat} {d : PyData}, SmD n d → n ≤ m → SmD m d := by
  intro n m d h
  induction h generalizing m with
  | non => intro hm; obtain ⟨k, rfl⟩ : ∃ k, m = k + 1 := ⟨m - 1, by omega⟩; exact .non
  | bl b => intro hm; obtain ⟨k, rfl⟩ : ∃ k, m = k + 1 := ⟨m - 1, by omega⟩; exact .bl b
  | int i => intro hm; obtain ⟨k, rfl⟩ : ∃ k, m = k + 1 := ⟨m - 1, by omega⟩; exact .int i
  | str z => intro hm; obtain ⟨k, rfl⟩ : ∃ k, m = k + 1 := ⟨m - 1, by omega⟩; exact .str z
  | lst hl hs ih => intro hm; obtain ⟨k, rfl⟩ : ∃ k, m = k + 1 := ⟨m - 1, by omega⟩; exact .lst hl fun d hd => ih d hd (by omega)
  | tup hl hs ih => intro hm; obtain ⟨k, rfl⟩ : ∃ k, m = k + 1 := ⟨m - 1, by omega⟩; exact .tup hl fun d hd => ih d hd (by omega)
theorem smRow {ds : List Deed} (h : ∀ e ∈ ds, DeedSh e) (hl : ds.length ≤ 100000) {n : Nat} : SmD (n + 4) (.list (ds.map Deed.P)) := .lst (by rw [List.length_map]; exact hl) fun d hd => by
  obtain ⟨e, he, rfl⟩ := List.mem_map.mp hd
  exact (h e he).sm
end K59
set_option maxHeartbeats 4000000
namespace K59
open PySem PySem.Spec PyProof.Rows L2 LamX
/-- a list, an instance -/
def Pl (o : HO) : Prop := (∃ xs, o = .lst xs) ∨ ∃ C dx fs, o = .ins C dx fs
theorem Pl.nt {o : HO} (h : Pl o) : NT o := by rcases h with ⟨xs, rfl⟩ | ⟨C, dx, fs, rfl⟩ <;> exact fun _ z => nomatch z
theorem Pl.dk {o : HO} (h : Pl o) (kvs : List (Key × V)) : o ≠ .dK kvs := by rcases h with ⟨xs, rfl⟩ | ⟨C, dx, fs, rfl⟩ <;> exact fun z => nomatch z
theorem Pl.code {o : HO} (h : Pl o) (c : Addr) (q : Str) : o ≠ CodeO c q := by
  unfold CodeO
  rcases h with ⟨xs, rfl⟩ | ⟨C, dx, fs, rfl⟩ <;> exact fun z => nomatch z
theorem tabs_kp {T : List (Addr × Str)} {S : List Addr} {H H' : Hp} (t : Tabs T H) (k : Kp S H H') (hp : ∀ a ∈ S, ∃ o, H a = some o ∧ Pl o) : Tabs T H' := fun p hpT => by
  obtain ⟨ps, h1, h2, h3⟩ := t p hpT
  have off : ∀ a o, H a = some o → (∀ u, Pl u → u ≠ o) → a ∉ S := fun a o e n z => by
    obtain ⟨u, e2, hu⟩ := hp a z
    rw [e] at e2
    cases e2
    exact n _ hu rfl
  refine ⟨ps, k.keep _ _ (off _ _ h1 fun u hu => hu.nt ps) h1, h2, fun pos cv hc => ?_⟩
  obtain ⟨c, e1, e2⟩ := h3 pos cv hc
  exact ⟨c, e1, k.keep _ _ (off _ _ e2 fun u hu => hu.code c p.2) e2⟩
/-! ### moves: data beyond the places stays -/
def InN (S : List Addr) (H : Hp) : Prop := ∀ a ∈ S, ∃ o, H a = some o ∧ NT o
theorem InN.in {S : List Addr} {H : Hp} (h : InN S H) : In S H := fun a ha => by
  obtain ⟨o, e, _⟩ := h a ha
  rw [e]; exact fun z => nomatch z
theorem InN.kp {S T : List Addr} {H H' : Hp} (h : InN S H) (k : Kp T H H') (f : ∀ a ∈ T, ∃ o, H' a = some o ∧ NT o) : InN S H' := fun a ha => by
  by_cases q : a ∈ T
  · exact f a q
  · obtain ⟨o, e, n⟩ := h a ha
    exact ⟨o, k.keep a o q e, n⟩
theorem InN.ext {S : List Addr} {H H' : Hp} (h : InN S H) (e : ExtN H H') : InN S H' := fun a ha => by
  obtain ⟨o, q, n⟩ := h a ha
  exact ⟨o, e _ _ q n, n⟩
theorem InN.plus {S : List Addr} {H : Hp} {x : Addr} {o : HO} (h : InN S H) (e : H x = some o) (n : NT o) : InN (x :: S) H := fun a ha => by
  rcases List.mem_cons.mp ha with rfl | ha
  · exact ⟨o, e, n⟩
  · exact h a ha
structure Mv (S S' : List Addr) (H H' : Hp) : Prop where
  sub : ∀ a ∈ S, a ∈ S'
  w : ExtN (wo S H) (wo S' H')
  dk : ∀ a kvs, H a = some (.dK kvs) → H' a = some (.dK kvs)
theorem Mv.same {S : List Addr} {H H' : Hp} (s : Same H H') : Mv S S H H' := ⟨fun _ h => h, ExtN.of (Same.wo s), fun a kvs e => s a _ e⟩
theorem Mv.plus {S : List Addr} {H H' : Hp} {x : Addr} (s : Same H H') (n : H x = none) : Mv S (x :: S) H H' := ⟨fun _ h => List.mem_cons_of_mem _ h, ExtN.of (wo_plus s n), fun a kvs e => s a _ e⟩
theorem Mv.kp {S T : List Addr} {H H' : Hp} (k : Kp T H H') (hT : ∀ a ∈ T, a ∈ S) (hp : ∀ a ∈ T, ∃ o, H a = some o ∧ Pl o) : Mv S S H H' := ⟨fun _ h => h, ExtN.of (k.wo hT), fun a kvs e => k.keep a _ (fun z => by
  obtain ⟨o, q, hq⟩ := hp a z
  rw [e] at q
  cases q
  exact hq.dk _ rfl) e⟩
theorem Mv.ext {S : List Addr} {H H' : Hp} (e : ExtN H H') : Mv S S H H' := ⟨fun _ h => h, ExtN.wo e S, fun a kvs q => e _ _ q NT.dK⟩
theorem Mv.trans {S S1 S2 : List Addr} {H H1 H2 : Hp} (a : Mv S S1 H H1) (b : Mv S1 S2 H1 H2) : Mv S S2 H H2 := ⟨fun x h => b.sub x (a.sub x h), a.w.trans b.w, fun x kvs e => b.dk x kvs (a.dk x kvs e)⟩
/-- more places: what is new -/
theorem Mv.more {S S' : List Addr} {H H1 : Hp} {x : Addr} (m : Mv S S' H H1) (n : H x = none) : Mv S (x :: S') H H1 := ⟨fun a h => List.mem_cons_of_mem _ (m.sub a h), fun a o e nt => by
  have q := m.w a o e nt
  have ax : a ≠ x := fun z => by
    by_cases y : a ∈ S
    · rw [wo_in y] at e; cases e
    · rw [wo_out y, z, n] at e; cases e
  by_cases y : a ∈ S'
  · rw [wo_in y] at q; cases q
  · rw [wo_out y] at q
    rw [wo_out (fun z => (List.mem_cons.mp z).elim ax y)]
    exact q, m.dk⟩
/-! ### the law's state -/
structure PreR (K : PySem.W.Frag) (S : List Addr) (H : Hp) (l o : Addr) (r : Row) : Prop where
  data : Dp K (wo S H) (.ref l) (.list r.1)
  book : LbO K S H o r.2
  oS : o ∈ S
  ok : BkOk r.2
  sm : SmD 4 (.list r.1)
def stR (K : PySem.W.Frag) (S : List Addr) (H : Hp) (x : V) (r : Row) : Prop := ∃ t l o, x = .ref t ∧ SqT K (wo S H) t [.ref l, .ref o] ∧ PreR K S H l o r
theorem PreR.mv {K : PySem.W.Frag} {S S' : List Addr} {H H' : Hp} {l o : Addr} {r : Row} (h : PreR K S H l o r) (m : Mv S S' H H') : PreR K S' H' l o r := by
  obtain ⟨kvs, h1, h2⟩ := h.book
  exact ⟨xd m.w _ _ h.data, ⟨kvs, m.dk _ _ h1, lbR.ext m.w h2⟩, m.sub _ h.oS, h.ok, h.sm⟩
theorem stR.mv {K : PySem.W.Frag} {S S' : List Addr} {H H' : Hp} (m : Mv S S' H H') : ∀ {xs : List V} {rs : List Row}, Paired (stR K S H) xs rs → Paired (stR K S' H') xs rs
  | _, _, .nil => .nil
  | _, _, .cons ⟨t, l, o, e, h1, h2⟩ q => .cons ⟨t, l, o, e, xt m.w h1, h2.mv m⟩ (stR.mv m q)
structure LawD where
  d : Addr
  c : Addr
  nl : Addr
  dk : Addr
  b : Addr
  e : Addr
  pa : Addr
  ah : Addr
  st : Addr
  ns : List Str
  xs : List V
  zs : List V
  ss : List V
  rs : List Row
  qs : List Row
  bk : Bk
  el : Bk
structure LawSt (K : PySem.W.Frag) (Tq : List (Addr × Str)) (S : List Addr) (H : Hp) (D : LawD) : Prop where
  tab : Tabs Tq H
  ins : InN S H
  dS : D.d ∈ S
  dkS : D.dk ∈ S
  paS : D.pa ∈ S
  ahS : D.ah ∈ S
  stS : D.st ∈ S
  n1 : D.d ≠ D.pa
  n2 : D.d ≠ D.ah
  n3 : D.d ≠ D.st
  n4 : D.pa ≠ D.ah
  n5 : D.pa ≠ D.st
  n6 : D.ah ≠ D.st
  draw : DrawAt K H D.d D.c
  nlS : D.nl ∉ S
  nlH : H D.nl = some (.lst (D.ns.map V.str))
  nsl : D.ns.length = 8
  nss : ∀ n ∈ D.ns, n.length ≤ 40
  dis : DkIs K H D.dk D.b D.e D.pa D.ah 0
  bki : BkIs K (wo S H) D.b D.bk
  eli : BkIs K (wo S H) D.e D.el
  okb : BkOk D.bk
  oke : BkOk D.el
  past : H D.pa = some (.lst D.xs)
  rows : Paired (rowR K (wo S H)) D.xs D.rs
  ahd : H D.ah = some (.lst D.zs)
  sts : H D.st = some (.lst D.ss)
  lrs : Paired (stR K S H) D.ss D.qs
  dc : ∃ cs : List Int, SqL K (wo S H) D.c (cs.map V.int)
section
variable {K : PySem.W.Frag} {Tq : List (Addr × Str)} {S S' : List Addr} {H H' : Hp} {D : LawD}
theorem LawSt.mv (h : LawSt K Tq S H D) (m : Mv S S' H H') (tab : Tabs Tq H') (ins : InN S' H') (draw : DrawAt K H' D.d D.c) (nlS : D.nl ∉ S') (nlH : H' D.nl = some (.lst (D.ns.map V.str))) (dis : DkIs K H' D.dk D.b D.e D.pa D.ah 0)
    (past : H' D.pa = some (.lst D.xs)) (ahd : H' D.ah = some (.lst D.zs)) (sts : H' D.st = some (.lst D.ss)) : LawSt K Tq S' H' D :=
  ⟨tab, ins, m.sub _ h.dS, m.sub _ h.dkS, m.sub _ h.paS, m.sub _ h.ahS, m.sub _ h.stS, h.n1, h.n2, h.n3, h.n4, h.n5, h.n6, draw, nlS, nlH, h.nsl, h.nss, dis, h.bki.ext m.w, h.eli.ext m.w, h.okb, h.oke, past, rowR.ext m.w h.rows, ahd, sts, stR.mv m h.lrs, by obtain ⟨cs, q⟩ := h.dc; exact ⟨cs, xl m.w q⟩⟩
theorem DkIs.to {dk b e pa ah : Addr} {u : Int} (h : DkIs K H dk b e pa ah u) (s : Same H H') : DkIs K H' dk b e pa ah u := by
  obtain ⟨dx, h⟩ := h
  exact ⟨dx, s _ _ h⟩
theorem LawSt.same (h : LawSt K Tq S H D) (s : Same H H') : LawSt K Tq S H' D :=
  h.mv (Mv.same s) (h.tab.ext s) (h.ins.ext (ExtN.of s)) (h.draw.to s) h.nlS (s _ _ h.nlH) (h.dis.to s) (s _ _ h.past) (s _ _ h.ahd) (s _ _ h.sts)
theorem LawSt.plus (h : LawSt K Tq S H D) (s : Same H H') {x : Addr} {o : HO} (n : H x = none) (e : H' x = some o) (nt : NT o) : LawSt K Tq (x :: S) H' D :=
  h.mv (Mv.plus s n) (h.tab.ext s) ((h.ins.ext (ExtN.of s)).plus e nt) (h.draw.to s) (fun z => (List.mem_cons.mp z).elim (fun y => by have := h.nlH; rw [y, n] at this; cases this) h.nlS) (s _ _ h.nlH) (h.dis.to s) (s _ _ h.past) (s _ _ h.ahd) (s _ _ h.sts)
theorem LawSt.ext (h : LawSt K Tq S H D) (e : ExtN H H') (t : Tabs Tq H') : LawSt K Tq S H' D :=
  h.mv (Mv.ext e) t (h.ins.ext e) (h.draw.ext e) h.nlS (e _ _ h.nlH NT.lst) (by obtain ⟨dx, q⟩ := h.dis; exact ⟨dx, e _ _ q NT.ins⟩) (e _ _ h.past NT.lst) (e _ _ h.ahd NT.lst) (e _ _ h.sts NT.lst)
theorem LawSt.dL (h : LawSt K Tq S H D) : ∃ xs, H D.d = some (.lst xs) := by
  obtain ⟨a, b, sm, cn, cs, h1, _⟩ := h.draw.ex
  exact ⟨_, h1⟩
theorem LawSt.dkne (h : LawSt K Tq S H D) {a : Addr} {xs : List V} (e : H a = some (.lst xs)) : a ≠ D.dk := fun z => by
  obtain ⟨dx, q⟩ := h.dis
  rw [z, q] at e; cases e
theorem LawSt.nlne (h : LawSt K Tq S H D) {a : Addr} (ha : a ∈ S) : D.nl ≠ a := fun z => h.nlS (by rw [z]; exact ha)
theorem LawSt.pick (h : LawSt K Tq S H D) (k : Kp [D.d] H H') (dr : DrawAt K H' D.d D.c) : LawSt K Tq S H' D := by
  obtain ⟨ds, hd⟩ := h.dL
  have hp : ∀ a ∈ [D.d], ∃ o, H a = some o ∧ Pl o := fun a ha => by rw [List.mem_singleton.mp ha]; exact ⟨_, hd, .inl ⟨_, rfl⟩⟩
  have off : ∀ a, a ≠ D.d → a ∉ [D.d] := fun a n z => n (List.mem_singleton.mp z)
  obtain ⟨dx, q⟩ := h.dis
  refine h.mv (Mv.kp k (fun a ha => by rw [List.mem_singleton.mp ha]; exact h.dS) hp) (tabs_kp h.tab k hp) (h.ins.kp k fun a ha => ?_) dr h.nlS (k.keep _ _ (off _ (h.nlne h.dS)) h.nlH) ⟨dx, k.keep _ _ (off _ (Ne.symm (h.dkne hd))) q⟩ (k.keep _ _ (off _ (Ne.symm h.n1)) h.past) (k.keep _ _ (off _ (Ne.symm h.n2)) h.ahd) (k.keep _ _ (off _ (Ne.symm h.n3)) h.sts)
  obtain ⟨_, _, _, _, _, h1, _⟩ := dr.ex
  rw [List.mem_singleton.mp ha]
  exact ⟨_, h1, NT.lst⟩
/-- one more list changed, none of those -/
theorem LawSt.put (h : LawSt K Tq S H D) {x : Addr} {ys zs : List V} (xS : x ∈ S) (e : H x = some (.lst ys)) (m1 : x ≠ D.d) (m2 : x ≠ D.pa) (m3 : x ≠ D.ah) (m4 : x ≠ D.st) : LawSt K Tq S (L2.upd H x (.lst zs)) D := by
  have k : Kp [x] H (L2.upd H x (.lst zs)) := Kp.upd (by simp)
  have hp : ∀ a ∈ [x], ∃ o, H a = some o ∧ Pl o := fun a ha => by rw [List.mem_singleton.mp ha]; exact ⟨_, e, .inl ⟨_, rfl⟩⟩
  have off : ∀ a, a ≠ x → a ∉ [x] := fun a n z => n (List.mem_singleton.mp z)
  obtain ⟨dx, q⟩ := h.dis
  have sub : ∀ a ∈ [x], a ∈ S := fun a ha => by rw [List.mem_singleton.mp ha]; exact xS
  obtain ⟨a1, a2, a3, a4, cs, b1, b2, b3⟩ := h.draw.ex
  obtain ⟨cs', hc'⟩ := h.dc
  have m := Mv.kp k sub hp
  refine h.mv m (tabs_kp h.tab k hp) (h.ins.kp k fun a ha => ?_) ⟨a1, a2, a3, a4, cs', k.keep _ _ (off _ (Ne.symm m1)) b1, ?_, b3⟩ h.nlS (k.keep _ _ (off _ (h.nlne xS)) h.nlH) ⟨dx, k.keep _ _ (off _ (Ne.symm (h.dkne e))) q⟩ (k.keep _ _ (off _ (Ne.symm m2)) h.past) (k.keep _ _ (off _ (Ne.symm m3)) h.ahd) (k.keep _ _ (off _ (Ne.symm m4)) h.sts)
  · rw [List.mem_singleton.mp ha]
    exact ⟨_, upd_same, NT.lst⟩
  · exact same_l (wo_less fun a ha => by rw [List.mem_singleton.mp ha]; exact h.dS) (xl m.w hc')
end
end K59
set_option maxHeartbeats 4000000
namespace K59
open PySem PySem.Spec PyProof.Rows L2 LamX
theorem Paired.end {α β : Type} {R : α → β → Prop} {y : β} : ∀ {ys : List β} {xs : List α}, Paired R xs (ys ++ [y]) → ∃ xs' x, xs = xs' ++ [x] ∧ Paired R xs' ys ∧ R x y
  | [], _, .cons r .nil => ⟨[], _, rfl, .nil, r⟩
  | _ :: _, _, .cons r t => by
    obtain ⟨xs', x, rfl, h1, h2⟩ := Paired.end t
    exact ⟨_ :: xs', x, rfl, .cons r h1, h2⟩
theorem Paired.hd {α β : Type} {R : α → β → Prop} {y : β} {ys : List β} : ∀ {xs : List α}, Paired R xs (y :: ys) → ∃ x xs', xs = x :: xs' ∧ R x y ∧ Paired R xs' ys
  | _, .cons r t => ⟨_, _, rfl, r, t⟩
theorem stR.sm {K : PySem.W.Frag} {S : List Addr} {H : Hp} : ∀ {xs : List V} {rs : List Row}, Paired (stR K S H) xs rs → ∀ r ∈ rs, SmD 4 (.list r.1) ∧ BkOk r.2
  | _, _, .nil, _, h => by simp at h
  | _, _, .cons ⟨t, l, o, _, _, p⟩ q, r, h => by
    rcases List.mem_cons.mp h with rfl | h
    · exact ⟨p.sm, p.ok⟩
    · exact stR.sm q r h
section
variable {K : PySem.W.Frag} {Tq : List (Addr × Str)} {S : List Addr} {H : Hp} {D : LawD}
theorem LawSt.top (h : LawSt K Tq S H D) (ch : Ch D.rs D.qs D.bk) : ∃ ss' t l o p, D.ss = ss' ++ [.ref t] ∧ SqT K H t [.ref l, .ref o] ∧ PreR K S H l o (p, D.bk) := by
  obtain ⟨qs', p, e⟩ := ch.last
  have r := h.lrs
  rw [e] at r
  obtain ⟨ss', x, e2, _, t, l, o, rfl, h1, h2⟩ := Paired.end r
  exact ⟨ss', t, l, o, p, e2, same_t wo_sub h1, h2⟩
theorem tNil_at {σ : L2.St} {H : Hp} {Q : List V → Hp → Prop} (h : Q [] H) : tNil σ H Q := h
theorem smOthers {ys : List Str} {bk el : Bk} (ok : BkOk bk) (hl : ys.length ≤ 6) {n : Nat} : SmD (n + 3) (.list (othersL ys bk el)) := by
  have ol := others_len ok (el := el) ys
  refine .lst (by omega) fun d hd => ?_
  unfold othersL at hd
  obtain ⟨m, _, hm⟩ := List.mem_flatMap.mp hd
  unfold frN at hm
  obtain ⟨j, _, rfl⟩ := List.mem_map.mp hm
  exact .tup (by simp) fun d hd => by
    rcases List.mem_cons.mp hd with rfl | hd
    · exact .str _
    · rw [List.mem_singleton.mp hd]; exact .int _
/-- a row of deeds, as row_of gives it -/
structure RowGot (K : PySem.W.Frag) (Tq : List (Addr × Str)) (S : List Addr) (H : Hp) (D : LawD) (p dl ob : Addr) (z : Str) (xs : List V) (ds : List Deed) (tl : List PyData) : Prop where
  st : LawSt K Tq S H D
  tup : H p = some (.tup [.ref dl, .str z, .ref ob])
  dlH : H dl = some (.lst xs)
  dlS : dl ∉ S
  dat : DpAll K (wo S H) xs (ds.map Deed.P ++ tl)
  good : goodAll D.bk ds
  sh : ∀ e ∈ ds, DeedSh e
  few : ds.length + tl.length ≤ 8
  shp : ∀ y ∈ ds.map Deed.P ++ tl, Shp 2 y
  alt : (z = "" ∧ tl = [] ∧ LbO K S H ob (doneAll D.bk ds) ∧ ob ∈ S) ∨ (z ≠ "" ∧ ∃ x bad tl', tl = bad :: tl' ∧ BadAt x z bad)
theorem BadAt.word {x z : Str} {bad : PyData} (h : BadAt x z bad) : z ≠ "" := by cases h <;> decide +kernel
theorem row_use (h : LawSt K Tq S H D) {o : Addr} (lb : LbO K S H o D.bk) (oS : o ∈ S) {Qr : VK} {E : XK} (q : ∀ S1 H' p dl ob z xs ds tl, RowGot K Tq S1 H' D p dl ob z xs ds tl → Qr (.ref p) H') : spRowOf K [.ref D.d, .ref o, .ref D.nl] H Qr E := by
  refine ⟨S, D.d, D.c, o, D.nl, D.bk, D.ns, rfl, h.ins.in, h.dS, oS, h.draw, lb, h.okb, h.nlS, h.nlH, h.nsl, h.nss, fun H' p dl ob xs ds kp da nd no np hp hdl dat ga sh few ne lbo => ?_, fun H' p dl xs ds tl x z bad tl' kp da nd np hp hdl et hb dat ga sh few shp => ?_⟩
  · have h1 := h.pick kp da
    obtain ⟨kvs, ho, _⟩ := id lbo
    have mv : Mv S (ob :: S) H H' := (Mv.kp kp (fun a ha => by rw [List.mem_singleton.mp ha]; exact h.dS) (fun a ha => by obtain ⟨ds, hd⟩ := h.dL; rw [List.mem_singleton.mp ha]; exact ⟨_, hd, .inl ⟨_, rfl⟩⟩)).more no
    have nlo : D.nl ≠ ob := fun z => by have := h.nlH; rw [z, no] at this; cases this
    have h2 : LawSt K Tq (ob :: S) H' D := h.mv mv h1.tab (h1.ins.plus ho NT.dK) da (fun z => (List.mem_cons.mp z).elim nlo h.nlS) h1.nlH h1.dis h1.past h1.ahd h1.sts
    refine q (ob :: S) H' p dl ob "" xs ds [] ⟨h2, hp, hdl, fun z => (List.mem_cons.mp z).elim ne (h.ins.in.out nd), by rw [List.append_nil]; exact dat, ga, sh, by simp; omega, ?_, .inl ⟨rfl, rfl, lbo, List.mem_cons_self⟩⟩
    intro y hy
    rw [List.append_nil] at hy
    obtain ⟨e, he, rfl⟩ := List.mem_map.mp hy
    exact goodAll_shp h.okb ga e he
  · exact q S H' p dl o z xs ds tl ⟨h.pick kp da, hp, hdl, h.ins.in.out nd, dat, ga, sh, few, shp, .inr ⟨hb.word, x, bad, tl', et, hb⟩⟩
/-- a row done, or refused -/
structure DoGot (K : PySem.W.Frag) (Tq : List (Addr × Str)) (S : List Addr) (H : Hp) (D : LawD) (S3 : List Addr) (H5 : Hp) (D3 : LawD) (ds : List Deed) (z : Str) : Prop where
  mv : Mv S S3 H H5
  kp : Kp [D.dk, D.pa] H H5
  st : LawSt K Tq S3 H5 D3
  alt : (D3 = D ∧ (z = "" → ds = [])) ∨ (z = "" ∧ ds ≠ [] ∧ ∃ b' ah' x, H ah' = none ∧ D3 = { D with b := b', e := D.b, ah := ah', xs := D.xs ++ [x], zs := [], rs := D.rs ++ [(ds.map Deed.P, D.bk)], bk := doneAll D.bk ds, el := D.bk })
theorem do_use (h : LawSt K Tq S H D) {hn : Addr} {xs : List V} {ds : List Deed} {tl : List PyData} {z : Str} (hS : hn ∈ S) (hh : H hn = some (.lst xs)) (m2 : hn ≠ D.pa) (dat : DpAll K (wo S H) xs (ds.map Deed.P ++ tl)) (ga : goodAll D.bk ds) (few : ds.length + tl.length ≤ 8) (fr : D.rs.length ≤ 100)
    (alt : (z = "" ∧ tl = []) ∨ (z ≠ "" ∧ ∃ x bad tl', tl = bad :: tl' ∧ BadAt x z bad)) {Q : VK} {E : XK} (hQ : ∀ S3 H5 D3, DoGot K Tq S H D S3 H5 D3 ds z → z = "" → Q .non H5)
    (hE : ∀ S3 H5 D3 x bad dd, DoGot K Tq S H D S3 H5 D3 ds z → BadAt x z bad → H5 dd = some (.xd [("called", .str z)]) → E (.ref (cA K x)) (some dd) H5) : spDoAll K [.ref D.dk, .ref hn] H Q E := by
  have lx : D.xs.length = D.rs.length := Paired.length h.rows
  have lv : xs.length = ds.length + tl.length := by rw [DpAll.len dat, List.length_append, List.length_map]
  have dkH : ∃ o, H D.dk = some o ∧ Pl o := by obtain ⟨dx, q⟩ := h.dis; exact ⟨_, q, .inr ⟨_, _, _, rfl⟩⟩
  have sb : ∀ a ∈ [D.dk], a ∈ S := fun a ha => by rw [List.mem_singleton.mp ha]; exact h.dkS
  have pl1 : ∀ a ∈ [D.dk], ∃ o, H a = some o ∧ Pl o := fun a ha => by rw [List.mem_singleton.mp ha]; exact dkH
  have off : ∀ {a : Addr} {xs : List V}, H a = some (.lst xs) → a ∉ [D.dk] := fun e z => h.dkne e (List.mem_singleton.mp z)
  -- nothing done: only dk was touched
  have stay : ∀ H5, Kp [D.dk] H H5 → DkIs K H5 D.dk D.b D.e D.pa D.ah 0 → Mv S S H H5 ∧ Kp [D.dk, D.pa] H H5 ∧ LawSt K Tq S H5 D := fun H5 kp dis => by
    obtain ⟨a1, a2, a3, a4, cs, b1, b2, b3⟩ := h.draw.ex
    obtain ⟨cs', hc'⟩ := h.dc
    have m := Mv.kp kp sb pl1
    refine ⟨m, kp.more (by simp), h.mv m (tabs_kp h.tab kp pl1) (h.ins.kp kp fun a ha => ?_) ⟨a1, a2, a3, a4, cs', kp.keep _ _ (off b1) b1, ?_, b3⟩ h.nlS (kp.keep _ _ (off h.nlH) h.nlH) dis (kp.keep _ _ (off h.past) h.past) (kp.keep _ _ (off h.ahd) h.ahd) (kp.keep _ _ (off h.sts) h.sts)⟩
    · obtain ⟨dx, q⟩ := dis
      rw [List.mem_singleton.mp ha]
      exact ⟨_, q, NT.ins⟩
    · exact same_l (wo_less fun a ha => by rw [List.mem_singleton.mp ha]; exact h.dS) (xl m.w hc')
  refine ⟨S, D.dk, D.b, D.e, D.pa, D.ah, hn, D.xs, xs, D.bk, ds, tl, rfl, ⟨h.ins.in, h.dkS, h.paS, h.dkne h.past, h.dkne hh, m2, h.dis, h.past, by omega, hh, h.bki, h.okb, dat, by omega, ga⟩, ?_⟩
  rcases alt with ⟨ez, rfl⟩ | ⟨nz, x, bad, tl', rfl, hb⟩
  · by_cases dn : ds = []
    · refine .inl ⟨rfl, dn, fun H5 kp dis => ?_⟩
      obtain ⟨m, k, st⟩ := stay H5 kp dis
      exact hQ S H5 D ⟨m, k, st, .inl ⟨rfl, fun _ => dn⟩⟩ ez
    · refine .inr (.inl ⟨rfl, dn, fun H5 b' ah' x kp dis bk' hp hr ha na => ?_⟩)
      have pl2 : ∀ a ∈ [D.dk, D.pa], ∃ o, H a = some o ∧ Pl o := fun a ha => by
        rcases List.mem_cons.mp ha with rfl | ha
        · exact dkH
        · rw [List.mem_singleton.mp ha]; exact ⟨_, h.past, .inl ⟨_, rfl⟩⟩
      have m := (Mv.kp (S := S) kp (fun a ha => by
        rcases List.mem_cons.mp ha with rfl | ha
        · exact h.dkS
        · rw [List.mem_singleton.mp ha]; exact h.paS) pl2).more na
      have ne : ∀ {a : Addr} {xs : List V}, H a = some (.lst xs) → a ≠ ah' := fun e z => by rw [z, na] at e; cases e
      have of2 : ∀ {a : Addr} {xs : List V}, H a = some (.lst xs) → a ≠ D.pa → a ∉ [D.dk, D.pa] := fun e n z => by
        rcases List.mem_cons.mp z with z | z
        · exact h.dkne e z
        · exact n (List.mem_singleton.mp z)
      obtain ⟨a1, a2, a3, a4, cs, b1, b2, b3⟩ := h.draw.ex
      obtain ⟨cs', hc'⟩ := h.dc
      have wc := m.sub
      refine hQ (ah' :: S) H5 _ ⟨m, kp, (⟨tabs_kp h.tab kp pl2, ((h.ins.kp kp fun a ha => ?_).plus ha NT.lst), wc _ h.dS, wc _ h.dkS, wc _ h.paS, List.mem_cons_self, wc _ h.stS, h.n1, ne b1, h.n3, ne h.past, h.n5, Ne.symm (ne h.sts),
        ⟨a1, a2, a3, a4, cs', kp.keep _ _ (of2 b1 h.n1) b1, same_l (wo_less fun a ha => by rw [List.mem_singleton.mp ha]; exact wc _ h.dS) (xl m.w hc'), b3⟩, fun z => (List.mem_cons.mp z).elim (ne h.nlH) h.nlS, kp.keep _ _ (of2 h.nlH (h.nlne h.paS)) h.nlH, h.nsl, h.nss, dis, bk', h.bki.ext m.w, goodAll_ok h.okb ga, h.okb, hp,
        Paired.sn hr (rowR.ext m.w h.rows), ha, kp.keep _ _ (of2 h.sts (Ne.symm h.n5)) h.sts, stR.mv m h.lrs, ⟨cs', xl m.w hc'⟩⟩ : LawSt K Tq (ah' :: S) H5 { D with b := b', e := D.b, ah := ah', xs := D.xs ++ [x], zs := [], rs := D.rs ++ [(ds.map Deed.P, D.bk)], bk := doneAll D.bk ds, el := D.bk }), .inr ⟨ez, dn, b', ah', x, na, rfl⟩⟩ ez
      rcases List.mem_cons.mp ha with rfl | ha
      · obtain ⟨dx, q⟩ := dis
        exact ⟨_, q, NT.ins⟩
      · rw [List.mem_singleton.mp ha]
        exact ⟨_, hp, NT.lst⟩
  · refine .inr (.inr ⟨x, z, bad, tl', rfl, hb, fun H5 dd kp dis nd hd => ?_⟩)
    obtain ⟨m, k, st⟩ := stay H5 kp dis
    exact hE S H5 D x bad dd ⟨m, k, st, .inl ⟨rfl, fun e => absurd e nz⟩⟩ hb hd
theorem try_use {w : World} {mg : Str → Option Value} (T : Fx w K mg) (h : LawSt K Tq S H D) {hn : Addr} {xs : List V} {ds : List Deed} {tl : List PyData} {z : Str} (hS : hn ∈ S) (hh : H hn = some (.lst xs)) (m2 : hn ≠ D.pa) (dat : DpAll K (wo S H) xs (ds.map Deed.P ++ tl)) (ga : goodAll D.bk ds) (few : ds.length + tl.length ≤ 8) (fr : D.rs.length ≤ 100)
    (alt : (z = "" ∧ tl = []) ∨ (z ≠ "" ∧ ∃ x bad tl', tl = bad :: tl' ∧ BadAt x z bad)) {Q : VK} {σ : L2.St} (s3 : σ[3]? = some (some (.ref D.dk))) (s9 : σ[9]? = some (some (.ref hn)))
    (q : ∀ S3 H5 D3 p, DoGot K Tq S H D S3 H5 D3 ds z → H5 p = none → Q (.ref p) (L2.upd H5 p (.tup [.non, .str z]))) :
    TTtr K (fun E H' Q' => tMeth (cA K "Deck") "do_all" (spDoAll K) [] E (tVar 3) (tCons (tVar 9) tNil) σ H' Q') H Q := by
  intro E Q' hE hQ
  obtain ⟨dx, hd⟩ := h.dis
  refine ⟨_, s3, D.dk, dx, _, rfl, hd, rfl, _, s9, ?_⟩
  refine do_use h hS hh m2 dat ga few fr alt (fun S3 H5 D3 g ez => hQ _ _ fun p np => ?_) (fun S3 H5 D3 x bad dd g hb hx => ?_)
  · have := q S3 H5 D3 p g np
    rwa [ez] at this
  · cases hb with
    | deed => exact hE _ _ _ ⟨_, dd, _, _, rfl, rfl, hx, T.y_BadDeed.1, T.y_BadDeed.2, T.q_BadDeed, (fun z => nomatch z), fun p np => q S3 H5 D3 p g np⟩
    | tape => exact hE _ _ _ ⟨_, dd, _, _, rfl, rfl, hx, T.y_NoTape.1, T.y_NoTape.2, T.q_NoTape.1, (fun _ => T.q_NoTape.2), fun p np => q S3 H5 D3 p g np⟩
    | name => exact hE _ _ _ ⟨_, dd, _, _, rfl, rfl, hx, T.y_BadName.1, T.y_BadName.2, T.q_BadName, (fun z => nomatch z), fun p np => q S3 H5 D3 p g np⟩
theorem LawSt.setst (h : LawSt K Tq S H D) {ss' : List V} {qs' : List Row} (hp : Paired (stR K S H) ss' qs') : LawSt K Tq S (L2.upd H D.st (.lst ss')) { D with ss := ss', qs := qs' } ∧ Mv S S H (L2.upd H D.st (.lst ss')) := by
  have k : Kp [D.st] H (L2.upd H D.st (.lst ss')) := Kp.upd (by simp)
  have pl : ∀ a ∈ [D.st], ∃ o, H a = some o ∧ Pl o := fun a ha => by rw [List.mem_singleton.mp ha]; exact ⟨_, h.sts, .inl ⟨_, rfl⟩⟩
  have off : ∀ a, a ≠ D.st → a ∉ [D.st] := fun a n z => n (List.mem_singleton.mp z)
  have m := Mv.kp (S := S) k (fun a ha => by rw [List.mem_singleton.mp ha]; exact h.stS) pl
  obtain ⟨dx, q⟩ := h.dis
  obtain ⟨a1, a2, a3, a4, cs, b1, b2, b3⟩ := h.draw.ex
  obtain ⟨cs', hc'⟩ := h.dc
  refine ⟨⟨tabs_kp h.tab k pl, h.ins.kp k fun a ha => ?_, h.dS, h.dkS, h.paS, h.ahS, h.stS, h.n1, h.n2, h.n3, h.n4, h.n5, h.n6, ⟨a1, a2, a3, a4, cs', k.keep _ _ (off _ h.n3) b1, same_l (wo_less fun a ha => by rw [List.mem_singleton.mp ha]; exact h.dS) (xl m.w hc'), b3⟩, h.nlS, k.keep _ _ (off _ (h.nlne h.stS)) h.nlH, h.nsl, h.nss,
    ⟨dx, k.keep _ _ (off _ (Ne.symm (h.dkne h.sts))) q⟩, h.bki.ext m.w, h.eli.ext m.w, h.okb, h.oke, k.keep _ _ (off _ h.n5) h.past, rowR.ext m.w h.rows, k.keep _ _ (off _ h.n6) h.ahd, upd_same, stR.mv m hp, ⟨cs', xl m.w hc'⟩⟩, m⟩
  rw [List.mem_singleton.mp ha]
  exact ⟨_, upd_same, NT.lst⟩
theorem undo_use (h : LawSt K Tq S H D) {rs' : List Row} {p : List PyData} {bk0 : Bk} (er : D.rs = rs' ++ [(p, bk0)]) (ok0 : BkOk bk0) (zl : D.zs.length ≤ 1000) {Q : VK} {E : XK}
    (q : ∀ H5 pv b' xs' zs', Mv S S H H5 → LawSt K Tq S H5 { D with b := b', e := D.b, xs := xs', zs := zs', rs := rs', bk := bk0, el := D.bk } → zs'.length ≤ D.zs.length + 1 → Dp K (wo S H5) (.ref pv) (.list p) → Q (.ref pv) H5) : spUndo K [.ref D.dk] H Q E := by
  have hr := h.rows
  rw [er] at hr
  obtain ⟨xs', x, ex, hr1, hr2⟩ := Paired.end hr
  have hp := h.past
  rw [ex] at hp
  refine ⟨S, D.dk, D.b, D.e, D.pa, D.ah, xs', x, (p, bk0), D.zs, rfl, h.ins.in, h.dkS, h.paS, h.ahS, h.dkne h.past, h.dkne h.ahd, h.n4, h.dis, hp, h.ahd, zl, hr2, fun H5 b' pv kp dis bk' hp5 hz np dp5 => ?_⟩
  obtain ⟨zs', ha5, lz⟩ := hz
  have pl : ∀ a ∈ [D.dk, D.pa, D.ah], ∃ o, H a = some o ∧ Pl o := fun a ha => by
    simp only [List.mem_cons, List.not_mem_nil, or_false] at ha
    rcases ha with rfl | rfl | rfl
    · obtain ⟨dx, q⟩ := h.dis
      exact ⟨_, q, .inr ⟨_, _, _, rfl⟩⟩
    · exact ⟨_, h.past, .inl ⟨_, rfl⟩⟩
    · exact ⟨_, h.ahd, .inl ⟨_, rfl⟩⟩
  have m := Mv.kp (S := S) kp (fun a ha => by
    simp only [List.mem_cons, List.not_mem_nil, or_false] at ha
    rcases ha with rfl | rfl | rfl
    · exact h.dkS
    · exact h.paS
    · exact h.ahS) pl
  have off : ∀ {a : Addr} {xs : List V}, H a = some (.lst xs) → a ≠ D.pa → a ≠ D.ah → a ∉ [D.dk, D.pa, D.ah] := fun e n1 n2 z => by
    simp only [List.mem_cons, List.not_mem_nil, or_false] at z
    rcases z with z | z | z
    · exact h.dkne e z
    · exact n1 z
    · exact n2 z
  obtain ⟨a1, a2, a3, a4, cs, b1, b2, b3⟩ := h.draw.ex
  obtain ⟨cs', hc'⟩ := h.dc
  refine q H5 pv b' xs' zs' m ⟨tabs_kp h.tab kp pl, h.ins.kp kp fun a ha => ?_, h.dS, h.dkS, h.paS, h.ahS, h.stS, h.n1, h.n2, h.n3, h.n4, h.n5, h.n6, ⟨a1, a2, a3, a4, cs', kp.keep _ _ (off b1 h.n1 h.n2) b1, same_l (wo_less fun a ha => by rw [List.mem_singleton.mp ha]; exact h.dS) (xl m.w hc'), b3⟩, h.nlS, kp.keep _ _ (off h.nlH (h.nlne h.paS) (h.nlne h.ahS)) h.nlH, h.nsl, h.nss,
    dis, bk', h.bki.ext m.w, ok0, h.okb, hp5, rowR.ext m.w hr1, ha5, kp.keep _ _ (off h.sts (Ne.symm h.n5) (Ne.symm h.n6)) h.sts, stR.mv m h.lrs, ⟨cs', xl m.w hc'⟩⟩ lz dp5
  simp only [List.mem_cons, List.not_mem_nil, or_false] at ha
  rcases ha with rfl | rfl | rfl
  · obtain ⟨dx, q⟩ := dis
    exact ⟨_, q, NT.ins⟩
  · exact ⟨_, hp5, NT.lst⟩
  · exact ⟨_, ha5, NT.lst⟩
theorem LawSt.deckSo (h : LawSt K Tq S H D) {o : Addr} (lb : LbO K S H o D.bk) (oS : o ∈ S) {Q : VK} {E : XK} (q : ∀ H', Same H H' → Q (.bl true) H') : spDeckSo K [.ref D.dk, .ref o] H Q E := by
  refine ⟨S, D.dk, D.b, D.e, D.pa, D.ah, o, D.bk, rfl, h.ins.in, oS, fun z => ?_, h.dis, h.bki, lb, h.okb, q⟩
  obtain ⟨dx, e1⟩ := h.dis
  obtain ⟨kvs, e2, _⟩ := lb
  rw [z, e2] at e1
  cases e1
end
end K59
set_option maxHeartbeats 4000000
namespace K59
open PySem PySem.Spec PyProof.Rows L2 LamX
theorem pe_mk0 {X : Cx} {k j : Nat} {x : Str} {C : Addr} {sp : Sp} {dvs : List V} {p pos : Pos} (c : C8.Mak X.prog X.w X.K X.mg X.base k x C sp dvs) (hr : Room j X.A) (hk : k + 1 ≤ j) (hg : Gl X x) (hdb : (x == ("__debug__" : Str)) = false := by decide) : PE X (.Call (.Name x p) [] [] pos) (tMake C sp dvs C8.E0 tNil) := by
  obtain ⟨f, fd, ps, ds, M, F, hm, b, d⟩ := c.ex
  exact pe_make0 M F (hr.mono hk) hg hm b d pass0 hdb
theorem pass_lam {X : Cx} {A : Around} {outer : List Env} {s : Shared} {H : Hp} {E : XK} {scope : Scope} {f c' : Addr} : Passes (L2.CX X.prog X.w) (lamCx X A outer s H E scope f c') E := passes_call (takes_of rfl rfl rfl rfl) fun _ _ _ _ h => h
def qLam : Str := ("law" : Str) ++ ".<locals>." ++ "<lambda>"
theorem ne_of_none' {H : Hp} {a b : Addr} {o : HO} (h : H a = some o) (n : H b = none) : b ≠ a := fun z => by rw [z, h] at n; cases n
section
variable {P : Program} {w : World} {K : PySem.W.Frag} {mg : Str → Option Value} {base : Heap}
def spLaw (K : PySem.W.Frag) (tb : Addr) : Sp := fun vs H Q _ => ∃ (a : Addr) (zs : List Int), vs = [.ref a] ∧ SqL K H a (zs.map V.int) ∧ Tabs [(tb, qLam)] H ∧ ∀ H', Q (.bl true) H'
abbrev s_law : Stmt := top 132
abbrev N_law : List Str := ["_law_script", "_law_draw", "_law_names_here", "_law_deck", "_law_stands", "_law_turn", "_law_deeds", "_law_word_here", "_law_book", "_law_handed", "_law_told", "_law_row", "_law_one_here"]
theorem sc_law : FnScope N_law ["_law_script"] (C8.fnScope s_law) := C8.fnScope_by (by decide +kernel)
theorem ok_law (T : Fx w K mg) {f c tb : Addr} {oc dV kV doc pm ct : Value} {an od : Option Addr} {osl : Array (Option Value)} (lk : K.lookup f = some ⟨oc, od, .func (PySem.W.fnOf "law" "law" (C8.fnArgs s_law) (C8.fnBody s_law) (C8.fnScope s_law) dV kV doc pm an (.ref c) ct), osl⟩) (hcd : PySem.W.codeIn K (.ref c) "law" = true) (TB : TabB base mg c tb) :
    FnOk P w K mg base C8.CX0 13 f (PySem.W.fnOf "law" "law" (C8.fnArgs s_law) (C8.fnBody s_law) (C8.fnScope s_law) dV kV doc pm an (.ref c) ct) ["_law_script"] (spLaw K tb) := by
  refine fn_of lk hcd sc_law (fun vs H Q E h => by obtain ⟨a, zs, rfl, _⟩ := h; rfl) (fun A outer s H vs Q E hr h => ?_)
  suffices hh : ∃ t, PSs (cxOf C8.CX0 P w K mg base N_law "law" (C8.fnScope s_law) f (.ref c) A outer s H E).nox (C8.fnBody s_law) t ∧ t { nx := fun _ H' => Q .non H', rt := Q } (start N_law vs) H by
    obtain ⟨t, h1, h2⟩ := hh
    exact ⟨t, h1.nox, h2⟩
  have nd := sc_law.nd
  have hu := hu_of hr
  have hu64 := hu64 hr
  obtain ⟨fA, fdA, psA, clA, meA, FA, bA⟩ := (m_Deck_do_all (P := P) (base := base) T).ex
  obtain ⟨gT, fdT, FT, hmT, hkT, dfT⟩ := T.d_law_tried.ex
  have bT := FT.binds (ps := ["_law_ask"]) dfT (fun _ _ _ _ _ _ us hl => match us, hl with | [_], _ => rfl)
  obtain ⟨ocT, odT, dVT, kVT, docT, pmT, anT, cdT, ctT, oslT, rfl, lkT, hcT⟩ := FT.ex
  have hbT := bT
  refine ⟨_, (pss_cons (ps_set (i := 1) nd rfl (by first | exact Or.inl rfl | exact Or.inr rfl) (C8.pe_c (c_law_begin T) hr (by decide) rfl (pa_cons (pv 0) pa_nil)))
      (pss_cons (ps_set (i := 2) nd rfl (by first | exact Or.inl rfl | exact Or.inr rfl) (C8.pe_c (c_law_names T) hr (by decide) rfl (pa_cons (pv 1) pa_nil)))
      (pss_cons (ps_set (i := 3) nd rfl (by first | exact Or.inl rfl | exact Or.inr rfl) (pe_mk0 (k_Deck T) hr (by decide) rfl)) (pss_cons (ps_set (i := 4) nd rfl
      (by first | exact Or.inl rfl | exact Or.inr rfl) (pe_lst (pa_cons (pe_tup (pa_cons (pe_lst pa_nil) (pa_cons pe_dnewK pa_nil))) pa_nil)))
      (pss_cons (ps_for PassesOwn.never rfl (pi_range1 rfl T.f_range (pa_cons (pe_op op_add pe_int (C8.pe_c (c_law_pick T) hr (by decide) rfl (pa_cons
      (pv 1) (pa_cons pe_int pa_nil)))) pa_nil)) (pg_name (i := 5) nd rfl (by first | exact Or.inl rfl | exact Or.inr rfl)) (pss_cons (ps_asg (C8.pe_c
      (c_law_row_of T) hr (by decide) rfl (pa_cons (pv 1) (pa_cons (pe_ix (r := rIxT K) ix_tup (pe_ix (r := rIxL K) ix_list (pv 4) (pe_un un_neg pe_int)
      (fun _ _ => rfl)) pe_int (fun _ _ => rfl)) (pa_cons (pv 2) pa_nil)))) (pg_tup rfl (pgs_cons (pg_name (i := 6) nd rfl (by first | exact Or.inl rfl | exact Or.inr rfl))
      (pgs_cons (pg_name (i := 7) nd rfl (by first | exact Or.inl rfl | exact Or.inr rfl)) (pgs_cons (pg_name (i := 8) nd rfl (by first | exact Or.inl rfl | exact Or.inr rfl)) pgs_nil)))))
      (pss_cons (ps_set (i := 9) nd rfl (by first | exact Or.inl rfl | exact Or.inr rfl) (pe_callTy (T := "list") (r := rListOf K) call_list_of (by rfl) T.f_list
      (by decide +kernel) (pa_cons (pv 6) pa_nil))) (pss_cons (ps_set (i := 10) nd rfl (by first | exact Or.inl rfl | exact Or.inr rfl) (C8.pe_mt0
      (m_Deck_fresh T) hr (by decide) (pv 3))) (C8.pss_cut (ps_if (PW.pt (pw_or (pt_not (pt_val (C8.pe_c (c_same T 8) hr (by decide) rfl (pa_cons
      (pe_lamat (T := [(tb, qLam)]) (TT := TTtr K) (k := 10) (t := fun E => tMeth (cA K "Deck") "do_all" (spDoAll K) [] E (tVar 3) (tCons (tVar 9) tNil)) rfl hmT hkT lkT hcT hbT sc_law_tried rfl
      (.inl rfl) (tried_gives T) TB rfl (List.mem_singleton_self _) (fun p hp _ => by rw [List.mem_singleton.mp hp]; rfl) (hr.mono (by decide))
      (lamS_by (by show lamSB (C8.fnScope s_law) _ = true; decide +kernel)) rfl (fun _ _ _ _ _ => rfl) (fun A outer s H E f c' hr2 => pe_meth (pv 3) clA meA FA hr2 bA .nil pass_lam
      (pa_cons (pv 9) pa_nil))) (pa_cons (pe_tup (pa_cons pe_non (pa_cons (pv 7) pa_nil))) pa_nil))))) (pw_or1 (pt_cmpR (op_neD hu64) (pv 9) (pv 6)
      (nomark _))))) (pss_one (ps_ret pe_bl)) pss_nil) (pss_cons (ps_expr (pe_bm PySem.F.plainAttrs_list PySem.F.slot_list_append PySem.F.type_list_append mt_append
      (pv 9) (pa_cons pe_int pa_nil))) (C8.pss_cut (ps_if (PW.pt (pw_and (pt_cmpR op_ne (pv 7) pe_str (nomark _)) (pw_and1 (pt_not (pt_val (C8.pe_c
      (c_same T 8) hr (by decide) rfl (pa_cons (C8.pe_mt0 (m_Deck_fresh T) hr (by decide) (pv 3)) (pa_cons (pv 10) pa_nil)))))))) (pss_one (ps_ret pe_bl)) pss_nil)
      (C8.pss_cut (ps_if (PW.pt (pw_and (pt_cmpR op_eq (pv 7) pe_str (nomark _)) (pw_and1 (pt_cmpR (op_neD hu64) (pv 6) (pe_lst pa_nil) (nomark _)))))
      (pss_one (ps_expr (pe_bm PySem.F.plainAttrs_list PySem.F.slot_list_append PySem.F.type_list_append mt_append (pv 4) (pa_cons (pe_tup (pa_cons (pv 6)
      (pa_cons (pv 8) pa_nil))) pa_nil)))) pss_nil) (pss_cons (ps_if (PW.pt (pw_or (pt_not (pt_val (C8.pe_c (c_law_deck_so T) hr (by decide) rfl
      (pa_cons (pv 3) (pa_cons (pe_ix (r := rIxT K) ix_tup (pe_ix (r := rIxL K) ix_list (pv 4) (pe_un un_neg pe_int) (fun _ _ => rfl)) pe_int (fun _ _ => rfl)) pa_nil)))))
      (pw_or1 (pt_not (pt_val (C8.pe_c (c_same T 8) hr (by decide) rfl (pa_cons (C8.pe_mt0 (m_Deck_deeds T) hr (by decide) (pv 3)) (pa_cons (pe_lc (own := [("_law_row", 11),
      ("_law_one_here", 12)]) (g := gTup K 2 (gCons (gName 11) (gCons (gName 12) gNil))) (tt := tYes) rfl nd (pi_list (pe_slice (r := rSlL K) sl_list
      (pv 4) (po_some pe_int) po_none)) (blkOk_by (own := [("_law_row", 11), ("_law_one_here", 12)]) (N := N_law) (sc := C8.fnScope s_law) (by decide +kernel))
      (fun _ _ _ _ _ => (pg_tup rfl (pgs_cons (pg_name (i := 11) nd rfl (by first | exact Or.inl rfl | exact Or.inr rfl)) (pgs_cons (pg_name (i := 12) nd rfl
      (by first | exact Or.inl rfl | exact Or.inr rfl)) pgs_nil)))) (fun _ _ _ _ _ => pts_nil) (fun _ _ _ _ _ => (pv 11))) pa_nil)))))))) (pss_one
      (ps_ret pe_bl)) pss_nil) (pss_one (ps_if (PW.pt (pw_and (pt_cmpR op_eq (C8.pe_c (c_law_pick T) hr (by decide) rfl (pa_cons (pv 1) (pa_cons pe_int pa_nil))) pe_int
      (nomark _)) (pw_and1 (pt_cmpR op_gt (pe_callB (r := rLenSq K) call_len_seq (by rfl) T.f_len PySem.boot_len (pa_cons (pv 4) pa_nil)) pe_int
      (nomark _))))) (pss_one (ps_if (PW.pt (pw_or (pt_not (pt_val (C8.pe_c (c_same T 8) hr (by decide) rfl (pa_cons (C8.pe_mt0 (m_Deck_undo T) hr (by decide)
      (pv 3)) (pa_cons (pe_ix (r := rIxT K) ix_tup (pe_bm0 PySem.F.plainAttrs_list PySem.F.slot_list_pop PySem.F.type_list_pop mt_pop (pv 4)) pe_int
      (fun _ _ => rfl)) pa_nil))))) (pw_or1 (pt_not (pt_val (C8.pe_c (c_law_deck_so T) hr (by decide) rfl (pa_cons (pv 3) (pa_cons (pe_ix (r := rIxT K) ix_tup
      (pe_ix (r := rIxL K) ix_list (pv 4) (pe_un un_neg pe_int) (fun _ _ => rfl)) pe_int (fun _ _ => rfl)) pa_nil)))))))) (pss_one (ps_ret pe_bl)) pss_nil)) pss_nil)))))))))))
      (pss_one (ps_ret pe_bl))))))), ?_⟩

  obtain ⟨a, zs, rfl, ha, tabs, q⟩ := h
  refine ⟨_, rfl, a, zs, rfl, ha, fun H1 d c s1 nd1 da1 => ?_⟩
  refine ⟨_, rfl, d, c, rfl, da1, fun H2 nl ns nsl nss kp2 da2 nn hnl => ?_⟩
  refine fun dk dx ndk ndx hne => ⟨H2, dk, dx, rfl, over (Same.upd ndx) ndk, ndk, upd_same, fun H3 b e pa ah s3 nb ne npa nah e1 e2 e3 e4 e5 e6 e7 e8 e9 hb he hpa hah dis => ⟨rfl, ?_⟩⟩
  refine ⟨sz (by simp), fun l0 nl0 o0 no0 => ⟨sz (by simp), fun t0 nt0 => ⟨sz (by simp), fun st nst => ?_⟩⟩⟩
  have u1 := Same.upd (o := .lst []) nl0
  have u2 := Same.upd (o := .dK []) no0
  have u3 := Same.upd (o := .tup [.ref l0, .ref o0]) nt0
  have u4 := Same.upd (o := .lst [.ref t0]) nst
  have u34 := u3.trans u4
  have u24 := u2.trans u34
  have s34 := u1.trans u24
  have hl0 := u24 _ _ (upd_same (a := l0))
  have ho0 := u34 _ _ (upd_same (a := o0))
  have ht0 := u4 _ _ (upd_same (a := t0))
  have hst := upd_same (H := L2.upd (L2.upd (L2.upd H3 l0 (.lst [])) o0 (.dK [])) t0 (.tup [.ref l0, .ref o0])) (a := st) (o := .lst [.ref t0])
  have xl0 := nl0
  have xo0 := wasNone u1 no0
  have xt0 := wasNone (u1.trans u2) nt0
  have xst := wasNone (u1.trans (u2.trans u3)) nst
  have o0l0 : o0 ≠ l0 := fun z => by rw [z, upd_same] at no0; cases no0
  have t0o0 : t0 ≠ o0 := fun z => by rw [z, upd_same] at nt0; cases nt0
  have t0l0 : t0 ≠ l0 := fun z => by rw [z, u2 _ _ upd_same] at nt0; cases nt0
  have stt0 : st ≠ t0 := fun z => by rw [z, upd_same] at nst; cases nst
  have sto0 : st ≠ o0 := fun z => by rw [z, u3 _ _ upd_same] at nst; cases nst
  have stl0 : st ≠ l0 := fun z => by rw [z, (u2.trans u3) _ _ upd_same] at nst; cases nst
  generalize L2.upd (L2.upd (L2.upd (L2.upd H3 l0 (.lst [])) o0 (.dK [])) t0 (.tup [.ref l0, .ref o0])) st (.lst [.ref t0]) = H4 at *
  obtain ⟨a1, a2, a3, a4, cs, hd1, hc1, cn⟩ := id da1
  obtain ⟨a5, a6, a7, a8, cs2, hd2, hc2, cn2⟩ := id da2
  have base : ∃ S D, LawSt K [(tb, qLam)] S H4 D ∧ Ch D.rs D.qs D.bk ∧ D.rs.length ≤ 0 ∧ D.zs.length ≤ 0 ∧ D.d = d ∧ D.nl = nl ∧ D.dk = dk ∧ D.st = st := by
    have pl : ∀ x ∈ [d], ∃ o, H1 x = some o ∧ Pl o := fun x hx => by rw [List.mem_singleton.mp hx]; exact ⟨_, hd1, .inl ⟨_, rfl⟩⟩
    have m := (((((Mv.kp (S := [d]) kp2 (fun _ h => h) pl).trans (Mv.same (s3.trans s34))).more (kp_none kp2 ndk)).more (kp_none kp2 npa)).more (kp_none kp2 nah)).more (kp_none kp2 (wasNone s3 xo0)) |>.more (kp_none kp2 (wasNone s3 xst))
    have o3 : ∀ {x : Addr} {o : HO}, H3 x = some o → x ≠ o0 ∧ x ≠ st := fun e => ⟨ne_of_none e xo0, ne_of_none e xst⟩
    have hd3 := s3 _ _ hd2
    have hnl3 := s3 _ _ hnl
    obtain ⟨dx3, hdk3⟩ := id dis
    have nof : ∀ x, x ≠ st → x ≠ o0 → x ≠ ah → x ≠ pa → x ≠ dk → x ≠ d → x ∉ [st, o0, ah, pa, dk, d] := fun x y1 y2 y3 y4 y5 y6 z => by
      simp only [List.mem_cons, List.not_mem_nil, or_false] at z
      rcases z with z | z | z | z | z | z
      · exact y1 z
      · exact y2 z
      · exact y3 z
      · exact y4 z
      · exact y5 z
      · exact y6 z
    have bS := nof b (o3 hb).2 (o3 hb).1 e7 e6 e4 (Ne.symm (ne_of_none hd2 nb))
    have eS := nof e (o3 he).2 (o3 he).1 e9 e8 e5 (Ne.symm (ne_of_none hd2 ne))
    have nlS := nof nl (o3 hnl3).2 (o3 hnl3).1 (ne_of_none hnl nah) (ne_of_none hnl npa) (ne_of_none hnl ndk) (Ne.symm (ne_of_none hd1 nn))
    have n3 : ∀ {x y : Addr} {o : HO}, H3 x = some o → H3 y = none → y ≠ x := fun e n => Ne.symm (ne_of_none e n)
    have l0S := nof l0 (Ne.symm stl0) (Ne.symm o0l0) (n3 hah xl0) (n3 hpa xl0) (n3 hdk3 xl0) (n3 hd3 xl0)
    have t0S := nof t0 (Ne.symm stt0) t0o0 (n3 hah xt0) (n3 hpa xt0) (n3 hdk3 xt0) (n3 hd3 xt0)
    have ok0 : BkOk [] := ⟨List.nodup_nil, fun _ h => by simp at h, fun _ h => by simp at h, by simp⟩
    have ne3 := fun (x : Addr) (n : H2 x = none) => Ne.symm (Ne.symm (ne_of_none hd2 n))
    refine ⟨[st, o0, ah, pa, dk, d], ⟨d, c, nl, dk, b, e, pa, ah, st, ns, [], [], [.ref t0], [], [([], [])], [], []⟩, ⟨(tabs_kp (tabs.ext s1) kp2 pl).ext (s3.trans s34), fun x hx => ?_, by simp, by simp, by simp, by simp, by simp, ne_of_none hd2 npa, ne_of_none hd2 nah, (o3 hd3).2, e3, (o3 hpa).2, (o3 hah).2, da2.to (s3.trans s34), nlS, s34 _ _ hnl3, nsl, nss,
      dis.to s34, ⟨[], by rw [wo_out bS]; exact s34 _ _ hb, .nil⟩, ⟨[], by rw [wo_out eS]; exact s34 _ _ he, .nil⟩, ok0, ok0, s34 _ _ hpa, .nil, s34 _ _ hah, hst, .cons ⟨t0, l0, o0, rfl, SqT.of (by rw [wo_out t0S]; exact ht0), ⟨.lst (SqL.of (by rw [wo_out l0S]; exact hl0)) .nil, ⟨[], ho0, .nil⟩, by simp, ok0, .lst (by simp) fun _ h => by simp at h⟩⟩ .nil, ⟨cs, xl m.w hc1⟩⟩, .nil, Nat.le_refl _, Nat.le_refl _, rfl, rfl, rfl, rfl⟩
    simp only [List.mem_cons, List.not_mem_nil, or_false] at hx
    rcases hx with rfl | rfl | rfl | rfl | rfl | rfl
    · exact ⟨_, hst, NT.lst⟩
    · exact ⟨_, ho0, NT.dK⟩
    · exact ⟨_, s34 _ _ hah, NT.lst⟩
    · exact ⟨_, s34 _ _ hpa, NT.lst⟩
    · exact ⟨_, s34 _ _ hdk3, NT.ins⟩
    · exact ⟨_, s34 _ _ hd3, NT.lst⟩
  obtain ⟨S0, D0, L0, ch0, r0, z0, hd0, hnl0, hdk0, hst0⟩ := base
  subst hd0 hnl0 hdk0 hst0
  refine ⟨_, rfl, D0.d, D0.c, _, rfl, L0.draw, ⟨by decide, by decide⟩, fun H5 k hk kp5 da5 => ⟨_, _, rfl, rfl, _, rfl, by omega, by omega, ?_⟩⟩
  have L5 := L0.pick kp5 da5
  refine for_it walk_range (fun i σ H' => ∃ S D x5 x6 x7 x8 x9 x10 x11 x12, σ = [some (.ref a), some (.ref D.d), some (.ref D.nl), some (.ref D.dk), some (.ref D.st), x5, x6, x7, x8, x9, x10, x11, x12] ∧ LawSt K [(tb, qLam)] S H' D ∧ Ch D.rs D.qs D.bk ∧ D.rs.length ≤ i ∧ D.zs.length ≤ i) ⟨S0, D0, _, _, _, _, _, _, _, _, rfl, L5, ch0, r0, z0⟩ (fun _ _ _ _ _ => trivial) ?_ (fun σ H' hh => ?_)
  · rintro i x σ H6 H7 hi ⟨S, D, x5, x6, x7, x8, x9, x10, x11, x12, rfl, L, ch, lr, lz⟩ ⟨rfl, rfl⟩
    obtain ⟨ss', tt, l1, o1, p1, ess, ht1, pr1⟩ := L.top ch
    have hss := L.sts
    rw [ess] at hss
    refine ⟨_, rfl, _, rfl, _, rfl, D.st, _, _, _, rfl, rfl, SqL.of hss, atI_last _ _, tt, _, _, _, rfl, rfl, ht1, atI_nat (j := 1) rfl, _, rfl, tNil_at (row_use L pr1.book pr1.oS fun S1 H8 p dl ob z xs ds tl rg => ?_)⟩
    refine ⟨p, _, rfl, SqT.of rg.tup, rfl, _, _, rfl, _, _, rfl, _, _, rfl, rfl, ?_⟩
    refine ⟨_, rfl, dl, xs, rfl, .inl (SqL.of rg.dlH), fun h nh => ?_⟩
    have v1 := Same.upd (o := .lst xs) nh
    have L8 := rg.st
    have L9 := L8.plus v1 nh upd_same NT.lst
    have hh9 := upd_same (H := H8) (a := h) (o := .lst xs)
    have hdl9 := v1 _ _ rg.dlH
    have dat9 := K59.da rg.dat (wo_plus v1 nh)
    have m89 := Mv.plus (S := S1) v1 nh
    generalize L2.upd H8 h (.lst xs) = H9 at *
    obtain ⟨dx9, hdk9⟩ := L9.dis
    refine ⟨_, rfl, D.dk, dx9, _, rfl, hdk9, rfl, h :: S1, D.dk, D.b, D.e, D.pa, D.ah, D.bk, D.el, rfl, L9.ins.in, L9.dis, L9.bki, L9.eli, L9.okb, L9.oke, fun H10 tp ys s10 ntp pys sys dtp => ?_⟩
    have L10 := L9.same s10
    have m10 := m89.trans (Mv.same s10)
    have hh10 := s10 _ _ hh9
    have hdl10 := s10 _ _ hdl9
    have dat10 := K59.da dat9 (Same.wo s10)
    refine ⟨fun σ H' => σ = [some (.ref a), some (.ref D.d), some (.ref D.nl), some (.ref D.dk), some (.ref D.st), some (.int (0 + i)), some (.ref dl), some (.str z), some (.ref ob), some (.ref h), some (.ref tp), x11, x12] ∧ ∃ S3 D3, LawSt K [(tb, qLam)] S3 H' D3 ∧ Mv (h :: S1) S3 H10 H' ∧ H' h = some (.lst xs) ∧ H' dl = some (.lst xs) ∧
      ((D3 = D ∧ (z = "" → ds = [])) ∨ (z = "" ∧ ds ≠ [] ∧ ∃ b' ah' x, ah' ≠ h ∧ D3 = { D with b := b', e := D.b, ah := ah', xs := D.xs ++ [x], zs := [], rs := D.rs ++ [(ds.map Deed.P, D.bk)], bk := doneAll D.bk ds, el := D.bk })), ?_, ?_⟩
    · have hpa : h ≠ D.pa := ne_of_none' rg.st.past nh
      have rl : D.rs.length ≤ 100 := by omega
      refine ⟨L10.tab, fun H11 eN T11 => ?_⟩
      have L11 := L10.ext eN T11
      have hh11 := eN _ _ hh10 NT.lst
      have hdl11 := eN _ _ hdl10 NT.lst
      have dat11 := xda (ExtN.wo eN (h :: S1)) _ _ dat10
      refine try_use T L11 List.mem_cons_self hh11 hpa dat11 rg.good rg.few rl (rg.alt.imp (fun q => ⟨q.1, q.2.1⟩) id) rfl rfl fun S3 H12 D3 p2 g np2 => ?_
      have w1 := Same.upd (o := .tup [.non, .str z]) np2
      refine ⟨_, rfl, by show 2 ≤ sizeLine; decide, fun p3 np3 => ?_⟩
      have w2 := Same.upd (o := .tup [.non, .str z]) np3
      have w12 := w1.trans w2
      have hdk11 : h ∉ [D.dk, D.pa] := fun y => by
        rcases List.mem_cons.mp y with y | y
        · exact L11.dkne hh11 y
        · exact hpa (List.mem_singleton.mp y)
      have hdl0 : dl ∉ [D.dk, D.pa] := fun y => by
        rcases List.mem_cons.mp y with y | y
        · exact L11.dkne hdl11 y
        · exact rg.dlS (by rw [List.mem_singleton.mp y]; exact rg.st.paS)
      have hh12 := g.kp.keep _ _ hdk11 hh11
      have hdl12 := g.kp.keep _ _ hdl0 hdl11
      have dat12 := xda g.mv.w _ _ dat11
      have shp3 : Shp 3 (.list (ds.map Deed.P ++ tl)) := Shp.lst rg.shp
      refine ⟨_, _, .tuple [.none, .str z], rfl, .tup (SqT.of (w2 _ _ upd_same)) (.cons .non (.cons (.str _) .nil)), .tup (SqT.of upd_same) (.cons .non (.cons (.str _) .nil)), .tup (by simp) (fun y hy => ?_), fun H14 s14 => ⟨true, rfl, iteF ?_⟩⟩
      · rcases List.mem_cons.mp hy with rfl | hy
        · exact .non
        · rw [List.mem_singleton.mp hy]; exact .str _
      have w14 := w12.trans s14
      have dat14 := K59.da dat12 (wo_sub.trans w14)
      refine ⟨_, rfl, _, rfl, .list (ds.map Deed.P ++ tl), .list (ds.map Deed.P ++ tl), .lst (SqL.of (w14 _ _ hh12)) dat14, .lst (SqL.of (w14 _ _ hdl12)) dat14, shp3.ok (by decide), shp3.ok (by decide), _, rfl, ?_⟩
      rw [shp3.self]
      refine iteF ⟨rfl, S3, D3, g.st.same w14, (Mv.ext eN).trans (g.mv.trans (Mv.same w14)), w14 _ _ hh12, w14 _ _ hdl12, ?_⟩
      rcases g.alt with q | ⟨q1, q2, b', ah', x, na, q3⟩
      · exact .inl q
      · exact .inr ⟨q1, q2, b', ah', x, ne_of_none' hh11 na, q3⟩
    · rintro σ H' ⟨rfl, S3, D3, L3, m3, hh, hdl, alt⟩
      have al : D3.d = D.d ∧ D3.nl = D.nl ∧ D3.dk = D.dk ∧ D3.st = D.st ∧ D3.pa = D.pa ∧ D3.ss = D.ss ∧ D3.qs = D.qs ∧ h ≠ D3.ah := by
        rcases alt with ⟨rfl, _⟩ | ⟨_, _, b', ah', x, ne, rfl⟩
        · exact ⟨rfl, rfl, rfl, rfl, rfl, rfl, rfl, ne_of_none' rg.st.ahd nh⟩
        · exact ⟨rfl, rfl, rfl, rfl, rfl, rfl, rfl, Ne.symm ne⟩
      obtain ⟨g1, g2, g3, g4, g5, g6, g7, g8⟩ := al
      obtain ⟨dl8, hdd8⟩ := rg.st.dL
      have hS3 : h ∈ S3 := m3.sub _ List.mem_cons_self
      have n1 : h ≠ D3.d := by rw [g1]; exact ne_of_none' hdd8 nh
      have n2 : h ≠ D3.pa := by rw [g5]; exact ne_of_none' rg.st.past nh
      have n4 : h ≠ D3.st := by rw [g4]; exact ne_of_none' rg.st.sts nh
      have lxs : xs.length ≤ 8 := by have := rg.few; rw [DpAll.len rg.dat, List.length_append, List.length_map]; exact this
      refine ⟨_, rfl, .inl ⟨rfl, _, SqL.of hh⟩, h, xs, _, rfl, rfl, hh, szl (by omega), ?_⟩
      have L15 := L3.put (zs := xs ++ [.int 0]) hS3 hh n1 n2 g8 n4
      have m15 := m3.trans (Mv.kp (S := S3) (Kp.upd (x := h) (H := H') (o := .lst (xs ++ [.int 0])) (S := [h]) (by simp)) (fun y hy => by rw [List.mem_singleton.mp hy]; exact hS3) (fun y hy => by rw [List.mem_singleton.mp hy]; exact ⟨_, hh, .inl ⟨_, rfl⟩⟩))
      have dlh : dl ≠ h := ne_of_none rg.dlH nh
      have hdl15 : (L2.upd H' h (.lst (xs ++ [.int 0]))) dl = some (.lst xs) := by rw [upd_ne dlh]; exact hdl
      generalize L2.upd H' h (.lst (xs ++ [.int 0])) = H15 at *
      have dtp15 := xd m15.w _ _ dtp
      have slots : ∀ (Y : L2.St → Hp → Prop), Y [some (.ref a), some (.ref D.d), some (.ref D.nl), some (.ref D.dk), some (.ref D.st), some (.int (0 + i)), some (.ref dl), some (.str z), some (.ref ob), some (.ref h), some (.ref tp), x11, x12] H15 → Y [some (.ref a), some (.ref D.d), some (.ref D.nl), some (.ref D.dk), some (.ref D.st), some (.int (0 + i)), some (.ref dl), some (.str z), some (.ref ob), some (.ref h), some (.ref tp), x11, x12] H15 := fun _ h => h
      refine ⟨fun σ H' => σ = [some (.ref a), some (.ref D.d), some (.ref D.nl), some (.ref D.dk), some (.ref D.st), some (.int (0 + i)), some (.ref dl), some (.str z), some (.ref ob), some (.ref h), some (.ref tp), x11, x12] ∧ Same H15 H', ?_, ?_⟩
      · refine ⟨_, rfl, rfl, _, rfl, ?_⟩
        by_cases cz : z = ""
        · rw [decT (by rw [cz])]
          exact iteF (iteF ⟨rfl, same_rfl⟩)
        · rw [decF (fun y => cz (V.str.inj y))]
          have e3 : D3 = D := by
            rcases alt with ⟨q, _⟩ | ⟨q, _⟩
            · exact q
            · exact absurd q cz
          subst e3
          obtain ⟨dx15, hd15⟩ := L15.dis
          refine iteT ⟨_, rfl, D3.dk, dx15, _, rfl, hd15, rfl, S3, D3.dk, D3.b, D3.e, D3.pa, D3.ah, D3.bk, D3.el, rfl, L15.ins.in, L15.dis, L15.bki, L15.eli, L15.okb, L15.oke, fun H16 fp ys2 s16 nfp pys2 sys2 dfp => ?_⟩
          have ey : ys2 = ys := sortS_uniq (pys2.trans pys.symm) sys2 sys
          subst ey
          have ly : ys2.length ≤ 6 := by rw [pys.length_eq, List.length_map]; exact L15.okb.few
          exact ⟨_, rfl, _, _, _, rfl, dp dfp wo_sub, dp dtp15 (wo_sub.trans s16), smOthers L15.okb ly, fun H17 s17 => ⟨true, rfl, iteF ⟨rfl, s16.trans s17⟩⟩⟩
      · rintro σ H16 ⟨rfl, s16⟩
        have L16 := L15.same s16
        have m16 := m15.trans (Mv.same s16)
        have hdl16 := s16 _ _ hdl15
        have dat16 := xda (m10.trans m16).w _ _ rg.dat
        have shp3 : Shp 3 (.list (ds.map Deed.P ++ tl)) := Shp.lst rg.shp
        refine ⟨fun σ H' => ∃ S D x5 x6 x7 x8 x9 x10 x11 x12, σ = [some (.ref a), some (.ref D.d), some (.ref D.nl), some (.ref D.dk), some (.ref D.st), x5, x6, x7, x8, x9, x10, x11, x12] ∧ LawSt K [(tb, qLam)] S H' D ∧ Ch D.rs D.qs D.bk ∧ D.rs.length ≤ i + 1 ∧ D.zs.length ≤ i, ?_, ?_⟩
        · refine ⟨_, rfl, rfl, _, rfl, ?_⟩
          by_cases cz : z = ""
          · rw [decT (by rw [cz])]
            refine iteT ⟨_, rfl, sz (by simp), fun q1 nq1 => ?_⟩
            have w1 := Same.upd (o := .lst []) nq1
            have L17 := L16.same w1
            refine ⟨.list (ds.map Deed.P ++ tl), .list [], .lst (SqL.of (w1 _ _ hdl16)) (K59.da dat16 (wo_sub.trans w1)), .lst (SqL.of upd_same) .nil, shp3.ok (by decide), by decide, _, rfl, ?_⟩
            rcases rg.alt with ⟨_, rfl, lbo, obS⟩ | ⟨nz, _⟩
            · rcases alt with ⟨rfl, dn⟩ | ⟨_, dn, b', ah', x, ne, e3⟩
              · rw [dn cz]
                exact iteF ⟨S3, D3, _, _, _, _, _, _, _, _, rfl, L17, ch, by omega, lz⟩
              · have ev : PyData.eqv (.list (ds.map Deed.P ++ [])) (.list []) = false := by
                  cases ds with
                  | nil => exact absurd rfl dn
                  | cons d0 ds0 => rw [PyData.eqv]; rfl
                rw [ev]
                have hst16 := L17.sts
                rw [g4, g6] at hst16
                refine iteT ⟨_, rfl, .inl ⟨rfl, _, SqL.of hst16⟩, _, rfl, _, rfl, by show 2 ≤ sizeLine; decide, fun t nt => ?_⟩
                have w2 := Same.upd (o := .tup [.ref dl, .ref ob]) nt
                have L18 := L17.same w2
                have lss : D.ss.length = D.rs.length + 1 := by rw [Paired.length L.lrs, ch.len]
                refine ⟨D.st, D.ss, _, rfl, rfl, w2 _ _ hst16, szl (by omega), ?_⟩
                have pr8 : PreR K S1 H8 dl ob (ds.map Deed.P, doneAll D.bk ds) := ⟨.lst (SqL.of (by rw [wo_out rg.dlS]; exact rg.dlH)) (by have := rg.dat; rwa [List.append_nil] at this), lbo, obS, goodAll_ok rg.st.okb rg.good, smRow rg.sh (by have := rg.few; omega)⟩
                have pr18 := pr8.mv (m10.trans (m16.trans (Mv.same (w1.trans w2))))
                have tS : t ∉ S3 := L17.ins.in.out nt
                have lr18 := L18.lrs
                obtain ⟨L19, _⟩ := L18.setst (Paired.sn (R := stR K S3 _) (a := .ref t) (b := (ds.map Deed.P, doneAll D.bk ds)) ⟨t, dl, ob, rfl, SqT.of (by rw [wo_out tS]; exact upd_same), pr18⟩ lr18)
                rw [g4, g6, g7] at L19
                refine ⟨S3, { D3 with st := D.st, ss := D.ss ++ [.ref t], qs := D.qs ++ [(ds.map Deed.P, doneAll D.bk ds)] }, some (.int (0 + i)), some (.ref dl), some (.str z), some (.ref ob), some (.ref h), some (.ref tp), x11, x12, ?_, L19, ?_, ?_, ?_⟩
                · show _ = [some (.ref a), some (.ref D3.d), some (.ref D3.nl), some (.ref D3.dk), some (.ref D.st), some (.int (0 + i)), some (.ref dl), some (.str z), some (.ref ob), some (.ref h), some (.ref tp), x11, x12]
                  rw [g1, g2, g3]
                · rw [e3]; exact ch.snoc
                · rw [e3]; show (D.rs ++ [_]).length ≤ i + 1; rw [List.length_append]; exact Nat.succ_le_succ lr
                · rw [e3]; exact Nat.zero_le _
            · exact absurd cz nz
          · rw [decF (fun y => cz (V.str.inj y))]
            have e3 : D3 = D := by
              rcases alt with ⟨q, _⟩ | ⟨q, _⟩
              · exact q
              · exact absurd q cz
            subst e3
            exact iteF (iteF ⟨S3, D3, _, _, _, _, _, _, _, _, rfl, L16, ch, by omega, lz⟩)
        · rintro σ H20 ⟨S5, D5, y5, y6, y7, y8, y9, y10, y11, y12, rfl, L5, ch5, lr5, lz5⟩
          obtain ⟨ss5, tt5, l5, o5, p5, ess5, ht5, pr5⟩ := L5.top ch5
          have hss5 := L5.sts
          have hss5' := hss5
          rw [ess5] at hss5
          have nq5 : D5.qs.length = D5.rs.length + 1 := ch5.len
          refine ⟨_, rfl, _, rfl, _, rfl, D5.st, _, _, _, rfl, rfl, SqL.of hss5, atI_last _ _, tt5, _, _, _, rfl, rfl, ht5, atI_nat (j := 1) rfl, tNil_at (L5.deckSo pr5.book pr5.oS fun H21 s21 => ⟨true, rfl, iteF ?_⟩)⟩
          have L6 := L5.same s21
          have hss6 := s21 _ _ hss5'
          obtain ⟨dx6, hd6⟩ := L6.dis
          obtain ⟨q0, qs', eq5, em5⟩ := ch5.tail
          have lrs6 := L6.lrs
          rw [eq5] at lrs6
          obtain ⟨x0, xs', exs, _, lrt⟩ := Paired.hd lrs6
          rw [exs] at hss6
          refine ⟨_, rfl, D5.dk, dx6, _, rfl, hd6, rfl, S5, D5.dk, D5.b, D5.e, D5.pa, D5.ah, D5.xs, D5.rs, rfl, L6.ins.in, L6.dis, L6.past, L6.rows, by omega, fun H22 dp1 s22 ndp ddp => ?_⟩
          have hss7 := s22 _ _ hss6
          have L7 := L6.same s22
          have lr7 := stR.mv (Mv.same (S := S5) s22) lrt
          refine ⟨_, rfl, _, rfl, D5.st, _, rfl, SqL.of hss7, fun sl nsl => ?_⟩
          rw [cut_1]
          have w1 := Same.upd (o := .lst xs') nsl
          have L8 := L7.same w1
          have lr8 := stR.mv (Mv.same (S := S5) w1) lr7
          have hsl := upd_same (H := H22) (a := sl) (o := .lst xs')
          have ddp8 := dp ddp (Same.wo w1)
          generalize L2.upd H22 sl (.lst xs') = H23 at *
          have lx' : xs'.length = qs'.length := Paired.length lr8
          have lq' : qs'.length = D5.rs.length := by have := congrArg List.length em5; rwa [List.length_map, List.length_map] at this
          refine ⟨sl, rfl, ⟨_, SqL.of hsl⟩, fun D hD => ?_⟩
          refine lc_it walk_list (Gro K S5 H23 D fun i => (qs'.take i).map fun r => .list r.1) (Gro.start L8.ins.in hD (by simp)) (fun _ _ _ hh => same_l hh.same (SqL.of hsl)) ?_ ?_
          · rintro j y H24 H25 hj ac ⟨rfl, hy⟩
            obtain ⟨r, hr1, t, l, o, rfl, h1, h2⟩ := LiI.paired_get lr8 hy
            refine ⟨t, _, rfl, same_t (ac.old.trans wo_sub) h1, rfl, _, _, rfl, _, _, rfl, rfl, rfl, ?_⟩
            refine ⟨_, rfl, ac.more same_rfl (dp h2.data ac.old) ?_ (by omega)⟩
            simp only [take_succ' hr1, List.map_append, List.map_cons, List.map_nil]
          intro H24 ac
          have z := ac.stop
          simp only [take_full lx'.symm] at z
          have eqd : (D5.rs.map fun r => PyData.list r.1) = qs'.map fun r => PyData.list r.1 := by
            have := congrArg (List.map PyData.list) em5
            rw [List.map_map, List.map_map] at this
            exact this.symm
          rw [eqd] at ddp8
          have sm8 : SmD 8 (.list (qs'.map fun r => PyData.list r.1)) := .lst (by rw [List.length_map]; omega) fun y hy => by
            obtain ⟨r, hr, rfl⟩ := List.mem_map.mp hy
            exact (stR.sm lr8 r hr).1.mono (by decide)
          have dA : Dp K H24 (.ref dp1) (.list (qs'.map fun r => PyData.list r.1)) := dp (K := K) ddp8 (wo_sub.trans ac.same)
          have dB : Dp K H24 (.ref D) (.list (qs'.map fun r => PyData.list r.1)) := dp (K := K) z wo_sub
          refine ⟨_, _, .list (qs'.map fun r => PyData.list r.1), rfl, dA, dB, sm8, fun H25 s25 => ⟨true, rfl, iteF ?_⟩⟩
          have L9 := (L8.same ac.same).same s25
          clear ddp8 z ac lr8 hsl L8 ddp
          refine ⟨_, rfl, D5.d, D5.c, _, rfl, L9.draw, ⟨by decide, by decide⟩, fun H26 k2 hk2 kp26 da26 => ⟨rfl, _, rfl, ?_⟩⟩
          have L10' := L9.pick kp26 da26
          by_cases ck : k2 = 0
          · rw [decT (by rw [ck])]
            refine iteT ⟨_, rfl, D5.st, D5.ss, rfl, .inl (SqL.of L10'.sts), _, _, rfl, rfl, _, rfl, ?_⟩
            have nss5 : D5.ss.length = D5.qs.length := Paired.length L10'.lrs
            rcases ch5.inv with ⟨er, eq1⟩ | ⟨rs', qs0, pp, bk0, er, eq0, ch0'⟩
            · rw [decF (by omega)]
              exact iteF ⟨S5, D5, _, _, _, _, _, _, _, _, rfl, L10', ch5, lr5, by omega⟩
            · have lq0 : D5.qs.length = qs0.length + 1 := by rw [eq0, List.length_append]; rfl
              have lq1 := ch0'.len
              rw [decT (by omega)]
              refine iteT ?_
              obtain ⟨dx10, hd10⟩ := L10'.dis
              have ok0' : BkOk bk0 := by
                obtain ⟨qq, ppp, e⟩ := ch0'.last
                exact (stR.sm L10'.lrs (ppp, bk0) (by rw [eq0, e]; simp)).2
              refine ⟨_, rfl, D5.dk, dx10, _, rfl, hd10, rfl, tNil_at (undo_use L10' er ok0' (by omega) fun H27 pv b' xs2 zs2 m27 L27 lz27 dpv => ?_)⟩
              have lr27 := L27.lrs
              have hst27 := L27.sts
              have lr27' : Paired (stR K S5 H27) D5.ss (qs0 ++ [(pp, D5.bk)]) := by rw [← eq0]; exact lr27
              obtain ⟨ss2, x2, ess2, lr2, t2, l2, o2, rfl, ht2, pr2⟩ := Paired.end lr27'
              have hst28 : H27 D5.st = some (.lst (ss2 ++ [.ref t2])) := by rw [← ess2]; exact hst27
              refine ⟨_, rfl, .inl ⟨rfl, _, SqL.of hst28⟩, D5.st, _, .ref t2, rfl, rfl, hst28, by simp, ?_⟩
              rw [List.dropLast_concat]
              obtain ⟨L28, m28⟩ := L27.setst lr2
              have ht28 := same_t wo_sub (xt m28.w ht2)
              have dA := dp (K := K) (xd m28.w _ _ dpv) wo_sub
              have pr28 := pr2.mv m28
              have dB := dp (K := K) pr28.data wo_sub
              refine ⟨t2, _, _, _, rfl, rfl, ht28, atI_nat (j := 0) rfl, _, _, .list pp, rfl, dA, dB, pr2.sm.mono (by decide), fun H29 s29 => ⟨true, rfl, iteF ?_⟩⟩
              have L29 := L28.same s29
              obtain ⟨ss3, t3, l3, o3, p3, ess3, ht3, pr3⟩ := L29.top ch0'
              have hst29 := L29.sts
              have hst29' := hst29
              rw [ess3] at hst29
              refine ⟨_, rfl, _, rfl, _, rfl, D5.st, _, _, _, rfl, rfl, SqL.of hst29, atI_last _ _, t3, _, _, _, rfl, rfl, ht3, atI_nat (j := 1) rfl, tNil_at (L29.deckSo pr3.book pr3.oS fun H30 s30 => ⟨true, rfl, iteF ?_⟩)⟩
              have lrq : D5.rs.length = rs'.length + 1 := by rw [er, List.length_append]; rfl
              exact ⟨S5, ({ D5 with b := b', e := D5.b, xs := xs2, zs := zs2, ss := ss2, rs := rs', qs := qs0, bk := bk0, el := D5.bk } : LawD), _, _, _, _, _, _, _, _, rfl, L29.same s30, ch0', (by show rs'.length ≤ i + 1; omega), (by show zs2.length ≤ i + 1; omega)⟩
          · rw [decF (fun y => ck (V.int.inj y))]
            exact iteF (iteF ⟨S5, D5, _, _, _, _, _, _, _, _, rfl, L10', ch5, lr5, by omega⟩)
  · exact q H'
end
end K59
set_option maxHeartbeats 4000000
namespace K59
open PySem PySem.Spec PyProof.Rows L2 He
/-! ### paths -/
/-! ### what is told besides -/
theorem tupA_ok {K : PySem.W.Frag} {a : Addr} {vs : List V} (h : tupA K a vs = true) (H : Hp) : SqT K H a vs := by
  unfold tupA at h
  cases q : K.lookup a with
  | none => rw [q] at h; cases h
  | some o =>
    obtain ⟨oc, od, dt, osl⟩ := o
    rw [q] at h
    cases oc with
    | type c =>
      cases dt with
      | seq its n =>
        obtain ⟨h1, h2⟩ := ba (show (decide (c = "tuple") && (decide (its.size ≤ sizeLine) && relAll vs its.toList)) = true from h)
        obtain ⟨h3, h4⟩ := ba h2
        exact .inr ⟨_, its, n, q, congrArg Value.type (of_decide_eq_true h1), rfl, of_decide_eq_true h3, relAll_ok h4⟩
      | _ => cases h
    | _ => cases dt <;> cases h
/-- the objects that a tuple names -/
theorem pairsB_ok {K : PySem.W.Frag} : ∀ {bs : List Addr} {qs : List (Int × Int)}, pairsB K bs qs = true → Paired (fun (b : Addr) (q : Int × Int) => ∀ H, SqT K H b [.int q.1, .int q.2]) bs qs
  | [], [], _ => .nil
  | [], _ :: _, h => by cases h
  | _ :: _, [], h => by cases h
  | b :: bs, q :: qs, h => by
    obtain ⟨h1, h2⟩ := ba (show (tupA K b [.int q.1, .int q.2] && pairsB K bs qs) = true from h)
    exact .cons (fun H => tupA_ok h1 H) (pairsB_ok h2)
theorem forms_ok {w : World} {K : PySem.W.Frag} (t : ∃ es n, KDict K w (ga K "FORMS") es n) (h : (formTab.all (formB K)) = true) : Forms K w (ga K "FORMS") := by
  refine ⟨t, fun p hp => ?_⟩
  obtain ⟨es, n, D⟩ := t
  obtain ⟨h1, h2⟩ := ba (show (eqO _ _ && (_ && _)) = true from List.all_eq_true.mp h p hp)
  obtain ⟨h3, h4⟩ := ba h2
  exact ⟨_, _, ⟨es, n, _, D.at_, D.lit, eqO_ok h1, rfl⟩, fun H => tupA_ok h3 H, pairsB_ok h4⟩
theorem kd_all {w : World} {K : PySem.W.Frag} {a : Addr} {α : Type} {f : α → V} {g : α → Dv} {l : List (Str × α)} (t : ∃ es n, KDict K w a es n) (dv : List (Str × Dv)) (e : dv = l.map fun p => (p.1, g p.2)) (h : valsB K a dv = true) (hv : ∀ x, (g x).v K = f x := by intro x; rfl) : ∀ p ∈ l, KDct K w a p.1 (f p.2) := by
  intro p hp
  obtain ⟨es, n, D⟩ := t
  obtain ⟨u, h1, h2⟩ := valsB_ok h (q := (p.1, g p.2)) (by rw [e]; exact List.mem_map.mpr ⟨p, hp, rfl⟩)
  rw [hv] at h2
  exact ⟨es, n, u, D.at_, D.lit, h1, h2⟩
theorem low_of {w : World} {K : PySem.W.Frag} {a : Addr} (t : ∃ es n, KDict K w a es n) : (a == sysModules) = false := by
  obtain ⟨es, n, D⟩ := t
  exact D.low
/-- an own error's class -/
theorem xc_more {K : PySem.W.Frag} {x : Str} {bm : List Value} {id : String} (h : xcB K x bm id = true) : XfC K (ga K x) ∧ True := by
  obtain ⟨_, h⟩ := ba h
  obtain ⟨_, h⟩ := ba h
  obtain ⟨_, h⟩ := ba h
  obtain ⟨_, h⟩ := ba h
  obtain ⟨_, h⟩ := ba h
  obtain ⟨_, h⟩ := ba h
  obtain ⟨_, h⟩ := ba h
  obtain ⟨_, h⟩ := ba h
  obtain ⟨_, h⟩ := ba h
  obtain ⟨_, h⟩ := ba h
  exact ⟨xfB_ok h, trivial⟩
theorem xc_of {K : PySem.W.Frag} {mg : Str → Option Value} {x qual z : Str} {bm : List Value} {id : String} {st : Stmt} (h : xcB K x bm id = true) (F : ∃ fd, FunD K "__init__" qual (C8.fnArgs st) (C8.fnBody st) (C8.fnScope st) [] [] (fAd K (x, some "__init__")) fd)
    (hst : ∃ p1 q1 q2 q3 q4, C8.fnArgs st = iA p1 ∧ C8.fnBody st = iB q1 q2 q3 q4 z ∧ C8.fnScope st = iS) (hm : mg x = some (.ref (ga K x))) : XcT K mg x (ga K x) (ma K (ga K x) "__init__") bm id z := by
  obtain ⟨a1, h⟩ := ba h
  obtain ⟨a2, h⟩ := ba h
  obtain ⟨a3, h⟩ := ba h
  obtain ⟨a4, h⟩ := ba h
  obtain ⟨a5, h⟩ := ba h
  obtain ⟨a6, h⟩ := ba h
  obtain ⟨a7, h⟩ := ba h
  obtain ⟨a8, h⟩ := ba h
  obtain ⟨a9, h⟩ := ba h
  obtain ⟨a10, _⟩ := ba h
  obtain ⟨fd, F⟩ := F
  obtain ⟨oc, od, dV, kV, doc, pm, an, cdv, ct, osl, rfl, lk, hcd, dd, _⟩ := F.ex
  obtain ⟨p1, q1, q2, q3, q4, e1, e2, e3⟩ := hst
  rw [e1, e2, e3] at lk
  have dn : dV = .none := by rcases dd with ⟨_, h⟩ | ⟨h, _⟩ <;> first | exact h | exact absurd rfl h
  rw [dn] at lk
  refine ⟨hm, a1, a2, eqO_ok a3, a4, eqO_ok a5, ?_, eqO_ok a7, of_decide_eq_true a8, of_decide_eq_true a9, of_decide_eq_true a10, ⟨oc, od, qual, kV, doc, pm, an, cdv, ct, osl, p1, q1, q2, q3, q4, lk, hcd⟩⟩
  cases q : PySem.W.clsIn K (ga K x) with
  | none => rw [q] at a6; cases a6
  | some cd => rw [q] at a6; exact ⟨cd, rfl, a6⟩
theorem df_of {K : PySem.W.Frag} {mg : Str → Option Value} {g x : Str} {st : Stmt} (F : ∃ fd, FunD K x x (C8.fnArgs st) (C8.fnBody st) (C8.fnScope st) [] [] (fAd K (g, none)) fd) (hm : mg g = some (.ref (ga K g))) : Df K mg g x st := by
  obtain ⟨fd, F⟩ := F
  obtain ⟨oc, od, dV, kV, doc, pm, an, cdv, ct, osl, rfl, lk, hcd, dd, _⟩ := F.ex
  have dn : dV = .none := by rcases dd with ⟨_, h⟩ | ⟨h, _⟩ <;> first | exact h | exact absurd rfl h
  exact ⟨_, _, ⟨oc, od, dV, kV, doc, pm, an, cdv, ct, osl, rfl, lk, hcd⟩, hm, F.kp, dn⟩
theorem mf_of {K : PySem.W.Frag} {c m qual : Str} {st : Stmt} (F : ∃ fd, FunD K m qual (C8.fnArgs st) (C8.fnBody st) (C8.fnScope st) [] [] (fAd K (c, some m)) fd) (hm : Meth K (ga K c) m (ma K (ga K c) m)) : Mf K (cA K c) m qual st := by
  obtain ⟨fd, F⟩ := F
  obtain ⟨oc, od, dV, kV, doc, pm, an, cdv, ct, osl, rfl, lk, hcd, dd, _⟩ := F.ex
  have dn : dV = .none := by rcases dd with ⟨_, h⟩ | ⟨h, _⟩ <;> first | exact h | exact absurd rfl h
  exact ⟨_, _, ⟨oc, od, dV, kV, doc, pm, an, cdv, ct, osl, rfl, lk, hcd⟩, hm, dn⟩
theorem gi {mg : Str → Option Value} {x : Str} {i : Int} (h : ∃ t, mg x = some (.int i t)) : ∃ u, mg x = some u ∧ RelV (.int i) u := by
  obtain ⟨t, h⟩ := h
  exact ⟨_, h, t, rfl⟩
theorem gs {mg : Str → Option Value} {x z : Str} (h : ∃ t, mg x = some (.str z t)) : ∃ u, mg x = some u ∧ RelV (.str z) u := by
  obtain ⟨t, h⟩ := h
  exact ⟨_, h, t, rfl⟩
/-- all that is told besides -/
structure ExP (K : PySem.W.Frag) : Prop where
  all : tupA K (tapeT K) [.ref (seq0 K (tapeT K))] = true ∧ tupA K (seq0 K (tapeT K)) [] = true ∧ tupA K (tapeP K) [] = true ∧ tupA K (ga K "CHANNEL") [.int 0, .int 15] = true ∧ formTab.all (formB K) = true ∧ valsB K (ga K "SIZES") sizeDv = true ∧ valsB K (ga K "DEEDS") deedDv = true ∧
    xcB K "BadDeed" veTail "ValueError.__new__" = true ∧ xcB K "BadName" veTail "ValueError.__new__" = true ∧ xcB K "NoTape" leTail "LookupError.__new__" = true
theorem exB_ok {K : PySem.W.Frag} (h : exB K = true) : ExP K := by
  obtain ⟨a1, h⟩ := ba h
  obtain ⟨a2, h⟩ := ba h
  obtain ⟨a3, h⟩ := ba h
  obtain ⟨a4, h⟩ := ba h
  obtain ⟨a5, h⟩ := ba h
  obtain ⟨a6, h⟩ := ba h
  obtain ⟨a7, h⟩ := ba h
  obtain ⟨a8, h⟩ := ba h
  obtain ⟨a9, a10⟩ := ba h
  exact ⟨a1, a2, a3, a4, a5, a6, a7, a8, a9, a10⟩
/-! ### the Hook -/
theorem fx_of {w : World} {K : PySem.W.Frag} {h : Heap} {mg : Str → Option Value} (X : K.In h) (G : h.Ns mainGlobals mg) (sx : SaysX fa fn ts tf exB w h K) : Fx w K mg := by
  have s := sx.t
  have c := s.d
  have e := (exB_ok sx.more).all
  exact {
    f_len := free_ok X G (c.fact 67 rfl)
    f_all := free_ok X G (c.fact 68 rfl)
    f_isinstance := free_ok X G (c.fact 69 rfl)
    f_int := free_ok X G (c.fact 70 rfl)
    f_str := free_ok X G (c.fact 71 rfl)
    f_bool := free_ok X G (c.fact 72 rfl)
    f_list := free_ok X G (c.fact 73 rfl)
    f_tuple := free_ok X G (c.fact 74 rfl)
    f_dict := free_ok X G (c.fact 75 rfl)
    f_sorted := free_ok X G (c.fact 76 rfl)
    f_range := free_ok X G (c.fact 77 rfl)
    f_enumerate := free_ok X G (c.fact 78 rfl)
    f_zip := free_ok X G (c.fact 79 rfl)
    g_MOST_TICK := gi (int_ok X G (c.fact 80 rfl))
    g_MOST_EVENTS := gi (int_ok X G (c.fact 81 rfl))
    g_MOST_SIGNS_events := gi (int_ok X G (c.fact 82 rfl))
    g_MOST_BEAT := gi (int_ok X G (c.fact 83 rfl))
    g_MOST_PACE := gi (int_ok X G (c.fact 84 rfl))
    g_MOST_PACES := gi (int_ok X G (c.fact 85 rfl))
    g_MOST_TRACKS := gi (int_ok X G (c.fact 86 rfl))
    g_MOST_TAPES := gi (int_ok X G (c.fact 87 rfl))
    g_MOST_SIGNS_deeds := gi (int_ok X G (c.fact 88 rfl))
    g_SIGNS := gs (str_ok X G (c.fact 89 rfl))
    g_LETTERS := gs (str_ok X G (c.fact 90 rfl))
    d_is_between := df_of (c.def_ 0 rfl) (glo_ok X G (c.fact 0 rfl))
    d_is_text := df_of (c.def_ 1 rfl) (glo_ok X G (c.fact 1 rfl))
    d_is_event := df_of (c.def_ 2 rfl) (glo_ok X G (c.fact 2 rfl))
    d_need_track := df_of (c.def_ 3 rfl) (glo_ok X G (c.fact 3 rfl))
    d_need_tick := df_of (c.def_ 4 rfl) (glo_ok X G (c.fact 4 rfl))
    d_need_room_events := df_of (c.def_ 5 rfl) (glo_ok X G (c.fact 5 rfl))
    d_later := df_of (c.def_ 6 rfl) (glo_ok X G (c.fact 6 rfl))
    d_put_in := df_of (c.def_ 7 rfl) (glo_ok X G (c.fact 7 rfl))
    d_need_beat := df_of (c.def_ 8 rfl) (glo_ok X G (c.fact 8 rfl))
    d_need_pace := df_of (c.def_ 9 rfl) (glo_ok X G (c.fact 9 rfl))
    d_is_of := df_of (c.def_ 10 rfl) (glo_ok X G (c.fact 10 rfl))
    d_apart := df_of (c.def_ 11 rfl) (glo_ok X G (c.fact 11 rfl))
    d_need_new := df_of (c.def_ 12 rfl) (glo_ok X G (c.fact 12 rfl))
    d_need_room_deeds := df_of (c.def_ 13 rfl) (glo_ok X G (c.fact 13 rfl))
    d_tape_of := df_of (c.def_ 14 rfl) (glo_ok X G (c.fact 14 rfl))
    d_track_of := df_of (c.def_ 15 rfl) (glo_ok X G (c.fact 15 rfl))
    d_with_track := df_of (c.def_ 16 rfl) (glo_ok X G (c.fact 16 rfl))
    d_do_new := df_of (c.def_ 17 rfl) (glo_ok X G (c.fact 17 rfl))
    d_do_add := df_of (c.def_ 18 rfl) (glo_ok X G (c.fact 18 rfl))
    d_do_put := df_of (c.def_ 19 rfl) (glo_ok X G (c.fact 19 rfl))
    d_do_take := df_of (c.def_ 20 rfl) (glo_ok X G (c.fact 20 rfl))
    d_do_pace := df_of (c.def_ 21 rfl) (glo_ok X G (c.fact 21 rfl))
    d_do_later := df_of (c.def_ 22 rfl) (glo_ok X G (c.fact 22 rfl))
    d_do_part := df_of (c.def_ 23 rfl) (glo_ok X G (c.fact 23 rfl))
    d_after := df_of (c.def_ 24 rfl) (glo_ok X G (c.fact 24 rfl))
    d_others := df_of (c.def_ 25 rfl) (glo_ok X G (c.fact 25 rfl))
    d_law_book_copy := df_of (c.def_ 26 rfl) (glo_ok X G (c.fact 26 rfl))
    d_law_pick := df_of (c.def_ 27 rfl) (glo_ok X G (c.fact 27 rfl))
    d_law_one := df_of (c.def_ 28 rfl) (glo_ok X G (c.fact 28 rfl))
    d_law_beat := df_of (c.def_ 29 rfl) (glo_ok X G (c.fact 29 rfl))
    d_law_tick := df_of (c.def_ 30 rfl) (glo_ok X G (c.fact 30 rfl))
    d_law_channel := df_of (c.def_ 31 rfl) (glo_ok X G (c.fact 31 rfl))
    d_law_key := df_of (c.def_ 32 rfl) (glo_ok X G (c.fact 32 rfl))
    d_law_word := df_of (c.def_ 33 rfl) (glo_ok X G (c.fact 33 rfl))
    d_law_thing := df_of (c.def_ 34 rfl) (glo_ok X G (c.fact 34 rfl))
    d_law_some_event := df_of (c.def_ 35 rfl) (glo_ok X G (c.fact 35 rfl))
    d_law_pace := df_of (c.def_ 36 rfl) (glo_ok X G (c.fact 36 rfl))
    d_law_slim_deed := df_of (c.def_ 37 rfl) (glo_ok X G (c.fact 37 rfl))
    d_law_slim_sizes := df_of (c.def_ 38 rfl) (glo_ok X G (c.fact 38 rfl))
    d_law_name_word := df_of (c.def_ 39 rfl) (glo_ok X G (c.fact 39 rfl))
    d_law_within := df_of (c.def_ 40 rfl) (glo_ok X G (c.fact 40 rfl))
    d_law_event_good := df_of (c.def_ 41 rfl) (glo_ok X G (c.fact 41 rfl))
    d_law_slim_track_word := df_of (c.def_ 42 rfl) (glo_ok X G (c.fact 42 rfl))
    d_law_slim_word := df_of (c.def_ 43 rfl) (glo_ok X G (c.fact 43 rfl))
    d_law_put_in := df_of (c.def_ 44 rfl) (glo_ok X G (c.fact 44 rfl))
    d_law_lane := df_of (c.def_ 45 rfl) (glo_ok X G (c.fact 45 rfl))
    d_law_slim_done := df_of (c.def_ 46 rfl) (glo_ok X G (c.fact 46 rfl))
    d_law_begin := df_of (c.def_ 47 rfl) (glo_ok X G (c.fact 47 rfl))
    d_law_names := df_of (c.def_ 48 rfl) (glo_ok X G (c.fact 48 rfl))
    d_law_same := df_of (c.def_ 49 rfl) (glo_ok X G (c.fact 49 rfl))
    d_law_tried := df_of (c.def_ 50 rfl) (glo_ok X G (c.fact 50 rfl))
    d_law_pairs := df_of (c.def_ 51 rfl) (glo_ok X G (c.fact 51 rfl))
    d_law_deck_so := df_of (c.def_ 52 rfl) (glo_ok X G (c.fact 52 rfl))
    d_law_row_of := df_of (c.def_ 53 rfl) (glo_ok X G (c.fact 53 rfl))
    d_law := df_of (c.def_ 54 rfl) (glo_ok X G (c.fact 54 rfl))
    c_Map := cls_ok (c.fact 91 rfl)
    mg_Map := glo_ok X G (c.fact 55 rfl)
    n_Map_ticks := noat_ok (c.fact 92 rfl)
    n_Map_known := noat_ok (c.fact 93 rfl)
    m_Map_put := mf_of (c.def_ 55 rfl) (meth_ok (c.fact 94 rfl))
    m_Map_beat := mf_of (c.def_ 56 rfl) (meth_ok (c.fact 95 rfl))
    m_Map_paces := mf_of (c.def_ 57 rfl) (meth_ok (c.fact 96 rfl))
    m_Map_twin := mf_of (c.def_ 58 rfl) (meth_ok (c.fact 97 rfl))
    c_Tape := cls_ok (c.fact 98 rfl)
    mg_Tape := glo_ok X G (c.fact 56 rfl)
    n_Tape_own := noat_ok (c.fact 99 rfl)
    n_Tape_rows := noat_ok (c.fact 100 rfl)
    m_Tape_beat := mf_of (c.def_ 59 rfl) (meth_ok (c.fact 101 rfl))
    m_Tape_tracks := mf_of (c.def_ 60 rfl) (meth_ok (c.fact 102 rfl))
    m_Tape_paces := mf_of (c.def_ 61 rfl) (meth_ok (c.fact 103 rfl))
    m_Tape_paced := mf_of (c.def_ 62 rfl) (meth_ok (c.fact 104 rfl))
    c_Deck := cls_ok (c.fact 105 rfl)
    mg_Deck := glo_ok X G (c.fact 57 rfl)
    n_Deck_book := noat_ok (c.fact 106 rfl)
    n_Deck_elder := noat_ok (c.fact 107 rfl)
    n_Deck_past := noat_ok (c.fact 108 rfl)
    n_Deck_ahead := noat_ok (c.fact 109 rfl)
    n_Deck_under := noat_ok (c.fact 110 rfl)
    m_Deck_len := mf_of (c.def_ 63 rfl) (meth_ok (c.fact 111 rfl))
    m_Deck_do_all := mf_of (c.def_ 64 rfl) (meth_ok (c.fact 112 rfl))
    m_Deck_busy := mf_of (c.def_ 65 rfl) (meth_ok (c.fact 113 rfl))
    m_Deck_undo := mf_of (c.def_ 66 rfl) (meth_ok (c.fact 114 rfl))
    m_Deck_deeds := mf_of (c.def_ 67 rfl) (meth_ok (c.fact 115 rfl))
    m_Deck_names := mf_of (c.def_ 68 rfl) (meth_ok (c.fact 116 rfl))
    m_Deck_tape := mf_of (c.def_ 69 rfl) (meth_ok (c.fact 117 rfl))
    m_Deck_fresh := mf_of (c.def_ 70 rfl) (meth_ok (c.fact 118 rfl))
    i_Map := by
        obtain ⟨fd, F⟩ := c.def_ 71 rfl
        exact ⟨_, fd, _, F, mkr_ok (c.fact 119 rfl)⟩
    i_Deck := by
        obtain ⟨fd, F⟩ := c.def_ 72 rfl
        exact ⟨_, fd, (), F, mkr_ok (c.fact 120 rfl)⟩
    i_Tape := by
        obtain ⟨fd, F⟩ := c.def_ 73 rfl
        exact ⟨_, fd, _, _, _, F, mkr_ok (c.fact 121 rfl), fun H => tupA_ok e.1 H, fun H => tupA_ok e.2.1 H, fun H => tupA_ok e.2.2.1 H⟩
    chan := ⟨(glo_ok X G (c.fact 66 rfl)), fun H => tupA_ok e.2.2.2.1 H⟩
    g_FORMS := ⟨_, (glo_ok X G (c.fact 63 rfl)), forms_ok (s.tab 0 rfl) e.2.2.2.2.1⟩
    g_SIZES := ⟨_, (glo_ok X G (c.fact 64 rfl)), low_of (s.tab 1 rfl), s.tab 1 rfl, kd_all (f := V.int) (g := Dv.int) (s.tab 1 rfl) sizeDv rfl e.2.2.2.2.2.1⟩
    g_DEEDS := ⟨_, (glo_ok X G (c.fact 65 rfl)), kd_all (f := fun x => V.ref (cA K x)) (g := Dv.glo) (s.tab 2 rfl) deedDv rfl e.2.2.2.2.2.2.1⟩
    a_do_new := glo_ok X G (c.fact 17 rfl)
    a_do_add := glo_ok X G (c.fact 18 rfl)
    a_do_put := glo_ok X G (c.fact 19 rfl)
    a_do_take := glo_ok X G (c.fact 20 rfl)
    a_do_pace := glo_ok X G (c.fact 21 rfl)
    a_do_later := glo_ok X G (c.fact 22 rfl)
    a_do_part := glo_ok X G (c.fact 23 rfl)
    x_BadDeed := ⟨_, xc_of (st := (inClass (top 14) 0)) e.2.2.2.2.2.2.2.1 (c.def_ 74 rfl) ⟨_, _, _, _, _, rfl, rfl, rfl⟩ (glo_ok X G (c.fact 58 rfl))⟩
    y_BadDeed := ⟨(xc_more e.2.2.2.2.2.2.2.1).1, noat_ok (c.fact 122 rfl)⟩
    x_BadName := ⟨_, xc_of (st := (inClass (top 11) 0)) e.2.2.2.2.2.2.2.2.1 (c.def_ 75 rfl) ⟨_, _, _, _, _, rfl, rfl, rfl⟩ (glo_ok X G (c.fact 59 rfl))⟩
    y_BadName := ⟨(xc_more e.2.2.2.2.2.2.2.2.1).1, noat_ok (c.fact 123 rfl)⟩
    x_NoTape := ⟨_, xc_of (st := (inClass (top 18) 0)) e.2.2.2.2.2.2.2.2.2 (c.def_ 76 rfl) ⟨_, _, _, _, _, rfl, rfl, rfl⟩ (glo_ok X G (c.fact 60 rfl))⟩
    y_NoTape := ⟨(xc_more e.2.2.2.2.2.2.2.2.2).1, noat_ok (c.fact 124 rfl)⟩
    e_Tape := glo_ok X G (c.fact 61 rfl)
    e_Miss := glo_ok X G (c.fact 62 rfl)
    q_BadDeed := exm_ok (c.fact 125 rfl)
    q_BadName := exm_ok (c.fact 126 rfl)
    q_NoTape := ⟨exm_ok (c.fact 127 rfl), exm_ok (c.fact 128 rfl)⟩
  }
abbrev iLaw : Nat := 54
end K59
set_option maxHeartbeats 0
namespace K59
open PySem PySem.Spec PyProof.Rows L2 LamX
theorem tabs0 {H : Hp} {tb : Addr} {q : Str} (h : H tb = some (.tbl #[])) : Tabs [(tb, q)] H := fun p hp => by
  rw [List.mem_singleton.mp hp]
  exact TabS.nil h
/-- the law's promise, over the facts of the head -/
theorem law_at {w : World} {K : PySem.W.Frag} {mg : Str → Option Value} {fa' : Addr} {h : Heap} (X : K.In h) (G : h.Ns mainGlobals mg) (hfa : mg ("law" : Str) = some (.ref fa')) (sx : He.SaysX fa fn ts tf exB w h K) : LawAtS Law0 w K C8.CX0 13 63 "_law_script" mg fa' h := by
  have F : ∃ fd, FunD K "law" "law" (C8.fnArgs s_law) (C8.fnBody s_law) (C8.fnScope s_law) [] [] (He.fAd K ("law", none)) fd := sx.t.d.def_ iLaw rfl
  obtain ⟨fd, F⟩ := F
  have fx0 := fx_of X G sx
  obtain ⟨fl, fdl, _, ml, _, _⟩ := fx0.d_law.ex
  have e1 : (He.fAd K ("law", none)) = fa' := by
    have z := He.glo_ok X G (sx.t.d.fact 54 (f := .glo "law") rfl)
    have q := hfa.symm.trans z
    cases q
    rfl
  have bA := FunD.bindsA (ps := ["_law_script"]) F fun _ _ _ _ _ _ us hl => match us, hl with | [_], _ => rfl
  obtain ⟨oc, od, dV, kV, doc, pm, an, cdv, ct, osl, rfl, lk, hcd, _, _⟩ := F.ex
  obtain ⟨c, rfl⟩ := He.codeIn_ref hcd
  have ec := He.codeOf_eq (p := ("law", none)) lk rfl
  have et : (He.cT K ("law", none)).1 = c := ec
  have m : (("law", none) : He.Defn) ∈ tf := List.mem_singleton_self _
  rw [e1] at lk
  refine ⟨_, [He.cT K ("law", none)], spLaw K (He.cT K ("law", none)).2, fun p hp => ?_, fun p hp => ?_, fun p hp => ?_, fun s u => bA s [u] rfl, fun H a zs _ _ ht hs => ⟨a, zs, rfl, hs, tabs0 (ht _ (List.mem_singleton_self _)), fun _ => rfl⟩, fun base KB GB TB => ?_⟩
  · rw [List.mem_singleton.mp hp]; exact sx.empty _ m
  · rw [List.mem_singleton.mp hp]; exact sx.out _ m
  · rw [List.mem_singleton.mp hp]; exact PySem.W.codeHd_of_K X (sx.hd _ m)
  · have tb := TB _ (List.mem_singleton_self _)
    rw [et] at tb
    exact ok_law fx0 lk hcd tb
end K59
open PySem PySem.W PySem.Calls PyProof.Rows
theorem PySem.Challenge.cw_reedtapes_k59_whole_rows_of_deeds_or_non_holds : PySem.Challenge.rw_reedtapes_k59_whole_rows_of_deeds_or_non.Holds := by
  w_on; o_law
  refine HandSHeadRun.head_any (r := OpenLaw.row PySem.Challenge.rw_reedtapes_k59_whole_rows_of_deeds_or_non) (q := view (OpenLaw.row PySem.Challenge.rw_reedtapes_k59_whole_rows_of_deeds_or_non).prog [132]) (H := K59.hkL) (ob := K59.ob) (M := 10600) (loose := K59.loose) (d := HandSHeadRun.topDef (OpenLaw.row PySem.Challenge.rw_reedtapes_k59_whole_rows_of_deeds_or_non).prog 132) (kwd := []) K59.ob_eq
    (by kernel_rfl) (fun s => by kernel_rfl) K59.run (by kernel_rfl) (by kernel_rfl) (by kernel_rfl) (by rfl) (by first | assumption | decide +kernel) (by decide +kernel) ⟨rfl, rfl, rfl, rfl, rfl, by decide +kernel⟩ ?hw ?hc
  case hw => w_witness2
  case hc =>
    refine LamX.walk_ofTsE (l := PySem.Challenge.rw_reedtapes_k59_whole_rows_of_deeds_or_non) (n := 63) (k := 13) (x := "_law_script") (CX := fun _ => C8.CX0) rfl (by decide) (by kernel_rfl) ⟨rfl, by decide, by decide⟩ ?F (fun _ _ _ _ _ z => z)
    intro w mg fa h Y G hmg0
    obtain ⟨K, KX, c⟩ := Y
    have hmg : mg ("law" : PySem.Str) = some (.ref fa) := by
      have e : (HandSHeadRun.topDef (OpenLaw.row PySem.Challenge.rw_reedtapes_k59_whole_rows_of_deeds_or_non).prog 132).name = ("law" : PySem.Str) := by kernel_rfl
      rw [← e]
      exact hmg0
    exact ⟨K, KX, K59.law_at KX G hmg c⟩
