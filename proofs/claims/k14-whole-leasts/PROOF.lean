import PyProof.Rows.All
import Wide.All
import OpenK.AllK
import Wide.FinOn
import KE.KStateDown
import HandS.Base
import HandS.Call
import HandS.Ends
import HandS.More
import HandS.Words
import HandS.Defaults
import HandS.Head0
import HandS.Head1
import HandS.Head2
import HandS.HeadEnd
import HandS.HeadHook1
import HandS.HeadHook2
import HandS.List
import HandS.Comp
import HandS.Dict
import HandS.Iter
import HandS.Text
import HandS.WordsList
import HandS.WordsDict
import HandS.Exc
import HandS.ExcInit
import HandS.TryOnly
import HandS.TryMany
import HandS.Star
import HandS.Flow
import HandS.Style
import HandS.IsInst
import HandS.SetKeys
import HandS.DictComp
import HandS.DictTup
import HandS.Sort
import HandS.SortOrd
import HandS.SortRule
import HandS.SortInts
import HandS.SortKw
import HandS.Wide
import HandS.Walk
import HandS.StrMore
import HandS.Conv
import PyProof.NeKinds
import PyProof.EqAt
import PyProof.EqKinds
import KE.DatumOrd
import KE.SortData
import HandS.ExcOwn
import KE.GoesMore
import KE.GoesEnum
import HandS.ClsMeth
import PySem.Challenge.RW_boxgalley_k14_whole_leasts_are_least
set_option Elab.async false
set_option linter.all false
set_option maxRecDepth 100000
set_option maxHeartbeats 0
namespace BG
open PySem PySem.Spec PyProof.Rows L2
def top (i : Nat) : Stmt := PySem.Challenge.pw_boxgalley_k14_whole_leasts_are_least.main.body.getD i (.Pass ⟨0, 0, 0, 0⟩)
abbrev s_Box_init : Stmt := inClass (top 3) 0
abbrev s_Box_asked_least : Stmt := inClass (top 3) 2
abbrev s_Box_sums : Stmt := inClass (top 3) 3
abbrev s_Box_alone_least : Stmt := inClass (top 3) 4
abbrev s_Box_asker : Stmt := inClass (top 3) 5
abbrev s_Leaf_init : Stmt := inClass (top 4) 0
abbrev s_all_boxes : Stmt := top 5
abbrev s_deal : Stmt := top 40
abbrev s_gaps_in : Stmt := top 42
abbrev s_of_parts : Stmt := top 45
abbrev s_Row_init : Stmt := inClass (top 46) 0
abbrev s_Row_asked_least : Stmt := inClass (top 46) 2
abbrev s_Row_sums : Stmt := inClass (top 46) 3
abbrev s_Column_init : Stmt := inClass (top 47) 0
abbrev s_Column_asked_least : Stmt := inClass (top 47) 2
abbrev s_cells_at : Stmt := top 49
abbrev s_is_open : Stmt := top 50
abbrev s_put_cells : Stmt := top 51
abbrev s_last_row : Stmt := top 52
abbrev s_track_name : Stmt := top 54
abbrev s_track_weights : Stmt := top 55
abbrev s_alone_raised : Stmt := top 56
abbrev s_in_order : Stmt := top 57
abbrev s_lack_of : Stmt := top 58
abbrev s_raise_tracks : Stmt := top 59
abbrev s_Table_init : Stmt := inClass (top 60) 0
abbrev s_Table_sums : Stmt := inClass (top 60) 1
abbrev s_Table_asks : Stmt := inClass (top 60) 3
abbrev s_Table_asked_least : Stmt := inClass (top 60) 10
abbrev s_Wrap_init : Stmt := inClass (top 62) 0
abbrev s_Wrap_asked_least : Stmt := inClass (top 62) 2
abbrev s_of : Stmt := top 64
abbrev s_settle : Stmt := top 67
abbrev s_free_boxes : Stmt := top 68
abbrev s_asks_of : Stmt := top 69
abbrev s_Rounds_init : Stmt := inClass (top 70) 0
abbrev s_Rounds_reason : Stmt := inClass (top 70) 1
abbrev s_ring_of : Stmt := top 71
abbrev s_reason_holds : Stmt := top 73
abbrev s_leasts_hold : Stmt := top 74
abbrev s_law_at : Stmt := top 76
abbrev s_law_mixed : Stmt := top 77
abbrev s_law_draws : Stmt := top 78
abbrev s_law_label : Stmt := top 80
abbrev s_law_span : Stmt := top 81
abbrev s_law_own : Stmt := top 82
abbrev s_law_leaf : Stmt := top 83
abbrev s_law_within : Stmt := top 84
abbrev s_law_step : Stmt := top 85
abbrev s_law_tree : Stmt := top 86
abbrev s_law_boxes : Stmt := top 87
abbrev s_law_columns : Stmt := top 88
abbrev s_law_asked : Stmt := top 89
abbrev s_law_grouped : Stmt := top 90
abbrev s_law_tabled : Stmt := top 91
abbrev s_law_holds : Stmt := top 92
abbrev s_law_raised : Stmt := top 93
abbrev s_law_other : Stmt := top 94
abbrev s_law_lifted : Stmt := top 95
abbrev s_law_lowered : Stmt := top 96
abbrev s_law_matched : Stmt := top 97
abbrev s_law_forged : Stmt := top 98
abbrev s_law_papers : Stmt := top 100
abbrev s_law : Stmt := top 101
abbrev s_TooGreat_init : Stmt := inClass (top 8) 0
abbrev s_Ring_init : Stmt := inClass (top 9) 0
abbrev s_Rounds_go : Stmt := inClass (top 70) 2
abbrev s_leasts_of : Stmt := top 72
abbrev s_law_found : Stmt := top 99
def isRf (o : Option (Option Value)) (a : Addr) : Bool := match o with
  | some (some (.ref b)) => Nat.beq b a
  | _ => false
def isNo (o : Option (Option Value)) : Bool := match o with
  | some none => true
  | _ => false
def isBn (o : Option (Option Value)) (n : String) : Bool := match o with
  | some (some (.builtin m)) => decide (m = n)
  | _ => false
def isFn' (K : PySem.W.Frag) (f : Addr) : Bool := match K.lookup f with
  | some ⟨.type c, _, _, _⟩ => decide (c = "function")
  | _ => false
def gloB (K : PySem.W.Frag) (x : Str) (a : Addr) : Bool := isRf (PySem.W.nsIn K mainGlobals x) a
def freeB (K : PySem.W.Frag) (x : Str) : Bool := isNo (PySem.W.nsIn K mainGlobals x)
def intB (K : PySem.W.Frag) (x : Str) (i : Int) : Bool := match PySem.W.nsIn K mainGlobals x with
  | some (some (.int j _)) => decide (j = i)
  | _ => false
def clsB (K : PySem.W.Frag) (C : Addr) : Bool := isBn (PySem.W.findIn K (.ref C) "__getattribute__") "object.__getattribute__" && (isNo (PySem.W.findIn K (.ref C) "__getattr__") && (PySem.W.hasDictIn K C && (PySem.W.plainOver K C && isBn (PySem.W.findIn K (.ref C) "__setattr__") "object.__setattr__")))
def methB (K : PySem.W.Frag) (C : Addr) (m : Str) (f : Addr) : Bool := isRf (PySem.W.findIn K (.ref C) m) f && (isFn' K f && PySem.W.keepIn K (.ref f))
def mkB (K : PySem.W.Frag) (C f : Addr) : Bool := PySem.W.makesIn K C && (isRf (PySem.W.findIn K (.ref C) "__init__") f && (isFn' K f && PySem.W.keepIn K (.ref C)))
def cvB (K : PySem.W.Frag) (C : Addr) (f : Addr) : Bool := match PySem.W.findCls K (.ref C) (.type "type") "__init__" with
  | some (.val (.ref b)) => Nat.beq b f
  | _ => false
def cinitB (K : PySem.W.Frag) (C f : Addr) : Bool := PySem.W.readsIn K C (.type "type") && (isBn (PySem.W.specialIn K (.ref C) "__getattribute__") "type.__getattribute__" && cvB K C f)
def cbB (K : PySem.W.Frag) (C : Value) : Bool := match PySem.W.findCls K C (.type "type") "__init__" with
  | some (.val (.builtin n)) => decide (n = "ValueError.__init__")
  | _ => false
def einitB (K : PySem.W.Frag) (C : Addr) : Bool := PySem.W.readsIn K C (.type "type") && (isBn (PySem.W.specialIn K (.ref C) "__getattribute__") "type.__getattribute__" && cbB K (.ref C))
def naB (K : PySem.W.Frag) (C : Addr) (fs : List Str) : Bool := fs.all fun f => isNo (PySem.W.findIn K (.ref C) f)
def excB (K : PySem.W.Frag) (C : Addr) : Bool := (match K.lookup C with
  | some ⟨.type t, _, .cls cd, sl⟩ => (match cd.mro, sl.toList with
    | .ref C' :: bm, [_, _, _, _, some (.builtin n), _] => decide (t = "type") && (Nat.beq C' C && (decide (n = "ValueError.__new__") && (!cd.hasDel && (cd.hasDict && PySem.HandSPX.refsVE bm))))
    | _, _ => false)
  | _ => false) && (isBn (PySem.W.findIn K (.ref C) "__setattr__") "object.__setattr__" && (decide (PySem.W.subIn K (.ref C) (.type "BaseException") = some true) && PySem.W.keepIn K (.ref C)))
structure Df where
  x : Str
  q : Str
  st : Stmt
  f : Addr
def Df.val (d : Df) : He.FnW := some (d.x, d.q, defArgs d.st, .stmts (defBody d.st), defScope d.st, mainGlobals, [], builtinsNs)
def fnL (K : PySem.W.Frag) (f : Addr) : He.FnW := match K.lookup f with
  | some ⟨_, _, .func fd, _⟩ => some (fd.name, fd.qualname, fd.params, fd.body, fd.scope, fd.globals, fd.closure, fd.builtins)
  | _ => none
def okL (K : PySem.W.Frag) (f : Addr) (q : Str) : Bool := match K.lookup f with
  | some ⟨_, _, .func fd, _⟩ => PySem.W.codeIn K fd.code q && (He.dflB K fd.defaults [] && He.kwdB K fd.kwdefaults [])
  | _ => false
def fldNames : List Str := ["name", "wide_own", "high_own", "grow", "shrink", "rank", "group", "parts", "gap", "align", "side", "columns", "spans", "cells", "many", "wishes"]
def defs : List Df := [⟨"__init__", "Box.__init__", s_Box_init, 35⟩, ⟨"asked_least", "Box.asked_least", s_Box_asked_least, 49⟩, ⟨"sums", "Box.sums", s_Box_sums, 56⟩, ⟨"alone_least", "Box.alone_least", s_Box_alone_least, 63⟩, ⟨"asker", "Box.asker", s_Box_asker, 70⟩, ⟨"__init__", "Leaf.__init__", s_Leaf_init, 161⟩, ⟨"all_boxes", "all_boxes", s_all_boxes, 187⟩, ⟨"deal", "deal", s_deal, 699⟩, ⟨"gaps_in", "gaps_in", s_gaps_in, 706⟩, ⟨"of_parts", "of_parts", s_of_parts, 721⟩, ⟨"__init__", "Row.__init__", s_Row_init, 735⟩, ⟨"asked_least", "Row.asked_least", s_Row_asked_least, 749⟩, ⟨"sums", "Row.sums", s_Row_sums, 756⟩, ⟨"__init__", "Column.__init__", s_Column_init, 817⟩, ⟨"asked_least", "Column.asked_least", s_Column_asked_least, 831⟩, ⟨"cells_at", "cells_at", s_cells_at, 883⟩, ⟨"is_open", "is_open", s_is_open, 890⟩, ⟨"put_cells", "put_cells", s_put_cells, 897⟩, ⟨"last_row", "last_row", s_last_row, 902⟩, ⟨"track_name", "track_name", s_track_name, 909⟩, ⟨"track_weights", "track_weights", s_track_weights, 916⟩, ⟨"alone_raised", "alone_raised", s_alone_raised, 923⟩, ⟨"in_order", "in_order", s_in_order, 928⟩, ⟨"lack_of", "lack_of", s_lack_of, 935⟩, ⟨"raise_tracks", "raise_tracks", s_raise_tracks, 942⟩, ⟨"__init__", "Table.__init__", s_Table_init, 956⟩, ⟨"sums", "Table.sums", s_Table_sums, 963⟩, ⟨"asks", "Table.asks", s_Table_asks, 977⟩, ⟨"asked_least", "Table.asked_least", s_Table_asked_least, 1022⟩, ⟨"__init__", "Wrap.__init__", s_Wrap_init, 1076⟩, ⟨"asked_least", "Wrap.asked_least", s_Wrap_asked_least, 1090⟩, ⟨"of", "of", s_of, 1170⟩, ⟨"settle", "settle", s_settle, 1177⟩, ⟨"free_boxes", "free_boxes", s_free_boxes, 1184⟩, ⟨"asks_of", "asks_of", s_asks_of, 1191⟩, ⟨"__init__", "Rounds.__init__", s_Rounds_init, 1205⟩, ⟨"reason", "Rounds.reason", s_Rounds_reason, 1212⟩, ⟨"ring_of", "ring_of", s_ring_of, 1231⟩, ⟨"reason_holds", "reason_holds", s_reason_holds, 1243⟩, ⟨"leasts_hold", "leasts_hold", s_leasts_hold, 1248⟩, ⟨"_law_at", "_law_at", s_law_at, 1255⟩, ⟨"_law_mixed", "_law_mixed", s_law_mixed, 1262⟩, ⟨"_law_draws", "_law_draws", s_law_draws, 1269⟩, ⟨"_law_label", "_law_label", s_law_label, 1283⟩, ⟨"_law_span", "_law_span", s_law_span, 1290⟩, ⟨"_law_own", "_law_own", s_law_own, 1297⟩, ⟨"_law_leaf", "_law_leaf", s_law_leaf, 1304⟩, ⟨"_law_within", "_law_within", s_law_within, 1311⟩, ⟨"_law_step", "_law_step", s_law_step, 1316⟩, ⟨"_law_tree", "_law_tree", s_law_tree, 1321⟩, ⟨"_law_boxes", "_law_boxes", s_law_boxes, 1328⟩, ⟨"_law_columns", "_law_columns", s_law_columns, 1335⟩, ⟨"_law_asked", "_law_asked", s_law_asked, 1340⟩, ⟨"_law_grouped", "_law_grouped", s_law_grouped, 1345⟩, ⟨"_law_tabled", "_law_tabled", s_law_tabled, 1352⟩, ⟨"_law_holds", "_law_holds", s_law_holds, 1359⟩, ⟨"_law_raised", "_law_raised", s_law_raised, 1366⟩, ⟨"_law_other", "_law_other", s_law_other, 1373⟩, ⟨"_law_lifted", "_law_lifted", s_law_lifted, 1380⟩, ⟨"_law_lowered", "_law_lowered", s_law_lowered, 1387⟩, ⟨"_law_matched", "_law_matched", s_law_matched, 1392⟩, ⟨"_law_forged", "_law_forged", s_law_forged, 1397⟩, ⟨"_law_papers", "_law_papers", s_law_papers, 1411⟩, ⟨"law", "law", s_law, 1416⟩, ⟨"__init__", "TooGreat.__init__", s_TooGreat_init, 214⟩, ⟨"__init__", "Ring.__init__", s_Ring_init, 233⟩, ⟨"go", "Rounds.go", s_Rounds_go, 1219⟩, ⟨"leasts_of", "leasts_of", s_leasts_of, 1238⟩, ⟨"_law_found", "_law_found", s_law_found, 1404⟩]
def adrs : List Addr := [mainGlobals, 143, 178, 197, 217, 236, 801, 876, 1060, 1163, 1222, 142, 177, 196, 216, 235, 800, 875, 1059, 1162, 1221, 2, 35, 49, 56, 63, 70, 161, 187, 699, 706, 721, 735, 749, 756, 817, 831, 883, 890, 897, 902, 909, 916, 923, 928, 935, 942, 956, 963, 977, 1022, 1076, 1090, 1170, 1177, 1184, 1191, 1205, 1212, 1231, 1243, 1248, 1255, 1262, 1269, 1283, 1290, 1297, 1304, 1311, 1316, 1321, 1328, 1335, 1340, 1345, 1352, 1359, 1366, 1373, 1380, 1387, 1392, 1397, 1411, 1416, 214, 233, 1219, 1238, 1404, 34, 48, 55, 62, 69, 160, 186, 698, 705, 720, 734, 748, 755, 816, 830, 882, 889, 896, 901, 908, 915, 922, 927, 934, 941, 955, 962, 976, 1021, 1075, 1089, 1169, 1176, 1183, 1190, 1204, 1211, 1230, 1242, 1247, 1254, 1261, 1268, 1282, 1289, 1296, 1303, 1310, 1315, 1320, 1327, 1334, 1339, 1344, 1351, 1358, 1365, 1372, 1379, 1386, 1391, 1396, 1410, 1415, 213, 232, 1218, 1237, 1403]
def chk (K : PySem.W.Frag) : List Bool := [gloB K "all_boxes" 187,
  gloB K "deal" 699,
  gloB K "gaps_in" 706,
  gloB K "of_parts" 721,
  gloB K "cells_at" 883,
  gloB K "is_open" 890,
  gloB K "put_cells" 897,
  gloB K "last_row" 902,
  gloB K "track_name" 909,
  gloB K "track_weights" 916,
  gloB K "alone_raised" 923,
  gloB K "in_order" 928,
  gloB K "lack_of" 935,
  gloB K "raise_tracks" 942,
  gloB K "of" 1170,
  gloB K "settle" 1177,
  gloB K "free_boxes" 1184,
  gloB K "asks_of" 1191,
  gloB K "ring_of" 1231,
  gloB K "reason_holds" 1243,
  gloB K "leasts_hold" 1248,
  gloB K "_law_at" 1255,
  gloB K "_law_mixed" 1262,
  gloB K "_law_draws" 1269,
  gloB K "_law_label" 1283,
  gloB K "_law_span" 1290,
  gloB K "_law_own" 1297,
  gloB K "_law_leaf" 1304,
  gloB K "_law_within" 1311,
  gloB K "_law_step" 1316,
  gloB K "_law_tree" 1321,
  gloB K "_law_boxes" 1328,
  gloB K "_law_columns" 1335,
  gloB K "_law_asked" 1340,
  gloB K "_law_grouped" 1345,
  gloB K "_law_tabled" 1352,
  gloB K "_law_holds" 1359,
  gloB K "_law_raised" 1366,
  gloB K "_law_other" 1373,
  gloB K "_law_lifted" 1380,
  gloB K "_law_lowered" 1387,
  gloB K "_law_matched" 1392,
  gloB K "_law_forged" 1397,
  gloB K "_law_papers" 1411,
  gloB K "law" 1416,
  gloB K "leasts_of" 1238,
  gloB K "_law_found" 1404,
  gloB K "Leaf" 178,
  gloB K "Row" 801,
  gloB K "Column" 876,
  gloB K "Table" 1060,
  gloB K "Wrap" 1163,
  gloB K "Rounds" 1222,
  gloB K "Box" 143,
  gloB K "BoxError" 197,
  gloB K "TooGreat" 217,
  gloB K "Ring" 236,
  freeB K "all",
  freeB K "any",
  freeB K "bool",
  freeB K "dict",
  freeB K "divmod",
  freeB K "enumerate",
  freeB K "int",
  freeB K "isinstance",
  freeB K "len",
  freeB K "list",
  freeB K "max",
  freeB K "ord",
  freeB K "range",
  freeB K "sorted",
  freeB K "str",
  freeB K "sum",
  freeB K "tuple",
  freeB K "zip",
  freeB K "ValueError",
  intB K "GREATEST" 1000000000,
  intB K "LOWEST" (-20),
  mkB K 178 161,
  mkB K 801 735,
  mkB K 876 817,
  mkB K 1060 956,
  mkB K 1163 1076,
  mkB K 1222 1205,
  clsB K 178,
  clsB K 801,
  clsB K 876,
  clsB K 1060,
  clsB K 1163,
  clsB K 1222,
  cinitB K 143 35,
  einitB K 197,
  naB K 178 fldNames,
  naB K 801 fldNames,
  naB K 876 fldNames,
  naB K 1163 fldNames,
  naB K 1060 fldNames,
  naB K 1222 ["leasts", "reasons", "free", "past"],
  isBn (PySem.W.findIn K (.ref 178) "__class__") "object.__class__" && decide (PySem.W.mroIn K 178 (.type "object") = some true),
  isBn (PySem.W.findIn K (.ref 801) "__class__") "object.__class__" && decide (PySem.W.mroIn K 801 (.type "object") = some true),
  isBn (PySem.W.findIn K (.ref 876) "__class__") "object.__class__" && decide (PySem.W.mroIn K 876 (.type "object") = some true),
  isBn (PySem.W.findIn K (.ref 1163) "__class__") "object.__class__" && decide (PySem.W.mroIn K 1163 (.type "object") = some true),
  isBn (PySem.W.findIn K (.ref 1060) "__class__") "object.__class__" && decide (PySem.W.mroIn K 1060 (.type "object") = some true),
  decide (PySem.W.kitOne K (.ref 178) (.ref 1060) = some false),
  decide (PySem.W.kitOne K (.ref 801) (.ref 1060) = some false),
  decide (PySem.W.kitOne K (.ref 876) (.ref 1060) = some false),
  decide (PySem.W.kitOne K (.ref 1163) (.ref 1060) = some false),
  decide (PySem.W.kitOne K (.ref 1060) (.ref 1060) = some true),
  isBn (PySem.W.specialIn K (.builtin "object.__class__") "__get__") "getset_descriptor.__get__" && decide (PySem.W.takesIn K (.builtin "object.__class__") = some true),
  methB K 178 "asked_least" 49,
  methB K 801 "asked_least" 749,
  methB K 876 "asked_least" 831,
  methB K 1163 "asked_least" 1090,
  methB K 1060 "asked_least" 1022,
  methB K 178 "sums" 56,
  methB K 801 "sums" 756,
  methB K 876 "sums" 56,
  methB K 1163 "sums" 56,
  methB K 1060 "sums" 963,
  methB K 178 "alone_least" 63,
  methB K 801 "alone_least" 63,
  methB K 876 "alone_least" 63,
  methB K 1163 "alone_least" 63,
  methB K 1060 "alone_least" 63,
  methB K 178 "asker" 70,
  methB K 801 "asker" 70,
  methB K 876 "asker" 70,
  methB K 1163 "asker" 70,
  methB K 1060 "asker" 70,
  methB K 1060 "asks" 977,
  methB K 1222 "reason" 1212,
  methB K 1222 "go" 1219,
  excB K 217,
  isRf (PySem.W.findIn K (.ref 217) "__init__") 214 && isFn' K 214,
  naB K 217 ["name"],
  decide (PySem.W.exmAny K (.ref 217) [.ref 236, .ref 217] = some true),
  excB K 236,
  isRf (PySem.W.findIn K (.ref 236) "__init__") 233 && isFn' K 233,
  naB K 236 ["names"],
  decide (PySem.W.exmAny K (.ref 236) [.ref 236, .ref 217] = some true),
  cbB K (.type "ValueError")]
def obL (K : PySem.W.Frag) : Bool × List He.FnW := ((chk K).all id && defs.all fun d => okL K d.f d.q, defs.map fun d => fnL K d.f)
def vaL : Bool × List He.FnW := (true, defs.map Df.val)
def SaysL (K : PySem.W.Frag) : Prop := obL K = vaL
def hkL : PySem.W.Hook where
  α := Bool × List He.FnW
  obs := fun s => obL (He.frG s.heap.get? adrs)
  val := fun _ => vaL
  says := fun _ h => ∃ K : PySem.W.Frag, K.In h ∧ SaysL K
  of := fun _ _ e => ⟨_, He.frG_in, e⟩
  keeps := fun _ _ _ ⟨K, hK, c⟩ k => ⟨K, PySem.W.Frag.In.keeps hK k, c⟩
def oL (s : PySem.W.SharedT) : Bool × List He.FnW := obL (He.frG (HandSHeadRun.getT s) adrs)
def names : List PySem.Str := (["_wall", "GREATEST", "Box", "Leaf", "all_boxes", "BoxError", "TooGreat", "Ring", "TooWide", "NoRows", "touches", "edges", "stretch", "stretches", "widths_of", "flat", "text_of", "width_at", "reaches", "is_barred", "put_less", "next_costs", "table_of", "last_step", "step_before", "set_rows", "longest", "in_one", "Words", "BESIDE"] : List PySem.Str) ++ (["Flow", "Over", "deal", "gaps_in", "sums_of", "greatest_of", "of_parts", "Row", "Column", "cells_at", "is_open", "put_cells", "last_row", "track_name", "track_weights", "alone_raised", "in_order", "lack_of", "raise_tracks", "Table", "Wrap", "of", "LOWEST", "settle", "free_boxes", "asks_of", "Rounds", "ring_of", "leasts_of", "reason_holds"] : List PySem.Str) ++ (["leasts_hold", "_law_at", "_law_mixed", "_law_draws", "_law_names", "_law_label", "_law_span", "_law_own", "_law_leaf", "_law_within", "_law_step", "_law_tree", "_law_boxes", "_law_columns", "_law_asked", "_law_grouped", "_law_tabled", "_law_holds", "_law_raised", "_law_other", "_law_lifted", "_law_lowered", "_law_matched", "_law_forged", "_law_found", "_law_papers"] : List PySem.Str)
abbrev RO : PySem.W.OpenRow := PySem.W.OpenLaw.row PySem.Challenge.rw_boxgalley_k14_whole_leasts_are_least
theorem run (w : World) : HandSHeadRun.RunEq RO (PySem.W.view RO.prog [101]) hkL oL 12000 names w := by
  intro os
  kernel_rfl

end BG
set_option maxHeartbeats 4000000
namespace BG
open PySem PySem.Spec PyProof.Rows L2

/-! ### heaps that grow -/
def Ex (H H' : Hp) : Prop := ∀ a o, H a = some o → H' a = some o
theorem Ex.refl (H : Hp) : Ex H H := fun _ _ h => h
theorem Ex.trans {H H1 H2 : Hp} (a : Ex H H1) (b : Ex H1 H2) : Ex H H2 := fun x o h => b x o (a x o h)
theorem Ex.new {H : Hp} {p : Addr} {o : HO} (h : H p = none) : Ex H (upd H p o) := fun a u e => by
  rw [upd_ne (ne_of_none e h)]
  exact e
theorem Ex.mut {H H' : Hp} {p : Addr} {o : HO} (e : Ex H H') (h : H p = none) : Ex H (upd H' p o) := fun a u ha => by
  rw [upd_ne (ne_of_none ha h)]
  exact e a u ha
theorem Ex.add {H H' : Hp} {p : Addr} {o : HO} (e : Ex H H') (h : H' p = none) : Ex H (upd H' p o) := e.trans (Ex.new h)
theorem Ex.free {H H' : Hp} {p : Addr} (e : Ex H H') (h : H' p = none) : H p = none := by
  cases h1 : H p with
  | none => rfl
  | some o =>
    rw [e p o h1] at h
    cases h
theorem Ex.rd {H H' : Hp} {a : Addr} {u : HO} (e : Ex H H') (h : Rd H a u) : Rd H' a u := by
  rcases h with h | ⟨o, h⟩
  · exact Or.inl (e a _ h)
  · exact Or.inr ⟨o, e a _ h⟩
theorem Ex.l {K : PySem.W.Frag} {H H' : Hp} {a : Addr} {xs : List V} (e : Ex H H') (h : SqL K H a xs) : SqL K H' a xs := by
  rcases h with h | h
  · exact Or.inl (e.rd h)
  · exact Or.inr h
theorem Ex.t {K : PySem.W.Frag} {H H' : Hp} {a : Addr} {xs : List V} (e : Ex H H') (h : SqT K H a xs) : SqT K H' a xs := by
  rcases h with h | h
  · exact Or.inl (e.rd h)
  · exact Or.inr h
theorem sz {n : Nat} (h : n ≤ 100000) : n ≤ sizeLine := Nat.le_trans h (by decide)
theorem szl {n : Nat} (h : n < 100000) : n < sizeLine := Nat.lt_of_lt_of_le h (by decide)

/-! ### a def of the text, by a positional promise -/
def DefAt (K : PySem.W.Frag) (x q : Str) (st : Stmt) (f : Addr) : Prop := ∃ fd, FunD K x q (defArgs st) (defBody st) (defScope st) [] [] f fd
section
variable {P : Program} {w : World} {K : PySem.W.Frag} {mg : Str → Option Value} {base : Heap}
theorem DefAt.kp {x q : Str} {st : Stmt} {f : Addr} (F : DefAt K x q st f) : PySem.W.keepIn K (.ref f) = true := let ⟨_, F⟩ := F; F.kp
theorem DefAt.fn {CX : CXT} {x q : Str} {st : Stmt} {f : Addr} {N ps : List Str} {k : Nat} {sp : Sp} (F : DefAt K x q st f) (S : FnScope N ps (defScope st))
    (hb : ∀ (kV doc pm : Value) (an : Option Addr) (cdv ct : Value) (us : List Value), us.length = ps.length → bindArgs (PySem.W.fnOf x q (defArgs st) (defBody st) (defScope st) .none kV doc pm an cdv ct) ⟨us, []⟩ = pure (ps.zip us))
    (len : ∀ vs H Q E, sp vs H Q E → vs.length = ps.length) (t : XK → TS)
    (der : ∀ (cdv : Value) (A : Around) (outer : List Env) (s : Shared) (H : Hp) (E : XK), Room k (A.deeper (envOfC q (defScope st) s.heap.objs.size f cdv)) → PSs (cxOf CX P w K mg base N q (defScope st) f cdv A outer s H E) (defBody st) (t E))
    (rd : ∀ (vs : List V) (H : Hp) (Q : VK) (E : XK), sp vs H Q E → t E { nx := fun _ H' => Q .non H', rt := Q } (start N vs) H) : FnR P w K mg base CX (k + 1) f sp := by
  obtain ⟨fd, F⟩ := F
  have G : FnOk P w K mg base CX (k + 1) f fd ps sp := F.ok S len fun cdv A outer s H vs Q E hr h => ⟨t E, der cdv A outer s H E hr, rd vs H Q E h⟩
  have R := G.raw (F.bindsN hb) (dvs := []) .nil
  exact R.imp fun vs H Q E h => by rw [List.append_nil]; exact h
/-- where nothing leaves -/
theorem DefAt.fn0 {x q : Str} {st : Stmt} {f : Addr} {N ps : List Str} {k : Nat} {sp : Sp} (F : DefAt K x q st f) (S : FnScope N ps (defScope st))
    (hb : ∀ (kV doc pm : Value) (an : Option Addr) (cdv ct : Value) (us : List Value), us.length = ps.length → bindArgs (PySem.W.fnOf x q (defArgs st) (defBody st) (defScope st) .none kV doc pm an cdv ct) ⟨us, []⟩ = pure (ps.zip us))
    (len : ∀ vs H Q E, sp vs H Q E → vs.length = ps.length) (t : TS)
    (der : ∀ (cdv : Value) (A : Around) (outer : List Env) (s : Shared) (H : Hp) (E : XK), Room k (A.deeper (envOfC q (defScope st) s.heap.objs.size f cdv)) → PSs (cxOf CX0 P w K mg base N q (defScope st) f cdv A outer s H E).nox (defBody st) t)
    (rd : ∀ (vs : List V) (H : Hp) (Q : VK) (E : XK), sp vs H Q E → t { nx := fun _ H' => Q .non H', rt := Q } (start N vs) H) : FnR P w K mg base CX0 (k + 1) f sp :=
  F.fn S hb len (fun _ => t) (fun cdv A outer s H E hr => (der cdv A outer s H E hr).nox) rd
end

/-! ### calls by positional promises -/
def tCallR (sp : Sp) (E : XK) (t : TA) : TE := fun σ H Q => t σ H fun vs H1 => sp vs H1 Q E
section
variable {X : Cx} {CX : CXT} {k : Nat} {f C : Addr} {sp : Sp} {E : XK} {x m : Str} {e o : Expr} {es : List Expr} {ta : TE} {t : TA} {p pos apos : Pos}
theorem pe_callR (F : FnR X.prog X.w X.K X.mg X.base CX k f sp) (hr : Room k X.A) (hg : Gl X x) (hm : X.mg x = some (.ref f)) (hk : PySem.W.keepIn X.K (.ref f) = true) (hx : Passes CX X E) (ha : PA X (e :: es) t)
    (hdb : (x == ("__debug__" : Str)) = false := by decide) (he : starEach (e :: es) X.env = (false, eval e X.env) :: starEach es X.env := by rfl) (hpl : (backTo pos (starEach es X.env)).any (·.1) = false := by rfl) :
    PE X (.Call (.Name x p) (e :: es) [] pos) (tCallR sp E t) := by
  refine ⟨fun pins s σ H Q I h => ?_⟩
  refine wpAny_Call_Name_kw (ld_glob I hg hm ?_ hdb)
  refine PySem.W.callWith_K (h₀ := X.base) I.ok.mod.kin hk (thn (ha.run pos pins s σ H _ I h) fun us s1 ⟨vs, H1, I1, r, q⟩ => ⟨I1.kIn, ?_⟩) he hpl
  exact wpAny_call (run_fnR F hr hx I1 r q)

/-- a method by the receiver's class: Cs the classes that may stand there -/
def tMethD (Cs : List Addr) (m : Str) (sp : Sp) (E : XK) (ta : TE) (t : TA) : TE := fun σ H Q => ta σ H fun x H1 => ∃ a C dx fs, x = .ref a ∧ H1 a = some (.ins C dx fs) ∧ C ∈ Cs ∧ fs.lookup m = none ∧
  t σ H1 fun vs H2 => (∃ dx fs, H2 a = some (.ins C dx fs)) ∧ sp (x :: vs) H2 Q E
/-- each class's method, where the receiver is of that class -/
def DispOk (P : Program) (w : World) (K : PySem.W.Frag) (mg : Str → Option Value) (base : Heap) (CX : CXT) (k : Nat) (Cs : List Addr) (m : Str) (sp : Sp) : Prop :=
  ∀ C ∈ Cs, Cls K C ∧ ∃ f, Meth K C m f ∧ FnR P w K mg base CX k f (fun vs H Q E => (∃ a r dx fs, vs = .ref a :: r ∧ H a = some (.ins C dx fs)) ∧ sp vs H Q E)
theorem pe_methD {Cs : List Addr} {pl : Sem Bool} (he : PE X o ta) (D : DispOk X.prog X.w X.K X.mg X.base CX k Cs m sp) (hr : Room k X.A) (hx : Passes CX X E) (ha : PA X (e :: es) t)
    (hst : starEach (e :: es) X.env = (false, eval e X.env) :: starEach es X.env := by rfl) (hpl : (backTo pos (starEach es X.env)).any (·.1) = false := by rfl)
    (ht : eval (.Call (.Attribute o m apos) (e :: es) [] pos) X.env = (do
      let ov ← eval o X.env
      standAt apos.atName
      let (f, first) ← holding [ov] (getMethod ov m pl)
      callWith pos f first (backTo pos (starEach (e :: es) X.env)) (backToKw pos (keywordEach [] X.env))) := by rfl) :
    PE X (.Call (.Attribute o m apos) (e :: es) [] pos) (tMethD Cs m sp E ta t) := by
  refine ⟨fun pins s σ H Q I h => ?_⟩
  refine PySem.W.methodCall_KW (pl := pl) (thn (he.run pins s σ H _ I h) fun u s1 ⟨x, H1, I1, rx, a, C, dx, fs, ex, ea, hC, l, q⟩ => ?_) ht
  subst ex
  obtain rfl : u = Value.ref a := rx
  obtain ⟨c, f, hm, F⟩ := D C hC
  refine getmeth_ok I1 ea c hm l ?_
  refine PySem.W.callWith_K (first := [.ref a]) (h₀ := X.base) I.ok.mod.kin hm.kp (thn (ha.run pos pins s1 σ H1 _ I1 q) fun us s2 ⟨vs, H2, I2, r, ⟨dx2, fs2, e2⟩, q2⟩ => ⟨I2.kIn, ?_⟩) hst hpl
  exact wpAny_call (run_fnR (us := .ref a :: us) (vs := .ref a :: vs) F hr hx I2 (.cons rfl r) ⟨⟨a, vs, dx2, fs2, rfl, e2⟩, q2⟩)
theorem pe_methD0 {Cs : List Addr} {pl : Sem Bool} (he : PE X o ta) (D : DispOk X.prog X.w X.K X.mg X.base CX k Cs m sp) (hr : Room k X.A) (hx : Passes CX X E)
    (ht : eval (.Call (.Attribute o m apos) [] [] pos) X.env = (do
      let ov ← eval o X.env
      standAt apos.atName
      let (f, first) ← holding [ov] (getMethod ov m pl)
      callWith pos f first (backTo pos (starEach [] X.env)) (backToKw pos (keywordEach [] X.env))) := by rfl) :
    PE X (.Call (.Attribute o m apos) [] [] pos) (tMethD Cs m sp E ta tNil) := by
  refine ⟨fun pins s σ H Q I h => ?_⟩
  refine PySem.W.methodCall_KW (pl := pl) (thn (he.run pins s σ H _ I h) fun u s1 ⟨x, H1, I1, rx, a, C, dx, fs, ex, ea, hC, l, ⟨dx2, fs2, e2⟩, q2⟩ => ?_) ht
  subst ex
  obtain rfl : u = Value.ref a := rx
  obtain ⟨c, f, hm, F⟩ := D C hC
  refine getmeth_ok I1 ea c hm l ?_
  exact PySem.W.callWith_K0 (first := [.ref a]) I1.kIn hm.kp (wpAny_call (run_fnR (us := [.ref a]) (vs := [.ref a]) F hr hx I1 (.cons rfl .nil) ⟨⟨a, [], dx2, fs2, rfl, e2⟩, q2⟩))
end

/-! ### readings by short names -/
abbrev qAdd : R2 := rI0 fun i j => .int (i + j)
abbrev qSub : R2 := rI0 fun i j => .int (i - j)
abbrev qMul : R2 := rI CMul fun i j => .int (i * j)
abbrev qFdiv : R2 := rI CDivW fun i j => .int (i / j)
abbrev qMod : R2 := rI (fun _ j => 0 < j) fun i j => .int (i % j)
abbrev qPow : R2 := rI CPow fun i j => .int (i ^ j.toNat)
abbrev qLt : R2 := rI0 fun i j => .bl (decide (i < j))
abbrev qLe : R2 := rI0 fun i j => .bl (decide (i ≤ j))
abbrev qGt : R2 := rI0 fun i j => .bl (decide (j < i))
abbrev qGe : R2 := rI0 fun i j => .bl (decide (j ≤ i))
abbrev qIsN : R2 := fun x y H Q => y = .non ∧ Q (.bl (decide (x = .non))) H
abbrev qNotN : R2 := fun x y H Q => y = .non ∧ Q (.bl (!decide (x = .non))) H
abbrev qAddS : R2 := fun x y H Q => ∃ i j, x = .str i ∧ y = .str j ∧ i.length + j.length ≤ sizeLine ∧ Q (.str (i ++ j)) H
abbrev qNeg : V → Hp → VK → Prop := rU fun i => .int (-i)
abbrev qLen (K : PySem.W.Frag) : List V → Hp → VK → Prop := fun xs H Q => ∃ p ys, xs = [.ref p] ∧ (SqL K H p ys ∨ SqT K H p ys) ∧ Q (.int ys.length) H
abbrev qLenD : List V → Hp → VK → Prop := fun xs H Q => ∃ a kvs, xs = [V.ref a] ∧ H a = some (.dK kvs) ∧ Q (.int kvs.length) H
abbrev qLenT : List V → Hp → VK → Prop := fun xs H Q => ∃ z, xs = [.str z] ∧ z.length ≤ sizeLine ∧ Q (.int z.length) H
abbrev qMax2 : List V → Hp → VK → Prop := fun xs H Q => ∃ i j, xs = [.int i, .int j] ∧ Q (.int (if j > i then j else i)) H
abbrev qMin2 : List V → Hp → VK → Prop := fun xs H Q => ∃ i j, xs = [.int i, .int j] ∧ Q (.int (if j < i then j else i)) H
abbrev qOrd : List V → Hp → VK → Prop := fun xs H Q => ∃ x, xs = [.str x] ∧ x.length = 1 ∧ Q (.int (x.cps.getD 0 0 : Nat)) H
abbrev qList (K : PySem.W.Frag) : List V → Hp → VK → Prop := fun xs H Q => ∃ p ys, xs = [.ref p] ∧ (SqL K H p ys ∨ SqT K H p ys) ∧ ∀ l, H l = none → Q (.ref l) (upd H l (.lst ys))
abbrev qListD : List V → Hp → VK → Prop := fun xs H Q => ∃ (a : Addr) (kvs : List (Key × V)), xs = [.ref a] ∧ Rd H a (.dK kvs) ∧ ∀ p, H p = none → Q (.ref p) (upd H p (.lst (kvs.map fun kv => kV kv.1)))
abbrev qTup (K : PySem.W.Frag) : List V → Hp → VK → Prop := fun xs H Q => ∃ p ys, xs = [.ref p] ∧ ((SqL K H p ys ∧ ∀ l, H l = none → Q (.ref l) (upd H l (.tup ys))) ∨ (SqT K H p ys ∧ Q (.ref p) H))
abbrev qInt1 : List V → Hp → VK → Prop := fun xs H Q => (∃ i, xs = [.int i] ∧ Q (.int i) H) ∨ ∃ k, xs = [.bl k] ∧ Q (.int (if k then 1 else 0)) H
abbrev qStrI : List V → Hp → VK → Prop := fun xs H Q => ∃ i, xs = [.int i] ∧ i.natAbs.log2 < 1920 ∧ Q (.str (toString i)) H
abbrev qDictD : List V → Hp → VK → Prop := fun xs H Q => ∃ (a : Addr) (kvs : List (Key × V)), xs = [.ref a] ∧ Rd H a (.dK kvs) ∧ ∀ p, H p = none → Q (.ref p) (upd H p (.dK kvs))
abbrev qDivmod : List V → Hp → VK → Prop := fun xs H Q => ∃ i j, xs = [.int i, .int j] ∧ CDiv i j ∧ ∀ p, H p = none → Q (.ref p) (upd H p (.tup [.int (i / j), .int (i % j)]))
abbrev qZfill : V → List V → Hp → VK → Prop := fun x xs H Q => ∃ (a : Str) (i : Int), x = .str a ∧ xs = [.int i] ∧ PadOk i = true ∧ Q (.str (Txt.zfill a i)) H
theorem pe_globI {X : Cx} {x : Str} {i : Int} {pos : Pos} (hg : Gl X x) (hm : ∃ t, X.mg x = some (.int i t)) (hd : (x == ("__debug__" : Str)) = false := by decide) : PE X (.Name x pos) (tC (.int i)) := by
  obtain ⟨t, hm⟩ := hm
  exact pe_glob hg hm ⟨t, rfl⟩ hd
/-- an item of a list, for an augmented store -/
def qGetL : V → V → Hp → VK → Prop := fun o i H Q => ∃ p xs k v, o = .ref p ∧ i = .int k ∧ H p = some (.lst xs) ∧ atI xs k = some v ∧ Q v H
theorem get_list {X : Cx} : PGet X qGetL := by
  intro pins s σ H o i ov iv Q I ro ri h
  obtain ⟨p, xs, k, v, rfl, rfl, hl, ha, q⟩ := h
  cases ro
  obtain ⟨t, rfl⟩ := ri
  obtain ⟨its, r, pl, hz⟩ := I.list (SqL.of (K := X.K) hl)
  obtain ⟨j, h1, h2, h3, h4, h5⟩ := atI_get ha
  obtain ⟨w, ew, rw'⟩ := r.get h2
  have hlen := r.length
  have hn := line63
  have fin : EP X pins σ Q w s := ⟨v, H, I, rw', q⟩
  by_cases h0 : 0 ≤ k
  · have hj : k.toNat = j := by
      rw [seqIndex_of h0 h5] at h1
      exact Option.some.inj h1
    exact wpAny_getItem_list pl.isList h0 (by omega) (by rw [hj]; simpa using ew) fin
  · have hj : (k + (its.toArray.size : Int)).toNat = j := by
      rw [seqIndex_neg (by omega) h4] at h1
      rw [List.size_toArray, ← hlen]
      exact Option.some.inj h1
    exact wpAny_getItem_list_neg pl.isList (by omega) (by rw [List.size_toArray] <;> omega) (by omega) (by rw [hj]; simpa using ew) fin

/-! ### further rules -/
def tSumVals (td : TE) : TE := fun σ H Q => td σ H fun x H1 => ∃ (a : Addr) (kvs : List (Key × V)) (is : List Int), x = V.ref a ∧ H1 a = some (.dK kvs) ∧ kvs.map (·.2) = is.map V.int ∧ Q (.int is.sum) H1
def tMaxVals (td : TE) : TE := fun σ H Q => td σ H fun x H1 => ∃ (a : Addr) (kvs : List (Key × V)) (is : List Int), x = V.ref a ∧ H1 a = some (.dK kvs) ∧ kvs.map (·.2) = is.map V.int ∧ is ≠ [] ∧ ∀ m, m ∈ is → (∀ j ∈ is, j ≤ m) → Q (.int m) H1
abbrev qMax3 : List V → Hp → VK → Prop := fun xs H Q => ∃ i j k, xs = [.int i, .int j, .int k] ∧ Q (.int (if k > (if j > i then j else i) then k else (if j > i then j else i))) H
def tMaxD (K : PySem.W.Frag) (te td : TE) : TE := fun σ H Q => te σ H fun x H1 => td σ H1 fun y H2 => ∃ (a : Addr) (ns : List Int) (d : Int), x = V.ref a ∧ SqL K H2 a (ns.map V.int) ∧ y = .int d ∧ (ns = [] → Q (.int d) H2) ∧ (∀ m, m ∈ ns → (∀ j ∈ ns, j ≤ m) → Q (.int m) H2)
abbrev qSortedD : List V → Hp → VK → Prop := fun xs H Q => ∃ (a : Addr) (kvs : List (Key × V)) (ks : List Str), xs = [.ref a] ∧ Rd H a (.dK kvs) ∧ kvs.map (·.1) = ks.map Sum.inr ∧ ks.length < 64 ∧
  ∀ ys p, ys.Perm ks → sortedS ys = true → H p = none → Q (.ref p) (upd H p (.lst (ys.map V.str)))
/-- less, item by item -/
def lexK : List Key → List Key → Bool
  | [], [] => false
  | [], _ :: _ => true
  | _ :: _, [] => false
  | .inl i :: r, .inl j :: q => if i = j then lexK r q else decide (i < j)
  | .inr x :: r, .inr y :: q => if x = y then lexK r q else decide (x.cps.toList < y.cps.toList)
  | _ :: _, _ :: _ => false
def shapeK (r : List Key) : List Bool := r.map Sum.isLeft
def qSortedM (K : PySem.W.Frag) : List V → Hp → VK → Prop := fun vs H Q => ∃ (a : Addr) (xs : List (Addr × List Key)) (sh : List Bool), vs = [V.ref a] ∧ SqL K H a (xs.map fun p => V.ref p.1) ∧ (∀ p ∈ xs, H p.1 = some (.tup (p.2.map kV)) ∧ shapeK p.2 = sh) ∧ (sh ≠ [] ∧ xs.length < 1000) ∧
  ∀ (ys : List (Addr × List Key)) (p : Addr), ys.Perm xs → ys.Pairwise (fun u v => lexK v.2 u.2 = false) → H p = none → Q (.ref p) (upd H p (.lst (ys.map fun p => V.ref p.1)))
def tDUpd (td te : TE) : TE := fun σ H Q => td σ H fun x H1 => ∃ a, x = .ref a ∧ IsD H1 a ∧ te σ H1 fun y H2 => ∃ (b : Addr) (kvs ls : List (Key × V)), y = .ref b ∧ H2 a = some (.dK kvs) ∧ H2 b = some (.dK ls) ∧ a ≠ b ∧ kvs.length + ls.length ≤ 1000 ∧ (ls.map (·.1)).Nodup ∧ Q .non (upd H2 a (.dK (mergeK kvs ls)))
def qEqNil (K : PySem.W.Frag) : R2 := fun x y H Q => ∃ a b xs, x = .ref a ∧ y = .ref b ∧ SqL K H a xs ∧ SqL K H b [] ∧ Q (.bl xs.isEmpty) H
def qNeNil (K : PySem.W.Frag) : R2 := fun x y H Q => ∃ a b xs, x = .ref a ∧ y = .ref b ∧ SqL K H a xs ∧ SqL K H b [] ∧ Q (.bl (!xs.isEmpty)) H
/-- two dicts of whole numbers, the same keys or not -/
def dEqB (ks ls : List (Key × V)) : Bool := ks.length == ls.length && ks.all fun p => decide (valV ls p.1 = some p.2)
def qEqDI : R2 := fun x y H Q => ∃ a b ks ls, x = .ref a ∧ y = .ref b ∧ H a = some (.dK ks) ∧ H b = some (.dK ls) ∧ (∀ p ∈ ks, ∃ i, p.2 = .int i) ∧ (∀ p ∈ ls, ∃ i, p.2 = .int i) ∧ Q (.bl (dEqB ks ls)) H
def qNeDI : R2 := fun x y H Q => ∃ a b ks ls, x = .ref a ∧ y = .ref b ∧ H a = some (.dK ks) ∧ H b = some (.dK ls) ∧ (∀ p ∈ ks, ∃ i, p.2 = .int i) ∧ (∀ p ∈ ls, ∃ i, p.2 = .int i) ∧ Q (.bl (!dEqB ks ls)) H
section
variable {X : Cx} {o e d : Expr} {es : List Expr} {td te : TE} {t : TA} {p p1 p2 pos mpos apos kp : Pos} {k : Nat} {CX : CXT} {sp : Sp} {E : XK} {f C : Addr} {x : Str}
theorem pe_maxVals (hc : X.calm = true) (hg : Gl X "max") (hm : X.mg "max" = none) (he : PE X o td) (hbase : attributeBase o "values" X.env (eval o X.env) = eval o X.env := by rfl) (hline : (apos.endLine == mpos.line) = true := by rfl) :
    PE X (.Call (.Name "max" p) [.Call (.Attribute o "values" apos) [] [] mpos] [] pos) (tMaxVals td) := by
  refine ⟨fun pins s σ H Q I h => ?_⟩
  refine wpAny_Call_Name_kw (ld_blt I hg hm (u := .builtin "max") (by first | rfl | decide +kernel) ?_ (by first | decide +kernel | decide) (by first | decide +kernel | decide))
  refine PySem.callWith_builtin1 (wpAny_Call_method0_late hbase hline (thn (he.run pins s σ H _ I h) fun v s1 ⟨x, H1, I1, r1, a, kvs, is, ex, ha, hv, hne, q⟩ => ?_))
  subst ex
  obtain rfl : v = Value.ref a := r1
  obtain ⟨_, hsys, vs, rel, dof⟩ := dk_of I1.hok ha
  obtain ⟨ep, dat⟩ := dof.dictAt
  have dat' := dat
  obtain ⟨ob, es, ho, ex, hdat, hko, hpr, hnd⟩ := dat'
  refine ⟨"dict", "dict.values", F.plainAttrs_dict, F.slot_dict_values, F.type_dict_values, ⟨ob, ho, ex.1⟩, fun b e => ?_, Calls.callWith_builtin rfl (PySem.evalArgs_none ?_)⟩
  · cases e
    exact ⟨ob, ho, ex.2.1⟩
  refine call_meetsIn F.slot_dict_values ⟨ob, ho, ex.1⟩ F.entry_dict_values (F.args_dict_values_1 _) (meets_dict_values (mixKind X.prog X.w) a hsys) ⟨⟨vs, dof⟩, ?_⟩
  have k1 : ∀ b u, s1.heap.get? b = some u → (s1.heap.push { cls := .type "dict_values", data := .fields #[.ref a] }).get? b = some u := fun b u e => Heap.get?_push_of_some _ e
  have dat1 : (s1.heap.push { cls := .type "dict_values", data := .fields #[.ref a] }).DictAt (mixKind X.prog X.w) a vs ep := dat.keep k1
  have hlv : vs.length = is.length := by
    have e1 := congrArg List.length hv
    rw [List.length_map, List.length_map] at e1
    rw [← e1]
    exact (KV.length rel).symm
  have hlen : 0 < vs.length := by
    rw [hlv]
    exact List.length_pos_iff.mpr hne
  have hval : ∀ (i : Nat) (v : Value), (∃ k, vs[i]? = some (k, v)) → ∃ t, v = Value.int (is.getD i 0) t := fun i v ⟨k, hk⟩ => by
    obtain ⟨x, h1, h2⟩ := KV.at' rel hk
    have e1 : (kvs.map (·.2))[i]? = some x := by rw [List.getElem?_map, h1] <;> rfl
    rw [hv, List.getElem?_map] at e1
    obtain ⟨j, hj, e2⟩ := Option.map_eq_some_iff.mp e1
    subst e2
    obtain ⟨t, e3⟩ := h2
    refine ⟨t, ?_⟩
    rw [e3, List.getD_eq_getElem?_getD, hj] <;> rfl
  refine call_max_walk (wpAny_pyIter_values (v := s1.heap.objs.size) (d := a) ⟨_, Heap.get?_push_size _ rfl, rfl, rfl⟩ dat1 ?_)
  have hlt : a < s1.heap.objs.size := Heap.lt_size ho
  have hsz : (s1.heap.push { cls := .type "dict_values", data := .fields #[.ref a] }).objs.size = s1.heap.objs.size + 1 := Heap.size_push _ _
  refine ⟨_, _, _, _, _, _, _, rfl, Walks.dictValues (knd := mixKind X.prog X.w) (A := X.A.in1) (I.ok.hd hc) (s1.heap.push { cls := .type "dict_values", data := .fields #[.ref a] }).objs.size a (by rw [hsz]; exact Nat.ne_of_lt (Nat.lt_succ_of_lt hlt)) vs ep,
    ⟨⟨_, Heap.get?_push_size _ rfl, rfl, rfl⟩, dat1.keep fun b u e => Heap.get?_push_of_some _ e⟩, fun b hb => ?_, hlen, CmpOf.ints_gt (fun i => is.getD i 0) hval, fun v h' tk hP hk => ?_⟩
  · show b < ((s1.heap.push _).push _).objs.size
    rw [Heap.size_push, Heap.size_push]
    rw [hsz] at hb
    rcases List.mem_cons.mp hb with e | hb
    · rw [e]
      exact Nat.lt_succ_self _
    · have e : b = a := List.mem_singleton.mp hb
      rw [e]
      exact Nat.lt_succ_of_lt (Nat.lt_succ_of_lt hlt)
  · obtain ⟨t, rfl⟩ := hval _ v hP
    obtain ⟨b1, b2⟩ := argBest_gt (fun i => is.getD i 0) (vs.length - 1)
    refine ⟨.int _, H1, I1.kept (t' := tk) fun b u e => hk b u (fun hmem => ?_) (Heap.get?_push_of_some _ (k1 b u e)), ⟨t, rfl⟩, q _ ?_ fun j hj => ?_⟩
    · have e1 : b = (s1.heap.push { cls := .type "dict_values", data := .fields #[.ref a] }).objs.size := List.mem_singleton.mp hmem
      have e2 := Heap.lt_size e
      rw [hsz] at e1
      rw [e1] at e2
      exact absurd e2 (Nat.not_lt.mpr (Nat.le_succ _))
    · have hb : argBest (fun i j => decide (is.getD i 0 > is.getD j 0)) (vs.length - 1) < is.length := by omega
      rw [List.getD_eq_getElem?_getD, List.getElem?_eq_getElem hb]
      exact List.getElem_mem hb
    · obtain ⟨i, hi, e⟩ := List.mem_iff_getElem.mp hj
      have e2 : is.getD i 0 = j := by rw [List.getD_eq_getElem?_getD, List.getElem?_eq_getElem hi, ← e] <;> rfl
      rw [← e2]
      exact b2 i (by omega)
theorem call_max3 (hc : X.calm = true) : CallR X (.builtin "max") qMax3 := by
  intro pins s σ H xs us Q I r h
  obtain ⟨i, j, k, rfl, q⟩ := h
  cases r with
  | cons r1 r =>
    cases r with
    | cons r2 r =>
      cases r with
      | cons r3 r =>
        cases r
        obtain ⟨t1, rfl⟩ := r1
        obtain ⟨t2, rfl⟩ := r2
        obtain ⟨t3, rfl⟩ := r3
        refine max_three_ints (I.ok.hd hc) fun h' tk kk => ⟨_, H, I.kept kk, ?_, q⟩
        by_cases h1 : j > i
        · rw [if_pos h1, if_pos h1]
          by_cases h2 : k > j
          · rw [if_pos h2, if_pos h2]; exact ⟨_, rfl⟩
          · rw [if_neg h2, if_neg h2]; exact ⟨_, rfl⟩
        · rw [if_neg h1, if_neg h1]
          by_cases h2 : k > i
          · rw [if_pos h2, if_pos h2]; exact ⟨_, rfl⟩
          · rw [if_neg h2, if_neg h2]; exact ⟨_, rfl⟩
/-- what of the text a class has whose method is called by the class's name -/
structure CInit (K : PySem.W.Frag) (C f : Addr) : Prop where
  rd : PySem.W.readsIn K C (.type "type") = true
  ga : PySem.W.specialIn K (.ref C) "__getattribute__" = some (some (.builtin "type.__getattribute__"))
  at_ : PySem.W.findCls K (.ref C) (.type "type") "__init__" = some (.val (.ref f))
end
section
variable {X : Cx} {o e d : Expr} {es : List Expr} {td te : TE} {t : TA} {p p1 p2 pos mpos apos kp : Pos} {k : Nat} {CX : CXT} {sp : Sp} {E : XK} {f C : Addr} {x : Str}
theorem preSum_take (is : List Int) : ∀ n, PySem.preSum (fun i => is.getD i 0) n = (is.take n).sum
  | 0 => by simp [PySem.preSum]
  | n + 1 => by
    rw [PySem.preSum, preSum_take is n, List.take_add_one, List.sum_append]
    cases h : is[n]? with
    | none => simp [List.getD_eq_getElem?_getD, h]
    | some v => simp [List.getD_eq_getElem?_getD, h]
theorem pe_sumVals (hc : X.calm = true) (hg : Gl X "sum") (hm : X.mg "sum" = none) (he : PE X o td) (hbase : attributeBase o "values" X.env (eval o X.env) = eval o X.env := by rfl) (hline : (apos.endLine == mpos.line) = true := by rfl) :
    PE X (.Call (.Name "sum" p) [.Call (.Attribute o "values" apos) [] [] mpos] [] pos) (tSumVals td) := by
  refine ⟨fun pins s σ H Q I h => ?_⟩
  refine wpAny_Call_Name_kw (ld_blt I hg hm (u := .builtin "sum") (by first | rfl | decide +kernel) ?_ (by first | decide +kernel | decide) (by first | decide +kernel | decide))
  refine PySem.callWith_builtin1 (wpAny_Call_method0_late hbase hline (thn (he.run pins s σ H _ I h) fun v s1 ⟨x, H1, I1, r1, a, kvs, is, ex, ha, hv, q⟩ => ?_))
  subst ex
  obtain rfl : v = Value.ref a := r1
  obtain ⟨_, hsys, vs, rel, dof⟩ := dk_of I1.hok ha
  obtain ⟨ep, dat⟩ := dof.dictAt
  have dat' := dat
  obtain ⟨ob, es, ho, ex, hdat, hko, hpr, hnd⟩ := dat'
  refine ⟨"dict", "dict.values", F.plainAttrs_dict, F.slot_dict_values, F.type_dict_values, ⟨ob, ho, ex.1⟩, fun b e => ?_, Calls.callWith_builtin rfl (PySem.evalArgs_none ?_)⟩
  · cases e
    exact ⟨ob, ho, ex.2.1⟩
  refine call_meetsIn F.slot_dict_values ⟨ob, ho, ex.1⟩ F.entry_dict_values (F.args_dict_values_1 _) (meets_dict_values (mixKind X.prog X.w) a hsys) ⟨⟨vs, dof⟩, ?_⟩
  have k1 : ∀ b u, s1.heap.get? b = some u → (s1.heap.push { cls := .type "dict_values", data := .fields #[.ref a] }).get? b = some u := fun b u e => Heap.get?_push_of_some _ e
  have dat1 : (s1.heap.push { cls := .type "dict_values", data := .fields #[.ref a] }).DictAt (mixKind X.prog X.w) a vs ep := dat.keep k1
  have hlv : vs.length = is.length := by
    have e1 := congrArg List.length hv
    rw [List.length_map, List.length_map] at e1
    rw [← e1]
    exact (KV.length rel).symm
  have hval : ∀ (i : Nat) (v : Value), (∃ k, vs[i]? = some (k, v)) → ∃ t, v = Value.int (is.getD i 0) t := fun i v ⟨k, hk⟩ => by
    obtain ⟨x, h1, h2⟩ := KV.at' rel hk
    have e1 : (kvs.map (·.2))[i]? = some x := by rw [List.getElem?_map, h1] <;> rfl
    rw [hv, List.getElem?_map] at e1
    obtain ⟨j, hj, e2⟩ := Option.map_eq_some_iff.mp e1
    subst e2
    obtain ⟨t, e3⟩ := h2
    refine ⟨t, ?_⟩
    rw [e3, List.getD_eq_getElem?_getD, hj] <;> rfl
  refine call_sum_walkG (wpAny_pyIter_values (v := s1.heap.objs.size) (d := a) ⟨_, Heap.get?_push_size _ rfl, rfl, rfl⟩ dat1 ?_)
  have hlt : a < s1.heap.objs.size := Heap.lt_size ho
  have hsz : (s1.heap.push { cls := .type "dict_values", data := .fields #[.ref a] }).objs.size = s1.heap.objs.size + 1 := Heap.size_push _ _
  refine ⟨_, _, _, _, _, _, (fun i => is.getD i 0), rfl, Walks.dictValues (knd := mixKind X.prog X.w) (A := X.A.in1) (I.ok.hd hc) (s1.heap.push { cls := .type "dict_values", data := .fields #[.ref a] }).objs.size a (by rw [hsz]; exact Nat.ne_of_lt (Nat.lt_succ_of_lt hlt)) vs ep,
    ⟨⟨_, Heap.get?_push_size _ rfl, rfl, rfl⟩, dat1.keep fun b u e => Heap.get?_push_of_some _ e⟩, fun b hb => ?_, hval, fun h' tk t' hk => ?_⟩
  · show b < ((s1.heap.push _).push _).objs.size
    rw [Heap.size_push, Heap.size_push]
    rw [hsz] at hb
    rcases List.mem_cons.mp hb with e | hb
    · rw [e]
      exact Nat.lt_succ_self _
    · have e : b = a := List.mem_singleton.mp hb
      rw [e]
      exact Nat.lt_succ_of_lt (Nat.lt_succ_of_lt hlt)
  · refine ⟨.int _, H1, I1.kept (t' := tk) fun b u e => hk b u (fun hmem => ?_) (Heap.get?_push_of_some _ (k1 b u e)), ⟨t', rfl⟩, ?_⟩
    · have e1 : b = (s1.heap.push { cls := .type "dict_values", data := .fields #[.ref a] }).objs.size := List.mem_singleton.mp hmem
      have e2 := Heap.lt_size e
      rw [hsz] at e1
      rw [e1] at e2
      exact absurd e2 (Nat.not_lt.mpr (Nat.le_succ _))
    · rw [preSum_take, hlv, List.take_length]
      exact q
/-! lists against none -/
theorem op_eqNil (hu : X.A.units + 64 < cLine) : OpR X (compareOp .Eq) (qEqNil X.K) := by
  intro pins s σ H x y v u Q I rx ry h
  obtain ⟨a, b, xs, rfl, rfl, ha, hb, q⟩ := h
  obtain rfl : v = Value.ref a := rx
  obtain rfl : u = Value.ref b := ry
  obtain ⟨is, r1, p1, _⟩ := I.list ha
  obtain ⟨js, r2, p2, _⟩ := I.list hb
  have hl := r1.length
  cases r2
  cases xs with
  | nil =>
    cases r1
    refine PySem.SeqAt.eq_listAt (e := fun _ => true) p1.isList p2.isList rfl (by omega) (fun j h1 h2 => absurd h1 (by simp)) ⟨.bl true, H, I, rfl, q⟩
  | cons z zs =>
    refine PySem.SeqAt.eq_list_lengthsAt p1.isList p2.isList ?_ (by omega) ⟨.bl false, H, I, rfl, q⟩
    rw [List.size_toArray, ← hl]
    rfl
theorem op_neNil (hu : X.A.units + 64 < cLine) : OpR X (compareOp .NotEq) (qNeNil X.K) := by
  intro pins s σ H x y v u Q I rx ry h
  obtain ⟨a, b, xs, rfl, rfl, ha, hb, q⟩ := h
  obtain rfl : v = Value.ref a := rx
  obtain rfl : u = Value.ref b := ry
  obtain ⟨is, r1, p1, _⟩ := I.list ha
  obtain ⟨js, r2, p2, _⟩ := I.list hb
  have hl := r1.length
  cases r2
  cases xs with
  | nil =>
    cases r1
    refine PySem.SeqAt.RcNeAt.lists (e := fun _ => true) p1.isList p2.isList rfl (by omega) (fun j h1 h2 => absurd h1 (by simp)) _ _ _ _ ⟨.bl false, H, I, rfl, q⟩
  | cons z zs =>
    refine PySem.SeqAt.RcNeAt.lists_lengths p1.isList p2.isList ?_ (by omega) _ _ _ _ ⟨.bl true, H, I, rfl, q⟩
    rw [List.size_toArray, ← hl]
    rfl
/-! dicts of whole numbers -/
theorem hits_dec {A : Around} {s : Shared} {ls : List (Key × V)} {vb : List (Key × Value)} (rb : KV ls vb) (hls : ∀ p ∈ ls, ∃ i, p.2 = V.int i) {ks : List (Key × V)} {va : List (Key × Value)} (ra : KV ks va) :
    (∀ p ∈ ks, ∃ i, p.2 = V.int i) → PySem.W.KeqHits A s vb va (ks.all fun p => decide (valV ls p.1 = some p.2)) := by
  unfold KV at ra
  induction ra with
  | nil => intro _; exact .nil
  | @cons p q ps qs h t ih =>
    intro hp
    obtain ⟨h1, h2⟩ := h
    obtain ⟨i, hi⟩ := hp p List.mem_cons_self
    obtain ⟨k, v⟩ := q
    have h1' : p.1 = k := h1
    have h2' : RelV p.2 v := h2
    have rr : RelO (valV ls p.1) (valueAt vb p.1) := rb.val p.1
    rw [List.all_cons]
    rw [hi] at h2' ⊢
    obtain ⟨tv, rfl⟩ := h2'
    cases e : valV ls p.1 with
    | none =>
      rw [e] at rr
      have ey : valueAt vb k = none := by
        rw [← h1']
        cases z : valueAt vb p.1 with
        | none => rfl
        | some _ => rw [z] at rr; exact rr.elim
      exact .miss ey
    | some w =>
      obtain ⟨kk, hk, hk2⟩ : ∃ kk, (kk, w) ∈ ls ∧ kk = p.1 := by
        unfold valV at e
        obtain ⟨z, hz, e2⟩ := Option.map_eq_some_iff.mp e
        refine ⟨z.1, ?_, by simpa using List.find?_some hz⟩
        rw [← e2]
        exact List.mem_of_find?_eq_some hz
      obtain ⟨j, hj⟩ := hls _ hk
      have hj : w = V.int j := hj
      subst hj
      rw [e] at rr
      obtain ⟨y, hy, ry⟩ := rr.some_of
      obtain ⟨ty, rfl⟩ := ry
      rw [h1'] at hy
      have ed : decide (some (V.int j) = some (V.int i)) = (i == j) := by
        by_cases z : i = j
        · subst z; simp
        · have : ¬ j = i := fun q => z q.symm
          simp [z, this]
      rw [ed]
      exact .hit hy (PySem.SeqAt.EqAt.int_int _ _ _ _) (ih fun p' hm => hp p' (List.mem_cons_of_mem _ hm))
theorem op_eqDI (hu : X.A.units + 64 < cLine) : OpR X (compareOp .Eq) qEqDI := by
  intro pins s σ H x y v u Q I rx ry h
  obtain ⟨a, b, ks, ls, rfl, rfl, ea, eb, h1, h2, q⟩ := h
  obtain rfl : v = Value.ref a := rx
  obtain rfl : u = Value.ref b := ry
  obtain ⟨_, ya, va, ra, da⟩ := dk_of I.hok ea
  obtain ⟨_, yb, vb, rb, db⟩ := dk_of I.hok eb
  refine PySem.W.keq_eq (knd := mixKind X.prog X.w) ya yb da db (by omega) (fun _ => hits_dec rb h2 ra h1) ⟨.bl _, H, I, ?_, q⟩
  show Value.bool _ = Value.bool _
  unfold dEqB
  rw [KV.length ra, KV.length rb]
theorem op_neDI (hu : X.A.units + 64 < cLine) : OpR X (compareOp .NotEq) qNeDI := by
  intro pins s σ H x y v u Q I rx ry h
  obtain ⟨a, b, ks, ls, rfl, rfl, ea, eb, h1, h2, q⟩ := h
  obtain rfl : v = Value.ref a := rx
  obtain rfl : u = Value.ref b := ry
  obtain ⟨_, ya, va, ra, da⟩ := dk_of I.hok ea
  obtain ⟨_, yb, vb, rb, db⟩ := dk_of I.hok eb
  refine PySem.W.keq_ne (knd := mixKind X.prog X.w) ya yb da db (by omega) (fun _ => hits_dec rb h2 ra h1) ⟨.bl _, H, I, ?_, q⟩
  show Value.bool _ = Value.bool _
  unfold dEqB
  rw [KV.length ra, KV.length rb]
theorem pe_cinit {pl : Sem Bool} (F : FnR X.prog X.w X.K X.mg X.base CX k f sp) (hr : Room k X.A) (hg : Gl X x) (hm : X.mg x = some (.ref C)) (hi : CInit X.K C f) (hk : PySem.W.keepIn X.K (.ref f) = true) (hx : Passes CX X E) (ha : PA X (e :: es) t)
    (hc : eval (.Call (.Attribute (.Name x p1) "__init__" p2) (e :: es) [] pos) X.env = (do
      let ov ← eval (.Name x p1) X.env
      standAt p2.atName
      let (f, first) ← holding [ov] (getMethod ov "__init__" pl)
      callWith pos f first (backTo pos (starEach (e :: es) X.env)) (backToKw pos (keywordEach [] X.env))) := by rfl)
    (he : starEach (e :: es) X.env = (false, eval e X.env) :: starEach es X.env := by rfl) (hpl : (backTo pos (starEach es X.env)).any (·.1) = false := by rfl) (hdb : (x == ("__debug__" : Str)) = false := by decide) :
    PE X (.Call (.Attribute (.Name x p1) "__init__" p2) (e :: es) [] pos) (tCallR sp E t) := by
  refine ⟨fun pins s σ H Q I h => ?_⟩
  refine PySem.W.methodCall_KW (ld_glob I hg hm ?_ hdb) hc
  refine PySem.W.method_cls I.kIn hi.ga (PySem.W.cls_value I.kIn hi.rd hi.at_ rfl ?_)
  refine PySem.W.callWith_K (h₀ := X.base) I.ok.mod.kin hk (thn (ha.run pos pins _ σ H _ (I.tok _) h) fun us s1 ⟨vs, H1, I1, r, q⟩ => ⟨I1.kIn, ?_⟩) he hpl
  exact wpAny_call (run_fnR F hr hx I1 r q)
end
section
variable {X : Cx} {o e d : Expr} {es : List Expr} {td te : TE} {t : TA} {p p1 p2 pos mpos apos kp : Pos} {k : Nat} {CX : CXT} {sp : Sp} {E : XK} {f C : Addr} {x : Str}
/-! d.update(e) -/
theorem pe_dupd (hc : X.calm = true) (ho : PE X o td) (he : PE X e te) (m : M1 X o "update" apos e pos) : PE X (.Call (.Attribute o "update" apos) [e] [] pos) (tDUpd td te) := by
  refine ⟨fun pins s σ H Q I h => ?_⟩
  refine wpAny_Call_method m.base m.few m.line PySem.F.plainAttrs_dict PySem.F.slot_dict_update PySem.F.type_dict_update (thn (ho.run pins s σ H _ I h) fun u s1 ⟨x, H1, I1, rx, a, ex, d, q1⟩ => ?_)
  subst ex
  obtain rfl : u = Value.ref a := rx
  obtain ⟨t1, t2, _⟩ := isD_at I1 d
  refine ⟨t1, t2, ?_⟩
  rw [m.trees]
  refine Calls.callWith_builtin rfl (Calls.evalArgs_plain (Calls.spliced_cons (thn (he.run pins s1 σ H1 _ I1 q1) fun iv s2 ⟨y, H2, I2, ry, b, kvs, ls, ey, ea, eb, hab, hn, hnd, q2⟩ => Calls.spliced_nil ?_)))
  subst ey
  obtain rfl : iv = Value.ref b := ry
  obtain ⟨z1, hd1, va, ra, da⟩ := dk_of I2.hok ea
  obtain ⟨z2, hd2, vb, rb, db⟩ := dk_of I2.hok eb
  refine call_meetsIn PySem.F.slot_dict_update da.typeIs PySem.F.entry_dict_update (PySem.F.args_dict_update_2 _ _) (meets_dict_update (mixKind X.prog X.w) a b hab hd2) ⟨va, vb, da, db, ?_, fun h' dd' _ hs => ?_⟩
  · rw [← KV.length ra, ← KV.length rb]
    exact sz (by omega)
  · have hx : ∃ q, h'.get? a = some q := let ⟨q, _, _, hq, _⟩ := dd'; ⟨q, hq⟩
    exact ⟨.non, _, d_write (t' := s2.toks) I2 (by rw [ea]; exact True.intro) hs hx (dk_new (sz (Nat.le_trans (length_mergeK ls kvs) (by omega))) hd1 (KV.merge rb ra) dd'), rfl, q2⟩
/-! max(xs, default=d) -/
def rMaxDK (K : PySem.W.Frag) : List V → List V → Hp → VK → Prop := fun vs zs H Q => match vs, zs with
  | [x], [y] => ∃ (a : Addr) (ns : List Int) (d : Int), x = V.ref a ∧ SqL K H a (ns.map V.int) ∧ y = .int d ∧ (ns = [] → Q (.int d) H) ∧ (∀ m, m ∈ ns → (∀ j ∈ ns, j ≤ m) → Q (.int m) H)
  | _, _ => False
theorem maxOf_spec (xs : List Int) : ∀ x : Int, PySem.W.maxOf x xs ∈ x :: xs ∧ ∀ j ∈ x :: xs, j ≤ PySem.W.maxOf x xs := by
  induction xs with
  | nil => intro x; exact ⟨List.mem_cons_self, fun j hj => by rw [List.mem_singleton.mp hj]; exact Int.le_refl _⟩
  | cons y r ih =>
    intro x
    obtain ⟨h1, h2⟩ := ih (if PySem.W.DatumOrd.lt x y = true then y else x)
    have e : PySem.W.maxOf x (y :: r) = PySem.W.maxOf (if PySem.W.DatumOrd.lt x y = true then y else x) r := rfl
    have hlt : PySem.W.DatumOrd.lt x y = decide (x < y) := rfl
    rw [e]
    rw [hlt] at h1 h2 ⊢
    by_cases c : x < y
    · rw [decide_eq_true c, if_pos rfl] at h1 h2 ⊢
      refine ⟨List.mem_cons_of_mem _ h1, fun j hj => ?_⟩
      rcases List.mem_cons.mp hj with z | hj
      · have := h2 y List.mem_cons_self
        omega
      · exact h2 j hj
    · rw [decide_eq_false c, if_neg (by decide)] at h1 h2 ⊢
      refine ⟨?_, fun j hj => ?_⟩
      · rcases List.mem_cons.mp h1 with z | h1
        · rw [z]; exact List.mem_cons_self
        · exact List.mem_cons_of_mem _ (List.mem_cons_of_mem _ h1)
      · rcases List.mem_cons.mp hj with z | hj
        · rw [z]; exact h2 x List.mem_cons_self
        · rcases List.mem_cons.mp hj with z | hj
          · have := h2 x List.mem_cons_self
            omega
          · exact h2 j (List.mem_cons_of_mem _ hj)
theorem dp_ints {K : PySem.W.Frag} {H : Hp} : ∀ ns : List Int, DpAll K H (ns.map V.int) (ns.map PyData.int)
  | [] => .nil
  | n :: r => .cons (.int n) (dp_ints r)
theorem holds_int {h : Heap} {v : Value} {n : Int} (H : PySem.W.Holds h v n) : ∃ t, v = Value.int n t := by
  obtain ⟨as, r⟩ := H
  have r : Reads h v (.int n) as := r
  cases r
  exact ⟨_, rfl⟩
theorem crk_maxD (hc : X.calm = true) (hu : X.A.units + 64 < cLine) : CallRK X (.builtin "max") ["default"] (rMaxDK X.K) := by
  intro pins s σ H xs zs us ws Q I r1 r2 h
  cases r1 with
  | nil => exact h.elim
  | cons a1 r1 =>
    cases r1 with
    | cons a2 r1 => exact h.elim
    | nil =>
      cases r2 with
      | nil => exact h.elim
      | cons b1 r2 =>
        cases r2 with
        | cons b2 r2 => exact h.elim
        | nil =>
          obtain ⟨a, ns, d, rfl, hs, rfl, h0, h1⟩ := h
          obtain ⟨td, rfl⟩ := b1
          obtain rfl := a1
          obtain ⟨its, rv, pl, _⟩ := I.list hs
          obtain ⟨as, ra⟩ := Dp.readsAll I (ns.map PyData.int) (ns.map V.int) its (dp_ints ns) rv
          have hA : PySem.W.HoldAll s.heap its.toArray.toList ns := ⟨as, ra⟩
          refine PySem.W.max_list_datum_default (α := Int) (I.ok.hd hc) pl.isList hA (show X.A.units + 1 + 0 < cLine by omega) (fun e h' tk kk => ⟨.int d, H, I.kept (t' := tk) kk, ⟨td, rfl⟩, h0 e⟩) fun y ys i v h' tk e hi hv kk => ?_
          obtain ⟨t, rfl⟩ := holds_int hv
          obtain ⟨m1, m2⟩ := maxOf_spec ys y
          rw [← e] at m1 m2
          exact ⟨.int _, H, I.kept (t' := tk) kk, ⟨t, rfl⟩, h1 _ m1 m2⟩
theorem pe_maxD (hc : X.calm = true) (hu : X.A.units + 64 < cLine) (hg : Gl X "max") (hm : X.mg "max" = none) (he : PE X e te) (hd : PE X d td)
    (hs1 : starEach [e] X.env = (false, eval e X.env) :: starEach [] X.env := by rfl) (he1 : backTo pos (starEach [e] X.env) = (false, eval e X.env) :: backTo pos (starEach [] X.env) := by rfl) (hpl : (backTo pos (starEach [e] X.env)).any (·.1) = false := by rfl) :
    PE X (.Call (.Name "max" p) [e] [⟨some "default", d, kp⟩] pos) (tMaxD X.K te td) :=
  ⟨fun pins s σ H Q I h => (pe_callBK (r := rMaxDK X.K) (crk_maxD hc hu) hg hm PyProof.Rows.boot_max (pa_cons he pa_nil hs1) (pk_cons hd pk_nil) (by decide) (by decide) he1 hpl).run pins s σ H Q I h⟩
/-! sorted of rows -/
def kD : Key → PyData
  | .inl i => .int i
  | .inr x => .str x
def encK (p : Addr × List Key) : PyData := .tuple (p.2.map kD)
theorem dp_row {K : PySem.W.Frag} {H : Hp} : ∀ r : List Key, DpAll K H (r.map kV) (r.map kD)
  | [] => .nil
  | .inl i :: r => .cons (.int i) (dp_row r)
  | .inr x :: r => .cons (.str x) (dp_row r)
theorem alike_rows : ∀ r q : List Key, shapeK r = shapeK q → PySem.W.alikeAll (r.map kD) (q.map kD) = true
  | [], _, _ => by simp [PySem.W.alikeAll]
  | _ :: _, [], h => by simp [shapeK] at h
  | .inl i :: r, .inl j :: q, h => by
    have hs : shapeK r = shapeK q := by simpa [shapeK] using h
    have := alike_rows r q hs
    simpa [kD, PySem.W.alikeAll, PySem.W.alike] using this
  | .inr i :: r, .inr j :: q, h => by
    have hs : shapeK r = shapeK q := by simpa [shapeK] using h
    have := alike_rows r q hs
    simpa [kD, PySem.W.alikeAll, PySem.W.alike] using this
  | .inl _ :: _, .inr _ :: _, h => by simp [shapeK] at h
  | .inr _ :: _, .inl _ :: _, h => by simp [shapeK] at h
theorem lt_rows : ∀ r q : List Key, shapeK r = shapeK q → PyProof.Rows.lexLt PyProof.Rows.itemOrd (PySem.W.keyToksAll (r.map kD)) (PySem.W.keyToksAll (q.map kD)) = lexK r q
  | [], [], _ => by
    unfold lexK
    exact PyProof.Rows.lex_irrefl _
  | [], _ :: _, h => by simp [shapeK] at h
  | _ :: _, [], h => by simp [shapeK] at h
  | .inl i :: r, .inl j :: q, h => by
    have hs : shapeK r = shapeK q := by simpa [shapeK] using h
    have ih := lt_rows r q hs
    rw [List.map_cons, List.map_cons, PySem.W.dataLt_cons (by simp [kD, PySem.W.alike]), ih]
    show (if PyData.eqv (.int i) (.int j) = true then _ else PySem.W.dataLt (.int i) (.int j)) = _
    rw [PySem.W.dataLt_int, lexK]
    simp [PyData.eqv]
  | .inr i :: r, .inr j :: q, h => by
    have hs : shapeK r = shapeK q := by simpa [shapeK] using h
    have ih := lt_rows r q hs
    rw [List.map_cons, List.map_cons, PySem.W.dataLt_cons (by simp [kD, PySem.W.alike]), ih]
    show (if PyData.eqv (.str i) (.str j) = true then _ else PySem.W.dataLt (.str i) (.str j)) = _
    rw [PySem.W.dataLt_str, lexK]
    simp [PyData.eqv]
  | .inl _ :: _, .inr _ :: _, h => by simp [shapeK] at h
  | .inr _ :: _, .inl _ :: _, h => by simp [shapeK] at h
theorem depth_row : ∀ r : List Key, PyData.depthAll (r.map kD) = 0
  | [] => by simp [PyData.depthAll]
  | .inl i :: r => by rw [List.map_cons, PyData.depthAll, depth_row r]; rfl
  | .inr i :: r => by rw [List.map_cons, PyData.depthAll, depth_row r]; rfl
theorem each_refs : ∀ (xs : List (Addr × List Key)) (its : List Value), Vals (xs.map fun p => V.ref p.1) its → PySem.W.EachIs (fun v (p : Addr × List Key) => v = Value.ref p.1) its xs
  | [], _, r => by cases r; exact .nil
  | x :: xs, _, r => by
    cases r with
    | cons r1 r2 => exact .cons r1 (each_refs xs _ r2)
theorem vals_refs : ∀ (ys : List (Addr × List Key)) (out : List Value), PySem.W.EachIs (fun v (p : Addr × List Key) => v = Value.ref p.1) out ys → Vals (ys.map fun p => V.ref p.1) out
  | _, _, .nil => .nil
  | _, _, .cons r1 r2 => .cons r1 (vals_refs _ _ r2)
theorem each_with {α β : Type} {R S : α → β → Prop} : ∀ {as : List α} {bs : List β}, PySem.W.EachIs R as bs → (∀ a b, b ∈ bs → R a b → S a b) → PySem.W.EachIs S as bs
  | _, _, .nil, _ => .nil
  | _, _, .cons r t, h => .cons (h _ _ List.mem_cons_self r) (each_with t fun a b hb r => h a b (List.mem_cons_of_mem _ hb) r)
theorem cr_sortedM (hu : X.A.units + 64 < cLine) : CallR X (.builtin "sorted") (qSortedM X.K) := by
  intro pins s σ H vs us Q I r h
  obtain ⟨a, xs, sh, rfl, hs, hx, ⟨hne, hn⟩, q⟩ := h
  obtain ⟨its, rv, pl, _⟩ := I.list hs
  rw [Vals.ref1 r]
  have e0 := each_refs xs its rv
  have hal : ∀ b ∈ xs, ∀ c ∈ xs, shapeK b.2 = shapeK c.2 := fun b hb c hc => by rw [(hx b hb).2, (hx c hc).2]
  have er : PySem.W.EachIs (fun v (p : Addr × List Key) => ∃ as, Reads s.heap v (encK p) as) its xs := each_with e0 fun v p hp e =>
    Dp.reads I (encK p) (.ref p.1) v (.tup (SqT.of (hx p hp).1) (dp_row p.2)) e
  have hA : PySem.W.AllAlike (xs.map encK) := fun d hd d' hd' => by
    obtain ⟨b, hb, rfl⟩ := List.mem_map.mp hd
    obtain ⟨c, hc, rfl⟩ := List.mem_map.mp hd'
    show PySem.W.alike (.tuple _) (.tuple _) = true
    rw [PySem.W.alike]
    exact alike_rows _ _ (hal b hb c hc)
  have hS : PySem.W.Sortable (xs.map encK) := .inl fun d hd => by
    obtain ⟨b, hb, rfl⟩ := List.mem_map.mp hd
    have h2 := (hx b hb).2
    cases e : b.2 with
    | nil => rw [e] at h2; exact absurd h2.symm hne
    | cons y r => exact ⟨kD y, r.map kD, by unfold encK; rw [e, List.map_cons]⟩
  refine PySem.W.sorted_data (enc := encK) pl.isList e0 er hA hS (sz (by omega)) (fun b hb => ?_) fun out ho eo => ?_
  · have : (encK b).depth ≤ 1 := by
      show PyData.depth (.tuple _) ≤ 1
      rw [PyData.depth, depth_row]
      exact Nat.le_refl _
    omega
  · obtain ⟨ep, he'⟩ := PyProof.Rows.sortedAll_at s.heap its out.toArray
    have hp : (xs.mergeSort (PySem.W.dataLe false encK)).Perm xs := List.mergeSort_perm _ _
    have hpw := PySem.W.sort_pairwise (PySem.W.sortLe_total (PyProof.Rows.listOrd PyProof.Rows.itemOrd) false fun b => PySem.W.keyToks (encK b)) xs
    have hlen : ((xs.mergeSort (PySem.W.dataLe false encK)).map fun p => V.ref p.1).length ≤ sizeLine := by
      rw [List.length_map, hp.length_eq]
      exact sz (by omega)
    refine ⟨.ref _, upd H (s.heap.objs.size + 1) (.lst ((xs.mergeSort (PySem.W.dataLe false encK)).map fun p => V.ref p.1)), I.laid (t' := s.toks) (fun _ _ => PyProof.Rows.sortedAll_old) (Nat.le_succ _) ⟨hlen, out, ep, vals_refs _ _ eo, he'⟩, rfl, q _ _ hp ?_ (I.hok.fresh (Nat.le_succ _))⟩
    refine List.Pairwise.imp_of_mem (fun {u v} hu hv huv => ?_) hpw
    have h1 := hal v (hp.mem_iff.mp hv) u (hp.mem_iff.mp hu)
    rw [← lt_rows v.2 u.2 h1, ← PySem.W.dataLt_tuple]
    have h2 : PySem.W.dataLe false encK u v = true := huv
    rw [PySem.W.dataLe_eq] at h2
    simpa [encK] using h2
/-! a dict against none -/
def qNeDNil : R2 := fun x y H Q => ∃ a b ks, x = .ref a ∧ y = .ref b ∧ H a = some (.dK ks) ∧ H b = some (.dK []) ∧ Q (.bl (!ks.isEmpty)) H
theorem op_neDNil (hu : X.A.units + 64 < cLine) : OpR X (compareOp .NotEq) qNeDNil := by
  intro pins s σ H x y v u Q I rx ry h
  obtain ⟨a, b, ks, rfl, rfl, ea, eb, q⟩ := h
  obtain rfl : v = Value.ref a := rx
  obtain rfl : u = Value.ref b := ry
  obtain ⟨_, ya, va, ra, da⟩ := dk_of I.hok ea
  obtain ⟨_, yb, vb, rb, db⟩ := dk_of I.hok eb
  have hb0 : vb = [] := List.eq_nil_of_length_eq_zero (KV.length rb).symm
  subst hb0
  refine PySem.W.keq_ne (knd := mixKind X.prog X.w) (r := true) ya yb da db (by omega) (fun e => ?_) ⟨.bl _, H, I, ?_, q⟩
  · have : va = [] := List.eq_nil_of_length_eq_zero e
    subst this
    exact .nil
  · show Value.bool _ = Value.bool _
    rw [← KV.length ra]
    cases ks with
    | nil => rfl
    | cons z r => simp
/-! an exception's base __init__, by the base's name -/
structure EInit (K : PySem.W.Frag) (C : Addr) : Prop where
  rd : PySem.W.readsIn K C (.type "type") = true
  ga : PySem.W.specialIn K (.ref C) "__getattribute__" = some (some (.builtin "type.__getattribute__"))
  at_ : PySem.W.findCls K (.ref C) (.type "type") "__init__" = some (.val (.builtin "ValueError.__init__"))
theorem pe_boxErr {pl : Sem Bool} (hg : Gl X x) (hm : X.mg x = some (.ref C)) (hi : EInit X.K C) (ha : PA X (e :: es) t)
    (hc : eval (.Call (.Attribute (.Name x p1) "__init__" p2) (e :: es) [] pos) X.env = (do
      let ov ← eval (.Name x p1) X.env
      standAt p2.atName
      let (f, first) ← holding [ov] (getMethod ov "__init__" pl)
      callWith pos f first (backTo pos (starEach (e :: es) X.env)) (backToKw pos (keywordEach [] X.env))) := by rfl)
    (he : starEach (e :: es) X.env = (false, eval e X.env) :: starEach es X.env := by rfl) (hpl : (backTo pos (starEach es X.env)).any (·.1) = false := by rfl) (hdb : (x == ("__debug__" : Str)) = false := by decide) :
    PE X (.Call (.Attribute (.Name x p1) "__init__" p2) (e :: es) [] pos) (tVeI X.K t) := by
  refine ⟨fun pins s σ H Q I h => ?_⟩
  refine PySem.W.methodCall_KW (ld_glob I hg hm ?_ hdb) hc
  refine PySem.W.method_cls I.kIn hi.ga (PySem.W.cls_value I.kIn hi.rd hi.at_ rfl ?_)
  refine PyProof.Rows.callWith_method1 (thn (ha.run pos pins _ σ H _ (I.tok _) h) fun us s1 ⟨vs, H1, I1, r1, a, C', ws, ev, hl, T, ea, q⟩ => ?_) he hpl
  subst ev
  cases r1 with
  | @cons _ u0 _ ur ra rw' =>
    obtain rfl : u0 = Value.ref a := ra
    have hlen : ur.length ≤ sizeLine := by
      rw [← Paired.length rw', sizeLine_eq]
      omega
    exact oinit_ok T I1 ea hlen fun s' J => ⟨.non, H1, J, rfl, q⟩
/-! a call that may let an exception out, by the slots -/
def tCallRS (sp : Sp) (E : L2.St → XK) (t : TA) : TE := fun σ H Q => t σ H fun vs H1 => sp vs H1 Q (E σ)
theorem pe_callRS {E : L2.St → XK} (F : FnR X.prog X.w X.K X.mg X.base (L2.CX X.prog X.w) k f sp) (hr : Room k X.A) (hg : Gl X x) (hm : X.mg x = some (.ref f)) (hk : PySem.W.keepIn X.K (.ref f) = true) (hx : ∀ σ, PassesAt (L2.CX X.prog X.w) X σ (E σ)) (ha : PA X (e :: es) t)
    (hdb : (x == ("__debug__" : Str)) = false := by decide) (he : starEach (e :: es) X.env = (false, eval e X.env) :: starEach es X.env := by rfl) (hpl : (backTo pos (starEach es X.env)).any (·.1) = false := by rfl) :
    PE X (.Call (.Name x p) (e :: es) [] pos) (tCallRS sp E t) := by
  refine ⟨fun pins s σ H Q I h => ?_⟩
  refine wpAny_Call_Name_kw (ld_glob I hg hm ?_ hdb)
  refine PySem.W.callWith_K (h₀ := X.base) I.ok.mod.kin hk (thn (ha.run pos pins s σ H _ I h) fun us s1 ⟨vs, H1, I1, r, q⟩ => ⟨I1.kIn, ?_⟩) he hpl
  refine wpAny_call (codeAny_mono (F X.A X.stack s1 H1 us vs Q (E σ) hr I1.env0 r q) fun z s' hq => ?_)
  cases z with
  | error err => exact hx σ pins H1 s1 err s' I1 hq
  | ok fl =>
    cases fl with
    | ret u => exact I1.after hq
    | next => exact False.elim hq
    | brk => exact False.elim hq
    | cont => exact False.elim hq
end
section
variable {prog : Program} {w : World} {A : Around} {E : Value → Shared → Prop} {s : Shared}
theorem next_rng {it : Addr} {x left : Int} {Q : Value → Shared → Prop} (hit : IsRangeIter s.heap it x left 1) (hleft : 0 < left)
    (hQ : ∀ h', IsRangeIter h' it (x + 1) (left - 1) 1 → Heap.SameBut it s.heap h' → Q (.int x s.toks) { s with heap := h', toks := s.toks + 1 }) : wpAny (model prog w) A (Builtin.SmallTypes.nextOf (.ref it)) Q E s := by
  have hT : s.TypeIs (.ref it) "range_iterator" := ⟨_, hit, rfl⟩
  unfold Builtin.SmallTypes.nextOf
  refine wpAny_bind (wpAny_callSpecial?_slot (name := Str.ofString "__next__") hT F.slot_range_iterator_next
    (call_meets F.slot_range_iterator_next hT F.entry_range_iterator_next (F.args_range_iterator_next_1 _) (AutoRange.range_iterator___next___range_iterator_1 it x left 1 (by omega)) ⟨hit, ?_⟩))
  exact wpAny_pure (hQ _ (Heap.get?_update_self _ (Heap.get?_update_self _ hit rfl) rfl) ((Heap.SameBut.update ..).trans (Heap.SameBut.update ..)))
theorem end_rng {it : Addr} {x left : Int} {Q : Value → Shared → Prop} (hh : A.handled = none) (hit : IsRangeIter s.heap it x left 1) (hleft : left ≤ 0)
    (hE : ∀ h' e, Heap.ExtBut it s.heap h' → (∃ o, h'.get? e = some o ∧ o.cls = .type "StopIteration") → E (.ref e) { s with heap := h' }) : wpAny (model prog w) A (Builtin.SmallTypes.nextOf (.ref it)) Q E s := by
  have hT : s.TypeIs (.ref it) "range_iterator" := ⟨_, hit, rfl⟩
  unfold Builtin.SmallTypes.nextOf
  refine wpAny_bind (wpAny_callSpecial?_slot (name := Str.ofString "__next__") hT F.slot_range_iterator_next
    (wpAny_call_entry F.slot_range_iterator_next hT F.entry_range_iterator_next ?_ (F.args_range_iterator_next_1 _)))
  show wpAny _ _ (field (.ref it) 0 >>= _) _ _ s
  refine wpAny_bind (wpAny_field hit rfl (x := rawInt x) rfl ?_)
  show wpAny _ _ (field (.ref it) 1 >>= _) _ _ s
  refine wpAny_bind (wpAny_field hit rfl (x := rawInt left) rfl ?_)
  show wpAny _ _ (field (.ref it) 2 >>= _) _ _ s
  refine wpAny_bind (wpAny_field hit rfl (x := rawInt 1) rfl ?_)
  show wpAny _ _ (if left ≤ 0 then _ else _) _ _ s
  rw [if_pos hleft]
  refine wpAny_bind (wpAny_rule ?_)
  refine wpAny_bind ?_
  show wpAny _ _ (newExc (.type "StopIteration") [] >>= _) _ _ _
  refine wpAny_bind ?_
  simp only [newExc, newTuple]
  refine wpAny_bind (wpAny_newObj_type ?_ (by size_fits))
  refine wpAny_bind (m := firstArgMember _ _) (wpAny_of_eq (a := Value.none) (by first | rfl | (simp only [firstArgMember]; rfl)) ?_)
  refine wpAny_newObj_type ?_ (by size_fits)
  simp only [raiseNew]
  refine wpAny_bind (wpAny_handled ?_)
  first | rw [show A.in1.handled = none from hh] | rw [hh]
  refine wpAny_bind (wpAny_pure (wpAny_throw ?_))
  exact hE _ _ (((Heap.SameBut.refl _ _).extBut.push _).push _) ⟨_, Heap.get?_push_size _ rfl, rfl⟩
end
theorem draws_rng {prog : Program} {w : World} {A : Around} (hh : A.handled = none) (it : Addr) (n : Nat) :
    Draws prog w A it [it] n (fun i v => ∃ t, v = .int (i : Int) t) (fun i h => IsRangeIter h it (i : Int) ((n : Int) - (i : Int)) 1) where
  live := fun _ _ st => ⟨_, st⟩
  frame := fun _ _ _ st hk => hk it (by simp) _ st
  item := fun i s Q E hi st hQ => by
    refine next_rng st (by omega) fun h' st' sb => hQ _ h' _ ⟨_, rfl⟩ ?_ sb
    have e1 : ((i + 1 : Nat) : Int) = (i : Int) + 1 := by omega
    have e2 : (n : Int) - ((i + 1 : Nat) : Int) = (n : Int) - (i : Int) - 1 := by omega
    show IsRangeIter h' it _ _ 1
    rw [e2, e1]
    exact st'
  done := fun s Q E st hE => end_rng hh st (by omega) hE
theorem begins_rng (r : Addr) (n : Int) (t u v : Tok) (h1 : 0 ≤ n) (h2 : n < 2 ^ 62) : Begins (.ref r) { cls := .type "range_iterator", data := .fields #[rawInt 0, rawInt (Builtin.Range.rangeSize 0 n 1), rawInt 1] } fun h => IsRange h r 0 n 1 t u v where
  iter := fun prog w A E s Q hr h => wpAny_pyIter_range hr (small_one (by omega) (by omega) (by omega) h2) h
  keeps := fun h h' x hk => hk _ _ x
  free := rfl
theorem sub4 {z TI TO i1 i2 c : Addr} (m : c ∈ [z, TO, i1, i2]) : c ∈ [z, TI, TO, i1, i2] := by
  simp only [List.mem_cons, List.not_mem_nil, or_false] at m ⊢
  rcases m with h | h | h | h
  · exact .inl h
  · exact .inr (.inr (.inl h))
  · exact .inr (.inr (.inr (.inl h)))
  · exact .inr (.inr (.inr (.inr h)))
theorem sub5 {z TI TO i1 i2 i3 c : Addr} (m : c ∈ [z, TO, i1, i2, i3]) : c ∈ [z, TI, TO, i1, i2, i3] := by
  simp only [List.mem_cons, List.not_mem_nil, or_false] at m ⊢
  rcases m with h | h | h | h | h
  · exact .inl h
  · exact .inr (.inr (.inl h))
  · exact .inr (.inr (.inr (.inl h)))
  · exact .inr (.inr (.inr (.inr (.inl h))))
  · exact .inr (.inr (.inr (.inr (.inr h))))
def itRL (K : PySem.W.Frag) (n : Nat) (b : Addr) (ys : List V) : It :=
  ⟨fun i H => i < min n ys.length ∧ SqL K H b ys, fun i H v H' => ∃ T z, v = .ref T ∧ H T = none ∧ H' = upd H T (.tup [.int (i : Nat), z]) ∧ ys[i]? = some z, fun i H => min n ys.length ≤ i ∧ SqL K H b ys⟩
theorem turn_rl {P : Program} {w : World} {K : PySem.W.Frag} {elts : List Expr} {kk : Nat} {tpos : Pos} {b z TI TO i1 i2 : Addr} {n : Nat} {ys : List V} (S : ZipSep2 z TI TO i1 i2 [i1] [i2, b]) (hb : b ≠ i2) :
    Turn P w K (.Tuple elts kk tpos) (itRL K n b ys) [z, TI, TO, i1, i2] z (fun i h => IsZip h z TI TO .none ∧ IsTupOf2 h TI (.ref i1) (.ref i2) ∧ (∃ a1 a2, IsTupOf2 h TO a1 a2) ∧ IsRangeIter h i1 (i : Int) ((n : Int) - (i : Int)) 1 ∧ h.IsListIter i2 b i ∧ i ≤ min n ys.length) where
  mem := by simp
  obj := fun i h st c hc => by
    obtain ⟨hz, hTI, ⟨x, y, hTO⟩, h1, ⟨o2, e2, _, d2⟩, _⟩ := st
    have e' : c = z ∨ c = TI ∨ c = TO ∨ c = i1 ∨ c = i2 := by simpa using hc
    rcases e' with q | q | q | q | q
    · rw [q]; exact ⟨_, hz, fun v q => nomatch q⟩
    · rw [q]; exact ⟨_, hTI, fun v q => nomatch q⟩
    · rw [q]; exact ⟨_, hTO, fun v q => nomatch q⟩
    · rw [q]; exact ⟨_, h1, fun v q => nomatch q⟩
    · rw [q]; exact ⟨o2, e2, fun v q => by rw [d2] at q; cases q⟩
  keep := fun i h h' st k => by
    obtain ⟨hz, hTI, ⟨x, y, hTO⟩, h1, h2, hi⟩ := st
    exact ⟨k z (by simp) _ hz, k TI (by simp) _ hTI, ⟨x, y, k TO (by simp) _ hTO⟩, k i1 (by simp) _ h1, h2.at fun o q => k i2 (by simp) o q, hi⟩
  item := by
    intro X hP hw hK hc i pins s σ H E I hf st hg
    subst hP hw hK
    obtain ⟨hz, hTI, hTO, h1, h2, _⟩ := st
    obtain ⟨hi, hq⟩ := hg
    obtain ⟨its, rv, pl, _⟩ := I.list hq
    have hl := rv.length
    have hh : X.A.handled = none := I.ok.hd hc
    have W := WalksT.zipD2 (prog := X.prog) (w := X.w) (A := X.A) S (draws_rng (A := X.A.in1) hh i1 n) (Draws.list (A := X.A.in1) hh i2 b hb its.toArray)
    have hil : i < min n its.toArray.size := by rw [List.size_toArray, ← hl]; exact hi
    refine W.item i s _ E hil ⟨hz, hTI, hTO, h1, h2, pl.isList⟩ fun T vals h' tk hPt hT hTup hMid hk => ⟨_, rfl, ?_⟩
    obtain ⟨x1, x2, ⟨t1, rfl⟩, hx2, rfl⟩ := hPt
    refine W.go elts kk tpos i T { s with heap := h', toks := tk } _ _ hMid fun h'' st'' hk2 => ?_
    have hTw := W.apart i T h' hMid
    obtain ⟨hz3, hTI3, hTO3, h13, h23, _⟩ := st''
    obtain ⟨u, hu, ru⟩ : ∃ u, ys[i]? = some u ∧ RelV u x2 := by
      have hi2 : i < ys.length := by omega
      obtain ⟨u', hu', ru'⟩ := rv.get (List.getElem?_eq_getElem hi2)
      have : its[i]? = some x2 := by simpa using hx2
      rw [this] at hu'
      cases hu'
      exact ⟨_, List.getElem?_eq_getElem hi2, ru'⟩
    have old : ∀ c o, c ∉ [z, TI, TO, i1, i2] → s.heap.get? c = some o → h''.get? c = some o := fun c o hcn q =>
      hk2 c o (fun m => hcn (sub4 m)) (hk c o (fun m => hcn (sub4 m)) q)
    have hTup2 : h''.IsTuple T #[.int (i : Int) t1, x2] := hTup.at fun o q => hk2 T o hTw q
    have new : ObjOk X.prog X.w (upd H T (.tup [.int (i : Nat), u])) h'' T (.tup [.int (i : Nat), u]) :=
      ⟨by show 2 ≤ sizeLine; decide, [.int (i : Int) t1, x2], .cons ⟨t1, rfl⟩ (.cons ru .nil), hTup2⟩
    have I1 : Inv X pins σ (upd H T (.tup [.int (i : Nat), u])) { s with heap := h'', toks := tk } := I.turnedNew (t' := tk) (ch := [z, TI, TO, i1, i2]) old hf hT new
    refine ⟨.ref T, _, I1, rfl, ⟨T, u, rfl, I.hok.fresh hT, rfl, hu⟩, ⟨hz3, hTI3, hTO3, h13, h23, by omega⟩, fun c hcm => ?_⟩
    have hlt : c < s.heap.objs.size := by
      obtain ⟨a1, a2, hTO'⟩ := hTO
      have e' : c = z ∨ c = TI ∨ c = TO ∨ c = i1 ∨ c = i2 := by simpa using hcm
      rcases e' with q | q | q | q | q
      · rw [q]; exact Heap.lt_size hz
      · rw [q]; exact Heap.lt_size hTI
      · rw [q]; exact Heap.lt_size hTO'
      · rw [q]; exact Heap.lt_size h1
      · rw [q]; obtain ⟨_, e2, _⟩ := h2; exact Heap.lt_size e2
    rw [upd_ne (Nat.ne_of_lt (Nat.lt_of_lt_of_le hlt hT))]
    exact (hf c hcm).1
  done := by
    intro X hP hw hK hc i pins s σ H E I hf st hg
    subst hP hw hK
    obtain ⟨hz, hTI, hTO, h1, h2, hi⟩ := st
    obtain ⟨hge, hq⟩ := hg
    obtain ⟨its, rv, pl, _⟩ := I.list hq
    have hl := rv.length
    have hh : X.A.handled = none := I.ok.hd hc
    have W := WalksT.zipD2 (prog := X.prog) (w := X.w) (A := X.A) S (draws_rng (A := X.A.in1) hh i1 n) (Draws.list (A := X.A.in1) hh i2 b hb its.toArray)
    have e : i = min n its.toArray.size := by rw [List.size_toArray, ← hl]; omega
    refine W.done s _ E (by rw [← e]; exact ⟨hz, hTI, hTO, h1, h2, pl.isList⟩) fun h' tk hk => ⟨rfl, I.turnedL (t' := tk) (ch := [z, TI, TO, i1, i2]) (fun c o hcn q => hk c o (fun m => hcn (sub4 m)) q) hf⟩
  self := fun A i s Q E st h => wpAny_pyIter_zip st.1 h

def iZipRL (K : PySem.W.Frag) (tn ta : TE) : TI := fun σ H R => tn σ H fun x H1 => ∃ (n : Int), x = .int n ∧ 0 ≤ n ∧ n < 2 ^ 62 ∧ ta σ H1 fun y H2 => ∃ (b : Addr) (ys : List V), y = .ref b ∧ SqL K H2 b ys ∧ R ⟨fun i H => i < min n.toNat ys.length ∧ SqL K H b ys, fun i H v H' => ∃ T z, v = .ref T ∧ H T = none ∧ H' = upd H T (.tup [.int (i : Nat), z]) ∧ ys[i]? = some z, fun i H => min n.toNat ys.length ≤ i ∧ SqL K H b ys⟩ H2
section
variable {X : Cx} {n a b c : Expr} {tn ta : TE} {t : TA} {p q pos qpos tpos : Pos} {elts : List Expr} {kk : Nat}
theorem pi_zipRL (hc : X.calm = true) (hg : Gl X "zip") (hm : X.mg "zip" = none) (hg2 : Gl X "range") (hm2 : X.mg "range" = none) (hn : PE X n tn) (ha : PE X a ta)
    (hs : starEach [.Call (.Name "range" q) [n] [] qpos, a] X.env = (false, eval (.Call (.Name "range" q) [n] [] qpos) X.env) :: starEach [a] X.env := by rfl) (hpl : (backTo pos (starEach [a] X.env)).any (·.1) = false := by rfl)
    (hs1 : starEach [n] X.env = (false, eval n X.env) :: starEach [] X.env := by rfl) (hs2 : starEach [a] X.env = (false, eval a X.env) :: starEach [] X.env := by rfl) :
    PI X (.Tuple elts kk tpos) (.Call (.Name "zip" p) [.Call (.Name "range" q) [n] [] qpos, a] [] pos) (iZipRL X.K tn ta) := by
  refine ⟨fun pins s σ H R I h => ?_⟩
  refine Call_ (ld_blt I hg hm PyProof.Rows.boot_zip (PyProof.Rows.callWith_type1 ?_ hs hpl))
  rw [hs]
  show wpAny _ _ (spliced ((false, eval (.Call (.Name "range" q) [n] [] qpos) X.env) :: backTo pos (starEach [a] X.env))) _ _ s
  refine Calls.spliced_cons (Call_ (ld_blt I hg2 hm2 PyProof.Rows.boot_range (PyProof.Rows.callWith_type1 (thn ((pa_cons hn pa_nil hs1).run qpos pins s σ H (fun vs H1 => match vs with
    | [x] => ∃ (n : Int), x = V.int n ∧ 0 ≤ n ∧ n < 2 ^ 62 ∧ ta σ H1 fun y H2 => ∃ (b : Addr) (ys : List V), y = .ref b ∧ SqL X.K H2 b ys ∧ R (itRL X.K n.toNat b ys) H2
    | _ => False) I h) fun us s1 ⟨vs, H1, I1, r1, q1⟩ => ?_) hs1 rfl)))
  cases r1 with
  | nil => exact q1.elim
  | cons r rr =>
    cases rr with
    | cons r2 rr => exact q1.elim
    | nil =>
      obtain ⟨m, rfl, m0, m1, q1⟩ := q1
      obtain ⟨t0, rfl⟩ := r
      refine call_range_1 ?_
      obtain ⟨r, hr⟩ : ∃ r, r = s1.heap.objs.size := ⟨_, rfl⟩
      have I2 : Inv X ((s1.heap.objs.size, { cls := .type "range", data := .fields #[.int 0 s1.toks, .int m t0, .int 1 (s1.toks + 1)] }) :: pins) σ H1 { s1 with heap := s1.heap.push { cls := .type "range", data := .fields #[.int 0 s1.toks, .int m t0, .int 1 (s1.toks + 1)] }, toks := s1.toks + 1 + 1 } :=
        ClX.pin_new I1 (fun _ _ z => Heap.get?_push_of_some _ z) (Nat.le_refl _) (Heap.get?_push_size s1.heap rfl) (fun v z => nomatch z)
      rw [hs2]
      show wpAny _ _ (spliced ((false, eval a X.env) :: backTo pos (starEach [] X.env))) _ _ _
      refine Calls.spliced_cons (thn (ha.run _ _ σ H1 _ I2 q1) fun u s2 ⟨y, H2, I3, ry, b, ys, ey, hq, qR⟩ => Calls.spliced_nil ?_)
      subst ey
      obtain rfl : u = Value.ref b := ry
      have hrg := ClX.pin_at I3
      have I4 := ClX.unpin I3
      obtain ⟨its, rv, pl, _⟩ := I4.list hq
      have lb : b < s2.heap.objs.size := pl.lt
      refine zip_begins2 (begins_rng s1.heap.objs.size m s1.toks t0 (s1.toks + 1) m0 m1) (begins_list b its.toArray) hrg pl.isList fun h' hz hTI hTO g1 g2 hsz hk => wpAny_pyIter_zip hz ?_
      have I5 : Inv X pins σ H2 { s2 with heap := h' } := I4.kept (t' := s2.toks) hk
      have Sp : ZipSep2 (s2.heap.objs.size + 4) (s2.heap.objs.size + 2) (s2.heap.objs.size + 3) s2.heap.objs.size (s2.heap.objs.size + 1) [s2.heap.objs.size] [s2.heap.objs.size + 1, b] :=
        zip_sep2 (fp1 := []) (fp2 := [b]) (fun c hc => by cases hc) (fun c hc => by rw [List.mem_singleton.mp hc]; exact lb)
      refine ⟨s2.heap.objs.size + 4, [s2.heap.objs.size + 4, s2.heap.objs.size + 2, s2.heap.objs.size + 3, s2.heap.objs.size, s2.heap.objs.size + 1], _, _, H2, rfl, I5, turn_rl (n := m.toNat) (ys := ys) Sp (Nat.ne_of_lt (Nat.lt_succ_of_lt lb)), ⟨hz, hTI, ⟨_, _, hTO⟩, ?_, ⟨_, g2, rfl, rfl⟩, Nat.zero_le _⟩, fun c hcm => ?_, qR⟩
      · have e2 : ((m.toNat : Nat) : Int) - ((0 : Nat) : Int) = Builtin.Range.rangeSize 0 m 1 := by rw [rangeSize_one]; split <;> omega
        show IsRangeIter h' _ ((0 : Nat) : Int) _ 1
        rw [e2]
        exact g1
      · have hle : s2.heap.objs.size ≤ c := by
          have e' : c = s2.heap.objs.size + 4 ∨ c = s2.heap.objs.size + 2 ∨ c = s2.heap.objs.size + 3 ∨ c = s2.heap.objs.size ∨ c = s2.heap.objs.size + 1 := by simpa using hcm
          rcases e' with z | z | z | z | z
          · rw [z]; exact Nat.le_add_right _ _
          · rw [z]; exact Nat.le_add_right _ _
          · rw [z]; exact Nat.le_add_right _ _
          · rw [z]; exact Nat.le_refl _
          · rw [z]; exact Nat.le_add_right _ _
        exact I4.fpOk hle (I4.hok.fresh hle)
end

def it3 (K : PySem.W.Frag) (a b c : Addr) (xs ys zs : List V) : It :=
  ⟨fun i H => i < min (min xs.length ys.length) zs.length ∧ SqT K H a xs ∧ SqL K H b ys ∧ SqT K H c zs, fun i H v H' => ∃ T x y z, v = .ref T ∧ H T = none ∧ H' = upd H T (.tup [x, y, z]) ∧ xs[i]? = some x ∧ ys[i]? = some y ∧ zs[i]? = some z,
    fun i H => min (min xs.length ys.length) zs.length ≤ i ∧ SqT K H a xs ∧ SqL K H b ys ∧ SqT K H c zs⟩
theorem at_val {ys : List V} {its : List Value} {i : Nat} {v : Value} (rv : Vals ys its) (h : its.toArray[i]? = some v) : ∃ u, ys[i]? = some u ∧ RelV u v := by
  have h2 : its[i]? = some v := by simpa using h
  have hl := rv.length
  have hi : i < ys.length := by
    have := (List.getElem?_eq_some_iff.mp h2).1
    omega
  obtain ⟨u', hu', ru'⟩ := rv.get (List.getElem?_eq_getElem hi)
  rw [h2] at hu'
  cases hu'
  exact ⟨_, List.getElem?_eq_getElem hi, ru'⟩
theorem turn_3 {P : Program} {w : World} {K : PySem.W.Frag} {elts : List Expr} {kk : Nat} {tpos : Pos} {a b c z TI TO i1 i2 i3 : Addr} {xs ys zs : List V} (S : ZipSep3 z TI TO i1 i2 i3 [i1, a] [i2, b] [i3, c]) (ha : a ≠ i1) (hb : b ≠ i2) (hc3 : c ≠ i3) :
    Turn P w K (.Tuple elts kk tpos) (it3 K a b c xs ys zs) [z, TI, TO, i1, i2, i3] z (fun i h => IsZip h z TI TO .none ∧ IsTupOf3 h TI (.ref i1) (.ref i2) (.ref i3) ∧ (∃ a1 a2 a3, IsTupOf3 h TO a1 a2 a3) ∧ h.IsTupleIter i1 a i ∧ h.IsListIter i2 b i ∧ h.IsTupleIter i3 c i ∧ i ≤ min (min xs.length ys.length) zs.length) where
  mem := by simp
  obj := fun i h st c hc => by
    obtain ⟨hz, hTI, ⟨x, y, y2, hTO⟩, ⟨o1, e1, _, d1⟩, ⟨o2, e2, _, d2⟩, ⟨o3, e3, _, d3⟩, _⟩ := st
    have e' : c = z ∨ c = TI ∨ c = TO ∨ c = i1 ∨ c = i2 ∨ c = i3 := by simpa using hc
    rcases e' with q | q | q | q | q | q
    · rw [q]; exact ⟨_, hz, fun v q => nomatch q⟩
    · rw [q]; exact ⟨_, hTI, fun v q => nomatch q⟩
    · rw [q]; exact ⟨_, hTO, fun v q => nomatch q⟩
    · rw [q]; exact ⟨o1, e1, fun v q => by rw [d1] at q; cases q⟩
    · rw [q]; exact ⟨o2, e2, fun v q => by rw [d2] at q; cases q⟩
    · rw [q]; exact ⟨o3, e3, fun v q => by rw [d3] at q; cases q⟩
  keep := fun i h h' st k => by
    obtain ⟨hz, hTI, ⟨x, y, y2, hTO⟩, h1, h2, h3, hi⟩ := st
    exact ⟨k z (by simp) _ hz, k TI (by simp) _ hTI, ⟨x, y, y2, k TO (by simp) _ hTO⟩, h1.at fun o q => k i1 (by simp) o q, h2.at fun o q => k i2 (by simp) o q, h3.at fun o q => k i3 (by simp) o q, hi⟩
  item := by
    intro X hP hw hK hc i pins s σ H E I hf st hg
    subst hP hw hK
    obtain ⟨hz, hTI, hTO, h1, h2, h3, _⟩ := st
    obtain ⟨hi, hq1, hq2, hq3⟩ := hg
    obtain ⟨its1, rv1, pl1, _⟩ := I.tuple hq1
    obtain ⟨its2, rv2, pl2, _⟩ := I.list hq2
    obtain ⟨its3, rv3, pl3, _⟩ := I.tuple hq3
    have hl1 := rv1.length
    have hl2 := rv2.length
    have hl3 := rv3.length
    have hh : X.A.handled = none := I.ok.hd hc
    have W := WalksT.zipD3 (prog := X.prog) (w := X.w) (A := X.A) S (Draws.tuple (A := X.A.in1) hh i1 a ha its1.toArray) (Draws.list (A := X.A.in1) hh i2 b hb its2.toArray) (Draws.tuple (A := X.A.in1) hh i3 c hc3 its3.toArray)
    have hil : i < min (min its1.toArray.size its2.toArray.size) its3.toArray.size := by rw [List.size_toArray, List.size_toArray, List.size_toArray, ← hl1, ← hl2, ← hl3]; exact hi
    refine W.item i s _ E hil ⟨hz, hTI, hTO, ⟨h1, pl1⟩, ⟨h2, pl2.isList⟩, ⟨h3, pl3⟩⟩ fun T vals h' tk hPt hT hTup hMid hk => ⟨_, rfl, ?_⟩
    obtain ⟨x1, x2, x3, hx1, hx2, hx3, rfl⟩ := hPt
    refine W.go elts kk tpos i T { s with heap := h', toks := tk } _ _ hMid fun h'' st'' hk2 => ?_
    have hTw := W.apart i T h' hMid
    obtain ⟨hz3, hTI3, hTO3, ⟨h13, _⟩, ⟨h23, _⟩, ⟨h33, _⟩⟩ := st''
    obtain ⟨u1, hu1, ru1⟩ := at_val rv1 hx1
    obtain ⟨u2, hu2, ru2⟩ := at_val rv2 hx2
    obtain ⟨u3, hu3, ru3⟩ := at_val rv3 hx3
    have old : ∀ c o, c ∉ [z, TI, TO, i1, i2, i3] → s.heap.get? c = some o → h''.get? c = some o := fun c o hcn q =>
      hk2 c o (fun m => hcn (sub5 m)) (hk c o (fun m => hcn (sub5 m)) q)
    have hTup2 : h''.IsTuple T #[x1, x2, x3] := hTup.at fun o q => hk2 T o hTw q
    have new : ObjOk X.prog X.w (upd H T (.tup [u1, u2, u3])) h'' T (.tup [u1, u2, u3]) :=
      ⟨by show 3 ≤ sizeLine; decide, [x1, x2, x3], .cons ru1 (.cons ru2 (.cons ru3 .nil)), hTup2⟩
    have I1 : Inv X pins σ (upd H T (.tup [u1, u2, u3])) { s with heap := h'', toks := tk } := I.turnedNew (t' := tk) (ch := [z, TI, TO, i1, i2, i3]) old hf hT new
    refine ⟨.ref T, _, I1, rfl, ⟨T, u1, u2, u3, rfl, I.hok.fresh hT, rfl, hu1, hu2, hu3⟩, ⟨hz3, hTI3, hTO3, h13, h23, h33, by omega⟩, fun c hcm => ?_⟩
    have hlt : c < s.heap.objs.size := by
      obtain ⟨a1, a2, a3, hTO'⟩ := hTO
      have e' : c = z ∨ c = TI ∨ c = TO ∨ c = i1 ∨ c = i2 ∨ c = i3 := by simpa using hcm
      rcases e' with q | q | q | q | q | q
      · rw [q]; exact Heap.lt_size hz
      · rw [q]; exact Heap.lt_size hTI
      · rw [q]; exact Heap.lt_size hTO'
      · rw [q]; obtain ⟨_, e2, _⟩ := h1; exact Heap.lt_size e2
      · rw [q]; obtain ⟨_, e2, _⟩ := h2; exact Heap.lt_size e2
      · rw [q]; obtain ⟨_, e2, _⟩ := h3; exact Heap.lt_size e2
    rw [upd_ne (Nat.ne_of_lt (Nat.lt_of_lt_of_le hlt hT))]
    exact (hf c hcm).1
  done := by
    intro X hP hw hK hc i pins s σ H E I hf st hg
    subst hP hw hK
    obtain ⟨hz, hTI, hTO, h1, h2, h3, hi⟩ := st
    obtain ⟨hge, hq1, hq2, hq3⟩ := hg
    obtain ⟨its1, rv1, pl1, _⟩ := I.tuple hq1
    obtain ⟨its2, rv2, pl2, _⟩ := I.list hq2
    obtain ⟨its3, rv3, pl3, _⟩ := I.tuple hq3
    have hl1 := rv1.length
    have hl2 := rv2.length
    have hl3 := rv3.length
    have hh : X.A.handled = none := I.ok.hd hc
    have W := WalksT.zipD3 (prog := X.prog) (w := X.w) (A := X.A) S (Draws.tuple (A := X.A.in1) hh i1 a ha its1.toArray) (Draws.list (A := X.A.in1) hh i2 b hb its2.toArray) (Draws.tuple (A := X.A.in1) hh i3 c hc3 its3.toArray)
    have e : i = min (min its1.toArray.size its2.toArray.size) its3.toArray.size := by
      have h5 : i = min (min xs.length ys.length) zs.length := Nat.le_antisymm hi hge
      rw [List.size_toArray, List.size_toArray, List.size_toArray, ← hl1, ← hl2, ← hl3]; exact h5
    refine W.done s _ E (by rw [← e]; exact ⟨hz, hTI, hTO, ⟨h1, pl1⟩, ⟨h2, pl2.isList⟩, ⟨h3, pl3⟩⟩) fun h' tk hk => ⟨rfl, I.turnedL (t' := tk) (ch := [z, TI, TO, i1, i2, i3]) (fun c o hcn q => hk c o (fun m => hcn (sub5 m)) q) hf⟩
  self := fun A i s Q E st h => wpAny_pyIter_zip st.1 h
def iZip3 (K : PySem.W.Frag) (ta : TA) : TI := fun σ H R => ta σ H fun vs H1 => ∃ (a b c : Addr) (xs ys zs : List V), vs = [.ref a, .ref b, .ref c] ∧ SqT K H1 a xs ∧ SqL K H1 b ys ∧ SqT K H1 c zs ∧
  R ⟨fun i H => i < min (min xs.length ys.length) zs.length ∧ SqT K H a xs ∧ SqL K H b ys ∧ SqT K H c zs, fun i H v H' => ∃ T x y z, v = .ref T ∧ H T = none ∧ H' = upd H T (.tup [x, y, z]) ∧ xs[i]? = some x ∧ ys[i]? = some y ∧ zs[i]? = some z,
    fun i H => min (min xs.length ys.length) zs.length ≤ i ∧ SqT K H a xs ∧ SqL K H b ys ∧ SqT K H c zs⟩ H1
theorem pi_zip3 {X : Cx} {a b c : Expr} {t : TA} {p pos tpos : Pos} {elts : List Expr} {kk : Nat} (hc : X.calm = true) (hg : Gl X "zip") (hm : X.mg "zip" = none) (ha : PA X [a, b, c] t)
    (hs : starEach [a, b, c] X.env = (false, eval a X.env) :: starEach [b, c] X.env := by rfl) (hpl : (backTo pos (starEach [b, c] X.env)).any (·.1) = false := by rfl) :
    PI X (.Tuple elts kk tpos) (.Call (.Name "zip" p) [a, b, c] [] pos) (iZip3 X.K t) := by
  refine ⟨fun pins s σ H R I h => ?_⟩
  refine Call_ (ld_blt I hg hm PyProof.Rows.boot_zip (PyProof.Rows.callWith_type1 (thn (ha.run pos pins s σ H _ I h) fun us s2 ⟨vs, H2, I4, r1, q1⟩ => ?_) hs hpl))
  obtain ⟨a, b, c, xs, ys, zs, rfl, hq1, hq2, hq3, qR⟩ := q1
  cases r1 with
  | cons r r1 =>
    cases r1 with
    | cons r' r1 =>
      cases r1 with
      | cons r'' r1 =>
        cases r1
        cases r
        cases r'
        cases r''
        obtain ⟨its1, rv1, pl1, _⟩ := I4.tuple hq1
        obtain ⟨its2, rv2, pl2, _⟩ := I4.list hq2
        obtain ⟨its3, rv3, pl3, _⟩ := I4.tuple hq3
        have la : a < s2.heap.objs.size := by obtain ⟨o, ho, _⟩ := id pl1; exact Heap.lt_size ho
        have lb : b < s2.heap.objs.size := pl2.lt
        have lc : c < s2.heap.objs.size := by obtain ⟨o, ho, _⟩ := id pl3; exact Heap.lt_size ho
        refine zip_begins3 (begins_tuple a its1.toArray) (begins_list b its2.toArray) (begins_tuple c its3.toArray) pl1 pl2.isList pl3 fun h' hz hTI hTO g1 g2 g3 hsz hk => wpAny_pyIter_zip hz ?_
        have I5 : Inv X pins σ H2 { s2 with heap := h' } := I4.kept (t' := s2.toks) hk
        have Sp : ZipSep3 (s2.heap.objs.size + 5) (s2.heap.objs.size + 3) (s2.heap.objs.size + 4) s2.heap.objs.size (s2.heap.objs.size + 1) (s2.heap.objs.size + 2) [s2.heap.objs.size, a] [s2.heap.objs.size + 1, b] [s2.heap.objs.size + 2, c] :=
          zip_sep3 (fp1 := [a]) (fp2 := [b]) (fp3 := [c]) (fun x hx => by rw [List.mem_singleton.mp hx]; exact la) (fun x hx => by rw [List.mem_singleton.mp hx]; exact lb) (fun x hx => by rw [List.mem_singleton.mp hx]; exact lc)
        refine ⟨s2.heap.objs.size + 5, [s2.heap.objs.size + 5, s2.heap.objs.size + 3, s2.heap.objs.size + 4, s2.heap.objs.size, s2.heap.objs.size + 1, s2.heap.objs.size + 2], _, _, H2, rfl, I5, turn_3 (xs := xs) (ys := ys) (zs := zs) Sp (Nat.ne_of_lt la) (Nat.ne_of_lt (Nat.lt_succ_of_lt lb)) (Nat.ne_of_lt (Nat.lt_succ_of_lt (Nat.lt_succ_of_lt lc))),
          ⟨hz, hTI, ⟨_, _, _, hTO⟩, ⟨_, g1, rfl, rfl⟩, ⟨_, g2, rfl, rfl⟩, ⟨_, g3, rfl, rfl⟩, Nat.zero_le _⟩, fun c hcm => ?_, qR⟩
        have hle : s2.heap.objs.size ≤ c := by
          have e' : c = s2.heap.objs.size + 5 ∨ c = s2.heap.objs.size + 3 ∨ c = s2.heap.objs.size + 4 ∨ c = s2.heap.objs.size ∨ c = s2.heap.objs.size + 1 ∨ c = s2.heap.objs.size + 2 := by simpa using hcm
          rcases e' with z | z | z | z | z | z
          · rw [z]; exact Nat.le_add_right _ _
          · rw [z]; exact Nat.le_add_right _ _
          · rw [z]; exact Nat.le_add_right _ _
          · rw [z]; exact Nat.le_refl _
          · rw [z]; exact Nat.le_add_right _ _
          · rw [z]; exact Nat.le_add_right _ _
        exact I4.fpOk hle (I4.hok.fresh hle)
/-- a flight outlives a heap that grows -/
theorem fly_grow {B h h' : Heap} {l : List Env} {e : Addr} {Z : Obj → Prop} (R : HandSPX.FlyingZ B l e Z h) (k : ∀ b o, h.get? b = some o → h'.get? b = some o) : HandSPX.FlyingZ B l e Z h' := by
  obtain ⟨g1, g2, g3, oe, vs, T, oT, ts, q1, q2, q3, q4, q5, q6, q7, q8, q9⟩ := R
  exact ⟨fun b o q => k b o (g1 b o q), g2, g3.of_keeps fun b o q _ => ⟨o, k b o q, rfl⟩, oe, vs, T, oT, ts, k _ _ q1, q2, q3, q4, q5, q6, k _ _ q7, q8, q9⟩
/-- what a clause over two classes wishes of an exception of the body: it is one of them -/
def wTwo (K : PySem.W.Frag) (c1 c2 : Value) (ts : Addr → Value → Option Addr → TS) (D : Ends) : WX := fun cls d σ H =>
  PySem.W.exmAny K cls [c1, c2] = some true ∧ ∀ a, H a = none → ts a cls d D σ H
section
variable {X : Cx} {x1 x2 : Str} {c1 c2 : Value} {body suite : List Stmt} {b₀ : Stmt} {np1 np2 tpos pos pos' : Pos} {kk : Nat} {tb : WX → TS} {ts : Addr → Value → Option Addr → TS}
/-- a class by its name, in a handler -/
theorem name_ev {pins : List (Addr × Obj)} {σ : L2.St} {H : Hp} {s : Shared} {x : Str} {c : Value} {np : Pos} {Q : Value → Shared → Prop} {a : Addr} {oe : Obj} {l : List (Addr × Obj)} {E : Value → Shared → Prop} (I : Inv (X.suite a l) pins σ H s) (hc : Names X x c) (q : Q c s) :
    wpAny (model X.prog X.w) (X.A.mark (some (.ref a))) (eval (.Name x np) X.env) Q E s := by
  obtain ⟨hg, hd, hm | ⟨hm, hv, hn⟩⟩ := hc
  · exact ld_glob (X := X.suite a l) I hg hm q hd
  · exact ld_blt (X := X.suite a l) I hg hm hv q hn hd
theorem ps_try_two (hs : X.stack = X.env :: X.outer) (hf : X.env.frame = some X.env.locals) (n1 : Names X x1 c1) (n2 : Names X x2 c2)
    (hb : ∀ (W : WX) (pn : List (Addr × Obj)) (xe : Value → Shared → Prop), Takes (X.tr pn xe) W → PassesOwn (model X.prog X.w) X.A X.env xe → PSs (X.tr pn xe) body (tb W))
    (hsu : ∀ (a : Addr) (oe : Obj) (cls : Value) (d : Option Addr) (pn : List (Addr × Obj)), Zc cls d oe → (∃ vs, oe.data = .fields vs) → PSs (X.suite a ((a, oe) :: pn)) (b₀ :: suite) (ts a cls d))
    (hst : starEach [.Name x1 np1, .Name x2 np2] X.env = (false, eval (.Name x1 np1) X.env) :: starEach [.Name x2 np2] X.env := by rfl) (hst2 : starEach [.Name x2 np2] X.env = (false, eval (.Name x2 np2) X.env) :: starEach [] X.env := by rfl) :
    PS X (.Try body [.ExceptHandler (some (.Tuple [.Name x1 np1, .Name x2 np2] kk tpos)) none (b₀ :: suite) pos'] [] [] pos) (fun D σ H => tb (wTwo X.K c1 c2 ts D) D σ H) := by
  refine ⟨fun pins s σ H D I h => ?_⟩
  have ok := I.ok
  have frs0 : X.A.frames = some (X.env :: X.outer) := by rw [ok.frames, hs]
  refine wpAny_Try_except (wpAny_mono ((hb (wTwo X.K c1 c2 ts D) (X.pn ++ pins) (fun u t => wpAny (model X.prog X.w) X.A (noteFrame u X.env) (fun _ t2 => wpAny (model X.prog X.w) X.A (setFlight u none) (fun _ t3 => wpAny (model X.prog X.w) X.A (handleBy u X.env [.ExceptHandler (some (.Tuple [.Name x1 np1, .Name x2 np2] kk tpos)) none (b₀ :: suite) pos']) (SP X pins D) X.xe t3) X.xe t2) X.xe t) (fun u s' xx => ?_) PassesOwn.looking).run [] s σ H D (I.toTry _) h) (fun f s1 hsp => ?_) (fun e s1 he => he))
  · obtain ⟨a, B, sI, pins', σ', H', cls, d, rfl, J', nb, up, sky, na, os, ag, hex, w⟩ := xx
    have J : Inv X pins σ' H' sI := J'.ofTry ok
    rw [hs] at sky
    show wpAny (model X.prog X.w) X.A (noteFrame (.ref a) X.env) _ _ _
    refine Sky.land Zc.steady frs0 hf sky fun h3 fl3 up3 => ?_
    obtain ⟨oe3, vs3, he3, hz3, hd3⟩ := fl3.there
    have notIn : a ∉ frs (X.env :: X.outer) := fun hm => by
      obtain ⟨_, o', e', hn⟩ := fl3.2.2.1.mem hm
      rw [he3] at e'
      cases e'
      exact hn _ hd3
    have nL : a ≠ X.env.locals := fun z => notIn (List.mem_filterMap.mpr ⟨X.env, List.mem_cons_self, by rw [hf, z]⟩)
    have nF : a ∉ X.fs := fun hm => by
      obtain ⟨e, he, q⟩ := List.mem_filterMap.mp hm
      exact notIn (List.mem_filterMap.mpr ⟨e, List.mem_cons_of_mem _ he, q⟩)
    have J3 : Inv X pins σ' H' { s' with heap := h3 } := J.landed nb fl3.1 (up.trans up3) os ag
    have S3 := J3.suite he3 hd3 na nL nF
    refine wpAny_handleBy_cons (codeAny_handlers_test ?_) (by intro q; cases q)
    refine wpAny_Tuple (wpAny_items_cons (name_ev (oe := oe3) S3 n1 (wpAny_items_cons (name_ev (oe := oe3) S3 n2 (wpAny_items_nil ⟨by size_fits, ?_⟩)) hst2)) hst)
    have kp : ∀ q o, h3.get? q = some o → (h3.push { cls := .type "tuple", data := .seq [c1, c2].toArray }).get? q = some o := fun _ _ z => Heap.get?_push_of_some _ z
    have LT : PySem.W.Looks (model X.prog X.w) h3 (typeOf (.ref a)) cls := fun A Q E s k q => wpAny_typeOf_ref (k _ _ he3) (by rw [hz3.1]; exact q)
    refine (PySem.W.exm_tup2 (J3.kIn.keeps kp) (LT.keeps kp) (Heap.get?_push_size h3 rfl) hex).here (codeAny_handlers_suite ?_)
    have fl3' := fly_grow fl3 kp
    have up3' : s'.heap.UpToSlots (h3.push { cls := .type "tuple", data := .seq [c1, c2].toArray }) := up3.trans (Heap.UpToSlots.of_keeps kp)
    refine HandSPX.lands_againZ fl3' fun h4 fl4 up4 => ?_
    have J4 : Inv X pins σ' H' { s' with heap := h4 } := J.landed nb fl4.1 ((up.trans up3').trans up4) os ag
    obtain ⟨oe4, vs4, he4, hz4, hd4⟩ := fl4.there
    have S4 := J4.suite he4 hd4 na nL nF
    refine wpAny_mono ((hsu a oe4 cls d (X.pn ++ pins) hz4 ⟨_, hd4⟩).run [] _ _ H' _ S4 (w a na)) (fun f s6 hsp => ?_) (fun _ _ z => False.elim z)
    rcases f with _ | _ | _ | u
    · exact let ⟨σ6, H6, S6, q6⟩ := hsp; ⟨_, _, S6.unsuite ok, q6⟩
    · exact let ⟨σ6, H6, S6, q6⟩ := hsp; ⟨_, _, S6.unsuite ok, q6⟩
    · exact let ⟨σ6, H6, S6, q6⟩ := hsp; ⟨_, _, S6.unsuite ok, q6⟩
    · exact let ⟨v6, σ6, H6, S6, r6, q6⟩ := hsp; ⟨_, _, _, S6.unsuite ok, r6, q6⟩
  · rcases f with _ | _ | _ | u
    · exact let ⟨σ6, H6, S6, q6⟩ := hsp; wpAny_execs_nil ⟨σ6, H6, S6.ofTry ok, q6⟩
    · exact let ⟨σ6, H6, S6, q6⟩ := hsp; ⟨σ6, H6, S6.ofTry ok, q6⟩
    · exact let ⟨σ6, H6, S6, q6⟩ := hsp; ⟨σ6, H6, S6.ofTry ok, q6⟩
    · exact let ⟨v6, σ6, H6, S6, r6, q6⟩ := hsp; ⟨v6, σ6, H6, S6.ofTry ok, r6, q6⟩
end
/-! two lists of the same texts -/
def qNeSS (K : PySem.W.Frag) : R2 := fun x y H Q => ∃ (a b : Addr) (l : List Str), x = .ref a ∧ y = .ref b ∧ SqL K H a (l.map V.str) ∧ SqL K H b (l.map V.str) ∧ Q (.bl false) H
theorem op_neSS {X : Cx} (hu : X.A.units + 64 < cLine) : OpR X (compareOp .NotEq) (qNeSS X.K) := by
  intro pins s σ H x y v u Q I rx ry h
  obtain ⟨a, b, l, rfl, rfl, ha, hb, q⟩ := h
  obtain rfl : v = Value.ref a := rx
  obtain rfl : u = Value.ref b := ry
  obtain ⟨is, r1, p1, _⟩ := I.list ha
  obtain ⟨js, r2, p2, _⟩ := I.list hb
  have h1 := r1.length
  have h2 := r2.length
  rw [List.length_map] at h1 h2
  have q' : Q (.bl (!(List.range is.toArray.size).all fun _ => true)) H := by
    have e : (List.range is.toArray.size).all (fun _ => true) = true := List.all_eq_true.mpr fun _ _ => rfl
    rw [e]
    exact q
  refine PySem.SeqAt.RcNeAt.lists (e := fun _ => true) p1.isList p2.isList (by rw [List.size_toArray, List.size_toArray, ← h1, ← h2]) (by omega) (fun j j1 j2 => ?_) _ _ _ _ ⟨.bl _, H, I, rfl, q'⟩
  rw [List.size_toArray] at j1 j2
  have hj : j < l.length := by omega
  have e0 : (l.map V.str)[j]? = some (V.str l[j]) := by rw [List.getElem?_map, List.getElem?_eq_getElem hj] <;> rfl
  obtain ⟨a', ha', ra'⟩ := r1.get e0
  obtain ⟨b', hb', rb'⟩ := r2.get e0
  obtain ⟨ta, rfl⟩ := ra'
  obtain ⟨tb, rfl⟩ := rb'
  have ea : is.toArray[j] = Value.str l[j] ta := by
    have := (List.getElem?_eq_some_iff.mp ha').2
    simpa using this
  have eb : js.toArray[j] = Value.str l[j] tb := by
    have := (List.getElem?_eq_some_iff.mp hb').2
    simpa using this
  rw [ea, eb]
  have := PySem.SeqAt.EqAt.str_str (A := X.A.in1) (s := s) l[j] ta l[j] tb
  rwa [beq_self_eq_true] at this

end BG
set_option maxHeartbeats 4000000
namespace BG
open PySem L2

inductive Kd where
  | leaf | row | col | wrap | table
  deriving DecidableEq
def Kd.s : Kd → Str
  | .leaf => "leaf"
  | .row => "row"
  | .col => "column"
  | .wrap => "wrap"
  | .table => "table"
structure Bx where
  kd : Kd
  nm : Str
  own : Int
  grp : Int
  gap : Int
  cols : Nat
  spans : List (Nat × Nat)
inductive Tr where
  | mk (b : Bx) (ps : List Tr)
def Tr.b : Tr → Bx
  | .mk b _ => b
def Tr.ps : Tr → List Tr
  | .mk _ ps => ps
abbrev Tr.nm (t : Tr) : Str := t.b.nm
theorem Tr.eta (t : Tr) : Tr.mk t.b t.ps = t := by cases t; rfl
mutual
def Tr.boxes : Tr → List Tr
  | .mk b ps => .mk b ps :: boxesL ps
def boxesL : List Tr → List Tr
  | [] => []
  | t :: r => t.boxes ++ boxesL r
end
mutual
def Tr.deep : Tr → Nat
  | .mk _ ps => deepL ps + 1
def deepL : List Tr → Nat
  | [] => 0
  | t :: r => max t.deep (deepL r)
end
theorem boxes_eq (t : Tr) : t.boxes = t :: boxesL t.ps := by cases t; simp [Tr.boxes, Tr.ps]
theorem mem_boxesL {x : Tr} : ∀ {l : List Tr}, x ∈ boxesL l ↔ ∃ p ∈ l, x ∈ p.boxes
  | [] => by simp [boxesL]
  | t :: r => by
    rw [boxesL, List.mem_append, mem_boxesL (l := r)]
    simp
theorem self_mem (t : Tr) : t ∈ t.boxes := by rw [boxes_eq]; exact List.mem_cons_self
theorem deepL_le {p : Tr} : ∀ {l : List Tr}, p ∈ l → p.deep ≤ deepL l
  | t :: r, h => by
    rw [deepL]
    rcases List.mem_cons.mp h with e | h
    · subst e; exact Nat.le_max_left _ _
    · exact Nat.le_trans (deepL_le h) (Nat.le_max_right _ _)
theorem deep_eq (t : Tr) : t.deep = deepL t.ps + 1 := by cases t; simp [Tr.deep, Tr.ps]
theorem deep_part {t p : Tr} (h : p ∈ t.ps) : p.deep < t.deep := by rw [deep_eq t]; have := deepL_le h; omega
/-- induction over trees -/
theorem Tr.ind {Pr : Tr → Prop} (h : ∀ t, (∀ p ∈ t.ps, Pr p) → Pr t) (t : Tr) : Pr t := by
  suffices H : ∀ n t, t.deep = n → Pr t from H _ t rfl
  intro n
  induction n using Nat.strongRecOn with
  | ind n ih => exact fun t e => h t fun p hp => ih p.deep (by rw [← e]; exact deep_part hp) p rfl
theorem parts_in {t x p : Tr} : x ∈ t.boxes → p ∈ x.ps → p ∈ t.boxes := by
  induction t using Tr.ind with
  | h t ih =>
    intro hx hp
    rw [boxes_eq] at hx ⊢
    rcases List.mem_cons.mp hx with e | hx
    · subst e
      exact List.mem_cons_of_mem _ (mem_boxesL.mpr ⟨p, hp, self_mem p⟩)
    · obtain ⟨q, hq, hx⟩ := mem_boxesL.mp hx
      exact List.mem_cons_of_mem _ (mem_boxesL.mpr ⟨q, hq, ih q hq hx hp⟩)
theorem boxes_trans {t x y : Tr} : x ∈ t.boxes → y ∈ x.boxes → y ∈ t.boxes := by
  intro hx
  induction x using Tr.ind generalizing y with
  | h x ih =>
    intro hy
    rw [boxes_eq] at hy
    rcases List.mem_cons.mp hy with e | hy
    · subst e; exact hx
    · obtain ⟨q, hq, hy⟩ := mem_boxesL.mp hy
      exact ih q hq (parts_in hx hq) hy

/-! ### places of a table's parts -/
def openB (taken : List (Int × Int)) (row col : Int) (sp : Nat × Nat) : Bool := (List.range sp.2).all fun i => (List.range sp.1).all fun j => !decide ((row + (i : Nat), col + (j : Nat)) ∈ taken)
def goodAt (cols : Nat) (taken : List (Int × Int)) (sp : Nat × Nat) (a : Nat) : Bool := decide (a % cols + sp.1 ≤ cols) && openB taken ((a / cols : Nat) : Int) ((a % cols : Nat) : Int) sp
def searchFrom (p : Nat → Bool) : Nat → Nat → Nat
  | 0, a => a
  | f + 1, a => if p a = true then a else searchFrom p f (a + 1)
def topRow : List (Int × Int) → Nat
  | [] => 0
  | c :: r => max (c.1.toNat + 1) (topRow r)
def placeOf (cols : Nat) (taken : List (Int × Int)) (sp : Nat × Nat) : Nat := searchFrom (goodAt cols taken sp) (topRow taken * cols) 0
def cellsAt (row col : Int) (sp : Nat × Nat) : List (Int × Int) := (List.range (sp.1 * sp.2)).map fun k => (row + ((k / sp.1 : Nat) : Int), col + ((k % sp.1 : Nat) : Int))
def putStep (cols : Nat) (s : List (Int × Int) × List (Nat × Nat)) (sp : Nat × Nat) : List (Int × Int) × List (Nat × Nat) :=
  (s.1 ++ cellsAt ((placeOf cols s.1 sp / cols : Nat) : Int) ((placeOf cols s.1 sp % cols : Nat) : Int) sp, s.2 ++ [(placeOf cols s.1 sp / cols, placeOf cols s.1 sp % cols)])
def putAll2 (cols : Nat) (spans : List (Nat × Nat)) : List (Int × Int) × List (Nat × Nat) := spans.foldl (putStep cols) ([], [])
def putCells (cols : Nat) (spans : List (Nat × Nat)) : List (Nat × Nat) := (putAll2 cols spans).2

theorem search_spec {p : Nat → Bool} : ∀ {f a : Nat}, p (a + f) = true → p (searchFrom p f a) = true ∧ a ≤ searchFrom p f a ∧ searchFrom p f a ≤ a + f ∧ ∀ m, a ≤ m → m < searchFrom p f a → p m = false
  | 0, a, h => ⟨h, Nat.le_refl _, Nat.le_refl _, fun m h1 h2 => absurd (Nat.lt_of_le_of_lt h1 h2) (Nat.lt_irrefl _)⟩
  | f + 1, a, h => by
    unfold searchFrom
    by_cases e : p a = true
    · rw [if_pos e]
      exact ⟨e, Nat.le_refl _, by omega, fun m h1 h2 => absurd (Nat.lt_of_le_of_lt h1 h2) (Nat.lt_irrefl _)⟩
    · rw [if_neg e]
      obtain ⟨h1, h2, h3, h4⟩ := search_spec (p := p) (f := f) (a := a + 1) (by rw [show a + 1 + f = a + (f + 1) by omega]; exact h)
      refine ⟨h1, by omega, by omega, fun m m1 m2 => ?_⟩
      by_cases em : m = a
      · subst em
        simpa using e
      · exact h4 m (by omega) m2
theorem topRow_lt {taken : List (Int × Int)} {c : Int × Int} : c ∈ taken → c.1 < (topRow taken : Int) := by
  induction taken with
  | nil => intro h; cases h
  | cons d r ih =>
    intro h
    rw [topRow]
    rcases List.mem_cons.mp h with e | h
    · subst e; omega
    · have := ih h; omega
theorem good_last {cols : Nat} {taken : List (Int × Int)} {sp : Nat × Nat} (hc : 1 ≤ cols) (hs : sp.1 ≤ cols) : goodAt cols taken sp (0 + topRow taken * cols) = true := by
  unfold goodAt
  rw [Nat.zero_add, Nat.mul_mod_left, Nat.mul_div_cancel _ (by omega), Nat.zero_add, decide_eq_true hs, Bool.true_and]
  unfold openB
  refine List.all_eq_true.mpr fun i hi => List.all_eq_true.mpr fun j hj => ?_
  have q : ¬ (((topRow taken : Nat) : Int) + (i : Nat), ((0 : Nat) : Int) + (j : Nat)) ∈ taken := fun m => by
    have := topRow_lt m
    simp only at this
    omega
  rw [decide_eq_false q] <;> rfl
theorem place_spec {cols : Nat} (taken : List (Int × Int)) {sp : Nat × Nat} (hc : 1 ≤ cols) (hs : sp.1 ≤ cols) :
    goodAt cols taken sp (placeOf cols taken sp) = true ∧ placeOf cols taken sp ≤ topRow taken * cols ∧ ∀ m, m < placeOf cols taken sp → goodAt cols taken sp m = false := by
  obtain ⟨h1, _, h3, h4⟩ := search_spec (p := goodAt cols taken sp) (f := topRow taken * cols) (a := 0) (good_last hc hs)
  exact ⟨h1, by unfold placeOf; omega, fun m hm => h4 m (Nat.zero_le _) hm⟩
theorem place_fits {cols : Nat} (taken : List (Int × Int)) {sp : Nat × Nat} (hc : 1 ≤ cols) (hs : sp.1 ≤ cols) : placeOf cols taken sp % cols + sp.1 ≤ cols := by
  have h := (place_spec taken hc hs).1
  unfold goodAt at h
  exact of_decide_eq_true (Bool.and_eq_true_iff.mp h).1
/-- each place fits its span -/
theorem put_fits {cols : Nat} (hc : 1 ≤ cols) : ∀ (spans : List (Nat × Nat)) (s : List (Int × Int) × List (Nat × Nat)) (sp0 : List (Nat × Nat)), (∀ x ∈ spans, x.1 ≤ cols) → s.2.length = sp0.length → (∀ q ∈ s.2.zip sp0, q.1.2 + q.2.1 ≤ cols) →
    (spans.foldl (putStep cols) s).2.length = (sp0 ++ spans).length ∧ ∀ q ∈ (spans.foldl (putStep cols) s).2.zip (sp0 ++ spans), q.1.2 + q.2.1 ≤ cols
  | [], s, sp0, _, hl, h => by
    rw [List.foldl_nil, List.append_nil]
    exact ⟨hl, h⟩
  | x :: r, s, sp0, hx, hl, h => by
    have e : sp0 ++ x :: r = (sp0 ++ [x]) ++ r := by simp
    rw [e, List.foldl_cons]
    refine put_fits hc r (putStep cols s x) (sp0 ++ [x]) (fun y hy => hx y (List.mem_cons_of_mem _ hy)) (by simp [putStep, hl]) fun q hq => ?_
    unfold putStep at hq
    rw [List.zip_append hl] at hq
    rcases List.mem_append.mp hq with hq | hq
    · exact h q hq
    · simp only [List.zip_cons_cons, List.zip_nil_right, List.mem_singleton] at hq
      subst hq
      exact place_fits s.1 hc (hx x List.mem_cons_self)
theorem cells_fit {cols : Nat} {spans : List (Nat × Nat)} (hc : 1 ≤ cols) (hx : ∀ x ∈ spans, x.1 ≤ cols) : (putCells cols spans).length = spans.length ∧ ∀ q ∈ (putCells cols spans).zip spans, q.1.2 + q.2.1 ≤ cols := by
  have h := put_fits hc spans ([], []) [] hx rfl (by simp)
  simpa [putCells, putAll2] using h

/-! ### columns raised -/
structure Ask where
  nm : Str
  fi : Nat
  sp : Nat
  am : Int
def pmax (i j : Int) : Int := if j > i then j else i
theorem pmax_eq (i j : Int) : pmax i j = max i j := by unfold pmax; split <;> omega
def aloneR (floor : List Int) (asks : List Ask) : List Int := asks.foldl (fun ns a => if a.sp = 1 then ns.set a.fi (pmax (ns.getD a.fi 0) a.am) else ns) floor
def askRow (a : Ask) : List Key := [.inl (a.sp : Int), .inr a.nm, .inl (a.fi : Int), .inl a.am]
def rowAsk : List Key → Ask
  | [.inl sp, .inr nm, .inl fi, .inl am] => ⟨nm, fi.toNat, sp.toNat, am⟩
  | _ => ⟨Str.empty, 0, 0, 0⟩
theorem rowAsk_row (a : Ask) : rowAsk (askRow a) = a := by cases a; simp [askRow, rowAsk]
/-- not above -/
def leK (u v : List Key) : Prop := lexK v u = false
/-- the rows in order -/
noncomputable def sortK (l : List (List Key)) : List (List Key) := Classical.epsilon fun ys => ys.Perm l ∧ ys.Pairwise leK
theorem lexK_anti : ∀ {u v : List Key}, shapeK u = shapeK v → lexK u v = false → lexK v u = false → u = v
  | [], [], _, _, _ => rfl
  | [], _ :: _, h, _, _ => by simp [shapeK] at h
  | _ :: _, [], h, _, _ => by simp [shapeK] at h
  | .inl i :: r, .inl j :: q, h, h1, h2 => by
    unfold lexK at h1 h2
    have hs : shapeK r = shapeK q := by simpa [shapeK] using h
    by_cases e : i = j
    · subst e
      rw [if_pos rfl] at h1 h2
      rw [lexK_anti hs h1 h2]
    · rw [if_neg e] at h1
      rw [if_neg (fun z => e z.symm)] at h2
      have := of_decide_eq_false h1
      have := of_decide_eq_false h2
      omega
  | .inr x :: r, .inr y :: q, h, h1, h2 => by
    unfold lexK at h1 h2
    have hs : shapeK r = shapeK q := by simpa [shapeK] using h
    by_cases e : x = y
    · subst e
      rw [if_pos rfl] at h1 h2
      rw [lexK_anti hs h1 h2]
    · rw [if_neg e] at h1
      rw [if_neg (fun z => e z.symm)] at h2
      have a1 := of_decide_eq_false h1
      have a2 := of_decide_eq_false h2
      have a3 : x.cps.toList = y.cps.toList := List.le_antisymm (List.not_lt.mp a2) (List.not_lt.mp a1)
      exact absurd (by cases x; cases y; simp at a3; rw [a3]) e
  | .inl _ :: _, .inr _ :: _, h, _, _ => by simp [shapeK] at h
  | .inr _ :: _, .inl _ :: _, h, _, _ => by simp [shapeK] at h
theorem perm_sorted {α : Type} {R : α → α → Prop} : ∀ {l m : List α}, l.Perm m → (∀ a b, a ∈ l → b ∈ l → R a b → R b a → a = b) → l.Pairwise R → m.Pairwise R → l = m
  | [], m, p, _, _, _ => by rw [List.nil_perm.mp p]
  | a :: r, [], p, _, _, _ => by simpa using p.length_eq
  | a :: r, b :: q, p, anti, h1, h2 => by
    have e : a = b := by
      have ha : a ∈ b :: q := p.mem_iff.mp List.mem_cons_self
      have hb : b ∈ a :: r := p.mem_iff.mpr List.mem_cons_self
      rcases List.mem_cons.mp ha with e | ha
      · exact e
      · rcases List.mem_cons.mp hb with e | hb'
        · exact e.symm
        · exact anti a b List.mem_cons_self hb ((List.pairwise_cons.mp h1).1 b hb') ((List.pairwise_cons.mp h2).1 a ha)
    subst e
    rw [perm_sorted (l := r) (m := q) p.cons_inv (fun x y hx hy => anti x y (List.mem_cons_of_mem _ hx) (List.mem_cons_of_mem _ hy)) (List.pairwise_cons.mp h1).2 (List.pairwise_cons.mp h2).2]
theorem sortK_eq {l ys : List (List Key)} {sh : List Bool} (hs : ∀ r ∈ l, shapeK r = sh) (hp : ys.Perm l) (hw : ys.Pairwise leK) : ys = sortK l := by
  have h : (sortK l).Perm l ∧ (sortK l).Pairwise leK := Classical.epsilon_spec (p := fun ys : List (List Key) => ys.Perm l ∧ ys.Pairwise leK) ⟨ys, hp, hw⟩
  refine perm_sorted (hp.trans h.1.symm) (fun a b ha hb h1 h2 => lexK_anti ?_ h2 h1) hw h.2
  rw [hs a (hp.mem_iff.mp ha), hs b (hp.mem_iff.mp hb)]
noncomputable section
def orderA (asks : List Ask) : List Ask := (sortK ((asks.filter fun a => decide (1 < a.sp)).map askRow)).map rowAsk
def gapsIn (gap : Int) (many : Int) : Int := gap * pmax 0 (many - 1)
def lackOf (ns : List Int) (gap : Int) (a : Ask) : Int := a.am - ((ns.drop a.fi).take a.sp).sum - gapsIn gap a.sp
/-- the cells that the j-th of n like columns gets of a lack -/
def cellJ (lack : Int) (n j : Nat) : Int := lack / (n : Int) + if (j : Int) < lack % (n : Int) then 1 else 0
def addJ (lack : Int) (n fi : Nat) (ns : List Int) (j : Nat) : List Int := if cellJ lack n j > 0 then ns.set (fi + j) (ns.getD (fi + j) 0 + cellJ lack n j) else ns
def raise1 (gap : Int) (ns : List Int) (a : Ask) : List Int := if lackOf ns gap a > 0 then (List.range a.sp).foldl (addJ (lackOf ns gap a) a.sp a.fi) ns else ns
def raiseT (gap : Int) (floor : List Int) (asks : List Ask) : List Int := (orderA asks).foldl (raise1 gap) (aloneR floor asks)
theorem alone_len (asks : List Ask) : ∀ floor : List Int, (aloneR floor asks).length = floor.length := by
  unfold aloneR
  induction asks with
  | nil => intro f; rfl
  | cons a r ih =>
    intro f
    rw [List.foldl_cons, ih]
    split <;> simp
theorem addJ_len (lack : Int) (n fi : Nat) (js : List Nat) : ∀ ns : List Int, (js.foldl (addJ lack n fi) ns).length = ns.length := by
  induction js with
  | nil => intro ns; rfl
  | cons j r ih =>
    intro ns
    rw [List.foldl_cons, ih]
    unfold addJ
    split <;> simp
theorem raise1_len (gap : Int) (ns : List Int) (a : Ask) : (raise1 gap ns a).length = ns.length := by
  unfold raise1
  split
  · exact addJ_len ..
  · rfl
theorem raise_len (gap : Int) (as : List Ask) : ∀ ns : List Int, (as.foldl (raise1 gap) ns).length = ns.length := by
  induction as with
  | nil => intro ns; rfl
  | cons a r ih => intro ns; rw [List.foldl_cons, ih, raise1_len]

/-! ### what is asked for -/
def maxL : List Int → Int
  | [] => 0
  | x :: r => r.foldl max x
def asksOf (b : Bx) (ps : List Tr) (L : Str → Int) : List Ask := (ps.zip ((putCells b.cols b.spans).zip b.spans)).map fun q => ⟨q.1.nm, q.2.1.2, q.2.2.1, L q.1.nm⟩
def tableAsk (b : Bx) (ps : List Tr) (L : Str → Int) : Int := (raiseT b.gap (List.replicate b.cols 0) (asksOf b ps L)).sum + gapsIn b.gap b.cols
def lsOf (ps : List Tr) (L : Str → Int) : List Int := ps.map fun p => L p.nm
def asked (t : Tr) (L : Str → Int) : Int := match t.b.kd with
  | .leaf => 0
  | .row => (lsOf t.ps L).sum + gapsIn t.b.gap t.ps.length
  | .col => maxL (lsOf t.ps L)
  | .wrap => maxL (lsOf t.ps L)
  | .table => if t.ps.isEmpty = true then 0 else tableAsk t.b t.ps L
def sumsB (t : Tr) : Bool := match t.b.kd with
  | .row => true
  | .table => true
  | _ => false
theorem foldl_max_ge (l : List Int) : ∀ x : Int, x ≤ l.foldl max x ∧ ∀ y ∈ l, y ≤ l.foldl max x := by
  induction l with
  | nil => intro x; exact ⟨Int.le_refl _, fun y h => by cases h⟩
  | cons a r ih =>
    intro x
    rw [List.foldl_cons]
    obtain ⟨h1, h2⟩ := ih (max x a)
    refine ⟨by omega, fun y hy => ?_⟩
    rcases List.mem_cons.mp hy with e | hy
    · subst e; omega
    · exact h2 y hy
theorem foldl_max_mem (l : List Int) : ∀ x : Int, l.foldl max x = x ∨ l.foldl max x ∈ l := by
  induction l with
  | nil => intro x; exact .inl rfl
  | cons a r ih =>
    intro x
    rw [List.foldl_cons]
    rcases ih (max x a) with h | h
    · rw [h]
      by_cases c : x ≤ a
      · rw [Int.max_eq_right c]; exact .inr List.mem_cons_self
      · rw [Int.max_eq_left (by omega)]; exact .inl rfl
    · exact .inr (List.mem_cons_of_mem _ h)
theorem maxL_ge {l : List Int} {y : Int} (h : y ∈ l) : y ≤ maxL l := by
  cases l with
  | nil => cases h
  | cons x r =>
    show y ≤ r.foldl max x
    obtain ⟨h1, h2⟩ := foldl_max_ge r x
    rcases List.mem_cons.mp h with e | h
    · subst e; exact h1
    · exact h2 y h
theorem maxL_mem {l : List Int} (h : l ≠ []) : maxL l ∈ l := by
  cases l with
  | nil => exact absurd rfl h
  | cons x r =>
    show r.foldl max x ∈ _
    rcases foldl_max_mem r x with e | e
    · rw [e]; exact List.mem_cons_self
    · exact List.mem_cons_of_mem _ e
theorem maxL_uniq {l : List Int} {m : Int} (h : m ∈ l) (hm : ∀ y ∈ l, y ≤ m) : m = maxL l := by
  have h1 := maxL_ge h
  have h2 := hm _ (maxL_mem (List.ne_nil_of_mem h))
  omega
theorem asked_ext {t : Tr} {L L' : Str → Int} (h : ∀ p ∈ t.ps, L p.nm = L' p.nm) : asked t L = asked t L' := by
  have e : lsOf t.ps L = lsOf t.ps L' := List.map_congr_left h
  unfold asked
  cases t.b.kd with
  | leaf => rfl
  | row => simp only [e]
  | col => simp only [e]
  | wrap => simp only [e]
  | table =>
    simp only
    split
    · rfl
    · have e2 : asksOf t.b t.ps L = asksOf t.b t.ps L' := by
        unfold asksOf
        refine List.map_congr_left fun q hq => ?_
        have hm : q.1 ∈ t.ps := (List.of_mem_zip (a := q.1) (b := q.2) hq).1
        rw [h q.1 hm]
      unfold tableAsk
      rw [e2]
theorem sum_mono {l : List Tr} {L L' : Str → Int} (h : ∀ p ∈ l, L p.nm ≤ L' p.nm) : (lsOf l L).sum ≤ (lsOf l L').sum := by
  induction l with
  | nil => exact Int.le_refl _
  | cons a r ih =>
    have h1 := h a List.mem_cons_self
    have h2 := ih fun p hp => h p (List.mem_cons_of_mem _ hp)
    show L a.nm + (lsOf r L).sum ≤ L' a.nm + (lsOf r L').sum
    omega
theorem sum_squeeze {l : List Tr} {L L' : Str → Int} (h : ∀ p ∈ l, L p.nm ≤ L' p.nm) (e : (lsOf l L).sum = (lsOf l L').sum) : ∀ p ∈ l, L p.nm = L' p.nm := by
  induction l with
  | nil => intro p hp; cases hp
  | cons a r ih =>
    have h1 := h a List.mem_cons_self
    have h2 := sum_mono fun p hp => h p (List.mem_cons_of_mem a hp)
    have e' : L a.nm + (lsOf r L).sum = L' a.nm + (lsOf r L').sum := e
    intro p hp
    rcases List.mem_cons.mp hp with q | hp
    · subst q; omega
    · exact ih (fun p hp => h p (List.mem_cons_of_mem a hp)) (by omega) p hp
theorem max_mono {l : List Tr} {L L' : Str → Int} (h : ∀ p ∈ l, L p.nm ≤ L' p.nm) : maxL (lsOf l L) ≤ maxL (lsOf l L') := by
  cases l with
  | nil => exact Int.le_refl _
  | cons a r =>
    have hm := maxL_mem (l := lsOf (a :: r) L) (by simp [lsOf])
    obtain ⟨p, hp, e⟩ := List.mem_map.mp hm
    rw [← e]
    exact Int.le_trans (h p hp) (maxL_ge (List.mem_map.mpr ⟨p, hp, rfl⟩))
theorem asked_mono {t : Tr} {L L' : Str → Int} (hk : t.b.kd ≠ .table) (h : ∀ p ∈ t.ps, L p.nm ≤ L' p.nm) : asked t L ≤ asked t L' := by
  have h1 := sum_mono h
  have h2 := max_mono h
  unfold asked
  cases e : t.b.kd with
  | leaf => exact Int.le_refl _
  | row => simp only; omega
  | col => exact h2
  | wrap => exact h2
  | table => exact absurd e hk

/-! ### leasts that hold, reasons -/
structure Rsn where
  w : Str
  n : Str
  rk : Int
def headOf (bs : List Tr) (g : Int) : Option Tr := bs.find? fun c => decide (c.b.grp = g)
def groupB (bs : List Tr) (L : Str → Int) (b : Tr) : Bool := !decide (b.b.grp > 0) || (match headOf bs b.b.grp with | some c => decide (L b.nm = L c.nm) | none => true)
def holdB (bs : List Tr) (L : Str → Int) : Bool := bs.all fun b => decide (pmax b.b.own (asked b L) ≤ L b.nm) && groupB bs L b
def mates (bs : List Tr) (g : Int) : List Str := (bs.filter fun c => decide (c.b.grp > 0) && decide (c.b.grp = g)).map Tr.nm
def reasonB (bs : List Tr) (L : Str → Int) (P : Str → Rsn) (b : Tr) : Bool :=
  if (P b.nm).w = "own" then decide ((P b.nm).n = "") && decide (L b.nm = pmax b.b.own 0)
  else if (P b.nm).w = "parts" then decide ((P b.nm).n = "") && (b.ps.all fun p => decide ((P p.nm).rk < (P b.nm).rk)) && sumsB b && decide (L b.nm = asked b L)
  else if (P b.nm).w = "part" then !sumsB b && decide ((P b.nm).n ∈ b.ps.map Tr.nm) && decide (L b.nm = asked b L) && decide ((P (P b.nm).n).rk < (P b.nm).rk) && decide (L b.nm = L (P b.nm).n)
  else decide ((P b.nm).w = "alike") && !decide (b.b.grp = 0) && decide ((P b.nm).n ∈ mates bs b.b.grp) && decide ((P (P b.nm).n).rk < (P b.nm).rk) && decide (L b.nm = L (P b.nm).n)
def lhB (bs : List Tr) (L : Str → Int) (P : Str → Rsn) : Bool := holdB bs L && bs.all (reasonB bs L P)

theorem hold_of {bs : List Tr} {L : Str → Int} (h : holdB bs L = true) {b : Tr} (hb : b ∈ bs) : b.b.own ≤ L b.nm ∧ asked b L ≤ L b.nm := by
  have q := (Bool.and_eq_true_iff.mp (List.all_eq_true.mp h b hb)).1
  have r := of_decide_eq_true q
  rw [pmax_eq] at r
  omega
theorem head_ex {bs : List Tr} {b : Tr} (hb : b ∈ bs) : ∃ c, headOf bs b.b.grp = some c ∧ c ∈ bs ∧ c.b.grp = b.b.grp := by
  unfold headOf
  cases e : bs.find? fun c => decide (c.b.grp = b.b.grp) with
  | none =>
    have := List.find?_eq_none.mp e b hb
    simp at this
  | some c => exact ⟨c, rfl, List.mem_of_find?_eq_some e, by simpa using List.find?_some e⟩
theorem group_of {bs : List Tr} {L : Str → Int} (h : holdB bs L = true) {b c : Tr} (hb : b ∈ bs) (hc : c ∈ bs) (hg : 0 < b.b.grp) (e : b.b.grp = c.b.grp) : L b.nm = L c.nm := by
  have q1 := (Bool.and_eq_true_iff.mp (List.all_eq_true.mp h b hb)).2
  have q2 := (Bool.and_eq_true_iff.mp (List.all_eq_true.mp h c hc)).2
  obtain ⟨d, hd, _, _⟩ := head_ex hb
  unfold groupB at q1 q2
  rw [hd] at q1
  rw [← e, hd] at q2
  simp only [decide_eq_true (show b.b.grp > 0 from hg), Bool.not_true, Bool.false_or, decide_eq_true_eq] at q1 q2
  rw [q1, q2]
inductive RsnOk (bs : List Tr) (L : Str → Int) (P : Str → Rsn) (b : Tr) : Prop where
  | own : L b.nm = max b.b.own 0 → RsnOk bs L P b
  | parts : (∀ p ∈ b.ps, (P p.nm).rk < (P b.nm).rk) → sumsB b = true → L b.nm = asked b L → RsnOk bs L P b
  | part (n : Str) : sumsB b = false → n ∈ b.ps.map Tr.nm → L b.nm = asked b L → (P n).rk < (P b.nm).rk → L b.nm = L n → RsnOk bs L P b
  | alike (n : Str) : b.b.grp ≠ 0 → n ∈ mates bs b.b.grp → (P n).rk < (P b.nm).rk → L b.nm = L n → RsnOk bs L P b
theorem rsn_of {bs : List Tr} {L : Str → Int} {P : Str → Rsn} {b : Tr} (h : reasonB bs L P b = true) : RsnOk bs L P b := by
  unfold reasonB at h
  split at h
  · simp only [Bool.and_eq_true, decide_eq_true_eq] at h
    exact .own (by rw [h.2, pmax_eq])
  · split at h
    · simp only [Bool.and_eq_true, decide_eq_true_eq, List.all_eq_true] at h
      exact .parts h.1.1.2 h.1.2 h.2
    · split at h
      · simp only [Bool.and_eq_true, decide_eq_true_eq, Bool.not_eq_true'] at h
        exact .part _ h.1.1.1.1 h.1.1.1.2 h.1.1.2 h.1.2 h.2
      · simp only [Bool.and_eq_true, decide_eq_true_eq, Bool.not_eq_true', decide_eq_false_iff_not] at h
        exact .alike _ h.1.1.1.2 h.1.1.2 h.1.2 h.2
theorem lh_of {bs : List Tr} {L : Str → Int} {P : Str → Rsn} (h : lhB bs L P = true) : holdB bs L = true ∧ ∀ b ∈ bs, RsnOk bs L P b := by
  obtain ⟨h1, h2⟩ := Bool.and_eq_true_iff.mp h
  exact ⟨h1, fun b hb => rsn_of (List.all_eq_true.mp h2 b hb)⟩
theorem mates_of {bs : List Tr} {g : Int} {n : Str} (h : n ∈ mates bs g) : ∃ c ∈ bs, c.b.grp = g ∧ 0 < g ∧ c.nm = n := by
  obtain ⟨c, hc, e⟩ := List.mem_map.mp h
  obtain ⟨h1, h2⟩ := List.mem_filter.mp hc
  simp only [Bool.and_eq_true, decide_eq_true_eq] at h2
  exact ⟨c, h1, h2.2, by omega, e⟩
theorem asked_not_sums {b : Tr} (h : sumsB b = false) : b.b.kd ≠ .table ∧ b.b.kd ≠ .row := by
  unfold sumsB at h
  cases e : b.b.kd <;> rw [e] at h <;> simp_all
theorem asked_ge_part {b p : Tr} {L : Str → Int} (h : sumsB b = false) (hl : b.b.kd ≠ .leaf) (hp : p ∈ b.ps) : L p.nm ≤ asked b L := by
  obtain ⟨h1, h2⟩ := asked_not_sums h
  have q : L p.nm ≤ maxL (lsOf b.ps L) := maxL_ge (List.mem_map.mpr ⟨p, hp, rfl⟩)
  unfold asked
  cases e : b.b.kd with
  | leaf => exact absurd e hl
  | row => exact absurd e h2
  | col => exact q
  | wrap => exact q
  | table => exact absurd e h1

/-- no leasts that hold are less than such as reasons show, where tables have theirs -/
theorem least_min {bs : List Tr} {L L' : Str → Int} {P : Str → Rsn} (hcl : ∀ b ∈ bs, ∀ p ∈ b.ps, p ∈ bs) (hleaf : ∀ b ∈ bs, b.b.kd = .leaf → b.ps = []) (hown : ∀ b ∈ bs, 0 ≤ b.b.own) (h : lhB bs L P = true) (h' : holdB bs L' = true) (hT : ∀ b ∈ bs, b.b.kd = .table → L' b.nm = L b.nm) :
    ∀ b ∈ bs, L b.nm ≤ L' b.nm := by
  obtain ⟨h1, h2⟩ := lh_of h
  -- a lower bound of the ranks
  obtain ⟨N, hN⟩ : ∃ N : Int, ∀ b ∈ bs, -N ≤ (P b.nm).rk := by
    clear hcl hleaf hown h h' hT h1 h2
    induction bs with
    | nil => exact ⟨0, fun b hb => by cases hb⟩
    | cons a r ih =>
      obtain ⟨N, hN⟩ := ih
      refine ⟨max N (-(P a.nm).rk), fun b hb => ?_⟩
      rcases List.mem_cons.mp hb with e | hb
      · subst e; omega
      · have := hN b hb; omega
  suffices H : ∀ n : Nat, ∀ b ∈ bs, ((P b.nm).rk + N).toNat = n → L b.nm ≤ L' b.nm from fun b hb => H _ b hb rfl
  intro n
  induction n using Nat.strongRecOn with
  | ind n ih =>
    intro b hb en
    have lower : ∀ c ∈ bs, (P c.nm).rk < (P b.nm).rk → L c.nm ≤ L' c.nm := fun c hc hr => ih _ (by have := hN c hc; have := hN b hb; omega) c hc rfl
    obtain ⟨g1, g2⟩ := hold_of h' hb
    by_cases ht : b.b.kd = .table
    · rw [hT b hb ht]; exact Int.le_refl _
    cases h2 b hb with
    | own e => have := hown b hb; omega
    | parts hr hs e =>
      have hm := asked_mono (t := b) ht fun p hp => lower p (hcl b hb p hp) (hr p hp)
      omega
    | part m hs hm e hr e2 =>
      obtain ⟨p, hp, ep⟩ := List.mem_map.mp hm
      subst ep
      have q1 := lower p (hcl b hb p hp) hr
      have q2 := asked_ge_part (L := L') hs (fun z => by rw [hleaf b hb z] at hp; cases hp) hp
      omega
    | alike m hg hm hr e =>
      obtain ⟨c, hc, eg, g0, en2⟩ := mates_of hm
      subst en2
      have q1 := lower c hc hr
      have q2 := group_of h' hb hc (by omega) eg.symm
      omega
/-- what lies in tables: told by the rules alone -/
theorem table_same {bs : List Tr} {L1 L2 : Str → Int} {P1 P2 : Str → Rsn} (hown : ∀ b ∈ bs, 0 ≤ b.b.own) (h1 : lhB bs L1 P1 = true) (h2 : lhB bs L2 P2 = true) (t : Tr) : (∀ y ∈ t.boxes, y ∈ bs ∧ y.b.grp = 0) → L1 t.nm = L2 t.nm := by
  have key : ∀ {L : Str → Int} {P : Str → Rsn}, lhB bs L P = true → ∀ b ∈ bs, b.b.grp = 0 → L b.nm = max b.b.own (asked b L) := fun {L P} h b hb hg => by
    obtain ⟨q1, q2⟩ := lh_of h
    obtain ⟨g1, g2⟩ := hold_of q1 hb
    have := hown b hb
    cases q2 b hb with
    | own e => omega
    | parts _ _ e => omega
    | part _ _ _ e _ _ => omega
    | alike _ g _ _ _ => exact absurd hg g
  induction t using Tr.ind with
  | h t ih =>
    intro hy
    obtain ⟨ht, hg⟩ := hy t (self_mem t)
    rw [key h1 t ht hg, key h2 t ht hg, asked_ext fun p hp => ih p hp fun y hy' => hy y (boxes_trans (parts_in (self_mem t) hp) hy')]
/-- leasts with reasons are one -/
theorem least_uniq {bs : List Tr} {L1 L2 : Str → Int} {P1 P2 : Str → Rsn} (hcl : ∀ b ∈ bs, ∀ p ∈ b.ps, p ∈ bs) (hleaf : ∀ b ∈ bs, b.b.kd = .leaf → b.ps = []) (hown : ∀ b ∈ bs, 0 ≤ b.b.own)
    (htab : ∀ b ∈ bs, b.b.kd = .table → ∀ y ∈ b.boxes, y ∈ bs ∧ y.b.grp = 0) (h1 : lhB bs L1 P1 = true) (h2 : lhB bs L2 P2 = true) : ∀ b ∈ bs, L1 b.nm = L2 b.nm := fun b hb => by
  have q1 := least_min hcl hleaf hown h1 (lh_of h2).1 (fun c hc ht => table_same hown h2 h1 c (htab c hc ht)) b hb
  have q2 := least_min hcl hleaf hown h2 (lh_of h1).1 (fun c hc ht => table_same hown h1 h2 c (htab c hc ht)) b hb
  omega
end

end BG
set_option maxHeartbeats 4000000
namespace BG
open PySem L2
noncomputable section

def ask (b : Tr) (L : Str → Int) : Int := pmax b.b.own (asked b L)
theorem ask_eq (b : Tr) (L : Str → Int) : ask b L = max b.b.own (asked b L) := pmax_eq _ _
/-- the greatest that is asked in a group, and who asks it first -/
def topStep (L : Str → Int) (g : Int) (acc : Option (Int × Str)) (b : Tr) : Option (Int × Str) := if b.b.grp = g ∧ 0 < g ∧ (acc.getD (-1, "")).1 < ask b L then some (ask b L, b.nm) else acc
def topG (L : Str → Int) (fr : List Tr) (g : Int) : Option (Int × Str) := fr.foldl (topStep L g) none
def askerF (b : Tr) (L : Str → Int) : Str × Str :=
  if sumsB b = true then ("parts", "") else match b.ps.find? fun p => decide (L p.nm = asked b L) with
    | some p => ("part", p.nm)
    | none => ("own", "")
def reasonAt (b : Tr) (L : Str → Int) (least : Int) (named : Str) (t : Int) : Rsn :=
  if b.b.own = least then ⟨"own", "", 2 * t⟩ else if asked b L = least then ⟨(askerF b L).1, (askerF b L).2, 2 * t⟩ else ⟨"alike", named, 2 * t + 1⟩
/-- the least and the named of a box in a round -/
def newOf (L : Str → Int) (fr : List Tr) (b : Tr) : Int × Str := (topG L fr b.b.grp).getD (ask b L, "")

theorem top_none {L : Str → Int} {fr : List Tr} {g : Int} (h : g ≤ 0) : topG L fr g = none := by
  unfold topG
  induction fr with
  | nil => rfl
  | cons a r ih =>
    rw [List.foldl_cons]
    have e : topStep L g none a = none := by
      unfold topStep
      rw [if_neg (by omega)]
    rw [e]
    exact ih
/-- what the fold keeps -/
theorem top_keep {L : Str → Int} {g : Int} (hg : 0 < g) : ∀ (r : List Tr) (acc : Option (Int × Str)) (done : List Tr), (∀ b ∈ r, 0 ≤ b.b.own) →
    (match acc with
      | none => ∀ b ∈ done, b.b.grp ≠ g
      | some (v, n) => 0 ≤ v ∧ (∃ c ∈ done, c.b.grp = g ∧ c.nm = n ∧ ask c L = v) ∧ ∀ c ∈ done, c.b.grp = g → ask c L ≤ v) →
    (match r.foldl (topStep L g) acc with
      | none => ∀ b ∈ done ++ r, b.b.grp ≠ g
      | some (v, n) => 0 ≤ v ∧ (∃ c ∈ done ++ r, c.b.grp = g ∧ c.nm = n ∧ ask c L = v) ∧ ∀ c ∈ done ++ r, c.b.grp = g → ask c L ≤ v)
  | [], acc, done, _, h => by
    rw [List.foldl_nil, List.append_nil]
    exact h
  | a :: r, acc, done, ho, h => by
    have e : done ++ a :: r = (done ++ [a]) ++ r := by simp
    rw [List.foldl_cons, e]
    refine top_keep hg r (topStep L g acc a) (done ++ [a]) (fun b hb => ho b (List.mem_cons_of_mem _ hb)) ?_
    have ha : 0 ≤ ask a L := by
      have := ho a List.mem_cons_self
      rw [ask_eq]; omega
    unfold topStep
    by_cases c : a.b.grp = g ∧ 0 < g ∧ (acc.getD (-1, "")).1 < ask a L
    · rw [if_pos c]
      refine ⟨ha, ⟨a, by simp, c.1, rfl, rfl⟩, fun x hx hxg => ?_⟩
      rcases List.mem_append.mp hx with hx | hx
      · cases acc with
        | none => exact absurd hxg (h x hx)
        | some q =>
          obtain ⟨v, n⟩ := q
          have h3 := h.2.2 x hx hxg
          have h4 : v < ask a L := c.2.2
          omega
      · rw [List.mem_singleton] at hx
        subst hx
        exact Int.le_refl _
    · rw [if_neg c]
      cases acc with
      | none =>
        intro x hx
        rcases List.mem_append.mp hx with hx | hx
        · exact h x hx
        · rw [List.mem_singleton] at hx
          subst hx
          intro z
          exact c ⟨z, hg, show (-1 : Int) < ask x L by omega⟩
      | some q =>
        obtain ⟨v, n⟩ := q
        obtain ⟨h0, ⟨d, hd, e1, e2, e3⟩, h2⟩ := h
        refine ⟨h0, ⟨d, List.mem_append_left _ hd, e1, e2, e3⟩, fun x hx hxg => ?_⟩
        rcases List.mem_append.mp hx with hx | hx
        · exact h2 x hx hxg
        · rw [List.mem_singleton] at hx
          subst hx
          have : ¬ v < ask x L := fun z => c ⟨hxg, hg, z⟩
          omega
theorem top_some {L : Str → Int} {fr : List Tr} (ho : ∀ b ∈ fr, 0 ≤ b.b.own) {b : Tr} (hb : b ∈ fr) (hg : 0 < b.b.grp) :
    ∃ v n, topG L fr b.b.grp = some (v, n) ∧ (∃ c ∈ fr, c.b.grp = b.b.grp ∧ c.nm = n ∧ ask c L = v) ∧ ∀ c ∈ fr, c.b.grp = b.b.grp → ask c L ≤ v := by
  have h := top_keep (L := L) hg fr none [] ho (fun b hb => by cases hb)
  rw [List.nil_append] at h
  unfold topG
  cases e : fr.foldl (topStep L b.b.grp) none with
  | none =>
    rw [e] at h
    exact absurd rfl (h b hb)
  | some q =>
    obtain ⟨v, n⟩ := q
    rw [e] at h
    exact ⟨v, n, rfl, h.2.1, h.2.2⟩
theorem new_free {L : Str → Int} {fr : List Tr} {b : Tr} (hg : b.b.grp ≤ 0) : newOf L fr b = (ask b L, ("" : Str)) := by
  unfold newOf
  rw [top_none hg] <;> rfl
theorem new_ge {L : Str → Int} {fr : List Tr} (ho : ∀ b ∈ fr, 0 ≤ b.b.own) {b : Tr} (hb : b ∈ fr) : ask b L ≤ (newOf L fr b).1 := by
  by_cases hg : 0 < b.b.grp
  · obtain ⟨v, n, e, _, h2⟩ := top_some (L := L) ho hb hg
    unfold newOf
    rw [e]
    exact h2 b hb rfl
  · rw [new_free (by omega)]
    exact Int.le_refl _
theorem new_same {L : Str → Int} {fr : List Tr} (ho : ∀ b ∈ fr, 0 ≤ b.b.own) {b c : Tr} (hb : b ∈ fr) (hg : 0 < b.b.grp) (e : b.b.grp = c.b.grp) : (newOf L fr b).1 = (newOf L fr c).1 := by
  obtain ⟨v, n, e1, _, _⟩ := top_some (L := L) ho hb hg
  unfold newOf
  rw [← e, e1] <;> rfl
/-- who asks so much -/
theorem new_by {L : Str → Int} {fr : List Tr} (ho : ∀ b ∈ fr, 0 ≤ b.b.own) {b : Tr} (hb : b ∈ fr) : ∃ c ∈ fr, ask c L = (newOf L fr b).1 ∧ (c = b ∨ (c.b.grp = b.b.grp ∧ 0 < b.b.grp ∧ c.nm = (newOf L fr b).2)) := by
  by_cases hg : 0 < b.b.grp
  · obtain ⟨v, n, e, ⟨c, hc, h1, h2, h3⟩, _⟩ := top_some (L := L) ho hb hg
    unfold newOf
    rw [e]
    exact ⟨c, hc, h3, .inr ⟨h1, hg, h2⟩⟩
  · rw [new_free (by omega)]
    exact ⟨b, hb, rfl, .inl rfl⟩

/-! ### the reasons of a round, kept -/
inductive RI (fr : List Tr) (L : Str → Int) (R : Str → Rsn) (b : Tr) : Prop where
  | own (rk : Int) : R b.nm = ⟨"own", "", rk⟩ → L b.nm ≤ b.b.own → RI fr L R b
  | parts (rk : Int) : R b.nm = ⟨"parts", "", rk⟩ → sumsB b = true → L b.nm ≤ asked b L → (asked b L = L b.nm → ∀ p ∈ b.ps, (R p.nm).rk < rk) → RI fr L R b
  | part (rk : Int) (p : Tr) : p ∈ b.ps → R b.nm = ⟨"part", p.nm, rk⟩ → sumsB b = false → L b.nm ≤ L p.nm → (L p.nm = L b.nm → (R p.nm).rk < rk) → RI fr L R b
  | alike (rk : Int) (c : Tr) : c ∈ fr → R b.nm = ⟨"alike", c.nm, rk⟩ → c.b.grp = b.b.grp → 0 < b.b.grp → (R c.nm).rk < rk → RI fr L R b
/-- what stands behind n rounds -/
structure RInv (bs fr : List Tr) (n : Nat) (L : Str → Int) (R : Str → Rsn) : Prop where
  sub : ∀ b ∈ fr, b ∈ bs
  cl : ∀ b ∈ bs, ∀ p ∈ b.ps, p ∈ bs
  kd : ∀ b ∈ fr, b.b.kd ≠ .table
  leaf : ∀ b ∈ bs, b.b.kd = .leaf → b.ps = []
  own : ∀ b ∈ bs, 0 ≤ b.b.own
  uniq : ∀ b ∈ bs, ∀ c ∈ bs, b.nm = c.nm → b = c
  grp0 : ∀ b ∈ bs, b ∉ fr → b.b.grp = 0
  fixL : ∀ b ∈ bs, b ∉ fr → L b.nm = ask b L
  fixR : ∀ b ∈ bs, b ∉ fr → reasonB bs L R b = true
  fixP : ∀ b ∈ bs, b ∉ fr → ∀ p ∈ b.ps, p ∉ fr
  rank : ∀ b ∈ bs, (R b.nm).rk ≤ 2 * (n : Int) + 1
  grp : ∀ b ∈ fr, ∀ c ∈ fr, b.b.grp = c.b.grp → 0 < b.b.grp → L b.nm = L c.nm
  rise : ∀ b ∈ fr, L b.nm ≤ (newOf L fr b).1
  rsn : ∀ b ∈ fr, RI fr L R b
section
variable {bs fr : List Tr} {n : Nat} {L L' : Str → Int} {R R' : Str → Rsn}
theorem RInv.ofr (I : RInv bs fr n L R) : ∀ b ∈ fr, 0 ≤ b.b.own := fun b hb => I.own b (I.sub b hb)
theorem new_mono (I : RInv bs fr n L R) (hm : ∀ b ∈ bs, L b.nm ≤ L' b.nm) {b : Tr} (hb : b ∈ fr) : (newOf L fr b).1 ≤ (newOf L' fr b).1 := by
  obtain ⟨c, hc, e, hcb⟩ := new_by I.ofr hb (L := L)
  have h1 : ask c L ≤ ask c L' := by
    have := asked_mono (t := c) (I.kd c hc) fun p hp => hm p (I.cl c (I.sub c hc) p hp)
    rw [ask_eq, ask_eq]; omega
  have h2 := new_ge I.ofr hc (L := L')
  rcases hcb with rfl | ⟨g, g0, _⟩
  · omega
  · have := new_same I.ofr hb g0 g.symm (L := L')
    omega
/-- one round -/
theorem RInv.step (I : RInv bs fr n L R) (hL : ∀ b ∈ fr, L' b.nm = (newOf L fr b).1) (hF : ∀ b ∈ bs, b ∉ fr → L' b.nm = L b.nm)
    (hR : ∀ b ∈ fr, L b.nm < (newOf L fr b).1 → R' b.nm = reasonAt b L (newOf L fr b).1 (newOf L fr b).2 (n + 1)) (hR0 : ∀ b ∈ fr, ¬ L b.nm < (newOf L fr b).1 → R' b.nm = R b.nm) (hRF : ∀ b ∈ bs, b ∉ fr → R' b.nm = R b.nm) :
    RInv bs fr (n + 1) L' R' := by
  have hm : ∀ b ∈ bs, L b.nm ≤ L' b.nm := fun b hb => by
    by_cases h : b ∈ fr
    · rw [hL b h]; exact I.rise b h
    · rw [hF b hb h]; exact Int.le_refl _
  -- where it did not rise, the reason stands
  have same : ∀ b ∈ bs, L' b.nm = L b.nm → R' b.nm = R b.nm := fun b hb e => by
    by_cases h : b ∈ fr
    · refine hR0 b h ?_
      rw [← hL b h, e]; omega
    · exact hRF b hb h
  have askF : ∀ b ∈ bs, b ∉ fr → asked b L' = asked b L := fun b hb h => asked_ext fun p hp => hF p (I.cl b hb p hp) (I.fixP b hb h p hp)
  have rk' : ∀ b ∈ bs, (R' b.nm).rk ≤ 2 * ((n + 1 : Nat) : Int) + 1 := fun b hb => by
    by_cases h : b ∈ fr
    · by_cases c : L b.nm < (newOf L fr b).1
      · rw [hR b h c]
        unfold reasonAt
        split
        · simp only; omega
        · split
          · simp only; omega
          · simp only; omega
      · rw [hR0 b h c]
        have := I.rank b hb; omega
    · rw [hRF b hb h]
      have := I.rank b hb; omega
  refine ⟨I.sub, I.cl, I.kd, I.leaf, I.own, I.uniq, I.grp0, fun b hb h => ?_, fun b hb h => ?_, I.fixP, rk', fun b hb c hc e g => ?_, fun b hb => ?_, fun b hb => ?_⟩
  · unfold ask
    rw [hF b hb h, askF b hb h]
    exact I.fixL b hb h
  · -- a fixed one's reason
    have hq := I.fixR b hb h
    have eR : R' b.nm = R b.nm := hRF b hb h
    have eL : L' b.nm = L b.nm := hF b hb h
    have eA := askF b hb h
    have eP : ∀ p ∈ b.ps, R' p.nm = R p.nm ∧ L' p.nm = L p.nm := fun p hp => ⟨hRF p (I.cl b hb p hp) (I.fixP b hb h p hp), hF p (I.cl b hb p hp) (I.fixP b hb h p hp)⟩
    have g0 := I.grp0 b hb h
    have hm0 : mates bs b.b.grp = [] := by
      unfold mates
      rw [g0]
      simp only [List.map_eq_nil_iff, List.filter_eq_nil_iff, Bool.and_eq_true, decide_eq_true_eq]
      intro c _ z
      omega
    unfold reasonB at hq ⊢
    rw [eR, eL, eA]
    split
    · rename_i c
      rw [if_pos c] at hq
      exact hq
    · rename_i c
      rw [if_neg c] at hq
      split
      · rename_i c2
        rw [if_pos c2] at hq
        have ea : (b.ps.all fun p => decide ((R' p.nm).rk < (R b.nm).rk)) = (b.ps.all fun p => decide ((R p.nm).rk < (R b.nm).rk)) := by
          rw [Bool.eq_iff_iff, List.all_eq_true, List.all_eq_true]
          exact ⟨fun z p hp => by have := z p hp; rw [(eP p hp).1] at this; exact this, fun z p hp => by rw [(eP p hp).1]; exact z p hp⟩
        rw [ea]
        exact hq
      · rename_i c2
        rw [if_neg c2] at hq
        split
        · rename_i c3
          rw [if_pos c3] at hq
          have hq2 := hq
          simp only [Bool.and_eq_true, decide_eq_true_eq] at hq2
          obtain ⟨p, hp, ep⟩ := List.mem_map.mp hq2.1.1.1.2
          have e1 := eP p hp
          rw [ep] at e1
          rw [e1.1, e1.2]
          exact hq
        · rename_i c3
          rw [if_neg c3] at hq
          rw [hm0] at hq
          simp at hq
  · rw [hL b hb, hL c hc]
    exact new_same I.ofr hb g e
  · rw [hL b hb]
    exact new_mono I hm hb
  · -- the reasons
    have hbs := I.sub b hb
    by_cases c : L b.nm < (newOf L fr b).1
    · have er := hR b hb c
      have el := hL b hb
      unfold reasonAt at er
      by_cases c1 : b.b.own = (newOf L fr b).1
      · rw [if_pos c1] at er
        exact .own _ er (by rw [el, ← c1]; exact Int.le_refl _)
      · rw [if_neg c1] at er
        by_cases c2 : asked b L = (newOf L fr b).1
        · rw [if_pos c2] at er
          have lowp : ∀ p ∈ b.ps, L' p.nm = L p.nm → (R' p.nm).rk < 2 * (((n : Int) + 1)) := fun p hp e => by
            rw [same p (I.cl b hbs p hp) e]
            have := I.rank p (I.cl b hbs p hp); omega
          have hmp : ∀ p ∈ b.ps, L p.nm ≤ L' p.nm := fun p hp => hm p (I.cl b hbs p hp)
          by_cases hs : sumsB b = true
          · have ea : askerF b L = (("parts" : Str), ("" : Str)) := by unfold askerF; rw [if_pos hs]
            rw [ea] at er
            have hrow : b.b.kd = .row := by
              unfold sumsB at hs
              cases e : b.b.kd with
              | leaf => rw [e] at hs; cases hs
              | row => rfl
              | col => rw [e] at hs; cases hs
              | wrap => rw [e] at hs; cases hs
              | table => exact absurd e (I.kd b hb)
            refine .parts _ er hs (by rw [el, ← c2]; exact asked_mono (I.kd b hb) hmp) fun e p hp => ?_
            refine lowp p hp ?_
            rw [el, ← c2] at e
            have e3 : (lsOf b.ps L).sum = (lsOf b.ps L').sum := by
              unfold asked at e
              rw [hrow] at e
              simp only at e
              omega
            exact (sum_squeeze hmp e3 p hp).symm
          · have hs : sumsB b = false := by simpa using hs
            cases ef : b.ps.find? fun p => decide (L p.nm = asked b L) with
            | none =>
              -- none: nothing asked
              exfalso
              have hn := List.find?_eq_none.mp ef
              have hkd := asked_not_sums hs
              have z : asked b L = 0 ∨ ∃ p ∈ b.ps, L p.nm = asked b L := by
                have q : ∀ l : List Tr, maxL (lsOf l L) = 0 ∨ ∃ p ∈ l, L p.nm = maxL (lsOf l L) := fun l => by
                  cases l with
                  | nil => exact .inl rfl
                  | cons a r =>
                    have hmm := maxL_mem (l := lsOf (a :: r) L) (by simp [lsOf])
                    obtain ⟨p, hp, e⟩ := List.mem_map.mp hmm
                    exact .inr ⟨p, hp, e⟩
                unfold asked
                cases e : b.b.kd with
                | leaf => exact .inl rfl
                | row => exact absurd e hkd.2
                | col => exact q _
                | wrap => exact q _
                | table => exact absurd e hkd.1
              rcases z with z | ⟨p, hp, z⟩
              · have q1 := I.ofr b hb
                have q2 := new_ge I.ofr hb (L := L)
                rw [ask_eq] at q2
                have q3 : b.b.own ≤ (newOf L fr b).1 := by omega
                rw [← c2, z] at q3 c1
                omega
              · have := hn p hp
                simp at this
                exact this z
            | some p =>
              have hp := List.mem_of_find?_eq_some ef
              have hpe : L p.nm = asked b L := by simpa using List.find?_some ef
              have ea : askerF b L = (("part" : Str), p.nm) := by
                unfold askerF
                rw [if_neg (by rw [hs]; decide), ef]
              rw [ea] at er
              refine .part _ p hp er hs (by rw [el, ← c2, ← hpe]; exact hmp p hp) fun e => lowp p hp ?_
              rw [e, el, ← c2, hpe]
        · rw [if_neg c2] at er
          obtain ⟨d, hd, e1, e2⟩ := new_by I.ofr hb (L := L)
          rcases e2 with rfl | ⟨g1, g2, g3⟩
          · exfalso
            rw [ask_eq] at e1
            omega
          · refine .alike _ d hd (by rw [er, g3]) g1 g2 ?_
            have en := new_same I.ofr hb g2 g1.symm (L := L)
            have eg := I.grp b hb d hd g1.symm g2
            rw [hR d hd (by rw [← en, ← eg]; exact c)]
            unfold reasonAt
            rw [ask_eq] at e1
            by_cases d1 : d.b.own = (newOf L fr d).1
            · rw [if_pos d1]; simp only; omega
            · rw [if_neg d1, if_pos (by omega)]; simp only; omega
    · -- it stays
      have er := hR0 b hb c
      have el : L' b.nm = L b.nm := by rw [hL b hb]; have := I.rise b hb; omega
      cases I.rsn b hb with
      | own rk e h1 => exact .own rk (er.trans e) (by rw [el]; exact h1)
      | parts rk e h1 h2 h3 =>
        have hmp : ∀ p ∈ b.ps, L p.nm ≤ L' p.nm := fun p hp => hm p (I.cl b hbs p hp)
        have hma := asked_mono (t := b) (I.kd b hb) hmp
        refine .parts rk (er.trans e) h1 (by rw [el]; omega) fun e2 p hp => ?_
        rw [el] at e2
        have hrow : b.b.kd = .row := by
          unfold sumsB at h1
          cases e : b.b.kd with
          | leaf => rw [e] at h1; cases h1
          | row => rfl
          | col => rw [e] at h1; cases h1
          | wrap => rw [e] at h1; cases h1
          | table => exact absurd e (I.kd b hb)
        have e4 : asked b L = L b.nm := by omega
        have e3 : (lsOf b.ps L).sum = (lsOf b.ps L').sum := by
          have e5 : asked b L' = asked b L := by omega
          unfold asked at e5
          rw [hrow] at e5
          simp only at e5
          omega
        have ep := (sum_squeeze hmp e3 p hp).symm
        rw [same p (I.cl b hbs p hp) ep]
        exact h3 e4 p hp
      | part rk p hp e h1 h2 h3 =>
        have hpm := hm p (I.cl b hbs p hp)
        refine .part rk p hp (er.trans e) h1 (by rw [el]; omega) fun e2 => ?_
        rw [el] at e2
        have ep : L' p.nm = L p.nm := by omega
        rw [same p (I.cl b hbs p hp) ep]
        exact h3 (by omega)
      | alike rk d hd e h1 h2 h3 =>
        refine .alike rk d hd (er.trans e) h1 h2 ?_
        have eg := I.grp b hb d hd h1.symm h2
        have ed : L' d.nm = L d.nm := by
          rw [hL d hd, ← new_same I.ofr hb h2 h1.symm (L := L), ← hL b hb, el, eg]
        rw [same d (I.sub d hd) ed]
        exact h3
/-- nothing rises: they hold, and so do the reasons -/
theorem RInv.done (I : RInv bs fr n L R) (h : ∀ b ∈ fr, ¬ L b.nm < (newOf L fr b).1) : lhB bs L R = true := by
  have eq : ∀ b ∈ fr, L b.nm = (newOf L fr b).1 := fun b hb => by have := I.rise b hb; have := h b hb; omega
  have hask : ∀ b ∈ bs, ask b L ≤ L b.nm := fun b hb => by
    by_cases hf : b ∈ fr
    · rw [eq b hf]; exact new_ge I.ofr hf
    · rw [I.fixL b hb hf]; exact Int.le_refl _
  have hold : holdB bs L = true := by
    refine List.all_eq_true.mpr fun b hb => Bool.and_eq_true_iff.mpr ⟨decide_eq_true (hask b hb), ?_⟩
    unfold groupB
    by_cases g : b.b.grp > 0
    · rw [decide_eq_true g]
      obtain ⟨d, hd, hdb, hdg⟩ := head_ex hb
      rw [hd]
      have f1 : b ∈ fr := Classical.byContradiction fun z => by have := I.grp0 b hb z; omega
      have f2 : d ∈ fr := Classical.byContradiction fun z => by have := I.grp0 d hdb z; omega
      simp only [Bool.not_true, Bool.false_or]
      exact decide_eq_true (I.grp b f1 d f2 hdg.symm g)
    · rw [decide_eq_false g] <;> rfl
  refine Bool.and_eq_true_iff.mpr ⟨hold, List.all_eq_true.mpr fun b hb => ?_⟩
  by_cases hf : b ∈ fr
  · have ha := hask b hb
    rw [ask_eq] at ha
    have h0 := I.own b hb
    cases I.rsn b hf with
    | own rk e h1 =>
      unfold reasonB
      rw [e]
      simp only [if_true, decide_true, Bool.true_and]
      refine decide_eq_true ?_
      rw [pmax_eq]; omega
    | parts rk e h1 h2 h3 =>
      have e1 : asked b L = L b.nm := by omega
      unfold reasonB
      rw [e]
      simp only
      rw [if_neg (by decide), if_pos trivial]
      refine Bool.and_eq_true_iff.mpr ⟨Bool.and_eq_true_iff.mpr ⟨Bool.and_eq_true_iff.mpr ⟨decide_eq_true trivial, List.all_eq_true.mpr fun p hp => decide_eq_true (h3 e1 p hp)⟩, h1⟩, decide_eq_true e1.symm⟩
    | part rk p hp e h1 h2 h3 =>
      have h4 := asked_ge_part (L := L) h1 (fun z => by rw [I.leaf b hb z] at hp; cases hp) hp
      have e1 : L p.nm = L b.nm := by omega
      unfold reasonB
      rw [e]
      simp only
      rw [if_neg (by decide), if_neg (by decide), if_pos trivial, h1]
      refine Bool.and_eq_true_iff.mpr ⟨Bool.and_eq_true_iff.mpr ⟨Bool.and_eq_true_iff.mpr ⟨Bool.and_eq_true_iff.mpr ⟨rfl, decide_eq_true (List.mem_map.mpr ⟨p, hp, rfl⟩)⟩, decide_eq_true (by omega)⟩, decide_eq_true (h3 e1)⟩, decide_eq_true e1.symm⟩
    | alike rk d hd e h1 h2 h3 =>
      unfold reasonB
      rw [e]
      simp only
      rw [if_neg (by decide), if_neg (by decide), if_neg (by decide), decide_eq_false (show ¬ b.b.grp = 0 by omega)]
      refine Bool.and_eq_true_iff.mpr ⟨Bool.and_eq_true_iff.mpr ⟨Bool.and_eq_true_iff.mpr ⟨Bool.and_eq_true_iff.mpr ⟨decide_eq_true trivial, rfl⟩, decide_eq_true ?_⟩, decide_eq_true h3⟩, decide_eq_true (I.grp b hf d hd h1.symm h2)⟩
      refine List.mem_map.mpr ⟨d, List.mem_filter.mpr ⟨I.sub d hd, ?_⟩, rfl⟩
      simp only [Bool.and_eq_true, decide_eq_true_eq]
      omega
  · exact I.fixR b hb hf

/-! ### the ring: from each that rises a way to one that rose ahead of it -/
/-- what is told of two rounds, one behind the other: Lp the leasts ahead of the earlier one, L behind it, the later one makes b rise -/
theorem ring_step (I : RInv bs fr n L R) {Lp : Str → Int} (hLp : ∀ b ∈ fr, L b.nm = (newOf Lp fr b).1) (hFp : ∀ b ∈ bs, b ∉ fr → L b.nm = Lp b.nm) (hmp : ∀ b ∈ bs, Lp b.nm ≤ L b.nm) {b : Tr} (hb : b ∈ fr) (hr : L b.nm < (newOf L fr b).1) (t : Int) :
    (∃ rk, reasonAt b L (newOf L fr b).1 (newOf L fr b).2 t = ⟨"parts", "", rk⟩ ∧ ∃ p ∈ b.ps, p ∈ fr ∧ Lp p.nm < L p.nm) ∨
    (∃ rk, ∃ p ∈ fr, reasonAt b L (newOf L fr b).1 (newOf L fr b).2 t = ⟨"part", p.nm, rk⟩ ∧ Lp p.nm < L p.nm) ∨
    (∃ rk, ∃ c ∈ fr, reasonAt b L (newOf L fr b).1 (newOf L fr b).2 t = ⟨"alike", c.nm, rk⟩ ∧ L c.nm < (newOf L fr c).1) := by
  have hbs := I.sub b hb
  -- what b asked for ahead is no more than it has
  have h1 : ask b Lp ≤ L b.nm := by rw [hLp b hb]; exact new_ge I.ofr hb
  rw [ask_eq] at h1
  unfold reasonAt
  rw [if_neg (by omega)]
  have rose : ∀ p ∈ b.ps, Lp p.nm < L p.nm → p ∈ fr := fun p hp h => Classical.byContradiction fun z => by
    have := hFp p (I.cl b hbs p hp) z; omega
  by_cases c2 : asked b L = (newOf L fr b).1
  · rw [if_pos c2]
    by_cases hs : sumsB b = true
    · have ea : askerF b L = (("parts" : Str), ("" : Str)) := by unfold askerF; rw [if_pos hs]
      rw [ea]
      refine .inl ⟨_, rfl, Classical.byContradiction fun z => ?_⟩
      have e : asked b L = asked b Lp := asked_ext fun p hp => by
        have h2 := hmp p (I.cl b hbs p hp)
        by_cases h3 : Lp p.nm < L p.nm
        · exact absurd ⟨p, hp, rose p hp h3, h3⟩ z
        · omega
      omega
    · have hs : sumsB b = false := by simpa using hs
      cases ef : b.ps.find? fun p => decide (L p.nm = asked b L) with
      | none =>
        exfalso
        have hn := List.find?_eq_none.mp ef
        have hkd := asked_not_sums hs
        have q : ∀ l : List Tr, maxL (lsOf l L) = 0 ∨ ∃ p ∈ l, L p.nm = maxL (lsOf l L) := fun l => by
          cases l with
          | nil => exact .inl rfl
          | cons a r =>
            have hmm := maxL_mem (l := lsOf (a :: r) L) (by simp [lsOf])
            obtain ⟨p, hp, e⟩ := List.mem_map.mp hmm
            exact .inr ⟨p, hp, e⟩
        have z : asked b L = 0 ∨ ∃ p ∈ b.ps, L p.nm = asked b L := by
          unfold asked
          cases e : b.b.kd with
          | leaf => exact .inl rfl
          | row => exact absurd e hkd.2
          | col => exact q _
          | wrap => exact q _
          | table => exact absurd e hkd.1
        rcases z with z | ⟨p, hp, z⟩
        · have := I.ofr b hb
          omega
        · have := hn p hp
          simp at this
          exact this z
      | some p =>
        have hp := List.mem_of_find?_eq_some ef
        have hpe : L p.nm = asked b L := by simpa using List.find?_some ef
        have ea : askerF b L = (("part" : Str), p.nm) := by
          unfold askerF
          rw [if_neg (by rw [hs]; decide), ef]
        rw [ea]
        have h3 := asked_ge_part (L := Lp) hs (fun z => by rw [I.leaf b hbs z] at hp; cases hp) hp
        have h4 : Lp p.nm < L p.nm := by omega
        exact .inr (.inl ⟨_, p, rose p hp h4, rfl, h4⟩)
  · rw [if_neg c2]
    obtain ⟨d, hd, e1, e2⟩ := new_by I.ofr hb (L := L)
    rcases e2 with rfl | ⟨g1, g2, g3⟩
    · exfalso
      rw [ask_eq] at e1
      omega
    · refine .inr (.inr ⟨_, d, hd, by rw [g3], ?_⟩)
      rw [← new_same I.ofr hb g2 g1.symm (L := L), ← I.grp b hb d hd g1.symm g2]
      exact hr
end
end

end BG
set_option maxHeartbeats 4000000
namespace BG
open PySem PySem.Spec PyProof.Rows L2

def Ev (e : TE) (σ : L2.St) (H : Hp) (v : V) : Prop := ∀ Q : VK, Q v H → e σ H Q
def EvA (t : TA) (σ : L2.St) (H : Hp) (vs : List V) : Prop := ∀ Q : List V → Hp → Prop, Q vs H → t σ H Q
def EvT (c : TT) (σ : L2.St) (H : Hp) (b : Bool) : Prop := ∀ Q : Bool → Hp → Prop, Q b H → c σ H Q
def EvO (c : TO) (σ : L2.St) (H : Hp) (o : Option Int) : Prop := ∀ Q : Option Int → Hp → Prop, Q o H → c σ H Q
def Rv (r : R2) (x y : V) (H : Hp) (z : V) : Prop := ∀ Q : VK, Q z H → r x y H Q
def Cv (r : List V → Hp → VK → Prop) (xs : List V) (H : Hp) (z : V) : Prop := ∀ Q : VK, Q z H → r xs H Q
section
variable {σ : L2.St} {H : Hp} {x y z v : V} {ta tb e : TE} {t u : TA} {i j : Int} {n : Nat} {K : PySem.W.Frag} {r : R2} {a p : Addr} {xs ys : List V} {b c : Bool} {f : Str}
theorem ev_c : Ev (tC v) σ H v := fun _ q => q
theorem ev_var (h : σ[n]? = some (some v)) : Ev (tVar n) σ H v := fun _ q => ⟨v, h, q⟩
theorem ev_op (ha : Ev ta σ H x) (hb : Ev tb σ H y) (hr : Rv r x y H z) : Ev (tOp r ta tb) σ H z := fun Q q => ha _ (hb _ (hr Q q))
theorem ev_un {r : V → Hp → VK → Prop} (ha : Ev ta σ H x) (hr : ∀ Q : VK, Q z H → r x H Q) : Ev (tUn r ta) σ H z := fun Q q => ha _ (hr Q q)
theorem ev_neg (ha : Ev ta σ H (.int i)) : Ev (tUn qNeg ta) σ H (.int (-i)) := ev_un ha fun _ q => ⟨_, rfl, q⟩
theorem rv_add : Rv qAdd (.int i) (.int j) H (.int (i + j)) := fun _ q => ⟨_, _, rfl, rfl, q⟩
theorem rv_sub : Rv qSub (.int i) (.int j) H (.int (i - j)) := fun _ q => ⟨_, _, rfl, rfl, q⟩
theorem rv_mul (h : CMul i j) : Rv qMul (.int i) (.int j) H (.int (i * j)) := fun _ q => ⟨_, _, rfl, rfl, h, q⟩
theorem rv_fdiv (h : CDivW i j) : Rv qFdiv (.int i) (.int j) H (.int (i / j)) := fun _ q => ⟨_, _, rfl, rfl, h, q⟩
theorem rv_mod (h : 0 < j) : Rv qMod (.int i) (.int j) H (.int (i % j)) := fun _ q => ⟨_, _, rfl, rfl, h, q⟩
theorem rv_pow (h : CPow i j) : Rv qPow (.int i) (.int j) H (.int (i ^ j.toNat)) := fun _ q => ⟨_, _, rfl, rfl, h, q⟩
theorem rv_lt : Rv qLt (.int i) (.int j) H (.bl (decide (i < j))) := fun _ q => ⟨_, _, rfl, rfl, q⟩
theorem rv_le : Rv qLe (.int i) (.int j) H (.bl (decide (i ≤ j))) := fun _ q => ⟨_, _, rfl, rfl, q⟩
theorem rv_gt : Rv qGt (.int i) (.int j) H (.bl (decide (j < i))) := fun _ q => ⟨_, _, rfl, rfl, q⟩
theorem rv_ge : Rv qGe (.int i) (.int j) H (.bl (decide (j ≤ i))) := fun _ q => ⟨_, _, rfl, rfl, q⟩
theorem rv_eqI : Rv rEq (.int i) (.int j) H (.bl (decide (i = j))) := fun _ q => ⟨rfl, by
  have e : decide (V.int i = V.int j) = decide (i = j) := by simp
  rw [e]; exact q⟩
theorem rv_neI : Rv rNe (.int i) (.int j) H (.bl (!decide (i = j))) := fun _ q => ⟨rfl, by
  have e : decide (V.int i = V.int j) = decide (i = j) := by simp
  rw [e]; exact q⟩
theorem rv_eqS {s s' : Str} : Rv rEq (.str s) (.str s') H (.bl (decide (s = s'))) := fun _ q => ⟨rfl, by
  have e : decide (V.str s = V.str s') = decide (s = s') := by simp
  rw [e]; exact q⟩
theorem rv_neS {s s' : Str} : Rv rNe (.str s) (.str s') H (.bl (!decide (s = s'))) := fun _ q => ⟨rfl, by
  have e : decide (V.str s = V.str s') = decide (s = s') := by simp
  rw [e]; exact q⟩
theorem rv_addS {s s' : Str} (h : s.length + s'.length ≤ sizeLine) : Rv qAddS (.str s) (.str s') H (.str (s ++ s')) := fun _ q => ⟨_, _, rfl, rfl, h, q⟩
theorem rv_notB : Rv rNotB (.bl b) (.bl c) H (.bl (!decide (b = c))) := fun _ q => ⟨_, _, rfl, rfl, q⟩
theorem rv_isN : Rv qIsN x .non H (.bl (decide (x = .non))) := fun _ q => ⟨rfl, q⟩
theorem rv_neB : Rv rNe (.bl b) (.bl c) H (.bl (!decide (b = c))) := fun _ q => ⟨rfl, by
  have e : decide (V.bl b = V.bl c) = decide (b = c) := by simp
  rw [e]; exact q⟩
theorem rv_ixT (h : H p = some (.tup xs)) (e : atI xs i = some v) : Rv (rIxT K) (.ref p) (.int i) H v := fun _ q => ⟨_, _, _, _, rfl, rfl, SqT.of h, e, q⟩
theorem rv_ixL (h : H p = some (.lst xs)) (e : atI xs i = some v) : Rv (rIxL K) (.ref p) (.int i) H v := fun _ q => ⟨_, _, _, _, rfl, rfl, SqL.of h, e, q⟩
theorem rv_ixLn (h : H p = some (.lst xs)) (e : xs[n]? = some v) : Rv (rIxL K) (.ref p) (.int (n : Nat)) H v := rv_ixL h (atI_nat e)
theorem rv_ixS {s : Str} {ch : Nat} (h : s.length ≤ sizeLine) (e : atI s.cps.toList i = some ch) : Rv rIxS (.str s) (.int i) H (.str ⟨#[ch]⟩) := fun _ q => ⟨_, _, _, rfl, rfl, h, e, q⟩
theorem rv_inL {neg : Bool} (h : H p = some (.lst xs)) (hf : flatV x = true) (ha : xs.all flatV = true) : Rv (rIn K neg) x (.ref p) H (.bl (if neg then !inV x xs else inV x xs)) := fun _ q => ⟨_, _, rfl, .inl (SqL.of h), hf, ha, q⟩
theorem rv_inT {neg : Bool} (h : H p = some (.tup xs)) (hf : flatV x = true) (ha : xs.all flatV = true) : Rv (rIn K neg) x (.ref p) H (.bl (if neg then !inV x xs else inV x xs)) := fun _ q => ⟨_, _, rfl, .inr (SqT.of h), hf, ha, q⟩
theorem ev_nil : EvA tNil σ H [] := fun _ q => q
theorem ev_cons (ha : Ev ta σ H x) (ht : EvA t σ H xs) : EvA (tCons ta t) σ H (x :: xs) := fun _ q => ha _ (ht _ q)
theorem ev_cb {r : List V → Hp → VK → Prop} (ht : EvA t σ H xs) (hr : Cv r xs H z) : Ev (tCB r t) σ H z := fun Q q => ht _ (hr Q q)
theorem ev_call {sp : Sp} {E : XK} (ht : EvA t σ H xs) (hr : Cv (fun vs H Q => sp vs H Q E) xs H z) : Ev (tCallR sp E t) σ H z := fun Q q => ht _ (hr Q q)
theorem cv_max : Cv qMax2 [.int i, .int j] H (.int (pmax i j)) := fun _ q => ⟨_, _, rfl, q⟩
theorem cv_lenL (h : H p = some (.lst xs)) : Cv (qLen K) [.ref p] H (.int xs.length) := fun _ q => ⟨_, _, rfl, .inl (SqL.of h), q⟩
theorem cv_lenT (h : H p = some (.tup xs)) : Cv (qLen K) [.ref p] H (.int xs.length) := fun _ q => ⟨_, _, rfl, .inr (SqT.of h), q⟩
theorem cv_lenD {kvs : List (Key × V)} (h : H p = some (.dK kvs)) : Cv qLenD [.ref p] H (.int kvs.length) := fun _ q => ⟨_, _, rfl, h, q⟩
theorem cv_lenS {s : Str} (h : s.length ≤ sizeLine) : Cv qLenT [.str s] H (.int s.length) := fun _ q => ⟨_, rfl, h, q⟩
theorem cv_sum {ns : List Int} (h : H p = some (.lst (ns.map V.int))) : Cv (rSum K) [.ref p] H (.int ns.sum) := fun _ q => ⟨_, _, rfl, SqL.of h, q⟩
theorem cv_all {bs : List Bool} (h : H p = some (.lst (bs.map V.bl))) : Cv (rAll K) [.ref p] H (.bl (bs.all id)) := fun _ q => ⟨_, _, rfl, SqL.of h, q⟩
theorem cv_any {bs : List Bool} (h : H p = some (.lst (bs.map V.bl))) : Cv (rAny K) [.ref p] H (.bl (bs.any id)) := fun _ q => ⟨_, _, rfl, SqL.of h, q⟩
theorem cv_intB : Cv qInt1 [.bl b] H (.int (if b then 1 else 0)) := fun _ q => .inr ⟨_, rfl, q⟩
/-- an attribute that an instance has -/
def FldAt (K : PySem.W.Frag) (H : Hp) (a : Addr) (f : Str) (v : V) : Prop := ∃ C dx fs, H a = some (.ins C dx fs) ∧ Cls K C ∧ NoAttr K C f ∧ fs.lookup f = some v
theorem ev_fld (ha : Ev ta σ H (.ref a)) (h : FldAt K H a f v) : Ev (tFld K ta f) σ H v := fun _ q => ha _ (let ⟨C, dx, fs, h1, h2, h3, h4⟩ := h; ⟨a, C, dx, fs, v, rfl, h1, h2, h3, h4, q⟩)
theorem ev_dget {k : Key} {kvs : List (Key × V)} (ha : Ev ta σ H (.ref a)) (hb : Ev tb σ H (kV k)) (h : Rd H a (.dK kvs)) (e : valV kvs k = some v) : Ev (tDGet ta tb) σ H v := fun _ q => ha _ (hb _ ⟨a, v, rfl, .inl ⟨kvs, k, h, rfl, e.symm⟩, q⟩)
theorem ev_dgetS {k : Str} {kvs : List (Key × V)} (ha : Ev ta σ H (.ref a)) (hb : Ev tb σ H (.str k)) (h : Rd H a (.dK kvs)) (e : valV kvs (.inr k) = some v) : Ev (tDGet ta tb) σ H v := ev_dget (k := .inr k) ha hb h e
theorem ev_dgetI {k : Int} {kvs : List (Key × V)} (ha : Ev ta σ H (.ref a)) (hb : Ev tb σ H (.int k)) (h : Rd H a (.dK kvs)) (e : valV kvs (.inl k) = some v) : Ev (tDGet ta tb) σ H v := ev_dget (k := .inl k) ha hb h e
/-- what a dict of whole numbers by names holds -/
def HasD (H : Hp) (d : Addr) (k : Str) (v : V) : Prop := ∃ kvs : List (Key × V), Rd H d (.dK kvs) ∧ valV kvs (.inr k) = some v
theorem ev_has {k : Str} (ha : Ev ta σ H (.ref a)) (hb : Ev tb σ H (.str k)) (h : HasD H a k v) : Ev (tDGet ta tb) σ H v := let ⟨_, h1, h2⟩ := h; ev_dgetS ha hb h1 h2
theorem ev_din {k : Key} {kvs : List (Key × V)} (hb : Ev tb σ H (kV k)) (ha : Ev ta σ H (.ref a)) (h : Rd H a (.dK kvs)) : Ev (tDIn tb ta) σ H (.bl (valV kvs k).isSome) := fun _ q => hb _ (ha _ ⟨a, _, rfl, .inl ⟨kvs, k, h, rfl, rfl⟩, q⟩)
theorem evt_test (h : Ev ta σ H (.bl b)) : EvT (tTest ta) σ H b := fun _ q => h _ ⟨b, rfl, q⟩
theorem evt_b (h : Ev ta σ H (.bl b)) : EvT (tB ta) σ H b := fun _ q => h _ ⟨b, rfl, q⟩
theorem evt_and {s1 s2 : TT} (h1 : EvT s1 σ H b) (h2 : b = true → EvT s2 σ H c) : EvT (tAnd s1 s2) σ H (b && c) := fun Q q => h1 _ (by
  cases b with
  | true => exact h2 rfl _ q
  | false => exact q)
theorem evt_or {s1 s2 : TT} (h1 : EvT s1 σ H b) (h2 : b = false → EvT s2 σ H c) : EvT (tOr s1 s2) σ H (b || c) := fun Q q => h1 _ (by
  cases b with
  | false => exact h2 rfl _ q
  | true => exact q)
theorem evt_not {s1 : TT} (h1 : EvT s1 σ H b) : EvT (tNot s1) σ H (!b) := fun Q q => h1 _ q
theorem ev_andV (h1 : Ev ta σ H (.bl b)) (h2 : b = true → Ev tb σ H (.bl c)) : Ev (tAndV ta tb) σ H (.bl (b && c)) := fun Q q => h1 _ ⟨b, rfl, by
  cases b with
  | true => exact h2 rfl _ q
  | false => exact q⟩
theorem ev_orV (h1 : Ev ta σ H (.bl b)) (h2 : b = false → Ev tb σ H (.bl c)) : Ev (tOrV ta tb) σ H (.bl (b || c)) := fun Q q => h1 _ ⟨b, rfl, by
  cases b with
  | false => exact h2 rfl _ q
  | true => exact q⟩
theorem ev_notV (h1 : Ev ta σ H (.bl b)) : Ev (tNotV ta) σ H (.bl (!b)) := fun Q q => h1 _ ⟨b, rfl, q⟩
theorem evo_no : EvO tNoPart σ H none := fun _ q => q
theorem evo_part (h : Ev ta σ H (.int i)) : EvO (tPart ta) σ H (some i) := fun _ q => h _ ⟨i, rfl, q⟩
/-- a quiet one's way on -/
theorem Ev.go (h : Ev ta σ H v) {Q : VK} (q : Q v H) : ta σ H Q := h Q q
theorem cmul_modL {m : Int} (h : 0 < m) (h2 : m < 2 ^ 64) : CMul (i % m) j := .inl ⟨by have := Int.emod_nonneg i (show m ≠ 0 by omega); omega, by have := Int.emod_lt_of_pos i h; omega⟩
theorem cmul_modR {m : Int} (h : 0 < m) (h2 : m < 2 ^ 64) : CMul i (j % m) := .inr ⟨by have := Int.emod_nonneg j (show m ≠ 0 by omega); omega, by have := Int.emod_lt_of_pos j h; omega⟩
/-! statements -/
variable {D : Ends} {s1 s2 s3 : TS} {tt : TT}
theorem s_asgQ (h : ta σ H fun v H1 => s2 D (σ.set n (some v)) H1) : tSeq (tAsg ta (gName n)) s2 D σ H := h
theorem s_asg (h : Ev ta σ H v) (k : s2 D (σ.set n (some v)) H) : tSeq (tAsg ta (gName n)) s2 D σ H := h _ k
theorem e_asg (h : Ev ta σ H v) (k : D.nx (σ.set n (some v)) H) : tAsg ta (gName n) D σ H := h _ k
theorem e_asgQ (h : ta σ H fun v H1 => D.nx (σ.set n (some v)) H1) : tAsg ta (gName n) D σ H := h
theorem e_ret (h : Ev ta σ H v) (k : D.rt v H) : tRet ta D σ H := h _ k
theorem s_ifN (h : EvT tt σ H b) (k1 : b = true → s1 { D with nx := s2 D } σ H) (k2 : b = false → s2 D σ H) : tSeq (tIfS tt s1 tNext) s2 D σ H := h _ (by
  cases b with
  | true => exact k1 rfl
  | false => exact k2 rfl)
theorem e_if (h : EvT tt σ H b) (k1 : b = true → s1 D σ H) (k2 : b = false → s2 D σ H) : tIfS tt s1 s2 D σ H := h _ (by
  cases b with
  | true => exact k1 rfl
  | false => exact k2 rfl)
theorem s_if (h : EvT tt σ H b) (k1 : b = true → s1 { D with nx := s3 D } σ H) (k2 : b = false → s2 { D with nx := s3 D } σ H) : tSeq (tIfS tt s1 s2) s3 D σ H := h _ (by
  cases b with
  | true => exact k1 rfl
  | false => exact k2 rfl)
/-- an append: H' is what stands then -/
theorem app_go (ha : Ev ta σ H (.ref p)) (hb : Ev tb σ H v) (hl : H p = some (.lst xs)) (hn : xs.length < 100000) (k : D.nx σ (upd H p (.lst (xs ++ [v])))) : tDrop (tBM K "list" rAppend ta (tCons tb tNil)) D σ H :=
  ha _ ⟨.inl ⟨rfl, _, SqL.of hl⟩, hb _ ⟨p, xs, v, rfl, rfl, hl, szl hn, k⟩⟩
theorem s_app (ha : Ev ta σ H (.ref p)) (hb : Ev tb σ H v) (hl : H p = some (.lst xs)) (hn : xs.length < 100000) (k : s2 D σ (upd H p (.lst (xs ++ [v])))) : tSeq (tDrop (tBM K "list" rAppend ta (tCons tb tNil))) s2 D σ H :=
  app_go (D := { D with nx := s2 D }) ha hb hl hn k
/-- a new list or tuple as an argument or a value -/
theorem tup_go {Q : VK} (ht : EvA t σ H xs) (k : ∀ p H', Ex H H' → H p = none → H' p = some (.tup xs) → Q (.ref p) H') (hn : xs.length ≤ 100000 := by simp) : tTup t σ H Q := ht _ ⟨sz hn, fun p hp => k p _ (Ex.new hp) hp upd_same⟩
theorem lst_go {Q : VK} (ht : EvA t σ H xs) (k : ∀ p H', Ex H H' → H p = none → H' p = some (.lst xs) → Q (.ref p) H') (hn : xs.length ≤ 100000 := by simp) : tLst t σ H Q := ht _ ⟨sz hn, fun p hp => k p _ (Ex.new hp) hp upd_same⟩
theorem newK_go {Q : VK} (k : ∀ p H', Ex H H' → H p = none → H' p = some (.dK []) → Q (.ref p) H') : tDNewK σ H Q := fun p hp => k p _ (Ex.new hp) hp upd_same
theorem newT_go {Q : VK} (k : ∀ p H', Ex H H' → H p = none → H' p = some (.dT []) → Q (.ref p) H') : tDNewT σ H Q := fun p hp => k p _ (Ex.new hp) hp upd_same
/-- d[k] = v -/
theorem put_go {kvs : List (Key × V)} {k : Key} {tk tv : TE} (hv : Ev tv σ H v) (ha : Ev ta σ H (.ref a)) (hk : Ev tk σ H (kV k)) (hd : H a = some (.dK kvs)) (hn : kvs.length < 100000) (q : D.nx σ (upd H a (.dK (putK kvs k v)))) : sDPut ta tk tv D σ H :=
  hv _ (ha _ (hk _ ⟨a, _, rfl, .inl ⟨kvs, k, hd, rfl, szl hn, rfl⟩, q⟩))
theorem s_put {kvs : List (Key × V)} {k : Key} {tk tv : TE} (hv : Ev tv σ H v) (ha : Ev ta σ H (.ref a)) (hk : Ev tk σ H (kV k)) (hd : H a = some (.dK kvs)) (hn : kvs.length < 100000) (q : s2 D σ (upd H a (.dK (putK kvs k v)))) : tSeq (sDPut ta tk tv) s2 D σ H :=
  put_go (D := { D with nx := s2 D }) hv ha hk hd hn q
/-- unpacking a tuple -/
theorem gT {m : Nat} {g : TGs} {Q : L2.St → Hp → Prop} (h : H p = some (.tup xs)) (hn : xs.length = m) (k : g xs σ H Q) : gTup K m g (.ref p) σ H Q := ⟨p, xs, rfl, SqT.of h, hn, k⟩
theorem g2 {n1 n2 : Nat} {Q : L2.St → Hp → Prop} (k : Q ((σ.set n1 (some x)).set n2 (some y)) H) : gCons (gName n1) (gCons (gName n2) gNil) [x, y] σ H Q := ⟨x, [y], rfl, y, [], rfl, rfl, k⟩
theorem g3 {n1 n2 n3 : Nat} {Q : L2.St → Hp → Prop} (k : Q (((σ.set n1 (some x)).set n2 (some y)).set n3 (some z)) H) : gCons (gName n1) (gCons (gName n2) (gCons (gName n3) gNil)) [x, y, z] σ H Q := ⟨x, _, rfl, y, _, rfl, z, [], rfl, rfl, k⟩
theorem g4 {n1 n2 n3 n4 : Nat} {Q : L2.St → Hp → Prop} (k : Q ((((σ.set n1 (some x)).set n2 (some y)).set n3 (some z)).set n4 (some v)) H) : gCons (gName n1) (gCons (gName n2) (gCons (gName n3) (gCons (gName n4) gNil))) [x, y, z, v] σ H Q := ⟨x, _, rfl, y, _, rfl, z, _, rfl, v, [], rfl, rfl, k⟩
end
section
variable {σ : L2.St} {H : Hp} {x y z v : V} {ta tb e : TE} {t u : TA} {i j : Int} {n m : Nat} {K : PySem.W.Frag} {r : R2} {a p : Addr} {xs ys : List V} {Q : VK} {QA : List V → Hp → Prop} {D : Ends} {s2 : TS}
theorem retC (h : ta σ H D.rt) : tRet ta D σ H := h
def TupK (Q : VK) (xs : List V) (H : Hp) : Prop := xs.length ≤ sizeLine ∧ ∀ p, H p = none → Q (.ref p) (upd H p (.tup xs))
def LstK (Q : VK) (xs : List V) (H : Hp) : Prop := xs.length ≤ sizeLine ∧ ∀ p, H p = none → Q (.ref p) (upd H p (.lst xs))
theorem tupC (h : t σ H (TupK Q)) : tTup t σ H Q := h
theorem tup_end {H : Hp} (k : ∀ p H', Ex H H' → H p = none → H' p = some (.tup xs) → Q (.ref p) H') (hn : xs.length ≤ 100000 := by simp) : TupK Q xs H := ⟨sz hn, fun p hp => k p _ (Ex.new hp) hp upd_same⟩
theorem lstC (h : t σ H (LstK Q)) : tLst t σ H Q := h
theorem lst_end {H : Hp} (k : ∀ p H', Ex H H' → H p = none → H' p = some (.lst xs) → Q (.ref p) H') (hn : xs.length ≤ 100000 := by simp) : LstK Q xs H := ⟨sz hn, fun p hp => k p _ (Ex.new hp) hp upd_same⟩
theorem consC (h : ta σ H fun x H1 => t σ H1 fun xs H2 => QA (x :: xs) H2) : tCons ta t σ H QA := h
theorem consQ (ha : Ev ta σ H x) (h : t σ H fun xs H2 => QA (x :: xs) H2) : tCons ta t σ H QA := ha _ h
theorem nilC (h : QA [] H) : tNil σ H QA := h
theorem opC (h : ta σ H fun x H1 => tb σ H1 fun y H2 => r x y H2 Q) : tOp r ta tb σ H Q := h
theorem opQ (ha : Ev ta σ H x) (h : tb σ H fun y H2 => r x y H2 Q) : tOp r ta tb σ H Q := ha _ h
theorem opR {H2 : Hp} (hb : Ev tb σ H y) (hr : Rv r x y H z) (q : Q z H) : tb σ H fun y H2 => r x y H2 Q := hb _ (hr _ q)
theorem cbC {r : List V → Hp → VK → Prop} (h : t σ H fun vs H1 => r vs H1 Q) : tCB r t σ H Q := h
theorem cbQ {r : List V → Hp → VK → Prop} (ht : EvA t σ H xs) (h : r xs H Q) : tCB r t σ H Q := ht _ h
theorem callC {sp : Sp} {E : XK} (h : t σ H fun vs H1 => sp vs H1 Q E) : tCallR sp E t σ H Q := h
theorem callQ {sp : Sp} {E : XK} (ht : EvA t σ H xs) (h : sp xs H Q E) : tCallR sp E t σ H Q := ht _ h
theorem seqC {s1 : TS} (h : s1 { D with nx := s2 D } σ H) : tSeq s1 s2 D σ H := h
theorem dropC (h : ta σ H fun _ H1 => D.nx σ H1) : tDrop ta D σ H := h
theorem asgC {g : TG} (h : ta σ H fun x H1 => g x σ H1 D.nx) : tAsg ta g D σ H := h
theorem asgQ {g : TG} (ha : Ev ta σ H x) (h : g x σ H D.nx) : tAsg ta g D σ H := ha _ h
theorem evA_go (h : EvA t σ H xs) (q : QA xs H) : t σ H QA := h _ q
/-- a pick of a short list -/
theorem pick {α : Type} {xs : List α} {n : Int} {m : Nat} (h : xs.length = m) (hm : 0 < m) : ∃ v, v ∈ xs ∧ atI xs (n % (m : Int)) = some v := by
  have h0 : 0 ≤ n % (m : Int) := Int.emod_nonneg _ (by omega)
  have h1 : n % (m : Int) < m := Int.emod_lt_of_pos _ (by omega)
  obtain ⟨k, hk⟩ : ∃ k : Nat, n % (m : Int) = k := ⟨_, (Int.toNat_of_nonneg h0).symm⟩
  have hl : k < xs.length := by omega
  exact ⟨xs[k], List.getElem_mem _, by rw [hk]; exact atI_nat (List.getElem?_eq_getElem hl)⟩
theorem pickL (m : Nat) (mi : Int) (ht : EvA t σ H xs) (e : (m : Int) = mi) (hn : xs.length = m) (hm : 0 < m) (hm2 : m ≤ 1000) (hb : ∀ H', Ev tb σ H' (.int (i % mi))) (k : ∀ v H', v ∈ xs → Ex H H' → Q v H') : tOp (rIxL K) (tLst t) tb σ H Q := by
  refine ht _ ⟨sz (by omega), fun p hp => hb _ _ ?_⟩
  obtain ⟨v, hv, ev⟩ := pick (n := i) hn hm
  subst e
  exact ⟨_, _, _, _, rfl, rfl, SqL.of upd_same, ev, k v _ hv (Ex.new hp)⟩
end
section
variable {σ : L2.St} {H : Hp} {x y z v : V} {ta tb e : TE} {t u : TA} {i j : Int} {n m : Nat} {K : PySem.W.Frag} {a p : Addr} {xs ys : List V} {Q : VK} {D : Ends}
/-- tuple(list) -/
theorem tupOf_go (hl : H p = some (.lst ys)) (k : ∀ q H', Ex H H' → H q = none → H' q = some (.tup ys) → Q (.ref q) H') : qTup K [.ref p] H Q := ⟨p, ys, rfl, .inl ⟨SqL.of hl, fun l h => k l _ (Ex.new h) h upd_same⟩⟩
/-- list(list), list(tuple) -/
theorem lstOf_go (hl : H p = some (.lst ys)) (k : ∀ q H', Ex H H' → H q = none → H' q = some (.lst ys) → Q (.ref q) H') : qList K [.ref p] H Q := ⟨p, ys, rfl, .inl (SqL.of hl), fun l h => k l _ (Ex.new h) h upd_same⟩
theorem lstOfT_go (hl : H p = some (.tup ys)) (k : ∀ q H', Ex H H' → H q = none → H' q = some (.lst ys) → Q (.ref q) H') : qList K [.ref p] H Q := ⟨p, ys, rfl, .inr (SqT.of hl), fun l h => k l _ (Ex.new h) h upd_same⟩
/-- a + b of lists -/
theorem cat_go (ha : H p = some (.lst xs)) (hb : H a = some (.lst ys)) (hn : xs.length + ys.length ≤ 100000) (k : ∀ q H', Ex H H' → H q = none → H' q = some (.lst (xs ++ ys)) → Q (.ref q) H') : rCat (.ref p) (.ref a) H Q :=
  ⟨p, a, xs, ys, rfl, rfl, ha, hb, sz hn, fun q hq => k q _ (Ex.new hq) hq upd_same⟩
/-- a slice -/
theorem sl_go {lo hi : Option Int} (ha : H p = some (.lst xs)) (k : ∀ q H', Ex H H' → H q = none → H' q = some (.lst (cutV xs lo hi)) → Q (.ref q) H') : rSlL K (.ref p) lo hi H Q := ⟨p, xs, rfl, SqL.of ha, fun q hq => k q _ (Ex.new hq) hq upd_same⟩
theorem slC {r : V → Option Int → Option Int → Hp → VK → Prop} {lo hi : Option Int} {tl th : TO} (he : Ev ta σ H x) (h1 : EvO tl σ H lo) (h2 : EvO th σ H hi) (h : r x lo hi H Q) : tSl r ta tl th σ H Q := he _ (h1 _ (h2 _ h))
/-- a for over a list or tuple that stands still -/
theorem forL {g : TG} {tb : TS} (he : Ev ta σ H (.ref a)) (ha : H a = some (.lst xs)) (Pv : Nat → L2.St → Hp → Prop) (h0 : Pv 0 σ H) (hl : ∀ i σ H, i ≤ xs.length → Pv i σ H → H a = some (.lst xs))
    (hs : ∀ (i : Nat) x σ H, xs[i]? = some x → Pv i σ H → g x σ H fun σ2 H2 => tb { D with nx := Pv (i + 1), ct := Pv (i + 1), bk := D.nx } σ2 H2) (hd : ∀ σ H, Pv xs.length σ H → D.nx σ H) : tFor (iList K ta) g tb D σ H :=
  he _ ⟨a, rfl, ⟨xs, SqL.of ha⟩, for_list Pv h0 (fun i σ H hi p => SqL.of (hl i σ H hi p)) hs hd⟩
theorem forT {g : TG} {tb : TS} (he : Ev ta σ H (.ref a)) (ha : H a = some (.tup xs)) (Pv : Nat → L2.St → Hp → Prop) (h0 : Pv 0 σ H) (hl : ∀ i σ H, i ≤ xs.length → Pv i σ H → H a = some (.tup xs))
    (hs : ∀ (i : Nat) x σ H, xs[i]? = some x → Pv i σ H → g x σ H fun σ2 H2 => tb { D with nx := Pv (i + 1), ct := Pv (i + 1), bk := D.nx } σ2 H2) (hd : ∀ σ H, Pv xs.length σ H → D.nx σ H) : tFor (iTup K ta) g tb D σ H :=
  he _ ⟨a, rfl, ⟨xs, SqT.of ha⟩, for_tup Pv h0 (fun i σ H hi p => SqT.of (hl i σ H hi p)) hs hd⟩
theorem forR {g : TG} {tb : TS} {k : Nat} (he : EvA t σ H [.int k]) (hk : k ≤ 100000) (Pv : Nat → L2.St → Hp → Prop) (h0 : Pv 0 σ H)
    (hs : ∀ i σ H, i < k → Pv i σ H → g (.int (i : Nat)) σ H fun σ2 H2 => tb { D with nx := Pv (i + 1), ct := Pv (i + 1), bk := D.nx } σ2 H2) (hd : ∀ σ H, Pv k σ H → D.nx σ H) : tFor (iRng1 t) g tb D σ H := by
  refine he _ ⟨_, rfl, by omega, by omega, ?_⟩
  rw [Int.toNat_natCast]
  exact for_range Pv h0 (fun i σ H hi p => by rw [Int.zero_add]; exact hs i σ H hi p) hd
theorem forR2 {g : TG} {tb : TS} {lo hi : Int} {k : Nat} (he : EvA t σ H [.int lo, .int hi]) (e : hi = lo + k) (h1 : -100000 ≤ lo) (h2 : lo ≤ 100000) (hk : k ≤ 100000) (Pv : Nat → L2.St → Hp → Prop) (h0 : Pv 0 σ H)
    (hs : ∀ i σ H, i < k → Pv i σ H → g (.int (lo + (i : Nat))) σ H fun σ2 H2 => tb { D with nx := Pv (i + 1), ct := Pv (i + 1), bk := D.nx } σ2 H2) (hd : ∀ σ H, Pv k σ H → D.nx σ H) : tFor (iRng2 t) g tb D σ H := by
  refine he _ ⟨_, _, rfl, ⟨by omega, by omega, by omega, by omega⟩, ?_⟩
  rw [show (hi - lo).toNat = k by omega]
  exact for_range Pv h0 hs hd
/-- a comprehension over a list, all kept: f gives each its value -/
theorem lcL {g : TG} {tt : TT} {te : TE} {ws : List Nat} (he : Ev ta σ H (.ref a)) (ha : H a = some (.lst xs)) (Pv : Addr → Nat → Hp → Prop) (h0 : ∀ D H', Ex H H' → H D = none → H' D = some (.lst []) → Pv D 0 H') (hl : ∀ D i H, i ≤ xs.length → Pv D i H → H a = some (.lst xs))
    (hs : ∀ D (i : Nat) x H, xs[i]? = some x → Pv D i H → g x (wipe σ ws) H fun σ2 H2 => wipe σ2 ws = wipe σ ws ∧ tt σ2 H2 fun b H3 =>
      if b = true then te σ2 H3 fun y H4 => ∃ acc, H4 D = some (.lst acc) ∧ acc.length < sizeLine ∧ Pv D (i + 1) (upd H4 D (.lst (acc ++ [y]))) else Pv D (i + 1) H3) (hd : ∀ D H, Pv D xs.length H → Q (.ref D) H) : tLc (iList K ta) g tt te ws σ H Q :=
  he _ ⟨a, rfl, ⟨xs, SqL.of ha⟩, fun D hD => lc_list (Pv D) (h0 D _ (Ex.new hD) hD upd_same) (fun i H hi p => SqL.of (hl D i H hi p)) (hs D) (hd D)⟩
theorem lcT {g : TG} {tt : TT} {te : TE} {ws : List Nat} (he : Ev ta σ H (.ref a)) (ha : H a = some (.tup xs)) (Pv : Addr → Nat → Hp → Prop) (h0 : ∀ D H', Ex H H' → H D = none → H' D = some (.lst []) → Pv D 0 H') (hl : ∀ D i H, i ≤ xs.length → Pv D i H → H a = some (.tup xs))
    (hs : ∀ D (i : Nat) x H, xs[i]? = some x → Pv D i H → g x (wipe σ ws) H fun σ2 H2 => wipe σ2 ws = wipe σ ws ∧ tt σ2 H2 fun b H3 =>
      if b = true then te σ2 H3 fun y H4 => ∃ acc, H4 D = some (.lst acc) ∧ acc.length < sizeLine ∧ Pv D (i + 1) (upd H4 D (.lst (acc ++ [y]))) else Pv D (i + 1) H3) (hd : ∀ D H, Pv D xs.length H → Q (.ref D) H) : tLc (iTup K ta) g tt te ws σ H Q :=
  he _ ⟨a, rfl, ⟨xs, SqT.of ha⟩, fun D hD => lc_tup (Pv D) (h0 D _ (Ex.new hD) hD upd_same) (fun i H hi p => SqT.of (hl D i H hi p)) (hs D) (hd D)⟩
/-- quiet ones: the new list is just the values, one for each -/
theorem lcLq {te : TE} {k : Nat} {f : List V} (he : Ev ta σ H (.ref a)) (ha : H a = some (.lst xs)) (hf : f.length = xs.length) (hn : xs.length ≤ 100000)
    (hs : ∀ (i : Nat) x H', Ex H H' → xs[i]? = some x → ∀ y, f[i]? = some y → Ev te ((wipe σ [k]).set k (some x)) H' y) (hd : ∀ D H', Ex H H' → H D = none → H' D = some (.lst f) → Q (.ref D) H') (hw : k < σ.length := by exact Nat.le_of_ble_eq_true rfl) : tLc (iList K ta) (gName k) tYes te [k] σ H Q := by
  refine lcL he ha (fun D i H' => Ex H H' ∧ H D = none ∧ H' D = some (.lst (f.take i))) (fun D H' e h1 h2 => ⟨e, h1, by simpa using h2⟩) (fun D i H' hi p => p.1 _ _ ha) (fun D i x H' hx p => ?_) fun D H' p => hd D H' p.1 p.2.1 (by
    have := p.2.2
    rwa [← hf, List.take_length] at this)
  have hi := (List.getElem?_eq_some_iff.mp hx).1
  have hy : f[i]? = some (f[i]'(by omega)) := List.getElem?_eq_getElem _
  refine ⟨?_, ?_⟩
  · show ((σ.set k none).set k (some x)).set k none = σ.set k none
    simp [List.set_set]
  · refine hs i x H' p.1 hx _ hy _ ⟨_, p.2.2, szl (by simp; omega), p.1.mut p.2.1, p.2.1, ?_⟩
    rw [upd_same, List.take_add_one, hy] <;> rfl
theorem lcTq {te : TE} {k : Nat} {f : List V} (he : Ev ta σ H (.ref a)) (ha : H a = some (.tup xs)) (hf : f.length = xs.length) (hn : xs.length ≤ 100000)
    (hs : ∀ (i : Nat) x H', Ex H H' → xs[i]? = some x → ∀ y, f[i]? = some y → Ev te ((wipe σ [k]).set k (some x)) H' y) (hd : ∀ D H', Ex H H' → H D = none → H' D = some (.lst f) → Q (.ref D) H') (hw : k < σ.length := by exact Nat.le_of_ble_eq_true rfl) : tLc (iTup K ta) (gName k) tYes te [k] σ H Q := by
  refine lcT he ha (fun D i H' => Ex H H' ∧ H D = none ∧ H' D = some (.lst (f.take i))) (fun D H' e h1 h2 => ⟨e, h1, by simpa using h2⟩) (fun D i H' hi p => p.1 _ _ ha) (fun D i x H' hx p => ?_) fun D H' p => hd D H' p.1 p.2.1 (by
    have := p.2.2
    rwa [← hf, List.take_length] at this)
  have hi := (List.getElem?_eq_some_iff.mp hx).1
  have hy : f[i]? = some (f[i]'(by omega)) := List.getElem?_eq_getElem _
  refine ⟨?_, ?_⟩
  · show ((σ.set k none).set k (some x)).set k none = σ.set k none
    simp [List.set_set]
  · refine hs i x H' p.1 hx _ hy _ ⟨_, p.2.2, szl (by simp; omega), p.1.mut p.2.1, p.2.1, ?_⟩
    rw [upd_same, List.take_add_one, hy] <;> rfl
end
theorem gen_new {H : Hp} {p : Addr} (o : HO) (h : H p = none) : ∃ H', upd H p o = H' ∧ Ex H H' ∧ H' p = some o := ⟨_, rfl, Ex.new h, upd_same⟩
section
variable {σ : L2.St} {H : Hp} {x1 x2 x3 x4 x5 v : V} {ta : TE} {K : PySem.W.Frag} {xs : List V} {Q : VK} {a p : Addr}
theorem g5 {n1 n2 n3 n4 n5 : Nat} {Q : L2.St → Hp → Prop} (k : Q (((((σ.set n1 (some x1)).set n2 (some x2)).set n3 (some x3)).set n4 (some x4)).set n5 (some x5)) H) : gCons (gName n1) (gCons (gName n2) (gCons (gName n3) (gCons (gName n4) (gCons (gName n5) gNil)))) [x1, x2, x3, x4, x5] σ H Q := ⟨x1, _, rfl, x2, _, rfl, x3, _, rfl, x4, _, rfl, x5, [], rfl, rfl, k⟩
/-- a comprehension over a text's signs, quiet -/
theorem lcSq {te : TE} {k : Nat} {z : Str} {f : List V} (he : Ev ta σ H (.str z)) (hf : f.length = z.cps.size) (hn : z.cps.size ≤ 100000)
    (hs : ∀ (i : Nat) c H', Ex H H' → z.cps[i]? = some c → ∀ y, f[i]? = some y → Ev te ((wipe σ [k]).set k (some (.str ⟨#[c]⟩))) H' y) (hd : ∀ D H', Ex H H' → H D = none → H' D = some (.lst f) → Q (.ref D) H') : tLc (iStr ta) (gName k) tYes te [k] σ H Q := by
  refine he _ ⟨z, rfl, fun D hD => lc_it walk_str (fun i H' => Ex H H' ∧ H' D = some (.lst (f.take i))) ⟨Ex.new hD, by rw [upd_same]; simp⟩ (fun _ _ _ _ => trivial) (fun i x H1 H' hi p hy => ?_) fun H' p => hd D H' p.1 hD (by
    have := p.2
    rwa [← hf, List.take_length] at this)⟩
  obtain ⟨rfl, c, hc, rfl⟩ := hy
  have hy : f[i]? = some (f[i]'(by omega)) := List.getElem?_eq_getElem _
  refine ⟨?_, ?_⟩
  · show ((σ.set k none).set k (some _)).set k none = σ.set k none
    simp [List.set_set]
  · refine hs i c H' p.1 hc _ hy _ ⟨_, p.2, szl (by simp; omega), p.1.mut hD, ?_⟩
    rw [upd_same, List.take_add_one, hy] <;> rfl
end
theorem set_old {σ : L2.St} {n : Nat} {o : Option V} (h : σ[n]? = some o) : σ.set n o = σ := by
  refine List.ext_getElem? fun i => ?_
  by_cases e : n = i
  · subst e
    rw [List.getElem?_set_self (List.getElem?_eq_some_iff.mp h).1, h]
  · rw [List.getElem?_set_ne e]
/-- an if that sets one name, which has a value -/
theorem s_ifAsg {tt : TT} {ta : TE} {σ : L2.St} {H : Hp} {n : Nat} {v old : V} {b : Bool} {s2 : TS} {D : Ends} (h : EvT tt σ H b) (ha : b = true → Ev ta σ H v) (ho : σ[n]? = some (some old)) (k : s2 D (σ.set n (some (if b = true then v else old))) H) : tSeq (tIfS tt (tAsg ta (gName n)) tNext) s2 D σ H := h _ (by
  cases b with
  | true => exact ha rfl _ k
  | false =>
    rw [if_neg (by decide), set_old ho] at k
    exact k)
theorem wipe1 {σ : L2.St} {k : Nat} {y : Option V} : wipe ((wipe σ [k]).set k y) [k] = wipe σ [k] := by
  show ((σ.set k none).set k y).set k none = σ.set k none
  simp [List.set_set]
theorem mod_go {i j : Int} {H : Hp} {Q : VK} (h : 0 < j) (q : Q (.int (i % j)) H) : qMod (.int i) (.int j) H Q := ⟨i, j, rfl, rfl, h, q⟩
theorem add_go {i j : Int} {H : Hp} {Q : VK} (q : Q (.int (i + j)) H) : qAdd (.int i) (.int j) H Q := ⟨i, j, rfl, rfl, q⟩
theorem sub_go {i j : Int} {H : Hp} {Q : VK} (q : Q (.int (i - j)) H) : qSub (.int i) (.int j) H Q := ⟨i, j, rfl, rfl, q⟩
/-- the slots told anew -/
theorem nst {σ σ' : L2.St} {H : Hp} {t : TS} {D : Ends} (e : σ = σ') (h : t D σ' H) : t D σ H := by subst e; exact h
theorem yesC {te : TE} {σ : L2.St} {H : Hp} {QY : VK} {R : Hp → Prop} (h : te σ H QY) : tYes σ H fun b H3 => if b = true then te σ H3 QY else R H3 := by
  show (if true = true then te σ H QY else R H)
  rw [if_pos rfl]
  exact h
section
variable {σ : L2.St} {H : Hp} {ta : TE} {t : TA} {K : PySem.W.Frag} {xs : List V} {Q : VK} {a p : Addr} {g : TG} {tb : TS} {D : Ends} {tt : TT} {te : TE} {ws : List Nat}
/-- a for over a list that an expression gives -/
def ForK (K : PySem.W.Frag) (g : TG) (tb : TS) (D : Ends) (σ : L2.St) (x : V) (H1 : Hp) : Prop := ∃ a, x = .ref a ∧ (∃ xs, SqL K H1 a xs) ∧ ∃ W : Nat → Nat → L2.St → Hp → Prop, (∃ m, W 0 m σ H1) ∧ ∀ i m σ H, W i m σ H →
  ((Itl K a).stop i H ∧ D.nx σ H) ∨ ((Itl K a).go i H ∧ ∃ N : L2.St → Hp → Prop, (∀ σ' H', N σ' H' → ∃ m', m' < m ∧ W (i + 1) m' σ' H') ∧ ∀ x H', (Itl K a).yld i H x H' → g x σ H' fun σ2 H2 => tb { D with nx := N, ct := N, bk := D.nx } σ2 H2)
theorem forLC (h : ta σ H (ForK K g tb D σ)) : tFor (iList K ta) g tb D σ H := h
theorem for_end (ha : H a = some (.lst xs)) (Pv : Nat → L2.St → Hp → Prop) (h0 : Pv 0 σ H) (hl : ∀ i σ H, i ≤ xs.length → Pv i σ H → H a = some (.lst xs))
    (hs : ∀ (i : Nat) x σ H, xs[i]? = some x → Pv i σ H → g x σ H fun σ2 H2 => tb { D with nx := Pv (i + 1), ct := Pv (i + 1), bk := D.nx } σ2 H2) (hd : ∀ σ H, Pv xs.length σ H → D.nx σ H) : ForK K g tb D σ (.ref a) H :=
  ⟨a, rfl, ⟨xs, SqL.of ha⟩, for_list Pv h0 (fun i σ H hi p => SqL.of (hl i σ H hi p)) hs hd⟩
/-- a comprehension over a list that an expression gives -/
def LcK (K : PySem.W.Frag) (g : TG) (tt : TT) (te : TE) (ws : List Nat) (Q : VK) (σ : L2.St) (x : V) (H1 : Hp) : Prop := ∃ a, x = .ref a ∧ (∃ xs, SqL K H1 a xs) ∧ ∀ D, H1 D = none → ∃ W : Nat → Nat → Hp → Prop, (∃ m, W 0 m (upd H1 D (.lst []))) ∧ ∀ i m H, W i m H →
  ((Itl K a).stop i H ∧ Q (.ref D) H) ∨ ((Itl K a).go i H ∧ ∃ Nx : Hp → Prop, (∀ H', Nx H' → ∃ m', m' < m ∧ W (i + 1) m' H') ∧ ∀ x H', (Itl K a).yld i H x H' → g x (wipe σ ws) H' fun σ2 H2 => wipe σ2 ws = wipe σ ws ∧ tt σ2 H2 fun b H3 =>
    if b = true then te σ2 H3 fun y H4 => ∃ acc, H4 D = some (.lst acc) ∧ acc.length < sizeLine ∧ Nx (upd H4 D (.lst (acc ++ [y]))) else Nx H3)
theorem lcLC (h : ta σ H (LcK K g tt te ws Q σ)) : tLc (iList K ta) g tt te ws σ H Q := h
theorem lc_end (ha : H a = some (.lst xs)) (Pv : Addr → Nat → Hp → Prop) (h0 : ∀ D H', Ex H H' → H D = none → H' D = some (.lst []) → Pv D 0 H') (hl : ∀ D i H, i ≤ xs.length → Pv D i H → H a = some (.lst xs))
    (hs : ∀ D (i : Nat) x H, xs[i]? = some x → Pv D i H → g x (wipe σ ws) H fun σ2 H2 => wipe σ2 ws = wipe σ ws ∧ tt σ2 H2 fun b H3 =>
      if b = true then te σ2 H3 fun y H4 => ∃ acc, H4 D = some (.lst acc) ∧ acc.length < sizeLine ∧ Pv D (i + 1) (upd H4 D (.lst (acc ++ [y]))) else Pv D (i + 1) H3) (hd : ∀ D H, Pv D xs.length H → Q (.ref D) H) : LcK K g tt te ws Q σ (.ref a) H :=
  ⟨a, rfl, ⟨xs, SqL.of ha⟩, fun D hD => lc_list (Pv D) (h0 D _ (Ex.new hD) hD upd_same) (fun i H hi p => SqL.of (hl D i H hi p)) (hs D) (hd D)⟩
theorem lcR {k : Nat} (he : EvA t σ H [.int k]) (hk : k ≤ 100000) (Pv : Addr → Nat → Hp → Prop) (h0 : ∀ D H', Ex H H' → H D = none → H' D = some (.lst []) → Pv D 0 H')
    (hs : ∀ D (i : Nat) H, i < k → Pv D i H → g (.int (i : Nat)) (wipe σ ws) H fun σ2 H2 => wipe σ2 ws = wipe σ ws ∧ tt σ2 H2 fun b H3 =>
      if b = true then te σ2 H3 fun y H4 => ∃ acc, H4 D = some (.lst acc) ∧ acc.length < sizeLine ∧ Pv D (i + 1) (upd H4 D (.lst (acc ++ [y]))) else Pv D (i + 1) H3) (hd : ∀ D H, Pv D k H → Q (.ref D) H) : tLc (iRng1 t) g tt te ws σ H Q := by
  refine he _ ⟨_, rfl, by omega, by omega, ?_⟩
  rw [Int.toNat_natCast]
  exact fun D hD => lc_range (Pv D) (h0 D _ (Ex.new hD) hD upd_same) (fun i H hi p => by rw [Int.zero_add]; exact hs D i H hi p) (hd D)
end
theorem putK_len {κ : Type} [DecidableEq κ] (kvs : List (κ × V)) (k : κ) (v : V) : (putK kvs k v).length ≤ kvs.length + 1 := by
  unfold putK
  split <;> simp
section
variable {σ : L2.St} {H : Hp} {ta tb td ty te : TE} {t : TA} {K : PySem.W.Frag} {xs : List V} {Q : VK} {a p : Addr} {D : Ends} {tt : TT} {s1 s2 : TS} {v : V} {n : Nat}
theorem gN {Q : L2.St → Hp → Prop} (h : Q (σ.set n (some v)) H) : gName n v σ H Q := h
def IfK (s1 s2 : TS) (D : Ends) (σ : L2.St) (b : Bool) (H1 : Hp) : Prop := if b = true then s1 D σ H1 else s2 D σ H1
theorem ifC (h : tt σ H (IfK s1 s2 D σ)) : tIfS tt s1 s2 D σ H := h
theorem if_end {b : Bool} (h1 : b = true → s1 D σ H) (h2 : b = false → s2 D σ H) : IfK s1 s2 D σ b H := by
  cases b with
  | true => exact h1 rfl
  | false => exact h2 rfl
def BK (Q : Bool → Hp → Prop) (x : V) (H1 : Hp) : Prop := ∃ c, x = .bl c ∧ Q c H1
theorem bC {Q : Bool → Hp → Prop} (h : te σ H (BK Q)) : tB te σ H Q := h
theorem testC {Q : Bool → Hp → Prop} (h : te σ H (BK Q)) : tTest te σ H Q := h
theorem b_end {Q : Bool → Hp → Prop} {b : Bool} (h : Q b H) : BK Q (.bl b) H := ⟨b, rfl, h⟩
def DinK (td : TE) (σ : L2.St) (Q : VK) (y : V) (H1 : Hp) : Prop := td σ H1 fun x H2 => ∃ a o, x = .ref a ∧ DGet H2 a y o ∧ Q (.bl o.isSome) H2
theorem dinC (h : ty σ H (DinK td σ Q)) : tDIn ty td σ H Q := h
theorem din_end {y : V} {o : Option V} (hd : Ev td σ H (.ref a)) (h : DGet H a y o) (q : Q (.bl o.isSome) H) : DinK td σ Q y H := hd _ ⟨a, o, rfl, h, q⟩
def OpK (r : R2) (tb : TE) (σ : L2.St) (Q : VK) (x : V) (H1 : Hp) : Prop := tb σ H1 fun y H2 => r x y H2 Q
theorem opK {r : R2} (h : ta σ H (OpK r tb σ Q)) : tOp r ta tb σ H Q := h
theorem op_end {r : R2} {x y z : V} (hb : Ev tb σ H y) (hr : Rv r x y H z) (q : Q z H) : OpK r tb σ Q x H := hb _ (hr _ q)
/-- the end of a loop -/
theorem nxC {P : L2.St → Hp → Prop} {rt : VK} {bk ct : L2.St → Hp → Prop} (h : P σ H) : Ends.nx ⟨P, rt, bk, ct⟩ σ H := h
end
theorem valV_none {kvs : List (Key × V)} {k : Key} (h : ∀ p ∈ kvs, p.1 ≠ k) : valV kvs k = none := by
  unfold valV
  rw [List.find?_eq_none.mpr fun p hp => by simpa using h p hp] <;> rfl
theorem valV_mem : ∀ {kvs : List (Key × V)} {k : Key} {v : V}, (kvs.map (·.1)).Nodup → (k, v) ∈ kvs → valV kvs k = some v
  | [], _, _, _, h => by cases h
  | p :: r, k, v, hn, h => by
    rw [List.map_cons, List.nodup_cons] at hn
    rcases List.mem_cons.mp h with e | h
    · subst e; exact valV_pos rfl
    · rw [valV_neg (fun z => hn.1 (by rw [z]; exact List.mem_map.mpr ⟨_, h, rfl⟩))]
      exact valV_mem hn.2 h
theorem valV_some {kvs : List (Key × V)} {k : Key} {v : V} (h : valV kvs k = some v) : (k, v) ∈ kvs := by
  unfold valV at h
  obtain ⟨p, hp, e⟩ := Option.map_eq_some_iff.mp h
  have h1 := List.mem_of_find?_eq_some hp
  have h2 : p.1 = k := by simpa using List.find?_some hp
  cases p
  simp at h2 e
  subst h2 e
  exact h1
theorem wipe2 {σ : L2.St} {k l : Nat} {y z : Option V} (h : k ≠ l) : wipe (((wipe σ [k, l]).set k y).set l z) [k, l] = wipe σ [k, l] := by
  show (((((σ.set l none).set k none).set k y).set l z).set l none).set k none = (σ.set l none).set k none
  refine List.ext_getElem? fun i => ?_
  simp only [List.getElem?_set, List.length_set]
  split <;> simp_all
/-! sorted texts -/
def leS (a b : Str) : Prop := a.cps.toList ≤ b.cps.toList
theorem leS_anti {a b : Str} (h1 : leS a b) (h2 : leS b a) : a = b := by
  have e : a.cps.toList = b.cps.toList := List.le_antisymm h1 h2
  cases a
  cases b
  simp at e
  rw [e]
theorem rising_pw : ∀ (l : List Str) (p : Str), risingS p l = true → (p :: l).Pairwise leS
  | [], _, _ => List.pairwise_singleton _ _
  | x :: r, p, h => by
    unfold risingS at h
    obtain ⟨h1, h2⟩ := Bool.and_eq_true_iff.mp h
    rw [ltCps_eq] at h1
    have hx : leS p x := List.not_lt.mp (by simpa using h1)
    have ih := rising_pw r x h2
    refine List.pairwise_cons.mpr ⟨fun y hy => ?_, ih⟩
    rcases List.mem_cons.mp hy with e | hy
    · subst e; exact hx
    · exact List.le_trans hx ((List.pairwise_cons.mp ih).1 y hy)
theorem sortedS_pw {l : List Str} (h : sortedS l = true) : l.Pairwise leS := by
  cases l with
  | nil => exact List.Pairwise.nil
  | cons x r => exact rising_pw r x h
theorem sortedS_uniq {l m : List Str} (h : l.Perm m) (h1 : sortedS l = true) (h2 : sortedS m = true) : l = m := perm_sorted h (fun _ _ _ _ => leS_anti) (sortedS_pw h1) (sortedS_pw h2)
/-- rows as tuples -/
def RowAt (H : Hp) (v : V) (r : List Key) : Prop := ∃ t, v = .ref t ∧ H t = some (.tup (r.map kV))
def SlK (r : V → Option Int → Option Int → Hp → VK → Prop) (tl th : TO) (σ : L2.St) (Q : VK) (x : V) (H1 : Hp) : Prop := tl σ H1 fun l H2 => th σ H2 fun u H3 => r x l u H3 Q
theorem slK {r : V → Option Int → Option Int → Hp → VK → Prop} {tl th : TO} {te : TE} {σ : L2.St} {H : Hp} {Q : VK} (h : te σ H (SlK r tl th σ Q)) : tSl r te tl th σ H Q := h
theorem sl_end {r : V → Option Int → Option Int → Hp → VK → Prop} {tl th : TO} {σ : L2.St} {H : Hp} {Q : VK} {lo hi : Option Int} {x : V} (h1 : EvO tl σ H lo) (h2 : EvO th σ H hi) (h : r x lo hi H Q) : SlK r tl th σ Q x H := h1 _ (h2 _ h)
/-! slices, greatest ones -/
theorem cutV_drop {xs : List V} {k : Nat} (h : k ≤ xs.length) : cutV xs (some (k : Int)) none = xs.drop k := by
  unfold cutV
  rw [HT.sIx_nat, HT.sIx_none, Nat.min_eq_left h, List.take_of_length_le (by rw [List.length_drop] <;> exact Nat.le_refl _)]
theorem cutV_take {xs : List V} {k : Nat} (h : k ≤ xs.length) : cutV xs none (some (k : Int)) = xs.take k := by
  unfold cutV
  rw [HT.sIx_nat, HT.sIx_none, Nat.min_eq_left h, List.drop_zero, Nat.sub_zero]
theorem cutV_mid {xs : List V} {k m : Nat} (h : k + m ≤ xs.length) : cutV xs (some (k : Int)) (some ((k : Int) + (m : Int))) = (xs.drop k).take m := by
  unfold cutV
  rw [show ((k : Int) + (m : Int)) = ((k + m : Nat) : Int) by omega, HT.sIx_nat, HT.sIx_nat, Nat.min_eq_left h, Nat.min_eq_left (show k ≤ xs.length by omega), show k + m - k = m by omega]
def MaxK (K : PySem.W.Frag) (td : TE) (σ : L2.St) (Q : VK) (x : V) (H1 : Hp) : Prop := td σ H1 fun y H2 => ∃ (a : Addr) (ns : List Int) (d : Int), x = V.ref a ∧ SqL K H2 a (ns.map V.int) ∧ y = .int d ∧ (ns = [] → Q (.int d) H2) ∧ (∀ m, m ∈ ns → (∀ j ∈ ns, j ≤ m) → Q (.int m) H2)
theorem maxD_end {K : PySem.W.Frag} {σ : L2.St} {H : Hp} {Q : VK} {a : Addr} {ns : List Int} (h : H a = some (.lst (ns.map V.int))) (q : Q (.int (maxL ns)) H) : MaxK K (tC (.int 0)) σ Q (.ref a) H :=
  ⟨a, ns, 0, rfl, SqL.of h, rfl, fun e => by subst e; exact q, fun m hm hmm => by rw [maxL_uniq hm hmm]; exact q⟩
theorem maxDC {K : PySem.W.Frag} {σ : L2.St} {H : Hp} {Q : VK} {te td : TE} (h : te σ H (MaxK K td σ Q)) : tMaxD K te td σ H Q := h
theorem deep_max : ∀ ts : List Tr, maxL (ts.map fun t => (t.deep : Int)) = (deepL ts : Int)
  | [] => rfl
  | t :: r => by
    have key : ∀ (l : List Tr) (x : Nat), (l.map fun t => (t.deep : Int)).foldl max (x : Int) = ((max x (deepL l) : Nat) : Int) := fun l => by
      induction l with
      | nil => intro x; simp [deepL]
      | cons b l ih =>
        intro x
        rw [List.map_cons, List.foldl_cons, show max (x : Int) (b.deep : Int) = ((max x b.deep : Nat) : Int) by omega, ih, deepL]
        omega
    show (r.map fun t => (t.deep : Int)).foldl max (t.deep : Int) = _
    rw [key, deepL]
theorem boxesL_app : ∀ a b : List Tr, boxesL (a ++ b) = boxesL a ++ boxesL b
  | [], _ => rfl
  | t :: r, b => by rw [List.cons_append, boxesL, boxesL, boxesL_app r b, List.append_assoc]
/-! heaps that keep all but some -/
def ExB (ds : List Addr) (H H' : Hp) : Prop := ∀ a o, a ∉ ds → H a = some o → H' a = some o
theorem ExB.refl {ds : List Addr} (H : Hp) : ExB ds H H := fun _ _ _ h => h
theorem ExB.trans {ds : List Addr} {H H1 H2 : Hp} (a : ExB ds H H1) (b : ExB ds H1 H2) : ExB ds H H2 := fun x o m h => b x o m (a x o m h)
theorem Ex.b {ds : List Addr} {H H' : Hp} (e : Ex H H') : ExB ds H H' := fun a o _ h => e a o h
theorem ExB.put {ds : List Addr} {H H' : Hp} {d : Addr} {o : HO} (e : ExB ds H H') (h : d ∈ ds) : ExB ds H (upd H' d o) := fun a u m ha => by
  rw [upd_ne (fun z => m (by rw [z]; exact h))]
  exact e a u m ha
theorem ExB.mono {ds es : List Addr} {H H' : Hp} (e : ExB ds H H') (h : ∀ d ∈ ds, d ∈ es) : ExB es H H' := fun a o m ha => e a o (fun z => m (h a z)) ha
/-- what is new ahead is no loss -/
theorem ExB.fresh {ds : List Addr} {H0 H H' : Hp} (e0 : Ex H0 H) (e : ExB ds H H') (h : ∀ d ∈ ds, H0 d = none) : Ex H0 H' := fun a o ha => e a o (fun m => by rw [h a m] at ha; cases ha) (e0 a o ha)
theorem Ex.newB {ds : List Addr} {H H' : Hp} {p : Addr} {o : HO} (e : ExB ds H H') (h : H' p = none) : ExB ds H (upd H' p o) := e.trans (Ex.new h).b

end BG
set_option maxHeartbeats 4000000
namespace BG
open PySem PySem.Spec PyProof.Rows L2

/-! ### lists of values, each for one of a plain list -/
def AllAt {β : Type} (R : V → β → Prop) (vs : List V) (bs : List β) : Prop := vs.length = bs.length ∧ ∀ (i : Nat) v b, vs[i]? = some v → bs[i]? = some b → R v b
section
variable {β : Type} {R S : V → β → Prop} {vs ws : List V} {bs cs : List β}
theorem AllAt.nil : AllAt R [] [] := ⟨rfl, fun i v b h => by simp at h⟩
theorem AllAt.mono (h : AllAt R vs bs) (f : ∀ v b, b ∈ bs → R v b → S v b) : AllAt S vs bs := ⟨h.1, fun i v b hv hb => f v b (List.mem_of_getElem? hb) (h.2 i v b hv hb)⟩
theorem AllAt.snoc {v : V} {b : β} (h : AllAt R vs bs) (r : R v b) : AllAt R (vs ++ [v]) (bs ++ [b]) := by
  refine ⟨by simp [h.1], fun i x c hx hc => ?_⟩
  by_cases hi : i < vs.length
  · rw [List.getElem?_append_left hi] at hx
    rw [List.getElem?_append_left (by rw [← h.1]; exact hi)] at hc
    exact h.2 i x c hx hc
  · have e : i = vs.length := by
      have := (List.getElem?_eq_some_iff.mp hx).1
      simp at this
      omega
    subst e
    rw [List.getElem?_append_right (Nat.le_refl _)] at hx
    rw [List.getElem?_append_right (by rw [h.1]; exact Nat.le_refl _), h.1] at hc
    simp at hx hc
    subst hx hc
    exact r
theorem AllAt.append (h : AllAt R vs bs) (g : AllAt R ws cs) : AllAt R (vs ++ ws) (bs ++ cs) := by
  refine ⟨by simp [h.1, g.1], fun i x c hx hc => ?_⟩
  by_cases hi : i < vs.length
  · rw [List.getElem?_append_left hi] at hx
    rw [List.getElem?_append_left (by rw [← h.1]; exact hi)] at hc
    exact h.2 i x c hx hc
  · rw [List.getElem?_append_right (by omega)] at hx
    rw [List.getElem?_append_right (by rw [← h.1]; omega), ← h.1] at hc
    exact g.2 _ x c hx hc
theorem AllAt.one {v : V} {b : β} (r : R v b) : AllAt R [v] [b] := AllAt.snoc (vs := []) (bs := []) .nil r
/-- the one at i -/
theorem AllAt.get (h : AllAt R vs bs) {i : Nat} {v : V} (hv : vs[i]? = some v) : ∃ b, bs[i]? = some b ∧ R v b := by
  have hi := (List.getElem?_eq_some_iff.mp hv).1
  have hb : bs[i]? = some (bs[i]'(by rw [← h.1]; exact hi)) := List.getElem?_eq_getElem _
  exact ⟨_, hb, h.2 i v _ hv hb⟩
theorem AllAt.at (h : AllAt R vs bs) {i : Nat} {b : β} (hb : bs[i]? = some b) : ∃ v, vs[i]? = some v ∧ R v b := by
  have hi := (List.getElem?_eq_some_iff.mp hb).1
  have hv : vs[i]? = some (vs[i]'(by rw [h.1]; exact hi)) := List.getElem?_eq_getElem _
  exact ⟨_, hv, h.2 i _ b hv hb⟩
end

theorem rows_pairs {H : Hp} : ∀ {vs : List V} {rows : List (List Key)}, AllAt (RowAt H) vs rows → ∃ xs : List (Addr × List Key), vs = xs.map (fun p => V.ref p.1) ∧ xs.map (·.2) = rows ∧ ∀ p ∈ xs, H p.1 = some (.tup (p.2.map kV))
  | [], [], _ => ⟨[], rfl, rfl, fun p h => by cases h⟩
  | [], _ :: _, h => by cases h.1
  | _ :: _, [], h => by cases h.1
  | v :: vs, r :: rows, h => by
    obtain ⟨xs, e1, e2, h3⟩ := rows_pairs (H := H) (vs := vs) (rows := rows) ⟨by have := h.1; simpa using this, fun i x y hx hy => h.2 (i + 1) x y (by simpa using hx) (by simpa using hy)⟩
    obtain ⟨t, rfl, ht⟩ := h.2 0 v r rfl rfl
    refine ⟨(t, r) :: xs, by simp [e1], by simp [e2], fun p hp => ?_⟩
    rcases List.mem_cons.mp hp with e | hp
    · subst e; exact ht
    · exact h3 p hp
/-! ### trees -/
def PairAt (H : Hp) (v : V) (sp : Nat × Nat) : Prop := ∃ a, v = .ref a ∧ H a = some (.tup [.int sp.1, .int sp.2])
def CellAt2 (H : Hp) (v : V) (c : Int × Int) : Prop := ∃ a, v = .ref a ∧ H a = some (.tup [.int c.1, .int c.2])
def OwnAt (H : Hp) (o : Addr) (b : Bx) : Prop := ∃ c hi v1 v2 v3 v4, H o = some (.tup [.ref c, v1, v2, v3, v4, .int b.grp]) ∧ H c = some (.tup [.int b.own, hi])
def LineAt (H : Hp) (w : V) (b : Bx) : Prop := ∃ q v1 v2, w = .ref q ∧ H q = some (.tup [.int b.gap, v1, v2])
def TabAt (H : Hp) (w : V) (b : Bx) : Prop := ∃ q v1 s ss, w = .ref q ∧ H q = some (.tup [.int b.cols, .int b.gap, v1, .ref s]) ∧ H s = some (.tup ss) ∧ AllAt (PairAt H) ss b.spans
def WhatAt (H : Hp) (w : V) (b : Bx) : Prop := match b.kd with
  | .leaf => True
  | .table => TabAt H w b
  | _ => LineAt H w b
inductive TrAt (H : Hp) : V → Tr → Prop where
  | mk {a o p : Addr} {w : V} {vs : List V} {b : Bx} {ps : List Tr} : H a = some (.tup [.str b.kd.s, .str b.nm, .ref o, w, .ref p]) → OwnAt H o b → WhatAt H w b → H p = some (.tup vs) → vs.length = ps.length →
      (∀ (i : Nat) v t, vs[i]? = some v → ps[i]? = some t → TrAt H v t) → TrAt H (.ref a) (.mk b ps)
def Kd.cls : Kd → Addr
  | .leaf => 178
  | .row => 801
  | .col => 876
  | .wrap => 1163
  | .table => 1060
/-- what of the text the classes have -/
structure KF (K : PySem.W.Frag) : Prop where
  cls : ∀ kd : Kd, Cls K kd.cls
  na : ∀ (kd : Kd) (f : Str), f ∈ (["name", "wide_own", "high_own", "grow", "shrink", "rank", "group", "parts", "gap", "align", "side", "columns", "spans", "cells", "many", "wishes"] : List Str) → NoAttr K kd.cls f
  rcls : Cls K 1222
  rna : ∀ f : Str, f ∈ (["leasts", "reasons", "free", "past"] : List Str) → NoAttr K 1222 f
  tyC : ∀ kd : Kd, PySem.W.findIn K (.ref kd.cls) "__class__" = some (some (.builtin "object.__class__"))
  tyG : PySem.W.specialIn K (.builtin "object.__class__") "__get__" = some (some (.builtin "getset_descriptor.__get__"))
  tyT : PySem.W.takesIn K (.builtin "object.__class__") = some true
  tyM : ∀ kd : Kd, PySem.W.mroIn K kd.cls (.type "object") = some true
  isT : ∀ kd : Kd, PySem.W.kitOne K (.ref kd.cls) (.ref 1060) = some (decide (kd = .table))
def mNames : List Str := ["asked_least", "sums", "alone_least", "asker", "asks"]
/-- a box as an object -/
structure BoxF (K : PySem.W.Frag) (H : Hp) (a : Addr) (b : Bx) (vs : List V) : Prop where
  ins : ∃ dx fs, H a = some (.ins b.kd.cls dx fs) ∧ ∀ m ∈ mNames, fs.lookup m = none
  name : FldAt K H a "name" (.str b.nm)
  wide : ∃ c hi, FldAt K H a "wide_own" (.ref c) ∧ H c = some (.tup [.int b.own, hi])
  group : FldAt K H a "group" (.int b.grp)
  parts : ∃ p, FldAt K H a "parts" (.ref p) ∧ H p = some (.lst vs)
  gap : b.kd ≠ .leaf → FldAt K H a "gap" (.int b.gap)
  cols : b.kd = .table → FldAt K H a "columns" (.int b.cols)
  spans : b.kd = .table → ∃ s ss, FldAt K H a "spans" (.ref s) ∧ H s = some (.lst ss) ∧ AllAt (PairAt H) ss b.spans
  cells : b.kd = .table → ∃ c cs, FldAt K H a "cells" (.ref c) ∧ H c = some (.lst cs) ∧ AllAt (PairAt H) cs (putCells b.cols b.spans)
inductive BoxAt (K : PySem.W.Frag) (H : Hp) : V → Tr → Prop where
  | mk {a : Addr} {vs : List V} {b : Bx} {ps : List Tr} : BoxF K H a b vs → vs.length = ps.length → (∀ (i : Nat) v t, vs[i]? = some v → ps[i]? = some t → BoxAt K H v t) → BoxAt K H (.ref a) (.mk b ps)
section
variable {K : PySem.W.Frag} {H H' : Hp} {v : V}
theorem FldAt.ex {a : Addr} {f : Str} (e : Ex H H') (h : FldAt K H a f v) : FldAt K H' a f v := let ⟨C, dx, fs, h1, h2⟩ := h; ⟨C, dx, fs, e _ _ h1, h2⟩
theorem PairAt.ex {sp : Nat × Nat} (e : Ex H H') (h : PairAt H v sp) : PairAt H' v sp := let ⟨a, h1, h2⟩ := h; ⟨a, h1, e _ _ h2⟩
theorem CellAt2.ex {sp : Int × Int} (e : Ex H H') (h : CellAt2 H v sp) : CellAt2 H' v sp := let ⟨a, h1, h2⟩ := h; ⟨a, h1, e _ _ h2⟩
theorem OwnAt.ex {o : Addr} {b : Bx} (e : Ex H H') (h : OwnAt H o b) : OwnAt H' o b := let ⟨c, hi, v1, v2, v3, v4, h1, h2⟩ := h; ⟨c, hi, v1, v2, v3, v4, e _ _ h1, e _ _ h2⟩
theorem LineAt.ex {b : Bx} (e : Ex H H') (h : LineAt H v b) : LineAt H' v b := let ⟨q, v1, v2, h1, h2⟩ := h; ⟨q, v1, v2, h1, e _ _ h2⟩
theorem pairs_ex {vs : List V} {l : List (Nat × Nat)} (e : Ex H H') (h : AllAt (PairAt H) vs l) : AllAt (PairAt H') vs l := h.mono fun _ _ _ r => r.ex e
theorem TabAt.ex {b : Bx} (e : Ex H H') (h : TabAt H v b) : TabAt H' v b := let ⟨q, v1, s, ss, h1, h2, h3, h4⟩ := h; ⟨q, v1, s, ss, h1, e _ _ h2, e _ _ h3, pairs_ex e h4⟩
theorem WhatAt.ex {b : Bx} (e : Ex H H') (h : WhatAt H v b) : WhatAt H' v b := by
  unfold WhatAt at h ⊢
  cases k : b.kd <;> rw [k] at h <;> simp only at h ⊢
  case row => exact LineAt.ex e h
  case col => exact LineAt.ex e h
  case wrap => exact LineAt.ex e h
  case table => exact TabAt.ex e h
theorem TrAt.ex {t : Tr} (e : Ex H H') (h : TrAt H v t) : TrAt H' v t := by
  induction h with
  | mk h1 h2 h3 h4 h5 _ ih => exact .mk (e _ _ h1) (h2.ex e) (h3.ex e) (e _ _ h4) h5 ih
/-- tuples stand -/
def ExT (H H' : Hp) : Prop := ∀ a zs, H a = some (.tup zs) → H' a = some (.tup zs)
theorem TrAt.exT {t : Tr} (h : TrAt H v t) (e : ∀ a zs, H a = some (.tup zs) → H' a = some (.tup zs)) : TrAt H' v t := by
  have np : ∀ {y : V} {sp : Nat × Nat}, PairAt H y sp → PairAt H' y sp := fun ⟨a, h1, h2⟩ => ⟨a, h1, e _ _ h2⟩
  induction h with
  | mk h1 h2 h3 h4 h5 _ ih =>
    refine .mk (e _ _ h1) ?_ ?_ (e _ _ h4) h5 ih
    · obtain ⟨c, hi, v1, v2, v3, v4, g1, g2⟩ := h2
      exact ⟨c, hi, v1, v2, v3, v4, e _ _ g1, e _ _ g2⟩
    · rename_i b _ _
      unfold WhatAt at h3 ⊢
      cases k : b.kd <;> rw [k] at h3 <;> simp only at h3 ⊢
      case table =>
        obtain ⟨q, v1, s, ss, g1, g2, g3, g4⟩ := h3
        exact ⟨q, v1, s, ss, g1, e _ _ g2, e _ _ g3, g4.mono fun _ _ _ z => np z⟩
      all_goals
        obtain ⟨q, v1, v2, g1, g2⟩ := h3
        exact ⟨q, v1, v2, g1, e _ _ g2⟩
theorem BoxF.ex {a : Addr} {b : Bx} {vs : List V} (e : Ex H H') (h : BoxF K H a b vs) : BoxF K H' a b vs where
  ins := let ⟨dx, fs, h1, h2⟩ := h.ins; ⟨dx, fs, e _ _ h1, h2⟩
  name := h.name.ex e
  wide := let ⟨c, hi, h1, h2⟩ := h.wide; ⟨c, hi, h1.ex e, e _ _ h2⟩
  group := h.group.ex e
  parts := let ⟨p, h1, h2⟩ := h.parts; ⟨p, h1.ex e, e _ _ h2⟩
  gap := fun k => (h.gap k).ex e
  cols := fun k => (h.cols k).ex e
  spans := fun k => let ⟨s, ss, h1, h2, h3⟩ := h.spans k; ⟨s, ss, h1.ex e, e _ _ h2, pairs_ex e h3⟩
  cells := fun k => let ⟨s, ss, h1, h2, h3⟩ := h.cells k; ⟨s, ss, h1.ex e, e _ _ h2, pairs_ex e h3⟩
theorem BoxAt.ex {t : Tr} (e : Ex H H') (h : BoxAt K H v t) : BoxAt K H' v t := by
  induction h with
  | mk h1 h2 _ ih => exact .mk (h1.ex e) h2 ih
/-- a box, opened -/
theorem BoxAt.out {t : Tr} (h : BoxAt K H v t) : ∃ a vs, v = .ref a ∧ BoxF K H a t.b vs ∧ AllAt (BoxAt K H) vs t.ps := by
  cases h with
  | mk h1 h2 h3 => exact ⟨_, _, rfl, h1, h2, h3⟩
theorem TrAt.out {t : Tr} (h : TrAt H v t) : ∃ a o p w vs, v = .ref a ∧ H a = some (.tup [.str t.b.kd.s, .str t.nm, .ref o, w, .ref p]) ∧ OwnAt H o t.b ∧ WhatAt H w t.b ∧ H p = some (.tup vs) ∧ AllAt (TrAt H) vs t.ps := by
  cases h with
  | mk h1 h2 h3 h4 h5 h6 => exact ⟨_, _, _, _, _, rfl, h1, h2, h3, h4, h5, h6⟩
theorem boxes_ex {vs : List V} {l : List Tr} (e : Ex H H') (h : AllAt (BoxAt K H) vs l) : AllAt (BoxAt K H') vs l := h.mono fun _ _ _ r => r.ex e
theorem trees_ex {vs : List V} {l : List Tr} (e : Ex H H') (h : AllAt (TrAt H) vs l) : AllAt (TrAt H') vs l := h.mono fun _ _ _ r => r.ex e
end

/-! ### well formed trees -/
structure WfB (t : Tr) : Prop where
  leaf : t.b.kd = .leaf → t.ps = []
  gap : 0 ≤ t.b.gap ∧ t.b.gap < 1000
  tab : t.b.kd = .table → 1 ≤ t.b.cols ∧ t.b.cols ≤ 4 ∧ t.b.spans.length = t.ps.length ∧ ∀ s ∈ t.b.spans, 1 ≤ s.1 ∧ s.1 ≤ t.b.cols ∧ 1 ≤ s.2 ∧ s.2 ≤ 2
  few : t.ps.length ≤ 17
def Wf (t : Tr) : Prop := ∀ x ∈ t.boxes, WfB x
structure TreeOk (t : Tr) : Prop where
  wf : Wf t
  deep : t.deep ≤ 7
  few : t.boxes.length ≤ 17
  nodup : (t.boxes.map Tr.nm).Nodup
  named : ∀ x ∈ t.boxes, x.nm ≠ "" ∧ x.nm.length ≤ 100
/-- groups and leasts of one's own given anew: tb: within a table -/
inductive Grp : Bool → Tr → Tr → Prop where
  | mk {tb : Bool} {b : Bx} {ps qs : List Tr} {own grp : Int} : 0 ≤ own → own ≤ 1000000 → (tb = true ∨ b.kd = .table → grp = 0) → ps.length = qs.length → (∀ (i : Nat) p q, ps[i]? = some p → qs[i]? = some q → Grp (tb || decide (b.kd = .table)) p q) →
      Grp tb (.mk b ps) (.mk { b with own := own, grp := grp } qs)
/-- the names of tables and of what lies in them -/
def tabled (w : Bool) (t : Tr) : List Str := match t with
  | .mk b ps => (if (w || decide (b.kd = .table)) = true then [b.nm] else []) ++ tabledL (w || decide (b.kd = .table)) ps
where tabledL (w : Bool) : List Tr → List Str
  | [] => []
  | t :: r => tabled w t ++ tabledL w r

/-! ### dicts by names -/
def HasL (H : Hp) (d : Addr) (ps : List Tr) (L : Str → Int) : Prop := ∃ kvs : List (Key × V), Rd H d (.dK kvs) ∧ ∀ p ∈ ps, valV kvs (.inr p.nm) = some (.int (L p.nm))
theorem HasL.ex {H H' : Hp} {d : Addr} {ps : List Tr} {L : Str → Int} (e : Ex H H') (h : HasL H d ps L) : HasL H' d ps L := let ⟨k, h1, h2⟩ := h; ⟨k, e.rd h1, h2⟩
theorem HasL.at {H : Hp} {d : Addr} {ps : List Tr} {L : Str → Int} (h : HasL H d ps L) {p : Tr} (hp : p ∈ ps) : HasD H d p.nm (.int (L p.nm)) := let ⟨k, h1, h2⟩ := h; ⟨k, h1, h2 p hp⟩
def entL (L : Str → Int) (t : Tr) : Key × V := (.inr t.nm, .int (L t.nm))
/-- a dict of whole numbers by the names of bs, in some order -/
def LD (H : Hp) (d : Addr) (bs : List Tr) (L : Str → Int) : Prop := ∃ cs : List Tr, cs.Perm bs ∧ H d = some (.dK (cs.map (entL L)))
def rsnT (r : Rsn) : HO := .tup [.str r.w, .str r.n, .int r.rk]
def entP (ra : Str → Addr) (t : Tr) : Key × V := (.inr t.nm, .ref (ra t.nm))
/-- a paper: a reason by each name of bs -/
def PD (H : Hp) (d : Addr) (bs : List Tr) (P : Str → Rsn) : Prop := ∃ (cs : List Tr) (ra : Str → Addr), cs.Perm bs ∧ H d = some (.dK (cs.map (entP ra))) ∧ ∀ b ∈ bs, H (ra b.nm) = some (rsnT (P b.nm))
/-- what is read of a paper -/
def HasP (H : Hp) (d : Addr) (bs : List Tr) (P : Str → Rsn) : Prop := ∃ kvs : List (Key × V), Rd H d (.dK kvs) ∧ ∀ b ∈ bs, ∃ a, valV kvs (.inr b.nm) = some (.ref a) ∧ H a = some (rsnT (P b.nm))
theorem LD.ex {H H' : Hp} {d : Addr} {bs : List Tr} {L : Str → Int} (e : Ex H H') (h : LD H d bs L) : LD H' d bs L := let ⟨k, h1, h2⟩ := h; ⟨k, h1, e _ _ h2⟩
theorem PD.ex {H H' : Hp} {d : Addr} {bs : List Tr} {P : Str → Rsn} (e : Ex H H') (h : PD H d bs P) : PD H' d bs P := let ⟨k, ra, h1, h2, h3⟩ := h; ⟨k, ra, h1, e _ _ h2, fun b hb => e _ _ (h3 b hb)⟩
theorem HasP.ex {H H' : Hp} {d : Addr} {bs : List Tr} {P : Str → Rsn} (e : Ex H H') (h : HasP H d bs P) : HasP H' d bs P := let ⟨k, h1, h2⟩ := h; ⟨k, e.rd h1, fun b hb => let ⟨a, q1, q2⟩ := h2 b hb; ⟨a, q1, e _ _ q2⟩⟩

/-! ### asks -/
def AskAt (H : Hp) (v : V) (a : Ask) : Prop := ∃ q, v = .ref q ∧ H q = some (.tup [.str a.nm, .int a.fi, .int a.sp, .int a.am])
theorem AskAt.ex {H H' : Hp} {v : V} {a : Ask} (e : Ex H H') (h : AskAt H v a) : AskAt H' v a := let ⟨q, h1, h2⟩ := h; ⟨q, h1, e _ _ h2⟩
theorem asks_ex {H H' : Hp} {vs : List V} {l : List Ask} (e : Ex H H') (h : AllAt (AskAt H) vs l) : AllAt (AskAt H') vs l := h.mono fun _ _ _ r => r.ex e
def tname (n : Nat) : Str := Txt.zfill (toString (n : Int)) 2
/-- asks that columns many can bear -/
def AsksOk (many : Nat) (asks : List Ask) : Prop := many ≤ 4 ∧ asks.length ≤ 17 ∧ ∀ a ∈ asks, 1 ≤ a.sp ∧ a.fi + a.sp ≤ many

/-! ### promises: what the tree's makers tell -/
def atS (ns : List Int) (k : Nat) : Int := ns.getD k 0
def sp_law_at (K : PySem.W.Frag) : Sp := fun vs H Q _ => ∃ (a : Addr) (ns : List Int) (k : Nat), vs = [.ref a, .int k] ∧ SqL K H a (ns.map V.int) ∧ Q (.int (atS ns k)) H
def mix1 (n : Int) : Int := n * 48271 % 2147483647
def mix2 (n : Int) : Int := (n / 65536 + n * 16807) % 2147483629
def mix3 (n : Int) : Int := n * (n % 32768 + 40961) % 1000000000039
def mixF (n : Int) : Int := mix3 (mix2 (mix1 n))
theorem mixF_bd (n : Int) : 0 ≤ mixF n ∧ mixF n < 1000000000039 := ⟨Int.emod_nonneg _ (by decide), Int.emod_lt_of_pos _ (by decide)⟩
def sp_law_mixed (K : PySem.W.Frag) : Sp := fun vs H Q _ => ∃ n : Int, vs = [.int n] ∧ Q (.int (mixF n)) H
def sp_law_draws (K : PySem.W.Frag) : Sp := fun vs H Q _ => ∃ (a : Addr) (ns : List Int) (f m : Nat), vs = [.ref a, .int f, .int m, .int 1000000000000000000] ∧ SqL K H a (ns.map V.int) ∧ m ≤ 1000 ∧
  ∀ H' p (ms : List Int), Ex H H' → H' p = some (.lst (ms.map V.int)) → ms.length = m → Q (.ref p) H'
/-- letters -/
def abc : Str := "abcdefghijklmnopqrstuvwxyz"
def letter (i : Int) : Str := ⟨#[abc.cps.toList.getD i.toNat 0]⟩
def wordStep (s : Int × Str) (_ : Nat) : Int × Str := (s.1 / 7, s.2 ++ letter (s.1 / 7 % 26))
def word0 (c : Int) : Int := c * 1099087573 % 10000000000037
def wordOf (c : Int) : Str := ((List.range (word0 c % 6).toNat).foldl wordStep (word0 c, "")).2
def labelOf (k : Nat) (c : Int) : Str :=
  cutS (wordOf c) none (some (c % ((wordOf c).length + 1))) ++ (letter ((k + c) % 26) ++ letter ((k : Int) / 26)) ++ cutS (wordOf c) (some (c % ((wordOf c).length + 1))) none
def sp_law_label (K : PySem.W.Frag) : Sp := fun vs H Q _ => ∃ (k : Nat) (c : Int), vs = [.int k, .int c] ∧ k < 26 ∧ Q (.str (labelOf k c)) H
def sp_law_span (K : PySem.W.Frag) : Sp := fun vs H Q _ => ∃ n : Int, vs = [.int n] ∧ ∀ H' t x y, Ex H H' → H' t = some (.tup [.int x, y]) → Q (.ref t) H'
def sp_law_own (K : PySem.W.Frag) : Sp := fun vs H Q _ => ∃ (n : Int) (al : Bool), vs = [.int n, .bl al] ∧ ∀ H' t b, Ex H H' → OwnAt H' t b → Q (.ref t) H'
def sp_law_leaf (K : PySem.W.Frag) : Sp := fun vs H Q _ => ∃ (nm : Str) (n : Int), vs = [.str nm, .int n] ∧ ∀ H' v b, Ex H H' → b.kd = .leaf → b.nm = nm → b.gap = 0 → TrAt H' v (.mk b []) → Q v H'
def sp_law_within (K : PySem.W.Frag) : Sp := fun vs H Q _ => ∃ (kd : Kd) (nm : Str) (n : Int) (l : Addr) (al : Bool) (xs : List V) (ps : List Tr), vs = [.str kd.s, .str nm, .int n, .ref l, .bl al] ∧ kd ≠ .leaf ∧ H l = some (.lst xs) ∧ AllAt (TrAt H) xs ps ∧ ps.length ≤ 17 ∧
  ∀ H' v b, Ex H H' → b.kd = kd → b.nm = nm → WfB (.mk b ps) → TrAt H' v (.mk b ps) → Q v H'
/-- one of the stack: a tree, its depth, whether it is grouped -/
def StAt (H : Hp) (v : V) (t : Tr) : Prop := ∃ a x g, v = .ref a ∧ H a = some (.tup [x, .int t.deep, .bl g]) ∧ TrAt H x t
theorem StAt.ex {H H' : Hp} {v : V} {t : Tr} (e : Ex H H') (h : StAt H v t) : StAt H' v t := let ⟨a, x, g, h1, h2, h3⟩ := h; ⟨a, x, g, h1, e _ _ h2, h3.ex e⟩
structure StkOk (ts : List Tr) (n : Nat) : Prop where
  wf : ∀ t ∈ ts, Wf t ∧ t.deep ≤ 5
  many : (boxesL ts).length = n
  few : ts.length ≤ n
def sp_law_step (K : PySem.W.Frag) : Sp := fun vs H Q _ => ∃ (st : Addr) (n : Int) (nm : Str) (xs : List V) (ts : List Tr) (m : Nat), vs = [.ref st, .int n, .str nm] ∧ H st = some (.lst xs) ∧ AllAt (StAt H) xs ts ∧ StkOk ts m ∧ m ≤ 16 ∧
  ∀ H' p ys us, Ex H H' → H' p = some (.lst ys) → AllAt (StAt H') ys us → StkOk us (m + 1) → ((boxesL us).map Tr.nm).Perm ((boxesL ts).map Tr.nm ++ [nm]) → Q (.ref p) H'
def sp_law_tree (K : PySem.W.Frag) : Sp := fun vs H Q _ => ∃ (a : Addr) (ns : List Int), vs = [.ref a, .int 2, .int 16] ∧ SqL K H a (ns.map V.int) ∧ ∀ H' v t, Ex H H' → TrAt H' v t → TreeOk t → Q v H'
def sp_law_grouped (K : PySem.W.Frag) (d : Nat) : Sp := fun vs H Q _ => ∃ (a : Addr) (ns : List Int) (v : V) (t : Tr) (tb : Bool), vs = [v, .ref a, .int 1, .bl tb] ∧ SqL K H a (ns.map V.int) ∧ TrAt H v t ∧ t.deep ≤ d ∧ (∀ x ∈ t.boxes, x.ps.length ≤ 17 ∧ x.nm.length ≤ 100) ∧
  ∀ H' v' t', Ex H H' → TrAt H' v' t' → Grp tb t t' → Q v' H'
def sp_law_tabled (K : PySem.W.Frag) (d : Nat) : Sp := fun vs H Q _ => ∃ (v : V) (t : Tr) (w : Bool), vs = [v, .bl w] ∧ TrAt H v t ∧ t.deep ≤ d ∧ t.boxes.length ≤ 17 ∧
  ∀ H' p, Ex H H' → H' p = some (.lst ((tabled w t).map V.str)) → Q (.ref p) H'
def sp_law_boxes (K : PySem.W.Frag) : Sp := fun vs H Q _ => ∃ (v : V) (t : Tr), vs = [v] ∧ TrAt H v t ∧ t.boxes.length ≤ 17 ∧ ∀ H' p xs, Ex H H' → H' p = some (.lst xs) → AllAt (TrAt H') xs t.boxes → Q (.ref p) H'

/-! ### promises: cells, columns -/
def TakeAt (H : Hp) (d : Addr) (taken : List (Int × Int)) : Prop := ∃ kvs : List (List Key × V), H d = some (.dT kvs) ∧ kvs.length ≤ 1000 ∧ ∀ r c : Int, (valV kvs [.inl r, .inl c]).isSome = decide ((r, c) ∈ taken)
def sp_is_open (K : PySem.W.Frag) : Sp := fun vs H Q _ => ∃ (d s : Addr) (r c : Int) (sp : Nat × Nat) (taken : List (Int × Int)), vs = [.ref d, .int r, .int c, .ref s] ∧ TakeAt H d taken ∧ H s = some (.tup [.int sp.1, .int sp.2]) ∧ (0 ≤ r ∧ r < 100000 ∧ 0 ≤ c ∧ c < 100000 ∧ sp.1 ≤ 1000 ∧ sp.2 ≤ 1000) ∧
  ∀ H', Ex H H' → Q (.bl (openB taken r c sp)) H'
def sp_cells_at (K : PySem.W.Frag) : Sp := fun vs H Q _ => ∃ (s : Addr) (r c : Int) (sp : Nat × Nat), vs = [.int r, .int c, .ref s] ∧ H s = some (.tup [.int sp.1, .int sp.2]) ∧ 1 ≤ sp.1 ∧ sp.1 ≤ 100 ∧ sp.2 ≤ 100 ∧
  ∀ H' p xs, Ex H H' → H' p = some (.lst xs) → AllAt (CellAt2 H') xs (cellsAt r c sp) → Q (.ref p) H'
def sp_put_cells (K : PySem.W.Frag) : Sp := fun vs H Q _ => ∃ (cols : Nat) (s : Addr) (ss : List V) (sps : List (Nat × Nat)), vs = [.int cols, .ref s] ∧ H s = some (.lst ss) ∧ AllAt (PairAt H) ss sps ∧ 1 ≤ cols ∧ cols ≤ 4 ∧ sps.length ≤ 17 ∧ (∀ x ∈ sps, 1 ≤ x.1 ∧ x.1 ≤ cols ∧ 1 ≤ x.2 ∧ x.2 ≤ 2) ∧
  ∀ H' p cs, Ex H H' → H p = none → H' p = some (.lst cs) → AllAt (PairAt H') cs (putCells cols sps) → Q (.ref p) H'
def sp_last_row (K : PySem.W.Frag) : Sp := fun vs H Q _ => ∃ (s c : Addr) (ss cs : List V) (l1 l2 : List (Nat × Nat)), vs = [.ref s, .ref c] ∧ H s = some (.lst ss) ∧ H c = some (.lst cs) ∧ AllAt (PairAt H) ss l1 ∧ AllAt (PairAt H) cs l2 ∧ l1.length ≤ 1000 ∧
  ∀ H' (m : Int), Ex H H' → Q (.int m) H'
def sp_gaps_in (K : PySem.W.Frag) : Sp := fun vs H Q _ => ∃ (g m : Int), vs = [.int g, .int m] ∧ 0 ≤ g ∧ g < 1000 ∧ Q (.int (gapsIn g m)) H
def sp_track_name (K : PySem.W.Frag) : Sp := fun vs H Q _ => ∃ n : Nat, vs = [.int n] ∧ n < 100 ∧ Q (.str (tname n)) H
def wgts (f n : Nat) : List (Key × V) := (List.range n).map fun j => (.inr (tname (f + j)), .int 1)
def sp_track_weights (K : PySem.W.Frag) : Sp := fun vs H Q _ => ∃ f n : Nat, vs = [.int f, .int n] ∧ f + n ≤ 4 ∧ ∀ H' p, Ex H H' → H' p = some (.dK (wgts f n)) → Q (.ref p) H'
def sp_deal (K : PySem.W.Frag) : Sp := fun vs H Q _ => ∃ (room : Int) (d : Addr) (f n : Nat), vs = [.int room, .ref d] ∧ H d = some (.dK (wgts f n)) ∧ 1 ≤ n ∧ f + n ≤ 4 ∧ 0 < room ∧
  ∀ H' p kvs, Ex H H' → H' p = some (.dK kvs) → (∀ j, j < n → valV kvs (.inr (tname (f + j))) = some (.int (cellJ room n j))) → Q (.ref p) H'
def sp_alone_raised (K : PySem.W.Frag) : Sp := fun vs H Q _ => ∃ (fl al : Addr) (floor : List Int) (xs : List V) (asks : List Ask), vs = [.ref fl, .ref al] ∧ H fl = some (.lst (floor.map V.int)) ∧ H al = some (.lst xs) ∧ AllAt (AskAt H) xs asks ∧ AsksOk floor.length asks ∧
  ∀ H' p, Ex H H' → H p = none → H' p = some (.lst ((aloneR floor asks).map V.int)) → Q (.ref p) H'
def sp_in_order (K : PySem.W.Frag) : Sp := fun vs H Q _ => ∃ (al : Addr) (xs : List V) (asks : List Ask), vs = [.ref al] ∧ H al = some (.lst xs) ∧ AllAt (AskAt H) xs asks ∧ asks.length ≤ 17 ∧
  ∀ H' p ys, Ex H H' → H p = none → H' p = some (.lst ys) → AllAt (AskAt H') ys (orderA asks) → (orderA asks).Perm (asks.filter fun a => decide (1 < a.sp)) → Q (.ref p) H'
def sp_lack_of (K : PySem.W.Frag) : Sp := fun vs H Q _ => ∃ (nl : Addr) (ns : List Int) (gap : Int) (v : V) (a : Ask), vs = [.ref nl, .int gap, v] ∧ H nl = some (.lst (ns.map V.int)) ∧ AskAt H v a ∧ 0 ≤ gap ∧ gap < 1000 ∧ a.fi + a.sp ≤ ns.length ∧ ns.length ≤ 1000 ∧ 
  ∀ H', Ex H H' → Q (.int (lackOf ns gap a)) H'
def sp_raise_tracks (K : PySem.W.Frag) : Sp := fun vs H Q _ => ∃ (many : V) (gap : Int) (fl al : Addr) (floor : List Int) (xs : List V) (asks : List Ask), vs = [many, .int gap, .ref fl, .ref al] ∧ 0 ≤ gap ∧ gap < 1000 ∧ H fl = some (.lst (floor.map V.int)) ∧ H al = some (.lst xs) ∧ AllAt (AskAt H) xs asks ∧ AsksOk floor.length asks ∧
  ∀ H' t p q, Ex H H' → H' t = some (.tup [.ref p, q]) → H' p = some (.lst ((raiseT gap floor asks).map V.int)) → Q (.ref t) H'

/-! ### a part of a heap: the places of P, and tuples -/
open Classical in
noncomputable def rsP (P : Addr → Prop) (H : Hp) : Hp := fun a => if P a ∨ ∃ zs, H a = some (.tup zs) then H a else none
section
variable {P P' : Addr → Prop} {H H' : Hp} {a : Addr} {o : HO}
theorem rsP_some (h : rsP P H a = some o) : H a = some o ∧ (P a ∨ ∃ zs, o = .tup zs) := by
  unfold rsP at h
  split at h
  · rename_i c
    refine ⟨h, ?_⟩
    rcases c with c | ⟨zs, c⟩
    · exact .inl c
    · rw [h] at c
      cases c
      exact .inr ⟨zs, rfl⟩
  · cases h
theorem rsP_in (h : H a = some o) (hp : P a) : rsP P H a = some o := by
  unfold rsP
  rw [if_pos (.inl hp)]
  exact h
theorem rsP_tup {zs : List V} (h : H a = some (.tup zs)) : rsP P H a = some (.tup zs) := by
  unfold rsP
  rw [if_pos (.inr ⟨zs, h⟩)]
  exact h
theorem rsP_le : Ex (rsP P H) H := fun _ _ h => (rsP_some h).1
theorem rsP_to (f : ∀ a o, P a → H a = some o → H' a = some o ∧ P' a) (g : ∀ a zs, H a = some (.tup zs) → H' a = some (.tup zs)) : Ex (rsP P H) (rsP P' H') := fun a o h => by
  obtain ⟨h1, h2⟩ := rsP_some h
  rcases h2 with h2 | ⟨zs, rfl⟩
  · exact rsP_in (f a o h2 h1).1 (f a o h2 h1).2
  · exact rsP_tup (g a zs h1)
theorem rsP_ex (hp : ∀ a, P a → P' a) (e : Ex H H') : Ex (rsP P H) (rsP P' H') := rsP_to (fun a o p h => ⟨e a o h, hp a p⟩) fun a zs h => e a _ h
end
/-! ### promises: boxes -/
def sp_Box_init (K : PySem.W.Frag) : Sp := fun vs H Q _ => ∃ (a ps tr dx : Addr) (t : Tr) (xs : List V), vs = [.ref a, .ref tr, .ref ps] ∧ H a = some (.ins t.b.kd.cls dx []) ∧ TrAt H (.ref tr) t ∧ H ps = some (.lst xs) ∧
  ∀ H' c hi v1 v2 v3 v4 l, ExB [a] H H' → H l = none → H' a = some (.ins t.b.kd.cls dx [("name", .str t.nm), ("wide_own", .ref c), ("high_own", v1), ("grow", v2), ("shrink", v3), ("rank", v4), ("group", .int t.b.grp), ("parts", .ref l)]) → H' c = some (.tup [.int t.b.own, hi]) → H' l = some (.lst xs) → Q .non H'
/-- every kind's -/
def sp_boxi (K : PySem.W.Frag) (kd : Kd) : Sp := fun vs H Q _ => ∃ (a ps tr dx : Addr) (t : Tr) (xs : List V), vs = [.ref a, .ref tr, .ref ps] ∧ H a = some (.ins t.b.kd.cls dx []) ∧ TrAt H (.ref tr) t ∧ t.b.kd = kd ∧ H ps = some (.lst xs) ∧ WfB t ∧
  ∀ H', ExB [a] H H' → BoxF K (rsP (fun x => x = a ∨ H x = none) H') a t.b xs → Q .non H'
def sp_of (K : PySem.W.Frag) (d : Nat) : Sp := fun vs H Q _ => ∃ (v : V) (t : Tr), vs = [v] ∧ TrAt H v t ∧ t.deep ≤ d ∧ Wf t ∧ ∀ H' x, Ex H H' → BoxAt K (rsP (fun y => H y = none) H') x t → Q x H'
/-- all but dicts stands -/
def ExD (H H' : Hp) : Prop := ∀ a o, (∀ kvs, o ≠ .dK kvs) → H a = some o → H' a = some o
theorem Ex.d {H H' : Hp} (e : Ex H H') : ExD H H' := fun a o _ h => e a o h
theorem ExD.trans {H H1 H2 : Hp} (a : ExD H H1) (b : ExD H1 H2) : ExD H H2 := fun x o n h => b x o n (a x o n h)
theorem ExB.d {ds : List Addr} {H H' : Hp} (e : ExB ds H H') (h : ∀ d ∈ ds, ∃ kvs, H d = some (.dK kvs)) : ExD H H' := fun a o n ha => e a o (fun m => by
  obtain ⟨kvs, hk⟩ := h a m
  rw [hk] at ha
  cases ha
  exact n kvs rfl) ha
section
variable {K : PySem.W.Frag} {H H' : Hp} {v : V}
theorem FldAt.exD {a : Addr} {f : Str} (e : ExD H H') (h : FldAt K H a f v) : FldAt K H' a f v := let ⟨C, dx, fs, h1, h2⟩ := h; ⟨C, dx, fs, e _ _ (fun _ z => by cases z) h1, h2⟩
theorem pairs_exD {vs : List V} {l : List (Nat × Nat)} (e : ExD H H') (h : AllAt (PairAt H) vs l) : AllAt (PairAt H') vs l := h.mono fun _ _ _ ⟨a, h1, h2⟩ => ⟨a, h1, e _ _ (fun _ z => by cases z) h2⟩
theorem BoxF.exD {a : Addr} {b : Bx} {vs : List V} (e : ExD H H') (h : BoxF K H a b vs) : BoxF K H' a b vs where
  ins := let ⟨dx, fs, h1, h2⟩ := h.ins; ⟨dx, fs, e _ _ (fun _ z => by cases z) h1, h2⟩
  name := h.name.exD e
  wide := let ⟨c, hi, h1, h2⟩ := h.wide; ⟨c, hi, h1.exD e, e _ _ (fun _ z => by cases z) h2⟩
  group := h.group.exD e
  parts := let ⟨p, h1, h2⟩ := h.parts; ⟨p, h1.exD e, e _ _ (fun _ z => by cases z) h2⟩
  gap := fun k => (h.gap k).exD e
  cols := fun k => (h.cols k).exD e
  spans := fun k => let ⟨s, ss, h1, h2, h3⟩ := h.spans k; ⟨s, ss, h1.exD e, e _ _ (fun _ z => by cases z) h2, pairs_exD e h3⟩
  cells := fun k => let ⟨s, ss, h1, h2, h3⟩ := h.cells k; ⟨s, ss, h1.exD e, e _ _ (fun _ z => by cases z) h2, pairs_exD e h3⟩
theorem BoxAt.exD {t : Tr} (e : ExD H H') (h : BoxAt K H v t) : BoxAt K H' v t := by
  induction h with
  | mk h1 h2 _ ih => exact .mk (h1.exD e) h2 ih
end
def sp_all_boxes (K : PySem.W.Frag) (d : Nat) : Sp := fun vs H Q _ => ∃ (H0 : Hp) (x : V) (t : Tr), vs = [x] ∧ Ex H0 H ∧ BoxAt K H0 x t ∧ t.deep ≤ d ∧ t.boxes.length ≤ 17 ∧ ∀ H' p xs, Ex H H' → H p = none → H' p = some (.lst xs) → AllAt (BoxAt K H0) xs t.boxes → Q (.ref p) H'
def sp_of_parts (K : PySem.W.Frag) : Sp := fun vs H Q _ => ∃ (x : V) (d : Addr) (t : Tr) (L : Str → Int), vs = [x, .ref d] ∧ BoxAt K H x t ∧ HasL H d t.ps L ∧ t.ps.length ≤ 17 ∧ ∀ H' p, Ex H H' → H' p = some (.lst ((lsOf t.ps L).map V.int)) → Q (.ref p) H'
def sp_asks (K : PySem.W.Frag) : Sp := fun vs H Q _ => ∃ (x : V) (nl : Addr) (t : Tr) (L : Str → Int), vs = [x, .int 0, .ref nl] ∧ BoxAt K H x t ∧ t.b.kd = .table ∧ WfB t ∧ H nl = some (.lst ((lsOf t.ps L).map V.int)) ∧
  ∀ H' p xs, Ex H H' → H' p = some (.lst xs) → AllAt (AskAt H') xs (asksOf t.b t.ps L) → Q (.ref p) H'
def sp_asked (K : PySem.W.Frag) : Sp := fun vs H Q _ => ∃ (x : V) (d : Addr) (t : Tr) (L : Str → Int), vs = [x, .ref d] ∧ BoxAt K H x t ∧ HasL H d t.ps L ∧ WfB t ∧ ∀ H', Ex H H' → Q (.int (asked t L)) H'
def sp_sums (K : PySem.W.Frag) : Sp := fun vs H Q _ => ∃ (x : V) (t : Tr), vs = [x] ∧ BoxAt K H x t ∧ Q (.bl (sumsB t)) H
def sp_alone (K : PySem.W.Frag) : Sp := fun vs H Q _ => ∃ (x : V) (t : Tr), vs = [x] ∧ BoxAt K H x t ∧ Q (.int 0) H
def sp_asker (K : PySem.W.Frag) : Sp := fun vs H Q _ => ∃ (x : V) (d : Addr) (t : Tr) (L : Str → Int), vs = [x, .ref d] ∧ BoxAt K H x t ∧ HasL H d t.ps L ∧ WfB t ∧ ∀ H' q, Ex H H' → H' q = some (.tup [.str (askerF t L).1, .str (askerF t L).2]) → Q (.ref q) H'

/-! ### promises: leasts -/
/-- what is settled: a least that is just what is asked, and its reason -/
inductive SetB (L : Str → Int) (R : Str → Rsn) (b : Tr) : Prop where
  | own : L b.nm = ask b L → L b.nm = b.b.own → R b.nm = ⟨"own", "", -20⟩ → SetB L R b
  | put (rk : Int) : L b.nm = asked b L → b.b.own < L b.nm → -20 ≤ rk → rk < -20 + b.deep → (∀ p ∈ b.ps, (R p.nm).rk ≤ rk) → R b.nm = ⟨(askerF b L).1, (askerF b L).2, rk + 1⟩ → SetB L R b
/-- two dicts behind: of the ones of done as they were, of bs newly -/
structure Sets (H H' : Hp) (d1 d2 : Addr) (done bs : List Tr) (L : Str → Int) (R : Str → Rsn) (L' : Str → Int) (R' : Str → Rsn) (ra ra' : Str → Addr) : Prop where
  ex : ExB [d1, d2] H H'
  cs : ∃ cs : List Tr, cs.Perm (done ++ bs) ∧ H' d1 = some (.dK (cs.map (entL L'))) ∧ H' d2 = some (.dK (cs.map (entP ra')))
  keep : ∀ b ∈ done, L' b.nm = L b.nm ∧ R' b.nm = R b.nm ∧ ra' b.nm = ra b.nm
  rs : ∀ b ∈ bs, H' (ra' b.nm) = some (rsnT (R' b.nm))
  ok : ∀ b ∈ bs, SetB L' R' b
/-- two dicts ahead -/
structure Two (H : Hp) (d1 d2 : Addr) (done : List Tr) (L : Str → Int) (R : Str → Rsn) (ra : Str → Addr) : Prop where
  ne : d1 ≠ d2
  cs : ∃ cs : List Tr, cs.Perm done ∧ H d1 = some (.dK (cs.map (entL L))) ∧ H d2 = some (.dK (cs.map (entP ra)))
  rs : ∀ b ∈ done, H (ra b.nm) = some (rsnT (R b.nm)) ∧ ra b.nm ≠ d1 ∧ ra b.nm ≠ d2
def sp_settle (K : PySem.W.Frag) (d : Nat) : Sp := fun vs H Q _ => ∃ (x : V) (d1 d2 : Addr) (t : Tr) (done : List Tr) (L : Str → Int) (R : Str → Rsn) (ra : Str → Addr), vs = [x, .ref d1, .ref d2] ∧ BoxAt K H x t ∧ t.deep ≤ d ∧ Wf t ∧ (∀ y ∈ t.boxes, 0 ≤ y.b.own) ∧ Two H d1 d2 done L R ra ∧ ((done ++ t.boxes).map Tr.nm).Nodup ∧ (done ++ t.boxes).length ≤ 17 ∧
  ∀ H' L' R' ra', Sets H H' d1 d2 done t.boxes L R L' R' ra ra' → Q .non H'
/-- the boxes that lie in no table; the others -/
def freeT : Tr → List Tr
  | .mk b ps => if b.kd = .table then [] else .mk b ps :: freeTL ps
where freeTL : List Tr → List Tr
  | [] => []
  | t :: r => freeT t ++ freeTL r
def fixT : Tr → List Tr
  | .mk b ps => if b.kd = .table then (Tr.mk b ps).boxes else fixTL ps
where fixTL : List Tr → List Tr
  | [] => []
  | t :: r => fixT t ++ fixTL r
def sp_free_boxes (K : PySem.W.Frag) (d : Nat) : Sp := fun vs H Q _ => ∃ (H0 : Hp) (x : V) (d1 d2 : Addr) (t : Tr) (done : List Tr) (L : Str → Int) (R : Str → Rsn) (ra : Str → Addr), vs = [x, .ref d1, .ref d2] ∧ ExD H0 H ∧ BoxAt K H0 x t ∧ t.deep ≤ d ∧ Wf t ∧ (∀ y ∈ t.boxes, 0 ≤ y.b.own) ∧ Two H d1 d2 done L R ra ∧ ((done ++ t.boxes).map Tr.nm).Nodup ∧ (done ++ t.boxes).length ≤ 17 ∧
  ∀ H' L' R' ra' p xs, Sets H H' d1 d2 done (fixT t) L R L' R' ra ra' → H p = none → p ≠ d1 → p ≠ d2 → H' p = some (.lst xs) → AllAt (BoxAt K H0) xs (freeT t) → Q (.ref p) H'
def sp_asks_of (K : PySem.W.Frag) : Sp := fun vs H Q _ => ∃ (fl d : Addr) (xs : List V) (fr : List Tr) (L : Str → Int), vs = [.ref fl, .ref d] ∧ H fl = some (.lst xs) ∧ AllAt (BoxAt K H) xs fr ∧ (∀ b ∈ fr, HasL H d b.ps L ∧ WfB b ∧ 0 ≤ b.b.own) ∧ (fr.map Tr.nm).Nodup ∧ fr.length ≤ 17 ∧
  ∀ H' t a g ka kg, Ex H H' → H' t = some (.tup [.ref a, .ref g]) → H' a = some (.dK ka) → H' g = some (.dK kg) → (∀ b ∈ fr, valV ka (.inr b.nm) = some (.int (ask b L))) →
    (∀ b ∈ fr, match topG L fr b.b.grp with | some (v, n) => ∃ q, valV kg (.inl b.b.grp) = some (.ref q) ∧ H' q = some (.tup [.int v, .str n]) | none => valV kg (.inl b.b.grp) = none) → Q (.ref t) H'
def sp_reason (K : PySem.W.Frag) : Sp := fun vs H Q _ => ∃ (r : Addr) (x : V) (d : Addr) (b : Tr) (L : Str → Int) (least turn : Int) (named : Str), vs = [.ref r, x, .int least, .str named, .int turn] ∧ FldAt K H r "leasts" (.ref d) ∧ BoxAt K H x b ∧ HasL H d b.ps L ∧ WfB b ∧
  ∀ H' q, Ex H H' → H' q = some (rsnT (reasonAt b L least named turn)) → Q (.ref q) H'

/-! ### promises: the checker -/
def GrpD (H : Hp) (d : Addr) (bs : List Tr) : Prop := ∃ kvs : List (Key × V), H d = some (.dK kvs) ∧ ∀ g : Int, (0 < g ∧ mates bs g ≠ [] → ∃ l, valV kvs (.inl g) = some (.ref l) ∧ H l = some (.lst ((mates bs g).map V.str))) ∧ (¬ (0 < g ∧ mates bs g ≠ []) → valV kvs (.inl g) = none)
theorem GrpD.ex {H H' : Hp} {d : Addr} {bs : List Tr} (e : Ex H H') (h : GrpD H d bs) : GrpD H' d bs := let ⟨k, h1, h2⟩ := h; ⟨k, e _ _ h1, fun g => ⟨fun z => let ⟨l, q1, q2⟩ := (h2 g).1 z; ⟨l, q1, e _ _ q2⟩, (h2 g).2⟩⟩
def sp_reason_holds (K : PySem.W.Frag) : Sp := fun vs H Q _ => ∃ (x : V) (d pd gd : Addr) (b : Tr) (bs : List Tr) (L : Str → Int) (P : Str → Rsn), vs = [x, .ref d, .ref pd, .ref gd] ∧ BoxAt K H x b ∧ b ∈ bs ∧ (∀ p ∈ b.ps, p ∈ bs) ∧ HasL H d bs L ∧ HasP H pd bs P ∧ GrpD H gd bs ∧ WfB b ∧ bs.length ≤ 17 ∧
  ∀ H', Ex H H' → Q (.bl (reasonB bs L P b)) H'
def sp_leasts_hold (K : PySem.W.Frag) : Sp := fun vs H Q _ => ∃ (v : V) (d pd : Addr) (t : Tr) (L : Str → Int) (P : Str → Rsn), vs = [v, .ref d, .ref pd] ∧ TrAt H v t ∧ TreeOk t ∧ HasL H d t.boxes L ∧ HasP H pd t.boxes P ∧
  ∀ H', Ex H H' → Q (.bl (lhB t.boxes L P)) H'

/-! ### promises: the law's own -/
def sp_law_columns (K : PySem.W.Frag) : Sp := fun vs H Q _ => ∃ (v : V) (d : Addr) (t : Tr) (L : Str → Int), vs = [v, .ref d] ∧ TrAt H v t ∧ t.b.kd = .table ∧ WfB t ∧ HasL H d t.ps L ∧ ∀ H', Ex H H' → Q (.int (tableAsk t.b t.ps L)) H'
def sp_law_asked (K : PySem.W.Frag) : Sp := fun vs H Q _ => ∃ (v : V) (d : Addr) (t : Tr) (L : Str → Int), vs = [v, .ref d] ∧ TrAt H v t ∧ WfB t ∧ HasL H d t.ps L ∧ ∀ H', Ex H H' → Q (.int (asked t L)) H'
/-- the boxes, each with its parts among them -/
structure Bxs (H : Hp) (bl : Addr) (bs : List Tr) : Prop where
  at_ : ∃ xs, H bl = some (.lst xs) ∧ AllAt (TrAt H) xs bs
  cl : ∀ b ∈ bs, ∀ p ∈ b.ps, p ∈ bs
  wf : ∀ b ∈ bs, WfB b
  few : bs.length ≤ 17
  pos : 0 < bs.length
  nodup : (bs.map Tr.nm).Nodup
theorem Bxs.ex {H H' : Hp} {bl : Addr} {bs : List Tr} (e : Ex H H') (h : Bxs H bl bs) : Bxs H' bl bs := ⟨let ⟨xs, h1, h2⟩ := h.at_; ⟨xs, e _ _ h1, trees_ex e h2⟩, h.cl, h.wf, h.few, h.pos, h.nodup⟩
def sp_law_holds (K : PySem.W.Frag) : Sp := fun vs H Q _ => ∃ (bl d : Addr) (bs : List Tr) (L : Str → Int), vs = [.ref bl, .ref d] ∧ Bxs H bl bs ∧ HasL H d bs L ∧ ∀ H', Ex H H' → Q (.bl (holdB bs L)) H'
def sp_law_raised (K : PySem.W.Frag) : Sp := fun vs H Q _ => ∃ (bl d : Addr) (bs : List Tr) (L : Str → Int), vs = [.ref bl, .ref d] ∧ Bxs H bl bs ∧ HasL H d bs L ∧
  ∀ H' p L', Ex H H' → LD H' p bs L' → (∀ b ∈ bs, ¬ 0 < b.b.grp → L' b.nm = max (L b.nm) (max b.b.own (asked b L))) → Q (.ref p) H'
def sp_law_other (K : PySem.W.Frag) : Sp := fun vs H Q _ => ∃ (bl d fx : Addr) (c : Int) (bs : List Tr) (L : Str → Int) (fs : List Str), vs = [.ref bl, .ref d, .int c, .ref fx] ∧ Bxs H bl bs ∧ LD H d bs L ∧ holdB bs L = true ∧ H fx = some (.lst (fs.map V.str)) ∧
  (∀ b ∈ bs, b.nm ∈ fs → b.b.grp = 0 ∧ ∀ p ∈ b.ps, p.nm ∈ fs) ∧ ∀ H' p L', Ex H H' → LD H' p bs L' → (∀ b ∈ bs, b.nm ∈ fs → L' b.nm = L b.nm) → Q (.ref p) H'
def sp_law_lifted (K : PySem.W.Frag) : Sp := fun vs H Q _ => ∃ (bl d : Addr) (g by_ : Int) (bs : List Tr) (L : Str → Int), vs = [.ref bl, .ref d, .int g, .int by_] ∧ Bxs H bl bs ∧ LD H d bs L ∧ ∀ H' p L', Ex H H' → LD H' p bs L' → Q (.ref p) H'
def sp_law_lowered (K : PySem.W.Frag) : Sp := fun vs H Q _ => ∃ (bl d : Addr) (c : Int) (bs : List Tr) (L : Str → Int), vs = [.ref bl, .ref d, .int c] ∧ Bxs H bl bs ∧ LD H d bs L ∧ ∀ H' p L', Ex H H' → LD H' p bs L' → Q (.ref p) H'
def sp_law_matched (K : PySem.W.Frag) : Sp := fun vs H Q _ => ∃ (bl d fx : Addr) (c : Int) (bs : List Tr) (L : Str → Int) (fs : List Str), vs = [.ref bl, .ref d, .int c, .ref fx] ∧ Bxs H bl bs ∧ LD H d bs L ∧ H fx = some (.lst (fs.map V.str)) ∧ ∀ H' p L', Ex H H' → LD H' p bs L' → Q (.ref p) H'
def sp_law_forged (K : PySem.W.Frag) : Sp := fun vs H Q _ => ∃ (bl d : Addr) (c : Int) (bs : List Tr) (L : Str → Int), vs = [.ref bl, .ref d, .int c] ∧ Bxs H bl bs ∧ LD H d bs L ∧ ∀ H' p P, Ex H H' → PD H' p bs P → Q (.ref p) H'
def sp_law_papers (K : PySem.W.Frag) : Sp := fun vs H Q _ => ∃ (v : V) (d pd : Addr) (c : Int) (t : Tr) (L : Str → Int) (P : Str → Rsn), vs = [v, .ref d, .ref pd, .int c] ∧ TrAt H v t ∧ TreeOk t ∧ LD H d t.boxes L ∧ PD H pd t.boxes P ∧ lhB t.boxes L P = true ∧
  ∀ H', Ex H H' → Q (.bl true) H'
/-- what leasts_of tells -/
def Found (H : Hp) (q : Addr) (bs : List Tr) (L : Str → Int) (P : Str → Rsn) : Prop := ∃ d pd, H q = some (.tup [.ref d, .ref pd]) ∧ LD H d bs L ∧ PD H pd bs P ∧ d ≠ pd
def sp_law_found (K : PySem.W.Frag) : Sp := fun vs H Q _ => ∃ (v : V) (t : Tr), vs = [v] ∧ TrAt H v t ∧ TreeOk t ∧ (∀ y ∈ t.boxes, 0 ≤ y.b.own ∧ y.b.own ≤ 1000000) ∧ (∀ y ∈ fixT t, y.b.grp = 0) ∧
  (∀ H', Ex H H' → Q .non H') ∧ ∀ H' q L P, Ex H H' → Found H' q t.boxes L P → lhB t.boxes L P = true → Q (.ref q) H'

end BG
set_option maxHeartbeats 4000000
namespace BG
open PySem PySem.Spec PyProof.Rows L2
theorem sc_Box_init : FnScope ["self", "tree", "parts"] ["self", "tree", "parts"] (defScope s_Box_init) := ⟨rfl, rfl, rfl, by decide +kernel, rfl, by decide +kernel, by decide +kernel⟩
theorem sc_Box_asked_least : FnScope ["self", "leasts"] ["self", "leasts"] (defScope s_Box_asked_least) := ⟨rfl, rfl, rfl, by decide +kernel, rfl, by decide +kernel, by decide +kernel⟩
theorem sc_Box_sums : FnScope ["self"] ["self"] (defScope s_Box_sums) := ⟨rfl, rfl, rfl, by decide +kernel, rfl, by decide +kernel, by decide +kernel⟩
theorem sc_Box_alone_least : FnScope ["self"] ["self"] (defScope s_Box_alone_least) := ⟨rfl, rfl, rfl, by decide +kernel, rfl, by decide +kernel, by decide +kernel⟩
theorem sc_Box_asker : FnScope ["self", "leasts", "part"] ["self", "leasts"] (defScope s_Box_asker) := ⟨rfl, rfl, rfl, by decide +kernel, rfl, by decide +kernel, by decide +kernel⟩
theorem sc_Leaf_init : FnScope ["self", "tree", "parts"] ["self", "tree", "parts"] (defScope s_Leaf_init) := ⟨rfl, rfl, rfl, by decide +kernel, rfl, by decide +kernel, by decide +kernel⟩
theorem sc_all_boxes : FnScope ["box", "found", "part"] ["box"] (defScope s_all_boxes) := ⟨rfl, rfl, rfl, by decide +kernel, rfl, by decide +kernel, by decide +kernel⟩
theorem sc_deal : FnScope ["room", "weights", "total", "found", "rests", "name", "part", "rest", "left"] ["room", "weights"] (defScope s_deal) := ⟨rfl, rfl, rfl, by decide +kernel, rfl, by decide +kernel, by decide +kernel⟩
theorem sc_gaps_in : FnScope ["gap", "many"] ["gap", "many"] (defScope s_gaps_in) := ⟨rfl, rfl, rfl, by decide +kernel, rfl, by decide +kernel, by decide +kernel⟩
theorem sc_of_parts : FnScope ["box", "table", "part"] ["box", "table"] (defScope s_of_parts) := ⟨rfl, rfl, rfl, by decide +kernel, rfl, by decide +kernel, by decide +kernel⟩
theorem sc_Row_init : FnScope ["self", "tree", "parts"] ["self", "tree", "parts"] (defScope s_Row_init) := ⟨rfl, rfl, rfl, by decide +kernel, rfl, by decide +kernel, by decide +kernel⟩
theorem sc_Row_asked_least : FnScope ["self", "leasts"] ["self", "leasts"] (defScope s_Row_asked_least) := ⟨rfl, rfl, rfl, by decide +kernel, rfl, by decide +kernel, by decide +kernel⟩
theorem sc_Row_sums : FnScope ["self"] ["self"] (defScope s_Row_sums) := ⟨rfl, rfl, rfl, by decide +kernel, rfl, by decide +kernel, by decide +kernel⟩
theorem sc_Column_init : FnScope ["self", "tree", "parts"] ["self", "tree", "parts"] (defScope s_Column_init) := ⟨rfl, rfl, rfl, by decide +kernel, rfl, by decide +kernel, by decide +kernel⟩
theorem sc_Column_asked_least : FnScope ["self", "leasts"] ["self", "leasts"] (defScope s_Column_asked_least) := ⟨rfl, rfl, rfl, by decide +kernel, rfl, by decide +kernel, by decide +kernel⟩
theorem sc_cells_at : FnScope ["row", "column", "span", "k"] ["row", "column", "span"] (defScope s_cells_at) := ⟨rfl, rfl, rfl, by decide +kernel, rfl, by decide +kernel, by decide +kernel⟩
theorem sc_is_open : FnScope ["taken", "row", "column", "span", "there", "at"] ["taken", "row", "column", "span"] (defScope s_is_open) := ⟨rfl, rfl, rfl, by decide +kernel, rfl, by decide +kernel, by decide +kernel⟩
theorem sc_put_cells : FnScope ["columns", "spans", "taken", "found", "span", "at", "cell"] ["columns", "spans"] (defScope s_put_cells) := ⟨rfl, rfl, rfl, by decide +kernel, rfl, by decide +kernel, by decide +kernel⟩
theorem sc_last_row : FnScope ["spans", "places", "span", "place"] ["spans", "places"] (defScope s_last_row) := ⟨rfl, rfl, rfl, by decide +kernel, rfl, by decide +kernel, by decide +kernel⟩
theorem sc_track_name : FnScope ["number"] ["number"] (defScope s_track_name) := ⟨rfl, rfl, rfl, by decide +kernel, rfl, by decide +kernel, by decide +kernel⟩
theorem sc_track_weights : FnScope ["first", "spanned", "weights", "number"] ["first", "spanned"] (defScope s_track_weights) := ⟨rfl, rfl, rfl, by decide +kernel, rfl, by decide +kernel, by decide +kernel⟩
theorem sc_alone_raised : FnScope ["floor", "asks", "numbers", "name", "first", "spanned", "amount"] ["floor", "asks"] (defScope s_alone_raised) := ⟨rfl, rfl, rfl, by decide +kernel, rfl, by decide +kernel, by decide +kernel⟩
theorem sc_in_order : FnScope ["asks", "found", "spanned", "name", "first", "amount", "ask"] ["asks"] (defScope s_in_order) := ⟨rfl, rfl, rfl, by decide +kernel, rfl, by decide +kernel, by decide +kernel⟩
theorem sc_lack_of : FnScope ["numbers", "gap", "ask", "name", "first", "spanned", "amount"] ["numbers", "gap", "ask"] (defScope s_lack_of) := ⟨rfl, rfl, rfl, by decide +kernel, rfl, by decide +kernel, by decide +kernel⟩
theorem sc_raise_tracks : FnScope ["many", "gap", "floor", "asks", "numbers", "raises", "ask", "lack", "cells", "number"] ["many", "gap", "floor", "asks"] (defScope s_raise_tracks) := ⟨rfl, rfl, rfl, by decide +kernel, rfl, by decide +kernel, by decide +kernel⟩
theorem sc_Table_init : FnScope ["self", "tree", "parts"] ["self", "tree", "parts"] (defScope s_Table_init) := ⟨rfl, rfl, rfl, by decide +kernel, rfl, by decide +kernel, by decide +kernel⟩
theorem sc_Table_sums : FnScope ["self"] ["self"] (defScope s_Table_sums) := ⟨rfl, rfl, rfl, by decide +kernel, rfl, by decide +kernel, by decide +kernel⟩
theorem sc_Table_asks : FnScope ["self", "axis", "numbers", "found", "at", "part"] ["self", "axis", "numbers"] (defScope s_Table_asks) := ⟨rfl, rfl, rfl, by decide +kernel, rfl, by decide +kernel, by decide +kernel⟩
theorem sc_Table_asked_least : FnScope ["self", "leasts", "asks", "numbers", "raises", "part"] ["self", "leasts"] (defScope s_Table_asked_least) := ⟨rfl, rfl, rfl, by decide +kernel, rfl, by decide +kernel, by decide +kernel⟩
theorem sc_Wrap_init : FnScope ["self", "tree", "parts"] ["self", "tree", "parts"] (defScope s_Wrap_init) := ⟨rfl, rfl, rfl, by decide +kernel, rfl, by decide +kernel, by decide +kernel⟩
theorem sc_Wrap_asked_least : FnScope ["self", "leasts"] ["self", "leasts"] (defScope s_Wrap_asked_least) := ⟨rfl, rfl, rfl, by decide +kernel, rfl, by decide +kernel, by decide +kernel⟩
theorem sc_of : FnScope ["tree", "parts", "part"] ["tree"] (defScope s_of) := ⟨rfl, rfl, rfl, by decide +kernel, rfl, by decide +kernel, by decide +kernel⟩
theorem sc_settle : FnScope ["box", "leasts", "reasons", "rank", "part", "word", "name"] ["box", "leasts", "reasons"] (defScope s_settle) := ⟨rfl, rfl, rfl, by decide +kernel, rfl, by decide +kernel, by decide +kernel⟩
theorem sc_free_boxes : FnScope ["box", "leasts", "reasons", "found", "part"] ["box", "leasts", "reasons"] (defScope s_free_boxes) := ⟨rfl, rfl, rfl, by decide +kernel, rfl, by decide +kernel, by decide +kernel⟩
theorem sc_asks_of : FnScope ["free", "leasts", "asks", "groups", "box"] ["free", "leasts"] (defScope s_asks_of) := ⟨rfl, rfl, rfl, by decide +kernel, rfl, by decide +kernel, by decide +kernel⟩
theorem sc_Rounds_init : FnScope ["self", "box", "one"] ["self", "box"] (defScope s_Rounds_init) := ⟨rfl, rfl, rfl, by decide +kernel, rfl, by decide +kernel, by decide +kernel⟩
theorem sc_Rounds_reason : FnScope ["self", "box", "least", "named", "turn", "word", "name"] ["self", "box", "least", "named", "turn"] (defScope s_Rounds_reason) := ⟨rfl, rfl, rfl, by decide +kernel, rfl, by decide +kernel, by decide +kernel⟩
theorem sc_ring_of : FnScope ["rounds", "named", "box", "at", "name", "seen", "word", "other", "rank", "part"] ["rounds"] (defScope s_ring_of) := ⟨rfl, rfl, rfl, by decide +kernel, rfl, by decide +kernel, by decide +kernel⟩
theorem sc_reason_holds : FnScope ["box", "leasts", "paper", "groups", "word", "name", "rank", "least", "lower", "part"] ["box", "leasts", "paper", "groups"] (defScope s_reason_holds) := ⟨rfl, rfl, rfl, by decide +kernel, rfl, by decide +kernel, by decide +kernel⟩
theorem sc_leasts_hold : FnScope ["tree", "leasts", "paper", "groups", "boxes", "box"] ["tree", "leasts", "paper"] (defScope s_leasts_hold) := ⟨rfl, rfl, rfl, by decide +kernel, rfl, by decide +kernel, by decide +kernel⟩
theorem sc_law_at : FnScope ["_law_script", "_law_k"] ["_law_script", "_law_k"] (defScope s_law_at) := ⟨rfl, rfl, rfl, by decide +kernel, rfl, by decide +kernel, by decide +kernel⟩
theorem sc_law_mixed : FnScope ["_law_cell", "_law_n"] ["_law_cell"] (defScope s_law_mixed) := ⟨rfl, rfl, rfl, by decide +kernel, rfl, by decide +kernel, by decide +kernel⟩
theorem sc_law_draws : FnScope ["_law_script", "_law_first", "_law_many", "_law_base", "_law_found_here", "_law_cell", "_law_k", "_law_n"] ["_law_script", "_law_first", "_law_many", "_law_base"] (defScope s_law_draws) := ⟨rfl, rfl, rfl, by decide +kernel, rfl, by decide +kernel, by decide +kernel⟩
theorem sc_law_label : FnScope ["_law_k", "_law_cell", "_law_letters", "_law_n", "_law_word", "_law_step_here", "_law_at_here", "_law_mark"] ["_law_k", "_law_cell"] (defScope s_law_label) := ⟨rfl, rfl, rfl, by decide +kernel, rfl, by decide +kernel, by decide +kernel⟩
theorem sc_law_span : FnScope ["_law_n", "_law_least"] ["_law_n"] (defScope s_law_span) := ⟨rfl, rfl, rfl, by decide +kernel, rfl, by decide +kernel, by decide +kernel⟩
theorem sc_law_own : FnScope ["_law_n", "_law_alike", "_law_wide", "_law_high", "_law_group"] ["_law_n", "_law_alike"] (defScope s_law_own) := ⟨rfl, rfl, rfl, by decide +kernel, rfl, by decide +kernel, by decide +kernel⟩
theorem sc_law_leaf : FnScope ["_law_name", "_law_n", "_law_own_here", "_law_rest"] ["_law_name", "_law_n"] (defScope s_law_leaf) := ⟨rfl, rfl, rfl, by decide +kernel, rfl, by decide +kernel, by decide +kernel⟩
theorem sc_law_within : FnScope ["_law_kind", "_law_name", "_law_n", "_law_some", "_law_alike", "_law_own_here", "_law_rest", "_law_gap", "_law_side", "_law_align", "_law_columns_here", "_law_spans", "_law_k", "_law_far"] ["_law_kind", "_law_name", "_law_n", "_law_some", "_law_alike"] (defScope s_law_within) := ⟨rfl, rfl, rfl, by decide +kernel, rfl, by decide +kernel, by decide +kernel⟩
theorem sc_law_step : FnScope ["_law_stack", "_law_n", "_law_name", "_law_way", "_law_many", "_law_leaf_here", "_law_some", "_law_deep", "_law_grouped_here", "_law_kind", "_law_box", "_law_one"] ["_law_stack", "_law_n", "_law_name"] (defScope s_law_step) := ⟨rfl, rfl, rfl, by decide +kernel, rfl, by decide +kernel, by decide +kernel⟩
theorem sc_law_tree : FnScope ["_law_script", "_law_first", "_law_many", "_law_stack", "_law_cell", "_law_k", "_law_n", "_law_kind", "_law_one"] ["_law_script", "_law_first", "_law_many"] (defScope s_law_tree) := ⟨rfl, rfl, rfl, by decide +kernel, rfl, by decide +kernel, by decide +kernel⟩
theorem sc_law_boxes : FnScope ["_law_tree_here", "_law_found_here", "_law_todo", "_law_box"] ["_law_tree_here"] (defScope s_law_boxes) := ⟨rfl, rfl, rfl, by decide +kernel, rfl, by decide +kernel, by decide +kernel⟩
theorem sc_law_columns : FnScope ["_law_box", "_law_leasts", "_law_columns_here", "_law_gap", "_law_side", "_law_spans", "_law_asks", "_law_part", "_law_cell", "_law_span_here"] ["_law_box", "_law_leasts"] (defScope s_law_columns) := ⟨rfl, rfl, rfl, by decide +kernel, rfl, by decide +kernel, by decide +kernel⟩
theorem sc_law_asked : FnScope ["_law_box", "_law_leasts", "_law_some", "_law_part"] ["_law_box", "_law_leasts"] (defScope s_law_asked) := ⟨rfl, rfl, rfl, by decide +kernel, rfl, by decide +kernel, by decide +kernel⟩
theorem sc_law_grouped : FnScope ["_law_tree_here", "_law_script", "_law_first", "_law_tabled_here", "_law_kind", "_law_name", "_law_own_here", "_law_what", "_law_parts", "_law_n", "_law_group", "_law_least", "_law_some", "_law_sign", "_law_part"] ["_law_tree_here", "_law_script", "_law_first", "_law_tabled_here"] (defScope s_law_grouped) := ⟨rfl, rfl, rfl, by decide +kernel, rfl, by decide +kernel, by decide +kernel⟩
theorem sc_law_tabled : FnScope ["_law_tree_here", "_law_within_here", "_law_found_here", "_law_part"] ["_law_tree_here", "_law_within_here"] (defScope s_law_tabled) := ⟨rfl, rfl, rfl, by decide +kernel, rfl, by decide +kernel, by decide +kernel⟩
theorem sc_law_holds : FnScope ["_law_boxes_here", "_law_leasts", "_law_firsts", "_law_box"] ["_law_boxes_here", "_law_leasts"] (defScope s_law_holds) := ⟨rfl, rfl, rfl, by decide +kernel, rfl, by decide +kernel, by decide +kernel⟩
theorem sc_law_raised : FnScope ["_law_boxes_here", "_law_leasts", "_law_greatest", "_law_after", "_law_box"] ["_law_boxes_here", "_law_leasts"] (defScope s_law_raised) := ⟨rfl, rfl, rfl, by decide +kernel, rfl, by decide +kernel, by decide +kernel⟩
theorem sc_law_other : FnScope ["_law_boxes_here", "_law_leasts", "_law_cell", "_law_fixed", "_law_other_here", "_law_k", "_law_n", "_law_name", "_law_more", "_law_turn"] ["_law_boxes_here", "_law_leasts", "_law_cell", "_law_fixed"] (defScope s_law_other) := ⟨rfl, rfl, rfl, by decide +kernel, rfl, by decide +kernel, by decide +kernel⟩
theorem sc_law_lifted : FnScope ["_law_boxes_here", "_law_leasts", "_law_group", "_law_by", "_law_other_here", "_law_box", "_law_turn"] ["_law_boxes_here", "_law_leasts", "_law_group", "_law_by"] (defScope s_law_lifted) := ⟨rfl, rfl, rfl, by decide +kernel, rfl, by decide +kernel, by decide +kernel⟩
theorem sc_law_lowered : FnScope ["_law_boxes_here", "_law_leasts", "_law_cell", "_law_other_here", "_law_low", "_law_box"] ["_law_boxes_here", "_law_leasts", "_law_cell"] (defScope s_law_lowered) := ⟨rfl, rfl, rfl, by decide +kernel, rfl, by decide +kernel, by decide +kernel⟩
theorem sc_law_matched : FnScope ["_law_boxes_here", "_law_leasts", "_law_cell", "_law_fixed", "_law_other_here", "_law_free", "_law_name", "_law_more", "_law_turn", "_law_box", "_law_one"] ["_law_boxes_here", "_law_leasts", "_law_cell", "_law_fixed"] (defScope s_law_matched) := ⟨rfl, rfl, rfl, by decide +kernel, rfl, by decide +kernel, by decide +kernel⟩
theorem sc_law_forged : FnScope ["_law_boxes_here", "_law_leasts", "_law_cell", "_law_paper", "_law_groups", "_law_box", "_law_k", "_law_least", "_law_n", "_law_rank", "_law_some", "_law_parts", "_law_name", "_law_part"] ["_law_boxes_here", "_law_leasts", "_law_cell"] (defScope s_law_forged) := ⟨rfl, rfl, rfl, by decide +kernel, rfl, by decide +kernel, by decide +kernel⟩
theorem sc_law_papers : FnScope ["_law_tree_here", "_law_leasts", "_law_paper", "_law_cell", "_law_shifted", "_law_name", "_law_word", "_law_other_here", "_law_rank", "_law_reason", "_law_bent"] ["_law_tree_here", "_law_leasts", "_law_paper", "_law_cell"] (defScope s_law_papers) := ⟨rfl, rfl, rfl, by decide +kernel, rfl, by decide +kernel, by decide +kernel⟩
theorem sc_law : FnScope ["_law_script", "_law_tree_here", "_law_fixed", "_law_boxes_here", "_law_found_here", "_law_leasts", "_law_paper", "_law_k", "_law_other_here", "_law_told", "_law_lowered_here", "_law_matched_here", "_law_some", "_law_one", "_law_box", "_law_name"] ["_law_script"] (defScope s_law) := ⟨rfl, rfl, rfl, by decide +kernel, rfl, by decide +kernel, by decide +kernel⟩
structure Fs (K : PySem.W.Frag) (mg : Str → Option Value) : Prop where
  d_Box_init : DefAt K "__init__" "Box.__init__" s_Box_init 35
  d_Box_asked_least : DefAt K "asked_least" "Box.asked_least" s_Box_asked_least 49
  d_Box_sums : DefAt K "sums" "Box.sums" s_Box_sums 56
  d_Box_alone_least : DefAt K "alone_least" "Box.alone_least" s_Box_alone_least 63
  d_Box_asker : DefAt K "asker" "Box.asker" s_Box_asker 70
  d_Leaf_init : DefAt K "__init__" "Leaf.__init__" s_Leaf_init 161
  d_all_boxes : DefAt K "all_boxes" "all_boxes" s_all_boxes 187
  g_all_boxes : mg "all_boxes" = some (.ref 187)
  d_deal : DefAt K "deal" "deal" s_deal 699
  g_deal : mg "deal" = some (.ref 699)
  d_gaps_in : DefAt K "gaps_in" "gaps_in" s_gaps_in 706
  g_gaps_in : mg "gaps_in" = some (.ref 706)
  d_of_parts : DefAt K "of_parts" "of_parts" s_of_parts 721
  g_of_parts : mg "of_parts" = some (.ref 721)
  d_Row_init : DefAt K "__init__" "Row.__init__" s_Row_init 735
  d_Row_asked_least : DefAt K "asked_least" "Row.asked_least" s_Row_asked_least 749
  d_Row_sums : DefAt K "sums" "Row.sums" s_Row_sums 756
  d_Column_init : DefAt K "__init__" "Column.__init__" s_Column_init 817
  d_Column_asked_least : DefAt K "asked_least" "Column.asked_least" s_Column_asked_least 831
  d_cells_at : DefAt K "cells_at" "cells_at" s_cells_at 883
  g_cells_at : mg "cells_at" = some (.ref 883)
  d_is_open : DefAt K "is_open" "is_open" s_is_open 890
  g_is_open : mg "is_open" = some (.ref 890)
  d_put_cells : DefAt K "put_cells" "put_cells" s_put_cells 897
  g_put_cells : mg "put_cells" = some (.ref 897)
  d_last_row : DefAt K "last_row" "last_row" s_last_row 902
  g_last_row : mg "last_row" = some (.ref 902)
  d_track_name : DefAt K "track_name" "track_name" s_track_name 909
  g_track_name : mg "track_name" = some (.ref 909)
  d_track_weights : DefAt K "track_weights" "track_weights" s_track_weights 916
  g_track_weights : mg "track_weights" = some (.ref 916)
  d_alone_raised : DefAt K "alone_raised" "alone_raised" s_alone_raised 923
  g_alone_raised : mg "alone_raised" = some (.ref 923)
  d_in_order : DefAt K "in_order" "in_order" s_in_order 928
  g_in_order : mg "in_order" = some (.ref 928)
  d_lack_of : DefAt K "lack_of" "lack_of" s_lack_of 935
  g_lack_of : mg "lack_of" = some (.ref 935)
  d_raise_tracks : DefAt K "raise_tracks" "raise_tracks" s_raise_tracks 942
  g_raise_tracks : mg "raise_tracks" = some (.ref 942)
  d_Table_init : DefAt K "__init__" "Table.__init__" s_Table_init 956
  d_Table_sums : DefAt K "sums" "Table.sums" s_Table_sums 963
  d_Table_asks : DefAt K "asks" "Table.asks" s_Table_asks 977
  d_Table_asked_least : DefAt K "asked_least" "Table.asked_least" s_Table_asked_least 1022
  d_Wrap_init : DefAt K "__init__" "Wrap.__init__" s_Wrap_init 1076
  d_Wrap_asked_least : DefAt K "asked_least" "Wrap.asked_least" s_Wrap_asked_least 1090
  d_of : DefAt K "of" "of" s_of 1170
  g_of : mg "of" = some (.ref 1170)
  d_settle : DefAt K "settle" "settle" s_settle 1177
  g_settle : mg "settle" = some (.ref 1177)
  d_free_boxes : DefAt K "free_boxes" "free_boxes" s_free_boxes 1184
  g_free_boxes : mg "free_boxes" = some (.ref 1184)
  d_asks_of : DefAt K "asks_of" "asks_of" s_asks_of 1191
  g_asks_of : mg "asks_of" = some (.ref 1191)
  d_Rounds_init : DefAt K "__init__" "Rounds.__init__" s_Rounds_init 1205
  d_Rounds_reason : DefAt K "reason" "Rounds.reason" s_Rounds_reason 1212
  d_ring_of : DefAt K "ring_of" "ring_of" s_ring_of 1231
  g_ring_of : mg "ring_of" = some (.ref 1231)
  d_reason_holds : DefAt K "reason_holds" "reason_holds" s_reason_holds 1243
  g_reason_holds : mg "reason_holds" = some (.ref 1243)
  d_leasts_hold : DefAt K "leasts_hold" "leasts_hold" s_leasts_hold 1248
  g_leasts_hold : mg "leasts_hold" = some (.ref 1248)
  d_law_at : DefAt K "_law_at" "_law_at" s_law_at 1255
  g_law_at : mg "_law_at" = some (.ref 1255)
  d_law_mixed : DefAt K "_law_mixed" "_law_mixed" s_law_mixed 1262
  g_law_mixed : mg "_law_mixed" = some (.ref 1262)
  d_law_draws : DefAt K "_law_draws" "_law_draws" s_law_draws 1269
  g_law_draws : mg "_law_draws" = some (.ref 1269)
  d_law_label : DefAt K "_law_label" "_law_label" s_law_label 1283
  g_law_label : mg "_law_label" = some (.ref 1283)
  d_law_span : DefAt K "_law_span" "_law_span" s_law_span 1290
  g_law_span : mg "_law_span" = some (.ref 1290)
  d_law_own : DefAt K "_law_own" "_law_own" s_law_own 1297
  g_law_own : mg "_law_own" = some (.ref 1297)
  d_law_leaf : DefAt K "_law_leaf" "_law_leaf" s_law_leaf 1304
  g_law_leaf : mg "_law_leaf" = some (.ref 1304)
  d_law_within : DefAt K "_law_within" "_law_within" s_law_within 1311
  g_law_within : mg "_law_within" = some (.ref 1311)
  d_law_step : DefAt K "_law_step" "_law_step" s_law_step 1316
  g_law_step : mg "_law_step" = some (.ref 1316)
  d_law_tree : DefAt K "_law_tree" "_law_tree" s_law_tree 1321
  g_law_tree : mg "_law_tree" = some (.ref 1321)
  d_law_boxes : DefAt K "_law_boxes" "_law_boxes" s_law_boxes 1328
  g_law_boxes : mg "_law_boxes" = some (.ref 1328)
  d_law_columns : DefAt K "_law_columns" "_law_columns" s_law_columns 1335
  g_law_columns : mg "_law_columns" = some (.ref 1335)
  d_law_asked : DefAt K "_law_asked" "_law_asked" s_law_asked 1340
  g_law_asked : mg "_law_asked" = some (.ref 1340)
  d_law_grouped : DefAt K "_law_grouped" "_law_grouped" s_law_grouped 1345
  g_law_grouped : mg "_law_grouped" = some (.ref 1345)
  d_law_tabled : DefAt K "_law_tabled" "_law_tabled" s_law_tabled 1352
  g_law_tabled : mg "_law_tabled" = some (.ref 1352)
  d_law_holds : DefAt K "_law_holds" "_law_holds" s_law_holds 1359
  g_law_holds : mg "_law_holds" = some (.ref 1359)
  d_law_raised : DefAt K "_law_raised" "_law_raised" s_law_raised 1366
  g_law_raised : mg "_law_raised" = some (.ref 1366)
  d_law_other : DefAt K "_law_other" "_law_other" s_law_other 1373
  g_law_other : mg "_law_other" = some (.ref 1373)
  d_law_lifted : DefAt K "_law_lifted" "_law_lifted" s_law_lifted 1380
  g_law_lifted : mg "_law_lifted" = some (.ref 1380)
  d_law_lowered : DefAt K "_law_lowered" "_law_lowered" s_law_lowered 1387
  g_law_lowered : mg "_law_lowered" = some (.ref 1387)
  d_law_matched : DefAt K "_law_matched" "_law_matched" s_law_matched 1392
  g_law_matched : mg "_law_matched" = some (.ref 1392)
  d_law_forged : DefAt K "_law_forged" "_law_forged" s_law_forged 1397
  g_law_forged : mg "_law_forged" = some (.ref 1397)
  d_law_papers : DefAt K "_law_papers" "_law_papers" s_law_papers 1411
  g_law_papers : mg "_law_papers" = some (.ref 1411)
  d_law : DefAt K "law" "law" s_law 1416
  g_law : mg "law" = some (.ref 1416)
  d_TooGreat_init : DefAt K "__init__" "TooGreat.__init__" s_TooGreat_init 214
  d_Ring_init : DefAt K "__init__" "Ring.__init__" s_Ring_init 233
  d_Rounds_go : DefAt K "go" "Rounds.go" s_Rounds_go 1219
  d_leasts_of : DefAt K "leasts_of" "leasts_of" s_leasts_of 1238
  g_leasts_of : mg "leasts_of" = some (.ref 1238)
  d_law_found : DefAt K "_law_found" "_law_found" s_law_found 1404
  g_law_found : mg "_law_found" = some (.ref 1404)
  b_all : mg "all" = none
  b_any : mg "any" = none
  b_bool : mg "bool" = none
  b_dict : mg "dict" = none
  b_divmod : mg "divmod" = none
  b_enumerate : mg "enumerate" = none
  b_int : mg "int" = none
  b_isinstance : mg "isinstance" = none
  b_len : mg "len" = none
  b_list : mg "list" = none
  b_max : mg "max" = none
  b_ord : mg "ord" = none
  b_range : mg "range" = none
  b_sorted : mg "sorted" = none
  b_str : mg "str" = none
  b_sum : mg "sum" = none
  b_tuple : mg "tuple" = none
  b_zip : mg "zip" = none
  v_GREATEST : ∃ t, mg "GREATEST" = some (.int 1000000000 t)
  v_LOWEST : ∃ t, mg "LOWEST" = some (.int (-20) t)
  g_Leaf : mg "Leaf" = some (.ref 178)
  g_Row : mg "Row" = some (.ref 801)
  g_Column : mg "Column" = some (.ref 876)
  g_Table : mg "Table" = some (.ref 1060)
  g_Wrap : mg "Wrap" = some (.ref 1163)
  g_Rounds : mg "Rounds" = some (.ref 1222)
  g_Box : mg "Box" = some (.ref 143)
  g_BoxError : mg "BoxError" = some (.ref 197)
  g_TooGreat : mg "TooGreat" = some (.ref 217)
  g_Ring : mg "Ring" = some (.ref 236)
  m_Leaf : Mk K 178 161
  m_Row : Mk K 801 735
  m_Column : Mk K 876 817
  m_Table : Mk K 1060 956
  m_Wrap : Mk K 1163 1076
  m_Rounds : Mk K 1222 1205
  cl_Leaf : Cls K 178
  cl_Row : Cls K 801
  cl_Column : Cls K 876
  cl_Table : Cls K 1060
  cl_Wrap : Cls K 1163
  cl_Rounds : Cls K 1222
  c_Box : CInit K 143 35
  e_BoxError : True

end BG
set_option maxHeartbeats 4000000
namespace BG
open PySem PySem.Spec PyProof.Rows L2
def r_Box_init (K : PySem.W.Frag)  : TS :=
  (tSeq (sFld K (tVar 0) (tOp (rIxT K) (tVar 1) (tC (.int 1))) "name")
    (tSeq (sFld K (tVar 0) (tOp (rIxT K) (tOp (rIxT K) (tVar 1) (tC (.int 2))) (tC (.int 0))) "wide_own")
    (tSeq (sFld K (tVar 0) (tOp (rIxT K) (tOp (rIxT K) (tVar 1) (tC (.int 2))) (tC (.int 1))) "high_own")
    (tSeq (sFld K (tVar 0) (tOp (rIxT K) (tOp (rIxT K) (tVar 1) (tC (.int 2))) (tC (.int 2))) "grow")
    (tSeq (sFld K (tVar 0) (tOp (rIxT K) (tOp (rIxT K) (tVar 1) (tC (.int 2))) (tC (.int 3))) "shrink")
    (tSeq (sFld K (tVar 0) (tOp (rIxT K) (tOp (rIxT K) (tVar 1) (tC (.int 2))) (tC (.int 4))) "rank")
    (tSeq (sFld K (tVar 0) (tOp (rIxT K) (tOp (rIxT K) (tVar 1) (tC (.int 2))) (tC (.int 5))) "group")
    (sFld K (tVar 0) (tCB (qList K) (tCons (tVar 2) tNil)) "parts"))))))))

def r_Box_asked_least (K : PySem.W.Frag)  : TS :=
  (tRet (tC (.int 0)))

def r_Box_sums (K : PySem.W.Frag)  : TS :=
  (tRet (tC (.bl false)))

def r_Box_alone_least (K : PySem.W.Frag)  : TS :=
  (tRet (tC (.int 0)))

def r_Box_asker (K : PySem.W.Frag)  : TS :=
  (tSeq (tIfS (tB (tMethD [178, 801, 876, 1060, 1163] "sums" (sp_sums K) E0 (tVar 0) tNil)) (tRet (tTup (tCons (tC (.str "parts")) (tCons (tC (.str "")) tNil)))) tNext)
    (tSeq (tFor (iList K (tFld K (tVar 0) "parts")) (gName 2) (tIfS (tTest (tOp rEq (tDGet (tVar 1) (tFld K (tVar 2) "name")) (tMethD [178, 801, 876, 1060, 1163] "asked_least" (sp_asked K) E0 (tVar 0) (tCons (tVar 1) tNil)))) (tRet (tTup (tCons (tC (.str "part")) (tCons (tFld K (tVar 2) "name") tNil)))) tNext))
    (tRet (tTup (tCons (tC (.str "own")) (tCons (tC (.str "")) tNil))))))

def r_Leaf_init (K : PySem.W.Frag)  : TS :=
  (tSeq (tDrop (tCallR (sp_Box_init K) E0 (tCons (tVar 0) (tCons (tVar 1) (tCons (tVar 2) tNil)))))
    (sFld K (tVar 0) (tOp (rIxT K) (tVar 1) (tC (.int 3))) "wishes"))

def r_all_boxes (K : PySem.W.Frag) (d : Nat) : TS :=
  (tSeq (tAsg (tLst (tCons (tVar 0) tNil)) (gName 1))
    (tSeq (tFor (iList K (tFld K (tVar 0) "parts")) (gName 2) (tDrop (tBM K "list" rExtend (tVar 1) (tCons (tCallR (sp_all_boxes K d) E0 (tCons (tVar 2) tNil)) tNil))))
    (tRet (tVar 1))))

def r_deal (K : PySem.W.Frag)  : TS :=
  (tSeq (tAsg (tSumVals (tVar 1)) (gName 2))
    (tSeq (tAsg tDNewK (gName 3))
    (tSeq (tAsg (tLst tNil) (gName 4))
    (tSeq (tFor (iList K (tCB qSortedD (tCons (tVar 1) tNil))) (gName 5) (tSeq (tAsg (tCB qDivmod (tCons (tOp qMul (tVar 0) (tDGet (tVar 1) (tVar 5))) (tCons (tVar 2) tNil))) (gTup K 2 (gCons (gName 6) (gCons (gName 7) gNil))))
    (tSeq (sDPut (tVar 3) (tVar 5) (tVar 6))
    (tDrop (tBM K "list" rAppend (tVar 4) (tCons (tTup (tCons (tUn qNeg (tVar 7)) (tCons (tVar 5) tNil))) tNil))))))
    (tSeq (tAsg (tOp qSub (tVar 0) (tSumVals (tVar 3))) (gName 8))
    (tSeq (tFor (iList K (tSl (rSlL K) (tCB (qSortedM K) (tCons (tVar 4) tNil)) tNoPart (tPart (tVar 8)))) (gTup K 2 (gCons (gName 7) (gCons (gName 5) gNil))) (sDAug (tVar 3) (tVar 5) (tC (.int 1)) rAdd))
    (tRet (tVar 3))))))))

def r_gaps_in (K : PySem.W.Frag)  : TS :=
  (tRet (tOp qMul (tVar 0) (tCB qMax2 (tCons (tC (.int 0)) (tCons (tOp qSub (tVar 1) (tC (.int 1))) tNil)))))

def r_of_parts (K : PySem.W.Frag)  : TS :=
  (tRet (tLc (iList K (tFld K (tVar 0) "parts")) (gName 2) tYes (tDGet (tVar 1) (tFld K (tVar 2) "name")) [2]))

def r_Row_init (K : PySem.W.Frag)  : TS :=
  (tSeq (tDrop (tCallR (sp_Box_init K) E0 (tCons (tVar 0) (tCons (tVar 1) (tCons (tVar 2) tNil)))))
    (tSeq (sFld K (tVar 0) (tOp (rIxT K) (tOp (rIxT K) (tVar 1) (tC (.int 3))) (tC (.int 0))) "gap")
    (tSeq (sFld K (tVar 0) (tOp (rIxT K) (tOp (rIxT K) (tVar 1) (tC (.int 3))) (tC (.int 1))) "align")
    (sFld K (tVar 0) (tOp (rIxT K) (tOp (rIxT K) (tVar 1) (tC (.int 3))) (tC (.int 2))) "side"))))

def r_Row_asked_least (K : PySem.W.Frag)  : TS :=
  (tRet (tOp qAdd (tCB (rSum K) (tCons (tCallR (sp_of_parts K) E0 (tCons (tVar 0) (tCons (tVar 1) tNil))) tNil)) (tCallR (sp_gaps_in K) E0 (tCons (tFld K (tVar 0) "gap") (tCons (tCB (qLen K) (tCons (tFld K (tVar 0) "parts") tNil)) tNil)))))

def r_Row_sums (K : PySem.W.Frag)  : TS :=
  (tRet (tC (.bl true)))

def r_Column_init (K : PySem.W.Frag)  : TS :=
  (tSeq (tDrop (tCallR (sp_Box_init K) E0 (tCons (tVar 0) (tCons (tVar 1) (tCons (tVar 2) tNil)))))
    (tSeq (sFld K (tVar 0) (tOp (rIxT K) (tOp (rIxT K) (tVar 1) (tC (.int 3))) (tC (.int 0))) "gap")
    (tSeq (sFld K (tVar 0) (tOp (rIxT K) (tOp (rIxT K) (tVar 1) (tC (.int 3))) (tC (.int 1))) "align")
    (sFld K (tVar 0) (tOp (rIxT K) (tOp (rIxT K) (tVar 1) (tC (.int 3))) (tC (.int 2))) "side"))))

def r_Column_asked_least (K : PySem.W.Frag)  : TS :=
  (tRet (tMaxD K (tCallR (sp_of_parts K) E0 (tCons (tVar 0) (tCons (tVar 1) tNil))) (tC (.int 0))))

def r_cells_at (K : PySem.W.Frag)  : TS :=
  (tRet (tLc (iRng1 (tCons (tOp qMul (tOp (rIxT K) (tVar 2) (tC (.int 0))) (tOp (rIxT K) (tVar 2) (tC (.int 1)))) tNil)) (gName 3) tYes (tTup (tCons (tOp qAdd (tVar 0) (tOp qFdiv (tVar 3) (tOp (rIxT K) (tVar 2) (tC (.int 0))))) (tCons (tOp qAdd (tVar 1) (tOp qMod (tVar 3) (tOp (rIxT K) (tVar 2) (tC (.int 0))))) tNil))) [3]))

def r_is_open (K : PySem.W.Frag)  : TS :=
  (tSeq (tFor (iRng2 (tCons (tVar 1) (tCons (tOp qAdd (tVar 1) (tOp (rIxT K) (tVar 3) (tC (.int 1)))) tNil))) (gName 4) (tFor (iRng2 (tCons (tVar 2) (tCons (tOp qAdd (tVar 2) (tOp (rIxT K) (tVar 3) (tC (.int 0)))) tNil))) (gName 5) (tIfS (tB (tDIn (tTup (tCons (tVar 4) (tCons (tVar 5) tNil))) (tVar 0))) (tRet (tC (.bl false))) tNext)))
    (tRet (tC (.bl true))))

def r_put_cells (K : PySem.W.Frag)  : TS :=
  (tSeq (tAsg tDNewT (gName 2))
    (tSeq (tAsg (tLst tNil) (gName 3))
    (tSeq (tFor (iList K (tVar 1)) (gName 4) (tSeq (tAsg (tC (.int 0)) (gName 5))
    (tSeq (tWhile (tOr (tTest (tOp qGt (tOp qAdd (tOp qMod (tVar 5) (tVar 0)) (tOp (rIxT K) (tVar 4) (tC (.int 0)))) (tVar 0))) (tNot (tB (tCallR (sp_is_open K) E0 (tCons (tVar 2) (tCons (tOp qFdiv (tVar 5) (tVar 0)) (tCons (tOp qMod (tVar 5) (tVar 0)) (tCons (tVar 4) tNil)))))))) (tAug 5 (tC (.int 1)) (ipI fun i j => i + j)))
    (tSeq (tFor (iList K (tCallR (sp_cells_at K) E0 (tCons (tOp qFdiv (tVar 5) (tVar 0)) (tCons (tOp qMod (tVar 5) (tVar 0)) (tCons (tVar 4) tNil))))) (gName 6) (sDPut (tVar 2) (tVar 6) (tC (.bl true))))
    (tDrop (tBM K "list" rAppend (tVar 3) (tCons (tTup (tCons (tOp qFdiv (tVar 5) (tVar 0)) (tCons (tOp qMod (tVar 5) (tVar 0)) tNil))) tNil)))))))
    (tRet (tVar 3)))))

def r_last_row (K : PySem.W.Frag)  : TS :=
  (tRet (tMaxD K (tLc (iZip K (tCons (tVar 0) (tCons (tVar 1) tNil))) (gTup K 2 (gCons (gName 2) (gCons (gName 3) gNil))) tYes (tOp qAdd (tOp (rIxT K) (tVar 3) (tC (.int 0))) (tOp (rIxT K) (tVar 2) (tC (.int 1)))) [2, 3]) (tC (.int 0))))

def r_track_name (K : PySem.W.Frag)  : TS :=
  (tRet (tBM K "str" qZfill (tCB qStrI (tCons (tVar 0) tNil)) (tCons (tC (.int 2)) tNil)))

def r_track_weights (K : PySem.W.Frag)  : TS :=
  (tSeq (tAsg tDNewK (gName 2))
    (tSeq (tFor (iRng2 (tCons (tVar 0) (tCons (tOp qAdd (tVar 0) (tVar 1)) tNil))) (gName 3) (sDPut (tVar 2) (tCallR (sp_track_name K) E0 (tCons (tVar 3) tNil)) (tC (.int 1))))
    (tRet (tVar 2))))

def r_alone_raised (K : PySem.W.Frag)  : TS :=
  (tSeq (tAsg (tCB (qList K) (tCons (tVar 0) tNil)) (gName 2))
    (tSeq (tFor (iList K (tVar 1)) (gTup K 4 (gCons (gName 3) (gCons (gName 4) (gCons (gName 5) (gCons (gName 6) gNil))))) (tIfS (tTest (tOp rEq (tVar 5) (tC (.int 1)))) (tAsg (tCB qMax2 (tCons (tOp (rIxL K) (tVar 2) (tVar 4)) (tCons (tVar 6) tNil))) (gSub (tVar 2) (tVar 4) rSetL)) tNext))
    (tRet (tVar 2))))

def r_in_order (K : PySem.W.Frag)  : TS :=
  (tSeq (tAsg (tLst tNil) (gName 1))
    (tSeq (tFor (iList K (tCB (qSortedM K) (tCons (tLc (iList K (tVar 0)) (gName 6) (tTest (tOp qGt (tOp (rIxT K) (tVar 6) (tC (.int 2))) (tC (.int 1)))) (tTup (tCons (tOp (rIxT K) (tVar 6) (tC (.int 2))) (tCons (tOp (rIxT K) (tVar 6) (tC (.int 0))) (tCons (tOp (rIxT K) (tVar 6) (tC (.int 1))) (tCons (tOp (rIxT K) (tVar 6) (tC (.int 3))) tNil))))) [6]) tNil))) (gTup K 4 (gCons (gName 2) (gCons (gName 3) (gCons (gName 4) (gCons (gName 5) gNil))))) (tDrop (tBM K "list" rAppend (tVar 1) (tCons (tTup (tCons (tVar 3) (tCons (tVar 4) (tCons (tVar 2) (tCons (tVar 5) tNil))))) tNil))))
    (tRet (tVar 1))))

def r_lack_of (K : PySem.W.Frag)  : TS :=
  (tSeq (tAsg (tVar 2) (gTup K 4 (gCons (gName 3) (gCons (gName 4) (gCons (gName 5) (gCons (gName 6) gNil))))))
    (tRet (tOp qSub (tOp qSub (tVar 6) (tCB (rSum K) (tCons (tSl (rSlL K) (tVar 0) (tPart (tVar 4)) (tPart (tOp qAdd (tVar 4) (tVar 5)))) tNil))) (tCallR (sp_gaps_in K) E0 (tCons (tVar 1) (tCons (tVar 5) tNil))))))

def r_raise_tracks (K : PySem.W.Frag)  : TS :=
  (tSeq (tAsg (tCallR (sp_alone_raised K) E0 (tCons (tVar 2) (tCons (tVar 3) tNil))) (gName 4))
    (tSeq (tAsg (tLst tNil) (gName 5))
    (tSeq (tFor (iList K (tCallR (sp_in_order K) E0 (tCons (tVar 3) tNil))) (gName 6) (tSeq (tAsg (tCallR (sp_lack_of K) E0 (tCons (tVar 4) (tCons (tVar 1) (tCons (tVar 6) tNil)))) (gName 7))
    (tIfS (tTest (tOp qGt (tVar 7) (tC (.int 0)))) (tSeq (tAsg (tCallR (sp_deal K) E0 (tCons (tVar 7) (tCons (tCallR (sp_track_weights K) E0 (tCons (tOp (rIxT K) (tVar 6) (tC (.int 1))) (tCons (tOp (rIxT K) (tVar 6) (tC (.int 2))) tNil))) tNil))) (gName 8))
    (tFor (iRng2 (tCons (tOp (rIxT K) (tVar 6) (tC (.int 1))) (tCons (tOp qAdd (tOp (rIxT K) (tVar 6) (tC (.int 1))) (tOp (rIxT K) (tVar 6) (tC (.int 2)))) tNil))) (gName 9) (tIfS (tTest (tOp qGt (tDGet (tVar 8) (tCallR (sp_track_name K) E0 (tCons (tVar 9) tNil))) (tC (.int 0)))) (tSeq (tDrop (tBM K "list" rAppend (tVar 5) (tCons (tTup (tCons (tOp (rIxT K) (tVar 6) (tC (.int 0))) (tCons (tVar 9) (tCons (tDGet (tVar 8) (tCallR (sp_track_name K) E0 (tCons (tVar 9) tNil))) tNil)))) tNil)))
    (tAugS (tVar 4) (tVar 9) (tDGet (tVar 8) (tCallR (sp_track_name K) E0 (tCons (tVar 9) tNil))) qGetL (ipI fun i j => i + j) rSetL)) tNext))) tNext)))
    (tRet (tTup (tCons (tVar 4) (tCons (tVar 5) tNil)))))))

def r_Table_init (K : PySem.W.Frag)  : TS :=
  (tSeq (tDrop (tCallR (sp_Box_init K) E0 (tCons (tVar 0) (tCons (tVar 1) (tCons (tVar 2) tNil)))))
    (tSeq (sFld K (tVar 0) (tOp (rIxT K) (tOp (rIxT K) (tVar 1) (tC (.int 3))) (tC (.int 0))) "columns")
    (tSeq (sFld K (tVar 0) (tOp (rIxT K) (tOp (rIxT K) (tVar 1) (tC (.int 3))) (tC (.int 1))) "gap")
    (tSeq (sFld K (tVar 0) (tOp (rIxT K) (tOp (rIxT K) (tVar 1) (tC (.int 3))) (tC (.int 2))) "side")
    (tSeq (sFld K (tVar 0) (tCB (qList K) (tCons (tOp (rIxT K) (tOp (rIxT K) (tVar 1) (tC (.int 3))) (tC (.int 3))) tNil)) "spans")
    (tSeq (sFld K (tVar 0) (tCallR (sp_put_cells K) E0 (tCons (tFld K (tVar 0) "columns") (tCons (tFld K (tVar 0) "spans") tNil))) "cells")
    (sFld K (tVar 0) (tCallR (sp_last_row K) E0 (tCons (tFld K (tVar 0) "spans") (tCons (tFld K (tVar 0) "cells") tNil))) "many")))))))

def r_Table_sums (K : PySem.W.Frag)  : TS :=
  (tRet (tC (.bl true)))

def r_Table_asks (K : PySem.W.Frag)  : TS :=
  (tSeq (tAsg (tLst tNil) (gName 3))
    (tSeq (tFor (iEnum K (tCons (tFld K (tVar 0) "parts") tNil)) (gTup K 2 (gCons (gName 4) (gCons (gName 5) gNil))) (tDrop (tBM K "list" rAppend (tVar 3) (tCons (tTup (tCons (tFld K (tVar 5) "name") (tCons (tOp (rIxT K) (tOp (rIxL K) (tFld K (tVar 0) "cells") (tVar 4)) (tOp qSub (tC (.int 1)) (tVar 1))) (tCons (tOp (rIxT K) (tOp (rIxL K) (tFld K (tVar 0) "spans") (tVar 4)) (tVar 1)) (tCons (tOp (rIxL K) (tVar 2) (tVar 4)) tNil))))) tNil))))
    (tRet (tVar 3))))

def r_Table_asked_least (K : PySem.W.Frag)  : TS :=
  (tSeq (tIfS (tTest (tOp (qEqNil K) (tFld K (tVar 0) "parts") (tLst tNil))) (tRet (tC (.int 0))) tNext)
    (tSeq (tAsg (tMethD [1060] "asks" (sp_asks K) E0 (tVar 0) (tCons (tC (.int 0)) (tCons (tLc (iList K (tFld K (tVar 0) "parts")) (gName 5) tYes (tDGet (tVar 1) (tFld K (tVar 5) "name")) [5]) tNil))) (gName 2))
    (tSeq (tAsg (tCallR (sp_raise_tracks K) E0 (tCons (tFld K (tVar 0) "columns") (tCons (tFld K (tVar 0) "gap") (tCons (tOp rRep (tLst (tCons (tC (.int 0)) tNil)) (tFld K (tVar 0) "columns")) (tCons (tVar 2) tNil))))) (gTup K 2 (gCons (gName 3) (gCons (gName 4) gNil))))
    (tRet (tOp qAdd (tCB (rSum K) (tCons (tVar 3) tNil)) (tCallR (sp_gaps_in K) E0 (tCons (tFld K (tVar 0) "gap") (tCons (tFld K (tVar 0) "columns") tNil))))))))

def r_Wrap_init (K : PySem.W.Frag)  : TS :=
  (tSeq (tDrop (tCallR (sp_Box_init K) E0 (tCons (tVar 0) (tCons (tVar 1) (tCons (tVar 2) tNil)))))
    (tSeq (sFld K (tVar 0) (tOp (rIxT K) (tOp (rIxT K) (tVar 1) (tC (.int 3))) (tC (.int 0))) "gap")
    (tSeq (sFld K (tVar 0) (tOp (rIxT K) (tOp (rIxT K) (tVar 1) (tC (.int 3))) (tC (.int 1))) "align")
    (sFld K (tVar 0) (tOp (rIxT K) (tOp (rIxT K) (tVar 1) (tC (.int 3))) (tC (.int 2))) "side"))))

def r_Wrap_asked_least (K : PySem.W.Frag)  : TS :=
  (tRet (tMaxD K (tCallR (sp_of_parts K) E0 (tCons (tVar 0) (tCons (tVar 1) tNil))) (tC (.int 0))))

def r_of (K : PySem.W.Frag) (d : Nat) : TS :=
  (tSeq (tAsg (tLc (iTup K (tOp (rIxT K) (tVar 0) (tC (.int 4)))) (gName 2) tYes (tCallR (sp_of K d) E0 (tCons (tVar 2) tNil)) [2]) (gName 1))
    (tSeq (tIfS (tTest (tOp rEq (tOp (rIxT K) (tVar 0) (tC (.int 0))) (tC (.str "leaf")))) (tRet (StX.tMakeR 178 (sp_boxi K .leaf) E0 (tCons (tVar 0) (tCons (tVar 1) tNil)))) tNext)
    (tSeq (tIfS (tTest (tOp rEq (tOp (rIxT K) (tVar 0) (tC (.int 0))) (tC (.str "row")))) (tRet (StX.tMakeR 801 (sp_boxi K .row) E0 (tCons (tVar 0) (tCons (tVar 1) tNil)))) tNext)
    (tSeq (tIfS (tTest (tOp rEq (tOp (rIxT K) (tVar 0) (tC (.int 0))) (tC (.str "column")))) (tRet (StX.tMakeR 876 (sp_boxi K .col) E0 (tCons (tVar 0) (tCons (tVar 1) tNil)))) tNext)
    (tSeq (tIfS (tTest (tOp rEq (tOp (rIxT K) (tVar 0) (tC (.int 0))) (tC (.str "wrap")))) (tRet (StX.tMakeR 1163 (sp_boxi K .wrap) E0 (tCons (tVar 0) (tCons (tVar 1) tNil)))) tNext)
    (tSeq (tIfS (tTest (tOp rEq (tOp (rIxT K) (tVar 0) (tC (.int 0))) (tC (.str "table")))) (tRet (StX.tMakeR 1060 (sp_boxi K .table) E0 (tCons (tVar 0) (tCons (tVar 1) tNil)))) tNext)
    (tSeq (tIfS (tTest (tOp rEq (tOp (rIxT K) (tVar 0) (tC (.int 0))) (tC (.str "words")))) tNever tNext)
    (tSeq (tIfS (tTest (tOp rEq (tOp (rIxT K) (tVar 0) (tC (.int 0))) (tC (.str "flow")))) tNever tNext)
    tNever))))))))

def r_settle (K : PySem.W.Frag) (d : Nat) : TS :=
  (tSeq (tAsg (tC (.int (-20))) (gName 3))
    (tSeq (tFor (iList K (tFld K (tVar 0) "parts")) (gName 4) (tSeq (tDrop (tCallR (sp_settle K d) E0 (tCons (tVar 4) (tCons (tVar 1) (tCons (tVar 2) tNil)))))
    (tAsg (tCB qMax2 (tCons (tVar 3) (tCons (tOp (rIxT K) (tDGet (tVar 2) (tFld K (tVar 4) "name")) (tC (.int 2))) tNil))) (gName 3))))
    (tSeq (sDPut (tVar 1) (tFld K (tVar 0) "name") (tCB qMax2 (tCons (tOp (rIxT K) (tFld K (tVar 0) "wide_own") (tC (.int 0))) (tCons (tMethD [178, 801, 876, 1060, 1163] "asked_least" (sp_asked K) E0 (tVar 0) (tCons (tVar 1) tNil)) tNil))))
    (tSeq (sDPut (tVar 2) (tFld K (tVar 0) "name") (tTup (tCons (tC (.str "own")) (tCons (tC (.str "")) (tCons (tC (.int (-20))) tNil)))))
    (tIfS (tTest (tOp qGt (tDGet (tVar 1) (tFld K (tVar 0) "name")) (tOp (rIxT K) (tFld K (tVar 0) "wide_own") (tC (.int 0))))) (tSeq (tAsg (tMethD [178, 801, 876, 1060, 1163] "asker" (sp_asker K) E0 (tVar 0) (tCons (tVar 1) tNil)) (gTup K 2 (gCons (gName 5) (gCons (gName 6) gNil))))
    (sDPut (tVar 2) (tFld K (tVar 0) "name") (tTup (tCons (tVar 5) (tCons (tVar 6) (tCons (tOp qAdd (tVar 3) (tC (.int 1))) tNil)))))) tNext)))))

def r_free_boxes (K : PySem.W.Frag) (d : Nat) : TS :=
  (tSeq (tIfS (tB (tCB (rIsi K) (tCons (tVar 0) (tCons (tC (.ref 1060)) tNil)))) (tSeq (tDrop (tCallR (sp_settle K 9) E0 (tCons (tVar 0) (tCons (tVar 1) (tCons (tVar 2) tNil)))))
    (tRet (tLst tNil))) tNext)
    (tSeq (tAsg (tLst (tCons (tVar 0) tNil)) (gName 3))
    (tSeq (tFor (iList K (tFld K (tVar 0) "parts")) (gName 4) (tDrop (tBM K "list" rExtend (tVar 3) (tCons (tCallR (sp_free_boxes K d) E0 (tCons (tVar 4) (tCons (tVar 1) (tCons (tVar 2) tNil)))) tNil))))
    (tRet (tVar 3)))))

def r_asks_of (K : PySem.W.Frag)  : TS :=
  (tSeq (tAsg tDNewK (gName 2))
    (tSeq (tAsg tDNewK (gName 3))
    (tSeq (tFor (iList K (tVar 0)) (gName 4) (tSeq (sDPut (tVar 2) (tFld K (tVar 4) "name") (tCB qMax2 (tCons (tOp (rIxT K) (tFld K (tVar 4) "wide_own") (tC (.int 0))) (tCons (tMethD [178, 801, 876, 1060, 1163] "asked_least" (sp_asked K) E0 (tVar 4) (tCons (tVar 1) tNil)) tNil))))
    (tIfS (tAnd (tTest (tOp qGt (tFld K (tVar 4) "group") (tC (.int 0)))) (tTest (tOp qGt (tDGet (tVar 2) (tFld K (tVar 4) "name")) (tOp (rIxT K) (tDGet2 (tVar 3) (tFld K (tVar 4) "group") (tTup (tCons (tUn qNeg (tC (.int 1))) (tCons (tC (.str "")) tNil)))) (tC (.int 0)))))) (sDPut (tVar 3) (tFld K (tVar 4) "group") (tTup (tCons (tDGet (tVar 2) (tFld K (tVar 4) "name")) (tCons (tFld K (tVar 4) "name") tNil)))) tNext)))
    (tRet (tTup (tCons (tVar 2) (tCons (tVar 3) tNil)))))))

def r_Rounds_init (K : PySem.W.Frag)  : TS :=
  (tSeq (sFld K (tVar 0) tDNewK "leasts")
    (tSeq (sFld K (tVar 0) tDNewK "reasons")
    (tSeq (sFld K (tVar 0) (tCallR (sp_free_boxes K 9) E0 (tCons (tVar 1) (tCons (tFld K (tVar 0) "leasts") (tCons (tFld K (tVar 0) "reasons") tNil)))) "free")
    (tSeq (tFor (iList K (tFld K (tVar 0) "free")) (gName 2) (tSeq (sDPut (tFld K (tVar 0) "leasts") (tFld K (tVar 2) "name") (tC (.int 0)))
    (sDPut (tFld K (tVar 0) "reasons") (tFld K (tVar 2) "name") (tTup (tCons (tC (.str "own")) (tCons (tC (.str "")) (tCons (tC (.int 0)) tNil)))))))
    (sFld K (tVar 0) (tLst tNil) "past")))))

def r_Rounds_reason (K : PySem.W.Frag)  : TS :=
  (tSeq (tIfS (tTest (tOp rEq (tOp (rIxT K) (tFld K (tVar 1) "wide_own") (tC (.int 0))) (tVar 2))) (tRet (tTup (tCons (tC (.str "own")) (tCons (tC (.str "")) (tCons (tOp qMul (tC (.int 2)) (tVar 4)) tNil))))) tNext)
    (tSeq (tIfS (tTest (tOp rEq (tMethD [178, 801, 876, 1060, 1163] "asked_least" (sp_asked K) E0 (tVar 1) (tCons (tFld K (tVar 0) "leasts") tNil)) (tVar 2))) (tSeq (tAsg (tMethD [178, 801, 876, 1060, 1163] "asker" (sp_asker K) E0 (tVar 1) (tCons (tFld K (tVar 0) "leasts") tNil)) (gTup K 2 (gCons (gName 5) (gCons (gName 6) gNil))))
    (tRet (tTup (tCons (tVar 5) (tCons (tVar 6) (tCons (tOp qMul (tC (.int 2)) (tVar 4)) tNil)))))) tNext)
    (tRet (tTup (tCons (tC (.str "alike")) (tCons (tVar 3) (tCons (tOp qAdd (tOp qMul (tC (.int 2)) (tVar 4)) (tC (.int 1))) tNil)))))))

def r_ring_of (K : PySem.W.Frag)  : TS :=
  (tSeq (tAsg tDNewK (gName 1))
    (tSeq (tFor (iList K (tFld K (tVar 0) "free")) (gName 2) (sDPut (tVar 1) (tFld K (tVar 2) "name") (tVar 2)))
    (tSeq (tAsg (tOp qSub (tCB (qLen K) (tCons (tFld K (tVar 0) "past") tNil)) (tC (.int 1))) (gName 3))
    (tSeq (tAsg (tOp (rIxL K) (tCB (qListD) (tCons (tOp (rIxL K) (tFld K (tVar 0) "past") (tVar 3)) tNil)) (tC (.int 0))) (gName 4))
    (tSeq (tAsg (tLst tNil) (gName 5))
    (tSeq (tWhile (tTest (tOp (rIn K true) (tVar 4) (tVar 5))) (tSeq (tDrop (tBM K "list" rAppend (tVar 5) (tCons (tVar 4) tNil)))
    (tSeq (tAsg (tDGet (tOp (rIxL K) (tFld K (tVar 0) "past") (tVar 3)) (tVar 4)) (gTup K 3 (gCons (gName 6) (gCons (gName 7) (gCons (gName 8) gNil)))))
    (tSeq (tIfS (tTest (tOp rNe (tVar 6) (tC (.str "alike")))) (tAug 3 (tC (.int 1)) (ipI fun i j => i - j)) tNext)
    (tSeq (tIfS (tTest (tOp rEq (tVar 6) (tC (.str "parts")))) (tAsg (tOp (rIxL K) (tLc (iList K (tFld K (tDGet (tVar 1) (tVar 4)) "parts")) (gName 9) (tB (tDIn (tFld K (tVar 9) "name") (tOp (rIxL K) (tFld K (tVar 0) "past") (tVar 3)))) (tFld K (tVar 9) "name") [9]) (tC (.int 0))) (gName 7)) tNext)
    (tAsg (tVar 7) (gName 4)))))))
    (tRet (tOp rCat (tSl (rSlL K) (tVar 5) (tPart (tBM K "list" (rIndex K) (tVar 5) (tCons (tVar 4) tNil))) tNoPart) (tLst (tCons (tVar 4) tNil))))))))))

def r_reason_holds (K : PySem.W.Frag)  : TS :=
  (tSeq (tAsg (tDGet (tVar 2) (tFld K (tVar 0) "name")) (gTup K 3 (gCons (gName 4) (gCons (gName 5) (gCons (gName 6) gNil)))))
    (tSeq (tAsg (tDGet (tVar 1) (tFld K (tVar 0) "name")) (gName 7))
    (tSeq (tIfS (tTest (tOp rEq (tVar 4) (tC (.str "own")))) (tRet (tAndV (tOp rEq (tVar 5) (tC (.str ""))) (tOp rEq (tVar 7) (tCB qMax2 (tCons (tOp (rIxT K) (tFld K (tVar 0) "wide_own") (tC (.int 0))) (tCons (tMethD [178, 801, 876, 1060, 1163] "alone_least" (sp_alone K) E0 (tVar 0) tNil) tNil)))))) tNext)
    (tSeq (tIfS (tTest (tOp rEq (tVar 4) (tC (.str "parts")))) (tSeq (tAsg (tCB (rAll K) (tCons (tLc (iList K (tFld K (tVar 0) "parts")) (gName 9) tYes (tOp qLt (tOp (rIxT K) (tDGet (tVar 2) (tFld K (tVar 9) "name")) (tC (.int 2))) (tVar 6)) [9]) tNil)) (gName 8))
    (tRet (tAndV (tOp rEq (tVar 5) (tC (.str ""))) (tAndV (tVar 8) (tAndV (tMethD [178, 801, 876, 1060, 1163] "sums" (sp_sums K) E0 (tVar 0) tNil) (tOp rEq (tVar 7) (tMethD [178, 801, 876, 1060, 1163] "asked_least" (sp_asked K) E0 (tVar 0) (tCons (tVar 1) tNil)))))))) tNext)
    (tSeq (tIfS (tTest (tOp rEq (tVar 4) (tC (.str "part")))) (tSeq (tIfS (tOr (tB (tMethD [178, 801, 876, 1060, 1163] "sums" (sp_sums K) E0 (tVar 0) tNil)) (tOr (tTest (tOp (rIn K true) (tVar 5) (tLc (iList K (tFld K (tVar 0) "parts")) (gName 9) tYes (tFld K (tVar 9) "name") [9]))) (tTest (tOp rNe (tVar 7) (tMethD [178, 801, 876, 1060, 1163] "asked_least" (sp_asked K) E0 (tVar 0) (tCons (tVar 1) tNil)))))) (tRet (tC (.bl false))) tNext)
    (tRet (tAndV (tOp qLt (tOp (rIxT K) (tDGet (tVar 2) (tVar 5)) (tC (.int 2))) (tVar 6)) (tOp rEq (tVar 7) (tDGet (tVar 1) (tVar 5)))))) tNext)
    (tSeq (tIfS (tOr (tTest (tOp rNe (tVar 4) (tC (.str "alike")))) (tOr (tTest (tOp rEq (tFld K (tVar 0) "group") (tC (.int 0)))) (tTest (tOp (rIn K true) (tVar 5) (tDGet2 (tVar 3) (tFld K (tVar 0) "group") (tLst tNil)))))) (tRet (tC (.bl false))) tNext)
    (tRet (tAndV (tOp qLt (tOp (rIxT K) (tDGet (tVar 2) (tVar 5)) (tC (.int 2))) (tVar 6)) (tOp rEq (tVar 7) (tDGet (tVar 1) (tVar 5)))))))))))

def r_leasts_hold (K : PySem.W.Frag)  : TS :=
  (tSeq (tAsg tDNewK (gName 3))
    (tSeq (tAsg (tCallR (sp_all_boxes K 9) E0 (tCons (tCallR (sp_of K 9) E0 (tCons (tVar 0) tNil)) tNil)) (gName 4))
    (tSeq (tFor (iList K (tVar 4)) (gName 5) (tIfS (tTest (tOp qGt (tFld K (tVar 5) "group") (tC (.int 0)))) (tDrop (tBM K "list" rAppend (tDSetd (tVar 3) (tFld K (tVar 5) "group") (tLst tNil)) (tCons (tFld K (tVar 5) "name") tNil))) tNext))
    (tSeq (tFor (iList K (tVar 4)) (gName 5) (tSeq (tIfS (tTest (tOp qLt (tDGet (tVar 1) (tFld K (tVar 5) "name")) (tCB qMax2 (tCons (tOp (rIxT K) (tFld K (tVar 5) "wide_own") (tC (.int 0))) (tCons (tMethD [178, 801, 876, 1060, 1163] "asked_least" (sp_asked K) E0 (tVar 5) (tCons (tVar 1) tNil)) tNil))))) (tRet (tC (.bl false))) tNext)
    (tIfS (tAnd (tTest (tOp qGt (tFld K (tVar 5) "group") (tC (.int 0)))) (tTest (tOp rNe (tDGet (tVar 1) (tFld K (tVar 5) "name")) (tDGet (tVar 1) (tOp (rIxL K) (tDGet (tVar 3) (tFld K (tVar 5) "group")) (tC (.int 0))))))) (tRet (tC (.bl false))) tNext)))
    (tRet (tCB (rAll K) (tCons (tLc (iList K (tVar 4)) (gName 5) tYes (tCallR (sp_reason_holds K) E0 (tCons (tVar 5) (tCons (tVar 1) (tCons (tVar 2) (tCons (tVar 3) tNil))))) [5]) tNil)))))))

def r_law_at (K : PySem.W.Frag)  : TS :=
  (tSeq (tIfS (tTest (tOp qLt (tVar 1) (tCB (qLen K) (tCons (tVar 0) tNil)))) (tRet (tOp (rIxL K) (tVar 0) (tVar 1))) tNext)
    (tRet (tC (.int 0))))

def r_law_mixed (K : PySem.W.Frag)  : TS :=
  (tSeq (tAsg (tOp qMod (tOp qMul (tVar 0) (tC (.int 48271))) (tC (.int 2147483647))) (gName 1))
    (tSeq (tAsg (tOp qMod (tOp qAdd (tOp qFdiv (tVar 1) (tC (.int 65536))) (tOp qMul (tVar 1) (tC (.int 16807)))) (tC (.int 2147483629))) (gName 1))
    (tRet (tOp qMod (tOp qMul (tVar 1) (tOp qAdd (tOp qMod (tVar 1) (tC (.int 32768))) (tC (.int 40961)))) (tC (.int 1000000000039))))))

def r_law_draws (K : PySem.W.Frag)  : TS :=
  (tSeq (tAsg (tLst tNil) (gName 4))
    (tSeq (tAsg (tCallR (sp_law_at K) E0 (tCons (tVar 0) (tCons (tVar 1) tNil))) (gName 5))
    (tSeq (tWhile (tAnd (tTest (tOp qGe (tVar 5) (tOp qPow (tC (.int 10)) (tC (.int 18))))) (tTest (tOp qLt (tCB (qLen K) (tCons (tVar 4) tNil)) (tVar 2)))) (tSeq (tDrop (tBM K "list" rAppend (tVar 4) (tCons (tOp qMod (tVar 5) (tVar 3)) tNil)))
    (tAsg (tOp qFdiv (tVar 5) (tVar 3)) (gName 5))))
    (tSeq (tFor (iRng1 (tCons (tOp qSub (tVar 2) (tCB (qLen K) (tCons (tVar 4) tNil))) tNil)) (gName 6) (tSeq (tAsg (tCallR (sp_law_mixed K) E0 (tCons (tOp qAdd (tCallR (sp_law_at K) E0 (tCons (tVar 0) (tCons (tOp qAdd (tOp qAdd (tVar 1) (tC (.int 1))) (tVar 6)) tNil))) (tOp qMul (tOp qMul (tC (.int 97)) (tVar 6)) (tVar 6))) tNil)) (gName 7))
    (tDrop (tBM K "list" rAppend (tVar 4) (tCons (tOp qMod (tOp qAdd (tOp qMul (tVar 7) (tC (.int 1000000000039))) (tCallR (sp_law_mixed K) E0 (tCons (tOp qAdd (tOp qAdd (tVar 7) (tOp qMul (tC (.int 7)) (tVar 6))) (tC (.int 1))) tNil))) (tVar 3)) tNil)))))
    (tRet (tVar 4))))))

def r_law_label (K : PySem.W.Frag)  : TS :=
  (tSeq (tAsg (tC (.str "abcdefghijklmnopqrstuvwxyz")) (gName 2))
    (tSeq (tAsg (tOp qMod (tOp qMul (tVar 1) (tC (.int 1099087573))) (tC (.int 10000000000037))) (gName 3))
    (tSeq (tAsg (tC (.str "")) (gName 4))
    (tSeq (tFor (iRng1 (tCons (tOp qMod (tVar 3) (tC (.int 6))) tNil)) (gName 5) (tSeq (tAsg (tOp qFdiv (tVar 3) (tC (.int 7))) (gName 3))
    (tAsg (tOp qAddS (tVar 4) (tOp rIxS (tVar 2) (tOp qMod (tVar 3) (tC (.int 26))))) (gName 4))))
    (tSeq (tAsg (tOp qMod (tVar 1) (tOp qAdd (tCB qLenT (tCons (tVar 4) tNil)) (tC (.int 1)))) (gName 6))
    (tSeq (tAsg (tOp qAddS (tOp rIxS (tVar 2) (tOp qMod (tOp qAdd (tVar 0) (tVar 1)) (tC (.int 26)))) (tOp rIxS (tVar 2) (tOp qFdiv (tVar 0) (tC (.int 26))))) (gName 7))
    (tRet (tOp qAddS (tOp qAddS (tSl rSlS (tVar 4) tNoPart (tPart (tVar 6))) (tVar 7)) (tSl rSlS (tVar 4) (tPart (tVar 6)) tNoPart)))))))))

def r_law_span (K : PySem.W.Frag)  : TS :=
  (tSeq (tAsg (tOp (rIxL K) (tLst (tCons (tC (.int 0)) (tCons (tOp qMod (tVar 0) (tC (.int 4))) (tCons (tOp qMod (tVar 0) (tC (.int 30))) tNil)))) (tOp qMod (tOp qFdiv (tVar 0) (tC (.int 30))) (tC (.int 3)))) (gName 1))
    (tRet (tTup (tCons (tVar 1) (tCons (tOp (rIxL K) (tLst (tCons (tOp qPow (tC (.int 10)) (tC (.int 6))) (tCons (tOp qAdd (tVar 1) (tOp qMod (tOp qFdiv (tVar 0) (tC (.int 90))) (tC (.int 50)))) tNil))) (tOp qMod (tOp qFdiv (tVar 0) (tC (.int 4500))) (tC (.int 2)))) tNil)))))

def r_law_own (K : PySem.W.Frag)  : TS :=
  (tSeq (tAsg (tCallR (sp_law_span K) E0 (tCons (tOp qMod (tVar 0) (tC (.int 9000))) tNil)) (gName 2))
    (tSeq (tAsg (tCallR (sp_law_span K) E0 (tCons (tOp qMod (tOp qFdiv (tVar 0) (tC (.int 9000))) (tC (.int 9000))) tNil)) (gName 3))
    (tSeq (tAsg (tOp qFdiv (tVar 0) (tC (.int 81000000))) (gName 0))
    (tSeq (tAsg (tOp qMul (tOp (rIxL K) (tLst (tCons (tC (.int 0)) (tCons (tC (.int 0)) (tCons (tC (.int 1)) (tCons (tC (.int 2)) tNil))))) (tOp qMod (tOp qFdiv (tVar 0) (tC (.int 160))) (tC (.int 4)))) (tCB qInt1 (tCons (tVar 1) tNil))) (gName 4))
    (tRet (tTup (tCons (tVar 2) (tCons (tVar 3) (tCons (tOp qMod (tVar 0) (tC (.int 4))) (tCons (tOp qMod (tOp qFdiv (tVar 0) (tC (.int 4))) (tC (.int 4))) (tCons (tOp qMod (tOp qFdiv (tVar 0) (tC (.int 16))) (tC (.int 10))) (tCons (tVar 4) tNil))))))))))))

def r_law_leaf (K : PySem.W.Frag)  : TS :=
  (tSeq (tAsg (tCallR (sp_law_own K) E0 (tCons (tOp qFdiv (tVar 1) (tC (.int 100))) (tCons (tOp rEq (tOp qMod (tVar 1) (tC (.int 3))) (tC (.int 0))) tNil))) (gName 2))
    (tSeq (tAsg (tOp qFdiv (tOp qFdiv (tVar 1) (tC (.int 100))) (tC (.int 51840000000))) (gName 3))
    (tRet (tTup (tCons (tC (.str "leaf")) (tCons (tVar 0) (tCons (tVar 2) (tCons (tTup (tCons (tOp qMod (tVar 3) (tC (.int 40))) (tCons (tOp qMod (tOp qFdiv (tVar 3) (tC (.int 40))) (tC (.int 12))) tNil))) (tCons (tTup tNil) tNil)))))))))

def r_law_within (K : PySem.W.Frag)  : TS :=
  (tSeq (tAsg (tCallR (sp_law_own K) E0 (tCons (tOp qFdiv (tVar 2) (tC (.int 100))) (tCons (tVar 4) tNil))) (gName 5))
    (tSeq (tAsg (tOp qFdiv (tOp qFdiv (tVar 2) (tC (.int 100))) (tC (.int 51840000000))) (gName 6))
    (tSeq (tAsg (tOp (rIxL K) (tLst (tCons (tC (.int 0)) (tCons (tC (.int 1)) (tCons (tOp qMod (tOp qFdiv (tVar 6) (tC (.int 8))) (tC (.int 4))) (tCons (tOp qMod (tOp qFdiv (tVar 6) (tC (.int 8))) (tC (.int 30))) tNil))))) (tOp qMod (tOp qFdiv (tVar 6) (tC (.int 960))) (tC (.int 4)))) (gName 7))
    (tSeq (tAsg (tOp (rIxL K) (tLst (tCons (tC (.str "left")) (tCons (tC (.str "right")) tNil))) (tOp qMod (tVar 6) (tC (.int 2)))) (gName 8))
    (tSeq (tIfS (tTest (tOp rNe (tVar 0) (tC (.str "table")))) (tSeq (tAsg (tOp (rIxL K) (tLst (tCons (tC (.str "start")) (tCons (tC (.str "end")) (tCons (tC (.str "mid")) (tCons (tC (.str "mid2")) tNil))))) (tOp qMod (tOp qFdiv (tVar 6) (tC (.int 2))) (tC (.int 4)))) (gName 9))
    (tRet (tTup (tCons (tVar 0) (tCons (tVar 1) (tCons (tVar 5) (tCons (tTup (tCons (tVar 7) (tCons (tVar 9) (tCons (tVar 8) tNil)))) (tCons (tCB (qTup K) (tCons (tVar 3) tNil)) tNil)))))))) tNext)
    (tSeq (tAsg (tOp qAdd (tC (.int 1)) (tOp qMod (tOp qFdiv (tVar 6) (tC (.int 2))) (tC (.int 4)))) (gName 10))
    (tSeq (tAsg (tLst tNil) (gName 11))
    (tSeq (tFor (iRng1 (tCons (tCB (qLen K) (tCons (tVar 3) tNil)) tNil)) (gName 12) (tSeq (tAsg (tOp qAdd (tOp qFdiv (tVar 6) (tC (.int 3840))) (tOp qMul (tVar 12) (tVar 12))) (gName 13))
    (tDrop (tBM K "list" rAppend (tVar 11) (tCons (tTup (tCons (tOp qAdd (tC (.int 1)) (tOp qMod (tVar 13) (tVar 10))) (tCons (tOp qAdd (tC (.int 1)) (tOp qMod (tOp qFdiv (tVar 13) (tC (.int 4))) (tC (.int 2)))) tNil))) tNil)))))
    (tRet (tTup (tCons (tVar 0) (tCons (tVar 1) (tCons (tVar 5) (tCons (tTup (tCons (tVar 10) (tCons (tVar 7) (tCons (tVar 8) (tCons (tCB (qTup K) (tCons (tVar 11) tNil)) tNil))))) (tCons (tCB (qTup K) (tCons (tVar 3) tNil)) tNil)))))))))))))))

def r_law_step (K : PySem.W.Frag)  : TS :=
  (tSeq (tAsg (tOp qMod (tVar 1) (tC (.int 16))) (gName 3))
    (tSeq (tAsg (tOp qMod (tOp qAdd (tC (.int 1)) (tOp qFdiv (tVar 1) (tC (.int 16)))) (tC (.int 5))) (gName 4))
    (tSeq (tIfS (tOr (tTest (tOp qLt (tVar 3) (tC (.int 7)))) (tTest (tOp qLt (tCB (qLen K) (tCons (tVar 0) tNil)) (tVar 4)))) (tSeq (tAsg (tCallR (sp_law_leaf K) E0 (tCons (tVar 2) (tCons (tVar 1) tNil))) (gName 5))
    (tRet (tOp rCat (tVar 0) (tLst (tCons (tTup (tCons (tVar 5) (tCons (tC (.int 1)) (tCons (tOp qGt (tOp (rIxT K) (tOp (rIxT K) (tVar 5) (tC (.int 2))) (tC (.int 5))) (tC (.int 0))) tNil)))) tNil))))) tNext)
    (tSeq (tAsg (tSl (rSlL K) (tVar 0) (tPart (tOp qSub (tCB (qLen K) (tCons (tVar 0) tNil)) (tVar 4))) tNoPart) (gName 6))
    (tSeq (tAsg (tMaxD K (tLc (iList K (tVar 6)) (gName 11) tYes (tOp (rIxT K) (tVar 11) (tC (.int 1))) [11]) (tC (.int 0))) (gName 7))
    (tSeq (tAsg (tCB (rAny K) (tCons (tLc (iList K (tVar 6)) (gName 11) tYes (tOp (rIxT K) (tVar 11) (tC (.int 2))) [11]) tNil)) (gName 8))
    (tSeq (tAsg (tOp (rIxL K) (tLst (tCons (tC (.str "row")) (tCons (tC (.str "column")) (tCons (tC (.str "wrap")) (tCons (tC (.str "table")) (tCons (tC (.str "row")) (tCons (tC (.str "column")) tNil))))))) (tOp qMod (tOp qSub (tVar 3) (tC (.int 7))) (tC (.int 6)))) (gName 9))
    (tSeq (tIfS (tTest (tOp qGt (tVar 7) (tC (.int 4)))) (tSeq (tAsg (tCallR (sp_law_leaf K) E0 (tCons (tVar 2) (tCons (tVar 1) tNil))) (gName 5))
    (tRet (tOp rCat (tVar 0) (tLst (tCons (tTup (tCons (tVar 5) (tCons (tC (.int 1)) (tCons (tOp qGt (tOp (rIxT K) (tOp (rIxT K) (tVar 5) (tC (.int 2))) (tC (.int 5))) (tC (.int 0))) tNil)))) tNil))))) tNext)
    (tSeq (tIfS (tAnd (tTest (tOp rEq (tVar 9) (tC (.str "table")))) (tB (tVar 8))) (tAsg (tC (.str "row")) (gName 9)) tNext)
    (tSeq (tAsg (tCallR (sp_law_within K) E0 (tCons (tVar 9) (tCons (tVar 2) (tCons (tVar 1) (tCons (tLc (iList K (tVar 6)) (gName 11) tYes (tOp (rIxT K) (tVar 11) (tC (.int 0))) [11]) (tCons (tAndV (tOp rNe (tVar 9) (tC (.str "table"))) (tOp rEq (tOp qMod (tOp qFdiv (tVar 1) (tC (.int 64))) (tC (.int 3))) (tC (.int 0)))) tNil)))))) (gName 10))
    (tRet (tOp rCat (tSl (rSlL K) (tVar 0) tNoPart (tPart (tOp qSub (tCB (qLen K) (tCons (tVar 0) tNil)) (tVar 4)))) (tLst (tCons (tTup (tCons (tVar 10) (tCons (tOp qAdd (tVar 7) (tC (.int 1))) (tCons (tOrV (tVar 8) (tOp qGt (tOp (rIxT K) (tOp (rIxT K) (tVar 10) (tC (.int 2))) (tC (.int 5))) (tC (.int 0)))) tNil)))) tNil))))))))))))))

def r_law_tree (K : PySem.W.Frag)  : TS :=
  (tSeq (tAsg (tLst tNil) (gName 3))
    (tSeq (tAsg (tCallR (sp_law_at K) E0 (tCons (tVar 0) (tCons (tOp qAdd (tVar 1) (tVar 2)) tNil))) (gName 4))
    (tSeq (tFor (iZipRL K (tVar 2) (tCallR (sp_law_draws K) E0 (tCons (tVar 0) (tCons (tVar 1) (tCons (tVar 2) (tCons (tOp qPow (tC (.int 10)) (tC (.int 18))) tNil)))))) (gTup K 2 (gCons (gName 5) (gCons (gName 6) gNil))) (tAsg (tCallR (sp_law_step K) E0 (tCons (tVar 3) (tCons (tVar 6) (tCons (tCallR (sp_law_label K) E0 (tCons (tVar 5) (tCons (tVar 4) tNil))) tNil)))) (gName 3)))
    (tSeq (tIfS (tTest (tOp rEq (tCB (qLen K) (tCons (tVar 3) tNil)) (tC (.int 1)))) (tRet (tOp (rIxT K) (tOp (rIxL K) (tVar 3) (tC (.int 0))) (tC (.int 0)))) tNext)
    (tSeq (tAsg (tOp qAdd (tOp qMul (tCallR (sp_law_mixed K) E0 (tCons (tVar 4) tNil)) (tC (.int 1000000000039))) (tCallR (sp_law_mixed K) E0 (tCons (tOp qAdd (tVar 4) (tC (.int 1))) tNil))) (gName 6))
    (tSeq (tAsg (tOp (rIxL K) (tLst (tCons (tC (.str "row")) (tCons (tC (.str "column")) (tCons (tC (.str "wrap")) tNil)))) (tOp qMod (tVar 6) (tC (.int 3)))) (gName 7))
    (tRet (tCallR (sp_law_within K) E0 (tCons (tVar 7) (tCons (tCallR (sp_law_label K) E0 (tCons (tVar 2) (tCons (tVar 4) tNil))) (tCons (tVar 6) (tCons (tLc (iList K (tVar 3)) (gName 8) tYes (tOp (rIxT K) (tVar 8) (tC (.int 0))) [8]) (tCons (tC (.bl false)) tNil)))))))))))))

def r_law_boxes (K : PySem.W.Frag)  : TS :=
  (tSeq (tAsg (tLst tNil) (gName 1))
    (tSeq (tAsg (tLst (tCons (tVar 0) tNil)) (gName 2))
    (tSeq (tWhile (tTest (tOp (qNeNil K) (tVar 2) (tLst tNil))) (tSeq (tAsg (tBM K "list" rPopAt (tVar 2) (tCons (tC (.int 0)) tNil)) (gName 3))
    (tSeq (tDrop (tBM K "list" rAppend (tVar 1) (tCons (tVar 3) tNil)))
    (tAsg (tOp rCat (tCB (qList K) (tCons (tOp (rIxT K) (tVar 3) (tC (.int 4))) tNil)) (tVar 2)) (gName 2)))))
    (tRet (tVar 1)))))

def r_law_columns (K : PySem.W.Frag)  : TS :=
  (tSeq (tAsg (tOp (rIxT K) (tVar 0) (tC (.int 3))) (gTup K 4 (gCons (gName 2) (gCons (gName 3) (gCons (gName 4) (gCons (gName 5) gNil))))))
    (tSeq (tAsg (tLst tNil) (gName 6))
    (tSeq (tFor (iZip3 K (tCons (tOp (rIxT K) (tVar 0) (tC (.int 4))) (tCons (tCallR (sp_put_cells K) E0 (tCons (tVar 2) (tCons (tCB (qList K) (tCons (tVar 5) tNil)) tNil))) (tCons (tVar 5) tNil)))) (gTup K 3 (gCons (gName 7) (gCons (gName 8) (gCons (gName 9) gNil)))) (tDrop (tBM K "list" rAppend (tVar 6) (tCons (tTup (tCons (tOp (rIxT K) (tVar 7) (tC (.int 1))) (tCons (tOp (rIxT K) (tVar 8) (tC (.int 1))) (tCons (tOp (rIxT K) (tVar 9) (tC (.int 0))) (tCons (tDGet (tVar 1) (tOp (rIxT K) (tVar 7) (tC (.int 1)))) tNil))))) tNil))))
    (tRet (tOp qAdd (tCB (rSum K) (tCons (tOp (rIxT K) (tCallR (sp_raise_tracks K) E0 (tCons (tVar 2) (tCons (tVar 3) (tCons (tOp rRep (tLst (tCons (tC (.int 0)) tNil)) (tVar 2)) (tCons (tVar 6) tNil))))) (tC (.int 0))) tNil)) (tOp qMul (tVar 3) (tOp qSub (tVar 2) (tC (.int 1)))))))))

def r_law_asked (K : PySem.W.Frag)  : TS :=
  (tSeq (tAsg (tLc (iTup K (tOp (rIxT K) (tVar 0) (tC (.int 4)))) (gName 3) tYes (tDGet (tVar 1) (tOp (rIxT K) (tVar 3) (tC (.int 1)))) [3]) (gName 2))
    (tSeq (tIfS (tOr (tTest (tOp rEq (tOp (rIxT K) (tVar 0) (tC (.int 0))) (tC (.str "leaf")))) (tTest (tOp (qEqNil K) (tVar 2) (tLst tNil)))) (tRet (tC (.int 0))) tNext)
    (tSeq (tIfS (tTest (tOp rEq (tOp (rIxT K) (tVar 0) (tC (.int 0))) (tC (.str "table")))) (tRet (tCallR (sp_law_columns K) E0 (tCons (tVar 0) (tCons (tVar 1) tNil)))) tNext)
    (tSeq (tIfS (tTest (tOp rEq (tOp (rIxT K) (tVar 0) (tC (.int 0))) (tC (.str "row")))) (tRet (tOp qAdd (tCB (rSum K) (tCons (tVar 2) tNil)) (tOp qMul (tOp (rIxT K) (tOp (rIxT K) (tVar 0) (tC (.int 3))) (tC (.int 0))) (tOp qSub (tCB (qLen K) (tCons (tVar 2) tNil)) (tC (.int 1)))))) tNext)
    (tRet (tCB (rMax K) (tCons (tVar 2) tNil)))))))

def r_law_grouped (K : PySem.W.Frag) (d : Nat) : TS :=
  (tSeq (tAsg (tVar 0) (gTup K 5 (gCons (gName 4) (gCons (gName 5) (gCons (gName 6) (gCons (gName 7) (gCons (gName 8) gNil)))))))
    (tSeq (tAsg (tCallR (sp_law_mixed K) E0 (tCons (tOp qAdd (tOp qAdd (tCallR (sp_law_at K) E0 (tCons (tVar 1) (tCons (tVar 2) tNil))) (tOp qMul (tC (.int 17)) (tCB qLenT (tCons (tVar 5) tNil)))) (tCB (rSum K) (tCons (tLc (iStr (tVar 5)) (gName 13) tYes (tCB qOrd (tCons (tVar 13) tNil)) [13]) tNil))) tNil)) (gName 9))
    (tSeq (tAsg (tOp (rIxT K) (tVar 6) (tC (.int 5))) (gName 10))
    (tSeq (tIfS (tTest (tOp rEq (tOp qMod (tVar 9) (tC (.int 2))) (tC (.int 1)))) (tAsg (tOp qAdd (tC (.int 1)) (tOp qMod (tOp qFdiv (tVar 9) (tC (.int 2))) (tC (.int 3)))) (gName 10)) tNext)
    (tSeq (tAsg (tOrV (tVar 3) (tOp rEq (tVar 4) (tC (.str "table")))) (gName 3))
    (tSeq (tIfS (tB (tVar 3)) (tAsg (tC (.int 0)) (gName 10)) tNext)
    (tSeq (tAsg (tOp qMod (tOp qFdiv (tVar 9) (tC (.int 6))) (tOp (rIxL K) (tLst (tCons (tC (.int 40)) (tCons (tOp qPow (tC (.int 10)) (tC (.int 6))) tNil))) (tOp qMod (tOp qFdiv (tVar 9) (tC (.int 6000))) (tC (.int 2))))) (gName 11))
    (tSeq (tAsg (tTup (tCons (tTup (tCons (tVar 11) (tCons (tOp qPow (tC (.int 10)) (tC (.int 6))) tNil))) (tCons (tOp (rIxT K) (tVar 6) (tC (.int 1))) (tCons (tOp (rIxT K) (tVar 6) (tC (.int 2))) (tCons (tOp (rIxT K) (tVar 6) (tC (.int 3))) (tCons (tOp (rIxT K) (tVar 6) (tC (.int 4))) (tCons (tVar 10) tNil))))))) (gName 6))
    (tSeq (tAsg (tLc (iTup K (tVar 8)) (gName 14) tYes (tCallR (sp_law_grouped K d) E0 (tCons (tVar 14) (tCons (tVar 1) (tCons (tVar 2) (tCons (tVar 3) tNil))))) [14]) (gName 12))
    (tRet (tTup (tCons (tVar 4) (tCons (tVar 5) (tCons (tVar 6) (tCons (tVar 7) (tCons (tCB (qTup K) (tCons (tVar 12) tNil)) tNil))))))))))))))))

def r_law_tabled (K : PySem.W.Frag) (d : Nat) : TS :=
  (tSeq (tAsg (tLst tNil) (gName 2))
    (tSeq (tAsg (tOrV (tVar 1) (tOp rEq (tOp (rIxT K) (tVar 0) (tC (.int 0))) (tC (.str "table")))) (gName 1))
    (tSeq (tIfS (tB (tVar 1)) (tDrop (tBM K "list" rAppend (tVar 2) (tCons (tOp (rIxT K) (tVar 0) (tC (.int 1))) tNil))) tNext)
    (tSeq (tFor (iTup K (tOp (rIxT K) (tVar 0) (tC (.int 4)))) (gName 3) (tAsg (tOp rCat (tVar 2) (tCallR (sp_law_tabled K d) E0 (tCons (tVar 3) (tCons (tVar 1) tNil)))) (gName 2)))
    (tRet (tVar 2))))))

def r_law_holds (K : PySem.W.Frag)  : TS :=
  (tSeq (tAsg tDNewK (gName 2))
    (tSeq (tFor (iList K (tVar 0)) (gName 3) (tSeq (tIfS (tTest (tOp qLt (tDGet (tVar 1) (tOp (rIxT K) (tVar 3) (tC (.int 1)))) (tCB qMax2 (tCons (tOp (rIxT K) (tOp (rIxT K) (tOp (rIxT K) (tVar 3) (tC (.int 2))) (tC (.int 0))) (tC (.int 0))) (tCons (tCallR (sp_law_asked K) E0 (tCons (tVar 3) (tCons (tVar 1) tNil))) tNil))))) (tRet (tC (.bl false))) tNext)
    (tIfS (tAnd (tTest (tOp qGt (tOp (rIxT K) (tOp (rIxT K) (tVar 3) (tC (.int 2))) (tC (.int 5))) (tC (.int 0)))) (tTest (tOp rNe (tDSetd (tVar 2) (tOp (rIxT K) (tOp (rIxT K) (tVar 3) (tC (.int 2))) (tC (.int 5))) (tDGet (tVar 1) (tOp (rIxT K) (tVar 3) (tC (.int 1))))) (tDGet (tVar 1) (tOp (rIxT K) (tVar 3) (tC (.int 1))))))) (tRet (tC (.bl false))) tNext)))
    (tRet (tC (.bl true)))))

def r_law_raised (K : PySem.W.Frag)  : TS :=
  (tSeq (tAsg tDNewK (gName 2))
    (tSeq (tAsg tDNewK (gName 3))
    (tSeq (tFor (iList K (tVar 0)) (gName 4) (tSeq (sDPut (tVar 3) (tOp (rIxT K) (tVar 4) (tC (.int 1))) (tCB qMax3 (tCons (tDGet (tVar 1) (tOp (rIxT K) (tVar 4) (tC (.int 1)))) (tCons (tOp (rIxT K) (tOp (rIxT K) (tOp (rIxT K) (tVar 4) (tC (.int 2))) (tC (.int 0))) (tC (.int 0))) (tCons (tCallR (sp_law_asked K) E0 (tCons (tVar 4) (tCons (tVar 1) tNil))) tNil)))))
    (sDPut (tVar 2) (tOp (rIxT K) (tOp (rIxT K) (tVar 4) (tC (.int 2))) (tC (.int 5))) (tCB qMax2 (tCons (tDGet2 (tVar 2) (tOp (rIxT K) (tOp (rIxT K) (tVar 4) (tC (.int 2))) (tC (.int 5))) (tC (.int 0))) (tCons (tDGet (tVar 3) (tOp (rIxT K) (tVar 4) (tC (.int 1)))) tNil))))))
    (tSeq (tFor (iList K (tVar 0)) (gName 4) (tIfS (tTest (tOp qGt (tOp (rIxT K) (tOp (rIxT K) (tVar 4) (tC (.int 2))) (tC (.int 5))) (tC (.int 0)))) (sDPut (tVar 3) (tOp (rIxT K) (tVar 4) (tC (.int 1))) (tDGet (tVar 2) (tOp (rIxT K) (tOp (rIxT K) (tVar 4) (tC (.int 2))) (tC (.int 5))))) tNext))
    (tRet (tVar 3))))))

def r_law_other (K : PySem.W.Frag)  : TS :=
  (tSeq (tAsg tDNewK (gName 4))
    (tSeq (tFor (iRng1 (tCons (tCB (qLen K) (tCons (tVar 0) tNil)) tNil)) (gName 5) (tSeq (tAsg (tCallR (sp_law_mixed K) E0 (tCons (tOp qAdd (tVar 2) (tOp qMul (tOp qMul (tC (.int 13)) (tVar 5)) (tVar 5))) tNil)) (gName 6))
    (tSeq (tAsg (tOp (rIxT K) (tOp (rIxL K) (tVar 0) (tVar 5)) (tC (.int 1))) (gName 7))
    (tSeq (sDPut (tVar 4) (tVar 7) (tDGet (tVar 1) (tVar 7)))
    (tIfS (tTest (tOp (rIn K true) (tVar 7) (tVar 3))) (tSeq (tAsg (tOp qMul (tOp qMod (tOp qFdiv (tVar 6) (tC (.int 3))) (tC (.int 9))) (tOp qMod (tOp qFdiv (tVar 6) (tC (.int 27))) (tC (.int 2)))) (gName 8))
    (sDPut (tVar 4) (tVar 7) (tOp qAdd (tOp qMul (tDGet (tVar 1) (tVar 7)) (tOp qMod (tOp qMod (tVar 6) (tC (.int 3))) (tC (.int 2)))) (tVar 8)))) tNext)))))
    (tSeq (tFor (iRng1 (tCons (tC (.int 40)) tNil)) (gName 9) (tIfS (tAnd (tTest (tOp qLe (tMaxVals (tVar 4)) (tOp qPow (tC (.int 10)) (tC (.int 9))))) (tNot (tB (tCallR (sp_law_holds K) E0 (tCons (tVar 0) (tCons (tVar 4) tNil)))))) (tAsg (tCallR (sp_law_raised K) E0 (tCons (tVar 0) (tCons (tVar 4) tNil))) (gName 4)) tNext))
    (tRet (tVar 4)))))

def r_law_lifted (K : PySem.W.Frag)  : TS :=
  (tSeq (tAsg (tCB qDictD (tCons (tVar 1) tNil)) (gName 4))
    (tSeq (tFor (iList K (tVar 0)) (gName 5) (tIfS (tTest (tOp rEq (tOp (rIxT K) (tOp (rIxT K) (tVar 5) (tC (.int 2))) (tC (.int 5))) (tVar 2))) (sDPut (tVar 4) (tOp (rIxT K) (tVar 5) (tC (.int 1))) (tOp qAdd (tDGet (tVar 4) (tOp (rIxT K) (tVar 5) (tC (.int 1)))) (tVar 3))) tNext))
    (tSeq (tFor (iRng1 (tCons (tC (.int 40)) tNil)) (gName 6) (tIfS (tAnd (tTest (tOp qLe (tMaxVals (tVar 4)) (tOp qPow (tC (.int 10)) (tC (.int 9))))) (tNot (tB (tCallR (sp_law_holds K) E0 (tCons (tVar 0) (tCons (tVar 4) tNil)))))) (tAsg (tCallR (sp_law_raised K) E0 (tCons (tVar 0) (tCons (tVar 4) tNil))) (gName 4)) tNext))
    (tRet (tVar 4)))))

def r_law_lowered (K : PySem.W.Frag)  : TS :=
  (tSeq (tAsg (tCB qDictD (tCons (tVar 1) tNil)) (gName 3))
    (tSeq (tAsg (tOp (rIxT K) (tOp (rIxL K) (tVar 0) (tOp qMod (tVar 2) (tCB (qLen K) (tCons (tVar 0) tNil)))) (tC (.int 1))) (gName 4))
    (tSeq (tFor (iList K (tRevL K (tVar 0))) (gName 5) (tSeq (sDPut (tVar 3) (tOp (rIxT K) (tVar 5) (tC (.int 1))) (tCB qMax2 (tCons (tOp (rIxT K) (tOp (rIxT K) (tOp (rIxT K) (tVar 5) (tC (.int 2))) (tC (.int 0))) (tC (.int 0))) (tCons (tCallR (sp_law_asked K) E0 (tCons (tVar 5) (tCons (tVar 3) tNil))) tNil))))
    (tIfS (tTest (tOp rEq (tOp (rIxT K) (tVar 5) (tC (.int 1))) (tVar 4))) (sDPut (tVar 3) (tVar 4) (tOp (rIxT K) (tOp (rIxT K) (tOp (rIxT K) (tVar 5) (tC (.int 2))) (tC (.int 0))) (tC (.int 0)))) tNext)))
    (tRet (tVar 3)))))

def r_law_matched (K : PySem.W.Frag)  : TS :=
  (tSeq (tAsg (tCB qDictD (tCons (tVar 1) tNil)) (gName 4))
    (tSeq (tAsg (tLc (iList K (tVar 0)) (gName 9) (tAnd (tTest (tOp rEq (tOp (rIxT K) (tOp (rIxT K) (tVar 9) (tC (.int 2))) (tC (.int 5))) (tC (.int 0)))) (tTest (tOp (rIn K true) (tOp (rIxT K) (tVar 9) (tC (.int 1))) (tVar 3)))) (tOp (rIxT K) (tVar 9) (tC (.int 1))) [9]) (gName 5))
    (tSeq (tIfS (tTest (tOp (qNeNil K) (tVar 5) (tLst tNil))) (tSeq (tAsg (tOp (rIxL K) (tVar 5) (tOp qMod (tOp qFdiv (tVar 2) (tC (.int 5))) (tCB (qLen K) (tCons (tVar 5) tNil)))) (gName 6))
    (tSeq (tAsg (tCB (rSortedI K) (tCons (tLockE (tLc (iKeys (tVar 1)) (gName 10) (tTest (tOp qGt (tDGet (tVar 1) (tVar 10)) (tDGet (tVar 1) (tVar 6)))) (tDGet (tVar 1) (tVar 10)) [10])) tNil)) (gName 7))
    (sDPut (tVar 4) (tVar 6) (tOp (rIxL K) (tOp rCat (tVar 7) (tLst (tCons (tOp qAdd (tDGet (tVar 1) (tVar 6)) (tC (.int 1))) tNil))) (tC (.int 0)))))) tNext)
    (tSeq (tFor (iRng1 (tCons (tC (.int 40)) tNil)) (gName 8) (tIfS (tAnd (tTest (tOp qLe (tMaxVals (tVar 4)) (tOp qPow (tC (.int 10)) (tC (.int 9))))) (tNot (tB (tCallR (sp_law_holds K) E0 (tCons (tVar 0) (tCons (tVar 4) tNil)))))) (tAsg (tCallR (sp_law_raised K) E0 (tCons (tVar 0) (tCons (tVar 4) tNil))) (gName 4)) tNext))
    (tRet (tVar 4))))))

def r_law_forged (K : PySem.W.Frag)  : TS :=
  (tSeq (tAsg tDNewK (gName 3))
    (tSeq (tAsg tDNewK (gName 4))
    (tSeq (tFor (iList K (tVar 0)) (gName 5) (tDrop (tBM K "list" rAppend (tDSetd (tVar 4) (tOp (rIxT K) (tOp (rIxT K) (tVar 5) (tC (.int 2))) (tC (.int 5))) (tLst tNil)) (tCons (tOp (rIxT K) (tVar 5) (tC (.int 1))) tNil))))
    (tSeq (tFor (iRng1 (tCons (tCB (qLen K) (tCons (tVar 0) tNil)) tNil)) (gName 6) (tSeq (tAsg (tOp (rIxL K) (tVar 0) (tVar 6)) (gName 5))
    (tSeq (tAsg (tDGet (tVar 1) (tOp (rIxT K) (tVar 5) (tC (.int 1)))) (gName 7))
    (tSeq (tAsg (tCallR (sp_law_mixed K) E0 (tCons (tOp qAdd (tVar 2) (tOp qMul (tOp qMul (tC (.int 29)) (tVar 6)) (tVar 6))) tNil)) (gName 8))
    (tSeq (tAsg (tOp qSub (tC (.int 100)) (tVar 6)) (gName 9))
    (tSeq (tIfS (tTest (tOp rEq (tOp qMod (tVar 2) (tC (.int 2))) (tC (.int 1)))) (tAsg (tOp (rIxL K) (tLst (tCons (tC (.int 0)) (tCons (tOp qMod (tOp qFdiv (tVar 8) (tC (.int 8))) (tC (.int 5))) (tCons (tOp qSub (tC (.int 100)) (tVar 6)) (tCons (tVar 6) tNil))))) (tOp qMod (tVar 8) (tC (.int 4)))) (gName 9)) tNext)
    (tSeq (tAsg (tDGet (tVar 4) (tOp (rIxT K) (tOp (rIxT K) (tVar 5) (tC (.int 2))) (tC (.int 5)))) (gName 10))
    (tSeq (tIfS (tTest (tOp rEq (tOp qMod (tOp qFdiv (tVar 2) (tC (.int 2))) (tC (.int 2))) (tC (.int 1)))) (tAsg (tOp rCat (tLc (iList K (tCB qSortedD (tCons (tVar 1) tNil))) (gName 12) (tAnd (tTest (tOp rEq (tDGet (tVar 1) (tVar 12)) (tVar 7))) (tTest (tOp rNe (tVar 12) (tOp (rIxT K) (tVar 5) (tC (.int 1)))))) (tVar 12) [12]) (tSl (rSlL K) (tVar 10) tNoPart (tPart (tC (.int 1))))) (gName 10)) tNext)
    (tSeq (sDPut (tVar 3) (tOp (rIxT K) (tVar 5) (tC (.int 1))) (tTup (tCons (tC (.str "alike")) (tCons (tOp (rIxL K) (tVar 10) (tOp qMod (tOp qFdiv (tVar 8) (tC (.int 40))) (tCB (qLen K) (tCons (tVar 10) tNil)))) (tCons (tVar 9) tNil)))))
    (tSeq (tAsg (tLc (iTup K (tOp (rIxT K) (tVar 5) (tC (.int 4)))) (gName 13) (tTest (tOp rEq (tDGet (tVar 1) (tOp (rIxT K) (tVar 13) (tC (.int 1)))) (tVar 7))) (tOp (rIxT K) (tVar 13) (tC (.int 1))) [13]) (gName 11))
    (tIfS (tTest (tOp rEq (tVar 7) (tOp (rIxT K) (tOp (rIxT K) (tOp (rIxT K) (tVar 5) (tC (.int 2))) (tC (.int 0))) (tC (.int 0))))) (sDPut (tVar 3) (tOp (rIxT K) (tVar 5) (tC (.int 1))) (tTup (tCons (tC (.str "own")) (tCons (tC (.str "")) (tCons (tVar 9) tNil))))) (tIfS (tAnd (tTest (tOp rEq (tVar 7) (tCallR (sp_law_asked K) E0 (tCons (tVar 5) (tCons (tVar 1) tNil))))) (tTest (tOp (rIn K false) (tOp (rIxT K) (tVar 5) (tC (.int 0))) (tTup (tCons (tC (.str "row")) (tCons (tC (.str "table")) tNil)))))) (sDPut (tVar 3) (tOp (rIxT K) (tVar 5) (tC (.int 1))) (tTup (tCons (tC (.str "parts")) (tCons (tC (.str "")) (tCons (tVar 9) tNil))))) (tIfS (tAnd (tTest (tOp rEq (tVar 7) (tCallR (sp_law_asked K) E0 (tCons (tVar 5) (tCons (tVar 1) tNil))))) (tTest (tOp (qNeNil K) (tVar 11) (tLst tNil)))) (sDPut (tVar 3) (tOp (rIxT K) (tVar 5) (tC (.int 1))) (tTup (tCons (tC (.str "part")) (tCons (tOp (rIxL K) (tVar 11) (tC (.int 0))) (tCons (tVar 9) tNil))))) tNext)))))))))))))
    (tRet (tVar 3))))))

def r_law_papers (K : PySem.W.Frag)  : TS :=
  (tSeq (tAsg tDNewK (gName 4))
    (tSeq (tLock (tFor (iKeys (tVar 2)) (gName 5) (tSeq (tAsg (tDGet (tVar 2) (tVar 5)) (gTup K 3 (gCons (gName 6) (gCons (gName 7) (gCons (gName 8) gNil)))))
    (sDPut (tVar 4) (tVar 5) (tTup (tCons (tVar 6) (tCons (tVar 7) (tCons (tOp qAdd (tOp qMul (tVar 8) (tC (.int 3))) (tOp qMod (tVar 3) (tC (.int 1000)))) tNil))))))))
    (tSeq (tIfS (tTest (tOp rNotB (tCallR (sp_leasts_hold K) E0 (tCons (tVar 0) (tCons (tCB qDictD (tCons (tVar 1) tNil)) (tCons (tVar 4) tNil)))) (tC (.bl true)))) (tRet (tC (.bl false))) tNext)
    (tSeq (tAsg (tOp (rIxL K) (tCB qSortedD (tCons (tVar 2) tNil)) (tOp qMod (tVar 3) (tCB qLenD (tCons (tVar 2) tNil)))) (gName 5))
    (tSeq (tAsg (tDGet (tVar 2) (tVar 5)) (gTup K 3 (gCons (gName 6) (gCons (gName 7) (gCons (gName 8) gNil)))))
    (tSeq (tFor (iList K (tLst (tCons (tTup (tCons (tC (.str "own")) (tCons (tC (.str "x")) (tCons (tVar 8) tNil)))) (tCons (tTup (tCons (tC (.str "why")) (tCons (tVar 7) (tCons (tVar 8) tNil)))) (tCons (tTup (tCons (tC (.str "part")) (tCons (tC (.str "")) (tCons (tC (.int 9)) tNil)))) tNil))))) (gName 9) (tSeq (tAsg (tCB qDictD (tCons (tVar 2) tNil)) (gName 10))
    (tSeq (sDPut (tVar 10) (tVar 5) (tVar 9))
    (tIfS (tTest (tOp rNotB (tCallR (sp_leasts_hold K) E0 (tCons (tVar 0) (tCons (tCB qDictD (tCons (tVar 1) tNil)) (tCons (tVar 10) tNil)))) (tC (.bl false)))) (tRet (tC (.bl false))) tNext))))
    (tRet (tC (.bl true)))))))))

def r_law (K : PySem.W.Frag)  : TS :=
  (tSeq (tAsg (tCallR (sp_law_grouped K 9) E0 (tCons (tCallR (sp_law_tree K) E0 (tCons (tVar 0) (tCons (tC (.int 2)) (tCons (tC (.int 16)) tNil)))) (tCons (tVar 0) (tCons (tC (.int 1)) (tCons (tC (.bl false)) tNil))))) (gName 1))
    (tSeq (tAsg (tCallR (sp_law_tabled K 9) E0 (tCons (tVar 1) (tCons (tC (.bl false)) tNil))) (gName 2))
    (tSeq (tAsg (tCallR (sp_law_boxes K) E0 (tCons (tVar 1) tNil)) (gName 3))
    (tSeq (tAsg (tCallR (sp_law_found K) E0 (tCons (tVar 1) tNil)) (gName 4))
    (tSeq (tIfS (tTest (tOp qIsN (tVar 4) (tC .non))) (tRet (tC (.bl true))) tNext)
    (tSeq (tAsg (tVar 4) (gTup K 2 (gCons (gName 5) (gCons (gName 6) gNil))))
    (tSeq (tIfS (tNot (tB (tCB (rAll K) (tCons (tLockE (tLc (iVals (tVar 5)) (gName 13) tYes (tAndV (tCB (rIsi K) (tCons (tVar 13) (tCons (tC (.ty "int")) tNil))) (tNotV (tCB (rIsi K) (tCons (tVar 13) (tCons (tC (.ty "bool")) tNil))))) [13])) tNil)))) (tRet (tC (.bl false))) tNext)
    (tSeq (tIfS (tOr (tTest (tOp (qNeSS K) (tCB qSortedD (tCons (tVar 5) tNil)) (tCB (rSortedS K) (tCons (tLc (iList K (tVar 3)) (gName 14) tYes (tOp (rIxT K) (tVar 14) (tC (.int 1))) [14]) tNil)))) (tTest (tOp (qNeSS K) (tCB qSortedD (tCons (tVar 6) tNil)) (tCB qSortedD (tCons (tVar 5) tNil))))) (tRet (tC (.bl false))) tNext)
    (tSeq (tIfS (tOr (tNot (tB (tCallR (sp_law_holds K) E0 (tCons (tVar 3) (tCons (tVar 5) tNil))))) (tTest (tOp rNotB (tCallR (sp_leasts_hold K) E0 (tCons (tVar 1) (tCons (tCB qDictD (tCons (tVar 5) tNil)) (tCons (tCB qDictD (tCons (tVar 6) tNil)) tNil)))) (tC (.bl true))))) (tRet (tC (.bl false))) tNext)
    (tSeq (tIfS (tNot (tB (tCallR (sp_law_papers K) E0 (tCons (tVar 1) (tCons (tVar 5) (tCons (tVar 6) (tCons (tCallR (sp_law_at K) E0 (tCons (tVar 0) (tCons (tC (.int 1)) tNil))) tNil))))))) (tRet (tC (.bl false))) tNext)
    (tSeq (tFor (iTup K (tTup (tCons (tC (.int 0)) (tCons (tC (.int 1)) tNil)))) (gName 7) (tSeq (tAsg (tCallR (sp_law_other K) E0 (tCons (tVar 3) (tCons (tVar 5) (tCons (tOp qAdd (tCallR (sp_law_at K) E0 (tCons (tVar 0) (tCons (tC (.int 1)) tNil))) (tOp qMul (tC (.int 7)) (tVar 7))) (tCons (tVar 2) tNil))))) (gName 8))
    (tSeq (tIfS (tB (tCallR (sp_law_holds K) E0 (tCons (tVar 3) (tCons (tVar 8) tNil)))) (tSeq (tIfS (tB (tCB (rAny K) (tCons (tLockE (tLc (iKeys (tVar 5)) (gName 15) tYes (tOp qLt (tDGet (tVar 8) (tVar 15)) (tDGet (tVar 5) (tVar 15))) [15])) tNil))) (tRet (tC (.bl false))) tNext)
    (tSeq (tAsg (tCallR (sp_leasts_hold K) E0 (tCons (tVar 1) (tCons (tCB qDictD (tCons (tVar 8) tNil)) (tCons (tCB qDictD (tCons (tVar 6) tNil)) tNil)))) (gName 9))
    (tIfS (tOr (tNot (tB (tCB (rIsi K) (tCons (tVar 9) (tCons (tC (.ty "bool")) tNil))))) (tTest (tOp rNe (tVar 9) (tOp qEqDI (tVar 8) (tVar 5))))) (tRet (tC (.bl false))) tNext))) tNext)
    (tSeq (tAsg (tCallR (sp_law_lifted K) E0 (tCons (tVar 3) (tCons (tVar 5) (tCons (tOp qAdd (tC (.int 1)) (tOp qMod (tCallR (sp_law_at K) E0 (tCons (tVar 0) (tCons (tC (.int 1)) tNil))) (tC (.int 3)))) (tCons (tOp qAdd (tC (.int 1)) (tOp qMul (tVar 7) (tC (.int 6)))) tNil))))) (gName 8))
    (tSeq (tAsg (tCallR (sp_law_lowered K) E0 (tCons (tVar 3) (tCons (tVar 5) (tCons (tOp qAdd (tCallR (sp_law_at K) E0 (tCons (tVar 0) (tCons (tC (.int 1)) tNil))) (tVar 7)) tNil)))) (gName 10))
    (tSeq (tAsg (tCallR (sp_law_matched K) E0 (tCons (tVar 3) (tCons (tVar 5) (tCons (tOp qAdd (tCallR (sp_law_at K) E0 (tCons (tVar 0) (tCons (tC (.int 1)) tNil))) (tVar 7)) (tCons (tVar 2) tNil))))) (gName 11))
    (tFor (iTup K (tTup (tCons (tVar 8) (tCons (tVar 5) (tCons (tVar 10) (tCons (tVar 11) tNil)))))) (gName 12) (tSeq (tAsg (tCallR (sp_leasts_hold K) E0 (tCons (tVar 1) (tCons (tCB qDictD (tCons (tVar 12) tNil)) (tCons (tCallR (sp_law_forged K) E0 (tCons (tVar 3) (tCons (tVar 12) (tCons (tOp qAdd (tCallR (sp_law_at K) E0 (tCons (tVar 0) (tCons (tC (.int 1)) tNil))) (tVar 7)) tNil)))) tNil)))) (gName 9))
    (tIfS (tOr (tNot (tB (tCB (rIsi K) (tCons (tVar 9) (tCons (tC (.ty "bool")) tNil))))) (tAnd (tB (tVar 9)) (tTest (tOp qNeDI (tVar 12) (tVar 5))))) (tRet (tC (.bl false))) tNext)))))))))
    (tRet (tC (.bl true))))))))))))))

end BG
set_option maxHeartbeats 400000
namespace BG
open PySem PySem.Spec PyProof.Rows L2
local macro_rules
  | `(tactic| trivial) => `(tactic| (repeat' (first
    | with_reducible apply ev_c
    | with_reducible apply ev_var
    | with_reducible apply ev_op
    | with_reducible apply rv_add
    | with_reducible apply rv_sub
    | with_reducible apply rv_mul
    | with_reducible apply rv_fdiv
    | with_reducible apply rv_mod
    | with_reducible apply rv_pow
    | with_reducible apply rv_lt
    | with_reducible apply rv_le
    | with_reducible apply rv_gt
    | with_reducible apply rv_ge
    | with_reducible apply rv_eqI
    | with_reducible apply rv_neI
    | with_reducible apply rv_eqS
    | with_reducible apply rv_neS
    | with_reducible apply rv_neB
    | with_reducible apply rv_notB
    | with_reducible apply rv_isN
    | with_reducible apply rv_ixT
    | with_reducible apply rv_ixL
    | with_reducible apply ev_nil
    | with_reducible apply ev_cons
    | with_reducible apply ev_neg
    | with_reducible apply ev_cb
    | with_reducible apply cv_max
    | with_reducible apply cv_intB
    | with_reducible apply cv_lenL
    | with_reducible apply cv_lenT
    | with_reducible apply cv_lenD
    | with_reducible apply cv_sum
    | with_reducible apply ev_fld
    | with_reducible apply ev_has
    | with_reducible apply evt_test
    | with_reducible apply evt_b
    | with_reducible apply evt_not
    | with_reducible refine evt_and ?_ (fun _ => ?_)
    | with_reducible refine evt_or ?_ (fun _ => ?_)
    | with_reducible refine ev_andV ?_ (fun _ => ?_)
    | with_reducible refine ev_orV ?_ (fun _ => ?_)
    | with_reducible apply ev_notV
    | with_reducible apply evo_no
    | with_reducible apply evo_part
    | with_reducible assumption
    | exact upd_same
    | exact Or.inr ⟨by decide, by decide⟩
    | exact Or.inl ⟨by decide, by decide⟩
    | exact ⟨by decide, by decide⟩
    | exact ⟨by decide, by decide, by decide⟩
    | exact cmul_modL (by decide) (by decide)
    | exact cmul_modR (by decide) (by decide)
    | exact rv_pow ⟨by decide, by decide, by decide⟩
    | exact rfl
    | omega)))
/-! readings: the small ones -/
section
variable {K : PySem.W.Frag}
theorem rd_law_at : ∀ vs H Q E, sp_law_at K vs H Q E → r_law_at K { nx := fun _ H' => Q .non H', rt := Q } (start ["_law_script", "_law_k"] vs) H := by
  rintro vs H Q E ⟨a, ns, k, rfl, hs, q⟩
  unfold r_law_at
  refine s_ifN (b := decide ((k : Int) < ns.length)) ?_ (fun h => ?_) (fun h => ?_)
  · refine evt_test (ev_op (ev_var rfl) (ev_cb (ev_cons (ev_var rfl) ev_nil) (fun Q q => ⟨_, _, rfl, .inl hs, q⟩)) ?_)
    rw [List.length_map]
    exact rv_lt
  · have hk : k < ns.length := by
      have := of_decide_eq_true h
      omega
    refine e_ret (v := .int (atS ns k)) (ev_op (ev_var rfl) (ev_var rfl) fun Q q => ⟨_, _, _, _, rfl, rfl, hs, ?_, q⟩) q
    refine atI_nat ?_
    unfold atS
    rw [List.getElem?_map, List.getElem?_eq_getElem hk, List.getD_eq_getElem?_getD, List.getElem?_eq_getElem hk] <;> rfl
  · have hk : ns.length ≤ k := by
      have := of_decide_eq_false h
      omega
    have e : atS ns k = 0 := by
      unfold atS
      rw [List.getD_eq_getElem?_getD, List.getElem?_eq_none hk] <;> rfl
    rw [e] at q
    exact e_ret ev_c q
theorem rd_law_mixed : ∀ vs H Q E, sp_law_mixed K vs H Q E → r_law_mixed K { nx := fun _ H' => Q .non H', rt := Q } (start ["_law_cell", "_law_n"] vs) H := by
  rintro vs H Q E ⟨n, rfl, q⟩
  unfold r_law_mixed
  refine s_asg (v := .int (mix1 n)) (by unfold mix1; trivial) ?_
  refine s_asg (v := .int (mix2 (mix1 n))) (by unfold mix2; trivial) ?_
  refine e_ret (v := .int (mixF n)) (ev_op (ev_op (ev_var rfl) (by trivial) (rv_mul ?_)) ev_c (rv_mod (by decide))) q
  exact cmul_modL (by decide) (by decide)
theorem ev_at {σ : L2.St} {H : Hp} {t : TA} {a : Addr} {ns : List Int} {k : Nat} (ht : EvA t σ H [.ref a, .int k]) (hs : SqL K H a (ns.map V.int)) : Ev (tCallR (sp_law_at K) E0 t) σ H (.int (atS ns k)) := ev_call ht fun Q q => ⟨a, ns, k, rfl, hs, q⟩
theorem ev_mixed {σ : L2.St} {H : Hp} {t : TA} {n : Int} (ht : EvA t σ H [.int n]) : Ev (tCallR (sp_law_mixed K) E0 t) σ H (.int (mixF n)) := ev_call ht fun Q q => ⟨n, rfl, q⟩
theorem rd_gaps_in : ∀ vs H Q E, sp_gaps_in K vs H Q E → r_gaps_in K { nx := fun _ H' => Q .non H', rt := Q } (start ["gap", "many"] vs) H := by
  rintro vs H Q E ⟨g, m, rfl, h0, h1, q⟩
  have hc : CMul g (pmax 0 (m - 1)) := .inl ⟨by omega, by omega⟩
  exact e_ret (v := .int (g * pmax 0 (m - 1))) (by trivial) q
theorem rd_Box_asked_least {sp : Sp} (hs : ∀ vs H Q E, sp vs H Q E → ∃ x y, vs = [x, y] ∧ Q (.int 0) H) : ∀ vs H Q E, sp vs H Q E → r_Box_asked_least K { nx := fun _ H' => Q .non H', rt := Q } (start ["self", "leasts"] vs) H := by
  intro vs H Q E h
  obtain ⟨x, y, rfl, q⟩ := hs vs H Q E h
  exact e_ret ev_c q
theorem rd_Box_sums {sp : Sp} (hs : ∀ vs H Q E, sp vs H Q E → ∃ x, vs = [x] ∧ Q (.bl false) H) : ∀ vs H Q E, sp vs H Q E → r_Box_sums K { nx := fun _ H' => Q .non H', rt := Q } (start ["self"] vs) H := by
  intro vs H Q E h
  obtain ⟨x, rfl, q⟩ := hs vs H Q E h
  exact e_ret ev_c q
theorem rd_Row_sums {sp : Sp} (hs : ∀ vs H Q E, sp vs H Q E → ∃ x, vs = [x] ∧ Q (.bl true) H) : ∀ vs H Q E, sp vs H Q E → r_Row_sums K { nx := fun _ H' => Q .non H', rt := Q } (start ["self"] vs) H := by
  intro vs H Q E h
  obtain ⟨x, rfl, q⟩ := hs vs H Q E h
  exact e_ret ev_c q
theorem rd_Table_sums {sp : Sp} (hs : ∀ vs H Q E, sp vs H Q E → ∃ x, vs = [x] ∧ Q (.bl true) H) : ∀ vs H Q E, sp vs H Q E → r_Table_sums K { nx := fun _ H' => Q .non H', rt := Q } (start ["self"] vs) H := by
  intro vs H Q E h
  obtain ⟨x, rfl, q⟩ := hs vs H Q E h
  exact e_ret ev_c q
theorem rd_Box_alone_least {sp : Sp} (hs : ∀ vs H Q E, sp vs H Q E → ∃ x, vs = [x] ∧ Q (.int 0) H) : ∀ vs H Q E, sp vs H Q E → r_Box_alone_least K { nx := fun _ H' => Q .non H', rt := Q } (start ["self"] vs) H := by
  intro vs H Q E h
  obtain ⟨x, rfl, q⟩ := hs vs H Q E h
  exact e_ret ev_c q
theorem log2_small {n : Nat} (h : n < 100) : n.log2 < 1920 := by
  have := Nat.log2_lt (n := n) (k := 7)
  by_cases e : n = 0
  · subst e; decide
  · have := (Nat.log2_lt e (k := 7)).mpr (by omega)
    omega
theorem rd_track_name : ∀ vs H Q E, sp_track_name K vs H Q E → r_track_name K { nx := fun _ H' => Q .non H', rt := Q } (start ["number"] vs) H := by
  rintro vs H Q E ⟨n, rfl, hn, q⟩
  refine e_ret (v := .str (tname n)) (fun Q q => ?_) q
  refine (ev_cb (z := .str (toString (n : Int))) (ev_cons (ev_var rfl) ev_nil) fun Q q => ⟨_, rfl, log2_small (by simpa using hn), q⟩) _ ⟨rfl, ?_⟩
  exact ⟨_, _, rfl, rfl, rfl, q⟩
end

section
variable {K : PySem.W.Frag}
theorem rd_law_span : ∀ vs H Q E, sp_law_span K vs H Q E → r_law_span K { nx := fun _ H' => Q .non H', rt := Q } (start ["_law_n", "_law_least"] vs) H := by
  rintro vs H Q E ⟨n, rfl, q⟩
  refine s_asgQ (pickL 3 3 (by trivial) rfl rfl (by decide) (by decide) (fun _ => by trivial) fun v H1 hv e1 => ?_)
  obtain ⟨x, rfl⟩ : ∃ x, v = .int x := by
    simp only [List.mem_cons, List.not_mem_nil, or_false] at hv
    rcases hv with h | h | h <;> exact ⟨_, h⟩
  refine retC (tupC (consQ (ev_var rfl) (consC (pickL 2 2 (by trivial) rfl rfl (by decide) (by decide) (fun _ => by trivial) fun v2 H2 _ e2 => nilC (tup_end fun t H3 e3 _ ht => ?_)))))
  exact q _ t _ _ ((e1.trans e2).trans e3) ht
theorem rd_law_own : ∀ vs H Q E, sp_law_own K vs H Q E → r_law_own K { nx := fun _ H' => Q .non H', rt := Q } (start ["_law_n", "_law_alike", "_law_wide", "_law_high", "_law_group"] vs) H := by
  rintro vs H Q E ⟨n, al, rfl, q⟩
  refine s_asgQ (callQ (by trivial) ⟨_, rfl, fun H1 t1 x y e1 h1 => ?_⟩)
  refine s_asgQ (callQ (by trivial) ⟨_, rfl, fun H2 t2 x2 y2 e2 h2 => ?_⟩)
  refine s_asg (by trivial) ?_
  refine s_asgQ (opC (pickL 4 4 (by trivial) rfl rfl (by decide) (by decide) (fun _ => by trivial) fun v H3 hv e3 => ?_))
  obtain ⟨g, rfl, hg⟩ : ∃ g : Int, v = .int g ∧ -(2 ^ 64) < g ∧ g < 2 ^ 64 := by
    simp only [List.mem_cons, List.not_mem_nil, or_false] at hv
    rcases hv with h | h | h | h <;> exact ⟨_, h, by decide, by decide⟩
  refine Ev.go (ev_cb (ev_cons (ev_var rfl) ev_nil) cv_intB) ⟨_, _, rfl, rfl, .inl hg, ?_⟩
  refine retC (tup_go (by trivial) fun t H4 e4 _ ht => ?_)
  refine q _ t ⟨.leaf, "", x, g * (if al then 1 else 0), 0, 0, []⟩ ((e1.trans e2).trans (e3.trans e4)) ?_
  exact ⟨_, _, _, _, _, _, ht, (e2.trans (e3.trans e4)) _ _ h1⟩
theorem rd_law_leaf : ∀ vs H Q E, sp_law_leaf K vs H Q E → r_law_leaf K { nx := fun _ H' => Q .non H', rt := Q } (start ["_law_name", "_law_n", "_law_own_here", "_law_rest"] vs) H := by
  rintro vs H Q E ⟨nm, n, rfl, q⟩
  refine s_asgQ (callQ (by trivial) ⟨_, _, rfl, fun H1 t1 b e1 h1 => ?_⟩)
  refine s_asg (by trivial) ?_
  refine retC (tupC (consQ (by trivial) (consQ (by trivial) (consQ (by trivial) (consC (tup_go (by trivial) fun w H2 e2 _ hw => consC (tup_go (by trivial) fun p H3 e3 _ hp => nilC (tup_end fun t H4 e4 _ ht => ?_))))))))
  have e5 := e2.trans (e3.trans e4)
  refine q _ _ ⟨.leaf, nm, b.own, b.grp, 0, 0, []⟩ (e1.trans e5) rfl rfl rfl ?_
  obtain ⟨c, hi, v1, v2, v3, v4, a1, a2⟩ := h1
  exact .mk ht ⟨c, hi, v1, v2, v3, v4, e5 _ _ a1, e5 _ _ a2⟩ trivial (e4 _ _ hp) rfl fun i v t hv => by simp at hv
end

section
variable {K : PySem.W.Frag}
theorem abc_len : abc.cps.toList.length = 26 := by decide +kernel
theorem letter_len (i : Int) : (letter i).length = 1 := rfl
theorem rv_letter {H : Hp} {i : Int} (h0 : 0 ≤ i) (h1 : i < 26) : Rv rIxS (.str abc) (.int i) H (.str (letter i)) := by
  obtain ⟨k, rfl⟩ : ∃ k : Nat, i = k := ⟨_, (Int.toNat_of_nonneg h0).symm⟩
  have hk : k < abc.cps.toList.length := by rw [abc_len]; omega
  refine rv_ixS (ch := abc.cps.toList.getD k 0) (by decide +kernel) (atI_nat ?_)
  rw [List.getElem?_eq_getElem hk, List.getD_eq_getElem?_getD, List.getElem?_eq_getElem hk] <;> rfl
theorem word_len (c : Int) : ∀ n : Nat, ((List.range n).foldl wordStep (word0 c, "")).2.length = n
  | 0 => rfl
  | n + 1 => by
    rw [List.range_succ, List.foldl_append]
    show (_ ++ letter _).length = _
    rw [PySem.Str.length_append, word_len c n, letter_len]
theorem rd_law_label : ∀ vs H Q E, sp_law_label K vs H Q E → r_law_label K { nx := fun _ H' => Q .non H', rt := Q } (start ["_law_k", "_law_cell", "_law_letters", "_law_n", "_law_word", "_law_step_here", "_law_at_here", "_law_mark"] vs) H := by
  rintro vs H Q E ⟨k, c, rfl, hk, q⟩
  refine s_asg (v := .str abc) ev_c ?_
  refine s_asg (v := .int (word0 c)) (by unfold word0; trivial) ?_
  refine s_asg ev_c ?_
  have hm : 0 ≤ word0 c % 6 ∧ word0 c % 6 < 6 := ⟨by omega, by omega⟩
  have hw : (wordOf c).length = (word0 c % 6).toNat := word_len c _
  refine seqC (forR (k := (word0 c % 6).toNat) ?_ (by omega) (fun i σ H' => H' = H ∧ ∃ o, σ = [some (.int k), some (.int c), some (.str abc), some (.int ((List.range i).foldl wordStep (word0 c, "")).1), some (.str ((List.range i).foldl wordStep (word0 c, "")).2), o, none, none]) ⟨rfl, none, rfl⟩ (fun i σ H' hi p => ?_) fun σ H' p => ?_)
  · rw [Int.toNat_of_nonneg hm.1]
    trivial
  · obtain ⟨rfl, o, rfl⟩ := p
    have hl := word_len c i
    generalize hs : (List.range i).foldl wordStep (word0 c, "") = s at hl ⊢
    refine s_asg (v := .int (s.1 / 7)) (by trivial) ?_
    refine e_asg (v := .str (s.2 ++ letter (s.1 / 7 % 26))) (ev_op (ev_var rfl) (ev_op (ev_var rfl) (by trivial) (rv_letter (i := s.1 / 7 % 26) (by omega) (by omega))) (rv_addS (sz (by rw [hl, letter_len]; omega)))) ⟨rfl, some (.int (i : Nat)), ?_⟩
    rw [List.range_succ, List.foldl_append, hs]
    rfl
  · obtain ⟨rfl, o, rfl⟩ := p
    have e : ((List.range (word0 c % 6).toNat).foldl wordStep (word0 c, "")).2 = wordOf c := rfl
    rw [e]
    generalize ((List.range (word0 c % 6).toNat).foldl wordStep (word0 c, "")).1 = s1
    have hlen : (wordOf c).length ≤ 100000 := by omega
    refine s_asg (v := .int (c % ((wordOf c).length + 1))) (ev_op (ev_var rfl) (ev_op (ev_cb (ev_cons (ev_var rfl) ev_nil) (cv_lenS (sz hlen))) ev_c rv_add) (rv_mod (by omega))) ?_
    refine s_asg (v := .str (letter ((k + c) % 26) ++ letter ((k : Int) / 26))) (ev_op (ev_op (ev_var rfl) (by trivial) (rv_letter (i := (k + c) % 26) (by omega) (by omega))) (ev_op (ev_var rfl) (by trivial) (rv_letter (i := (k : Int) / 26) (by omega) (by omega))) (rv_addS (sz (by rw [letter_len, letter_len]; omega)))) ?_
    have c1 := cutS_length (wordOf c) none (some (c % ((wordOf c).length + 1)))
    have c2 := cutS_length (wordOf c) (some (c % ((wordOf c).length + 1))) none
    refine e_ret (v := .str (labelOf k c)) (ev_op (ev_op (fun Q q => slC (ev_var rfl) evo_no (evo_part (ev_var rfl)) ⟨_, rfl, sz hlen, q⟩) (ev_var rfl) (rv_addS (sz ?_))) (fun Q q => slC (ev_var rfl) (evo_part (ev_var rfl)) evo_no ⟨_, rfl, sz hlen, q⟩) (rv_addS (sz ?_))) q
    · rw [PySem.Str.length_append, letter_len, letter_len]; omega
    · rw [PySem.Str.length_append, PySem.Str.length_append, letter_len, letter_len]; omega
/-- the loop of draws: those of the one number -/
theorem rd_law_draws : ∀ vs H Q E, sp_law_draws K vs H Q E → r_law_draws K { nx := fun _ H' => Q .non H', rt := Q } (start ["_law_script", "_law_first", "_law_many", "_law_base", "_law_found_here", "_law_cell", "_law_k", "_law_n"] vs) H := by
  rintro vs H Q E ⟨a, ns, f, m, rfl, hs, hm, q⟩
  refine s_asgQ (lst_go (by trivial) fun p H1 e1 hp h1 => ?_)
  refine s_asgQ (callQ (by trivial) ⟨a, ns, f, rfl, e1.l hs, ?_⟩)
  refine seqC ⟨fun n σ H' => ∃ (c : Int) (ms : List Int), n + ms.length = m ∧ Ex H H' ∧ H' p = some (.lst (ms.map V.int)) ∧ σ = [some (.ref a), some (.int f), some (.int m), some (.int 1000000000000000000), some (.ref p), some (.int c), none, none], ⟨m, _, [], rfl, e1, h1, rfl⟩, ?_⟩
  rintro n σ H' ⟨c, ms, hn, e2, h2, rfl⟩
  refine evt_and (b := decide (10 ^ 18 ≤ c)) (c := decide ((ms.length : Int) < m)) (evt_test (ev_op (ev_var rfl) (by trivial) rv_ge)) (fun _ => evt_test (ev_op (ev_cb (ev_cons (ev_var rfl) ev_nil) (cv_lenL h2)) (ev_var rfl) (by rw [List.length_map]; exact rv_lt))) _ ?_
  by_cases hc : decide (10 ^ 18 ≤ c) && decide ((ms.length : Int) < m)
  · rw [if_pos hc]
    have hlt : (ms.length : Int) < m := of_decide_eq_true (Bool.and_eq_true_iff.mp hc).2
    refine ⟨_, fun σ' H' h => h, ?_⟩
    refine s_app (v := .int (c % 1000000000000000000)) (ev_var rfl) (by trivial) h2 (by simp; omega) ?_
    refine e_asg (v := .int (c / 1000000000000000000)) (by trivial) ⟨n - 1, by omega, _, ms ++ [c % 1000000000000000000], by simp; omega, e2.mut (p := p) hp, by rw [upd_same]; simp, rfl⟩
  · rw [if_neg hc]
    have hk : ms.length ≤ m := by omega
    refine seqC (forR (k := m - ms.length) (ev_cons (ev_op (ev_var rfl) (ev_cb (ev_cons (ev_var rfl) ev_nil) (cv_lenL h2)) (by rw [List.length_map, Int.ofNat_sub hk]; exact rv_sub)) ev_nil) (by omega)
      (fun i σ H' => ∃ (o1 o2 : Option V) (ms' : List Int), ms'.length = ms.length + i ∧ Ex H H' ∧ H' p = some (.lst (ms'.map V.int)) ∧ σ = [some (.ref a), some (.int f), some (.int m), some (.int 1000000000000000000), some (.ref p), some (.int c), o1, o2]) ⟨none, none, ms, rfl, e2, h2, rfl⟩ (fun i σ H' hi p => ?_) fun σ H' p => ?_)
    · obtain ⟨o1, o2, ms', hl, e3, h3, rfl⟩ := p
      refine s_asg (ev_mixed (ev_cons (ev_op (ev_at (a := a) (ns := ns) (k := f + 1 + i) (ev_cons (ev_var rfl) (ev_cons (ev_op (ev_op (ev_var rfl) ev_c rv_add) (ev_var rfl) rv_add) ev_nil)) (e3.l hs)) (ev_op (by trivial) (ev_var rfl) (rv_mul (.inr ⟨by omega, by omega⟩))) rv_add) ev_nil)) ?_
      refine app_go (ev_var rfl) (ev_op (ev_op (by trivial) (ev_mixed (by trivial)) rv_add) (ev_var rfl) (rv_mod (by decide))) h3 (by simp; omega) ?_
      exact ⟨_, _, ms' ++ [_], by simp; omega, e3.mut hp, by rw [upd_same, List.map_append]; rfl, rfl⟩
    · obtain ⟨o1, o2, ms', hl, e3, h3, rfl⟩ := p
      exact e_ret (ev_var rfl) (q _ _ ms' e3 h3 (by omega))
end

section
variable {K : PySem.W.Frag}
theorem kd_table {kd : Kd} : kd.s = "table" ↔ kd = .table := by cases kd <;> decide
theorem kd_leaf {kd : Kd} : kd.s = "leaf" ↔ kd = .leaf := by cases kd <;> decide
theorem kd_row {kd : Kd} : kd.s = "row" ↔ kd = .row := by cases kd <;> decide
theorem kd_col {kd : Kd} : kd.s = "column" ↔ kd = .col := by cases kd <;> decide
theorem kd_wrap {kd : Kd} : kd.s = "wrap" ↔ kd = .wrap := by cases kd <;> decide
theorem rd_law_within : ∀ vs H Q E, sp_law_within K vs H Q E → r_law_within K { nx := fun _ H' => Q .non H', rt := Q } (start ["_law_kind", "_law_name", "_law_n", "_law_some", "_law_alike", "_law_own_here", "_law_rest", "_law_gap", "_law_side", "_law_align", "_law_columns_here", "_law_spans", "_law_k", "_law_far"] vs) H := by
  rintro vs H Q E ⟨kd, nm, n, l, al, xs, ps, rfl, hk, hl, hps, hn, q⟩
  refine s_asgQ (callQ (by trivial) ⟨_, _, rfl, fun H1 t1 b e1 h1 => ?_⟩)
  refine s_asg (by trivial) ?_
  generalize n / 100 / 51840000000 = r
  refine s_asgQ (pickL 4 4 (by trivial) rfl rfl (by decide) (by decide) (fun _ => by trivial) fun v H2 hv e2 => ?_)
  obtain ⟨g, rfl, g0, g1⟩ : ∃ g : Int, v = .int g ∧ 0 ≤ g ∧ g < 1000 := by
    simp only [List.mem_cons, List.not_mem_nil, or_false] at hv
    rcases hv with h | h | h | h <;> exact ⟨_, h, by omega, by omega⟩
  refine s_asgQ (pickL 2 2 (by trivial) rfl rfl (by decide) (by decide) (fun _ => by trivial) fun vs H3 hv e3 => ?_)
  have e4 := e1.trans (e2.trans e3)
  refine s_ifN (b := !decide (kd.s = "table")) (by trivial) (fun h => ?_) (fun h => ?_)
  · have ht : ¬ kd = .table := fun z => by rw [z] at h; revert h; decide
    refine s_asgQ (pickL 4 4 (by trivial) rfl rfl (by decide) (by decide) (fun _ => by trivial) fun va H5 hv e5 => ?_)
    have hl' := (e4.trans e5) _ _ hl
    refine retC (tupC (consQ (by trivial) (consQ (by trivial) (consQ (by trivial) (consC (tup_go (by trivial) fun w H6 e6 _ hw => consC (cbQ (by trivial) (tupOf_go (e6 _ _ hl') fun p H7 e7 _ hp => nilC (tup_end fun t H8 e8 _ ht8 => ?_)))))))))
    have e9 := (e2.trans e3).trans (e5.trans (e6.trans (e7.trans e8)))
    refine q _ _ ⟨kd, nm, b.own, b.grp, g, 0, []⟩ (e1.trans e9) rfl rfl ⟨fun z => absurd z hk, ⟨g0, g1⟩, fun z => absurd z ht, hn⟩ ?_
    refine .mk ht8 ?_ ?_ (e8 _ _ hp) hps.1 fun i v t hv ht => (hps.2 i v t hv ht).ex (e1.trans e9)
    · obtain ⟨c, hi, v1, v2, v3, v4, a1, a2⟩ := h1
      exact ⟨c, hi, v1, v2, v3, v4, e9 _ _ a1, e9 _ _ a2⟩
    · have hw' : LineAt H8 (.ref w) ⟨kd, nm, b.own, b.grp, g, 0, []⟩ := ⟨w, _, _, rfl, (e7.trans e8) _ _ hw⟩
      cases kd with
      | leaf => exact absurd rfl hk
      | row => exact hw'
      | col => exact hw'
      | wrap => exact hw'
      | table => exact absurd rfl ht
  · obtain rfl : kd = .table := kd_table.mp (by simpa using h)
    obtain ⟨c, hc, c1, c4⟩ : ∃ c : Nat, 1 + r / 2 % 4 = (c : Int) ∧ 1 ≤ c ∧ c ≤ 4 := ⟨(1 + r / 2 % 4).toNat, by omega, by omega, by omega⟩
    refine s_asg (v := .int (1 + r / 2 % 4)) (by trivial) ?_
    rw [hc]
    refine s_asgQ (lst_go (by trivial) fun p H5 e5 hp h5 => ?_)
    have hl5 := (e4.trans e5) _ _ hl
    have hlen := hps.1
    refine seqC (forR (k := xs.length) (ev_cons (ev_cb (ev_cons (ev_var rfl) ev_nil) (cv_lenL hl5)) ev_nil) (by omega)
      (fun i σ H' => ∃ (o1 o2 : Option V) (acc : List V) (sps : List (Nat × Nat)), σ = [some (.str Kd.table.s), some (.str nm), some (.int n), some (.ref l), some (.bl al), some (.ref t1), some (.int r), some (.int g), some vs, none, some (.int c), some (.ref p), o1, o2] ∧
        Ex H3 H' ∧ H' p = some (.lst acc) ∧ AllAt (PairAt H') acc sps ∧ sps.length = i ∧ ∀ s ∈ sps, 1 ≤ s.1 ∧ s.1 ≤ c ∧ 1 ≤ s.2 ∧ s.2 ≤ 2) ⟨none, none, [], [], rfl, e5, h5, .nil, rfl, fun s hs => by cases hs⟩ (fun i σ H' hi p => ?_) fun σ H' p => ?_)
    · obtain ⟨o1, o2, acc, sps, rfl, e6, h6, ha, hl6, hb⟩ := p
      have hal := ha.1
      refine s_asg (v := .int (r / 3840 + (i : Nat) * (i : Nat))) (ev_op (by trivial) (ev_op (ev_var rfl) (ev_var rfl) (rv_mul (.inl ⟨by omega, by omega⟩))) rv_add) ?_
      generalize r / 3840 + (i : Nat) * (i : Nat) = far
      obtain ⟨s1, hs1⟩ : ∃ s1 : Nat, 1 + far % (c : Int) = (s1 : Int) := ⟨(1 + far % (c : Int)).toNat, by have := Int.emod_nonneg far (show (c : Int) ≠ 0 by omega); omega⟩
      obtain ⟨s2, hs2⟩ : ∃ s2 : Nat, 1 + far / 4 % 2 = (s2 : Int) := ⟨(1 + far / 4 % 2).toNat, by omega⟩
      have hs3 := Int.emod_nonneg far (show (c : Int) ≠ 0 by omega)
      have hs4 := Int.emod_lt_of_pos far (show 0 < (c : Int) by omega)
      refine dropC (Ev.go (v := .ref p) (ev_var rfl) ⟨.inl ⟨rfl, _, SqL.of h6⟩, consC (tup_go (ev_cons (ev_op ev_c (ev_op (ev_var rfl) (ev_var rfl) (rv_mod (by omega))) rv_add) (ev_cons (x := .int (1 + far / 4 % 2)) (by trivial) ev_nil)) fun t H7 e7 hn7 h7 => nilC ⟨p, acc, _, rfl, rfl, e7 _ _ h6, szl (by omega), ?_⟩)⟩)
      have hne : p ≠ t := ne_of_none h6 hn7
      have hpn : H3 p = none := hp
      refine ⟨_, _, acc ++ [.ref t], sps ++ [(s1, s2)], rfl, (e6.trans e7).mut hpn, upd_same, AllAt.snoc (ha.mono fun v s _ z => ?_) ?_, by simp [hl6], fun s hs => ?_⟩
      · obtain ⟨a, rfl, ha⟩ := z
        exact ⟨a, rfl, by rw [upd_ne (ne_of (e7 _ _ ha) (e7 _ _ h6) (fun z => by cases z))]; exact e7 _ _ ha⟩
      · exact ⟨t, rfl, by rw [upd_ne (fun z => hne z.symm), h7, hs1, hs2]⟩
      · rcases List.mem_append.mp hs with hs | hs
        · exact hb s hs
        · rw [List.mem_singleton] at hs
          subst hs
          exact ⟨by omega, by omega, by omega, by omega⟩
    · obtain ⟨o1, o2, acc, sps, rfl, e6, h6, ha, hl6, hb⟩ := p
      dsimp only
      refine retC (tupC (consQ (by trivial) (consQ (by trivial) (consQ (by trivial) (consC (tupC (consQ (by trivial) (consQ (by trivial) (consQ (by trivial) (consC (cbQ (by trivial) (tupOf_go h6 fun s H7 e7 _ h7 => nilC ⟨sz (by simp), fun w hw8 => ?_⟩))))))))))))
      obtain ⟨H8, hH, e8, h8⟩ := gen_new (.tup [.int c, .int g, vs, .ref s]) hw8
      rw [hH]
      refine consC (cbQ (by trivial) (tupOf_go ((e7.trans e8) _ _ (e6 _ _ (e4 _ _ hl))) fun pp H9 e9 _ h9 => nilC (tup_end fun t H10 e10 _ h10 => ?_)))
      have e11 := e7.trans (e8.trans (e9.trans e10))
      have e12 := (e2.trans e3).trans (e6.trans e11)
      refine q _ _ ⟨.table, nm, b.own, b.grp, g, c, sps⟩ (e1.trans e12) rfl rfl ⟨fun z => absurd z hk, ⟨g0, g1⟩, fun _ => ⟨c1, c4, hl6.trans hlen, hb⟩, hn⟩ ?_
      refine .mk h10 ?_ ?_ (e10 _ _ h9) hps.1 fun i v t hv ht => (hps.2 i v t hv ht).ex (e1.trans e12)
      · obtain ⟨c, hi, v1, v2, v3, v4, a1, a2⟩ := h1
        exact ⟨c, hi, v1, v2, v3, v4, e12 _ _ a1, e12 _ _ a2⟩
      · exact ⟨w, _, s, acc, rfl, (e9.trans e10) _ _ h8, (e8.trans (e9.trans e10)) _ _ h7, pairs_ex e11 ha⟩
end

section
variable {K : PySem.W.Frag}
/-! the stack -/
theorem deep_nil {b : Bx} : (Tr.mk b []).deep = 1 := by simp [Tr.deep, deepL]
theorem wfL_mem {ts : List Tr} (h : ∀ t ∈ ts, Wf t) {x : Tr} (hx : x ∈ boxesL ts) : WfB x := by
  obtain ⟨p, hp, hx⟩ := mem_boxesL.mp hx
  exact h p hp x hx
theorem Wf.mk {b : Bx} {ps : List Tr} (h : WfB (.mk b ps)) (hp : ∀ t ∈ ps, Wf t) : Wf (.mk b ps) := fun x hx => by
  rw [boxes_eq] at hx
  rcases List.mem_cons.mp hx with e | hx
  · rw [e]; exact h
  · exact wfL_mem hp hx
theorem StkOk.leaf {ts : List Tr} {m : Nat} (h : StkOk ts m) {b : Bx} (hk : b.kd = .leaf) (hg : b.gap = 0) : StkOk (ts ++ [.mk b []]) (m + 1) where
  wf := fun t ht => by
    rcases List.mem_append.mp ht with ht | ht
    · exact h.wf t ht
    · rw [List.mem_singleton] at ht
      subst ht
      refine ⟨Wf.mk ⟨fun _ => rfl, by rw [show (Tr.mk b []).b.gap = 0 from hg]; omega, fun z => ?_, by simp [Tr.ps]⟩ (fun t ht => by cases ht), by rw [deep_nil]; omega⟩
      rw [show (Tr.mk b []).b.kd = .leaf from hk] at z
      cases z
  many := by rw [boxesL_app, List.length_append, h.many]; simp [boxesL, Tr.boxes]
  few := by rw [List.length_append]; have := h.few; simp; omega
theorem StkOk.put {ts : List Tr} {m k : Nat} (h : StkOk ts m) {b : Bx} (hw : WfB (.mk b (ts.drop k))) (hd : deepL (ts.drop k) ≤ 4) : StkOk (ts.take k ++ [.mk b (ts.drop k)]) (m + 1) where
  wf := fun t ht => by
    rcases List.mem_append.mp ht with ht | ht
    · exact h.wf t (List.mem_of_mem_take ht)
    · rw [List.mem_singleton] at ht
      subst ht
      exact ⟨Wf.mk hw fun t ht => (h.wf t (List.mem_of_mem_drop ht)).1, by rw [Tr.deep]; omega⟩
  many := by
    have e : (boxesL (ts.take k)).length + (boxesL (ts.drop k)).length = m := by rw [← List.length_append, ← boxesL_app, List.take_append_drop]; exact h.many
    rw [boxesL_app, List.length_append]
    simp [boxesL, Tr.boxes]
    omega
  few := by
    have e : (boxesL (ts.take k)).length + (boxesL (ts.drop k)).length = m := by rw [← List.length_append, ← boxesL_app, List.take_append_drop]; exact h.many
    have h1 : ∀ l : List Tr, l.length ≤ (boxesL l).length := fun l => by
      induction l with
      | nil => simp
      | cons a r ih => rw [boxesL, List.length_append, boxes_eq]; simp; omega
    have := h1 (ts.take k)
    rw [List.length_append]
    simp only [List.length_singleton]
    omega
theorem names_put {ts : List Tr} {k : Nat} {b : Bx} : ((boxesL (ts.take k ++ [.mk b (ts.drop k)])).map Tr.nm).Perm ((boxesL ts).map Tr.nm ++ [b.nm]) := by
  have e : boxesL ts = boxesL (ts.take k) ++ boxesL (ts.drop k) := by rw [← boxesL_app, List.take_append_drop]
  rw [boxesL_app, e]
  simp only [boxesL, Tr.boxes, List.append_nil, List.map_append, List.map_cons, List.append_assoc]
  refine List.Perm.append_left _ ?_
  exact (List.perm_append_singleton _ _).symm
theorem AllAt.drop {β : Type} {R : V → β → Prop} {vs : List V} {bs : List β} (h : AllAt R vs bs) (k : Nat) : AllAt R (vs.drop k) (bs.drop k) := by
  refine ⟨by simp [h.1], fun i v b hv hb => ?_⟩
  rw [List.getElem?_drop] at hv hb
  exact h.2 _ v b hv hb
theorem AllAt.take {β : Type} {R : V → β → Prop} {vs : List V} {bs : List β} (h : AllAt R vs bs) (k : Nat) : AllAt R (vs.take k) (bs.take k) := by
  refine ⟨by simp [h.1], fun i v b hv hb => ?_⟩
  rw [List.getElem?_take] at hv hb
  split at hv
  · rename_i hi
    rw [if_pos hi] at hb
    exact h.2 _ v b hv hb
  · cases hv
/-- the leaf put on the stack -/
theorem step_leaf {st : Addr} {n : Int} {nm : Str} {xs : List V} {ts : List Tr} {m : Nat} {H0 H : Hp} {Q : VK} {o3 o4 o5 o6 o7 o8 o9 o10 o11 : Option V} {D : Ends} (hD : D.rt = Q) (hl : H0 st = some (.lst xs)) (hts : AllAt (StAt H0) xs ts) (hok : StkOk ts m) (hm : m ≤ 16) (e0 : Ex H0 H)
    (q : ∀ H' p ys us, Ex H0 H' → H' p = some (.lst ys) → AllAt (StAt H') ys us → StkOk us (m + 1) → ((boxesL us).map Tr.nm).Perm ((boxesL ts).map Tr.nm ++ [nm]) → Q (.ref p) H') :
    (tSeq (tAsg (tCallR (sp_law_leaf K) E0 (tCons (tVar 2) (tCons (tVar 1) tNil))) (gName 5))
    (tRet (tOp rCat (tVar 0) (tLst (tCons (tTup (tCons (tVar 5) (tCons (tC (.int 1)) (tCons (tOp qGt (tOp (rIxT K) (tOp (rIxT K) (tVar 5) (tC (.int 2))) (tC (.int 5))) (tC (.int 0))) tNil)))) tNil))))) D
      [some (.ref st), some (.int n), some (.str nm), o3, o4, o5, o6, o7, o8, o9, o10, o11] H := by
  refine s_asgQ (callQ (by trivial) ⟨_, _, rfl, fun H1 v b e1 hk hnm hg ht => ?_⟩)
  obtain ⟨a, o, p, w, vs, rfl, h1, ⟨c, hi, v1, v2, v3, v4, h2, h3⟩, h4, h5, h6⟩ := ht.out
  have h2 : H1 o = some (.tup [.ref c, v1, v2, v3, v4, .int b.grp]) := h2
  refine retC (opQ (x := .ref st) (ev_var rfl) (lstC (consC (tup_go (xs := [.ref a, .int 1, .bl (decide (0 < b.grp))]) (by trivial) fun t H2 e2 _ ht2 => nilC ⟨sz (by simp), fun l hl2 => ?_⟩))))
  obtain ⟨H3, eH, e3, h3'⟩ := gen_new (.lst [.ref t]) hl2
  rw [eH]
  have hx : xs.length ≤ 1000 := by have := hts.1; have := hok.few; omega
  refine cat_go ((e0.trans (e1.trans (e2.trans e3))) _ _ hl) h3' (by simp; omega) fun r H4 e4 _ h7 => ?_
  rw [hD]
  have e5 := (e2.trans e3).trans e4
  refine q H4 r _ (ts ++ [.mk b []]) (e0.trans (e1.trans e5)) h7 (AllAt.snoc (hts.mono fun v b _ z => z.ex (e0.trans (e1.trans e5))) ?_) (hok.leaf hk hg) ?_
  · exact ⟨t, .ref a, _, rfl, by rw [deep_nil]; exact (e3.trans e4) _ _ ht2, ht.ex e5⟩
  · rw [boxesL_app, List.map_append]
    simp [boxesL, Tr.boxes, Tr.nm, Tr.b, hnm]
theorem stk_trees {H4 : Hp} : ∀ (zs : List V) (ws : List Tr), AllAt (StAt H4) zs ws → ∃ fs : List V, AllAt (TrAt H4) fs ws ∧ ∀ (i : Nat) x, zs[i]? = some x → ∃ a d g y, x = V.ref a ∧ H4 a = some (.tup [y, d, g]) ∧ fs[i]? = some y := fun zs => by
  induction zs with
  | nil =>
    intro ws h
    cases ws with
    | nil => exact ⟨[], .nil, fun i x h => by simp at h⟩
    | cons => cases h.1
  | cons z r ih =>
    intro ws h
    cases ws with
    | nil => cases h.1
    | cons w ws =>
      obtain ⟨fs, h1, h2⟩ := ih ws (h.drop 1)
      obtain ⟨a, x0, g, e, h3, h4⟩ := h.2 0 z w rfl rfl
      refine ⟨x0 :: fs, ⟨by simp [h1.1], fun i v b hv hb => ?_⟩, fun i x hx => ?_⟩
      · cases i with
        | zero => simp at hv hb; subst hv hb; exact h4
        | succ i => simp at hv hb; exact h1.2 i v b hv hb
      · cases i with
        | zero => simp at hx; subst hx; exact ⟨a, _, _, x0, e, h3, rfl⟩
        | succ i => simp at hx; simpa using h2 i x hx
theorem rd_law_step : ∀ vs H Q E, sp_law_step K vs H Q E → r_law_step K { nx := fun _ H' => Q .non H', rt := Q } (start ["_law_stack", "_law_n", "_law_name", "_law_way", "_law_many", "_law_leaf_here", "_law_some", "_law_deep", "_law_grouped_here", "_law_kind", "_law_box", "_law_one"] vs) H := by
  rintro vs H Q E ⟨st, n, nm, xs, ts, m, rfl, hl, hts, hok, hm, q⟩
  have hxs := hts.1
  have hfew := hok.few
  refine s_asg (by trivial) ?_
  obtain ⟨k, hk, hk5⟩ : ∃ k : Nat, (1 + n / 16) % 5 = (k : Int) ∧ k < 5 := ⟨((1 + n / 16) % 5).toNat, by omega, by omega⟩
  refine s_asg (v := .int ((1 + n / 16) % 5)) (by trivial) ?_
  rw [hk]
  refine s_ifN (b := decide (n % 16 < 7) || decide ((xs.length : Int) < k)) (by trivial) (fun h => ?_) (fun h => ?_)
  · exact step_leaf rfl hl hts hok hm (Ex.refl _) q
  have hkx : k ≤ xs.length := by
    have := (Bool.or_eq_false_iff.mp h).2
    have := of_decide_eq_false this
    omega
  have e1 : (xs.length : Int) - k = ((xs.length - k : Nat) : Int) := by omega
  have hd := hts.drop (xs.length - k)
  refine s_asgQ (slC (x := .ref st) (lo := some ((xs.length - k : Nat) : Int)) (hi := none) (ev_var rfl) (evo_part (by rw [← e1]; trivial)) evo_no (sl_go hl fun s H1 x1 _ hs => ?_))
  rw [cutV_drop (by omega)] at hs
  generalize hys : xs.drop (xs.length - k) = ys at hs hd
  generalize hus : ts.drop (xs.length - k) = us at hd
  have hd1 := hd.1
  have hy5 : ys.length ≤ 17 := by rw [← hys, List.length_drop]; omega
  have hat : ∀ (i : Nat) (x : V) H', Ex H1 H' → ys[i]? = some x → ∃ t, us[i]? = some t ∧ StAt H' x t := fun i x H' e hx => by
    obtain ⟨t, ht, hst⟩ := hd.get hx
    exact ⟨t, ht, hst.ex (x1.trans e)⟩
  -- the depth
  refine s_asgQ (maxDC (lcLq (f := us.map fun t => V.int (t.deep : Int)) (ev_var rfl) hs (by rw [List.length_map, hd1]) (by omega) (fun i x H' e hx y hy => ?_) fun D H2 e2 _ hD => maxD_end (H := H2) (a := D) (ns := us.map fun t => (t.deep : Int)) (by rw [hD, List.map_map] <;> rfl) ?_))
  · obtain ⟨t, ht, a, x0, g, rfl, h1, h2⟩ := hat i x H' e hx
    rw [List.getElem?_map, ht] at hy
    cases hy
    trivial
  rw [deep_max]
  -- grouped
  obtain ⟨gs, hgs, hgl⟩ : ∃ gs : List Bool, gs.length = ys.length ∧ ∀ i x, ys[i]? = some x → ∀ H', Ex H1 H' → ∃ a x0 d g, x = V.ref a ∧ H' a = some (.tup [x0, d, .bl g]) ∧ gs[i]? = some g := by
    have key : ∀ (zs : List V), (∀ z ∈ zs, ∃ a x0 d g, z = V.ref a ∧ H1 a = some (.tup [x0, d, .bl g])) → ∃ gs : List Bool, gs.length = zs.length ∧ ∀ (i : Nat) x, zs[i]? = some x → ∃ a x0 d g, x = V.ref a ∧ H1 a = some (.tup [x0, d, .bl g]) ∧ gs[i]? = some g := fun zs => by
      induction zs with
      | nil => exact fun _ => ⟨[], rfl, fun i x h => by simp at h⟩
      | cons z r ih =>
        intro h
        obtain ⟨gs, h1, h2⟩ := ih fun z hz => h z (List.mem_cons_of_mem _ hz)
        obtain ⟨a, x0, d, g, e, h3⟩ := h z List.mem_cons_self
        refine ⟨g :: gs, by simp [h1], fun i x hx => ?_⟩
        cases i with
        | zero => simp at hx; subst hx; exact ⟨a, x0, d, g, e, h3, rfl⟩
        | succ i => simp at hx; simpa using h2 i x hx
    obtain ⟨gs, h1, h2⟩ := key ys fun z hz => by
      obtain ⟨i, hi⟩ := List.mem_iff_getElem?.mp hz
      obtain ⟨t, ht, a, x0, g, e, h1, h2⟩ := hat i z H1 (Ex.refl _) hi
      exact ⟨a, x0, _, g, e, h1⟩
    exact ⟨gs, h1, fun i x hx H' e => let ⟨a, x0, d, g, e1, e2, e3⟩ := h2 i x hx; ⟨a, x0, d, g, e1, e _ _ e2, e3⟩⟩
  refine s_asgQ (cbC (consC (lcLq (f := gs.map V.bl) (ev_var rfl) (e2 _ _ hs) (by rw [List.length_map, hgs]) (by omega) (fun i x H' e hx y hy => ?_) fun D2 H3 e3 _ hD2 => nilC (cv_any hD2 _ ?_))))
  · obtain ⟨a, x0, d, g, rfl, h1, h2⟩ := hgl i x hx H' (e2.trans e)
    rw [List.getElem?_map, h2] at hy
    cases hy
    trivial
  generalize gs.any id = g
  refine s_asgQ (pickL 6 6 (by trivial) rfl rfl (by decide) (by decide) (fun _ => by trivial) fun v H4 hv e4 => ?_)
  obtain ⟨kd, rfl, hkd⟩ : ∃ kd : Kd, v = .str kd.s ∧ kd ≠ .leaf := by
    simp only [List.mem_cons, List.not_mem_nil, or_false] at hv
    rcases hv with h | h | h | h | h | h
    · exact ⟨.row, h, by decide⟩
    · exact ⟨.col, h, by decide⟩
    · exact ⟨.wrap, h, by decide⟩
    · exact ⟨.table, h, by decide⟩
    · exact ⟨.row, h, by decide⟩
    · exact ⟨.col, h, by decide⟩
  have e5 := x1.trans (e2.trans (e3.trans e4))
  refine s_ifN (b := decide (4 < (deepL us : Int))) (by trivial) (fun h => ?_) (fun h => ?_)
  · exact step_leaf rfl hl hts hok hm e5 q
  have hdeep : deepL us ≤ 4 := by
    have := of_decide_eq_false h
    omega
  -- the kind
  have tail : ∀ kd' : Kd, kd' ≠ .leaf → (tSeq (tAsg (tCallR (sp_law_within K) E0 (tCons (tVar 9) (tCons (tVar 2) (tCons (tVar 1) (tCons (tLc (iList K (tVar 6)) (gName 11) tYes (tOp (rIxT K) (tVar 11) (tC (.int 0))) [11]) (tCons (tAndV (tOp rNe (tVar 9) (tC (.str "table"))) (tOp rEq (tOp qMod (tOp qFdiv (tVar 1) (tC (.int 64))) (tC (.int 3))) (tC (.int 0)))) tNil)))))) (gName 10))
    (tRet (tOp rCat (tSl (rSlL K) (tVar 0) tNoPart (tPart (tOp qSub (tCB (qLen K) (tCons (tVar 0) tNil)) (tVar 4)))) (tLst (tCons (tTup (tCons (tVar 10) (tCons (tOp qAdd (tVar 7) (tC (.int 1))) (tCons (tOrV (tVar 8) (tOp qGt (tOp (rIxT K) (tOp (rIxT K) (tVar 10) (tC (.int 2))) (tC (.int 5))) (tC (.int 0)))) tNil)))) tNil))))) { nx := fun _ H' => Q .non H', rt := Q }
      [some (V.ref st), some (V.int n), some (V.str nm), some (V.int (n % 16)), some (V.int k), none, some (V.ref s), some (V.int (deepL us)), some (V.bl g), some (V.str kd'.s), none, none] H4 := fun kd' hk' => by
    obtain ⟨fs, hfs, hfl⟩ : ∃ fs : List V, AllAt (TrAt H4) fs us ∧ ∀ i x, ys[i]? = some x → ∀ H', Ex H4 H' → ∃ a d g y, x = V.ref a ∧ H' a = some (.tup [y, d, g]) ∧ fs[i]? = some y := by
      obtain ⟨fs, h1, h2⟩ := stk_trees ys us (hd.mono fun v b _ z => z.ex e5)
      exact ⟨fs, h1, fun i x hx H' e => let ⟨a, d, g, y, q1, q2, q3⟩ := h2 i x hx; ⟨a, d, g, y, q1, e _ _ q2, q3⟩⟩
    refine s_asgQ (callC (consQ (by trivial) (consQ (by trivial) (consQ (by trivial) (consC (lcLq (f := fs) (ev_var rfl) ((e2.trans (e3.trans e4)) _ _ hs) (by rw [hfs.1, hd1]) (by omega) (fun i x H' e hx y hy => ?_) fun D3 H5 e6 _ hD3 => consQ (x := .bl (!decide (kd'.s = "table") && decide (n / 64 % 3 = 0))) (by trivial) (nilC ⟨kd', nm, n, D3, _, fs, us, rfl, hk', hD3, hfs.mono fun _ _ _ z => z.ex e6, by omega, fun H6 v b e7 hbk hbn hw ht => ?_⟩)))))))
    · obtain ⟨a, d, g, y', rfl, h1, h2⟩ := hfl i x hx H' e
      rw [h2] at hy
      cases hy
      trivial
    obtain ⟨a, o, p, w, vs, rfl, h1, ⟨c, hi, v1, v2, v3, v4, h2, h3⟩, h4, h5, h6⟩ := ht.out
    have e8 := e5.trans (e6.trans e7)
    refine retC (opC (slC (x := .ref st) (lo := none) (hi := some ((xs.length - k : Nat) : Int)) (ev_var rfl) evo_no (evo_part (by have hl' := e8 _ _ hl; rw [← e1]; trivial)) (sl_go (e8 _ _ hl) fun s2 H7 e9 _ hs2 => ?_)))
    rw [cutV_take (by omega)] at hs2
    have h1' := e9 _ _ h1
    have h2' : H7 o = some (.tup [.ref c, v1, v2, v3, v4, .int b.grp]) := e9 _ _ h2
    refine lstC (consC (tup_go (xs := [.ref a, .int ((deepL us : Int) + 1), .bl (g || decide (0 < b.grp))]) (by trivial) fun t H8 e10 _ ht8 => nilC ⟨sz (by simp), fun l hl9 => ?_⟩))
    obtain ⟨H9, eH, e11, h9⟩ := gen_new (.lst [.ref t]) hl9
    rw [eH]
    refine cat_go ((e10.trans e11) _ _ hs2) h9 (by simp; omega) fun r H10 e12 _ h10 => ?_
    have e13 := e9.trans (e10.trans (e11.trans e12))
    have ht' := ht.ex e13
    subst hus
    refine q H10 r _ (ts.take (xs.length - k) ++ [.mk b (ts.drop (xs.length - k))]) (e8.trans e13) h10 (AllAt.snoc ((hts.take _).mono fun v b _ z => z.ex (e8.trans e13)) ?_) (hok.put hw hdeep) ?_
    · exact ⟨t, .ref a, _, rfl, by rw [Tr.deep]; exact (e11.trans e12) _ _ ht8, ht'⟩
    · rw [← hbn]
      exact names_put
  refine s_ifN (b := decide (kd.s = "table") && g) (by trivial) (fun _ => ?_) (fun _ => ?_)
  · exact e_asg (v := .str Kd.row.s) ev_c (tail .row (by decide))
  · exact tail kd hkd
end

section
variable {K : PySem.W.Frag}
theorem len_boxesL (l : List Tr) : l.length ≤ (boxesL l).length := by
  induction l with
  | nil => simp
  | cons a r ih => rw [boxesL, List.length_append, boxes_eq]; simp; omega
theorem rd_law_boxes : ∀ vs H Q E, sp_law_boxes K vs H Q E → r_law_boxes K { nx := fun _ H' => Q .non H', rt := Q } (start ["_law_tree_here", "_law_found_here", "_law_todo", "_law_box"] vs) H := by
  rintro vs H Q E ⟨v, t, rfl, ht, hn, q⟩
  refine s_asgQ (lst_go (by trivial) fun p H1 e1 hp h1 => ?_)
  refine s_asgQ (lst_go (xs := [v]) (by trivial) fun td H2 e2 htd h2 => ?_)
  have hne : td ≠ p := fun z => by subst z; rw [h1] at htd; cases htd
  refine seqC ⟨fun n σ H' => ∃ (td : Addr) (o : Option V) (xs : List V) (todo : List Tr) (fs : List V) (done : List Tr), n = (boxesL todo).length ∧ σ = [some v, some (.ref p), some (.ref td), o] ∧ Ex H H' ∧ H' p = some (.lst fs) ∧ AllAt (TrAt H) fs done ∧ H' td = some (.lst xs) ∧ AllAt (TrAt H) xs todo ∧ done ++ boxesL todo = t.boxes ∧ H td = none ∧ td ≠ p,
    ⟨_, td, none, [v], [t], [], [], rfl, rfl, e1.trans e2, e2 _ _ h1, .nil, h2, .one ht, by simp [boxesL], e1.free htd, hne⟩, ?_⟩
  rintro n σ H' ⟨td, o, xs, todo, fs, done, rfl, rfl, e3, h3, ha, h4, hb, hb2, hfr, hne⟩
  refine opQ (x := .ref td) (ev_var rfl) (lst_go (xs := []) (by trivial) fun l H5 e5 _ h5 => ⟨td, l, xs, rfl, rfl, SqL.of (e5 _ _ h4), SqL.of h5, _, rfl, ?_⟩)
  cases xs with
  | nil =>
    have : todo = [] := List.length_eq_zero_iff.mp hb.1.symm
    subst this
    rw [if_neg (by decide)]
    simp only [boxesL, List.append_nil] at hb2
    subst hb2
    exact e_ret (ev_var rfl) (q _ _ fs (e3.trans e5) (e5 _ _ h3) (trees_ex (e3.trans e5) ha))
  | cons x xs =>
    rw [if_pos (show (!(x :: xs).isEmpty) = true from rfl)]
    cases todo with
    | nil => cases hb.1
    | cons u todo =>
      refine ⟨_, fun σ' H' h => h, ?_⟩
      have hx : TrAt H x u := hb.2 0 x u rfl rfl
      refine s_asgQ (Ev.go (v := .ref td) (ev_var rfl) ⟨.inl ⟨rfl, _, SqL.of (e5 _ _ h4)⟩, consC (Ev.go (v := .int 0) ev_c (nilC ⟨td, x :: xs, 0, 0, x, rfl, rfl, e5 _ _ h4, by decide, by decide, seqIndex_of (by decide) (by simp), rfl, ?_⟩))⟩)
      have e6 : Ex H (upd H5 td (.lst ((x :: xs).eraseIdx 0))) := (e3.trans e5).mut hfr
      have h6 : upd H5 td (.lst ((x :: xs).eraseIdx 0)) td = some (.lst xs) := by rw [upd_same] <;> rfl
      have h7 : upd H5 td (.lst ((x :: xs).eraseIdx 0)) p = some (.lst fs) := by rw [upd_ne (fun z => hne z.symm)]; exact e5 _ _ h3
      have hb6 : AllAt (TrAt H) xs todo := ⟨by have := hb.1; simpa using this, fun i y w hy hw => hb.2 (i + 1) y w (by simpa using hy) (by simpa using hw)⟩
      generalize upd H5 td (.lst ((x :: xs).eraseIdx 0)) = H6 at e6 h6 h7
      have hfs : fs.length ≤ 17 := by
        have := congrArg List.length hb2
        rw [List.length_append] at this
        have := ha.1
        omega
      refine s_app (xs := fs) (ev_var rfl) (ev_var rfl) h7 (by omega) ?_
      have e7 : Ex H (upd H6 p (.lst (fs ++ [x]))) := e6.mut hp
      have h8 : upd H6 p (.lst (fs ++ [x])) p = some (.lst (fs ++ [x])) := upd_same
      have h9 : upd H6 p (.lst (fs ++ [x])) td = some (.lst xs) := by rw [upd_ne hne]; exact h6
      generalize upd H6 p (.lst (fs ++ [x])) = H7 at e7 h8 h9
      obtain ⟨a, o1, pp, w, ws, rfl, g1, _, _, g4, g5⟩ := hx.out
      have g1' := e7 _ _ g1
      have hcount : ws.length + xs.length ≤ 100 := by
        have q1 := congrArg List.length hb2
        rw [List.length_append, boxesL, List.length_append, boxes_eq, List.length_cons] at q1
        have q2 := len_boxesL u.ps
        have q3 := len_boxesL todo
        have q4 := g5.1
        have q5 := hb6.1
        omega
      refine e_asgQ (opC (cbC (evA_go (xs := [.ref pp]) (ev_cons (by trivial) ev_nil) (lstOfT_go (e7 _ _ g4) fun l2 H8 e8 _ h10 => Ev.go (v := .ref td) (ev_var rfl) (cat_go h10 (e8 _ _ h9) (by omega) fun r H9 e9 hr h11 => ?_)))))
      have e10 := e8.trans e9
      refine ⟨(boxesL (u.ps ++ todo)).length, ?_, r, _, ws ++ xs, u.ps ++ todo, fs ++ [.ref a], done ++ [u], rfl, rfl, e7.trans e10, e10 _ _ h8, ha.snoc hx, h11, g5.append hb6, ?_, (e7.trans e8).free hr, (ne_of_none (e8 _ _ h8) hr).symm⟩
      · rw [boxesL_app, boxesL, List.length_append, List.length_append, boxes_eq]
        simp
      · rw [← hb2, boxesL_app, boxesL, boxes_eq]
        simp
theorem tabledL_snoc {w : Bool} {t : Tr} : ∀ l : List Tr, tabled.tabledL w (l ++ [t]) = tabled.tabledL w l ++ tabled w t
  | [] => by simp [tabled.tabledL]
  | a :: r => by rw [List.cons_append, tabled.tabledL, tabled.tabledL, tabledL_snoc r, List.append_assoc]
theorem tabled_len (t : Tr) : ∀ w, (tabled w t).length ≤ t.boxes.length := by
  induction t using Tr.ind with
  | h t ih =>
    intro w
    cases t with
    | mk b ps =>
      have key : ∀ (w : Bool) (l : List Tr), (∀ p ∈ l, ∀ w, (tabled w p).length ≤ p.boxes.length) → (tabled.tabledL w l).length ≤ (boxesL l).length := fun w l => by
        induction l with
        | nil => intro _; simp [tabled.tabledL]
        | cons a r ih2 =>
          intro h
          rw [tabled.tabledL, boxesL, List.length_append, List.length_append]
          have := h a List.mem_cons_self w
          have := ih2 fun p hp => h p (List.mem_cons_of_mem _ hp)
          omega
      have := key (w || decide (b.kd = .table)) ps ih
      rw [tabled, Tr.boxes, List.length_append, List.length_cons]
      have h2 : (if (w || decide (b.kd = .table)) = true then [b.nm] else []).length ≤ 1 := by split <;> simp
      omega
theorem rd_law_tabled (d : Nat) : ∀ vs H Q E, sp_law_tabled K (d + 1) vs H Q E → r_law_tabled K d { nx := fun _ H' => Q .non H', rt := Q } (start ["_law_tree_here", "_law_within_here", "_law_found_here", "_law_part"] vs) H := by
  rintro vs H Q E ⟨v, t, w, rfl, ht, hd, hn, q⟩
  have hlen := tabled_len t w
  cases t with
  | mk b ps =>
  obtain ⟨a, o, p, wh, xs, rfl, h1, _, _, h4, h5⟩ := ht.out
  have h1 : H a = some (.tup [.str b.kd.s, .str b.nm, .ref o, wh, .ref p]) := h1
  have h5 : AllAt (TrAt H) xs ps := h5
  refine s_asgQ (lst_go (by trivial) fun f H1 e1 hf hf1 => ?_)
  have h11 := e1 _ _ h1
  refine s_asg (v := .bl (w || decide (b.kd.s = "table"))) (by trivial) ?_
  have hk : decide (b.kd.s = "table") = decide (b.kd = .table) := by
    by_cases z : b.kd = .table
    · rw [decide_eq_true z, decide_eq_true (kd_table.mpr z)]
    · rw [decide_eq_false z, decide_eq_false (fun y => z (kd_table.mp y))]
  rw [hk]
  rw [tabled, Tr.boxes] at hlen
  rw [tabled] at q
  generalize (w || decide (b.kd = .table)) = w' at hlen q ⊢
  have tail : ∀ H2 (o3 : Option V), Ex H H2 → (∃ (f : Addr), True) → ∀ f : Addr, H2 f = some (.lst ((if w' = true then [b.nm] else []).map V.str)) → H f = none →
      (tSeq (tFor (iTup K (tOp (rIxT K) (tVar 0) (tC (.int 4)))) (gName 3) (tAsg (tOp rCat (tVar 2) (tCallR (sp_law_tabled K d) E0 (tCons (tVar 3) (tCons (tVar 1) tNil)))) (gName 2)))
    (tRet (tVar 2))) { nx := fun _ H' => Q .non H', rt := Q } [some (.ref a), some (.bl w'), some (.ref f), o3] H2 := fun H2 o3 e2 _ f hf2 hfn => by
    have h12 := e2 _ _ h1
    refine seqC (forT (xs := xs) (a := p) (by trivial) (e2 _ _ h4) (fun i σ H' => ∃ (f : Addr) (o3 : Option V), σ = [some (.ref a), some (.bl w'), some (.ref f), o3] ∧ Ex H H' ∧ H' f = some (.lst (((if w' = true then [b.nm] else []) ++ tabled.tabledL w' (ps.take i)).map V.str))) ⟨f, o3, rfl, e2, by simpa [tabled.tabledL] using hf2⟩ (fun i σ H' hi p => let ⟨_, _, _, e, _⟩ := p; e _ _ h4) (fun i x σ H' hx p => ?_) fun σ H' p => ?_)
    · obtain ⟨f, o3, rfl, e3, h3⟩ := p
      obtain ⟨u, hu, hxu⟩ := h5.get hx
      have hmem := List.mem_of_getElem? hu
      have hu17 : u.boxes.length ≤ 17 := by
        have : u.boxes.length ≤ (boxesL ps).length := by
          obtain ⟨l1, l2, e⟩ := List.append_of_mem hmem
          rw [e, boxesL_app, boxesL, List.length_append, List.length_append]; omega
        rw [Tr.boxes, List.length_cons] at hn
        omega
      have hud : u.deep ≤ d := by have := deepL_le hmem; rw [Tr.deep] at hd; omega
      have hpre : (tabled.tabledL w' (ps.take i)).length ≤ 17 := by
        have key : ∀ (w : Bool) (l : List Tr), (tabled.tabledL w l).length ≤ (boxesL l).length := fun w l => by
          induction l with
          | nil => simp [tabled.tabledL]
          | cons a r ih2 =>
            rw [tabled.tabledL, boxesL, List.length_append, List.length_append]
            have := tabled_len a w
            omega
        have k1 := key w' (ps.take i)
        have : (boxesL (ps.take i)).length ≤ (boxesL ps).length := by
          have e : boxesL ps = boxesL (ps.take i) ++ boxesL (ps.drop i) := by rw [← boxesL_app, List.take_append_drop]
          rw [e, List.length_append]; omega
        rw [Tr.boxes, List.length_cons] at hn
        omega
      refine e_asgQ (opQ (x := .ref f) (ev_var rfl) (callQ (xs := [x, .bl w']) (by trivial) ⟨x, u, w', rfl, hxu.ex e3, hud, hu17, fun H4 l e4 h4' => cat_go (e4 _ _ h3) h4' ?_ fun r H5 e5 _ h6 => ⟨r, _, rfl, e3.trans (e4.trans e5), ?_⟩⟩))
      · have := tabled_len u w'
        rw [List.length_map, List.length_map, List.length_append]
        split <;> simp <;> omega
      · rw [h6, List.take_add_one, hu]
        show _ = some (HO.lst (((if w' = true then [b.nm] else []) ++ tabled.tabledL w' (ps.take i ++ [u])).map V.str))
        rw [tabledL_snoc, List.map_append, List.map_append, List.map_append, List.append_assoc]
    · obtain ⟨f, o3, rfl, e3, h3⟩ := p
      rw [h5.1, List.take_length] at h3
      exact e_ret (ev_var rfl) (q _ _ e3 h3)
  refine s_ifN (b := w') (by trivial) (fun h => ?_) (fun h => ?_)
  · subst h
    refine app_go (xs := []) (ev_var rfl) (ev_op (ev_var rfl) ev_c (rv_ixT h11 rfl)) hf1 (by decide) ?_
    exact tail _ none (e1.mut hf) ⟨f, trivial⟩ f upd_same hf
  · subst h
    exact tail _ none e1 ⟨f, trivial⟩ f hf1 hf
end

section
variable {K : PySem.W.Frag}
theorem rd_law_grouped (d : Nat) : ∀ vs H Q E, sp_law_grouped K (d + 1) vs H Q E → r_law_grouped K d { nx := fun _ H' => Q .non H', rt := Q } (start ["_law_tree_here", "_law_script", "_law_first", "_law_tabled_here", "_law_kind", "_law_name", "_law_own_here", "_law_what", "_law_parts", "_law_n", "_law_group", "_law_least", "_law_some", "_law_sign", "_law_part"] vs) H := by
  rintro vs H Q E ⟨sa, ns, v, t, tb, rfl, hs, ht, hd, hn, q⟩
  cases t with
  | mk b ps =>
  obtain ⟨a, o, p, wh, xs, rfl, h1, ⟨c0, hi0, v1, v2, v3, v4, g1, g2⟩, h3, h4, h5⟩ := ht.out
  have h1 : H a = some (.tup [.str b.kd.s, .str b.nm, .ref o, wh, .ref p]) := h1
  have g1 : H o = some (.tup [.ref c0, v1, v2, v3, v4, .int b.grp]) := g1
  have h5 : AllAt (TrAt H) xs ps := h5
  have hnm : b.nm.length ≤ 100 := (hn _ (self_mem _)).2
  have hps : ps.length ≤ 17 := (hn _ (self_mem _)).1
  refine seqC (asgQ (x := .ref a) (ev_var rfl) (gT h1 rfl (g5 ?_)))
  -- the number
  refine s_asgQ (callC (consC (opC (Ev.go (ta := tOp qAdd (tCallR (sp_law_at K) E0 (tCons (tVar 1) (tCons (tVar 2) tNil))) (tOp qMul (tC (.int 17)) (tCB qLenT (tCons (tVar 5) tNil)))) (ev_op (ev_at (a := sa) (ns := ns) (k := 1) (ev_cons (ev_var rfl) (ev_cons (ev_var rfl) ev_nil)) hs) (ev_op ev_c (ev_cb (ev_cons (ev_var rfl) ev_nil) (cv_lenS (sz (by omega)))) (rv_mul (.inl ⟨by decide, by decide⟩))) rv_add)
    (cbC (consC (lcSq (z := b.nm) (f := (b.nm.cps.toList.map fun c => ((c : Nat) : Int)).map V.int) (ev_var rfl) (by simp) (by have : b.nm.cps.size = b.nm.length := rfl; omega) (fun i c H' e hc y hy => ?_) (fun D H1 e1 _ hD => nilC (cv_sum hD _ ⟨_, _, rfl, rfl, nilC ⟨_, rfl, ?_⟩⟩)))))))))
  · rw [List.getElem?_map, List.getElem?_map, Array.getElem?_toList, hc] at hy
    cases hy
    exact ev_cb (ev_cons (ev_var rfl) ev_nil) fun Q q => ⟨_, rfl, rfl, q⟩
  generalize mixF _ = m
  have h11 := e1 _ _ h1
  have g11 := e1 _ _ g1
  refine s_asg (v := .int b.grp) (by trivial) ?_
  refine s_ifAsg (b := decide (m % 2 = 1)) (v := .int (1 + m / 2 % 3)) (old := .int b.grp) (by trivial) (fun _ => by trivial) rfl ?_
  obtain ⟨g0, hg0⟩ : ∃ g0 : Int, (if decide (m % 2 = 1) = true then V.int (1 + m / 2 % 3) else .int b.grp) = .int g0 := by split <;> exact ⟨_, rfl⟩
  rw [hg0]
  have hk : decide (b.kd.s = "table") = decide (b.kd = .table) := by
    by_cases z : b.kd = .table
    · rw [decide_eq_true z, decide_eq_true (kd_table.mpr z)]
    · rw [decide_eq_false z, decide_eq_false (fun y => z (kd_table.mp y))]
  refine s_asg (v := .bl (tb || decide (b.kd = .table))) (by rw [← hk]; trivial) ?_
  refine s_ifAsg (b := tb || decide (b.kd = .table)) (v := .int 0) (old := .int g0) (by trivial) (fun _ => by trivial) rfl ?_
  obtain ⟨g, hgg, hg⟩ : ∃ g : Int, (if (tb || decide (b.kd = .table)) = true then V.int 0 else .int g0) = .int g ∧ (tb = true ∨ b.kd = .table → g = 0) := by
    by_cases z : (tb || decide (b.kd = .table)) = true
    · rw [if_pos z]; exact ⟨_, rfl, fun _ => rfl⟩
    · rw [if_neg z]
      refine ⟨_, rfl, fun y => absurd ?_ z⟩
      rcases y with y | y
      · rw [y]; rfl
      · rw [decide_eq_true y, Bool.or_true]
  rw [hgg]
  refine nst (σ' := [some (V.ref a), some (V.ref sa), some (V.int 1), some (V.bl (tb || decide (b.kd = .table))), some (V.str b.kd.s), some (V.str b.nm), some (V.ref o), some wh, some (V.ref p), some (V.int m), some (V.int g), none, none, none, none]) rfl ?_
  refine s_asgQ (opQ (x := .int (m / 6)) (by trivial) (pickL 2 2 (xs := [.int 40, .int 1000000]) (ev_cons ev_c (ev_cons (ev_op ev_c ev_c (rv_pow ⟨by decide, by decide, by decide⟩)) ev_nil)) rfl rfl (by decide) (by decide) (fun _ => by trivial) fun vm H2 hv e2 => ?_))
  obtain ⟨mm, rfl, hm0, hm1⟩ : ∃ mm : Int, vm = .int mm ∧ 0 < mm ∧ mm ≤ 1000000 := by
    simp only [List.mem_cons, List.not_mem_nil, or_false] at hv
    rcases hv with h | h <;> exact ⟨_, h, by decide, by decide⟩
  refine mod_go hm0 ?_
  have hl0 : 0 ≤ m / 6 % mm := Int.emod_nonneg _ (by omega)
  have hl1 : m / 6 % mm < mm := Int.emod_lt_of_pos _ hm0
  generalize m / 6 % mm = least at hl0 hl1 ⊢
  have g12 := e2 _ _ g11
  refine s_asgQ (tupC (consC (tup_go (xs := [.int least, .int 1000000]) (ev_cons (ev_var rfl) (ev_cons (ev_op ev_c ev_c (rv_pow ⟨by decide, by decide, by decide⟩)) ev_nil)) fun c H3 e3 _ hc => evA_go (xs := [v1, v2, v3, v4, .int g]) (by have g13 := e3 _ _ g12; trivial) (tup_end (xs := [.ref c, v1, v2, v3, v4, .int g]) fun o' H4 e4 _ ho => ?_))))
  have e5 := e1.trans (e2.trans (e3.trans e4))
  refine nst (σ' := [some (V.ref a), some (V.ref sa), some (V.int 1), some (V.bl (tb || decide (b.kd = .table))), some (V.str b.kd.s), some (V.str b.nm), some (V.ref o'), some wh, some (V.ref p), some (V.int m), some (V.int g), some (V.int least), none, none, none]) rfl ?_
  refine s_asgQ (lcT (xs := xs) (a := p) (ev_var rfl) (e5 _ _ h4) (fun D i H' => Ex H4 H' ∧ H4 D = none ∧ ∃ (acc : List V) (qs : List Tr), H' D = some (.lst acc) ∧ AllAt (TrAt H') acc qs ∧ qs.length = i ∧ ∀ (j : Nat) p q, ps[j]? = some p → qs[j]? = some q → Grp (tb || decide (b.kd = .table)) p q)
    (fun D H' e h1 h2 => ⟨e, h1, [], [], h2, .nil, rfl, fun j p q _ hq => by simp at hq⟩) (fun D i H' _ p => p.1 _ _ (e5 _ _ h4)) (fun D i x H' hx pr => ?_) fun D H5 pr => ?_)
  · obtain ⟨e6, hD, acc, qs, h6, ha, hl, hG⟩ := pr
    obtain ⟨u, hu, hxu⟩ := h5.get hx
    have hmem := List.mem_of_getElem? hu
    have hud : u.deep ≤ d := by have := deepL_le hmem; rw [Tr.deep] at hd; omega
    refine ⟨wipe1, yesC ?_⟩
    refine callQ (xs := [x, .ref sa, .int 1, .bl (tb || decide (b.kd = .table))]) (by trivial) ⟨sa, ns, x, u, _, rfl, (e5.trans e6).l hs, hxu.ex (e5.trans e6), hud, fun y hy => hn y (by rw [boxes_eq]; exact List.mem_cons_of_mem _ (mem_boxesL.mpr ⟨u, hmem, hy⟩)), fun H7 v' t' e7 hv' hG' => ?_⟩
    have hi := (List.getElem?_eq_some_iff.mp hx).1
    have hxl := h5.1
    have hal := ha.1
    have h7 := e7 _ _ h6
    refine ⟨acc, h7, szl (by omega), (e6.trans e7).mut hD, hD, acc ++ [v'], qs ++ [t'], upd_same, ?_, by simp [hl], fun j p q hp hq => ?_⟩
    · have tupk : ∀ {y : V} {w : Tr}, TrAt H7 y w → TrAt (upd H7 D (.lst (acc ++ [v']))) y w := fun h => h.exT fun a zs h => by rw [upd_ne (ne_of h h7 (fun z => by cases z))]; exact h
      exact AllAt.snoc (ha.mono fun _ _ _ z => tupk (z.ex e7)) (tupk hv')
    · by_cases hj : j < qs.length
      · rw [List.getElem?_append_left hj] at hq
        exact hG j p q hp hq
      · have hj2 : j = qs.length := by
          have := (List.getElem?_eq_some_iff.mp hq).1
          simp at this
          omega
        subst hj2
        simp at hq
        subst hq
        rw [hl, hu] at hp
        cases hp
        exact hG'
  · obtain ⟨e6, hD, acc, qs, h6, ha, hl, hG⟩ := pr
    refine nst (σ' := [some (V.ref a), some (V.ref sa), some (V.int 1), some (V.bl (tb || decide (b.kd = .table))), some (V.str b.kd.s), some (V.str b.nm), some (V.ref o'), some wh, some (V.ref p), some (V.int m), some (V.int g), some (V.int least), some (V.ref D), none, none]) rfl ?_
    refine retC (tupC (consQ (by trivial) (consQ (by trivial) (consQ (by trivial) (consQ (by trivial) (consC (cbC (evA_go (xs := [.ref D]) (by trivial) (tupOf_go h6 fun p' H7 e7 _ hp' => nilC (tup_end (xs := [.str b.kd.s, .str b.nm, .ref o', wh, .ref p']) fun t' H8 e8 _ ht' => ?_))))))))))
    have e9 := e6.trans (e7.trans e8)
    refine q _ _ (.mk { b with own := least, grp := g } qs) (e5.trans e9) ?_ (.mk hl0 (by omega) hg (by rw [hl, h5.1]) hG)
    refine .mk ht' ⟨c, _, _, _, _, _, e9 _ _ ho, (e4.trans e9) _ _ hc⟩ ?_ (e8 _ _ hp') ha.1 fun i v t hv ht => (ha.2 i v t hv ht).ex (e7.trans e8)
    have hw := h3.ex (e5.trans e9)
    exact hw
end

section
variable {K : PySem.W.Frag}
theorem abc_inj : ∀ i, i < 26 → ∀ j, j < 26 → abc.cps.toList.getD i 0 = abc.cps.toList.getD j 0 → i = j := by decide +kernel
theorem label_at (k : Nat) (c : Int) : (labelOf k c).cps.toList[(cutS (wordOf c) none (some (c % ((wordOf c).length + 1)))).cps.toList.length]? = some (abc.cps.toList.getD ((k + c) % 26).toNat 0) := by
  unfold labelOf
  rw [PySem.Str.append_assoc, PySem.Str.append_assoc, PySem.Str.cps_append, Array.toList_append, List.getElem?_append_right (Nat.le_refl _), Nat.sub_self, PySem.Str.cps_append, Array.toList_append]
  rfl
theorem label_inj {k k' : Nat} {c : Int} (h : k < 26) (h' : k' < 26) (e : labelOf k c = labelOf k' c) : k = k' := by
  have h1 := label_at k c
  rw [e, label_at k' c] at h1
  have h2 := abc_inj _ (by omega) _ (by omega) (Option.some.inj h1)
  omega
theorem label_len (k : Nat) (c : Int) : (labelOf k c).length ≤ 100 ∧ 2 ≤ (labelOf k c).length := by
  have c1 := cutS_length (wordOf c) none (some (c % ((wordOf c).length + 1)))
  have c2 := cutS_length (wordOf c) (some (c % ((wordOf c).length + 1))) none
  have hw : (wordOf c).length = (word0 c % 6).toNat := word_len c _
  have hm : word0 c % 6 < 6 := by omega
  unfold labelOf
  rw [PySem.Str.length_append, PySem.Str.length_append, PySem.Str.length_append, letter_len, letter_len]
  omega
theorem label_ne (k : Nat) (c : Int) : labelOf k c ≠ "" := fun e => by
  have := (label_len k c).2
  rw [e] at this
  revert this
  decide
/-- zip(range(n), list), turn by turn -/
theorem walk_zipRL {b : Addr} {n : Nat} {ys : List V} (hn : ys.length = n) :
    Walk ⟨fun i H => i < min n ys.length ∧ SqL K H b ys, fun i H v H' => ∃ T z, v = .ref T ∧ H T = none ∧ H' = upd H T (.tup [.int (i : Nat), z]) ∧ ys[i]? = some z, fun i H => min n ys.length ≤ i ∧ SqL K H b ys⟩ n (fun H => SqL K H b ys)
      (fun i H v H' => ∃ T z, v = .ref T ∧ H T = none ∧ H' = upd H T (.tup [.int (i : Nat), z]) ∧ ys[i]? = some z) :=
  ⟨fun i H hi q => ⟨by omega, q⟩, fun H q => ⟨by omega, q⟩, fun i H x H' _ _ y => y⟩
abbrev ItZ (K : PySem.W.Frag) (n : Nat) (b : Addr) (ys : List V) : It := ⟨fun i H => i < min n ys.length ∧ SqL K H b ys, fun i H v H' => ∃ T z, v = .ref T ∧ H T = none ∧ H' = upd H T (.tup [.int (i : Nat), z]) ∧ ys[i]? = some z, fun i H => min n ys.length ≤ i ∧ SqL K H b ys⟩
def ZipK (K : PySem.W.Frag) (n : Int) (g : TG) (tb : TS) (D : Ends) (σ : L2.St) (y : V) (H1 : Hp) : Prop := ∃ (b : Addr) (ys : List V), y = .ref b ∧ SqL K H1 b ys ∧
  ∃ W : Nat → Nat → L2.St → Hp → Prop, (∃ m, W 0 m σ H1) ∧ ∀ i m σ H, W i m σ H →
  ((ItZ K n.toNat b ys).stop i H ∧ D.nx σ H) ∨ ((ItZ K n.toNat b ys).go i H ∧ ∃ N : L2.St → Hp → Prop, (∀ σ' H', N σ' H' → ∃ m', m' < m ∧ W (i + 1) m' σ' H') ∧ ∀ x H', (ItZ K n.toNat b ys).yld i H x H' → g x σ H' fun σ2 H2 => tb { D with nx := N, ct := N, bk := D.nx } σ2 H2)
theorem forZC {tn ta : TE} {σ : L2.St} {H : Hp} {n : Int} {g : TG} {tb : TS} {D : Ends} (hn : Ev tn σ H (.int n)) (h0 : 0 ≤ n) (h1 : n < 2 ^ 62) (h : ta σ H (ZipK K n g tb D σ)) : tFor (iZipRL K tn ta) g tb D σ H := hn _ ⟨n, rfl, h0, h1, h⟩
theorem zip_end {σ : L2.St} {H : Hp} {n : Int} {m : Nat} {g : TG} {tb : TS} {D : Ends} {b : Addr} {ys : List V} (hb : H b = some (.lst ys)) (hm : n = (m : Int)) (hm2 : m ≤ 100000) (hl : ys.length = m) (Pv : Nat → L2.St → Hp → Prop) (h0 : Pv 0 σ H) (hG : ∀ i σ H, i ≤ m → Pv i σ H → H b = some (.lst ys))
    (hs : ∀ (i : Nat) z T σ H H', i < m → Pv i σ H → H T = none → Ex H H' → H' T = some (.tup [.int (i : Nat), z]) → ys[i]? = some z → g (.ref T) σ H' fun σ2 H2 => tb { D with nx := Pv (i + 1), ct := Pv (i + 1), bk := D.nx } σ2 H2) (hd : ∀ σ H, Pv m σ H → D.nx σ H) : ZipK K n g tb D σ (.ref b) H := by
  subst hm
  refine ⟨b, ys, rfl, SqL.of hb, ?_⟩
  rw [Int.toNat_natCast]
  refine for_it (walk_zipRL hl) Pv h0 (fun i σ H hi p => SqL.of (hG i σ H hi p)) (fun i x σ H H' hi p y => ?_) hd
  obtain ⟨T, z, rfl, hT, rfl, hz⟩ := y
  exact hs i z T σ H _ hi p hT (Ex.new hT) upd_same hz
theorem rd_law_tree : ∀ vs H Q E, sp_law_tree K vs H Q E → r_law_tree K { nx := fun _ H' => Q .non H', rt := Q } (start ["_law_script", "_law_first", "_law_many", "_law_stack", "_law_cell", "_law_k", "_law_n", "_law_kind", "_law_one"] vs) H := by
  rintro vs H Q E ⟨a, ns, rfl, hs, q⟩
  refine s_asgQ (lst_go (by trivial) fun st0 H1 e1 _ h1 => ?_)
  refine s_asg (ev_at (a := a) (ns := ns) (k := 18) (ev_cons (ev_var rfl) (ev_cons (ev_op (ev_var rfl) (ev_var rfl) rv_add) ev_nil)) (e1.l hs)) ?_
  generalize atS ns 18 = c
  refine seqC (forZC (n := 16) (ev_var rfl) (by decide) (by decide) (callQ (xs := [.ref a, .int 2, .int 16, .int 1000000000000000000]) (ev_cons (ev_var rfl) (ev_cons (ev_var rfl) (ev_cons (ev_var rfl) (ev_cons (ev_op ev_c ev_c (rv_pow ⟨by decide, by decide, by decide⟩)) ev_nil)))) ⟨a, ns, 2, 16, rfl, e1.l hs, by decide, fun H2 b ms e2 hb hml => ?_⟩))
  refine zip_end (m := 16) hb rfl (by decide) (by rw [List.length_map]; exact hml)
    (fun i σ H' => ∃ (st : Addr) (xs : List V) (ts : List Tr) (o5 o6 : Option V), σ = [some (.ref a), some (.int 2), some (.int 16), some (.ref st), some (.int c), o5, o6, none, none] ∧ Ex H2 H' ∧ H' st = some (.lst xs) ∧ AllAt (StAt H') xs ts ∧ StkOk ts i ∧ ((boxesL ts).map Tr.nm).Perm ((List.range i).map fun k => labelOf k c))
    ⟨st0, [], [], none, none, rfl, Ex.refl _, e2 _ _ h1, .nil, ⟨(fun t ht => by cases ht), rfl, by simp⟩, by simp [boxesL]⟩ (fun i σ H' _ p => let ⟨_, _, _, _, _, _, e, _⟩ := p; e _ _ hb) (fun i z T σ H3 H5 hi p hT e5 h5 hz => ?_) fun σ H3 p => ?_
  · obtain ⟨st, xs, ts, o5, o6, rfl, e3, h3, ha, hok, hp⟩ := p
    rw [List.getElem?_map] at hz
    obtain ⟨n, hn, rfl⟩ := Option.map_eq_some_iff.mp hz
    refine gT h5 rfl (g2 ?_)
    refine e_asgQ (callQ (xs := [.ref st, .int n, .str (labelOf i c)]) (ev_cons (ev_var rfl) (ev_cons (ev_var rfl) (ev_cons (ev_call (xs := [.int (i : Nat), .int c]) (by trivial) fun Q q => ⟨i, c, rfl, by omega, q⟩) ev_nil))) ⟨st, n, _, xs, ts, i, rfl, e5 _ _ h3, ha.mono fun _ _ _ z => z.ex e5, hok, by omega, fun H6 p ys us e6 h6 ha6 hok6 hp6 => ?_⟩)
    refine ⟨p, ys, us, _, _, rfl, e3.trans (e5.trans e6), h6, ha6, hok6, hp6.trans ?_⟩
    rw [List.range_succ, List.map_append]
    exact hp.append_right _
  · obtain ⟨st, xs, ts, o5, o6, rfl, e3, h3, ha, hok, hp⟩ := p
    have e4 := e1.trans (e2.trans e3)
    have hxl := ha.1
    have nodup : ∀ n, n ≤ 17 → ((List.range n).map fun k => labelOf k c).Nodup := fun n hn => by
      refine List.pairwise_map.mpr (List.Pairwise.imp_of_mem (fun {x y} hx hy hxy e => hxy ?_) (List.nodup_range (n := n)))
      have := List.mem_range.mp hx
      have := List.mem_range.mp hy
      exact label_inj (by omega) (by omega) e
    dsimp only
    refine nst (σ' := [some (V.ref a), some (.int 2), some (.int 16), some (.ref st), some (.int c), o5, o6, none, none]) rfl ?_
    refine s_ifN (b := decide ((xs.length : Int) = 1)) (by trivial) (fun h => ?_) (fun h => ?_)
    · have h1 : xs.length = 1 := by have := of_decide_eq_true h; omega
      obtain ⟨x, rfl⟩ := List.length_eq_one_iff.mp h1
      obtain ⟨t, rfl⟩ := List.length_eq_one_iff.mp (hxl ▸ h1 : ts.length = 1)
      obtain ⟨aa, y, g, rfl, g1, g2⟩ := ha.2 0 x t rfl rfl
      refine e_ret (v := y) (by trivial) (q _ _ t e4 g2 ⟨(hok.wf t List.mem_cons_self).1, by have := (hok.wf t List.mem_cons_self).2; omega, ?_, ?_, ?_⟩)
      · have := hok.many; simp [boxesL] at this; omega
      · have := (hp.nodup_iff).mpr (nodup 16 (by decide)); simpa [boxesL] using this
      · intro u hu
        have : u.nm ∈ (List.range 16).map fun k => labelOf k c := hp.mem_iff.mp (by simp [boxesL]; exact ⟨u, hu, rfl⟩)
        obtain ⟨k, _, e⟩ := List.mem_map.mp this
        rw [← e]
        exact ⟨label_ne k c, (label_len k c).1⟩
    · refine s_asg (ev_op (ev_op (ev_mixed (ev_cons (ev_var rfl) ev_nil)) ev_c (rv_mul (.inr ⟨by decide, by decide⟩))) (ev_mixed (ev_cons (ev_op (ev_var rfl) ev_c rv_add) ev_nil)) rv_add) ?_
      generalize mixF c * 1000000000039 + mixF (c + 1) = n
      refine s_asgQ (pickL 3 3 (by trivial) rfl rfl (by decide) (by decide) (fun _ => by trivial) fun v H5 hv e5 => ?_)
      obtain ⟨kd, rfl, hkd, hkt⟩ : ∃ kd : Kd, v = .str kd.s ∧ kd ≠ .leaf ∧ kd ≠ .table := by
        simp only [List.mem_cons, List.not_mem_nil, or_false] at hv
        rcases hv with h | h | h
        · exact ⟨.row, h, by decide, by decide⟩
        · exact ⟨.col, h, by decide, by decide⟩
        · exact ⟨.wrap, h, by decide, by decide⟩
      obtain ⟨fs, hfs, hfl⟩ := stk_trees xs ts ha
      have hfew := hok.few
      refine retC (callC (consQ (by trivial) (consQ (x := .str (labelOf 16 c)) (ev_call (xs := [.int 16, .int c]) (by trivial) fun Q q => ⟨16, c, rfl, by decide, q⟩) (consQ (by trivial) (consC (lcLq (f := fs) (ev_var rfl) (e5 _ _ h3) (by rw [hfs.1, hxl]) (by omega) (fun i x H' e hx y hy => ?_) fun D3 H6 e6 _ hD3 => consQ ev_c (nilC ⟨kd, labelOf 16 c, n, D3, false, fs, ts, rfl, hkd, hD3, hfs.mono fun _ _ _ z => z.ex (e5.trans e6), by omega, fun H7 v b e7 hbk hbn hw ht => q _ _ _ (e4.trans (e5.trans (e6.trans e7))) ht ⟨Wf.mk hw fun t ht => (hok.wf t ht).1, ?_, ?_, ?_, ?_⟩⟩)))))))
      · obtain ⟨aa, d, g, y', rfl, h1, h2⟩ := hfl i x hx
        have h1 := (e5.trans e) _ _ h1
        rw [h2] at hy
        cases hy
        trivial
      · rw [Tr.deep]
        have : deepL ts ≤ 5 := by
          have key : ∀ l : List Tr, (∀ t ∈ l, t.deep ≤ 5) → deepL l ≤ 5 := fun l => by
            induction l with
            | nil => intro _; simp [deepL]
            | cons a r ih => intro h; rw [deepL]; have := h a List.mem_cons_self; have := ih fun p hp => h p (List.mem_cons_of_mem _ hp); omega
          exact key ts fun t ht => (hok.wf t ht).2
        omega
      · rw [Tr.boxes, List.length_cons, hok.many]; decide
      · rw [Tr.boxes, List.map_cons]
        have hp2 : ((Tr.mk b ts).nm :: (boxesL ts).map Tr.nm).Perm ((List.range 17).map fun k => labelOf k c) := by
          rw [List.range_succ, List.map_append, show (Tr.mk b ts).nm = labelOf 16 c from hbn]
          exact (List.Perm.cons _ hp).trans (List.perm_append_singleton _ _).symm
        exact hp2.nodup_iff.mpr (nodup 17 (by decide))
      · intro u hu
        rw [Tr.boxes] at hu
        have : u.nm ∈ (List.range 17).map fun k => labelOf k c := by
          rw [List.range_succ, List.map_append]
          rcases List.mem_cons.mp hu with e | hu
          · rw [e, show (Tr.mk b ts).nm = labelOf 16 c from hbn]
            exact List.mem_append_right _ (by simp)
          · exact List.mem_append_left _ (hp.mem_iff.mp (List.mem_map.mpr ⟨u, hu, rfl⟩))
        obtain ⟨k, _, e⟩ := List.mem_map.mp this
        rw [← e]
        exact ⟨label_ne k c, (label_len k c).1⟩
end

section
variable {K : PySem.W.Frag}
theorem TakeAt.ex {H H' : Hp} {d : Addr} {tk : List (Int × Int)} (e : Ex H H') (h : TakeAt H d tk) : TakeAt H' d tk := let ⟨k, h1, h2⟩ := h; ⟨k, e _ _ h1, h2⟩
theorem rd_is_open : ∀ vs H Q E, sp_is_open K vs H Q E → r_is_open K { nx := fun _ H' => Q .non H', rt := Q } (start ["taken", "row", "column", "span", "there", "at"] vs) H := by
  rintro vs H Q E ⟨d, s, r, c, sp, tk, rfl, ht, hs, ⟨b1, b2, b3, b4, b5, b6⟩, q⟩
  refine seqC (forR2 (lo := r) (hi := r + (sp.2 : Int)) (k := sp.2) (ev_cons (ev_var rfl) (ev_cons (by trivial) ev_nil)) rfl (by omega) (by omega) (by omega)
    (fun i σ H' => ∃ o4 o5, σ = [some (.ref d), some (.int r), some (.int c), some (.ref s), o4, o5] ∧ Ex H H' ∧ ∀ i', i' < i → (List.range sp.1).all (fun j => !decide ((r + (i' : Nat), c + (j : Nat)) ∈ tk)) = true) ⟨none, none, rfl, Ex.refl _, fun i' h => absurd h (Nat.not_lt_zero _)⟩ (fun i σ H1 hi p => ?_) fun σ H1 p => ?_)
  · obtain ⟨o4, o5, rfl, e1, hall⟩ := p
    have hs1 := e1 _ _ hs
    refine forR2 (lo := c) (hi := c + (sp.1 : Int)) (k := sp.1) (ev_cons (ev_var rfl) (ev_cons (by trivial) ev_nil)) rfl (by omega) (by omega) (by omega)
      (fun j σ H' => ∃ o5, σ = [some (.ref d), some (.int r), some (.int c), some (.ref s), some (.int (r + (i : Nat))), o5] ∧ Ex H H' ∧ ∀ j', j' < j → ¬ (r + (i : Nat), c + ((j' : Nat) : Int)) ∈ tk) ⟨o5, rfl, e1, fun j' h => absurd h (Nat.not_lt_zero _)⟩ (fun j σ H2 hj p => ?_) fun σ H2 p => ?_
    · obtain ⟨o5, rfl, e2, hno⟩ := p
      obtain ⟨kvs, hk, hkl, hkv⟩ := ht.ex e2
      refine gN (ifC (bC (dinC (tup_go (xs := [.int (r + (i : Nat)), .int (c + (j : Nat))]) (by trivial) fun t H3 e3 _ h3 => din_end (ev_var rfl) (DGet.t (k := [.inl (r + (i : Nat)), .inl (c + (j : Nat))]) (e3 _ _ hk) h3) (b_end ?_)))))
      rw [hkv]
      by_cases hm : (r + ((i : Nat) : Int), c + ((j : Nat) : Int)) ∈ tk
      · rw [decide_eq_true hm]
        refine if_end (fun _ => ?_) (fun z => by cases z)
        refine e_ret ev_c ?_
        have : openB tk r c sp = false := by
          unfold openB
          refine List.all_eq_false.mpr ⟨i, List.mem_range.mpr hi, ?_⟩
          intro z
          have := List.all_eq_true.mp z j (List.mem_range.mpr hj)
          rw [decide_eq_true hm] at this
          cases this
        rw [← this]
        exact q _ (e2.trans e3)
      · rw [decide_eq_false hm]
        refine if_end (fun z => by cases z) (fun _ => ?_)
        refine ⟨_, rfl, e2.trans e3, fun j' hj' => ?_⟩
        by_cases e : j' = j
        · subst e; exact hm
        · exact hno j' (by omega)
    · obtain ⟨o5, rfl, e2, hno⟩ := p
      refine ⟨_, _, rfl, e2, fun i' hi' => ?_⟩
      by_cases e : i' = i
      · subst e
        refine List.all_eq_true.mpr fun j hj => ?_
        rw [decide_eq_false (hno j (List.mem_range.mp hj))] <;> rfl
      · exact hall i' (by omega)
  · obtain ⟨o4, o5, rfl, e1, hall⟩ := p
    have : openB tk r c sp = true := List.all_eq_true.mpr fun i hi => hall i (List.mem_range.mp hi)
    refine nxC (e_ret ev_c ?_)
    rw [← this]
    exact q _ e1
theorem rd_cells_at : ∀ vs H Q E, sp_cells_at K vs H Q E → r_cells_at K { nx := fun _ H' => Q .non H', rt := Q } (start ["row", "column", "span", "k"] vs) H := by
  rintro vs H Q E ⟨s, r, c, sp, rfl, hs, b1, b2, b3, q⟩
  have hmul : sp.1 * sp.2 ≤ 100 * 100 := Nat.mul_le_mul b2 b3
  refine retC (lcR (k := sp.1 * sp.2) (ev_cons (ev_op (by trivial) (by trivial) (rv_mul (i := (sp.1 : Int)) (j := (sp.2 : Int)) (.inl ⟨by omega, by omega⟩))) ev_nil) (by omega)
    (fun D i H' => Ex H H' ∧ H D = none ∧ ∃ acc, H' D = some (.lst acc) ∧ acc.length = i ∧ AllAt (CellAt2 H') acc ((cellsAt r c sp).take i)) (fun D H' e h1 h2 => ⟨e, h1, [], h2, rfl, by simpa using AllAt.nil⟩) (fun D i H' hi p => ?_) fun D H' p => ?_)
  · obtain ⟨e, hD, acc, ha, hl, hc⟩ := p
    have hs' := e _ _ hs
    have hm : 0 < (sp.1 : Int) := by omega
    refine ⟨wipe1, yesC ?_⟩
    refine tup_go (xs := [.int (r + (i : Nat) / (sp.1 : Int)), .int (c + (i : Nat) % (sp.1 : Int))]) (ev_cons (ev_op (ev_var rfl) (ev_op (ev_var rfl) (by trivial) (rv_fdiv ⟨hm, by
      have : (sp.1 : Int).natAbs.log2 < 9000 := by
        rw [Int.natAbs_natCast]
        exact Nat.lt_of_le_of_lt (Nat.log2_le_self _) (by omega)
      exact this⟩)) rv_add) (ev_cons (ev_op (ev_var rfl) (ev_op (ev_var rfl) (by trivial) (rv_mod hm)) rv_add) ev_nil)) fun t H1 e1 ht h1 => ?_
    refine ⟨acc, e1 _ _ ha, szl (by omega), (e.trans e1).mut hD, hD, acc ++ [.ref t], upd_same, by simp [hl], ?_⟩
    have hci : (cellsAt r c sp)[i]? = some (r + ((i / sp.1 : Nat) : Int), c + ((i % sp.1 : Nat) : Int)) := by
      unfold cellsAt
      rw [List.getElem?_map, List.getElem?_range hi] <;> rfl
    rw [List.take_add_one, hci]
    have keep : ∀ {v : V} {x : Int × Int}, CellAt2 H1 v x → CellAt2 (upd H1 D (.lst (acc ++ [.ref t]))) v x := fun ⟨a, e2, h2⟩ => ⟨a, e2, by rw [upd_ne (ne_of h2 (e1 _ _ ha) (fun z => by cases z))]; exact h2⟩
    refine AllAt.snoc (hc.mono fun _ _ _ z => keep (z.ex e1)) (keep ⟨t, rfl, ?_⟩)
    rw [h1]
    simp
  · obtain ⟨e, hD, acc, ha, hl, hc⟩ := p
    refine q _ _ acc e ha ?_
    have : (cellsAt r c sp).length = sp.1 * sp.2 := by unfold cellsAt; simp
    rwa [← this, List.take_length] at hc
/-! putting -/
theorem topRow_app (a b : List (Int × Int)) : topRow (a ++ b) = max (topRow a) (topRow b) := by
  induction a with
  | nil => simp [topRow]
  | cons x r ih => rw [List.cons_append, topRow, topRow, ih]; omega
theorem topRow_cells {r c : Nat} {sp : Nat × Nat} (h1 : 1 ≤ sp.1) : topRow (cellsAt (r : Int) (c : Int) sp) ≤ r + sp.2 := by
  have key : ∀ l : List (Int × Int), (∀ x ∈ l, x.1.toNat + 1 ≤ r + sp.2) → topRow l ≤ r + sp.2 := fun l => by
    induction l with
    | nil => intro _; simp [topRow]
    | cons x l ih => intro h; rw [topRow]; have := h x List.mem_cons_self; have := ih fun y hy => h y (List.mem_cons_of_mem _ hy); omega
  refine key _ fun x hx => ?_
  unfold cellsAt at hx
  obtain ⟨k, hk, rfl⟩ := List.mem_map.mp hx
  have hk := List.mem_range.mp hk
  have : k / sp.1 < sp.2 := Nat.div_lt_of_lt_mul hk
  simp only
  generalize k / sp.1 = m at this ⊢
  omega
theorem take_put {H : Hp} {d : Addr} {tk : List (Int × Int)} {r c : Int} {v : V} {kvs : List (List Key × V)} (hk : ∀ r c : Int, (valV kvs [.inl r, .inl c]).isSome = decide ((r, c) ∈ tk)) (r' c' : Int) :
    (valV (putK kvs [.inl r, .inl c] v) [.inl r', .inl c']).isSome = decide ((r', c') ∈ tk ++ [(r, c)]) := by
  rw [valV_put]
  by_cases e : ([Sum.inl r', Sum.inl c'] : List Key) = [.inl r, .inl c]
  · rw [if_pos e]
    injection e with e1 e2
    injection e2 with e2 _
    cases e1
    cases e2
    simp
  · rw [if_neg e, hk]
    have : ¬ (r', c') = (r, c) := fun z => e (by cases z; rfl)
    simp [List.mem_append, this]
theorem rd_put_cells : ∀ vs H Q E, sp_put_cells K vs H Q E → r_put_cells K { nx := fun _ H' => Q .non H', rt := Q } (start ["columns", "spans", "taken", "found", "span", "at", "cell"] vs) H := by
  rintro vs H Q E ⟨cols, s, ss, sps, rfl, hs, hss, c1, c4, hn, hsp, q⟩
  refine s_asgQ (newT_go fun d H1 e1 hd h1 => ?_)
  refine s_asgQ (lst_go (by trivial) fun p H2 e2 hp h2 => ?_)
  have hdp : d ≠ p := ne_of_none h1 hp
  have hlen := hss.1
  have hpn : H p = none := e1.free hp
  refine seqC (forL (xs := ss) (ev_var rfl) ((e1.trans e2) _ _ hs)
    (fun i σ H' => ∃ (o4 o5 o6 : Option V) (fs : List V), σ = [some (.int cols), some (.ref s), some (.ref d), some (.ref p), o4, o5, o6] ∧ Ex H H' ∧ TakeAt H' d ((sps.take i).foldl (putStep cols) ([], [])).1 ∧ H' p = some (.lst fs) ∧ AllAt (PairAt H') fs ((sps.take i).foldl (putStep cols) ([], [])).2 ∧ fs.length = i ∧
      topRow ((sps.take i).foldl (putStep cols) ([], [])).1 ≤ 2 * i ∧ (∀ kvs, H' d = some (.dT kvs) → kvs.length ≤ 8 * i))
    ⟨none, none, none, [], rfl, e1.trans e2, ⟨[], e2 _ _ h1, by simp, fun r c => rfl⟩, h2, by simpa using AllAt.nil, rfl, by simp [topRow], fun kvs h => by rw [e2 _ _ h1] at h; cases h; simp⟩
    (fun i σ H' _ p => let ⟨_, _, _, _, _, e, _⟩ := p; e _ _ hs) (fun i x σ H3 hx p => ?_) fun σ H3 p => ?_)
  · obtain ⟨o4, o5, o6, fs, rfl, e3, h3, h4, ha, hl, htr, hkl⟩ := p
    obtain ⟨sp, hspi, st, rfl, hst⟩ := hss.get hx
    have hmem := List.mem_of_getElem? hspi
    obtain ⟨w1, w2, w3, w4⟩ := hsp sp hmem
    have hi := (List.getElem?_eq_some_iff.mp hx).1
    generalize hS : (sps.take i).foldl (putStep cols) ([], []) = S at h3 ha htr
    obtain ⟨p1, p2, p3⟩ := place_spec S.1 c1 w2
    have pb : placeOf cols S.1 sp ≤ 200 := by
      have : topRow S.1 * cols ≤ 34 * 4 := Nat.mul_le_mul (by omega) c4
      omega
    have hcp : 0 < (cols : Int) := by omega
    have hcd : CDivW 0 (cols : Int) := ⟨hcp, by rw [Int.natAbs_natCast]; exact Nat.lt_of_le_of_lt (Nat.log2_le_self _) (by omega)⟩
    have hst3 := e3 _ _ hst
    refine s_asg ev_c ?_
    refine seqC ⟨fun n σ H' => ∃ at_ : Nat, at_ ≤ placeOf cols S.1 sp ∧ n = placeOf cols S.1 sp - at_ ∧ σ = [some (.int cols), some (.ref s), some (.ref d), some (.ref p), some (.ref st), some (.int at_), o6] ∧ Ex H3 H', ⟨_, 0, Nat.zero_le _, rfl, rfl, Ex.refl _⟩, ?_⟩
    rintro n σ H4 ⟨at_, hat, rfl, rfl, e4⟩
    have hst4 := e4 _ _ hst3
    have hmod : ((at_ : Nat) : Int) % (cols : Int) = ((at_ % cols : Nat) : Int) := by simp
    have hdiv : ((at_ : Nat) : Int) / (cols : Int) = ((at_ / cols : Nat) : Int) := by simp
    have hm5 : at_ / cols ≤ 200 := Nat.le_trans (Nat.div_le_self _ _) (by omega)
    have hm6 : at_ % cols < cols := Nat.mod_lt _ (by omega)
    have hb1 : ((at_ / cols : Nat) : Int) < 100000 := Int.ofNat_lt.mpr (Nat.lt_of_le_of_lt hm5 (by decide))
    have hb2 : ((at_ % cols : Nat) : Int) < 100000 := Int.ofNat_lt.mpr (show at_ % cols < 100000 from Nat.lt_of_lt_of_le hm6 (by omega))
    -- what the test tells
    have test : ∀ Qb : Bool → Hp → Prop, (∀ H', Ex H4 H' → Qb (!goodAt cols S.1 sp at_) H') → tOr (tTest (tOp qGt (tOp qAdd (tOp qMod (tVar 5) (tVar 0)) (tOp (rIxT K) (tVar 4) (tC (.int 0)))) (tVar 0))) (tNot (tB (tCallR (sp_is_open K) E0 (tCons (tVar 2) (tCons (tOp qFdiv (tVar 5) (tVar 0)) (tCons (tOp qMod (tVar 5) (tVar 0)) (tCons (tVar 4) tNil))))))) [some (.int cols), some (.ref s), some (.ref d), some (.ref p), some (.ref st), some (.int at_), o6] H4 Qb := fun Qb hq => by
      refine evt_test (b := decide ((cols : Int) < ((at_ % cols : Nat) : Int) + (sp.1 : Nat))) (ev_op (ev_op (ev_op (x := .int at_) (y := .int cols) (ev_var rfl) (ev_var rfl) (by rw [← hmod]; exact rv_mod hcp)) (by trivial) rv_add) (ev_var rfl) rv_gt) _ ?_
      by_cases hg : (cols : Int) < ((at_ % cols : Nat) : Int) + (sp.1 : Nat)
      · rw [decide_eq_true hg, if_pos rfl]
        have : goodAt cols S.1 sp at_ = false := by
          unfold goodAt
          rw [decide_eq_false (by omega), Bool.false_and]
        have := hq H4 (Ex.refl _)
        rwa [‹goodAt cols S.1 sp at_ = false›] at this
      · rw [decide_eq_false hg, if_neg (by decide)]
        refine (callQ (xs := [.ref d, .int ((at_ / cols : Nat) : Int), .int ((at_ % cols : Nat) : Int), .ref st]) (ev_cons (ev_var rfl) (ev_cons (ev_op (x := .int at_) (y := .int cols) (ev_var rfl) (ev_var rfl) (by rw [← hdiv]; exact rv_fdiv hcd)) (ev_cons (ev_op (x := .int at_) (y := .int cols) (ev_var rfl) (ev_var rfl) (by rw [← hmod]; exact rv_mod hcp)) (ev_cons (ev_var rfl) ev_nil)))) ⟨d, st, _, _, sp, S.1, rfl, h3.ex e4, hst4, ⟨Int.natCast_nonneg _, hb1, Int.natCast_nonneg _, hb2, by omega, by omega⟩, fun H5 e5 => ⟨_, rfl, ?_⟩⟩)
        have : goodAt cols S.1 sp at_ = openB S.1 ((at_ / cols : Nat) : Int) ((at_ % cols : Nat) : Int) sp := by
          unfold goodAt
          rw [decide_eq_true (by omega), Bool.true_and]
        have h := hq H5 e5
        rwa [this] at h
    refine test _ fun H5 e5 => ?_
    by_cases hg : goodAt cols S.1 sp at_ = true
    · -- the place
      rw [hg, if_neg (by decide)]
      have hpl : at_ = placeOf cols S.1 sp := by
        refine Nat.le_antisymm hat (Nat.le_of_not_lt fun z => ?_)
        rw [p3 at_ z] at hg
        cases hg
      have e6 := e4.trans e5
      have hst5 := e6 _ _ hst3
      refine nxC ?_
      have argR : ∀ H', Ev (tOp qFdiv (tVar 5) (tVar 0)) [some (.int cols), some (.ref s), some (.ref d), some (.ref p), some (.ref st), some (.int at_), o6] H' (.int ((at_ / cols : Nat) : Int)) := fun H' => ev_op (x := .int at_) (y := .int cols) (ev_var rfl) (ev_var rfl) (by rw [← hdiv]; exact rv_fdiv hcd)
      have argC : ∀ H', Ev (tOp qMod (tVar 5) (tVar 0)) [some (.int cols), some (.ref s), some (.ref d), some (.ref p), some (.ref st), some (.int at_), o6] H' (.int ((at_ % cols : Nat) : Int)) := fun H' => ev_op (x := .int at_) (y := .int cols) (ev_var rfl) (ev_var rfl) (by rw [← hmod]; exact rv_mod hcp)
      refine seqC (forLC (callQ (xs := [.int ((at_ / cols : Nat) : Int), .int ((at_ % cols : Nat) : Int), .ref st]) (ev_cons (argR _) (ev_cons (argC _) (ev_cons (ev_var rfl) ev_nil))) ⟨st, _, _, sp, rfl, hst5, w1, by omega, by omega, fun H6 cl cs e7 h7 h8 => ?_⟩))
      have hcl : (cellsAt ((at_ / cols : Nat) : Int) ((at_ % cols : Nat) : Int) sp).length = sp.1 * sp.2 := by unfold cellsAt; simp
      have hc8 : sp.1 * sp.2 ≤ 4 * 2 := Nat.mul_le_mul (by omega) w4
      obtain ⟨kv0, hkv0, hkl0, hkt0⟩ := h3.ex (e6.trans e7)
      have hkl1 := hkl kv0 (by
        obtain ⟨kv1, q1, _⟩ := h3
        have := (e6.trans e7) _ _ q1
        rw [hkv0] at this
        cases this
        exact q1)
      have e8 := e6.trans e7
      have hclp : H3 cl = none ∨ cl ≠ d := .inr (ne_of h7 hkv0 (fun z => by cases z))
      have hcld : cl ≠ d := ne_of h7 hkv0 (fun z => by cases z)
      refine for_end h7 (fun j σ H' => ∃ (o6 : Option V) (kvs : List (List Key × V)), σ = [some (.int cols), some (.ref s), some (.ref d), some (.ref p), some (.ref st), some (.int at_), o6] ∧ ExB [d] H6 H' ∧ H' d = some (.dT kvs) ∧ kvs.length ≤ kv0.length + j ∧ ∀ r c : Int, (valV kvs [.inl r, .inl c]).isSome = decide ((r, c) ∈ S.1 ++ (cellsAt ((at_ / cols : Nat) : Int) ((at_ % cols : Nat) : Int) sp).take j))
        ⟨o6, kv0, rfl, ExB.refl _, hkv0, by omega, by simpa using hkt0⟩ (fun j σ H' _ p => let ⟨_, _, _, e, _⟩ := p; e _ _ (by simpa using hcld) h7) (fun j x σ H7 hx p => ?_) fun σ H7 p => ?_
      · obtain ⟨o6', kvs, rfl, e9, h9, hl9, hk9⟩ := p
        obtain ⟨cc, hcc, t, rfl, ht⟩ := h8.get hx
        have hj : j < 8 := by
          have := (List.getElem?_eq_some_iff.mp hcc).1
          omega
        have ht7 : H7 t = some (.tup [.int cc.1, .int cc.2]) := e9 _ _ (by simpa using ne_of ht hkv0 (fun z => by cases z)) ht
        refine gN (ev_c _ (Ev.go (v := .ref d) (ev_var rfl) (Ev.go (v := .ref t) (ev_var rfl) ⟨d, _, rfl, DPut.t (k := [.inl cc.1, .inl cc.2]) h9 ht7 (szl (by omega)), _, putK kvs [.inl cc.1, .inl cc.2] (.bl true), rfl, e9.put (by simp), upd_same, ?_, ?_⟩)))
        · have := length_putK kvs [.inl cc.1, .inl cc.2] (V.bl true)
          omega
        · intro r' c'
          rw [List.take_add_one, hcc, ← List.append_assoc]
          exact take_put (H := H7) (d := d) hk9 r' c'
      · obtain ⟨o6', kvs, rfl, e9, h9, hl9, hk9⟩ := p
        rw [h8.1, List.take_length] at hk9
        have hpp : H6 p = some (.lst fs) := e8 _ _ h4
        have hp7 : H7 p = some (.lst fs) := e9 _ _ (by simpa using hdp.symm) hpp
        refine nxC (dropC (Ev.go (v := .ref p) (ev_var rfl) ⟨.inl ⟨rfl, _, SqL.of hp7⟩, consC (tup_go (xs := [.int ((at_ / cols : Nat) : Int), .int ((at_ % cols : Nat) : Int)]) (ev_cons (argR _) (ev_cons (argC _) ev_nil)) fun t H8 e10 hnt h10 => nilC ⟨p, fs, _, rfl, rfl, e10 _ _ hp7, szl (by omega), ?_⟩)⟩))
        have hE : Ex H H7 := (e3.trans e8).trans (Ex.refl _) |>.trans (Ex.refl _) |> fun e => ExB.fresh e e9 (fun x hx => by rw [List.mem_singleton.mp hx]; exact hd)
        have hpt : t ≠ p := (ne_of_none hp7 hnt).symm
        have e11 : ExB [d] H3 H8 := (e8.b.trans e9).trans e10.b
        have step : (sps.take (i + 1)).foldl (putStep cols) ([], []) = putStep cols S sp := by
          rw [List.take_add_one, hspi, List.foldl_append, hS] <;> rfl
        refine ⟨_, _, _, fs ++ [.ref t], rfl, (hE.trans e10).mut hpn, ?_, upd_same, ?_, by simp [hl], ?_, ?_⟩
        · rw [step]
          refine ⟨kvs, by rw [upd_ne hdp]; exact e10 _ _ h9, by have := h8.1; omega, ?_⟩
          have e12 : (putStep cols S sp).1 = S.1 ++ cellsAt ((at_ / cols : Nat) : Int) ((at_ % cols : Nat) : Int) sp := by
            unfold putStep
            rw [← hpl]
          rw [e12]
          exact hk9
        · rw [step]
          have e12 : (putStep cols S sp).2 = S.2 ++ [(at_ / cols, at_ % cols)] := by
            unfold putStep
            rw [← hpl]
          rw [e12]
          have keep : ∀ {v : V} {x : Nat × Nat}, PairAt H8 v x → PairAt (upd H8 p (.lst (fs ++ [.ref t]))) v x := fun ⟨a, e2, h2⟩ => ⟨a, e2, by rw [upd_ne (ne_of h2 (e10 _ _ hp7) (fun z => by cases z))]; exact h2⟩
          refine AllAt.snoc (ha.mono fun v x _ z => keep ?_) (keep ⟨t, rfl, h10⟩)
          obtain ⟨a, e2, h2⟩ := z
          obtain ⟨kv1, q1, _⟩ := h3
          exact ⟨a, e2, e11 _ _ (by simpa using ne_of h2 q1 (fun z => by cases z)) h2⟩
        · rw [step]
          unfold putStep
          simp only
          rw [← hpl, topRow_app]
          have t1 := topRow_cells (r := at_ / cols) (c := at_ % cols) (sp := sp) w1
          have t2 : at_ / cols ≤ topRow S.1 := by
            have t3 : placeOf cols S.1 sp ≤ topRow S.1 * cols := p2
            rw [← hpl] at t3
            exact Nat.div_le_of_le_mul (by rw [Nat.mul_comm]; exact t3)
          generalize at_ / cols = qd at t1 t2 ⊢
          omega
        · intro kvs' h'
          rw [upd_ne hdp, e10 _ _ h9] at h'
          cases h'
          have hcs := h8.1
          omega
    · have hg : goodAt cols S.1 sp at_ = false := by simpa using hg
      rw [hg, if_pos (by decide)]
      have hlt : at_ < placeOf cols S.1 sp := by
        refine Nat.lt_of_le_of_ne hat fun z => ?_
        rw [z, p1] at hg
        cases hg
      refine ⟨_, fun σ' H' h => h, ?_⟩
      refine ⟨_, rfl, Ev.go (v := .int 1) ev_c ⟨_, _, rfl, rfl, placeOf cols S.1 sp - (at_ + 1), by omega, at_ + 1, hlt, rfl, ?_, e4.trans e5⟩⟩
      rfl
  · obtain ⟨o4, o5, o6, fs, rfl, e3, h3, h4, ha, hl, htr, hkl⟩ := p
    rw [hlen, List.take_length] at ha
    exact nxC (e_ret (ev_var rfl) (q _ _ fs e3 hpn h4 ha))
end

section
variable {K : PySem.W.Frag}
theorem ixN_nat' {n j : Nat} (h : j < n) : ixN n (j : Int) = some j := by
  unfold ixN
  rw [if_pos (by omega), if_pos (by omega)]
  simp
theorem rd_last_row : ∀ vs H Q E, sp_last_row K vs H Q E → r_last_row K { nx := fun _ H' => Q .non H', rt := Q } (start ["spans", "places", "span", "place"] vs) H := by
  rintro vs H Q E ⟨s, c, ss, cs, l1, l2, rfl, hs, hc, a1, a2, hl, q⟩
  have hl1 := a1.1
  refine retC (maxDC (evA_go (xs := [.ref s, .ref c]) (by trivial) ⟨s, c, ss, cs, rfl, SqL.of hs, SqL.of hc, fun D hD => lc_it (walk_zip rfl) (fun i H' => Ex H H' ∧ ∃ ns : List Int, ns.length = i ∧ H' D = some (.lst (ns.map V.int))) ⟨Ex.new hD, [], rfl, upd_same⟩ (fun i H' _ p => ⟨p.1.l (SqL.of hs), p.1.l (SqL.of hc)⟩) (fun i x H1 H2 hi p y => ?_) fun H' p => ?_⟩))
  · obtain ⟨e, ns, hn, hd⟩ := p
    obtain ⟨T, x, y, rfl, hT, rfl, hx, hy⟩ := y
    obtain ⟨H3, eH, e3, h3⟩ := gen_new (.tup [x, y]) hT
    rw [eH]
    obtain ⟨u, _, sa, rfl, hsa⟩ := a1.get hx
    obtain ⟨w, _, ca, rfl, hca⟩ := a2.get hy
    have hsa' := (e.trans e3) _ _ hsa
    have hca' := (e.trans e3) _ _ hca
    refine gT h3 rfl (g2 ⟨?_, yesC ?_⟩)
    · exact wipe2 (by decide)
    · exact (show Ev _ _ _ (.int ((w.1 : Int) + (u.2 : Int))) from ev_op (ev_op (ev_var rfl) ev_c (rv_ixT hca' rfl)) (ev_op (ev_var rfl) ev_c (rv_ixT hsa' rfl)) rv_add) _ ⟨_, e3 _ _ hd, szl (by simp; omega), (e.trans e3).mut hD, ns ++ [(w.1 : Int) + (u.2 : Int)], by simp [hn], by rw [upd_same]; simp⟩
  · obtain ⟨e, ns, hn, hd⟩ := p
    exact maxD_end hd (q _ _ e)
/-! names of columns -/
theorem tname_inj : ∀ a, a < 4 → ∀ b, b < 4 → tname a = tname b → a = b := by decide +kernel
theorem tkey_inj {f n i j : Nat} (h : f + n ≤ 4) (hi : i < n) (hj : j < n) (e : (Sum.inr (tname (f + i)) : Key) = .inr (tname (f + j))) : i = j := by
  have := tname_inj (f + i) (by omega) (f + j) (by omega) (Sum.inr.inj e)
  omega
theorem rd_track_weights : ∀ vs H Q E, sp_track_weights K vs H Q E → r_track_weights K { nx := fun _ H' => Q .non H', rt := Q } (start ["first", "spanned", "weights", "number"] vs) H := by
  rintro vs H Q E ⟨f, n, rfl, hn, q⟩
  refine s_asgQ (newK_go fun p H1 e1 hp h1 => ?_)
  refine seqC (forR2 (lo := (f : Int)) (hi := (f : Int) + (n : Int)) (k := n) (ev_cons (ev_var rfl) (ev_cons (by trivial) ev_nil)) rfl (by omega) (by omega) (by omega)
    (fun i σ H' => ∃ o, σ = [some (.int f), some (.int n), some (.ref p), o] ∧ Ex H H' ∧ H' p = some (.dK (wgts f i))) ⟨none, rfl, e1, h1⟩ (fun i σ H' hi pr => ?_) fun σ H' pr => ?_)
  · obtain ⟨o, rfl, e, hd⟩ := pr
    refine gN (put_go (k := .inr (tname (f + i))) ev_c (ev_var rfl) (ev_call (xs := [.int ((f + i : Nat) : Int)]) (ev_cons (ev_var (by simp)) ev_nil) fun Q q => ⟨f + i, rfl, by omega, q⟩) hd (by unfold wgts; simp; omega) ⟨_, rfl, e.mut hp, ?_⟩)
    rw [upd_same, putK_new _ (valV_none fun p hp => ?_)]
    · unfold wgts
      rw [List.range_succ, List.map_append] <;> rfl
    · obtain ⟨j, hj, rfl⟩ := List.mem_map.mp hp
      have hj := List.mem_range.mp hj
      exact fun z => by
        have := tkey_inj (n := n) hn (by omega) hi z
        omega
  · obtain ⟨o, rfl, e, hd⟩ := pr
    exact nxC (e_ret (ev_var rfl) (q _ _ e hd))
theorem rd_alone_raised : ∀ vs H Q E, sp_alone_raised K vs H Q E → r_alone_raised K { nx := fun _ H' => Q .non H', rt := Q } (start ["floor", "asks", "numbers", "name", "first", "spanned", "amount"] vs) H := by
  rintro vs H Q E ⟨fl, al, floor, xs, asks, rfl, hf, ha, hat, hok, q⟩
  refine s_asgQ (cbQ (xs := [.ref fl]) (by trivial) (lstOf_go hf fun p H1 e1 hp h1 => ?_))
  refine seqC (forL (xs := xs) (ev_var rfl) (e1 _ _ ha) (fun i σ H' => ∃ o3 o4 o5 o6, σ = [some (.ref fl), some (.ref al), some (.ref p), o3, o4, o5, o6] ∧ Ex H H' ∧ H' p = some (.lst ((aloneR floor (asks.take i)).map V.int))) ⟨none, none, none, none, rfl, e1, by simpa [aloneR] using h1⟩ (fun i σ H' _ pr => let ⟨_, _, _, _, _, e, _⟩ := pr; e _ _ ha) (fun i x σ H' hx pr => ?_) fun σ H' pr => ?_)
  · obtain ⟨o3, o4, o5, o6, rfl, e, hn⟩ := pr
    obtain ⟨a, hai, t, rfl, ht⟩ := hat.get hx
    have hmem := List.mem_of_getElem? hai
    obtain ⟨w1, w2⟩ := hok.2.2 a hmem
    refine gT (e _ _ ht) rfl (g4 ?_)
    have step : aloneR floor (asks.take (i + 1)) = if a.sp = 1 then (aloneR floor (asks.take i)).set a.fi (pmax ((aloneR floor (asks.take i)).getD a.fi 0) a.am) else aloneR floor (asks.take i) := by
      unfold aloneR
      rw [List.take_add_one, hai, List.foldl_append] <;> rfl
    have hlen : (aloneR floor (asks.take i)).length = floor.length := alone_len _ _
    generalize aloneR floor (asks.take i) = ns at hn step hlen
    have hfi : a.fi < ns.length := by omega
    refine e_if (b := decide ((a.sp : Int) = 1)) (by trivial) (fun h => ?_) (fun h => ?_)
    · have h1 : a.sp = 1 := by have := of_decide_eq_true h; omega
      refine asgQ (x := .int (pmax (ns.getD a.fi 0) a.am)) (ev_cb (ev_cons (ev_op (ev_var rfl) (ev_var rfl) (rv_ixLn hn (n := a.fi) (v := .int (ns.getD a.fi 0)) ?_)) (ev_cons (ev_var rfl) ev_nil)) cv_max) (Ev.go (v := .ref p) (ev_var rfl) (Ev.go (v := .int (a.fi : Nat)) (ev_var rfl) ⟨p, _, _, a.fi, rfl, rfl, hn, ixN_nat' (by rw [List.length_map]; exact hfi), ⟨_, _, _, _, rfl, e.mut hp, ?_⟩⟩))
      · rw [List.getElem?_map, List.getElem?_eq_getElem hfi, List.getD_eq_getElem?_getD, List.getElem?_eq_getElem hfi] <;> rfl
      · rw [upd_same, step, if_pos h1, List.map_set]
    · have h1 : ¬ a.sp = 1 := by have := of_decide_eq_false h; omega
      exact ⟨_, _, _, _, rfl, e, by rw [step, if_neg h1]; exact hn⟩
  · obtain ⟨o3, o4, o5, o6, rfl, e, hn⟩ := pr
    rw [hat.1, List.take_length] at hn
    exact nxC (e_ret (ev_var rfl) (q _ _ e hp hn))
theorem rd_lack_of : ∀ vs H Q E, sp_lack_of K vs H Q E → r_lack_of K { nx := fun _ H' => Q .non H', rt := Q } (start ["numbers", "gap", "ask", "name", "first", "spanned", "amount"] vs) H := by
  rintro vs H Q E ⟨nl, ns, gap, v, a, rfl, hn, ⟨t, rfl, ht⟩, g0, g1, hfi, hl, q⟩
  refine seqC (asgQ (x := .ref t) (ev_var rfl) (gT ht rfl (g4 ?_)))
  refine retC (opC (opQ (x := .int a.am) (ev_var rfl) (cbC (consC (slC (x := .ref nl) (lo := some (a.fi : Int)) (hi := some ((a.fi : Int) + (a.sp : Int))) (ev_var rfl) (evo_part (ev_var rfl)) (evo_part (ev_op (ev_var rfl) (ev_var rfl) rv_add)) (sl_go hn fun p H1 e1 _ h1 => nilC (cv_sum (ns := (ns.drop a.fi).take a.sp) ?_ _ (sub_go ?_))))))))
  · rw [h1, cutV_mid (by rw [List.length_map]; exact hfi), List.map_take, List.map_drop]
  · exact (ev_call (xs := [.int gap, .int a.sp]) (by trivial) fun Q q => ⟨gap, a.sp, rfl, g0, g1, q⟩ : Ev _ _ _ (.int (gapsIn gap a.sp))) _ (sub_go (q _ e1))
end

section
variable {K : PySem.W.Frag}
theorem tname_le : ∀ a, a < 4 → ∀ b, b < 4 → a ≤ b → (Spec.ltCps (tname b).cps.toList (tname a).cps.toList) = false := by decide +kernel
def tnames (f n : Nat) : List Str := (List.range n).map fun j => tname (f + j)
theorem tnames_pw {f n : Nat} (h : f + n ≤ 4) : (tnames f n).Pairwise leS := by
  refine List.pairwise_map.mpr ((List.pairwise_lt_range (n := n)).imp_of_mem fun {a b} ha hb hab => ?_)
  have := List.mem_range.mp ha
  have := List.mem_range.mp hb
  have e := tname_le (f + a) (by omega) (f + b) (by omega) (by omega)
  rw [ltCps_eq] at e
  exact List.not_lt.mp (of_decide_eq_false e)
theorem sum_rep (n : Nat) (x : Int) : ((List.range n).map fun _ => x).sum = n * x := by
  induction n with
  | zero => simp
  | succ n ih => rw [List.range_succ, List.map_append, List.sum_append, ih]; simp [Int.add_mul]
def rowsD (f n : Nat) (r : Int) : List (List Key) := (List.range n).map fun j => [.inl (-r), .inr (tname (f + j))]
theorem rowsD_pw {f n : Nat} {r : Int} (h : f + n ≤ 4) : (rowsD f n r).Pairwise leK := by
  refine List.pairwise_map.mpr ((List.pairwise_lt_range (n := n)).imp_of_mem fun {a b} ha hb hab => ?_)
  have := List.mem_range.mp ha
  have := List.mem_range.mp hb
  have e := tname_le (f + a) (by omega) (f + b) (by omega) (by omega)
  have e2 : tname (f + b) ≠ tname (f + a) := fun z => by
    have := tname_inj _ (by omega) _ (by omega) z
    omega
  show lexK [.inl (-r), .inr (tname (f + b))] [.inl (-r), .inr (tname (f + a))] = false
  rw [lexK, if_pos rfl, lexK, if_neg e2, ← ltCps_eq]
  exact e
theorem RowAt.ex {H H' : Hp} {v : V} {r : List Key} (e : Ex H H') (h : RowAt H v r) : RowAt H' v r := let ⟨t, h1, h2⟩ := h; ⟨t, h1, e _ _ h2⟩
theorem rd_deal : ∀ vs H Q E, sp_deal K vs H Q E → r_deal K { nx := fun _ H' => Q .non H', rt := Q } (start ["room", "weights", "total", "found", "rests", "name", "part", "rest", "left"] vs) H := by
  rintro vs H Q E ⟨room, d, f, n, rfl, hd, hn, hfn, hr, q⟩
  have hnp : 0 < (n : Int) := by omega
  refine s_asgQ (Ev.go (v := .ref d) (ev_var rfl) ⟨d, wgts f n, (List.range n).map fun _ => 1, rfl, hd, by unfold wgts; simp, ?_⟩)
  rw [sum_rep, Int.mul_one]
  refine s_asgQ (newK_go fun fd H1 e1 hfd h1 => ?_)
  refine s_asgQ (lst_go (by trivial) fun rs H2 e2 hrs h2 => ?_)
  have hne : fd ≠ rs := ne_of_none h1 hrs
  have hd2 := (e1.trans e2) _ _ hd
  refine seqC (forLC (cbQ (xs := [.ref d]) (by trivial) ⟨d, wgts f n, tnames f n, rfl, .inl hd2, by unfold wgts tnames; simp, by unfold tnames; simp; omega, fun ys p hperm hsorted hp => ?_⟩))
  have hys : ys = tnames f n := perm_sorted hperm (fun _ _ _ _ => leS_anti) (sortedS_pw hsorted) (tnames_pw hfn)
  subst hys
  obtain ⟨H3, eH, e3, h3⟩ := gen_new (.lst ((tnames f n).map V.str)) hp
  rw [eH]
  have htn : (tnames f n).length = n := by unfold tnames; simp
  have hpf : fd ≠ p := ne_of_none (e2 _ _ h1) hp
  have hpr : rs ≠ p := ne_of_none h2 hp
  have e03 := (e1.trans e2).trans e3
  have hdf : d ≠ fd := ne_of_none hd hfd
  have hdr : d ≠ rs := ne_of_none (e1 _ _ hd) hrs
  have hrs0 : H rs = none := e1.free hrs
  refine for_end h3 (fun i σ H' => ∃ (o5 o6 o7 : Option V) (rv : List V), σ = [some (.int room), some (.ref d), some (.int n), some (.ref fd), some (.ref rs), o5, o6, o7, none] ∧ ExB [fd, rs] H3 H' ∧ H' fd = some (.dK ((List.range i).map fun j => (.inr (tname (f + j)), .int (room / n)))) ∧ H' rs = some (.lst rv) ∧ AllAt (RowAt H') rv (rowsD f i (room % n)) ∧ rv.length = i)
    ⟨none, none, none, [], rfl, ExB.refl _, (e2.trans e3) _ _ h1, e3 _ _ h2, .nil, rfl⟩ (fun i σ H' _ pr => let ⟨_, _, _, _, _, e, _⟩ := pr; e _ _ (by simp; exact ⟨hpf.symm, hpr.symm⟩) h3) (fun i x σ H4 hx pr => ?_) fun σ H4 pr => ?_
  · obtain ⟨o5, o6, o7, rv, rfl, e4, h4, h5, ha, hrl⟩ := pr
    have hi : i < n := by have := (List.getElem?_eq_some_iff.mp hx).1; rw [List.length_map, htn] at this; exact this
    have hxe : x = .str (tname (f + i)) := by
      unfold tnames at hx
      rw [List.getElem?_map, List.getElem?_map, List.getElem?_range hi] at hx
      exact (Option.some.inj hx).symm
    subst hxe
    have hd4 : H4 d = some (.dK (wgts f n)) := e4 _ _ (by simp; exact ⟨hdf, hdr⟩) (e03 _ _ hd)
    have hw : valV (wgts f n) (.inr (tname (f + i))) = some (.int 1) := valV_mem (by
      unfold wgts
      rw [List.map_map]
      refine List.pairwise_map.mpr (List.nodup_range.imp_of_mem fun {a b} ha hb hab z => hab ?_)
      exact tkey_inj (n := n) hfn (List.mem_range.mp ha) (List.mem_range.mp hb) z) (List.mem_map.mpr ⟨i, List.mem_range.mpr hi, rfl⟩)
    refine gN (seqC (asgC (cbQ (xs := [.int (room * 1), .int n]) (ev_cons (ev_op (ev_var rfl) (ev_dgetS (ev_var rfl) (ev_var rfl) (.inl hd4) hw) (rv_mul (.inr ⟨by decide, by decide⟩))) (ev_cons (ev_var rfl) ev_nil)) ⟨_, _, rfl, ⟨hnp, by omega⟩, fun t ht => ?_⟩)))
    rw [Int.mul_one]
    obtain ⟨H5, eH5, e5, h6⟩ := gen_new (.tup [.int (room / n), .int (room % n)]) ht
    rw [eH5]
    refine gT h6 rfl (g2 ?_)
    refine s_put (k := .inr (tname (f + i))) (ev_var rfl) (ev_var rfl) (ev_var rfl) (e5 _ _ h4) (by simp; omega) ?_
    rw [putK_new _ (valV_none fun p hp => by
      obtain ⟨j, hj, rfl⟩ := List.mem_map.mp hp
      have hj := List.mem_range.mp hj
      exact fun z => by have := tkey_inj (n := n) hfn (by omega) hi z; omega)]
    have h7 : upd H5 fd (.dK (((List.range i).map fun j => ((.inr (tname (f + j)) : Key), V.int (room / n))) ++ [(.inr (tname (f + i)), .int (room / n))])) rs = some (.lst rv) := by rw [upd_ne hne.symm]; exact e5 _ _ h5
    refine dropC (Ev.go (v := .ref rs) (ev_var rfl) ⟨.inl ⟨rfl, _, SqL.of h7⟩, consC (tup_go (xs := [.int (-(room % n)), .str (tname (f + i))]) (by trivial) fun t2 H6 e6 hnt h8 => nilC ⟨rs, rv, _, rfl, rfl, e6 _ _ h7, szl (by omega), ?_⟩)⟩)
    have e7 : ExB [fd, rs] H4 H6 := (e5.b.put (by simp)).trans e6.b
    have ht2r : t2 ≠ rs := (ne_of_none h7 hnt).symm
    have hfd6 : H6 fd = some (.dK (((List.range i).map fun j => ((.inr (tname (f + j)) : Key), V.int (room / n))) ++ [(.inr (tname (f + i)), .int (room / n))])) := e6 _ _ upd_same
    refine ⟨_, _, _, rv ++ [.ref t2], rfl, (e4.trans e7).put (by simp), ?_, upd_same, ?_, by simp [hrl]⟩
    · rw [upd_ne hne, hfd6, List.range_succ, List.map_append] <;> rfl
    · have e8 : rowsD f (i + 1) (room % n) = rowsD f i (room % n) ++ [[.inl (-(room % n)), .inr (tname (f + i))]] := by
        unfold rowsD
        rw [List.range_succ, List.map_append] <;> rfl
      rw [e8]
      refine AllAt.snoc (ha.mono fun v r _ z => ?_) ⟨t2, rfl, by rw [upd_ne ht2r]; exact h8⟩
      obtain ⟨t3, rfl, h9⟩ := z
      have n1 : t3 ≠ fd := ne_of h9 h4 (fun z => by cases z)
      have n2 : t3 ≠ rs := ne_of h9 h5 (fun z => by cases z)
      exact ⟨t3, rfl, by rw [upd_ne n2]; exact e7 _ _ (by simp; exact ⟨n1, n2⟩) h9⟩
  · obtain ⟨o5, o6, o7, rv, rfl, e4, h4, h5, ha, hrl⟩ := pr
    rw [List.length_map, htn] at h4 ha hrl
    refine nxC (s_asgQ (opQ (x := .int room) (ev_var rfl) (Ev.go (v := .ref fd) (ev_var rfl) ⟨fd, _, (List.range n).map fun _ => room / n, rfl, h4, by simp, sub_go ?_⟩)))
    rw [sum_rep]
    have hleft : room - n * (room / n) = ((room % n).toNat : Int) := by
      have := Int.emod_nonneg room (show (n : Int) ≠ 0 by omega)
      have := Int.mul_ediv_add_emod room n
      omega
    rw [hleft]
    have hl1 : (room % n).toNat < n := by
      have := Int.emod_nonneg room (show (n : Int) ≠ 0 by omega)
      have := Int.emod_lt_of_pos room hnp
      omega
    generalize hL : (room % n).toNat = l at hl1
    have hLi : room % n = (l : Int) := by
      have := Int.emod_nonneg room (show (n : Int) ≠ 0 by omega)
      omega
    obtain ⟨xs, rfl, hx2, hx3⟩ := rows_pairs ha
    refine seqC (forLC (slK (cbQ (xs := [.ref rs]) (by trivial) ⟨rs, xs, [true, false], rfl, SqL.of h5, fun p hp => ⟨hx3 p hp, ?_⟩, ⟨by decide, by rw [List.length_map] at hrl; omega⟩, fun ys p2 hperm hpw hp2 => ?_⟩)))
    · have : p.2 ∈ rowsD f n (room % n) := by rw [← hx2]; exact List.mem_map.mpr ⟨p, hp, rfl⟩
      obtain ⟨j, _, e⟩ := List.mem_map.mp this
      rw [← e]
      rfl
    have hy2 : ys.map (·.2) = rowsD f n (room % n) := by
      refine perm_sorted (by rw [← hx2]; exact hperm.map _) (fun a b ha hb h1 h2 => ?_) (List.pairwise_map.mpr hpw) (rowsD_pw hfn)
      have hsh : ∀ r ∈ ys.map (·.2), shapeK r = [true, false] := fun r hr => by
        have : r ∈ rowsD f n (room % n) := by rw [← hx2]; exact (hperm.map _).mem_iff.mp hr
        obtain ⟨j, _, e⟩ := List.mem_map.mp this
        rw [← e]
        rfl
      exact lexK_anti (by rw [hsh a ha, hsh b hb]) h2 h1
    have hyl : ys.length = n := by
      have := congrArg List.length hy2
      unfold rowsD at this
      simpa using this
    obtain ⟨H5, eH5, e5, h6⟩ := gen_new (.lst (ys.map fun p => V.ref p.1)) hp2
    rw [eH5]
    refine sl_end (lo := none) (hi := some (l : Int)) evo_no (evo_part (ev_var rfl)) (sl_go h6 fun s H6 e6 hs6 h7 => ?_)
    rw [cutV_take (by rw [List.length_map]; omega)] at h7
    have hfd6 := (e5.trans e6) _ _ h4
    have hsf : s ≠ fd := (ne_of_none (e5 _ _ h4) hs6).symm
    refine for_end h7 (fun i σ H' => ∃ (o5 o7 : Option V) (kvs : List (Key × V)), σ = [some (.int room), some (.ref d), some (.int n), some (.ref fd), some (.ref rs), o5, o6, o7, some (.int l)] ∧ ExB [fd] H6 H' ∧ H' fd = some (.dK kvs) ∧ kvs.length ≤ n + i ∧ ∀ j, j < n → valV kvs (.inr (tname (f + j))) = some (.int (room / n + if j < i then 1 else 0)))
      ⟨o5, o7, _, rfl, ExB.refl _, hfd6, by simp, fun j hj => ?_⟩ (fun i σ H' _ pr => let ⟨_, _, _, _, e, _⟩ := pr; e _ _ (by simpa using hsf) h7) (fun i x σ H7 hx pr => ?_) fun σ H7 pr => ?_
    · rw [if_neg (Nat.not_lt_zero _), Int.add_zero]
      refine valV_mem ?_ (List.mem_map.mpr ⟨j, List.mem_range.mpr hj, rfl⟩)
      rw [List.map_map]
      exact List.pairwise_map.mpr (List.nodup_range.imp_of_mem fun {a b} ha hb hab z => hab (tkey_inj (n := n) hfn (List.mem_range.mp ha) (List.mem_range.mp hb) z))
    · obtain ⟨o5, o7, kvs, rfl, e7, h8, hkl, hkv⟩ := pr
      have hil : i < l := by have := (List.getElem?_eq_some_iff.mp hx).1; rw [List.length_take] at this; omega
      rw [List.getElem?_take, if_pos hil, List.getElem?_map] at hx
      obtain ⟨y, hy, rfl⟩ := Option.map_eq_some_iff.mp hx
      have hyr : y.2 = [.inl (-(room % n)), .inr (tname (f + i))] := by
        have h1 : (ys.map (·.2))[i]? = some y.2 := by rw [List.getElem?_map, hy] <;> rfl
        rw [hy2] at h1
        unfold rowsD at h1
        rw [List.getElem?_map, List.getElem?_range (by omega)] at h1
        exact (Option.some.inj h1).symm
      have hyt : H4 y.1 = some (.tup [.int (-(room % n)), .str (tname (f + i))]) := by
        have := hx3 y (hperm.mem_iff.mp (List.mem_of_getElem? hy))
        rw [hyr] at this
        exact this
      have hyf : y.1 ≠ fd := ne_of hyt h4 (fun z => by cases z)
      have hy7 : H7 y.1 = some (.tup [.int (-(room % n)), .str (tname (f + i))]) := e7 _ _ (by simpa using hyf) ((e5.trans e6) _ _ hyt)
      refine gT hy7 rfl (g2 ?_)
      refine Ev.go (v := .ref fd) (ev_var rfl) (Ev.go (v := .str (tname (f + i))) (ev_var rfl) ⟨fd, .int (room / n + if i < i then 1 else 0), rfl, .inl ⟨kvs, .inr (tname (f + i)), .inl h8, rfl, (hkv i (by omega)).symm⟩, ev_c _ ⟨_, _, rfl, rfl, _, DPut.k (k := .inr (tname (f + i))) h8 (szl (by omega)), ?_⟩⟩)
      refine ⟨_, _, putK kvs (.inr (tname (f + i))) _, rfl, e7.put (by simp), upd_same, by have := length_putK kvs (.inr (tname (f + i)) : Key) (V.int (room / n + (if i < i then 1 else 0) + 1)); omega, fun j hj => ?_⟩
      rw [valV_put]
      by_cases hji : j = i
      · subst hji
        rw [if_pos rfl, if_neg (Nat.lt_irrefl _), if_pos (Nat.lt_succ_self _), Int.add_zero]
      · rw [if_neg (fun z => hji (tkey_inj (n := n) hfn hj (by omega) z)), hkv j hj]
        by_cases h9 : j < i
        · rw [if_pos h9, if_pos (by omega)]
        · rw [if_neg h9, if_neg (by omega)]
    · obtain ⟨o5, o7, kvs, rfl, e7, h8, hkl, hkv⟩ := pr
      have eall : Ex H H7 := by
        have q1 : Ex H H3 := e03
        have q2 : ExB [fd, rs] H3 H7 := (e4.trans (e5.trans e6).b).trans (e7.mono (by simp))
        exact ExB.fresh q1 q2 (fun x hx => by
          simp at hx
          rcases hx with rfl | rfl
          · exact hfd
          · exact hrs0)
      refine nxC (e_ret (ev_var rfl) (q _ _ kvs eall h8 fun j hj => ?_))
      rw [hkv j hj]
      unfold cellJ
      rw [hLi, List.length_take, List.length_map, hyl, Nat.min_eq_left (by omega)]
      congr 2
      by_cases h9 : j < l
      · rw [if_pos h9, if_pos (by omega)]
      · rw [if_neg h9, if_neg (by omega)]
end

section
variable {K : PySem.W.Frag}
theorem rd_in_order : ∀ vs H Q E, sp_in_order K vs H Q E → r_in_order K { nx := fun _ H' => Q .non H', rt := Q } (start ["asks", "found", "spanned", "name", "first", "amount", "ask"] vs) H := by
  rintro vs H Q E ⟨al, xs, asks, rfl, ha, hat, hl, q⟩
  refine s_asgQ (lst_go (by trivial) fun f H1 e1 hf h1 => ?_)
  have hxl := hat.1
  refine seqC (forLC (cbC (consC (lcL (xs := xs) (a := al) (ev_var rfl) (e1 _ _ ha) (fun D i H' => Ex H1 H' ∧ H1 D = none ∧ ∃ rv, H' D = some (.lst rv) ∧ rv.length ≤ i ∧ AllAt (RowAt H') rv (((asks.take i).filter fun a => decide (1 < a.sp)).map askRow))
    (fun D H' e h1 h2 => ⟨e, h1, [], h2, Nat.le_refl _, by simpa using AllAt.nil⟩) (fun D i H' _ pr => (e1.trans pr.1) _ _ ha) (fun D i x H' hx pr => ?_) fun D H2 pr => nilC ?_))))
  · obtain ⟨e, hD, rv, hd, hrl, hrv⟩ := pr
    obtain ⟨a, hai, t, rfl, ht⟩ := hat.get hx
    have hi := (List.getElem?_eq_some_iff.mp hx).1
    have ht' := (e1.trans e) _ _ ht
    refine ⟨wipe1, ?_⟩
    refine (show EvT _ _ _ (decide (1 < (a.sp : Int))) from evt_test (ev_op (ev_op (ev_var rfl) ev_c (rv_ixT ht' rfl)) ev_c rv_gt)) _ ?_
    have hstep : asks.take (i + 1) = asks.take i ++ [a] := by rw [List.take_add_one, hai] <;> rfl
    rw [hstep, List.filter_append]
    by_cases h : 1 < (a.sp : Int)
    · rw [decide_eq_true h, if_pos rfl]
      have h' : 1 < a.sp := by omega
      refine tup_go (xs := [.int a.sp, .str a.nm, .int a.fi, .int a.am]) (by trivial) fun t2 H3 e3 hn3 h3 => ⟨rv, e3 _ _ hd, szl (by omega), (e.trans e3).mut hD, hD, rv ++ [.ref t2], upd_same, by simp; omega, ?_⟩
      rw [List.filter_cons_of_pos (by simpa using h'), List.filter_nil, List.map_append]
      have keep : ∀ {v : V} {r : List Key}, RowAt H3 v r → RowAt (upd H3 D (.lst (rv ++ [.ref t2]))) v r := fun ⟨a, e2, h2⟩ => ⟨a, e2, by rw [upd_ne (ne_of h2 (e3 _ _ hd) (fun z => by cases z))]; exact h2⟩
      exact AllAt.snoc (hrv.mono fun _ _ _ z => keep (z.ex e3)) (keep ⟨t2, rfl, h3⟩)
    · rw [decide_eq_false h, if_neg (by decide)]
      have h' : ¬ 1 < a.sp := by omega
      rw [List.filter_cons_of_neg (by simpa using h'), List.filter_nil, List.append_nil]
      exact ⟨e, hD, rv, hd, by omega, hrv⟩
  · obtain ⟨e, hD, rv, hd, hrl, hrv⟩ := pr
    rw [hxl, List.take_length] at hrv
    obtain ⟨ps, rfl, hp2, hp3⟩ := rows_pairs hrv
    have hsh : ∀ r ∈ (asks.filter fun a => decide (1 < a.sp)).map askRow, shapeK r = [true, false, true, true] := fun r hr => by
      obtain ⟨a, _, e⟩ := List.mem_map.mp hr
      rw [← e]
      rfl
    refine ⟨D, ps, [true, false, true, true], rfl, SqL.of hd, fun p hp => ⟨hp3 p hp, hsh _ (by rw [← hp2]; exact List.mem_map.mpr ⟨p, hp, rfl⟩)⟩, ⟨by decide, by rw [List.length_map] at hrl; omega⟩, fun ys p2 hperm hpw hpn => ?_⟩
    have hyp : (ys.map (·.2)).Perm ((asks.filter fun a => decide (1 < a.sp)).map askRow) := by rw [← hp2]; exact hperm.map _
    have hyK : ys.map (·.2) = sortK ((asks.filter fun a => decide (1 < a.sp)).map askRow) := sortK_eq hsh hyp (List.pairwise_map.mpr hpw)
    have hord : orderA asks = (ys.map (·.2)).map rowAsk := by unfold orderA; rw [hyK]
    have hordP : (orderA asks).Perm (asks.filter fun a => decide (1 < a.sp)) := by
      rw [hord]
      have h := hyp.map rowAsk
      have e : ∀ l : List Ask, (l.map askRow).map rowAsk = l := fun l => by
        rw [List.map_map]
        exact (List.map_congr_left (fun a _ => rowAsk_row a)).trans (List.map_id _)
      rw [e] at h
      exact h
    obtain ⟨H3, eH, e3, h3⟩ := gen_new (.lst (ys.map fun p => V.ref p.1)) hpn
    rw [eH]
    have hf2 : H2 f = some (.lst []) := e _ _ h1
    have hfp : p2 ≠ f := (ne_of_none hf2 hpn).symm
    have hyl : ys.length ≤ 17 := by
      have := hyp.length_eq
      have h2 : (asks.filter fun a => decide (1 < a.sp)).length ≤ asks.length := List.length_filter_le _ _
      simp at this
      omega
    refine for_end h3 (fun i σ H' => ∃ (o2 o3 o4 o5 : Option V) (fs : List V), σ = [some (.ref al), some (.ref f), o2, o3, o4, o5, none] ∧ ExB [f] H3 H' ∧ H' f = some (.lst fs) ∧ AllAt (AskAt H') fs ((orderA asks).take i) ∧ fs.length = i)
      ⟨none, none, none, none, [], rfl, ExB.refl _, e3 _ _ hf2, by simpa using AllAt.nil, rfl⟩ (fun i σ H' _ pr => let ⟨_, _, _, _, _, _, e, _⟩ := pr; e _ _ (by simpa using hfp) h3) (fun i x σ H4 hx pr => ?_) fun σ H4 pr => ?_
    · obtain ⟨o2, o3, o4, o5, fs, rfl, e4, h4, hfs, hfl⟩ := pr
      rw [List.getElem?_map] at hx
      obtain ⟨y, hy, rfl⟩ := Option.map_eq_some_iff.mp hx
      have hi : i < ys.length := (List.getElem?_eq_some_iff.mp hy).1
      obtain ⟨a, _, hya⟩ := List.mem_map.mp (hyp.mem_iff.mp (List.mem_map.mpr ⟨y, List.mem_of_getElem? hy, rfl⟩))
      have hyt : H2 y.1 = some (.tup ((askRow a).map kV)) := by rw [hya]; exact hp3 y (hperm.mem_iff.mp (List.mem_of_getElem? hy))
      have hyt : H2 y.1 = some (.tup [.int a.sp, .str a.nm, .int a.fi, .int a.am]) := hyt
      have hyf : y.1 ≠ f := ne_of hyt hf2 (fun z => by cases z)
      have hy4 := e4 _ _ (by simpa using hyf) (e3 _ _ hyt)
      have hoi : (orderA asks)[i]? = some a := by
        rw [hord, List.getElem?_map, List.getElem?_map, hy]
        show some (rowAsk y.2) = some a
        rw [← hya, rowAsk_row]
      refine gT hy4 rfl (g4 ?_)
      refine dropC (Ev.go (v := .ref f) (ev_var rfl) ⟨.inl ⟨rfl, _, SqL.of h4⟩, consC (tup_go (xs := [.str a.nm, .int a.fi, .int a.sp, .int a.am]) (by trivial) fun t H5 e5 hnt h5 => nilC ⟨f, fs, _, rfl, rfl, e5 _ _ h4, szl (by omega), ?_⟩)⟩)
      refine ⟨_, _, _, _, fs ++ [.ref t], rfl, (e4.trans e5.b).put (by simp), upd_same, ?_, by simp [hfl]⟩
      rw [List.take_add_one, hoi]
      have keep : ∀ {v : V} {r : Ask}, AskAt H5 v r → AskAt (upd H5 f (.lst (fs ++ [.ref t]))) v r := fun ⟨a, e2, h2⟩ => ⟨a, e2, by rw [upd_ne (ne_of h2 (e5 _ _ h4) (fun z => by cases z))]; exact h2⟩
      exact AllAt.snoc (hfs.mono fun _ _ _ z => keep (z.ex e5)) (keep ⟨t, rfl, h5⟩)
    · obtain ⟨o2, o3, o4, o5, fs, rfl, e4, h4, hfs, hfl⟩ := pr
      have hol : (orderA asks).length = ys.length := by rw [hord]; simp
      rw [List.length_map, ← hol, List.take_length] at hfs
      have eall : Ex H H4 := ExB.fresh ((e1.trans e).trans e3) e4 (fun x hx => by rw [List.mem_singleton.mp hx]; exact hf)
      exact nxC (e_ret (ev_var rfl) (q _ _ fs eall hf h4 hfs hordP))
theorem aug_go {to ti te : TE} {σ : L2.St} {H : Hp} {p : Addr} {k y : Int} {j : Nat} {ns : List Int} {D : Ends} (ho : Ev to σ H (.ref p)) (hi : Ev ti σ H (.int k)) (hl : H p = some (.lst (ns.map V.int))) (e : k = (j : Int)) (hj : j < ns.length) (he : Ev te σ H (.int y)) (q : D.nx σ (upd H p (.lst ((ns.set j (ns.getD j 0 + y)).map V.int)))) :
    tAugS to ti te qGetL (ipI fun i j => i + j) rSetL D σ H := by
  subst e
  refine ho _ (hi _ ⟨p, _, _, .int (ns.getD j 0), rfl, rfl, hl, atI_nat ?_, he _ ⟨_, _, rfl, rfl, p, _, _, j, rfl, rfl, hl, ixN_nat' (by rw [List.length_map]; exact hj), ?_⟩⟩)
  · rw [List.getElem?_map, List.getElem?_eq_getElem hj, List.getD_eq_getElem?_getD, List.getElem?_eq_getElem hj] <;> rfl
  · rw [← List.map_set]
    exact q
theorem rd_raise_tracks : ∀ vs H Q E, sp_raise_tracks K vs H Q E → r_raise_tracks K { nx := fun _ H' => Q .non H', rt := Q } (start ["many", "gap", "floor", "asks", "numbers", "raises", "ask", "lack", "cells", "number"] vs) H := by
  rintro vs H Q E ⟨many, gap, fl, al, floor, xs, asks, rfl, g0, g1, hf, ha, hat, hok, q⟩
  refine s_asgQ (callQ (xs := [.ref fl, .ref al]) (by trivial) ⟨fl, al, floor, xs, asks, rfl, hf, ha, hat, hok, fun H1 p e1 hp h1 => ?_⟩)
  refine s_asgQ (lst_go (by trivial) fun r H2 e2 hr h2 => ?_)
  have hpr : p ≠ r := ne_of_none h1 hr
  have hr0 : H r = none := e1.free hr
  refine seqC (forLC (callQ (xs := [.ref al]) (by trivial) ⟨al, xs, asks, rfl, (e1.trans e2) _ _ ha, asks_ex (e1.trans e2) hat, hok.2.1, fun H3 ol ovs e3 holn hol hov hperm => ?_⟩))
  have h13 : H3 p = some (.lst ((aloneR floor asks).map V.int)) := (e2.trans e3) _ _ h1
  have hlen0 : (aloneR floor asks).length = floor.length := alone_len _ _
  have holp : ol ≠ p := (ne_of_none (e2 _ _ h1) holn).symm
  have holr : ol ≠ r := (ne_of_none h2 holn).symm
  have hov17 : ovs.length ≤ 17 := by
    have := hperm.length_eq
    have h2 : (asks.filter fun a => decide (1 < a.sp)).length ≤ asks.length := List.length_filter_le _ _
    have := hov.1
    have := hok.2.1
    omega
  have hin : ∀ a ∈ orderA asks, 1 ≤ a.sp ∧ a.fi + a.sp ≤ floor.length := fun a ha => hok.2.2 a (List.mem_filter.mp (hperm.mem_iff.mp ha)).1
  refine for_end hol (fun i σ H' => ∃ (o6 o7 o8 o9 : Option V) (rv : List V), σ = [some many, some (.int gap), some (.ref fl), some (.ref al), some (.ref p), some (.ref r), o6, o7, o8, o9] ∧ ExB [p, r] H3 H' ∧ H' p = some (.lst ((((orderA asks).take i).foldl (raise1 gap) (aloneR floor asks)).map V.int)) ∧ H' r = some (.lst rv) ∧ rv.length ≤ 4 * i)
    ⟨none, none, none, none, [], rfl, ExB.refl _, by simpa using h13, e3 _ _ h2, by simp⟩ (fun i σ H' _ pr => let ⟨_, _, _, _, _, _, e, _⟩ := pr; e _ _ (by simp; exact ⟨holp, holr⟩) hol) (fun i x σ H4 hx pr => ?_) fun σ H4 pr => ?_
  · obtain ⟨o6, o7, o8, o9, rv, rfl, e4, h4, h5, hrl⟩ := pr
    obtain ⟨a, hai, hax⟩ := hov.get hx
    obtain ⟨t, rfl, ht⟩ := hax
    have hmem := List.mem_of_getElem? hai
    obtain ⟨w1, w2⟩ := hin a hmem
    have hi : i < 17 := by have := (List.getElem?_eq_some_iff.mp hx).1; omega
    have htp : t ≠ p := ne_of ht h13 (fun z => by cases z)
    have htr : t ≠ r := ne_of ht (e3 _ _ h2) (fun z => by cases z)
    have ht4 := e4 _ _ (by simp; exact ⟨htp, htr⟩) ht
    have hstep : ((orderA asks).take (i + 1)).foldl (raise1 gap) (aloneR floor asks) = raise1 gap (((orderA asks).take i).foldl (raise1 gap) (aloneR floor asks)) a := by
      rw [List.take_add_one, hai, List.foldl_append] <;> rfl
    have hnl : (((orderA asks).take i).foldl (raise1 gap) (aloneR floor asks)).length = floor.length := by rw [raise_len, hlen0]
    rw [hstep]
    generalize ((orderA asks).take i).foldl (raise1 gap) (aloneR floor asks) = ns at h4 hnl
    have hf4 : floor.length ≤ 4 := hok.1
    refine gN (s_asgQ (callQ (xs := [.ref p, .int gap, .ref t]) (by trivial) ⟨p, ns, gap, .ref t, a, rfl, h4, ⟨t, rfl, ht4⟩, g0, g1, by omega, by omega, fun H5 e5 => ?_⟩))
    generalize hL : lackOf ns gap a = lack
    have ht5 := e5 _ _ ht4
    refine e_if (b := decide (0 < lack)) (by trivial) (fun h => ?_) (fun h => ?_)
    · have hpos : 0 < lack := of_decide_eq_true h
      refine s_asgQ (callC (consQ (x := .int lack) (ev_var rfl) (consC (callQ (xs := [.int a.fi, .int a.sp]) (by trivial) ⟨a.fi, a.sp, rfl, by omega, fun H6 wd e6 hwd => nilC ⟨lack, wd, a.fi, a.sp, rfl, hwd, w1, by omega, hpos, fun H7 cd kvs e7 hcd hcv => ?_⟩⟩))))
      have e8 := e5.trans (e6.trans e7)
      have ht7 := e8 _ _ ht4
      have hp7 := e8 _ _ h4
      have hr7 := e8 _ _ h5
      have hcp : cd ≠ p := ne_of hcd hp7 (fun z => by cases z)
      have hcr : cd ≠ r := ne_of hcd hr7 (fun z => by cases z)
      refine forR2 (lo := (a.fi : Int)) (hi := (a.fi : Int) + (a.sp : Int)) (k := a.sp) (ev_cons (by trivial) (ev_cons (ev_op (by trivial) (by trivial) rv_add) ev_nil)) rfl (by omega) (by omega) (by omega)
        (fun j σ H' => ∃ (o9 : Option V) (rv : List V), σ = [some many, some (.int gap), some (.ref fl), some (.ref al), some (.ref p), some (.ref r), some (.ref t), some (.int lack), some (.ref cd), o9] ∧ ExB [p, r] H7 H' ∧ H' p = some (.lst (((List.range j).foldl (addJ lack a.sp a.fi) ns).map V.int)) ∧ H' r = some (.lst rv) ∧ rv.length ≤ 4 * i + j)
        ⟨o9, rv, rfl, ExB.refl _, hp7, hr7, hrl⟩ (fun j σ H8 hj pr => ?_) fun σ H8 pr => ?_
      · obtain ⟨o9, rv, rfl, e9, h8, h9, hrl⟩ := pr
        have hml : ((List.range j).foldl (addJ lack a.sp a.fi) ns).length = ns.length := addJ_len _ _ _ _ _
        have hst2 : (List.range (j + 1)).foldl (addJ lack a.sp a.fi) ns = addJ lack a.sp a.fi ((List.range j).foldl (addJ lack a.sp a.fi) ns) j := by
          rw [List.range_succ, List.foldl_append] <;> rfl
        rw [hst2]
        generalize (List.range j).foldl (addJ lack a.sp a.fi) ns = ms at h8 hml
        have hc8 := e9 _ _ (by simp; exact ⟨hcp, hcr⟩) hcd
        have ht8 := e9 _ _ (by simp; exact ⟨htp, htr⟩) ht7
        have cell : ∀ (H' : Hp), H' cd = some (.dK kvs) → Ev (tDGet (tVar 8) (tCallR (sp_track_name K) E0 (tCons (tVar 9) tNil))) [some many, some (.int gap), some (.ref fl), some (.ref al), some (.ref p), some (.ref r), some (.ref t), some (.int lack), some (.ref cd), some (.int ((a.fi : Int) + (j : Nat)))] H' (.int (cellJ lack a.sp j)) := fun H' h => ev_dgetS (ev_var rfl) (ev_call (xs := [.int ((a.fi + j : Nat) : Int)]) (ev_cons (ev_var (by simp)) ev_nil) fun Q q => ⟨a.fi + j, rfl, by omega, q⟩) (.inl h) (hcv j hj)
        refine gN (nst (σ' := [some many, some (.int gap), some (.ref fl), some (.ref al), some (.ref p), some (.ref r), some (.ref t), some (.int lack), some (.ref cd), some (.int ((a.fi : Int) + (j : Nat)))]) rfl ?_)
        refine e_if (b := decide (0 < cellJ lack a.sp j)) (evt_test (ev_op (cell _ hc8) ev_c rv_gt)) (fun h => ?_) (fun h => ?_)
        · have hc0 : cellJ lack a.sp j > 0 := of_decide_eq_true h
          refine seqC (dropC (Ev.go (v := .ref r) (ev_var rfl) ⟨.inl ⟨rfl, _, SqL.of h9⟩, consC (tup_go (xs := [.str a.nm, .int ((a.fi : Int) + (j : Nat)), .int (cellJ lack a.sp j)]) (ev_cons (by trivial) (ev_cons (ev_var rfl) (ev_cons (cell _ hc8) ev_nil))) fun t2 H9 e10 hnt ht2 => nilC ⟨r, rv, _, rfl, rfl, e10 _ _ h9, szl (by omega), ?_⟩)⟩))
          have hp9 : upd H9 r (.lst (rv ++ [.ref t2])) p = some (.lst (ms.map V.int)) := by rw [upd_ne hpr]; exact e10 _ _ h8
          have hc9 : upd H9 r (.lst (rv ++ [.ref t2])) cd = some (.dK kvs) := by rw [upd_ne hcr]; exact e10 _ _ hc8
          have hr9 : upd H9 r (.lst (rv ++ [.ref t2])) r = some (.lst (rv ++ [.ref t2])) := upd_same
          have e11 : ExB [p, r] H7 (upd H9 r (.lst (rv ++ [.ref t2]))) := (e9.trans e10.b).put (by simp)
          generalize upd H9 r (.lst (rv ++ [.ref t2])) = H10 at hp9 hc9 hr9 e11
          have hjl : a.fi + j < ms.length := by omega
          refine aug_go (j := a.fi + j) (ev_var rfl) (ev_var rfl) hp9 (by omega) hjl (cell _ hc9) ⟨_, rv ++ [.ref t2], rfl, e11.put (by simp), ?_, by rw [upd_ne hpr.symm]; exact hr9, by simp; omega⟩
          rw [upd_same]
          unfold addJ
          rw [if_pos hc0]
        · have hc0 : ¬ cellJ lack a.sp j > 0 := by have := of_decide_eq_false h; omega
          exact ⟨_, rv, rfl, e9, by unfold addJ; rw [if_neg hc0]; exact h8, h9, by omega⟩
      · obtain ⟨o9, rv, rfl, e9, h8, h9, hrl⟩ := pr
        refine nxC ⟨_, _, _, _, rv, rfl, (e4.trans e8.b).trans e9, ?_, h9, by omega⟩
        rw [h8]
        unfold raise1
        rw [hL, if_pos hpos]
    · have hneg : ¬ lack > 0 := by have := of_decide_eq_false h; omega
      refine ⟨_, _, _, _, rv, rfl, e4.trans e5.b, ?_, e5 _ _ h5, by omega⟩
      unfold raise1
      rw [hL, if_neg hneg]
      exact e5 _ _ h4
  · obtain ⟨o6, o7, o8, o9, rv, rfl, e4, h4, h5, hrl⟩ := pr
    rw [hov.1, List.take_length] at h4
    have eall : Ex H H4 := ExB.fresh (e1.trans (e2.trans e3)) e4 (fun x hx => by
      simp at hx
      rcases hx with rfl | rfl
      · exact hp
      · exact hr0)
    refine nxC (retC (tup_go (xs := [.ref p, .ref r]) (by trivial) fun t H5 e5 _ ht => q H5 t p _ (eall.trans e5) ht (e5 _ _ h4)))
end

section
variable {K : PySem.W.Frag} {σ : L2.St} {H : Hp} {x v : V} {ta tv : TE} {tt : TA} {t : Tr} {m : Str} {vs : List V} {sp : Sp} {E : XK} {Q : VK} {D : Ends} {a : Addr} {f : Str} {s2 : TS}
theorem cls_in (kd : Kd) : kd.cls ∈ [178, 801, 876, 1060, 1163] := by cases kd <;> decide
theorem cls_inj {k l : Kd} (h : k.cls = l.cls) : k = l := by cases k <;> cases l <;> first | rfl | (exact absurd h (by decide))
/-- a method of a box, of any kind -/
theorem boxM (hm : m ∈ mNames) (ha : Ev ta σ H x) (hb : BoxAt K H x t) (ht : EvA tt σ H vs) (h : sp (x :: vs) H Q E) : tMethD [178, 801, 876, 1060, 1163] m sp E ta tt σ H Q := by
  obtain ⟨a, ws, rfl, F, _⟩ := hb.out
  obtain ⟨dx, fs, h1, h2⟩ := F.ins
  exact ha _ ⟨a, _, dx, fs, rfl, h1, cls_in _, h2 m hm, ht _ ⟨⟨dx, fs, h1⟩, h⟩⟩
theorem ev_boxM {z : V} (hm : m ∈ mNames) (ha : Ev ta σ H x) (hb : BoxAt K H x t) (ht : EvA tt σ H vs) (h : ∀ Q : VK, Q z H → sp (x :: vs) H Q E) : Ev (tMethD [178, 801, 876, 1060, 1163] m sp E ta tt) σ H z := fun Q q => boxM hm ha hb ht (h Q q)
theorem kd_of {C : Addr} {kd : Kd} {dx : Addr} {fs : List (Str × V)} (hb : BoxAt K H (.ref a) t) (h : H a = some (.ins C dx fs)) (e : C = kd.cls) : t.b.kd = kd := by
  obtain ⟨a', ws, ea, F, _⟩ := hb.out
  cases ea
  obtain ⟨dx', fs', h1, _⟩ := F.ins
  rw [h] at h1
  cases h1
  exact cls_inj e
theorem rd_of_parts : ∀ vs H Q E, sp_of_parts K vs H Q E → r_of_parts K { nx := fun _ H' => Q .non H', rt := Q } (start ["box", "table", "part"] vs) H := by
  rintro vs H Q E ⟨x, d, t, L, rfl, hb, hL, hn, q⟩
  obtain ⟨a, ws, rfl, F, hps⟩ := hb.out
  obtain ⟨p, hp1, hp2⟩ := F.parts
  have hl := hps.1
  refine retC (lcLq (f := (lsOf t.ps L).map V.int) (ev_fld (ev_var rfl) hp1) hp2 (by unfold lsOf; simp [hl]) (by omega) (fun i x H' e hx y hy => ?_) fun D H' e _ hD => q _ _ e hD)
  obtain ⟨u, hu, hxu⟩ := hps.get hx
  obtain ⟨b, _, rfl, G, _⟩ := (hxu.ex e).out
  unfold lsOf at hy
  rw [List.getElem?_map, List.getElem?_map, hu] at hy
  cases hy
  exact ev_has (ev_var rfl) (ev_fld (ev_var rfl) G.name) ((hL.ex e).at (List.mem_of_getElem? hu))
def spM (C : Addr) (sp : Sp) : Sp := fun vs H Q E => (∃ a r dx fs, vs = .ref a :: r ∧ H a = some (.ins C dx fs)) ∧ sp vs H Q E
theorem asked_leaf (h : t.b.kd = .leaf) (L : Str → Int) : asked t L = 0 := by unfold asked; rw [h]
theorem rd_asked_leaf : ∀ vs H Q E, spM 178 (sp_asked K) vs H Q E → r_Box_asked_least K { nx := fun _ H' => Q .non H', rt := Q } (start ["self", "leasts"] vs) H :=
  rd_Box_asked_least fun vs H Q E ⟨⟨a, r, dx, fs, e, h1⟩, x, d, t, L, e2, hb, _, _, q⟩ => by
    subst e2
    injection e with e1 e3
    subst e1
    refine ⟨_, _, rfl, ?_⟩
    rw [← asked_leaf (kd_of (kd := .leaf) hb h1 rfl) L]
    exact q H (Ex.refl _)
theorem rd_asked_row : ∀ vs H Q E, spM 801 (sp_asked K) vs H Q E → r_Row_asked_least K { nx := fun _ H' => Q .non H', rt := Q } (start ["self", "leasts"] vs) H := by
  rintro vs H Q E ⟨⟨a', r, dx, fs, e, h1⟩, x, d, t, L, rfl, hb, hL, hw, q⟩
  injection e with e1 e3
  subst e1
  have hk := kd_of (kd := .row) hb h1 rfl
  obtain ⟨a, ws, ea, F, hps⟩ := hb.out
  cases ea
  obtain ⟨p, hp1, hp2⟩ := F.parts
  have hg := F.gap (by rw [hk]; decide)
  have hl := hps.1
  refine retC (opC (cbC (consC (callQ (xs := [.ref a', .ref d]) (by trivial) ⟨_, d, t, L, rfl, hb, hL, hw.few, fun H1 pl e1 h2 => nilC (cv_sum h2 _ ?_)⟩))))
  have hg1 := hg.ex e1
  have hp3 := hp1.ex e1
  have hp4 := e1 _ _ hp2
  refine (ev_call (xs := [.int t.b.gap, .int ws.length]) (by trivial) fun Q q => ⟨_, _, rfl, hw.gap.1, hw.gap.2, q⟩ : Ev _ _ _ (.int (gapsIn t.b.gap ws.length))) _ (add_go ?_)
  have : asked t L = (lsOf t.ps L).sum + gapsIn t.b.gap ws.length := by unfold asked; rw [hk, hl]
  rw [← this]
  exact q _ e1
theorem rd_asked_max (C : Addr) (kd : Kd) (hC : C = kd.cls) (hkd : kd = .col ∨ kd = .wrap) : ∀ vs H Q E, spM C (sp_asked K) vs H Q E → (tRet (tMaxD K (tCallR (sp_of_parts K) E0 (tCons (tVar 0) (tCons (tVar 1) tNil))) (tC (.int 0)))) { nx := fun _ H' => Q .non H', rt := Q } (start ["self", "leasts"] vs) H := by
  rintro vs H Q E ⟨⟨a', r, dx, fs, e, h1⟩, x, d, t, L, rfl, hb, hL, hw, q⟩
  injection e with e1 e3
  subst e1
  have hk := kd_of (kd := kd) hb h1 hC
  refine retC (maxDC (callQ (xs := [.ref a', .ref d]) (by trivial) ⟨_, d, t, L, rfl, hb, hL, hw.few, fun H1 pl e1 h2 => maxD_end h2 ?_⟩))
  have : asked t L = maxL (lsOf t.ps L) := by
    unfold asked
    rw [hk]
    rcases hkd with rfl | rfl <;> rfl
  rw [← this]
  exact q _ e1
theorem rd_asks : ∀ vs H Q E, sp_asks K vs H Q E → r_Table_asks K { nx := fun _ H' => Q .non H', rt := Q } (start ["self", "axis", "numbers", "found", "at", "part"] vs) H := by
  rintro vs H Q E ⟨x, nl, t, L, rfl, hb, hk, hw, hnl, q⟩
  obtain ⟨a, ws, rfl, F, hps⟩ := hb.out
  obtain ⟨p, hp1, hp2⟩ := F.parts
  obtain ⟨s, ss, hs1, hs2, hs3⟩ := F.spans hk
  obtain ⟨c, cs, hc1, hc2, hc3⟩ := F.cells hk
  obtain ⟨w1, w2, w3, w4⟩ := hw.tab hk
  have hcf := (cells_fit w1 (spans := t.b.spans) fun x hx => (w4 x hx).2.1).1
  have hl := hps.1
  have hfew := hw.few
  refine s_asgQ (lst_go (by trivial) fun f H1 e1 hf h1 => ?_)
  refine seqC (evA_go (xs := [.ref p]) (ev_cons (ev_fld (ev_var rfl) (hp1.ex e1)) ev_nil) ⟨p, ws, rfl, SqL.of (e1 _ _ hp2), for_it walk_enum (fun i σ H' => ∃ (o4 o5 : Option V) (fs : List V), σ = [some (.ref a), some (.int 0), some (.ref nl), some (.ref f), o4, o5] ∧ Ex H H' ∧ H' f = some (.lst fs) ∧ AllAt (AskAt H') fs ((asksOf t.b t.ps L).take i) ∧ fs.length = i)
    ⟨none, none, [], rfl, e1, h1, by simpa using AllAt.nil, rfl⟩ (fun i σ H' _ pr => let ⟨_, _, _, _, e, _⟩ := pr; SqL.of (e _ _ hp2)) (fun i y σ H2 H3 hi pr hy => ?_) fun σ H2 pr => ?_⟩)
  · obtain ⟨o4, o5, fs, rfl, e2, h2, hfs, hfl⟩ := pr
    obtain ⟨T, u, w, rfl, hT, rfl, hu, hwi⟩ := hy
    cases hu
    obtain ⟨H4, eH, e4, h4⟩ := gen_new (.tup [.int (i : Nat), w]) hT
    rw [eH]
    refine gT h4 rfl (g2 ?_)
    have e5 := e2.trans e4
    obtain ⟨pt, hpt, hbw⟩ := hps.get hwi
    obtain ⟨ba, _, rfl, G, _⟩ := (hbw.ex e5).out
    have hi2 : i < t.ps.length := by omega
    have hci : (putCells t.b.cols t.b.spans)[i]? = some ((putCells t.b.cols t.b.spans)[i]'(by rw [hcf, w3]; exact hi2)) := List.getElem?_eq_getElem _
    have hsi : t.b.spans[i]? = some (t.b.spans[i]'(by rw [w3]; exact hi2)) := List.getElem?_eq_getElem _
    generalize (putCells t.b.cols t.b.spans)[i]'(by rw [hcf, w3]; exact hi2) = cell at hci
    generalize t.b.spans[i]'(by rw [w3]; exact hi2) = span at hsi
    obtain ⟨cv, hcv, ca, rfl, hca⟩ := hc3.at hci
    obtain ⟨sv, hsv, sa, rfl, hsa⟩ := hs3.at hsi
    have hca' := e5 _ _ hca
    have hsa' := e5 _ _ hsa
    have hnli : ((lsOf t.ps L).map V.int)[i]? = some (.int (L pt.nm)) := by
      unfold lsOf
      rw [List.getElem?_map, List.getElem?_map, hpt] <;> rfl
    have hf4 := e4 _ _ h2
    refine dropC (Ev.go (v := .ref f) (ev_var rfl) ⟨.inl ⟨rfl, _, SqL.of hf4⟩, consC (tup_go (xs := [.str pt.nm, .int cell.2, .int span.1, .int (L pt.nm)])
      (ev_cons (ev_fld (ev_var rfl) G.name) (ev_cons (ev_op (ev_op (ev_fld (ev_var rfl) (hc1.ex e5)) (ev_var rfl) (rv_ixLn (e5 _ _ hc2) hcv)) (ev_op ev_c (ev_var rfl) rv_sub) (rv_ixT hca' rfl)) (ev_cons (ev_op (ev_op (ev_fld (ev_var rfl) (hs1.ex e5)) (ev_var rfl) (rv_ixLn (e5 _ _ hs2) hsv)) (ev_var rfl) (rv_ixT hsa' rfl)) (ev_cons (ev_op (ev_var rfl) (ev_var rfl) (rv_ixLn (e5 _ _ hnl) hnli)) ev_nil)))) fun t2 H5 e6 hnt h5 => nilC ⟨f, fs, _, rfl, rfl, e6 _ _ hf4, szl (by omega), ?_⟩)⟩)
    refine ⟨_, _, fs ++ [.ref t2], rfl, (e5.trans e6).mut hf, upd_same, ?_, by simp [hfl]⟩
    have hai : (asksOf t.b t.ps L)[i]? = some ⟨pt.nm, cell.2, span.1, L pt.nm⟩ := by
      unfold asksOf
      rw [List.getElem?_map]
      have : (t.ps.zip ((putCells t.b.cols t.b.spans).zip t.b.spans))[i]? = some (pt, (cell, span)) := by
        rw [List.getElem?_zip_eq_some]
        exact ⟨hpt, by rw [List.getElem?_zip_eq_some]; exact ⟨hci, hsi⟩⟩
      rw [this] <;> rfl
    rw [List.take_add_one, hai]
    have keep : ∀ {v : V} {r : Ask}, AskAt H5 v r → AskAt (upd H5 f (.lst (fs ++ [.ref t2]))) v r := fun ⟨a, e2, h2⟩ => ⟨a, e2, by rw [upd_ne (ne_of h2 (e6 _ _ hf4) (fun z => by cases z))]; exact h2⟩
    exact AllAt.snoc (hfs.mono fun _ _ _ z => keep (z.ex (e4.trans e6))) (keep ⟨t2, rfl, h5⟩)
  · obtain ⟨o4, o5, fs, rfl, e2, h2, hfs, hfl⟩ := pr
    have hal : (asksOf t.b t.ps L).length = ws.length := by
      unfold asksOf
      rw [List.length_map, List.length_zip, List.length_zip, hcf, w3]
      omega
    rw [← hal, List.take_length] at hfs
    exact nxC (e_ret (ev_var rfl) (q _ _ fs e2 h2 hfs))
end

section
variable {K : PySem.W.Frag}
theorem rd_table_asked : ∀ vs H Q E, spM 1060 (sp_asked K) vs H Q E → r_Table_asked_least K { nx := fun _ H' => Q .non H', rt := Q } (start ["self", "leasts", "asks", "numbers", "raises", "part"] vs) H := by
  rintro vs H Q E ⟨⟨a', r, dx, fs, e, h1⟩, x, d, t, L, rfl, hb, hL, hw, q⟩
  injection e with e1 e3
  subst e1
  have hk := kd_of (kd := .table) hb h1 rfl
  obtain ⟨a, ws, ea, F, hps⟩ := hb.out
  cases ea
  obtain ⟨p, hp1, hp2⟩ := F.parts
  have hg := F.gap (by rw [hk]; decide)
  have hco := F.cols hk
  have hl := hps.1
  have hfew := hw.few
  obtain ⟨w1, w2, w3, w4⟩ := hw.tab hk
  refine seqC (ifC (testC (opQ (x := .ref p) (ev_fld (ev_var rfl) hp1) (lst_go (xs := []) ev_nil fun l H1 e1 _ hl1 => ⟨p, l, ws, rfl, rfl, SqL.of (e1 _ _ hp2), SqL.of hl1, b_end (if_end (fun h => ?_) (fun h => ?_))⟩))))
  · have hem : t.ps.isEmpty = true := by
      have h2 := List.isEmpty_iff.mp h
      rw [h2] at hl
      exact List.isEmpty_iff.mpr (List.length_eq_zero_iff.mp hl.symm)
    have : asked t L = 0 := by
      unfold asked
      rw [hk]
      simp only
      rw [if_pos hem]
    refine e_ret ev_c ?_
    rw [← this]
    exact q _ e1
  · have hem : ¬ t.ps.isEmpty = true := fun z => by
      have h2 := List.isEmpty_iff.mp z
      rw [h2] at hl
      have := List.length_eq_zero_iff.mp hl
      rw [this] at h
      cases h
    have has : asked t L = (raiseT t.b.gap (List.replicate t.b.cols 0) (asksOf t.b t.ps L)).sum + gapsIn t.b.gap t.b.cols := by
      unfold asked
      rw [hk]
      simp only
      rw [if_neg hem]
      rfl
    have hcf := (cells_fit w1 (spans := t.b.spans) fun x hx => (w4 x hx).2.1)
    have hb1 := hb.ex e1
    obtain ⟨dx1, fs1, hi1, hm1⟩ := (F.ex e1).ins
    rw [hk] at hi1
    refine nxC (s_asgQ (Ev.go (v := .ref a') (ev_var rfl) ⟨a', 1060, dx1, fs1, rfl, hi1, by decide, hm1 "asks" (by decide), consQ (x := .int 0) ev_c (consC (lcLq (f := (lsOf t.ps L).map V.int) (ev_fld (ev_var rfl) (hp1.ex e1)) (e1 _ _ hp2) (by unfold lsOf; simp [hl]) (by omega) (fun i x H' e hx y hy => ?_) fun D H2 e2 _ hD => nilC ⟨⟨dx1, fs1, e2 _ _ hi1⟩, _, D, t, L, rfl, hb1.ex e2, hk, hw, hD, fun H3 al xs e3 hal hat => ?_⟩))⟩))
    · obtain ⟨u, hu, hxu⟩ := hps.get hx
      obtain ⟨b, _, rfl, G, _⟩ := (hxu.ex (e1.trans e)).out
      unfold lsOf at hy
      rw [List.getElem?_map, List.getElem?_map, hu] at hy
      cases hy
      exact ev_has (ev_var rfl) (ev_fld (ev_var rfl) G.name) ((hL.ex (e1.trans e)).at (List.mem_of_getElem? hu))
    have e4 := e1.trans (e2.trans e3)
    have hco4 := hco.ex e4
    have hg4 := hg.ex e4
    refine seqC (asgC (callC (consQ (x := .int t.b.cols) (ev_fld (ev_var rfl) hco4) (consQ (x := .int t.b.gap) (ev_fld (ev_var rfl) hg4) (consC (opC (lst_go (xs := [.int 0]) (by trivial) fun l0 H4 e5 _ hl0 => Ev.go (v := .int t.b.cols) (ev_fld (ev_var rfl) (hco4.ex e5)) ⟨l0, _, _, rfl, rfl, hl0, by omega, by omega, sz (by simp; omega), fun fl hfl => ?_⟩)))))))
    obtain ⟨H5, eH, e6, hfl5⟩ := gen_new (.lst (List.replicate (t.b.cols : Int).toNat [V.int 0]).flatten) hfl
    rw [eH]
    have hrep : (List.replicate (t.b.cols : Int).toNat [V.int 0]).flatten = (List.replicate t.b.cols (0 : Int)).map V.int := by
      rw [Int.toNat_natCast, List.map_replicate]
      generalize t.b.cols = n
      induction n with
      | zero => rfl
      | succ n ih => rw [List.replicate_succ, List.flatten_cons, ih, List.replicate_succ]; rfl
    rw [hrep] at hfl5
    have e7 := e5.trans e6
    refine consQ (x := .ref al) (ev_var rfl) (nilC ⟨_, t.b.gap, fl, al, List.replicate t.b.cols 0, xs, _, rfl, hw.gap.1, hw.gap.2, hfl5, e7 _ _ hal, asks_ex e7 hat, ⟨by rw [List.length_replicate]; exact w2, ?_, fun a ha => ?_⟩, fun H6 tp np rp e8 htp hnp => ?_⟩)
    · unfold asksOf
      rw [List.length_map, List.length_zip]
      omega
    · unfold asksOf at ha
      obtain ⟨⟨pt, cell, span⟩, hz, rfl⟩ := List.mem_map.mp ha
      have hz2 := (List.of_mem_zip hz).2
      have hfit := hcf.2 _ hz2
      have hsp := w4 span (List.of_mem_zip hz2).2
      rw [List.length_replicate]
      exact ⟨hsp.1, hfit⟩
    · refine gT htp rfl (g2 ?_)
      have e9 := e4.trans (e7.trans e8)
      refine retC (opQ (x := .int _) (ev_cb (ev_cons (ev_var rfl) ev_nil) (cv_sum hnp)) ?_)
      refine (ev_call (xs := [.int t.b.gap, .int t.b.cols]) (ev_cons (ev_fld (ev_var rfl) (hg.ex e9)) (ev_cons (ev_fld (ev_var rfl) (hco.ex e9)) ev_nil)) fun Q q => ⟨_, _, rfl, hw.gap.1, hw.gap.2, q⟩ : Ev _ _ _ (.int (gapsIn t.b.gap t.b.cols))) _ (add_go ?_)
      rw [← has]
      exact q _ e9
theorem rd_asker : ∀ vs H Q E, sp_asker K vs H Q E → r_Box_asker K { nx := fun _ H' => Q .non H', rt := Q } (start ["self", "leasts", "part"] vs) H := by
  rintro vs H Q E ⟨x, d, t, L, rfl, hb, hL, hw, q⟩
  obtain ⟨a, ws, rfl, F, hps⟩ := hb.out
  obtain ⟨p, hp1, hp2⟩ := F.parts
  have hl := hps.1
  refine s_ifN (b := sumsB t) (evt_b (ev_boxM (vs := []) (by decide) (ev_var rfl) hb ev_nil fun Q q => ⟨_, t, rfl, hb, q⟩)) (fun h => ?_) (fun h => ?_)
  · refine retC (tup_go (xs := [.str "parts", .str ""]) (by trivial) fun q' H1 e1 _ h1 => q _ q' e1 ?_)
    unfold askerF
    rw [if_pos h]
    exact h1
  refine seqC (forL (xs := ws) (ev_fld (ev_var rfl) hp1) hp2 (fun i σ H' => ∃ o, σ = [some (.ref a), some (.ref d), o] ∧ Ex H H' ∧ ∀ j p, j < i → t.ps[j]? = some p → ¬ L p.nm = asked t L) ⟨none, rfl, Ex.refl _, fun j p hj => absurd hj (Nat.not_lt_zero _)⟩ (fun i σ H' _ pr => let ⟨_, _, e, _⟩ := pr; e _ _ hp2) (fun i y σ H1 hy pr => ?_) fun σ H1 pr => ?_)
  · obtain ⟨o, rfl, e1, hno⟩ := pr
    obtain ⟨u, hu, hbu⟩ := hps.get hy
    obtain ⟨ba, _, rfl, G, _⟩ := (hbu.ex e1).out
    have hmem := List.mem_of_getElem? hu
    refine gN (ifC (testC (opQ (x := .int (L u.nm)) (ev_has (ev_var rfl) (ev_fld (ev_var rfl) G.name) ((hL.ex e1).at hmem)) (boxM (vs := [.ref d]) (by decide) (ev_var rfl) (hb.ex e1) (by trivial) ⟨_, d, t, L, rfl, hb.ex e1, hL.ex e1, hw, fun H2 e2 => rv_eqI _ (b_end ?_)⟩))))
    by_cases hc : L u.nm = asked t L
    · rw [decide_eq_true hc]
      refine if_end (fun _ => ?_) (fun z => by cases z)
      have hs : sumsB t = false := h
      have hf : t.ps.find? (fun p => decide (L p.nm = asked t L)) = some u := by
        refine List.find?_eq_some_iff_getElem.mpr ⟨by simpa using hc, i, (List.getElem?_eq_some_iff.mp hu).1, (List.getElem?_eq_some_iff.mp hu).2, fun j hj => ?_⟩
        have hj2 : j < t.ps.length := by have := (List.getElem?_eq_some_iff.mp hu).1; omega
        simpa using hno j _ hj (List.getElem?_eq_getElem hj2)
      refine retC (tup_go (xs := [.str "part", .str u.nm]) (ev_cons ev_c (ev_cons (ev_fld (ev_var rfl) (G.name.ex e2)) ev_nil)) fun q' H3 e3 _ h3 => q _ q' (e1.trans (e2.trans e3)) ?_)
      unfold askerF
      rw [if_neg (by rw [hs]; decide), hf]
      exact h3
    · rw [decide_eq_false hc]
      refine if_end (fun z => by cases z) (fun _ => ⟨_, rfl, e1.trans e2, fun j p hj hp => ?_⟩)
      by_cases hji : j = i
      · subst hji
        rw [hu] at hp
        cases hp
        exact hc
      · exact hno j p (by omega) hp
  · obtain ⟨o, rfl, e1, hno⟩ := pr
    have hs : sumsB t = false := h
    have hf : t.ps.find? (fun p => decide (L p.nm = asked t L)) = none := by
      refine List.find?_eq_none.mpr fun p hp => ?_
      obtain ⟨j, hj⟩ := List.mem_iff_getElem?.mp hp
      have hjl := (List.getElem?_eq_some_iff.mp hj).1
      simpa using hno j p (by omega) hj
    refine nxC (retC (tup_go (xs := [.str "own", .str ""]) (by trivial) fun q' H3 e3 _ h3 => q _ q' (e1.trans e3) ?_))
    unfold askerF
    rw [if_neg (by rw [hs]; decide), hf]
    exact h3
end

section
variable {K : PySem.W.Frag}
theorem gen_to {P : Hp → Prop} {X Y : Hp} (e : X = Y) (h : P X) : P Y := by subst e; exact h
/-- a field's store: H' is what stands then -/
theorem fld_go {ta tv : TE} {σ : L2.St} {H : Hp} {a C dx : Addr} {y : V} {f : Str} {fs fs' : List (Str × V)} {D : Ends} (hv : Ev tv σ H y) (ha : Ev ta σ H (.ref a)) (hi : H a = some (.ins C dx fs)) (hc : Cls K C) (hn : NoAttr K C f) (hl : fs.length < 1000) (he : putF f y fs = fs')
    (k : ∀ H', ExB [a] H H' → H' a = some (.ins C dx fs') → D.nx σ H') : sFld K ta tv f D σ H :=
  hv _ (ha _ ⟨a, C, dx, fs, rfl, hi, hc, hn, hl, by rw [he]; exact k _ ((ExB.refl H).put (by simp)) upd_same⟩)
theorem s_fld {ta tv : TE} {σ : L2.St} {H : Hp} {a C dx : Addr} {y : V} {f : Str} {fs fs' : List (Str × V)} {D : Ends} {s2 : TS} (hv : Ev tv σ H y) (ha : Ev ta σ H (.ref a)) (hi : H a = some (.ins C dx fs)) (hc : Cls K C) (hn : NoAttr K C f) (hl : fs.length < 1000) (he : putF f y fs = fs')
    (k : ∀ H', ExB [a] H H' → H' a = some (.ins C dx fs') → s2 D σ H') : tSeq (sFld K ta tv f) s2 D σ H :=
  fld_go (D := { D with nx := s2 D }) hv ha hi hc hn hl he k
theorem rd_Box_init (F : KF K) : ∀ vs H Q E, sp_Box_init K vs H Q E → r_Box_init K { nx := fun _ H' => Q .non H', rt := Q } (start ["self", "tree", "parts"] vs) H := by
  rintro vs H Q E ⟨a, ps, tr, dx, t, xs, rfl, hi, ht, hps, q⟩
  obtain ⟨tr', o, p, w, ws, ea, h1, ⟨c, hi0, v1, v2, v3, v4, h2, h3⟩, h4, h5, h6⟩ := ht.out
  cases ea
  have n1 : tr ≠ a := ne_of h1 hi (fun z => by cases z)
  have n2 : o ≠ a := ne_of h2 hi (fun z => by cases z)
  have n3 : c ≠ a := ne_of h3 hi (fun z => by cases z)
  have n4 : ps ≠ a := ne_of hps hi (fun z => by cases z)
  have k1 : ∀ {H'}, ExB [a] H H' → H' tr = some (.tup [.str t.b.kd.s, .str t.nm, .ref o, w, .ref p]) := fun e => e _ _ (by simpa using n1) h1
  have k2 : ∀ {H'}, ExB [a] H H' → H' o = some (.tup [.ref c, v1, v2, v3, v4, .int t.b.grp]) := fun e => e _ _ (by simpa using n2) h2
  have cl := F.cls t.b.kd
  refine s_fld (y := .str t.nm) (fs' := [("name", .str t.nm)]) (ev_op (ev_var rfl) ev_c (rv_ixT h1 rfl)) (ev_var rfl) hi cl (F.na _ _ (by decide)) (Nat.le_of_ble_eq_true rfl) rfl fun H1 e1 i1 => ?_
  refine s_fld (y := .ref c) (fs' := [("name", .str t.nm), ("wide_own", .ref c)]) (ev_op (ev_op (ev_var rfl) ev_c (rv_ixT (k1 e1) rfl)) ev_c (rv_ixT (k2 e1) rfl)) (ev_var rfl) i1 cl (F.na _ _ (by decide)) (Nat.le_of_ble_eq_true rfl) rfl fun H2 e2 i2 => ?_
  have e2 := e1.trans e2
  refine s_fld (y := v1) (fs' := [("name", .str t.nm), ("wide_own", .ref c), ("high_own", v1)]) (ev_op (ev_op (ev_var rfl) ev_c (rv_ixT (k1 e2) rfl)) ev_c (rv_ixT (k2 e2) rfl)) (ev_var rfl) i2 cl (F.na _ _ (by decide)) (Nat.le_of_ble_eq_true rfl) rfl fun H3 e3 i3 => ?_
  have e3 := e2.trans e3
  refine s_fld (y := v2) (fs' := [("name", .str t.nm), ("wide_own", .ref c), ("high_own", v1), ("grow", v2)]) (ev_op (ev_op (ev_var rfl) ev_c (rv_ixT (k1 e3) rfl)) ev_c (rv_ixT (k2 e3) rfl)) (ev_var rfl) i3 cl (F.na _ _ (by decide)) (Nat.le_of_ble_eq_true rfl) rfl fun H4 e4 i4 => ?_
  have e4 := e3.trans e4
  refine s_fld (y := v3) (fs' := [("name", .str t.nm), ("wide_own", .ref c), ("high_own", v1), ("grow", v2), ("shrink", v3)]) (ev_op (ev_op (ev_var rfl) ev_c (rv_ixT (k1 e4) rfl)) ev_c (rv_ixT (k2 e4) rfl)) (ev_var rfl) i4 cl (F.na _ _ (by decide)) (Nat.le_of_ble_eq_true rfl) rfl fun H5 e5 i5 => ?_
  have e5 := e4.trans e5
  refine s_fld (y := v4) (fs' := [("name", .str t.nm), ("wide_own", .ref c), ("high_own", v1), ("grow", v2), ("shrink", v3), ("rank", v4)]) (ev_op (ev_op (ev_var rfl) ev_c (rv_ixT (k1 e5) rfl)) ev_c (rv_ixT (k2 e5) rfl)) (ev_var rfl) i5 cl (F.na _ _ (by decide)) (Nat.le_of_ble_eq_true rfl) rfl fun H6 e6 i6 => ?_
  have e6 := e5.trans e6
  refine s_fld (y := .int t.b.grp) (fs' := [("name", .str t.nm), ("wide_own", .ref c), ("high_own", v1), ("grow", v2), ("shrink", v3), ("rank", v4), ("group", .int t.b.grp)]) (ev_op (ev_op (ev_var rfl) ev_c (rv_ixT (k1 e6) rfl)) ev_c (rv_ixT (k2 e6) rfl)) (ev_var rfl) i6 cl (F.na _ _ (by decide)) (Nat.le_of_ble_eq_true rfl) rfl fun H7 e7 i7 => ?_
  have e7 := e6.trans e7
  have hps7 := e7 _ _ (by simpa using n4) hps
  refine cbQ (xs := [.ref ps]) (by trivial) (lstOf_go hps7 fun l H8 e8 hl8 h8 => Ev.go (v := .ref a) (ev_var rfl) ⟨a, _, dx, _, rfl, e8 _ _ i7, cl, F.na _ _ (by decide), Nat.le_of_ble_eq_true rfl, ?_⟩)
  have nl : l ≠ a := (ne_of_none i7 hl8).symm
  have hl0 : H l = none := by
    cases z : H l with
    | none => rfl
    | some o =>
      rw [e7 _ _ (by simpa using nl) z] at hl8
      cases hl8
  refine q _ c hi0 v1 v2 v3 v4 l ((e7.trans e8.b).put (by simp)) hl0 upd_same ?_ ?_
  · rw [upd_ne n3]
    exact (e7.trans e8.b) _ _ (by simpa using n3) h3
  · rw [upd_ne nl]
    exact h8
theorem fldAt {H : Hp} {a dx : Addr} {kd : Kd} {fs : List (Str × V)} {f : Str} {v : V} (F : KF K) (hi : H a = some (.ins kd.cls dx fs)) (hl : fs.lookup f = some v) (hf : f ∈ (["name", "wide_own", "high_own", "grow", "shrink", "rank", "group", "parts", "gap", "align", "side", "columns", "spans", "cells", "many", "wishes"] : List Str)) : FldAt K H a f v :=
  ⟨_, dx, fs, hi, F.cls kd, F.na kd f hf, hl⟩
theorem rd_Leaf_init (F : KF K) : ∀ vs H Q E, sp_boxi K .leaf vs H Q E → r_Leaf_init K { nx := fun _ H' => Q .non H', rt := Q } (start ["self", "tree", "parts"] vs) H := by
  rintro vs H Q E ⟨a, ps, tr, dx, t, xs, rfl, hi, ht, hk, hps, hw, q⟩
  obtain ⟨tr', o, p, w, ws, ea, h1, _⟩ := ht.out
  cases ea
  have n1 : tr ≠ a := ne_of h1 hi (fun z => by cases z)
  refine seqC (dropC (callQ (xs := [.ref a, .ref tr, .ref ps]) (by trivial) ⟨a, ps, tr, dx, t, xs, rfl, hi, ht, hps, fun H1 c hi0 v1 v2 v3 v4 l e1 hl0 i1 hc hl => ?_⟩))
  have h11 := e1 _ _ (by simpa using n1) h1
  have nc : c ≠ a := ne_of hc i1 (fun z => by cases z)
  have nl : l ≠ a := ne_of hl i1 (fun z => by cases z)
  refine nxC ?_
  refine fld_go (y := w) (fs' := [("name", .str t.nm), ("wide_own", .ref c), ("high_own", v1), ("grow", v2), ("shrink", v3), ("rank", v4), ("group", .int t.b.grp), ("parts", .ref l), ("wishes", w)]) (by trivial) (ev_var rfl) i1 (F.cls _) (F.na _ _ (by decide)) (Nat.le_of_ble_eq_true rfl) rfl fun H2 e2 i2 => q H2 (e1.trans e2) ?_
  have hkn : ¬ t.b.kd = .table := by rw [hk]; decide
  have iR : rsP (fun x => x = a ∨ H x = none) H2 a = some _ := rsP_in i2 (.inl rfl)
  exact ⟨⟨dx, _, iR, fun m hm => by
      simp only [mNames, List.mem_cons, List.not_mem_nil, or_false] at hm
      rcases hm with rfl | rfl | rfl | rfl | rfl <;> rfl⟩, fldAt F iR rfl (by decide), ⟨c, hi0, fldAt F iR rfl (by decide), rsP_tup (e2 _ _ (by simpa using nc) hc)⟩, fldAt F iR rfl (by decide), ⟨l, fldAt F iR rfl (by decide), rsP_in (e2 _ _ (by simpa using nl) hl) (.inr hl0)⟩,
    fun z => absurd hk z, fun z => absurd z hkn, fun z => absurd z hkn, fun z => absurd z hkn⟩
theorem rd_line_init (F : KF K) (kd : Kd) (h0 : kd ≠ .leaf) (h9 : kd ≠ .table) : ∀ vs H Q E, sp_boxi K kd vs H Q E → (tSeq (tDrop (tCallR (sp_Box_init K) E0 (tCons (tVar 0) (tCons (tVar 1) (tCons (tVar 2) tNil)))))
    (tSeq (sFld K (tVar 0) (tOp (rIxT K) (tOp (rIxT K) (tVar 1) (tC (.int 3))) (tC (.int 0))) "gap")
    (tSeq (sFld K (tVar 0) (tOp (rIxT K) (tOp (rIxT K) (tVar 1) (tC (.int 3))) (tC (.int 1))) "align")
    (sFld K (tVar 0) (tOp (rIxT K) (tOp (rIxT K) (tVar 1) (tC (.int 3))) (tC (.int 2))) "side")))) { nx := fun _ H' => Q .non H', rt := Q } (start ["self", "tree", "parts"] vs) H := by
  rintro vs H Q E ⟨a, ps, tr, dx, t, xs, rfl, hi, ht, hk, hps, hw, q⟩
  obtain ⟨tr', o, p, w, ws, ea, h1, _, hwh, _⟩ := ht.out
  cases ea
  have hln : LineAt H w t.b := by
    unfold WhatAt at hwh
    rw [hk] at hwh
    cases kd with
    | leaf => exact absurd rfl h0
    | row => exact hwh
    | col => exact hwh
    | wrap => exact hwh
    | table => exact absurd rfl h9
  obtain ⟨wq, u1, u2, rfl, hwq⟩ := hln
  have n1 : tr ≠ a := ne_of h1 hi (fun z => by cases z)
  have n2 : wq ≠ a := ne_of hwq hi (fun z => by cases z)
  have k1 : ∀ {H'}, ExB [a] H H' → H' tr = some (.tup [.str t.b.kd.s, .str t.nm, .ref o, .ref wq, .ref p]) := fun e => e _ _ (by simpa using n1) h1
  have k2 : ∀ {H'}, ExB [a] H H' → H' wq = some (.tup [.int t.b.gap, u1, u2]) := fun e => e _ _ (by simpa using n2) hwq
  refine seqC (dropC (callQ (xs := [.ref a, .ref tr, .ref ps]) (by trivial) ⟨a, ps, tr, dx, t, xs, rfl, hi, ht, hps, fun H1 c hi0 v1 v2 v3 v4 l e1 hl0 i1 hc hl => ?_⟩))
  have nc : c ≠ a := ne_of hc i1 (fun z => by cases z)
  have nl : l ≠ a := ne_of hl i1 (fun z => by cases z)
  refine nxC ?_
  refine s_fld (y := .int t.b.gap) (fs' := [("name", .str t.nm), ("wide_own", .ref c), ("high_own", v1), ("grow", v2), ("shrink", v3), ("rank", v4), ("group", .int t.b.grp), ("parts", .ref l), ("gap", .int t.b.gap)]) (ev_op (ev_op (ev_var rfl) ev_c (rv_ixT (k1 e1) rfl)) ev_c (rv_ixT (k2 e1) rfl)) (ev_var rfl) i1 (F.cls _) (F.na _ _ (by decide)) (Nat.le_of_ble_eq_true rfl) rfl fun H2 e2 i2 => ?_
  have e12 := e1.trans e2
  refine s_fld (y := u1) (fs' := [("name", .str t.nm), ("wide_own", .ref c), ("high_own", v1), ("grow", v2), ("shrink", v3), ("rank", v4), ("group", .int t.b.grp), ("parts", .ref l), ("gap", .int t.b.gap), ("align", u1)]) (ev_op (ev_op (ev_var rfl) ev_c (rv_ixT (k1 e12) rfl)) ev_c (rv_ixT (k2 e12) rfl)) (ev_var rfl) i2 (F.cls _) (F.na _ _ (by decide)) (Nat.le_of_ble_eq_true rfl) rfl fun H3 e3 i3 => ?_
  have e13 := e12.trans e3
  refine fld_go (y := u2) (fs' := [("name", .str t.nm), ("wide_own", .ref c), ("high_own", v1), ("grow", v2), ("shrink", v3), ("rank", v4), ("group", .int t.b.grp), ("parts", .ref l), ("gap", .int t.b.gap), ("align", u1), ("side", u2)]) (ev_op (ev_op (ev_var rfl) ev_c (rv_ixT (k1 e13) rfl)) ev_c (rv_ixT (k2 e13) rfl)) (ev_var rfl) i3 (F.cls _) (F.na _ _ (by decide)) (Nat.le_of_ble_eq_true rfl) rfl fun H4 e4 i4 => ?_
  have e24 := (e2.trans e3).trans e4
  refine q H4 (e13.trans e4) ?_
  have hkn : ¬ t.b.kd = .table := by rw [hk]; exact h9
  have iR : rsP (fun x => x = a ∨ H x = none) H4 a = some _ := rsP_in i4 (.inl rfl)
  exact ⟨⟨dx, _, iR, fun m hm => by
      simp only [mNames, List.mem_cons, List.not_mem_nil, or_false] at hm
      rcases hm with rfl | rfl | rfl | rfl | rfl <;> rfl⟩, fldAt F iR rfl (by decide), ⟨c, hi0, fldAt F iR rfl (by decide), rsP_tup (e24 _ _ (by simpa using nc) hc)⟩, fldAt F iR rfl (by decide), ⟨l, fldAt F iR rfl (by decide), rsP_in (e24 _ _ (by simpa using nl) hl) (.inr hl0)⟩,
    fun _ => fldAt F iR rfl (by decide), fun z => absurd z hkn, fun z => absurd z hkn, fun z => absurd z hkn⟩
theorem rd_Table_init (F : KF K) : ∀ vs H Q E, sp_boxi K .table vs H Q E → r_Table_init K { nx := fun _ H' => Q .non H', rt := Q } (start ["self", "tree", "parts"] vs) H := by
  rintro vs H Q E ⟨a, ps, tr, dx, t, xs, rfl, hi, ht, hk, hps, hw, q⟩
  obtain ⟨tr', o, p, w, ws, ea, h1, _, hwh, _⟩ := ht.out
  cases ea
  have hln : TabAt H w t.b := by
    unfold WhatAt at hwh
    rw [hk] at hwh
    exact hwh
  obtain ⟨wq, u1, s, ss, rfl, hwq, hs, hss⟩ := hln
  obtain ⟨w1, w2, w3, w4⟩ := hw.tab hk
  have hfew := hw.few
  have n1 : tr ≠ a := ne_of h1 hi (fun z => by cases z)
  have n2 : wq ≠ a := ne_of hwq hi (fun z => by cases z)
  have n3 : s ≠ a := ne_of hs hi (fun z => by cases z)
  have k1 : ∀ {H'}, ExB [a] H H' → H' tr = some (.tup [.str t.b.kd.s, .str t.nm, .ref o, .ref wq, .ref p]) := fun e => e _ _ (by simpa using n1) h1
  have k2 : ∀ {H'}, ExB [a] H H' → H' wq = some (.tup [.int t.b.cols, .int t.b.gap, u1, .ref s]) := fun e => e _ _ (by simpa using n2) hwq
  have kp : ∀ {H'} {vs : List V} {l : List (Nat × Nat)}, ExB [a] H H' → AllAt (PairAt H) vs l → AllAt (PairAt H') vs l := fun {H' vs l} e h => h.mono fun v b _ ⟨b1, e1, h2⟩ => ⟨b1, e1, e _ _ (by simpa using ne_of h2 hi (fun z => by cases z)) h2⟩
  refine seqC (dropC (callQ (xs := [.ref a, .ref tr, .ref ps]) (by trivial) ⟨a, ps, tr, dx, t, xs, rfl, hi, ht, hps, fun H1 c hi0 v1 v2 v3 v4 l e1 hl0 i1 hc hl => ?_⟩))
  have nc : c ≠ a := ne_of hc i1 (fun z => by cases z)
  have nl : l ≠ a := ne_of hl i1 (fun z => by cases z)
  refine nxC ?_
  refine s_fld (y := .int t.b.cols) (fs' := [("name", .str t.nm), ("wide_own", .ref c), ("high_own", v1), ("grow", v2), ("shrink", v3), ("rank", v4), ("group", .int t.b.grp), ("parts", .ref l), ("columns", .int t.b.cols)]) (ev_op (ev_op (ev_var rfl) ev_c (rv_ixT (k1 e1) rfl)) ev_c (rv_ixT (k2 e1) rfl)) (ev_var rfl) i1 (F.cls _) (F.na _ _ (by decide)) (Nat.le_of_ble_eq_true rfl) rfl fun H2 e2 i2 => ?_
  have e12 := e1.trans e2
  refine s_fld (y := .int t.b.gap) (fs' := [("name", .str t.nm), ("wide_own", .ref c), ("high_own", v1), ("grow", v2), ("shrink", v3), ("rank", v4), ("group", .int t.b.grp), ("parts", .ref l), ("columns", .int t.b.cols), ("gap", .int t.b.gap)]) (ev_op (ev_op (ev_var rfl) ev_c (rv_ixT (k1 e12) rfl)) ev_c (rv_ixT (k2 e12) rfl)) (ev_var rfl) i2 (F.cls _) (F.na _ _ (by decide)) (Nat.le_of_ble_eq_true rfl) rfl fun H3 e3 i3 => ?_
  have e13 := e12.trans e3
  refine s_fld (y := u1) (fs' := [("name", .str t.nm), ("wide_own", .ref c), ("high_own", v1), ("grow", v2), ("shrink", v3), ("rank", v4), ("group", .int t.b.grp), ("parts", .ref l), ("columns", .int t.b.cols), ("gap", .int t.b.gap), ("side", u1)]) (ev_op (ev_op (ev_var rfl) ev_c (rv_ixT (k1 e13) rfl)) ev_c (rv_ixT (k2 e13) rfl)) (ev_var rfl) i3 (F.cls _) (F.na _ _ (by decide)) (Nat.le_of_ble_eq_true rfl) rfl fun H4 e4 i4 => ?_
  have e14 := e13.trans e4
  -- the spans
  refine seqC (cbQ (xs := [.ref s]) (ev_cons (ev_op (ev_op (ev_var rfl) ev_c (rv_ixT (k1 e14) rfl)) ev_c (rv_ixT (k2 e14) rfl)) ev_nil) (lstOfT_go (e14 _ _ (by simpa using n3) hs) fun sl H5 e5 hsl h5 => Ev.go (v := .ref a) (ev_var rfl) ⟨a, _, dx, _, rfl, e5 _ _ i4, F.cls _, F.na _ _ (by decide), Nat.le_of_ble_eq_true rfl, ?_⟩))
  have nsl : sl ≠ a := (ne_of_none i4 hsl).symm
  obtain ⟨H6, hH6⟩ : ∃ H6, H6 = upd H5 a (.ins t.b.kd.cls dx [("name", .str t.nm), ("wide_own", .ref c), ("high_own", v1), ("grow", v2), ("shrink", v3), ("rank", v4), ("group", .int t.b.grp), ("parts", .ref l), ("columns", .int t.b.cols), ("gap", .int t.b.gap), ("side", u1), ("spans", .ref sl)]) := ⟨_, rfl⟩
  refine gen_to (P := fun X => tSeq (sFld K (tVar 0) (tCallR (sp_put_cells K) E0 (tCons (tFld K (tVar 0) "columns") (tCons (tFld K (tVar 0) "spans") tNil))) "cells")
    (sFld K (tVar 0) (tCallR (sp_last_row K) E0 (tCons (tFld K (tVar 0) "spans") (tCons (tFld K (tVar 0) "cells") tNil))) "many") { nx := fun _ H' => Q .non H', rt := Q } [some (.ref a), some (.ref tr), some (.ref ps)] X) (X := H6) (by rw [hH6]; rfl) ?_
  have i6 : H6 a = some (.ins t.b.kd.cls dx [("name", .str t.nm), ("wide_own", .ref c), ("high_own", v1), ("grow", v2), ("shrink", v3), ("rank", v4), ("group", .int t.b.grp), ("parts", .ref l), ("columns", .int t.b.cols), ("gap", .int t.b.gap), ("side", u1), ("spans", .ref sl)]) := by rw [hH6]; exact upd_same
  have e16 : ExB [a] H H6 := by rw [hH6]; exact (e14.trans e5.b).put (by simp)
  have e26 : ExB [a] H1 H6 := by rw [hH6]; exact (((e2.trans e3).trans e4).trans e5.b).put (by simp)
  have h6 : H6 sl = some (.lst ss) := by rw [hH6, upd_ne nsl]; exact h5
  have hss6 := kp e16 hss
  refine seqC (callQ (xs := [.int t.b.cols, .ref sl]) (ev_cons (ev_fld (ev_var rfl) (fldAt F i6 rfl (by decide))) (ev_cons (ev_fld (ev_var rfl) (fldAt F i6 rfl (by decide))) ev_nil)) ⟨t.b.cols, sl, ss, t.b.spans, rfl, h6, hss6, w1, w2, by omega, w4, fun H7 cl cs e7 hcln hcl hcs => Ev.go (v := .ref a) (ev_var rfl) ⟨a, _, dx, _, rfl, e7 _ _ i6, F.cls _, F.na _ _ (by decide), Nat.le_of_ble_eq_true rfl, ?_⟩⟩)
  have ncl : cl ≠ a := (ne_of_none i6 hcln).symm
  obtain ⟨fs8, hfs8⟩ : ∃ fs8 : List (Str × V), fs8 = ([("name", .str t.nm), ("wide_own", .ref c), ("high_own", v1), ("grow", v2), ("shrink", v3), ("rank", v4), ("group", .int t.b.grp), ("parts", .ref l), ("columns", .int t.b.cols), ("gap", .int t.b.gap), ("side", u1), ("spans", .ref sl), ("cells", .ref cl)] : List (Str × V)) := ⟨_, rfl⟩
  obtain ⟨H8, hH8⟩ : ∃ H8, H8 = upd H7 a (.ins t.b.kd.cls dx fs8) := ⟨_, rfl⟩
  refine gen_to (P := fun X => sFld K (tVar 0) (tCallR (sp_last_row K) E0 (tCons (tFld K (tVar 0) "spans") (tCons (tFld K (tVar 0) "cells") tNil))) "many" { nx := fun _ H' => Q .non H', rt := Q } [some (.ref a), some (.ref tr), some (.ref ps)] X) (X := H8) (by rw [hH8, hfs8]; rfl) ?_
  have i8 : H8 a = some (.ins t.b.kd.cls dx fs8) := by rw [hH8]; exact upd_same
  have e68 : ExB [a] H6 H8 := by rw [hH8]; exact e7.b.put (by simp)
  have h8s : H8 sl = some (.lst ss) := e68 _ _ (by simpa using nsl) h6
  have h8c : H8 cl = some (.lst cs) := by rw [hH8, upd_ne ncl]; exact hcl
  have hcs8 : AllAt (PairAt H8) cs (putCells t.b.cols t.b.spans) := hcs.mono fun v b _ ⟨b1, e1, h2⟩ => ⟨b1, e1, by rw [hH8, upd_ne (ne_of h2 (e7 _ _ i6) (fun z => by cases z))]; exact h2⟩
  have hss8 := kp (e16.trans e68) hss
  refine callQ (xs := [.ref sl, .ref cl]) (ev_cons (ev_fld (ev_var rfl) (fldAt F i8 (by rw [hfs8]; rfl) (by decide))) (ev_cons (ev_fld (ev_var rfl) (fldAt F i8 (by rw [hfs8]; rfl) (by decide))) ev_nil)) ⟨sl, cl, ss, cs, _, _, rfl, h8s, h8c, hss8, hcs8, by omega, fun H9 m e9 => Ev.go (v := .ref a) (ev_var rfl) ⟨a, _, dx, _, rfl, e9 _ _ i8, F.cls _, F.na _ _ (by decide), by rw [hfs8]; exact Nat.le_of_ble_eq_true rfl, ?_⟩⟩
  have i10 : upd H9 a (.ins t.b.kd.cls dx (putF "many" (.int m) fs8)) a = some (.ins t.b.kd.cls dx (putF "many" (.int m) fs8)) := upd_same
  have e810 : ExB [a] H8 (upd H9 a (.ins t.b.kd.cls dx (putF "many" (.int m) fs8))) := e9.b.put (by simp)
  generalize upd H9 a (.ins t.b.kd.cls dx (putF "many" (.int m) fs8)) = H10 at i10 e810
  refine q H10 ((e16.trans e68).trans e810) ?_
  have hkn : t.b.kd ≠ .leaf := by rw [hk]; decide
  have kp2 : ∀ {vs : List V} {l : List (Nat × Nat)}, AllAt (PairAt H8) vs l → AllAt (PairAt H10) vs l := fun {vs l} h => h.mono fun v b _ ⟨b1, e1, h2⟩ => ⟨b1, e1, e810 _ _ (by simpa using ne_of h2 i8 (fun z => by cases z)) h2⟩
  subst hfs8
  have iR : rsP (fun x => x = a ∨ H x = none) H10 a = some _ := rsP_in i10 (.inl rfl)
  have fr : ∀ {H' : Hp} {y : Addr}, ExB [a] H H' → y ≠ a → H' y = none → H y = none := fun {H' y} e n h => by
    cases z : H y with
    | none => rfl
    | some o =>
      rw [e _ _ (by simpa using n) z] at h
      cases h
  have kpR : ∀ {vs : List V} {l : List (Nat × Nat)}, AllAt (PairAt H10) vs l → AllAt (PairAt (rsP (fun x => x = a ∨ H x = none) H10)) vs l := fun {vs l} h => h.mono fun v b _ ⟨b1, e1, h2⟩ => ⟨b1, e1, rsP_tup h2⟩
  exact ⟨⟨dx, _, iR, fun m hm => by
      simp only [mNames, List.mem_cons, List.not_mem_nil, or_false] at hm
      rcases hm with rfl | rfl | rfl | rfl | rfl <;> rfl⟩, fldAt F iR rfl (by decide), ⟨c, hi0, fldAt F iR rfl (by decide), rsP_tup (e810 _ _ (by simpa using nc) (e68 _ _ (by simpa using nc) (e26 _ _ (by simpa using nc) hc)))⟩, fldAt F iR rfl (by decide), ⟨l, fldAt F iR rfl (by decide), rsP_in (e810 _ _ (by simpa using nl) (e68 _ _ (by simpa using nl) (e26 _ _ (by simpa using nl) hl))) (.inr hl0)⟩,
    fun _ => fldAt F iR rfl (by decide), fun _ => fldAt F iR rfl (by decide), fun _ => ⟨sl, ss, fldAt F iR rfl (by decide), rsP_in (e810 _ _ (by simpa using nsl) h8s) (.inr (fr e14 nsl hsl)), kpR (kp2 hss8)⟩, fun _ => ⟨cl, cs, fldAt F iR rfl (by decide), rsP_in (e810 _ _ (by simpa using ncl) h8c) (.inr (fr e16 ncl hcln)), kpR (kp2 hcs8)⟩⟩
end

section
variable {K : PySem.W.Frag}
/-- an instance made of a tree; its parts are new since H0 -/
theorem mk_box {H0 H R : Hp} {tr D : Addr} {o : Option V} {t : Tr} {kd : Kd} {ws : List V} {Q : VK} (e0 : Ex H0 H) (ht : TrAt H (.ref tr) t) (hk : t.b.kd = kd) (hD : H D = some (.lst ws)) (hws : AllAt (BoxAt K R) ws t.ps) (hR : ∀ H', Ex H H' → Ex R (rsP (fun y => H0 y = none) H')) (hw : WfB t)
    (q : ∀ H' x, Ex H H' → BoxAt K (rsP (fun y => H0 y = none) H') x t → Q x H') :
    StX.tMakeR kd.cls (sp_boxi K kd) E0 (tCons (tVar 0) (tCons (tVar 1) tNil)) [some (.ref tr), some (.ref D), o] H Q := by
  refine (show EvA _ _ _ [.ref tr, .ref D] from by trivial) _ fun x dx hx hdx hne => ?_
  have e1 : Ex H (upd (upd H dx (.own x)) x (.ins kd.cls dx [])) := (Ex.new hdx).trans (Ex.new (by rw [upd_ne hne.symm]; exact hx))
  subst hk
  refine ⟨x, D, tr, dx, t, ws, rfl, upd_same, ht.ex e1, rfl, e1 _ _ hD, hw, fun H' e2 hF => ?_⟩
  have e3 : Ex H H' := ExB.fresh e1 e2 (fun y hy => by rw [List.mem_singleton.mp hy]; exact hx)
  refine ⟨rfl, q H' _ e3 ?_⟩
  rw [← Tr.eta t]
  refine .mk (hF.ex (rsP_to (fun a o p h => ⟨h, ?_⟩) fun a zs h => h)) hws.1 fun i v u hv hu => (hws.2 i v u hv hu).ex (hR H' e3)
  rcases p with rfl | p
  · exact e0.free hx
  · exact e0.free (e1.free p)
theorem rd_of (d : Nat) : ∀ vs H Q E, sp_of K (d + 1) vs H Q E → r_of K d { nx := fun _ H' => Q .non H', rt := Q } (start ["tree", "parts", "part"] vs) H := by
  rintro vs H Q E ⟨v, t, rfl, ht, hd, hwf, q⟩
  obtain ⟨a, o, p, w, ws, rfl, h1, _, _, h4, h5⟩ := ht.out
  have hw := hwf t (self_mem t)
  have hl := h5.1
  have hfew := hw.few
  refine s_asgQ (lcT (xs := ws) (a := p) (by trivial) h4 (fun D i H' => Ex H H' ∧ H D = none ∧ ∃ acc, H' D = some (.lst acc) ∧ AllAt (BoxAt K (rsP (fun y => y ≠ D ∧ H y = none) H')) acc (t.ps.take i) ∧ acc.length = i) (fun D H' e h1 h2 => ⟨e, h1, [], h2, by simpa using AllAt.nil, rfl⟩) (fun D i H' _ pr => pr.1 _ _ h4) (fun D i x H' hx pr => ?_) fun D H1 pr => ?_)
  · obtain ⟨e, hD, acc, ha, hacc, hal⟩ := pr
    obtain ⟨u, hu, hxu⟩ := h5.get hx
    have hmem := List.mem_of_getElem? hu
    have hi := (List.getElem?_eq_some_iff.mp hx).1
    refine ⟨wipe1, yesC (callQ (xs := [x]) (by trivial) ⟨x, u, rfl, hxu.ex e, by have := deep_part hmem; omega, fun y hy => hwf y (boxes_trans (parts_in (self_mem t) hmem) hy), fun H2 z e2 hz => ?_⟩)⟩
    have h2 := e2 _ _ ha
    refine ⟨acc, h2, szl (by omega), (e.trans e2).mut hD, hD, acc ++ [z], upd_same, ?_, by simp [hal]⟩
    rw [List.take_add_one, hu]
    have tk : ∀ a zs, H2 a = some (.tup zs) → upd H2 D (.lst (acc ++ [z])) a = some (.tup zs) := fun a zs h => by rw [upd_ne (ne_of h h2 (fun z => by cases z))]; exact h
    refine AllAt.snoc (hacc.mono fun v r _ b => b.ex (rsP_to (fun a o p h => ⟨by rw [upd_ne p.1]; exact e2 _ _ h, p⟩) fun a zs h => tk a zs (e2 _ _ h))) (hz.ex (rsP_to (fun a o p h => ?_) tk))
    have nD : a ≠ D := fun z => by subst z; rw [ha] at p; cases p
    exact ⟨by rw [upd_ne nD]; exact h, nD, e.free p⟩
  · obtain ⟨e, hD, acc, ha, hacc, hal⟩ := pr
    rw [hl, List.take_length] at hacc
    have ht1 := ht.ex e
    have h11 := e _ _ h1
    have h12 : H1 a = some (.tup [.str t.b.kd.s, .str t.nm, .ref o, w, .ref p]) := h11
    have mk : ∀ kd : Kd, t.b.kd = kd → StX.tMakeR kd.cls (sp_boxi K kd) E0 (tCons (tVar 0) (tCons (tVar 1) tNil)) [some (.ref a), some (.ref D), none] H1 Q := fun kd hk =>
      mk_box e ht1 hk ha hacc (fun H' e2 => rsP_to (fun y o p h => ⟨e2 _ _ h, p.2⟩) fun y zs h => e2 _ _ h) hw fun H' x e2 hb => q H' x (e.trans e2) hb
    refine nst (σ' := [some (.ref a), some (.ref D), none]) rfl ?_
    have dec : ∀ kd : Kd, decide (t.b.kd.s = kd.s) = true → t.b.kd = kd := fun kd h => by
      have h := of_decide_eq_true h
      cases k : t.b.kd <;> rw [k] at h <;> cases kd <;> first | rfl | (exact absurd h (by decide))
    refine s_ifN (b := decide (t.b.kd.s = Kd.leaf.s)) (evt_test (ev_op (ev_op (ev_var rfl) ev_c (rv_ixT h12 rfl)) ev_c rv_eqS)) (fun h => retC (mk .leaf (dec .leaf h))) (fun n1 => ?_)
    refine s_ifN (b := decide (t.b.kd.s = Kd.row.s)) (evt_test (ev_op (ev_op (ev_var rfl) ev_c (rv_ixT h12 rfl)) ev_c rv_eqS)) (fun h => retC (mk .row (dec .row h))) (fun n2 => ?_)
    refine s_ifN (b := decide (t.b.kd.s = Kd.col.s)) (evt_test (ev_op (ev_op (ev_var rfl) ev_c (rv_ixT h12 rfl)) ev_c rv_eqS)) (fun h => retC (mk .col (dec .col h))) (fun n3 => ?_)
    refine s_ifN (b := decide (t.b.kd.s = Kd.wrap.s)) (evt_test (ev_op (ev_op (ev_var rfl) ev_c (rv_ixT h12 rfl)) ev_c rv_eqS)) (fun h => retC (mk .wrap (dec .wrap h))) (fun n4 => ?_)
    refine s_ifN (b := decide (t.b.kd.s = Kd.table.s)) (evt_test (ev_op (ev_op (ev_var rfl) ev_c (rv_ixT h12 rfl)) ev_c rv_eqS)) (fun h => retC (mk .table (dec .table h))) (fun n5 => ?_)
    exfalso
    cases k : t.b.kd with
    | leaf => rw [k] at n1; revert n1; decide
    | row => rw [k] at n2; revert n2; decide
    | col => rw [k] at n3; revert n3; decide
    | wrap => rw [k] at n4; revert n4; decide
    | table => rw [k] at n5; revert n5; decide
theorem rd_all_boxes (d : Nat) : ∀ vs H Q E, sp_all_boxes K (d + 1) vs H Q E → r_all_boxes K d { nx := fun _ H' => Q .non H', rt := Q } (start ["box", "found", "part"] vs) H := by
  rintro vs H Q E ⟨H0, x, t, rfl, e0, hb, hd, hn, q⟩
  obtain ⟨a, ws, rfl, F, hps⟩ := hb.out
  obtain ⟨p, hp1, hp2⟩ := F.parts
  have hl := hps.1
  refine s_asgQ (lst_go (xs := [.ref a]) (by trivial) fun f H1 e1 hf h1 => ?_)
  have e01 := e0.trans e1
  have hsub : ∀ i, (boxesL (t.ps.take i)).length ≤ 17 := fun i => by
    have e : boxesL t.ps = boxesL (t.ps.take i) ++ boxesL (t.ps.drop i) := by rw [← boxesL_app, List.take_append_drop]
    rw [boxes_eq, List.length_cons, e, List.length_append] at hn
    omega
  refine seqC (forL (xs := ws) (ev_fld (ev_var rfl) (hp1.ex e01)) (e01 _ _ hp2) (fun i σ H' => ∃ o fs, σ = [some (.ref a), some (.ref f), o] ∧ Ex H H' ∧ H' f = some (.lst fs) ∧ AllAt (BoxAt K H0) fs (t :: boxesL (t.ps.take i))) ⟨none, _, rfl, e1, h1, by simpa [boxesL] using AllAt.one hb⟩ (fun i σ H' _ pr => let ⟨_, _, _, e, _⟩ := pr; (e0.trans e) _ _ hp2) (fun i y σ H2 hy pr => ?_) fun σ H2 pr => ?_)
  · obtain ⟨o, fs, rfl, e2, h2, hfs⟩ := pr
    obtain ⟨u, hu, hbu⟩ := hps.get hy
    have hmem := List.mem_of_getElem? hu
    have hul : u.boxes.length ≤ 17 := by
      obtain ⟨l1, l2, e⟩ := List.append_of_mem hmem
      rw [boxes_eq, List.length_cons, e, boxesL_app, boxesL, List.length_append, List.length_append] at hn
      omega
    refine gN (dropC (Ev.go (v := .ref f) (ev_var rfl) ⟨.inl ⟨rfl, _, SqL.of h2⟩, consC (callQ (xs := [y]) (by trivial) ⟨H0, y, u, rfl, e0.trans e2, hbu, by have := deep_part hmem; omega, hul, fun H3 l xs e3 hln hl3 hxs => nilC ⟨f, l, fs, xs, rfl, rfl, e3 _ _ h2, hl3, sz ?_, ?_⟩⟩)⟩))
    · have q1 := hfs.1
      have q2 := hxs.1
      have q3 := hsub i
      rw [List.length_cons] at q1
      omega
    · refine ⟨_, fs ++ xs, rfl, (e2.trans e3).mut hf, upd_same, ?_⟩
      rw [List.take_add_one, hu]
      show AllAt _ _ (t :: boxesL (t.ps.take i ++ [u]))
      rw [boxesL_app]
      have : boxesL [u] = u.boxes := by simp [boxesL]
      rw [this]
      exact hfs.append hxs
  · obtain ⟨o, fs, rfl, e2, h2, hfs⟩ := pr
    rw [hl, List.take_length, ← boxes_eq] at hfs
    exact nxC (e_ret (ev_var rfl) (q _ _ fs e2 hf h2 hfs))
end

section
variable {K : PySem.W.Frag}
/-! dicts by names, entry by entry -/
def entG (g : Str → V) (t : Tr) : Key × V := (.inr t.nm, g t.nm)
def updS {β : Type} (g : Str → β) (nm : Str) (v : β) : Str → β := fun n => if n = nm then v else g n
theorem updS_same {β : Type} {g : Str → β} {nm : Str} {v : β} : updS g nm v nm = v := if_pos rfl
theorem updS_ne {β : Type} {g : Str → β} {nm n : Str} {v : β} (h : n ≠ nm) : updS g nm v n = g n := if_neg h
theorem ent_congr {cs : List Tr} {g g' : Str → V} (h : ∀ t ∈ cs, g t.nm = g' t.nm) : cs.map (entG g) = cs.map (entG g') := List.map_congr_left fun t ht => by unfold entG; rw [h t ht]
theorem val_in {g : Str → V} : ∀ {cs : List Tr} {n : Str}, n ∈ cs.map Tr.nm → valV (cs.map (entG g)) (.inr n) = some (g n)
  | [], n, h => by cases h
  | c :: cs, n, h => by
    rw [List.map_cons]
    by_cases e : c.nm = n
    · subst e; exact valV_pos rfl
    · rw [valV_neg (fun z => e (Sum.inr.inj z))]
      rcases List.mem_cons.mp h with h | h
      · exact absurd h.symm e
      · exact val_in h
theorem val_out {g : Str → V} {cs : List Tr} {n : Str} (h : n ∉ cs.map Tr.nm) : valV (cs.map (entG g)) (.inr n) = none := valV_none fun p hp => by
  obtain ⟨c, hc, rfl⟩ := List.mem_map.mp hp
  exact fun z => h (List.mem_map.mpr ⟨c, hc, Sum.inr.inj z⟩)
theorem put_in {g : Str → V} {cs : List Tr} {n : Str} {v : V} (h : n ∈ cs.map Tr.nm) : putK (cs.map (entG g)) (.inr n) v = cs.map (entG (updS g n v)) := by
  unfold putK
  rw [if_pos (by rw [valV_any, val_in h]; rfl), List.map_map]
  refine List.map_congr_left fun c _ => ?_
  show (if (Sum.inr c.nm : Key) = .inr n then ((.inr c.nm : Key), v) else (.inr c.nm, g c.nm)) = (.inr c.nm, updS g n v c.nm)
  by_cases e : c.nm = n
  · rw [if_pos (by rw [e]), e, updS_same]
  · rw [if_neg (fun z => e (Sum.inr.inj z)), updS_ne e]
theorem put_out {g : Str → V} {cs : List Tr} {t : Tr} {v : V} (h : t.nm ∉ cs.map Tr.nm) : putK (cs.map (entG g)) (.inr t.nm) v = (cs ++ [t]).map (entG (updS g t.nm v)) := by
  rw [putK_new _ (val_out h), List.map_append]
  have e1 : cs.map (entG g) = cs.map (entG (updS g t.nm v)) := ent_congr fun c hc => (updS_ne fun z => h (by rw [← z]; exact List.mem_map.mpr ⟨c, hc, rfl⟩)).symm
  rw [e1]
  show _ = _ ++ [((.inr t.nm : Key), updS g t.nm v t.nm)]
  rw [updS_same]
theorem entL_G (L : Str → Int) : entL L = entG fun n => .int (L n) := rfl
theorem entP_G (ra : Str → Addr) : entP ra = entG fun n => .ref (ra n) := rfl
theorem updS_int {L : Str → Int} {n : Str} {v : Int} : (updS (fun n => V.int (L n)) n (.int v)) = fun m => .int (updS L n v m) := by
  funext m
  unfold updS
  split <;> rfl
theorem updS_ref {ra : Str → Addr} {n : Str} {v : Addr} : (updS (fun n => V.ref (ra n)) n (.ref v)) = fun m => .ref (updS ra n v m) := by
  funext m
  unfold updS
  split <;> rfl
/-- d[k] = v, v by an expression that is not quiet -/
def PutC (td ty : TE) (D : Ends) (σ : L2.St) (v : V) (H1 : Hp) : Prop := td σ H1 fun x H2 => ty σ H2 fun y H3 => ∃ a H4, x = .ref a ∧ DPut H3 a y v H4 ∧ D.nx σ H4
theorem putC {td ty tv : TE} {D : Ends} {σ : L2.St} {H : Hp} (h : tv σ H (PutC td ty D σ)) : sDPut td ty tv D σ H := h
theorem put_end {td ty : TE} {D : Ends} {σ : L2.St} {H : Hp} {a : Addr} {v : V} {k : Key} {kvs : List (Key × V)} (ha : Ev td σ H (.ref a)) (hk : Ev ty σ H (kV k)) (hd : H a = some (.dK kvs)) (hn : kvs.length < 100000) (q : D.nx σ (upd H a (.dK (putK kvs k v)))) : PutC td ty D σ v H :=
  ha _ (hk _ ⟨a, _, rfl, .inl ⟨kvs, k, hd, rfl, szl hn, rfl⟩, q⟩)
theorem SetB.congr {L L' : Str → Int} {R R' : Str → Rsn} {b : Tr} (h : SetB L R b) (hb : L' b.nm = L b.nm ∧ R' b.nm = R b.nm) (hp : ∀ p ∈ b.ps, L' p.nm = L p.nm ∧ R' p.nm = R p.nm) : SetB L' R' b := by
  have ea : asked b L' = asked b L := asked_ext fun p h => (hp p h).1
  have ek : askerF b L' = askerF b L := by
    unfold askerF
    rw [ea]
    have : (b.ps.find? fun p => decide (L' p.nm = asked b L)) = b.ps.find? fun p => decide (L p.nm = asked b L) := by
      have key : ∀ l : List Tr, (∀ p ∈ l, L' p.nm = L p.nm) → (l.find? fun p => decide (L' p.nm = asked b L)) = l.find? fun p => decide (L p.nm = asked b L) := fun l => by
        induction l with
        | nil => intro _; rfl
        | cons a r ih =>
          intro h
          rw [List.find?_cons, List.find?_cons, h a List.mem_cons_self, ih fun p hp => h p (List.mem_cons_of_mem _ hp)]
      exact key _ fun p h => (hp p h).1
    rw [this]
  cases h with
  | own h1 h2 h3 => exact .own (by unfold ask; rw [hb.1, ea]; exact h1) (by rw [hb.1]; exact h2) (by rw [hb.2]; exact h3)
  | put rk h1 h2 h3 h4 h5 h6 => exact .put rk (by rw [hb.1, ea]; exact h1) (by rw [hb.1]; exact h2) h3 h4 (fun p h => by rw [(hp p h).2]; exact h5 p h) (by rw [hb.2, ek]; exact h6)
/-- two dicts behind: they are two dicts ahead -/
theorem Sets.two {H H' : Hp} {d1 d2 : Addr} {done bs : List Tr} {L L' : Str → Int} {R R' : Str → Rsn} {ra ra' : Str → Addr} (T : Two H d1 d2 done L R ra) (S : Sets H H' d1 d2 done bs L R L' R' ra ra') : Two H' d1 d2 (done ++ bs) L' R' ra' where
  ne := T.ne
  cs := S.cs
  rs := fun b hb => by
    obtain ⟨cs, _, h1, h2⟩ := S.cs
    rcases List.mem_append.mp hb with hb | hb
    · obtain ⟨k1, k2, k3⟩ := S.keep b hb
      obtain ⟨r1, r2, r3⟩ := T.rs b hb
      rw [k2, k3]
      exact ⟨S.ex _ _ (by simp; exact ⟨r2, r3⟩) r1, r2, r3⟩
    · have h := S.rs b hb
      exact ⟨h, ne_of h h1 (fun z => by cases z), ne_of h h2 (fun z => by cases z)⟩
theorem Sets.refl {H : Hp} {d1 d2 : Addr} {done : List Tr} {L : Str → Int} {R : Str → Rsn} {ra : Str → Addr} (T : Two H d1 d2 done L R ra) : Sets H H d1 d2 done [] L R L R ra ra :=
  ⟨ExB.refl _, by simpa using T.cs, fun b hb => ⟨rfl, rfl, rfl⟩, (fun b hb => by cases hb), (fun b hb => by cases hb)⟩
/-- one behind the other; the parts of the first are among them -/
theorem Sets.trans {H H1 H2 : Hp} {d1 d2 : Addr} {done as bs : List Tr} {L L1 L2 : Str → Int} {R R1 R2 : Str → Rsn} {ra ra1 ra2 : Str → Addr} (A : Sets H H1 d1 d2 done as L R L1 R1 ra ra1) (B : Sets H1 H2 d1 d2 (done ++ as) bs L1 R1 L2 R2 ra1 ra2)
    (hcl : ∀ b ∈ as, ∀ p ∈ b.ps, p ∈ as) (hT : ∀ b ∈ as, ra1 b.nm ≠ d1 ∧ ra1 b.nm ≠ d2) : Sets H H2 d1 d2 done (as ++ bs) L R L2 R2 ra ra2 where
  ex := A.ex.trans B.ex
  cs := let ⟨cs, h1, h2⟩ := B.cs; ⟨cs, by rw [← List.append_assoc]; exact h1, h2⟩
  keep := fun b hb => by
    obtain ⟨a1, a2, a3⟩ := A.keep b hb
    obtain ⟨b1, b2, b3⟩ := B.keep b (List.mem_append_left _ hb)
    exact ⟨b1.trans a1, b2.trans a2, b3.trans a3⟩
  rs := fun b hb => by
    rcases List.mem_append.mp hb with hb | hb
    · obtain ⟨b1, b2, b3⟩ := B.keep b (List.mem_append_right _ hb)
      rw [b2, b3]
      exact B.ex _ _ (by simp; exact hT b hb) (A.rs b hb)
    · exact B.rs b hb
  ok := fun b hb => by
    rcases List.mem_append.mp hb with hb | hb
    · refine (A.ok b hb).congr ?_ fun p hp => ?_
      · obtain ⟨b1, b2, _⟩ := B.keep b (List.mem_append_right _ hb)
        exact ⟨b1, b2⟩
      · obtain ⟨b1, b2, _⟩ := B.keep p (List.mem_append_right _ (hcl b hb p hp))
        exact ⟨b1, b2⟩
    · exact B.ok b hb
theorem SetB.rank {L : Str → Int} {R : Str → Rsn} {b : Tr} (h : SetB L R b) : -20 ≤ (R b.nm).rk ∧ (R b.nm).rk ≤ -20 + b.deep := by
  cases h with
  | own _ _ e => rw [e]; simp only; omega
  | put rk _ _ h1 h2 _ e => rw [e]; simp only; omega
theorem boxesL_cl {l : List Tr} : ∀ b ∈ boxesL l, ∀ p ∈ b.ps, p ∈ boxesL l := fun b hb p hp => by
  obtain ⟨q, hq, hb⟩ := mem_boxesL.mp hb
  exact mem_boxesL.mpr ⟨q, hq, parts_in hb hp⟩
theorem rd_settle (d : Nat) : ∀ vs H Q E, sp_settle K (d + 1) vs H Q E → r_settle K d { nx := fun _ H' => Q .non H', rt := Q } (start ["box", "leasts", "reasons", "rank", "part", "word", "name"] vs) H := by
  rintro vs H Q E ⟨x, d1, d2, t, done, L, R, ra, rfl, hb, hd, hwf, hown, T, hnd, hlen, q⟩
  obtain ⟨a, ws, rfl, F, hps⟩ := hb.out
  obtain ⟨p, hp1, hp2⟩ := F.parts
  have hl := hps.1
  have hw := hwf t (self_mem t)
  have dks : ∀ {H' : Hp} {dn : List Tr} {L' : Str → Int} {R' : Str → Rsn} {ra' : Str → Addr}, Two H' d1 d2 dn L' R' ra' → ∀ y ∈ [d1, d2], ∃ kvs, H' y = some (.dK kvs) := fun {H' dn L' R' ra'} T y hy => by
    obtain ⟨cs, _, h1, h2⟩ := T.cs
    simp at hy
    rcases hy with rfl | rfl
    · exact ⟨_, h1⟩
    · exact ⟨_, h2⟩
  refine s_asg ev_c ?_
  refine seqC (forL (xs := ws) (ev_fld (ev_var rfl) hp1) hp2 (fun i σ H' => ∃ (rk : Int) (o4 : Option V) (L' : Str → Int) (R' : Str → Rsn) (ra' : Str → Addr), σ = [some (.ref a), some (.ref d1), some (.ref d2), some (.int rk), o4, none, none] ∧ Sets H H' d1 d2 done (boxesL (t.ps.take i)) L R L' R' ra ra' ∧ -20 ≤ rk ∧ rk ≤ -20 + deepL t.ps ∧ ∀ p ∈ t.ps.take i, (R' p.nm).rk ≤ rk)
    ⟨-20, none, L, R, ra, rfl, by simpa [boxesL] using Sets.refl T, Int.le_refl _, by omega, fun p hp => by simp at hp⟩ (fun i σ H' _ pr => let ⟨_, _, _, _, _, _, S, _⟩ := pr; (S.ex.d (dks T)) _ _ (fun _ z => by cases z) hp2) (fun i y σ H1 hy pr => ?_) fun σ H1 pr => ?_)
  · obtain ⟨rk, o4, L1, R1, ra1, rfl, S, hr0, hr1, hrp⟩ := pr
    obtain ⟨u, hu, hbu⟩ := hps.get hy
    have hmem := List.mem_of_getElem? hu
    have eD := S.ex.d (dks T)
    have T1 := S.two T
    have hstep : t.ps.take (i + 1) = t.ps.take i ++ [u] := by rw [List.take_add_one, hu] <;> rfl
    have hbx : boxesL (t.ps.take (i + 1)) = boxesL (t.ps.take i) ++ u.boxes := by rw [hstep, boxesL_app]; simp [boxesL]
    have hsub : ∃ rest, boxesL t.ps = boxesL (t.ps.take (i + 1)) ++ rest := ⟨boxesL (t.ps.drop (i + 1)), by rw [← boxesL_app, List.take_append_drop]⟩
    obtain ⟨rest, hrest⟩ := hsub
    have hnd2 : (((done ++ boxesL (t.ps.take i)) ++ u.boxes).map Tr.nm).Nodup := by
      rw [boxes_eq, hrest, hbx] at hnd
      have e : done ++ (t :: (boxesL (t.ps.take i) ++ u.boxes ++ rest)) = done ++ ([t] ++ (boxesL (t.ps.take i) ++ u.boxes) ++ rest) := by simp
      rw [e] at hnd
      have h2 : ((done ++ boxesL (t.ps.take i)) ++ u.boxes).Sublist (done ++ ([t] ++ (boxesL (t.ps.take i) ++ u.boxes) ++ rest)) := by
        rw [List.append_assoc]
        refine List.Sublist.append_left ?_ _
        exact (List.sublist_append_right [t] _).trans (List.sublist_append_left _ rest)
      exact (h2.map _).nodup hnd
    have hlen2 : ((done ++ boxesL (t.ps.take i)) ++ u.boxes).length ≤ 17 := by
      rw [boxes_eq, hrest, hbx] at hlen
      simp at hlen ⊢
      omega
    refine gN (seqC (dropC (callQ (xs := [y, .ref d1, .ref d2]) (by trivial) ⟨y, d1, d2, u, done ++ boxesL (t.ps.take i), L1, R1, ra1, rfl, hbu.exD eD, by have := deep_part hmem; omega, fun z hz => hwf z (boxes_trans (parts_in (self_mem t) hmem) hz), fun z hz => hown z (boxes_trans (parts_in (self_mem t) hmem) hz), T1, hnd2, hlen2, fun H2 L2 R2 ra2 S2 => ?_⟩)))
    have S3 := S.trans S2 boxesL_cl (fun b hb => (T1.rs b (List.mem_append_right _ hb)).2)
    rw [← hbx] at S3
    have T2 := S2.two T1
    obtain ⟨cs, hcs, hc1, hc2⟩ := T2.cs
    have hu2 := S2.ok u (self_mem u)
    have hur := S2.rs u (self_mem u)
    have eD2 := S3.ex.d (dks T)
    obtain ⟨ub, _, rfl, G, _⟩ := (hbu.exD eD2).out
    have hv : valV (cs.map (entP ra2)) (.inr u.nm) = some (.ref (ra2 u.nm)) := by
      rw [entP_G]
      exact val_in (List.mem_map.mpr ⟨u, hcs.mem_iff.mpr (List.mem_append_right _ (self_mem u)), rfl⟩)
    have hur' : H2 (ra2 u.nm) = some (.tup [.str (R2 u.nm).w, .str (R2 u.nm).n, .int (R2 u.nm).rk]) := hur
    refine nxC (e_asg (v := .int (pmax rk (R2 u.nm).rk)) (ev_cb (ev_cons (ev_var rfl) (ev_cons (ev_op (ev_dgetS (ev_var rfl) (ev_fld (ev_var rfl) G.name) (.inl hc2) hv) ev_c (rv_ixT hur' rfl)) ev_nil)) cv_max) ⟨_, _, L2, R2, ra2, rfl, S3, ?_, ?_, fun p hp => ?_⟩)
    · rw [pmax_eq]; omega
    · have h1 := hu2.rank.2
      have h2 := deepL_le hmem
      rw [pmax_eq]; omega
    · rw [hstep] at hp
      rw [pmax_eq]
      rcases List.mem_append.mp hp with hp | hp
      · have h1 := hrp p hp
        have h2 := (S2.keep p (List.mem_append_right _ (mem_boxesL.mpr ⟨p, hp, self_mem p⟩))).2.1
        rw [h2]; omega
      · rw [List.mem_singleton] at hp
        subst hp
        omega
  · obtain ⟨rk, o4, L1, R1, ra1, rfl, S, hr0, hr1, hrp⟩ := pr
    rw [hl, List.take_length] at S hrp
    have T1 := S.two T
    have eD := S.ex.d (dks T)
    have hb1 := hb.exD eD
    have F1 := F.exD eD
    obtain ⟨cs, hcs, hc1, hc2⟩ := T1.cs
    have hnn : t.nm ∉ cs.map Tr.nm := fun z => by
      have h1 : t.nm ∈ (done ++ boxesL t.ps).map Tr.nm := (hcs.map _).mem_iff.mp z
      rw [boxes_eq] at hnd
      have e : ((done ++ t :: boxesL t.ps).map Tr.nm).Perm (t.nm :: (done ++ boxesL t.ps).map Tr.nm) := by
        rw [← List.map_cons]
        exact (List.perm_middle).map _
      exact (List.nodup_cons.mp (e.nodup_iff.mp hnd)).1 h1
    have hcl : cs.length ≤ 17 := by
      rw [hcs.length_eq]
      rw [boxes_eq] at hlen
      simp at hlen ⊢
      omega
    have hL1 : HasL H1 d1 t.ps L1 := ⟨_, .inl hc1, fun p hp => by
      rw [entL_G]
      exact val_in (List.mem_map.mpr ⟨p, hcs.mem_iff.mpr (List.mem_append_right _ (mem_boxesL.mpr ⟨p, hp, self_mem p⟩)), rfl⟩)⟩
    obtain ⟨c, hi, hw1, hw2⟩ := F1.wide
    have hg := F1.name
    -- the least
    refine nxC (seqC (putC (cbC (consQ (x := .int t.b.own) (ev_op (ev_fld (ev_var rfl) hw1) ev_c (rv_ixT hw2 rfl)) (consC (boxM (vs := [.ref d1]) (by decide) (ev_var rfl) hb1 (by trivial) ⟨_, d1, t, L1, rfl, hb1, hL1, hw, fun H2 e2 => nilC (cv_max _ (put_end (k := .inr t.nm) (ev_var rfl) (ev_fld (ev_var rfl) (hg.ex e2)) (e2 _ _ hc1) (by simp; omega) ?_))⟩))))))
    obtain ⟨H3, hH3⟩ : ∃ H3, H3 = upd H2 d1 (.dK (putK (cs.map (entL L1)) (.inr t.nm) (.int (pmax t.b.own (asked t L1))))) := ⟨_, rfl⟩
    rw [← hH3]
    obtain ⟨L2, hL2⟩ : ∃ L2, L2 = updS L1 t.nm (ask t L1) := ⟨_, rfl⟩
    have h31 : H3 d1 = some (.dK ((cs ++ [t]).map (entL L2))) := by
      rw [hH3, upd_same, entL_G, put_out hnn, hL2, entL_G, updS_int]
      rfl
    have h32 : H3 d2 = some (.dK (cs.map (entP ra1))) := by rw [hH3, upd_ne T.ne.symm]; exact e2 _ _ hc2
    have eb3 : ExB [d1, d2] H1 H3 := by rw [hH3]; exact e2.b.put (by simp)
    have eD3 : ExD H1 H3 := eb3.d (dks T1)
    have hL2k : ∀ b ∈ done ++ boxesL t.ps, L2 b.nm = L1 b.nm := fun b hb => by
      rw [hL2]
      exact updS_ne fun z => hnn (by rw [← z]; exact List.mem_map.mpr ⟨b, hcs.mem_iff.mpr hb, rfl⟩)
    have hL2t : L2 t.nm = ask t L1 := by rw [hL2]; exact updS_same
    have hpin : ∀ p ∈ t.ps, p ∈ done ++ boxesL t.ps := fun p hp => List.mem_append_right _ (mem_boxesL.mpr ⟨p, hp, self_mem p⟩)
    have haskd : asked t L2 = asked t L1 := asked_ext fun p hp => hL2k p (hpin p hp)
    have hask2 : ask t L2 = ask t L1 := by unfold ask; rw [haskd]
    -- the first reason
    refine nxC ?_
    refine seqC (putC (tup_go (xs := [.str "own", .str "", .int (-20)]) (by trivial) fun q1 H4 e4 hq1n hq1 => put_end (k := .inr t.nm) (ev_var rfl) (ev_fld (ev_var rfl) ((hg.exD eD3).ex e4)) (e4 _ _ h32) (by simp; omega) ?_))
    have nq1 : q1 ≠ d2 := ne_of hq1 (e4 _ _ h32) (fun z => by cases z)
    have nq11 : q1 ≠ d1 := ne_of hq1 (e4 _ _ h31) (fun z => by cases z)
    obtain ⟨H5, hH5⟩ : ∃ H5, H5 = upd H4 d2 (.dK (putK (cs.map (entP ra1)) (.inr t.nm) (.ref q1))) := ⟨_, rfl⟩
    rw [← hH5]
    obtain ⟨ra2, hra2⟩ : ∃ ra2, ra2 = updS ra1 t.nm q1 := ⟨_, rfl⟩
    have h52 : H5 d2 = some (.dK ((cs ++ [t]).map (entP ra2))) := by
      rw [hH5, upd_same, entP_G, put_out hnn, hra2, entP_G, updS_ref]
    have h51 : H5 d1 = some (.dK ((cs ++ [t]).map (entL L2))) := by rw [hH5, upd_ne T.ne]; exact e4 _ _ h31
    have hq15 : H5 q1 = some (.tup [.str "own", .str "", .int (-20)]) := by rw [hH5, upd_ne nq1]; exact hq1
    have eb5 : ExB [d1, d2] H1 H5 := by rw [hH5]; exact (eb3.trans e4.b).put (by simp)
    have eD5 : ExD H1 H5 := eb5.d (dks T1)
    have hb5 := hb1.exD eD5
    have F5 := F1.exD eD5
    obtain ⟨c5, hi5, hw51, hw52⟩ := F5.wide
    have hra2k : ∀ b ∈ done ++ boxesL t.ps, ra2 b.nm = ra1 b.nm := fun b hb => by
      rw [hra2]
      exact updS_ne fun z => hnn (by rw [← z]; exact List.mem_map.mpr ⟨b, hcs.mem_iff.mpr hb, rfl⟩)
    have hv5 : valV ((cs ++ [t]).map (entL L2)) (.inr t.nm) = some (.int (ask t L1)) := by
      rw [entL_G, val_in (List.mem_map.mpr ⟨t, List.mem_append_right _ List.mem_cons_self, rfl⟩), hL2t]
    -- what stands at the end, by a reason
    have fin : ∀ (H6 : Hp) (q2 : Addr) (rs : Rsn), ExB [d1, d2] H1 H6 → H6 d1 = some (.dK ((cs ++ [t]).map (entL L2))) → H6 d2 = some (.dK ((cs ++ [t]).map (entP (updS ra1 t.nm q2)))) → H6 q2 = some (rsnT rs) →
        SetB L2 (updS R1 t.nm rs) t → Q .non H6 := fun H6 q2 rs e6 h61 h62 hq2 hset => by
      have kr : ∀ b ∈ done ++ boxesL t.ps, (updS R1 t.nm rs) b.nm = R1 b.nm ∧ (updS ra1 t.nm q2) b.nm = ra1 b.nm := fun b hb => by
        have n : b.nm ≠ t.nm := fun z => hnn (by rw [← z]; exact List.mem_map.mpr ⟨b, hcs.mem_iff.mpr hb, rfl⟩)
        exact ⟨updS_ne n, updS_ne n⟩
      refine q H6 L2 (updS R1 t.nm rs) (updS ra1 t.nm q2) ⟨S.ex.trans e6, ⟨cs ++ [t], ?_, h61, h62⟩, fun b hb => ?_, fun b hb => ?_, fun b hb => ?_⟩
      · rw [boxes_eq]
        have e : (done ++ t :: boxesL t.ps).Perm (t :: (done ++ boxesL t.ps)) := List.perm_middle
        exact ((List.perm_append_singleton t cs).trans (List.Perm.cons _ hcs)).trans e.symm
      · have hm := List.mem_append_left (boxesL t.ps) hb
        obtain ⟨k1, k2, k3⟩ := S.keep b hb
        exact ⟨(hL2k b hm).trans k1, (kr b hm).1.trans k2, (kr b hm).2.trans k3⟩
      · rw [boxes_eq] at hb
        rcases List.mem_cons.mp hb with e | hb
        · rw [e, updS_same, updS_same]; exact hq2
        · have hm := List.mem_append_right done hb
          obtain ⟨r1, r2, r3⟩ := T1.rs b hm
          rw [(kr b hm).1, (kr b hm).2]
          exact e6 _ _ (by simp; exact ⟨r2, r3⟩) r1
      · rw [boxes_eq] at hb
        rcases List.mem_cons.mp hb with e | hb
        · rw [e]; exact hset
        · refine (S.ok b hb).congr ⟨hL2k b (List.mem_append_right _ hb), (kr b (List.mem_append_right _ hb)).1⟩ fun p hp => ?_
          have hm := List.mem_append_right done (boxesL_cl b hb p hp)
          exact ⟨hL2k p hm, (kr p hm).1⟩
    have h0 := hown t (self_mem t)
    refine nxC ?_
    refine e_if (b := decide (t.b.own < ask t L1)) (evt_test (ev_op (ev_dgetS (ev_var rfl) (ev_fld (ev_var rfl) F5.name) (.inl h51) hv5) (ev_op (ev_fld (ev_var rfl) hw51) ev_c (rv_ixT hw52 rfl)) rv_gt)) (fun h => ?_) (fun h => ?_)
    · have hlt : t.b.own < ask t L1 := of_decide_eq_true h
      have hLp : HasL H5 d1 t.ps L2 := ⟨_, .inl h51, fun p hp => by
        rw [entL_G]
        exact val_in (List.mem_map.mpr ⟨p, List.mem_append_left _ (hcs.mem_iff.mpr (hpin p hp)), rfl⟩)⟩
      refine seqC (asgC (boxM (vs := [.ref d1]) (by decide) (ev_var rfl) hb5 (by trivial) ⟨_, d1, t, L2, rfl, hb5, hLp, hw, fun H6 qa e6 hqa => gT hqa rfl (g2 ?_)⟩))
      refine nxC ?_
      refine putC (tup_go (xs := [.str (askerF t L2).1, .str (askerF t L2).2, .int (rk + 1)]) (by trivial) fun q2 H7 e7 hq2n hq2 => put_end (k := .inr t.nm) (ev_var rfl) (ev_fld (ev_var rfl) (F5.name.ex (e6.trans e7))) ((e6.trans e7) _ _ h52) (by simp; omega) ?_)
      have nq2 : q2 ≠ d2 := ne_of hq2 ((e6.trans e7) _ _ h52) (fun z => by cases z)
      refine fin _ q2 ⟨(askerF t L2).1, (askerF t L2).2, rk + 1⟩ ((eb5.trans (e6.trans e7).b).put (by simp)) (by rw [upd_ne T.ne]; exact (e6.trans e7) _ _ h51) ?_ (by rw [upd_ne nq2]; exact hq2) ?_
      · rw [upd_same, entP_G, put_in (List.mem_map.mpr ⟨t, List.mem_append_right _ List.mem_cons_self, rfl⟩), updS_ref, entP_G, hra2]
        have : updS (updS ra1 t.nm q1) t.nm q2 = updS ra1 t.nm q2 := by
          funext n
          unfold updS
          split <;> rfl
        rw [this]
      · have hd1 := deep_eq t
        refine .put rk ?_ (by rw [hL2t]; exact hlt) hr0 (by omega) (fun p hp => ?_) updS_same
        · rw [hL2t, haskd]
          rw [ask_eq] at hlt ⊢
          omega
        · rw [updS_ne fun z => hnn (by rw [← z]; exact List.mem_map.mpr ⟨p, hcs.mem_iff.mpr (hpin p hp), rfl⟩)]
          exact hrp p hp
    · have hnlt : ¬ t.b.own < ask t L1 := of_decide_eq_false h
      refine fin H5 q1 ⟨"own", "", -20⟩ eb5 h51 (by rw [← hra2]; exact h52) hq15 (.own (by rw [hL2t, hask2]) ?_ updS_same)
      rw [hL2t]
      rw [ask_eq] at hnlt ⊢
      omega
end

section
variable {K : PySem.W.Frag}
theorem fixTL_snoc {t : Tr} : ∀ l : List Tr, fixT.fixTL (l ++ [t]) = fixT.fixTL l ++ fixT t
  | [] => by simp [fixT.fixTL]
  | a :: r => by rw [List.cons_append, fixT.fixTL, fixT.fixTL, fixTL_snoc r, List.append_assoc]
theorem freeTL_snoc {t : Tr} : ∀ l : List Tr, freeT.freeTL (l ++ [t]) = freeT.freeTL l ++ freeT t
  | [] => by simp [freeT.freeTL]
  | a :: r => by rw [List.cons_append, freeT.freeTL, freeT.freeTL, freeTL_snoc r, List.append_assoc]
theorem fix_sub (t : Tr) : (fixT t).Sublist t.boxes := by
  induction t using Tr.ind with
  | h t ih =>
    cases t with
    | mk b ps =>
      have key : ∀ l : List Tr, (∀ p ∈ l, (fixT p).Sublist p.boxes) → (fixT.fixTL l).Sublist (boxesL l) := fun l => by
        induction l with
        | nil => intro _; exact List.Sublist.refl _
        | cons a r ih2 => intro h; rw [fixT.fixTL, boxesL]; exact (h a List.mem_cons_self).append (ih2 fun p hp => h p (List.mem_cons_of_mem _ hp))
      rw [fixT]
      split
      · exact List.Sublist.refl _
      · rw [Tr.boxes]
        exact (key ps ih).cons _
theorem fixL_sub : ∀ l : List Tr, (fixT.fixTL l).Sublist (boxesL l)
  | [] => List.Sublist.refl _
  | a :: r => by rw [fixT.fixTL, boxesL]; exact (fix_sub a).append (fixL_sub r)
theorem free_fix (t : Tr) : (freeT t ++ fixT t).Perm t.boxes := by
  induction t using Tr.ind with
  | h t ih =>
    cases t with
    | mk b ps =>
      have key : ∀ l : List Tr, (∀ p ∈ l, (freeT p ++ fixT p).Perm p.boxes) → (freeT.freeTL l ++ fixT.fixTL l).Perm (boxesL l) := fun l => by
        induction l with
        | nil => intro _; exact List.Perm.refl _
        | cons a r ih2 =>
          intro h
          rw [freeT.freeTL, fixT.fixTL, boxesL]
          have h1 := h a List.mem_cons_self
          have h2 := ih2 fun p hp => h p (List.mem_cons_of_mem _ hp)
          refine List.Perm.trans ?_ (h1.append h2)
          rw [List.append_assoc, List.append_assoc]
          refine List.Perm.append_left _ ?_
          rw [← List.append_assoc, ← List.append_assoc]
          exact List.perm_append_comm.append_right _
      rw [freeT, fixT]
      split
      · rw [List.nil_append]
      · rw [Tr.boxes, List.cons_append]
        exact (key ps ih).cons _
theorem fixL_cl {l : List Tr} : ∀ b ∈ fixT.fixTL l, ∀ p ∈ b.ps, p ∈ fixT.fixTL l := by
  have one : ∀ t : Tr, ∀ b ∈ fixT t, ∀ p ∈ b.ps, p ∈ fixT t := fun t => by
    induction t using Tr.ind with
    | h t ih =>
      cases t with
      | mk b ps =>
        have key : ∀ l : List Tr, (∀ q ∈ l, ∀ b ∈ fixT q, ∀ p ∈ b.ps, p ∈ fixT q) → ∀ b ∈ fixT.fixTL l, ∀ p ∈ b.ps, p ∈ fixT.fixTL l := fun l => by
          induction l with
          | nil => intro _ b hb; cases hb
          | cons a r ih2 =>
            intro h b hb p hp
            rw [fixT.fixTL] at hb ⊢
            rcases List.mem_append.mp hb with hb | hb
            · exact List.mem_append_left _ (h a List.mem_cons_self b hb p hp)
            · exact List.mem_append_right _ (ih2 (fun q hq => h q (List.mem_cons_of_mem _ hq)) b hb p hp)
        rw [fixT]
        split
        · exact fun b hb p hp => parts_in hb hp
        · exact key ps ih
  induction l with
  | nil => intro b hb; cases hb
  | cons a r ih =>
    intro b hb p hp
    rw [fixT.fixTL] at hb ⊢
    rcases List.mem_append.mp hb with hb | hb
    · exact List.mem_append_left _ (one a b hb p hp)
    · exact List.mem_append_right _ (ih b hb p hp)
/-- a list elsewhere is changed -/
theorem Sets.lst {H H' : Hp} {d1 d2 f : Addr} {done bs : List Tr} {L L' : Str → Int} {R R' : Str → Rsn} {ra ra' : Str → Addr} {xs ys : List V} (S : Sets H H' d1 d2 done bs L R L' R' ra ra') (h0 : H f = none) (hl : H' f = some (.lst xs)) : Sets H (upd H' f (.lst ys)) d1 d2 done bs L R L' R' ra ra' where
  ex := fun a o m h => by rw [upd_ne (ne_of_none h h0)]; exact S.ex a o m h
  cs := by
    obtain ⟨cs, h1, h2, h3⟩ := S.cs
    exact ⟨cs, h1, by rw [upd_ne (ne_of h2 hl (fun z => by cases z))]; exact h2, by rw [upd_ne (ne_of h3 hl (fun z => by cases z))]; exact h3⟩
  keep := S.keep
  rs := fun b hb => by rw [upd_ne (ne_of (S.rs b hb) hl (fun z => by cases z))]; exact S.rs b hb
  ok := S.ok
theorem Two.ex {H H' : Hp} {d1 d2 : Addr} {done : List Tr} {L : Str → Int} {R : Str → Rsn} {ra : Str → Addr} (e : Ex H H') (T : Two H d1 d2 done L R ra) : Two H' d1 d2 done L R ra :=
  ⟨T.ne, let ⟨cs, h1, h2, h3⟩ := T.cs; ⟨cs, h1, e _ _ h2, e _ _ h3⟩, fun b hb => let ⟨h1, h2⟩ := T.rs b hb; ⟨e _ _ h1, h2⟩⟩
theorem Sets.post {H H' H2 : Hp} {d1 d2 : Addr} {done bs : List Tr} {L L' : Str → Int} {R R' : Str → Rsn} {ra ra' : Str → Addr} (S : Sets H H' d1 d2 done bs L R L' R' ra ra') (e : Ex H' H2) : Sets H H2 d1 d2 done bs L R L' R' ra ra' :=
  ⟨S.ex.trans e.b, let ⟨cs, h1, h2, h3⟩ := S.cs; ⟨cs, h1, e _ _ h2, e _ _ h3⟩, S.keep, fun b hb => e _ _ (S.rs b hb), S.ok⟩
theorem two_dks {H' : Hp} {d1 d2 : Addr} {dn : List Tr} {L' : Str → Int} {R' : Str → Rsn} {ra' : Str → Addr} (T : Two H' d1 d2 dn L' R' ra') : ∀ y ∈ [d1, d2], ∃ kvs, H' y = some (.dK kvs) := fun y hy => by
  obtain ⟨cs, _, h1, h2⟩ := T.cs
  simp at hy
  rcases hy with rfl | rfl
  · exact ⟨_, h1⟩
  · exact ⟨_, h2⟩
theorem rd_free_boxes (KFs : KF K) (d : Nat) (h9 : d + 1 ≤ 9) : ∀ vs H Q E, sp_free_boxes K (d + 1) vs H Q E → r_free_boxes K d { nx := fun _ H' => Q .non H', rt := Q } (start ["box", "leasts", "reasons", "found", "part"] vs) H := by
  rintro vs H Q E ⟨H0, x, d1, d2, t, done, L, R, ra, rfl, eH0, hb0, hd, hwf, hown, T, hnd, hlen, q⟩
  have hb := hb0.exD eH0
  obtain ⟨a, ws, rfl, F, hps⟩ := hb.out
  obtain ⟨a', ws0, ea, F0, hps0⟩ := hb0.out
  cases ea
  obtain ⟨p, hp1, hp2⟩ := F.parts
  have hww : ws = ws0 := by
    obtain ⟨p0, hq1, hq2⟩ := F0.parts
    obtain ⟨C, dx, fs, i1, i2, i3, i4⟩ := hp1
    obtain ⟨C', dx', fs', j1, j2, j3, j4⟩ := hq1.exD eH0
    rw [i1] at j1
    cases j1
    rw [i4] at j4
    cases j4
    have := eH0 _ _ (fun _ z => by cases z) hq2
    rw [hp2] at this
    cases this
    rfl
  subst hww
  have hl := hps.1
  obtain ⟨dx, fs, hi, _⟩ := F.ins
  refine s_ifN (b := decide (t.b.kd = .table)) (evt_b (ev_cb (ev_cons (ev_var rfl) (ev_cons ev_c ev_nil)) fun Q q => ⟨_, _, .ref t.b.kd.cls, .ref 1060, _, rfl, .own 1060, .base (.ins hi (KFs.cls _) (KFs.tyC _) KFs.tyG KFs.tyT (KFs.tyM _)), KFs.isT t.b.kd, q⟩)) (fun h => ?_) (fun h => ?_)
  · have hk : t.b.kd = .table := of_decide_eq_true h
    have hfx : fixT t = t.boxes := by cases t with | mk b ps => rw [fixT, if_pos (show b.kd = .table from hk)]
    have hfr : freeT t = [] := by cases t with | mk b ps => rw [freeT, if_pos (show b.kd = .table from hk)]
    refine seqC (dropC (callQ (xs := [.ref a, .ref d1, .ref d2]) (by trivial) ⟨_, d1, d2, t, done, L, R, ra, rfl, hb, by omega, hwf, hown, T, hnd, hlen, fun H1 L1 R1 ra1 S => nxC (retC (lst_go (xs := []) (by trivial) fun l H2 e2 hl2 hl3 => q H2 L1 R1 ra1 l [] ?_ ?_ ?_ ?_ hl3 ?_))⟩))
    · rw [hfx]; exact S.post e2
    · cases z : H l with
      | none => rfl
      | some o =>
        by_cases m : l ∈ [d1, d2]
        · obtain ⟨cs, _, h1, h2⟩ := S.cs
          simp at m
          rcases m with rfl | rfl
          · rw [h1] at hl2; cases hl2
          · rw [h2] at hl2; cases hl2
        · rw [S.ex _ _ m z] at hl2; cases hl2
    · obtain ⟨cs, _, h1, h2⟩ := S.cs
      exact (ne_of_none h1 hl2).symm
    · obtain ⟨cs, _, h1, h2⟩ := S.cs
      exact (ne_of_none h2 hl2).symm
    · rw [hfr]; exact .nil
  have hk : ¬ t.b.kd = .table := of_decide_eq_false h
  have hfx : fixT t = fixT.fixTL t.ps := by cases t with | mk b ps => rw [fixT, if_neg (show ¬ b.kd = .table from hk)]; rfl
  have hfr : freeT t = t :: freeT.freeTL t.ps := by cases t with | mk b ps => rw [freeT, if_neg (show ¬ b.kd = .table from hk)]; rfl
  refine s_asgQ (lst_go (xs := [.ref a]) (by trivial) fun f H1 e1 hf hf1 => ?_)
  have T1 := T.ex e1
  obtain ⟨cs0, _, hz1, hz2⟩ := T.cs
  have nf1 : f ≠ d1 := (ne_of_none hz1 hf).symm
  have nf2 : f ≠ d2 := (ne_of_none hz2 hf).symm
  refine seqC (forL (xs := ws) (ev_fld (ev_var rfl) (hp1.ex e1)) (e1 _ _ hp2) (fun i σ H' => ∃ (o4 : Option V) (L' : Str → Int) (R' : Str → Rsn) (ra' : Str → Addr) (fl : List V), σ = [some (.ref a), some (.ref d1), some (.ref d2), some (.ref f), o4] ∧ Sets H H' d1 d2 done (fixT.fixTL (t.ps.take i)) L R L' R' ra ra' ∧ H' f = some (.lst fl) ∧ AllAt (BoxAt K H0) fl (t :: freeT.freeTL (t.ps.take i)))
    ⟨none, L, R, ra, _, rfl, by simpa [fixT.fixTL] using (Sets.refl T).post e1, hf1, by simpa [freeT.freeTL] using AllAt.one hb0⟩ (fun i σ H' _ pr => let ⟨_, _, _, _, _, _, S, _⟩ := pr; (S.ex.d (two_dks T)) _ _ (fun _ z => by cases z) hp2) (fun i y σ H2 hy pr => ?_) fun σ H2 pr => ?_)
  · obtain ⟨o4, L2, R2, ra2, fl, rfl, S, hf2, hfl⟩ := pr
    obtain ⟨u, hu, hbu⟩ := hps0.get hy
    have hmem := List.mem_of_getElem? hu
    have T2 := S.two T
    have hstep : t.ps.take (i + 1) = t.ps.take i ++ [u] := by rw [List.take_add_one, hu] <;> rfl
    have hrest : boxesL t.ps = boxesL (t.ps.take i) ++ (u.boxes ++ boxesL (t.ps.drop (i + 1))) := by
      have e : boxesL t.ps = boxesL (t.ps.take (i + 1)) ++ boxesL (t.ps.drop (i + 1)) := by rw [← boxesL_app, List.take_append_drop]
      rw [e, hstep, boxesL_app]
      simp [boxesL]
    have hsub : ((done ++ fixT.fixTL (t.ps.take i)) ++ u.boxes).Sublist (done ++ t.boxes) := by
      rw [boxes_eq t, hrest, List.append_assoc]
      refine List.Sublist.append_left ?_ _
      refine List.Sublist.cons _ ?_
      exact (fixL_sub _).append (List.sublist_append_left _ _)
    have hfll : fl.length ≤ 18 := by
      have h1 := hfl.1
      have h2 := (free_fix t).length_eq
      have h3 : (freeT.freeTL (t.ps.take i)).length ≤ (freeT.freeTL t.ps).length := by
        have key : ∀ a b : List Tr, freeT.freeTL (a ++ b) = freeT.freeTL a ++ freeT.freeTL b := fun a b => by
          induction a with
          | nil => rfl
          | cons x r ih => rw [List.cons_append, freeT.freeTL, freeT.freeTL, ih, List.append_assoc]
        have e : freeT.freeTL t.ps = freeT.freeTL (t.ps.take i) ++ freeT.freeTL (t.ps.drop i) := by rw [← key, List.take_append_drop]
        rw [e, List.length_append]; omega
      rw [hfr, List.length_append, List.length_cons] at h2
      rw [List.length_append] at hlen
      rw [List.length_cons] at h1
      omega
    refine gN (dropC (Ev.go (v := .ref f) (ev_var rfl) ⟨.inl ⟨rfl, _, SqL.of hf2⟩, consC (callQ (xs := [y, .ref d1, .ref d2]) (by trivial) ⟨H0, y, d1, d2, u, done ++ fixT.fixTL (t.ps.take i), L2, R2, ra2, rfl, eH0.trans (S.ex.d (two_dks T)), hbu, by have := deep_part hmem; omega, fun z hz => hwf z (boxes_trans (parts_in (self_mem t) hmem) hz), fun z hz => hown z (boxes_trans (parts_in (self_mem t) hmem) hz), T2, (hsub.map _).nodup hnd, Nat.le_trans hsub.length_le hlen, fun H3 L3 R3 ra3 l xs S3 hln hl1 hl2 hl3 hxs => nilC ?_⟩)⟩))
    have S4 := S.trans S3 fixL_cl (fun b hb => (T2.rs b (List.mem_append_right _ hb)).2)
    have hf3 : H3 f = some (.lst fl) := S3.ex _ _ (by simp; exact ⟨nf1, nf2⟩) hf2
    have hxl : xs.length ≤ 17 := by
      have h1 := hxs.1
      have h2 := (free_fix u).length_eq
      have h3 := hsub.length_le
      rw [List.length_append] at h2 h3
      omega
    refine ⟨f, l, fl, xs, rfl, rfl, hf3, hl3, sz (by omega), _, L3, R3, ra3, fl ++ xs, rfl, ?_, upd_same, ?_⟩
    · rw [hstep, fixTL_snoc]
      exact S4.lst hf hf3
    · rw [hstep, freeTL_snoc]
      exact hfl.append hxs
  · obtain ⟨o4, L2, R2, ra2, fl, rfl, S, hf2, hfl⟩ := pr
    rw [hl, List.take_length] at S hfl
    refine nxC (e_ret (ev_var rfl) (q H2 L2 R2 ra2 f fl ?_ hf nf1 nf2 hf2 ?_))
    · rw [hfx]; exact S
    · rw [hfr]; exact hfl
end

section
variable {K : PySem.W.Frag}
theorem names_ne {fr : List Tr} (hn : (fr.map Tr.nm).Nodup) {i j : Nat} {b c : Tr} (hi : fr[i]? = some b) (hj : fr[j]? = some c) (e : b.nm = c.nm) : i = j := by
  have h1 := (List.getElem?_eq_some_iff.mp hi).1
  have h2 := (List.getElem?_eq_some_iff.mp hj).1
  have e1 : (fr.map Tr.nm)[i]? = some b.nm := by rw [List.getElem?_map, hi] <;> rfl
  have e2 : (fr.map Tr.nm)[j]? = some b.nm := by rw [List.getElem?_map, hj, e] <;> rfl
  exact (List.getElem?_inj (by simpa using h1) hn).mp (e1.trans e2.symm)
theorem rd_reason : ∀ vs H Q E, sp_reason K vs H Q E → r_Rounds_reason K { nx := fun _ H' => Q .non H', rt := Q } (start ["self", "box", "least", "named", "turn", "word", "name"] vs) H := by
  rintro vs H Q E ⟨r, x, d, b, L, least, turn, named, rfl, hr, hb, hL, hw, q⟩
  obtain ⟨a, ws, rfl, F, _⟩ := hb.out
  obtain ⟨c, hi, hw1, hw2⟩ := F.wide
  refine s_ifN (b := decide (b.b.own = least)) (evt_test (ev_op (ev_op (ev_fld (ev_var rfl) hw1) ev_c (rv_ixT hw2 rfl)) (ev_var rfl) rv_eqI)) (fun h => ?_) (fun h => ?_)
  · refine retC (tup_go (xs := [.str "own", .str "", .int (2 * turn)]) (ev_cons ev_c (ev_cons ev_c (ev_cons (ev_op ev_c (ev_var rfl) (rv_mul (.inl ⟨by decide, by decide⟩))) ev_nil))) fun q1 H1 e1 _ h1 => q _ q1 e1 ?_)
    unfold reasonAt
    rw [if_pos (of_decide_eq_true h)]
    exact h1
  have n1 : ¬ b.b.own = least := of_decide_eq_false h
  refine seqC (ifC (testC (opK (boxM (vs := [.ref d]) (by decide) (ev_var rfl) hb (ev_cons (ev_fld (ev_var rfl) hr) ev_nil) ⟨_, d, b, L, rfl, hb, hL, hw, fun H1 e1 => op_end (ev_var rfl) rv_eqI (b_end (if_end (fun h => ?_) (fun h => ?_)))⟩))))
  · refine seqC (asgC (boxM (vs := [.ref d]) (by decide) (ev_var rfl) (hb.ex e1) (ev_cons (ev_fld (ev_var rfl) (hr.ex e1)) ev_nil) ⟨_, d, b, L, rfl, hb.ex e1, hL.ex e1, hw, fun H2 qa e2 hqa => gT hqa rfl (g2 ?_)⟩))
    refine nxC (retC (tup_go (xs := [.str (askerF b L).1, .str (askerF b L).2, .int (2 * turn)]) (ev_cons (ev_var rfl) (ev_cons (ev_var rfl) (ev_cons (ev_op ev_c (ev_var rfl) (rv_mul (.inl ⟨by decide, by decide⟩))) ev_nil))) fun q1 H3 e3 _ h3 => q _ q1 (e1.trans (e2.trans e3)) ?_))
    unfold reasonAt
    rw [if_neg n1, if_pos (of_decide_eq_true h)]
    exact h3
  · refine nxC (retC (tup_go (xs := [.str "alike", .str named, .int (2 * turn + 1)]) (ev_cons ev_c (ev_cons (ev_var rfl) (ev_cons (ev_op (ev_op ev_c (ev_var rfl) (rv_mul (.inl ⟨by decide, by decide⟩))) ev_c rv_add) ev_nil))) fun q1 H3 e3 _ h3 => q _ q1 (e1.trans e3) ?_))
    unfold reasonAt
    rw [if_neg n1, if_neg (of_decide_eq_false h)]
    exact h3
def Dget2K (td ty tx : TE) : Prop := True
theorem dget2_go {td ty tx : TE} {σ : L2.St} {H : Hp} {Q : VK} {a : Addr} {kvs : List (Key × V)} {k : Key} (hd : Ev td σ H (.ref a)) (h : H a = some (.dK kvs)) (hk : Ev ty σ H (kV k)) (hx : tx σ H fun z H3 => H3 a = some (.dK kvs) ∧ Q ((valV kvs k).getD z) H3) (mono : ∀ Q1 Q2 : VK, (∀ v H, Q1 v H → Q2 v H) → tx σ H Q1 → tx σ H Q2) : tDGet2 td ty tx σ H Q :=
  hd _ ⟨a, rfl, .inl ⟨kvs, .inl h⟩, hk _ (mono _ _ (fun v H3 p => ⟨_, .inl ⟨kvs, k, .inl p.1, rfl, rfl⟩, p.2⟩) hx)⟩
/-- d.get(k, v), v by an expression -/
def GetK (a : Addr) (y : V) (Q : VK) (z : V) (H3 : Hp) : Prop := ∃ o, DGet H3 a y o ∧ Q (o.getD z) H3
theorem get2C {td ty tx : TE} {σ : L2.St} {H : Hp} {Q : VK} {a : Addr} {y : V} (hd : Ev td σ H (.ref a)) (h : IsD H a) (hk : Ev ty σ H y) (hx : tx σ H (GetK a y Q)) : tDGet2 td ty tx σ H Q := hd _ ⟨a, rfl, h, hk _ hx⟩
theorem get_end {a : Addr} {k : Key} {Q : VK} {z : V} {H : Hp} {kvs : List (Key × V)} (h : H a = some (.dK kvs)) (q : Q ((valV kvs k).getD z) H) : GetK a (kV k) Q z H := ⟨_, .inl ⟨kvs, k, .inl h, rfl, rfl⟩, q⟩
theorem rd_asks_of : ∀ vs H Q E, sp_asks_of K vs H Q E → r_asks_of K { nx := fun _ H' => Q .non H', rt := Q } (start ["free", "leasts", "asks", "groups", "box"] vs) H := by
  rintro vs H Q E ⟨fl, d, xs, fr, L, rfl, hf, hfr, hall, hnd, hlen, q⟩
  have hl := hfr.1
  refine s_asgQ (newK_go fun a H1 e1 ha h1 => ?_)
  refine s_asgQ (newK_go fun g H2 e2 hg h2 => ?_)
  have hag : a ≠ g := ne_of_none h1 hg
  have ha0 := ha
  have hg0 : H g = none := e1.free hg
  refine seqC (forL (xs := xs) (ev_var rfl) ((e1.trans e2) _ _ hf) (fun i σ H' => ∃ (o : Option V) (ka kg : List (Key × V)), σ = [some (.ref fl), some (.ref d), some (.ref a), some (.ref g), o] ∧ Ex H H' ∧ H' a = some (.dK ka) ∧ H' g = some (.dK kg) ∧ ka.length ≤ i ∧ kg.length ≤ i ∧ (∀ (j : Nat) b, j < i → fr[j]? = some b → valV ka (.inr b.nm) = some (.int (ask b L))) ∧
      (∀ gr : Int, match topG L (fr.take i) gr with | some (v, n) => ∃ q, valV kg (.inl gr) = some (.ref q) ∧ H' q = some (.tup [.int v, .str n]) | none => valV kg (.inl gr) = none))
    ⟨none, [], [], rfl, e1.trans e2, e2 _ _ h1, h2, Nat.le_refl _, Nat.le_refl _, fun j b hj => absurd hj (Nat.not_lt_zero _), fun gr => by simp [topG]; rfl⟩ (fun i σ H' _ pr => let ⟨_, _, _, _, e, _⟩ := pr; e _ _ hf) (fun i y σ H3 hy pr => ?_) fun σ H3 pr => ?_)
  · obtain ⟨o, ka, kg, rfl, e3, h3, h4, hka, hkg, hva, hvg⟩ := pr
    obtain ⟨b, hbi, hby⟩ := hfr.get hy
    have hmem := List.mem_of_getElem? hbi
    have hi : i < 17 := by have := (List.getElem?_eq_some_iff.mp hbi).1; omega
    obtain ⟨hL, hw, h0⟩ := hall b hmem
    have hb3 := hby.ex e3
    obtain ⟨ba, ws, rfl, F, _⟩ := hb3.out
    obtain ⟨c, hi0, hw1, hw2⟩ := F.wide
    refine gN (seqC (putC (cbC (consQ (x := .int b.b.own) (ev_op (ev_fld (ev_var rfl) hw1) ev_c (rv_ixT hw2 rfl)) (consC (boxM (vs := [.ref d]) (by decide) (ev_var rfl) hb3 (ev_cons (ev_var rfl) ev_nil) ⟨_, d, b, L, rfl, hb3, hL.ex e3, hw, fun H4 e4 => nilC (cv_max _ (put_end (k := .inr b.nm) (ev_var rfl) (ev_fld (ev_var rfl) (F.name.ex e4)) (e4 _ _ h3) (by omega) ?_))⟩))))))
    obtain ⟨H5, hH5⟩ : ∃ H5, H5 = upd H4 a (.dK (putK ka (.inr b.nm) (.int (pmax b.b.own (asked b L))))) := ⟨_, rfl⟩
    rw [← hH5]
    have e5 : Ex H H5 := by rw [hH5]; exact (e3.trans e4).mut ha0
    have h5a : H5 a = some (.dK (putK ka (.inr b.nm) (.int (ask b L)))) := by rw [hH5]; exact upd_same
    have h5g : H5 g = some (.dK kg) := by rw [hH5, upd_ne hag.symm]; exact e4 _ _ h4
    have hb5 := hby.ex e5
    obtain ⟨ba', ws', ea, F5, _⟩ := hb5.out
    cases ea
    have hva5 : ∀ (j : Nat) c, j < i + 1 → fr[j]? = some c → valV (putK ka (.inr b.nm) (.int (ask b L))) (.inr c.nm) = some (.int (ask c L)) := fun j c hj hc => by
      rw [valV_put]
      by_cases e : (Sum.inr c.nm : Key) = .inr b.nm
      · have := names_ne hnd hc hbi (Sum.inr.inj e)
        subst this
        rw [hbi] at hc
        cases hc
        rw [if_pos rfl]
      · rw [if_neg e]
        refine hva j c ?_ hc
        by_cases hji : j = i
        · subst hji
          rw [hbi] at hc
          cases hc
          exact absurd rfl e
        · omega
    have hvg5 : ∀ gr : Int, match topG L (fr.take i) gr with | some (v, n) => ∃ q, valV kg (.inl gr) = some (.ref q) ∧ H5 q = some (.tup [.int v, .str n]) | none => valV kg (.inl gr) = none := fun gr => by
      have h := hvg gr
      cases k : topG L (fr.take i) gr with
      | none => rw [k] at h; exact h
      | some p =>
        obtain ⟨v, n⟩ := p
        rw [k] at h
        obtain ⟨q', h1, h2⟩ := h
        refine ⟨q', h1, ?_⟩
        have ht4 := e4 _ _ h2
        rw [hH5, upd_ne (ne_of ht4 (e4 _ _ h3) (fun z => by cases z))]
        exact ht4
    have hlk : (putK ka (.inr b.nm) (V.int (ask b L))).length ≤ i + 1 := by have := length_putK ka (.inr b.nm : Key) (V.int (ask b L)); omega
    have hav : valV (putK ka (.inr b.nm) (.int (ask b L))) (.inr b.nm) = some (.int (ask b L)) := hva5 i b (by omega) hbi
    have hstep : ∀ gr, topG L (fr.take (i + 1)) gr = topStep L gr (topG L (fr.take i) gr) b := fun gr => by
      unfold topG
      rw [List.take_add_one, hbi, List.foldl_append] <;> rfl
    -- where the groups stay
    have stay : ∀ H6, Ex H5 H6 → (∀ gr, topStep L gr (topG L (fr.take i) gr) b = topG L (fr.take i) gr) → ∃ (o : Option V) (ka kg : List (Key × V)), [some (V.ref fl), some (.ref d), some (.ref a), some (.ref g), some (.ref ba)] = [some (V.ref fl), some (.ref d), some (.ref a), some (.ref g), o] ∧ Ex H H6 ∧ H6 a = some (.dK ka) ∧ H6 g = some (.dK kg) ∧ ka.length ≤ i + 1 ∧ kg.length ≤ i + 1 ∧ (∀ (j : Nat) b, j < i + 1 → fr[j]? = some b → valV ka (.inr b.nm) = some (.int (ask b L))) ∧
      (∀ gr : Int, match topG L (fr.take (i + 1)) gr with | some (v, n) => ∃ q, valV kg (.inl gr) = some (.ref q) ∧ H6 q = some (.tup [.int v, .str n]) | none => valV kg (.inl gr) = none) := fun H6 e6 hst => by
      refine ⟨_, _, kg, rfl, e5.trans e6, e6 _ _ h5a, e6 _ _ h5g, hlk, by omega, hva5, fun gr => ?_⟩
      rw [hstep, hst]
      have h := hvg5 gr
      cases k : topG L (fr.take i) gr with
      | none => rw [k] at h; exact h
      | some p =>
        obtain ⟨v, n⟩ := p
        rw [k] at h
        obtain ⟨q', h1, h2⟩ := h
        exact ⟨q', h1, e6 _ _ h2⟩
    refine nxC (ifC (evt_test (b := decide (0 < b.b.grp)) (ev_op (ev_fld (ev_var rfl) F5.group) ev_c rv_gt) _ ?_))
    by_cases hgp : 0 < b.b.grp
    · rw [decide_eq_true hgp, if_pos rfl]
      refine testC (opQ (x := .int (ask b L)) (ev_dgetS (ev_var rfl) (ev_fld (ev_var rfl) F5.name) (.inl h5a) hav) (opK (get2C (y := .int b.b.grp) (ev_var rfl) (.inl ⟨_, .inl h5g⟩) (ev_fld (ev_var rfl) F5.group) (tup_go (xs := [.int (-1), .str ""]) (by trivial) fun dq H6 e6 hdq h6 => get_end (k := .inl b.b.grp) (e6 _ _ h5g) ?_))))
      have h := hvg5 b.b.grp
      obtain ⟨tv, tn, qq, hsel, hqq, hcmp⟩ : ∃ (tv : Int) (tn : Str) (qq : Addr), (valV kg (.inl b.b.grp)).getD (.ref dq) = .ref qq ∧ H6 qq = some (.tup [.int tv, .str tn]) ∧ tv = ((topG L (fr.take i) b.b.grp).getD (-1, "")).1 := by
        cases k : topG L (fr.take i) b.b.grp with
        | none =>
          rw [k] at h
          exact ⟨-1, "", dq, by rw [h]; rfl, h6, rfl⟩
        | some p =>
          obtain ⟨v, n⟩ := p
          rw [k] at h
          obtain ⟨q', h1, h2⟩ := h
          exact ⟨v, n, q', by rw [h1]; rfl, e6 _ _ h2, rfl⟩
      rw [hsel]
      refine op_end (y := .int 0) ev_c (rv_ixT hqq rfl) (rv_gt _ (b_end (if_end (fun hh => ?_) (fun hh => ?_))))
      · have hlt : tv < ask b L := of_decide_eq_true hh
        refine putC (tup_go (xs := [.int (ask b L), .str b.nm]) (ev_cons (ev_dgetS (ev_var rfl) (ev_fld (ev_var rfl) (F5.name.ex e6)) (.inl (e6 _ _ h5a)) hav) (ev_cons (ev_fld (ev_var rfl) (F5.name.ex e6)) ev_nil)) fun qn H7 e7 hqn h7 => put_end (k := .inl b.b.grp) (ev_var rfl) (ev_fld (ev_var rfl) (F5.group.ex (e6.trans e7))) ((e6.trans e7) _ _ h5g) (by omega) ?_)
        have e67 := e6.trans e7
        have h7g := e67 _ _ h5g
        refine ⟨_, putK ka (.inr b.nm) (.int (ask b L)), putK kg (.inl b.b.grp) (.ref qn), rfl, (e5.trans e67).mut hg0, by rw [upd_ne hag]; exact e67 _ _ h5a, upd_same, hlk, by have := length_putK kg (.inl b.b.grp : Key) (V.ref qn); omega, hva5, fun gr => ?_⟩
        rw [hstep]
        unfold topStep
        by_cases hgr : b.b.grp = gr
        · subst hgr
          rw [if_pos ⟨rfl, hgp, by rw [← hcmp]; exact hlt⟩]
          refine ⟨qn, by rw [valV_put, if_pos rfl], ?_⟩
          rw [upd_ne (ne_of h7 h7g (fun z => by cases z))]
          exact h7
        · rw [if_neg (fun z => hgr z.1)]
          have h := hvg5 gr
          have hne : ¬ (Sum.inl gr : Key) = .inl b.b.grp := fun z => hgr (Sum.inl.inj z).symm
          cases k : topG L (fr.take i) gr with
          | none =>
            rw [k] at h
            show valV _ _ = none
            rw [valV_put, if_neg hne]
            exact h
          | some p =>
            obtain ⟨v, n⟩ := p
            rw [k] at h
            obtain ⟨q', h1, h2⟩ := h
            refine ⟨q', by rw [valV_put, if_neg hne]; exact h1, ?_⟩
            have := e67 _ _ h2
            rw [upd_ne (ne_of this h7g (fun z => by cases z))]
            exact this
      · have hnlt : ¬ tv < ask b L := of_decide_eq_false hh
        refine stay H6 e6 fun gr => ?_
        unfold topStep
        refine if_neg fun z => ?_
        obtain ⟨z1, z2, z3⟩ := z
        subst z1
        rw [← hcmp] at z3
        exact hnlt z3
    · rw [decide_eq_false hgp, if_neg (by decide)]
      refine if_end (fun z => by cases z) (fun _ => stay H5 (Ex.refl _) fun gr => ?_)
      unfold topStep
      refine if_neg fun z => ?_
      obtain ⟨z1, z2, z3⟩ := z
      omega
  · obtain ⟨o, ka, kg, rfl, e3, h3, h4, hka, hkg, hva, hvg⟩ := pr
    refine nxC (retC (tup_go (xs := [.ref a, .ref g]) (by trivial) fun t H4 e4 _ ht => q H4 t a g ka kg (e3.trans e4) ht (e4 _ _ h3) (e4 _ _ h4) (fun b hb => ?_) (fun b hb => ?_)))
    · obtain ⟨j, hj⟩ := List.mem_iff_getElem?.mp hb
      have := (List.getElem?_eq_some_iff.mp hj).1
      exact hva j b (by omega) hj
    · have h := hvg b.b.grp
      rw [hl, List.take_length] at h
      cases k : topG L fr b.b.grp with
      | none => rw [k] at h; exact h
      | some p =>
        obtain ⟨v, n⟩ := p
        rw [k] at h
        obtain ⟨q', h1, h2⟩ := h
        exact ⟨q', h1, e4 _ _ h2⟩
end

section
variable {K : PySem.W.Frag}
theorem flatS (l : List Str) : (l.map V.str).all flatV = true := by
  rw [List.all_map]
  exact List.all_eq_true.mpr fun _ _ => rfl
theorem inS (n : Str) (l : List Str) : inV (.str n) (l.map V.str) = decide (n ∈ l) := by
  unfold inV
  rw [List.any_map, Bool.eq_iff_iff, List.any_eq_true, decide_eq_true_eq]
  constructor
  · rintro ⟨x, hx, e⟩
    have : x = n := by simpa [eqV] using e
    rw [← this]
    exact hx
  · exact fun h => ⟨n, h, by simp [eqV]⟩
/-- x in a list of texts, the list by an expression -/
theorem in_end {σ : L2.St} {H : Hp} {Q : VK} {l : Addr} {ns : List Str} {n : Str} {neg : Bool} (h : H l = some (.lst (ns.map V.str))) (q : Q (.bl (if neg then !decide (n ∈ ns) else decide (n ∈ ns))) H) : rIn K neg (.str n) (.ref l) H Q :=
  ⟨l, _, rfl, .inl (SqL.of h), rfl, flatS ns, by rw [inS]; exact q⟩
def AndK (tb : TE) (σ : L2.St) (Q : VK) (x : V) (H1 : Hp) : Prop := ∃ c, x = .bl c ∧ if c = true then tb σ H1 Q else Q (.bl false) H1
theorem andC {ta tb : TE} {σ : L2.St} {H : Hp} {Q : VK} (h : ta σ H (AndK tb σ Q)) : tAndV ta tb σ H Q := h
theorem and_end {tb : TE} {σ : L2.St} {H : Hp} {Q : VK} {c : Bool} (h1 : c = true → tb σ H Q) (h2 : c = false → Q (.bl false) H) : AndK tb σ Q (.bl c) H := ⟨c, rfl, by
  cases c with
  | true => exact h1 rfl
  | false => exact h2 rfl⟩
def OrK (u : TT) (σ : L2.St) (Q : Bool → Hp → Prop) (c : Bool) (H1 : Hp) : Prop := if c = true then Q true H1 else u σ H1 Q
theorem orC {t u : TT} {σ : L2.St} {H : Hp} {Q : Bool → Hp → Prop} (h : t σ H (OrK u σ Q)) : tOr t u σ H Q := h
theorem or_end {u : TT} {σ : L2.St} {H : Hp} {Q : Bool → Hp → Prop} {c : Bool} (h1 : c = true → Q true H) (h2 : c = false → u σ H Q) : OrK u σ Q c H := by
  cases c with
  | true => exact h1 rfl
  | false => exact h2 rfl
def AnK (u : TT) (σ : L2.St) (Q : Bool → Hp → Prop) (c : Bool) (H1 : Hp) : Prop := if c = true then u σ H1 Q else Q false H1
theorem anC {t u : TT} {σ : L2.St} {H : Hp} {Q : Bool → Hp → Prop} (h : t σ H (AnK u σ Q)) : tAnd t u σ H Q := h
theorem an_end {u : TT} {σ : L2.St} {H : Hp} {Q : Bool → Hp → Prop} {c : Bool} (h1 : c = true → u σ H Q) (h2 : c = false → Q false H) : AnK u σ Q c H := by
  cases c with
  | true => exact h1 rfl
  | false => exact h2 rfl
theorem HasP.at {H : Hp} {d : Addr} {bs : List Tr} {P : Str → Rsn} (h : HasP H d bs P) {b : Tr} (hb : b ∈ bs) : ∃ a, HasD H d b.nm (.ref a) ∧ H a = some (rsnT (P b.nm)) := let ⟨k, h1, h2⟩ := h; let ⟨a, q1, q2⟩ := h2 b hb; ⟨a, ⟨k, h1, q1⟩, q2⟩
theorem mates_mem {bs : List Tr} {g : Int} {n : Str} (h : n ∈ mates bs g) : ∃ c ∈ bs, c.nm = n := let ⟨c, h1, _, _, h2⟩ := mates_of h; ⟨c, h1, h2⟩
theorem rd_reason_holds : ∀ vs H Q E, sp_reason_holds K vs H Q E → r_reason_holds K { nx := fun _ H' => Q .non H', rt := Q } (start ["box", "leasts", "paper", "groups", "word", "name", "rank", "least", "lower", "part"] vs) H := by
  rintro vs H Q E ⟨x, d, pd, gd, b, bs, L, P, rfl, hb, hbm, hpm, hL, hP, hG, hw, hlen, q⟩
  obtain ⟨a, ws, rfl, F, hps⟩ := hb.out
  obtain ⟨p, hp1, hp2⟩ := F.parts
  obtain ⟨c, hi, hw1, hw2⟩ := F.wide
  have hl := hps.1
  have hfew := hw.few
  obtain ⟨qa, hqa1, hqa2⟩ := hP.at hbm
  have hLp : HasL H d b.ps L := let ⟨k, h1, h2⟩ := hL; ⟨k, h1, fun p hp => h2 p (hpm p hp)⟩
  refine seqC (asgQ (x := .ref qa) (ev_has (ev_var rfl) (ev_fld (ev_var rfl) F.name) hqa1) (gT hqa2 rfl (g3 ?_)))
  refine nxC (s_asg (v := .int (L b.nm)) (ev_has (ev_var rfl) (ev_fld (ev_var rfl) F.name) (hL.at hbm)) ?_)
  generalize hw' : (P b.nm).w = w
  generalize hn' : (P b.nm).n = n
  generalize hr' : (P b.nm).rk = rk
  refine nst (σ' := [some (V.ref a), some (V.ref d), some (V.ref pd), some (V.ref gd), some (V.str w), some (V.str n), some (V.int rk), some (V.int (L b.nm)), none, none]) rfl ?_
  have eq : reasonB bs L P b = if w = "own" then decide (n = "") && decide (L b.nm = pmax b.b.own 0)
      else if w = "parts" then decide (n = "") && (b.ps.all fun p => decide ((P p.nm).rk < rk)) && sumsB b && decide (L b.nm = asked b L)
      else if w = "part" then !sumsB b && decide (n ∈ b.ps.map Tr.nm) && decide (L b.nm = asked b L) && decide ((P n).rk < rk) && decide (L b.nm = L n)
      else decide (w = "alike") && !decide (b.b.grp = 0) && decide (n ∈ mates bs b.b.grp) && decide ((P n).rk < rk) && decide (L b.nm = L n) := by
    unfold reasonB
    rw [hw', hn', hr']
  rw [eq] at q
  have askd : ∀ {σ : L2.St} {H1 : Hp} {Q : VK}, Ex H H1 → σ[0]? = some (some (.ref a)) → σ[1]? = some (some (.ref d)) → (∀ H2, Ex H1 H2 → Q (.int (asked b L)) H2) → tMethD [178, 801, 876, 1060, 1163] "asked_least" (sp_asked K) E0 (tVar 0) (tCons (tVar 1) tNil) σ H1 Q := fun e h0 h1 q =>
    boxM (vs := [.ref d]) (by decide) (ev_var h0) (hb.ex e) (ev_cons (ev_var h1) ev_nil) ⟨_, d, b, L, rfl, hb.ex e, hLp.ex e, hw, q⟩
  -- the last: lower, and the same
  have last : ∀ {H1 : Hp} {o8 o9 : Option V} {D : Ends}, D.rt = Q → Ex H H1 → (∃ c ∈ bs, c.nm = n) → (∀ H2, Ex H1 H2 → Q (.bl (decide ((P n).rk < rk) && decide (L b.nm = L n))) H2) → tRet (tAndV (tOp qLt (tOp (rIxT K) (tDGet (tVar 2) (tVar 5)) (tC (.int 2))) (tVar 6)) (tOp rEq (tVar 7) (tDGet (tVar 1) (tVar 5)))) D
      [some (V.ref a), some (V.ref d), some (V.ref pd), some (V.ref gd), some (V.str w), some (V.str n), some (V.int rk), some (V.int (L b.nm)), o8, o9] H1 := fun {H1 o8 o9 D} hD e hc k => by
    obtain ⟨c, hcb, rfl⟩ := hc
    obtain ⟨qc, hq1, hq2⟩ := (hP.ex e).at hcb
    refine e_ret (ev_andV (b := decide ((P c.nm).rk < rk)) (ev_op (ev_op (ev_has (ev_var rfl) (ev_var rfl) hq1) ev_c (rv_ixT hq2 rfl)) (ev_var rfl) rv_lt) (fun _ => ev_op (ev_var rfl) (ev_has (ev_var rfl) (ev_var rfl) ((hL.ex e).at hcb)) rv_eqI)) ?_
    rw [hD]
    exact k H1 (Ex.refl _)
  refine s_ifN (b := decide (w = "own")) (by trivial) (fun h => ?_) (fun h => ?_)
  · rw [if_pos (of_decide_eq_true h)] at q
    exact e_ret (ev_andV (b := decide (n = "")) (ev_op (ev_var rfl) ev_c rv_eqS) (fun _ => ev_op (ev_var rfl) (ev_cb (ev_cons (ev_op (ev_fld (ev_var rfl) hw1) ev_c (rv_ixT hw2 rfl)) (ev_cons (ev_boxM (vs := []) (by decide) (ev_var rfl) hb ev_nil fun Q q => ⟨_, b, rfl, hb, q⟩) ev_nil)) cv_max) rv_eqI)) (q H (Ex.refl _))
  rw [if_neg (of_decide_eq_false h)] at q
  refine s_ifN (b := decide (w = "parts")) (by trivial) (fun h => ?_) (fun h => ?_)
  · rw [if_pos (of_decide_eq_true h)] at q
    refine s_asgQ (cbC (consC (lcLq (f := (b.ps.map fun p => decide ((P p.nm).rk < rk)).map V.bl) (ev_fld (ev_var rfl) hp1) hp2 (by simp [hl]) (by omega) (fun i x H' e hx y hy => ?_) fun D H1 e1 _ hD => nilC (cv_all hD _ ?_))))
    · obtain ⟨u, hu, hxu⟩ := hps.get hx
      obtain ⟨ub, _, rfl, G, _⟩ := (hxu.ex e).out
      rw [List.getElem?_map, List.getElem?_map, hu] at hy
      cases hy
      obtain ⟨qu, hq1, hq2⟩ := (hP.ex e).at (hpm u (List.mem_of_getElem? hu))
      exact ev_op (ev_op (ev_has (ev_var rfl) (ev_fld (ev_var rfl) G.name) hq1) ev_c (rv_ixT hq2 rfl)) (ev_var rfl) rv_lt
    have hall : (b.ps.map fun p => decide ((P p.nm).rk < rk)).all id = b.ps.all fun p => decide ((P p.nm).rk < rk) := by rw [List.all_map]; rfl
    rw [hall]
    generalize (b.ps.all fun p => decide ((P p.nm).rk < rk)) = al at q ⊢
    refine nst (σ' := [some (V.ref a), some (V.ref d), some (V.ref pd), some (V.ref gd), some (V.str w), some (V.str n), some (V.int rk), some (V.int (L b.nm)), some (V.bl al), none]) rfl ?_
    refine retC (andC ((ev_op (ev_var rfl) ev_c rv_eqS : Ev _ _ _ (.bl (decide (n = "")))) _ (and_end (fun h1 => ?_) (fun h1 => ?_))))
    · refine andC (ev_var (v := .bl al) rfl _ (and_end (fun h2 => ?_) (fun h2 => ?_)))
      · refine andC ((ev_boxM (vs := []) (by decide) (ev_var rfl) (hb.ex e1) ev_nil fun Q q => ⟨_, b, rfl, hb.ex e1, q⟩ : Ev _ _ _ (.bl (sumsB b))) _ (and_end (fun h3 => ?_) (fun h3 => ?_)))
        · refine opQ (x := .int (L b.nm)) (ev_var rfl) (askd e1 rfl rfl fun H2 e2 => rv_eqI _ ?_)
          have := q H2 (e1.trans e2)
          rw [h1, h2, h3] at this
          exact this
        · have := q H1 e1
          rw [h1, h2, h3] at this
          exact this
      · have := q H1 e1
        rw [h1, h2] at this
        exact this
    · have := q H1 e1
      rw [h1] at this
      exact this
  rw [if_neg (of_decide_eq_false h)] at q
  refine s_ifN (b := decide (w = "part")) (by trivial) (fun h => ?_) (fun h => ?_)
  · rw [if_pos (of_decide_eq_true h)] at q
    refine seqC (ifC (orC (evt_b (ev_boxM (vs := []) (by decide) (ev_var rfl) hb ev_nil fun Q q => ⟨_, b, rfl, hb, q⟩ : Ev _ _ _ (.bl (sumsB b))) _ (or_end (fun h1 => ?_) (fun h1 => ?_)))))
    · refine if_end (fun _ => e_ret ev_c ?_) (fun z => by cases z)
      have := q H (Ex.refl _)
      rw [h1] at this
      exact this
    · refine orC (testC (opQ (x := .str n) (ev_var rfl) (lcLq (f := (b.ps.map Tr.nm).map V.str) (ev_fld (ev_var rfl) hp1) hp2 (by simp [hl]) (by omega) (fun i x H' e hx y hy => ?_) fun D H1 e1 _ hD => in_end (σ := []) hD (b_end (or_end (fun h2 => ?_) (fun h2 => ?_))))))
      · obtain ⟨u, hu, hxu⟩ := hps.get hx
        obtain ⟨ub, _, rfl, G, _⟩ := (hxu.ex e).out
        rw [List.getElem?_map, List.getElem?_map, hu] at hy
        cases hy
        exact ev_fld (ev_var rfl) G.name
      · have h2 : decide (n ∈ b.ps.map Tr.nm) = false := by simpa using h2
        refine if_end (fun _ => e_ret ev_c ?_) (fun z => by cases z)
        have := q H1 e1
        rw [h1, h2] at this
        exact this
      · have h2 : decide (n ∈ b.ps.map Tr.nm) = true := by simpa using h2
        refine testC (opQ (x := .int (L b.nm)) (ev_var rfl) (askd e1 rfl rfl fun H2 e2 => rv_neI _ (b_end (if_end (fun h3 => ?_) (fun h3 => ?_)))))
        · have h3 : decide (L b.nm = asked b L) = false := by simpa using h3
          refine e_ret ev_c ?_
          have := q H2 (e1.trans e2)
          rw [h1, h2, h3] at this
          exact this
        · have h3 : decide (L b.nm = asked b L) = true := by simpa using h3
          obtain ⟨u, hu, hun⟩ := List.mem_map.mp (of_decide_eq_true h2)
          refine nxC (last rfl (e1.trans e2) ⟨u, hpm u hu, hun⟩ fun H3 e3 => ?_)
          have := q H3 ((e1.trans e2).trans e3)
          rw [h1, h2, h3] at this
          exact this
  rw [if_neg (of_decide_eq_false h)] at q
  refine seqC (ifC (orC (evt_test (ev_op (ev_var rfl) ev_c rv_neS : Ev _ _ _ (.bl (!decide (w = "alike")))) _ (or_end (fun h1 => ?_) (fun h1 => ?_)))))
  · have h1 : decide (w = "alike") = false := by simpa using h1
    refine if_end (fun _ => e_ret ev_c ?_) (fun z => by cases z)
    have := q H (Ex.refl _)
    rw [h1] at this
    exact this
  have h1 : decide (w = "alike") = true := by simpa using h1
  refine orC (evt_test (ev_op (ev_fld (ev_var rfl) F.group) ev_c rv_eqI : Ev _ _ _ (.bl (decide (b.b.grp = 0)))) _ (or_end (fun h2 => ?_) (fun h2 => ?_)))
  · refine if_end (fun _ => e_ret ev_c ?_) (fun z => by cases z)
    have := q H (Ex.refl _)
    rw [h1, h2] at this
    exact this
  obtain ⟨kg, hk1, hk2⟩ := hG
  refine testC (opQ (x := .str n) (ev_var rfl) (get2C (y := .int b.b.grp) (ev_var rfl) (.inl ⟨_, .inl hk1⟩) (ev_fld (ev_var rfl) F.group) (lst_go (xs := []) ev_nil fun el H1 e1 _ hel => get_end (k := .inl b.b.grp) (e1 _ _ hk1) ?_)))
  obtain ⟨ll, hll1, hll2⟩ : ∃ ll : Addr, (valV kg (.inl b.b.grp)).getD (.ref el) = .ref ll ∧ H1 ll = some (.lst ((mates bs b.b.grp).map V.str)) := by
    by_cases hm : 0 < b.b.grp ∧ mates bs b.b.grp ≠ []
    · obtain ⟨l, q1, q2⟩ := (hk2 b.b.grp).1 hm
      exact ⟨l, by rw [q1]; rfl, e1 _ _ q2⟩
    · have hn0 := (hk2 b.b.grp).2 hm
      have hme : mates bs b.b.grp = [] := Classical.byContradiction fun z => hm ⟨by
        obtain ⟨m, hmm⟩ := List.exists_mem_of_ne_nil _ z
        obtain ⟨c, _, _, hc, _⟩ := mates_of hmm
        exact hc, z⟩
      exact ⟨el, by rw [hn0]; rfl, by rw [hme]; exact hel⟩
  rw [hll1]
  refine in_end (σ := []) hll2 (b_end (if_end (fun h3 => ?_) (fun h3 => ?_)))
  · have h3 : decide (n ∈ mates bs b.b.grp) = false := by simpa using h3
    refine e_ret ev_c ?_
    have := q H1 e1
    rw [h1, h2, h3] at this
    exact this
  · have h3 : decide (n ∈ mates bs b.b.grp) = true := by simpa using h3
    refine nxC (last rfl e1 (mates_mem (of_decide_eq_true h3)) fun H3 e3 => ?_)
    have := q H3 (e1.trans e3)
    rw [h1, h2, h3] at this
    exact this
end

section
variable {K : PySem.W.Frag}
/-- d.setdefault(k, z), z by an expression -/
def SdK (a : Addr) (y : V) (Q : VK) (z : V) (H3 : Hp) : Prop := ∃ (kvs : List (Key × V)) (k : Key), H3 a = some (.dK kvs) ∧ y = kV k ∧ kvs.length < sizeLine ∧ (∀ v, valV kvs k = some v → Q v H3) ∧ (valV kvs k = none → Q z (upd H3 a (.dK (putK kvs k z))))
theorem sdC {td ty tx : TE} {σ : L2.St} {H : Hp} {Q : VK} {a : Addr} {y : V} (hd : Ev td σ H (.ref a)) (h : IsD H a) (hk : Ev ty σ H y) (hx : tx σ H (SdK a y Q)) : tDSetd td ty tx σ H Q := hd _ ⟨a, rfl, h, hk _ hx⟩
theorem sd_end {a : Addr} {k : Key} {Q : VK} {z : V} {H : Hp} {kvs : List (Key × V)} (h : H a = some (.dK kvs)) (hn : kvs.length < 100000) (h1 : ∀ v, valV kvs k = some v → Q v H) (h2 : valV kvs k = none → Q z (upd H a (.dK (putK kvs k z)))) : SdK a (kV k) Q z H := ⟨kvs, k, h, rfl, szl hn, h1, h2⟩
/-- an append to what an expression gives -/
def ApK (K : PySem.W.Frag) (tb : TE) (D : Ends) (σ : L2.St) (x : V) (H1 : Hp) : Prop := tyV K "list" x H1 ∧ tCons tb tNil σ H1 fun xs H2 => rAppend x xs H2 fun _ H3 => D.nx σ H3
theorem apC {ta tb : TE} {D : Ends} {σ : L2.St} {H : Hp} (h : ta σ H (ApK K tb D σ)) : tDrop (tBM K "list" rAppend ta (tCons tb tNil)) D σ H := h
theorem ap_end {tb : TE} {D : Ends} {σ : L2.St} {H : Hp} {p : Addr} {xs : List V} {v : V} (hb : Ev tb σ H v) (hl : H p = some (.lst xs)) (hn : xs.length < 100000) (k : D.nx σ (upd H p (.lst (xs ++ [v])))) : ApK K tb D σ (.ref p) H :=
  ⟨.inl ⟨rfl, _, SqL.of hl⟩, hb _ ⟨p, xs, v, rfl, rfl, hl, szl hn, k⟩⟩
theorem nm_eq {bs : List Tr} (hn : (bs.map Tr.nm).Nodup) {b c : Tr} (hb : b ∈ bs) (hc : c ∈ bs) (e : b.nm = c.nm) : b = c := by
  obtain ⟨i, hi⟩ := List.mem_iff_getElem?.mp hb
  obtain ⟨j, hj⟩ := List.mem_iff_getElem?.mp hc
  have := names_ne hn hi hj e
  subst this
  rw [hi] at hj
  exact Option.some.inj hj
theorem mates_snoc (bs : List Tr) (b : Tr) (g : Int) : mates (bs ++ [b]) g = mates bs g ++ if 0 < b.b.grp ∧ b.b.grp = g then [b.nm] else [] := by
  unfold mates
  rw [List.filter_append, List.map_append]
  congr 1
  by_cases h : 0 < b.b.grp ∧ b.b.grp = g
  · rw [if_pos h, List.filter_cons_of_pos (by simp; exact h)]
    rfl
  · rw [if_neg h, List.filter_cons_of_neg (by simp; omega)]
    rfl
theorem mates_one {bs : List Tr} (hn : (bs.map Tr.nm).Nodup) {i : Nat} {g g' : Int} (h : mates (bs.take i) g ≠ []) (e : mates (bs.take i) g = mates (bs.take i) g') : g = g' := by
  obtain ⟨n, hn1⟩ := List.exists_mem_of_ne_nil _ h
  obtain ⟨c, hc, h1, _, h2⟩ := mates_of hn1
  rw [e] at hn1
  obtain ⟨c', hc', h1', _, h2'⟩ := mates_of hn1
  have := nm_eq hn (List.mem_of_mem_take hc) (List.mem_of_mem_take hc') (h2.trans h2'.symm)
  subst this
  omega
theorem head_mates {bs : List Tr} {b : Tr} (hb : b ∈ bs) (hg : 0 < b.b.grp) : ∃ c r, headOf bs b.b.grp = some c ∧ c ∈ bs ∧ mates bs b.b.grp = c.nm :: r := by
  obtain ⟨c, hc, hcb, hcg⟩ := head_ex hb
  refine ⟨c, ?_⟩
  have key : ∀ l : List Tr, (l.find? fun c => decide (c.b.grp = b.b.grp)) = some c → ∃ r, mates l b.b.grp = c.nm :: r := fun l => by
    induction l with
    | nil => intro h; cases h
    | cons a l ih =>
      intro h
      unfold mates
      by_cases e : a.b.grp = b.b.grp
      · rw [List.find?_cons_of_pos (by simpa using e)] at h
        cases h
        rw [List.filter_cons_of_pos (by simp; omega)]
        exact ⟨_, rfl⟩
      · rw [List.find?_cons_of_neg (by simpa using e)] at h
        obtain ⟨r, hr⟩ := ih h
        rw [List.filter_cons_of_neg (by simp; omega)]
        exact ⟨r, hr⟩
  obtain ⟨r, hr⟩ := key bs hc
  exact ⟨r, hc, hcb, hr⟩
theorem rd_leasts_hold : ∀ vs H Q E, sp_leasts_hold K vs H Q E → r_leasts_hold K { nx := fun _ H' => Q .non H', rt := Q } (start ["tree", "leasts", "paper", "groups", "boxes", "box"] vs) H := by
  rintro vs H Q E ⟨v, d, pd, t, L, P, rfl, ht, hok, hL, hP, q⟩
  refine s_asgQ (newK_go fun gd H1 e1 hgd h1 => ?_)
  refine s_asgQ (callC (consC (callQ (xs := [v]) (by trivial) ⟨v, t, rfl, ht.ex e1, by have := hok.deep; omega, hok.wf, fun H2 x e2 hx => nilC ⟨H2, x, t, rfl, Ex.refl _, hx.ex rsP_le, by have := hok.deep; omega, hok.few, fun H3 bl xs e3 _ hbl hxs => ?_⟩⟩)))
  have e13 := e2.trans e3
  have hgd3 := e13 _ _ h1
  have hL3 := hL.ex (e1.trans e13)
  have hP3 := hP.ex (e1.trans e13)
  have hxs3 : AllAt (BoxAt K H3) xs t.boxes := boxes_ex e3 hxs
  generalize hbs : t.boxes = bs at *
  have hnd := hok.nodup
  have hfew := hok.few
  rw [hbs] at hnd hfew
  have hcl : ∀ b ∈ bs, ∀ p ∈ b.ps, p ∈ bs := fun b hb p hp => by rw [← hbs] at hb ⊢; exact parts_in hb hp
  have hwf : ∀ b ∈ bs, WfB b := fun b hb => hok.wf b (by rw [hbs]; exact hb)
  have hlx := hxs3.1
  have hblg : bl ≠ gd := ne_of hbl hgd3 (fun z => by cases z)
  -- the groups
  refine seqC (forL (xs := xs) (ev_var rfl) hbl (fun i σ H' => ∃ (o : Option V) (kg : List (Key × V)), σ = [some v, some (.ref d), some (.ref pd), some (.ref gd), some (.ref bl), o] ∧ ExB [gd] H3 H' ∧ H' gd = some (.dK kg) ∧ kg.length ≤ i ∧
      ∀ g : Int, (mates (bs.take i) g ≠ [] → ∃ l, valV kg (.inl g) = some (.ref l) ∧ H' l = some (.lst ((mates (bs.take i) g).map V.str)) ∧ H3 l = none) ∧ (mates (bs.take i) g = [] → valV kg (.inl g) = none))
    ⟨none, [], rfl, ExB.refl _, hgd3, Nat.le_refl _, fun g => ⟨fun h => by simp [mates] at h, fun _ => rfl⟩⟩ (fun i σ H' _ pr => let ⟨_, _, _, e, _⟩ := pr; e _ _ (by simpa using hblg) hbl) (fun i y σ H4 hy pr => ?_) fun σ H4 pr => ?_)
  · obtain ⟨o, kg, rfl, e4, h4, hkl, hg⟩ := pr
    obtain ⟨b, hbi, hby⟩ := hxs3.get hy
    have hmem := List.mem_of_getElem? hbi
    have hi := (List.getElem?_eq_some_iff.mp hbi).1
    have eD : ExD H3 H4 := e4.d (fun y hy => by rw [List.mem_singleton.mp hy]; exact ⟨_, hgd3⟩)
    obtain ⟨ba, ws, rfl, F, _⟩ := (hby.exD eD).out
    have hstep : bs.take (i + 1) = bs.take i ++ [b] := by rw [List.take_add_one, hbi] <;> rfl
    refine gN (e_if (b := decide (0 < b.b.grp)) (evt_test (ev_op (ev_fld (ev_var rfl) F.group) ev_c rv_gt)) (fun h => ?_) (fun h => ?_))
    · have hgp : 0 < b.b.grp := of_decide_eq_true h
      refine apC (sdC (y := .int b.b.grp) (ev_var rfl) (.inl ⟨_, .inl h4⟩) (ev_fld (ev_var rfl) F.group) (lst_go (xs := []) ev_nil fun l0 H5 e5 hl0 h5 => sd_end (k := .inl b.b.grp) (e5 _ _ h4) (by omega) (fun vv hv => ?_) (fun hv => ?_)))
      · -- there is a list
        have hne : mates (bs.take i) b.b.grp ≠ [] := fun z => by rw [(hg b.b.grp).2 z] at hv; cases hv
        obtain ⟨l, q1, q2, q3⟩ := (hg b.b.grp).1 hne
        rw [hv] at q1
        cases q1
        have hlg : l ≠ gd := ne_of q2 h4 (fun z => by cases z)
        have hml : (mates (bs.take i) b.b.grp).length ≤ 17 := by
          unfold mates
          rw [List.length_map]
          exact Nat.le_trans (List.length_filter_le _ _) (by rw [List.length_take]; omega)
        refine ap_end (ev_fld (ev_var rfl) (F.name.ex e5)) (e5 _ _ q2) (by rw [List.length_map]; omega) ⟨_, kg, rfl, ?_, by rw [upd_ne hlg.symm]; exact e5 _ _ h4, by omega, fun g => ?_⟩
        · exact fun a o m ha => by rw [upd_ne (ne_of_none ha q3)]; exact e5 _ _ (e4 a o m ha)
        · rw [hstep, mates_snoc]
          by_cases hgg : b.b.grp = g
          · subst hgg
            rw [if_pos ⟨hgp, rfl⟩]
            refine ⟨fun _ => ⟨l, hv, ?_, q3⟩, fun z => by simp at z⟩
            rw [upd_same, List.map_append] <;> rfl
          · rw [if_neg (fun z => hgg z.2), List.append_nil]
            refine ⟨fun z => ?_, (hg g).2⟩
            obtain ⟨l', r1, r2, r3⟩ := (hg g).1 z
            refine ⟨l', r1, ?_, r3⟩
            have hll : l' ≠ l := fun w => by
              subst w
              rw [q2] at r2
              injection r2 with r2
              injection r2 with r2
              have : mates (bs.take i) b.b.grp = mates (bs.take i) g := (List.map_inj_right (fun x y h => by injection h)).mp r2
              exact hgg (mates_one hnd hne this)
            rw [upd_ne hll]
            exact e5 _ _ r2
      · -- a new one
        have hme : mates (bs.take i) b.b.grp = [] := Classical.byContradiction fun z => by
          obtain ⟨l, q1, _⟩ := (hg b.b.grp).1 z
          rw [hv] at q1
          cases q1
        have hlg : l0 ≠ gd := (ne_of_none h4 hl0).symm
        have hl03 : H3 l0 = none := by
          cases z : H3 l0 with
          | none => rfl
          | some o =>
            rw [e4 _ _ (by simpa using hlg) z] at hl0
            cases hl0
        have h6 : upd H5 gd (.dK (putK kg (.inl b.b.grp) (.ref l0))) l0 = some (.lst []) := by rw [upd_ne hlg]; exact h5
        have F6 : FldAt K (upd H5 gd (.dK (putK kg (.inl b.b.grp) (.ref l0)))) ba "name" (.str b.nm) := by
          obtain ⟨C, dx, fs, i1, i2⟩ := F.name
          exact ⟨C, dx, fs, by rw [upd_ne (ne_of i1 h4 (fun z => by cases z))]; exact e5 _ _ i1, i2⟩
        refine ap_end (xs := []) (ev_fld (ev_var rfl) F6) h6 (by decide) ⟨_, putK kg (.inl b.b.grp) (.ref l0), rfl, ?_, by rw [upd_ne hlg.symm]; exact upd_same, by have := length_putK kg (.inl b.b.grp : Key) (V.ref l0); omega, fun g => ?_⟩
        · exact fun a o m ha => by rw [upd_ne (ne_of_none ha hl03), upd_ne (by simpa using m)]; exact e5 _ _ (e4 a o m ha)
        · rw [hstep, mates_snoc, valV_put]
          by_cases hgg : b.b.grp = g
          · subst hgg
            rw [if_pos ⟨hgp, rfl⟩, hme, if_pos rfl]
            exact ⟨fun _ => ⟨l0, rfl, by rw [upd_same]; rfl, hl03⟩, fun z => by simp at z⟩
          · rw [if_neg (fun z => hgg z.2), List.append_nil, if_neg (fun z => hgg (Sum.inl.inj z).symm)]
            refine ⟨fun z => ?_, (hg g).2⟩
            obtain ⟨l', r1, r2, r3⟩ := (hg g).1 z
            have n1 : l' ≠ l0 := ne_of_none r2 hl0
            have n2 : l' ≠ gd := ne_of r2 h4 (fun z => by cases z)
            exact ⟨l', r1, by rw [upd_ne n1, upd_ne n2]; exact e5 _ _ r2, r3⟩
    · have hgp : ¬ 0 < b.b.grp := of_decide_eq_false h
      refine ⟨_, kg, rfl, e4, h4, by omega, fun g => ?_⟩
      rw [hstep, mates_snoc, if_neg (fun z => hgp z.1), List.append_nil]
      exact hg g
  obtain ⟨o, kg, rfl, e4, h4, hkl, hg⟩ := pr
  rw [hlx, List.take_length] at hg
  have eD : ExD H3 H4 := e4.d (fun y hy => by rw [List.mem_singleton.mp hy]; exact ⟨_, hgd3⟩)
  have hG : GrpD H4 gd bs := ⟨kg, h4, fun g => ⟨fun z => let ⟨l, q1, q2, _⟩ := (hg g).1 z.2; ⟨l, q1, q2⟩, fun z => (hg g).2 (Classical.byContradiction fun w => z ⟨by
    obtain ⟨n, hn⟩ := List.exists_mem_of_ne_nil _ w
    obtain ⟨_, _, _, h, _⟩ := mates_of hn
    exact h, w⟩)⟩⟩
  have hxs4 : AllAt (BoxAt K H4) xs bs := hxs3.mono fun _ _ _ z => z.exD eD
  have hbl4 := e4 _ _ (by simpa using hblg) hbl
  have keepP : ∀ {a : Addr} {kvs : List (Key × V)}, Rd H a (.dK kvs) → Rd H4 a (.dK kvs) := fun {a kvs} r => by
    rcases r with r | ⟨ob, r⟩
    · exact .inl (e4 _ _ (by simpa using ne_of_none r hgd) ((e1.trans e13) _ _ r))
    · exact .inr ⟨ob, e4 _ _ (by simpa using ne_of_none r hgd) ((e1.trans e13) _ _ r)⟩
  have hL4 : HasL H4 d bs L := let ⟨k, q1, q2⟩ := hL; ⟨k, keepP q1, q2⟩
  have hP4 : HasP H4 pd bs P := let ⟨k, q1, q2⟩ := hP; ⟨k, keepP q1, fun b hb => let ⟨a, r1, r2⟩ := q2 b hb; ⟨a, r1, e4 _ _ (by simpa using ne_of_none r2 hgd) ((e1.trans e13) _ _ r2)⟩⟩
  have eb : ExB [gd] H H4 := (e1.trans e13).b.trans e4
  have eall : Ex H H4 := ExB.fresh (Ex.refl _) eb (fun x hx => by rw [List.mem_singleton.mp hx]; exact hgd)
  refine nxC (seqC (forL (xs := xs) (ev_var rfl) hbl4 (fun i σ H' => ∃ (o : Option V), σ = [some v, some (.ref d), some (.ref pd), some (.ref gd), some (.ref bl), o] ∧ Ex H4 H' ∧ ∀ b ∈ bs.take i, (decide (pmax b.b.own (asked b L) ≤ L b.nm) && groupB bs L b) = true)
    ⟨o, rfl, Ex.refl _, fun b hb => by simp at hb⟩ (fun i σ H' _ pr => let ⟨_, _, e, _⟩ := pr; e _ _ hbl4) (fun i y σ H5 hy pr => ?_) fun σ H5 pr => ?_))
  · obtain ⟨o, rfl, e5, hdone⟩ := pr
    obtain ⟨b, hbi, hby⟩ := hxs4.get hy
    have hmem := List.mem_of_getElem? hbi
    have hb5 := hby.ex e5
    obtain ⟨ba, ws, rfl, F, _⟩ := hb5.out
    obtain ⟨c, hi0, hw1, hw2⟩ := F.wide
    have hL5 := hL4.ex e5
    have hLp : HasL H5 d b.ps L := let ⟨k, h1, h2⟩ := hL5; ⟨k, h1, fun p hp => h2 p (hcl b hmem p hp)⟩
    have hstep : bs.take (i + 1) = bs.take i ++ [b] := by rw [List.take_add_one, hbi] <;> rfl
    have no : ∀ {H'}, Ex H5 H' → (decide (pmax b.b.own (asked b L) ≤ L b.nm) && groupB bs L b) = false → Q (.bl false) H' := fun {H'} e h => by
      have := q H' (eall.trans (e5.trans e))
      have hf : lhB bs L P = false := by
        unfold lhB holdB
        rw [Bool.and_eq_false_iff]
        exact .inl (List.all_eq_false.mpr ⟨b, hmem, by rw [h]; decide⟩)
      rwa [hf] at this
    refine gN (seqC (ifC (testC (opQ (x := .int (L b.nm)) (ev_has (ev_var rfl) (ev_fld (ev_var rfl) F.name) (hL5.at hmem)) (cbC (consQ (x := .int b.b.own) (ev_op (ev_fld (ev_var rfl) hw1) ev_c (rv_ixT hw2 rfl)) (consC (boxM (vs := [.ref d]) (by decide) (ev_var rfl) hb5 (ev_cons (ev_var rfl) ev_nil) ⟨_, d, b, L, rfl, hb5, hLp, hwf b hmem, fun H6 e6 => nilC (cv_max _ (rv_lt _ (b_end (if_end (fun h => ?_) (fun h => ?_)))))⟩))))))))
    · have h : L b.nm < pmax b.b.own (asked b L) := of_decide_eq_true h
      refine e_ret ev_c (no e6 ?_)
      rw [decide_eq_false (by omega), Bool.false_and]
    · have h : ¬ L b.nm < pmax b.b.own (asked b L) := of_decide_eq_false h
      have hd1 : decide (pmax b.b.own (asked b L) ≤ L b.nm) = true := decide_eq_true (by omega)
      have F6 := F.ex e6
      have hL6 := hL5.ex e6
      have ok : groupB bs L b = true → ∀ b' ∈ bs.take (i + 1), (decide (pmax b'.b.own (asked b' L) ≤ L b'.nm) && groupB bs L b') = true := fun hgb b' hb' => by
        rw [hstep] at hb'
        rcases List.mem_append.mp hb' with hb' | hb'
        · exact hdone b' hb'
        · rw [List.mem_singleton.mp hb', hd1, hgb] <;> rfl
      refine nxC (ifC (anC (evt_test (ev_op (ev_fld (ev_var rfl) F6.group) ev_c rv_gt : Ev _ _ _ (.bl (decide (0 < b.b.grp)))) _ (an_end (fun hgp => ?_) (fun hgp => ?_)))))
      · have hgp : 0 < b.b.grp := of_decide_eq_true hgp
        obtain ⟨hc, r, hc1, hc2, hc3⟩ := head_mates hmem hgp
        obtain ⟨kg', hk1, hk2⟩ := hG.ex (e5.trans e6)
        obtain ⟨l, q1, q2⟩ := (hk2 b.b.grp).1 ⟨hgp, by rw [hc3]; simp⟩
        have hgb : groupB bs L b = decide (L b.nm = L hc.nm) := by
          unfold groupB
          rw [decide_eq_true (show b.b.grp > 0 from hgp), hc1] <;> rfl
        refine evt_test (b := !decide (L b.nm = L hc.nm)) (ev_op (ev_has (ev_var rfl) (ev_fld (ev_var rfl) F6.name) (hL6.at hmem)) (ev_has (ev_var rfl) (ev_op (ev_dgetI (ev_var rfl) (ev_fld (ev_var rfl) F6.group) (.inl hk1) q1) ev_c (rv_ixL q2 (by rw [hc3]; exact atI_nat (j := 0) rfl))) (hL6.at hc2)) rv_neI) _ (if_end (fun h2 => ?_) (fun h2 => ?_))
        · have h2 : decide (L b.nm = L hc.nm) = false := by simpa using h2
          refine e_ret ev_c (no e6 ?_)
          rw [hgb, h2, Bool.and_false]
        · have h2 : decide (L b.nm = L hc.nm) = true := by simpa using h2
          exact ⟨_, rfl, e5.trans e6, ok (by rw [hgb]; exact h2)⟩
      · have hgp : decide (b.b.grp > 0) = false := hgp
        refine if_end (fun z => by cases z) (fun _ => ⟨_, rfl, e5.trans e6, ok ?_⟩)
        unfold groupB
        rw [hgp] <;> rfl
  · obtain ⟨o, rfl, e5, hdone⟩ := pr
    rw [hlx, List.take_length] at hdone
    have hhold : holdB bs L = true := List.all_eq_true.mpr hdone
    have hbl5 := e5 _ _ hbl4
    have hxs5 := boxes_ex e5 hxs4
    refine nxC (retC (cbC (consC (lcL (xs := xs) (a := bl) (ev_var rfl) hbl5 (fun D i H' => Ex H5 H' ∧ H5 D = none ∧ H' D = some (.lst (((bs.take i).map (reasonB bs L P)).map V.bl))) (fun D H' e h1 h2 => ⟨e, h1, by simpa using h2⟩) (fun D i H' _ pr => pr.1 _ _ hbl5) (fun D i y H6 hy pr => ?_) fun D H6 pr => nilC (cv_all pr.2.2 _ ?_)))))
    · obtain ⟨e6, hD, h6⟩ := pr
      obtain ⟨b, hbi, hby⟩ := hxs5.get hy
      have hmem := List.mem_of_getElem? hbi
      have hi := (List.getElem?_eq_some_iff.mp hbi).1
      have e56 := e5.trans e6
      refine ⟨wipe1, yesC (callQ (xs := [y, .ref d, .ref pd, .ref gd]) (by trivial) ⟨y, d, pd, gd, b, bs, L, P, rfl, hby.ex e6, hmem, hcl b hmem, hL4.ex e56, hP4.ex e56, hG.ex e56, hwf b hmem, hfew, fun H7 e7 => ⟨_, e7 _ _ h6, szl (by simp; omega), (e6.trans e7).mut hD, hD, ?_⟩⟩)⟩
      rw [upd_same, List.take_add_one, hbi]
      simp
    · rw [hlx, List.take_length]
      have := q H6 (eall.trans (e5.trans pr.1))
      have hf : lhB bs L P = (bs.map (reasonB bs L P)).all id := by
        unfold lhB
        rw [hhold, Bool.true_and, List.all_map]
        rfl
      rwa [hf] at this
end

section
variable {K : PySem.W.Frag}
abbrev It3 (K : PySem.W.Frag) (a b c : Addr) (xs ys zs : List V) : It := ⟨fun i H => i < min (min xs.length ys.length) zs.length ∧ SqT K H a xs ∧ SqL K H b ys ∧ SqT K H c zs, fun i H v H' => ∃ T x y z, v = .ref T ∧ H T = none ∧ H' = upd H T (.tup [x, y, z]) ∧ xs[i]? = some x ∧ ys[i]? = some y ∧ zs[i]? = some z,
    fun i H => min (min xs.length ys.length) zs.length ≤ i ∧ SqT K H a xs ∧ SqL K H b ys ∧ SqT K H c zs⟩
def Zip3K (K : PySem.W.Frag) (g : TG) (tb : TS) (D : Ends) (σ : L2.St) (vs : List V) (H1 : Hp) : Prop := ∃ (a b c : Addr) (xs ys zs : List V), vs = [.ref a, .ref b, .ref c] ∧ SqT K H1 a xs ∧ SqL K H1 b ys ∧ SqT K H1 c zs ∧
  ∃ W : Nat → Nat → L2.St → Hp → Prop, (∃ m, W 0 m σ H1) ∧ ∀ i m σ H, W i m σ H →
  ((It3 K a b c xs ys zs).stop i H ∧ D.nx σ H) ∨ ((It3 K a b c xs ys zs).go i H ∧ ∃ N : L2.St → Hp → Prop, (∀ σ' H', N σ' H' → ∃ m', m' < m ∧ W (i + 1) m' σ' H') ∧ ∀ x H', (It3 K a b c xs ys zs).yld i H x H' → g x σ H' fun σ2 H2 => tb { D with nx := N, ct := N, bk := D.nx } σ2 H2)
theorem for3C {t : TA} {σ : L2.St} {H : Hp} {g : TG} {tb : TS} {D : Ends} (h : t σ H (Zip3K K g tb D σ)) : tFor (iZip3 K t) g tb D σ H := h
theorem zip3_end {σ : L2.St} {H : Hp} {m : Nat} {g : TG} {tb : TS} {D : Ends} {a b c : Addr} {xs ys zs : List V} (ha : H a = some (.tup xs)) (hb : H b = some (.lst ys)) (hc : H c = some (.tup zs)) (h1 : xs.length = m) (h2 : ys.length = m) (h3 : zs.length = m) (Pv : Nat → L2.St → Hp → Prop) (h0 : Pv 0 σ H)
    (hG : ∀ i σ H, i ≤ m → Pv i σ H → H a = some (.tup xs) ∧ H b = some (.lst ys) ∧ H c = some (.tup zs))
    (hs : ∀ (i : Nat) x y z T σ H H', i < m → Pv i σ H → H T = none → Ex H H' → H' T = some (.tup [x, y, z]) → xs[i]? = some x → ys[i]? = some y → zs[i]? = some z → g (.ref T) σ H' fun σ2 H2 => tb { D with nx := Pv (i + 1), ct := Pv (i + 1), bk := D.nx } σ2 H2) (hd : ∀ σ H, Pv m σ H → D.nx σ H) : Zip3K K g tb D σ [.ref a, .ref b, .ref c] H := by
  have w : Walk (It3 K a b c xs ys zs) m (fun H => SqT K H a xs ∧ SqL K H b ys ∧ SqT K H c zs) (fun i H v H' => ∃ T x y z, v = .ref T ∧ H T = none ∧ H' = upd H T (.tup [x, y, z]) ∧ xs[i]? = some x ∧ ys[i]? = some y ∧ zs[i]? = some z) :=
    ⟨fun i H hi q => ⟨by omega, q⟩, fun H q => ⟨by omega, q⟩, fun i H x H' _ _ y => y⟩
  refine ⟨a, b, c, xs, ys, zs, rfl, SqT.of ha, SqL.of hb, SqT.of hc, for_it w Pv h0 (fun i σ H hi p => let ⟨q1, q2, q3⟩ := hG i σ H hi p; ⟨SqT.of q1, SqL.of q2, SqT.of q3⟩) (fun i x σ H H' hi p y => ?_) hd⟩
  obtain ⟨T, x, y, z, rfl, hT, rfl, hx, hy, hz⟩ := y
  exact hs i x y z T σ H _ hi p hT (Ex.new hT) upd_same hx hy hz
/-- an append of a new tuple -/
theorem apC2 {ta : TE} {t : TA} {σ : L2.St} {H : Hp} {f : Addr} {fs xs : List V} {D : Ends} (ha : Ev ta σ H (.ref f)) (hf : H f = some (.lst fs)) (ht : EvA t σ H xs) (hn : fs.length < 100000) (k : ∀ t2 H', Ex H H' → H' t2 = some (.tup xs) → D.nx σ (upd H' f (.lst (fs ++ [.ref t2])))) (hx : xs.length ≤ 100000 := by simp) :
    tDrop (tBM K "list" rAppend ta (tCons (tTup t) tNil)) D σ H :=
  ha _ ⟨.inl ⟨rfl, _, SqL.of hf⟩, tup_go ht (fun t2 H' e _ h => ⟨f, fs, _, rfl, rfl, e _ _ hf, szl hn, k t2 H' e h⟩) hx⟩
theorem gaps_pos {g m : Int} (h : 1 ≤ m) : gapsIn g m = g * (m - 1) := by
  unfold gapsIn
  rw [pmax_eq, Int.max_eq_right (by omega)]
theorem rd_law_columns : ∀ vs H Q E, sp_law_columns K vs H Q E → r_law_columns K { nx := fun _ H' => Q .non H', rt := Q } (start ["_law_box", "_law_leasts", "_law_columns_here", "_law_gap", "_law_side", "_law_spans", "_law_asks", "_law_part", "_law_cell", "_law_span_here"] vs) H := by
  rintro vs H Q E ⟨v, d, t, L, rfl, ht, hk, hw, hL, q⟩
  obtain ⟨a, o, p, w, ws, rfl, h1, _, hwh, h4, h5⟩ := ht.out
  have htb : TabAt H w t.b := by
    unfold WhatAt at hwh
    rw [hk] at hwh
    exact hwh
  obtain ⟨wq, u1, s, ss, rfl, hwq, hs, hss⟩ := htb
  obtain ⟨w1, w2, w3, w4⟩ := hw.tab hk
  have hfew := hw.few
  have hl := h5.1
  have hsl := hss.1
  have hcf := (cells_fit w1 (spans := t.b.spans) fun x hx => (w4 x hx).2.1)
  refine seqC (asgQ (x := .ref wq) (by trivial) (gT hwq rfl (g4 ?_)))
  refine nxC (s_asgQ (lst_go (xs := []) ev_nil fun f H1 e1 hf hf1 => ?_))
  have h11 := e1 _ _ h1
  refine seqC (for3C (consQ (x := .ref p) (by trivial) (consC (callC (consQ (x := .int t.b.cols) (ev_var rfl) (consC (cbQ (xs := [.ref s]) (by trivial) (lstOfT_go (e1 _ _ hs) fun sl H2 e2 _ hsl2 => nilC ⟨t.b.cols, sl, ss, t.b.spans, rfl, hsl2, pairs_ex (e1.trans e2) hss, w1, w2, by omega, w4, fun H3 cl cs e3 hcln hcl hcs => consQ (x := .ref s) (ev_var rfl) (nilC ?_)⟩))))))))
  have e23 := e2.trans e3
  have e13 := e1.trans e23
  have hf3 := e23 _ _ hf1
  have hclf : cl ≠ f := (ne_of_none (e2 _ _ hf1) hcln).symm
  refine zip3_end (m := ws.length) (e13 _ _ h4) hcl (e13 _ _ hs) rfl (by rw [hcs.1, hcf.1, w3, hl]) (by rw [hsl, w3, hl]) (fun i σ H' => ∃ (o7 o8 o9 : Option V) (fs : List V), σ = [some (.ref a), some (.ref d), some (.int t.b.cols), some (.int t.b.gap), some u1, some (.ref s), some (.ref f), o7, o8, o9] ∧ ExB [f] H3 H' ∧ H' f = some (.lst fs) ∧ AllAt (AskAt H') fs ((asksOf t.b t.ps L).take i) ∧ fs.length = i)
    ⟨none, none, none, [], rfl, ExB.refl _, hf3, by simpa using AllAt.nil, rfl⟩ (fun i σ H' _ pr => ?_) (fun i x y z T σ H4 H5 hi pr hT e5 h5T hx hy hz => ?_) fun σ H4 pr => ?_
  · obtain ⟨_, _, _, _, _, e, _⟩ := pr
    have k1 : p ≠ f := ne_of (e13 _ _ h4) hf3 (fun z => by cases z)
    have k2 : s ≠ f := ne_of (e13 _ _ hs) hf3 (fun z => by cases z)
    exact ⟨e _ _ (by simpa using k1) (e13 _ _ h4), e _ _ (by simpa using hclf) hcl, e _ _ (by simpa using k2) (e13 _ _ hs)⟩
  · obtain ⟨o7, o8, o9, fs, rfl, e4, h4f, hfs, hfl⟩ := pr
    obtain ⟨u, hu, hxu⟩ := h5.get hx
    obtain ⟨cell, hcell, ca, rfl, hca⟩ := hcs.get hy
    obtain ⟨span, hspan, sa, rfl, hsa⟩ := hss.get hz
    obtain ⟨ua, uo, up, uw, uws, rfl, hu1, _⟩ := hxu.out
    have toH4 : ∀ {a : Addr} {zs : List V}, H a = some (.tup zs) → H5 a = some (.tup zs) := fun {a zs} h => e5 _ _ (e4 _ _ (by simpa using ne_of (e13 _ _ h) hf3 (fun z => by cases z)) (e13 _ _ h))
    have hu5 := toH4 hu1
    have hsa5 := toH4 hsa
    have hca5 : H5 ca = some (.tup [.int cell.1, .int cell.2]) := e5 _ _ (e4 _ _ (by simpa using ne_of hca hf3 (fun z => by cases z)) hca)
    have hL5 : HasD H5 d u.nm (.int (L u.nm)) := by
      obtain ⟨k, r, hv⟩ := hL.at (List.mem_of_getElem? hu)
      refine ⟨k, ?_, hv⟩
      rcases r with r | ⟨ob, r⟩
      · exact .inl (e5 _ _ (e4 _ _ (by simpa using ne_of (e13 _ _ r) hf3 (fun z => by cases z)) (e13 _ _ r)))
      · exact .inr ⟨ob, e5 _ _ (e4 _ _ (by simpa using ne_of (e13 _ _ r) hf3 (fun z => by cases z)) (e13 _ _ r))⟩
    have hf5 := e5 _ _ h4f
    refine gT h5T rfl (g3 (apC2 (f := f) (fs := fs) (xs := [.str u.nm, .int cell.2, .int span.1, .int (L u.nm)]) (ev_var rfl) hf5 (ev_cons (ev_op (ev_var rfl) ev_c (rv_ixT hu5 rfl)) (ev_cons (ev_op (ev_var rfl) ev_c (rv_ixT hca5 rfl)) (ev_cons (ev_op (ev_var rfl) ev_c (rv_ixT hsa5 rfl)) (ev_cons (ev_has (ev_var rfl) (ev_op (ev_var rfl) ev_c (rv_ixT hu5 rfl)) hL5) ev_nil)))) (by omega) fun t2 H6 e6 h6 => ?_))
    refine ⟨_, _, _, fs ++ [.ref t2], rfl, (e4.trans (e5.trans e6).b).put (by simp), upd_same, ?_, by simp [hfl]⟩
    have hai : (asksOf t.b t.ps L)[i]? = some ⟨u.nm, cell.2, span.1, L u.nm⟩ := by
      unfold asksOf
      rw [List.getElem?_map]
      have : (t.ps.zip ((putCells t.b.cols t.b.spans).zip t.b.spans))[i]? = some (u, (cell, span)) := by
        rw [List.getElem?_zip_eq_some]
        exact ⟨hu, by rw [List.getElem?_zip_eq_some]; exact ⟨hcell, hspan⟩⟩
      rw [this] <;> rfl
    rw [List.take_add_one, hai]
    have keep : ∀ {v : V} {r : Ask}, AskAt H6 v r → AskAt (upd H6 f (.lst (fs ++ [.ref t2]))) v r := fun ⟨a, e2, h2⟩ => ⟨a, e2, by rw [upd_ne (ne_of h2 (e6 _ _ hf5) (fun z => by cases z))]; exact h2⟩
    exact AllAt.snoc (hfs.mono fun _ _ _ z => keep (z.ex (e5.trans e6))) (keep ⟨t2, rfl, h6⟩)
  · obtain ⟨o7, o8, o9, fs, rfl, e4, h4f, hfs, hfl⟩ := pr
    have hal : (asksOf t.b t.ps L).length = ws.length := by
      unfold asksOf
      rw [List.length_map, List.length_zip, List.length_zip, hcf.1, w3]
      omega
    rw [← hal, List.take_length] at hfs
    have eall : Ex H H4 := ExB.fresh e13 e4 (fun x hx => by rw [List.mem_singleton.mp hx]; exact hf)
    refine nxC (retC (opK (cbC (consC (opK (callC (consQ (x := .int t.b.cols) (ev_var rfl) (consQ (x := .int t.b.gap) (ev_var rfl) (consC (opC (lst_go (xs := [.int 0]) (by trivial) fun l0 H5 e5 _ hl0 => Ev.go (v := .int t.b.cols) (ev_var rfl) ⟨l0, _, _, rfl, rfl, hl0, by omega, by omega, sz (by simp; omega), fun fl hfl0 => ?_⟩)))))))))))
    obtain ⟨H6, eH, e6, hfl6⟩ := gen_new (.lst (List.replicate (t.b.cols : Int).toNat [V.int 0]).flatten) hfl0
    rw [eH]
    have hrep : (List.replicate (t.b.cols : Int).toNat [V.int 0]).flatten = (List.replicate t.b.cols (0 : Int)).map V.int := by
      rw [Int.toNat_natCast, List.map_replicate]
      generalize t.b.cols = n
      induction n with
      | zero => rfl
      | succ n ih => rw [List.replicate_succ, List.flatten_cons, ih, List.replicate_succ]; rfl
    rw [hrep] at hfl6
    have e7 := e5.trans e6
    refine consQ (x := .ref f) (ev_var rfl) (nilC ⟨_, t.b.gap, fl, f, List.replicate t.b.cols 0, fs, _, rfl, hw.gap.1, hw.gap.2, hfl6, e7 _ _ h4f, asks_ex e7 hfs, ⟨by rw [List.length_replicate]; exact w2, ?_, fun a ha => ?_⟩, fun H8 tp np rp e8 htp hnp => op_end ev_c (rv_ixT htp (show atI [V.ref np, rp] 0 = some (V.ref np) from rfl)) (nilC (cv_sum hnp _ ?_))⟩)
    · omega
    · unfold asksOf at ha
      obtain ⟨⟨pt, cell, span⟩, hz, rfl⟩ := List.mem_map.mp ha
      have hz2 := (List.of_mem_zip hz).2
      have hfit := hcf.2 _ hz2
      have hsp := w4 span (List.of_mem_zip hz2).2
      rw [List.length_replicate]
      exact ⟨hsp.1, hfit⟩
    · have hg1 := hw.gap.1
      have hg2 := hw.gap.2
      have hta : tableAsk t.b t.ps L = (raiseT t.b.gap (List.replicate t.b.cols 0) (asksOf t.b t.ps L)).sum + t.b.gap * ((t.b.cols : Int) - 1) := by
        unfold tableAsk
        rw [gaps_pos (by omega)]
      refine op_end (y := .int (t.b.gap * ((t.b.cols : Int) - 1))) (ev_op (ev_var rfl) (ev_op (ev_var rfl) ev_c rv_sub) (rv_mul (.inl ⟨by omega, by omega⟩))) rv_add ?_
      rw [← hta]
      exact q _ (eall.trans (e7.trans e8))
end

section
variable {K : PySem.W.Frag}
/-- the values of parts, one by one -/
theorem rd_law_asked : ∀ vs H Q E, sp_law_asked K vs H Q E → r_law_asked K { nx := fun _ H' => Q .non H', rt := Q } (start ["_law_box", "_law_leasts", "_law_some", "_law_part"] vs) H := by
  rintro vs H Q E ⟨v, d, t, L, rfl, ht, hw, hL, q⟩
  obtain ⟨a, o, p, w, ws, rfl, h1, _, hwh, h4, h5⟩ := ht.out
  have hl := h5.1
  have hfew := hw.few
  refine s_asgQ (lcTq (f := (lsOf t.ps L).map V.int) (ev_op (ev_var rfl) ev_c (rv_ixT h1 rfl)) h4 (by unfold lsOf; simp [hl]) (by omega) (fun i x H' e hx y hy => ?_) fun D H1 e1 _ hD => ?_)
  · obtain ⟨u, hu, hxu⟩ := h5.get hx
    obtain ⟨ua, uo, up, uw, uws, rfl, hu1, _⟩ := (hxu.ex e).out
    unfold lsOf at hy
    rw [List.getElem?_map, List.getElem?_map, hu] at hy
    cases hy
    exact ev_has (ev_var rfl) (ev_op (ev_var rfl) ev_c (rv_ixT hu1 rfl)) ((hL.ex e).at (List.mem_of_getElem? hu))
  have h11 := e1 _ _ h1
  have tst : ∀ {H'} (kd : Kd), Ex H H' → Ev (tOp rEq (tOp (rIxT K) (tVar 0) (tC (.int 0))) (tC (.str kd.s))) [some (.ref a), some (.ref d), some (.ref D), none] H' (.bl (decide (t.b.kd = kd))) := fun {H'} kd e => by
    have h1' := e _ _ h1
    have hk : decide (t.b.kd.s = kd.s) = decide (t.b.kd = kd) := by
      cases t.b.kd <;> cases kd <;> decide
    rw [← hk]
    exact ev_op (ev_op (ev_var rfl) ev_c (rv_ixT h1' rfl)) ev_c rv_eqS
  have hll : (lsOf t.ps L).length = t.ps.length := by unfold lsOf; simp
  refine nst (σ' := [some (.ref a), some (.ref d), some (.ref D), none]) rfl ?_
  refine seqC (ifC (orC (evt_test (tst .leaf e1) _ (or_end (fun h => ?_) (fun h => ?_)))))
  · refine if_end (fun _ => e_ret ev_c ?_) (fun z => by cases z)
    rw [← asked_leaf (of_decide_eq_true h) L]
    exact q _ e1
  have nlf : ¬ t.b.kd = .leaf := of_decide_eq_false h
  refine testC (opQ (x := .ref D) (ev_var rfl) (lst_go (xs := []) ev_nil fun l H2 e2 _ hl2 => ⟨D, l, _, rfl, rfl, SqL.of (e2 _ _ hD), SqL.of hl2, b_end (if_end (fun h => ?_) (fun h => ?_))⟩))
  · have hps : t.ps = [] := by
      have := List.isEmpty_iff.mp h
      rw [List.map_eq_nil_iff] at this
      unfold lsOf at this
      exact List.map_eq_nil_iff.mp this
    have : asked t L = 0 := by
      have hg := hw.gap
      unfold asked lsOf
      rw [hps]
      cases t.b.kd with
      | leaf => rfl
      | row =>
        have h0 : gapsIn t.b.gap 0 = 0 := by
          unfold gapsIn
          rw [pmax_eq, Int.max_eq_left (by decide), Int.mul_zero]
        show (0 : Int) + gapsIn t.b.gap 0 = 0
        rw [h0] <;> rfl
      | col => rfl
      | wrap => rfl
      | table => rfl
    refine e_ret ev_c ?_
    rw [← this]
    exact q _ (e1.trans e2)
  have hne : t.ps ≠ [] := fun z => by
    unfold lsOf at h
    rw [z] at h
    cases h
  have hpos : 1 ≤ (t.ps.length : Int) := by
    have := List.length_pos_iff.mpr hne
    omega
  have e12 := e1.trans e2
  have hD2 := e2 _ _ hD
  refine nxC (s_ifN (b := decide (t.b.kd = .table)) (evt_test (tst .table e12)) (fun h => ?_) (fun h => ?_))
  · have hk : t.b.kd = .table := of_decide_eq_true h
    refine retC (callQ (xs := [.ref a, .ref d]) (by trivial) ⟨_, d, t, L, rfl, ht.ex e12, hk, hw, hL.ex e12, fun H3 e3 => ?_⟩)
    have : asked t L = tableAsk t.b t.ps L := by
      unfold asked
      rw [hk]
      simp only
      rw [if_neg (fun z => hne (List.isEmpty_iff.mp z))]
    rw [← this]
    exact q _ (e12.trans e3)
  have ntb : ¬ t.b.kd = .table := of_decide_eq_false h
  refine s_ifN (b := decide (t.b.kd = .row)) (evt_test (tst .row e12)) (fun h => ?_) (fun h => ?_)
  · have hk : t.b.kd = .row := of_decide_eq_true h
    have hln : LineAt H w t.b := by
      unfold WhatAt at hwh
      rw [hk] at hwh
      exact hwh
    obtain ⟨wq, u1, u2, rfl, hwq⟩ := hln
    have h12 := e12 _ _ h1
    have hwq2 := e12 _ _ hwq
    have hg1 := hw.gap.1
    have hg2 := hw.gap.2
    refine e_ret (v := .int ((lsOf t.ps L).sum + t.b.gap * (((lsOf t.ps L).map V.int).length - 1))) (ev_op (ev_cb (ev_cons (ev_var rfl) ev_nil) (cv_sum hD2)) (ev_op (ev_op (ev_op (ev_var rfl) ev_c (rv_ixT h12 rfl)) ev_c (rv_ixT hwq2 rfl)) (ev_op (ev_cb (ev_cons (ev_var rfl) ev_nil) (cv_lenL hD2)) ev_c rv_sub) (rv_mul (.inl ⟨by omega, by omega⟩))) rv_add) ?_
    have : asked t L = (lsOf t.ps L).sum + t.b.gap * (((lsOf t.ps L).map V.int).length - 1) := by
      unfold asked
      rw [hk]
      simp only
      rw [gaps_pos hpos, List.length_map, hll]
    rw [← this]
    exact q _ e12
  · have nrw : ¬ t.b.kd = .row := of_decide_eq_false h
    have : asked t L = maxL (lsOf t.ps L) := by
      unfold asked
      cases k : t.b.kd with
      | leaf => exact absurd k nlf
      | row => exact absurd k nrw
      | col => rfl
      | wrap => rfl
      | table => exact absurd k ntb
    refine retC (cbQ (xs := [.ref D]) (by trivial) ⟨D, _, rfl, SqL.of hD2, by omega, fun m hm hmm => ?_⟩)
    rw [maxL_uniq hm hmm, ← this]
    exact q _ e12
/-- a box's numbers as a tree tells them -/
theorem tr_ev {H : Hp} {v : V} {t : Tr} {σ : L2.St} {k : Nat} (ht : TrAt H v t) (hv : σ[k]? = some (some v)) : Ev (tOp (rIxT K) (tVar k) (tC (.int 1))) σ H (.str t.nm) ∧ Ev (tOp (rIxT K) (tOp (rIxT K) (tOp (rIxT K) (tVar k) (tC (.int 2))) (tC (.int 0))) (tC (.int 0))) σ H (.int t.b.own) ∧
    Ev (tOp (rIxT K) (tOp (rIxT K) (tVar k) (tC (.int 2))) (tC (.int 5))) σ H (.int t.b.grp) ∧ Ev (tOp (rIxT K) (tVar k) (tC (.int 0))) σ H (.str t.b.kd.s) := by
  obtain ⟨a, o, p, w, ws, rfl, h1, ⟨c, hi, v1, v2, v3, v4, h2, h3⟩, _⟩ := ht.out
  exact ⟨ev_op (ev_var hv) ev_c (rv_ixT h1 rfl), ev_op (ev_op (ev_op (ev_var hv) ev_c (rv_ixT h1 rfl)) ev_c (rv_ixT h2 rfl)) ev_c (rv_ixT h3 rfl), ev_op (ev_op (ev_var hv) ev_c (rv_ixT h1 rfl)) ev_c (rv_ixT h2 rfl), ev_op (ev_var hv) ev_c (rv_ixT h1 rfl)⟩
theorem askedQ {σ : L2.St} {H : Hp} {Q : VK} {x : V} {d : Addr} {t : Tr} {bs : List Tr} {L : Str → Int} {i j : Nat} (hx : σ[i]? = some (some x)) (hd : σ[j]? = some (some (.ref d))) (ht : TrAt H x t) (hw : WfB t) (hcl : ∀ p ∈ t.ps, p ∈ bs) (hL : HasL H d bs L) (q : ∀ H', Ex H H' → Q (.int (asked t L)) H') : tCallR (sp_law_asked K) E0 (tCons (tVar i) (tCons (tVar j) tNil)) σ H Q :=
  callQ (xs := [x, .ref d]) (ev_cons (ev_var hx) (ev_cons (ev_var hd) ev_nil)) ⟨x, d, t, L, rfl, ht, hw, let ⟨k, h1, h2⟩ := hL; ⟨k, h1, fun p hp => h2 p (hcl p hp)⟩, q⟩
theorem headOf_app {a b : List Tr} {g : Int} {c : Tr} (h : headOf a g = some c) : headOf (a ++ b) g = some c := by
  unfold headOf at h ⊢
  rw [List.find?_append, h] <;> rfl
theorem rd_law_holds : ∀ vs H Q E, sp_law_holds K vs H Q E → r_law_holds K { nx := fun _ H' => Q .non H', rt := Q } (start ["_law_boxes_here", "_law_leasts", "_law_firsts", "_law_box"] vs) H := by
  rintro vs H Q E ⟨bl, d, bs, L, rfl, hB, hL, q⟩
  obtain ⟨xs, hbl, hxs⟩ := hB.at_
  have hl := hxs.1
  have hfew := hB.few
  refine s_asgQ (newK_go fun f H1 e1 hf h1 => ?_)
  have hfb : f ≠ bl := (ne_of_none hbl hf).symm
  refine seqC (forL (xs := xs) (ev_var rfl) (e1 _ _ hbl) (fun i σ H' => ∃ (o : Option V) (kf : List (Key × V)), σ = [some (.ref bl), some (.ref d), some (.ref f), o] ∧ Ex H H' ∧ H' f = some (.dK kf) ∧ kf.length ≤ i ∧ (∀ b ∈ bs.take i, (decide (pmax b.b.own (asked b L) ≤ L b.nm) && groupB bs L b) = true) ∧
      ∀ g : Int, 0 < g → valV kf (.inl g) = (headOf (bs.take i) g).map fun c => V.int (L c.nm))
    ⟨none, [], rfl, e1, h1, Nat.le_refl _, fun b hb => by simp at hb, fun g _ => by simp [headOf]; rfl⟩ (fun i σ H' _ pr => let ⟨_, _, _, e, _⟩ := pr; e _ _ hbl) (fun i y σ H2 hy pr => ?_) fun σ H2 pr => ?_)
  · obtain ⟨o, kf, rfl, e2, h2, hkl, hdone, hfi⟩ := pr
    obtain ⟨b, hbi, hby⟩ := hxs.get hy
    have hmem := List.mem_of_getElem? hbi
    have hi := (List.getElem?_eq_some_iff.mp hbi).1
    have hstep : bs.take (i + 1) = bs.take i ++ [b] := by rw [List.take_add_one, hbi] <;> rfl
    have no : ∀ {H'}, Ex H2 H' → (decide (pmax b.b.own (asked b L) ≤ L b.nm) && groupB bs L b) = false → Q (.bl false) H' := fun {H'} e h => by
      have := q H' (e2.trans e)
      have hf : holdB bs L = false := List.all_eq_false.mpr ⟨b, hmem, by rw [h]; decide⟩
      rwa [hf] at this
    obtain ⟨t1, t2, t3, t4⟩ := tr_ev (K := K) (σ := [some (.ref bl), some (.ref d), some (.ref f), some y]) (k := 3) (hby.ex e2) rfl
    refine gN (nst (σ' := [some (.ref bl), some (.ref d), some (.ref f), some y]) rfl ?_)
    refine seqC (ifC (testC (opQ (x := .int (L b.nm)) (ev_has (ev_var rfl) t1 ((hL.ex e2).at hmem)) (cbC (consQ (x := .int b.b.own) t2 (consC (askedQ rfl rfl (hby.ex e2) (hB.wf b hmem) (hB.cl b hmem) (hL.ex e2) fun H3 e3 => nilC (cv_max _ (rv_lt _ (b_end (if_end (fun h => ?_) (fun h => ?_))))))))))))
    · have h : L b.nm < pmax b.b.own (asked b L) := of_decide_eq_true h
      refine e_ret ev_c (no e3 ?_)
      rw [decide_eq_false (by omega), Bool.false_and]
    · have h : ¬ L b.nm < pmax b.b.own (asked b L) := of_decide_eq_false h
      have hd1 : decide (pmax b.b.own (asked b L) ≤ L b.nm) = true := decide_eq_true (by omega)
      have e23 := e2.trans e3
      obtain ⟨t1, t2, t3, t4⟩ := tr_ev (K := K) (σ := [some (.ref bl), some (.ref d), some (.ref f), some y]) (k := 3) (hby.ex e23) rfl
      have ok : groupB bs L b = true → ∀ b' ∈ bs.take (i + 1), (decide (pmax b'.b.own (asked b' L) ≤ L b'.nm) && groupB bs L b') = true := fun hgb b' hb' => by
        rw [hstep] at hb'
        rcases List.mem_append.mp hb' with hb' | hb'
        · exact hdone b' hb'
        · rw [List.mem_singleton.mp hb', hd1, hgb] <;> rfl
      have hdel : bs.take i ++ bs.drop i = bs := List.take_append_drop _ _
      have hbd : bs.drop i = b :: bs.drop (i + 1) := by
        rw [List.drop_eq_getElem_cons hi, (List.getElem?_eq_some_iff.mp hbi).2]
      refine nxC (ifC (anC (evt_test (ev_op t3 ev_c rv_gt : Ev _ _ _ (.bl (decide (0 < b.b.grp)))) _ (an_end (fun hgp => ?_) (fun hgp => ?_)))))
      · have hgp : 0 < b.b.grp := of_decide_eq_true hgp
        have hL3 := hL.ex e23
        have hf3 := e3 _ _ h2
        have hsp : bs = bs.take i ++ (b :: bs.drop (i + 1)) := by rw [← hbd, hdel]
        refine testC (opK (sdC (y := .int b.b.grp) (ev_var rfl) (.inl ⟨_, .inl hf3⟩) t3 (Ev.go (v := .int (L b.nm)) (ev_has (ev_var rfl) t1 (hL3.at hmem)) (sd_end (k := .inl b.b.grp) hf3 (by omega) (fun vv hv => ?_) (fun hv => ?_)))))
        · rw [hfi _ hgp] at hv
          obtain ⟨c, hc, rfl⟩ := Option.map_eq_some_iff.mp hv
          have hcb : headOf bs b.b.grp = some c := by rw [hsp]; exact headOf_app hc
          have hgb : groupB bs L b = decide (L b.nm = L c.nm) := by
            unfold groupB
            rw [decide_eq_true (show b.b.grp > 0 from hgp), hcb] <;> rfl
          refine op_end (ev_has (ev_var rfl) t1 (hL3.at hmem)) rv_neI (b_end (if_end (fun h4 => ?_) (fun h4 => ?_)))
          · have h4 : ¬ L c.nm = L b.nm := by simpa using h4
            refine e_ret ev_c (no e3 ?_)
            rw [hgb, decide_eq_false (show ¬ L b.nm = L c.nm from fun z => h4 z.symm), Bool.and_false]
          · have h4 : L c.nm = L b.nm := by simpa using h4
            refine ⟨_, kf, rfl, e23, hf3, by omega, ok (by rw [hgb, decide_eq_true h4.symm]), fun g hg => ?_⟩
            rw [hfi g hg, hstep]
            by_cases hgg : b.b.grp = g
            · subst hgg
              rw [hc, headOf_app hc]
            · unfold headOf
              rw [List.find?_append, List.find?_cons_of_neg (by simpa using hgg)]
              simp
        · rw [hfi _ hgp] at hv
          have hn : headOf (bs.take i) b.b.grp = none := Option.map_eq_none_iff.mp hv
          have hcb : headOf bs b.b.grp = some b := by
            rw [hsp]
            unfold headOf at hn ⊢
            rw [List.find?_append, hn, List.find?_cons_of_pos (by simp)] <;> rfl
          have hgb : groupB bs L b = true := by
            unfold groupB
            rw [decide_eq_true (show b.b.grp > 0 from hgp), hcb]
            simp
          have e4 : Ex H (upd H3 f (.dK (putK kf (.inl b.b.grp) (.int (L b.nm))))) := e23.mut hf
          obtain ⟨t1', _⟩ := tr_ev (K := K) (σ := [some (.ref bl), some (.ref d), some (.ref f), some y]) (k := 3) (hby.ex e4) rfl
          refine op_end (ev_has (ev_var rfl) t1' ((hL.ex e4).at hmem)) rv_neI (b_end (if_end (fun h4 => ?_) (fun h4 => ?_)))
          · simp at h4
          · refine ⟨_, _, rfl, e4, upd_same, by have := length_putK kf (.inl b.b.grp : Key) (V.int (L b.nm)); omega, ok hgb, fun g hg => ?_⟩
            rw [valV_put, hstep]
            by_cases hgg : b.b.grp = g
            · subst hgg
              rw [if_pos rfl]
              unfold headOf at hn ⊢
              rw [List.find?_append, hn, List.find?_cons_of_pos (by simp)] <;> rfl
            · rw [if_neg (fun z => hgg (Sum.inl.inj z).symm), hfi g hg]
              unfold headOf
              rw [List.find?_append, List.find?_cons_of_neg (by simpa using hgg)]
              simp
      · have hgp : decide (b.b.grp > 0) = false := hgp
        refine if_end (fun z => by cases z) (fun _ => ⟨_, kf, rfl, e23, e3 _ _ h2, by omega, ok ?_, fun g hg => ?_⟩)
        · unfold groupB
          rw [hgp] <;> rfl
        · rw [hfi g hg, hstep]
          unfold headOf
          rw [List.find?_append]
          have : ¬ b.b.grp = g := fun z => by rw [z] at hgp; simp at hgp; omega
          rw [List.find?_cons_of_neg (by simpa using this)]
          simp
  · obtain ⟨o, kf, rfl, e2, h2, hkl, hdone, hfi⟩ := pr
    rw [hl, List.take_length] at hdone
    have hh : holdB bs L = true := List.all_eq_true.mpr hdone
    refine nxC (e_ret ev_c ?_)
    rw [← hh]
    exact q _ e2
end

section
variable {K : PySem.W.Frag}
theorem LD.has {H : Hp} {d : Addr} {bs : List Tr} {L : Str → Int} (h : LD H d bs L) : HasL H d bs L := let ⟨cs, h1, h2⟩ := h; ⟨_, .inl h2, fun p hp => by
  rw [entL_G]
  exact val_in (List.mem_map.mpr ⟨p, h1.mem_iff.mpr hp, rfl⟩)⟩
/-- a box's value put anew -/
theorem LD.put {H : Hp} {d : Addr} {bs : List Tr} {L : Str → Int} (h : LD H d bs L) {b : Tr} (hb : b ∈ bs) (v : Int) : ∃ kvs, H d = some (.dK kvs) ∧ kvs.length = bs.length ∧ ∀ H', LD (upd H' d (.dK (putK kvs (.inr b.nm) (.int v)))) d bs (updS L b.nm v) := by
  obtain ⟨cs, h1, h2⟩ := h
  refine ⟨_, h2, by rw [List.length_map]; exact h1.length_eq, fun H' => ⟨cs, h1, ?_⟩⟩
  rw [upd_same, entL_G, put_in (List.mem_map.mpr ⟨b, h1.mem_iff.mpr hb, rfl⟩), updS_int] <;> rfl
/-- d[name] = v -/
theorem ldput_go {td tk tv : TE} {D : Ends} {σ : L2.St} {H : Hp} {d : Addr} {bs : List Tr} {L : Str → Int} {b : Tr} {v : Int} (hv : Ev tv σ H (.int v)) (hd : Ev td σ H (.ref d)) (hk : Ev tk σ H (.str b.nm)) (h : LD H d bs L) (hb : b ∈ bs) (hn : bs.length ≤ 17) (k : ∀ H', (∀ a, a ≠ d → H' a = H a) → LD H' d bs (updS L b.nm v) → D.nx σ H') : sDPut td tk tv D σ H := by
  obtain ⟨kvs, h1, h2, h3⟩ := h.put hb v
  exact put_go (k := .inr b.nm) hv hd hk h1 (by omega) (k _ (fun a n => upd_ne n) (h3 H))
theorem ldput_end {td tk : TE} {D : Ends} {σ : L2.St} {H : Hp} {d : Addr} {bs : List Tr} {L : Str → Int} {b : Tr} {v : Int} (hd : Ev td σ H (.ref d)) (hk : Ev tk σ H (.str b.nm)) (h : LD H d bs L) (hb : b ∈ bs) (hn : bs.length ≤ 17) (k : ∀ H', (∀ a, a ≠ d → H' a = H a) → LD H' d bs (updS L b.nm v) → D.nx σ H') : PutC td tk D σ (.int v) H := by
  obtain ⟨kvs, h1, h2, h3⟩ := h.put hb v
  exact put_end (k := .inr b.nm) hd hk h1 (by omega) (k _ (fun a n => upd_ne n) (h3 H))
theorem Ex.but {H H1 H2 : Hp} {d : Addr} (e : Ex H H1) (h : H d = none) (k : ∀ a, a ≠ d → H2 a = H1 a) : Ex H H2 := fun a o ha => by rw [k a (ne_of_none ha h)]; exact e a o ha
theorem rd_law_raised : ∀ vs H Q E, sp_law_raised K vs H Q E → r_law_raised K { nx := fun _ H' => Q .non H', rt := Q } (start ["_law_boxes_here", "_law_leasts", "_law_greatest", "_law_after", "_law_box"] vs) H := by
  rintro vs H Q E ⟨bl, d, bs, L, rfl, hB, hL, q⟩
  obtain ⟨xs, hbl, hxs⟩ := hB.at_
  have hl := hxs.1
  have hfew := hB.few
  have hnd := hB.nodup
  -- the values
  obtain ⟨A, hA⟩ : ∃ A : Str → Int, ∀ b ∈ bs, A b.nm = max (L b.nm) (max b.b.own (asked b L)) := by
    refine ⟨fun n => match bs.find? fun b => decide (b.nm = n) with | some b => max (L b.nm) (max b.b.own (asked b L)) | none => 0, fun b hb => ?_⟩
    show (match bs.find? fun c => decide (c.nm = b.nm) with | some b => max (L b.nm) (max b.b.own (asked b L)) | none => 0) = _
    cases e : bs.find? fun c => decide (c.nm = b.nm) with
    | none => have := List.find?_eq_none.mp e b hb; simp at this
    | some c =>
      have h1 := List.mem_of_find?_eq_some e
      have h2 : c.nm = b.nm := by simpa using List.find?_some e
      have h3 := nm_eq hnd h1 hb h2
      subst h3
      rfl
  refine s_asgQ (newK_go fun g H1 e1 hg h1 => ?_)
  refine s_asgQ (newK_go fun af H2 e2 haf h2 => ?_)
  have hga : g ≠ af := ne_of_none h1 haf
  have haf0 : H af = none := e1.free haf
  refine seqC (forL (xs := xs) (ev_var rfl) ((e1.trans e2) _ _ hbl) (fun i σ H' => ∃ (o : Option V) (kg : List (Key × V)), σ = [some (.ref bl), some (.ref d), some (.ref g), some (.ref af), o] ∧ Ex H H' ∧ H' g = some (.dK kg) ∧ kg.length ≤ i ∧ H' af = some (.dK ((bs.take i).map (entL A))) ∧
      (∀ k v, valV kg (.inl k) = some v → ∃ j, v = .int j) ∧ ∀ b ∈ bs.take i, ∃ j, valV kg (.inl b.b.grp) = some (.int j))
    ⟨none, [], rfl, e1.trans e2, e2 _ _ h1, Nat.le_refl _, h2, (fun k v h => by cases h), (fun b hb => by simp at hb)⟩ (fun i σ H' _ pr => let ⟨_, _, _, e, _⟩ := pr; e _ _ hbl) (fun i y σ H3 hy pr => ?_) fun σ H3 pr => ?_)
  · obtain ⟨o, kg, rfl, e3, h3, hkl, h4, hin, hall⟩ := pr
    obtain ⟨b, hbi, hby⟩ := hxs.get hy
    have hmem := List.mem_of_getElem? hbi
    have hi := (List.getElem?_eq_some_iff.mp hbi).1
    have hstep : bs.take (i + 1) = bs.take i ++ [b] := by rw [List.take_add_one, hbi] <;> rfl
    have hnn : b.nm ∉ (bs.take i).map Tr.nm := fun z => by
      obtain ⟨c, hc, e⟩ := List.mem_map.mp z
      obtain ⟨j, hj⟩ := List.mem_iff_getElem?.mp hc
      rw [List.getElem?_take] at hj
      split at hj
      · rename_i hji
        have := names_ne hnd hj hbi e
        omega
      · cases hj
    refine gN (nst (σ' := [some (.ref bl), some (.ref d), some (.ref g), some (.ref af), some y]) rfl ?_)
    obtain ⟨t1, t2, t3, t4⟩ := tr_ev (K := K) (σ := [some (.ref bl), some (.ref d), some (.ref g), some (.ref af), some y]) (k := 4) (hby.ex e3) rfl
    refine seqC (putC (cbC (consQ (x := .int (L b.nm)) (ev_has (ev_var rfl) t1 ((hL.ex e3).at hmem)) (consQ (x := .int b.b.own) t2 (consC (askedQ rfl rfl (hby.ex e3) (hB.wf b hmem) (hB.cl b hmem) (hL.ex e3) fun H4 e4 => nilC ⟨_, _, _, rfl, ?_⟩))))))
    have hmax : (if asked b L > (if b.b.own > L b.nm then b.b.own else L b.nm) then asked b L else (if b.b.own > L b.nm then b.b.own else L b.nm)) = A b.nm := by
      rw [hA b hmem]
      split <;> split <;> omega
    rw [hmax]
    have e34 := e3.trans e4
    obtain ⟨t1, t2, t3, t4⟩ := tr_ev (K := K) (σ := [some (.ref bl), some (.ref d), some (.ref g), some (.ref af), some y]) (k := 4) (hby.ex e34) rfl
    refine put_end (k := .inr b.nm) (ev_var rfl) t1 (e4 _ _ h4) (by simp; omega) ?_
    obtain ⟨H5, hH5⟩ : ∃ H5, H5 = upd H4 af (.dK (putK ((bs.take i).map (entL A)) (.inr b.nm) (.int (A b.nm)))) := ⟨_, rfl⟩
    rw [← hH5]
    have e5 : Ex H H5 := by rw [hH5]; exact e34.mut haf0
    have h5a : H5 af = some (.dK ((bs.take (i + 1)).map (entL A))) := by
      rw [hH5, upd_same, entL_G, put_out hnn, hstep]
      congr 2
      refine List.map_congr_left fun c _ => ?_
      unfold entG updS
      split
      · rename_i h; rw [h]
      · rfl
    have h5g : H5 g = some (.dK kg) := by rw [hH5, upd_ne hga]; exact e4 _ _ h3
    obtain ⟨t1, t2, t3, t4⟩ := tr_ev (K := K) (σ := [some (.ref bl), some (.ref d), some (.ref g), some (.ref af), some y]) (k := 4) (hby.ex e5) rfl
    have hav : valV ((bs.take (i + 1)).map (entL A)) (.inr b.nm) = some (.int (A b.nm)) := by
      rw [entL_G]
      exact val_in (List.mem_map.mpr ⟨b, by rw [hstep]; simp, rfl⟩)
    refine nxC (putC (cbC (consC (get2C (y := .int b.b.grp) (ev_var rfl) (.inl ⟨_, .inl h5g⟩) t3 (Ev.go (v := .int 0) ev_c (get_end (k := .inl b.b.grp) h5g ?_))))))
    obtain ⟨j, hj⟩ : ∃ j : Int, (valV kg (.inl b.b.grp)).getD (.int 0) = .int j := by
      cases k : valV kg (.inl b.b.grp) with
      | none => exact ⟨0, rfl⟩
      | some v =>
        obtain ⟨j, rfl⟩ := hin _ _ k
        exact ⟨j, rfl⟩
    rw [hj]
    refine consQ (x := .int (A b.nm)) (ev_dgetS (ev_var rfl) t1 (.inl h5a) hav) (nilC (cv_max _ (put_end (k := .inl b.b.grp) (ev_var rfl) t3 h5g (by omega) ⟨_, _, rfl, e5.mut hg, upd_same, by have := length_putK kg (.inl b.b.grp : Key) (V.int (pmax j (A b.nm))); omega, by rw [upd_ne hga.symm]; exact h5a, fun k v hv => ?_, fun c hc => ?_⟩)))
    · rw [valV_put] at hv
      split at hv
      · cases hv; exact ⟨_, rfl⟩
      · exact hin k v hv
    · rw [valV_put]
      split
      · exact ⟨_, rfl⟩
      · rename_i hne
        rw [hstep] at hc
        rcases List.mem_append.mp hc with hc | hc
        · exact hall c hc
        · rw [List.mem_singleton.mp hc] at hne
          exact absurd rfl hne
  · obtain ⟨o, kg, rfl, e3, h3, hkl, h4, hin, hall⟩ := pr
    rw [hl, List.take_length] at h4 hall
    refine nxC (seqC (forL (xs := xs) (ev_var rfl) (e3 _ _ hbl) (fun i σ H' => ∃ (o : Option V) (A' : Str → Int), σ = [some (.ref bl), some (.ref d), some (.ref g), some (.ref af), o] ∧ Ex H H' ∧ H' g = some (.dK kg) ∧ LD H' af bs A' ∧ ∀ b ∈ bs, ¬ 0 < b.b.grp → A' b.nm = A b.nm)
      ⟨o, A, rfl, e3, h3, ⟨bs, List.Perm.refl _, h4⟩, fun b _ _ => rfl⟩ (fun i σ H' _ pr => let ⟨_, _, _, e, _⟩ := pr; e _ _ hbl) (fun i y σ H4 hy pr => ?_) fun σ H4 pr => ?_))
    · obtain ⟨o, A', rfl, e4, h4g, hLD, hk⟩ := pr
      obtain ⟨b, hbi, hby⟩ := hxs.get hy
      have hmem := List.mem_of_getElem? hbi
      refine gN (nst (σ' := [some (.ref bl), some (.ref d), some (.ref g), some (.ref af), some y]) rfl ?_)
      obtain ⟨t1, t2, t3, t4⟩ := tr_ev (K := K) (σ := [some (.ref bl), some (.ref d), some (.ref g), some (.ref af), some y]) (k := 4) (hby.ex e4) rfl
      refine e_if (b := decide (0 < b.b.grp)) (evt_test (ev_op t3 ev_c rv_gt)) (fun h => ?_) (fun h => ⟨_, A', rfl, e4, h4g, hLD, hk⟩)
      obtain ⟨j, hj⟩ := hall b hmem
      refine ldput_go (v := j) (ev_dgetI (ev_var rfl) t3 (.inl h4g) hj) (ev_var rfl) t1 hLD hmem hfew fun H5 k5 hLD5 => ⟨_, _, rfl, e4.but haf0 k5, by rw [k5 g hga]; exact h4g, hLD5, fun c hc hcg => ?_⟩
      rw [updS_ne fun z => ?_]
      · exact hk c hc hcg
      · rw [nm_eq hnd hc hmem z] at hcg
        exact hcg (of_decide_eq_true h)
    · obtain ⟨o, A', rfl, e4, h4g, hLD, hk⟩ := pr
      exact nxC (e_ret (ev_var rfl) (q _ _ A' e4 hLD fun b hb hg => by rw [hk b hb hg, hA b hb]))
/-- raised until they hold, up to forty times -/
theorem raise_loop {bl : Addr} {bs : List Tr} {σ : L2.St} {H : Hp} {p : Addr} {L : Str → Int} {w : Nat} {D : Ends} {Q : VK} (Φ : (Str → Int) → Prop) (hD : D.rt = Q) (h0 : σ[0]? = some (some (.ref bl))) (h4 : σ[4]? = some (some (.ref p))) (w0 : w ≠ 0) (w4 : w ≠ 4) (hB : Bxs H bl bs) (hLD : LD H p bs L) (hΦ : Φ L)
    (hst : ∀ L L', Φ L → (∀ b ∈ bs, ¬ 0 < b.b.grp → L' b.nm = max (L b.nm) (max b.b.own (asked b L))) → Φ L') (q : ∀ H' p L', Ex H H' → LD H' p bs L' → Φ L' → Q (.ref p) H') :
    (tSeq (tFor (iRng1 (tCons (tC (.int 40)) tNil)) (gName w) (tIfS (tAnd (tTest (tOp qLe (tMaxVals (tVar 4)) (tOp qPow (tC (.int 10)) (tC (.int 9))))) (tNot (tB (tCallR (sp_law_holds K) E0 (tCons (tVar 0) (tCons (tVar 4) tNil)))))) (tAsg (tCallR (sp_law_raised K) E0 (tCons (tVar 0) (tCons (tVar 4) tNil))) (gName 4)) tNext))
    (tRet (tVar 4))) D σ H := by
  refine seqC (forR (k := 40) (ev_cons ev_c ev_nil) (by decide) (fun i σ H' => σ[0]? = some (some (.ref bl)) ∧ ∃ p L, σ[4]? = some (some (.ref p)) ∧ Ex H H' ∧ LD H' p bs L ∧ Φ L) ⟨h0, p, L, h4, Ex.refl _, hLD, hΦ⟩ (fun i σ H1 hi pr => ?_) fun σ H1 pr => ?_)
  · obtain ⟨g0, p, L, g4, e1, hLD, hΦ⟩ := pr
    have g0' : (σ.set w (some (.int (i : Nat))))[0]? = some (some (.ref bl)) := by rw [List.getElem?_set_ne w0]; exact g0
    have g4' : (σ.set w (some (.int (i : Nat))))[4]? = some (some (.ref p)) := by rw [List.getElem?_set_ne w4]; exact g4
    refine gN ?_
    generalize σ.set w (some (.int (i : Nat))) = σ' at g0' g4'
    have hLD' := hLD
    obtain ⟨cs, hc1, hc2⟩ := hLD'
    have hpos : cs ≠ [] := fun z => by
      have h1 := hc1.length_eq
      have h2 := hB.pos
      rw [z] at h1
      simp at h1
      omega
    have stay : ∀ H2, Ex H1 H2 → σ'[0]? = some (some (.ref bl)) ∧ ∃ p L, σ'[4]? = some (some (.ref p)) ∧ Ex H H2 ∧ LD H2 p bs L ∧ Φ L := fun H2 e2 => ⟨g0', p, L, g4', e1.trans e2, hLD.ex e2, hΦ⟩
    refine ifC (anC (testC (opK (Ev.go (v := .ref p) (ev_var g4') ⟨p, _, cs.map fun c => L c.nm, rfl, hc2, by rw [List.map_map, List.map_map]; rfl, by simpa using hpos, fun m _ _ => op_end (ev_op ev_c ev_c (rv_pow ⟨by decide, by decide, by decide⟩)) rv_le (b_end (an_end (fun h => ?_) (fun h => ?_)))⟩))))
    · refine callQ (xs := [.ref bl, .ref p]) (ev_cons (ev_var g0') (ev_cons (ev_var g4') ev_nil)) ⟨bl, p, bs, L, rfl, hB.ex e1, hLD.has, fun H2 e2 => b_end (if_end (fun h2 => ?_) (fun h2 => stay H2 e2))⟩
      refine e_asgQ (callQ (xs := [.ref bl, .ref p]) (ev_cons (ev_var g0') (ev_cons (ev_var g4') ev_nil)) ⟨bl, p, bs, L, rfl, hB.ex (e1.trans e2), (hLD.ex e2).has, fun H3 p' L' e3 hLD' hr => ⟨?_, p', L', ?_, e1.trans (e2.trans e3), hLD', hst L L' hΦ hr⟩⟩)
      · rw [List.getElem?_set_ne (by decide)]; exact g0'
      · rw [List.getElem?_set_self (List.getElem?_eq_some_iff.mp g4').1]
    · exact if_end (fun z => by cases z) (fun _ => stay H1 (Ex.refl _))
  · obtain ⟨g0, p, L, g4, e1, hLD, hΦ⟩ := pr
    refine nxC (e_ret (ev_var g4) ?_)
    rw [hD]
    exact q _ p L e1 hLD hΦ
theorem dictD_go {H : Hp} {Q : VK} {d : Addr} {bs : List Tr} {L : Str → Int} (h : LD H d bs L) (k : ∀ p H', Ex H H' → H p = none → LD H' p bs L → Q (.ref p) H') : qDictD [.ref d] H Q := let ⟨cs, h1, h2⟩ := h; ⟨d, _, rfl, .inl h2, fun p hp => k p _ (Ex.new hp) hp ⟨cs, h1, upd_same⟩⟩
theorem rd_law_lifted : ∀ vs H Q E, sp_law_lifted K vs H Q E → r_law_lifted K { nx := fun _ H' => Q .non H', rt := Q } (start ["_law_boxes_here", "_law_leasts", "_law_group", "_law_by", "_law_other_here", "_law_box", "_law_turn"] vs) H := by
  rintro vs H Q E ⟨bl, d, g, by_, bs, L, rfl, hB, hLD, q⟩
  obtain ⟨xs, hbl, hxs⟩ := hB.at_
  refine s_asgQ (cbQ (xs := [.ref d]) (by trivial) (dictD_go hLD fun p H1 e1 hp hLD1 => ?_))
  refine seqC (forL (xs := xs) (ev_var rfl) (e1 _ _ hbl) (fun i σ H' => ∃ (o : Option V) (L' : Str → Int), σ = [some (.ref bl), some (.ref d), some (.int g), some (.int by_), some (.ref p), o, none] ∧ Ex H H' ∧ LD H' p bs L') ⟨none, L, rfl, e1, hLD1⟩ (fun i σ H' _ pr => let ⟨_, _, _, e, _⟩ := pr; e _ _ hbl) (fun i y σ H2 hy pr => ?_) fun σ H2 pr => ?_)
  · obtain ⟨o, L', rfl, e2, hLD2⟩ := pr
    obtain ⟨b, hbi, hby⟩ := hxs.get hy
    have hmem := List.mem_of_getElem? hbi
    refine gN (nst (σ' := [some (.ref bl), some (.ref d), some (.int g), some (.int by_), some (.ref p), some y, none]) rfl ?_)
    obtain ⟨t1, t2, t3, t4⟩ := tr_ev (K := K) (σ := [some (.ref bl), some (.ref d), some (.int g), some (.int by_), some (.ref p), some y, none]) (k := 5) (hby.ex e2) rfl
    refine e_if (b := decide (b.b.grp = g)) (evt_test (ev_op t3 (ev_var rfl) rv_eqI)) (fun h => ?_) (fun h => ⟨_, L', rfl, e2, hLD2⟩)
    exact ldput_go (v := L' b.nm + by_) (ev_op (ev_has (ev_var rfl) t1 (hLD2.has.at hmem)) (ev_var rfl) rv_add) (ev_var rfl) t1 hLD2 hmem hB.few fun H3 k3 hLD3 => ⟨_, _, rfl, e2.but hp k3, hLD3⟩
  · obtain ⟨o, L', rfl, e2, hLD2⟩ := pr
    exact nxC (raise_loop (fun _ => True) rfl rfl rfl (by decide) (by decide) (hB.ex e2) hLD2 trivial (fun _ _ _ _ => trivial) fun H' p' L'' e h _ => q H' p' L'' (e2.trans e) h)
end

section
variable {K : PySem.W.Frag}
/-- a pick of a list in the heap -/
theorem pickH {ta tb : TE} {σ : L2.St} {H : Hp} {Q : VK} {p : Addr} {xs : List V} {i : Int} (ha : Ev ta σ H (.ref p)) (hp : H p = some (.lst xs)) (hn : 0 < xs.length) (hb : Ev tb σ H (.int (i % (xs.length : Int)))) (k : ∀ v, v ∈ xs → Q v H) : tOp (rIxL K) ta tb σ H Q :=
  ha _ (hb _ (let ⟨v, hv, e⟩ := pick (n := i) (xs := xs) rfl hn; ⟨p, xs, _, v, rfl, rfl, SqL.of hp, e, k v hv⟩))
theorem rd_law_lowered : ∀ vs H Q E, sp_law_lowered K vs H Q E → r_law_lowered K { nx := fun _ H' => Q .non H', rt := Q } (start ["_law_boxes_here", "_law_leasts", "_law_cell", "_law_other_here", "_law_low", "_law_box"] vs) H := by
  rintro vs H Q E ⟨bl, d, c, bs, L, rfl, hB, hLD, q⟩
  obtain ⟨xs, hbl, hxs⟩ := hB.at_
  have hl := hxs.1
  have hpos := hB.pos
  refine s_asgQ (cbQ (xs := [.ref d]) (by trivial) (dictD_go hLD fun p H1 e1 hp hLD1 => ?_))
  have hbl1 := e1 _ _ hbl
  refine s_asgQ (opK (pickH (i := c) (ev_var rfl) hbl1 (by omega) (ev_op (ev_var rfl) (ev_cb (ev_cons (ev_var rfl) ev_nil) (cv_lenL hbl1)) (rv_mod (by omega))) fun v hv => ?_))
  obtain ⟨k, hk⟩ := List.mem_iff_getElem?.mp hv
  obtain ⟨lw, hlw, hvt⟩ := hxs.get hk
  have hlm := List.mem_of_getElem? hlw
  obtain ⟨va, vo, vp, vw, vws, rfl, g1, _⟩ := (hvt.ex e1).out
  refine op_end ev_c (rv_ixT g1 (show atI _ 1 = some (V.str lw.nm) from rfl)) ?_
  refine seqC (forLC (Ev.go (v := .ref bl) (ev_var rfl) ⟨bl, xs, rfl, SqL.of hbl1, fun rl hrl => ?_⟩))
  obtain ⟨H2, eH, e2, h2⟩ := gen_new (.lst xs.reverse) hrl
  rw [eH]
  have hpr : rl ≠ p := by
    obtain ⟨cs, _, h⟩ := hLD1
    exact (ne_of_none h hrl).symm
  refine for_end h2 (fun i σ H' => ∃ (o : Option V) (L' : Str → Int), σ = [some (.ref bl), some (.ref d), some (.int c), some (.ref p), some (.str lw.nm), o] ∧ ExB [p] H2 H' ∧ LD H' p bs L') ⟨none, L, rfl, ExB.refl _, hLD1.ex e2⟩ (fun i σ H' _ pr => let ⟨_, _, _, e, _⟩ := pr; e _ _ (by simpa using hpr) h2) (fun i y σ H3 hy pr => ?_) fun σ H3 pr => ?_
  · obtain ⟨o, L', rfl, e3, hLD3⟩ := pr
    have hym : y ∈ xs := List.mem_reverse.mp (List.mem_of_getElem? hy)
    obtain ⟨j, hj⟩ := List.mem_iff_getElem?.mp hym
    obtain ⟨b, hbj, hby⟩ := hxs.get hj
    have hmem := List.mem_of_getElem? hbj
    have e03 : Ex H H3 := ExB.fresh (e1.trans e2) e3 (fun x hx => by rw [List.mem_singleton.mp hx]; exact hp)
    refine gN (nst (σ' := [some (.ref bl), some (.ref d), some (.int c), some (.ref p), some (.str lw.nm), some y]) rfl ?_)
    have tr : ∀ {H'}, Ex H H' → _ := fun {H'} e => tr_ev (K := K) (H := H') (σ := [some (.ref bl), some (.ref d), some (.int c), some (.ref p), some (.str lw.nm), some y]) (k := 5) (hby.ex e) rfl
    refine seqC (putC (cbC (consQ (x := .int b.b.own) (tr e03).2.1 (consC (askedQ rfl rfl (hby.ex e03) (hB.wf b hmem) (hB.cl b hmem) hLD3.has fun H4 e4 => nilC (cv_max _ (ldput_end (ev_var rfl) (tr (e03.trans e4)).1 (hLD3.ex e4) hmem hB.few fun H5 k5 hLD5 => ?_)))))))
    have e05 : Ex H H5 := (e03.trans e4).but hp k5
    have e35 : ExB [p] H2 H5 := (e3.trans e4.b).trans fun a o m ha => by rw [k5 a (by simpa using m)]; exact ha
    refine nxC (e_if (b := decide (b.nm = lw.nm)) (evt_test (ev_op (tr e05).1 (ev_var rfl) rv_eqS)) (fun h => ?_) (fun h => ⟨_, _, rfl, e35, hLD5⟩))
    refine ldput_go (v := b.b.own) (b := lw) (tr e05).2.1 (ev_var rfl) (ev_var rfl) hLD5 hlm hB.few fun H6 k6 hLD6 => ⟨_, _, rfl, e35.trans fun a o m ha => by rw [k6 a (by simpa using m)]; exact ha, hLD6⟩
  · obtain ⟨o, L', rfl, e3, hLD3⟩ := pr
    have e03 : Ex H H3 := ExB.fresh (e1.trans e2) e3 (fun x hx => by rw [List.mem_singleton.mp hx]; exact hp)
    exact nxC (e_ret (ev_var rfl) (q _ _ L' e03 hLD3))
theorem rd_law_other : ∀ vs H Q E, sp_law_other K vs H Q E → r_law_other K { nx := fun _ H' => Q .non H', rt := Q } (start ["_law_boxes_here", "_law_leasts", "_law_cell", "_law_fixed", "_law_other_here", "_law_k", "_law_n", "_law_name", "_law_more", "_law_turn"] vs) H := by
  rintro vs H Q E ⟨bl, d, fx, c, bs, L, fs, rfl, hB, hLD, hhold, hfx, hfix, q⟩
  obtain ⟨xs, hbl, hxs⟩ := hB.at_
  have hl := hxs.1
  have hnd := hB.nodup
  refine s_asgQ (newK_go fun p H1 e1 hp h1 => ?_)
  have hbl1 := e1 _ _ hbl
  refine seqC (forR (k := xs.length) (ev_cons (ev_cb (ev_cons (ev_var rfl) ev_nil) (cv_lenL hbl1)) ev_nil) (by have := hB.few; omega) (fun i σ H' => ∃ (o5 o6 o7 o8 : Option V) (L' : Str → Int), σ = [some (.ref bl), some (.ref d), some (.int c), some (.ref fx), some (.ref p), o5, o6, o7, o8, none] ∧ Ex H H' ∧ H' p = some (.dK ((bs.take i).map (entL L'))) ∧ ∀ b ∈ bs.take i, b.nm ∈ fs → L' b.nm = L b.nm)
    ⟨none, none, none, none, L, rfl, e1, h1, fun b hb => by simp at hb⟩ (fun i σ H2 hi pr => ?_) fun σ H2 pr => ?_)
  · obtain ⟨o5, o6, o7, o8, L', rfl, e2, h2, hk⟩ := pr
    have hyi : xs[i]? = some xs[i] := List.getElem?_eq_getElem hi
    obtain ⟨b, hbi, hby⟩ := hxs.get hyi
    have hmem := List.mem_of_getElem? hbi
    have hib := (List.getElem?_eq_some_iff.mp hbi).1
    have hstep : bs.take (i + 1) = bs.take i ++ [b] := by rw [List.take_add_one, hbi] <;> rfl
    have hnn : b.nm ∉ (bs.take i).map Tr.nm := fun z => by
      obtain ⟨c, hc, e⟩ := List.mem_map.mp z
      obtain ⟨j, hj⟩ := List.mem_iff_getElem?.mp hc
      rw [List.getElem?_take] at hj
      split at hj
      · rename_i hji
        have := names_ne hnd hj hbi e
        omega
      · cases hj
    obtain ⟨ya, yo, yp, yw, yws, ey, g1, _⟩ := (hby.ex e2).out
    rw [ey] at hyi
    have hbl2 := e2 _ _ hbl
    refine gN (s_asg (ev_mixed (ev_cons (ev_op (ev_var rfl) (ev_op (ev_op ev_c (ev_var rfl) (rv_mul (.inl ⟨by decide, by decide⟩))) (ev_var rfl) (rv_mul (.inr ⟨by omega, by have := hB.few; omega⟩))) rv_add) ev_nil)) ?_)
    generalize mixF _ = n
    refine s_asg (v := .str b.nm) (ev_op (ev_op (ev_var rfl) (ev_var rfl) (rv_ixLn hbl2 hyi)) ev_c (rv_ixT g1 rfl)) ?_
    refine nst (σ' := [some (.ref bl), some (.ref d), some (.int c), some (.ref fx), some (.ref p), some (.int (i : Nat)), some (.int n), some (.str b.nm), o8, none]) rfl ?_
    have hLb := (hLD.has.ex e2).at hmem
    refine s_put (k := .inr b.nm) (v := .int (L b.nm)) (ev_has (ev_var rfl) (ev_var rfl) hLb) (ev_var rfl) (ev_var rfl) h2 (by simp; have := hB.few; omega) ?_
    obtain ⟨H3, hH3⟩ : ∃ H3, H3 = upd H2 p (.dK (putK ((bs.take i).map (entL L')) (.inr b.nm) (.int (L b.nm)))) := ⟨_, rfl⟩
    rw [← hH3]
    have e3 : Ex H H3 := by rw [hH3]; exact e2.mut hp
    have h3 : H3 p = some (.dK ((bs.take (i + 1)).map (entL (updS L' b.nm (L b.nm))))) := by
      rw [hH3, upd_same, entL_G, put_out hnn, hstep, updS_int] <;> rfl
    have hk3 : ∀ b' ∈ bs.take (i + 1), b'.nm ∈ fs → (updS L' b.nm (L b.nm)) b'.nm = L b'.nm := fun b' hb' hf => by
      by_cases e : b'.nm = b.nm
      · rw [e, updS_same]
      · rw [updS_ne e]
        rw [hstep] at hb'
        rcases List.mem_append.mp hb' with hb' | hb'
        · exact hk b' hb' hf
        · rw [List.mem_singleton.mp hb'] at e
          exact absurd rfl e
    have hfx3 := e3 _ _ hfx
    refine e_if (b := !decide (b.nm ∈ fs)) (evt_test (ev_op (ev_var rfl) (ev_var rfl) fun Q q => in_end (σ := []) hfx3 q)) (fun h => ?_) (fun h => ⟨_, _, _, _, _, rfl, e3, h3, hk3⟩)
    have hnf : ¬ b.nm ∈ fs := by simpa using h
    refine s_asg (v := .int (n / 3 % 9 * (n / 27 % 2))) (by trivial) ?_
    have hput : ∀ v : Int, putK ((bs.take (i + 1)).map (entL (updS L' b.nm (L b.nm)))) (.inr b.nm) (.int v) = (bs.take (i + 1)).map (entL (updS (updS L' b.nm (L b.nm)) b.nm v)) := fun v => by
      rw [entL_G, put_in (List.mem_map.mpr ⟨b, by rw [hstep]; simp, rfl⟩), updS_int] <;> rfl
    refine put_go (k := .inr b.nm) (v := .int (L b.nm * (n % 3 % 2) + n / 3 % 9 * (n / 27 % 2))) (ev_op (ev_op (ev_has (ev_var rfl) (ev_var rfl) ((hLD.has.ex e3).at hmem)) (by trivial) (rv_mul (cmul_modR (by decide) (by decide)))) (ev_var rfl) rv_add) (ev_var rfl) (ev_var rfl) h3 (by simp; have := hB.few; omega) ⟨_, _, _, _, updS (updS L' b.nm (L b.nm)) b.nm _, rfl, e3.mut hp, by rw [upd_same, hput], fun b' hb' hf => ?_⟩
    have : b'.nm ≠ b.nm := fun z => hnf (by rw [← z]; exact hf)
    rw [updS_ne this]
    exact hk3 b' hb' hf
  · obtain ⟨o5, o6, o7, o8, L', rfl, e2, h2, hk⟩ := pr
    rw [hl, List.take_length] at h2 hk
    refine nxC (raise_loop (fun L' => ∀ b ∈ bs, b.nm ∈ fs → L' b.nm = L b.nm) rfl rfl rfl (by decide) (by decide) (hB.ex e2) ⟨bs, List.Perm.refl _, h2⟩ hk (fun L1 L2 hΦ hr b hb hf => ?_) fun H' p' L'' e h hΦ => q H' p' L'' (e2.trans e) h hΦ)
    obtain ⟨hg, hp⟩ := hfix b hb hf
    have ha : asked b L1 = asked b L := asked_ext fun p hpp => hΦ p (hB.cl b hb p hpp) (hp p hpp)
    obtain ⟨h1, h2⟩ := hold_of hhold hb
    rw [hr b hb (by omega), hΦ b hb hf, ha]
    omega
end

section
variable {K : PySem.W.Frag}
theorem unlock {H H' : Hp} {d : Addr} {od : Obj} {u : HO} (e : Ex (upd H d (.frz od u)) H') (h : H d = some u) : Ex H (upd H' d u) := fun a o ha => by
  by_cases z : a = d
  · subst z; rw [h] at ha; cases ha; exact upd_same
  · rw [upd_ne z]; exact e _ _ (by rw [upd_ne z]; exact ha)
theorem HasL.frz {H : Hp} {d : Addr} {cs : List Tr} {L : Str → Int} {od : Obj} : HasL (upd H d (.frz od (.dK (cs.map (entL L))))) d cs L := ⟨_, .inr ⟨od, upd_same⟩, fun p hp => by
  rw [entL_G]
  exact val_in (List.mem_map.mpr ⟨p, hp, rfl⟩)⟩
/-- a comprehension over a dict's names (the dict is locked) -/
theorem lcK {td : TE} {g : TG} {tt : TT} {te : TE} {ws : List Nat} {σ : L2.St} {H : Hp} {Q : VK} {d : Addr} {od : Obj} {kvs : List (Key × V)} (he : Ev td σ H (.ref d)) (hf : H d = some (.frz od (.dK kvs))) (Pv : Addr → Nat → Hp → Prop) (h0 : ∀ D H', Ex H H' → H D = none → H' D = some (.lst []) → Pv D 0 H') (hG : ∀ D i H, i ≤ kvs.length → Pv D i H → H d = some (.frz od (.dK kvs)))
    (hs : ∀ D (i : Nat) k v H, kvs[i]? = some (k, v) → Pv D i H → g (kV k) (wipe σ ws) H fun σ2 H2 => wipe σ2 ws = wipe σ ws ∧ tt σ2 H2 fun b H3 =>
      if b = true then te σ2 H3 fun y H4 => ∃ acc, H4 D = some (.lst acc) ∧ acc.length < sizeLine ∧ Pv D (i + 1) (upd H4 D (.lst (acc ++ [y]))) else Pv D (i + 1) H3) (hd : ∀ D H, Pv D kvs.length H → Q (.ref D) H) : tLc (iKeys td) g tt te ws σ H Q :=
  he _ ⟨d, od, rfl, .inl ⟨kvs, hf, fun D hD => lc_it walk_keys (Pv D) (h0 D _ (Ex.new hD) hD upd_same) (hG D) (fun i x H1 H2 hi p hy => by
    obtain ⟨rfl, k, v, hk, rfl⟩ := hy
    exact hs D i k v _ hk p) (hd D)⟩⟩
theorem rd_law_matched : ∀ vs H Q E, sp_law_matched K vs H Q E → r_law_matched K { nx := fun _ H' => Q .non H', rt := Q } (start ["_law_boxes_here", "_law_leasts", "_law_cell", "_law_fixed", "_law_other_here", "_law_free", "_law_name", "_law_more", "_law_turn", "_law_box", "_law_one"] vs) H := by
  rintro vs H Q E ⟨bl, d, fx, c, bs, L, fs, rfl, hB, hLD, hfx, q⟩
  obtain ⟨xs, hbl, hxs⟩ := hB.at_
  have hl := hxs.1
  have hfew := hB.few
  refine s_asgQ (cbQ (xs := [.ref d]) (by trivial) (dictD_go hLD fun p H1 e1 hp hLD1 => ?_))
  refine s_asgQ (lcL (xs := xs) (a := bl) (ev_var rfl) (e1 _ _ hbl) (fun D i H' => Ex H1 H' ∧ H1 D = none ∧ ∃ ns : List Str, H' D = some (.lst (ns.map V.str)) ∧ ns.length ≤ i ∧ ∀ n ∈ ns, n ∈ bs.map Tr.nm) (fun D H' e h1 h2 => ⟨e, h1, [], h2, Nat.le_refl _, fun n hn => by cases hn⟩) (fun D i H' _ pr => (e1.trans pr.1) _ _ hbl) (fun D i y H2 hy pr => ?_) fun D H2 pr => ?_)
  · obtain ⟨e, hD, ns, hd, hnl, hns⟩ := pr
    obtain ⟨b, hbi, hby⟩ := hxs.get hy
    have hmem := List.mem_of_getElem? hbi
    have hi := (List.getElem?_eq_some_iff.mp hbi).1
    refine ⟨wipe1, ?_⟩
    obtain ⟨t1, t2, t3, t4⟩ := tr_ev (K := K) (σ := (wipe (List.set (start ["_law_boxes_here", "_law_leasts", "_law_cell", "_law_fixed", "_law_other_here", "_law_free", "_law_name", "_law_more", "_law_turn", "_law_box", "_law_one"] [V.ref bl, V.ref d, V.int c, V.ref fx]) 4 (some (V.ref p))) [9]).set 9 (some y)) (k := 9) (hby.ex (e1.trans e)) rfl
    have hfx2 := (e1.trans e) _ _ hfx
    refine (evt_and (b := decide (b.b.grp = 0)) (c := !decide (b.nm ∈ fs)) (evt_test (ev_op t3 ev_c rv_eqI)) (fun _ => evt_test (ev_op t1 (ev_var rfl) fun Q q => in_end (σ := []) (neg := true) hfx2 q))) _ ?_
    by_cases hh : (decide (b.b.grp = 0) && !decide (b.nm ∈ fs)) = true
    · rw [if_pos hh]
      exact t1 _ ⟨_, hd, szl (by simp; omega), e.mut hD, hD, ns ++ [b.nm], by rw [upd_same]; simp, by simp; omega, fun n hn => by
        rcases List.mem_append.mp hn with hn | hn
        · exact hns n hn
        · rw [List.mem_singleton.mp hn]; exact List.mem_map.mpr ⟨b, hmem, rfl⟩⟩
    · rw [if_neg hh]
      exact ⟨e, hD, ns, hd, by omega, hns⟩
  obtain ⟨e2, hD, ns, hfr, hnl, hns⟩ := pr
  have e12 := e1.trans e2
  have tail : ∀ (H' : Hp) (p' : Addr) (L' : Str → Int) (o6 o7 : Option V), Ex H H' → LD H' p' bs L' → (tSeq (tFor (iRng1 (tCons (tC (.int 40)) tNil)) (gName 8) (tIfS (tAnd (tTest (tOp qLe (tMaxVals (tVar 4)) (tOp qPow (tC (.int 10)) (tC (.int 9))))) (tNot (tB (tCallR (sp_law_holds K) E0 (tCons (tVar 0) (tCons (tVar 4) tNil)))))) (tAsg (tCallR (sp_law_raised K) E0 (tCons (tVar 0) (tCons (tVar 4) tNil))) (gName 4)) tNext))
    (tRet (tVar 4))) { nx := fun _ H' => Q .non H', rt := Q } [some (.ref bl), some (.ref d), some (.int c), some (.ref fx), some (.ref p'), some (.ref D), o6, o7, none, none, none] H' := fun H' p' L' o6 o7 e h =>
    raise_loop (fun _ => True) rfl rfl rfl (by decide) (by decide) (hB.ex e) h trivial (fun _ _ _ _ => trivial) fun H2 p2 L2 e2 h2 _ => q H2 p2 L2 (e.trans e2) h2
  refine nst (σ' := [some (.ref bl), some (.ref d), some (.int c), some (.ref fx), some (.ref p), some (.ref D), none, none, none, none, none]) rfl ?_
  refine seqC (ifC (testC (opQ (x := .ref D) (ev_var rfl) (lst_go (xs := []) ev_nil fun l H3 e3 _ hl3 => ⟨D, l, _, rfl, rfl, SqL.of (e3 _ _ hfr), SqL.of hl3, b_end (if_end (fun h => ?_) (fun h => ?_))⟩))))
  · have hne : 0 < (ns.map V.str).length := by
      rw [List.length_pos_iff]
      intro z
      rw [z] at h
      cases h
    have hfr3 := e3 _ _ hfr
    have e13 := e12.trans e3
    refine s_asgQ (pickH (i := c / 5) (ev_var rfl) hfr3 hne (ev_op (by trivial) (ev_cb (ev_cons (ev_var rfl) ev_nil) (cv_lenL hfr3)) (rv_mod (by omega))) fun v hv => ?_)
    obtain ⟨n, hn, rfl⟩ := List.mem_map.mp hv
    obtain ⟨b, hb, hbn⟩ := List.mem_map.mp (hns n hn)
    obtain ⟨cs, hcs, hcd⟩ := hLD.ex e13
    have hbc : b ∈ cs := hcs.mem_iff.mpr hb
    refine nst (σ' := [some (.ref bl), some (.ref d), some (.int c), some (.ref fx), some (.ref p), some (.ref D), some (.str n), none, none, none, none]) rfl ?_
    refine s_asgQ (cbC (consC ⟨d, .dK (cs.map (entL L)), hcd, trivial, fun od => ?_⟩))
    obtain ⟨H4, hH4⟩ : ∃ H4, H4 = upd H3 d (.frz od (.dK (cs.map (entL L)))) := ⟨_, rfl⟩
    rw [← hH4]
    have h4d : H4 d = some (.frz od (.dK (cs.map (entL L)))) := by rw [hH4]; exact upd_same
    have hL4 : HasL H4 d cs L := by rw [hH4]; exact HasL.frz
    refine lcK (ev_var rfl) h4d (fun G i H' => Ex H4 H' ∧ H4 G = none ∧ ∃ ms : List Int, H' G = some (.lst (ms.map V.int)) ∧ ms.length ≤ i) (fun G H' e h1 h2 => ⟨e, h1, [], h2, Nat.le_refl _⟩) (fun G i H' _ pr => pr.1 _ _ h4d) (fun G i k kv H6 hk pr => ?_) fun G H5 pr => ?_
    · have hi : i < (cs.map (entL L)).length := (List.getElem?_eq_some_iff.mp hk).1
      obtain ⟨e5, hG, ms, hms, hml⟩ := pr
      rw [List.getElem?_map] at hk
      obtain ⟨cb, hcb, hce⟩ := Option.map_eq_some_iff.mp hk
      have hkk : k = .inr cb.nm := (congrArg Prod.fst hce).symm
      subst hkk
      have hcm := List.mem_of_getElem? hcb
      refine ⟨wipe1, ?_⟩
      have hc17 : cs.length ≤ 17 := by rw [hcs.length_eq]; exact hfew
      have g1 : Ev (tDGet (tVar 1) (tVar 10)) ((wipe [some (.ref bl), some (.ref d), some (.int c), some (.ref fx), some (.ref p), some (.ref D), some (.str n), none, none, none, none] [10]).set 10 (some (kV (.inr cb.nm)))) H6 (.int (L cb.nm)) := ev_has (ev_var rfl) (ev_var (v := .str cb.nm) rfl) ((hL4.ex e5).at hcm)
      have g2 : Ev (tDGet (tVar 1) (tVar 6)) ((wipe [some (.ref bl), some (.ref d), some (.int c), some (.ref fx), some (.ref p), some (.ref D), some (.str n), none, none, none, none] [10]).set 10 (some (kV (.inr cb.nm)))) H6 (.int (L n)) := by
        have := (hL4.ex e5).at hbc
        rw [hbn] at this
        exact ev_has (ev_var rfl) (ev_var rfl) this
      refine (evt_test (ev_op g1 g2 rv_gt) : EvT _ _ _ (decide (L n < L cb.nm))) _ ?_
      rw [List.length_map] at hi
      by_cases hh : decide (L n < L cb.nm) = true
      · rw [if_pos hh]
        exact g1 _ ⟨_, hms, szl (by simp; omega), e5.mut hG, hG, ms ++ [L cb.nm], by rw [upd_same]; simp, by simp; omega⟩
      · rw [if_neg hh]
        exact ⟨e5, hG, ms, hms, by omega⟩
    · obtain ⟨e5, hG, ms, hms, hml⟩ := pr
      refine ⟨e5 _ _ h4d, nilC ?_⟩
      have hGd : G ≠ d := ne_of hms (e5 _ _ h4d) (fun z => by cases z)
      obtain ⟨H6, hH6⟩ : ∃ H6, H6 = upd H5 d (.dK (cs.map (entL L))) := ⟨_, rfl⟩
      rw [← hH6]
      have e36 : Ex H3 H6 := by rw [hH6]; exact unlock (by rw [← hH4]; exact e5) hcd
      have h6G : H6 G = some (.lst (ms.map V.int)) := by rw [hH6, upd_ne hGd]; exact hms
      refine ⟨G, ms, rfl, SqL.of h6G, fun ns' pp hperm _ hpp => ?_⟩
      obtain ⟨H7, eH, e7, h7⟩ := gen_new (.lst (ns'.map V.int)) hpp
      rw [eH]
      have e37 := e36.trans e7
      have hLD7 := (hLD1.ex (e2.trans e3)).ex e37
      have hLn : HasD H7 d n (.int (L n)) := by
        have := (hLD.ex (e13.trans e37)).has.at hb
        rwa [hbn] at this
      have hc17 : ms.length ≤ 17 := by
        rw [List.length_map, hcs.length_eq] at hml
        omega
      refine nst (σ' := [some (.ref bl), some (.ref d), some (.int c), some (.ref fx), some (.ref p), some (.ref D), some (.str n), some (.ref pp), none, none, none]) rfl ?_
      refine putC (opC (opQ (x := .ref pp) (ev_var rfl) (lst_go (xs := [.int (L n + 1)]) (ev_cons (ev_op (ev_has (ev_var rfl) (ev_var rfl) hLn) ev_c rv_add) ev_nil) fun l8 H8 e8 _ hl8 => cat_go (e8 _ _ h7) hl8 (by have := hperm.length_eq; simp; omega) fun r H9 e9 _ hr9 => ev_c _ ?_)))
      obtain ⟨v, hv⟩ : ∃ v : Int, (ns'.map V.int ++ [V.int (L n + 1)])[0]? = some (.int v) := by
        cases ns' with
        | nil => exact ⟨_, rfl⟩
        | cons a r => exact ⟨a, rfl⟩
      refine rv_ixL hr9 (atI_nat (j := 0) hv) _ ?_
      have e79 := e8.trans e9
      refine ldput_end (b := b) (ev_var rfl) (by rw [hbn]; exact ev_var rfl) (hLD7.ex e79) hb hfew fun H10 k10 hLD10 => nxC ?_
      exact tail H10 p _ _ _ ((e13.trans (e37.trans e79)).but hp k10) hLD10
  · exact nxC (tail H3 p _ _ _ (e12.trans e3) (hLD1.ex (e2.trans e3)))
end

section
variable {K : PySem.W.Frag}
theorem sortedD_go {H : Hp} {Q : VK} {d : Addr} {bs : List Tr} {L : Str → Int} (h : LD H d bs L) (hn : bs.length ≤ 17) (k : ∀ ys p H', Ex H H' → H p = none → H' p = some (.lst (ys.map V.str)) → ys.Perm (bs.map Tr.nm) → sortedS ys = true → Q (.ref p) H') : qSortedD [.ref d] H Q := by
  obtain ⟨cs, h1, h2⟩ := h
  refine ⟨d, _, cs.map Tr.nm, rfl, .inl h2, by rw [List.map_map, List.map_map]; rfl, by rw [List.length_map, h1.length_eq]; omega, fun ys p hp hs hpn => k ys p _ (Ex.new hpn) hpn upd_same (hp.trans (h1.map _)) hs⟩
/-- an if that sets one name by an expression that is not quiet -/
theorem s_ifAsgK {tt : TT} {ta : TE} {σ : L2.St} {H : Hp} {n : Nat} {old : V} {b : Bool} {s2 : TS} {D : Ends} (R : V → Hp → Prop) (h : EvT tt σ H b) (ho : σ[n]? = some (some old)) (k1 : b = true → ∀ Q : VK, (∀ v H', R v H' → Q v H') → ta σ H Q) (k2 : b = false → R old H) (k : ∀ v H', R v H' → s2 D (σ.set n (some v)) H') : tSeq (tIfS tt (tAsg ta (gName n)) tNext) s2 D σ H := h _ (by
  cases b with
  | true => exact k1 rfl _ k
  | false =>
    have := k old H (k2 rfl)
    rw [set_old ho] at this
    exact this)
def rvT (w n : Str) (rk : Int) : Rsn := ⟨w, n, rk⟩
theorem rd_law_forged : ∀ vs H Q E, sp_law_forged K vs H Q E → r_law_forged K { nx := fun _ H' => Q .non H', rt := Q } (start ["_law_boxes_here", "_law_leasts", "_law_cell", "_law_paper", "_law_groups", "_law_box", "_law_k", "_law_least", "_law_n", "_law_rank", "_law_some", "_law_parts", "_law_name", "_law_part"] vs) H := by
  rintro vs H Q E ⟨bl, d, c, bs, L, rfl, hB, hLD, q⟩
  obtain ⟨xs, hbl, hxs⟩ := hB.at_
  have hl := hxs.1
  have hfew := hB.few
  have hnd := hB.nodup
  refine s_asgQ (newK_go fun pp H1 e1 hp h1 => ?_)
  refine s_asgQ (newK_go fun g H2 e2 hg h2 => ?_)
  have hpg : pp ≠ g := ne_of_none h1 hg
  have hg0 : H g = none := e1.free hg
  refine seqC (forL (xs := xs) (ev_var rfl) ((e1.trans e2) _ _ hbl) (fun i σ H' => ∃ (o : Option V) (kg : List (Key × V)), σ = [some (.ref bl), some (.ref d), some (.int c), some (.ref pp), some (.ref g), o, none, none, none, none, none, none, none, none] ∧ Ex H H' ∧ H' pp = some (.dK []) ∧ H' g = some (.dK kg) ∧ kg.length ≤ i ∧
      (∀ k v, valV kg (.inl k) = some v → ∃ (l : Addr) (ns : List Str), v = V.ref l ∧ H' l = some (.lst (ns.map V.str)) ∧ 0 < ns.length ∧ ns.length ≤ i ∧ H l = none) ∧ ∀ b ∈ bs.take i, (valV kg (.inl b.b.grp)).isSome = true)
    ⟨none, [], rfl, e1.trans e2, e2 _ _ h1, h2, Nat.le_refl _, (fun k v h => by cases h), (fun b hb => by simp at hb)⟩ (fun i σ H' _ pr => let ⟨_, _, _, e, _⟩ := pr; e _ _ hbl) (fun i y σ H3 hy pr => ?_) fun σ H3 pr => ?_)
  · obtain ⟨o, kg, rfl, e3, h3p, h3, hkl, hin, hall⟩ := pr
    obtain ⟨b, hbi, hby⟩ := hxs.get hy
    have hmem := List.mem_of_getElem? hbi
    have hi := (List.getElem?_eq_some_iff.mp hbi).1
    have hstep : bs.take (i + 1) = bs.take i ++ [b] := by rw [List.take_add_one, hbi] <;> rfl
    refine gN (nst (σ' := [some (.ref bl), some (.ref d), some (.int c), some (.ref pp), some (.ref g), some y, none, none, none, none, none, none, none, none]) rfl ?_)
    have tr : ∀ {H'}, Ex H H' → _ := fun {H'} e => tr_ev (K := K) (H := H') (σ := [some (.ref bl), some (.ref d), some (.int c), some (.ref pp), some (.ref g), some y, none, none, none, none, none, none, none, none]) (k := 5) (hby.ex e) rfl
    refine apC (sdC (y := .int b.b.grp) (ev_var rfl) (.inl ⟨_, .inl h3⟩) (tr e3).2.2.1 (lst_go (xs := []) ev_nil fun l0 H4 e4 hl0 h4 => sd_end (k := .inl b.b.grp) (e4 _ _ h3) (by omega) (fun vv hv => ?_) (fun hv => ?_)))
    · obtain ⟨l, ns, rfl, q1, q2, q3, q4⟩ := hin _ _ hv
      have hlg : l ≠ g := ne_of q1 h3 (fun z => by cases z)
      have hlp : l ≠ pp := ne_of q1 h3p (fun z => by cases z)
      refine ap_end (tr (e3.trans e4)).1 (e4 _ _ q1) (by rw [List.length_map]; omega) ⟨_, kg, rfl, (e3.trans e4).mut q4, by rw [upd_ne hlp.symm]; exact e4 _ _ h3p, by rw [upd_ne hlg.symm]; exact e4 _ _ h3, by omega, fun k v hkv => ?_, fun b' hb' => ?_⟩
      · obtain ⟨l', ns', rfl, r1, r2, r3, r4⟩ := hin _ _ hkv
        by_cases e : l' = l
        · subst e
          exact ⟨l', ns ++ [b.nm], rfl, by rw [upd_same, List.map_append]; rfl, by simp, by simp; omega, r4⟩
        · exact ⟨l', ns', rfl, by rw [upd_ne e]; exact e4 _ _ r1, r2, by omega, r4⟩
      · rw [hstep] at hb'
        rcases List.mem_append.mp hb' with hb' | hb'
        · exact hall b' hb'
        · rw [List.mem_singleton.mp hb', hv] <;> rfl
    · have hlg : l0 ≠ g := (ne_of_none h3 hl0).symm
      have hlp : l0 ≠ pp := (ne_of_none h3p hl0).symm
      have e5 : Ex H (upd H4 g (.dK (putK kg (.inl b.b.grp) (.ref l0)))) := (e3.trans e4).mut hg0
      refine ap_end (xs := []) (tr e5).1 (by rw [upd_ne hlg]; exact h4) (by decide) ⟨_, putK kg (.inl b.b.grp) (.ref l0), rfl, e5.mut (e3.free hl0), by rw [upd_ne hlp.symm, upd_ne hpg]; exact e4 _ _ h3p, by rw [upd_ne hlg.symm]; exact upd_same, by have := length_putK kg (.inl b.b.grp : Key) (V.ref l0); omega, fun k v hkv => ?_, fun b' hb' => ?_⟩
      · rw [valV_put] at hkv
        split at hkv
        · cases hkv
          exact ⟨l0, [b.nm], rfl, by rw [upd_same]; rfl, by simp, by simp, e3.free hl0⟩
        · obtain ⟨l', ns', rfl, r1, r2, r3, r4⟩ := hin _ _ hkv
          have n1 : l' ≠ l0 := ne_of_none r1 hl0
          have n2 : l' ≠ g := ne_of r1 h3 (fun z => by cases z)
          exact ⟨l', ns', rfl, by rw [upd_ne n1, upd_ne n2]; exact e4 _ _ r1, r2, by omega, r4⟩
      · rw [valV_put]
        split
        · rfl
        · rename_i hne
          rw [hstep] at hb'
          rcases List.mem_append.mp hb' with hb' | hb'
          · exact hall b' hb'
          · rw [List.mem_singleton.mp hb'] at hne
            exact absurd rfl hne
  obtain ⟨o, kg, rfl, e3, h3p, h3, hkl, hin, hall⟩ := pr
  rw [hl, List.take_length] at hall
  -- the second loop
  have hgp : ∀ {H'}, ExB [pp] H3 H' → H' g = some (.dK kg) := fun e => e _ _ (by simpa using hpg.symm) h3
  refine nxC (seqC (forR (k := xs.length) (ev_cons (ev_cb (ev_cons (ev_var rfl) ev_nil) (cv_lenL (e3 _ _ hbl))) ev_nil) (by omega) (fun i σ H' => ∃ (o5 o6 o7 o8 o9 o10 o11 : Option V) (P : Str → Rsn) (ra : Str → Addr), σ = [some (.ref bl), some (.ref d), some (.int c), some (.ref pp), some (.ref g), o5, o6, o7, o8, o9, o10, o11, none, none] ∧ ExB [pp] H3 H' ∧ H' pp = some (.dK ((bs.take i).map (entP ra))) ∧ ∀ b ∈ bs.take i, H' (ra b.nm) = some (rsnT (P b.nm)))
    ⟨o, none, none, none, none, none, none, fun _ => ⟨"", "", 0⟩, fun _ => 0, rfl, ExB.refl _, h3p, fun b hb => by simp at hb⟩ (fun i σ H4 hi pr => ?_) fun σ H4 pr => ?_))
  · obtain ⟨o5, o6, o7, o8, o9, o10, o11, P, ra, rfl, e4, h4, hra⟩ := pr
    have eX : ∀ {H'}, ExB [pp] H3 H' → Ex H H' := fun e => ExB.fresh e3 e (fun x hx => by rw [List.mem_singleton.mp hx]; exact hp)
    have hyi : xs[i]? = some xs[i] := List.getElem?_eq_getElem hi
    obtain ⟨b, hbi, hby⟩ := hxs.get hyi
    have hmem := List.mem_of_getElem? hbi
    have hstep : bs.take (i + 1) = bs.take i ++ [b] := by rw [List.take_add_one, hbi] <;> rfl
    have hnn : b.nm ∉ (bs.take i).map Tr.nm := fun z => by
      obtain ⟨c, hc, e⟩ := List.mem_map.mp z
      obtain ⟨j, hj⟩ := List.mem_iff_getElem?.mp hc
      rw [List.getElem?_take] at hj
      split at hj
      · rename_i hji
        have := names_ne hnd hj hbi e
        omega
      · cases hj
    generalize xs[i] = y at hyi hby
    have hbl4 := (eX e4) _ _ hbl
    refine gN (s_asg (v := y) (ev_op (ev_var rfl) (ev_var rfl) (rv_ixLn hbl4 hyi)) ?_)
    have tr : ∀ {H' o6 o7 o8 o9 o10 o11 o12 o13}, Ex H H' → _ := fun {H' o6 o7 o8 o9 o10 o11 o12 o13} e => tr_ev (K := K) (H := H') (σ := [some (.ref bl), some (.ref d), some (.int c), some (.ref pp), some (.ref g), some y, o6, o7, o8, o9, o10, o11, o12, o13]) (k := 5) (hby.ex e) rfl
    refine nst (σ' := [some (.ref bl), some (.ref d), some (.int c), some (.ref pp), some (.ref g), some y, some (.int (i : Nat)), o7, o8, o9, o10, o11, none, none]) rfl ?_
    refine s_asg (v := .int (L b.nm)) (ev_has (ev_var rfl) (tr (eX e4)).1 ((hLD.ex (eX e4)).has.at hmem)) ?_
    refine s_asg (ev_mixed (ev_cons (ev_op (ev_var rfl) (ev_op (ev_op ev_c (ev_var rfl) (rv_mul (.inl ⟨by decide, by decide⟩))) (ev_var rfl) (rv_mul (.inr ⟨by omega, by omega⟩))) rv_add) ev_nil)) ?_
    generalize mixF _ = n
    refine s_asg (v := .int (100 - (i : Nat))) (ev_op ev_c (ev_var rfl) rv_sub) ?_
    refine nst (σ' := [some (.ref bl), some (.ref d), some (.int c), some (.ref pp), some (.ref g), some y, some (.int (i : Nat)), some (.int (L b.nm)), some (.int n), some (.int (100 - (i : Nat))), o10, o11, none, none]) rfl ?_
    refine s_ifAsgK (b := decide (c % 2 = 1)) (old := .int (100 - (i : Nat))) (fun v H' => Ex H4 H' ∧ ∃ r : Int, v = .int r) (by trivial) rfl (fun _ Q' k' => pickL 4 4 (xs := [.int 0, .int (n / 8 % 5), .int (100 - (i : Nat)), .int (i : Nat)]) (by trivial) rfl rfl (by decide) (by decide) (fun _ => by trivial) fun v H5 hv e5 => k' v H5 ⟨e5, ?_⟩) (fun _ => ⟨Ex.refl _, _, rfl⟩) ?_
    · simp only [List.mem_cons, List.not_mem_nil, or_false] at hv
      rcases hv with h | h | h | h <;> exact ⟨_, h⟩
    rintro v H5 ⟨e5, r, rfl⟩
    have e45 : ExB [pp] H3 H5 := e4.trans e5.b
    obtain ⟨gv, hgv⟩ := Option.isSome_iff_exists.mp (hall b hmem)
    obtain ⟨l, ns, rfl, q1, q2, q3, q4⟩ := hin _ _ hgv
    have hlp : l ≠ pp := ne_of q1 h3p (fun z => by cases z)
    have q15 := e45 _ _ (by simpa using hlp) q1
    refine nst (σ' := [some (.ref bl), some (.ref d), some (.int c), some (.ref pp), some (.ref g), some y, some (.int (i : Nat)), some (.int (L b.nm)), some (.int n), some (.int r), o10, o11, none, none]) rfl ?_
    refine s_asg (v := .ref l) (ev_dgetI (ev_var rfl) (tr (eX e45)).2.2.1 (.inl (hgp e45)) hgv) ?_
    refine nst (σ' := [some (.ref bl), some (.ref d), some (.int c), some (.ref pp), some (.ref g), some y, some (.int (i : Nat)), some (.int (L b.nm)), some (.int n), some (.int r), some (.ref l), o11, none, none]) rfl ?_
    refine s_ifAsgK (b := decide (c / 2 % 2 = 1)) (old := .ref l) (fun v H' => Ex H5 H' ∧ ∃ (l : Addr) (ns : List Str), v = .ref l ∧ H' l = some (.lst (ns.map V.str)) ∧ 0 < ns.length) (by trivial) rfl (fun _ Q' k' => ?_) (fun _ => ⟨Ex.refl _, l, ns, rfl, q15, q2⟩) ?_
    · have hLD5 := hLD.ex (eX e45)
      refine opC (lcLC (cbQ (xs := [.ref d]) (by trivial) (sortedD_go hLD5 hfew fun ys ps H6 e6 _ h6 hperm _ => ?_)))
      refine lc_end h6 (fun D j H' => Ex H6 H' ∧ H6 D = none ∧ ∃ ms : List Str, H' D = some (.lst (ms.map V.str)) ∧ ms.length ≤ j) (fun D H' e h1 h2 => ⟨e, h1, [], h2, Nat.le_refl _⟩) (fun D j H' _ pr => pr.1 _ _ h6) (fun D j x H7 hx pr => ?_) fun D H7 pr => ?_
      · obtain ⟨e7, hD, ms, hms, hml⟩ := pr
        rw [List.getElem?_map] at hx
        obtain ⟨nm, hnm, rfl⟩ := Option.map_eq_some_iff.mp hx
        have hyl : ys.length ≤ 17 := by rw [hperm.length_eq, List.length_map]; exact hfew
        have hj := (List.getElem?_eq_some_iff.mp hnm).1
        obtain ⟨bn, hbn, rfl⟩ := List.mem_map.mp (hperm.mem_iff.mp (List.mem_of_getElem? hnm))
        have e07 := (eX e45).trans (e6.trans e7)
        refine ⟨wipe1, ?_⟩
        refine (evt_and (b := decide (L bn.nm = L b.nm)) (c := !decide (bn.nm = b.nm)) (evt_test (ev_op (ev_has (ev_var rfl) (ev_var rfl) ((hLD.ex e07).has.at hbn)) (ev_var rfl) rv_eqI)) (fun _ => evt_test (ev_op (ev_var rfl) (tr e07).1 rv_neS))) _ ?_
        by_cases hh : (decide (L bn.nm = L b.nm) && !decide (bn.nm = b.nm)) = true
        · rw [if_pos hh]
          exact (ev_var (v := .str bn.nm) rfl) _ ⟨_, hms, szl (by simp; omega), e7.mut hD, hD, ms ++ [bn.nm], by rw [upd_same]; simp, by simp; omega⟩
        · rw [if_neg hh]
          exact ⟨e7, hD, ms, hms, by omega⟩
      · obtain ⟨e7, hD, ms, hms, hml⟩ := pr
        have hyl : ys.length ≤ 17 := by rw [hperm.length_eq, List.length_map]; exact hfew
        rw [List.length_map] at hml
        have e57 := e6.trans e7
        refine slC (x := .ref l) (lo := none) (hi := some ((1 : Nat) : Int)) (ev_var rfl) evo_no (evo_part ev_c) (sl_go (e57 _ _ q15) fun s H8 e8 _ h8 => ?_)
        rw [cutV_take (by rw [List.length_map]; omega), ← List.map_take] at h8
        refine cat_go (e8 _ _ hms) h8 (by simp; omega) fun rr H9 e9 _ h9 => k' _ H9 ⟨e57.trans (e8.trans e9), rr, ms ++ ns.take 1, rfl, by rw [h9, List.map_append], by simp; omega⟩
    rintro v H6 ⟨e6, sl, ss, rfl, hsl, hss⟩
    have e46 : ExB [pp] H3 H6 := e45.trans e6.b
    refine nst (σ' := [some (.ref bl), some (.ref d), some (.int c), some (.ref pp), some (.ref g), some y, some (.int (i : Nat)), some (.int (L b.nm)), some (.int n), some (.int r), some (.ref sl), o11, none, none]) rfl ?_
    have e44 : ExB [pp] H4 H6 := e5.b.trans e6.b
    have hpp6 := e6 _ _ (e5 _ _ h4)
    have keepR : ∀ {H'}, ExB [pp] H4 H' → ∀ b' ∈ bs.take i, H' (ra b'.nm) = some (rsnT (P b'.nm)) := fun {H'} e b' hb' => by
      have h := hra b' hb'
      exact e _ _ (by simpa using ne_of h h4 (fun z => by cases z)) h
    have nmi : ∀ b' ∈ bs.take i, b'.nm ≠ b.nm := fun b' hb' z => hnn (by rw [← z]; exact List.mem_map.mpr ⟨b', hb', rfl⟩)
    -- what stands at the end of a turn
    have fin : ∀ (H' : Hp) (q2 : Addr) (rs : Rsn) (o11 : Option V), ExB [pp] H4 H' → H' pp = some (.dK ((bs.take (i + 1)).map (entP (updS ra b.nm q2)))) → H' q2 = some (rsnT rs) →
        ∃ (p5 p6 p7 p8 p9 p10 p11 : Option V) (P : Str → Rsn) (ra : Str → Addr), [some (.ref bl), some (.ref d), some (.int c), some (.ref pp), some (.ref g), some y, some (.int (i : Nat)), some (.int (L b.nm)), some (.int n), some (.int r), some (.ref sl), o11, none, none] = [some (V.ref bl), some (V.ref d), some (V.int c), some (V.ref pp), some (V.ref g), p5, p6, p7, p8, p9, p10, p11, none, none] ∧ ExB [pp] H3 H' ∧ H' pp = some (.dK ((bs.take (i + 1)).map (entP ra))) ∧ ∀ b ∈ bs.take (i + 1), H' (ra b.nm) = some (rsnT (P b.nm)) := fun H' q2 rs o11 e hpd hq2 => by
      refine ⟨_, _, _, _, _, _, _, updS P b.nm rs, updS ra b.nm q2, rfl, e4.trans e, hpd, fun b' hb' => ?_⟩
      rw [hstep] at hb'
      rcases List.mem_append.mp hb' with hb' | hb'
      · rw [updS_ne (nmi b' hb'), updS_ne (nmi b' hb')]
        exact keepR e b' hb'
      · rw [List.mem_singleton.mp hb', updS_same, updS_same]
        exact hq2
    refine seqC (putC (tupC (consQ (x := .str "alike") ev_c (consC (pickH (i := n / 40) (ev_var rfl) hsl (by rw [List.length_map]; exact hss) (ev_op (by trivial) (ev_cb (ev_cons (ev_var rfl) ev_nil) (cv_lenL hsl)) (rv_mod (by rw [List.length_map]; omega))) fun v hv => consQ (x := .int r) (ev_var rfl) (nilC (tup_end fun q1 H7 e7 hq1n hq1 => put_end (k := .inr b.nm) (ev_var rfl) (tr ((eX e46).trans e7)).1 (e7 _ _ hpp6) (by simp; omega) ?_)))))))
    obtain ⟨wn, _, rfl⟩ := List.mem_map.mp hv
    have hq1p : q1 ≠ pp := (ne_of_none hpp6 hq1n).symm
    obtain ⟨H8, hH8⟩ : ∃ H8, H8 = upd H7 pp (.dK (putK ((bs.take i).map (entP ra)) (.inr b.nm) (.ref q1))) := ⟨_, rfl⟩
    rw [← hH8]
    have h8p : H8 pp = some (.dK ((bs.take (i + 1)).map (entP (updS ra b.nm q1)))) := by
      rw [hH8, upd_same, entP_G, put_out hnn, hstep, updS_ref]
      rfl
    have h8q : H8 q1 = some (rsnT ⟨"alike", wn, r⟩) := by rw [hH8, upd_ne hq1p]; exact hq1
    have e48 : ExB [pp] H4 H8 := by rw [hH8]; exact (e44.trans e7.b).put (by simp)
    have putE : ∀ {H' H'' : Hp} {q2 : Addr} {w nm : Str} {D : Ends} (o11 : Option V), ExB [pp] H4 H' → H' pp = some (.dK ((bs.take (i + 1)).map (entP (updS ra b.nm q1)))) → Ex H' H'' → H' q2 = none → H'' q2 = some (.tup [.str w, .str nm, .int r]) →
        (∀ H9, ExB [pp] H4 H9 → H9 pp = some (.dK ((bs.take (i + 1)).map (entP (updS ra b.nm q2)))) → H9 q2 = some (rsnT ⟨w, nm, r⟩) → D.nx [some (.ref bl), some (.ref d), some (.int c), some (.ref pp), some (.ref g), some y, some (.int (i : Nat)), some (.int (L b.nm)), some (.int n), some (.int r), some (.ref sl), o11, none, none] H9) →
        PutC (tVar 3) (tOp (rIxT K) (tVar 5) (tC (.int 1))) D [some (.ref bl), some (.ref d), some (.int c), some (.ref pp), some (.ref g), some y, some (.int (i : Nat)), some (.int (L b.nm)), some (.int n), some (.int r), some (.ref sl), o11, none, none] (.ref q2) H'' := fun {H' H'' q2 w nm D} o11 e hpd e2 hn2 h2 k => by
      have n2 : q2 ≠ pp := (ne_of_none hpd hn2).symm
      refine put_end (k := .inr b.nm) (ev_var rfl) (tr ((eX (e4.trans e)).trans e2)).1 (e2 _ _ hpd) (by simp; omega) (k _ ((e.trans e2.b).put (by simp)) ?_ (by rw [upd_ne n2]; exact h2))
      rw [upd_same, entP_G, put_in (List.mem_map.mpr ⟨b, by rw [hstep]; simp, rfl⟩), updS_ref]
      have : updS (updS ra b.nm q1) b.nm q2 = updS ra b.nm q2 := by
        funext n
        unfold updS
        split <;> rfl
      rw [this]
      rfl
    -- the parts that have as much
    have hw := hB.wf b hmem
    obtain ⟨ya, yo, yp, yw, yws, rfl, yg1, _, _, yg4, yg5⟩ := hby.out
    have e38 := e4.trans e48
    have eH8 := eX e38
    have hyw := yg5.1
    have hpf := hw.few
    refine nxC (seqC (asgC (lcT (xs := yws) (a := yp) (by have := eH8 _ _ yg1; trivial) (eH8 _ _ yg4) (fun D j H' => Ex H8 H' ∧ H8 D = none ∧ ∃ ms : List Str, H' D = some (.lst (ms.map V.str)) ∧ ms.length ≤ j) (fun D H' e h1 h2 => ⟨e, h1, [], h2, Nat.le_refl _⟩) (fun D j H' _ pr => (eH8.trans pr.1) _ _ yg4) (fun D j x H9 hx pr => ?_) fun D H9 pr => ?_)))
    · obtain ⟨e9, hD, ms, hms, hml⟩ := pr
      obtain ⟨u, hu, hxu⟩ := yg5.get hx
      have hj := (List.getElem?_eq_some_iff.mp hx).1
      have e09 := eH8.trans e9
      obtain ⟨ua, uo, up, uw, uws, rfl, hu1, _⟩ := (hxu.ex e09).out
      have hum := hB.cl b hmem u (List.mem_of_getElem? hu)
      refine ⟨wipe1, ?_⟩
      refine (evt_test (ev_op (ev_has (ev_var rfl) (ev_op (ev_var rfl) ev_c (rv_ixT hu1 rfl)) ((hLD.ex e09).has.at hum)) (ev_var rfl) rv_eqI) : EvT _ _ _ (decide (L u.nm = L b.nm))) _ ?_
      by_cases hh : decide (L u.nm = L b.nm) = true
      · rw [if_pos hh]
        exact (ev_op (ev_var rfl) ev_c (rv_ixT hu1 rfl) : Ev _ _ _ (.str u.nm)) _ ⟨_, hms, szl (by simp; omega), e9.mut hD, hD, ms ++ [u.nm], by rw [upd_same]; simp, by simp; omega⟩
      · rw [if_neg hh]
        exact ⟨e9, hD, ms, hms, by omega⟩
    obtain ⟨e9, hD, ms, hms, hml⟩ := pr
    have e49 : ExB [pp] H4 H9 := e48.trans e9.b
    have h9p := e9 _ _ h8p
    have h9q := e9 _ _ h8q
    have e39 := e4.trans e49
    refine gN (nst (σ' := [some (.ref bl), some (.ref d), some (.int c), some (.ref pp), some (.ref g), some (.ref ya), some (.int (i : Nat)), some (.int (L b.nm)), some (.int n), some (.int r), some (.ref sl), some (.ref D), none, none]) rfl ?_)
    have done : ∀ {H'}, Ex H9 H' → _ := fun {H'} e => fin H' q1 ⟨"alike", wn, r⟩ (some (.ref D)) (e49.trans e.b) (e _ _ h9p) (e _ _ h9q)
    refine nxC (e_if (b := decide (L b.nm = b.b.own)) (evt_test (ev_op (ev_var rfl) (tr (eX e39)).2.1 rv_eqI)) (fun _ => ?_) (fun _ => ?_))
    · exact putC (tup_go (xs := [.str "own", .str "", .int r]) (by trivial) fun q2 H10 e10 hq2n hq2 => putE _ e49 h9p e10 hq2n hq2 fun H11 a1 a2 a3 => fin H11 q2 _ _ a1 a2 a3)
    have askB : ∀ {H' : Hp} {Q : VK}, Ex H9 H' → (∀ H'', Ex H' H'' → Q (.int (asked b L)) H'') → tCallR (sp_law_asked K) E0 (tCons (tVar 5) (tCons (tVar 1) tNil)) [some (.ref bl), some (.ref d), some (.int c), some (.ref pp), some (.ref g), some (.ref ya), some (.int (i : Nat)), some (.int (L b.nm)), some (.int n), some (.int r), some (.ref sl), some (.ref D), none, none] H' Q := fun {H' Q} e k =>
      askedQ rfl rfl (hby.ex ((eX e39).trans e)) hw (hB.cl b hmem) (hLD.ex ((eX e39).trans e)).has k
    -- the last one
    have last : ∀ {H' : Hp} {Dd : Ends}, Ex H9 H' → (∀ H'', (∃ (p5 p6 p7 p8 p9 p10 p11 : Option V) (P : Str → Rsn) (ra : Str → Addr), [some (V.ref bl), some (V.ref d), some (V.int c), some (V.ref pp), some (V.ref g), some (V.ref ya), some (V.int (i : Nat)), some (V.int (L b.nm)), some (V.int n), some (V.int r), some (V.ref sl), some (V.ref D), none, none] = [some (V.ref bl), some (V.ref d), some (V.int c), some (V.ref pp), some (V.ref g), p5, p6, p7, p8, p9, p10, p11, none, none] ∧ ExB [pp] H3 H'' ∧ H'' pp = some (.dK ((bs.take (i + 1)).map (entP ra))) ∧ ∀ b ∈ bs.take (i + 1), H'' (ra b.nm) = some (rsnT (P b.nm))) → Dd.nx [some (V.ref bl), some (V.ref d), some (V.int c), some (V.ref pp), some (V.ref g), some (V.ref ya), some (V.int (i : Nat)), some (V.int (L b.nm)), some (V.int n), some (V.int r), some (V.ref sl), some (V.ref D), none, none] H'') →
        tIfS (tAnd (tTest (tOp rEq (tVar 7) (tCallR (sp_law_asked K) E0 (tCons (tVar 5) (tCons (tVar 1) tNil))))) (tTest (tOp (qNeNil K) (tVar 11) (tLst tNil)))) (sDPut (tVar 3) (tOp (rIxT K) (tVar 5) (tC (.int 1))) (tTup (tCons (tC (.str "part")) (tCons (tOp (rIxL K) (tVar 11) (tC (.int 0))) (tCons (tVar 9) tNil))))) tNext Dd
          [some (V.ref bl), some (V.ref d), some (V.int c), some (V.ref pp), some (V.ref g), some (V.ref ya), some (V.int (i : Nat)), some (V.int (L b.nm)), some (V.int n), some (V.int r), some (V.ref sl), some (V.ref D), none, none] H' := fun {H' Dd} e k => by
      refine ifC (anC (testC (opQ (x := .int (L b.nm)) (ev_var rfl) (askB e fun H10 e10 => rv_eqI _ (b_end (an_end (fun h1 => ?_) (fun h1 => ?_)))))))
      · have e910 := e.trans e10
        have hms10 := e910 _ _ hms
        refine testC (opQ (x := .ref D) (ev_var rfl) (lst_go (xs := []) ev_nil fun l0 H11 e11 _ hl0 => ⟨D, l0, _, rfl, rfl, SqL.of (e11 _ _ hms10), SqL.of hl0, b_end (if_end (fun h2 => ?_) (fun h2 => ?_))⟩))
        · have e911 := e910.trans e11
          obtain ⟨m0, hm0⟩ : ∃ m0 : Str, (ms.map V.str)[0]? = some (.str m0) := by
            cases ms with
            | nil => cases h2
            | cons a r => exact ⟨a, rfl⟩
          exact putC (tup_go (xs := [.str "part", .str m0, .int r]) (ev_cons ev_c (ev_cons (ev_op (ev_var rfl) ev_c (rv_ixL (e11 _ _ hms10) (atI_nat (j := 0) hm0))) (ev_cons (ev_var rfl) ev_nil))) fun q2 H12 e12 hq2n hq2 => putE _ (e49.trans e911.b) (e911 _ _ h9p) e12 hq2n hq2 fun H13 a1 a2 a3 => k H13 (fin H13 q2 _ _ a1 a2 a3))
        · exact k _ (done (e910.trans e11))
      · exact if_end (fun z => by cases z) (fun _ => k _ (done (e.trans e10)))
    refine ifC (anC (testC (opQ (x := .int (L b.nm)) (ev_var rfl) (askB (Ex.refl _) fun H10 e10 => rv_eqI _ (b_end (an_end (fun h1 => ?_) (fun h1 => ?_)))))))
    · refine testC (opQ (x := .str b.b.kd.s) (tr ((eX e39).trans e10)).2.2.2 (tup_go (xs := [.str "row", .str "table"]) (by trivial) fun tt H11 e11 _ htt => ⟨tt, _, rfl, .inr (SqT.of htt), rfl, rfl, b_end (if_end (fun h2 => ?_) (fun h2 => ?_))⟩))
      · have e911 := e10.trans e11
        exact putC (tup_go (xs := [.str "parts", .str "", .int r]) (by trivial) fun q2 H12 e12 hq2n hq2 => putE _ (e49.trans e911.b) (e911 _ _ h9p) e12 hq2n hq2 fun H13 a1 a2 a3 => fin H13 q2 _ _ a1 a2 a3)
      · exact last (e10.trans e11) fun _ h => h
    · exact if_end (fun z => by cases z) (fun _ => last e10 fun _ h => h)
  · obtain ⟨o5, o6, o7, o8, o9, o10, o11, P, ra, rfl, e4, h4, hra⟩ := pr
    rw [hl, List.take_length] at h4 hra
    have eX : Ex H H4 := ExB.fresh e3 e4 (fun x hx => by rw [List.mem_singleton.mp hx]; exact hp)
    exact nxC (e_ret (ev_var rfl) (q _ _ P eX ⟨bs, ra, List.Perm.refl _, h4, hra⟩))
end

section
variable {K : PySem.W.Frag}
def shP (k : Int) (P : Str → Rsn) : Str → Rsn := fun n => ⟨(P n).w, (P n).n, (P n).rk * 3 + k⟩
theorem lh_shift (bs : List Tr) (L : Str → Int) (P : Str → Rsn) (k : Int) : lhB bs L (shP k P) = lhB bs L P := by
  have e : ∀ a b : Int, decide (a * 3 + k < b * 3 + k) = decide (a < b) := fun a b => by
    by_cases h : a < b
    · rw [decide_eq_true h, decide_eq_true (by omega)]
    · rw [decide_eq_false h, decide_eq_false (by omega)]
  have r : ∀ b, reasonB bs L (shP k P) b = reasonB bs L P b := fun b => by
    unfold reasonB shP
    simp only [e]
  unfold lhB
  congr 1
  have : reasonB bs L (shP k P) = reasonB bs L P := funext r
  rw [this]
theorem lh_bent {bs : List Tr} {L : Str → Int} {P : Str → Rsn} {b : Tr} (hb : b ∈ bs) (h : reasonB bs L P b = false) : lhB bs L P = false := by
  unfold lhB
  rw [Bool.and_eq_false_iff]
  exact .inr (List.all_eq_false.mpr ⟨b, hb, by rw [h]; decide⟩)
theorem bent1 (bs : List Tr) (L : Str → Int) (P : Str → Rsn) (b : Tr) (rk : Int) : reasonB bs L (updS P b.nm ⟨"own", "x", rk⟩) b = false := by
  unfold reasonB
  rw [updS_same]
  simp only
  rw [if_pos trivial, decide_eq_false (by decide), Bool.false_and]
theorem bent2 (bs : List Tr) (L : Str → Int) (P : Str → Rsn) (b : Tr) (n : Str) (rk : Int) : reasonB bs L (updS P b.nm ⟨"why", n, rk⟩) b = false := by
  unfold reasonB
  rw [updS_same]
  simp only
  rw [if_neg (by decide), if_neg (by decide), if_neg (by decide), decide_eq_false (by decide)]
  simp
theorem bent3 (bs : List Tr) (L : Str → Int) (P : Str → Rsn) (b : Tr) (h : ∀ p ∈ b.ps, p.nm ≠ "") : reasonB bs L (updS P b.nm ⟨"part", "", 9⟩) b = false := by
  have hm : ¬ ("" : Str) ∈ b.ps.map Tr.nm := fun z => by
    obtain ⟨p, hp, e⟩ := List.mem_map.mp z
    exact h p hp e
  unfold reasonB
  rw [updS_same]
  simp only
  rw [if_neg (by decide), if_neg (by decide), if_pos trivial, decide_eq_false hm]
  simp
theorem PD.hasP {H : Hp} {d : Addr} {bs : List Tr} {P : Str → Rsn} (h : PD H d bs P) : HasP H d bs P := let ⟨cs, ra, h1, h2, h3⟩ := h; ⟨_, .inl h2, fun b hb => ⟨ra b.nm, by rw [entP_G]; exact val_in (List.mem_map.mpr ⟨b, h1.mem_iff.mpr hb, rfl⟩), h3 b hb⟩⟩
theorem dictP_go {H : Hp} {Q : VK} {d : Addr} {bs : List Tr} {P : Str → Rsn} (h : PD H d bs P) (k : ∀ p H', Ex H H' → H p = none → PD H' p bs P → Q (.ref p) H') : qDictD [.ref d] H Q := let ⟨cs, ra, h1, h2, h3⟩ := h; ⟨d, _, rfl, .inl h2, fun p hp => k p _ (Ex.new hp) hp ⟨cs, ra, h1, upd_same, fun b hb => (Ex.new hp) _ _ (h3 b hb)⟩⟩
/-- a reason put anew -/
theorem PD.put {H : Hp} {d q : Addr} {bs : List Tr} {P : Str → Rsn} {rs : Rsn} (h : PD H d bs P) (hn : (bs.map Tr.nm).Nodup) {b : Tr} (hb : b ∈ bs) (hq : H q = some (rsnT rs)) : ∃ kvs, H d = some (.dK kvs) ∧ kvs.length = bs.length ∧ PD (upd H d (.dK (putK kvs (.inr b.nm) (.ref q)))) d bs (updS P b.nm rs) := by
  obtain ⟨cs, ra, h1, h2, h3⟩ := h
  refine ⟨_, h2, by rw [List.length_map]; exact h1.length_eq, cs, updS ra b.nm q, h1, ?_, fun c hc => ?_⟩
  · rw [upd_same, entP_G, put_in (List.mem_map.mpr ⟨b, h1.mem_iff.mpr hb, rfl⟩), updS_ref] <;> rfl
  · by_cases e : c.nm = b.nm
    · rw [e, updS_same, updS_same, upd_ne (ne_of hq h2 (fun z => by cases z))]
      exact hq
    · rw [updS_ne e, updS_ne e, upd_ne (ne_of (h3 c hc) h2 (fun z => by cases z))]
      exact h3 c hc
theorem sortedP_go {H : Hp} {Q : VK} {d : Addr} {bs : List Tr} {P : Str → Rsn} (h : PD H d bs P) (hn : bs.length ≤ 17) (k : ∀ ys p H', Ex H H' → H p = none → H' p = some (.lst (ys.map V.str)) → ys.Perm (bs.map Tr.nm) → sortedS ys = true → Q (.ref p) H') : qSortedD [.ref d] H Q := by
  obtain ⟨cs, ra, h1, h2, h3⟩ := h
  refine ⟨d, _, cs.map Tr.nm, rfl, .inl h2, by rw [List.map_map, List.map_map]; rfl, by rw [List.length_map, h1.length_eq]; omega, fun ys p hp hs hpn => k ys p _ (Ex.new hpn) hpn upd_same (hp.trans (h1.map _)) hs⟩
/-- a for over a dict's names (the dict is locked) -/
theorem forK {td : TE} {g : TG} {tb : TS} {σ : L2.St} {H : Hp} {D : Ends} {d : Addr} {od : Obj} {kvs : List (Key × V)} (he : Ev td σ H (.ref d)) (hf : H d = some (.frz od (.dK kvs))) (Pv : Nat → L2.St → Hp → Prop) (h0 : Pv 0 σ H) (hG : ∀ i σ H, i ≤ kvs.length → Pv i σ H → H d = some (.frz od (.dK kvs)))
    (hs : ∀ (i : Nat) k v σ H, kvs[i]? = some (k, v) → Pv i σ H → g (kV k) σ H fun σ2 H2 => tb { D with nx := Pv (i + 1), ct := Pv (i + 1), bk := D.nx } σ2 H2) (hd : ∀ σ H, Pv kvs.length σ H → D.nx σ H) : tFor (iKeys td) g tb D σ H :=
  he _ ⟨d, od, rfl, .inl ⟨kvs, hf, for_it walk_keys Pv h0 hG (fun i x σ H1 H2 hi p hy => by
    obtain ⟨rfl, k, v, hk, rfl⟩ := hy
    exact hs i k v σ _ hk p) hd⟩⟩
theorem rd_law_papers : ∀ vs H Q E, sp_law_papers K vs H Q E → r_law_papers K { nx := fun _ H' => Q .non H', rt := Q } (start ["_law_tree_here", "_law_leasts", "_law_paper", "_law_cell", "_law_shifted", "_law_name", "_law_word", "_law_other_here", "_law_rank", "_law_reason", "_law_bent"] vs) H := by
  rintro vs H Q E ⟨v, d, pd, c, t, L, P, rfl, ht, hok, hLD, hPD, hlh, q⟩
  have hnd := hok.nodup
  have hfew := hok.few
  have hnamed := hok.named
  generalize hbs : t.boxes = bs at *
  have hpos : 0 < bs.length := by rw [← hbs, boxes_eq]; simp
  have leastsHold : ∀ {σ : L2.St} {H' : Hp} {Q' : VK} {k : Nat} {pd' : Addr} {P' : Str → Rsn}, Ex H H' → σ[0]? = some (some v) → σ[1]? = some (some (.ref d)) → σ[k]? = some (some (.ref pd')) → HasP H' pd' bs P' → (∀ H'', Ex H' H'' → Q' (.bl (lhB bs L P')) H'') → tCallR (sp_leasts_hold K) E0 (tCons (tVar 0) (tCons (tCB qDictD (tCons (tVar 1) tNil)) (tCons (tVar k) tNil))) σ H' Q' := fun {σ H' Q' k pd' P'} e g0 g1 gk hP k2 =>
    callC (consQ (x := v) (ev_var g0) (consC (cbQ (xs := [.ref d]) (ev_cons (ev_var g1) ev_nil) (dictD_go (hLD.ex e) fun d2 H2 e2 _ hL2 => consQ (x := .ref pd') (ev_var gk) (nilC ⟨v, d2, pd', t, L, P', rfl, ht.ex (e.trans e2), hok, by rw [hbs]; exact hL2.has, by rw [hbs]; exact hP.ex e2, fun H'' e3 => by rw [hbs]; exact k2 H'' (e2.trans e3)⟩)))))
  refine s_asgQ (newK_go fun sd H1 e1 hsd h1 => ?_)
  obtain ⟨cs, ra, hcs, hcd, hra⟩ := hPD
  have hcl : cs.length ≤ 17 := by rw [hcs.length_eq]; exact hfew
  refine seqC ⟨pd, .dK (cs.map (entP ra)), e1 _ _ hcd, trivial, fun od => ?_⟩
  obtain ⟨H2, hH2⟩ : ∃ H2, H2 = upd H1 pd (.frz od (.dK (cs.map (entP ra)))) := ⟨_, rfl⟩
  rw [← hH2]
  have h2p : H2 pd = some (.frz od (.dK (cs.map (entP ra)))) := by rw [hH2]; exact upd_same
  have hsp : sd ≠ pd := (ne_of_none hcd hsd).symm
  have h2s : H2 sd = some (.dK []) := by rw [hH2, upd_ne hsp]; exact h1
  have hra2 : ∀ b ∈ bs, H2 (ra b.nm) = some (rsnT (P b.nm)) := fun b hb => by
    have h := e1 _ _ (hra b hb)
    rw [hH2, upd_ne (ne_of h (e1 _ _ hcd) (fun z => by cases z))]
    exact h
  refine forK (ev_var rfl) h2p (fun i σ H' => ∃ (o5 o6 o7 o8 : Option V) (ra' : Str → Addr), σ = [some v, some (.ref d), some (.ref pd), some (.int c), some (.ref sd), o5, o6, o7, o8, none, none] ∧ ExB [sd] H2 H' ∧ H' sd = some (.dK ((cs.take i).map (entP ra'))) ∧ ∀ b ∈ cs.take i, H' (ra' b.nm) = some (rsnT (shP (c % 1000) P b.nm)))
    ⟨none, none, none, none, ra, rfl, ExB.refl _, h2s, fun b hb => by simp at hb⟩ (fun i σ H' _ pr => let ⟨_, _, _, _, _, _, e, _⟩ := pr; e _ _ (by simpa using hsp.symm) h2p) (fun i k kv σ H3 hk pr => ?_) fun σ H3 pr => ?_
  · obtain ⟨o5, o6, o7, o8, ra', rfl, e3, h3, hr⟩ := pr
    rw [List.getElem?_map] at hk
    obtain ⟨b, hbi, hce⟩ := Option.map_eq_some_iff.mp hk
    have hkk : k = .inr b.nm := (congrArg Prod.fst hce).symm
    subst hkk
    have hmem := List.mem_of_getElem? hbi
    have hi := (List.getElem?_eq_some_iff.mp hbi).1
    have hmb := hcs.mem_iff.mp hmem
    have hq := hra2 b hmb
    have hq3 : H3 (ra b.nm) = some (.tup [.str (P b.nm).w, .str (P b.nm).n, .int (P b.nm).rk]) := e3 _ _ (by simpa using ne_of hq h2s (fun z => by cases z)) hq
    have h3p := e3 _ _ (by simpa using hsp.symm) h2p
    have hstep : cs.take (i + 1) = cs.take i ++ [b] := by rw [List.take_add_one, hbi] <;> rfl
    have hcn : (cs.map Tr.nm).Nodup := (hcs.map _).nodup_iff.mpr hnd
    have hnn : b.nm ∉ (cs.take i).map Tr.nm := fun z => by
      obtain ⟨c, hc, e⟩ := List.mem_map.mp z
      obtain ⟨j, hj⟩ := List.mem_iff_getElem?.mp hc
      rw [List.getElem?_take] at hj
      split at hj
      · rename_i hji
        have := names_ne hcn hj hbi e
        omega
      · cases hj
    refine gN (seqC (asgQ (x := .ref (ra b.nm)) (ev_dgetS (ev_var rfl) (ev_var (v := .str b.nm) rfl) (.inr ⟨od, h3p⟩) (by rw [entP_G]; exact val_in (List.mem_map.mpr ⟨b, hmem, rfl⟩))) (gT hq3 rfl (g3 ?_))))
    refine nxC (putC (tup_go (xs := [.str (P b.nm).w, .str (P b.nm).n, .int ((P b.nm).rk * 3 + c % 1000)]) (ev_cons (ev_var rfl) (ev_cons (ev_var rfl) (ev_cons (ev_op (ev_op (ev_var rfl) ev_c (rv_mul (.inr ⟨by decide, by decide⟩))) (by trivial) rv_add) ev_nil))) fun q1 H4 e4 hq1n hq1 => put_end (k := .inr b.nm) (ev_var rfl) (ev_var (v := .str b.nm) rfl) (e4 _ _ h3) (by simp; omega) ⟨_, _, _, _, updS ra' b.nm q1, rfl, (e3.trans e4.b).put (by simp), ?_, fun b' hb' => ?_⟩))
    · rw [upd_same, entP_G, put_out hnn, hstep, updS_ref]
      rfl
    · have n1 : q1 ≠ sd := (ne_of_none h3 hq1n).symm
      rw [hstep] at hb'
      rcases List.mem_append.mp hb' with hb' | hb'
      · have hne : b'.nm ≠ b.nm := fun z => hnn (by rw [← z]; exact List.mem_map.mpr ⟨b', hb', rfl⟩)
        have h := hr b' hb'
        rw [updS_ne hne, upd_ne (ne_of h h3 (fun z => by cases z))]
        exact e4 _ _ h
      · rw [List.mem_singleton.mp hb', updS_same, upd_ne n1]
        exact hq1
  · obtain ⟨o5, o6, o7, o8, ra', rfl, e3, h3, hr⟩ := pr
    rw [List.length_map, List.take_length] at h3 hr
    have h3p := e3 _ _ (by simpa using hsp.symm) h2p
    refine ⟨h3p, ?_⟩
    obtain ⟨H4, hH4⟩ : ∃ H4, H4 = upd H3 pd (.dK (cs.map (entP ra))) := ⟨_, rfl⟩
    rw [← hH4]
    have e4 : Ex H H4 := fun a o ha => by
      by_cases z : a = pd
      · subst z
        rw [hcd] at ha
        cases ha
        rw [hH4]; exact upd_same
      · rw [hH4, upd_ne z]
        refine e3 _ _ (by simpa using ne_of_none ha hsd) ?_
        rw [hH2, upd_ne z]
        exact e1 _ _ ha
    have h4s : PD H4 sd bs (shP (c % 1000) P) := ⟨cs, ra', hcs, by rw [hH4, upd_ne hsp]; exact h3, fun b hb => by
      have h := hr b (hcs.mem_iff.mpr hb)
      rw [hH4, upd_ne (ne_of h h3p (fun z => by cases z))]
      exact h⟩
    have hPD4 : PD H4 pd bs P := ⟨cs, ra, hcs, e4 _ _ hcd, fun b hb => e4 _ _ (hra b hb)⟩
    refine seqC (ifC (testC (opK (leastsHold (σ := [some v, some (.ref d), some (.ref pd), some (.int c), some (.ref sd), o5, o6, o7, o8, none, none]) e4 rfl rfl rfl h4s.hasP fun H5 e5 => op_end (y := .bl true) ev_c rv_notB (b_end (if_end (fun h => ?_) (fun h => ?_)))))))
    · rw [lh_shift, hlh] at h
      cases h
    have e45 := e4.trans e5
    refine nxC (s_asgQ (opK (cbQ (xs := [.ref pd]) (by trivial) (sortedP_go (hPD4.ex e5) hfew fun ys ps H6 e6 _ h6 hperm _ => ?_))))
    have hyl : ys.length = cs.length := by rw [hperm.length_eq, List.length_map, hcs.length_eq]
    obtain ⟨nv, hnv, env⟩ := pick (xs := ys.map V.str) (n := c) (m := (cs.map (entP ra)).length) (by rw [List.length_map, List.length_map, hyl]) (by rw [List.length_map, hcs.length_eq]; exact hpos)
    have e46 := e45.trans e6
    refine op_end (y := .int (c % ((cs.map (entP ra)).length : Int))) (ev_op (ev_var rfl) (ev_cb (ev_cons (ev_var rfl) ev_nil) (cv_lenD (e46 _ _ hcd))) (rv_mod (by rw [List.length_map, hcs.length_eq]; omega))) (rv_ixL h6 env) ?_
    obtain ⟨nm, hnm, rfl⟩ := List.mem_map.mp hnv
    obtain ⟨b, hb, rfl⟩ := List.mem_map.mp (hperm.mem_iff.mp hnm)
    have hq6 : H6 (ra b.nm) = some (.tup [.str (P b.nm).w, .str (P b.nm).n, .int (P b.nm).rk]) := e46 _ _ (hra b hb)
    refine seqC (asgQ (x := .ref (ra b.nm)) (ev_dgetS (ev_var rfl) (ev_var rfl) (.inl (e46 _ _ hcd)) (by rw [entP_G]; exact val_in (List.mem_map.mpr ⟨b, hcs.mem_iff.mpr hb, rfl⟩))) (gT hq6 rfl (g3 ?_)))
    refine nxC (nst (σ' := [some v, some (.ref d), some (.ref pd), some (.int c), some (.ref sd), some (.str b.nm), some (.str (P b.nm).w), some (.str (P b.nm).n), some (.int (P b.nm).rk), none, none]) rfl ?_)
    refine seqC (forLC (lstC (consC (tup_go (xs := [.str "own", .str "x", .int (P b.nm).rk]) (by trivial) fun a1 H7 e7 _ h7 => consC (tup_go (xs := [.str "why", .str (P b.nm).n, .int (P b.nm).rk]) (by trivial) fun a2 H8 e8 _ h8 => consC (tup_go (xs := [.str "part", .str "", .int 9]) (by trivial) fun a3 H9 e9 _ h9 => nilC (lst_end (xs := [.ref a1, .ref a2, .ref a3]) fun l H10 e10 _ h10 => ?_)))))))
    have e610 := e7.trans (e8.trans (e9.trans e10))
    have hall : ∀ x ∈ ([.ref a1, .ref a2, .ref a3] : List V), ∃ (qa : Addr) (rs : Rsn), x = .ref qa ∧ H10 qa = some (rsnT rs) ∧ reasonB bs L (updS P b.nm rs) b = false := fun x hx => by
      simp only [List.mem_cons, List.not_mem_nil, or_false] at hx
      rcases hx with rfl | rfl | rfl
      · exact ⟨a1, ⟨"own", "x", (P b.nm).rk⟩, rfl, (e8.trans (e9.trans e10)) _ _ h7, bent1 ..⟩
      · exact ⟨a2, ⟨"why", (P b.nm).n, (P b.nm).rk⟩, rfl, (e9.trans e10) _ _ h8, bent2 ..⟩
      · exact ⟨a3, ⟨"part", "", 9⟩, rfl, e10 _ _ h9, bent3 _ _ _ _ fun p hp => (hnamed p (by rw [← hbs] at hb ⊢; exact parts_in hb hp)).1⟩
    have e010 := e46.trans e610
    refine for_end h10 (fun i σ H' => ∃ (o9 o10 : Option V), σ = [some v, some (.ref d), some (.ref pd), some (.int c), some (.ref sd), some (.str b.nm), some (.str (P b.nm).w), some (.str (P b.nm).n), some (.int (P b.nm).rk), o9, o10] ∧ Ex H10 H') ⟨none, none, rfl, Ex.refl _⟩ (fun i σ H' _ pr => let ⟨_, _, _, e⟩ := pr; e _ _ h10) (fun i x σ H11 hx pr => ?_) fun σ H11 pr => ?_
    · obtain ⟨o9, o10, rfl, e11⟩ := pr
      obtain ⟨qa, rs, rfl, hqa, hfalse⟩ := hall x (List.mem_of_getElem? hx)
      have e011 := e010.trans e11
      have hPD11 : PD H11 pd bs P := ⟨cs, ra, hcs, e011 _ _ hcd, fun b hb => e011 _ _ (hra b hb)⟩
      refine gN (s_asgQ (cbQ (xs := [.ref pd]) (by trivial) (dictP_go hPD11 fun bd H12 e12 hbd hPD12 => ?_)))
      obtain ⟨kvs, hk1, hk2, hk3⟩ := hPD12.put hnd hb ((e11.trans e12) _ _ hqa)
      refine nst (σ' := [some v, some (.ref d), some (.ref pd), some (.int c), some (.ref sd), some (.str b.nm), some (.str (P b.nm).w), some (.str (P b.nm).n), some (.int (P b.nm).rk), some (.ref qa), some (.ref bd)]) rfl ?_
      refine s_put (k := .inr b.nm) (v := .ref qa) (ev_var rfl) (ev_var rfl) (ev_var (v := .str b.nm) rfl) hk1 (by omega) ?_
      have e1112 : Ex H11 (upd H12 bd (.dK (putK kvs (.inr b.nm) (.ref qa)))) := e12.mut hbd
      generalize upd H12 bd (.dK (putK kvs (.inr b.nm) (.ref qa))) = H13 at hk3 e1112
      refine ifC (testC (opK (leastsHold (e011.trans e1112) rfl rfl rfl hk3.hasP fun H14 e14 => op_end (y := .bl false) ev_c rv_notB (b_end (if_end (fun h => ?_) (fun h => ⟨_, _, rfl, e11.trans (e1112.trans e14)⟩))))))
      rw [lh_bent hb hfalse] at h
      cases h
    · obtain ⟨o9, o10, rfl, e11⟩ := pr
      exact nxC (e_ret ev_c (q _ (e010.trans e11)))
end

section
/-! ### the rounds' leasts and reasons, as functions -/
noncomputable def nextL (fr : List Tr) (L : Str → Int) (x : Str) : Int := match fr.find? (fun b => decide (b.nm = x)) with
  | some b => (newOf L fr b).1
  | none => L x
noncomputable def lsAt (fr : List Tr) (L0 : Str → Int) : Nat → Str → Int
  | 0 => L0
  | k + 1 => nextL fr (lsAt fr L0 k)
noncomputable def risB (fr : List Tr) (L : Str → Int) (b : Tr) : Bool := decide (L b.nm < (newOf L fr b).1)
noncomputable def risen (fr : List Tr) (L : Str → Int) : List Tr := fr.filter (risB fr L)
noncomputable def rsnOf (fr : List Tr) (L : Str → Int) (k : Nat) (b : Tr) : Rsn := reasonAt b L (newOf L fr b).1 (newOf L fr b).2 ((k : Int) + 1)
noncomputable def nextR (fr : List Tr) (L : Str → Int) (k : Nat) (R : Str → Rsn) (x : Str) : Rsn := match fr.find? (fun b => decide (b.nm = x)) with
  | some b => if L x < (newOf L fr b).1 then rsnOf fr L k b else R x
  | none => R x
variable {fr bs : List Tr} {L L' : Str → Int} {R : Str → Rsn} {b : Tr} {k n : Nat} {x : Str} {t : Tr}
theorem find_nm (hn : (fr.map Tr.nm).Nodup) (hb : b ∈ fr) : fr.find? (fun c => decide (c.nm = b.nm)) = some b := by
  cases e : fr.find? (fun c => decide (c.nm = b.nm)) with
  | none =>
    have := List.find?_eq_none.mp e b hb
    simp at this
  | some c => rw [nm_eq hn (List.mem_of_find?_eq_some e) hb (by simpa using List.find?_some e)]
theorem find_no (h : x ∉ fr.map Tr.nm) : fr.find? (fun c => decide (c.nm = x)) = none :=
  List.find?_eq_none.mpr fun c hc => by
    have : ¬ c.nm = x := fun z => h (List.mem_map.mpr ⟨c, hc, z⟩)
    simpa using this
theorem nextL_in (hn : (fr.map Tr.nm).Nodup) (hb : b ∈ fr) : nextL fr L b.nm = (newOf L fr b).1 := by unfold nextL; rw [find_nm hn hb]
theorem nextL_out (h : x ∉ fr.map Tr.nm) : nextL fr L x = L x := by unfold nextL; rw [find_no h]
theorem nextR_in (hn : (fr.map Tr.nm).Nodup) (hb : b ∈ fr) : nextR fr L k R b.nm = if L b.nm < (newOf L fr b).1 then rsnOf fr L k b else R b.nm := by unfold nextR; rw [find_nm hn hb]
theorem nextR_out (h : x ∉ fr.map Tr.nm) : nextR fr L k R x = R x := by unfold nextR; rw [find_no h]
theorem risen_sub : ∀ b ∈ risen fr L, b ∈ fr := fun b hb => (List.mem_filter.mp hb).1
theorem risen_iff : b ∈ risen fr L ↔ b ∈ fr ∧ L b.nm < (newOf L fr b).1 := by
  unfold risen risB
  rw [List.mem_filter, decide_eq_true_eq]
theorem RInv.out (I : RInv bs fr n L R) (hb : b ∈ bs) (h : b ∉ fr) : b.nm ∉ fr.map Tr.nm := fun z => by
  obtain ⟨c, hc, e⟩ := List.mem_map.mp z
  exact h (by rw [← I.uniq c (I.sub c hc) b hb e]; exact hc)
theorem RInv.next (I : RInv bs fr n L R) (hf : (fr.map Tr.nm).Nodup) : RInv bs fr (n + 1) (nextL fr L) (nextR fr L n R) :=
  I.step (fun b hb => nextL_in hf hb) (fun b hb h => nextL_out (I.out hb h)) (fun b hb h => by rw [nextR_in hf hb, if_pos h]; rfl) (fun b hb h => by rw [nextR_in hf hb, if_neg h]) (fun b hb h => nextR_out (I.out hb h))
/-- where nothing rises all stays -/
theorem stayL (I : RInv bs fr n L R) (hf : (fr.map Tr.nm).Nodup) (h : risen fr L = []) : nextL fr L = L := by
  funext x
  by_cases hx : x ∈ fr.map Tr.nm
  · obtain ⟨b, hb, rfl⟩ := List.mem_map.mp hx
    rw [nextL_in hf hb]
    have h1 := I.rise b hb
    have h2 : ¬ L b.nm < (newOf L fr b).1 := fun z => by
      have := risen_iff.mpr ⟨hb, z⟩
      rw [h] at this
      cases this
    omega
  · exact nextL_out hx
theorem stayR (hf : (fr.map Tr.nm).Nodup) (h : risen fr L = []) : nextR fr L k R = R := by
  funext x
  by_cases hx : x ∈ fr.map Tr.nm
  · obtain ⟨b, hb, rfl⟩ := List.mem_map.mp hx
    rw [nextR_in hf hb]
    refine if_neg fun z => ?_
    have := risen_iff.mpr ⟨hb, z⟩
    rw [h] at this
    cases this
  · exact nextR_out hx
theorem free_kd : ∀ b ∈ freeT t, b.b.kd ≠ .table := by
  induction t using Tr.ind with
  | h t ih =>
    cases t with
    | mk b ps =>
      have key : ∀ l : List Tr, (∀ q ∈ l, ∀ b ∈ freeT q, b.b.kd ≠ .table) → ∀ b ∈ freeT.freeTL l, b.b.kd ≠ .table := fun l => by
        induction l with
        | nil => intro _ b hb; cases hb
        | cons a r ih2 =>
          intro h b hb
          rw [freeT.freeTL] at hb
          rcases List.mem_append.mp hb with hb | hb
          · exact h a List.mem_cons_self b hb
          · exact ih2 (fun q hq => h q (List.mem_cons_of_mem _ hq)) b hb
      rw [freeT]
      split
      · intro b hb; cases hb
      · rename_i hk
        intro c hc
        rcases List.mem_cons.mp hc with e | hc
        · rw [e]; exact hk
        · exact key ps ih c hc
theorem fixT_cl {p : Tr} (hb : b ∈ fixT t) (hp : p ∈ b.ps) : p ∈ fixT t := by
  have h := fixL_cl (l := [t]) b (by rw [fixT.fixTL]; exact List.mem_append_left _ hb) p hp
  rw [fixT.fixTL] at h
  rcases List.mem_append.mp h with h | h
  · exact h
  · cases h
theorem deep_box : ∀ x ∈ t.boxes, x.deep ≤ t.deep := by
  induction t using Tr.ind with
  | h t ih =>
    intro x hx
    rw [boxes_eq] at hx
    rcases List.mem_cons.mp hx with e | hx
    · rw [e]; exact Nat.le_refl _
    · obtain ⟨p, hp, h⟩ := mem_boxesL.mp hx
      have h1 := ih p hp x h
      have h2 := deep_part hp
      omega
theorem part_ex (hs : sumsB b = false) (h : 0 < asked b L) : ∃ p ∈ b.ps, L p.nm = asked b L := by
  have hkd := asked_not_sums hs
  have q : ∀ l : List Tr, 0 < maxL (lsOf l L) → ∃ p ∈ l, L p.nm = maxL (lsOf l L) := fun l hl => by
    cases l with
    | nil => exact absurd hl (show ¬ (0 : Int) < 0 from by decide)
    | cons a r =>
      have hmm := maxL_mem (l := lsOf (a :: r) L) (by simp [lsOf])
      obtain ⟨p, hp, e⟩ := List.mem_map.mp hmm
      exact ⟨p, hp, e⟩
  unfold asked at h ⊢
  cases e : b.b.kd with
  | leaf => rw [e] at h; exact absurd h (show ¬ (0 : Int) < 0 from by decide)
  | row => exact absurd e hkd.2
  | col => rw [e] at h; exact q _ h
  | wrap => rw [e] at h; exact q _ h
  | table => exact absurd e hkd.1
theorem set_reason (h0 : 0 ≤ b.b.own) (h : SetB L R b) : reasonB bs L R b = true := by
  cases h with
  | own e1 e2 e3 =>
    unfold reasonB
    rw [e3]
    simp only [if_true, decide_true, Bool.true_and]
    refine decide_eq_true ?_
    rw [pmax_eq]; omega
  | put rk a1 a2 a3 a4 a5 a6 =>
    by_cases hs : sumsB b = true
    · have ea : askerF b L = (("parts" : Str), ("" : Str)) := by unfold askerF; rw [if_pos hs]
      rw [ea] at a6
      unfold reasonB
      rw [a6]
      simp only
      rw [if_neg (by decide), if_pos trivial]
      exact Bool.and_eq_true_iff.mpr ⟨Bool.and_eq_true_iff.mpr ⟨Bool.and_eq_true_iff.mpr ⟨decide_eq_true trivial, List.all_eq_true.mpr fun p hp => decide_eq_true (by have := a5 p hp; omega)⟩, hs⟩, decide_eq_true a1⟩
    · have hs : sumsB b = false := by simpa using hs
      obtain ⟨q, hq, hqe⟩ := part_ex (L := L) hs (by omega)
      cases ef : b.ps.find? fun p => decide (L p.nm = asked b L) with
      | none =>
        have := List.find?_eq_none.mp ef q hq
        simp at this
        exact absurd hqe this
      | some p =>
        have hp := List.mem_of_find?_eq_some ef
        have hpe : L p.nm = asked b L := by simpa using List.find?_some ef
        have ea : askerF b L = (("part" : Str), p.nm) := by
          unfold askerF
          rw [if_neg (by rw [hs]; decide), ef]
        rw [ea] at a6
        unfold reasonB
        rw [a6]
        simp only
        rw [if_neg (by decide), if_neg (by decide), if_pos trivial, hs]
        exact Bool.and_eq_true_iff.mpr ⟨Bool.and_eq_true_iff.mpr ⟨Bool.and_eq_true_iff.mpr ⟨Bool.and_eq_true_iff.mpr ⟨rfl, decide_eq_true (List.mem_map.mpr ⟨p, hp, rfl⟩)⟩, decide_eq_true a1⟩, decide_eq_true (by have := a5 p hp; omega)⟩, decide_eq_true (by omega)⟩
theorem ff_nodup (hn : (t.boxes.map Tr.nm).Nodup) : ((freeT t).map Tr.nm).Nodup ∧ ((fixT t).map Tr.nm).Nodup ∧ ∀ b ∈ freeT t, ∀ c ∈ fixT t, b.nm ≠ c.nm := by
  have h := ((free_fix t).map Tr.nm).nodup_iff.mpr hn
  rw [List.map_append, List.nodup_append] at h
  exact ⟨h.1, h.2.1, fun b hb c hc => h.2.2 _ (List.mem_map.mpr ⟨b, hb, rfl⟩) _ (List.mem_map.mpr ⟨c, hc, rfl⟩)⟩
theorem mem_ff : b ∈ t.boxes ↔ b ∈ freeT t ∨ b ∈ fixT t := by rw [← (free_fix t).mem_iff, List.mem_append]
theorem rinv0 (hok : TreeOk t) (hown : ∀ y ∈ t.boxes, 0 ≤ y.b.own) (hg : ∀ y ∈ fixT t, y.b.grp = 0) (hS : ∀ b ∈ fixT t, SetB L R b) (hL : ∀ b ∈ freeT t, L b.nm = 0) (hR : ∀ b ∈ freeT t, R b.nm = ⟨"own", "", 0⟩) :
    RInv t.boxes (freeT t) 0 L R := by
  obtain ⟨n1, n2, n3⟩ := ff_nodup hok.nodup
  have ho : ∀ b ∈ freeT t, 0 ≤ b.b.own := fun b hb => hown b (mem_ff.mpr (.inl hb))
  have fx : ∀ b ∈ t.boxes, b ∉ freeT t → b ∈ fixT t := fun b hb h => (mem_ff.mp hb).resolve_left h
  refine ⟨fun b hb => mem_ff.mpr (.inl hb), fun b hb p hp => parts_in hb hp, free_kd, fun b hb => (hok.wf b hb).leaf, hown, fun b hb c hc e => nm_eq hok.nodup hb hc e, fun b hb h => hg b (fx b hb h), fun b hb h => ?_,
    fun b hb h => set_reason (hown b hb) (hS b (fx b hb h)), fun b hb h p hp z => n3 p z p (fixT_cl (fx b hb h) hp) rfl, fun b hb => ?_, fun b hb c hc _ _ => by rw [hL b hb, hL c hc], fun b hb => ?_, fun b hb => .own 0 (hR b hb) (by rw [hL b hb]; exact ho b hb)⟩
  · cases hS b (fx b hb h) with
    | own e1 e2 e3 => exact e1
    | put rk a1 a2 a3 a4 a5 a6 => rw [ask_eq]; omega
  · rcases mem_ff.mp hb with h | h
    · rw [hR b h]; decide
    · have h1 := (hS b h).rank
      have h2 := deep_box b hb
      have h3 := hok.deep
      omega
  · have h1 := new_ge ho hb (L := L)
    rw [ask_eq] at h1
    have := ho b hb
    rw [hL b hb]
    omega
end

section
variable {K : PySem.W.Frag}
/-- what is told of the rounds gone: L0 the leasts ahead of the first -/
structure Past (H : Hp) (ps : List V) (fr : List Tr) (L0 : Str → Int) (n : Nat) (d2 : Addr) : Prop where
  len : ps.length = n
  at_ : ∀ k, k < n → ∃ (pk : Addr) (ra : Str → Addr), ps[k]? = some (.ref pk) ∧ pk ≠ d2 ∧ H pk = some (.dK ((risen fr (lsAt fr L0 k)).map (entP ra))) ∧ ∀ b ∈ risen fr (lsAt fr L0 k), H (ra b.nm) = some (rsnT (rsnOf fr (lsAt fr L0 k) k b))
/-- the object of the rounds, behind n of them -/
structure RSt (K : PySem.W.Frag) (H0 H : Hp) (r : Addr) (t : Tr) (n : Nat) (L0 : Str → Int) (R : Str → Rsn) : Prop where
  ex : Ex H0 H
  at_ : ∃ (dx d1 d2 fl pl : Addr) (xs ps : List V), H r = some (.ins 1222 dx [("leasts", .ref d1), ("reasons", .ref d2), ("free", .ref fl), ("past", .ref pl)]) ∧ H0 r = none ∧ H0 d2 = none ∧ H0 pl = none ∧ d1 ≠ d2 ∧ fl ≠ pl ∧
    H fl = some (.lst xs) ∧ AllAt (BoxAt K H0) xs (freeT t) ∧ LD H d1 t.boxes (lsAt (freeT t) L0 n) ∧ PD H d2 t.boxes R ∧ H pl = some (.lst ps) ∧ Past H ps (freeT t) L0 n d2
  top : RInv t.boxes (freeT t) n (lsAt (freeT t) L0 n) R
  hist : ∀ k, k < n → ∃ R', RInv t.boxes (freeT t) k (lsAt (freeT t) L0 k) R'
/-- a tree that is measured -/
structure TOk (t : Tr) : Prop where
  ok : TreeOk t
  own : ∀ y ∈ t.boxes, 0 ≤ y.b.own
  grp : ∀ y ∈ fixT t, y.b.grp = 0
def sp_Rounds_init (K : PySem.W.Frag) : Sp := fun vs H Q _ => ∃ (H0 : Hp) (r dx : Addr) (x : V) (t : Tr), vs = [.ref r, x] ∧ Ex H0 H ∧ H0 r = none ∧ H r = some (.ins 1222 dx []) ∧ BoxAt K H0 x t ∧ TOk t ∧
  ∀ H' L0 R, RSt K H0 H' r t 0 L0 R → Q .non H'
def sp_go (K : PySem.W.Frag) : Sp := fun vs H Q E => ∃ (H0 : Hp) (r : Addr) (t : Tr) (n : Nat) (L0 : Str → Int) (R : Str → Rsn), vs = [.ref r] ∧ RSt K H0 H r t n L0 R ∧ TOk t ∧ n ≤ 1000 ∧
  (∀ H' d, Ex H0 H' → E (.ref 217) d H') ∧
  ∀ H' p (ra : Str → Addr), RSt K H0 H' r t (n + 1) L0 (nextR (freeT t) (lsAt (freeT t) L0 n) n R) → H' p = some (.dK ((risen (freeT t) (lsAt (freeT t) L0 n)).map (entP ra))) → Q (.ref p) H'
def sp_ring_of (K : PySem.W.Frag) : Sp := fun vs H Q _ => ∃ (H0 : Hp) (r : Addr) (t : Tr) (n : Nat) (L0 : Str → Int) (R : Str → Rsn), vs = [.ref r] ∧ RSt K H0 H r t (n + 1) L0 R ∧ TOk t ∧ t.boxes.length ≤ n ∧ n ≤ 1000 ∧ risen (freeT t) (lsAt (freeT t) L0 n) ≠ [] ∧
  ∀ H' p, Ex H H' → Q (.ref p) H'
def sp_leasts_of (K : PySem.W.Frag) : Sp := fun vs H Q E => ∃ (v : V) (t : Tr), vs = [v] ∧ TrAt H v t ∧ TOk t ∧
  (∀ H' d, Ex H H' → E (.ref 217) d H') ∧ (∀ H' d, Ex H H' → E (.ref 236) d H') ∧ ∀ H' q L P, Ex H H' → Found H' q t.boxes L P → lhB t.boxes L P = true → Q (.ref q) H'
/-- a field of a new object -/
theorem rfld {H : Hp} {r dx : Addr} {fs : List (Str × V)} {f : Str} {v : V} (F : KF K) (hi : H r = some (.ins 1222 dx fs)) (hl : fs.lookup f = some v) (hf : f ∈ (["leasts", "reasons", "free", "past"] : List Str)) : FldAt K H r f v := ⟨_, dx, fs, hi, F.rcls, F.rna f hf, hl⟩
theorem ExB.in1 {H0 H H' : Hp} {ds : List Addr} (e0 : Ex H0 H) (e : ExB ds H H') (h : ∀ d ∈ ds, H0 d = none) : Ex H0 H' := ExB.fresh e0 e h
end
section
variable {K : PySem.W.Frag} {σ : L2.St} {H : Hp} {ta tv : TE} {f : Str} {D : Ends} {a C dx : Addr} {y : V} {fs fs' : List (Str × V)}
/-- a field's store, its value by an expression -/
def FldK (K : PySem.W.Frag) (ta : TE) (f : Str) (D : Ends) (σ : L2.St) (y : V) (H1 : Hp) : Prop := ta σ H1 fun x H2 => ∃ a C dx fs, x = .ref a ∧ H2 a = some (.ins C dx fs) ∧ Cls K C ∧ NoAttr K C f ∧ fs.length < 1000 ∧ D.nx σ (upd H2 a (.ins C dx (putF f y fs)))
theorem fldC (h : tv σ H (FldK K ta f D σ)) : sFld K ta tv f D σ H := h
theorem fld_end (ha : Ev ta σ H (.ref a)) (hi : H a = some (.ins C dx fs)) (hc : Cls K C) (hn : NoAttr K C f) (hl : fs.length < 1000) (he : putF f y fs = fs')
    (k : ∀ H', (∀ b, b ≠ a → H' b = H b) → H' a = some (.ins C dx fs') → D.nx σ H') : FldK K ta f D σ y H :=
  ha _ ⟨a, C, dx, fs, rfl, hi, hc, hn, hl, by rw [he]; exact k _ (fun b hb => upd_ne hb) upd_same⟩
/-- all but one stands -/
theorem but_ex {H0 H H' : Hp} {a : Addr} (e : Ex H0 H) (h : H0 a = none) (k : ∀ b, b ≠ a → H' b = H b) : Ex H0 H' := fun b o hb => by
  rw [k b (ne_of_none hb h)]
  exact e b o hb
theorem put_more {g : Str → V} {cs : List Tr} {t : Tr} {v : V} (h : t.nm ∉ cs.map Tr.nm) (hv : v = g t.nm) : putK (cs.map (entG g)) (.inr t.nm) v = (cs ++ [t]).map (entG g) := by
  rw [put_out h]
  congr 1
  have : updS g t.nm v = g := by
    funext n
    unfold updS
    split
    · rename_i e; rw [e, hv]
    · rfl
  rw [this]
theorem rd_Rounds_init (F : KF K) : ∀ vs H Q E, sp_Rounds_init K vs H Q E → r_Rounds_init K { nx := fun _ H' => Q .non H', rt := Q } (start ["self", "box", "one"] vs) H := by
  rintro vs H Q E ⟨H0, r, dx, x, t, rfl, e0, hr0, hr, hb0, hT, q⟩
  have hok := hT.ok
  obtain ⟨n1, n2, n3⟩ := ff_nodup hok.nodup
  refine seqC (fldC (newK_go fun d1 H1 e1 hd1 h1 => fld_end (fs' := [("leasts", .ref d1)]) (ev_var rfl) (e1 _ _ hr) F.rcls (F.rna _ (by decide)) (Nat.le_of_ble_eq_true rfl) rfl fun H2 k2 i2 => ?_))
  have rd1 : d1 ≠ r := (ne_of_none hr hd1).symm
  have hz1 : H0 d1 = none := e0.free hd1
  have X2 : Ex H0 H2 := but_ex (e0.trans e1) hr0 k2
  have h21 : H2 d1 = some (.dK []) := by rw [k2 _ rd1]; exact h1
  refine nxC (seqC (fldC (newK_go fun d2 H3 e3 hd2 h3 => fld_end (fs' := [("leasts", .ref d1), ("reasons", .ref d2)]) (ev_var rfl) (e3 _ _ i2) F.rcls (F.rna _ (by decide)) (Nat.le_of_ble_eq_true rfl) rfl fun H4 k4 i4 => ?_)))
  have rd2 : d2 ≠ r := (ne_of_none i2 hd2).symm
  have d12 : d1 ≠ d2 := ne_of_none h21 hd2
  have hz2 : H0 d2 = none := X2.free hd2
  have X4 : Ex H0 H4 := but_ex (X2.trans e3) hr0 k4
  have h41 : H4 d1 = some (.dK []) := by rw [k4 _ rd1]; exact e3 _ _ h21
  have h42 : H4 d2 = some (.dK []) := by rw [k4 _ rd2]; exact h3
  refine nxC (seqC (fldC (callQ (xs := [x, .ref d1, .ref d2]) (ev_cons (ev_var rfl) (ev_cons (ev_fld (ev_var rfl) (rfld F i4 rfl (by decide))) (ev_cons (ev_fld (ev_var rfl) (rfld F i4 rfl (by decide))) ev_nil)))
    ⟨H0, x, d1, d2, t, [], fun _ => 0, fun _ => ⟨"", "", 0⟩, fun _ => 0, rfl, X4.d, hb0, by have := hok.deep; omega, hok.wf, hT.own, ⟨d12, ⟨[], List.Perm.refl _, h41, h42⟩, fun b hb => by cases hb⟩, by simpa using hok.nodup, by simpa using hok.few, fun H5 L' R' ra' p xs S hp hp1 hp2 h5 hxs => ?_⟩)))
  obtain ⟨cs, hcs, c1, c2⟩ := S.cs
  rw [List.nil_append] at hcs
  have r12 : r ∉ [d1, d2] := by
    simp only [List.mem_cons, List.not_mem_nil, or_false, not_or]
    exact ⟨rd1.symm, rd2.symm⟩
  have X5 : Ex H0 H5 := ExB.in1 X4 S.ex fun d hd => by
    simp only [List.mem_cons, List.not_mem_nil, or_false] at hd
    rcases hd with rfl | rfl
    · exact hz1
    · exact hz2
  have i5 : H5 r = some (.ins 1222 dx [("leasts", .ref d1), ("reasons", .ref d2)]) := S.ex _ _ r12 i4
  refine fld_end (fs' := [("leasts", .ref d1), ("reasons", .ref d2), ("free", .ref p)]) (ev_var rfl) i5 F.rcls (F.rna _ (by decide)) (Nat.le_of_ble_eq_true rfl) rfl fun H6 k6 i6 => ?_
  have pr : p ≠ r := ne_of h5 i5 (fun z => by cases z)
  have X6 : Ex H0 H6 := but_ex X5 hr0 k6
  have h6p : H6 p = some (.lst xs) := by rw [k6 _ pr]; exact h5
  have h61 : H6 d1 = some (.dK (cs.map (entL L'))) := by rw [k6 _ rd1]; exact c1
  have h62 : H6 d2 = some (.dK (cs.map (entP ra'))) := by rw [k6 _ rd2]; exact c2
  have h6r : ∀ b ∈ fixT t, H6 (ra' b.nm) = some (rsnT (R' b.nm)) := fun b hb => by
    rw [k6 _ (ne_of (S.rs b hb) i5 (fun z => by cases z))]
    exact S.rs b hb
  obtain ⟨L0, hL0⟩ : ∃ L0 : Str → Int, L0 = fun x => if x ∈ (freeT t).map Tr.nm then 0 else L' x := ⟨_, rfl⟩
  obtain ⟨R0, hR0⟩ : ∃ R0 : Str → Rsn, R0 = fun x => if x ∈ (freeT t).map Tr.nm then ⟨"own", "", 0⟩ else R' x := ⟨_, rfl⟩
  have inF : ∀ b ∈ freeT t, L0 b.nm = 0 ∧ R0 b.nm = ⟨"own", "", 0⟩ := fun b hb => by
    have : b.nm ∈ (freeT t).map Tr.nm := List.mem_map.mpr ⟨b, hb, rfl⟩
    rw [hL0, hR0]
    exact ⟨if_pos this, if_pos this⟩
  have inX : ∀ b ∈ fixT t, L0 b.nm = L' b.nm ∧ R0 b.nm = R' b.nm := fun b hb => by
    have : b.nm ∉ (freeT t).map Tr.nm := fun z => by
      obtain ⟨c, hc, e⟩ := List.mem_map.mp z
      exact n3 c hc b hb e
    rw [hL0, hR0]
    exact ⟨if_neg this, if_neg this⟩
  have hcsL : cs.map (entL L') = cs.map (entL L0) := List.map_congr_left fun b hb => by
    unfold entL
    rw [(inX b (hcs.mem_iff.mp hb)).1]
  have hxl := hxs.1
  have hfew := hok.few
  have hll := (free_fix t).length_eq
  rw [List.length_append] at hll
  have hcl := hcs.length_eq
  refine nxC (seqC (forL (xs := xs) (ev_fld (ev_var rfl) (rfld F i6 rfl (by decide))) h6p (fun i σ H' => ∃ (o : Option V) (ra : Str → Addr), σ = [some (.ref r), some x, o] ∧ ExB [d1, d2] H6 H' ∧ H' d1 = some (.dK ((cs ++ (freeT t).take i).map (entL L0))) ∧ H' d2 = some (.dK ((cs ++ (freeT t).take i).map (entP ra))) ∧
      (∀ b ∈ fixT t, H' (ra b.nm) = some (rsnT (R0 b.nm))) ∧ ∀ b ∈ (freeT t).take i, H' (ra b.nm) = some (rsnT (R0 b.nm)))
    ⟨none, ra', rfl, ExB.refl _, by rw [List.take_zero, List.append_nil, ← hcsL]; exact h61, by simpa using h62, fun b hb => by rw [(inX b hb).2]; exact h6r b hb, fun b hb => by simp at hb⟩ (fun i σ H' _ pr' => let ⟨_, _, _, e, _⟩ := pr'; e _ _ (by simp only [List.mem_cons, List.not_mem_nil, or_false, not_or]; exact ⟨hp1, hp2⟩) h6p) (fun i z σ H7 hz pr' => ?_) fun σ H7 pr' => ?_))
  · obtain ⟨o, ra, rfl, e7, h71, h72, h7x, h7f⟩ := pr'
    obtain ⟨b, hbi, hbz⟩ := hxs.get hz
    have hmem := List.mem_of_getElem? hbi
    have hi := (List.getElem?_eq_some_iff.mp hbi).1
    have X7 : Ex H0 H7 := ExB.in1 X6 e7 fun d hd => by
      simp only [List.mem_cons, List.not_mem_nil, or_false] at hd
      rcases hd with rfl | rfl
      · exact hz1
      · exact hz2
    obtain ⟨ba, ws, rfl, Fb, _⟩ := (hbz.ex X7).out
    have i7 : H7 r = some (.ins 1222 dx [("leasts", .ref d1), ("reasons", .ref d2), ("free", .ref p)]) := e7 _ _ r12 i6
    have hstep : (freeT t).take (i + 1) = (freeT t).take i ++ [b] := by rw [List.take_add_one, hbi] <;> rfl
    have hnn : b.nm ∉ (cs ++ (freeT t).take i).map Tr.nm := fun z => by
      obtain ⟨c, hc, e⟩ := List.mem_map.mp z
      rcases List.mem_append.mp hc with hc | hc
      · exact n3 b hmem c (hcs.mem_iff.mp hc) e.symm
      · obtain ⟨j, hj⟩ := List.mem_iff_getElem?.mp hc
        have hj1 := (List.getElem?_eq_some_iff.mp hj).1
        rw [List.length_take] at hj1
        rw [List.getElem?_take_of_lt (by omega)] at hj
        have := names_ne n1 hj hbi e
        omega
    have hlen : (cs ++ (freeT t).take i).length ≤ 17 := by rw [List.length_append, List.length_take]; omega
    refine gN (s_put (k := .inr b.nm) ev_c (ev_fld (ev_var rfl) (rfld F i7 rfl (by decide))) (ev_fld (ev_var rfl) Fb.name) h71 (by rw [List.length_map]; omega) ?_)
    obtain ⟨H8, hH8⟩ : ∃ H8, H8 = upd H7 d1 (.dK (putK ((cs ++ (freeT t).take i).map (entL L0)) (.inr b.nm) (.int 0))) := ⟨_, rfl⟩
    rw [← hH8]
    have k8 : ∀ c, c ≠ d1 → H8 c = H7 c := fun c hc => by rw [hH8]; exact upd_ne hc
    have h81 : H8 d1 = some (.dK ((cs ++ (freeT t).take (i + 1)).map (entL L0))) := by
      rw [hH8, upd_same, entL_G, put_more hnn (by rw [(inF b hmem).1]), hstep, List.append_assoc]
    have h82 : H8 d2 = some (.dK ((cs ++ (freeT t).take i).map (entP ra))) := by rw [k8 _ d12.symm]; exact h72
    have i8 : H8 r = some (.ins 1222 dx [("leasts", .ref d1), ("reasons", .ref d2), ("free", .ref p)]) := by rw [k8 _ rd1.symm]; exact i7
    have X8 : Ex H0 H8 := but_ex X7 hz1 k8
    obtain ⟨ba', ws', ea, Fb8, _⟩ := (hbz.ex X8).out
    cases ea
    refine putC (tup_go (xs := [.str "own", .str "", .int 0]) (by trivial) fun t1 H9 e9 ht1 h9 => put_end (k := .inr b.nm) (ev_fld (ev_var rfl) (rfld F (e9 _ _ i8) rfl (by decide))) (ev_fld (ev_var rfl) (Fb8.name.ex e9)) (e9 _ _ h82) (by rw [List.length_map]; omega) ?_)
    have t1d : t1 ≠ d2 := ne_of h9 (e9 _ _ h82) (fun z => by cases z)
    have t1d1 : t1 ≠ d1 := ne_of h9 (e9 _ _ h81) (fun z => by cases z)
    have keep : ∀ c zs, H7 c = some (.tup zs) → upd H9 d2 (.dK (putK ((cs ++ (freeT t).take i).map (entP ra)) (.inr b.nm) (.ref t1))) c = some (.tup zs) := fun c zs hc => by
      have hc1 : c ≠ d1 := ne_of hc h71 (fun z => by cases z)
      have hc2 : c ≠ d2 := ne_of hc h72 (fun z => by cases z)
      rw [upd_ne hc2]
      exact e9 _ _ (by rw [k8 _ hc1]; exact hc)
    have hrk : ∀ c ∈ cs ++ (freeT t).take i, updS ra b.nm t1 c.nm = ra c.nm := fun c hc => updS_ne fun z => hnn (by rw [← z]; exact List.mem_map.mpr ⟨c, hc, rfl⟩)
    refine ⟨_, updS ra b.nm t1, rfl, ?_, ?_, ?_, fun c hc => ?_, fun c hc => ?_⟩
    · refine ExB.put ?_ (by simp)
      exact (e7.trans (show ExB [d1, d2] H7 H8 from fun c o hc ho => by rw [k8 c (fun z => hc (by rw [z]; simp))]; exact ho)).trans e9.b
    · rw [upd_ne d12]; exact e9 _ _ h81
    · rw [upd_same, entP_G, put_out hnn, updS_ref, hstep, List.append_assoc]
      rfl
    · rw [hrk c (List.mem_append_left _ (hcs.mem_iff.mpr hc))]
      exact keep _ _ (h7x c hc)
    · rw [hstep] at hc
      rcases List.mem_append.mp hc with hc | hc
      · rw [hrk c (List.mem_append_right _ hc)]
        exact keep _ _ (h7f c hc)
      · rw [List.mem_singleton.mp hc, updS_same, upd_ne t1d, (inF b hmem).2]
        exact h9
  · obtain ⟨o, ra, rfl, e7, h71, h72, h7x, h7f⟩ := pr'
    rw [hxl, List.take_length] at h71 h72 h7f
    have X7 : Ex H0 H7 := ExB.in1 X6 e7 fun d hd => by
      simp only [List.mem_cons, List.not_mem_nil, or_false] at hd
      rcases hd with rfl | rfl
      · exact hz1
      · exact hz2
    have i7 : H7 r = some (.ins 1222 dx [("leasts", .ref d1), ("reasons", .ref d2), ("free", .ref p)]) := e7 _ _ r12 i6
    have h7p : H7 p = some (.lst xs) := e7 _ _ (by simp only [List.mem_cons, List.not_mem_nil, or_false, not_or]; exact ⟨hp1, hp2⟩) h6p
    refine nxC (fldC (lst_go (xs := []) (by trivial) fun pl H8 e8 hpl h8 => fld_end (fs' := [("leasts", .ref d1), ("reasons", .ref d2), ("free", .ref p), ("past", .ref pl)]) (ev_var rfl) (e8 _ _ i7) F.rcls (F.rna _ (by decide)) (Nat.le_of_ble_eq_true rfl) rfl fun H9 k9 i9 => ?_))
    have plr : pl ≠ r := (ne_of_none i7 hpl).symm
    have hperm : (cs ++ freeT t).Perm t.boxes := (List.perm_append_comm.trans (List.Perm.append_left _ hcs)).trans (free_fix t)
    have tk : ∀ c o, c ≠ r → H7 c = some o → H9 c = some o := fun c o hc ho => by rw [k9 c hc]; exact e8 _ _ ho
    refine q H9 L0 R0 ⟨but_ex (X7.trans e8) hr0 k9, ⟨dx, d1, d2, p, pl, xs, [], i9, hr0, hz2, X7.free hpl, d12, ne_of_none h7p hpl, tk _ _ pr h7p, hxs, ⟨cs ++ freeT t, hperm, tk _ _ rd1 h71⟩, ⟨cs ++ freeT t, ra, hperm, tk _ _ rd2 h72, fun b hb => ?_⟩, by rw [k9 _ plr]; exact h8, ⟨rfl, fun k hk => absurd hk (Nat.not_lt_zero _)⟩⟩, ?_, fun k hk => absurd hk (Nat.not_lt_zero _)⟩
    · rcases mem_ff.mp hb with h | h
      · exact tk _ _ (ne_of (h7f b h) i7 (fun z => by cases z)) (h7f b h)
      · exact tk _ _ (ne_of (h7x b h) i7 (fun z => by cases z)) (h7x b h)
    · exact rinv0 hok hT.own hT.grp (fun b hb => (S.ok b hb).congr (inX b hb) fun c hc => inX c (fixT_cl hb hc)) (fun b hb => (inF b hb).1) (fun b hb => (inF b hb).2)
end

section
variable {K : PySem.W.Frag}
/-! ### exceptions of the program's own -/
def sp_exc (C : Addr) (f : Str) : Sp := fun vs H Q _ => ∃ (a : Addr) (v : V), vs = [.ref a, v] ∧ H a = some (exo a C none) ∧ ∀ dx, H dx = none → dx ≠ a → Q .non (upd (upd H dx (exd dx [(f, v)])) a (exo a C (some dx)))
def r_exc (K : PySem.W.Frag) (txt f : Str) : TS := tSeq (tDrop (tVeI K (tCons (tVar 0) (tCons (tC (.str txt)) tNil)))) (tOst K f (tVar 0) (tVar 1))
theorem rd_exc {C : Addr} {txt f a2 : Str} (O : OexC K C) (hf : PySem.W.findIn K (.ref C) f = some none) : ∀ vs H Q E, sp_exc C f vs H Q E → r_exc K txt f { nx := fun _ H' => Q .non H', rt := Q } (start ["self", a2] vs) H := by
  rintro vs H Q E ⟨a, v, rfl, ha, q⟩
  refine seqC (dropC ((show EvA (tCons (tVar 0) (tCons (tC (.str txt)) tNil)) [some (.ref a), some v] H [.ref a, .str txt] from by trivial) _ ⟨a, C, [.str txt], rfl, by simp, O, ha, ?_⟩))
  refine nxC (Ev.go (v := v) (ev_var rfl) (Ev.go (v := .ref a) (ev_var rfl) ⟨a, C, rfl, O, hf, .inl ⟨ha, fun dx n ne => q dx n ne⟩⟩))
/-- raise C(e) -/
def tRz (C : Addr) (f : Str) (ta : TA) (E : XK) : TS := fun _ σ H => tMkO C (sp_exc C f) [] ta σ H fun cls d H' => E cls d H'
def RzK (C : Addr) (f : Str) (E : XK) (vs : List V) (H1 : Hp) : Prop := vs.length ≤ 1000 ∧ ∀ a, H1 a = none → sp_exc C f (.ref a :: (vs ++ [])) (upd H1 a (exo a C none))
  (fun v H2 => v = .non ∧ ∃ (d : Addr) (fs : List (Str × V)), H2 a = some (exo a C (some d)) ∧ H2 d = some (exd d fs) ∧ H1 d = none ∧ E (.ref C) (some d) (upd (del H2 a) d (.xd fs))) (fun _ _ _ => False)
theorem rzC {C : Addr} {f : Str} {ta : TA} {E : XK} {D : Ends} {σ : L2.St} {H : Hp} (h : ta σ H (RzK C f E)) : tRz C f ta E D σ H := h
theorem rz_end {C : Addr} {f : Str} {E : XK} {v : V} {H : Hp} (q : ∀ H' d, Ex H H' → E (.ref C) (some d) H') : RzK C f E [v] H := by
  refine ⟨by simp, fun a ha => ⟨a, v, rfl, upd_same, fun dx hdx hne => ⟨rfl, dx, [(f, v)], upd_same, ?_, ?_, q _ dx fun b o hb => ?_⟩⟩⟩
  · rw [upd_ne hne, upd_same]
  · rw [upd_ne hne] at hdx
    exact hdx
  · rw [upd_ne hne] at hdx
    have n1 : b ≠ a := ne_of_none hb ha
    have n2 : b ≠ dx := ne_of_none hb hdx
    rw [upd_ne n2, del_ne n1, upd_ne n1, upd_ne n2, upd_ne n1]
    exact hb
/-- a method of the rounds -/
theorem rndM {m : Str} {sp : Sp} {E : XK} {ta : TE} {tt : TA} {σ : L2.St} {H : Hp} {Q : VK} {r dx : Addr} {fs : List (Str × V)} {vs : List V} (hi : H r = some (.ins 1222 dx fs)) (hl : fs.lookup m = none) (ha : Ev ta σ H (.ref r)) (ht : EvA tt σ H vs) (h : sp (.ref r :: vs) H Q E) :
    tMethD [1222] m sp E ta tt σ H Q := ha _ ⟨r, 1222, dx, fs, rfl, hi, by simp, hl, ht _ ⟨⟨dx, fs, hi⟩, h⟩⟩
/-! ### one round -/
def r_Rounds_go (K : PySem.W.Frag) (E : XK) : TS :=
  (tSeq (tAsg (tCallR (sp_asks_of K) E0 (tCons (tFld K (tVar 0) "free") (tCons (tFld K (tVar 0) "leasts") tNil))) (gTup K 2 (gCons (gName 1) (gCons (gName 2) gNil))))
    (tSeq (tAsg (tOp qAdd (tCB (qLen K) (tCons (tFld K (tVar 0) "past") tNil)) (tC (.int 1))) (gName 3))
    (tSeq (tAsg tDNewK (gName 4))
    (tSeq (tAsg (tCB (qDictD) (tCons (tFld K (tVar 0) "leasts") tNil)) (gName 5))
    (tSeq (tFor (iList K (tFld K (tVar 0) "free")) (gName 6) (tSeq (tAsg (tDGet2 (tVar 2) (tFld K (tVar 6) "group") (tTup (tCons (tDGet (tVar 1) (tFld K (tVar 6) "name")) (tCons (tC (.str "")) tNil)))) (gTup K 2 (gCons (gName 7) (gCons (gName 8) gNil))))
    (tSeq (tIfS (tTest (tOp qGt (tVar 7) (tC (.int 1000000000)))) (tRz 217 "name" (tCons (tFld K (tVar 6) "name") tNil) E) tNext)
    (tIfS (tTest (tOp qGt (tVar 7) (tDGet (tFld K (tVar 0) "leasts") (tFld K (tVar 6) "name")))) (tSeq (sDPut (tVar 4) (tFld K (tVar 6) "name") (tMethD [1222] "reason" (sp_reason K) E0 (tVar 0) (tCons (tVar 6) (tCons (tVar 7) (tCons (tVar 8) (tCons (tVar 3) tNil))))))
    (sDPut (tVar 5) (tFld K (tVar 6) "name") (tVar 7))) tNext))))
    (tSeq (sFld K (tVar 0) (tVar 5) "leasts")
    (tSeq (tDrop (tDUpd (tFld K (tVar 0) "reasons") (tVar 4)))
    (tSeq (tDrop (tBM K "list" rAppend (tFld K (tVar 0) "past") (tCons (tVar 4) tNil)))
    (tRet (tVar 4))))))))))
theorem merge_in {cs : List Tr} : ∀ (rs : List Tr) (g g' : Str → V), (∀ b ∈ rs, b.nm ∈ cs.map Tr.nm) → mergeK (cs.map (entG g)) (rs.map (entG g')) = cs.map (entG fun x => if x ∈ rs.map Tr.nm then g' x else g x)
  | [], g, g', _ => by
    show cs.map (entG g) = _
    exact ent_congr fun t _ => (if_neg (by simp)).symm
  | b :: r, g, g', h => by
    show mergeK (putK (cs.map (entG g)) (.inr b.nm) (g' b.nm)) (r.map (entG g')) = _
    rw [put_in (h b List.mem_cons_self), merge_in r _ g' fun c hc => h c (List.mem_cons_of_mem _ hc)]
    refine ent_congr fun t _ => ?_
    by_cases h1 : t.nm ∈ r.map Tr.nm
    · rw [if_pos h1, if_pos (by rw [List.map_cons]; exact List.mem_cons_of_mem _ h1)]
    · rw [if_neg h1]
      by_cases h2 : t.nm = b.nm
      · rw [h2, updS_same, if_pos (by rw [List.map_cons]; exact List.mem_cons_self)]
      · rw [updS_ne h2, if_neg (by rw [List.map_cons]; simp only [List.mem_cons, not_or]; exact ⟨h2, h1⟩)]
theorem LD.congr {H : Hp} {d : Addr} {bs : List Tr} {L L' : Str → Int} (h : LD H d bs L) (e : ∀ b ∈ bs, L' b.nm = L b.nm) : LD H d bs L' := let ⟨cs, h1, h2⟩ := h; ⟨cs, h1, by
  rw [h2]
  congr 2
  exact List.map_congr_left fun b hb => by unfold entL; rw [e b (h1.mem_iff.mp hb)]⟩
theorem filter_snoc {fr : List Tr} {i : Nat} {b : Tr} {p : Tr → Bool} (h : fr[i]? = some b) : (fr.take (i + 1)).filter p = (fr.take i).filter p ++ if p b = true then [b] else [] := by
  rw [List.take_add_one, h, Option.toList_some, List.filter_append]
  congr 1
  cases e : p b with
  | true => rw [List.filter_cons_of_pos (by simpa using e), List.filter_nil]; rfl
  | false => rw [List.filter_cons_of_neg (by simpa using e), List.filter_nil]; rfl
theorem rd_go (F : KF K) : ∀ vs H Q E, sp_go K vs H Q E → r_Rounds_go K E { nx := fun _ H' => Q .non H', rt := Q } (start ["self", "asks", "groups", "turn", "risen", "after", "box", "least", "named"] vs) H := by
  rintro vs H Q E ⟨H0, r, t, n, L0, R, rfl, S, hT, hn, qE, q⟩
  obtain ⟨dx, d1, d2, fl, pl, xs, ps, hr, hr0, hz2, hzp, d12, flp, hfl, hxs, hLD, hPD, hpl, hPast⟩ := S.at_
  have hok := hT.ok
  obtain ⟨n1, n2, n3⟩ := ff_nodup hok.nodup
  obtain ⟨fr, hfr⟩ : ∃ fr, fr = freeT t := ⟨_, rfl⟩
  have hsub : ∀ b ∈ fr, b ∈ t.boxes := fun b hb => mem_ff.mpr (.inl (by rw [← hfr]; exact hb))
  rw [← hfr] at hxs hLD hPast n1
  have htop := S.top
  rw [← hfr] at htop q
  obtain ⟨L, hL⟩ : ∃ L, L = lsAt fr L0 n := ⟨_, rfl⟩
  rw [← hL] at hLD htop q
  have hfew : fr.length ≤ 17 := by
    have h1 := (free_fix t).length_eq
    rw [List.length_append, ← hfr] at h1
    have := hok.few
    omega
  have hxl := hxs.1
  have has : ∀ {H' : Hp}, LD H' d1 t.boxes L → ∀ b ∈ fr, HasL H' d1 b.ps L := fun h b hb => let ⟨k, h1, h2⟩ := h.has; ⟨k, h1, fun p hp => h2 p (parts_in (hsub b hb) hp)⟩
  -- what is asked
  refine seqC (asgC (callQ (xs := [.ref fl, .ref d1]) (ev_cons (ev_fld (ev_var rfl) (rfld F hr rfl (by decide))) (ev_cons (ev_fld (ev_var rfl) (rfld F hr rfl (by decide))) ev_nil))
    ⟨fl, d1, xs, fr, L, rfl, hfl, boxes_ex S.ex hxs, fun b hb => ⟨has hLD b hb, hok.wf b (hsub b hb), hT.own b (hsub b hb)⟩, n1, hfew, fun H1 tt a g ka kg e1 ht ha hg hka hkg => gT ht rfl (g2 ?_)⟩))
  have hr1 := e1 _ _ hr
  refine nxC (s_asg (v := .int ((n : Int) + 1)) (ev_op (ev_cb (ev_cons (ev_fld (ev_var rfl) (rfld F hr1 rfl (by decide))) ev_nil) (cv_lenL (e1 _ _ hpl))) ev_c (by rw [hPast.len]; exact rv_add)) ?_)
  refine s_asgQ (newK_go fun rd H2 e2 hrd h2 => ?_)
  have hLD2 := (hLD.ex e1).ex e2
  refine s_asgQ (cbQ (xs := [.ref d1]) (ev_cons (ev_fld (ev_var rfl) (rfld F (e2 _ _ hr1) rfl (by decide))) ev_nil) (dictD_go hLD2 fun af H3 e3 haf h3 => ?_))
  have e13 : Ex H H3 := (e1.trans e2).trans e3
  have rda : rd ≠ af := ne_of_none h2 haf
  have hrd0 : H rd = none := e1.free hrd
  have haf0 : H af = none := (e1.trans e2).free haf
  have new2 : ∀ d ∈ [rd, af], H d = none := fun d hd => by
    simp only [List.mem_cons, List.not_mem_nil, or_false] at hd
    rcases hd with rfl | rfl
    · exact hrd0
    · exact haf0
  refine nst (σ' := [some (.ref r), some (.ref a), some (.ref g), some (.int ((n : Int) + 1)), some (.ref rd), some (.ref af), none, none, none]) rfl ?_
  refine seqC (forL (xs := xs) (ev_fld (ev_var rfl) (rfld F (e13 _ _ hr) rfl (by decide))) (e13 _ _ hfl) (fun i σ H' => ∃ (o6 o7 o8 : Option V) (ra : Str → Addr) (Li : Str → Int), σ = [some (.ref r), some (.ref a), some (.ref g), some (.int ((n : Int) + 1)), some (.ref rd), some (.ref af), o6, o7, o8] ∧ ExB [rd, af] H3 H' ∧
      H' rd = some (.dK (((fr.take i).filter (risB fr L)).map (entP ra))) ∧ (∀ b ∈ (fr.take i).filter (risB fr L), H' (ra b.nm) = some (rsnT (rsnOf fr L n b))) ∧ LD H' af t.boxes Li ∧ (∀ b ∈ fr.take i, Li b.nm = (newOf L fr b).1) ∧ ∀ b ∈ t.boxes, b ∉ fr.take i → Li b.nm = L b.nm)
    ⟨none, none, none, fun _ => 0, L, rfl, ExB.refl _, by simpa using e3 _ _ h2, fun b hb => by simp at hb, h3, fun b hb => by simp at hb, fun b _ _ => rfl⟩ (fun i σ H' _ pr => let ⟨_, _, _, _, _, _, e, _⟩ := pr; ExB.fresh e13 e new2 _ _ hfl) (fun i z σ H4 hz pr => ?_) fun σ H4 pr => ?_)
  · obtain ⟨o6, o7, o8, ra, Li, rfl, e4, h4r, h4s, h4a, h4l, h4o⟩ := pr
    obtain ⟨b, hbi, hbz⟩ := hxs.get hz
    have hmem := List.mem_of_getElem? hbi
    have hbb := hsub b hmem
    have hi := (List.getElem?_eq_some_iff.mp hbi).1
    have E4 : Ex H H4 := ExB.fresh e13 e4 new2
    have hb4 := hbz.ex (S.ex.trans E4)
    obtain ⟨ba, ws, rfl, Fb, _⟩ := hb4.out
    have E14 : Ex H1 H4 := ExB.fresh (e2.trans e3) e4 fun d hd => by
      simp only [List.mem_cons, List.not_mem_nil, or_false] at hd
      rcases hd with rfl | rfl
      · exact hrd
      · exact e2.free haf
    have hnot : b ∉ fr.take i := fun hb => by
      obtain ⟨j, hj⟩ := List.mem_iff_getElem?.mp hb
      have hj1 := (List.getElem?_eq_some_iff.mp hj).1
      rw [List.length_take] at hj1
      rw [List.getElem?_take_of_lt (by omega)] at hj
      have := names_ne n1 hj hbi rfl
      omega
    have hnn : ∀ c ∈ fr.take i, c.nm ≠ b.nm := fun c hc e => hnot (by rw [← nm_eq n1 (List.mem_of_mem_take hc) hmem e]; exact hc)
    have hstep : fr.take (i + 1) = fr.take i ++ [b] := by rw [List.take_add_one, hbi] <;> rfl
    have hg4 := E14 _ _ hg
    have ha4 := E14 _ _ ha
    refine gN (seqC (asgC (get2C (y := .int b.b.grp) (ev_var rfl) (.inl ⟨_, .inl hg4⟩) (ev_fld (ev_var rfl) Fb.group) (tup_go (xs := [.int (ask b L), .str ""]) (ev_cons (ev_dgetS (ev_var rfl) (ev_fld (ev_var rfl) Fb.name) (.inl ha4) (hka b hmem)) (ev_cons ev_c ev_nil)) fun dq H5 e5 hdq h5 => get_end (k := .inl b.b.grp) (e5 _ _ hg4) ?_))))
    obtain ⟨qq, hsel, hqq⟩ : ∃ qq : Addr, (valV kg (.inl b.b.grp)).getD (.ref dq) = .ref qq ∧ H5 qq = some (.tup [.int (newOf L fr b).1, .str (newOf L fr b).2]) := by
      have h := hkg b hmem
      unfold newOf
      cases k : topG L fr b.b.grp with
      | none =>
        rw [k] at h
        exact ⟨dq, by rw [h]; rfl, h5⟩
      | some p =>
        obtain ⟨v, m⟩ := p
        rw [k] at h
        obtain ⟨q', h1, h2'⟩ := h
        exact ⟨q', by rw [h1]; rfl, e5 _ _ (E14 _ _ h2')⟩
    rw [hsel]
    refine gT hqq rfl (g2 (nxC ?_))
    have E5 : Ex H H5 := E4.trans e5
    have hr5 := E5 _ _ hr
    have Fb5 := Fb.ex e5
    refine s_ifN (b := decide (1000000000 < (newOf L fr b).1)) (evt_test (ev_op (ev_var rfl) ev_c rv_gt)) (fun h => ?_) (fun h => ?_)
    · refine rzC (evA_go (xs := [.str b.nm]) (ev_cons (ev_fld (ev_var rfl) Fb5.name) ev_nil) (rz_end fun H' d e' => qE H' _ (S.ex.trans (E5.trans e'))))
    have hLD5 := hLD.ex E5
    have hv5 := hLD5.has
    have e45 : ExB [rd, af] H3 H5 := e4.trans e5.b
    refine e_if (b := decide (L b.nm < (newOf L fr b).1)) (evt_test (ev_op (ev_var rfl) (ev_has (ev_fld (ev_var rfl) (rfld F hr5 rfl (by decide))) (ev_fld (ev_var rfl) Fb5.name) (hv5.at hbb)) rv_gt)) (fun h => ?_) (fun h => ?_)
    · have hlt : L b.nm < (newOf L fr b).1 := of_decide_eq_true h
      have hris : risB fr L b = true := decide_eq_true hlt
      refine seqC (putC (rndM hr5 rfl (ev_var rfl) (vs := [.ref ba, .int (newOf L fr b).1, .str (newOf L fr b).2, .int ((n : Int) + 1)]) (by trivial) ⟨r, .ref ba, d1, b, L, (newOf L fr b).1, (n : Int) + 1, (newOf L fr b).2, rfl, rfld F hr5 rfl (by decide), hb4.ex e5, has hLD5 b hmem, hok.wf b hbb, fun H6 q6 e6 h6 =>
        put_end (k := .inr b.nm) (ev_var rfl) (ev_fld (ev_var rfl) (Fb5.name.ex e6)) ((e5.trans e6) _ _ h4r) (by rw [List.length_map]; have := List.length_filter_le (risB fr L) (fr.take i); rw [List.length_take] at this; omega) ?_⟩))
      obtain ⟨H7, hH7⟩ : ∃ H7, H7 = upd H6 rd (.dK (putK (((fr.take i).filter (risB fr L)).map (entP ra)) (.inr b.nm) (.ref q6))) := ⟨_, rfl⟩
      rw [← hH7]
      have k7 : ∀ c, c ≠ rd → H7 c = H6 c := fun c hc => by rw [hH7]; exact upd_ne hc
      have q6r : q6 ≠ rd := ne_of h6 ((e5.trans e6) _ _ h4r) (fun z => by cases z)
      have E67 : Ex H H7 := but_ex (E5.trans e6) hrd0 k7
      obtain ⟨ba', ws', ea, Fb7, _⟩ := (hbz.ex (S.ex.trans E67)).out
      cases ea
      have h7a : LD H7 af t.boxes Li := let ⟨cs, p1, p2⟩ := h4a.ex (e5.trans e6); ⟨cs, p1, by rw [k7 _ rda.symm]; exact p2⟩
      refine nxC (ldput_go (v := (newOf L fr b).1) (ev_var rfl) (ev_var rfl) (ev_fld (ev_var rfl) Fb7.name) h7a hbb hok.few fun H8 k8 h8 => ?_)
      have h6r := (e5.trans e6) _ _ h4r
      obtain ⟨csa, _, h6a⟩ := h4a.ex (e5.trans e6)
      have tk : ∀ c rs, H6 c = some (rsnT rs) → H8 c = some (rsnT rs) := fun c rs hc => by
        rw [k8 c (ne_of hc h6a (fun z => by cases z)), k7 c (ne_of hc h6r (fun z => by cases z))]
        exact hc
      have hnotin : b.nm ∉ ((fr.take i).filter (risB fr L)).map Tr.nm := fun z => by
        obtain ⟨c, hc, e⟩ := List.mem_map.mp z
        exact hnn c (List.mem_filter.mp hc).1 e
      refine ⟨_, _, _, updS ra b.nm q6, updS Li b.nm (newOf L fr b).1, rfl, fun c o hc ho => ?_, ?_, fun c hc => ?_, h8, fun c hc => ?_, fun c hc hcn => ?_⟩
      · simp only [List.mem_cons, List.not_mem_nil, or_false, not_or] at hc
        rw [k8 c hc.2, k7 c hc.1]
        exact (e45.trans e6.b) c o (by simp only [List.mem_cons, List.not_mem_nil, or_false, not_or]; exact hc) ho
      · rw [k8 _ rda, hH7, upd_same, filter_snoc hbi, if_pos hris, entP_G, put_out hnotin, updS_ref]
        rfl
      · rw [filter_snoc hbi, if_pos hris] at hc
        rcases List.mem_append.mp hc with hc | hc
        · rw [updS_ne (hnn c (List.mem_filter.mp hc).1)]
          exact tk _ _ ((e5.trans e6) _ _ (h4s c hc))
        · rw [List.mem_singleton.mp hc, updS_same]
          exact tk _ _ h6
      · rw [hstep] at hc
        rcases List.mem_append.mp hc with hc | hc
        · rw [updS_ne (hnn c hc)]
          exact h4l c hc
        · rw [List.mem_singleton.mp hc, updS_same]
      · rw [hstep] at hcn
        have hne : c.nm ≠ b.nm := fun e => hcn (List.mem_append_right _ (by rw [nm_eq hok.nodup hc hbb e]; exact List.mem_singleton_self _))
        rw [updS_ne hne]
        exact h4o c hc fun m => hcn (List.mem_append_left _ m)
    · have hnlt : ¬ L b.nm < (newOf L fr b).1 := of_decide_eq_false h
      have hris : ¬ risB fr L b = true := fun z => hnlt (of_decide_eq_true z)
      have hfs : (fr.take (i + 1)).filter (risB fr L) = (fr.take i).filter (risB fr L) := by rw [filter_snoc hbi, if_neg hris, List.append_nil]
      refine ⟨_, _, _, ra, Li, rfl, e45, by rw [hfs]; exact e5 _ _ h4r, fun c hc => ?_, h4a.ex e5, fun c hc => ?_, fun c hc hcn => ?_⟩
      · rw [hfs] at hc
        exact e5 _ _ (h4s c hc)
      · rw [hstep] at hc
        rcases List.mem_append.mp hc with hc | hc
        · exact h4l c hc
        · rw [List.mem_singleton.mp hc, h4o b hbb hnot]
          have := htop.rise b hmem
          omega
      · rw [hstep] at hcn
        exact h4o c hc fun m => hcn (List.mem_append_left _ m)
  · obtain ⟨o6, o7, o8, ra, Li, rfl, e4, h4r, h4s, h4a, h4l, h4o⟩ := pr
    rw [hxl, List.take_length] at h4r h4s h4l h4o
    have E4 : Ex H H4 := ExB.fresh e13 e4 new2
    have hr4 := E4 _ _ hr
    have hLn : LD H4 af t.boxes (nextL fr L) := h4a.congr fun b hb => by
      by_cases hbf : b ∈ fr
      · rw [nextL_in n1 hbf, h4l b hbf]
      · rw [nextL_out (htop.out hb hbf), h4o b hb hbf]
    refine nxC (s_fld (y := .ref af) (fs' := [("leasts", .ref af), ("reasons", .ref d2), ("free", .ref fl), ("past", .ref pl)]) (ev_var rfl) (ev_var rfl) hr4 F.rcls (F.rna _ (by decide)) (Nat.le_of_ble_eq_true rfl) rfl fun H5 e5 i5 => ?_)
    have ex5 : ∀ {c o}, c ≠ r → H4 c = some o → H5 c = some o := fun hc ho => e5 _ _ (by simpa using hc) ho
    obtain ⟨cs2, ra2, hp2, hd2, hrs2⟩ := hPD
    have rd2 : d2 ≠ r := ne_of hd2 hr (fun z => by cases z)
    have rrd : rd ≠ r := ne_of h4r hr4 (fun z => by cases z)
    have rpl : pl ≠ r := ne_of hpl hr (fun z => by cases z)
    have rfl' : fl ≠ r := ne_of hfl hr (fun z => by cases z)
    have h5d2 : H5 d2 = some (.dK (cs2.map (entP ra2))) := ex5 rd2 (E4 _ _ hd2)
    have h5rd : H5 rd = some (.dK ((fr.filter (risB fr L)).map (entP ra))) := ex5 rrd h4r
    have hrd2 : d2 ≠ rd := ne_of_none hd2 hrd0
    have haf2 : d2 ≠ af := ne_of_none hd2 haf0
    obtain ⟨rs, hrs⟩ : ∃ rs, rs = fr.filter (risB fr L) := ⟨_, rfl⟩
    have hrs' : rs = risen fr L := hrs
    rw [← hrs] at h5rd h4s
    have hrsub : ∀ b ∈ rs, b ∈ fr := fun b hb => by rw [hrs] at hb; exact (List.mem_filter.mp hb).1
    have hrl : rs.length ≤ 17 := by
      have := List.length_filter_le (risB fr L) fr
      rw [hrs]; omega
    have hcl2 := hp2.length_eq
    have hfew2 := hok.few
    have hrnd : (rs.map Tr.nm).Nodup := by
      rw [hrs]
      exact ((List.filter_sublist (p := risB fr L) (l := fr)).map Tr.nm).nodup n1
    refine seqC (dropC (Ev.go (v := .ref d2) (ev_fld (ev_var rfl) (rfld F i5 rfl (by decide))) ⟨d2, rfl, .inl ⟨_, .inl h5d2⟩, Ev.go (v := .ref rd) (ev_var rfl) ⟨rd, _, _, rfl, h5d2, h5rd, hrd2, by rw [List.length_map, List.length_map]; omega, ?_, ?_⟩⟩))
    · have e : (rs.map (entP ra)).map (·.1) = (rs.map Tr.nm).map Sum.inr := by rw [List.map_map, List.map_map]; rfl
      rw [e]
      exact hrnd.map Sum.inr (fun a b h z => h (Sum.inr.inj z))
    obtain ⟨ra', hra'⟩ : ∃ ra' : Str → Addr, ra' = fun x => if x ∈ rs.map Tr.nm then ra x else ra2 x := ⟨_, rfl⟩
    have hmg : mergeK (cs2.map (entP ra2)) (rs.map (entP ra)) = cs2.map (entP ra') := by
      rw [entP_G, entP_G, merge_in rs _ _ fun b hb => List.mem_map.mpr ⟨b, hp2.mem_iff.mpr (hsub b (hrsub b hb)), rfl⟩, entP_G, hra']
      refine ent_congr fun c _ => ?_
      show (if c.nm ∈ rs.map Tr.nm then V.ref (ra c.nm) else V.ref (ra2 c.nm)) = V.ref (if c.nm ∈ rs.map Tr.nm then ra c.nm else ra2 c.nm)
      split <;> rfl
    rw [hmg]
    obtain ⟨H6, hH6⟩ : ∃ H6, H6 = upd H5 d2 (.dK (cs2.map (entP ra'))) := ⟨_, rfl⟩
    rw [← hH6]
    have k6 : ∀ c, c ≠ d2 → H6 c = H5 c := fun c hc => by rw [hH6]; exact upd_ne hc
    have i6 : H6 r = some (.ins 1222 dx [("leasts", .ref af), ("reasons", .ref d2), ("free", .ref fl), ("past", .ref pl)]) := by rw [k6 _ rd2.symm]; exact i5
    have h5pl : H5 pl = some (.lst ps) := ex5 rpl (E4 _ _ hpl)
    have pl2 : pl ≠ d2 := ne_of h5pl h5d2 (fun z => by cases z)
    have h6pl : H6 pl = some (.lst ps) := by rw [k6 _ pl2]; exact h5pl
    have hpn := hPast.len
    refine nxC (s_app (ev_fld (ev_var rfl) (rfld F i6 rfl (by decide))) (ev_var rfl) h6pl (by omega) (e_ret (ev_var rfl) ?_))
    obtain ⟨H7, hH7⟩ : ∃ H7, H7 = upd H6 pl (.lst (ps ++ [.ref rd])) := ⟨_, rfl⟩
    rw [← hH7]
    have k7 : ∀ c, c ≠ pl → H7 c = H6 c := fun c hc => by rw [hH7]; exact upd_ne hc
    -- what stood and is none of the three stands
    have keep : ∀ c o, c ≠ r → c ≠ d2 → c ≠ pl → H4 c = some o → H7 c = some o := fun c o hc1 hc2 hc3 ho => by
      rw [k7 c hc3, k6 c hc2]
      exact ex5 hc1 ho
    have keepT : ∀ c rs, H4 c = some (rsnT rs) → H7 c = some (rsnT rs) := fun c rs' hc =>
      keep c _ (ne_of hc hr4 (fun z => by cases z)) (ne_of hc (E4 _ _ hd2) (fun z => by cases z)) (ne_of hc (E4 _ _ hpl) (fun z => by cases z)) hc
    have h4pl := E4 _ _ hpl
    have rdpl : rd ≠ pl := ne_of h4r h4pl (fun z => by cases z)
    have afr : af ≠ r := (ne_of_none hr haf0).symm
    have afpl : af ≠ pl := (ne_of_none hpl haf0).symm
    have h7rd : H7 rd = some (.dK (rs.map (entP ra))) := by rw [k7 _ rdpl, k6 _ hrd2.symm]; exact h5rd
    have e07 : Ex H0 H7 := fun c o hc => keep c o (ne_of_none hc hr0) (ne_of_none hc hz2) (ne_of_none hc hzp) (E4 _ _ (S.ex _ _ hc))
    have hla : lsAt fr L0 (n + 1) = nextL fr L := by rw [hL]; rfl
    refine q H7 rd ra ⟨e07, ⟨dx, af, d2, fl, pl, xs, ps ++ [.ref rd], ?_, hr0, hz2, hzp, haf2.symm, flp, ?_, ?_, ?_, ?_, ?_, ?_⟩, ?_, ?_⟩ (by rw [← hrs']; exact h7rd)
    · rw [k7 _ rpl.symm]; exact i6
    · exact keep _ _ rfl' (ne_of hfl hd2 (fun z => by cases z)) flp (E4 _ _ hfl)
    · rw [← hfr]; exact hxs
    · rw [← hfr, hla]
      obtain ⟨cs, p1, p2⟩ := hLn
      exact ⟨cs, p1, keep _ _ afr haf2.symm afpl p2⟩
    · refine ⟨cs2, ra', hp2, by rw [k7 _ pl2.symm, hH6, upd_same], fun b hb => ?_⟩
      by_cases hbr : b.nm ∈ rs.map Tr.nm
      · obtain ⟨c, hc, e⟩ := List.mem_map.mp hbr
        have hcb : c = b := nm_eq hok.nodup (hsub c (hrsub c hc)) hb e
        subst hcb
        have hlt : L c.nm < (newOf L fr c).1 := by
          rw [hrs] at hc
          exact of_decide_eq_true (List.mem_filter.mp hc).2
        rw [hra', nextR_in n1 (hrsub c hc), if_pos hlt]
        show H7 (if c.nm ∈ rs.map Tr.nm then ra c.nm else ra2 c.nm) = _
        rw [if_pos hbr]
        exact keepT _ _ (h4s c hc)
      · have hnr : nextR fr L n R b.nm = R b.nm := by
          by_cases hbf : b ∈ fr
          · rw [nextR_in n1 hbf]
            refine if_neg fun z => hbr (List.mem_map.mpr ⟨b, ?_, rfl⟩)
            rw [hrs]
            exact List.mem_filter.mpr ⟨hbf, decide_eq_true z⟩
          · exact nextR_out (htop.out hb hbf)
        rw [hnr, hra']
        show H7 (if b.nm ∈ rs.map Tr.nm then ra b.nm else ra2 b.nm) = _
        rw [if_neg hbr]
        exact keepT _ _ (E4 _ _ (hrs2 b hb))
    · rw [hH7, upd_same]
    · rw [← hfr]
      refine ⟨by rw [List.length_append, hpn]; rfl, fun k hk => ?_⟩
      by_cases hkn : k < n
      · obtain ⟨pk, rk, a1, a2, a3, a4⟩ := hPast.at_ k hkn
        refine ⟨pk, rk, by rw [List.getElem?_append_left (by omega)]; exact a1, a2, keep _ _ (ne_of a3 hr (fun z => by cases z)) a2 (ne_of a3 hpl (fun z => by cases z)) (E4 _ _ a3), fun b hb => keepT _ _ (E4 _ _ (a4 b hb))⟩
      · have hke : k = n := by omega
        subst hke
        refine ⟨rd, ra, ?_, hrd2.symm, by rw [← hL, ← hrs']; exact h7rd, fun b hb => ?_⟩
        · rw [List.getElem?_append_right (by omega), hpn, Nat.sub_self]
          rfl
        · rw [← hL, ← hrs'] at hb
          rw [← hL]
          exact keepT _ _ (h4s b hb)
    · rw [← hfr, hla]
      exact htop.next n1
    · intro k hk
      by_cases hkn : k < n
      · exact S.hist k hkn
      · have hke : k = n := by omega
        subst hke
        exact ⟨R, S.top⟩
end

section
variable {K : PySem.W.Frag}
theorem nd_le : ∀ (l m : List Str), l.Nodup → (∀ x ∈ l, x ∈ m) → l.length ≤ m.length
  | [], m, _, _ => Nat.zero_le _
  | x :: r, m, h, hs => by
    obtain ⟨h1, h2⟩ := List.nodup_cons.mp h
    have hx := hs x List.mem_cons_self
    have ih := nd_le r (m.erase x) h2 fun y hy => (List.mem_erase_of_ne fun e => h1 (by rw [← e]; exact hy)).mpr (hs y (List.mem_cons_of_mem _ hy))
    rw [List.length_erase_of_mem hx] at ih
    have := List.length_pos_of_mem hx
    rw [List.length_cons]
    omega
/-- where it stands first -/
theorem first_at : ∀ (l : List Str) (n : Str), n ∈ l → ∃ j : Nat, l[j]? = some n ∧ ∀ (m : Nat) (x : Str), m < j → l[m]? = some x → x ≠ n
  | [], n, h => by cases h
  | a :: r, n, h => by
    by_cases e : a = n
    · exact ⟨0, by rw [e]; rfl, fun m x hm => absurd hm (Nat.not_lt_zero _)⟩
    · obtain ⟨j, h1, h2⟩ := first_at r n ((List.mem_cons.mp h).resolve_left fun z => e z.symm)
      refine ⟨j + 1, by simpa using h1, fun m x hm hx => ?_⟩
      cases m with
      | zero =>
        have : a = x := by simpa using hx
        rw [← this]; exact e
      | succ m => exact h2 m x (by omega) (by simpa using hx)
theorem ev_index {te tk : TE} {σ : L2.St} {H : Hp} {a : Addr} {l : List Str} {n : Str} (ha : Ev te σ H (.ref a)) (hk : Ev tk σ H (.str n)) (hl : H a = some (.lst (l.map V.str))) (hn : n ∈ l) :
    ∃ j : Nat, j ≤ l.length ∧ Ev (tBM K "list" (rIndex K) te (tCons tk tNil)) σ H (.int (j : Nat)) := by
  obtain ⟨j, h1, h2⟩ := first_at l n hn
  have hj := (List.getElem?_eq_some_iff.mp h1).1
  refine ⟨j, by omega, fun Q q => ha _ ⟨.inl ⟨rfl, _, SqL.of hl⟩, hk _ ⟨a, _, .str n, j, .str n, rfl, rfl, SqL.of hl, rfl, flatS l, by rw [List.getElem?_map, h1]; rfl, by simp [eqV], fun m z hm hz => ?_, q⟩⟩⟩
  rw [List.getElem?_map] at hz
  obtain ⟨x, hx, rfl⟩ := Option.map_eq_some_iff.mp hz
  have := h2 m x hm hx
  simpa [eqV] using this
/-- a step of the ring -/
theorem ring_go {t : Tr} {fr : List Tr} {L0 : Str → Int} {k : Nat} {R R' : Str → Rsn} (hf : (fr.map Tr.nm).Nodup) (I : RInv t.boxes fr (k + 1) (lsAt fr L0 (k + 1)) R) (I' : RInv t.boxes fr k (lsAt fr L0 k) R') {b : Tr} (hb : b ∈ risen fr (lsAt fr L0 (k + 1))) :
    (∃ rk, rsnOf fr (lsAt fr L0 (k + 1)) (k + 1) b = ⟨"parts", "", rk⟩ ∧ ∃ p ∈ b.ps, p ∈ risen fr (lsAt fr L0 k)) ∨
    (∃ rk, ∃ p ∈ risen fr (lsAt fr L0 k), rsnOf fr (lsAt fr L0 (k + 1)) (k + 1) b = ⟨"part", p.nm, rk⟩) ∨
    (∃ rk, ∃ c ∈ risen fr (lsAt fr L0 (k + 1)), rsnOf fr (lsAt fr L0 (k + 1)) (k + 1) b = ⟨"alike", c.nm, rk⟩) := by
  obtain ⟨hbf, hbr⟩ := risen_iff.mp hb
  have eL : lsAt fr L0 (k + 1) = nextL fr (lsAt fr L0 k) := rfl
  have hin : ∀ c ∈ fr, lsAt fr L0 (k + 1) c.nm = (newOf (lsAt fr L0 k) fr c).1 := fun c hc => by rw [eL]; exact nextL_in hf hc
  have up : ∀ p ∈ fr, lsAt fr L0 k p.nm < lsAt fr L0 (k + 1) p.nm → p ∈ risen fr (lsAt fr L0 k) := fun p hp h => risen_iff.mpr ⟨hp, by rw [← hin p hp]; exact h⟩
  have mono : ∀ c ∈ t.boxes, lsAt fr L0 k c.nm ≤ lsAt fr L0 (k + 1) c.nm := fun c hc => by
    by_cases h : c ∈ fr
    · rw [hin c h]; exact I'.rise c h
    · rw [eL, nextL_out (I'.out hc h)]; exact Int.le_refl _
  rcases ring_step I (Lp := lsAt fr L0 k) hin (fun c hc h => by rw [eL]; exact nextL_out (I'.out hc h)) mono hbf hbr (((k + 1 : Nat) : Int) + 1) with ⟨rk, e, p, hp, hpf, hl⟩ | ⟨rk, p, hpf, e, hl⟩ | ⟨rk, c, hc, e, hl⟩
  · exact .inl ⟨rk, e, p, hp, up p hpf hl⟩
  · exact .inr (.inl ⟨rk, p, up p hpf hl, e⟩)
  · exact .inr (.inr ⟨rk, c, risen_iff.mpr ⟨hc, hl⟩, e⟩)
theorem rd_ring_of (F : KF K) : ∀ vs H Q E, sp_ring_of K vs H Q E → r_ring_of K { nx := fun _ H' => Q .non H', rt := Q } (start ["rounds", "named", "box", "at", "name", "seen", "word", "other", "rank", "part"] vs) H := by
  rintro vs H Q E ⟨H0, r, t, n, L0, R, rfl, S, hT, hbn, hn, hne, q⟩
  obtain ⟨dx, d1, d2, fl, pl, xs, ps, hr, hr0, hz2, hzp, d12, flp, hfl, hxs, hLD, hPD, hpl, hPast⟩ := S.at_
  have hok := hT.ok
  obtain ⟨n1, n2, n3⟩ := ff_nodup hok.nodup
  have hinv : ∀ k, k < n + 1 → ∃ R', RInv t.boxes (freeT t) k (lsAt (freeT t) L0 k) R' := S.hist
  obtain ⟨fr, hfr⟩ : ∃ fr, fr = freeT t := ⟨_, rfl⟩
  have hsub : ∀ b ∈ fr, b ∈ t.boxes := fun b hb => mem_ff.mpr (.inl (by rw [← hfr]; exact hb))
  rw [← hfr] at hxs hPast n1 hne hinv
  have hfew : fr.length ≤ t.boxes.length := by
    have h1 := (free_fix t).length_eq
    rw [List.length_append, ← hfr] at h1
    omega
  have hfew17 := hok.few
  have hxl := hxs.1
  have hb0 := boxes_ex S.ex hxs
  refine s_asgQ (newK_go fun nd H1 e1 hnd h1 => ?_)
  refine nst (σ' := [some (.ref r), some (.ref nd), none, none, none, none, none, none, none, none]) rfl ?_
  refine seqC (forL (xs := xs) (ev_fld (ev_var rfl) (rfld F (e1 _ _ hr) rfl (by decide))) (e1 _ _ hfl) (fun i σ H' => ∃ (o2 : Option V) (kvs : List (Key × V)), σ = [some (.ref r), some (.ref nd), o2, none, none, none, none, none, none, none] ∧ Ex H H' ∧ H' nd = some (.dK kvs) ∧ kvs.length ≤ i ∧ ∀ (j : Nat) v b, j < i → xs[j]? = some v → fr[j]? = some b → valV kvs (.inr b.nm) = some v)
    ⟨none, [], rfl, e1, h1, Nat.le_refl _, fun j v b hj => absurd hj (Nat.not_lt_zero _)⟩ (fun i σ H' _ pr => let ⟨_, _, _, e, _⟩ := pr; e _ _ hfl) (fun i z σ H2 hz pr => ?_) fun σ H2 pr => ?_)
  · obtain ⟨o2, kvs, rfl, e2, h2, hkl, hin⟩ := pr
    obtain ⟨b, hbi, hbz⟩ := hb0.get hz
    have hi := (List.getElem?_eq_some_iff.mp hbi).1
    obtain ⟨ba, ws, rfl, Fb, _⟩ := (hbz.ex e2).out
    refine gN (put_go (k := .inr b.nm) (ev_var rfl) (ev_var rfl) (ev_fld (ev_var rfl) Fb.name) h2 (by omega) ⟨_, _, rfl, e2.mut hnd, upd_same, by have := length_putK kvs (.inr b.nm : Key) (V.ref ba); omega, fun j v c hj hv hc => ?_⟩)
    rw [valV_put]
    by_cases e : (Sum.inr c.nm : Key) = .inr b.nm
    · have hji := names_ne n1 hc hbi (Sum.inr.inj e)
      subst hji
      rw [hz] at hv
      cases hv
      rw [if_pos e]
    · rw [if_neg e]
      refine hin j v c ?_ hv hc
      by_cases hji : j = i
      · subst hji
        rw [hbi] at hc
        cases hc
        exact absurd rfl e
      · omega
  obtain ⟨o2, kvs, rfl, e2, h2, hkl, hin⟩ := pr
  have hnd2 : ∀ b ∈ fr, ∃ v, valV kvs (.inr b.nm) = some v ∧ BoxAt K H v b := fun b hb => by
    obtain ⟨j, hj⟩ := List.mem_iff_getElem?.mp hb
    obtain ⟨v, hv, hbv⟩ := hb0.at hj
    have := (List.getElem?_eq_some_iff.mp hv).1
    exact ⟨v, hin j v b this hv hj, hbv⟩
  have hpn := hPast.len
  have hps : ((ps.length : Nat) : Int) - 1 = ((n : Nat) : Int) := by rw [hpn]; omega
  refine nxC (s_asg (ev_op (ev_cb (ev_cons (ev_fld (ev_var rfl) (rfld F (e2 _ _ hr) rfl (by decide))) ev_nil) (cv_lenL (e2 _ _ hpl))) ev_c rv_sub) ?_)
  rw [hps]
  -- the last one's first name
  obtain ⟨pk, rk, a1, a2, a3, a4⟩ := hPast.at_ n (by omega)
  obtain ⟨b0, hb0r⟩ : ∃ b0, b0 ∈ risen fr (lsAt fr L0 n) ∧ ((risen fr (lsAt fr L0 n)).map (entP rk)).map (fun kv => kV kv.1) = V.str b0.nm :: (((risen fr (lsAt fr L0 n)).map (entP rk)).map (fun kv => kV kv.1)).tail := by
    cases e : risen fr (lsAt fr L0 n) with
    | nil => exact absurd e hne
    | cons b0 rest => exact ⟨b0, List.mem_cons_self, rfl⟩
  obtain ⟨hb0m, hb0l⟩ := hb0r
  refine s_asgQ (opK (cbQ (xs := [.ref pk]) (ev_cons (ev_op (ev_fld (ev_var rfl) (rfld F (e2 _ _ hr) rfl (by decide))) (ev_var rfl) (rv_ixL (e2 _ _ hpl) (atI_nat a1))) ev_nil) ⟨pk, _, rfl, .inl (e2 _ _ a3), fun p hp => op_end (z := .str b0.nm) ev_c (rv_ixLn (n := 0) upd_same (by rw [hb0l]; rfl)) ?_⟩))
  obtain ⟨H3, eH3, e3, h3⟩ := gen_new (.lst (((risen fr (lsAt fr L0 n)).map (entP rk)).map fun kv => kV kv.1)) hp
  rw [eH3]
  refine s_asgQ (lst_go (xs := []) (by trivial) fun sn H4 e4 hsn h4 => ?_)
  have E4 : Ex H H4 := (e2.trans e3).trans e4
  have E24 : Ex H2 H4 := e3.trans e4
  have hsn0 : H sn = none := (e2.trans e3).free hsn
  have hsn2 : H2 sn = none := e3.free hsn
  refine nst (σ' := [some (.ref r), some (.ref nd), o2, some (.int ((n : Nat) : Int)), some (.str b0.nm), some (.ref sn), none, none, none, none]) rfl ?_
  refine seqC ⟨fun m σ H' => ∃ (k : Nat) (b : Tr) (sl : List Str) (o6 o7 o8 : Option V), m = fr.length - sl.length ∧ σ = [some (.ref r), some (.ref nd), o2, some (.int ((k : Nat) : Int)), some (.str b.nm), some (.ref sn), o6, o7, o8, none] ∧ Ex H2 H' ∧ H' sn = some (.lst (sl.map V.str)) ∧ sl.Nodup ∧ (∀ s ∈ sl, s ∈ fr.map Tr.nm) ∧ n ≤ k + sl.length ∧ k ≤ n ∧ b ∈ risen fr (lsAt fr L0 k),
    ⟨_, n, b0, [], none, none, none, rfl, rfl, E24, h4, List.nodup_nil, (fun s hs => by cases hs), by simp, Nat.le_refl _, hb0m⟩, ?_⟩
  rintro m σ H5 ⟨k, b, sl, o6, o7, o8, rfl, rfl, E25, h5, hnd5, hsl, hnk, hkn, hbr⟩
  have E5 : Ex H H5 := e2.trans E25
  obtain ⟨hbf, hblt⟩ := risen_iff.mp hbr
  refine evt_test (b := !decide (b.nm ∈ sl)) (ev_op (ev_var rfl) (ev_var rfl) fun Q q => in_end (σ := []) (neg := true) h5 q) _ ?_
  by_cases hbs : b.nm ∈ sl
  · rw [decide_eq_true hbs, if_neg (by decide)]
    -- the ring
    obtain ⟨j, hj, hev⟩ := ev_index (K := K) (te := tVar 5) (tk := tVar 4) (σ := [some (.ref r), some (.ref nd), o2, some (.int ((k : Nat) : Int)), some (.str b.nm), some (.ref sn), o6, o7, o8, none]) (H := H5) (ev_var rfl) (ev_var rfl) h5 hbs
    refine nxC (retC (opK (slC (ev_var rfl) (evo_part hev) evo_no (sl_go h5 fun q1 H6 e6 hq1 h6 => lst_go (xs := [.str b.nm]) (by trivial) fun q2 H7 e7 hq2 h7 => cat_go (e7 _ _ h6) h7 ?_ fun q3 H8 e8 hq3 h8 => q H8 q3 (((E5.trans e6).trans e7).trans e8)))))
    rw [cutV_drop (by rw [List.length_map]; exact hj), List.length_drop, List.length_map]
    have := nd_le sl _ hnd5 hsl
    rw [List.length_map] at this
    simp
    omega
  · rw [decide_eq_false hbs, if_pos (by decide)]
    refine ⟨fun σ' H' => ∃ m', m' < fr.length - sl.length ∧ ∃ (k : Nat) (b : Tr) (sl : List Str) (o6 o7 o8 : Option V), m' = fr.length - sl.length ∧ σ' = [some (.ref r), some (.ref nd), o2, some (.int ((k : Nat) : Int)), some (.str b.nm), some (.ref sn), o6, o7, o8, none] ∧ Ex H2 H' ∧ H' sn = some (.lst (sl.map V.str)) ∧ sl.Nodup ∧ (∀ s ∈ sl, s ∈ fr.map Tr.nm) ∧ n ≤ k + sl.length ∧ k ≤ n ∧ b ∈ risen fr (lsAt fr L0 k), fun _ _ h => h, ?_⟩
    have hnd6 : (sl ++ [b.nm]).Nodup := by
      rw [List.nodup_append]
      refine ⟨hnd5, by simp, fun a ha c hc e => hbs ?_⟩
      rw [List.mem_singleton] at hc
      rw [← hc, ← e]
      exact ha
    have hsl6 : ∀ s ∈ sl ++ [b.nm], s ∈ fr.map Tr.nm := fun s hs => by
      rcases List.mem_append.mp hs with hs | hs
      · exact hsl s hs
      · rw [List.mem_singleton.mp hs]
        exact List.mem_map.mpr ⟨b, hbf, rfl⟩
    have hlen6 := nd_le _ _ hnd6 hsl6
    rw [List.length_append, List.length_map, List.length_singleton] at hlen6
    obtain ⟨k', rfl⟩ : ∃ k', k = k' + 1 := ⟨k - 1, by omega⟩
    refine s_app (ev_var rfl) (ev_var rfl) h5 (by rw [List.length_map]; omega) ?_
    obtain ⟨H6, hH6⟩ : ∃ H6, H6 = upd H5 sn (.lst (sl.map V.str ++ [.str b.nm])) := ⟨_, rfl⟩
    rw [← hH6]
    have E26 : Ex H2 H6 := by rw [hH6]; exact E25.mut hsn2
    have E6 : Ex H H6 := e2.trans E26
    have h6s : H6 sn = some (.lst ((sl ++ [b.nm]).map V.str)) := by rw [hH6, upd_same, List.map_append]; rfl
    obtain ⟨p1, r1, c1, c2, c3, c4⟩ := hPast.at_ (k' + 1) (by omega)
    obtain ⟨p0, r0, g1, g2', g3', g4⟩ := hPast.at_ k' (by omega)
    have hval : valV ((risen fr (lsAt fr L0 (k' + 1))).map (entP r1)) (.inr b.nm) = some (.ref (r1 b.nm)) := by
      rw [entP_G]; exact val_in (List.mem_map.mpr ⟨b, hbr, rfl⟩)
    have hrs := E6 _ _ (c4 b hbr)
    obtain ⟨Rk, Ik⟩ := hinv (k' + 1) (by omega)
    obtain ⟨Rk', Ik'⟩ := hinv k' (by omega)
    -- the way on
    have fin : ∀ (k2 : Nat) (c : Tr) (o6 o7 o8 : Option V) (H7 : Hp), Ex H6 H7 → (k2 = k' ∨ k2 = k' + 1) → c ∈ risen fr (lsAt fr L0 k2) → ∃ m', m' < fr.length - sl.length ∧ ∃ (k : Nat) (b : Tr) (sl : List Str) (o6' o7' o8' : Option V), m' = fr.length - sl.length ∧ [some (V.ref r), some (.ref nd), o2, some (.int ((k2 : Nat) : Int)), some (.str c.nm), some (.ref sn), o6, o7, o8, none] = [some (V.ref r), some (.ref nd), o2, some (.int ((k : Nat) : Int)), some (.str b.nm), some (.ref sn), o6', o7', o8', none] ∧ Ex H2 H7 ∧ H7 sn = some (.lst (sl.map V.str)) ∧ sl.Nodup ∧ (∀ s ∈ sl, s ∈ fr.map Tr.nm) ∧ n ≤ k + sl.length ∧ k ≤ n ∧ b ∈ risen fr (lsAt fr L0 k) := fun k2 c o6 o7 o8 H7 e7 hk2 hc =>
      ⟨fr.length - (sl ++ [b.nm]).length, by rw [List.length_append, List.length_singleton]; omega, k2, c, sl ++ [b.nm], o6, o7, o8, rfl, rfl, E26.trans e7, e7 _ _ h6s, hnd6, hsl6, by rw [List.length_append, List.length_singleton]; omega, by omega, hc⟩
    have hk1 : (((k' + 1 : Nat) : Int)) - 1 = ((k' : Nat) : Int) := by omega
    have step : Ev (tDGet (tOp (rIxL K) (tFld K (tVar 0) "past") (tVar 3)) (tVar 4)) [some (.ref r), some (.ref nd), o2, some (.int ((k' + 1 : Nat) : Int)), some (.str b.nm), some (.ref sn), o6, o7, o8, none] H6 (.ref (r1 b.nm)) :=
      ev_dgetS (ev_op (ev_fld (ev_var rfl) (rfld F (E6 _ _ hr) rfl (by decide))) (ev_var rfl) (rv_ixL (E6 _ _ hpl) (atI_nat c1))) (ev_var rfl) (.inl (E6 _ _ c3)) hval
    rcases ring_go n1 Ik Ik' hbr with ⟨rkk, e, p, hp, hpr⟩ | ⟨rkk, p, hpr, e⟩ | ⟨rkk, c, hcr, e⟩
    · -- parts
      rw [e] at hrs
      refine seqC (asgQ step (gT (show H6 (r1 b.nm) = some (.tup [.str "parts", .str "", .int rkk]) from hrs) rfl (g3 ?_)))
      refine nxC (s_ifN (b := !decide (("parts" : Str) = "alike")) (evt_test (ev_op (ev_var rfl) ev_c rv_neS)) (fun _ => ⟨_, rfl, _, _, rfl, rfl, ?_⟩) (fun h => absurd h (by decide)))
      refine nxC (nst (σ' := [some (.ref r), some (.ref nd), o2, some (.int ((k' : Nat) : Int)), some (.str b.nm), some (.ref sn), some (.str "parts"), some (.str ""), some (.int rkk), none]) (by rw [← hk1]; rfl) ?_)
      refine s_ifN (b := decide (("parts" : Str) = "parts")) (evt_test (ev_op (ev_var rfl) ev_c rv_eqS)) (fun _ => ?_) (fun h => absurd h (by decide))
      obtain ⟨bv, hbv, hbx⟩ := hnd2 b hbf
      obtain ⟨ba, ws, rfl, Fb, hws⟩ := (hbx.ex E6).out
      obtain ⟨pp, hp1, hp2⟩ := Fb.parts
      have hwl := hws.1
      have hfewp := (hok.wf b (hsub b hbf)).few
      obtain ⟨ns0, hns0⟩ : ∃ ns0, ns0 = (risen fr (lsAt fr L0 k')).map Tr.nm := ⟨_, rfl⟩
      refine e_asgQ (opK (lcL (xs := ws) (a := pp) (ev_fld (ev_dgetS (ev_var rfl) (ev_var rfl) (.inl (E26 _ _ h2)) hbv) hp1) hp2 (fun D i H' => Ex H6 H' ∧ H6 D = none ∧ H' D = some (.lst ((((b.ps.take i).filter fun p => decide (p.nm ∈ ns0)).map Tr.nm).map V.str))) (fun D H' e h1 h2 => ⟨e, h1, by simpa using h2⟩) (fun D i H' _ pr => pr.1 _ _ hp2) (fun D i y H7 hy pr => ?_) fun D H7 pr => ?_))
      · obtain ⟨e7, hD, h7⟩ := pr
        obtain ⟨u, hu, hyu⟩ := hws.get hy
        have hi := (List.getElem?_eq_some_iff.mp hu).1
        obtain ⟨ua, us, rfl, Fu, _⟩ := (hyu.ex e7).out
        have E7 := E6.trans e7
        refine ⟨wipe1, evt_b (b := decide (u.nm ∈ ns0)) ?_ _ ?_⟩
        · have hiss : (valV ((risen fr (lsAt fr L0 k')).map (entP r0)) (.inr u.nm)).isSome = decide (u.nm ∈ ns0) := by
            by_cases h : u.nm ∈ ns0
            · rw [entP_G, val_in (by rw [← hns0]; exact h), decide_eq_true h]; rfl
            · rw [entP_G, val_out (by rw [← hns0]; exact h), decide_eq_false h]; rfl
          rw [← hiss]
          exact ev_din (k := .inr u.nm) (ev_fld (ev_var rfl) Fu.name) (ev_op (ev_fld (ev_var rfl) (rfld F (E7 _ _ hr) rfl (by decide))) (ev_var rfl) (rv_ixL (E7 _ _ hpl) (atI_nat g1))) (.inl (E7 _ _ g3'))
        · have hstep : (b.ps.take (i + 1)).filter (fun p => decide (p.nm ∈ ns0)) = (b.ps.take i).filter (fun p => decide (p.nm ∈ ns0)) ++ if decide (u.nm ∈ ns0) = true then [u] else [] := filter_snoc hu
          by_cases h : u.nm ∈ ns0
          · rw [decide_eq_true h, if_pos rfl]
            have hfl := List.length_filter_le (fun p : Tr => decide (p.nm ∈ ns0)) (b.ps.take i)
            rw [List.length_take] at hfl
            refine (ev_fld (ev_var rfl) Fu.name) _ ⟨_, h7, by rw [List.length_map, List.length_map]; exact szl (by omega), e7.mut hD, hD, ?_⟩
            rw [upd_same, hstep, decide_eq_true h, if_pos rfl, List.map_append, List.map_append]
            rfl
          · rw [decide_eq_false h, if_neg (by decide)]
            refine ⟨e7, hD, ?_⟩
            rw [hstep, decide_eq_false h, if_neg (by decide), List.append_nil]
            exact h7
      · obtain ⟨e7, hD, h7⟩ := pr
        rw [hwl, List.take_length] at h7
        have hpin : p ∈ b.ps.filter fun p => decide (p.nm ∈ ns0) := List.mem_filter.mpr ⟨hp, decide_eq_true (by rw [hns0]; exact List.mem_map.mpr ⟨p, hpr, rfl⟩)⟩
        obtain ⟨u, rest, hul⟩ : ∃ u rest, b.ps.filter (fun p => decide (p.nm ∈ ns0)) = u :: rest := by
          cases e : b.ps.filter fun p => decide (p.nm ∈ ns0) with
          | nil => rw [e] at hpin; cases hpin
          | cons u rest => exact ⟨u, rest, rfl⟩
        rw [hul] at h7
        have hum : u ∈ b.ps.filter fun p => decide (p.nm ∈ ns0) := by rw [hul]; exact List.mem_cons_self
        obtain ⟨hup, hud⟩ := List.mem_filter.mp hum
        have hun : u.nm ∈ ns0 := of_decide_eq_true hud
        rw [hns0] at hun
        obtain ⟨c, hc, ec⟩ := List.mem_map.mp hun
        have hcu : c = u := nm_eq hok.nodup (hsub c (risen_sub c hc)) (parts_in (hsub b hbf) hup) ec
        subst hcu
        exact op_end (z := .str c.nm) ev_c (rv_ixLn (n := 0) h7 rfl) (nxC (e_asg (ev_var rfl) (fin k' c _ _ _ H7 e7 (.inl rfl) hc)))
    · -- part
      rw [e] at hrs
      refine seqC (asgQ step (gT (show H6 (r1 b.nm) = some (.tup [.str "part", .str p.nm, .int rkk]) from hrs) rfl (g3 ?_)))
      refine nxC (s_ifN (b := !decide (("part" : Str) = "alike")) (evt_test (ev_op (ev_var rfl) ev_c rv_neS)) (fun _ => ⟨_, rfl, _, _, rfl, rfl, ?_⟩) (fun h => absurd h (by decide)))
      refine nxC (nst (σ' := [some (.ref r), some (.ref nd), o2, some (.int ((k' : Nat) : Int)), some (.str b.nm), some (.ref sn), some (.str "part"), some (.str p.nm), some (.int rkk), none]) (by rw [← hk1]; rfl) ?_)
      refine s_ifN (b := decide (("part" : Str) = "parts")) (evt_test (ev_op (ev_var rfl) ev_c rv_eqS)) (fun h => absurd h (by decide)) (fun _ => ?_)
      exact e_asg (ev_var rfl) (fin k' p _ _ _ H6 (Ex.refl _) (.inl rfl) hpr)
    · -- alike
      rw [e] at hrs
      refine seqC (asgQ step (gT (show H6 (r1 b.nm) = some (.tup [.str "alike", .str c.nm, .int rkk]) from hrs) rfl (g3 ?_)))
      refine nxC (s_ifN (b := !decide (("alike" : Str) = "alike")) (evt_test (ev_op (ev_var rfl) ev_c rv_neS)) (fun h => absurd h (by decide)) (fun _ => ?_))
      refine s_ifN (b := decide (("alike" : Str) = "parts")) (evt_test (ev_op (ev_var rfl) ev_c rv_eqS)) (fun h => absurd h (by decide)) (fun _ => ?_)
      exact e_asg (ev_var rfl) (fin (k' + 1) c _ _ _ H6 (Ex.refl _) (.inr rfl) hcr)
end

section
variable {K : PySem.W.Frag}
theorem Past.ex {H H' : Hp} {ps : List V} {fr : List Tr} {L0 : Str → Int} {n : Nat} {d2 : Addr} (e : Ex H H') (h : Past H ps fr L0 n d2) : Past H' ps fr L0 n d2 := ⟨h.len, fun k hk => let ⟨pk, ra, h1, h2, h3, h4⟩ := h.at_ k hk; ⟨pk, ra, h1, h2, e _ _ h3, fun b hb => e _ _ (h4 b hb)⟩⟩
theorem RSt.grow {H0 H H' : Hp} {r : Addr} {t : Tr} {n : Nat} {L0 : Str → Int} {R : Str → Rsn} (S : RSt K H0 H r t n L0 R) (e : Ex H H') : RSt K H0 H' r t n L0 R := by
  obtain ⟨dx, d1, d2, fl, pl, xs, ps, hr, hr0, hz2, hzp, d12, flp, hfl, hxs, hLD, hPD, hpl, hPast⟩ := S.at_
  exact ⟨S.ex.trans e, ⟨dx, d1, d2, fl, pl, xs, ps, e _ _ hr, hr0, hz2, hzp, d12, flp, e _ _ hfl, hxs, hLD.ex e, hPD.ex e, e _ _ hpl, hPast.ex e⟩, S.top, S.hist⟩
def r_leasts_of (K : PySem.W.Frag) (E : XK) : TS :=
  (tSeq (tAsg (tCallR (sp_of K 9) E0 (tCons (tVar 0) tNil)) (gName 1))
    (tSeq (tAsg (StX.tMakeR 1222 (sp_Rounds_init K) E0 (tCons (tVar 1) tNil)) (gName 2))
    (tSeq (tWhile (tTest (tOp qNeDNil (tMethD [1222] "go" (sp_go K) E (tVar 2) tNil) tDNewK)) (tIfS (tTest (tOp qGt (tCB (qLen K) (tCons (tFld K (tVar 2) "past") tNil)) (tCB (qLen K) (tCons (tCallR (sp_all_boxes K 9) E0 (tCons (tVar 1) tNil)) tNil)))) (tRz 236 "names" (tCons (tCallR (sp_ring_of K) E0 (tCons (tVar 2) tNil)) tNil) E) tNext))
    (tRet (tTup (tCons (tFld K (tVar 2) "leasts") (tCons (tFld K (tVar 2) "reasons") tNil)))))))
theorem rd_leasts_of (F : KF K) : ∀ vs H Q E, sp_leasts_of K vs H Q E → r_leasts_of K E { nx := fun _ H' => Q .non H', rt := Q } (start ["tree", "box", "rounds"] vs) H := by
  rintro vs H Q E ⟨v, t, rfl, ht, hT, qT, qR, q⟩
  have hok := hT.ok
  have hdeep := hok.deep
  have hfew := hok.few
  refine s_asgQ (callQ (xs := [v]) (by trivial) ⟨v, t, rfl, ht, by omega, hok.wf, fun H1 x e1 hb => ?_⟩)
  have hb1 : BoxAt K H1 x t := hb.ex rsP_le
  refine s_asgQ ((show EvA (tCons (tVar 1) tNil) [some v, some x, none] H1 [x] from by trivial) _ fun r dx hr hdx hne => ?_)
  have e12 : Ex H1 (upd (upd H1 dx (.own r)) r (.ins 1222 dx [])) := (Ex.new hdx).trans (Ex.new (by rw [upd_ne hne.symm]; exact hr))
  refine ⟨H1, r, dx, x, t, rfl, e12, hr, upd_same, hb1, hT, fun H2 L0 R S => ⟨rfl, ?_⟩⟩
  refine nst (σ' := [some v, some x, some (.ref r)]) rfl ?_
  refine seqC ⟨fun m σ H' => ∃ (n : Nat) (R : Str → Rsn), m = t.boxes.length + 1 - n ∧ n ≤ t.boxes.length ∧ σ = [some v, some x, some (.ref r)] ∧ RSt K H1 H' r t n L0 R, ⟨_, 0, R, rfl, Nat.zero_le _, rfl, S⟩, ?_⟩
  rintro m σ H3 ⟨n, R3, rfl, hn, rfl, S3⟩
  obtain ⟨n1, _, _⟩ := ff_nodup hok.nodup
  obtain ⟨dx3, d1, d2, fl, pl, xs, ps, hr3, _⟩ := S3.at_
  refine testC (opK (rndM hr3 rfl (ev_var rfl) (vs := []) (by trivial) ⟨H1, r, t, n, L0, R3, rfl, S3, hT, by omega, fun H' d e => qT H' d (e1.trans e), fun H4 p ra S4 hp => newK_go fun z H5 e5 hz h5 => ⟨p, z, _, rfl, rfl, e5 _ _ hp, h5, b_end ?_⟩⟩))
  have S5 := S4.grow e5
  obtain ⟨dx5, d1', d2', fl', pl', xs', ps', hr5, hr0, hz2, hzp, d12, flp, hfl, hxs, hLD, hPD, hpl, hPast⟩ := S5.at_
  cases hris : risen (freeT t) (lsAt (freeT t) L0 n) with
  | nil =>
    rw [if_neg (by simp)]
    refine nxC (retC (tup_go (xs := [.ref d1', .ref d2']) (ev_cons (ev_fld (ev_var rfl) (rfld F hr5 rfl (by decide))) (ev_cons (ev_fld (ev_var rfl) (rfld F hr5 rfl (by decide))) ev_nil)) fun qa H6 e6 hqa h6 => ?_))
    have hL : lsAt (freeT t) L0 (n + 1) = lsAt (freeT t) L0 n := stayL S3.top n1 hris
    have hR : nextR (freeT t) (lsAt (freeT t) L0 n) n R3 = R3 := stayR n1 hris
    refine q H6 qa (lsAt (freeT t) L0 (n + 1)) (nextR (freeT t) (lsAt (freeT t) L0 n) n R3) (e1.trans (S5.ex.trans e6)) ⟨d1', d2', h6, hLD.ex e6, hPD.ex e6, d12⟩ ?_
    rw [hL, hR]
    refine S3.top.done fun b hb z => ?_
    have := risen_iff.mpr ⟨hb, z⟩
    rw [hris] at this
    cases this
  | cons b0 rest =>
    rw [if_pos (by simp)]
    have hne' : risen (freeT t) (lsAt (freeT t) L0 n) ≠ [] := by rw [hris]; simp
    refine ⟨fun σ' H' => ∃ m', m' < t.boxes.length + 1 - n ∧ ∃ (n : Nat) (R : Str → Rsn), m' = t.boxes.length + 1 - n ∧ n ≤ t.boxes.length ∧ σ' = [some v, some x, some (.ref r)] ∧ RSt K H1 H' r t n L0 R, fun _ _ h => h, ?_⟩
    have hpn := hPast.len
    refine ifC (testC (opQ (x := .int (ps'.length : Nat)) (ev_cb (ev_cons (ev_fld (ev_var rfl) (rfld F hr5 rfl (by decide))) ev_nil) (cv_lenL hpl)) (cbC (consC (callQ (xs := [x]) (by trivial) ⟨H1, x, t, rfl, S5.ex, hb1, by omega, hfew, fun H6 p6 xs6 e6 hn6 h6 hxs6 => nilC ⟨p6, xs6, rfl, .inl (SqL.of h6), rv_gt _ (b_end (if_end (fun h => ?_) (fun h => ?_)))⟩⟩)))))
    · have hlt : ((xs6.length : Nat) : Int) < ((ps'.length : Nat) : Int) := of_decide_eq_true h
      have hxl := hxs6.1
      refine rzC (consC (callQ (xs := [.ref r]) (by trivial) ⟨H1, r, t, n, L0, _, rfl, S5.grow e6, hT, by omega, by omega, hne', fun H7 p7 e7 => nilC (rz_end fun H' d e' => qR H' _ (e1.trans ((S5.ex.trans e6).trans (e7.trans e'))))⟩))
    · have hnlt : ¬ ((xs6.length : Nat) : Int) < ((ps'.length : Nat) : Int) := of_decide_eq_false h
      have hxl := hxs6.1
      exact ⟨t.boxes.length + 1 - (n + 1), by omega, n + 1, _, rfl, by omega, rfl, S5.grow e6⟩
theorem callRS {sp : Sp} {E : L2.St → XK} {t : TA} {σ : L2.St} {H : Hp} {Q : VK} {xs : List V} (ht : EvA t σ H xs) (h : sp xs H Q (E σ)) : tCallRS sp E t σ H Q := ht _ h
/-- leasts, or none -/
def r_law_found (K : PySem.W.Frag) : TS :=
  (tSeq (tAsg (tC .non) (gName 1))
    (tSeq (fun D σ H => tAsg (tCallRS (sp_leasts_of K) (WE (wTwo K (.ref 236) (.ref 217) (fun _ _ _ => tAsg (tC .non) (gName 1)) D)) (tCons (tVar 0) tNil)) (gName 1) D σ H)
    (tRet (tVar 1))))
theorem rd_law_found (x1 : PySem.W.exmAny K (.ref 217) [.ref 236, .ref 217] = some true) (x2 : PySem.W.exmAny K (.ref 236) [.ref 236, .ref 217] = some true) : ∀ vs H Q E, sp_law_found K vs H Q E → r_law_found K { nx := fun _ H' => Q .non H', rt := Q } (start ["_law_tree_here", "_law_found_here"] vs) H := by
  rintro vs H Q E ⟨v, t, rfl, ht, hok, hown, hgrp, qN, qF⟩
  refine s_asg ev_c (seqC ?_)
  refine asgC (callRS (xs := [v]) (by trivial) ⟨v, t, rfl, ht, ⟨hok, fun y hy => (hown y hy).1, hgrp⟩, fun H' d e => ⟨x1, fun a ha => ?_⟩, fun H' d e => ⟨x2, fun a ha => ?_⟩, fun H' qa L P e hf hl => ?_⟩)
  · exact nxC (e_ret (v := .non) (ev_var rfl) (qN H' e))
  · exact nxC (e_ret (v := .non) (ev_var rfl) (qN H' e))
  · exact nxC (e_ret (v := .ref qa) (ev_var rfl) (qF H' qa L P e hf hl))
end

section
theorem gl_names : ∀ (ps qs : List Tr), ps.length = qs.length → (∀ (i : Nat) p q, ps[i]? = some p → qs[i]? = some q → q.boxes.map Tr.nm = p.boxes.map Tr.nm) → (boxesL qs).map Tr.nm = (boxesL ps).map Tr.nm
  | [], [], _, _ => rfl
  | [], _ :: _, h, _ => by cases h
  | _ :: _, [], h, _ => by cases h
  | p :: ps, q :: qs, h, k => by
    rw [boxesL, boxesL, List.map_append, List.map_append, k 0 p q rfl rfl, gl_names ps qs (by simpa using h) fun i a b ha hb => k (i + 1) a b (by simpa using ha) (by simpa using hb)]
theorem gl_deep : ∀ (ps qs : List Tr), ps.length = qs.length → (∀ (i : Nat) p q, ps[i]? = some p → qs[i]? = some q → q.deep = p.deep) → deepL qs = deepL ps
  | [], [], _, _ => rfl
  | [], _ :: _, h, _ => by cases h
  | _ :: _, [], h, _ => by cases h
  | p :: ps, q :: qs, h, k => by
    rw [deepL, deepL, k 0 p q rfl rfl, gl_deep ps qs (by simpa using h) fun i a b ha hb => k (i + 1) a b (by simpa using ha) (by simpa using hb)]
theorem mem_fixTL {y : Tr} : ∀ {l : List Tr}, y ∈ fixT.fixTL l ↔ ∃ q ∈ l, y ∈ fixT q
  | [] => by simp [fixT.fixTL]
  | a :: r => by rw [fixT.fixTL, List.mem_append, mem_fixTL (l := r)]; simp
theorem tabled_fix (t : Tr) : ∀ w : Bool, tabled w t = (if w = true then t.boxes else fixT t).map Tr.nm := by
  induction t using Tr.ind with
  | h t ih =>
    cases t with
    | mk b ps =>
      intro w
      have key : ∀ (w : Bool) (l : List Tr), (∀ p ∈ l, ∀ w : Bool, tabled w p = (if w = true then p.boxes else fixT p).map Tr.nm) → tabled.tabledL w l = (if w = true then boxesL l else fixT.fixTL l).map Tr.nm := fun w l => by
        induction l with
        | nil => intro _; cases w <;> rfl
        | cons a r ih2 =>
          intro h
          rw [tabled.tabledL, h a List.mem_cons_self, ih2 fun p hp => h p (List.mem_cons_of_mem _ hp)]
          cases w with
          | true => rw [if_pos rfl, if_pos rfl, if_pos rfl, boxesL, List.map_append]
          | false => rw [if_neg (by decide), if_neg (by decide), if_neg (by decide), fixT.fixTL, List.map_append]
      rw [tabled, key _ ps ih]
      by_cases hk : b.kd = .table
      · rw [decide_eq_true hk, Bool.or_true, if_pos rfl, if_pos rfl, fixT, if_pos hk, Tr.boxes]
        cases w <;> rfl
      · rw [decide_eq_false hk, Bool.or_false, fixT, if_neg hk, Tr.boxes]
        cases w with
        | true => rw [if_pos rfl, if_pos rfl, if_pos rfl]; rfl
        | false => rw [if_neg (by decide), if_neg (by decide), if_neg (by decide)]; rfl
/-- what a tree grouped anew keeps -/
structure GrpOk (tb : Bool) (t t' : Tr) : Prop where
  nm : t'.nm = t.nm
  kd : t'.b.kd = t.b.kd
  names : t'.boxes.map Tr.nm = t.boxes.map Tr.nm
  deep : t'.deep = t.deep
  wf : Wf t → Wf t'
  own : ∀ y ∈ t'.boxes, 0 ≤ y.b.own ∧ y.b.own ≤ 1000000
  all : tb = true → ∀ y ∈ t'.boxes, y.b.grp = 0
  fix : ∀ y ∈ fixT t', y.b.grp = 0
theorem grp_ok (t : Tr) : ∀ tb t', Grp tb t t' → GrpOk tb t t' := by
  induction t using Tr.ind with
  | h t ih =>
    intro tb t' h
    cases h with
    | @mk _ b ps qs own grp h0 h1 h2 h3 h4 =>
      have sub : ∀ (i : Nat) p q, ps[i]? = some p → qs[i]? = some q → GrpOk (tb || decide (b.kd = .table)) p q := fun i p q hp hq => ih p (List.mem_of_getElem? hp) _ _ (h4 i p q hp hq)
      have from_ : ∀ q ∈ qs, ∃ p ∈ ps, GrpOk (tb || decide (b.kd = .table)) p q := fun q hq => by
        obtain ⟨i, hi⟩ := List.mem_iff_getElem?.mp hq
        have hl := (List.getElem?_eq_some_iff.mp hi).1
        have hp : ps[i]? = some (ps[i]'(by omega)) := List.getElem?_eq_getElem _
        exact ⟨_, List.mem_of_getElem? hp, sub i _ _ hp hi⟩
      refine ⟨rfl, rfl, ?_, ?_, fun hw x hx => ?_, fun y hy => ?_, fun e y hy => ?_, fun y hy => ?_⟩
      · rw [Tr.boxes, Tr.boxes, List.map_cons, List.map_cons, gl_names ps qs h3 fun i p q hp hq => (sub i p q hp hq).names]
        rfl
      · rw [Tr.deep, Tr.deep, gl_deep ps qs h3 fun i p q hp hq => (sub i p q hp hq).deep]
      · rw [Tr.boxes] at hx
        rcases List.mem_cons.mp hx with e | hx
        · have w := hw (.mk b ps) (self_mem _)
          subst e
          refine ⟨fun k => ?_, w.gap, fun k => ?_, ?_⟩
          · have : ps = [] := w.leaf k
            subst this
            exact List.eq_nil_of_length_eq_zero h3.symm
          · obtain ⟨a1, a2, a3, a4⟩ := w.tab k
            exact ⟨a1, a2, a3.trans h3, a4⟩
          · show qs.length ≤ 17
            rw [← h3]; exact w.few
        · obtain ⟨q, hq, hxq⟩ := mem_boxesL.mp hx
          obtain ⟨p, hp, g⟩ := from_ q hq
          exact g.wf (fun z hz => hw z (boxes_trans (parts_in (self_mem (.mk b ps)) hp) hz)) x hxq
      · rw [Tr.boxes] at hy
        rcases List.mem_cons.mp hy with e | hy
        · subst e; exact ⟨h0, h1⟩
        · obtain ⟨q, hq, hyq⟩ := mem_boxesL.mp hy
          obtain ⟨p, hp, g⟩ := from_ q hq
          exact g.own y hyq
      · rw [Tr.boxes] at hy
        rcases List.mem_cons.mp hy with e' | hy
        · subst e'; exact h2 (.inl e)
        · obtain ⟨q, hq, hyq⟩ := mem_boxesL.mp hy
          obtain ⟨p, hp, g⟩ := from_ q hq
          exact g.all (by rw [e]; rfl) y hyq
      · rw [fixT] at hy
        by_cases hk : b.kd = .table
        · rw [if_pos hk, Tr.boxes] at hy
          rcases List.mem_cons.mp hy with e' | hy
          · subst e'; exact h2 (.inr hk)
          · obtain ⟨q, hq, hyq⟩ := mem_boxesL.mp hy
            obtain ⟨p, hp, g⟩ := from_ q hq
            exact g.all (by rw [decide_eq_true hk, Bool.or_true]) y hyq
        · rw [if_neg hk] at hy
          obtain ⟨q, hq, hyq⟩ := mem_fixTL.mp hy
          obtain ⟨p, hp, g⟩ := from_ q hq
          exact g.fix y hyq
theorem grp_tree {t t' : Tr} (h : Grp false t t') (hok : TreeOk t) : TreeOk t' := by
  have g := grp_ok t false t' h
  have hl : t'.boxes.length = t.boxes.length := by
    have := congrArg List.length g.names
    rwa [List.length_map, List.length_map] at this
  refine ⟨g.wf hok.wf, by rw [g.deep]; exact hok.deep, by rw [hl]; exact hok.few, by rw [g.names]; exact hok.nodup, fun x hx => ?_⟩
  have : x.nm ∈ t.boxes.map Tr.nm := by rw [← g.names]; exact List.mem_map.mpr ⟨x, hx, rfl⟩
  obtain ⟨y, hy, e⟩ := List.mem_map.mp this
  have := hok.named y hy
  rw [e] at this
  exact this
end

section
variable {K : PySem.W.Frag}
def sp_law (K : PySem.W.Frag) : Sp := fun vs H Q _ => ∃ (a : Addr) (ns : List Int), vs = [.ref a] ∧ SqL K H a (ns.map V.int) ∧ ∀ H', Ex H H' → Q (.bl true) H'
theorem notC {t : TT} {σ : L2.St} {H : Hp} {Q : Bool → Hp → Prop} (h : t σ H fun b H1 => Q (!b) H1) : tNot t σ H Q := h
/-- a comprehension over a dict's values (the dict is locked) -/
theorem lcV {td : TE} {g : TG} {tt : TT} {te : TE} {ws : List Nat} {σ : L2.St} {H : Hp} {Q : VK} {d : Addr} {od : Obj} {kvs : List (Key × V)} (he : Ev td σ H (.ref d)) (hf : H d = some (.frz od (.dK kvs))) (Pv : Addr → Nat → Hp → Prop) (h0 : ∀ D H', Ex H H' → H D = none → H' D = some (.lst []) → Pv D 0 H') (hG : ∀ D i H, i ≤ kvs.length → Pv D i H → H d = some (.frz od (.dK kvs)))
    (hs : ∀ D (i : Nat) k v H, kvs[i]? = some (k, v) → Pv D i H → g v (wipe σ ws) H fun σ2 H2 => wipe σ2 ws = wipe σ ws ∧ tt σ2 H2 fun b H3 =>
      if b = true then te σ2 H3 fun y H4 => ∃ acc, H4 D = some (.lst acc) ∧ acc.length < sizeLine ∧ Pv D (i + 1) (upd H4 D (.lst (acc ++ [y]))) else Pv D (i + 1) H3) (hd : ∀ D H, Pv D kvs.length H → Q (.ref D) H) : tLc (iVals td) g tt te ws σ H Q :=
  he _ ⟨d, od, kvs, rfl, hf, fun D hD => lc_it walk_values (Pv D) (h0 D _ (Ex.new hD) hD upd_same) (hG D) (fun i x H1 H2 hi p hy => by
    obtain ⟨rfl, k, hk⟩ := hy
    exact hs D i k x _ hk p) (hd D)⟩
/-- isinstance of a whole number, of a truth -/
theorem ev_isiInt {tx : TE} {σ : L2.St} {H : Hp} {i : Int} (hx : Ev tx σ H (.int i)) : Ev (tCB (rIsi K) (tCons tx (tCons (tC (.ty "int")) tNil))) σ H (.bl true) :=
  ev_cb (ev_cons hx (ev_cons ev_c ev_nil)) fun Q q => ⟨_, _, .type "int", .type "int", true, rfl, .ty "int", .base (.int i), kit_ty (by decide +kernel), q⟩
theorem ev_isiIntB {tx : TE} {σ : L2.St} {H : Hp} {i : Int} (hx : Ev tx σ H (.int i)) : Ev (tCB (rIsi K) (tCons tx (tCons (tC (.ty "bool")) tNil))) σ H (.bl false) :=
  ev_cb (ev_cons hx (ev_cons ev_c ev_nil)) fun Q q => ⟨_, _, .type "int", .type "bool", false, rfl, .ty "bool", .base (.int i), kit_ty (by decide +kernel), q⟩
theorem ev_isiBool {tx : TE} {σ : L2.St} {H : Hp} {b : Bool} (hx : Ev tx σ H (.bl b)) : Ev (tCB (rIsi K) (tCons tx (tCons (tC (.ty "bool")) tNil))) σ H (.bl true) :=
  ev_cb (ev_cons hx (ev_cons ev_c ev_nil)) fun Q q => ⟨_, _, .type "bool", .type "bool", true, rfl, .ty "bool", .base (.bl b), kit_ty (by decide +kernel), q⟩
theorem HasL.lock {H : Hp} {d e : Addr} {bs : List Tr} {L : Str → Int} {od : Obj} {kvs : List (Key × V)} (h : HasL H e bs L) (hd : H d = some (.dK kvs)) : HasL (upd H d (.frz od (.dK kvs))) e bs L := by
  obtain ⟨k, h1, h2⟩ := h
  by_cases z : e = d
  · subst z
    rcases h1 with h1 | ⟨o, h1⟩
    · rw [hd] at h1
      cases h1
      exact ⟨_, .inr ⟨od, upd_same⟩, h2⟩
    · rw [hd] at h1
      cases h1
  · refine ⟨k, ?_, h2⟩
    rcases h1 with h1 | ⟨o, h1⟩
    · exact .inl (by rw [upd_ne z]; exact h1)
    · exact .inr ⟨o, by rw [upd_ne z]; exact h1⟩
/-- dicts of the same names, compared -/
theorem deq_of {H : Hp} {d e : Addr} {bs : List Tr} {L L' : Str → Int} (hn : (bs.map Tr.nm).Nodup) (h : LD H d bs L) (h' : LD H e bs L') : ∃ ks ls, H d = some (.dK ks) ∧ H e = some (.dK ls) ∧ (∀ p ∈ ks, ∃ i, p.2 = V.int i) ∧ (∀ p ∈ ls, ∃ i, p.2 = V.int i) ∧ (dEqB ks ls = true ↔ ∀ b ∈ bs, L b.nm = L' b.nm) := by
  obtain ⟨cs, h1, h2⟩ := h
  obtain ⟨cs', h1', h2'⟩ := h'
  have isI : ∀ (l : List Tr) (L : Str → Int), ∀ p ∈ l.map (entL L), ∃ i, p.2 = V.int i := fun l L p hp => by
    obtain ⟨b, _, rfl⟩ := List.mem_map.mp hp
    exact ⟨_, rfl⟩
  refine ⟨_, _, h2, h2', isI _ _, isI _ _, ?_⟩
  have hv : ∀ b ∈ bs, valV (cs'.map (entL L')) (.inr b.nm) = some (.int (L' b.nm)) := fun b hb => by
    rw [entL_G]; exact val_in (List.mem_map.mpr ⟨b, h1'.mem_iff.mpr hb, rfl⟩)
  unfold dEqB
  rw [List.length_map, List.length_map, h1.length_eq, h1'.length_eq, beq_self_eq_true, Bool.true_and, List.all_eq_true]
  constructor
  · intro z b hb
    have := z (entL L b) (List.mem_map.mpr ⟨b, h1.mem_iff.mpr hb, rfl⟩)
    have := of_decide_eq_true this
    have e : valV (cs'.map (entL L')) (.inr b.nm) = some (.int (L b.nm)) := this
    rw [hv b hb] at e
    injection e with e
    injection e with e
    exact e.symm
  · intro z p hp
    obtain ⟨b, hb, rfl⟩ := List.mem_map.mp hp
    have hb' := h1.mem_iff.mp hb
    refine decide_eq_true ?_
    show valV (cs'.map (entL L')) (.inr b.nm) = some (.int (L b.nm))
    rw [hv b hb', z b hb']
/-- a for over a tuple that an expression gives -/
def ForTK (K : PySem.W.Frag) (g : TG) (tb : TS) (D : Ends) (σ : L2.St) (v : V) (H1 : Hp) : Prop := tFor (iTup K (fun _ H Q => Q v H)) g tb D σ H1
theorem forTC {ta : TE} {g : TG} {tb : TS} {D : Ends} {σ : L2.St} {H : Hp} (h : ta σ H (ForTK K g tb D σ)) : tFor (iTup K ta) g tb D σ H := h
theorem fort_end {g : TG} {tb : TS} {D : Ends} {σ : L2.St} {H : Hp} {a : Addr} {xs : List V} (ha : H a = some (.tup xs)) (Pv : Nat → L2.St → Hp → Prop) (h0 : Pv 0 σ H) (hl : ∀ i σ H, i ≤ xs.length → Pv i σ H → H a = some (.tup xs))
    (hs : ∀ (i : Nat) x σ H, xs[i]? = some x → Pv i σ H → g x σ H fun σ2 H2 => tb { D with nx := Pv (i + 1), ct := Pv (i + 1), bk := D.nx } σ2 H2) (hd : ∀ σ H, Pv xs.length σ H → D.nx σ H) : ForTK K g tb D σ (.ref a) H :=
  forT (fun _ q => q) ha Pv h0 hl hs hd
end
/-! ### the law's own context -/
section
variable {K : PySem.W.Frag}
structure LawC (K : PySem.W.Frag) (H : Hp) (a : Addr) (ns : List Int) (v : V) (t : Tr) (fx bl d pd : Addr) (L : Str → Int) (P : Str → Rsn) : Prop where
  hns : SqL K H a (ns.map V.int)
  ht : TrAt H v t
  ok : TreeOk t
  own : ∀ y ∈ t.boxes, 0 ≤ y.b.own
  grp : ∀ y ∈ fixT t, y.b.grp = 0
  fx : H fx = some (.lst ((tabled false t).map V.str))
  bx : Bxs H bl t.boxes
  ld : LD H d t.boxes L
  pd : PD H pd t.boxes P
  lh : lhB t.boxes L P = true
variable {H H' : Hp} {a : Addr} {ns : List Int} {v : V} {t : Tr} {fx bl d pd : Addr} {L L' : Str → Int} {P P' : Str → Rsn}
theorem LawC.ex (C : LawC K H a ns v t fx bl d pd L P) (e : Ex H H') : LawC K H' a ns v t fx bl d pd L P := ⟨e.l C.hns, C.ht.ex e, C.ok, C.own, C.grp, e _ _ C.fx, C.bx.ex e, C.ld.ex e, C.pd.ex e, C.lh⟩
theorem fix_all (b : Tr) : b ∈ fixT t → ∀ z ∈ b.boxes, z ∈ fixT t := by
  induction b using Tr.ind with
  | h b ih =>
    intro hb z hz
    rw [boxes_eq] at hz
    rcases List.mem_cons.mp hz with e | hz
    · rw [e]; exact hb
    · obtain ⟨p, hp, h⟩ := mem_boxesL.mp hz
      exact ih p hp (fixT_cl hb hp) z h
theorem fix_mem (hn : (t.boxes.map Tr.nm).Nodup) {b : Tr} (hb : b ∈ t.boxes) (h : b.nm ∈ tabled false t) : b ∈ fixT t := by
  rw [tabled_fix, if_neg (by decide)] at h
  obtain ⟨c, hc, e⟩ := List.mem_map.mp h
  have := nm_eq hn (mem_ff.mpr (.inr hc)) hb e
  rw [← this]; exact hc
theorem mem_fix {b : Tr} (h : b ∈ fixT t) : b.nm ∈ tabled false t := by
  rw [tabled_fix, if_neg (by decide)]
  exact List.mem_map.mpr ⟨b, h, rfl⟩
theorem LawC.uniq (C : LawC K H a ns v t fx bl d pd L P) (h : lhB t.boxes L' P' = true) : ∀ b ∈ t.boxes, L' b.nm = L b.nm :=
  least_uniq C.bx.cl (fun b hb => (C.ok.wf b hb).leaf) C.own (fun b hb k y hy => by
    have hf : b ∈ fixT t := (mem_ff.mp hb).resolve_left fun z => free_kd b z k
    have := fix_all b hf y hy
    exact ⟨mem_ff.mpr (.inr this), C.grp y this⟩) h C.lh
theorem LawC.least (C : LawC K H a ns v t fx bl d pd L P) (h : holdB t.boxes L' = true) (hf : ∀ b ∈ t.boxes, b.nm ∈ tabled false t → L' b.nm = L b.nm) : ∀ b ∈ t.boxes, L b.nm ≤ L' b.nm :=
  least_min C.bx.cl (fun b hb => (C.ok.wf b hb).leaf) C.own C.lh h fun b hb k => hf b hb (mem_fix ((mem_ff.mp hb).resolve_left fun z => free_kd b z k))
theorem ev_at1 {σ : L2.St} (h0 : σ[0]? = some (some (.ref a))) (h : SqL K H a (ns.map V.int)) : Ev (tCallR (sp_law_at K) E0 (tCons (tVar 0) (tCons (tC (.int 1)) tNil))) σ H (.int (atS ns 1)) := fun Q q => callQ (xs := [.ref a, .int 1]) (ev_cons (ev_var h0) (ev_cons ev_c ev_nil)) ⟨a, ns, 1, rfl, h, q⟩
/-- a dict's leasts: ours, or not ours -/
theorem ld_case (h : LD H d t.boxes L') : ∃ L'', LD H d t.boxes L'' ∧ (∀ b ∈ t.boxes, L'' b.nm = L' b.nm) ∧ (L'' = L ∨ ¬ ∀ b ∈ t.boxes, L'' b.nm = L b.nm) := by
  by_cases z : ∀ b ∈ t.boxes, L b.nm = L' b.nm
  · exact ⟨L, h.congr z, z, .inl rfl⟩
  · exact ⟨L', h, fun _ _ => rfl, .inr fun w => z fun b hb => (w b hb).symm⟩
theorem LawC.tell (C : LawC K H a ns v t fx bl d pd L P) (h : L' = L ∨ ¬ ∀ b ∈ t.boxes, L' b.nm = L b.nm) : lhB t.boxes L' P = true ↔ ∀ b ∈ t.boxes, L' b.nm = L b.nm := by
  refine ⟨C.uniq, fun z => ?_⟩
  rcases h with h | h
  · rw [h]; exact C.lh
  · exact absurd z h
end

section
variable {K : PySem.W.Frag}
variable {H H' : Hp} {a : Addr} {ns : List Int} {v : V} {t : Tr} {fx bl d pd : Addr} {L L' : Str → Int} {P P' : Str → Rsn}
def lawBody (K : PySem.W.Frag) : TS := (tSeq (tAsg (tCallR (sp_law_other K) E0 (tCons (tVar 3) (tCons (tVar 5) (tCons (tOp qAdd (tCallR (sp_law_at K) E0 (tCons (tVar 0) (tCons (tC (.int 1)) tNil))) (tOp qMul (tC (.int 7)) (tVar 7))) (tCons (tVar 2) tNil))))) (gName 8))
    (tSeq (tIfS (tB (tCallR (sp_law_holds K) E0 (tCons (tVar 3) (tCons (tVar 8) tNil)))) (tSeq (tIfS (tB (tCB (rAny K) (tCons (tLockE (tLc (iKeys (tVar 5)) (gName 15) tYes (tOp qLt (tDGet (tVar 8) (tVar 15)) (tDGet (tVar 5) (tVar 15))) [15])) tNil))) (tRet (tC (.bl false))) tNext)
    (tSeq (tAsg (tCallR (sp_leasts_hold K) E0 (tCons (tVar 1) (tCons (tCB qDictD (tCons (tVar 8) tNil)) (tCons (tCB qDictD (tCons (tVar 6) tNil)) tNil)))) (gName 9))
    (tIfS (tOr (tNot (tB (tCB (rIsi K) (tCons (tVar 9) (tCons (tC (.ty "bool")) tNil))))) (tTest (tOp rNe (tVar 9) (tOp qEqDI (tVar 8) (tVar 5))))) (tRet (tC (.bl false))) tNext))) tNext)
    (tSeq (tAsg (tCallR (sp_law_lifted K) E0 (tCons (tVar 3) (tCons (tVar 5) (tCons (tOp qAdd (tC (.int 1)) (tOp qMod (tCallR (sp_law_at K) E0 (tCons (tVar 0) (tCons (tC (.int 1)) tNil))) (tC (.int 3)))) (tCons (tOp qAdd (tC (.int 1)) (tOp qMul (tVar 7) (tC (.int 6)))) tNil))))) (gName 8))
    (tSeq (tAsg (tCallR (sp_law_lowered K) E0 (tCons (tVar 3) (tCons (tVar 5) (tCons (tOp qAdd (tCallR (sp_law_at K) E0 (tCons (tVar 0) (tCons (tC (.int 1)) tNil))) (tVar 7)) tNil)))) (gName 10))
    (tSeq (tAsg (tCallR (sp_law_matched K) E0 (tCons (tVar 3) (tCons (tVar 5) (tCons (tOp qAdd (tCallR (sp_law_at K) E0 (tCons (tVar 0) (tCons (tC (.int 1)) tNil))) (tVar 7)) (tCons (tVar 2) tNil))))) (gName 11))
    (tFor (iTup K (tTup (tCons (tVar 8) (tCons (tVar 5) (tCons (tVar 10) (tCons (tVar 11) tNil)))))) (gName 12) (tSeq (tAsg (tCallR (sp_leasts_hold K) E0 (tCons (tVar 1) (tCons (tCB qDictD (tCons (tVar 12) tNil)) (tCons (tCallR (sp_law_forged K) E0 (tCons (tVar 3) (tCons (tVar 12) (tCons (tOp qAdd (tCallR (sp_law_at K) E0 (tCons (tVar 0) (tCons (tC (.int 1)) tNil))) (tVar 7)) tNil)))) tNil)))) (gName 9))
    (tIfS (tOr (tNot (tB (tCB (rIsi K) (tCons (tVar 9) (tCons (tC (.ty "bool")) tNil))))) (tAnd (tB (tVar 9)) (tTest (tOp qNeDI (tVar 12) (tVar 5))))) (tRet (tC (.bl false))) tNext))))))))
theorem LawC.hold_go (C : LawC K H a ns v t fx bl d pd L P) {σ : L2.St} {e : Addr} {p' : Addr} {Q : VK} {j k : Nat} (g1 : σ[1]? = some (some v)) (gj : σ[j]? = some (some (.ref e))) (gk : σ[k]? = some (some (.ref p'))) (hL : LD H e t.boxes L') (hP : PD H p' t.boxes P')
    (q : ∀ H', Ex H H' → Q (.bl (lhB t.boxes L' P')) H') : tCallR (sp_leasts_hold K) E0 (tCons (tVar 1) (tCons (tCB qDictD (tCons (tVar j) tNil)) (tCons (tCB qDictD (tCons (tVar k) tNil)) tNil))) σ H Q :=
  callC (consQ (x := v) (ev_var g1) (consC (cbQ (xs := [.ref e]) (ev_cons (ev_var gj) ev_nil) (dictD_go hL fun d2 H2 e2 _ hL2 => consC (cbQ (xs := [.ref p']) (ev_cons (ev_var gk) ev_nil) (dictP_go (hP.ex e2) fun p2 H3 e3 _ hP3 => nilC ⟨v, d2, p2, t, L', P', rfl, C.ht.ex (e2.trans e3), C.ok, (hL2.ex e3).has, hP3.hasP, fun H4 e4 => q H4 (e2.trans (e3.trans e4))⟩))))))
theorem law_body (C : LawC K H a ns v t fx bl d pd L P) (q : V) (k : Int) (o8 o9 o10 o11 o12 : Option V) (D : Ends)
    (go : ∀ H' o8 o9 o10 o11 o12, Ex H H' → D.nx [some (.ref a), some v, some (.ref fx), some (.ref bl), some q, some (.ref d), some (.ref pd), some (.int k), o8, o9, o10, o11, o12, none, none, none] H') :
    lawBody K D [some (.ref a), some v, some (.ref fx), some (.ref bl), some q, some (.ref d), some (.ref pd), some (.int k), o8, o9, o10, o11, o12, none, none, none] H := by
  have hnd := C.ok.nodup
  have hfew := C.ok.few
  refine s_asgQ (callQ (xs := [.ref bl, .ref d, .int (atS ns 1 + 7 * k), .ref fx]) (ev_cons (ev_var rfl) (ev_cons (ev_var rfl) (ev_cons (ev_op (ev_at1 rfl C.hns) (ev_op ev_c (ev_var rfl) (rv_mul (.inl ⟨by decide, by decide⟩))) rv_add) (ev_cons (ev_var rfl) ev_nil)))) ⟨bl, d, fx, _, t.boxes, L, tabled false t, rfl, C.bx, C.ld, (lh_of C.lh).1, C.fx, fun b hb h => ?_, fun H1 p L0 e1 hp0 hfix0 => ?_⟩)
  · have hf := fix_mem hnd hb h
    exact ⟨C.grp b hf, fun y hy => mem_fix (fixT_cl hf hy)⟩
  obtain ⟨L1, hp1, hL1, hcase⟩ := ld_case (L := L) hp0
  have hfix : ∀ b ∈ t.boxes, b.nm ∈ tabled false t → L1 b.nm = L b.nm := fun b hb h => (hL1 b hb).trans (hfix0 b hb h)
  have C1 := C.ex e1
  -- the second half
  have part2 : ∀ H2 o9, Ex H1 H2 → (tSeq (tAsg (tCallR (sp_law_lifted K) E0 (tCons (tVar 3) (tCons (tVar 5) (tCons (tOp qAdd (tC (.int 1)) (tOp qMod (tCallR (sp_law_at K) E0 (tCons (tVar 0) (tCons (tC (.int 1)) tNil))) (tC (.int 3)))) (tCons (tOp qAdd (tC (.int 1)) (tOp qMul (tVar 7) (tC (.int 6)))) tNil))))) (gName 8))
    (tSeq (tAsg (tCallR (sp_law_lowered K) E0 (tCons (tVar 3) (tCons (tVar 5) (tCons (tOp qAdd (tCallR (sp_law_at K) E0 (tCons (tVar 0) (tCons (tC (.int 1)) tNil))) (tVar 7)) tNil)))) (gName 10))
    (tSeq (tAsg (tCallR (sp_law_matched K) E0 (tCons (tVar 3) (tCons (tVar 5) (tCons (tOp qAdd (tCallR (sp_law_at K) E0 (tCons (tVar 0) (tCons (tC (.int 1)) tNil))) (tVar 7)) (tCons (tVar 2) tNil))))) (gName 11))
    (tFor (iTup K (tTup (tCons (tVar 8) (tCons (tVar 5) (tCons (tVar 10) (tCons (tVar 11) tNil)))))) (gName 12) (tSeq (tAsg (tCallR (sp_leasts_hold K) E0 (tCons (tVar 1) (tCons (tCB qDictD (tCons (tVar 12) tNil)) (tCons (tCallR (sp_law_forged K) E0 (tCons (tVar 3) (tCons (tVar 12) (tCons (tOp qAdd (tCallR (sp_law_at K) E0 (tCons (tVar 0) (tCons (tC (.int 1)) tNil))) (tVar 7)) tNil)))) tNil)))) (gName 9))
    (tIfS (tOr (tNot (tB (tCB (rIsi K) (tCons (tVar 9) (tCons (tC (.ty "bool")) tNil))))) (tAnd (tB (tVar 9)) (tTest (tOp qNeDI (tVar 12) (tVar 5))))) (tRet (tC (.bl false))) tNext)))))) D [some (.ref a), some v, some (.ref fx), some (.ref bl), some q, some (.ref d), some (.ref pd), some (.int k), some (.ref p), o9, o10, o11, o12, none, none, none] H2 := by
    intro H2 o9 e2
    have C2 := C1.ex e2
    refine s_asgQ (callQ (xs := [.ref bl, .ref d, .int (1 + atS ns 1 % 3), .int (1 + k * 6)]) (ev_cons (ev_var rfl) (ev_cons (ev_var rfl) (ev_cons (ev_op ev_c (ev_op (ev_at1 rfl C2.hns) ev_c (rv_mod (by omega))) rv_add) (ev_cons (ev_op ev_c (ev_op (ev_var rfl) ev_c (rv_mul (.inr ⟨by decide, by decide⟩))) rv_add) ev_nil)))) ⟨bl, d, _, _, t.boxes, L, rfl, C2.bx, C2.ld, fun H3 p3 L3 e3 h3 => ?_⟩)
    have C3 := C2.ex e3
    refine s_asgQ (callQ (xs := [.ref bl, .ref d, .int (atS ns 1 + k)]) (ev_cons (ev_var rfl) (ev_cons (ev_var rfl) (ev_cons (ev_op (ev_at1 rfl C3.hns) (ev_var rfl) rv_add) ev_nil))) ⟨bl, d, _, t.boxes, L, rfl, C3.bx, C3.ld, fun H4 p4 L4 e4 h4 => ?_⟩)
    have C4 := C3.ex e4
    refine s_asgQ (callQ (xs := [.ref bl, .ref d, .int (atS ns 1 + k), .ref fx]) (ev_cons (ev_var rfl) (ev_cons (ev_var rfl) (ev_cons (ev_op (ev_at1 rfl C4.hns) (ev_var rfl) rv_add) (ev_cons (ev_var rfl) ev_nil)))) ⟨bl, d, fx, _, t.boxes, L, tabled false t, rfl, C4.bx, C4.ld, C4.fx, fun H5 p5 L5 e5 h5 => ?_⟩)
    have C5 := C4.ex e5
    refine forTC (tup_go (xs := [.ref p3, .ref d, .ref p4, .ref p5]) (by trivial) fun T H6 e6 _ hT => ?_)
    have C6 := C5.ex e6
    have all : ∀ x ∈ [V.ref p3, .ref d, .ref p4, .ref p5], ∃ (e : Addr) (L7 : Str → Int), x = .ref e ∧ LD H6 e t.boxes L7 := fun x hx => by
      rcases List.mem_cons.mp hx with rfl | hx
      · exact ⟨p3, L3, rfl, h3.ex (e4.trans (e5.trans e6))⟩
      rcases List.mem_cons.mp hx with rfl | hx
      · exact ⟨d, L, rfl, C6.ld⟩
      rcases List.mem_cons.mp hx with rfl | hx
      · exact ⟨p4, L4, rfl, h4.ex (e5.trans e6)⟩
      rcases List.mem_cons.mp hx with rfl | hx
      · exact ⟨p5, L5, rfl, h5.ex e6⟩
      cases hx
    refine fort_end hT (fun i σ H' => ∃ (o9 o12 : Option V), σ = [some (.ref a), some v, some (.ref fx), some (.ref bl), some q, some (.ref d), some (.ref pd), some (.int k), some (.ref p3), o9, some (.ref p4), some (.ref p5), o12, none, none, none] ∧ Ex H6 H') ⟨o9, o12, rfl, Ex.refl _⟩ (fun i σ H' _ pr => let ⟨_, _, _, e⟩ := pr; e _ _ hT) (fun i x σ H7 hx pr => ?_) fun σ H7 pr => ?_
    · obtain ⟨o9, o12, rfl, e7⟩ := pr
      obtain ⟨e, L0, rfl, hL0⟩ := all x (List.mem_of_getElem? hx)
      obtain ⟨L7, hL7, _, hc7⟩ := ld_case (L := L) (hL0.ex e7)
      have C7 := C6.ex e7
      refine gN (nst (σ' := [some (.ref a), some v, some (.ref fx), some (.ref bl), some q, some (.ref d), some (.ref pd), some (.int k), some (.ref p3), o9, some (.ref p4), some (.ref p5), some (.ref e), none, none, none]) rfl ?_)
      refine s_asgQ (callC (consQ (x := v) (ev_var rfl) (consC (cbQ (xs := [.ref e]) (ev_cons (ev_var rfl) ev_nil) (dictD_go hL7 fun d2 H8 e8 _ hL8 => consC (callQ (xs := [.ref bl, .ref e, .int (atS ns 1 + k)]) (ev_cons (ev_var rfl) (ev_cons (ev_var rfl) (ev_cons (ev_op (ev_at1 rfl (C7.ex e8).hns) (ev_var rfl) rv_add) ev_nil))) ⟨bl, e, _, t.boxes, L7, rfl, (C7.ex e8).bx, hL7.ex e8, fun H9 p9 P9 e9 hP9 => nilC ⟨v, d2, p9, t, L7, P9, rfl, (C7.ex (e8.trans e9)).ht, C.ok, (hL8.ex e9).has, hP9.hasP, fun H10 e10 => ?_⟩⟩))))))
      have e710 := e8.trans (e9.trans e10)
      have C10 := C7.ex e710
      refine ifC (orC (notC (bC (ev_isiBool (ev_var rfl) _ (b_end (or_end (fun h => by cases h) fun _ => ?_))))))
      obtain ⟨ks, ls, hks, hls, ki, li, hiff⟩ := deq_of hnd (hL7.ex e710) C10.ld
      refine (evt_and (b := lhB t.boxes L7 P9) (c := !dEqB ks ls) (evt_b (ev_var rfl)) (fun _ => evt_test (ev_op (ev_var rfl) (ev_var rfl) fun Q q => ⟨e, d, ks, ls, rfl, rfl, hks, hls, ki, li, q⟩))) _ (if_end (fun h => ?_) (fun h => ⟨_, _, rfl, e7.trans e710⟩))
      have h1 := Bool.and_eq_true_iff.mp h
      have h2 := hiff.mpr (C7.uniq h1.1)
      rw [h2] at h1
      cases h1.2
    · obtain ⟨o9, o12, rfl, e7⟩ := pr
      exact go H7 _ _ _ _ _ (e1.trans (e2.trans (e3.trans (e4.trans (e5.trans (e6.trans e7))))))
  refine nst (σ' := [some (.ref a), some v, some (.ref fx), some (.ref bl), some q, some (.ref d), some (.ref pd), some (.int k), some (.ref p), o9, o10, o11, o12, none, none, none]) rfl ?_
  refine seqC (ifC (bC (callQ (xs := [.ref bl, .ref p]) (by trivial) ⟨bl, p, t.boxes, L1, rfl, C1.bx, hp1.has, fun H2 e2 => b_end (if_end (fun hh => ?_) (fun hh => nxC (part2 H2 _ e2)))⟩)))
  have C2 := C1.ex e2
  obtain ⟨cs, hcs, hcd⟩ := C2.ld
  -- none is below
  refine seqC (ifC (bC (cbC (consC ⟨d, .dK (cs.map (entL L)), hcd, trivial, fun od => ?_⟩))))
  obtain ⟨H3, hH3⟩ : ∃ H3, H3 = upd H2 d (.frz od (.dK (cs.map (entL L)))) := ⟨_, rfl⟩
  rw [← hH3]
  have h3d : H3 d = some (.frz od (.dK (cs.map (entL L)))) := by rw [hH3]; exact upd_same
  have hL3 : HasL H3 d t.boxes L := by rw [hH3]; exact C2.ld.has.lock hcd
  have hp3 : HasL H3 p t.boxes L1 := by rw [hH3]; exact (hp1.ex e2).has.lock hcd
  have hmin := C2.least hh hfix
  refine lcK (ev_var rfl) h3d (fun G i H' => Ex H3 H' ∧ H3 G = none ∧ ∃ ms : List Bool, H' G = some (.lst (ms.map V.bl)) ∧ ms.length ≤ i ∧ ∀ m ∈ ms, m = false) (fun G H' e h1 h2 => ⟨e, h1, [], h2, Nat.le_refl _, fun m hm => by cases hm⟩) (fun G i H' _ pr => pr.1 _ _ h3d) (fun G i k' kv H6 hk pr => ?_) fun G H5 pr => ?_
  · have hi : i < (cs.map (entL L)).length := (List.getElem?_eq_some_iff.mp hk).1
    obtain ⟨e5, hG, ms, hms, hml, hmf⟩ := pr
    rw [List.getElem?_map] at hk
    obtain ⟨cb, hcb, hce⟩ := Option.map_eq_some_iff.mp hk
    have hkk : k' = .inr cb.nm := (congrArg Prod.fst hce).symm
    subst hkk
    have hcm := hcs.mem_iff.mp (List.mem_of_getElem? hcb)
    have hcl := hcs.length_eq
    rw [List.length_map] at hi
    refine ⟨wipe1, ?_⟩
    refine yesC ((ev_op (ev_has (ev_var rfl) (ev_var (v := .str cb.nm) rfl) ((hp3.ex e5).at hcm)) (ev_has (ev_var rfl) (ev_var (v := .str cb.nm) rfl) ((hL3.ex e5).at hcm)) rv_lt : Ev _ _ _ (.bl (decide (L1 cb.nm < L cb.nm)))) _ ?_)
    refine ⟨_, hms, szl (by simp; omega), e5.mut hG, hG, ms ++ [decide (L1 cb.nm < L cb.nm)], by rw [upd_same]; simp, by simp; omega, fun m hm => ?_⟩
    rcases List.mem_append.mp hm with hm | hm
    · exact hmf m hm
    · rw [List.mem_singleton.mp hm]
      have := hmin cb hcm
      exact decide_eq_false (by omega)
  obtain ⟨e5, hG, ms, hms, hml, hmf⟩ := pr
  refine ⟨e5 _ _ h3d, nilC ?_⟩
  have hGd : G ≠ d := ne_of hms (e5 _ _ h3d) (fun z => by cases z)
  obtain ⟨H6, hH6⟩ : ∃ H6, H6 = upd H5 d (.dK (cs.map (entL L))) := ⟨_, rfl⟩
  rw [← hH6]
  have e26 : Ex H2 H6 := by rw [hH6]; exact unlock (by rw [← hH3]; exact e5) hcd
  have h6G : H6 G = some (.lst (ms.map V.bl)) := by rw [hH6, upd_ne hGd]; exact hms
  refine cv_any h6G _ (b_end (if_end (fun h => ?_) (fun _ => ?_)))
  · obtain ⟨m, hm, h⟩ := List.any_eq_true.mp h
    rw [hmf m hm] at h
    cases h
  have C6 := C2.ex e26
  have hp6 := hp1.ex (e2.trans e26)
  refine nxC (s_asgQ (C6.hold_go rfl rfl rfl hp6 C6.pd fun H7 e7 => ?_))
  have C7 := C6.ex e7
  refine ifC (orC (notC (bC (ev_isiBool (ev_var rfl) _ (b_end (or_end (fun h => by cases h) fun _ => ?_))))))
  obtain ⟨ks, ls, hks, hls, ki, li, hiff⟩ := deq_of hnd (hp6.ex e7) C7.ld
  have heq : lhB t.boxes L1 P = dEqB ks ls := Bool.eq_iff_iff.mpr ((C7.tell hcase).trans hiff.symm)
  refine (evt_test (ev_op (ev_var rfl) (ev_op (ev_var rfl) (ev_var rfl) fun Q q => ⟨p, d, ks, ls, rfl, rfl, hks, hls, ki, li, q⟩) rv_neB) : EvT _ _ _ (!decide (lhB t.boxes L1 P = dEqB ks ls))) _ (if_end (fun h => ?_) (fun _ => nxC (part2 H7 _ (e2.trans (e26.trans e7)))))
  rw [heq] at h
  simp at h
end

section
variable {K : PySem.W.Frag}
theorem rd_law : ∀ vs H Q E, sp_law K vs H Q E → r_law K { nx := fun _ H' => Q .non H', rt := Q } (start ["_law_script", "_law_tree_here", "_law_fixed", "_law_boxes_here", "_law_found_here", "_law_leasts", "_law_paper", "_law_k", "_law_other_here", "_law_told", "_law_lowered_here", "_law_matched_here", "_law_some", "_law_one", "_law_box", "_law_name"] vs) H := by
  rintro vs H Q E ⟨a, ns, rfl, hns, q⟩
  refine s_asgQ (callC (consC (callQ (xs := [.ref a, .int 2, .int 16]) (by trivial) ⟨a, ns, rfl, hns, fun H1 v0 t0 e1 ht0 hok0 => evA_go (xs := [.ref a, .int 1, .bl false]) (by trivial) ⟨a, ns, v0, t0, false, rfl, e1.l hns, ht0, by have := hok0.deep; omega, fun x hx => ⟨(hok0.wf x hx).few, (hok0.named x hx).2⟩, fun H2 v t e2 ht hg => ?_⟩⟩)))
  have hok := grp_tree hg hok0
  have g := grp_ok _ _ _ hg
  have hfew := hok.few
  have hnd := hok.nodup
  have e02 := e1.trans e2
  refine s_asgQ (callQ (xs := [v, .bl false]) (by trivial) ⟨v, t, false, rfl, ht, by have := hok.deep; omega, hfew, fun H3 fx e3 hfx => ?_⟩)
  refine s_asgQ (callQ (xs := [v]) (by trivial) ⟨v, t, rfl, ht.ex e3, hfew, fun H4 bl xs e4 hbl hxs => ?_⟩)
  have hpos : 0 < t.boxes.length := by rw [boxes_eq]; simp
  have hB : Bxs H4 bl t.boxes := ⟨⟨xs, hbl, hxs⟩, fun b hb p hp => parts_in hb hp, hok.wf, hfew, hpos, hnd⟩
  refine s_asgQ (callQ (xs := [v]) (by trivial) ⟨v, t, rfl, ht.ex (e3.trans e4), hok, g.own, g.fix, fun H5 e5 => ?_, fun H5 qa L P e5 hF hlh => ?_⟩)
  · refine seqC (ifC ((evt_test (ev_op (ev_var rfl) ev_c rv_isN) : EvT _ _ _ true) _ (if_end (fun _ => ?_) (fun h => by cases h))))
    exact retC (ev_c _ (q _ (e02.trans (e3.trans (e4.trans e5)))))
  refine seqC (ifC ((evt_test (ev_op (ev_var rfl) ev_c rv_isN) : EvT _ _ _ false) _ (if_end (fun h => by cases h) (fun _ => nxC ?_))))
  obtain ⟨d, pd, hqa, hLD, hPD, hne⟩ := hF
  have C5 : LawC K H5 a ns v t fx bl d pd L P := ⟨(e02.trans (e3.trans (e4.trans e5))).l hns, ht.ex (e3.trans (e4.trans e5)), hok, fun y hy => (g.own y hy).1, g.fix, (e4.trans e5) _ _ hfx, hB.ex e5, hLD, hPD, hlh⟩
  have e05 := e02.trans (e3.trans (e4.trans e5))
  refine seqC (asgQ (x := .ref qa) (ev_var rfl) (gT hqa rfl (g2 (nxC ?_))))
  refine nst (σ' := [some (.ref a), some v, some (.ref fx), some (.ref bl), some (.ref qa), some (.ref d), some (.ref pd), none, none, none, none, none, none, none, none, none]) rfl ?_
  obtain ⟨cs, hcs, hcd⟩ := C5.ld
  have hcl := hcs.length_eq
  -- all are whole numbers
  refine seqC (ifC (notC (bC (cbC (consC ⟨d, .dK (cs.map (entL L)), hcd, trivial, fun od => ?_⟩)))))
  obtain ⟨H6, hH6⟩ : ∃ H6, H6 = upd H5 d (.frz od (.dK (cs.map (entL L)))) := ⟨_, rfl⟩
  rw [← hH6]
  have h6d : H6 d = some (.frz od (.dK (cs.map (entL L)))) := by rw [hH6]; exact upd_same
  refine lcV (ev_var rfl) h6d (fun G i H' => Ex H6 H' ∧ H6 G = none ∧ ∃ ms : List Bool, H' G = some (.lst (ms.map V.bl)) ∧ ms.length ≤ i ∧ ∀ m ∈ ms, m = true) (fun G H' e h1 h2 => ⟨e, h1, [], h2, Nat.le_refl _, fun m hm => by cases hm⟩) (fun G i H' _ pr => pr.1 _ _ h6d) (fun G i k' kv H7 hk pr => ?_) fun G H7 pr => ?_
  · have hi : i < (cs.map (entL L)).length := (List.getElem?_eq_some_iff.mp hk).1
    obtain ⟨e7, hG, ms, hms, hml, hmf⟩ := pr
    rw [List.getElem?_map] at hk
    obtain ⟨cb, hcb, hce⟩ := Option.map_eq_some_iff.mp hk
    have hkk : kv = .int (L cb.nm) := (congrArg Prod.snd hce).symm
    subst hkk
    rw [List.length_map] at hi
    refine ⟨wipe1, ?_⟩
    refine yesC (ev_andV (b := true) (c := true) (ev_isiInt (i := L cb.nm) (ev_var rfl)) (fun _ => ev_notV (b := false) (ev_isiIntB (i := L cb.nm) (ev_var rfl))) _ ?_)
    refine ⟨_, hms, szl (by simp; omega), e7.mut hG, hG, ms ++ [true], by rw [upd_same]; simp, by simp; omega, fun m hm => ?_⟩
    rcases List.mem_append.mp hm with hm | hm
    · exact hmf m hm
    · exact List.mem_singleton.mp hm
  obtain ⟨e7, hG, ms, hms, hml, hmf⟩ := pr
  refine ⟨e7 _ _ h6d, nilC ?_⟩
  have hGd : G ≠ d := ne_of hms (e7 _ _ h6d) (fun z => by cases z)
  obtain ⟨H8, hH8⟩ : ∃ H8, H8 = upd H7 d (.dK (cs.map (entL L))) := ⟨_, rfl⟩
  rw [← hH8]
  have e58 : Ex H5 H8 := by rw [hH8]; exact unlock (by rw [← hH6]; exact e7) hcd
  have h8G : H8 G = some (.lst (ms.map V.bl)) := by rw [hH8, upd_ne hGd]; exact hms
  have hall : ms.all id = true := List.all_eq_true.mpr fun m hm => by rw [hmf m hm]; rfl
  refine cv_all h8G _ (b_end (if_end (fun h => by rw [hall] at h; cases h) (fun _ => nxC ?_)))
  have C8 := C5.ex e58
  obtain ⟨xs8, hbl8, hxs8⟩ := C8.bx.at_
  have hl8 := hxs8.1
  -- the names
  refine seqC (ifC (orC (testC (opC (cbQ (xs := [.ref d]) (by trivial) (sortedD_go C8.ld hfew fun ys p H9 e9 _ hp hperm hsort => ?_))))))
  refine cbC (consC (lcLq (f := (t.boxes.map Tr.nm).map V.str) (ev_var rfl) (e9 _ _ hbl8) (by simp [hl8]) (by omega) (fun i x H' e hx y hy => ?_) fun D H10 e10 _ hD => nilC ⟨D, t.boxes.map Tr.nm, rfl, SqL.of hD, by rw [List.length_map]; omega, fun zs r hzp hzs hr => ?_⟩))
  · obtain ⟨b, hbi, hby⟩ := hxs8.get hx
    have : y = .str b.nm := by
      rw [List.getElem?_map, List.getElem?_map, hbi] at hy
      exact (Option.some.inj hy).symm
    subst this
    exact (tr_ev (K := K) (k := 14) (hby.ex (e9.trans e)) rfl).1
  have hyz : zs = ys := sortedS_uniq (hzp.trans hperm.symm) hzs hsort
  subst hyz
  obtain ⟨H11, hH11⟩ : ∃ H11, H11 = upd H10 r (.lst (zs.map V.str)) := ⟨_, rfl⟩
  rw [← hH11]
  have e1011 : Ex H10 H11 := by rw [hH11]; exact Ex.new hr
  have h11r : H11 r = some (.lst (zs.map V.str)) := by rw [hH11]; exact upd_same
  have e811 := e9.trans (e10.trans e1011)
  have C11 := C8.ex e811
  refine ⟨p, r, zs, rfl, rfl, SqL.of ((e10.trans e1011) _ _ hp), SqL.of h11r, b_end (or_end (fun h => by cases h) fun _ => ?_)⟩
  refine testC (opC (cbQ (xs := [.ref pd]) (by trivial) (sortedP_go C11.pd hfew fun ys1 p1 H12 e12 _ hp1 hperm1 hsort1 => ?_)))
  refine cbQ (xs := [.ref d]) (by trivial) (sortedD_go (C11.ld.ex e12) hfew fun ys2 p2 H13 e13 _ hp2 hperm2 hsort2 => ?_)
  have hy12 : ys2 = ys1 := sortedS_uniq (hperm2.trans hperm1.symm) hsort2 hsort1
  subst hy12
  refine ⟨p1, p2, ys2, rfl, rfl, SqL.of (e13 _ _ hp1), SqL.of hp2, b_end (if_end (fun h => by cases h) fun _ => nxC ?_)⟩
  have C13 := C11.ex (e12.trans e13)
  -- they hold
  refine seqC (ifC (orC (notC (bC (callQ (xs := [.ref bl, .ref d]) (by trivial) ⟨bl, d, t.boxes, L, rfl, C13.bx, C13.ld.has, fun H14 e14 => b_end (or_end (fun h => ?_) fun _ => ?_)⟩)))))
  · rw [(lh_of hlh).1] at h
    cases h
  have C14 := C13.ex e14
  refine testC (opK (C14.hold_go rfl rfl rfl C14.ld C14.pd fun H15 e15 => op_end (y := .bl true) ev_c rv_notB (b_end (if_end (fun h => ?_) (fun _ => nxC ?_)))))
  · rw [hlh] at h
    simp at h
  have C15 := C14.ex e15
  refine seqC (ifC (notC (bC (callQ (xs := [v, .ref d, .ref pd, .int (atS ns 1)]) (ev_cons (ev_var rfl) (ev_cons (ev_var rfl) (ev_cons (ev_var rfl) (ev_cons (ev_at1 rfl C15.hns) ev_nil)))) ⟨v, d, pd, _, t, L, P, rfl, C15.ht, C15.ok, C15.ld, C15.pd, hlh, fun H16 e16 => b_end (if_end (fun h => by cases h) (fun _ => nxC ?_))⟩))))
  have C16 := C15.ex e16
  have e016 : Ex H H16 := e05.trans (e58.trans (e811.trans ((e12.trans e13).trans (e14.trans (e15.trans e16)))))
  refine seqC (forTC (tup_go (xs := [.int 0, .int 1]) (by trivial) fun T H17 e17 _ hT => fort_end hT (fun i σ H' => ∃ (o7 o8 o9 o10 o11 o12 : Option V), σ = [some (.ref a), some v, some (.ref fx), some (.ref bl), some (.ref qa), some (.ref d), some (.ref pd), o7, o8, o9, o10, o11, o12, none, none, none] ∧ Ex H17 H') ⟨none, none, none, none, none, none, rfl, Ex.refl _⟩ (fun i σ H' _ pr => let ⟨_, _, _, _, _, _, _, e⟩ := pr; e _ _ hT) (fun i x σ H18 hx pr => ?_) fun σ H18 pr => ?_))
  · obtain ⟨o7, o8, o9, o10, o11, o12, rfl, e18⟩ := pr
    have hk : ∃ k : Int, x = .int k := by
      rcases List.mem_cons.mp (List.mem_of_getElem? hx) with rfl | hx
      · exact ⟨0, rfl⟩
      rcases List.mem_cons.mp hx with rfl | hx
      · exact ⟨1, rfl⟩
      cases hx
    obtain ⟨k, rfl⟩ := hk
    exact gN (law_body (C16.ex (e17.trans e18)) (.ref qa) k o8 o9 o10 o11 o12 _ fun H' o8 o9 o10 o11 o12 e => ⟨_, _, _, _, _, _, rfl, e18.trans e⟩)
  · obtain ⟨o7, o8, o9, o10, o11, o12, rfl, e18⟩ := pr
    exact nxC (e_ret ev_c (q _ (e016.trans (e17.trans e18))))
end


end BG
set_option maxHeartbeats 4000000
namespace BG
open PySem PySem.Spec PyProof.Rows L2
theorem f_Box_init {P : Program} {w : World} {K : PySem.W.Frag} {mg : Str → Option Value} {base : Heap} {k : Nat} (T : Fs K mg)  {sp : Sp}
    (len : ∀ vs H Q E, sp vs H Q E → vs.length = 3)
    (rd : ∀ (vs : List V) (H : Hp) (Q : VK) (E : XK), sp vs H Q E → r_Box_init K  { nx := fun _ H' => Q .non H', rt := Q } (start ["self", "tree", "parts"] vs) H) :
    FnR P w K mg base CX0 (k + 1) 35 sp :=
  T.d_Box_init.fn0 sc_Box_init (fun _ _ _ _ _ _ us hl => match us, hl with | [_, _, _], _ => rfl) len (r_Box_init K ) (fun cdv A outer s H E hr => by
    exact (pss_cons (ps_fld (pv 0) (pe_ix ix_tup (pv 1) pe_int (fun _ _ => rfl)) rfl)
    (pss_cons (ps_fld (pv 0) (pe_ix ix_tup (pe_ix ix_tup (pv 1) pe_int (fun _ _ => rfl)) pe_int (fun _ _ => rfl)) rfl)
    (pss_cons (ps_fld (pv 0) (pe_ix ix_tup (pe_ix ix_tup (pv 1) pe_int (fun _ _ => rfl)) pe_int (fun _ _ => rfl)) rfl)
    (pss_cons (ps_fld (pv 0) (pe_ix ix_tup (pe_ix ix_tup (pv 1) pe_int (fun _ _ => rfl)) pe_int (fun _ _ => rfl)) rfl)
    (pss_cons (ps_fld (pv 0) (pe_ix ix_tup (pe_ix ix_tup (pv 1) pe_int (fun _ _ => rfl)) pe_int (fun _ _ => rfl)) rfl)
    (pss_cons (ps_fld (pv 0) (pe_ix ix_tup (pe_ix ix_tup (pv 1) pe_int (fun _ _ => rfl)) pe_int (fun _ _ => rfl)) rfl)
    (pss_cons (ps_fld (pv 0) (pe_ix ix_tup (pe_ix ix_tup (pv 1) pe_int (fun _ _ => rfl)) pe_int (fun _ _ => rfl)) rfl)
    (pss_one (ps_fld (pv 0) (pe_callTy call_list_of (by rfl) T.b_list boot_list (pa_cons (pv 2) pa_nil)) rfl)))))))))) rd

theorem f_Box_asked_least {P : Program} {w : World} {K : PySem.W.Frag} {mg : Str → Option Value} {base : Heap} {k : Nat} (T : Fs K mg)  {sp : Sp}
    (len : ∀ vs H Q E, sp vs H Q E → vs.length = 2)
    (rd : ∀ (vs : List V) (H : Hp) (Q : VK) (E : XK), sp vs H Q E → r_Box_asked_least K  { nx := fun _ H' => Q .non H', rt := Q } (start ["self", "leasts"] vs) H) :
    FnR P w K mg base CX0 (k + 1) 49 sp :=
  T.d_Box_asked_least.fn0 sc_Box_asked_least (fun _ _ _ _ _ _ us hl => match us, hl with | [_, _], _ => rfl) len (r_Box_asked_least K ) (fun cdv A outer s H E hr => by
    exact (pss_one (ps_ret pe_int))) rd

theorem f_Box_sums {P : Program} {w : World} {K : PySem.W.Frag} {mg : Str → Option Value} {base : Heap} {k : Nat} (T : Fs K mg)  {sp : Sp}
    (len : ∀ vs H Q E, sp vs H Q E → vs.length = 1)
    (rd : ∀ (vs : List V) (H : Hp) (Q : VK) (E : XK), sp vs H Q E → r_Box_sums K  { nx := fun _ H' => Q .non H', rt := Q } (start ["self"] vs) H) :
    FnR P w K mg base CX0 (k + 1) 56 sp :=
  T.d_Box_sums.fn0 sc_Box_sums (fun _ _ _ _ _ _ us hl => match us, hl with | [_], _ => rfl) len (r_Box_sums K ) (fun cdv A outer s H E hr => by
    exact (pss_one (ps_ret pe_bl))) rd

theorem f_Box_alone_least {P : Program} {w : World} {K : PySem.W.Frag} {mg : Str → Option Value} {base : Heap} {k : Nat} (T : Fs K mg)  {sp : Sp}
    (len : ∀ vs H Q E, sp vs H Q E → vs.length = 1)
    (rd : ∀ (vs : List V) (H : Hp) (Q : VK) (E : XK), sp vs H Q E → r_Box_alone_least K  { nx := fun _ H' => Q .non H', rt := Q } (start ["self"] vs) H) :
    FnR P w K mg base CX0 (k + 1) 63 sp :=
  T.d_Box_alone_least.fn0 sc_Box_alone_least (fun _ _ _ _ _ _ us hl => match us, hl with | [_], _ => rfl) len (r_Box_alone_least K ) (fun cdv A outer s H E hr => by
    exact (pss_one (ps_ret pe_int))) rd

theorem f_Box_asker {P : Program} {w : World} {K : PySem.W.Frag} {mg : Str → Option Value} {base : Heap} {k : Nat} (T : Fs K mg)  (D_sums : DispOk P w K mg base CX0 k [178, 801, 876, 1060, 1163] "sums" (sp_sums K)) (D_asked : DispOk P w K mg base CX0 k [178, 801, 876, 1060, 1163] "asked_least" (sp_asked K)) {sp : Sp}
    (len : ∀ vs H Q E, sp vs H Q E → vs.length = 2)
    (rd : ∀ (vs : List V) (H : Hp) (Q : VK) (E : XK), sp vs H Q E → r_Box_asker K  { nx := fun _ H' => Q .non H', rt := Q } (start ["self", "leasts", "part"] vs) H) :
    FnR P w K mg base CX0 (k + 1) 70 sp :=
  T.d_Box_asker.fn0 sc_Box_asker (fun _ _ _ _ _ _ us hl => match us, hl with | [_, _], _ => rfl) len (r_Box_asker K ) (fun cdv A outer s H E hr => by
    exact (pss_cons (ps_if (pt_val (pe_methD0 (pv 0) D_sums hr pass0)) (pss_one (ps_ret (pe_tup (pa_cons pe_str (pa_cons pe_str pa_nil))))) pss_nil)
    (pss_cons (ps_for PassesOwn.never rfl (pi_list (pe_fld (pv 0) rfl)) (pg_name (i := 2) sc_Box_asker.nd rfl (Or.inl rfl)) (pss_one (ps_if (pt_cmpR op_eq (pe_dget (hu_of hr) (pv 1) (pe_fld (pv 2) rfl) (fun _ _ => rfl)) (pe_methD (pv 0) D_asked hr pass0 (pa_cons (pv 1) pa_nil)) (nomark _)) (pss_one (ps_ret (pe_tup (pa_cons pe_str (pa_cons (pe_fld (pv 2) rfl) pa_nil))))) pss_nil)))
    (pss_one (ps_ret (pe_tup (pa_cons pe_str (pa_cons pe_str pa_nil)))))))) rd

theorem f_Leaf_init {P : Program} {w : World} {K : PySem.W.Frag} {mg : Str → Option Value} {base : Heap} {k : Nat} (T : Fs K mg)  (G_Box_init : FnR P w K mg base CX0 k 35 (sp_Box_init K)) {sp : Sp}
    (len : ∀ vs H Q E, sp vs H Q E → vs.length = 3)
    (rd : ∀ (vs : List V) (H : Hp) (Q : VK) (E : XK), sp vs H Q E → r_Leaf_init K  { nx := fun _ H' => Q .non H', rt := Q } (start ["self", "tree", "parts"] vs) H) :
    FnR P w K mg base CX0 (k + 1) 161 sp :=
  T.d_Leaf_init.fn0 sc_Leaf_init (fun _ _ _ _ _ _ us hl => match us, hl with | [_, _, _], _ => rfl) len (r_Leaf_init K ) (fun cdv A outer s H E hr => by
    exact (pss_cons (ps_expr (pe_cinit G_Box_init hr (by rfl) T.g_Box T.c_Box T.d_Box_init.kp pass0 (pa_cons (pv 0) (pa_cons (pv 1) (pa_cons (pv 2) pa_nil)))))
    (pss_one (ps_fld (pv 0) (pe_ix ix_tup (pv 1) pe_int (fun _ _ => rfl)) rfl)))) rd

theorem f_all_boxes {P : Program} {w : World} {K : PySem.W.Frag} {mg : Str → Option Value} {base : Heap} {k : Nat} (T : Fs K mg) (d : Nat) (G_all_boxes : FnR P w K mg base CX0 k 187 (sp_all_boxes K d)) {sp : Sp}
    (len : ∀ vs H Q E, sp vs H Q E → vs.length = 1)
    (rd : ∀ (vs : List V) (H : Hp) (Q : VK) (E : XK), sp vs H Q E → r_all_boxes K d { nx := fun _ H' => Q .non H', rt := Q } (start ["box", "found", "part"] vs) H) :
    FnR P w K mg base CX0 (k + 1) 187 sp :=
  T.d_all_boxes.fn0 sc_all_boxes (fun _ _ _ _ _ _ us hl => match us, hl with | [_], _ => rfl) len (r_all_boxes K d) (fun cdv A outer s H E hr => by
    exact (pss_cons (ps_set (i := 1) sc_all_boxes.nd rfl (Or.inl rfl) (pe_lst (pa_cons (pv 0) pa_nil)))
    (pss_cons (ps_for PassesOwn.never rfl (pi_list (pe_fld (pv 0) rfl)) (pg_name (i := 2) sc_all_boxes.nd rfl (Or.inl rfl)) (pss_one (ps_expr (pe_bm PySem.F.plainAttrs_list PySem.F.slot_list_extend PySem.F.type_list_extend mt_extend (pv 1) (pa_cons (pe_callR G_all_boxes hr rfl T.g_all_boxes T.d_all_boxes.kp pass0 (pa_cons (pv 2) pa_nil)) pa_nil)))))
    (pss_one (ps_ret (pv 1)))))) rd

theorem f_deal {P : Program} {w : World} {K : PySem.W.Frag} {mg : Str → Option Value} {base : Heap} {k : Nat} (T : Fs K mg)  {sp : Sp}
    (len : ∀ vs H Q E, sp vs H Q E → vs.length = 2)
    (rd : ∀ (vs : List V) (H : Hp) (Q : VK) (E : XK), sp vs H Q E → r_deal K  { nx := fun _ H' => Q .non H', rt := Q } (start ["room", "weights", "total", "found", "rests", "name", "part", "rest", "left"] vs) H) :
    FnR P w K mg base CX0 (k + 1) 699 sp :=
  T.d_deal.fn0 sc_deal (fun _ _ _ _ _ _ us hl => match us, hl with | [_, _], _ => rfl) len (r_deal K ) (fun cdv A outer s H E hr => by
    exact (pss_cons (ps_set (i := 2) sc_deal.nd rfl (Or.inl rfl) (pe_sumVals rfl (by rfl) T.b_sum (pv 1)))
    (pss_cons (ps_set (i := 3) sc_deal.nd rfl (Or.inl rfl) pe_dnewK)
    (pss_cons (ps_set (i := 4) sc_deal.nd rfl (Or.inl rfl) (pe_lst pa_nil))
    (pss_cons (ps_for PassesOwn.never rfl (pi_list (pe_callB (call_sortedD rfl) (by rfl) T.b_sorted boot_sorted (pa_cons (pv 1) pa_nil))) (pg_name (i := 5) sc_deal.nd rfl (Or.inl rfl)) (pss_cons (ps_asg (pe_callB call_divmod (by rfl) T.b_divmod boot_divmod (pa_cons (pe_op op_mul (pv 0) (pe_dget (hu_of hr) (pv 1) (pv 5) (fun _ _ => rfl))) (pa_cons (pv 2) pa_nil))) (pg_tup (by rfl) (pgs_cons (pg_name (i := 6) sc_deal.nd rfl (Or.inl rfl)) (pgs_cons (pg_name (i := 7) sc_deal.nd rfl (Or.inl rfl)) pgs_nil))))
    (pss_cons (ps_dput (hu_of hr) (pv 3) (pv 5) (pv 6) rfl)
    (pss_one (ps_expr (pe_bm PySem.F.plainAttrs_list PySem.F.slot_list_append PySem.F.type_list_append mt_append (pv 4) (pa_cons (pe_tup (pa_cons (pe_un un_neg (pv 7)) (pa_cons (pv 5) pa_nil))) pa_nil)))))))
    (pss_cons (ps_set (i := 8) sc_deal.nd rfl (Or.inl rfl) (pe_op op_sub (pv 0) (pe_sumVals rfl (by rfl) T.b_sum (pv 3))))
    (pss_cons (ps_for PassesOwn.never rfl (pi_list (pe_slice sl_list (pe_callB (cr_sortedM hr.units) (by rfl) T.b_sorted boot_sorted (pa_cons (pv 4) pa_nil)) po_none (po_some (pv 8)))) (pg_tup (by rfl) (pgs_cons (pg_name (i := 7) sc_deal.nd rfl (Or.inl rfl)) (pgs_cons (pg_name (i := 5) sc_deal.nd rfl (Or.inl rfl)) pgs_nil))) (pss_one (ps_daug (hu_of hr) (pv 3) (pv 5) pe_int in_add (fun _ _ _ => rfl))))
    (pss_one (ps_ret (pv 3)))))))))) rd

end BG
set_option maxHeartbeats 4000000
namespace BG
open PySem PySem.Spec PyProof.Rows L2
theorem f_gaps_in {P : Program} {w : World} {K : PySem.W.Frag} {mg : Str → Option Value} {base : Heap} {k : Nat} (T : Fs K mg)  {sp : Sp}
    (len : ∀ vs H Q E, sp vs H Q E → vs.length = 2)
    (rd : ∀ (vs : List V) (H : Hp) (Q : VK) (E : XK), sp vs H Q E → r_gaps_in K  { nx := fun _ H' => Q .non H', rt := Q } (start ["gap", "many"] vs) H) :
    FnR P w K mg base CX0 (k + 1) 706 sp :=
  T.d_gaps_in.fn0 sc_gaps_in (fun _ _ _ _ _ _ us hl => match us, hl with | [_, _], _ => rfl) len (r_gaps_in K ) (fun cdv A outer s H E hr => by
    exact (pss_one (ps_ret (pe_op op_mul (pv 0) (pe_callB (call_max2 rfl) (by rfl) T.b_max boot_max (pa_cons pe_int (pa_cons (pe_op op_sub (pv 1) pe_int) pa_nil))))))) rd

theorem f_of_parts {P : Program} {w : World} {K : PySem.W.Frag} {mg : Str → Option Value} {base : Heap} {k : Nat} (T : Fs K mg)  {sp : Sp}
    (len : ∀ vs H Q E, sp vs H Q E → vs.length = 2)
    (rd : ∀ (vs : List V) (H : Hp) (Q : VK) (E : XK), sp vs H Q E → r_of_parts K  { nx := fun _ H' => Q .non H', rt := Q } (start ["box", "table", "part"] vs) H) :
    FnR P w K mg base CX0 (k + 1) 721 sp :=
  T.d_of_parts.fn0 sc_of_parts (fun _ _ _ _ _ _ us hl => match us, hl with | [_, _], _ => rfl) len (r_of_parts K ) (fun cdv A outer s H E hr => by
    exact (pss_one (ps_ret (pe_lc (own := [("part", 2)]) (g := (gName 2)) (tt := tYes) rfl sc_of_parts.nd  (pi_list (pe_fld (pv 0) rfl)) (blkOk_by (own := [("part", 2)]) (N := ["box", "table", "part"]) (sc := defScope s_of_parts) (by decide +kernel)) (fun _ _ _ _ _ => (pg_name (i := 2) sc_of_parts.nd rfl (Or.inl rfl))) (fun _ _ _ _ _ => pts_nil) (fun _ _ _ _ _ => (pe_dget (hu_of hr) (pv 1) (pe_fld (pv 2) rfl) (fun _ _ => rfl))))))) rd

theorem f_Row_init {P : Program} {w : World} {K : PySem.W.Frag} {mg : Str → Option Value} {base : Heap} {k : Nat} (T : Fs K mg)  (G_Box_init : FnR P w K mg base CX0 k 35 (sp_Box_init K)) {sp : Sp}
    (len : ∀ vs H Q E, sp vs H Q E → vs.length = 3)
    (rd : ∀ (vs : List V) (H : Hp) (Q : VK) (E : XK), sp vs H Q E → r_Row_init K  { nx := fun _ H' => Q .non H', rt := Q } (start ["self", "tree", "parts"] vs) H) :
    FnR P w K mg base CX0 (k + 1) 735 sp :=
  T.d_Row_init.fn0 sc_Row_init (fun _ _ _ _ _ _ us hl => match us, hl with | [_, _, _], _ => rfl) len (r_Row_init K ) (fun cdv A outer s H E hr => by
    exact (pss_cons (ps_expr (pe_cinit G_Box_init hr (by rfl) T.g_Box T.c_Box T.d_Box_init.kp pass0 (pa_cons (pv 0) (pa_cons (pv 1) (pa_cons (pv 2) pa_nil)))))
    (pss_cons (ps_fld (pv 0) (pe_ix ix_tup (pe_ix ix_tup (pv 1) pe_int (fun _ _ => rfl)) pe_int (fun _ _ => rfl)) rfl)
    (pss_cons (ps_fld (pv 0) (pe_ix ix_tup (pe_ix ix_tup (pv 1) pe_int (fun _ _ => rfl)) pe_int (fun _ _ => rfl)) rfl)
    (pss_one (ps_fld (pv 0) (pe_ix ix_tup (pe_ix ix_tup (pv 1) pe_int (fun _ _ => rfl)) pe_int (fun _ _ => rfl)) rfl)))))) rd

theorem f_Row_asked_least {P : Program} {w : World} {K : PySem.W.Frag} {mg : Str → Option Value} {base : Heap} {k : Nat} (T : Fs K mg)  (G_of_parts : FnR P w K mg base CX0 k 721 (sp_of_parts K)) (G_gaps_in : FnR P w K mg base CX0 k 706 (sp_gaps_in K)) {sp : Sp}
    (len : ∀ vs H Q E, sp vs H Q E → vs.length = 2)
    (rd : ∀ (vs : List V) (H : Hp) (Q : VK) (E : XK), sp vs H Q E → r_Row_asked_least K  { nx := fun _ H' => Q .non H', rt := Q } (start ["self", "leasts"] vs) H) :
    FnR P w K mg base CX0 (k + 1) 749 sp :=
  T.d_Row_asked_least.fn0 sc_Row_asked_least (fun _ _ _ _ _ _ us hl => match us, hl with | [_, _], _ => rfl) len (r_Row_asked_least K ) (fun cdv A outer s H E hr => by
    exact (pss_one (ps_ret (pe_op op_add (pe_callB (cr_sum rfl) (by rfl) T.b_sum boot_sum (pa_cons (pe_callR G_of_parts hr rfl T.g_of_parts T.d_of_parts.kp pass0 (pa_cons (pv 0) (pa_cons (pv 1) pa_nil))) pa_nil)) (pe_callR G_gaps_in hr rfl T.g_gaps_in T.d_gaps_in.kp pass0 (pa_cons (pe_fld (pv 0) rfl) (pa_cons (pe_callB call_len_seq (by rfl) T.b_len boot_len (pa_cons (pe_fld (pv 0) rfl) pa_nil)) pa_nil))))))) rd

theorem f_Row_sums {P : Program} {w : World} {K : PySem.W.Frag} {mg : Str → Option Value} {base : Heap} {k : Nat} (T : Fs K mg)  {sp : Sp}
    (len : ∀ vs H Q E, sp vs H Q E → vs.length = 1)
    (rd : ∀ (vs : List V) (H : Hp) (Q : VK) (E : XK), sp vs H Q E → r_Row_sums K  { nx := fun _ H' => Q .non H', rt := Q } (start ["self"] vs) H) :
    FnR P w K mg base CX0 (k + 1) 756 sp :=
  T.d_Row_sums.fn0 sc_Row_sums (fun _ _ _ _ _ _ us hl => match us, hl with | [_], _ => rfl) len (r_Row_sums K ) (fun cdv A outer s H E hr => by
    exact (pss_one (ps_ret pe_bl))) rd

theorem f_Column_init {P : Program} {w : World} {K : PySem.W.Frag} {mg : Str → Option Value} {base : Heap} {k : Nat} (T : Fs K mg)  (G_Box_init : FnR P w K mg base CX0 k 35 (sp_Box_init K)) {sp : Sp}
    (len : ∀ vs H Q E, sp vs H Q E → vs.length = 3)
    (rd : ∀ (vs : List V) (H : Hp) (Q : VK) (E : XK), sp vs H Q E → r_Column_init K  { nx := fun _ H' => Q .non H', rt := Q } (start ["self", "tree", "parts"] vs) H) :
    FnR P w K mg base CX0 (k + 1) 817 sp :=
  T.d_Column_init.fn0 sc_Column_init (fun _ _ _ _ _ _ us hl => match us, hl with | [_, _, _], _ => rfl) len (r_Column_init K ) (fun cdv A outer s H E hr => by
    exact (pss_cons (ps_expr (pe_cinit G_Box_init hr (by rfl) T.g_Box T.c_Box T.d_Box_init.kp pass0 (pa_cons (pv 0) (pa_cons (pv 1) (pa_cons (pv 2) pa_nil)))))
    (pss_cons (ps_fld (pv 0) (pe_ix ix_tup (pe_ix ix_tup (pv 1) pe_int (fun _ _ => rfl)) pe_int (fun _ _ => rfl)) rfl)
    (pss_cons (ps_fld (pv 0) (pe_ix ix_tup (pe_ix ix_tup (pv 1) pe_int (fun _ _ => rfl)) pe_int (fun _ _ => rfl)) rfl)
    (pss_one (ps_fld (pv 0) (pe_ix ix_tup (pe_ix ix_tup (pv 1) pe_int (fun _ _ => rfl)) pe_int (fun _ _ => rfl)) rfl)))))) rd

theorem f_Column_asked_least {P : Program} {w : World} {K : PySem.W.Frag} {mg : Str → Option Value} {base : Heap} {k : Nat} (T : Fs K mg)  (G_of_parts : FnR P w K mg base CX0 k 721 (sp_of_parts K)) {sp : Sp}
    (len : ∀ vs H Q E, sp vs H Q E → vs.length = 2)
    (rd : ∀ (vs : List V) (H : Hp) (Q : VK) (E : XK), sp vs H Q E → r_Column_asked_least K  { nx := fun _ H' => Q .non H', rt := Q } (start ["self", "leasts"] vs) H) :
    FnR P w K mg base CX0 (k + 1) 831 sp :=
  T.d_Column_asked_least.fn0 sc_Column_asked_least (fun _ _ _ _ _ _ us hl => match us, hl with | [_, _], _ => rfl) len (r_Column_asked_least K ) (fun cdv A outer s H E hr => by
    exact (pss_one (ps_ret (pe_maxD rfl hr.units (by rfl) T.b_max (pe_callR G_of_parts hr rfl T.g_of_parts T.d_of_parts.kp pass0 (pa_cons (pv 0) (pa_cons (pv 1) pa_nil))) pe_int)))) rd

theorem f_cells_at {P : Program} {w : World} {K : PySem.W.Frag} {mg : Str → Option Value} {base : Heap} {k : Nat} (T : Fs K mg)  {sp : Sp}
    (len : ∀ vs H Q E, sp vs H Q E → vs.length = 3)
    (rd : ∀ (vs : List V) (H : Hp) (Q : VK) (E : XK), sp vs H Q E → r_cells_at K  { nx := fun _ H' => Q .non H', rt := Q } (start ["row", "column", "span", "k"] vs) H) :
    FnR P w K mg base CX0 (k + 1) 883 sp :=
  T.d_cells_at.fn0 sc_cells_at (fun _ _ _ _ _ _ us hl => match us, hl with | [_, _, _], _ => rfl) len (r_cells_at K ) (fun cdv A outer s H E hr => by
    exact (pss_one (ps_ret (pe_lc (own := [("k", 3)]) (g := (gName 3)) (tt := tYes) rfl sc_cells_at.nd  (pi_range1 rfl T.b_range (pa_cons (pe_op op_mul (pe_ix ix_tup (pv 2) pe_int (fun _ _ => rfl)) (pe_ix ix_tup (pv 2) pe_int (fun _ _ => rfl))) pa_nil)) (blkOk_by (own := [("k", 3)]) (N := ["row", "column", "span", "k"]) (sc := defScope s_cells_at) (by decide +kernel)) (fun _ _ _ _ _ => (pg_name (i := 3) sc_cells_at.nd rfl (Or.inl rfl))) (fun _ _ _ _ _ => pts_nil) (fun _ _ _ _ _ => (pe_tup (pa_cons (pe_op op_add (pv 0) (pe_op op_fdivW (pv 3) (pe_ix ix_tup (pv 2) pe_int (fun _ _ => rfl)))) (pa_cons (pe_op op_add (pv 1) (pe_op op_mod (pv 3) (pe_ix ix_tup (pv 2) pe_int (fun _ _ => rfl)))) pa_nil)))))))) rd

end BG
set_option maxHeartbeats 4000000
namespace BG
open PySem PySem.Spec PyProof.Rows L2
theorem f_is_open {P : Program} {w : World} {K : PySem.W.Frag} {mg : Str → Option Value} {base : Heap} {k : Nat} (T : Fs K mg)  {sp : Sp}
    (len : ∀ vs H Q E, sp vs H Q E → vs.length = 4)
    (rd : ∀ (vs : List V) (H : Hp) (Q : VK) (E : XK), sp vs H Q E → r_is_open K  { nx := fun _ H' => Q .non H', rt := Q } (start ["taken", "row", "column", "span", "there", "at"] vs) H) :
    FnR P w K mg base CX0 (k + 1) 890 sp :=
  T.d_is_open.fn0 sc_is_open (fun _ _ _ _ _ _ us hl => match us, hl with | [_, _, _, _], _ => rfl) len (r_is_open K ) (fun cdv A outer s H E hr => by
    exact (pss_cons (ps_for PassesOwn.never rfl (pi_range2 rfl T.b_range (pa_cons (pv 1) (pa_cons (pe_op op_add (pv 1) (pe_ix ix_tup (pv 3) pe_int (fun _ _ => rfl))) pa_nil))) (pg_name (i := 4) sc_is_open.nd rfl (Or.inl rfl)) (pss_one (ps_for PassesOwn.never rfl (pi_range2 rfl T.b_range (pa_cons (pv 2) (pa_cons (pe_op op_add (pv 2) (pe_ix ix_tup (pv 3) pe_int (fun _ _ => rfl))) pa_nil))) (pg_name (i := 5) sc_is_open.nd rfl (Or.inl rfl)) (pss_one (ps_if (pt_cmp (pc_din (hu_of hr) (pe_tup (pa_cons (pv 4) (pa_cons (pv 5) pa_nil))) (pv 0)) (by rfl)) (pss_one (ps_ret pe_bl)) pss_nil)))))
    (pss_one (ps_ret pe_bl)))) rd

theorem f_put_cells {P : Program} {w : World} {K : PySem.W.Frag} {mg : Str → Option Value} {base : Heap} {k : Nat} (T : Fs K mg)  (G_is_open : FnR P w K mg base CX0 k 890 (sp_is_open K)) (G_cells_at : FnR P w K mg base CX0 k 883 (sp_cells_at K)) {sp : Sp}
    (len : ∀ vs H Q E, sp vs H Q E → vs.length = 2)
    (rd : ∀ (vs : List V) (H : Hp) (Q : VK) (E : XK), sp vs H Q E → r_put_cells K  { nx := fun _ H' => Q .non H', rt := Q } (start ["columns", "spans", "taken", "found", "span", "at", "cell"] vs) H) :
    FnR P w K mg base CX0 (k + 1) 897 sp :=
  T.d_put_cells.fn0 sc_put_cells (fun _ _ _ _ _ _ us hl => match us, hl with | [_, _], _ => rfl) len (r_put_cells K ) (fun cdv A outer s H E hr => by
    exact (pss_cons (ps_set (i := 2) sc_put_cells.nd rfl (Or.inl rfl) pe_dnewT)
    (pss_cons (ps_set (i := 3) sc_put_cells.nd rfl (Or.inl rfl) (pe_lst pa_nil))
    (pss_cons (ps_for PassesOwn.never rfl (pi_list (pv 1)) (pg_name (i := 4) sc_put_cells.nd rfl (Or.inl rfl)) (pss_cons (ps_set (i := 5) sc_put_cells.nd rfl (Or.inl rfl) pe_int)
    (pss_cons (ps_while PassesOwn.never (PW.pt (pw_or (pt_cmpR op_gt (pe_op op_add (pe_op op_mod (pv 5) (pv 0)) (pe_ix ix_tup (pv 4) pe_int (fun _ _ => rfl))) (pv 0) (nomark _)) (pw_or1 (pt_not (pt_val (pe_callR G_is_open hr rfl T.g_is_open T.d_is_open.kp pass0 (pa_cons (pv 2) (pa_cons (pe_op op_fdivW (pv 5) (pv 0)) (pa_cons (pe_op op_mod (pv 5) (pv 0)) (pa_cons (pv 4) pa_nil)))))))))) (pss_one (ps_aug (i := 5) sc_put_cells.nd rfl (.inl rfl) pe_int ip_add)))
    (pss_cons (ps_for PassesOwn.never rfl (pi_list (pe_callR G_cells_at hr rfl T.g_cells_at T.d_cells_at.kp pass0 (pa_cons (pe_op op_fdivW (pv 5) (pv 0)) (pa_cons (pe_op op_mod (pv 5) (pv 0)) (pa_cons (pv 4) pa_nil))))) (pg_name (i := 6) sc_put_cells.nd rfl (Or.inl rfl)) (pss_one (ps_dput (hu_of hr) (pv 2) (pv 6) pe_bl rfl)))
    (pss_one (ps_expr (pe_bm PySem.F.plainAttrs_list PySem.F.slot_list_append PySem.F.type_list_append mt_append (pv 3) (pa_cons (pe_tup (pa_cons (pe_op op_fdivW (pv 5) (pv 0)) (pa_cons (pe_op op_mod (pv 5) (pv 0)) pa_nil))) pa_nil))))))))
    (pss_one (ps_ret (pv 3))))))) rd

theorem f_last_row {P : Program} {w : World} {K : PySem.W.Frag} {mg : Str → Option Value} {base : Heap} {k : Nat} (T : Fs K mg)  {sp : Sp}
    (len : ∀ vs H Q E, sp vs H Q E → vs.length = 2)
    (rd : ∀ (vs : List V) (H : Hp) (Q : VK) (E : XK), sp vs H Q E → r_last_row K  { nx := fun _ H' => Q .non H', rt := Q } (start ["spans", "places", "span", "place"] vs) H) :
    FnR P w K mg base CX0 (k + 1) 902 sp :=
  T.d_last_row.fn0 sc_last_row (fun _ _ _ _ _ _ us hl => match us, hl with | [_, _], _ => rfl) len (r_last_row K ) (fun cdv A outer s H E hr => by
    exact (pss_one (ps_ret (pe_maxD rfl hr.units (by rfl) T.b_max (pe_lc (own := [("span", 2), ("place", 3)]) (g := (gTup K 2 (gCons (gName 2) (gCons (gName 3) gNil)))) (tt := tYes) rfl sc_last_row.nd  (pi_zip (by rfl) T.b_zip (pa_cons (pv 0) (pa_cons (pv 1) pa_nil))) (blkOk_by (own := [("span", 2), ("place", 3)]) (N := ["spans", "places", "span", "place"]) (sc := defScope s_last_row) (by decide +kernel)) (fun _ _ _ _ _ => (pg_tup (by rfl) (pgs_cons (pg_name (i := 2) sc_last_row.nd rfl (Or.inl rfl)) (pgs_cons (pg_name (i := 3) sc_last_row.nd rfl (Or.inl rfl)) pgs_nil)))) (fun _ _ _ _ _ => pts_nil) (fun _ _ _ _ _ => (pe_op op_add (pe_ix ix_tup (pv 3) pe_int (fun _ _ => rfl)) (pe_ix ix_tup (pv 2) pe_int (fun _ _ => rfl))))) pe_int)))) rd

theorem f_track_name {P : Program} {w : World} {K : PySem.W.Frag} {mg : Str → Option Value} {base : Heap} {k : Nat} (T : Fs K mg)  {sp : Sp}
    (len : ∀ vs H Q E, sp vs H Q E → vs.length = 1)
    (rd : ∀ (vs : List V) (H : Hp) (Q : VK) (E : XK), sp vs H Q E → r_track_name K  { nx := fun _ H' => Q .non H', rt := Q } (start ["number"] vs) H) :
    FnR P w K mg base CX0 (k + 1) 909 sp :=
  T.d_track_name.fn0 sc_track_name (fun _ _ _ _ _ _ us hl => match us, hl with | [_], _ => rfl) len (r_track_name K ) (fun cdv A outer s H E hr => by
    exact (pss_one (ps_ret (pe_bm PySem.F.plainAttrs_str PySem.F.slot_str_zfill PySem.F.type_str_zfill mt_zfill (pe_callTy call_str_int (by rfl) T.b_str boot_str (pa_cons (pv 0) pa_nil)) (pa_cons pe_int pa_nil))))) rd

theorem f_track_weights {P : Program} {w : World} {K : PySem.W.Frag} {mg : Str → Option Value} {base : Heap} {k : Nat} (T : Fs K mg)  (G_track_name : FnR P w K mg base CX0 k 909 (sp_track_name K)) {sp : Sp}
    (len : ∀ vs H Q E, sp vs H Q E → vs.length = 2)
    (rd : ∀ (vs : List V) (H : Hp) (Q : VK) (E : XK), sp vs H Q E → r_track_weights K  { nx := fun _ H' => Q .non H', rt := Q } (start ["first", "spanned", "weights", "number"] vs) H) :
    FnR P w K mg base CX0 (k + 1) 916 sp :=
  T.d_track_weights.fn0 sc_track_weights (fun _ _ _ _ _ _ us hl => match us, hl with | [_, _], _ => rfl) len (r_track_weights K ) (fun cdv A outer s H E hr => by
    exact (pss_cons (ps_set (i := 2) sc_track_weights.nd rfl (Or.inl rfl) pe_dnewK)
    (pss_cons (ps_for PassesOwn.never rfl (pi_range2 rfl T.b_range (pa_cons (pv 0) (pa_cons (pe_op op_add (pv 0) (pv 1)) pa_nil))) (pg_name (i := 3) sc_track_weights.nd rfl (Or.inl rfl)) (pss_one (ps_dput (hu_of hr) (pv 2) (pe_callR G_track_name hr rfl T.g_track_name T.d_track_name.kp pass0 (pa_cons (pv 3) pa_nil)) pe_int rfl)))
    (pss_one (ps_ret (pv 2)))))) rd

theorem f_alone_raised {P : Program} {w : World} {K : PySem.W.Frag} {mg : Str → Option Value} {base : Heap} {k : Nat} (T : Fs K mg)  {sp : Sp}
    (len : ∀ vs H Q E, sp vs H Q E → vs.length = 2)
    (rd : ∀ (vs : List V) (H : Hp) (Q : VK) (E : XK), sp vs H Q E → r_alone_raised K  { nx := fun _ H' => Q .non H', rt := Q } (start ["floor", "asks", "numbers", "name", "first", "spanned", "amount"] vs) H) :
    FnR P w K mg base CX0 (k + 1) 923 sp :=
  T.d_alone_raised.fn0 sc_alone_raised (fun _ _ _ _ _ _ us hl => match us, hl with | [_, _], _ => rfl) len (r_alone_raised K ) (fun cdv A outer s H E hr => by
    exact (pss_cons (ps_set (i := 2) sc_alone_raised.nd rfl (Or.inl rfl) (pe_callTy call_list_of (by rfl) T.b_list boot_list (pa_cons (pv 0) pa_nil)))
    (pss_cons (ps_for PassesOwn.never rfl (pi_list (pv 1)) (pg_tup (by rfl) (pgs_cons (pg_name (i := 3) sc_alone_raised.nd rfl (Or.inl rfl)) (pgs_cons (pg_name (i := 4) sc_alone_raised.nd rfl (Or.inl rfl)) (pgs_cons (pg_name (i := 5) sc_alone_raised.nd rfl (Or.inl rfl)) (pgs_cons (pg_name (i := 6) sc_alone_raised.nd rfl (Or.inl rfl)) pgs_nil))))) (pss_one (ps_if (pt_cmpR op_eq (pv 5) pe_int (nomark _)) (pss_one (ps_asg (pe_callB (call_max2 rfl) (by rfl) T.b_max boot_max (pa_cons (pe_ix ix_list (pv 2) (pv 4) (fun _ _ => rfl)) (pa_cons (pv 6) pa_nil))) (pg_sub (pv 2) (pv 4) set_list))) pss_nil)))
    (pss_one (ps_ret (pv 2)))))) rd

theorem f_in_order {P : Program} {w : World} {K : PySem.W.Frag} {mg : Str → Option Value} {base : Heap} {k : Nat} (T : Fs K mg)  {sp : Sp}
    (len : ∀ vs H Q E, sp vs H Q E → vs.length = 1)
    (rd : ∀ (vs : List V) (H : Hp) (Q : VK) (E : XK), sp vs H Q E → r_in_order K  { nx := fun _ H' => Q .non H', rt := Q } (start ["asks", "found", "spanned", "name", "first", "amount", "ask"] vs) H) :
    FnR P w K mg base CX0 (k + 1) 928 sp :=
  T.d_in_order.fn0 sc_in_order (fun _ _ _ _ _ _ us hl => match us, hl with | [_], _ => rfl) len (r_in_order K ) (fun cdv A outer s H E hr => by
    exact (pss_cons (ps_set (i := 1) sc_in_order.nd rfl (Or.inl rfl) (pe_lst pa_nil))
    (pss_cons (ps_for PassesOwn.never rfl (pi_list (pe_callB (cr_sortedM hr.units) (by rfl) T.b_sorted boot_sorted (pa_cons (pe_lc (own := [("ask", 6)]) (g := (gName 6)) (tt := (tTest (tOp qGt (tOp (rIxT K) (tVar 6) (tC (.int 2))) (tC (.int 1))))) rfl sc_in_order.nd  (pi_list (pv 0)) (blkOk_by (own := [("ask", 6)]) (N := ["asks", "found", "spanned", "name", "first", "amount", "ask"]) (sc := defScope s_in_order) (by decide +kernel)) (fun _ _ _ _ _ => (pg_name (i := 6) sc_in_order.nd rfl (Or.inl rfl))) (fun _ _ _ _ _ => pts_one (pt_cmpR op_gt (pe_ix ix_tup (pv 6) pe_int (fun _ _ => rfl)) pe_int (nomark _))) (fun _ _ _ _ _ => (pe_tup (pa_cons (pe_ix ix_tup (pv 6) pe_int (fun _ _ => rfl)) (pa_cons (pe_ix ix_tup (pv 6) pe_int (fun _ _ => rfl)) (pa_cons (pe_ix ix_tup (pv 6) pe_int (fun _ _ => rfl)) (pa_cons (pe_ix ix_tup (pv 6) pe_int (fun _ _ => rfl)) pa_nil))))))) pa_nil))) (pg_tup (by rfl) (pgs_cons (pg_name (i := 2) sc_in_order.nd rfl (Or.inl rfl)) (pgs_cons (pg_name (i := 3) sc_in_order.nd rfl (Or.inl rfl)) (pgs_cons (pg_name (i := 4) sc_in_order.nd rfl (Or.inl rfl)) (pgs_cons (pg_name (i := 5) sc_in_order.nd rfl (Or.inl rfl)) pgs_nil))))) (pss_one (ps_expr (pe_bm PySem.F.plainAttrs_list PySem.F.slot_list_append PySem.F.type_list_append mt_append (pv 1) (pa_cons (pe_tup (pa_cons (pv 3) (pa_cons (pv 4) (pa_cons (pv 2) (pa_cons (pv 5) pa_nil))))) pa_nil)))))
    (pss_one (ps_ret (pv 1)))))) rd

theorem f_lack_of {P : Program} {w : World} {K : PySem.W.Frag} {mg : Str → Option Value} {base : Heap} {k : Nat} (T : Fs K mg)  (G_gaps_in : FnR P w K mg base CX0 k 706 (sp_gaps_in K)) {sp : Sp}
    (len : ∀ vs H Q E, sp vs H Q E → vs.length = 3)
    (rd : ∀ (vs : List V) (H : Hp) (Q : VK) (E : XK), sp vs H Q E → r_lack_of K  { nx := fun _ H' => Q .non H', rt := Q } (start ["numbers", "gap", "ask", "name", "first", "spanned", "amount"] vs) H) :
    FnR P w K mg base CX0 (k + 1) 935 sp :=
  T.d_lack_of.fn0 sc_lack_of (fun _ _ _ _ _ _ us hl => match us, hl with | [_, _, _], _ => rfl) len (r_lack_of K ) (fun cdv A outer s H E hr => by
    exact (pss_cons (ps_asg (pv 2) (pg_tup (by rfl) (pgs_cons (pg_name (i := 3) sc_lack_of.nd rfl (Or.inl rfl)) (pgs_cons (pg_name (i := 4) sc_lack_of.nd rfl (Or.inl rfl)) (pgs_cons (pg_name (i := 5) sc_lack_of.nd rfl (Or.inl rfl)) (pgs_cons (pg_name (i := 6) sc_lack_of.nd rfl (Or.inl rfl)) pgs_nil))))))
    (pss_one (ps_ret (pe_op op_sub (pe_op op_sub (pv 6) (pe_callB (cr_sum rfl) (by rfl) T.b_sum boot_sum (pa_cons (pe_slice sl_list (pv 0) (po_some (pv 4)) (po_some (pe_op op_add (pv 4) (pv 5)))) pa_nil))) (pe_callR G_gaps_in hr rfl T.g_gaps_in T.d_gaps_in.kp pass0 (pa_cons (pv 1) (pa_cons (pv 5) pa_nil)))))))) rd

end BG
set_option maxHeartbeats 4000000
namespace BG
open PySem PySem.Spec PyProof.Rows L2
theorem f_raise_tracks {P : Program} {w : World} {K : PySem.W.Frag} {mg : Str → Option Value} {base : Heap} {k : Nat} (T : Fs K mg)  (G_alone_raised : FnR P w K mg base CX0 k 923 (sp_alone_raised K)) (G_in_order : FnR P w K mg base CX0 k 928 (sp_in_order K)) (G_lack_of : FnR P w K mg base CX0 k 935 (sp_lack_of K)) (G_deal : FnR P w K mg base CX0 k 699 (sp_deal K)) (G_track_weights : FnR P w K mg base CX0 k 916 (sp_track_weights K)) (G_track_name : FnR P w K mg base CX0 k 909 (sp_track_name K)) {sp : Sp}
    (len : ∀ vs H Q E, sp vs H Q E → vs.length = 4)
    (rd : ∀ (vs : List V) (H : Hp) (Q : VK) (E : XK), sp vs H Q E → r_raise_tracks K  { nx := fun _ H' => Q .non H', rt := Q } (start ["many", "gap", "floor", "asks", "numbers", "raises", "ask", "lack", "cells", "number"] vs) H) :
    FnR P w K mg base CX0 (k + 1) 942 sp :=
  T.d_raise_tracks.fn0 sc_raise_tracks (fun _ _ _ _ _ _ us hl => match us, hl with | [_, _, _, _], _ => rfl) len (r_raise_tracks K ) (fun cdv A outer s H E hr => by
    exact (pss_cons (ps_set (i := 4) sc_raise_tracks.nd rfl (Or.inl rfl) (pe_callR G_alone_raised hr rfl T.g_alone_raised T.d_alone_raised.kp pass0 (pa_cons (pv 2) (pa_cons (pv 3) pa_nil))))
    (pss_cons (ps_set (i := 5) sc_raise_tracks.nd rfl (Or.inl rfl) (pe_lst pa_nil))
    (pss_cons (ps_for PassesOwn.never rfl (pi_list (pe_callR G_in_order hr rfl T.g_in_order T.d_in_order.kp pass0 (pa_cons (pv 3) pa_nil))) (pg_name (i := 6) sc_raise_tracks.nd rfl (Or.inl rfl)) (pss_cons (ps_set (i := 7) sc_raise_tracks.nd rfl (Or.inl rfl) (pe_callR G_lack_of hr rfl T.g_lack_of T.d_lack_of.kp pass0 (pa_cons (pv 4) (pa_cons (pv 1) (pa_cons (pv 6) pa_nil)))))
    (pss_one (ps_if (pt_cmpR op_gt (pv 7) pe_int (nomark _)) (pss_cons (ps_set (i := 8) sc_raise_tracks.nd rfl (Or.inl rfl) (pe_callR G_deal hr rfl T.g_deal T.d_deal.kp pass0 (pa_cons (pv 7) (pa_cons (pe_callR G_track_weights hr rfl T.g_track_weights T.d_track_weights.kp pass0 (pa_cons (pe_ix ix_tup (pv 6) pe_int (fun _ _ => rfl)) (pa_cons (pe_ix ix_tup (pv 6) pe_int (fun _ _ => rfl)) pa_nil))) pa_nil))))
    (pss_one (ps_for PassesOwn.never rfl (pi_range2 rfl T.b_range (pa_cons (pe_ix ix_tup (pv 6) pe_int (fun _ _ => rfl)) (pa_cons (pe_op op_add (pe_ix ix_tup (pv 6) pe_int (fun _ _ => rfl)) (pe_ix ix_tup (pv 6) pe_int (fun _ _ => rfl))) pa_nil))) (pg_name (i := 9) sc_raise_tracks.nd rfl (Or.inl rfl)) (pss_one (ps_if (pt_cmpR op_gt (pe_dget (hu_of hr) (pv 8) (pe_callR G_track_name hr rfl T.g_track_name T.d_track_name.kp pass0 (pa_cons (pv 9) pa_nil)) (fun _ _ => rfl)) pe_int (nomark _)) (pss_cons (ps_expr (pe_bm PySem.F.plainAttrs_list PySem.F.slot_list_append PySem.F.type_list_append mt_append (pv 5) (pa_cons (pe_tup (pa_cons (pe_ix ix_tup (pv 6) pe_int (fun _ _ => rfl)) (pa_cons (pv 9) (pa_cons (pe_dget (hu_of hr) (pv 8) (pe_callR G_track_name hr rfl T.g_track_name T.d_track_name.kp pass0 (pa_cons (pv 9) pa_nil)) (fun _ _ => rfl)) pa_nil)))) pa_nil)))
    (pss_one (ps_augS (pv 4) (pv 9) get_list (pe_dget (hu_of hr) (pv 8) (pe_callR G_track_name hr rfl T.g_track_name T.d_track_name.kp pass0 (pa_cons (pv 9) pa_nil)) (fun _ _ => rfl)) ip_add set_list))) pss_nil))))) pss_nil))))
    (pss_one (ps_ret (pe_tup (pa_cons (pv 4) (pa_cons (pv 5) pa_nil))))))))) rd

theorem f_Table_init {P : Program} {w : World} {K : PySem.W.Frag} {mg : Str → Option Value} {base : Heap} {k : Nat} (T : Fs K mg)  (G_Box_init : FnR P w K mg base CX0 k 35 (sp_Box_init K)) (G_put_cells : FnR P w K mg base CX0 k 897 (sp_put_cells K)) (G_last_row : FnR P w K mg base CX0 k 902 (sp_last_row K)) {sp : Sp}
    (len : ∀ vs H Q E, sp vs H Q E → vs.length = 3)
    (rd : ∀ (vs : List V) (H : Hp) (Q : VK) (E : XK), sp vs H Q E → r_Table_init K  { nx := fun _ H' => Q .non H', rt := Q } (start ["self", "tree", "parts"] vs) H) :
    FnR P w K mg base CX0 (k + 1) 956 sp :=
  T.d_Table_init.fn0 sc_Table_init (fun _ _ _ _ _ _ us hl => match us, hl with | [_, _, _], _ => rfl) len (r_Table_init K ) (fun cdv A outer s H E hr => by
    exact (pss_cons (ps_expr (pe_cinit G_Box_init hr (by rfl) T.g_Box T.c_Box T.d_Box_init.kp pass0 (pa_cons (pv 0) (pa_cons (pv 1) (pa_cons (pv 2) pa_nil)))))
    (pss_cons (ps_fld (pv 0) (pe_ix ix_tup (pe_ix ix_tup (pv 1) pe_int (fun _ _ => rfl)) pe_int (fun _ _ => rfl)) rfl)
    (pss_cons (ps_fld (pv 0) (pe_ix ix_tup (pe_ix ix_tup (pv 1) pe_int (fun _ _ => rfl)) pe_int (fun _ _ => rfl)) rfl)
    (pss_cons (ps_fld (pv 0) (pe_ix ix_tup (pe_ix ix_tup (pv 1) pe_int (fun _ _ => rfl)) pe_int (fun _ _ => rfl)) rfl)
    (pss_cons (ps_fld (pv 0) (pe_callTy call_list_of (by rfl) T.b_list boot_list (pa_cons (pe_ix ix_tup (pe_ix ix_tup (pv 1) pe_int (fun _ _ => rfl)) pe_int (fun _ _ => rfl)) pa_nil)) rfl)
    (pss_cons (ps_fld (pv 0) (pe_callR G_put_cells hr rfl T.g_put_cells T.d_put_cells.kp pass0 (pa_cons (pe_fld (pv 0) rfl) (pa_cons (pe_fld (pv 0) rfl) pa_nil))) rfl)
    (pss_one (ps_fld (pv 0) (pe_callR G_last_row hr rfl T.g_last_row T.d_last_row.kp pass0 (pa_cons (pe_fld (pv 0) rfl) (pa_cons (pe_fld (pv 0) rfl) pa_nil))) rfl))))))))) rd

theorem f_Table_sums {P : Program} {w : World} {K : PySem.W.Frag} {mg : Str → Option Value} {base : Heap} {k : Nat} (T : Fs K mg)  {sp : Sp}
    (len : ∀ vs H Q E, sp vs H Q E → vs.length = 1)
    (rd : ∀ (vs : List V) (H : Hp) (Q : VK) (E : XK), sp vs H Q E → r_Table_sums K  { nx := fun _ H' => Q .non H', rt := Q } (start ["self"] vs) H) :
    FnR P w K mg base CX0 (k + 1) 963 sp :=
  T.d_Table_sums.fn0 sc_Table_sums (fun _ _ _ _ _ _ us hl => match us, hl with | [_], _ => rfl) len (r_Table_sums K ) (fun cdv A outer s H E hr => by
    exact (pss_one (ps_ret pe_bl))) rd

theorem f_Table_asks {P : Program} {w : World} {K : PySem.W.Frag} {mg : Str → Option Value} {base : Heap} {k : Nat} (T : Fs K mg)  {sp : Sp}
    (len : ∀ vs H Q E, sp vs H Q E → vs.length = 3)
    (rd : ∀ (vs : List V) (H : Hp) (Q : VK) (E : XK), sp vs H Q E → r_Table_asks K  { nx := fun _ H' => Q .non H', rt := Q } (start ["self", "axis", "numbers", "found", "at", "part"] vs) H) :
    FnR P w K mg base CX0 (k + 1) 977 sp :=
  T.d_Table_asks.fn0 sc_Table_asks (fun _ _ _ _ _ _ us hl => match us, hl with | [_, _, _], _ => rfl) len (r_Table_asks K ) (fun cdv A outer s H E hr => by
    exact (pss_cons (ps_set (i := 3) sc_Table_asks.nd rfl (Or.inl rfl) (pe_lst pa_nil))
    (pss_cons (ps_for PassesOwn.never rfl (pi_enum (by rfl) T.b_enumerate (pa_cons (pe_fld (pv 0) rfl) pa_nil)) (pg_tup (by rfl) (pgs_cons (pg_name (i := 4) sc_Table_asks.nd rfl (Or.inl rfl)) (pgs_cons (pg_name (i := 5) sc_Table_asks.nd rfl (Or.inl rfl)) pgs_nil))) (pss_one (ps_expr (pe_bm PySem.F.plainAttrs_list PySem.F.slot_list_append PySem.F.type_list_append mt_append (pv 3) (pa_cons (pe_tup (pa_cons (pe_fld (pv 5) rfl) (pa_cons (pe_ix ix_tup (pe_ix ix_list (pe_fld (pv 0) rfl) (pv 4) (fun _ _ => rfl)) (pe_op op_sub pe_int (pv 1)) (fun _ _ => rfl)) (pa_cons (pe_ix ix_tup (pe_ix ix_list (pe_fld (pv 0) rfl) (pv 4) (fun _ _ => rfl)) (pv 1) (fun _ _ => rfl)) (pa_cons (pe_ix ix_list (pv 2) (pv 4) (fun _ _ => rfl)) pa_nil))))) pa_nil)))))
    (pss_one (ps_ret (pv 3)))))) rd

theorem f_Table_asked_least {P : Program} {w : World} {K : PySem.W.Frag} {mg : Str → Option Value} {base : Heap} {k : Nat} (T : Fs K mg)  (D_asks : DispOk P w K mg base CX0 k [1060] "asks" (sp_asks K)) (G_raise_tracks : FnR P w K mg base CX0 k 942 (sp_raise_tracks K)) (G_gaps_in : FnR P w K mg base CX0 k 706 (sp_gaps_in K)) {sp : Sp}
    (len : ∀ vs H Q E, sp vs H Q E → vs.length = 2)
    (rd : ∀ (vs : List V) (H : Hp) (Q : VK) (E : XK), sp vs H Q E → r_Table_asked_least K  { nx := fun _ H' => Q .non H', rt := Q } (start ["self", "leasts", "asks", "numbers", "raises", "part"] vs) H) :
    FnR P w K mg base CX0 (k + 1) 1022 sp :=
  T.d_Table_asked_least.fn0 sc_Table_asked_least (fun _ _ _ _ _ _ us hl => match us, hl with | [_, _], _ => rfl) len (r_Table_asked_least K ) (fun cdv A outer s H E hr => by
    exact (pss_cons (ps_if (pt_cmpR (op_eqNil hr.units) (pe_fld (pv 0) rfl) (pe_lst pa_nil) (nomark _)) (pss_one (ps_ret pe_int)) pss_nil)
    (pss_cons (ps_set (i := 2) sc_Table_asked_least.nd rfl (Or.inl rfl) (pe_methD (pv 0) D_asks hr pass0 (pa_cons pe_int (pa_cons (pe_lc (own := [("part", 5)]) (g := (gName 5)) (tt := tYes) rfl sc_Table_asked_least.nd  (pi_list (pe_fld (pv 0) rfl)) (blkOk_by (own := [("part", 5)]) (N := ["self", "leasts", "asks", "numbers", "raises", "part"]) (sc := defScope s_Table_asked_least) (by decide +kernel)) (fun _ _ _ _ _ => (pg_name (i := 5) sc_Table_asked_least.nd rfl (Or.inl rfl))) (fun _ _ _ _ _ => pts_nil) (fun _ _ _ _ _ => (pe_dget (hu_of hr) (pv 1) (pe_fld (pv 5) rfl) (fun _ _ => rfl)))) pa_nil))))
    (pss_cons (ps_asg (pe_callR G_raise_tracks hr rfl T.g_raise_tracks T.d_raise_tracks.kp pass0 (pa_cons (pe_fld (pv 0) rfl) (pa_cons (pe_fld (pv 0) rfl) (pa_cons (pe_op op_rep (pe_lst (pa_cons pe_int pa_nil)) (pe_fld (pv 0) rfl)) (pa_cons (pv 2) pa_nil))))) (pg_tup (by rfl) (pgs_cons (pg_name (i := 3) sc_Table_asked_least.nd rfl (Or.inl rfl)) (pgs_cons (pg_name (i := 4) sc_Table_asked_least.nd rfl (Or.inl rfl)) pgs_nil))))
    (pss_one (ps_ret (pe_op op_add (pe_callB (cr_sum rfl) (by rfl) T.b_sum boot_sum (pa_cons (pv 3) pa_nil)) (pe_callR G_gaps_in hr rfl T.g_gaps_in T.d_gaps_in.kp pass0 (pa_cons (pe_fld (pv 0) rfl) (pa_cons (pe_fld (pv 0) rfl) pa_nil)))))))))) rd

theorem f_Wrap_init {P : Program} {w : World} {K : PySem.W.Frag} {mg : Str → Option Value} {base : Heap} {k : Nat} (T : Fs K mg)  (G_Box_init : FnR P w K mg base CX0 k 35 (sp_Box_init K)) {sp : Sp}
    (len : ∀ vs H Q E, sp vs H Q E → vs.length = 3)
    (rd : ∀ (vs : List V) (H : Hp) (Q : VK) (E : XK), sp vs H Q E → r_Wrap_init K  { nx := fun _ H' => Q .non H', rt := Q } (start ["self", "tree", "parts"] vs) H) :
    FnR P w K mg base CX0 (k + 1) 1076 sp :=
  T.d_Wrap_init.fn0 sc_Wrap_init (fun _ _ _ _ _ _ us hl => match us, hl with | [_, _, _], _ => rfl) len (r_Wrap_init K ) (fun cdv A outer s H E hr => by
    exact (pss_cons (ps_expr (pe_cinit G_Box_init hr (by rfl) T.g_Box T.c_Box T.d_Box_init.kp pass0 (pa_cons (pv 0) (pa_cons (pv 1) (pa_cons (pv 2) pa_nil)))))
    (pss_cons (ps_fld (pv 0) (pe_ix ix_tup (pe_ix ix_tup (pv 1) pe_int (fun _ _ => rfl)) pe_int (fun _ _ => rfl)) rfl)
    (pss_cons (ps_fld (pv 0) (pe_ix ix_tup (pe_ix ix_tup (pv 1) pe_int (fun _ _ => rfl)) pe_int (fun _ _ => rfl)) rfl)
    (pss_one (ps_fld (pv 0) (pe_ix ix_tup (pe_ix ix_tup (pv 1) pe_int (fun _ _ => rfl)) pe_int (fun _ _ => rfl)) rfl)))))) rd

theorem f_Wrap_asked_least {P : Program} {w : World} {K : PySem.W.Frag} {mg : Str → Option Value} {base : Heap} {k : Nat} (T : Fs K mg)  (G_of_parts : FnR P w K mg base CX0 k 721 (sp_of_parts K)) {sp : Sp}
    (len : ∀ vs H Q E, sp vs H Q E → vs.length = 2)
    (rd : ∀ (vs : List V) (H : Hp) (Q : VK) (E : XK), sp vs H Q E → r_Wrap_asked_least K  { nx := fun _ H' => Q .non H', rt := Q } (start ["self", "leasts"] vs) H) :
    FnR P w K mg base CX0 (k + 1) 1090 sp :=
  T.d_Wrap_asked_least.fn0 sc_Wrap_asked_least (fun _ _ _ _ _ _ us hl => match us, hl with | [_, _], _ => rfl) len (r_Wrap_asked_least K ) (fun cdv A outer s H E hr => by
    exact (pss_one (ps_ret (pe_maxD rfl hr.units (by rfl) T.b_max (pe_callR G_of_parts hr rfl T.g_of_parts T.d_of_parts.kp pass0 (pa_cons (pv 0) (pa_cons (pv 1) pa_nil))) pe_int)))) rd

theorem f_of {P : Program} {w : World} {K : PySem.W.Frag} {mg : Str → Option Value} {base : Heap} {k : Nat} (T : Fs K mg) (d : Nat) (G_of : FnR P w K mg base CX0 k 1170 (sp_of K d)) (G_Leaf_init : FnR P w K mg base CX0 k 161 (sp_boxi K .leaf)) (G_Row_init : FnR P w K mg base CX0 k 735 (sp_boxi K .row)) (G_Column_init : FnR P w K mg base CX0 k 817 (sp_boxi K .col)) (G_Wrap_init : FnR P w K mg base CX0 k 1076 (sp_boxi K .wrap)) (G_Table_init : FnR P w K mg base CX0 k 956 (sp_boxi K .table)) {sp : Sp}
    (len : ∀ vs H Q E, sp vs H Q E → vs.length = 1)
    (rd : ∀ (vs : List V) (H : Hp) (Q : VK) (E : XK), sp vs H Q E → r_of K d { nx := fun _ H' => Q .non H', rt := Q } (start ["tree", "parts", "part"] vs) H) :
    FnR P w K mg base CX0 (k + 1 + 1) 1170 sp :=
  T.d_of.fn0 sc_of (fun _ _ _ _ _ _ us hl => match us, hl with | [_], _ => rfl) len (r_of K d) (fun cdv A outer s H E hr => by
    have hr1 : Room (k + 1) _ := hr; have hr : Room k _ := hr1.mono (Nat.le_succ k); exact (pss_cons (ps_setLc (i := 1) (own := [("part", 2)]) (g := (gName 2)) (tt := tYes) rfl sc_of.nd rfl rfl (sw_true rfl rfl rfl (by decide +kernel)) (pi_tup (pe_ix ix_tup (pv 0) pe_int (fun _ _ => rfl))) (blkOk_by (own := [("part", 2)]) (N := ["tree", "parts", "part"]) (sc := defScope s_of) (by decide +kernel)) (fun _ _ _ _ _ => (pg_name (i := 2) sc_of.nd rfl (Or.inl rfl))) (fun _ _ _ _ _ => pts_nil) (fun _ _ _ _ _ => (pe_callR G_of hr rfl T.g_of T.d_of.kp pass0 (pa_cons (pv 2) pa_nil))))
    (pss_cons (ps_if (pt_cmpR op_eq (pe_ix ix_tup (pv 0) pe_int (fun _ _ => rfl)) pe_str (nomark _)) (pss_one (ps_ret (StX.pe_makeR T.m_Leaf G_Leaf_init hr1 rfl T.g_Leaf pass0 (pa_cons (pv 0) (pa_cons (pv 1) pa_nil))))) pss_nil)
    (pss_cons (ps_if (pt_cmpR op_eq (pe_ix ix_tup (pv 0) pe_int (fun _ _ => rfl)) pe_str (nomark _)) (pss_one (ps_ret (StX.pe_makeR T.m_Row G_Row_init hr1 rfl T.g_Row pass0 (pa_cons (pv 0) (pa_cons (pv 1) pa_nil))))) pss_nil)
    (pss_cons (ps_if (pt_cmpR op_eq (pe_ix ix_tup (pv 0) pe_int (fun _ _ => rfl)) pe_str (nomark _)) (pss_one (ps_ret (StX.pe_makeR T.m_Column G_Column_init hr1 rfl T.g_Column pass0 (pa_cons (pv 0) (pa_cons (pv 1) pa_nil))))) pss_nil)
    (pss_cons (ps_if (pt_cmpR op_eq (pe_ix ix_tup (pv 0) pe_int (fun _ _ => rfl)) pe_str (nomark _)) (pss_one (ps_ret (StX.pe_makeR T.m_Wrap G_Wrap_init hr1 rfl T.g_Wrap pass0 (pa_cons (pv 0) (pa_cons (pv 1) pa_nil))))) pss_nil)
    (pss_cons (ps_if (pt_cmpR op_eq (pe_ix ix_tup (pv 0) pe_int (fun _ _ => rfl)) pe_str (nomark _)) (pss_one (ps_ret (StX.pe_makeR T.m_Table G_Table_init hr1 rfl T.g_Table pass0 (pa_cons (pv 0) (pa_cons (pv 1) pa_nil))))) pss_nil)
    (pss_cons (ps_if (pt_cmpR op_eq (pe_ix ix_tup (pv 0) pe_int (fun _ _ => rfl)) pe_str (nomark _)) (pss_one ps_never) pss_nil)
    (pss_cons (ps_if (pt_cmpR op_eq (pe_ix ix_tup (pv 0) pe_int (fun _ _ => rfl)) pe_str (nomark _)) (pss_one ps_never) pss_nil)
    (pss_one ps_never)))))))))) rd

end BG
set_option maxHeartbeats 4000000
namespace BG
open PySem PySem.Spec PyProof.Rows L2
theorem f_settle {P : Program} {w : World} {K : PySem.W.Frag} {mg : Str → Option Value} {base : Heap} {k : Nat} (T : Fs K mg) (d : Nat) (G_settle : FnR P w K mg base CX0 k 1177 (sp_settle K d)) (D_asked : DispOk P w K mg base CX0 k [178, 801, 876, 1060, 1163] "asked_least" (sp_asked K)) (D_asker : DispOk P w K mg base CX0 k [178, 801, 876, 1060, 1163] "asker" (sp_asker K)) {sp : Sp}
    (len : ∀ vs H Q E, sp vs H Q E → vs.length = 3)
    (rd : ∀ (vs : List V) (H : Hp) (Q : VK) (E : XK), sp vs H Q E → r_settle K d { nx := fun _ H' => Q .non H', rt := Q } (start ["box", "leasts", "reasons", "rank", "part", "word", "name"] vs) H) :
    FnR P w K mg base CX0 (k + 1) 1177 sp :=
  T.d_settle.fn0 sc_settle (fun _ _ _ _ _ _ us hl => match us, hl with | [_, _, _], _ => rfl) len (r_settle K d) (fun cdv A outer s H E hr => by
    exact (pss_cons (ps_set (i := 3) sc_settle.nd rfl (Or.inl rfl) (pe_globI rfl T.v_LOWEST))
    (pss_cons (ps_for PassesOwn.never rfl (pi_list (pe_fld (pv 0) rfl)) (pg_name (i := 4) sc_settle.nd rfl (Or.inl rfl)) (pss_cons (ps_expr (pe_callR G_settle hr rfl T.g_settle T.d_settle.kp pass0 (pa_cons (pv 4) (pa_cons (pv 1) (pa_cons (pv 2) pa_nil)))))
    (pss_one (ps_set (i := 3) sc_settle.nd rfl (Or.inl rfl) (pe_callB (call_max2 rfl) (by rfl) T.b_max boot_max (pa_cons (pv 3) (pa_cons (pe_ix ix_tup (pe_dget (hu_of hr) (pv 2) (pe_fld (pv 4) rfl) (fun _ _ => rfl)) pe_int (fun _ _ => rfl)) pa_nil)))))))
    (pss_cons (ps_dput (hu_of hr) (pv 1) (pe_fld (pv 0) rfl) (pe_callB (call_max2 rfl) (by rfl) T.b_max boot_max (pa_cons (pe_ix ix_tup (pe_fld (pv 0) rfl) pe_int (fun _ _ => rfl)) (pa_cons (pe_methD (pv 0) D_asked hr pass0 (pa_cons (pv 1) pa_nil)) pa_nil))) rfl)
    (pss_cons (ps_dput (hu_of hr) (pv 2) (pe_fld (pv 0) rfl) (pe_tup (pa_cons pe_str (pa_cons pe_str (pa_cons (pe_globI rfl T.v_LOWEST) pa_nil)))) rfl)
    (pss_one (ps_if (pt_cmpR op_gt (pe_dget (hu_of hr) (pv 1) (pe_fld (pv 0) rfl) (fun _ _ => rfl)) (pe_ix ix_tup (pe_fld (pv 0) rfl) pe_int (fun _ _ => rfl)) (nomark _)) (pss_cons (ps_asg (pe_methD (pv 0) D_asker hr pass0 (pa_cons (pv 1) pa_nil)) (pg_tup (by rfl) (pgs_cons (pg_name (i := 5) sc_settle.nd rfl (Or.inl rfl)) (pgs_cons (pg_name (i := 6) sc_settle.nd rfl (Or.inl rfl)) pgs_nil))))
    (pss_one (ps_dput (hu_of hr) (pv 2) (pe_fld (pv 0) rfl) (pe_tup (pa_cons (pv 5) (pa_cons (pv 6) (pa_cons (pe_op op_add (pv 3) pe_int) pa_nil)))) rfl))) pss_nil))))))) rd

theorem f_free_boxes {P : Program} {w : World} {K : PySem.W.Frag} {mg : Str → Option Value} {base : Heap} {k : Nat} (T : Fs K mg) (d : Nat) (G_settle : FnR P w K mg base CX0 k 1177 (sp_settle K 9)) (G_free_boxes : FnR P w K mg base CX0 k 1184 (sp_free_boxes K d)) {sp : Sp}
    (len : ∀ vs H Q E, sp vs H Q E → vs.length = 3)
    (rd : ∀ (vs : List V) (H : Hp) (Q : VK) (E : XK), sp vs H Q E → r_free_boxes K d { nx := fun _ H' => Q .non H', rt := Q } (start ["box", "leasts", "reasons", "found", "part"] vs) H) :
    FnR P w K mg base CX0 (k + 1) 1184 sp :=
  T.d_free_boxes.fn0 sc_free_boxes (fun _ _ _ _ _ _ us hl => match us, hl with | [_, _, _], _ => rfl) len (r_free_boxes K d) (fun cdv A outer s H E hr => by
    exact (pss_cons (ps_if (pt_val (pe_callB call_isi (by rfl) T.b_isinstance boot_isinstance (pa_cons (pv 0) (pa_cons (pe_glob rfl T.g_Table rfl) pa_nil)))) (pss_cons (ps_expr (pe_callR G_settle hr rfl T.g_settle T.d_settle.kp pass0 (pa_cons (pv 0) (pa_cons (pv 1) (pa_cons (pv 2) pa_nil)))))
    (pss_one (ps_ret (pe_lst pa_nil)))) pss_nil)
    (pss_cons (ps_set (i := 3) sc_free_boxes.nd rfl (Or.inl rfl) (pe_lst (pa_cons (pv 0) pa_nil)))
    (pss_cons (ps_for PassesOwn.never rfl (pi_list (pe_fld (pv 0) rfl)) (pg_name (i := 4) sc_free_boxes.nd rfl (Or.inl rfl)) (pss_one (ps_expr (pe_bm PySem.F.plainAttrs_list PySem.F.slot_list_extend PySem.F.type_list_extend mt_extend (pv 3) (pa_cons (pe_callR G_free_boxes hr rfl T.g_free_boxes T.d_free_boxes.kp pass0 (pa_cons (pv 4) (pa_cons (pv 1) (pa_cons (pv 2) pa_nil)))) pa_nil)))))
    (pss_one (ps_ret (pv 3))))))) rd

theorem f_asks_of {P : Program} {w : World} {K : PySem.W.Frag} {mg : Str → Option Value} {base : Heap} {k : Nat} (T : Fs K mg)  (D_asked : DispOk P w K mg base CX0 k [178, 801, 876, 1060, 1163] "asked_least" (sp_asked K)) {sp : Sp}
    (len : ∀ vs H Q E, sp vs H Q E → vs.length = 2)
    (rd : ∀ (vs : List V) (H : Hp) (Q : VK) (E : XK), sp vs H Q E → r_asks_of K  { nx := fun _ H' => Q .non H', rt := Q } (start ["free", "leasts", "asks", "groups", "box"] vs) H) :
    FnR P w K mg base CX0 (k + 1) 1191 sp :=
  T.d_asks_of.fn0 sc_asks_of (fun _ _ _ _ _ _ us hl => match us, hl with | [_, _], _ => rfl) len (r_asks_of K ) (fun cdv A outer s H E hr => by
    exact (pss_cons (ps_set (i := 2) sc_asks_of.nd rfl (Or.inl rfl) pe_dnewK)
    (pss_cons (ps_set (i := 3) sc_asks_of.nd rfl (Or.inl rfl) pe_dnewK)
    (pss_cons (ps_for PassesOwn.never rfl (pi_list (pv 0)) (pg_name (i := 4) sc_asks_of.nd rfl (Or.inl rfl)) (pss_cons (ps_dput (hu_of hr) (pv 2) (pe_fld (pv 4) rfl) (pe_callB (call_max2 rfl) (by rfl) T.b_max boot_max (pa_cons (pe_ix ix_tup (pe_fld (pv 4) rfl) pe_int (fun _ _ => rfl)) (pa_cons (pe_methD (pv 4) D_asked hr pass0 (pa_cons (pv 1) pa_nil)) pa_nil))) rfl)
    (pss_one (ps_if (PW.pt (pw_and (pt_cmpR op_gt (pe_fld (pv 4) rfl) pe_int (nomark _)) (pw_and1 (pt_cmpR op_gt (pe_dget (hu_of hr) (pv 2) (pe_fld (pv 4) rfl) (fun _ _ => rfl)) (pe_ix ix_tup (pe_dget2 (hu_of hr) (pv 3) (pe_fld (pv 4) rfl) (pe_tup (pa_cons (pe_un un_neg pe_int) (pa_cons pe_str pa_nil))) ⟨rfl, rfl, rfl, rfl⟩) pe_int (fun _ _ => rfl)) (nomark _))))) (pss_one (ps_dput (hu_of hr) (pv 3) (pe_fld (pv 4) rfl) (pe_tup (pa_cons (pe_dget (hu_of hr) (pv 2) (pe_fld (pv 4) rfl) (fun _ _ => rfl)) (pa_cons (pe_fld (pv 4) rfl) pa_nil))) rfl)) pss_nil))))
    (pss_one (ps_ret (pe_tup (pa_cons (pv 2) (pa_cons (pv 3) pa_nil))))))))) rd

theorem f_Rounds_init {P : Program} {w : World} {K : PySem.W.Frag} {mg : Str → Option Value} {base : Heap} {k : Nat} (T : Fs K mg)  (G_free_boxes : FnR P w K mg base CX0 k 1184 (sp_free_boxes K 9)) {sp : Sp}
    (len : ∀ vs H Q E, sp vs H Q E → vs.length = 2)
    (rd : ∀ (vs : List V) (H : Hp) (Q : VK) (E : XK), sp vs H Q E → r_Rounds_init K  { nx := fun _ H' => Q .non H', rt := Q } (start ["self", "box", "one"] vs) H) :
    FnR P w K mg base CX0 (k + 1) 1205 sp :=
  T.d_Rounds_init.fn0 sc_Rounds_init (fun _ _ _ _ _ _ us hl => match us, hl with | [_, _], _ => rfl) len (r_Rounds_init K ) (fun cdv A outer s H E hr => by
    exact (pss_cons (ps_fld (pv 0) pe_dnewK rfl)
    (pss_cons (ps_fld (pv 0) pe_dnewK rfl)
    (pss_cons (ps_fld (pv 0) (pe_callR G_free_boxes hr rfl T.g_free_boxes T.d_free_boxes.kp pass0 (pa_cons (pv 1) (pa_cons (pe_fld (pv 0) rfl) (pa_cons (pe_fld (pv 0) rfl) pa_nil)))) rfl)
    (pss_cons (ps_for PassesOwn.never rfl (pi_list (pe_fld (pv 0) rfl)) (pg_name (i := 2) sc_Rounds_init.nd rfl (Or.inl rfl)) (pss_cons (ps_dput (hu_of hr) (pe_fld (pv 0) rfl) (pe_fld (pv 2) rfl) pe_int rfl)
    (pss_one (ps_dput (hu_of hr) (pe_fld (pv 0) rfl) (pe_fld (pv 2) rfl) (pe_tup (pa_cons pe_str (pa_cons pe_str (pa_cons pe_int pa_nil)))) rfl))))
    (pss_one (ps_fld (pv 0) (pe_lst pa_nil) rfl))))))) rd

theorem f_Rounds_reason {P : Program} {w : World} {K : PySem.W.Frag} {mg : Str → Option Value} {base : Heap} {k : Nat} (T : Fs K mg)  (D_asked : DispOk P w K mg base CX0 k [178, 801, 876, 1060, 1163] "asked_least" (sp_asked K)) (D_asker : DispOk P w K mg base CX0 k [178, 801, 876, 1060, 1163] "asker" (sp_asker K)) {sp : Sp}
    (len : ∀ vs H Q E, sp vs H Q E → vs.length = 5)
    (rd : ∀ (vs : List V) (H : Hp) (Q : VK) (E : XK), sp vs H Q E → r_Rounds_reason K  { nx := fun _ H' => Q .non H', rt := Q } (start ["self", "box", "least", "named", "turn", "word", "name"] vs) H) :
    FnR P w K mg base CX0 (k + 1) 1212 sp :=
  T.d_Rounds_reason.fn0 sc_Rounds_reason (fun _ _ _ _ _ _ us hl => match us, hl with | [_, _, _, _, _], _ => rfl) len (r_Rounds_reason K ) (fun cdv A outer s H E hr => by
    exact (pss_cons (ps_if (pt_cmpR op_eq (pe_ix ix_tup (pe_fld (pv 1) rfl) pe_int (fun _ _ => rfl)) (pv 2) (nomark _)) (pss_one (ps_ret (pe_tup (pa_cons pe_str (pa_cons pe_str (pa_cons (pe_op op_mul pe_int (pv 4)) pa_nil)))))) pss_nil)
    (pss_cons (ps_if (pt_cmpR op_eq (pe_methD (pv 1) D_asked hr pass0 (pa_cons (pe_fld (pv 0) rfl) pa_nil)) (pv 2) (nomark _)) (pss_cons (ps_asg (pe_methD (pv 1) D_asker hr pass0 (pa_cons (pe_fld (pv 0) rfl) pa_nil)) (pg_tup (by rfl) (pgs_cons (pg_name (i := 5) sc_Rounds_reason.nd rfl (Or.inl rfl)) (pgs_cons (pg_name (i := 6) sc_Rounds_reason.nd rfl (Or.inl rfl)) pgs_nil))))
    (pss_one (ps_ret (pe_tup (pa_cons (pv 5) (pa_cons (pv 6) (pa_cons (pe_op op_mul pe_int (pv 4)) pa_nil))))))) pss_nil)
    (pss_one (ps_ret (pe_tup (pa_cons pe_str (pa_cons (pv 3) (pa_cons (pe_op op_add (pe_op op_mul pe_int (pv 4)) pe_int) pa_nil))))))))) rd

theorem f_ring_of {P : Program} {w : World} {K : PySem.W.Frag} {mg : Str → Option Value} {base : Heap} {k : Nat} (T : Fs K mg)  {sp : Sp}
    (len : ∀ vs H Q E, sp vs H Q E → vs.length = 1)
    (rd : ∀ (vs : List V) (H : Hp) (Q : VK) (E : XK), sp vs H Q E → r_ring_of K  { nx := fun _ H' => Q .non H', rt := Q } (start ["rounds", "named", "box", "at", "name", "seen", "word", "other", "rank", "part"] vs) H) :
    FnR P w K mg base CX0 (k + 1) 1231 sp :=
  T.d_ring_of.fn0 sc_ring_of (fun _ _ _ _ _ _ us hl => match us, hl with | [_], _ => rfl) len (r_ring_of K ) (fun cdv A outer s H E hr => by
    exact (pss_cons (ps_set (i := 1) sc_ring_of.nd rfl (Or.inl rfl) pe_dnewK)
    (pss_cons (ps_for PassesOwn.never rfl (pi_list (pe_fld (pv 0) rfl)) (pg_name (i := 2) sc_ring_of.nd rfl (Or.inl rfl)) (pss_one (ps_dput (hu_of hr) (pv 1) (pe_fld (pv 2) rfl) (pv 2) rfl)))
    (pss_cons (ps_set (i := 3) sc_ring_of.nd rfl (Or.inr rfl) (pe_op op_sub (pe_callB call_len_seq (by rfl) T.b_len boot_len (pa_cons (pe_fld (pv 0) rfl) pa_nil)) pe_int))
    (pss_cons (ps_set (i := 4) sc_ring_of.nd rfl (Or.inl rfl) (pe_ix ix_list (pe_callTy (call_listD rfl) (by rfl) T.b_list boot_list (pa_cons (pe_ix ix_list (pe_fld (pv 0) rfl) (pv 3) (fun _ _ => rfl)) pa_nil)) pe_int (fun _ _ => rfl)))
    (pss_cons (ps_set (i := 5) sc_ring_of.nd rfl (Or.inl rfl) (pe_lst pa_nil))
    (pss_cons (ps_while PassesOwn.never (pt_cmpR op_notIn_seq (pv 4) (pv 5) (by rfl)) (pss_cons (ps_expr (pe_bm PySem.F.plainAttrs_list PySem.F.slot_list_append PySem.F.type_list_append mt_append (pv 5) (pa_cons (pv 4) pa_nil)))
    (pss_cons (ps_asg (pe_dget (hu_of hr) (pe_ix ix_list (pe_fld (pv 0) rfl) (pv 3) (fun _ _ => rfl)) (pv 4) (fun _ _ => rfl)) (pg_tup (by rfl) (pgs_cons (pg_name (i := 6) sc_ring_of.nd rfl (Or.inl rfl)) (pgs_cons (pg_name (i := 7) sc_ring_of.nd rfl (Or.inl rfl)) (pgs_cons (pg_name (i := 8) sc_ring_of.nd rfl (Or.inl rfl)) pgs_nil)))))
    (pss_cons (ps_if (pt_cmpR op_ne (pv 6) pe_str (nomark _)) (pss_one (ps_aug (i := 3) sc_ring_of.nd rfl (.inr rfl) pe_int ip_sub)) pss_nil)
    (pss_cons (ps_if (pt_cmpR op_eq (pv 6) pe_str (nomark _)) (pss_one (ps_set (i := 7) sc_ring_of.nd rfl (Or.inl rfl) (pe_ix ix_list (pe_lc (own := [("part", 9)]) (g := (gName 9)) (tt := (tB (tDIn (tFld K (tVar 9) "name") (tOp (rIxL K) (tFld K (tVar 0) "past") (tVar 3))))) rfl sc_ring_of.nd  (pi_list (pe_fld (pe_dget (hu_of hr) (pv 1) (pv 4) (fun _ _ => rfl)) rfl)) (blkOk_by (own := [("part", 9)]) (N := ["rounds", "named", "box", "at", "name", "seen", "word", "other", "rank", "part"]) (sc := defScope s_ring_of) (by decide +kernel)) (fun _ _ _ _ _ => (pg_name (i := 9) sc_ring_of.nd rfl (Or.inl rfl))) (fun _ _ _ _ _ => pts_one (pt_cmp (pc_din (hu_of hr) (pe_fld (pv 9) rfl) (pe_ix ix_list (pe_fld (pv 0) rfl) (pv 3) (fun _ _ => rfl))) (by rfl))) (fun _ _ _ _ _ => (pe_fld (pv 9) rfl))) pe_int (fun _ _ => rfl)))) pss_nil)
    (pss_one (ps_set (i := 4) sc_ring_of.nd rfl (Or.inl rfl) (pv 7))))))))
    (pss_one (ps_ret (pe_op op_cat (pe_slice sl_list (pv 5) (po_some (pe_bm PySem.F.plainAttrs_list PySem.F.slot_list_index PySem.F.type_list_index mt_index (pv 5) (pa_cons (pv 4) pa_nil))) po_none) (pe_lst (pa_cons (pv 4) pa_nil)))))))))))) rd

theorem f_reason_holds {P : Program} {w : World} {K : PySem.W.Frag} {mg : Str → Option Value} {base : Heap} {k : Nat} (T : Fs K mg)  (D_alone : DispOk P w K mg base CX0 k [178, 801, 876, 1060, 1163] "alone_least" (sp_alone K)) (D_sums : DispOk P w K mg base CX0 k [178, 801, 876, 1060, 1163] "sums" (sp_sums K)) (D_asked : DispOk P w K mg base CX0 k [178, 801, 876, 1060, 1163] "asked_least" (sp_asked K)) {sp : Sp}
    (len : ∀ vs H Q E, sp vs H Q E → vs.length = 4)
    (rd : ∀ (vs : List V) (H : Hp) (Q : VK) (E : XK), sp vs H Q E → r_reason_holds K  { nx := fun _ H' => Q .non H', rt := Q } (start ["box", "leasts", "paper", "groups", "word", "name", "rank", "least", "lower", "part"] vs) H) :
    FnR P w K mg base CX0 (k + 1) 1243 sp :=
  T.d_reason_holds.fn0 sc_reason_holds (fun _ _ _ _ _ _ us hl => match us, hl with | [_, _, _, _], _ => rfl) len (r_reason_holds K ) (fun cdv A outer s H E hr => by
    exact (pss_cons (ps_asg (pe_dget (hu_of hr) (pv 2) (pe_fld (pv 0) rfl) (fun _ _ => rfl)) (pg_tup (by rfl) (pgs_cons (pg_name (i := 4) sc_reason_holds.nd rfl (Or.inl rfl)) (pgs_cons (pg_name (i := 5) sc_reason_holds.nd rfl (Or.inl rfl)) (pgs_cons (pg_name (i := 6) sc_reason_holds.nd rfl (Or.inr rfl)) pgs_nil)))))
    (pss_cons (ps_set (i := 7) sc_reason_holds.nd rfl (Or.inl rfl) (pe_dget (hu_of hr) (pv 1) (pe_fld (pv 0) rfl) (fun _ _ => rfl)))
    (pss_cons (ps_if (pt_cmpR op_eq (pv 4) pe_str (nomark _)) (pss_one (ps_ret (pe_and (pe_cmpR op_eq (pv 5) pe_str (nomark _)) (pe_one (pe_cmpR op_eq (pv 7) (pe_callB (call_max2 rfl) (by rfl) T.b_max boot_max (pa_cons (pe_ix ix_tup (pe_fld (pv 0) rfl) pe_int (fun _ _ => rfl)) (pa_cons (pe_methD0 (pv 0) D_alone hr pass0) pa_nil))) (nomark _)))))) pss_nil)
    (pss_cons (ps_if (pt_cmpR op_eq (pv 4) pe_str (nomark _)) (pss_cons (ps_set (i := 8) sc_reason_holds.nd rfl (Or.inl rfl) (pe_callB (cr_all rfl) (by rfl) T.b_all boot_all (pa_cons (pe_lc (own := [("part", 9)]) (g := (gName 9)) (tt := tYes) rfl sc_reason_holds.nd  (pi_list (pe_fld (pv 0) rfl)) (blkOk_by (own := [("part", 9)]) (N := ["box", "leasts", "paper", "groups", "word", "name", "rank", "least", "lower", "part"]) (sc := defScope s_reason_holds) (by decide +kernel)) (fun _ _ _ _ _ => (pg_name (i := 9) sc_reason_holds.nd rfl (Or.inl rfl))) (fun _ _ _ _ _ => pts_nil) (fun _ _ _ _ _ => (pe_cmpR op_lt (pe_ix ix_tup (pe_dget (hu_of hr) (pv 2) (pe_fld (pv 9) rfl) (fun _ _ => rfl)) pe_int (fun _ _ => rfl)) (pv 6) (nomark _)))) pa_nil)))
    (pss_one (ps_ret (pe_and (pe_cmpR op_eq (pv 5) pe_str (nomark _)) (pe_and (pv 8) (pe_and (pe_methD0 (pv 0) D_sums hr pass0) (pe_one (pe_cmpR op_eq (pv 7) (pe_methD (pv 0) D_asked hr pass0 (pa_cons (pv 1) pa_nil)) (nomark _))))))))) pss_nil)
    (pss_cons (ps_if (pt_cmpR op_eq (pv 4) pe_str (nomark _)) (pss_cons (ps_if (PW.pt (pw_or (pt_val (pe_methD0 (pv 0) D_sums hr pass0)) (pw_or (pt_cmpR op_notIn_seq (pv 5) (pe_lc (own := [("part", 9)]) (g := (gName 9)) (tt := tYes) rfl sc_reason_holds.nd  (pi_list (pe_fld (pv 0) rfl)) (blkOk_by (own := [("part", 9)]) (N := ["box", "leasts", "paper", "groups", "word", "name", "rank", "least", "lower", "part"]) (sc := defScope s_reason_holds) (by decide +kernel)) (fun _ _ _ _ _ => (pg_name (i := 9) sc_reason_holds.nd rfl (Or.inl rfl))) (fun _ _ _ _ _ => pts_nil) (fun _ _ _ _ _ => (pe_fld (pv 9) rfl))) (by rfl)) (pw_or1 (pt_cmpR op_ne (pv 7) (pe_methD (pv 0) D_asked hr pass0 (pa_cons (pv 1) pa_nil)) (nomark _)))))) (pss_one (ps_ret pe_bl)) pss_nil)
    (pss_one (ps_ret (pe_and (pe_cmpR op_lt (pe_ix ix_tup (pe_dget (hu_of hr) (pv 2) (pv 5) (fun _ _ => rfl)) pe_int (fun _ _ => rfl)) (pv 6) (nomark _)) (pe_one (pe_cmpR op_eq (pv 7) (pe_dget (hu_of hr) (pv 1) (pv 5) (fun _ _ => rfl)) (nomark _))))))) pss_nil)
    (pss_cons (ps_if (PW.pt (pw_or (pt_cmpR op_ne (pv 4) pe_str (nomark _)) (pw_or (pt_cmpR op_eq (pe_fld (pv 0) rfl) pe_int (nomark _)) (pw_or1 (pt_cmpR op_notIn_seq (pv 5) (pe_dget2 (hu_of hr) (pv 3) (pe_fld (pv 0) rfl) (pe_lst pa_nil) ⟨rfl, rfl, rfl, rfl⟩) (by rfl)))))) (pss_one (ps_ret pe_bl)) pss_nil)
    (pss_one (ps_ret (pe_and (pe_cmpR op_lt (pe_ix ix_tup (pe_dget (hu_of hr) (pv 2) (pv 5) (fun _ _ => rfl)) pe_int (fun _ _ => rfl)) (pv 6) (nomark _)) (pe_one (pe_cmpR op_eq (pv 7) (pe_dget (hu_of hr) (pv 1) (pv 5) (fun _ _ => rfl)) (nomark _))))))))))))) rd

theorem f_leasts_hold {P : Program} {w : World} {K : PySem.W.Frag} {mg : Str → Option Value} {base : Heap} {k : Nat} (T : Fs K mg)  (G_all_boxes : FnR P w K mg base CX0 k 187 (sp_all_boxes K 9)) (G_of : FnR P w K mg base CX0 k 1170 (sp_of K 9)) (D_asked : DispOk P w K mg base CX0 k [178, 801, 876, 1060, 1163] "asked_least" (sp_asked K)) (G_reason_holds : FnR P w K mg base CX0 k 1243 (sp_reason_holds K)) {sp : Sp}
    (len : ∀ vs H Q E, sp vs H Q E → vs.length = 3)
    (rd : ∀ (vs : List V) (H : Hp) (Q : VK) (E : XK), sp vs H Q E → r_leasts_hold K  { nx := fun _ H' => Q .non H', rt := Q } (start ["tree", "leasts", "paper", "groups", "boxes", "box"] vs) H) :
    FnR P w K mg base CX0 (k + 1) 1248 sp :=
  T.d_leasts_hold.fn0 sc_leasts_hold (fun _ _ _ _ _ _ us hl => match us, hl with | [_, _, _], _ => rfl) len (r_leasts_hold K ) (fun cdv A outer s H E hr => by
    exact (pss_cons (ps_set (i := 3) sc_leasts_hold.nd rfl (Or.inr rfl) pe_dnewK)
    (pss_cons (ps_set (i := 4) sc_leasts_hold.nd rfl (Or.inl rfl) (pe_callR G_all_boxes hr rfl T.g_all_boxes T.d_all_boxes.kp pass0 (pa_cons (pe_callR G_of hr rfl T.g_of T.d_of.kp pass0 (pa_cons (pv 0) pa_nil)) pa_nil)))
    (pss_cons (ps_for PassesOwn.never rfl (pi_list (pv 4)) (pg_name (i := 5) sc_leasts_hold.nd rfl (Or.inl rfl)) (pss_one (ps_if (pt_cmpR op_gt (pe_fld (pv 5) rfl) pe_int (nomark _)) (pss_one (ps_expr (pe_bm PySem.F.plainAttrs_list PySem.F.slot_list_append PySem.F.type_list_append mt_append (pe_dsetd (pv 3) (pe_fld (pv 5) rfl) (pe_lst pa_nil) ⟨rfl, rfl, rfl, rfl⟩) (pa_cons (pe_fld (pv 5) rfl) pa_nil)))) pss_nil)))
    (pss_cons (ps_for PassesOwn.never rfl (pi_list (pv 4)) (pg_name (i := 5) sc_leasts_hold.nd rfl (Or.inl rfl)) (pss_cons (ps_if (pt_cmpR op_lt (pe_dget (hu_of hr) (pv 1) (pe_fld (pv 5) rfl) (fun _ _ => rfl)) (pe_callB (call_max2 rfl) (by rfl) T.b_max boot_max (pa_cons (pe_ix ix_tup (pe_fld (pv 5) rfl) pe_int (fun _ _ => rfl)) (pa_cons (pe_methD (pv 5) D_asked hr pass0 (pa_cons (pv 1) pa_nil)) pa_nil))) (nomark _)) (pss_one (ps_ret pe_bl)) pss_nil)
    (pss_one (ps_if (PW.pt (pw_and (pt_cmpR op_gt (pe_fld (pv 5) rfl) pe_int (nomark _)) (pw_and1 (pt_cmpR op_ne (pe_dget (hu_of hr) (pv 1) (pe_fld (pv 5) rfl) (fun _ _ => rfl)) (pe_dget (hu_of hr) (pv 1) (pe_ix ix_list (pe_dget (hu_of hr) (pv 3) (pe_fld (pv 5) rfl) (fun _ _ => rfl)) pe_int (fun _ _ => rfl)) (fun _ _ => rfl)) (nomark _))))) (pss_one (ps_ret pe_bl)) pss_nil))))
    (pss_one (ps_ret (pe_callB (cr_all rfl) (by rfl) T.b_all boot_all (pa_cons (pe_lc (own := [("box", 5)]) (g := (gName 5)) (tt := tYes) rfl sc_leasts_hold.nd  (pi_list (pv 4)) (blkOk_by (own := [("box", 5)]) (N := ["tree", "leasts", "paper", "groups", "boxes", "box"]) (sc := defScope s_leasts_hold) (by decide +kernel)) (fun _ _ _ _ _ => (pg_name (i := 5) sc_leasts_hold.nd rfl (Or.inl rfl))) (fun _ _ _ _ _ => pts_nil) (fun _ _ _ _ _ => (pe_callR G_reason_holds hr rfl T.g_reason_holds T.d_reason_holds.kp pass0 (pa_cons (pv 5) (pa_cons (pv 1) (pa_cons (pv 2) (pa_cons (pv 3) pa_nil))))))) pa_nil))))))))) rd

end BG
set_option maxHeartbeats 4000000
namespace BG
open PySem PySem.Spec PyProof.Rows L2
theorem f_law_at {P : Program} {w : World} {K : PySem.W.Frag} {mg : Str → Option Value} {base : Heap} {k : Nat} (T : Fs K mg)  {sp : Sp}
    (len : ∀ vs H Q E, sp vs H Q E → vs.length = 2)
    (rd : ∀ (vs : List V) (H : Hp) (Q : VK) (E : XK), sp vs H Q E → r_law_at K  { nx := fun _ H' => Q .non H', rt := Q } (start ["_law_script", "_law_k"] vs) H) :
    FnR P w K mg base CX0 (k + 1) 1255 sp :=
  T.d_law_at.fn0 sc_law_at (fun _ _ _ _ _ _ us hl => match us, hl with | [_, _], _ => rfl) len (r_law_at K ) (fun cdv A outer s H E hr => by
    exact (pss_cons (ps_if (pt_cmpR op_lt (pv 1) (pe_callB call_len_seq (by rfl) T.b_len boot_len (pa_cons (pv 0) pa_nil)) (nomark _)) (pss_one (ps_ret (pe_ix ix_list (pv 0) (pv 1) (fun _ _ => rfl)))) pss_nil)
    (pss_one (ps_ret pe_int)))) rd

theorem f_law_mixed {P : Program} {w : World} {K : PySem.W.Frag} {mg : Str → Option Value} {base : Heap} {k : Nat} (T : Fs K mg)  {sp : Sp}
    (len : ∀ vs H Q E, sp vs H Q E → vs.length = 1)
    (rd : ∀ (vs : List V) (H : Hp) (Q : VK) (E : XK), sp vs H Q E → r_law_mixed K  { nx := fun _ H' => Q .non H', rt := Q } (start ["_law_cell", "_law_n"] vs) H) :
    FnR P w K mg base CX0 (k + 1) 1262 sp :=
  T.d_law_mixed.fn0 sc_law_mixed (fun _ _ _ _ _ _ us hl => match us, hl with | [_], _ => rfl) len (r_law_mixed K ) (fun cdv A outer s H E hr => by
    exact (pss_cons (ps_set (i := 1) sc_law_mixed.nd rfl (Or.inl rfl) (pe_op op_mod (pe_op op_mul (pv 0) pe_int) pe_int))
    (pss_cons (ps_set (i := 1) sc_law_mixed.nd rfl (Or.inl rfl) (pe_op op_mod (pe_op op_add (pe_op op_fdivW (pv 1) pe_int) (pe_op op_mul (pv 1) pe_int)) pe_int))
    (pss_one (ps_ret (pe_op op_mod (pe_op op_mul (pv 1) (pe_op op_add (pe_op op_mod (pv 1) pe_int) pe_int)) pe_int)))))) rd

theorem f_law_draws {P : Program} {w : World} {K : PySem.W.Frag} {mg : Str → Option Value} {base : Heap} {k : Nat} (T : Fs K mg)  (G_law_at : FnR P w K mg base CX0 k 1255 (sp_law_at K)) (G_law_mixed : FnR P w K mg base CX0 k 1262 (sp_law_mixed K)) {sp : Sp}
    (len : ∀ vs H Q E, sp vs H Q E → vs.length = 4)
    (rd : ∀ (vs : List V) (H : Hp) (Q : VK) (E : XK), sp vs H Q E → r_law_draws K  { nx := fun _ H' => Q .non H', rt := Q } (start ["_law_script", "_law_first", "_law_many", "_law_base", "_law_found_here", "_law_cell", "_law_k", "_law_n"] vs) H) :
    FnR P w K mg base CX0 (k + 1) 1269 sp :=
  T.d_law_draws.fn0 sc_law_draws (fun _ _ _ _ _ _ us hl => match us, hl with | [_, _, _, _], _ => rfl) len (r_law_draws K ) (fun cdv A outer s H E hr => by
    exact (pss_cons (ps_set (i := 4) sc_law_draws.nd rfl (Or.inl rfl) (pe_lst pa_nil))
    (pss_cons (ps_set (i := 5) sc_law_draws.nd rfl (Or.inl rfl) (pe_callR G_law_at hr rfl T.g_law_at T.d_law_at.kp pass0 (pa_cons (pv 0) (pa_cons (pv 1) pa_nil))))
    (pss_cons (ps_while PassesOwn.never (PW.pt (pw_and (pt_cmpR op_ge (pv 5) (pe_op op_pow pe_int pe_int) (nomark _)) (pw_and1 (pt_cmpR op_lt (pe_callB call_len_seq (by rfl) T.b_len boot_len (pa_cons (pv 4) pa_nil)) (pv 2) (nomark _))))) (pss_cons (ps_expr (pe_bm PySem.F.plainAttrs_list PySem.F.slot_list_append PySem.F.type_list_append mt_append (pv 4) (pa_cons (pe_op op_mod (pv 5) (pv 3)) pa_nil)))
    (pss_one (ps_set (i := 5) sc_law_draws.nd rfl (Or.inl rfl) (pe_op op_fdivW (pv 5) (pv 3))))))
    (pss_cons (ps_for PassesOwn.never rfl (pi_range1 rfl T.b_range (pa_cons (pe_op op_sub (pv 2) (pe_callB call_len_seq (by rfl) T.b_len boot_len (pa_cons (pv 4) pa_nil))) pa_nil)) (pg_name (i := 6) sc_law_draws.nd rfl (Or.inl rfl)) (pss_cons (ps_set (i := 7) sc_law_draws.nd rfl (Or.inl rfl) (pe_callR G_law_mixed hr rfl T.g_law_mixed T.d_law_mixed.kp pass0 (pa_cons (pe_op op_add (pe_callR G_law_at hr rfl T.g_law_at T.d_law_at.kp pass0 (pa_cons (pv 0) (pa_cons (pe_op op_add (pe_op op_add (pv 1) pe_int) (pv 6)) pa_nil))) (pe_op op_mul (pe_op op_mul pe_int (pv 6)) (pv 6))) pa_nil)))
    (pss_one (ps_expr (pe_bm PySem.F.plainAttrs_list PySem.F.slot_list_append PySem.F.type_list_append mt_append (pv 4) (pa_cons (pe_op op_mod (pe_op op_add (pe_op op_mul (pv 7) pe_int) (pe_callR G_law_mixed hr rfl T.g_law_mixed T.d_law_mixed.kp pass0 (pa_cons (pe_op op_add (pe_op op_add (pv 7) (pe_op op_mul pe_int (pv 6))) pe_int) pa_nil))) (pv 3)) pa_nil))))))
    (pss_one (ps_ret (pv 4)))))))) rd

theorem f_law_label {P : Program} {w : World} {K : PySem.W.Frag} {mg : Str → Option Value} {base : Heap} {k : Nat} (T : Fs K mg)  {sp : Sp}
    (len : ∀ vs H Q E, sp vs H Q E → vs.length = 2)
    (rd : ∀ (vs : List V) (H : Hp) (Q : VK) (E : XK), sp vs H Q E → r_law_label K  { nx := fun _ H' => Q .non H', rt := Q } (start ["_law_k", "_law_cell", "_law_letters", "_law_n", "_law_word", "_law_step_here", "_law_at_here", "_law_mark"] vs) H) :
    FnR P w K mg base CX0 (k + 1) 1283 sp :=
  T.d_law_label.fn0 sc_law_label (fun _ _ _ _ _ _ us hl => match us, hl with | [_, _], _ => rfl) len (r_law_label K ) (fun cdv A outer s H E hr => by
    exact (pss_cons (ps_set (i := 2) sc_law_label.nd rfl (Or.inl rfl) pe_str)
    (pss_cons (ps_set (i := 3) sc_law_label.nd rfl (Or.inl rfl) (pe_op op_mod (pe_op op_mul (pv 1) pe_int) pe_int))
    (pss_cons (ps_set (i := 4) sc_law_label.nd rfl (Or.inl rfl) pe_str)
    (pss_cons (ps_for PassesOwn.never rfl (pi_range1 rfl T.b_range (pa_cons (pe_op op_mod (pv 3) pe_int) pa_nil)) (pg_name (i := 5) sc_law_label.nd rfl (Or.inl rfl)) (pss_cons (ps_set (i := 3) sc_law_label.nd rfl (Or.inl rfl) (pe_op op_fdivW (pv 3) pe_int))
    (pss_one (ps_set (i := 4) sc_law_label.nd rfl (Or.inl rfl) (pe_op op_add_str (pv 4) (pe_ix ix_str (pv 2) (pe_op op_mod (pv 3) pe_int) (fun _ _ => rfl)))))))
    (pss_cons (ps_set (i := 6) sc_law_label.nd rfl (Or.inl rfl) (pe_op op_mod (pv 1) (pe_op op_add (pe_callB call_len_str (by rfl) T.b_len boot_len (pa_cons (pv 4) pa_nil)) pe_int)))
    (pss_cons (ps_set (i := 7) sc_law_label.nd rfl (Or.inl rfl) (pe_op op_add_str (pe_ix ix_str (pv 2) (pe_op op_mod (pe_op op_add (pv 0) (pv 1)) pe_int) (fun _ _ => rfl)) (pe_ix ix_str (pv 2) (pe_op op_fdivW (pv 0) pe_int) (fun _ _ => rfl))))
    (pss_one (ps_ret (pe_op op_add_str (pe_op op_add_str (pe_slice sl_str (pv 4) po_none (po_some (pv 6))) (pv 7)) (pe_slice sl_str (pv 4) (po_some (pv 6)) po_none))))))))))) rd

theorem f_law_span {P : Program} {w : World} {K : PySem.W.Frag} {mg : Str → Option Value} {base : Heap} {k : Nat} (T : Fs K mg)  {sp : Sp}
    (len : ∀ vs H Q E, sp vs H Q E → vs.length = 1)
    (rd : ∀ (vs : List V) (H : Hp) (Q : VK) (E : XK), sp vs H Q E → r_law_span K  { nx := fun _ H' => Q .non H', rt := Q } (start ["_law_n", "_law_least"] vs) H) :
    FnR P w K mg base CX0 (k + 1) 1290 sp :=
  T.d_law_span.fn0 sc_law_span (fun _ _ _ _ _ _ us hl => match us, hl with | [_], _ => rfl) len (r_law_span K ) (fun cdv A outer s H E hr => by
    exact (pss_cons (ps_set (i := 1) sc_law_span.nd rfl (Or.inl rfl) (pe_ix ix_list (pe_lst (pa_cons pe_int (pa_cons (pe_op op_mod (pv 0) pe_int) (pa_cons (pe_op op_mod (pv 0) pe_int) pa_nil)))) (pe_op op_mod (pe_op op_fdivW (pv 0) pe_int) pe_int) (fun _ _ => rfl)))
    (pss_one (ps_ret (pe_tup (pa_cons (pv 1) (pa_cons (pe_ix ix_list (pe_lst (pa_cons (pe_op op_pow pe_int pe_int) (pa_cons (pe_op op_add (pv 1) (pe_op op_mod (pe_op op_fdivW (pv 0) pe_int) pe_int)) pa_nil))) (pe_op op_mod (pe_op op_fdivW (pv 0) pe_int) pe_int) (fun _ _ => rfl)) pa_nil))))))) rd

theorem f_law_own {P : Program} {w : World} {K : PySem.W.Frag} {mg : Str → Option Value} {base : Heap} {k : Nat} (T : Fs K mg)  (G_law_span : FnR P w K mg base CX0 k 1290 (sp_law_span K)) {sp : Sp}
    (len : ∀ vs H Q E, sp vs H Q E → vs.length = 2)
    (rd : ∀ (vs : List V) (H : Hp) (Q : VK) (E : XK), sp vs H Q E → r_law_own K  { nx := fun _ H' => Q .non H', rt := Q } (start ["_law_n", "_law_alike", "_law_wide", "_law_high", "_law_group"] vs) H) :
    FnR P w K mg base CX0 (k + 1) 1297 sp :=
  T.d_law_own.fn0 sc_law_own (fun _ _ _ _ _ _ us hl => match us, hl with | [_, _], _ => rfl) len (r_law_own K ) (fun cdv A outer s H E hr => by
    exact (pss_cons (ps_set (i := 2) sc_law_own.nd rfl (Or.inl rfl) (pe_callR G_law_span hr rfl T.g_law_span T.d_law_span.kp pass0 (pa_cons (pe_op op_mod (pv 0) pe_int) pa_nil)))
    (pss_cons (ps_set (i := 3) sc_law_own.nd rfl (Or.inl rfl) (pe_callR G_law_span hr rfl T.g_law_span T.d_law_span.kp pass0 (pa_cons (pe_op op_mod (pe_op op_fdivW (pv 0) pe_int) pe_int) pa_nil)))
    (pss_cons (ps_set (i := 0) sc_law_own.nd rfl (Or.inl rfl) (pe_op op_fdivW (pv 0) pe_int))
    (pss_cons (ps_set (i := 4) sc_law_own.nd rfl (Or.inl rfl) (pe_op op_mul (pe_ix ix_list (pe_lst (pa_cons pe_int (pa_cons pe_int (pa_cons pe_int (pa_cons pe_int pa_nil))))) (pe_op op_mod (pe_op op_fdivW (pv 0) pe_int) pe_int) (fun _ _ => rfl)) (pe_callTy call_int1 (by rfl) T.b_int boot_int (pa_cons (pv 1) pa_nil))))
    (pss_one (ps_ret (pe_tup (pa_cons (pv 2) (pa_cons (pv 3) (pa_cons (pe_op op_mod (pv 0) pe_int) (pa_cons (pe_op op_mod (pe_op op_fdivW (pv 0) pe_int) pe_int) (pa_cons (pe_op op_mod (pe_op op_fdivW (pv 0) pe_int) pe_int) (pa_cons (pv 4) pa_nil)))))))))))))) rd

theorem f_law_leaf {P : Program} {w : World} {K : PySem.W.Frag} {mg : Str → Option Value} {base : Heap} {k : Nat} (T : Fs K mg)  (G_law_own : FnR P w K mg base CX0 k 1297 (sp_law_own K)) {sp : Sp}
    (len : ∀ vs H Q E, sp vs H Q E → vs.length = 2)
    (rd : ∀ (vs : List V) (H : Hp) (Q : VK) (E : XK), sp vs H Q E → r_law_leaf K  { nx := fun _ H' => Q .non H', rt := Q } (start ["_law_name", "_law_n", "_law_own_here", "_law_rest"] vs) H) :
    FnR P w K mg base CX0 (k + 1) 1304 sp :=
  T.d_law_leaf.fn0 sc_law_leaf (fun _ _ _ _ _ _ us hl => match us, hl with | [_, _], _ => rfl) len (r_law_leaf K ) (fun cdv A outer s H E hr => by
    exact (pss_cons (ps_set (i := 2) sc_law_leaf.nd rfl (Or.inl rfl) (pe_callR G_law_own hr rfl T.g_law_own T.d_law_own.kp pass0 (pa_cons (pe_op op_fdivW (pv 1) pe_int) (pa_cons (pe_cmpR op_eq (pe_op op_mod (pv 1) pe_int) pe_int (nomark _)) pa_nil))))
    (pss_cons (ps_set (i := 3) sc_law_leaf.nd rfl (Or.inl rfl) (pe_op op_fdivW (pe_op op_fdivW (pv 1) pe_int) pe_int))
    (pss_one (ps_ret (pe_tup (pa_cons pe_str (pa_cons (pv 0) (pa_cons (pv 2) (pa_cons (pe_tup (pa_cons (pe_op op_mod (pv 3) pe_int) (pa_cons (pe_op op_mod (pe_op op_fdivW (pv 3) pe_int) pe_int) pa_nil))) (pa_cons (pe_tup pa_nil) pa_nil))))))))))) rd

theorem f_law_within {P : Program} {w : World} {K : PySem.W.Frag} {mg : Str → Option Value} {base : Heap} {k : Nat} (T : Fs K mg)  (G_law_own : FnR P w K mg base CX0 k 1297 (sp_law_own K)) {sp : Sp}
    (len : ∀ vs H Q E, sp vs H Q E → vs.length = 5)
    (rd : ∀ (vs : List V) (H : Hp) (Q : VK) (E : XK), sp vs H Q E → r_law_within K  { nx := fun _ H' => Q .non H', rt := Q } (start ["_law_kind", "_law_name", "_law_n", "_law_some", "_law_alike", "_law_own_here", "_law_rest", "_law_gap", "_law_side", "_law_align", "_law_columns_here", "_law_spans", "_law_k", "_law_far"] vs) H) :
    FnR P w K mg base CX0 (k + 1) 1311 sp :=
  T.d_law_within.fn0 sc_law_within (fun _ _ _ _ _ _ us hl => match us, hl with | [_, _, _, _, _], _ => rfl) len (r_law_within K ) (fun cdv A outer s H E hr => by
    exact (pss_cons (ps_set (i := 5) sc_law_within.nd rfl (Or.inl rfl) (pe_callR G_law_own hr rfl T.g_law_own T.d_law_own.kp pass0 (pa_cons (pe_op op_fdivW (pv 2) pe_int) (pa_cons (pv 4) pa_nil))))
    (pss_cons (ps_set (i := 6) sc_law_within.nd rfl (Or.inl rfl) (pe_op op_fdivW (pe_op op_fdivW (pv 2) pe_int) pe_int))
    (pss_cons (ps_set (i := 7) sc_law_within.nd rfl (Or.inl rfl) (pe_ix ix_list (pe_lst (pa_cons pe_int (pa_cons pe_int (pa_cons (pe_op op_mod (pe_op op_fdivW (pv 6) pe_int) pe_int) (pa_cons (pe_op op_mod (pe_op op_fdivW (pv 6) pe_int) pe_int) pa_nil))))) (pe_op op_mod (pe_op op_fdivW (pv 6) pe_int) pe_int) (fun _ _ => rfl)))
    (pss_cons (ps_set (i := 8) sc_law_within.nd rfl (Or.inl rfl) (pe_ix ix_list (pe_lst (pa_cons pe_str (pa_cons pe_str pa_nil))) (pe_op op_mod (pv 6) pe_int) (fun _ _ => rfl)))
    (pss_cons (ps_if (pt_cmpR op_ne (pv 0) pe_str (nomark _)) (pss_cons (ps_set (i := 9) sc_law_within.nd rfl (Or.inl rfl) (pe_ix ix_list (pe_lst (pa_cons pe_str (pa_cons pe_str (pa_cons pe_str (pa_cons pe_str pa_nil))))) (pe_op op_mod (pe_op op_fdivW (pv 6) pe_int) pe_int) (fun _ _ => rfl)))
    (pss_one (ps_ret (pe_tup (pa_cons (pv 0) (pa_cons (pv 1) (pa_cons (pv 5) (pa_cons (pe_tup (pa_cons (pv 7) (pa_cons (pv 9) (pa_cons (pv 8) pa_nil)))) (pa_cons (pe_callTy call_tuple_of (by rfl) T.b_tuple boot_tuple (pa_cons (pv 3) pa_nil)) pa_nil))))))))) pss_nil)
    (pss_cons (ps_set (i := 10) sc_law_within.nd rfl (Or.inl rfl) (pe_op op_add pe_int (pe_op op_mod (pe_op op_fdivW (pv 6) pe_int) pe_int)))
    (pss_cons (ps_set (i := 11) sc_law_within.nd rfl (Or.inl rfl) (pe_lst pa_nil))
    (pss_cons (ps_for PassesOwn.never rfl (pi_range1 rfl T.b_range (pa_cons (pe_callB call_len_seq (by rfl) T.b_len boot_len (pa_cons (pv 3) pa_nil)) pa_nil)) (pg_name (i := 12) sc_law_within.nd rfl (Or.inl rfl)) (pss_cons (ps_set (i := 13) sc_law_within.nd rfl (Or.inl rfl) (pe_op op_add (pe_op op_fdivW (pv 6) pe_int) (pe_op op_mul (pv 12) (pv 12))))
    (pss_one (ps_expr (pe_bm PySem.F.plainAttrs_list PySem.F.slot_list_append PySem.F.type_list_append mt_append (pv 11) (pa_cons (pe_tup (pa_cons (pe_op op_add pe_int (pe_op op_mod (pv 13) (pv 10))) (pa_cons (pe_op op_add pe_int (pe_op op_mod (pe_op op_fdivW (pv 13) pe_int) pe_int)) pa_nil))) pa_nil))))))
    (pss_one (ps_ret (pe_tup (pa_cons (pv 0) (pa_cons (pv 1) (pa_cons (pv 5) (pa_cons (pe_tup (pa_cons (pv 10) (pa_cons (pv 7) (pa_cons (pv 8) (pa_cons (pe_callTy call_tuple_of (by rfl) T.b_tuple boot_tuple (pa_cons (pv 11) pa_nil)) pa_nil))))) (pa_cons (pe_callTy call_tuple_of (by rfl) T.b_tuple boot_tuple (pa_cons (pv 3) pa_nil)) pa_nil))))))))))))))))) rd

end BG
set_option maxHeartbeats 4000000
namespace BG
open PySem PySem.Spec PyProof.Rows L2
theorem f_law_step {P : Program} {w : World} {K : PySem.W.Frag} {mg : Str → Option Value} {base : Heap} {k : Nat} (T : Fs K mg)  (G_law_leaf : FnR P w K mg base CX0 k 1304 (sp_law_leaf K)) (G_law_within : FnR P w K mg base CX0 k 1311 (sp_law_within K)) {sp : Sp}
    (len : ∀ vs H Q E, sp vs H Q E → vs.length = 3)
    (rd : ∀ (vs : List V) (H : Hp) (Q : VK) (E : XK), sp vs H Q E → r_law_step K  { nx := fun _ H' => Q .non H', rt := Q } (start ["_law_stack", "_law_n", "_law_name", "_law_way", "_law_many", "_law_leaf_here", "_law_some", "_law_deep", "_law_grouped_here", "_law_kind", "_law_box", "_law_one"] vs) H) :
    FnR P w K mg base CX0 (k + 1) 1316 sp :=
  T.d_law_step.fn0 sc_law_step (fun _ _ _ _ _ _ us hl => match us, hl with | [_, _, _], _ => rfl) len (r_law_step K ) (fun cdv A outer s H E hr => by
    exact (pss_cons (ps_set (i := 3) sc_law_step.nd rfl (Or.inl rfl) (pe_op op_mod (pv 1) pe_int))
    (pss_cons (ps_set (i := 4) sc_law_step.nd rfl (Or.inl rfl) (pe_op op_mod (pe_op op_add pe_int (pe_op op_fdivW (pv 1) pe_int)) pe_int))
    (pss_cons (ps_if (PW.pt (pw_or (pt_cmpR op_lt (pv 3) pe_int (nomark _)) (pw_or1 (pt_cmpR op_lt (pe_callB call_len_seq (by rfl) T.b_len boot_len (pa_cons (pv 0) pa_nil)) (pv 4) (nomark _))))) (pss_cons (ps_set (i := 5) sc_law_step.nd rfl (Or.inl rfl) (pe_callR G_law_leaf hr rfl T.g_law_leaf T.d_law_leaf.kp pass0 (pa_cons (pv 2) (pa_cons (pv 1) pa_nil))))
    (pss_one (ps_ret (pe_op op_cat (pv 0) (pe_lst (pa_cons (pe_tup (pa_cons (pv 5) (pa_cons pe_int (pa_cons (pe_cmpR op_gt (pe_ix ix_tup (pe_ix ix_tup (pv 5) pe_int (fun _ _ => rfl)) pe_int (fun _ _ => rfl)) pe_int (nomark _)) pa_nil)))) pa_nil)))))) pss_nil)
    (pss_cons (ps_set (i := 6) sc_law_step.nd rfl (Or.inl rfl) (pe_slice sl_list (pv 0) (po_some (pe_op op_sub (pe_callB call_len_seq (by rfl) T.b_len boot_len (pa_cons (pv 0) pa_nil)) (pv 4))) po_none))
    (pss_cons (ps_set (i := 7) sc_law_step.nd rfl (Or.inl rfl) (pe_maxD rfl hr.units (by rfl) T.b_max (pe_lc (own := [("_law_one", 11)]) (g := (gName 11)) (tt := tYes) rfl sc_law_step.nd  (pi_list (pv 6)) (blkOk_by (own := [("_law_one", 11)]) (N := ["_law_stack", "_law_n", "_law_name", "_law_way", "_law_many", "_law_leaf_here", "_law_some", "_law_deep", "_law_grouped_here", "_law_kind", "_law_box", "_law_one"]) (sc := defScope s_law_step) (by decide +kernel)) (fun _ _ _ _ _ => (pg_name (i := 11) sc_law_step.nd rfl (Or.inl rfl))) (fun _ _ _ _ _ => pts_nil) (fun _ _ _ _ _ => (pe_ix ix_tup (pv 11) pe_int (fun _ _ => rfl)))) pe_int))
    (pss_cons (ps_set (i := 8) sc_law_step.nd rfl (Or.inl rfl) (pe_callB (cr_any rfl) (by rfl) T.b_any boot_any (pa_cons (pe_lc (own := [("_law_one", 11)]) (g := (gName 11)) (tt := tYes) rfl sc_law_step.nd  (pi_list (pv 6)) (blkOk_by (own := [("_law_one", 11)]) (N := ["_law_stack", "_law_n", "_law_name", "_law_way", "_law_many", "_law_leaf_here", "_law_some", "_law_deep", "_law_grouped_here", "_law_kind", "_law_box", "_law_one"]) (sc := defScope s_law_step) (by decide +kernel)) (fun _ _ _ _ _ => (pg_name (i := 11) sc_law_step.nd rfl (Or.inl rfl))) (fun _ _ _ _ _ => pts_nil) (fun _ _ _ _ _ => (pe_ix ix_tup (pv 11) pe_int (fun _ _ => rfl)))) pa_nil)))
    (pss_cons (ps_set (i := 9) sc_law_step.nd rfl (Or.inl rfl) (pe_ix ix_list (pe_lst (pa_cons pe_str (pa_cons pe_str (pa_cons pe_str (pa_cons pe_str (pa_cons pe_str (pa_cons pe_str pa_nil))))))) (pe_op op_mod (pe_op op_sub (pv 3) pe_int) pe_int) (fun _ _ => rfl)))
    (pss_cons (ps_if (pt_cmpR op_gt (pv 7) pe_int (nomark _)) (pss_cons (ps_set (i := 5) sc_law_step.nd rfl (Or.inl rfl) (pe_callR G_law_leaf hr rfl T.g_law_leaf T.d_law_leaf.kp pass0 (pa_cons (pv 2) (pa_cons (pv 1) pa_nil))))
    (pss_one (ps_ret (pe_op op_cat (pv 0) (pe_lst (pa_cons (pe_tup (pa_cons (pv 5) (pa_cons pe_int (pa_cons (pe_cmpR op_gt (pe_ix ix_tup (pe_ix ix_tup (pv 5) pe_int (fun _ _ => rfl)) pe_int (fun _ _ => rfl)) pe_int (nomark _)) pa_nil)))) pa_nil)))))) pss_nil)
    (pss_cons (ps_if (PW.pt (pw_and (pt_cmpR op_eq (pv 9) pe_str (nomark _)) (pw_and1 (pt_val (pv 8))))) (pss_one (ps_set (i := 9) sc_law_step.nd rfl (Or.inl rfl) pe_str)) pss_nil)
    (pss_cons (ps_set (i := 10) sc_law_step.nd rfl (Or.inl rfl) (pe_callR G_law_within hr rfl T.g_law_within T.d_law_within.kp pass0 (pa_cons (pv 9) (pa_cons (pv 2) (pa_cons (pv 1) (pa_cons (pe_lc (own := [("_law_one", 11)]) (g := (gName 11)) (tt := tYes) rfl sc_law_step.nd  (pi_list (pv 6)) (blkOk_by (own := [("_law_one", 11)]) (N := ["_law_stack", "_law_n", "_law_name", "_law_way", "_law_many", "_law_leaf_here", "_law_some", "_law_deep", "_law_grouped_here", "_law_kind", "_law_box", "_law_one"]) (sc := defScope s_law_step) (by decide +kernel)) (fun _ _ _ _ _ => (pg_name (i := 11) sc_law_step.nd rfl (Or.inl rfl))) (fun _ _ _ _ _ => pts_nil) (fun _ _ _ _ _ => (pe_ix ix_tup (pv 11) pe_int (fun _ _ => rfl)))) (pa_cons (pe_and (pe_cmpR op_ne (pv 9) pe_str (nomark _)) (pe_one (pe_cmpR op_eq (pe_op op_mod (pe_op op_fdivW (pv 1) pe_int) pe_int) pe_int (nomark _)))) pa_nil)))))))
    (pss_one (ps_ret (pe_op op_cat (pe_slice sl_list (pv 0) po_none (po_some (pe_op op_sub (pe_callB call_len_seq (by rfl) T.b_len boot_len (pa_cons (pv 0) pa_nil)) (pv 4)))) (pe_lst (pa_cons (pe_tup (pa_cons (pv 10) (pa_cons (pe_op op_add (pv 7) pe_int) (pa_cons (pe_or (pv 8) (pe_one (pe_cmpR op_gt (pe_ix ix_tup (pe_ix ix_tup (pv 10) pe_int (fun _ _ => rfl)) pe_int (fun _ _ => rfl)) pe_int (nomark _)))) pa_nil)))) pa_nil)))))))))))))))) rd

theorem f_law_tree {P : Program} {w : World} {K : PySem.W.Frag} {mg : Str → Option Value} {base : Heap} {k : Nat} (T : Fs K mg)  (G_law_at : FnR P w K mg base CX0 k 1255 (sp_law_at K)) (G_law_draws : FnR P w K mg base CX0 k 1269 (sp_law_draws K)) (G_law_step : FnR P w K mg base CX0 k 1316 (sp_law_step K)) (G_law_label : FnR P w K mg base CX0 k 1283 (sp_law_label K)) (G_law_mixed : FnR P w K mg base CX0 k 1262 (sp_law_mixed K)) (G_law_within : FnR P w K mg base CX0 k 1311 (sp_law_within K)) {sp : Sp}
    (len : ∀ vs H Q E, sp vs H Q E → vs.length = 3)
    (rd : ∀ (vs : List V) (H : Hp) (Q : VK) (E : XK), sp vs H Q E → r_law_tree K  { nx := fun _ H' => Q .non H', rt := Q } (start ["_law_script", "_law_first", "_law_many", "_law_stack", "_law_cell", "_law_k", "_law_n", "_law_kind", "_law_one"] vs) H) :
    FnR P w K mg base CX0 (k + 1) 1321 sp :=
  T.d_law_tree.fn0 sc_law_tree (fun _ _ _ _ _ _ us hl => match us, hl with | [_, _, _], _ => rfl) len (r_law_tree K ) (fun cdv A outer s H E hr => by
    exact (pss_cons (ps_set (i := 3) sc_law_tree.nd rfl (Or.inl rfl) (pe_lst pa_nil))
    (pss_cons (ps_set (i := 4) sc_law_tree.nd rfl (Or.inl rfl) (pe_callR G_law_at hr rfl T.g_law_at T.d_law_at.kp pass0 (pa_cons (pv 0) (pa_cons (pe_op op_add (pv 1) (pv 2)) pa_nil))))
    (pss_cons (ps_for PassesOwn.never rfl (pi_zipRL rfl (by rfl) T.b_zip (by rfl) T.b_range (pv 2) (pe_callR G_law_draws hr rfl T.g_law_draws T.d_law_draws.kp pass0 (pa_cons (pv 0) (pa_cons (pv 1) (pa_cons (pv 2) (pa_cons (pe_op op_pow pe_int pe_int) pa_nil)))))) (pg_tup (by rfl) (pgs_cons (pg_name (i := 5) sc_law_tree.nd rfl (Or.inl rfl)) (pgs_cons (pg_name (i := 6) sc_law_tree.nd rfl (Or.inl rfl)) pgs_nil))) (pss_one (ps_set (i := 3) sc_law_tree.nd rfl (Or.inl rfl) (pe_callR G_law_step hr rfl T.g_law_step T.d_law_step.kp pass0 (pa_cons (pv 3) (pa_cons (pv 6) (pa_cons (pe_callR G_law_label hr rfl T.g_law_label T.d_law_label.kp pass0 (pa_cons (pv 5) (pa_cons (pv 4) pa_nil))) pa_nil)))))))
    (pss_cons (ps_if (pt_cmpR op_eq (pe_callB call_len_seq (by rfl) T.b_len boot_len (pa_cons (pv 3) pa_nil)) pe_int (nomark _)) (pss_one (ps_ret (pe_ix ix_tup (pe_ix ix_list (pv 3) pe_int (fun _ _ => rfl)) pe_int (fun _ _ => rfl)))) pss_nil)
    (pss_cons (ps_set (i := 6) sc_law_tree.nd rfl (Or.inl rfl) (pe_op op_add (pe_op op_mul (pe_callR G_law_mixed hr rfl T.g_law_mixed T.d_law_mixed.kp pass0 (pa_cons (pv 4) pa_nil)) pe_int) (pe_callR G_law_mixed hr rfl T.g_law_mixed T.d_law_mixed.kp pass0 (pa_cons (pe_op op_add (pv 4) pe_int) pa_nil))))
    (pss_cons (ps_set (i := 7) sc_law_tree.nd rfl (Or.inl rfl) (pe_ix ix_list (pe_lst (pa_cons pe_str (pa_cons pe_str (pa_cons pe_str pa_nil)))) (pe_op op_mod (pv 6) pe_int) (fun _ _ => rfl)))
    (pss_one (ps_ret (pe_callR G_law_within hr rfl T.g_law_within T.d_law_within.kp pass0 (pa_cons (pv 7) (pa_cons (pe_callR G_law_label hr rfl T.g_law_label T.d_law_label.kp pass0 (pa_cons (pv 2) (pa_cons (pv 4) pa_nil))) (pa_cons (pv 6) (pa_cons (pe_lc (own := [("_law_one", 8)]) (g := (gName 8)) (tt := tYes) rfl sc_law_tree.nd  (pi_list (pv 3)) (blkOk_by (own := [("_law_one", 8)]) (N := ["_law_script", "_law_first", "_law_many", "_law_stack", "_law_cell", "_law_k", "_law_n", "_law_kind", "_law_one"]) (sc := defScope s_law_tree) (by decide +kernel)) (fun _ _ _ _ _ => (pg_name (i := 8) sc_law_tree.nd rfl (Or.inl rfl))) (fun _ _ _ _ _ => pts_nil) (fun _ _ _ _ _ => (pe_ix ix_tup (pv 8) pe_int (fun _ _ => rfl)))) (pa_cons pe_bl pa_nil))))))))))))))) rd

theorem f_law_boxes {P : Program} {w : World} {K : PySem.W.Frag} {mg : Str → Option Value} {base : Heap} {k : Nat} (T : Fs K mg)  {sp : Sp}
    (len : ∀ vs H Q E, sp vs H Q E → vs.length = 1)
    (rd : ∀ (vs : List V) (H : Hp) (Q : VK) (E : XK), sp vs H Q E → r_law_boxes K  { nx := fun _ H' => Q .non H', rt := Q } (start ["_law_tree_here", "_law_found_here", "_law_todo", "_law_box"] vs) H) :
    FnR P w K mg base CX0 (k + 1) 1328 sp :=
  T.d_law_boxes.fn0 sc_law_boxes (fun _ _ _ _ _ _ us hl => match us, hl with | [_], _ => rfl) len (r_law_boxes K ) (fun cdv A outer s H E hr => by
    exact (pss_cons (ps_set (i := 1) sc_law_boxes.nd rfl (Or.inl rfl) (pe_lst pa_nil))
    (pss_cons (ps_set (i := 2) sc_law_boxes.nd rfl (Or.inl rfl) (pe_lst (pa_cons (pv 0) pa_nil)))
    (pss_cons (ps_while PassesOwn.never (pt_cmpR (op_neNil hr.units) (pv 2) (pe_lst pa_nil) (nomark _)) (pss_cons (ps_set (i := 3) sc_law_boxes.nd rfl (Or.inl rfl) (pe_bm PySem.F.plainAttrs_list PySem.F.slot_list_pop PySem.F.type_list_pop mt_popAt (pv 2) (pa_cons pe_int pa_nil)))
    (pss_cons (ps_expr (pe_bm PySem.F.plainAttrs_list PySem.F.slot_list_append PySem.F.type_list_append mt_append (pv 1) (pa_cons (pv 3) pa_nil)))
    (pss_one (ps_set (i := 2) sc_law_boxes.nd rfl (Or.inl rfl) (pe_op op_cat (pe_callTy call_list_of (by rfl) T.b_list boot_list (pa_cons (pe_ix ix_tup (pv 3) pe_int (fun _ _ => rfl)) pa_nil)) (pv 2)))))))
    (pss_one (ps_ret (pv 1))))))) rd

theorem f_law_columns {P : Program} {w : World} {K : PySem.W.Frag} {mg : Str → Option Value} {base : Heap} {k : Nat} (T : Fs K mg)  (G_put_cells : FnR P w K mg base CX0 k 897 (sp_put_cells K)) (G_raise_tracks : FnR P w K mg base CX0 k 942 (sp_raise_tracks K)) {sp : Sp}
    (len : ∀ vs H Q E, sp vs H Q E → vs.length = 2)
    (rd : ∀ (vs : List V) (H : Hp) (Q : VK) (E : XK), sp vs H Q E → r_law_columns K  { nx := fun _ H' => Q .non H', rt := Q } (start ["_law_box", "_law_leasts", "_law_columns_here", "_law_gap", "_law_side", "_law_spans", "_law_asks", "_law_part", "_law_cell", "_law_span_here"] vs) H) :
    FnR P w K mg base CX0 (k + 1) 1335 sp :=
  T.d_law_columns.fn0 sc_law_columns (fun _ _ _ _ _ _ us hl => match us, hl with | [_, _], _ => rfl) len (r_law_columns K ) (fun cdv A outer s H E hr => by
    exact (pss_cons (ps_asg (pe_ix ix_tup (pv 0) pe_int (fun _ _ => rfl)) (pg_tup (by rfl) (pgs_cons (pg_name (i := 2) sc_law_columns.nd rfl (Or.inl rfl)) (pgs_cons (pg_name (i := 3) sc_law_columns.nd rfl (Or.inl rfl)) (pgs_cons (pg_name (i := 4) sc_law_columns.nd rfl (Or.inl rfl)) (pgs_cons (pg_name (i := 5) sc_law_columns.nd rfl (Or.inl rfl)) pgs_nil))))))
    (pss_cons (ps_set (i := 6) sc_law_columns.nd rfl (Or.inl rfl) (pe_lst pa_nil))
    (pss_cons (ps_for PassesOwn.never rfl (pi_zip3 rfl (by rfl) T.b_zip (pa_cons (pe_ix ix_tup (pv 0) pe_int (fun _ _ => rfl)) (pa_cons (pe_callR G_put_cells hr rfl T.g_put_cells T.d_put_cells.kp pass0 (pa_cons (pv 2) (pa_cons (pe_callTy call_list_of (by rfl) T.b_list boot_list (pa_cons (pv 5) pa_nil)) pa_nil))) (pa_cons (pv 5) pa_nil)))) (pg_tup (by rfl) (pgs_cons (pg_name (i := 7) sc_law_columns.nd rfl (Or.inl rfl)) (pgs_cons (pg_name (i := 8) sc_law_columns.nd rfl (Or.inl rfl)) (pgs_cons (pg_name (i := 9) sc_law_columns.nd rfl (Or.inl rfl)) pgs_nil)))) (pss_one (ps_expr (pe_bm PySem.F.plainAttrs_list PySem.F.slot_list_append PySem.F.type_list_append mt_append (pv 6) (pa_cons (pe_tup (pa_cons (pe_ix ix_tup (pv 7) pe_int (fun _ _ => rfl)) (pa_cons (pe_ix ix_tup (pv 8) pe_int (fun _ _ => rfl)) (pa_cons (pe_ix ix_tup (pv 9) pe_int (fun _ _ => rfl)) (pa_cons (pe_dget (hu_of hr) (pv 1) (pe_ix ix_tup (pv 7) pe_int (fun _ _ => rfl)) (fun _ _ => rfl)) pa_nil))))) pa_nil)))))
    (pss_one (ps_ret (pe_op op_add (pe_callB (cr_sum rfl) (by rfl) T.b_sum boot_sum (pa_cons (pe_ix ix_tup (pe_callR G_raise_tracks hr rfl T.g_raise_tracks T.d_raise_tracks.kp pass0 (pa_cons (pv 2) (pa_cons (pv 3) (pa_cons (pe_op op_rep (pe_lst (pa_cons pe_int pa_nil)) (pv 2)) (pa_cons (pv 6) pa_nil))))) pe_int (fun _ _ => rfl)) pa_nil)) (pe_op op_mul (pv 3) (pe_op op_sub (pv 2) pe_int))))))))) rd

theorem f_law_asked {P : Program} {w : World} {K : PySem.W.Frag} {mg : Str → Option Value} {base : Heap} {k : Nat} (T : Fs K mg)  (G_law_columns : FnR P w K mg base CX0 k 1335 (sp_law_columns K)) {sp : Sp}
    (len : ∀ vs H Q E, sp vs H Q E → vs.length = 2)
    (rd : ∀ (vs : List V) (H : Hp) (Q : VK) (E : XK), sp vs H Q E → r_law_asked K  { nx := fun _ H' => Q .non H', rt := Q } (start ["_law_box", "_law_leasts", "_law_some", "_law_part"] vs) H) :
    FnR P w K mg base CX0 (k + 1) 1340 sp :=
  T.d_law_asked.fn0 sc_law_asked (fun _ _ _ _ _ _ us hl => match us, hl with | [_, _], _ => rfl) len (r_law_asked K ) (fun cdv A outer s H E hr => by
    exact (pss_cons (ps_setLc (i := 2) (own := [("_law_part", 3)]) (g := (gName 3)) (tt := tYes) rfl sc_law_asked.nd rfl rfl (sw_true rfl rfl rfl (by decide +kernel)) (pi_tup (pe_ix ix_tup (pv 0) pe_int (fun _ _ => rfl))) (blkOk_by (own := [("_law_part", 3)]) (N := ["_law_box", "_law_leasts", "_law_some", "_law_part"]) (sc := defScope s_law_asked) (by decide +kernel)) (fun _ _ _ _ _ => (pg_name (i := 3) sc_law_asked.nd rfl (Or.inl rfl))) (fun _ _ _ _ _ => pts_nil) (fun _ _ _ _ _ => (pe_dget (hu_of hr) (pv 1) (pe_ix ix_tup (pv 3) pe_int (fun _ _ => rfl)) (fun _ _ => rfl))))
    (pss_cons (ps_if (PW.pt (pw_or (pt_cmpR op_eq (pe_ix ix_tup (pv 0) pe_int (fun _ _ => rfl)) pe_str (nomark _)) (pw_or1 (pt_cmpR (op_eqNil hr.units) (pv 2) (pe_lst pa_nil) (nomark _))))) (pss_one (ps_ret pe_int)) pss_nil)
    (pss_cons (ps_if (pt_cmpR op_eq (pe_ix ix_tup (pv 0) pe_int (fun _ _ => rfl)) pe_str (nomark _)) (pss_one (ps_ret (pe_callR G_law_columns hr rfl T.g_law_columns T.d_law_columns.kp pass0 (pa_cons (pv 0) (pa_cons (pv 1) pa_nil))))) pss_nil)
    (pss_cons (ps_if (pt_cmpR op_eq (pe_ix ix_tup (pv 0) pe_int (fun _ _ => rfl)) pe_str (nomark _)) (pss_one (ps_ret (pe_op op_add (pe_callB (cr_sum rfl) (by rfl) T.b_sum boot_sum (pa_cons (pv 2) pa_nil)) (pe_op op_mul (pe_ix ix_tup (pe_ix ix_tup (pv 0) pe_int (fun _ _ => rfl)) pe_int (fun _ _ => rfl)) (pe_op op_sub (pe_callB call_len_seq (by rfl) T.b_len boot_len (pa_cons (pv 2) pa_nil)) pe_int))))) pss_nil)
    (pss_one (ps_ret (pe_callB (cr_max rfl) (by rfl) T.b_max boot_max (pa_cons (pv 2) pa_nil))))))))) rd

theorem f_law_grouped {P : Program} {w : World} {K : PySem.W.Frag} {mg : Str → Option Value} {base : Heap} {k : Nat} (T : Fs K mg) (d : Nat) (G_law_mixed : FnR P w K mg base CX0 k 1262 (sp_law_mixed K)) (G_law_at : FnR P w K mg base CX0 k 1255 (sp_law_at K)) (G_law_grouped : FnR P w K mg base CX0 k 1345 (sp_law_grouped K d)) {sp : Sp}
    (len : ∀ vs H Q E, sp vs H Q E → vs.length = 4)
    (rd : ∀ (vs : List V) (H : Hp) (Q : VK) (E : XK), sp vs H Q E → r_law_grouped K d { nx := fun _ H' => Q .non H', rt := Q } (start ["_law_tree_here", "_law_script", "_law_first", "_law_tabled_here", "_law_kind", "_law_name", "_law_own_here", "_law_what", "_law_parts", "_law_n", "_law_group", "_law_least", "_law_some", "_law_sign", "_law_part"] vs) H) :
    FnR P w K mg base CX0 (k + 1) 1345 sp :=
  T.d_law_grouped.fn0 sc_law_grouped (fun _ _ _ _ _ _ us hl => match us, hl with | [_, _, _, _], _ => rfl) len (r_law_grouped K d) (fun cdv A outer s H E hr => by
    exact (pss_cons (ps_asg (pv 0) (pg_tup (by rfl) (pgs_cons (pg_name (i := 4) sc_law_grouped.nd rfl (Or.inl rfl)) (pgs_cons (pg_name (i := 5) sc_law_grouped.nd rfl (Or.inl rfl)) (pgs_cons (pg_name (i := 6) sc_law_grouped.nd rfl (Or.inl rfl)) (pgs_cons (pg_name (i := 7) sc_law_grouped.nd rfl (Or.inl rfl)) (pgs_cons (pg_name (i := 8) sc_law_grouped.nd rfl (Or.inl rfl)) pgs_nil)))))))
    (pss_cons (ps_set (i := 9) sc_law_grouped.nd rfl (Or.inl rfl) (pe_callR G_law_mixed hr rfl T.g_law_mixed T.d_law_mixed.kp pass0 (pa_cons (pe_op op_add (pe_op op_add (pe_callR G_law_at hr rfl T.g_law_at T.d_law_at.kp pass0 (pa_cons (pv 1) (pa_cons (pv 2) pa_nil))) (pe_op op_mul pe_int (pe_callB call_len_str (by rfl) T.b_len boot_len (pa_cons (pv 5) pa_nil)))) (pe_callB (cr_sum rfl) (by rfl) T.b_sum boot_sum (pa_cons (pe_lc (own := [("_law_sign", 13)]) (g := (gName 13)) (tt := tYes) rfl sc_law_grouped.nd  (pi_str (pv 5)) (blkOk_by (own := [("_law_sign", 13)]) (N := ["_law_tree_here", "_law_script", "_law_first", "_law_tabled_here", "_law_kind", "_law_name", "_law_own_here", "_law_what", "_law_parts", "_law_n", "_law_group", "_law_least", "_law_some", "_law_sign", "_law_part"]) (sc := defScope s_law_grouped) (by decide +kernel)) (fun _ _ _ _ _ => (pg_name (i := 13) sc_law_grouped.nd rfl (Or.inl rfl))) (fun _ _ _ _ _ => pts_nil) (fun _ _ _ _ _ => (pe_callB call_ord (by rfl) T.b_ord boot_ord (pa_cons (pv 13) pa_nil)))) pa_nil))) pa_nil)))
    (pss_cons (ps_set (i := 10) sc_law_grouped.nd rfl (Or.inl rfl) (pe_ix ix_tup (pv 6) pe_int (fun _ _ => rfl)))
    (pss_cons (ps_if (pt_cmpR op_eq (pe_op op_mod (pv 9) pe_int) pe_int (nomark _)) (pss_one (ps_set (i := 10) sc_law_grouped.nd rfl (Or.inl rfl) (pe_op op_add pe_int (pe_op op_mod (pe_op op_fdivW (pv 9) pe_int) pe_int)))) pss_nil)
    (pss_cons (ps_set (i := 3) sc_law_grouped.nd rfl (Or.inr rfl) (pe_or (pv 3) (pe_one (pe_cmpR op_eq (pv 4) pe_str (nomark _)))))
    (pss_cons (ps_if (pt_val (pv 3)) (pss_one (ps_set (i := 10) sc_law_grouped.nd rfl (Or.inl rfl) pe_int)) pss_nil)
    (pss_cons (ps_set (i := 11) sc_law_grouped.nd rfl (Or.inl rfl) (pe_op op_mod (pe_op op_fdivW (pv 9) pe_int) (pe_ix ix_list (pe_lst (pa_cons pe_int (pa_cons (pe_op op_pow pe_int pe_int) pa_nil))) (pe_op op_mod (pe_op op_fdivW (pv 9) pe_int) pe_int) (fun _ _ => rfl))))
    (pss_cons (ps_set (i := 6) sc_law_grouped.nd rfl (Or.inl rfl) (pe_tup (pa_cons (pe_tup (pa_cons (pv 11) (pa_cons (pe_op op_pow pe_int pe_int) pa_nil))) (pa_cons (pe_ix ix_tup (pv 6) pe_int (fun _ _ => rfl)) (pa_cons (pe_ix ix_tup (pv 6) pe_int (fun _ _ => rfl)) (pa_cons (pe_ix ix_tup (pv 6) pe_int (fun _ _ => rfl)) (pa_cons (pe_ix ix_tup (pv 6) pe_int (fun _ _ => rfl)) (pa_cons (pv 10) pa_nil))))))))
    (pss_cons (ps_setLc (i := 12) (own := [("_law_part", 14)]) (g := (gName 14)) (tt := tYes) rfl sc_law_grouped.nd rfl rfl (sw_true rfl rfl rfl (by decide +kernel)) (pi_tup (pv 8)) (blkOk_by (own := [("_law_part", 14)]) (N := ["_law_tree_here", "_law_script", "_law_first", "_law_tabled_here", "_law_kind", "_law_name", "_law_own_here", "_law_what", "_law_parts", "_law_n", "_law_group", "_law_least", "_law_some", "_law_sign", "_law_part"]) (sc := defScope s_law_grouped) (by decide +kernel)) (fun _ _ _ _ _ => (pg_name (i := 14) sc_law_grouped.nd rfl (Or.inl rfl))) (fun _ _ _ _ _ => pts_nil) (fun _ _ _ _ _ => (pe_callR G_law_grouped hr rfl T.g_law_grouped T.d_law_grouped.kp pass0 (pa_cons (pv 14) (pa_cons (pv 1) (pa_cons (pv 2) (pa_cons (pv 3) pa_nil)))))))
    (pss_one (ps_ret (pe_tup (pa_cons (pv 4) (pa_cons (pv 5) (pa_cons (pv 6) (pa_cons (pv 7) (pa_cons (pe_callTy call_tuple_of (by rfl) T.b_tuple boot_tuple (pa_cons (pv 12) pa_nil)) pa_nil)))))))))))))))))) rd

theorem f_law_tabled {P : Program} {w : World} {K : PySem.W.Frag} {mg : Str → Option Value} {base : Heap} {k : Nat} (T : Fs K mg) (d : Nat) (G_law_tabled : FnR P w K mg base CX0 k 1352 (sp_law_tabled K d)) {sp : Sp}
    (len : ∀ vs H Q E, sp vs H Q E → vs.length = 2)
    (rd : ∀ (vs : List V) (H : Hp) (Q : VK) (E : XK), sp vs H Q E → r_law_tabled K d { nx := fun _ H' => Q .non H', rt := Q } (start ["_law_tree_here", "_law_within_here", "_law_found_here", "_law_part"] vs) H) :
    FnR P w K mg base CX0 (k + 1) 1352 sp :=
  T.d_law_tabled.fn0 sc_law_tabled (fun _ _ _ _ _ _ us hl => match us, hl with | [_, _], _ => rfl) len (r_law_tabled K d) (fun cdv A outer s H E hr => by
    exact (pss_cons (ps_set (i := 2) sc_law_tabled.nd rfl (Or.inl rfl) (pe_lst pa_nil))
    (pss_cons (ps_set (i := 1) sc_law_tabled.nd rfl (Or.inl rfl) (pe_or (pv 1) (pe_one (pe_cmpR op_eq (pe_ix ix_tup (pv 0) pe_int (fun _ _ => rfl)) pe_str (nomark _)))))
    (pss_cons (ps_if (pt_val (pv 1)) (pss_one (ps_expr (pe_bm PySem.F.plainAttrs_list PySem.F.slot_list_append PySem.F.type_list_append mt_append (pv 2) (pa_cons (pe_ix ix_tup (pv 0) pe_int (fun _ _ => rfl)) pa_nil)))) pss_nil)
    (pss_cons (ps_for PassesOwn.never rfl (pi_tup (pe_ix ix_tup (pv 0) pe_int (fun _ _ => rfl))) (pg_name (i := 3) sc_law_tabled.nd rfl (Or.inl rfl)) (pss_one (ps_set (i := 2) sc_law_tabled.nd rfl (Or.inl rfl) (pe_op op_cat (pv 2) (pe_callR G_law_tabled hr rfl T.g_law_tabled T.d_law_tabled.kp pass0 (pa_cons (pv 3) (pa_cons (pv 1) pa_nil)))))))
    (pss_one (ps_ret (pv 2)))))))) rd

theorem f_law_holds {P : Program} {w : World} {K : PySem.W.Frag} {mg : Str → Option Value} {base : Heap} {k : Nat} (T : Fs K mg)  (G_law_asked : FnR P w K mg base CX0 k 1340 (sp_law_asked K)) {sp : Sp}
    (len : ∀ vs H Q E, sp vs H Q E → vs.length = 2)
    (rd : ∀ (vs : List V) (H : Hp) (Q : VK) (E : XK), sp vs H Q E → r_law_holds K  { nx := fun _ H' => Q .non H', rt := Q } (start ["_law_boxes_here", "_law_leasts", "_law_firsts", "_law_box"] vs) H) :
    FnR P w K mg base CX0 (k + 1) 1359 sp :=
  T.d_law_holds.fn0 sc_law_holds (fun _ _ _ _ _ _ us hl => match us, hl with | [_, _], _ => rfl) len (r_law_holds K ) (fun cdv A outer s H E hr => by
    exact (pss_cons (ps_set (i := 2) sc_law_holds.nd rfl (Or.inl rfl) pe_dnewK)
    (pss_cons (ps_for PassesOwn.never rfl (pi_list (pv 0)) (pg_name (i := 3) sc_law_holds.nd rfl (Or.inl rfl)) (pss_cons (ps_if (pt_cmpR op_lt (pe_dget (hu_of hr) (pv 1) (pe_ix ix_tup (pv 3) pe_int (fun _ _ => rfl)) (fun _ _ => rfl)) (pe_callB (call_max2 rfl) (by rfl) T.b_max boot_max (pa_cons (pe_ix ix_tup (pe_ix ix_tup (pe_ix ix_tup (pv 3) pe_int (fun _ _ => rfl)) pe_int (fun _ _ => rfl)) pe_int (fun _ _ => rfl)) (pa_cons (pe_callR G_law_asked hr rfl T.g_law_asked T.d_law_asked.kp pass0 (pa_cons (pv 3) (pa_cons (pv 1) pa_nil))) pa_nil))) (nomark _)) (pss_one (ps_ret pe_bl)) pss_nil)
    (pss_one (ps_if (PW.pt (pw_and (pt_cmpR op_gt (pe_ix ix_tup (pe_ix ix_tup (pv 3) pe_int (fun _ _ => rfl)) pe_int (fun _ _ => rfl)) pe_int (nomark _)) (pw_and1 (pt_cmpR op_ne (pe_dsetd (pv 2) (pe_ix ix_tup (pe_ix ix_tup (pv 3) pe_int (fun _ _ => rfl)) pe_int (fun _ _ => rfl)) (pe_dget (hu_of hr) (pv 1) (pe_ix ix_tup (pv 3) pe_int (fun _ _ => rfl)) (fun _ _ => rfl)) ⟨rfl, rfl, rfl, rfl⟩) (pe_dget (hu_of hr) (pv 1) (pe_ix ix_tup (pv 3) pe_int (fun _ _ => rfl)) (fun _ _ => rfl)) (nomark _))))) (pss_one (ps_ret pe_bl)) pss_nil))))
    (pss_one (ps_ret pe_bl))))) rd

end BG
set_option maxHeartbeats 4000000
namespace BG
open PySem PySem.Spec PyProof.Rows L2
theorem f_law_raised {P : Program} {w : World} {K : PySem.W.Frag} {mg : Str → Option Value} {base : Heap} {k : Nat} (T : Fs K mg)  (G_law_asked : FnR P w K mg base CX0 k 1340 (sp_law_asked K)) {sp : Sp}
    (len : ∀ vs H Q E, sp vs H Q E → vs.length = 2)
    (rd : ∀ (vs : List V) (H : Hp) (Q : VK) (E : XK), sp vs H Q E → r_law_raised K  { nx := fun _ H' => Q .non H', rt := Q } (start ["_law_boxes_here", "_law_leasts", "_law_greatest", "_law_after", "_law_box"] vs) H) :
    FnR P w K mg base CX0 (k + 1) 1366 sp :=
  T.d_law_raised.fn0 sc_law_raised (fun _ _ _ _ _ _ us hl => match us, hl with | [_, _], _ => rfl) len (r_law_raised K ) (fun cdv A outer s H E hr => by
    exact (pss_cons (ps_set (i := 2) sc_law_raised.nd rfl (Or.inl rfl) pe_dnewK)
    (pss_cons (ps_set (i := 3) sc_law_raised.nd rfl (Or.inl rfl) pe_dnewK)
    (pss_cons (ps_for PassesOwn.never rfl (pi_list (pv 0)) (pg_name (i := 4) sc_law_raised.nd rfl (Or.inl rfl)) (pss_cons (ps_dput (hu_of hr) (pv 3) (pe_ix ix_tup (pv 4) pe_int (fun _ _ => rfl)) (pe_callB (call_max3 rfl) (by rfl) T.b_max boot_max (pa_cons (pe_dget (hu_of hr) (pv 1) (pe_ix ix_tup (pv 4) pe_int (fun _ _ => rfl)) (fun _ _ => rfl)) (pa_cons (pe_ix ix_tup (pe_ix ix_tup (pe_ix ix_tup (pv 4) pe_int (fun _ _ => rfl)) pe_int (fun _ _ => rfl)) pe_int (fun _ _ => rfl)) (pa_cons (pe_callR G_law_asked hr rfl T.g_law_asked T.d_law_asked.kp pass0 (pa_cons (pv 4) (pa_cons (pv 1) pa_nil))) pa_nil)))) rfl)
    (pss_one (ps_dput (hu_of hr) (pv 2) (pe_ix ix_tup (pe_ix ix_tup (pv 4) pe_int (fun _ _ => rfl)) pe_int (fun _ _ => rfl)) (pe_callB (call_max2 rfl) (by rfl) T.b_max boot_max (pa_cons (pe_dget2 (hu_of hr) (pv 2) (pe_ix ix_tup (pe_ix ix_tup (pv 4) pe_int (fun _ _ => rfl)) pe_int (fun _ _ => rfl)) pe_int ⟨rfl, rfl, rfl, rfl⟩) (pa_cons (pe_dget (hu_of hr) (pv 3) (pe_ix ix_tup (pv 4) pe_int (fun _ _ => rfl)) (fun _ _ => rfl)) pa_nil))) rfl))))
    (pss_cons (ps_for PassesOwn.never rfl (pi_list (pv 0)) (pg_name (i := 4) sc_law_raised.nd rfl (Or.inl rfl)) (pss_one (ps_if (pt_cmpR op_gt (pe_ix ix_tup (pe_ix ix_tup (pv 4) pe_int (fun _ _ => rfl)) pe_int (fun _ _ => rfl)) pe_int (nomark _)) (pss_one (ps_dput (hu_of hr) (pv 3) (pe_ix ix_tup (pv 4) pe_int (fun _ _ => rfl)) (pe_dget (hu_of hr) (pv 2) (pe_ix ix_tup (pe_ix ix_tup (pv 4) pe_int (fun _ _ => rfl)) pe_int (fun _ _ => rfl)) (fun _ _ => rfl)) rfl)) pss_nil)))
    (pss_one (ps_ret (pv 3)))))))) rd

theorem f_law_other {P : Program} {w : World} {K : PySem.W.Frag} {mg : Str → Option Value} {base : Heap} {k : Nat} (T : Fs K mg)  (G_law_mixed : FnR P w K mg base CX0 k 1262 (sp_law_mixed K)) (G_law_holds : FnR P w K mg base CX0 k 1359 (sp_law_holds K)) (G_law_raised : FnR P w K mg base CX0 k 1366 (sp_law_raised K)) {sp : Sp}
    (len : ∀ vs H Q E, sp vs H Q E → vs.length = 4)
    (rd : ∀ (vs : List V) (H : Hp) (Q : VK) (E : XK), sp vs H Q E → r_law_other K  { nx := fun _ H' => Q .non H', rt := Q } (start ["_law_boxes_here", "_law_leasts", "_law_cell", "_law_fixed", "_law_other_here", "_law_k", "_law_n", "_law_name", "_law_more", "_law_turn"] vs) H) :
    FnR P w K mg base CX0 (k + 1) 1373 sp :=
  T.d_law_other.fn0 sc_law_other (fun _ _ _ _ _ _ us hl => match us, hl with | [_, _, _, _], _ => rfl) len (r_law_other K ) (fun cdv A outer s H E hr => by
    exact (pss_cons (ps_set (i := 4) sc_law_other.nd rfl (Or.inl rfl) pe_dnewK)
    (pss_cons (ps_for PassesOwn.never rfl (pi_range1 rfl T.b_range (pa_cons (pe_callB call_len_seq (by rfl) T.b_len boot_len (pa_cons (pv 0) pa_nil)) pa_nil)) (pg_name (i := 5) sc_law_other.nd rfl (Or.inl rfl)) (pss_cons (ps_set (i := 6) sc_law_other.nd rfl (Or.inl rfl) (pe_callR G_law_mixed hr rfl T.g_law_mixed T.d_law_mixed.kp pass0 (pa_cons (pe_op op_add (pv 2) (pe_op op_mul (pe_op op_mul pe_int (pv 5)) (pv 5))) pa_nil)))
    (pss_cons (ps_set (i := 7) sc_law_other.nd rfl (Or.inl rfl) (pe_ix ix_tup (pe_ix ix_list (pv 0) (pv 5) (fun _ _ => rfl)) pe_int (fun _ _ => rfl)))
    (pss_cons (ps_dput (hu_of hr) (pv 4) (pv 7) (pe_dget (hu_of hr) (pv 1) (pv 7) (fun _ _ => rfl)) rfl)
    (pss_one (ps_if (pt_cmpR op_notIn_seq (pv 7) (pv 3) (by rfl)) (pss_cons (ps_set (i := 8) sc_law_other.nd rfl (Or.inl rfl) (pe_op op_mul (pe_op op_mod (pe_op op_fdivW (pv 6) pe_int) pe_int) (pe_op op_mod (pe_op op_fdivW (pv 6) pe_int) pe_int)))
    (pss_one (ps_dput (hu_of hr) (pv 4) (pv 7) (pe_op op_add (pe_op op_mul (pe_dget (hu_of hr) (pv 1) (pv 7) (fun _ _ => rfl)) (pe_op op_mod (pe_op op_mod (pv 6) pe_int) pe_int)) (pv 8)) rfl))) pss_nil))))))
    (pss_cons (ps_for PassesOwn.never rfl (pi_range1 rfl T.b_range (pa_cons pe_int pa_nil)) (pg_name (i := 9) sc_law_other.nd rfl (Or.inl rfl)) (pss_one (ps_if (PW.pt (pw_and (pt_cmpR op_le (pe_maxVals rfl (by rfl) T.b_max (pv 4)) (pe_op op_pow pe_int pe_int) (nomark _)) (pw_and1 (pt_not (pt_val (pe_callR G_law_holds hr rfl T.g_law_holds T.d_law_holds.kp pass0 (pa_cons (pv 0) (pa_cons (pv 4) pa_nil)))))))) (pss_one (ps_set (i := 4) sc_law_other.nd rfl (Or.inl rfl) (pe_callR G_law_raised hr rfl T.g_law_raised T.d_law_raised.kp pass0 (pa_cons (pv 0) (pa_cons (pv 4) pa_nil))))) pss_nil)))
    (pss_one (ps_ret (pv 4))))))) rd

theorem f_law_lifted {P : Program} {w : World} {K : PySem.W.Frag} {mg : Str → Option Value} {base : Heap} {k : Nat} (T : Fs K mg)  (G_law_holds : FnR P w K mg base CX0 k 1359 (sp_law_holds K)) (G_law_raised : FnR P w K mg base CX0 k 1366 (sp_law_raised K)) {sp : Sp}
    (len : ∀ vs H Q E, sp vs H Q E → vs.length = 4)
    (rd : ∀ (vs : List V) (H : Hp) (Q : VK) (E : XK), sp vs H Q E → r_law_lifted K  { nx := fun _ H' => Q .non H', rt := Q } (start ["_law_boxes_here", "_law_leasts", "_law_group", "_law_by", "_law_other_here", "_law_box", "_law_turn"] vs) H) :
    FnR P w K mg base CX0 (k + 1) 1380 sp :=
  T.d_law_lifted.fn0 sc_law_lifted (fun _ _ _ _ _ _ us hl => match us, hl with | [_, _, _, _], _ => rfl) len (r_law_lifted K ) (fun cdv A outer s H E hr => by
    exact (pss_cons (ps_set (i := 4) sc_law_lifted.nd rfl (Or.inl rfl) (pe_callTy call_dictD (by rfl) T.b_dict boot_dict (pa_cons (pv 1) pa_nil)))
    (pss_cons (ps_for PassesOwn.never rfl (pi_list (pv 0)) (pg_name (i := 5) sc_law_lifted.nd rfl (Or.inl rfl)) (pss_one (ps_if (pt_cmpR op_eq (pe_ix ix_tup (pe_ix ix_tup (pv 5) pe_int (fun _ _ => rfl)) pe_int (fun _ _ => rfl)) (pv 2) (nomark _)) (pss_one (ps_dput (hu_of hr) (pv 4) (pe_ix ix_tup (pv 5) pe_int (fun _ _ => rfl)) (pe_op op_add (pe_dget (hu_of hr) (pv 4) (pe_ix ix_tup (pv 5) pe_int (fun _ _ => rfl)) (fun _ _ => rfl)) (pv 3)) rfl)) pss_nil)))
    (pss_cons (ps_for PassesOwn.never rfl (pi_range1 rfl T.b_range (pa_cons pe_int pa_nil)) (pg_name (i := 6) sc_law_lifted.nd rfl (Or.inl rfl)) (pss_one (ps_if (PW.pt (pw_and (pt_cmpR op_le (pe_maxVals rfl (by rfl) T.b_max (pv 4)) (pe_op op_pow pe_int pe_int) (nomark _)) (pw_and1 (pt_not (pt_val (pe_callR G_law_holds hr rfl T.g_law_holds T.d_law_holds.kp pass0 (pa_cons (pv 0) (pa_cons (pv 4) pa_nil)))))))) (pss_one (ps_set (i := 4) sc_law_lifted.nd rfl (Or.inl rfl) (pe_callR G_law_raised hr rfl T.g_law_raised T.d_law_raised.kp pass0 (pa_cons (pv 0) (pa_cons (pv 4) pa_nil))))) pss_nil)))
    (pss_one (ps_ret (pv 4))))))) rd

theorem f_law_lowered {P : Program} {w : World} {K : PySem.W.Frag} {mg : Str → Option Value} {base : Heap} {k : Nat} (T : Fs K mg)  (G_law_asked : FnR P w K mg base CX0 k 1340 (sp_law_asked K)) {sp : Sp}
    (len : ∀ vs H Q E, sp vs H Q E → vs.length = 3)
    (rd : ∀ (vs : List V) (H : Hp) (Q : VK) (E : XK), sp vs H Q E → r_law_lowered K  { nx := fun _ H' => Q .non H', rt := Q } (start ["_law_boxes_here", "_law_leasts", "_law_cell", "_law_other_here", "_law_low", "_law_box"] vs) H) :
    FnR P w K mg base CX0 (k + 1) 1387 sp :=
  T.d_law_lowered.fn0 sc_law_lowered (fun _ _ _ _ _ _ us hl => match us, hl with | [_, _, _], _ => rfl) len (r_law_lowered K ) (fun cdv A outer s H E hr => by
    exact (pss_cons (ps_set (i := 3) sc_law_lowered.nd rfl (Or.inl rfl) (pe_callTy call_dictD (by rfl) T.b_dict boot_dict (pa_cons (pv 1) pa_nil)))
    (pss_cons (ps_set (i := 4) sc_law_lowered.nd rfl (Or.inl rfl) (pe_ix ix_tup (pe_ix ix_list (pv 0) (pe_op op_mod (pv 2) (pe_callB call_len_seq (by rfl) T.b_len boot_len (pa_cons (pv 0) pa_nil))) (fun _ _ => rfl)) pe_int (fun _ _ => rfl)))
    (pss_cons (ps_for PassesOwn.never rfl (pi_list (pe_revL (pv 0))) (pg_name (i := 5) sc_law_lowered.nd rfl (Or.inl rfl)) (pss_cons (ps_dput (hu_of hr) (pv 3) (pe_ix ix_tup (pv 5) pe_int (fun _ _ => rfl)) (pe_callB (call_max2 rfl) (by rfl) T.b_max boot_max (pa_cons (pe_ix ix_tup (pe_ix ix_tup (pe_ix ix_tup (pv 5) pe_int (fun _ _ => rfl)) pe_int (fun _ _ => rfl)) pe_int (fun _ _ => rfl)) (pa_cons (pe_callR G_law_asked hr rfl T.g_law_asked T.d_law_asked.kp pass0 (pa_cons (pv 5) (pa_cons (pv 3) pa_nil))) pa_nil))) rfl)
    (pss_one (ps_if (pt_cmpR op_eq (pe_ix ix_tup (pv 5) pe_int (fun _ _ => rfl)) (pv 4) (nomark _)) (pss_one (ps_dput (hu_of hr) (pv 3) (pv 4) (pe_ix ix_tup (pe_ix ix_tup (pe_ix ix_tup (pv 5) pe_int (fun _ _ => rfl)) pe_int (fun _ _ => rfl)) pe_int (fun _ _ => rfl)) rfl)) pss_nil))))
    (pss_one (ps_ret (pv 3))))))) rd

theorem f_law_matched {P : Program} {w : World} {K : PySem.W.Frag} {mg : Str → Option Value} {base : Heap} {k : Nat} (T : Fs K mg)  (G_law_holds : FnR P w K mg base CX0 k 1359 (sp_law_holds K)) (G_law_raised : FnR P w K mg base CX0 k 1366 (sp_law_raised K)) {sp : Sp}
    (len : ∀ vs H Q E, sp vs H Q E → vs.length = 4)
    (rd : ∀ (vs : List V) (H : Hp) (Q : VK) (E : XK), sp vs H Q E → r_law_matched K  { nx := fun _ H' => Q .non H', rt := Q } (start ["_law_boxes_here", "_law_leasts", "_law_cell", "_law_fixed", "_law_other_here", "_law_free", "_law_name", "_law_more", "_law_turn", "_law_box", "_law_one"] vs) H) :
    FnR P w K mg base CX0 (k + 1) 1392 sp :=
  T.d_law_matched.fn0 sc_law_matched (fun _ _ _ _ _ _ us hl => match us, hl with | [_, _, _, _], _ => rfl) len (r_law_matched K ) (fun cdv A outer s H E hr => by
    exact (pss_cons (ps_set (i := 4) sc_law_matched.nd rfl (Or.inl rfl) (pe_callTy call_dictD (by rfl) T.b_dict boot_dict (pa_cons (pv 1) pa_nil)))
    (pss_cons (ps_setLc (i := 5) (own := [("_law_box", 9)]) (g := (gName 9)) (tt := (tAnd (tTest (tOp rEq (tOp (rIxT K) (tOp (rIxT K) (tVar 9) (tC (.int 2))) (tC (.int 5))) (tC (.int 0)))) (tTest (tOp (rIn K true) (tOp (rIxT K) (tVar 9) (tC (.int 1))) (tVar 3))))) rfl sc_law_matched.nd rfl rfl (sw_true rfl rfl rfl (by decide +kernel)) (pi_list (pv 0)) (blkOk_by (own := [("_law_box", 9)]) (N := ["_law_boxes_here", "_law_leasts", "_law_cell", "_law_fixed", "_law_other_here", "_law_free", "_law_name", "_law_more", "_law_turn", "_law_box", "_law_one"]) (sc := defScope s_law_matched) (by decide +kernel)) (fun _ _ _ _ _ => (pg_name (i := 9) sc_law_matched.nd rfl (Or.inl rfl))) (fun _ _ _ _ _ => pts_one (PW.pt (pw_and (pt_cmpR op_eq (pe_ix ix_tup (pe_ix ix_tup (pv 9) pe_int (fun _ _ => rfl)) pe_int (fun _ _ => rfl)) pe_int (nomark _)) (pw_and1 (pt_cmpR op_notIn_seq (pe_ix ix_tup (pv 9) pe_int (fun _ _ => rfl)) (pv 3) (by rfl)))))) (fun _ _ _ _ _ => (pe_ix ix_tup (pv 9) pe_int (fun _ _ => rfl))))
    (pss_cons (ps_if (pt_cmpR (op_neNil hr.units) (pv 5) (pe_lst pa_nil) (nomark _)) (pss_cons (ps_set (i := 6) sc_law_matched.nd rfl (Or.inr rfl) (pe_ix ix_list (pv 5) (pe_op op_mod (pe_op op_fdivW (pv 2) pe_int) (pe_callB call_len_seq (by rfl) T.b_len boot_len (pa_cons (pv 5) pa_nil))) (fun _ _ => rfl)))
    (pss_cons (ps_set (i := 7) sc_law_matched.nd rfl (Or.inl rfl) (pe_callB cr_sortedI (by rfl) T.b_sorted boot_sorted (pa_cons (pe_lock (pe_lc (own := [("_law_one", 10)]) (g := (gName 10)) (tt := (tTest (tOp qGt (tDGet (tVar 1) (tVar 10)) (tDGet (tVar 1) (tVar 6))))) rfl sc_law_matched.nd  (pi_keys (pv 1)) (blkOk_by (own := [("_law_one", 10)]) (N := ["_law_boxes_here", "_law_leasts", "_law_cell", "_law_fixed", "_law_other_here", "_law_free", "_law_name", "_law_more", "_law_turn", "_law_box", "_law_one"]) (sc := defScope s_law_matched) (by decide +kernel)) (fun _ _ _ _ _ => (pg_name (i := 10) sc_law_matched.nd rfl (Or.inl rfl))) (fun _ _ _ _ _ => pts_one (pt_cmpR op_gt (pe_dget (hu_of hr) (pv 1) (pv 10) (fun _ _ => rfl)) (pe_dget (hu_of hr) (pv 1) (pv 6) (fun _ _ => rfl)) (nomark _))) (fun _ _ _ _ _ => (pe_dget (hu_of hr) (pv 1) (pv 10) (fun _ _ => rfl))))) pa_nil)))
    (pss_one (ps_dput (hu_of hr) (pv 4) (pv 6) (pe_ix ix_list (pe_op op_cat (pv 7) (pe_lst (pa_cons (pe_op op_add (pe_dget (hu_of hr) (pv 1) (pv 6) (fun _ _ => rfl)) pe_int) pa_nil))) pe_int (fun _ _ => rfl)) rfl)))) pss_nil)
    (pss_cons (ps_for PassesOwn.never rfl (pi_range1 rfl T.b_range (pa_cons pe_int pa_nil)) (pg_name (i := 8) sc_law_matched.nd rfl (Or.inl rfl)) (pss_one (ps_if (PW.pt (pw_and (pt_cmpR op_le (pe_maxVals rfl (by rfl) T.b_max (pv 4)) (pe_op op_pow pe_int pe_int) (nomark _)) (pw_and1 (pt_not (pt_val (pe_callR G_law_holds hr rfl T.g_law_holds T.d_law_holds.kp pass0 (pa_cons (pv 0) (pa_cons (pv 4) pa_nil)))))))) (pss_one (ps_set (i := 4) sc_law_matched.nd rfl (Or.inl rfl) (pe_callR G_law_raised hr rfl T.g_law_raised T.d_law_raised.kp pass0 (pa_cons (pv 0) (pa_cons (pv 4) pa_nil))))) pss_nil)))
    (pss_one (ps_ret (pv 4)))))))) rd

theorem f_law_forged {P : Program} {w : World} {K : PySem.W.Frag} {mg : Str → Option Value} {base : Heap} {k : Nat} (T : Fs K mg)  (G_law_mixed : FnR P w K mg base CX0 k 1262 (sp_law_mixed K)) (G_law_asked : FnR P w K mg base CX0 k 1340 (sp_law_asked K)) {sp : Sp}
    (len : ∀ vs H Q E, sp vs H Q E → vs.length = 3)
    (rd : ∀ (vs : List V) (H : Hp) (Q : VK) (E : XK), sp vs H Q E → r_law_forged K  { nx := fun _ H' => Q .non H', rt := Q } (start ["_law_boxes_here", "_law_leasts", "_law_cell", "_law_paper", "_law_groups", "_law_box", "_law_k", "_law_least", "_law_n", "_law_rank", "_law_some", "_law_parts", "_law_name", "_law_part"] vs) H) :
    FnR P w K mg base CX0 (k + 1) 1397 sp :=
  T.d_law_forged.fn0 sc_law_forged (fun _ _ _ _ _ _ us hl => match us, hl with | [_, _, _], _ => rfl) len (r_law_forged K ) (fun cdv A outer s H E hr => by
    exact (pss_cons (ps_set (i := 3) sc_law_forged.nd rfl (Or.inl rfl) pe_dnewK)
    (pss_cons (ps_set (i := 4) sc_law_forged.nd rfl (Or.inl rfl) pe_dnewK)
    (pss_cons (ps_for PassesOwn.never rfl (pi_list (pv 0)) (pg_name (i := 5) sc_law_forged.nd rfl (Or.inr rfl)) (pss_one (ps_expr (pe_bm PySem.F.plainAttrs_list PySem.F.slot_list_append PySem.F.type_list_append mt_append (pe_dsetd (pv 4) (pe_ix ix_tup (pe_ix ix_tup (pv 5) pe_int (fun _ _ => rfl)) pe_int (fun _ _ => rfl)) (pe_lst pa_nil) ⟨rfl, rfl, rfl, rfl⟩) (pa_cons (pe_ix ix_tup (pv 5) pe_int (fun _ _ => rfl)) pa_nil)))))
    (pss_cons (ps_for PassesOwn.never rfl (pi_range1 rfl T.b_range (pa_cons (pe_callB call_len_seq (by rfl) T.b_len boot_len (pa_cons (pv 0) pa_nil)) pa_nil)) (pg_name (i := 6) sc_law_forged.nd rfl (Or.inl rfl)) (pss_cons (ps_set (i := 5) sc_law_forged.nd rfl (Or.inr rfl) (pe_ix ix_list (pv 0) (pv 6) (fun _ _ => rfl)))
    (pss_cons (ps_set (i := 7) sc_law_forged.nd rfl (Or.inr rfl) (pe_dget (hu_of hr) (pv 1) (pe_ix ix_tup (pv 5) pe_int (fun _ _ => rfl)) (fun _ _ => rfl)))
    (pss_cons (ps_set (i := 8) sc_law_forged.nd rfl (Or.inl rfl) (pe_callR G_law_mixed hr rfl T.g_law_mixed T.d_law_mixed.kp pass0 (pa_cons (pe_op op_add (pv 2) (pe_op op_mul (pe_op op_mul pe_int (pv 6)) (pv 6))) pa_nil)))
    (pss_cons (ps_set (i := 9) sc_law_forged.nd rfl (Or.inl rfl) (pe_op op_sub pe_int (pv 6)))
    (pss_cons (ps_if (pt_cmpR op_eq (pe_op op_mod (pv 2) pe_int) pe_int (nomark _)) (pss_one (ps_set (i := 9) sc_law_forged.nd rfl (Or.inl rfl) (pe_ix ix_list (pe_lst (pa_cons pe_int (pa_cons (pe_op op_mod (pe_op op_fdivW (pv 8) pe_int) pe_int) (pa_cons (pe_op op_sub pe_int (pv 6)) (pa_cons (pv 6) pa_nil))))) (pe_op op_mod (pv 8) pe_int) (fun _ _ => rfl)))) pss_nil)
    (pss_cons (ps_set (i := 10) sc_law_forged.nd rfl (Or.inl rfl) (pe_dget (hu_of hr) (pv 4) (pe_ix ix_tup (pe_ix ix_tup (pv 5) pe_int (fun _ _ => rfl)) pe_int (fun _ _ => rfl)) (fun _ _ => rfl)))
    (pss_cons (ps_if (pt_cmpR op_eq (pe_op op_mod (pe_op op_fdivW (pv 2) pe_int) pe_int) pe_int (nomark _)) (pss_one (ps_set (i := 10) sc_law_forged.nd rfl (Or.inl rfl) (pe_op op_cat (pe_lc (own := [("_law_name", 12)]) (g := (gName 12)) (tt := (tAnd (tTest (tOp rEq (tDGet (tVar 1) (tVar 12)) (tVar 7))) (tTest (tOp rNe (tVar 12) (tOp (rIxT K) (tVar 5) (tC (.int 1))))))) rfl sc_law_forged.nd  (pi_list (pe_callB (call_sortedD rfl) (by rfl) T.b_sorted boot_sorted (pa_cons (pv 1) pa_nil))) (blkOk_by (own := [("_law_name", 12)]) (N := ["_law_boxes_here", "_law_leasts", "_law_cell", "_law_paper", "_law_groups", "_law_box", "_law_k", "_law_least", "_law_n", "_law_rank", "_law_some", "_law_parts", "_law_name", "_law_part"]) (sc := defScope s_law_forged) (by decide +kernel)) (fun _ _ _ _ _ => (pg_name (i := 12) sc_law_forged.nd rfl (Or.inl rfl))) (fun _ _ _ _ _ => pts_one (PW.pt (pw_and (pt_cmpR op_eq (pe_dget (hu_of hr) (pv 1) (pv 12) (fun _ _ => rfl)) (pv 7) (nomark _)) (pw_and1 (pt_cmpR op_ne (pv 12) (pe_ix ix_tup (pv 5) pe_int (fun _ _ => rfl)) (nomark _)))))) (fun _ _ _ _ _ => (pv 12))) (pe_slice sl_list (pv 10) po_none (po_some pe_int))))) pss_nil)
    (pss_cons (ps_dput (hu_of hr) (pv 3) (pe_ix ix_tup (pv 5) pe_int (fun _ _ => rfl)) (pe_tup (pa_cons pe_str (pa_cons (pe_ix ix_list (pv 10) (pe_op op_mod (pe_op op_fdivW (pv 8) pe_int) (pe_callB call_len_seq (by rfl) T.b_len boot_len (pa_cons (pv 10) pa_nil))) (fun _ _ => rfl)) (pa_cons (pv 9) pa_nil)))) rfl)
    (pss_cons (ps_setLc (i := 11) (own := [("_law_part", 13)]) (g := (gName 13)) (tt := (tTest (tOp rEq (tDGet (tVar 1) (tOp (rIxT K) (tVar 13) (tC (.int 1)))) (tVar 7)))) rfl sc_law_forged.nd rfl rfl (sw_true rfl rfl rfl (by decide +kernel)) (pi_tup (pe_ix ix_tup (pv 5) pe_int (fun _ _ => rfl))) (blkOk_by (own := [("_law_part", 13)]) (N := ["_law_boxes_here", "_law_leasts", "_law_cell", "_law_paper", "_law_groups", "_law_box", "_law_k", "_law_least", "_law_n", "_law_rank", "_law_some", "_law_parts", "_law_name", "_law_part"]) (sc := defScope s_law_forged) (by decide +kernel)) (fun _ _ _ _ _ => (pg_name (i := 13) sc_law_forged.nd rfl (Or.inl rfl))) (fun _ _ _ _ _ => pts_one (pt_cmpR op_eq (pe_dget (hu_of hr) (pv 1) (pe_ix ix_tup (pv 13) pe_int (fun _ _ => rfl)) (fun _ _ => rfl)) (pv 7) (nomark _))) (fun _ _ _ _ _ => (pe_ix ix_tup (pv 13) pe_int (fun _ _ => rfl))))
    (pss_one (ps_if (pt_cmpR op_eq (pv 7) (pe_ix ix_tup (pe_ix ix_tup (pe_ix ix_tup (pv 5) pe_int (fun _ _ => rfl)) pe_int (fun _ _ => rfl)) pe_int (fun _ _ => rfl)) (nomark _)) (pss_one (ps_dput (hu_of hr) (pv 3) (pe_ix ix_tup (pv 5) pe_int (fun _ _ => rfl)) (pe_tup (pa_cons pe_str (pa_cons pe_str (pa_cons (pv 9) pa_nil)))) rfl)) (pss_one (ps_if (PW.pt (pw_and (pt_cmpR op_eq (pv 7) (pe_callR G_law_asked hr rfl T.g_law_asked T.d_law_asked.kp pass0 (pa_cons (pv 5) (pa_cons (pv 1) pa_nil))) (nomark _)) (pw_and1 (pt_cmpR op_in_seq (pe_ix ix_tup (pv 5) pe_int (fun _ _ => rfl)) (pe_tup (pa_cons pe_str (pa_cons pe_str pa_nil))) (by rfl))))) (pss_one (ps_dput (hu_of hr) (pv 3) (pe_ix ix_tup (pv 5) pe_int (fun _ _ => rfl)) (pe_tup (pa_cons pe_str (pa_cons pe_str (pa_cons (pv 9) pa_nil)))) rfl)) (pss_one (ps_if (PW.pt (pw_and (pt_cmpR op_eq (pv 7) (pe_callR G_law_asked hr rfl T.g_law_asked T.d_law_asked.kp pass0 (pa_cons (pv 5) (pa_cons (pv 1) pa_nil))) (nomark _)) (pw_and1 (pt_cmpR (op_neNil hr.units) (pv 11) (pe_lst pa_nil) (nomark _))))) (pss_one (ps_dput (hu_of hr) (pv 3) (pe_ix ix_tup (pv 5) pe_int (fun _ _ => rfl)) (pe_tup (pa_cons pe_str (pa_cons (pe_ix ix_list (pv 11) pe_int (fun _ _ => rfl)) (pa_cons (pv 9) pa_nil)))) rfl)) pss_nil))))))))))))))))
    (pss_one (ps_ret (pv 3)))))))) rd

theorem f_law_papers {P : Program} {w : World} {K : PySem.W.Frag} {mg : Str → Option Value} {base : Heap} {k : Nat} (T : Fs K mg)  (G_leasts_hold : FnR P w K mg base CX0 k 1248 (sp_leasts_hold K)) {sp : Sp}
    (len : ∀ vs H Q E, sp vs H Q E → vs.length = 4)
    (rd : ∀ (vs : List V) (H : Hp) (Q : VK) (E : XK), sp vs H Q E → r_law_papers K  { nx := fun _ H' => Q .non H', rt := Q } (start ["_law_tree_here", "_law_leasts", "_law_paper", "_law_cell", "_law_shifted", "_law_name", "_law_word", "_law_other_here", "_law_rank", "_law_reason", "_law_bent"] vs) H) :
    FnR P w K mg base CX0 (k + 1) 1411 sp :=
  T.d_law_papers.fn0 sc_law_papers (fun _ _ _ _ _ _ us hl => match us, hl with | [_, _, _, _], _ => rfl) len (r_law_papers K ) (fun cdv A outer s H E hr => by
    exact (pss_cons (ps_set (i := 4) sc_law_papers.nd rfl (Or.inl rfl) pe_dnewK)
    (pss_cons (ps_lock (ps_for PassesOwn.never rfl (pi_keys (pv 2)) (pg_name (i := 5) sc_law_papers.nd rfl (Or.inl rfl)) (pss_cons (ps_asg (pe_dget (hu_of hr) (pv 2) (pv 5) (fun _ _ => rfl)) (pg_tup (by rfl) (pgs_cons (pg_name (i := 6) sc_law_papers.nd rfl (Or.inl rfl)) (pgs_cons (pg_name (i := 7) sc_law_papers.nd rfl (Or.inl rfl)) (pgs_cons (pg_name (i := 8) sc_law_papers.nd rfl (Or.inl rfl)) pgs_nil)))))
    (pss_one (ps_dput (hu_of hr) (pv 4) (pv 5) (pe_tup (pa_cons (pv 6) (pa_cons (pv 7) (pa_cons (pe_op op_add (pe_op op_mul (pv 8) pe_int) (pe_op op_mod (pv 3) pe_int)) pa_nil)))) rfl)))))
    (pss_cons (ps_if (pt_cmpR op_notBl (pe_callR G_leasts_hold hr rfl T.g_leasts_hold T.d_leasts_hold.kp pass0 (pa_cons (pv 0) (pa_cons (pe_callTy call_dictD (by rfl) T.b_dict boot_dict (pa_cons (pv 1) pa_nil)) (pa_cons (pv 4) pa_nil)))) pe_bl (nomark _)) (pss_one (ps_ret pe_bl)) pss_nil)
    (pss_cons (ps_set (i := 5) sc_law_papers.nd rfl (Or.inl rfl) (pe_ix ix_list (pe_callB (call_sortedD rfl) (by rfl) T.b_sorted boot_sorted (pa_cons (pv 2) pa_nil)) (pe_op op_mod (pv 3) (pe_callB call_lenD (by rfl) T.b_len boot_len (pa_cons (pv 2) pa_nil))) (fun _ _ => rfl)))
    (pss_cons (ps_asg (pe_dget (hu_of hr) (pv 2) (pv 5) (fun _ _ => rfl)) (pg_tup (by rfl) (pgs_cons (pg_name (i := 6) sc_law_papers.nd rfl (Or.inl rfl)) (pgs_cons (pg_name (i := 7) sc_law_papers.nd rfl (Or.inl rfl)) (pgs_cons (pg_name (i := 8) sc_law_papers.nd rfl (Or.inl rfl)) pgs_nil)))))
    (pss_cons (ps_for PassesOwn.never rfl (pi_list (pe_lst (pa_cons (pe_tup (pa_cons pe_str (pa_cons pe_str (pa_cons (pv 8) pa_nil)))) (pa_cons (pe_tup (pa_cons pe_str (pa_cons (pv 7) (pa_cons (pv 8) pa_nil)))) (pa_cons (pe_tup (pa_cons pe_str (pa_cons pe_str (pa_cons pe_int pa_nil)))) pa_nil))))) (pg_name (i := 9) sc_law_papers.nd rfl (Or.inl rfl)) (pss_cons (ps_set (i := 10) sc_law_papers.nd rfl (Or.inl rfl) (pe_callTy call_dictD (by rfl) T.b_dict boot_dict (pa_cons (pv 2) pa_nil)))
    (pss_cons (ps_dput (hu_of hr) (pv 10) (pv 5) (pv 9) rfl)
    (pss_one (ps_if (pt_cmpR op_notBl (pe_callR G_leasts_hold hr rfl T.g_leasts_hold T.d_leasts_hold.kp pass0 (pa_cons (pv 0) (pa_cons (pe_callTy call_dictD (by rfl) T.b_dict boot_dict (pa_cons (pv 1) pa_nil)) (pa_cons (pv 10) pa_nil)))) pe_bl (nomark _)) (pss_one (ps_ret pe_bl)) pss_nil)))))
    (pss_one (ps_ret pe_bl))))))))) rd

theorem f_law {P : Program} {w : World} {K : PySem.W.Frag} {mg : Str → Option Value} {base : Heap} {k : Nat} (T : Fs K mg)  (G_law_grouped : FnR P w K mg base CX0 k 1345 (sp_law_grouped K 9)) (G_law_tree : FnR P w K mg base CX0 k 1321 (sp_law_tree K)) (G_law_tabled : FnR P w K mg base CX0 k 1352 (sp_law_tabled K 9)) (G_law_boxes : FnR P w K mg base CX0 k 1328 (sp_law_boxes K)) (G_law_found : FnR P w K mg base CX0 k 1404 (sp_law_found K)) (G_law_holds : FnR P w K mg base CX0 k 1359 (sp_law_holds K)) (G_leasts_hold : FnR P w K mg base CX0 k 1248 (sp_leasts_hold K)) (G_law_papers : FnR P w K mg base CX0 k 1411 (sp_law_papers K)) (G_law_at : FnR P w K mg base CX0 k 1255 (sp_law_at K)) (G_law_other : FnR P w K mg base CX0 k 1373 (sp_law_other K)) (G_law_lifted : FnR P w K mg base CX0 k 1380 (sp_law_lifted K)) (G_law_lowered : FnR P w K mg base CX0 k 1387 (sp_law_lowered K)) (G_law_matched : FnR P w K mg base CX0 k 1392 (sp_law_matched K)) (G_law_forged : FnR P w K mg base CX0 k 1397 (sp_law_forged K)) {sp : Sp}
    (len : ∀ vs H Q E, sp vs H Q E → vs.length = 1)
    (rd : ∀ (vs : List V) (H : Hp) (Q : VK) (E : XK), sp vs H Q E → r_law K  { nx := fun _ H' => Q .non H', rt := Q } (start ["_law_script", "_law_tree_here", "_law_fixed", "_law_boxes_here", "_law_found_here", "_law_leasts", "_law_paper", "_law_k", "_law_other_here", "_law_told", "_law_lowered_here", "_law_matched_here", "_law_some", "_law_one", "_law_box", "_law_name"] vs) H) :
    FnR P w K mg base CX0 (k + 1) 1416 sp :=
  T.d_law.fn0 sc_law (fun _ _ _ _ _ _ us hl => match us, hl with | [_], _ => rfl) len (r_law K ) (fun cdv A outer s H E hr => by
    exact (pss_cons (ps_set (i := 1) sc_law.nd rfl (Or.inl rfl) (pe_callR G_law_grouped hr rfl T.g_law_grouped T.d_law_grouped.kp pass0 (pa_cons (pe_callR G_law_tree hr rfl T.g_law_tree T.d_law_tree.kp pass0 (pa_cons (pv 0) (pa_cons pe_int (pa_cons pe_int pa_nil)))) (pa_cons (pv 0) (pa_cons pe_int (pa_cons pe_bl pa_nil))))))
    (pss_cons (ps_set (i := 2) sc_law.nd rfl (Or.inl rfl) (pe_callR G_law_tabled hr rfl T.g_law_tabled T.d_law_tabled.kp pass0 (pa_cons (pv 1) (pa_cons pe_bl pa_nil))))
    (pss_cons (ps_set (i := 3) sc_law.nd rfl (Or.inl rfl) (pe_callR G_law_boxes hr rfl T.g_law_boxes T.d_law_boxes.kp pass0 (pa_cons (pv 1) pa_nil)))
    (pss_cons (ps_set (i := 4) sc_law.nd rfl (Or.inl rfl) (pe_callR G_law_found hr rfl T.g_law_found T.d_law_found.kp pass0 (pa_cons (pv 1) pa_nil)))
    (pss_cons (ps_if (pt_cmpR op_isN (pv 4) pe_non (nomark _)) (pss_one (ps_ret pe_bl)) pss_nil)
    (pss_cons (ps_asg (pv 4) (pg_tup (by rfl) (pgs_cons (pg_name (i := 5) sc_law.nd rfl (Or.inr rfl)) (pgs_cons (pg_name (i := 6) sc_law.nd rfl (Or.inl rfl)) pgs_nil))))
    (pss_cons (ps_if (pt_not (pt_val (pe_callB (cr_all rfl) (by rfl) T.b_all boot_all (pa_cons (pe_lock (pe_lc (own := [("_law_one", 13)]) (g := (gName 13)) (tt := tYes) rfl sc_law.nd  (pi_values (pv 5)) (blkOk_by (own := [("_law_one", 13)]) (N := ["_law_script", "_law_tree_here", "_law_fixed", "_law_boxes_here", "_law_found_here", "_law_leasts", "_law_paper", "_law_k", "_law_other_here", "_law_told", "_law_lowered_here", "_law_matched_here", "_law_some", "_law_one", "_law_box", "_law_name"]) (sc := defScope s_law) (by decide +kernel)) (fun _ _ _ _ _ => (pg_name (i := 13) sc_law.nd rfl (Or.inl rfl))) (fun _ _ _ _ _ => pts_nil) (fun _ _ _ _ _ => (pe_and (pe_callB call_isi (by rfl) T.b_isinstance boot_isinstance (pa_cons (pv 13) (pa_cons (pe_bltn (v := .ty "int") (by rfl) T.b_int boot_int rfl) pa_nil))) (pe_one (pe_not (pe_callB call_isi (by rfl) T.b_isinstance boot_isinstance (pa_cons (pv 13) (pa_cons (pe_bltn (v := .ty "bool") (by rfl) T.b_bool boot_bool rfl) pa_nil))))))))) pa_nil)))) (pss_one (ps_ret pe_bl)) pss_nil)
    (pss_cons (ps_if (PW.pt (pw_or (pt_cmpR (op_neSS hr.units) (pe_callB (call_sortedD rfl) (by rfl) T.b_sorted boot_sorted (pa_cons (pv 5) pa_nil)) (pe_callB cr_sortedS (by rfl) T.b_sorted boot_sorted (pa_cons (pe_lc (own := [("_law_box", 14)]) (g := (gName 14)) (tt := tYes) rfl sc_law.nd  (pi_list (pv 3)) (blkOk_by (own := [("_law_box", 14)]) (N := ["_law_script", "_law_tree_here", "_law_fixed", "_law_boxes_here", "_law_found_here", "_law_leasts", "_law_paper", "_law_k", "_law_other_here", "_law_told", "_law_lowered_here", "_law_matched_here", "_law_some", "_law_one", "_law_box", "_law_name"]) (sc := defScope s_law) (by decide +kernel)) (fun _ _ _ _ _ => (pg_name (i := 14) sc_law.nd rfl (Or.inl rfl))) (fun _ _ _ _ _ => pts_nil) (fun _ _ _ _ _ => (pe_ix ix_tup (pv 14) pe_int (fun _ _ => rfl)))) pa_nil)) (nomark _)) (pw_or1 (pt_cmpR (op_neSS hr.units) (pe_callB (call_sortedD rfl) (by rfl) T.b_sorted boot_sorted (pa_cons (pv 6) pa_nil)) (pe_callB (call_sortedD rfl) (by rfl) T.b_sorted boot_sorted (pa_cons (pv 5) pa_nil)) (nomark _))))) (pss_one (ps_ret pe_bl)) pss_nil)
    (pss_cons (ps_if (PW.pt (pw_or (pt_not (pt_val (pe_callR G_law_holds hr rfl T.g_law_holds T.d_law_holds.kp pass0 (pa_cons (pv 3) (pa_cons (pv 5) pa_nil))))) (pw_or1 (pt_cmpR op_notBl (pe_callR G_leasts_hold hr rfl T.g_leasts_hold T.d_leasts_hold.kp pass0 (pa_cons (pv 1) (pa_cons (pe_callTy call_dictD (by rfl) T.b_dict boot_dict (pa_cons (pv 5) pa_nil)) (pa_cons (pe_callTy call_dictD (by rfl) T.b_dict boot_dict (pa_cons (pv 6) pa_nil)) pa_nil)))) pe_bl (nomark _))))) (pss_one (ps_ret pe_bl)) pss_nil)
    (pss_cons (ps_if (pt_not (pt_val (pe_callR G_law_papers hr rfl T.g_law_papers T.d_law_papers.kp pass0 (pa_cons (pv 1) (pa_cons (pv 5) (pa_cons (pv 6) (pa_cons (pe_callR G_law_at hr rfl T.g_law_at T.d_law_at.kp pass0 (pa_cons (pv 0) (pa_cons pe_int pa_nil))) pa_nil))))))) (pss_one (ps_ret pe_bl)) pss_nil)
    (pss_cons (ps_for PassesOwn.never rfl (pi_tup (pe_tup (pa_cons pe_int (pa_cons pe_int pa_nil)))) (pg_name (i := 7) sc_law.nd rfl (Or.inl rfl)) (pss_cons (ps_set (i := 8) sc_law.nd rfl (Or.inr rfl) (pe_callR G_law_other hr rfl T.g_law_other T.d_law_other.kp pass0 (pa_cons (pv 3) (pa_cons (pv 5) (pa_cons (pe_op op_add (pe_callR G_law_at hr rfl T.g_law_at T.d_law_at.kp pass0 (pa_cons (pv 0) (pa_cons pe_int pa_nil))) (pe_op op_mul pe_int (pv 7))) (pa_cons (pv 2) pa_nil))))))
    (pss_cons (ps_if (pt_val (pe_callR G_law_holds hr rfl T.g_law_holds T.d_law_holds.kp pass0 (pa_cons (pv 3) (pa_cons (pv 8) pa_nil)))) (pss_cons (ps_if (pt_val (pe_callB (cr_any rfl) (by rfl) T.b_any boot_any (pa_cons (pe_lock (pe_lc (own := [("_law_name", 15)]) (g := (gName 15)) (tt := tYes) rfl sc_law.nd  (pi_keys (pv 5)) (blkOk_by (own := [("_law_name", 15)]) (N := ["_law_script", "_law_tree_here", "_law_fixed", "_law_boxes_here", "_law_found_here", "_law_leasts", "_law_paper", "_law_k", "_law_other_here", "_law_told", "_law_lowered_here", "_law_matched_here", "_law_some", "_law_one", "_law_box", "_law_name"]) (sc := defScope s_law) (by decide +kernel)) (fun _ _ _ _ _ => (pg_name (i := 15) sc_law.nd rfl (Or.inl rfl))) (fun _ _ _ _ _ => pts_nil) (fun _ _ _ _ _ => (pe_cmpR op_lt (pe_dget (hu_of hr) (pv 8) (pv 15) (fun _ _ => rfl)) (pe_dget (hu_of hr) (pv 5) (pv 15) (fun _ _ => rfl)) (nomark _))))) pa_nil))) (pss_one (ps_ret pe_bl)) pss_nil)
    (pss_cons (ps_set (i := 9) sc_law.nd rfl (Or.inl rfl) (pe_callR G_leasts_hold hr rfl T.g_leasts_hold T.d_leasts_hold.kp pass0 (pa_cons (pv 1) (pa_cons (pe_callTy call_dictD (by rfl) T.b_dict boot_dict (pa_cons (pv 8) pa_nil)) (pa_cons (pe_callTy call_dictD (by rfl) T.b_dict boot_dict (pa_cons (pv 6) pa_nil)) pa_nil)))))
    (pss_one (ps_if (PW.pt (pw_or (pt_not (pt_val (pe_callB call_isi (by rfl) T.b_isinstance boot_isinstance (pa_cons (pv 9) (pa_cons (pe_bltn (v := .ty "bool") (by rfl) T.b_bool boot_bool rfl) pa_nil))))) (pw_or1 (pt_cmpR op_ne (pv 9) (pe_cmpR (op_eqDI hr.units) (pv 8) (pv 5) (nomark _)) (nomark _))))) (pss_one (ps_ret pe_bl)) pss_nil)))) pss_nil)
    (pss_cons (ps_set (i := 8) sc_law.nd rfl (Or.inr rfl) (pe_callR G_law_lifted hr rfl T.g_law_lifted T.d_law_lifted.kp pass0 (pa_cons (pv 3) (pa_cons (pv 5) (pa_cons (pe_op op_add pe_int (pe_op op_mod (pe_callR G_law_at hr rfl T.g_law_at T.d_law_at.kp pass0 (pa_cons (pv 0) (pa_cons pe_int pa_nil))) pe_int)) (pa_cons (pe_op op_add pe_int (pe_op op_mul (pv 7) pe_int)) pa_nil))))))
    (pss_cons (ps_set (i := 10) sc_law.nd rfl (Or.inl rfl) (pe_callR G_law_lowered hr rfl T.g_law_lowered T.d_law_lowered.kp pass0 (pa_cons (pv 3) (pa_cons (pv 5) (pa_cons (pe_op op_add (pe_callR G_law_at hr rfl T.g_law_at T.d_law_at.kp pass0 (pa_cons (pv 0) (pa_cons pe_int pa_nil))) (pv 7)) pa_nil)))))
    (pss_cons (ps_set (i := 11) sc_law.nd rfl (Or.inl rfl) (pe_callR G_law_matched hr rfl T.g_law_matched T.d_law_matched.kp pass0 (pa_cons (pv 3) (pa_cons (pv 5) (pa_cons (pe_op op_add (pe_callR G_law_at hr rfl T.g_law_at T.d_law_at.kp pass0 (pa_cons (pv 0) (pa_cons pe_int pa_nil))) (pv 7)) (pa_cons (pv 2) pa_nil))))))
    (pss_one (ps_for PassesOwn.never rfl (pi_tup (pe_tup (pa_cons (pv 8) (pa_cons (pv 5) (pa_cons (pv 10) (pa_cons (pv 11) pa_nil)))))) (pg_name (i := 12) sc_law.nd rfl (Or.inl rfl)) (pss_cons (ps_set (i := 9) sc_law.nd rfl (Or.inl rfl) (pe_callR G_leasts_hold hr rfl T.g_leasts_hold T.d_leasts_hold.kp pass0 (pa_cons (pv 1) (pa_cons (pe_callTy call_dictD (by rfl) T.b_dict boot_dict (pa_cons (pv 12) pa_nil)) (pa_cons (pe_callR G_law_forged hr rfl T.g_law_forged T.d_law_forged.kp pass0 (pa_cons (pv 3) (pa_cons (pv 12) (pa_cons (pe_op op_add (pe_callR G_law_at hr rfl T.g_law_at T.d_law_at.kp pass0 (pa_cons (pv 0) (pa_cons pe_int pa_nil))) (pv 7)) pa_nil)))) pa_nil)))))
    (pss_one (ps_if (PW.pt (pw_or (pt_not (pt_val (pe_callB call_isi (by rfl) T.b_isinstance boot_isinstance (pa_cons (pv 9) (pa_cons (pe_bltn (v := .ty "bool") (by rfl) T.b_bool boot_bool rfl) pa_nil))))) (pw_or1 (PW.pt (pw_and (pt_val (pv 9)) (pw_and1 (pt_cmpR (op_neDI hr.units) (pv 12) (pv 5) (nomark _)))))))) (pss_one (ps_ret pe_bl)) pss_nil)))))))))))
    (pss_one (ps_ret pe_bl)))))))))))))) rd

end BG
set_option maxHeartbeats 4000000
namespace BG
open PySem PySem.Spec PyProof.Rows L2
structure Fx (K : PySem.W.Frag) : Prop where
  e_B : EInit K 197
  o_T : OexC K 217
  o_R : OexC K 236
  i_T : PySem.W.findIn K (.ref 217) "__init__" = some (some (.ref 214))
  i_R : PySem.W.findIn K (.ref 236) "__init__" = some (some (.ref 233))
  t_T : PySem.W.typeIn K (.ref 214) = some (.type "function")
  t_R : PySem.W.typeIn K (.ref 233) = some (.type "function")
  n_T : PySem.W.findIn K (.ref 217) "name" = some none
  n_R : PySem.W.findIn K (.ref 236) "names" = some none
  x_T : PySem.W.exmAny K (.ref 217) [.ref 236, .ref 217] = some true
  x_R : PySem.W.exmAny K (.ref 236) [.ref 236, .ref 217] = some true
theorem DefAt.fnok {P : Program} {w : World} {K : PySem.W.Frag} {mg : Str → Option Value} {base : Heap} {x q : Str} {st : Stmt} {f : Addr} {N ps : List Str} {k : Nat} {sp : Sp} (F : DefAt K x q st f) (S : FnScope N ps (defScope st))
    (hb : ∀ (kV doc pm : Value) (an : Option Addr) (cdv ct : Value) (us : List Value), us.length = ps.length → bindArgs (PySem.W.fnOf x q (defArgs st) (defBody st) (defScope st) .none kV doc pm an cdv ct) ⟨us, []⟩ = pure (ps.zip us))
    (len : ∀ vs H Q E, sp vs H Q E → vs.length = ps.length) (t : TS)
    (der : ∀ (cdv : Value) (A : Around) (outer : List Env) (s : Shared) (H : Hp) (E : XK), Room k (A.deeper (envOfC q (defScope st) s.heap.objs.size f cdv)) → PSs (cxOf CX0 P w K mg base N q (defScope st) f cdv A outer s H E) (defBody st) t)
    (rd : ∀ (vs : List V) (H : Hp) (Q : VK) (E : XK), sp vs H Q E → t { nx := fun _ H' => Q .non H', rt := Q } (start N vs) H) : ∃ fd, FnOk P w K mg base CX0 (k + 1) f fd ps sp ∧ Binds K fd ps [] := by
  obtain ⟨fd, F⟩ := F
  exact ⟨fd, F.ok S len fun cdv A outer s H vs Q E hr h => ⟨t, der cdv A outer s H E hr, rd vs H Q E h⟩, F.bindsN hb⟩
theorem sc_TooGreat_init : FnScope ["self", "name"] ["self", "name"] (defScope s_TooGreat_init) := ⟨rfl, rfl, rfl, by decide +kernel, rfl, by decide +kernel, by decide +kernel⟩
theorem sc_Ring_init : FnScope ["self", "names"] ["self", "names"] (defScope s_Ring_init) := ⟨rfl, rfl, rfl, by decide +kernel, rfl, by decide +kernel, by decide +kernel⟩
theorem f_TooGreat_init {P : Program} {w : World} {K : PySem.W.Frag} {mg : Str → Option Value} {base : Heap} {k : Nat} (T : Fs K mg) (Y : Fx K) : ∃ fd, FnOk P w K mg base CX0 (k + 1) 214 fd ["self", "name"] (sp_exc 217 "name") ∧ Binds K fd ["self", "name"] [] :=
  T.d_TooGreat_init.fnok sc_TooGreat_init (fun _ _ _ _ _ _ us hl => match us, hl with | [_, _], _ => rfl) (fun vs H Q E h => by obtain ⟨a, v, rfl, _⟩ := h; rfl) (r_exc K "too great" "name") (fun cdv A outer s H E hr => by
    exact (pss_cons (ps_expr (pe_boxErr rfl T.g_BoxError Y.e_B (pa_cons (pv 0) (pa_cons pe_str pa_nil)))) (pss_one (ps_ost (pv 0) (pv 1))))) (rd_exc Y.o_T Y.n_T)
theorem f_Ring_init {P : Program} {w : World} {K : PySem.W.Frag} {mg : Str → Option Value} {base : Heap} {k : Nat} (T : Fs K mg) (Y : Fx K) : ∃ fd, FnOk P w K mg base CX0 (k + 1) 233 fd ["self", "names"] (sp_exc 236 "names") ∧ Binds K fd ["self", "names"] [] :=
  T.d_Ring_init.fnok sc_Ring_init (fun _ _ _ _ _ _ us hl => match us, hl with | [_, _], _ => rfl) (fun vs H Q E h => by obtain ⟨a, v, rfl, _⟩ := h; rfl) (r_exc K "a ring" "names") (fun cdv A outer s H E hr => by
    exact (pss_cons (ps_expr (pe_boxErr rfl T.g_BoxError Y.e_B (pa_cons (pv 0) (pa_cons pe_str pa_nil)))) (pss_one (ps_ost (pv 0) (pv 1))))) (rd_exc Y.o_R Y.n_R)
theorem sc_Rounds_go : FnScope ["self", "asks", "groups", "turn", "risen", "after", "box", "least", "named"] ["self"] (defScope s_Rounds_go) := ⟨rfl, rfl, rfl, by decide +kernel, rfl, by decide +kernel, by decide +kernel⟩
theorem f_Rounds_go {P : Program} {w : World} {K : PySem.W.Frag} {mg : Str → Option Value} {base : Heap} {k : Nat} (T : Fs K mg) (Y : Fx K)  (G_asks_of : FnR P w K mg base CX0 (k + 1) 1191 (sp_asks_of K)) (D_reason : DispOk P w K mg base CX0 (k + 1) [1222] "reason" (sp_reason K)) {sp : Sp}
    (len : ∀ vs H Q E, sp vs H Q E → vs.length = 1)
    (rd : ∀ (vs : List V) (H : Hp) (Q : VK) (E : XK), sp vs H Q E → r_Rounds_go K E { nx := fun _ H' => Q .non H', rt := Q } (start ["self", "asks", "groups", "turn", "risen", "after", "box", "least", "named"] vs) H) :
    FnR P w K mg base (L2.CX P w) (k + 1 + 1 + 1) 1219 sp :=
  T.d_Rounds_go.fn sc_Rounds_go (fun _ _ _ _ _ _ us hl => match us, hl with | [_], _ => rfl) len (fun E => r_Rounds_go K E) (fun cdv A outer s H E hr => by
    obtain ⟨fd1, GT⟩ := f_TooGreat_init (P := P) (w := w) (base := base) (k := k) T Y
    have hr1 : Room (k + 1 + 1) _ := hr; have hr : Room (k + 1) _ := hr1.mono (Nat.le_succ (k + 1)); exact (pss_cons (ps_asg (pe_callR G_asks_of hr rfl T.g_asks_of T.d_asks_of.kp pass0 (pa_cons (pe_fld (pv 0) rfl) (pa_cons (pe_fld (pv 0) rfl) pa_nil))) (pg_tup (by rfl) (pgs_cons (pg_name (i := 1) sc_Rounds_go.nd rfl (Or.inl rfl)) (pgs_cons (pg_name (i := 2) sc_Rounds_go.nd rfl (Or.inl rfl)) pgs_nil))))
    (pss_cons (ps_set (i := 3) sc_Rounds_go.nd rfl (Or.inl rfl) (pe_op op_add (pe_callB call_len_seq (by rfl) T.b_len boot_len (pa_cons (pe_fld (pv 0) rfl) pa_nil)) pe_int))
    (pss_cons (ps_set (i := 4) sc_Rounds_go.nd rfl (Or.inl rfl) pe_dnewK)
    (pss_cons (ps_set (i := 5) sc_Rounds_go.nd rfl (Or.inl rfl) (pe_callTy call_dictD (by rfl) T.b_dict boot_dict (pa_cons (pe_fld (pv 0) rfl) pa_nil)))
    (pss_cons (ps_for (passes_of rfl) rfl (pi_list (pe_fld (pv 0) rfl)) (pg_name (i := 6) sc_Rounds_go.nd rfl (Or.inl rfl)) (pss_cons (ps_asg (pe_dget2 (hu_of hr) (pv 2) (pe_fld (pv 6) rfl) (pe_tup (pa_cons (pe_dget (hu_of hr) (pv 1) (pe_fld (pv 6) rfl) (fun _ _ => rfl)) (pa_cons pe_str pa_nil))) ⟨rfl, rfl, rfl, rfl⟩) (pg_tup (by rfl) (pgs_cons (pg_name (i := 7) sc_Rounds_go.nd rfl (Or.inl rfl)) (pgs_cons (pg_name (i := 8) sc_Rounds_go.nd rfl (Or.inl rfl)) pgs_nil))))
    (pss_cons (ps_if (pt_cmpR op_gt (pv 7) (pe_globI rfl T.v_GREATEST) (nomark _)) (pss_one (ps_raise rfl (takes_of rfl rfl rfl rfl) (pmk_oex Y.o_T Y.i_T Y.t_T GT.1 hr1 GT.2 .nil pass0 rfl T.g_TooGreat (pa_cons (pe_fld (pv 6) rfl) pa_nil)))) pss_nil)
    (pss_one (ps_if (pt_cmpR op_gt (pv 7) (pe_dget (hu_of hr) (pe_fld (pv 0) rfl) (pe_fld (pv 6) rfl) (fun _ _ => rfl)) (nomark _)) (pss_cons (ps_dput (hu_of hr) (pv 4) (pe_fld (pv 6) rfl) (pe_methD (pv 0) D_reason hr pass0 (pa_cons (pv 6) (pa_cons (pv 7) (pa_cons (pv 8) (pa_cons (pv 3) pa_nil))))) rfl)
    (pss_one (ps_dput (hu_of hr) (pv 5) (pe_fld (pv 6) rfl) (pv 7) rfl))) pss_nil)))))
    (pss_cons (ps_fld (pv 0) (pv 5) rfl)
    (pss_cons (ps_expr (pe_dupd rfl (pe_fld (pv 0) rfl) (pv 4) ⟨rfl, rfl, rfl, rfl⟩))
    (pss_cons (ps_expr (pe_bm PySem.F.plainAttrs_list PySem.F.slot_list_append PySem.F.type_list_append mt_append (pe_fld (pv 0) rfl) (pa_cons (pv 4) pa_nil)))
    (pss_one (ps_ret (pv 4)))))))))))) rd

theorem sc_leasts_of : FnScope ["tree", "box", "rounds"] ["tree"] (defScope s_leasts_of) := ⟨rfl, rfl, rfl, by decide +kernel, rfl, by decide +kernel, by decide +kernel⟩
theorem f_leasts_of {P : Program} {w : World} {K : PySem.W.Frag} {mg : Str → Option Value} {base : Heap} {k : Nat} (T : Fs K mg) (Y : Fx K)  (G_of : FnR P w K mg base CX0 (k + 1) 1170 (sp_of K 9)) (G_Rounds_init : FnR P w K mg base CX0 (k + 1) 1205 (sp_Rounds_init K)) (D_go : DispOk P w K mg base (L2.CX P w) (k + 1) [1222] "go" (sp_go K)) (G_all_boxes : FnR P w K mg base CX0 (k + 1) 187 (sp_all_boxes K 9)) (G_ring_of : FnR P w K mg base CX0 (k + 1) 1231 (sp_ring_of K)) {sp : Sp}
    (len : ∀ vs H Q E, sp vs H Q E → vs.length = 1)
    (rd : ∀ (vs : List V) (H : Hp) (Q : VK) (E : XK), sp vs H Q E → r_leasts_of K E { nx := fun _ H' => Q .non H', rt := Q } (start ["tree", "box", "rounds"] vs) H) :
    FnR P w K mg base (L2.CX P w) (k + 1 + 1 + 1) 1238 sp :=
  T.d_leasts_of.fn sc_leasts_of (fun _ _ _ _ _ _ us hl => match us, hl with | [_], _ => rfl) len (fun E => r_leasts_of K E) (fun cdv A outer s H E hr => by
    obtain ⟨fd1, GR⟩ := f_Ring_init (P := P) (w := w) (base := base) (k := k) T Y
    have hr1 : Room (k + 1 + 1) _ := hr; have hr : Room (k + 1) _ := hr1.mono (Nat.le_succ (k + 1)); exact (pss_cons (ps_set (i := 1) sc_leasts_of.nd rfl (Or.inl rfl) (pe_callR G_of hr rfl T.g_of T.d_of.kp pass0 (pa_cons (pv 0) pa_nil)))
    (pss_cons (ps_set (i := 2) sc_leasts_of.nd rfl (Or.inl rfl) (StX.pe_makeR T.m_Rounds G_Rounds_init hr1 rfl T.g_Rounds pass0 (pa_cons (pv 1) pa_nil)))
    (pss_cons (ps_while (passes_of rfl) (pt_cmpR (op_neDNil hr.units) (pe_methD0 (pv 2) D_go hr (passes_call (takes_of rfl rfl rfl rfl) (fun _ _ _ _ h => h))) pe_dnewK (nomark _)) (pss_one (ps_if (pt_cmpR op_gt (pe_callB call_len_seq (by rfl) T.b_len boot_len (pa_cons (pe_fld (pv 2) rfl) pa_nil)) (pe_callB call_len_seq (by rfl) T.b_len boot_len (pa_cons (pe_callR G_all_boxes hr rfl T.g_all_boxes T.d_all_boxes.kp pass0 (pa_cons (pv 1) pa_nil)) pa_nil)) (nomark _)) (pss_one (ps_raise rfl (takes_of rfl rfl rfl rfl) (pmk_oex Y.o_R Y.i_R Y.t_R GR.1 hr1 GR.2 .nil pass0 rfl T.g_Ring (pa_cons (pe_callR G_ring_of hr rfl T.g_ring_of T.d_ring_of.kp pass0 (pa_cons (pv 2) pa_nil)) pa_nil)))) pss_nil)))
    (pss_one (ps_ret (pe_tup (pa_cons (pe_fld (pv 2) rfl) (pa_cons (pe_fld (pv 2) rfl) pa_nil))))))))) rd

theorem sc_law_found : FnScope ["_law_tree_here", "_law_found_here"] ["_law_tree_here"] (defScope s_law_found) := ⟨rfl, rfl, rfl, by decide +kernel, rfl, by decide +kernel, by decide +kernel⟩
theorem f_law_found {P : Program} {w : World} {K : PySem.W.Frag} {mg : Str → Option Value} {base : Heap} {k : Nat} (T : Fs K mg) (Y : Fx K) (G_leasts_of : FnR P w K mg base (L2.CX P w) k 1238 (sp_leasts_of K)) : FnR P w K mg base CX0 (k + 1) 1404 (sp_law_found K) :=
  T.d_law_found.fn0 sc_law_found (fun _ _ _ _ _ _ us hl => match us, hl with | [_], _ => rfl) (fun vs H Q E h => by obtain ⟨v, t, rfl, _⟩ := h; rfl) (r_law_found K) (fun cdv A outer s H E hr => by
    exact (pss_cons (ps_set (i := 1) sc_law_found.nd rfl (Or.inl rfl) pe_non)
    (pss_cons (ps_try_two (tb := fun W => tAsg (tCallRS (sp_leasts_of K) (WE W) (tCons (tVar 0) tNil)) (gName 1)) (ts := fun _ _ _ => tAsg (tC .non) (gName 1)) (c1 := .ref 236) (c2 := .ref 217) rfl rfl ⟨rfl, by decide, .inl T.g_Ring⟩ ⟨rfl, by decide, .inl T.g_TooGreat⟩
      (fun W pn xe tk _ => pss_one (ps_set (i := 1) sc_law_found.nd rfl (Or.inl rfl) (pe_callRS G_leasts_of hr rfl T.g_leasts_of T.d_leasts_of.kp (fun σ => passAt tk σ) (pa_cons (pv 0) pa_nil))))
      (fun a oe cls d pn _ _ => pss_one (ps_set (i := 1) sc_law_found.nd rfl (Or.inl rfl) pe_non)))
    (pss_one (ps_ret (pv 1)))))) (rd_law_found Y.x_T Y.x_R)

end BG
set_option maxHeartbeats 4000000
namespace BG
open PySem PySem.Spec PyProof.Rows L2
section
open PySem.W
variable {K : PySem.W.Frag}
theorem isRf_ok {o : Option (Option Value)} {a : Addr} (h : isRf o a = true) : o = some (some (.ref a)) := by
  unfold isRf at h
  split at h
  · rw [Nat.eq_of_beq_eq_true h]
  · cases h
theorem isNo_ok {o : Option (Option Value)} (h : isNo o = true) : o = some none := by
  unfold isNo at h
  split at h
  · rfl
  · cases h
theorem isBn_ok {o : Option (Option Value)} {n : String} (h : isBn o n = true) : o = some (some (.builtin n)) := by
  unfold isBn at h
  split at h
  · rw [of_decide_eq_true h]
  · cases h
theorem isFn_ok {f : Addr} (h : isFn' K f = true) : PySem.W.typeIn K (.ref f) = some (.type "function") := by
  unfold isFn' at h
  split at h
  · rename_i c d dt sl e
    show (K.lookup f).map (·.cls) = _
    rw [e, of_decide_eq_true h] <;> rfl
  · cases h
theorem intB_ok {h : Heap} {mg : Str → Option Value} (X : K.In h) (G : h.Ns mainGlobals mg) {x : Str} {i : Int} (c : intB K x i = true) : ∃ t, mg x = some (.int i t) := by
  unfold intB at c
  split at c
  · rename_i j t e
    rw [of_decide_eq_true c] at e
    exact ⟨t, PySem.W.mg_of X G e⟩
  · cases c
theorem clsB_ok {C : Addr} (h : clsB K C = true) : Cls K C := by
  obtain ⟨a1, h⟩ := He.ba h
  obtain ⟨a2, h⟩ := He.ba h
  obtain ⟨a3, h⟩ := He.ba h
  obtain ⟨a4, a5⟩ := He.ba h
  refine ⟨?_, a3, a4, isBn_ok a5⟩
  unfold PySem.W.plainGet
  rw [isBn_ok a1, isNo_ok a2] <;> rfl
theorem methB_ok {C f : Addr} {m : Str} (h : methB K C m f = true) : Meth K C m f := by
  obtain ⟨a1, h⟩ := He.ba h
  obtain ⟨a2, a3⟩ := He.ba h
  exact ⟨isRf_ok a1, by unfold PySem.W.isFn; rw [isFn_ok a2] <;> rfl, a3⟩
theorem mkB_ok {C f : Addr} (h : mkB K C f = true) : Mk K C f := by
  obtain ⟨a1, h⟩ := He.ba h
  obtain ⟨a2, h⟩ := He.ba h
  obtain ⟨a3, a4⟩ := He.ba h
  exact ⟨a1, isRf_ok a2, by unfold PySem.W.isFn; rw [isFn_ok a3] <;> rfl, a4⟩
theorem cinitB_ok {C f : Addr} (h : cinitB K C f = true) : CInit K C f := by
  obtain ⟨a1, h⟩ := He.ba h
  obtain ⟨a2, a3⟩ := He.ba h
  refine ⟨a1, isBn_ok a2, ?_⟩
  unfold cvB at a3
  split at a3
  · rename_i b e
    rw [e, Nat.eq_of_beq_eq_true a3]
  · cases a3
theorem cbB_ok {C : Value} (h : cbB K C = true) : PySem.W.findCls K C (.type "type") "__init__" = some (.val (.builtin "ValueError.__init__")) := by
  unfold cbB at h
  split at h
  · rename_i n e
    rw [e, of_decide_eq_true h]
  · cases h
theorem einitB_ok {C : Addr} (h : einitB K C = true) : EInit K C := by
  obtain ⟨a1, h⟩ := He.ba h
  obtain ⟨a2, a3⟩ := He.ba h
  exact ⟨a1, isBn_ok a2, cbB_ok a3⟩
theorem naB_ok {C : Addr} {fs : List Str} (h : naB K C fs = true) : ∀ f ∈ fs, PySem.W.findIn K (.ref C) f = some none := fun f hf => isNo_ok (List.all_eq_true.mp h f hf)
theorem excB_ok {C : Addr} (q : excB K C = true) : OexC K C := by
  obtain ⟨q, h⟩ := He.ba q
  obtain ⟨a2, h⟩ := He.ba h
  obtain ⟨a3, a4⟩ := He.ba h
  split at q
  · rename_i t dd cd sl ho
    split at q
    · rename_i C' bm k0 k1 k2 k3 n k5 hm hs
      obtain ⟨b0, q⟩ := He.ba q
      obtain ⟨b1, q⟩ := He.ba q
      obtain ⟨b2, q⟩ := He.ba q
      obtain ⟨b3, q⟩ := He.ba q
      obtain ⟨b4, b5⟩ := He.ba q
      have e1 := Nat.eq_of_beq_eq_true b1
      have e2 := of_decide_eq_true b2
      have e0 := of_decide_eq_true b0
      subst e0
      have e3 : cd.hasDel = false := by
        cases h : cd.hasDel with
        | true => rw [h] at b3; cases b3
        | false => rfl
      obtain ⟨nm, bs, mro, ns, qn, hd, sn, sub, ab, col, del⟩ := cd
      dsimp only at hm e3 b4
      subst hm e3 e1 e2 b4
      have hsl : sl = #[k0, k1, k2, k3, some (.builtin "ValueError.__new__"), k5] := by
        obtain ⟨l⟩ := sl
        simp only at hs
        rw [hs]
      subst hsl
      refine ⟨⟨nm, qn, ns, bs, bm, sn, sub, ab, col, dd, k0, k1, k2, k3, k5, ho, b5⟩, isBn_ok a2, of_decide_eq_true a3, ?_, a4⟩
      show (K.lookup _).map (·.cls) = _
      rw [ho] <;> rfl
    · cases q
  · cases q
theorem defAt_ok {K : PySem.W.Frag} {d : Df} (e : fnL K d.f = d.val) (c : okL K d.f d.q = true) : DefAt K d.x d.q d.st d.f := by
  unfold fnL at e
  unfold okL at c
  cases q : K.lookup d.f with
  | none =>
    rw [q] at c
    cases c
  | some o =>
    obtain ⟨oc, od, dt, osl⟩ := o
    rw [q] at c e
    cases dt with
    | func fd =>
      obtain ⟨n1, n2, n3, n4, n5, n6, n7, n8, n9, n10, n11, n12, n13, n14, n15⟩ := fd
      have e2 : (some (n1, n2, n3, n4, n5, n6, n7, n15) : He.FnW) = some (d.x, d.q, defArgs d.st, .stmts (defBody d.st), defScope d.st, mainGlobals, [], builtinsNs) := e
      simp only [Option.some.injEq, Prod.mk.injEq] at e2
      obtain ⟨h1, h2, h3, h4, h5, h6, h7, h8⟩ := e2
      subst h1 h2 h3 h4 h5 h6 h7 h8
      have c3 : (PySem.W.codeIn K n13 d.q && (He.dflB K n8 [] && He.kwdB K n9 [])) = true := c
      obtain ⟨k1, k2⟩ := He.ba c3
      obtain ⟨k3, k4⟩ := He.ba k2
      refine ⟨_, ⟨oc, od, n8, n9, n10, n11, n12, n13, n14, osl, rfl, q, k1, He.dflB_ok k3, He.kwdB_ok k4⟩, ?_⟩
      unfold PySem.W.keepIn
      dsimp only
      rw [q]
    | _ => cases c
theorem oL_eq (s : PySem.W.SharedT) : oL s = hkL.obs s.abs := by
  have e : HandSHeadRun.getT s = s.abs.heap.get? := funext (HandSHeadRun.getT_eq s)
  show obL (He.frG (HandSHeadRun.getT s) adrs) = obL (He.frG s.abs.heap.get? adrs)
  rw [e]
theorem SaysL.fact {K : PySem.W.Frag} (c : SaysL K) (i : Nat) {b : Bool} (h : (chk K)[i]? = some b := by rfl) : b = true := by
  have c1 := (He.ba (show ((chk K).all id && defs.all fun d => okL K d.f d.q) = true from congrArg (fun z : Bool × List He.FnW => z.1) c)).1
  exact List.all_eq_true.mp c1 b (List.mem_of_getElem? h)
theorem SaysL.def_ {K : PySem.W.Frag} (c : SaysL K) (i : Nat) {d : Df} (h : defs[i]? = some d := by rfl) : DefAt K d.x d.q d.st d.f := by
  have c2 := (He.ba (show ((chk K).all id && defs.all fun d => okL K d.f d.q) = true from congrArg (fun z : Bool × List He.FnW => z.1) c)).2
  have e : defs.map (fun d => fnL K d.f) = defs.map Df.val := congrArg (fun z : Bool × List He.FnW => z.2) c
  have e2 : (defs.map fun d => fnL K d.f)[i]? = (defs.map Df.val)[i]? := by rw [e]
  rw [List.getElem?_map, List.getElem?_map, h] at e2
  exact defAt_ok (Option.some.inj e2) (List.all_eq_true.mp c2 d (List.mem_of_getElem? h))

end
end BG
set_option maxHeartbeats 4000000
namespace BG
open PySem PySem.Spec PyProof.Rows L2
structure Ms (K : PySem.W.Frag) : Prop where
  asked_least_178 : Meth K 178 "asked_least" 49
  asked_least_801 : Meth K 801 "asked_least" 749
  asked_least_876 : Meth K 876 "asked_least" 831
  asked_least_1163 : Meth K 1163 "asked_least" 1090
  asked_least_1060 : Meth K 1060 "asked_least" 1022
  sums_178 : Meth K 178 "sums" 56
  sums_801 : Meth K 801 "sums" 756
  sums_876 : Meth K 876 "sums" 56
  sums_1163 : Meth K 1163 "sums" 56
  sums_1060 : Meth K 1060 "sums" 963
  alone_least_178 : Meth K 178 "alone_least" 63
  alone_least_801 : Meth K 801 "alone_least" 63
  alone_least_876 : Meth K 876 "alone_least" 63
  alone_least_1060 : Meth K 1060 "alone_least" 63
  alone_least_1163 : Meth K 1163 "alone_least" 63
  asker_178 : Meth K 178 "asker" 70
  asker_801 : Meth K 801 "asker" 70
  asker_876 : Meth K 876 "asker" 70
  asker_1060 : Meth K 1060 "asker" 70
  asker_1163 : Meth K 1163 "asker" 70
  asks_1060 : Meth K 1060 "asks" 977
  reason_1222 : Meth K 1222 "reason" 1212
  go_1222 : Meth K 1222 "go" 1219
theorem voidR {P : Program} {w : World} {K : PySem.W.Frag} {mg : Str → Option Value} {base : Heap} {CX : CXT} {k : Nat} {f : Addr} {sp : Sp} (h : ∀ vs H Q E, sp vs H Q E → False) : FnR P w K mg base CX k f sp := fun _ _ _ _ _ _ _ _ _ _ _ hs => (h _ _ _ _ hs).elim
theorem deep_pos (t : Tr) : 0 < t.deep := by
  cases t
  rw [Tr.deep]
  omega
theorem DispOk.mono {P : Program} {w : World} {K : PySem.W.Frag} {mg : Str → Option Value} {base : Heap} {CX : CXT} {j k : Nat} {Cs : List Addr} {m : Str} {sp : Sp} (D : DispOk P w K mg base CX j Cs m sp) (h : j ≤ k) : DispOk P w K mg base CX k Cs m sp := fun C hC => let ⟨c, f, m, F⟩ := D C hC; ⟨c, f, m, F.mono h⟩
def sumK : Kd → Bool
  | .row => true
  | .table => true
  | _ => false
theorem sums_of {K : PySem.W.Frag} (C : Addr) (kd : Kd) (hC : C = kd.cls) : ∀ vs H Q E, spM C (sp_sums K) vs H Q E → ∃ x, vs = [x] ∧ Q (.bl (sumK kd)) H := by
  rintro vs H Q E ⟨⟨a, r, dx, fs, e, h1⟩, x, t, e2, hb, q⟩
  subst e2
  injection e with e1 e3
  subst e1
  refine ⟨_, rfl, ?_⟩
  have hk := kd_of (kd := kd) hb h1 hC
  have : sumsB t = (sumK kd) := by
    unfold sumsB
    rw [hk]
    cases kd <;> rfl
  rw [← this]
  exact q
theorem alone_of {K : PySem.W.Frag} (C : Addr) : ∀ vs H Q E, spM C (sp_alone K) vs H Q E → ∃ x, vs = [x] ∧ Q (.int 0) H := fun vs H Q E ⟨_, x, t, e, _, q⟩ => ⟨x, e, q⟩
theorem a_gaps_in {P : Program} {w : World} {K : PySem.W.Frag} {mg : Str → Option Value} {base : Heap} (T : Fs K mg) (Y : Fx K) (Z : KF K) (M : Ms K) : FnR P w K mg base CX0 1 706 (sp_gaps_in K) :=
  f_gaps_in (k := 0) T  (sp := (sp_gaps_in K)) (by intro vs H Q E h; repeat (first | (have e := h.1; subst e; rfl) | (obtain ⟨_, h⟩ := h))) rd_gaps_in
theorem a_deal {P : Program} {w : World} {K : PySem.W.Frag} {mg : Str → Option Value} {base : Heap} (T : Fs K mg) (Y : Fx K) (Z : KF K) (M : Ms K) : FnR P w K mg base CX0 1 699 (sp_deal K) :=
  f_deal (k := 0) T  (sp := (sp_deal K)) (by intro vs H Q E h; repeat (first | (have e := h.1; subst e; rfl) | (obtain ⟨_, h⟩ := h))) rd_deal
theorem a_cells_at {P : Program} {w : World} {K : PySem.W.Frag} {mg : Str → Option Value} {base : Heap} (T : Fs K mg) (Y : Fx K) (Z : KF K) (M : Ms K) : FnR P w K mg base CX0 1 883 (sp_cells_at K) :=
  f_cells_at (k := 0) T  (sp := (sp_cells_at K)) (by intro vs H Q E h; repeat (first | (have e := h.1; subst e; rfl) | (obtain ⟨_, h⟩ := h))) rd_cells_at
theorem a_is_open {P : Program} {w : World} {K : PySem.W.Frag} {mg : Str → Option Value} {base : Heap} (T : Fs K mg) (Y : Fx K) (Z : KF K) (M : Ms K) : FnR P w K mg base CX0 1 890 (sp_is_open K) :=
  f_is_open (k := 0) T  (sp := (sp_is_open K)) (by intro vs H Q E h; repeat (first | (have e := h.1; subst e; rfl) | (obtain ⟨_, h⟩ := h))) rd_is_open
theorem a_put_cells {P : Program} {w : World} {K : PySem.W.Frag} {mg : Str → Option Value} {base : Heap} (T : Fs K mg) (Y : Fx K) (Z : KF K) (M : Ms K) : FnR P w K mg base CX0 2 897 (sp_put_cells K) :=
  f_put_cells (k := 1) T ((a_is_open T Y Z M).mono (by decide : 1 ≤ 1)) ((a_cells_at T Y Z M).mono (by decide : 1 ≤ 1)) (sp := (sp_put_cells K)) (by intro vs H Q E h; repeat (first | (have e := h.1; subst e; rfl) | (obtain ⟨_, h⟩ := h))) rd_put_cells
theorem a_last_row {P : Program} {w : World} {K : PySem.W.Frag} {mg : Str → Option Value} {base : Heap} (T : Fs K mg) (Y : Fx K) (Z : KF K) (M : Ms K) : FnR P w K mg base CX0 1 902 (sp_last_row K) :=
  f_last_row (k := 0) T  (sp := (sp_last_row K)) (by intro vs H Q E h; repeat (first | (have e := h.1; subst e; rfl) | (obtain ⟨_, h⟩ := h))) rd_last_row
theorem a_track_name {P : Program} {w : World} {K : PySem.W.Frag} {mg : Str → Option Value} {base : Heap} (T : Fs K mg) (Y : Fx K) (Z : KF K) (M : Ms K) : FnR P w K mg base CX0 1 909 (sp_track_name K) :=
  f_track_name (k := 0) T  (sp := (sp_track_name K)) (by intro vs H Q E h; repeat (first | (have e := h.1; subst e; rfl) | (obtain ⟨_, h⟩ := h))) rd_track_name
theorem a_track_weights {P : Program} {w : World} {K : PySem.W.Frag} {mg : Str → Option Value} {base : Heap} (T : Fs K mg) (Y : Fx K) (Z : KF K) (M : Ms K) : FnR P w K mg base CX0 2 916 (sp_track_weights K) :=
  f_track_weights (k := 1) T ((a_track_name T Y Z M).mono (by decide : 1 ≤ 1)) (sp := (sp_track_weights K)) (by intro vs H Q E h; repeat (first | (have e := h.1; subst e; rfl) | (obtain ⟨_, h⟩ := h))) rd_track_weights
theorem a_alone_raised {P : Program} {w : World} {K : PySem.W.Frag} {mg : Str → Option Value} {base : Heap} (T : Fs K mg) (Y : Fx K) (Z : KF K) (M : Ms K) : FnR P w K mg base CX0 1 923 (sp_alone_raised K) :=
  f_alone_raised (k := 0) T  (sp := (sp_alone_raised K)) (by intro vs H Q E h; repeat (first | (have e := h.1; subst e; rfl) | (obtain ⟨_, h⟩ := h))) rd_alone_raised
theorem a_in_order {P : Program} {w : World} {K : PySem.W.Frag} {mg : Str → Option Value} {base : Heap} (T : Fs K mg) (Y : Fx K) (Z : KF K) (M : Ms K) : FnR P w K mg base CX0 1 928 (sp_in_order K) :=
  f_in_order (k := 0) T  (sp := (sp_in_order K)) (by intro vs H Q E h; repeat (first | (have e := h.1; subst e; rfl) | (obtain ⟨_, h⟩ := h))) rd_in_order
theorem a_lack_of {P : Program} {w : World} {K : PySem.W.Frag} {mg : Str → Option Value} {base : Heap} (T : Fs K mg) (Y : Fx K) (Z : KF K) (M : Ms K) : FnR P w K mg base CX0 2 935 (sp_lack_of K) :=
  f_lack_of (k := 1) T ((a_gaps_in T Y Z M).mono (by decide : 1 ≤ 1)) (sp := (sp_lack_of K)) (by intro vs H Q E h; repeat (first | (have e := h.1; subst e; rfl) | (obtain ⟨_, h⟩ := h))) rd_lack_of
theorem a_raise_tracks {P : Program} {w : World} {K : PySem.W.Frag} {mg : Str → Option Value} {base : Heap} (T : Fs K mg) (Y : Fx K) (Z : KF K) (M : Ms K) : FnR P w K mg base CX0 3 942 (sp_raise_tracks K) :=
  f_raise_tracks (k := 2) T ((a_alone_raised T Y Z M).mono (by decide : 1 ≤ 2)) ((a_in_order T Y Z M).mono (by decide : 1 ≤ 2)) ((a_lack_of T Y Z M).mono (by decide : 2 ≤ 2)) ((a_deal T Y Z M).mono (by decide : 1 ≤ 2)) ((a_track_weights T Y Z M).mono (by decide : 2 ≤ 2)) ((a_track_name T Y Z M).mono (by decide : 1 ≤ 2)) (sp := (sp_raise_tracks K)) (by intro vs H Q E h; repeat (first | (have e := h.1; subst e; rfl) | (obtain ⟨_, h⟩ := h))) rd_raise_tracks
theorem a_of_parts {P : Program} {w : World} {K : PySem.W.Frag} {mg : Str → Option Value} {base : Heap} (T : Fs K mg) (Y : Fx K) (Z : KF K) (M : Ms K) : FnR P w K mg base CX0 1 721 (sp_of_parts K) :=
  f_of_parts (k := 0) T  (sp := (sp_of_parts K)) (by intro vs H Q E h; repeat (first | (have e := h.1; subst e; rfl) | (obtain ⟨_, h⟩ := h))) rd_of_parts
theorem a_sums_178 {P : Program} {w : World} {K : PySem.W.Frag} {mg : Str → Option Value} {base : Heap} (T : Fs K mg) (Y : Fx K) (Z : KF K) (M : Ms K) : FnR P w K mg base CX0 1 56 (spM 178 (sp_sums K)) :=
  f_Box_sums (k := 0) T  (sp := (spM 178 (sp_sums K))) (by intro vs H Q E h; repeat (first | (have e := h.1; subst e; rfl) | (obtain ⟨_, h⟩ := h))) (rd_Box_sums (sums_of 178 .leaf rfl))
theorem a_sums_801 {P : Program} {w : World} {K : PySem.W.Frag} {mg : Str → Option Value} {base : Heap} (T : Fs K mg) (Y : Fx K) (Z : KF K) (M : Ms K) : FnR P w K mg base CX0 1 756 (spM 801 (sp_sums K)) :=
  f_Row_sums (k := 0) T  (sp := (spM 801 (sp_sums K))) (by intro vs H Q E h; repeat (first | (have e := h.1; subst e; rfl) | (obtain ⟨_, h⟩ := h))) (rd_Row_sums (sums_of 801 .row rfl))
theorem a_sums_876 {P : Program} {w : World} {K : PySem.W.Frag} {mg : Str → Option Value} {base : Heap} (T : Fs K mg) (Y : Fx K) (Z : KF K) (M : Ms K) : FnR P w K mg base CX0 1 56 (spM 876 (sp_sums K)) :=
  f_Box_sums (k := 0) T  (sp := (spM 876 (sp_sums K))) (by intro vs H Q E h; repeat (first | (have e := h.1; subst e; rfl) | (obtain ⟨_, h⟩ := h))) (rd_Box_sums (sums_of 876 .col rfl))
theorem a_sums_1060 {P : Program} {w : World} {K : PySem.W.Frag} {mg : Str → Option Value} {base : Heap} (T : Fs K mg) (Y : Fx K) (Z : KF K) (M : Ms K) : FnR P w K mg base CX0 1 963 (spM 1060 (sp_sums K)) :=
  f_Table_sums (k := 0) T  (sp := (spM 1060 (sp_sums K))) (by intro vs H Q E h; repeat (first | (have e := h.1; subst e; rfl) | (obtain ⟨_, h⟩ := h))) (rd_Table_sums (sums_of 1060 .table rfl))
theorem a_sums_1163 {P : Program} {w : World} {K : PySem.W.Frag} {mg : Str → Option Value} {base : Heap} (T : Fs K mg) (Y : Fx K) (Z : KF K) (M : Ms K) : FnR P w K mg base CX0 1 56 (spM 1163 (sp_sums K)) :=
  f_Box_sums (k := 0) T  (sp := (spM 1163 (sp_sums K))) (by intro vs H Q E h; repeat (first | (have e := h.1; subst e; rfl) | (obtain ⟨_, h⟩ := h))) (rd_Box_sums (sums_of 1163 .wrap rfl))
theorem dk_sums {P : Program} {w : World} {K : PySem.W.Frag} {mg : Str → Option Value} {base : Heap} (T : Fs K mg) (Y : Fx K) (Z : KF K) (M : Ms K) : DispOk P w K mg base CX0 1 [178, 801, 876, 1060, 1163] "sums" (sp_sums K) := fun C hC => by
  rcases List.mem_cons.mp hC with rfl | hC
  · exact ⟨T.cl_Leaf, 56, M.sums_178, (a_sums_178 T Y Z M).mono (by decide : 1 ≤ 1)⟩
  rcases List.mem_cons.mp hC with rfl | hC
  · exact ⟨T.cl_Row, 756, M.sums_801, (a_sums_801 T Y Z M).mono (by decide : 1 ≤ 1)⟩
  rcases List.mem_cons.mp hC with rfl | hC
  · exact ⟨T.cl_Column, 56, M.sums_876, (a_sums_876 T Y Z M).mono (by decide : 1 ≤ 1)⟩
  rcases List.mem_cons.mp hC with rfl | hC
  · exact ⟨T.cl_Table, 963, M.sums_1060, (a_sums_1060 T Y Z M).mono (by decide : 1 ≤ 1)⟩
  rcases List.mem_cons.mp hC with rfl | hC
  · exact ⟨T.cl_Wrap, 56, M.sums_1163, (a_sums_1163 T Y Z M).mono (by decide : 1 ≤ 1)⟩
  cases hC
theorem a_alone_178 {P : Program} {w : World} {K : PySem.W.Frag} {mg : Str → Option Value} {base : Heap} (T : Fs K mg) (Y : Fx K) (Z : KF K) (M : Ms K) : FnR P w K mg base CX0 1 63 (spM 178 (sp_alone K)) :=
  f_Box_alone_least (k := 0) T  (sp := (spM 178 (sp_alone K))) (by intro vs H Q E h; repeat (first | (have e := h.1; subst e; rfl) | (obtain ⟨_, h⟩ := h))) (rd_Box_alone_least (alone_of 178))
theorem a_alone_801 {P : Program} {w : World} {K : PySem.W.Frag} {mg : Str → Option Value} {base : Heap} (T : Fs K mg) (Y : Fx K) (Z : KF K) (M : Ms K) : FnR P w K mg base CX0 1 63 (spM 801 (sp_alone K)) :=
  f_Box_alone_least (k := 0) T  (sp := (spM 801 (sp_alone K))) (by intro vs H Q E h; repeat (first | (have e := h.1; subst e; rfl) | (obtain ⟨_, h⟩ := h))) (rd_Box_alone_least (alone_of 801))
theorem a_alone_876 {P : Program} {w : World} {K : PySem.W.Frag} {mg : Str → Option Value} {base : Heap} (T : Fs K mg) (Y : Fx K) (Z : KF K) (M : Ms K) : FnR P w K mg base CX0 1 63 (spM 876 (sp_alone K)) :=
  f_Box_alone_least (k := 0) T  (sp := (spM 876 (sp_alone K))) (by intro vs H Q E h; repeat (first | (have e := h.1; subst e; rfl) | (obtain ⟨_, h⟩ := h))) (rd_Box_alone_least (alone_of 876))
theorem a_alone_1060 {P : Program} {w : World} {K : PySem.W.Frag} {mg : Str → Option Value} {base : Heap} (T : Fs K mg) (Y : Fx K) (Z : KF K) (M : Ms K) : FnR P w K mg base CX0 1 63 (spM 1060 (sp_alone K)) :=
  f_Box_alone_least (k := 0) T  (sp := (spM 1060 (sp_alone K))) (by intro vs H Q E h; repeat (first | (have e := h.1; subst e; rfl) | (obtain ⟨_, h⟩ := h))) (rd_Box_alone_least (alone_of 1060))
theorem a_alone_1163 {P : Program} {w : World} {K : PySem.W.Frag} {mg : Str → Option Value} {base : Heap} (T : Fs K mg) (Y : Fx K) (Z : KF K) (M : Ms K) : FnR P w K mg base CX0 1 63 (spM 1163 (sp_alone K)) :=
  f_Box_alone_least (k := 0) T  (sp := (spM 1163 (sp_alone K))) (by intro vs H Q E h; repeat (first | (have e := h.1; subst e; rfl) | (obtain ⟨_, h⟩ := h))) (rd_Box_alone_least (alone_of 1163))
theorem dk_alone {P : Program} {w : World} {K : PySem.W.Frag} {mg : Str → Option Value} {base : Heap} (T : Fs K mg) (Y : Fx K) (Z : KF K) (M : Ms K) : DispOk P w K mg base CX0 1 [178, 801, 876, 1060, 1163] "alone_least" (sp_alone K) := fun C hC => by
  rcases List.mem_cons.mp hC with rfl | hC
  · exact ⟨T.cl_Leaf, 63, M.alone_least_178, (a_alone_178 T Y Z M).mono (by decide : 1 ≤ 1)⟩
  rcases List.mem_cons.mp hC with rfl | hC
  · exact ⟨T.cl_Row, 63, M.alone_least_801, (a_alone_801 T Y Z M).mono (by decide : 1 ≤ 1)⟩
  rcases List.mem_cons.mp hC with rfl | hC
  · exact ⟨T.cl_Column, 63, M.alone_least_876, (a_alone_876 T Y Z M).mono (by decide : 1 ≤ 1)⟩
  rcases List.mem_cons.mp hC with rfl | hC
  · exact ⟨T.cl_Table, 63, M.alone_least_1060, (a_alone_1060 T Y Z M).mono (by decide : 1 ≤ 1)⟩
  rcases List.mem_cons.mp hC with rfl | hC
  · exact ⟨T.cl_Wrap, 63, M.alone_least_1163, (a_alone_1163 T Y Z M).mono (by decide : 1 ≤ 1)⟩
  cases hC
theorem a_asks_1060 {P : Program} {w : World} {K : PySem.W.Frag} {mg : Str → Option Value} {base : Heap} (T : Fs K mg) (Y : Fx K) (Z : KF K) (M : Ms K) : FnR P w K mg base CX0 1 977 (spM 1060 (sp_asks K)) :=
  (f_Table_asks (k := 0) T  (sp := (sp_asks K)) (by intro vs H Q E h; repeat (first | (have e := h.1; subst e; rfl) | (obtain ⟨_, h⟩ := h))) rd_asks).imp fun _ _ _ _ h => h.2
theorem dk_asks {P : Program} {w : World} {K : PySem.W.Frag} {mg : Str → Option Value} {base : Heap} (T : Fs K mg) (Y : Fx K) (Z : KF K) (M : Ms K) : DispOk P w K mg base CX0 1 [1060] "asks" (sp_asks K) := fun C hC => by
  rcases List.mem_cons.mp hC with rfl | hC
  · exact ⟨T.cl_Table, 977, M.asks_1060, (a_asks_1060 T Y Z M).mono (by decide : 1 ≤ 1)⟩
  cases hC
theorem a_asked_178 {P : Program} {w : World} {K : PySem.W.Frag} {mg : Str → Option Value} {base : Heap} (T : Fs K mg) (Y : Fx K) (Z : KF K) (M : Ms K) : FnR P w K mg base CX0 1 49 (spM 178 (sp_asked K)) :=
  f_Box_asked_least (k := 0) T  (sp := (spM 178 (sp_asked K))) (by intro vs H Q E h; repeat (first | (have e := h.1; subst e; rfl) | (obtain ⟨_, h⟩ := h))) rd_asked_leaf
theorem a_asked_801 {P : Program} {w : World} {K : PySem.W.Frag} {mg : Str → Option Value} {base : Heap} (T : Fs K mg) (Y : Fx K) (Z : KF K) (M : Ms K) : FnR P w K mg base CX0 2 749 (spM 801 (sp_asked K)) :=
  f_Row_asked_least (k := 1) T ((a_of_parts T Y Z M).mono (by decide : 1 ≤ 1)) ((a_gaps_in T Y Z M).mono (by decide : 1 ≤ 1)) (sp := (spM 801 (sp_asked K))) (by intro vs H Q E h; repeat (first | (have e := h.1; subst e; rfl) | (obtain ⟨_, h⟩ := h))) rd_asked_row
theorem a_asked_876 {P : Program} {w : World} {K : PySem.W.Frag} {mg : Str → Option Value} {base : Heap} (T : Fs K mg) (Y : Fx K) (Z : KF K) (M : Ms K) : FnR P w K mg base CX0 2 831 (spM 876 (sp_asked K)) :=
  f_Column_asked_least (k := 1) T ((a_of_parts T Y Z M).mono (by decide : 1 ≤ 1)) (sp := (spM 876 (sp_asked K))) (by intro vs H Q E h; repeat (first | (have e := h.1; subst e; rfl) | (obtain ⟨_, h⟩ := h))) (rd_asked_max 876 .col rfl (.inl rfl))
theorem a_asked_1060 {P : Program} {w : World} {K : PySem.W.Frag} {mg : Str → Option Value} {base : Heap} (T : Fs K mg) (Y : Fx K) (Z : KF K) (M : Ms K) : FnR P w K mg base CX0 4 1022 (spM 1060 (sp_asked K)) :=
  f_Table_asked_least (k := 3) T ((dk_asks T Y Z M).mono (by decide : 1 ≤ 3)) ((a_raise_tracks T Y Z M).mono (by decide : 3 ≤ 3)) ((a_gaps_in T Y Z M).mono (by decide : 1 ≤ 3)) (sp := (spM 1060 (sp_asked K))) (by intro vs H Q E h; repeat (first | (have e := h.1; subst e; rfl) | (obtain ⟨_, h⟩ := h))) rd_table_asked
theorem a_asked_1163 {P : Program} {w : World} {K : PySem.W.Frag} {mg : Str → Option Value} {base : Heap} (T : Fs K mg) (Y : Fx K) (Z : KF K) (M : Ms K) : FnR P w K mg base CX0 2 1090 (spM 1163 (sp_asked K)) :=
  f_Wrap_asked_least (k := 1) T ((a_of_parts T Y Z M).mono (by decide : 1 ≤ 1)) (sp := (spM 1163 (sp_asked K))) (by intro vs H Q E h; repeat (first | (have e := h.1; subst e; rfl) | (obtain ⟨_, h⟩ := h))) (rd_asked_max 1163 .wrap rfl (.inr rfl))
theorem dk_asked {P : Program} {w : World} {K : PySem.W.Frag} {mg : Str → Option Value} {base : Heap} (T : Fs K mg) (Y : Fx K) (Z : KF K) (M : Ms K) : DispOk P w K mg base CX0 4 [178, 801, 876, 1060, 1163] "asked_least" (sp_asked K) := fun C hC => by
  rcases List.mem_cons.mp hC with rfl | hC
  · exact ⟨T.cl_Leaf, 49, M.asked_least_178, (a_asked_178 T Y Z M).mono (by decide : 1 ≤ 4)⟩
  rcases List.mem_cons.mp hC with rfl | hC
  · exact ⟨T.cl_Row, 749, M.asked_least_801, (a_asked_801 T Y Z M).mono (by decide : 2 ≤ 4)⟩
  rcases List.mem_cons.mp hC with rfl | hC
  · exact ⟨T.cl_Column, 831, M.asked_least_876, (a_asked_876 T Y Z M).mono (by decide : 2 ≤ 4)⟩
  rcases List.mem_cons.mp hC with rfl | hC
  · exact ⟨T.cl_Table, 1022, M.asked_least_1060, (a_asked_1060 T Y Z M).mono (by decide : 4 ≤ 4)⟩
  rcases List.mem_cons.mp hC with rfl | hC
  · exact ⟨T.cl_Wrap, 1090, M.asked_least_1163, (a_asked_1163 T Y Z M).mono (by decide : 2 ≤ 4)⟩
  cases hC
theorem a_asker_178 {P : Program} {w : World} {K : PySem.W.Frag} {mg : Str → Option Value} {base : Heap} (T : Fs K mg) (Y : Fx K) (Z : KF K) (M : Ms K) : FnR P w K mg base CX0 5 70 (spM 178 (sp_asker K)) :=
  (f_Box_asker (k := 4) T ((dk_sums T Y Z M).mono (by decide : 1 ≤ 4)) ((dk_asked T Y Z M).mono (by decide : 4 ≤ 4)) (sp := (sp_asker K)) (by intro vs H Q E h; repeat (first | (have e := h.1; subst e; rfl) | (obtain ⟨_, h⟩ := h))) rd_asker).imp fun _ _ _ _ h => h.2
theorem a_asker_801 {P : Program} {w : World} {K : PySem.W.Frag} {mg : Str → Option Value} {base : Heap} (T : Fs K mg) (Y : Fx K) (Z : KF K) (M : Ms K) : FnR P w K mg base CX0 5 70 (spM 801 (sp_asker K)) :=
  (f_Box_asker (k := 4) T ((dk_sums T Y Z M).mono (by decide : 1 ≤ 4)) ((dk_asked T Y Z M).mono (by decide : 4 ≤ 4)) (sp := (sp_asker K)) (by intro vs H Q E h; repeat (first | (have e := h.1; subst e; rfl) | (obtain ⟨_, h⟩ := h))) rd_asker).imp fun _ _ _ _ h => h.2
theorem a_asker_876 {P : Program} {w : World} {K : PySem.W.Frag} {mg : Str → Option Value} {base : Heap} (T : Fs K mg) (Y : Fx K) (Z : KF K) (M : Ms K) : FnR P w K mg base CX0 5 70 (spM 876 (sp_asker K)) :=
  (f_Box_asker (k := 4) T ((dk_sums T Y Z M).mono (by decide : 1 ≤ 4)) ((dk_asked T Y Z M).mono (by decide : 4 ≤ 4)) (sp := (sp_asker K)) (by intro vs H Q E h; repeat (first | (have e := h.1; subst e; rfl) | (obtain ⟨_, h⟩ := h))) rd_asker).imp fun _ _ _ _ h => h.2
theorem a_asker_1060 {P : Program} {w : World} {K : PySem.W.Frag} {mg : Str → Option Value} {base : Heap} (T : Fs K mg) (Y : Fx K) (Z : KF K) (M : Ms K) : FnR P w K mg base CX0 5 70 (spM 1060 (sp_asker K)) :=
  (f_Box_asker (k := 4) T ((dk_sums T Y Z M).mono (by decide : 1 ≤ 4)) ((dk_asked T Y Z M).mono (by decide : 4 ≤ 4)) (sp := (sp_asker K)) (by intro vs H Q E h; repeat (first | (have e := h.1; subst e; rfl) | (obtain ⟨_, h⟩ := h))) rd_asker).imp fun _ _ _ _ h => h.2
theorem a_asker_1163 {P : Program} {w : World} {K : PySem.W.Frag} {mg : Str → Option Value} {base : Heap} (T : Fs K mg) (Y : Fx K) (Z : KF K) (M : Ms K) : FnR P w K mg base CX0 5 70 (spM 1163 (sp_asker K)) :=
  (f_Box_asker (k := 4) T ((dk_sums T Y Z M).mono (by decide : 1 ≤ 4)) ((dk_asked T Y Z M).mono (by decide : 4 ≤ 4)) (sp := (sp_asker K)) (by intro vs H Q E h; repeat (first | (have e := h.1; subst e; rfl) | (obtain ⟨_, h⟩ := h))) rd_asker).imp fun _ _ _ _ h => h.2
theorem dk_asker {P : Program} {w : World} {K : PySem.W.Frag} {mg : Str → Option Value} {base : Heap} (T : Fs K mg) (Y : Fx K) (Z : KF K) (M : Ms K) : DispOk P w K mg base CX0 5 [178, 801, 876, 1060, 1163] "asker" (sp_asker K) := fun C hC => by
  rcases List.mem_cons.mp hC with rfl | hC
  · exact ⟨T.cl_Leaf, 70, M.asker_178, (a_asker_178 T Y Z M).mono (by decide : 5 ≤ 5)⟩
  rcases List.mem_cons.mp hC with rfl | hC
  · exact ⟨T.cl_Row, 70, M.asker_801, (a_asker_801 T Y Z M).mono (by decide : 5 ≤ 5)⟩
  rcases List.mem_cons.mp hC with rfl | hC
  · exact ⟨T.cl_Column, 70, M.asker_876, (a_asker_876 T Y Z M).mono (by decide : 5 ≤ 5)⟩
  rcases List.mem_cons.mp hC with rfl | hC
  · exact ⟨T.cl_Table, 70, M.asker_1060, (a_asker_1060 T Y Z M).mono (by decide : 5 ≤ 5)⟩
  rcases List.mem_cons.mp hC with rfl | hC
  · exact ⟨T.cl_Wrap, 70, M.asker_1163, (a_asker_1163 T Y Z M).mono (by decide : 5 ≤ 5)⟩
  cases hC
theorem a_Box_init {P : Program} {w : World} {K : PySem.W.Frag} {mg : Str → Option Value} {base : Heap} (T : Fs K mg) (Y : Fx K) (Z : KF K) (M : Ms K) : FnR P w K mg base CX0 1 35 (sp_Box_init K) :=
  f_Box_init (k := 0) T  (sp := (sp_Box_init K)) (by intro vs H Q E h; repeat (first | (have e := h.1; subst e; rfl) | (obtain ⟨_, h⟩ := h))) (rd_Box_init Z)
theorem a_Leaf_init {P : Program} {w : World} {K : PySem.W.Frag} {mg : Str → Option Value} {base : Heap} (T : Fs K mg) (Y : Fx K) (Z : KF K) (M : Ms K) : FnR P w K mg base CX0 2 161 (sp_boxi K .leaf) :=
  f_Leaf_init (k := 1) T ((a_Box_init T Y Z M).mono (by decide : 1 ≤ 1)) (sp := (sp_boxi K .leaf)) (by intro vs H Q E h; repeat (first | (have e := h.1; subst e; rfl) | (obtain ⟨_, h⟩ := h))) (rd_Leaf_init Z)
theorem a_Row_init {P : Program} {w : World} {K : PySem.W.Frag} {mg : Str → Option Value} {base : Heap} (T : Fs K mg) (Y : Fx K) (Z : KF K) (M : Ms K) : FnR P w K mg base CX0 2 735 (sp_boxi K .row) :=
  f_Row_init (k := 1) T ((a_Box_init T Y Z M).mono (by decide : 1 ≤ 1)) (sp := (sp_boxi K .row)) (by intro vs H Q E h; repeat (first | (have e := h.1; subst e; rfl) | (obtain ⟨_, h⟩ := h))) (rd_line_init Z .row (by decide) (by decide))
theorem a_Column_init {P : Program} {w : World} {K : PySem.W.Frag} {mg : Str → Option Value} {base : Heap} (T : Fs K mg) (Y : Fx K) (Z : KF K) (M : Ms K) : FnR P w K mg base CX0 2 817 (sp_boxi K .col) :=
  f_Column_init (k := 1) T ((a_Box_init T Y Z M).mono (by decide : 1 ≤ 1)) (sp := (sp_boxi K .col)) (by intro vs H Q E h; repeat (first | (have e := h.1; subst e; rfl) | (obtain ⟨_, h⟩ := h))) (rd_line_init Z .col (by decide) (by decide))
theorem a_Wrap_init {P : Program} {w : World} {K : PySem.W.Frag} {mg : Str → Option Value} {base : Heap} (T : Fs K mg) (Y : Fx K) (Z : KF K) (M : Ms K) : FnR P w K mg base CX0 2 1076 (sp_boxi K .wrap) :=
  f_Wrap_init (k := 1) T ((a_Box_init T Y Z M).mono (by decide : 1 ≤ 1)) (sp := (sp_boxi K .wrap)) (by intro vs H Q E h; repeat (first | (have e := h.1; subst e; rfl) | (obtain ⟨_, h⟩ := h))) (rd_line_init Z .wrap (by decide) (by decide))
theorem a_Table_init {P : Program} {w : World} {K : PySem.W.Frag} {mg : Str → Option Value} {base : Heap} (T : Fs K mg) (Y : Fx K) (Z : KF K) (M : Ms K) : FnR P w K mg base CX0 3 956 (sp_boxi K .table) :=
  f_Table_init (k := 2) T ((a_Box_init T Y Z M).mono (by decide : 1 ≤ 2)) ((a_put_cells T Y Z M).mono (by decide : 2 ≤ 2)) ((a_last_row T Y Z M).mono (by decide : 1 ≤ 2)) (sp := (sp_boxi K .table)) (by intro vs H Q E h; repeat (first | (have e := h.1; subst e; rfl) | (obtain ⟨_, h⟩ := h))) (rd_Table_init Z)
theorem b_of {P : Program} {w : World} {K : PySem.W.Frag} {mg : Str → Option Value} {base : Heap} (T : Fs K mg) (Y : Fx K) (Z : KF K) (M : Ms K) : ∀ d : Nat, FnR P w K mg base CX0 (3 + 2 * d) 1170 (sp_of K d)
  | 0 => voidR fun vs H Q E h => by obtain ⟨v, t, _, _, hd, _⟩ := h; exact absurd hd (Nat.not_le_of_lt (deep_pos _))
  | d + 1 => f_of (k := 3 + 2 * d) T d (b_of T Y Z M d) ((a_Leaf_init T Y Z M).mono (by omega : 2 ≤ 3 + 2 * d)) ((a_Row_init T Y Z M).mono (by omega : 2 ≤ 3 + 2 * d)) ((a_Column_init T Y Z M).mono (by omega : 2 ≤ 3 + 2 * d)) ((a_Wrap_init T Y Z M).mono (by omega : 2 ≤ 3 + 2 * d)) ((a_Table_init T Y Z M).mono (by omega : 3 ≤ 3 + 2 * d)) (sp := (sp_of K (d + 1))) (by intro vs H Q E h; repeat (first | (have e := h.1; subst e; rfl) | (obtain ⟨_, h⟩ := h))) (rd_of d)
theorem b_all_boxes {P : Program} {w : World} {K : PySem.W.Frag} {mg : Str → Option Value} {base : Heap} (T : Fs K mg) (Y : Fx K) (Z : KF K) (M : Ms K) : ∀ d : Nat, FnR P w K mg base CX0 (0 + 1 * d) 187 (sp_all_boxes K d)
  | 0 => voidR fun vs H Q E h => by obtain ⟨H0, x, t, _, _, _, hd, _⟩ := h; exact absurd hd (Nat.not_le_of_lt (deep_pos _))
  | d + 1 => f_all_boxes (k := 0 + 1 * d) T d (b_all_boxes T Y Z M d) (sp := (sp_all_boxes K (d + 1))) (by intro vs H Q E h; repeat (first | (have e := h.1; subst e; rfl) | (obtain ⟨_, h⟩ := h))) (rd_all_boxes d)
theorem b_settle {P : Program} {w : World} {K : PySem.W.Frag} {mg : Str → Option Value} {base : Heap} (T : Fs K mg) (Y : Fx K) (Z : KF K) (M : Ms K) : ∀ d : Nat, FnR P w K mg base CX0 (5 + 1 * d) 1177 (sp_settle K d)
  | 0 => voidR fun vs H Q E h => by obtain ⟨x, d1, d2, t, done, L, R, ra, _, _, hd, _⟩ := h; exact absurd hd (Nat.not_le_of_lt (deep_pos _))
  | d + 1 => f_settle (k := 5 + 1 * d) T d (b_settle T Y Z M d) ((dk_asked T Y Z M).mono (by omega : 4 ≤ 5 + 1 * d)) ((dk_asker T Y Z M).mono (by omega : 5 ≤ 5 + 1 * d)) (sp := (sp_settle K (d + 1))) (by intro vs H Q E h; repeat (first | (have e := h.1; subst e; rfl) | (obtain ⟨_, h⟩ := h))) (rd_settle d)
theorem b_free_boxes {P : Program} {w : World} {K : PySem.W.Frag} {mg : Str → Option Value} {base : Heap} (T : Fs K mg) (Y : Fx K) (Z : KF K) (M : Ms K) : ∀ d : Nat, d ≤ 9 → FnR P w K mg base CX0 (14 + 1 * d) 1184 (sp_free_boxes K d)
  | 0, _ => voidR fun vs H Q E h => by obtain ⟨H0, x, d1, d2, t, done, L, R, ra, _, _, _, hd, _⟩ := h; exact absurd hd (Nat.not_le_of_lt (deep_pos _))
  | d + 1, h9 => f_free_boxes (k := 14 + 1 * d) T d ((b_settle T Y Z M 9).mono (by omega : 14 ≤ 14 + 1 * d)) (b_free_boxes T Y Z M d (by omega)) (sp := (sp_free_boxes K (d + 1))) (by intro vs H Q E h; repeat (first | (have e := h.1; subst e; rfl) | (obtain ⟨_, h⟩ := h))) (rd_free_boxes Z d h9)
theorem a_asks_of {P : Program} {w : World} {K : PySem.W.Frag} {mg : Str → Option Value} {base : Heap} (T : Fs K mg) (Y : Fx K) (Z : KF K) (M : Ms K) : FnR P w K mg base CX0 5 1191 (sp_asks_of K) :=
  f_asks_of (k := 4) T ((dk_asked T Y Z M).mono (by decide : 4 ≤ 4)) (sp := (sp_asks_of K)) (by intro vs H Q E h; repeat (first | (have e := h.1; subst e; rfl) | (obtain ⟨_, h⟩ := h))) rd_asks_of
theorem a_Rounds_init {P : Program} {w : World} {K : PySem.W.Frag} {mg : Str → Option Value} {base : Heap} (T : Fs K mg) (Y : Fx K) (Z : KF K) (M : Ms K) : FnR P w K mg base CX0 24 1205 (sp_Rounds_init K) :=
  f_Rounds_init (k := 23) T ((b_free_boxes T Y Z M 9 (by decide)).mono (by decide : 23 ≤ 23)) (sp := (sp_Rounds_init K)) (by intro vs H Q E h; repeat (first | (have e := h.1; subst e; rfl) | (obtain ⟨_, h⟩ := h))) (rd_Rounds_init Z)
theorem a_reason_1222 {P : Program} {w : World} {K : PySem.W.Frag} {mg : Str → Option Value} {base : Heap} (T : Fs K mg) (Y : Fx K) (Z : KF K) (M : Ms K) : FnR P w K mg base CX0 6 1212 (spM 1222 (sp_reason K)) :=
  (f_Rounds_reason (k := 5) T ((dk_asked T Y Z M).mono (by decide : 4 ≤ 5)) ((dk_asker T Y Z M).mono (by decide : 5 ≤ 5)) (sp := (sp_reason K)) (by intro vs H Q E h; repeat (first | (have e := h.1; subst e; rfl) | (obtain ⟨_, h⟩ := h))) rd_reason).imp fun _ _ _ _ h => h.2
theorem dk_reason {P : Program} {w : World} {K : PySem.W.Frag} {mg : Str → Option Value} {base : Heap} (T : Fs K mg) (Y : Fx K) (Z : KF K) (M : Ms K) : DispOk P w K mg base CX0 6 [1222] "reason" (sp_reason K) := fun C hC => by
  rcases List.mem_cons.mp hC with rfl | hC
  · exact ⟨T.cl_Rounds, 1212, M.reason_1222, (a_reason_1222 T Y Z M).mono (by decide : 6 ≤ 6)⟩
  cases hC
theorem a_go_1222 {P : Program} {w : World} {K : PySem.W.Frag} {mg : Str → Option Value} {base : Heap} (T : Fs K mg) (Y : Fx K) (Z : KF K) (M : Ms K) : FnR P w K mg base (L2.CX P w) 8 1219 (spM 1222 (sp_go K)) :=
  (f_Rounds_go (k := 5) T Y ((a_asks_of T Y Z M).mono (by decide : 5 ≤ 6)) ((dk_reason T Y Z M).mono (by decide : 6 ≤ 6)) (sp := (sp_go K)) (by intro vs H Q E h; repeat (first | (have e := h.1; subst e; rfl) | (obtain ⟨_, h⟩ := h))) (rd_go Z)).imp fun _ _ _ _ h => h.2
theorem dk_go {P : Program} {w : World} {K : PySem.W.Frag} {mg : Str → Option Value} {base : Heap} (T : Fs K mg) (Y : Fx K) (Z : KF K) (M : Ms K) : DispOk P w K mg base (L2.CX P w) 8 [1222] "go" (sp_go K) := fun C hC => by
  rcases List.mem_cons.mp hC with rfl | hC
  · exact ⟨T.cl_Rounds, 1219, M.go_1222, (a_go_1222 T Y Z M).mono (by decide : 8 ≤ 8)⟩
  cases hC
theorem a_ring_of {P : Program} {w : World} {K : PySem.W.Frag} {mg : Str → Option Value} {base : Heap} (T : Fs K mg) (Y : Fx K) (Z : KF K) (M : Ms K) : FnR P w K mg base CX0 1 1231 (sp_ring_of K) :=
  f_ring_of (k := 0) T  (sp := (sp_ring_of K)) (by intro vs H Q E h; repeat (first | (have e := h.1; subst e; rfl) | (obtain ⟨_, h⟩ := h))) (rd_ring_of Z)
theorem a_leasts_of {P : Program} {w : World} {K : PySem.W.Frag} {mg : Str → Option Value} {base : Heap} (T : Fs K mg) (Y : Fx K) (Z : KF K) (M : Ms K) : FnR P w K mg base (L2.CX P w) 26 1238 (sp_leasts_of K) :=
  f_leasts_of (k := 23) T Y ((b_of T Y Z M 9).mono (by decide : 21 ≤ 24)) ((a_Rounds_init T Y Z M).mono (by decide : 24 ≤ 24)) ((dk_go T Y Z M).mono (by decide : 8 ≤ 24)) ((b_all_boxes T Y Z M 9).mono (by decide : 9 ≤ 24)) ((a_ring_of T Y Z M).mono (by decide : 1 ≤ 24)) (sp := (sp_leasts_of K)) (by intro vs H Q E h; repeat (first | (have e := h.1; subst e; rfl) | (obtain ⟨_, h⟩ := h))) (rd_leasts_of Z)
theorem a_reason_holds {P : Program} {w : World} {K : PySem.W.Frag} {mg : Str → Option Value} {base : Heap} (T : Fs K mg) (Y : Fx K) (Z : KF K) (M : Ms K) : FnR P w K mg base CX0 5 1243 (sp_reason_holds K) :=
  f_reason_holds (k := 4) T ((dk_alone T Y Z M).mono (by decide : 1 ≤ 4)) ((dk_sums T Y Z M).mono (by decide : 1 ≤ 4)) ((dk_asked T Y Z M).mono (by decide : 4 ≤ 4)) (sp := (sp_reason_holds K)) (by intro vs H Q E h; repeat (first | (have e := h.1; subst e; rfl) | (obtain ⟨_, h⟩ := h))) rd_reason_holds
theorem a_leasts_hold {P : Program} {w : World} {K : PySem.W.Frag} {mg : Str → Option Value} {base : Heap} (T : Fs K mg) (Y : Fx K) (Z : KF K) (M : Ms K) : FnR P w K mg base CX0 22 1248 (sp_leasts_hold K) :=
  f_leasts_hold (k := 21) T ((b_all_boxes T Y Z M 9).mono (by decide : 9 ≤ 21)) ((b_of T Y Z M 9).mono (by decide : 21 ≤ 21)) ((dk_asked T Y Z M).mono (by decide : 4 ≤ 21)) ((a_reason_holds T Y Z M).mono (by decide : 5 ≤ 21)) (sp := (sp_leasts_hold K)) (by intro vs H Q E h; repeat (first | (have e := h.1; subst e; rfl) | (obtain ⟨_, h⟩ := h))) rd_leasts_hold
theorem a_law_at {P : Program} {w : World} {K : PySem.W.Frag} {mg : Str → Option Value} {base : Heap} (T : Fs K mg) (Y : Fx K) (Z : KF K) (M : Ms K) : FnR P w K mg base CX0 1 1255 (sp_law_at K) :=
  f_law_at (k := 0) T  (sp := (sp_law_at K)) (by intro vs H Q E h; repeat (first | (have e := h.1; subst e; rfl) | (obtain ⟨_, h⟩ := h))) rd_law_at
theorem a_law_mixed {P : Program} {w : World} {K : PySem.W.Frag} {mg : Str → Option Value} {base : Heap} (T : Fs K mg) (Y : Fx K) (Z : KF K) (M : Ms K) : FnR P w K mg base CX0 1 1262 (sp_law_mixed K) :=
  f_law_mixed (k := 0) T  (sp := (sp_law_mixed K)) (by intro vs H Q E h; repeat (first | (have e := h.1; subst e; rfl) | (obtain ⟨_, h⟩ := h))) rd_law_mixed
theorem a_law_draws {P : Program} {w : World} {K : PySem.W.Frag} {mg : Str → Option Value} {base : Heap} (T : Fs K mg) (Y : Fx K) (Z : KF K) (M : Ms K) : FnR P w K mg base CX0 2 1269 (sp_law_draws K) :=
  f_law_draws (k := 1) T ((a_law_at T Y Z M).mono (by decide : 1 ≤ 1)) ((a_law_mixed T Y Z M).mono (by decide : 1 ≤ 1)) (sp := (sp_law_draws K)) (by intro vs H Q E h; repeat (first | (have e := h.1; subst e; rfl) | (obtain ⟨_, h⟩ := h))) rd_law_draws
theorem a_law_label {P : Program} {w : World} {K : PySem.W.Frag} {mg : Str → Option Value} {base : Heap} (T : Fs K mg) (Y : Fx K) (Z : KF K) (M : Ms K) : FnR P w K mg base CX0 1 1283 (sp_law_label K) :=
  f_law_label (k := 0) T  (sp := (sp_law_label K)) (by intro vs H Q E h; repeat (first | (have e := h.1; subst e; rfl) | (obtain ⟨_, h⟩ := h))) rd_law_label
theorem a_law_span {P : Program} {w : World} {K : PySem.W.Frag} {mg : Str → Option Value} {base : Heap} (T : Fs K mg) (Y : Fx K) (Z : KF K) (M : Ms K) : FnR P w K mg base CX0 1 1290 (sp_law_span K) :=
  f_law_span (k := 0) T  (sp := (sp_law_span K)) (by intro vs H Q E h; repeat (first | (have e := h.1; subst e; rfl) | (obtain ⟨_, h⟩ := h))) rd_law_span
theorem a_law_own {P : Program} {w : World} {K : PySem.W.Frag} {mg : Str → Option Value} {base : Heap} (T : Fs K mg) (Y : Fx K) (Z : KF K) (M : Ms K) : FnR P w K mg base CX0 2 1297 (sp_law_own K) :=
  f_law_own (k := 1) T ((a_law_span T Y Z M).mono (by decide : 1 ≤ 1)) (sp := (sp_law_own K)) (by intro vs H Q E h; repeat (first | (have e := h.1; subst e; rfl) | (obtain ⟨_, h⟩ := h))) rd_law_own
theorem a_law_leaf {P : Program} {w : World} {K : PySem.W.Frag} {mg : Str → Option Value} {base : Heap} (T : Fs K mg) (Y : Fx K) (Z : KF K) (M : Ms K) : FnR P w K mg base CX0 3 1304 (sp_law_leaf K) :=
  f_law_leaf (k := 2) T ((a_law_own T Y Z M).mono (by decide : 2 ≤ 2)) (sp := (sp_law_leaf K)) (by intro vs H Q E h; repeat (first | (have e := h.1; subst e; rfl) | (obtain ⟨_, h⟩ := h))) rd_law_leaf
theorem a_law_within {P : Program} {w : World} {K : PySem.W.Frag} {mg : Str → Option Value} {base : Heap} (T : Fs K mg) (Y : Fx K) (Z : KF K) (M : Ms K) : FnR P w K mg base CX0 3 1311 (sp_law_within K) :=
  f_law_within (k := 2) T ((a_law_own T Y Z M).mono (by decide : 2 ≤ 2)) (sp := (sp_law_within K)) (by intro vs H Q E h; repeat (first | (have e := h.1; subst e; rfl) | (obtain ⟨_, h⟩ := h))) rd_law_within
theorem a_law_step {P : Program} {w : World} {K : PySem.W.Frag} {mg : Str → Option Value} {base : Heap} (T : Fs K mg) (Y : Fx K) (Z : KF K) (M : Ms K) : FnR P w K mg base CX0 4 1316 (sp_law_step K) :=
  f_law_step (k := 3) T ((a_law_leaf T Y Z M).mono (by decide : 3 ≤ 3)) ((a_law_within T Y Z M).mono (by decide : 3 ≤ 3)) (sp := (sp_law_step K)) (by intro vs H Q E h; repeat (first | (have e := h.1; subst e; rfl) | (obtain ⟨_, h⟩ := h))) rd_law_step
theorem a_law_tree {P : Program} {w : World} {K : PySem.W.Frag} {mg : Str → Option Value} {base : Heap} (T : Fs K mg) (Y : Fx K) (Z : KF K) (M : Ms K) : FnR P w K mg base CX0 5 1321 (sp_law_tree K) :=
  f_law_tree (k := 4) T ((a_law_at T Y Z M).mono (by decide : 1 ≤ 4)) ((a_law_draws T Y Z M).mono (by decide : 2 ≤ 4)) ((a_law_step T Y Z M).mono (by decide : 4 ≤ 4)) ((a_law_label T Y Z M).mono (by decide : 1 ≤ 4)) ((a_law_mixed T Y Z M).mono (by decide : 1 ≤ 4)) ((a_law_within T Y Z M).mono (by decide : 3 ≤ 4)) (sp := (sp_law_tree K)) (by intro vs H Q E h; repeat (first | (have e := h.1; subst e; rfl) | (obtain ⟨_, h⟩ := h))) rd_law_tree
theorem a_law_boxes {P : Program} {w : World} {K : PySem.W.Frag} {mg : Str → Option Value} {base : Heap} (T : Fs K mg) (Y : Fx K) (Z : KF K) (M : Ms K) : FnR P w K mg base CX0 1 1328 (sp_law_boxes K) :=
  f_law_boxes (k := 0) T  (sp := (sp_law_boxes K)) (by intro vs H Q E h; repeat (first | (have e := h.1; subst e; rfl) | (obtain ⟨_, h⟩ := h))) rd_law_boxes
theorem a_law_columns {P : Program} {w : World} {K : PySem.W.Frag} {mg : Str → Option Value} {base : Heap} (T : Fs K mg) (Y : Fx K) (Z : KF K) (M : Ms K) : FnR P w K mg base CX0 4 1335 (sp_law_columns K) :=
  f_law_columns (k := 3) T ((a_put_cells T Y Z M).mono (by decide : 2 ≤ 3)) ((a_raise_tracks T Y Z M).mono (by decide : 3 ≤ 3)) (sp := (sp_law_columns K)) (by intro vs H Q E h; repeat (first | (have e := h.1; subst e; rfl) | (obtain ⟨_, h⟩ := h))) rd_law_columns
theorem a_law_asked {P : Program} {w : World} {K : PySem.W.Frag} {mg : Str → Option Value} {base : Heap} (T : Fs K mg) (Y : Fx K) (Z : KF K) (M : Ms K) : FnR P w K mg base CX0 5 1340 (sp_law_asked K) :=
  f_law_asked (k := 4) T ((a_law_columns T Y Z M).mono (by decide : 4 ≤ 4)) (sp := (sp_law_asked K)) (by intro vs H Q E h; repeat (first | (have e := h.1; subst e; rfl) | (obtain ⟨_, h⟩ := h))) rd_law_asked
theorem b_law_grouped {P : Program} {w : World} {K : PySem.W.Frag} {mg : Str → Option Value} {base : Heap} (T : Fs K mg) (Y : Fx K) (Z : KF K) (M : Ms K) : ∀ d : Nat, FnR P w K mg base CX0 (1 + 1 * d) 1345 (sp_law_grouped K d)
  | 0 => voidR fun vs H Q E h => by obtain ⟨a, ns, v, t, tb, _, _, _, hd, _⟩ := h; exact absurd hd (Nat.not_le_of_lt (deep_pos _))
  | d + 1 => f_law_grouped (k := 1 + 1 * d) T d ((a_law_mixed T Y Z M).mono (by omega : 1 ≤ 1 + 1 * d)) ((a_law_at T Y Z M).mono (by omega : 1 ≤ 1 + 1 * d)) (b_law_grouped T Y Z M d) (sp := (sp_law_grouped K (d + 1))) (by intro vs H Q E h; repeat (first | (have e := h.1; subst e; rfl) | (obtain ⟨_, h⟩ := h))) (rd_law_grouped d)
theorem b_law_tabled {P : Program} {w : World} {K : PySem.W.Frag} {mg : Str → Option Value} {base : Heap} (T : Fs K mg) (Y : Fx K) (Z : KF K) (M : Ms K) : ∀ d : Nat, FnR P w K mg base CX0 (0 + 1 * d) 1352 (sp_law_tabled K d)
  | 0 => voidR fun vs H Q E h => by obtain ⟨v, t, w, _, _, hd, _⟩ := h; exact absurd hd (Nat.not_le_of_lt (deep_pos _))
  | d + 1 => f_law_tabled (k := 0 + 1 * d) T d (b_law_tabled T Y Z M d) (sp := (sp_law_tabled K (d + 1))) (by intro vs H Q E h; repeat (first | (have e := h.1; subst e; rfl) | (obtain ⟨_, h⟩ := h))) (rd_law_tabled d)
theorem a_law_holds {P : Program} {w : World} {K : PySem.W.Frag} {mg : Str → Option Value} {base : Heap} (T : Fs K mg) (Y : Fx K) (Z : KF K) (M : Ms K) : FnR P w K mg base CX0 6 1359 (sp_law_holds K) :=
  f_law_holds (k := 5) T ((a_law_asked T Y Z M).mono (by decide : 5 ≤ 5)) (sp := (sp_law_holds K)) (by intro vs H Q E h; repeat (first | (have e := h.1; subst e; rfl) | (obtain ⟨_, h⟩ := h))) rd_law_holds
theorem a_law_raised {P : Program} {w : World} {K : PySem.W.Frag} {mg : Str → Option Value} {base : Heap} (T : Fs K mg) (Y : Fx K) (Z : KF K) (M : Ms K) : FnR P w K mg base CX0 6 1366 (sp_law_raised K) :=
  f_law_raised (k := 5) T ((a_law_asked T Y Z M).mono (by decide : 5 ≤ 5)) (sp := (sp_law_raised K)) (by intro vs H Q E h; repeat (first | (have e := h.1; subst e; rfl) | (obtain ⟨_, h⟩ := h))) rd_law_raised
theorem a_law_other {P : Program} {w : World} {K : PySem.W.Frag} {mg : Str → Option Value} {base : Heap} (T : Fs K mg) (Y : Fx K) (Z : KF K) (M : Ms K) : FnR P w K mg base CX0 7 1373 (sp_law_other K) :=
  f_law_other (k := 6) T ((a_law_mixed T Y Z M).mono (by decide : 1 ≤ 6)) ((a_law_holds T Y Z M).mono (by decide : 6 ≤ 6)) ((a_law_raised T Y Z M).mono (by decide : 6 ≤ 6)) (sp := (sp_law_other K)) (by intro vs H Q E h; repeat (first | (have e := h.1; subst e; rfl) | (obtain ⟨_, h⟩ := h))) rd_law_other
theorem a_law_lifted {P : Program} {w : World} {K : PySem.W.Frag} {mg : Str → Option Value} {base : Heap} (T : Fs K mg) (Y : Fx K) (Z : KF K) (M : Ms K) : FnR P w K mg base CX0 7 1380 (sp_law_lifted K) :=
  f_law_lifted (k := 6) T ((a_law_holds T Y Z M).mono (by decide : 6 ≤ 6)) ((a_law_raised T Y Z M).mono (by decide : 6 ≤ 6)) (sp := (sp_law_lifted K)) (by intro vs H Q E h; repeat (first | (have e := h.1; subst e; rfl) | (obtain ⟨_, h⟩ := h))) rd_law_lifted
theorem a_law_lowered {P : Program} {w : World} {K : PySem.W.Frag} {mg : Str → Option Value} {base : Heap} (T : Fs K mg) (Y : Fx K) (Z : KF K) (M : Ms K) : FnR P w K mg base CX0 6 1387 (sp_law_lowered K) :=
  f_law_lowered (k := 5) T ((a_law_asked T Y Z M).mono (by decide : 5 ≤ 5)) (sp := (sp_law_lowered K)) (by intro vs H Q E h; repeat (first | (have e := h.1; subst e; rfl) | (obtain ⟨_, h⟩ := h))) rd_law_lowered
theorem a_law_matched {P : Program} {w : World} {K : PySem.W.Frag} {mg : Str → Option Value} {base : Heap} (T : Fs K mg) (Y : Fx K) (Z : KF K) (M : Ms K) : FnR P w K mg base CX0 7 1392 (sp_law_matched K) :=
  f_law_matched (k := 6) T ((a_law_holds T Y Z M).mono (by decide : 6 ≤ 6)) ((a_law_raised T Y Z M).mono (by decide : 6 ≤ 6)) (sp := (sp_law_matched K)) (by intro vs H Q E h; repeat (first | (have e := h.1; subst e; rfl) | (obtain ⟨_, h⟩ := h))) rd_law_matched
theorem a_law_forged {P : Program} {w : World} {K : PySem.W.Frag} {mg : Str → Option Value} {base : Heap} (T : Fs K mg) (Y : Fx K) (Z : KF K) (M : Ms K) : FnR P w K mg base CX0 6 1397 (sp_law_forged K) :=
  f_law_forged (k := 5) T ((a_law_mixed T Y Z M).mono (by decide : 1 ≤ 5)) ((a_law_asked T Y Z M).mono (by decide : 5 ≤ 5)) (sp := (sp_law_forged K)) (by intro vs H Q E h; repeat (first | (have e := h.1; subst e; rfl) | (obtain ⟨_, h⟩ := h))) rd_law_forged
theorem a_law_found {P : Program} {w : World} {K : PySem.W.Frag} {mg : Str → Option Value} {base : Heap} (T : Fs K mg) (Y : Fx K) (Z : KF K) (M : Ms K) : FnR P w K mg base CX0 27 1404 (sp_law_found K) :=
  f_law_found (k := 26) T Y ((a_leasts_of T Y Z M).mono (by decide : 26 ≤ 26))
theorem a_law_papers {P : Program} {w : World} {K : PySem.W.Frag} {mg : Str → Option Value} {base : Heap} (T : Fs K mg) (Y : Fx K) (Z : KF K) (M : Ms K) : FnR P w K mg base CX0 23 1411 (sp_law_papers K) :=
  f_law_papers (k := 22) T ((a_leasts_hold T Y Z M).mono (by decide : 22 ≤ 22)) (sp := (sp_law_papers K)) (by intro vs H Q E h; repeat (first | (have e := h.1; subst e; rfl) | (obtain ⟨_, h⟩ := h))) rd_law_papers
theorem a_law {P : Program} {w : World} {K : PySem.W.Frag} {mg : Str → Option Value} {base : Heap} (T : Fs K mg) (Y : Fx K) (Z : KF K) (M : Ms K) : FnR P w K mg base CX0 28 1416 (sp_law K) :=
  f_law (k := 27) T ((b_law_grouped T Y Z M 9).mono (by decide : 10 ≤ 27)) ((a_law_tree T Y Z M).mono (by decide : 5 ≤ 27)) ((b_law_tabled T Y Z M 9).mono (by decide : 9 ≤ 27)) ((a_law_boxes T Y Z M).mono (by decide : 1 ≤ 27)) ((a_law_found T Y Z M).mono (by decide : 27 ≤ 27)) ((a_law_holds T Y Z M).mono (by decide : 6 ≤ 27)) ((a_leasts_hold T Y Z M).mono (by decide : 22 ≤ 27)) ((a_law_papers T Y Z M).mono (by decide : 23 ≤ 27)) ((a_law_at T Y Z M).mono (by decide : 1 ≤ 27)) ((a_law_other T Y Z M).mono (by decide : 7 ≤ 27)) ((a_law_lifted T Y Z M).mono (by decide : 7 ≤ 27)) ((a_law_lowered T Y Z M).mono (by decide : 6 ≤ 27)) ((a_law_matched T Y Z M).mono (by decide : 7 ≤ 27)) ((a_law_forged T Y Z M).mono (by decide : 6 ≤ 27)) (sp := (sp_law K)) (by intro vs H Q E h; repeat (first | (have e := h.1; subst e; rfl) | (obtain ⟨_, h⟩ := h))) rd_law

end BG
set_option maxHeartbeats 4000000
namespace BG
open PySem PySem.Spec PyProof.Rows L2
theorem f_lawK {P : Program} {w : World} {K : PySem.W.Frag} {mg : Str → Option Value} {base : Heap} {k : Nat} (T : Fs K mg)  (G_law_grouped : FnR P w K mg base CX0 k 1345 (sp_law_grouped K 9)) (G_law_tree : FnR P w K mg base CX0 k 1321 (sp_law_tree K)) (G_law_tabled : FnR P w K mg base CX0 k 1352 (sp_law_tabled K 9)) (G_law_boxes : FnR P w K mg base CX0 k 1328 (sp_law_boxes K)) (G_law_found : FnR P w K mg base CX0 k 1404 (sp_law_found K)) (G_law_holds : FnR P w K mg base CX0 k 1359 (sp_law_holds K)) (G_leasts_hold : FnR P w K mg base CX0 k 1248 (sp_leasts_hold K)) (G_law_papers : FnR P w K mg base CX0 k 1411 (sp_law_papers K)) (G_law_at : FnR P w K mg base CX0 k 1255 (sp_law_at K)) (G_law_other : FnR P w K mg base CX0 k 1373 (sp_law_other K)) (G_law_lifted : FnR P w K mg base CX0 k 1380 (sp_law_lifted K)) (G_law_lowered : FnR P w K mg base CX0 k 1387 (sp_law_lowered K)) (G_law_matched : FnR P w K mg base CX0 k 1392 (sp_law_matched K)) (G_law_forged : FnR P w K mg base CX0 k 1397 (sp_law_forged K)) {fd : FuncData} (F0 : FunD K "law" "law" (defArgs s_law) (defBody s_law) (defScope s_law) [] [] 1416 fd) :
    FnOk P w K mg base CX0 (k + 1) 1416 fd ["_law_script"] (sp_law K) :=
  have der : ∀ (cdv : Value) (A : Around) (outer : List Env) (s : Shared) (H : Hp) (E : XK), Room k (A.deeper (envOfC "law" (defScope s_law) s.heap.objs.size 1416 cdv)) → PSs (cxOf CX0 P w K mg base ["_law_script", "_law_tree_here", "_law_fixed", "_law_boxes_here", "_law_found_here", "_law_leasts", "_law_paper", "_law_k", "_law_other_here", "_law_told", "_law_lowered_here", "_law_matched_here", "_law_some", "_law_one", "_law_box", "_law_name"] "law" (defScope s_law) 1416 cdv A outer s H E).nox (defBody s_law) (r_law K) := (fun cdv A outer s H E hr => by
    exact (pss_cons (ps_set (i := 1) sc_law.nd rfl (Or.inl rfl) (pe_callR G_law_grouped hr rfl T.g_law_grouped T.d_law_grouped.kp pass0 (pa_cons (pe_callR G_law_tree hr rfl T.g_law_tree T.d_law_tree.kp pass0 (pa_cons (pv 0) (pa_cons pe_int (pa_cons pe_int pa_nil)))) (pa_cons (pv 0) (pa_cons pe_int (pa_cons pe_bl pa_nil))))))
    (pss_cons (ps_set (i := 2) sc_law.nd rfl (Or.inl rfl) (pe_callR G_law_tabled hr rfl T.g_law_tabled T.d_law_tabled.kp pass0 (pa_cons (pv 1) (pa_cons pe_bl pa_nil))))
    (pss_cons (ps_set (i := 3) sc_law.nd rfl (Or.inl rfl) (pe_callR G_law_boxes hr rfl T.g_law_boxes T.d_law_boxes.kp pass0 (pa_cons (pv 1) pa_nil)))
    (pss_cons (ps_set (i := 4) sc_law.nd rfl (Or.inl rfl) (pe_callR G_law_found hr rfl T.g_law_found T.d_law_found.kp pass0 (pa_cons (pv 1) pa_nil)))
    (pss_cons (ps_if (pt_cmpR op_isN (pv 4) pe_non (nomark _)) (pss_one (ps_ret pe_bl)) pss_nil)
    (pss_cons (ps_asg (pv 4) (pg_tup (by rfl) (pgs_cons (pg_name (i := 5) sc_law.nd rfl (Or.inr rfl)) (pgs_cons (pg_name (i := 6) sc_law.nd rfl (Or.inl rfl)) pgs_nil))))
    (pss_cons (ps_if (pt_not (pt_val (pe_callB (cr_all rfl) (by rfl) T.b_all boot_all (pa_cons (pe_lock (pe_lc (own := [("_law_one", 13)]) (g := (gName 13)) (tt := tYes) rfl sc_law.nd  (pi_values (pv 5)) (blkOk_by (own := [("_law_one", 13)]) (N := ["_law_script", "_law_tree_here", "_law_fixed", "_law_boxes_here", "_law_found_here", "_law_leasts", "_law_paper", "_law_k", "_law_other_here", "_law_told", "_law_lowered_here", "_law_matched_here", "_law_some", "_law_one", "_law_box", "_law_name"]) (sc := defScope s_law) (by decide +kernel)) (fun _ _ _ _ _ => (pg_name (i := 13) sc_law.nd rfl (Or.inl rfl))) (fun _ _ _ _ _ => pts_nil) (fun _ _ _ _ _ => (pe_and (pe_callB call_isi (by rfl) T.b_isinstance boot_isinstance (pa_cons (pv 13) (pa_cons (pe_bltn (v := .ty "int") (by rfl) T.b_int boot_int rfl) pa_nil))) (pe_one (pe_not (pe_callB call_isi (by rfl) T.b_isinstance boot_isinstance (pa_cons (pv 13) (pa_cons (pe_bltn (v := .ty "bool") (by rfl) T.b_bool boot_bool rfl) pa_nil))))))))) pa_nil)))) (pss_one (ps_ret pe_bl)) pss_nil)
    (pss_cons (ps_if (PW.pt (pw_or (pt_cmpR (op_neSS hr.units) (pe_callB (call_sortedD rfl) (by rfl) T.b_sorted boot_sorted (pa_cons (pv 5) pa_nil)) (pe_callB cr_sortedS (by rfl) T.b_sorted boot_sorted (pa_cons (pe_lc (own := [("_law_box", 14)]) (g := (gName 14)) (tt := tYes) rfl sc_law.nd  (pi_list (pv 3)) (blkOk_by (own := [("_law_box", 14)]) (N := ["_law_script", "_law_tree_here", "_law_fixed", "_law_boxes_here", "_law_found_here", "_law_leasts", "_law_paper", "_law_k", "_law_other_here", "_law_told", "_law_lowered_here", "_law_matched_here", "_law_some", "_law_one", "_law_box", "_law_name"]) (sc := defScope s_law) (by decide +kernel)) (fun _ _ _ _ _ => (pg_name (i := 14) sc_law.nd rfl (Or.inl rfl))) (fun _ _ _ _ _ => pts_nil) (fun _ _ _ _ _ => (pe_ix ix_tup (pv 14) pe_int (fun _ _ => rfl)))) pa_nil)) (nomark _)) (pw_or1 (pt_cmpR (op_neSS hr.units) (pe_callB (call_sortedD rfl) (by rfl) T.b_sorted boot_sorted (pa_cons (pv 6) pa_nil)) (pe_callB (call_sortedD rfl) (by rfl) T.b_sorted boot_sorted (pa_cons (pv 5) pa_nil)) (nomark _))))) (pss_one (ps_ret pe_bl)) pss_nil)
    (pss_cons (ps_if (PW.pt (pw_or (pt_not (pt_val (pe_callR G_law_holds hr rfl T.g_law_holds T.d_law_holds.kp pass0 (pa_cons (pv 3) (pa_cons (pv 5) pa_nil))))) (pw_or1 (pt_cmpR op_notBl (pe_callR G_leasts_hold hr rfl T.g_leasts_hold T.d_leasts_hold.kp pass0 (pa_cons (pv 1) (pa_cons (pe_callTy call_dictD (by rfl) T.b_dict boot_dict (pa_cons (pv 5) pa_nil)) (pa_cons (pe_callTy call_dictD (by rfl) T.b_dict boot_dict (pa_cons (pv 6) pa_nil)) pa_nil)))) pe_bl (nomark _))))) (pss_one (ps_ret pe_bl)) pss_nil)
    (pss_cons (ps_if (pt_not (pt_val (pe_callR G_law_papers hr rfl T.g_law_papers T.d_law_papers.kp pass0 (pa_cons (pv 1) (pa_cons (pv 5) (pa_cons (pv 6) (pa_cons (pe_callR G_law_at hr rfl T.g_law_at T.d_law_at.kp pass0 (pa_cons (pv 0) (pa_cons pe_int pa_nil))) pa_nil))))))) (pss_one (ps_ret pe_bl)) pss_nil)
    (pss_cons (ps_for PassesOwn.never rfl (pi_tup (pe_tup (pa_cons pe_int (pa_cons pe_int pa_nil)))) (pg_name (i := 7) sc_law.nd rfl (Or.inl rfl)) (pss_cons (ps_set (i := 8) sc_law.nd rfl (Or.inr rfl) (pe_callR G_law_other hr rfl T.g_law_other T.d_law_other.kp pass0 (pa_cons (pv 3) (pa_cons (pv 5) (pa_cons (pe_op op_add (pe_callR G_law_at hr rfl T.g_law_at T.d_law_at.kp pass0 (pa_cons (pv 0) (pa_cons pe_int pa_nil))) (pe_op op_mul pe_int (pv 7))) (pa_cons (pv 2) pa_nil))))))
    (pss_cons (ps_if (pt_val (pe_callR G_law_holds hr rfl T.g_law_holds T.d_law_holds.kp pass0 (pa_cons (pv 3) (pa_cons (pv 8) pa_nil)))) (pss_cons (ps_if (pt_val (pe_callB (cr_any rfl) (by rfl) T.b_any boot_any (pa_cons (pe_lock (pe_lc (own := [("_law_name", 15)]) (g := (gName 15)) (tt := tYes) rfl sc_law.nd  (pi_keys (pv 5)) (blkOk_by (own := [("_law_name", 15)]) (N := ["_law_script", "_law_tree_here", "_law_fixed", "_law_boxes_here", "_law_found_here", "_law_leasts", "_law_paper", "_law_k", "_law_other_here", "_law_told", "_law_lowered_here", "_law_matched_here", "_law_some", "_law_one", "_law_box", "_law_name"]) (sc := defScope s_law) (by decide +kernel)) (fun _ _ _ _ _ => (pg_name (i := 15) sc_law.nd rfl (Or.inl rfl))) (fun _ _ _ _ _ => pts_nil) (fun _ _ _ _ _ => (pe_cmpR op_lt (pe_dget (hu_of hr) (pv 8) (pv 15) (fun _ _ => rfl)) (pe_dget (hu_of hr) (pv 5) (pv 15) (fun _ _ => rfl)) (nomark _))))) pa_nil))) (pss_one (ps_ret pe_bl)) pss_nil)
    (pss_cons (ps_set (i := 9) sc_law.nd rfl (Or.inl rfl) (pe_callR G_leasts_hold hr rfl T.g_leasts_hold T.d_leasts_hold.kp pass0 (pa_cons (pv 1) (pa_cons (pe_callTy call_dictD (by rfl) T.b_dict boot_dict (pa_cons (pv 8) pa_nil)) (pa_cons (pe_callTy call_dictD (by rfl) T.b_dict boot_dict (pa_cons (pv 6) pa_nil)) pa_nil)))))
    (pss_one (ps_if (PW.pt (pw_or (pt_not (pt_val (pe_callB call_isi (by rfl) T.b_isinstance boot_isinstance (pa_cons (pv 9) (pa_cons (pe_bltn (v := .ty "bool") (by rfl) T.b_bool boot_bool rfl) pa_nil))))) (pw_or1 (pt_cmpR op_ne (pv 9) (pe_cmpR (op_eqDI hr.units) (pv 8) (pv 5) (nomark _)) (nomark _))))) (pss_one (ps_ret pe_bl)) pss_nil)))) pss_nil)
    (pss_cons (ps_set (i := 8) sc_law.nd rfl (Or.inr rfl) (pe_callR G_law_lifted hr rfl T.g_law_lifted T.d_law_lifted.kp pass0 (pa_cons (pv 3) (pa_cons (pv 5) (pa_cons (pe_op op_add pe_int (pe_op op_mod (pe_callR G_law_at hr rfl T.g_law_at T.d_law_at.kp pass0 (pa_cons (pv 0) (pa_cons pe_int pa_nil))) pe_int)) (pa_cons (pe_op op_add pe_int (pe_op op_mul (pv 7) pe_int)) pa_nil))))))
    (pss_cons (ps_set (i := 10) sc_law.nd rfl (Or.inl rfl) (pe_callR G_law_lowered hr rfl T.g_law_lowered T.d_law_lowered.kp pass0 (pa_cons (pv 3) (pa_cons (pv 5) (pa_cons (pe_op op_add (pe_callR G_law_at hr rfl T.g_law_at T.d_law_at.kp pass0 (pa_cons (pv 0) (pa_cons pe_int pa_nil))) (pv 7)) pa_nil)))))
    (pss_cons (ps_set (i := 11) sc_law.nd rfl (Or.inl rfl) (pe_callR G_law_matched hr rfl T.g_law_matched T.d_law_matched.kp pass0 (pa_cons (pv 3) (pa_cons (pv 5) (pa_cons (pe_op op_add (pe_callR G_law_at hr rfl T.g_law_at T.d_law_at.kp pass0 (pa_cons (pv 0) (pa_cons pe_int pa_nil))) (pv 7)) (pa_cons (pv 2) pa_nil))))))
    (pss_one (ps_for PassesOwn.never rfl (pi_tup (pe_tup (pa_cons (pv 8) (pa_cons (pv 5) (pa_cons (pv 10) (pa_cons (pv 11) pa_nil)))))) (pg_name (i := 12) sc_law.nd rfl (Or.inl rfl)) (pss_cons (ps_set (i := 9) sc_law.nd rfl (Or.inl rfl) (pe_callR G_leasts_hold hr rfl T.g_leasts_hold T.d_leasts_hold.kp pass0 (pa_cons (pv 1) (pa_cons (pe_callTy call_dictD (by rfl) T.b_dict boot_dict (pa_cons (pv 12) pa_nil)) (pa_cons (pe_callR G_law_forged hr rfl T.g_law_forged T.d_law_forged.kp pass0 (pa_cons (pv 3) (pa_cons (pv 12) (pa_cons (pe_op op_add (pe_callR G_law_at hr rfl T.g_law_at T.d_law_at.kp pass0 (pa_cons (pv 0) (pa_cons pe_int pa_nil))) (pv 7)) pa_nil)))) pa_nil)))))
    (pss_one (ps_if (PW.pt (pw_or (pt_not (pt_val (pe_callB call_isi (by rfl) T.b_isinstance boot_isinstance (pa_cons (pv 9) (pa_cons (pe_bltn (v := .ty "bool") (by rfl) T.b_bool boot_bool rfl) pa_nil))))) (pw_or1 (PW.pt (pw_and (pt_val (pv 9)) (pw_and1 (pt_cmpR (op_neDI hr.units) (pv 12) (pv 5) (nomark _)))))))) (pss_one (ps_ret pe_bl)) pss_nil)))))))))))
    (pss_one (ps_ret pe_bl))))))))))))))
  F0.ok sc_law (fun vs H Q E h => by obtain ⟨a, ns, rfl, _⟩ := h; rfl) fun cdv A outer s H vs Q E hr h => ⟨r_law K, (der cdv A outer s H E hr).nox, rd_law vs H Q E h⟩
theorem law_ok {P : Program} {w : World} {K : PySem.W.Frag} {mg : Str → Option Value} {base : Heap} (T : Fs K mg) (Y : Fx K) (Z : KF K) (M : Ms K) {fd : FuncData} (F0 : FunD K "law" "law" (defArgs s_law) (defBody s_law) (defScope s_law) [] [] 1416 fd) : FnOk P w K mg base CX0 28 1416 fd ["_law_script"] (sp_law K) :=
  f_lawK (k := 27) T ((b_law_grouped T Y Z M 9).mono (by decide : 10 ≤ 27)) ((a_law_tree T Y Z M).mono (by decide : 5 ≤ 27)) ((b_law_tabled T Y Z M 9).mono (by decide : 9 ≤ 27)) ((a_law_boxes T Y Z M).mono (by decide : 1 ≤ 27)) ((a_law_found T Y Z M).mono (by decide : 27 ≤ 27)) ((a_law_holds T Y Z M).mono (by decide : 6 ≤ 27)) ((a_leasts_hold T Y Z M).mono (by decide : 22 ≤ 27)) ((a_law_papers T Y Z M).mono (by decide : 23 ≤ 27)) ((a_law_at T Y Z M).mono (by decide : 1 ≤ 27)) ((a_law_other T Y Z M).mono (by decide : 7 ≤ 27)) ((a_law_lifted T Y Z M).mono (by decide : 7 ≤ 27)) ((a_law_lowered T Y Z M).mono (by decide : 6 ≤ 27)) ((a_law_matched T Y Z M).mono (by decide : 7 ≤ 27)) ((a_law_forged T Y Z M).mono (by decide : 6 ≤ 27)) F0
section
variable {K : PySem.W.Frag} {h : Heap} {mg : Str → Option Value}
theorem fs_ok (X : K.In h) (G : h.Ns mainGlobals mg) (c : SaysL K) : Fs K mg where
  d_Box_init := c.def_ 0
  d_Box_asked_least := c.def_ 1
  d_Box_sums := c.def_ 2
  d_Box_alone_least := c.def_ 3
  d_Box_asker := c.def_ 4
  d_Leaf_init := c.def_ 5
  d_all_boxes := c.def_ 6
  d_deal := c.def_ 7
  d_gaps_in := c.def_ 8
  d_of_parts := c.def_ 9
  d_Row_init := c.def_ 10
  d_Row_asked_least := c.def_ 11
  d_Row_sums := c.def_ 12
  d_Column_init := c.def_ 13
  d_Column_asked_least := c.def_ 14
  d_cells_at := c.def_ 15
  d_is_open := c.def_ 16
  d_put_cells := c.def_ 17
  d_last_row := c.def_ 18
  d_track_name := c.def_ 19
  d_track_weights := c.def_ 20
  d_alone_raised := c.def_ 21
  d_in_order := c.def_ 22
  d_lack_of := c.def_ 23
  d_raise_tracks := c.def_ 24
  d_Table_init := c.def_ 25
  d_Table_sums := c.def_ 26
  d_Table_asks := c.def_ 27
  d_Table_asked_least := c.def_ 28
  d_Wrap_init := c.def_ 29
  d_Wrap_asked_least := c.def_ 30
  d_of := c.def_ 31
  d_settle := c.def_ 32
  d_free_boxes := c.def_ 33
  d_asks_of := c.def_ 34
  d_Rounds_init := c.def_ 35
  d_Rounds_reason := c.def_ 36
  d_ring_of := c.def_ 37
  d_reason_holds := c.def_ 38
  d_leasts_hold := c.def_ 39
  d_law_at := c.def_ 40
  d_law_mixed := c.def_ 41
  d_law_draws := c.def_ 42
  d_law_label := c.def_ 43
  d_law_span := c.def_ 44
  d_law_own := c.def_ 45
  d_law_leaf := c.def_ 46
  d_law_within := c.def_ 47
  d_law_step := c.def_ 48
  d_law_tree := c.def_ 49
  d_law_boxes := c.def_ 50
  d_law_columns := c.def_ 51
  d_law_asked := c.def_ 52
  d_law_grouped := c.def_ 53
  d_law_tabled := c.def_ 54
  d_law_holds := c.def_ 55
  d_law_raised := c.def_ 56
  d_law_other := c.def_ 57
  d_law_lifted := c.def_ 58
  d_law_lowered := c.def_ 59
  d_law_matched := c.def_ 60
  d_law_forged := c.def_ 61
  d_law_papers := c.def_ 62
  d_law := c.def_ 63
  d_TooGreat_init := c.def_ 64
  d_Ring_init := c.def_ 65
  d_Rounds_go := c.def_ 66
  d_leasts_of := c.def_ 67
  d_law_found := c.def_ 68
  g_all_boxes := PySem.W.mg_of X G (isRf_ok (c.fact 0))
  g_deal := PySem.W.mg_of X G (isRf_ok (c.fact 1))
  g_gaps_in := PySem.W.mg_of X G (isRf_ok (c.fact 2))
  g_of_parts := PySem.W.mg_of X G (isRf_ok (c.fact 3))
  g_cells_at := PySem.W.mg_of X G (isRf_ok (c.fact 4))
  g_is_open := PySem.W.mg_of X G (isRf_ok (c.fact 5))
  g_put_cells := PySem.W.mg_of X G (isRf_ok (c.fact 6))
  g_last_row := PySem.W.mg_of X G (isRf_ok (c.fact 7))
  g_track_name := PySem.W.mg_of X G (isRf_ok (c.fact 8))
  g_track_weights := PySem.W.mg_of X G (isRf_ok (c.fact 9))
  g_alone_raised := PySem.W.mg_of X G (isRf_ok (c.fact 10))
  g_in_order := PySem.W.mg_of X G (isRf_ok (c.fact 11))
  g_lack_of := PySem.W.mg_of X G (isRf_ok (c.fact 12))
  g_raise_tracks := PySem.W.mg_of X G (isRf_ok (c.fact 13))
  g_of := PySem.W.mg_of X G (isRf_ok (c.fact 14))
  g_settle := PySem.W.mg_of X G (isRf_ok (c.fact 15))
  g_free_boxes := PySem.W.mg_of X G (isRf_ok (c.fact 16))
  g_asks_of := PySem.W.mg_of X G (isRf_ok (c.fact 17))
  g_ring_of := PySem.W.mg_of X G (isRf_ok (c.fact 18))
  g_reason_holds := PySem.W.mg_of X G (isRf_ok (c.fact 19))
  g_leasts_hold := PySem.W.mg_of X G (isRf_ok (c.fact 20))
  g_law_at := PySem.W.mg_of X G (isRf_ok (c.fact 21))
  g_law_mixed := PySem.W.mg_of X G (isRf_ok (c.fact 22))
  g_law_draws := PySem.W.mg_of X G (isRf_ok (c.fact 23))
  g_law_label := PySem.W.mg_of X G (isRf_ok (c.fact 24))
  g_law_span := PySem.W.mg_of X G (isRf_ok (c.fact 25))
  g_law_own := PySem.W.mg_of X G (isRf_ok (c.fact 26))
  g_law_leaf := PySem.W.mg_of X G (isRf_ok (c.fact 27))
  g_law_within := PySem.W.mg_of X G (isRf_ok (c.fact 28))
  g_law_step := PySem.W.mg_of X G (isRf_ok (c.fact 29))
  g_law_tree := PySem.W.mg_of X G (isRf_ok (c.fact 30))
  g_law_boxes := PySem.W.mg_of X G (isRf_ok (c.fact 31))
  g_law_columns := PySem.W.mg_of X G (isRf_ok (c.fact 32))
  g_law_asked := PySem.W.mg_of X G (isRf_ok (c.fact 33))
  g_law_grouped := PySem.W.mg_of X G (isRf_ok (c.fact 34))
  g_law_tabled := PySem.W.mg_of X G (isRf_ok (c.fact 35))
  g_law_holds := PySem.W.mg_of X G (isRf_ok (c.fact 36))
  g_law_raised := PySem.W.mg_of X G (isRf_ok (c.fact 37))
  g_law_other := PySem.W.mg_of X G (isRf_ok (c.fact 38))
  g_law_lifted := PySem.W.mg_of X G (isRf_ok (c.fact 39))
  g_law_lowered := PySem.W.mg_of X G (isRf_ok (c.fact 40))
  g_law_matched := PySem.W.mg_of X G (isRf_ok (c.fact 41))
  g_law_forged := PySem.W.mg_of X G (isRf_ok (c.fact 42))
  g_law_papers := PySem.W.mg_of X G (isRf_ok (c.fact 43))
  g_law := PySem.W.mg_of X G (isRf_ok (c.fact 44))
  g_leasts_of := PySem.W.mg_of X G (isRf_ok (c.fact 45))
  g_law_found := PySem.W.mg_of X G (isRf_ok (c.fact 46))
  g_Leaf := PySem.W.mg_of X G (isRf_ok (c.fact 47))
  g_Row := PySem.W.mg_of X G (isRf_ok (c.fact 48))
  g_Column := PySem.W.mg_of X G (isRf_ok (c.fact 49))
  g_Table := PySem.W.mg_of X G (isRf_ok (c.fact 50))
  g_Wrap := PySem.W.mg_of X G (isRf_ok (c.fact 51))
  g_Rounds := PySem.W.mg_of X G (isRf_ok (c.fact 52))
  g_Box := PySem.W.mg_of X G (isRf_ok (c.fact 53))
  g_BoxError := PySem.W.mg_of X G (isRf_ok (c.fact 54))
  g_TooGreat := PySem.W.mg_of X G (isRf_ok (c.fact 55))
  g_Ring := PySem.W.mg_of X G (isRf_ok (c.fact 56))
  b_all := PySem.W.mg_none_of X G (isNo_ok (c.fact 57))
  b_any := PySem.W.mg_none_of X G (isNo_ok (c.fact 58))
  b_bool := PySem.W.mg_none_of X G (isNo_ok (c.fact 59))
  b_dict := PySem.W.mg_none_of X G (isNo_ok (c.fact 60))
  b_divmod := PySem.W.mg_none_of X G (isNo_ok (c.fact 61))
  b_enumerate := PySem.W.mg_none_of X G (isNo_ok (c.fact 62))
  b_int := PySem.W.mg_none_of X G (isNo_ok (c.fact 63))
  b_isinstance := PySem.W.mg_none_of X G (isNo_ok (c.fact 64))
  b_len := PySem.W.mg_none_of X G (isNo_ok (c.fact 65))
  b_list := PySem.W.mg_none_of X G (isNo_ok (c.fact 66))
  b_max := PySem.W.mg_none_of X G (isNo_ok (c.fact 67))
  b_ord := PySem.W.mg_none_of X G (isNo_ok (c.fact 68))
  b_range := PySem.W.mg_none_of X G (isNo_ok (c.fact 69))
  b_sorted := PySem.W.mg_none_of X G (isNo_ok (c.fact 70))
  b_str := PySem.W.mg_none_of X G (isNo_ok (c.fact 71))
  b_sum := PySem.W.mg_none_of X G (isNo_ok (c.fact 72))
  b_tuple := PySem.W.mg_none_of X G (isNo_ok (c.fact 73))
  b_zip := PySem.W.mg_none_of X G (isNo_ok (c.fact 74))
  v_GREATEST := intB_ok X G (c.fact 76)
  v_LOWEST := intB_ok X G (c.fact 77)
  m_Leaf := mkB_ok (c.fact 78)
  m_Row := mkB_ok (c.fact 79)
  m_Column := mkB_ok (c.fact 80)
  m_Table := mkB_ok (c.fact 81)
  m_Wrap := mkB_ok (c.fact 82)
  m_Rounds := mkB_ok (c.fact 83)
  cl_Leaf := clsB_ok (c.fact 84)
  cl_Row := clsB_ok (c.fact 85)
  cl_Column := clsB_ok (c.fact 86)
  cl_Table := clsB_ok (c.fact 87)
  cl_Wrap := clsB_ok (c.fact 88)
  cl_Rounds := clsB_ok (c.fact 89)
  c_Box := cinitB_ok (c.fact 90)
  e_BoxError := trivial
theorem fx_ok (c : SaysL K) : Fx K where
  e_B := einitB_ok (c.fact 91)
  o_T := excB_ok (c.fact 132)
  o_R := excB_ok (c.fact 136)
  i_T := isRf_ok (He.ba (c.fact 133)).1
  i_R := isRf_ok (He.ba (c.fact 137)).1
  t_T := isFn_ok (He.ba (c.fact 133)).2
  t_R := isFn_ok (He.ba (c.fact 137)).2
  n_T := naB_ok (c.fact 134) "name" List.mem_cons_self
  n_R := naB_ok (c.fact 138) "names" List.mem_cons_self
  x_T := of_decide_eq_true (c.fact 135)
  x_R := of_decide_eq_true (c.fact 139)
theorem ms_ok (c : SaysL K) : Ms K where
  asked_least_178 := methB_ok (c.fact 109)
  asked_least_801 := methB_ok (c.fact 110)
  asked_least_876 := methB_ok (c.fact 111)
  asked_least_1163 := methB_ok (c.fact 112)
  asked_least_1060 := methB_ok (c.fact 113)
  sums_178 := methB_ok (c.fact 114)
  sums_801 := methB_ok (c.fact 115)
  sums_876 := methB_ok (c.fact 116)
  sums_1163 := methB_ok (c.fact 117)
  sums_1060 := methB_ok (c.fact 118)
  alone_least_178 := methB_ok (c.fact 119)
  alone_least_801 := methB_ok (c.fact 120)
  alone_least_876 := methB_ok (c.fact 121)
  alone_least_1163 := methB_ok (c.fact 122)
  alone_least_1060 := methB_ok (c.fact 123)
  asker_178 := methB_ok (c.fact 124)
  asker_801 := methB_ok (c.fact 125)
  asker_876 := methB_ok (c.fact 126)
  asker_1163 := methB_ok (c.fact 127)
  asker_1060 := methB_ok (c.fact 128)
  asks_1060 := methB_ok (c.fact 129)
  reason_1222 := methB_ok (c.fact 130)
  go_1222 := methB_ok (c.fact 131)
theorem kf_ok (c : SaysL K) : KF K where
  cls := fun kd => match kd with
    | .leaf => clsB_ok (c.fact 84)
    | .row => clsB_ok (c.fact 85)
    | .col => clsB_ok (c.fact 86)
    | .wrap => clsB_ok (c.fact 88)
    | .table => clsB_ok (c.fact 87)
  na := fun kd f hf => match kd with
    | .leaf => naB_ok (c.fact 92) f hf
    | .row => naB_ok (c.fact 93) f hf
    | .col => naB_ok (c.fact 94) f hf
    | .wrap => naB_ok (c.fact 95) f hf
    | .table => naB_ok (c.fact 96) f hf
  rcls := clsB_ok (c.fact 89)
  rna := fun f hf => naB_ok (c.fact 97) f hf
  tyC := fun kd => match kd with
    | .leaf => isBn_ok (He.ba (c.fact 98)).1
    | .row => isBn_ok (He.ba (c.fact 99)).1
    | .col => isBn_ok (He.ba (c.fact 100)).1
    | .wrap => isBn_ok (He.ba (c.fact 101)).1
    | .table => isBn_ok (He.ba (c.fact 102)).1
  tyG := isBn_ok (He.ba (c.fact 108)).1
  tyT := of_decide_eq_true (He.ba (c.fact 108)).2
  tyM := fun kd => match kd with
    | .leaf => of_decide_eq_true (He.ba (c.fact 98)).2
    | .row => of_decide_eq_true (He.ba (c.fact 99)).2
    | .col => of_decide_eq_true (He.ba (c.fact 100)).2
    | .wrap => of_decide_eq_true (He.ba (c.fact 101)).2
    | .table => of_decide_eq_true (He.ba (c.fact 102)).2
  isT := fun kd => match kd with
    | .leaf => of_decide_eq_true (c.fact 103)
    | .row => of_decide_eq_true (c.fact 104)
    | .col => of_decide_eq_true (c.fact 105)
    | .wrap => of_decide_eq_true (c.fact 106)
    | .table => of_decide_eq_true (c.fact 107)
end
end BG
open PySem PySem.W PySem.Calls PyProof.Rows
theorem PySem.Challenge.cw_boxgalley_k14_whole_leasts_are_least_holds : PySem.Challenge.rw_boxgalley_k14_whole_leasts_are_least.Holds := by
  w_on; o_law
  refine HandSHeadRun.head_any (r := OpenLaw.row PySem.Challenge.rw_boxgalley_k14_whole_leasts_are_least) (q := view (OpenLaw.row PySem.Challenge.rw_boxgalley_k14_whole_leasts_are_least).prog [101]) (H := BG.hkL) (ob := BG.oL) (M := 12000) (loose := BG.names) (d := HandSHeadRun.topDef (OpenLaw.row PySem.Challenge.rw_boxgalley_k14_whole_leasts_are_least).prog 101) (kwd := []) BG.oL_eq
    (by kernel_rfl) (fun s => by kernel_rfl) BG.run (by kernel_rfl) (by kernel_rfl) (by kernel_rfl) (by rfl) (by first | assumption | decide +kernel) (by decide +kernel) ⟨rfl, rfl, rfl, rfl, rfl, by decide +kernel⟩ ?hw ?hc
  case hw => w_witness2
  case hc =>
    refine L2.walk_ofE (l := PySem.Challenge.rw_boxgalley_k14_whole_leasts_are_least) (n := 63) (k := 28) (x := "_law_script") (CX := L2.CX0) rfl (by decide) (by kernel_rfl) ⟨rfl, by decide, by decide⟩ ?F (fun _ _ _ _ z => z)
    intro w mg fa h Y G hmg0
    obtain ⟨K, KX, c⟩ := Y
    have hmg : mg ("law" : PySem.Str) = some (.ref fa) := by
      have e : (HandSHeadRun.topDef (OpenLaw.row PySem.Challenge.rw_boxgalley_k14_whole_leasts_are_least).prog 101).name = ("law" : PySem.Str) := by kernel_rfl
      rw [← e]
      exact hmg0
    have T := BG.fs_ok KX G c
    have e := hmg.symm.trans T.g_law
    cases e
    obtain ⟨fd, F0⟩ := T.d_law
    have b := L2.FunD.bindsA (ps := ["_law_script"]) F0 fun _ _ _ _ _ _ us hl => match us, hl with | [_], _ => rfl
    exact ⟨K, fd, BG.sp_law K, KX, fun s v => b s [v] rfl, fun H a ns hl _ hS => ⟨a, ns, rfl, hS, fun _ _ => rfl⟩, fun base _ _ => BG.law_ok T (BG.fx_ok c) (BG.kf_ok c) (BG.ms_ok c) F0⟩
