import PyProof.Rows.All
import Wide.All
import OpenK.AllK
import Wide.FinOn
import KE.KStateDown
import Lean
import HandS.ForMost
import HandS.More
import HandS.Codes
import HandS.Defaults
import HandS.Property
import HandS.ClsMeth
import HandS.Head0
import HandS.Head1
import HandS.Head2
import HandS.HeadEnd
import HandS.HeadHook1
import HandS.HeadHook2
import HandS.HeadNt
import HandS.Conv
import HandS.Deep
import HandS.Sort
import KE.LtSeq
import KE.SortData
import HandS.ListItems
import HandS.DictComp
import HandS.Walk
import HandS.Zip
import KE.KDictZip
import HandS.IsInst
import HandS.Star
import HandS.TupAny
import HandS.Style
import HandS.Flow
import HandS.RaiseMore
import HandS.SortInts
import PyProof.ReprRoads
import KE.KDictKeyed
import KE.KDictDisplayH
import PySem.Challenge.RW_abreast_k61_whole_least_spreads
/-! ## Hd -/
set_option Elab.async false
set_option linter.all false
set_option maxRecDepth 100000
set_option maxHeartbeats 0
/-! Hd: the top's run, and the facts that the walk leans on -/
namespace AbH
open PySem PySem.Calls PySem.Spec PyProof.Rows L2
def top (i : Nat) : Stmt := PySem.Challenge.pw_abreast_k61_whole_least_spreads.main.body.getD i (.Pass ⟨0, 0, 0, 0⟩)
/-! ### facts, by addresses -/
def fFree (x : Str) (K : PySem.W.Frag) : Bool := He.Fa.ok K (.free x)
def fInt (x : Str) (i : Int) (K : PySem.W.Frag) : Bool := He.Fa.ok K (.int x i)
def fStr (x z : Str) (K : PySem.W.Frag) : Bool := He.Fa.ok K (.str x z)
def fGlo (x : Str) (a : Addr) (K : PySem.W.Frag) : Bool := He.eqO (PySem.W.nsIn K mainGlobals x) (some (some (.ref a)))
def fCls (C : Addr) (K : PySem.W.Frag) : Bool := PySem.W.plainGet K C Str.empty && (PySem.W.hasDictIn K C && (PySem.W.plainOver K C && He.eqO (PySem.W.findIn K (.ref C) "__setattr__") (some (some (.builtin "object.__setattr__")))))
def fIns (C : Addr) (K : PySem.W.Frag) : Bool := fCls C K && (He.eqO (PySem.W.findIn K (.ref C) "__class__") (some (some (.builtin "object.__class__"))) && (He.eqO (PySem.W.specialIn K (.builtin "object.__class__") "__get__") (some (some (.builtin "getset_descriptor.__get__"))) &&
  (decide (PySem.W.takesIn K (.builtin "object.__class__") = some true) && (decide (PySem.W.mroIn K C (.type "object") = some true) && decide (PySem.W.kitOne K (.ref C) (.ref C) = some true)))))
def fMk (C f : Addr) (K : PySem.W.Frag) : Bool := PySem.W.makesIn K C && (He.eqO (PySem.W.findIn K (.ref C) "__init__") (some (some (.ref f))) && (PySem.W.isFn K (.ref f) && PySem.W.keepIn K (.ref C)))
def fNo (C : Addr) (x : Str) (K : PySem.W.Frag) : Bool := He.eqO (PySem.W.findIn K (.ref C) x) (some none)
def fMeth (C : Addr) (x : Str) (f : Addr) (K : PySem.W.Frag) : Bool := He.eqO (PySem.W.findIn K (.ref C) x) (some (some (.ref f))) && (PySem.W.isFn K (.ref f) && PySem.W.keepIn K (.ref f))
def fProp (C : Addr) (x : Str) (p g : Addr) (K : PySem.W.Frag) : Bool := He.eqO (PySem.W.findIn K (.ref C) x) (some (some (.ref p))) && (He.eqO (PySem.W.specialIn K (.ref p) "__get__") (some (some (.builtin "property.__get__"))) &&
  (decide (PySem.W.takesIn K (.ref p) = some true) && (match PySem.W.recIn K p "property" with
    | some (.ref g' :: _) => decide (g' = g)
    | _ => false)))
def fBM (C : Addr) (x : Str) (f : Addr) (K : PySem.W.Frag) : Bool := fMeth C x f K && (He.eqO (PySem.W.specialIn K (.ref f) "__get__") (some (some (.builtin "function.__get__"))) && (decide (PySem.W.takesIn K (.ref f) = some false) && (!(PySem.W.copiedNames.contains x) && PySem.W.fnIn K f)))
/-- a class's whole number -/
structure CV (K : PySem.W.Frag) (C : Addr) (x : Str) (v : V) : Prop where
  ex : ∃ u, ClX.CVal K C (.type "type") x v u
def fCV (C : Addr) (x : Str) (i : Int) (K : PySem.W.Frag) : Bool := match PySem.W.findCls K (.ref C) (.type "type") x with
  | some (.val (.int j _)) => decide (j = i)
  | _ => false
def fRd (C : Addr) (K : PySem.W.Frag) : Bool := PySem.W.readsIn K C (.type "type") && He.eqO (PySem.W.specialIn K (.ref C) "__getattribute__") (some (some (.builtin "type.__getattribute__")))
section
variable {K : PySem.W.Frag} {h : Heap} {mg : Str → Option Value} {x : Str} {C f p g : Addr}
theorem fGlo_ok (X : K.In h) (G : h.Ns mainGlobals mg) {a : Addr} (c : fGlo x a K = true) : mg x = some (.ref a) := PySem.W.mg_of X G (He.eqO_ok c)
theorem fFree_ok (X : K.In h) (G : h.Ns mainGlobals mg) (c : fFree x K = true) : mg x = none := He.free_ok X G c
theorem fInt_ok (X : K.In h) (G : h.Ns mainGlobals mg) {i : Int} (c : fInt x i K = true) : ∃ t, mg x = some (.int i t) := He.int_ok X G c
theorem fStr_ok (X : K.In h) (G : h.Ns mainGlobals mg) {z : Str} (c : fStr x z K = true) : ∃ t, mg x = some (.str z t) := He.str_ok X G c
theorem fCls_ok (c : fCls C K = true) : Cls K C := by
  obtain ⟨c1, c⟩ := He.ba c
  obtain ⟨c2, c⟩ := He.ba c
  obtain ⟨c3, c⟩ := He.ba c
  exact ⟨c1, c2, c3, He.eqO_ok c⟩
theorem fIns_ok (c : fIns C K = true) : C8.InsC K C := by
  obtain ⟨c1, c⟩ := He.ba c
  obtain ⟨c2, c⟩ := He.ba c
  obtain ⟨c3, c⟩ := He.ba c
  obtain ⟨c4, c⟩ := He.ba c
  obtain ⟨c5, c⟩ := He.ba c
  exact ⟨fCls_ok c1, He.eqO_ok c2, He.eqO_ok c3, of_decide_eq_true c4, of_decide_eq_true c5, of_decide_eq_true c⟩
theorem fMk_ok (c : fMk C f K = true) : Mk K C f := by
  obtain ⟨c1, c⟩ := He.ba c
  obtain ⟨c2, c⟩ := He.ba c
  obtain ⟨c3, c⟩ := He.ba c
  exact ⟨c1, He.eqO_ok c2, c3, c⟩
theorem fNo_ok (c : fNo C x K = true) : NoAttr K C x := He.eqO_ok c
theorem fMeth_ok (c : fMeth C x f K = true) : Meth K C x f := by
  obtain ⟨c1, c⟩ := He.ba c
  obtain ⟨c2, c⟩ := He.ba c
  exact ⟨He.eqO_ok c1, c2, c⟩
theorem fBM_ok (c : fBM C x f K = true) : BMeth K C x f := by
  obtain ⟨c1, c⟩ := He.ba c
  obtain ⟨c2, c⟩ := He.ba c
  obtain ⟨c3, c⟩ := He.ba c
  obtain ⟨c4, c⟩ := He.ba c
  exact ⟨fMeth_ok c1, He.eqO_ok c2, of_decide_eq_true c3, by simpa using c4, c⟩
theorem fProp_ok (c : fProp C x p g K = true) : PropOf K C x p g := by
  obtain ⟨c1, c⟩ := He.ba c
  obtain ⟨c2, c⟩ := He.ba c
  obtain ⟨c3, c⟩ := He.ba c
  refine ⟨He.eqO_ok c1, He.eqO_ok c2, of_decide_eq_true c3, ?_⟩
  split at c
  · rename_i g' r e
    rw [← of_decide_eq_true c]
    exact ⟨r, e⟩
  · cases c
theorem fCV_ok {i : Int} (c : fCV C x i K = true) : CV K C x (.int i) := by
  unfold fCV at c
  split at c
  · rename_i j t e
    refine ⟨_, e, ?_⟩
    rw [← of_decide_eq_true c]
    exact ⟨t, rfl⟩
  · cases c
theorem fRd_ok (c : fRd C K = true) : ClX.CRead K C (.type "type") := by
  obtain ⟨c1, c⟩ := He.ba c
  exact ⟨c1, He.eqO_ok c⟩
end
def dA (a : Addr) (x qual : Str) (st : Stmt) (l : List He.Dv) : He5.DefA := ⟨fun _ => a, x, qual, C8.fnArgs st, C8.fnBody st, C8.fnScope st, l, []⟩
/-! ### the run -/

def loose0 : List PySem.Str := ["_wall", "AbreastError", "InvalidLevel", "InvalidCount", "InvalidSpan", "EmptySpan", "InvalidNodes", "InvalidEdges", "InvalidNet", "InvalidSpot", "InvalidWalkers", "InvalidCompany", "InvalidStand", "InvalidPlaces", "MissingError", "UnknownNode", "UnknownWalker", "StateError", "Apart", "Outside", "NameTaken", "NobodyLeft", "OtherSpread", "LimitError", "TooMany", "LETTERS", "DIGITS", "MOST_SIGNS", "is_integer", "is_count"]
def loose1 : List PySem.Str := ["is_list", "is_name", "want_level", "Span", "want_span", "is_pair", "told_edge", "checked_levels", "checked_edges", "first_shared", "neighbours_in", "Net", "want_net", "want_spot", "MOST_WALKERS_companies", "want_nets", "Company", "want_company", "are_spots_of", "levels_of", "excess", "is_stand_of", "want_stand", "want_spots", "are_places_of", "want_places", "lies_in", "nodes_beside", "reach_from", "top_from"]
def loose2 : List PySem.Str := ["dip_from", "levels_beside", "Part", "part_from", "part_of", "top_of", "dip_of", "is_stand", "want_both", "windows", "least_top", "greatest_dip", "ladder", "band", "wide_span", "reach", "widens_to", "can_take", "height_of", "is_joined", "is_taken_with", "least_spread", "_law_pot", "_law_draw", "_law_pick", "_law_named", "_law_pair", "_law_model", "_law_net", "_law_height"]
def loose3 : List PySem.Str := ["_law_all_spots", "_law_on", "_law_steps", "_law_flats", "_law_tuples", "_law_near", "_law_fits", "_law_met", "_law_team", "_law_company", "_law_shown", "_law_has", "_law_least", "_law_aims", "_law_mixed", "_law_one_right", "_law_right"]
def loose : List PySem.Str := loose0 ++ loose1 ++ loose2 ++ loose3

abbrev R : PySem.W.OpenRow := PySem.W.OpenLaw.row PySem.Challenge.rw_abreast_k61_whole_least_spreads
noncomputable abbrev endQ (w : World) (os : OsState) := HandSHeadRun.endF (HandSHeadRun.stepQ (HandSHeadRun.denQ HandSHeadRun.tabQ) R.prog w) 12100 R.prog w os
noncomputable def lookA (w : World) (s : PySem.W.SharedT) : Bool := HandSHeadRun.looksF R.prog (PySem.W.boot_heap w.params) s.abs
noncomputable def lookB (s : PySem.W.SharedT) := HandSHeadRun.seenQ (PySem.W.view R.prog [117]) loose (importedModules R.prog.main.body) (fun s => PySem.W.xlAt (PySem.W.view R.prog [117]) [] s && PySem.W.recOk R.toRowW.records s) s.abs

abbrev s_is_integer : Stmt := top 30
abbrev s_is_count : Stmt := top 31
abbrev s_is_list : Stmt := top 32
abbrev s_is_name : Stmt := top 33
abbrev s_want_level : Stmt := top 34
abbrev s_want_span : Stmt := top 37
abbrev s_is_pair : Stmt := top 39
abbrev s_told_edge : Stmt := top 40
abbrev s_checked_levels : Stmt := top 41
abbrev s_checked_edges : Stmt := top 42
abbrev s_neighbours_in : Stmt := top 44
abbrev s_want_net : Stmt := top 46
abbrev s_want_spot : Stmt := top 47
abbrev s_want_nets : Stmt := top 50
abbrev s_want_company : Stmt := top 52
abbrev s_are_spots_of : Stmt := top 53
abbrev s_levels_of : Stmt := top 54
abbrev s_excess : Stmt := top 55
abbrev s_is_stand_of : Stmt := top 56
abbrev s_want_stand : Stmt := top 57
abbrev s_want_spots : Stmt := top 58
abbrev s_are_places_of : Stmt := top 59
abbrev s_want_places : Stmt := top 60
abbrev s_lies_in : Stmt := top 62
abbrev s_nodes_beside : Stmt := top 63
abbrev s_reach_from : Stmt := top 64
abbrev s_top_from : Stmt := top 65
abbrev s_dip_from : Stmt := top 66
abbrev s_levels_beside : Stmt := top 67
abbrev s_part_from : Stmt := top 69
abbrev s_part_of : Stmt := top 70
abbrev s_top_of : Stmt := top 71
abbrev s_dip_of : Stmt := top 72
abbrev s_is_stand : Stmt := top 74
abbrev s_want_both : Stmt := top 75
abbrev s_windows : Stmt := top 76
abbrev s_least_top : Stmt := top 77
abbrev s_greatest_dip : Stmt := top 78
abbrev s_ladder : Stmt := top 79
abbrev s_band : Stmt := top 80
abbrev s_wide_span : Stmt := top 81
abbrev s_reach : Stmt := top 82
abbrev s_widens_to : Stmt := top 84
abbrev s_can_take : Stmt := top 85
abbrev s_height_of : Stmt := top 87
abbrev s_is_joined : Stmt := top 88
abbrev s_is_taken_with : Stmt := top 89
abbrev s_least_spread : Stmt := top 90
abbrev s_law_pot : Stmt := top 92
abbrev s_law_draw : Stmt := top 93
abbrev s_law_pick : Stmt := top 94
abbrev s_law_named : Stmt := top 95
abbrev s_law_pair : Stmt := top 96
abbrev s_law_model : Stmt := top 97
abbrev s_law_net : Stmt := top 98
abbrev s_law_height : Stmt := top 99
abbrev s_law_all_spots : Stmt := top 100
abbrev s_law_on : Stmt := top 101
abbrev s_law_steps : Stmt := top 102
abbrev s_law_flats : Stmt := top 103
abbrev s_law_tuples : Stmt := top 104
abbrev s_law_near : Stmt := top 105
abbrev s_law_fits : Stmt := top 106
abbrev s_law_met : Stmt := top 107
abbrev s_law_team : Stmt := top 108
abbrev s_law_company : Stmt := top 109
abbrev s_law_shown : Stmt := top 110
abbrev s_law_has : Stmt := top 111
abbrev s_law_least : Stmt := top 112
abbrev s_law_aims : Stmt := top 113
abbrev s_law_mixed : Stmt := top 114
abbrev s_law_one_right : Stmt := top 115
abbrev s_law_right : Stmt := top 116
abbrev s_law : Stmt := top 117
abbrev s_Span_init : Stmt := inClass (top 36) 0
abbrev s_Span_contains : Stmt := inClass (top 36) 6
abbrev s_Span_low : Stmt := inClass (top 36) 2
abbrev s_Span_high : Stmt := inClass (top 36) 3
abbrev s_Net_init : Stmt := inClass (top 45) 2
abbrev s_Net_nodes : Stmt := inClass (top 45) 5
abbrev s_Net_edges : Stmt := inClass (top 45) 6
abbrev s_Net_level_at : Stmt := inClass (top 45) 8
abbrev s_Net_is_edge : Stmt := inClass (top 45) 9
abbrev s_Net_is_spot : Stmt := inClass (top 45) 10
abbrev s_Net_neighbours : Stmt := inClass (top 45) 11
abbrev s_Net_contains : Stmt := inClass (top 45) 15
abbrev s_Net_span : Stmt := inClass (top 45) 4
abbrev s_Company_init : Stmt := inClass (top 51) 1
abbrev s_Company_nets : Stmt := inClass (top 51) 5
abbrev s_Company_net_of : Stmt := inClass (top 51) 6
abbrev s_Company_with_spread : Stmt := inClass (top 51) 7
abbrev s_Company_only : Stmt := inClass (top 51) 8
abbrev s_Company_contains : Stmt := inClass (top 51) 14
abbrev s_Company_len : Stmt := inClass (top 51) 15
abbrev s_Company_spread : Stmt := inClass (top 51) 3
abbrev s_Part_init : Stmt := inClass (top 68) 0
abbrev s_Part_contains : Stmt := inClass (top 68) 10
def as : List Addr := [mainGlobals, cStatics, 635, 634, 837, 836, 982, 981, 1188, 1187, 691, 690, 868, 453, 452, 460, 459, 467, 466, 472, 471, 479, 478, 646, 645, 651, 650, 658, 657, 663, 662, 670, 669, 682, 681, 848, 847, 855, 854, 860, 859, 993, 992, 998, 997, 1003, 1002, 1010, 1009, 1017, 1016, 1024, 1023, 1031, 1030, 1036, 1035, 1043, 1042, 1050, 1049, 1057, 1056, 1062, 1061, 1067, 1066, 1072, 1071, 1077, 1076, 1197, 1196, 1204, 1203, 1211, 1210, 1218, 1217, 1225, 1224, 1232, 1231, 1239, 1238, 1244, 1243, 1249, 1248, 1256, 1255, 1263, 1262, 1270, 1269, 1275, 1274, 1282, 1281, 1287, 1286, 1292, 1291, 1299, 1298, 1306, 1305, 1313, 1312, 1320, 1319, 1327, 1326, 1334, 1333, 1339, 1338, 1346, 1345, 1351] ++ [1350, 1358, 1357, 1365, 1364, 1370, 1369, 1377, 1376, 1384, 1383, 1391, 1390, 1396, 1395, 1401, 1400, 1406, 1405, 1413, 1412, 1420, 1419, 1425, 1424, 1432, 1431, 1437, 1436, 1442, 1441, 1449, 1448, 1456, 1455, 1461, 1460, 1466, 1465, 1471, 1470, 493, 492, 541, 540, 510, 509, 518, 517, 696, 695, 721, 720, 728, 727, 742, 741, 749, 748, 756, 755, 763, 762, 791, 790, 713, 712, 873, 872, 905, 904, 912, 911, 919, 918, 924, 923, 958, 957, 965, 964, 890, 889, 1089, 1088, 1164, 1163, 511, 519, 714, 891]
def fn0 : List He5.DefA := [dA 453 "is_integer" "is_integer" s_is_integer [],
  dA 460 "is_count" "is_count" s_is_count [],
  dA 467 "is_list" "is_list" s_is_list [],
  dA 472 "is_name" "is_name" s_is_name [],
  dA 479 "want_level" "want_level" s_want_level [],
  dA 646 "want_span" "want_span" s_want_span [],
  dA 651 "is_pair" "is_pair" s_is_pair [],
  dA 658 "told_edge" "told_edge" s_told_edge [],
  dA 663 "checked_levels" "checked_levels" s_checked_levels [],
  dA 670 "checked_edges" "checked_edges" s_checked_edges [],
  dA 682 "neighbours_in" "neighbours_in" s_neighbours_in [],
  dA 848 "want_net" "want_net" s_want_net [],
  dA 855 "want_spot" "want_spot" s_want_spot [],
  dA 860 "want_nets" "want_nets" s_want_nets [],
  dA 993 "want_company" "want_company" s_want_company [],
  dA 998 "are_spots_of" "are_spots_of" s_are_spots_of [],
  dA 1003 "levels_of" "levels_of" s_levels_of [],
  dA 1010 "excess" "excess" s_excess [],
  dA 1017 "is_stand_of" "is_stand_of" s_is_stand_of [],
  dA 1024 "want_stand" "want_stand" s_want_stand [],
  dA 1031 "want_spots" "want_spots" s_want_spots [],
  dA 1036 "are_places_of" "are_places_of" s_are_places_of [],
  dA 1043 "want_places" "want_places" s_want_places [],
  dA 1050 "lies_in" "lies_in" s_lies_in [],
  dA 1057 "nodes_beside" "nodes_beside" s_nodes_beside [],
  dA 1062 "reach_from" "reach_from" s_reach_from [],
  dA 1067 "top_from" "top_from" s_top_from [],
  dA 1072 "dip_from" "dip_from" s_dip_from [],
  dA 1077 "levels_beside" "levels_beside" s_levels_beside [],
  dA 1197 "part_from" "part_from" s_part_from []]
def fn1 : List He5.DefA := [dA 1204 "part_of" "part_of" s_part_of [],
  dA 1211 "top_of" "top_of" s_top_of [],
  dA 1218 "dip_of" "dip_of" s_dip_of [],
  dA 1225 "is_stand" "is_stand" s_is_stand [],
  dA 1232 "want_both" "want_both" s_want_both [],
  dA 1239 "windows" "windows" s_windows [],
  dA 1244 "least_top" "least_top" s_least_top [],
  dA 1249 "greatest_dip" "greatest_dip" s_greatest_dip [],
  dA 1256 "ladder" "ladder" s_ladder [],
  dA 1263 "band" "band" s_band [],
  dA 1270 "wide_span" "wide_span" s_wide_span [],
  dA 1275 "reach" "reach" s_reach [],
  dA 1282 "widens_to" "widens_to" s_widens_to [],
  dA 1287 "can_take" "can_take" s_can_take [],
  dA 1292 "height_of" "height_of" s_height_of [],
  dA 1299 "is_joined" "is_joined" s_is_joined [],
  dA 1306 "is_taken_with" "is_taken_with" s_is_taken_with [],
  dA 1313 "least_spread" "least_spread" s_least_spread [],
  dA 1320 "_law_pot" "_law_pot" s_law_pot [],
  dA 1327 "_law_draw" "_law_draw" s_law_draw [],
  dA 1334 "_law_pick" "_law_pick" s_law_pick [],
  dA 1339 "_law_named" "_law_named" s_law_named [],
  dA 1346 "_law_pair" "_law_pair" s_law_pair [],
  dA 1351 "_law_model" "_law_model" s_law_model [],
  dA 1358 "_law_net" "_law_net" s_law_net [],
  dA 1365 "_law_height" "_law_height" s_law_height [],
  dA 1370 "_law_all_spots" "_law_all_spots" s_law_all_spots [],
  dA 1377 "_law_on" "_law_on" s_law_on [],
  dA 1384 "_law_steps" "_law_steps" s_law_steps [],
  dA 1391 "_law_flats" "_law_flats" s_law_flats []]
def fn2 : List He5.DefA := [dA 1396 "_law_tuples" "_law_tuples" s_law_tuples [],
  dA 1401 "_law_near" "_law_near" s_law_near [],
  dA 1406 "_law_fits" "_law_fits" s_law_fits [],
  dA 1413 "_law_met" "_law_met" s_law_met [],
  dA 1420 "_law_team" "_law_team" s_law_team [],
  dA 1425 "_law_company" "_law_company" s_law_company [],
  dA 1432 "_law_shown" "_law_shown" s_law_shown [],
  dA 1437 "_law_has" "_law_has" s_law_has [],
  dA 1442 "_law_least" "_law_least" s_law_least [],
  dA 1449 "_law_aims" "_law_aims" s_law_aims [],
  dA 1456 "_law_mixed" "_law_mixed" s_law_mixed [],
  dA 1461 "_law_one_right" "_law_one_right" s_law_one_right [],
  dA 1466 "_law_right" "_law_right" s_law_right [],
  dA 1471 "law" "law" s_law [],
  dA 493 "__init__" "Span.__init__" s_Span_init [],
  dA 541 "__contains__" "Span.__contains__" s_Span_contains [],
  dA 510 "low" "Span.low" s_Span_low [],
  dA 518 "high" "Span.high" s_Span_high [],
  dA 696 "__init__" "Net.__init__" s_Net_init [.adr fun _ => 690],
  dA 721 "nodes" "Net.nodes" s_Net_nodes [],
  dA 728 "edges" "Net.edges" s_Net_edges [],
  dA 742 "level_at" "Net.level_at" s_Net_level_at [],
  dA 749 "is_edge" "Net.is_edge" s_Net_is_edge [],
  dA 756 "is_spot" "Net.is_spot" s_Net_is_spot [],
  dA 763 "neighbours" "Net.neighbours" s_Net_neighbours [],
  dA 791 "__contains__" "Net.__contains__" s_Net_contains [],
  dA 713 "span" "Net.span" s_Net_span [],
  dA 873 "__init__" "Company.__init__" s_Company_init [.int 0],
  dA 905 "nets" "Company.nets" s_Company_nets [],
  dA 912 "net_of" "Company.net_of" s_Company_net_of []]
def fn3 : List He5.DefA := [dA 919 "with_spread" "Company.with_spread" s_Company_with_spread [],
  dA 924 "only" "Company.only" s_Company_only [],
  dA 958 "__contains__" "Company.__contains__" s_Company_contains [],
  dA 965 "__len__" "Company.__len__" s_Company_len [],
  dA 890 "spread" "Company.spread" s_Company_spread [],
  dA 1089 "__init__" "Part.__init__" s_Part_init [],
  dA 1164 "__contains__" "Part.__contains__" s_Part_contains []]
def fn : List He5.DefA := fn0 ++ (fn1 ++ (fn2 ++ (fn3)))
def fa0 : List (PySem.W.Frag → Bool) := [fGlo "is_integer" 453,
  fGlo "is_count" 460,
  fGlo "is_list" 467,
  fGlo "is_name" 472,
  fGlo "want_level" 479,
  fGlo "want_span" 646,
  fGlo "is_pair" 651,
  fGlo "told_edge" 658,
  fGlo "checked_levels" 663,
  fGlo "checked_edges" 670,
  fGlo "neighbours_in" 682,
  fGlo "want_net" 848,
  fGlo "want_spot" 855,
  fGlo "want_nets" 860,
  fGlo "want_company" 993,
  fGlo "are_spots_of" 998,
  fGlo "levels_of" 1003,
  fGlo "excess" 1010,
  fGlo "is_stand_of" 1017,
  fGlo "want_stand" 1024,
  fGlo "want_spots" 1031,
  fGlo "are_places_of" 1036,
  fGlo "want_places" 1043,
  fGlo "lies_in" 1050,
  fGlo "nodes_beside" 1057,
  fGlo "reach_from" 1062,
  fGlo "top_from" 1067,
  fGlo "dip_from" 1072,
  fGlo "levels_beside" 1077,
  fGlo "part_from" 1197]
def fa1 : List (PySem.W.Frag → Bool) := [fGlo "part_of" 1204,
  fGlo "top_of" 1211,
  fGlo "dip_of" 1218,
  fGlo "is_stand" 1225,
  fGlo "want_both" 1232,
  fGlo "windows" 1239,
  fGlo "least_top" 1244,
  fGlo "greatest_dip" 1249,
  fGlo "ladder" 1256,
  fGlo "band" 1263,
  fGlo "wide_span" 1270,
  fGlo "reach" 1275,
  fGlo "widens_to" 1282,
  fGlo "can_take" 1287,
  fGlo "height_of" 1292,
  fGlo "is_joined" 1299,
  fGlo "is_taken_with" 1306,
  fGlo "least_spread" 1313,
  fGlo "_law_pot" 1320,
  fGlo "_law_draw" 1327,
  fGlo "_law_pick" 1334,
  fGlo "_law_named" 1339,
  fGlo "_law_pair" 1346,
  fGlo "_law_model" 1351,
  fGlo "_law_net" 1358,
  fGlo "_law_height" 1365,
  fGlo "_law_all_spots" 1370,
  fGlo "_law_on" 1377,
  fGlo "_law_steps" 1384,
  fGlo "_law_flats" 1391]
def fa2 : List (PySem.W.Frag → Bool) := [fGlo "_law_tuples" 1396,
  fGlo "_law_near" 1401,
  fGlo "_law_fits" 1406,
  fGlo "_law_met" 1413,
  fGlo "_law_team" 1420,
  fGlo "_law_company" 1425,
  fGlo "_law_shown" 1432,
  fGlo "_law_has" 1437,
  fGlo "_law_least" 1442,
  fGlo "_law_aims" 1449,
  fGlo "_law_mixed" 1456,
  fGlo "_law_one_right" 1461,
  fGlo "_law_right" 1466,
  fGlo "law" 1471,
  fGlo "Span" 635,
  fCls 635,
  fIns 635,
  fMk 635 493,
  fNo 635 "own_low",
  fNo 635 "own_high",
  fMeth 635 "__init__" 493,
  fMeth 635 "__contains__" 541,
  fProp 635 "low" 511 510,
  fProp 635 "high" 519 518,
  fGlo "Net" 837,
  fCls 837,
  fIns 837,
  fMk 837 696,
  fNo 837 "own_levels",
  fNo 837 "own_edges"]
def fa3 : List (PySem.W.Frag → Bool) := [fNo 837 "own_near",
  fMeth 837 "__init__" 696,
  fMeth 837 "nodes" 721,
  fMeth 837 "edges" 728,
  fMeth 837 "level_at" 742,
  fMeth 837 "is_edge" 749,
  fMeth 837 "is_spot" 756,
  fMeth 837 "neighbours" 763,
  fMeth 837 "__contains__" 791,
  fProp 837 "span" 714 713,
  fGlo "Company" 982,
  fCls 982,
  fIns 982,
  fMk 982 873,
  fNo 982 "own_nets",
  fNo 982 "own_spread",
  fMeth 982 "__init__" 873,
  fMeth 982 "nets" 905,
  fMeth 982 "net_of" 912,
  fMeth 982 "with_spread" 919,
  fMeth 982 "only" 924,
  fMeth 982 "__contains__" 958,
  fMeth 982 "__len__" 965,
  fProp 982 "spread" 891 890,
  fGlo "Part" 1188,
  fCls 1188,
  fIns 1188,
  fMk 1188 1089,
  fNo 1188 "own_net",
  fNo 1188 "own_span"]
def fa4 : List (PySem.W.Frag → Bool) := [fNo 1188 "own_mark",
  fNo 1188 "own_ends",
  fNo 1188 "own_levels",
  fNo 1188 "own_edges",
  fNo 1188 "own_names",
  fNo 1188 "own_key",
  fNo 1188 "opens_above",
  fNo 1188 "opens_below",
  fNo 1188 "own_extent",
  fMeth 1188 "__init__" 1089,
  fMeth 1188 "__contains__" 1164,
  fFree "isinstance",
  fFree "int",
  fFree "bool",
  fFree "list",
  fFree "tuple",
  fFree "str",
  fFree "dict",
  fFree "len",
  fFree "all",
  fFree "any",
  fFree "sorted",
  fFree "min",
  fFree "max",
  fFree "enumerate",
  fFree "zip",
  fFree "range",
  fFree "abs",
  fFree "divmod",
  fFree "repr"]
def fa5 : List (PySem.W.Frag → Bool) := [fInt "MOST_SIGNS" 8,
  fInt "MOST_WALKERS_companies" 8,
  fStr "LETTERS" "abcdefghijklmnopqrstuvwxyz",
  fStr "DIGITS" "0123456789",
  fCV 837 "MOST_NODES" 60,
  fCV 837 "MOST_EDGES" 120,
  fRd 837,
  fBM 982 "only" 924]
def fas : List (PySem.W.Frag → Bool) := fa0 ++ (fa1 ++ (fa2 ++ (fa3 ++ (fa4 ++ (fa5)))))

/-! ### what is looked at behind the run -/
/-- the part of the heap that is told -/
noncomputable def obsF (K : PySem.W.Frag) : Bool × He.AlD := (fas.all (fun f => f K), He5.obsA [] fn K)
noncomputable def valF : Bool × He.AlD := (true, He5.valA fn)
def SaysX (K : PySem.W.Frag) : Prop := obsF K = valF
noncomputable def hk : PySem.W.Hook where
  α := Bool × He.AlD
  obs := fun s => obsF (He.frG s.heap.get? as)
  val := fun _ => valF
  says := fun _ h => ∃ K : PySem.W.Frag, K.In h ∧ SaysX K
  of := fun _ _ e => ⟨_, He.frG_in, e⟩
  keeps := fun _ _ _ ⟨K, hK, c⟩ k => ⟨K, PySem.W.Frag.In.keeps hK k, c⟩
noncomputable def ob (s : PySem.W.SharedT) : Bool × He.AlD := obsF (He.frG (HandSHeadRun.getT s) as)
theorem ob_eq (s : PySem.W.SharedT) : ob s = hk.obs s.abs := by
  have e : HandSHeadRun.getT s = s.abs.heap.get? := funext (HandSHeadRun.getT_eq s)
  show obsF (He.frG (HandSHeadRun.getT s) as) = obsF (He.frG s.abs.heap.get? as)
  rw [e]
theorem runA (w : World) (os : OsState) : (endQ w os).map (lookA w) = some true := by kernel_rfl
theorem runB (w : World) (os : OsState) : (endQ w os).map lookB = some (PySem.W.openGood (PySem.W.view R.prog [117]) loose) := by kernel_rfl
theorem runC1 (w : World) (os : OsState) : (endQ w os).map (fun s => fas.all (fun f => f (He.frG (HandSHeadRun.getT s) as))) = some true := by kernel_rfl
theorem runC2 (w : World) (os : OsState) : (endQ w os).map (fun s => He5.obsA [] fn (He.frG (HandSHeadRun.getT s) as)) = some (He5.valA fn) := by kernel_rfl
theorem runC (w : World) (os : OsState) : (endQ w os).map ob = some valF := by
  have h1 := runC1 w os
  have h2 := runC2 w os
  cases e : endQ w os with
  | none => rw [e] at h1; cases h1
  | some s =>
    rw [e] at h1 h2
    exact congrArg some (Prod.ext (Option.some.inj h1) (Option.some.inj h2))
theorem map3 {α β γ δ : Type} {o : Option α} {f : α → β} {g : α → γ} {h : α → δ} {b : β} {c : γ} {d : δ} (e1 : o.map f = some b) (e2 : o.map g = some c) (e3 : o.map h = some d) : o.map (fun s => (f s, g s, h s)) = some (b, c, d) := by
  cases o with
  | none => cases e1
  | some s =>
    have e1 := Option.some.inj e1
    have e2 := Option.some.inj e2
    have e3 := Option.some.inj e3
    show some (f s, g s, h s) = _
    rw [e1, e2, e3]
theorem run (w : World) : HandSHeadRun.RunEq R (PySem.W.view R.prog [117]) hk ob 12100 loose w := fun os => map3 (runA w os) (runB w os) (runC w os)
section
variable {K : PySem.W.Frag} {h : Heap} {mg : Str → Option Value}
theorem SaysX.fact (c : SaysX K) (i : Nat) {f : PySem.W.Frag → Bool} (e : fas[i]? = some f := by rfl) : f K = true :=
  List.all_eq_true.mp (congrArg Prod.fst c : fas.all (fun f => f K) = true) f (List.mem_of_getElem? e)
/-- a def of the text, where it stands, with its defaults -/
structure DfK (K : PySem.W.Frag) (x qual : Str) (st : Stmt) (f : Addr) (dvs : List V) : Prop where
  ex : ∃ fd, FunD K x qual (C8.fnArgs st) (C8.fnBody st) (C8.fnScope st) dvs [] f fd
theorem SaysX.df (c : SaysX K) (i : Nat) {a : Addr} {x qual : Str} {st : Stmt} {l : List He.Dv} (e : fn[i]? = some (dA a x qual st l) := by rfl) : DfK K x qual st a (l.map (He.Dv.v K)) :=
  ⟨He5.SaysA.def_ (fa := []) (fn := fn) (show He5.SaysA [] fn K from congrArg Prod.snd c) i e⟩
end

structure Txt (K : PySem.W.Frag) (mg : Str → Option Value) : Prop where
  g_is_integer : mg "is_integer" = some (.ref 453)
  g_is_count : mg "is_count" = some (.ref 460)
  g_is_list : mg "is_list" = some (.ref 467)
  g_is_name : mg "is_name" = some (.ref 472)
  g_want_level : mg "want_level" = some (.ref 479)
  g_want_span : mg "want_span" = some (.ref 646)
  g_is_pair : mg "is_pair" = some (.ref 651)
  g_told_edge : mg "told_edge" = some (.ref 658)
  g_checked_levels : mg "checked_levels" = some (.ref 663)
  g_checked_edges : mg "checked_edges" = some (.ref 670)
  g_neighbours_in : mg "neighbours_in" = some (.ref 682)
  g_want_net : mg "want_net" = some (.ref 848)
  g_want_spot : mg "want_spot" = some (.ref 855)
  g_want_nets : mg "want_nets" = some (.ref 860)
  g_want_company : mg "want_company" = some (.ref 993)
  g_are_spots_of : mg "are_spots_of" = some (.ref 998)
  g_levels_of : mg "levels_of" = some (.ref 1003)
  g_excess : mg "excess" = some (.ref 1010)
  g_is_stand_of : mg "is_stand_of" = some (.ref 1017)
  g_want_stand : mg "want_stand" = some (.ref 1024)
  g_want_spots : mg "want_spots" = some (.ref 1031)
  g_are_places_of : mg "are_places_of" = some (.ref 1036)
  g_want_places : mg "want_places" = some (.ref 1043)
  g_lies_in : mg "lies_in" = some (.ref 1050)
  g_nodes_beside : mg "nodes_beside" = some (.ref 1057)
  g_reach_from : mg "reach_from" = some (.ref 1062)
  g_top_from : mg "top_from" = some (.ref 1067)
  g_dip_from : mg "dip_from" = some (.ref 1072)
  g_levels_beside : mg "levels_beside" = some (.ref 1077)
  g_part_from : mg "part_from" = some (.ref 1197)
  g_part_of : mg "part_of" = some (.ref 1204)
  g_top_of : mg "top_of" = some (.ref 1211)
  g_dip_of : mg "dip_of" = some (.ref 1218)
  g_is_stand : mg "is_stand" = some (.ref 1225)
  g_want_both : mg "want_both" = some (.ref 1232)
  g_windows : mg "windows" = some (.ref 1239)
  g_least_top : mg "least_top" = some (.ref 1244)
  g_greatest_dip : mg "greatest_dip" = some (.ref 1249)
  g_ladder : mg "ladder" = some (.ref 1256)
  g_band : mg "band" = some (.ref 1263)
  g_wide_span : mg "wide_span" = some (.ref 1270)
  g_reach : mg "reach" = some (.ref 1275)
  g_widens_to : mg "widens_to" = some (.ref 1282)
  g_can_take : mg "can_take" = some (.ref 1287)
  g_height_of : mg "height_of" = some (.ref 1292)
  g_is_joined : mg "is_joined" = some (.ref 1299)
  g_is_taken_with : mg "is_taken_with" = some (.ref 1306)
  g_least_spread : mg "least_spread" = some (.ref 1313)
  g_law_pot : mg "_law_pot" = some (.ref 1320)
  g_law_draw : mg "_law_draw" = some (.ref 1327)
  g_law_pick : mg "_law_pick" = some (.ref 1334)
  g_law_named : mg "_law_named" = some (.ref 1339)
  g_law_pair : mg "_law_pair" = some (.ref 1346)
  g_law_model : mg "_law_model" = some (.ref 1351)
  g_law_net : mg "_law_net" = some (.ref 1358)
  g_law_height : mg "_law_height" = some (.ref 1365)
  g_law_all_spots : mg "_law_all_spots" = some (.ref 1370)
  g_law_on : mg "_law_on" = some (.ref 1377)
  g_law_steps : mg "_law_steps" = some (.ref 1384)
  g_law_flats : mg "_law_flats" = some (.ref 1391)
  g_law_tuples : mg "_law_tuples" = some (.ref 1396)
  g_law_near : mg "_law_near" = some (.ref 1401)
  g_law_fits : mg "_law_fits" = some (.ref 1406)
  g_law_met : mg "_law_met" = some (.ref 1413)
  g_law_team : mg "_law_team" = some (.ref 1420)
  g_law_company : mg "_law_company" = some (.ref 1425)
  g_law_shown : mg "_law_shown" = some (.ref 1432)
  g_law_has : mg "_law_has" = some (.ref 1437)
  g_law_least : mg "_law_least" = some (.ref 1442)
  g_law_aims : mg "_law_aims" = some (.ref 1449)
  g_law_mixed : mg "_law_mixed" = some (.ref 1456)
  g_law_one_right : mg "_law_one_right" = some (.ref 1461)
  g_law_right : mg "_law_right" = some (.ref 1466)
  g_law : mg "law" = some (.ref 1471)
  g_Span : mg "Span" = some (.ref 635)
  cls_Span : Cls K 635
  ins_Span : C8.InsC K 635
  mk_Span : Mk K 635 493
  no_Span_own_low : NoAttr K 635 "own_low"
  no_Span_own_high : NoAttr K 635 "own_high"
  me_Span_init : Meth K 635 "__init__" 493
  me_Span_contains : Meth K 635 "__contains__" 541
  pr_Span_low : PropOf K 635 "low" 511 510
  pr_Span_high : PropOf K 635 "high" 519 518
  g_Net : mg "Net" = some (.ref 837)
  cls_Net : Cls K 837
  ins_Net : C8.InsC K 837
  mk_Net : Mk K 837 696
  no_Net_own_levels : NoAttr K 837 "own_levels"
  no_Net_own_edges : NoAttr K 837 "own_edges"
  no_Net_own_near : NoAttr K 837 "own_near"
  me_Net_init : Meth K 837 "__init__" 696
  me_Net_nodes : Meth K 837 "nodes" 721
  me_Net_edges : Meth K 837 "edges" 728
  me_Net_level_at : Meth K 837 "level_at" 742
  me_Net_is_edge : Meth K 837 "is_edge" 749
  me_Net_is_spot : Meth K 837 "is_spot" 756
  me_Net_neighbours : Meth K 837 "neighbours" 763
  me_Net_contains : Meth K 837 "__contains__" 791
  pr_Net_span : PropOf K 837 "span" 714 713
  g_Company : mg "Company" = some (.ref 982)
  cls_Company : Cls K 982
  ins_Company : C8.InsC K 982
  mk_Company : Mk K 982 873
  no_Company_own_nets : NoAttr K 982 "own_nets"
  no_Company_own_spread : NoAttr K 982 "own_spread"
  me_Company_init : Meth K 982 "__init__" 873
  me_Company_nets : Meth K 982 "nets" 905
  me_Company_net_of : Meth K 982 "net_of" 912
  me_Company_with_spread : Meth K 982 "with_spread" 919
  me_Company_only : Meth K 982 "only" 924
  me_Company_contains : Meth K 982 "__contains__" 958
  me_Company_len : Meth K 982 "__len__" 965
  pr_Company_spread : PropOf K 982 "spread" 891 890
  g_Part : mg "Part" = some (.ref 1188)
  cls_Part : Cls K 1188
  ins_Part : C8.InsC K 1188
  mk_Part : Mk K 1188 1089
  no_Part_own_net : NoAttr K 1188 "own_net"
  no_Part_own_span : NoAttr K 1188 "own_span"
  no_Part_own_mark : NoAttr K 1188 "own_mark"
  no_Part_own_ends : NoAttr K 1188 "own_ends"
  no_Part_own_levels : NoAttr K 1188 "own_levels"
  no_Part_own_edges : NoAttr K 1188 "own_edges"
  no_Part_own_names : NoAttr K 1188 "own_names"
  no_Part_own_key : NoAttr K 1188 "own_key"
  no_Part_opens_above : NoAttr K 1188 "opens_above"
  no_Part_opens_below : NoAttr K 1188 "opens_below"
  no_Part_own_extent : NoAttr K 1188 "own_extent"
  me_Part_init : Meth K 1188 "__init__" 1089
  me_Part_contains : Meth K 1188 "__contains__" 1164
  f_isinstance : mg "isinstance" = none
  f_int : mg "int" = none
  f_bool : mg "bool" = none
  f_list : mg "list" = none
  f_tuple : mg "tuple" = none
  f_str : mg "str" = none
  f_dict : mg "dict" = none
  f_len : mg "len" = none
  f_all : mg "all" = none
  f_any : mg "any" = none
  f_sorted : mg "sorted" = none
  f_min : mg "min" = none
  f_max : mg "max" = none
  f_enumerate : mg "enumerate" = none
  f_zip : mg "zip" = none
  f_range : mg "range" = none
  f_abs : mg "abs" = none
  f_divmod : mg "divmod" = none
  f_repr : mg "repr" = none
  i_MOST_SIGNS : ∃ t, mg "MOST_SIGNS" = some (.int 8 t)
  i_MOST_WALKERS_companies : ∃ t, mg "MOST_WALKERS_companies" = some (.int 8 t)
  s_LETTERS : ∃ t, mg "LETTERS" = some (.str "abcdefghijklmnopqrstuvwxyz" t)
  s_DIGITS : ∃ t, mg "DIGITS" = some (.str "0123456789" t)
  cv_MOST_NODES : CV K 837 "MOST_NODES" (.int 60)
  cv_MOST_EDGES : CV K 837 "MOST_EDGES" (.int 120)
  rd_Net : ClX.CRead K 837 (.type "type")
  bm_Company_only : BMeth K 982 "only" 924
  d_is_integer : DfK K "is_integer" "is_integer" s_is_integer 453 []
  d_is_count : DfK K "is_count" "is_count" s_is_count 460 []
  d_is_list : DfK K "is_list" "is_list" s_is_list 467 []
  d_is_name : DfK K "is_name" "is_name" s_is_name 472 []
  d_want_level : DfK K "want_level" "want_level" s_want_level 479 []
  d_want_span : DfK K "want_span" "want_span" s_want_span 646 []
  d_is_pair : DfK K "is_pair" "is_pair" s_is_pair 651 []
  d_told_edge : DfK K "told_edge" "told_edge" s_told_edge 658 []
  d_checked_levels : DfK K "checked_levels" "checked_levels" s_checked_levels 663 []
  d_checked_edges : DfK K "checked_edges" "checked_edges" s_checked_edges 670 []
  d_neighbours_in : DfK K "neighbours_in" "neighbours_in" s_neighbours_in 682 []
  d_want_net : DfK K "want_net" "want_net" s_want_net 848 []
  d_want_spot : DfK K "want_spot" "want_spot" s_want_spot 855 []
  d_want_nets : DfK K "want_nets" "want_nets" s_want_nets 860 []
  d_want_company : DfK K "want_company" "want_company" s_want_company 993 []
  d_are_spots_of : DfK K "are_spots_of" "are_spots_of" s_are_spots_of 998 []
  d_levels_of : DfK K "levels_of" "levels_of" s_levels_of 1003 []
  d_excess : DfK K "excess" "excess" s_excess 1010 []
  d_is_stand_of : DfK K "is_stand_of" "is_stand_of" s_is_stand_of 1017 []
  d_want_stand : DfK K "want_stand" "want_stand" s_want_stand 1024 []
  d_want_spots : DfK K "want_spots" "want_spots" s_want_spots 1031 []
  d_are_places_of : DfK K "are_places_of" "are_places_of" s_are_places_of 1036 []
  d_want_places : DfK K "want_places" "want_places" s_want_places 1043 []
  d_lies_in : DfK K "lies_in" "lies_in" s_lies_in 1050 []
  d_nodes_beside : DfK K "nodes_beside" "nodes_beside" s_nodes_beside 1057 []
  d_reach_from : DfK K "reach_from" "reach_from" s_reach_from 1062 []
  d_top_from : DfK K "top_from" "top_from" s_top_from 1067 []
  d_dip_from : DfK K "dip_from" "dip_from" s_dip_from 1072 []
  d_levels_beside : DfK K "levels_beside" "levels_beside" s_levels_beside 1077 []
  d_part_from : DfK K "part_from" "part_from" s_part_from 1197 []
  d_part_of : DfK K "part_of" "part_of" s_part_of 1204 []
  d_top_of : DfK K "top_of" "top_of" s_top_of 1211 []
  d_dip_of : DfK K "dip_of" "dip_of" s_dip_of 1218 []
  d_is_stand : DfK K "is_stand" "is_stand" s_is_stand 1225 []
  d_want_both : DfK K "want_both" "want_both" s_want_both 1232 []
  d_windows : DfK K "windows" "windows" s_windows 1239 []
  d_least_top : DfK K "least_top" "least_top" s_least_top 1244 []
  d_greatest_dip : DfK K "greatest_dip" "greatest_dip" s_greatest_dip 1249 []
  d_ladder : DfK K "ladder" "ladder" s_ladder 1256 []
  d_band : DfK K "band" "band" s_band 1263 []
  d_wide_span : DfK K "wide_span" "wide_span" s_wide_span 1270 []
  d_reach : DfK K "reach" "reach" s_reach 1275 []
  d_widens_to : DfK K "widens_to" "widens_to" s_widens_to 1282 []
  d_can_take : DfK K "can_take" "can_take" s_can_take 1287 []
  d_height_of : DfK K "height_of" "height_of" s_height_of 1292 []
  d_is_joined : DfK K "is_joined" "is_joined" s_is_joined 1299 []
  d_is_taken_with : DfK K "is_taken_with" "is_taken_with" s_is_taken_with 1306 []
  d_least_spread : DfK K "least_spread" "least_spread" s_least_spread 1313 []
  d_law_pot : DfK K "_law_pot" "_law_pot" s_law_pot 1320 []
  d_law_draw : DfK K "_law_draw" "_law_draw" s_law_draw 1327 []
  d_law_pick : DfK K "_law_pick" "_law_pick" s_law_pick 1334 []
  d_law_named : DfK K "_law_named" "_law_named" s_law_named 1339 []
  d_law_pair : DfK K "_law_pair" "_law_pair" s_law_pair 1346 []
  d_law_model : DfK K "_law_model" "_law_model" s_law_model 1351 []
  d_law_net : DfK K "_law_net" "_law_net" s_law_net 1358 []
  d_law_height : DfK K "_law_height" "_law_height" s_law_height 1365 []
  d_law_all_spots : DfK K "_law_all_spots" "_law_all_spots" s_law_all_spots 1370 []
  d_law_on : DfK K "_law_on" "_law_on" s_law_on 1377 []
  d_law_steps : DfK K "_law_steps" "_law_steps" s_law_steps 1384 []
  d_law_flats : DfK K "_law_flats" "_law_flats" s_law_flats 1391 []
  d_law_tuples : DfK K "_law_tuples" "_law_tuples" s_law_tuples 1396 []
  d_law_near : DfK K "_law_near" "_law_near" s_law_near 1401 []
  d_law_fits : DfK K "_law_fits" "_law_fits" s_law_fits 1406 []
  d_law_met : DfK K "_law_met" "_law_met" s_law_met 1413 []
  d_law_team : DfK K "_law_team" "_law_team" s_law_team 1420 []
  d_law_company : DfK K "_law_company" "_law_company" s_law_company 1425 []
  d_law_shown : DfK K "_law_shown" "_law_shown" s_law_shown 1432 []
  d_law_has : DfK K "_law_has" "_law_has" s_law_has 1437 []
  d_law_least : DfK K "_law_least" "_law_least" s_law_least 1442 []
  d_law_aims : DfK K "_law_aims" "_law_aims" s_law_aims 1449 []
  d_law_mixed : DfK K "_law_mixed" "_law_mixed" s_law_mixed 1456 []
  d_law_one_right : DfK K "_law_one_right" "_law_one_right" s_law_one_right 1461 []
  d_law_right : DfK K "_law_right" "_law_right" s_law_right 1466 []
  d_law : DfK K "law" "law" s_law 1471 []
  d_Span_init : DfK K "__init__" "Span.__init__" s_Span_init 493 []
  d_Span_contains : DfK K "__contains__" "Span.__contains__" s_Span_contains 541 []
  d_Span_low : DfK K "low" "Span.low" s_Span_low 510 []
  d_Span_high : DfK K "high" "Span.high" s_Span_high 518 []
  d_Net_init : DfK K "__init__" "Net.__init__" s_Net_init 696 [.ref 690]
  d_Net_nodes : DfK K "nodes" "Net.nodes" s_Net_nodes 721 []
  d_Net_edges : DfK K "edges" "Net.edges" s_Net_edges 728 []
  d_Net_level_at : DfK K "level_at" "Net.level_at" s_Net_level_at 742 []
  d_Net_is_edge : DfK K "is_edge" "Net.is_edge" s_Net_is_edge 749 []
  d_Net_is_spot : DfK K "is_spot" "Net.is_spot" s_Net_is_spot 756 []
  d_Net_neighbours : DfK K "neighbours" "Net.neighbours" s_Net_neighbours 763 []
  d_Net_contains : DfK K "__contains__" "Net.__contains__" s_Net_contains 791 []
  d_Net_span : DfK K "span" "Net.span" s_Net_span 713 []
  d_Company_init : DfK K "__init__" "Company.__init__" s_Company_init 873 [.int 0]
  d_Company_nets : DfK K "nets" "Company.nets" s_Company_nets 905 []
  d_Company_net_of : DfK K "net_of" "Company.net_of" s_Company_net_of 912 []
  d_Company_with_spread : DfK K "with_spread" "Company.with_spread" s_Company_with_spread 919 []
  d_Company_only : DfK K "only" "Company.only" s_Company_only 924 []
  d_Company_contains : DfK K "__contains__" "Company.__contains__" s_Company_contains 958 []
  d_Company_len : DfK K "__len__" "Company.__len__" s_Company_len 965 []
  d_Company_spread : DfK K "spread" "Company.spread" s_Company_spread 890 []
  d_Part_init : DfK K "__init__" "Part.__init__" s_Part_init 1089 []
  d_Part_contains : DfK K "__contains__" "Part.__contains__" s_Part_contains 1164 []
theorem txt {K : PySem.W.Frag} {h : Heap} {mg : Str → Option Value} (X : K.In h) (G : h.Ns mainGlobals mg) (c : SaysX K) : Txt K mg where
  g_is_integer := fGlo_ok X G (c.fact 0)
  g_is_count := fGlo_ok X G (c.fact 1)
  g_is_list := fGlo_ok X G (c.fact 2)
  g_is_name := fGlo_ok X G (c.fact 3)
  g_want_level := fGlo_ok X G (c.fact 4)
  g_want_span := fGlo_ok X G (c.fact 5)
  g_is_pair := fGlo_ok X G (c.fact 6)
  g_told_edge := fGlo_ok X G (c.fact 7)
  g_checked_levels := fGlo_ok X G (c.fact 8)
  g_checked_edges := fGlo_ok X G (c.fact 9)
  g_neighbours_in := fGlo_ok X G (c.fact 10)
  g_want_net := fGlo_ok X G (c.fact 11)
  g_want_spot := fGlo_ok X G (c.fact 12)
  g_want_nets := fGlo_ok X G (c.fact 13)
  g_want_company := fGlo_ok X G (c.fact 14)
  g_are_spots_of := fGlo_ok X G (c.fact 15)
  g_levels_of := fGlo_ok X G (c.fact 16)
  g_excess := fGlo_ok X G (c.fact 17)
  g_is_stand_of := fGlo_ok X G (c.fact 18)
  g_want_stand := fGlo_ok X G (c.fact 19)
  g_want_spots := fGlo_ok X G (c.fact 20)
  g_are_places_of := fGlo_ok X G (c.fact 21)
  g_want_places := fGlo_ok X G (c.fact 22)
  g_lies_in := fGlo_ok X G (c.fact 23)
  g_nodes_beside := fGlo_ok X G (c.fact 24)
  g_reach_from := fGlo_ok X G (c.fact 25)
  g_top_from := fGlo_ok X G (c.fact 26)
  g_dip_from := fGlo_ok X G (c.fact 27)
  g_levels_beside := fGlo_ok X G (c.fact 28)
  g_part_from := fGlo_ok X G (c.fact 29)
  g_part_of := fGlo_ok X G (c.fact 30)
  g_top_of := fGlo_ok X G (c.fact 31)
  g_dip_of := fGlo_ok X G (c.fact 32)
  g_is_stand := fGlo_ok X G (c.fact 33)
  g_want_both := fGlo_ok X G (c.fact 34)
  g_windows := fGlo_ok X G (c.fact 35)
  g_least_top := fGlo_ok X G (c.fact 36)
  g_greatest_dip := fGlo_ok X G (c.fact 37)
  g_ladder := fGlo_ok X G (c.fact 38)
  g_band := fGlo_ok X G (c.fact 39)
  g_wide_span := fGlo_ok X G (c.fact 40)
  g_reach := fGlo_ok X G (c.fact 41)
  g_widens_to := fGlo_ok X G (c.fact 42)
  g_can_take := fGlo_ok X G (c.fact 43)
  g_height_of := fGlo_ok X G (c.fact 44)
  g_is_joined := fGlo_ok X G (c.fact 45)
  g_is_taken_with := fGlo_ok X G (c.fact 46)
  g_least_spread := fGlo_ok X G (c.fact 47)
  g_law_pot := fGlo_ok X G (c.fact 48)
  g_law_draw := fGlo_ok X G (c.fact 49)
  g_law_pick := fGlo_ok X G (c.fact 50)
  g_law_named := fGlo_ok X G (c.fact 51)
  g_law_pair := fGlo_ok X G (c.fact 52)
  g_law_model := fGlo_ok X G (c.fact 53)
  g_law_net := fGlo_ok X G (c.fact 54)
  g_law_height := fGlo_ok X G (c.fact 55)
  g_law_all_spots := fGlo_ok X G (c.fact 56)
  g_law_on := fGlo_ok X G (c.fact 57)
  g_law_steps := fGlo_ok X G (c.fact 58)
  g_law_flats := fGlo_ok X G (c.fact 59)
  g_law_tuples := fGlo_ok X G (c.fact 60)
  g_law_near := fGlo_ok X G (c.fact 61)
  g_law_fits := fGlo_ok X G (c.fact 62)
  g_law_met := fGlo_ok X G (c.fact 63)
  g_law_team := fGlo_ok X G (c.fact 64)
  g_law_company := fGlo_ok X G (c.fact 65)
  g_law_shown := fGlo_ok X G (c.fact 66)
  g_law_has := fGlo_ok X G (c.fact 67)
  g_law_least := fGlo_ok X G (c.fact 68)
  g_law_aims := fGlo_ok X G (c.fact 69)
  g_law_mixed := fGlo_ok X G (c.fact 70)
  g_law_one_right := fGlo_ok X G (c.fact 71)
  g_law_right := fGlo_ok X G (c.fact 72)
  g_law := fGlo_ok X G (c.fact 73)
  g_Span := fGlo_ok X G (c.fact 74)
  cls_Span := fCls_ok (c.fact 75)
  ins_Span := fIns_ok (c.fact 76)
  mk_Span := fMk_ok (c.fact 77)
  no_Span_own_low := fNo_ok (c.fact 78)
  no_Span_own_high := fNo_ok (c.fact 79)
  me_Span_init := fMeth_ok (c.fact 80)
  me_Span_contains := fMeth_ok (c.fact 81)
  pr_Span_low := fProp_ok (c.fact 82)
  pr_Span_high := fProp_ok (c.fact 83)
  g_Net := fGlo_ok X G (c.fact 84)
  cls_Net := fCls_ok (c.fact 85)
  ins_Net := fIns_ok (c.fact 86)
  mk_Net := fMk_ok (c.fact 87)
  no_Net_own_levels := fNo_ok (c.fact 88)
  no_Net_own_edges := fNo_ok (c.fact 89)
  no_Net_own_near := fNo_ok (c.fact 90)
  me_Net_init := fMeth_ok (c.fact 91)
  me_Net_nodes := fMeth_ok (c.fact 92)
  me_Net_edges := fMeth_ok (c.fact 93)
  me_Net_level_at := fMeth_ok (c.fact 94)
  me_Net_is_edge := fMeth_ok (c.fact 95)
  me_Net_is_spot := fMeth_ok (c.fact 96)
  me_Net_neighbours := fMeth_ok (c.fact 97)
  me_Net_contains := fMeth_ok (c.fact 98)
  pr_Net_span := fProp_ok (c.fact 99)
  g_Company := fGlo_ok X G (c.fact 100)
  cls_Company := fCls_ok (c.fact 101)
  ins_Company := fIns_ok (c.fact 102)
  mk_Company := fMk_ok (c.fact 103)
  no_Company_own_nets := fNo_ok (c.fact 104)
  no_Company_own_spread := fNo_ok (c.fact 105)
  me_Company_init := fMeth_ok (c.fact 106)
  me_Company_nets := fMeth_ok (c.fact 107)
  me_Company_net_of := fMeth_ok (c.fact 108)
  me_Company_with_spread := fMeth_ok (c.fact 109)
  me_Company_only := fMeth_ok (c.fact 110)
  me_Company_contains := fMeth_ok (c.fact 111)
  me_Company_len := fMeth_ok (c.fact 112)
  pr_Company_spread := fProp_ok (c.fact 113)
  g_Part := fGlo_ok X G (c.fact 114)
  cls_Part := fCls_ok (c.fact 115)
  ins_Part := fIns_ok (c.fact 116)
  mk_Part := fMk_ok (c.fact 117)
  no_Part_own_net := fNo_ok (c.fact 118)
  no_Part_own_span := fNo_ok (c.fact 119)
  no_Part_own_mark := fNo_ok (c.fact 120)
  no_Part_own_ends := fNo_ok (c.fact 121)
  no_Part_own_levels := fNo_ok (c.fact 122)
  no_Part_own_edges := fNo_ok (c.fact 123)
  no_Part_own_names := fNo_ok (c.fact 124)
  no_Part_own_key := fNo_ok (c.fact 125)
  no_Part_opens_above := fNo_ok (c.fact 126)
  no_Part_opens_below := fNo_ok (c.fact 127)
  no_Part_own_extent := fNo_ok (c.fact 128)
  me_Part_init := fMeth_ok (c.fact 129)
  me_Part_contains := fMeth_ok (c.fact 130)
  f_isinstance := fFree_ok X G (c.fact 131)
  f_int := fFree_ok X G (c.fact 132)
  f_bool := fFree_ok X G (c.fact 133)
  f_list := fFree_ok X G (c.fact 134)
  f_tuple := fFree_ok X G (c.fact 135)
  f_str := fFree_ok X G (c.fact 136)
  f_dict := fFree_ok X G (c.fact 137)
  f_len := fFree_ok X G (c.fact 138)
  f_all := fFree_ok X G (c.fact 139)
  f_any := fFree_ok X G (c.fact 140)
  f_sorted := fFree_ok X G (c.fact 141)
  f_min := fFree_ok X G (c.fact 142)
  f_max := fFree_ok X G (c.fact 143)
  f_enumerate := fFree_ok X G (c.fact 144)
  f_zip := fFree_ok X G (c.fact 145)
  f_range := fFree_ok X G (c.fact 146)
  f_abs := fFree_ok X G (c.fact 147)
  f_divmod := fFree_ok X G (c.fact 148)
  f_repr := fFree_ok X G (c.fact 149)
  i_MOST_SIGNS := fInt_ok X G (c.fact 150)
  i_MOST_WALKERS_companies := fInt_ok X G (c.fact 151)
  s_LETTERS := fStr_ok X G (c.fact 152)
  s_DIGITS := fStr_ok X G (c.fact 153)
  cv_MOST_NODES := fCV_ok (c.fact 154)
  cv_MOST_EDGES := fCV_ok (c.fact 155)
  rd_Net := fRd_ok (c.fact 156)
  bm_Company_only := fBM_ok (c.fact 157)
  d_is_integer := c.df 0
  d_is_count := c.df 1
  d_is_list := c.df 2
  d_is_name := c.df 3
  d_want_level := c.df 4
  d_want_span := c.df 5
  d_is_pair := c.df 6
  d_told_edge := c.df 7
  d_checked_levels := c.df 8
  d_checked_edges := c.df 9
  d_neighbours_in := c.df 10
  d_want_net := c.df 11
  d_want_spot := c.df 12
  d_want_nets := c.df 13
  d_want_company := c.df 14
  d_are_spots_of := c.df 15
  d_levels_of := c.df 16
  d_excess := c.df 17
  d_is_stand_of := c.df 18
  d_want_stand := c.df 19
  d_want_spots := c.df 20
  d_are_places_of := c.df 21
  d_want_places := c.df 22
  d_lies_in := c.df 23
  d_nodes_beside := c.df 24
  d_reach_from := c.df 25
  d_top_from := c.df 26
  d_dip_from := c.df 27
  d_levels_beside := c.df 28
  d_part_from := c.df 29
  d_part_of := c.df 30
  d_top_of := c.df 31
  d_dip_of := c.df 32
  d_is_stand := c.df 33
  d_want_both := c.df 34
  d_windows := c.df 35
  d_least_top := c.df 36
  d_greatest_dip := c.df 37
  d_ladder := c.df 38
  d_band := c.df 39
  d_wide_span := c.df 40
  d_reach := c.df 41
  d_widens_to := c.df 42
  d_can_take := c.df 43
  d_height_of := c.df 44
  d_is_joined := c.df 45
  d_is_taken_with := c.df 46
  d_least_spread := c.df 47
  d_law_pot := c.df 48
  d_law_draw := c.df 49
  d_law_pick := c.df 50
  d_law_named := c.df 51
  d_law_pair := c.df 52
  d_law_model := c.df 53
  d_law_net := c.df 54
  d_law_height := c.df 55
  d_law_all_spots := c.df 56
  d_law_on := c.df 57
  d_law_steps := c.df 58
  d_law_flats := c.df 59
  d_law_tuples := c.df 60
  d_law_near := c.df 61
  d_law_fits := c.df 62
  d_law_met := c.df 63
  d_law_team := c.df 64
  d_law_company := c.df 65
  d_law_shown := c.df 66
  d_law_has := c.df 67
  d_law_least := c.df 68
  d_law_aims := c.df 69
  d_law_mixed := c.df 70
  d_law_one_right := c.df 71
  d_law_right := c.df 72
  d_law := c.df 73
  d_Span_init := c.df 74
  d_Span_contains := c.df 75
  d_Span_low := c.df 76
  d_Span_high := c.df 77
  d_Net_init := c.df 78
  d_Net_nodes := c.df 79
  d_Net_edges := c.df 80
  d_Net_level_at := c.df 81
  d_Net_is_edge := c.df 82
  d_Net_is_spot := c.df 83
  d_Net_neighbours := c.df 84
  d_Net_contains := c.df 85
  d_Net_span := c.df 86
  d_Company_init := c.df 87
  d_Company_nets := c.df 88
  d_Company_net_of := c.df 89
  d_Company_with_spread := c.df 90
  d_Company_only := c.df 91
  d_Company_contains := c.df 92
  d_Company_len := c.df 93
  d_Company_spread := c.df 94
  d_Part_init := c.df 95
  d_Part_contains := c.df 96

end AbH


/-! ## M1 -/
/-! M1: climbing together: several walkers on levelled graphs, all at one level at each moment -/
namespace Ab
/-- levelled graphs, one for each walker: flat steps and rising steps -/
structure Sys (I W : Type) where
  lv : I → W → Int
  F : I → W → W → Prop
  R : I → W → W → Prop
  flv : ∀ {i u v}, F i u v → lv i v = lv i u
  fsy : ∀ {i u v}, F i u v → F i v u
  rlv : ∀ {i u v}, R i u v → lv i v = lv i u + 1

def Sys.neg {I W : Type} (S : Sys I W) : Sys I W where
  lv := fun i u => - S.lv i u
  F := S.F
  R := fun i u v => S.R i v u
  flv := fun h => by rw [S.flv h]
  fsy := S.fsy
  rlv := fun h => by rw [S.rlv h]; omega

def Sys.Ad {I W : Type} (S : Sys I W) (i : I) (u v : W) : Prop := S.F i u v ∨ S.R i u v ∨ S.R i v u

theorem Sys.Ad.symm {I W : Type} {S : Sys I W} {i : I} {u v : W} (h : S.Ad i u v) : S.Ad i v u := by
  rcases h with h | h | h
  · exact .inl (S.fsy h)
  · exact .inr (.inr h)
  · exact .inr (.inl h)

/-- a path of n steps between two levels -/
inductive Pa {I W : Type} (S : Sys I W) (i : I) (m b : Int) : Nat → W → W → Prop
  | nil {u : W} : m ≤ S.lv i u → S.lv i u ≤ b → Pa S i m b 0 u u
  | cons {n : Nat} {u v x : W} : m ≤ S.lv i u → S.lv i u ≤ b → S.Ad i u v → Pa S i m b n v x → Pa S i m b (n + 1) u x

def Re {I W : Type} (S : Sys I W) (i : I) (m b : Int) (u v : W) : Prop := ∃ n, Pa S i m b n u v

/-- all walkers of L move together -/
inductive Jo {I W : Type} (S : Sys I W) (L : List I) : (I → W) → (I → W) → Prop
  | refl {u v : I → W} : (∀ i ∈ L, u i = v i) → Jo S L u v
  | flat {u v x : I → W} (i : I) : i ∈ L → S.F i (u i) (v i) → (∀ k ∈ L, k ≠ i → v k = u k) → Jo S L v x → Jo S L u x
  | up {u v x : I → W} : (∀ i ∈ L, S.R i (u i) (v i)) → Jo S L v x → Jo S L u x
  | down {u v x : I → W} : (∀ i ∈ L, S.R i (v i) (u i)) → Jo S L v x → Jo S L u x

section
variable {I W : Type} {S : Sys I W} {L : List I} {i : I} {m b m' b' : Int} {u v x y : W} {n k : Nat}

theorem Pa.lo (h : Pa S i m b n u v) : m ≤ S.lv i u := by cases h <;> assumption
theorem Pa.hi (h : Pa S i m b n u v) : S.lv i u ≤ b := by cases h <;> assumption
theorem Pa.lo2 (h : Pa S i m b n u v) : m ≤ S.lv i v := by
  induction h with
  | nil h _ => exact h
  | cons _ _ _ _ ih => exact ih
theorem Pa.hi2 (h : Pa S i m b n u v) : S.lv i v ≤ b := by
  induction h with
  | nil _ h => exact h
  | cons _ _ _ _ ih => exact ih
theorem Pa.trans (h : Pa S i m b n u v) (g : Pa S i m b k v x) : Pa S i m b (n + k) u x := by
  induction h with
  | nil _ _ => simpa using g
  | @cons n u v w h1 h2 h3 _ ih => rw [show n + 1 + k = (n + k) + 1 by omega]; exact .cons h1 h2 h3 (ih g)
theorem Pa.mono (h : Pa S i m b n u v) (hm : m' ≤ m) (hb : b ≤ b') : Pa S i m' b' n u v := by
  induction h with
  | nil h1 h2 => exact .nil (by omega) (by omega)
  | cons h1 h2 h3 _ ih => exact .cons (by omega) (by omega) h3 ih
theorem Pa.symm (h : Pa S i m b n u v) : Pa S i m b n v u := by
  induction h with
  | nil h1 h2 => exact .nil h1 h2
  | @cons n u v w h1 h2 h3 h4 ih => exact ih.trans (.cons h4.lo h4.hi h3.symm (.nil h1 h2))
theorem Re.rfl' (h1 : m ≤ S.lv i u) (h2 : S.lv i u ≤ b) : Re S i m b u u := ⟨0, .nil h1 h2⟩
theorem Re.trans (h : Re S i m b u v) (g : Re S i m b v x) : Re S i m b u x := by
  obtain ⟨n, h⟩ := h; obtain ⟨k, g⟩ := g; exact ⟨_, h.trans g⟩
theorem Re.symm (h : Re S i m b u v) : Re S i m b v u := by
  obtain ⟨n, h⟩ := h; exact ⟨_, h.symm⟩
theorem Re.mono (h : Re S i m b u v) (hm : m' ≤ m) (hb : b ≤ b') : Re S i m' b' u v := by
  obtain ⟨n, h⟩ := h; exact ⟨_, h.mono hm hb⟩
theorem Re.lo (h : Re S i m b u v) : m ≤ S.lv i u := by obtain ⟨n, h⟩ := h; exact h.lo
theorem Re.hi (h : Re S i m b u v) : S.lv i u ≤ b := by obtain ⟨n, h⟩ := h; exact h.hi
theorem Re.lo2 (h : Re S i m b u v) : m ≤ S.lv i v := by obtain ⟨n, h⟩ := h; exact h.lo2
theorem Re.hi2 (h : Re S i m b u v) : S.lv i v ≤ b := by obtain ⟨n, h⟩ := h; exact h.hi2
theorem Re.step (h1 : m ≤ S.lv i u) (h2 : S.lv i u ≤ b) (h3 : m ≤ S.lv i v) (h4 : S.lv i v ≤ b) (a : S.Ad i u v) : Re S i m b u v := ⟨1, .cons h1 h2 a (.nil h3 h4)⟩

theorem Pa.neg (h : Pa S i m b n u v) : Pa S.neg i (-b) (-m) n u v := by
  induction h with
  | nil h1 h2 => exact .nil (by show -b ≤ -S.lv i _; omega) (by show -S.lv i _ ≤ -m; omega)
  | cons h1 h2 h3 _ ih =>
    refine .cons (by show -b ≤ -S.lv i _; omega) (by show -S.lv i _ ≤ -m; omega) ?_ ih
    rcases h3 with h | h | h
    · exact .inl h
    · exact .inr (.inr h)
    · exact .inr (.inl h)
theorem Re.neg (h : Re S i m b u v) : Re S.neg i (-b) (-m) u v := by obtain ⟨n, h⟩ := h; exact ⟨n, h.neg⟩

theorem Jo.trans {p q r : I → W} (h : Jo S L p q) (g : Jo S L q r) : Jo S L p r := by
  induction h with
  | @refl p q e =>
    cases g with
    | refl e' => exact .refl fun i hi => (e i hi).trans (e' i hi)
    | flat i hi hf ho g => exact .flat i hi (by rw [e i hi]; exact hf) (fun k hk hne => by rw [e k hk]; exact ho k hk hne) g
    | up hr g => exact .up (fun i hi => by rw [e i hi]; exact hr i hi) g
    | down hr g => exact .down (fun i hi => by rw [e i hi]; exact hr i hi) g
  | flat i hi hf ho _ ih => exact .flat i hi hf ho (ih g)
  | up hr _ ih => exact .up hr (ih g)
  | down hr _ ih => exact .down hr (ih g)
theorem Jo.rfl' {p : I → W} : Jo S L p p := .refl fun _ _ => rfl
theorem Jo.symm {p q : I → W} (h : Jo S L p q) : Jo S L q p := by
  induction h with
  | refl e => exact .refl fun i hi => (e i hi).symm
  | flat i hi hf ho _ ih => exact ih.trans (.flat i hi (S.fsy hf) (fun k hk hne => (ho k hk hne).symm) .rfl')
  | up hr _ ih => exact ih.trans (.down hr .rfl')
  | down hr _ ih => exact ih.trans (.up hr .rfl')
theorem Jo.neg {p q : I → W} (h : Jo S L p q) : Jo S.neg L p q := by
  induction h with
  | refl e => exact .refl e
  | flat i hi hf ho _ ih => exact .flat i hi hf ho ih
  | up hr _ ih => exact .down hr ih
  | down hr _ ih => exact .up hr ih
theorem Jo.unneg {p q : I → W} (h : Jo S.neg L p q) : Jo S L p q := by
  induction h with
  | refl e => exact .refl e
  | flat i hi hf ho _ ih => exact .flat i hi hf ho ih
  | up hr _ ih => exact .down hr ih
  | down hr _ ih => exact .up hr ih

/-- the first time at the upper level -/
theorem Pa.hit (h : Pa S i m b n u v) : S.lv i u < b → Re S i m (b - 1) u v ∨ ∃ x y k, k < n ∧ Re S i m (b - 1) u x ∧ S.R i x y ∧ S.lv i y = b ∧ Pa S i m b k y v := by
  induction h with
  | nil h1 h2 => exact fun hl => .inl (.rfl' h1 (by omega))
  | @cons n u w v h1 h2 a h4 ih =>
    intro hl
    by_cases hw : S.lv i w < b
    · have s : Re S i m (b - 1) u w := .step h1 (by omega) h4.lo (by omega) a
      rcases ih hw with h | ⟨x, y, k, hk, r, rr, e, p⟩
      · exact .inl (s.trans h)
      · exact .inr ⟨x, y, k, by omega, s.trans r, rr, e, p⟩
    · have hwb : S.lv i w = b := by have := h4.hi; omega
      rcases a with a | a | a
      · have := S.flv a; omega
      · exact .inr ⟨u, w, n, by omega, .rfl' h1 (by omega), a, hwb, h4⟩
      · have := S.rlv a; omega

/-- one walker's place changed -/
def put [DecidableEq I] (u : I → W) (i : I) (v : W) : I → W := fun k => if k = i then v else u k
theorem put_same [DecidableEq I] {u : I → W} {i : I} {v : W} : put u i v i = v := if_pos rfl
theorem put_ne [DecidableEq I] {u : I → W} {i k : I} {v : W} (h : k ≠ i) : put u i v k = u k := if_neg h
theorem put_put [DecidableEq I] {u : I → W} {i : I} {v w : W} : put (put u i v) i w = put u i w := by
  funext k; unfold put; split <;> rfl

theorem choiceL {α : Type} {L : List I} {P : I → α → Prop} (d : I → α) (h : ∀ k ∈ L, ∃ x, P k x) : ∃ f : I → α, ∀ k ∈ L, P k (f k) := by
  classical
  refine ⟨fun k => if hk : ∃ x, P k x then Classical.choose hk else d k, fun k hk => ?_⟩
  have e := h k hk
  simp only [dif_pos e]
  exact Classical.choose_spec e
end

section
variable {I W : Type} [DecidableEq I]

/-- at the lower level, one walker changes its place -/
def QmC (S : Sys I W) (L : List I) (m b : Int) : Prop := ∀ (u : I → W) (i : I) (v : W), i ∈ L → (∀ k ∈ L, S.lv k (u k) = m) → Re S i m b (u i) v → S.lv i v = m →
  (∀ k ∈ L, k ≠ i → ∃ y, Re S k m b (u k) y ∧ S.lv k y = b) → Jo S L u (put u i v)
def QbC (S : Sys I W) (L : List I) (m b : Int) : Prop := ∀ (u : I → W) (i : I) (v : W), i ∈ L → (∀ k ∈ L, S.lv k (u k) = b) → Re S i m b (u i) v → S.lv i v = b →
  (∀ k ∈ L, k ≠ i → ∃ y, Re S k m b (u k) y ∧ S.lv k y = m) → Jo S L u (put u i v)
def FullC (S : Sys I W) (L : List I) (m b : Int) : Prop := ∀ u v : I → W, (∀ k ∈ L, S.lv k (u k) = b) → (∀ k ∈ L, S.lv k (v k) = m) → (∀ k ∈ L, Re S k m b (u k) (v k)) → Jo S L u v

variable {S : Sys I W} {L : List I} {m b : Int}

theorem qb_of_neg (h : QmC S.neg L (-b) (-m)) : QbC S L m b := fun u i v hi hu hr hv ht =>
  (h u i v hi (fun k hk => by show -S.lv k (u k) = -b; rw [hu k hk]) hr.neg (by show -S.lv i v = -b; rw [hv]) fun k hk hne => by
    obtain ⟨y, r, e⟩ := ht k hk hne
    exact ⟨y, r.neg, by show -S.lv k y = -m; rw [e]⟩).unneg

/-- all walkers, one by one: for any relation that is a chain -/
theorem coordsG {T : (I → W) → (I → W) → Prop} (rf : ∀ a b : I → W, (∀ i ∈ L, a i = b i) → T a b) (tr : ∀ a b c, T a b → T b c → T a c) {u v : I → W} (M : List I) (hM : ∀ i ∈ M, i ∈ L)
    (step : ∀ w : I → W, (∀ k ∈ L, w k = u k ∨ w k = v k) → ∀ i ∈ L, w i = u i → T w (put w i (v i))) :
    ∀ w : I → W, (∀ k ∈ L, w k = u k ∨ w k = v k) → ∃ w', T w w' ∧ (∀ k ∈ L, w' k = u k ∨ w' k = v k) ∧ (∀ k ∈ M, w' k = v k) ∧ ∀ k ∈ L, w k = v k → w' k = v k := by
  induction M with
  | nil =>
    intro w hw
    exact ⟨w, rf _ _ fun _ _ => rfl, hw, (fun _ h => nomatch h), fun _ _ h => h⟩
  | cons i M ih =>
    intro w hw
    have hi : i ∈ L := hM i List.mem_cons_self
    have key : ∃ w1, T w w1 ∧ (∀ k ∈ L, w1 k = u k ∨ w1 k = v k) ∧ w1 i = v i ∧ ∀ k ∈ L, w k = v k → w1 k = v k := by
      rcases hw i hi with e | e
      · refine ⟨put w i (v i), step w hw i hi e, fun k hk => ?_, put_same, fun k hk hv => ?_⟩
        · by_cases h : k = i
          · subst h; exact .inr put_same
          · rw [put_ne h]; exact hw k hk
        · by_cases h : k = i
          · subst h; exact put_same
          · rw [put_ne h]; exact hv
      · exact ⟨w, rf _ _ fun _ _ => rfl, hw, e, fun _ _ h => h⟩
    obtain ⟨w1, j1, h1, e1, k1⟩ := key
    obtain ⟨w2, j2, h2, e2, k2⟩ := ih (fun k hk => hM k (List.mem_cons_of_mem _ hk)) w1 h1
    refine ⟨w2, tr _ _ _ j1 j2, h2, fun k hk => ?_, fun k hk hv => k2 k hk (k1 k hk hv)⟩
    rcases List.mem_cons.mp hk with rfl | hk
    · exact k2 k hi e1
    · exact e2 k hk
theorem coordsT {T : (I → W) → (I → W) → Prop} (rf : ∀ a b : I → W, (∀ i ∈ L, a i = b i) → T a b) (tr : ∀ a b c, T a b → T b c → T a c) {u v : I → W}
    (step : ∀ w : I → W, (∀ k ∈ L, w k = u k ∨ w k = v k) → ∀ i ∈ L, w i = u i → T w (put w i (v i))) : T u v := by
  obtain ⟨w, j, _, e, _⟩ := coordsG (L := L) rf tr (u := u) (v := v) L (fun _ h => h) step u (fun _ _ => .inl rfl)
  exact tr _ _ _ j (rf _ _ e)
theorem coords_all {u v : I → W} (step : ∀ w : I → W, (∀ k ∈ L, w k = u k ∨ w k = v k) → ∀ i ∈ L, w i = u i → Jo S L w (put w i (v i))) : Jo S L u v :=
  coordsT (fun _ _ e => .refl e) (fun _ _ _ a b => a.trans b) step

/-- the step of the induction -/
theorem qm_step (hmb : m < b) (hF : FullC S L m (b - 1)) (hQm : QmC S L m (b - 1)) (hQb : QbC S L m (b - 1)) : QmC S L m b := by
  intro u i v hi hu hr hv ht
  -- the others' hooks
  have hook : ∀ k ∈ L, ∃ p : W × W, k ≠ i → Re S k m (b - 1) (u k) p.1 ∧ S.R k p.1 p.2 ∧ S.lv k p.2 = b := fun k hk => by
    by_cases h : k = i
    · exact ⟨(u k, u k), fun z => absurd h z⟩
    · obtain ⟨y, ⟨n, r⟩, e⟩ := ht k hk h
      rcases r.hit (by rw [hu k hk]; exact hmb) with r | ⟨x, y', k', _, r1, rr, e', _⟩
      · have := r.hi2; omega
      · exact ⟨(x, y'), fun _ => ⟨r1, rr, e'⟩⟩
  obtain ⟨f, hf⟩ := choiceL (fun k => (u k, u k)) hook
  have px : ∀ k ∈ L, k ≠ i → Re S k m (b - 1) (u k) (f k).1 := fun k hk h => (hf k hk h).1
  have pr : ∀ k ∈ L, k ≠ i → S.R k (f k).1 (f k).2 := fun k hk h => (hf k hk h).2.1
  have py : ∀ k ∈ L, k ≠ i → S.lv k (f k).2 = b := fun k hk h => (hf k hk h).2.2
  have pz : ∀ k ∈ L, k ≠ i → S.lv k (f k).1 = b - 1 := fun k hk h => by have := S.rlv (pr k hk h); have := py k hk h; omega
  -- stands: the others below the top, at the top
  let X : W → I → W := fun z => put (fun k => (f k).1) i z
  let Y : W → I → W := fun z => put (fun k => (f k).2) i z
  have Xi : ∀ z, X z i = z := fun z => put_same
  have Yi : ∀ z, Y z i = z := fun z => put_same
  have Xk : ∀ z k, k ≠ i → X z k = (f k).1 := fun z k h => put_ne h
  have Yk : ∀ z k, k ≠ i → Y z k = (f k).2 := fun z k h => put_ne h
  have rise : ∀ z z', S.R i z z' → ∀ k ∈ L, S.R k (X z k) (Y z' k) := fun z z' h k hk => by
    by_cases e : k = i
    · subst e; rw [Xi, Yi]; exact h
    · rw [Xk _ _ e, Yk _ _ e]; exact pr k hk e
  have Xl : ∀ z, S.lv i z = b - 1 → ∀ k ∈ L, S.lv k (X z k) = b - 1 := fun z hz k hk => by
    by_cases e : k = i
    · subst e; rw [Xi]; exact hz
    · rw [Xk _ _ e]; exact pz k hk e
  have ul : ∀ z, S.lv i z = m → ∀ k ∈ L, S.lv k (put u i z k) = m := fun z hz k hk => by
    by_cases e : k = i
    · subst e; rw [put_same]; exact hz
    · rw [put_ne e]; exact hu k hk
  -- crossing between the stands below the top and those at the lower level
  have cross : ∀ z w, S.lv i z = b - 1 → S.lv i w = m → Re S i m (b - 1) z w → Jo S L (X z) (put u i w) := fun z w hz hw r =>
    hF (X z) (put u i w) (Xl z hz) (ul w hw) fun k hk => by
      by_cases e : k = i
      · subst e; rw [Xi, put_same]; exact r
      · rw [Xk _ _ e, put_ne e]; exact (px k hk e).symm
  have along : ∀ z w, S.lv i z = b - 1 → S.lv i w = b - 1 → Re S i m (b - 1) z w → Jo S L (X z) (X w) := fun z w hz hw r => by
    have q := hQb (X z) i w hi (Xl z hz) (by rw [Xi]; exact r) hw fun k hk e => ⟨u k, by rw [Xk _ _ e]; exact (px k hk e).symm, hu k hk⟩
    have e : put (X z) i w = X w := put_put
    rw [e] at q
    exact q
  -- from the top on
  have main : ∀ n z, S.lv i z = b → Pa S i m b n z v → Jo S L (Y z) (put u i v) := by
    intro n
    induction n using Nat.strongRecOn with
    | ind n ih =>
      intro z hz p
      cases p with
      | nil _ _ => omega
      | @cons n _ w _ h1 h2 a p =>
        rcases a with a | a | a
        · have hw := S.flv a
          refine .flat (v := Y w) i hi (by rw [Yi, Yi]; exact a) (fun k _ e => by rw [Yk _ _ e, Yk _ _ e]) (ih n (by omega) w (by omega) p)
        · have := S.rlv a; have := p.hi; omega
        · have hw := S.rlv a
          refine .down (v := X w) (rise w z a) ?_
          rcases p.hit (by omega) with r | ⟨x, y, k, hk, r, rr, ey, p'⟩
          · exact cross w v (by omega) hv r
          · have hx := S.rlv rr
            exact (along w x (by omega) (by omega) r).trans (.up (v := Y y) (rise x y rr) (ih k (by omega) y ey p'))
  obtain ⟨n, p⟩ := hr
  rcases p.hit (by rw [hu i hi]; exact hmb) with r | ⟨x, y, k, _, r, rr, ey, p'⟩
  · exact hQm u i v hi hu r hv fun k hk e => ⟨(f k).1, px k hk e, pz k hk e⟩
  · have hx := S.rlv rr
    have c := (cross x (u i) (by omega) (hu i hi) r.symm).symm
    have e : put u i (u i) = u := by
      funext k; unfold put; split
      · rename_i h; rw [h]
      · rfl
    rw [e] at c
    exact c.trans (.up (v := Y y) (rise x y rr) (main k y ey p'))

theorem full_step (hmb : m < b) (hF : FullC S L m (b - 1)) (hQb : QbC S L m b) : FullC S L m b := by
  intro u v hu hv hr
  have hook : ∀ k ∈ L, ∃ p : W × W, Re S k m (b - 1) (v k) p.1 ∧ S.R k p.1 p.2 ∧ S.lv k p.2 = b := fun k hk => by
    obtain ⟨n, r⟩ := (hr k hk).symm
    rcases r.hit (by rw [hv k hk]; exact hmb) with r | ⟨x, y', k', _, r1, rr, e', _⟩
    · have := r.hi2; have := hu k hk; omega
    · exact ⟨(x, y'), r1, rr, e'⟩
  obtain ⟨f, hf⟩ := choiceL (fun k => (u k, u k)) hook
  have j1 : Jo S L (fun k => (f k).1) v := hF _ _ (fun k hk => by have := S.rlv (hf k hk).2.1; have := (hf k hk).2.2; omega) hv fun k hk => (hf k hk).1.symm
  have j2 : Jo S L (fun k => (f k).2) v := .down (v := fun k => (f k).1) (fun k hk => (hf k hk).2.1) j1
  have c : ∀ k ∈ L, Re S k m b (v k) (f k).2 := fun k hk => by
    have r := ((hf k hk).1.mono (Int.le_refl _) (show b - 1 ≤ b by omega))
    have e1 := (hf k hk).2.2
    have e2 := S.rlv (hf k hk).2.1
    exact r.trans (.step r.lo2 r.hi2 (by omega) (by omega) (.inr (.inl (hf k hk).2.1)))
  have j3 : Jo S L u (fun k => (f k).2) := coords_all fun w hw i hi e => by
    refine hQb w i _ hi (fun k hk => ?_) ?_ (hf i hi).2.2 fun k hk _ => ⟨v k, ?_, hv k hk⟩
    · rcases hw k hk with e | e <;> rw [e]
      · exact hu k hk
      · exact (hf k hk).2.2
    · rw [e]; exact (hr i hi).trans (c i hi)
    · rcases hw k hk with e | e <;> rw [e]
      · exact hr k hk
      · exact (c k hk).symm
  exact j3.trans j2

theorem flat_only {i : I} {n : Nat} {u v : W} (h : Pa S i m m n u v) : ∀ w : I → W, i ∈ L → w i = u → Jo S L w (put w i v) := by
  induction h with
  | nil _ _ =>
    intro w hi e
    refine .refl fun k hk => ?_
    by_cases h : k = i
    · subst h; rw [put_same]; exact e
    · rw [put_ne h]
  | @cons n u x v h1 h2 a p ih =>
    intro w hi e
    have hx := p.lo
    have hx2 := p.hi
    rcases a with a | a | a
    · have q := ih (put w i x) hi put_same
      rw [put_put] at q
      exact .flat i hi (by rw [e, put_same]; exact a) (fun k _ h => put_ne h) q
    · have := S.rlv a; omega
    · have := S.rlv a; omega

theorem all_claims : ∀ (d : Nat) (S : Sys I W) (m b : Int), b - m = d → FullC S L m b ∧ QmC S L m b ∧ QbC S L m b := by
  intro d
  induction d with
  | zero =>
    intro S m b e
    have e : b = m := by omega
    subst e
    have hQm : QmC S L b b := fun u i v hi hu hr hv ht => by
      obtain ⟨n, p⟩ := hr
      exact flat_only p u hi rfl
    refine ⟨fun u v hu hv hr => coords_all fun w hw i hi e => ?_, hQm, fun u i v hi hu hr hv ht => hQm u i v hi hu hr hv ht⟩
    obtain ⟨n, p⟩ := hr i hi
    exact flat_only p w hi e
  | succ d ih =>
    intro S m b e
    obtain ⟨f1, q1, r1⟩ := ih S m (b - 1) (by omega)
    have hQm := qm_step (by omega) f1 q1 r1
    obtain ⟨f2, q2, r2⟩ := ih S.neg (-b) (-m - 1) (by omega)
    have hQb : QbC S L m b := qb_of_neg (qm_step (by omega) f2 q2 r2)
    exact ⟨full_step (by omega) f1 hQb, hQm, hQb⟩

/-- CLIMBING TOGETHER: from the lower or the upper level to the lower or the upper level -/
theorem climb (hmb : m ≤ b) {u v : I → W} (hu : (∀ k ∈ L, S.lv k (u k) = m) ∨ ∀ k ∈ L, S.lv k (u k) = b) (hv : (∀ k ∈ L, S.lv k (v k) = m) ∨ ∀ k ∈ L, S.lv k (v k) = b)
    (hr : ∀ k ∈ L, Re S k m b (u k) (v k)) (tm : ∀ k ∈ L, ∃ y, Re S k m b (u k) y ∧ S.lv k y = m) (tb : ∀ k ∈ L, ∃ y, Re S k m b (u k) y ∧ S.lv k y = b) : Jo S L u v := by
  obtain ⟨hF, hQm, hQb⟩ := all_claims (L := L) (b - m).toNat S m b (by omega)
  rcases hu with hu | hu <;> rcases hv with hv | hv
  · refine coords_all fun w hw i hi e => hQm w i _ hi (fun k hk => ?_) ?_ (hv i hi) fun k hk _ => ?_
    · rcases hw k hk with e | e <;> rw [e]
      · exact hu k hk
      · exact hv k hk
    · rw [e]; exact hr i hi
    · obtain ⟨y, r, ey⟩ := tb k hk
      rcases hw k hk with e | e <;> rw [e]
      · exact ⟨y, r, ey⟩
      · exact ⟨y, (hr k hk).symm.trans r, ey⟩
  · exact (hF v u hv hu fun k hk => (hr k hk).symm).symm
  · exact hF u v hu hv hr
  · refine coords_all fun w hw i hi e => hQb w i _ hi (fun k hk => ?_) ?_ (hv i hi) fun k hk _ => ?_
    · rcases hw k hk with e | e <;> rw [e]
      · exact hu k hk
      · exact hv k hk
    · rw [e]; exact hr i hi
    · obtain ⟨y, r, ey⟩ := tm k hk
      rcases hw k hk with e | e <;> rw [e]
      · exact ⟨y, r, ey⟩
      · exact ⟨y, (hr k hk).symm.trans r, ey⟩
end
end Ab

/-! ## M2 -/
/-! M2: companies on nets of places: what can be reached, by spans -/
namespace Ab
/-- nets of places, one for each walker -/
structure Gr (I V : Type) where
  lv : I → V → Int
  adj : I → V → V → Prop
  sym : ∀ {i u v}, adj i u v → adj i v u
  near : ∀ {i u v}, adj i u v → lv i v ≤ lv i u + 1

/-- ways whose levels all keep B -/
inductive Rc {I V : Type} (G : Gr I V) (i : I) (B : Int → Prop) : V → V → Prop
  | nil {u : V} : B (G.lv i u) → Rc G i B u u
  | cons {u v x : V} : B (G.lv i u) → G.adj i u v → Rc G i B v x → Rc G i B u x

abbrev Bt (lo hi : Int) : Int → Prop := fun l => lo ≤ l ∧ l ≤ hi
abbrev Ge (lo : Int) : Int → Prop := fun l => lo ≤ l
abbrev Le (hi : Int) : Int → Prop := fun l => l ≤ hi

section
variable {I V : Type} {G : Gr I V} {i : I} {B B' : Int → Prop} {u v x : V}
theorem Rc.fst (h : Rc G i B u v) : B (G.lv i u) := by cases h <;> assumption
theorem Rc.snd (h : Rc G i B u v) : B (G.lv i v) := by
  induction h with
  | nil h => exact h
  | cons _ _ _ ih => exact ih
theorem Rc.trans (h : Rc G i B u v) (g : Rc G i B v x) : Rc G i B u x := by
  induction h with
  | nil _ => exact g
  | cons h a _ ih => exact .cons h a (ih g)
theorem Rc.symm (h : Rc G i B u v) : Rc G i B v u := by
  induction h with
  | nil h => exact .nil h
  | cons h a t ih => exact ih.trans (.cons t.fst (G.sym a) (.nil h))
theorem Rc.mono (h : Rc G i B u v) (hb : ∀ l, B l → B' l) : Rc G i B' u v := by
  induction h with
  | nil h => exact .nil (hb _ h)
  | cons h a _ ih => exact .cons (hb _ h) a ih
theorem Rc.snoc (h : Rc G i B u v) (a : G.adj i v x) (hx : B (G.lv i x)) : Rc G i B u x := h.trans (.cons h.snd a (.nil hx))
/-- the first time at a level, going up -/
theorem Rc.reach_up {lo hi s : Int} (hs : 0 ≤ s) (h : Rc G i (Ge lo) u v) (hv : hi ≤ G.lv i v) : G.lv i u ≤ hi + s → ∃ x, Rc G i (Bt lo (hi + s)) u x ∧ hi ≤ G.lv i x := by
  induction h with
  | nil h => exact fun hu => ⟨_, .nil ⟨h, hu⟩, hv⟩
  | @cons u w v h a t ih =>
    intro hu
    by_cases e : hi ≤ G.lv i u
    · exact ⟨u, .nil ⟨h, hu⟩, e⟩
    · have := G.near a
      obtain ⟨x, r, hx⟩ := ih hv (by omega)
      exact ⟨x, .cons ⟨h, hu⟩ a r, hx⟩
theorem Rc.reach_down {lo hi s : Int} (hs : 0 ≤ s) (h : Rc G i (Le (hi + s)) u v) (hv : G.lv i v ≤ lo + s) : lo ≤ G.lv i u → ∃ x, Rc G i (Bt lo (hi + s)) u x ∧ G.lv i x ≤ lo + s := by
  induction h with
  | nil h => exact fun hu => ⟨_, .nil ⟨hu, h⟩, hv⟩
  | @cons u w v h a t ih =>
    intro hu
    by_cases e : G.lv i u ≤ lo + s
    · exact ⟨u, .nil ⟨hu, h⟩, e⟩
    · have := G.near (G.sym a)
      obtain ⟨x, r, hx⟩ := ih hv (by omega)
      exact ⟨x, .cons ⟨hu, h⟩ a r, hx⟩
end

section
variable {I V : Type} [DecidableEq I] (G : Gr I V) (L : List I) (s : Int)
/-- all levels within the spread -/
def Fits (p : I → V) : Prop := ∀ i ∈ L, ∀ j ∈ L, G.lv i (p i) - G.lv j (p j) ≤ s
/-- one move of the search -/
inductive Mv : (I → V) → (I → V) → Prop
  | one {p q : I → V} (i : I) : i ∈ L → G.adj i (p i) (q i) → (0 < s ∨ G.lv i (q i) = G.lv i (p i)) → (∀ k ∈ L, k ≠ i → q k = p k) → Mv p q
  | up {p q : I → V} : s = 0 → (∀ i ∈ L, G.adj i (p i) (q i) ∧ G.lv i (q i) = G.lv i (p i) + 1) → Mv p q
  | down {p q : I → V} : s = 0 → (∀ i ∈ L, G.adj i (p i) (q i) ∧ G.lv i (q i) = G.lv i (p i) - 1) → Mv p q
inductive Cn : (I → V) → (I → V) → Prop
  | refl {p q : I → V} : (∀ i ∈ L, p i = q i) → Cn p q
  | step {p q r : I → V} : Mv G L s p q → Fits G L s q → Cn q r → Cn p r
end

section
variable {I V : Type} [DecidableEq I] {G : Gr I V} {L : List I} {s : Int} {p q r : I → V}
theorem Mv.symm (h : Mv G L s p q) : Mv G L s q p := by
  cases h with
  | one i hi a e ho => exact .one i hi (G.sym a) (e.imp id Eq.symm) fun k hk hne => (ho k hk hne).symm
  | up e h => exact .down e fun i hi => ⟨G.sym (h i hi).1, by have := (h i hi).2; omega⟩
  | down e h => exact .up e fun i hi => ⟨G.sym (h i hi).1, by have := (h i hi).2; omega⟩
theorem Mv.congr {p' q' : I → V} (h : Mv G L s p q) (ep : ∀ i ∈ L, p' i = p i) (eq : ∀ i ∈ L, q' i = q i) : Mv G L s p' q' := by
  cases h with
  | one i hi a e ho => exact .one i hi (by rw [ep i hi, eq i hi]; exact a) (by rw [ep i hi, eq i hi]; exact e) fun k hk hne => by rw [ep k hk, eq k hk]; exact ho k hk hne
  | up e h => exact .up e fun i hi => by rw [ep i hi, eq i hi]; exact h i hi
  | down e h => exact .down e fun i hi => by rw [ep i hi, eq i hi]; exact h i hi
theorem Fits.congr (h : Fits G L s p) (e : ∀ i ∈ L, q i = p i) : Fits G L s q := fun i hi j hj => by rw [e i hi, e j hj]; exact h i hi j hj
theorem Cn.trans (h : Cn G L s p q) (g : Cn G L s q r) : Cn G L s p r := by
  induction h with
  | @refl p q e =>
    cases g with
    | refl e' => exact .refl fun i hi => (e i hi).trans (e' i hi)
    | step m f g => exact .step (m.congr e fun _ _ => rfl) f g
  | step m f _ ih => exact .step m f (ih g)
theorem Cn.rfl' : Cn G L s p p := .refl fun _ _ => rfl
theorem Cn.fits (h : Cn G L s p q) : Fits G L s p → Fits G L s q := by
  induction h with
  | refl e => exact fun f => f.congr fun i hi => (e i hi).symm
  | step _ f _ ih => exact fun _ => ih f
theorem Cn.symm (h : Cn G L s p q) : Fits G L s p → Cn G L s q p := by
  induction h with
  | refl e => exact fun _ => .refl fun i hi => (e i hi).symm
  | step m f _ ih => exact fun fp => (ih f).trans (.step m.symm fp .rfl')
theorem Cn.snoc (h : Cn G L s p q) (m : Mv G L s q r) (f : Fits G L s r) : Cn G L s p r := h.trans (.step m f .rfl')

/-! ### the line as a walker's level -/
def okW (G : Gr I V) (s : Int) (i : I) (w : V × Int) : Prop := w.2 ≤ G.lv i w.1 ∧ G.lv i w.1 ≤ w.2 + s
def WS (G : Gr I V) (s : Int) : Sys I (V × Int) where
  lv := fun _ w => w.2
  F := fun i u v => v.2 = u.2 ∧ G.adj i u.1 v.1 ∧ okW G s i u ∧ okW G s i v
  R := fun i u v => v.2 = u.2 + 1 ∧ (u.1 = v.1 ∨ (s = 0 ∧ G.adj i u.1 v.1)) ∧ okW G s i u ∧ okW G s i v
  flv := fun h => h.1
  fsy := fun h => ⟨h.1.symm, G.sym h.2.1, h.2.2.2, h.2.2.1⟩
  rlv := fun h => h.1
theorem fits_of {u : I → V × Int} {t : Int} (h : ∀ i ∈ L, (u i).2 = t ∧ okW G s i (u i)) : Fits G L s fun i => (u i).1 := fun i hi j hj => by
  obtain ⟨e1, a, b⟩ := h i hi
  obtain ⟨e2, c, d⟩ := h j hj
  rw [e1] at a b; rw [e2] at c d
  show G.lv i (u i).1 - G.lv j (u j).1 ≤ s
  omega
theorem jo_cn {u v : I → V × Int} (hs : 0 ≤ s) (h : Jo (WS G s) L u v) : (∃ t, ∀ i ∈ L, (u i).2 = t ∧ okW G s i (u i)) → Cn G L s (fun i => (u i).1) (fun i => (v i).1) := by
  have rise : ∀ {u x : I → V × Int}, (∃ t, ∀ i ∈ L, (u i).2 = t ∧ okW G s i (u i)) → (∀ i ∈ L, (WS G s).R i (u i) (x i)) → Cn G L s (fun i => (u i).1) (fun i => (x i).1) ∧ ∃ t, ∀ i ∈ L, (x i).2 = t ∧ okW G s i (x i) := by
    intro u x ⟨t, h⟩ hr
    have hx : ∀ i ∈ L, (x i).2 = t + 1 ∧ okW G s i (x i) := fun i hi => ⟨by have e := (hr i hi).1; rw [(h i hi).1] at e; exact e, (hr i hi).2.2.2⟩
    refine ⟨?_, t + 1, hx⟩
    by_cases e0 : s = 0
    · refine .step (.up e0 fun i hi => ?_) (fits_of hx) .rfl'
      obtain ⟨e1, a, b⟩ := h i hi
      obtain ⟨e2, c, d⟩ := hx i hi
      rw [e1] at a b; rw [e2] at c d
      rcases (hr i hi).2.1 with e | ⟨_, e⟩
      · rw [e] at a b; omega
      · exact ⟨e, by show G.lv i (x i).1 = G.lv i (u i).1 + 1; omega⟩
    · refine .refl fun i hi => ?_
      rcases (hr i hi).2.1 with e | ⟨e, _⟩
      · exact e
      · exact absurd e e0
  induction h with
  | refl e => exact fun _ => .refl fun i hi => by rw [e i hi]
  | @flat u v x i hi hf ho _ ih =>
    intro ⟨t, h⟩
    have hv : ∀ k ∈ L, (v k).2 = t ∧ okW G s k (v k) := fun k hk => by
      by_cases e : k = i
      · subst e; exact ⟨hf.1.trans (h k hk).1, hf.2.2.2⟩
      · rw [ho k hk e]; exact h k hk
    refine Cn.trans (q := fun i => (v i).1) ?_ (ih ⟨t, hv⟩)
    refine .step (.one i hi hf.2.1 ?_ fun k hk e => by show (v k).1 = (u k).1; rw [ho k hk e]) (fits_of hv) .rfl'
    by_cases e0 : s = 0
    · obtain ⟨e1, a, b⟩ := h i hi
      obtain ⟨e2, c, d⟩ := hv i hi
      rw [e1] at a b; rw [e2] at c d
      exact .inr (by show G.lv i (v i).1 = G.lv i (u i).1; omega)
    · exact .inl (by omega)
  | @up u v x hr _ ih =>
    intro hu
    obtain ⟨c, h'⟩ := rise hu hr
    exact c.trans (ih h')
  | @down u v x hr _ ih =>
    intro ⟨t, h⟩
    have hv : ∃ t, ∀ i ∈ L, (v i).2 = t ∧ okW G s i (v i) := ⟨t - 1, fun i hi => ⟨by have e := (hr i hi).1; rw [(h i hi).1] at e; omega, (hr i hi).2.2.1⟩⟩
    obtain ⟨c, _⟩ := rise hv hr
    obtain ⟨t', hv'⟩ := hv
    exact (c.symm (fits_of hv')).trans (ih ⟨t', hv'⟩)

/-- the line moves, the walker stands -/
theorem slide {i : I} {lo hi : Int} {v : V} : ∀ (n : Nat) (t t' : Int), t' = t + n → lo ≤ t → t' ≤ hi → okW G s i (v, t) → okW G s i (v, t') → Re (WS G s) i lo hi (v, t) (v, t') := by
  intro n
  induction n with
  | zero =>
    intro t t' e h1 h2 _ _
    have e : t' = t := by omega
    subst e
    exact .rfl' h1 h2
  | succ n ih =>
    intro t t' e h1 h2 ⟨a, b⟩ ⟨c, d⟩
    dsimp only at a b c d
    have ok1 : okW G s i (v, t + 1) := ⟨by show t + 1 ≤ G.lv i v; omega, by show G.lv i v ≤ t + 1 + s; omega⟩
    refine Re.trans (.step (v := (v, t + 1)) h1 (by show t ≤ hi; omega) (by show lo ≤ t + 1; omega) (by show t + 1 ≤ hi; omega) (.inr (.inl ⟨rfl, .inl rfl, ⟨a, b⟩, ok1⟩))) (ih (t + 1) t' (by omega) (by omega) h2 ok1 ⟨c, d⟩)
theorem slide' {i : I} {lo hi : Int} {v : V} {t t' : Int} (h1 : lo ≤ t) (h2 : t ≤ hi) (h3 : lo ≤ t') (h4 : t' ≤ hi) (a : okW G s i (v, t)) (b : okW G s i (v, t')) : Re (WS G s) i lo hi (v, t) (v, t') := by
  rcases Int.le_total t t' with h | h
  · exact slide (t' - t).toNat t t' (by omega) h1 h4 a b
  · exact (slide (t - t').toNat t' t (by omega) h3 h2 b a).symm
theorem rc_re (hs : 0 ≤ s) {i : I} {lo hi : Int} {u v : V} (hl : lo ≤ hi) (h : Rc G i (Bt lo (hi + s)) u v) : ∀ t t', lo ≤ t → t ≤ hi → lo ≤ t' → t' ≤ hi → okW G s i (u, t) → okW G s i (v, t') → Re (WS G s) i lo hi (u, t) (v, t') := by
  induction h with
  | nil _ => exact fun t t' h1 h2 h3 h4 a b => slide' h1 h2 h3 h4 a b
  | @cons u w v hu a r ih =>
    intro t t' h1 h2 h3 h4 ⟨k1, k2⟩ b
    dsimp only at k1 k2
    have n1 := G.near a
    have n2 := G.near (G.sym a)
    obtain ⟨w1, w2⟩ := r.fst
    obtain ⟨u1, u2⟩ := hu
    by_cases e0 : s = 0
    · -- the line goes with the walker
      have kw : okW G s i (w, G.lv i w) := ⟨Int.le_refl _, by show G.lv i w ≤ G.lv i w + s; omega⟩
      refine Re.trans (v := (w, G.lv i w)) ?_ (ih _ t' w1 (by omega) h3 h4 kw b)
      have e : t = G.lv i u := by omega
      subst e
      have ku : okW G s i (u, G.lv i u) := ⟨Int.le_refl _, by show G.lv i u ≤ G.lv i u + s; omega⟩
      refine .step h1 h2 (by show lo ≤ G.lv i w; omega) (by show G.lv i w ≤ hi; omega) ?_
      rcases Int.lt_trichotomy (G.lv i w) (G.lv i u) with h | h | h
      · exact .inr (.inr ⟨by show G.lv i u = G.lv i w + 1; omega, .inr ⟨e0, G.sym a⟩, kw, ku⟩)
      · exact .inl ⟨h, a, ku, kw⟩
      · exact .inr (.inl ⟨by show G.lv i w = G.lv i u + 1; omega, .inr ⟨e0, a⟩, ku, kw⟩)
    · obtain ⟨t0, c1, c2, c3, c4, c5, c6⟩ : ∃ t0, lo ≤ t0 ∧ t0 ≤ hi ∧ t0 ≤ G.lv i u ∧ G.lv i u ≤ t0 + s ∧ t0 ≤ G.lv i w ∧ G.lv i w ≤ t0 + s := by
        by_cases h : G.lv i u ≤ hi ∧ G.lv i w ≤ hi
        · by_cases h' : G.lv i u ≤ G.lv i w
          · exact ⟨G.lv i u, by omega, by omega, by omega, by omega, by omega, by omega⟩
          · exact ⟨G.lv i w, by omega, by omega, by omega, by omega, by omega, by omega⟩
        · by_cases h' : hi ≤ G.lv i u ∧ hi ≤ G.lv i w
          · exact ⟨hi, by omega, by omega, by omega, by omega, by omega, by omega⟩
          · by_cases h'' : G.lv i u ≤ G.lv i w
            · exact ⟨G.lv i u, by omega, by omega, by omega, by omega, by omega, by omega⟩
            · exact ⟨G.lv i w, by omega, by omega, by omega, by omega, by omega, by omega⟩
      refine Re.trans (v := (u, t0)) (slide' h1 h2 c1 c2 ⟨k1, k2⟩ ⟨c3, c4⟩) (Re.trans (v := (w, t0)) (.step c1 c2 c1 c2 (.inl ⟨rfl, a, ⟨c3, c4⟩, ⟨c5, c6⟩⟩)) (ih t0 t' c1 c2 h3 h4 ⟨c5, c6⟩ b))

/-! ### spans -/
/-- from here the walker can come to the lower and to the upper end -/
def Tch (G : Gr I V) (s : Int) (i : I) (lo hi : Int) (u : V) : Prop := (∃ v, Rc G i (Bt lo (hi + s)) u v ∧ G.lv i v ≤ lo + s) ∧ ∃ v, Rc G i (Bt lo (hi + s)) u v ∧ hi ≤ G.lv i v
theorem Tch.move {i : I} {lo hi : Int} {u v : V} (h : Tch G s i lo hi u) (r : Rc G i (Bt lo (hi + s)) u v) : Tch G s i lo hi v := by
  obtain ⟨⟨x, a, b⟩, y, c, d⟩ := h
  exact ⟨⟨x, r.symm.trans a, b⟩, y, r.symm.trans c, d⟩
/-- the stand has the window t -/
def At (G : Gr I V) (L : List I) (s : Int) (t : Int) (q : I → V) : Prop := ∀ i ∈ L, t ≤ G.lv i (q i) ∧ G.lv i (q i) ≤ t + s
theorem At.fits {t : Int} (h : At G L s t q) : Fits G L s q := fun i hi j hj => by
  have := h i hi; have := h j hj; omega
theorem climbV (hs : 0 ≤ s) {lo hi t t' : Int} (hl : lo ≤ hi) (ht : t = lo ∨ t = hi) (ht' : t' = lo ∨ t' = hi) (hp : At G L s t p) (hq : At G L s t' q)
    (hr : ∀ i ∈ L, Rc G i (Bt lo (hi + s)) (p i) (q i)) (hT : ∀ i ∈ L, Tch G s i lo hi (p i)) : Cn G L s p q := by
  have b1 : lo ≤ t ∧ t ≤ hi := by omega
  have b2 : lo ≤ t' ∧ t' ≤ hi := by omega
  have j : Jo (WS G s) L (fun i => (p i, t)) (fun i => (q i, t')) := by
    refine climb hl ?_ ?_ (fun i hi => rc_re hs hl (hr i hi) t t' b1.1 b1.2 b2.1 b2.2 (hp i hi) (hq i hi)) (fun i hi' => ?_) (fun i hi' => ?_)
    · rcases ht with e | e
      · exact .inl fun _ _ => e
      · exact .inr fun _ _ => e
    · rcases ht' with e | e
      · exact .inl fun _ _ => e
      · exact .inr fun _ _ => e
    · obtain ⟨⟨v, r, e⟩, _⟩ := hT i hi'
      exact ⟨(v, lo), rc_re hs hl r t lo b1.1 b1.2 (Int.le_refl _) hl (hp i hi') ⟨r.snd.1, e⟩, rfl⟩
    · obtain ⟨_, v, r, e⟩ := hT i hi'
      exact ⟨(v, hi), rc_re hs hl r t hi b1.1 b1.2 hl (Int.le_refl _) (hp i hi') ⟨e, r.snd.2⟩, rfl⟩
  exact jo_cn hs j ⟨t, fun i hi => ⟨rfl, hp i hi⟩⟩

/-- what the loop keeps: A's walkers stand at their places, the others wherever they are wanted -/
structure Inv (G : Gr I V) (L : List I) (s : Int) (A : I → Prop) (pl : I → V) (lo hi : Int) : Prop where
  le : lo ≤ hi
  tch : ∀ j ∈ L, A j → Tch G s j lo hi (pl j)
  ext : ∀ r : I → V, (∀ k ∈ L, ¬ A k → Tch G s k lo hi (r k)) → ∃ q : I → V, Fits G L s q ∧ (∀ j ∈ L, A j → q j = pl j) ∧ (∀ k ∈ L, ¬ A k → Rc G k (Bt lo (hi + s)) (r k) (q k)) ∧
    ∀ t e, (t = lo ∨ t = hi) → At G L s t e → (∀ i ∈ L, Rc G i (Bt lo (hi + s)) (q i) (e i)) → Cn G L s q e

theorem Inv.start (hs : 0 ≤ s) {A : I → Prop} {pl : I → V} {lo hi : Int} (hl : lo ≤ hi) (hw : ∀ j ∈ L, A j → hi ≤ G.lv j (pl j) ∧ G.lv j (pl j) ≤ lo + s) : Inv G L s A pl lo hi := by
  have tp : ∀ j ∈ L, A j → Tch G s j lo hi (pl j) := fun j hj a => by
    obtain ⟨h1, h2⟩ := hw j hj a
    have r : Rc G j (Bt lo (hi + s)) (pl j) (pl j) := .nil ⟨by omega, by omega⟩
    exact ⟨⟨_, r, h2⟩, _, r, h1⟩
  refine ⟨hl, tp, fun r hr => ?_⟩
  have pick : ∀ k ∈ L, ∃ x, (A k → x = pl k) ∧ (¬ A k → Rc G k (Bt lo (hi + s)) (r k) x ∧ G.lv k x ≤ lo + s) := fun k hk => by
    by_cases a : A k
    · exact ⟨pl k, fun _ => rfl, fun n => absurd a n⟩
    · obtain ⟨⟨v, h1, h2⟩, _⟩ := hr k hk a
      exact ⟨v, fun n => absurd n a, fun _ => ⟨h1, h2⟩⟩
  obtain ⟨q, hq⟩ := choiceL r pick
  have hat : At G L s lo q := fun k hk => by
    by_cases a : A k
    · rw [(hq k hk).1 a]
      have := hw k hk a
      omega
    · obtain ⟨h1, h2⟩ := (hq k hk).2 a
      exact ⟨h1.snd.1, h2⟩
  have hT : ∀ k ∈ L, Tch G s k lo hi (q k) := fun k hk => by
    by_cases a : A k
    · rw [(hq k hk).1 a]; exact tp k hk a
    · exact (hr k hk a).move ((hq k hk).2 a).1
  exact ⟨q, hat.fits, fun j hj a => (hq j hj).1 a, fun k hk a => ((hq k hk).2 a).1, fun t e ht he hre => climbV hs hl (.inl rfl) ht hat he hre hT⟩

theorem Inv.up (hs : 0 ≤ s) {A : I → Prop} {pl : I → V} {lo hi hi' : Int} (J : Inv G L s A pl lo hi) (hh : hi ≤ hi') (hw : ∀ j ∈ L, A j → ∃ v, Rc G j (Ge lo) (pl j) v ∧ hi' ≤ G.lv j v) : Inv G L s A pl lo hi' := by
  have hl := J.le
  have wid : ∀ {k : I} {x y : V}, Rc G k (Bt lo (hi + s)) x y → Rc G k (Bt lo (hi' + s)) x y := fun h => h.mono fun l hl => ⟨hl.1, by have := hl.2; omega⟩
  have tp : ∀ j ∈ L, A j → Tch G s j lo hi' (pl j) := fun j hj a => by
    obtain ⟨⟨v, h1, h2⟩, _⟩ := J.tch j hj a
    obtain ⟨x, h3, h4⟩ := hw j hj a
    obtain ⟨y, h5, h6⟩ := h3.reach_up hs h4 (by have := h1.fst.2; omega)
    exact ⟨⟨v, wid h1, h2⟩, y, h5, h6⟩
  refine ⟨by omega, tp, fun r hr => ?_⟩
  -- the others begin at a low point
  have pick : ∀ k ∈ L, ∃ x, ¬ A k → Rc G k (Bt lo (hi' + s)) (r k) x ∧ Tch G s k lo hi x := fun k hk => by
    by_cases a : A k
    · exact ⟨r k, fun n => absurd a n⟩
    · obtain ⟨⟨v, h1, h2⟩, x, h3, h4⟩ := hr k hk a
      have h5 : Rc G k (Ge lo) v x := (h1.symm.trans h3).mono fun l hl => hl.1
      have hv : lo ≤ G.lv k v := h1.snd.1
      obtain ⟨y, h6, h7⟩ := h5.reach_up (hi := hi) hs (by omega) (by omega)
      exact ⟨v, fun _ => ⟨h1, ⟨v, .nil ⟨hv, by omega⟩, h2⟩, y, h6, h7⟩⟩
  obtain ⟨r', hr'⟩ := choiceL r pick
  obtain ⟨q, q1, q2, q3, q4⟩ := J.ext r' fun k hk a => (hr' k hk a).2
  have tq : ∀ k ∈ L, Tch G s k lo hi (q k) := fun k hk => by
    by_cases a : A k
    · rw [q2 k hk a]; exact J.tch k hk a
    · exact (hr' k hk a).2.move (q3 k hk a)
  have tq' : ∀ k ∈ L, Tch G s k lo hi' (q k) := fun k hk => by
    by_cases a : A k
    · rw [q2 k hk a]; exact tp k hk a
    · exact (hr k hk a).move ((hr' k hk a).1.trans (wid (q3 k hk a)))
  obtain ⟨x, hx⟩ := choiceL q fun k hk => (tq k hk).1
  have xa : At G L s lo x := fun k hk => ⟨(hx k hk).1.snd.1, (hx k hk).2⟩
  have cx : Cn G L s q x := q4 lo x (.inl rfl) xa fun k hk => (hx k hk).1
  refine ⟨q, q1, q2, fun k hk a => (hr' k hk a).1.trans (wid (q3 k hk a)), fun t e ht he hre => cx.trans (climbV hs (by omega) (.inl rfl) ht xa he (fun k hk => (wid (hx k hk).1).symm.trans (hre k hk)) fun k hk => (tq' k hk).move (wid (hx k hk).1))⟩

theorem Inv.down (hs : 0 ≤ s) {A : I → Prop} {pl : I → V} {lo lo' hi : Int} (J : Inv G L s A pl lo hi) (hh : lo' ≤ lo) (hw : ∀ j ∈ L, A j → ∃ v, Rc G j (Le (hi + s)) (pl j) v ∧ G.lv j v ≤ lo' + s) : Inv G L s A pl lo' hi := by
  have hl := J.le
  have wid : ∀ {k : I} {x y : V}, Rc G k (Bt lo (hi + s)) x y → Rc G k (Bt lo' (hi + s)) x y := fun h => h.mono fun l hl => ⟨by have := hl.1; omega, hl.2⟩
  have tp : ∀ j ∈ L, A j → Tch G s j lo' hi (pl j) := fun j hj a => by
    obtain ⟨_, v, h1, h2⟩ := J.tch j hj a
    obtain ⟨x, h3, h4⟩ := hw j hj a
    obtain ⟨y, h5, h6⟩ := h3.reach_down hs h4 (by have := h1.fst.1; omega)
    exact ⟨⟨y, h5, h6⟩, v, wid h1, h2⟩
  refine ⟨by omega, tp, fun r hr => ?_⟩
  have pick : ∀ k ∈ L, ∃ x, ¬ A k → Rc G k (Bt lo' (hi + s)) (r k) x ∧ Tch G s k lo hi x := fun k hk => by
    by_cases a : A k
    · exact ⟨r k, fun n => absurd a n⟩
    · obtain ⟨⟨x, h3, h4⟩, v, h1, h2⟩ := hr k hk a
      have h5 : Rc G k (Le (hi + s)) v x := (h1.symm.trans h3).mono fun l hl => hl.2
      have hv : G.lv k v ≤ hi + s := h1.snd.2
      obtain ⟨y, h6, h7⟩ := h5.reach_down (lo := lo) hs (by omega) (by omega)
      exact ⟨v, fun _ => ⟨h1, ⟨y, h6, h7⟩, v, .nil ⟨by omega, hv⟩, h2⟩⟩
  obtain ⟨r', hr'⟩ := choiceL r pick
  obtain ⟨q, q1, q2, q3, q4⟩ := J.ext r' fun k hk a => (hr' k hk a).2
  have tq : ∀ k ∈ L, Tch G s k lo hi (q k) := fun k hk => by
    by_cases a : A k
    · rw [q2 k hk a]; exact J.tch k hk a
    · exact (hr' k hk a).2.move (q3 k hk a)
  have tq' : ∀ k ∈ L, Tch G s k lo' hi (q k) := fun k hk => by
    by_cases a : A k
    · rw [q2 k hk a]; exact tp k hk a
    · exact (hr k hk a).move ((hr' k hk a).1.trans (wid (q3 k hk a)))
  obtain ⟨x, hx⟩ := choiceL q fun k hk => (tq k hk).2
  have xa : At G L s hi x := fun k hk => ⟨(hx k hk).2, (hx k hk).1.snd.2⟩
  have cx : Cn G L s q x := q4 hi x (.inr rfl) xa fun k hk => (hx k hk).1
  refine ⟨q, q1, q2, fun k hk a => (hr' k hk a).1.trans (wid (q3 k hk a)), fun t e ht he hre => cx.trans (climbV hs (by omega) (.inr rfl) ht xa he (fun k hk => (wid (hx k hk).1).symm.trans (hre k hk)) fun k hk => (tq' k hk).move (wid (hx k hk).1))⟩

/-! ### bounds -/
def Lid (G : Gr I V) (L : List I) (q : I → V) (lo hi : Int) : Prop := ∃ i ∈ L, ∀ v, Rc G i (Ge lo) (q i) v → G.lv i v ≤ hi
def Flo (G : Gr I V) (L : List I) (s : Int) (q : I → V) (lo hi : Int) : Prop := ∃ j ∈ L, ∀ v, Rc G j (Le (hi + s)) (q j) v → lo + s ≤ G.lv j v
theorem stays (hs : 0 ≤ s) {lo hi : Int} (hp : ∀ i ∈ L, lo ≤ G.lv i (p i) ∧ G.lv i (p i) ≤ hi + s) (fp : Fits G L s p) (hL : Lid G L p lo hi) (hF : Flo G L s p lo hi) (h : Cn G L s p q) : ∀ i ∈ L, Rc G i (Bt lo (hi + s)) (p i) (q i) := by
  obtain ⟨a, ha, hL⟩ := hL
  obtain ⟨b, hb, hF⟩ := hF
  have key : ∀ {x y : I → V}, Cn G L s x y → Fits G L s x → (∀ i ∈ L, Rc G i (Bt lo (hi + s)) (p i) (x i)) → ∀ i ∈ L, Rc G i (Bt lo (hi + s)) (p i) (y i) := by
    intro x y c
    induction c with
    | refl e => exact fun _ h i hi => by rw [← e i hi]; exact h i hi
    | @step x y z m f _ ih =>
      intro fx hx
      refine ih f fun i hi' => ?_
      have xa : G.lv a (x a) ≤ hi := hL _ ((hx a ha).mono fun l h => h.1)
      have xb : lo + s ≤ G.lv b (x b) := hF _ ((hx b hb).mono fun l h => h.2)
      cases m with
      | one k hk ad e ho =>
        by_cases ei : i = k
        · subst ei
          refine (hx i hi').snoc ad ⟨?_, ?_⟩
          · by_cases eb : i = b
            · subst eb
              have := G.near (G.sym ad)
              omega
            · have h1 := f b hb i hi'
              rw [ho b hb (Ne.symm eb)] at h1
              omega
          · by_cases ea : i = a
            · subst ea
              have := G.near ad
              omega
            · have h1 := f i hi' a ha
              rw [ho a ha (Ne.symm ea)] at h1
              omega
        · rw [ho i hi' ei]; exact hx i hi'
      | up e0 h =>
        have ya : G.lv a (y a) ≤ hi := by
          refine hL _ (((hx a ha).mono fun l h => h.1).snoc (h a ha).1 ?_)
          show lo ≤ G.lv a (y a)
          have := (h a ha).2
          have := (hx a ha).snd.1
          omega
        have h1 := (h i hi').2
        have h2 := f i hi' a ha
        have h3 := (hx i hi').snd.1
        exact (hx i hi').snoc (h i hi').1 ⟨by omega, by omega⟩
      | down e0 h =>
        have yb : lo + s ≤ G.lv b (y b) := by
          refine hF _ (((hx b hb).mono fun l h => h.2).snoc (h b hb).1 ?_)
          show G.lv b (y b) ≤ hi + s
          have := (h b hb).2
          have := (hx b hb).snd.2
          omega
        have h1 := (h i hi').2
        have h2 := f b hb i hi'
        have h3 := (hx i hi').snd.2
        exact (hx i hi').snoc (h i hi').1 ⟨by omega, by omega⟩
  exact key h fp fun i hi => .nil (hp i hi)

/-- the band of a stand -/
structure Band (G : Gr I V) (L : List I) (s : Int) (p : I → V) (a b : Int) : Prop where
  inv : Inv G L s (fun _ => True) p a b
  lid : Lid G L p a b
  flo : Flo G L s p a b
theorem Band.ext {a b : Int} (B : Band G L s p a b) : ∀ t e, (t = a ∨ t = b) → At G L s t e → (∀ i ∈ L, Rc G i (Bt a (b + s)) (p i) (e i)) → Cn G L s p e := by
  obtain ⟨q, _, q2, _, q4⟩ := B.inv.ext p fun k _ n => absurd trivial n
  intro t e ht he hr
  exact (Cn.refl fun i hi => (q2 i hi trivial).symm).trans (q4 t e ht he fun i hi => by rw [q2 i hi trivial]; exact hr i hi)
theorem Band.lv {a b : Int} (B : Band G L s p a b) : ∀ i ∈ L, a ≤ G.lv i (p i) ∧ G.lv i (p i) ≤ b + s := fun i hi => by
  obtain ⟨⟨_, h, _⟩, _⟩ := B.inv.tch i hi trivial
  exact h.fst
theorem Band.stays (hs : 0 ≤ s) {a b : Int} (B : Band G L s p a b) (fp : Fits G L s p) (h : Cn G L s p q) : ∀ i ∈ L, Rc G i (Bt a (b + s)) (p i) (q i) := Ab.stays hs B.lv fp B.lid B.flo h

theorem take_sound {A : I → Prop} {pl : I → V} {a b : Int} (fp : Fits G L s p) (B : Band G L s p a b) (W : Inv G L s A pl a b) (hj : ∀ j ∈ L, A j → Rc G j (Bt a (b + s)) (p j) (pl j)) :
    ∃ q, Cn G L s p q ∧ ∀ j ∈ L, A j → q j = pl j := by
  obtain ⟨q, q1, q2, q3, q4⟩ := W.ext p fun k hk _ => B.inv.tch k hk trivial
  have pq : ∀ k ∈ L, Rc G k (Bt a (b + s)) (p k) (q k) := fun k hk => by
    by_cases c : A k
    · rw [q2 k hk c]; exact hj k hk c
    · exact q3 k hk c
  obtain ⟨e, he⟩ := choiceL p fun k hk => (B.inv.tch k hk trivial).1
  have ea : At G L s a e := fun k hk => ⟨(he k hk).1.snd.1, (he k hk).2⟩
  exact ⟨q, (B.ext a e (.inl rfl) ea fun k hk => (he k hk).1).trans ((q4 a e (.inl rfl) ea fun k hk => (pq k hk).symm.trans (he k hk).1).symm q1), q2⟩

theorem take_end (hs : 0 ≤ s) {A : I → Prop} {pl : I → V} {a b lo hi : Int} (fp : Fits G L s p) (B : Band G L s p a b) (c : Cn G L s p q) (hq : ∀ j ∈ L, A j → q j = pl j)
    (h1 : a ≤ lo) (h2 : hi ≤ b)
    (hT : hi = b ∨ ∃ j ∈ L, A j ∧ ∀ v, Rc G j (Ge lo) (pl j) v → G.lv j v ≤ hi) (hD : lo = a ∨ ∃ j ∈ L, A j ∧ ∀ v, Rc G j (Le (hi + s)) (pl j) v → lo + s ≤ G.lv j v)
    (hw : ∀ j ∈ L, A j → lo ≤ G.lv j (pl j) ∧ G.lv j (pl j) ≤ hi + s) : lo = a ∧ hi = b := by
  have pq := B.stays hs fp c
  have fq := c.fits fp
  have lidq : Lid G L q lo hi := by
    rcases hT with e | ⟨j, hj, aj, h⟩
    · obtain ⟨i, hi', h⟩ := B.lid
      exact ⟨i, hi', fun v r => by rw [e]; exact h v (((pq i hi').mono fun l h => h.1).trans (r.mono fun l (h : lo ≤ l) => show a ≤ l by omega))⟩
    · exact ⟨j, hj, fun v r => h v (by rw [← hq j hj aj]; exact r)⟩
  have floq : Flo G L s q lo hi := by
    rcases hD with e | ⟨j, hj, aj, h⟩
    · obtain ⟨i, hi', h⟩ := B.flo
      exact ⟨i, hi', fun v r => by rw [e]; exact h v (((pq i hi').mono fun l h => h.2).trans (r.mono fun l (h : l ≤ hi + s) => show l ≤ b + s by omega))⟩
    · exact ⟨j, hj, fun v r => h v (by rw [← hq j hj aj]; exact r)⟩
  have lvq : ∀ i ∈ L, lo ≤ G.lv i (q i) ∧ G.lv i (q i) ≤ hi + s := fun i hi' => by
    have bi := (pq i hi').snd
    constructor
    · rcases hD with e | ⟨j, hj, aj, h⟩
      · rw [e]; exact bi.1
      · have k1 := h _ (.nil (hw j hj aj).2)
        have k2 := fq j hj i hi'
        rw [hq j hj aj] at k2
        omega
    · rcases hT with e | ⟨j, hj, aj, h⟩
      · rw [e]; exact bi.2
      · have k1 := h _ (.nil (hw j hj aj).1)
        have k2 := fq i hi' j hj
        rw [hq j hj aj] at k2
        omega
  have back : ∀ e, Cn G L s p e → ∀ i ∈ L, Rc G i (Bt lo (hi + s)) (q i) (e i) := fun e ce => Ab.stays hs lvq fq lidq floq ((c.symm fp).trans ce)
  constructor
  · obtain ⟨e, he⟩ := choiceL p fun k hk => (B.inv.tch k hk trivial).1
    have ea : At G L s a e := fun k hk => ⟨(he k hk).1.snd.1, (he k hk).2⟩
    have ce := B.ext a e (.inl rfl) ea fun k hk => (he k hk).1
    obtain ⟨j, hj, h⟩ := floq
    have := h _ ((back e ce j hj).mono fun l h => h.2)
    have := (ea j hj).2
    omega
  · obtain ⟨e, he⟩ := choiceL p fun k hk => (B.inv.tch k hk trivial).2
    have ea : At G L s b e := fun k hk => ⟨(he k hk).2, (he k hk).1.snd.2⟩
    have ce := B.ext b e (.inr rfl) ea fun k hk => (he k hk).1
    obtain ⟨i, hi', h⟩ := lidq
    have := h _ ((back e ce i hi').mono fun l h => h.1)
    have := (ea i hi').1
    omega

/-! ### greater spreads -/
theorem Mv.more {s' : Int} (hs : 0 ≤ s) (h : s ≤ s') (fp : Fits G L s p) (fq : Fits G L s q) (m : Mv G L s p q) : Cn G L s' p q := by
  have wid : ∀ {x : I → V}, Fits G L s x → Fits G L s' x := fun f i hi j hj => by have := f i hi j hj; omega
  have seq : s = 0 → (∀ i ∈ L, G.adj i (p i) (q i)) → (∀ i ∈ L, ∀ j ∈ L, G.lv i (q i) - G.lv i (p i) = G.lv j (q j) - G.lv j (p j)) → 0 < s' → Cn G L s' p q := by
    intro e0 ad eq h0
    refine coordsT (T := Cn G L s') (fun _ _ e => .refl e) (fun _ _ _ a b => a.trans b) fun w hw i hi e => ?_
    refine .step (.one i hi (by rw [put_same, e]; exact ad i hi) (.inl h0) fun k hk hne => put_ne hne) ?_ .rfl'
    have lvs : ∀ k ∈ L, G.lv k (put w i (q i) k) = G.lv k (p k) ∨ G.lv k (put w i (q i) k) = G.lv k (q k) := fun k hk => by
      by_cases ek : k = i
      · subst ek; rw [put_same]; exact .inr rfl
      · rw [put_ne ek]
        rcases hw k hk with e | e <;> rw [e]
        · exact .inl rfl
        · exact .inr rfl
    intro x hx y hy
    have a1 := fp x hx y hy
    have a2 := fp y hy x hx
    have a3 := eq x hx y hy
    have a4 := G.near (ad x hx)
    have a5 := G.near (G.sym (ad x hx))
    rcases lvs x hx with e1 | e1 <;> rcases lvs y hy with e2 | e2 <;> rw [e1, e2] <;> omega
  by_cases e : s' = s
  · subst e; exact .step m fq .rfl'
  · cases m with
    | one i hi a c ho => exact .step (.one i hi a (.inl (by omega)) ho) (wid fq) .rfl'
    | up e0 h =>
      refine seq e0 (fun i hi => (h i hi).1) (fun i hi j hj => ?_) (by omega)
      have := (h i hi).2; have := (h j hj).2; omega
    | down e0 h =>
      refine seq e0 (fun i hi => (h i hi).1) (fun i hi j hj => ?_) (by omega)
      have := (h i hi).2; have := (h j hj).2; omega
theorem Cn.more {s' : Int} (hs : 0 ≤ s) (h : s ≤ s') (c : Cn G L s p q) : Fits G L s p → Cn G L s' p q := by
  induction c with
  | refl e => exact fun _ => .refl e
  | step m f _ ih => exact fun fp => (m.more hs h fp f).trans (ih f)
theorem Cn.joined (c : Cn G L s p q) : ∀ i ∈ L, Rc G i (fun _ => True) (p i) (q i) := by
  induction c with
  | refl e => exact fun i hi => by rw [e i hi]; exact .nil trivial
  | @step p q r m f _ ih =>
    intro i hi
    refine Rc.trans ?_ (ih i hi)
    cases m with
    | one k hk a c ho =>
      by_cases e : i = k
      · subst e; exact .cons trivial a (.nil trivial)
      · rw [ho i hi e]; exact .nil trivial
    | up _ h => exact .cons trivial (h i hi).1 (.nil trivial)
    | down _ h => exact .cons trivial (h i hi).1 (.nil trivial)
/-- with a spread so great that all stands fit each goes for itself -/
theorem wide_all {N : I → V → Prop} (hadj : ∀ i ∈ L, ∀ u v, N i u → G.adj i u v → N i v) (hfit : ∀ x : I → V, (∀ i ∈ L, N i (x i)) → Fits G L s x) (h0 : 0 < s ∨ ∀ i ∈ L, ∀ u v, N i u → G.adj i u v → G.lv i v = G.lv i u)
    (hp : ∀ i ∈ L, N i (p i)) (hr : ∀ i ∈ L, Rc G i (fun _ => True) (p i) (q i)) : Cn G L s p q := by
  have one : ∀ {i : I} {u v : V}, Rc G i (fun _ => True) u v → i ∈ L → ∀ w : I → V, (∀ k ∈ L, N k (w k)) → w i = u → Cn G L s w (put w i v) := by
    intro i u v r hi
    induction r with
    | nil _ =>
      intro w _ e
      refine .refl fun k hk => ?_
      by_cases ek : k = i
      · subst ek; rw [put_same]; exact e
      · rw [put_ne ek]
    | @cons u x v _ a _ ih =>
      intro w hw e
      have hw' : ∀ k ∈ L, N k (put w i x k) := fun k hk => by
        by_cases ek : k = i
        · subst ek; rw [put_same]; exact hadj k hk u x (e ▸ hw k hk) a
        · rw [put_ne ek]; exact hw k hk
      have q := ih (put w i x) hw' put_same
      rw [put_put] at q
      refine .step (.one i hi (by rw [e, put_same]; exact a) (h0.imp id fun h => ?_) fun k hk hne => put_ne hne) (hfit _ hw') q
      rw [put_same, e]; exact h i hi u x (e ▸ hw i hi) a
  have Nq : ∀ {i : I} {u v : V}, Rc G i (fun _ => True) u v → i ∈ L → N i u → N i v := by
    intro i u v r hi
    induction r with
    | nil _ => exact id
    | cons _ a _ ih => exact fun h => ih (hadj i hi _ _ h a)
  refine coordsT (T := fun a b => (∀ i ∈ L, a i = p i ∨ a i = q i) → Cn G L s a b ∧ ∀ i ∈ L, b i = p i ∨ b i = q i) (fun a b e h => ⟨.refl e, fun i hi => by rw [← e i hi]; exact h i hi⟩)
    (fun a b c f g h => ⟨(f h).1.trans (g (f h).2).1, (g (f h).2).2⟩) (fun w hw i hi e _ => ⟨one (hr i hi) hi w (fun k hk => ?_) e, fun k hk => ?_⟩) (fun i _ => .inl rfl) |>.1
  · rcases hw k hk with e | e <;> rw [e]
    · exact hp k hk
    · exact Nq (hr k hk) hk (hp k hk)
  · by_cases ek : k = i
    · subst ek; rw [put_same]; exact .inr rfl
    · rw [put_ne ek]; exact hw k hk
end
end Ab

/-! ## R1 -/
set_option Elab.async false
set_option linter.all false
set_option maxRecDepth 100000
set_option maxHeartbeats 4000000
/-! R1: rules of our own: in and len by an own class's methods -/
namespace AbR
open PySem PySem.Spec PyProof.Rows L2
section
variable {X : Cx} {k : Nat} {C : Addr} {sp : Sp}
/-- a method of C, called by the interpreter itself -/
theorem met_run {A : Around} {pins : List (Addr × Obj)} {σ : L2.St} {H : Hp} {s : Shared} {f : Addr} {fd : FuncData} {ps : List Str} {us : List Value} {vs : List V} {Q : VK} {R : Value → Shared → Prop} {E' : Value → Shared → Prop}
    (F : FnOk X.prog X.w X.K X.mg X.base C8.CX0 k f fd ps sp) (hb : Binds X.K fd ps []) (hr : Room k A) (he : Env0 X.prog X.w X.K X.mg X.base A X.stack s H) (I : Inv X pins σ H s) (r : Vals vs us) (h : sp vs H Q C8.E0)
    (hR : ∀ v u H' s', Inv X pins σ H' s' → RelV v u → Q v H' → R u s') : wpAny (model X.prog X.w) A (call (.ref f) us) R E' s := by
  have hl : us.length = ps.length := by rw [← r.length]; exact F.len _ _ _ _ h
  refine wpAny_call (codeAny_mono (F.run A X.stack s H ⟨us, []⟩ us vs Q C8.E0 hr he (by
    have := hb s us I.kIn (by simpa using hl)
    simpa using this) r h) fun r s' hq => ?_)
  cases r with
  | error e => exact False.elim (C8.pass0 (X := X.nox) (E := C8.E0) pins σ H s e s' (I.wish _) hq)
  | ok fl =>
    cases fl with
    | ret w =>
      obtain ⟨z, H', I', rz, ez⟩ := I.after hq
      exact hR z w H' s' I' rz ez
    | next => exact False.elim hq
    | brk => exact False.elim hq
    | cont => exact False.elim hq

def rInOwn (C : Addr) (sp : Sp) (n : Bool) : R2 := fun x y H Q => ∃ a dx fs, y = .ref a ∧ H a = some (.ins C dx fs) ∧ sp [.ref a, x] H (fun v H' => ∃ b, v = .bl b ∧ Q (.bl (n != b)) H') C8.E0
theorem contains_own (c : C8.Met X.prog X.w X.K X.mg X.base k C "__contains__" sp []) (hr : Room k X.A) {pins : List (Addr × Obj)} {σ : L2.St} {H : Hp} {s : Shared} {a dx : Addr} {fs : List (Str × V)} {x : V} {u : Value} {Q : Bool → Hp → Prop} {R : Bool → Shared → Prop}
    (I : Inv X pins σ H s) (ha : H a = some (.ins C dx fs)) (rx : RelV x u) (h : sp [.ref a, x] H (fun v H' => ∃ b, v = .bl b ∧ Q b H') C8.E0) (hR : ∀ b H' s', Inv X pins σ H' s' → Q b H' → R b s') :
    wpAny (model X.prog X.w) X.A (contains (.ref a) u) R X.xe s := by
  obtain ⟨f, fd, ps, ds, hc, hm, F, b, d⟩ := c.ex
  cases d
  obtain ⟨mA, J, _⟩ := ins_get I.hok ha
  obtain ⟨od, J, _⟩ := J.look
  have sf : ∀ {Q' : Option Value → Shared → Prop} {E' : Value → Shared → Prop}, Q' (some (.ref f)) s → wpAny (model X.prog X.w) X.A (specialOf (.ref a) "__contains__") Q' E' s := fun q =>
    wpAny_bind (J.type.here ((PySem.W.looks_findIn I.kIn hm.at_).here q))
  have hf : PySem.W.typeIn X.K (.ref f) = some (.type "function") := beq_iff_eq.mp hm.fn
  unfold contains
  refine wpAny_holding ?_
  rw [show stdlibNamesSay? (.ref a) u = none from rfl]
  refine wpAny_bind (sf ?_)
  rw [if_neg (by simp)]
  refine wpAny_bind (wpAny_bind (sf (wpAny_holding (wpAny_bind ((PySem.W.bind_fn I.kIn _ hf).here ?_)))))
  dsimp only
  rw [if_neg (by simp)]
  refine wpAny_bind (met_run (vs := [.ref a, x]) F b hr I.env0 I (.cons rfl (.cons rx .nil)) h fun v u' H' s' I' rv hq => wpAny_pure ?_)
  obtain ⟨b', e, q⟩ := hq
  subst e
  cases (show u' = Value.bool b' from rv)
  exact wpAny_truthy_bool (hR b' H' s' I' q)
theorem op_in_own (c : C8.Met X.prog X.w X.K X.mg X.base k C "__contains__" sp []) (hr : Room k X.A) : OpR X (compareOp .In) (rInOwn C sp false) := by
  intro pins s σ H x y u v Q I rx ry ⟨a, dx, fs, e, ha, h⟩
  subst e
  cases (show v = Value.ref a from ry)
  refine wpAny_bind (contains_own (Q := fun b H' => Q (.bl (false != b)) H') c hr I ha rx h fun b H' s' I' q => ?_)
  refine wpAny_pure ⟨.bl b, H', I', rfl, ?_⟩
  cases b <;> exact q
theorem op_notIn_own (c : C8.Met X.prog X.w X.K X.mg X.base k C "__contains__" sp []) (hr : Room k X.A) : OpR X (compareOp .NotIn) (rInOwn C sp true) := by
  intro pins s σ H x y u v Q I rx ry ⟨a, dx, fs, e, ha, h⟩
  subst e
  cases (show v = Value.ref a from ry)
  refine wpAny_bind (contains_own (Q := fun b H' => Q (.bl (true != b)) H') c hr I ha rx h fun b H' s' I' q => ?_)
  refine wpAny_pure ⟨.bl !b, H', I', rfl, ?_⟩
  cases b <;> exact q
/-- len(o) -/
theorem call_len_own (c : C8.Met X.prog X.w X.K X.mg X.base k C "__len__" sp []) (hr : Room (k + 1) X.A) :
    CallR X (.builtin "len") (fun xs H Q => ∃ a dx fs, xs = [.ref a] ∧ H a = some (.ins C dx fs) ∧ sp [.ref a] H (fun v H' => ∃ n : Int, v = .int n ∧ 0 ≤ n ∧ n < 2 ^ 63 ∧ Q (.int n) H') C8.E0) := by
  intro pins s σ H xs us Q I r ⟨a, dx, fs, e, ha, h⟩
  subst e
  obtain ⟨u, rfl, ru⟩ := vals1 r
  cases (show u = Value.ref a from ru)
  obtain ⟨f, fd, ps, ds, hc, hm, F, b, d⟩ := c.ex
  cases d
  obtain ⟨mA, J, _⟩ := ins_get I.hok ha
  obtain ⟨od, J, _⟩ := J.look
  have hf : PySem.W.typeIn X.K (.ref f) = some (.type "function") := beq_iff_eq.mp hm.fn
  refine Calls.call_function_entry kind_len plain_len entry_len (args_len1 _) ?_
  unfold Builtin.«len»
  refine wpAny_bind (m := oneArg "len" _) (wpAny_pure ?_)
  refine wpAny_bind (m := callSpecial? (.ref a) (Str.ofString "__len__")) (PySem.W.special_fn I.kIn J hm.at_ hf (met_run (vs := [.ref a]) F b hr.in1 I.env0.in1 I (.cons rfl .nil) h fun v u' H' s' I' rv hq => ?_))
  obtain ⟨n, e, h0, h1, q⟩ := hq
  subst e
  obtain ⟨t, e⟩ := (show ∃ t, u' = Value.int n t from rv)
  subst e
  refine wpAny_bind (wpAny_holding (wpAny_pure ?_))
  refine wpAny_bind (wpAny_letGo ?_)
  rw [if_neg (by omega)]
  rw [if_neg (by omega)]
  exact wpAny_bind (wpAny_mkInt (wpAny_pure ⟨_, rfl, .int n, H', I'.tok _, ⟨_, rfl⟩, q⟩))
end
end AbR

/-! ## R2 -/
set_option Elab.async false
set_option linter.all false
set_option maxRecDepth 100000
set_option maxHeartbeats 4000000
/-! R2: rules of our own: order of pairs, sorted pairs of texts, greatest of a dict's values, in over a tuple of data -/
namespace AbR
open PySem PySem.Spec PyProof.Rows L2
/-- (i, x) < (j, y) -/
def ltSI (i : Int) (x : Str) (j : Int) (y : Str) : Bool := if i = j then decide (x.cps.toList < y.cps.toList) else decide (i < j)
def rLtSI (K : PySem.W.Frag) : R2 := fun u v H Q => ∃ a b i x j y, u = .ref a ∧ v = .ref b ∧ SqT K H a [.int i, .str x] ∧ SqT K H b [.int j, .str y] ∧ Q (.bl (ltSI i x j y)) H
section
variable {X : Cx}
theorem two_items {i : Int} {x : Str} {its : List Value} (r : Vals [.int i, .str x] its) : ∃ t t', its = [.int i t, .str x t'] := by
  cases r with
  | cons r1 r =>
    cases r with
    | cons r2 r =>
      cases r
      obtain ⟨t, rfl⟩ := r1
      obtain ⟨t', rfl⟩ := r2
      exact ⟨t, t', rfl⟩
theorem op_ltSI (hu : X.A.units < cLine) : OpR X (compareOp .Lt) (rLtSI X.K) := by
  intro pins s σ H u v v' u' Q I rx ry ⟨a, b, i, x, j, y, e1, e2, ha, hb, q⟩
  subst e1
  subst e2
  cases (show v' = Value.ref a from rx)
  cases (show u' = Value.ref b from ry)
  obtain ⟨its, r1, p1, _⟩ := I.tuple ha
  obtain ⟨its2, r2, p2, _⟩ := I.tuple hb
  obtain ⟨t1, t2, rfl⟩ := two_items r1
  obtain ⟨t3, t4, rfl⟩ := two_items r2
  have key := SeqAt.RcLt.tuples (A := X.A) (s := s) (l := a) (b := b) (items := #[.int i t1, .str x t2]) (items2 := #[.int j t3, .str y t4]) (e := fun k => if k = 0 then decide (i = j) else decide (x = y)) (r := fun k => if k = 0 then decide (i < j) else decide (x.cps.toList < y.cps.toList)) p1 p2 hu
    (fun k h1 h2 => by
      match k with
      | 0 =>
        intro prog w E Q' hq
        exact wpAny_eqBool_int (by rw [Bool.beq_eq_decide_eq]; exact hq)
      | 1 =>
        intro prog w E Q' hq
        exact wpAny_eqBool_str hq
      | k + 2 => exact absurd h1 (by simp))
    (fun k h1 h2 _ => by
      match k with
      | 0 =>
        intro prog w E Q' hq
        exact PyProof.Rows.lt_int (E := E) hq
      | 1 =>
        intro prog w E Q' hq
        exact PyProof.Rows.lt_str (E := E) hq
      | k + 2 => exact absurd h1 (by simp))
  refine key X.prog X.w X.xe _ ⟨.bl (ltSI i x j y), H, I, ?_, q⟩
  show Value.bool _ = Value.bool _
  congr 1
  show SeqAt.firstLt _ _ _ [0, 1] = ltSI i x j y
  unfold ltSI
  by_cases e : i = j
  · rw [if_pos e, SeqAt.firstLt_yes (by simpa using e)]
    by_cases e2 : x = y
    · rw [SeqAt.firstLt_yes (by simpa using e2)]
      subst e2
      show decide (2 < 2) = _
      rw [decide_eq_false (by omega)]
      exact (decide_eq_false (List.lt_irrefl _)).symm
    · rw [SeqAt.firstLt_no (by simpa using e2)]
      rfl
  · rw [if_neg e, SeqAt.firstLt_no (by simpa using e)]
    rfl
/-- x in t, t a tuple of data -/
def rInDT (K : PySem.W.Frag) : R2 := fun x y H Q => ∃ d ds, Dp K H x d ∧ Dp K H y (.tuple ds) ∧ SeqAt.shaped d = true ∧ SeqAt.shaped (.tuple ds) = true ∧ Q (.bl (ds.any fun z => PyData.eqv z d)) H
theorem op_inDT (hu : X.A.units + 65 < cLine) : OpR X (compareOp .In) (rInDT X.K) := by
  intro pins s σ H x y v u Q I rx ry ⟨d, ds, hd, he, sd, se, q⟩
  obtain ⟨as, r1⟩ := Dp.reads I d x v hd rx
  obtain ⟨bs, r2⟩ := Dp.reads I (.tuple ds) y u he ry
  exact SeqAt.in_tuple_reads r2 r1 (SeqAt.canLay_of_shaped se) (SeqAt.canLay_of_shaped sd) (room_in_shaped sd hu) ⟨.bl _, H, I, rfl, q⟩

/-! ### sorted pairs of texts -/
abbrev PT : Type := Addr × Str × Str
def encP (p : PT) : PyData := .tuple [.str p.2.1, .str p.2.2]
theorem reads_pair {pins : List (Addr × Obj)} {σ : L2.St} {H : Hp} {s : Shared} (I : Inv X pins σ H s) {p : PT} (h : SqT X.K H p.1 [.str p.2.1, .str p.2.2]) : ∃ as, Reads s.heap (.ref p.1) (encP p) as :=
  Dp.reads I (encP p) (.ref p.1) (.ref p.1) (.tup h (.cons (.str _) (.cons (.str _) .nil))) rfl
theorem each_refs {R : Value → PT → Prop} : ∀ {L : List PT} {its : List Value}, Vals (L.map fun p => V.ref p.1) its → (∀ p ∈ L, R (.ref p.1) p) → PySem.W.EachIs R its L
  | [], its, r, _ => by cases r; exact .nil
  | p :: L, its, r, h => by
    cases r with
    | cons r1 r =>
      cases r1
      exact .cons (h p List.mem_cons_self) (each_refs r fun q hq => h q (List.mem_cons_of_mem _ hq))
theorem vals_each : ∀ {L : List PT} {out : List Value}, PySem.W.EachIs (fun v (p : PT) => v = .ref p.1) out L → Vals (L.map fun p => V.ref p.1) out
  | [], _, .nil => .nil
  | p :: L, _, .cons h t => .cons h (vals_each t)
def rSortTS (K : PySem.W.Frag) : List V → Hp → VK → Prop := fun vs H Q => ∃ (a : Addr) (L : List PT), vs = [.ref a] ∧ SqL K H a (L.map fun p => V.ref p.1) ∧ (∀ p ∈ L, SqT K H p.1 [.str p.2.1, .str p.2.2]) ∧
  ∀ (L' : List PT) (q : Addr), L'.Perm L → H q = none → Q (.ref q) (upd H q (.lst (L'.map fun p => V.ref p.1)))
theorem no_addrs {h : Heap} {us : List Value} {x y : Str} {as : List Addr} (r : ReadsAll h us [.str x, .str y] as) : as = [] := by
  cases r with
  | cons g1 h5 =>
    cases h5 with
    | cons g2 h6 =>
      cases h6
      cases g1
      cases g2
      rfl
theorem depth_pair (p : PT) : (encP p).depth = 1 := by
  unfold encP
  simp [PyData.depth, PyData.depthAll]
theorem alike_pairs (L : List PT) : PySem.W.AllAlike (L.map encP) := PySem.W.AllAlike.of fun b b' => by
  unfold encP
  simp [PySem.W.alike, PySem.W.alikeAll]
theorem cr_sortedTS (hr : X.A.units + 64 < cLine) : CallR X (.builtin "sorted") (rSortTS X.K) := by
  intro pins s σ H vs us Q I r ⟨a, L, e, hs, hp, q⟩
  subst e
  obtain ⟨its, rv, hl, hz⟩ := I.list hs
  rw [Vals.ref1 r]
  rw [List.length_map] at hz
  refine PySem.W.sorted_data (R := fun v (p : PT) => v = .ref p.1) (enc := encP) (bs := L) hl.isList (each_refs rv fun p _ => rfl) (each_refs rv fun p m => reads_pair I (hp p m)) (alike_pairs L) (PySem.W.Sortable.tuples fun p => ⟨_, _, rfl⟩) hz (fun p _ => by rw [depth_pair]; omega) fun out ho eo => ?_
  obtain ⟨ep, he'⟩ := PyProof.Rows.sortedAll_at s.heap its out.toArray
  have pm : (L.mergeSort (PySem.W.dataLe false encP)).Perm L := List.mergeSort_perm _ _
  refine ⟨.ref _, upd H (s.heap.objs.size + 1) (.lst ((L.mergeSort (PySem.W.dataLe false encP)).map fun p => V.ref p.1)), I.laid (t' := s.toks) (fun _ _ => PyProof.Rows.sortedAll_old) (Nat.le_succ _) ⟨?_, out, ep, vals_each eo, he'⟩, rfl, q _ _ pm (I.hok.fresh (Nat.le_succ _))⟩
  rw [List.length_map, pm.length_eq]
  exact hz
/-- sorted(d), the keys pairs of texts -/
def kP (p : Str × Str) : List Key := [.inr p.1, .inr p.2]
def rSortDTS : List V → Hp → VK → Prop := fun vs H Q => ∃ (a : Addr) (kvs : List ((Str × Str) × V)), vs = [.ref a] ∧ Rd H a (.dT (kvs.map fun p => (kP p.1, p.2))) ∧
  ∀ (L' : List PT) (q : Addr), (L'.map (·.2)).Perm (kvs.map (·.1)) → (∀ p ∈ L', H p.1 = some (.tup [.str p.2.1, .str p.2.2])) → H q = none → Q (.ref q) (upd H q (.lst (L'.map fun p => V.ref p.1)))
theorem kt_pairs {H : Hp} : ∀ {kvs : List ((Str × Str) × V)} {xs : List (List Key × Addr × Value)}, KT H (kvs.map fun p => (kP p.1, p.2)) xs → ∃ L : List PT, L.map (·.1) = xs.map (fun x => x.2.1) ∧ L.map (·.2) = kvs.map (·.1) ∧ ∀ p ∈ L, H p.1 = some (.tup [.str p.2.1, .str p.2.2])
  | [], xs, r => by cases r; exact ⟨[], rfl, rfl, fun _ h => nomatch h⟩
  | p :: kvs, xs, r => by
    cases r with
    | cons h t =>
      rename_i q qs
      obtain ⟨L, e1, e2, e3⟩ := kt_pairs t
      refine ⟨(q.2.1, p.1) :: L, by rw [List.map_cons, List.map_cons, e1], by rw [List.map_cons, List.map_cons, e2], fun x hx => ?_⟩
      rcases List.mem_cons.mp hx with e | hx
      · subst e; exact h.2.1
      · exact e3 x hx
theorem cr_sortedDTS (hcalm : X.calm = true) (hr : X.A.units + 64 < cLine) : CallR X (.builtin "sorted") rSortDTS := by
  intro pins s σ H xs us Q I r ⟨d, kvs, e, hd, q⟩
  subst e
  obtain ⟨u, eu, rx⟩ := vals1 r
  subst eu
  cases rx
  obtain ⟨z, hsys, ks, pr, o, es, ep, ho, hx, hdt, he, hn⟩ := (show ObjOk X.prog X.w H s.heap d (.dT (kvs.map fun p => (kP p.1, p.2))) from hd.ok I.hok)
  have l1 : es.size = ks.length := size_of_entries he
  have l2 : (kvs.map fun p => (kP p.1, p.2)).length = ks.length := Paired.length pr
  obtain ⟨L, e1, e2, e3⟩ := kt_pairs pr
  have l3 : L.length = ks.length := by
    have e := congrArg List.length e1
    rwa [List.length_map, List.length_map] at e
  have zl : L.length ≤ sizeLine := by rw [l3, ← l2]; exact z
  refine Calls.call_function_entry PyProof.Rows.kind_sorted PyProof.Rows.plain_sorted PyProof.Rows.entry_sorted (PyProof.Rows.args_sorted1 _) ?_
  unfold Builtin.«sorted»
  refine wpAny_bind (m := checkCount "sorted" 1 1 _) (wpAny_pure ?_)
  refine wpAny_bind (PySem.W.kdu_collect (A := X.A.in1) (kdl_raw hsys hx hdt) (I.ok.hd hcalm) ho (by omega) fun h' tk acc hk hacc => ?_)
  have ea : acc.toList = L.map fun p => Value.ref p.1 := by
    have hl : acc.toList.length = ks.length := by rw [Array.length_toList, hacc.1]; exact l1
    have e4 : (L.map fun p => Value.ref p.1) = ks.map fun x => Value.ref x.2.1 := by
      rw [show (L.map fun p => Value.ref p.1) = (L.map (·.1)).map Value.ref by rw [List.map_map] <;> rfl, e1, List.map_map] <;> rfl
    rw [e4]
    apply List.ext_getElem?
    intro j
    rw [List.getElem?_map]
    cases hj : acc.toList[j]? with
    | none =>
      have h1 := List.getElem?_eq_none_iff.mp hj
      rw [List.getElem?_eq_none (by omega)]
      all_goals rfl
    | some v =>
      obtain ⟨en, hen, hv⟩ := hacc.2 j v (by rw [← Array.getElem?_toList]; exact hj)
      have qe := entry_at he j
      rw [hen] at qe
      cases hb : ks[j]? with
      | none =>
        rw [hb] at qe
        exact nomatch (show some en = none from qe)
      | some b =>
        rw [hb] at qe
        have e2 : en = entryOfKey (tupleKind (mixKind X.prog X.w)) b := Option.some.inj qe
        rw [hv, e2]
        all_goals rfl
  have I1 : Inv X pins σ H { s with heap := h', toks := tk } := I.kept hk
  have rv : Vals (L.map fun p => V.ref p.1) acc.toList := by
    rw [ea]
    clear ea e1 e2 e3 l3 zl
    induction L with
    | nil => exact .nil
    | cons p L ih => exact .cons rfl ih
  have hal : acc.toList.length = L.length := by rw [← rv.length, List.length_map]
  refine wpAny_bind (wpAny_newList ?_ (by rw [hal]; exact zl))
  have hoL : (h'.push (seqObj "list" acc.toList.toArray 0)).get? h'.objs.size = some (seqObj "list" acc.toList.toArray 0) := Heap.get?_push_size _ rfl
  show wpAny _ _ _ _ _ { s with heap := h'.push (seqObj "list" acc.toList.toArray 0), toks := tk }
  have hrd : ∀ p ∈ L, ∃ as, Reads (h'.push (seqObj "list" acc.toList.toArray 0)) (.ref p.1) (encP p) as ∧ h'.objs.size ∉ as := fun p hp => by
    obtain ⟨as, ra⟩ := reads_pair I1 (SqT.of (K := X.K) (e3 p hp))
    have hlt : as = [] := by
      unfold encP at ra
      cases ra with
      | tuple _ _ _ h4 => exact no_addrs h4
    subst hlt
    exact ⟨[], PyProof.Rows.Reads.keeps (fun _ _ e => Heap.get?_push_of_some _ e) ra, fun h => nomatch h⟩
  refine wpAny_bind (wpAny_holding (PySem.W.list_sort_data (s := { s with heap := h'.push (seqObj "list" acc.toList.toArray 0), toks := tk }) (R := fun v (p : PT) => v = .ref p.1) (enc := encP) (bs := L) (vs := acc.toList) hoL (each_refs rv fun p _ => rfl) (each_refs rv hrd) (alike_pairs L) (PySem.W.Sortable.tuples fun p => ⟨_, _, rfl⟩) zl (fun p _ => by rw [depth_pair]; show X.A.units + 1 + 1 + 1 < _; omega) fun out ho' eo => ?_))
  obtain ⟨e', he'⟩ := PyProof.Rows.sortedHeap_at (vs := acc.toList) (out := out.toArray) hoL
  have pm : (L.mergeSort (PySem.W.dataLe false encP)).Perm L := List.mergeSort_perm _ _
  refine wpAny_pure ⟨_, rfl, .ref h'.objs.size, upd H h'.objs.size (.lst ((L.mergeSort (PySem.W.dataLe false encP)).map fun p => V.ref p.1)), I1.laid (t' := tk) (fun b u e => ?_) (Nat.le_refl _)
    ⟨by rw [List.length_map, pm.length_eq]; exact zl, out, e', vals_each eo, he'⟩, rfl, q _ _ ((pm.map _).trans (by rw [e2])) (fun p hp => e3 p (pm.mem_iff.mp hp)) (I1.hok.fresh (Nat.le_refl _))⟩
  have hb : b < h'.objs.size := Heap.lt_size e
  rw [PyProof.Rows.sortedHeap_old (Nat.ne_of_lt hb) (by rw [size_push']; exact Nat.lt_succ_of_lt hb)]
  exact Heap.get?_push_of_some _ e
end
end AbR

/-! ## R3 -/
set_option Elab.async false
set_option linter.all false
set_option maxRecDepth 100000
set_option maxHeartbeats 4000000
/-! R3: rules of our own: a field as a target among others, a method called with the keys of a dict, greatest of a dict's values, a call by keywords alone -/
namespace AbR
open PySem PySem.Spec PyProof.Rows L2
/-! ### o.f as one of several targets -/
def gFld (K : PySem.W.Frag) (to : TE) (f : Str) : TG := fun v σ H Q => to σ H fun x H1 => ∃ a C dx fs, x = .ref a ∧ H1 a = some (.ins C dx fs) ∧ Cls K C ∧ NoAttr K C f ∧ fs.length < 1000 ∧ Q σ (upd H1 a (.ins C dx (putF f v fs)))
section
variable {X : Cx} {o : Expr} {to : TE} {f : Str} {pos : Pos}
theorem pg_fld (ho : PE X o to) : PG X (.Attribute o f pos) (gFld X.K to f) := by
  constructor
  intro pins s σ H v u Q I r h
  rw [assign_Attribute]
  refine wpAny_bind (wpAny_holding (thn (ho.run pins s σ H _ I h) fun ov s1 ⟨x, H1, I1, r1, a, C, dx, fs, ex, ea, c, n, l, q⟩ => ?_))
  subst ex
  cases (show ov = Value.ref a from r1)
  refine wpAny_bind (wpAny_standAt (wpAny_bind (wpAny_holding (setattr_ok I1 ea c n l r fun s2 I2 => ?_))))
  exact wpAny_release ⟨σ, _, I2, q⟩
end
/-! ### o.m( *d ), d a dict with text keys -/
section
variable {X : Cx} {pins : List (Addr × Obj)} {σ : L2.St} {H : Hp} {s : Shared}
theorem star_dict {d : Addr} {kvs : List (Key × V)} {E : Value → Shared → Prop} {Q : List Value → Shared → Prop} (hcalm : X.calm = true) (I : Inv X pins σ H s) (hd : Rd H d (.dK kvs)) (hQ : ∀ us s', Inv X pins σ H s' → Vals (kvs.map fun kv => kV kv.1) us → Q us s') :
    PySem.W.StarOf (model X.prog X.w) X.A E (.ref d) Q s := by
  obtain ⟨z, lo, vs, rel, dd⟩ := dk_rd I.hok hd
  obtain ⟨ep, hat⟩ := dd.dictAt
  have hl : vs.length = kvs.length := (KV.length rel).symm
  unfold PySem.W.StarOf notIterableAtAll
  refine wpAny_bind (wpAny_specialOf dd.typeIs PySem.F.slot_dict_iter.lookup (wpAny_pure ⟨rfl, ?_⟩))
  refine PySem.W.kdu_collect (PySem.W.kdl_dict (knd := mixKind X.prog X.w) (kvs := vs) (ep := ep) lo) (I.ok.hd hcalm) hat (by rw [hl]; exact z) fun h' tk acc hk hacc => ?_
  refine hQ _ _ (I.kept hk) ?_
  have hal : acc.toList.length = kvs.length := by rw [Array.length_toList, hacc.1, hl]
  have key : ∀ {ks : List (Key × V)} {ws : List Value}, ws.length = ks.length → (∀ (j : Nat) (v : Value), ws[j]? = some v → ∃ k, (ks.map (·.1))[j]? = some k ∧ keyIs k v = true) → Vals (ks.map fun kv => kV kv.1) ws := by
    intro ks
    induction ks with
    | nil =>
      intro ws h1 _
      cases ws with
      | nil => exact .nil
      | cons _ _ => cases h1
    | cons p ks ih =>
      intro ws h1 h2
      cases ws with
      | nil => cases h1
      | cons u ws =>
        refine .cons ?_ (ih (by simpa using h1) fun j v e => h2 (j + 1) v (by simpa using e))
        obtain ⟨k, e1, e2⟩ := h2 0 u rfl
        have e3 : p.1 = k := by simpa using e1
        show RelV (kV p.1) u
        rw [e3]
        cases k with
        | inl i => exact Value.isInt_shape (k := i) (v := u) e2
        | inr x => exact Value.isStrOf_shape (x := x) (v := u) e2
  refine key hal fun j v e => ?_
  obtain ⟨k, x, e1, e2⟩ := hacc.2 j v (by rw [← Array.getElem?_toList]; exact e)
  refine ⟨k, ?_, e2⟩
  rw [rel.keys, List.getElem?_map, e1]
  all_goals rfl
def tMethSD (K : PySem.W.Frag) (C : Addr) (m : Str) (g : Addr) (sp : Sp) (ta te : TE) : TE := fun σ H Q => ta σ H fun x H1 => ∃ a dx fs, x = .ref a ∧ H1 a = some (.ins C dx fs) ∧ fs.lookup m = none ∧
  ∀ q, H1 q = none → te σ (upd H1 q (.met g a)) fun y H2 => ∃ d kvs, y = .ref d ∧ Rd H2 d (.dK kvs) ∧ H2 q = some (.met g a) ∧ sp (.ref a :: kvs.map fun kv => kV kv.1) H2 Q C8.E0
theorem pe_methSD {k : Nat} {C g : Addr} {m : Str} {sp : Sp} {o e : Expr} {ta te : TE} {p apos pos : Pos} (hcalm : X.calm = true) (he : PE X o ta) (c : Cls X.K C) (b : BMeth X.K C m g) (F : FnR X.prog X.w X.K X.mg X.base C8.CX0 k g sp) (hr : Room k X.A)
    (ha : PE X e te) (hbase : attributeBase o m X.env (eval o X.env) = eval o X.env := by rfl) : PE X (.Call (.Attribute o m apos) [.Starred e p] [] pos) (tMethSD X.K C m g sp ta te) := by
  constructor
  intro pins s σ H Q I h
  refine starcall_of hbase (thn (he.run pins s σ H _ I h) fun u s1 ⟨x, H1, I1, rx, a, dx, fs, ex, ea, l, q⟩ => ?_)
  subst ex
  cases (show u = Value.ref a from rx)
  refine getbound_ok I1 ea c b l fun q1 s2 hq1 I2 => ?_
  refine PySem.W.ks_call (P := PySem.W.MethP X.K q1 g (.ref a)) rfl (PySem.W.keeps_M b.fi) (PySem.W.ks_lone ?_)
  refine thn (ha.run pins s2 σ _ _ I2 (q q1 hq1)) fun v s3 ⟨y, H2, I3, ry, d, kvs, ey, hd, hm, hsp⟩ => ?_
  subst ey
  cases (show v = Value.ref d from ry)
  refine star_dict hcalm I3 hd fun us s4 I4 rv => ⟨met_P I4 hm, ?_⟩
  exact wpAny_call (PySem.W.method_call (met_P I4 hm).1 (run_fnR (us := Value.ref a :: us) (vs := V.ref a :: kvs.map fun kv => kV kv.1) F hr C8.pass0 I4 (.cons rfl rv) hsp))
end
/-! ### f(k = e, ..) -/
section
variable {X : Cx} {k n : Nat} {f : Addr} {fd : FuncData} {ps ks : List Str} {sp : Sp} {x : Str} {p pos : Pos} {kws : List Keyword} {tk : TA} {g : List Value → List Value → List Value} {gV : List V → List V → List V}
theorem pe_callKw (F : FnOk X.prog X.w X.K X.mg X.base C8.CX0 k f fd ps sp) (hr : Room k X.A) (hg : Gl X x) (hm : X.mg x = some (.ref f)) (hk : PySem.W.keepIn X.K (.ref f) = true) (hb : KBn X.K fd ps 0 ks g gV)
    (hkw : PK X kws tk) (hall : (backToKw pos (keywordEach kws X.env)).all (·.1.isSome) = true := by rfl) (hks : (backToKw pos (keywordEach kws X.env)).filterMap (·.1) = ks := by rfl)
    (hdb : (x == ("__debug__" : Str)) = false := by decide)
    (hpl : ((backTo pos (starEach [] X.env)).any (·.1) || (backToKw pos (keywordEach kws X.env)).any (·.1.isNone)) = false := by rfl) :
    PE X (.Call (.Name x p) [] kws pos) (fun σ H Q => tk σ H fun zs H2 => zs.length = ks.length ∧ sp (gV [] zs) H2 Q C8.E0) := by
  constructor
  intro pins s σ H Q I h
  refine wpAny_Call_Name_kw (ld_glob I hg hm ?_ hdb)
  refine PySem.W.callWith_KW0 (h₀ := X.base) I.ok.mod.kin hk hall ?_ hpl
  refine thn (hkw.run pos pins s σ H _ I h) fun ws s2 ⟨zs, H2, I2, rz, l2, q2⟩ => ⟨I2.kIn, ?_⟩
  rw [hks]
  exact run_fnN (us := []) (vs := []) F hr hb C8.pass0 I2 .nil rz rfl l2 q2
end
/-! ### max(o.values()) -/
section
variable {X : Cx} {o : Expr} {p pos apos mpos : Pos} {td : TE}
def tMaxVals (td : TE) : TE := fun σ H Q => td σ H fun x H1 => ∃ a kvs is, x = V.ref a ∧ Rd H1 a (.dK kvs) ∧ kvs.map (·.2) = is.map V.int ∧ is ≠ [] ∧ ∀ m, m ∈ is → (∀ j ∈ is, j ≤ m) → Q (.int m) H1
theorem pe_maxVals (hc : X.calm = true) (hg : Gl X "max") (hm : X.mg "max" = none) (hd : PE X o td) (hbase : attributeBase o "values" X.env (eval o X.env) = eval o X.env := by rfl) (hline : (apos.endLine == mpos.line) = true := by rfl)
    (hse : starEach [Expr.Call (.Attribute o "values" apos) [] [] mpos] X.env = [(false, eval (Expr.Call (.Attribute o "values" apos) [] [] mpos) X.env)] := by rfl) :
    PE X (.Call (.Name "max" p) [.Call (.Attribute o "values" apos) [] [] mpos] [] pos) (tMaxVals td) := by
  constructor
  intro pins s σ H Q I h
  refine wpAny_Call_Name_kw (ld_blt I hg hm (u := .builtin "max") (by first | rfl | decide +kernel) ?_ (by first | decide +kernel | decide) (by first | decide +kernel | decide))
  rw [hse]
  refine PySem.callWith_builtin1 (wpAny_Call_method0_late hbase hline (thn (hd.run pins s σ H _ I h) fun v s1 ⟨x, H1, I1, r1, a, kvs, is, ex, ha, hv, hne, q⟩ => ?_))
  subst ex
  cases (show v = Value.ref a from r1)
  obtain ⟨_, hsys, vs, rel, dof⟩ := dk_rd I1.hok ha
  obtain ⟨ep, dat⟩ := dof.dictAt
  obtain ⟨ob, es, ho, ex, _⟩ := id dat
  refine ⟨"dict", "dict.values", F.plainAttrs_dict, F.slot_dict_values, F.type_dict_values, ⟨ob, ho, ex.1⟩, fun b e => ?_, Calls.callWith_builtin rfl (PySem.evalArgs_none ?_)⟩
  · cases e
    exact ⟨ob, ho, ex.2.1⟩
  refine call_meetsIn F.slot_dict_values ⟨ob, ho, ex.1⟩ F.entry_dict_values (F.args_dict_values_1 _) (meets_dict_values (mixKind X.prog X.w) a hsys) ⟨⟨vs, dof⟩, ?_⟩
  generalize hh : s1.heap.push { cls := .type "dict_values", data := .fields #[.ref a] } = h2
  have k1 : ∀ b u, s1.heap.get? b = some u → h2.get? b = some u := fun b u e => by rw [← hh]; exact Heap.get?_push_of_some _ e
  have hv2 : h2.get? s1.heap.objs.size = some { cls := .type "dict_values", data := .fields #[.ref a] } := by rw [← hh]; exact Heap.get?_push_size _ rfl
  have hsz : h2.objs.size = s1.heap.objs.size + 1 := by rw [← hh]; exact Heap.size_push _ _
  have hlv : vs.length = is.length := by
    have e1 := congrArg List.length hv
    rw [List.length_map, List.length_map] at e1
    rw [← e1]
    exact (KV.length rel).symm
  have hlen : 0 < is.length := List.length_pos_iff.mpr hne
  have hval : ∀ (i : Nat) (v : Value), (∃ k, vs[i]? = some (k, v)) → ∃ t, v = Value.int (is.getD i 0) t := fun i v ⟨k, hk⟩ => by
    obtain ⟨x, e1, e2⟩ := KV.at' rel hk
    have e3 : (kvs.map (·.2))[i]? = some x := by rw [List.getElem?_map, e1] <;> rfl
    rw [hv, List.getElem?_map] at e3
    obtain ⟨j, e4, e5⟩ := Option.map_eq_some_iff.mp e3
    subst e5
    obtain ⟨t, e6⟩ := e2
    exact ⟨t, by rw [e6, List.getD_eq_getElem?_getD, e4] <;> rfl⟩
  have hlt : a < s1.heap.objs.size := Heap.lt_size ho
  refine call_max_walk (wpAny_pyIter_values (v := s1.heap.objs.size) (d := a) ⟨_, hv2, rfl, rfl⟩ (dat.keep k1) ?_)
  refine ⟨_, _, _, _, _, _, _, rfl, Walks.dictValues (knd := mixKind X.prog X.w) (A := X.A.in1) (I.ok.hd hc) h2.objs.size a (Nat.ne_of_lt (by rw [hsz]; exact Nat.lt_succ_of_lt hlt)) vs ep,
    ⟨⟨_, Heap.get?_push_size _ rfl, rfl, rfl⟩, (dat.keep k1).keep fun b u e => Heap.get?_push_of_some _ e⟩, fun b hb => ?_, by rw [hlv]; exact hlen, CmpOf.ints_gt (fun i => is.getD i 0) hval, fun v h' tk hP hk => ?_⟩
  · show b < (h2.push _).objs.size
    rw [Heap.size_push]
    rcases List.mem_cons.mp hb with e | hb
    · rw [e]
      exact Nat.lt_succ_self _
    · have e : b = a := List.mem_singleton.mp hb
      rw [e, hsz]
      exact Nat.lt_succ_of_lt (Nat.lt_succ_of_lt hlt)
  · obtain ⟨t, e⟩ := hval _ v hP
    obtain ⟨b1, b2⟩ := argBest_gt (fun i => is.getD i 0) (vs.length - 1)
    have get : ∀ i, i < is.length → is.getD i 0 ∈ is := fun i hi => by
      rw [List.getD_eq_getElem?_getD, List.getElem?_eq_getElem hi]
      exact List.getElem_mem hi
    refine ⟨.int _, H1, I1.kept (t' := tk) fun b u e => hk b u (fun hmem => ?_) (Heap.get?_push_of_some _ (k1 b u e)), ⟨t, e⟩, q _ (get _ (by rw [← hlv]; rw [← hlv] at hlen; exact Nat.lt_of_le_of_lt b1 (Nat.sub_lt hlen Nat.one_pos))) fun j hj => ?_⟩
    · have e1 : b = h2.objs.size := List.mem_singleton.mp hmem
      have e2 := Heap.lt_size e
      rw [e1, hsz] at e2
      exact absurd e2 (Nat.not_lt.mpr (Nat.le_succ _))
    · obtain ⟨i, hi, e⟩ := List.mem_iff_getElem.mp hj
      have e2 : is.getD i 0 = j := by rw [List.getD_eq_getElem?_getD, List.getElem?_eq_getElem hi, ← e] <;> rfl
      rw [← e2]
      exact b2 i (by omega)
def tMinValsR (td : TE) : TE := fun σ H Q => td σ H fun x H1 => ∃ a kvs is, x = V.ref a ∧ Rd H1 a (.dK kvs) ∧ kvs.map (·.2) = is.map V.int ∧ is ≠ [] ∧ ∀ m, m ∈ is → (∀ j ∈ is, m ≤ j) → Q (.int m) H1
theorem pe_minValsR (hc : X.calm = true) (hg : Gl X "min") (hm : X.mg "min" = none) (hd : PE X o td) (hbase : attributeBase o "values" X.env (eval o X.env) = eval o X.env := by rfl) (hline : (apos.endLine == mpos.line) = true := by rfl)
    (hse : starEach [Expr.Call (.Attribute o "values" apos) [] [] mpos] X.env = [(false, eval (Expr.Call (.Attribute o "values" apos) [] [] mpos) X.env)] := by rfl) :
    PE X (.Call (.Name "min" p) [.Call (.Attribute o "values" apos) [] [] mpos] [] pos) (tMinValsR td) := by
  constructor
  intro pins s σ H Q I h
  refine wpAny_Call_Name_kw (ld_blt I hg hm (u := .builtin "min") (by first | rfl | decide +kernel) ?_ (by first | decide +kernel | decide) (by first | decide +kernel | decide))
  rw [hse]
  refine PySem.callWith_builtin1 (wpAny_Call_method0_late hbase hline (thn (hd.run pins s σ H _ I h) fun v s1 ⟨x, H1, I1, r1, a, kvs, is, ex, ha, hv, hne, q⟩ => ?_))
  subst ex
  cases (show v = Value.ref a from r1)
  obtain ⟨_, hsys, vs, rel, dof⟩ := dk_rd I1.hok ha
  obtain ⟨ep, dat⟩ := dof.dictAt
  obtain ⟨ob, es, ho, ex, _⟩ := id dat
  refine ⟨"dict", "dict.values", F.plainAttrs_dict, F.slot_dict_values, F.type_dict_values, ⟨ob, ho, ex.1⟩, fun b e => ?_, Calls.callWith_builtin rfl (PySem.evalArgs_none ?_)⟩
  · cases e
    exact ⟨ob, ho, ex.2.1⟩
  refine call_meetsIn F.slot_dict_values ⟨ob, ho, ex.1⟩ F.entry_dict_values (F.args_dict_values_1 _) (meets_dict_values (mixKind X.prog X.w) a hsys) ⟨⟨vs, dof⟩, ?_⟩
  generalize hh : s1.heap.push { cls := .type "dict_values", data := .fields #[.ref a] } = h2
  have k1 : ∀ b u, s1.heap.get? b = some u → h2.get? b = some u := fun b u e => by rw [← hh]; exact Heap.get?_push_of_some _ e
  have hv2 : h2.get? s1.heap.objs.size = some { cls := .type "dict_values", data := .fields #[.ref a] } := by rw [← hh]; exact Heap.get?_push_size _ rfl
  have hsz : h2.objs.size = s1.heap.objs.size + 1 := by rw [← hh]; exact Heap.size_push _ _
  have hlv : vs.length = is.length := by
    have e1 := congrArg List.length hv
    rw [List.length_map, List.length_map] at e1
    rw [← e1]
    exact (KV.length rel).symm
  have hlen : 0 < is.length := List.length_pos_iff.mpr hne
  have hval : ∀ (i : Nat) (v : Value), (∃ k, vs[i]? = some (k, v)) → ∃ t, v = Value.int (is.getD i 0) t := fun i v ⟨k, hk⟩ => by
    obtain ⟨x, e1, e2⟩ := KV.at' rel hk
    have e3 : (kvs.map (·.2))[i]? = some x := by rw [List.getElem?_map, e1] <;> rfl
    rw [hv, List.getElem?_map] at e3
    obtain ⟨j, e4, e5⟩ := Option.map_eq_some_iff.mp e3
    subst e5
    obtain ⟨t, e6⟩ := e2
    exact ⟨t, by rw [e6, List.getD_eq_getElem?_getD, e4] <;> rfl⟩
  have hlt : a < s1.heap.objs.size := Heap.lt_size ho
  refine call_min_walk (wpAny_pyIter_values (v := s1.heap.objs.size) (d := a) ⟨_, hv2, rfl, rfl⟩ (dat.keep k1) ?_)
  refine ⟨_, _, _, _, _, _, _, rfl, Walks.dictValues (knd := mixKind X.prog X.w) (A := X.A.in1) (I.ok.hd hc) h2.objs.size a (Nat.ne_of_lt (by rw [hsz]; exact Nat.lt_succ_of_lt hlt)) vs ep,
    ⟨⟨_, Heap.get?_push_size _ rfl, rfl, rfl⟩, (dat.keep k1).keep fun b u e => Heap.get?_push_of_some _ e⟩, fun b hb => ?_, by rw [hlv]; exact hlen, CmpOf.ints_lt (fun i => is.getD i 0) hval, fun v h' tk hP hk => ?_⟩
  · show b < (h2.push _).objs.size
    rw [Heap.size_push]
    rcases List.mem_cons.mp hb with e | hb
    · rw [e]
      exact Nat.lt_succ_self _
    · have e : b = a := List.mem_singleton.mp hb
      rw [e, hsz]
      exact Nat.lt_succ_of_lt (Nat.lt_succ_of_lt hlt)
  · obtain ⟨t, e⟩ := hval _ v hP
    obtain ⟨b1, b2⟩ := argBest_lt (fun i => is.getD i 0) (vs.length - 1)
    have get : ∀ i, i < is.length → is.getD i 0 ∈ is := fun i hi => by
      rw [List.getD_eq_getElem?_getD, List.getElem?_eq_getElem hi]
      exact List.getElem_mem hi
    refine ⟨.int _, H1, I1.kept (t' := tk) fun b u e => hk b u (fun hmem => ?_) (Heap.get?_push_of_some _ (k1 b u e)), ⟨t, e⟩, q _ (get _ (by rw [← hlv]; rw [← hlv] at hlen; exact Nat.lt_of_le_of_lt b1 (Nat.sub_lt hlen Nat.one_pos))) fun j hj => ?_⟩
    · have e1 : b = h2.objs.size := List.mem_singleton.mp hmem
      have e2 := Heap.lt_size e
      rw [e1, hsz] at e2
      exact absurd e2 (Nat.not_lt.mpr (Nat.le_succ _))
    · obtain ⟨i, hi, e⟩ := List.mem_iff_getElem.mp hj
      have e2 : is.getD i 0 = j := by rw [List.getD_eq_getElem?_getD, List.getElem?_eq_getElem hi, ← e] <;> rfl
      rw [← e2]
      exact b2 i (by omega)
end
end AbR

/-! ## R4 -/
set_option Elab.async false
set_option linter.all false
set_option maxRecDepth 100000
set_option maxHeartbeats 4000000
/-! R4: list(o.values()) -/
namespace AbR
open PySem PySem.Spec PyProof.Rows L2
def tListVals (te : TE) : TE := fun σ H Q => te σ H fun x H1 => ∃ d kvs, x = V.ref d ∧ H1 d = some (.dK kvs) ∧ ∀ p, H1 p = none → Q (.ref p) (upd H1 p (.lst (kvs.map (·.2))))
theorem kv_vals {kvs : List (Key × V)} {vs : List (Key × Value)} (r : KV kvs vs) : Vals (kvs.map (·.2)) (vs.map (·.2)) := by
  induction r with
  | nil => exact .nil
  | cons h _ ih => exact .cons h.2 ih
section
variable {X : Cx} {e : Expr} {te : TE} {p apos cpos pos : Pos}
theorem pe_listVals (hc : X.calm = true) (he : PE X e te) (hg : Gl X "list") (hm : X.mg "list" = none) (hv : bootBuiltins "list" = some (.type "list")) (hbase : attributeBase e "values" X.env (eval e X.env) = eval e X.env := by rfl) (hline : (apos.endLine == cpos.line) = true := by rfl)
    (hs : starEach [.Call (.Attribute e "values" apos) [] [] cpos] X.env = (false, eval (.Call (.Attribute e "values" apos) [] [] cpos) X.env) :: starEach [] X.env := by rfl) :
    PE X (.Call (.Name "list" p) [.Call (.Attribute e "values" apos) [] [] cpos] [] pos) (tListVals te) := by
  refine ⟨fun pins s σ H Q I hq => ?_⟩
  refine wpAny_Call_Name_kw (ld_blt I hg hm hv ?_)
  refine PyProof.Rows.callWith_type1 ?_ hs rfl
  rw [hs]
  show wpAny _ _ (spliced ((false, eval (.Call (.Attribute e "values" apos) [] [] cpos) X.env) :: backTo pos (starEach [] X.env))) _ _ s
  refine Calls.spliced_cons ?_
  refine wpAny_Call_method (T := "dict") (id := "dict.values") hbase rfl hline F.plainAttrs_dict F.slot_dict_values F.type_dict_values (thn (he.run pins s σ H _ I hq) fun u s1 ⟨x, H1, I1, rx, d, kvs, ex, hd, q⟩ => ?_)
  subst ex
  obtain rfl : u = Value.ref d := rx
  obtain ⟨hz, hs0, vs, kv, hdo⟩ := I1.hok d _ hd
  obtain ⟨ep, hat⟩ := hdo.dictAt
  have lk : kvs.length = vs.length := Paired.length kv
  have I2 : Inv X pins σ H1 { s1 with heap := s1.heap.push { cls := .type "dict_values", data := .fields #[.ref d] } } := I1.kept (t' := s1.toks) fun b ob q => Heap.get?_push_of_some _ q
  refine ⟨hdo.typeIs, hdo.mapOf.noDict, ?_⟩
  show wpAny _ _ (callWith cpos (.builtin "dict.values") [.ref d] [] []) _ X.xe s1
  refine method_meetsIn F.slot_dict_values F.entry_dict_values rfl (PySem.evalArgs_none ⟨rfl, hdo.typeIs, F.args_dict_values_1 _, _, meets_dict_values (mixKind X.prog X.w) d hs0, ⟨vs, hdo⟩, ?_⟩)
  refine Calls.spliced_nil ?_
  refine PySem.W.kdl_call (PySem.W.kdl_values (knd := mixKind X.prog X.w) (kvs := vs) (ep := ep)) (I1.ok.hd hc) ⟨⟨_, Heap.get?_push_size _ rfl, rfl, rfl⟩, hat.push _⟩ (by omega) fun h' tk acc c' hk hD hacc => ?_
  have ev : acc.toList = vs.map (·.2) := PySem.W.kdl_vals_eq acc.toList (by rw [Array.length_toList]; exact hacc.1) fun j v e => hacc.2 j v (by rw [← Array.getElem?_toList]; exact e)
  refine ⟨.ref _, upd H1 (s1.heap.push { cls := .type "dict_values", data := .fields #[.ref d] }).objs.size (.lst (kvs.map (·.2))), I2.laid (t' := tk) hk (Nat.le_refl _)
    (show ObjOk X.prog X.w _ _ _ (.lst (kvs.map (·.2))) from ⟨by rw [List.length_map]; exact hz, acc.toList, c', by rw [ev]; exact kv_vals kv, by rw [Array.toArray_toList]; exact hD⟩), rfl, q _ (I2.hok.fresh (Nat.le_refl _))⟩
end
end AbR

/-! ## R5 -/
set_option Elab.async false
set_option linter.all false
set_option maxRecDepth 100000
set_option maxHeartbeats 4000000
/-! R5: name = {k: v for ..} -/
namespace AbR
open PySem PySem.Spec PyProof.Rows L2
section
variable {X : Cx}
theorem ps_setDc {i : Nat} {y : Str} {py : Pos} {kx vx tg iter : Expr} {ifs : List Expr} {scope : Scope} {own : List (Str × Nat)} {pos spos : Pos} {wi : TI} {g : TG} {tt : TT} {tk tv : TE} (hc : X.calm = true) (hN : X.N.Nodup) (hy : X.N[i]? = some y) (hyl : X.env.scope.names.lookup y = some .local)
    (hsw : swapsWith (.DictComp kx vx [⟨tg, iter, ifs, 0⟩] scope pos) (some (.Name y py)) spos.line X.env = pure true) (hi : PI X tg iter wi) (ok : BlkOk X.N X.env.scope scope own)
    (hg : ∀ (s : Shared) (H : Hp) (C : Addr) (cl : List (Str × Addr)) (fp : List Addr), PG (X.blk s H scope (compEnvC scope cl C X.env) fp) tg g) (ht : ∀ (s : Shared) (H : Hp) (C : Addr) (cl : List (Str × Addr)) (fp : List Addr), PTs (X.blk s H scope (compEnvC scope cl C X.env) fp) ifs tt)
    (hk : ∀ (s : Shared) (H : Hp) (C : Addr) (cl : List (Str × Addr)) (fp : List Addr), PE (X.blk s H scope (compEnvC scope cl C X.env) fp) kx tk)
    (he : ∀ (s : Shared) (H : Hp) (C : Addr) (cl : List (Str × Addr)) (fp : List Addr), PE (X.blk s H scope (compEnvC scope cl C X.env) fp) vx tv) (hs : ∀ x, foldedSetIterable iter X.env x = pure x := by intro _; rfl) :
    PS X (.Assign [.Name y py] (.DictComp kx vx [⟨tg, iter, ifs, 0⟩] scope pos) spos) (tAsg (tDc wi g tt tk tv (own.map (·.2))) (gName i)) := by
  refine ⟨fun pins s σ H D I h => ?_⟩
  rw [exec_Assign_Name_used _ _ _ _ hsw]
  refine wpAny_bind (wpAny_standAt (wpAny_bind ?_))
  show wpAny _ X.A (do let _ ← comprehension (.DictComp kx vx [⟨tg, iter, ifs, 0⟩] scope pos) scope X.env (firstIterPos [⟨tg, iter, ifs, 0⟩] pos) newDict false (eval iter X.env) (some (assign (.Name y py) X.env))) _ _ s
  have h : tDc wi g tt tk tv (own.map (·.2)) σ H (fun x H1 => gName i x σ H1 D.nx) := h
  refine wpAny_bind (thn (dc_core (Qf := fun _ s' => SP X pins D .next s') hc hN I hi ok hg ht hk he hs h fun L C s' m H' I' q hn f => ?_) fun _ s' hq => wpAny_pure (wpAny_pure hq))
  show wpAny _ _ (assign (.Name y py) X.env (.ref L)) _ _ _
  refine wpAny_assign_Name (store_ok2 (v := V.ref L) I' hN hy (.inl hyl) rfl (fun s2 I2 ⟨a, sb, ha⟩ => ?_) (.inr hyl))
  obtain ⟨f0, f1, f2, f3, f4, f5⟩ := f
  have haC : C ≠ a := by
    rcases ha with z | z
    · rw [z]; exact f1
    · exact fun e => f4 y a z e.symm
  refine ⟨m, hn.sameBut sb haC, fun h3 sb3 => ?_⟩
  exact ⟨_, H', I2.turned (t' := s2.toks) (fun b o hb e => (sb3.2 b hb).trans e) f0 f1 f3 f4 f5, q⟩
theorem sw_trueD {kx vx : Expr} {gs : List Comprehension} {scope : Scope} {pos py : Pos} {y : Str} {l : Nat} {env : Env} (hk : env.scope.kind = .function) (hy : env.scope.names.lookup y = some .local) (hl : (py.line == pos.line) = true)
    (ha : (scope.names.any fun (n, k) => n == y && (k == .local || k == .cell)) = false) : swapsWith (.DictComp kx vx gs scope pos) (some (.Name y py)) l env = pure true := by
  have ky : env.kindOf y = some .local := hy
  have hb : env.blockKind = .function := by unfold Env.blockKind; rw [hk]; rfl
  unfold swapsWith
  simp only [hb, ky, ha, Expr.pos, hl]
  rfl
end
end AbR

/-! ## R7 -/
set_option Elab.async false
set_option linter.all false
set_option maxRecDepth 100000
set_option maxHeartbeats 4000000
/-! R7: zip of any two things whose iterators are known: here a list and a tuple -/
namespace AbR
open PySem PySem.Spec PyProof.Rows L2
open PySem.Builtin.SmallTypes (nextOf ownedTupleIsFree ownedTupleHandOut)
/-- `it` walks what stands at l: I tells the turn, L the items -/
structure Src (it l : Addr) (I : Nat → Heap → Prop) (L : Array Value → Heap → Prop) : Prop where
  atI : ∀ {i : Nat} {h h' : Heap}, I i h → (∀ o, h.get? it = some o → h'.get? it = some o) → I i h'
  atL : ∀ {xs : Array Value} {h h' : Heap}, L xs h → (∀ o, h.get? l = some o → h'.get? l = some o) → L xs h'
  flds : ∀ {i : Nat} {h : Heap}, I i h → ∃ o c, h.get? it = some o ∧ o.data = .fields c
  item : ∀ {prog : Program} {w : World} {A : Around} {E : Value → Shared → Prop} {s : Shared} {i : Nat} {xs : Array Value} {x : Value} {Q : Value → Shared → Prop}, I i s.heap → L xs s.heap → xs[i]? = some x →
    (∀ h', I (i + 1) h' → Heap.SameBut it s.heap h' → Q x { s with heap := h' }) → wpAny (model prog w) A (nextOf (.ref it)) Q E s
  done : ∀ {prog : Program} {w : World} {A : Around} {E : Value → Shared → Prop} {s : Shared} {i : Nat} {xs : Array Value} {Q : Value → Shared → Prop}, A.handled = none → I i s.heap → L xs s.heap → xs[i]? = none →
    (∀ h' e, Heap.ExtBut it s.heap h' → (∃ o, h'.get? e = some o ∧ o.cls = .type "StopIteration") → E (.ref e) { s with heap := h' }) → wpAny (model prog w) A (nextOf (.ref it)) Q E s
theorem srcList (it l : Addr) : Src it l (fun i h => h.IsListIter it l i) (fun xs h => h.IsList l xs) where
  atI := fun x k => x.at k
  atL := fun x k => x.at k
  flds := fun ⟨o, e, _, d⟩ => ⟨o, _, e, d⟩
  item := fun a b c d => wpAny_nextOf_list_item a b c d
  done := fun a b c d e => wpAny_nextOf_list_end a b c d e
theorem srcTup (it l : Addr) : Src it l (fun i h => h.IsTupleIter it l i) (fun xs h => h.IsTuple l xs) where
  atI := fun x k => x.at k
  atL := fun x k => x.at k
  flds := fun ⟨o, e, _, d⟩ => ⟨o, _, e, d⟩
  item := fun a b c d => RZ.nextOf_tuple_item a b c d
  done := fun a b c d e => RZ.nextOf_tuple_end a b c d e
/-- kept, but at some places -/
def Kp (bad : List Addr) (h h' : Heap) : Prop := ∀ c o, c ∉ bad → h.get? c = some o → h'.get? c = some o
theorem Kp.rfl' {bad : List Addr} {h : Heap} : Kp bad h h := fun _ _ _ e => e
theorem Kp.same {bad : List Addr} {a : Addr} {h h1 h2 : Heap} (k : Kp bad h h1) (s : Heap.SameBut a h1 h2) (ha : a ∈ bad) : Kp bad h h2 := fun c o n e => s.extBut c o (fun z => n (z ▸ ha)) (k c o n e)
theorem Kp.ext {bad : List Addr} {a : Addr} {h h1 h2 : Heap} (k : Kp bad h h1) (s : Heap.ExtBut a h1 h2) (ha : a ∈ bad) : Kp bad h h2 := fun c o n e => s c o (fun z => n (z ▸ ha)) (k c o n e)
section
variable {prog : Program} {w : World} {A : Around} {E : Value → Shared → Prop} {s : Shared} {z TI TO i1 i2 l1 l2 : Addr} {I1 I2 : Nat → Heap → Prop} {L1 L2 : Array Value → Heap → Prop}
theorem zg_item {k1 k2 : Nat} {xs ys : Array Value} {x y a b : Value} {Q : Option Value → Shared → Prop} (S1 : Src i1 l1 I1 L1) (S2 : Src i2 l2 I2 L2) (D : ZipApart z TI TO i1 i2 l1 l2)
    (hz : IsZip s.heap z TI TO .none) (hTI : IsPair s.heap TI (.ref i1) (.ref i2)) (hTO : IsPair s.heap TO a b) (h1 : I1 k1 s.heap) (h2 : I2 k2 s.heap) (hl1 : L1 xs s.heap) (hl2 : L2 ys s.heap) (hx : xs[k1]? = some x) (hy : ys[k2]? = some y)
    (hQ : ∀ h', IsZip h' z TI TO (rawInt s.heap.objs.size) → IsPair h' TO x y → I1 (k1 + 1) h' → I2 (k2 + 1) h' → IsPair h' s.heap.objs.size x y → h'.objs.size = s.heap.objs.size + 1 → Kp [z, TO, i1, i2] s.heap h' → Q (some (.ref s.heap.objs.size)) { s with heap := h' }) :
    wpAny (model prog w) A (pyNext (.ref z)) Q E s := by
  have hT : s.TypeIs (.ref z) "zip" := ⟨_, hz, rfl⟩
  unfold pyNext
  refine wpAny_bind (wpAny_attempt (wpAny_callSpecial?_slot (name := Str.ofString "__next__") hT F.slot_zip_next (wpAny_call_entry F.slot_zip_next hT F.entry_zip_next ?_ (F.args_zip_next_1 _))))
  show wpAny _ _ (field (.ref z) 2 >>= _) _ _ _
  refine wpAny_bind (wpAny_field hz rfl (x := .bool false) rfl ?_)
  show wpAny _ _ (field (.ref z) 3 >>= _) _ _ _
  refine wpAny_bind (wpAny_field hz rfl (x := .ref TI) rfl (wpAny_bind (wpAny_seqItems hTI rfl ?_)))
  show wpAny _ _ (ownedTupleIsFree (.ref z) >>= _) _ _ _
  refine wpAny_bind ?_
  unfold ownedTupleIsFree
  refine wpAny_bind (wpAny_field hz rfl (x := .none) rfl (wpAny_pure ?_))
  simp only [if_true]
  refine wpAny_bind (wpAny_rule ?_)
  refine wpAny_bind (wpAny_field hz rfl (x := .ref TO) rfl (wpAny_bind (wpAny_setField_rec hz (by simp) fun g1 z1 s1 => ?_)))
  replace z1 : IsZip g1 z TI TO .ellipsis := z1
  have m1 : z ∈ [z, TO, i1, i2] := by simp
  have m2 : TO ∈ [z, TO, i1, i2] := by simp
  have m3 : i1 ∈ [z, TO, i1, i2] := by simp
  have m4 : i2 ∈ [z, TO, i1, i2] := by simp
  have q1 : Kp [z, TO, i1, i2] s.heap g1 := Kp.rfl'.same s1 m1
  refine wpAny_bind ?_
  simp only [List.zipIdx_cons, List.zipIdx_nil, List.forIn_cons, List.forIn_nil]
  -- the first
  refine wpAny_bind (wpAny_bind (wpAny_onRaise ?_))
  show wpAny _ _ (nextOf (.ref i1) >>= _) _ _ _
  refine wpAny_bind (S1.item (S1.atI h1 fun o e => s1.extBut _ _ D.i1z e) (S1.atL hl1 fun o e => s1.extBut _ _ D.l1z e) hx fun g2 i1' s2 => wpAny_pure ?_)
  have q2 := q1.same s2 m3
  have t2 : IsPair g2 TO a b := s2.extBut _ _ D.TOi1 (s1.extBut _ _ D.TOz hTO)
  refine wpAny_bind (wpAny_seqItems t2 rfl (wpAny_bind (wpAny_updateSeq_pair t2 fun g3 t3 s3 => ?_)))
  replace t3 : IsPair g3 TO x b := t3
  have q3 := q2.same s3 m2
  refine wpAny_bind (wpAny_letGo (wpAny_pure ?_))
  -- the second
  refine wpAny_bind (wpAny_bind (wpAny_onRaise ?_))
  show wpAny _ _ (nextOf (.ref i2) >>= _) _ _ _
  have c2 : ∀ o, s.heap.get? i2 = some o → g3.get? i2 = some o := fun o e => s3.extBut _ _ D.TOi2.symm (s2.extBut _ _ D.i12.symm (s1.extBut _ _ D.i2z e))
  have d2 : ∀ o, s.heap.get? l2 = some o → g3.get? l2 = some o := fun o e => s3.extBut _ _ D.l2TO (s2.extBut _ _ D.l2i1 (s1.extBut _ _ D.l2z e))
  refine wpAny_bind (S2.item (S2.atI h2 c2) (S2.atL hl2 d2) hy fun g4 i2' s4 => wpAny_pure ?_)
  have q4 := q3.same s4 m4
  have t4 : IsPair g4 TO x b := s4.extBut _ _ D.TOi2 t3
  refine wpAny_bind (wpAny_seqItems t4 rfl (wpAny_bind (wpAny_updateSeq_pair t4 fun g5 t5 s5 => ?_)))
  replace t5 : IsPair g5 TO x y := t5
  have q5 := q4.same s5 m2
  refine wpAny_bind (wpAny_letGo (wpAny_pure (wpAny_pure ?_)))
  -- the new pair
  refine wpAny_bind (wpAny_seqItems t5 rfl (wpAny_bind (wpAny_newTuple ?_)))
  have hsz : g5.objs.size = s.heap.objs.size := by rw [s5.1, s4.1, s3.1, s2.1, s1.1]
  have z5 : IsZip g5 z TI TO .ellipsis := s5.extBut _ _ D.TOz.symm (s4.extBut _ _ D.i2z.symm (s3.extBut _ _ D.TOz.symm (s2.extBut _ _ D.i1z.symm z1)))
  have lz : z < g5.objs.size := Heap.lt_size z5
  have z6 : IsZip (g5.push { cls := .type "tuple", data := .seq #[x, y] }) z TI TO .ellipsis := Heap.get?_push_of_some _ z5
  show wpAny _ _ (ownedTupleHandOut (.ref z) (.ref g5.objs.size) >>= _) _ _ _
  refine wpAny_bind ?_
  unfold ownedTupleHandOut
  refine wpAny_bind (wpAny_setField_rec z6 (by simp) fun g7 z7 s7 => ?_)
  replace z7 : IsZip g7 z TI TO (rawInt g5.objs.size) := z7
  refine wpAny_setField_rec z7 (by simp) fun g8 z8 s8 => ?_
  replace z8 : IsZip g8 z TI TO (rawInt g5.objs.size) := z8
  have up : ∀ c o, c ≠ z → g5.get? c = some o → g8.get? c = some o := fun c o n e => s8.extBut _ _ n (s7.extBut _ _ n (Heap.get?_push_of_some _ e))
  have np : IsPair g8 g5.objs.size x y := s8.extBut _ _ (Nat.ne_of_gt lz) (s7.extBut _ _ (Nat.ne_of_gt lz) (Heap.get?_push_size _ rfl))
  have sz8 : g8.objs.size = g5.objs.size + 1 := by rw [s8.1, s7.1, Heap.size_push]
  rw [hsz] at z8 np sz8
  refine wpAny_pure ⟨_, rfl, wpAny_pure ?_⟩
  show Q (some (.ref g5.objs.size)) _
  rw [hsz]
  refine hQ g8 z8 (up _ _ D.TOz t5) (S1.atI i1' fun o e => up _ o D.i1z (s5.extBut _ _ D.TOi1.symm (s4.extBut _ _ D.i12 (s3.extBut _ _ D.TOi1.symm e)))) (S2.atI i2' fun o e => up _ o D.i2z (s5.extBut _ _ D.TOi2.symm e)) np sz8 fun c o n e => ?_
  exact up c o (fun e' => n (e' ▸ m1)) (q5 c o n e)
theorem zg_end {k1 k2 : Nat} {xs ys : Array Value} {a b : Value} {Q : Option Value → Shared → Prop} (S1 : Src i1 l1 I1 L1) (S2 : Src i2 l2 I2 L2) (hh : A.handled = none) (D : ZipApart z TI TO i1 i2 l1 l2)
    (hz : IsZip s.heap z TI TO .none) (hTI : IsPair s.heap TI (.ref i1) (.ref i2)) (hTO : IsPair s.heap TO a b) (h1 : I1 k1 s.heap) (h2 : I2 k2 s.heap) (hl1 : L1 xs s.heap) (hl2 : L2 ys s.heap) (he : xs[k1]? = none ∨ ys[k2]? = none)
    (hQ : ∀ h', Kp [z, TO, i1, i2] s.heap h' → Q none { s with heap := h' }) : wpAny (model prog w) A (pyNext (.ref z)) Q E s := by
  have hT : s.TypeIs (.ref z) "zip" := ⟨_, hz, rfl⟩
  have m1 : z ∈ [z, TO, i1, i2] := by simp
  have m2 : TO ∈ [z, TO, i1, i2] := by simp
  have m3 : i1 ∈ [z, TO, i1, i2] := by simp
  have m4 : i2 ∈ [z, TO, i1, i2] := by simp
  unfold pyNext
  refine wpAny_bind (wpAny_attempt (wpAny_callSpecial?_slot (name := Str.ofString "__next__") hT F.slot_zip_next (wpAny_call_entry F.slot_zip_next hT F.entry_zip_next ?_ (F.args_zip_next_1 _))))
  have fin : ∀ {h' : Heap} {e : Addr}, Kp [z, TO, i1, i2] s.heap h' → (∃ o, h'.get? e = some o ∧ o.cls = .type "StopIteration") →
      wpAny (model prog w) A (isInstance (.ref e) (.type "StopIteration") >>= fun r => if r = true then pure none else throw (.ref e)) Q E { s with heap := h' } := fun {h' e} k ⟨o, ho, hc⟩ =>
    wpAny_bind (wpAny_isInstance (T := "StopIteration") (b := true) ⟨o, ho, hc⟩ isSubtype_stop (wpAny_pure (hQ _ k)))
  show wpAny _ _ (field (.ref z) 2 >>= _) _ _ _
  refine wpAny_bind (wpAny_field hz rfl (x := .bool false) rfl ?_)
  show wpAny _ _ (field (.ref z) 3 >>= _) _ _ _
  refine wpAny_bind (wpAny_field hz rfl (x := .ref TI) rfl (wpAny_bind (wpAny_seqItems hTI rfl ?_)))
  show wpAny _ _ (ownedTupleIsFree (.ref z) >>= _) _ _ _
  refine wpAny_bind ?_
  unfold ownedTupleIsFree
  refine wpAny_bind (wpAny_field hz rfl (x := .none) rfl (wpAny_pure ?_))
  simp only [if_true]
  refine wpAny_bind (wpAny_rule ?_)
  refine wpAny_bind (wpAny_field hz rfl (x := .ref TO) rfl (wpAny_bind (wpAny_setField_rec hz (by simp) fun g1 z1 s1 => ?_)))
  replace z1 : IsZip g1 z TI TO .ellipsis := z1
  have q1 : Kp [z, TO, i1, i2] s.heap g1 := Kp.rfl'.same s1 m1
  refine wpAny_bind ?_
  simp only [List.zipIdx_cons, List.zipIdx_nil, List.forIn_cons, List.forIn_nil]
  refine wpAny_bind (wpAny_bind (wpAny_onRaise ?_))
  show wpAny _ _ (nextOf (.ref i1) >>= _) _ _ _
  have c1 := S1.atI h1 (h' := g1) fun o e => s1.extBut _ _ D.i1z e
  have d1 := S1.atL hl1 (h' := g1) fun o e => s1.extBut _ _ D.l1z e
  cases hx : xs[k1]? with
  | none =>
    refine wpAny_bind (S1.done hh c1 d1 hx fun g2 e s2 hn => ?_)
    obtain ⟨oe, hoe, hce⟩ := hn
    have z2 : IsZip g2 z TI TO .ellipsis := s2 _ _ D.i1z.symm z1
    have ne : e ≠ z := fun q => by subst q; rw [z2] at hoe; cases hoe; simp at hce
    exact wpAny_setField_rec z2 (by simp) fun g3 _ s3 => fin ((q1.ext s2 m3).same s3 m1) ⟨oe, s3.extBut _ _ ne hoe, hce⟩
  | some x =>
    have hy : ys[k2]? = none := he.resolve_left (by rw [hx]; simp)
    refine wpAny_bind (S1.item c1 d1 hx fun g2 i1' s2 => wpAny_pure ?_)
    have q2 := q1.same s2 m3
    have t2 : IsPair g2 TO a b := s2.extBut _ _ D.TOi1 (s1.extBut _ _ D.TOz hTO)
    refine wpAny_bind (wpAny_seqItems t2 rfl (wpAny_bind (wpAny_updateSeq_pair t2 fun g3 t3 s3 => ?_)))
    have q3 := q2.same s3 m2
    refine wpAny_bind (wpAny_letGo (wpAny_pure ?_))
    refine wpAny_bind (wpAny_bind (wpAny_onRaise ?_))
    show wpAny _ _ (nextOf (.ref i2) >>= _) _ _ _
    have c2 : ∀ o, s.heap.get? i2 = some o → g3.get? i2 = some o := fun o e => s3.extBut _ _ D.TOi2.symm (s2.extBut _ _ D.i12.symm (s1.extBut _ _ D.i2z e))
    have d2 : ∀ o, s.heap.get? l2 = some o → g3.get? l2 = some o := fun o e => s3.extBut _ _ D.l2TO (s2.extBut _ _ D.l2i1 (s1.extBut _ _ D.l2z e))
    refine wpAny_bind (S2.done hh (S2.atI h2 c2) (S2.atL hl2 d2) hy fun g4 e s4 hn => ?_)
    obtain ⟨oe, hoe, hce⟩ := hn
    have z4 : IsZip g4 z TI TO .ellipsis := s4 _ _ D.i2z.symm (s3.extBut _ _ D.TOz.symm (s2.extBut _ _ D.i1z.symm z1))
    have ne : e ≠ z := fun q => by subst q; rw [z4] at hoe; cases hoe; simp at hce
    exact wpAny_setField_rec z4 (by simp) fun g5 _ s5 => fin ((q3.ext s4 m4).same s5 m1) ⟨oe, s5.extBut _ _ ne hoe, hce⟩
end
/-! ### zip(list, tuple) -/
/-- a new pair at each turn: of the list at a and of the tuple at b, as they stand then -/
def ItzM (K : PySem.W.Frag) (a b : Addr) : It :=
  ⟨fun i H => ∃ (xs ys : List V) (x y : V), SqL K H a xs ∧ SqT K H b ys ∧ xs[i]? = some x ∧ ys[i]? = some y,
    fun i H v H' => ∃ T x y, v = .ref T ∧ H T = none ∧ H' = upd H T (.tup [x, y]) ∧ (∀ xs, SqL K H a xs → xs[i]? = some x) ∧ ∀ ys, SqT K H b ys → ys[i]? = some y,
    fun i H => ∃ xs ys : List V, SqL K H a xs ∧ SqT K H b ys ∧ (xs.length ≤ i ∨ ys.length ≤ i)⟩
theorem list_inj {X : Cx} {pins : List (Addr × Obj)} {σ : L2.St} {H : Hp} {s : Shared} {a : Addr} {xs ys : List V} (I : Inv X pins σ H s) (h : SqL X.K H a xs) (h' : SqL X.K H a ys) : ys = xs := I.list_inj h' h
theorem turn_zipM {P : Program} {w : World} {K : PySem.W.Frag} {elts : List Expr} {kk : Nat} {tpos : Pos} {a b z TI TO i1 i2 : Addr} (D : ZipApart z TI TO i1 i2 a b) :
    Turn P w K (.Tuple elts kk tpos) (ItzM K a b) [z, TI, TO, i1, i2] z (fun i h => IsZip h z TI TO .none ∧ IsPair h TI (.ref i1) (.ref i2) ∧ (∃ x y, IsPair h TO x y) ∧ h.IsListIter i1 a i ∧ h.IsTupleIter i2 b i) where
  mem := by simp
  obj := fun i h st c hc => by
    obtain ⟨hz, hTI, ⟨x, y, hTO⟩, ⟨o1, e1, _, d1⟩, ⟨o2, e2, _, d2⟩⟩ := st
    simp only [List.mem_cons, List.not_mem_nil, or_false] at hc
    rcases hc with q | q | q | q | q <;> subst q
    · exact ⟨_, hz, fun v q => nomatch q⟩
    · exact ⟨_, hTI, fun v q => nomatch q⟩
    · exact ⟨_, hTO, fun v q => nomatch q⟩
    · exact ⟨o1, e1, fun v q => by rw [d1] at q; cases q⟩
    · exact ⟨o2, e2, fun v q => by rw [d2] at q; cases q⟩
  keep := fun i h h' st k => by
    obtain ⟨hz, hTI, ⟨x, y, hTO⟩, h1, h2⟩ := st
    exact ⟨k z (by simp) _ hz, k TI (by simp) _ hTI, ⟨x, y, k TO (by simp) _ hTO⟩, h1.at fun o q => k i1 (by simp) o q, h2.at fun o q => k i2 (by simp) o q⟩
  item := by
    intro X hP hw hK hc i pins s σ H E I hf st hg
    subst hP hw hK
    obtain ⟨hz, hTI, ⟨x0, y0, hTO⟩, h1, h2⟩ := st
    obtain ⟨xs, ys, x, y, hqx, hqy, hx, hy⟩ := hg
    obtain ⟨its, rv, p, _⟩ := I.list hqx
    obtain ⟨its2, rv2, p2, _⟩ := I.tuple hqy
    obtain ⟨u, hu, ru⟩ := rv.get hx
    obtain ⟨u2, hu2, ru2⟩ := rv2.get hy
    have hzl : z < s.heap.objs.size := Heap.lt_size hz
    refine zg_item (srcList i1 a) (srcTup i2 b) D hz hTI hTO h1 h2 p.isList p2 (x := u) (y := u2) (by simpa using hu) (by simpa using hu2) fun h' z' TO' h1' h2' hT hsz hk => ?_
    refine ⟨_, rfl, wpAny_letOwnedTupleGo_zip (s := { s with heap := h' }) z' fun h'' z'' sb => ?_⟩
    have hT2 : h''.get? s.heap.objs.size = some { cls := .type "tuple", data := .seq #[u, u2] } := (sb.2 _ (Nat.ne_of_gt hzl)).trans hT
    have new : ObjOk X.prog X.w (upd H s.heap.objs.size (.tup [x, y])) h'' s.heap.objs.size (.tup [x, y]) :=
      ⟨by show 2 ≤ sizeLine; decide, [u, u2], .cons ru (.cons ru2 .nil), ⟨_, hT2, rfl, _, rfl⟩⟩
    have I1 : Inv X pins σ (upd H s.heap.objs.size (.tup [x, y])) { s with heap := h'' } :=
      I.turnedNew (t' := s.toks) (ch := [z, TI, TO, i1, i2]) (fun c o hb q => (sb.2 c (fun q' => hb (by simp [q']))).trans (hk c o (fun q' => hb (by simp at q'; rcases q' with q' | q' | q' | q' <;> simp [q'])) q)) hf (Nat.le_refl _) new
    refine ⟨.ref s.heap.objs.size, _, I1, rfl, ⟨_, x, y, rfl, I.hok.fresh (Nat.le_refl _), rfl, fun l hl => by rw [list_inj I hqx hl]; exact hx, fun l hl => by rw [I.tuple_inj hl hqy]; exact hy⟩, ⟨z'', ?_, ⟨u, u2, ?_⟩, ?_, ?_⟩, fun c hcm => ?_⟩
    · refine (sb.2 _ D.TIz).trans (hk _ _ (fun q => ?_) hTI)
      simp at q
      rcases q with q | q | q | q
      · exact D.TIz q
      · exact D.TITO q
      · exact D.TIi1 q
      · exact D.TIi2 q
    · exact (sb.2 _ D.TOz).trans TO'
    · exact h1'.at fun o q => (sb.2 _ D.i1z).trans q
    · exact h2'.at fun o q => (sb.2 _ D.i2z).trans q
    · have hlt : c < s.heap.objs.size := by
        simp only [List.mem_cons, List.not_mem_nil, or_false] at hcm
        rcases hcm with q | q | q | q | q
        · rw [q]; exact hzl
        · rw [q]; exact Heap.lt_size hTI
        · rw [q]; exact Heap.lt_size hTO
        · rw [q]; obtain ⟨_, e1, _⟩ := h1; exact Heap.lt_size e1
        · rw [q]; obtain ⟨_, e2, _⟩ := h2; exact Heap.lt_size e2
      rw [upd_ne (Nat.ne_of_lt hlt)]
      exact (hf c hcm).1
  done := by
    intro X hP hw hK hc i pins s σ H E I hf st hg
    subst hP hw hK
    obtain ⟨hz, hTI, ⟨x0, y0, hTO⟩, h1, h2⟩ := st
    obtain ⟨xs, ys, hqx, hqy, hend⟩ := hg
    obtain ⟨its, rv, p, _⟩ := I.list hqx
    obtain ⟨its2, rv2, p2, _⟩ := I.tuple hqy
    have l1 := rv.length
    have l2 := rv2.length
    have he : its.toArray[i]? = none ∨ its2.toArray[i]? = none := by
      rcases hend with q | q
      · exact .inl (by simp; omega)
      · exact .inr (by simp; omega)
    exact zg_end (srcList i1 a) (srcTup i2 b) (I.ok.hd hc) D hz hTI hTO h1 h2 p.isList p2 he fun h' hk => ⟨rfl, I.turnedL (t' := s.toks) (ch := [z, TI, TO, i1, i2]) (fun c o hb q => hk c o (fun q' => hb (by simp at q'; rcases q' with q' | q' | q' | q' <;> simp [q'])) q) hf⟩
  self := fun A i s Q E st h => wpAny_pyIter_zip st.1 h
abbrev zm1 (h : Heap) (l1 : Addr) : Heap := h.push { cls := .type "list_iterator", data := .fields #[.ref l1, .int 0 0] }
abbrev zm2 (h : Heap) (l1 l2 : Addr) : Heap := (zm1 h l1).push { cls := .type "tuple_iterator", data := .fields #[.ref l2, .int 0 0] }
abbrev zm3 (h : Heap) (l1 l2 : Addr) : Heap := (zm2 h l1 l2).push { cls := .type "tuple", data := .seq #[.ref h.objs.size, .ref (zm1 h l1).objs.size] }
abbrev zm4 (h : Heap) (l1 l2 : Addr) : Heap := (zm3 h l1 l2).push { cls := .type "tuple", data := .seq #[.none, .none] }
abbrev zm5 (h : Heap) (l1 l2 : Addr) : Heap := (zm4 h l1 l2).push { cls := .type "zip", data := .fields #[.none, .bool false, .bool false, .ref (zm2 h l1 l2).objs.size, .ref (zm3 h l1 l2).objs.size] }
theorem meets_zm (l1 l2 : Addr) (xs ys : Array Value) :
    Meets (Builtin.«zip.__new__» ⟨[.type "zip", .ref l1, .ref l2], []⟩) (fun _ R s => s.heap.IsList l1 xs ∧ s.heap.IsTuple l2 ys ∧ R (.ok (.ret (.ref (zm4 s.heap l1 l2).objs.size))) { s with heap := zm5 s.heap l1 l2 }) :=
  .of_wp fun prog w A R s h => by
    obtain ⟨hp, g, d, tk, os⟩ := s; obtain ⟨h1, h2, h⟩ := h
    have hsub := sub_zip
    have a1 : Heap.IsList (Shared.heap ⟨hp, g, d, tk, os⟩) l1 xs := h1
    have a2 : Heap.IsTuple (Shared.heap ⟨hp.push { cls := .type "list_iterator", data := .fields #[.ref l1, .int 0 0] }, g, d, tk, os⟩) l2 ys := Heap.IsTuple.push h2 _
    wp_walk using wpAny_pyIter_list a1, wpAny_pyIter_tuple a2
    exact ⟨_, rfl, h⟩
theorem call_zm {prog : Program} {w : World} {A : Around} {E : Value → Shared → Prop} {s : Shared} {l1 l2 : Addr} {xs ys : Array Value} {Q : Value → Shared → Prop} (hl1 : s.heap.IsList l1 xs) (hl2 : s.heap.IsTuple l2 ys)
    (h : ∀ h', IsZip h' (s.heap.objs.size + 4) (s.heap.objs.size + 2) (s.heap.objs.size + 3) .none → IsPair h' (s.heap.objs.size + 2) (.ref s.heap.objs.size) (.ref (s.heap.objs.size + 1)) → IsPair h' (s.heap.objs.size + 3) .none .none →
      h'.IsListIter s.heap.objs.size l1 0 → h'.IsTupleIter (s.heap.objs.size + 1) l2 0 → h'.objs.size = s.heap.objs.size + 5 → (∀ c o, s.heap.get? c = some o → h'.get? c = some o) → Q (.ref (s.heap.objs.size + 4)) { s with heap := h' }) :
    wpAny (model prog w) A (call (.type "zip") [.ref l1, .ref l2]) Q E s := by
  refine callType_new F.called_zip (by decide) (F.typeCall_zip_2 _ _) (F.newCall_zip_2 _ _) (fun obj => F.args_object_init_3 obj _ _) F.entry_zip_new (meets_zm l1 l2 xs ys) ⟨hl1, hl2, ?_⟩
  have n1 : (zm1 s.heap l1).objs.size = s.heap.objs.size + 1 := Heap.size_push ..
  have n2 : (zm2 s.heap l1 l2).objs.size = s.heap.objs.size + 2 := by rw [Heap.size_push, n1]
  have n3 : (zm3 s.heap l1 l2).objs.size = s.heap.objs.size + 3 := by rw [Heap.size_push, n2]
  have n4 : (zm4 s.heap l1 l2).objs.size = s.heap.objs.size + 4 := by rw [Heap.size_push, n3]
  have n5 : (zm5 s.heap l1 l2).objs.size = s.heap.objs.size + 5 := by rw [Heap.size_push, n4]
  have p4 : ∀ {c : Addr} {o : Obj}, (zm4 s.heap l1 l2).get? c = some o → (zm5 s.heap l1 l2).get? c = some o := fun e => Heap.get?_push_of_some _ e
  have p3 : ∀ {c : Addr} {o : Obj}, (zm3 s.heap l1 l2).get? c = some o → (zm5 s.heap l1 l2).get? c = some o := fun e => p4 (Heap.get?_push_of_some _ e)
  have p2 : ∀ {c : Addr} {o : Obj}, (zm2 s.heap l1 l2).get? c = some o → (zm5 s.heap l1 l2).get? c = some o := fun e => p3 (Heap.get?_push_of_some _ e)
  have p1 : ∀ {c : Addr} {o : Obj}, (zm1 s.heap l1).get? c = some o → (zm5 s.heap l1 l2).get? c = some o := fun e => p2 (Heap.get?_push_of_some _ e)
  have g5 : (zm5 s.heap l1 l2).get? (zm4 s.heap l1 l2).objs.size = some _ := Heap.get?_push_size _ rfl
  have g4 : (zm5 s.heap l1 l2).get? (zm3 s.heap l1 l2).objs.size = some _ := p4 (Heap.get?_push_size _ rfl)
  have g3 : (zm5 s.heap l1 l2).get? (zm2 s.heap l1 l2).objs.size = some _ := p3 (Heap.get?_push_size _ rfl)
  have g2 : (zm5 s.heap l1 l2).get? (zm1 s.heap l1).objs.size = some _ := p2 (Heap.get?_push_size _ rfl)
  have g1 : (zm5 s.heap l1 l2).get? s.heap.objs.size = some _ := p1 (Heap.get?_push_size _ rfl)
  show _ ∧ _
  rw [n2, n3, n4] at g5
  rw [n1, n2] at g3
  rw [n3] at g4
  rw [n1] at g2
  rw [n4]
  exact ⟨⟨_, g5, rfl⟩, h _ g5 g3 g4 ⟨_, g1, rfl, rfl⟩ ⟨_, g2, rfl, rfl⟩ n5 fun c o x => p1 (Heap.get?_push_of_some _ x)⟩
def iZipM (K : PySem.W.Frag) (ta : TA) : TI := fun σ H R => ta σ H fun vs H1 => ∃ a b xs ys, vs = [.ref a, .ref b] ∧ SqL K H1 a xs ∧ SqT K H1 b ys ∧ R (ItzM K a b) H1
theorem pi_zipM {X : Cx} {K : PySem.W.Frag} {e e2 : Expr} {ta : TA} {p pos tpos : Pos} {elts : List Expr} {kk : Nat} (hK : X.K = K) (hg : Gl X "zip") (hm : X.mg "zip" = none) (ha : PA X [e, e2] ta)
    (hs : starEach [e, e2] X.env = (false, eval e X.env) :: starEach [e2] X.env := by rfl) (hpl : (backTo pos (starEach [e2] X.env)).any (·.1) = false := by rfl) :
    PI X (.Tuple elts kk tpos) (.Call (.Name "zip" p) [e, e2] [] pos) (iZipM K ta) := by
  subst hK
  refine ⟨fun pins s σ H R I h => ?_⟩
  refine Call_ (ld_blt I hg hm PyProof.Rows.boot_zip (PyProof.Rows.callWith_type1 (thn (ha.run pos pins s σ H _ I h) fun us s1 ⟨vs, H1, I1, r1, a, b, xs, ys, ex, hqx, hqy, q⟩ => ?_) hs hpl))
  subst ex
  cases r1 with
  | cons r rr =>
    cases rr with
    | cons r' rr =>
      cases rr
      cases r
      cases r'
      obtain ⟨its, rv, p1, _⟩ := I1.list hqx
      obtain ⟨its2, rv2, p2, _⟩ := I1.tuple hqy
      obtain ⟨o2, ho2, _⟩ := id p2
      refine call_zm p1.isList (show s1.heap.IsTuple b its2.toArray from p2) fun h' hz hTI hTO h1 h2 hsz hk => wpAny_pyIter_zip hz ?_
      have I2 : Inv X pins σ H1 { s1 with heap := h' } := I1.kept (t' := s1.toks) hk
      refine ⟨s1.heap.objs.size + 4, [s1.heap.objs.size + 4, s1.heap.objs.size + 2, s1.heap.objs.size + 3, s1.heap.objs.size, s1.heap.objs.size + 1], _, _, H1, rfl, I2, turn_zipM (PySem.W.ktu_apart s1.heap.objs.size a b p1.lt (Heap.lt_size ho2)), ⟨hz, hTI, ⟨_, _, hTO⟩, h1, h2⟩, fun c hcm => ?_, q⟩
      have hle : s1.heap.objs.size ≤ c := by
        simp only [List.mem_cons, List.not_mem_nil, or_false] at hcm
        rcases hcm with q | q | q | q | q <;> rw [q] <;> first | exact Nat.le_refl _ | exact Nat.le_add_right _ _
      exact I1.fpOk hle (I1.hok.fresh hle)
theorem walk_zipM {K : PySem.W.Frag} {a b : Addr} {xs ys : List V} {n : Nat} (hn : n = min xs.length ys.length) : Walk (ItzM K a b) n (fun H => SqL K H a xs ∧ SqT K H b ys) (YPair (fun i => xs[i]?) (fun i => ys[i]?)) := by
  subst hn
  refine ⟨fun i _ hi q => ?_, fun _ q => ⟨xs, ys, q.1, q.2, by omega⟩, fun i H v H' _ q y => ?_⟩
  · have h1 : i < xs.length := by omega
    have h2 : i < ys.length := by omega
    exact ⟨xs, ys, xs[i], ys[i], q.1, q.2, by simp [h1], by simp [h2]⟩
  · obtain ⟨T, x, z, h1, h2, h3, h4, h5⟩ := y
    exact ⟨T, x, z, h1, h2, h3, h4 xs q.1, h5 ys q.2⟩
end AbR

/-! ## R8 -/
set_option Elab.async false
set_option linter.all false
set_option maxRecDepth 100000
set_option maxHeartbeats 4000000
/-! R8: list(zip(list, tuple)) -/
namespace AbR
open PySem PySem.Spec PyProof.Rows L2
open PySem.Builtin.SmallTypes (nextOf ownedTupleIsFree ownedTupleHandOut)
section
variable {prog : Program} {w : World} {A : Around} {E : Value → Shared → Prop} {s : Shared} {z TI TO T i1 i2 l1 l2 : Addr} {f : Bool} {oT : Obj} {I1 I2 : Nat → Heap → Prop} {L1 L2 : Array Value → Heap → Prop}
/-- next while the pair given out before is still there -/
theorem zh_item {k1 k2 : Nat} {xs ys : Array Value} {x y : Value} {Q : Option Value → Shared → Prop} (S1 : Src i1 l1 I1 L1) (S2 : Src i2 l2 I2 L2) (D : ZipApart z TI TO i1 i2 l1 l2)
    (hz : IsZipHeld s.heap z TI TO T f) (hT : s.heap.get? T = some oT) (hTI : IsPair s.heap TI (.ref i1) (.ref i2)) (h1 : I1 k1 s.heap) (h2 : I2 k2 s.heap) (hl1 : L1 xs s.heap) (hl2 : L2 ys s.heap) (hx : xs[k1]? = some x) (hy : ys[k2]? = some y)
    (hQ : ∀ h', IsZipHeld h' z TI TO T true → I1 (k1 + 1) h' → I2 (k2 + 1) h' → IsPair h' s.heap.objs.size x y → h'.objs.size = s.heap.objs.size + 1 → Kp [z, i1, i2] s.heap h' → Q (some (.ref s.heap.objs.size)) { s with heap := h' }) :
    wpAny (model prog w) A (pyNext (.ref z)) Q E s := by
  have hTy : s.TypeIs (.ref z) "zip" := ⟨_, hz, rfl⟩
  have m1 : z ∈ [z, i1, i2] := by simp
  have m3 : i1 ∈ [z, i1, i2] := by simp
  have m4 : i2 ∈ [z, i1, i2] := by simp
  unfold pyNext
  refine wpAny_bind (wpAny_attempt (wpAny_callSpecial?_slot (name := Str.ofString "__next__") hTy F.slot_zip_next (wpAny_call_entry F.slot_zip_next hTy F.entry_zip_next ?_ (F.args_zip_next_1 _))))
  show wpAny _ _ (field (.ref z) 2 >>= _) _ _ _
  refine wpAny_bind (wpAny_field hz rfl (x := .bool false) rfl ?_)
  show wpAny _ _ (field (.ref z) 3 >>= _) _ _ _
  refine wpAny_bind (wpAny_field hz rfl (x := .ref TI) rfl (wpAny_bind (wpAny_seqItems hTI rfl ?_)))
  show wpAny _ _ (ownedTupleIsFree (.ref z) >>= _) _ _ _
  refine wpAny_bind (wpAny_tupleHeld_zip hz hT fun g1 z1 s1 => ?_)
  simp only [Bool.false_eq_true, if_false]
  refine wpAny_bind ?_
  rw [← Array.forIn_toList]
  simp only [List.forIn_cons, List.forIn_nil]
  refine wpAny_bind (wpAny_bind (wpAny_holding ?_))
  show wpAny _ _ (nextOf (.ref i1) >>= _) _ _ _
  refine wpAny_bind (S1.item (s := { s with heap := g1 }) (S1.atI h1 fun o e => s1.extBut _ _ D.i1z e) (S1.atL hl1 fun o e => s1.extBut _ _ D.l1z e) hx fun g2 i1' s2 => wpAny_pure (wpAny_pure ?_))
  refine wpAny_bind (wpAny_bind (wpAny_holding ?_))
  show wpAny _ _ (nextOf (.ref i2) >>= _) _ _ _
  refine wpAny_bind (S2.item (s := { s with heap := g2 }) (S2.atI h2 fun o e => s2.extBut _ _ D.i12.symm (s1.extBut _ _ D.i2z e)) (S2.atL hl2 fun o e => s2.extBut _ _ D.l2i1 (s1.extBut _ _ D.l2z e)) hy fun g3 i2' s3 => wpAny_pure (wpAny_pure (wpAny_pure ?_)))
  show wpAny _ _ (newTuple [x, y] >>= _) _ _ _
  refine wpAny_bind (wpAny_newTuple ?_)
  have hsz : g3.objs.size = s.heap.objs.size := by rw [s3.1, s2.1, s1.1]
  have q3 : Kp [z, i1, i2] s.heap g3 := ((Kp.rfl'.same s1 m1).same s2 m3).same s3 m4
  have z3 : IsZipHeld g3 z TI TO T true := s3.extBut _ _ D.i2z.symm (s2.extBut _ _ D.i1z.symm z1)
  have np : IsPair (g3.push { cls := .type "tuple", data := .seq #[x, y] }) g3.objs.size x y := Heap.get?_push_size _ rfl
  have sz : (g3.push { cls := .type "tuple", data := .seq #[x, y] }).objs.size = g3.objs.size + 1 := Heap.size_push ..
  refine wpAny_pure ⟨_, rfl, wpAny_pure ?_⟩
  show Q (some (.ref g3.objs.size)) _
  rw [hsz] at np sz ⊢
  exact hQ _ (Heap.get?_push_of_some _ z3) (S1.atI i1' fun o e => Heap.get?_push_of_some _ (s3.extBut _ _ D.i12 e)) (S2.atI i2' fun o e => Heap.get?_push_of_some _ e) np sz fun c o n e => Heap.get?_push_of_some _ (q3 c o n e)
theorem zh_end {k1 : Nat} {xs : Array Value} {Q : Option Value → Shared → Prop} (S1 : Src i1 l1 I1 L1) (S2 : Src i2 l2 I2 L2) (hh : A.handled = none) (D : ZipApart z TI TO i1 i2 l1 l2)
    (hz : IsZipHeld s.heap z TI TO T f) (hT : s.heap.get? T = some oT) (hTI : IsPair s.heap TI (.ref i1) (.ref i2)) (h1 : I1 k1 s.heap) (hl1 : L1 xs s.heap) (hx : xs[k1]? = none)
    (hQ : ∀ h', Kp [z, i1, i2] s.heap h' → Q none { s with heap := h' }) : wpAny (model prog w) A (pyNext (.ref z)) Q E s := by
  have hTy : s.TypeIs (.ref z) "zip" := ⟨_, hz, rfl⟩
  have m1 : z ∈ [z, i1, i2] := by simp
  have m3 : i1 ∈ [z, i1, i2] := by simp
  unfold pyNext
  refine wpAny_bind (wpAny_attempt (wpAny_callSpecial?_slot (name := Str.ofString "__next__") hTy F.slot_zip_next (wpAny_call_entry F.slot_zip_next hTy F.entry_zip_next ?_ (F.args_zip_next_1 _))))
  show wpAny _ _ (field (.ref z) 2 >>= _) _ _ _
  refine wpAny_bind (wpAny_field hz rfl (x := .bool false) rfl ?_)
  show wpAny _ _ (field (.ref z) 3 >>= _) _ _ _
  refine wpAny_bind (wpAny_field hz rfl (x := .ref TI) rfl (wpAny_bind (wpAny_seqItems hTI rfl ?_)))
  show wpAny _ _ (ownedTupleIsFree (.ref z) >>= _) _ _ _
  refine wpAny_bind (wpAny_tupleHeld_zip hz hT fun g1 z1 s1 => ?_)
  simp only [Bool.false_eq_true, if_false]
  refine wpAny_bind ?_
  rw [← Array.forIn_toList]
  simp only [List.forIn_cons, List.forIn_nil]
  refine wpAny_bind (wpAny_bind (wpAny_holding ?_))
  show wpAny _ _ (nextOf (.ref i1) >>= _) _ _ _
  refine wpAny_bind (S1.done (s := { s with heap := g1 }) hh (S1.atI h1 fun o e => s1.extBut _ _ D.i1z e) (S1.atL hl1 fun o e => s1.extBut _ _ D.l1z e) hx fun g2 e s2 hn => ?_)
  obtain ⟨oe, hoe, hce⟩ := hn
  exact wpAny_bind (wpAny_isInstance (T := "StopIteration") (b := true) ⟨oe, hoe, hce⟩ isSubtype_stop (wpAny_pure (hQ _ ((Kp.rfl'.same s1 m1).ext s2 m3))))
end
/-! ### the list of the pairs -/
/-- between two turns, S the list that is filled -/
def ZSt (z TI TO i1 i2 a b S : Addr) (i : Nat) (h : Heap) : Prop :=
  IsPair h TI (.ref i1) (.ref i2) ∧ h.IsListIter i1 a i ∧ h.IsTupleIter i2 b i ∧
  ((i = 0 ∧ IsZip h z TI TO .none ∧ ∃ x y, IsPair h TO x y) ∨ ∃ T f oT, IsZipHeld h z TI TO T f ∧ h.get? T = some oT ∧ T ≠ z ∧ T ≠ i1 ∧ T ≠ i2 ∧ T ≠ S)
theorem ZSt.keep {z TI TO i1 i2 a b S : Addr} {i : Nat} {h h' : Heap} (x : ZSt z TI TO i1 i2 a b S i h) (hk : ∀ c o, c ≠ S → h.get? c = some o → h'.get? c = some o) (n : S ≠ z ∧ S ≠ TI ∧ S ≠ TO ∧ S ≠ i1 ∧ S ≠ i2) : ZSt z TI TO i1 i2 a b S i h' := by
  obtain ⟨n1, n2, n3, n4, n5⟩ := n
  obtain ⟨p, q, r, t⟩ := x
  refine ⟨hk _ _ n2.symm p, q.at fun o e => hk _ o n4.symm e, r.at fun o e => hk _ o n5.symm e, ?_⟩
  rcases t with ⟨e, t, x, y, u⟩ | ⟨T, f, oT, t, u, v, w1, w2, v3⟩
  · exact .inl ⟨e, hk _ _ n1.symm t, x, y, hk _ _ n3.symm u⟩
  · exact .inr ⟨T, f, oT, hk _ _ n1.symm t, hk _ _ v3 u, v, w1, w2, v3⟩
section
variable {prog : Program} {w : World} {A : Around} {E : Value → Shared → Prop} {s : Shared} {z TI TO i1 i2 a b S : Addr} {xs ys : Array Value}
theorem zst_item {i : Nat} {x y : Value} {Q : Option Value → Shared → Prop} (D : ZipApart z TI TO i1 i2 a b) (hst : ZSt z TI TO i1 i2 a b S i s.heap) (hS : S < s.heap.objs.size) (ha : s.heap.IsList a xs) (hb : s.heap.IsTuple b ys) (hx : xs[i]? = some x) (hy : ys[i]? = some y)
    (hQ : ∀ h', ZSt z TI TO i1 i2 a b S (i + 1) h' → IsPair h' s.heap.objs.size x y → h'.objs.size = s.heap.objs.size + 1 → Kp [z, TO, i1, i2] s.heap h' → Q (some (.ref s.heap.objs.size)) { s with heap := h' }) :
    wpAny (model prog w) A (pyNext (.ref z)) Q E s := by
  obtain ⟨p, q, r, t⟩ := hst
  have big : ∀ {c : Addr} {o : Obj}, s.heap.get? c = some o → s.heap.objs.size ≠ c := fun e => Nat.ne_of_gt (Heap.lt_size e)
  have b1 : s.heap.objs.size ≠ i1 := let ⟨_, e, _⟩ := q; big e
  have b2 : s.heap.objs.size ≠ i2 := let ⟨_, e, _⟩ := r; big e
  have nI : ∀ {c : Addr}, c ≠ z → c ≠ TO → c ≠ i1 → c ≠ i2 → c ∉ [z, TO, i1, i2] := fun h1 h2 h3 h4 hm => by
    simp only [List.mem_cons, List.not_mem_nil, or_false] at hm
    rcases hm with e | e | e | e
    · exact h1 e
    · exact h2 e
    · exact h3 e
    · exact h4 e
  rcases t with ⟨rfl, t, x0, y0, u⟩ | ⟨T, f, oT, t, u, v, w1, w2, v3⟩
  · refine zg_item (srcList i1 a) (srcTup i2 b) D t p u q r ha hb hx hy fun h' z' TO' q' r' np sz k => hQ h' ⟨k _ _ (nI D.TIz D.TITO D.TIi1 D.TIi2) p, q', r', .inr ⟨s.heap.objs.size, false, _, z', np, big t, b1, b2, Nat.ne_of_gt hS⟩⟩ np sz k
  · have nT : T ∉ [z, i1, i2] := fun hm => by
      simp only [List.mem_cons, List.not_mem_nil, or_false] at hm
      rcases hm with e | e | e
      · exact v e
      · exact w1 e
      · exact w2 e
    have nTI : TI ∉ [z, i1, i2] := fun hm => by
      simp only [List.mem_cons, List.not_mem_nil, or_false] at hm
      rcases hm with e | e | e
      · exact D.TIz e
      · exact D.TIi1 e
      · exact D.TIi2 e
    refine zh_item (srcList i1 a) (srcTup i2 b) D t u p q r ha hb hx hy fun h' z' q' r' np sz k => hQ h' ⟨k _ _ nTI p, q', r', .inr ⟨T, true, oT, z', k _ _ nT u, v, w1, w2, v3⟩⟩ np sz fun c o n e => k c o (fun hm => n ?_) e
    simp only [List.mem_cons, List.not_mem_nil, or_false] at hm ⊢
    rcases hm with e | e | e
    · exact .inl e
    · exact .inr (.inr (.inl e))
    · exact .inr (.inr (.inr e))
theorem zst_end {i : Nat} {Q : Option Value → Shared → Prop} (hh : A.handled = none) (D : ZipApart z TI TO i1 i2 a b) (hst : ZSt z TI TO i1 i2 a b S i s.heap) (ha : s.heap.IsList a xs) (hb : s.heap.IsTuple b ys) (hx : xs[i]? = none)
    (hQ : ∀ h', Kp [z, TO, i1, i2] s.heap h' → Q none { s with heap := h' }) : wpAny (model prog w) A (pyNext (.ref z)) Q E s := by
  obtain ⟨p, q, r, t⟩ := hst
  rcases t with ⟨rfl, t, x0, y0, u⟩ | ⟨T, f, oT, t, u, v, w1, w2, v3⟩
  · exact zg_end (srcList i1 a) (srcTup i2 b) hh D t p u q r ha hb (.inl hx) hQ
  · refine zh_end (srcList i1 a) (srcTup i2 b) hh D t u p q ha hx fun h' k => hQ h' fun c o n e => k c o (fun hm => n ?_) e
    simp only [List.mem_cons, List.not_mem_nil, or_false] at hm ⊢
    rcases hm with e | e | e
    · exact .inl e
    · exact .inr (.inr (.inl e))
    · exact .inr (.inr (.inr e))
end
/-- the new pairs -/
structure ZPs (xs ys : Array Value) (lo : Addr) (h : Heap) (as : List Addr) : Prop where
  rise : as.Pairwise (· < ·)
  above : ∀ c ∈ as, lo < c
  pairs : ∀ (j : Nat) (c : Addr), as[j]? = some c → ∃ x y, xs[j]? = some x ∧ ys[j]? = some y ∧ IsPair h c x y
theorem ZPs.there {xs ys : Array Value} {lo : Addr} {h : Heap} {as : List Addr} (g : ZPs xs ys lo h as) {c : Addr} (hc : c ∈ as) : c < h.objs.size := by
  obtain ⟨j, hj⟩ := List.mem_iff_getElem?.mp hc
  obtain ⟨_, _, _, _, e⟩ := g.pairs j c hj
  exact Heap.lt_size e
section
variable {prog : Program} {w : World} {A : Around} {s : Shared} {R : Result → Shared → Prop} {z TI TO i1 i2 a b S lo : Addr} {xs ys : Array Value}
theorem zl_loop (hh : A.handled = none) (D : ZipApart z TI TO i1 i2 a b) (n : S ≠ z ∧ S ≠ TI ∧ S ≠ TO ∧ S ≠ i1 ∧ S ≠ i2) (na : a ≠ S) (nb : b ≠ S) (hlen : xs.size = ys.size) (hz : xs.size ≤ sizeLine)
    (hlo : S ≤ lo ∧ z ≤ lo ∧ TO ≤ lo ∧ i1 ≤ lo ∧ i2 ≤ lo) (res : Value) {h₁ : Heap}
    (hR : ∀ h' tk acc c as, Kp [S, z, TO, i1, i2] h₁ h' → h'.get? S = some { cls := .type "list", dict := none, data := .seq acc c, slots := #[] } → as.length = xs.size → ZPs xs ys lo h' as → acc.toList = as.map Value.ref → R (.ok (.ret res)) { s with heap := h', toks := tk }) :
    ∀ (k i : Nat) (h : Heap) (tk c : Nat) (acc : Array Value) (as : List Addr), xs.size - i = k → i ≤ xs.size → ZSt z TI TO i1 i2 a b S i h → h.IsList a xs → h.IsTuple b ys → Kp [S, z, TO, i1, i2] h₁ h →
      h.get? S = some { cls := .type "list", dict := none, data := .seq acc c, slots := #[] } → acc.toList = as.map Value.ref → as.length = i → ZPs xs ys lo h as → lo < h.objs.size →
      codeAny (model prog w) A (.builtin "list.extend.loop" ⟨[.ref S, .ref z, res], []⟩) R { s with heap := h, toks := tk } := by
  obtain ⟨n1, n2, n3, n4, n5⟩ := id n
  obtain ⟨o1, o2, o3, o4, o5⟩ := hlo
  have nS : S ∉ [z, TO, i1, i2] := fun hm => by
    simp only [List.mem_cons, List.not_mem_nil, or_false] at hm
    rcases hm with e | e | e | e
    · exact n1 e
    · exact n3 e
    · exact n4 e
    · exact n5 e
  have sub : ∀ {c : Addr}, c ∉ [S, z, TO, i1, i2] → c ∉ [z, TO, i1, i2] := fun h hm => h (List.mem_cons_of_mem _ hm)
  have over : ∀ {c : Addr}, lo < c → c ∉ [S, z, TO, i1, i2] := fun {c} h hm => by
    simp only [List.mem_cons, List.not_mem_nil, or_false] at hm
    rcases hm with e | e | e | e | e <;> subst e
    · exact Nat.not_lt.mpr o1 h
    · exact Nat.not_lt.mpr o2 h
    · exact Nat.not_lt.mpr o3 h
    · exact Nat.not_lt.mpr o4 h
    · exact Nat.not_lt.mpr o5 h
  have inA : a ∉ [z, TO, i1, i2] := fun hm => by
    simp only [List.mem_cons, List.not_mem_nil, or_false] at hm
    rcases hm with e | e | e | e
    · exact D.l1z e
    · exact D.l1TO e
    · exact D.l1i1 e
    · exact D.l1i2 e
  have inB : b ∉ [z, TO, i1, i2] := fun hm => by
    simp only [List.mem_cons, List.not_mem_nil, or_false] at hm
    rcases hm with e | e | e | e
    · exact D.l2z e
    · exact D.l2TO e
    · exact D.l2i1 e
    · exact D.l2i2 e
  intro k
  induction k with
  | zero =>
    intro i h tk c acc as hk hi hst hA hB hkeep hS hacc hal hG hIs
    refine codeAny_builtin PySem.F.entry_extend_loop ?_
    rw [Around.under_plainId PySem.F.plain_extend_loop _]
    show wpAny _ A.in1 (pyNext (.ref z) >>= _) _ _ _
    refine wpAny_bind (zst_end (s := { s with heap := h, toks := tk }) (A := A.in1) hh D hst hA hB (Array.getElem?_eq_none (by omega)) fun h' he => ?_)
    refine wpAny_pure (hR h' tk acc c as (fun b o hb e => he b o (sub hb) (hkeep b o hb e)) (he S _ nS hS) (by omega) ⟨hG.rise, hG.above, fun j c hj => ?_⟩ hacc)
    obtain ⟨x, y, e1, e2, e3⟩ := hG.pairs j c hj
    exact ⟨x, y, e1, e2, he c _ (sub (over (hG.above c (List.mem_of_getElem? hj)))) e3⟩
  | succ k ih =>
    intro i h tk c acc as hk hi hst hA hB hkeep hS hacc hal hG hIs
    have hlt : i < xs.size := by omega
    have hlt2 : i < ys.size := by omega
    have hsz : acc.size = i := by rw [← Array.length_toList, hacc, List.length_map, hal]
    have hSl : S < h.objs.size := Heap.lt_size hS
    refine codeAny_builtin PySem.F.entry_extend_loop ?_
    rw [Around.under_plainId PySem.F.plain_extend_loop _]
    show wpAny _ A.in1 (pyNext (.ref z) >>= _) _ _ _
    refine wpAny_bind (zst_item (s := { s with heap := h, toks := tk }) D hst hSl hA hB (Array.getElem?_eq_getElem hlt) (Array.getElem?_eq_getElem hlt2) fun h' hst' ht hz' hkp => ?_)
    dsimp only at ht hz' hkp ⊢
    have hS' := hkp S _ nS hS
    have up : ∀ b o, b ≠ S → h'.get? b = some o → (h'.update S (Obj.mapSeq (·.push (Value.ref h.objs.size)))).get? b = some o := fun b o hb e => (Heap.get?_update_other _ _ (Ne.symm hb)).trans e
    show wpAny _ A.in1 (updateSeq S (·.push (Value.ref h.objs.size)) >>= _) _ _ _
    refine wpAny_bind (wpAny_updateSeq hS' rfl (wpAny_pure ⟨plainId_quiet PySem.F.plain_extend_loop _, ih (i + 1) _ tk _ (acc.push (Value.ref h.objs.size)) (as ++ [h.objs.size]) (by omega) hlt (hst'.keep up n) (hA.at fun o e => up a o na (hkp a o inA e)) (hB.at fun o e => up b o nb (hkp b o inB e))
      (fun b o hb e => up b o (fun q => hb (by rw [q]; simp)) (hkp b o (sub hb) (hkeep b o hb e))) (Heap.get?_update_self _ hS' rfl) (by rw [Array.toList_push, hacc, List.map_append]; rfl) (by rw [List.length_append, hal]; rfl) ⟨?_, ?_, ?_⟩ ?_⟩) (by rw [hsz]; omega) (by show (acc.push (Value.ref h.objs.size)).size ≤ sizeLine + 1; rw [Array.size_push, hsz]; omega))
    · refine List.pairwise_append.mpr ⟨hG.rise, List.pairwise_singleton _ _, fun c hc d hd => ?_⟩
      rw [List.mem_singleton.mp hd]
      exact hG.there hc
    · intro c hc
      rcases List.mem_append.mp hc with hc | hc
      · exact hG.above c hc
      · rw [List.mem_singleton.mp hc]; exact hIs
    · intro j d hj
      rcases Nat.lt_trichotomy j as.length with h1 | h1 | h1
      · rw [List.getElem?_append_left h1] at hj
        obtain ⟨x, y, e1, e2, e3⟩ := hG.pairs j d hj
        have hd := over (hG.above d (List.mem_of_getElem? hj))
        exact ⟨x, y, e1, e2, up d _ (fun q => hd (by rw [q]; simp)) (hkp d _ (sub hd) e3)⟩
      · subst h1
        have hd : h.objs.size = d := by simpa using hj
        subst hd
        exact ⟨_, _, by rw [hal]; exact Array.getElem?_eq_getElem hlt, by rw [hal]; exact Array.getElem?_eq_getElem hlt2, up _ _ (Nat.ne_of_gt hSl) ht⟩
      · rw [List.getElem?_eq_none (by rw [List.length_append, List.length_singleton]; omega)] at hj; cases hj
    · have e : (h'.update S (Obj.mapSeq (·.push (Value.ref h.objs.size)))).get? h.objs.size = _ := up _ _ (Nat.ne_of_gt hSl) ht
      exact Nat.lt_trans hIs (Heap.lt_size e)
end
theorem zip_no_len : typeLookup (.type "zip") "__len__" = pure none := am_miss_of_fast (by decide +kernel)
theorem zip_no_hint : typeLookup (.type "zip") "__length_hint__" = pure none := am_miss_of_fast (by decide +kernel)
section
variable {prog : Program} {w : World} {A : Around} {s : Shared} {z TI TO i1 i2 a b : Addr} {xs ys : Array Value}
theorem zl_extend {R : Result → Shared → Prop} {S lo : Addr} (hh : A.handled = none) (D : ZipApart z TI TO i1 i2 a b) (n : S ≠ z ∧ S ≠ TI ∧ S ≠ TO ∧ S ≠ i1 ∧ S ≠ i2) (na : a ≠ S) (nb : b ≠ S) (hlen : xs.size = ys.size) (hz : xs.size ≤ sizeLine)
    (hlo : S ≤ lo ∧ z ≤ lo ∧ TO ≤ lo ∧ i1 ≤ lo ∧ i2 ≤ lo) (hlo2 : lo < s.heap.objs.size) (h0 : IsZip s.heap z TI TO .none) (hst : ZSt z TI TO i1 i2 a b S 0 s.heap) (hA : s.heap.IsList a xs) (hB : s.heap.IsTuple b ys) (res : Value) (c₀ : Nat)
    (hS : s.heap.get? S = some { cls := .type "list", data := .seq #[] c₀ })
    (hR : ∀ h' tk acc c as, Kp [S, z, TO, i1, i2] s.heap h' → h'.get? S = some { cls := .type "list", dict := none, data := .seq acc c, slots := #[] } → as.length = xs.size → ZPs xs ys lo h' as → acc.toList = as.map Value.ref → R (.ok (.ret res)) { s with heap := h', toks := tk }) :
    wpAny (model prog w) A.in1 (Builtin.List.listExtendWith (.ref S) (.ref z) res)
      (fun fin s' => match fin with | .done f => R (.ok f) s' | .again c' => c'.quiet = true ∧ codeAny (model prog w) A c' R s') (fun e s' => R (.error e) s') s := by
  have hT : s.TypeIs (.ref z) "zip" := ⟨_, h0, rfl⟩
  unfold Builtin.List.listExtendWith
  refine wpAny_bind (wpAny_typeOf hT ?_)
  have c1 : Builtin.List.listSameRef (.ref S) (.ref z) = false := by simp [Builtin.List.listSameRef, n.1]
  have c2 : (Value.type "zip" == Value.type "list") = false := by decide
  have c3 : (Value.type "zip" == Value.type "tuple") = false := by decide
  simp only [c1, c2, c3, Bool.or_false, Bool.false_eq_true, if_false]
  refine wpAny_bind (wpAny_pyIter_zip h0 (wpAny_bind (wpAny_holding ?_)))
  unfold Builtin.List.listLengthHint
  refine wpAny_bind (wpAny_specialOf hT zip_no_len ?_)
  show wpAny _ A.in1 (specialOf (Value.ref z) (Str.ofString "__length_hint__") >>= _) _ _ _
  refine wpAny_bind (wpAny_specialOf hT zip_no_hint (wpAny_pure ?_))
  show wpAny _ A.in1 (rule "list.extend.makes-room" >>= fun _ => Builtin.List.listTouch (.ref S) >>= fun _ => again (.builtin "list.extend.loop" ⟨[.ref S, .ref z, res], []⟩)) _ _ _
  refine wpAny_bind (wpAny_rule (wpAny_bind ?_))
  show wpAny _ A.in1 (updateSeq S (·.push .none) >>= fun _ => updateSeq S (·.pop)) _ _ _
  refine wpAny_bind (wpAny_updateSeq hS rfl ?_)
  have hS₂ := Heap.get?_update_self (Obj.mapSeq (·.push Value.none)) hS rfl
  refine wpAny_updateSeq (hz := by seq_fits) hS₂ rfl ?_
  have hS₃ := Heap.get?_update_self (Obj.mapSeq (·.pop)) hS₂ rfl
  have oth : ∀ b o, b ≠ S → s.heap.get? b = some o → ((s.heap.update S (Obj.mapSeq (·.push Value.none))).update S (Obj.mapSeq (·.pop))).get? b = some o := fun b o hb e =>
    (Heap.get?_update_other _ _ (Ne.symm hb)).trans ((Heap.get?_update_other _ _ (Ne.symm hb)).trans e)
  refine wpAny_pure ⟨plainId_quiet PySem.F.plain_extend_loop _, zl_loop (s := s) (h₁ := s.heap) hh D n na nb hlen hz hlo res hR xs.size 0 _ _ _ #[] [] (Nat.sub_zero _) (Nat.zero_le _) (hst.keep oth n) (hA.at fun o e => oth a o na e) (hB.at fun o e => oth b o nb e)
    (fun b o hb e => oth b o (fun q => hb (by rw [q]; simp)) e) hS₃ rfl rfl ⟨List.Pairwise.nil, (fun _ ha => nomatch ha), (fun j a hj => by simp at hj)⟩ ?_⟩
  rw [show ((s.heap.update S (Obj.mapSeq (·.push Value.none))).update S (Obj.mapSeq (·.pop))).objs.size = s.heap.objs.size from by simp]
  exact hlo2
theorem zl_call {E : Value → Shared → Prop} {Q : Value → Shared → Prop} (hh : A.handled = none) (D : ZipApart z TI TO i1 i2 a b) (h0 : IsZip s.heap z TI TO .none) (hTI : IsPair s.heap TI (.ref i1) (.ref i2)) (hTO : ∃ x y, IsPair s.heap TO x y)
    (h1 : s.heap.IsListIter i1 a 0) (h2 : s.heap.IsTupleIter i2 b 0) (hA : s.heap.IsList a xs) (hB : s.heap.IsTuple b ys) (hlen : xs.size = ys.size) (hz : xs.size ≤ sizeLine)
    (hQ : ∀ h' tk acc c as, Kp [z, TO, i1, i2] s.heap h' → h'.get? s.heap.objs.size = some { cls := .type "list", dict := none, data := .seq acc c, slots := #[] } → as.length = xs.size → ZPs xs ys s.heap.objs.size h' as → acc.toList = as.map Value.ref → Q (.ref s.heap.objs.size) { s with heap := h', toks := tk }) :
    wpAny (model prog w) A (call (.type "list") [.ref z]) Q E s := by
  refine callType_codes (Q₁ := fun obj s₁ => obj = .ref s.heap.objs.size ∧ s₁ = { s with heap := s.heap.push { cls := .type "list", data := .seq #[] } }) PySem.F.called_list (PySem.F.typeCall_list_1 _) PySem.F.entry_list_init
    (code_list_new _ ⟨rfl, rfl⟩) fun obj s₁ e₁ => ?_
  obtain ⟨rfl, rfl⟩ := e₁
  have hS : (s.heap.push { cls := .type "list", data := .seq #[] }).get? s.heap.objs.size = some { cls := .type "list", data := .seq #[] } := Heap.get?_push_size _ rfl
  have lt : ∀ {c : Addr} {o : Obj}, s.heap.get? c = some o → c < s.heap.objs.size := fun e => Heap.lt_size e
  have l1 : i1 < s.heap.objs.size := let ⟨_, e, _⟩ := h1; lt e
  have l2 : i2 < s.heap.objs.size := let ⟨_, e, _⟩ := h2; lt e
  have l3 : a < s.heap.objs.size := let ⟨_, e, _⟩ := hA; lt e
  have l4 : b < s.heap.objs.size := let ⟨_, e, _⟩ := hB; lt e
  obtain ⟨x0, y0, hTO⟩ := hTO
  have l5 := lt h0
  have l6 := lt hTI
  have l7 := lt hTO
  refine ⟨⟨_, hS, rfl⟩, PySem.F.args_list_init_2 _ _, ?_⟩
  show wpAny _ _ (do let old ← Builtin.List.listItems (.ref s.heap.objs.size); Builtin.List.listUpdate (.ref s.heap.objs.size) (fun _ => #[]); letGo old.toList.reverse; Builtin.List.listExtendWith (.ref s.heap.objs.size) (.ref z) .none) _ _ _
  refine wpAny_bind ?_
  unfold Builtin.List.listItems
  refine wpAny_bind (wpAny_seqItems hS rfl (wpAny_pure ?_))
  show wpAny _ _ (updateSeq s.heap.objs.size (fun _ => #[]) >>= fun _ => letGo (#[] : Array Value).toList.reverse >>= fun _ => Builtin.List.listExtendWith (.ref s.heap.objs.size) (.ref z) .none) _ _ _
  refine wpAny_bind (wpAny_updateSeq hS rfl ?_)
  have hS₂ := Heap.get?_update_self (Obj.mapSeq (fun _ => (#[] : Array Value))) hS rfl
  have oth : ∀ c o, s.heap.get? c = some o → ((s.heap.push { cls := .type "list", data := .seq #[] }).update s.heap.objs.size (Obj.mapSeq (fun _ => (#[] : Array Value)))).get? c = some o := fun c o e =>
    (Heap.get?_update_other _ _ (Nat.ne_of_gt (lt e))).trans (Heap.get?_push_of_some _ e)
  refine wpAny_bind (wpAny_letGo ?_)
  have sz : ((s.heap.push { cls := .type "list", data := .seq #[] }).update s.heap.objs.size (Obj.mapSeq (fun _ => (#[] : Array Value)))).objs.size = s.heap.objs.size + 1 := by
    simp [Heap.size_push]
  refine zl_extend (A := A.in1) (lo := s.heap.objs.size) hh D ⟨Nat.ne_of_gt l5, Nat.ne_of_gt l6, Nat.ne_of_gt l7, Nat.ne_of_gt l1, Nat.ne_of_gt l2⟩ (Nat.ne_of_lt l3) (Nat.ne_of_lt l4) hlen hz ⟨Nat.le_refl _, Nat.le_of_lt l5, Nat.le_of_lt l7, Nat.le_of_lt l1, Nat.le_of_lt l2⟩
    (Nat.lt_of_lt_of_eq (Nat.lt_succ_self _) sz.symm) (oth _ _ h0)
    ⟨oth _ _ hTI, h1.at fun o e => oth _ o e, h2.at fun o e => oth _ o e, .inl ⟨rfl, oth _ _ h0, x0, y0, oth _ _ hTO⟩⟩ (hA.at fun o e => oth _ o e) (hB.at fun o e => oth _ o e) .none _ hS₂ (fun h' tk acc c as hk hS' hl hG hacc => ?_)
  refine ⟨rfl, hQ h' tk acc c as (fun c o hc e => hk c o (fun hm => ?_) (oth c o e)) hS' hl hG hacc⟩
  rcases List.mem_cons.mp hm with q | hm
  · exact absurd (lt e) (by rw [q]; exact Nat.lt_irrefl _)
  · exact hc hm
end
end AbR

/-! ## W0 -/
set_option Elab.async false
set_option linter.all false
set_option maxRecDepth 100000
set_option maxHeartbeats 4000000
/-! W0: the words of the walk -/
namespace AbW
open PySem PySem.Spec PyProof.Rows L2 AbH AbR
section
variable {P : Program} {w : World} {K : PySem.W.Frag} {mg : Str → Option Value} {base : Heap}
abbrev cxD (P : Program) (w : World) (K : PySem.W.Frag) (mg : Str → Option Value) (base : Heap) (N : List Str) (qual : Str) (st : Stmt) (f : Addr) (cdv : Value) (A : Around) (outer : List Env) (s : Shared) (H : Hp) (E : XK) : Cx :=
  (cxOf C8.CX0 P w K mg base N qual (C8.fnScope st) f cdv A outer s H E).nox
/-- a def's body keeps the promise -/
abbrev BodyOk (P : Program) (w : World) (K : PySem.W.Frag) (mg : Str → Option Value) (base : Heap) (N : List Str) (qual : Str) (st : Stmt) (f : Addr) (k : Nat) (sp : Sp) : Prop :=
  ∀ (cdv : Value) (A : Around) (outer : List Env) (s : Shared) (H : Hp) (vs : List V) (Q : VK) (E : XK), Room k (cxD P w K mg base N qual st f cdv A outer s H E).A → sp vs H Q E →
    ∃ t, PSs (cxD P w K mg base N qual st f cdv A outer s H E) (C8.fnBody st) t ∧ t { nx := fun _ H' => Q .non H', rt := Q } (start N vs) H
/-- how its arguments bind -/
abbrev BindOk (x qual : Str) (st : Stmt) (ps : List Str) : Prop :=
  ∀ (kV doc pm : Value) (an : Option Addr) (cdv ct : Value) (us : List Value), us.length = ps.length → bindArgs (PySem.W.fnOf x qual (C8.fnArgs st) (C8.fnBody st) (C8.fnScope st) .none kV doc pm an cdv ct) ⟨us, []⟩ = pure (ps.zip us)
theorem fnK {x qual : Str} {st : Stmt} {f : Addr} {dvs : List V} {N ps : List Str} {k : Nat} {sp : Sp} {fd : FuncData} (F : FunD K x qual (C8.fnArgs st) (C8.fnBody st) (C8.fnScope st) dvs [] f fd) (S : C8.scC N ps (C8.fnScope st) = true)
    (len : ∀ vs H Q E, sp vs H Q E → vs.length = ps.length) (body : BodyOk P w K mg base N qual st f k sp) : FnOk P w K mg base C8.CX0 (k + 1) f fd ps sp :=
  F.ok (C8.fnScope_by S) len fun cdv A outer s H vs Q E hr hsp => by
    obtain ⟨t, h, q⟩ := body cdv A outer s H vs Q E hr hsp
    exact ⟨t, h.nox, q⟩
theorem mkCal {x : Str} {st : Stmt} {f : Addr} {N ps : List Str} {k : Nat} {sp : Sp} (D : DfK K x x st f []) (g : mg x = some (.ref f)) (b : BindOk x x st ps) (S : C8.scC N ps (C8.fnScope st) = true)
    (len : ∀ vs H Q E, sp vs H Q E → vs.length = ps.length) (body : BodyOk P w K mg base N x st f k sp) : C8.Cal P w K mg base (k + 1) x sp [] := by
  obtain ⟨fd, F⟩ := D.ex
  exact ⟨f, fd, ps, [], fnK F S len body, g, F.kp, F.bindsN b, .nil⟩
theorem mkMet {x qual : Str} {st : Stmt} {C f : Addr} {N ps : List Str} {k : Nat} {sp : Sp} (D : DfK K x qual st f []) (c : Cls K C) (m : Meth K C x f) (b : BindOk x qual st ps) (S : C8.scC N ps (C8.fnScope st) = true)
    (len : ∀ vs H Q E, sp vs H Q E → vs.length = ps.length) (body : BodyOk P w K mg base N qual st f k sp) : C8.Met P w K mg base (k + 1) C x sp [] := by
  obtain ⟨fd, F⟩ := D.ex
  exact ⟨f, fd, ps, [], c, m, fnK F S len body, F.bindsN b, .nil⟩
theorem mkMak {x qual : Str} {st : Stmt} {C f : Addr} {N ps : List Str} {k : Nat} {sp : Sp} (D : DfK K "__init__" qual st f []) (M : Mk K C f) (g : mg x = some (.ref C)) (b : BindOk "__init__" qual st ps) (S : C8.scC N ps (C8.fnScope st) = true)
    (len : ∀ vs H Q E, sp vs H Q E → vs.length = ps.length) (body : BodyOk P w K mg base N qual st f k sp) : C8.Mak P w K mg base (k + 1) x C sp [] := by
  obtain ⟨fd, F⟩ := D.ex
  exact ⟨f, fd, ps, [], M, fnK F S len body, g, F.bindsN b, .nil⟩
/-- a property of the class at C -/
structure Pro (P : Program) (w : World) (K : PySem.W.Frag) (mg : Str → Option Value) (base : Heap) (k : Nat) (C : Addr) (x : Str) (sp : Sp) : Prop where
  ex : ∃ (p g : Addr) (fd : FuncData) (ps : List Str), Cls K C ∧ PropOf K C x p g ∧ FnOk P w K mg base C8.CX0 k g fd ps sp ∧ Binds K fd ps []
theorem mkPro {x qual : Str} {st : Stmt} {C p f : Addr} {N ps : List Str} {k : Nat} {sp : Sp} (D : DfK K x qual st f []) (c : Cls K C) (pr : PropOf K C x p f) (b : BindOk x qual st ps) (S : C8.scC N ps (C8.fnScope st) = true)
    (len : ∀ vs H Q E, sp vs H Q E → vs.length = ps.length) (body : BodyOk P w K mg base N qual st f k sp) : Pro P w K mg base (k + 1) C x sp := by
  obtain ⟨fd, F⟩ := D.ex
  exact ⟨p, f, fd, ps, c, pr, fnK F S len body, F.bindsN b⟩
theorem pe_pr {X : Cx} {k j : Nat} {C : Addr} {x : Str} {sp : Sp} {e : Expr} {ta : TE} {pos : Pos} (c : Pro X.prog X.w X.K X.mg X.base k C x sp) (hr : Room j X.A) (hk : k + 1 ≤ j) (he : PE X e ta)
    (hab : attributeBase e x X.env (eval e X.env) = eval e X.env := by rfl) : PE X (.Attribute e x pos) (tProp C sp [] C8.E0 ta) := by
  obtain ⟨p, g, fd, ps, cl, pr, F, b⟩ := c.ex
  exact pe_prop he cl pr F (hr.mono hk) b .nil C8.pass0 hab
end
/-! ### module names -/
theorem gInt {mg : Str → Option Value} {x : Str} {i : Int} (h : ∃ t, mg x = some (.int i t)) : ∃ u, mg x = some u ∧ RelV (.int i) u := by
  obtain ⟨t, e⟩ := h
  exact ⟨_, e, t, rfl⟩
theorem gStr {mg : Str → Option Value} {x z : Str} (h : ∃ t, mg x = some (.str z t)) : ∃ u, mg x = some u ∧ RelV (.str z) u := by
  obtain ⟨t, e⟩ := h
  exact ⟨_, e, t, rfl⟩
theorem gRef {mg : Str → Option Value} {x : Str} {a : Addr} (h : mg x = some (.ref a)) : ∃ u, mg x = some u ∧ RelV (.ref a) u := ⟨_, h, rfl⟩
/-! ### heaps -/
theorem same_upd {H : Hp} {p : Addr} {o : HO} (h : H p = none) : Same H (upd H p o) := fun b x e => by
  rw [upd_ne (ne_of_none e h)]
  exact e
theorem Same.upd {H H1 : Hp} {p : Addr} {o : HO} (s : Same H H1) (h : H1 p = none) : Same H (L2.upd H1 p o) := s.trans (same_upd h)
theorem Same.tup {K : PySem.W.Frag} {H H' : Hp} {a : Addr} {xs : List V} (e : Same H H') (h : SqT K H a xs) : SqT K H' a xs := by
  rcases h with (h | ⟨o, h⟩) | h
  · exact .inl (.inl (e _ _ h))
  · exact .inl (.inr ⟨o, e _ _ h⟩)
  · exact .inr h
theorem Same.rd {H H' : Hp} {a : Addr} {u : HO} (e : Same H H') (h : Rd H a u) : Rd H' a u := by
  rcases h with h | ⟨o, h⟩
  · exact .inl (e _ _ h)
  · exact .inr ⟨o, e _ _ h⟩
/-! ### isinstance with one class -/
def rIsi1 (K : PySem.W.Frag) : List V → Hp → VK → Prop := fun xs H Q => ∃ (x : V) (t b : String) (r : Bool), xs = [x, .ty b] ∧ TyX K H x (.type t) ∧ kitB t b = some r ∧ Q (.bl r) H
theorem call_isi1 {X : Cx} : CallR X (.builtin "isinstance") (rIsi1 X.K) := fun pins s σ H xs us Q I r ⟨x, t, b, res, e, ht, hk, q⟩ =>
  call_isi pins s σ H xs us Q I r ⟨x, .ty b, .type t, .type b, res, e, .ty b, ht, kit_ty hk, q⟩
theorem k_int_int : kitB "int" "int" = some true := by decide +kernel
theorem k_int_bool : kitB "int" "bool" = some false := by decide +kernel
theorem k_str_str : kitB "str" "str" = some true := by decide +kernel
theorem k_str_tuple : kitB "str" "tuple" = some false := by decide +kernel
theorem k_tuple_str : kitB "tuple" "str" = some false := by decide +kernel
theorem k_tuple_tuple : kitB "tuple" "tuple" = some true := by decide +kernel
theorem k_list_list : kitB "list" "list" = some true := by decide +kernel
theorem k_dict_dict : kitB "dict" "dict" = some true := by decide +kernel
/-! ### the built-in names -/
theorem b_isinstance : bootBuiltins "isinstance" = some (.builtin "isinstance") := by decide +kernel
theorem b_len : bootBuiltins "len" = some (.builtin "len") := by decide +kernel
theorem b_all : bootBuiltins "all" = some (.builtin "all") := by decide +kernel
theorem b_any : bootBuiltins "any" = some (.builtin "any") := by decide +kernel
theorem b_sorted : bootBuiltins "sorted" = some (.builtin "sorted") := by decide +kernel
theorem b_min : bootBuiltins "min" = some (.builtin "min") := by decide +kernel
theorem b_max : bootBuiltins "max" = some (.builtin "max") := by decide +kernel
theorem b_abs : bootBuiltins "abs" = some (.builtin "abs") := by decide +kernel
theorem b_divmod : bootBuiltins "divmod" = some (.builtin "divmod") := by decide +kernel
theorem b_repr : bootBuiltins "repr" = some (.builtin "repr") := by decide +kernel
theorem b_int : bootBuiltins "int" = some (.type "int") := by decide +kernel
theorem b_bool : bootBuiltins "bool" = some (.type "bool") := by decide +kernel
theorem b_str : bootBuiltins "str" = some (.type "str") := by decide +kernel
theorem b_list : bootBuiltins "list" = some (.type "list") := by decide +kernel
theorem b_tuple : bootBuiltins "tuple" = some (.type "tuple") := by decide +kernel
theorem b_dict : bootBuiltins "dict" = some (.type "dict") := by decide +kernel
end AbW

/-! ## R9 -/
set_option Elab.async false
set_option linter.all false
set_option maxRecDepth 100000
set_option maxHeartbeats 4000000
/-! R9: a dict against an empty one, list(zip(..)) as an expression, repr of data, defs that run outside every repr -/
namespace AbR
open PySem PySem.Spec PyProof.Rows L2
section
variable {X : Cx}
def rNeE : R2 := fun x y H Q => ∃ a b ks, x = .ref a ∧ y = .ref b ∧ H a = some (.dK ks) ∧ H b = some (.dK []) ∧ Q (.bl (!ks.isEmpty)) H
theorem op_neEmpty (hu : X.A.units + 1 < cLine) : OpR X (compareOp .NotEq) rNeE := by
  intro pins s σ H x y v u Q I rx ry h
  obtain ⟨a, b, ks, rfl, rfl, ea, eb, q⟩ := h
  obtain rfl : v = Value.ref a := rx
  obtain rfl : u = Value.ref b := ry
  obtain ⟨_, ya, va, ra, da⟩ := (show ObjOk X.prog X.w H s.heap a (.dK ks) from I.hok a _ ea)
  obtain ⟨_, yb, vb, rb, db⟩ := (show ObjOk X.prog X.w H s.heap b (.dK []) from I.hok b _ eb)
  have hb0 : vb = [] := by cases rb; rfl
  subst hb0
  have hla := ra.length
  refine PySem.W.keq_ne (knd := mixKind X.prog X.w) (r := true) ya yb da db (Nat.lt_of_succ_lt hu) (fun hl => ?_) (fin_bl I q ?_)
  · have : va = [] := List.eq_nil_of_length_eq_zero hl
    subst this
    exact .nil
  · cases va with
    | nil =>
      cases ra
      rfl
    | cons _ _ =>
      cases ra
      rfl
/-! ### list(zip(l, t)) -/
def tListZip (K : PySem.W.Frag) (ta : TA) : TE := fun σ H Q => ta σ H fun vs H1 => ∃ (a b : Addr) (kvs : List (Key × V)), vs = [.ref a, .ref b] ∧ SqL K H1 a (kvs.map fun q => kV q.1) ∧ SqT K H1 b (kvs.map (·.2)) ∧
  ∀ (H' : Hp) (p : Addr) (ts : List Addr), (∀ b o, H1 b = some o → H' b = some o) → H1 p = none → (∀ t ∈ ts, H1 t = none) → p ∉ ts → H' p = some (.lst (ts.map V.ref)) → Paired (fun (t : Addr) (q : Key × V) => H' t = some (.tup [kV q.1, q.2])) ts kvs → Q (.ref p) H'
theorem kv_made : ∀ {kvs : List (Key × V)} {xs ys : List Value}, Vals (kvs.map fun q => kV q.1) xs → Vals (kvs.map (·.2)) ys → ∃ vs : List (Key × Value), KV kvs vs ∧ ∀ (j : Nat) (x y : Value), xs[j]? = some x → ys[j]? = some y → ∃ k, vs[j]? = some (k, y) ∧ keyIs k x = true
  | [], _, _, .nil, .nil => ⟨[], .nil, fun j x y h => by simp at h⟩
  | p :: kvs, x :: xs, y :: ys, .cons r1 t1, .cons r2 t2 => by
    obtain ⟨vs, h1, h2⟩ := kv_made t1 t2
    refine ⟨(p.1, y) :: vs, .cons ⟨rfl, r2⟩ h1, fun j u v e1 e2 => ?_⟩
    cases j with
    | zero =>
      cases e1
      cases e2
      refine ⟨_, rfl, ?_⟩
      obtain ⟨k, v⟩ := p
      cases k with
      | inl i =>
        obtain ⟨t, e⟩ := r1
        subst e
        simp [keyIs, Value.isInt]
      | inr z =>
        obtain ⟨t, e⟩ := r1
        subst e
        simp [keyIs, Value.isStrOf]
    | succ j => exact h2 j u v (by simpa using e1) (by simpa using e2)
/-- pairs laid behind all that stands, their list at S -/
theorem laidAt {pins : List (Addr × Obj)} {σ : L2.St} {H : Hp} {s : Shared} {h' : Heap} {tk : Nat} {kvs : List (Key × V)} {vs : List (Key × Value)} {acc : Array Value} {c : Nat} {as : List Addr} {S : Addr} (I : Inv X pins σ H s) (hz : kvs.length ≤ sizeLine) (kv : KV kvs vs)
    (hk : ∀ b o, s.heap.get? b = some o → h'.get? b = some o) (hSs : s.heap.objs.size ≤ S) (hS : h'.get? S = some { cls := .type "list", dict := none, data := .seq acc c, slots := #[] }) (hl : as.length = vs.length) (hG : PySem.W.KdxG (mixKind X.prog X.w) vs S h' as) (hacc : acc.toList = as.map Value.ref) :
    ∃ H' : Hp, (∀ b o, H b = some o → H' b = some o) ∧ H S = none ∧ (∀ t ∈ as, H t = none) ∧ S ∉ as ∧ H' S = some (.lst (as.map V.ref)) ∧ Paired (fun (t : Addr) (q : Key × V) => H' t = some (.tup [kV q.1, q.2])) as kvs ∧ Inv X pins σ H' { s with heap := h', toks := tk } := by
  have lk : kvs.length = vs.length := Paired.length kv
  have notS : S ∉ as := fun z => Nat.lt_irrefl _ (hG.above _ z)
  have far : ∀ t ∈ as, s.heap.objs.size ≤ t := fun t ht => Nat.le_trans hSs (Nat.le_of_lt (hG.above t ht))
  have nd : as.Nodup := List.Pairwise.imp (fun {a b} (h : a < b) => Nat.ne_of_lt h) hG.rise
  have new : ∀ t ∈ as, H t = none := fun t ht => I.hok.fresh (far t ht)
  have newS : H S = none := I.hok.fresh hSs
  generalize eG : LiI.putT (upd H S (.lst (as.map V.ref))) as kvs = G
  have atP : Paired (fun (t : Addr) (q : Key × V) => G t = some (.tup [kV q.1, q.2])) as kvs := eG ▸ LiI.putT_at as kvs (upd H S (.lst (as.map V.ref))) (by omega) nd
  have off : ∀ b, b ∉ as → b ≠ S → G b = H b := fun b h1 h2 => by rw [← eG, LiI.putT_off as kvs _ h1, upd_ne h2]
  have atS : G S = some (.lst (as.map V.ref)) := by rw [← eG, LiI.putT_off as kvs _ notS, upd_same]
  have old : ∀ b o, s.heap.get? b = some o → G b = H b := fun b o e =>
    have lt := Heap.lt_size e
    off b (fun z => absurd lt (Nat.not_lt.mpr (far b z))) (fun z => by subst z; exact absurd lt (Nat.not_lt.mpr hSs))
  have kp : ∀ b u, H b = some u → G b = some u := fun b u e => by
    rw [off b (fun z => by rw [new b z] at e; cases e) (fun z => by rw [z, newS] at e; cases e)]
    exact e
  refine ⟨G, kp, newS, new, notS, atS, atP, ?_⟩
  refine I.call' (ch := []) rfl ⟨fun b o q _ _ _ => hk b o q, fun b o q _ _ _ => ⟨o.slots, hk b o q⟩, fun b o q n _ => (old b o q).trans n, fun b o q _ => ⟨o, hk b o q⟩, fun b xs q => kp b _ q, fun b o u q => kp b _ q, fun b ps q => ⟨#[], by rw [kp b _ q]; simp⟩⟩ (fun b u q => ?_) I.bare fun b z => by simp at z
  by_cases hb : b ∈ as
  · obtain ⟨j, pk, e1, e2, e3⟩ := LiI.paired_ix atP hb
    rw [e3] at q
    cases q
    obtain ⟨key, k, x, f1, f2, f3⟩ := hG.pairs j b e1
    obtain ⟨qv, g1, g2, g3⟩ := LiI.paired_get kv e2
    rw [f1] at g1
    cases g1
    have rk : RelV (kV pk.1) key := by
      rw [g2]
      exact relV_key (show keyIs k key = true from f2)
    exact ⟨by show 2 ≤ sizeLine; decide, [key, x], .cons rk (.cons g3 .nil), ⟨_, f3, rfl, _, rfl⟩⟩
  · by_cases hb2 : b = S
    · subst hb2
      rw [atS] at q
      cases q
      refine ⟨by rw [List.length_map]; omega, acc.toList, c, by rw [hacc]; exact LiI.vals_refs as, ?_⟩
      rw [Array.toArray_toList]
      exact hS
    · rw [off b hb hb2] at q
      exact (I.hok b u q).stay (fun d v _ y => hk d v y) (fun d y => kp d _ y) fun d xs y => kp d _ y
theorem pe_listZip {K : PySem.W.Frag} {e e2 : Expr} {ta : TA} {p p2 pos cpos : Pos} (hK : X.K = K) (hc : X.calm = true) (hg : Gl X "list") (hm : X.mg "list" = none) (hv : bootBuiltins "list" = some (.type "list")) (hg2 : Gl X "zip") (hm2 : X.mg "zip" = none) (ha : PA X [e, e2] ta)
    (hs : starEach [.Call (.Name "zip" p2) [e, e2] [] cpos] X.env = (false, eval (.Call (.Name "zip" p2) [e, e2] [] cpos) X.env) :: starEach [] X.env := by rfl)
    (hs2 : starEach [e, e2] X.env = (false, eval e X.env) :: starEach [e2] X.env := by rfl) (hpl : (backTo cpos (starEach [e2] X.env)).any (·.1) = false := by rfl) :
    PE X (.Call (.Name "list" p) [.Call (.Name "zip" p2) [e, e2] [] cpos] [] pos) (tListZip K ta) := by
  subst hK
  refine ⟨fun pins s σ H Q I hq => ?_⟩
  refine wpAny_Call_Name_kw (ld_blt I hg hm hv ?_)
  refine PyProof.Rows.callWith_type1 ?_ hs rfl
  rw [hs]
  show wpAny _ _ (spliced ((false, eval (.Call (.Name "zip" p2) [e, e2] [] cpos) X.env) :: backTo pos (starEach [] X.env))) _ _ s
  refine Calls.spliced_cons ?_
  refine Call_ (ld_blt I hg2 hm2 PyProof.Rows.boot_zip (PyProof.Rows.callWith_type1 (thn (ha.run cpos pins s σ H _ I hq) fun us s1 ⟨vs, H1, I1, r1, a, b, kvs, ex, hqx, hqy, q⟩ => ?_) hs2 hpl))
  subst ex
  cases r1 with
  | cons r rr =>
    cases rr with
    | cons r' rr =>
      cases rr
      cases r
      cases r'
      obtain ⟨its, rv, p1, z1⟩ := I1.list hqx
      obtain ⟨its2, rv2, pt, z2⟩ := I1.tuple hqy
      obtain ⟨o2, ho2, _⟩ := id pt
      have l1 : its.length = kvs.length := by rw [← rv.length, List.length_map]
      have l2 : its2.length = kvs.length := by rw [← rv2.length, List.length_map]
      rw [List.length_map] at z1
      refine call_zm p1.isList (show s1.heap.IsTuple b its2.toArray from pt) fun h' hz hTI hTO h1 h2 hsz hk => ?_
      have I2 : Inv X pins σ H1 { s1 with heap := h' } := I1.kept (t' := s1.toks) hk
      refine Calls.spliced_nil ?_
      refine zl_call (s := { s1 with heap := h' }) (I1.ok.hd hc) (PySem.W.ktu_apart s1.heap.objs.size a b p1.lt (Heap.lt_size ho2)) hz hTI ⟨_, _, hTO⟩ h1 h2 (p1.isList.at fun o e => hk a o e) (show h'.IsTuple b its2.toArray from Heap.IsTuple.at pt fun o e => hk b o e) (by simp [l1, l2]) (by simp; omega) fun h'' tk acc c as hkp hS hl hG hacc => ?_
      obtain ⟨ws, hkv, hws⟩ := kv_made rv rv2
      have hlw : ws.length = kvs.length := (KV.length hkv).symm
      have G : PySem.W.KdxG (mixKind X.prog X.w) ws h'.objs.size h'' as := by
        refine ⟨hG.rise, hG.above, fun j d hj => ?_⟩
        obtain ⟨x, y, e1, e2, e3⟩ := hG.pairs j d hj
        obtain ⟨k, e4, e5⟩ := hws j x y (by simpa using e1) (by simpa using e2)
        exact ⟨x, k, y, e4, e5, e3⟩
      have keep : ∀ b o, s1.heap.get? b = some o → h''.get? b = some o := fun b o e => hkp b o (fun hm => by
        have lt := Heap.lt_size e
        simp only [List.mem_cons, List.not_mem_nil, or_false] at hm
        rcases hm with e | e | e | e <;> rw [e] at lt <;> exact absurd lt (Nat.not_lt.mpr (by first | exact Nat.le_refl _ | exact Nat.le_add_right _ _))) (hk b o e)
      obtain ⟨H', k1, k2, k3, k4, k5, k6, J⟩ := laidAt (tk := tk) I1 z1 hkv keep (S := h'.objs.size) (by rw [hsz]; omega) hS (by rw [hl, hlw]; simp [l1]) G hacc
      exact ⟨.ref _, H', J, rfl, q H' _ as k1 k2 k3 k4 k5 k6⟩
end
end AbR

/-! ## Rg -/
set_option Elab.async false
set_option linter.all false
set_option maxRecDepth 100000
set_option maxHeartbeats 4000000
/-! Rg: defs that run where nothing is being shown (no repr is open): repr of data may be asked there -/
namespace AbW
open PySem PySem.Spec PyProof.Rows L2 AbH AbR
section
variable {P : Program} {w : World} {K : PySem.W.Frag} {mg : Str → Option Value} {base : Heap}
/-- a def's promise where no repr is open -/
structure FnG (P : Program) (w : World) (K : PySem.W.Frag) (mg : Str → Option Value) (base : Heap) (k : Nat) (f : Addr) (fd : FuncData) (ps : List Str) (sp : Sp) : Prop where
  len : ∀ vs H Q E, sp vs H Q E → vs.length = ps.length
  run : ∀ (A : Around) (outer : List Env) (s : Shared) (H : Hp) (args : Args) (us : List Value) (vs : List V) (Q : VK) (E : XK), A.guards = some [] → Room k A → Env0 P w K mg base A outer s H → BindsTo s fd args (ps.zip us) → Vals vs us → sp vs H Q E →
    codeAny (model P w) A (.call (.ref f) args) (CR C8.CX0 outer P w H s Q E) s
abbrev BodyG (P : Program) (w : World) (K : PySem.W.Frag) (mg : Str → Option Value) (base : Heap) (N : List Str) (qual : Str) (st : Stmt) (f : Addr) (k : Nat) (sp : Sp) : Prop :=
  ∀ (cdv : Value) (A : Around) (outer : List Env) (s : Shared) (H : Hp) (vs : List V) (Q : VK) (E : XK), (cxD P w K mg base N qual st f cdv A outer s H E).A.guards = some [] → Room k (cxD P w K mg base N qual st f cdv A outer s H E).A → sp vs H Q E →
    ∃ t, PSs (cxD P w K mg base N qual st f cdv A outer s H E) (C8.fnBody st) t ∧ t { nx := fun _ H' => Q .non H', rt := Q } (start N vs) H
theorem fnG {x qual : Str} {st : Stmt} {f : Addr} {dvs : List V} {N ps : List Str} {k : Nat} {sp : Sp} {fd : FuncData} (F : FunD K x qual (C8.fnArgs st) (C8.fnBody st) (C8.fnScope st) dvs [] f fd) (S : C8.scC N ps (C8.fnScope st) = true)
    (len : ∀ vs H Q E, sp vs H Q E → vs.length = ps.length) (body : BodyG P w K mg base N qual st f k sp) : FnG P w K mg base (k + 1) f fd ps sp := by
  have S := C8.fnScope_by S
  obtain ⟨oc, od, dV, kV, doc, pm, an, cdv, ct, osl, rfl, lk, hcd, _, _⟩ := F.ex
  refine ⟨len, fun A outer s H args us vs Q E hG hr e0 hb r hsp => ?_⟩
  have old : ∀ b o, base.get? b = some o → s.heap.get? b = some o := fun b o e => (e0.bs b o e).1
  have KX : K.In s.heap := e0.mod.kin.keeps old
  have hkind : ∀ y ∈ ps.zip us, (C8.fnScope st).names.lookup y.1 = some .local ∨ ((C8.fnScope st).names.lookup y.1 = some .cell ∧ ((cellsFrom (s.heap.objs.size + 1) (C8.fnScope st).names []).lookup y.1).isSome = true) := fun ⟨n, v⟩ hy =>
    (S.par n (List.of_mem_zip hy).1).imp id fun q => ⟨q, PySem.W.cellsFrom_some _ _ _ (.inl q)⟩
  refine codeAny_call_function hr.depth (KX _ _ lk) rfl S.co S.gen rfl (PySem.W.codeRec_of KX hcd) (hb _ _ _ _ (wpAny_newFunctionEnv_cells S.kind hkind fun env he s1 x => ?_))
  subst he
  refine ⟨(e0.mod.nolimit.keeps old).keeps x.toInCall.keep, codeAny_func ?_⟩
  obtain ⟨t, ht, hq⟩ := body cdv A outer s H vs Q E hG (hr.deeper _) hsp
  refine wpAny_mono (ht.nox.run [] s1 (start N vs) H _ (inv_start S hr.hd e0 (len _ _ _ _ hsp) r x) hq) (fun fl s' hs => ?_) fun e s' hs => hs
  cases fl with
  | ret u => obtain ⟨v, σ', H', J, rv, q⟩ := hs; exact ⟨v, H', J.os, J.bare, J.base, J.hok, rv, q⟩
  | next => obtain ⟨σ', H', J, q⟩ := hs; exact ⟨V.non, H', J.os, J.bare, J.base, J.hok, rfl, q⟩
  | brk => obtain ⟨_, _, _, q⟩ := hs; exact False.elim q
  | cont => obtain ⟨_, _, _, q⟩ := hs; exact False.elim q
structure CalG (P : Program) (w : World) (K : PySem.W.Frag) (mg : Str → Option Value) (base : Heap) (k : Nat) (x : Str) (sp : Sp) : Prop where
  ex : ∃ (f : Addr) (fd : FuncData) (ps : List Str), FnG P w K mg base k f fd ps sp ∧ mg x = some (.ref f) ∧ PySem.W.keepIn K (.ref f) = true ∧ Binds K fd ps []
theorem mkCalG {x : Str} {st : Stmt} {f : Addr} {N ps : List Str} {k : Nat} {sp : Sp} (D : DfK K x x st f []) (g : mg x = some (.ref f)) (b : BindOk x x st ps) (S : C8.scC N ps (C8.fnScope st) = true)
    (len : ∀ vs H Q E, sp vs H Q E → vs.length = ps.length) (body : BodyG P w K mg base N x st f k sp) : CalG P w K mg base (k + 1) x sp := by
  obtain ⟨fd, F⟩ := D.ex
  exact ⟨f, fd, ps, fnG F S len body, g, F.kp, F.bindsN b⟩
end
section
variable {X : Cx}
theorem pe_cG {j k : Nat} {x : Str} {sp : Sp} {p pos : Pos} {e : Expr} {es : List Expr} {t : TA} (c : CalG X.prog X.w X.K X.mg X.base k x sp) (hG : X.A.guards = some []) (hr : Room j X.A) (hk : k ≤ j) (hg : Gl X x) (ha : PA X (e :: es) t)
    (hdb : (x == ("__debug__" : Str)) = false := by decide) (he : starEach (e :: es) X.env = (false, eval e X.env) :: starEach es X.env := by rfl) (hpl : (backTo pos (starEach es X.env)).any (·.1) = false := by rfl) :
    PE X (.Call (.Name x p) (e :: es) [] pos) (tCall sp [] C8.E0 t) := by
  obtain ⟨f, fd, ps, F, hm, kp, b⟩ := c.ex
  refine ⟨fun pins s σ H Q I h => ?_⟩
  refine wpAny_Call_Name_kw (ld_glob I hg hm ?_ hdb)
  refine PySem.W.callWith_K (h₀ := X.base) I.ok.mod.kin kp (thn (ha.run pos pins s σ H _ I h) fun us s1 ⟨vs, H1, I1, r, q⟩ => ⟨I1.kIn, ?_⟩) he hpl
  have r2 : Vals (vs ++ []) (us ++ []) := r.append .nil
  have hl : (us ++ []).length = ps.length := by rw [← r2.length]; exact F.len _ _ _ _ q
  refine wpAny_call (codeAny_mono (F.run X.A X.stack s1 H1 ⟨us, []⟩ (us ++ []) (vs ++ []) Q C8.E0 hG (hr.mono hk) I1.env0 (b s1 us I1.kIn hl) r2 q) fun r s' hq => ?_)
  cases r with
  | error e => exact C8.pass0 (E := C8.E0) pins σ H1 s1 e s' I1 hq
  | ok fl =>
    cases fl with
    | ret u => exact I1.after hq
    | next => exact False.elim hq
    | brk => exact False.elim hq
    | cont => exact False.elim hq
/-- repr of a list of None and ints -/
def rRepr (K : PySem.W.Frag) : List V → Hp → VK → Prop := fun vs H Q => ∃ (a : Addr) (d : PyData), vs = [.ref a] ∧ Dp K H (.ref a) d ∧ PyData.showable d = true ∧ d.hasDict = false ∧ d.shown.length ≤ sizeLine ∧ d.depth ≤ 8 ∧ Q (.str d.shown) H
theorem call_repr (hG : X.A.guards = some []) (hu : X.A.units + 65 < cLine) : CallR X (.builtin "repr") (rRepr X.K) := by
  intro pins s σ H xs us Q I r h
  obtain ⟨a, d, rfl, hd, hs, hdict, hsz, hdp, q⟩ := h
  cases r with
  | cons ra rt =>
    rename_i ua ut
    cases rt
    obtain ⟨as, r1⟩ := Dp.reads I d (.ref a) ua hd ra
    obtain rfl : ua = Value.ref a := ra
    exact repr_of_reads' r1 hs (fun z => by rw [hdict] at z; cases z) hG (by omega) (fun _ _ e => e) (fun h' u tk hk => ⟨.str d.shown, H, I.kept hk, ⟨_, rfl⟩, q⟩) hsz
end
/-- the law's call, the law's def promised where no repr is open -/
theorem lawG {P : Program} {w : World} {K : PySem.W.Frag} {mg mb : Str → Option Value} {k : Nat} {fa a : Addr} {fd : FuncData} {x : Str} {sp : Sp} {s₁ : Shared} {vs : List Value} {ns : List Int}
    (KX : K.In s₁.heap) (hns : s₁.heap.Ns mainGlobals mg) (hb : s₁.heap.Ns builtinsNs mb) (hbb : ∀ x : Str, x ≠ "__name__" → mb x = bootBuiltins x) (hlim : s₁.heap.NoLimit) (hg : s₁.gens = #[])
    (ha : s₁.heap.get? a = some { cls := .type "list", data := .seq vs.toArray }) (hi : IntsAre vs ns) (hl : ns.length ≤ sizeLine) (hr : Room k callerA)
    (F : ∀ base : Heap, K.In base → base.Ns mainGlobals mg → FnG P w K mg base k fa fd [x] sp) (hbind : ∀ (s : Shared) (u : Value), BindsTo s fd ⟨[u], []⟩ [(x, u)])
    (hsp : ∀ H : Hp, Only H → SqL K H a (ns.map V.int) → sp [.ref a] H (fun v _ => v = .bl true) fun _ _ _ => False)
    (hCX : ∀ H e s', C8.CX0 [] H s₁ (fun _ _ _ => False) e s' → False) :
    codeAny (model P w) callerA (.call (.ref fa) ⟨[.ref a], []⟩) (fun r s' => r = .ok (.ret (.bool true)) ∧ OldK s₁.heap s'.heap ∧ s'.os = s₁.os ∧ AllBare s'.gens) s₁ := by
  have rv := vals_ints hi
  have lenV := hi.length
  -- H: what is tracked, at most the script
  suffices core : ∀ H : Hp, Only H → SqL K H a (ns.map V.int) → HOk P w H s₁.heap → (∀ b, H b ≠ none → b = a) → (H a ≠ none → K.lookup a = none) →
      codeAny (model P w) callerA (.call (.ref fa) ⟨[.ref a], []⟩) (fun r s' => r = .ok (.ret (.bool true)) ∧ OldK s₁.heap s'.heap ∧ s'.os = s₁.os ∧ AllBare s'.gens) s₁ by
    cases hk : K.lookup a with
    | some o =>
      have e := KX a o hk
      rw [ha] at e
      cases e
      exact core (fun _ => none) (fun _ => .inl rfl) (.inr ⟨_, vs.toArray, _, hk, rfl, rfl, rfl, by rw [List.size_toArray, lenV]; exact hl, by simpa using rv⟩) (fun b u z => nomatch (show (none : Option HO) = some u from z)) (fun b z => absurd rfl z) fun z => absurd rfl z
    | none =>
      have at_ : ∀ b u, (if b = a then some (HO.frz { cls := .type "list", data := .seq vs.toArray } (.lst (ns.map V.int))) else none) = some u → b = a ∧ u = .frz { cls := .type "list", data := .seq vs.toArray } (.lst (ns.map V.int)) := fun b u z => by
        by_cases hb : b = a
        · rw [if_pos hb] at z; exact ⟨hb, (Option.some.inj z).symm⟩
        · rw [if_neg hb] at z; cases z
      refine core (fun b => if b = a then some (.frz { cls := .type "list", data := .seq vs.toArray } (.lst (ns.map V.int))) else none) (fun b => ?_) (.inl (.inr ⟨_, if_pos rfl⟩)) (fun b u z => ?_) (fun b z => ?_) fun _ => hk
      · by_cases hb : b = a
        · exact .inr ⟨_, _, if_pos hb⟩
        · exact .inl (if_neg hb)
      · obtain ⟨rfl, rfl⟩ := at_ b u z
        exact ⟨ha, by rw [List.length_map]; exact hl, vs, _, rv, ha⟩
      · obtain ⟨u, e⟩ := Option.ne_none_iff_exists'.mp z
        exact (at_ b u e).1
  intro H hO hS hok hA hK
  have off : ∀ {b : Addr}, b ≠ a → H b = none := fun {b} n => by
    cases q : H b with
    | none => rfl
    | some u => exact absurd (hA b (by rw [q]; exact Option.some_ne_none _)) n
  have nsK : ∀ {b : Addr} {m : Str → Option Value}, s₁.heap.Ns b m → (hidT s₁.heap H).Ns b m := fun {b m} ⟨o, es, ep, e, d, r⟩ => ⟨o, es, ep, hidT_get e (off fun z => by
    subst z
    rw [ha] at e
    cases e
    exact nomatch (show Data.seq vs.toArray _ = Data.dict es ep from d)), d, r⟩
  have inK : K.In (hidT s₁.heap H) := fun b o e => hidT_get (KX b o e) (by
    by_cases z : b = a
    · subst z
      cases q : H b with
      | none => rfl
      | some u => rw [hK (by rw [q]; exact Option.some_ne_none _)] at e; cases e
    · exact off z)
  have hM : Mod K mg (hidT s₁.heap H) := ⟨inK, nsK hns, ⟨mb, nsK hb, hbb⟩, let ⟨mc, h1, h2⟩ := hlim; ⟨mc, nsK h1, h2⟩⟩
  have e0 : Env0 P w K mg (hidT s₁.heap H) callerA [] s₁ H := ⟨rfl, hM, fun b o e => of_hidT e, Nat.le_of_eq (hidT_size _ _), trivial, fun b hb => absurd (show b ∈ ([] : List Addr) from hb) (by simp), hok, .of_eq hg⟩
  refine codeAny_mono ((F _ inK (nsK hns)).run callerA [] s₁ H ⟨[.ref a], []⟩ [.ref a] [.ref a] _ _ rfl hr e0 (hbind s₁ (.ref a)) (.cons rfl .nil) (hsp H hO hS)) fun r s' h => ?_
  cases r with
  | error e => exact (hCX H e s' h).elim
  | ok fl =>
    cases fl with
    | next => exact False.elim h
    | brk => exact False.elim h
    | cont => exact False.elim h
    | ret u =>
      obtain ⟨v, H', os, bare, un, hok', r', q⟩ := h
      obtain rfl : v = .bl true := q
      obtain rfl : u = Value.bool true := r'
      refine ⟨rfl, OldK.of_keep fun b o e => ?_, os, bare⟩
      rcases hO b with z | ⟨ob, xs, z⟩
      · exact un.keep b o e z (fun m => absurd (show b ∈ ([] : List Addr) from m) (by simp)) (by simp)
      · obtain ⟨e1, _⟩ := hok b _ z
        obtain ⟨e2, _⟩ := hok' b _ (un.frzs b ob _ z)
        rw [e] at e1; cases e1
        exact e2
theorem walkG {l : PySem.W.OpenLaw} {n k : Nat} {q : Program} {loose : List Str} {XP : (Str → Option Value) → Heap → Prop} {YP : World → Heap → Prop} {d : DefRec} {x : Str}
    (hn : l.most = some n) (hn2 : n ≤ sizeLine) (hdf : d.params.defaults = []) (hr : Room k callerA)
    (F : ∀ (w : World) (mg : Str → Option Value) (fa : Addr) (h : Heap), YP w h → h.Ns mainGlobals mg → mg d.name = some (.ref fa) →
      ∃ (K : PySem.W.Frag) (fd : FuncData) (sp : Sp), K.In h ∧ (∀ (s : Shared) (u : Value), BindsTo s fd ⟨[u], []⟩ [(x, u)]) ∧
        (∀ (H : Hp) (a : Addr) (ns : List Int), ns.length ≤ n → Only H → SqL K H a (ns.map V.int) → sp [.ref a] H (fun v _ => v = .bl true) fun _ _ _ => False) ∧
        ∀ base : Heap, K.In base → base.Ns mainGlobals mg → FnG l.prog w K mg base k fa fd [x] sp)
    (hCX : ∀ (H : Hp) (s : Shared) (e : Value) (s' : Shared), C8.CX0 [] H s (fun _ _ _ => False) e s' → False) :
    PySem.W.WalkO q loose XP YP l.row.toRowW d [] (fun f vs => PySem.call f vs) := by
  refine Att.attach_call hn hdf fun w s₀ s₁ mg mb fa o pm cd doc a vs ns G Y ho hd hcd hmg hobj hints hlen hg => ?_
  obtain ⟨K, fd, sp, KX, hb, hsp, hF⟩ := F w mg fa _ Y G.T.g hmg
  exact lawG KX G.T.g G.T.b G.T.builtins G.T.nolimit hg hobj hints (Nat.le_trans hlen hn2) hr hF hb (fun H hO hS => hsp H a ns hlen hO hS) fun H e s' => hCX H s₁ e s'
end AbW

/-! ## Wd -/
set_option Elab.async false
set_option linter.all false
set_option maxRecDepth 100000
set_option maxHeartbeats 4000000
/-! Wd: clean heaps, what stands in them, loops -/
namespace AbW
open PySem PySem.Spec PyProof.Rows L2 AbH AbR
/-! ### what is known (C) within what stands (H); from one pair to the next -/
structure Nx (M : List Addr) (C H C' H' : Hp) : Prop where
  cc : Same C C'
  ch : Same C' H'
  dm : ∀ b, H b ≠ none → H' b ≠ none ∧ ∀ xs, H' b = some (.tup xs) → H b = some (.tup xs)
  hh : ∀ b o, b ∉ M → H b = some o → H' b = some o
  fr : ∀ b, C b = none → H b ≠ none → (∀ xs, H b ≠ some (.tup xs)) → C' b = none
section
variable {M M' : List Addr} {C H C' H' C2 H2 : Hp} {p : Addr} {o : HO}
theorem same_none (s : Same C H) (h : H p = none) : C p = none := by
  cases e : C p with
  | none => rfl
  | some o => rw [s p o e] at h; cases h
theorem Same.rfl' (C : Hp) : Same C C := fun _ _ h => h
theorem Nx.rfl (s : Same C H) : Nx M C H C H := ⟨fun _ _ h => h, s, fun _ h => ⟨h, fun _ e => e⟩, fun _ _ _ h => h, fun _ h _ _ => h⟩
theorem Nx.trans (a : Nx M C H C' H') (b : Nx M C' H' C2 H2) : Nx M C H C2 H2 :=
  ⟨a.cc.trans b.cc, b.ch, fun x h => ⟨(b.dm x (a.dm x h).1).1, fun xs e => (a.dm x h).2 xs ((b.dm x (a.dm x h).1).2 xs e)⟩, fun x o n h => b.hh x o n (a.hh x o n h),
    fun x h h' h'' => b.fr x (a.fr x h h' h'') (a.dm x h').1 fun xs e => h'' xs ((a.dm x h').2 xs e)⟩
theorem Nx.mono (a : Nx M C H C' H') (h : ∀ x ∈ M, x ∈ M') : Nx M' C H C' H' := ⟨a.cc, a.ch, a.dm, fun b o n e => a.hh b o (fun z => n (h b z)) e, a.fr⟩
theorem Nx.pure (a : Nx [] C H C' H') : Nx M C H C' H' := a.mono fun _ h => nomatch h
theorem Nx.back (n : Nx M C H C' H') (h : H' p = none) : H p = none := by
  cases e : H p with
  | none => exact Eq.refl _
  | some o => exact absurd h (n.dm p (by rw [e]; simp)).1
theorem Nx.mut0 (n : Nx M C H C' H') (hc : C' p = none) (hp : H p = none ∨ (p ∈ M ∧ ∀ xs, o ≠ .tup xs)) : Nx M C H C' (upd H' p o) := by
  refine ⟨n.cc, fun b x e => ?_, fun b h => ?_, fun b x hb e => ?_, n.fr⟩
  · rw [upd_ne (ne_of_none e hc)]; exact n.ch b x e
  · by_cases hb : b = p
    · subst hb
      rw [upd_same]
      refine ⟨by simp, fun xs e => ?_⟩
      rcases hp with hp | ⟨_, ho⟩
      · exact absurd hp h
      · exact absurd (Option.some.inj e) (ho xs)
    · rw [upd_ne hb]; exact n.dm b h
  · have : b ≠ p := fun z => by
      subst z
      rcases hp with h | h
      · rw [h] at e; cases e
      · exact hb h.1
    rw [upd_ne this]; exact n.hh b x hb e
theorem Nx.mut (n : Nx M C H C' H') (hc : C' p = none) (hp : H p = none) : Nx M C H C' (upd H' p o) := n.mut0 hc (.inl hp)
theorem Nx.mutM (n : Nx M C H C' H') (hc : C' p = none) (hp : p ∈ M) (ho : ∀ xs, o ≠ .tup xs := by intro _ h; cases h) : Nx M C H C' (upd H' p o) := n.mut0 hc (.inr ⟨hp, ho⟩)
theorem Nx.tmp (n : Nx M C H C' H') (h : H' p = none) : Nx M C H C' (upd H' p o) := n.mut (same_none n.ch h) (n.back h)
theorem Nx.keep (n : Nx M C H C' H') (h : H' p = some o) (hp : H p = none) : Nx M C H (upd C' p o) H' := by
  refine ⟨fun b x e => ?_, fun b x e => ?_, n.dm, n.hh, fun b h1 h2 h3 => ?_⟩
  · by_cases hb : b = p
    · subst hb
      have := n.ch _ _ (n.cc _ _ e)
      rw [h] at this; cases this; exact upd_same
    · rw [upd_ne hb]; exact n.cc b x e
  · by_cases hb : b = p
    · subst hb; rw [upd_same] at e; cases e; exact h
    · rw [upd_ne hb] at e; exact n.ch b x e
  · rw [upd_ne (fun z => by subst z; exact h2 hp)]; exact n.fr b h1 h2 h3
theorem Nx.see {xs : List V} (n : Nx M C H C' H') (h : H' p = some (.tup xs)) : Nx M C H (upd C' p (.tup xs)) H' := by
  refine ⟨fun b x e => ?_, fun b x e => ?_, n.dm, n.hh, fun b h1 h2 h3 => ?_⟩
  · by_cases hb : b = p
    · subst hb
      have := n.ch _ _ (n.cc _ _ e)
      rw [h] at this; cases this; exact upd_same
    · rw [upd_ne hb]; exact n.cc b x e
  · by_cases hb : b = p
    · subst hb; rw [upd_same] at e; cases e; exact h
    · rw [upd_ne hb] at e; exact n.ch b x e
  · rw [upd_ne (fun z => by subst z; exact h3 xs ((n.dm _ h2).2 xs h))]; exact n.fr b h1 h2 h3
theorem Nx.new (n : Nx M C H C' H') (h : H' p = none) : Nx M C H (upd C' p o) (upd H' p o) := (n.tmp h).keep upd_same (n.back h)
theorem Nx.tmp0 (s : Same C H) (h : H p = none) : Nx M C H C (upd H p o) := (Nx.rfl s).tmp h
theorem Nx.new0 (s : Same C H) (h : H p = none) : Nx M C H (upd C p o) (upd H p o) := (Nx.rfl s).new h
/-- not known, but at hand: a thing that this code writes -/
structure Dt (C H : Hp) (D : Addr) (o : HO) : Prop where
  no : C D = none
  at_ : H D = some o
theorem Dt.on (d : Dt C H p o) (n : Nx M C H C' H') (h : p ∉ M := by intro h; cases h) (ho : ∀ xs, o ≠ .tup xs := by intro _ h; cases h) : Dt C' H' p o :=
  ⟨n.fr p d.no (by rw [d.at_]; simp) (fun xs => by rw [d.at_]; exact fun e => ho xs (Option.some.inj e)), n.hh p o h d.at_⟩
theorem Dt.make (s : Same C H) (h : H p = none) : Dt C (upd H p o) p o := ⟨same_none s h, upd_same⟩
theorem Dt.put {o' : HO} (d : Dt C H p o) : Dt C (upd H p o') p o' := ⟨d.no, upd_same⟩
theorem Nx.put {o' : HO} (n : Nx M C H C' H') (d : Dt C' H' p o) (h : H p = none) : Nx M C H C' (upd H' p o') := n.mut d.no h
def off (p : Addr) (C : Hp) : Hp := fun b => if b = p then none else C b
theorem off_ne {b : Addr} (h : b ≠ p) : off p C b = C b := by unfold off; rw [if_neg h]
theorem off_same : off p C p = none := by unfold off; rw [if_pos rfl]
theorem off_ch (s : Same C H) : Same (off p C) H := fun b x e => by
  by_cases hb : b = p
  · subst hb; rw [off_same] at e; cases e
  · rw [off_ne hb] at e; exact s b x e
theorem Nx.drop (n : Nx M C H C' H') (hp : C p = none) : Nx M C H (off p C') H' := by
  refine ⟨fun b x e => ?_, off_ch n.ch, n.dm, n.hh, fun b h1 h2 h3 => ?_⟩
  · rw [off_ne (ne_of_none e hp)]; exact n.cc b x e
  · by_cases hb : b = p
    · subst hb; exact off_same
    · rw [off_ne hb]; exact n.fr b h1 h2 h3
end
/-! ### dicts may be locked -/
def isDct : HO → Bool
  | .dK _ => true
  | .dT _ => true
  | .frz _ _ => true
  | _ => false
structure Le (C C' : Hp) : Prop where
  ex : ∀ a o, C a = some o → isDct o = false → C' a = some o
  rd : ∀ a kvs, Rd C a (.dK kvs) → Rd C' a (.dK kvs)
section
variable {M : List Addr} {C H C' H' C2 : Hp} {d : Addr} {od : Obj} {kvs : List (Key × V)}
theorem Le.refl' (C : Hp) : Le C C := ⟨fun _ _ h _ => h, fun _ _ h => h⟩
theorem Same.le (s : Same C C') : Le C C' := ⟨fun a o e _ => s a o e, fun a k r => Same.rd s r⟩
theorem Nx.le (n : Nx M C H C' H') : Le C C' := Same.le n.cc
theorem Le.trans (a : Le C C') (b : Le C' C2) : Le C C2 := ⟨fun x o e h => b.ex x o (a.ex x o e h) h, fun x k r => b.rd x k (a.rd x k r)⟩
theorem Le.lock (h : C d = some (.dK kvs)) : Le C (upd C d (.frz od (.dK kvs))) := by
  refine ⟨fun a o e ho => ?_, fun a k r => ?_⟩
  · rw [upd_ne (fun z => by subst z; rw [h] at e; cases e; cases ho)]; exact e
  · by_cases ha : a = d
    · subst ha
      rcases r with r | ⟨o, r⟩ <;> rw [h] at r <;> cases r
      exact .inr ⟨od, upd_same⟩
    · rcases r with r | ⟨o, r⟩
      · exact .inl (by rw [upd_ne ha]; exact r)
      · exact .inr ⟨o, by rw [upd_ne ha]; exact r⟩
theorem Le.unlock (h : C d = some (.frz od (.dK kvs))) : Le C (upd C d (.dK kvs)) := by
  refine ⟨fun a o e ho => ?_, fun a k r => ?_⟩
  · rw [upd_ne (fun z => by subst z; rw [h] at e; cases e; cases ho)]; exact e
  · by_cases ha : a = d
    · subst ha
      rcases r with r | ⟨o, r⟩ <;> rw [h] at r <;> cases r
      exact .inl upd_same
    · rcases r with r | ⟨o, r⟩
      · exact .inl (by rw [upd_ne ha]; exact r)
      · exact .inr ⟨o, by rw [upd_ne ha]; exact r⟩
theorem same_updB {u : HO} (s : Same C H) : Same (upd C d u) (upd H d u) := fun b x e => by
  by_cases hb : b = d
  · subst hb; rw [upd_same] at e ⊢; exact e
  · rw [upd_ne hb] at e ⊢; exact s b x e
/-- after the lock -/
theorem Nx.unlock {u v : HO} (hC : C d = some u) (hH : H d = some u) (n : Nx M (upd C d v) (upd H d v) C' H') : Nx M C H (upd C' d u) (upd H' d u) := by
  refine ⟨fun b x e => ?_, same_updB n.ch, fun b h => ?_, fun b x hb e => ?_, fun b h1 h2 h3 => ?_⟩
  · by_cases hb : b = d
    · subst hb; rw [hC] at e; cases e; exact upd_same
    · rw [upd_ne hb]; exact n.cc b x (by rw [upd_ne hb]; exact e)
  · by_cases hb : b = d
    · subst hb; rw [upd_same]; exact ⟨by simp, fun xs e => by rw [hH]; exact e⟩
    · rw [upd_ne hb]
      have := n.dm b (by rw [upd_ne hb]; exact h)
      rw [upd_ne hb] at this
      exact this
  · by_cases hb' : b = d
    · subst hb'; rw [hH] at e; cases e; exact upd_same
    · rw [upd_ne hb']; exact n.hh b x hb (by rw [upd_ne hb']; exact e)
  · by_cases hb : b = d
    · subst hb; rw [hC] at h1; cases h1
    · rw [upd_ne hb]; exact n.fr b (by rw [upd_ne hb]; exact h1) (by rw [upd_ne hb]; exact h2) (by rw [upd_ne hb]; exact h3)
end
theorem Dt.lock {p : Addr} {o u v : HO} (t : Dt C H p o) (h : C d = some u) : Dt (upd C d v) (upd H d v) p o :=
  have hne : p ≠ d := fun z => by have := t.no; rw [z, h] at this; cases this
  ⟨by rw [upd_ne hne]; exact t.no, by rw [upd_ne hne]; exact t.at_⟩
theorem nodup_map {α β : Type} {f : α → β} {l : List α} (hf : ∀ a b, f a = f b → a = b) (h : l.Nodup) : (l.map f).Nodup := List.Pairwise.map _ (fun a b n e => n (hf a b e)) h
/-! ### a fresh dict, locked for good -/
def tFrz (t : TE) : TE := fun σ H Q => t σ H fun v H1 => ∃ d u, v = .ref d ∧ H1 d = some u ∧ Mut (some u) ∧ ∀ od, Q v (upd H1 d (.frz od u))
theorem pe_frz {X : Cx} {e : Expr} {t : TE} (h : PE X e t) : PE X e (tFrz t) := by
  refine ⟨fun pins s σ H Q I hw => ?_⟩
  refine thn (h.run pins s σ H _ I hw) fun v s1 ⟨x, H1, I2, r, d, u, ex, hd, mu, q⟩ => ?_
  obtain ⟨od, I3⟩ := I2.lock hd mu
  exact ⟨x, _, I3, r, q od⟩
/-! ### small words -/
theorem iteP {c : Prop} [Decidable c] {A B : Prop} (h : c) (a : A) : if decide c = true then A else B := by rw [decide_eq_true h]; exact iteT a
theorem iteQ {c : Prop} [Decidable c] {A B : Prop} (h : ¬ c) (b : B) : if decide c = true then A else B := by rw [decide_eq_false h]; exact iteF b
theorem blP {c : Prop} [Decidable c] {Q : VK} {H : Hp} (h : c) (q : Q (.bl true) H) : Q (.bl (decide c)) H := by rw [decide_eq_true h]; exact q
theorem blQ {c : Prop} [Decidable c] {Q : VK} {H : Hp} (h : ¬ c) (q : Q (.bl false) H) : Q (.bl (decide c)) H := by rw [decide_eq_false h]; exact q
theorem iteB {b : Bool} {A B : Prop} (h : b = true) (a : A) : if b = true then A else B := by rw [h]; exact iteT a
theorem iteC {b : Bool} {A B : Prop} (h : b = false) (a : B) : if b = true then A else B := by rw [h]; exact iteF a
theorem sz0 : (0 : Nat) ≤ sizeLine := Nat.zero_le _
theorem sz1 : (1 : Nat) ≤ sizeLine := by rw [sizeLine_eq]; decide
theorem sz2 : (2 : Nat) ≤ sizeLine := by rw [sizeLine_eq]; decide
theorem sz3 : (3 : Nat) ≤ sizeLine := by rw [sizeLine_eq]; decide
theorem szK {n : Nat} (h : n ≤ 100000) : n ≤ sizeLine := Nat.le_trans h (by rw [sizeLine_eq]; decide)
theorem szL {n : Nat} (h : n < 100000) : n < sizeLine := Nat.lt_of_lt_of_le h (by rw [sizeLine_eq]; decide)
/-! ### promises: a flat value; a new thing -/
def Pure (pre : List V → Hp → V → Prop) : Sp := fun vs H Q _ => ∃ C v, Same C H ∧ pre vs C v ∧ ∀ C' H', Nx [] C H C' H' → Q v H'
def Gives (pre : List V → Hp → (V → Hp → Prop) → Prop) : Sp := fun vs H Q _ => ∃ C post, Same C H ∧ pre vs C post ∧ ∀ v C' H', Nx [] C H C' H' → post v C' → Q v H'
/-! ### comprehensions -/
section
variable {J : It} {n : Nat} {G : Hp → Prop} {Y : Nat → Hp → V → Hp → Prop} {M : List Addr}
/-- a list comprehension: R by the turn, the values so far and what is known -/
theorem lcN (w : Walk J n G Y) {g : TG} {tt : TT} {te : TE} {vs : List Nat} {σ : L2.St} {C1 H1 : Hp} {D : Addr} {Qd : Hp → Prop} (R : Nat → List V → Hp → Prop) (s1 : Same C1 H1) (hD : H1 D = none) (hM : D ∉ M) (hn : n ≤ sizeLine)
    (h0 : R 0 [] C1) (hl : ∀ i acc C, R i acc C → acc.length ≤ i) (hG : ∀ C H, Nx M C1 H1 C H → G H)
    (hs : ∀ i x acc C H H' (Z : V → Hp → Prop) (Z0 : Hp → Prop), i < n → Nx M C1 H1 C H → R i acc C → Y i H x H' → (∀ y C4 H4, Nx M C H C4 H4 → R (i + 1) (acc ++ [y]) C4 → Z y H4) → (∀ C3 H3, Nx M C H C3 H3 → R (i + 1) acc C3 → Z0 H3) →
      g x (wipe σ vs) H' fun σ2 H2 => wipe σ2 vs = wipe σ vs ∧ tt σ2 H2 fun b H3 => if b = true then te σ2 H3 Z else Z0 H3)
    (hd : ∀ acc C H, Nx M C1 H1 C H → R n acc C → C D = none → H D = some (.lst acc) → Qd H) :
    ∃ W : Nat → Nat → Hp → Prop, (∃ m, W 0 m (upd H1 D (.lst []))) ∧ ∀ i m H, W i m H →
      (J.stop i H ∧ Qd H) ∨ (J.go i H ∧ ∃ Nx : Hp → Prop, (∀ H', Nx H' → ∃ m', m' < m ∧ W (i + 1) m' H') ∧ ∀ x H', J.yld i H x H' → g x (wipe σ vs) H' fun σ2 H2 => wipe σ2 vs = wipe σ vs ∧ tt σ2 H2 fun b H3 =>
        if b = true then te σ2 H3 fun y H4 => ∃ acc, H4 D = some (.lst acc) ∧ acc.length < sizeLine ∧ Nx (upd H4 D (.lst (acc ++ [y]))) else Nx H3) := by
  refine lc_it w (fun i H => ∃ C acc, Nx M C1 H1 C H ∧ C D = none ∧ H D = some (.lst acc) ∧ R i acc C) ⟨C1, [], (Nx.rfl s1).tmp hD, same_none s1 hD, upd_same, h0⟩ (fun i H hi p => ?_) (fun i x H H' hi p y => ?_) (fun H p => ?_)
  · obtain ⟨C, acc, nx, _, _, _⟩ := p
    exact hG C H nx
  · obtain ⟨C, acc, nx, cD, hDl, r⟩ := p
    have tail : ∀ {C4 H4 : Hp}, AbW.Nx M C H C4 H4 → C4 D = none ∧ H4 D = some (.lst acc) := fun {C4 H4} n4 => ⟨n4.fr D cD (by rw [hDl]; simp) (fun xs => by rw [hDl]; simp), n4.hh D _ hM hDl⟩
    refine hs i x acc C H H' _ _ hi nx r y (fun y C4 H4 n4 r4 => ?_) (fun C3 H3 n3 r3 => ?_)
    · obtain ⟨c4, h4⟩ := tail n4
      have := hl i acc C r
      exact ⟨acc, h4, by omega, C4, acc ++ [y], (nx.trans n4).mut c4 hD, c4, upd_same, r4⟩
    · obtain ⟨c3, h3⟩ := tail n3
      exact ⟨C3, acc, nx.trans n3, c3, h3, r3⟩
  · obtain ⟨C, acc, nx, cD, hDl, r⟩ := p
    exact hd acc C H nx r cD hDl
/-- a dict comprehension -/
theorem dc_it (w : Walk J n G Y) {g : TG} {tt : TT} {tk tv : TE} {vs : List Nat} {σ : L2.St} {H1 : Hp} {D : Addr} {Qd : Hp → Prop} (Pv : Nat → Hp → Prop) (h0 : Pv 0 (upd H1 D (.dK []))) (hG : ∀ i H, i ≤ n → Pv i H → G H)
    (hs : ∀ i x H H', i < n → Pv i H → Y i H x H' → g x (wipe σ vs) H' fun σ2 H2 => wipe σ2 vs = wipe σ vs ∧ tt σ2 H2 fun b H3 =>
      if b = true then tk σ2 H3 fun y H4 => tv σ2 H4 fun z H5 => ∃ kvs k, y = kV k ∧ H5 D = some (.dK kvs) ∧ kvs.length < sizeLine ∧ Pv (i + 1) (upd H5 D (.dK (putK kvs k z))) else Pv (i + 1) H3) (hd : ∀ H, Pv n H → Qd H) :
    ∃ W : Nat → Nat → Hp → Prop, (∃ m, W 0 m (upd H1 D (.dK []))) ∧ ∀ i m H, W i m H →
      (J.stop i H ∧ Qd H) ∨ (J.go i H ∧ ∃ Nx : Hp → Prop, (∀ H', Nx H' → ∃ m', m' < m ∧ W (i + 1) m' H') ∧ ∀ x H', J.yld i H x H' → g x (wipe σ vs) H' fun σ2 H2 => wipe σ2 vs = wipe σ vs ∧ tt σ2 H2 fun b H3 =>
        if b = true then tk σ2 H3 fun y H4 => tv σ2 H4 fun z H5 => ∃ kvs k, y = kV k ∧ H5 D = some (.dK kvs) ∧ kvs.length < sizeLine ∧ Nx (upd H5 D (.dK (putK kvs k z))) else Nx H3) := by
  refine ⟨fun i m H => m = n - i ∧ i ≤ n ∧ Pv i H, ⟨n, by simp, Nat.zero_le _, h0⟩, ?_⟩
  rintro i m H ⟨rfl, hi, p⟩
  have q := hG i H hi p
  by_cases hlt : i < n
  · refine .inr ⟨w.goes i H hlt q, Pv (i + 1), fun H' p' => ⟨n - (i + 1), by omega, rfl, hlt, p'⟩, fun x H' y => hs i x H H' hlt p (w.yields i H x H' hlt q y)⟩
  · have e : i = n := by omega
    subst e
    exact .inl ⟨w.stops H q, hd H p⟩
/-- R by the turn, the entries so far and what is known; keys are new -/
theorem dcN (w : Walk J n G Y) {g : TG} {tt : TT} {tk tv : TE} {vs : List Nat} {σ : L2.St} {C1 H1 : Hp} {D : Addr} {Qd : Hp → Prop} (R : Nat → List (Key × V) → Hp → Prop) (s1 : Same C1 H1) (hD : H1 D = none) (hM : D ∉ M) (hn : n ≤ sizeLine)
    (h0 : R 0 [] C1) (hl : ∀ i acc C, R i acc C → acc.length ≤ i) (hG : ∀ C H, Nx M C1 H1 C H → G H)
    (hs : ∀ i x acc C H H' (Z : V → V → Hp → Prop) (Z0 : Hp → Prop), i < n → Nx M C1 H1 C H → R i acc C → Y i H x H' → (∀ k z C4 H4, Nx M C H C4 H4 → R (i + 1) (putK acc k z) C4 → Z (kV k) z H4) → (∀ C3 H3, Nx M C H C3 H3 → R (i + 1) acc C3 → Z0 H3) →
      g x (wipe σ vs) H' fun σ2 H2 => wipe σ2 vs = wipe σ vs ∧ tt σ2 H2 fun b H3 => if b = true then tk σ2 H3 fun y H4 => tv σ2 H4 (Z y) else Z0 H3)
    (hd : ∀ acc C H, Nx M C1 H1 C H → R n acc C → C D = none → H D = some (.dK acc) → Qd H) :
    ∃ W : Nat → Nat → Hp → Prop, (∃ m, W 0 m (upd H1 D (.dK []))) ∧ ∀ i m H, W i m H →
      (J.stop i H ∧ Qd H) ∨ (J.go i H ∧ ∃ Nx : Hp → Prop, (∀ H', Nx H' → ∃ m', m' < m ∧ W (i + 1) m' H') ∧ ∀ x H', J.yld i H x H' → g x (wipe σ vs) H' fun σ2 H2 => wipe σ2 vs = wipe σ vs ∧ tt σ2 H2 fun b H3 =>
        if b = true then tk σ2 H3 fun y H4 => tv σ2 H4 fun z H5 => ∃ kvs k, y = kV k ∧ H5 D = some (.dK kvs) ∧ kvs.length < sizeLine ∧ Nx (upd H5 D (.dK (putK kvs k z))) else Nx H3) := by
  refine dc_it w (fun i H => ∃ C acc, Nx M C1 H1 C H ∧ C D = none ∧ H D = some (.dK acc) ∧ R i acc C) ⟨C1, [], (Nx.rfl s1).tmp hD, same_none s1 hD, upd_same, h0⟩ (fun i H hi p => ?_) (fun i x H H' hi p y => ?_) (fun H p => ?_)
  · obtain ⟨C, acc, nx, _, _, _⟩ := p
    exact hG C H nx
  · obtain ⟨C, acc, nx, cD, hDl, r⟩ := p
    have tail : ∀ {C4 H4 : Hp}, AbW.Nx M C H C4 H4 → C4 D = none ∧ H4 D = some (.dK acc) := fun {C4 H4} n4 => ⟨n4.fr D cD (by rw [hDl]; simp) (fun xs => by rw [hDl]; simp), n4.hh D _ hM hDl⟩
    refine hs i x acc C H H' (fun y z H5 => ∃ kvs k, y = kV k ∧ H5 D = some (.dK kvs) ∧ kvs.length < sizeLine ∧ ∃ C acc, Nx M C1 H1 C (upd H5 D (.dK (putK kvs k z))) ∧ C D = none ∧ (upd H5 D (.dK (putK kvs k z))) D = some (.dK acc) ∧ R (i + 1) acc C) _ hi nx r y (fun k z C4 H4 n4 r4 => ?_) (fun C3 H3 n3 r3 => ?_)
    · obtain ⟨c4, h4⟩ := tail n4
      have := hl i acc C r
      exact ⟨acc, k, rfl, h4, by omega, C4, _, (nx.trans n4).mut c4 hD, c4, upd_same, r4⟩
    · obtain ⟨c3, h3⟩ := tail n3
      exact ⟨C3, acc, nx.trans n3, c3, h3, r3⟩
  · obtain ⟨C, acc, nx, cD, hDl, r⟩ := p
    exact hd acc C H nx r cD hDl
/-- no test, the values by turn: S is kept -/
theorem lcMap (w : Walk J n G Y) {g : TG} {te : TE} {vs : List Nat} {σ : L2.St} {C1 H1 : Hp} {Qd : Addr → Hp → Prop} (S : Nat → V → Hp → Prop) (s1 : Same C1 H1) (hM : ∀ x ∈ M, H1 x ≠ none) (hn : n ≤ sizeLine) (hG : ∀ C H, Nx M C1 H1 C H → G H)
    (hS : ∀ i v C C', Same C C' → S i v C → S i v C')
    (hs : ∀ i x C H H' (Z : V → Hp → Prop), i < n → Nx M C1 H1 C H → Y i H x H' → (∀ y C4 H4, Nx M C H C4 H4 → S i y C4 → Z y H4) → g x (wipe σ vs) H' fun σ2 H2 => wipe σ2 vs = wipe σ vs ∧ te σ2 H2 Z)
    (hd : ∀ p acc C H, Nx M C1 H1 C H → C p = none → H1 p = none → H p = some (.lst acc) → acc.length = n → (∀ i v, acc[i]? = some v → S i v C) → Qd p H) :
    ∀ D, H1 D = none → ∃ W : Nat → Nat → Hp → Prop, (∃ m, W 0 m (upd H1 D (.lst []))) ∧ ∀ i m H, W i m H →
      (J.stop i H ∧ Qd D H) ∨ (J.go i H ∧ ∃ Nx : Hp → Prop, (∀ H', Nx H' → ∃ m', m' < m ∧ W (i + 1) m' H') ∧ ∀ x H', J.yld i H x H' → g x (wipe σ vs) H' fun σ2 H2 => wipe σ2 vs = wipe σ vs ∧ tYes σ2 H2 fun b H3 =>
        if b = true then te σ2 H3 fun y H4 => ∃ acc, H4 D = some (.lst acc) ∧ acc.length < sizeLine ∧ Nx (upd H4 D (.lst (acc ++ [y]))) else Nx H3) := by
  intro D hD
  refine lcN w (fun i acc C => acc.length = i ∧ ∀ j v, acc[j]? = some v → S j v C) s1 hD (fun z => hM D z hD) hn ⟨rfl, fun j v e => by simp at e⟩ (fun i acc C r => Nat.le_of_eq r.1) hG (fun i x acc C H H' Z Z0 hi nx r y k _ => ?_) (fun acc C H nx r cD hH => hd D acc C H nx cD hD hH r.1 r.2)
  exact hs i x C H H' Z hi nx y fun y C4 H4 n4 sy => k y C4 H4 n4 ⟨by simp [r.1], fun j v e => by
    rcases Nat.lt_trichotomy j i with h | h | h
    · rw [List.getElem?_append_left (by omega)] at e
      exact hS _ _ _ _ n4.cc (r.2 j v e)
    · subst h
      rw [List.getElem?_append_right (by omega)] at e
      simp [r.1] at e
      subst e
      exact sy
    · rw [List.getElem?_eq_none (by simp; omega)] at e
      cases e⟩
/-- all turns give True -/
theorem lcTrue (w : Walk J n G Y) {g : TG} {te : TE} {vs : List Nat} {σ : L2.St} {C1 H1 : Hp} {Qd : Addr → Hp → Prop} (s1 : Same C1 H1) (hM : ∀ x ∈ M, H1 x ≠ none) (hn : n ≤ sizeLine) (hG : ∀ C H, Nx M C1 H1 C H → G H)
    (hs : ∀ i x C H H' (Z : V → Hp → Prop), i < n → Nx M C1 H1 C H → Y i H x H' → (∀ C4 H4, Nx M C H C4 H4 → Z (.bl true) H4) → g x (wipe σ vs) H' fun σ2 H2 => wipe σ2 vs = wipe σ vs ∧ te σ2 H2 Z)
    (hd : ∀ p (bs : List Bool) C H, Nx M C1 H1 C H → H p = some (.lst (bs.map V.bl)) → bs.all id = true → Qd p H) :
    ∀ D, H1 D = none → ∃ W : Nat → Nat → Hp → Prop, (∃ m, W 0 m (upd H1 D (.lst []))) ∧ ∀ i m H, W i m H →
      (J.stop i H ∧ Qd D H) ∨ (J.go i H ∧ ∃ Nx : Hp → Prop, (∀ H', Nx H' → ∃ m', m' < m ∧ W (i + 1) m' H') ∧ ∀ x H', J.yld i H x H' → g x (wipe σ vs) H' fun σ2 H2 => wipe σ2 vs = wipe σ vs ∧ tYes σ2 H2 fun b H3 =>
        if b = true then te σ2 H3 fun y H4 => ∃ acc, H4 D = some (.lst acc) ∧ acc.length < sizeLine ∧ Nx (upd H4 D (.lst (acc ++ [y]))) else Nx H3) := by
  refine lcMap w (fun _ v _ => v = .bl true) s1 hM hn hG (fun _ _ _ _ _ h => h) (fun i x C H H' Z hi nx y k => hs i x C H H' Z hi nx y fun C4 H4 n4 => k _ C4 H4 n4 rfl) (fun p acc C H nx cp hp hH hl ha => ?_)
  have e : acc = (List.replicate n true).map V.bl := by
    refine List.ext_getElem? fun i => ?_
    rw [List.map_replicate, List.getElem?_replicate]
    by_cases h : i < n
    · rw [if_pos h]
      have h' : i < acc.length := by omega
      rw [List.getElem?_eq_getElem h']
      exact congrArg some (ha i _ (List.getElem?_eq_getElem h'))
    · rw [if_neg h]
      exact List.getElem?_eq_none (by omega)
  rw [e] at hH
  exact hd p _ C H nx hH (by simp)
/-- two clauses: the outer turns -/
theorem lc2_out (w : Walk J n G Y) {g : TG} {tt : TT} {wi1 : TI} {K1 : It → (Hp → Prop) → L2.St → Hp → Prop} {vs : List Nat} {σ : L2.St} {H1 : Hp} {D : Addr} {Qd : Hp → Prop} (Pv : Nat → Hp → Prop) (h0 : Pv 0 (upd H1 D (.lst []))) (hG : ∀ i H, i ≤ n → Pv i H → G H)
    (hs : ∀ i x H H', i < n → Pv i H → Y i H x H' → g x (wipe σ vs) H' fun σ2 H2 => wipe σ2 vs = wipe σ vs ∧ tt σ2 H2 fun b H3 => if b = true then wi1 σ2 H3 fun J1 H4 => K1 J1 (Pv (i + 1)) σ2 H4 else Pv (i + 1) H3) (hd : ∀ H, Pv n H → Qd H) :
    ∃ W : Nat → Nat → Hp → Prop, (∃ m, W 0 m (upd H1 D (.lst []))) ∧ ∀ i m H, W i m H →
      (J.stop i H ∧ Qd H) ∨ (J.go i H ∧ ∃ Nx : Hp → Prop, (∀ H', Nx H' → ∃ m', m' < m ∧ W (i + 1) m' H') ∧ ∀ x H', J.yld i H x H' → g x (wipe σ vs) H' fun σ2 H2 => wipe σ2 vs = wipe σ vs ∧ tt σ2 H2 fun b H3 =>
        if b = true then wi1 σ2 H3 fun J1 H4 => K1 J1 Nx σ2 H4 else Nx H3) := by
  refine ⟨fun i m H => m = n - i ∧ i ≤ n ∧ Pv i H, ⟨n, by simp, Nat.zero_le _, h0⟩, ?_⟩
  rintro i m H ⟨rfl, hi, p⟩
  have q := hG i H hi p
  by_cases hlt : i < n
  · exact .inr ⟨w.goes i H hlt q, Pv (i + 1), fun H' p' => ⟨n - (i + 1), by omega, rfl, hlt, p'⟩, fun x H' y => hs i x H H' hlt p (w.yields i H x H' hlt q y)⟩
  · have e : i = n := by omega
    subst e
    exact .inl ⟨w.stops H q, hd H p⟩
/-- .. and the inner ones -/
theorem lc2_in (w : Walk J n G Y) {g : TG} {tt : TT} {te : TE} {vs : List Nat} {σ : L2.St} {H4 : Hp} {D : Addr} {Nxt : Hp → Prop} (Pv : Nat → Hp → Prop) (h0 : Pv 0 H4) (hG : ∀ i H, i ≤ n → Pv i H → G H)
    (hs : ∀ i x H H', i < n → Pv i H → Y i H x H' → g x (wipe σ vs) H' fun σ2 H2 => wipe σ2 vs = wipe σ vs ∧ tt σ2 H2 fun b H3 =>
      if b = true then te σ2 H3 fun y H4 => ∃ acc, H4 D = some (.lst acc) ∧ acc.length < sizeLine ∧ Pv (i + 1) (upd H4 D (.lst (acc ++ [y]))) else Pv (i + 1) H3) (hd : ∀ H, Pv n H → Nxt H) :
    ∃ W : Nat → Nat → Hp → Prop, (∃ m, W 0 m H4) ∧ ∀ i m H, W i m H →
      (J.stop i H ∧ Nxt H) ∨ (J.go i H ∧ ∃ Nx : Hp → Prop, (∀ H', Nx H' → ∃ m', m' < m ∧ W (i + 1) m' H') ∧ ∀ x H', J.yld i H x H' → g x (wipe σ vs) H' fun σ2 H2 => wipe σ2 vs = wipe σ vs ∧ tt σ2 H2 fun b H3 =>
        if b = true then te σ2 H3 fun y H4 => ∃ acc, H4 D = some (.lst acc) ∧ acc.length < sizeLine ∧ Nx (upd H4 D (.lst (acc ++ [y]))) else Nx H3) := by
  refine ⟨fun i m H => m = n - i ∧ i ≤ n ∧ Pv i H, ⟨n, by simp, Nat.zero_le _, h0⟩, ?_⟩
  rintro i m H ⟨rfl, hi, p⟩
  have q := hG i H hi p
  by_cases hlt : i < n
  · exact .inr ⟨w.goes i H hlt q, Pv (i + 1), fun H' p' => ⟨n - (i + 1), by omega, rfl, hlt, p'⟩, fun x H' y => hs i x H H' hlt p (w.yields i H x H' hlt q y)⟩
  · have e : i = n := by omega
    subst e
    exact .inl ⟨w.stops H q, hd H p⟩
/-- {f i: v for ..}, the keys differ -/
theorem dcMap (w : Walk J n G Y) {g : TG} {tk tv : TE} {vs : List Nat} {σ : L2.St} {C1 H1 : Hp} {Qd : Addr → Hp → Prop} (f : Nat → Key) (S : Nat → V → Hp → Prop) (hf : ∀ i j, i < n → j < n → f i = f j → i = j) (s1 : Same C1 H1) (hM : ∀ x ∈ M, H1 x ≠ none) (hn : n ≤ sizeLine) (hG : ∀ C H, Nx M C1 H1 C H → G H)
    (hS : ∀ i v C C', Same C C' → S i v C → S i v C')
    (hs : ∀ i x C H H' (Z : V → V → Hp → Prop), i < n → Nx M C1 H1 C H → Y i H x H' → (∀ y C4 H4, Nx M C H C4 H4 → S i y C4 → Z (kV (f i)) y H4) → g x (wipe σ vs) H' fun σ2 H2 => wipe σ2 vs = wipe σ vs ∧ tk σ2 H2 fun y H4 => tv σ2 H4 (Z y))
    (hd : ∀ p acc C H, Nx M C1 H1 C H → C p = none → H1 p = none → H p = some (.dK acc) → acc.length = n → (∀ i kv, acc[i]? = some kv → kv.1 = f i ∧ S i kv.2 C) → Qd p H) :
    ∀ D, H1 D = none → ∃ W : Nat → Nat → Hp → Prop, (∃ m, W 0 m (upd H1 D (.dK []))) ∧ ∀ i m H, W i m H →
      (J.stop i H ∧ Qd D H) ∨ (J.go i H ∧ ∃ Nx : Hp → Prop, (∀ H', Nx H' → ∃ m', m' < m ∧ W (i + 1) m' H') ∧ ∀ x H', J.yld i H x H' → g x (wipe σ vs) H' fun σ2 H2 => wipe σ2 vs = wipe σ vs ∧ tYes σ2 H2 fun b H3 =>
        if b = true then tk σ2 H3 fun y H4 => tv σ2 H4 fun z H5 => ∃ kvs k, y = kV k ∧ H5 D = some (.dK kvs) ∧ kvs.length < sizeLine ∧ Nx (upd H5 D (.dK (putK kvs k z))) else Nx H3) := by
  intro D hD
  refine dcN w (fun i acc C => i ≤ n ∧ acc.length = i ∧ ∀ j kv, acc[j]? = some kv → kv.1 = f j ∧ S j kv.2 C) s1 hD (fun z => hM D z hD) hn ⟨Nat.zero_le _, rfl, fun j v e => by simp at e⟩ (fun i acc C r => Nat.le_of_eq r.2.1) hG (fun i x acc C H H' Z Z0 hi nx r y k _ => ?_) (fun acc C H nx r cD hH => hd D acc C H nx cD hD hH r.2.1 r.2.2)
  have nw : valV acc (f i) = none := by
    cases hv : valV acc (f i) with
    | none => rfl
    | some v =>
      unfold valV at hv
      obtain ⟨kv, h1, _⟩ := Option.map_eq_some_iff.mp hv
      have h2 := List.mem_of_find?_eq_some h1
      have h3 : kv.1 = f i := by simpa using List.find?_some h1
      obtain ⟨j, hj, e⟩ := List.mem_iff_getElem.mp h2
      have h4 := (r.2.2 j kv (by rw [List.getElem?_eq_getElem hj, e])).1
      have := hf j i (by omega) hi (by rw [← h4, h3])
      omega
  refine hs i x C H H' Z hi nx y fun y C4 H4 n4 sy => k (f i) y C4 H4 n4 ⟨by omega, ?_⟩
  rw [putK_new y nw]
  refine ⟨by simp [r.2.1], fun j v e => ?_⟩
  rcases Nat.lt_trichotomy j i with h | h | h
  · rw [List.getElem?_append_left (by omega)] at e
    exact ⟨(r.2.2 j v e).1, hS _ _ _ _ n4.cc (r.2.2 j v e).2⟩
  · subst h
    rw [List.getElem?_append_right (by omega)] at e
    simp [r.2.1] at e
    subst e
    exact ⟨rfl, sy⟩
  · rw [List.getElem?_eq_none (by simp; omega)] at e
    cases e
/-! the keys of another dict -/
def kAt (kvs : List (Key × V)) (i : Nat) : Key := (kvs.map (·.1)).getD i (.inl 0)
theorem kAt_of {kvs : List (Key × V)} {i : Nat} {k : Key} {v : V} (h : kvs[i]? = some (k, v)) : kAt kvs i = k := by
  unfold kAt
  rw [List.getD_eq_getElem?_getD, List.getElem?_map, h]; rfl
theorem kAt_inj {kvs : List (Key × V)} (nd : (kvs.map (·.1)).Nodup) (i j : Nat) (hi : i < kvs.length) (hj : j < kvs.length) (e : kAt kvs i = kAt kvs j) : i = j := by
  unfold kAt at e
  have hi' : i < (kvs.map (·.1)).length := by rw [List.length_map]; exact hi
  have hj' : j < (kvs.map (·.1)).length := by rw [List.length_map]; exact hj
  rw [List.getD_eq_getElem?_getD, List.getD_eq_getElem?_getD, List.getElem?_eq_getElem hi', List.getElem?_eq_getElem hj'] at e
  exact (List.getElem_inj nd).mp e
theorem same_keys {acc kvs : List (Key × V)} (hl : acc.length = kvs.length) (h : ∀ i kv, acc[i]? = some kv → kv.1 = kAt kvs i) : acc.map (·.1) = kvs.map (·.1) := by
  refine List.ext_getElem? fun i => ?_
  rw [List.getElem?_map, List.getElem?_map]
  by_cases hi : i < kvs.length
  · have hi' : i < acc.length := by omega
    rw [List.getElem?_eq_getElem hi, List.getElem?_eq_getElem hi']
    have e1 := h i _ (List.getElem?_eq_getElem hi')
    rw [kAt_of (k := (kvs[i]).1) (v := (kvs[i]).2) (List.getElem?_eq_getElem hi)] at e1
    exact congrArg some e1
  · rw [List.getElem?_eq_none (by omega), List.getElem?_eq_none (by omega)]
theorem valV_mem {kvs : List (Key × V)} {k : Key} {v : V} (nd : (kvs.map (·.1)).Nodup) (h : (k, v) ∈ kvs) : valV kvs k = some v := by
  induction kvs with
  | nil => cases h
  | cons p l ih =>
    rw [List.map_cons, List.nodup_cons] at nd
    rcases List.mem_cons.mp h with e | h
    · subst e; exact valV_pos rfl
    · rw [valV_neg (fun e => nd.1 (by rw [e]; exact List.mem_map.mpr ⟨_, h, rfl⟩))]
      exact ih nd.2 h
theorem mem_valV {kvs : List (Key × V)} {k : Key} {v : V} (h : valV kvs k = some v) : (k, v) ∈ kvs := by
  induction kvs with
  | nil => cases h
  | cons p l ih =>
    by_cases e : p.1 = k
    · rw [valV_pos e] at h; cases h; subst e; exact List.mem_cons_self ..
    · rw [valV_neg e] at h; exact List.mem_cons_of_mem _ (ih h)
/-- all([.. for k in d]), d locked, each turn True -/
theorem lockTrue {d : Addr} {kvs : List (Key × V)} {j : Nat} {g : TG} {te : TE} {vs : List Nat} {σ : L2.St} {C H : Hp} {Qd : VK} (sc : Same C H) (hC : C d = some (.dK kvs)) (hn : kvs.length ≤ sizeLine) (hv : σ[j]? = some (some (.ref d)))
    (hs : ∀ (od : Obj) (i : Nat) (k : Key) (v : V) C' H' (Z : V → Hp → Prop), kvs[i]? = some (k, v) → Nx [] (upd C d (.frz od (.dK kvs))) (upd H d (.frz od (.dK kvs))) C' H' → (∀ C4 H4, Nx [] C' H' C4 H4 → Z (.bl true) H4) → g (kV k) (wipe σ vs) H' fun σ2 H2 => wipe σ2 vs = wipe σ vs ∧ te σ2 H2 Z)
    (hd : ∀ p (bs : List Bool) C' H', Nx [] C H C' H' → H' p = some (.lst (bs.map V.bl)) → bs.all id = true → Qd (.ref p) H') : tLockE (tLc (iKeys (tVar j)) g tYes te vs) σ H Qd := by
  refine ⟨d, .dK kvs, sc _ _ hC, trivial, fun od => ⟨_, hv, d, od, rfl, .inl ⟨kvs, upd_same, ?_⟩⟩⟩
  refine lcTrue (M := []) (Qd := fun D H' => H' d = some (.frz od (.dK kvs)) ∧ Qd (.ref D) (upd H' d (.dK kvs))) walk_keys (same_updB (u := .frz od (.dK kvs)) sc) (fun _ h => nomatch h) hn (fun C' H' n => n.hh d _ (fun z => nomatch z) upd_same) (fun i x C' H' H2 Z hi nx y k => ?_) (fun p bs C' H' nx hp ha => ?_)
  · obtain ⟨rfl, kk, v, e, rfl⟩ := y
    exact hs od i kk v C' H2 Z e nx k
  · have hdf := nx.hh d _ (fun z => nomatch z) (upd_same (H := H) (o := .frz od (.dK kvs)))
    exact ⟨hdf, hd p bs _ _ (nx.unlock hC (sc _ _ hC)) (by rw [upd_ne (fun z => by subst z; rw [hdf] at hp; cases hp)]; exact hp) ha⟩
end
end AbW

/-! ## Wp -/
set_option Elab.async false
set_option linter.all false
set_option maxRecDepth 100000
set_option maxHeartbeats 4000000
/-! Wp: what stands in a clean heap -/
namespace AbW
open PySem PySem.Spec PyProof.Rows L2 AbH AbR
theorem units1 {k : Nat} {A : Around} (r : Room k A) : A.units + 1 < cLine := by have := r.units; omega
theorem units65 {k : Nat} {A : Around} (r : Room k A) : A.units + 65 < cLine := by have := r.un; omega
/-! ### __init__ with one default, all arguments written -/
theorem mkMakD {P : Program} {w : World} {K : PySem.W.Frag} {mg : Str → Option Value} {base : Heap} {x qual : Str} {st : Stmt} {C f : Addr} {N ps : List Str} {k : Nat} {sp : Sp} {dv : V} (D : DfK K "__init__" qual st f [dv]) (M : Mk K C f) (g : mg x = some (.ref C))
    (b : ∀ (T : Addr) (kV doc pm : Value) (an : Option Addr) (cdv ct : Value) (us its : List Value), us.length = ps.length → its.length = 1 →
      ∃ k, bindArgs (PySem.W.fnOf "__init__" qual (C8.fnArgs st) (C8.fnBody st) (C8.fnScope st) (.ref T) kV doc pm an cdv ct) ⟨us, []⟩ = seqItems? (.ref T) >>= k ∧ k (some its.toArray) = pure (ps.zip (us ++ its.drop 1)))
    (S : C8.scC N ps (C8.fnScope st) = true) (len : ∀ vs H Q E, sp vs H Q E → vs.length = ps.length) (body : BodyOk P w K mg base N qual st f k sp) : C8.Mak P w K mg base (k + 1) x C sp [] := by
  obtain ⟨fd, F⟩ := D.ex
  obtain ⟨ds, hv, hb⟩ := F.binds1 ps.length 1 (fun z => by cases z) (by simp) b
  cases hv
  exact ⟨f, fd, ps, [], M, fnK F S len body, g, hb, .nil⟩
/-! ### rules with the written part given -/
section
variable {X : Cx} {K : PySem.W.Frag}
theorem op_inK (h : X.K = K) : OpR X (compareOp .In) (rIn K false) := by subst h; exact op_in_seq
theorem op_notInK (h : X.K = K) : OpR X (compareOp .NotIn) (rIn K true) := by subst h; exact op_notIn_seq
theorem pi_tupK {tg l : Expr} {tl : TE} (h : X.K = K) (hl : PE X l tl) : PI X tg l (iTup K tl) := by subst h; exact pi_tup hl
theorem pi_listK {tg l : Expr} {tl : TE} (h : X.K = K) (hl : PE X l tl) : PI X tg l (iList K tl) := by subst h; exact pi_list hl
theorem ix_tupK (h : X.K = K) : IxR X (rIxT K) := by subst h; exact ix_tup
theorem ix_listK (h : X.K = K) : IxR X (rIxL K) := by subst h; exact ix_list
theorem pe_fldK {e : Expr} {ta : TE} {f : Str} {pos : Pos} (h : X.K = K) (he : PE X e ta) (hb : attributeBase e f X.env (eval e X.env) = eval e X.env) : PE X (.Attribute e f pos) (tFld K ta f) := by subst h; exact pe_fld he hb
theorem call_isi1K (h : X.K = K) : CallR X (.builtin "isinstance") (rIsi1 K) := by subst h; exact call_isi1
theorem pg_tupK {es : List Expr} {k : Nat} {t : TGs} {n : Nat} {pos : Pos} (h : X.K = K) (hc : X.calm = true) (hp : PGs X es t) (hn : (assignEach es X.env).length = n := by rfl) (hst : (assignEach es X.env).findIdx? (·.1) = none := by rfl) : PG X (.Tuple es k pos) (gTup K n t) := by
  subst h; exact pg_tup hc hp hn hst
theorem call_lenR : CallR X (.builtin "len") (fun xs H Q => ∃ a kvs, xs = [V.ref a] ∧ Rd H a (.dK kvs) ∧ Q (.int kvs.length) H) := by
  intro pins s σ H xs us Q I r h
  obtain ⟨a, kvs, rfl, e, q⟩ := h
  obtain ⟨u, rfl, rx⟩ := vals1 r
  obtain rfl : u = Value.ref a := rx
  exact d_len I e fun t s' I' => ⟨.int _, H, I', ⟨_, rfl⟩, q⟩
end
/-! ### an object that its __init__ fills -/
theorem Nx.made {M : List Addr} {C1 H1 C' H' : Hp} {x dx Cl : Addr} {o : HO} (s : Same C1 H1) (hx : H1 x = none) (hd : H1 dx = none) (n : Nx [x] C1 (upd (upd H1 dx (.own x)) x (.ins Cl dx [])) C' H') (hH : H' x = some o) : Nx M C1 H1 (upd C' x o) H' := by
  have n0 : Nx [x] C1 H1 C1 (upd (upd H1 dx (.own x)) x (.ins Cl dx [])) := ((Nx.rfl s).tmp hd).mut (same_none s hx) hx
  have n1 := (n0.trans n).keep hH hx
  exact ⟨n1.cc, n1.ch, n1.dm, fun b u _ e => n1.hh b u (fun z => by cases List.mem_singleton.mp z; rw [hx] at e; cases e) e, n1.fr⟩
/-! ### names -/
def letters : List Nat := ("abcdefghijklmnopqrstuvwxyz" : Str).cps.toList
def digits : List Nat := ("0123456789" : Str).cps.toList
structure NameOk (x : Str) : Prop where
  len : x.length ≤ 8
  fst : ∃ c r, x.cps.toList = c :: r ∧ c ∈ letters
  all : ∀ c ∈ x.cps.toList, c ∈ letters ∨ c ∈ digits
/-! ### spans -/
def spanF (lo hi : Int) : List (Str × V) := [("own_low", .int lo), ("own_high", .int hi)]
def SpanAt (C : Hp) (a : Addr) (lo hi : Int) : Prop := ∃ dx, C a = some (.ins 635 dx (spanF lo hi))
theorem SpanAt.le {C C' : Hp} {a : Addr} {lo hi : Int} (l : Le C C') (h : SpanAt C a lo hi) : SpanAt C' a lo hi := by
  obtain ⟨dx, h⟩ := h
  exact ⟨dx, l.ex _ _ h rfl⟩
end AbW

/-! ## W1 -/
set_option Elab.async false
set_option linter.all false
set_option maxRecDepth 100000
set_option maxHeartbeats 4000000
/-! W1: basics, spans -/
namespace AbW
open PySem PySem.Spec PyProof.Rows L2 AbH AbR
section
variable {P : Program} {w : World} {K : PySem.W.Frag} {mg : Str → Option Value} {base : Heap}
def sp_is_integer (K : PySem.W.Frag) : Sp := fun vs H Q _ => ∃ n : Int, vs = [.int n] ∧ Q (.bl true) H
theorem c_is_integer (T : Txt K mg) : C8.Cal P w K mg base 1 "is_integer" (sp_is_integer K) [] := by
  refine mkCal (N := ["value"]) (ps := ["value"]) T.d_is_integer T.g_is_integer (fun _ _ _ _ _ _ us hl => match us, hl with | [_], _ => rfl) (by decide +kernel) (fun vs H Q E h => ?_) (fun cdv A outer s H vs Q E hr h => ?_)
  · obtain ⟨n, rfl, q⟩ := h; rfl
  · obtain ⟨n, rfl, q⟩ := h
    refine ⟨_, (pss_one (ps_ret (pe_and (pe_callB call_isi1 (by rfl) T.f_isinstance b_isinstance (pa_cons (pv 0) (pa_cons (pe_bltn (v := .ty "int") (by rfl) T.f_int b_int rfl) pa_nil))) (pe_one (pe_not (pe_callB call_isi1 (by rfl) T.f_isinstance b_isinstance (pa_cons (pv 0) (pa_cons (pe_bltn (v := .ty "bool") (by rfl) T.f_bool b_bool rfl) pa_nil)))))))), ?_⟩
    exact ⟨_, rfl, _, _, _, _, rfl, .base (.int n), k_int_int, _, rfl, iteT ⟨_, rfl, _, _, _, _, rfl, .base (.int n), k_int_bool, _, rfl, q⟩⟩
def sp_is_count (K : PySem.W.Frag) : Sp := fun vs H Q _ => ∃ n : Int, vs = [.int n] ∧ 0 ≤ n ∧ Q (.bl true) H
theorem c_is_count (T : Txt K mg) : C8.Cal P w K mg base 2 "is_count" (sp_is_count K) [] := by
  refine mkCal (N := ["value"]) (ps := ["value"]) T.d_is_count T.g_is_count (fun _ _ _ _ _ _ us hl => match us, hl with | [_], _ => rfl) (by decide +kernel) (fun vs H Q E h => ?_) (fun cdv A outer s H vs Q E hr h => ?_)
  · obtain ⟨n, rfl, hn, q⟩ := h; rfl
  · obtain ⟨n, rfl, hn, q⟩ := h
    refine ⟨_, (pss_one (ps_ret (pe_and (C8.pe_c (c_is_integer T) hr (by decide) (by rfl) (pa_cons (pv 0) pa_nil)) (pe_one (pe_cmpR op_ge (pv 0) pe_int (nomark _)))))), ?_⟩
    exact ⟨_, rfl, n, rfl, _, rfl, iteT ⟨_, rfl, _, _, rfl, rfl, blP hn q⟩⟩
def sp_is_list (K : PySem.W.Frag) : Sp := Pure fun vs C v => ∃ a xs, vs = [.ref a] ∧ C a = some (.lst xs) ∧ v = .bl true
theorem c_is_list (T : Txt K mg) : C8.Cal P w K mg base 1 "is_list" (sp_is_list K) [] := by
  refine mkCal (N := ["value"]) (ps := ["value"]) T.d_is_list T.g_is_list (fun _ _ _ _ _ _ us hl => match us, hl with | [_], _ => rfl) (by decide +kernel) (fun vs H Q E h => ?_) (fun cdv A outer s H vs Q E hr h => ?_)
  · obtain ⟨C, v, sc, ⟨a, xs, rfl, hC, rfl⟩, q⟩ := h; rfl
  · obtain ⟨C, v, sc, ⟨a, xs, rfl, hC, rfl⟩, q⟩ := h
    refine ⟨_, (pss_one (ps_ret (pe_callB call_isiT (by rfl) T.f_isinstance b_isinstance (pa_cons (pv 0) (pa_cons (pe_tup (pa_cons (pe_bltn (v := .ty "list") (by rfl) T.f_list b_list rfl) (pa_cons (pe_bltn (v := .ty "tuple") (by rfl) T.f_tuple b_tuple rfl) pa_nil))) pa_nil))))), ?_⟩
    refine ⟨_, rfl, by decide, fun p hp => ⟨_, _, _, _, _, _, rfl, upd_same, .cons (.ty _) (.cons (.ty _) .nil), .base (.lst (xs := xs) ?_), ?_, q _ _ ((Nx.rfl sc).tmp hp)⟩⟩
    · exact ((Nx.rfl (M := []) sc).tmp hp).ch _ _ hC
    · exact kitAny_cons (b := true) (kit_ty k_list_list) (fun z => by cases z) fun _ => rfl
def sp_want_level (K : PySem.W.Frag) : Sp := fun vs H Q _ => ∃ n : Int, vs = [.int n] ∧ Q .non H
theorem c_want_level (T : Txt K mg) : C8.Cal P w K mg base 2 "want_level" (sp_want_level K) [] := by
  refine mkCal (N := ["value"]) (ps := ["value"]) T.d_want_level T.g_want_level (fun _ _ _ _ _ _ us hl => match us, hl with | [_], _ => rfl) (by decide +kernel) (fun vs H Q E h => ?_) (fun cdv A outer s H vs Q E hr h => ?_)
  · obtain ⟨n, rfl, q⟩ := h; rfl
  · obtain ⟨n, rfl, q⟩ := h
    refine ⟨_, (pss_one (ps_if (pt_not (pt_val (C8.pe_c (c_is_integer T) hr (by decide) (by rfl) (pa_cons (pv 0) pa_nil)))) pss_never pss_nil)), ?_⟩
    exact ⟨_, rfl, n, rfl, _, rfl, iteF q⟩
def sp_is_name (K : PySem.W.Frag) : Sp := Pure fun vs _ v => ∃ x : Str, vs = [.str x] ∧ NameOk x ∧ v = .bl true
theorem len_cps (x : Str) : x.length = x.cps.toList.length := rfl
theorem size8 {n : Nat} (h : n ≤ 8) : n ≤ sizeLine := Nat.le_trans h (by rw [sizeLine_eq]; decide)
theorem c_is_name (T : Txt K mg) : C8.Cal P w K mg base 1 "is_name" (sp_is_name K) [] := by
  refine mkCal (N := ["value", "sign"]) (ps := ["value"]) T.d_is_name T.g_is_name (fun _ _ _ _ _ _ us hl => match us, hl with | [_], _ => rfl) (by decide +kernel) (fun vs H Q E h => ?_) (fun cdv A outer s H vs Q E hr h => ?_)
  · obtain ⟨C, v, sc, ⟨x, rfl, hx, rfl⟩, q⟩ := h; rfl
  · obtain ⟨C, v, sc, ⟨x, rfl, hx, rfl⟩, q⟩ := h
    have nd : (["value", "sign"] : List Str).Nodup := by decide +kernel
    refine ⟨_, (pss_cons (ps_if (PW.pt (pw_or (pt_not (pt_val (pe_callB call_isi1 (by rfl) T.f_isinstance b_isinstance (pa_cons (pv 0) (pa_cons (pe_bltn (v := .ty "str") (by rfl) T.f_str b_str rfl) pa_nil))))) (pw_or1 (pt_not (pt_chain op_le op_le pe_int (pe_callB call_len_str (by rfl) T.f_len b_len (pa_cons (pv 0) pa_nil)) (C8.pe_gc (by rfl) (gInt T.i_MOST_SIGNS))))))) (pss_one (ps_ret pe_bl)) pss_nil)
      (pss_one (ps_ret (pe_and (pe_cmpR op_in_sign (pe_ix ix_str (pv 0) pe_int (fun _ _ => rfl)) (C8.pe_gc (by rfl) (gStr T.s_LETTERS)) (by rfl)) (pe_one (pe_callB (cr_all rfl) (by rfl) T.f_all b_all (pa_cons (pe_lc (own := [("sign", 1)]) (by rfl) nd (pi_str (pv 0)) (blkOk_by (own := [("sign", 1)]) (N := ["value", "sign"]) (sc := C8.fnScope s_is_name) (by decide +kernel)) (fun _ _ _ _ _ => (pg_name (i := 1) nd rfl (Or.inl rfl))) (fun _ _ _ _ _ => pts_nil) (fun _ _ _ _ _ => (pe_or (pe_cmpR op_in_sign (pv 1) (C8.pe_gc (by rfl) (gStr T.s_LETTERS)) (by rfl)) (pe_one (pe_cmpR op_in_sign (pv 1) (C8.pe_gc (by rfl) (gStr T.s_DIGITS)) (by rfl)))))) pa_nil))))))), ?_⟩
    obtain ⟨c, r, e, hc⟩ := hx.fst
    have hl : 1 ≤ x.length := by rw [len_cps, e]; simp
    have h8 := hx.len
    refine ⟨_, rfl, _, _, _, _, rfl, .base (.str x), k_str_str, _, rfl, iteF ⟨_, rfl, _, rfl, size8 h8, _, _, rfl, rfl, _, rfl, iteP (by omega) ⟨_, _, rfl, rfl, _, rfl, ?_⟩⟩⟩
    have e8 : decide ((x.length : Int) ≤ 8) = true := decide_eq_true (by omega)
    rw [e8]
    refine iteF ⟨_, rfl, _, _, c, rfl, rfl, size8 h8, ?_, c, _, rfl, rfl, _, rfl, iteP hc ?_⟩
    · rw [e]; simp [atI, ixN]
    refine ⟨_, rfl, _, rfl, lcTrue (M := []) walk_str sc (fun _ h => nomatch h) (size8 h8) (fun _ _ _ => trivial) (fun i v C1 H1 H' Z hi nx y k => ?_) (fun p bs C1 H1 nx hp ha => ?_)⟩
    · obtain ⟨rfl, d, hd, rfl⟩ := y
      have hm : d ∈ x.cps.toList := by
        rw [Array.mem_toList_iff]
        exact Array.mem_of_getElem? hd
      refine ⟨rfl, ⟨_, rfl, d, _, rfl, rfl, _, rfl, ?_⟩⟩
      by_cases h : d ∈ letters
      · exact iteP h (k C1 H' (Nx.rfl nx.ch))
      · exact iteQ h ⟨_, rfl, d, _, rfl, rfl, blP ((hx.all d hm).resolve_left h) (k C1 H' (Nx.rfl nx.ch))⟩
    · exact ⟨p, bs, rfl, .of hp, by rw [ha]; exact q _ _ nx⟩
def sp_Span (K : PySem.W.Frag) : Sp := fun vs H Q _ => ∃ x dx lo hi, vs = [.ref x, .int lo, .int hi] ∧ H x = some (.ins 635 dx []) ∧ lo ≤ hi ∧ Q .non (upd H x (.ins 635 dx (spanF lo hi)))
theorem m_Span (T : Txt K mg) : C8.Mak P w K mg base 3 "Span" 635 (sp_Span K) [] := by
  refine mkMak (N := ["self", "low", "high"]) (ps := ["self", "low", "high"]) T.d_Span_init T.mk_Span T.g_Span (fun _ _ _ _ _ _ us hl => match us, hl with | [_, _, _], _ => rfl) (by decide +kernel) (fun vs H Q E h => ?_) (fun cdv A outer s H vs Q E hr h => ?_)
  · obtain ⟨x, dx, lo, hi, rfl, hx, hl, q⟩ := h; rfl
  · obtain ⟨x, dx, lo, hi, rfl, hx, hl, q⟩ := h
    refine ⟨_, (pss_cons (ps_expr (C8.pe_c (c_want_level T) hr (by decide) (by rfl) (pa_cons (pv 1) pa_nil)))
      (pss_cons (ps_expr (C8.pe_c (c_want_level T) hr (by decide) (by rfl) (pa_cons (pv 2) pa_nil)))
      (pss_cons (ps_if (pt_cmpR op_gt (pv 1) (pv 2) (nomark _)) pss_never pss_nil)
      (pss_cons (ps_fld (pv 0) (pv 1) rfl)
      (pss_one (ps_fld (pv 0) (pv 2) rfl)))))), ?_⟩
    refine ⟨_, rfl, lo, rfl, _, rfl, hi, rfl, _, rfl, _, rfl, _, _, rfl, rfl, _, rfl, iteQ (by omega) ?_⟩
    refine ⟨_, rfl, _, rfl, x, _, dx, _, rfl, hx, T.cls_Span, T.no_Span_own_low, (show (0 : Nat) < 1000 by decide), ?_⟩
    refine ⟨_, rfl, _, rfl, x, _, dx, _, rfl, upd_same, T.cls_Span, T.no_Span_own_high, (show (1 : Nat) < 1000 by decide), ?_⟩
    rw [upd_upd]
    exact q
def sp_Span_low (K : PySem.W.Frag) : Sp := fun vs H Q _ => ∃ a lo hi, vs = [.ref a] ∧ SpanAt H a lo hi ∧ Q (.int lo) H
theorem p_Span_low (T : Txt K mg) : Pro P w K mg base 1 635 "low" (sp_Span_low K) := by
  refine mkPro (N := ["self"]) (ps := ["self"]) T.d_Span_low T.cls_Span T.pr_Span_low (fun _ _ _ _ _ _ us hl => match us, hl with | [_], _ => rfl) (by decide +kernel) (fun vs H Q E h => ?_) (fun cdv A outer s H vs Q E hr h => ?_)
  · obtain ⟨a, lo, hi, rfl, ⟨dx, ha⟩, q⟩ := h; rfl
  · obtain ⟨a, lo, hi, rfl, ⟨dx, ha⟩, q⟩ := h
    refine ⟨_, (pss_one (ps_ret (pe_fld (pv 0) rfl))), ?_⟩
    exact ⟨_, rfl, a, _, dx, _, _, rfl, ha, T.cls_Span, T.no_Span_own_low, rfl, q⟩
def sp_Span_high (K : PySem.W.Frag) : Sp := fun vs H Q _ => ∃ a lo hi, vs = [.ref a] ∧ SpanAt H a lo hi ∧ Q (.int hi) H
theorem p_Span_high (T : Txt K mg) : Pro P w K mg base 1 635 "high" (sp_Span_high K) := by
  refine mkPro (N := ["self"]) (ps := ["self"]) T.d_Span_high T.cls_Span T.pr_Span_high (fun _ _ _ _ _ _ us hl => match us, hl with | [_], _ => rfl) (by decide +kernel) (fun vs H Q E h => ?_) (fun cdv A outer s H vs Q E hr h => ?_)
  · obtain ⟨a, lo, hi, rfl, ⟨dx, ha⟩, q⟩ := h; rfl
  · obtain ⟨a, lo, hi, rfl, ⟨dx, ha⟩, q⟩ := h
    refine ⟨_, (pss_one (ps_ret (pe_fld (pv 0) rfl))), ?_⟩
    exact ⟨_, rfl, a, _, dx, _, _, rfl, ha, T.cls_Span, T.no_Span_own_high, rfl, q⟩
def sp_Span_contains (K : PySem.W.Frag) : Sp := fun vs H Q _ => ∃ a lo hi n, vs = [.ref a, .int n] ∧ SpanAt H a lo hi ∧ Q (.bl (decide (lo ≤ n ∧ n ≤ hi))) H
theorem q_Span_contains (T : Txt K mg) : C8.Met P w K mg base 2 635 "__contains__" (sp_Span_contains K) [] := by
  refine mkMet (N := ["self", "value"]) (ps := ["self", "value"]) T.d_Span_contains T.cls_Span T.me_Span_contains (fun _ _ _ _ _ _ us hl => match us, hl with | [_, _], _ => rfl) (by decide +kernel) (fun vs H Q E h => ?_) (fun cdv A outer s H vs Q E hr h => ?_)
  · obtain ⟨a, lo, hi, n, rfl, ⟨dx, ha⟩, q⟩ := h; rfl
  · obtain ⟨a, lo, hi, n, rfl, ⟨dx, ha⟩, q⟩ := h
    refine ⟨_, (pss_one (ps_ret (pe_and (C8.pe_c (c_is_integer T) hr (by decide) (by rfl) (pa_cons (pv 1) pa_nil)) (pe_one (pe_chain op_le op_le (pe_fld (pv 0) rfl) (pv 1) (pe_fld (pv 0) rfl)))))), ?_⟩
    refine ⟨_, rfl, n, rfl, _, rfl, iteT ⟨_, rfl, a, _, dx, _, _, rfl, ha, T.cls_Span, T.no_Span_own_low, rfl, _, rfl, _, _, rfl, rfl, _, rfl, ?_⟩⟩
    by_cases h : lo ≤ n
    · refine iteP h ⟨_, rfl, a, _, dx, _, _, rfl, ha, T.cls_Span, T.no_Span_own_high, rfl, _, _, rfl, rfl, ?_⟩
      rw [show decide (lo ≤ n ∧ n ≤ hi) = decide (n ≤ hi) from by simp [h]] at q
      exact q
    · refine iteQ h ?_
      rw [show decide (lo ≤ n ∧ n ≤ hi) = false from by simp [h]] at q
      exact q
theorem Nx.span {M : List Addr} {C0 H0 C H : Hp} {x dx : Addr} {lo hi : Int} (n : Nx M C0 H0 C H) (hx : H x = none) (hd : H dx = none) (hn : dx ≠ x) :
    Nx M C0 H0 (upd C x (.ins 635 dx (spanF lo hi))) (upd (upd (upd H dx (.own x)) x (.ins 635 dx [])) x (.ins 635 dx (spanF lo hi))) := by
  rw [upd_upd]
  exact (n.tmp hd).new (by rw [upd_ne (Ne.symm hn)]; exact hx)
def sp_want_span (K : PySem.W.Frag) : Sp := fun vs H Q _ => ∃ a lo hi, vs = [.ref a] ∧ SpanAt H a lo hi ∧ Q .non H
theorem c_want_span (T : Txt K mg) : C8.Cal P w K mg base 1 "want_span" (sp_want_span K) [] := by
  refine mkCal (N := ["value"]) (ps := ["value"]) T.d_want_span T.g_want_span (fun _ _ _ _ _ _ us hl => match us, hl with | [_], _ => rfl) (by decide +kernel) (fun vs H Q E h => ?_) (fun cdv A outer s H vs Q E hr h => ?_)
  · obtain ⟨a, lo, hi, rfl, ⟨dx, ha⟩, q⟩ := h; rfl
  · obtain ⟨a, lo, hi, rfl, ⟨dx, ha⟩, q⟩ := h
    refine ⟨_, (pss_one (ps_if (pt_not (pt_val (pe_callB (C8.call_isC T.ins_Span) (by rfl) T.f_isinstance b_isinstance (pa_cons (pv 0) (pa_cons (C8.pe_gc (by rfl) (gRef T.g_Span)) pa_nil))))) pss_never pss_nil)), ?_⟩
    exact ⟨_, rfl, a, dx, _, rfl, ha, _, rfl, iteF q⟩
end
end AbW

/-! ## Wn -/
set_option Elab.async false
set_option linter.all false
set_option maxRecDepth 100000
set_option maxHeartbeats 4000000
/-! Wn: nets and spots, in a clean heap -/
namespace AbW
open PySem PySem.Spec PyProof.Rows L2 AbH AbR
/-! ### nets -/
structure NetD where
  hs : List (Str × Int)
  es : List (Str × Str)
def NetD.lvO (m : NetD) (x : Str) : Option Int := (m.hs.find? fun p => decide (p.1 = x)).map (·.2)
def NetD.lev (m : NetD) (x : Str) : Int := (m.lvO x).getD 0
def NetD.ks (m : NetD) : List Str := m.hs.map (·.1)
structure NetD.Ok (m : NetD) : Prop where
  ne : m.hs ≠ []
  nd : m.ks.Nodup
  few : m.hs.length ≤ 5
  nm : ∀ x ∈ m.ks, NameOk x
  lo : ∀ x, 0 ≤ m.lev x ∧ m.lev x ≤ 5
  end_ : m.es.Nodup
  efew : m.es.length ≤ 10
  ein : ∀ e ∈ m.es, e.1 ∈ m.ks ∧ e.2 ∈ m.ks
  eor : ∀ e ∈ m.es, ltSI (m.lev e.1) e.1 (m.lev e.2) e.2 = true
theorem find_mem {α : Type} {κ : Type} [DecidableEq κ] {k : κ} {v : α} : ∀ {l : List (κ × α)}, (l.map (·.1)).Nodup → (k, v) ∈ l → (l.find? fun p => decide (p.1 = k)).map (·.2) = some v
  | [], _, h => nomatch h
  | p :: l, nd, h => by
    rw [List.map_cons, List.nodup_cons] at nd
    rcases List.mem_cons.mp h with e | h
    · subst e; simp [List.find?_cons]
    · have : p.1 ≠ k := fun e => nd.1 (by rw [e]; exact List.mem_map.mpr ⟨_, h, rfl⟩)
      rw [List.find?_cons, show decide (p.1 = k) = false from decide_eq_false this]
      exact find_mem nd.2 h
theorem mem_find {α : Type} {κ : Type} [DecidableEq κ] {k : κ} {v : α} {l : List (κ × α)} (h : (l.find? fun p => decide (p.1 = k)).map (·.2) = some v) : (k, v) ∈ l := by
  obtain ⟨p, hp, e⟩ := Option.map_eq_some_iff.mp h
  have h1 := List.find?_some hp
  have h2 := List.mem_of_find?_eq_some hp
  obtain ⟨a, b⟩ := p
  have : a = k := of_decide_eq_true h1
  subst this; cases e; exact h2
theorem find_iff {α : Type} {κ : Type} [DecidableEq κ] {k : κ} {v : α} {l : List (κ × α)} (nd : (l.map (·.1)).Nodup) : (l.find? fun p => decide (p.1 = k)).map (·.2) = some v ↔ (k, v) ∈ l := ⟨mem_find, find_mem nd⟩
theorem NetD.lv_of {m : NetD} (ok : m.Ok) {x : Str} (h : x ∈ m.ks) : m.lvO x = some (m.lev x) := by
  obtain ⟨p, hp, e⟩ := List.mem_map.mp h
  have := find_mem (k := p.1) (v := p.2) ok.nd hp
  unfold NetD.lev NetD.lvO
  subst e
  rw [this]; rfl
def hsK (hs : List (Str × Int)) : List (Key × V) := hs.map fun p => (Sum.inr p.1, V.int p.2)
theorem valV_hsK (x : Str) : ∀ hs : List (Str × Int), valV (hsK hs) (.inr x) = ((hs.find? fun p => decide (p.1 = x)).map (·.2)).map V.int
  | [] => rfl
  | p :: r => by
    by_cases h : p.1 = x
    · rw [hsK, List.map_cons, valV_pos (by rw [h]), List.find?_cons, decide_eq_true h]; rfl
    · rw [hsK, List.map_cons, valV_neg (fun e => h (Sum.inr.inj e)), List.find?_cons, decide_eq_false h]; exact valV_hsK x r
theorem perm_find {α κ : Type} [DecidableEq κ] {l l' : List (κ × α)} (p : l'.Perm l) (nd : (l.map (·.1)).Nodup) (k : κ) : (l'.find? fun p => decide (p.1 = k)).map (·.2) = (l.find? fun p => decide (p.1 = k)).map (·.2) := by
  have nd' : (l'.map (·.1)).Nodup := (p.map (·.1)).nodup_iff.mpr nd
  refine Option.ext fun v => ?_
  rw [find_iff nd', find_iff nd, p.mem_iff]
theorem NetD.mem_hs {m : NetD} (ok : m.Ok) {x : Str} {i : Int} : (x, i) ∈ m.hs ↔ x ∈ m.ks ∧ m.lev x = i := by
  rw [← find_iff ok.nd]
  constructor
  · intro h
    have h' : m.lvO x = some i := h
    exact ⟨List.mem_map.mpr ⟨_, mem_find h, rfl⟩, by unfold NetD.lev; rw [h']; rfl⟩
  · rintro ⟨h, rfl⟩
    exact m.lv_of ok h
theorem hsK_vals (hs : List (Str × Int)) : (hsK hs).map (·.2) = (hs.map (·.2)).map V.int := by
  unfold hsK; rw [List.map_map, List.map_map]; rfl
/-! ### spots -/
inductive Spot where
  | nd (x : Str)
  | inn (l u : Str) (h : Int)
  deriving DecidableEq
def NetD.lv (m : NetD) : Spot → Int
  | .nd x => m.lev x
  | .inn _ _ h => h
def NetD.has (m : NetD) : Spot → Prop
  | .nd x => x ∈ m.ks
  | .inn l u h => (l, u) ∈ m.es ∧ m.lev l < h ∧ h < m.lev u
/-! ### in the heap -/
def SpotV (C : Hp) (v : V) : Spot → Prop
  | .nd x => v = .str x
  | .inn l u h => ∃ a, v = .ref a ∧ C a = some (.tup [.str l, .str u, .int h])
theorem SpotV.le {C C' : Hp} (e : Le C C') {v : V} : ∀ {s : Spot}, SpotV C v s → SpotV C' v s
  | .nd _, h => h
  | .inn _ _ _, ⟨a, ev, h⟩ => ⟨a, ev, e.ex _ _ h rfl⟩
def LevD (C : Hp) (l : Addr) (m : NetD) : Prop := ∃ hs, hs.Perm m.hs ∧ Rd C l (.dK (hsK hs))
/-- a list of pairs of texts at a -/
def EdgL (C : Hp) (a : Addr) (es : List (Str × Str)) : Prop := ∃ L : List PT, (L.map (·.2)).Perm es ∧ C a = some (.lst (L.map fun p => V.ref p.1)) ∧ ∀ p ∈ L, C p.1 = some (.tup [.str p.2.1, .str p.2.2])
def NearD (C : Hp) (n : Addr) (m : NetD) : Prop := ∃ nr, Rd C n (.dK nr) ∧ ∀ x ∈ m.ks, ∃ b, ∃ ys : List Str, valV nr (.inr x) = some (.ref b) ∧ C b = some (.lst (ys.map V.str)) ∧ ys.length ≤ 20 ∧ ∀ y, y ∈ ys ↔ ((x, y) ∈ m.es ∨ (y, x) ∈ m.es)
def netF (l e n : Addr) : List (Str × V) := [("own_levels", .ref l), ("own_edges", .ref e), ("own_near", .ref n)]
structure NetAt (C : Hp) (a : Addr) (m : NetD) : Prop where
  ok : m.Ok
  ex : ∃ dx l e n, C a = some (.ins 837 dx (netF l e n)) ∧ LevD C l m ∧ EdgL C e m.es ∧ NearD C n m
section
variable {C C' : Hp} {a : Addr} {m : NetD}
theorem LevD.le (e : Le C C') (h : LevD C a m) : LevD C' a m := let ⟨hs, p, r⟩ := h; ⟨hs, p, e.rd _ _ r⟩
theorem EdgL.le {es : List (Str × Str)} (e : Le C C') (h : EdgL C a es) : EdgL C' a es := let ⟨L, p, r, t⟩ := h; ⟨L, p, e.ex _ _ r rfl, fun q hq => e.ex _ _ (t q hq) rfl⟩
theorem NearD.le (e : Le C C') (h : NearD C a m) : NearD C' a m := let ⟨nr, r, t⟩ := h; ⟨nr, e.rd _ _ r, fun x hx => let ⟨b, ys, h1, h2, h3⟩ := t x hx; ⟨b, ys, h1, e.ex _ _ h2 rfl, h3⟩⟩
theorem NetAt.le (e : Le C C') (h : NetAt C a m) : NetAt C' a m := let ⟨dx, l, d, n, h1, h2, h3, h4⟩ := h.ex; ⟨h.ok, dx, l, d, n, e.ex _ _ h1 rfl, h2.le e, h3.le e, h4.le e⟩
theorem LevD.get (h : LevD C a m) (ok : m.Ok) (x : Str) : ∃ kvs, Rd C a (.dK kvs) ∧ valV kvs (.inr x) = (m.lvO x).map V.int := by
  obtain ⟨hs, p, r⟩ := h
  exact ⟨_, r, by rw [valV_hsK, perm_find p ok.nd]; rfl⟩
/-- a reading of the levels at x -/
theorem LevD.dget {H : Hp} (h : LevD C a m) (s : Same C H) (ok : m.Ok) {x : Str} (hx : x ∈ m.ks) : DGet H a (.str x) (some (.int (m.lev x))) := by
  obtain ⟨kvs, r, e⟩ := h.get ok x
  rw [m.lv_of ok hx] at e
  exact .inl ⟨kvs, .inr x, Same.rd s r, rfl, e.symm⟩
theorem LevD.dgetO {H : Hp} (h : LevD C a m) (s : Same C H) (ok : m.Ok) (x : Str) : ∃ o, DGet H a (.str x) o ∧ (o.isSome = true ↔ x ∈ m.ks) := by
  obtain ⟨kvs, r, e⟩ := h.get ok x
  refine ⟨_, .inl ⟨kvs, .inr x, Same.rd s r, rfl, rfl⟩, ?_⟩
  rw [e]
  constructor
  · intro h
    cases hl : m.lvO x with
    | none => rw [hl] at h; cases h
    | some i => exact List.mem_map.mpr ⟨_, mem_find hl, rfl⟩
  · intro h
    rw [m.lv_of ok h]; rfl
end
/-! ### data -/
def dSpot : Spot → PyData
  | .nd x => .str x
  | .inn l u h => .tuple [.str l, .str u, .int h]
def dPair (e : Str × Str) : PyData := .tuple [.str e.1, .str e.2]
section
variable {K : PySem.W.Frag} {C H : Hp} {a : Addr}
theorem dp_pair {x y : Str} (h : H a = some (.tup [.str x, .str y])) : Dp K H (.ref a) (dPair (x, y)) := .tup (.of h) (.cons (.str _) (.cons (.str _) .nil))
theorem dp_spot {v : V} : ∀ {s : Spot}, SpotV H v s → Dp K H v (dSpot s)
  | .nd x, h => by cases h; exact .str x
  | .inn l u i, ⟨a, e, h⟩ => by subst e; exact .tup (.of h) (.cons (.str _) (.cons (.str _) (.cons (.int _) .nil)))
theorem dp_pairs : ∀ {L : List PT}, (∀ p ∈ L, H p.1 = some (.tup [.str p.2.1, .str p.2.2])) → DpAll K H (L.map fun p => V.ref p.1) (L.map fun p => dPair p.2)
  | [], _ => .nil
  | p :: L, h => .cons (dp_pair (h p (List.mem_cons_self ..))) (dp_pairs fun q hq => h q (List.mem_cons_of_mem _ hq))
end
theorem beq_dec {α : Type} [DecidableEq α] [BEq α] [LawfulBEq α] (a b : α) : (a == b) = decide (a = b) := by
  by_cases h : a = b
  · subst h; simp
  · rw [decide_eq_false h]; exact beq_eq_false_iff_ne.mpr h
theorem eqv_pair (x y : Str × Str) : PyData.eqv (dPair x) (dPair y) = decide (x = y) := by
  obtain ⟨a, b⟩ := x
  obtain ⟨c, d⟩ := y
  have : PyData.eqv (dPair (a, b)) (dPair (c, d)) = (decide (a = c) && decide (b = d)) := by
    simp [dPair, PyData.eqv, PyData.eqvAll, beq_dec]
  rw [this]; simp
theorem eqv_spot : ∀ x y : Spot, PyData.eqv (dSpot x) (dSpot y) = decide (x = y)
  | .nd x, .nd y => by simp [dSpot, PyData.eqv, beq_dec]
  | .nd x, .inn _ _ _ => by simp [dSpot, PyData.eqv]
  | .inn _ _ _, .nd _ => by simp [dSpot, PyData.eqv]
  | .inn a b c, .inn a' b' c' => by
    have : PyData.eqv (dSpot (.inn a b c)) (dSpot (.inn a' b' c')) = (decide (a = a') && (decide (b = b') && decide (c = c'))) := by
      simp [dSpot, PyData.eqv, PyData.eqvAll, beq_dec]
    rw [this]; simp
theorem strOk_name {x : Str} (h : NameOk x) : PyData.strOk x = true := by
  unfold PyData.strOk
  have hl : ∀ c ∈ letters, c < 0x110000 := by decide +kernel
  have hd : ∀ c ∈ digits, c < 0x110000 := by decide +kernel
  rw [← Array.all_toList, List.all_eq_true]
  intro c hc
  exact decide_eq_true ((h.all c hc).elim (hl c) (hd c))
theorem shaped_pair {x : Str × Str} (h1 : NameOk x.1) (h2 : NameOk x.2) : SeqAt.shaped (dPair x) = true := by
  simp [dPair, SeqAt.shaped, PyData.canLay0, PyData.canLayAll0, PyData.depth, PyData.depthAll, strOk_name h1, strOk_name h2]
def Spot.Nm : Spot → Prop
  | .nd x => NameOk x
  | .inn l u _ => NameOk l ∧ NameOk u
theorem shaped_spot : ∀ {x : Spot}, x.Nm → SeqAt.shaped (dSpot x) = true
  | .nd x, h => by simp [dSpot, SeqAt.shaped, PyData.canLay0, PyData.depth, strOk_name h]
  | .inn _ _ _, h => by simp [dSpot, SeqAt.shaped, PyData.canLay0, PyData.canLayAll0, PyData.depth, PyData.depthAll, strOk_name h.1, strOk_name h.2]
theorem depth_pairs : ∀ L : List (Str × Str), PyData.depthAll (L.map dPair) ≤ 1
  | [] => by simp [PyData.depthAll]
  | x :: L => by
    have := depth_pairs L
    simp [PyData.depthAll, dPair, PyData.depth]
    omega
theorem lay_pairs : ∀ {L : List (Str × Str)}, (∀ e ∈ L, NameOk e.1 ∧ NameOk e.2) → PyData.canLayAll0 (L.map dPair) = true
  | [], _ => by simp [PyData.canLayAll0]
  | x :: L, h => by
    have h1 := h x (List.mem_cons_self ..)
    simp [PyData.canLayAll0, dPair, PyData.canLay0, strOk_name h1.1, strOk_name h1.2, lay_pairs fun e he => h e (List.mem_cons_of_mem _ he)]
theorem shaped_pairs {L : List (Str × Str)} (h : ∀ e ∈ L, NameOk e.1 ∧ NameOk e.2) : SeqAt.shaped (.list (L.map dPair)) = true := by
  have := depth_pairs L
  simp [SeqAt.shaped, PyData.canLay0, PyData.depth, lay_pairs h]
  omega
theorem NetD.Ok.nms {m : NetD} (ok : m.Ok) : ∀ e ∈ m.es, NameOk e.1 ∧ NameOk e.2 := fun e he => ⟨ok.nm _ (ok.ein e he).1, ok.nm _ (ok.ein e he).2⟩
theorem NetD.has_nm {m : NetD} (ok : m.Ok) : ∀ {p : Spot}, m.has p → p.Nm
  | .nd x, h => ok.nm x h
  | .inn l u _, h => ok.nms _ h.1
end AbW

/-! ## W2 -/
set_option Elab.async false
set_option linter.all false
set_option maxRecDepth 100000
set_option maxHeartbeats 4000000
/-! W2: nets, read -/
namespace AbW
open PySem PySem.Spec PyProof.Rows L2 AbH AbR
theorem ltSI_irr (i : Int) (x : Str) : ltSI i x i x = false := by
  unfold ltSI; simp
theorem NetD.Ok.e12 {m : NetD} (ok : m.Ok) {e : Str × Str} (h : e ∈ m.es) : e.1 ≠ e.2 := fun z => by
  have := ok.eor e h
  rw [z, ltSI_irr] at this; cases this
section
variable {P : Program} {w : World} {K : PySem.W.Frag} {mg : Str → Option Value} {base : Heap}
def sp_is_pair (K : PySem.W.Frag) : Sp := Pure fun vs C v => ∃ l p m x y, vs = [.ref l, .ref p] ∧ m.Ok ∧ LevD C l m ∧ C p = some (.tup [.str x, .str y]) ∧ x ∈ m.ks ∧ y ∈ m.ks ∧ x ≠ y ∧ v = .bl true
theorem c_is_pair (T : Txt K mg) : C8.Cal P w K mg base 2 "is_pair" (sp_is_pair K) [] := by
  refine mkCal (N := ["levels", "value", "one", "other", "name"]) (ps := ["levels", "value"]) T.d_is_pair T.g_is_pair (fun _ _ _ _ _ _ us hl => match us, hl with | [_, _], _ => rfl) (by decide +kernel) (fun vs H Q E h => ?_) (fun cdv A outer s H vs Q E hr h => ?_)
  · obtain ⟨C, v, sc, ⟨l, p, m, x, y, rfl, ok, hl, hp, hx, hy, hn, rfl⟩, q⟩ := h; rfl
  · obtain ⟨C, v, sc, ⟨l, p, m, x, y, rfl, ok, hl, hp, hx, hy, hn, rfl⟩, q⟩ := h
    have nd : (["levels", "value", "one", "other", "name"] : List Str).Nodup := by decide +kernel
    have hu := units1 hr
    refine ⟨_, (pss_cons (ps_if (PW.pt (pw_or (pt_not (pt_val (pe_callB call_isi1 (by rfl) T.f_isinstance b_isinstance (pa_cons (pv 1) (pa_cons (pe_bltn (v := .ty "tuple") (by rfl) T.f_tuple b_tuple rfl) pa_nil))))) (pw_or (pt_cmpR op_ne (pe_callB call_len_seq (by rfl) T.f_len b_len (pa_cons (pv 1) pa_nil)) pe_int (nomark _)) (pw_or1 (pt_not (pt_val (pe_callB (cr_all rfl) (by rfl) T.f_all b_all (pa_cons (pe_lc (own := [("name", 4)]) (by rfl) nd (pi_tup (pv 1)) (blkOk_by (own := [("name", 4)]) (N := ["levels", "value", "one", "other", "name"]) (sc := C8.fnScope s_is_pair) (by decide +kernel)) (fun _ _ _ _ _ => (pg_name (i := 4) nd rfl (Or.inl rfl))) (fun _ _ _ _ _ => pts_nil) (fun _ _ _ _ _ => (C8.pe_c (c_is_name T) hr (by decide) (by rfl) (pa_cons (pv 4) pa_nil)))) pa_nil)))))))) (pss_one (ps_ret pe_bl)) pss_nil)
      (pss_cons (ps_asg (pv 1) (pg_tup (n := 2) (by rfl) (pgs_cons (pg_name (i := 2) nd rfl (Or.inl rfl)) (pgs_cons (pg_name (i := 3) nd rfl (Or.inl rfl)) pgs_nil))))
      (pss_one (ps_ret (pe_and (pe_cmpR op_ne (pv 2) (pv 3) (nomark _)) (pe_and (pe_cmp (pc_din hu (pv 2) (pv 0)) (by rfl)) (pe_one (pe_cmp (pc_din hu (pv 3) (pv 0)) (by rfl))))))))), ?_⟩
    have hP := sc _ _ hp
    refine ⟨_, rfl, _, _, _, _, rfl, .base (.tup hP), k_tuple_tuple, _, rfl, iteF ⟨_, rfl, p, _, rfl, .inr (.of hP), rfl, _, rfl, iteF ?_⟩⟩
    refine ⟨_, rfl, p, rfl, ⟨_, .of hP⟩, lcTrue (M := []) walk_tup sc (fun _ h => nomatch h) (Nat.le_trans (Nat.le_refl 2) sz2) (fun C1 H1 n => .of (n.ch _ _ (n.cc _ _ hp))) (fun i v C1 H1 H' Z hi nx y k => ?_) (fun d bs C1 H1 nx hd ha => ?_)⟩
    · obtain ⟨rfl, e⟩ := y
      have hv := List.mem_of_getElem? e
      simp at hv
      rcases hv with rfl | rfl
      · exact ⟨rfl, _, rfl, C1, _, nx.ch, ⟨_, rfl, ok.nm _ hx, rfl⟩, fun C2 H2 n2 => k C2 H2 n2⟩
      · exact ⟨rfl, _, rfl, C1, _, nx.ch, ⟨_, rfl, ok.nm _ hy, rfl⟩, fun C2 H2 n2 => k C2 H2 n2⟩
    · refine ⟨d, bs, rfl, .of hd, ?_⟩
      rw [ha]
      have hp1 := nx.ch _ _ (nx.cc _ _ hp)
      refine ⟨_, rfl, iteF ⟨_, rfl, p, _, rfl, .of hp1, rfl, _, _, rfl, _, _, rfl, rfl, ?_⟩⟩
      refine ⟨_, rfl, _, rfl, rfl, true, by simp [hn], iteT ?_⟩
      have hl1 := hl.le nx.le
      exact ⟨_, rfl, _, rfl, l, _, rfl, hl1.dget nx.ch ok hx, _, rfl, iteT ⟨_, rfl, _, rfl, l, _, rfl, hl1.dget nx.ch ok hy, q _ _ nx⟩⟩
def told (m : NetD) (x y : Str) : Str × Str := if ltSI (m.lev x) x (m.lev y) y = true then (x, y) else (y, x)
def sp_told_edge (K : PySem.W.Frag) : Sp := Gives fun vs C post => ∃ l m x y, vs = [.ref l, .str x, .str y] ∧ m.Ok ∧ LevD C l m ∧ x ∈ m.ks ∧ y ∈ m.ks ∧ post = fun v C' => ∃ p, v = .ref p ∧ C' p = some (.tup [.str (told m x y).1, .str (told m x y).2])
theorem c_told_edge (T : Txt K mg) : C8.Cal P w K mg base 1 "told_edge" (sp_told_edge K) [] := by
  refine mkCal (N := ["levels", "one", "other"]) (ps := ["levels", "one", "other"]) T.d_told_edge T.g_told_edge (fun _ _ _ _ _ _ us hl => match us, hl with | [_, _, _], _ => rfl) (by decide +kernel) (fun vs H Q E h => ?_) (fun cdv A outer s H vs Q E hr h => ?_)
  · obtain ⟨C, post, sc, ⟨l, m, x, y, rfl, ok, hl, hx, hy, rfl⟩, q⟩ := h; rfl
  · obtain ⟨C, post, sc, ⟨l, m, x, y, rfl, ok, hl, hx, hy, rfl⟩, q⟩ := h
    have hu := units1 hr
    refine ⟨_, (pss_one (ps_ret (pe_ifExp (pt_cmpR (op_ltSI hr.units0) (pe_tup (pa_cons (pe_dget hu (pv 0) (pv 1) (fun _ _ => rfl)) (pa_cons (pv 1) pa_nil))) (pe_tup (pa_cons (pe_dget hu (pv 0) (pv 2) (fun _ _ => rfl)) (pa_cons (pv 2) pa_nil))) (nomark _)) (pe_tup (pa_cons (pv 1) (pa_cons (pv 2) pa_nil))) (pe_tup (pa_cons (pv 2) (pa_cons (pv 1) pa_nil)))))), ?_⟩
    refine ⟨_, rfl, _, rfl, l, _, rfl, hl.dget sc ok hx, _, rfl, sz2, fun p hp => ?_⟩
    have n1 := (Nx.rfl (M := []) sc).new (o := .tup [.int (m.lev x), .str x]) hp
    refine ⟨_, rfl, _, rfl, l, _, rfl, (hl.le n1.le).dget n1.ch ok hy, _, rfl, sz2, fun p' hp' => ?_⟩
    have n2 := n1.new (o := .tup [.int (m.lev y), .str y]) hp'
    have e1 : (upd (upd H p (.tup [.int (m.lev x), .str x])) p' (.tup [.int (m.lev y), .str y])) p = some (.tup [.int (m.lev x), .str x]) := by
      rw [upd_ne (fun z => by rw [← z, upd_same] at hp'; cases hp')]; exact upd_same
    refine ⟨p, p', _, _, _, _, rfl, rfl, .of e1, .of upd_same, _, rfl, ?_⟩
    by_cases h : ltSI (m.lev x) x (m.lev y) y = true
    · refine iteB h ?_
      refine ⟨_, rfl, _, rfl, sz2, fun r hr => q _ _ _ (n2.new hr) ⟨r, rfl, ?_⟩⟩
      unfold told; rw [if_pos h]; exact upd_same
    · refine iteC (by simpa using h) ?_
      refine ⟨_, rfl, _, rfl, sz2, fun r hr => q _ _ _ (n2.new hr) ⟨r, rfl, ?_⟩⟩
      unfold told; rw [if_neg h]; exact upd_same
def sp_Net_nodes (K : PySem.W.Frag) : Sp := Gives fun vs C post => ∃ a m, vs = [.ref a] ∧ NetAt C a m ∧ post = fun v C' => ∃ d hs, v = .ref d ∧ hs.Perm m.hs ∧ C' d = some (.dK (hsK hs))
theorem q_Net_nodes (T : Txt K mg) : C8.Met P w K mg base 1 837 "nodes" (sp_Net_nodes K) [] := by
  refine mkMet (N := ["self"]) (ps := ["self"]) T.d_Net_nodes T.cls_Net T.me_Net_nodes (fun _ _ _ _ _ _ us hl => match us, hl with | [_], _ => rfl) (by decide +kernel) (fun vs H Q E h => ?_) (fun cdv A outer s H vs Q E hr h => ?_)
  · obtain ⟨C, post, sc, ⟨a, m, rfl, hN, rfl⟩, q⟩ := h; rfl
  · obtain ⟨C, post, sc, ⟨a, m, rfl, hN, rfl⟩, q⟩ := h
    refine ⟨_, (pss_one (ps_ret (pe_callTy call_dictD (by rfl) T.f_dict b_dict (pa_cons (pe_fld (pv 0) rfl) pa_nil)))), ?_⟩
    obtain ⟨dx, l, e, n, hA, ⟨hs, pm, hl⟩, he, hn⟩ := hN.ex
    exact ⟨_, rfl, a, _, dx, _, _, rfl, sc _ _ hA, T.cls_Net, T.no_Net_own_levels, rfl, l, _, rfl, Same.rd sc hl, fun p hp => q _ _ _ ((Nx.rfl sc).new hp) ⟨p, hs, rfl, pm, upd_same⟩⟩
def sp_Net_edges (K : PySem.W.Frag) : Sp := Gives fun vs C post => ∃ a m, vs = [.ref a] ∧ NetAt C a m ∧ post = fun v C' => ∃ d, v = .ref d ∧ EdgL C' d m.es
theorem q_Net_edges (T : Txt K mg) : C8.Met P w K mg base 1 837 "edges" (sp_Net_edges K) [] := by
  refine mkMet (N := ["self"]) (ps := ["self"]) T.d_Net_edges T.cls_Net T.me_Net_edges (fun _ _ _ _ _ _ us hl => match us, hl with | [_], _ => rfl) (by decide +kernel) (fun vs H Q E h => ?_) (fun cdv A outer s H vs Q E hr h => ?_)
  · obtain ⟨C, post, sc, ⟨a, m, rfl, hN, rfl⟩, q⟩ := h; rfl
  · obtain ⟨C, post, sc, ⟨a, m, rfl, hN, rfl⟩, q⟩ := h
    refine ⟨_, (pss_one (ps_ret (pe_callTy call_list_of (by rfl) T.f_list b_list (pa_cons (pe_fld (pv 0) rfl) pa_nil)))), ?_⟩
    obtain ⟨dx, l, e, n, hA, hl, ⟨L, pm, he, ht⟩, hn⟩ := hN.ex
    exact ⟨_, rfl, a, _, dx, _, _, rfl, sc _ _ hA, T.cls_Net, T.no_Net_own_edges, rfl, e, _, rfl, .inl (.of (sc _ _ he)), fun p hp =>
      have n1 := (Nx.rfl sc).new hp
      q _ _ _ n1 ⟨p, rfl, L, pm, upd_same, fun t h => n1.cc _ _ (ht t h)⟩⟩
def sp_Net_contains (K : PySem.W.Frag) : Sp := Pure fun vs C v => ∃ a m x, vs = [.ref a, .str x] ∧ NetAt C a m ∧ x ∈ m.ks ∧ v = .bl true
theorem q_Net_contains (T : Txt K mg) : C8.Met P w K mg base 2 837 "__contains__" (sp_Net_contains K) [] := by
  refine mkMet (N := ["self", "value"]) (ps := ["self", "value"]) T.d_Net_contains T.cls_Net T.me_Net_contains (fun _ _ _ _ _ _ us hl => match us, hl with | [_, _], _ => rfl) (by decide +kernel) (fun vs H Q E h => ?_) (fun cdv A outer s H vs Q E hr h => ?_)
  · obtain ⟨C, v, sc, ⟨a, m, x, rfl, hN, hx, rfl⟩, q⟩ := h; rfl
  · obtain ⟨C, v, sc, ⟨a, m, x, rfl, hN, hx, rfl⟩, q⟩ := h
    have hu := units1 hr
    refine ⟨_, (pss_one (ps_ret (pe_and (C8.pe_c (c_is_name T) hr (by decide) (by rfl) (pa_cons (pv 1) pa_nil)) (pe_one (pe_cmp (pc_din hu (pv 1) (pe_fld (pv 0) rfl)) (by rfl)))))), ?_⟩
    refine ⟨_, rfl, C, _, sc, ⟨x, rfl, hN.ok.nm x hx, rfl⟩, fun C1 H1 n1 => ?_⟩
    obtain ⟨dx, l, e, n, hA, hl, he, hn⟩ := (hN.le n1.le).ex
    exact ⟨_, rfl, iteT ⟨_, rfl, _, rfl, a, _, dx, _, _, rfl, n1.ch _ _ hA, T.cls_Net, T.no_Net_own_levels, rfl, l, _, rfl, hl.dget n1.ch hN.ok hx, q _ _ n1⟩⟩
def sp_Net_is_edge (K : PySem.W.Frag) : Sp := Pure fun vs C v => ∃ a m p e, vs = [.ref a, .ref p] ∧ NetAt C a m ∧ C p = some (.tup [.str e.1, .str e.2]) ∧ e ∈ m.es ∧ v = .bl true
theorem q_Net_is_edge (T : Txt K mg) : C8.Met P w K mg base 3 837 "is_edge" (sp_Net_is_edge K) [] := by
  refine mkMet (N := ["self", "value"]) (ps := ["self", "value"]) T.d_Net_is_edge T.cls_Net T.me_Net_is_edge (fun _ _ _ _ _ _ us hl => match us, hl with | [_, _], _ => rfl) (by decide +kernel) (fun vs H Q E h => ?_) (fun cdv A outer s H vs Q E hr h => ?_)
  · obtain ⟨C, v, sc, ⟨a, m, p, e, rfl, hN, hp, he, rfl⟩, q⟩ := h; rfl
  · obtain ⟨C, v, sc, ⟨a, m, p, e, rfl, hN, hp, he, rfl⟩, q⟩ := h
    refine ⟨_, (pss_one (ps_ret (pe_and (C8.pe_c (c_is_pair T) hr (by decide) (by rfl) (pa_cons (pe_fld (pv 0) rfl) (pa_cons (pv 1) pa_nil))) (pe_one (pe_cmpR (op_inD (units65 hr)) (pv 1) (pe_fld (pv 0) rfl) (by rfl)))))), ?_⟩
    obtain ⟨dx, l, d, n, hA, hl, hE, hn⟩ := hN.ex
    have ok := hN.ok
    have hx := ok.ein e he
    refine ⟨_, rfl, a, _, dx, _, _, rfl, sc _ _ hA, T.cls_Net, T.no_Net_own_levels, rfl, _, rfl, C, _, sc, ⟨l, p, m, e.1, e.2, rfl, ok, hl, hp, hx.1, hx.2, ok.e12 he, rfl⟩, fun C1 H1 n1 => ?_⟩
    obtain ⟨L, pm, hL, hT⟩ := hE.le n1.le
    refine ⟨_, rfl, iteT ⟨_, rfl, _, rfl, a, _, dx, _, _, rfl, n1.ch _ _ (n1.cc _ _ hA), T.cls_Net, T.no_Net_own_edges, rfl, dPair e, (L.map (·.2)).map dPair, dp_pair (n1.ch _ _ (n1.cc _ _ hp)), .lst (.of (n1.ch _ _ hL)) ?_, shaped_pair (ok.nms e he).1 (ok.nms e he).2, shaped_pairs fun x h => ok.nms x (pm.mem_iff.mp h), ?_⟩⟩
    · rw [List.map_map]
      exact dp_pairs fun t h => n1.ch _ _ (hT t h)
    · rw [show (((L.map (·.2)).map dPair).any fun z => PyData.eqv z (dPair e)) = true from ?_]
      · exact q _ _ n1
      · rw [List.any_eq_true]
        exact ⟨dPair e, List.mem_map.mpr ⟨e, pm.mem_iff.mpr he, rfl⟩, by rw [eqv_pair]; simp⟩
def sp_Net_is_spot (K : PySem.W.Frag) : Sp := Pure fun vs C v => ∃ a m x p, vs = [.ref a, x] ∧ NetAt C a m ∧ SpotV C x p ∧ m.has p ∧ v = .bl true
theorem q_Net_is_spot (T : Txt K mg) : C8.Met P w K mg base 4 837 "is_spot" (sp_Net_is_spot K) [] := by
  refine mkMet (N := ["self", "value"]) (ps := ["self", "value"]) T.d_Net_is_spot T.cls_Net T.me_Net_is_spot (fun _ _ _ _ _ _ us hl => match us, hl with | [_, _], _ => rfl) (by decide +kernel) (fun vs H Q E h => ?_) (fun cdv A outer s H vs Q E hr h => ?_)
  · obtain ⟨C, v, sc, ⟨a, m, x, p, rfl, hN, hx, hp, rfl⟩, q⟩ := h; rfl
  · obtain ⟨C, v, sc, ⟨a, m, x, p, rfl, hN, hx, hp, rfl⟩, q⟩ := h
    have hu := units1 hr
    refine ⟨_, (pss_cons (ps_if (pt_not (pt_val (pe_callB call_isi1 (by rfl) T.f_isinstance b_isinstance (pa_cons (pv 1) (pa_cons (pe_bltn (v := .ty "tuple") (by rfl) T.f_tuple b_tuple rfl) pa_nil))))) (pss_one (ps_ret (pe_cmpR (op_in_own (q_Net_contains T) (hr.mono (by decide))) (pv 1) (pv 0) (by rfl)))) pss_nil)
      (pss_cons (ps_if (PW.pt (pw_or (pt_cmpR op_ne (pe_callB call_len_seq (by rfl) T.f_len b_len (pa_cons (pv 1) pa_nil)) pe_int (nomark _)) (pw_or (pt_not (pt_val (C8.pe_mt (q_Net_is_edge T) hr (by decide) (pv 0) (pa_cons (pe_slice sl_tupA (pv 1) po_none (po_some pe_int)) pa_nil)))) (pw_or1 (pt_not (pt_val (C8.pe_c (c_is_integer T) hr (by decide) (by rfl) (pa_cons (pe_ix ix_tup (pv 1) pe_int (fun _ _ => rfl)) pa_nil)))))))) (pss_one (ps_ret pe_bl)) pss_nil)
      (pss_one (ps_ret (pe_chain op_lt op_lt (pe_dget hu (pe_fld (pv 0) rfl) (pe_ix ix_tup (pv 1) pe_int (fun _ _ => rfl)) (fun _ _ => rfl)) (pe_ix ix_tup (pv 1) pe_int (fun _ _ => rfl)) (pe_dget hu (pe_fld (pv 0) rfl) (pe_ix ix_tup (pv 1) pe_int (fun _ _ => rfl)) (fun _ _ => rfl))))))), ?_⟩
    obtain ⟨dx, l, d, n, hA, hl, hE, hn⟩ := hN.ex
    have ok := hN.ok
    cases p with
    | nd y =>
      cases hx
      refine ⟨_, rfl, _, _, _, _, rfl, .base (.str y), k_str_tuple, _, rfl, iteT ⟨_, rfl, _, rfl, a, dx, _, rfl, sc _ _ hA, C, _, sc, ⟨a, m, y, rfl, hN, hp, rfl⟩, fun C1 H1 n1 => ⟨_, rfl, q _ _ n1⟩⟩⟩
    | inn u v h =>
      obtain ⟨t, rfl, ht⟩ := hx
      obtain ⟨he, h1, h2⟩ := hp
      have hT := sc _ _ ht
      refine ⟨_, rfl, _, _, _, _, rfl, .base (.tup hT), k_tuple_tuple, _, rfl, iteF ?_⟩
      refine ⟨_, rfl, t, _, rfl, .inr (.of hT), rfl, _, rfl, iteF ?_⟩
      refine ⟨_, rfl, a, dx, _, rfl, sc _ _ hA, rfl, _, rfl, _, rfl, t, _, rfl, .of hT, fun z => absurd z (by simp [HT.sIx]), fun _ s hs => ?_⟩
      have n1 := (Nx.rfl (M := []) sc).new (o := .tup (cutV [V.str u, .str v, .int h] none (some 2))) hs
      refine ⟨_, _, n1.ch, ⟨a, m, s, (u, v), rfl, hN.le n1.le, upd_same, he, rfl⟩, fun C2 H2 n2 => ?_⟩
      have n2 := n1.trans n2
      have hT2 := n2.ch _ _ (n2.cc _ _ ht)
      refine ⟨_, rfl, iteF ⟨_, rfl, t, _, _, _, rfl, rfl, .of hT2, rfl, _, rfl, _, rfl, iteF ?_⟩⟩
      have hA2 := n2.ch _ _ (n2.cc _ _ hA)
      have hl2 := hl.le n2.le
      refine ⟨_, rfl, a, _, dx, _, _, rfl, hA2, T.cls_Net, T.no_Net_own_levels, rfl, _, rfl, t, _, _, _, rfl, rfl, .of hT2, rfl, l, _, rfl, hl2.dget n2.ch ok (ok.ein _ he).1, ?_⟩
      refine ⟨_, rfl, t, _, _, _, rfl, rfl, .of hT2, rfl, _, _, rfl, rfl, _, rfl, iteP h1 ?_⟩
      refine ⟨_, rfl, a, _, dx, _, _, rfl, hA2, T.cls_Net, T.no_Net_own_levels, rfl, _, rfl, t, _, _, _, rfl, rfl, .of hT2, rfl, l, _, rfl, hl2.dget n2.ch ok (ok.ein _ he).2, _, _, rfl, rfl, blP h2 (q _ _ n2)⟩
def sp_want_net (K : PySem.W.Frag) : Sp := Pure fun vs C v => ∃ a m, vs = [.ref a] ∧ NetAt C a m ∧ v = .non
theorem c_want_net (T : Txt K mg) : C8.Cal P w K mg base 1 "want_net" (sp_want_net K) [] := by
  refine mkCal (N := ["value"]) (ps := ["value"]) T.d_want_net T.g_want_net (fun _ _ _ _ _ _ us hl => match us, hl with | [_], _ => rfl) (by decide +kernel) (fun vs H Q E h => ?_) (fun cdv A outer s H vs Q E hr h => ?_)
  · obtain ⟨C, v, sc, ⟨a, m, rfl, hN, rfl⟩, q⟩ := h; rfl
  · obtain ⟨C, v, sc, ⟨a, m, rfl, hN, rfl⟩, q⟩ := h
    refine ⟨_, (pss_one (ps_if (pt_not (pt_val (pe_callB (C8.call_isC T.ins_Net) (by rfl) T.f_isinstance b_isinstance (pa_cons (pv 0) (pa_cons (C8.pe_gc (by rfl) (gRef T.g_Net)) pa_nil))))) pss_never pss_nil)), ?_⟩
    obtain ⟨dx, l, d, n, hA, hl, hE, hn⟩ := hN.ex
    exact ⟨_, rfl, a, dx, _, rfl, sc _ _ hA, _, rfl, iteF (q _ _ (Nx.rfl sc))⟩
def sp_want_spot (K : PySem.W.Frag) : Sp := Pure fun vs C v => ∃ a m x p, vs = [.ref a, x] ∧ NetAt C a m ∧ SpotV C x p ∧ m.has p ∧ v = .non
theorem c_want_spot (T : Txt K mg) : C8.Cal P w K mg base 5 "want_spot" (sp_want_spot K) [] := by
  refine mkCal (N := ["net", "spot"]) (ps := ["net", "spot"]) T.d_want_spot T.g_want_spot (fun _ _ _ _ _ _ us hl => match us, hl with | [_, _], _ => rfl) (by decide +kernel) (fun vs H Q E h => ?_) (fun cdv A outer s H vs Q E hr h => ?_)
  · obtain ⟨C, v, sc, ⟨a, m, x, p, rfl, hN, hx, hp, rfl⟩, q⟩ := h; rfl
  · obtain ⟨C, v, sc, ⟨a, m, x, p, rfl, hN, hx, hp, rfl⟩, q⟩ := h
    refine ⟨_, (pss_one (ps_if (pt_not (pt_val (C8.pe_mt (q_Net_is_spot T) hr (by decide) (pv 0) (pa_cons (pv 1) pa_nil)))) pss_never pss_nil)), ?_⟩
    obtain ⟨dx, l, d, n, hA, hl, hE, hn⟩ := hN.ex
    exact ⟨_, rfl, a, dx, _, rfl, sc _ _ hA, rfl, _, rfl, C, _, sc, ⟨a, m, x, p, rfl, hN, hx, hp, rfl⟩, fun C1 H1 n1 => ⟨_, rfl, iteF (q _ _ n1)⟩⟩
def sp_Net_level_at (K : PySem.W.Frag) : Sp := Pure fun vs C v => ∃ a m x p, vs = [.ref a, x] ∧ NetAt C a m ∧ SpotV C x p ∧ m.has p ∧ v = .int (m.lv p)
theorem q_Net_level_at (T : Txt K mg) : C8.Met P w K mg base 6 837 "level_at" (sp_Net_level_at K) [] := by
  refine mkMet (N := ["self", "spot"]) (ps := ["self", "spot"]) T.d_Net_level_at T.cls_Net T.me_Net_level_at (fun _ _ _ _ _ _ us hl => match us, hl with | [_, _], _ => rfl) (by decide +kernel) (fun vs H Q E h => ?_) (fun cdv A outer s H vs Q E hr h => ?_)
  · obtain ⟨C, v, sc, ⟨a, m, x, p, rfl, hN, hx, hp, rfl⟩, q⟩ := h; rfl
  · obtain ⟨C, v, sc, ⟨a, m, x, p, rfl, hN, hx, hp, rfl⟩, q⟩ := h
    have hu := units1 hr
    refine ⟨_, (pss_cons (ps_expr (C8.pe_c (c_want_spot T) hr (by decide) (by rfl) (pa_cons (pv 0) (pa_cons (pv 1) pa_nil))))
      (pss_one (ps_ret (pe_ifExp (pt_val (pe_callB call_isi1 (by rfl) T.f_isinstance b_isinstance (pa_cons (pv 1) (pa_cons (pe_bltn (v := .ty "str") (by rfl) T.f_str b_str rfl) pa_nil)))) (pe_dget hu (pe_fld (pv 0) rfl) (pv 1) (fun _ _ => rfl)) (pe_ix ix_tup (pv 1) pe_int (fun _ _ => rfl)))))), ?_⟩
    refine ⟨_, rfl, _, rfl, C, _, sc, ⟨a, m, x, p, rfl, hN, hx, hp, rfl⟩, fun C1 H1 n1 => ?_⟩
    obtain ⟨dx, l, d, n, hA, hl, hE, hn⟩ := (hN.le n1.le).ex
    have ok := hN.ok
    cases p with
    | nd y =>
      cases hx
      exact ⟨_, rfl, _, _, _, _, rfl, .base (.str y), k_str_str, _, rfl, iteT ⟨_, rfl, a, _, dx, _, _, rfl, n1.ch _ _ hA, T.cls_Net, T.no_Net_own_levels, rfl, _, rfl, l, _, rfl, hl.dget n1.ch ok hp, q _ _ n1⟩⟩
    | inn u v h =>
      obtain ⟨t, rfl, ht⟩ := hx
      have hT := n1.ch _ _ (n1.cc _ _ ht)
      exact ⟨_, rfl, _, _, _, _, rfl, .base (.tup hT), k_tuple_str, _, rfl, iteF ⟨_, rfl, t, _, _, _, rfl, rfl, .of hT, rfl, q _ _ n1⟩⟩
def sp_Net_neighbours (K : PySem.W.Frag) : Sp := Gives fun vs C post => ∃ a m x, vs = [.ref a, .str x] ∧ NetAt C a m ∧ x ∈ m.ks ∧ post = fun v C' => ∃ b, ∃ ys : List Str, v = .ref b ∧ C' b = some (.lst (ys.map V.str)) ∧ ys.length ≤ 20 ∧ ∀ y, y ∈ ys ↔ ((x, y) ∈ m.es ∨ (y, x) ∈ m.es)
theorem q_Net_neighbours (T : Txt K mg) : C8.Met P w K mg base 3 837 "neighbours" (sp_Net_neighbours K) [] := by
  refine mkMet (N := ["self", "name"]) (ps := ["self", "name"]) T.d_Net_neighbours T.cls_Net T.me_Net_neighbours (fun _ _ _ _ _ _ us hl => match us, hl with | [_, _], _ => rfl) (by decide +kernel) (fun vs H Q E h => ?_) (fun cdv A outer s H vs Q E hr h => ?_)
  · obtain ⟨C, post, sc, ⟨a, m, x, rfl, hN, hx, rfl⟩, q⟩ := h; rfl
  · obtain ⟨C, post, sc, ⟨a, m, x, rfl, hN, hx, rfl⟩, q⟩ := h
    have hu := units1 hr
    refine ⟨_, (pss_cons (ps_if (pt_cmpR (op_notIn_own (q_Net_contains T) (hr.mono (by decide))) (pv 1) (pv 0) (by rfl)) pss_never pss_nil)
      (pss_one (ps_ret (pe_callTy call_list_of (by rfl) T.f_list b_list (pa_cons (pe_dget hu (pe_fld (pv 0) rfl) (pv 1) (fun _ _ => rfl)) pa_nil))))), ?_⟩
    obtain ⟨dx, l, d, n, hA, hl, hE, hn⟩ := hN.ex
    have ok := hN.ok
    refine ⟨_, rfl, _, rfl, a, dx, _, rfl, sc _ _ hA, C, _, sc, ⟨a, m, x, rfl, hN, hx, rfl⟩, fun C1 H1 n1 => ⟨_, rfl, _, rfl, iteF ?_⟩⟩
    obtain ⟨nr, hnr, hy⟩ := hn.le n1.le
    obtain ⟨b, ys, e1, e2, e3, e4⟩ := hy x hx
    refine ⟨_, rfl, a, _, dx, _, _, rfl, n1.ch _ _ (n1.cc _ _ hA), T.cls_Net, T.no_Net_own_near, rfl, _, rfl, n, _, rfl, .inl ⟨nr, .inr x, Same.rd n1.ch hnr, rfl, e1.symm⟩, b, _, rfl, .inl (.of (n1.ch _ _ e2)), fun p hp => ?_⟩
    exact q _ _ _ (n1.new hp) ⟨p, ys, rfl, upd_same, e3, e4⟩
def sp_Net_span (K : PySem.W.Frag) : Sp := Gives fun vs C post => ∃ a m, vs = [.ref a] ∧ NetAt C a m ∧ post = fun v C' => ∃ p lo hi, v = .ref p ∧ SpanAt C' p lo hi ∧ (∃ x ∈ m.ks, m.lev x = lo) ∧ (∃ x ∈ m.ks, m.lev x = hi) ∧ ∀ x ∈ m.ks, lo ≤ m.lev x ∧ m.lev x ≤ hi
theorem p_Net_span (T : Txt K mg) : Pro P w K mg base 5 837 "span" (sp_Net_span K) := by
  refine mkPro (N := ["self"]) (ps := ["self"]) T.d_Net_span T.cls_Net T.pr_Net_span (fun _ _ _ _ _ _ us hl => match us, hl with | [_], _ => rfl) (by decide +kernel) (fun vs H Q E h => ?_) (fun cdv A outer s H vs Q E hr h => ?_)
  · obtain ⟨C, post, sc, ⟨a, m, rfl, hN, rfl⟩, q⟩ := h; rfl
  · obtain ⟨C, post, sc, ⟨a, m, rfl, hN, rfl⟩, q⟩ := h
    refine ⟨_, (pss_one (ps_ret (C8.pe_mk (m_Span T) hr (by decide) (by rfl) (pa_cons (pe_minValsR rfl (by rfl) T.f_min (pe_fld (pv 0) rfl)) (pa_cons (pe_maxVals rfl (by rfl) T.f_max (pe_fld (pv 0) rfl)) pa_nil))))), ?_⟩
    obtain ⟨dx, l, d, n, hA, ⟨hs, pm, hl⟩, hE, hn⟩ := hN.ex
    have ok := hN.ok
    have mem : ∀ i, i ∈ hs.map (·.2) ↔ ∃ x ∈ m.ks, m.lev x = i := fun i => by
      rw [List.mem_map]
      constructor
      · rintro ⟨⟨x, j⟩, h, rfl⟩
        exact ⟨x, (m.mem_hs ok).mp (pm.mem_iff.mp h)⟩
      · rintro ⟨x, h⟩
        exact ⟨(x, i), pm.mem_iff.mpr ((m.mem_hs ok).mpr h), rfl⟩
    have ne : hs.map (·.2) ≠ [] := fun z => ok.ne (List.length_eq_zero_iff.mp (by rw [← pm.length_eq]; simpa using z))
    have hA := sc _ _ hA
    have hl := Same.rd sc hl
    refine ⟨_, rfl, a, _, dx, _, _, rfl, hA, T.cls_Net, T.no_Net_own_levels, rfl, l, _, _, rfl, hl, hsK_vals hs, ne, fun lo h1 h2 => ?_⟩
    refine ⟨_, rfl, a, _, dx, _, _, rfl, hA, T.cls_Net, T.no_Net_own_levels, rfl, l, _, _, rfl, hl, hsK_vals hs, ne, fun hi h3 h4 => ?_⟩
    refine fun x dx hx hdx hne => ⟨x, dx, lo, hi, rfl, upd_same, h2 hi h3, rfl, ?_⟩
    refine q _ _ _ ((Nx.rfl sc).span hx hdx hne) ⟨x, lo, hi, rfl, ⟨dx, upd_same⟩, (mem lo).mp h1, (mem hi).mp h3, fun y hy => ?_⟩
    have := (mem _).mpr ⟨y, hy, rfl⟩
    exact ⟨h2 _ this, h4 _ this⟩
end
end AbW

/-! ## W3 -/
set_option Elab.async false
set_option linter.all false
set_option maxRecDepth 100000
set_option maxHeartbeats 4000000
/-! W3: nets, made -/
namespace AbW
open PySem PySem.Spec PyProof.Rows L2 AbH AbR
theorem hs_of_ks {m : NetD} (ok : m.Ok) : m.ks.map (fun x => (x, m.lev x)) = m.hs := by
  have : ∀ l : List (Str × Int), (∀ p ∈ l, p ∈ m.hs) → (l.map (·.1)).map (fun x => (x, m.lev x)) = l := by
    intro l
    induction l with
    | nil => intro _; rfl
    | cons p l ih =>
      intro h
      rw [List.map_cons, List.map_cons, ih fun q hq => h q (List.mem_cons_of_mem _ hq)]
      have := ((m.mem_hs ok).mp (show (p.1, p.2) ∈ m.hs from h p (List.mem_cons_self ..))).2
      rw [this]
  exact this m.hs fun _ h => h
theorem hsK_keys (hs : List (Str × Int)) : (hsK hs).map (·.1) = (hs.map (·.1)).map Sum.inr := by
  unfold hsK; rw [List.map_map, List.map_map]; rfl
theorem hsK_get {m : NetD} {hs : List (Str × Int)} {i : Nat} {k : Key} {v : V} (h : (hsK hs)[i]? = some (k, v)) : ∃ x n, (x, n) ∈ hs ∧ k = .inr x ∧ v = .int n := by
  unfold hsK at h
  rw [List.getElem?_map] at h
  obtain ⟨p, hp, e⟩ := Option.map_eq_some_iff.mp h
  cases e
  exact ⟨p.1, p.2, List.mem_of_getElem? hp, rfl, rfl⟩
section
variable {P : Program} {w : World} {K : PySem.W.Frag} {mg : Str → Option Value} {base : Heap}
def sp_checked_levels (K : PySem.W.Frag) : Sp := Gives fun vs C post => ∃ d, ∃ m : NetD, vs = [.ref d] ∧ m.Ok ∧ C d = some (.dK (hsK m.hs)) ∧ post = fun v C' => ∃ l hs, v = .ref l ∧ hs.Perm m.hs ∧ C' l = some (.dK (hsK hs))
theorem c_checked_levels (T : Txt K mg) : C8.Cal P w K mg base 2 "checked_levels" (sp_checked_levels K) [] := by
  refine mkCal (N := ["nodes", "name"]) (ps := ["nodes"]) T.d_checked_levels T.g_checked_levels (fun _ _ _ _ _ _ us hl => match us, hl with | [_], _ => rfl) (by decide +kernel) (fun vs H Q E h => ?_) (fun cdv A outer s H vs Q E hr h => ?_)
  · obtain ⟨C, post, sc, ⟨d, m, rfl, ok, hd, rfl⟩, q⟩ := h; rfl
  · obtain ⟨C, post, sc, ⟨d, m, rfl, ok, hd, rfl⟩, q⟩ := h
    have nd : (["nodes", "name"] : List Str).Nodup := by decide +kernel
    have hu := units1 hr
    refine ⟨_, (pss_cons (ps_if (PW.pt (pw_or (pt_not (pt_val (pe_callB call_isi1 (by rfl) T.f_isinstance b_isinstance (pa_cons (pv 0) (pa_cons (pe_bltn (v := .ty "dict") (by rfl) T.f_dict b_dict rfl) pa_nil))))) (pw_or (pt_cmpR op_eq (pe_callB call_lenR (by rfl) T.f_len b_len (pa_cons (pv 0) pa_nil)) pe_int (nomark _)) (pw_or1 (pt_not (pt_val (pe_callB (cr_all rfl) (by rfl) T.f_all b_all (pa_cons (pe_lock (pe_lc (own := [("name", 1)]) (by rfl) nd (pi_keys (pv 0)) (blkOk_by (own := [("name", 1)]) (N := ["nodes", "name"]) (sc := C8.fnScope s_checked_levels) (by decide +kernel)) (fun _ _ _ _ _ => (pg_name (i := 1) nd rfl (Or.inl rfl))) (fun _ _ _ _ _ => pts_nil) (fun _ _ _ _ _ => (C8.pe_c (c_is_name T) hr (by decide) (by rfl) (pa_cons (pv 1) pa_nil))))) pa_nil)))))))) pss_never pss_nil)
      (pss_cons (ps_for PassesOwn.never rfl (pi_list (pe_callB (call_sortedD rfl) (by rfl) T.f_sorted b_sorted (pa_cons (pv 0) pa_nil))) (pg_name (i := 1) nd rfl (Or.inl rfl)) (pss_one (ps_if (pt_not (pt_val (C8.pe_c (c_is_integer T) hr (by decide) (by rfl) (pa_cons (pe_dget hu (pv 0) (pv 1) (fun _ _ => rfl)) pa_nil)))) pss_never pss_nil)))
      (pss_one (ps_ret (pe_dc (own := [("name", 1)]) (by rfl) nd (pi_list (pe_callB (call_sortedD rfl) (by rfl) T.f_sorted b_sorted (pa_cons (pv 0) pa_nil))) (blkOk_by (own := [("name", 1)]) (N := ["nodes", "name"]) (sc := C8.fnScope s_checked_levels) (by decide +kernel)) (fun _ _ _ _ _ => (pg_name (i := 1) nd rfl (Or.inl rfl))) (fun _ _ _ _ _ => pts_nil) (fun _ _ _ _ _ => (pv 1)) (fun _ _ _ _ _ => (pe_dget hu (pv 0) (pv 1) (fun _ _ => rfl)))))))), ?_⟩
    have hD := sc _ _ hd
    have hlen : (hsK m.hs).length = m.hs.length := by unfold hsK; rw [List.length_map]
    have few := ok.few
    have pos : 0 < m.hs.length := List.length_pos_iff.mpr ok.ne
    refine ⟨_, rfl, _, _, _, _, rfl, .base (.dK hD), k_dict_dict, _, rfl, iteF ⟨_, rfl, d, _, rfl, .inl hD, rfl, false, ?_, iteF ?_⟩⟩
    · rw [hlen]
      refine congrArg V.bl (decide_eq_false fun z => ?_)
      have := V.int.inj z
      omega
    refine lockTrue sc hd (szK (by omega)) rfl (fun od i k v C' H' Z e n k => ?_) (fun p bs C1 H1 n1 hp ha => ⟨p, bs, rfl, .of hp, ?_⟩)
    · obtain ⟨x, i, h, rfl, rfl⟩ := hsK_get (m := m) e
      exact ⟨rfl, _, rfl, C', _, n.ch, ⟨x, rfl, ok.nm x (List.mem_map.mpr ⟨_, h, rfl⟩), rfl⟩, k⟩
    rw [ha]
    refine ⟨_, rfl, iteF ?_⟩
    have kslen : m.ks.length = m.hs.length := by unfold NetD.ks; rw [List.length_map]
    have hd1 := n1.ch _ _ (n1.cc _ _ hd)
    refine ⟨_, rfl, d, _, m.ks, rfl, .inl hd1, hsK_keys _, by omega, fun ys p pm _ hp => ⟨p, rfl, ⟨_, .of upd_same⟩, ?_⟩⟩
    have n2 := n1.new (o := .lst (ys.map V.str)) hp
    have ylen : ys.length = m.hs.length := by rw [pm.length_eq, kslen]
    refine for_it walk_list (fun i σ H => ∃ z C', σ = [some (.ref d), z] ∧ Nx [] C (_ : Hp) C' H ∧ C' p = some (.lst (ys.map V.str))) ⟨_, _, rfl, n2, upd_same⟩ (fun i σ H _ ⟨z, C', _, n, h⟩ => .of (n.ch _ _ h)) (fun i x σ H1 H2 hi ⟨z, C', e, n, h⟩ y => ?_) (fun σ H1 ⟨z, C', e, n, h⟩ => ?_)
    · obtain ⟨rfl, hx⟩ := y
      subst e
      rw [List.getElem?_map] at hx
      obtain ⟨x, hy, rfl⟩ := Option.map_eq_some_iff.mp hx
      have hxm := pm.mem_iff.mp (List.mem_of_getElem? hy)
      have lv : LevD C' d m := ⟨m.hs, .refl _, .inl (n.cc _ _ hd)⟩
      exact ⟨_, rfl, _, rfl, d, _, rfl, lv.dget n.ch ok hxm, m.lev x, rfl, _, rfl, iteF ⟨_, C', rfl, n, h⟩⟩
    · subst e
      have hd3 := n.ch _ _ (n.cc _ _ hd)
      refine ⟨_, rfl, d, _, m.ks, rfl, .inl hd3, hsK_keys _, by omega, fun ys p pm _ hp => ⟨p, rfl, ⟨_, .of upd_same⟩, ?_⟩⟩
      have n4 := n.new (o := .lst (ys.map V.str)) hp
      have ylen : ys.length = m.hs.length := by rw [pm.length_eq, kslen]
      have ynd : ys.Nodup := pm.nodup_iff.mpr ok.nd
      refine dcMap (M := []) (Qd := fun D H => Q (.ref D) H) walk_list (fun i => .inr (ys.getD i "")) (fun i v _ => v = .int (m.lev (ys.getD i ""))) (fun i j hi hj e => ?_) n4.ch (fun _ h => nomatch h) (szK (by rw [List.length_map]; omega)) (fun C5 H5 n5 => .of (n5.ch _ _ (n5.cc _ _ upd_same))) (fun _ _ _ _ _ h => h) (fun i x C5 H5 H6 Z hi n5 y k => ?_) (fun r acc C5 H5 n5 cr hr hH hl ha => ?_)
      · rw [List.length_map] at hi hj
        have e := Sum.inr.inj e
        rw [List.getD_eq_getElem?_getD, List.getD_eq_getElem?_getD, List.getElem?_eq_getElem hi, List.getElem?_eq_getElem hj] at e
        exact (List.getElem_inj ynd).mp e
      · obtain ⟨rfl, hx⟩ := y
        rw [List.getElem?_map] at hx
        obtain ⟨x, hy, rfl⟩ := Option.map_eq_some_iff.mp hx
        have hxm := pm.mem_iff.mp (List.mem_of_getElem? hy)
        have ex : ys.getD i "" = x := by rw [List.getD_eq_getElem?_getD, hy]; rfl
        have n6 := n4.trans n5
        have lv : LevD C5 d m := ⟨m.hs, .refl _, .inl (n6.cc _ _ hd)⟩
        refine ⟨rfl, _, rfl, _, rfl, _, rfl, d, _, rfl, lv.dget n5.ch ok hxm, ?_⟩
        have k' := k (.int (m.lev x)) C5 H6 (.rfl n5.ch) (by rw [ex])
        rw [ex] at k'
        exact k'
      · have n6 := n4.trans n5
        have e : acc = hsK (ys.map fun x => (x, m.lev x)) := by
          refine List.ext_getElem? fun i => ?_
          unfold hsK
          rw [List.map_map, List.getElem?_map]
          rw [List.length_map] at hl
          by_cases h : i < ys.length
          · have h' : i < acc.length := by omega
            obtain ⟨e1, e2⟩ := ha i _ (List.getElem?_eq_getElem h')
            rw [List.getElem?_eq_getElem h', List.getElem?_eq_getElem h]
            have ex : ys.getD i "" = ys[i] := by rw [List.getD_eq_getElem?_getD, List.getElem?_eq_getElem h]; rfl
            rw [ex] at e1 e2
            exact congrArg some (Prod.ext e1 e2)
          · rw [List.getElem?_eq_none (by omega), List.getElem?_eq_none (by omega)]; rfl
        refine q _ _ _ (n6.keep hH (n4.back hr)) ⟨r, ys.map fun x => (x, m.lev x), rfl, ?_, by rw [← e]; exact upd_same⟩
        rw [← hs_of_ks ok]
        exact pm.map _
theorem told_es {m : NetD} (ok : m.Ok) {e : Str × Str} (h : e ∈ m.es) : told m e.1 e.2 = e := by
  unfold told; rw [if_pos (ok.eor e h)]
theorem valV_kP (x : Str × Str) : ∀ l : List (Str × Str), x ∉ l → valV ((l.map fun p => (p, V.bl true)).map fun p => (kP p.1, p.2)) (kP x) = none
  | [], _ => rfl
  | y :: l, h => by
    rw [List.mem_cons, not_or] at h
    show valV ((kP y, V.bl true) :: _) _ = none
    rw [valV_neg]
    · exact valV_kP x l h.2
    · intro e
      have e1 : Sum.inr y.1 = (Sum.inr x.1 : Key) ∧ Sum.inr y.2 = (Sum.inr x.2 : Key) := by
        have e : [Sum.inr y.1, Sum.inr y.2] = ([Sum.inr x.1, Sum.inr x.2] : List Key) := e
        simp at e
        exact ⟨congrArg Sum.inr e.1, congrArg Sum.inr e.2⟩
      exact h.1 (Prod.ext (Sum.inr.inj e1.1).symm (Sum.inr.inj e1.2).symm)
def fdT (es : List (Str × Str)) : List (List Key × V) := (es.map fun p => (p, V.bl true)).map fun p => (kP p.1, p.2)
def sp_checked_edges (K : PySem.W.Frag) : Sp := Gives fun vs C post => ∃ l e, ∃ m : NetD, ∃ L : List PT, vs = [.ref l, .ref e] ∧ m.Ok ∧ LevD C l m ∧ L.map (·.2) = m.es ∧ C e = some (.lst (L.map fun p => V.ref p.1)) ∧ (∀ p ∈ L, C p.1 = some (.tup [.str p.2.1, .str p.2.2])) ∧ post = fun v C' => ∃ r, v = .ref r ∧ EdgL C' r m.es
theorem c_checked_edges (T : Txt K mg) : C8.Cal P w K mg base 3 "checked_edges" (sp_checked_edges K) [] := by
  refine mkCal (N := ["levels", "edges", "found", "position", "edge"]) (ps := ["levels", "edges"]) T.d_checked_edges T.g_checked_edges (fun _ _ _ _ _ _ us hl => match us, hl with | [_, _], _ => rfl) (by decide +kernel) (fun vs H Q E h => ?_) (fun cdv A outer s H vs Q E hr h => ?_)
  · obtain ⟨C, post, sc, ⟨l, e, m, L, rfl, ok, hl, hL, he, hT, rfl⟩, q⟩ := h; rfl
  · obtain ⟨C, post, sc, ⟨l, e, m, L, rfl, ok, hl, hL, he, hT, rfl⟩, q⟩ := h
    have nd : (["levels", "edges", "found", "position", "edge"] : List Str).Nodup := by decide +kernel
    have hu := units1 hr
    refine ⟨_, (pss_cons (ps_if (pt_not (pt_val (C8.pe_c (c_is_list T) hr (by decide) (by rfl) (pa_cons (pv 1) pa_nil)))) pss_never pss_nil)
      (pss_cons (ps_set (i := 2) nd rfl (Or.inl rfl) pe_dnewT)
      (pss_cons (ps_for PassesOwn.never rfl (pi_enum (by rfl) T.f_enumerate (pa_cons (pv 1) pa_nil)) (pg_tup (n := 2) (by rfl) (pgs_cons (pg_name (i := 3) nd rfl (Or.inl rfl)) (pgs_cons (pg_name (i := 4) nd rfl (Or.inl rfl)) pgs_nil))) (pss_cons (ps_if (PW.pt (pw_or (pt_not (pt_val (C8.pe_c (c_is_pair T) hr (by decide) (by rfl) (pa_cons (pv 0) (pa_cons (pv 4) pa_nil))))) (pw_or1 (pt_cmp (pc_din hu (C8.pe_c (c_told_edge T) hr (by decide) (by rfl) (pa_cons (pv 0) (pa_cons (pe_ix ix_tup (pv 4) pe_int (fun _ _ => rfl)) (pa_cons (pe_ix ix_tup (pv 4) pe_int (fun _ _ => rfl)) pa_nil)))) (pv 2)) (by rfl))))) pss_never pss_nil)
      (pss_one (ps_dput hu (pv 2) (C8.pe_c (c_told_edge T) hr (by decide) (by rfl) (pa_cons (pv 0) (pa_cons (pe_ix ix_tup (pv 4) pe_int (fun _ _ => rfl)) (pa_cons (pe_ix ix_tup (pv 4) pe_int (fun _ _ => rfl)) pa_nil)))) pe_bl rfl))))
      (pss_one (ps_ret (pe_callB (cr_sortedDTS rfl hr.units) (by rfl) T.f_sorted b_sorted (pa_cons (pv 2) pa_nil))))))), ?_⟩
    refine ⟨_, rfl, C, _, sc, ⟨e, _, rfl, he, rfl⟩, fun C1 H1 n1 => ⟨_, rfl, iteF fun D hD => ?_⟩⟩
    have he1 := n1.ch _ _ (n1.cc _ _ he)
    have hll : L.length = m.es.length := by rw [← hL, List.length_map]
    have n1D : Nx [] C1 H1 C1 (upd H1 D (.dT [])) := (Nx.rfl n1.ch).tmp hD
    refine ⟨_, rfl, e, _, rfl, .of (n1D.ch _ _ (n1.cc _ _ he)), ?_⟩
    refine for_it walk_enum (fun i σ H => ∃ z1 z2 C', σ = [some (.ref l), some (.ref e), some (.ref D), z1, z2] ∧ Nx [] C1 H1 C' H ∧ Dt C' H D (.dT (fdT (m.es.take i)))) ⟨_, _, C1, rfl, n1D, .make n1.ch hD⟩ (fun i σ H _ ⟨_, _, C', _, n, _⟩ => .of (n.ch _ _ (n.cc _ _ (n1.cc _ _ he)))) (fun i x σ H2 H3 hi ⟨z1, z2, C', es, n, d⟩ y => ?_) (fun σ H2 ⟨z1, z2, C', es, n, d⟩ => ?_)
    · subst es
      obtain ⟨Tp, a, b, rfl, hTp, rfl, ea, eb⟩ := y
      rw [List.length_map] at hi
      cases ea
      have eb : (L.map fun p => V.ref p.1)[i]? = some b := eb
      rw [List.getElem?_map] at eb
      obtain ⟨p, hp, rfl⟩ := Option.map_eq_some_iff.mp eb
      have hpm := List.mem_of_getElem? hp
      have hpe : p.2 ∈ m.es := by rw [← hL]; exact List.mem_map.mpr ⟨p, hpm, rfl⟩
      have hks := ok.ein _ hpe
      have h1 : m.es[i]? = some p.2 := by rw [← hL, List.getElem?_map, hp]; rfl
      have nw : valV (fdT (m.es.take i)) (kP p.2) = none := by
        refine valV_kP _ _ fun hm => ?_
        obtain ⟨j, hj, ej⟩ := List.mem_iff_getElem.mp hm
        rw [List.length_take] at hj
        rw [List.getElem_take] at ej
        obtain ⟨hi', ei⟩ := List.getElem?_eq_some_iff.mp h1
        have := (List.getElem_inj ok.end_ (i := j) (j := i) (h₀ := by omega) (h₁ := hi')).mp (by rw [ej, ei])
        omega
      have h10 := ok.efew
      have len : (fdT (m.es.take i)).length < sizeLine := by
        unfold fdT; rw [List.length_map, List.length_map, List.length_take]; exact szL (by omega)
      have nxt : fdT (m.es.take (i + 1)) = putK (fdT (m.es.take i)) (kP p.2) (.bl true) := by
        rw [putK_new _ nw, List.take_add_one, h1]
        unfold fdT
        simp
      refine ⟨Tp, _, rfl, .of upd_same, rfl, _, _, rfl, _, _, rfl, rfl, ?_⟩
      have a3 : Nx [] C' H2 C' (upd H2 Tp (.tup [V.int ((i : Nat) : Int), V.ref p.1])) := .tmp0 n.ch hTp
      have d := d.on a3
      have n := n.trans a3
      have hp3 := n.cc _ _ (n1.cc _ _ (hT p hpm))
      have lv3 := hl.le (n1.trans n).le
      refine ⟨_, rfl, _, rfl, C', _, n.ch, ⟨l, p.1, m, p.2.1, p.2.2, rfl, ok, lv3, hp3, hks.1, hks.2, ok.e12 hpe, rfl⟩, fun C4 H4 a4 => ⟨_, rfl, iteF ?_⟩⟩
      have d := d.on a4
      have n := n.trans a4
      have hp4 := n.ch _ _ (n.cc _ _ (n1.cc _ _ (hT p hpm)))
      have lv4 := hl.le (n1.trans n).le
      refine ⟨_, rfl, _, rfl, p.1, _, _, _, rfl, rfl, .of hp4, rfl, _, rfl, p.1, _, _, _, rfl, rfl, .of hp4, rfl, C4, _, n.ch, ⟨l, m, p.2.1, p.2.2, rfl, ok, lv4, hks.1, hks.2, rfl⟩, fun v C5 H5 a5 ⟨t, ev, ht⟩ => ?_⟩
      subst ev
      rw [told_es ok hpe] at ht
      have d := d.on a5
      have n := n.trans a5
      refine ⟨_, rfl, D, none, rfl, ?_, _, rfl, iteF ?_⟩
      · rw [← nw]; exact .t d.at_ (n.ch _ _ ht)
      have hp5 := n.ch _ _ (n.cc _ _ (n1.cc _ _ (hT p hpm)))
      have lv5 := hl.le (n1.trans n).le
      refine ⟨_, rfl, _, rfl, _, rfl, p.1, _, _, _, rfl, rfl, .of hp5, rfl, _, rfl, p.1, _, _, _, rfl, rfl, .of hp5, rfl, C5, _, n.ch, ⟨l, m, p.2.1, p.2.2, rfl, ok, lv5, hks.1, hks.2, rfl⟩, fun v C6 H6 a6 ⟨t, ev, ht⟩ => ?_⟩
      subst ev
      rw [told_es ok hpe] at ht
      have d := d.on a6
      have n := n.trans a6
      exact ⟨D, _, rfl, .t (k := kP p.2) d.at_ (n.ch _ _ ht) len, _, _, C6, rfl, n.put d hD, by rw [nxt]; exact d.put⟩
    · subst es
      rw [List.length_map, hll, List.take_length] at d
      refine ⟨_, rfl, D, (m.es.map fun p => (p, V.bl true)), rfl, .inl d.at_, fun L' r pm ht hr => ?_⟩
      rw [List.map_map, show ((fun p : (Str × Str) × V => p.1) ∘ fun p : Str × Str => (p, V.bl true)) = id from rfl, List.map_id] at pm
      -- what is seen of the keys
      have see : ∀ (L2 : List PT), (∀ p ∈ L2, p ∈ L') → ∃ C3, Nx [] C1 H1 C3 H2 ∧ ∀ p ∈ L2, C3 p.1 = some (.tup [.str p.2.1, .str p.2.2]) := by
        intro L2
        induction L2 with
        | nil => exact fun _ => ⟨C', n, fun _ h => nomatch h⟩
        | cons p L2 ih =>
          intro hs
          obtain ⟨C3, n3, h3⟩ := ih fun q hq => hs q (List.mem_cons_of_mem _ hq)
          have hp := ht p (hs p (List.mem_cons_self ..))
          refine ⟨_, n3.see hp, fun q hq => ?_⟩
          by_cases e : q.1 = p.1
          · have hq' := ht q (hs q hq)
            rw [e] at hq' ⊢
            rw [hp] at hq'
            rw [upd_same]
            exact hq'
          · rw [upd_ne e]
            rcases List.mem_cons.mp hq with rfl | hq
            · exact absurd rfl e
            · exact h3 q hq
      obtain ⟨C3, n3, h3⟩ := see L' fun _ h => h
      have n4 := n3.new (o := .lst (L'.map fun p => V.ref p.1)) hr
      refine q _ _ _ (n1.trans n4) ⟨r, rfl, L', pm, upd_same, fun p hp => ?_⟩
      rw [upd_ne (fun z => by have := n3.ch _ _ (h3 p hp); rw [z, hr] at this; cases this)]
      exact h3 p hp
def nbr (es : List (Str × Str)) (x y : Str) : Prop := (x, y) ∈ es ∨ (y, x) ∈ es
def sp_neighbours_in (K : PySem.W.Frag) : Sp := Gives fun vs C post => ∃ x e, ∃ m : NetD, vs = [.str x, .ref e] ∧ m.Ok ∧ EdgL C e m.es ∧ post = fun v C' => ∃ b, ∃ ys : List Str, v = .ref b ∧ C' b = some (.lst (ys.map V.str)) ∧ ys.length ≤ 20 ∧ ∀ y, y ∈ ys ↔ nbr m.es x y
theorem c_neighbours_in (T : Txt K mg) : C8.Cal P w K mg base 1 "neighbours_in" (sp_neighbours_in K) [] := by
  refine mkCal (N := ["name", "edges", "edge", "other"]) (ps := ["name", "edges"]) T.d_neighbours_in T.g_neighbours_in (fun _ _ _ _ _ _ us hl => match us, hl with | [_, _], _ => rfl) (by decide +kernel) (fun vs H Q E h => ?_) (fun cdv A outer s H vs Q E hr h => ?_)
  · obtain ⟨C, post, sc, ⟨x, e, m, rfl, ok, he, rfl⟩, q⟩ := h; rfl
  · obtain ⟨C, post, sc, ⟨x, e, m, rfl, ok, he, rfl⟩, q⟩ := h
    have nd : (["name", "edges", "edge", "other"] : List Str).Nodup := by decide +kernel
    refine ⟨_, (pss_one (ps_ret (pe_callB cr_sortedS (by rfl) T.f_sorted b_sorted (pa_cons (pe_lc2 (own := [("edge", 2), ("other", 3)]) (vs1 := [3]) (by rfl) nd (pi_list (pv 1)) (blkOk_by (own := [("edge", 2), ("other", 3)]) (N := ["name", "edges", "edge", "other"]) (sc := C8.fnScope s_neighbours_in) (by decide +kernel)) (by decide) (fun _ _ _ _ _ => (pg_name (i := 2) nd rfl (Or.inl rfl))) (fun _ _ _ _ _ => pts_nil) (fun _ _ _ _ _ => (pi_tupK (K := K) rfl (pv 2))) (fun _ _ _ _ _ => (pg_name (i := 3) nd rfl (Or.inl rfl))) (fun _ _ _ _ _ => (pts_one (PW.pt (pw_and (pt_cmpR (op_inK (K := K) rfl) (pv 0) (pv 2) (by rfl)) (pw_and1 (pt_cmpR op_ne (pv 3) (pv 0) (nomark _))))))) (fun _ _ _ _ _ => (pv 3))) pa_nil)))), ?_⟩
    obtain ⟨L, pm, hL, hT⟩ := he
    have h10 := ok.efew
    have hlen : L.length ≤ 10 := by rw [show L.length = (L.map (·.2)).length by rw [List.length_map], pm.length_eq]; exact h10
    refine ⟨_, rfl, e, rfl, ⟨_, .of (sc _ _ hL)⟩, fun D hD => ?_⟩
    refine lc2_out walk_list (fun i H' => ∃ C', ∃ ys : List Str, Nx [] C H C' H' ∧ Dt C' H' D (.lst (ys.map V.str)) ∧ ys.length ≤ 2 * i ∧ ∀ y, y ∈ ys ↔ nbr ((L.take i).map (·.2)) x y) ⟨C, [], .tmp0 sc hD, .make sc hD, Nat.le_refl _, fun y => ?_⟩ (fun i H' _ ⟨C', ys, n, _⟩ => .of (n.ch _ _ (n.cc _ _ hL))) (fun i v H1 H2 hi ⟨C', ys, n, d, hy1, hy2⟩ y => ?_) (fun H1 ⟨C', ys, n, d, hy1, hy2⟩ => ?_)
    · simp [nbr]
    · obtain ⟨rfl, hv⟩ := y
      rw [List.getElem?_map] at hv
      obtain ⟨p, hp, rfl⟩ := Option.map_eq_some_iff.mp hv
      have hpm := List.mem_of_getElem? hp
      have hpe : p.2 ∈ m.es := pm.mem_iff.mp (List.mem_map.mpr ⟨p, hpm, rfl⟩)
      have hne := ok.e12 hpe
      rw [List.length_map] at hi
      have hTp : ∀ {C1 H1 : Hp}, Nx [] C H C1 H1 → H1 p.1 = some (.tup [.str p.2.1, .str p.2.2]) := fun n => n.ch _ _ (n.cc _ _ (hT p hpm))
      refine ⟨rfl, _, rfl, p.1, rfl, ⟨_, .of (hTp n)⟩, ?_⟩
      refine lc2_in walk_tup (fun j H' => ∃ C', ∃ ys : List Str, Nx [] C H C' H' ∧ Dt C' H' D (.lst (ys.map V.str)) ∧ ys.length ≤ 2 * i + j ∧ ∀ y, y ∈ ys ↔ nbr ((L.take i).map (·.2)) x y ∨ ((x = p.2.1 ∨ x = p.2.2) ∧ y ≠ x ∧ y ∈ [p.2.1, p.2.2].take j)) ⟨C', ys, n, d, hy1, fun y => by rw [hy2]; simp⟩ (fun j H' _ ⟨C', ys, n, _⟩ => .of (hTp n)) (fun j v H1 H3 hj ⟨C', ys, n, d, hy1, hy2⟩ y => ?_) (fun H1 ⟨C', ys, n, d, hy1, hy2⟩ => ?_)
      · obtain ⟨rfl, hv⟩ := y
        have hj : j < 2 := hj
        obtain ⟨y, rfl, hy⟩ : ∃ y, v = .str y ∧ [p.2.1, p.2.2][j]? = some y := by
          rcases (by omega : j = 0 ∨ j = 1) with rfl | rfl
          · exact ⟨p.2.1, (Option.some.inj hv).symm, rfl⟩
          · exact ⟨p.2.2, (Option.some.inj hv).symm, rfl⟩
        refine ⟨rfl, _, rfl, _, rfl, p.1, _, rfl, .inr (.of (hTp n)), rfl, rfl, _, rfl, ?_⟩
        have hin : inV (.str x) [.str p.2.1, .str p.2.2] = decide (x = p.2.1 ∨ x = p.2.2) := by
          simp [inV, eqV, beq_dec, eq_comm]
        have e0 : (if false = true then !inV (.str x) [.str p.2.1, .str p.2.2] else inV (.str x) [.str p.2.1, .str p.2.2]) = decide (x = p.2.1 ∨ x = p.2.2) := by rw [← hin]; rfl
        rw [e0]
        have tk : ∀ z, z ∈ [p.2.1, p.2.2].take (j + 1) ↔ z ∈ [p.2.1, p.2.2].take j ∨ z = y := fun z => by
          rw [List.take_add_one, hy]; simp
        by_cases hx : x = p.2.1 ∨ x = p.2.2
        · refine iteP hx ⟨_, rfl, _, rfl, rfl, !decide (y = x), by simp, ?_⟩
          by_cases hyx : y = x
          · subst hyx
            refine iteC (by simp) ⟨C', ys, n, d, by omega, fun z => ?_⟩
            rw [hy2, tk]
            constructor
            · rintro (h | ⟨h1, h2, h3⟩)
              · exact .inl h
              · exact .inr ⟨h1, h2, .inl h3⟩
            · rintro (h | ⟨h1, h2, h3 | h3⟩)
              · exact .inl h
              · exact .inr ⟨h1, h2, h3⟩
              · exact absurd h3 h2
          · refine iteB (by simp [hyx]) ⟨_, rfl, _, d.at_, szL (by rw [List.length_map]; omega), C', ys ++ [y], n.put d hD, ?_, by simp; omega, fun z => ?_⟩
            · rw [List.map_append]; exact d.put
            · rw [List.mem_append, hy2, tk, List.mem_singleton]
              constructor
              · rintro ((h | ⟨h1, h2, h3⟩) | rfl)
                · exact .inl h
                · exact .inr ⟨h1, h2, .inl h3⟩
                · exact .inr ⟨hx, hyx, .inr rfl⟩
              · rintro (h | ⟨h1, h2, h3 | h3⟩)
                · exact .inl (.inl h)
                · exact .inl (.inr ⟨h1, h2, h3⟩)
                · exact .inr h3
        · refine iteQ hx (iteF ⟨C', ys, n, d, by omega, fun z => ?_⟩)
          rw [hy2]
          constructor
          · rintro (h | ⟨h1, h2⟩)
            · exact .inl h
            · exact absurd h1 hx
          · rintro (h | ⟨h1, h2⟩)
            · exact .inl h
            · exact absurd h1 hx
      · have hy1 : ys.length ≤ 2 * i + 2 := hy1
        refine ⟨C', ys, n, d, by omega, fun z => ?_⟩
        have hy2 : ∀ y, y ∈ ys ↔ nbr ((L.take i).map (·.2)) x y ∨ ((x = p.2.1 ∨ x = p.2.2) ∧ y ≠ x ∧ y ∈ [p.2.1, p.2.2]) := hy2
        rw [hy2, List.take_add_one, hp, List.map_append]
        have e1 : ∀ a b : Str, (a, b) = p.2 ↔ a = p.2.1 ∧ b = p.2.2 := fun a b => Prod.ext_iff
        simp only [nbr, List.mem_append, Option.toList, List.map_cons, List.map_nil, List.mem_singleton, List.mem_cons, List.not_mem_nil, or_false, e1]
        constructor
        · rintro ((h | h) | ⟨h1 | h1, h2, h3 | h3⟩)
          · exact .inl (.inl h)
          · exact .inr (.inl h)
          · exact absurd (h3.trans h1.symm) h2
          · exact .inl (.inr ⟨h1, h3⟩)
          · exact .inr (.inr ⟨h3, h1⟩)
          · exact absurd (h3.trans h1.symm) h2
        · rintro ((h | ⟨h1, h2⟩) | (h | ⟨h1, h2⟩))
          · exact .inl (.inl h)
          · exact .inr ⟨.inl h1, fun z => hne (by rw [← h1, ← h2, z]), .inr h2⟩
          · exact .inl (.inr h)
          · exact .inr ⟨.inr h2, fun z => hne (by rw [← h1, ← h2, z]), .inl h1⟩
    · rw [List.length_map] at hy1 hy2
      rw [List.take_length] at hy2
      refine ⟨D, ys, rfl, .of d.at_, by omega, fun zs r pz _ hr => q _ _ _ (n.new hr) ⟨r, zs, rfl, upd_same, by rw [pz.length_eq]; omega, fun y => ?_⟩⟩
      rw [pz.mem_iff, hy2]
      unfold nbr
      rw [pm.mem_iff, pm.mem_iff]
def sp_Net (K : PySem.W.Frag) : Sp := fun vs H Q _ => ∃ C x dx d e, ∃ m : NetD, ∃ L : List PT, Same C H ∧ vs = [.ref x, .ref d, .ref e] ∧ H x = some (.ins 837 dx []) ∧ C x = none ∧ m.Ok ∧ C d = some (.dK (hsK m.hs)) ∧ L.map (·.2) = m.es ∧ C e = some (.lst (L.map fun p => V.ref p.1)) ∧ (∀ p ∈ L, C p.1 = some (.tup [.str p.2.1, .str p.2.2])) ∧
  ∀ C' H' fs, Nx [x] C H C' H' → C' x = none → H' x = some (.ins 837 dx fs) → NetAt (upd C' x (.ins 837 dx fs)) x m → Q .non H'
theorem m_Net (T : Txt K mg) : C8.Mak P w K mg base 4 "Net" 837 (sp_Net K) [] := by
  refine mkMakD (N := ["self", "nodes", "edges", "levels", "pairs", "name"]) (ps := ["self", "nodes", "edges"]) T.d_Net_init T.mk_Net T.g_Net (fun _ _ _ _ _ _ _ us its hl hi => match us, its, hl, hi with | [_, _, _], [_], _, _ => ⟨_, rfl, rfl⟩) (by decide +kernel) (fun vs H Q E h => ?_) (fun cdv A outer s H vs Q E hr h => ?_)
  · obtain ⟨C, x, dx, d, e, m, L, sc, rfl, hx, cx, ok, hd, hL, he, hT, q⟩ := h; rfl
  · obtain ⟨C, x, dx, d, e, m, L, sc, rfl, hx, cx, ok, hd, hL, he, hT, q⟩ := h
    have nd : (["self", "nodes", "edges", "levels", "pairs", "name"] : List Str).Nodup := by decide +kernel
    refine ⟨_, (pss_cons (ps_set (i := 3) nd rfl (Or.inl rfl) (C8.pe_c (c_checked_levels T) hr (by decide) (by rfl) (pa_cons (pv 1) pa_nil)))
      (pss_cons (ps_set (i := 4) nd rfl (Or.inr rfl) (C8.pe_c (c_checked_edges T) hr (by decide) (by rfl) (pa_cons (pv 3) (pa_cons (pv 2) pa_nil))))
      (pss_cons (ps_if (pt_cmpR op_gt (pe_callB call_lenR (by rfl) T.f_len b_len (pa_cons (pv 3) pa_nil)) (ClX.pe_cval (C8.pe_gc (by rfl) (gRef T.g_Net))) (nomark _)) pss_never pss_nil)
      (pss_cons (ps_if (pt_cmpR op_gt (pe_callB call_len_seq (by rfl) T.f_len b_len (pa_cons (pv 4) pa_nil)) (ClX.pe_cval (C8.pe_gc (by rfl) (gRef T.g_Net))) (nomark _)) pss_never pss_nil)
      (pss_cons (ps_fld (pv 0) (pv 3) rfl)
      (pss_cons (ps_fld (pv 0) (pv 4) rfl)
      (pss_one (ps_fld (pv 0) (pe_lock (pe_dc (own := [("name", 5)]) (by rfl) nd (pi_keys (pv 3)) (blkOk_by (own := [("name", 5)]) (N := ["self", "nodes", "edges", "levels", "pairs", "name"]) (sc := C8.fnScope s_Net_init) (by decide +kernel)) (fun _ _ _ _ _ => (pg_name (i := 5) nd rfl (Or.inl rfl))) (fun _ _ _ _ _ => pts_nil) (fun _ _ _ _ _ => (pv 5)) (fun _ _ _ _ _ => (C8.pe_c (c_neighbours_in T) hr (by decide) (by rfl) (pa_cons (pv 5) (pa_cons (pv 4) pa_nil)))))) rfl)))))))), ?_⟩
    have D0 : Dt C H x (.ins 837 dx []) := ⟨cx, hx⟩
    refine ⟨_, rfl, C, _, sc, ⟨d, m, rfl, ok, hd, rfl⟩, fun v C1 H1 a1 ⟨l, hs, ev, pm, hl⟩ => ?_⟩
    subst ev
    have D1 := D0.on a1
    refine ⟨_, rfl, _, rfl, C1, _, a1.ch, ⟨l, e, m, L, rfl, ok, ⟨hs, pm, .inl hl⟩, hL, a1.cc _ _ he, fun p hp => a1.cc _ _ (hT p hp), rfl⟩, fun v C2 H2 a2 ⟨r, ev, hE⟩ => ?_⟩
    subst ev
    have D2 := D1.on a2
    have n2 := a1.trans a2
    have hl2 := a2.cc _ _ hl
    have few := ok.few
    have efew := ok.efew
    obtain ⟨u1, cv1⟩ := T.cv_MOST_NODES.ex
    obtain ⟨u2, cv2⟩ := T.cv_MOST_EDGES.ex
    have hsl : (hsK hs).length = m.hs.length := by unfold hsK; rw [List.length_map, pm.length_eq]
    refine ⟨_, rfl, l, _, rfl, .inl (a2.ch _ _ hl2), 837, _, _, u1, rfl, T.rd_Net, cv1, _, _, rfl, rfl, _, rfl, iteQ (by omega) ?_⟩
    obtain ⟨L2, pm2, hL2, hT2⟩ := id hE
    have ll : L2.length = m.es.length := by rw [← pm2.length_eq, List.length_map]
    refine ⟨_, rfl, r, _, rfl, .inl (.of (a2.ch _ _ hL2)), 837, _, _, u2, rfl, T.rd_Net, cv2, _, _, rfl, rfl, _, rfl, iteQ (by rw [List.length_map]; omega) ?_⟩
    refine ⟨_, rfl, _, rfl, x, _, dx, _, rfl, D2.at_, T.cls_Net, T.no_Net_own_levels, (show (0 : Nat) < 1000 by decide), ?_⟩
    refine ⟨_, rfl, _, rfl, x, _, dx, _, rfl, upd_same, T.cls_Net, T.no_Net_own_edges, (show (1 : Nat) < 1000 by decide), ?_⟩
    rw [upd_upd]
    have n3 : Nx [x] C H C2 (upd H2 x (.ins 837 dx (putF (Str.ofString "own_edges") (.ref r) (putF (Str.ofString "own_levels") (.ref l) [])))) := (n2.pure).mutM D2.no (List.mem_singleton_self x)
    have D3 : Dt C2 (upd H2 x (.ins 837 dx (putF (Str.ofString "own_edges") (.ref r) (putF (Str.ofString "own_levels") (.ref l) [])))) x _ := D2.put
    generalize hH3 : upd H2 x (.ins 837 dx (putF (Str.ofString "own_edges") (.ref r) (putF (Str.ofString "own_levels") (.ref l) []))) = H3 at n3 D3
    have hl3 := n3.ch _ _ hl2
    refine ⟨l, .dK (hsK hs), hl3, trivial, fun od => ⟨_, rfl, l, od, rfl, .inl ⟨hsK hs, upd_same, ?_⟩⟩⟩
    have nd : ((hsK hs).map (·.1)).Nodup := by
      rw [hsK_keys]
      exact nodup_map (fun _ _ h => Sum.inr.inj h) ((pm.map Prod.fst).nodup_iff.mpr ok.nd)
    refine dcMap (M := []) (Qd := fun D H' => H' l = some (.frz od (.dK (hsK hs))) ∧ _) walk_keys (kAt (hsK hs)) (fun i v C' => ∃ x b, ∃ ys : List Str, kAt (hsK hs) i = .inr x ∧ v = .ref b ∧ C' b = some (.lst (ys.map V.str)) ∧ ys.length ≤ 20 ∧ ∀ y, y ∈ ys ↔ nbr m.es x y) (kAt_inj nd) (same_updB (u := .frz od (.dK (hsK hs))) n3.ch) (fun _ h => nomatch h) (szK (by omega)) (fun C' H' n => n.hh l _ (fun z => nomatch z) upd_same) (fun i v C C' s ⟨x, b, ys, h1, h2, h3, h4⟩ => ⟨x, b, ys, h1, h2, s _ _ h3, h4⟩) (fun i z C' H' H4 Z hi n y k => ?_) (fun p acc C' H' n cp hp hH hal ha => ?_)
    · obtain ⟨rfl, kk, v, ek, rfl⟩ := y
      obtain ⟨y, j, hm, rfl, rfl⟩ := hsK_get (m := m) ek
      refine ⟨rfl, _, rfl, _, rfl, _, rfl, C', _, n.ch, ⟨y, r, m, rfl, ok, (hE.le (Le.lock hl2)).le n.le, rfl⟩, fun v C5 H5 n5 ⟨b, ys, ev, h1, h2, h3⟩ => ?_⟩
      have k' := k v C5 H5 n5 ⟨y, b, ys, kAt_of ek, ev, h1, h2, h3⟩
      rw [kAt_of ek] at k'
      exact k'
    · have hlf := n.hh l _ (fun z => nomatch z) (upd_same (H := H3) (o := .frz od (.dK (hsK hs))))
      have D4 := (D3.lock (v := .frz od (.dK (hsK hs))) hl2).on n
      have D5 : Dt (upd C' l (.dK (hsK hs))) (upd H' l (.dK (hsK hs))) x _ := D4.lock (n.cc _ _ upd_same)
      have n5 := n3.trans ((n.unlock hl2 hl3).pure)
      have n6 := n5.mutM (o := .ins 837 dx (putF (Str.ofString "own_near") (.ref p) (putF (Str.ofString "own_edges") (.ref r) (putF (Str.ofString "own_levels") (.ref l) [])))) D5.no (List.mem_singleton_self x)
      refine ⟨hlf, _, rfl, x, _, dx, _, rfl, D5.at_, T.cls_Net, T.no_Net_own_near, (show (2 : Nat) < 1000 by decide), ?_⟩
      have hpx : p ≠ x := fun z => by have := D4.at_; rw [← z, hH] at this; cases this
      have hpl : p ≠ l := fun z => by rw [z, hlf] at hH; cases hH
      have hp6 : (upd (upd H' l (.dK (hsK hs))) x (.ins 837 dx (putF (Str.ofString "own_near") (.ref p) (putF (Str.ofString "own_edges") (.ref r) (putF (Str.ofString "own_levels") (.ref l) []))))) p = some (.dK acc) := by
        rw [upd_ne hpx, upd_ne hpl]; exact hH
      have hp0 : H p = none := by
        refine n3.back ?_
        rw [upd_ne (fun z => by rw [z, upd_same] at hp; cases hp)] at hp
        exact hp
      have n7 := n6.keep hp6 hp0
      refine q _ _ _ n7 ?_ upd_same ⟨ok, dx, l, r, p, upd_same, ?_, ?_, ?_⟩
      · rw [upd_ne (Ne.symm hpx)]; exact D5.no
      all_goals have up : Le (upd (upd C' l (.dK (hsK hs))) p (.dK acc)) (upd (upd (upd C' l (.dK (hsK hs))) p (.dK acc)) x (.ins 837 dx (putF (Str.ofString "own_near") (.ref p) (putF (Str.ofString "own_edges") (.ref r) (putF (Str.ofString "own_levels") (.ref l) []))))) := Same.le (same_upd (by rw [upd_ne (Ne.symm hpx)]; exact D5.no))
      all_goals have up0 : Le (upd C' l (.dK (hsK hs))) (upd (upd C' l (.dK (hsK hs))) p (.dK acc)) := Same.le (same_upd (by rw [upd_ne hpl]; exact cp))
      · exact LevD.le up ⟨hs, pm, .inl (by rw [upd_ne (Ne.symm hpl)]; exact upd_same)⟩
      · exact (hE.le ((Same.le (n.unlock hl2 hl3).cc).trans up0)).le up
      · refine NearD.le up ⟨acc, .inl upd_same, fun y hy => ?_⟩
        have ka := same_keys (kvs := hsK hs) (by rw [hal]) fun i kv e => (ha i kv e).1
        have hm : (Sum.inr y : Key) ∈ acc.map (·.1) := by
          rw [ka, hsK_keys]
          exact List.mem_map.mpr ⟨y, (pm.map Prod.fst).mem_iff.mpr hy, rfl⟩
        obtain ⟨kv, hkv, e1⟩ := List.mem_map.mp hm
        obtain ⟨i, hi, ei⟩ := List.mem_iff_getElem.mp hkv
        obtain ⟨e2, z, b, ys, h1, h2, h3, h4⟩ := ha i kv (by rw [List.getElem?_eq_getElem hi, ei])
        rw [← e2, e1] at h1
        cases h1
        refine ⟨b, ys, ?_, up0.ex _ _ (by rw [upd_ne (fun z => by have := n.cc _ _ (upd_same (H := C2) (a := l) (o := .frz od (.dK (hsK hs)))); rw [← z, h3] at this; cases this)]; exact h3) rfl, h4.1, h4.2⟩
        rw [← e1, ← h2]
        exact valV_mem (by rw [ka]; exact nd) hkv
end
end AbW

/-! ## Wm -/
set_option Elab.async false
set_option linter.all false
set_option maxRecDepth 100000
set_option maxHeartbeats 4000000
/-! Wm: companies, spots, places, in a clean heap -/
namespace AbW
open PySem PySem.Spec PyProof.Rows L2 AbH AbR
section
variable {M : List Addr} {C H C' H' : Hp} {d : Addr} {o : HO}
theorem Nx.fresh (n : Nx [] C H C' H') (h : C d = none) (h' : C' d = some o) (ho : ∀ xs, o ≠ .tup xs := by intro _ h; cases h) : H d = none := by
  cases e : H d with
  | none => rfl
  | some u =>
    by_cases hu : ∃ xs, u = .tup xs
    · obtain ⟨xs, rfl⟩ := hu
      have h1 := n.hh d _ (fun z => nomatch z) e
      rw [n.ch _ _ h'] at h1
      exact absurd (Option.some.inj h1) (ho xs)
    · have := n.fr d h (by rw [e]; simp) (fun xs => by rw [e]; exact fun z => hu ⟨xs, Option.some.inj z⟩)
      rw [this] at h'; cases h'
theorem Nx.set2 (n : Nx M C H C' H') (hc : C d = none) (hd : H d = none) : Nx M C H (upd C' d o) (upd H' d o) := by
  refine ⟨fun b x e => ?_, same_updB n.ch, fun b h => ?_, fun b x hb e => ?_, fun b h1 h2 h3 => ?_⟩
  · rw [upd_ne (ne_of_none e hc)]; exact n.cc b x e
  · rw [upd_ne (fun z => by subst z; exact h hd)]; exact n.dm b h
  · rw [upd_ne (fun z => by subst z; rw [hd] at e; cases e)]; exact n.hh b x hb e
  · rw [upd_ne (fun z => by subst z; exact h2 hd)]; exact n.fr b h1 h2 h3
theorem Nx.frz {kvs : List (Key × V)} {od : Obj} (n : Nx [] C H C' H') (h : C d = none) (h' : C' d = some (.dK kvs)) : Nx [] C H (upd C' d (.frz od (.dK kvs))) (upd H' d (.frz od (.dK kvs))) := n.set2 h (n.fresh h h')
theorem itemsY {kvs : List (Key × V)} {i : Nat} {w : V} (y : YPair (fun i => kvs[i]?.map fun kv => kV kv.1) (fun i => kvs[i]?.map Prod.snd) i H w H') : ∃ T k v, w = .ref T ∧ H T = none ∧ H' = upd H T (.tup [kV k, v]) ∧ kvs[i]? = some (k, v) := by
  obtain ⟨T, x, y, e1, e2, e3, e4, e5⟩ := y
  obtain ⟨p, h1, h2⟩ := Option.map_eq_some_iff.mp e4
  obtain ⟨p', h3, h4⟩ := Option.map_eq_some_iff.mp e5
  rw [h1] at h3
  cases h3
  subst h2 h4
  exact ⟨T, p.1, p.2, e1, e2, e3, h1⟩
end
/-! ### companies -/
def nsK (ns : List (Str × Addr)) : List (Key × V) := ns.map fun p => (Sum.inr p.1, V.ref p.2)
def vsK (vs : List (Str × V)) : List (Key × V) := vs.map fun p => (Sum.inr p.1, p.2)
theorem vsK_keys (vs : List (Str × V)) : (vsK vs).map (·.1) = (vs.map (·.1)).map Sum.inr := by
  unfold vsK; rw [List.map_map, List.map_map]; rfl
theorem nsK_vs (ns : List (Str × Addr)) : nsK ns = vsK (ns.map fun p => (p.1, .ref p.2)) := by
  unfold nsK vsK; rw [List.map_map]; rfl
theorem hsK_vs (hs : List (Str × Int)) : hsK hs = vsK (hs.map fun p => (p.1, .int p.2)) := by
  unfold hsK vsK; rw [List.map_map]; rfl
theorem vsK_len (vs : List (Str × V)) : (vsK vs).length = vs.length := by unfold vsK; rw [List.length_map]
theorem vsK_get {vs : List (Str × V)} {i : Nat} {k : Key} {v : V} (h : (vsK vs)[i]? = some (k, v)) : ∃ x, (x, v) ∈ vs ∧ k = .inr x ∧ vs[i]? = some (x, v) := by
  unfold vsK at h
  rw [List.getElem?_map] at h
  obtain ⟨p, hp, e⟩ := Option.map_eq_some_iff.mp h
  cases e
  exact ⟨p.1, List.mem_of_getElem? hp, rfl, hp⟩
theorem vsK_nd {vs : List (Str × V)} (h : (vs.map (·.1)).Nodup) : ((vsK vs).map (·.1)).Nodup := by
  rw [vsK_keys]; exact nodup_map (fun _ _ e => Sum.inr.inj e) h
theorem vsK_val {vs : List (Str × V)} (h : (vs.map (·.1)).Nodup) {x : Str} {v : V} (hm : (x, v) ∈ vs) : valV (vsK vs) (.inr x) = some v :=
  valV_mem (vsK_nd h) (List.mem_map.mpr ⟨(x, v), hm, rfl⟩)
/-- an entries' list whose keys are texts comes from such -/
theorem of_keys {acc : List (Key × V)} {xs : List Str} (h : acc.map (·.1) = xs.map Sum.inr) : ∃ vs : List (Str × V), acc = vsK vs ∧ vs.map (·.1) = xs := by
  induction acc generalizing xs with
  | nil =>
    cases xs with
    | nil => exact ⟨[], rfl, rfl⟩
    | cons x xs => cases h
  | cons p acc ih =>
    cases xs with
    | nil => cases h
    | cons x xs =>
      rw [List.map_cons, List.map_cons] at h
      obtain ⟨h1, h2⟩ := List.cons.inj h
      obtain ⟨vs, e1, e2⟩ := ih h2
      refine ⟨(x, p.2) :: vs, ?_, by rw [List.map_cons, e2]⟩
      rw [e1]
      show p :: _ = (Sum.inr x, p.2) :: _
      rw [← h1]; rfl
def comF (d : Addr) (s : Int) : List (Str × V) := [("own_nets", .ref d), ("own_spread", .int s)]
structure CoOk (W : List Str) (s : Int) : Prop where
  nd : W.Nodup
  ne : W ≠ []
  few : W.length ≤ 8
  nm : ∀ x ∈ W, NameOk x
  s0 : 0 ≤ s
/-- exactly held | read -/
def CompanyAt (C : Hp) (a : Addr) (W : List Str) (N : Str → NetD) (s : Int) : Prop := CoOk W s ∧ ∃ dx d, ∃ ns : List (Str × Addr), C a = some (.ins 982 dx (comF d s)) ∧ C d = some (.dK (nsK ns)) ∧ (ns.map (·.1)).Perm W ∧ ∀ p ∈ ns, NetAt C p.2 (N p.1)
def CompanyR (C : Hp) (a : Addr) (W : List Str) (N : Str → NetD) (s : Int) : Prop := CoOk W s ∧ ∃ dx d, ∃ ns : List (Str × Addr), C a = some (.ins 982 dx (comF d s)) ∧ Rd C d (.dK (nsK ns)) ∧ (ns.map (·.1)).Perm W ∧ ∀ p ∈ ns, NetAt C p.2 (N p.1)
/-- spots: a dict by walkers -/
def SpotsAt (C : Hp) (a : Addr) (A : List Str) (N : Str → NetD) (p : Str → Spot) : Prop := ∃ vs : List (Str × V), C a = some (.dK (vsK vs)) ∧ (vs.map (·.1)).Perm A ∧ ∀ q ∈ vs, SpotV C q.2 (p q.1) ∧ (N q.1).has (p q.1)
def SpotsR (C : Hp) (a : Addr) (A : List Str) (N : Str → NetD) (p : Str → Spot) : Prop := ∃ vs : List (Str × V), Rd C a (.dK (vsK vs)) ∧ (vs.map (·.1)).Perm A ∧ ∀ q ∈ vs, SpotV C q.2 (p q.1) ∧ (N q.1).has (p q.1)
section
variable {C C' : Hp} {a : Addr} {W A : List Str} {N : Str → NetD} {s : Int} {p : Str → Spot}
theorem CompanyAt.toR (h : CompanyAt C a W N s) : CompanyR C a W N s := let ⟨k, dx, d, ns, h1, h2, h3⟩ := h; ⟨k, dx, d, ns, h1, .inl h2, h3⟩
theorem SpotsAt.toR (h : SpotsAt C a A N p) : SpotsR C a A N p := let ⟨vs, h1, h2⟩ := h; ⟨vs, .inl h1, h2⟩
theorem CompanyR.le (e : Le C C') (h : CompanyR C a W N s) : CompanyR C' a W N s := let ⟨k, dx, d, ns, h1, h2, h3, h4⟩ := h; ⟨k, dx, d, ns, e.ex _ _ h1 rfl, e.rd _ _ h2, h3, fun q hq => (h4 q hq).le e⟩
theorem CompanyAt.same (e : Same C C') (h : CompanyAt C a W N s) : CompanyAt C' a W N s := let ⟨k, dx, d, ns, h1, h2, h3, h4⟩ := h; ⟨k, dx, d, ns, e _ _ h1, e _ _ h2, h3, fun q hq => (h4 q hq).le (Same.le e)⟩
theorem SpotsR.le (e : Le C C') (h : SpotsR C a A N p) : SpotsR C' a A N p := let ⟨vs, h1, h2, h3⟩ := h; ⟨vs, e.rd _ _ h1, h2, fun q hq => ⟨(h3 q hq).1.le e, (h3 q hq).2⟩⟩
theorem SpotsAt.same (e : Same C C') (h : SpotsAt C a A N p) : SpotsAt C' a A N p := let ⟨vs, h1, h2, h3⟩ := h; ⟨vs, e _ _ h1, h2, fun q hq => ⟨(h3 q hq).1.le (Same.le e), (h3 q hq).2⟩⟩
/-- the spot of x -/
theorem SpotsR.get (h : SpotsR C a A N p) (hA : A.Nodup) {x : Str} (hx : x ∈ A) : ∃ v, (∀ H, Same C H → DGet H a (.str x) (some v)) ∧ SpotV C v (p x) ∧ (N x).has (p x) := by
  obtain ⟨vs, h1, h2, h3⟩ := h
  obtain ⟨q, hq, e⟩ := List.mem_map.mp (h2.mem_iff.mpr hx)
  subst e
  exact ⟨q.2, fun H s => .inl ⟨_, .inr q.1, Same.rd s h1, rfl, (vsK_val (h2.nodup_iff.mpr hA) (show (q.1, q.2) ∈ vs from hq)).symm⟩, h3 q hq⟩
end
end AbW

/-! ## W4 -/
set_option Elab.async false
set_option linter.all false
set_option maxRecDepth 100000
set_option maxHeartbeats 4000000
/-! W4: companies -/
namespace AbW
open PySem PySem.Spec PyProof.Rows L2 AbH AbR
def NetsAt (C : Hp) (d : Addr) (W : List Str) (N : Str → NetD) : Prop := ∃ ns : List (Str × Addr), C d = some (.dK (nsK ns)) ∧ (ns.map (·.1)).Perm W ∧ ∀ p ∈ ns, NetAt C p.2 (N p.1)
theorem nsK_len (ns : List (Str × Addr)) : (nsK ns).length = ns.length := by unfold nsK; rw [List.length_map]
theorem nsK_keys (ns : List (Str × Addr)) : (nsK ns).map (·.1) = (ns.map (·.1)).map Sum.inr := by
  unfold nsK; rw [List.map_map, List.map_map]; rfl
theorem nsK_get {ns : List (Str × Addr)} {i : Nat} {k : Key} {v : V} (h : (nsK ns)[i]? = some (k, v)) : ∃ x a, (x, a) ∈ ns ∧ k = .inr x ∧ v = .ref a ∧ ns[i]? = some (x, a) := by
  unfold nsK at h
  rw [List.getElem?_map] at h
  obtain ⟨p, hp, e⟩ := Option.map_eq_some_iff.mp h
  cases e
  exact ⟨p.1, p.2, List.mem_of_getElem? hp, rfl, rfl, hp⟩
theorem nsK_val {ns : List (Str × Addr)} (h : (ns.map (·.1)).Nodup) {x : Str} {a : Addr} (hm : (x, a) ∈ ns) : valV (nsK ns) (.inr x) = some (.ref a) :=
  valV_mem (by rw [nsK_keys]; exact nodup_map (fun _ _ e => Sum.inr.inj e) h) (List.mem_map.mpr ⟨(x, a), hm, rfl⟩)
theorem ns_at {ns : List (Str × Addr)} {W : List Str} (pm : (ns.map (·.1)).Perm W) {x : Str} (h : x ∈ W) : ∃ a, (x, a) ∈ ns := by
  obtain ⟨q, hq, e⟩ := List.mem_map.mp (pm.mem_iff.mpr h)
  subst e
  exact ⟨q.2, hq⟩
section
variable {P : Program} {w : World} {K : PySem.W.Frag} {mg : Str → Option Value} {base : Heap}
def sp_want_nets (K : PySem.W.Frag) : Sp := Pure fun vs C v => ∃ d W N s, vs = [.ref d] ∧ CoOk W s ∧ NetsAt C d W N ∧ v = .non
theorem c_want_nets (T : Txt K mg) : C8.Cal P w K mg base 2 "want_nets" (sp_want_nets K) [] := by
  refine mkCal (N := ["nets", "name"]) (ps := ["nets"]) T.d_want_nets T.g_want_nets (fun _ _ _ _ _ _ us hl => match us, hl with | [_], _ => rfl) (by decide +kernel) (fun vs H Q E h => ?_) (fun cdv A outer s H vs Q E hr h => ?_)
  · obtain ⟨C, v, sc, ⟨d, W, N, s', rfl, ok, ⟨ns, hd, pm, hN⟩, rfl⟩, q⟩ := h; rfl
  · obtain ⟨C, v, sc, ⟨d, W, N, s', rfl, ok, ⟨ns, hd, pm, hN⟩, rfl⟩, q⟩ := h
    have nd : (["nets", "name"] : List Str).Nodup := by decide +kernel
    have hu := units1 hr
    refine ⟨_, (pss_cons (ps_if (PW.pt (pw_or (pt_not (pt_val (pe_callB call_isi1 (by rfl) T.f_isinstance b_isinstance (pa_cons (pv 0) (pa_cons (pe_bltn (v := .ty "dict") (by rfl) T.f_dict b_dict rfl) pa_nil))))) (pw_or (pt_cmpR op_eq (pe_callB call_lenR (by rfl) T.f_len b_len (pa_cons (pv 0) pa_nil)) pe_int (nomark _)) (pw_or1 (pt_not (pt_val (pe_callB (cr_all rfl) (by rfl) T.f_all b_all (pa_cons (pe_lock (pe_lc (own := [("name", 1)]) (by rfl) nd (pi_keys (pv 0)) (blkOk_by (own := [("name", 1)]) (N := ["nets", "name"]) (sc := C8.fnScope s_want_nets) (by decide +kernel)) (fun _ _ _ _ _ => (pg_name (i := 1) nd rfl (Or.inl rfl))) (fun _ _ _ _ _ => pts_nil) (fun _ _ _ _ _ => (C8.pe_c (c_is_name T) hr (by decide) (by rfl) (pa_cons (pv 1) pa_nil))))) pa_nil)))))))) pss_never pss_nil)
      (pss_one (ps_for PassesOwn.never rfl (pi_list (pe_callB (call_sortedD rfl) (by rfl) T.f_sorted b_sorted (pa_cons (pv 0) pa_nil))) (pg_name (i := 1) nd rfl (Or.inl rfl)) (pss_one (ps_if (pt_not (pt_val (pe_callB (C8.call_isC T.ins_Net) (by rfl) T.f_isinstance b_isinstance (pa_cons (pe_dget hu (pv 0) (pv 1) (fun _ _ => rfl)) (pa_cons (C8.pe_gc (by rfl) (gRef T.g_Net)) pa_nil))))) pss_never pss_nil))))), ?_⟩
    have hD := sc _ _ hd
    have wl : ns.length = W.length := by rw [← pm.length_eq, List.length_map]
    have few := ok.few
    have pos : 0 < W.length := List.length_pos_iff.mpr ok.ne
    refine ⟨_, rfl, _, _, _, _, rfl, .base (.dK hD), k_dict_dict, _, rfl, iteF ⟨_, rfl, d, _, rfl, .inl hD, rfl, false, ?_, iteF ?_⟩⟩
    · rw [nsK_len]
      refine congrArg V.bl (decide_eq_false fun z => ?_)
      have := V.int.inj z
      omega
    refine lockTrue sc hd (szK (by rw [nsK_len]; omega)) rfl (fun od i k v C' H' Z e n k => ?_) (fun p bs C1 H1 n1 hp ha => ⟨p, bs, rfl, .of hp, ?_⟩)
    · obtain ⟨x, a, h, rfl, rfl, _⟩ := nsK_get e
      exact ⟨rfl, _, rfl, C', _, n.ch, ⟨x, rfl, ok.nm x (pm.mem_iff.mp (List.mem_map.mpr ⟨_, h, rfl⟩)), rfl⟩, k⟩
    rw [ha]
    refine ⟨_, rfl, iteF ?_⟩
    have hd1 := n1.ch _ _ (n1.cc _ _ hd)
    refine ⟨_, rfl, d, _, ns.map (·.1), rfl, .inl hd1, nsK_keys _, by rw [List.length_map]; omega, fun ys p py _ hp => ⟨p, rfl, ⟨_, .of upd_same⟩, ?_⟩⟩
    have n2 := n1.new (o := .lst (ys.map V.str)) hp
    refine for_it walk_list (fun i σ H => ∃ z C', σ = [some (.ref d), z] ∧ Nx [] C (_ : Hp) C' H ∧ C' p = some (.lst (ys.map V.str))) ⟨_, _, rfl, n2, upd_same⟩ (fun i σ H _ ⟨z, C', _, n, h⟩ => .of (n.ch _ _ h)) (fun i x σ H1 H2 hi ⟨z, C', e, n, h⟩ y => ?_) (fun σ H1 ⟨z, C', e, n, h⟩ => q _ _ n)
    obtain ⟨rfl, hx⟩ := y
    subst e
    rw [List.getElem?_map] at hx
    obtain ⟨x, hy, rfl⟩ := Option.map_eq_some_iff.mp hx
    obtain ⟨a, ha⟩ := ns_at (.refl _) (py.mem_iff.mp (List.mem_of_getElem? hy))
    obtain ⟨dx, l, e, nn, hA, _⟩ := ((hN _ ha).le n.le).ex
    have nd : (ns.map (·.1)).Nodup := pm.nodup_iff.mpr ok.nd
    exact ⟨_, rfl, _, rfl, d, _, rfl, .inl ⟨_, .inr x, .inl (n.ch _ _ (n.cc _ _ hd)), rfl, (nsK_val nd ha).symm⟩, a, dx, _, rfl, n.ch _ _ hA, _, rfl, iteF ⟨_, C', rfl, n, h⟩⟩
def sp_Company (K : PySem.W.Frag) : Sp := fun vs H Q _ => ∃ C x dx d s W N, Same C H ∧ vs = [.ref x, .ref d, .int s] ∧ H x = some (.ins 982 dx []) ∧ C x = none ∧ CoOk W s ∧ NetsAt C d W N ∧
  ∀ C' H' o, Nx [x] C H C' H' → C' x = none → H' x = some o → CompanyAt (upd C' x o) x W N s → Q .non H'
theorem m_Company (T : Txt K mg) : C8.Mak P w K mg base 3 "Company" 982 (sp_Company K) [] := by
  refine mkMakD (N := ["self", "nets", "spread", "name"]) (ps := ["self", "nets", "spread"]) T.d_Company_init T.mk_Company T.g_Company (fun _ _ _ _ _ _ _ us its hl hi => match us, its, hl, hi with | [_, _, _], [_], _, _ => ⟨_, rfl, rfl⟩) (by decide +kernel) (fun vs H Q E h => ?_) (fun cdv A outer s H vs Q E hr h => ?_)
  · obtain ⟨C, x, dx, d, s', W, N, sc, rfl, hx, cx, ok, ⟨ns, hd, pm, hN⟩, q⟩ := h; rfl
  · obtain ⟨C, x, dx, d, s', W, N, sc, rfl, hx, cx, ok, ⟨ns, hd, pm, hN⟩, q⟩ := h
    have nd : (["self", "nets", "spread", "name"] : List Str).Nodup := by decide +kernel
    have hu := units1 hr
    refine ⟨_, (pss_cons (ps_expr (C8.pe_c (c_want_nets T) hr (by decide) (by rfl) (pa_cons (pv 1) pa_nil)))
      (pss_cons (ps_if (pt_not (pt_val (C8.pe_c (c_is_count T) hr (by decide) (by rfl) (pa_cons (pv 2) pa_nil)))) pss_never pss_nil)
      (pss_cons (ps_if (pt_cmpR op_gt (pe_callB call_lenR (by rfl) T.f_len b_len (pa_cons (pv 1) pa_nil)) (C8.pe_gc (by rfl) (gInt T.i_MOST_WALKERS_companies)) (nomark _)) pss_never pss_nil)
      (pss_cons (ps_fld (pv 0) (pe_dc (own := [("name", 3)]) (by rfl) nd (pi_list (pe_callB (call_sortedD rfl) (by rfl) T.f_sorted b_sorted (pa_cons (pv 1) pa_nil))) (blkOk_by (own := [("name", 3)]) (N := ["self", "nets", "spread", "name"]) (sc := C8.fnScope s_Company_init) (by decide +kernel)) (fun _ _ _ _ _ => (pg_name (i := 3) nd rfl (Or.inl rfl))) (fun _ _ _ _ _ => pts_nil) (fun _ _ _ _ _ => (pv 3)) (fun _ _ _ _ _ => (pe_dget hu (pv 1) (pv 3) (fun _ _ => rfl)))) rfl)
      (pss_one (ps_fld (pv 0) (pv 2) rfl)))))), ?_⟩
    have D0 : Dt C H x (.ins 982 dx []) := ⟨cx, hx⟩
    have wl : ns.length = W.length := by rw [← pm.length_eq, List.length_map]
    have few := ok.few
    refine ⟨_, rfl, C, _, sc, ⟨d, W, N, s', rfl, ok, ⟨ns, hd, pm, hN⟩, rfl⟩, fun C1 H1 n1 => ?_⟩
    have D1 := D0.on n1
    refine ⟨_, rfl, s', rfl, ok.s0, _, rfl, iteF ?_⟩
    have hd1 := n1.ch _ _ (n1.cc _ _ hd)
    refine ⟨_, rfl, d, _, rfl, .inl hd1, _, _, rfl, rfl, _, rfl, iteQ (by rw [nsK_len]; omega) ?_⟩
    refine ⟨_, rfl, d, _, ns.map (·.1), rfl, .inl hd1, nsK_keys _, by rw [List.length_map]; omega, fun ys p py _ hp => ⟨p, rfl, ⟨_, .of upd_same⟩, ?_⟩⟩
    have n2 := n1.new (o := .lst (ys.map V.str)) hp
    have a2 : Nx [] C1 H1 (upd C1 p (.lst (ys.map V.str))) (upd H1 p (.lst (ys.map V.str))) := Nx.new0 n1.ch hp
    have D2 := D1.on a2
    have nd : (ns.map (·.1)).Nodup := pm.nodup_iff.mpr ok.nd
    have ynd : ys.Nodup := py.nodup_iff.mpr nd
    have yl : ys.length = ns.length := by rw [py.length_eq, List.length_map]
    refine dcMap (M := []) walk_list (fun i => .inr (ys.getD i "")) (fun i v _ => ∃ a, v = .ref a ∧ (ys.getD i "", a) ∈ ns) (fun i j hi hj e => ?_) n2.ch (fun _ h => nomatch h) (szK (by rw [List.length_map]; omega)) (fun C5 H5 n5 => .of (n5.ch _ _ (n5.cc _ _ upd_same))) (fun _ _ _ _ _ h => h) (fun i x C5 H5 H6 Z hi n5 y k => ?_) (fun r acc C5 H5 n5 cr hr hH hl ha => ?_)
    · rw [List.length_map] at hi hj
      have e := Sum.inr.inj e
      rw [List.getD_eq_getElem?_getD, List.getD_eq_getElem?_getD, List.getElem?_eq_getElem hi, List.getElem?_eq_getElem hj] at e
      exact (List.getElem_inj ynd).mp e
    · obtain ⟨rfl, hx⟩ := y
      rw [List.getElem?_map] at hx
      obtain ⟨y, hy, rfl⟩ := Option.map_eq_some_iff.mp hx
      have ey : ys.getD i "" = y := by rw [List.getD_eq_getElem?_getD, hy]; rfl
      obtain ⟨a, ha⟩ := ns_at (.refl _) (py.mem_iff.mp (List.mem_of_getElem? hy))
      refine ⟨rfl, _, rfl, _, rfl, _, rfl, d, _, rfl, .inl ⟨_, .inr y, .inl (n5.ch _ _ ((n2.trans n5).cc _ _ hd)), rfl, (nsK_val nd ha).symm⟩, ?_⟩
      have k' := k (.ref a) C5 H6 (.rfl n5.ch) ⟨a, rfl, by rw [ey]; exact ha⟩
      rw [ey] at k'
      exact k'
    · rw [List.length_map] at hl
      have n6 := n2.trans n5
      have D5 := D2.on n5
      obtain ⟨ns', e1, e2, e3⟩ : ∃ ns' : List (Str × Addr), acc = nsK ns' ∧ ns'.map (·.1) = ys ∧ ∀ q ∈ ns', q ∈ ns := by
        have hk : acc.map (·.1) = ys.map Sum.inr := by
          refine List.ext_getElem? fun i => ?_
          rw [List.getElem?_map, List.getElem?_map]
          by_cases h : i < ys.length
          · have h' : i < acc.length := by omega
            have e1 := (ha i _ (List.getElem?_eq_getElem h')).1
            rw [List.getD_eq_getElem?_getD, List.getElem?_eq_getElem h] at e1
            rw [List.getElem?_eq_getElem h', List.getElem?_eq_getElem h]
            exact congrArg some e1
          · rw [List.getElem?_eq_none (by omega), List.getElem?_eq_none (by omega)]; rfl
        have hv : ∀ kv ∈ acc, ∃ y a, kv = (.inr y, .ref a) ∧ (y, a) ∈ ns := fun kv h => by
          obtain ⟨i, hi, ei⟩ := List.mem_iff_getElem.mp h
          obtain ⟨e1, a, e2, e3⟩ := ha i kv (by rw [List.getElem?_eq_getElem hi, ei])
          exact ⟨_, a, Prod.ext e1 e2, e3⟩
        clear ha hl hH n6 D5 n5 cr hr
        have gen : ∀ (acc : List (Key × V)) (ys : List Str), acc.map (·.1) = ys.map Sum.inr → (∀ kv ∈ acc, ∃ y a, kv = (Sum.inr y, V.ref a) ∧ (y, a) ∈ ns) → ∃ ns' : List (Str × Addr), acc = nsK ns' ∧ ns'.map (·.1) = ys ∧ ∀ q ∈ ns', q ∈ ns := by
          intro acc
          induction acc with
          | nil =>
            intro ys hk _
            cases ys with
            | nil => exact ⟨[], rfl, rfl, fun _ h => nomatch h⟩
            | cons y ys => cases hk
          | cons kv acc ih =>
            intro ys hk hv
            cases ys with
            | nil => cases hk
            | cons y ys =>
              rw [List.map_cons, List.map_cons] at hk
              obtain ⟨h1, h2⟩ := List.cons.inj hk
              obtain ⟨ns', e1, e2, e3⟩ := ih ys h2 fun kv h => hv kv (List.mem_cons_of_mem _ h)
              obtain ⟨z, a, e4, e5⟩ := hv kv (List.mem_cons_self ..)
              subst e4
              cases h1
              refine ⟨(y, a) :: ns', by rw [e1]; rfl, by rw [List.map_cons, e2], fun q hq => ?_⟩
              rcases List.mem_cons.mp hq with rfl | hq
              · exact e5
              · exact e3 q hq
        exact gen acc ys hk hv
      refine ⟨_, rfl, x, _, dx, _, rfl, D5.at_, T.cls_Company, T.no_Company_own_nets, (show (0 : Nat) < 1000 by decide), ?_⟩
      refine ⟨_, rfl, _, rfl, x, _, dx, _, rfl, upd_same, T.cls_Company, T.no_Company_own_spread, (show (1 : Nat) < 1000 by decide), ?_⟩
      rw [upd_upd]
      have hrx : r ≠ x := fun z => by have := D5.at_; rw [← z, hH] at this; cases this
      have n7 := ((n6.pure (M := [x])).keep hH ((n2.back hr))).mutM (o := .ins 982 dx (putF (Str.ofString "own_spread") (.int s') (putF (Str.ofString "own_nets") (.ref r) []))) (by rw [upd_ne (Ne.symm hrx)]; exact D5.no) (List.mem_singleton_self x)
      have cx7 : (upd C5 r (.dK acc)) x = none := by rw [upd_ne (Ne.symm hrx)]; exact D5.no
      have up : Same (upd C5 r (.dK acc)) (upd (upd C5 r (.dK acc)) x (.ins 982 dx (comF r s'))) := same_upd cx7
      refine q _ _ _ n7 cx7 upd_same ⟨ok, dx, r, ns', upd_same, up _ _ (by rw [e1]; exact upd_same), by rw [e2]; exact py.trans pm, fun t ht => ?_⟩
      exact ((hN _ (e3 t ht)).le n7.le).le (Same.le up)
def sp_Company_spread (K : PySem.W.Frag) : Sp := fun vs H Q _ => ∃ C a W N s, Same C H ∧ vs = [.ref a] ∧ CompanyR C a W N s ∧ Q (.int s) H
theorem p_Company_spread (T : Txt K mg) : Pro P w K mg base 1 982 "spread" (sp_Company_spread K) := by
  refine mkPro (N := ["self"]) (ps := ["self"]) T.d_Company_spread T.cls_Company T.pr_Company_spread (fun _ _ _ _ _ _ us hl => match us, hl with | [_], _ => rfl) (by decide +kernel) (fun vs H Q E h => ?_) (fun cdv A outer s H vs Q E hr h => ?_)
  · obtain ⟨C, a, W, N, s', sc, rfl, ⟨ok, dx, d, ns, hA, hd, pm, hN⟩, q⟩ := h; rfl
  · obtain ⟨C, a, W, N, s', sc, rfl, ⟨ok, dx, d, ns, hA, hd, pm, hN⟩, q⟩ := h
    refine ⟨_, (pss_one (ps_ret (pe_fld (pv 0) rfl))), ?_⟩
    exact ⟨_, rfl, a, _, dx, _, _, rfl, sc _ _ hA, T.cls_Company, T.no_Company_own_spread, rfl, q⟩
def sp_Company_nets (K : PySem.W.Frag) : Sp := Gives fun vs C post => ∃ a W N s, vs = [.ref a] ∧ CompanyR C a W N s ∧ post = fun v C' => ∃ d, ∃ ns : List (Str × Addr), v = .ref d ∧ C d = none ∧ C' d = some (.dK (nsK ns)) ∧ (ns.map (·.1)).Perm W ∧ ∀ p ∈ ns, NetAt C' p.2 (N p.1)
theorem q_Company_nets (T : Txt K mg) : C8.Met P w K mg base 1 982 "nets" (sp_Company_nets K) [] := by
  refine mkMet (N := ["self"]) (ps := ["self"]) T.d_Company_nets T.cls_Company T.me_Company_nets (fun _ _ _ _ _ _ us hl => match us, hl with | [_], _ => rfl) (by decide +kernel) (fun vs H Q E h => ?_) (fun cdv A outer s H vs Q E hr h => ?_)
  · obtain ⟨C, post, sc, ⟨a, W, N, s', rfl, ⟨ok, dx, d, ns, hA, hd, pm, hN⟩, rfl⟩, q⟩ := h; rfl
  · obtain ⟨C, post, sc, ⟨a, W, N, s', rfl, ⟨ok, dx, d, ns, hA, hd, pm, hN⟩, rfl⟩, q⟩ := h
    refine ⟨_, (pss_one (ps_ret (pe_callTy call_dictD (by rfl) T.f_dict b_dict (pa_cons (pe_fld (pv 0) rfl) pa_nil)))), ?_⟩
    exact ⟨_, rfl, a, _, dx, _, _, rfl, sc _ _ hA, T.cls_Company, T.no_Company_own_nets, rfl, d, _, rfl, Same.rd sc hd, fun p hp => have n := Nx.new0 sc hp; q _ _ _ n ⟨p, ns, rfl, same_none sc hp, upd_same, pm, fun t ht => (hN t ht).le n.le⟩⟩
def sp_Company_net_of (K : PySem.W.Frag) : Sp := Gives fun vs C post => ∃ a W N s x, vs = [.ref a, .str x] ∧ CompanyR C a W N s ∧ x ∈ W ∧ post = fun v C' => ∃ b, v = .ref b ∧ NetAt C' b (N x)
theorem q_Company_net_of (T : Txt K mg) : C8.Met P w K mg base 1 982 "net_of" (sp_Company_net_of K) [] := by
  refine mkMet (N := ["self", "name"]) (ps := ["self", "name"]) T.d_Company_net_of T.cls_Company T.me_Company_net_of (fun _ _ _ _ _ _ us hl => match us, hl with | [_, _], _ => rfl) (by decide +kernel) (fun vs H Q E h => ?_) (fun cdv A outer s H vs Q E hr h => ?_)
  · obtain ⟨C, post, sc, ⟨a, W, N, s', x, rfl, ⟨ok, dx, d, ns, hA, hd, pm, hN⟩, hx, rfl⟩, q⟩ := h; rfl
  · obtain ⟨C, post, sc, ⟨a, W, N, s', x, rfl, ⟨ok, dx, d, ns, hA, hd, pm, hN⟩, hx, rfl⟩, q⟩ := h
    have hu := units1 hr
    refine ⟨_, (pss_cons (ps_if (PW.pt (pw_or (pt_not (pt_val (pe_callB call_isi1 (by rfl) T.f_isinstance b_isinstance (pa_cons (pv 1) (pa_cons (pe_bltn (v := .ty "str") (by rfl) T.f_str b_str rfl) pa_nil))))) (pw_or1 (pt_cmp (pc_dnotin hu (pv 1) (pe_fld (pv 0) rfl)) (by rfl))))) pss_never pss_nil)
      (pss_one (ps_ret (pe_dget hu (pe_fld (pv 0) rfl) (pv 1) (fun _ _ => rfl))))), ?_⟩
    obtain ⟨b, hb⟩ := ns_at pm hx
    have nd : (ns.map (·.1)).Nodup := pm.nodup_iff.mpr ok.nd
    have hg : DGet H d (.str x) (some (.ref b)) := .inl ⟨_, .inr x, Same.rd sc hd, rfl, (nsK_val nd hb).symm⟩
    have hA' := sc _ _ hA
    refine ⟨_, rfl, _, _, _, _, rfl, .base (.str x), k_str_str, _, rfl, iteF ⟨_, rfl, _, rfl, a, _, dx, _, _, rfl, hA', T.cls_Company, T.no_Company_own_nets, rfl, d, _, rfl, hg, _, rfl, iteF ?_⟩⟩
    exact ⟨_, rfl, a, _, dx, _, _, rfl, hA', T.cls_Company, T.no_Company_own_nets, rfl, _, rfl, d, _, rfl, hg, q _ _ _ (Nx.rfl sc) ⟨b, rfl, hN _ hb⟩⟩
def sp_Company_with_spread (K : PySem.W.Frag) : Sp := Gives fun vs C post => ∃ a W N s s', vs = [.ref a, .int s'] ∧ CompanyAt C a W N s ∧ 0 ≤ s' ∧ post = fun v C' => ∃ b, v = .ref b ∧ CompanyAt C' b W N s'
theorem q_Company_with_spread (T : Txt K mg) : C8.Met P w K mg base 5 982 "with_spread" (sp_Company_with_spread K) [] := by
  refine mkMet (N := ["self", "spread"]) (ps := ["self", "spread"]) T.d_Company_with_spread T.cls_Company T.me_Company_with_spread (fun _ _ _ _ _ _ us hl => match us, hl with | [_, _], _ => rfl) (by decide +kernel) (fun vs H Q E h => ?_) (fun cdv A outer s H vs Q E hr h => ?_)
  · obtain ⟨C, post, sc, ⟨a, W, N, s0, s', rfl, ⟨ok, dx, d, ns, hA, hd, pm, hN⟩, hs, rfl⟩, q⟩ := h; rfl
  · obtain ⟨C, post, sc, ⟨a, W, N, s0, s', rfl, ⟨ok, dx, d, ns, hA, hd, pm, hN⟩, hs, rfl⟩, q⟩ := h
    refine ⟨_, (pss_one (ps_ret (C8.pe_mk (m_Company T) hr (by decide) (by rfl) (pa_cons (pe_fld (pv 0) rfl) (pa_cons (pv 1) pa_nil))))), ?_⟩
    refine ⟨_, rfl, a, _, dx, _, _, rfl, sc _ _ hA, T.cls_Company, T.no_Company_own_nets, rfl, _, rfl, fun x dx hx hdx hne => ?_⟩
    refine ⟨C, x, dx, d, s', W, N, ?_, rfl, upd_same, same_none sc hx, ⟨ok.nd, ok.ne, ok.few, ok.nm, hs⟩, ⟨ns, hd, pm, hN⟩, fun C' H' o n cx hH hC => ⟨rfl, q _ _ _ (Nx.made sc hx hdx n hH) ⟨x, rfl, hC⟩⟩⟩
    exact (((Nx.rfl (M := []) sc).tmp hdx).mut (same_none sc hx) hx).ch
def sp_Company_contains (K : PySem.W.Frag) : Sp := fun vs H Q _ => ∃ C a W N s x, Same C H ∧ vs = [.ref a, .str x] ∧ CompanyR C a W N s ∧ x ∈ W ∧ Q (.bl true) H
theorem q_Company_contains (T : Txt K mg) : C8.Met P w K mg base 1 982 "__contains__" (sp_Company_contains K) [] := by
  refine mkMet (N := ["self", "value"]) (ps := ["self", "value"]) T.d_Company_contains T.cls_Company T.me_Company_contains (fun _ _ _ _ _ _ us hl => match us, hl with | [_, _], _ => rfl) (by decide +kernel) (fun vs H Q E h => ?_) (fun cdv A outer s H vs Q E hr h => ?_)
  · obtain ⟨C, a, W, N, s', x, sc, rfl, ⟨ok, dx, d, ns, hA, hd, pm, hN⟩, hx, q⟩ := h; rfl
  · obtain ⟨C, a, W, N, s', x, sc, rfl, ⟨ok, dx, d, ns, hA, hd, pm, hN⟩, hx, q⟩ := h
    have hu := units1 hr
    refine ⟨_, (pss_one (ps_ret (pe_and (pe_callB call_isi1 (by rfl) T.f_isinstance b_isinstance (pa_cons (pv 1) (pa_cons (pe_bltn (v := .ty "str") (by rfl) T.f_str b_str rfl) pa_nil))) (pe_one (pe_cmp (pc_din hu (pv 1) (pe_fld (pv 0) rfl)) (by rfl)))))), ?_⟩
    obtain ⟨b, hb⟩ := ns_at pm hx
    have nd : (ns.map (·.1)).Nodup := pm.nodup_iff.mpr ok.nd
    have hg : DGet H d (.str x) (some (.ref b)) := .inl ⟨_, .inr x, Same.rd sc hd, rfl, (nsK_val nd hb).symm⟩
    exact ⟨_, rfl, _, _, _, _, rfl, .base (.str x), k_str_str, _, rfl, iteT ⟨_, rfl, _, rfl, a, _, dx, _, _, rfl, sc _ _ hA, T.cls_Company, T.no_Company_own_nets, rfl, d, _, rfl, hg, q⟩⟩
def sp_Company_len (K : PySem.W.Frag) : Sp := fun vs H Q _ => ∃ C a W N s, Same C H ∧ vs = [.ref a] ∧ CompanyR C a W N s ∧ Q (.int W.length) H
theorem q_Company_len (T : Txt K mg) : C8.Met P w K mg base 1 982 "__len__" (sp_Company_len K) [] := by
  refine mkMet (N := ["self"]) (ps := ["self"]) T.d_Company_len T.cls_Company T.me_Company_len (fun _ _ _ _ _ _ us hl => match us, hl with | [_], _ => rfl) (by decide +kernel) (fun vs H Q E h => ?_) (fun cdv A outer s H vs Q E hr h => ?_)
  · obtain ⟨C, a, W, N, s', sc, rfl, ⟨ok, dx, d, ns, hA, hd, pm, hN⟩, q⟩ := h; rfl
  · obtain ⟨C, a, W, N, s', sc, rfl, ⟨ok, dx, d, ns, hA, hd, pm, hN⟩, q⟩ := h
    refine ⟨_, (pss_one (ps_ret (pe_callB call_lenR (by rfl) T.f_len b_len (pa_cons (pe_fld (pv 0) rfl) pa_nil)))), ?_⟩
    have wl : (nsK ns).length = W.length := by rw [nsK_len, ← pm.length_eq, List.length_map]
    refine ⟨_, rfl, a, _, dx, _, _, rfl, sc _ _ hA, T.cls_Company, T.no_Company_own_nets, rfl, d, _, rfl, Same.rd sc hd, ?_⟩
    rw [wl]
    exact q
def sp_want_company (K : PySem.W.Frag) : Sp := Pure fun vs C v => ∃ a W N s, vs = [.ref a] ∧ CompanyR C a W N s ∧ v = .non
theorem c_want_company (T : Txt K mg) : C8.Cal P w K mg base 1 "want_company" (sp_want_company K) [] := by
  refine mkCal (N := ["company"]) (ps := ["company"]) T.d_want_company T.g_want_company (fun _ _ _ _ _ _ us hl => match us, hl with | [_], _ => rfl) (by decide +kernel) (fun vs H Q E h => ?_) (fun cdv A outer s H vs Q E hr h => ?_)
  · obtain ⟨C, v, sc, ⟨a, W, N, s', rfl, ⟨ok, dx, d, ns, hA, hd, pm, hN⟩, rfl⟩, q⟩ := h; rfl
  · obtain ⟨C, v, sc, ⟨a, W, N, s', rfl, ⟨ok, dx, d, ns, hA, hd, pm, hN⟩, rfl⟩, q⟩ := h
    refine ⟨_, (pss_one (ps_if (pt_not (pt_val (pe_callB (C8.call_isC T.ins_Company) (by rfl) T.f_isinstance b_isinstance (pa_cons (pv 0) (pa_cons (C8.pe_gc (by rfl) (gRef T.g_Company)) pa_nil))))) pss_never pss_nil)), ?_⟩
    exact ⟨_, rfl, a, dx, _, rfl, sc _ _ hA, _, rfl, iteF (q _ _ (Nx.rfl sc))⟩
def sp_are_spots_of (K : PySem.W.Frag) : Sp := Pure fun vs C v => ∃ a d W N s p, vs = [.ref a, .ref d] ∧ CompanyR C a W N s ∧ SpotsAt C d W N p ∧ v = .bl true
theorem c_are_spots_of (T : Txt K mg) : C8.Cal P w K mg base 6 "are_spots_of" (sp_are_spots_of K) [] := by
  refine mkCal (N := ["company", "value", "name", "net"]) (ps := ["company", "value"]) T.d_are_spots_of T.g_are_spots_of (fun _ _ _ _ _ _ us hl => match us, hl with | [_, _], _ => rfl) (by decide +kernel) (fun vs H Q E h => ?_) (fun cdv A outer s H vs Q E hr h => ?_)
  · obtain ⟨C, v, sc, ⟨a, d, W, N, s', p, rfl, hC, hS, rfl⟩, q⟩ := h; rfl
  · obtain ⟨C, v, sc, ⟨a, d, W, N, s', p, rfl, hC, hS, rfl⟩, q⟩ := h
    have nd : (["company", "value", "name", "net"] : List Str).Nodup := by decide +kernel
    have hu := units1 hr
    refine ⟨_, (pss_cons (ps_if (PW.pt (pw_or (pt_not (pt_val (pe_callB call_isi1 (by rfl) T.f_isinstance b_isinstance (pa_cons (pv 1) (pa_cons (pe_bltn (v := .ty "dict") (by rfl) T.f_dict b_dict rfl) pa_nil))))) (pw_or1 (pt_cmpR op_ne (pe_callB call_lenR (by rfl) T.f_len b_len (pa_cons (pv 1) pa_nil)) (pe_callB (call_len_own (q_Company_len T) (hr.mono (by decide))) (by rfl) T.f_len b_len (pa_cons (pv 0) pa_nil)) (nomark _))))) (pss_one (ps_ret pe_bl)) pss_nil)
      (pss_one (ps_ret (pe_callB (cr_all rfl) (by rfl) T.f_all b_all (pa_cons (pe_lc (own := [("name", 2), ("net", 3)]) (by rfl) nd (pi_items (pe_frz (C8.pe_mt0 (q_Company_nets T) hr (by decide) (pv 0)))) (blkOk_by (own := [("name", 2), ("net", 3)]) (N := ["company", "value", "name", "net"]) (sc := C8.fnScope s_are_spots_of) (by decide +kernel)) (fun _ _ _ _ _ => (pg_tupK (K := K) (n := 2) rfl (by rfl) (pgs_cons (pg_name (i := 2) nd rfl (Or.inl rfl)) (pgs_cons (pg_name (i := 3) nd rfl (Or.inl rfl)) pgs_nil)))) (fun _ _ _ _ _ => pts_nil) (fun _ _ _ _ _ => (pe_and (pe_cmp (pc_din hu (pv 2) (pv 1)) (by rfl)) (pe_one (C8.pe_mt (q_Net_is_spot T) hr (by decide) (pv 3) (pa_cons (pe_dget hu (pv 1) (pv 2) (fun _ _ => rfl)) pa_nil)))))) pa_nil))))), ?_⟩
    obtain ⟨vs, hd, pm, hv⟩ := id hS
    have nd := hC.1.nd
    have wl : (vsK vs).length = W.length := by rw [vsK_len, ← pm.length_eq, List.length_map]
    have few := hC.1.few
    obtain ⟨ok, dx, dd, ns, hA, hdd, pmn, hN⟩ := id hC
    refine ⟨_, rfl, _, _, _, _, rfl, .base (.dK (sc _ _ hd)), k_dict_dict, _, rfl, iteF ⟨_, rfl, d, _, rfl, .inl (sc _ _ hd), _, rfl, a, dx, _, rfl, sc _ _ hA, C, a, W, N, s', sc, rfl, hC, _, rfl, by omega, by omega, rfl, false, ?_, iteF ?_⟩⟩
    · rw [wl]; simp
    refine ⟨_, rfl, a, dx, _, rfl, sc _ _ hA, rfl, C, _, sc, ⟨a, W, N, s', rfl, hC, rfl⟩, fun v C1 H1 a1 ⟨e, ns, ev, e0, e1, pm1, hN1⟩ => ?_⟩
    subst ev
    refine ⟨e, _, rfl, a1.ch _ _ e1, trivial, fun od => ⟨e, od, nsK ns, rfl, upd_same, ?_⟩⟩
    have n1 : Nx [] C H _ _ := a1.frz (od := od) e0 e1
    have nl : ns.length = W.length := by rw [← pm1.length_eq, List.length_map]
    refine lcTrue (M := []) walk_items n1.ch (fun _ h => nomatch h) (szK (by rw [nsK_len]; omega)) (fun C2 H2 n => n.ch _ _ (n.cc _ _ upd_same)) (fun i v C2 H2 H3 Z hi n y k => ?_) (fun p bs C2 H2 n hp ha => ⟨p, bs, rfl, .of hp, by rw [ha]; exact q _ _ (n1.trans n)⟩)
    obtain ⟨Tp, kk, u, rfl, hT, rfl, ek⟩ := itemsY y
    obtain ⟨x, b, hx, rfl, rfl, _⟩ := nsK_get ek
    have hxW := pm1.mem_iff.mp (List.mem_map.mpr ⟨_, hx, rfl⟩)
    refine ⟨Tp, _, rfl, .of upd_same, rfl, _, _, rfl, _, _, rfl, rfl, rfl, ?_⟩
    have n2 : Nx [] C2 H2 C2 (upd H2 Tp (.tup [kV (.inr x), .ref b])) := .tmp0 n.ch hT
    have n3 := (n1.trans n).trans n2
    have hS3 := hS.toR.le n3.le
    obtain ⟨sv, g, hsv, hhas⟩ := hS3.get nd hxW
    have hN3 := ((hN1 _ hx).le (Le.lock e1)).le n.le
    obtain ⟨dxn, l, ed, nn, hNA, _⟩ := hN3.ex
    exact ⟨_, rfl, _, rfl, d, _, rfl, g _ n3.ch, _, rfl, iteT ⟨_, rfl, b, dxn, _, rfl, n3.ch _ _ hNA, rfl, _, rfl, _, rfl, d, _, rfl, g _ n3.ch, C2, _, n3.ch, ⟨b, _, sv, _, rfl, hN3, hsv, hhas, rfl⟩, fun C4 H4 n4 => k C4 H4 (n2.trans n4)⟩⟩
end
end AbW

/-! ## W5 -/
set_option Elab.async false
set_option linter.all false
set_option maxRecDepth 100000
set_option maxHeartbeats 4000000
/-! W5: companies' spots and levels -/
namespace AbW
open PySem PySem.Spec PyProof.Rows L2 AbH AbR
def lvN (N : Str → NetD) (p : Str → Spot) (x : Str) : Int := (N x).lv (p x)
def FitsN (A : List Str) (N : Str → NetD) (p : Str → Spot) (s : Int) : Prop := ∀ i ∈ A, ∀ j ∈ A, lvN N p i - lvN N p j ≤ s
/-- the entries x: f x -/
def fxK (f : Str → Int) (xs : List Str) : List (Str × Int) := xs.map fun x => (x, f x)
theorem acc_fn {f : Str → Int} : ∀ {acc : List (Key × V)} {xs : List Str}, acc.map (·.1) = xs.map Sum.inr → (∀ kv ∈ acc, ∃ x, kv = (Sum.inr x, V.int (f x))) → acc = hsK (fxK f xs)
  | [], [], _, _ => rfl
  | [], _ :: _, h, _ => by cases h
  | _ :: _, [], h, _ => by cases h
  | kv :: acc, x :: xs, h, hv => by
    rw [List.map_cons, List.map_cons] at h
    obtain ⟨h1, h2⟩ := List.cons.inj h
    rw [acc_fn (f := f) h2 fun q hq => hv q (List.mem_cons_of_mem _ hq)]
    obtain ⟨y, e⟩ := hv kv (List.mem_cons_self ..)
    subst e
    cases h1
    rfl
theorem fxK_vals (f : Str → Int) (xs : List Str) : (hsK (fxK f xs)).map (·.2) = (xs.map f).map V.int := by
  unfold hsK fxK; rw [List.map_map, List.map_map, List.map_map]; rfl
/-- the greatest difference -/
def Exc (A : List Str) (f : Str → Int) (e : Int) : Prop := (∃ i ∈ A, ∃ j ∈ A, f i - f j = e) ∧ ∀ i ∈ A, ∀ j ∈ A, f i - f j ≤ e
theorem Exc.perm {A B : List Str} {f : Str → Int} {e : Int} (h : Exc A f e) (p : A.Perm B) : Exc B f e := by
  obtain ⟨⟨i, hi, j, hj, h1⟩, h2⟩ := h
  exact ⟨⟨i, p.mem_iff.mp hi, j, p.mem_iff.mp hj, h1⟩, fun i hi j hj => h2 i (p.mem_iff.mpr hi) j (p.mem_iff.mpr hj)⟩
theorem Exc.fits {A : List Str} {N : Str → NetD} {p : Str → Spot} {e s : Int} (h : Exc A (lvN N p) e) : e ≤ s ↔ FitsN A N p s := by
  obtain ⟨⟨i, hi, j, hj, h1⟩, h2⟩ := h
  constructor
  · intro h i hi j hj
    have := h2 i hi j hj
    omega
  · intro h
    have := h i hi j hj
    omega
section
variable {P : Program} {w : World} {K : PySem.W.Frag} {mg : Str → Option Value} {base : Heap}
def sp_levels_of (K : PySem.W.Frag) : Sp := Gives fun vs C post => ∃ a d W A N s p, vs = [.ref a, .ref d] ∧ CompanyR C a W N s ∧ SpotsAt C d A N p ∧ A.Nodup ∧ (∀ x ∈ A, x ∈ W) ∧ A.length ≤ 8 ∧ post = fun v C' => ∃ e xs, v = .ref e ∧ C e = none ∧ xs.Perm A ∧ C' e = some (.dK (hsK (fxK (lvN N p) xs)))
theorem c_levels_of (T : Txt K mg) : C8.Cal P w K mg base 7 "levels_of" (sp_levels_of K) [] := by
  refine mkCal (N := ["company", "spots", "name", "spot"]) (ps := ["company", "spots"]) T.d_levels_of T.g_levels_of (fun _ _ _ _ _ _ us hl => match us, hl with | [_, _], _ => rfl) (by decide +kernel) (fun vs H Q E h => ?_) (fun cdv A outer s H vs Q E hr h => ?_)
  · obtain ⟨C, post, sc, ⟨a, d, W, A', N, s', p, rfl, hC, ⟨vs, hd, pm, hv⟩, ndA, sub, few, rfl⟩, q⟩ := h; rfl
  · obtain ⟨C, post, sc, ⟨a, d, W, A', N, s', p, rfl, hC, ⟨vs, hd, pm, hv⟩, ndA, sub, few, rfl⟩, q⟩ := h
    have nd : (["company", "spots", "name", "spot"] : List Str).Nodup := by decide +kernel
    refine ⟨_, (pss_one (ps_ret (pe_lock (pe_dc (own := [("name", 2), ("spot", 3)]) (by rfl) nd (pi_items (pv 1)) (blkOk_by (own := [("name", 2), ("spot", 3)]) (N := ["company", "spots", "name", "spot"]) (sc := C8.fnScope s_levels_of) (by decide +kernel)) (fun _ _ _ _ _ => (pg_tupK (K := K) (n := 2) rfl (by rfl) (pgs_cons (pg_name (i := 2) nd rfl (Or.inl rfl)) (pgs_cons (pg_name (i := 3) nd rfl (Or.inl rfl)) pgs_nil)))) (fun _ _ _ _ _ => pts_nil) (fun _ _ _ _ _ => (pv 2)) (fun _ _ _ _ _ => (C8.pe_mt (q_Net_level_at T) hr (by decide) (C8.pe_mt (q_Company_net_of T) hr (by decide) (pv 0) (pa_cons (pv 2) pa_nil)) (pa_cons (pv 3) pa_nil))))))), ?_⟩
    have hD := sc _ _ hd
    refine ⟨d, _, hD, trivial, fun od => ⟨_, rfl, d, od, _, rfl, upd_same, ?_⟩⟩
    have wl : vs.length = A'.length := by rw [← pm.length_eq, List.length_map]
    have ndv := vsK_nd (pm.nodup_iff.mpr ndA)
    have sl : Same (upd C d (.frz od (.dK (vsK vs)))) (upd H d (.frz od (.dK (vsK vs)))) := same_updB sc
    refine dcMap (M := []) (Qd := fun D H' => H' d = some (.frz od (.dK (vsK vs))) ∧ Q (.ref D) (upd H' d (.dK (vsK vs)))) walk_items (kAt (vsK vs)) (fun i v _ => ∃ x, kAt (vsK vs) i = .inr x ∧ v = .int (lvN N p x)) (kAt_inj ndv) sl (fun _ h => nomatch h) (szK (by rw [vsK_len]; omega)) (fun C' H' n => n.hh d _ (fun z => nomatch z) upd_same) (fun _ _ _ _ _ h => h) (fun i z C' H' H4 Z hi n y k => ?_) (fun r acc C' H' n cr hr hH hal ha => ?_)
    · obtain ⟨Tp, kk, u, rfl, hT, rfl, ek⟩ := itemsY y
      obtain ⟨x, hx, rfl, _⟩ := vsK_get ek
      have hxA := pm.mem_iff.mp (List.mem_map.mpr ⟨_, hx, rfl⟩)
      refine ⟨Tp, _, rfl, .of upd_same, rfl, _, _, rfl, _, _, rfl, rfl, rfl, _, rfl, ?_⟩
      have n2 : Nx [] C' H' C' (upd H' Tp (.tup [kV (.inr x), u])) := .tmp0 n.ch hT
      have lk : Le C C' := (Le.lock hd).trans n.le
      obtain ⟨ok, dx, dd, ns, hA, _⟩ := hC.le lk
      refine ⟨_, rfl, a, dx, _, rfl, n2.ch _ _ hA, rfl, _, rfl, C', _, n2.ch, ⟨a, W, N, s', x, rfl, hC.le lk, sub x hxA, rfl⟩, fun v C5 H5 n5 ⟨b, ev, hb⟩ => ?_⟩
      subst ev
      obtain ⟨dxn, l, ed, nn, hNA, _⟩ := hb.ex
      have hsx := ((hv _ hx).1.le lk).le n5.le
      refine ⟨b, dxn, _, rfl, n5.ch _ _ hNA, rfl, _, rfl, C5, _, n5.ch, ⟨b, N x, u, p x, rfl, hb, hsx, (hv _ hx).2, rfl⟩, fun C6 H6 n6 => ?_⟩
      have k' := k _ C6 H6 (n2.trans (n5.trans n6)) ⟨x, kAt_of ek, rfl⟩
      rw [kAt_of ek] at k'
      exact k'
    · have hdf := n.hh d _ (fun z => nomatch z) (upd_same (H := H) (o := .frz od (.dK (vsK vs))))
      have hrd : r ≠ d := fun z => by rw [z, hdf] at hH; cases hH
      have hr0 : H r = none := by rw [upd_ne hrd] at hr; exact hr
      have n1 := n.unlock hd hD
      have n2 := n1.keep (by rw [upd_ne hrd]; exact hH) hr0
      have e : acc = hsK (fxK (lvN N p) (vs.map (·.1))) := by
        refine acc_fn ?_ fun kv h => ?_
        · rw [same_keys (by rw [hal]) fun i kv e => (ha i kv e).1, vsK_keys]
        · obtain ⟨i, hi, ei⟩ := List.mem_iff_getElem.mp h
          obtain ⟨e1, x, e2, e3⟩ := ha i kv (by rw [List.getElem?_eq_getElem hi, ei])
          exact ⟨x, Prod.ext (e1.trans e2) e3⟩
      exact ⟨hdf, q _ _ _ n2 ⟨r, _, rfl, same_none sc hr0, pm, by rw [← e]; exact upd_same⟩⟩
def sp_excess (K : PySem.W.Frag) : Sp := Gives fun vs C post => ∃ d f xs, vs = [.ref d] ∧ C d = some (.dK (hsK (fxK f xs))) ∧ xs ≠ [] ∧ post = fun v C' => ∃ e, v = .int e ∧ Exc xs f e
theorem c_excess (T : Txt K mg) : C8.Cal P w K mg base 1 "excess" (sp_excess K) [] := by
  refine mkCal (N := ["levels"]) (ps := ["levels"]) T.d_excess T.g_excess (fun _ _ _ _ _ _ us hl => match us, hl with | [_], _ => rfl) (by decide +kernel) (fun vs H Q E h => ?_) (fun cdv A outer s H vs Q E hr h => ?_)
  · obtain ⟨C, post, sc, ⟨d, f, xs, rfl, hd, hne, rfl⟩, q⟩ := h; rfl
  · obtain ⟨C, post, sc, ⟨d, f, xs, rfl, hd, hne, rfl⟩, q⟩ := h
    refine ⟨_, (pss_one (ps_ret (pe_op op_sub (pe_maxVals rfl (by rfl) T.f_max (pv 0)) (pe_minValsR rfl (by rfl) T.f_min (pv 0))))), ?_⟩
    have hD := sc _ _ hd
    have ne : xs.map f ≠ [] := fun z => hne (List.map_eq_nil_iff.mp z)
    refine ⟨_, rfl, d, _, _, rfl, .inl hD, fxK_vals f xs, ne, fun hi h1 h2 => ⟨_, rfl, d, _, _, rfl, .inl hD, fxK_vals f xs, ne, fun lo h3 h4 => ⟨_, _, rfl, rfl, q _ _ _ (Nx.rfl sc) ⟨_, rfl, ?_, fun i hi' j hj => ?_⟩⟩⟩⟩
    · obtain ⟨i, hi', e1⟩ := List.mem_map.mp h1
      obtain ⟨j, hj, e2⟩ := List.mem_map.mp h3
      exact ⟨i, hi', j, hj, by rw [e1, e2]⟩
    · have a1 := h2 _ (List.mem_map.mpr ⟨i, hi', rfl⟩)
      have a2 := h4 _ (List.mem_map.mpr ⟨j, hj, rfl⟩)
      omega
def sp_is_stand_of (K : PySem.W.Frag) : Sp := Gives fun vs C post => ∃ a d W N s p, vs = [.ref a, .ref d] ∧ CompanyR C a W N s ∧ SpotsAt C d W N p ∧ post = fun v _ => ∃ b, v = .bl b ∧ (b = true ↔ FitsN W N p s)
theorem c_is_stand_of (T : Txt K mg) : C8.Cal P w K mg base 8 "is_stand_of" (sp_is_stand_of K) [] := by
  refine mkCal (N := ["company", "value"]) (ps := ["company", "value"]) T.d_is_stand_of T.g_is_stand_of (fun _ _ _ _ _ _ us hl => match us, hl with | [_, _], _ => rfl) (by decide +kernel) (fun vs H Q E h => ?_) (fun cdv A outer s H vs Q E hr h => ?_)
  · obtain ⟨C, post, sc, ⟨a, d, W, N, s', p, rfl, hC, hS, rfl⟩, q⟩ := h; rfl
  · obtain ⟨C, post, sc, ⟨a, d, W, N, s', p, rfl, hC, hS, rfl⟩, q⟩ := h
    refine ⟨_, (pss_one (ps_ret (pe_and (C8.pe_c (c_are_spots_of T) hr (by decide) (by rfl) (pa_cons (pv 0) (pa_cons (pv 1) pa_nil))) (pe_one (pe_cmpR op_le (C8.pe_c (c_excess T) hr (by decide) (by rfl) (pa_cons (C8.pe_c (c_levels_of T) hr (by decide) (by rfl) (pa_cons (pv 0) (pa_cons (pv 1) pa_nil))) pa_nil)) (pe_pr (p_Company_spread T) hr (by decide) (pv 0)) (nomark _)))))), ?_⟩
    have ok := hC.1
    refine ⟨_, rfl, _, rfl, C, _, sc, ⟨a, d, W, N, s', p, rfl, hC, hS, rfl⟩, fun C1 H1 n1 => ⟨_, rfl, iteT ?_⟩⟩
    have hC1 := hC.le n1.le
    refine ⟨_, rfl, _, rfl, C1, _, n1.ch, ⟨a, d, W, W, N, s', p, rfl, hC1, hS.same n1.cc, ok.nd, fun _ h => h, ok.few, rfl⟩, fun v C2 H2 a2 ⟨e, xs, ev, _, pm, he⟩ => ?_⟩
    subst ev
    have n2 := n1.trans a2
    have ne : xs ≠ [] := fun z => ok.ne (by rw [z] at pm; exact List.nil_perm.mp pm)
    refine ⟨C2, _, a2.ch, ⟨e, _, xs, rfl, he, ne, rfl⟩, fun v C3 H3 a3 ⟨x, ev, hx⟩ => ?_⟩
    subst ev
    have n3 := n2.trans a3
    have hC3 := hC.le n3.le
    obtain ⟨_, dx, dd, ns, hA, _⟩ := id hC3
    refine ⟨_, rfl, a, dx, _, rfl, n3.ch _ _ hA, C3, a, W, N, s', n3.ch, rfl, hC3, _, _, rfl, rfl, q _ _ _ n3 ⟨_, rfl, ?_⟩⟩
    rw [decide_eq_true_eq]
    exact (hx.perm pm).fits
def sp_want_stand (K : PySem.W.Frag) : Sp := Pure fun vs C v => ∃ a d W N s p, vs = [.ref a, .ref d] ∧ CompanyR C a W N s ∧ SpotsAt C d W N p ∧ FitsN W N p s ∧ v = .non
theorem c_want_stand (T : Txt K mg) : C8.Cal P w K mg base 9 "want_stand" (sp_want_stand K) [] := by
  refine mkCal (N := ["company", "stand"]) (ps := ["company", "stand"]) T.d_want_stand T.g_want_stand (fun _ _ _ _ _ _ us hl => match us, hl with | [_, _], _ => rfl) (by decide +kernel) (fun vs H Q E h => ?_) (fun cdv A outer s H vs Q E hr h => ?_)
  · obtain ⟨C, v, sc, ⟨a, d, W, N, s', p, rfl, hC, hS, hf, rfl⟩, q⟩ := h; rfl
  · obtain ⟨C, v, sc, ⟨a, d, W, N, s', p, rfl, hC, hS, hf, rfl⟩, q⟩ := h
    refine ⟨_, (pss_one (ps_if (pt_not (pt_val (C8.pe_c (c_is_stand_of T) hr (by decide) (by rfl) (pa_cons (pv 0) (pa_cons (pv 1) pa_nil))))) pss_never pss_nil)), ?_⟩
    refine ⟨_, rfl, _, rfl, C, _, sc, ⟨a, d, W, N, s', p, rfl, hC, hS, rfl⟩, fun v C1 H1 n1 ⟨b, ev, hb⟩ => ?_⟩
    subst ev
    rw [hb.mpr hf]
    exact ⟨_, rfl, iteF (q _ _ n1)⟩
def sp_want_spots (K : PySem.W.Frag) : Sp := Pure fun vs C v => ∃ a d W N s p, vs = [.ref a, .ref d] ∧ CompanyR C a W N s ∧ SpotsAt C d W N p ∧ v = .non
theorem c_want_spots (T : Txt K mg) : C8.Cal P w K mg base 9 "want_spots" (sp_want_spots K) [] := by
  refine mkCal (N := ["company", "spots"]) (ps := ["company", "spots"]) T.d_want_spots T.g_want_spots (fun _ _ _ _ _ _ us hl => match us, hl with | [_, _], _ => rfl) (by decide +kernel) (fun vs H Q E h => ?_) (fun cdv A outer s H vs Q E hr h => ?_)
  · obtain ⟨C, v, sc, ⟨a, d, W, N, s', p, rfl, hC, hS, rfl⟩, q⟩ := h; rfl
  · obtain ⟨C, v, sc, ⟨a, d, W, N, s', p, rfl, hC, hS, rfl⟩, q⟩ := h
    refine ⟨_, (pss_one (ps_if (pt_not (pt_val (C8.pe_c (c_are_spots_of T) hr (by decide) (by rfl) (pa_cons (pv 0) (pa_cons (pv 1) pa_nil))))) pss_never pss_nil)), ?_⟩
    exact ⟨_, rfl, _, rfl, C, _, sc, ⟨a, d, W, N, s', p, rfl, hC, hS, rfl⟩, fun C1 H1 n1 => ⟨_, rfl, iteF (q _ _ n1)⟩⟩
def sp_are_places_of (K : PySem.W.Frag) : Sp := Pure fun vs C v => ∃ a d W A N s p, vs = [.ref a, .ref d] ∧ CompanyR C a W N s ∧ SpotsAt C d A N p ∧ A.Nodup ∧ (∀ x ∈ A, x ∈ W) ∧ A ≠ [] ∧ A.length ≤ 8 ∧ v = .bl true
theorem c_are_places_of (T : Txt K mg) : C8.Cal P w K mg base 7 "are_places_of" (sp_are_places_of K) [] := by
  refine mkCal (N := ["company", "value", "name"]) (ps := ["company", "value"]) T.d_are_places_of T.g_are_places_of (fun _ _ _ _ _ _ us hl => match us, hl with | [_, _], _ => rfl) (by decide +kernel) (fun vs H Q E h => ?_) (fun cdv A outer s H vs Q E hr h => ?_)
  · obtain ⟨C, v, sc, ⟨a, d, W, A', N, s', p, rfl, hC, hS, ndA, sub, ne, few, rfl⟩, q⟩ := h; rfl
  · obtain ⟨C, v, sc, ⟨a, d, W, A', N, s', p, rfl, hC, hS, ndA, sub, ne, few, rfl⟩, q⟩ := h
    have nd : (["company", "value", "name"] : List Str).Nodup := by decide +kernel
    have hu := units1 hr
    refine ⟨_, (pss_cons (ps_if (PW.pt (pw_or (pt_not (pt_val (pe_callB call_isi1 (by rfl) T.f_isinstance b_isinstance (pa_cons (pv 1) (pa_cons (pe_bltn (v := .ty "dict") (by rfl) T.f_dict b_dict rfl) pa_nil))))) (pw_or1 (pt_cmpR op_eq (pe_callB call_lenR (by rfl) T.f_len b_len (pa_cons (pv 1) pa_nil)) pe_int (nomark _))))) (pss_one (ps_ret pe_bl)) pss_nil)
      (pss_one (ps_ret (pe_callB (cr_all rfl) (by rfl) T.f_all b_all (pa_cons (pe_lock (pe_lc (own := [("name", 2)]) (by rfl) nd (pi_keys (pv 1)) (blkOk_by (own := [("name", 2)]) (N := ["company", "value", "name"]) (sc := C8.fnScope s_are_places_of) (by decide +kernel)) (fun _ _ _ _ _ => (pg_name (i := 2) nd rfl (Or.inl rfl))) (fun _ _ _ _ _ => pts_nil) (fun _ _ _ _ _ => (pe_and (pe_cmpR (op_in_own (q_Company_contains T) (hr.mono (by decide))) (pv 2) (pv 0) (by rfl)) (pe_one (C8.pe_mt (q_Net_is_spot T) hr (by decide) (C8.pe_mt (q_Company_net_of T) hr (by decide) (pv 0) (pa_cons (pv 2) pa_nil)) (pa_cons (pe_dget hu (pv 1) (pv 2) (fun _ _ => rfl)) pa_nil))))))) pa_nil))))), ?_⟩
    obtain ⟨vs, hd, pm, hv⟩ := id hS
    have wl : vs.length = A'.length := by rw [← pm.length_eq, List.length_map]
    have pos : 0 < A'.length := List.length_pos_iff.mpr ne
    refine ⟨_, rfl, _, _, _, _, rfl, .base (.dK (sc _ _ hd)), k_dict_dict, _, rfl, iteF ⟨_, rfl, d, _, rfl, .inl (sc _ _ hd), rfl, false, ?_, iteF ?_⟩⟩
    · rw [vsK_len]
      refine congrArg V.bl (decide_eq_false fun z => ?_)
      have := V.int.inj z
      omega
    refine lockTrue sc hd (szK (by rw [vsK_len]; omega)) rfl (fun od i k v C' H' Z e n k => ?_) (fun p bs C1 H1 n1 hp ha => ⟨p, bs, rfl, .of hp, ?_⟩)
    · obtain ⟨x, hx, rfl, _⟩ := vsK_get e
      have hxA := pm.mem_iff.mp (List.mem_map.mpr ⟨_, hx, rfl⟩)
      have lk : Le C C' := (Le.lock hd).trans n.le
      obtain ⟨ok, dx, dd, ns, hA, _⟩ := hC.le lk
      refine ⟨rfl, _, rfl, _, rfl, a, dx, _, rfl, n.ch _ _ hA, C', a, W, N, s', x, n.ch, rfl, hC.le lk, sub x hxA, _, rfl, _, rfl, iteT ⟨_, rfl, a, dx, _, rfl, n.ch _ _ hA, rfl, _, rfl, C', _, n.ch, ⟨a, W, N, s', x, rfl, hC.le lk, sub x hxA, rfl⟩, fun v C5 H5 n5 ⟨b, ev, hb⟩ => ?_⟩⟩
      subst ev
      obtain ⟨dxn, l, ed, nn, hNA, _⟩ := hb.ex
      obtain ⟨sv, g, hsv, hhas⟩ := ((hS.toR.le lk).le n5.le).get ndA hxA
      exact ⟨b, dxn, _, rfl, n5.ch _ _ hNA, rfl, _, rfl, _, rfl, d, _, rfl, g _ n5.ch, C5, _, n5.ch, ⟨b, _, sv, _, rfl, hb, hsv, hhas, rfl⟩, fun C6 H6 n6 => k C6 H6 (n5.trans n6)⟩
    · rw [ha]
      exact q _ _ n1
def sp_want_places (K : PySem.W.Frag) : Sp := Pure fun vs C v => ∃ a d W A N s p, vs = [.ref a, .ref d] ∧ CompanyR C a W N s ∧ SpotsAt C d A N p ∧ A.Nodup ∧ (∀ x ∈ A, x ∈ W) ∧ A ≠ [] ∧ A.length ≤ 8 ∧ v = .non
theorem c_want_places (T : Txt K mg) : C8.Cal P w K mg base 8 "want_places" (sp_want_places K) [] := by
  refine mkCal (N := ["company", "places"]) (ps := ["company", "places"]) T.d_want_places T.g_want_places (fun _ _ _ _ _ _ us hl => match us, hl with | [_, _], _ => rfl) (by decide +kernel) (fun vs H Q E h => ?_) (fun cdv A outer s H vs Q E hr h => ?_)
  · obtain ⟨C, v, sc, ⟨a, d, W, A', N, s', p, rfl, hC, hS, ndA, sub, ne, few, rfl⟩, q⟩ := h; rfl
  · obtain ⟨C, v, sc, ⟨a, d, W, A', N, s', p, rfl, hC, hS, ndA, sub, ne, few, rfl⟩, q⟩ := h
    refine ⟨_, (pss_one (ps_if (pt_not (pt_val (C8.pe_c (c_are_places_of T) hr (by decide) (by rfl) (pa_cons (pv 0) (pa_cons (pv 1) pa_nil))))) pss_never pss_nil)), ?_⟩
    exact ⟨_, rfl, _, rfl, C, _, sc, ⟨a, d, W, A', N, s', p, rfl, hC, hS, ndA, sub, ne, few, rfl⟩, fun C1 H1 n1 => ⟨_, rfl, iteF (q _ _ n1)⟩⟩
end
end AbW

/-! ## M3 -/
set_option Elab.async false
set_option linter.all false
set_option maxRecDepth 100000
set_option maxHeartbeats 4000000
/-! M3: nets as graphs of spots; nodes alone -/
namespace AbW
open PySem PySem.Spec PyProof.Rows L2 AbH AbR Ab
def NetD.on (m : NetD) (e : Str × Str) (h : Int) : Spot := if h = m.lev e.1 then .nd e.1 else if h = m.lev e.2 then .nd e.2 else .inn e.1 e.2 h
def NetD.flat (m : NetD) (u v : Spot) : Prop := ∃ e ∈ m.es, m.lev e.1 = m.lev e.2 ∧ ((u = .nd e.1 ∧ v = .nd e.2) ∨ (u = .nd e.2 ∧ v = .nd e.1))
def NetD.rise (m : NetD) (u v : Spot) : Prop := ∃ e ∈ m.es, ∃ h, m.lev e.1 ≤ h ∧ h + 1 ≤ m.lev e.2 ∧ u = m.on e h ∧ v = m.on e (h + 1)
def NetD.adj (m : NetD) (u v : Spot) : Prop := m.flat u v ∨ m.rise u v ∨ m.rise v u
section
variable {m : NetD} {e : Str × Str} {h : Int} {u v : Spot}
theorem lv_on (h1 : m.lev e.1 ≤ h) (h2 : h ≤ m.lev e.2) : m.lv (m.on e h) = h := by
  unfold NetD.on
  by_cases a : h = m.lev e.1
  · rw [if_pos a]; exact a.symm
  · rw [if_neg a]
    by_cases b : h = m.lev e.2
    · rw [if_pos b]; exact b.symm
    · rw [if_neg b]; rfl
theorem on_fst : m.on e (m.lev e.1) = .nd e.1 := by unfold NetD.on; rw [if_pos rfl]
theorem on_snd (h : m.lev e.1 ≠ m.lev e.2) : m.on e (m.lev e.2) = .nd e.2 := by unfold NetD.on; rw [if_neg (Ne.symm h), if_pos rfl]
theorem on_inn (h1 : m.lev e.1 < h) (h2 : h < m.lev e.2) : m.on e h = .inn e.1 e.2 h := by unfold NetD.on; rw [if_neg (by omega), if_neg (by omega)]
theorem has_on (ok : m.Ok) (he : e ∈ m.es) (h1 : m.lev e.1 ≤ h) (h2 : h ≤ m.lev e.2) : m.has (m.on e h) := by
  by_cases a : h = m.lev e.1
  · rw [a, on_fst]; exact (ok.ein e he).1
  · by_cases b : h = m.lev e.2
    · rw [b, on_snd (by omega)]; exact (ok.ein e he).2
    · rw [on_inn (by omega) (by omega)]
      exact ⟨he, by omega, by omega⟩
theorem flat_lv (a : m.flat u v) : m.lv v = m.lv u := by
  obtain ⟨e, _, h, ⟨rfl, rfl⟩ | ⟨rfl, rfl⟩⟩ := a
  · exact h.symm
  · exact h
theorem rise_lv (a : m.rise u v) : m.lv v = m.lv u + 1 := by
  obtain ⟨e, _, h, h1, h2, rfl, rfl⟩ := a
  rw [lv_on h1 (by omega), lv_on (by omega) h2]
theorem flat_symm (a : m.flat u v) : m.flat v u := by
  obtain ⟨e, he, h, a⟩ := a
  exact ⟨e, he, h, a.symm.imp (fun ⟨a, b⟩ => ⟨b, a⟩) (fun ⟨a, b⟩ => ⟨b, a⟩)⟩
theorem adj_symm (a : m.adj u v) : m.adj v u := by
  rcases a with a | a | a
  · exact .inl (flat_symm a)
  · exact .inr (.inr a)
  · exact .inr (.inl a)
theorem adj_near (a : m.adj u v) : m.lv v ≤ m.lv u + 1 := by
  rcases a with a | a | a
  · have := flat_lv a; omega
  · have := rise_lv a; omega
  · have := rise_lv a; omega
theorem flat_has (ok : m.Ok) (a : m.flat u v) : m.has v := by
  obtain ⟨e, he, h, ⟨rfl, rfl⟩ | ⟨rfl, rfl⟩⟩ := a
  · exact (ok.ein e he).2
  · exact (ok.ein e he).1
theorem rise_has (ok : m.Ok) (a : m.rise u v) : m.has u ∧ m.has v := by
  obtain ⟨e, he, h, h1, h2, rfl, rfl⟩ := a
  exact ⟨has_on ok he h1 (by omega), has_on ok he (by omega) h2⟩
theorem adj_has (ok : m.Ok) (a : m.adj u v) : m.has v := by
  rcases a with a | a | a
  · exact flat_has ok a
  · exact (rise_has ok a).2
  · exact (rise_has ok a).1
end
/-- the graph of the walkers' nets -/
def GN (N : Str → NetD) : Gr Str Spot where
  lv := fun i => (N i).lv
  adj := fun i => (N i).adj
  sym := adj_symm
  near := adj_near
/-- a convex set of levels -/
def Cvx (B : Int → Prop) : Prop := ∀ a b c, a ≤ b → b ≤ c → B a → B c → B b
theorem cvx_bt {lo hi : Int} : Cvx (Bt lo hi) := fun a b c h1 h2 ⟨h3, _⟩ ⟨_, h4⟩ => ⟨by omega, by omega⟩
theorem cvx_ge {lo : Int} : Cvx (Ge lo) := fun a b c h1 h2 h3 _ => by show lo ≤ b; have : lo ≤ a := h3; omega
theorem cvx_le {hi : Int} : Cvx (Ab.Le hi) := fun a b c h1 h2 _ h4 => by show b ≤ hi; have : c ≤ hi := h4; omega
theorem cvx_all : Cvx fun _ => True := fun _ _ _ _ _ _ _ => trivial
def beside : Spot → List Str
  | .nd x => [x]
  | .inn l u _ => [l, u]
/-- ways by nodes -/
inductive NR (m : NetD) (B : Int → Prop) : Str → Str → Prop
  | refl {x : Str} : B (m.lev x) → NR m B x x
  | step {x y z : Str} : B (m.lev x) → nbr m.es x y → NR m B y z → NR m B x z
theorem NR.fst {m : NetD} {B : Int → Prop} {x y : Str} (h : NR m B x y) : B (m.lev x) := by cases h <;> assumption
theorem NR.snoc {m : NetD} {B : Int → Prop} {x y z : Str} (h : NR m B x y) (n : nbr m.es y z) (b : B (m.lev z)) : NR m B x z := by
  induction h with
  | refl h => exact .step h n (.refl b)
  | step h n' _ ih => exact .step h n' (ih n)
/-- what the package's search finds -/
def Fnd (m : NetD) (B : Int → Prop) (p : Spot) (y : Str) : Prop := ∃ x ∈ beside p, B (m.lev x) ∧ NR m B x y
section
variable {N : Str → NetD} {i : Str} {B : Int → Prop} {p q : Spot} {x y : Str}
theorem edge_way (ok : (N i).Ok) (cv : Cvx B) {e : Str × Str} (he : e ∈ (N i).es) : ∀ (n : Nat) (h h' : Int), h' = h + n → (N i).lev e.1 ≤ h → h' ≤ (N i).lev e.2 → B h → B h' → Rc (GN N) i B ((N i).on e h) ((N i).on e h')
  | 0, h, h', eh, h1, h2, b, _ => by
    have : h' = h := by omega
    subst this
    exact .nil (by show B ((N i).lv _); rw [lv_on h1 h2]; exact b)
  | n + 1, h, h', eh, h1, h2, b, b' => by
    have b1 : B (h + 1) := cv h (h + 1) h' (by omega) (by omega) b b'
    refine .cons (by show B ((N i).lv _); rw [lv_on h1 (by omega)]; exact b) ?_ (edge_way ok cv he n (h + 1) h' (by omega) (by omega) h2 b1 b')
    exact .inr (.inl ⟨e, he, h, h1, by omega, rfl, rfl⟩)
theorem edge_any (ok : (N i).Ok) (cv : Cvx B) {e : Str × Str} (he : e ∈ (N i).es) {h h' : Int} (h1 : (N i).lev e.1 ≤ h) (h2 : h ≤ (N i).lev e.2) (h3 : (N i).lev e.1 ≤ h') (h4 : h' ≤ (N i).lev e.2) (b : B h) (b' : B h') : Rc (GN N) i B ((N i).on e h) ((N i).on e h') := by
  rcases Int.le_total h h' with l | l
  · exact edge_way ok cv he (h' - h).toNat h h' (by omega) h1 h4 b b'
  · exact (edge_way ok cv he (h - h').toNat h' h (by omega) h3 h2 b' b).symm
theorem lev_le (ok : (N i).Ok) {e : Str × Str} (he : e ∈ (N i).es) : (N i).lev e.1 ≤ (N i).lev e.2 := by
  have := ok.eor e he
  unfold ltSI at this
  by_cases h : (N i).lev e.1 = (N i).lev e.2
  · omega
  · rw [if_neg h] at this
    have := of_decide_eq_true this
    omega
theorem nbr_way (ok : (N i).Ok) (cv : Cvx B) (n : nbr (N i).es x y) (bx : B ((N i).lev x)) (by_ : B ((N i).lev y)) : Rc (GN N) i B (.nd x) (.nd y) := by
  have go : ∀ {a b : Str}, (a, b) ∈ (N i).es → B ((N i).lev a) → B ((N i).lev b) → Rc (GN N) i B (.nd a) (.nd b) := fun {a b} he ba bb => by
    have le : (N i).lev a ≤ (N i).lev b := lev_le ok he
    by_cases e : (N i).lev a = (N i).lev b
    · exact .cons ba (.inl ⟨_, he, e, .inl ⟨rfl, rfl⟩⟩) (.nil bb)
    · have := edge_any (N := N) (i := i) ok cv he (Int.le_refl _) le le (Int.le_refl _) ba bb
      rw [on_fst, on_snd e] at this
      exact this
  rcases n with h | h
  · exact go h bx by_
  · exact (go h by_ bx).symm
theorem NR.way (ok : (N i).Ok) (cv : Cvx B) (h : NR (N i) B x y) : Rc (GN N) i B (.nd x) (.nd y) := by
  induction h with
  | refl b => exact .nil b
  | step b n t ih => exact (nbr_way ok cv n b t.fst).trans ih
/-- from a spot to a node beside it -/
theorem beside_way (ok : (N i).Ok) (cv : Cvx B) (hp : (N i).has p) (bp : B ((N i).lv p)) (hx : x ∈ beside p) (bx : B ((N i).lev x)) : Rc (GN N) i B p (.nd x) := by
  cases p with
  | nd z =>
    have : x = z := List.mem_singleton.mp hx
    subst this
    exact .nil bp
  | inn l u h =>
    obtain ⟨he, h1, h2⟩ := hp
    have bp : B h := bp
    have e0 : (N i).on (l, u) h = .inn l u h := on_inn h1 h2
    rcases List.mem_cons.mp hx with rfl | hx
    · have := edge_any (N := N) (i := i) ok cv he (h := h) (h' := (N i).lev x) (by show _ ≤ _; exact Int.le_of_lt h1) (by show _ ≤ _; exact Int.le_of_lt h2) (Int.le_refl _) (by show (N i).lev x ≤ (N i).lev u; omega) bp bx
      rw [e0] at this
      rw [show (N i).on (x, u) ((N i).lev x) = .nd x from on_fst (e := (x, u))] at this
      exact this
    · have := List.mem_singleton.mp hx
      subst this
      have := edge_any (N := N) (i := i) ok cv he (h := h) (h' := (N i).lev x) (by show _ ≤ _; exact Int.le_of_lt h1) (by show _ ≤ _; exact Int.le_of_lt h2) (by show (N i).lev l ≤ (N i).lev x; omega) (Int.le_refl _) bp bx
      rw [e0] at this
      rw [show (N i).on (l, x) ((N i).lev x) = .nd x from on_snd (e := (l, x)) (by show (N i).lev l ≠ (N i).lev x; omega)] at this
      exact this
theorem beside_on {m : NetD} {e : Str × Str} {h : Int} (hx : x ∈ beside (m.on e h)) : x = e.1 ∨ x = e.2 := by
  unfold NetD.on at hx
  by_cases a : h = m.lev e.1
  · rw [if_pos a] at hx; exact .inl (List.mem_singleton.mp hx)
  · rw [if_neg a] at hx
    by_cases b : h = m.lev e.2
    · rw [if_pos b] at hx; exact .inr (List.mem_singleton.mp hx)
    · rw [if_neg b] at hx
      rcases List.mem_cons.mp hx with e | hx
      · exact .inl e
      · exact .inr (List.mem_singleton.mp hx)
theorem on_eq {m : NetD} {e : Str × Str} {h : Int} : (m.on e h = .nd e.1 ∧ h = m.lev e.1) ∨ (m.on e h = .nd e.2 ∧ h = m.lev e.2) ∨ m.on e h = .inn e.1 e.2 h := by
  unfold NetD.on
  by_cases a : h = m.lev e.1
  · rw [if_pos a]; exact .inl ⟨rfl, a⟩
  · rw [if_neg a]
    by_cases b : h = m.lev e.2
    · rw [if_pos b]; exact .inr (.inl ⟨rfl, b⟩)
    · rw [if_neg b]; exact .inr (.inr rfl)
/-- the two ends of a step on an edge -/
theorem adj_edge {m : NetD} (a : m.adj p q) : ∃ e ∈ m.es, (p = .nd e.1 ∨ p = .nd e.2 ∨ ∃ h, p = .inn e.1 e.2 h) ∧ (q = .nd e.1 ∨ q = .nd e.2 ∨ ∃ h, q = .inn e.1 e.2 h) := by
  have on3 : ∀ {e : Str × Str} {h : Int}, m.on e h = .nd e.1 ∨ m.on e h = .nd e.2 ∨ ∃ h', m.on e h = .inn e.1 e.2 h' := fun {e h} => by
    rcases on_eq (m := m) (e := e) (h := h) with h' | h' | h'
    · exact .inl h'.1
    · exact .inr (.inl h'.1)
    · exact .inr (.inr ⟨_, h'⟩)
  rcases a with ⟨e, he, _, ⟨rfl, rfl⟩ | ⟨rfl, rfl⟩⟩ | ⟨e, he, h, _, _, rfl, rfl⟩ | ⟨e, he, h, _, _, rfl, rfl⟩
  · exact ⟨e, he, .inl rfl, .inr (.inl rfl)⟩
  · exact ⟨e, he, .inr (.inl rfl), .inl rfl⟩
  · exact ⟨e, he, on3, on3⟩
  · exact ⟨e, he, on3, on3⟩
/-- a way leaves by a node beside, or stays within the edge -/
theorem leave (h : Rc (GN N) i B p q) : (∃ x ∈ beside p, B ((N i).lev x) ∧ Rc (GN N) i B (.nd x) q) ∨ ∃ l u h h', p = .inn l u h ∧ q = .inn l u h' := by
  induction h with
  | @nil p b =>
    cases p with
    | nd x => exact .inl ⟨x, List.mem_singleton_self x, b, .nil b⟩
    | inn l u h => exact .inr ⟨l, u, h, h, rfl, rfl⟩
  | @cons p v q b a r ih =>
    cases p with
    | nd x => exact .inl ⟨x, List.mem_singleton_self x, b, .cons b a r⟩
    | inn l u h =>
      obtain ⟨e, he, hp, hv⟩ := adj_edge a
      have hp : e = (l, u) := by
        rcases hp with hp | hp | ⟨h', hp⟩
        · cases hp
        · cases hp
        · cases hp; rfl
      subst hp
      rcases hv with rfl | rfl | ⟨h', rfl⟩
      · exact .inl ⟨l, List.mem_cons_self .., r.fst, r⟩
      · exact .inl ⟨u, List.mem_cons_of_mem _ (List.mem_singleton_self u), r.fst, r⟩
      · rcases ih with ⟨x, hx, bx, rx⟩ | ⟨l', u', k, k', e1, e2⟩
        · exact .inl ⟨x, hx, bx, rx⟩
        · cases e1
          exact .inr ⟨l, u, h, k', rfl, e2⟩
theorem NR.trans {m : NetD} {z : Str} (h : NR m B x y) (g : NR m B y z) : NR m B x z := by
  induction h with
  | refl _ => exact g
  | step b n _ ih => exact .step b n (ih g)
theorem fnd_of (h : Rc (GN N) i B p (.nd y)) : Fnd (N i) B p y := by
  generalize hq : Spot.nd y = q at h
  induction h with
  | @nil p b =>
    subst hq
    exact ⟨y, List.mem_singleton_self y, b, .refl b⟩
  | @cons p v q b a r ih =>
    obtain ⟨x, hx, bx, nx⟩ := ih hq
    obtain ⟨e, he, hp, hv⟩ := adj_edge a
    have hx' : x = e.1 ∨ x = e.2 := by
      rcases hv with rfl | rfl | ⟨h', rfl⟩
      · exact .inl (List.mem_singleton.mp hx)
      · exact .inr (List.mem_singleton.mp hx)
      · rcases List.mem_cons.mp hx with e | hx
        · exact .inl e
        · exact .inr (List.mem_singleton.mp hx)
    rcases hp with rfl | rfl | ⟨h', rfl⟩
    · refine ⟨e.1, List.mem_singleton_self _, b, ?_⟩
      rcases hx' with rfl | rfl
      · exact nx
      · exact .step b (.inl he) nx
    · refine ⟨e.2, List.mem_singleton_self _, b, ?_⟩
      rcases hx' with rfl | rfl
      · exact .step b (.inr he) nx
      · exact nx
    · rcases hx' with rfl | rfl
      · exact ⟨e.1, List.mem_cons_self .., bx, nx⟩
      · exact ⟨e.2, List.mem_cons_of_mem _ (List.mem_singleton_self _), bx, nx⟩
theorem fnd_iff (ok : (N i).Ok) (cv : Cvx B) (hp : (N i).has p) (bp : B ((N i).lv p)) : Fnd (N i) B p y ↔ Rc (GN N) i B p (.nd y) :=
  ⟨fun ⟨_, hx, bx, nx⟩ => (beside_way ok cv hp bp hx bx).trans (nx.way ok cv), fnd_of⟩
theorem rc_has (ok : (N i).Ok) (h : Rc (GN N) i B p q) : (N i).has p → (N i).has q := by
  induction h with
  | nil _ => exact id
  | cons _ a _ ih => exact fun _ => ih (adj_has ok a)
/-! the highest level from a spot, the lowest -/
def IsTop (N : Str → NetD) (i : Str) (p : Spot) (lo t : Int) : Prop := (∃ v, Rc (GN N) i (Ge lo) p v ∧ (N i).lv v = t) ∧ ∀ v, Rc (GN N) i (Ge lo) p v → (N i).lv v ≤ t
def IsDip (N : Str → NetD) (i : Str) (p : Spot) (hi t : Int) : Prop := (∃ v, Rc (GN N) i (Ab.Le hi) p v ∧ (N i).lv v = t) ∧ ∀ v, Rc (GN N) i (Ab.Le hi) p v → t ≤ (N i).lv v
theorem has_lv {m : NetD} {l u : Str} {h : Int} (hp : m.has (.inn l u h)) : m.lev l < h ∧ h < m.lev u := hp.2
theorem top_ne (ok : (N i).Ok) {lo : Int} (hp : (N i).has p) (bp : lo ≤ (N i).lv p) : ∃ y, Fnd (N i) (Ge lo) p y := by
  cases p with
  | nd x => exact ⟨x, x, List.mem_singleton_self x, bp, .refl bp⟩
  | inn l u h =>
    have : lo ≤ (N i).lev u := by have := (has_lv hp).2; have : lo ≤ h := bp; omega
    exact ⟨u, u, List.mem_cons_of_mem _ (List.mem_singleton_self u), this, .refl this⟩
theorem dip_ne (ok : (N i).Ok) {hi : Int} (hp : (N i).has p) (bp : (N i).lv p ≤ hi) : ∃ y, Fnd (N i) (Ab.Le hi) p y := by
  cases p with
  | nd x => exact ⟨x, x, List.mem_singleton_self x, bp, .refl bp⟩
  | inn l u h =>
    have : (N i).lev l ≤ hi := by have := (has_lv hp).1; have : h ≤ hi := bp; omega
    exact ⟨l, l, List.mem_cons_self .., this, .refl this⟩
theorem top_of_nodes (ok : (N i).Ok) {lo t : Int} (hp : (N i).has p) (bp : lo ≤ (N i).lv p) (h1 : ∃ y, Fnd (N i) (Ge lo) p y ∧ (N i).lev y = t) (h2 : ∀ y, Fnd (N i) (Ge lo) p y → (N i).lev y ≤ t) : IsTop N i p lo t := by
  obtain ⟨y, hy, e⟩ := h1
  refine ⟨⟨.nd y, (fnd_iff ok cvx_ge hp bp).mp hy, e⟩, fun v r => ?_⟩
  cases v with
  | nd z => exact h2 z ((fnd_iff ok cvx_ge hp bp).mpr r)
  | inn l u h =>
    have hv := rc_has ok r hp
    have h3 := has_lv hv
    have b : lo ≤ h := r.snd
    have r2 : Rc (GN N) i (Ge lo) (.inn l u h) (.nd u) := beside_way ok cvx_ge hv b (List.mem_cons_of_mem _ (List.mem_singleton_self u)) (by show lo ≤ _; omega)
    have := h2 u ((fnd_iff ok cvx_ge hp bp).mpr (r.trans r2))
    show h ≤ t
    omega
theorem dip_of_nodes (ok : (N i).Ok) {hi t : Int} (hp : (N i).has p) (bp : (N i).lv p ≤ hi) (h1 : ∃ y, Fnd (N i) (Ab.Le hi) p y ∧ (N i).lev y = t) (h2 : ∀ y, Fnd (N i) (Ab.Le hi) p y → t ≤ (N i).lev y) : IsDip N i p hi t := by
  obtain ⟨y, hy, e⟩ := h1
  refine ⟨⟨.nd y, (fnd_iff ok cvx_le hp bp).mp hy, e⟩, fun v r => ?_⟩
  cases v with
  | nd z => exact h2 z ((fnd_iff ok cvx_le hp bp).mpr r)
  | inn l u h =>
    have hv := rc_has ok r hp
    have h3 := has_lv hv
    have b : h ≤ hi := r.snd
    have r2 : Rc (GN N) i (Ab.Le hi) (.inn l u h) (.nd l) := beside_way ok cvx_le hv b (List.mem_cons_self ..) (by show _ ≤ hi; omega)
    have := h2 l ((fnd_iff ok cvx_le hp bp).mpr (r.trans r2))
    show t ≤ h
    omega
end
end AbW

/-! ## M4 -/
set_option Elab.async false
set_option linter.all false
set_option maxRecDepth 100000
set_option maxHeartbeats 4000000
/-! M4: bands, places, spreads: what the package's searches keep -/
namespace AbW
open PySem PySem.Spec PyProof.Rows L2 AbH AbR Ab
theorem has_b {m : NetD} (ok : m.Ok) {p : Spot} (h : m.has p) : 0 ≤ m.lv p ∧ m.lv p ≤ 5 := by
  cases p with
  | nd x => exact ok.lo x
  | inn l u k =>
    have h3 := has_lv h
    have h1 := ok.lo l
    have h2 := ok.lo u
    exact ⟨by show 0 ≤ k; omega, by show k ≤ 5; omega⟩
/-- the lowest of the tops; the greatest of the dips, less the spread -/
def IsLT (A : List Str) (N : Str → NetD) (p : Str → Spot) (lo t : Int) : Prop := (∃ i ∈ A, ∀ v, Rc (GN N) i (Ge lo) (p i) v → (N i).lv v ≤ t) ∧ ∀ i ∈ A, ∃ v, Rc (GN N) i (Ge lo) (p i) v ∧ t ≤ (N i).lv v
def IsGD (A : List Str) (N : Str → NetD) (s : Int) (p : Str → Spot) (hi t : Int) : Prop := (∃ i ∈ A, ∀ v, Rc (GN N) i (Ab.Le (hi + s)) (p i) v → t + s ≤ (N i).lv v) ∧ ∀ i ∈ A, ∃ v, Rc (GN N) i (Ab.Le (hi + s)) (p i) v ∧ (N i).lv v ≤ t + s
theorem lt_of {A : List Str} {N : Str → NetD} {p : Str → Spot} {lo t : Int} {f : Str → Int} (hf : ∀ i ∈ A, IsTop N i (p i) lo (f i)) (h1 : ∃ i ∈ A, f i = t) (h2 : ∀ i ∈ A, t ≤ f i) : IsLT A N p lo t := by
  obtain ⟨i, hi, e⟩ := h1
  refine ⟨⟨i, hi, fun v r => by have := (hf i hi).2 v r; omega⟩, fun j hj => ?_⟩
  obtain ⟨v, r, e⟩ := (hf j hj).1
  have := h2 j hj
  exact ⟨v, r, by omega⟩
theorem gd_of {A : List Str} {N : Str → NetD} {s : Int} {p : Str → Spot} {hi t : Int} {f : Str → Int} (hf : ∀ i ∈ A, IsDip N i (p i) (hi + s) (f i)) (h1 : ∃ i ∈ A, f i = t + s) (h2 : ∀ i ∈ A, f i ≤ t + s) : IsGD A N s p hi t := by
  obtain ⟨i, hi', e⟩ := h1
  refine ⟨⟨i, hi', fun v r => by have := (hf i hi').2 v r; omega⟩, fun j hj => ?_⟩
  obtain ⟨v, r, e⟩ := (hf j hj).1
  have := h2 j hj
  exact ⟨v, r, by omega⟩
section
variable {W A L : List Str} {N : Str → NetD} {s lo hi t : Int} {p q pl : Str → Spot}
theorem inv_up (hs : 0 ≤ s) (hA : ∃ i ∈ A, True) (sub : ∀ i ∈ A, i ∈ L) (J : Ab.Inv (GN N) L s (· ∈ A) pl lo hi) {t' : Int} (ht : IsLT A N pl lo t') (h1 : hi ≤ t) (h2 : t ≤ t') : Ab.Inv (GN N) L s (· ∈ A) pl lo t :=
  J.up hs h1 fun j _ hj => let ⟨v, r, h⟩ := ht.2 j hj; ⟨v, r, Int.le_trans h2 h⟩
theorem inv_lt (sub : ∀ i ∈ A, i ∈ L) (J : Ab.Inv (GN N) L s (· ∈ A) pl lo hi) (ht : IsLT A N pl lo t) : hi ≤ t := by
  obtain ⟨⟨i, hi', h⟩, _⟩ := ht
  obtain ⟨_, v, r, hv⟩ := J.tch i (sub i hi') hi'
  have h1 := h v (r.mono fun l hl => hl.1)
  have hv : hi ≤ (N i).lv v := hv
  omega
theorem inv_down (hs : 0 ≤ s) (sub : ∀ i ∈ A, i ∈ L) (J : Ab.Inv (GN N) L s (· ∈ A) pl lo hi) {t' : Int} (ht : IsGD A N s pl hi t') (h1 : t ≤ lo) (h2 : t' ≤ t) : Ab.Inv (GN N) L s (· ∈ A) pl t hi :=
  J.down hs h1 fun j _ hj => let ⟨v, r, h⟩ := ht.2 j hj; ⟨v, r, by show (N j).lv v ≤ t + s; omega⟩
theorem inv_gd (sub : ∀ i ∈ A, i ∈ L) (J : Ab.Inv (GN N) L s (· ∈ A) pl lo hi) (ht : IsGD A N s pl hi t) : t ≤ lo := by
  obtain ⟨⟨i, hi', h⟩, _⟩ := ht
  obtain ⟨⟨v, r, hv⟩, _⟩ := J.tch i (sub i hi') hi'
  have h1 := h v (r.mono fun l hl => hl.2)
  have hv : (N i).lv v ≤ lo + s := hv
  omega
theorem inv_lv (sub : ∀ i ∈ A, i ∈ L) (J : Ab.Inv (GN N) L s (· ∈ A) pl lo hi) : ∀ i ∈ A, lo ≤ (N i).lv (pl i) ∧ (N i).lv (pl i) ≤ hi + s := fun i hi' => by
  obtain ⟨⟨_, h, _⟩, _⟩ := J.tch i (sub i hi') hi'
  exact h.fst
theorem inv_all (J : Ab.Inv (GN N) W s (· ∈ W) p lo hi) : Ab.Inv (GN N) W s (fun _ => True) p lo hi := by
  refine ⟨J.le, fun j hj _ => J.tch j hj hj, fun r _ => ?_⟩
  obtain ⟨q, q1, q2, q3, q4⟩ := J.ext r fun k hk n => absurd hk n
  exact ⟨q, q1, fun j hj _ => q2 j hj hj, fun k _ n => absurd trivial n, q4⟩
theorem band_make (J : Ab.Inv (GN N) W s (· ∈ W) p lo hi) (hT : IsLT W N p lo hi) (hG : IsGD W N s p hi lo) : Band (GN N) W s p lo hi := ⟨inv_all J, hT.1, hG.1⟩
theorem band_uniq (hs : 0 ≤ s) (fp : Fits (GN N) W s p) {a b a' b' : Int} (B : Band (GN N) W s p a b) (B' : Band (GN N) W s p a' b') : a' = a ∧ b' = b := by
  have nest : ∀ {a b a' b' : Int}, Band (GN N) W s p a b → Band (GN N) W s p a' b' → a ≤ a' → a' = a ∧ b' = b := fun {a b a' b'} B B' h => by
    have hb : b' ≤ b := by
      obtain ⟨i, hi, h1⟩ := B.lid
      obtain ⟨_, v, r, hv⟩ := B'.inv.tch i hi trivial
      have := h1 v (r.mono fun l hl => Int.le_trans h hl.1)
      omega
    exact take_end hs (A := fun _ => True) (pl := p) fp B (.rfl') (fun _ _ _ => rfl) h hb (.inr (let ⟨i, hi, h1⟩ := B'.lid; ⟨i, hi, trivial, h1⟩)) (.inr (let ⟨i, hi, h1⟩ := B'.flo; ⟨i, hi, trivial, h1⟩)) fun j hj _ => B'.lv j hj
  rcases Int.le_total a a' with h | h
  · exact nest B B' h
  · have := nest B' B h
    exact ⟨this.1.symm, this.2.symm⟩
/-- the places can be taken -/
def Tk (N : Str → NetD) (W : List Str) (s : Int) (p : Str → Spot) (A : List Str) (pl : Str → Spot) : Prop := ∃ q, Cn (GN N) W s p q ∧ ∀ j ∈ A, q j = pl j
theorem tk_yes (fp : Fits (GN N) W s p) (sub : ∀ i ∈ A, i ∈ W) {a b : Int} (B : Band (GN N) W s p a b) (J : Ab.Inv (GN N) W s (· ∈ A) pl a b) (hj : ∀ j ∈ A, Rc (GN N) j (Bt a (b + s)) (p j) (pl j)) : Tk N W s p A pl := by
  obtain ⟨q, c, h⟩ := take_sound fp B J fun j _ ha => hj j ha
  exact ⟨q, c, fun j ha => h j (sub j ha) ha⟩
theorem tk_reach (hs : 0 ≤ s) (fp : Fits (GN N) W s p) (sub : ∀ i ∈ A, i ∈ W) {a b : Int} (B : Band (GN N) W s p a b) (t : Tk N W s p A pl) : ∀ j ∈ A, Rc (GN N) j (Bt a (b + s)) (p j) (pl j) := fun j hj => by
  obtain ⟨q, c, h⟩ := t
  have := B.stays hs fp c j (sub j hj)
  rw [h j hj] at this
  exact this
theorem tk_fits (fp : Fits (GN N) W s p) (sub : ∀ i ∈ A, i ∈ W) (t : Tk N W s p A pl) : Fits (GN N) A s pl := fun i hi j hj => by
  obtain ⟨q, c, h⟩ := t
  have := c.fits fp i (sub i hi) j (sub j hj)
  rw [h i hi, h j hj] at this
  exact this
theorem tk_end (hs : 0 ≤ s) (fp : Fits (GN N) W s p) (sub : ∀ i ∈ A, i ∈ W) {a b : Int} (B : Band (GN N) W s p a b) (h1 : a ≤ lo) (h2 : hi ≤ b) {t t' : Int} (hT : IsLT A N pl lo t) (eT : hi = t ∨ hi = b) (hG : IsGD A N s pl hi t') (eG : lo = t' ∨ lo = a)
    (hw : ∀ j ∈ A, lo ≤ (N j).lv (pl j) ∧ (N j).lv (pl j) ≤ hi + s) (tk : Tk N W s p A pl) : lo = a ∧ hi = b := by
  obtain ⟨q, c, h⟩ := tk
  refine take_end hs (A := (· ∈ A)) (pl := pl) fp B c (fun j _ hj => h j hj) h1 h2 ?_ ?_ fun j _ hj => hw j hj
  · rcases eT with rfl | e
    · obtain ⟨i, hi', h3⟩ := hT.1
      exact .inr ⟨i, sub i hi', hi', h3⟩
    · exact .inl e
  · rcases eG with rfl | e
    · obtain ⟨i, hi', h3⟩ := hG.1
      exact .inr ⟨i, sub i hi', hi', h3⟩
    · exact .inl e
/-! spreads -/
theorem tk_more {s' : Int} (hs : 0 ≤ s) (h : s ≤ s') (fp : Fits (GN N) W s p) (t : Tk N W s p A pl) : Tk N W s' p A pl := by
  obtain ⟨q, c, e⟩ := t
  exact ⟨q, c.more hs h fp, e⟩
theorem tk_joined (sub : ∀ i ∈ A, i ∈ W) (t : Tk N W s p A pl) : ∀ j ∈ A, Rc (GN N) j (fun _ => True) (p j) (pl j) := fun j hj => by
  obtain ⟨q, c, e⟩ := t
  have := c.joined j (sub j hj)
  rw [e j hj] at this
  exact this
theorem flat_zero {m : NetD} (ok : m.Ok) {c : Int} (h : ∀ x ∈ m.ks, m.lev x = c) {u v : Spot} (a : m.adj u v) : m.lv v = m.lv u := by
  have go : ∀ {u v : Spot}, m.rise u v → False := fun {u v} r => by
    obtain ⟨e, he, k, h1, h2, _, _⟩ := r
    have := h _ (ok.ein e he).1
    have := h _ (ok.ein e he).2
    omega
  rcases a with a | a | a
  · exact flat_lv a
  · exact (go a).elim
  · exact (go a).elim
theorem has_in {m : NetD} (ok : m.Ok) {lo hi : Int} (h : ∀ x ∈ m.ks, lo ≤ m.lev x ∧ m.lev x ≤ hi) {v : Spot} (hu : m.has v) : lo ≤ m.lv v ∧ m.lv v ≤ hi := by
  cases v with
  | nd x => exact h x hu
  | inn l u k =>
    have h3 := has_lv hu
    have h1 := h l (ok.ein _ hu.1).1
    have h2 := h u (ok.ein _ hu.1).2
    exact ⟨by show lo ≤ k; omega, by show k ≤ hi; omega⟩
/-- with the height as the spread each goes for itself -/
theorem tk_height (ok : ∀ i ∈ W, (N i).Ok) {lo hi : Int} (hl : lo ≤ hi) (hb : ∀ i ∈ W, ∀ x ∈ (N i).ks, lo ≤ (N i).lev x ∧ (N i).lev x ≤ hi) (hp : ∀ i ∈ W, (N i).has (p i)) (sub : ∀ i ∈ A, i ∈ W) (hj : ∀ j ∈ A, Rc (GN N) j (fun _ => True) (p j) (pl j)) : Tk N W (hi - lo) p A pl := by
  obtain ⟨q, hq⟩ : ∃ q : Str → Spot, ∀ i, (i ∈ A → q i = pl i) ∧ (i ∉ A → q i = p i) := ⟨fun i => if i ∈ A then pl i else p i, fun i => ⟨fun h => if_pos h, fun h => if_neg h⟩⟩
  have in_ : ∀ i ∈ W, ∀ u, (N i).has u → lo ≤ (N i).lv u ∧ (N i).lv u ≤ hi := fun i hi u hu => has_in (ok i hi) (hb i hi) hu
  refine ⟨q, wide_all (N := fun i u => (N i).has u) (fun i hi u v _ a => adj_has (ok i hi) a) (fun x hx i hi j hj => ?_) ?_ hp (fun i hi => ?_), fun j h => (hq j).1 h⟩
  · have a1 := in_ i hi _ (hx i hi)
    have a2 := in_ j hj _ (hx j hj)
    show (N i).lv (x i) - (N j).lv (x j) ≤ _
    omega
  · by_cases e : lo = hi
    · right
      intro i hi' u v _ a
      refine flat_zero (ok i hi') (c := lo) (fun x hx => ?_) a
      have := hb i hi' x hx
      omega
    · left; omega
  · by_cases h : i ∈ A
    · rw [(hq i).1 h]; exact hj i h
    · rw [(hq i).2 h]; exact .nil trivial
theorem fits_height (ok : ∀ i ∈ W, (N i).Ok) {lo hi : Int} (hb : ∀ i ∈ W, ∀ x ∈ (N i).ks, lo ≤ (N i).lev x ∧ (N i).lev x ≤ hi) (hp : ∀ i ∈ W, (N i).has (p i)) : Fits (GN N) W (hi - lo) p := fun i hi j hj => by
  have a1 := has_in (ok i hi) (hb i hi) (hp i hi)
  have a2 := has_in (ok j hj) (hb j hj) (hp j hj)
  show (N i).lv (p i) - (N j).lv (p j) ≤ _
  omega
end
end AbW

/-! ## W6 -/
set_option Elab.async false
set_option linter.all false
set_option maxRecDepth 100000
set_option maxHeartbeats 4000000
/-! W6: windows; what can be reached by nodes -/
namespace AbW
open PySem PySem.Spec PyProof.Rows L2 AbH AbR
theorem pi_keysF {X : Cx} {tg e : Expr} {td : TE} (he : PE X e td) : PI X tg e (iKeys (tFrz td)) := pi_keys (pe_frz he)
section
variable {P : Program} {w : World} {K : PySem.W.Frag} {mg : Str → Option Value} {base : Heap}
def sp_is_stand (K : PySem.W.Frag) : Sp := Gives fun vs C post => ∃ a d W N s p, vs = [.ref a, .ref d] ∧ CompanyR C a W N s ∧ SpotsAt C d W N p ∧ post = fun v _ => ∃ b, v = .bl b ∧ (b = true ↔ FitsN W N p s)
theorem c_is_stand (T : Txt K mg) : C8.Cal P w K mg base 9 "is_stand" (sp_is_stand K) [] := by
  refine mkCal (N := ["company", "value"]) (ps := ["company", "value"]) T.d_is_stand T.g_is_stand (fun _ _ _ _ _ _ us hl => match us, hl with | [_, _], _ => rfl) (by decide +kernel) (fun vs H Q E h => ?_) (fun cdv A outer s H vs Q E hr h => ?_)
  · obtain ⟨C, post, sc, ⟨a, d, W, N, s', p, rfl, hC, hS, rfl⟩, q⟩ := h; rfl
  · obtain ⟨C, post, sc, ⟨a, d, W, N, s', p, rfl, hC, hS, rfl⟩, q⟩ := h
    refine ⟨_, (pss_cons (ps_expr (C8.pe_c (c_want_company T) hr (by decide) (by rfl) (pa_cons (pv 0) pa_nil)))
      (pss_one (ps_ret (C8.pe_c (c_is_stand_of T) hr (by decide) (by rfl) (pa_cons (pv 0) (pa_cons (pv 1) pa_nil)))))), ?_⟩
    refine ⟨_, rfl, C, _, sc, ⟨a, W, N, s', rfl, hC, rfl⟩, fun C1 H1 n1 => ⟨_, rfl, _, rfl, C1, _, n1.ch, ⟨a, d, W, N, s', p, rfl, hC.le n1.le, hS.same n1.cc, rfl⟩, fun v C2 H2 n2 h => q _ _ _ (n1.trans n2) h⟩⟩
def sp_want_both (K : PySem.W.Frag) : Sp := Pure fun vs C v => ∃ a d W N s p, vs = [.ref a, .ref d] ∧ CompanyR C a W N s ∧ SpotsAt C d W N p ∧ FitsN W N p s ∧ v = .non
theorem c_want_both (T : Txt K mg) : C8.Cal P w K mg base 10 "want_both" (sp_want_both K) [] := by
  refine mkCal (N := ["company", "stand"]) (ps := ["company", "stand"]) T.d_want_both T.g_want_both (fun _ _ _ _ _ _ us hl => match us, hl with | [_, _], _ => rfl) (by decide +kernel) (fun vs H Q E h => ?_) (fun cdv A outer s H vs Q E hr h => ?_)
  · obtain ⟨C, v, sc, ⟨a, d, W, N, s', p, rfl, hC, hS, hf, rfl⟩, q⟩ := h; rfl
  · obtain ⟨C, v, sc, ⟨a, d, W, N, s', p, rfl, hC, hS, hf, rfl⟩, q⟩ := h
    refine ⟨_, (pss_cons (ps_expr (C8.pe_c (c_want_company T) hr (by decide) (by rfl) (pa_cons (pv 0) pa_nil)))
      (pss_one (ps_expr (C8.pe_c (c_want_stand T) hr (by decide) (by rfl) (pa_cons (pv 0) (pa_cons (pv 1) pa_nil)))))), ?_⟩
    refine ⟨_, rfl, C, _, sc, ⟨a, W, N, s', rfl, hC, rfl⟩, fun C1 H1 n1 => ⟨_, rfl, _, rfl, C1, _, n1.ch, ⟨a, d, W, N, s', p, rfl, hC.le n1.le, hS.same n1.cc, hf, rfl⟩, fun C2 H2 n2 => q _ _ (n1.trans n2)⟩⟩
/-- the window of a stand: from the highest less the spread to the lowest -/
def IsWin (W : List Str) (N : Str → NetD) (s : Int) (p : Str → Spot) (lo hi : Int) : Prop := ((∃ i ∈ W, lvN N p i = lo + s) ∧ ∀ i ∈ W, lvN N p i ≤ lo + s) ∧ ((∃ i ∈ W, lvN N p i = hi) ∧ ∀ i ∈ W, hi ≤ lvN N p i)
def sp_windows (K : PySem.W.Frag) : Sp := Gives fun vs C post => ∃ a d W N s p, vs = [.ref a, .ref d] ∧ CompanyR C a W N s ∧ SpotsAt C d W N p ∧ FitsN W N p s ∧ post = fun v C' => ∃ b lo hi, v = .ref b ∧ SpanAt C' b lo hi ∧ IsWin W N s p lo hi
theorem c_windows (T : Txt K mg) : C8.Cal P w K mg base 11 "windows" (sp_windows K) [] := by
  refine mkCal (N := ["company", "stand", "levels"]) (ps := ["company", "stand"]) T.d_windows T.g_windows (fun _ _ _ _ _ _ us hl => match us, hl with | [_, _], _ => rfl) (by decide +kernel) (fun vs H Q E h => ?_) (fun cdv A outer s H vs Q E hr h => ?_)
  · obtain ⟨C, post, sc, ⟨a, d, W, N, s', p, rfl, hC, hS, hf, rfl⟩, q⟩ := h; rfl
  · obtain ⟨C, post, sc, ⟨a, d, W, N, s', p, rfl, hC, hS, hf, rfl⟩, q⟩ := h
    have nd : (["company", "stand", "levels"] : List Str).Nodup := by decide +kernel
    refine ⟨_, (pss_cons (ps_expr (C8.pe_c (c_want_both T) hr (by decide) (by rfl) (pa_cons (pv 0) (pa_cons (pv 1) pa_nil))))
      (pss_cons (ps_set (i := 2) nd rfl (Or.inl rfl) (pe_listVals rfl (C8.pe_c (c_levels_of T) hr (by decide) (by rfl) (pa_cons (pv 0) (pa_cons (pv 1) pa_nil))) (by rfl) T.f_list b_list))
      (pss_one (ps_ret (C8.pe_mk (m_Span T) hr (by decide) (by rfl) (pa_cons (pe_op op_sub (pe_callB (cr_max rfl) (by rfl) T.f_max b_max (pa_cons (pv 2) pa_nil)) (pe_pr (p_Company_spread T) hr (by decide) (pv 0))) (pa_cons (pe_callB (cr_min rfl) (by rfl) T.f_min b_min (pa_cons (pv 2) pa_nil)) pa_nil))))))), ?_⟩
    have ok := hC.1
    refine ⟨_, rfl, _, rfl, C, _, sc, ⟨a, d, W, N, s', p, rfl, hC, hS, hf, rfl⟩, fun C1 H1 n1 => ?_⟩
    refine ⟨_, rfl, _, rfl, C1, _, n1.ch, ⟨a, d, W, W, N, s', p, rfl, hC.le n1.le, hS.same n1.cc, ok.nd, fun _ h => h, ok.few, rfl⟩, fun v C2 H2 a2 ⟨e, xs, ev, _, pm, he⟩ => ?_⟩
    subst ev
    have n2 := n1.trans a2
    refine ⟨e, _, rfl, a2.ch _ _ he, fun l hl => ?_⟩
    have n3 := n2.new (o := .lst ((hsK (fxK (lvN N p) xs)).map (·.2))) hl
    have ne : 0 < (xs.map (lvN N p)).length := by
      rw [List.length_map, pm.length_eq]; exact List.length_pos_iff.mpr ok.ne
    have hseq : ∀ {H : Hp}, H l = some (.lst ((hsK (fxK (lvN N p) xs)).map (·.2))) → SqL K H l ((xs.map (lvN N p)).map V.int) := fun h => by rw [← fxK_vals]; exact .of h
    refine ⟨_, rfl, l, _, rfl, hseq upd_same, ne, fun mx m1 m2 => ?_⟩
    have hC3 := hC.le n3.le
    obtain ⟨_, dx, dd, ns, hA, _⟩ := id hC3
    refine ⟨_, rfl, a, dx, _, rfl, n3.ch _ _ hA, _, a, W, N, s', n3.ch, rfl, hC3, _, _, rfl, rfl, ?_⟩
    refine ⟨_, rfl, l, _, rfl, hseq upd_same, ne, fun mn k1 k2 => ?_⟩
    refine fun x dx hx hdx hne => ⟨x, dx, mx - s', mn, rfl, upd_same, ?_, rfl, q _ _ _ (n3.span hx hdx hne) ⟨x, mx - s', mn, rfl, ⟨dx, upd_same⟩, ⟨?_, fun i hi => ?_⟩, ?_, fun i hi => ?_⟩⟩
    · obtain ⟨i, hi, e1⟩ := List.mem_map.mp m1
      obtain ⟨j, hj, e2⟩ := List.mem_map.mp k1
      have := hf i (pm.mem_iff.mp hi) j (pm.mem_iff.mp hj)
      omega
    · obtain ⟨i, hi, e1⟩ := List.mem_map.mp m1
      exact ⟨i, pm.mem_iff.mp hi, by omega⟩
    · have := m2 _ (List.mem_map.mpr ⟨i, pm.mem_iff.mpr hi, rfl⟩)
      omega
    · obtain ⟨j, hj, e2⟩ := List.mem_map.mp k1
      exact ⟨j, pm.mem_iff.mp hj, e2⟩
    · exact k2 _ (List.mem_map.mpr ⟨i, pm.mem_iff.mpr hi, rfl⟩)
def sp_wide_span (K : PySem.W.Frag) : Sp := Gives fun vs C post => ∃ a b W N s lo hi, vs = [.ref a, .ref b] ∧ CompanyR C a W N s ∧ SpanAt C b lo hi ∧ lo ≤ hi ∧ post = fun v C' => ∃ c, v = .ref c ∧ SpanAt C' c lo (hi + s)
theorem c_wide_span (T : Txt K mg) : C8.Cal P w K mg base 5 "wide_span" (sp_wide_span K) [] := by
  refine mkCal (N := ["company", "span"]) (ps := ["company", "span"]) T.d_wide_span T.g_wide_span (fun _ _ _ _ _ _ us hl => match us, hl with | [_, _], _ => rfl) (by decide +kernel) (fun vs H Q E h => ?_) (fun cdv A outer s H vs Q E hr h => ?_)
  · obtain ⟨C, post, sc, ⟨a, b, W, N, s', lo, hi, rfl, hC, hS, hl, rfl⟩, q⟩ := h; rfl
  · obtain ⟨C, post, sc, ⟨a, b, W, N, s', lo, hi, rfl, hC, hS, hl, rfl⟩, q⟩ := h
    refine ⟨_, (pss_one (ps_ret (C8.pe_mk (m_Span T) hr (by decide) (by rfl) (pa_cons (pe_pr (p_Span_low T) hr (by decide) (pv 1)) (pa_cons (pe_op op_add (pe_pr (p_Span_high T) hr (by decide) (pv 1)) (pe_pr (p_Company_spread T) hr (by decide) (pv 0))) pa_nil))))), ?_⟩
    obtain ⟨dxs, hb⟩ := hS
    have hb' := sc _ _ hb
    have s0 := hC.1.s0
    obtain ⟨_, dx, dd, ns, hA, _⟩ := id hC
    refine ⟨_, rfl, b, dxs, _, rfl, hb', b, lo, hi, rfl, ⟨dxs, hb'⟩, _, rfl, b, dxs, _, rfl, hb', b, lo, hi, rfl, ⟨dxs, hb'⟩, _, rfl, a, dx, _, rfl, sc _ _ hA, C, a, W, N, s', sc, rfl, hC, _, _, rfl, rfl, ?_⟩
    exact fun x dx hx hdx hne => ⟨x, dx, lo, hi + s', rfl, upd_same, by omega, rfl, q _ _ _ ((Nx.rfl sc).span hx hdx hne) ⟨x, rfl, dx, upd_same⟩⟩
def oV : Option Int → V
  | none => .non
  | some i => .int i
def inB (lo hi : Option Int) (l : Int) : Bool := (match lo with | none => true | some a => decide (a ≤ l)) && (match hi with | none => true | some b => decide (l ≤ b))
def sp_lies_in (K : PySem.W.Frag) : Sp := fun vs H Q _ => ∃ l lo hi, vs = [.int l, oV lo, oV hi] ∧ Q (.bl (inB lo hi l)) H
theorem c_lies_in (T : Txt K mg) : C8.Cal P w K mg base 1 "lies_in" (sp_lies_in K) [] := by
  refine mkCal (N := ["level", "low", "high"]) (ps := ["level", "low", "high"]) T.d_lies_in T.g_lies_in (fun _ _ _ _ _ _ us hl => match us, hl with | [_, _, _], _ => rfl) (by decide +kernel) (fun vs H Q E h => ?_) (fun cdv A outer s H vs Q E hr h => ?_)
  · obtain ⟨l, lo, hi, rfl, q⟩ := h; rfl
  · obtain ⟨l, lo, hi, rfl, q⟩ := h
    refine ⟨_, (pss_one (ps_ret (pe_and (pe_or (pe_cmpR op_isN (pv 1) pe_non (nomark _)) (pe_one (pe_cmpR op_ge (pv 0) (pv 1) (nomark _)))) (pe_one (pe_or (pe_cmpR op_isN (pv 2) pe_non (nomark _)) (pe_one (pe_cmpR op_le (pv 0) (pv 2) (nomark _)))))))), ?_⟩
    cases lo with
    | none =>
      refine ⟨_, rfl, rfl, true, rfl, iteT ⟨true, rfl, iteT ?_⟩⟩
      cases hi with
      | none => exact ⟨_, rfl, rfl, true, rfl, iteT q⟩
      | some b => exact ⟨_, rfl, rfl, false, rfl, iteF ⟨_, rfl, _, rfl, _, _, rfl, rfl, q⟩⟩
    | some a =>
      refine ⟨_, rfl, rfl, false, rfl, iteF ⟨_, rfl, _, rfl, _, _, rfl, rfl, decide (a ≤ l), rfl, ?_⟩⟩
      by_cases h : a ≤ l
      · refine iteP h ?_
        have e : inB (some a) hi l = inB none hi l := by simp [inB, h]
        rw [e] at q
        cases hi with
        | none => exact ⟨_, rfl, rfl, true, rfl, iteT q⟩
        | some b => exact ⟨_, rfl, rfl, false, rfl, iteF ⟨_, rfl, _, rfl, _, _, rfl, rfl, q⟩⟩
      · refine iteQ h ?_
        have e : inB (some a) hi l = false := by simp [inB, h]
        rw [e] at q
        exact q
def sp_nodes_beside (K : PySem.W.Frag) : Sp := Gives fun vs C post => ∃ x p, vs = [x] ∧ SpotV C x p ∧ post = fun v C' => ∃ l, v = .ref l ∧ C' l = some (.lst ((beside p).map V.str))
theorem c_nodes_beside (T : Txt K mg) : C8.Cal P w K mg base 1 "nodes_beside" (sp_nodes_beside K) [] := by
  refine mkCal (N := ["spot"]) (ps := ["spot"]) T.d_nodes_beside T.g_nodes_beside (fun _ _ _ _ _ _ us hl => match us, hl with | [_], _ => rfl) (by decide +kernel) (fun vs H Q E h => ?_) (fun cdv A outer s H vs Q E hr h => ?_)
  · obtain ⟨C, post, sc, ⟨x, p, rfl, hx, rfl⟩, q⟩ := h; rfl
  · obtain ⟨C, post, sc, ⟨x, p, rfl, hx, rfl⟩, q⟩ := h
    refine ⟨_, (pss_one (ps_ret (pe_ifExp (pt_val (pe_callB call_isi1 (by rfl) T.f_isinstance b_isinstance (pa_cons (pv 0) (pa_cons (pe_bltn (v := .ty "str") (by rfl) T.f_str b_str rfl) pa_nil)))) (pe_lst (pa_cons (pv 0) pa_nil)) (pe_lst (pa_cons (pe_ix ix_tup (pv 0) pe_int (fun _ _ => rfl)) (pa_cons (pe_ix ix_tup (pv 0) pe_int (fun _ _ => rfl)) pa_nil)))))), ?_⟩
    cases p with
    | nd y =>
      cases hx
      exact ⟨_, rfl, _, _, _, _, rfl, .base (.str y), k_str_str, _, rfl, iteT ⟨_, rfl, sz1, fun l hl => q _ _ _ (.new0 sc hl) ⟨l, rfl, upd_same⟩⟩⟩
    | inn a b h =>
      obtain ⟨t, rfl, ht⟩ := hx
      have hT := sc _ _ ht
      exact ⟨_, rfl, _, _, _, _, rfl, .base (.tup hT), k_tuple_str, _, rfl, iteF ⟨_, rfl, t, _, _, _, rfl, rfl, .of hT, rfl, _, rfl, t, _, _, _, rfl, rfl, .of hT, rfl, sz2, fun l hl => q _ _ _ (.new0 sc hl) ⟨l, rfl, upd_same⟩⟩⟩
end
end AbW

/-! ## W7 -/
set_option Elab.async false
set_option linter.all false
set_option maxRecDepth 100000
set_option maxHeartbeats 4000000
/-! W7: some of a company; the nodes that a walker can reach -/
namespace AbW
open PySem PySem.Spec PyProof.Rows L2 AbH AbR
theorem acc_vs {f : Str → V} : ∀ {acc : List (Key × V)} {xs : List Str}, acc.map (·.1) = xs.map Sum.inr → (∀ kv ∈ acc, ∃ x, kv = (Sum.inr x, f x)) → acc = vsK (xs.map fun x => (x, f x))
  | [], [], _, _ => rfl
  | [], _ :: _, h, _ => by cases h
  | _ :: _, [], h, _ => by cases h
  | kv :: acc, x :: xs, h, hv => by
    rw [List.map_cons, List.map_cons] at h
    obtain ⟨h1, h2⟩ := List.cons.inj h
    rw [acc_vs (f := f) h2 fun q hq => hv q (List.mem_cons_of_mem _ hq)]
    obtain ⟨y, e⟩ := hv kv (List.mem_cons_self ..)
    subst e
    cases h1
    rfl
theorem keys_of {acc : List (Key × V)} {ys : List Str} (hl : acc.length = ys.length) (h : ∀ (i : Nat) (kv : Key × V), acc[i]? = some kv → kv.1 = .inr (ys.getD i "")) : acc.map (·.1) = ys.map Sum.inr := by
  refine List.ext_getElem? fun i => ?_
  rw [List.getElem?_map, List.getElem?_map]
  by_cases hi : i < ys.length
  · have h' : i < acc.length := by omega
    have e1 := h i _ (List.getElem?_eq_getElem h')
    rw [List.getD_eq_getElem?_getD, List.getElem?_eq_getElem hi] at e1
    rw [List.getElem?_eq_getElem h', List.getElem?_eq_getElem hi]
    exact congrArg some e1
  · rw [List.getElem?_eq_none (by omega), List.getElem?_eq_none (by omega)]; rfl
theorem getD_inj {ys : List Str} (nd : ys.Nodup) (i j : Nat) (hi : i < ys.length) (hj : j < ys.length) (e : (Sum.inr (ys.getD i "") : Key) = .inr (ys.getD j "")) : i = j := by
  have e := Sum.inr.inj e
  rw [List.getD_eq_getElem?_getD, List.getD_eq_getElem?_getD, List.getElem?_eq_getElem hi, List.getElem?_eq_getElem hj] at e
  exact (List.getElem_inj nd).mp e
theorem acc_ns {ns : List (Str × Addr)} : ∀ {acc : List (Key × V)} {ys : List Str}, acc.map (·.1) = ys.map Sum.inr → (∀ kv ∈ acc, ∃ y a, kv = (Sum.inr y, V.ref a) ∧ (y, a) ∈ ns) → ∃ ns' : List (Str × Addr), acc = nsK ns' ∧ ns'.map (·.1) = ys ∧ ∀ q ∈ ns', q ∈ ns
  | [], [], _, _ => ⟨[], rfl, rfl, fun _ h => nomatch h⟩
  | [], _ :: _, h, _ => by cases h
  | _ :: _, [], h, _ => by cases h
  | kv :: acc, y :: ys, hk, hv => by
    rw [List.map_cons, List.map_cons] at hk
    obtain ⟨h1, h2⟩ := List.cons.inj hk
    obtain ⟨ns', e1, e2, e3⟩ := acc_ns h2 fun kv h => hv kv (List.mem_cons_of_mem _ h)
    obtain ⟨z, a, e4, e5⟩ := hv kv (List.mem_cons_self ..)
    subst e4
    cases h1
    refine ⟨(y, a) :: ns', by rw [e1]; rfl, by rw [List.map_cons, e2], fun q hq => ?_⟩
    rcases List.mem_cons.mp hq with rfl | hq
    · exact e5
    · exact e3 q hq
theorem cxNew0 : CXNew C8.CX0 := fun _ _ _ _ _ _ _ _ _ _ _ _ h => h
section
variable {P : Program} {w : World} {K : PySem.W.Frag} {mg : Str → Option Value} {base : Heap}
def sp_Company_only (K : PySem.W.Frag) : Sp := Gives fun vs C post => ∃ a t W A N s, vs = [.ref a, .ref t] ∧ CompanyR C a W N s ∧ C t = some (.tup (A.map V.str)) ∧ A.Nodup ∧ A ≠ [] ∧ (∀ x ∈ A, x ∈ W) ∧ A.length ≤ 5 ∧ post = fun v C' => ∃ b, v = .ref b ∧ CompanyAt C' b A N s
theorem f_Company_only (T : Txt K mg) : FnR P w K mg base C8.CX0 5 924 (fun vs H Q E => ∃ v rest, vs = v :: rest ∧ rest.length ≤ 5 ∧ ∀ p, H p = none → sp_Company_only K [v, .ref p] (upd H p (.tup rest)) Q E) := by
  obtain ⟨fd, F⟩ := T.d_Company_only.ex
  obtain ⟨oc, od, dV, kV, doc, pm, an, cdv, ct, osl, rfl, lk, hcd, hD, hK⟩ := F.ex
  obtain ⟨_, rfl⟩ : ([] : List V) = [] ∧ dV = .none := by
    rcases hD with h | ⟨h, _⟩
    · exact h
    · exact absurd rfl h
  refine fn_ofV (N := ["self", "names", "chosen", "name"]) lk hcd (C8.fnScope_by (P := ["self", "names"]) (by decide +kernel)) (szK (by decide)) (bindV_of (fun _ => rfl) (fun _ _ => rfl) (fun _ _ _ => rfl) (fun _ _ _ _ => rfl) (fun _ _ _ _ _ => rfl) (fun _ _ _ _ _ _ => rfl)) cxNew0 (fun A outer s H vs Q E hr h => ?_)
  · obtain ⟨C, post, sc, ⟨a, t, W, A', N, s', rfl, hC, hT, ndA, ne, sub, few, rfl⟩, q⟩ := h
    have nd : (["self", "names", "chosen", "name"] : List Str).Nodup := by decide +kernel
    refine ⟨_, PSs.nox (pss_cons (ps_setDc (i := 2) (own := [("name", 3)]) (by rfl) nd rfl rfl (sw_trueD rfl rfl rfl (by decide +kernel)) (pi_tup (pv 1)) (blkOk_by (own := [("name", 3)]) (N := ["self", "names", "chosen", "name"]) (sc := C8.fnScope s_Company_only) (by decide +kernel)) (fun _ _ _ _ _ => (pg_name (i := 3) nd rfl (Or.inl rfl))) (fun _ _ _ _ _ => pts_nil) (fun _ _ _ _ _ => (pv 3)) (fun _ _ _ _ _ => (C8.pe_mt (q_Company_net_of T) hr (by decide) (pv 0) (pa_cons (pv 3) pa_nil))))
      (pss_cons (ps_if (pt_cmpR op_eq (pe_callB call_lenR (by rfl) T.f_len b_len (pa_cons (pv 2) pa_nil)) pe_int (nomark _)) pss_never pss_nil)
      (pss_one (ps_ret (C8.pe_mk (m_Company T) hr (by decide) (by rfl) (pa_cons (pv 2) (pa_cons (pe_fld (pv 0) rfl) pa_nil))))))), ?_⟩
    have ok := hC.1
    refine ⟨_, rfl, t, rfl, ⟨_, .of (sc _ _ hT)⟩, ?_⟩
    refine dcMap (M := []) (Qd := fun D H' => (tSeq _ _) _ (_ : L2.St) H') walk_tup (fun i => .inr (A'.getD i "")) (fun i v C' => ∃ b, v = .ref b ∧ NetAt C' b (N (A'.getD i ""))) (fun i j hi hj e => getD_inj ndA i j (by simpa using hi) (by simpa using hj) e) sc (fun _ h => nomatch h) (szK (by rw [List.length_map]; omega)) (fun C' H' n => .of (n.ch _ _ (n.cc _ _ hT))) (fun i v C C' s ⟨b, e, h⟩ => ⟨b, e, h.le (Same.le s)⟩) (fun i x C' H1 H2 Z hi n y k => ?_) (fun r acc C' H' n cr hr hH hl ha => ?_)
    · obtain ⟨rfl, hx⟩ := y
      rw [List.getElem?_map] at hx
      obtain ⟨x, hy, rfl⟩ := Option.map_eq_some_iff.mp hx
      have ex : A'.getD i "" = x := by rw [List.getD_eq_getElem?_getD, hy]; rfl
      have hxA := List.mem_of_getElem? hy
      obtain ⟨_, dx, dd, ns, hA, _⟩ := hC.le n.le
      refine ⟨rfl, _, rfl, _, rfl, a, dx, _, rfl, n.ch _ _ hA, rfl, _, rfl, C', _, n.ch, ⟨a, W, N, s', x, rfl, hC.le n.le, sub x hxA, rfl⟩, fun v C5 H5 n5 ⟨b, ev, hb⟩ => ?_⟩
      subst ev
      have k' := k (.ref b) C5 H5 n5 ⟨b, rfl, by rw [ex]; exact hb⟩
      rw [ex] at k'
      exact k'
    · rw [List.length_map] at hl
      have hk := keys_of hl fun i kv e => (ha i kv e).1
      have hv : ∀ kv ∈ acc, ∃ y a, kv = (Sum.inr y, V.ref a) ∧ (y, a) ∈ (acc.map fun kv : Key × V => ((match kv.1 with | .inr y => y | .inl _ => ""), (match kv.2 with | .ref a => a | _ => (0 : Addr)))) := fun kv h => by
        obtain ⟨i, hi, ei⟩ := List.mem_iff_getElem.mp h
        obtain ⟨e1, b, e2, e3⟩ := ha i kv (by rw [List.getElem?_eq_getElem hi, ei])
        refine ⟨A'.getD i "", b, Prod.ext e1 e2, List.mem_map.mpr ⟨kv, h, ?_⟩⟩
        rw [e1, e2]
      obtain ⟨ns', e1, e2, e3⟩ := acc_ns hk hv
      have hns : ∀ q ∈ ns', NetAt C' q.2 (N q.1) := fun q hq => by
        have hq' : (Sum.inr q.1, V.ref q.2) ∈ acc := by rw [e1]; exact List.mem_map.mpr ⟨q, hq, rfl⟩
        obtain ⟨i, hi, ei⟩ := List.mem_iff_getElem.mp hq'
        obtain ⟨f1, b, f2, f3⟩ := ha i _ (by rw [List.getElem?_eq_getElem hi, ei])
        cases f2
        rw [← Sum.inr.inj f1] at f3
        exact f3
      have pos : 0 < A'.length := List.length_pos_iff.mpr ne
      have n1 := n.keep hH hr
      have cs : Same C' (upd C' r (.dK acc)) := same_upd cr
      obtain ⟨_, dx, dd, ns, hA, _⟩ := hC.le n1.le
      refine ⟨_, rfl, r, _, rfl, .inl hH, rfl, false, ?_, iteF ?_⟩
      · refine congrArg V.bl (decide_eq_false fun z => ?_)
        have := V.int.inj z
        omega
      refine ⟨_, rfl, _, rfl, a, _, dx, _, _, rfl, n1.ch _ _ hA, T.cls_Company, T.no_Company_own_spread, rfl, fun x dx hx hdx hne => ?_⟩
      refine ⟨_, x, dx, r, s', A', N, ?_, rfl, upd_same, same_none n1.ch hx, ⟨ndA, ne, by omega, fun x h => ok.nm x (sub x h), ok.s0⟩, ⟨ns', by rw [e1]; exact upd_same, by rw [e2], fun q hq => (hns q hq).le (Same.le cs)⟩, fun C5 H5 o n5 cx hH5 hC5 => ⟨rfl, q _ _ _ (n1.trans (Nx.made n1.ch hx hdx n5 hH5)) ⟨x, rfl, hC5⟩⟩⟩
      exact (((Nx.rfl (M := []) n1.ch).tmp hdx).mut (same_none n1.ch hx) hx).ch
end
end AbW

/-! ## W8 -/
set_option Elab.async false
set_option linter.all false
set_option maxRecDepth 100000
set_option maxHeartbeats 4000000
/-! W8: what can be reached by nodes -/
namespace AbW
open PySem PySem.Spec PyProof.Rows L2 AbH AbR Ab
def BB (lo hi : Option Int) : Int → Prop := fun l => inB lo hi l = true
theorem dp_strs {K : PySem.W.Frag} {H : Hp} : ∀ xs : List Str, DpAll K H (xs.map V.str) (xs.map PyData.str)
  | [] => .nil
  | x :: xs => .cons (.str x) (dp_strs xs)
theorem shaped_strs {xs : List Str} (h : ∀ x ∈ xs, NameOk x) : SeqAt.shaped (.list (xs.map PyData.str)) = true := by
  have h1 : ∀ xs : List Str, (∀ x ∈ xs, NameOk x) → PyData.canLayAll0 (xs.map PyData.str) = true := by
    intro xs
    induction xs with
    | nil => intro _; simp [PyData.canLayAll0]
    | cons x xs ih => intro h; simp [PyData.canLayAll0, PyData.canLay0, strOk_name (h x (List.mem_cons_self ..)), ih fun y hy => h y (List.mem_cons_of_mem _ hy)]
  have h2 : ∀ xs : List Str, PyData.depthAll (xs.map PyData.str) = 0 := by
    intro xs
    induction xs with
    | nil => simp [PyData.depthAll]
    | cons x xs ih => simp [PyData.depthAll, PyData.depth, ih]
  simp [SeqAt.shaped, PyData.canLay0, PyData.depth, h1 xs h, h2 xs]
theorem eqv_strs (xs : List Str) : PyData.eqv (.list (xs.map PyData.str)) (.list []) = decide (xs = []) := by
  cases xs with
  | nil => simp [PyData.eqv, PyData.eqvAll]
  | cons x xs => simp [PyData.eqv, PyData.eqvAll]
theorem nbr_symm {es : List (Str × Str)} {x y : Str} (h : nbr es x y) : nbr es y x := h.symm
theorem nbr_ks {m : NetD} (ok : m.Ok) {x y : Str} (h : nbr m.es x y) : y ∈ m.ks := by
  rcases h with h | h
  · exact (ok.ein _ h).2
  · exact (ok.ein _ h).1
theorem beside_ks {m : NetD} (ok : m.Ok) {p : Spot} (hp : m.has p) : ∀ x ∈ beside p, x ∈ m.ks := fun x hx => by
  cases p with
  | nd y => cases List.mem_singleton.mp hx; exact hp
  | inn l u h =>
    rcases List.mem_cons.mp hx with rfl | hx
    · exact (ok.ein _ hp.1).1
    · cases List.mem_singleton.mp hx; exact (ok.ein _ hp.1).2
theorem beside_nd {m : NetD} (ok : m.Ok) {p : Spot} (hp : m.has p) : (beside p).Nodup := by
  cases p with
  | nd y => simp [beside]
  | inn l u h =>
    have := ok.e12 hp.1
    simp [beside]
    exact this
theorem nodup_le : ∀ {xs ys : List Str}, xs.Nodup → (∀ x ∈ xs, x ∈ ys) → xs.length ≤ ys.length
  | [], _, _, _ => Nat.zero_le _
  | x :: xs, ys, nd, h => by
    rw [List.nodup_cons] at nd
    have hx := h x (List.mem_cons_self ..)
    have := nodup_le (ys := ys.erase x) nd.2 fun y hy => (List.mem_erase_of_ne (fun e => nd.1 (by rw [← e]; exact hy))).mpr (h y (List.mem_cons_of_mem _ hy))
    rw [List.length_erase_of_mem hx] at this
    have := List.length_pos_of_mem hx
    rw [List.length_cons]
    omega
/-- the dict {y: True} -/
def tD (ys : List Str) : List (Key × V) := vsK (ys.map fun y => (y, .bl true))
theorem tD_val (y : Str) : ∀ ys : List Str, (valV (tD ys) (.inr y)).isSome = decide (y ∈ ys)
  | [] => by simp [tD, vsK, valV_nil]
  | z :: ys => by
    show (valV ((Sum.inr z, V.bl true) :: tD ys) (.inr y)).isSome = _
    by_cases h : z = y
    · rw [valV_pos (by rw [h])]; simp [h]
    · rw [valV_neg (fun e => h (Sum.inr.inj e)), tD_val y ys]
      simp [Ne.symm h]
theorem tD_put {ys : List Str} {y : Str} (h : y ∉ ys) : putK (tD ys) (.inr y) (.bl true) = tD (ys ++ [y]) := by
  have : valV (tD ys) (.inr y) = none := by
    have := tD_val y ys
    rw [decide_eq_false h] at this
    cases e : valV (tD ys) (.inr y) with
    | none => rfl
    | some v => rw [e] at this; cases this
  rw [putK_new _ this]
  unfold tD vsK
  simp
theorem tD_len (ys : List Str) : (tD ys).length = ys.length := by unfold tD; rw [vsK_len, List.length_map]
/-- the search's state: found ys, waiting ws; x is being looked at, its neighbours ns are done -/
structure Sr (m : NetD) (B : Int → Prop) (p : Spot) (ys ws : List Str) (x : Option Str) (ns : List Str) : Prop where
  nd : ys.Nodup
  snd : ∀ y ∈ ys, Fnd m B p y ∧ y ∈ m.ks
  sub : ∀ y ∈ ws, y ∈ ys
  st : ∀ y ∈ beside p, B (m.lev y) → y ∈ ys
  cl : ∀ y ∈ ys, y ∉ ws → some y ≠ x → ∀ z, nbr m.es y z → B (m.lev z) → z ∈ ys
  xin : ∀ y, x = some y → y ∈ ys ∧ ∀ z ∈ ns, B (m.lev z) → z ∈ ys
theorem Sr.done {m : NetD} {B : Int → Prop} {p : Spot} {ys : List Str} (h : Sr m B p ys [] none []) (y : Str) : y ∈ ys ↔ Fnd m B p y := by
  refine ⟨fun hy => (h.snd y hy).1, fun ⟨x, hx, bx, nx⟩ => ?_⟩
  have go : ∀ {x y : Str}, NR m B x y → x ∈ ys → y ∈ ys := by
    intro x y nx
    induction nx with
    | refl _ => exact id
    | step b n t ih => exact fun hx => ih (h.cl _ hx (by simp) (by simp) _ n t.fst)
  exact go nx (h.st x hx bx)
theorem Dt.other {C H : Hp} {p q : Addr} {o o' u : HO} (d : Dt C H p o) (e : Dt C H q o') (h : o ≠ o') : Dt C (upd H q u) p o :=
  ⟨d.no, by rw [upd_ne (fun z => by have := d.at_; rw [z, e.at_] at this; exact h (Option.some.inj this).symm)]; exact d.at_⟩
section
variable {P : Program} {w : World} {K : PySem.W.Frag} {mg : Str → Option Value} {base : Heap}
def sp_reach_from (K : PySem.W.Frag) : Sp := Gives fun vs C post => ∃ a x lo hi m p, vs = [.ref a, x, oV lo, oV hi] ∧ NetAt C a m ∧ SpotV C x p ∧ m.has p ∧ post = fun v C' => ∃ d ys, v = .ref d ∧ C d = none ∧ C' d = some (.dK (tD ys)) ∧ ys.Nodup ∧ (∀ y ∈ ys, y ∈ m.ks) ∧ ∀ y, y ∈ ys ↔ Fnd m (BB lo hi) p y
theorem c_reach_from (T : Txt K mg) : C8.Cal P w K mg base 4 "reach_from" (sp_reach_from K) [] := by
  refine mkCal (N := ["net", "spot", "low", "high", "levels", "waiting", "found", "name"]) (ps := ["net", "spot", "low", "high"]) T.d_reach_from T.g_reach_from (fun _ _ _ _ _ _ us hl => match us, hl with | [_, _, _, _], _ => rfl) (by decide +kernel) (fun vs H Q E h => ?_) (fun cdv A outer s H vs Q E hr h => ?_)
  · obtain ⟨C, post, sc, ⟨a, x, lo, hi, m, p, rfl, hN, hx, hp, rfl⟩, q⟩ := h; rfl
  · obtain ⟨C, post, sc, ⟨a, x, lo, hi, m, p, rfl, hN, hx, hp, rfl⟩, q⟩ := h
    have nd : (["net", "spot", "low", "high", "levels", "waiting", "found", "name"] : List Str).Nodup := by decide +kernel
    have hu := units1 hr
    refine ⟨_, (pss_cons (ps_set (i := 4) nd rfl (Or.inr rfl) (C8.pe_mt0 (q_Net_nodes T) hr (by decide) (pv 0)))
      (pss_cons (ps_setLc (i := 5) (own := [("name", 7)]) (by rfl) nd rfl rfl (sw_true rfl rfl rfl (by decide +kernel)) (pi_list (C8.pe_c (c_nodes_beside T) hr (by decide) (by rfl) (pa_cons (pv 1) pa_nil))) (blkOk_by (own := [("name", 7)]) (N := ["net", "spot", "low", "high", "levels", "waiting", "found", "name"]) (sc := C8.fnScope s_reach_from) (by decide +kernel)) (fun _ _ _ _ _ => (pg_name (i := 7) nd rfl (Or.inl rfl))) (fun _ _ _ _ _ => (pts_one (pt_val (C8.pe_c (c_lies_in T) hr (by decide) (by rfl) (pa_cons (pe_dget hu (pv 4) (pv 7) (fun _ _ => rfl)) (pa_cons (pv 2) (pa_cons (pv 3) pa_nil))))))) (fun _ _ _ _ _ => (pv 7)))
      (pss_cons (ps_setDc (i := 6) (own := [("name", 7)]) (by rfl) nd rfl rfl (sw_trueD rfl rfl rfl (by decide +kernel)) (pi_list (pv 5)) (blkOk_by (own := [("name", 7)]) (N := ["net", "spot", "low", "high", "levels", "waiting", "found", "name"]) (sc := C8.fnScope s_reach_from) (by decide +kernel)) (fun _ _ _ _ _ => (pg_name (i := 7) nd rfl (Or.inl rfl))) (fun _ _ _ _ _ => pts_nil) (fun _ _ _ _ _ => (pv 7)) (fun _ _ _ _ _ => pe_bl))
      (pss_cons (ps_while PassesOwn.never (pt_cmpR (op_neD hr.units) (pv 5) (pe_lst pa_nil) (nomark _)) (pss_one (ps_for PassesOwn.never rfl (pi_list (C8.pe_mt (q_Net_neighbours T) hr (by decide) (pv 0) (pa_cons (pe_bm0 PySem.F.plainAttrs_list PySem.F.slot_list_pop PySem.F.type_list_pop mt_pop (pv 5)) pa_nil))) (pg_name (i := 7) nd rfl (Or.inl rfl)) (pss_one (ps_if (PW.pt (pw_and (pt_cmp (pc_dnotin hu (pv 7) (pv 6)) (by rfl)) (pw_and1 (pt_val (C8.pe_c (c_lies_in T) hr (by decide) (by rfl) (pa_cons (pe_dget hu (pv 4) (pv 7) (fun _ _ => rfl)) (pa_cons (pv 2) (pa_cons (pv 3) pa_nil)))))))) (pss_cons (ps_dput hu (pv 6) (pv 7) pe_bl rfl)
      (pss_one (ps_expr (pe_bm PySem.F.plainAttrs_list PySem.F.slot_list_append PySem.F.type_list_append mt_append (pv 5) (pa_cons (pv 7) pa_nil))))) pss_nil)))))
      (pss_one (ps_ret (pv 6))))))), ?_⟩
    have ok := hN.ok
    obtain ⟨dx, l, ed, nn, hA, _⟩ := hN.ex
    refine ⟨_, rfl, a, dx, _, rfl, sc _ _ hA, rfl, C, _, sc, ⟨a, m, rfl, hN, rfl⟩, fun v C1 H1 n1 ⟨dl, hs, ev, pmh, hl⟩ => ?_⟩
    subst ev
    have hlev : LevD C1 dl m := ⟨hs, pmh, .inl hl⟩
    refine ⟨_, rfl, C1, _, n1.ch, ⟨x, p, rfl, hx.le n1.le, rfl⟩, fun v C2 H2 a2 ⟨lb, ev, hlb⟩ => ?_⟩
    subst ev
    have n2 := n1.trans a2
    have hbks := beside_ks ok hp
    have blen : (beside p).length ≤ 2 := by cases p <;> simp [beside]
    refine ⟨lb, rfl, ⟨_, .of (a2.ch _ _ hlb)⟩, fun D hD => ?_⟩
    refine lcN (M := []) walk_list (fun i acc _ => acc = (((beside p).take i).filter fun y => inB lo hi (m.lev y)).map V.str) n2.ch hD (fun h => nomatch h) (szK (by rw [List.length_map]; omega)) rfl (fun i acc _ r => ?_) (fun C' H' n => .of (n.ch _ _ (n.cc _ _ hlb))) (fun i v acc C' H3 H4 Z Z0 hi' n r y k k0 => ?_) (fun acc C3 H3 n3 r cD hH => ?_)
    · rw [r, List.length_map]
      exact Nat.le_trans (List.length_filter_le _ _) (by rw [List.length_take]; omega)
    · obtain ⟨rfl, hv⟩ := y
      rw [List.getElem?_map] at hv
      obtain ⟨y, hy, rfl⟩ := Option.map_eq_some_iff.mp hv
      have hym := List.mem_of_getElem? hy
      have tk : (beside p).take (i + 1) = (beside p).take i ++ [y] := by rw [List.take_add_one, hy]; rfl
      have hlv := hlev.le (a2.trans n).le
      refine ⟨rfl, _, rfl, _, rfl, dl, _, rfl, hlv.dget n.ch ok (hbks y hym), _, rfl, _, rfl, m.lev y, lo, hi, rfl, _, rfl, ?_⟩
      cases hb : inB lo hi (m.lev y) with
      | true =>
        refine iteT ⟨_, rfl, k _ C' H4 (.rfl n.ch) ?_⟩
        rw [r, tk, List.filter_append, List.map_append]
        simp [hb]
      | false =>
        refine iteF (k0 C' H4 (.rfl n.ch) ?_)
        rw [r, tk, List.filter_append, List.map_append]
        simp [hb]
    · rw [List.length_map, List.take_length] at r
      subst r
      generalize hws : (beside p).filter (fun y => inB lo hi (m.lev y)) = ws0 at hH
      have wsm : ∀ y, y ∈ ws0 ↔ y ∈ beside p ∧ inB lo hi (m.lev y) = true := fun y => by rw [← hws, List.mem_filter]
      have wnd : ws0.Nodup := by rw [← hws]; exact (beside_nd ok hp).sublist List.filter_sublist
      have wlen : ws0.length ≤ 2 := by rw [← hws]; exact Nat.le_trans (List.length_filter_le _ _) blen
      have dD : Dt C3 H3 D (.lst (ws0.map V.str)) := ⟨cD, hH⟩
      refine ⟨_, rfl, D, rfl, ⟨_, .of hH⟩, ?_⟩
      refine dcMap (M := []) walk_list (fun i => .inr (ws0.getD i "")) (fun i v _ => v = .bl true) (fun i j hi hj e => getD_inj wnd i j (by simpa using hi) (by simpa using hj) e) n3.ch (fun _ h => nomatch h) (szK (by rw [List.length_map]; omega)) (fun C' H' n => .of (dD.on n).at_) (fun _ _ _ _ _ h => h) (fun i v C' H4 H5 Z hi' n y k => ?_) (fun E acc C4 H4 n4 cE hE hH4 hl4 ha => ?_)
      · obtain ⟨rfl, hv⟩ := y
        rw [List.getElem?_map] at hv
        obtain ⟨y, hy, rfl⟩ := Option.map_eq_some_iff.mp hv
        have ey : ws0.getD i "" = y := by rw [List.getD_eq_getElem?_getD, hy]; rfl
        have k' := k (.bl true) C' H5 (.rfl n.ch) rfl
        rw [ey] at k'
        exact ⟨rfl, _, rfl, k'⟩
      rw [List.length_map] at hl4
      have eacc : acc = tD ws0 := acc_vs (keys_of hl4 fun i kv e => (ha i kv e).1) fun kv h => by
        obtain ⟨i, hi, ei⟩ := List.mem_iff_getElem.mp h
        obtain ⟨e1, e2⟩ := ha i kv (by rw [List.getElem?_eq_getElem hi, ei])
        exact ⟨_, Prod.ext e1 e2⟩
      subst eacc
      have n34 := n3.trans n4
      have hE2 : H2 E = none := n3.back hE
      have dD4 := dD.on n4
      have dE4 : Dt C4 H4 E (.dK (tD ws0)) := ⟨cE, hH4⟩
      have ksl : m.ks.length ≤ 5 := by unfold NetD.ks; rw [List.length_map]; exact ok.few
      refine ⟨fun k σ H' => ∃ z C', ∃ ys ws : List Str, σ = [some (.ref a), some x, some (oV lo), some (oV hi), some (.ref dl), some (.ref D), some (.ref E), z] ∧ Nx [] C2 H2 C' H' ∧ Dt C' H' D (.lst (ws.map V.str)) ∧ Dt C' H' E (.dK (tD ys)) ∧ Sr m (BB lo hi) p ys ws none [] ∧ k = 2 * (5 - ys.length) + ws.length ∧ k ≤ 10, ⟨_, _, C4, ws0, ws0, rfl, n34, dD4, dE4, ⟨wnd, fun y hy => ?_, fun _ h => h, fun y hy hb => (wsm y).mpr ⟨hy, hb⟩, fun y hy hn => absurd hy hn, fun y h => by cases h⟩, rfl, by omega⟩, ?_⟩
      · obtain ⟨h1, h2⟩ := (wsm y).mp hy
        exact ⟨⟨y, h1, h2, .refl h2⟩, hbks y h1⟩
      rintro k σ H5 ⟨z, C5, ys, ws, rfl, n5, dD5, dE5, sr, rfl, k10⟩
      have ysl : ys.length ≤ 5 := Nat.le_trans (nodup_le sr.nd fun y hy => (sr.snd y hy).2) ksl
      refine ⟨_, rfl, sz0, fun r hr => ⟨_, _, .lst (.of ?_) (dp_strs ws), .lst (xs := []) (.of upd_same) .nil, shaped_strs fun y hy => ok.nm y (sr.snd y (sr.sub y hy)).2, shaped_strs (xs := []) (fun _ h => nomatch h), !decide (ws = []), by rw [eqv_strs], ?_⟩⟩
      · rw [upd_ne (fun e => by have := dD5.at_; rw [e, hr] at this; cases this)]; exact dD5.at_
      have a6 : Nx [] C5 H5 C5 (upd H5 r (.lst [])) := .tmp0 n5.ch hr
      have dD6 := dD5.on a6
      have dE6 := dE5.on a6
      have n6 := n5.trans a6
      rcases List.eq_nil_or_concat ws with rfl | ⟨ws', y, rfl⟩
      · have nk := n6.keep dE6.at_ hE2
        refine ⟨_, rfl, q _ _ _ (n2.trans nk) ⟨E, ys, rfl, same_none sc (n2.back hE2), upd_same, sr.nd, fun y hy => (sr.snd y hy).2, sr.done⟩⟩
      rw [List.concat_eq_append] at *
      refine iteB (by simp) ⟨fun σ' H' => ∃ m', m' < 2 * (5 - ys.length) + (ws' ++ [y]).length ∧ ∃ z C', ∃ ys ws : List Str, σ' = [some (.ref a), some x, some (oV lo), some (oV hi), some (.ref dl), some (.ref D), some (.ref E), z] ∧ Nx [] C2 H2 C' H' ∧ Dt C' H' D (.lst (ws.map V.str)) ∧ Dt C' H' E (.dK (tD ys)) ∧ Sr m (BB lo hi) p ys ws none [] ∧ m' = 2 * (5 - ys.length) + ws.length ∧ m' ≤ 10, fun _ _ h => h, ?_⟩
      rw [List.length_append, List.length_singleton] at k10
      have hyy : y ∈ ys := sr.sub y (by simp)
      have hyk := (sr.snd y hyy).2
      have hN6 : ∀ {C' H'}, Nx [] C2 H2 C' H' → NetAt C' a m := fun n => hN.le (n2.trans n).le
      have hA6 : ∀ {C' H'}, Nx [] C2 H2 C' H' → H' a = some (.ins 837 dx (netF l ed nn)) := fun n => n.ch _ _ ((n2.trans n).cc _ _ hA)
      have lv6 : ∀ {C' H'}, Nx [] C2 H2 C' H' → LevD C' dl m := fun n => hlev.le (a2.trans n).le
      have e1 : (((ws' ++ [y]).map V.str)[((ws' ++ [y]).map V.str).length - 1]?) = some (V.str y) := by simp
      have e2 : ((ws' ++ [y]).map V.str).dropLast = ws'.map V.str := by simp
      refine ⟨_, rfl, a, dx, _, rfl, hA6 n6, rfl, _, rfl, .inl ⟨rfl, _, .of dD6.at_⟩, D, _, _, rfl, rfl, dD6.at_, e1, ?_⟩
      rw [e2]
      have n7 := n6.put (o' := .lst (ws'.map V.str)) dD6 hD
      have dE7 := dE6.other (u := .lst (ws'.map V.str)) dD6 (by intro h; cases h)
      have dD7 := dD6.put (o' := .lst (ws'.map V.str))
      refine ⟨C5, _, n7.ch, ⟨a, m, y, rfl, hN6 n7, hyk, rfl⟩, fun v C8 H8 a8 ⟨b, ns, ev, hb, hbl, hbm⟩ => ?_⟩
      subst ev
      have n8 := n7.trans a8
      have dD8 := dD7.on a8
      have dE8 := dE7.on a8
      refine ⟨b, rfl, ⟨_, .of (n8.ch _ _ hb)⟩, ?_⟩
      refine for_it walk_list (fun i σ' H' => ∃ z C', ∃ ys1 ws1 : List Str, σ' = [some (.ref a), some x, some (oV lo), some (oV hi), some (.ref dl), some (.ref D), some (.ref E), z] ∧ Same C8 C' ∧ Nx [] C2 H2 C' H' ∧ Dt C' H' D (.lst (ws1.map V.str)) ∧ Dt C' H' E (.dK (tD ys1)) ∧ Sr m (BB lo hi) p ys1 ws1 (some y) (ns.take i) ∧ 2 * (5 - ys1.length) + ws1.length ≤ 2 * (5 - ys.length) + ws'.length) ⟨_, C8, ys, ws', rfl, fun _ _ h => h, n8, dD8, dE8, ⟨sr.nd, sr.snd, fun u hu => sr.sub u (by simp [hu]), sr.st, fun u hu h1 h2 => sr.cl u hu (by simp [h1]; exact fun e => h2 (by rw [e])) (by simp), fun u e => by cases e; exact ⟨hyy, fun _ h => by simp at h⟩⟩, Nat.le_refl _⟩ (fun i σ' H' _ ⟨_, C', _, _, _, n, g, _⟩ => .of (g.ch _ _ (n _ _ hb))) (fun i v σ' H9 H9' hi' ⟨z, C9, ys1, ws1, es, n9, g9, dD9, dE9, sr9, ms⟩ yy => ?_) (fun σ' H9 ⟨z, C9, ys1, ws1, es, n9, g9, dD9, dE9, sr9, ms⟩ => ?_)
      · obtain ⟨rfl, hv⟩ := yy
        subst es
        rw [List.getElem?_map] at hv
        obtain ⟨u, hu, rfl⟩ := Option.map_eq_some_iff.mp hv
        have hum := List.mem_of_getElem? hu
        have hnb := (hbm u).mp hum
        have huk : u ∈ m.ks := nbr_ks ok hnb
        have tk : ns.take (i + 1) = ns.take i ++ [u] := by rw [List.take_add_one, hu]; rfl
        have y1l : ys1.length ≤ 5 := Nat.le_trans (nodup_le sr9.nd fun y hy => (sr9.snd y hy).2) ksl
        have yin := (sr9.xin y rfl).1
        refine ⟨_, rfl, _, rfl, E, _, rfl, .k (k := .inr u) dE9.at_, !decide (u ∈ ys1), by rw [tD_val], ?_⟩
        by_cases hin : u ∈ ys1
        · refine iteC (by simp [hin]) (iteF ⟨_, C9, ys1, ws1, rfl, n9, g9, dD9, dE9, { sr9 with xin := fun w e => ⟨(sr9.xin w e).1, fun t ht => ?_⟩ }, ms⟩)
          rw [tk, List.mem_append, List.mem_singleton] at ht
          rcases ht with ht | rfl
          · exact (sr9.xin w e).2 t ht
          · exact fun _ => hin
        · refine iteB (by simp [hin]) ⟨_, rfl, _, rfl, dl, _, rfl, (lv6 g9).dget g9.ch ok huk, _, rfl, _, rfl, m.lev u, lo, hi, rfl, _, rfl, ?_⟩
          cases hB : inB lo hi (m.lev u) with
          | false =>
            refine iteF ⟨_, C9, ys1, ws1, rfl, n9, g9, dD9, dE9, { sr9 with xin := fun w e => ⟨(sr9.xin w e).1, fun t ht => ?_⟩ }, ms⟩
            rw [tk, List.mem_append, List.mem_singleton] at ht
            rcases ht with ht | rfl
            · exact (sr9.xin w e).2 t ht
            · intro hb; rw [show inB lo hi (m.lev t) = true from hb] at hB; cases hB
          | true =>
            have y1l' : ys1.length + 1 ≤ 5 := by
              have := nodup_le (xs := u :: ys1) (ys := m.ks) (List.nodup_cons.mpr ⟨hin, sr9.nd⟩) fun t ht => by
                rcases List.mem_cons.mp ht with rfl | ht
                · exact huk
                · exact (sr9.snd t ht).2
              rw [List.length_cons] at this
              omega
            refine iteT ⟨_, rfl, _, rfl, E, _, rfl, .k (k := .inr u) dE9.at_ (szL (by rw [tD_len]; omega)), ?_⟩
            rw [tD_put hin]
            have hE8 : H8 E ≠ none := by rw [dE8.at_]; simp
            have gA := g9.put (o' := .dK (tD (ys1 ++ [u]))) dE9 hE2
            have dDA := dD9.other (u := .dK (tD (ys1 ++ [u]))) dE9 (by intro h; cases h)
            have dEA := dE9.put (o' := .dK (tD (ys1 ++ [u])))
            have wl : ws1.length < 100000 := by omega
            refine ⟨_, rfl, .inl ⟨rfl, _, .of dDA.at_⟩, _, rfl, D, _, _, rfl, rfl, dDA.at_, szL (by rw [List.length_map]; exact wl), ?_⟩
            have gB := gA.put (o' := .lst (ws1.map V.str ++ [.str u])) dDA hD
            have dEB := dEA.other (u := .lst (ws1.map V.str ++ [.str u])) dDA (by intro h; cases h)
            have dDB := dDA.put (o' := .lst (ws1.map V.str ++ [.str u]))
            refine ⟨_, C9, ys1 ++ [u], ws1 ++ [u], rfl, n9, gB, by rw [List.map_append]; exact dDB, dEB, ⟨?_, fun t ht => ?_, fun t ht => ?_, fun t ht hb => List.mem_append_left _ (sr9.st t ht hb), fun t ht h1 h2 v hv hb => List.mem_append_left _ (sr9.cl t ?_ (fun h => h1 (List.mem_append_left _ h)) h2 v hv hb), fun t e => ⟨List.mem_append_left _ (sr9.xin t e).1, fun v hv hb => ?_⟩⟩, by simp only [List.length_append, List.length_singleton]; omega⟩
            · rw [List.nodup_append]
              exact ⟨sr9.nd, by simp, fun t ht v hv e => hin (by rw [← List.mem_singleton.mp hv, ← e]; exact ht)⟩
            · rcases List.mem_append.mp ht with ht | ht
              · exact sr9.snd t ht
              · cases List.mem_singleton.mp ht
                obtain ⟨x0, hx0, bx0, nx0⟩ := (sr9.snd y yin).1
                exact ⟨⟨x0, hx0, bx0, nx0.snoc hnb hB⟩, huk⟩
            · rcases List.mem_append.mp ht with ht | ht
              · exact List.mem_append_left _ (sr9.sub t ht)
              · exact List.mem_append_right _ ht
            · rcases List.mem_append.mp ht with ht | ht
              · exact ht
              · exact absurd (List.mem_append_right _ ht) h1
            · rw [tk, List.mem_append] at hv
              rcases hv with hv | hv
              · exact List.mem_append_left _ ((sr9.xin t e).2 v hv hb)
              · exact List.mem_append_right _ hv
      · subst es
        rw [List.length_map, List.take_length] at sr9
        refine ⟨_, ?_, _, C9, ys1, ws1, rfl, g9, dD9, dE9, ⟨sr9.nd, sr9.snd, sr9.sub, sr9.st, fun t ht h1 _ v hv hb => ?_, fun t e => by cases e⟩, rfl, by omega⟩
        · rw [List.length_append, List.length_singleton]; omega
        · by_cases e : t = y
          · subst e
            exact (sr9.xin t rfl).2 v ((hbm v).mpr hv) hb
          · exact sr9.cl t ht h1 (fun z => e (Option.some.inj z)) v hv hb
end
end AbW

/-! ## W9 -/
set_option Elab.async false
set_option linter.all false
set_option maxRecDepth 100000
set_option maxHeartbeats 4000000
/-! W9: tops, dips, parts -/
namespace AbW
open PySem PySem.Spec PyProof.Rows L2 AbH AbR Ab
theorem acc_map {α : Type} {g : α → V} {acc : List V} {xs : List α} (hl : acc.length = xs.length) (h : ∀ (i : Nat) (v : V), acc[i]? = some v → ∀ x, xs[i]? = some x → v = g x) : acc = xs.map g := by
  refine List.ext_getElem? fun i => ?_
  rw [List.getElem?_map]
  by_cases hi : i < xs.length
  · have h' : i < acc.length := by omega
    rw [List.getElem?_eq_getElem h', List.getElem?_eq_getElem hi]
    exact congrArg some (h i _ (List.getElem?_eq_getElem h') _ (List.getElem?_eq_getElem hi))
  · rw [List.getElem?_eq_none (by omega), List.getElem?_eq_none (by omega)]; rfl
theorem bb_ge (lo : Int) : BB (some lo) none = Ge lo := by
  funext l; simp [BB, inB]
theorem bb_le (hi : Int) : BB none (some hi) = Ab.Le hi := by
  funext l; simp [BB, inB]
theorem bb_bt (lo hi : Int) : BB (some lo) (some hi) = Bt lo hi := by
  funext l; simp [BB, inB]
theorem bb_all : BB none none = fun _ => True := by
  funext l; simp [BB, inB]
theorem tD_get {ys : List Str} {i : Nat} {k : Key} {v : V} (h : (tD ys)[i]? = some (k, v)) : ∃ y, ys[i]? = some y ∧ k = .inr y := by
  obtain ⟨x, _, e, h2⟩ := vsK_get h
  rw [List.getElem?_map] at h2
  obtain ⟨z, hz, e2⟩ := Option.map_eq_some_iff.mp h2
  cases e2
  exact ⟨_, hz, e⟩
section
variable {P : Program} {w : World} {K : PySem.W.Frag} {mg : Str → Option Value} {base : Heap}
def sp_top_from (K : PySem.W.Frag) : Sp := Gives fun vs C post => ∃ a x lo N i p, vs = [.ref a, x, .int lo] ∧ NetAt C a (N i) ∧ SpotV C x p ∧ (N i).has p ∧ lo ≤ (N i).lv p ∧ post = fun v C' => ∃ t, v = .int t ∧ IsTop N i p lo t
theorem c_top_from (T : Txt K mg) : C8.Cal P w K mg base 5 "top_from" (sp_top_from K) [] := by
  refine mkCal (N := ["net", "spot", "low", "levels", "name"]) (ps := ["net", "spot", "low"]) T.d_top_from T.g_top_from (fun _ _ _ _ _ _ us hl => match us, hl with | [_, _, _], _ => rfl) (by decide +kernel) (fun vs H Q E h => ?_) (fun cdv A outer s H vs Q E hr h => ?_)
  · obtain ⟨C, post, sc, ⟨a, x, lo, N, i, p, rfl, hN, hx, hp, hl, rfl⟩, q⟩ := h; rfl
  · obtain ⟨C, post, sc, ⟨a, x, lo, N, i, p, rfl, hN, hx, hp, hl, rfl⟩, q⟩ := h
    have nd : (["net", "spot", "low", "levels", "name"] : List Str).Nodup := by decide +kernel
    have hu := units1 hr
    refine ⟨_, (pss_cons (ps_set (i := 3) nd rfl (Or.inr rfl) (C8.pe_mt0 (q_Net_nodes T) hr (by decide) (pv 0)))
      (pss_one (ps_ret (pe_callB (cr_max rfl) (by rfl) T.f_max b_max (pa_cons (pe_lc (own := [("name", 4)]) (by rfl) nd (pi_keysF (C8.pe_c (c_reach_from T) hr (by decide) (by rfl) (pa_cons (pv 0) (pa_cons (pv 1) (pa_cons (pv 2) (pa_cons pe_non pa_nil)))))) (blkOk_by (own := [("name", 4)]) (N := ["net", "spot", "low", "levels", "name"]) (sc := C8.fnScope s_top_from) (by decide +kernel)) (fun _ _ _ _ _ => (pg_name (i := 4) nd rfl (Or.inl rfl))) (fun _ _ _ _ _ => pts_nil) (fun _ _ _ _ _ => (pe_callTy call_int1 (by rfl) T.f_int b_int (pa_cons (pe_dget hu (pv 3) (pv 4) (fun _ _ => rfl)) pa_nil)))) pa_nil))))), ?_⟩
    have ok := hN.ok
    obtain ⟨dx, l, ed, nn, hA, _⟩ := hN.ex
    refine ⟨_, rfl, a, dx, _, rfl, sc _ _ hA, rfl, C, _, sc, ⟨a, N i, rfl, hN, rfl⟩, fun v C1 H1 n1 ⟨dl, hs, ev, pmh, hl1⟩ => ?_⟩
    subst ev
    have hlev : LevD C1 dl (N i) := ⟨hs, pmh, .inl hl1⟩
    refine ⟨_, rfl, _, rfl, _, rfl, C1, _, n1.ch, ⟨a, x, some lo, none, N i, p, rfl, hN.le n1.le, hx.le n1.le, hp, rfl⟩, fun v C2 H2 a2 ⟨e, ys, ev, e0, he, hnd, hks, hf⟩ => ?_⟩
    subst ev
    have hlen : ys.length ≤ 5 := Nat.le_trans (nodup_le hnd hks) (by unfold NetD.ks; rw [List.length_map]; exact ok.few)
    refine ⟨e, _, rfl, a2.ch _ _ he, trivial, fun od => ⟨e, od, rfl, .inl ⟨tD ys, upd_same, ?_⟩⟩⟩
    have n2 := n1.trans (a2.frz (od := od) e0 he)
    have hlev2 := (hlev.le a2.le).le (Le.lock (od := od) he)
    refine lcMap (M := []) walk_keys (fun j v _ => ∀ y, ys[j]? = some y → v = .int ((N i).lev y)) n2.ch (fun _ h => nomatch h) (szK (by rw [tD_len]; omega)) (fun C' H' n => n.ch _ _ (n.cc _ _ upd_same)) (fun _ _ _ _ _ h => h) (fun j v C' H3 H4 Z hj n y k => ?_) (fun r acc C' H3 n cr hr hH hal ha => ?_)
    · obtain ⟨rfl, kk, u, ek, rfl⟩ := y
      obtain ⟨y, hy, rfl⟩ := tD_get ek
      have hyk := hks y (List.mem_of_getElem? hy)
      exact ⟨rfl, _, rfl, _, rfl, dl, _, rfl, (hlev2.le n.le).dget n.ch ok hyk, .inl ⟨_, rfl, k _ C' H4 (.rfl n.ch) fun z hz => by rw [hy] at hz; cases hz; rfl⟩⟩
    · rw [tD_len] at hal
      have e1 : acc = (ys.map (N i).lev).map V.int := by
        rw [List.map_map]; exact acc_map hal ha
      rw [e1] at hH
      have hp' : BB (some lo) none ((N i).lv p) := by rw [bb_ge]; exact hl
      obtain ⟨y0, hy0⟩ := top_ne ok hp hl
      rw [bb_ge] at hf
      have hy0 := (hf y0).mpr hy0
      refine ⟨r, ys.map (N i).lev, rfl, .of hH, by rw [List.length_map]; exact List.length_pos_of_mem hy0, fun t t1 t2 => q _ _ _ (n2.trans (n.pure (M := []))) ⟨t, rfl, top_of_nodes ok hp hl ?_ fun y hy => t2 _ (List.mem_map.mpr ⟨y, (hf y).mpr hy, rfl⟩)⟩⟩
      obtain ⟨y, hy, e⟩ := List.mem_map.mp t1
      exact ⟨y, (hf y).mp hy, e⟩
def sp_dip_from (K : PySem.W.Frag) : Sp := Gives fun vs C post => ∃ a x hi N i p, vs = [.ref a, x, .int hi] ∧ NetAt C a (N i) ∧ SpotV C x p ∧ (N i).has p ∧ (N i).lv p ≤ hi ∧ post = fun v C' => ∃ t, v = .int t ∧ IsDip N i p hi t
theorem c_dip_from (T : Txt K mg) : C8.Cal P w K mg base 5 "dip_from" (sp_dip_from K) [] := by
  refine mkCal (N := ["net", "spot", "high", "levels", "name"]) (ps := ["net", "spot", "high"]) T.d_dip_from T.g_dip_from (fun _ _ _ _ _ _ us hl => match us, hl with | [_, _, _], _ => rfl) (by decide +kernel) (fun vs H Q E h => ?_) (fun cdv A outer s H vs Q E hr h => ?_)
  · obtain ⟨C, post, sc, ⟨a, x, lo, N, i, p, rfl, hN, hx, hp, hl, rfl⟩, q⟩ := h; rfl
  · obtain ⟨C, post, sc, ⟨a, x, lo, N, i, p, rfl, hN, hx, hp, hl, rfl⟩, q⟩ := h
    have nd : (["net", "spot", "high", "levels", "name"] : List Str).Nodup := by decide +kernel
    have hu := units1 hr
    refine ⟨_, (pss_cons (ps_set (i := 3) nd rfl (Or.inr rfl) (C8.pe_mt0 (q_Net_nodes T) hr (by decide) (pv 0)))
      (pss_one (ps_ret (pe_callB (cr_min rfl) (by rfl) T.f_min b_min (pa_cons (pe_lc (own := [("name", 4)]) (by rfl) nd (pi_keysF (C8.pe_c (c_reach_from T) hr (by decide) (by rfl) (pa_cons (pv 0) (pa_cons (pv 1) (pa_cons pe_non (pa_cons (pv 2) pa_nil)))))) (blkOk_by (own := [("name", 4)]) (N := ["net", "spot", "high", "levels", "name"]) (sc := C8.fnScope s_dip_from) (by decide +kernel)) (fun _ _ _ _ _ => (pg_name (i := 4) nd rfl (Or.inl rfl))) (fun _ _ _ _ _ => pts_nil) (fun _ _ _ _ _ => (pe_callTy call_int1 (by rfl) T.f_int b_int (pa_cons (pe_dget hu (pv 3) (pv 4) (fun _ _ => rfl)) pa_nil)))) pa_nil))))), ?_⟩
    have ok := hN.ok
    obtain ⟨dx, l, ed, nn, hA, _⟩ := hN.ex
    refine ⟨_, rfl, a, dx, _, rfl, sc _ _ hA, rfl, C, _, sc, ⟨a, N i, rfl, hN, rfl⟩, fun v C1 H1 n1 ⟨dl, hs, ev, pmh, hl1⟩ => ?_⟩
    subst ev
    have hlev : LevD C1 dl (N i) := ⟨hs, pmh, .inl hl1⟩
    refine ⟨_, rfl, _, rfl, _, rfl, C1, _, n1.ch, ⟨a, x, none, some lo, N i, p, rfl, hN.le n1.le, hx.le n1.le, hp, rfl⟩, fun v C2 H2 a2 ⟨e, ys, ev, e0, he, hnd, hks, hf⟩ => ?_⟩
    subst ev
    have hlen : ys.length ≤ 5 := Nat.le_trans (nodup_le hnd hks) (by unfold NetD.ks; rw [List.length_map]; exact ok.few)
    refine ⟨e, _, rfl, a2.ch _ _ he, trivial, fun od => ⟨e, od, rfl, .inl ⟨tD ys, upd_same, ?_⟩⟩⟩
    have n2 := n1.trans (a2.frz (od := od) e0 he)
    have hlev2 := (hlev.le a2.le).le (Le.lock (od := od) he)
    refine lcMap (M := []) walk_keys (fun j v _ => ∀ y, ys[j]? = some y → v = .int ((N i).lev y)) n2.ch (fun _ h => nomatch h) (szK (by rw [tD_len]; omega)) (fun C' H' n => n.ch _ _ (n.cc _ _ upd_same)) (fun _ _ _ _ _ h => h) (fun j v C' H3 H4 Z hj n y k => ?_) (fun r acc C' H3 n cr hr hH hal ha => ?_)
    · obtain ⟨rfl, kk, u, ek, rfl⟩ := y
      obtain ⟨y, hy, rfl⟩ := tD_get ek
      have hyk := hks y (List.mem_of_getElem? hy)
      exact ⟨rfl, _, rfl, _, rfl, dl, _, rfl, (hlev2.le n.le).dget n.ch ok hyk, .inl ⟨_, rfl, k _ C' H4 (.rfl n.ch) fun z hz => by rw [hy] at hz; cases hz; rfl⟩⟩
    · rw [tD_len] at hal
      have e1 : acc = (ys.map (N i).lev).map V.int := by
        rw [List.map_map]; exact acc_map hal ha
      rw [e1] at hH
      obtain ⟨y0, hy0⟩ := dip_ne ok hp hl
      rw [bb_le] at hf
      have hy0 := (hf y0).mpr hy0
      refine ⟨r, ys.map (N i).lev, rfl, .of hH, by rw [List.length_map]; exact List.length_pos_of_mem hy0, fun t t1 t2 => q _ _ _ (n2.trans (n.pure (M := []))) ⟨t, rfl, dip_of_nodes ok hp hl ?_ fun y hy => t2 _ (List.mem_map.mpr ⟨y, (hf y).mpr hy, rfl⟩)⟩⟩
      obtain ⟨y, hy, e⟩ := List.mem_map.mp t1
      exact ⟨y, (hf y).mp hy, e⟩
def sp_top_of (K : PySem.W.Frag) : Sp := Gives fun vs C post => ∃ a x lo N i p, vs = [.ref a, x, .int lo] ∧ NetAt C a (N i) ∧ SpotV C x p ∧ (N i).has p ∧ lo ≤ (N i).lv p ∧ post = fun v C' => ∃ t, v = .int t ∧ IsTop N i p lo t
theorem c_top_of (T : Txt K mg) : C8.Cal P w K mg base 7 "top_of" (sp_top_of K) [] := by
  refine mkCal (N := ["net", "spot", "low"]) (ps := ["net", "spot", "low"]) T.d_top_of T.g_top_of (fun _ _ _ _ _ _ us hl => match us, hl with | [_, _, _], _ => rfl) (by decide +kernel) (fun vs H Q E h => ?_) (fun cdv A outer s H vs Q E hr h => ?_)
  · obtain ⟨C, post, sc, ⟨a, x, lo, N, i, p, rfl, hN, hx, hp, hl, rfl⟩, q⟩ := h; rfl
  · obtain ⟨C, post, sc, ⟨a, x, lo, N, i, p, rfl, hN, hx, hp, hl, rfl⟩, q⟩ := h
    refine ⟨_, (pss_cons (ps_expr (C8.pe_c (c_want_net T) hr (by decide) (by rfl) (pa_cons (pv 0) pa_nil)))
      (pss_cons (ps_expr (C8.pe_c (c_want_spot T) hr (by decide) (by rfl) (pa_cons (pv 0) (pa_cons (pv 1) pa_nil))))
      (pss_cons (ps_expr (C8.pe_c (c_want_level T) hr (by decide) (by rfl) (pa_cons (pv 2) pa_nil)))
      (pss_cons (ps_if (pt_cmpR op_gt (pv 2) (C8.pe_mt (q_Net_level_at T) hr (by decide) (pv 0) (pa_cons (pv 1) pa_nil)) (nomark _)) pss_never pss_nil)
      (pss_one (ps_ret (C8.pe_c (c_top_from T) hr (by decide) (by rfl) (pa_cons (pv 0) (pa_cons (pv 1) (pa_cons (pv 2) pa_nil)))))))))), ?_⟩
    refine ⟨_, rfl, C, _, sc, ⟨a, N i, rfl, hN, rfl⟩, fun C1 H1 n1 => ?_⟩
    refine ⟨_, rfl, _, rfl, C1, _, n1.ch, ⟨a, N i, x, p, rfl, hN.le n1.le, hx.le n1.le, hp, rfl⟩, fun C2 H2 a2 => ?_⟩
    have n2 := n1.trans a2
    obtain ⟨dx, l, ed, nn, hA, _⟩ := (hN.le n2.le).ex
    refine ⟨_, rfl, lo, rfl, _, rfl, _, rfl, a, dx, _, rfl, n2.ch _ _ hA, rfl, _, rfl, C2, _, n2.ch, ⟨a, N i, x, p, rfl, hN.le n2.le, hx.le n2.le, hp, rfl⟩, fun C3 H3 a3 => ⟨_, _, rfl, rfl, _, rfl, iteQ (by omega) ?_⟩⟩
    have n3 := n2.trans a3
    exact ⟨_, rfl, _, rfl, _, rfl, C3, _, n3.ch, ⟨a, x, lo, N, i, p, rfl, hN.le n3.le, hx.le n3.le, hp, hl, rfl⟩, fun v C4 H4 a4 h => q _ _ _ (n3.trans a4) h⟩
def sp_dip_of (K : PySem.W.Frag) : Sp := Gives fun vs C post => ∃ a x hi N i p, vs = [.ref a, x, .int hi] ∧ NetAt C a (N i) ∧ SpotV C x p ∧ (N i).has p ∧ (N i).lv p ≤ hi ∧ post = fun v C' => ∃ t, v = .int t ∧ IsDip N i p hi t
theorem c_dip_of (T : Txt K mg) : C8.Cal P w K mg base 7 "dip_of" (sp_dip_of K) [] := by
  refine mkCal (N := ["net", "spot", "high"]) (ps := ["net", "spot", "high"]) T.d_dip_of T.g_dip_of (fun _ _ _ _ _ _ us hl => match us, hl with | [_, _, _], _ => rfl) (by decide +kernel) (fun vs H Q E h => ?_) (fun cdv A outer s H vs Q E hr h => ?_)
  · obtain ⟨C, post, sc, ⟨a, x, lo, N, i, p, rfl, hN, hx, hp, hl, rfl⟩, q⟩ := h; rfl
  · obtain ⟨C, post, sc, ⟨a, x, lo, N, i, p, rfl, hN, hx, hp, hl, rfl⟩, q⟩ := h
    refine ⟨_, (pss_cons (ps_expr (C8.pe_c (c_want_net T) hr (by decide) (by rfl) (pa_cons (pv 0) pa_nil)))
      (pss_cons (ps_expr (C8.pe_c (c_want_spot T) hr (by decide) (by rfl) (pa_cons (pv 0) (pa_cons (pv 1) pa_nil))))
      (pss_cons (ps_expr (C8.pe_c (c_want_level T) hr (by decide) (by rfl) (pa_cons (pv 2) pa_nil)))
      (pss_cons (ps_if (pt_cmpR op_lt (pv 2) (C8.pe_mt (q_Net_level_at T) hr (by decide) (pv 0) (pa_cons (pv 1) pa_nil)) (nomark _)) pss_never pss_nil)
      (pss_one (ps_ret (C8.pe_c (c_dip_from T) hr (by decide) (by rfl) (pa_cons (pv 0) (pa_cons (pv 1) (pa_cons (pv 2) pa_nil)))))))))), ?_⟩
    refine ⟨_, rfl, C, _, sc, ⟨a, N i, rfl, hN, rfl⟩, fun C1 H1 n1 => ?_⟩
    refine ⟨_, rfl, _, rfl, C1, _, n1.ch, ⟨a, N i, x, p, rfl, hN.le n1.le, hx.le n1.le, hp, rfl⟩, fun C2 H2 a2 => ?_⟩
    have n2 := n1.trans a2
    obtain ⟨dx, l, ed, nn, hA, _⟩ := (hN.le n2.le).ex
    refine ⟨_, rfl, lo, rfl, _, rfl, _, rfl, a, dx, _, rfl, n2.ch _ _ hA, rfl, _, rfl, C2, _, n2.ch, ⟨a, N i, x, p, rfl, hN.le n2.le, hx.le n2.le, hp, rfl⟩, fun C3 H3 a3 => ⟨_, _, rfl, rfl, _, rfl, iteQ (by omega) ?_⟩⟩
    have n3 := n2.trans a3
    exact ⟨_, rfl, _, rfl, _, rfl, C3, _, n3.ch, ⟨a, x, lo, N, i, p, rfl, hN.le n3.le, hx.le n3.le, hp, hl, rfl⟩, fun v C4 H4 a4 h => q _ _ _ (n3.trans a4) h⟩
def sp_levels_beside (K : PySem.W.Frag) : Sp := Gives fun vs C post => ∃ a nl m, ∃ names : List Str, vs = [.ref a, .ref nl] ∧ NetAt C a m ∧ C nl = some (.lst (names.map V.str)) ∧ (∀ y ∈ names, y ∈ m.ks) ∧ names.length ≤ 5 ∧ post = fun v C' => ∃ f, ∃ is : List Int, v = .ref f ∧ C' f = some (.lst (is.map V.int)) ∧ is.length ≤ 100
theorem c_levels_beside (T : Txt K mg) : C8.Cal P w K mg base 4 "levels_beside" (sp_levels_beside K) [] := by
  refine mkCal (N := ["net", "names", "levels", "found", "name", "near"]) (ps := ["net", "names"]) T.d_levels_beside T.g_levels_beside (fun _ _ _ _ _ _ us hl => match us, hl with | [_, _], _ => rfl) (by decide +kernel) (fun vs H Q E h => ?_) (fun cdv A outer s H vs Q E hr h => ?_)
  · obtain ⟨C, post, sc, ⟨a, nl, m, names, rfl, hN, hnl, hks, hlen, rfl⟩, q⟩ := h; rfl
  · obtain ⟨C, post, sc, ⟨a, nl, m, names, rfl, hN, hnl, hks, hlen, rfl⟩, q⟩ := h
    have nd : (["net", "names", "levels", "found", "name", "near"] : List Str).Nodup := by decide +kernel
    have hu := units1 hr
    refine ⟨_, (pss_cons (ps_asg (pe_tup (pa_cons (C8.pe_mt0 (q_Net_nodes T) hr (by decide) (pv 0)) (pa_cons (pe_lst pa_nil) pa_nil))) (pg_tup (n := 2) (by rfl) (pgs_cons (pg_name (i := 2) nd rfl (Or.inr rfl)) (pgs_cons (pg_name (i := 3) nd rfl (Or.inl rfl)) pgs_nil))))
      (pss_cons (ps_for PassesOwn.never rfl (pi_list (pv 1)) (pg_name (i := 4) nd rfl (Or.inl rfl)) (pss_one (ps_expr (pe_bm PySem.F.plainAttrs_list PySem.F.slot_list_extend PySem.F.type_list_extend mt_extend (pv 3) (pa_cons (pe_lc (own := [("near", 5)]) (by rfl) nd (pi_list (C8.pe_mt (q_Net_neighbours T) hr (by decide) (pv 0) (pa_cons (pv 4) pa_nil))) (blkOk_by (own := [("near", 5)]) (N := ["net", "names", "levels", "found", "name", "near"]) (sc := C8.fnScope s_levels_beside) (by decide +kernel)) (fun _ _ _ _ _ => (pg_name (i := 5) nd rfl (Or.inl rfl))) (fun _ _ _ _ _ => pts_nil) (fun _ _ _ _ _ => (pe_dget hu (pv 2) (pv 5) (fun _ _ => rfl)))) pa_nil)))))
      (pss_one (ps_ret (pv 3))))), ?_⟩
    have ok := hN.ok
    obtain ⟨dx, l, ed, nn, hA, _⟩ := hN.ex
    refine ⟨_, rfl, a, dx, _, rfl, sc _ _ hA, rfl, C, _, sc, ⟨a, m, rfl, hN, rfl⟩, fun v C1 H1 n1 ⟨dl, hs, ev, pmh, hl1⟩ => ?_⟩
    subst ev
    refine ⟨sz0, fun F hF => ⟨sz2, fun t ht => ⟨t, _, rfl, .of upd_same, rfl, _, _, rfl, _, _, rfl, rfl, ?_⟩⟩⟩
    have a2 : Nx [] C1 H1 C1 (upd H1 F (.lst [])) := .tmp0 n1.ch hF
    have d2 : Dt C1 (upd H1 F (.lst [])) F (.lst []) := .make n1.ch hF
    have a3 : Nx [] C1 (upd H1 F (.lst [])) C1 (upd (upd H1 F (.lst [])) t (.tup [.ref dl, .ref F])) := .tmp0 a2.ch ht
    have d3 := d2.on a3
    have n3 := a2.trans a3
    have hlev : LevD C1 dl m := ⟨hs, pmh, .inl hl1⟩
    refine ⟨_, rfl, nl, rfl, ⟨_, .of (n3.ch _ _ (n1.cc _ _ hnl))⟩, ?_⟩
    refine for_it walk_list (fun i σ H' => ∃ z1 z2 C', ∃ is : List Int, σ = [some (.ref a), some (.ref nl), some (.ref dl), some (.ref F), z1, z2] ∧ Nx [] C1 H1 C' H' ∧ Dt C' H' F (.lst (is.map V.int)) ∧ is.length ≤ 20 * i) ⟨_, _, C1, [], rfl, n3, d3, Nat.zero_le _⟩ (fun i σ H' _ ⟨_, _, C', _, _, n, _⟩ => .of (n.ch _ _ (n.cc _ _ (n1.cc _ _ hnl)))) (fun i v σ H4 H5 hi ⟨z1, z2, C', is, es, n, d, hil⟩ y => ?_) (fun σ H4 ⟨z1, z2, C', is, es, n, d, hil⟩ => ?_)
    · obtain ⟨rfl, hv⟩ := y
      subst es
      rw [List.length_map] at hi
      rw [List.getElem?_map] at hv
      obtain ⟨y, hy, rfl⟩ := Option.map_eq_some_iff.mp hv
      have hyk := hks y (List.mem_of_getElem? hy)
      have g := n1.trans n
      refine ⟨_, rfl, .inl ⟨rfl, _, .of d.at_⟩, _, rfl, a, dx, _, rfl, g.ch _ _ (g.cc _ _ hA), rfl, _, rfl, C', _, n.ch, ⟨a, m, y, rfl, hN.le g.le, hyk, rfl⟩, fun v C6 H6 a6 ⟨b, ns, ev, hb, hbl, hbm⟩ => ?_⟩
      subst ev
      have d6 := d.on a6
      have n6 := n.trans a6
      refine ⟨b, rfl, ⟨_, .of (n6.ch _ _ hb)⟩, ?_⟩
      refine lcMap (M := []) walk_list (fun j v _ => ∀ y, ns[j]? = some y → v = .int (m.lev y)) n6.ch (fun _ h => nomatch h) (szK (by rw [List.length_map]; omega)) (fun C' H' n => .of (n.ch _ _ (n.cc _ _ hb))) (fun _ _ _ _ _ h => h) (fun j v C7 H7 H8 Z hj n7 yy k => ?_) (fun r acc C7 H7 n7 cr hr hH hal ha => ?_)
      · obtain ⟨rfl, hv⟩ := yy
        rw [List.getElem?_map] at hv
        obtain ⟨u, hu, rfl⟩ := Option.map_eq_some_iff.mp hv
        have huk : u ∈ m.ks := nbr_ks ok ((hbm u).mp (List.mem_of_getElem? hu))
        exact ⟨rfl, _, rfl, _, rfl, dl, _, rfl, (hlev.le (n6.trans n7).le).dget n7.ch ok huk, k _ C7 H8 (.rfl n7.ch) fun z hz => by rw [hu] at hz; cases hz; rfl⟩
      · rw [List.length_map] at hal
        have e1 : acc = (ns.map m.lev).map V.int := by
          rw [List.map_map]; exact acc_map hal ha
        have d7 := d6.on n7
        refine ⟨F, r, _, _, rfl, rfl, d7.at_, hH, szK (by rw [List.length_map, hal]; omega), _, _, C7, is ++ ns.map m.lev, rfl, (n6.trans n7).put d7 hF, ?_, ?_⟩
        · rw [e1, List.map_append]; exact d7.put
        · rw [List.length_append, List.length_map]; omega
    · subst es
      rw [List.length_map] at hil
      exact ⟨_, rfl, q _ _ _ (n1.trans (n.keep d.at_ hF)) ⟨F, is, rfl, upd_same, by omega⟩⟩
end
end AbW

/-! ## Wa -/
set_option Elab.async false
set_option linter.all false
set_option maxRecDepth 100000
set_option maxHeartbeats 4000000
/-! Wa: parts -/
namespace AbW
open PySem PySem.Spec PyProof.Rows L2 AbH AbR Ab
def MarkV (C : Hp) (t : Addr) (names : List Str) (p : Spot) : Prop := (names ≠ [] ∧ C t = some (.tup (names.map V.str))) ∨ (names = [] ∧ ∃ q l u h, p = .inn l u h ∧ C t = some (.tup [.ref q]) ∧ C q = some (.tup [.str l, .str u]))
abbrev lkF (fs : List (Str × V)) (x : Str) : Option V := fs.lookup x
structure PartAt (C : Hp) (a : Addr) (m : NetD) (names : List Str) (p : Spot) (lo hi : Int) : Prop where
  ok : m.Ok
  ks : ∀ y ∈ names, y ∈ m.ks
  ex : ∃ dx fs nl mk en lv ed, C a = some (.ins 1188 dx fs) ∧ lkF fs "own_names" = some (.ref nl) ∧ lkF fs "own_mark" = some (.ref mk) ∧ lkF fs "own_ends" = some (.ref en) ∧ lkF fs "own_levels" = some (.ref lv) ∧ lkF fs "own_edges" = some (.ref ed) ∧
    C nl = some (.lst (names.map V.str)) ∧ MarkV C mk names p ∧ C en = some (.tup [.int lo, .int hi]) ∧ LevD C lv m ∧ EdgL C ed m.es
section
variable {C C' : Hp} {t a : Addr} {names : List Str} {p : Spot} {m : NetD} {lo hi : Int}
theorem MarkV.le (e : Le C C') (h : MarkV C t names p) : MarkV C' t names p := by
  rcases h with ⟨h1, h2⟩ | ⟨h1, q, l, u, h, e1, e2, e3⟩
  · exact .inl ⟨h1, e.ex _ _ h2 rfl⟩
  · exact .inr ⟨h1, q, l, u, h, e1, e.ex _ _ e2 rfl, e.ex _ _ e3 rfl⟩
theorem PartAt.le (e : Le C C') (h : PartAt C a m names p lo hi) : PartAt C' a m names p lo hi := by
  obtain ⟨dx, fs, nl, mk, en, lv, ed, h0, h1, h2, h3, h4, h5, h6, h7, h8, h9, h10⟩ := h.ex
  exact ⟨h.ok, h.ks, dx, fs, nl, mk, en, lv, ed, e.ex _ _ h0 rfl, h1, h2, h3, h4, h5, e.ex _ _ h6 rfl, h7.le e, e.ex _ _ h8 rfl, h9.le e, h10.le e⟩
end
theorem Dt.fput {C0 H0 C H : Hp} {x dx : Addr} {fs fs' : List (Str × V)} {Cl : Addr} (d : Dt C H x (.ins Cl dx fs)) (n : Nx [x] C0 H0 C H) : Nx [x] C0 H0 C (upd H x (.ins Cl dx fs')) ∧ Dt C (upd H x (.ins Cl dx fs')) x (.ins Cl dx fs') :=
  ⟨n.mutM d.no (List.mem_singleton_self x), d.put⟩
/-- what a value is, told once for all that follows -/
theorem cutQ {t : TE} {σ : L2.St} {H : Hp} {Q : VK} (R : V → Hp → Prop) (h : ∀ Q' : VK, (∀ v H', R v H' → Q' v H') → t σ H Q') (k : ∀ v H', R v H' → Q v H') : t σ H Q := h Q k
theorem cutSF {K : PySem.W.Frag} {ta tv : TE} {f : Str} {rest : TS} {D : Ends} {σ : L2.St} {H : Hp} (R : V → Hp → Prop) (h : ∀ Q' : VK, (∀ v H', R v H' → Q' v H') → tv σ H Q')
    (k : ∀ v H', R v H' → ta σ H' fun x H2 => ∃ a C dx fs, x = .ref a ∧ H2 a = some (.ins C dx fs) ∧ Cls K C ∧ NoAttr K C f ∧ fs.length < 1000 ∧ rest D σ (upd H2 a (.ins C dx (putF f v fs)))) : tSeq (sFld K ta tv f) rest D σ H := h _ k
theorem cutSA {te : TE} {g : TG} {rest : TS} {D : Ends} {σ : L2.St} {H : Hp} (R : V → Hp → Prop) (h : ∀ Q' : VK, (∀ v H', R v H' → Q' v H') → te σ H Q') (k : ∀ v H', R v H' → g v σ H' fun σ' H2 => rest D σ' H2) : tSeq (tAsg te g) rest D σ H := h _ k
theorem acc_bl : ∀ {acc : List V}, (∀ v ∈ acc, ∃ b, v = .bl b) → ∃ bs : List Bool, acc = bs.map V.bl
  | [], _ => ⟨[], rfl⟩
  | v :: acc, h => by
    obtain ⟨b, e⟩ := h v (List.mem_cons_self ..)
    obtain ⟨bs, e2⟩ := acc_bl fun u hu => h u (List.mem_cons_of_mem _ hu)
    exact ⟨b :: bs, by rw [e, e2]; rfl⟩
theorem shaped_nil : SeqAt.shaped (.list []) = true := shaped_strs (xs := []) fun _ h => nomatch h
section
variable {P : Program} {w : World} {K : PySem.W.Frag} {mg : Str → Option Value} {base : Heap}
def sp_Part (K : PySem.W.Frag) : Sp := fun vs H Q _ => ∃ C x dx a b t m lo hi p, ∃ names : List Str, Same C H ∧ vs = [.ref x, .ref a, .ref b, .ref t] ∧ H x = some (.ins 1188 dx []) ∧ C x = none ∧ NetAt C a m ∧ SpanAt C b lo hi ∧ MarkV C t names p ∧
  (∀ y ∈ names, y ∈ m.ks ∧ lo ≤ m.lev y ∧ m.lev y ≤ hi) ∧ lo ≤ hi ∧ names.length ≤ 5 ∧ ∀ C' H' o, Nx [x] C H C' H' → C' x = none → H' x = some o → PartAt (upd C' x o) x m names p lo hi → Q .non H'
theorem m_Part (T : Txt K mg) : C8.Mak P w K mg base 5 "Part" 1188 (sp_Part K) [] := by
  refine mkMak (N := ["self", "net", "span", "mark", "names", "beside", "high", "low", "name", "level"]) (ps := ["self", "net", "span", "mark"]) T.d_Part_init T.mk_Part T.g_Part (fun _ _ _ _ _ _ us hl => match us, hl with | [_, _, _, _], _ => rfl) (by decide +kernel) (fun vs H Q E h => ?_) (fun cdv A outer s H vs Q E hr h => ?_)
  · obtain ⟨C, x, dx, a, b, t, m, lo, hi, p, names, sc, rfl, hx, cx, hN, hS, hM, hks, hlh, hnl, q⟩ := h; rfl
  · obtain ⟨C, x, dx, a, b, t, m, lo, hi, p, names, sc, rfl, hx, cx, hN, hS, hM, hks, hlh, hnl, q⟩ := h
    have nd : (["self", "net", "span", "mark", "names", "beside", "high", "low", "name", "level"] : List Str).Nodup := by decide +kernel
    have hu := units1 hr
    refine ⟨_, (pss_cons (ps_setLc (i := 4) (own := [("name", 8)]) (by rfl) nd rfl rfl (sw_true rfl rfl rfl (by decide +kernel)) (pi_tup (pv 3)) (blkOk_by (own := [("name", 8)]) (N := ["self", "net", "span", "mark", "names", "beside", "high", "low", "name", "level"]) (sc := C8.fnScope s_Part_init) (by decide +kernel)) (fun _ _ _ _ _ => (pg_name (i := 8) nd rfl (Or.inl rfl))) (fun _ _ _ _ _ => (pts_one (pt_val (pe_callB (call_isi1K (K := K) rfl) (by rfl) T.f_isinstance b_isinstance (pa_cons (pv 8) (pa_cons (pe_bltn (v := .ty "str") (by rfl) T.f_str b_str rfl) pa_nil)))))) (fun _ _ _ _ _ => (pv 8)))
      (pss_cons (ps_set (i := 5) nd rfl (Or.inl rfl) (C8.pe_c (c_levels_beside T) hr (by decide) (by rfl) (pa_cons (pv 1) (pa_cons (pv 4) pa_nil))))
      (pss_cons (ps_asg (pe_tup (pa_cons (pv 1) (pa_cons (pv 2) (pa_cons (pv 3) pa_nil)))) (pg_tup (n := 3) (by rfl) (pgs_cons (pg_fld (pv 0)) (pgs_cons (pg_fld (pv 0)) (pgs_cons (pg_fld (pv 0)) pgs_nil)))))
      (pss_cons (ps_fld (pv 0) (pe_tup (pa_cons (pe_pr (p_Span_low T) hr (by decide) (pv 2)) (pa_cons (pe_pr (p_Span_high T) hr (by decide) (pv 2)) pa_nil))) rfl)
      (pss_cons (ps_asg (pe_tup (pa_cons (C8.pe_mt0 (q_Net_nodes T) hr (by decide) (pv 1)) (pa_cons (C8.pe_mt0 (q_Net_edges T) hr (by decide) (pv 1)) pa_nil))) (pg_tup (n := 2) (by rfl) (pgs_cons (pg_fld (pv 0)) (pgs_cons (pg_fld (pv 0)) pgs_nil))))
      (pss_cons (ps_fld (pv 0) (pv 4) rfl)
      (pss_cons (ps_fld (pv 0) (pe_tup (pa_cons (pe_fld (pv 0) rfl) (pa_cons (pe_fld (pv 0) rfl) (pa_cons (pe_fld (pv 0) rfl) (pa_cons (pv 3) pa_nil))))) rfl)
      (pss_cons (ps_fld (pv 0) (pe_or (pe_cmpR (op_eqD hr.units) (pv 4) (pe_lst pa_nil) (nomark _)) (pe_one (pe_callB (cr_any rfl) (by rfl) T.f_any b_any (pa_cons (pe_lc (own := [("level", 9)]) (by rfl) nd (pi_list (pv 5)) (blkOk_by (own := [("level", 9)]) (N := ["self", "net", "span", "mark", "names", "beside", "high", "low", "name", "level"]) (sc := C8.fnScope s_Part_init) (by decide +kernel)) (fun _ _ _ _ _ => (pg_name (i := 9) nd rfl (Or.inl rfl))) (fun _ _ _ _ _ => pts_nil) (fun _ _ _ _ _ => (pe_cmpR op_gt (pv 9) (pe_pr (p_Span_high T) hr (by decide) (pv 2)) (nomark _)))) pa_nil)))) rfl)
      (pss_cons (ps_fld (pv 0) (pe_or (pe_cmpR (op_eqD hr.units) (pv 4) (pe_lst pa_nil) (nomark _)) (pe_one (pe_callB (cr_any rfl) (by rfl) T.f_any b_any (pa_cons (pe_lc (own := [("level", 9)]) (by rfl) nd (pi_list (pv 5)) (blkOk_by (own := [("level", 9)]) (N := ["self", "net", "span", "mark", "names", "beside", "high", "low", "name", "level"]) (sc := C8.fnScope s_Part_init) (by decide +kernel)) (fun _ _ _ _ _ => (pg_name (i := 9) nd rfl (Or.inl rfl))) (fun _ _ _ _ _ => pts_nil) (fun _ _ _ _ _ => (pe_cmpR op_lt (pv 9) (pe_pr (p_Span_low T) hr (by decide) (pv 2)) (nomark _)))) pa_nil)))) rfl)
      (pss_cons (ps_set (i := 6) nd rfl (Or.inl rfl) (pe_ifExp (pt_val (pe_fld (pv 0) rfl)) (pe_pr (p_Span_high T) hr (by decide) (pv 2)) (pe_callB (cr_max rfl) (by rfl) T.f_max b_max (pa_cons (pe_lc (own := [("name", 8)]) (by rfl) nd (pi_list (pv 4)) (blkOk_by (own := [("name", 8)]) (N := ["self", "net", "span", "mark", "names", "beside", "high", "low", "name", "level"]) (sc := C8.fnScope s_Part_init) (by decide +kernel)) (fun _ _ _ _ _ => (pg_name (i := 8) nd rfl (Or.inl rfl))) (fun _ _ _ _ _ => pts_nil) (fun _ _ _ _ _ => (pe_callTy call_int1 (by rfl) T.f_int b_int (pa_cons (pe_dget hu (pe_fldK (K := K) rfl (pv 0) rfl) (pv 8) (fun _ _ => rfl)) pa_nil)))) pa_nil))))
      (pss_cons (ps_set (i := 7) nd rfl (Or.inl rfl) (pe_ifExp (pt_val (pe_fld (pv 0) rfl)) (pe_pr (p_Span_low T) hr (by decide) (pv 2)) (pe_callB (cr_min rfl) (by rfl) T.f_min b_min (pa_cons (pe_lc (own := [("name", 8)]) (by rfl) nd (pi_list (pv 4)) (blkOk_by (own := [("name", 8)]) (N := ["self", "net", "span", "mark", "names", "beside", "high", "low", "name", "level"]) (sc := C8.fnScope s_Part_init) (by decide +kernel)) (fun _ _ _ _ _ => (pg_name (i := 8) nd rfl (Or.inl rfl))) (fun _ _ _ _ _ => pts_nil) (fun _ _ _ _ _ => (pe_callTy call_int1 (by rfl) T.f_int b_int (pa_cons (pe_dget hu (pe_fldK (K := K) rfl (pv 0) rfl) (pv 8) (fun _ _ => rfl)) pa_nil)))) pa_nil))))
      (pss_one (ps_fld (pv 0) (C8.pe_mk (m_Span T) hr (by decide) (by rfl) (pa_cons (pv 7) (pa_cons (pv 6) pa_nil))) rfl))))))))))))), ?_⟩
    have ok := hN.ok
    have D0 : Dt C H x (.ins 1188 dx []) := ⟨cx, hx⟩
    -- the names of the mark
    obtain ⟨xs, hT, hxs⟩ : ∃ xs, C t = some (.tup xs) ∧ ((xs = names.map V.str) ∨ (names = [] ∧ ∃ q l u, xs = [.ref q] ∧ C q = some (.tup [.str l, .str u]))) := by
      rcases hM with ⟨_, h2⟩ | ⟨h1, q, l, u, h, _, e2, e3⟩
      · exact ⟨_, h2, .inl rfl⟩
      · exact ⟨_, e2, .inr ⟨h1, q, l, u, rfl, e3⟩⟩
    have xl : xs.length ≤ 5 := by
      rcases hxs with rfl | ⟨_, q, l, u, rfl, _⟩
      · rw [List.length_map]; exact hnl
      · simp
    refine ⟨_, rfl, t, rfl, ⟨_, .of (sc _ _ hT)⟩, fun L hL => ?_⟩
    refine lcN (M := []) walk_tup (fun i acc _ => acc = (names.take i).map V.str) sc hL (fun h => nomatch h) (szK (by omega)) rfl (fun i acc _ r => by rw [r, List.length_map, List.length_take]; omega) (fun C' H' n => .of (n.ch _ _ (n.cc _ _ hT))) (fun i v acc C' H1 H2 Z Z0 hi' n r y k k0 => ?_) (fun acc C1 H1 n1 r cL hH => ?_)
    · obtain ⟨rfl, hv⟩ := y
      rcases hxs with rfl | ⟨e0, q, l, u, rfl, hq⟩
      · rw [List.getElem?_map] at hv
        obtain ⟨y, hy, rfl⟩ := Option.map_eq_some_iff.mp hv
        refine ⟨rfl, _, rfl, _, _, _, _, rfl, .base (.str y), k_str_str, _, rfl, iteT ⟨_, rfl, k _ C' H2 (.rfl n.ch) ?_⟩⟩
        rw [r, List.take_add_one, hy, List.map_append]; rfl
      · obtain rfl : i = 0 := by simp at hi'; omega
        cases hv
        refine ⟨rfl, _, rfl, _, _, _, _, rfl, .base (.tup (n.ch _ _ (n.cc _ _ hq))), k_tuple_str, _, rfl, iteF (k0 C' H2 (.rfl n.ch) ?_)⟩
        rw [r, e0]; rfl
    have r : acc = names.map V.str := by
      rcases hxs with rfl | ⟨e0, q, l, u, rfl, hq⟩
      · rw [List.length_map, List.take_length] at r; exact r
      · rw [r, e0]; rfl
    subst r
    have D1 := D0.on n1
    have n1 := n1.keep hH hL
    have hLx : L ≠ x := fun z => by rw [z, hx] at hL; cases hL
    have D1 : Dt (upd C1 L (.lst (names.map V.str))) H1 x (.ins 1188 dx []) := ⟨by rw [upd_ne (Ne.symm hLx)]; exact D1.no, D1.at_⟩
    have hL1 : (upd C1 L (.lst (names.map V.str))) L = some (.lst (names.map V.str)) := upd_same
    generalize upd C1 L (.lst (names.map V.str)) = C1 at n1 D1 hL1
    refine ⟨_, rfl, _, rfl, C1, _, n1.ch, ⟨a, L, m, names, rfl, hN.le n1.le, hL1, fun y hy => (hks y hy).1, hnl, rfl⟩, fun v C2 H2 a2 ⟨F, is, ev, hF, isl⟩ => ?_⟩
    subst ev
    have D2 := D1.on a2
    have n2 := (n1.trans a2).pure (M := [x])
    have hL2 := a2.cc _ _ hL1
    -- own_net, own_span, own_mark
    refine ⟨_, rfl, _, rfl, _, rfl, sz3, fun u hu => ⟨u, _, rfl, .of upd_same, rfl, _, _, rfl, ?_⟩⟩
    have a3 : Nx [] C2 H2 C2 (upd H2 u (.tup [.ref a, .ref b, .ref t])) := .tmp0 n2.ch hu
    have D3 := D2.on a3
    have n3 := n2.trans (a3.pure (M := [x]))
    refine ⟨_, rfl, x, _, dx, _, rfl, D3.at_, T.cls_Part, T.no_Part_own_net, (show (0 : Nat) < 1000 by decide), _, _, rfl, ?_⟩
    obtain ⟨n3, D3⟩ := D3.fput (fs' := putF "own_net" (.ref a) []) n3
    generalize upd _ x (HO.ins 1188 dx (putF "own_net" (V.ref a) [])) = H4 at n3 D3 ⊢
    refine ⟨_, rfl, x, _, dx, _, rfl, D3.at_, T.cls_Part, T.no_Part_own_span, (show (1 : Nat) < 1000 by decide), _, _, rfl, ?_⟩
    obtain ⟨n3, D3⟩ := D3.fput (fs' := putF "own_span" (.ref b) (putF "own_net" (.ref a) [])) n3
    generalize upd _ x (HO.ins 1188 dx (putF "own_span" _ _)) = H4 at n3 D3 ⊢
    refine ⟨_, rfl, x, _, dx, _, rfl, D3.at_, T.cls_Part, T.no_Part_own_mark, (show (2 : Nat) < 1000 by decide), rfl, ?_⟩
    generalize hf3 : putF "own_span" (V.ref b) (putF "own_net" (V.ref a) []) = f3 at n3 D3 ⊢
    obtain ⟨n3, D3⟩ := D3.fput (fs' := putF "own_mark" (.ref t) f3) n3
    generalize upd _ x (HO.ins 1188 dx (putF "own_mark" _ _)) = H4 at n3 D3 ⊢
    -- own_ends
    obtain ⟨dxs, hb⟩ := hS
    have hb4 := n3.ch _ _ (n3.cc _ _ hb)
    refine ⟨_, rfl, b, dxs, _, rfl, hb4, b, lo, hi, rfl, ⟨dxs, hb4⟩, _, rfl, b, dxs, _, rfl, hb4, b, lo, hi, rfl, ⟨dxs, hb4⟩, sz2, fun e he => ?_⟩
    have a4 : Nx [] C2 H4 (upd C2 e (.tup [.int lo, .int hi])) (upd H4 e (.tup [.int lo, .int hi])) := .new0 n3.ch he
    have D4 := D3.on a4
    have n4 := n3.trans (a4.pure (M := [x]))
    have he4 : (upd C2 e (.tup [.int lo, .int hi])) e = some (.tup [.int lo, .int hi]) := upd_same
    have hL4 := a4.cc _ _ hL2
    have hF4 := a4.cc _ _ hF
    generalize upd C2 e (.tup [.int lo, .int hi]) = C4 at n4 D4 he4 hL4 hF4
    refine ⟨_, rfl, x, _, dx, _, rfl, D4.at_, T.cls_Part, T.no_Part_own_ends, (by subst hf3; exact (show (3 : Nat) < 1000 by decide)), ?_⟩
    obtain ⟨n4, D4⟩ := D4.fput (fs' := putF "own_ends" (.ref e) (putF "own_mark" (.ref t) f3)) n4
    generalize upd _ x (HO.ins 1188 dx (putF "own_ends" _ _)) = H5 at n4 D4 ⊢
    -- own_levels, own_edges
    obtain ⟨dxn, l0, ed0, nn, hA, _⟩ := hN.ex
    refine ⟨_, rfl, a, dxn, _, rfl, n4.ch _ _ (n4.cc _ _ hA), rfl, C4, _, n4.ch, ⟨a, m, rfl, hN.le n4.le, rfl⟩, fun v C5 H6 a5 ⟨lv, hs, ev, pmh, hlv⟩ => ?_⟩
    subst ev
    have D5 := D4.on a5
    have n5 := n4.trans (a5.pure (M := [x]))
    refine ⟨_, rfl, a, dxn, _, rfl, n5.ch _ _ (n5.cc _ _ hA), rfl, C5, _, n5.ch, ⟨a, m, rfl, hN.le n5.le, rfl⟩, fun v C6 H7 a6 ⟨ed, ev, hed⟩ => ?_⟩
    subst ev
    have D6 := D5.on a6
    have n6 := n5.trans (a6.pure (M := [x]))
    have a46 := a5.trans a6
    have he6 := a46.cc _ _ he4
    have hL6 := a46.cc _ _ hL4
    have hF6 := a46.cc _ _ hF4
    have hlv6 := a6.cc _ _ hlv
    refine ⟨sz2, fun u2 hu2 => ⟨u2, _, rfl, .of upd_same, rfl, _, _, rfl, ?_⟩⟩
    have a7 : Nx [] C6 H7 C6 (upd H7 u2 (.tup [.ref lv, .ref ed])) := .tmp0 n6.ch hu2
    have D7 := D6.on a7
    have n7 := n6.trans (a7.pure (M := [x]))
    generalize upd H7 u2 (.tup [.ref lv, .ref ed]) = H8 at n7 D7 ⊢
    refine ⟨_, rfl, x, _, dx, _, rfl, D7.at_, T.cls_Part, T.no_Part_own_levels, (by subst hf3; exact (show (4 : Nat) < 1000 by decide)), _, _, rfl, ?_⟩
    generalize hf4 : putF "own_ends" (V.ref e) (putF "own_mark" (V.ref t) f3) = f4 at n7 D7 ⊢
    obtain ⟨n7, D7⟩ := D7.fput (fs' := putF "own_levels" (.ref lv) f4) n7
    generalize upd _ x (HO.ins 1188 dx (putF "own_levels" _ _)) = H8 at n7 D7 ⊢
    refine ⟨_, rfl, x, _, dx, _, rfl, D7.at_, T.cls_Part, T.no_Part_own_edges, (by subst hf4 hf3; exact (show (5 : Nat) < 1000 by decide)), rfl, ?_⟩
    obtain ⟨n7, D7⟩ := D7.fput (fs' := putF "own_edges" (.ref ed) (putF "own_levels" (.ref lv) f4)) n7
    generalize upd _ x (HO.ins 1188 dx (putF "own_edges" _ _)) = H8 at n7 D7 ⊢
    -- own_names
    refine ⟨_, rfl, _, rfl, x, _, dx, _, rfl, D7.at_, T.cls_Part, T.no_Part_own_names, (by subst hf4 hf3; exact (show (6 : Nat) < 1000 by decide)), ?_⟩
    generalize hf5 : putF "own_edges" (V.ref ed) (putF "own_levels" (V.ref lv) f4) = f5 at n7 D7 ⊢
    obtain ⟨n7, D7⟩ := D7.fput (fs' := putF "own_names" (.ref L) f5) n7
    generalize upd _ x (HO.ins 1188 dx (putF "own_names" _ _)) = H8 at n7 D7 ⊢
    generalize hf6 : putF "own_names" (V.ref L) f5 = f6 at n7 D7 ⊢
    have k1 : lkF f6 "own_levels" = some (.ref lv) := by subst hf6 hf5 hf4 hf3; rfl
    have k2 : lkF f6 "own_edges" = some (.ref ed) := by subst hf6 hf5 hf4 hf3; rfl
    have k3 : lkF f6 "own_ends" = some (.ref e) := by subst hf6 hf5 hf4 hf3; rfl
    have k4 : lkF f6 "own_mark" = some (.ref t) := by subst hf6 hf5 hf4 hf3; rfl
    have k5 : lkF f6 "own_names" = some (.ref L) := by subst hf6 hf5 hf4 hf3; rfl
    have k6 : f6.length = 7 := by subst hf6 hf5 hf4 hf3; rfl
    -- own_key
    refine ⟨_, rfl, x, _, dx, _, _, rfl, D7.at_, T.cls_Part, T.no_Part_own_levels, k1, _, rfl, x, _, dx, _, _, rfl, D7.at_, T.cls_Part, T.no_Part_own_edges, k2, _, rfl, x, _, dx, _, _, rfl, D7.at_, T.cls_Part, T.no_Part_own_ends, k3, _, rfl, szK (show (4 : Nat) ≤ 100000 by decide), fun u3 hu3 => ?_⟩
    have a8 : Nx [] C6 H8 C6 (upd H8 u3 (.tup [.ref lv, .ref ed, .ref e, .ref t])) := .tmp0 n7.ch hu3
    have D8 := D7.on a8
    have n8 := n7.trans (a8.pure (M := [x]))
    generalize upd H8 u3 (.tup [.ref lv, .ref ed, .ref e, .ref t]) = H9 at n8 D8 ⊢
    refine ⟨_, rfl, x, _, dx, _, rfl, D8.at_, T.cls_Part, T.no_Part_own_key, by omega, ?_⟩
    have hnm : ∀ y ∈ names, NameOk y := fun y hy => ok.nm y (hks y hy).1
    -- opens_above
    try dsimp only
    refine cutSF (R := fun v H' => ∃ b C', v = .bl b ∧ Nx [x] C H C' H' ∧ Dt C' H' x (.ins 1188 dx (putF "own_key" (.ref u3) f6)) ∧ Same C6 C' ∧ (b = false → names ≠ [])) (fun Q' k => ?_) (fun v H10 ⟨b1, C10, ev, n10, D10, c10, hb1⟩ => ?_)
    · obtain ⟨n9, D9⟩ := D8.fput (fs' := putF "own_key" (.ref u3) f6) n8
      generalize upd _ x (HO.ins 1188 dx (putF "own_key" _ _)) = H9 at n9 D9 ⊢
      refine ⟨_, rfl, sz0, fun r hr => ⟨_, _, .lst (.of ?_) (dp_strs names), .lst (xs := []) (.of upd_same) .nil, shaped_strs hnm, shaped_nil, decide (names = []), by rw [eqv_strs], ?_⟩⟩
      · rw [upd_ne (fun e => by have := n9.ch _ _ hL6; rw [e, hr] at this; cases this)]; exact n9.ch _ _ hL6
      have a9 : Nx [] C6 H9 C6 (upd H9 r (.lst [])) := .tmp0 n9.ch hr
      have D9 := D9.on a9
      have n9 := n9.trans (a9.pure (M := [x]))
      generalize upd H9 r (.lst []) = H9 at n9 D9 ⊢
      by_cases h : names = []
      · exact iteP h (k _ _ ⟨true, C6, rfl, n9, D9, fun _ _ h => h, fun h => by cases h⟩)
      · refine iteQ h ⟨_, rfl, F, rfl, ⟨_, .of (n9.ch _ _ hF6)⟩, ?_⟩
        refine lcMap (M := []) walk_list (fun i v _ => ∃ b, v = .bl b) n9.ch (fun _ h => nomatch h) (szK (by rw [List.length_map]; omega)) (fun C' H' n => .of (n.ch _ _ (n.cc _ _ hF6))) (fun _ _ _ _ _ h => h) (fun i z C' H1 H2 Z hj n y kk => ?_) (fun r acc C' H1 n cr hr hH hl ha => ?_)
        · obtain ⟨rfl, hv⟩ := y
          rw [List.getElem?_map] at hv
          obtain ⟨w, _, rfl⟩ := Option.map_eq_some_iff.mp hv
          have hbb := n.ch _ _ (n.cc _ _ (n9.cc _ _ hb))
          exact ⟨rfl, _, rfl, _, rfl, b, dxs, _, rfl, hbb, b, lo, hi, rfl, ⟨dxs, hbb⟩, _, _, rfl, rfl, kk _ C' H2 (.rfl n.ch) ⟨_, rfl⟩⟩
        · obtain ⟨bs, rfl⟩ := acc_bl fun v hv => by
            obtain ⟨i, hi, e⟩ := List.mem_iff_getElem.mp hv
            exact ha i v (by rw [List.getElem?_eq_getElem hi, e])
          exact ⟨r, bs, rfl, .of hH, k _ _ ⟨_, C', rfl, n9.trans (n.pure (M := [x])), D9.on n, n.cc, fun _ => h⟩⟩
    subst ev
    refine ⟨_, rfl, x, _, dx, _, rfl, D10.at_, T.cls_Part, T.no_Part_opens_above, (Nat.lt_of_le_of_lt (length_putF _ _ _) (by omega)), ?_⟩
    generalize hf7 : putF "own_key" (.ref u3) f6 = f7 at D10 ⊢
    obtain ⟨n10, D10⟩ := D10.fput (fs' := putF "opens_above" (.bl b1) f7) n10
    generalize upd _ x (HO.ins 1188 dx (putF "opens_above" _ _)) = H10 at n10 D10 ⊢
    -- opens_below
    try dsimp only
    refine cutSF (R := fun v H' => ∃ b C', v = .bl b ∧ Nx [x] C H C' H' ∧ Dt C' H' x (.ins 1188 dx (putF "opens_above" (.bl b1) f7)) ∧ Same C6 C' ∧ (b = false → names ≠ [])) (fun Q' k => ?_) (fun v H11 ⟨b2, C11, ev, n11, D11, c11, hb2⟩ => ?_)
    · have hL10 := c10 _ _ hL6
      have hF10 := c10 _ _ hF6
      refine ⟨_, rfl, sz0, fun r hr => ⟨_, _, .lst (.of ?_) (dp_strs names), .lst (xs := []) (.of upd_same) .nil, shaped_strs hnm, shaped_nil, decide (names = []), by rw [eqv_strs], ?_⟩⟩
      · rw [upd_ne (fun e => by have := n10.ch _ _ hL10; rw [e, hr] at this; cases this)]; exact n10.ch _ _ hL10
      have a9 : Nx [] C10 H10 C10 (upd H10 r (.lst [])) := .tmp0 n10.ch hr
      have D9 := D10.on a9
      have n9 := n10.trans (a9.pure (M := [x]))
      generalize upd H10 r (.lst []) = H9 at n9 D9 ⊢
      by_cases h : names = []
      · exact iteP h (k _ _ ⟨true, C10, rfl, n9, D9, c10, fun h => by cases h⟩)
      · refine iteQ h ⟨_, rfl, F, rfl, ⟨_, .of (n9.ch _ _ hF10)⟩, ?_⟩
        refine lcMap (M := []) walk_list (fun i v _ => ∃ b, v = .bl b) n9.ch (fun _ h => nomatch h) (szK (by rw [List.length_map]; omega)) (fun C' H' n => .of (n.ch _ _ (n.cc _ _ hF10))) (fun _ _ _ _ _ h => h) (fun i z C' H1 H2 Z hj n y kk => ?_) (fun r acc C' H1 n cr hr hH hl ha => ?_)
        · obtain ⟨rfl, hv⟩ := y
          rw [List.getElem?_map] at hv
          obtain ⟨w, _, rfl⟩ := Option.map_eq_some_iff.mp hv
          have hbb := n.ch _ _ (n.cc _ _ (n9.cc _ _ hb))
          exact ⟨rfl, _, rfl, _, rfl, b, dxs, _, rfl, hbb, b, lo, hi, rfl, ⟨dxs, hbb⟩, _, _, rfl, rfl, kk _ C' H2 (.rfl n.ch) ⟨_, rfl⟩⟩
        · obtain ⟨bs, rfl⟩ := acc_bl fun v hv => by
            obtain ⟨i, hi, e⟩ := List.mem_iff_getElem.mp hv
            exact ha i v (by rw [List.getElem?_eq_getElem hi, e])
          exact ⟨r, bs, rfl, .of hH, k _ _ ⟨_, C', rfl, n9.trans (n.pure (M := [x])), D9.on n, c10.trans n.cc, fun _ => h⟩⟩
    subst ev
    refine ⟨_, rfl, x, _, dx, _, rfl, D11.at_, T.cls_Part, T.no_Part_opens_below, (Nat.lt_of_le_of_lt (length_putF _ _ _) (by subst hf7; exact Nat.lt_of_le_of_lt (Nat.succ_le_succ (length_putF _ _ _)) (by omega))), ?_⟩
    generalize hf8 : putF "opens_above" (.bl b1) f7 = f8 at D11 ⊢
    obtain ⟨n11, D11⟩ := D11.fput (fs' := putF "opens_below" (.bl b2) f8) n11
    generalize upd _ x (HO.ins 1188 dx (putF "opens_below" _ _)) = H11 at n11 D11 ⊢
    generalize hf9 : putF "opens_below" (.bl b2) f8 = f9 at D11 ⊢
    have l2 : lkF f9 "opens_above" = some (.bl b1) := by
      subst hf9 hf8; exact (lookup_putF _ _ _ _).trans ((if_neg (by decide)).trans ((lookup_putF _ _ _ _).trans (if_pos rfl)))
    have l3 : lkF f9 "opens_below" = some (.bl b2) := by
      subst hf9; exact (lookup_putF _ _ _ _).trans (if_pos rfl)
    have up9 : ∀ {g : Str} {v : V}, lkF f6 g = some v → g ≠ "own_key" → g ≠ "opens_above" → g ≠ "opens_below" → lkF f9 g = some v := fun {g v} h g1 g2 g3 => by
      subst hf9 hf8 hf7
      exact (lookup_putF _ _ _ _).trans ((if_neg g3).trans ((lookup_putF _ _ _ _).trans ((if_neg g2).trans ((lookup_putF _ _ _ _).trans ((if_neg g1).trans h)))))
    have k1' := up9 k1 (by decide) (by decide) (by decide)
    have f9l : f9.length ≤ 10 := by
      subst hf9 hf8 hf7
      have h1 := length_putF "own_key" (V.ref u3) f6
      have h2 := length_putF "opens_above" (V.bl b1) (putF "own_key" (.ref u3) f6)
      have h3 := length_putF "opens_below" (V.bl b2) (putF "opens_above" (.bl b1) (putF "own_key" (.ref u3) f6))
      omega
    have hlvD : LevD C6 lv m := ⟨hs, pmh, .inl hlv6⟩
    -- high
    try dsimp only
    refine cutSA (R := fun v H' => ∃ hv C', v = .int hv ∧ Nx [x] C H C' H' ∧ Dt C' H' x (.ins 1188 dx f9) ∧ Same C6 C' ∧ (hv = hi ∨ ((∃ y ∈ names, m.lev y = hv) ∧ ∀ y ∈ names, m.lev y ≤ hv))) (fun Q' k => ?_) (fun v H12 ⟨hv, C12, ev, n12, D12, c12, hhv⟩ => ?_)
    · refine ⟨_, rfl, x, _, dx, _, _, rfl, D11.at_, T.cls_Part, T.no_Part_opens_above, l2, b1, rfl, ?_⟩
      cases b1 with
      | true =>
        have hbb := n11.ch _ _ (n11.cc _ _ hb)
        exact iteT ⟨_, rfl, b, dxs, _, rfl, hbb, b, lo, hi, rfl, ⟨dxs, hbb⟩, k _ _ ⟨hi, C11, rfl, n11, D11, c11, .inl rfl⟩⟩
      | false =>
        have ne := hb1 rfl
        have hL11 := c11 _ _ hL6
        refine iteF ⟨_, rfl, L, rfl, ⟨_, .of (n11.ch _ _ hL11)⟩, ?_⟩
        refine lcMap (M := []) walk_list (fun i v _ => ∀ y, names[i]? = some y → v = .int (m.lev y)) n11.ch (fun _ h => nomatch h) (szK (by rw [List.length_map]; omega)) (fun C' H' n => .of (n.ch _ _ (n.cc _ _ hL11))) (fun _ _ _ _ _ h => h) (fun i z C' H1 H2 Z hj n y kk => ?_) (fun r acc C' H1 n cr hr hH hl ha => ?_)
        · obtain ⟨rfl, hv⟩ := y
          rw [List.getElem?_map] at hv
          obtain ⟨w, hw, rfl⟩ := Option.map_eq_some_iff.mp hv
          have hwk := (hks w (List.mem_of_getElem? hw)).1
          exact ⟨rfl, _, rfl, x, _, dx, _, _, rfl, (D11.on n).at_, T.cls_Part, T.no_Part_own_levels, k1', _, rfl, lv, _, rfl, (hlvD.le (Same.le (c11.trans n.cc))).dget n.ch ok hwk, .inl ⟨_, rfl, kk _ C' H2 (.rfl n.ch) fun z hz => by rw [hw] at hz; cases hz; rfl⟩⟩
        · rw [List.length_map] at hl
          have e1 : acc = (names.map m.lev).map V.int := by rw [List.map_map]; exact acc_map hl ha
          rw [e1] at hH
          refine ⟨r, names.map m.lev, rfl, .of hH, by rw [List.length_map]; exact List.length_pos_iff.mpr ne, fun t t1 t2 => k _ _ ⟨t, C', rfl, n11.trans (n.pure (M := [x])), D11.on n, c11.trans n.cc, .inr ⟨?_, fun y hy => t2 _ (List.mem_map.mpr ⟨y, hy, rfl⟩)⟩⟩⟩
          obtain ⟨y, hy, e⟩ := List.mem_map.mp t1
          exact ⟨y, hy, e⟩
    subst ev
    -- low
    try dsimp only
    refine cutSA (R := fun v H' => ∃ lw C', v = .int lw ∧ Nx [x] C H C' H' ∧ Dt C' H' x (.ins 1188 dx f9) ∧ Same C6 C' ∧ (lw = lo ∨ ((∃ y ∈ names, m.lev y = lw) ∧ ∀ y ∈ names, lw ≤ m.lev y))) (fun Q' k => ?_) (fun v H13 ⟨lw, C13, ev, n13, D13, c13, hlw⟩ => ?_)
    · refine ⟨_, rfl, x, _, dx, _, _, rfl, D12.at_, T.cls_Part, T.no_Part_opens_below, l3, b2, rfl, ?_⟩
      cases b2 with
      | true =>
        have hbb := n12.ch _ _ (n12.cc _ _ hb)
        exact iteT ⟨_, rfl, b, dxs, _, rfl, hbb, b, lo, hi, rfl, ⟨dxs, hbb⟩, k _ _ ⟨lo, C12, rfl, n12, D12, c12, .inl rfl⟩⟩
      | false =>
        have ne := hb2 rfl
        have hL11 := c12 _ _ hL6
        refine iteF ⟨_, rfl, L, rfl, ⟨_, .of (n12.ch _ _ hL11)⟩, ?_⟩
        refine lcMap (M := []) walk_list (fun i v _ => ∀ y, names[i]? = some y → v = .int (m.lev y)) n12.ch (fun _ h => nomatch h) (szK (by rw [List.length_map]; omega)) (fun C' H' n => .of (n.ch _ _ (n.cc _ _ hL11))) (fun _ _ _ _ _ h => h) (fun i z C' H1 H2 Z hj n y kk => ?_) (fun r acc C' H1 n cr hr hH hl ha => ?_)
        · obtain ⟨rfl, hv⟩ := y
          rw [List.getElem?_map] at hv
          obtain ⟨w, hw, rfl⟩ := Option.map_eq_some_iff.mp hv
          have hwk := (hks w (List.mem_of_getElem? hw)).1
          exact ⟨rfl, _, rfl, x, _, dx, _, _, rfl, (D12.on n).at_, T.cls_Part, T.no_Part_own_levels, k1', _, rfl, lv, _, rfl, (hlvD.le (Same.le (c12.trans n.cc))).dget n.ch ok hwk, .inl ⟨_, rfl, kk _ C' H2 (.rfl n.ch) fun z hz => by rw [hw] at hz; cases hz; rfl⟩⟩
        · rw [List.length_map] at hl
          have e1 : acc = (names.map m.lev).map V.int := by rw [List.map_map]; exact acc_map hl ha
          rw [e1] at hH
          refine ⟨r, names.map m.lev, rfl, .of hH, by rw [List.length_map]; exact List.length_pos_iff.mpr ne, fun t t1 t2 => k _ _ ⟨t, C', rfl, n12.trans (n.pure (M := [x])), D12.on n, c12.trans n.cc, .inr ⟨?_, fun y hy => t2 _ (List.mem_map.mpr ⟨y, hy, rfl⟩)⟩⟩⟩
          obtain ⟨y, hy, e⟩ := List.mem_map.mp t1
          exact ⟨y, hy, e⟩
    subst ev
    have le : lw ≤ hv := by
      rcases hlw with rfl | ⟨⟨y, hy, e1⟩, l1⟩ <;> rcases hhv with rfl | ⟨⟨z, hz, e2⟩, h1⟩
      · exact hlh
      · have := (hks z hz).2; omega
      · have := (hks y hy).2; omega
      · have := h1 y hy; omega
    refine ⟨_, rfl, _, rfl, fun y dy hy hdy hne => ⟨y, dy, lw, hv, rfl, upd_same, le, rfl, ?_⟩⟩
    have a14 : Nx [] C13 H13 _ (upd (upd (upd H13 dy (.own y)) y (.ins 635 dy [])) y (.ins 635 dy (spanF lw hv))) := (Nx.rfl n13.ch).span hy hdy hne
    have D14 := D13.on a14
    have n14 := n13.trans (a14.pure (M := [x]))
    have c14 := c13.trans a14.cc
    generalize upd (upd (upd H13 dy (.own y)) y (.ins 635 dy [])) y (.ins 635 dy (spanF lw hv)) = H14 at n14 D14 ⊢
    generalize upd C13 y (.ins 635 dy (spanF lw hv)) = C14 at n14 D14 c14
    refine ⟨_, rfl, x, _, dx, _, rfl, D14.at_, T.cls_Part, T.no_Part_own_extent, by omega, ?_⟩
    obtain ⟨n15, D15⟩ := D14.fput (fs' := putF "own_extent" (.ref y) f9) n14
    have upE : ∀ {g : Str} {v : V}, lkF f6 g = some v → g ≠ "own_key" → g ≠ "opens_above" → g ≠ "opens_below" → g ≠ "own_extent" → lkF (putF "own_extent" (.ref y) f9) g = some v := fun {g v} h g1 g2 g3 g4 =>
      (lookup_putF _ _ _ _).trans ((if_neg g4).trans (up9 h g1 g2 g3))
    have cs : Same C14 (upd C14 x (.ins 1188 dx (putF "own_extent" (.ref y) f9))) := same_upd D14.no
    refine q C14 _ _ n15 D14.no upd_same ⟨ok, fun y hy => (hks y hy).1, dx, _, L, t, e, lv, ed, upd_same, upE k5 (by decide) (by decide) (by decide) (by decide), upE k4 (by decide) (by decide) (by decide) (by decide), upE k3 (by decide) (by decide) (by decide) (by decide), upE k1 (by decide) (by decide) (by decide) (by decide), upE k2 (by decide) (by decide) (by decide) (by decide), cs _ _ (c14 _ _ hL6), ?_, cs _ _ (c14 _ _ he6), hlvD.le (Same.le (c14.trans cs)), hed.le (Same.le (c14.trans cs))⟩
    exact (hM.le n14.le).le (Same.le cs)
end
end AbW

/-! ## Wb -/
set_option Elab.async false
set_option linter.all false
set_option maxRecDepth 100000
set_option maxHeartbeats 4000000
/-! Wb: parts, asked -/
namespace AbW
open PySem PySem.Spec PyProof.Rows L2 AbH AbR Ab
def InP (names : List Str) (p : Spot) (lo hi : Int) : Spot → Prop
  | .nd y => y ∈ names
  | .inn l u h => (lo ≤ h ∧ h ≤ hi) ∧ (l ∈ names ∨ u ∈ names ∨ (names = [] ∧ ∃ h', p = .inn l u h'))
theorem inV_strs (y : Str) : ∀ xs : List Str, inV (.str y) (xs.map V.str) = decide (y ∈ xs)
  | [] => by simp [inV]
  | x :: xs => by
    have := inV_strs y xs
    unfold inV at this ⊢
    rw [List.map_cons, List.any_cons, this]
    have e : eqV (.str x) (.str y) = decide (x = y) := by simp [eqV, beq_dec]
    rw [e]
    by_cases h : x = y
    · simp [h]
    · simp [h, Ne.symm h]
theorem flat_strs (xs : List Str) : (xs.map V.str).all flatV = true := by
  rw [List.all_map, List.all_eq_true]; intro x _; rfl
/-- a part's answers are those of the ways within its span -/
theorem part_rc {N : Str → NetD} {i : Str} {p v : Spot} {lo hi : Int} {names : List Str} (ok : (N i).Ok) (hp : (N i).has p) (bp : Bt lo hi ((N i).lv p)) (hv : (N i).has v) (hn : ∀ y, y ∈ names ↔ Fnd (N i) (Bt lo hi) p y) : InP names p lo hi v ↔ Rc (GN N) i (Bt lo hi) p v := by
  cases v with
  | nd y => exact (hn y).trans (fnd_iff ok cvx_bt hp bp)
  | inn l u h =>
    have h3 := has_lv hv
    have e0 : (N i).on (l, u) h = .inn l u h := on_inn h3.1 h3.2
    constructor
    · rintro ⟨hb, hl | hu | ⟨_, h', rfl⟩⟩
      · have r := (fnd_iff ok cvx_bt hp bp).mp ((hn l).mp hl)
        exact r.trans (beside_way ok cvx_bt hv hb (List.mem_cons_self ..) r.snd).symm
      · have r := (fnd_iff ok cvx_bt hp bp).mp ((hn u).mp hu)
        exact r.trans (beside_way ok cvx_bt hv hb (List.mem_cons_of_mem _ (List.mem_singleton_self u)) r.snd).symm
      · have h4 := has_lv hp
        have e1 : (N i).on (l, u) h' = .inn l u h' := on_inn h4.1 h4.2
        have := edge_any (N := N) (i := i) ok cvx_bt hv.1 (h := h') (h' := h) (Int.le_of_lt h4.1) (Int.le_of_lt h4.2) (Int.le_of_lt h3.1) (Int.le_of_lt h3.2) bp hb
        rw [e0, e1] at this
        exact this
    · intro r
      refine ⟨r.snd, ?_⟩
      rcases leave r.symm with ⟨x, hx, bx, rx⟩ | ⟨l', u', k, k', e1, e2⟩
      · have hx' := (hn x).mpr ((fnd_iff ok cvx_bt hp bp).mpr rx.symm)
        rcases List.mem_cons.mp hx with rfl | hx
        · exact .inl hx'
        · cases List.mem_singleton.mp hx
          exact .inr (.inl hx')
      · cases e1
        by_cases hne : names = []
        · exact .inr (.inr ⟨hne, k', e2⟩)
        · obtain ⟨y, hy⟩ := List.exists_mem_of_ne_nil _ hne
          obtain ⟨x, hx, bx, _⟩ := (hn y).mp hy
          rw [e2] at hx
          have hx' := (hn x).mpr ⟨x, by rw [e2]; exact hx, bx, .refl bx⟩
          rcases List.mem_cons.mp hx with rfl | hx
          · exact .inl hx'
          · cases List.mem_singleton.mp hx
            exact .inr (.inl hx')
theorem shaped_tup {xs : List Str} (h : ∀ x ∈ xs, NameOk x) : SeqAt.shaped (.tuple (xs.map PyData.str)) = true := by
  have := shaped_strs h
  simpa [SeqAt.shaped, PyData.canLay0, PyData.depth] using this
theorem shaped_mark {l u : Str} (h1 : NameOk l) (h2 : NameOk u) : SeqAt.shaped (.tuple [dPair (l, u)]) = true := by
  simp [dPair, SeqAt.shaped, PyData.canLay0, PyData.canLayAll0, PyData.depth, PyData.depthAll, strOk_name h1, strOk_name h2]
section
variable {P : Program} {w : World} {K : PySem.W.Frag} {mg : Str → Option Value} {base : Heap}
def sp_Part_contains (K : PySem.W.Frag) : Sp := Gives fun vs C post => ∃ a m p lo hi x v, ∃ names : List Str, vs = [.ref a, x] ∧ PartAt C a m names p lo hi ∧ m.has p ∧ SpotV C x v ∧ m.has v ∧ post = fun r _ => ∃ b, r = .bl b ∧ (b = true ↔ InP names p lo hi v)
theorem q_Part_contains (T : Txt K mg) : C8.Met P w K mg base 2 1188 "__contains__" (sp_Part_contains K) [] := by
  refine mkMet (N := ["self", "value", "low", "high", "level"]) (ps := ["self", "value"]) T.d_Part_contains T.cls_Part T.me_Part_contains (fun _ _ _ _ _ _ us hl => match us, hl with | [_, _], _ => rfl) (by decide +kernel) (fun vs H Q E h => ?_) (fun cdv A outer s H vs Q E hr h => ?_)
  · obtain ⟨C, post, sc, ⟨a, m, p, lo, hi, x, v, names, rfl, hP, hp, hx, hv, rfl⟩, q⟩ := h; rfl
  · obtain ⟨C, post, sc, ⟨a, m, p, lo, hi, x, v, names, rfl, hP, hp, hx, hv, rfl⟩, q⟩ := h
    have nd : (["self", "value", "low", "high", "level"] : List Str).Nodup := by decide +kernel
    have hu := units1 hr
    refine ⟨_, (pss_cons (ps_if (pt_val (pe_callB call_isi1 (by rfl) T.f_isinstance b_isinstance (pa_cons (pv 1) (pa_cons (pe_bltn (v := .ty "str") (by rfl) T.f_str b_str rfl) pa_nil)))) (pss_one (ps_ret (pe_cmpR op_in_seq (pv 1) (pe_fld (pv 0) rfl) (by rfl)))) pss_nil)
      (pss_cons (ps_if (PW.pt (pw_or (pt_not (pt_val (pe_callB call_isi1 (by rfl) T.f_isinstance b_isinstance (pa_cons (pv 1) (pa_cons (pe_bltn (v := .ty "tuple") (by rfl) T.f_tuple b_tuple rfl) pa_nil))))) (pw_or (pt_cmpR op_ne (pe_callB call_len_seq (by rfl) T.f_len b_len (pa_cons (pv 1) pa_nil)) pe_int (nomark _)) (pw_or1 (pt_cmpR (op_notInD (units65 hr)) (pe_slice sl_tupA (pv 1) po_none (po_some pe_int)) (pe_fld (pv 0) rfl) (by rfl)))))) (pss_one (ps_ret pe_bl)) pss_nil)
      (pss_cons (ps_asg (pv 1) (pg_tup (n := 3) (by rfl) (pgs_cons (pg_name (i := 2) nd rfl (Or.inl rfl)) (pgs_cons (pg_name (i := 3) nd rfl (Or.inl rfl)) (pgs_cons (pg_name (i := 4) nd rfl (Or.inl rfl)) pgs_nil)))))
      (pss_cons (ps_if (PW.pt (pw_or (pt_not (pt_val (C8.pe_c (c_is_integer T) hr (by decide) (by rfl) (pa_cons (pv 4) pa_nil)))) (pw_or1 (pt_not (pt_chain op_lt op_lt (pe_dget hu (pe_fld (pv 0) rfl) (pv 2) (fun _ _ => rfl)) (pv 4) (pe_dget hu (pe_fld (pv 0) rfl) (pv 3) (fun _ _ => rfl))))))) (pss_one (ps_ret pe_bl)) pss_nil)
      (pss_cons (ps_if (pt_not (pt_chain op_le op_le (pe_ix ix_tup (pe_fld (pv 0) rfl) pe_int (fun _ _ => rfl)) (pv 4) (pe_ix ix_tup (pe_fld (pv 0) rfl) pe_int (fun _ _ => rfl)))) (pss_one (ps_ret pe_bl)) pss_nil)
      (pss_one (ps_ret (pe_or (pe_cmpR op_in_seq (pv 2) (pe_fld (pv 0) rfl) (by rfl)) (pe_or (pe_cmpR op_in_seq (pv 3) (pe_fld (pv 0) rfl) (by rfl)) (pe_one (pe_cmpR (op_eqD hr.units) (pe_fld (pv 0) rfl) (pe_tup (pa_cons (pe_tup (pa_cons (pv 2) (pa_cons (pv 3) pa_nil))) pa_nil)) (nomark _)))))))))))), ?_⟩
    have ok := hP.ok
    obtain ⟨dx, fs, nl, mk, en, lv, ed, h0, h1, h2, h3, h4, h5, h6, h7, h8, h9, h10⟩ := hP.ex
    have hA := sc _ _ h0
    cases v with
    | nd y =>
      cases hx
      refine ⟨_, rfl, _, _, _, _, rfl, .base (.str y), k_str_str, _, rfl, iteT ⟨_, rfl, _, rfl, a, _, dx, _, _, rfl, hA, T.cls_Part, T.no_Part_own_names, h1, nl, _, rfl, .inl (.of (sc _ _ h6)), rfl, flat_strs names, ?_⟩⟩
      refine q _ _ _ (Nx.rfl sc) ⟨_, rfl, ?_⟩
      rw [show (if false = true then !inV (V.str y) (names.map V.str) else inV (V.str y) (names.map V.str)) = decide (y ∈ names) from inV_strs y names]
      simp [InP]
    | inn l u h =>
      obtain ⟨t, rfl, ht⟩ := hx
      obtain ⟨he, k1, k2⟩ := hv
      have hks := ok.ein _ he
      have hT := sc _ _ ht
      refine ⟨_, rfl, _, _, _, _, rfl, .base (.tup hT), k_tuple_str, _, rfl, iteF ?_⟩
      refine ⟨_, rfl, _, _, _, _, rfl, .base (.tup hT), k_tuple_tuple, _, rfl, iteF ?_⟩
      refine ⟨_, rfl, t, _, rfl, .inr (.of hT), rfl, _, rfl, iteF ?_⟩
      refine ⟨_, rfl, _, rfl, t, _, rfl, .of hT, fun z => absurd z (by simp [HT.sIx]), fun _ s hs => ?_⟩
      have n1 : Nx [] C H C (upd H s (.tup (cutV [V.str l, .str u, .int h] none (some 2)))) := .tmp0 sc hs
      have hs1 : (upd H s (.tup (cutV [V.str l, .str u, .int h] none (some 2)))) s = some (.tup [V.str l, .str u]) := upd_same
      generalize upd H s (.tup (cutV [V.str l, .str u, .int h] none (some 2))) = H1 at n1 hs1 ⊢
      obtain ⟨L, pm, hL, hLT⟩ := h10
      refine ⟨_, rfl, a, _, dx, _, _, rfl, n1.ch _ _ h0, T.cls_Part, T.no_Part_own_edges, h5, dPair (l, u), (L.map (·.2)).map dPair, dp_pair hs1, .lst (.of (n1.ch _ _ hL)) ?_, shaped_pair (ok.nms _ he).1 (ok.nms _ he).2, shaped_pairs fun x h => ok.nms x (pm.mem_iff.mp h), false, ?_, iteF ?_⟩
      · rw [List.map_map]
        exact dp_pairs fun t h => n1.ch _ _ (hLT t h)
      · refine congrArg V.bl ?_
        have : ((L.map (·.2)).map dPair).any (fun z => PyData.eqv z (dPair (l, u))) = true := by
          rw [List.any_eq_true]
          exact ⟨dPair (l, u), List.mem_map.mpr ⟨(l, u), pm.mem_iff.mpr he, rfl⟩, by rw [eqv_pair]; simp⟩
        rw [this]; rfl
      have hT1 := n1.ch _ _ ht
      refine ⟨_, rfl, t, _, rfl, .of hT1, rfl, _, _, rfl, _, _, rfl, _, _, rfl, rfl, ?_⟩
      have hA1 := n1.ch _ _ h0
      refine ⟨_, rfl, h, rfl, _, rfl, iteF ?_⟩
      refine ⟨_, rfl, a, _, dx, _, _, rfl, hA1, T.cls_Part, T.no_Part_own_levels, h4, _, rfl, lv, _, rfl, h9.dget n1.ch ok hks.1, _, rfl, _, _, rfl, rfl, _, rfl, iteP k1 ⟨_, rfl, a, _, dx, _, _, rfl, hA1, T.cls_Part, T.no_Part_own_levels, h4, _, rfl, lv, _, rfl, h9.dget n1.ch ok hks.2, _, _, rfl, rfl, true, by simp [show h < m.lev u from k2], iteF ?_⟩⟩
      have hE1 := n1.ch _ _ h8
      refine ⟨_, rfl, a, _, dx, _, _, rfl, hA1, T.cls_Part, T.no_Part_own_ends, h3, en, _, _, _, rfl, rfl, .of hE1, rfl, _, rfl, _, _, rfl, rfl, _, rfl, ?_⟩
      by_cases c1 : lo ≤ h
      · refine iteP c1 ⟨_, rfl, a, _, dx, _, _, rfl, hA1, T.cls_Part, T.no_Part_own_ends, h3, en, _, _, _, rfl, rfl, .of hE1, rfl, _, _, rfl, rfl, decide (h ≤ hi), rfl, ?_⟩
        by_cases c2 : h ≤ hi
        · refine iteC (by simp [c2]) ?_
          -- the last question
          refine ⟨_, rfl, _, rfl, a, _, dx, _, _, rfl, hA1, T.cls_Part, T.no_Part_own_names, h1, nl, _, rfl, .inl (.of (n1.ch _ _ h6)), rfl, flat_strs names, decide (l ∈ names), congrArg V.bl (inV_strs l names), ?_⟩
          by_cases d1 : l ∈ names
          · exact iteP d1 (q _ _ _ n1 ⟨true, rfl, by simp [InP, d1, c1, c2]⟩)
          · refine iteQ d1 ⟨_, rfl, _, rfl, a, _, dx, _, _, rfl, hA1, T.cls_Part, T.no_Part_own_names, h1, nl, _, rfl, .inl (.of (n1.ch _ _ h6)), rfl, flat_strs names, decide (u ∈ names), congrArg V.bl (inV_strs u names), ?_⟩
            by_cases d2 : u ∈ names
            · exact iteP d2 (q _ _ _ n1 ⟨true, rfl, by simp [InP, d2, c1, c2]⟩)
            · refine iteQ d2 ⟨_, rfl, a, _, dx, _, _, rfl, hA1, T.cls_Part, T.no_Part_own_mark, h2, _, rfl, _, rfl, sz2, fun r hr => ⟨sz1, fun r2 hr2 => ?_⟩⟩
              have n2 := n1.tmp (o := .tup [V.str l, .str u]) hr
              have n3 := n2.tmp (o := .tup [V.ref r]) hr2
              have er : (upd (upd H1 r (.tup [V.str l, .str u])) r2 (.tup [V.ref r])) r = some (.tup [V.str l, .str u]) := by
                rw [upd_ne (fun z => by rw [← z, upd_same] at hr2; cases hr2)]; exact upd_same
              have dr : Dp K (upd (upd H1 r (.tup [V.str l, .str u])) r2 (.tup [V.ref r])) (.ref r2) (.tuple [dPair (l, u)]) := .tup (.of upd_same) (.cons (dp_pair er) .nil)
              have nms := ok.nms _ he
              rcases h7 with ⟨ne, hm⟩ | ⟨e0, qq, l0, u0, h00, ep, hm, hq⟩
              · refine ⟨.tuple (names.map PyData.str), .tuple [dPair (l, u)], .tup (.of (n3.ch _ _ hm)) (dp_strs names), dr, shaped_tup fun y hy => ok.nm y (hP.ks y hy), shaped_mark nms.1 nms.2, q _ _ _ n3 ⟨_, rfl, ?_⟩⟩
                have : PyData.eqv (.tuple (names.map PyData.str)) (.tuple [dPair (l, u)]) = false := by
                  cases names with
                  | nil => exact absurd rfl ne
                  | cons y ys => simp [PyData.eqv, PyData.eqvAll, dPair]
                rw [this]
                simp [InP, d1, d2, ne]
              · refine ⟨.tuple [dPair (l0, u0)], .tuple [dPair (l, u)], .tup (.of (n3.ch _ _ hm)) (.cons (dp_pair (n3.ch _ _ hq)) .nil), dr, ?_, shaped_mark nms.1 nms.2, q _ _ _ n3 ⟨_, rfl, ?_⟩⟩
                · rw [ep] at hp
                  exact shaped_mark (ok.nms _ hp.1).1 (ok.nms _ hp.1).2
                · have : PyData.eqv (.tuple [dPair (l0, u0)]) (.tuple [dPair (l, u)]) = decide ((l0, u0) = (l, u)) := by
                    have := eqv_pair (l0, u0) (l, u)
                    simp only [PyData.eqv, PyData.eqvAll, Bool.and_true] at this ⊢
                    exact this
                  rw [this, decide_eq_true_eq, ep]
                  constructor
                  · intro e
                    cases e
                    exact ⟨⟨c1, c2⟩, .inr (.inr ⟨e0, h00, rfl⟩)⟩
                  · rintro ⟨_, h | h | ⟨_, h', e⟩⟩
                    · exact absurd h d1
                    · exact absurd h d2
                    · cases e; rfl
        · refine iteB (by simp [c2]) (q _ _ _ n1 ⟨false, rfl, by simp [InP, c2]⟩)
      · refine iteQ c1 ⟨false, rfl, iteT (q _ _ _ n1 ⟨false, rfl, by simp [InP, c1]⟩)⟩
def sp_part_from (K : PySem.W.Frag) : Sp := Gives fun vs C post => ∃ a x b, ∃ N : Str → NetD, ∃ i p lo hi, vs = [.ref a, x, .ref b] ∧ NetAt C a (N i) ∧ SpotV C x p ∧ (N i).has p ∧ SpanAt C b lo hi ∧ Bt lo hi ((N i).lv p) ∧ post = fun v C' => ∃ r, ∃ names : List Str, v = .ref r ∧ PartAt C' r (N i) names p lo hi ∧ ∀ y, y ∈ names ↔ Fnd (N i) (Bt lo hi) p y
theorem c_part_from (T : Txt K mg) : C8.Cal P w K mg base 7 "part_from" (sp_part_from K) [] := by
  refine mkCal (N := ["net", "spot", "span", "names", "name"]) (ps := ["net", "spot", "span"]) T.d_part_from T.g_part_from (fun _ _ _ _ _ _ us hl => match us, hl with | [_, _, _], _ => rfl) (by decide +kernel) (fun vs H Q E h => ?_) (fun cdv A outer s H vs Q E hr h => ?_)
  · obtain ⟨C, post, sc, ⟨a, x, b, N, i, p, lo, hi, rfl, hN, hx, hp, hS, bp, rfl⟩, q⟩ := h; rfl
  · obtain ⟨C, post, sc, ⟨a, x, b, N, i, p, lo, hi, rfl, hN, hx, hp, hS, bp, rfl⟩, q⟩ := h
    have nd : (["net", "spot", "span", "names", "name"] : List Str).Nodup := by decide +kernel
    refine ⟨_, (pss_cons (ps_set (i := 3) nd rfl (Or.inl rfl) (pe_callB cr_sortedS (by rfl) T.f_sorted b_sorted (pa_cons (pe_lc (own := [("name", 4)]) (by rfl) nd (pi_keysF (C8.pe_c (c_reach_from T) hr (by decide) (by rfl) (pa_cons (pv 0) (pa_cons (pv 1) (pa_cons (pe_pr (p_Span_low T) hr (by decide) (pv 2)) (pa_cons (pe_pr (p_Span_high T) hr (by decide) (pv 2)) pa_nil)))))) (blkOk_by (own := [("name", 4)]) (N := ["net", "spot", "span", "names", "name"]) (sc := C8.fnScope s_part_from) (by decide +kernel)) (fun _ _ _ _ _ => (pg_name (i := 4) nd rfl (Or.inl rfl))) (fun _ _ _ _ _ => pts_nil) (fun _ _ _ _ _ => (pe_callTy SkE.call_str_str (by rfl) T.f_str b_str (pa_cons (pv 4) pa_nil)))) pa_nil)))
      (pss_one (ps_ret (C8.pe_mk (m_Part T) hr (by decide) (by rfl) (pa_cons (pv 0) (pa_cons (pv 2) (pa_cons (pe_ifExp (pt_cmpR (op_neD hr.units) (pv 3) (pe_lst pa_nil) (nomark _)) (pe_callTy call_tuple_of (by rfl) T.f_tuple b_tuple (pa_cons (pv 3) pa_nil)) (pe_tup (pa_cons (pe_tup (pa_cons (pe_ix ix_tup (pv 1) pe_int (fun _ _ => rfl)) (pa_cons (pe_ix ix_tup (pv 1) pe_int (fun _ _ => rfl)) pa_nil))) pa_nil))) pa_nil))))))), ?_⟩
    have ok := hN.ok
    obtain ⟨dxs, hb⟩ := id hS
    have hb' := sc _ _ hb
    refine ⟨_, rfl, _, rfl, _, rfl, b, dxs, _, rfl, hb', b, lo, hi, rfl, ⟨dxs, hb'⟩, _, rfl, b, dxs, _, rfl, hb', b, lo, hi, rfl, ⟨dxs, hb'⟩, C, _, sc, ⟨a, x, some lo, some hi, N i, p, rfl, hN, hx, hp, rfl⟩, fun v C1 H1 a1 ⟨e, ys, ev, e0, he, hnd, hks, hf⟩ => ?_⟩
    subst ev
    have hlen : ys.length ≤ 5 := Nat.le_trans (nodup_le hnd hks) (by unfold NetD.ks; rw [List.length_map]; exact ok.few)
    refine ⟨e, _, rfl, a1.ch _ _ he, trivial, fun od => ⟨e, od, rfl, .inl ⟨tD ys, upd_same, ?_⟩⟩⟩
    have n1 := a1.frz (od := od) e0 he
    refine lcMap (M := []) walk_keys (fun j v _ => ∀ y, ys[j]? = some y → v = .str y) n1.ch (fun _ h => nomatch h) (szK (by rw [tD_len]; omega)) (fun C' H' n => n.ch _ _ (n.cc _ _ upd_same)) (fun _ _ _ _ _ h => h) (fun j v C' H3 H4 Z hj n y k => ?_) (fun r acc C' H3 n cr hr hH hal ha => ?_)
    · obtain ⟨rfl, kk, u, ek, rfl⟩ := y
      obtain ⟨y, hy, rfl⟩ := tD_get ek
      exact ⟨rfl, _, rfl, y, rfl, k _ C' H4 (.rfl n.ch) fun z hz => by rw [hy] at hz; cases hz; rfl⟩
    · rw [tD_len] at hal
      have e1 : acc = ys.map V.str := acc_map hal ha
      rw [e1] at hH
      refine ⟨r, ys, rfl, .of hH, by omega, fun names nl pm _ hnl => ?_⟩
      have n2 := n1.trans (n.pure (M := []))
      have n3 := n2.new (o := .lst (names.map V.str)) hnl
      have nln : (upd C' nl (.lst (names.map V.str))) nl = some (.lst (names.map V.str)) := upd_same
      generalize upd H3 nl (.lst (names.map V.str)) = H5 at n3 ⊢
      generalize upd C' nl (.lst (names.map V.str)) = C5 at n3 nln
      rw [bb_bt] at hf
      have hnm : ∀ y, y ∈ names ↔ Fnd (N i) (Bt lo hi) p y := fun y => by rw [pm.mem_iff, hf]
      have hnk : ∀ y ∈ names, y ∈ (N i).ks := fun y hy => hks y (pm.mem_iff.mp hy)
      have hnB : ∀ y ∈ names, lo ≤ (N i).lev y ∧ (N i).lev y ≤ hi := fun y hy => ((fnd_iff ok cvx_bt hp bp).mp ((hnm y).mp hy)).snd
      have hnl5 : names.length ≤ 5 := by rw [pm.length_eq]; exact hlen
      have fin : ∀ (t : Addr) (C6 H6 : Hp), Nx [] C H C6 H6 → MarkV C6 t names p → ∀ x dx, H6 x = none → H6 dx = none → dx ≠ x → sp_Part K [.ref x, .ref a, .ref b, .ref t] (upd (upd H6 dx (.own x)) x (.ins 1188 dx [])) (fun v H2 => v = .non ∧ Q (.ref x) H2) C8.E0 := fun t C6 H6 n6 hM z dz hz hdz hne => by
        refine ⟨C6, z, dz, a, b, t, N i, lo, hi, p, names, (((Nx.rfl (M := []) n6.ch).tmp hdz).mut (same_none n6.ch hz) hz).ch, rfl, upd_same, same_none n6.ch hz, hN.le n6.le, hS.le n6.le, hM, fun y hy => ⟨hnk y hy, hnB y hy⟩, Int.le_trans bp.1 bp.2, hnl5, fun C7 H7 o n7 cx hH7 hP => ⟨rfl, q _ _ _ (n6.trans (Nx.made n6.ch hz hdz n7 hH7)) ⟨z, names, rfl, hP, hnm⟩⟩⟩
      refine ⟨_, rfl, _, rfl, _, rfl, sz0, fun r2 hr2 => ⟨_, _, .lst (.of ?_) (dp_strs names), .lst (xs := []) (.of upd_same) .nil, shaped_strs fun y hy => ok.nm y (hnk y hy), shaped_nil, !decide (names = []), by rw [eqv_strs], ?_⟩⟩
      · rw [upd_ne (fun z => by have := n3.ch _ _ nln; rw [z, hr2] at this; cases this)]; exact n3.ch _ _ nln
      have n4 := n3.tmp (o := .lst []) hr2
      generalize upd H5 r2 (.lst []) = H6 at n4 ⊢
      by_cases hne : names = []
      · refine iteC (by simp [hne]) ?_
        -- the spot lies within an edge
        cases p with
        | nd y =>
          have : y ∈ names := (hnm y).mpr ⟨y, List.mem_singleton_self y, bp, .refl bp⟩
          rw [hne] at this; cases this
        | inn l u h =>
          obtain ⟨tx, rfl, htx⟩ := hx
          have hT := n4.ch _ _ (n4.cc _ _ htx)
          refine ⟨_, rfl, tx, _, _, _, rfl, rfl, .of hT, rfl, _, rfl, tx, _, _, _, rfl, rfl, .of hT, rfl, sz2, fun t1 ht1 => ⟨sz1, fun t2 ht2 => ?_⟩⟩
          have n5 := n4.new (o := .tup [V.str l, .str u]) ht1
          have n6 := n5.new (o := .tup [V.ref t1]) ht2
          refine fin t2 _ _ n6 (.inr ⟨hne, t1, l, u, h, rfl, upd_same, ?_⟩)
          rw [upd_ne (fun z => by rw [← z, upd_same] at ht2; cases ht2)]; exact upd_same
      · refine iteB (by simp [hne]) ⟨_, rfl, nl, _, rfl, .inl ⟨.of (n4.ch _ _ nln), fun t ht => ?_⟩⟩
        have n5 := n4.new (o := .tup (names.map V.str)) ht
        exact fin t _ _ n5 (.inl ⟨hne, upd_same⟩)
def sp_part_of (K : PySem.W.Frag) : Sp := Gives fun vs C post => ∃ a x b, ∃ N : Str → NetD, ∃ i p lo hi, vs = [.ref a, x, .ref b] ∧ NetAt C a (N i) ∧ SpotV C x p ∧ (N i).has p ∧ SpanAt C b lo hi ∧ Bt lo hi ((N i).lv p) ∧ post = fun v C' => ∃ r, ∃ names : List Str, v = .ref r ∧ PartAt C' r (N i) names p lo hi ∧ ∀ y, y ∈ names ↔ Fnd (N i) (Bt lo hi) p y
theorem c_part_of (T : Txt K mg) : C8.Cal P w K mg base 8 "part_of" (sp_part_of K) [] := by
  refine mkCal (N := ["net", "spot", "span"]) (ps := ["net", "spot", "span"]) T.d_part_of T.g_part_of (fun _ _ _ _ _ _ us hl => match us, hl with | [_, _, _], _ => rfl) (by decide +kernel) (fun vs H Q E h => ?_) (fun cdv A outer s H vs Q E hr h => ?_)
  · obtain ⟨C, post, sc, ⟨a, x, b, N, i, p, lo, hi, rfl, hN, hx, hp, hS, bp, rfl⟩, q⟩ := h; rfl
  · obtain ⟨C, post, sc, ⟨a, x, b, N, i, p, lo, hi, rfl, hN, hx, hp, hS, bp, rfl⟩, q⟩ := h
    refine ⟨_, (pss_cons (ps_expr (C8.pe_c (c_want_net T) hr (by decide) (by rfl) (pa_cons (pv 0) pa_nil)))
      (pss_cons (ps_expr (C8.pe_c (c_want_spot T) hr (by decide) (by rfl) (pa_cons (pv 0) (pa_cons (pv 1) pa_nil))))
      (pss_cons (ps_expr (C8.pe_c (c_want_span T) hr (by decide) (by rfl) (pa_cons (pv 2) pa_nil)))
      (pss_cons (ps_if (pt_cmpR (op_notIn_own (q_Span_contains T) (hr.mono (by decide))) (C8.pe_mt (q_Net_level_at T) hr (by decide) (pv 0) (pa_cons (pv 1) pa_nil)) (pv 2) (by rfl)) pss_never pss_nil)
      (pss_one (ps_ret (C8.pe_c (c_part_from T) hr (by decide) (by rfl) (pa_cons (pv 0) (pa_cons (pv 1) (pa_cons (pv 2) pa_nil)))))))))), ?_⟩
    refine ⟨_, rfl, C, _, sc, ⟨a, N i, rfl, hN, rfl⟩, fun C1 H1 n1 => ?_⟩
    refine ⟨_, rfl, _, rfl, C1, _, n1.ch, ⟨a, N i, x, p, rfl, hN.le n1.le, hx.le n1.le, hp, rfl⟩, fun C2 H2 a2 => ?_⟩
    have n2 := n1.trans a2
    obtain ⟨dx, l, ed, nn, hA, _⟩ := (hN.le n2.le).ex
    obtain ⟨dxs, hb⟩ := hS.le n2.le
    have hb' := n2.ch _ _ hb
    refine ⟨_, rfl, b, lo, hi, rfl, ⟨dxs, hb'⟩, _, rfl, a, dx, _, rfl, n2.ch _ _ hA, rfl, _, rfl, C2, _, n2.ch, ⟨a, N i, x, p, rfl, hN.le n2.le, hx.le n2.le, hp, rfl⟩, fun C3 H3 a3 => ?_⟩
    have n3 := n2.trans a3
    have hb3 := n3.ch _ _ (a3.cc _ _ hb)
    refine ⟨_, rfl, b, dxs, _, rfl, hb3, b, lo, hi, _, rfl, ⟨dxs, hb3⟩, _, rfl, false, ?_, iteF ?_⟩
    · refine congrArg V.bl ?_
      rw [decide_eq_true (show lo ≤ (N i).lv p ∧ (N i).lv p ≤ hi from bp)]; rfl
    exact ⟨_, rfl, _, rfl, _, rfl, C3, _, n3.ch, ⟨a, x, b, N, i, p, lo, hi, rfl, hN.le n3.le, hx.le n3.le, hp, ⟨dxs, a3.cc _ _ hb⟩, bp, rfl⟩, fun v C4 H4 a4 h => q _ _ _ (n3.trans a4) h⟩
end
end AbW

/-! ## Wc -/
set_option Elab.async false
set_option linter.all false
set_option maxRecDepth 100000
set_option maxHeartbeats 4000000
/-! Wc: bands -/
namespace AbW
open PySem PySem.Spec PyProof.Rows L2 AbH AbR Ab
/-- the values by names, from a list's -/
theorem acc_fun {R : Str → Int → Prop} : ∀ {acc : List V} {xs : List Str}, xs.Nodup → acc.length = xs.length → (∀ (i : Nat) (v : V), acc[i]? = some v → ∀ x, xs[i]? = some x → ∃ t, v = .int t ∧ R x t) → ∃ f : Str → Int, acc = (xs.map f).map V.int ∧ ∀ x ∈ xs, R x (f x)
  | [], [], _, _, _ => ⟨fun _ => 0, rfl, fun _ h => nomatch h⟩
  | [], _ :: _, _, h, _ => by cases h
  | _ :: _, [], _, h, _ => by cases h
  | v :: acc, x :: xs, nd, hl, h => by
    rw [List.nodup_cons] at nd
    obtain ⟨t, e, r⟩ := h 0 v rfl x rfl
    obtain ⟨f, e2, r2⟩ := acc_fun (R := R) nd.2 (by simpa using hl) fun i w hw y hy => h (i + 1) w (by simpa using hw) y (by simpa using hy)
    refine ⟨fun y => if y = x then t else f y, ?_, fun y hy => ?_⟩
    · rw [e2, e, List.map_cons, List.map_cons, if_pos rfl]
      congr 1
      rw [List.map_map, List.map_map]
      refine List.map_congr_left fun y hy => ?_
      have : y ≠ x := fun e => nd.1 (by rw [← e]; exact hy)
      show V.int (f y) = V.int (if y = x then t else f y)
      rw [if_neg this]
    · by_cases e : y = x
      · subst e
        show R y (if y = y then t else f y)
        rw [if_pos rfl]; exact r
      · show R y (if y = x then t else f y)
        rw [if_neg e]
        rcases List.mem_cons.mp hy with e' | hy
        · exact absurd e' e
        · exact r2 y hy
theorem fits_iff {A : List Str} {N : Str → NetD} {p : Str → Spot} {s : Int} : FitsN A N p s ↔ Fits (GN N) A s p := Iff.rfl
section
variable {P : Program} {w : World} {K : PySem.W.Frag} {mg : Str → Option Value} {base : Heap}
def sp_least_top (K : PySem.W.Frag) : Sp := Gives fun vs C post => ∃ a d lo W N s p, vs = [.ref a, .ref d, .int lo] ∧ CompanyR C a W N s ∧ SpotsAt C d W N p ∧ (∀ i ∈ W, lo ≤ lvN N p i) ∧ post = fun v _ => ∃ t, v = .int t ∧ IsLT W N p lo t
theorem c_least_top (T : Txt K mg) : C8.Cal P w K mg base 8 "least_top" (sp_least_top K) [] := by
  refine mkCal (N := ["company", "stand", "low", "name", "net"]) (ps := ["company", "stand", "low"]) T.d_least_top T.g_least_top (fun _ _ _ _ _ _ us hl => match us, hl with | [_, _, _], _ => rfl) (by decide +kernel) (fun vs H Q E h => ?_) (fun cdv A outer s H vs Q E hr h => ?_)
  · obtain ⟨C, post, sc, ⟨a, d, lo, W, N, s', p, rfl, hC, hS, hl, rfl⟩, q⟩ := h; rfl
  · obtain ⟨C, post, sc, ⟨a, d, lo, W, N, s', p, rfl, hC, hS, hl, rfl⟩, q⟩ := h
    have nd : (["company", "stand", "low", "name", "net"] : List Str).Nodup := by decide +kernel
    have hu := units1 hr
    refine ⟨_, (pss_one (ps_ret (pe_callB (cr_min rfl) (by rfl) T.f_min b_min (pa_cons (pe_lc (own := [("name", 3), ("net", 4)]) (by rfl) nd (pi_items (pe_frz (C8.pe_mt0 (q_Company_nets T) hr (by decide) (pv 0)))) (blkOk_by (own := [("name", 3), ("net", 4)]) (N := ["company", "stand", "low", "name", "net"]) (sc := C8.fnScope s_least_top) (by decide +kernel)) (fun _ _ _ _ _ => (pg_tupK (K := K) (n := 2) rfl (by rfl) (pgs_cons (pg_name (i := 3) nd rfl (Or.inl rfl)) (pgs_cons (pg_name (i := 4) nd rfl (Or.inl rfl)) pgs_nil)))) (fun _ _ _ _ _ => pts_nil) (fun _ _ _ _ _ => (C8.pe_c (c_top_of T) hr (by decide) (by rfl) (pa_cons (pv 4) (pa_cons (pe_dget hu (pv 1) (pv 3) (fun _ _ => rfl)) (pa_cons (pv 2) pa_nil)))))) pa_nil)))), ?_⟩
    have ok := hC.1
    obtain ⟨_, dx, dd, ns0, hA, _⟩ := id hC
    refine ⟨_, rfl, a, dx, _, rfl, sc _ _ hA, rfl, C, _, sc, ⟨a, W, N, s', rfl, hC, rfl⟩, fun v C1 H1 a1 ⟨e, ns, ev, e0, e1, pm1, hN1⟩ => ?_⟩
    subst ev
    refine ⟨e, _, rfl, a1.ch _ _ e1, trivial, fun od => ⟨e, od, nsK ns, rfl, upd_same, ?_⟩⟩
    have n1 : Nx [] C H _ _ := a1.frz (od := od) e0 e1
    have nl : ns.length = W.length := by rw [← pm1.length_eq, List.length_map]
    have few := ok.few
    refine lcMap (M := []) walk_items (fun j v _ => ∀ x, (ns.map (·.1))[j]? = some x → ∃ t, v = .int t ∧ IsTop N x (p x) lo t) n1.ch (fun _ h => nomatch h) (szK (by rw [nsK_len]; omega)) (fun C2 H2 n => n.ch _ _ (n.cc _ _ upd_same)) (fun _ _ _ _ _ h => h) (fun i v C2 H2 H3 Z hi n y k => ?_) (fun r acc C2 H2 n cr hr hH hal ha => ?_)
    · obtain ⟨Tp, kk, u, rfl, hT, rfl, ek⟩ := itemsY y
      obtain ⟨x, b, hx, rfl, rfl, hxi⟩ := nsK_get ek
      have hxW := pm1.mem_iff.mp (List.mem_map.mpr ⟨_, hx, rfl⟩)
      refine ⟨Tp, _, rfl, .of upd_same, rfl, _, _, rfl, _, _, rfl, rfl, rfl, ?_⟩
      have n2 : Nx [] C2 H2 C2 (upd H2 Tp (.tup [kV (.inr x), .ref b])) := .tmp0 n.ch hT
      have n3 := (n1.trans n).trans n2
      obtain ⟨sv, g, hsv, hhas⟩ := (hS.toR.le n3.le).get ok.nd hxW
      have hN3 := ((hN1 _ hx).le (Le.lock (od := od) e1)).le n.le
      refine ⟨_, rfl, _, rfl, _, rfl, d, _, rfl, g _ n3.ch, _, rfl, C2, _, n3.ch, ⟨b, sv, lo, N, x, p x, rfl, hN3, hsv, hhas, hl x hxW, rfl⟩, fun v C4 H4 n4 ⟨t, ev, ht⟩ => ?_⟩
      subst ev
      exact k _ C4 H4 (n2.trans n4) fun z hz => by rw [List.getElem?_map, hxi] at hz; cases hz; exact ⟨t, rfl, ht⟩
    · rw [nsK_len] at hal
      obtain ⟨f, e2, hf⟩ := acc_fun (R := fun x t => IsTop N x (p x) lo t) (pm1.nodup_iff.mpr ok.nd) (by rw [hal, List.length_map]) ha
      rw [e2] at hH
      refine ⟨r, (ns.map (·.1)).map f, rfl, .of hH, by rw [List.length_map, List.length_map, nl]; exact List.length_pos_iff.mpr ok.ne, fun t t1 t2 => q _ _ _ (n1.trans n) ⟨t, rfl, lt_of (fun i hi => hf i (pm1.mem_iff.mpr hi)) ?_ fun i hi => t2 _ (List.mem_map.mpr ⟨i, pm1.mem_iff.mpr hi, rfl⟩)⟩⟩
      obtain ⟨i, hi, e⟩ := List.mem_map.mp t1
      exact ⟨i, pm1.mem_iff.mp hi, e⟩
def sp_greatest_dip (K : PySem.W.Frag) : Sp := Gives fun vs C post => ∃ a d hi W N s p, vs = [.ref a, .ref d, .int hi] ∧ CompanyR C a W N s ∧ SpotsAt C d W N p ∧ (∀ i ∈ W, lvN N p i ≤ hi + s) ∧ post = fun v _ => ∃ t, v = .int t ∧ IsGD W N s p hi t
theorem c_greatest_dip (T : Txt K mg) : C8.Cal P w K mg base 8 "greatest_dip" (sp_greatest_dip K) [] := by
  refine mkCal (N := ["company", "stand", "high", "spread", "name", "net"]) (ps := ["company", "stand", "high"]) T.d_greatest_dip T.g_greatest_dip (fun _ _ _ _ _ _ us hl => match us, hl with | [_, _, _], _ => rfl) (by decide +kernel) (fun vs H Q E h => ?_) (fun cdv A outer s H vs Q E hr h => ?_)
  · obtain ⟨C, post, sc, ⟨a, d, hi, W, N, s', p, rfl, hC, hS, hl, rfl⟩, q⟩ := h; rfl
  · obtain ⟨C, post, sc, ⟨a, d, hi, W, N, s', p, rfl, hC, hS, hl, rfl⟩, q⟩ := h
    have nd : (["company", "stand", "high", "spread", "name", "net"] : List Str).Nodup := by decide +kernel
    have hu := units1 hr
    refine ⟨_, (pss_cons (ps_set (i := 3) nd rfl (Or.inr rfl) (pe_pr (p_Company_spread T) hr (by decide) (pv 0)))
      (pss_one (ps_ret (pe_op op_sub (pe_callB (cr_max rfl) (by rfl) T.f_max b_max (pa_cons (pe_lc (own := [("name", 4), ("net", 5)]) (by rfl) nd (pi_items (pe_frz (C8.pe_mt0 (q_Company_nets T) hr (by decide) (pv 0)))) (blkOk_by (own := [("name", 4), ("net", 5)]) (N := ["company", "stand", "high", "spread", "name", "net"]) (sc := C8.fnScope s_greatest_dip) (by decide +kernel)) (fun _ _ _ _ _ => (pg_tupK (K := K) (n := 2) rfl (by rfl) (pgs_cons (pg_name (i := 4) nd rfl (Or.inl rfl)) (pgs_cons (pg_name (i := 5) nd rfl (Or.inl rfl)) pgs_nil)))) (fun _ _ _ _ _ => pts_nil) (fun _ _ _ _ _ => (C8.pe_c (c_dip_of T) hr (by decide) (by rfl) (pa_cons (pv 5) (pa_cons (pe_dget hu (pv 1) (pv 4) (fun _ _ => rfl)) (pa_cons (pe_op op_add (pv 2) (pv 3)) pa_nil)))))) pa_nil)) (pv 3))))), ?_⟩
    have ok := hC.1
    obtain ⟨_, dx, dd, ns0, hA, _⟩ := id hC
    refine ⟨_, rfl, a, dx, _, rfl, sc _ _ hA, C, a, W, N, s', sc, rfl, hC, ?_⟩
    refine ⟨_, rfl, a, dx, _, rfl, sc _ _ hA, rfl, C, _, sc, ⟨a, W, N, s', rfl, hC, rfl⟩, fun v C1 H1 a1 ⟨e, ns, ev, e0, e1, pm1, hN1⟩ => ?_⟩
    subst ev
    refine ⟨e, _, rfl, a1.ch _ _ e1, trivial, fun od => ⟨e, od, nsK ns, rfl, upd_same, ?_⟩⟩
    have n1 : Nx [] C H _ _ := a1.frz (od := od) e0 e1
    have nl : ns.length = W.length := by rw [← pm1.length_eq, List.length_map]
    have few := ok.few
    refine lcMap (M := []) walk_items (fun j v _ => ∀ x, (ns.map (·.1))[j]? = some x → ∃ t, v = .int t ∧ IsDip N x (p x) (hi + s') t) n1.ch (fun _ h => nomatch h) (szK (by rw [nsK_len]; omega)) (fun C2 H2 n => n.ch _ _ (n.cc _ _ upd_same)) (fun _ _ _ _ _ h => h) (fun i v C2 H2 H3 Z hj n y k => ?_) (fun r acc C2 H2 n cr hr hH hal ha => ?_)
    · obtain ⟨Tp, kk, u, rfl, hT, rfl, ek⟩ := itemsY y
      obtain ⟨x, b, hx, rfl, rfl, hxi⟩ := nsK_get ek
      have hxW := pm1.mem_iff.mp (List.mem_map.mpr ⟨_, hx, rfl⟩)
      refine ⟨Tp, _, rfl, .of upd_same, rfl, _, _, rfl, _, _, rfl, rfl, rfl, ?_⟩
      have n2 : Nx [] C2 H2 C2 (upd H2 Tp (.tup [kV (.inr x), .ref b])) := .tmp0 n.ch hT
      have n3 := (n1.trans n).trans n2
      obtain ⟨sv, g, hsv, hhas⟩ := (hS.toR.le n3.le).get ok.nd hxW
      have hN3 := ((hN1 _ hx).le (Le.lock (od := od) e1)).le n.le
      refine ⟨_, rfl, _, rfl, _, rfl, d, _, rfl, g _ n3.ch, _, rfl, _, rfl, _, _, rfl, rfl, C2, _, n3.ch, ⟨b, sv, hi + s', N, x, p x, rfl, hN3, hsv, hhas, hl x hxW, rfl⟩, fun v C4 H4 n4 ⟨t, ev, ht⟩ => ?_⟩
      subst ev
      exact k _ C4 H4 (n2.trans n4) fun z hz => by rw [List.getElem?_map, hxi] at hz; cases hz; exact ⟨t, rfl, ht⟩
    · rw [nsK_len] at hal
      obtain ⟨f, e2, hf⟩ := acc_fun (R := fun x t => IsDip N x (p x) (hi + s') t) (pm1.nodup_iff.mpr ok.nd) (by rw [hal, List.length_map]) ha
      rw [e2] at hH
      refine ⟨r, (ns.map (·.1)).map f, rfl, .of hH, by rw [List.length_map, List.length_map, nl]; exact List.length_pos_iff.mpr ok.ne, fun t t1 t2 => ⟨_, rfl, _, _, rfl, rfl, q _ _ _ (n1.trans n) ⟨t - s', rfl, gd_of (fun i hi => hf i (pm1.mem_iff.mpr hi)) ?_ fun i hi => ?_⟩⟩⟩
      · obtain ⟨i, hi, e⟩ := List.mem_map.mp t1
        exact ⟨i, pm1.mem_iff.mp hi, by rw [e]; omega⟩
      · have := t2 _ (List.mem_map.mpr ⟨i, pm1.mem_iff.mpr hi, rfl⟩)
        omega
end
end AbW

/-! ## We -/
set_option Elab.async false
set_option linter.all false
set_option maxRecDepth 100000
set_option maxHeartbeats 4000000
/-! We: ladders -/
namespace AbW
open PySem PySem.Spec PyProof.Rows L2 AbH AbR Ab
/-- what a statement leaves, told once for all that follows -/
theorem cutS {t rest : TS} {D : Ends} {σ : L2.St} {H : Hp} (R : L2.St → Hp → Prop) (h : ∀ N : L2.St → Hp → Prop, (∀ σ' H', R σ' H' → N σ' H') → t { D with nx := N } σ H) (k : ∀ σ' H', R σ' H' → rest D σ' H') : tSeq t rest D σ H := h _ k
section
variable {P : Program} {w : World} {K : PySem.W.Frag} {mg : Str → Option Value} {base : Heap}
def sp_ladder (K : PySem.W.Frag) : Sp := Gives fun vs C post => ∃ a d W N s p, vs = [.ref a, .ref d] ∧ CompanyR C a W N s ∧ SpotsAt C d W N p ∧ FitsN W N p s ∧ (∀ i ∈ W, (N i).Ok ∧ (N i).has (p i)) ∧
  post = fun v C' => ∃ l xs b lo hi, v = .ref l ∧ C' l = some (.lst (xs ++ [.ref b])) ∧ xs.length ≤ 100 ∧ SpanAt C' b lo hi ∧ Band (GN N) W s p lo hi
theorem c_ladder (T : Txt K mg) : C8.Cal P w K mg base 12 "ladder" (sp_ladder K) [] := by
  refine mkCal (N := ["company", "stand", "span", "low", "high", "found", "top", "bottom"]) (ps := ["company", "stand"]) T.d_ladder T.g_ladder (fun _ _ _ _ _ _ us hl => match us, hl with | [_, _], _ => rfl) (by decide +kernel) (fun vs H Q E h => ?_) (fun cdv A outer s H vs Q E hr h => ?_)
  · obtain ⟨C, post, sc, ⟨a, d, W, N, s', p, rfl, hC, hS, hf, hok, rfl⟩, q⟩ := h; rfl
  · obtain ⟨C, post, sc, ⟨a, d, W, N, s', p, rfl, hC, hS, hf, hok, rfl⟩, q⟩ := h
    have nd : (["company", "stand", "span", "low", "high", "found", "top", "bottom"] : List Str).Nodup := by decide +kernel
    refine ⟨_, (pss_cons (ps_set (i := 2) nd rfl (Or.inl rfl) (C8.pe_c (c_windows T) hr (by decide) (by rfl) (pa_cons (pv 0) (pa_cons (pv 1) pa_nil))))
      (pss_cons (ps_par3 (i := 3) (j := 4) (l := 5) (by rfl) nd rfl rfl rfl (by decide) (by decide) (by decide) rfl rfl rfl (pa_cons (pe_pr (p_Span_low T) hr (by decide) (pv 2)) (pa_cons (pe_pr (p_Span_high T) hr (by decide) (pv 2)) (pa_cons (pe_lst (pa_cons (pv 2) pa_nil)) pa_nil))) (by rfl))
      (pss_one (ps_while PassesOwn.never (pt_val pe_bl) (pss_cons (ps_set (i := 6) nd rfl (Or.inl rfl) (C8.pe_c (c_least_top T) hr (by decide) (by rfl) (pa_cons (pv 0) (pa_cons (pv 1) (pa_cons (pv 3) pa_nil)))))
      (pss_cons (ps_if (pt_cmpR op_ne (pv 6) (pv 4) (nomark _)) (pss_cons (ps_set (i := 4) nd rfl (Or.inl rfl) (pv 6))
      (pss_one (ps_expr (pe_bm PySem.F.plainAttrs_list PySem.F.slot_list_append PySem.F.type_list_append mt_append (pv 5) (pa_cons (C8.pe_mk (m_Span T) hr (by decide) (by rfl) (pa_cons (pv 3) (pa_cons (pv 4) pa_nil))) pa_nil))))) pss_nil)
      (pss_cons (ps_set (i := 7) nd rfl (Or.inl rfl) (C8.pe_c (c_greatest_dip T) hr (by decide) (by rfl) (pa_cons (pv 0) (pa_cons (pv 1) (pa_cons (pv 4) pa_nil)))))
      (pss_cons (ps_if (pt_cmpR op_eq (pv 7) (pv 3) (nomark _)) (pss_one (ps_ret (pv 5))) pss_nil)
      (pss_cons (ps_set (i := 3) nd rfl (Or.inl rfl) (pv 7))
      (pss_one (ps_expr (pe_bm PySem.F.plainAttrs_list PySem.F.slot_list_append PySem.F.type_list_append mt_append (pv 5) (pa_cons (C8.pe_mk (m_Span T) hr (by decide) (by rfl) (pa_cons (pv 3) (pa_cons (pv 4) pa_nil))) pa_nil))))))))))))), ?_⟩
    have ok := hC.1
    have hs := ok.s0
    obtain ⟨w0, hw0⟩ := List.exists_mem_of_ne_nil _ ok.ne
    refine ⟨_, rfl, _, rfl, C, _, sc, ⟨a, d, W, N, s', p, rfl, hC, hS, hf, rfl⟩, fun v C1 H1 n1 ⟨b, lo, hi, ev, hb, hw⟩ => ?_⟩
    subst ev
    obtain ⟨dxs, hb0⟩ := id hb
    have hb1 := n1.ch _ _ hb0
    refine ⟨_, rfl, b, dxs, _, rfl, hb1, b, lo, hi, rfl, ⟨dxs, hb1⟩, _, rfl, b, dxs, _, rfl, hb1, b, lo, hi, rfl, ⟨dxs, hb1⟩, _, rfl, sz1, fun F hF => ⟨_, _, _, rfl, ?_⟩⟩
    have a2 : Nx [] C1 H1 C1 (upd H1 F (.lst [.ref b])) := .tmp0 n1.ch hF
    have d2 : Dt C1 (upd H1 F (.lst [.ref b])) F (.lst ([] ++ [.ref b])) := .make n1.ch hF
    obtain ⟨⟨⟨i1, hi1, e1⟩, h1⟩, ⟨i2, hi2, e2⟩, h2⟩ := hw
    have lohi : lo ≤ hi := by
      have := hf i1 hi1 i2 hi2
      omega
    have lo5 : 0 ≤ lo + s' ∧ lo + s' ≤ 5 := by
      have := has_b (hok i1 hi1).1 (hok i1 hi1).2
      have e1 : (N i1).lv (p i1) = lo + s' := e1
      omega
    have J0 : Ab.Inv (GN N) W s' (· ∈ W) p lo hi := Ab.Inv.start hs lohi fun j hj _ => ⟨h2 j hj, h1 j hj⟩
    refine ⟨fun k σ H' => ∃ z1 z2 C' lo hi xs b', σ = [some (.ref a), some (.ref d), some (.ref b), some (.int lo), some (.int hi), some (.ref F), z1, z2] ∧ Nx [] C1 H1 C' H' ∧ Dt C' H' F (.lst (xs ++ [.ref b'])) ∧ SpanAt C' b' lo hi ∧ Ab.Inv (GN N) W s' (· ∈ W) p lo hi ∧ xs.length + 2 * k ≤ 50 ∧ k = (lo + s').toNat ∧ 0 ≤ lo + s', ⟨_, _, _, C1, lo, hi, [], b, rfl, a2, d2, hb, J0, by simp; omega, rfl, lo5.1⟩, ?_⟩
    rintro k σ H3 ⟨z1, z2, C3, lo, hi, xs, b', rfl, n3, d3, hb', J, xl, rfl, lo0⟩
    clear J0 lo5 lohi h1 h2 e1 e2 hb hb0 hb1 a2 d2
    refine ⟨true, rfl, iteT ⟨fun σ' H' => ∃ m', m' < (lo + s').toNat ∧ ∃ z1 z2 C' lo hi xs b', σ' = [some (.ref a), some (.ref d), some (.ref b), some (.int lo), some (.int hi), some (.ref F), z1, z2] ∧ Nx [] C1 H1 C' H' ∧ Dt C' H' F (.lst (xs ++ [.ref b'])) ∧ SpanAt C' b' lo hi ∧ Ab.Inv (GN N) W s' (· ∈ W) p lo hi ∧ xs.length + 2 * m' ≤ 50 ∧ m' = (lo + s').toNat ∧ 0 ≤ lo + s', fun _ _ h => h, ?_⟩⟩
    have g3 := n1.trans n3
    refine ⟨_, rfl, _, rfl, _, rfl, C3, _, n3.ch, ⟨a, d, lo, W, N, s', p, rfl, hC.le g3.le, hS.same g3.cc, fun i hi => (inv_lv (fun _ h => h) J i hi).1, rfl⟩, fun v C4 H4 a4 ⟨t, ev, ht⟩ => ?_⟩
    subst ev
    have n4 := n3.trans a4
    have d4 := d3.on a4
    have hb4 := hb'.le a4.le
    have up : hi ≤ t := inv_lt (fun _ h => h) J ht
    have J1 := inv_up hs ⟨w0, hw0, trivial⟩ (fun _ h => h) J ht up (Int.le_refl t)
    try dsimp only
    refine cutS (R := fun σ' H' => ∃ C' xs b', σ' = [some (.ref a), some (.ref d), some (.ref b), some (.int lo), some (.int t), some (.ref F), some (.int t), z2] ∧ Nx [] C1 H1 C' H' ∧ Dt C' H' F (.lst (xs ++ [.ref b'])) ∧ SpanAt C' b' lo t ∧ xs.length + 2 * (lo + s').toNat ≤ 51) (fun Nn k => ?_) (fun σ5 H5 ⟨C5, xs5, b5, es, n5, d5, hb5, xl5⟩ => ?_)
    · refine ⟨_, rfl, _, rfl, rfl, !decide (t = hi), by simp, ?_⟩
      by_cases e : t = hi
      · subst e
        exact iteC (by simp) (k _ _ ⟨C4, xs, b', rfl, n4, d4, hb4, by omega⟩)
      · refine iteB (by simp [e]) ⟨_, rfl, _, rfl, .inl ⟨rfl, _, .of d4.at_⟩, _, rfl, _, rfl, fun x dx hx hdx hne => ⟨x, dx, lo, t, rfl, upd_same, J1.le, rfl, ?_⟩⟩
        have a5 : Nx [] C4 H4 _ (upd (upd (upd H4 dx (.own x)) x (.ins 635 dx [])) x (.ins 635 dx (spanF lo t))) := (Nx.rfl n4.ch).span hx hdx hne
        have n5 := n4.trans a5
        have d5 := d4.on a5
        refine ⟨F, _, _, rfl, rfl, d5.at_, szL (by rw [List.length_append, List.length_singleton]; omega), k _ _ ⟨_, xs ++ [.ref b'], x, rfl, n5.put d5 hF, d5.put, ⟨dx, upd_same⟩, by rw [List.length_append, List.length_singleton]; omega⟩⟩
    subst es
    have g5 := n1.trans n5
    refine ⟨_, rfl, _, rfl, _, rfl, C5, _, n5.ch, ⟨a, d, t, W, N, s', p, rfl, hC.le g5.le, hS.same g5.cc, fun i hi => (inv_lv (fun _ h => h) J1 i hi).2, rfl⟩, fun v C6 H6 a6 ⟨t2, ev, ht2⟩ => ?_⟩
    subst ev
    have n6 := n5.trans a6
    have d6 := d5.on a6
    have hb6 := hb5.le a6.le
    have dn : t2 ≤ lo := inv_gd (fun _ h => h) J1 ht2
    have t20 : 0 ≤ t2 + s' := by
      obtain ⟨v, r, hv⟩ := ht2.2 w0 hw0
      have := has_b (hok w0 hw0).1 (rc_has (hok w0 hw0).1 r (hok w0 hw0).2)
      omega
    refine ⟨_, rfl, _, rfl, rfl, decide (t2 = lo), by simp, ?_⟩
    by_cases e : t2 = lo
    · subst e
      refine iteP rfl ⟨_, rfl, ?_⟩
      have nk := n6.keep d6.at_ hF
      refine q _ _ _ (n1.trans nk) ⟨F, xs5, b5, t2, t, rfl, upd_same, by omega, hb6.le (Same.le (same_upd d6.no)), band_make J1 ht ht2⟩
    · refine iteQ e ?_
      have J2 := inv_down hs (fun _ h => h) J1 ht2 dn (Int.le_refl t2)
      refine ⟨_, rfl, _, rfl, .inl ⟨rfl, _, .of d6.at_⟩, _, rfl, _, rfl, fun x dx hx hdx hne => ⟨x, dx, t2, t, rfl, upd_same, J2.le, rfl, ?_⟩⟩
      have a7 : Nx [] C6 H6 _ (upd (upd (upd H6 dx (.own x)) x (.ins 635 dx [])) x (.ins 635 dx (spanF t2 t))) := (Nx.rfl n6.ch).span hx hdx hne
      have n7 := n6.trans a7
      have d7 := d6.on a7
      refine ⟨F, _, _, rfl, rfl, d7.at_, szL (by rw [List.length_append, List.length_singleton]; omega), (t2 + s').toNat, by omega, _, _, _, t2, t, xs5 ++ [.ref b5], x, rfl, n7.put d7 hF, d7.put, ⟨dx, upd_same⟩, J2, by rw [List.length_append, List.length_singleton]; omega, rfl, t20⟩
def sp_band (K : PySem.W.Frag) : Sp := Gives fun vs C post => ∃ a d W N s p, vs = [.ref a, .ref d] ∧ CompanyR C a W N s ∧ SpotsAt C d W N p ∧ FitsN W N p s ∧ (∀ i ∈ W, (N i).Ok ∧ (N i).has (p i)) ∧
  post = fun v C' => ∃ b lo hi, v = .ref b ∧ SpanAt C' b lo hi ∧ Band (GN N) W s p lo hi
theorem c_band (T : Txt K mg) : C8.Cal P w K mg base 13 "band" (sp_band K) [] := by
  refine mkCal (N := ["company", "stand"]) (ps := ["company", "stand"]) T.d_band T.g_band (fun _ _ _ _ _ _ us hl => match us, hl with | [_, _], _ => rfl) (by decide +kernel) (fun vs H Q E h => ?_) (fun cdv A outer s H vs Q E hr h => ?_)
  · obtain ⟨C, post, sc, ⟨a, d, W, N, s', p, rfl, hC, hS, hf, hok, rfl⟩, q⟩ := h; rfl
  · obtain ⟨C, post, sc, ⟨a, d, W, N, s', p, rfl, hC, hS, hf, hok, rfl⟩, q⟩ := h
    refine ⟨_, (pss_one (ps_ret (pe_ix ix_list (C8.pe_c (c_ladder T) hr (by decide) (by rfl) (pa_cons (pv 0) (pa_cons (pv 1) pa_nil))) (pe_un un_neg pe_int) (fun _ _ => rfl)))), ?_⟩
    refine ⟨_, rfl, _, rfl, C, _, sc, ⟨a, d, W, N, s', p, rfl, hC, hS, hf, hok, rfl⟩, fun v C1 H1 n1 ⟨l, xs, b, lo, hi, ev, hl, _, hb, hB⟩ => ?_⟩
    subst ev
    have e : atI (xs ++ [V.ref b]) (-1) = some (V.ref b) := by
      unfold atI ixN
      rw [if_neg (by omega), if_pos (by rw [List.length_append, List.length_singleton]; omega)]
      have : ((-1 : Int) + ((xs ++ [V.ref b]).length : Nat)).toNat = xs.length := by
        rw [List.length_append, List.length_singleton]; omega
      show (xs ++ [V.ref b])[_]? = _
      rw [this, List.getElem?_append_right (Nat.le_refl _)]
      simp
    exact ⟨1, rfl, l, _, -1, _, rfl, rfl, .of (n1.ch _ _ hl), e, q _ _ _ n1 ⟨b, lo, hi, rfl, hb, hB⟩⟩
def sp_reach (K : PySem.W.Frag) : Sp := Gives fun vs C post => ∃ a d W N s p, vs = [.ref a, .ref d] ∧ CompanyR C a W N s ∧ SpotsAt C d W N p ∧ FitsN W N p s ∧ (∀ i ∈ W, (N i).Ok ∧ (N i).has (p i)) ∧
  post = fun v C' => ∃ e lo hi, ∃ rs : List (Str × Addr), v = .ref e ∧ C e = none ∧ C' e = some (.dK (nsK rs)) ∧ (rs.map (·.1)).Perm W ∧ Band (GN N) W s p lo hi ∧ ∀ r ∈ rs, ∃ names : List Str, PartAt C' r.2 (N r.1) names (p r.1) lo (hi + s) ∧ ∀ y, y ∈ names ↔ Fnd (N r.1) (Bt lo (hi + s)) (p r.1) y
theorem c_reach (T : Txt K mg) : C8.Cal P w K mg base 14 "reach" (sp_reach K) [] := by
  refine mkCal (N := ["company", "stand", "wide", "name", "net"]) (ps := ["company", "stand"]) T.d_reach T.g_reach (fun _ _ _ _ _ _ us hl => match us, hl with | [_, _], _ => rfl) (by decide +kernel) (fun vs H Q E h => ?_) (fun cdv A outer s H vs Q E hr h => ?_)
  · obtain ⟨C, post, sc, ⟨a, d, W, N, s', p, rfl, hC, hS, hf, hok, rfl⟩, q⟩ := h; rfl
  · obtain ⟨C, post, sc, ⟨a, d, W, N, s', p, rfl, hC, hS, hf, hok, rfl⟩, q⟩ := h
    have nd : (["company", "stand", "wide", "name", "net"] : List Str).Nodup := by decide +kernel
    have hu := units1 hr
    refine ⟨_, (pss_cons (ps_set (i := 2) nd rfl (Or.inr rfl) (C8.pe_c (c_wide_span T) hr (by decide) (by rfl) (pa_cons (pv 0) (pa_cons (C8.pe_c (c_band T) hr (by decide) (by rfl) (pa_cons (pv 0) (pa_cons (pv 1) pa_nil))) pa_nil))))
      (pss_one (ps_ret (pe_dc (own := [("name", 3), ("net", 4)]) (by rfl) nd (pi_items (pe_frz (C8.pe_mt0 (q_Company_nets T) hr (by decide) (pv 0)))) (blkOk_by (own := [("name", 3), ("net", 4)]) (N := ["company", "stand", "wide", "name", "net"]) (sc := C8.fnScope s_reach) (by decide +kernel)) (fun _ _ _ _ _ => (pg_tupK (K := K) (n := 2) rfl (by rfl) (pgs_cons (pg_name (i := 3) nd rfl (Or.inl rfl)) (pgs_cons (pg_name (i := 4) nd rfl (Or.inl rfl)) pgs_nil)))) (fun _ _ _ _ _ => pts_nil) (fun _ _ _ _ _ => (pv 3)) (fun _ _ _ _ _ => (C8.pe_c (c_part_of T) hr (by decide) (by rfl) (pa_cons (pv 4) (pa_cons (pe_dget hu (pv 1) (pv 3) (fun _ _ => rfl)) (pa_cons (pv 2) pa_nil))))))))), ?_⟩
    have ok := hC.1
    refine ⟨_, rfl, _, rfl, _, rfl, C, _, sc, ⟨a, d, W, N, s', p, rfl, hC, hS, hf, hok, rfl⟩, fun v C1 H1 n1 ⟨b, lo, hi, ev, hb, hB⟩ => ?_⟩
    subst ev
    refine ⟨C1, _, n1.ch, ⟨a, b, W, N, s', lo, hi, rfl, hC.le n1.le, hb, hB.inv.le, rfl⟩, fun v C2 H2 a2 ⟨c, ev, hc⟩ => ?_⟩
    subst ev
    have n2 := n1.trans a2
    obtain ⟨_, dx, dd, ns0, hA, _⟩ := hC.le n2.le
    refine ⟨_, rfl, a, dx, _, rfl, n2.ch _ _ hA, rfl, C2, _, n2.ch, ⟨a, W, N, s', rfl, hC.le n2.le, rfl⟩, fun v C3 H3 a3 ⟨e, ns, ev, e0, e1, pm1, hN1⟩ => ?_⟩
    subst ev
    refine ⟨e, _, rfl, a3.ch _ _ e1, trivial, fun od => ⟨e, od, nsK ns, rfl, upd_same, ?_⟩⟩
    have n3 : Nx [] C2 H2 _ _ := a3.frz (od := od) e0 e1
    have nl : ns.length = W.length := by rw [← pm1.length_eq, List.length_map]
    have few := ok.few
    have ndv : ((nsK ns).map (·.1)).Nodup := by
      rw [nsK_keys]; exact nodup_map (fun _ _ e => Sum.inr.inj e) (pm1.nodup_iff.mpr ok.nd)
    refine dcMap (M := []) walk_items (kAt (nsK ns)) (fun j v C' => ∃ x r, ∃ names : List Str, kAt (nsK ns) j = .inr x ∧ v = .ref r ∧ PartAt C' r (N x) names (p x) lo (hi + s') ∧ ∀ y, y ∈ names ↔ Fnd (N x) (Bt lo (hi + s')) (p x) y) (kAt_inj ndv) n3.ch (fun _ h => nomatch h) (szK (by rw [nsK_len]; omega)) (fun C2 H2 n => n.ch _ _ (n.cc _ _ upd_same)) (fun _ _ _ _ sm ⟨x, r, nm, h1, h2, h3, h4⟩ => ⟨x, r, nm, h1, h2, h3.le (Same.le sm), h4⟩) (fun i v C4 H4 H5 Z hj n y k => ?_) (fun r acc C4 H4 n cr hr hH hal ha => ?_)
    · obtain ⟨Tp, kk, u, rfl, hT, rfl, ek⟩ := itemsY y
      obtain ⟨x, bx, hx, rfl, rfl, hxi⟩ := nsK_get ek
      have hxW := pm1.mem_iff.mp (List.mem_map.mpr ⟨_, hx, rfl⟩)
      refine ⟨Tp, _, rfl, .of upd_same, rfl, _, _, rfl, _, _, rfl, rfl, rfl, _, rfl, ?_⟩
      have a5 : Nx [] C4 H4 C4 (upd H4 Tp (.tup [kV (.inr x), .ref bx])) := .tmp0 n.ch hT
      have n5 := ((n2.trans n3).trans n).trans a5
      have hS5 := hS.toR.le n5.le
      obtain ⟨sv, g, hsv, hhas⟩ := hS5.get ok.nd hxW
      have hN5 := ((hN1 _ hx).le (Le.lock (od := od) e1)).le n.le
      have hc5 := ((hc.le a3.le).le (Le.lock (od := od) e1)).le n.le
      refine ⟨_, rfl, _, rfl, _, rfl, d, _, rfl, g _ n5.ch, _, rfl, C4, _, n5.ch, ⟨bx, sv, c, N, x, p x, lo, hi + s', rfl, hN5, hsv, hhas, hc5, hB.lv x hxW, rfl⟩, fun v C6 H6 n6 ⟨r, nm, ev, hP, hf⟩ => ?_⟩
      subst ev
      have k' := k _ C6 H6 (a5.trans n6) ⟨x, r, nm, kAt_of ek, rfl, hP, hf⟩
      rw [kAt_of ek] at k'
      exact k'
    · have n4 := (n2.trans n3).trans n
      have hr0 := (n2.trans n3).back hr
      have ka := same_keys hal fun i kv e => (ha i kv e).1
      have n5 := n4.keep hH hr0
      have cs : Same C4 (upd C4 r (.dK acc)) := same_upd cr
      rw [nsK_keys] at ka
      have hv : ∀ kv ∈ acc, ∃ y a, kv = (Sum.inr y, V.ref a) ∧ (y, a) ∈ (acc.map fun kv : Key × V => ((match kv.1 with | .inr y => y | .inl _ => ""), (match kv.2 with | .ref a => a | _ => (0 : Addr)))) := fun kv h => by
        obtain ⟨i, hi, ei⟩ := List.mem_iff_getElem.mp h
        obtain ⟨f1, x, r, nm, f2, f3, f4, f5⟩ := ha i kv (by rw [List.getElem?_eq_getElem hi, ei])
        refine ⟨x, r, Prod.ext (f1.trans f2) f3, List.mem_map.mpr ⟨kv, h, ?_⟩⟩
        rw [f1.trans f2, f3]
      obtain ⟨rs, e2, e3, _⟩ := acc_ns ka hv
      refine q _ _ _ n5 ⟨r, lo, hi, rs, rfl, same_none sc hr0, by rw [e2]; exact upd_same, by rw [e3]; exact pm1, hB, fun t ht => ?_⟩
      have ht' : (Sum.inr t.1, V.ref t.2) ∈ acc := by rw [e2]; exact List.mem_map.mpr ⟨t, ht, rfl⟩
      obtain ⟨i, hi, ei⟩ := List.mem_iff_getElem.mp ht'
      obtain ⟨f1, x, r', nm, f2, f3, f4, f5⟩ := ha i _ (by rw [List.getElem?_eq_getElem hi, ei])
      cases f3
      have ex : t.1 = x := Sum.inr.inj (f1.trans f2)
      rw [ex]
      exact ⟨nm, f4.le (Same.le cs), f5⟩
end
end AbW

/-! ## Wf -/
set_option Elab.async false
set_option linter.all false
set_option maxRecDepth 100000
set_option maxHeartbeats 4000000
/-! Wf: what can be taken -/
namespace AbW
open PySem PySem.Spec PyProof.Rows L2 AbH AbR Ab
section
variable {P : Program} {w : World} {K : PySem.W.Frag} {mg : Str → Option Value} {base : Heap}
def sp_widens_to (K : PySem.W.Frag) : Sp := Gives fun vs C post => ∃ c d b A N s pl lo0 hi0, vs = [.ref c, .ref d, .ref b] ∧ CompanyR C c A N s ∧ SpotsAt C d A N pl ∧ FitsN A N pl s ∧ SpanAt C b lo0 hi0 ∧ (∀ j ∈ A, lo0 ≤ lvN N pl j ∧ lvN N pl j ≤ hi0 + s) ∧ lo0 ≤ hi0 ∧
  post = fun v _ => ∃ r, v = .bl r ∧ (r = true → ∀ L : List Str, (∀ i ∈ A, i ∈ L) → Ab.Inv (GN N) L s (· ∈ A) pl lo0 hi0) ∧
    (r = false → ∀ (L : List Str) (p : Str → Spot), (∀ i ∈ A, i ∈ L) → Fits (GN N) L s p → Band (GN N) L s p lo0 hi0 → ¬ Tk N L s p A pl)
theorem c_widens_to (T : Txt K mg) : C8.Cal P w K mg base 12 "widens_to" (sp_widens_to K) [] := by
  refine mkCal (N := ["company", "places", "span", "own", "low", "high", "top", "bottom"]) (ps := ["company", "places", "span"]) T.d_widens_to T.g_widens_to (fun _ _ _ _ _ _ us hl => match us, hl with | [_, _, _], _ => rfl) (by decide +kernel) (fun vs H Q E h => ?_) (fun cdv A outer s H vs Q E hr h => ?_)
  · obtain ⟨C, post, sc, ⟨c, d, b, A', N, s', pl, lo0, hi0, rfl, hC, hS, hf, hb, hlv, h00, rfl⟩, q⟩ := h; rfl
  · obtain ⟨C, post, sc, ⟨c, d, b, A', N, s', pl, lo0, hi0, rfl, hC, hS, hf, hb, hlv, h00, rfl⟩, q⟩ := h
    have nd : (["company", "places", "span", "own", "low", "high", "top", "bottom"] : List Str).Nodup := by decide +kernel
    refine ⟨_, (pss_cons (ps_set (i := 3) nd rfl (Or.inl rfl) (C8.pe_c (c_windows T) hr (by decide) (by rfl) (pa_cons (pv 0) (pa_cons (pv 1) pa_nil))))
      (pss_cons (ps_par (i := 4) (j := 5) (by rfl) nd rfl rfl (by decide) rfl rfl (pa_cons (pe_callB (call_max2 rfl) (by rfl) T.f_max b_max (pa_cons (pe_pr (p_Span_low T) hr (by decide) (pv 3)) (pa_cons (pe_pr (p_Span_low T) hr (by decide) (pv 2)) pa_nil))) (pa_cons (pe_callB (call_min2 rfl) (by rfl) T.f_min b_min (pa_cons (pe_pr (p_Span_high T) hr (by decide) (pv 3)) (pa_cons (pe_pr (p_Span_high T) hr (by decide) (pv 2)) pa_nil))) pa_nil)) (by rfl))
      (pss_cons (ps_if (pt_cmpR op_gt (pv 4) (pv 5) (nomark _)) (pss_one (ps_ret pe_bl)) pss_nil)
      (pss_one (ps_while PassesOwn.never (pt_val pe_bl) (pss_cons (ps_set (i := 6) nd rfl (Or.inl rfl) (pe_callB (call_min2 rfl) (by rfl) T.f_min b_min (pa_cons (C8.pe_c (c_least_top T) hr (by decide) (by rfl) (pa_cons (pv 0) (pa_cons (pv 1) (pa_cons (pv 4) pa_nil)))) (pa_cons (pe_pr (p_Span_high T) hr (by decide) (pv 2)) pa_nil))))
      (pss_cons (ps_set (i := 7) nd rfl (Or.inl rfl) (pe_callB (call_max2 rfl) (by rfl) T.f_max b_max (pa_cons (C8.pe_c (c_greatest_dip T) hr (by decide) (by rfl) (pa_cons (pv 0) (pa_cons (pv 1) (pa_cons (pv 6) pa_nil)))) (pa_cons (pe_pr (p_Span_low T) hr (by decide) (pv 2)) pa_nil))))
      (pss_cons (ps_if (PW.pt (pw_and (pt_cmpR op_eq (pv 6) (pv 5) (nomark _)) (pw_and1 (pt_cmpR op_eq (pv 7) (pv 4) (nomark _))))) (pss_one (ps_ret (pe_and (pe_cmpR op_eq (pv 4) (pe_pr (p_Span_low T) hr (by decide) (pv 2)) (nomark _)) (pe_one (pe_cmpR op_eq (pv 5) (pe_pr (p_Span_high T) hr (by decide) (pv 2)) (nomark _)))))) pss_nil)
      (pss_one (ps_par (i := 4) (j := 5) (by rfl) nd rfl rfl (by decide) rfl rfl (pa_cons (pv 7) (pa_cons (pv 6) pa_nil)) (by rfl))))))))))), ?_⟩
    have ok := hC.1
    have hs := ok.s0
    obtain ⟨w0, hw0⟩ := List.exists_mem_of_ne_nil _ ok.ne
    obtain ⟨dxb, hb0⟩ := id hb
    refine ⟨_, rfl, _, rfl, C, _, sc, ⟨c, d, A', N, s', pl, rfl, hC, hS, hf, rfl⟩, fun v C1 H1 n1 ⟨o, wl, wh, ev, ho, hw⟩ => ?_⟩
    subst ev
    obtain ⟨dxo, ho0⟩ := ho
    have ho1 := n1.ch _ _ ho0
    have hb1 := n1.ch _ _ (n1.cc _ _ hb0)
    refine ⟨_, rfl, o, dxo, _, rfl, ho1, o, wl, wh, rfl, ⟨dxo, ho1⟩, _, rfl, b, dxb, _, rfl, hb1, b, lo0, hi0, rfl, ⟨dxb, hb1⟩, wl, lo0, rfl, ?_⟩
    refine ⟨_, rfl, o, dxo, _, rfl, ho1, o, wl, wh, rfl, ⟨dxo, ho1⟩, _, rfl, b, dxb, _, rfl, hb1, b, lo0, hi0, rfl, ⟨dxb, hb1⟩, wh, hi0, rfl, _, _, rfl, ?_⟩
    obtain ⟨⟨⟨i1, hi1, e1⟩, h1⟩, ⟨i2, hi2, e2⟩, h2⟩ := hw
    have g1 := hlv i1 hi1
    have g2 := hlv i2 hi2
    have wlh : wl ≤ wh := by
      have := hf i1 hi1 i2 hi2
      omega
    generalize elo : (if lo0 > wl then lo0 else wl) = lo
    generalize ehi : (if hi0 < wh then hi0 else wh) = hi
    have blo : lo0 ≤ lo ∧ wl ≤ lo ∧ (lo = lo0 ∨ lo = wl) := by
      rw [← elo]; by_cases h : lo0 > wl
      · rw [if_pos h]; omega
      · rw [if_neg h]; omega
    have bhi : hi ≤ hi0 ∧ hi ≤ wh ∧ (hi = hi0 ∨ hi = wh) := by
      rw [← ehi]; by_cases h : hi0 < wh
      · rw [if_pos h]; omega
      · rw [if_neg h]; omega
    have lohi : lo ≤ hi := by omega
    refine ⟨_, rfl, _, rfl, _, _, rfl, rfl, _, rfl, iteQ (by omega) ?_⟩
    have J0 : ∀ L : List Str, (∀ i ∈ A', i ∈ L) → Ab.Inv (GN N) L s' (· ∈ A') pl lo hi := fun L _ => Ab.Inv.start hs lohi fun j _ hj => ⟨Int.le_trans bhi.2.1 (h2 j hj), Int.le_trans (h1 j hj) (by omega)⟩
    refine ⟨fun k σ H' => ∃ z1 z2 C' lo hi, σ = [some (.ref c), some (.ref d), some (.ref b), some (.ref o), some (.int lo), some (.int hi), z1, z2] ∧ Nx [] C H C' H' ∧ (∀ L : List Str, (∀ i ∈ A', i ∈ L) → Ab.Inv (GN N) L s' (· ∈ A') pl lo hi) ∧ lo0 ≤ lo ∧ hi ≤ hi0 ∧ k = ((lo - lo0) + (hi0 - hi)).toNat, ⟨_, _, _, C1, lo, hi, rfl, n1, J0, blo.1, bhi.1, rfl⟩, ?_⟩
    clear J0 lohi blo bhi elo ehi
    rintro k σ H3 ⟨z1, z2, C3, lo, hi, rfl, n3, J, l0, h0, rfl⟩
    refine ⟨true, rfl, iteT ⟨fun σ' H' => ∃ m', m' < ((lo - lo0) + (hi0 - hi)).toNat ∧ ∃ z1 z2 C' lo hi, σ' = [some (.ref c), some (.ref d), some (.ref b), some (.ref o), some (.int lo), some (.int hi), z1, z2] ∧ Nx [] C H C' H' ∧ (∀ L : List Str, (∀ i ∈ A', i ∈ L) → Ab.Inv (GN N) L s' (· ∈ A') pl lo hi) ∧ lo0 ≤ lo ∧ hi ≤ hi0 ∧ m' = ((lo - lo0) + (hi0 - hi)).toNat, fun _ _ h => h, ?_⟩⟩
    have JA := J A' fun _ h => h
    have lvs := inv_lv (fun _ h => h) JA
    refine ⟨_, rfl, _, rfl, _, rfl, C3, _, n3.ch, ⟨c, d, lo, A', N, s', pl, rfl, hC.le n3.le, hS.same n3.cc, fun i hi => (lvs i hi).1, rfl⟩, fun v C4 H4 a4 ⟨t, ev, ht⟩ => ?_⟩
    subst ev
    have n4 := n3.trans a4
    have hb4 := n4.ch _ _ (n4.cc _ _ hb0)
    refine ⟨_, rfl, b, dxb, _, rfl, hb4, b, lo0, hi0, rfl, ⟨dxb, hb4⟩, t, hi0, rfl, ?_⟩
    generalize etp : (if hi0 < t then hi0 else t) = tp
    have up : hi ≤ t := inv_lt (fun _ h => h) JA ht
    have btp : tp ≤ hi0 ∧ tp ≤ t ∧ (tp = t ∨ tp = hi0) := by
      rw [← etp]; by_cases h : hi0 < t
      · rw [if_pos h]; omega
      · rw [if_neg h]; omega
    have uph : hi ≤ tp := by omega
    have J1 : ∀ L : List Str, (∀ i ∈ A', i ∈ L) → Ab.Inv (GN N) L s' (· ∈ A') pl lo tp := fun L sub => inv_up hs ⟨w0, hw0, trivial⟩ sub (J L sub) ht uph btp.2.1
    have JA1 := J1 A' fun _ h => h
    refine ⟨_, rfl, _, rfl, _, rfl, C4, _, n4.ch, ⟨c, d, tp, A', N, s', pl, rfl, hC.le n4.le, hS.same n4.cc, fun i hi => (inv_lv (fun _ h => h) JA1 i hi).2, rfl⟩, fun v C5 H5 a5 ⟨t2, ev, ht2⟩ => ?_⟩
    subst ev
    have n5 := n4.trans a5
    have hb5 := n5.ch _ _ (n5.cc _ _ hb0)
    refine ⟨_, rfl, b, dxb, _, rfl, hb5, b, lo0, hi0, rfl, ⟨dxb, hb5⟩, t2, lo0, rfl, ?_⟩
    generalize ebt : (if lo0 > t2 then lo0 else t2) = bt
    have dn : t2 ≤ lo := inv_gd (fun _ h => h) JA1 ht2
    have bbt : lo0 ≤ bt ∧ t2 ≤ bt ∧ (bt = t2 ∨ bt = lo0) := by
      rw [← ebt]; by_cases h : lo0 > t2
      · rw [if_pos h]; omega
      · rw [if_neg h]; omega
    have dnl : bt ≤ lo := by omega
    have J2 : ∀ L : List Str, (∀ i ∈ A', i ∈ L) → Ab.Inv (GN N) L s' (· ∈ A') pl bt tp := fun L sub => inv_down hs sub (J1 L sub) ht2 dnl bbt.2.1
    refine ⟨_, rfl, _, rfl, rfl, decide (tp = hi), by simp, ?_⟩
    by_cases c1 : tp = hi
    · subst c1
      refine iteP rfl ⟨_, rfl, _, rfl, rfl, decide (bt = lo), by simp, ?_⟩
      by_cases c2 : bt = lo
      · subst c2
        refine iteP rfl ⟨_, rfl, _, rfl, b, dxb, _, rfl, hb5, b, lo0, hi0, rfl, ⟨dxb, hb5⟩, rfl, decide (bt = lo0), by simp, ?_⟩
        have no : (bt ≠ lo0 ∨ tp ≠ hi0) → ∀ (L : List Str) (p : Str → Spot), (∀ i ∈ A', i ∈ L) → Fits (GN N) L s' p → Band (GN N) L s' p lo0 hi0 → ¬ Tk N L s' p A' pl := fun ne L p sub fp B tk => by
          have := tk_end hs fp sub B l0 btp.1 ht btp.2.2 ht2 bbt.2.2 (fun j hj => inv_lv (fun _ h => h) JA1 j hj) tk
          omega
        by_cases c3 : bt = lo0
        · refine iteP c3 ⟨_, rfl, _, rfl, b, dxb, _, rfl, hb5, b, lo0, hi0, rfl, ⟨dxb, hb5⟩, rfl, ?_⟩
          refine q _ _ _ n5 ⟨decide (tp = hi0), by simp, fun h L sub => ?_, fun h => no (.inr (by simpa using h))⟩
          have e := of_decide_eq_true h
          have := J1 L sub
          rw [c3, e] at this
          exact this
        · exact iteQ c3 (q _ _ _ n5 ⟨false, rfl, fun h => (by cases h), fun _ => no (.inl c3)⟩)
      · exact iteQ c2 ⟨_, rfl, _, rfl, _, _, rfl, ((bt - lo0) + (hi0 - tp)).toNat, by omega, _, _, C5, bt, tp, rfl, n5, J2, bbt.1, btp.1, rfl⟩
    · exact iteQ c1 ⟨_, rfl, _, rfl, _, _, rfl, ((bt - lo0) + (hi0 - tp)).toNat, by omega, _, _, C5, bt, tp, rfl, n5, J2, bbt.1, btp.1, rfl⟩
/-- [.. for k in d], d locked -/
theorem lockMap {d : Addr} {kvs : List (Key × V)} {j : Nat} {g : TG} {te : TE} {vs : List Nat} {σ : L2.St} {C H : Hp} {Qd : VK} (S : Nat → V → Prop) (sc : Same C H) (hC : C d = some (.dK kvs)) (hn : kvs.length ≤ sizeLine) (hv : σ[j]? = some (some (.ref d)))
    (hs : ∀ (od : Obj) (i : Nat) (k : Key) (v : V) C' H' (Z : V → Hp → Prop), kvs[i]? = some (k, v) → Nx [] (upd C d (.frz od (.dK kvs))) (upd H d (.frz od (.dK kvs))) C' H' → (∀ y C4 H4, Nx [] C' H' C4 H4 → S i y → Z y H4) → g (kV k) (wipe σ vs) H' fun σ2 H2 => wipe σ2 vs = wipe σ vs ∧ te σ2 H2 Z)
    (hd : ∀ p (acc : List V) C' H', Nx [] C H C' H' → H' p = some (.lst acc) → acc.length = kvs.length → (∀ (i : Nat) (v : V), acc[i]? = some v → S i v) → Qd (.ref p) H') : tLockE (tLc (iKeys (tVar j)) g tYes te vs) σ H Qd := by
  refine ⟨d, .dK kvs, sc _ _ hC, trivial, fun od => ⟨_, hv, d, od, rfl, .inl ⟨kvs, upd_same, ?_⟩⟩⟩
  refine lcMap (M := []) (Qd := fun D H' => H' d = some (.frz od (.dK kvs)) ∧ Qd (.ref D) (upd H' d (.dK kvs))) walk_keys (fun i v _ => S i v) (same_updB (u := .frz od (.dK kvs)) sc) (fun _ h => nomatch h) hn (fun C' H' n => n.hh d _ (fun z => nomatch z) upd_same) (fun _ _ _ _ _ h => h) (fun i x C' H' H2 Z hi nx y k => ?_) (fun p acc C' H' nx cp hp hH hl ha => ?_)
  · obtain ⟨rfl, kk, v, e, rfl⟩ := y
    exact hs od i kk v C' H2 Z e nx k
  · have hdf := nx.hh d _ (fun z => nomatch z) (upd_same (H := H) (o := .frz od (.dK kvs)))
    exact ⟨hdf, hd p acc _ _ (nx.unlock hC (sc _ _ hC)) (by rw [upd_ne (fun z => by subst z; rw [hdf] at hH; cases hH)]; exact hH) hl ha⟩
theorem tk_perm {N : Str → NetD} {W A B : List Str} {s : Int} {p pl : Str → Spot} (pm : A.Perm B) : Tk N W s p A pl ↔ Tk N W s p B pl :=
  ⟨fun ⟨q, c, h⟩ => ⟨q, c, fun j hj => h j (pm.mem_iff.mpr hj)⟩, fun ⟨q, c, h⟩ => ⟨q, c, fun j hj => h j (pm.mem_iff.mp hj)⟩⟩
def sp_can_take (K : PySem.W.Frag) : Sp := Gives fun vs C post => ∃ a d e W A N s p pl, vs = [.ref a, .ref d, .ref e] ∧ CompanyR C a W N s ∧ SpotsAt C d W N p ∧ FitsN W N p s ∧ (∀ i ∈ W, (N i).Ok ∧ (N i).has (p i)) ∧ SpotsAt C e A N pl ∧ A.Nodup ∧ (∀ x ∈ A, x ∈ W) ∧ A ≠ [] ∧ A.length ≤ 5 ∧
  post = fun v _ => ∃ b, v = .bl b ∧ (b = true ↔ Tk N W s p A pl)
theorem c_can_take (T : Txt K mg) : C8.Cal P w K mg base 15 "can_take" (sp_can_take K) [] := by
  refine mkCal (N := ["company", "stand", "places", "reached", "some", "name"]) (ps := ["company", "stand", "places"]) T.d_can_take T.g_can_take (fun _ _ _ _ _ _ us hl => match us, hl with | [_, _, _], _ => rfl) (by decide +kernel) (fun vs H Q E h => ?_) (fun cdv A outer s H vs Q E hr h => ?_)
  · obtain ⟨C, post, sc, ⟨a, d, e, W, A0, N, s', p, pl, rfl, hC, hS, hf, hok, hP0, ndA0, sub0, ne0, few0, rfl⟩, q⟩ := h; rfl
  · obtain ⟨C, post, sc, ⟨a, d, e, W, A0, N, s', p, pl, rfl, hC, hS, hf, hok, hP0, ndA0, sub0, ne0, few0, rfl⟩, q⟩ := h
    have nd : (["company", "stand", "places", "reached", "some", "name"] : List Str).Nodup := by decide +kernel
    have hu := units1 hr
    refine ⟨_, (pss_cons (ps_expr (C8.pe_c (c_want_both T) hr (by decide) (by rfl) (pa_cons (pv 0) (pa_cons (pv 1) pa_nil))))
      (pss_cons (ps_expr (C8.pe_c (c_want_places T) hr (by decide) (by rfl) (pa_cons (pv 0) (pa_cons (pv 2) pa_nil))))
      (pss_cons (ps_set (i := 3) nd rfl (Or.inr rfl) (C8.pe_c (c_reach T) hr (by decide) (by rfl) (pa_cons (pv 0) (pa_cons (pv 1) pa_nil))))
      (pss_cons (ps_if (pt_not (pt_val (pe_callB (cr_all rfl) (by rfl) T.f_all b_all (pa_cons (pe_lock (pe_lc (own := [("name", 5)]) (by rfl) nd (pi_keys (pv 2)) (blkOk_by (own := [("name", 5)]) (N := ["company", "stand", "places", "reached", "some", "name"]) (sc := C8.fnScope s_can_take) (by decide +kernel)) (fun _ _ _ _ _ => (pg_name (i := 5) nd rfl (Or.inl rfl))) (fun _ _ _ _ _ => pts_nil) (fun _ _ _ _ _ => (pe_cmpR (op_in_own (q_Part_contains T) (hr.mono (by decide))) (pe_dget hu (pv 2) (pv 5) (fun _ _ => rfl)) (pe_dget hu (pv 3) (pv 5) (fun _ _ => rfl)) (by rfl))))) pa_nil)))) (pss_one (ps_ret pe_bl)) pss_nil)
      (pss_cons (ps_set (i := 4) nd rfl (Or.inl rfl) (pe_methSD rfl (pv 0) T.cls_Company T.bm_Company_only (f_Company_only T) (hr.mono (by decide)) (pv 2)))
      (pss_one (ps_ret (pe_and (C8.pe_c (c_is_stand_of T) hr (by decide) (by rfl) (pa_cons (pv 4) (pa_cons (pv 2) pa_nil))) (pe_one (C8.pe_c (c_widens_to T) hr (by decide) (by rfl) (pa_cons (pv 4) (pa_cons (pv 2) (pa_cons (C8.pe_c (c_band T) hr (by decide) (by rfl) (pa_cons (pv 0) (pa_cons (pv 1) pa_nil))) pa_nil))))))))))))), ?_⟩
    have ok := hC.1
    have hs := ok.s0
    obtain ⟨vs, he, pm, hv⟩ := hP0
    have pmA := pm
    obtain ⟨A', eA⟩ : ∃ A', A' = vs.map (·.1) := ⟨_, rfl⟩
    rw [← eA] at pmA
    have hP : SpotsAt C e A' N pl := ⟨vs, he, by rw [eA], hv⟩
    have ndA : A'.Nodup := pmA.nodup_iff.mpr ndA0
    have sub : ∀ x ∈ A', x ∈ W := fun x hx => sub0 x (pmA.mem_iff.mp hx)
    have few : A'.length ≤ 5 := by rw [pmA.length_eq]; exact few0
    have ne : A' ≠ [] := fun z => ne0 (by rw [z] at pmA; exact List.nil_perm.mp pmA)
    have vl : vs.length = A'.length := by rw [eA, List.length_map]
    simp only [← tk_perm pmA] at q
    clear ndA0 sub0 ne0 few0 pm pmA
    refine ⟨_, rfl, _, rfl, C, _, sc, ⟨a, d, W, N, s', p, rfl, hC, hS, hf, rfl⟩, fun C1 H1 n1 => ?_⟩
    refine ⟨_, rfl, _, rfl, C1, _, n1.ch, ⟨a, e, W, A', N, s', pl, rfl, hC.le n1.le, hP.same n1.cc, ndA, sub, ne, by omega, rfl⟩, fun C2 H2 a2 => ?_⟩
    have n2 := n1.trans a2
    refine ⟨_, rfl, _, rfl, C2, _, n2.ch, ⟨a, d, W, N, s', p, rfl, hC.le n2.le, hS.same n2.cc, hf, hok, rfl⟩, fun v C3 H3 a3 ⟨rd, lo, hi, rs, ev, _, hrd, pmr, hB, hrs⟩ => ?_⟩
    subst ev
    have n3 := n2.trans a3
    have fp : Fits (GN N) W s' p := hf
    have rnd : (rs.map (·.1)).Nodup := pmr.nodup_iff.mpr ok.nd
    refine lockMap (S := fun i v => ∀ z, vs[i]? = some z → ∃ b, v = .bl b ∧ (b = true ↔ Rc (GN N) z.1 (Bt lo (hi + s')) (p z.1) (pl z.1))) n3.ch (n3.cc _ _ he) (szK (by rw [vsK_len]; omega)) rfl (fun od i k v C' H' Z ek n kk => ?_) (fun r acc C4 H4 a4 hr hal ha => ?_)
    · obtain ⟨x, hx, rfl, hxi⟩ := vsK_get ek
      have hxA : x ∈ A' := by rw [eA]; exact List.mem_map.mpr ⟨_, hx, rfl⟩
      have hxW := sub x hxA
      have lk : Le C C' := (n3.le.trans (Le.lock (n3.cc _ _ he))).trans n.le
      have hP' := hP.toR.le lk
      obtain ⟨sv, g, hsv, hhas⟩ := hP'.get ndA hxA
      obtain ⟨ra, hra⟩ := ns_at pmr hxW
      have hrd' : Rd C' rd (.dK (nsK rs)) := ((Le.lock (n3.cc _ _ he)).trans n.le).rd _ _ (.inl hrd)
      obtain ⟨nm, hPt, hfn⟩ := hrs _ hra
      have hPt' := hPt.le ((Le.lock (od := od) (n3.cc _ _ he)).trans n.le)
      obtain ⟨dxp, fsp, _, _, _, _, _, hpA, _⟩ := hPt'.ex
      refine ⟨rfl, _, rfl, _, rfl, e, _, rfl, g _ n.ch, _, rfl, _, rfl, rd, _, rfl, .inl ⟨_, .inr x, Same.rd n.ch hrd', rfl, (nsK_val rnd hra).symm⟩, ra, dxp, fsp, rfl, n.ch _ _ hpA, C', _, n.ch, ⟨ra, N x, p x, lo, hi + s', sv, pl x, nm, rfl, hPt', (hok x hxW).2, hsv, hhas, rfl⟩, fun v C5 H5 n5 ⟨b, ev, hb⟩ => ⟨b, ev, ?_⟩⟩
      have e1 : (false != b) = b := by cases b <;> rfl
      rw [e1]
      refine kk _ C5 H5 n5 fun z hz => ?_
      rw [hxi] at hz
      cases hz
      exact ⟨b, rfl, hb.trans (part_rc (hok x hxW).1 (hok x hxW).2 (hB.lv x hxW) hhas hfn)⟩
    have n4 := n3.trans a4
    rw [vsK_len] at hal
    obtain ⟨bs, eb⟩ := acc_bl fun v hv => by
      obtain ⟨i, hi, ei⟩ := List.mem_iff_getElem.mp hv
      obtain ⟨b, e, _⟩ := ha i v (by rw [List.getElem?_eq_getElem hi, ei]) (vs[i]) (List.getElem?_eq_getElem (by omega))
      exact ⟨b, e⟩
    subst eb
    rw [List.length_map] at hal
    have hall : bs.all id = true ↔ ∀ j ∈ A', Rc (GN N) j (Bt lo (hi + s')) (p j) (pl j) := by
      rw [List.all_eq_true]
      constructor
      · intro h j hj
        rw [eA] at hj
        obtain ⟨z, hz, rfl⟩ := List.mem_map.mp hj
        obtain ⟨i, hi, ei⟩ := List.mem_iff_getElem.mp hz
        have hi' : i < bs.length := by omega
        obtain ⟨b, e1, e2⟩ := ha i (V.bl bs[i]) (by rw [List.getElem?_map, List.getElem?_eq_getElem hi']; rfl) z (by rw [List.getElem?_eq_getElem hi, ei])
        cases e1
        exact e2.mp (h _ (List.getElem_mem hi'))
      · intro h b hb
        obtain ⟨i, hi, ei⟩ := List.mem_iff_getElem.mp hb
        obtain ⟨b', e1, e2⟩ := ha i (V.bl b) (by rw [List.getElem?_map, List.getElem?_eq_getElem hi, ei]; rfl) (vs[i]) (List.getElem?_eq_getElem (by omega))
        cases e1
        exact e2.mpr (h _ (by rw [eA]; exact List.mem_map.mpr ⟨vs[i], List.getElem_mem _, rfl⟩))
    refine ⟨r, bs, rfl, .of hr, _, rfl, ?_⟩
    by_cases hjn : bs.all id = true
    · refine iteC (by rw [hjn]; rfl) ?_
      have hj := hall.mp hjn
      have er : ((vsK vs).map fun kv => kV kv.1) = A'.map V.str := by
        rw [eA]; unfold vsK; rw [List.map_map, List.map_map]; rfl
      obtain ⟨_, dx, dd, ns, hA, _⟩ := hC.le n4.le
      have n4' : Nx [] C H C4 H4 := n4
      refine ⟨_, rfl, a, dx, _, rfl, n4.ch _ _ hA, rfl, fun qm hqm => ?_⟩
      have n5 := n4.tmp (o := .met 924 a) hqm
      refine ⟨_, rfl, e, _, rfl, .inl (n5.ch _ _ (n5.cc _ _ he)), upd_same, ?_⟩
      rw [er]
      refine ⟨_, _, rfl, by rw [List.length_map]; exact few, fun t ht => ?_⟩
      have n6 := n5.new (o := .tup (A'.map V.str)) ht
      refine ⟨_, _, n6.ch, ⟨a, t, W, A', N, s', rfl, hC.le n6.le, upd_same, ndA, ne, sub, few, rfl⟩, fun v C7 H7 a7 ⟨cb, ev, hcb⟩ => ?_⟩
      subst ev
      have n7 := n6.trans a7
      refine ⟨_, rfl, _, rfl, C7, _, n7.ch, ⟨cb, e, A', N, s', pl, rfl, hcb.toR, hP.same n7.cc, rfl⟩, fun v C8 H8 a8 ⟨b, ev, hb⟩ => ?_⟩
      subst ev
      have n8 := n7.trans a8
      refine ⟨b, rfl, ?_⟩
      cases b with
      | false => exact iteF (q _ _ _ n8 ⟨false, rfl, fun h => (by cases h), fun t => hb.mpr (tk_fits fp sub t)⟩)
      | true =>
        have fA : FitsN A' N pl s' := hb.mp rfl
        refine iteT ⟨_, rfl, _, rfl, _, rfl, _, rfl, C8, _, n8.ch, ⟨a, d, W, N, s', p, rfl, hC.le n8.le, hS.same n8.cc, hf, hok, rfl⟩, fun v C9 H9 a9 ⟨sb, lo', hi', ev, hsb, hB'⟩ => ?_⟩
        subst ev
        obtain ⟨rfl, rfl⟩ := band_uniq hs fp hB hB'
        have n9 := n8.trans a9
        refine ⟨C9, _, n9.ch, ⟨cb, e, sb, A', N, s', pl, lo', hi', rfl, (hcb.same (a8.trans a9).cc).toR, hP.same n9.cc, fA, hsb, fun j hj' => (hj j hj').snd, hB.inv.le, rfl⟩, fun v C10 H10 a10 ⟨r2, ev, y1, y2⟩ => ?_⟩
        subst ev
        refine q _ _ _ (n9.trans a10) ⟨r2, rfl, fun h => tk_yes fp sub hB (y1 h W sub) hj, fun t => ?_⟩
        cases r2 with
        | true => rfl
        | false => exact absurd t (y2 rfl W p sub fp hB)
    · refine iteB (by simp [hjn]) (q _ _ _ n4 ⟨false, rfl, fun h => (by cases h), fun t => absurd (hall.mpr (tk_reach hs fp sub hB t)) hjn⟩)
end
end AbW

/-! ## Wg -/
set_option Elab.async false
set_option linter.all false
set_option maxRecDepth 100000
set_option maxHeartbeats 4000000
/-! Wg: least spreads -/
namespace AbW
open PySem PySem.Spec PyProof.Rows L2 AbH AbR Ab
/-- a def's promise beside its text (for calls by keywords) -/
structure CalK (P : Program) (w : World) (K : PySem.W.Frag) (mg : Str → Option Value) (base : Heap) (k : Nat) (x : Str) (st : Stmt) (ps : List Str) (sp : Sp) : Prop where
  ex : ∃ (f : Addr) (fd : FuncData), FunD K x x (C8.fnArgs st) (C8.fnBody st) (C8.fnScope st) [] [] f fd ∧ FnOk P w K mg base C8.CX0 k f fd ps sp ∧ mg x = some (.ref f)
theorem mkCalK {P : Program} {w : World} {K : PySem.W.Frag} {mg : Str → Option Value} {base : Heap} {x : Str} {st : Stmt} {f : Addr} {N ps : List Str} {k : Nat} {sp : Sp} (D : DfK K x x st f []) (g : mg x = some (.ref f)) (S : C8.scC N ps (C8.fnScope st) = true)
    (len : ∀ vs H Q E, sp vs H Q E → vs.length = ps.length) (body : BodyOk P w K mg base N x st f k sp) : CalK P w K mg base (k + 1) x st ps sp := by
  obtain ⟨fd, F⟩ := D.ex
  exact ⟨f, fd, F, fnK F S len body, g⟩
theorem CalK.cal {P : Program} {w : World} {K : PySem.W.Frag} {mg : Str → Option Value} {base : Heap} {x : Str} {st : Stmt} {ps : List Str} {k : Nat} {sp : Sp} (c : CalK P w K mg base k x st ps sp) (b : BindOk x x st ps) : C8.Cal P w K mg base k x sp [] := by
  obtain ⟨f, fd, F, ok, g⟩ := c.ex
  exact ⟨f, fd, ps, [], ok, g, F.kp, F.bindsN b, .nil⟩
theorem valuesY {kvs : List (Key × V)} {i : Nat} {H H' : Hp} {w : V} (y : H' = H ∧ ∃ k, kvs[i]? = some (k, w)) : H' = H ∧ ∃ k, kvs[i]? = some (k, w) := y
section
variable {P : Program} {w : World} {K : PySem.W.Frag} {mg : Str → Option Value} {base : Heap}
def sp_is_taken_with (K : PySem.W.Frag) : Sp := Gives fun vs C post => ∃ a d e W A N s0 s p pl, vs = [.ref a, .int s, .ref d, .ref e] ∧ CompanyAt C a W N s0 ∧ 0 ≤ s ∧ SpotsAt C d W N p ∧ FitsN W N p s ∧ (∀ i ∈ W, (N i).Ok ∧ (N i).has (p i)) ∧ SpotsAt C e A N pl ∧ A.Nodup ∧ (∀ x ∈ A, x ∈ W) ∧ A ≠ [] ∧ A.length ≤ 5 ∧
  post = fun v _ => ∃ b, v = .bl b ∧ (b = true ↔ Tk N W s p A pl)
theorem c_is_taken_with (T : Txt K mg) : C8.Cal P w K mg base 16 "is_taken_with" (sp_is_taken_with K) [] := by
  refine mkCal (N := ["company", "spread", "spots", "places"]) (ps := ["company", "spread", "spots", "places"]) T.d_is_taken_with T.g_is_taken_with (fun _ _ _ _ _ _ us hl => match us, hl with | [_, _, _, _], _ => rfl) (by decide +kernel) (fun vs H Q E h => ?_) (fun cdv A outer s H vs Q E hr h => ?_)
  · obtain ⟨C, post, sc, ⟨a, d, e, W, A', N, s0, s', p, pl, rfl, hC, hs, hS, hf, hok, hP, ndA, sub, ne, few, rfl⟩, q⟩ := h; rfl
  · obtain ⟨C, post, sc, ⟨a, d, e, W, A', N, s0, s', p, pl, rfl, hC, hs, hS, hf, hok, hP, ndA, sub, ne, few, rfl⟩, q⟩ := h
    refine ⟨_, (pss_one (ps_ret (C8.pe_c (c_can_take T) hr (by decide) (by rfl) (pa_cons (C8.pe_mt (q_Company_with_spread T) hr (by decide) (pv 0) (pa_cons (pv 1) pa_nil)) (pa_cons (pv 2) (pa_cons (pv 3) pa_nil)))))), ?_⟩
    obtain ⟨_, dx, dd, ns, hA, _⟩ := id hC
    refine ⟨_, rfl, a, dx, _, rfl, sc _ _ hA, rfl, _, rfl, C, _, sc, ⟨a, W, N, s0, s', rfl, hC, hs, rfl⟩, fun v C1 H1 n1 ⟨b, ev, hb⟩ => ?_⟩
    subst ev
    exact ⟨_, rfl, _, rfl, C1, _, n1.ch, ⟨b, d, e, W, A', N, s', p, pl, rfl, hb.toR, hS.same n1.cc, hf, hok, hP.same n1.cc, ndA, sub, ne, few, rfl⟩, fun v C2 H2 a2 h => q _ _ _ (n1.trans a2) h⟩
def sp_is_joined (K : PySem.W.Frag) : Sp := Gives fun vs C post => ∃ a x y, ∃ N : Str → NetD, ∃ i p pl, vs = [.ref a, x, y] ∧ NetAt C a (N i) ∧ SpotV C x p ∧ (N i).has p ∧ SpotV C y pl ∧ (N i).has pl ∧ post = fun v _ => ∃ b, v = .bl b ∧ (b = true ↔ Rc (GN N) i (fun _ => True) p pl)
theorem c_is_joined (T : Txt K mg) : C8.Cal P w K mg base 5 "is_joined" (sp_is_joined K) [] := by
  refine mkCal (N := ["net", "spot", "place", "met"]) (ps := ["net", "spot", "place"]) T.d_is_joined T.g_is_joined (fun _ _ _ _ _ _ us hl => match us, hl with | [_, _, _], _ => rfl) (by decide +kernel) (fun vs H Q E h => ?_) (fun cdv A outer s H vs Q E hr h => ?_)
  · obtain ⟨C, post, sc, ⟨a, x, y, N, i, p, pl, rfl, hN, hx, hp, hy, hpl, rfl⟩, q⟩ := h; rfl
  · obtain ⟨C, post, sc, ⟨a, x, y, N, i, p, pl, rfl, hN, hx, hp, hy, hpl, rfl⟩, q⟩ := h
    have nd : (["net", "spot", "place", "met"] : List Str).Nodup := by decide +kernel
    have hu := units1 hr
    refine ⟨_, (pss_cons (ps_set (i := 3) nd rfl (Or.inl rfl) (C8.pe_c (c_reach_from T) hr (by decide) (by rfl) (pa_cons (pv 0) (pa_cons (pv 1) (pa_cons pe_non (pa_cons pe_non pa_nil))))))
      (pss_one (ps_ret (pe_ifExp (pt_val (pe_callB call_isi1 (by rfl) T.f_isinstance b_isinstance (pa_cons (pv 2) (pa_cons (pe_bltn (v := .ty "str") (by rfl) T.f_str b_str rfl) pa_nil)))) (pe_cmp (pc_din hu (pv 2) (pv 3)) (by rfl)) (pe_cmp (pc_din hu (pe_ix ix_tup (pv 2) pe_int (fun _ _ => rfl)) (pv 3)) (by rfl)))))), ?_⟩
    have ok := hN.ok
    refine ⟨_, rfl, _, rfl, C, _, sc, ⟨a, x, none, none, N i, p, rfl, hN, hx, hp, rfl⟩, fun v C1 H1 n1 ⟨m, ys, ev, _, hm, _, _, hf⟩ => ?_⟩
    subst ev
    rw [bb_all] at hf
    have hm1 := n1.ch _ _ hm
    have key : ∀ z, z ∈ ys ↔ Rc (GN N) i (fun _ => True) p (.nd z) := fun z => (hf z).trans (fnd_iff ok cvx_all hp trivial)
    cases pl with
    | nd z =>
      cases hy
      refine ⟨_, rfl, _, _, _, _, rfl, .base (.str z), k_str_str, _, rfl, iteT ⟨_, rfl, _, rfl, m, _, rfl, .k (k := .inr z) hm1, ?_⟩⟩
      rw [tD_val]
      exact q _ _ _ n1 ⟨_, rfl, by rw [decide_eq_true_eq]; exact key z⟩
    | inn l u h =>
      obtain ⟨t, rfl, ht⟩ := hy
      have hT := n1.ch _ _ (n1.cc _ _ ht)
      refine ⟨_, rfl, _, _, _, _, rfl, .base (.tup hT), k_tuple_str, _, rfl, iteF ⟨_, rfl, t, _, _, _, rfl, rfl, .of hT, rfl, _, rfl, m, _, rfl, .k (k := .inr l) hm1, ?_⟩⟩
      rw [tD_val]
      refine q _ _ _ n1 ⟨_, rfl, ?_⟩
      rw [decide_eq_true_eq, key l]
      have bw : Rc (GN N) i (fun _ => True) (.inn l u h) (.nd l) := beside_way ok cvx_all hpl trivial (List.mem_cons_self ..) trivial
      exact ⟨fun r => r.trans bw.symm, fun r => r.trans bw⟩
/-- the height: over all nodes -/
def IsHt (W : List Str) (N : Str → NetD) (lo hi : Int) : Prop := lo ≤ hi ∧ ∀ i ∈ W, ∀ x ∈ (N i).ks, lo ≤ (N i).lev x ∧ (N i).lev x ≤ hi
def sp_height_of (K : PySem.W.Frag) : Sp := Gives fun vs C post => ∃ a W N s, vs = [.ref a] ∧ CompanyR C a W N s ∧ post = fun v _ => ∃ lo hi, v = .int (hi - lo) ∧ IsHt W N lo hi
theorem c_height_of (T : Txt K mg) : C8.Cal P w K mg base 8 "height_of" (sp_height_of K) [] := by
  refine mkCal (N := ["company", "lows", "highs", "net", "level"]) (ps := ["company"]) T.d_height_of T.g_height_of (fun _ _ _ _ _ _ us hl => match us, hl with | [_], _ => rfl) (by decide +kernel) (fun vs H Q E h => ?_) (fun cdv A outer s H vs Q E hr h => ?_)
  · obtain ⟨C, post, sc, ⟨a, W, N, s', rfl, hC, rfl⟩, q⟩ := h; rfl
  · obtain ⟨C, post, sc, ⟨a, W, N, s', rfl, hC, rfl⟩, q⟩ := h
    have nd : (["company", "lows", "highs", "net", "level"] : List Str).Nodup := by decide +kernel
    refine ⟨_, (pss_cons (ps_setLc (i := 1) (own := [("net", 3)]) (by rfl) nd rfl rfl (sw_true rfl rfl rfl (by decide +kernel)) (pi_values (pe_frz (C8.pe_mt0 (q_Company_nets T) hr (by decide) (pv 0)))) (blkOk_by (own := [("net", 3)]) (N := ["company", "lows", "highs", "net", "level"]) (sc := C8.fnScope s_height_of) (by decide +kernel)) (fun _ _ _ _ _ => (pg_name (i := 3) nd rfl (Or.inl rfl))) (fun _ _ _ _ _ => pts_nil) (fun _ _ _ _ _ => (pe_pr (p_Span_low T) hr (by decide) (pe_pr (p_Net_span T) hr (by decide) (pv 3)))))
      (pss_cons (ps_setLc (i := 2) (own := [("net", 3)]) (by rfl) nd rfl rfl (sw_true rfl rfl rfl (by decide +kernel)) (pi_values (pe_frz (C8.pe_mt0 (q_Company_nets T) hr (by decide) (pv 0)))) (blkOk_by (own := [("net", 3)]) (N := ["company", "lows", "highs", "net", "level"]) (sc := C8.fnScope s_height_of) (by decide +kernel)) (fun _ _ _ _ _ => (pg_name (i := 3) nd rfl (Or.inl rfl))) (fun _ _ _ _ _ => pts_nil) (fun _ _ _ _ _ => (pe_pr (p_Span_high T) hr (by decide) (pe_pr (p_Net_span T) hr (by decide) (pv 3)))))
      (pss_one (ps_ret (pe_op op_sub (pe_callB (cr_max rfl) (by rfl) T.f_max b_max (pa_cons (pe_lc (own := [("level", 4)]) (by rfl) nd (pi_list (pv 2)) (blkOk_by (own := [("level", 4)]) (N := ["company", "lows", "highs", "net", "level"]) (sc := C8.fnScope s_height_of) (by decide +kernel)) (fun _ _ _ _ _ => (pg_name (i := 4) nd rfl (Or.inl rfl))) (fun _ _ _ _ _ => pts_nil) (fun _ _ _ _ _ => (pe_callTy call_int1 (by rfl) T.f_int b_int (pa_cons (pv 4) pa_nil)))) pa_nil)) (pe_callB (cr_min rfl) (by rfl) T.f_min b_min (pa_cons (pe_lc (own := [("level", 4)]) (by rfl) nd (pi_list (pv 1)) (blkOk_by (own := [("level", 4)]) (N := ["company", "lows", "highs", "net", "level"]) (sc := C8.fnScope s_height_of) (by decide +kernel)) (fun _ _ _ _ _ => (pg_name (i := 4) nd rfl (Or.inl rfl))) (fun _ _ _ _ _ => pts_nil) (fun _ _ _ _ _ => (pe_callTy call_int1 (by rfl) T.f_int b_int (pa_cons (pv 4) pa_nil)))) pa_nil))))))), ?_⟩
    have ok := hC.1
    have few := ok.few
    obtain ⟨w0, hw0⟩ := List.exists_mem_of_ne_nil _ ok.ne
    obtain ⟨_, dx, dd, ns0, hA, _⟩ := id hC
    refine ⟨_, rfl, a, dx, _, rfl, sc _ _ hA, rfl, C, _, sc, ⟨a, W, N, s', rfl, hC, rfl⟩, fun v C1 H1 a1 ⟨e, ns, ev, e0, e1, pm1, hN1⟩ => ?_⟩
    subst ev
    refine ⟨e, _, rfl, a1.ch _ _ e1, trivial, fun od => ⟨e, od, nsK ns, rfl, upd_same, ?_⟩⟩
    have n1 : Nx [] C H _ _ := a1.frz (od := od) e0 e1
    have nl : ns.length = W.length := by rw [← pm1.length_eq, List.length_map]
    refine lcMap (M := []) walk_values (fun j v _ => ∀ x, (ns.map (·.1))[j]? = some x → ∃ t, v = .int t ∧ (∀ z ∈ (N x).ks, t ≤ (N x).lev z)) n1.ch (fun _ h => nomatch h) (szK (by rw [nsK_len]; omega)) (fun C2 H2 n => n.ch _ _ (n.cc _ _ upd_same)) (fun _ _ _ _ _ h => h) (fun i v C2 H2 H3 Z hj n y k => ?_) (fun r acc C2 H2 n cr hr hH hal ha => ?_)
    · obtain ⟨rfl, kk, ek⟩ := y
      obtain ⟨x, b, hx, rfl, rfl, hxi⟩ := nsK_get ek
      have hN3 := ((hN1 _ hx).le (Le.lock (od := od) e1)).le n.le
      obtain ⟨dxn, l, ed, nn, hNA, _⟩ := hN3.ex
      refine ⟨rfl, _, rfl, b, dxn, _, rfl, n.ch _ _ hNA, C2, _, n.ch, ⟨b, N x, rfl, hN3, rfl⟩, fun v C4 H4 n4 ⟨sp, lo, hi, ev, ⟨dxs, hs⟩, _, _, hb⟩ => ?_⟩
      subst ev
      have hs' := n4.ch _ _ hs
      exact ⟨sp, dxs, _, rfl, hs', sp, lo, hi, rfl, ⟨dxs, hs'⟩, k _ C4 H4 n4 fun z hz => by rw [List.getElem?_map, hxi] at hz; cases hz; exact ⟨lo, rfl, fun z hz => (hb z hz).1⟩⟩
    rw [nsK_len] at hal
    obtain ⟨f, e2, hf⟩ := acc_fun (R := fun x t => ∀ z ∈ (N x).ks, t ≤ (N x).lev z) (pm1.nodup_iff.mpr ok.nd) (by rw [hal, List.length_map]) ha
    rw [e2] at hH
    have n2 := (n1.trans n).keep hH (n1.back hr)
    have hr2 : (upd C2 r (.lst (((ns.map (·.1)).map f).map V.int))) r = some (.lst (((ns.map (·.1)).map f).map V.int)) := upd_same
    generalize upd C2 r (.lst (((ns.map (·.1)).map f).map V.int)) = C3 at n2 hr2
    obtain ⟨_, dx', dd', ns', hA', _⟩ := hC.le n2.le
    refine ⟨_, rfl, a, dx', _, rfl, n2.ch _ _ hA', rfl, C3, _, n2.ch, ⟨a, W, N, s', rfl, hC.le n2.le, rfl⟩, fun v C4 H4 a4 ⟨e', ns2, ev, e0', e1', pm2, hN2⟩ => ?_⟩
    subst ev
    refine ⟨e', _, rfl, a4.ch _ _ e1', trivial, fun od' => ⟨e', od', nsK ns2, rfl, upd_same, ?_⟩⟩
    have n4 : Nx [] C3 H2 _ _ := a4.frz (od := od') e0' e1'
    have nl2 : ns2.length = W.length := by rw [← pm2.length_eq, List.length_map]
    refine lcMap (M := []) walk_values (fun j v _ => ∀ x, (ns2.map (·.1))[j]? = some x → ∃ t, v = .int t ∧ (∀ z ∈ (N x).ks, (N x).lev z ≤ t)) n4.ch (fun _ h => nomatch h) (szK (by rw [nsK_len]; omega)) (fun C2 H2 n => n.ch _ _ (n.cc _ _ upd_same)) (fun _ _ _ _ _ h => h) (fun i v C2 H2 H3 Z hj n y k => ?_) (fun r2 acc2 C5 H5 n5 cr2 hr2' hH2 hal2 ha2 => ?_)
    · obtain ⟨rfl, kk, ek⟩ := y
      obtain ⟨x, b, hx, rfl, rfl, hxi⟩ := nsK_get ek
      have hN3 := ((hN2 _ hx).le (Le.lock (od := od') e1')).le n.le
      obtain ⟨dxn, l, ed, nn, hNA, _⟩ := hN3.ex
      refine ⟨rfl, _, rfl, b, dxn, _, rfl, n.ch _ _ hNA, C2, _, n.ch, ⟨b, N x, rfl, hN3, rfl⟩, fun v C4 H4 n4 ⟨sp, lo, hi, ev, ⟨dxs, hs⟩, _, _, hb⟩ => ?_⟩
      subst ev
      have hs' := n4.ch _ _ hs
      exact ⟨sp, dxs, _, rfl, hs', sp, lo, hi, rfl, ⟨dxs, hs'⟩, k _ C4 H4 n4 fun z hz => by rw [List.getElem?_map, hxi] at hz; cases hz; exact ⟨hi, rfl, fun z hz => (hb z hz).2⟩⟩
    rw [nsK_len] at hal2
    obtain ⟨f2, e3, hf2⟩ := acc_fun (R := fun x t => ∀ z ∈ (N x).ks, (N x).lev z ≤ t) (pm2.nodup_iff.mpr ok.nd) (by rw [hal2, List.length_map]) ha2
    rw [e3] at hH2
    have n6 := (n4.trans n5).keep hH2 (n4.back hr2')
    have hr6 := n6.cc _ _ hr2
    have hr26 : (upd C5 r2 (.lst (((ns2.map (·.1)).map f2).map V.int))) r2 = some (.lst (((ns2.map (·.1)).map f2).map V.int)) := upd_same
    generalize upd C5 r2 (.lst (((ns2.map (·.1)).map f2).map V.int)) = C6 at n6 hr6 hr26
    have g6 := n2.trans n6
    refine ⟨_, rfl, r2, rfl, ⟨_, .of (n6.ch _ _ hr26)⟩, ?_⟩
    refine lcMap (M := []) walk_list (fun j v _ => ∀ z, ((ns2.map (·.1)).map f2)[j]? = some z → v = .int z) n6.ch (fun _ h => nomatch h) (szK (by simp only [List.length_map]; omega)) (fun C2 H2 n => .of (n.ch _ _ (n.cc _ _ hr26))) (fun _ _ _ _ _ h => h) (fun i v C7 H7 H8 Z hj n y k => ?_) (fun r3 acc3 C7 H7 n7 cr3 hr3 hH3 hal3 ha3 => ?_)
    · obtain ⟨rfl, hv⟩ := y
      rw [List.getElem?_map] at hv
      obtain ⟨z, hz, rfl⟩ := Option.map_eq_some_iff.mp hv
      exact ⟨rfl, _, rfl, .inl ⟨z, rfl, k _ C7 H8 (.rfl n.ch) fun y hy => by rw [hz] at hy; cases hy; rfl⟩⟩
    have f3 : acc3 = ((ns2.map (·.1)).map f2).map V.int := acc_map (by simpa using hal3) ha3
    rw [f3] at hH3
    have pos2 : 0 < ((ns2.map (·.1)).map f2).length := by simp only [List.length_map]; rw [nl2]; exact List.length_pos_iff.mpr ok.ne
    have pos1 : 0 < ((ns.map (·.1)).map f).length := by simp only [List.length_map]; rw [nl]; exact List.length_pos_iff.mpr ok.ne
    refine ⟨r3, _, rfl, .of hH3, pos2, fun hi h1 h2 => ?_⟩
    have g7 := g6.trans n7
    have hr7 := n7.cc _ _ hr6
    refine ⟨_, rfl, r, rfl, ⟨_, .of (n7.ch _ _ hr7)⟩, ?_⟩
    refine lcMap (M := []) walk_list (fun j v _ => ∀ z, ((ns.map (·.1)).map f)[j]? = some z → v = .int z) n7.ch (fun _ h => nomatch h) (szK (by simp only [List.length_map]; omega)) (fun C2 H2 n => .of (n.ch _ _ (n.cc _ _ hr7))) (fun _ _ _ _ _ h => h) (fun i v C8 H8 H9 Z hj n y k => ?_) (fun r4 acc4 C8 H8 n8 cr4 hr4 hH4 hal4 ha4 => ?_)
    · obtain ⟨rfl, hv⟩ := y
      rw [List.getElem?_map] at hv
      obtain ⟨z, hz, rfl⟩ := Option.map_eq_some_iff.mp hv
      exact ⟨rfl, _, rfl, .inl ⟨z, rfl, k _ C8 H9 (.rfl n.ch) fun y hy => by rw [hz] at hy; cases hy; rfl⟩⟩
    have f4 : acc4 = ((ns.map (·.1)).map f).map V.int := acc_map (by simpa using hal4) ha4
    rw [f4] at hH4
    refine ⟨r4, _, rfl, .of hH4, pos1, fun lo l1 l2 => ⟨_, _, rfl, rfl, q _ _ _ (g7.trans n8) ⟨lo, hi, rfl, ?_⟩⟩⟩
    have all : ∀ i ∈ W, ∀ x ∈ (N i).ks, lo ≤ (N i).lev x ∧ (N i).lev x ≤ hi := fun i hi' x hx => by
      have a1 := hf i (pm1.mem_iff.mpr hi') x hx
      have a2 := hf2 i (pm2.mem_iff.mpr hi') x hx
      have a3 := l2 _ (List.mem_map.mpr ⟨i, pm1.mem_iff.mpr hi', rfl⟩)
      have a4 := h2 _ (List.mem_map.mpr ⟨i, pm2.mem_iff.mpr hi', rfl⟩)
      omega
    refine ⟨?_, all⟩
    obtain ⟨b, hb⟩ := ns_at pm1 hw0
    have okw : (N w0).Ok := (hN1 _ hb).ok
    obtain ⟨x, hx⟩ := List.exists_mem_of_ne_nil _ okw.ne
    have := all w0 hw0 x.1 (List.mem_map.mpr ⟨x, hx, rfl⟩)
    omega
/-- what the least spread is -/
def Least (N : Str → NetD) (W : List Str) (p : Str → Spot) (A : List Str) (pl : Str → Spot) (v : V) : Prop :=
  (v = .non ∧ ∀ s, 0 ≤ s → ¬ Tk N W s p A pl) ∨ ∃ n : Int, v = .int n ∧ 0 ≤ n ∧ FitsN W N p n ∧ Tk N W n p A pl ∧ ∀ s, 0 ≤ s → s < n → FitsN W N p s → ¬ Tk N W s p A pl
def sp_least_spread (K : PySem.W.Frag) : Sp := Gives fun vs C post => ∃ a d e W A N s p pl, vs = [.ref a, .ref d, .ref e] ∧ CompanyAt C a W N s ∧ SpotsAt C d W N p ∧ (∀ i ∈ W, (N i).Ok ∧ (N i).has (p i)) ∧ SpotsAt C e A N pl ∧ A.Nodup ∧ (∀ x ∈ A, x ∈ W) ∧ A ≠ [] ∧ A.length ≤ 5 ∧
  post = fun v _ => Least N W p A pl v
theorem k_least_spread (T : Txt K mg) : CalK P w K mg base 17 "least_spread" s_least_spread ["company", "spots", "places"] (sp_least_spread K) := by
  refine mkCalK (N := ["company", "spots", "places", "name", "place", "least", "most", "middle"]) (ps := ["company", "spots", "places"]) T.d_least_spread T.g_least_spread  (by decide +kernel) (fun vs H Q E h => ?_) (fun cdv A outer s H vs Q E hr h => ?_)
  · obtain ⟨C, post, sc, ⟨a, d, e, W, A', N, s', p, pl, rfl, hC, hS, hok, hP, ndA, sub, ne, few, rfl⟩, q⟩ := h; rfl
  · obtain ⟨C, post, sc, ⟨a, d, e, W, A', N, s', p, pl, rfl, hC, hS, hok, hP, ndA, sub, ne, few, rfl⟩, q⟩ := h
    have nd : (["company", "spots", "places", "name", "place", "least", "most", "middle"] : List Str).Nodup := by decide +kernel
    have hu := units1 hr
    refine ⟨_, (pss_cons (ps_expr (C8.pe_c (c_want_company T) hr (by decide) (by rfl) (pa_cons (pv 0) pa_nil)))
      (pss_cons (ps_expr (C8.pe_c (c_want_spots T) hr (by decide) (by rfl) (pa_cons (pv 0) (pa_cons (pv 1) pa_nil))))
      (pss_cons (ps_expr (C8.pe_c (c_want_places T) hr (by decide) (by rfl) (pa_cons (pv 0) (pa_cons (pv 2) pa_nil))))
      (pss_cons (ps_lock (ps_for PassesOwn.never rfl (pi_items (pv 2)) (pg_tup (n := 2) (by rfl) (pgs_cons (pg_name (i := 3) nd rfl (Or.inl rfl)) (pgs_cons (pg_name (i := 4) nd rfl (Or.inl rfl)) pgs_nil))) (pss_one (ps_if (pt_not (pt_val (C8.pe_c (c_is_joined T) hr (by decide) (by rfl) (pa_cons (C8.pe_mt (q_Company_net_of T) hr (by decide) (pv 0) (pa_cons (pv 3) pa_nil)) (pa_cons (pe_dget hu (pv 1) (pv 3) (fun _ _ => rfl)) (pa_cons (pv 4) pa_nil)))))) (pss_one (ps_ret pe_non)) pss_nil))))
      (pss_cons (ps_par (i := 5) (j := 6) (by rfl) nd rfl rfl (by decide) rfl rfl (pa_cons (C8.pe_c (c_excess T) hr (by decide) (by rfl) (pa_cons (C8.pe_c (c_levels_of T) hr (by decide) (by rfl) (pa_cons (pv 0) (pa_cons (pv 1) pa_nil))) pa_nil)) (pa_cons (C8.pe_c (c_height_of T) hr (by decide) (by rfl) (pa_cons (pv 0) pa_nil)) pa_nil)) (by rfl))
      (pss_cons (ps_while PassesOwn.never (pt_cmpR op_lt (pv 5) (pv 6) (nomark _)) (pss_cons (ps_set (i := 7) nd rfl (Or.inl rfl) (pe_op op_fdiv (pe_op op_add (pv 5) (pv 6)) pe_int))
      (pss_one (ps_if (pt_val (C8.pe_c (c_is_taken_with T) hr (by decide) (by rfl) (pa_cons (pv 0) (pa_cons (pv 7) (pa_cons (pv 1) (pa_cons (pv 2) pa_nil)))))) (pss_one (ps_set (i := 6) nd rfl (Or.inl rfl) (pv 7))) (pss_one (ps_set (i := 5) nd rfl (Or.inl rfl) (pe_op op_add (pv 7) pe_int)))))))
      (pss_one (ps_ret (pv 5))))))))), ?_⟩
    have ok := hC.1
    refine ⟨_, rfl, C, _, sc, ⟨a, W, N, s', rfl, hC.toR, rfl⟩, fun C1 H1 n1 => ?_⟩
    refine ⟨_, rfl, _, rfl, C1, _, n1.ch, ⟨a, d, W, N, s', p, rfl, hC.toR.le n1.le, hS.same n1.cc, rfl⟩, fun C2 H2 a2 => ?_⟩
    have n2 := n1.trans a2
    refine ⟨_, rfl, _, rfl, C2, _, n2.ch, ⟨a, e, W, A', N, s', pl, rfl, hC.toR.le n2.le, hP.same n2.cc, ndA, sub, ne, by omega, rfl⟩, fun C3 H3 a3 => ?_⟩
    have n3 := n2.trans a3
    obtain ⟨vs, he, pm, hv⟩ := hP.same n3.cc
    have heH := n3.ch _ _ he
    have vl : vs.length = A'.length := by rw [← pm.length_eq, List.length_map]
    refine ⟨e, _, heH, trivial, fun od => ⟨_, rfl, e, od, _, rfl, upd_same, ?_⟩⟩
    have sl : Same (upd C3 e (.frz od (.dK (vsK vs)))) (upd H3 e (.frz od (.dK (vsK vs)))) := same_updB n3.ch
    refine for_it walk_items (fun i σ H' => ∃ z1 z2 C', σ = [some (.ref a), some (.ref d), some (.ref e), z1, z2, none, none, none] ∧ Nx [] (upd C3 e (.frz od (.dK (vsK vs)))) (upd H3 e (.frz od (.dK (vsK vs)))) C' H' ∧ ∀ z ∈ vs.take i, Rc (GN N) z.1 (fun _ => True) (p z.1) (pl z.1)) ⟨_, _, _, rfl, .rfl sl, fun _ h => by simp at h⟩ (fun i σ H' _ ⟨_, _, C', _, n, _⟩ => n.hh e _ (fun z => nomatch z) upd_same) (fun i v σ H4 H5 hi ⟨z1, z2, C4, es, n4, hj⟩ y => ?_) (fun σ H4 ⟨z1, z2, C4, es, n4, hj⟩ => ?_)
    · subst es
      obtain ⟨Tp, kk, u, rfl, hT, rfl, ek⟩ := itemsY y
      obtain ⟨x, hx, rfl, hxi⟩ := vsK_get ek
      have hxA : x ∈ A' := pm.mem_iff.mp (List.mem_map.mpr ⟨_, hx, rfl⟩)
      have hxW := sub x hxA
      refine ⟨Tp, _, rfl, .of upd_same, rfl, _, _, rfl, _, _, rfl, rfl, ?_⟩
      have a5 : Nx [] C4 H4 C4 (upd H4 Tp (.tup [kV (.inr x), u])) := .tmp0 n4.ch hT
      have n5 := n4.trans a5
      have lk : Le C C4 := (n3.le.trans (Le.lock he)).trans n4.le
      obtain ⟨_, dx, dd, ns, hA, _⟩ := hC.toR.le lk
      refine ⟨_, rfl, a, dx, _, rfl, n5.ch _ _ hA, rfl, _, rfl, C4, _, n5.ch, ⟨a, W, N, s', x, rfl, hC.toR.le lk, hxW, rfl⟩, fun v C6 H6 a6 ⟨b, ev, hb⟩ => ?_⟩
      subst ev
      have n6 := n5.trans a6
      obtain ⟨sv, g, hsv, hhas⟩ := ((hS.toR.le lk).le a6.le).get ok.nd hxW
      have hpv := (((hv _ hx).1.le (Le.lock (od := od) he)).le n4.le).le a6.le
      refine ⟨_, rfl, _, rfl, d, _, rfl, g _ n6.ch, _, rfl, C6, _, n6.ch, ⟨b, sv, u, N, x, p x, pl x, rfl, hb, hsv, hhas, hpv, (hv _ hx).2, rfl⟩, fun v C7 H7 a7 ⟨r, ev, hr'⟩ => ?_⟩
      subst ev
      have n7 := n6.trans a7
      refine ⟨r, rfl, ?_⟩
      cases r with
      | false =>
        refine iteT ⟨n7.hh e _ (fun z => nomatch z) upd_same, q _ _ _ (n3.trans (n7.unlock he heH)) (.inl ⟨rfl, fun s hs t => ?_⟩)⟩
        have := hr'.mpr (tk_joined sub t x hxA)
        cases this
      | true =>
        refine iteF ⟨_, _, C7, rfl, n7, fun z hz => ?_⟩
        rw [List.take_add_one, hxi, List.mem_append] at hz
        rcases hz with hz | hz
        · exact hj z hz
        · cases List.mem_singleton.mp hz
          exact hr'.mp rfl
    · subst es
      rw [vsK_len, List.take_length] at hj
      refine ⟨n4.hh e _ (fun z => nomatch z) upd_same, ?_⟩
      have n5 := n3.trans (n4.unlock he heH)
      have hjn : ∀ j ∈ A', Rc (GN N) j (fun _ => True) (p j) (pl j) := fun j hj' => by
        obtain ⟨z, hz, rfl⟩ := List.mem_map.mp (pm.mem_iff.mpr hj')
        exact hj z hz
      generalize upd C4 e (.dK (vsK vs)) = C5 at n5
      generalize upd H4 e (.dK (vsK vs)) = H5 at n5 ⊢
      refine ⟨_, rfl, _, rfl, C5, _, n5.ch, ⟨a, d, W, W, N, s', p, rfl, hC.toR.le n5.le, hS.same n5.cc, ok.nd, fun _ h => h, ok.few, rfl⟩, fun v C6 H6 a6 ⟨ld, xs, ev, _, pmx, hld⟩ => ?_⟩
      subst ev
      have n6 := n5.trans a6
      refine ⟨C6, _, a6.ch, ⟨ld, _, xs, rfl, hld, fun z => ok.ne (by rw [z] at pmx; exact List.nil_perm.mp pmx), rfl⟩, fun v C7 H7 a7 ⟨ex, ev, hex⟩ => ?_⟩
      subst ev
      have n7 := n6.trans a7
      refine ⟨_, rfl, C7, _, n7.ch, ⟨a, W, N, s', rfl, hC.toR.le n7.le, rfl⟩, fun v C8 H8 a8 ⟨lo, hi, ev, hht⟩ => ?_⟩
      subst ev
      have n8 := n7.trans a8
      have hex := hex.perm pmx
      refine ⟨_, _, rfl, ?_⟩
      have hokW : ∀ i ∈ W, (N i).Ok := fun i hi => (hok i hi).1
      have hpW : ∀ i ∈ W, (N i).has (p i) := fun i hi => (hok i hi).2
      have ex0 : 0 ≤ ex := by
        obtain ⟨w0, hw0⟩ := List.exists_mem_of_ne_nil _ ok.ne
        have := hex.2 w0 hw0 w0 hw0
        omega
      have exh : ex ≤ hi - lo := hex.fits.mpr (fits_height hokW hht.2 hpW)
      refine ⟨fun k σ H' => ∃ z C' l m, σ = [some (.ref a), some (.ref d), some (.ref e), z1, z2, some (.int l), some (.int m), z] ∧ Nx [] C H C' H' ∧ ex ≤ l ∧ l ≤ m ∧ Tk N W m p A' pl ∧ FitsN W N p m ∧ (∀ s, 0 ≤ s → s < l → FitsN W N p s → ¬ Tk N W s p A' pl) ∧ k = (m - l).toNat, ⟨_, none, C8, ex, hi - lo, rfl, n8, Int.le_refl _, exh, tk_height hokW hht.1 hht.2 hpW sub hjn, fits_height hokW hht.2 hpW, fun s _ h f => ?_, rfl⟩, ?_⟩
      · have := hex.fits.mpr f
        omega
      rintro k σ H9 ⟨z, C9, l, m, rfl, n9, hl, hlm, tm, fm, no, rfl⟩
      refine ⟨_, rfl, _, rfl, _, _, rfl, rfl, decide (l < m), rfl, ?_⟩
      by_cases c : l < m
      · refine iteP c ⟨fun σ' H' => ∃ m', m' < (m - l).toNat ∧ ∃ z C' l m, σ' = [some (.ref a), some (.ref d), some (.ref e), z1, z2, some (.int l), some (.int m), z] ∧ Nx [] C H C' H' ∧ ex ≤ l ∧ l ≤ m ∧ Tk N W m p A' pl ∧ FitsN W N p m ∧ (∀ s, 0 ≤ s → s < l → FitsN W N p s → ¬ Tk N W s p A' pl) ∧ m' = (m - l).toNat, fun _ _ h => h, ?_⟩
        refine ⟨_, rfl, _, rfl, _, _, rfl, rfl, _, _, rfl, rfl, ⟨by decide, by decide⟩, ?_⟩
        have m1 : l ≤ ((l + m) / 2) := by omega
        have m2 : ((l + m) / 2) < m := by omega
        have fmd : FitsN W N p ((l + m) / 2) := hex.fits.mp (by omega)
        refine ⟨_, rfl, _, rfl, _, rfl, _, rfl, C9, _, n9.ch, ⟨a, d, e, W, A', N, s', ((l + m) / 2), p, pl, rfl, hC.same n9.cc, by omega, hS.same n9.cc, fmd, hok, hP.same n9.cc, ndA, sub, ne, few, rfl⟩, fun v C10 H10 a10 ⟨b, ev, hb⟩ => ?_⟩
        subst ev
        have n10 := n9.trans a10
        refine ⟨b, rfl, ?_⟩
        cases b with
        | true => exact iteT ⟨_, rfl, (((l + m) / 2) - l).toNat, by omega, _, C10, l, ((l + m) / 2), rfl, n10, hl, m1, hb.mp rfl, fmd, no, rfl⟩
        | false =>
          refine iteF ⟨_, rfl, _, _, rfl, rfl, (m - (((l + m) / 2) + 1)).toNat, by omega, _, C10, ((l + m) / 2) + 1, m, rfl, n10, by omega, by omega, tm, fm, fun s s0 hs f t => ?_, rfl⟩
          have := hb.mpr (tk_more s0 (by omega : s ≤ ((l + m) / 2)) f t)
          cases this
      · have e1 : l = m := by omega
        subst e1
        exact iteQ c ⟨_, rfl, q _ _ _ n9 (.inr ⟨l, rfl, by omega, fm, tm, no⟩)⟩
theorem c_least_spread (T : Txt K mg) : C8.Cal P w K mg base 17 "least_spread" (sp_least_spread K) [] := (k_least_spread T).cal fun _ _ _ _ _ _ us hl => match us, hl with | [_, _, _], _ => rfl
end
end AbW

/-! ## Wh -/
set_option Elab.async false
set_option linter.all false
set_option maxRecDepth 100000
set_option maxHeartbeats 4000000
/-! Wh: the law's pot and its draws -/
namespace AbW
open PySem PySem.Spec PyProof.Rows L2 AbH AbR Ab
def Pot (C H : Hp) (pot : Addr) : Prop := C pot = none ∧ ∃ a b : Int, 0 ≤ a ∧ 0 ≤ b ∧ H pot = some (.lst [.int a, .int b])
theorem Pot.on {C H C' H' : Hp} {pot : Addr} (h : Pot C H pot) (n : Nx [] C H C' H') : Pot C' H' pot := by
  obtain ⟨c, a, b, h1, h2, h3⟩ := h
  have := (Dt.mk (o := .lst [.int a, .int b]) c h3).on n
  exact ⟨this.no, a, b, h1, h2, this.at_⟩
/-- a promise that draws from the pot -/
def GivesP (pre : List V → Hp → Addr → (V → Hp → Prop) → Prop) : Sp := fun vs H Q _ => ∃ C pot post, Same C H ∧ Pot C H pot ∧ pre vs C pot post ∧ ∀ v C' H', Nx [pot] C H C' H' → Pot C' H' pot → post v C' → Q v H'
section
variable {P : Program} {w : World} {K : PySem.W.Frag} {mg : Str → Option Value} {base : Heap}
def sp_law_pot (K : PySem.W.Frag) : Sp := fun vs H Q _ => ∃ C sp, ∃ ns : List Int, ∃ k : Nat, Same C H ∧ vs = [.ref sp, .int k] ∧ SqL K C sp (ns.map V.int) ∧ ns.length ≤ 100000 ∧ k ≤ 100 ∧ ∀ p H', Nx [] C H C H' → H p = none → (∃ a b : Int, 0 ≤ a ∧ 0 ≤ b ∧ H' p = some (.lst [.int a, .int b])) → Q (.ref p) H'
theorem c_law_pot (T : Txt K mg) : C8.Cal P w K mg base 1 "_law_pot" (sp_law_pot K) [] := by
  refine mkCal (N := ["_law_script", "_law_k", "_law_cell"]) (ps := ["_law_script", "_law_k"]) T.d_law_pot T.g_law_pot (fun _ _ _ _ _ _ us hl => match us, hl with | [_, _], _ => rfl) (by decide +kernel) (fun vs H Q E h => ?_) (fun cdv A outer s H vs Q E hr h => ?_)
  · obtain ⟨C, sp, ns, k, sc, rfl, hs, hl, hk, q⟩ := h; rfl
  · obtain ⟨C, sp, ns, k, sc, rfl, hs, hl, hk, q⟩ := h
    have nd : (["_law_script", "_law_k", "_law_cell"] : List Str).Nodup := by decide +kernel
    refine ⟨_, (pss_cons (ps_set (i := 2) nd rfl (Or.inl rfl) (pe_op op_add (pe_op op_mul pe_int (pv 1)) pe_int))
      (pss_cons (ps_if (pt_cmpR op_lt (pv 1) (pe_callB call_len_seq (by rfl) T.f_len b_len (pa_cons (pv 0) pa_nil)) (nomark _)) (pss_one (ps_set (i := 2) nd rfl (Or.inl rfl) (pe_callB call_abs (by rfl) T.f_abs b_abs (pa_cons (pe_ix ix_list (pv 0) (pv 1) (fun _ _ => rfl)) pa_nil)))) pss_nil)
      (pss_one (ps_ret (pe_lst (pa_cons (pe_callB (call_max2 rfl) (by rfl) T.f_max b_max (pa_cons pe_int (pa_cons (pe_op op_sub (pv 2) (pe_op op_pow pe_int pe_int)) pa_nil))) (pa_cons (pe_op op_add (pe_op op_mod (pe_op op_mul (pe_callTy call_int1 (by rfl) T.f_int b_int (pa_cons (pe_op op_add (pe_op op_mod (pe_callTy call_int1 (by rfl) T.f_int b_int (pa_cons (pv 2) pa_nil)) pe_int) pe_int) pa_nil)) (pe_op op_pow (pe_op op_add (pe_op op_mul pe_int (pv 1)) pe_int) pe_int)) pe_int) pe_int) pa_nil))))))), ?_⟩
    have hs' : SqL K H sp (ns.map V.int) := Same.seq sc hs
    refine ⟨_, rfl, _, _, rfl, rfl, .inl ⟨by decide, by decide⟩, _, _, rfl, rfl, ?_⟩
    try dsimp only
    refine cutS (R := fun σ' H' => ∃ cell : Int, σ' = [some (.ref sp), some (.int k), some (.int cell)] ∧ H' = H) (fun Nn kk => ?_) (fun σ' H' ⟨cell, e1, e2⟩ => ?_)
    · refine ⟨_, rfl, _, rfl, sp, _, rfl, .inl hs', _, _, rfl, rfl, decide ((k : Int) < ((ns.map V.int).length : Nat)), rfl, ?_⟩
      by_cases c : (k : Int) < ((ns.map V.int).length : Nat)
      · have hk' : k < ns.length := by rw [List.length_map] at c; omega
        have ea : atI (ns.map V.int) (k : Int) = some (.int ns[k]) := by
          unfold atI ixN
          rw [if_pos (by omega), if_pos c]
          show (ns.map V.int)[((k : Nat) : Int).toNat]? = _
          rw [Int.toNat_natCast, List.getElem?_map, List.getElem?_eq_getElem hk']; rfl
        exact iteP c ⟨_, rfl, _, rfl, sp, _, k, _, rfl, rfl, hs', ea, _, rfl, kk _ _ ⟨_, rfl, rfl⟩⟩
      · exact iteQ c (kk _ _ ⟨_, rfl, rfl⟩)
    subst e1 e2
    refine ⟨_, rfl, _, _, rfl, rfl, ⟨by decide, by decide, by decide⟩, _, _, rfl, rfl, 0, _, rfl, ?_⟩
    refine ⟨_, rfl, .inl ⟨_, rfl, _, _, rfl, rfl, (show (0 : Int) < 2147483549 by decide), _, _, rfl, rfl, .inl ⟨_, rfl, ?_⟩⟩⟩
    refine ⟨_, rfl, _, _, rfl, rfl, .inl ⟨by decide, by decide⟩, _, _, rfl, rfl, _, _, rfl, rfl, ⟨by decide, by decide, ?_⟩, _, _, rfl, rfl, .inl ⟨?_, ?_⟩, _, _, rfl, rfl, (show (0 : Int) < 2147483477 by decide), _, _, rfl, rfl, sz2, fun p hp => ?_⟩
    · show ((2 * (k : Int) + 5).natAbs) < 2 ^ 64
      omega
    · have := Int.emod_nonneg cell (show (2147483549 : Int) ≠ 0 by decide)
      show -(2 ^ 64) < cell % 2147483549 + 3
      omega
    · have := Int.emod_lt_of_pos cell (show (0 : Int) < 2147483549 by decide)
      show cell % 2147483549 + 3 < 2 ^ 64
      omega
    · refine q p _ (.tmp0 sc hp) hp ⟨_, _, ?_, ?_, upd_same⟩
      · by_cases h : cell - 10 ^ 18 > 0
        · show (0 : Int) ≤ if cell - 10 ^ 18 > 0 then cell - 10 ^ 18 else 0
          rw [if_pos h]; omega
        · show (0 : Int) ≤ if cell - 10 ^ 18 > 0 then cell - 10 ^ 18 else 0
          rw [if_neg h]; omega
      · have := Int.emod_nonneg ((cell % 2147483549 + 3) * (2 * (k : Int) + 5) ^ (3 : Int).toNat) (show (2147483477 : Int) ≠ 0 by decide)
        show (0 : Int) ≤ ((cell % 2147483549 + 3) * (2 * (k : Int) + 5) ^ (3 : Int).toNat) % 2147483477 + 1
        omega
def sp_law_draw (K : PySem.W.Frag) : Sp := GivesP fun vs C pot post => ∃ many : Int, vs = [.ref pot, .int many] ∧ 0 < many ∧ many < 1000000 ∧ post = fun v _ => ∃ r : Int, v = .int r ∧ 0 ≤ r ∧ r < many
theorem c_law_draw (T : Txt K mg) : C8.Cal P w K mg base 1 "_law_draw" (sp_law_draw K) [] := by
  refine mkCal (N := ["_law_pot_here", "_law_many", "_law_digit"]) (ps := ["_law_pot_here", "_law_many"]) T.d_law_draw T.g_law_draw (fun _ _ _ _ _ _ us hl => match us, hl with | [_, _], _ => rfl) (by decide +kernel) (fun vs H Q E h => ?_) (fun cdv A outer s H vs Q E hr h => ?_)
  · obtain ⟨C, pot, post, sc, ⟨cp, a, b, ha, hb, hp⟩, ⟨many, rfl, h0, h1, rfl⟩, q⟩ := h; rfl
  · obtain ⟨C, pot, post, sc, ⟨cp, a, b, ha, hb, hp⟩, ⟨many, rfl, h0, h1, rfl⟩, q⟩ := h
    have nd : (["_law_pot_here", "_law_many", "_law_digit"] : List Str).Nodup := by decide +kernel
    refine ⟨_, (pss_cons (ps_if (pt_cmpR op_gt (pe_ix ix_list (pv 0) pe_int (fun _ _ => rfl)) pe_int (nomark _)) (pss_cons (ps_asg (pe_callB call_divmod (by rfl) T.f_divmod b_divmod (pa_cons (pe_ix ix_list (pv 0) pe_int (fun _ _ => rfl)) (pa_cons (pv 1) pa_nil))) (pg_tup (n := 2) (by rfl) (pgs_cons (pg_sub (pv 0) pe_int set_list) (pgs_cons (pg_name (i := 2) nd rfl (Or.inl rfl)) pgs_nil))))
      (pss_one (ps_ret (pv 2)))) pss_nil)
      (pss_cons (ps_asg (pe_op op_mod (pe_callTy call_int1 (by rfl) T.f_int b_int (pa_cons (pe_op op_add (pe_op op_mul (pe_ix ix_list (pv 0) pe_int (fun _ _ => rfl)) pe_int) pe_int) pa_nil)) pe_int) (pg_sub (pv 0) pe_int set_list))
      (pss_one (ps_ret (pe_op op_mod (pe_callTy call_int1 (by rfl) T.f_int b_int (pa_cons (pe_op op_fdiv (pe_op op_mod (pe_callTy call_int1 (by rfl) T.f_int b_int (pa_cons (pe_op op_mul (pe_ix ix_list (pv 0) pe_int (fun _ _ => rfl)) (pe_ix ix_list (pv 0) pe_int (fun _ _ => rfl))) pa_nil)) pe_int) pe_int) pa_nil)) (pv 1)))))), ?_⟩
    refine ⟨_, rfl, pot, _, 0, _, rfl, rfl, .of hp, rfl, _, _, rfl, rfl, decide (0 < a), rfl, ?_⟩
    by_cases c : 0 < a
    · refine iteP c ⟨_, rfl, pot, _, 0, _, rfl, rfl, .of hp, rfl, _, rfl, a, many, rfl, ⟨h0, by omega⟩, fun t ht => ⟨t, _, rfl, .of upd_same, rfl, _, _, rfl, ?_⟩⟩
      have hpt : (upd H t (.tup [V.int (a / many), .int (a % many)])) pot = some (.lst [.int a, .int b]) := by
        rw [upd_ne (fun z => by rw [z, ht] at hp; cases hp)]; exact hp
      have n1 : Nx [pot] C H C (upd H t (.tup [V.int (a / many), .int (a % many)])) := .tmp0 sc ht
      refine ⟨_, rfl, pot, _, 0, 0, rfl, rfl, hpt, rfl, _, _, rfl, rfl, _, rfl, ?_⟩
      have n2 := n1.mutM (o := .lst [.int (a / many), .int b]) cp (List.mem_singleton_self pot)
      exact q _ _ _ n2 ⟨cp, _, _, Int.ediv_nonneg ha (by omega), hb, upd_same⟩ ⟨_, rfl, Int.emod_nonneg _ (by omega), Int.emod_lt_of_pos _ h0⟩
    · refine iteQ c ?_
      have b20 : 0 ≤ (b * 48271 + 11213) % 2147483587 := Int.emod_nonneg _ (by decide)
      have b2l : (b * 48271 + 11213) % 2147483587 < 2147483587 := Int.emod_lt_of_pos _ (by decide)
      have hp2 : ∀ v, (upd H pot (HO.lst ([V.int a, V.int b].set 1 v))) pot = some (.lst [.int a, v]) := fun v => upd_same
      have n2 : ∀ v, Nx [pot] C H C (upd H pot (HO.lst ([V.int a, V.int b].set 1 v))) := fun v => (Nx.rfl sc).mutM cp (List.mem_singleton_self pot)
      refine ⟨_, rfl, pot, _, 1, _, rfl, rfl, .of hp, rfl, _, _, rfl, rfl, .inr ⟨by decide, by decide⟩, _, _, rfl, rfl, .inl ⟨_, rfl, _, _, rfl, rfl, (show (0 : Int) < 2147483587 by decide), _, rfl, pot, _, 1, 1, rfl, rfl, hp, rfl, ?_⟩⟩
      refine ⟨_, rfl, pot, _, 1, _, rfl, rfl, .of (hp2 _), rfl, _, rfl, pot, _, 1, _, rfl, rfl, .of (hp2 _), rfl, _, _, rfl, rfl, .inl ⟨?_, ?_⟩, .inl ⟨_, rfl, _, _, rfl, rfl, (show (0 : Int) < 2147483549 by decide), _, _, rfl, rfl, ⟨by decide, by decide⟩, .inl ⟨_, rfl, _, rfl, _, _, rfl, rfl, h0, ?_⟩⟩⟩
      · show -(2 ^ 64) < (b * 48271 + 11213) % 2147483587
        omega
      · show (b * 48271 + 11213) % 2147483587 < 2 ^ 64
        omega
      · exact q _ _ _ (n2 _) ⟨cp, _, _, ha, b20, hp2 _⟩ ⟨_, rfl, Int.emod_nonneg _ (by omega), Int.emod_lt_of_pos _ h0⟩
def sp_law_pick (K : PySem.W.Frag) : Sp := GivesP fun vs C pot post => ∃ l xs, vs = [.ref pot, .ref l] ∧ C l = some (.lst xs) ∧ xs ≠ [] ∧ xs.length < 1000000 ∧ post = fun v _ => v ∈ xs
theorem c_law_pick (T : Txt K mg) : C8.Cal P w K mg base 2 "_law_pick" (sp_law_pick K) [] := by
  refine mkCal (N := ["_law_pot_here", "_law_some"]) (ps := ["_law_pot_here", "_law_some"]) T.d_law_pick T.g_law_pick (fun _ _ _ _ _ _ us hl => match us, hl with | [_, _], _ => rfl) (by decide +kernel) (fun vs H Q E h => ?_) (fun cdv A outer s H vs Q E hr h => ?_)
  · obtain ⟨C, pot, post, sc, hpot, ⟨l, xs, rfl, hl, ne, hlen, rfl⟩, q⟩ := h; rfl
  · obtain ⟨C, pot, post, sc, hpot, ⟨l, xs, rfl, hl, ne, hlen, rfl⟩, q⟩ := h
    refine ⟨_, (pss_one (ps_ret (pe_ix ix_list (pv 1) (C8.pe_c (c_law_draw T) hr (by decide) (by rfl) (pa_cons (pv 0) (pa_cons (pe_callB call_len_seq (by rfl) T.f_len b_len (pa_cons (pv 1) pa_nil)) pa_nil))) (fun _ _ => rfl)))), ?_⟩
    have pos : 0 < xs.length := List.length_pos_iff.mpr ne
    refine ⟨_, rfl, _, rfl, _, rfl, l, _, rfl, .inl (.of (sc _ _ hl)), C, pot, _, sc, hpot, ⟨_, rfl, by omega, by omega, rfl⟩, fun v C1 H1 n1 p1 ⟨r, ev, r0, r1⟩ => ?_⟩
    subst ev
    have hi : r.toNat < xs.length := by omega
    have ea : atI xs r = some xs[r.toNat] := by
      unfold atI ixN
      rw [if_pos r0, if_pos r1]
      exact List.getElem?_eq_getElem hi
    exact ⟨l, xs, r, _, rfl, rfl, .of (n1.ch _ _ (n1.cc _ _ hl)), ea, q _ _ _ n1 p1 (List.getElem_mem hi)⟩
def sp_law_pair (K : PySem.W.Frag) : Sp := Gives fun vs C post => ∃ l x y, ∃ hs : List (Str × Int), vs = [.ref l, .str x, .str y] ∧ C l = some (.dK (hsK hs)) ∧ (hs.map (·.1)).Nodup ∧ x ∈ hs.map (·.1) ∧ y ∈ hs.map (·.1) ∧ post = fun v C' => ∃ p, v = .ref p ∧ C' p = some (.tup [.str (told ⟨hs, []⟩ x y).1, .str (told ⟨hs, []⟩ x y).2])
theorem c_law_pair (T : Txt K mg) : C8.Cal P w K mg base 1 "_law_pair" (sp_law_pair K) [] := by
  refine mkCal (N := ["_law_heights", "_law_this", "_law_mate"]) (ps := ["_law_heights", "_law_this", "_law_mate"]) T.d_law_pair T.g_law_pair (fun _ _ _ _ _ _ us hl => match us, hl with | [_, _, _], _ => rfl) (by decide +kernel) (fun vs H Q E h => ?_) (fun cdv A outer s H vs Q E hr h => ?_)
  · obtain ⟨C, post, sc, ⟨l, x, y, hs, rfl, hl, nd, hx, hy, rfl⟩, q⟩ := h; rfl
  · obtain ⟨C, post, sc, ⟨l, x, y, hs, rfl, hl, nd, hx, hy, rfl⟩, q⟩ := h
    have hu := units1 hr
    refine ⟨_, (pss_one (ps_ret (pe_ifExp (pt_cmpR (op_ltSI hr.units0) (pe_tup (pa_cons (pe_dget hu (pv 0) (pv 1) (fun _ _ => rfl)) (pa_cons (pv 1) pa_nil))) (pe_tup (pa_cons (pe_dget hu (pv 0) (pv 2) (fun _ _ => rfl)) (pa_cons (pv 2) pa_nil))) (nomark _)) (pe_tup (pa_cons (pv 1) (pa_cons (pv 2) pa_nil))) (pe_tup (pa_cons (pv 2) (pa_cons (pv 1) pa_nil)))))), ?_⟩
    obtain ⟨m, em⟩ : ∃ m : NetD, m = ⟨hs, []⟩ := ⟨_, rfl⟩
    have lvO : ∀ {z : Str}, z ∈ hs.map (·.1) → (hs.find? fun p => decide (p.1 = z)).map (·.2) = some (m.lev z) := fun {z} hz => by
      obtain ⟨p, hp, e⟩ := List.mem_map.mp hz
      subst e
      have := find_mem (k := p.1) (v := p.2) nd hp
      rw [this]
      show some p.2 = some ((m.lvO p.1).getD 0)
      rw [em]
      show some p.2 = some (((hs.find? fun q => decide (q.1 = p.1)).map (·.2)).getD 0)
      rw [this]; rfl
    have dg : ∀ {C' H' : Hp} {z : Str}, Nx [] C H C' H' → z ∈ hs.map (·.1) → DGet H' l (.str z) (some (.int (m.lev z))) := fun {C' H' z} n hz => .inl ⟨_, .inr z, .inl (n.ch _ _ (n.cc _ _ hl)), rfl, by rw [valV_hsK, lvO hz]; rfl⟩
    rw [← em] at q
    refine ⟨_, rfl, _, rfl, l, _, rfl, dg (.rfl sc) hx, _, rfl, sz2, fun p hp => ?_⟩
    have n1 : Nx [] C H C (upd H p (.tup [V.int (m.lev x), .str x])) := .tmp0 sc hp
    refine ⟨_, rfl, _, rfl, l, _, rfl, dg n1 hy, _, rfl, sz2, fun p' hp' => ?_⟩
    have n2 := n1.tmp (o := .tup [.int (m.lev y), .str y]) hp'
    have e1 : (upd (upd H p (.tup [.int (m.lev x), .str x])) p' (.tup [.int (m.lev y), .str y])) p = some (.tup [.int (m.lev x), .str x]) := by
      rw [upd_ne (fun z => by rw [← z, upd_same] at hp'; cases hp')]; exact upd_same
    refine ⟨p, p', _, _, _, _, rfl, rfl, .of e1, .of upd_same, _, rfl, ?_⟩
    by_cases h : ltSI (m.lev x) x (m.lev y) y = true
    · refine iteB h ⟨_, rfl, _, rfl, sz2, fun r hr => q _ _ _ (n2.new hr) ⟨r, rfl, ?_⟩⟩
      unfold told; rw [if_pos h]; exact upd_same
    · refine iteC (by simpa using h) ⟨_, rfl, _, rfl, sz2, fun r hr => q _ _ _ (n2.new hr) ⟨r, rfl, ?_⟩⟩
      unfold told; rw [if_neg h]; exact upd_same
end
end AbW

/-! ## Wi -/
set_option Elab.async false
set_option linter.all false
set_option maxRecDepth 100000
set_option maxHeartbeats 4000000
/-! Wi: the law's names and models -/
namespace AbW
open PySem PySem.Spec PyProof.Rows L2 AbH AbR Ab
abbrev chs (x : Str) : List Nat := x.cps.toList
def Sgn (c : Nat) : Prop := c ∈ letters ∨ c ∈ digits
theorem len_chs (x : Str) : x.length = (chs x).length := by show x.cps.size = _; rw [Array.length_toList]
theorem chs_app (x y : Str) : chs (x ++ y) = chs x ++ chs y := by
  show (x.cps ++ y.cps).toList = _
  exact Array.toList_append
theorem join_one : ∀ ys : List Str, (∀ y ∈ ys, ∃ c, y = ⟨#[c]⟩ ∧ Sgn c) → (chs (Txt.join "" ys)).length = ys.length ∧ ∀ c ∈ chs (Txt.join "" ys), Sgn c := by
  intro ys h
  rw [TL.join_eq, show chs (Str.join "" ys) = TL.tl (Str.join "" ys) from rfl, TL.tl_join]
  have e0 : TL.tl "" = [] := rfl
  rw [e0]
  induction ys with
  | nil => exact ⟨rfl, fun c hc => by cases hc⟩
  | cons y r ih =>
    obtain ⟨c, e, hc⟩ := h y (List.mem_cons_self ..)
    subst e
    cases r with
    | nil => exact ⟨rfl, fun d hd => by cases List.mem_singleton.mp hd; exact hc⟩
    | cons z r =>
      obtain ⟨h1, h2⟩ := ih fun y hy => h y (List.mem_cons_of_mem _ hy)
      have e2 : TL.joinL [] ((⟨#[c]⟩ :: z :: r : List Str).map TL.tl) = [c] ++ ([] ++ TL.joinL [] ((z :: r : List Str).map TL.tl)) := rfl
      rw [e2, List.nil_append]
      exact ⟨by rw [List.length_append, h1]; simp; omega, fun d hd => by
        rcases List.mem_append.mp hd with hd | hd
        · cases List.mem_singleton.mp hd; exact hc
        · exact h2 d hd⟩
def numS (i : Nat) : Str := toString ((10 : Int) + (i : Int))
theorem numS_ok : ∀ i < 90, (chs (numS i)).length = 2 ∧ ∀ c ∈ chs (numS i), c ∈ digits := by decide +kernel
theorem numS_inj : ∀ i < 90, ∀ j < 90, numS i = numS j → i = j := by decide +kernel
structure Lbl (x : Str) : Prop where
  len : (chs x).length ≤ 3
  fst : ∃ c r, chs x = c :: r ∧ c ∈ letters
  all : ∀ c ∈ chs x, Sgn c
theorem Lbl.ok {x : Str} (h : Lbl x) : NameOk x := ⟨by rw [len_chs]; have := h.len; omega, h.fst, h.all⟩
theorem Lbl.num {x : Str} (h : Lbl x) {i : Nat} (hi : i < 90) : NameOk (x ++ numS i) := by
  obtain ⟨h1, h2⟩ := numS_ok i hi
  refine ⟨?_, ?_, fun c hc => ?_⟩
  · rw [len_chs, chs_app, List.length_append, h1]; have := h.len; omega
  · obtain ⟨c, r, e, hc⟩ := h.fst
    exact ⟨c, r ++ chs (numS i), by rw [show (x ++ numS i).cps.toList = chs (x ++ numS i) from rfl, chs_app, e]; rfl, hc⟩
  · rw [show (x ++ numS i).cps.toList = chs (x ++ numS i) from rfl, chs_app] at hc
    rcases List.mem_append.mp hc with hc | hc
    · exact h.all c hc
    · exact .inr (h2 c hc)
theorem app_inj {x y z : Str} (h : x ++ y = x ++ z) : y = z := by
  have h1 : chs (x ++ y) = chs (x ++ z) := by rw [h]
  rw [chs_app, chs_app] at h1
  have h2 := List.append_cancel_left h1
  cases y; cases z
  exact congrArg Str.mk (Array.toList_inj.mp h2)
def spare (x : Str) : List Str := x :: (List.range 90).map fun i => x ++ numS i
theorem spare_ok {x : Str} (h : Lbl x) : ∀ y ∈ spare x, NameOk y := fun y hy => by
  rcases List.mem_cons.mp hy with rfl | hy
  · exact h.ok
  · obtain ⟨i, hi, rfl⟩ := List.mem_map.mp hy
    exact h.num (List.mem_range.mp hi)
theorem spare_free {x : Str} {ns : List Str} (h : ns.length < 90) : ∃ y ∈ spare x, y ∉ ns := by
  refine Classical.byContradiction fun hn => ?_
  have h1 : ∀ y ∈ (List.range 90).map fun i => x ++ numS i, y ∈ ns := fun y hy => Classical.byContradiction fun z => hn ⟨y, List.mem_cons_of_mem _ hy, z⟩
  have h2 : ((List.range 90).map fun i => x ++ numS i).Nodup := by
    refine List.pairwise_map.mpr (List.Pairwise.imp_of_mem (fun {a b} ha hb hab e => hab ?_) List.nodup_range)
    exact numS_inj a (List.mem_range.mp ha) b (List.mem_range.mp hb) (app_inj e)
  have := nodup_le h2 h1
  rw [List.length_map, List.length_range] at this
  omega
theorem Pot.upd {C H : Hp} {pot D : Addr} {o : HO} (p : Pot C H pot) (h : D ≠ pot) : Pot C (L2.upd H D o) pot := by
  obtain ⟨c, a, b, h1, h2, h3⟩ := p
  exact ⟨c, a, b, h1, h2, by rw [upd_ne (fun z => h z.symm)]; exact h3⟩
theorem Pot.ne {C H : Hp} {pot : Addr} (p : Pot C H pot) : H pot ≠ none := by
  obtain ⟨_, a, b, _, _, h⟩ := p
  rw [h]; simp
theorem sum_ones : ∀ {cs : List Str}, (∀ x ∈ cs, ∃ c, x = ⟨#[c]⟩ ∧ Sgn c) → (cs.map fun x => x.length).sum = cs.length
  | [], _ => rfl
  | x :: r, h => by
    obtain ⟨c, e, _⟩ := h x (List.mem_cons_self ..)
    rw [List.map_cons, List.sum_cons, sum_ones fun y hy => h y (List.mem_cons_of_mem _ hy), e, List.length_cons]
    show 1 + r.length = _
    omega
theorem atI_zero {v : V} {r : List V} : atI (v :: r) 0 = some v := by
  unfold atI ixN
  rw [if_pos (by decide), if_pos (by simp)]
  rfl
/-- a list comprehension that draws -/
theorem lcP {J : It} {n : Nat} {G : Hp → Prop} {Y : Nat → Hp → V → Hp → Prop} {pot : Addr} (w : Walk J n G Y) {g : TG} {te : TE} {vs : List Nat} {σ : L2.St} {C1 H1 : Hp} {Qd : Addr → Hp → Prop} (S : Nat → V → Hp → Prop) (s1 : Same C1 H1) (p1 : Pot C1 H1 pot) (hn : n ≤ sizeLine) (hG : ∀ C H, Nx [pot] C1 H1 C H → G H)
    (hS : ∀ i v C C', Same C C' → S i v C → S i v C')
    (hs : ∀ i x C H H' (Z : V → Hp → Prop), i < n → Nx [pot] C1 H1 C H → Pot C H pot → Y i H x H' → (∀ y C4 H4, Nx [pot] C H C4 H4 → Pot C4 H4 pot → S i y C4 → Z y H4) → g x (wipe σ vs) H' fun σ2 H2 => wipe σ2 vs = wipe σ vs ∧ te σ2 H2 Z)
    (hd : ∀ p acc C H, Nx [pot] C1 H1 C H → Pot C H pot → C p = none → H1 p = none → H p = some (.lst acc) → acc.length = n → (∀ i v, acc[i]? = some v → S i v C) → Qd p H) :
    ∀ D, H1 D = none → ∃ W : Nat → Nat → Hp → Prop, (∃ m, W 0 m (upd H1 D (.lst []))) ∧ ∀ i m H, W i m H →
      (J.stop i H ∧ Qd D H) ∨ (J.go i H ∧ ∃ Nx : Hp → Prop, (∀ H', Nx H' → ∃ m', m' < m ∧ W (i + 1) m' H') ∧ ∀ x H', J.yld i H x H' → g x (wipe σ vs) H' fun σ2 H2 => wipe σ2 vs = wipe σ vs ∧ tYes σ2 H2 fun b H3 =>
        if b = true then te σ2 H3 fun y H4 => ∃ acc, H4 D = some (.lst acc) ∧ acc.length < sizeLine ∧ Nx (upd H4 D (.lst (acc ++ [y]))) else Nx H3) := by
  intro D hD
  have dp : D ≠ pot := fun z => p1.ne (by rw [← z]; exact hD)
  have hM : D ∉ [pot] := fun z => dp (List.mem_singleton.mp z)
  refine lc_it w (fun i H => ∃ C acc, Nx [pot] C1 H1 C H ∧ Pot C H pot ∧ C D = none ∧ H D = some (.lst acc) ∧ acc.length = i ∧ ∀ j v, acc[j]? = some v → S j v C) ⟨C1, [], (Nx.rfl s1).tmp hD, p1.upd dp, same_none s1 hD, upd_same, rfl, fun j v e => by simp at e⟩ (fun i H hi p => ?_) (fun i x H H' hi p y => ?_) (fun H p => ?_)
  · obtain ⟨C, acc, nx, _⟩ := p
    exact hG C H nx
  · obtain ⟨C, acc, nx, pp, cD, hDl, rl, ra⟩ := p
    refine hs i x C H H' _ hi nx pp y (fun y C4 H4 n4 p4 sy => ?_)
    have c4 : C4 D = none := n4.fr D cD (by rw [hDl]; simp) (fun xs => by rw [hDl]; simp)
    have h4 := n4.hh D _ hM hDl
    refine ⟨acc, h4, by omega, C4, acc ++ [y], (nx.trans n4).mut c4 hD, p4.upd dp, c4, upd_same, by simp [rl], fun j v e => ?_⟩
    rcases Nat.lt_trichotomy j i with h | h | h
    · rw [List.getElem?_append_left (by omega)] at e
      exact hS _ _ _ _ n4.cc (ra j v e)
    · subst h
      rw [List.getElem?_append_right (by omega)] at e
      simp [rl] at e
      subst e
      exact sy
    · rw [List.getElem?_eq_none (by simp; omega)] at e
      cases e
  · obtain ⟨C, acc, nx, pp, cD, hDl, rl, ra⟩ := p
    exact hd D acc C H nx pp cD hD hDl rl ra
theorem acc_ex {α : Type} {g : α → V} {p : α → Prop} : ∀ {acc : List V}, (∀ v ∈ acc, ∃ x, v = g x ∧ p x) → ∃ xs : List α, acc = xs.map g ∧ ∀ x ∈ xs, p x
  | [], _ => ⟨[], rfl, fun x h => nomatch h⟩
  | v :: r, h => by
    obtain ⟨x, e, hx⟩ := h v (List.mem_cons_self ..)
    obtain ⟨xs, e2, h2⟩ := acc_ex (acc := r) fun v hv => h v (List.mem_cons_of_mem _ hv)
    exact ⟨x :: xs, by rw [e, e2]; rfl, fun y hy => by
      rcases List.mem_cons.mp hy with rfl | hy
      · exact hx
      · exact h2 y hy⟩
theorem sign_at {L : List Nat} {n : Nat} {r : Int} {p : Nat → Prop} (hl : L.length = n) (h0 : 0 ≤ r) (h1 : r < (n : Int)) (hp : ∀ c ∈ L, p c) : ∃ c, atI L r = some c ∧ p c := by
  have hi : r.toNat < L.length := by omega
  refine ⟨L[r.toNat], ?_, hp _ (List.getElem_mem hi)⟩
  unfold atI ixN
  rw [if_pos h0, if_pos (by omega)]
  exact List.getElem?_eq_getElem hi
section
variable {P : Program} {w : World} {K : PySem.W.Frag} {mg : Str → Option Value} {base : Heap}
def sp_law_named (K : PySem.W.Frag) : Sp := GivesP fun vs C pot post => ∃ many : Nat, ∃ t, vs = [.ref pot, .int many, .ref t] ∧ many ≤ 80 ∧ C t = some (.lst []) ∧ post = fun v C' => ∃ p, ∃ ns : List Str, v = .ref p ∧ C' p = some (.lst (ns.map V.str)) ∧ ns.length = many ∧ ns.Nodup ∧ ∀ x ∈ ns, NameOk x
theorem c_law_named (T : Txt K mg) : C8.Cal P w K mg base 3 "_law_named" (sp_law_named K) [] := by
  refine mkCal (N := ["_law_pot_here", "_law_many", "_law_taken", "_law_found", "_law_k", "_law_size", "_law_label", "_law_spare", "_law_turn", "_law_near_here"]) (ps := ["_law_pot_here", "_law_many", "_law_taken"]) T.d_law_named T.g_law_named (fun _ _ _ _ _ _ us hl => match us, hl with | [_, _, _], _ => rfl) (by decide +kernel) (fun vs H Q E h => ?_) (fun cdv A outer s H vs Q E hr h => ?_)
  · obtain ⟨C, pot, post, sc, hpot, ⟨many, t, rfl, hm, ht, rfl⟩, q⟩ := h; rfl
  · obtain ⟨C, pot, post, sc, hpot, ⟨many, t, rfl, hm, ht, rfl⟩, q⟩ := h
    have nd : (["_law_pot_here", "_law_many", "_law_taken", "_law_found", "_law_k", "_law_size", "_law_label", "_law_spare", "_law_turn", "_law_near_here"] : List Str).Nodup := by decide +kernel
    refine ⟨_, (pss_cons (ps_set (i := 3) nd rfl (Or.inr rfl) (pe_lst pa_nil))
      (pss_cons (ps_for PassesOwn.never rfl (pi_range1 (by rfl) T.f_range (pa_cons (pv 1) pa_nil)) (pg_name (i := 4) nd rfl (Or.inl rfl)) (pss_cons (ps_set (i := 5) nd rfl (Or.inl rfl) (C8.pe_c (c_law_draw T) hr (by decide) (by rfl) (pa_cons (pv 0) (pa_cons pe_int pa_nil))))
      (pss_cons (ps_set (i := 6) nd rfl (Or.inr rfl) (pe_ix ix_str pe_str (C8.pe_c (c_law_draw T) hr (by decide) (by rfl) (pa_cons (pv 0) (pa_cons pe_int pa_nil))) (fun _ _ => rfl)))
      (pss_cons (ps_set (i := 6) nd rfl (Or.inr rfl) (pe_op op_add_str (pv 6) (pe_join pe_str (pe_lc (own := [("_law_turn", 8)]) (by rfl) nd (pi_range1 (by rfl) T.f_range (pa_cons (pv 5) pa_nil)) (blkOk_by (own := [("_law_turn", 8)]) (N := ["_law_pot_here", "_law_many", "_law_taken", "_law_found", "_law_k", "_law_size", "_law_label", "_law_spare", "_law_turn", "_law_near_here"]) (sc := C8.fnScope s_law_named) (by decide +kernel)) (fun _ _ _ _ _ => (pg_name (i := 8) nd rfl (Or.inl rfl))) (fun _ _ _ _ _ => pts_nil) (fun _ _ _ _ _ => (pe_ix ix_str pe_str (C8.pe_c (c_law_draw T) hr (by decide) (by rfl) (pa_cons (pv 0) (pa_cons pe_int pa_nil))) (fun _ _ => rfl)))))))
      (pss_cons (ps_set (i := 7) nd rfl (Or.inl rfl) (pe_op op_cat (pe_lst (pa_cons (pv 6) pa_nil)) (pe_lc (own := [("_law_turn", 8)]) (by rfl) nd (pi_range2 (by rfl) T.f_range (pa_cons pe_int (pa_cons pe_int pa_nil))) (blkOk_by (own := [("_law_turn", 8)]) (N := ["_law_pot_here", "_law_many", "_law_taken", "_law_found", "_law_k", "_law_size", "_law_label", "_law_spare", "_law_turn", "_law_near_here"]) (sc := C8.fnScope s_law_named) (by decide +kernel)) (fun _ _ _ _ _ => (pg_name (i := 8) nd rfl (Or.inl rfl))) (fun _ _ _ _ _ => pts_nil) (fun _ _ _ _ _ => (pe_op op_add_str (pv 6) (pe_callTy call_str_int (by rfl) T.f_str b_str (pa_cons (pv 8) pa_nil)))))))
      (pss_one (ps_expr (pe_bm PySem.F.plainAttrs_list PySem.F.slot_list_append PySem.F.type_list_append mt_append (pv 3) (pa_cons (pe_ix ix_list (pe_lc (own := [("_law_near_here", 9)]) (by rfl) nd (pi_list (pv 7)) (blkOk_by (own := [("_law_near_here", 9)]) (N := ["_law_pot_here", "_law_many", "_law_taken", "_law_found", "_law_k", "_law_size", "_law_label", "_law_spare", "_law_turn", "_law_near_here"]) (sc := C8.fnScope s_law_named) (by decide +kernel)) (fun _ _ _ _ _ => (pg_name (i := 9) nd rfl (Or.inl rfl))) (fun _ _ _ _ _ => (pts_one (PW.pt (pw_and (pt_cmpR (op_notInK (K := K) rfl) (pv 9) (pv 3) (by rfl)) (pw_and1 (pt_cmpR (op_notInK (K := K) rfl) (pv 9) (pv 2) (by rfl))))))) (fun _ _ _ _ _ => (pv 9))) pe_int (fun _ _ => rfl)) pa_nil)))))))))
      (pss_one (ps_ret (pv 3))))), ?_⟩
    have pne : ∀ {p : Addr}, H p = none → p ∉ [pot] := fun {p} hp z => by
      cases List.mem_singleton.mp z
      obtain ⟨_, a, b, _, _, h⟩ := hpot
      rw [h] at hp; cases hp
    refine ⟨sz0, fun F hF => ⟨_, rfl, _, rfl, by omega, by omega, ?_⟩⟩
    have dF : Dt C (upd H F (.lst [])) F (.lst (([] : List Str).map V.str)) := .make sc hF
    have nF : Nx [pot] C H C (upd H F (.lst [])) := .tmp0 sc hF
    have pF : Pot C (upd H F (.lst [])) pot := hpot.on (.tmp0 sc hF)
    refine for_it walk_range (fun i σ' H' => ∃ z1 z2 z3 z4 C', ∃ ns : List Str, σ' = [some (.ref pot), some (.int many), some (.ref t), some (.ref F), z1, z2, z3, z4, none, none] ∧ Nx [pot] C H C' H' ∧ Pot C' H' pot ∧ Dt C' H' F (.lst (ns.map V.str)) ∧ ns.length = i ∧ ns.Nodup ∧ ∀ x ∈ ns, NameOk x) ⟨_, _, _, _, C, [], rfl, nF, pF, dF, rfl, List.nodup_nil, fun x h => nomatch h⟩ (fun i σ' H' _ _ => trivial) (fun i x σ' H1 H2 hi ⟨z1, z2, z3, z4, C1, ns, es, n1, p1, d1, nl, ndA, nok⟩ y => ?_) (fun σ' H1 ⟨z1, z2, z3, z4, C1, ns, es, n1, p1, d1, nl, ndA, nok⟩ => ?_)
    · obtain ⟨rfl, rfl⟩ := y
      subst es
      have hi' : i < many := by omega
      refine ⟨_, rfl, C1, pot, _, n1.ch, p1, ⟨_, rfl, by decide, by decide, rfl⟩, fun v C2 H2 a2 p2 ⟨size, ev, s0, s3⟩ => ?_⟩
      subst ev
      have n2 := n1.trans a2
      have d2 := d1.on a2 (pne hF)
      refine ⟨_, rfl, C2, pot, _, n2.ch, p2, ⟨_, rfl, by decide, by decide, rfl⟩, fun v C3 H3 a3 p3 ⟨r, ev, r0, r1⟩ => ?_⟩
      subst ev
      have n3 := n2.trans a3
      have d3 := d2.on a3 (pne hF)
      obtain ⟨c, ec, hc⟩ : ∃ c, atI (chs "abcdefghijklmnopqrstuvwxyz") r = some c ∧ c ∈ letters := sign_at (n := 26) (by decide) r0 (by exact r1) fun c hc => hc
      refine ⟨_, _, _, rfl, rfl, szK (by decide), ec, ?_⟩
      refine ⟨_, rfl, ⟨_, rfl⟩, _, rfl, _, rfl, by omega, by omega, ?_⟩
      refine lcP walk_range (fun _ v _ => ∃ c, v = .str ⟨#[c]⟩ ∧ Sgn c) n3.ch p3 (szK (by omega)) (fun _ _ _ => trivial) (fun _ _ _ _ _ h => h) (fun j x C4 H4 H5 Z hj n4 p4 y k => ?_) (fun L acc C4 H4 n4 p4 cL hL hacc lacc sacc => ?_)
      · obtain ⟨rfl, rfl⟩ := y
        refine ⟨rfl, _, rfl, C4, pot, _, n4.ch, p4, ⟨_, rfl, by decide, by decide, rfl⟩, fun v C6 H6 a6 p6 ⟨r2, ev, r20, r21⟩ => ?_⟩
        subst ev
        obtain ⟨c2, ec2, hc2⟩ : ∃ c, atI (chs "abcdefghijkmnopqrtuvx01289") r2 = some c ∧ Sgn c := sign_at (n := 26) (by decide) r20 (by exact r21) (by unfold Sgn; decide)
        exact ⟨_, _, _, rfl, rfl, szK (by decide), ec2, k _ _ _ a6 p6 ⟨_, rfl, hc2⟩⟩
      obtain ⟨cs, ecs, hcs⟩ := acc_ex (g := V.str) (p := fun x => ∃ c, x = ⟨#[c]⟩ ∧ Sgn c) (acc := acc) fun v hv => by
        obtain ⟨i, hi⟩ := List.mem_iff_getElem?.mp hv
        obtain ⟨c, e, hc⟩ := sacc i v hi
        exact ⟨_, e, c, rfl, hc⟩
      subst ecs
      rw [List.length_map] at lacc
      refine ⟨_, _, cs, rfl, rfl, .inl (.of hacc), ?_, _, _, rfl, rfl, szK ?_, ?_⟩
      · rw [sum_ones hcs, lacc]
        show size.toNat + size.toNat * 0 ≤ _
        omega
      · obtain ⟨h1, h2⟩ := join_one cs hcs
        rw [len_chs (Txt.join _ cs), show chs (Txt.join (Str.ofString "") cs) = chs (Txt.join "" cs) from rfl, h1, lacc]
        show 1 + size.toNat ≤ _
        omega
      obtain ⟨x, ex⟩ : ∃ x : Str, x = (⟨#[c]⟩ : Str) ++ Txt.join "" cs := ⟨_, rfl⟩
      have hx : Lbl x := by
        obtain ⟨h1, h2⟩ := join_one cs hcs
        have e0 : chs x = c :: chs (Txt.join "" cs) := by rw [ex, chs_app]; rfl
        refine ⟨by rw [e0, List.length_cons, h1, lacc]; omega, ⟨c, _, e0, hc⟩, fun d hd => ?_⟩
        rw [e0] at hd
        rcases List.mem_cons.mp hd with rfl | hd
        · exact .inl hc
        · exact h2 d hd
      rw [show Txt.join (Str.ofString "") cs = Txt.join "" cs from rfl, ← ex]
      clear sacc hacc
      have n5 := n3.trans n4
      have d5 := d3.on n4 (pne hF)
      refine ⟨_, rfl, sz1, fun p hp => ⟨_, _, rfl, ⟨by decide, by decide, by decide, by decide⟩, ?_⟩⟩
      have n6 : Nx [] C4 H4 C4 (upd H4 p (.lst [.str x])) := .tmp0 n4.ch hp
      refine lcMap (M := []) walk_range (fun j v _ => v = .str (x ++ numS j)) n6.ch (fun _ h => nomatch h) (szK (by decide)) (fun _ _ _ => trivial) (fun _ _ _ _ _ h => h) (fun j v C5 H5 H6 Z hj a5 y k => ?_) (fun L2 acc C5 H6 a5 cL2 hL2 hacc lacc2 sacc => ?_)
      · obtain ⟨rfl, rfl⟩ := y
        refine ⟨rfl, _, rfl, _, rfl, _, rfl, ?_, _, _, rfl, rfl, szK ?_, k _ _ _ (.rfl a5.ch) rfl⟩
        · have h90 : j < 90 := by omega
          have : ((10 : Int) + (j : Int)).natAbs < 2 ^ 7 := by omega
          have h2 : ((10 : Int) + (j : Int)).natAbs.log2 < 7 := (Nat.log2_lt (by omega)).mpr this
          exact Nat.lt_trans h2 (by decide)
        · have h90 : j < 90 := by omega
          have := (numS_ok j h90).1
          have := hx.len
          show x.length + (numS j).length ≤ 100000
          rw [len_chs, len_chs]
          omega
      rw [show (100 - 10 : Int).toNat = 90 from rfl] at lacc2
      have eacc : acc = ((List.range 90).map fun i => x ++ numS i).map V.str := by
        refine List.ext_getElem? fun j => ?_
        by_cases hj : j < 90
        · rw [List.getElem?_eq_getElem (by omega), List.map_map, List.getElem?_map, List.getElem?_range hj]
          have := sacc j _ (List.getElem?_eq_getElem (by omega))
          rw [this]; rfl
        · rw [List.getElem?_eq_none (by omega), List.getElem?_eq_none (by simp; omega)]
      subst eacc
      have n7 := n5.trans (n6.trans a5).pure
      have hp6 : H6 p = some (.lst [.str x]) := a5.hh p _ (fun h => nomatch h) upd_same
      have hL6 : Same C5 H6 := a5.ch
      refine ⟨_, _, _, _, rfl, rfl, hp6, hacc, szK (by simp), fun p2 hp2 => ?_⟩
      have e8 : [V.str x] ++ ((List.range 90).map fun i => x ++ numS i).map V.str = (spare x).map V.str := rfl
      rw [e8]
      have n8 : Nx [pot] C4 H4 C5 (upd H6 p2 (.lst ((spare x).map V.str))) := ((n6.trans a5).tmp hp2).pure
      have d8 := d5.on ((n6.trans a5).tmp (o := .lst ((spare x).map V.str)) hp2)
      have p8 := p4.on ((n6.trans a5).tmp (o := .lst ((spare x).map V.str)) hp2)
      have ds : Dt C5 (upd H6 p2 (.lst ((spare x).map V.str))) p2 (.lst ((spare x).map V.str)) := .make a5.ch hp2
      have n9 := n5.trans n8
      refine ⟨_, rfl, .inl ⟨rfl, _, .of d8.at_⟩, _, rfl, p2, rfl, ⟨_, .of ds.at_⟩, ?_⟩
      intro D hD
      refine lcN (M := []) walk_list (fun i acc _ => acc = (((spare x).take i).filter fun y => decide (y ∉ ns)).map V.str) n8.ch hD (fun h => nomatch h) (szK (by simp [spare])) rfl (fun i acc C r => by rw [r, List.length_map]; exact Nat.le_trans (List.length_filter_le _ _) (by rw [List.length_take]; omega)) (fun C H a => .of (ds.on a).at_) (fun i v acc C9 H9 H10 Z Z0 hi9 a9 r9 yy k k0 => ?_) (fun acc C9 H9 a9 r9 c9 h9 => ?_)
      · obtain ⟨rfl, hv⟩ := yy
        rw [List.getElem?_map] at hv
        obtain ⟨y, hy, rfl⟩ := Option.map_eq_some_iff.mp hv
        have tk : (spare x).take (i + 1) = (spare x).take i ++ [y] := by rw [List.take_add_one, hy]; rfl
        have ht9 : H10 t = some (.lst []) := (n9.trans a9.pure).ch _ _ ((n9.trans a9.pure).cc _ _ ht)
        refine ⟨rfl, _, rfl, _, rfl, F, _, rfl, .inl (.of (d8.on a9).at_), rfl, flat_strs _, _, rfl, ?_⟩
        by_cases hin : y ∈ ns
        · exact iteC (by show (!inV _ _) = false; rw [inV_strs, decide_eq_true hin]; rfl) (iteF (k0 _ _ (.rfl a9.ch) (by rw [r9, tk, List.filter_append]; simp [hin])))
        · exact iteB (by show (!inV _ _) = true; rw [inV_strs, decide_eq_false hin]; rfl) ⟨_, rfl, _, rfl, t, _, rfl, .inl (.of ht9), rfl, rfl, _, rfl, iteT ⟨_, rfl, k _ _ _ (.rfl a9.ch) (by rw [r9, tk, List.filter_append]; simp [hin])⟩⟩
      · rw [List.length_map, List.take_length] at r9
        obtain ⟨y0, hy0, hn0⟩ := spare_free (x := x) (ns := ns) (by omega)
        obtain ⟨y, r, er⟩ : ∃ y r, ((spare x).filter fun y => decide (y ∉ ns)) = y :: r := by
          cases hf : ((spare x).filter fun y => decide (y ∉ ns)) with
          | nil =>
            have : y0 ∈ ((spare x).filter fun y => decide (y ∉ ns)) := List.mem_filter.mpr ⟨hy0, by simp [hn0]⟩
            rw [hf] at this; cases this
          | cons y r => exact ⟨y, r, rfl⟩
        have hy : y ∈ spare x ∧ y ∉ ns := by
          have : y ∈ ((spare x).filter fun y => decide (y ∉ ns)) := by rw [er]; exact List.mem_cons_self ..
          obtain ⟨h1, h2⟩ := List.mem_filter.mp this
          exact ⟨h1, by simpa using h2⟩
        rw [er] at r9
        subst r9
        have d10 := d8.on a9
        refine ⟨D, _, 0, .str y, rfl, rfl, .of h9, atI_zero, F, _, _, rfl, rfl, d10.at_, szL (by rw [List.length_map]; omega), ?_⟩
        have n10 := n9.trans a9.pure
        refine ⟨_, _, _, _, C9, ns ++ [y], rfl, n10.put d10 hF, (p8.on a9).upd (fun z => pne hF (List.mem_singleton.mpr z)), by rw [List.map_append]; exact d10.put, by simp [nl], ?_, fun z hz => ?_⟩
        · rw [List.nodup_append]
          exact ⟨ndA, by simp, fun u hu v hv e => hy.2 (by rw [← List.mem_singleton.mp hv, ← e]; exact hu)⟩
        · rcases List.mem_append.mp hz with hz | hz
          · exact nok z hz
          · cases List.mem_singleton.mp hz; exact spare_ok hx _ hy.1
    · subst es
      refine ⟨_, rfl, ?_⟩
      have := n1.keep d1.at_ hF
      obtain ⟨pc, pa, pb, h0, h1, h2⟩ := p1
      exact q _ _ _ this ⟨by rw [upd_ne (fun z => pne hF (List.mem_singleton.mpr z.symm))]; exact pc, pa, pb, h0, h1, h2⟩ ⟨F, ns, rfl, upd_same, by omega, ndA, nok⟩
end
end AbW

/-! ## Wj -/
set_option Elab.async false
set_option linter.all false
set_option maxRecDepth 100000
set_option maxHeartbeats 4000000
/-! Wj: the law's models -/
namespace AbW
open PySem PySem.Spec PyProof.Rows L2 AbH AbR Ab
structure ModelAt (C : Hp) (a : Addr) (m : NetD) : Prop where
  ok : m.Ok
  ex : ∃ dh dl, ∃ L : List PT, C a = some (.dK [(.inr "heights", .ref dh), (.inr "pairs", .ref dl)]) ∧ C dh = some (.dK (hsK m.hs)) ∧ C dl = some (.lst (L.map fun p => V.ref p.1)) ∧ L.map (·.2) = m.es ∧ ∀ p ∈ L, C p.1 = some (.tup [.str p.2.1, .str p.2.2])
theorem ModelAt.same {C C' : Hp} {a : Addr} {m : NetD} (h : ModelAt C a m) (s : Same C C') : ModelAt C' a m := by
  obtain ⟨dh, dl, L, h1, h2, h3, h4, h5⟩ := h.ex
  exact ⟨h.ok, dh, dl, L, s _ _ h1, s _ _ h2, s _ _ h3, h4, fun p hp => s _ _ (h5 p hp)⟩
/-- a statement's test: told once -/
theorem cutI {tt : TT} {ta tb : TS} {D : Ends} {σ : L2.St} {H : Hp} (R : Bool → Hp → Prop) (h : ∀ Q' : Bool → Hp → Prop, (∀ b H', R b H' → Q' b H') → tt σ H Q') (k : ∀ b H', R b H' → if b = true then ta D σ H' else tb D σ H') : tIfS tt ta tb D σ H := h _ k
/-- the pairs drawn so far -/
structure Prs (hs : List (Str × Int)) (ls : List Str) (C : Hp) (L : List PT) : Prop where
  nd : (L.map (·.2)).Nodup
  ins : ∀ p ∈ L, p.2.1 ∈ ls ∧ p.2.2 ∈ ls
  lt : ∀ p ∈ L, ltSI ((⟨hs, []⟩ : NetD).lev p.2.1) p.2.1 ((⟨hs, []⟩ : NetD).lev p.2.2) p.2.2 = true
  tup : ∀ p ∈ L, C p.1 = some (.tup [.str p.2.1, .str p.2.2])
theorem Prs.same {hs : List (Str × Int)} {ls : List Str} {C C' : Hp} {L : List PT} (h : Prs hs ls C L) (s : Same C C') : Prs hs ls C' L := ⟨h.nd, h.ins, h.lt, fun p hp => s _ _ (h.tup p hp)⟩
theorem Prs.more {hs : List (Str × Int)} {ls ls' : List Str} {C : Hp} {L : List PT} (h : Prs hs ls C L) (s : ∀ x ∈ ls, x ∈ ls') : Prs hs ls' C L := ⟨h.nd, fun p hp => ⟨s _ (h.ins p hp).1, s _ (h.ins p hp).2⟩, h.lt, h.tup⟩
theorem valV_out {k : Key} : ∀ {kvs : List (Key × V)}, k ∉ kvs.map (·.1) → valV kvs k = none
  | [], _ => rfl
  | p :: r, h => by
    rw [List.map_cons, List.mem_cons, not_or] at h
    rw [valV_neg (fun e => h.1 e.symm)]
    exact valV_out h.2
theorem merge_new : ∀ {more kvs : List (Key × V)}, ((kvs ++ more).map (·.1)).Nodup → mergeK kvs more = kvs ++ more
  | [], kvs, _ => by rw [List.append_nil]; rfl
  | kv :: r, kvs, h => by
    have hk : kv.1 ∉ kvs.map (·.1) := fun z => by
      rw [List.map_append, List.nodup_append] at h
      exact h.2.2 _ z _ (List.mem_map.mpr ⟨kv, List.mem_cons_self .., rfl⟩) rfl
    have e : mergeK kvs (kv :: r) = mergeK (putK kvs kv.1 kv.2) r := rfl
    rw [e, putK_new _ (valV_out hk), merge_new (by rw [List.append_assoc]; exact h), List.append_assoc]
    rfl
theorem chs_inj {x y : Str} (h : chs x = chs y) : x = y := by
  cases x; cases y
  exact congrArg Str.mk (Array.toList_inj.mp h)
theorem ltSI_or {i j : Int} {x y : Str} (h : x ≠ y) : ltSI i x j y = true ∨ ltSI j y i x = true := by
  unfold ltSI
  by_cases e : i = j
  · subst e
    rw [if_pos rfl, if_pos rfl, decide_eq_true_eq, decide_eq_true_eq]
    rcases Classical.em (chs x < chs y) with h1 | h1
    · exact .inl h1
    · rcases List.le_iff_lt_or_eq.mp (List.not_lt.mp h1) with h2 | h2
      · exact .inr h2
      · exact absurd (chs_inj h2).symm h
  · rw [if_neg e, if_neg (fun z => e z.symm), decide_eq_true_eq, decide_eq_true_eq]
    omega
theorem told_lt {m : NetD} {x y : Str} (h : x ≠ y) : ltSI (m.lev (told m x y).1) (told m x y).1 (m.lev (told m x y).2) (told m x y).2 = true := by
  unfold told
  by_cases c : ltSI (m.lev x) x (m.lev y) y = true
  · rw [if_pos c]; exact c
  · rw [if_neg c]; exact (ltSI_or h).resolve_left c
theorem told_or (m : NetD) (x y : Str) : told m x y = (x, y) ∨ told m x y = (y, x) := by
  unfold told
  by_cases c : ltSI (m.lev x) x (m.lev y) y = true
  · rw [if_pos c]; exact .inl rfl
  · rw [if_neg c]; exact .inr rfl
theorem Prs.add {hs : List (Str × Int)} {ls : List Str} {C : Hp} {L : List PT} {p : Addr} {x y : Str} (h : Prs hs ls C L) (hx : x ∈ ls) (hy : y ∈ ls) (ne : x ≠ y) (hn : told ⟨hs, []⟩ x y ∉ L.map (·.2)) (hp : C p = some (.tup [.str (told ⟨hs, []⟩ x y).1, .str (told ⟨hs, []⟩ x y).2])) : Prs hs ls C (L ++ [(p, told ⟨hs, []⟩ x y)]) := by
  refine ⟨?_, fun q hq => ?_, fun q hq => ?_, fun q hq => ?_⟩
  · rw [List.map_append, List.nodup_append]
    exact ⟨h.nd, by simp, fun a ha b hb e => by
      have e2 : b = told ⟨hs, []⟩ x y := List.mem_singleton.mp hb
      exact hn (by rw [← e2, ← e]; exact ha)⟩
  all_goals rcases List.mem_append.mp hq with hq | hq
  · exact h.ins q hq
  · cases List.mem_singleton.mp hq
    rcases told_or ⟨hs, []⟩ x y with e | e <;> rw [e]
    · exact ⟨hx, hy⟩
    · exact ⟨hy, hx⟩
  · exact h.lt q hq
  · cases List.mem_singleton.mp hq; exact told_lt ne
  · exact h.tup q hq
  · cases List.mem_singleton.mp hq; exact hp
theorem acc_rows {C : Hp} : ∀ {acc : List V} {ls : List Str}, acc.length = ls.length → (∀ (i : Nat) (v : V), acc[i]? = some v → ∃ p h, v = .ref p ∧ (0 : Int) ≤ h ∧ h ≤ 5 ∧ C p = some (.tup [.str (ls.getD i ""), .int h])) →
    ∃ (ps : List Addr) (hs : List (Str × Int)), acc = ps.map V.ref ∧ hs.map (·.1) = ls ∧ (∀ q ∈ hs, 0 ≤ q.2 ∧ q.2 ≤ 5) ∧ Paired (fun p (kv : Key × V) => C p = some (.tup [kV kv.1, kv.2])) ps (hsK hs)
  | [], [], _, _ => ⟨[], [], rfl, rfl, (fun q h => by cases h), .nil⟩
  | [], _ :: _, h, _ => by simp at h
  | _ :: _, [], h, _ => by simp at h
  | v :: acc, x :: ls, hl, h => by
    obtain ⟨p, i, e, h0, h5, hp⟩ := h 0 v rfl
    obtain ⟨ps, hs, e1, e2, e3, e4⟩ := acc_rows (acc := acc) (ls := ls) (by simpa using hl) fun i v hv => by
      have := h (i + 1) v (by simpa using hv)
      simpa using this
    exact ⟨p :: ps, (x, i) :: hs, by rw [e, e1]; rfl, by rw [List.map_cons, e2], fun q hq => by
      rcases List.mem_cons.mp hq with rfl | hq
      · exact ⟨h0, h5⟩
      · exact e3 q hq, .cons (show C p = some (.tup [.str x, .int i]) by simpa using hp) e4⟩
theorem any_pair (x : Str × Str) (xs : List (Str × Str)) : ((xs.map dPair).any fun z => PyData.eqv z (dPair x)) = decide (x ∈ xs) := by
  rw [List.any_map, Bool.eq_iff_iff, List.any_eq_true, decide_eq_true_eq]
  constructor
  · rintro ⟨y, hy, e⟩
    have e2 : decide (y = x) = true := by rw [← eqv_pair]; exact e
    rw [← of_decide_eq_true e2]; exact hy
  · exact fun h => ⟨x, h, by show PyData.eqv (dPair x) (dPair x) = true; rw [eqv_pair]; simp⟩
section
variable {P : Program} {w : World} {K : PySem.W.Frag} {mg : Str → Option Value} {base : Heap}
def sp_law_model (K : PySem.W.Frag) : Sp := GivesP fun vs C pot post => vs = [.ref pot, .int 5, .int 5] ∧ post = fun v C' => ∃ a m, v = .ref a ∧ ModelAt C' a m
theorem c_law_model (T : Txt K mg) : C8.Cal P w K mg base 4 "_law_model" (sp_law_model K) [] := by
  refine mkCal (N := ["_law_pot_here", "_law_many", "_law_most", "_law_labels", "_law_heights", "_law_pairs", "_law_way", "_law_k", "_law_before", "_law_turn", "_law_this", "_law_mate", "_law_label"]) (ps := ["_law_pot_here", "_law_many", "_law_most"]) T.d_law_model T.g_law_model (fun _ _ _ _ _ _ us hl => match us, hl with | [_, _, _], _ => rfl) (by decide +kernel) (fun vs H Q E h => ?_) (fun cdv A outer s H vs Q E hr h => ?_)
  · obtain ⟨C, pot, post, sc, hpot, ⟨rfl, rfl⟩, q⟩ := h; rfl
  · obtain ⟨C, pot, post, sc, hpot, ⟨rfl, rfl⟩, q⟩ := h
    have nd : (["_law_pot_here", "_law_many", "_law_most", "_law_labels", "_law_heights", "_law_pairs", "_law_way", "_law_k", "_law_before", "_law_turn", "_law_this", "_law_mate", "_law_label"] : List Str).Nodup := by decide +kernel
    refine ⟨_, (pss_cons (ps_set (i := 3) nd rfl (Or.inl rfl) (C8.pe_c (c_law_named T) hr (by decide) (by rfl) (pa_cons (pv 0) (pa_cons (pe_op op_add pe_int (C8.pe_c (c_law_draw T) hr (by decide) (by rfl) (pa_cons (pv 0) (pa_cons (pv 1) pa_nil)))) (pa_cons (pe_lst pa_nil) pa_nil)))))
      (pss_cons (ps_par (i := 4) (j := 5) (by rfl) nd rfl rfl (by decide) rfl rfl (pa_cons (pe_callTy (call_dictP rfl) (by rfl) T.f_dict b_dict (pa_cons (pe_lc (own := [("_law_label", 12)]) (by rfl) nd (pi_list (pv 3)) (blkOk_by (own := [("_law_label", 12)]) (N := ["_law_pot_here", "_law_many", "_law_most", "_law_labels", "_law_heights", "_law_pairs", "_law_way", "_law_k", "_law_before", "_law_turn", "_law_this", "_law_mate", "_law_label"]) (sc := C8.fnScope s_law_model) (by decide +kernel)) (fun _ _ _ _ _ => (pg_name (i := 12) nd rfl (Or.inl rfl))) (fun _ _ _ _ _ => pts_nil) (fun _ _ _ _ _ => (pe_tup (pa_cons (pv 12) (pa_cons (C8.pe_c (c_law_draw T) hr (by decide) (by rfl) (pa_cons (pv 0) (pa_cons (pe_op op_add (pv 2) pe_int) pa_nil))) pa_nil))))) pa_nil)) (pa_cons (pe_lst pa_nil) pa_nil)) (by rfl))
      (pss_cons (ps_set (i := 6) nd rfl (Or.inl rfl) (C8.pe_c (c_law_draw T) hr (by decide) (by rfl) (pa_cons (pv 0) (pa_cons pe_int pa_nil))))
      (pss_cons (ps_for PassesOwn.never rfl (pi_range2 (by rfl) T.f_range (pa_cons pe_int (pa_cons (pe_callB call_len_seq (by rfl) T.f_len b_len (pa_cons (pv 3) pa_nil)) pa_nil))) (pg_name (i := 7) nd rfl (Or.inl rfl)) (pss_cons (ps_set (i := 8) nd rfl (Or.inl rfl) (pe_ifExp (pt_cmpR op_lt (pv 6) pe_int (nomark _)) (pe_ix ix_list (pv 3) (pe_op op_sub (pv 7) pe_int) (fun _ _ => rfl)) (pe_ix ix_list (pv 3) (C8.pe_c (c_law_draw T) hr (by decide) (by rfl) (pa_cons (pv 0) (pa_cons (pv 7) pa_nil))) (fun _ _ => rfl))))
      (pss_one (ps_if (PW.pt (pw_or (pt_cmpR op_lt (pv 6) pe_int (nomark _)) (pw_or1 (pt_cmpR op_gt (C8.pe_c (c_law_draw T) hr (by decide) (by rfl) (pa_cons (pv 0) (pa_cons pe_int pa_nil))) pe_int (nomark _))))) (pss_one (ps_expr (pe_bm PySem.F.plainAttrs_list PySem.F.slot_list_append PySem.F.type_list_append mt_append (pv 5) (pa_cons (C8.pe_c (c_law_pair T) hr (by decide) (by rfl) (pa_cons (pv 4) (pa_cons (pv 8) (pa_cons (pe_ix ix_list (pv 3) (pv 7) (fun _ _ => rfl)) pa_nil)))) pa_nil)))) pss_nil))))
      (pss_cons (ps_for PassesOwn.never rfl (pi_range1 (by rfl) T.f_range (pa_cons (C8.pe_c (c_law_draw T) hr (by decide) (by rfl) (pa_cons (pv 0) (pa_cons pe_int pa_nil))) pa_nil)) (pg_name (i := 9) nd rfl (Or.inl rfl)) (pss_cons (ps_par (i := 10) (j := 11) (by rfl) nd rfl rfl (by decide) rfl rfl (pa_cons (C8.pe_c (c_law_pick T) hr (by decide) (by rfl) (pa_cons (pv 0) (pa_cons (pv 3) pa_nil))) (pa_cons (C8.pe_c (c_law_pick T) hr (by decide) (by rfl) (pa_cons (pv 0) (pa_cons (pv 3) pa_nil))) pa_nil)) (by rfl))
      (pss_one (ps_if (PW.pt (pw_and (pt_cmpR op_ne (pv 10) (pv 11) (nomark _)) (pw_and1 (pt_cmpR (op_notInD (units65 hr)) (C8.pe_c (c_law_pair T) hr (by decide) (by rfl) (pa_cons (pv 4) (pa_cons (pv 10) (pa_cons (pv 11) pa_nil)))) (pv 5) (by rfl))))) (pss_one (ps_expr (pe_bm PySem.F.plainAttrs_list PySem.F.slot_list_append PySem.F.type_list_append mt_append (pv 5) (pa_cons (C8.pe_c (c_law_pair T) hr (by decide) (by rfl) (pa_cons (pv 4) (pa_cons (pv 10) (pa_cons (pv 11) pa_nil)))) pa_nil)))) pss_nil))))
      (pss_one (ps_ret (pe_disp (pps_cons pe_str (pv 4) (pps_cons pe_str (pe_callB (cr_sortedTS hr.units) (by rfl) T.f_sorted b_sorted (pa_cons (pv 5) pa_nil)) pps_nil)) (by rfl) (by rfl) (fun z => by cases z) (by decide))))))))), ?_⟩
    have pne : ∀ {p : Addr}, H p = none → p ∉ [pot] := fun {p} hp z => by
      cases List.mem_singleton.mp z
      exact hpot.ne hp
    refine ⟨_, rfl, _, rfl, _, rfl, C, pot, _, sc, hpot, ⟨_, rfl, by decide, by decide, rfl⟩, fun v C1 H1 n1 p1 ⟨r, ev, r0, r1⟩ => ?_⟩
    subst ev
    refine ⟨_, _, rfl, rfl, sz0, fun t ht => ?_⟩
    have n2 : Nx [pot] C H (upd C1 t (.lst [])) (upd H1 t (.lst [])) := n1.new ht
    have a2 : Nx [] C1 H1 (upd C1 t (.lst [])) (upd H1 t (.lst [])) := .new0 n1.ch ht
    refine ⟨_, pot, _, n2.ch, p1.on a2, ⟨(1 + r).toNat, t, by rw [Int.toNat_of_nonneg (by omega)]; rfl, by omega, upd_same, rfl⟩, fun v C3 H3 a3 p3 ⟨ll, ls, ev, hll, lls, ndl, okl⟩ => ?_⟩
    subst ev
    have n3 := n2.trans a3
    have l5 : ls.length ≤ 5 := by omega
    have l1 : 1 ≤ ls.length := by omega
    -- the levels
    refine ⟨_, rfl, ll, rfl, ⟨_, .of (n3.ch _ _ hll)⟩, ?_⟩
    refine lcP walk_list (fun i v C => ∃ p h, v = .ref p ∧ 0 ≤ h ∧ h ≤ 5 ∧ C p = some (.tup [.str (ls.getD i ""), .int h])) n3.ch p3 (szK (by rw [List.length_map]; omega)) (fun C H n => .of (n.ch _ _ (n.cc _ _ hll))) (fun i v C C' s ⟨p, h, e, h0, h5, hp⟩ => ⟨p, h, e, h0, h5, s _ _ hp⟩) (fun i x C4 H4 H5 Z hi a4 p4 y k => ?_) (fun L acc C4 H4 a4 p4 cL hL hacc lacc sacc => ?_)
    · obtain ⟨rfl, hv⟩ := y
      rw [List.getElem?_map] at hv
      obtain ⟨u, hu, rfl⟩ := Option.map_eq_some_iff.mp hv
      refine ⟨rfl, _, rfl, _, rfl, _, rfl, _, _, rfl, rfl, C4, pot, _, a4.ch, p4, ⟨_, rfl, by decide, by decide, rfl⟩, fun v C6 H6 a6 p6 ⟨h, ev, h0, h1⟩ => ?_⟩
      subst ev
      refine ⟨sz2, fun p hp => k _ _ _ (a6.new hp) (p6.on (Nx.new0 a6.ch hp)) ⟨p, h, rfl, h0, by omega, ?_⟩⟩
      rw [List.getD_eq_getElem?_getD, hu]
      exact upd_same
    rw [List.length_map] at lacc
    obtain ⟨ps, hs, ea, hks, hlv, hpp⟩ := acc_rows lacc sacc
    subst ea
    have n4 := n3.trans a4
    have ndh : (hs.map (·.1)).Nodup := by rw [hks]; exact ndl
    have ndK : (((([] : List (Key × V)) ++ hsK hs)).map (·.1)).Nodup := by
      rw [List.nil_append]
      have : (hsK hs).map (·.1) = (hs.map (·.1)).map Sum.inr := by simp [hsK]
      rw [this]
      exact nodup_map (fun a b e => Sum.inr.inj e) ndh
    refine ⟨L, ps, hsK hs, rfl, .of hacc, Paired.mapP hpp fun p kv h => .of (a4.ch _ _ h), fun dh hdh => ?_⟩
    rw [merge_new ndK, List.nil_append]
    have n5 : Nx [pot] C H (upd C4 dh (.dK (hsK hs))) (upd H4 dh (.dK (hsK hs))) := n4.new hdh
    have a5 : Nx [] C4 H4 (upd C4 dh (.dK (hsK hs))) (upd H4 dh (.dK (hsK hs))) := .new0 n4.ch hdh
    have p5 := p4.on a5
    refine ⟨sz0, fun dl hdl => ⟨_, _, rfl, ?_⟩⟩
    have n6 : Nx [pot] C H (upd C4 dh (.dK (hsK hs))) (upd (upd H4 dh (.dK (hsK hs))) dl (.lst [])) := n5.tmp hdl
    have p6 := p5.on (Nx.tmp0 (M := []) (o := .lst []) n5.ch hdl)
    have dl6 : Dt (upd C4 dh (.dK (hsK hs))) (upd (upd H4 dh (.dK (hsK hs))) dl (.lst [])) dl (.lst (([] : List PT).map fun p => V.ref p.1)) := .make n5.ch hdl
    have hlH : H dl = none := n5.back hdl
    refine ⟨_, rfl, _, pot, _, n6.ch, p6, ⟨_, rfl, by decide, by decide, rfl⟩, fun v C7 H7 a7 p7 ⟨way, ev, w0, w1⟩ => ?_⟩
    subst ev
    have n7 := n6.trans a7
    have dl7 := dl6.on a7 (pne hlH)
    have hdh7 : C7 dh = some (.dK (hsK hs)) := a7.cc _ _ upd_same
    have hll7 : C7 ll = some (.lst (ls.map V.str)) := a7.cc _ _ (a5.cc _ _ (a4.cc _ _ hll))
    try dsimp only
    refine cutS (R := fun σ' H' => ∃ z1 z2 C', ∃ L : List PT, σ' = [some (.ref pot), some (.int 5), some (.int 5), some (.ref ll), some (.ref dh), some (.ref dl), some (.int way), z1, z2, none, none, none, none] ∧ Nx [pot] C H C' H' ∧ Same C7 C' ∧ Pot C' H' pot ∧ Dt C' H' dl (.lst (L.map fun p => V.ref p.1)) ∧ Prs hs ls C' L ∧ L.length ≤ 4) (fun Nn kk => ?_) (fun σ' H' ⟨z1, z2, C8, Ls, es, n8, s8, p8, dl8, pr8, len8⟩ => ?_)
    · refine ⟨_, rfl, ll, _, rfl, .inl (.of (n7.ch _ _ hll7)), _, _, rfl, ⟨by decide, by decide, by rw [List.length_map]; omega, by rw [List.length_map]; omega⟩, ?_⟩
      refine for_it walk_range (fun i σ' H' => ∃ z1 z2 C', ∃ L : List PT, σ' = [some (.ref pot), some (.int 5), some (.int 5), some (.ref ll), some (.ref dh), some (.ref dl), some (.int way), z1, z2, none, none, none, none] ∧ Nx [pot] C H C' H' ∧ Same C7 C' ∧ Pot C' H' pot ∧ Dt C' H' dl (.lst (L.map fun p => V.ref p.1)) ∧ Prs hs (ls.take (i + 1)) C' L ∧ L.length ≤ i) ⟨_, _, C7, [], rfl, n7, fun _ _ h => h, p7, dl7, ⟨List.nodup_nil, (fun p h => by cases h), (fun p h => by cases h), (fun p h => by cases h)⟩, Nat.le_refl _⟩ (fun i σ' H' _ _ => trivial) (fun i x σ' H9 H8 hi ⟨z1, z2, C8, Ls, es, n8, s8, p8, dl8, pr8, len8⟩ y => ?_) (fun σ' H8 ⟨z1, z2, C8, Ls, es, n8, s8, p8, dl8, pr8, len8⟩ => ?_)
      · obtain ⟨rfl, rfl⟩ := y
        subst es
        have hi' : i + 1 < ls.length := by rw [List.length_map] at hi; omega
        have hll8 : C8 ll = some (.lst (ls.map V.str)) := s8 _ _ hll7
        have atL : ∀ {j : Int}, 0 ≤ j → j ≤ (i : Int) → ∃ x, atI (ls.map V.str) j = some (.str x) ∧ x ∈ ls.take (i + 1) := fun {j} h0 h1 => by
          have hj : j.toNat < ls.length := by omega
          refine ⟨ls[j.toNat], ?_, ?_⟩
          · unfold atI ixN
            rw [if_pos h0, if_pos (by rw [List.length_map]; omega)]
            show (ls.map V.str)[j.toNat]? = _
            rw [List.getElem?_map, List.getElem?_eq_getElem hj]; rfl
          · rw [List.mem_take_iff_getElem]
            exact ⟨j.toNat, by omega, rfl⟩
        try dsimp only
        refine cutSA (R := fun v H' => ∃ C' x, v = .str x ∧ x ∈ ls.take (i + 1) ∧ Nx [pot] C8 H8 C' H' ∧ Pot C' H' pot) (fun Q' kk2 => ?_) (fun v H9 ⟨C9, x, ev, hx, a9, p9⟩ => ?_)
        · refine ⟨_, rfl, _, _, rfl, rfl, _, rfl, ?_⟩
          by_cases c : way < 2
          · obtain ⟨x, ex, hx⟩ := atL (j := 0 + (i : Int)) (by omega) (by omega)
            refine iteP c ⟨_, rfl, _, rfl, _, _, rfl, rfl, ll, _, _, _, rfl, rfl, .of (n8.ch _ _ hll8), ?_, kk2 _ _ ⟨C8, x, rfl, hx, .rfl n8.ch, p8⟩⟩
            rw [show (1 + (i : Int) - 1) = 0 + (i : Int) by omega]
            exact ex
          · refine iteQ c ⟨_, rfl, _, rfl, _, rfl, C8, pot, _, n8.ch, p8, ⟨_, rfl, by omega, by omega, rfl⟩, fun v C9 H9 a9 p9 ⟨r2, ev, r20, r21⟩ => ?_⟩
            subst ev
            obtain ⟨x, ex, hx⟩ := atL (j := r2) r20 (by omega)
            exact ⟨ll, _, _, _, rfl, rfl, .of ((n8.trans a9).ch _ _ (a9.cc _ _ hll8)), ex, kk2 _ _ ⟨C9, x, rfl, hx, a9, p9⟩⟩
        subst ev
        have dl9 := dl8.on a9 (pne hlH)
        have pr9 := pr8.same a9.cc
        have n9 := n8.trans a9
        show tIfS _ _ _ _ _ _
        refine cutI (R := fun b H' => ∃ C', Nx [pot] C9 H9 C' H' ∧ Pot C' H' pot) (fun Q' kk2 => ?_) (fun b HA ⟨CA, aA, pA⟩ => ?_)
        · refine ⟨_, rfl, _, _, rfl, rfl, _, rfl, ?_⟩
          by_cases c : way < 3
          · exact iteP c (kk2 _ _ ⟨C9, .rfl n9.ch, p9⟩)
          · refine iteQ c ⟨_, rfl, C9, pot, _, n9.ch, p9, ⟨_, rfl, by decide, by decide, rfl⟩, fun v CA HA aA pA ⟨r2, ev, r20, r21⟩ => ?_⟩
            subst ev
            exact ⟨_, _, rfl, rfl, _, rfl, kk2 _ _ ⟨CA, aA, pA⟩⟩
        have tk2 : ls.take (i + 1 + 1) = ls.take (i + 1) ++ [ls[i + 1]] := by rw [List.take_add_one, List.getElem?_eq_getElem hi']; rfl
        have sub2 : ∀ x ∈ ls.take (i + 1), x ∈ ls.take (i + 1 + 1) := fun x hx => by rw [tk2]; exact List.mem_append_left _ hx
        have dlA := dl9.on aA (pne hlH)
        have prA := (pr9.same aA.cc).more sub2
        have nA := n9.trans aA
        have sA : Same C7 CA := s8.trans (a9.cc.trans aA.cc)
        cases b with
        | false => exact iteF ⟨_, _, CA, Ls, rfl, nA, sA, pA, dlA, prA, by omega⟩
        | true =>
          have hdhA : CA dh = some (.dK (hsK hs)) := sA _ _ hdh7
          have hllA : CA ll = some (.lst (ls.map V.str)) := sA _ _ hll7
          have ek : atI (ls.map V.str) (1 + (i : Int)) = some (.str ls[i + 1]) := by
            unfold atI ixN
            rw [if_pos (by omega), if_pos (by rw [List.length_map]; omega)]
            show (ls.map V.str)[(1 + (i : Int)).toNat]? = _
            rw [show (1 + (i : Int)).toNat = i + 1 by omega, List.getElem?_map, List.getElem?_eq_getElem hi']; rfl
          refine iteT ⟨_, rfl, .inl ⟨rfl, _, .of dlA.at_⟩, _, rfl, _, rfl, _, rfl, _, rfl, ll, _, _, _, rfl, rfl, .of (nA.ch _ _ hllA), ek, CA, _, nA.ch, ⟨dh, x, ls[i + 1], hs, rfl, hdhA, ndh, by rw [hks]; exact List.mem_of_mem_take hx, by rw [hks]; exact List.getElem_mem hi', rfl⟩, fun v CB HB aB ⟨p, ev, hp⟩ => ?_⟩
          subst ev
          have dlB := dlA.on aB
          refine ⟨dl, _, _, rfl, rfl, dlB.at_, szL (by rw [List.length_map]; omega), ?_⟩
          have nB := nA.trans aB.pure
          have nin : ls[i + 1] ∉ ls.take (i + 1) := fun z => by
            have := ndl
            rw [← List.take_append_drop (i + 1) ls, List.nodup_append] at this
            exact this.2.2 _ z _ (by rw [List.drop_eq_getElem_cons hi']; exact List.mem_cons_self ..) rfl
          have nx : x ≠ ls[i + 1] := fun z => nin (by rw [← z]; exact hx)
          have nt : told ⟨hs, []⟩ x ls[i + 1] ∉ Ls.map (·.2) := fun z => by
            obtain ⟨q0, hq0, eq0⟩ := List.mem_map.mp z
            have := (pr9.ins q0 hq0)
            rw [eq0] at this
            rcases told_or ⟨hs, []⟩ x ls[i + 1] with e | e <;> rw [e] at this
            · exact nin this.2
            · exact nin this.1
          exact ⟨_, _, CB, Ls ++ [(p, told ⟨hs, []⟩ x ls[i + 1])], rfl, nB.put dlB hlH, sA.trans aB.cc, (pA.on aB).upd (fun z => pne hlH (List.mem_singleton.mpr z)), by rw [List.map_append]; exact dlB.put, (prA.same aB.cc).add (sub2 _ hx) (by rw [tk2]; exact List.mem_append_right _ (List.mem_singleton.mpr rfl)) nx nt hp, by rw [List.length_append, List.length_singleton]; omega⟩
      · rw [List.length_map] at len8
        exact kk _ _ ⟨z1, z2, C8, Ls, es, n8, s8, p8, dl8, pr8.more fun x hx => List.mem_of_mem_take hx, by omega⟩
    · subst es
      try dsimp only
      have hdh8 : C8 dh = some (.dK (hsK hs)) := s8 _ _ hdh7
      have hll8 : C8 ll = some (.lst (ls.map V.str)) := s8 _ _ hll7
      refine cutS (R := fun σ' H' => ∃ z1 z2 z3 z4 z5 C', ∃ L : List PT, σ' = [some (.ref pot), some (.int 5), some (.int 5), some (.ref ll), some (.ref dh), some (.ref dl), some (.int way), z1, z2, z3, z4, z5, none] ∧ Nx [pot] C H C' H' ∧ Same C8 C' ∧ Pot C' H' pot ∧ Dt C' H' dl (.lst (L.map fun p => V.ref p.1)) ∧ Prs hs ls C' L ∧ L.length ≤ 6) (fun Nn kk => ?_) (fun σ' H9 ⟨z1, z2, z3, z4, z5, C9, Ls, es, n9, s9, p9, dl9, pr9, len9⟩ => ?_)
      · refine ⟨_, rfl, C8, pot, _, n8.ch, p8, ⟨_, rfl, by decide, by decide, rfl⟩, fun v CA HA aA pA ⟨r3, ev, r30, r31⟩ => ?_⟩
        subst ev
        refine ⟨_, rfl, by omega, by omega, ?_⟩
        refine for_it walk_range (fun i σ' H' => ∃ z1 z2 z3 z4 z5 C', ∃ L : List PT, σ' = [some (.ref pot), some (.int 5), some (.int 5), some (.ref ll), some (.ref dh), some (.ref dl), some (.int way), z1, z2, z3, z4, z5, none] ∧ Nx [pot] C H C' H' ∧ Same C8 C' ∧ Pot C' H' pot ∧ Dt C' H' dl (.lst (L.map fun p => V.ref p.1)) ∧ Prs hs ls C' L ∧ L.length ≤ 4 + i) ⟨_, _, _, _, _, CA, Ls, rfl, n8.trans aA, aA.cc, pA, dl8.on aA (pne hlH), pr8.same aA.cc, len8⟩ (fun i σ' H' _ _ => trivial) (fun i x σ' H9 HB hi ⟨z1, z2, z3, z4, z5, CB, Ls, es, nB, sB, pB, dlB, prB, lenB⟩ y => ?_) (fun σ' HB ⟨z1, z2, z3, z4, z5, CB, Ls, es, nB, sB, pB, dlB, prB, lenB⟩ => kk _ _ ⟨z1, z2, z3, z4, z5, CB, Ls, es, nB, sB, pB, dlB, prB, by omega⟩)
        obtain ⟨rfl, rfl⟩ := y
        subst es
        have lne : ls.map V.str ≠ [] := fun z => by
          have := congrArg List.length z
          rw [List.length_map] at this
          simp at this
          rw [this] at l1
          simp at l1
        refine ⟨_, rfl, _, rfl, CB, pot, _, nB.ch, pB, ⟨ll, _, rfl, sB _ _ hll8, lne, by rw [List.length_map]; omega, rfl⟩, fun v CD HD aD pD hv => ?_⟩
        obtain ⟨x, hx, rfl⟩ := List.mem_map.mp hv
        refine ⟨_, rfl, _, rfl, CD, pot, _, (nB.trans aD).ch, pD, ⟨ll, _, rfl, aD.cc _ _ (sB _ _ hll8), lne, by rw [List.length_map]; omega, rfl⟩, fun v CE HE aE pE hv => ?_⟩
        obtain ⟨y, hy, rfl⟩ := List.mem_map.mp hv
        refine ⟨_, _, rfl, ?_⟩
        have aE' := aD.trans aE
        have nE := nB.trans aE'
        have sE : Same C8 CE := sB.trans aE'.cc
        have dlE := dlB.on aE' (pne hlH)
        have prE := prB.same aE'.cc
        try dsimp only
        have hdhE : CE dh = some (.dK (hsK hs)) := sE _ _ hdh8
        have hxk : x ∈ hs.map (·.1) := by rw [hks]; exact hx
        have hyk : y ∈ hs.map (·.1) := by rw [hks]; exact hy
        refine cutI (R := fun b H' => ∃ C', Nx [] CE HE C' H' ∧ (b = true → x ≠ y ∧ told ⟨hs, []⟩ x y ∉ Ls.map (·.2))) (fun Q' kk2 => ?_) (fun b HF ⟨CF, aF, hb⟩ => ?_)
        · refine ⟨_, rfl, _, rfl, rfl, _, rfl, ?_⟩
          by_cases c : x = y
          · exact iteC (by subst c; simp) (kk2 _ _ ⟨CE, .rfl nE.ch, fun h => by cases h⟩)
          · refine iteB (by simp [c]) ⟨_, rfl, _, rfl, _, rfl, CE, _, nE.ch, ⟨dh, x, y, hs, rfl, hdhE, ndh, hxk, hyk, rfl⟩, fun v CF HF aF ⟨p, ev, hp⟩ => ?_⟩
            subst ev
            have dlF := dlE.on aF
            have prF := prE.same aF.cc
            obtain ⟨t, et⟩ : ∃ t, t = told ⟨hs, []⟩ x y := ⟨_, rfl⟩
            have tn : NameOk t.1 ∧ NameOk t.2 := by
              rcases told_or ⟨hs, []⟩ x y with e | e <;> rw [et, e]
              · exact ⟨okl _ hx, okl _ hy⟩
              · exact ⟨okl _ hy, okl _ hx⟩
            have ed : (Ls.map fun p => dPair p.2) = (Ls.map (·.2)).map dPair := by rw [List.map_map]; rfl
            rw [← et] at hp kk2
            refine ⟨_, rfl, dPair t, Ls.map fun p => dPair p.2, dp_pair (aF.ch _ _ hp), .lst (.of dlF.at_) (dp_pairs fun p hp => aF.ch _ _ (prF.tup p hp)), shaped_pair tn.1 tn.2, ?_, _, rfl, ?_⟩
            · rw [ed]
              exact shaped_pairs fun e he => by
                obtain ⟨q0, hq0, rfl⟩ := List.mem_map.mp he
                exact ⟨okl _ (prF.ins q0 hq0).1, okl _ (prF.ins q0 hq0).2⟩
            · refine kk2 _ _ ⟨CF, aF, fun h => ⟨c, fun hm => ?_⟩⟩
              rw [ed, any_pair, decide_eq_true hm] at h
              cases h
        · have dlF := dlE.on aF
          have prF := prE.same aF.cc
          have nF := nE.trans aF.pure
          have sF := sE.trans aF.cc
          have pF := pE.on aF
          cases b with
          | false => exact iteF ⟨_, _, _, _, _, CF, Ls, rfl, nF, sF, pF, dlF, prF, by omega⟩
          | true =>
            obtain ⟨nxy, nt⟩ := hb rfl
            refine iteT ⟨_, rfl, .inl ⟨rfl, _, .of dlF.at_⟩, _, rfl, _, rfl, _, rfl, CF, _, nF.ch, ⟨dh, x, y, hs, rfl, sF _ _ hdh8, ndh, hxk, hyk, rfl⟩, fun v CG HG aG ⟨p, ev, hp⟩ => ?_⟩
            subst ev
            have dlG := dlF.on aG
            refine ⟨dl, _, _, rfl, rfl, dlG.at_, szL (by rw [List.length_map]; omega), ?_⟩
            exact ⟨_, _, _, _, _, CG, Ls ++ [(p, told ⟨hs, []⟩ x y)], rfl, (nF.trans aG.pure).put dlG hlH, sF.trans aG.cc, (pF.on aG).upd (fun z => pne hlH (List.mem_singleton.mpr z)), by rw [List.map_append]; exact dlG.put, (prF.same aG.cc).add hx hy nxy nt hp, by rw [List.length_append, List.length_singleton]; omega⟩
      · subst es
        have hdh9 : C9 dh = some (.dK (hsK hs)) := s9 _ _ hdh8
        intro a ha
        have na : Nx [pot] C9 H9 C9 (upd H9 a (.dK [])) := .tmp0 n9.ch ha
        have dla := dl9.on na (pne hlH)
        refine ⟨_, rfl, _, rfl, dl, Ls, rfl, .of dla.at_, fun p hp => .of (na.ch _ _ (pr9.tup p hp)), fun L' e pm he => ?_⟩
        have ane : a ≠ e := fun z => by rw [← z, upd_same] at he; cases he
        refine ⟨by rw [upd_ne ane]; exact upd_same, [(.inr "heights", .ref dh), (.inr "pairs", .ref e)], rfl, (show 2 ≤ 15 by decide), ?_⟩
        have em : mergeK [] [((.inr "heights" : Key), V.ref dh), (.inr "pairs", .ref e)] = [((.inr "heights" : Key), V.ref dh), (.inr "pairs", .ref e)] := by
          rw [merge_new (by rw [List.nil_append, show ([((.inr "heights" : Key), V.ref dh), (.inr "pairs", .ref e)].map (·.1)) = [(.inr "heights" : Key), .inr "pairs"] from rfl]; decide), List.nil_append]
        rw [em]
        have nb := na.new (o := .lst (L'.map fun p => V.ref p.1)) he
        have ca : (upd C9 e (.lst (L'.map fun p => V.ref p.1))) a = none := by rw [upd_ne ane]; exact same_none n9.ch ha
        have nc := (nb.mut (o := .dK [((.inr "heights" : Key), V.ref dh), (.inr "pairs", .ref e)]) ca ha).keep upd_same ha
        have pa : a ≠ pot := fun z => p9.ne (by rw [← z]; exact ha)
        have pe : e ≠ pot := fun z => (p9.upd (D := a) (o := .dK []) pa).ne (by rw [← z]; exact he)
        obtain ⟨pc, i1, i2, h1, h2, h3⟩ := (((p9.upd (o := .dK []) pa).upd (o := .lst (L'.map fun p => V.ref p.1)) pe).upd (o := .dK [((.inr "heights" : Key), V.ref dh), (.inr "pairs", .ref e)]) pa)
        refine q _ _ _ (n9.trans nc) ⟨by rw [upd_ne pa.symm, upd_ne pe.symm]; exact pc, i1, i2, h1, h2, h3⟩ ⟨a, ⟨hs, L'.map (·.2)⟩, rfl, ?_, dh, e, L', upd_same, ?_, ?_, rfl, fun p hp => ?_⟩
        · have hl5 : hs.length = ls.length := by rw [← hks, List.length_map]
          refine ⟨fun z => ?_, ndh, by show hs.length ≤ 5; omega, fun x hx => okl _ (by rw [← hks]; exact hx), fun x => ?_, (pm.map (·.2)).nodup_iff.mpr pr9.nd, by rw [List.length_map, pm.length_eq]; omega, fun e he => ?_, fun e he => ?_⟩
          · have : hs.length = 0 := by rw [show hs = [] from z]; rfl
            omega
          · unfold NetD.lev NetD.lvO
            cases hf : (hs.find? fun p => decide (p.1 = x)) with
            | none => exact ⟨by simp, by simp⟩
            | some p => exact hlv _ (List.mem_of_find?_eq_some hf)
          · obtain ⟨q0, hq0, rfl⟩ := List.mem_map.mp he
            have := pr9.ins q0 (pm.mem_iff.mp hq0)
            rw [← hks] at this
            exact this
          · obtain ⟨q0, hq0, rfl⟩ := List.mem_map.mp he
            exact pr9.lt q0 (pm.mem_iff.mp hq0)
        · exact nc.cc _ _ hdh9
        · rw [upd_ne ane.symm]; exact upd_same
        · exact nc.cc _ _ (pr9.tup p (pm.mem_iff.mp hp))
end
end AbW

/-! ## Wk -/
set_option Elab.async false
set_option linter.all false
set_option maxRecDepth 100000
set_option maxHeartbeats 4000000
/-! Wk: stances, and dicts whose keys are stances -/
namespace AbW
open PySem PySem.Spec PyProof.Rows L2 AbH AbR Ab
/-! ### spots and stances as keys -/
def spNK : Spot → NestedKey
  | .nd x => .text x
  | .inn l u h => .tup [.text l, .text u, .num h]
def stNK (l : List Spot) : NestedKey := .tup (l.map spNK)
theorem spNK_inj : ∀ {a b : Spot}, spNK a = spNK b → a = b
  | .nd _, .nd _, h => by cases h; rfl
  | .nd _, .inn _ _ _, h => by cases h
  | .inn _ _ _, .nd _, h => by cases h
  | .inn _ _ _, .inn _ _ _, h => by cases h; rfl
theorem spNKs_inj : ∀ {a b : List Spot}, a.map spNK = b.map spNK → a = b
  | [], [], _ => rfl
  | [], _ :: _, h => by cases h
  | _ :: _, [], h => by cases h
  | x :: a, y :: b, h => by
    rw [List.map_cons, List.map_cons] at h
    obtain ⟨h1, h2⟩ := List.cons.inj h
    rw [spNK_inj h1, spNKs_inj h2]
theorem stNK_inj {a b : List Spot} (h : stNK a = stNK b) : a = b := spNKs_inj (NestedKey.tup.inj h)
theorem spNK_depth : ∀ s : Spot, (spNK s).depth ≤ 1
  | .nd _ => by simp [spNK, NestedKey.depth]
  | .inn _ _ _ => by simp [spNK, NestedKey.depth, NestedKey.depthAll]
theorem spNKs_depth : ∀ l : List Spot, NestedKey.depthAll (l.map spNK) ≤ 1
  | [] => by simp [NestedKey.depthAll]
  | s :: l => by
    have := spNK_depth s
    have := spNKs_depth l
    simp only [List.map_cons, NestedKey.depthAll]
    omega
theorem stNK_depth (l : List Spot) : (stNK l).depth ≤ 8 := by
  have := spNKs_depth l
  simp only [stNK, NestedKey.depth]
  omega
/-- at a stands a tuple of these spots -/
def StV (C : Hp) (a : Addr) (l : List Spot) : Prop := ∃ vs, C a = some (.tup vs) ∧ Paired (SpotV C) vs l
theorem StV.same {C C' : Hp} {a : Addr} {l : List Spot} (h : StV C a l) (s : Same C C') : StV C' a l := let ⟨vs, e, p⟩ := h; ⟨vs, s _ _ e, Paired.mapP p fun _ _ z => z.le (Same.le s)⟩
theorem StV.len {C : Hp} {a : Addr} {l : List Spot} {vs : List V} (h : C a = some (.tup vs)) (s : StV C a l) : vs.length = l.length := by
  obtain ⟨ws, e, p⟩ := s
  rw [h] at e; cases e
  exact Paired.length p
section
variable {P : Program} {w : World} {H : Hp} {h : Heap} {a : Addr}
theorem nis_spot (ok : HOk P w H h) {v : V} {u : Value} : ∀ {s : Spot}, SpotV H v s → RelV v u → NestedIs h (spNK s) u
  | .nd x, e, r => by
    cases e
    obtain ⟨t, rfl⟩ := (show ∃ t, u = Value.str x t from r)
    exact .text x t
  | .inn l u' k, ⟨b, e, hb⟩, r => by
    subst e
    cases (show u = Value.ref b from r)
    obtain ⟨_, its, rv, o, h1, h2, n, h3⟩ := (show ObjOk P w H h b (.tup [.str l, .str u', .int k]) from ok b _ hb)
    cases rv with
    | cons r1 rv =>
      cases rv with
      | cons r2 rv =>
        cases rv with
        | cons r3 rv =>
          cases rv
          obtain ⟨t1, rfl⟩ := r1
          obtain ⟨t2, rfl⟩ := r2
          obtain ⟨t3, rfl⟩ := r3
          exact .tup h1 h2 h3 (.cons (.text _ _) (.cons (.text _ _) (.cons (.int _ _) .nil)))
theorem nis_spots (ok : HOk P w H h) : ∀ {vs : List V} {l : List Spot} {us : List Value}, Paired (SpotV H) vs l → Vals vs us → NestedAll h (l.map spNK) us
  | _, _, _, .nil, r => by cases r; exact .nil
  | _, _, _, .cons p ps, r => by
    cases r with
    | cons r rs => exact .cons (nis_spot ok p r) (nis_spots ok ps rs)
theorem nis_st (ok : HOk P w H h) {l : List Spot} (s : StV H a l) : (nestedKind P w).is h (stNK l) a := by
  obtain ⟨vs, e, p⟩ := s
  obtain ⟨_, its, rv, o, h1, h2, n, h3⟩ := (show ObjOk P w H h a (.tup vs) from ok a _ e)
  exact ⟨.tup h1 h2 h3 (nis_spots ok p rv), stNK_depth l⟩
end
/-! ### a dict whose keys are stances, its values True -/
abbrev SX : Type := List (List Spot × Addr)
def xsOf (xs : SX) : List (NestedKey × Addr × Value) := xs.map fun x => (stNK x.1, x.2, Value.bool true)
def dS (P : Program) (w : World) (d : Addr) (xs : SX) : HO := .ext fun h => (d == sysModules) = false ∧ xs.length ≤ sizeLine ∧ ∃ o es ep, h.get? d = some o ∧ o.ExactDict ∧ o.data = .dict es ep ∧ es.toList = (xsOf xs).map (entryOfKey (nestedKind P w)) ∧ (xs.map (·.1)).Nodup
def KeysAt (H : Hp) (xs : SX) : Prop := ∀ x ∈ xs, StV H x.2 x.1
theorem KeysAt.same {C C' : Hp} {xs : SX} (k : KeysAt C xs) (s : Same C C') : KeysAt C' xs := fun x hx => (k x hx).same s
theorem KeysAt.snoc {C : Hp} {xs : SX} {l : List Spot} {b : Addr} (k : KeysAt C xs) (s : StV C b l) : KeysAt C (xs ++ [(l, b)]) := fun x hx => by
  rcases List.mem_append.mp hx with hx | hx
  · exact k x hx
  · cases List.mem_singleton.mp hx; exact s
theorem dS_mut {P : Program} {w : World} {d : Addr} {xs : SX} : Mut (some (dS P w d xs)) := trivial
theorem atKey_xs (l : List Spot) : ∀ xs : SX, (atKey (xsOf xs) (stNK l)).isSome = decide (l ∈ xs.map (·.1))
  | [] => rfl
  | x :: xs => by
    have ih := atKey_xs l xs
    unfold atKey at ih ⊢
    rw [xsOf, List.map_cons, List.find?_cons]
    by_cases h : x.1 = l
    · subst h
      simp
    · have h' : stNK x.1 ≠ stNK l := fun e => h (stNK_inj e)
      have h2 : ¬ l = x.1 := fun e => h e.symm
      rw [show decide ((stNK x.1, x.2, Value.bool true).1 = stNK l) = false from decide_eq_false h']
      rw [show (xs.map fun x => (stNK x.1, x.2, Value.bool true)) = xsOf xs from rfl]
      show ((xsOf xs).find? _ |>.map (·.2)).isSome = _
      rw [ih]
      simp [h2]
section
variable {P : Program} {w : World} {H : Hp} {h : Heap} {d : Addr} {xs : SX}
theorem dS_rd (ok : HOk P w H h) (e : Rd H d (dS P w d xs)) (k : KeysAt H xs) : (d == sysModules) = false ∧ xs.length ≤ sizeLine ∧ h.DictOfH (nestedKind P w) d (xsOf xs) := by
  obtain ⟨⟨h1, h2, o, es, ep, e1, e2, e3, e4, e5⟩, _⟩ := (show ObjOk P w H h d (dS P w d xs) from e.ok ok)
  refine ⟨h1, h2, o, es, ep, e1, e2, e3, e4, fun x hx => ?_, ?_⟩
  · obtain ⟨y, hy, rfl⟩ := List.mem_map.mp hx
    exact nis_st ok (k y hy)
  · rw [xsOf, List.map_map]
    have : ((fun x : NestedKey × Addr × Value => x.1) ∘ fun x : List Spot × Addr => (stNK x.1, x.2, Value.bool true)) = stNK ∘ (·.1) := rfl
    rw [this, ← List.map_map]
    exact nodup_map (fun _ _ e => stNK_inj e) e5
theorem dS_new {H' : Hp} {h' : Heap} (z : xs.length ≤ sizeLine) (hd : (d == sysModules) = false) (nd : (xs.map (·.1)).Nodup) (dd : h'.DictOfH (nestedKind P w) d (xsOf xs)) : ObjOk P w H' h' d (dS P w d xs) := by
  obtain ⟨o, es, ep, e1, e2, e3, e4, _, _⟩ := dd
  exact ⟨⟨hd, z, o, es, ep, e1, e2, e3, e4, nd⟩, ⟨o, e1⟩, fun h1 h2 ⟨a1, a2, o, es, ep, b1, b2, b3, b4, b5⟩ kp => ⟨a1, a2, o, es, ep, kp o b1, b2, b3, b4, b5⟩⟩
end
section
variable {X : Cx}
def rNotInS (P : Program) (w : World) : R2 := fun x y H Q => ∃ b d l xs, x = .ref b ∧ y = .ref d ∧ Rd H d (dS P w d xs) ∧ KeysAt H xs ∧ StV H b l ∧ Q (.bl (decide (l ∉ xs.map (·.1)))) H
theorem op_notInS (hu : X.A.units + 65 < cLine) : OpR X (compareOp .NotIn) (rNotInS X.prog X.w) := by
  intro pins s σ H x y u v Q I rx ry ⟨b, d, l, xs, e1, e2, hd, hk, hb, q⟩
  subst e1 e2
  cases (show u = Value.ref b from rx)
  cases (show v = Value.ref d from ry)
  obtain ⟨z, _, dd⟩ := dS_rd I.hok hd hk
  refine wpAny_notIn_heap (show X.A.in1.units + 8 < cLine by show X.A.units + 1 + 8 < cLine; omega) (nis_st I.hok hb) z dd ?_
  rw [atKey_xs]
  have e3 : (!decide (l ∈ xs.map (·.1))) = decide (l ∉ xs.map (·.1)) := by simp
  rw [← e3] at q
  exact ⟨.bl (!decide (l ∈ List.map (fun x : List Spot × Addr => x.1) xs)), H, I.tok _, rfl, q⟩
/-- d[k] = True, k not there -/
def sPutS (P : Program) (w : World) (td ty tv : TE) : TS := fun D σ H => tv σ H fun v H1 => td σ H1 fun x H2 => ty σ H2 fun y H3 => ∃ d b l xs, v = .bl true ∧ x = .ref d ∧ y = .ref b ∧ H3 d = some (dS P w d xs) ∧ KeysAt H3 xs ∧ StV H3 b l ∧ l ∉ xs.map (·.1) ∧ xs.length < sizeLine ∧
  D.nx σ (upd H3 d (dS P w d (xs ++ [(l, b)])))
theorem ps_putS {o i value : Expr} {pos pos' : Pos} {td ty tv : TE} (hu : X.A.units + 65 < cLine) (ho : PE X o td) (hi : PE X i ty) (hv : PE X value tv) (hs : swapsWith value (some (.Subscript o i pos')) pos.line X.env = pure false) :
    PS X (.Assign [.Subscript o i pos'] value pos) (sPutS X.prog X.w td ty tv) := by
  refine ⟨fun pins s σ H D I h => ?_⟩
  refine wpAny_Assign_Subscript (thn (hv.run pins s σ H _ I h) fun r s1 ⟨v, H1, I1, rv, q1⟩ => thn (ho.run pins s1 σ H1 _ I1 q1) fun u s2 ⟨x, H2, I2, rx, q2⟩ => thn (hi.run pins s2 σ H2 _ I2 q2) fun iv s3 ⟨y, H3, I3, ry, d, b, l, xs, ev, ex, ey, hd, hk, hb, hn, hl, q3⟩ => ?_) hs
  subst ev ex ey
  obtain rfl : u = Value.ref d := rx
  obtain rfl : iv = Value.ref b := ry
  obtain rfl : r = Value.bool true := rv
  obtain ⟨z, _, dd⟩ := dS_rd I3.hok (.inl hd) hk
  have nw : atKey (xsOf xs) (stNK l) = none := by
    have := atKey_xs l xs
    rw [decide_eq_false hn] at this
    cases ha : atKey (xsOf xs) (stNK l) with
    | none => rfl
    | some _ => rw [ha] at this; cases this
  have nd := (I3.hok d _ hd).1.2.2
  obtain ⟨_, _, _, _, _, _, _, nd⟩ := nd
  refine wpAny_setItem_heap (hsz := by rw [xsOf, List.length_map]; omega) (show X.A.in1.units + 8 < cLine by show X.A.units + 1 + 8 < cLine; omega) (nis_st I3.hok hb) dd fun h' dd' hs => ?_
  rw [storedH_new nw] at dd'
  have e2 : xsOf xs ++ [(stNK l, b, Value.bool true)] = xsOf (xs ++ [(l, b)]) := by rw [xsOf, xsOf, List.map_append]; rfl
  rw [e2] at dd'
  have he : ∃ q, h'.get? d = some q := let ⟨q, _, _, hq, _⟩ := dd'; ⟨q, hq⟩
  refine ⟨σ, _, d_write I3 (by rw [hd]; exact trivial) hs he (dS_new (by rw [List.length_append, List.length_singleton]; omega) z ?_ dd'), q3⟩
  rw [List.map_append, List.nodup_append]
  exact ⟨nd, by simp, fun a ha c hc e => hn (by
    have e2 : c = l := List.mem_singleton.mp hc
    rw [← e2, ← e]; exact ha)⟩
/-- {k: True} -/
def tDispS (P : Program) (w : World) (tk tv : TE) : TE := fun σ H Q => ∀ p, H p = none → tk σ (upd H p (dS P w p [])) fun x H1 => tv σ H1 fun y H2 => H2 p = some (dS P w p []) ∧ ∃ b l, x = .ref b ∧ y = .bl true ∧ StV H2 b l ∧ Q (.ref p) (upd H2 p (dS P w p [(l, b)]))
theorem dS_empty {P : Program} {w : World} {H : Hp} (h : Heap) (hb : sysModules < h.objs.size) : ObjOk P w H (h.push { cls := .type "dict", data := .dict #[] }) h.objs.size (dS P w h.objs.size []) :=
  dS_new (Nat.zero_le _) (beq_eq_false_iff_ne.mpr (Ne.symm (Nat.ne_of_lt hb))) List.nodup_nil (Heap.DictOfH.new h)
theorem pe_dispS {k v : Expr} {pos : Pos} {tk tv : TE} (hu : X.A.units + 65 < cLine) (hk : PE X k tk) (hv : PE X v tv) : PE X (.Dict [some k] [v] pos) (tDispS X.prog X.w tk tv) := by
  refine ⟨fun pins s σ H Q I q => ?_⟩
  have hn := I.hok.fresh (Nat.le_refl s.heap.objs.size)
  have I1 := I.laid (a := s.heap.objs.size) (o := dS X.prog X.w s.heap.objs.size []) (h' := s.heap.push { cls := .type "dict", data := .dict #[] }) (t' := s.toks) (fun _ _ q => Heap.get?_push_of_some _ q) (Nat.le_refl _) (dS_empty s.heap I.big)
  rw [arm_eval_Dict, zip_pairTrees [some k] [v] X.env pos rfl rfl, dictDisplay_pairs (pairTrees [some k] [v] X.env pos) (by intro z; cases z) (by show 1 < 17; decide)]
  refine wpAny_bind (wpAny_standAt (wpAny_bind (wpAny_subDictH (knd := nestedKind X.prog X.w) (show X.A.units + 8 < cLine by omega) (by show 1 ≤ 15; decide) ?_)))
  refine pairTrees_cons_walk (thn (hk.run pins _ σ _ _ I1 (q _ hn)) fun u s1 ⟨x, H1, I1, rx, q1⟩ => thn (hv.run pins s1 σ H1 _ I1 q1) fun w2 s2 ⟨y, H2, I2, ry, e, b, l, ex, ey, hb, q2⟩ => pairTrees_nil_walk ?_)
  subst ex ey
  obtain rfl : u = Value.ref b := rx
  obtain rfl : w2 = Value.bool true := ry
  obtain ⟨z, _, dd⟩ := dS_rd I2.hok (.inl e) (fun _ h => nomatch h)
  refine ⟨[(stNK l, b, .bool true)], ⟨rfl, rfl, nis_st I2.hok hb, trivial⟩, dd, fun h' tk dd' hs => wpAny_pure ?_⟩
  have he : ∃ q, h'.get? s.heap.objs.size = some q := let ⟨q, _, _, hq, _⟩ := dd'; ⟨q, hq⟩
  exact ⟨.ref s.heap.objs.size, _, d_write I2 (by rw [e]; exact trivial) hs he (dS_new (xs := [(l, b)]) sz1 z (by simp) dd'), rfl, q2⟩
end
/-! ### for k in d -/
def Itks (P : Program) (w : World) (d : Addr) (o : Obj) (xs : SX) : It :=
  ⟨fun i H => H d = some (.frz o (dS P w d xs)) ∧ i < xs.length, fun i H x H' => H' = H ∧ ∃ l b, xs[i]? = some (l, b) ∧ x = .ref b, fun i H => H d = some (.frz o (dS P w d xs)) ∧ xs.length ≤ i⟩
section
variable {X : Cx} {pins : List (Addr × Obj)} {σ : L2.St} {H : Hp} {s : Shared} {d : Addr} {o : Obj} {xs : SX}
theorem frzS (I : Inv X pins σ H s) (h : H d = some (.frz o (dS X.prog X.w d xs))) : (d == sysModules) = false ∧ s.heap.get? d = some o ∧ o.ExactDict ∧ ∃ (es : Array DictEntry) (ep : Nat), o.data = .dict es ep ∧ es.size = xs.length ∧
    ∀ (i : Nat) (l : List Spot) (b : Addr), xs[i]? = some (l, b) → ∃ en : DictEntry, es[i]? = some en ∧ en.key = .ref b := by
  obtain ⟨hd, ⟨h1, _, o', es, ep, e1, e2, e3, e4, _⟩, _⟩ := I.hok d _ h
  rw [hd] at e1
  cases e1
  refine ⟨h1, hd, e2, es, ep, e3, ?_, fun i l b e => ?_⟩
  · have := size_of_entries e4
    rw [this, xsOf, List.length_map]
  · have q := entry_at e4 i
    rw [xsOf, List.getElem?_map, e] at q
    exact ⟨_, q, rfl⟩
theorem turn_keysS {P : Program} {w : World} {K : PySem.W.Frag} {tg : Expr} {es : Array DictEntry} {ep : Nat} (it : Addr) (hod : o.data = .dict es ep) : Turn P w K tg (Itks P w d o xs) [it] it (fun i h => h.IsKeyIter it d i xs.length ep) where
  mem := by simp
  obj := fun i h st b hb => by
    have e : b = it := by simpa using hb
    subst e
    obtain ⟨oi, e, c, dd⟩ := st
    exact ⟨oi, e, fun v z => by rw [dd] at z; cases z⟩
  keep := fun i h h' st k => st.at fun oi e => k it (by simp) oi e
  item := by
    intro X hP hw hK hc i pins s σ H E I hf st hg
    subst hP hw hK
    obtain ⟨hd, hi⟩ := hg
    obtain ⟨f0, f1, f2, f3, f4, f5⟩ := hf it (by simp)
    obtain ⟨hs, hgd, hx, es', ep', hdt, hsz, ent⟩ := frzS I hd
    obtain ⟨rfl, rfl⟩ := dict_ep hod hdt
    obtain ⟨⟨l, b⟩, hkv⟩ : ∃ p, xs[i]? = some p := ⟨xs[i], List.getElem?_eq_getElem hi⟩
    obtain ⟨en, hen, hkey⟩ := ent i l b hkv
    refine next_key_item st hgd hdt hsz hen fun h' st' sb => ?_
    have I1 : Inv X pins σ H { s with heap := h' } := I.turned (t' := s.toks) (fun b ob hb e => (sb.2 b hb).trans e) f0 f1 f3 f4 f5
    obtain ⟨oi, e, c, dd⟩ := id st'
    exact ⟨en.key, rfl, go_of (s := { s with heap := h' }) e c dd (by decide) ⟨.ref b, H, I1, hkey, ⟨rfl, l, b, hkv, rfl⟩, st', fun b hb => (hf b hb).1⟩⟩
  done := by
    intro X hP hw hK hc i pins s σ H E I hf st hg
    subst hP hw hK
    obtain ⟨hd, hi⟩ := hg
    obtain ⟨f0, f1, f2, f3, f4, f5⟩ := hf it (by simp)
    obtain ⟨hs, hgd, hx, es', ep', hdt, hsz, ent⟩ := frzS I hd
    obtain ⟨rfl, rfl⟩ := dict_ep hod hdt
    exact next_key_end (I.ok.hd hc) st hgd hdt hsz hi fun h' eb => ⟨rfl, I.turned (t' := s.toks) (fun b ob hb e => eb b ob hb e) f0 f1 f3 f4 f5⟩
  self := fun A i s Q E st h => wpAny_pyIter_keyiter st h
end
def iKeysS (P : Program) (w : World) (td : TE) : TI := fun σ H R => td σ H fun x H1 => ∃ d o xs, x = .ref d ∧ H1 d = some (.frz o (dS P w d xs)) ∧ R (Itks P w d o xs) H1
theorem pi_keysS {X : Cx} {tg e : Expr} {td : TE} (he : PE X e td) : PI X tg e (iKeysS X.prog X.w (tFrz td)) := by
  refine ⟨fun pins s σ H R I h => ?_⟩
  refine thn ((pe_frz he).run pins s σ H _ I h) fun u s1 ⟨x, H1, I1, rx, d, o, xs, ex, hd, q⟩ => ?_
  subst ex
  obtain rfl : u = Value.ref d := rx
  obtain ⟨hs, hgd, hx, es, ep, hdt, hsz, ent⟩ := frzS I1 hd
  refine iter_keys hs hgd hx hdt (pi_one (tk := s1.toks) I1 _ (turn_keysS _ hdt) ⟨_, Heap.get?_push_size _ rfl, rfl, ?_⟩ q)
  rw [hsz] <;> rfl
theorem walk_keysS {P : Program} {w : World} {d : Addr} {o : Obj} {xs : SX} : Walk (Itks P w d o xs) xs.length (fun H => H d = some (.frz o (dS P w d xs))) (fun i H x H' => H' = H ∧ ∃ l b, xs[i]? = some (l, b) ∧ x = .ref b) :=
  ⟨fun _ _ hi q => ⟨q, hi⟩, fun _ q => ⟨q, Nat.le_refl _⟩, fun _ _ _ _ _ _ y => y⟩
end AbW

/-! ## M5 -/
set_option Elab.async false
set_option linter.all false
set_option maxRecDepth 100000
set_option maxHeartbeats 4000000
/-! M5: the law's own search, by lists, against the search by functions -/
namespace AbW
open PySem PySem.Spec PyProof.Rows L2 AbH AbR Ab
/-- one by one -/
def AllR (R : NetD → Spot → Spot → Prop) : List NetD → List Spot → List Spot → Prop
  | [], [], [] => True
  | m :: ms, u :: p, v :: q => R m u v ∧ AllR R ms p q
  | _, _, _ => False
def AllH : List NetD → List Spot → Prop
  | [], [] => True
  | m :: ms, u :: p => m.has u ∧ AllH ms p
  | _, _ => False
def put1 (p : List Spot) (k : Nat) (v : Spot) : List Spot := p.take k ++ [v] ++ p.drop (k + 1)
/-- one step of the law's search -/
def NearL (ms : List NetD) (s : Int) (p q : List Spot) : Prop :=
  (∃ (k : Nat) (m : NetD) (u v : Spot), ms[k]? = some m ∧ p[k]? = some u ∧ (m.flat u v ∨ (0 < s ∧ (m.rise u v ∨ m.rise v u))) ∧ q = put1 p k v) ∨
  (s = 0 ∧ (AllR NetD.rise ms p q ∨ AllR (fun m u v => m.rise v u) ms p q))
def FitsL (ms : List NetD) (s : Int) (p : List Spot) : Prop := ∀ (i j : Nat) (m m' : NetD) (u v : Spot), ms[i]? = some m → ms[j]? = some m' → p[i]? = some u → p[j]? = some v → m.lv u - m'.lv v ≤ s
inductive LCn (ms : List NetD) (s : Int) : List Spot → List Spot → Prop
  | refl {p : List Spot} : LCn ms s p p
  | step {p q r : List Spot} : NearL ms s p q → FitsL ms s q → LCn ms s q r → LCn ms s p r
section
variable {ms : List NetD} {s : Int} {p q r : List Spot} {R : NetD → Spot → Spot → Prop}
theorem LCn.snoc (h : LCn ms s p q) (n : NearL ms s q r) (f : FitsL ms s r) : LCn ms s p r := by
  induction h with
  | refl => exact .step n f .refl
  | step n' f' _ ih => exact .step n' f' (ih n)
theorem put1_get {k : Nat} {v : Spot} (hk : k < p.length) (j : Nat) : (put1 p k v)[j]? = if j = k then some v else p[j]? := by
  have hl : (p.take k).length = k := by rw [List.length_take]; omega
  unfold put1
  rw [List.append_assoc]
  by_cases h : j = k
  · subst h
    rw [if_pos rfl, List.getElem?_append_right (by omega), hl, Nat.sub_self]
    rfl
  · rw [if_neg h]
    by_cases h2 : j < k
    · rw [List.getElem?_append_left (by omega), List.getElem?_take, if_pos h2]
    · rw [List.getElem?_append_right (by omega), hl, show j - k = (j - (k + 1)) + 1 by omega, List.singleton_append, List.getElem?_cons_succ, List.getElem?_drop]
      congr 1
      omega
theorem put1_len {k : Nat} {v : Spot} (hk : k < p.length) : (put1 p k v).length = p.length := by
  unfold put1
  rw [List.length_append, List.length_append, List.length_take, List.length_drop, List.length_singleton]
  omega
theorem AllR.len : ∀ {ms : List NetD} {p q : List Spot}, AllR R ms p q → p.length = ms.length ∧ q.length = ms.length
  | [], [], [], _ => ⟨rfl, rfl⟩
  | _ :: ms, _ :: p, _ :: q, h => by
    obtain ⟨h1, h2⟩ := AllR.len h.2
    exact ⟨by rw [List.length_cons, List.length_cons, h1], by rw [List.length_cons, List.length_cons, h2]⟩
  | [], [], _ :: _, h => h.elim
  | [], _ :: _, _, h => h.elim
  | _ :: _, [], _, h => h.elim
  | _ :: _, _ :: _, [], h => h.elim
theorem AllR.get : ∀ {ms : List NetD} {p q : List Spot} {k : Nat} {m : NetD} {u v : Spot}, AllR R ms p q → ms[k]? = some m → p[k]? = some u → q[k]? = some v → R m u v
  | _ :: _, _ :: _, _ :: _, 0, _, _, _, h, e1, e2, e3 => by
    cases e1; cases e2; cases e3
    exact h.1
  | _ :: _, _ :: _, _ :: _, k + 1, _, _, _, h, e1, e2, e3 => AllR.get (k := k) h.2 (by simpa using e1) (by simpa using e2) (by simpa using e3)
  | [], [], [], _, _, _, _, _, e, _, _ => by simp at e
  | [], [], _ :: _, _, _, _, _, h, _, _, _ => h.elim
  | [], _ :: _, _, _, _, _, _, h, _, _, _ => h.elim
  | _ :: _, [], _, _, _, _, _, h, _, _, _ => h.elim
  | _ :: _, _ :: _, [], _, _, _, _, h, _, _, _ => h.elim
theorem AllR.of : ∀ {ms : List NetD} {p q : List Spot}, p.length = ms.length → q.length = ms.length → (∀ (k : Nat) (m : NetD) (u v : Spot), ms[k]? = some m → p[k]? = some u → q[k]? = some v → R m u v) → AllR R ms p q
  | [], [], [], _, _, _ => trivial
  | m :: ms, u :: p, v :: q, h1, h2, h => ⟨h 0 m u v rfl rfl rfl, AllR.of (by simpa using h1) (by simpa using h2) fun k m u v e1 e2 e3 => h (k + 1) m u v (by simpa using e1) (by simpa using e2) (by simpa using e3)⟩
  | [], [], _ :: _, _, h, _ => by simp at h
  | [], _ :: _, _, h, _, _ => by simp at h
  | _ :: _, [], _, h, _, _ => by simp at h
  | _ :: _, _ :: _, [], _, h, _ => by simp at h
theorem AllH.len : ∀ {ms : List NetD} {p : List Spot}, AllH ms p → p.length = ms.length
  | [], [], _ => rfl
  | _ :: ms, _ :: p, h => by rw [List.length_cons, List.length_cons, AllH.len h.2]
  | [], _ :: _, h => h.elim
  | _ :: _, [], h => h.elim
theorem AllH.get : ∀ {ms : List NetD} {p : List Spot} {k : Nat} {m : NetD} {u : Spot}, AllH ms p → ms[k]? = some m → p[k]? = some u → m.has u
  | _ :: _, _ :: _, 0, _, _, h, e1, e2 => by
    cases e1; cases e2
    exact h.1
  | _ :: _, _ :: _, k + 1, _, _, h, e1, e2 => AllH.get (k := k) h.2 (by simpa using e1) (by simpa using e2)
  | [], [], _, _, _, _, e, _ => by simp at e
  | [], _ :: _, _, _, _, h, _, _ => h.elim
  | _ :: _, [], _, _, _, h, _, _ => h.elim
theorem AllH.of : ∀ {ms : List NetD} {p : List Spot}, p.length = ms.length → (∀ (k : Nat) (m : NetD) (u : Spot), ms[k]? = some m → p[k]? = some u → m.has u) → AllH ms p
  | [], [], _, _ => trivial
  | m :: ms, u :: p, h1, h => ⟨h 0 m u rfl rfl, AllH.of (by simpa using h1) fun k m u e1 e2 => h (k + 1) m u (by simpa using e1) (by simpa using e2)⟩
  | [], _ :: _, h, _ => by simp at h
  | _ :: _, [], h, _ => by simp at h
theorem getL {α : Type} {l : List α} {n k : Nat} (h : l.length = n) (hk : k < n) : ∃ x, l[k]? = some x := ⟨l[k], List.getElem?_eq_getElem (by omega)⟩
theorem ltL {α : Type} {l : List α} {k : Nat} {x : α} (h : l[k]? = some x) : k < l.length := by
  rcases Nat.lt_or_ge k l.length with h' | h'
  · exact h'
  · rw [List.getElem?_eq_none h'] at h; cases h
/-- a step stays within the nets -/
theorem NearL.has (ok : ∀ m ∈ ms, m.Ok) (hp : AllH ms p) (h : NearL ms s p q) : AllH ms q := by
  have lp := hp.len
  rcases h with ⟨k, m, u, v, e1, e2, h, rfl⟩ | ⟨_, h⟩
  · have hk := ltL e2
    have okm := ok m (List.mem_of_getElem? e1)
    refine AllH.of (by rw [put1_len hk, lp]) fun j m' u' e3 e4 => ?_
    rw [put1_get hk] at e4
    by_cases hj : j = k
    · subst hj
      rw [if_pos rfl] at e4
      rw [e1] at e3
      cases e3; cases e4
      rcases h with h | ⟨_, h | h⟩
      · exact flat_has okm h
      · exact (rise_has okm h).2
      · exact (rise_has okm h).1
    · rw [if_neg hj] at e4
      exact hp.get e3 e4
  · rcases h with h | h
    · refine AllH.of h.len.2 fun k m v e1 e3 => ?_
      obtain ⟨u, e2⟩ := getL lp (ltL e1)
      exact (rise_has (ok m (List.mem_of_getElem? e1)) (h.get e1 e2 e3)).2
    · refine AllH.of h.len.2 fun k m v e1 e3 => ?_
      obtain ⟨u, e2⟩ := getL lp (ltL e1)
      exact (rise_has (ok m (List.mem_of_getElem? e1)) (h.get e1 e2 e3)).1
theorem LCn.has (ok : ∀ m ∈ ms, m.Ok) (h : LCn ms s p q) : AllH ms p → AllH ms q := by
  induction h with
  | refl => exact id
  | step n _ _ ih => exact fun hp => ih (n.has ok hp)
/-- what the search has met is all: it has the start and is closed -/
theorem LCn.closed {S : List Spot → Prop} (cl : ∀ a b, S a → NearL ms s a b → FitsL ms s b → S b) (h : LCn ms s p q) : S p → S q := by
  induction h with
  | refl => exact id
  | step n f _ ih => exact fun hp => ih (cl _ _ hp n f)
end
/-! ### by functions -/
def fnL {α : Type} (d : α) (W : List Str) (l : List α) (x : Str) : α := (((W.zip l).find? fun z => decide (z.1 = x)).map (·.2)).getD d
section
variable {α : Type} {d : α} {W : List Str} {l : List α}
theorem fnL_at (nd : W.Nodup) (hl : l.length = W.length) {k : Nat} {x : Str} {v : α} (e1 : W[k]? = some x) (e2 : l[k]? = some v) : fnL d W l x = v := by
  have hm : (x, v) ∈ W.zip l := List.mem_of_getElem? (i := k) (by rw [List.getElem?_zip_eq_some]; exact ⟨e1, e2⟩)
  have nd' : ((W.zip l).map (·.1)).Nodup := by
    rw [show (W.zip l).map (·.1) = W from List.map_fst_zip (by omega)]
    exact nd
  unfold fnL
  rw [find_mem nd' hm]
  rfl
theorem fnL_map (nd : W.Nodup) (hl : l.length = W.length) : W.map (fnL d W l) = l := by
  refine List.ext_getElem? fun k => ?_
  rw [List.getElem?_map]
  by_cases hk : k < W.length
  · obtain ⟨v, e⟩ := getL hl hk
    rw [List.getElem?_eq_getElem hk, e]
    exact congrArg some (fnL_at nd hl (List.getElem?_eq_getElem hk) e)
  · rw [List.getElem?_eq_none (by omega), List.getElem?_eq_none (by omega)]
    rfl
theorem mem_ix {x : Str} (h : x ∈ W) : ∃ k : Nat, W[k]? = some x := by
  obtain ⟨k, hk, e⟩ := List.mem_iff_getElem.mp h
  exact ⟨k, by rw [List.getElem?_eq_getElem hk, e]⟩
theorem ix_inj (nd : W.Nodup) {i j : Nat} {x : Str} (h1 : W[i]? = some x) (h2 : W[j]? = some x) : i = j := by
  have a := ltL h1
  have b := ltL h2
  rw [List.getElem?_eq_getElem a] at h1
  rw [List.getElem?_eq_getElem b] at h2
  exact (List.getElem_inj nd).mp (by rw [Option.some.inj h1, Option.some.inj h2])
end
def nD : NetD := ⟨[], []⟩
def sD : Spot := .nd ""
section
variable {W : List Str} {ms : List NetD} {s : Int} {p q : List Spot}
theorem fits_fn (nd : W.Nodup) (hm : ms.length = W.length) (hp : p.length = W.length) : FitsL ms s p ↔ FitsN W (fnL nD W ms) (fnL sD W p) s := by
  constructor
  · intro h i hi j hj
    obtain ⟨a, ea⟩ := mem_ix hi
    obtain ⟨b, eb⟩ := mem_ix hj
    obtain ⟨m, em⟩ := getL hm (ltL ea)
    obtain ⟨m', em'⟩ := getL hm (ltL eb)
    obtain ⟨u, eu⟩ := getL hp (ltL ea)
    obtain ⟨v, ev⟩ := getL hp (ltL eb)
    unfold lvN
    rw [fnL_at nd hm ea em, fnL_at nd hm eb em', fnL_at nd hp ea eu, fnL_at nd hp eb ev]
    exact h a b m m' u v em em' eu ev
  · intro h i j m m' u v em em' eu ev
    obtain ⟨x, ex⟩ := getL (l := W) hp.symm (ltL eu)
    obtain ⟨y, ey⟩ := getL (l := W) hp.symm (ltL ev)
    have := h x (List.mem_of_getElem? ex) y (List.mem_of_getElem? ey)
    unfold lvN at this
    rw [fnL_at nd hm ex em, fnL_at nd hm ey em', fnL_at nd hp ex eu, fnL_at nd hp ey ev] at this
    exact this
theorem lcn_cn (nd : W.Nodup) (hm : ms.length = W.length) (ok : ∀ m ∈ ms, m.Ok) (h : LCn ms s p q) : AllH ms p → Cn (GN (fnL nD W ms)) W s (fnL sD W p) (fnL sD W q) := by
  induction h with
  | refl => exact fun _ => .rfl'
  | @step p q r n f _ ih =>
    intro hp
    have lp := hp.len.trans hm
    have hq := n.has ok hp
    have lq := hq.len.trans hm
    refine .step ?_ ((fits_fn nd hm lq).mp f) (ih hq)
    have at_ : ∀ {i : Str}, i ∈ W → ∃ k m u v, W[k]? = some i ∧ ms[k]? = some m ∧ p[k]? = some u ∧ q[k]? = some v ∧ fnL nD W ms i = m ∧ fnL sD W p i = u ∧ fnL sD W q i = v := fun {i} hi => by
      obtain ⟨k, ek⟩ := mem_ix hi
      obtain ⟨m, em⟩ := getL hm (ltL ek)
      obtain ⟨u, eu⟩ := getL lp (ltL ek)
      obtain ⟨v, ev⟩ := getL lq (ltL ek)
      exact ⟨k, m, u, v, ek, em, eu, ev, fnL_at nd hm ek em, fnL_at nd lp ek eu, fnL_at nd lq ek ev⟩
    rcases n with ⟨k, m, u, v, em, eu, h, rfl⟩ | ⟨s0, h | h⟩
    · have hk := ltL eu
      obtain ⟨x, ex⟩ := getL (l := W) lp.symm hk
      have e1 : fnL nD W ms x = m := fnL_at nd hm ex em
      have e2 : fnL sD W p x = u := fnL_at nd lp ex eu
      have e3 : fnL sD W (put1 p k v) x = v := fnL_at nd lq ex (by rw [put1_get hk, if_pos rfl])
      refine .one x (List.mem_of_getElem? ex) ?_ ?_ fun y hy hne => ?_
      · show (fnL nD W ms x).adj _ _
        rw [e1, e2, e3]
        rcases h with h | ⟨_, h | h⟩
        · exact .inl h
        · exact .inr (.inl h)
        · exact .inr (.inr h)
      · rcases h with h | ⟨h, _⟩
        · refine .inr ?_
          show (fnL nD W ms x).lv _ = (fnL nD W ms x).lv _
          rw [e1, e2, e3]
          exact flat_lv h
        · exact .inl h
      · obtain ⟨j, m', u', v', ej, _, eu', ev', _, f2, f3⟩ := at_ hy
        rw [put1_get hk, if_neg (fun z => hne (by subst z; rw [ex] at ej; cases ej; rfl)), eu'] at ev'
        cases ev'
        rw [f2, f3]
    · refine .up s0 fun i hi => ?_
      obtain ⟨k, m, u, v, _, em, eu, ev, f1, f2, f3⟩ := at_ hi
      have := h.get em eu ev
      refine ⟨?_, ?_⟩
      · show (fnL nD W ms i).adj _ _
        rw [f1, f2, f3]
        exact .inr (.inl this)
      · show (fnL nD W ms i).lv _ = (fnL nD W ms i).lv _ + 1
        rw [f1, f2, f3]
        exact rise_lv this
    · refine .down s0 fun i hi => ?_
      obtain ⟨k, m, u, v, _, em, eu, ev, f1, f2, f3⟩ := at_ hi
      have := h.get em eu ev
      refine ⟨?_, ?_⟩
      · show (fnL nD W ms i).adj _ _
        rw [f1, f2, f3]
        exact .inr (.inr this)
      · show (fnL nD W ms i).lv _ = (fnL nD W ms i).lv _ - 1
        rw [f1, f2, f3]
        have := rise_lv this
        omega
theorem cn_lcn (nd : W.Nodup) (hm : ms.length = W.length) (s0 : 0 ≤ s) {f g : Str → Spot} (h : Cn (GN (fnL nD W ms)) W s f g) : LCn ms s (W.map f) (W.map g) := by
  induction h with
  | @refl f g e =>
    rw [show W.map f = W.map g from List.map_congr_left e]
    exact .refl
  | @step f g r n ft _ ih =>
    have lf : (W.map f).length = W.length := List.length_map ..
    have lg : (W.map g).length = W.length := List.length_map ..
    have at_ : ∀ {k : Nat} {m : NetD}, ms[k]? = some m → ∃ x, W[k]? = some x ∧ fnL nD W ms x = m ∧ (W.map f)[k]? = some (f x) ∧ (W.map g)[k]? = some (g x) := fun {k m} em => by
      obtain ⟨x, ex⟩ := getL (l := W) hm.symm (ltL em)
      exact ⟨x, ex, fnL_at nd hm ex em, by rw [List.getElem?_map, ex]; rfl, by rw [List.getElem?_map, ex]; rfl⟩
    refine .step ?_ ((fits_fn nd hm lg).mpr fun i hi j hj => ?_) ih
    · cases n with
      | one i hi a c ho =>
        obtain ⟨k, ek⟩ := mem_ix hi
        obtain ⟨m, em⟩ := getL hm (ltL ek)
        have e1 := fnL_at (d := nD) nd hm ek em
        refine .inl ⟨k, m, f i, g i, em, by rw [List.getElem?_map, ek]; rfl, ?_, ?_⟩
        · have a : (fnL nD W ms i).adj (f i) (g i) := a
          have c : 0 < s ∨ (fnL nD W ms i).lv (g i) = (fnL nD W ms i).lv (f i) := c
          rw [e1] at a c
          rcases a with a | a | a
          · exact .inl a
          · rcases c with c | c
            · exact .inr ⟨c, .inl a⟩
            · have := rise_lv a; omega
          · rcases c with c | c
            · exact .inr ⟨c, .inr a⟩
            · have := rise_lv a; omega
        · refine List.ext_getElem? fun j => ?_
          rw [put1_get (by rw [lf]; exact ltL ek)]
          by_cases hj : j = k
          · subst hj
            rw [if_pos rfl, List.getElem?_map, ek]; rfl
          · rw [if_neg hj, List.getElem?_map, List.getElem?_map]
            cases ej : W[j]? with
            | none => rfl
            | some y =>
              refine congrArg some (ho y (List.mem_of_getElem? ej) fun z => ?_)
              subst z
              exact hj (ix_inj nd ej ek)
      | up e0 h =>
        refine .inr ⟨e0, .inl (AllR.of (lf.trans hm.symm) (lg.trans hm.symm) fun k m u v em eu ev => ?_)⟩
        obtain ⟨x, ex, e1, e2, e3⟩ := at_ em
        rw [e2] at eu; rw [e3] at ev
        cases eu; cases ev
        obtain ⟨a, l⟩ := h x (List.mem_of_getElem? ex)
        have a : (fnL nD W ms x).adj (f x) (g x) := a
        have l : (fnL nD W ms x).lv (g x) = (fnL nD W ms x).lv (f x) + 1 := l
        rw [e1] at a l
        rcases a with a | a | a
        · have := flat_lv a; omega
        · exact a
        · have := rise_lv a; omega
      | down e0 h =>
        refine .inr ⟨e0, .inr (AllR.of (lf.trans hm.symm) (lg.trans hm.symm) fun k m u v em eu ev => ?_)⟩
        obtain ⟨x, ex, e1, e2, e3⟩ := at_ em
        rw [e2] at eu; rw [e3] at ev
        cases eu; cases ev
        obtain ⟨a, l⟩ := h x (List.mem_of_getElem? ex)
        have a : (fnL nD W ms x).adj (f x) (g x) := a
        have l : (fnL nD W ms x).lv (g x) = (fnL nD W ms x).lv (f x) - 1 := l
        rw [e1] at a l
        rcases a with a | a | a
        · have := flat_lv a; omega
        · have := rise_lv a; omega
        · exact a
    · unfold lvN
      obtain ⟨a, ea⟩ := mem_ix hi
      obtain ⟨b, eb⟩ := mem_ix hj
      rw [fnL_at nd lg ea (by rw [List.getElem?_map, ea]; rfl), fnL_at nd lg eb (by rw [List.getElem?_map, eb]; rfl)]
      exact ft i hi j hj
/-- places by walkers' numbers -/
def HasL (q : List Spot) (as : List (Nat × Spot)) : Prop := ∀ a ∈ as, q[a.1]? = some a.2
def asA (W : List Str) (as : List (Nat × Spot)) : List Str := as.map fun a => W.getD a.1 ""
def asP (W : List Str) (as : List (Nat × Spot)) (x : Str) : Spot := ((as.find? fun a => decide (W.getD a.1 "" = x)).map (·.2)).getD sD
theorem asP_at (nd : W.Nodup) {as : List (Nat × Spot)} (na : (as.map (·.1)).Nodup) (hk : ∀ a ∈ as, a.1 < W.length) {a : Nat × Spot} (h : a ∈ as) : asP W as (W.getD a.1 "") = a.2 := by
  unfold asP
  have inj : ∀ b ∈ as, W.getD b.1 "" = W.getD a.1 "" → b = a := fun b hb e => by
    have h1 := hk b hb
    have h2 := hk a h
    rw [List.getD_eq_getElem?_getD, List.getD_eq_getElem?_getD, List.getElem?_eq_getElem h1, List.getElem?_eq_getElem h2] at e
    have e3 : b.1 = a.1 := (List.getElem_inj nd).mp e
    have f1 := find_mem (l := as) (k := b.1) (v := b.2) na hb
    have f2 := find_mem (l := as) (k := a.1) (v := a.2) na h
    rw [e3, f2] at f1
    exact Prod.ext e3 (Option.some.inj f1).symm
  cases hf : as.find? fun b => decide (W.getD b.1 "" = W.getD a.1 "") with
  | none =>
    have := List.find?_eq_none.mp hf a h
    simp at this
  | some b =>
    have h1 := List.find?_some hf
    have h2 := List.mem_of_find?_eq_some hf
    rw [inj b h2 (of_decide_eq_true h1)]
    rfl
theorem tk_iff (nd : W.Nodup) (hm : ms.length = W.length) (ok : ∀ m ∈ ms, m.Ok) (s0 : 0 ≤ s) (hp : AllH ms p) {as : List (Nat × Spot)} (na : (as.map (·.1)).Nodup) (hk : ∀ a ∈ as, a.1 < W.length) :
    (∃ q, LCn ms s p q ∧ HasL q as) ↔ Tk (fnL nD W ms) W s (fnL sD W p) (asA W as) (asP W as) := by
  constructor
  · rintro ⟨q, h, ha⟩
    refine ⟨_, lcn_cn nd hm ok h hp, fun j hj => ?_⟩
    obtain ⟨a, haa, rfl⟩ := List.mem_map.mp hj
    show fnL sD W q (W.getD a.1 "") = asP W as (W.getD a.1 "")
    rw [asP_at nd na hk haa]
    have hl := hk a haa
    refine fnL_at nd ((h.has ok hp).len.trans hm) (k := a.1) ?_ (ha a haa)
    rw [List.getD_eq_getElem?_getD, List.getElem?_eq_getElem hl]; rfl
  · rintro ⟨g, h, ha⟩
    have := cn_lcn nd hm s0 h
    rw [fnL_map nd (hp.len.trans hm)] at this
    refine ⟨_, this, fun a haa => ?_⟩
    have hl := hk a haa
    have := ha (W.getD a.1 "") (List.mem_map.mpr ⟨a, haa, rfl⟩)
    rw [asP_at nd na hk haa] at this
    rw [List.getElem?_map, List.getElem?_eq_getElem hl, ← this, List.getD_eq_getElem?_getD, List.getElem?_eq_getElem hl]
    rfl
/-- what the law's own loop gives -/
def DueL (ms : List NetD) (p : List Spot) (as : List (Nat × Spot)) (v : V) : Prop :=
  (v = .non ∧ ∀ s : Int, 0 ≤ s → s ≤ 6 → FitsL ms s p → ¬ ∃ q, LCn ms s p q ∧ HasL q as) ∨
  ∃ n : Int, v = .int n ∧ 0 ≤ n ∧ n ≤ 6 ∧ FitsL ms n p ∧ (∃ q, LCn ms n p q ∧ HasL q as) ∧ ∀ s : Int, 0 ≤ s → s < n → FitsL ms s p → ¬ ∃ q, LCn ms s p q ∧ HasL q as
theorem due_least (nd : W.Nodup) (hm : ms.length = W.length) (ok : ∀ m ∈ ms, m.Ok) (hp : AllH ms p) {as : List (Nat × Spot)} (na : (as.map (·.1)).Nodup) (hk : ∀ a ∈ as, a.1 < W.length) {v : V} (h : DueL ms p as v) :
    Least (fnL nD W ms) W (fnL sD W p) (asA W as) (asP W as) v := by
  have lp := hp.len.trans hm
  have at_ : ∀ i ∈ W, (fnL nD W ms i).Ok ∧ (fnL nD W ms i).has (fnL sD W p i) := fun i hi => by
    obtain ⟨k, ek⟩ := mem_ix hi
    obtain ⟨m, em⟩ := getL hm (ltL ek)
    obtain ⟨u, eu⟩ := getL lp (ltL ek)
    rw [fnL_at nd hm ek em, fnL_at nd lp ek eu]
    exact ⟨ok m (List.mem_of_getElem? em), hp.get em eu⟩
  have sub : ∀ i ∈ asA W as, i ∈ W := fun i hi => by
    obtain ⟨a, ha, rfl⟩ := List.mem_map.mp hi
    rw [List.getD_eq_getElem?_getD, List.getElem?_eq_getElem (hk a ha)]
    exact List.getElem_mem _
  rcases h with ⟨rfl, h⟩ | ⟨n, rfl, n0, n6, f, t, no⟩
  · refine .inl ⟨rfl, fun s s0 t => ?_⟩
    have hb : ∀ i ∈ W, ∀ x ∈ (fnL nD W ms i).ks, (0 : Int) ≤ (fnL nD W ms i).lev x ∧ (fnL nD W ms i).lev x ≤ 5 := fun i hi x _ => (at_ i hi).1.lo x
    have t5 := tk_height (lo := 0) (hi := 5) (fun i hi => (at_ i hi).1) (by decide) hb (fun i hi => (at_ i hi).2) sub (tk_joined sub t)
    have f5 := fits_height (lo := 0) (hi := 5) (fun i hi => (at_ i hi).1) hb (fun i hi => (at_ i hi).2)
    exact h 5 (by decide) (by decide) ((fits_fn nd hm lp).mpr (fits_iff.mpr f5)) ((tk_iff nd hm ok (by decide) hp na hk).mpr t5)
  · exact .inr ⟨n, rfl, n0, (fits_fn nd hm lp).mp f, (tk_iff nd hm ok n0 hp na hk).mp t, fun s s0 hs fs ts => no s s0 hs ((fits_fn nd hm lp).mpr fs) ((tk_iff nd hm ok s0 hp na hk).mpr ts)⟩
end
theorem least_uniq {N : Str → NetD} {W A : List Str} {p pl : Str → Spot} {v v' : V} (h : Least N W p A pl v) (h' : Least N W p A pl v') : v = v' := by
  rcases h with ⟨rfl, h⟩ | ⟨n, rfl, n0, f, t, no⟩ <;> rcases h' with ⟨rfl, h'⟩ | ⟨n', rfl, n0', f', t', no'⟩
  · rfl
  · exact absurd t' (h n' n0')
  · exact absurd t (h' n n0)
  · rcases Int.lt_trichotomy n n' with c | c | c
    · exact absurd t (no' n n0 c f)
    · rw [c]
    · exact absurd t' (no n' n0' c f')
end AbW

/-! ## Wl -/
set_option Elab.async false
set_option linter.all false
set_option maxRecDepth 100000
set_option maxHeartbeats 4000000
/-! Wl: the law's nets, spots, steps -/
namespace AbW
open PySem PySem.Spec PyProof.Rows L2 AbH AbR Ab
theorem ModelAt.get {C : Hp} {a : Addr} {m : NetD} (h : ModelAt C a m) : ∃ dh dl, ∃ L : List PT, (∀ H, Same C H → DGet H a (.str "heights") (some (.ref dh))) ∧ (∀ H, Same C H → DGet H a (.str "pairs") (some (.ref dl))) ∧
    LevD C dh m ∧ C dh = some (.dK (hsK m.hs)) ∧ C dl = some (.lst (L.map fun p => V.ref p.1)) ∧ L.map (·.2) = m.es ∧ ∀ p ∈ L, C p.1 = some (.tup [.str p.2.1, .str p.2.2]) := by
  obtain ⟨dh, dl, L, h1, h2, h3, h4, h5⟩ := h.ex
  exact ⟨dh, dl, L, fun H s => .inl ⟨_, .inr "heights", .inl (s _ _ h1), rfl, rfl⟩, fun H s => .inl ⟨_, .inr "pairs", .inl (s _ _ h1), rfl, rfl⟩, ⟨_, .refl _, .inl h2⟩, h2, h3, h4, h5⟩
theorem SpotV.same {C C' : Hp} (s : Same C C') {v : V} {u : Spot} (h : SpotV C v u) : SpotV C' v u := h.le (Same.le s)
/-- a list of spots -/
abbrev Sps (C : Hp) : List V → List Spot → Prop := Paired (SpotV C)
theorem Sps.same {C C' : Hp} (s : Same C C') {vs : List V} {l : List Spot} (h : Sps C vs l) : Sps C' vs l := Paired.mapP h fun _ _ z => z.same s
theorem Sps.app {C : Hp} : ∀ {vs ws : List V} {l k : List Spot}, Sps C vs l → Sps C ws k → Sps C (vs ++ ws) (l ++ k)
  | _, _, _, _, .nil, h => h
  | _, _, _, _, .cons r t, h => .cons r (Sps.app t h)
theorem Sps.of {C : Hp} {acc : List V} {f : Nat → Spot} (h : ∀ (i : Nat) (v : V), acc[i]? = some v → SpotV C v (f i)) : Sps C acc ((List.range acc.length).map f) := by
  induction acc generalizing f with
  | nil => exact .nil
  | cons v r ih =>
    rw [List.length_cons, List.range_succ_eq_map, List.map_cons, List.map_map]
    exact .cons (h 0 v rfl) (ih fun i v e => h (i + 1) v (by simpa using e))
theorem Sps.get {C : Hp} : ∀ {vs : List V} {l : List Spot} {i : Nat} {v : V}, Sps C vs l → vs[i]? = some v → ∃ u, l[i]? = some u ∧ SpotV C v u
  | _, _, 0, _, .cons r _, e => by cases e; exact ⟨_, rfl, r⟩
  | _, _, i + 1, _, .cons _ t, e => Sps.get (i := i) t (by simpa using e)
  | _, _, _, _, .nil, e => by simp at e
theorem Sps.len {C : Hp} {vs : List V} {l : List Spot} (h : Sps C vs l) : vs.length = l.length := Paired.length h
/-- names as nodes -/
theorem Sps.nds {C : Hp} : ∀ ys : List Str, Sps C (ys.map V.str) (ys.map Spot.nd)
  | [] => .nil
  | _ :: ys => .cons rfl (Sps.nds ys)
def NetD.onE : Spot → Str × Str → Prop
  | .nd x, e => x = e.1 ∨ x = e.2
  | .inn l u _, e => (l, u) = e
theorem onE_on {m : NetD} (ok : m.Ok) {e : Str × Str} (he : e ∈ m.es) {u : Spot} (hu : m.has u) (h : NetD.onE u e) (hl : m.lev e.1 < m.lev e.2) : m.lev e.1 ≤ m.lv u ∧ m.lv u ≤ m.lev e.2 ∧ u = m.on e (m.lv u) := by
  cases u with
  | nd x =>
    rcases h with rfl | rfl
    · exact ⟨Int.le_refl _, Int.le_of_lt hl, on_fst.symm⟩
    · exact ⟨Int.le_of_lt hl, Int.le_refl _, (on_snd (by omega)).symm⟩
  | inn l u k =>
    cases (show (l, u) = e from h)
    obtain ⟨_, h1, h2⟩ := hu
    have e0 : m.on (l, u) k = .inn l u k := on_inn h1 h2
    exact ⟨Int.le_of_lt h1, Int.le_of_lt h2, e0.symm⟩
theorem on_onE {m : NetD} {e : Str × Str} {k : Int} : NetD.onE (m.on e k) e := by
  rcases on_eq (m := m) (e := e) (h := k) with ⟨h, _⟩ | ⟨h, _⟩ | h <;> rw [h]
  · exact .inl rfl
  · exact .inr rfl
  · rfl
/-- the step by 1 or by -1, as the law finds it -/
def NetD.stp (m : NetD) (by_ : Int) (u v : Spot) : Prop := ∃ e ∈ m.es, NetD.onE u e ∧ m.lev e.1 < m.lev e.2 ∧ m.lev e.1 ≤ m.lv u + by_ ∧ m.lv u + by_ ≤ m.lev e.2 ∧ v = m.on e (m.lv u + by_)
theorem stp_up {m : NetD} (ok : m.Ok) {u v : Spot} (hu : m.has u) : m.stp 1 u v ↔ m.rise u v := by
  constructor
  · rintro ⟨e, he, h1, h2, h3, h4, rfl⟩
    obtain ⟨a, b, c⟩ := onE_on ok he hu h1 h2
    exact ⟨e, he, m.lv u, a, h4, c, rfl⟩
  · rintro ⟨e, he, k, h1, h2, rfl, rfl⟩
    have e1 : m.lv (m.on e k) = k := lv_on h1 (by omega)
    exact ⟨e, he, on_onE, by omega, by rw [e1]; omega, by rw [e1]; exact h2, by rw [e1]⟩
theorem stp_down {m : NetD} (ok : m.Ok) {u v : Spot} (hu : m.has u) : m.stp (-1) u v ↔ m.rise v u := by
  constructor
  · rintro ⟨e, he, h1, h2, h3, h4, rfl⟩
    obtain ⟨a, b, c⟩ := onE_on ok he hu h1 h2
    refine ⟨e, he, m.lv u + -1, h3, by omega, rfl, ?_⟩
    rw [show m.lv u + -1 + 1 = m.lv u by omega]
    exact c
  · rintro ⟨e, he, k, h1, h2, rfl, rfl⟩
    have e1 : m.lv (m.on e (k + 1)) = k + 1 := lv_on (by omega) h2
    exact ⟨e, he, on_onE, by omega, by rw [e1]; omega, by rw [e1]; omega, by rw [e1, show k + 1 + -1 = k by omega]⟩
theorem shaped_of {m : NetD} (ok : m.Ok) {u : Spot} (h : m.has u) : SeqAt.shaped (dSpot u) = true := shaped_spot (NetD.has_nm ok h)
section
variable {P : Program} {w : World} {K : PySem.W.Frag} {mg : Str → Option Value} {base : Heap}
def sp_law_net (K : PySem.W.Frag) : Sp := Gives fun vs C post => ∃ a m, vs = [.ref a] ∧ ModelAt C a m ∧ post = fun v C' => ∃ b, v = .ref b ∧ NetAt C' b m
theorem c_law_net (T : Txt K mg) : C8.Cal P w K mg base 6 "_law_net" (sp_law_net K) [] := by
  refine mkCal (N := ["_law_model_here"]) (ps := ["_law_model_here"]) T.d_law_net T.g_law_net (fun _ _ _ _ _ _ us hl => match us, hl with | [_], _ => rfl) (by decide +kernel) (fun vs H Q E h => ?_) (fun cdv A outer s H vs Q E hr h => ?_)
  · obtain ⟨C, post, sc, ⟨a, m, rfl, hM, rfl⟩, q⟩ := h; rfl
  · obtain ⟨C, post, sc, ⟨a, m, rfl, hM, rfl⟩, q⟩ := h
    have hu := units1 hr
    refine ⟨_, (pss_one (ps_ret (C8.pe_mk (m_Net T) hr (by decide) (by rfl) (pa_cons (pe_dget hu (pv 0) pe_str (fun _ _ => rfl)) (pa_cons (pe_dget hu (pv 0) pe_str (fun _ _ => rfl)) pa_nil))))), ?_⟩
    obtain ⟨dh, dl, L, g1, g2, hl, hdh, hdl, hL, hT⟩ := hM.get
    refine ⟨_, rfl, a, _, rfl, g1 _ sc, _, rfl, a, _, rfl, g2 _ sc, fun x dx hx hdx hne => ?_⟩
    refine ⟨C, x, dx, dh, dl, m, L, (((Nx.rfl (M := []) sc).tmp hdx).mut (same_none sc hx) hx).ch, rfl, upd_same, same_none sc hx, hM.ok, hdh, hL, hdl, hT, fun C' H' fs n cx hH hC => ⟨rfl, q _ _ _ (Nx.made sc hx hdx n hH) ⟨x, rfl, hC⟩⟩⟩
def sp_law_height (K : PySem.W.Frag) : Sp := Pure fun vs C v => ∃ a m x u, vs = [.ref a, x] ∧ ModelAt C a m ∧ SpotV C x u ∧ m.has u ∧ v = .int (m.lv u)
theorem c_law_height (T : Txt K mg) : C8.Cal P w K mg base 1 "_law_height" (sp_law_height K) [] := by
  refine mkCal (N := ["_law_model_here", "_law_here"]) (ps := ["_law_model_here", "_law_here"]) T.d_law_height T.g_law_height (fun _ _ _ _ _ _ us hl => match us, hl with | [_, _], _ => rfl) (by decide +kernel) (fun vs H Q E h => ?_) (fun cdv A outer s H vs Q E hr h => ?_)
  · obtain ⟨C, v, sc, ⟨a, m, x, u, rfl, hM, hx, hs, rfl⟩, q⟩ := h; rfl
  · obtain ⟨C, v, sc, ⟨a, m, x, u, rfl, hM, hx, hs, rfl⟩, q⟩ := h
    have hu := units1 hr
    refine ⟨_, (pss_one (ps_ret (pe_ifExp (pt_val (pe_callB call_isi1 (by rfl) T.f_isinstance b_isinstance (pa_cons (pv 1) (pa_cons (pe_bltn (v := .ty "str") (by rfl) T.f_str b_str rfl) pa_nil)))) (pe_dget hu (pe_dget hu (pv 0) pe_str (fun _ _ => rfl)) (pv 1) (fun _ _ => rfl)) (pe_ix ix_tup (pv 1) pe_int (fun _ _ => rfl))))), ?_⟩
    obtain ⟨dh, dl, L, g1, g2, hl, hdh, hdl, hL, hT⟩ := hM.get
    cases u with
    | nd y =>
      cases hx
      exact ⟨_, rfl, _, _, _, _, rfl, .base (.str y), k_str_str, _, rfl, iteT ⟨_, rfl, a, _, rfl, g1 _ sc, _, rfl, dh, _, rfl, hl.dget sc hM.ok hs, q _ _ (Nx.rfl sc)⟩⟩
    | inn l u' k =>
      obtain ⟨t, rfl, ht⟩ := hx
      have hT := sc _ _ ht
      exact ⟨_, rfl, _, _, _, _, rfl, .base (.tup hT), k_tuple_str, _, rfl, iteF ⟨_, rfl, t, _, _, _, rfl, rfl, .of hT, rfl, q _ _ (Nx.rfl sc)⟩⟩
def sp_law_on (K : PySem.W.Frag) : Sp := Gives fun vs C post => ∃ a t m k, ∃ e : Str × Str, vs = [.ref a, .ref t, .int k] ∧ ModelAt C a m ∧ C t = some (.tup [.str e.1, .str e.2]) ∧ e ∈ m.es ∧ post = fun v C' => SpotV C' v (m.on e k)
theorem c_law_on (T : Txt K mg) : C8.Cal P w K mg base 1 "_law_on" (sp_law_on K) [] := by
  refine mkCal (N := ["_law_model_here", "_law_pair_here", "_law_height_here"]) (ps := ["_law_model_here", "_law_pair_here", "_law_height_here"]) T.d_law_on T.g_law_on (fun _ _ _ _ _ _ us hl => match us, hl with | [_, _, _], _ => rfl) (by decide +kernel) (fun vs H Q E h => ?_) (fun cdv A outer s H vs Q E hr h => ?_)
  · obtain ⟨C, post, sc, ⟨a, t, m, k, e, rfl, hM, ht, he, rfl⟩, q⟩ := h; rfl
  · obtain ⟨C, post, sc, ⟨a, t, m, k, e, rfl, hM, ht, he, rfl⟩, q⟩ := h
    have hu := units1 hr
    refine ⟨_, (pss_cons (ps_if (pt_cmpR op_eq (pv 2) (pe_dget hu (pe_dget hu (pv 0) pe_str (fun _ _ => rfl)) (pe_ix ix_tup (pv 1) pe_int (fun _ _ => rfl)) (fun _ _ => rfl)) (nomark _)) (pss_one (ps_ret (pe_ix ix_tup (pv 1) pe_int (fun _ _ => rfl)))) pss_nil)
      (pss_cons (ps_if (pt_cmpR op_eq (pv 2) (pe_dget hu (pe_dget hu (pv 0) pe_str (fun _ _ => rfl)) (pe_ix ix_tup (pv 1) pe_int (fun _ _ => rfl)) (fun _ _ => rfl)) (nomark _)) (pss_one (ps_ret (pe_ix ix_tup (pv 1) pe_int (fun _ _ => rfl)))) pss_nil)
      (pss_one (ps_ret (pe_tup (pa_cons (pe_ix ix_tup (pv 1) pe_int (fun _ _ => rfl)) (pa_cons (pe_ix ix_tup (pv 1) pe_int (fun _ _ => rfl)) (pa_cons (pv 2) pa_nil)))))))), ?_⟩
    obtain ⟨dh, dl, L, g1, g2, hl, hdh, hdl, hL, _⟩ := hM.get
    have ok := hM.ok
    have hT := sc _ _ ht
    obtain ⟨i1, i2⟩ := ok.ein e he
    refine ⟨_, rfl, _, rfl, a, _, rfl, g1 _ sc, _, rfl, t, _, _, _, rfl, rfl, .of hT, rfl, dh, _, rfl, hl.dget sc ok i1, rfl, _, rfl, ?_⟩
    by_cases c : k = m.lev e.1
    · refine iteB (by simp [c]) ⟨_, rfl, t, _, _, _, rfl, rfl, .of hT, rfl, q _ _ _ (Nx.rfl sc) ?_⟩
      rw [c, on_fst]; rfl
    · refine iteC (by simp [c]) ⟨_, rfl, _, rfl, a, _, rfl, g1 _ sc, _, rfl, t, _, _, _, rfl, rfl, .of hT, rfl, dh, _, rfl, hl.dget sc ok i2, rfl, _, rfl, ?_⟩
      by_cases c2 : k = m.lev e.2
      · refine iteB (by simp [c2]) ⟨_, rfl, t, _, _, _, rfl, rfl, .of hT, rfl, q _ _ _ (Nx.rfl sc) ?_⟩
        rw [c2, on_snd (by omega)]; rfl
      · refine iteC (by simp [c2]) ⟨_, rfl, t, _, _, _, rfl, rfl, .of hT, rfl, _, rfl, t, _, _, _, rfl, rfl, .of hT, rfl, _, rfl, sz3, fun r hr => q _ _ _ (.new0 sc hr) ?_⟩
        unfold NetD.on
        rw [if_neg c, if_neg c2]
        exact ⟨r, rfl, upd_same⟩
def sp_law_all_spots (K : PySem.W.Frag) : Sp := Gives fun vs C post => ∃ a m, vs = [.ref a] ∧ ModelAt C a m ∧ post = fun v C' => ∃ r ws l, v = .ref r ∧ C' r = some (.lst ws) ∧ Sps C' ws l ∧ l ≠ [] ∧ l.length ≤ 45 ∧ ∀ u ∈ l, m.has u
theorem c_law_all_spots (T : Txt K mg) : C8.Cal P w K mg base 1 "_law_all_spots" (sp_law_all_spots K) [] := by
  refine mkCal (N := ["_law_model_here", "_law_found", "_law_heights", "_law_lower", "_law_upper", "_law_height_here"]) (ps := ["_law_model_here"]) T.d_law_all_spots T.g_law_all_spots (fun _ _ _ _ _ _ us hl => match us, hl with | [_], _ => rfl) (by decide +kernel) (fun vs H Q E h => ?_) (fun cdv A outer s H vs Q E hr h => ?_)
  · obtain ⟨C, post, sc, ⟨a, m, rfl, hM, rfl⟩, q⟩ := h; rfl
  · obtain ⟨C, post, sc, ⟨a, m, rfl, hM, rfl⟩, q⟩ := h
    have nd : (["_law_model_here", "_law_found", "_law_heights", "_law_lower", "_law_upper", "_law_height_here"] : List Str).Nodup := by decide +kernel
    have hu := units1 hr
    refine ⟨_, (pss_cons (ps_par (i := 1) (j := 2) (by rfl) nd rfl rfl (by decide) rfl rfl (pa_cons (pe_callB (call_sortedD rfl) (by rfl) T.f_sorted b_sorted (pa_cons (pe_dget hu (pv 0) pe_str (fun _ _ => rfl)) pa_nil)) (pa_cons (pe_dget hu (pv 0) pe_str (fun _ _ => rfl)) pa_nil)) (by rfl))
      (pss_cons (ps_for PassesOwn.never rfl (pi_list (pe_dget hu (pv 0) pe_str (fun _ _ => rfl))) (pg_tup (n := 2) (by rfl) (pgs_cons (pg_name (i := 3) nd rfl (Or.inr rfl)) (pgs_cons (pg_name (i := 4) nd rfl (Or.inr rfl)) pgs_nil))) (pss_one (ps_expr (pe_bm PySem.F.plainAttrs_list PySem.F.slot_list_extend PySem.F.type_list_extend mt_extend (pv 1) (pa_cons (pe_lc (own := [("_law_height_here", 5)]) (by rfl) nd (pi_range2 (by rfl) T.f_range (pa_cons (pe_op op_add (pe_dget hu (pv 2) (pv 3) (fun _ _ => rfl)) pe_int) (pa_cons (pe_dget hu (pv 2) (pv 4) (fun _ _ => rfl)) pa_nil))) (blkOk_by (own := [("_law_height_here", 5)]) (N := ["_law_model_here", "_law_found", "_law_heights", "_law_lower", "_law_upper", "_law_height_here"]) (sc := C8.fnScope s_law_all_spots) (by decide +kernel)) (fun _ _ _ _ _ => (pg_name (i := 5) nd rfl (Or.inl rfl))) (fun _ _ _ _ _ => pts_nil) (fun _ _ _ _ _ => (pe_tup (pa_cons (pv 3) (pa_cons (pv 4) (pa_cons (pv 5) pa_nil)))))) pa_nil)))))
      (pss_one (ps_ret (pv 1))))), ?_⟩
    obtain ⟨dh, dl, L, g1, g2, hl, hdh, hdl, hL, hT⟩ := hM.get
    have ok := hM.ok
    have few := ok.few
    refine ⟨_, rfl, a, _, rfl, g1 _ sc, dh, _, m.ks, rfl, .inl (sc _ _ hdh), hsK_keys _, by unfold NetD.ks; rw [List.length_map]; omega, fun ys p pm so hp => ?_⟩
    have n1 : Nx [] C H C (upd H p (.lst (ys.map V.str))) := .tmp0 sc hp
    have d1 : Dt C (upd H p (.lst (ys.map V.str))) p (.lst (ys.map V.str)) := .make sc hp
    refine ⟨_, rfl, a, _, rfl, g1 _ n1.ch, _, _, rfl, ?_⟩
    refine ⟨_, rfl, a, _, rfl, g2 _ n1.ch, dl, rfl, ⟨_, .of (n1.ch _ _ hdl)⟩, ?_⟩
    have len : L.length = m.es.length := by rw [← hL, List.length_map]
    have ef := ok.efew
    have yl : ys.length ≤ 5 := by rw [pm.length_eq]; unfold NetD.ks; rw [List.length_map]; exact few
    refine for_it walk_list (fun i σ H' => ∃ z1 z2 C' ws l, σ = [some (.ref a), some (.ref p), some (.ref dh), z1, z2, none] ∧ Nx [] C H C' H' ∧ Dt C' H' p (.lst ws) ∧ Sps C' ws l ∧ l ≠ [] ∧ l.length ≤ 5 + 4 * i ∧ ∀ u ∈ l, m.has u) ⟨_, _, C, _, _, rfl, n1, d1, Sps.nds ys, fun z => ?_, ?_, fun u h => ?_⟩ (fun i σ' H' _ ⟨_, _, C', _, _, _, n, _⟩ => .of (n.ch _ _ (n.cc _ _ hdl))) (fun i x σ' H1 H2 hi ⟨z1, z2, C1, ws, l, es, n, d, hs, ne, hle, hh⟩ y => ?_) (fun σ' H1 ⟨z1, z2, C1, ws, l, es, n, d, hs, ne, hle, hh⟩ => ?_)
    · have : ys.length = 0 := by rw [List.map_eq_nil_iff] at z; rw [z]; rfl
      rw [pm.length_eq] at this
      unfold NetD.ks at this
      rw [List.length_map] at this
      exact ok.ne (List.length_eq_zero_iff.mp this)
    · rw [List.length_map]; omega
    · obtain ⟨y, hy, rfl⟩ := List.mem_map.mp h
      exact pm.mem_iff.mp hy
    · obtain ⟨rfl, hx⟩ := y
      subst es
      rw [List.getElem?_map] at hx
      obtain ⟨e, he, rfl⟩ := Option.map_eq_some_iff.mp hx
      have heL : e ∈ L := List.mem_of_getElem? he
      have hee : e.2 ∈ m.es := by rw [← hL]; exact List.mem_map.mpr ⟨e, heL, rfl⟩
      obtain ⟨i1, i2⟩ := ok.ein _ hee
      have hTe := n.ch _ _ (n.cc _ _ (hT e heL))
      refine ⟨e.1, _, rfl, .of hTe, rfl, _, _, rfl, _, _, rfl, rfl, ?_⟩
      have b1 := ok.lo e.2.1
      have b2 := ok.lo e.2.2
      have hl1 := hl.le n.le
      refine ⟨_, rfl, .inl ⟨rfl, _, .of d.at_⟩, _, rfl, _, rfl, dh, _, rfl, hl1.dget n.ch ok i1, _, _, rfl, rfl, _, rfl, _, rfl, dh, _, rfl, hl1.dget n.ch ok i2, _, _, rfl, ⟨by omega, by omega, by omega, by omega⟩, ?_⟩
      refine lcMap (M := []) walk_range (fun i v C => SpotV C v (.inn e.2.1 e.2.2 (m.lev e.2.1 + 1 + (i : Int)))) n.ch (fun _ h => nomatch h) (szK (by omega)) (fun _ _ _ => trivial) (fun i v C C' s h => h.same s) (fun j v C2 H2 H3 Z hj n2 y k => ?_) (fun r acc C2 H2 n2 cr hr hH hal ha => ?_)
      · obtain ⟨rfl, rfl⟩ := y
        exact ⟨rfl, _, rfl, _, rfl, _, rfl, sz3, fun t ht => k _ _ _ (.new0 n2.ch ht) ⟨t, rfl, upd_same⟩⟩
      · have d2 := d.on n2
        have n3 := n.trans n2
        have hacc := Sps.of (C := C2) (f := fun i => .inn e.2.1 e.2.2 (m.lev e.2.1 + 1 + (i : Int))) ha
        refine ⟨p, r, _, _, rfl, rfl, d2.at_, hH, szK (by have := hs.len; rw [hal]; rw [List.length_map] at hi; omega), ?_⟩
        refine ⟨_, _, C2, _, l ++ (List.range acc.length).map fun i => .inn e.2.1 e.2.2 (m.lev e.2.1 + 1 + (i : Int)), rfl, n3.mut d2.no hp, d2.put, (hs.same n2.cc).app hacc, fun z => ne (List.append_eq_nil_iff.mp z).1, ?_, fun u h => ?_⟩
        · rw [List.length_append, List.length_map, List.length_range, hal]; omega
        · rcases List.mem_append.mp h with h | h
          · exact hh u h
          · obtain ⟨j, hj, rfl⟩ := List.mem_map.mp h
            have := List.mem_range.mp hj
            exact ⟨hee, by omega, by omega⟩
    · subst es
      rw [List.length_map] at hle
      refine ⟨_, rfl, q _ _ _ (n.keep d.at_ hp) ⟨p, ws, l, rfl, upd_same, hs.same (same_upd d.no), ne, by omega, hh⟩⟩
end
end AbW

/-! ## Wo -/
set_option Elab.async false
set_option linter.all false
set_option maxRecDepth 100000
set_option maxHeartbeats 4000000
/-! Wo: the law's steps, flat steps, tuples -/
namespace AbW
open PySem PySem.Spec PyProof.Rows L2 AbH AbR Ab
section
variable {X : Cx} {K : PySem.W.Frag}
theorem op_catAK (h : X.K = K) : OpR X (binaryOp .Add) (rCatA K) := by subst h; exact op_catA
theorem sl_tupAK (h : X.K = K) : SlR X (rSlA K) := by subst h; exact sl_tupA
theorem op_eqDK (h : X.K = K) (hu : X.A.units + 64 < cLine) : OpR X (compareOp .Eq) (rEqD K) := by subst h; exact op_eqD hu
end
theorem inV_pair (x a b : Str) : inV (.str x) [.str a, .str b] = decide (x = a ∨ x = b) := by
  have := inV_strs x [a, b]
  simpa using this
/-- one of each -/
def Sel : List (List Spot) → List Spot → Prop
  | [], [] => True
  | l :: ls, u :: q => u ∈ l ∧ Sel ls q
  | _, _ => False
theorem Sel.snoc : ∀ {ls : List (List Spot)} {l : List Spot} {q : List Spot}, Sel (ls ++ [l]) q ↔ ∃ p u, q = p ++ [u] ∧ Sel ls p ∧ u ∈ l
  | [], l, [] => ⟨fun h => h.elim, fun ⟨p, u, e, _⟩ => by simp at e⟩
  | [], l, [v] => ⟨fun h => ⟨[], v, rfl, trivial, h.1⟩, fun ⟨p, u, e, h1, h2⟩ => by
      cases p with
      | nil => cases e; exact ⟨h2, trivial⟩
      | cons _ _ => exact h1.elim⟩
  | [], l, v :: v2 :: q => ⟨fun h => h.2.elim, fun ⟨p, u, e, h1, _⟩ => by
      cases p with
      | nil => simp at e
      | cons _ _ => exact h1.elim⟩
  | k :: ls, l, [] => ⟨fun h => h.elim, fun ⟨p, u, e, _⟩ => by simp at e⟩
  | k :: ls, l, v :: q => by
    have ih := Sel.snoc (ls := ls) (l := l) (q := q)
    constructor
    · rintro ⟨h1, h2⟩
      obtain ⟨p, u, rfl, h3, h4⟩ := ih.mp h2
      exact ⟨v :: p, u, rfl, ⟨h1, h3⟩, h4⟩
    · rintro ⟨p, u, e, h3, h4⟩
      cases p with
      | nil => exact h3.elim
      | cons v' p =>
        rw [List.cons_append] at e
        obtain ⟨rfl, rfl⟩ := List.cons.inj e
        exact ⟨h3.1, ih.mpr ⟨p, u, rfl, h3.2, h4⟩⟩
theorem acc_sx {C : Hp} {f : Spot → List Spot} : ∀ {acc : List V} {l : List Spot}, acc.length = l.length → (∀ (j : Nat) (v : V), acc[j]? = some v → ∃ b u, v = .ref b ∧ l[j]? = some u ∧ StV C b (f u)) →
    ∃ Y : SX, acc = Y.map (fun x => V.ref x.2) ∧ Y.map (·.1) = l.map f ∧ KeysAt C Y
  | [], [], _, _ => ⟨[], rfl, rfl, fun _ h => nomatch h⟩
  | [], _ :: _, h, _ => by simp at h
  | _ :: _, [], h, _ => by simp at h
  | v :: acc, u :: l, hl, h => by
    obtain ⟨b, u', e, e2, hb⟩ := h 0 v rfl
    cases e2
    obtain ⟨Y, h1, h2, h3⟩ := acc_sx (acc := acc) (l := l) (by simpa using hl) fun j v hv => by
      have := h (j + 1) v (by simpa using hv)
      simpa using this
    refine ⟨(f u, b) :: Y, by rw [e, h1]; rfl, by rw [List.map_cons, List.map_cons, h2], fun x hx => ?_⟩
    rcases List.mem_cons.mp hx with rfl | hx
    · exact hb
    · exact h3 x hx
theorem KeysAt.app {C : Hp} {X Y : SX} (h : KeysAt C X) (h' : KeysAt C Y) : KeysAt C (X ++ Y) := fun x hx => (List.mem_append.mp hx).elim (h x) (h' x)
abbrev refs (X : SX) : List V := X.map fun x => V.ref x.2
theorem any_spot (u : Spot) (a b : Str) : (([.str a, .str b] : List PyData).any fun z => PyData.eqv z (dSpot u)) = decide (u = .nd a ∨ u = .nd b) := by
  have h1 : PyData.eqv (.str a) (dSpot u) = decide (Spot.nd a = u) := eqv_spot (.nd a) u
  have h2 : PyData.eqv (.str b) (dSpot u) = decide (Spot.nd b = u) := eqv_spot (.nd b) u
  simp only [List.any_cons, List.any_nil, Bool.or_false]
  rw [h1, h2]
  rw [Bool.eq_iff_iff, Bool.or_eq_true, decide_eq_true_eq, decide_eq_true_eq, decide_eq_true_eq]
  exact ⟨fun h => h.imp Eq.symm Eq.symm, fun h => h.imp Eq.symm Eq.symm⟩
theorem shaped_pairN {x : Str × Str} (h1 : NameOk x.1) (h2 : NameOk x.2) : SeqAt.shaped (.tuple [.str x.1, .str x.2]) = true := shaped_pair (x := x) h1 h2
section
variable {P : Program} {w : World} {K : PySem.W.Frag} {mg : Str → Option Value} {base : Heap}
def sp_law_steps (K : PySem.W.Frag) : Sp := Gives fun vs C post => ∃ a m x u, ∃ by_ : Int, vs = [.ref a, x, .int by_] ∧ ModelAt C a m ∧ SpotV C x u ∧ m.has u ∧ post = fun v C' => ∃ r ws l, v = .ref r ∧ C' r = some (.lst ws) ∧ Sps C' ws l ∧ l.length ≤ 10 ∧ ∀ v', v' ∈ l ↔ m.stp by_ u v'
theorem c_law_steps (T : Txt K mg) : C8.Cal P w K mg base 2 "_law_steps" (sp_law_steps K) [] := by
  refine mkCal (N := ["_law_model_here", "_law_here", "_law_by", "_law_heights", "_law_found", "_law_aim", "_law_pair_here", "_law_is_on"]) (ps := ["_law_model_here", "_law_here", "_law_by"]) T.d_law_steps T.g_law_steps (fun _ _ _ _ _ _ us hl => match us, hl with | [_, _, _], _ => rfl) (by decide +kernel) (fun vs H Q E h => ?_) (fun cdv A outer s H vs Q E hr h => ?_)
  · obtain ⟨C, post, sc, ⟨a, m, x, u, by_, rfl, hM, hx, hs, rfl⟩, q⟩ := h; rfl
  · obtain ⟨C, post, sc, ⟨a, m, x, u, by_, rfl, hM, hx, hs, rfl⟩, q⟩ := h
    have nd : (["_law_model_here", "_law_here", "_law_by", "_law_heights", "_law_found", "_law_aim", "_law_pair_here", "_law_is_on"] : List Str).Nodup := by decide +kernel
    have hu := units1 hr
    refine ⟨_, (pss_cons (ps_par (i := 3) (j := 4) (by rfl) nd rfl rfl (by decide) rfl rfl (pa_cons (pe_dget hu (pv 0) pe_str (fun _ _ => rfl)) (pa_cons (pe_lst pa_nil) pa_nil)) (by rfl))
      (pss_cons (ps_set (i := 5) nd rfl (Or.inl rfl) (pe_op op_add (C8.pe_c (c_law_height T) hr (by decide) (by rfl) (pa_cons (pv 0) (pa_cons (pv 1) pa_nil))) (pv 2)))
      (pss_cons (ps_for PassesOwn.never rfl (pi_list (pe_dget hu (pv 0) pe_str (fun _ _ => rfl))) (pg_name (i := 6) nd rfl (Or.inl rfl)) (pss_cons (ps_set (i := 7) nd rfl (Or.inl rfl) (pe_ifExp (pt_val (pe_callB call_isi1 (by rfl) T.f_isinstance b_isinstance (pa_cons (pv 1) (pa_cons (pe_bltn (v := .ty "str") (by rfl) T.f_str b_str rfl) pa_nil)))) (pe_cmpR op_in_seq (pv 1) (pv 6) (by rfl)) (pe_cmpR (op_eqD hr.units) (pe_slice sl_tupA (pv 1) po_none (po_some pe_int)) (pv 6) (nomark _))))
      (pss_one (ps_if (PW.pt (pw_and (pt_val (pv 7)) (pw_and (pt_cmpR op_lt (pe_dget hu (pv 3) (pe_ix ix_tup (pv 6) pe_int (fun _ _ => rfl)) (fun _ _ => rfl)) (pe_dget hu (pv 3) (pe_ix ix_tup (pv 6) pe_int (fun _ _ => rfl)) (fun _ _ => rfl)) (nomark _)) (pw_and1 (pt_chain op_le op_le (pe_dget hu (pv 3) (pe_ix ix_tup (pv 6) pe_int (fun _ _ => rfl)) (fun _ _ => rfl)) (pv 5) (pe_dget hu (pv 3) (pe_ix ix_tup (pv 6) pe_int (fun _ _ => rfl)) (fun _ _ => rfl))))))) (pss_one (ps_expr (pe_bm PySem.F.plainAttrs_list PySem.F.slot_list_append PySem.F.type_list_append mt_append (pv 4) (pa_cons (C8.pe_c (c_law_on T) hr (by decide) (by rfl) (pa_cons (pv 0) (pa_cons (pv 6) (pa_cons (pv 5) pa_nil)))) pa_nil)))) pss_nil))))
      (pss_one (ps_ret (pv 4)))))), ?_⟩
    obtain ⟨dh, dl, L, g1, g2, hl, hdh, hdl, hL, hT⟩ := hM.get
    have ok := hM.ok
    have ef := ok.efew
    have len : L.length = m.es.length := by rw [← hL, List.length_map]
    refine ⟨_, rfl, a, _, rfl, g1 _ sc, sz0, fun F hF => ⟨_, _, rfl, ?_⟩⟩
    have n0 : Nx [] C H C (upd H F (.lst [])) := .tmp0 sc hF
    have d0 : Dt C (upd H F (.lst [])) F (.lst []) := .make sc hF
    refine ⟨_, rfl, _, rfl, C, _, n0.ch, ⟨a, m, x, u, rfl, hM, hx, hs, rfl⟩, fun C1 H1 n1 => ⟨_, rfl, _, _, rfl, rfl, ?_⟩⟩
    have d1 := d0.on n1
    have n1 := n0.trans n1
    refine ⟨_, rfl, a, _, rfl, g2 _ (n1.cc.trans n1.ch), dl, rfl, ⟨_, .of (n1.ch _ _ (n1.cc _ _ hdl))⟩, ?_⟩
    refine for_it walk_list (fun i σ' H' => ∃ z1 z2 C' ws l, σ' = [some (.ref a), some x, some (.int by_), some (.ref dh), some (.ref F), some (.int (m.lv u + by_)), z1, z2] ∧ Nx [] C H C' H' ∧ Dt C' H' F (.lst ws) ∧ Sps C' ws l ∧ l.length ≤ i ∧
      ∀ v', v' ∈ l ↔ ∃ e ∈ (L.take i).map (·.2), NetD.onE u e ∧ m.lev e.1 < m.lev e.2 ∧ m.lev e.1 ≤ m.lv u + by_ ∧ m.lv u + by_ ≤ m.lev e.2 ∧ v' = m.on e (m.lv u + by_)) ⟨_, _, C1, [], [], rfl, n1, d1, .nil, Nat.le_refl _, fun v' => by simp⟩ (fun i σ' H' _ ⟨_, _, C', _, _, _, n, _⟩ => .of (n.ch _ _ (n.cc _ _ hdl))) (fun i y σ' H2 H3 hi ⟨z1, z2, C2, ws, l, es, n, d, hw, hle, hv⟩ yy => ?_) (fun σ' H2 ⟨z1, z2, C2, ws, l, es, n, d, hw, hle, hv⟩ => ?_)
    · obtain ⟨rfl, hy⟩ := yy
      subst es
      rw [List.getElem?_map] at hy
      obtain ⟨e, he, rfl⟩ := Option.map_eq_some_iff.mp hy
      have heL : e ∈ L := List.mem_of_getElem? he
      have hee : e.2 ∈ m.es := by rw [← hL]; exact List.mem_map.mpr ⟨e, heL, rfl⟩
      obtain ⟨i1, i2⟩ := ok.ein _ hee
      obtain ⟨nm1, nm2⟩ := ok.nms _ hee
      have hTe := n.ch _ _ (n.cc _ _ (hT e heL))
      have hx2 := hx.same n.cc
      refine cutSA (R := fun v H' => ∃ C' b, v = .bl b ∧ (b = true ↔ NetD.onE u e.2) ∧ Nx [] C2 H3 C' H') (fun Q' kk => ?_) (fun v H4 ⟨C4, b, ev, hb, n4⟩ => ?_)
      · cases u with
        | nd y =>
          cases hx2
          refine ⟨_, rfl, _, _, _, _, rfl, .base (.str y), k_str_str, _, rfl, iteT ⟨_, rfl, _, rfl, e.1, _, rfl, .inr (.of hTe), rfl, rfl, ?_⟩⟩
          refine kk _ _ ⟨C2, _, rfl, ?_, .rfl n.ch⟩
          show inV (.str y) [.str e.2.1, .str e.2.2] = true ↔ _
          rw [inV_pair, decide_eq_true_eq]
          rfl
        | inn l' u' k =>
          obtain ⟨t, rfl, ht⟩ := hx2
          have hT2 := n.ch _ _ ht
          have nm := NetD.has_nm ok hs
          refine ⟨_, rfl, _, _, _, _, rfl, .base (.tup hT2), k_tuple_str, _, rfl, iteF ⟨_, rfl, _, rfl, t, _, rfl, .of hT2, fun z => absurd z (by simp [HT.sIx]), fun _ s hsl => ?_⟩⟩
          have n5 : Nx [] C2 H3 C2 (upd H3 s (.tup (cutV [V.str l', .str u', .int k] none (some 2)))) := .tmp0 n.ch hsl
          refine ⟨_, rfl, dPair (l', u'), dPair e.2, dp_pair upd_same, dp_pair (n5.ch _ _ (n.cc _ _ (hT e heL))), shaped_pair nm.1 nm.2, shaped_pair nm1 nm2, ?_⟩
          rw [eqv_pair]
          exact kk _ _ ⟨C2, _, rfl, decide_eq_true_iff, n5⟩
      subst ev
      have n5 := n.trans n4
      have d5 := d.on n4
      have hTe5 := n5.ch _ _ (n5.cc _ _ (hT e heL))
      have hl5 := hl.le n5.le
      have g3 := hl5.dget n5.ch ok i1
      have g4 := hl5.dget n5.ch ok i2
      have tk : (L.take (i + 1)).map (·.2) = (L.take i).map (·.2) ++ [e.2] := by rw [List.take_add_one, he, List.map_append]; rfl
      show tIfS _ _ _ _ _ _
      refine cutI (R := fun c H' => H' = H4 ∧ (c = true ↔ NetD.onE u e.2 ∧ m.lev e.2.1 < m.lev e.2.2 ∧ m.lev e.2.1 ≤ m.lv u + by_ ∧ m.lv u + by_ ≤ m.lev e.2.2)) (fun Q' kk => ?_) (fun c H5 ⟨eH, hc⟩ => ?_)
      · refine ⟨_, rfl, b, rfl, ?_⟩
        cases b with
        | false => exact iteF (kk _ _ ⟨rfl, by have := fun z => hb.mpr z; simp; exact fun z => absurd (hb.mpr z) (by simp)⟩)
        | true =>
          have hon := hb.mp rfl
          refine iteT ⟨_, rfl, _, rfl, e.1, _, _, _, rfl, rfl, .of hTe5, rfl, dh, _, rfl, g3, _, rfl, _, rfl, e.1, _, _, _, rfl, rfl, .of hTe5, rfl, dh, _, rfl, g4, _, _, rfl, rfl, _, rfl, ?_⟩
          by_cases c1 : m.lev e.2.1 < m.lev e.2.2
          · refine iteP c1 ⟨_, rfl, _, rfl, e.1, _, _, _, rfl, rfl, .of hTe5, rfl, dh, _, rfl, g3, _, rfl, _, _, rfl, rfl, _, rfl, ?_⟩
            by_cases c2 : m.lev e.2.1 ≤ m.lv u + by_
            · refine iteP c2 ⟨_, rfl, _, rfl, e.1, _, _, _, rfl, rfl, .of hTe5, rfl, dh, _, rfl, g4, _, _, rfl, rfl, _, rfl, kk _ _ ⟨rfl, ?_⟩⟩
              rw [decide_eq_true_eq]
              exact ⟨fun h => ⟨hon, c1, c2, h⟩, fun h => h.2.2.2⟩
            · exact iteQ c2 ⟨_, rfl, kk _ _ ⟨rfl, by simp; exact fun _ _ z => absurd z c2⟩⟩
          · exact iteQ c1 (kk _ _ ⟨rfl, by simp; exact fun _ z => absurd z c1⟩)
      subst eH
      cases c with
      | false =>
        refine iteF ⟨_, _, C4, ws, l, rfl, n5, d5, hw.same n4.cc, by omega, fun v' => ?_⟩
        rw [hv, tk]
        constructor
        · rintro ⟨e', he', r⟩
          exact ⟨e', List.mem_append_left _ he', r⟩
        · rintro ⟨e', he', r1, r2, r3, r4, r5⟩
          rcases List.mem_append.mp he' with he' | he'
          · exact ⟨e', he', r1, r2, r3, r4, r5⟩
          · cases List.mem_singleton.mp he'
            exact absurd (hc.mpr ⟨r1, r2, r3, r4⟩) (by simp)
      | true =>
        obtain ⟨c1, c2, c3, c4⟩ := hc.mp rfl
        refine iteT ⟨_, rfl, .inl ⟨rfl, _, .of d5.at_⟩, _, rfl, _, rfl, _, rfl, C4, _, n5.ch, ⟨a, e.1, m, m.lv u + by_, e.2, rfl, hM.same n5.cc, n5.cc _ _ (hT e heL), hee, rfl⟩, fun v C6 H6 n6 h6 => ?_⟩
        have d6 := d5.on n6
        refine ⟨F, _, _, rfl, rfl, d6.at_, szL (by have := hw.len; rw [List.length_map] at hi; omega), ?_⟩
        refine ⟨_, _, C6, _, l ++ [m.on e.2 (m.lv u + by_)], rfl, (n5.trans n6).mut d6.no hF, d6.put, (hw.same (n4.cc.trans n6.cc)).app (.cons h6 .nil), by rw [List.length_append, List.length_singleton]; omega, fun v' => ?_⟩
        rw [List.mem_append, hv, tk, List.mem_singleton]
        constructor
        · rintro (⟨e', he', r⟩ | rfl)
          · exact ⟨e', List.mem_append_left _ he', r⟩
          · exact ⟨e.2, List.mem_append_right _ (List.mem_singleton.mpr rfl), c1, c2, c3, c4, rfl⟩
        · rintro ⟨e', he', r1, r2, r3, r4, r5⟩
          rcases List.mem_append.mp he' with he' | he'
          · exact .inl ⟨e', he', r1, r2, r3, r4, r5⟩
          · cases List.mem_singleton.mp he'
            exact .inr r5
    · subst es
      rw [List.length_map] at hle hv
      refine ⟨_, rfl, q _ _ _ (n.keep d.at_ hF) ⟨F, ws, l, rfl, upd_same, hw.same (same_upd d.no), by omega, fun v' => ?_⟩⟩
      rw [hv, List.take_length, hL]
      rfl
def sp_law_flats (K : PySem.W.Frag) : Sp := Gives fun vs C post => ∃ a m x u, vs = [.ref a, x] ∧ ModelAt C a m ∧ SpotV C x u ∧ m.has u ∧ post = fun v C' => ∃ r ws l, v = .ref r ∧ C' r = some (.lst ws) ∧ Sps C' ws l ∧ l.length ≤ 10 ∧ ∀ v', v' ∈ l ↔ m.flat u v'
theorem c_law_flats (T : Txt K mg) : C8.Cal P w K mg base 1 "_law_flats" (sp_law_flats K) [] := by
  refine mkCal (N := ["_law_model_here", "_law_here", "_law_found", "_law_heights", "_law_pair_here"]) (ps := ["_law_model_here", "_law_here"]) T.d_law_flats T.g_law_flats (fun _ _ _ _ _ _ us hl => match us, hl with | [_, _], _ => rfl) (by decide +kernel) (fun vs H Q E h => ?_) (fun cdv A outer s H vs Q E hr h => ?_)
  · obtain ⟨C, post, sc, ⟨a, m, x, u, rfl, hM, hx, hs, rfl⟩, q⟩ := h; rfl
  · obtain ⟨C, post, sc, ⟨a, m, x, u, rfl, hM, hx, hs, rfl⟩, q⟩ := h
    have nd : (["_law_model_here", "_law_here", "_law_found", "_law_heights", "_law_pair_here"] : List Str).Nodup := by decide +kernel
    have hu := units1 hr
    refine ⟨_, (pss_cons (ps_par (i := 2) (j := 3) (by rfl) nd rfl rfl (by decide) rfl rfl (pa_cons (pe_lst pa_nil) (pa_cons (pe_dget hu (pv 0) pe_str (fun _ _ => rfl)) pa_nil)) (by rfl))
      (pss_cons (ps_for PassesOwn.never rfl (pi_list (pe_dget hu (pv 0) pe_str (fun _ _ => rfl))) (pg_name (i := 4) nd rfl (Or.inl rfl)) (pss_one (ps_if (PW.pt (pw_and (pt_cmpR op_eq (pe_dget hu (pv 3) (pe_ix ix_tup (pv 4) pe_int (fun _ _ => rfl)) (fun _ _ => rfl)) (pe_dget hu (pv 3) (pe_ix ix_tup (pv 4) pe_int (fun _ _ => rfl)) (fun _ _ => rfl)) (nomark _)) (pw_and1 (pt_cmpR (op_inDT (units65 hr)) (pv 1) (pv 4) (by rfl))))) (pss_one (ps_expr (pe_bm PySem.F.plainAttrs_list PySem.F.slot_list_append PySem.F.type_list_append mt_append (pv 2) (pa_cons (pe_ifExp (pt_cmpR op_eq (pv 1) (pe_ix ix_tup (pv 4) pe_int (fun _ _ => rfl)) (nomark _)) (pe_ix ix_tup (pv 4) pe_int (fun _ _ => rfl)) (pe_ix ix_tup (pv 4) pe_int (fun _ _ => rfl))) pa_nil)))) pss_nil)))
      (pss_one (ps_ret (pv 2))))), ?_⟩
    obtain ⟨dh, dl, L, g1, g2, hl, hdh, hdl, hL, hT⟩ := hM.get
    have ok := hM.ok
    have ef := ok.efew
    have len : L.length = m.es.length := by rw [← hL, List.length_map]
    refine ⟨sz0, fun F hF => ?_⟩
    have n0 : Nx [] C H C (upd H F (.lst [])) := .tmp0 sc hF
    have d0 : Dt C (upd H F (.lst [])) F (.lst []) := .make sc hF
    refine ⟨_, rfl, a, _, rfl, g1 _ n0.ch, _, _, rfl, ?_⟩
    refine ⟨_, rfl, a, _, rfl, g2 _ n0.ch, dl, rfl, ⟨_, .of (n0.ch _ _ hdl)⟩, ?_⟩
    refine for_it walk_list (fun i σ' H' => ∃ z1 C' ws l, σ' = [some (.ref a), some x, some (.ref F), some (.ref dh), z1] ∧ Nx [] C H C' H' ∧ Dt C' H' F (.lst ws) ∧ Sps C' ws l ∧ l.length ≤ i ∧
      ∀ v', v' ∈ l ↔ ∃ e ∈ (L.take i).map (·.2), m.lev e.1 = m.lev e.2 ∧ ((u = .nd e.1 ∧ v' = .nd e.2) ∨ (u = .nd e.2 ∧ v' = .nd e.1))) ⟨_, C, [], [], rfl, n0, d0, .nil, Nat.le_refl _, fun v' => by simp⟩ (fun i σ' H' _ ⟨_, C', _, _, _, n, _⟩ => .of (n.ch _ _ (n.cc _ _ hdl))) (fun i y σ' H2 H3 hi ⟨z1, C2, ws, l, es, n, d, hw, hle, hv⟩ yy => ?_) (fun σ' H2 ⟨z1, C2, ws, l, es, n, d, hw, hle, hv⟩ => ?_)
    · obtain ⟨rfl, hy⟩ := yy
      subst es
      rw [List.getElem?_map] at hy
      obtain ⟨e, he, rfl⟩ := Option.map_eq_some_iff.mp hy
      have heL : e ∈ L := List.mem_of_getElem? he
      have hee : e.2 ∈ m.es := by rw [← hL]; exact List.mem_map.mpr ⟨e, heL, rfl⟩
      obtain ⟨i1, i2⟩ := ok.ein _ hee
      obtain ⟨nm1, nm2⟩ := ok.nms _ hee
      have hTe := n.ch _ _ (n.cc _ _ (hT e heL))
      have hx2 := hx.same n.cc
      have hl5 := hl.le n.le
      have g3 := hl5.dget n.ch ok i1
      have g4 := hl5.dget n.ch ok i2
      have tk : (L.take (i + 1)).map (·.2) = (L.take i).map (·.2) ++ [e.2] := by rw [List.take_add_one, he, List.map_append]; rfl
      show tIfS _ _ _ _ _ _
      refine cutI (R := fun c H' => H' = H3 ∧ (c = true ↔ m.lev e.2.1 = m.lev e.2.2 ∧ (u = .nd e.2.1 ∨ u = .nd e.2.2))) (fun Q' kk => ?_) (fun c H5 ⟨eH, hc⟩ => ?_)
      · refine ⟨_, rfl, _, rfl, e.1, _, _, _, rfl, rfl, .of hTe, rfl, dh, _, rfl, g3, _, rfl, _, rfl, e.1, _, _, _, rfl, rfl, .of hTe, rfl, dh, _, rfl, g4, rfl, _, rfl, ?_⟩
        by_cases c1 : m.lev e.2.1 = m.lev e.2.2
        · refine iteB (by simp [c1]) ⟨_, rfl, _, rfl, dSpot u, [.str e.2.1, .str e.2.2], dp_spot (hx2.same n.ch), .tup (.of hTe) (.cons (.str _) (.cons (.str _) .nil)), shaped_of ok hs, shaped_pairN nm1 nm2, _, rfl, ?_⟩
          rw [any_spot]
          exact kk _ _ ⟨rfl, by simp [c1]⟩
        · exact iteC (by simp [c1]) (kk _ _ ⟨rfl, by simp [c1]⟩)
      subst eH
      cases c with
      | false =>
        refine iteF ⟨_, C2, ws, l, rfl, n, d, hw, by omega, fun v' => ?_⟩
        rw [hv, tk]
        constructor
        · rintro ⟨e', he', r⟩
          exact ⟨e', List.mem_append_left _ he', r⟩
        · rintro ⟨e', he', r1, r2⟩
          rcases List.mem_append.mp he' with he' | he'
          · exact ⟨e', he', r1, r2⟩
          · cases List.mem_singleton.mp he'
            exact absurd (hc.mpr ⟨r1, r2.elim (fun h => .inl h.1) (fun h => .inr h.1)⟩) (by simp)
      | true =>
        obtain ⟨c1, c2⟩ := hc.mp rfl
        have ne12 := ok.e12 hee
        refine iteT ⟨_, rfl, .inl ⟨rfl, _, .of d.at_⟩, ?_⟩
        obtain ⟨y, rfl⟩ : ∃ y, u = .nd y := c2.elim (fun h => ⟨_, h⟩) (fun h => ⟨_, h⟩)
        cases hx2
        refine ⟨_, rfl, _, rfl, e.1, _, _, _, rfl, rfl, .of hTe, rfl, rfl, _, rfl, ?_⟩
        have fin : ∀ z : Str, ((Spot.nd y = .nd e.2.1 ∧ z = e.2.2) ∨ (Spot.nd y = .nd e.2.2 ∧ z = e.2.1)) → ∀ v', v' ∈ l ++ [.nd z] ↔ ∃ e' ∈ (L.take (i + 1)).map (·.2), m.lev e'.1 = m.lev e'.2 ∧ ((Spot.nd y = .nd e'.1 ∧ v' = .nd e'.2) ∨ (Spot.nd y = .nd e'.2 ∧ v' = .nd e'.1)) := fun z hz v' => by
          rw [List.mem_append, hv, tk, List.mem_singleton]
          constructor
          · rintro (⟨e', he', r⟩ | rfl)
            · exact ⟨e', List.mem_append_left _ he', r⟩
            · refine ⟨e.2, List.mem_append_right _ (List.mem_singleton.mpr rfl), c1, ?_⟩
              rcases hz with ⟨h1, rfl⟩ | ⟨h1, rfl⟩
              · exact .inl ⟨h1, rfl⟩
              · exact .inr ⟨h1, rfl⟩
          · rintro ⟨e', he', r1, r2⟩
            rcases List.mem_append.mp he' with he' | he'
            · exact .inl ⟨e', he', r1, r2⟩
            · cases List.mem_singleton.mp he'
              refine .inr ?_
              rcases hz with ⟨h1, rfl⟩ | ⟨h1, rfl⟩ <;> rcases r2 with ⟨h2, rfl⟩ | ⟨h2, rfl⟩
              · rfl
              · rw [h1] at h2; exact absurd (Spot.nd.inj h2) ne12
              · rw [h1] at h2; exact absurd (Spot.nd.inj h2).symm ne12
              · rfl
        have hlen := hw.len
        by_cases c3 : y = e.2.1
        · refine iteB (by simp [c3]) ⟨_, rfl, e.1, _, _, _, rfl, rfl, .of hTe, rfl, F, _, _, rfl, rfl, d.at_, szL (by rw [List.length_map] at hi; omega), ?_⟩
          exact ⟨_, C2, _, l ++ [.nd e.2.2], rfl, n.mut d.no hF, d.put, hw.app (.cons (show SpotV C2 _ (.nd e.2.2) from rfl) .nil), by rw [List.length_append, List.length_singleton]; omega, fin e.2.2 (.inl ⟨by rw [c3], rfl⟩)⟩
        · have c4 : Spot.nd y = .nd e.2.2 := c2.resolve_left (fun z => c3 (by cases z; rfl))
          refine iteC (by simp [c3]) ⟨_, rfl, e.1, _, _, _, rfl, rfl, .of hTe, rfl, F, _, _, rfl, rfl, d.at_, szL (by rw [List.length_map] at hi; omega), ?_⟩
          exact ⟨_, C2, _, l ++ [.nd e.2.1], rfl, n.mut d.no hF, d.put, hw.app (.cons (show SpotV C2 _ (.nd e.2.1) from rfl) .nil), by rw [List.length_append, List.length_singleton]; omega, fin e.2.1 (.inr ⟨c4, rfl⟩)⟩
    · subst es
      rw [List.length_map] at hle hv
      refine ⟨_, rfl, q _ _ _ (n.keep d.at_ hF) ⟨F, ws, l, rfl, upd_same, hw.same (same_upd d.no), by omega, fun v' => ?_⟩⟩
      rw [hv, List.take_length, hL]
      rfl
end
end AbW

/-! ## Wq -/
set_option Elab.async false
set_option linter.all false
set_option maxRecDepth 100000
set_option maxHeartbeats 4000000
/-! Wq: the law's tuples, the stances near -/
namespace AbW
open PySem PySem.Spec PyProof.Rows L2 AbH AbR Ab
theorem rcat_any {K : PySem.W.Frag} {C H : Hp} {a b : Addr} {xs ys : List V} {Q : VK} (sc : Same C H) (ha : H a = some (.tup xs)) (hb : H b = some (.tup ys)) (hz : xs.length + ys.length ≤ sizeLine) (k : ∀ p H', Nx [] C H C H' → H' p = some (.tup (xs ++ ys)) → Q (.ref p) H') :
    rCatA K (.ref a) (.ref b) H Q :=
  ⟨a, b, xs, ys, rfl, rfl, .of ha, .of hb, hz, fun e => k b H (.rfl sc) (by rw [e]; exact hb), fun _ e => k a H (.rfl sc) (by rw [e, List.append_nil]; exact ha), fun _ _ p hp => k p _ (.tmp0 sc hp) upd_same⟩
theorem cut_whole {xs : List V} {lo hi : Option Int} (h : HT.sIx xs.length 0 lo = 0 ∧ HT.sIx xs.length xs.length hi = xs.length) : cutV xs lo hi = xs := by
  unfold cutV
  rw [h.1, h.2]
  simp
theorem rsl_any {K : PySem.W.Frag} {C H : Hp} {a : Addr} {xs : List V} {lo hi : Option Int} {Q : VK} (sc : Same C H) (ha : H a = some (.tup xs)) (k : ∀ p H', Nx [] C H C H' → H' p = some (.tup (cutV xs lo hi)) → Q (.ref p) H') : rSlA K (.ref a) lo hi H Q :=
  ⟨a, xs, rfl, .of ha, fun h => k a H (.rfl sc) (by rw [cut_whole h]; exact ha), fun _ p hp => k p _ (.tmp0 sc hp) upd_same⟩
theorem cut_to {xs : List V} {k : Nat} (h : k ≤ xs.length) : cutV xs none (some (k : Int)) = xs.take k := by
  unfold cutV
  rw [HT.sIx_none, HT.sIx_nat, Nat.min_eq_left h]
  simp
theorem cut_from {xs : List V} {k : Nat} (h : k ≤ xs.length) : cutV xs (some (k : Int)) none = xs.drop k := by
  unfold cutV
  rw [HT.sIx_none, HT.sIx_nat, Nat.min_eq_left h]
  exact List.take_of_length_le (by rw [List.length_drop]; omega)
theorem Sps.take {C : Hp} : ∀ {vs : List V} {l : List Spot} (n : Nat), Sps C vs l → Sps C (vs.take n) (l.take n)
  | _, _, 0, _ => .nil
  | _, _, _ + 1, .nil => .nil
  | _, _, n + 1, .cons r t => .cons r (Sps.take n t)
theorem Sps.drop {C : Hp} : ∀ {vs : List V} {l : List Spot} (n : Nat), Sps C vs l → Sps C (vs.drop n) (l.drop n)
  | _, _, 0, h => h
  | _, _, _ + 1, .nil => .nil
  | _, _, n + 1, .cons _ t => Sps.drop n t
/-- models at their places -/
abbrev MX : Type := List (Addr × NetD)
structure Mods (C : Hp) (r : Addr) (M : MX) : Prop where
  at_ : C r = some (.lst (M.map fun x => V.ref x.1))
  ok : ∀ x ∈ M, ModelAt C x.1 x.2
theorem Mods.same {C C' : Hp} {r : Addr} {M : MX} (h : Mods C r M) (s : Same C C') : Mods C' r M := ⟨s _ _ h.at_, fun x hx => (h.ok x hx).same s⟩
abbrev msOf (M : MX) : List NetD := M.map (·.2)
theorem refs_at {X : SX} {i : Nat} {v : V} (h : (refs X)[i]? = some v) : ∃ l b, X[i]? = some (l, b) ∧ v = .ref b := by
  rw [List.getElem?_map] at h
  obtain ⟨x, hx, rfl⟩ := Option.map_eq_some_iff.mp h
  exact ⟨x.1, x.2, hx, rfl⟩
theorem tk_fst {X : SX} {i : Nat} {x : List Spot × Addr} (h : X[i]? = some x) : (X.take (i + 1)).map (·.1) = (X.take i).map (·.1) ++ [x.1] := by
  rw [List.take_add_one, h, List.map_append]; rfl
section
variable {P : Program} {w : World} {K : PySem.W.Frag} {mg : Str → Option Value} {base : Heap}
def sp_law_tuples (K : PySem.W.Frag) : Sp := Gives fun vs C post => ∃ r, ∃ D : List (Addr × List V × List Spot), vs = [.ref r] ∧ C r = some (.lst (D.map fun d => V.ref d.1)) ∧ (∀ d ∈ D, C d.1 = some (.lst d.2.1) ∧ Sps C d.2.1 d.2.2 ∧ d.2.2.length ≤ 10) ∧ D.length ≤ 3 ∧
  post = fun v C' => ∃ t, ∃ X : SX, v = .ref t ∧ C' t = some (.lst (refs X)) ∧ KeysAt C' X ∧ X.length ≤ 1000 ∧ ∀ q, q ∈ X.map (·.1) ↔ Sel (D.map (·.2.2)) q
theorem c_law_tuples (T : Txt K mg) : C8.Cal P w K mg base 1 "_law_tuples" (sp_law_tuples K) [] := by
  refine mkCal (N := ["_law_lists", "_law_found", "_law_some", "_law_longer", "_law_row", "_law_near_here"]) (ps := ["_law_lists"]) T.d_law_tuples T.g_law_tuples (fun _ _ _ _ _ _ us hl => match us, hl with | [_], _ => rfl) (by decide +kernel) (fun vs H Q E h => ?_) (fun cdv A outer s H vs Q E hr h => ?_)
  · obtain ⟨C, post, sc, ⟨r, D, rfl, hr, hD, h3, rfl⟩, q⟩ := h; rfl
  · obtain ⟨C, post, sc, ⟨r, D, rfl, hr, hD, h3, rfl⟩, q⟩ := h
    have nd : (["_law_lists", "_law_found", "_law_some", "_law_longer", "_law_row", "_law_near_here"] : List Str).Nodup := by decide +kernel
    refine ⟨_, (pss_cons (ps_set (i := 1) nd rfl (Or.inl rfl) (pe_lst (pa_cons (pe_tup pa_nil) pa_nil)))
      (pss_cons (ps_for PassesOwn.never rfl (pi_list (pv 0)) (pg_name (i := 2) nd rfl (Or.inl rfl)) (pss_cons (ps_set (i := 3) nd rfl (Or.inl rfl) (pe_lst pa_nil))
      (pss_cons (ps_for PassesOwn.never rfl (pi_list (pv 1)) (pg_name (i := 4) nd rfl (Or.inr rfl)) (pss_one (ps_expr (pe_bm PySem.F.plainAttrs_list PySem.F.slot_list_extend PySem.F.type_list_extend mt_extend (pv 3) (pa_cons (pe_lc (own := [("_law_near_here", 5)]) (by rfl) nd (pi_list (pv 2)) (blkOk_by (own := [("_law_near_here", 5)]) (N := ["_law_lists", "_law_found", "_law_some", "_law_longer", "_law_row", "_law_near_here"]) (sc := C8.fnScope s_law_tuples) (by decide +kernel)) (fun _ _ _ _ _ => (pg_name (i := 5) nd rfl (Or.inl rfl))) (fun _ _ _ _ _ => pts_nil) (fun _ _ _ _ _ => (pe_op (op_catAK (K := K) rfl) (pv 4) (pe_tup (pa_cons (pv 5) pa_nil))))) pa_nil)))))
      (pss_one (ps_set (i := 1) nd rfl (Or.inl rfl) (pv 3))))))
      (pss_one (ps_ret (pv 1))))), ?_⟩
    refine ⟨sz0, fun t ht => ⟨sz1, fun f hf => ?_⟩⟩
    have n0 : Nx [] C H (upd C t (.tup [])) (upd H t (.tup [])) := .new0 sc ht
    have n1 := n0.new (o := .lst [.ref t]) hf
    have t1 : (upd (upd C t (.tup [])) f (.lst [.ref t])) t = some (.tup []) := by
      rw [upd_ne (fun z => by rw [← z, upd_same] at hf; cases hf)]; exact upd_same
    refine ⟨_, rfl, r, rfl, ⟨_, .of (n1.ch _ _ (n1.cc _ _ hr))⟩, ?_⟩
    refine for_it walk_list (fun i σ' H' => ∃ z1 z2 z3 f C', ∃ X : SX, σ' = [some (.ref r), some (.ref f), z1, z2, z3, none] ∧ Nx [] C H C' H' ∧ C' f = some (.lst (refs X)) ∧ KeysAt C' X ∧ X.length ≤ 10 ^ i ∧ ∀ q, q ∈ X.map (·.1) ↔ Sel ((D.take i).map (·.2.2)) q) ⟨_, _, _, f, _, [([], t)], rfl, n1, upd_same, fun x hx => ?_, Nat.le_refl _, fun q => ?_⟩ (fun i σ' H' _ ⟨_, _, _, _, C', _, _, n, _⟩ => .of (n.ch _ _ (n.cc _ _ hr))) (fun i x σ' H2 H3 hi ⟨z1, z2, z3, f, C2, X, es, n2, hf2, kx, xl, hx⟩ y => ?_) (fun σ' H2 ⟨z1, z2, z3, f, C2, X, es, n2, hf2, kx, xl, hx⟩ => ?_)
    · cases List.mem_singleton.mp hx
      exact ⟨[], t1, .nil⟩
    · constructor
      · intro h
        cases List.mem_singleton.mp h
        trivial
      · intro h
        cases q with
        | nil => exact List.mem_singleton.mpr rfl
        | cons _ _ => exact h.elim
    · obtain ⟨rfl, hy⟩ := y
      subst es
      rw [List.getElem?_map] at hy
      obtain ⟨d, hd, rfl⟩ := Option.map_eq_some_iff.mp hy
      obtain ⟨d1, d2, d3⟩ := hD d (List.mem_of_getElem? hd)
      rw [List.length_map] at hi
      have i3 : i < 3 := by omega
      have x100 : X.length ≤ 100 := Nat.le_trans xl (by
        have : i = 0 ∨ i = 1 ∨ i = 2 := by omega
        rcases this with rfl | rfl | rfl <;> decide)
      refine ⟨sz0, fun g hg => ?_⟩
      have ng : Nx [] C H C2 (upd H3 g (.lst [])) := n2.tmp hg
      have dg : Dt C2 (upd H3 g (.lst [])) g (.lst (refs [])) := .make n2.ch hg
      refine ⟨_, rfl, f, rfl, ⟨_, .of (ng.ch _ _ hf2)⟩, ?_⟩
      refine for_it walk_list (fun j σ' H' => ∃ z3 C', ∃ Y : SX, σ' = [some (.ref r), some (.ref f), some (.ref d.1), some (.ref g), z3, none] ∧ Nx [] C H C' H' ∧ Same C2 C' ∧ Dt C' H' g (.lst (refs Y)) ∧ KeysAt C' Y ∧ Y.length ≤ 10 * j ∧ ∀ q, q ∈ Y.map (·.1) ↔ ∃ p ∈ (X.take j).map (·.1), ∃ u ∈ d.2.2, q = p ++ [u]) ⟨_, C2, [], rfl, ng, Same.rfl' _, dg, (fun _ h => nomatch h), Nat.le_refl _, fun q => by simp⟩ (fun j σ' H' _ ⟨_, C', _, _, n, s, _⟩ => .of (n.ch _ _ (s _ _ hf2))) (fun j x σ' H4 H5 hj ⟨z3, C4, Y, es, n4, s4, d4, ky, yl, hY⟩ yy => ?_) (fun σ' H4 ⟨z3, C4, Y, es, n4, s4, d4, ky, yl, hY⟩ => ?_)
      · obtain ⟨rfl, hy⟩ := yy
        subst es
        obtain ⟨p, b, hp, rfl⟩ := refs_at hy
        rw [List.length_map] at hj
        have hb := (kx _ (List.mem_of_getElem? hp)).same s4
        obtain ⟨ws, hws, sws⟩ := id hb
        have hwl : ws.length = p.length := Paired.length sws
        refine ⟨_, rfl, .inl ⟨rfl, _, .of d4.at_⟩, _, rfl, d.1, rfl, ⟨_, .of (n4.ch _ _ (n4.cc _ _ d1))⟩, ?_⟩
        refine lcMap (M := []) walk_list (fun k v C => ∃ b u, v = .ref b ∧ d.2.2[k]? = some u ∧ StV C b (p ++ [u])) n4.ch (fun _ h => nomatch h) (szK (by have := d2.len; omega)) (fun C' H' n => .of (n.ch _ _ (n.cc _ _ (n4.cc _ _ d1)))) (fun k v C C' s ⟨b, u, e, e2, h⟩ => ⟨b, u, e, e2, h.same s⟩) (fun k v C6 H6 H7 Z hk n6 y kk => ?_) (fun R acc C6 H6 n6 cR hR hH hal ha => ?_)
        · obtain ⟨rfl, hv⟩ := y
          obtain ⟨u, eu, hu'⟩ := ((d2.same n4.cc).same n6.cc).get hv
          refine ⟨rfl, _, rfl, _, rfl, sz1, fun t ht => ?_⟩
          have a7 : Nx [] C6 H7 C6 (upd H7 t (.tup [v])) := .tmp0 n6.ch ht
          refine rcat_any a7.ch (a7.ch _ _ (n6.cc _ _ hws)) upd_same (szK (by
            rw [hwl, List.length_singleton]
            have := ((hx p).mp (List.mem_map.mpr ⟨_, List.mem_of_getElem? hp, rfl⟩))
            have : p.length ≤ 3 := by
              have key : ∀ {ls : List (List Spot)} {q : List Spot}, Sel ls q → q.length = ls.length := by
                intro ls
                induction ls with
                | nil => intro q h; cases q with
                  | nil => rfl
                  | cons _ _ => exact h.elim
                | cons l ls ih => intro q h; cases q with
                  | nil => exact h.elim
                  | cons _ q => rw [List.length_cons, List.length_cons, ih h.2]
              rw [key this, List.length_map, List.length_take]; omega
            omega)) fun t' H8 n8 h8 => ?_
          have n9 := (a7.trans n8).see h8
          exact kk _ _ _ n9 ⟨t', u, rfl, eu, _, upd_same, ((Sps.same n6.cc sws).app (.cons hu' .nil)).same n9.cc⟩
        · obtain ⟨Z, ez, zf, kz⟩ := acc_sx (by rw [hal]; exact d2.len) ha
          have d6 := d4.on n6
          have zl : Z.length = d.2.2.length := by
            have := congrArg List.length zf
            rw [List.length_map, List.length_map] at this
            exact this
          rw [ez] at hH
          refine ⟨g, R, _, _, rfl, rfl, d6.at_, hH, szK (by rw [List.length_map, List.length_map, zl]; omega), ?_⟩
          refine ⟨_, C6, Y ++ Z, rfl, (n4.trans n6).mut d6.no (n2.back hg), s4.trans n6.cc, by rw [← List.map_append]; exact d6.put, (ky.same n6.cc).app kz, by rw [List.length_append, zl]; omega, fun q => ?_⟩
          rw [List.map_append, List.mem_append, hY, zf, tk_fst hp]
          constructor
          · rintro (⟨p', hp', u, hu', rfl⟩ | h)
            · exact ⟨p', List.mem_append_left _ hp', u, hu', rfl⟩
            · obtain ⟨u, hu', rfl⟩ := List.mem_map.mp h
              exact ⟨p, List.mem_append_right _ (List.mem_singleton.mpr rfl), u, hu', rfl⟩
          · rintro ⟨p', hp', u, hu', rfl⟩
            rcases List.mem_append.mp hp' with hp' | hp'
            · exact .inl ⟨p', hp', u, hu', rfl⟩
            · cases List.mem_singleton.mp hp'
              exact .inr (List.mem_map.mpr ⟨u, hu', rfl⟩)
      · subst es
        rw [List.length_map] at yl hY
        rw [List.take_length] at hY
        refine ⟨_, rfl, _, _, _, g, _, Y, rfl, n4.keep d4.at_ (n2.back hg), upd_same, ky.same (same_upd d4.no), by rw [Nat.pow_succ]; omega, fun q => ?_⟩
        rw [hY, show (D.take (i + 1)).map (·.2.2) = (D.take i).map (·.2.2) ++ [d.2.2] from by rw [List.take_add_one, hd, List.map_append]; rfl, Sel.snoc]
        constructor
        · rintro ⟨p, hp, u, hu', e⟩
          exact ⟨p, u, e, (hx p).mp hp, hu'⟩
        · rintro ⟨p, u, e, hp, hu'⟩
          exact ⟨p, (hx p).mpr hp, u, hu', e⟩
    · subst es
      rw [List.length_map] at xl hx
      rw [List.take_length] at hx
      refine ⟨_, rfl, q _ _ _ n2 ⟨f, X, rfl, hf2, kx, Nat.le_trans xl ?_, hx⟩⟩
      have : D.length = 0 ∨ D.length = 1 ∨ D.length = 2 ∨ D.length = 3 := by omega
      rcases this with e | e | e | e <;> rw [e] <;> decide
end
end AbW

/-! ## Wr -/
set_option Elab.async false
set_option linter.all false
set_option maxRecDepth 100000
set_option maxHeartbeats 4000000
/-! Wr: the law's near stances, its fits -/
namespace AbW
open PySem PySem.Spec PyProof.Rows L2 AbH AbR Ab
def Mv1 (s : Int) (m : NetD) (u v : Spot) : Prop := m.flat u v ∨ (0 < s ∧ (m.rise u v ∨ m.rise v u))
theorem mods_at {M : MX} {i : Nat} {v : V} (h : (M.map fun x => V.ref x.1)[i]? = some v) : ∃ a m, M[i]? = some (a, m) ∧ v = .ref a ∧ (msOf M)[i]? = some m := by
  rw [List.getElem?_map] at h
  obtain ⟨x, hx, rfl⟩ := Option.map_eq_some_iff.mp h
  exact ⟨x.1, x.2, hx, rfl, by rw [List.getElem?_map, hx]; rfl⟩
/-- the lists of the steps, by walkers -/
theorem acc_ls {C : Hp} {f : Nat → Spot → Prop} : ∀ {acc : List V} {n : Nat}, acc.length = n → (∀ (i : Nat) (v : V), acc[i]? = some v → ∃ r ws l, v = .ref r ∧ C r = some (.lst ws) ∧ Sps C ws l ∧ l.length ≤ 10 ∧ ∀ u, u ∈ l ↔ f i u) →
    ∃ D : List (Addr × List V × List Spot), acc = D.map (fun d => V.ref d.1) ∧ (∀ d ∈ D, C d.1 = some (.lst d.2.1) ∧ Sps C d.2.1 d.2.2 ∧ d.2.2.length ≤ 10) ∧ D.length = n ∧ ∀ (i : Nat) (d : Addr × List V × List Spot), D[i]? = some d → ∀ u, u ∈ d.2.2 ↔ f i u
  | [], n, hl, _ => ⟨[], rfl, (fun _ h => nomatch h), hl, fun i d h => by simp at h⟩
  | v :: acc, n, hl, h => by
    obtain ⟨r, ws, l, e, h1, h2, h3, h4⟩ := h 0 v rfl
    obtain ⟨D, d1, d2, d3, d4⟩ := acc_ls (f := fun i => f (i + 1)) (acc := acc) (n := acc.length) rfl fun i v hv => h (i + 1) v (by simpa using hv)
    refine ⟨(r, ws, l) :: D, by rw [e, d1]; rfl, fun d hd => ?_, by rw [List.length_cons, d3, ← hl, List.length_cons], fun i d hd => ?_⟩
    · rcases List.mem_cons.mp hd with rfl | hd
      · exact ⟨h1, h2, h3⟩
      · exact d2 d hd
    · cases i with
      | zero => cases hd; exact h4
      | succ i => exact d4 i d (by simpa using hd)
theorem sel_all {R : NetD → Spot → Spot → Prop} : ∀ {ms : List NetD} {p : List Spot} {ls : List (List Spot)}, ls.length = ms.length → p.length = ms.length → (∀ (i : Nat) (l : List Spot) (m : NetD) (u : Spot), ls[i]? = some l → ms[i]? = some m → p[i]? = some u → ∀ v, v ∈ l ↔ R m u v) → ∀ q, Sel ls q ↔ AllR R ms p q
  | [], [], [], _, _, _, [] => Iff.rfl
  | [], [], [], _, _, _, _ :: _ => Iff.rfl
  | m :: ms, u :: p, l :: ls, h1, h2, h, [] => Iff.rfl
  | m :: ms, u :: p, l :: ls, h1, h2, h, v :: q => by
    have ih := sel_all (ms := ms) (p := p) (ls := ls) (R := R) (by simpa using h1) (by simpa using h2) (fun i l m u a b c => h (i + 1) l m u (by simpa using a) (by simpa using b) (by simpa using c)) q
    show v ∈ l ∧ Sel ls q ↔ R m u v ∧ AllR R ms p q
    rw [h 0 l m u rfl rfl rfl v, ih]
  | [], _ :: _, _, _, h, _, _ => by simp at h
  | [], [], _ :: _, h, _, _, _ => by simp at h
  | _ :: _, [], _, _, h, _, _ => by simp at h
  | _ :: _, _ :: _, [], h, _, _, _ => by simp at h
theorem AllR.congr {R R' : NetD → Spot → Spot → Prop} {ms : List NetD} {p q : List Spot} (hp : AllH ms p) (ok : ∀ m ∈ ms, m.Ok) (h : ∀ m u v, m.Ok → m.has u → (R m u v ↔ R' m u v)) : AllR R ms p q ↔ AllR R' ms p q := by
  have go : ∀ {R R' : NetD → Spot → Spot → Prop}, (∀ m u v, m.Ok → m.has u → (R m u v ↔ R' m u v)) → AllR R ms p q → AllR R' ms p q := fun h a =>
    AllR.of a.len.1 a.len.2 fun k m u v e1 e2 e3 => (h m u v (ok m (List.mem_of_getElem? e1)) (hp.get e1 e2)).mp (a.get e1 e2 e3)
  exact ⟨go h, go fun m u v a b => (h m u v a b).symm⟩
section
variable {P : Program} {w : World} {K : PySem.W.Frag} {mg : Str → Option Value} {base : Heap}
def sp_law_fits (K : PySem.W.Frag) : Sp := Gives fun vs C post => ∃ r st M p, ∃ s : Int, vs = [.ref r, .int s, .ref st] ∧ Mods C r M ∧ StV C st p ∧ AllH (msOf M) p ∧ M ≠ [] ∧ M.length ≤ 3 ∧ post = fun v _ => ∃ b, v = .bl b ∧ (b = true ↔ FitsL (msOf M) s p)
theorem c_law_fits (T : Txt K mg) : C8.Cal P w K mg base 2 "_law_fits" (sp_law_fits K) [] := by
  refine mkCal (N := ["_law_models", "_law_wide", "_law_stance", "_law_heights", "_law_model_here", "_law_here"]) (ps := ["_law_models", "_law_wide", "_law_stance"]) T.d_law_fits T.g_law_fits (fun _ _ _ _ _ _ us hl => match us, hl with | [_, _, _], _ => rfl) (by decide +kernel) (fun vs H Q E h => ?_) (fun cdv A outer s H vs Q E hr h => ?_)
  · obtain ⟨C, post, sc, ⟨r, st, M, p, s0, rfl, hM, hp, hh, hne, h3, rfl⟩, q⟩ := h; rfl
  · obtain ⟨C, post, sc, ⟨r, st, M, p, s0, rfl, hM, hp, hh, hne, h3, rfl⟩, q⟩ := h
    have nd : (["_law_models", "_law_wide", "_law_stance", "_law_heights", "_law_model_here", "_law_here"] : List Str).Nodup := by decide +kernel
    refine ⟨_, (pss_cons (ps_setLc (i := 3) (own := [("_law_model_here", 4), ("_law_here", 5)]) (by rfl) nd rfl rfl (sw_true rfl rfl rfl (by decide +kernel)) (pi_zipM (K := K) rfl (by rfl) T.f_zip (pa_cons (pv 0) (pa_cons (pv 2) pa_nil))) (blkOk_by (own := [("_law_model_here", 4), ("_law_here", 5)]) (N := ["_law_models", "_law_wide", "_law_stance", "_law_heights", "_law_model_here", "_law_here"]) (sc := C8.fnScope s_law_fits) (by decide +kernel)) (fun _ _ _ _ _ => (pg_tupK (K := K) (n := 2) rfl (by rfl) (pgs_cons (pg_name (i := 4) nd rfl (Or.inl rfl)) (pgs_cons (pg_name (i := 5) nd rfl (Or.inl rfl)) pgs_nil)))) (fun _ _ _ _ _ => pts_nil) (fun _ _ _ _ _ => (C8.pe_c (c_law_height T) hr (by decide) (by rfl) (pa_cons (pv 4) (pa_cons (pv 5) pa_nil)))))
      (pss_one (ps_ret (pe_cmpR op_le (pe_op op_sub (pe_callB (cr_max rfl) (by rfl) T.f_max b_max (pa_cons (pv 3) pa_nil)) (pe_callB (cr_min rfl) (by rfl) T.f_min b_min (pa_cons (pv 3) pa_nil))) (pv 1) (nomark _))))), ?_⟩
    obtain ⟨ws, hws, sws⟩ := id hp
    have lp : p.length = M.length := by rw [hh.len, List.length_map]
    have lws : ws.length = M.length := (Paired.length sws).trans lp
    refine ⟨_, rfl, _, rfl, r, st, _, ws, rfl, .of (sc _ _ hM.at_), .of (sc _ _ hws), ?_⟩
    refine lcMap (M := []) (walk_zipM rfl) (fun i v _ => ∀ x, (List.zipWith (fun (m : NetD) u => m.lv u) (msOf M) p)[i]? = some x → v = .int x) sc (fun _ h => nomatch h) (szK (by rw [List.length_map]; omega)) (fun C' H' n => ⟨.of (n.ch _ _ (n.cc _ _ hM.at_)), .of (n.ch _ _ (n.cc _ _ hws))⟩) (fun _ _ _ _ _ h => h) (fun i v C1 H1 H2 Z hi n y k => ?_) (fun D acc C1 H1 n cD hD hH hal ha => ?_)
    · obtain ⟨T, x, y, rfl, hT, rfl, ex, ey⟩ := y
      obtain ⟨a, m, em, rfl, em2⟩ := mods_at ex
      obtain ⟨u, eu, hu'⟩ := Sps.get (Sps.same n.cc sws) ey
      have n2 : Nx [] C1 H1 C1 (upd H1 T (.tup [.ref a, y])) := .tmp0 n.ch hT
      refine ⟨T, _, rfl, .of upd_same, rfl, _, _, rfl, _, _, rfl, rfl, rfl, _, rfl, _, rfl, C1, _, n2.ch, ⟨a, m, y, u, rfl, (hM.ok _ (List.mem_of_getElem? em)).same n.cc, hu', hh.get em2 eu, rfl⟩, fun C3 H3 n3 => k _ _ _ (n2.trans n3) fun x hx => ?_⟩
      rw [List.getElem?_zipWith, em2, eu] at hx
      cases hx
      rfl
    · have hl : (List.zipWith (fun (m : NetD) u => m.lv u) (msOf M) p).length = M.length := by rw [List.length_zipWith, List.length_map, lp, Nat.min_self]
      have ea : acc = (List.zipWith (fun (m : NetD) u => m.lv u) (msOf M) p).map V.int := acc_map (by rw [hal, List.length_map, lws, hl, Nat.min_self]) ha
      rw [ea] at hH
      have pos : 0 < (List.zipWith (fun (m : NetD) u => m.lv u) (msOf M) p).length := by rw [hl]; exact List.length_pos_iff.mpr hne
      have mem : ∀ z, z ∈ List.zipWith (fun (m : NetD) u => m.lv u) (msOf M) p ↔ ∃ (i : Nat) (m : NetD) (u : Spot), (msOf M)[i]? = some m ∧ p[i]? = some u ∧ m.lv u = z := fun z => by
        rw [List.mem_iff_getElem?]
        constructor
        · rintro ⟨i, e⟩
          obtain ⟨m, u, e1, e2, e3⟩ := List.getElem?_zipWith_eq_some.mp e
          exact ⟨i, m, u, e1, e2, e3⟩
        · rintro ⟨i, m, u, e1, e2, e3⟩
          exact ⟨i, List.getElem?_zipWith_eq_some.mpr ⟨m, u, e1, e2, e3⟩⟩
      refine ⟨_, rfl, D, _, rfl, .of hH, pos, fun hi h1 h2 => ⟨_, rfl, D, _, rfl, .of hH, pos, fun lo l1 l2 => ⟨_, _, rfl, rfl, _, rfl, _, _, rfl, rfl, q _ _ _ n ⟨_, rfl, ?_⟩⟩⟩⟩
      rw [decide_eq_true_eq]
      constructor
      · intro hs i j m m' u v em em' eu ev
        have a1 := h2 _ ((mem _).mpr ⟨i, m, u, em, eu, rfl⟩)
        have a2 := l2 _ ((mem _).mpr ⟨j, m', v, em', ev, rfl⟩)
        omega
      · intro h
        obtain ⟨i, m, u, em, eu, rfl⟩ := (mem _).mp h1
        obtain ⟨j, m', v, em', ev, rfl⟩ := (mem _).mp l1
        exact h i j m m' u v em em' eu ev
def sp_law_near (K : PySem.W.Frag) : Sp := Gives fun vs C post => ∃ r st M p, ∃ s : Int, vs = [.ref r, .int s, .ref st] ∧ Mods C r M ∧ StV C st p ∧ AllH (msOf M) p ∧ M.length ≤ 3 ∧ 0 ≤ s ∧
  post = fun v C' => ∃ t, ∃ X : SX, v = .ref t ∧ C' t = some (.lst (refs X)) ∧ KeysAt C' X ∧ X.length ≤ 3000 ∧ ∀ q, q ∈ X.map (·.1) ↔ NearL (msOf M) s p q
theorem c_law_near (T : Txt K mg) : C8.Cal P w K mg base 3 "_law_near" (sp_law_near K) [] := by
  refine mkCal (N := ["_law_models", "_law_wide", "_law_stance", "_law_found", "_law_k", "_law_model_here", "_law_steps_here", "_law_by", "_law_near_here", "_law_here"]) (ps := ["_law_models", "_law_wide", "_law_stance"]) T.d_law_near T.g_law_near (fun _ _ _ _ _ _ us hl => match us, hl with | [_, _, _], _ => rfl) (by decide +kernel) (fun vs H Q E h => ?_) (fun cdv A outer s H vs Q E hr h => ?_)
  · obtain ⟨C, post, sc, ⟨r, st, M, p, s0, rfl, hM, hp, hh, h3, hs0, rfl⟩, q⟩ := h; rfl
  · obtain ⟨C, post, sc, ⟨r, st, M, p, s0, rfl, hM, hp, hh, h3, hs0, rfl⟩, q⟩ := h
    have nd : (["_law_models", "_law_wide", "_law_stance", "_law_found", "_law_k", "_law_model_here", "_law_steps_here", "_law_by", "_law_near_here", "_law_here"] : List Str).Nodup := by decide +kernel
    refine ⟨_, (pss_cons (ps_set (i := 3) nd rfl (Or.inl rfl) (pe_lst pa_nil))
      (pss_cons (ps_for PassesOwn.never rfl (pi_enum (by rfl) T.f_enumerate (pa_cons (pv 0) pa_nil)) (pg_tup (n := 2) (by rfl) (pgs_cons (pg_name (i := 4) nd rfl (Or.inr rfl)) (pgs_cons (pg_name (i := 5) nd rfl (Or.inl rfl)) pgs_nil))) (pss_cons (ps_set (i := 6) nd rfl (Or.inl rfl) (C8.pe_c (c_law_flats T) hr (by decide) (by rfl) (pa_cons (pv 5) (pa_cons (pe_ix ix_tup (pv 2) (pv 4) (fun _ _ => rfl)) pa_nil))))
      (pss_cons (ps_if (pt_cmpR op_gt (pv 1) pe_int (nomark _)) (pss_one (ps_set (i := 6) nd rfl (Or.inl rfl) (pe_op op_cat (pe_op op_cat (pv 6) (C8.pe_c (c_law_steps T) hr (by decide) (by rfl) (pa_cons (pv 5) (pa_cons (pe_ix ix_tup (pv 2) (pv 4) (fun _ _ => rfl)) (pa_cons pe_int pa_nil))))) (C8.pe_c (c_law_steps T) hr (by decide) (by rfl) (pa_cons (pv 5) (pa_cons (pe_ix ix_tup (pv 2) (pv 4) (fun _ _ => rfl)) (pa_cons (pe_un un_neg pe_int) pa_nil))))))) pss_nil)
      (pss_one (ps_expr (pe_bm PySem.F.plainAttrs_list PySem.F.slot_list_extend PySem.F.type_list_extend mt_extend (pv 3) (pa_cons (pe_lc (own := [("_law_near_here", 8)]) (by rfl) nd (pi_list (pv 6)) (blkOk_by (own := [("_law_near_here", 8)]) (N := ["_law_models", "_law_wide", "_law_stance", "_law_found", "_law_k", "_law_model_here", "_law_steps_here", "_law_by", "_law_near_here", "_law_here"]) (sc := C8.fnScope s_law_near) (by decide +kernel)) (fun _ _ _ _ _ => (pg_name (i := 8) nd rfl (Or.inl rfl))) (fun _ _ _ _ _ => pts_nil) (fun _ _ _ _ _ => (pe_op (op_catAK (K := K) rfl) (pe_op (op_catAK (K := K) rfl) (pe_slice (sl_tupAK (K := K) rfl) (pv 2) po_none (po_some (pv 4))) (pe_tup (pa_cons (pv 8) pa_nil))) (pe_slice (sl_tupAK (K := K) rfl) (pv 2) (po_some (pe_op op_add (pv 4) pe_int)) po_none)))) pa_nil)))))))
      (pss_cons (ps_if (pt_cmpR op_eq (pv 1) pe_int (nomark _)) (pss_one (ps_for PassesOwn.never rfl (pi_tup (pe_tup (pa_cons pe_int (pa_cons (pe_un un_neg pe_int) pa_nil)))) (pg_name (i := 7) nd rfl (Or.inr rfl)) (pss_one (ps_expr (pe_bm PySem.F.plainAttrs_list PySem.F.slot_list_extend PySem.F.type_list_extend mt_extend (pv 3) (pa_cons (C8.pe_c (c_law_tuples T) hr (by decide) (by rfl) (pa_cons (pe_lc (own := [("_law_model_here", 5), ("_law_here", 9)]) (by rfl) nd (pi_zipM (K := K) rfl (by rfl) T.f_zip (pa_cons (pv 0) (pa_cons (pv 2) pa_nil))) (blkOk_by (own := [("_law_model_here", 5), ("_law_here", 9)]) (N := ["_law_models", "_law_wide", "_law_stance", "_law_found", "_law_k", "_law_model_here", "_law_steps_here", "_law_by", "_law_near_here", "_law_here"]) (sc := C8.fnScope s_law_near) (by decide +kernel)) (fun _ _ _ _ _ => (pg_tupK (K := K) (n := 2) rfl (by rfl) (pgs_cons (pg_name (i := 5) nd rfl (Or.inl rfl)) (pgs_cons (pg_name (i := 9) nd rfl (Or.inl rfl)) pgs_nil)))) (fun _ _ _ _ _ => pts_nil) (fun _ _ _ _ _ => (C8.pe_c (c_law_steps T) hr (by decide) (by rfl) (pa_cons (pv 5) (pa_cons (pv 9) (pa_cons (pv 7) pa_nil)))))) pa_nil)) pa_nil)))))) pss_nil)
      (pss_one (ps_ret (pv 3)))))), ?_⟩
    obtain ⟨ws, hws, sws⟩ := id hp
    have lp : p.length = M.length := by rw [hh.len, List.length_map]
    have lws : ws.length = M.length := (Paired.length sws).trans lp
    have okm : ∀ m ∈ msOf M, m.Ok := fun m hm => by
      obtain ⟨x, hx, rfl⟩ := List.mem_map.mp hm
      exact (hM.ok x hx).ok
    refine ⟨sz0, fun F hF => ?_⟩
    have n0 : Nx [] C H C (upd H F (.lst [])) := .tmp0 sc hF
    have d0 : Dt C (upd H F (.lst [])) F (.lst (refs [])) := .make sc hF
    refine ⟨_, rfl, r, _, rfl, .of (n0.ch _ _ hM.at_), ?_⟩
    refine for_it walk_enum (fun i σ' H' => ∃ z1 z2 z3 C', ∃ X : SX, σ' = [some (.ref r), some (.int s0), some (.ref st), some (.ref F), z1, z2, z3, none, none, none] ∧ Nx [] C H C' H' ∧ Dt C' H' F (.lst (refs X)) ∧ KeysAt C' X ∧ X.length ≤ 30 * i ∧
      ∀ q, q ∈ X.map (·.1) ↔ ∃ (k : Nat) (m : NetD) (u v : Spot), k < i ∧ (msOf M)[k]? = some m ∧ p[k]? = some u ∧ Mv1 s0 m u v ∧ q = put1 p k v) ⟨_, _, _, C, [], rfl, n0, d0, (fun _ h => nomatch h), Nat.le_refl _, fun q => by simp⟩ (fun i σ' H' _ ⟨_, _, _, C', _, _, n, _⟩ => .of (n.ch _ _ (n.cc _ _ hM.at_))) (fun i x σ' H1 H2 hi ⟨z1, z2, z3, C1, X, es, n1, d1, kx, xl, hX⟩ y => ?_) (fun σ' H1 ⟨z1, z2, z3, C1, X, es, n1, d1, kx, xl, hX⟩ => ?_)
    · obtain ⟨T, x, y, rfl, hT, rfl, ex, ey⟩ := y
      subst es
      cases ex
      obtain ⟨a, m, em, rfl, em2⟩ := mods_at ey
      rw [List.length_map] at hi
      obtain ⟨u, eu⟩ := getL lp hi
      obtain ⟨x, exs⟩ := getL lws hi
      have hsx : SpotV C x u := by
        obtain ⟨u', e1, e2⟩ := Sps.get sws exs
        rw [eu] at e1; cases e1
        exact e2
      have hasu := hh.get em2 eu
      have hMa := hM.ok _ (List.mem_of_getElem? em)
      have okk := hMa.ok
      have n2 : Nx [] C H C1 (upd H1 T (.tup [.int i, .ref a])) := n1.tmp hT
      have d2 : Dt C1 (upd H1 T (.tup [.int i, .ref a])) F (.lst (refs X)) := Dt.on (M := []) d1 (.tmp0 n1.ch hT)
      refine ⟨T, _, rfl, .of upd_same, rfl, _, _, rfl, _, _, rfl, rfl, ?_⟩
      have hst : ∀ {C' H' : Hp}, Nx [] C H C' H' → SqT K H' st ws := fun n => .of (n.ch _ _ (n.cc _ _ hws))
      refine ⟨_, rfl, _, rfl, _, rfl, st, _, _, _, rfl, rfl, hst n2, atI_nat exs, C1, _, n2.ch, ⟨a, m, x, u, rfl, hMa.same n1.cc, hsx.same n1.cc, hasu, rfl⟩, fun v C3 H3 n3 ⟨r1, w1, l1, ev, hr1, hw1, ll1, hl1⟩ => ?_⟩
      subst ev
      have n3' := n2.trans n3
      have d3 := d2.on n3
      try dsimp only
      refine cutS (R := fun σ' H' => ∃ r2 w2 l2 C', σ' = [some (.ref r), some (.int s0), some (.ref st), some (.ref F), some (.int i), some (.ref a), some (.ref r2), none, none, none] ∧ Nx [] C3 H3 C' H' ∧ C' r2 = some (.lst w2) ∧ Sps C' w2 l2 ∧ l2.length ≤ 30 ∧ ∀ v, v ∈ l2 ↔ Mv1 s0 m u v) (fun Nn kk => ?_) (fun σ' H4 ⟨r2, w2, l2, C4, es, n4, hr2, hw2, ll2, hl2⟩ => ?_)
      · refine ⟨_, rfl, _, _, rfl, rfl, _, rfl, ?_⟩
        by_cases c : s0 > 0
        · refine iteP c ⟨_, rfl, _, rfl, _, rfl, _, rfl, st, _, _, _, rfl, rfl, hst n3', atI_nat exs, C3, _, n3'.ch, ⟨a, m, x, u, 1, rfl, hMa.same n3'.cc, hsx.same n3'.cc, hasu, rfl⟩, fun v C4 H4 n4 ⟨r4, w4, l4, ev, hr4, hw4, ll4, hl4⟩ => ?_⟩
          subst ev
          have n4' := n3'.trans n4
          have q1 := hw1.len
          have q4 := hw4.len
          refine ⟨_, _, _, _, rfl, rfl, n4.ch _ _ (n4.cc _ _ hr1), n4.ch _ _ hr4, szK (by omega), fun p5 hp5 => ?_⟩
          have n5 := n4.new (o := .lst (w1 ++ w4)) hp5
          have n5' := n3'.trans n5
          have s5 : Same C4 (upd C4 p5 (.lst (w1 ++ w4))) := same_upd (same_none n4.ch hp5)
          refine ⟨_, rfl, _, rfl, _, rfl, st, _, _, _, rfl, rfl, hst n5', atI_nat exs, _, rfl, _, _, n5.ch, ⟨a, m, x, u, -1, rfl, hMa.same n5'.cc, hsx.same n5'.cc, hasu, rfl⟩, fun v C6 H6 n6 ⟨r6, w6, l6, ev, hr6, hw6, ll6, hl6⟩ => ?_⟩
          subst ev
          have q6 := hw6.len
          refine ⟨_, _, _, _, rfl, rfl, n6.ch _ _ (n6.cc _ _ upd_same), n6.ch _ _ hr6, szK (by rw [List.length_append]; omega), fun p7 hp7 => ?_⟩
          have n7 := (n5.trans n6).new (o := .lst ((w1 ++ w4) ++ w6)) hp7
          have s7 : Same C6 (upd C6 p7 (.lst ((w1 ++ w4) ++ w6))) := same_upd (same_none n6.ch hp7)
          refine kk _ _ ⟨p7, _, (l1 ++ l4) ++ l6, _, rfl, n7, upd_same, (((hw1.same n4.cc).app hw4).same (s5.trans (n6.cc.trans s7))).app (hw6.same s7), by rw [List.length_append, List.length_append]; omega, fun v => ?_⟩
          rw [List.mem_append, List.mem_append, hl1, hl4, hl6, stp_up okk hasu, stp_down okk hasu]
          unfold Mv1
          constructor
          · rintro ((h | h) | h)
            · exact .inl h
            · exact .inr ⟨c, .inl h⟩
            · exact .inr ⟨c, .inr h⟩
          · rintro (h | ⟨_, h | h⟩)
            · exact .inl (.inl h)
            · exact .inl (.inr h)
            · exact .inr h
        · refine iteQ c (kk _ _ ⟨r1, w1, l1, C3, rfl, .rfl n3.ch, hr1, hw1, by omega, fun v => ?_⟩)
          rw [hl1]
          unfold Mv1
          exact ⟨.inl, fun h => h.elim id fun z => absurd z.1 c⟩
      · subst es
        have n4' := n3'.trans n4
        have d4 := d3.on n4
        have q2 := hw2.len
        refine ⟨_, rfl, .inl ⟨rfl, _, .of d4.at_⟩, _, rfl, r2, rfl, ⟨_, .of (n4.ch _ _ hr2)⟩, ?_⟩
        refine lcMap (M := []) walk_list (fun k v C => ∃ b u, v = .ref b ∧ l2[k]? = some u ∧ StV C b (put1 p i u)) n4.ch (fun _ h => nomatch h) (szK (by omega)) (fun C' H' n => .of (n.ch _ _ (n.cc _ _ hr2))) (fun k v C C' s ⟨b, u, e, e2, h⟩ => ⟨b, u, e, e2, h.same s⟩) (fun k v C6 H6 H7 Z hk n6 y kk => ?_) (fun R acc C6 H6 n6 cR hR hH hal ha => ?_)
        · obtain ⟨rfl, hv⟩ := y
          obtain ⟨u2, eu2, hu2⟩ := Sps.get (hw2.same n6.cc) hv
          have n6' := n4'.trans n6
          have hw6 := n6'.cc _ _ hws
          refine ⟨rfl, _, rfl, _, rfl, _, rfl, rsl_any n6.ch (n6.ch _ _ hw6) fun t1 H8 n8 h8 => ?_⟩
          rw [cut_to (by omega)] at h8
          refine ⟨_, rfl, sz1, fun t2 ht2 => ?_⟩
          have n9 := n8.tmp (o := .tup [v]) ht2
          refine rcat_any n9.ch ((Nx.tmp0 (M := []) n8.ch ht2).hh _ _ (fun z => nomatch z) h8) upd_same (szK (by rw [List.length_take, List.length_singleton]; omega)) fun t3 H10 n10 h10 => ?_
          have n10' := n9.trans n10
          refine ⟨_, rfl, _, rfl, _, _, rfl, rfl, _, rfl, ?_⟩
          unfold tNoPart
          refine rsl_any n10'.ch (n10'.ch _ _ hw6) fun t4 H11 n11 h11 => ?_
          rw [show (i : Int) + 1 = ((i + 1 : Nat) : Int) by omega, cut_from (by omega)] at h11
          have n11' := n10'.trans n11
          refine rcat_any n11'.ch (n11.hh _ _ (fun z => nomatch z) h10) h11 (szK (by rw [List.length_append, List.length_take, List.length_drop, List.length_singleton]; omega)) fun t5 H12 n12 h12 => ?_
          have n13 := (n11'.trans n12).see h12
          exact kk _ _ _ n13 ⟨t5, u2, rfl, eu2, _, upd_same, ((((Sps.same n6'.cc sws).take i).app (.cons hu2 .nil)).app ((Sps.same n6'.cc sws).drop (i + 1))).same n13.cc⟩
        · obtain ⟨Y, ey', yf, ky⟩ := acc_sx (by rw [hal]; exact hw2.len) ha
          have d6 := d4.on n6
          have yl : Y.length = l2.length := by
            have := congrArg List.length yf
            rw [List.length_map, List.length_map] at this
            exact this
          rw [ey'] at hH
          refine ⟨F, R, _, _, rfl, rfl, d6.at_, hH, szK (by rw [List.length_map, List.length_map, yl]; omega), ?_⟩
          refine ⟨_, _, _, C6, X ++ Y, rfl, (n4'.trans n6).mut d6.no hF, by rw [← List.map_append]; exact d6.put, (kx.same (n3.cc.trans (n4.cc.trans n6.cc))).app ky, by rw [List.length_append, yl]; omega, fun q => ?_⟩
          rw [List.map_append, List.mem_append, hX, yf]
          constructor
          · rintro (⟨k, m', u', v, hk, h⟩ | h)
            · exact ⟨k, m', u', v, by omega, h⟩
            · obtain ⟨v, hv, rfl⟩ := List.mem_map.mp h
              exact ⟨i, m, u, v, by omega, em2, eu, (hl2 v).mp hv, rfl⟩
          · rintro ⟨k, m', u', v, hk, h1, h2, h3, rfl⟩
            by_cases e : k = i
            · subst e
              rw [em2] at h1; cases h1
              rw [eu] at h2; cases h2
              exact .inr (List.mem_map.mpr ⟨v, (hl2 v).mpr h3, rfl⟩)
            · exact .inl ⟨k, m', u', v, by omega, h1, h2, h3, rfl⟩
    · subst es
      rw [List.length_map] at xl hX
      have one : ∀ q, q ∈ X.map (·.1) ↔ ∃ (k : Nat) (m : NetD) (u v : Spot), (msOf M)[k]? = some m ∧ p[k]? = some u ∧ Mv1 s0 m u v ∧ q = put1 p k v := fun q => by
        rw [hX]
        exact ⟨fun ⟨k, m, u, v, _, h⟩ => ⟨k, m, u, v, h⟩, fun ⟨k, m, u, v, h1, h⟩ => ⟨k, m, u, v, by have := ltL h1; rw [List.length_map] at this; exact this, h1, h⟩⟩
      try dsimp only
      refine cutS (R := fun σ' H' => ∃ z1 z2 z3 z4 C', ∃ X : SX, σ' = [some (.ref r), some (.int s0), some (.ref st), some (.ref F), z1, z2, z3, z4, none, none] ∧ Nx [] C H C' H' ∧ Dt C' H' F (.lst (refs X)) ∧ KeysAt C' X ∧ X.length ≤ 3000 ∧ ∀ q, q ∈ X.map (·.1) ↔ NearL (msOf M) s0 p q) (fun Nn kk => ?_) (fun σ' H4 ⟨z1, z2, z3, z4, C4, X, es, n4, d4, kx, xl, hX⟩ => ?_)
      · refine ⟨_, rfl, rfl, _, rfl, ?_⟩
        by_cases c : s0 = 0
        · refine iteB (by simp [c]) ⟨_, rfl, sz2, fun t ht => ?_⟩
          have n2 : Nx [] C H C1 (upd H1 t (.tup [.int 1, .int (-1)])) := n1.tmp ht
          have d2 : Dt C1 (upd H1 t (.tup [.int 1, .int (-1)])) F (.lst (refs X)) := Dt.on (M := []) d1 (.tmp0 n1.ch ht)
          have ht1 : (upd H1 t (.tup [.int 1, .int (-1)])) t = some (.tup [.int 1, .int (-1)]) := upd_same
          refine ⟨t, rfl, ⟨_, .of ht1⟩, ?_⟩
          refine for_it walk_tup (fun j σ' H' => ∃ z1 z2 z3 z4 C', ∃ Y : SX, σ' = [some (.ref r), some (.int s0), some (.ref st), some (.ref F), z1, z2, z3, z4, none, none] ∧ Nx [] C H C' H' ∧ Dt C' H' F (.lst (refs Y)) ∧ H' t = some (.tup [.int 1, .int (-1)]) ∧ KeysAt C' Y ∧ Y.length ≤ 90 + 1000 * j ∧
            ∀ q, q ∈ Y.map (·.1) ↔ (q ∈ X.map (·.1) ∨ (0 < j ∧ AllR NetD.rise (msOf M) p q) ∨ (1 < j ∧ AllR (fun m u v => m.rise v u) (msOf M) p q))) ⟨_, _, _, _, C1, X, rfl, n2, d2, ht1, kx, by omega, fun q => by simp⟩ (fun j σ' H' _ ⟨_, _, _, _, C', _, _, n, _, h, _⟩ => .of h) (fun j x σ' H5 H6 hj ⟨y1, y2, y3, y4, C5, Y, es, n5, d5, ht5, ky, yl, hY⟩ yy => ?_) (fun σ' H5 ⟨y1, y2, y3, y4, C5, Y, es, n5, d5, ht5, ky, yl, hY⟩ => ?_)
          · obtain ⟨rfl, hx⟩ := yy
            subst es
            obtain ⟨by_, rfl, hby⟩ : ∃ by_ : Int, x = .int by_ ∧ ((j = 0 ∧ by_ = 1) ∨ (j = 1 ∧ by_ = -1)) := by
              have : j = 0 ∨ j = 1 := by
                have : j < 2 := hj
                omega
              rcases this with rfl | rfl
              · cases hx; exact ⟨_, rfl, .inl ⟨rfl, rfl⟩⟩
              · cases hx; exact ⟨_, rfl, .inr ⟨rfl, rfl⟩⟩
            refine ⟨_, rfl, .inl ⟨rfl, _, .of d5.at_⟩, _, rfl, _, rfl, r, st, _, ws, rfl, .of (n5.ch _ _ (n5.cc _ _ hM.at_)), .of (n5.ch _ _ (n5.cc _ _ hws)), ?_⟩
            refine lcMap (M := []) (walk_zipM rfl) (fun i v C => ∃ r ws l, v = .ref r ∧ C r = some (.lst ws) ∧ Sps C ws l ∧ l.length ≤ 10 ∧ ∀ v, v ∈ l ↔ ∃ m u, (msOf M)[i]? = some m ∧ p[i]? = some u ∧ m.stp by_ u v) n5.ch (fun _ h => nomatch h) (szK (by rw [List.length_map]; omega)) (fun C' H' n => ⟨.of (n.ch _ _ (n.cc _ _ (n5.cc _ _ hM.at_))), .of (n.ch _ _ (n.cc _ _ (n5.cc _ _ hws)))⟩) (fun k v C C' s ⟨r, ws, l, e, h1, h2, h3⟩ => ⟨r, ws, l, e, s _ _ h1, h2.same s, h3⟩) (fun k v C7 H7 H8 Z hk n7 y k' => ?_) (fun R acc C7 H7 n7 cR hR hH hal ha => ?_)
            · obtain ⟨T, x, y, rfl, hT, rfl, ex, ey⟩ := y
              obtain ⟨a, m, em, rfl, em2⟩ := mods_at ex
              have n7' := n5.trans n7
              obtain ⟨u, eu, hu'⟩ := Sps.get (Sps.same n7'.cc sws) ey
              have n8 : Nx [] C7 H7 C7 (upd H7 T (.tup [.ref a, y])) := .tmp0 n7.ch hT
              refine ⟨T, _, rfl, .of upd_same, rfl, _, _, rfl, _, _, rfl, rfl, rfl, _, rfl, _, rfl, _, rfl, C7, _, n8.ch, ⟨a, m, y, u, by_, rfl, (hM.ok _ (List.mem_of_getElem? em)).same n7'.cc, hu', hh.get em2 eu, rfl⟩, fun v C9 H9 n9 ⟨r9, w9, l9, ev, hr9, hw9, ll9, hl9⟩ => ?_⟩
              subst ev
              refine k' _ _ _ (n8.trans n9) ⟨r9, w9, l9, rfl, hr9, hw9, ll9, fun v => ?_⟩
              rw [hl9]
              exact ⟨fun h => ⟨m, u, em2, eu, h⟩, fun ⟨m', u', h1, h2, h3⟩ => by rw [em2] at h1; cases h1; rw [eu] at h2; cases h2; exact h3⟩
            · obtain ⟨D, eD, hD, Dl, Df⟩ := acc_ls hal ha
              have Dl3 : D.length = M.length := by rw [Dl, List.length_map, lws, Nat.min_self]
              rw [eD] at hH
              have n8 := n7.keep hH hR
              have n8' := n5.trans n8
              have s8 := same_upd (o := .lst (D.map fun d => V.ref d.1)) cR
              have d8 := d5.on n8
              refine ⟨_, _, n8.ch, ⟨R, D, rfl, upd_same, fun d hd => ⟨s8 _ _ (hD d hd).1, (hD d hd).2.1.same s8, (hD d hd).2.2⟩, by omega, rfl⟩, fun v C9 H9 n9 ⟨t9, X9, ev, ht9, k9, l9, h9⟩ => ?_⟩
              subst ev
              have d9 := d8.on n9
              have ht10 := (n8.trans n9).hh _ _ (fun z => nomatch z) ht5
              have tF : t ≠ F := fun z => by rw [z, d9.at_] at ht10; cases ht10
              refine ⟨F, t9, _, _, rfl, rfl, d9.at_, n9.ch _ _ ht9, szK (by rw [List.length_map, List.length_map]; omega), ?_⟩
              refine ⟨_, _, _, _, C9, Y ++ X9, rfl, (n8'.trans n9).mut d9.no hF, by rw [← List.map_append]; exact d9.put, by rw [upd_ne tF]; exact ht10, (ky.same (n8.trans n9).cc).app k9, by rw [List.length_append]; omega, fun q => ?_⟩
              have hsel : Sel (D.map (·.2.2)) q ↔ AllR (fun m u v => m.stp by_ u v) (msOf M) p q := sel_all (by rw [List.length_map, List.length_map, Dl3]) hh.len (fun i l m u e1 e2 e3 v => by
                rw [List.getElem?_map] at e1
                obtain ⟨d, hd, rfl⟩ := Option.map_eq_some_iff.mp e1
                rw [Df i d hd v]
                exact ⟨fun ⟨m', u', h1, h2, h3⟩ => by rw [e2] at h1; cases h1; rw [e3] at h2; cases h2; exact h3, fun h => ⟨m, u, e2, e3, h⟩⟩) q
              rw [List.map_append, List.mem_append, hY, h9, hsel]
              rcases hby with ⟨rfl, rfl⟩ | ⟨rfl, rfl⟩
              · rw [AllR.congr hh okm fun m u v o h => stp_up o h]
                constructor
                · rintro ((h | ⟨h, _⟩ | ⟨h, _⟩) | h)
                  · exact .inl h
                  · omega
                  · omega
                  · exact .inr (.inl ⟨by omega, h⟩)
                · rintro (h | ⟨_, h⟩ | ⟨h, _⟩)
                  · exact .inl (.inl h)
                  · exact .inr h
                  · omega
              · rw [AllR.congr hh okm fun m u v o h => stp_down o h]
                constructor
                · rintro ((h | ⟨_, h⟩ | ⟨h, _⟩) | h)
                  · exact .inl h
                  · exact .inr (.inl ⟨by omega, h⟩)
                  · omega
                  · exact .inr (.inr ⟨by omega, h⟩)
                · rintro (h | ⟨_, h⟩ | ⟨_, h⟩)
                  · exact .inl (.inl h)
                  · exact .inl (.inr (.inl ⟨by omega, h⟩))
                  · exact .inr h
          · subst es
            refine kk _ _ ⟨_, _, _, _, C5, Y, rfl, n5, d5, ky, ?_, fun q => ?_⟩
            · have : [V.int 1, V.int (-1)].length = 2 := rfl
              omega
            · rw [hY, one]
              unfold NearL Mv1
              constructor
              · rintro (⟨k, m, u, v, h1, h2, h3, h4⟩ | ⟨_, h⟩ | ⟨_, h⟩)
                · exact .inl ⟨k, m, u, v, h1, h2, h3, h4⟩
                · exact .inr ⟨c, .inl h⟩
                · exact .inr ⟨c, .inr h⟩
              · rintro (⟨k, m, u, v, h1, h2, h3, h4⟩ | ⟨_, h | h⟩)
                · exact .inl ⟨k, m, u, v, h1, h2, h3, h4⟩
                · exact .inr (.inl ⟨by decide, h⟩)
                · exact .inr (.inr ⟨by decide, h⟩)
        · refine iteC (by simp [c]) (kk _ _ ⟨_, _, _, _, C1, X, rfl, n1, d1, kx, by omega, fun q => ?_⟩)
          rw [one]
          unfold NearL Mv1
          exact ⟨.inl, fun h => h.elim id fun z => absurd z.1 c⟩
      · subst es
        refine ⟨_, rfl, q _ _ _ (n4.keep d4.at_ hF) ⟨F, X, rfl, upd_same, kx.same (same_upd d4.no), xl, hX⟩⟩
end
end AbW

/-! ## Ws -/
set_option Elab.async false
set_option linter.all false
set_option maxRecDepth 100000
set_option maxHeartbeats 4000000
/-! Ws: the law's search -/
namespace AbW
open PySem PySem.Spec PyProof.Rows L2 AbH AbR Ab
/-! ### how many stances there are -/
theorem nodup_leG {α : Type} [DecidableEq α] : ∀ {xs ys : List α}, xs.Nodup → (∀ x ∈ xs, x ∈ ys) → xs.length ≤ ys.length
  | [], _, _, _ => Nat.zero_le _
  | x :: xs, ys, nd, h => by
    rw [List.nodup_cons] at nd
    have hx := h x (List.mem_cons_self ..)
    have := nodup_leG (ys := ys.erase x) nd.2 fun y hy => (List.mem_erase_of_ne (fun e => nd.1 (by rw [← e]; exact hy))).mpr (h y (List.mem_cons_of_mem _ hy))
    rw [List.length_erase_of_mem hx] at this
    have := List.length_pos_of_mem hx
    rw [List.length_cons]
    omega
theorem flat_le {α β : Type} {f : α → List β} {b : Nat} : ∀ {l : List α}, (∀ a ∈ l, (f a).length ≤ b) → (l.flatMap f).length ≤ l.length * b
  | [], _ => by simp
  | a :: l, h => by
    have h1 := h a (List.mem_cons_self ..)
    have h2 := flat_le (l := l) fun a ha => h a (List.mem_cons_of_mem _ ha)
    rw [List.flatMap_cons, List.length_append, List.length_cons, Nat.succ_mul]
    omega
def spotsN (m : NetD) : List Spot := m.ks.map Spot.nd ++ m.es.flatMap fun e => (List.range 4).map fun (i : Nat) => Spot.inn e.1 e.2 (m.lev e.1 + 1 + (i : Int))
theorem spotsN_len {m : NetD} (ok : m.Ok) : (spotsN m).length ≤ 45 := by
  have h1 := ok.few
  have h2 := ok.efew
  have h3 := flat_le (l := m.es) (f := fun e => (List.range 4).map fun (i : Nat) => Spot.inn e.1 e.2 (m.lev e.1 + 1 + (i : Int))) (b := 4) fun e _ => by rw [List.length_map, List.length_range]; exact Nat.le_refl _
  unfold spotsN
  rw [List.length_append, List.length_map]
  unfold NetD.ks
  rw [List.length_map]
  omega
theorem spotsN_mem {m : NetD} (ok : m.Ok) {u : Spot} (h : m.has u) : u ∈ spotsN m := by
  unfold spotsN
  rw [List.mem_append]
  cases u with
  | nd x => exact .inl (List.mem_map.mpr ⟨x, h, rfl⟩)
  | inn l u k =>
    obtain ⟨he, h1, h2⟩ := h
    have a := ok.lo l
    have b := ok.lo u
    refine .inr (List.mem_flatMap.mpr ⟨(l, u), he, List.mem_map.mpr ⟨(k - m.lev l - 1).toNat, List.mem_range.mpr (by omega), ?_⟩⟩)
    show Spot.inn l u (m.lev l + 1 + (((k - m.lev l - 1).toNat : Nat) : Int)) = Spot.inn l u k
    rw [show m.lev l + 1 + (((k - m.lev l - 1).toNat : Nat) : Int) = k by omega]
def prods : List NetD → List (List Spot)
  | [] => [[]]
  | m :: ms => (spotsN m).flatMap fun u => (prods ms).map (u :: ·)
theorem prods_len : ∀ {ms : List NetD}, (∀ m ∈ ms, m.Ok) → (prods ms).length ≤ 45 ^ ms.length
  | [], _ => Nat.le_refl _
  | m :: ms, h => by
    have h1 := spotsN_len (h m (List.mem_cons_self ..))
    have h2 := prods_len (ms := ms) fun m hm => h m (List.mem_cons_of_mem _ hm)
    have h3 := flat_le (l := spotsN m) (f := fun u => (prods ms).map (u :: ·)) (b := 45 ^ ms.length) fun u _ => by rw [List.length_map]; exact h2
    rw [List.length_cons, Nat.pow_succ, Nat.mul_comm]
    exact Nat.le_trans h3 (Nat.mul_le_mul_right _ h1)
theorem prods_mem : ∀ {ms : List NetD} {p : List Spot}, (∀ m ∈ ms, m.Ok) → AllH ms p → p ∈ prods ms
  | [], [], _, _ => List.mem_singleton.mpr rfl
  | m :: ms, u :: p, h, hp => List.mem_flatMap.mpr ⟨u, spotsN_mem (h m (List.mem_cons_self ..)) hp.1, List.mem_map.mpr ⟨p, prods_mem (fun m hm => h m (List.mem_cons_of_mem _ hm)) hp.2, rfl⟩⟩
  | [], _ :: _, _, h => h.elim
  | _ :: _, [], _, h => h.elim
theorem few_st {ms : List NetD} {X : List (List Spot)} (ok : ∀ m ∈ ms, m.Ok) (h3 : ms.length ≤ 3) (nd : X.Nodup) (h : ∀ q ∈ X, AllH ms q) : X.length ≤ 91125 := by
  refine Nat.le_trans (nodup_leG nd fun q hq => prods_mem ok (h q hq)) (Nat.le_trans (prods_len ok) ?_)
  have : ms.length = 0 ∨ ms.length = 1 ∨ ms.length = 2 ∨ ms.length = 3 := by omega
  rcases this with e | e | e | e <;> rw [e] <;> decide
theorem Dt.othr {C H : Hp} {p q : Addr} {o o' u : HO} (d : Dt C H p o) (e : Dt C H q o') (h : o ≠ o') : Dt C (upd H q u) p o := Dt.other d e h
theorem lst_ne_dS {P : Program} {w : World} {d : Addr} {X : SX} {xs : List V} : HO.lst xs ≠ dS P w d X := fun z => by unfold dS at z; cases z
theorem dS_tup {P : Program} {w : World} {d : Addr} {X : SX} : ∀ xs, dS P w d X ≠ .tup xs := fun xs z => by unfold dS at z; cases z
/-- what the search keeps -/
structure Gm (ms : List NetD) (s : Int) (p : List Spot) (X : SX) : Prop where
  nd : (X.map (·.1)).Nodup
  rc : ∀ q ∈ X.map (·.1), LCn ms s p q
  st : p ∈ X.map (·.1)
section
variable {P : Program} {w : World} {K : PySem.W.Frag} {mg : Str → Option Value} {base : Heap}
def sp_law_met (P : Program) (w : World) (K : PySem.W.Frag) : Sp := Gives fun vs C post => ∃ r st M p, ∃ s : Int, vs = [.ref r, .int s, .ref st] ∧ Mods C r M ∧ StV C st p ∧ AllH (msOf M) p ∧ M ≠ [] ∧ M.length ≤ 3 ∧ 0 ≤ s ∧
  post = fun v C' => ∃ d, ∃ X : SX, v = .ref d ∧ C d = none ∧ C' d = some (dS P w d X) ∧ KeysAt C' X ∧ X.length ≤ 100000 ∧ ∀ q, q ∈ X.map (·.1) ↔ LCn (msOf M) s p q
theorem c_law_met (T : Txt K mg) : C8.Cal P w K mg base 4 "_law_met" (sp_law_met P w K) [] := by
  refine mkCal (N := ["_law_models", "_law_wide", "_law_stance", "_law_met_here", "_law_waiting", "_law_at", "_law_near_here"]) (ps := ["_law_models", "_law_wide", "_law_stance"]) T.d_law_met T.g_law_met (fun _ _ _ _ _ _ us hl => match us, hl with | [_, _, _], _ => rfl) (by decide +kernel) (fun vs H Q E h => ?_) (fun cdv A outer s H vs Q E hr h => ?_)
  · obtain ⟨C, post, sc, ⟨r, st, M, p, s0, rfl, hM, hp, hh, hne, h3, hs0, rfl⟩, q⟩ := h; rfl
  · obtain ⟨C, post, sc, ⟨r, st, M, p, s0, rfl, hM, hp, hh, hne, h3, hs0, rfl⟩, q⟩ := h
    have nd : (["_law_models", "_law_wide", "_law_stance", "_law_met_here", "_law_waiting", "_law_at", "_law_near_here"] : List Str).Nodup := by decide +kernel
    refine ⟨_, (pss_cons (ps_par3 (i := 3) (j := 4) (l := 5) (by rfl) nd rfl rfl rfl (by decide) (by decide) (by decide) rfl rfl rfl (pa_cons (pe_dispS (units65 hr) (pv 2) pe_bl) (pa_cons (pe_lst (pa_cons (pv 2) pa_nil)) (pa_cons pe_int pa_nil))) (by rfl))
      (pss_cons (ps_while PassesOwn.never (pt_cmpR op_lt (pv 5) (pe_callB call_len_seq (by rfl) T.f_len b_len (pa_cons (pv 4) pa_nil)) (nomark _)) (pss_cons (ps_for PassesOwn.never rfl (pi_list (C8.pe_c (c_law_near T) hr (by decide) (by rfl) (pa_cons (pv 0) (pa_cons (pv 1) (pa_cons (pe_ix ix_list (pv 4) (pv 5) (fun _ _ => rfl)) pa_nil))))) (pg_name (i := 6) nd rfl (Or.inl rfl)) (pss_one (ps_if (PW.pt (pw_and (pt_cmpR (op_notInS (units65 hr)) (pv 6) (pv 3) (by rfl)) (pw_and1 (pt_val (C8.pe_c (c_law_fits T) hr (by decide) (by rfl) (pa_cons (pv 0) (pa_cons (pv 1) (pa_cons (pv 6) pa_nil)))))))) (pss_cons (ps_putS (units65 hr) (pv 3) (pv 6) pe_bl rfl)
      (pss_one (ps_expr (pe_bm PySem.F.plainAttrs_list PySem.F.slot_list_append PySem.F.type_list_append mt_append (pv 4) (pa_cons (pv 6) pa_nil))))) pss_nil)))
      (pss_one (ps_set (i := 5) nd rfl (Or.inl rfl) (pe_op op_add (pv 5) pe_int)))))
      (pss_one (ps_ret (pv 3))))), ?_⟩
    have okm : ∀ m ∈ msOf M, m.Ok := fun m hm => by
      obtain ⟨x, hx, rfl⟩ := List.mem_map.mp hm
      exact (hM.ok x hx).ok
    have h3' : (msOf M).length ≤ 3 := by rw [List.length_map]; exact h3
    have few : ∀ {X : SX}, Gm (msOf M) s0 p X → X.length ≤ 91125 := fun {X} g => by
      have := few_st okm h3' g.nd fun q hq => (g.rc q hq).has okm hh
      rw [List.length_map] at this
      exact this
    intro d hd
    refine ⟨_, rfl, upd_same, st, p, rfl, rfl, (hp.same sc).same (same_upd hd), ?_⟩
    rw [upd_upd]
    refine ⟨_, rfl, sz1, fun wl hwl => ⟨_, _, _, rfl, ?_⟩⟩
    have hwlH : H wl = none := by
      by_cases e : wl = d
      · rw [e]; exact hd
      · rw [upd_ne e] at hwl; exact hwl
    have n0 : Nx [] C H C (upd (upd H d (dS P w d [(p, st)])) wl (.lst (refs [(p, st)]))) := (Nx.tmp0 sc hd).tmp hwl
    have dd0 : Dt C (upd (upd H d (dS P w d [(p, st)])) wl (.lst (refs [(p, st)]))) d (dS P w d [(p, st)]) := ⟨same_none sc hd, by rw [upd_ne (fun z => by rw [← z, upd_same] at hwl; cases hwl)]; exact upd_same⟩
    have dw0 : Dt C (upd (upd H d (dS P w d [(p, st)])) wl (.lst (refs [(p, st)]))) wl (.lst (refs [(p, st)])) := ⟨same_none sc hwlH, upd_same⟩
    refine ⟨fun k σ H' => ∃ z C' X, ∃ at_ : Nat, σ = [some (.ref r), some (.int s0), some (.ref st), some (.ref d), some (.ref wl), some (.int at_), z] ∧ Nx [] C H C' H' ∧ Dt C' H' d (dS P w d X) ∧ Dt C' H' wl (.lst (refs X)) ∧ KeysAt C' X ∧ Gm (msOf M) s0 p X ∧ at_ ≤ X.length ∧
      (∀ (i : Nat) (x : List Spot × Addr), i < at_ → X[i]? = some x → ∀ q, NearL (msOf M) s0 x.1 q → FitsL (msOf M) s0 q → q ∈ X.map (·.1)) ∧ k = 100000 - at_, ⟨_, none, C, [(p, st)], 0, rfl, n0, dd0, dw0, fun x hx => ?_, ⟨by simp, fun q hq => ?_, List.mem_singleton.mpr rfl⟩, Nat.zero_le _, (fun i x h => absurd h (Nat.not_lt_zero _)), rfl⟩, ?_⟩
    · cases List.mem_singleton.mp hx; exact hp
    · cases List.mem_singleton.mp hq; exact .refl
    rintro k σ H1 ⟨z, C1, X, at_, rfl, n1, dd1, dw1, k1, g1, ha, hcl, rfl⟩
    have fewX := few g1
    refine ⟨_, rfl, _, rfl, wl, _, rfl, .inl (.of dw1.at_), _, _, rfl, rfl, _, rfl, ?_⟩
    by_cases c : (at_ : Int) < ((refs X).length : Int)
    · have hat : at_ < X.length := by rw [List.length_map] at c; omega
      refine iteP c ⟨fun σ' H' => ∃ m', m' < 100000 - at_ ∧ ∃ z C' X, ∃ at_ : Nat, σ' = [some (.ref r), some (.int s0), some (.ref st), some (.ref d), some (.ref wl), some (.int at_), z] ∧ Nx [] C H C' H' ∧ Dt C' H' d (dS P w d X) ∧ Dt C' H' wl (.lst (refs X)) ∧ KeysAt C' X ∧ Gm (msOf M) s0 p X ∧ at_ ≤ X.length ∧
        (∀ (i : Nat) (x : List Spot × Addr), i < at_ → X[i]? = some x → ∀ q, NearL (msOf M) s0 x.1 q → FitsL (msOf M) s0 q → q ∈ X.map (·.1)) ∧ m' = 100000 - at_, fun _ _ h => h, ?_⟩
      obtain ⟨⟨q1, b1⟩, ex⟩ : ∃ x, X[at_]? = some x := ⟨_, List.getElem?_eq_getElem hat⟩
      have eix : (refs X)[at_]? = some (.ref b1) := by rw [List.getElem?_map, ex]; rfl
      have hb1 := k1 _ (List.mem_of_getElem? ex)
      have hq1 : q1 ∈ X.map (·.1) := List.mem_map.mpr ⟨_, List.mem_of_getElem? ex, rfl⟩
      have hh1 := (g1.rc _ hq1).has okm hh
      refine ⟨_, rfl, _, rfl, _, rfl, _, rfl, wl, _, _, _, rfl, rfl, .of dw1.at_, atI_nat eix, C1, _, n1.ch, ⟨r, b1, M, q1, s0, rfl, hM.same n1.cc, hb1, hh1, h3, hs0, rfl⟩, fun v C2 H2 a2 ⟨t, Y, ev, ht, ky, yl, hY⟩ => ?_⟩
      subst ev
      have n2 := n1.trans a2
      have dd2 := dd1.on a2 (ho := dS_tup)
      have dw2 := dw1.on a2
      refine ⟨t, rfl, ⟨_, .of (n2.ch _ _ ht)⟩, ?_⟩
      refine for_it walk_list (fun j σ' H' => ∃ z C' X', σ' = [some (.ref r), some (.int s0), some (.ref st), some (.ref d), some (.ref wl), some (.int at_), z] ∧ Nx [] C H C' H' ∧ Same C2 C' ∧ Dt C' H' d (dS P w d X') ∧ Dt C' H' wl (.lst (refs X')) ∧ KeysAt C' X' ∧ Gm (msOf M) s0 p X' ∧ (∃ Z, X' = X ++ Z) ∧
        ∀ (i : Nat) (y : List Spot × Addr), i < j → Y[i]? = some y → FitsL (msOf M) s0 y.1 → y.1 ∈ X'.map (·.1)) ⟨_, C2, X, rfl, n2, Same.rfl' _, dd2, dw2, k1.same a2.cc, g1, ⟨[], by simp⟩, (fun i y h => absurd h (Nat.not_lt_zero _))⟩ (fun j σ' H' _ ⟨_, C', _, _, n, s, _⟩ => .of (n.ch _ _ (s _ _ ht))) (fun j x σ' H3 H4 hj ⟨z, C3, X', es, n3, s3, dd3, dw3, k3, g3, hZ, hF⟩ yy => ?_) (fun σ' H3 ⟨z, C3, X', es, n3, s3, dd3, dw3, k3, g3, ⟨Z, hZ⟩, hF⟩ => ?_)
      · obtain ⟨rfl, hy⟩ := yy
        subst es
        obtain ⟨q2, b2, hq2, rfl⟩ := refs_at hy
        have hb2 := (ky _ (List.mem_of_getElem? hq2)).same s3
        have hnear : NearL (msOf M) s0 q1 q2 := (hY q2).mp (List.mem_map.mpr ⟨_, List.mem_of_getElem? hq2, rfl⟩)
        have hh2 := hnear.has okm hh1
        have fewX' := few g3
        show tIfS _ _ _ _ _ _
        refine cutI (R := fun c H' => ∃ C', Nx [] C3 H4 C' H' ∧ (c = true ↔ q2 ∉ X'.map (·.1) ∧ FitsL (msOf M) s0 q2)) (fun Q' kk => ?_) (fun c H5 ⟨C5, n5, hc⟩ => ?_)
        · refine ⟨_, rfl, _, rfl, b2, d, q2, X', rfl, rfl, .inl dd3.at_, k3.same n3.ch, hb2.same n3.ch, _, rfl, ?_⟩
          by_cases c1 : q2 ∉ X'.map (·.1)
          · refine iteP c1 ⟨_, rfl, _, rfl, _, rfl, C3, _, n3.ch, ⟨r, b2, M, q2, s0, rfl, hM.same n3.cc, hb2, hh2, hne, h3, rfl⟩, fun v C5 H5 n5 ⟨bb, ev, hbb⟩ => ?_⟩
            subst ev
            exact ⟨bb, rfl, kk _ _ ⟨C5, n5, by rw [hbb]; exact ⟨fun h => ⟨c1, h⟩, fun h => h.2⟩⟩⟩
          · exact iteQ c1 (kk _ _ ⟨C3, .rfl n3.ch, ⟨fun h => (Bool.noConfusion h), fun h => absurd h.1 c1⟩⟩)
        · have n5' := n3.trans n5
          have dd5 := dd3.on n5 (ho := dS_tup)
          have dw5 := dw3.on n5
          have k5 := k3.same n5.cc
          have hb5 := hb2.same n5.cc
          cases c with
          | false =>
            refine iteF ⟨_, C5, X', rfl, n5', s3.trans n5.cc, dd5, dw5, k5, g3, hZ, fun i y hi hy' hf => ?_⟩
            by_cases e : i = j
            · subst e
              rw [hq2] at hy'; cases hy'
              exact Classical.byContradiction fun z => absurd (hc.mpr ⟨z, hf⟩) (by simp)
            · exact hF i y (by omega) hy' hf
          | true =>
            obtain ⟨c1, c2⟩ := hc.mp rfl
            refine iteT ⟨_, rfl, _, rfl, d, b2, q2, X', rfl, rfl, rfl, dd5.at_, k5.same n5'.ch, hb5.same n5'.ch, c1, szL (by omega), ?_⟩
            have dw6 : Dt C5 (upd H5 d (dS P w d (X' ++ [(q2, b2)]))) wl (.lst (refs X')) := Dt.othr dw5 dd5 lst_ne_dS
            have dd6 : Dt C5 (upd H5 d (dS P w d (X' ++ [(q2, b2)]))) d (dS P w d (X' ++ [(q2, b2)])) := dd5.put
            refine ⟨_, rfl, .inl ⟨rfl, _, .of dw6.at_⟩, _, rfl, wl, _, _, rfl, rfl, dw6.at_, szL (by rw [List.length_map]; omega), ?_⟩
            have n7 : Nx [] C H C5 (upd (upd H5 d (dS P w d (X' ++ [(q2, b2)]))) wl (.lst (refs X' ++ [.ref b2]))) := (n5'.mut dd5.no hd).mut dw5.no hwlH
            have er : refs X' ++ [V.ref b2] = refs (X' ++ [(q2, b2)]) := by
              show X'.map (fun x => V.ref x.2) ++ [V.ref b2] = (X' ++ [(q2, b2)]).map fun x => V.ref x.2
              rw [List.map_append]
              rfl
            obtain ⟨Z, hZ⟩ := hZ
            refine ⟨_, C5, X' ++ [(q2, b2)], rfl, n7, s3.trans n5.cc, Dt.othr dd6 dw6 (fun z => lst_ne_dS z.symm), ?_, k5.snoc hb5, ⟨?_, fun q hq => ?_, ?_⟩, ⟨Z ++ [(q2, b2)], by rw [hZ, List.append_assoc]⟩, fun i y hi hy' hf => ?_⟩
            · rw [← er]; exact dw6.put
            · rw [List.map_append, List.nodup_append]
              exact ⟨g3.nd, by simp, fun a ha c hc e => c1 (by
                have e2 : c = q2 := List.mem_singleton.mp hc
                rw [← e2, ← e]; exact ha)⟩
            · rw [List.map_append] at hq
              rcases List.mem_append.mp hq with hq | hq
              · exact g3.rc q hq
              · cases List.mem_singleton.mp hq
                exact (g1.rc q1 hq1).snoc hnear c2
            · rw [List.map_append]; exact List.mem_append_left _ g3.st
            · rw [List.map_append]
              by_cases e : i = j
              · subst e
                rw [hq2] at hy'; cases hy'
                exact List.mem_append_right _ (List.mem_singleton.mpr rfl)
              · exact List.mem_append_left _ (hF i y (by omega) hy' hf)
      · subst es
        rw [List.length_map] at hF
        refine ⟨_, rfl, _, _, rfl, rfl, 100000 - (at_ + 1), by omega, _, C3, X', at_ + 1, rfl, n3, dd3, dw3, k3, g3, by rw [hZ, List.length_append]; omega, fun i x hi hx qq hn hf => ?_, rfl⟩
        have hx' : X[i]? = some x := by
          rw [hZ, List.getElem?_append_left (by omega)] at hx
          exact hx
        by_cases e : i = at_
        · subst e
          rw [ex] at hx'; cases hx'
          obtain ⟨y, hy, e2⟩ := List.mem_map.mp ((hY qq).mpr hn)
          obtain ⟨l, hl⟩ := List.mem_iff_getElem?.mp hy
          have := hF l y (ltL hl) hl (by rw [e2]; exact hf)
          rw [e2] at this
          exact this
        · have := hcl i x (by omega) hx' qq hn hf
          rw [hZ, List.map_append]
          exact List.mem_append_left _ this
    · refine iteQ c ⟨_, rfl, q _ _ _ (n1.keep dd1.at_ hd) ⟨d, X, rfl, same_none sc hd, upd_same, k1.same (same_upd dd1.no), by omega, fun qq => ⟨g1.rc qq, fun h => ?_⟩⟩⟩
      rw [List.length_map] at c
      refine LCn.closed (S := fun q => q ∈ X.map (·.1)) (fun a b h1 h2 h4 => ?_) h g1.st
      obtain ⟨x, hx, e⟩ := List.mem_map.mp h1
      obtain ⟨i, hi⟩ := List.mem_iff_getElem?.mp hx
      have := ltL hi
      exact hcl i x (by omega) hi b (by rw [e]; exact h2) h4
end
end AbW

/-! ## Wt -/
set_option Elab.async false
set_option linter.all false
set_option maxRecDepth 100000
set_option maxHeartbeats 4000000
/-! Wt: the law's places, its least spread -/
namespace AbW
open PySem PySem.Spec PyProof.Rows L2 AbH AbR Ab
/-- places by walkers' numbers: a dict -/
abbrev AimK (C : Hp) : List (Key × V) → List (Nat × Spot) → Prop := Paired fun kv a => kv.1 = .inl (a.1 : Int) ∧ SpotV C kv.2 a.2
def AimsAt (C : Hp) (e : Addr) (as : List (Nat × Spot)) : Prop := ∃ kvs, C e = some (.dK kvs) ∧ AimK C kvs as
theorem AimK.same {C C' : Hp} (s : Same C C') {kvs : List (Key × V)} {as : List (Nat × Spot)} (h : AimK C kvs as) : AimK C' kvs as := Paired.mapP h fun _ _ z => ⟨z.1, z.2.same s⟩
theorem AimsAt.same {C C' : Hp} {e : Addr} {as : List (Nat × Spot)} (h : AimsAt C e as) (s : Same C C') : AimsAt C' e as := let ⟨kvs, e1, p⟩ := h; ⟨kvs, s _ _ e1, AimK.same s p⟩
theorem AimK.get {C : Hp} : ∀ {kvs : List (Key × V)} {as : List (Nat × Spot)} {i : Nat} {k : Key} {v : V}, AimK C kvs as → kvs[i]? = some (k, v) → ∃ a, as[i]? = some a ∧ k = .inl (a.1 : Int) ∧ SpotV C v a.2
  | _, _, 0, _, _, .cons r _, e => by cases e; exact ⟨_, rfl, r⟩
  | _, _, i + 1, _, _, .cons _ t, e => AimK.get (i := i) t (by simpa using e)
  | _, _, _, _, _, .nil, e => by simp at e
theorem AimK.keys {C : Hp} : ∀ {kvs : List (Key × V)} {as : List (Nat × Spot)}, AimK C kvs as → kvs.map (·.1) = (as.map fun a => (Sum.inl (a.1 : Int) : Key))
  | _, _, .nil => rfl
  | _, _, .cons r t => by rw [List.map_cons, List.map_cons, r.1, AimK.keys t]
theorem aim_nd {as : List (Nat × Spot)} (na : (as.map (·.1)).Nodup) : (as.map fun a => (Sum.inl (a.1 : Int) : Key)).Nodup := by
  have : (as.map fun a => (Sum.inl (a.1 : Int) : Key)) = (as.map (·.1)).map fun n : Nat => (Sum.inl (n : Int) : Key) := by rw [List.map_map]; rfl
  rw [this]
  exact nodup_map (fun a b e => by have := Sum.inl.inj e; omega) na
theorem AimK.nd {C : Hp} {kvs : List (Key × V)} {as : List (Nat × Spot)} (h : AimK C kvs as) (na : (as.map (·.1)).Nodup) : (kvs.map (·.1)).Nodup := by
  rw [h.keys]; exact aim_nd na
/-- what is true of places -/
structure AimsOk (n : Nat) (as : List (Nat × Spot)) : Prop where
  nd : (as.map (·.1)).Nodup
  ix : ∀ a ∈ as, a.1 < n
  nm : ∀ a ∈ as, a.2.Nm
  ne : as ≠ []
  few : as.length ≤ 3
def Tups (C C' : Hp) : Prop := ∀ b xs, C b = some (.tup xs) → C' b = some (.tup xs)
theorem SpotV.tups {C C' : Hp} (t : Tups C C') {v : V} : ∀ {s : Spot}, SpotV C v s → SpotV C' v s
  | .nd _, h => h
  | .inn _ _ _, ⟨a, e, h⟩ => ⟨a, e, t _ _ h⟩
theorem KeysAt.tups {C C' : Hp} {X : SX} (t : Tups C C') (k : KeysAt C X) : KeysAt C' X := fun x hx => let ⟨vs, e, p⟩ := k x hx; ⟨vs, t _ _ e, Paired.mapP p fun _ _ z => z.tups t⟩
theorem tups_upd {C : Hp} {d : Addr} {o u : HO} (h : C d = some o) (ho : ∀ xs, o ≠ .tup xs) : Tups C (upd C d u) := fun b xs e => by
  rw [upd_ne (fun z => by subst z; rw [h] at e; exact ho xs (Option.some.inj e))]; exact e
theorem dS_fresh {P : Program} {w : World} {C H C' H' : Hp} {d : Addr} {X : SX} {od : Obj} (n : Nx [] C H C' H') (h : C d = none) (h' : C' d = some (dS P w d X)) : Nx [] C H (upd C' d (.frz od (dS P w d X))) (upd H' d (.frz od (dS P w d X))) := n.set2 h (n.fresh h h' (ho := dS_tup))
section
variable {P : Program} {w : World} {K : PySem.W.Frag} {mg : Str → Option Value} {base : Heap}
def sp_law_has (K : PySem.W.Frag) : Sp := Gives fun vs C post => ∃ st e p as, vs = [.ref st, .ref e] ∧ StV C st p ∧ AimsAt C e as ∧ AimsOk p.length as ∧ (∀ u ∈ p, u.Nm) ∧ post = fun v _ => ∃ b, v = .bl b ∧ (b = true ↔ HasL p as)
theorem c_law_has (T : Txt K mg) : C8.Cal P w K mg base 1 "_law_has" (sp_law_has K) [] := by
  refine mkCal (N := ["_law_stance", "_law_aims_here", "_law_k"]) (ps := ["_law_stance", "_law_aims_here"]) T.d_law_has T.g_law_has (fun _ _ _ _ _ _ us hl => match us, hl with | [_, _], _ => rfl) (by decide +kernel) (fun vs H Q E h => ?_) (fun cdv A outer s H vs Q E hr h => ?_)
  · obtain ⟨C, post, sc, ⟨st, e, p, as, rfl, hp, ⟨kvs, he, hk⟩, ok, nmp, rfl⟩, q⟩ := h; rfl
  · obtain ⟨C, post, sc, ⟨st, e, p, as, rfl, hp, ⟨kvs, he, hk⟩, ok, nmp, rfl⟩, q⟩ := h
    have nd : (["_law_stance", "_law_aims_here", "_law_k"] : List Str).Nodup := by decide +kernel
    have hu := units1 hr
    refine ⟨_, (pss_one (ps_ret (pe_callB (cr_all rfl) (by rfl) T.f_all b_all (pa_cons (pe_lock (pe_lc (own := [("_law_k", 2)]) (by rfl) nd (pi_keys (pv 1)) (blkOk_by (own := [("_law_k", 2)]) (N := ["_law_stance", "_law_aims_here", "_law_k"]) (sc := C8.fnScope s_law_has) (by decide +kernel)) (fun _ _ _ _ _ => (pg_name (i := 2) nd rfl (Or.inl rfl))) (fun _ _ _ _ _ => pts_nil) (fun _ _ _ _ _ => (pe_cmpR (op_eqDK (K := K) rfl hr.units) (pe_ix (ix_tupK (K := K) rfl) (pv 0) (pv 2) (fun _ _ => rfl)) (pe_dget hu (pv 1) (pv 2) (fun _ _ => rfl)) (nomark _))))) pa_nil)))), ?_⟩
    obtain ⟨ws, hws, sws⟩ := id hp
    have lws := Sps.len sws
    have lk : kvs.length = as.length := Paired.length hk
    have few := ok.few
    refine lockMap (S := fun i v => ∀ a, as[i]? = some a → ∃ b, v = .bl b ∧ (b = true ↔ p[a.1]? = some a.2)) sc he (szK (by omega)) rfl (fun od i k v C' H' Z ek n kk => ?_) (fun r acc C4 H4 a4 hr hal ha => ?_)
    · obtain ⟨a, ea, rfl, hv⟩ := hk.get ek
      have haa := List.mem_of_getElem? ea
      have hix := ok.ix a haa
      obtain ⟨u, eu⟩ : ∃ u, p[a.1]? = some u := ⟨_, List.getElem?_eq_getElem hix⟩
      obtain ⟨x, ex⟩ : ∃ x, ws[a.1]? = some x := ⟨_, List.getElem?_eq_getElem (by omega)⟩
      obtain ⟨u', eu', hx⟩ := Sps.get sws ex
      rw [eu] at eu'; cases eu'
      have le : Le C C' := (Le.lock he).trans n.le
      have hws' : C' st = some (.tup ws) := le.ex _ _ hws rfl
      have hrd : Rd C' e (.dK kvs) := n.le.rd _ _ (.inr ⟨od, upd_same⟩)
      refine ⟨rfl, _, rfl, _, rfl, st, _, _, _, rfl, rfl, .of (n.ch _ _ hws'), atI_nat ex, _, rfl, _, rfl, e, _, rfl, .inl ⟨kvs, .inl (a.1 : Int), Same.rd n.ch hrd, rfl, (valV_mem (hk.nd ok.nd) (List.mem_of_getElem? ek)).symm⟩, dSpot u, dSpot a.2, dp_spot ((hx.le le).same n.ch), dp_spot ((hv.le le).same n.ch), shaped_spot (nmp u (List.mem_of_getElem? eu)), shaped_spot (ok.nm a haa), ?_⟩
      rw [eqv_spot]
      refine kk _ _ _ (.rfl n.ch) fun a' ha' => ?_
      rw [ea] at ha'; cases ha'
      refine ⟨_, rfl, ?_⟩
      rw [decide_eq_true_eq, eu]
      exact ⟨fun h => by rw [h], fun h => Option.some.inj h⟩
    · obtain ⟨bs, rfl⟩ := acc_bl (acc := acc) fun v hv => by
        obtain ⟨i, hi⟩ := List.mem_iff_getElem?.mp hv
        obtain ⟨a, ea⟩ := getL (l := as) (by omega : as.length = acc.length) (ltL hi)
        obtain ⟨b, e, _⟩ := ha i v hi a ea
        exact ⟨b, e⟩
      refine ⟨r, bs, rfl, .of hr, q _ _ _ a4 ⟨_, rfl, ?_⟩⟩
      rw [List.length_map] at hal
      rw [List.all_eq_true]
      constructor
      · intro h a haa
        obtain ⟨i, hi⟩ := List.mem_iff_getElem?.mp haa
        obtain ⟨b, eb⟩ := getL (l := bs) (by omega : bs.length = as.length) (ltL hi)
        obtain ⟨b', e1, e2⟩ := ha i (.bl b) (by rw [List.getElem?_map, eb]; rfl) a hi
        cases e1
        exact e2.mp (h b (List.mem_of_getElem? eb))
      · intro h b hb
        obtain ⟨i, hi⟩ := List.mem_iff_getElem?.mp hb
        obtain ⟨a, ea⟩ := getL (l := as) (by omega : as.length = bs.length) (ltL hi)
        obtain ⟨b', e1, e2⟩ := ha i (.bl b) (by rw [List.getElem?_map, hi]; rfl) a ea
        cases e1
        exact e2.mpr (h a (List.mem_of_getElem? ea))
def sp_law_least (K : PySem.W.Frag) : Sp := Gives fun vs C post => ∃ r st e M p as, vs = [.ref r, .ref st, .ref e] ∧ Mods C r M ∧ StV C st p ∧ AllH (msOf M) p ∧ M ≠ [] ∧ M.length ≤ 3 ∧ AimsAt C e as ∧ AimsOk M.length as ∧ post = fun v _ => DueL (msOf M) p as v
theorem c_law_least (T : Txt K mg) : C8.Cal P w K mg base 5 "_law_least" (sp_law_least K) [] := by
  refine mkCal (N := ["_law_models", "_law_start", "_law_aims_here", "_law_wide", "_law_stance"]) (ps := ["_law_models", "_law_start", "_law_aims_here"]) T.d_law_least T.g_law_least (fun _ _ _ _ _ _ us hl => match us, hl with | [_, _, _], _ => rfl) (by decide +kernel) (fun vs H Q E h => ?_) (fun cdv A outer s H vs Q E hr h => ?_)
  · obtain ⟨C, post, sc, ⟨r, st, e, M, p, as, rfl, hM, hp, hh, hne, h3, hA, ok, rfl⟩, q⟩ := h; rfl
  · obtain ⟨C, post, sc, ⟨r, st, e, M, p, as, rfl, hM, hp, hh, hne, h3, hA, ok, rfl⟩, q⟩ := h
    have nd : (["_law_models", "_law_start", "_law_aims_here", "_law_wide", "_law_stance"] : List Str).Nodup := by decide +kernel
    refine ⟨_, (pss_cons (ps_for PassesOwn.never rfl (pi_range1 (by rfl) T.f_range (pa_cons pe_int pa_nil)) (pg_name (i := 3) nd rfl (Or.inl rfl)) (pss_one (ps_if (pt_val (C8.pe_c (c_law_fits T) hr (by decide) (by rfl) (pa_cons (pv 0) (pa_cons (pv 3) (pa_cons (pv 1) pa_nil))))) (pss_one (ps_if (pt_val (pe_callB (cr_any rfl) (by rfl) T.f_any b_any (pa_cons (pe_lc (own := [("_law_stance", 4)]) (by rfl) nd (pi_keysS (C8.pe_c (c_law_met T) hr (by decide) (by rfl) (pa_cons (pv 0) (pa_cons (pv 3) (pa_cons (pv 1) pa_nil))))) (blkOk_by (own := [("_law_stance", 4)]) (N := ["_law_models", "_law_start", "_law_aims_here", "_law_wide", "_law_stance"]) (sc := C8.fnScope s_law_least) (by decide +kernel)) (fun _ _ _ _ _ => (pg_name (i := 4) nd rfl (Or.inl rfl))) (fun _ _ _ _ _ => pts_nil) (fun _ _ _ _ _ => (C8.pe_c (c_law_has T) hr (by decide) (by rfl) (pa_cons (pv 4) (pa_cons (pv 2) pa_nil))))) pa_nil))) (pss_one (ps_ret (pv 3))) pss_nil)) pss_nil)))
      (pss_one (ps_ret pe_non))), ?_⟩
    have okm : ∀ m ∈ msOf M, m.Ok := fun m hm => by
      obtain ⟨x, hx, rfl⟩ := List.mem_map.mp hm
      exact (hM.ok x hx).ok
    have nmq : ∀ {q : List Spot}, AllH (msOf M) q → ∀ u ∈ q, u.Nm := fun {q} h u hu' => by
      obtain ⟨i, hi⟩ := List.mem_iff_getElem?.mp hu'
      obtain ⟨m, em⟩ := getL (l := msOf M) h.len.symm (ltL hi)
      exact NetD.has_nm (okm m (List.mem_of_getElem? em)) (h.get em hi)
    have lq : ∀ {q : List Spot}, AllH (msOf M) q → q.length = M.length := fun {q} h => by rw [h.len, List.length_map]
    refine ⟨7, rfl, by decide, by decide, ?_⟩
    refine for_it walk_range (fun i σ' H' => ∃ z1 C', σ' = [some (.ref r), some (.ref st), some (.ref e), z1, none] ∧ Nx [] C H C' H' ∧ ∀ s : Int, 0 ≤ s → s < (i : Int) → FitsL (msOf M) s p → ¬ ∃ q, LCn (msOf M) s p q ∧ HasL q as) ⟨_, C, rfl, .rfl sc, fun s h1 h2 => by omega⟩ (fun _ _ _ _ _ => trivial) (fun i x σ' H1 H2 hi ⟨z1, C1, es, n1, no⟩ y => ?_) (fun σ' H1 ⟨z1, C1, es, n1, no⟩ => ?_)
    · obtain ⟨rfl, rfl⟩ := y
      subst es
      have i7 : i < 7 := hi
      have e0 : (0 : Int) + (i : Int) = (i : Int) := by omega
      have more : ∀ {C' H' : Hp}, Nx [] C H C' H' → (FitsL (msOf M) (i : Int) p → ¬ ∃ q, LCn (msOf M) (i : Int) p q ∧ HasL q as) → ∃ z1 C', ([some (.ref r), some (.ref st), some (.ref e), some (.int (0 + (i : Int))), none] : L2.St) = [some (.ref r), some (.ref st), some (.ref e), z1, none] ∧ Nx [] C H C' H' ∧ ∀ s : Int, 0 ≤ s → s < ((i + 1 : Nat) : Int) → FitsL (msOf M) s p → ¬ ∃ q, LCn (msOf M) s p q ∧ HasL q as := fun {C' H'} n h => ⟨_, C', rfl, n, fun s h1 h2 hf => by
        by_cases es : s = (i : Int)
        · subst es; exact h hf
        · exact no s h1 (by omega) hf⟩
      refine ⟨_, rfl, _, rfl, _, rfl, C1, _, n1.ch, ⟨r, st, M, p, 0 + (i : Int), rfl, hM.same n1.cc, hp.same n1.cc, hh, hne, h3, rfl⟩, fun v C2 H2 a2 ⟨b, ev, hb⟩ => ?_⟩
      subst ev
      rw [e0] at hb
      have n2 := n1.trans a2
      refine ⟨b, rfl, ?_⟩
      cases b with
      | false => exact iteF (more n2 fun hf => absurd (hb.mpr hf) (by simp))
      | true =>
        have hf := hb.mp rfl
        refine iteT ⟨_, rfl, _, rfl, _, rfl, C2, _, n2.ch, ⟨r, st, M, p, 0 + (i : Int), rfl, hM.same n2.cc, hp.same n2.cc, hh, hne, h3, by omega, rfl⟩, fun v C3 H3 a3 ⟨d, X, ev, cd, hd, kx, xl, hX⟩ => ?_⟩
        subst ev
        rw [e0] at hX
        refine ⟨d, _, rfl, a3.ch _ _ hd, dS_mut, fun od => ⟨d, od, X, rfl, upd_same, ?_⟩⟩
        have a4 := dS_fresh (od := od) a3 cd hd
        have n4 := n2.trans a4
        have kx4 := KeysAt.tups (tups_upd (u := .frz od (dS P w d X)) hd dS_tup) kx
        refine lcMap (M := []) walk_keysS (fun j v _ => ∀ x, X[j]? = some x → ∃ b, v = .bl b ∧ (b = true ↔ HasL x.1 as)) n4.ch (fun _ h => nomatch h) (szK xl) (fun C' H' n => n.hh d _ (fun z => nomatch z) upd_same) (fun _ _ _ _ _ h => h) (fun j v C5 H5 H6 Z hj n5 y k => ?_) (fun R acc C5 H5 n5 cR hR hH hal ha => ?_)
        · obtain ⟨rfl, l, bb, hl, rfl⟩ := y
          have hlm := List.mem_of_getElem? hl
          have hlh : AllH (msOf M) l := ((hX l).mp (List.mem_map.mpr ⟨_, hlm, rfl⟩)).has okm hh
          have n5' := n4.trans n5
          refine ⟨rfl, _, rfl, _, rfl, C5, _, n5.ch, ⟨bb, e, l, as, rfl, (kx4 _ hlm).same n5.cc, hA.same n5'.cc, by rw [lq hlh]; exact ok, nmq hlh, rfl⟩, fun v C7 H7 n7 ⟨b, ev, hb⟩ => ?_⟩
          subst ev
          refine k _ _ _ n7 fun x hx => ?_
          rw [hl] at hx; cases hx
          exact ⟨b, rfl, hb⟩
        · obtain ⟨bs, rfl⟩ := acc_bl (acc := acc) fun v hv => by
            obtain ⟨j, hj⟩ := List.mem_iff_getElem?.mp hv
            obtain ⟨x, ex⟩ := getL (l := X) hal.symm (ltL hj)
            obtain ⟨b, e, _⟩ := ha j v hj x ex
            exact ⟨b, e⟩
          rw [List.length_map] at hal
          have hany : bs.any id = true ↔ ∃ q, LCn (msOf M) (i : Int) p q ∧ HasL q as := by
            rw [List.any_eq_true]
            constructor
            · rintro ⟨b, hb, hbt⟩
              obtain ⟨j, hj⟩ := List.mem_iff_getElem?.mp hb
              obtain ⟨x, ex⟩ := getL (l := X) hal.symm (ltL hj)
              obtain ⟨b', e1, e2⟩ := ha j (.bl b) (by rw [List.getElem?_map, hj]; rfl) x ex
              cases e1
              exact ⟨x.1, (hX _).mp (List.mem_map.mpr ⟨_, List.mem_of_getElem? ex, rfl⟩), e2.mp hbt⟩
            · rintro ⟨qq, h1, h2⟩
              obtain ⟨x, hx, rfl⟩ := List.mem_map.mp ((hX qq).mpr h1)
              obtain ⟨j, hj⟩ := List.mem_iff_getElem?.mp hx
              obtain ⟨b, eb⟩ := getL (l := bs) hal (ltL hj)
              obtain ⟨b', e1, e2⟩ := ha j (.bl b) (by rw [List.getElem?_map, eb]; rfl) x hj
              cases e1
              exact ⟨b, List.mem_of_getElem? eb, e2.mpr h2⟩
          have n5' := n4.trans n5
          refine ⟨R, bs, rfl, .of hH, _, rfl, ?_⟩
          cases hb2 : bs.any id with
          | true => exact iteT ⟨_, rfl, q _ _ _ n5' (.inr ⟨(i : Int), congrArg V.int e0, by omega, by omega, hf, hany.mp hb2, no⟩)⟩
          | false => exact iteF (more n5' fun _ hq => absurd (hany.mpr hq) (by rw [hb2]; simp))
    · subst es
      exact q _ _ _ n1 (.inl ⟨rfl, fun s h1 h2 hf => no s h1 (by
        have : ((7 : Int).toNat : Int) = 7 := rfl
        omega) hf⟩)
end
end AbW

/-! ## Wu -/
set_option Elab.async false
set_option linter.all false
set_option maxRecDepth 100000
set_option maxHeartbeats 4000000
/-! Wu: the law's companies, shown stances, aims, mixes -/
namespace AbW
open PySem PySem.Spec PyProof.Rows L2 AbH AbR Ab
theorem Nx.ext {M : List Addr} {C H H' : Hp} (sc : Same C H) (h : ∀ b o, H b = some o → H' b = some o) : Nx M C H C H' := by
  refine ⟨fun _ _ e => e, fun b o e => h b o (sc b o e), fun b hb => ?_, fun b o _ e => h b o e, fun b e _ _ => e⟩
  obtain ⟨o, e⟩ := Option.ne_none_iff_exists'.mp hb
  have e2 := h b o e
  exact ⟨fun z => (by rw [e2] at z; cases z), fun xs z => by rw [e2] at z; rw [e]; exact z⟩
theorem merge_nd {kvs : List (Key × V)} (h : (kvs.map (·.1)).Nodup) : mergeK [] kvs = kvs := by
  rw [merge_new (by rw [List.nil_append]; exact h), List.nil_append]
theorem zip_get {α β : Type} : ∀ {l : List α} {k : List β} {q : α × β}, q ∈ l.zip k → ∃ i : Nat, l[i]? = some q.1 ∧ k[i]? = some q.2
  | [], _, q, h => by simp at h
  | _ :: _, [], q, h => by simp at h
  | a :: l, b :: k, q, h => by
    rw [List.zip_cons_cons] at h
    rcases List.mem_cons.mp h with rfl | h
    · exact ⟨0, rfl, rfl⟩
    · obtain ⟨i, e1, e2⟩ := zip_get h
      exact ⟨i + 1, by simpa using e1, by simpa using e2⟩
theorem zip_fst {α β : Type} : ∀ {l : List α} {k : List β}, l.length = k.length → (l.zip k).map (·.1) = l
  | [], [], _ => rfl
  | a :: l, b :: k, h => by rw [List.zip_cons_cons, List.map_cons, zip_fst (by simpa using h)]
  | [], _ :: _, h => by simp at h
  | _ :: _, [], h => by simp at h
theorem zip_snd {α β : Type} : ∀ {l : List α} {k : List β}, l.length = k.length → (l.zip k).map (·.2) = k
  | [], [], _ => rfl
  | a :: l, b :: k, h => by rw [List.zip_cons_cons, List.map_cons, zip_snd (by simpa using h)]
  | [], _ :: _, h => by simp at h
  | _ :: _, [], h => by simp at h
theorem acc_nets {C : Hp} : ∀ {acc : List V} {W : List Str} {ms : List NetD}, acc.length = W.length → ms.length = W.length → (∀ (i : Nat) (v : V), acc[i]? = some v → ∃ p b, v = .ref p ∧ C p = some (.tup [.str (W.getD i ""), .ref b]) ∧ NetAt C b (ms.getD i nD)) →
    ∃ (ps : List Addr) (ns : List (Str × Addr)), acc = ps.map V.ref ∧ ns.map (·.1) = W ∧ Paired (fun p (kv : Key × V) => C p = some (.tup [kV kv.1, kv.2])) ps (nsK ns) ∧ ∀ (i : Nat) (q : Str × Addr), ns[i]? = some q → NetAt C q.2 (ms.getD i nD)
  | [], [], _, _, _, _ => ⟨[], [], rfl, rfl, .nil, fun i q h => by simp at h⟩
  | [], _ :: _, _, h, _, _ => by simp at h
  | _ :: _, [], _, h, _, _ => by simp at h
  | _ :: _, _ :: _, [], _, h, _ => by simp at h
  | v :: acc, x :: W, m :: ms, h1, h2, h => by
    obtain ⟨p, b, e, hp, hb⟩ := h 0 v rfl
    obtain ⟨ps, ns, e1, e2, e3, e4⟩ := acc_nets (acc := acc) (W := W) (ms := ms) (by simpa using h1) (by simpa using h2) fun i v hv => by
      have := h (i + 1) v (by simpa using hv)
      simpa using this
    refine ⟨p :: ps, (x, b) :: ns, by rw [e, e1]; rfl, by rw [List.map_cons, e2], .cons (show C p = some (.tup [.str x, .ref b]) by simpa using hp) e3, fun i q hq => ?_⟩
    cases i with
    | zero => cases hq; simpa using hb
    | succ i => simpa using e4 i q (by simpa using hq)
section
variable {P : Program} {w : World} {K : PySem.W.Frag} {mg : Str → Option Value} {base : Heap}
def sp_law_shown (K : PySem.W.Frag) : Sp := Gives fun vs C post => ∃ rl st W p N, vs = [.ref rl, .ref st] ∧ C rl = some (.lst (W.map V.str)) ∧ StV C st p ∧ p.length = W.length ∧ W.Nodup ∧ (∀ (k : Nat) (x : Str) (u : Spot), W[k]? = some x → p[k]? = some u → NetD.has (N x) u) ∧ post = fun v C' => ∃ d, v = .ref d ∧ SpotsAt C' d W N (fnL sD W p)
theorem c_law_shown (T : Txt K mg) : C8.Cal P w K mg base 1 "_law_shown" (sp_law_shown K) [] := by
  refine mkCal (N := ["_law_labels", "_law_stance"]) (ps := ["_law_labels", "_law_stance"]) T.d_law_shown T.g_law_shown (fun _ _ _ _ _ _ us hl => match us, hl with | [_, _], _ => rfl) (by decide +kernel) (fun vs H Q E h => ?_) (fun cdv A outer s H vs Q E hr h => ?_)
  · obtain ⟨C, post, sc, ⟨rl, st, W, p, N, rfl, hrl, hst, hl, nd, hN, rfl⟩, q⟩ := h; rfl
  · obtain ⟨C, post, sc, ⟨rl, st, W, p, N, rfl, hrl, hst, hl, nd, hN, rfl⟩, q⟩ := h
    refine ⟨_, (pss_one (ps_ret (pe_callTy (call_dictP rfl) (by rfl) T.f_dict b_dict (pa_cons (pe_listZip (K := K) rfl rfl (by rfl) T.f_list b_list (by rfl) T.f_zip (pa_cons (pv 0) (pa_cons (pv 1) pa_nil))) pa_nil)))), ?_⟩
    obtain ⟨ws, hws, sws⟩ := id hst
    have lws : W.length = ws.length := by rw [← hl]; exact (Sps.len sws).symm
    have kfst : (vsK (W.zip ws)).map (fun q => kV q.1) = W.map V.str := by
      unfold vsK
      rw [List.map_map]
      conv => rhs; rw [← zip_fst lws, List.map_map]
      rfl
    have ksnd : (vsK (W.zip ws)).map (·.2) = ws := by
      unfold vsK
      rw [List.map_map]
      exact zip_snd lws
    refine ⟨_, rfl, _, rfl, rl, st, vsK (W.zip ws), rfl, .of (by rw [kfst]; exact sc _ _ hrl), .of (by rw [ksnd]; exact sc _ _ hws), fun H' p' ts k1 k2 k3 k4 k5 k6 => ⟨p', ts, vsK (W.zip ws), rfl, .of k5, Paired.mapP k6 fun _ _ z => .of z, fun d hd => ?_⟩⟩
    have n1 : Nx [] C H C H' := .ext sc k1
    rw [merge_nd (vsK_nd (by rw [zip_fst lws]; exact nd))]
    refine q _ _ _ (n1.new hd) ⟨d, rfl, W.zip ws, upd_same, by rw [zip_fst lws], fun z hz => ?_⟩
    obtain ⟨i, e1, e2⟩ := zip_get hz
    obtain ⟨u, eu, hu'⟩ := Sps.get (sws) e2
    rw [fnL_at nd hl e1 eu]
    exact ⟨hu'.same (same_upd (same_none n1.ch hd)), hN i _ _ e1 eu⟩
def sp_law_company (K : PySem.W.Frag) : Sp := Gives fun vs C post => ∃ rl rm W M s, vs = [.ref rl, .ref rm, .int s] ∧ C rl = some (.lst (W.map V.str)) ∧ Mods C rm M ∧ M.length = W.length ∧ CoOk W s ∧ post = fun v C' => ∃ b, v = .ref b ∧ CompanyAt C' b W (fnL nD W (msOf M)) s
theorem c_law_company (T : Txt K mg) : C8.Cal P w K mg base 7 "_law_company" (sp_law_company K) [] := by
  refine mkCal (N := ["_law_labels", "_law_models", "_law_wide", "_law_label", "_law_model_here"]) (ps := ["_law_labels", "_law_models", "_law_wide"]) T.d_law_company T.g_law_company (fun _ _ _ _ _ _ us hl => match us, hl with | [_, _, _], _ => rfl) (by decide +kernel) (fun vs H Q E h => ?_) (fun cdv A outer s H vs Q E hr h => ?_)
  · obtain ⟨C, post, sc, ⟨rl, rm, W, M, s', rfl, hrl, hM, hl, ok, rfl⟩, q⟩ := h; rfl
  · obtain ⟨C, post, sc, ⟨rl, rm, W, M, s', rfl, hrl, hM, hl, ok, rfl⟩, q⟩ := h
    have nd : (["_law_labels", "_law_models", "_law_wide", "_law_label", "_law_model_here"] : List Str).Nodup := by decide +kernel
    refine ⟨_, (pss_one (ps_ret (C8.pe_mk (m_Company T) hr (by decide) (by rfl) (pa_cons (pe_callTy (call_dictP rfl) (by rfl) T.f_dict b_dict (pa_cons (pe_lc (own := [("_law_label", 3), ("_law_model_here", 4)]) (by rfl) nd (pi_zip (by rfl) T.f_zip (pa_cons (pv 0) (pa_cons (pv 1) pa_nil))) (blkOk_by (own := [("_law_label", 3), ("_law_model_here", 4)]) (N := ["_law_labels", "_law_models", "_law_wide", "_law_label", "_law_model_here"]) (sc := C8.fnScope s_law_company) (by decide +kernel)) (fun _ _ _ _ _ => (pg_tupK (K := K) (n := 2) rfl (by rfl) (pgs_cons (pg_name (i := 3) nd rfl (Or.inl rfl)) (pgs_cons (pg_name (i := 4) nd rfl (Or.inl rfl)) pgs_nil)))) (fun _ _ _ _ _ => pts_nil) (fun _ _ _ _ _ => (pe_tup (pa_cons (pv 3) (pa_cons (C8.pe_c (c_law_net T) hr (by decide) (by rfl) (pa_cons (pv 4) pa_nil)) pa_nil))))) pa_nil)) (pa_cons (pv 2) pa_nil))))), ?_⟩
    have few := ok.few
    refine ⟨_, rfl, _, rfl, rl, rm, _, _, rfl, .of (sc _ _ hrl), .of (sc _ _ hM.at_), ?_⟩
    refine lcMap (M := []) (walk_zip (n := W.length) (by rw [List.length_map, List.length_map]; omega)) (fun i v C => ∃ p b, v = .ref p ∧ C p = some (.tup [.str (W.getD i ""), .ref b]) ∧ NetAt C b ((msOf M).getD i nD)) sc (fun _ h => nomatch h) (szK (by omega)) (fun C' H' n => ⟨.of (n.ch _ _ (n.cc _ _ hrl)), .of (n.ch _ _ (n.cc _ _ hM.at_))⟩) (fun i v C C' s ⟨p, b, e, hp, hb⟩ => ⟨p, b, e, s _ _ hp, hb.le (Same.le s)⟩) (fun i v C1 H1 H2 Z hi n1 y k => ?_) (fun R acc C1 H1 n1 cR hR hH hal ha => ?_)
    · obtain ⟨Tn, x, y, rfl, hT, rfl, ex, ey⟩ := y
      dsimp only at ex ey
      rw [List.getElem?_map] at ex ey
      obtain ⟨x, ex2, rfl⟩ := Option.map_eq_some_iff.mp ex
      obtain ⟨m, em, rfl⟩ := Option.map_eq_some_iff.mp ey
      have a2 : Nx [] C1 H1 C1 (upd H1 Tn (.tup [.str x, .ref m.1])) := .tmp0 n1.ch hT
      have n2 := n1.trans a2
      have hm := (hM.ok m (List.mem_of_getElem? em)).same n2.cc
      refine ⟨Tn, _, rfl, .of upd_same, rfl, _, _, rfl, _, _, rfl, rfl, rfl, _, rfl, _, rfl, C1, _, n2.ch, ⟨m.1, m.2, rfl, hm, rfl⟩, fun v C3 H3 a3 ⟨b, ev, hb⟩ => ?_⟩
      subst ev
      refine ⟨sz2, fun p hp => k _ _ _ ((a2.trans a3).new hp) ⟨p, b, rfl, ?_, ?_⟩⟩
      · rw [List.getD_eq_getElem?_getD, ex2]; exact upd_same
      · have e2 : (msOf M).getD i nD = m.2 := by rw [List.getD_eq_getElem?_getD, List.getElem?_map, em]; rfl
        rw [e2]
        exact hb.le (Same.le (same_upd (same_none a3.ch hp)))
    · obtain ⟨ps, ns, ea, en, ep, eN⟩ := acc_nets (ms := msOf M) hal (by rw [List.length_map]; exact hl) ha
      subst ea
      have ndk : ((nsK ns).map (·.1)).Nodup := by rw [nsK_keys, en]; exact nodup_map (fun _ _ e => Sum.inr.inj e) ok.nd
      refine ⟨R, ps, nsK ns, rfl, .of hH, Paired.mapP ep fun _ _ z => .of (n1.ch _ _ z), fun d hd => ?_⟩
      rw [merge_nd ndk]
      have n2 : Nx [] C H (upd C1 d (.dK (nsK ns))) (upd H1 d (.dK (nsK ns))) := n1.new hd
      have s2 : Same C1 (upd C1 d (.dK (nsK ns))) := same_upd (same_none n1.ch hd)
      refine ⟨_, rfl, fun x dx hx hdx hne => ?_⟩
      refine ⟨_, x, dx, d, s', W, fnL nD W (msOf M), (((Nx.rfl (M := []) n2.ch).tmp hdx).mut (same_none n2.ch hx) hx).ch, rfl, upd_same, same_none n2.ch hx, ok, ⟨ns, upd_same, by rw [en], fun z hz => ?_⟩, fun C' H' o n cx hHx hC => ⟨rfl, q _ _ _ (n2.trans (Nx.made n2.ch hx hdx n hHx)) ⟨x, rfl, hC⟩⟩⟩
      obtain ⟨i, hi⟩ := List.mem_iff_getElem?.mp hz
      have e1 : W[i]? = some z.1 := by rw [← en, List.getElem?_map, hi]; rfl
      have hil := ltL e1
      obtain ⟨m, em⟩ : ∃ m, (msOf M)[i]? = some m := getL (l := msOf M) rfl (by rw [List.length_map]; omega)
      rw [fnL_at ok.nd (by rw [List.length_map]; exact hl) e1 em]
      have := eN i z hi
      rw [List.getD_eq_getElem?_getD, em] at this
      exact this.le (Same.le s2)
/-- places that stand in their models -/
def AimHas (M : MX) (as : List (Nat × Spot)) : Prop := ∀ a ∈ as, ∀ m, (msOf M)[a.1]? = some m → m.has a.2
theorem disp1 {k : Key} {v : V} : mergeK [] [(k, v)] = [(k, v)] := merge_nd (by simp)
def sp_law_aims (K : PySem.W.Frag) : Sp := GivesP fun vs C pot post => ∃ rm M, vs = [.ref pot, .ref rm] ∧ Mods C rm M ∧ M ≠ [] ∧ M.length ≤ 3 ∧ post = fun v C' => ∃ d as, v = .ref d ∧ AimsAt C' d as ∧ AimsOk M.length as ∧ AimHas M as
theorem c_law_aims (T : Txt K mg) : C8.Cal P w K mg base 3 "_law_aims" (sp_law_aims K) [] := by
  refine mkCal (N := ["_law_pot_here", "_law_models", "_law_found", "_law_k", "_law_model_here"]) (ps := ["_law_pot_here", "_law_models"]) T.d_law_aims T.g_law_aims (fun _ _ _ _ _ _ us hl => match us, hl with | [_, _], _ => rfl) (by decide +kernel) (fun vs H Q E h => ?_) (fun cdv A outer s H vs Q E hr h => ?_)
  · obtain ⟨C, pot, post, sc, hpot, ⟨rm, M, rfl, hM, hne, h3, rfl⟩, q⟩ := h; rfl
  · obtain ⟨C, pot, post, sc, hpot, ⟨rm, M, rfl, hM, hne, h3, rfl⟩, q⟩ := h
    have nd : (["_law_pot_here", "_law_models", "_law_found", "_law_k", "_law_model_here"] : List Str).Nodup := by decide +kernel
    have hu := units1 hr
    refine ⟨_, (pss_cons (ps_set (i := 2) nd rfl (Or.inl rfl) pe_dnewK)
      (pss_cons (ps_for PassesOwn.never rfl (pi_enum (by rfl) T.f_enumerate (pa_cons (pv 1) pa_nil)) (pg_tup (n := 2) (by rfl) (pgs_cons (pg_name (i := 3) nd rfl (Or.inl rfl)) (pgs_cons (pg_name (i := 4) nd rfl (Or.inl rfl)) pgs_nil))) (pss_one (ps_if (pt_cmpR op_gt (C8.pe_c (c_law_draw T) hr (by decide) (by rfl) (pa_cons (pv 0) (pa_cons pe_int pa_nil))) pe_int (nomark _)) (pss_one (ps_dput hu (pv 2) (pv 3) (C8.pe_c (c_law_pick T) hr (by decide) (by rfl) (pa_cons (pv 0) (pa_cons (C8.pe_c (c_law_all_spots T) hr (by decide) (by rfl) (pa_cons (pv 4) pa_nil)) pa_nil))) rfl)) pss_nil)))
      (pss_one (ps_ret (pe_ifExp (pt_cmpR (op_neEmpty (units1 hr)) (pv 2) pe_dnewK (nomark _)) (pv 2) (pe_disp (pps_cons pe_int (C8.pe_c (c_law_pick T) hr (by decide) (by rfl) (pa_cons (pv 0) (pa_cons (C8.pe_c (c_law_all_spots T) hr (by decide) (by rfl) (pa_cons (pe_ix ix_list (pv 1) pe_int (fun _ _ => rfl)) pa_nil)) pa_nil))) pps_nil) (by rfl) (by rfl) (fun z => by cases z) (by decide))))))), ?_⟩
    have nmM : ∀ {i : Nat} {m : NetD} {u : Spot}, (msOf M)[i]? = some m → m.has u → u.Nm := fun {i m u} e h => by
      rw [List.getElem?_map] at e
      obtain ⟨x, ex, rfl⟩ := Option.map_eq_some_iff.mp e
      exact NetD.has_nm (hM.ok x (List.mem_of_getElem? ex)).ok h
    have pne : ∀ {p : Addr}, H p = none → p ∉ [pot] := fun {p} hp z => by
      cases List.mem_singleton.mp z
      exact hpot.ne hp
    refine fun d hd => ?_
    have n0 : Nx [pot] C H C (upd H d (.dK [])) := .tmp0 sc hd
    have a0 : Nx [] C H C (upd H d (.dK [])) := .tmp0 sc hd
    have d0 : Dt C (upd H d (.dK [])) d (.dK []) := .make sc hd
    refine ⟨_, rfl, rm, _, rfl, .of (n0.ch _ _ hM.at_), ?_⟩
    refine for_it walk_enum (fun i σ' H' => ∃ z1 z2 C' kvs as, σ' = [some (.ref pot), some (.ref rm), some (.ref d), z1, z2] ∧ Nx [pot] C H C' H' ∧ Pot C' H' pot ∧ Dt C' H' d (.dK kvs) ∧ AimK C' kvs as ∧ (as.map (·.1)).Nodup ∧ (∀ a ∈ as, a.1 < i) ∧ as.length ≤ i ∧ AimHas M as) ⟨_, _, C, [], [], rfl, n0, hpot.on a0, d0, .nil, List.nodup_nil, (fun _ h => nomatch h), Nat.le_refl _, (fun _ h => nomatch h)⟩ (fun i σ' H' _ ⟨_, _, C', _, _, _, n, _⟩ => .of (n.ch _ _ (n.cc _ _ hM.at_))) (fun i x σ' H2 H3 hi ⟨z1, z2, C2, kvs, as, es, n2, p2, d2, ak, nd2, ix2, le2, has2⟩ y => ?_) (fun σ' H2 ⟨z1, z2, C2, kvs, as, es, n2, p2, d2, ak, nd2, ix2, le2, has2⟩ => ?_)
    · obtain ⟨Tn, x, y, rfl, hT, rfl, ex, ey⟩ := y
      dsimp only at ex ey
      subst es
      cases ex
      rw [List.getElem?_map] at ey
      obtain ⟨m, em, rfl⟩ := Option.map_eq_some_iff.mp ey
      rw [List.length_map] at hi
      have aT : Nx [] C2 H2 C2 (upd H2 Tn (.tup [.int (i : Nat), .ref m.1])) := .tmp0 n2.ch hT
      have n3 := n2.trans aT.pure
      have p3 := p2.on aT
      have d3 := d2.on aT
      refine ⟨Tn, _, rfl, .of upd_same, rfl, _, _, rfl, _, _, rfl, rfl, ?_⟩
      refine ⟨_, rfl, C2, pot, _, n3.ch, p3, ⟨_, rfl, by decide, by decide, rfl⟩, fun v C4 H4 a4 p4 ⟨r, ev, r0, r1⟩ => ?_⟩
      subst ev
      have n4 := n3.trans a4
      have d4 := d3.on a4 (pne hd)
      have ak4 := ak.same a4.cc
      refine ⟨_, _, rfl, rfl, _, rfl, ?_⟩
      by_cases c : r > 0
      · refine iteP c ?_
        have hm := hM.ok m (List.mem_of_getElem? em)
        refine ⟨_, rfl, _, rfl, C4, _, n4.ch, ⟨m.1, m.2, rfl, hm.same n4.cc, rfl⟩, fun v C5 H5 a5 ⟨l, ws, sp, ev, hl, hws, hn, hl45, hh⟩ => ?_⟩
        subst ev
        have n5 := n4.trans a5.pure
        have p5 := p4.on a5
        have d5 := d4.on a5
        have lw := Sps.len hws
        refine ⟨C5, pot, _, n5.ch, p5, ⟨l, ws, rfl, hl, fun z => hn (by rw [z] at lw; exact List.eq_nil_of_length_eq_zero lw.symm), by omega, rfl⟩, fun v C6 H6 a6 p6 hv => ?_⟩
        obtain ⟨j, hj⟩ := List.mem_iff_getElem?.mp hv
        obtain ⟨u, eu, hu'⟩ := Sps.get hws hj
        have hum := List.mem_of_getElem? eu
        have n6 := n5.trans a6
        have d6 := d5.on a6 (pne hd)
        have ak6 := (ak4.same a5.cc).same a6.cc
        have lk : kvs.length = as.length := Paired.length ak
        refine ⟨_, rfl, _, rfl, d, _, rfl, DPut.k (k := Sum.inl (i : Int)) d6.at_ (szL (by omega)), ?_⟩
        have nk : valV kvs (Sum.inl (i : Int)) = none := valV_out (by
          rw [ak.keys]
          intro z
          obtain ⟨a, ha, e⟩ := List.mem_map.mp z
          have := ix2 a ha
          have := Sum.inl.inj e
          omega)
        rw [putK_new _ nk]
        have em2 : (msOf M)[i]? = some m.2 := by rw [List.getElem?_map, em]; rfl
        refine ⟨_, _, C6, _, as ++ [(i, u)], rfl, n6.put d6 hd, p6.upd (fun z => hpot.ne (by rw [← z]; exact hd)), d6.put, ?_, ?_, ?_, ?_, ?_⟩
        · have ap : ∀ {k1 k2 : List (Key × V)} {a1 a2 : List (Nat × Spot)}, AimK C6 k1 a1 → AimK C6 k2 a2 → AimK C6 (k1 ++ k2) (a1 ++ a2) := fun {k1 k2 a1 a2} h1 h2 => by
            induction h1 with
            | nil => exact h2
            | cons r t ih => exact .cons r ih
          exact ap ak6 (.cons ⟨rfl, hu'.same a6.cc⟩ .nil)
        · rw [List.map_append, List.nodup_append]
          exact ⟨nd2, by simp, fun a ha b hb e => by
            obtain ⟨x, hx, rfl⟩ := List.mem_map.mp ha
            have := ix2 x hx
            have eb : b = i := by simpa using hb
            omega⟩
        · intro a ha
          rcases List.mem_append.mp ha with ha | ha
          · have := ix2 a ha; omega
          · cases List.mem_singleton.mp ha; exact Nat.lt_succ_self _
        · rw [List.length_append, List.length_singleton]; omega
        · intro a ha m' em'
          rcases List.mem_append.mp ha with ha | ha
          · exact has2 a ha m' em'
          · cases List.mem_singleton.mp ha
            rw [em2] at em'; cases em'
            exact hh u hum
      · exact iteQ c ⟨_, _, C4, kvs, as, rfl, n4, p4, d4, ak4, nd2, fun a ha => by have := ix2 a ha; omega, by omega, has2⟩
    · subst es
      rw [List.length_map] at ix2 le2
      have lk : kvs.length = as.length := Paired.length ak
      refine ⟨_, rfl, fun e he => ⟨d, e, kvs, rfl, rfl, ?_, upd_same, ?_⟩⟩
      · rw [upd_ne (fun z => by rw [← z, d2.at_] at he; cases he)]; exact d2.at_
      have aE : Nx [] C2 H2 C2 (upd H2 e (.dK [])) := .tmp0 n2.ch he
      have n3 := n2.trans aE.pure
      have p3 := p2.on aE
      have d3 := d2.on aE
      refine ⟨_, rfl, ?_⟩
      cases hk : kvs with
      | cons kv r =>
        rw [hk] at lk d3 ak
        refine iteT ⟨_, rfl, q _ _ _ (n3.keep d3.at_ hd) ?_ ⟨d, as, rfl, ⟨_, upd_same, ak.same (same_upd d3.no)⟩, ⟨nd2, ix2, fun a ha => ?_, fun z => ?_, by omega⟩, has2⟩⟩
        · obtain ⟨pc, i1, i2, g1, g2, g3⟩ := p3
          exact ⟨by rw [upd_ne (fun z => hpot.ne (by rw [z]; exact hd))]; exact pc, i1, i2, g1, g2, g3⟩
        · obtain ⟨m, em⟩ : ∃ m, (msOf M)[a.1]? = some m := getL (l := msOf M) rfl (by rw [List.length_map]; exact ix2 a ha)
          exact nmM em (has2 a ha m em)
        · subst z; simp at lk
      | nil =>
        rw [hk] at ak
        cases ak
        refine iteF fun p hp => ?_
        have hpH : H p = none := n3.back hp
        have aP : Nx [] C2 (upd H2 e (.dK [])) C2 (upd (upd H2 e (.dK [])) p (.dK [])) := .tmp0 n3.ch hp
        have dp : Dt C2 (upd (upd H2 e (.dK [])) p (.dK [])) p (.dK []) := .make n3.ch hp
        have n4 := n3.trans aP.pure
        have p4 := p3.on aP
        obtain ⟨m, em⟩ : ∃ m, M[0]? = some m := getL (l := M) rfl (List.length_pos_iff.mpr hne)
        have hm := (hM.ok m (List.mem_of_getElem? em)).same n4.cc
        have e0 : atI (M.map fun x => V.ref x.1) 0 = some (.ref m.1) := show atI _ ((0 : Nat) : Int) = _ from atI_nat (by rw [List.getElem?_map, em]; rfl)
        refine ⟨_, rfl, _, rfl, rm, _, _, _, rfl, rfl, .of (n4.ch _ _ (n4.cc _ _ hM.at_)), e0, C2, _, n4.ch, ⟨m.1, m.2, rfl, hm, rfl⟩, fun v C5 H5 a5 ⟨l, ws, sp, ev, hl, hws, hn, hl45, hh⟩ => ?_⟩
        subst ev
        have n5 := n4.trans a5.pure
        have p5 := p4.on a5
        have lw := Sps.len hws
        refine ⟨C5, pot, _, n5.ch, p5, ⟨l, ws, rfl, hl, fun z => hn (by rw [z] at lw; exact List.eq_nil_of_length_eq_zero lw.symm), by omega, rfl⟩, fun v C6 H6 a6 p6 hv => ?_⟩
        obtain ⟨j, hj⟩ := List.mem_iff_getElem?.mp hv
        obtain ⟨u, eu, hu'⟩ := Sps.get hws hj
        have hum := List.mem_of_getElem? eu
        have n6 := n5.trans a6
        have dp6 := (dp.on a5).on a6 (pne hpH)
        refine ⟨dp6.at_, [(Sum.inl (0 : Int), v)], rfl, (show 1 ≤ 15 by decide), ?_⟩
        rw [disp1]
        have em2 : (msOf M)[0]? = some m.2 := by rw [List.getElem?_map, em]; rfl
        refine q _ _ _ ((n6.put (o' := .dK [(Sum.inl (0 : Int), v)]) dp6 hpH).keep upd_same hpH) ?_ ⟨p, [(0, u)], rfl, ⟨_, upd_same, .cons ⟨rfl, (hu'.same a6.cc).same (same_upd dp6.no)⟩ .nil⟩, ⟨by simp, fun a ha => ?_, fun a ha => ?_, (fun z => nomatch z), (show 1 ≤ 3 by decide)⟩, fun a ha m' em' => ?_⟩
        · have pp : p ≠ pot := fun z => hpot.ne (by rw [← z]; exact hpH)
          obtain ⟨pc, i1, i2, g1, g2, g3⟩ := p6.upd (D := p) (o := .dK [(Sum.inl (0 : Int), v)]) pp
          exact ⟨by rw [upd_ne pp.symm]; exact pc, i1, i2, g1, g2, g3⟩
        all_goals cases List.mem_singleton.mp ha
        · exact List.length_pos_iff.mpr hne
        · exact nmM em2 (hh u hum)
        · dsimp only at em'
          rw [em2] at em'; cases em'
          exact hh u hum
/-- the same spots, their rows in another order -/
theorem rows_perm {H : Hp} : ∀ {ts : List Addr} {kvs : List (Key × V)}, Paired (fun (t : Addr) (q : Key × V) => H t = some (.tup [kV q.1, q.2])) ts kvs → ts.length = kvs.length
  | _, _, h => Paired.length h
theorem paired_app {α β : Type} {F : α → β → Prop} {a c : List α} {b d : List β} (h : Paired F a b) (k : Paired F c d) : Paired F (a ++ c) (b ++ d) := by
  induction h with
  | nil => exact k
  | cons r t ih => exact .cons r ih
theorem paired_rev {α β : Type} {F : α → β → Prop} {a : List α} {b : List β} (h : Paired F a b) : Paired F a.reverse b.reverse := by
  induction h with
  | nil => exact .nil
  | cons r t ih => rw [List.reverse_cons, List.reverse_cons]; exact paired_app ih (.cons r .nil)
theorem paired_take {α β : Type} {F : α → β → Prop} {a : List α} {b : List β} (h : Paired F a b) : ∀ n, Paired F (a.take n) (b.take n) := by
  induction h with
  | nil => intro n; rw [List.take_nil, List.take_nil]; exact .nil
  | cons r t ih =>
    intro n
    cases n with
    | zero => exact .nil
    | succ n => exact .cons r (ih n)
theorem paired_drop {α β : Type} {F : α → β → Prop} {a : List α} {b : List β} (h : Paired F a b) : ∀ n, Paired F (a.drop n) (b.drop n) := by
  induction h with
  | nil => intro n; rw [List.drop_nil, List.drop_nil]; exact .nil
  | cons r t ih =>
    intro n
    cases n with
    | zero => exact .cons r t
    | succ n => exact ih n
def sp_law_mixed (K : PySem.W.Frag) : Sp := GivesP fun vs C pot post => ∃ d A N p, vs = [.ref pot, .ref d] ∧ SpotsAt C d A N p ∧ A.Nodup ∧ A ≠ [] ∧ A.length ≤ 8 ∧ post = fun v C' => ∃ d', v = .ref d' ∧ SpotsAt C' d' A N p
theorem c_law_mixed (T : Txt K mg) : C8.Cal P w K mg base 2 "_law_mixed" (sp_law_mixed K) [] := by
  refine mkCal (N := ["_law_pot_here", "_law_some", "_law_rows", "_law_at"]) (ps := ["_law_pot_here", "_law_some"]) T.d_law_mixed T.g_law_mixed (fun _ _ _ _ _ _ us hl => match us, hl with | [_, _], _ => rfl) (by decide +kernel) (fun vs H Q E h => ?_) (fun cdv A outer s H vs Q E hr h => ?_)
  · obtain ⟨C, pot, post, sc, hpot, ⟨d, A, N, p, rfl, ⟨vs, hd, pm, hN⟩, ndA, neA, l8, rfl⟩, q⟩ := h; rfl
  · obtain ⟨C, pot, post, sc, hpot, ⟨d, A, N, p, rfl, ⟨vs, hd, pm, hN⟩, ndA, neA, l8, rfl⟩, q⟩ := h
    have nd : (["_law_pot_here", "_law_some", "_law_rows", "_law_at"] : List Str).Nodup := by decide +kernel
    refine ⟨_, (pss_cons (ps_par (i := 2) (j := 3) (by rfl) nd rfl rfl (by decide) rfl rfl (pa_cons (LiI.pe_listItems rfl (pv 1) (by rfl) T.f_list b_list) (pa_cons (C8.pe_c (c_law_draw T) hr (by decide) (by rfl) (pa_cons (pv 0) (pa_cons (pe_callB call_lenR (by rfl) T.f_len b_len (pa_cons (pv 1) pa_nil)) pa_nil))) pa_nil)) (by rfl))
      (pss_cons (ps_set (i := 2) nd rfl (Or.inl rfl) (pe_op op_cat (pe_slice sl_list (pv 2) (po_some (pv 3)) po_none) (pe_slice sl_list (pv 2) po_none (po_some (pv 3)))))
      (pss_one (ps_ret (pe_callTy (call_dictP rfl) (by rfl) T.f_dict b_dict (pa_cons (pe_ifExp (pt_cmpR op_eq (C8.pe_c (c_law_draw T) hr (by decide) (by rfl) (pa_cons (pv 0) (pa_cons pe_int pa_nil))) pe_int (nomark _)) (pe_revL (pv 2)) (pv 2)) pa_nil)))))), ?_⟩
    have lv : vs.length = A.length := by rw [← pm.length_eq, List.length_map]
    have posA : 0 < A.length := List.length_pos_iff.mpr neA
    refine ⟨_, rfl, d, vsK vs, rfl, sc _ _ hd, fun H1 t ts k1 k2 k3 k4 k5 k6 => ?_⟩
    have n1 : Nx [pot] C H C H1 := .ext sc k1
    have a1 : Nx [] C H C H1 := .ext sc k1
    have p1 := hpot.on a1
    have lts := Paired.length k6
    rw [vsK_len] at lts
    refine ⟨_, rfl, _, rfl, d, _, rfl, .inl (n1.ch _ _ hd), C, pot, _, n1.ch, p1, ⟨_, rfl, ?_, ?_, rfl⟩, fun v C2 H2 a2 p2 ⟨r, ev, r0, r1⟩ => ⟨_, _, rfl, ?_⟩⟩
    · rw [vsK_len]; omega
    · rw [vsK_len]; omega
    subst ev
    rw [vsK_len] at r1
    have n2 := n1.trans a2
    have pne : ∀ {p : Addr}, H p = none → p ∉ [pot] := fun {p} hp z => by
      cases List.mem_singleton.mp z
      exact hpot.ne hp
    have ht2 : H2 t = some (.lst (ts.map V.ref)) := a2.hh t _ (pne k2) k5
    have hts2 : Paired (fun (t : Addr) (q : Key × V) => H2 t = some (.tup [kV q.1, q.2])) ts (vsK vs) := by
      have key : ∀ {ts : List Addr} {kvs : List (Key × V)}, (∀ t ∈ ts, H t = none) → Paired (fun (t : Addr) (q : Key × V) => H1 t = some (.tup [kV q.1, q.2])) ts kvs → Paired (fun (t : Addr) (q : Key × V) => H2 t = some (.tup [kV q.1, q.2])) ts kvs := by
        intro ts kvs hn h
        induction h with
        | nil => exact .nil
        | cons r t ih => exact .cons (a2.hh _ _ (pne (hn _ (List.mem_cons_self ..))) r) (ih fun x hx => hn x (List.mem_cons_of_mem _ hx))
      exact key k3 k6
    obtain ⟨k, rfl⟩ := Int.eq_ofNat_of_zero_le r0
    have hkl : k ≤ (ts.map V.ref).length := by rw [List.length_map]; omega
    refine ⟨_, rfl, _, rfl, _, rfl, t, _, rfl, .of ht2, fun e he => ?_⟩
    have aE : Nx [] C2 H2 C2 (upd H2 e (.lst (cutV (ts.map V.ref) (some (k : Int)) none))) := .tmp0 n2.ch he
    have ht3 := aE.hh t _ (fun z => nomatch z) ht2
    refine ⟨_, rfl, ?_⟩
    unfold tNoPart
    refine ⟨_, rfl, _, rfl, t, _, rfl, .of ht3, fun f hf => ?_⟩
    have ef : e ≠ f := fun z => by rw [← z, upd_same] at hf; cases hf
    rw [cut_from hkl, cut_to hkl]
    rw [cut_from hkl] at hf aE
    have hE : (upd (upd H2 e (.lst ((ts.map V.ref).drop k))) f (.lst ((ts.map V.ref).take k))) e = some (.lst ((ts.map V.ref).drop k)) := by rw [upd_ne ef]; exact upd_same
    refine ⟨e, f, _, _, rfl, rfl, hE, upd_same, szK (by rw [List.length_drop, List.length_take, List.length_map]; omega), fun g hg => ?_⟩
    have n4 : Nx [pot] C H C2 _ := (n2.trans aE.pure).tmp (o := .lst ((ts.map V.ref).take k)) hf
    have a4 : Nx [] C2 H2 C2 _ := (aE.tmp (o := .lst ((ts.map V.ref).take k)) hf).tmp (o := .lst ((ts.map V.ref).drop k ++ (ts.map V.ref).take k)) hg
    have n5 : Nx [pot] C H C2 _ := n4.tmp (o := .lst ((ts.map V.ref).drop k ++ (ts.map V.ref).take k)) hg
    have p5 := p2.on a4
    have fin : ∀ {C6 H6 : Hp} {vs' : List (Str × V)} {d' : Addr}, Nx [pot] C H C6 H6 → Pot C6 H6 pot → vs'.Perm vs → H6 d' = none → Q (.ref d') (upd H6 d' (.dK (mergeK [] (vsK vs')))) := fun {C6 H6 vs' d'} n6 p6 pmv hd' => by
      rw [merge_nd (vsK_nd ((pmv.map (·.1)).nodup_iff.mpr (pm.nodup_iff.mpr ndA)))]
      refine q _ _ _ (n6.new hd') (p6.on (.new0 n6.ch hd')) ⟨d', rfl, vs', upd_same, (pmv.map (·.1)).trans pm, fun z hz => ?_⟩
      obtain ⟨h1, h2⟩ := hN z (pmv.mem_iff.mp hz)
      exact ⟨(h1.same n6.cc).same (same_upd (same_none n6.ch hd')), h2⟩
    have hts5 : ∀ {H6 : Hp}, (∀ b o, H2 b = some o → b ∉ [pot] → H6 b = some o) → Paired (fun (t : Addr) (q : Key × V) => H6 t = some (.tup [kV q.1, q.2])) (ts.drop k ++ ts.take k) (vsK (vs.drop k ++ vs.take k)) := fun {H6} h => by
      have key : ∀ {ts : List Addr} {kvs : List (Key × V)}, (∀ t ∈ ts, H t = none) → Paired (fun (t : Addr) (q : Key × V) => H2 t = some (.tup [kV q.1, q.2])) ts kvs → Paired (fun (t : Addr) (q : Key × V) => H6 t = some (.tup [kV q.1, q.2])) ts kvs := by
        intro ts kvs hn h'
        induction h' with
        | nil => exact .nil
        | cons r t ih => exact .cons (h _ _ r (pne (hn _ (List.mem_cons_self ..)))) (ih fun x hx => hn x (List.mem_cons_of_mem _ hx))
      have e : vsK (vs.drop k ++ vs.take k) = (vsK vs).drop k ++ (vsK vs).take k := by unfold vsK; rw [List.map_append, List.map_drop, List.map_take]
      rw [e]
      have h6 := key k3 hts2
      exact paired_app (paired_drop h6 k) (paired_take h6 k)
    have emap : (ts.map V.ref).drop k ++ (ts.map V.ref).take k = (ts.drop k ++ ts.take k).map V.ref := by rw [List.map_append, List.map_drop, List.map_take]
    have pmv : (vs.drop k ++ vs.take k).Perm vs := (List.perm_append_comm).trans (.of_eq (List.take_append_drop k vs))
    generalize hH5 : (upd (upd (upd H2 e (.lst ((ts.map V.ref).drop k))) f (.lst ((ts.map V.ref).take k))) g (.lst ((ts.map V.ref).drop k ++ (ts.map V.ref).take k))) = H5 at n5 a4 p5
    have hg5 : H5 g = some (.lst ((ts.drop k ++ ts.take k).map V.ref)) := by rw [← hH5, upd_same, emap]
    have gH : H g = none := n4.back hg
    refine ⟨_, rfl, C2, pot, _, n5.ch, p5, ⟨_, rfl, by decide, by decide, rfl⟩, fun v C6 H6 a6 p6 ⟨r, ev, r0, r1⟩ => ?_⟩
    subst ev
    have n6 := n5.trans a6
    have hg6 := a6.hh g _ (pne gH) hg5
    have k6' : ∀ b o, H2 b = some o → b ∉ [pot] → H6 b = some o := fun b o h1 h2 => a6.hh b o h2 (a4.hh b o (fun z => nomatch z) h1)
    refine ⟨rfl, decide (r = 0), congrArg V.bl (decide_eq_decide.mpr ⟨fun z => V.int.inj z, fun z => by rw [z]⟩), ?_⟩
    by_cases c : r = 0
    · refine iteP c ⟨_, rfl, g, _, rfl, .of hg6, fun h hh => ?_⟩
      have aH : Nx [] C6 H6 C6 (upd H6 h (.lst ((ts.drop k ++ ts.take k).map V.ref).reverse)) := .tmp0 n6.ch hh
      refine ⟨h, (ts.drop k ++ ts.take k).reverse, vsK (vs.drop k ++ vs.take k).reverse, rfl, .of (by rw [upd_same, List.map_reverse]), Paired.mapP (F := fun (t : Addr) (q : Key × V) => (upd H6 h (.lst ((ts.drop k ++ ts.take k).map V.ref).reverse)) t = some (.tup [kV q.1, q.2])) ?_ (fun _ _ z => .of z), fun d' hd' => fin (n6.trans aH.pure) (p6.on aH) ((List.reverse_perm _).trans pmv) hd'⟩
      have e : vsK (vs.drop k ++ vs.take k).reverse = (vsK (vs.drop k ++ vs.take k)).reverse := by unfold vsK; rw [List.map_reverse]
      rw [e]
      exact paired_rev (hts5 fun b o h1 h2 => aH.hh b o (fun z => nomatch z) (k6' b o h1 h2))
    · exact iteQ c ⟨_, rfl, g, ts.drop k ++ ts.take k, vsK (vs.drop k ++ vs.take k), rfl, .of hg6, Paired.mapP (hts5 k6') (fun _ _ z => .of z), fun d' hd' => fin n6 p6 pmv hd'⟩
end
end AbW

/-! ## Wv -/
set_option Elab.async false
set_option linter.all false
set_option maxRecDepth 100000
set_option maxHeartbeats 4000000
/-! Wv: the law's teams -/
namespace AbW
open PySem PySem.Spec PyProof.Rows L2 AbH AbR Ab
abbrev mref (M : MX) : List V := M.map fun x => V.ref x.1
section
variable {P : Program} {w : World} {K : PySem.W.Frag} {mg : Str → Option Value} {base : Heap}
def sp_law_team (K : PySem.W.Frag) : Sp := fun vs H Q _ => ∃ C pot, Same C H ∧ Pot C H pot ∧ vs = [.ref pot, .int 3, .int 5, .int 5] ∧ ∀ (t rl rm : Addr) (W : List Str) (M : MX) (C' H' : Hp), Nx [pot] C H C' H' → Pot C' H' pot → C' t = some (.tup [.ref rl, .ref rm]) → C' rl = some (.lst (W.map V.str)) → Dt C' H' rm (.lst (mref M)) → H rm = none → (∀ x ∈ M, ModelAt C' x.1 x.2) → W.length = M.length → W.Nodup → (∀ x ∈ W, NameOk x) → M ≠ [] → M.length ≤ 3 → Q (.ref t) H'
theorem c_law_team (T : Txt K mg) : C8.Cal P w K mg base 5 "_law_team" (sp_law_team K) [] := by
  refine mkCal (N := ["_law_pot_here", "_law_many", "_law_nodes_most", "_law_most", "_law_labels", "_law_models", "_law_size", "_law_label", "_law_model_here"]) (ps := ["_law_pot_here", "_law_many", "_law_nodes_most", "_law_most"]) T.d_law_team T.g_law_team (fun _ _ _ _ _ _ us hl => match us, hl with | [_, _, _, _], _ => rfl) (by decide +kernel) (fun vs H Q E h => ?_) (fun cdv A outer s H vs Q E hr h => ?_)
  · obtain ⟨C, pot, sc, hpot, rfl, q⟩ := h; rfl
  · obtain ⟨C, pot, sc, hpot, rfl, q⟩ := h
    have nd : (["_law_pot_here", "_law_many", "_law_nodes_most", "_law_most", "_law_labels", "_law_models", "_law_size", "_law_label", "_law_model_here"] : List Str).Nodup := by decide +kernel
    refine ⟨_, (pss_cons (ps_par3 (i := 4) (j := 5) (l := 6) (by rfl) nd rfl rfl rfl (by decide) (by decide) (by decide) rfl rfl rfl (pa_cons (pe_callB cr_sortedS (by rfl) T.f_sorted b_sorted (pa_cons (C8.pe_c (c_law_named T) hr (by decide) (by rfl) (pa_cons (pv 0) (pa_cons (pe_op op_add pe_int (C8.pe_c (c_law_draw T) hr (by decide) (by rfl) (pa_cons (pv 0) (pa_cons (pv 1) pa_nil)))) (pa_cons (pe_lst pa_nil) pa_nil)))) pa_nil)) (pa_cons (pe_lst pa_nil) (pa_cons pe_int pa_nil))) (by rfl))
      (pss_cons (ps_for PassesOwn.never rfl (pi_list (pv 4)) (pg_name (i := 7) nd rfl (Or.inl rfl)) (pss_cons (ps_set (i := 8) nd rfl (Or.inl rfl) (C8.pe_c (c_law_model T) hr (by decide) (by rfl) (pa_cons (pv 0) (pa_cons (pv 2) (pa_cons (pv 3) pa_nil)))))
      (pss_one (ps_if (pt_cmpR op_le (pe_op op_mul (pv 6) (pe_callB call_len_seq (by rfl) T.f_len b_len (pa_cons (C8.pe_c (c_law_all_spots T) hr (by decide) (by rfl) (pa_cons (pv 8) pa_nil)) pa_nil))) pe_int (nomark _)) (pss_cons (ps_expr (pe_bm PySem.F.plainAttrs_list PySem.F.slot_list_append PySem.F.type_list_append mt_append (pv 5) (pa_cons (pv 8) pa_nil)))
      (pss_one (ps_set (i := 6) nd rfl (Or.inl rfl) (pe_op op_mul (pv 6) (pe_callB call_len_seq (by rfl) T.f_len b_len (pa_cons (C8.pe_c (c_law_all_spots T) hr (by decide) (by rfl) (pa_cons (pv 8) pa_nil)) pa_nil)))))) pss_nil))))
      (pss_one (ps_ret (pe_tup (pa_cons (pe_slice sl_list (pv 4) po_none (po_some (pe_callB call_len_seq (by rfl) T.f_len b_len (pa_cons (pv 5) pa_nil)))) (pa_cons (pv 5) pa_nil))))))), ?_⟩
    have pne : ∀ {p : Addr}, H p = none → p ∉ [pot] := fun {p} hp z => by
      cases List.mem_singleton.mp z
      exact hpot.ne hp
    refine ⟨_, rfl, _, rfl, _, rfl, C, pot, _, sc, hpot, ⟨_, rfl, by decide, by decide, rfl⟩, fun v C1 H1 n1 p1 ⟨r, ev, r0, r1⟩ => ?_⟩
    subst ev
    refine ⟨_, _, rfl, rfl, sz0, fun t ht => ?_⟩
    have n2 : Nx [pot] C H (upd C1 t (.lst [])) (upd H1 t (.lst [])) := n1.new ht
    have a2 : Nx [] C1 H1 (upd C1 t (.lst [])) (upd H1 t (.lst [])) := .new0 n1.ch ht
    refine ⟨_, pot, _, n2.ch, p1.on a2, ⟨(1 + r).toNat, t, by rw [Int.toNat_of_nonneg (by omega)]; rfl, by omega, upd_same, rfl⟩, fun v C3 H3 a3 p3 ⟨ll, ls, ev, hll, lls, ndl, okl⟩ => ?_⟩
    subst ev
    have n3 := n2.trans a3
    refine ⟨ll, ls, rfl, .of (n3.ch _ _ hll), by omega, fun ys p pm _ hp => ?_⟩
    have n4 : Nx [pot] C H (upd C3 p (.lst (ys.map V.str))) (upd H3 p (.lst (ys.map V.str))) := n3.new hp
    have p4 := p3.on (Nx.new0 (M := []) (o := .lst (ys.map V.str)) n3.ch hp)
    refine ⟨sz0, fun rm hrm => ⟨_, _, _, rfl, ?_⟩⟩
    have a5 : Nx [] (upd C3 p (.lst (ys.map V.str))) (upd H3 p (.lst (ys.map V.str))) (upd C3 p (.lst (ys.map V.str))) (upd (upd H3 p (.lst (ys.map V.str))) rm (.lst (mref []))) := .tmp0 n4.ch hrm
    have n5 := n4.trans a5.pure
    have p5 := p4.on a5
    have d5 : Dt (upd C3 p (.lst (ys.map V.str))) (upd (upd H3 p (.lst (ys.map V.str))) rm (.lst (mref []))) rm (.lst (mref [])) := .make n4.ch hrm
    have rmH : H rm = none := n4.back hrm
    have hp5 : (upd C3 p (.lst (ys.map V.str))) p = some (.lst (ys.map V.str)) := upd_same
    have ly : ys.length = ls.length := pm.length_eq
    generalize upd C3 p (.lst (ys.map V.str)) = C5 at n5 p5 d5 hp5
    refine ⟨_, rfl, p, rfl, ⟨_, .of (n5.ch _ _ hp5)⟩, ?_⟩
    refine for_it walk_list (fun i σ' H' => ∃ z1 z2 C' M, ∃ sz : Int, σ' = [some (.ref pot), some (.int 3), some (.int 5), some (.int 5), some (.ref p), some (.ref rm), some (.int sz), z1, z2] ∧ Nx [pot] C H C' H' ∧ Same C5 C' ∧ Pot C' H' pot ∧ Dt C' H' rm (.lst (mref M)) ∧ (∀ x ∈ M, ModelAt C' x.1 x.2) ∧ M.length ≤ i ∧ 0 ≤ sz ∧ sz ≤ 45 ^ i ∧ (0 < i → M ≠ []) ∧ (M = [] → sz = 1)) ⟨_, _, C5, [], 1, rfl, n5, Same.rfl' _, p5, d5, (fun _ h => nomatch h), Nat.le_refl _, by decide, by decide, (fun h => absurd h (by decide)), fun _ => rfl⟩ (fun i σ' H' _ ⟨_, _, C', _, _, _, n, s, _⟩ => .of (n.ch _ _ (s _ _ hp5))) (fun i x σ' H6 H7 hi ⟨z1, z2, C6, M, sz, es, n6, s6, p6, d6, hM, li, sz0, sz1, hn, h1⟩ y => ?_) (fun σ' H6 ⟨z1, z2, C6, M, sz, es, n6, s6, p6, d6, hM, li, sz0, sz1, hn, h1⟩ => ?_)
    · obtain ⟨rfl, hy⟩ := y
      subst es
      rw [List.length_map] at hi
      have i3 : i < 3 := by omega
      have b45 : (45 : Int) ^ i ≤ 2025 := by
        have : i = 0 ∨ i = 1 ∨ i = 2 := by omega
        rcases this with rfl | rfl | rfl <;> decide
      refine ⟨_, rfl, _, rfl, _, rfl, C6, pot, _, n6.ch, p6, ⟨rfl, rfl⟩, fun v C8 H8 a8 p8 ⟨m, md, ev, hm⟩ => ?_⟩
      subst ev
      have n8 := n6.trans a8
      have d8 := d6.on a8 (pne rmH)
      have s8 := s6.trans a8.cc
      refine ⟨_, rfl, _, rfl, C8, _, n8.ch, ⟨m, md, rfl, hm, rfl⟩, fun v C9 H9 a9 ⟨l, ws, sp, ev, hl, hws, hne, hl45, hh⟩ => ?_⟩
      subst ev
      have n9 := n8.trans a9.pure
      have p9 := p8.on a9
      have d9 := d8.on a9
      have lw := Sps.len hws
      refine ⟨l, _, rfl, .inl (.of (n9.ch _ _ hl)), _, _, rfl, rfl, .inl ⟨by omega, by omega⟩, _, _, rfl, rfl, _, rfl, ?_⟩
      have hM9 : ∀ x ∈ M, ModelAt C9 x.1 x.2 := fun x hx => ((hM x hx).same a8.cc).same a9.cc
      by_cases c : sz * (ws.length : Int) ≤ 600
      · refine iteP c ⟨_, rfl, .inl ⟨rfl, _, .of d9.at_⟩, _, rfl, rm, _, _, rfl, rfl, d9.at_, szL (by rw [List.length_map]; omega), ?_⟩
        have em : mref M ++ [V.ref m] = mref (M ++ [(m, md)]) := by unfold mref; simp
        rw [em]
        have nA := n9.put (o' := .lst (mref (M ++ [(m, md)]))) d9 rmH
        have pA := p9.upd (D := rm) (o := .lst (mref (M ++ [(m, md)]))) (fun z => hpot.ne (by rw [← z]; exact rmH))
        have dA : Dt C9 (upd H9 rm (.lst (mref (M ++ [(m, md)])))) rm (.lst (mref (M ++ [(m, md)]))) := d9.put
        have hm9 := hm.same a9.cc
        refine ⟨_, rfl, _, rfl, C9, _, nA.ch, ⟨m, md, rfl, hm9, rfl⟩, fun v CB HB aB ⟨l2, ws2, sp2, ev, hl2, hws2, hne2, hl452, hh2⟩ => ?_⟩
        subst ev
        have nB := nA.trans aB.pure
        have lw2 := Sps.len hws2
        have up : sz * (ws2.length : Int) ≤ 45 ^ i * 45 := Int.mul_le_mul sz1 (by omega) (by omega) (by omega)
        refine ⟨l2, _, rfl, .inl (.of (nB.ch _ _ hl2)), _, _, rfl, rfl, .inl ⟨by omega, by omega⟩, ?_⟩
        refine ⟨_, _, CB, M ++ [(m, md)], _, rfl, nB, (s8.trans a9.cc).trans aB.cc, pA.on aB, dA.on aB, fun x hx => ?_, by rw [List.length_append, List.length_singleton]; omega, Int.mul_nonneg sz0 (by omega), by rw [Int.pow_succ]; exact up, fun _ z => by simp at z, fun z => by simp at z⟩
        rcases List.mem_append.mp hx with hx | hx
        · exact (hM9 x hx).same aB.cc
        · cases List.mem_singleton.mp hx
          exact hm9.same aB.cc
      · refine iteQ c ⟨_, _, C9, M, sz, rfl, n9, s8.trans a9.cc, p9, d9, hM9, by omega, sz0, ?_, fun _ z => c ?_, h1⟩
        · rw [Int.pow_succ]
          have : (0 : Int) ≤ 45 ^ i := Int.le_trans sz0 sz1
          omega
        · rw [h1 z]
          omega
    · subst es
      rw [List.length_map] at li hn
      have hne := hn (by omega)
      have hp6 := n6.ch _ _ (s6 _ _ hp5)
      refine ⟨_, rfl, ?_⟩
      unfold tNoPart
      refine ⟨_, rfl, rm, _, rfl, .inl (.of d6.at_), _, rfl, p, _, rfl, .of hp6, fun e he => ?_⟩
      have ecut : cutV (ys.map V.str) none (some ((mref M).length : Int)) = (ys.take M.length).map V.str := by
        rw [List.length_map, cut_to (by rw [List.length_map]; exact li), List.map_take]
      rw [ecut] 
      refine ⟨_, rfl, sz2, fun tt htt => ?_⟩
      have a7 : Nx [] C6 H6 (upd C6 e (.lst ((ys.take M.length).map V.str))) (upd H6 e (.lst ((ys.take M.length).map V.str))) := .new0 n6.ch he
      have a8 := a7.new (o := .tup [.ref e, .ref rm]) htt
      have d8 := d6.on a8
      have ett : e ≠ tt := fun z => by rw [← z, upd_same] at htt; cases htt
      refine q tt e rm (ys.take M.length) M _ _ (n6.trans a8.pure) (p6.on a8) upd_same ?_ d8 rmH (fun x hx => (hM x hx).same a8.cc) ?_ ?_ (fun x hx => okl x (pm.mem_iff.mp (List.mem_of_mem_take hx))) hne (by omega)
      · rw [upd_ne ett]; exact upd_same
      · rw [List.length_take]; omega
      · exact (pm.nodup_iff.mpr ndl).sublist (List.take_sublist _ _)
end
end AbW

/-! ## Ww -/
set_option Elab.async false
set_option linter.all false
set_option maxRecDepth 100000
set_option maxHeartbeats 4000000
/-! Ww: the law's question -/
namespace AbW
open PySem PySem.Spec PyProof.Rows L2 AbH AbR Ab
/-- a comprehension over a dict, what it makes standing in the heap -/
theorem lockMapH {d : Addr} {kvs : List (Key × V)} {j : Nat} {g : TG} {te : TE} {vs : List Nat} {σ : L2.St} {C H : Hp} {Qd : VK} (S : Nat → V → Hp → Prop) (sc : Same C H) (hC : C d = some (.dK kvs)) (hn : kvs.length ≤ sizeLine) (hv : σ[j]? = some (some (.ref d)))
    (hS : ∀ i v C C', Same C C' → S i v C → S i v C') (hU : ∀ i v C' od, C' d = some (.frz od (.dK kvs)) → S i v C' → S i v (upd C' d (.dK kvs)))
    (hs : ∀ (od : Obj) (i : Nat) (k : Key) (v : V) C' H' (Z : V → Hp → Prop), kvs[i]? = some (k, v) → Nx [] (upd C d (.frz od (.dK kvs))) (upd H d (.frz od (.dK kvs))) C' H' → (∀ y C4 H4, Nx [] C' H' C4 H4 → S i y C4 → Z y H4) → g (kV k) (wipe σ vs) H' fun σ2 H2 => wipe σ2 vs = wipe σ vs ∧ te σ2 H2 Z)
    (hd : ∀ p (acc : List V) C' H', Nx [] C H C' H' → H' p = some (.lst acc) → acc.length = kvs.length → (∀ (i : Nat) (v : V), acc[i]? = some v → S i v C') → Qd (.ref p) H') : tLockE (tLc (iKeys (tVar j)) g tYes te vs) σ H Qd := by
  refine ⟨d, .dK kvs, sc _ _ hC, trivial, fun od => ⟨_, hv, d, od, rfl, .inl ⟨kvs, upd_same, ?_⟩⟩⟩
  refine lcMap (M := []) (Qd := fun D H' => H' d = some (.frz od (.dK kvs)) ∧ Qd (.ref D) (upd H' d (.dK kvs))) walk_keys S (same_updB (u := .frz od (.dK kvs)) sc) (fun _ h => nomatch h) hn (fun C' H' n => n.hh d _ (fun z => nomatch z) upd_same) hS (fun i x C' H' H2 Z hi nx y k => ?_) (fun p acc C' H' nx cp hp hH hl ha => ?_)
  · obtain ⟨rfl, kk, v, e, rfl⟩ := y
    exact hs od i kk v C' H2 Z e nx k
  · have hdf := nx.hh d _ (fun z => nomatch z) (upd_same (H := H) (o := .frz od (.dK kvs)))
    have hcf := nx.cc d _ (upd_same (H := C) (o := .frz od (.dK kvs)))
    exact ⟨hdf, hd p acc _ _ (nx.unlock hC (sc _ _ hC)) (by rw [upd_ne (fun z => by subst z; rw [hdf] at hH; cases hH)]; exact hH) hl fun i v e => hU i v C' od hcf (ha i v e)⟩
theorem acc_sps {C : Hp} : ∀ {acc : List V} {Pm : Nat → Spot → Prop}, (∀ (i : Nat) (v : V), acc[i]? = some v → ∃ u, SpotV C v u ∧ Pm i u) → ∃ p, Sps C acc p ∧ ∀ (i : Nat) (u : Spot), p[i]? = some u → Pm i u
  | [], _, _ => ⟨[], .nil, fun i u h => by simp at h⟩
  | v :: acc, Pm, h => by
    obtain ⟨u, hu, pu⟩ := h 0 v rfl
    obtain ⟨p, h1, h2⟩ := acc_sps (acc := acc) (Pm := fun i => Pm (i + 1)) fun i w hw => h (i + 1) w (by simpa using hw)
    refine ⟨u :: p, .cons hu h1, fun i x hx => ?_⟩
    cases i with
    | zero => cases hx; exact pu
    | succ i => exact h2 i x (by simpa using hx)
theorem acc_aims {C : Hp} {W : List Str} : ∀ {acc : List V} {as : List (Nat × Spot)}, acc.length = as.length → (∀ (i : Nat) (v : V), acc[i]? = some v → ∃ p a x, v = .ref p ∧ as[i]? = some a ∧ C p = some (.tup [.str (W.getD a.1 ""), x]) ∧ SpotV C x a.2) →
    ∃ (ps : List Addr) (vs : List (Str × V)), acc = ps.map V.ref ∧ vs.map (·.1) = asA W as ∧ Paired (fun p (kv : Key × V) => C p = some (.tup [kV kv.1, kv.2])) ps (vsK vs) ∧ ∀ q ∈ vs, ∃ a ∈ as, q.1 = W.getD a.1 "" ∧ SpotV C q.2 a.2
  | [], [], _, _ => ⟨[], [], rfl, rfl, .nil, fun q h => by cases h⟩
  | [], _ :: _, h, _ => by simp at h
  | _ :: _, [], h, _ => by simp at h
  | v :: acc, a :: as, hl, h => by
    obtain ⟨p, a', x, e, ea, hp, hx⟩ := h 0 v rfl
    cases ea
    obtain ⟨ps, vs, e1, e2, e3, e4⟩ := acc_aims (acc := acc) (as := as) (by simpa using hl) fun i w hw => by
      obtain ⟨p, a, x, e, ea, r⟩ := h (i + 1) w (by simpa using hw)
      exact ⟨p, a, x, e, by simpa using ea, r⟩
    refine ⟨p :: ps, (W.getD a.1 "", x) :: vs, by rw [e, e1]; rfl, by rw [List.map_cons, e2]; rfl, .cons hp e3, fun q hq => ?_⟩
    rcases List.mem_cons.mp hq with rfl | hq
    · exact ⟨a, List.mem_cons_self .., rfl, hx⟩
    · obtain ⟨b, hb, r⟩ := e4 q hq
      exact ⟨b, List.mem_cons_of_mem _ hb, r⟩
theorem asA_nd {W : List Str} (nd : W.Nodup) : ∀ {as : List (Nat × Spot)}, (as.map (·.1)).Nodup → (∀ a ∈ as, a.1 < W.length) → (asA W as).Nodup
  | [], _, _ => List.nodup_nil
  | a :: as, na, hk => by
    rw [List.map_cons, List.nodup_cons] at na
    show ((W.getD a.1 "") :: asA W as).Nodup
    rw [List.nodup_cons]
    refine ⟨fun z => na.1 ?_, asA_nd nd na.2 fun b hb => hk b (List.mem_cons_of_mem _ hb)⟩
    obtain ⟨b, hb, e⟩ := List.mem_map.mp z
    have ka := hk a (List.mem_cons_self ..)
    have kb := hk b (List.mem_cons_of_mem _ hb)
    have e1 : W[b.1]? = some (W.getD a.1 "") := by rw [← e, List.getD_eq_getElem?_getD, List.getElem?_eq_getElem kb]; rfl
    have e2 : W[a.1]? = some (W.getD a.1 "") := by rw [List.getD_eq_getElem?_getD, List.getElem?_eq_getElem ka]; rfl
    exact List.mem_map.mpr ⟨b, hb, ix_inj nd e1 e2⟩
theorem asA_mem {W : List Str} {as : List (Nat × Spot)} (hk : ∀ a ∈ as, a.1 < W.length) : ∀ x ∈ asA W as, x ∈ W := fun x hx => by
  obtain ⟨a, ha, rfl⟩ := List.mem_map.mp hx
  rw [List.getD_eq_getElem?_getD, List.getElem?_eq_getElem (hk a ha)]
  exact List.getElem_mem _
theorem fn_ok {W : List Str} {ms : List NetD} {p : List Spot} (nd : W.Nodup) (hm : ms.length = W.length) (ok : ∀ m ∈ ms, m.Ok) (hp : AllH ms p) : ∀ i ∈ W, (fnL nD W ms i).Ok ∧ (fnL nD W ms i).has (fnL sD W p i) := fun i hi => by
  obtain ⟨k, ek⟩ := mem_ix hi
  obtain ⟨m, em⟩ := getL hm (ltL ek)
  obtain ⟨u, eu⟩ := getL (hp.len.trans hm) (ltL ek)
  rw [fnL_at nd hm ek em, fnL_at nd (hp.len.trans hm) ek eu]
  exact ⟨ok m (List.mem_of_getElem? em), hp.get em eu⟩
theorem FitsN.more {W : List Str} {N : Str → NetD} {p : Str → Spot} {s s' : Int} (h : FitsN W N p s) (l : s ≤ s') : FitsN W N p s' := fun i hi j hj => by
  have := h i hi j hj
  omega
theorem fits20 {N : Str → NetD} {W : List Str} {p : Str → Spot} (h : ∀ i ∈ W, (N i).Ok ∧ (N i).has (p i)) : FitsN W N p 20 :=
  FitsN.more (fits_iff.mpr (fits_height (lo := 0) (hi := 5) (fun i hi => (h i hi).1) (fun i hi x _ => (h i hi).1.lo x) fun i hi => (h i hi).2)) (by decide)
/-- what is told, shown -/
theorem due_shown {ms : List NetD} {p : List Spot} {as : List (Nat × Spot)} {v : V} (h : DueL ms p as v) : ∃ d : PyData, (∀ K H, Dp K H v d) ∧ PyData.showable (.list [d, d]) = true ∧ PyData.hasDict (.list [d, d]) = false ∧ (PyData.shown (.list [d, d])).length ≤ sizeLine ∧ PyData.depth (.list [d, d]) ≤ 8 := by
  rcases h with ⟨rfl, _⟩ | ⟨n, rfl, n0, n6, _⟩
  · exact ⟨.none, fun _ _ => .non, by decide +kernel, by decide +kernel, szK (by decide +kernel), by decide +kernel⟩
  · have : n = 0 ∨ n = 1 ∨ n = 2 ∨ n = 3 ∨ n = 4 ∨ n = 5 ∨ n = 6 := by omega
    rcases this with rfl | rfl | rfl | rfl | rfl | rfl | rfl <;> exact ⟨.int _, fun _ _ => .int _, by decide +kernel, by decide +kernel, szK (by decide +kernel), by decide +kernel⟩
/-! ### least_spread by keywords -/
theorem pe_leastKw {X : Cx} {j : Nat} {sp : Sp} {p pos k1 k2 k3 : Pos} {e1 e2 e3 : Expr} {tk : TA} (c : CalK X.prog X.w X.K X.mg X.base 17 "least_spread" s_least_spread ["company", "spots", "places"] sp) (hr : Room j X.A) (hk : 17 ≤ j) (hg : Gl X "least_spread")
    (hkw : PK X [⟨some "places", e1, k1⟩, ⟨some "spots", e2, k2⟩, ⟨some "company", e3, k3⟩] tk) : PE X (.Call (.Name "least_spread" p) [] [⟨some "places", e1, k1⟩, ⟨some "spots", e2, k2⟩, ⟨some "company", e3, k3⟩] pos) (fun σ H Q => tk σ H fun zs H2 => zs.length = 3 ∧ sp zs.reverse H2 Q C8.E0) := by
  obtain ⟨f, fd, FD, F, hm⟩ := c.ex
  obtain ⟨oc, od, dV, kV, doc, pm, an, cdv, ct, osl, rfl, lk, hcd, hD, hK⟩ := FD.ex
  rcases hD with ⟨_, rfl⟩ | ⟨e, _⟩
  · refine pe_callKw (ks := ["places", "spots", "company"]) (g := fun _ ws => ws.reverse) (gV := fun _ zs => zs.reverse) F (hr.mono hk) hg hm FD.kp ⟨fun s us ws _ l1 l2 => ?_, fun _ r => r.reverse⟩ hkw
    match us, l1, ws, l2 with
    | [], _, [a, b, c], _ => exact .of_eq rfl
  · exact absurd rfl e
section
variable {P : Program} {w : World} {K : PySem.W.Frag} {mg : Str → Option Value} {base : Heap}
def sp_law_one_right (K : PySem.W.Frag) : Sp := GivesP fun vs C pot post => ∃ rl rm, ∃ W : List Str, ∃ M : MX, vs = [.ref pot, .ref rl, .ref rm] ∧ C rl = some (.lst (W.map V.str)) ∧ Mods C rm M ∧ M.length = W.length ∧ W.Nodup ∧ (∀ x ∈ W, NameOk x) ∧ M ≠ [] ∧ M.length ≤ 3 ∧ post = fun v _ => v = .bl true
theorem c_law_one_right (T : Txt K mg) : CalG P w K mg base 18 "_law_one_right" (sp_law_one_right K) := by
  refine mkCalG (N := ["_law_pot_here", "_law_labels", "_law_models", "_law_start", "_law_aims_here", "_law_due", "_law_goal_shown", "_law_company_made", "_law_shown_here", "_law_told", "_law_less", "_law_model_here", "_law_k"]) (ps := ["_law_pot_here", "_law_labels", "_law_models"]) T.d_law_one_right T.g_law_one_right (fun _ _ _ _ _ _ us hl => match us, hl with | [_, _, _], _ => rfl) (by decide +kernel) (fun vs H Q E h => ?_) (fun cdv A outer s H vs Q E hG hr h => ?_)
  · obtain ⟨C, pot, post, sc, hpot, ⟨rl, rm, W, M, rfl, hrl, hM, hl, ndW, nmW, hne, h3, rfl⟩, q⟩ := h; rfl
  · obtain ⟨C, pot, post, sc, hpot, ⟨rl, rm, W, M, rfl, hrl, hM, hl, ndW, nmW, hne, h3, rfl⟩, q⟩ := h
    have nd : (["_law_pot_here", "_law_labels", "_law_models", "_law_start", "_law_aims_here", "_law_due", "_law_goal_shown", "_law_company_made", "_law_shown_here", "_law_told", "_law_less", "_law_model_here", "_law_k"] : List Str).Nodup := by decide +kernel
    have hu := units1 hr
    refine ⟨_, (pss_cons (ps_set (i := 3) nd rfl (Or.inl rfl) (pe_callTy call_tuple_of (by rfl) T.f_tuple b_tuple (pa_cons (pe_lc (own := [("_law_model_here", 11)]) (by rfl) nd (pi_list (pv 2)) (blkOk_by (own := [("_law_model_here", 11)]) (N := ["_law_pot_here", "_law_labels", "_law_models", "_law_start", "_law_aims_here", "_law_due", "_law_goal_shown", "_law_company_made", "_law_shown_here", "_law_told", "_law_less", "_law_model_here", "_law_k"]) (sc := C8.fnScope s_law_one_right) (by decide +kernel)) (fun _ _ _ _ _ => (pg_name (i := 11) nd rfl (Or.inl rfl))) (fun _ _ _ _ _ => pts_nil) (fun _ _ _ _ _ => (C8.pe_c (c_law_pick T) hr (by decide) (by rfl) (pa_cons (pv 0) (pa_cons (C8.pe_c (c_law_all_spots T) hr (by decide) (by rfl) (pa_cons (pv 11) pa_nil)) pa_nil))))) pa_nil)))
      (pss_cons (ps_set (i := 4) nd rfl (Or.inr rfl) (C8.pe_c (c_law_aims T) hr (by decide) (by rfl) (pa_cons (pv 0) (pa_cons (pv 2) pa_nil))))
      (pss_cons (ps_set (i := 5) nd rfl (Or.inl rfl) (C8.pe_c (c_law_least T) hr (by decide) (by rfl) (pa_cons (pv 2) (pa_cons (pv 3) (pa_cons (pv 4) pa_nil)))))
      (pss_cons (ps_set (i := 6) nd rfl (Or.inl rfl) (C8.pe_c (c_law_mixed T) hr (by decide) (by rfl) (pa_cons (pv 0) (pa_cons (pe_callTy (call_dictP rfl) (by rfl) T.f_dict b_dict (pa_cons (pe_lock (pe_lc (own := [("_law_k", 12)]) (by rfl) nd (pi_keys (pv 4)) (blkOk_by (own := [("_law_k", 12)]) (N := ["_law_pot_here", "_law_labels", "_law_models", "_law_start", "_law_aims_here", "_law_due", "_law_goal_shown", "_law_company_made", "_law_shown_here", "_law_told", "_law_less", "_law_model_here", "_law_k"]) (sc := C8.fnScope s_law_one_right) (by decide +kernel)) (fun _ _ _ _ _ => (pg_name (i := 12) nd rfl (Or.inl rfl))) (fun _ _ _ _ _ => pts_nil) (fun _ _ _ _ _ => (pe_tup (pa_cons (pe_ix (ix_listK (K := K) rfl) (pv 1) (pv 12) (fun _ _ => rfl)) (pa_cons (pe_dget hu (pv 4) (pv 12) (fun _ _ => rfl)) pa_nil)))))) pa_nil)) pa_nil))))
      (pss_cons (ps_set (i := 7) nd rfl (Or.inl rfl) (C8.pe_c (c_law_company T) hr (by decide) (by rfl) (pa_cons (pv 1) (pa_cons (pv 2) (pa_cons (C8.pe_c (c_law_draw T) hr (by decide) (by rfl) (pa_cons (pv 0) (pa_cons pe_int pa_nil))) pa_nil)))))
      (pss_cons (ps_set (i := 8) nd rfl (Or.inl rfl) (C8.pe_c (c_law_mixed T) hr (by decide) (by rfl) (pa_cons (pv 0) (pa_cons (C8.pe_c (c_law_shown T) hr (by decide) (by rfl) (pa_cons (pv 1) (pa_cons (pv 3) pa_nil))) pa_nil))))
      (pss_cons (ps_set (i := 9) nd rfl (Or.inl rfl) (pe_lst (pa_cons (C8.pe_c (c_least_spread T) hr (by decide) (by rfl) (pa_cons (pv 7) (pa_cons (pv 8) (pa_cons (pv 6) pa_nil)))) pa_nil)))
      (pss_cons (ps_expr (pe_bm PySem.F.plainAttrs_list PySem.F.slot_list_append PySem.F.type_list_append mt_append (pv 9) (pa_cons (pe_leastKw (k_least_spread T) hr (by decide) (by rfl) (pk_cons (pv 6) (pk_cons (pv 8) (pk_cons (pv 7) pk_nil)))) pa_nil)))
      (pss_cons (ps_if (pt_cmpR op_ne (pe_callB (call_repr hG (units65 hr)) (by rfl) T.f_repr b_repr (pa_cons (pv 9) pa_nil)) (pe_callB (call_repr hG (units65 hr)) (by rfl) T.f_repr b_repr (pa_cons (pe_lst (pa_cons (pv 5) (pa_cons (pv 5) pa_nil))) pa_nil)) (nomark _)) (pss_one (ps_ret pe_bl)) pss_nil)
      (pss_cons (ps_if (pt_cmpR op_isN (pv 5) pe_non (nomark _)) (pss_one (ps_ret (pe_not (C8.pe_c (c_can_take T) hr (by decide) (by rfl) (pa_cons (C8.pe_mt (q_Company_with_spread T) hr (by decide) (pv 7) (pa_cons pe_int pa_nil)) (pa_cons (pv 8) (pa_cons (pv 6) pa_nil))))))) pss_nil)
      (pss_cons (ps_if (pt_cmpR op_notBl (C8.pe_c (c_can_take T) hr (by decide) (by rfl) (pa_cons (C8.pe_mt (q_Company_with_spread T) hr (by decide) (pv 7) (pa_cons (pv 5) pa_nil)) (pa_cons (pv 8) (pa_cons (pv 6) pa_nil)))) pe_bl (nomark _)) (pss_one (ps_ret pe_bl)) pss_nil)
      (pss_cons (ps_set (i := 10) nd rfl (Or.inl rfl) (C8.pe_mt (q_Company_with_spread T) hr (by decide) (pv 7) (pa_cons (pe_callB (call_max2 rfl) (by rfl) T.f_max b_max (pa_cons pe_int (pa_cons (pe_op op_sub (pv 5) pe_int) pa_nil))) pa_nil)))
      (pss_one (ps_ret (pe_or (pe_cmpR op_eq (pv 5) pe_int (nomark _)) (pe_or (pe_not (C8.pe_c (c_is_stand T) hr (by decide) (by rfl) (pa_cons (pv 10) (pa_cons (pv 8) pa_nil)))) (pe_one (pe_cmpR op_isBl (C8.pe_c (c_can_take T) hr (by decide) (by rfl) (pa_cons (pv 10) (pa_cons (pv 8) (pa_cons (pv 6) pa_nil)))) pe_bl (nomark _))))))))))))))))))), ?_⟩
    have okm : ∀ m ∈ msOf M, m.Ok := fun m hm => by
      obtain ⟨x, hx, rfl⟩ := List.mem_map.mp hm
      exact (hM.ok x hx).ok
    have hm : (msOf M).length = W.length := by rw [List.length_map]; exact hl
    have pne : ∀ {p : Addr}, H p = none → p ∉ [pot] := fun {p} hp z => by
      cases List.mem_singleton.mp z
      exact hpot.ne hp
    -- the start
    refine ⟨_, rfl, rm, rfl, ⟨_, .of (sc _ _ hM.at_)⟩, ?_⟩
    refine lcP walk_list (fun i v C => ∃ u, SpotV C v u ∧ ∀ m, (msOf M)[i]? = some m → m.has u) sc hpot (szK (by rw [List.length_map]; omega)) (fun C H n => .of (n.ch _ _ (n.cc _ _ hM.at_))) (fun i v C C' s ⟨u, h, e⟩ => ⟨u, h.same s, e⟩) (fun i x C1 H1 H2 Z hi a1 p1 y k => ?_) (fun L acc C1 H1 n1 p1 cL hL hacc lacc sacc => ?_)
    · obtain ⟨rfl, hv⟩ := y
      rw [List.getElem?_map] at hv
      obtain ⟨m, em, rfl⟩ := Option.map_eq_some_iff.mp hv
      have hmm := (hM.ok m (List.mem_of_getElem? em)).same a1.cc
      refine ⟨rfl, _, rfl, _, rfl, C1, _, a1.ch, ⟨m.1, m.2, rfl, hmm, rfl⟩, fun v C5 H5 a5 ⟨l, ws, sp, ev, hl', hws, hn, hl45, hh⟩ => ?_⟩
      subst ev
      have p5 := p1.on a5
      have lw := Sps.len hws
      refine ⟨C5, pot, _, a5.ch, p5, ⟨l, ws, rfl, hl', fun z => hn (by rw [z] at lw; exact List.eq_nil_of_length_eq_zero lw.symm), by omega, rfl⟩, fun v C6 H6 a6 p6 hv => ?_⟩
      obtain ⟨j, hj⟩ := List.mem_iff_getElem?.mp hv
      obtain ⟨u, eu, hu'⟩ := Sps.get hws hj
      refine k _ _ _ (a5.pure.trans a6) p6 ⟨u, hu'.same a6.cc, fun m' em' => ?_⟩
      rw [List.getElem?_map, em] at em'
      cases em'
      exact hh u (List.mem_of_getElem? eu)
    rw [List.length_map] at lacc
    obtain ⟨p, hps, hph⟩ := acc_sps sacc
    have lp : p.length = (msOf M).length := by rw [← Sps.len hps, lacc, List.length_map]
    have hh : AllH (msOf M) p := .of lp fun k m u em eu => hph k u eu m em
    have lpW : p.length = W.length := lp.trans hm
    refine ⟨L, acc, rfl, .inl ⟨.of hacc, fun st hst => ?_⟩⟩
    have n2 : Nx [pot] C H (upd C1 st (.tup acc)) (upd H1 st (.tup acc)) := n1.new hst
    have p2 := p1.on (Nx.new0 (M := []) (o := .tup acc) n1.ch hst)
    have hSt : StV (upd C1 st (.tup acc)) st p := ⟨acc, upd_same, Sps.same (same_upd (same_none n1.ch hst)) hps⟩
    generalize upd C1 st (.tup acc) = C2 at n2 p2 hSt
    generalize upd H1 st (.tup acc) = H2 at n2 p2
    -- the aims
    refine ⟨_, rfl, _, rfl, C2, pot, _, n2.ch, p2, ⟨rm, M, rfl, hM.same n2.cc, hne, h3, rfl⟩, fun v C3 H3 a3 p3 ⟨e, as, ev, hA, ok, has⟩ => ?_⟩
    subst ev
    have n3 := n2.trans a3
    have hSt3 := hSt.same a3.cc
    have okx : ∀ a ∈ as, a.1 < W.length := fun a ha => by have := ok.ix a ha; omega
    refine ⟨_, rfl, _, rfl, _, rfl, C3, _, n3.ch, ⟨rm, st, e, M, p, as, rfl, hM.same n3.cc, hSt3, hh, hne, h3, hA, ok, rfl⟩, fun due C4 H4 a4 hdue => ?_⟩
    have hLe := due_least ndW hm okm hh ok.nd okx hdue
    have hfn := fn_ok ndW hm okm hh
    have n4 := n3.trans a4.pure
    have p4 := p3.on a4
    obtain ⟨kvs, he, hk⟩ := hA.same a4.cc
    have lk : kvs.length = as.length := Paired.length hk
    have few := ok.few
    -- the goal
    refine ⟨_, rfl, ?_⟩
    refine lockMapH (fun i v C => ∃ p a x, v = .ref p ∧ as[i]? = some a ∧ C p = some (.tup [.str (W.getD a.1 ""), x]) ∧ SpotV C x a.2) n4.ch he (szK (by omega)) rfl (fun i v C C' s ⟨p, a, x, e1, e2, e3, e4⟩ => ⟨p, a, x, e1, e2, s _ _ e3, e4.same s⟩) (fun i v C' od hd ⟨p, a, x, e1, e2, e3, e4⟩ => ?_) (fun od i k v C' H' Z ek n kk => ?_) (fun R acc C5 H5 a5 hR hal ha => ?_)
    · have t := tups_upd (u := .dK kvs) hd (fun _ z => nomatch z)
      exact ⟨p, a, x, e1, e2, t _ _ e3, e4.tups t⟩
    · obtain ⟨a, ea, rfl, hv⟩ := hk.get ek
      have haa := List.mem_of_getElem? ea
      have hix := okx a haa
      have eW : W[a.1]? = some (W.getD a.1 "") := by rw [List.getD_eq_getElem?_getD, List.getElem?_eq_getElem hix]; rfl
      have le : Le C4 C' := (Le.lock he).trans n.le
      have hrl' : C' rl = some (.lst (W.map V.str)) := le.ex _ _ (n4.cc _ _ hrl) rfl
      have hrd : Rd C' e (.dK kvs) := n.le.rd _ _ (.inr ⟨od, upd_same⟩)
      refine ⟨rfl, _, rfl, _, rfl, rl, _, _, _, rfl, rfl, .of (n.ch _ _ hrl'), atI_nat (by rw [List.getElem?_map, eW]; rfl), _, rfl, _, rfl, e, _, rfl, .inl ⟨kvs, .inl (a.1 : Int), Same.rd n.ch hrd, rfl, (valV_mem (hk.nd ok.nd) (List.mem_of_getElem? ek)).symm⟩, sz2, fun pp hp => kk _ _ _ (.new0 n.ch hp) ⟨pp, a, v, rfl, ea, upd_same, (hv.le le).same (same_upd (same_none n.ch hp))⟩⟩
    obtain ⟨ps, vs, eacc, evs, epair, hvs⟩ := acc_aims (by rw [hal, lk]) ha
    subst eacc
    have ndA := asA_nd ndW ok.nd okx
    have lA : (asA W as).length = as.length := by unfold asA; rw [List.length_map]
    have neA : asA W as ≠ [] := fun z => ok.ne (List.eq_nil_of_length_eq_zero (by rw [← lA, z]; rfl))
    refine ⟨R, ps, vsK vs, rfl, .of hR, Paired.mapP epair fun _ _ z => .of (a5.ch _ _ z), fun d hd => ?_⟩
    rw [merge_nd (vsK_nd (by rw [evs]; exact ndA))]
    have n5 := n4.trans a5.pure
    have n6 : Nx [pot] C H (upd C5 d (.dK (vsK vs))) (upd H5 d (.dK (vsK vs))) := n5.new hd
    have p6 := (p4.on a5).on (Nx.new0 (M := []) (o := .dK (vsK vs)) n5.ch hd)
    have hG6 : SpotsAt (upd C5 d (.dK (vsK vs))) d (asA W as) (fnL nD W (msOf M)) (asP W as) := by
      refine ⟨vs, upd_same, by rw [evs], fun z hz => ?_⟩
      obtain ⟨a, haa, e1, hx⟩ := hvs z hz
      have hix := okx a haa
      obtain ⟨m, em⟩ : ∃ m, (msOf M)[a.1]? = some m := getL hm hix
      have eW : W[a.1]? = some (W.getD a.1 "") := by rw [List.getD_eq_getElem?_getD, List.getElem?_eq_getElem hix]; rfl
      rw [e1, asP_at ndW ok.nd okx haa, fnL_at ndW hm eW em]
      exact ⟨hx.same (same_upd (same_none n5.ch hd)), has a haa m em⟩
    have s56 : Same C5 (upd C5 d (.dK (vsK vs))) := same_upd (same_none n5.ch hd)
    generalize upd C5 d (.dK (vsK vs)) = C6 at n6 p6 hG6 s56
    generalize upd H5 d (.dK (vsK vs)) = H6 at n6 p6
    refine ⟨C6, pot, _, n6.ch, p6, ⟨d, asA W as, fnL nD W (msOf M), asP W as, rfl, hG6, ndA, neA, by omega, rfl⟩, fun v C7 H7 a7 p7 ⟨goal, ev, hGo⟩ => ?_⟩
    subst ev
    have n7 := n6.trans a7
    -- the company
    refine ⟨_, rfl, _, rfl, _, rfl, C7, pot, _, n7.ch, p7, ⟨_, rfl, by decide, by decide, rfl⟩, fun v C8 H8 a8 p8 ⟨r, ev, r0, r1⟩ => ?_⟩
    subst ev
    have n8 := n7.trans a8
    have coW : CoOk W r := ⟨ndW, fun z => hne (List.eq_nil_of_length_eq_zero (by rw [hl, z]; rfl)), by omega, nmW, r0⟩
    refine ⟨C8, _, n8.ch, ⟨rl, rm, W, M, r, rfl, n8.cc _ _ hrl, hM.same n8.cc, hl, coW, rfl⟩, fun v C9 H9 a9 ⟨co, ev, hCo⟩ => ?_⟩
    subst ev
    have n9 := n8.trans a9.pure
    have p9 := p8.on a9
    have hSt9 := hSt3.same ((a4.cc.trans a5.cc).trans (s56.trans (a7.cc.trans (a8.cc.trans a9.cc))))
    have hGo9 := (hGo.same a8.cc).same a9.cc
    have subA := asA_mem (W := W) okx
    -- the start shown
    refine ⟨_, rfl, _, rfl, _, rfl, C9, _, n9.ch, ⟨rl, st, W, p, fnL nD W (msOf M), rfl, n9.cc _ _ hrl, hSt9, lpW, ndW, fun k x u e1 e2 => ?_, rfl⟩, fun v CA HA aA ⟨sh, ev, hSh⟩ => ?_⟩
    · obtain ⟨m, em⟩ := getL hm (ltL e1)
      rw [fnL_at ndW hm e1 em]
      exact hh.get em e2
    subst ev
    have nA := n9.trans aA.pure
    have pA := p9.on aA
    refine ⟨CA, pot, _, nA.ch, pA, ⟨sh, W, fnL nD W (msOf M), fnL sD W p, rfl, hSh, ndW, coW.ne, by omega, rfl⟩, fun v CB HB aB pB ⟨sp, ev, hSp⟩ => ?_⟩
    subst ev
    have nB := nA.trans aB
    have hCoB := (hCo.same aA.cc).same aB.cc
    have hGoB := (hGo9.same aA.cc).same aB.cc
    -- asked once
    refine ⟨_, rfl, _, rfl, _, rfl, CB, _, nB.ch, ⟨co, sp, goal, W, asA W as, fnL nD W (msOf M), r, fnL sD W p, asP W as, rfl, hCoB, hSp, hfn, hGoB, ndA, subA, neA, by omega, rfl⟩, fun v1 CD HD aD hv1 => ⟨sz1, fun F hF => ?_⟩⟩
    cases least_uniq hv1 hLe
    have nD' := nB.trans aD.pure
    have pD := pB.on aD
    have dF : Dt CD (upd HD F (.lst [due])) F (.lst [due]) := .make nD'.ch hF
    have aE : Nx [] CD HD CD (upd HD F (.lst [due])) := .tmp0 nD'.ch hF
    have nE := nD'.trans aE.pure
    have pE := pD.on aE
    have hF0 : H F = none := nD'.back hF
    -- asked by keywords
    refine ⟨_, rfl, .inl ⟨rfl, _, .of dF.at_⟩, _, rfl, _, rfl, _, rfl, rfl, CD, _, nE.ch, ⟨co, sp, goal, W, asA W as, fnL nD W (msOf M), r, fnL sD W p, asP W as, rfl, hCoB.same aD.cc, hSp.same aD.cc, hfn, hGoB.same aD.cc, ndA, subA, neA, by omega, rfl⟩, fun v2 CG HG aG hv2 => ?_⟩
    cases least_uniq hv2 hLe
    have nG := nE.trans aG.pure
    have pG := pE.on aG
    have dG := dF.on aG
    refine ⟨F, _, _, rfl, rfl, dG.at_, szL (show 1 < 100000 by decide), ?_⟩
    have nI := nG.put (o' := .lst ([due] ++ [due])) dG hF0
    have pI := pG.upd (D := F) (o := .lst ([due] ++ [due])) (fun z => hpot.ne (by rw [← z]; exact hF0))
    obtain ⟨dd, hdd, sh1, sh2, sh3, sh4⟩ := due_shown hdue
    have dpl : ∀ {H' : Hp} {a : Addr}, H' a = some (.lst [due, due]) → Dp K H' (.ref a) (.list [dd, dd]) := fun {H' a} h => .lst (.of h) (.cons (hdd _ _) (.cons (hdd _ _) .nil))
    refine ⟨_, rfl, F, .list [dd, dd], rfl, dpl upd_same, sh1, sh2, sh3, sh4, _, rfl, _, rfl, sz2, fun G hG' => ⟨G, .list [dd, dd], rfl, dpl upd_same, sh1, sh2, sh3, sh4, rfl, false, by simp, iteF ?_⟩⟩
    have aJ : Nx [] CG (upd HG F (.lst ([due] ++ [due]))) CG (upd (upd HG F (.lst ([due] ++ [due]))) G (.lst [due, due])) := .tmp0 nI.ch hG'
    have nJ := nI.trans aJ.pure
    have pJ := pI.on aJ
    have sBG : Same CB CG := aD.cc.trans aG.cc
    have hCoJ := hCoB.same sBG
    have hSpJ := hSp.same sBG
    have hGoJ := hGoB.same sBG
    generalize upd (upd HG F (.lst ([due] ++ [due]))) G (.lst [due, due]) = HJ at nJ pJ
    clear hv1 hv2 hG' aJ nI pI dpl hdd dG nG pG aG nE pE aE dF hF
    obtain ⟨_, dx, _, _, hA', _⟩ := id hCoJ
    rcases hLe with ⟨rfl, no⟩ | ⟨n, rfl, n0, fn, tn, no⟩
    · refine ⟨_, rfl, rfl, true, congrArg V.bl (decide_eq_true rfl), iteT ?_⟩
      refine ⟨_, rfl, co, dx, _, rfl, nJ.ch _ _ hA', rfl, CG, _, nJ.ch, ⟨co, W, fnL nD W (msOf M), r, 20, rfl, hCoJ, by decide, rfl⟩, fun v CK HK aK ⟨b, ev, hB⟩ => ?_⟩
      subst ev
      have nK := nJ.trans aK.pure
      refine ⟨_, rfl, _, rfl, CK, _, nK.ch, ⟨b, sp, goal, W, asA W as, fnL nD W (msOf M), 20, fnL sD W p, asP W as, rfl, hB.toR, hSpJ.same aK.cc, fits20 hfn, hfn, hGoJ.same aK.cc, ndA, subA, neA, by omega, rfl⟩, fun v CL HL aL ⟨bb, ev, hbb⟩ => ?_⟩
      subst ev
      have hf : bb = false := by
        cases bb with
        | false => rfl
        | true => exact absurd (hbb.mp rfl) (no 20 (by decide))
      subst hf
      exact ⟨false, rfl, q _ _ _ (nK.trans aL.pure) ((pJ.on aK).on aL) rfl⟩
    · refine ⟨_, rfl, rfl, false, congrArg V.bl (decide_eq_false fun z => nomatch z), iteF ?_⟩
      refine ⟨_, rfl, co, dx, _, rfl, nJ.ch _ _ hA', rfl, _, rfl, CG, _, nJ.ch, ⟨co, W, fnL nD W (msOf M), r, n, rfl, hCoJ, n0, rfl⟩, fun v CK HK aK ⟨b, ev, hB⟩ => ?_⟩
      subst ev
      have nK := nJ.trans aK.pure
      refine ⟨_, rfl, _, rfl, CK, _, nK.ch, ⟨b, sp, goal, W, asA W as, fnL nD W (msOf M), n, fnL sD W p, asP W as, rfl, hB.toR, hSpJ.same aK.cc, fn, hfn, hGoJ.same aK.cc, ndA, subA, neA, by omega, rfl⟩, fun v CL HL aL ⟨bb, ev, hbb⟩ => ?_⟩
      subst ev
      cases hbb.mpr tn
      refine ⟨true, true, rfl, rfl, false, rfl, iteF ?_⟩
      have nL := nK.trans aL.pure
      have pL := (pJ.on aK).on aL
      have sGL : Same CG CL := aK.cc.trans aL.cc
      refine ⟨_, rfl, co, dx, _, rfl, nL.ch _ _ (sGL _ _ hA'), rfl, _, rfl, _, _, rfl, rfl, 0, _, rfl, CL, _, nL.ch, ⟨co, W, fnL nD W (msOf M), r, _, rfl, hCoJ.same sGL, ?_, rfl⟩, fun v CM HM aM ⟨b2, ev, hB2⟩ => ?_⟩
      · show (0 : Int) ≤ if n - 1 > 0 then n - 1 else 0
        split <;> omega
      subst ev
      have nM := nL.trans aM.pure
      have pM := pL.on aM
      refine ⟨_, rfl, rfl, decide (n = 0), congrArg V.bl (decide_eq_decide.mpr ⟨fun z => V.int.inj z, fun z => by rw [z]⟩), ?_⟩
      by_cases c : n = 0
      · exact iteP c (q _ _ _ nM pM rfl)
      · have es : (if n - 1 > 0 then n - 1 else 0) = n - 1 := by split <;> omega
        rw [es] at hB2
        have hSpM := hSpJ.same (sGL.trans aM.cc)
        have hGoM := hGoJ.same (sGL.trans aM.cc)
        refine iteQ c ⟨_, rfl, _, rfl, CM, _, nM.ch, ⟨b2, sp, W, fnL nD W (msOf M), n - 1, fnL sD W p, rfl, hB2.toR, hSpM, rfl⟩, fun v CN HN aN ⟨bs, ev, hbs⟩ => ?_⟩
        subst ev
        have nN := nM.trans aN.pure
        have pN := pM.on aN
        refine ⟨bs, rfl, !bs, rfl, ?_⟩
        cases bs with
        | false => exact iteT (q _ _ _ nN pN rfl)
        | true =>
          have fm := hbs.mp rfl
          refine iteF ⟨_, rfl, _, rfl, _, rfl, CN, _, nN.ch, ⟨b2, sp, goal, W, asA W as, fnL nD W (msOf M), n - 1, fnL sD W p, asP W as, rfl, (hB2.same aN.cc).toR, hSpM.same aN.cc, fm, hfn, hGoM.same aN.cc, ndA, subA, neA, by omega, rfl⟩, fun v CO HO aO ⟨bt, ev, hbt⟩ => ?_⟩
          subst ev
          refine ⟨bt, false, rfl, rfl, q _ _ _ (nN.trans aO.pure) (pN.on aO) (congrArg V.bl (decide_eq_true ?_))⟩
          cases bt with
          | false => rfl
          | true => exact absurd (hbt.mp rfl) (no (n - 1) (by omega) (by omega) fm)
end
end AbW

/-! ## Wx -/
set_option Elab.async false
set_option linter.all false
set_option maxRecDepth 100000
set_option maxHeartbeats 4000000
/-! Wx: the law -/
namespace AbW
open PySem PySem.Spec PyProof.Rows L2 AbH AbR Ab
theorem Nx.forget {C H C' H' : Hp} {p : Addr} (n : Nx [p] C H C' H') (hp : H p = none) : Nx [] C H C' H' :=
  ⟨n.cc, n.ch, n.dm, fun b o _ e => n.hh b o (fun z => by rw [List.mem_singleton.mp z, hp] at e; cases e) e, n.fr⟩
theorem Same.lst {K : PySem.W.Frag} {H H' : Hp} {a : Addr} {xs : List V} (s : Same H H') (h : SqL K H a xs) : SqL K H' a xs := h.imp (Same.rd s) id
theorem all_true {acc : List V} (h : ∀ v ∈ acc, v = .bl true) : ∃ bs : List Bool, acc = bs.map V.bl ∧ bs.all id = true := by
  refine ⟨acc.map fun _ => true, ?_, by rw [List.all_eq_true]; intro b hb; obtain ⟨_, _, e⟩ := List.mem_map.mp hb; exact e ▸ rfl⟩
  rw [List.map_map]
  conv => lhs; rw [← List.map_id acc]
  exact List.map_congr_left fun v hv => h v hv
section
variable {P : Program} {w : World} {K : PySem.W.Frag} {mg : Str → Option Value} {base : Heap}
def sp_law_right (K : PySem.W.Frag) : Sp := GivesP fun vs C pot post => vs = [.ref pot] ∧ post = fun v _ => v = .bl true
theorem c_law_right (T : Txt K mg) : CalG P w K mg base 19 "_law_right" (sp_law_right K) := by
  refine mkCalG (N := ["_law_pot_here", "_law_labels", "_law_models", "_law_turn"]) (ps := ["_law_pot_here"]) T.d_law_right T.g_law_right (fun _ _ _ _ _ _ us hl => match us, hl with | [_], _ => rfl) (by decide +kernel) (fun vs H Q E h => ?_) (fun cdv A outer s H vs Q E hG hr h => ?_)
  · obtain ⟨C, pot, post, sc, hpot, ⟨rfl, rfl⟩, q⟩ := h; rfl
  · obtain ⟨C, pot, post, sc, hpot, ⟨rfl, rfl⟩, q⟩ := h
    have nd : (["_law_pot_here", "_law_labels", "_law_models", "_law_turn"] : List Str).Nodup := by decide +kernel
    refine ⟨_, (pss_cons (ps_asg (C8.pe_c (c_law_team T) hr (by decide) (by rfl) (pa_cons (pv 0) (pa_cons pe_int (pa_cons pe_int (pa_cons pe_int pa_nil))))) (pg_tup (n := 2) (by rfl) (pgs_cons (pg_name (i := 1) nd rfl (Or.inr rfl)) (pgs_cons (pg_name (i := 2) nd rfl (Or.inr rfl)) pgs_nil))))
      (pss_cons (ps_if (PW.pt (pw_and (pt_cmpR op_eq (pe_callB call_len_seq (by rfl) T.f_len b_len (pa_cons (pv 2) pa_nil)) pe_int (nomark _)) (pw_and1 (pt_cmpR op_eq (C8.pe_c (c_law_draw T) hr (by decide) (by rfl) (pa_cons (pv 0) (pa_cons pe_int pa_nil))) pe_int (nomark _))))) (pss_one (ps_asg (pe_ix ix_list (pv 2) pe_int (fun _ _ => rfl)) (pg_sub (pv 2) pe_int set_list))) pss_nil)
      (pss_one (ps_ret (pe_callB (cr_all rfl) (by rfl) T.f_all b_all (pa_cons (pe_lc (own := [("_law_turn", 3)]) (by rfl) nd (pi_range1 (by rfl) T.f_range (pa_cons pe_int pa_nil)) (blkOk_by (own := [("_law_turn", 3)]) (N := ["_law_pot_here", "_law_labels", "_law_models", "_law_turn"]) (sc := C8.fnScope s_law_right) (by decide +kernel)) (fun _ _ _ _ _ => (pg_name (i := 3) nd rfl (Or.inl rfl))) (fun _ _ _ _ _ => pts_nil) (fun _ _ _ _ _ => (pe_cG (c_law_one_right T) hG hr (by decide) (by rfl) (pa_cons (pv 0) (pa_cons (pv 1) (pa_cons (pv 2) pa_nil)))))) pa_nil)))))), ?_⟩
    refine ⟨_, rfl, C, pot, sc, hpot, rfl, fun t rl rm W M C1 H1 n1 p1 ht hrl d1 rm0 hM hWM ndW nmW hne h3 => ?_⟩
    have pne : rm ∉ [pot] := fun z => by
      cases List.mem_singleton.mp z
      exact hpot.ne rm0
    refine ⟨t, _, rfl, .of (n1.ch _ _ ht), rfl, _, _, rfl, _, _, rfl, rfl, ?_⟩
    try dsimp only
    refine cutS (R := fun σ' H' => ∃ C', ∃ M' : MX, σ' = [some (.ref pot), some (.ref rl), some (.ref rm), none] ∧ Nx [pot] C H C' H' ∧ Same C1 C' ∧ Pot C' H' pot ∧ Dt C' H' rm (.lst (mref M')) ∧ (∀ x ∈ M', ModelAt C' x.1 x.2) ∧ M'.length = M.length) (fun Nn kk => ?_) (fun σ' H' ⟨C2, M2, es, n2, s2, p2, d2, hM2, l2⟩ => ?_)
    · refine ⟨_, rfl, rm, _, rfl, .inl (.of d1.at_), rfl, _, rfl, ?_⟩
      by_cases c : V.int ((mref M).length : Nat) = V.int 2
      · refine iteP c ⟨_, rfl, C1, pot, _, n1.ch, p1, ⟨_, rfl, by decide, by decide, rfl⟩, fun v C3 H3 a3 p3 ⟨r, ev, _, _⟩ => ?_⟩
        subst ev
        have n3 := n1.trans a3
        have d3 := d1.on a3 pne
        refine ⟨rfl, _, rfl, ?_⟩
        by_cases c2 : V.int r = V.int 0
        · obtain ⟨x0, x1, rfl⟩ : ∃ x0 x1, M = [x0, x1] := by
            have e : M.length = 2 := by
              have := V.int.inj c
              rw [List.length_map] at this
              omega
            match M, e with
            | [x0, x1], _ => exact ⟨x0, x1, rfl⟩
          refine iteP c2 ⟨_, rfl, rm, _, _, _, rfl, rfl, .of d3.at_, (show atI _ ((0 : Nat) : Int) = _ from atI_nat rfl), _, rfl, rm, _, 1, 1, rfl, rfl, d3.at_, rfl, ?_⟩
          refine kk _ _ ⟨C3, [x0, x0], rfl, n3.put (o' := .lst (mref [x0, x0])) d3 rm0, a3.cc, p3.upd (fun z => hpot.ne (by rw [← z]; exact rm0)), d3.put, fun x hx => ?_, rfl⟩
          have : x = x0 := by simpa using hx
          subst this
          exact (hM _ (List.mem_cons_self ..)).same a3.cc
        · exact iteQ c2 (kk _ _ ⟨C3, M, rfl, n3, a3.cc, p3, d3, fun x hx => (hM x hx).same a3.cc, rfl⟩)
      · exact iteQ c (kk _ _ ⟨C1, M, rfl, n1, Same.rfl' _, p1, d1, hM, rfl⟩)
    subst es
    have n3 := n2.keep d2.at_ rm0
    have s3 : Same C2 (upd C2 rm (.lst (mref M2))) := same_upd d2.no
    have p3 : Pot (upd C2 rm (.lst (mref M2))) H' pot := by
      obtain ⟨pc, i1, i2, g1, g2, g3⟩ := p2
      exact ⟨by rw [upd_ne (fun z => hpot.ne (by rw [z]; exact rm0))]; exact pc, i1, i2, g1, g2, g3⟩
    have hMo : Mods (upd C2 rm (.lst (mref M2))) rm M2 := ⟨upd_same, fun x hx => (hM2 x hx).same s3⟩
    have hrl3 := s3 _ _ (s2 _ _ hrl)
    generalize upd C2 rm (.lst (mref M2)) = C3 at n3 p3 hMo hrl3
    refine ⟨4, rfl, by decide, by decide, ?_⟩
    refine lcP walk_range (fun i v _ => v = .bl true) n3.ch p3 (szK (by decide)) (fun _ _ _ => trivial) (fun _ _ _ _ _ h => h) (fun i x C4 H4 H5 Z hi a4 p4 y k => ?_) (fun L acc C4 H4 n4 p4 cL hL hacc lacc sacc => ?_)
    · obtain ⟨rfl, rfl⟩ := y
      refine ⟨rfl, _, rfl, _, rfl, _, rfl, C4, pot, _, a4.ch, p4, ⟨rl, rm, W, M2, rfl, a4.cc _ _ hrl3, hMo.same a4.cc, by omega, ndW, nmW, fun z => hne (List.eq_nil_of_length_eq_zero (by rw [← l2, z]; rfl)), by omega, rfl⟩, fun v C6 H6 a6 p6 hv => k _ _ _ a6 p6 hv⟩
    · obtain ⟨bs, rfl, hb⟩ := all_true (acc := acc) fun v hv => by
        obtain ⟨i, hi⟩ := List.mem_iff_getElem?.mp hv
        exact sacc i v hi
      exact ⟨L, bs, rfl, .of hacc, by rw [hb]; exact q _ _ _ (n3.trans n4) p4 rfl⟩
def sp_law (K : PySem.W.Frag) : Sp := fun vs H Q _ => ∃ C sp, ∃ ns : List Int, Same C H ∧ vs = [.ref sp] ∧ SqL K C sp (ns.map V.int) ∧ ns.length ≤ 63 ∧ ∀ H', Q (.bl true) H'
theorem k_law (T : Txt K mg) {f : Addr} {fd : FuncData} (F : FunD K "law" "law" (C8.fnArgs s_law) (C8.fnBody s_law) (C8.fnScope s_law) [] [] f fd) : FnG P w K mg base 20 f fd ["_law_script"] (sp_law K) := by
  refine fnG (N := ["_law_script", "_law_k"]) F  (by decide +kernel) (fun vs H Q E h => ?_) (fun cdv A outer s H vs Q E hG hr h => ?_)
  · obtain ⟨C, sp, ns, sc, rfl, hs, hl, q⟩ := h; rfl
  · obtain ⟨C, sp, ns, sc, rfl, hs, hl, q⟩ := h
    have nd : (["_law_script", "_law_k"] : List Str).Nodup := by decide +kernel
    refine ⟨_, (pss_one (ps_ret (pe_callB (cr_all rfl) (by rfl) T.f_all b_all (pa_cons (pe_lc (own := [("_law_k", 1)]) (by rfl) nd (pi_range1 (by rfl) T.f_range (pa_cons (pe_callB (call_max2 rfl) (by rfl) T.f_max b_max (pa_cons pe_int (pa_cons (pe_callB (call_min2 rfl) (by rfl) T.f_min b_min (pa_cons (pe_callB call_len_seq (by rfl) T.f_len b_len (pa_cons (pv 0) pa_nil)) (pa_cons pe_int pa_nil))) pa_nil))) pa_nil)) (blkOk_by (own := [("_law_k", 1)]) (N := ["_law_script", "_law_k"]) (sc := C8.fnScope s_law) (by decide +kernel)) (fun _ _ _ _ _ => (pg_name (i := 1) nd rfl (Or.inl rfl))) (fun _ _ _ _ _ => pts_nil) (fun _ _ _ _ _ => (pe_cG (c_law_right T) hG hr (by decide) (by rfl) (pa_cons (C8.pe_c (c_law_pot T) hr (by decide) (by rfl) (pa_cons (pv 0) (pa_cons (pv 1) pa_nil))) pa_nil)))) pa_nil)))), ?_⟩
    have bnd : ∀ l : Int, 1 ≤ (if (if (2 : Int) < l then 2 else l) > 1 then (if (2 : Int) < l then 2 else l) else 1) ∧ (if (if (2 : Int) < l then 2 else l) > 1 then (if (2 : Int) < l then 2 else l) else 1) ≤ 2 := fun l => by
      split <;> split <;> omega
    refine ⟨_, rfl, sp, _, rfl, .inl (Same.lst sc hs), _, _, rfl, _, _, rfl, _, rfl, Int.le_trans (by decide) (bnd ((ns.map V.int).length : Nat)).1, Int.lt_of_le_of_lt (bnd ((ns.map V.int).length : Nat)).2 (by decide), ?_⟩
    have b2 := Int.toNat_le.mpr (show _ ≤ ((2 : Nat) : Int) from (bnd ((ns.map V.int).length : Nat)).2)
    refine lcMap (M := []) walk_range (fun i v _ => v = .bl true) sc (fun _ h => nomatch h) (szK (Nat.le_trans b2 (by decide))) (fun _ _ _ => trivial) (fun _ _ _ _ _ h => h) (fun i x C4 H4 H5 Z hi a4 y k => ?_) (fun L acc C4 H4 n4 cL hL0 hL hacc sacc => ?_)
    · obtain ⟨rfl, rfl⟩ := y
      have e0 : (0 : Int) + (i : Int) = (i : Int) := by omega
      refine ⟨rfl, _, rfl, _, rfl, C4, sp, ns, i, a4.ch, congrArg (fun z => [V.ref sp, V.int z]) e0, Same.lst a4.cc hs, by omega, Nat.le_trans (Nat.le_of_lt (Nat.lt_of_lt_of_le hi b2)) (by decide), fun p H6 a6 hp hpot => ?_⟩
      have P6 : Pot C4 H6 p := ⟨same_none a4.ch hp, hpot⟩
      exact ⟨C4, p, _, a6.ch, P6, ⟨rfl, rfl⟩, fun v C7 H7 a7 p7 hv => k _ _ _ ((a6.pure.trans a7).forget hp) hv⟩
    · obtain ⟨bs, rfl, hb⟩ := all_true (acc := acc) fun v hv => by
        obtain ⟨i, hi⟩ := List.mem_iff_getElem?.mp hv
        exact sacc i v hi
      exact ⟨L, bs, rfl, .of hL, by rw [hb]; exact q _⟩
end
end AbW

/-! ## End -/
set_option Elab.async false
set_option linter.all false
set_option maxRecDepth 100000
set_option maxHeartbeats 0
/-! End: the statement -/
namespace AbW
open PySem PySem.Spec PyProof.Rows L2 AbH AbR
theorem facts {P : Program} {w : World} {K : PySem.W.Frag} {h : Heap} {mg : Str → Option Value} {f : Addr} (X : K.In h) (G : h.Ns mainGlobals mg) (hfa : mg ("law" : Str) = some (.ref f)) (c : SaysX K) :
    ∃ fd : FuncData, (∀ (s : Shared) (u : Value), BindsTo s fd ⟨[u], []⟩ [("_law_script", u)]) ∧ ∀ base : Heap, K.In base → base.Ns mainGlobals mg → FnG P w K mg base 20 f fd ["_law_script"] (sp_law K) := by
  have T := txt X G c
  have e := hfa.symm.trans T.g_law
  cases e
  obtain ⟨fd, F⟩ := T.d_law.ex
  have b := FunD.bindsA (ps := ["_law_script"]) F fun _ _ _ _ _ _ us hl => match us, hl with
    | [_], _ => rfl
  exact ⟨fd, fun s u => b s [u] rfl, fun base _ _ => k_law T F⟩
end AbW
open PySem PySem.W PySem.Calls PyProof.Rows
theorem PySem.Challenge.cw_abreast_k61_whole_least_spreads_holds : PySem.Challenge.rw_abreast_k61_whole_least_spreads.Holds := by
  w_on; o_law
  refine HandSHeadRun.head_any (r := AbH.R) (q := view AbH.R.prog [117]) (H := AbH.hk) (ob := AbH.ob) (M := 12100) (loose := AbH.loose) (d := HandSHeadRun.topDef AbH.R.prog 117) (kwd := []) AbH.ob_eq
    (by kernel_rfl) (fun s => by kernel_rfl) AbH.run (by kernel_rfl) (by kernel_rfl) (by kernel_rfl) (by rfl) (by first | assumption | decide +kernel) (by decide +kernel) ⟨rfl, rfl, rfl, rfl, rfl, by decide +kernel⟩ ?hw ?hc
  case hw => w_witness2
  case hc =>
    refine AbW.walkG (l := PySem.Challenge.rw_abreast_k61_whole_least_spreads) (n := 63) (k := 20) (x := "_law_script") rfl (by decide) (by kernel_rfl) ⟨rfl, by decide, by decide⟩ ?F (fun _ _ _ _ z => z)
    intro w mg fa h Y G hmg0
    obtain ⟨K, KX, c⟩ := Y
    have hmg : mg ("law" : PySem.Str) = some (.ref fa) := by
      have e : (HandSHeadRun.topDef AbH.R.prog 117).name = ("law" : PySem.Str) := by kernel_rfl
      rw [← e]
      exact hmg0
    obtain ⟨fd, hb, hF⟩ := AbW.facts (P := (PySem.Challenge.rw_abreast_k61_whole_least_spreads).prog) (w := w) KX G hmg c
    exact ⟨K, fd, AbW.sp_law K, KX, hb, fun H a ns hl _ hS => ⟨H, a, ns, fun _ _ e => e, rfl, hS, hl, fun _ => rfl⟩, hF⟩

