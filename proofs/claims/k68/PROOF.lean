import PyProof.Rows.All
import Wide.All
import OpenK.AllK
import Wide.FinOn
import KE.OsRunLaw
import PySem.Challenge.RW_frontlines_k68_whole_long_messages
import HandS.ForMost
import HandS.ForExc
import HandS.TryMany
import HandS.ExcInit
import HandS.ExcField
import HandS.IsInst
import HandS.Lambda
import HandS.Nested
import HandS.EndTab
import HandS.Walk
import HandS.Zip
import HandS.ExcIs
import KE.KExcIs
import HandS.HeadWalk
import PyProof.Draws
import HandS.Text
import HandS.Dict
import HandS.MakeKwOnly
import HandS.Property
import HandS.Small
import HandS.OwnEq
import HandS.More
import HandS.NoneIn
import HandS.Codes
import HandS.Style
import KE.GoesEnum
import HandS.Conv
import HandS.ListItems
import HandS.StrMore
import PyProof.Rows.StrMul
import PyProof.Rows.Range3
import PyProof.Rows.StrJoinRep
set_option Elab.async false
set_option linter.all false
set_option maxRecDepth 100000
/-! the head by the kernel's own run, once for each answer of the world's one row -/
namespace ZH
open PySem PySem.W PySem.Calls PyProof.Rows HeadRun
theorem left_by {p q : Program} {loose : List PySem.Str} {Xt : Shared → Bool} {H : Hook} {ob : SharedT → H.α} {N M : Nat} (row : String) (ho : ∀ s : SharedT, ob s = H.obs s.abs)
    (e : opening p = plainProg p.main.scope.names) (hN : Nat.ble 600 N = true) (f : ∀ s, fenceModules? p s = some s) (le : Nat.ble M N = true)
    (run : ∀ (b : Bool) (w : World) (os : OsState), (endF (stepQ (denQ tabQ) p (w.withFollow row b)) M p (w.withFollow row b) os).map (fun s => (looksF p (boot_heap (w.withFollow row b).params) s.abs, seenQ q loose (importedModules p.main.body) Xt s.abs, ob s)) = some (true, openGood q loose, H.val (w.withFollow row b))) :
    LeftO p q loose Xt H.obs H.val N true :=
  left_one (M := M) e hN f le fun w os => by
    have z := run (w.params.followText row) w os
    rw [World.withFollow_self] at z
    have eo : ob = fun s => H.obs s.abs := funext ho
    rw [eo] at z
    simp only [endQ_eq, seenQ_eq]
    exact z
theorem obs_k {K : Params → Frag} {as : List Addr} {ek : ∀ P, as = (K P).map (·.1)} (s : SharedT) : (as.map (getT s) : List (Option Obj)) = Hook.obs (kHook K as ek) s.abs :=
  List.map_congr_left fun a _ => getT_eq s a
theorem obs_km {K : Params → Frag} {as ts : List Addr} {ek : ∀ P, as = (K P).map (·.1)} (s : SharedT) : ((as.map (getT s), ts.map (getT s)) : List (Option Obj) × List (Option Obj)) = Hook.obs (kmHook K as ek ts) s.abs :=
  Prod.ext (List.map_congr_left fun a _ => getT_eq s a) (List.map_congr_left fun a _ => getT_eq s a)
theorem left_k {p q : Program} {loose : List PySem.Str} {Xt : Shared → Bool} {K : Params → Frag} {as : List Addr} {ek : ∀ P, as = (K P).map (·.1)} {N M : Nat} (row : String)
    (e : opening p = plainProg p.main.scope.names) (hN : Nat.ble 600 N = true) (f : ∀ s, fenceModules? p s = some s) (le : Nat.ble M N = true)
    (run : ∀ (b : Bool) (w : World) (os : OsState), (endF (stepQ (denQ tabQ) p (w.withFollow row b)) M p (w.withFollow row b) os).map (fun s => (looksF p (boot_heap (w.withFollow row b).params) s.abs, seenQ q loose (importedModules p.main.body) Xt s.abs, as.map (getT s))) = some (true, openGood q loose, (K (w.withFollow row b).params).map fun x => some x.2)) :
    LeftO p q loose Xt (Hook.obs (kHook K as ek)) (Hook.val (kHook K as ek)) N true :=
  left_by (H := kHook K as ek) (ob := fun s => as.map (getT s)) row obs_k e hN f le run
theorem left_km {p q : Program} {loose : List PySem.Str} {Xt : Shared → Bool} {K : Params → Frag} {as ts : List Addr} {ek : ∀ P, as = (K P).map (·.1)} {N M : Nat} (row : String)
    (e : opening p = plainProg p.main.scope.names) (hN : Nat.ble 600 N = true) (f : ∀ s, fenceModules? p s = some s) (le : Nat.ble M N = true)
    (run : ∀ (b : Bool) (w : World) (os : OsState), (endF (stepQ (denQ tabQ) p (w.withFollow row b)) M p (w.withFollow row b) os).map (fun s => (looksF p (boot_heap (w.withFollow row b).params) s.abs, seenQ q loose (importedModules p.main.body) Xt s.abs, (as.map (getT s), ts.map (getT s)))) = some (true, openGood q loose, ((K (w.withFollow row b).params).map fun x => some x.2, ts.map fun _ => some (tabObj #[])))) :
    LeftO p q loose Xt (Hook.obs (kmHook K as ek ts)) (Hook.val (kmHook K as ek ts)) N true :=
  left_by (H := kmHook K as ek ts) (ob := fun s => (as.map (getT s), ts.map (getT s))) row obs_km e hN f le run
theorem left_km2 {p q : Program} {loose : List PySem.Str} {Xt : Shared → Bool} {K : Params → Frag} {as ts : List Addr} {ek : ∀ P, as = (K P).map (·.1)} {N M : Nat} (row : String)
    (e : opening p = plainProg p.main.scope.names) (hN : Nat.ble 600 N = true) (f : ∀ s, fenceModules? p s = some s) (le : Nat.ble M N = true)
    (run0 : ∀ (w : World) (os : OsState), (endF (stepQ (denQ tabQ) p (w.withFollow row false)) M p (w.withFollow row false) os).map (fun s => (looksF p (boot_heap (w.withFollow row false).params) s.abs, seenQ q loose (importedModules p.main.body) Xt s.abs, (as.map (getT s), ts.map (getT s)))) = some (true, openGood q loose, ((K (w.withFollow row false).params).map fun x => some x.2, ts.map fun _ => some (tabObj #[]))))
    (run1 : ∀ (w : World) (os : OsState), (endF (stepQ (denQ tabQ) p (w.withFollow row true)) M p (w.withFollow row true) os).map (fun s => (looksF p (boot_heap (w.withFollow row true).params) s.abs, seenQ q loose (importedModules p.main.body) Xt s.abs, (as.map (getT s), ts.map (getT s)))) = some (true, openGood q loose, ((K (w.withFollow row true).params).map fun x => some x.2, ts.map fun _ => some (tabObj #[])))) :
    LeftO p q loose Xt (Hook.obs (kmHook K as ek ts)) (Hook.val (kmHook K as ek ts)) N true :=
  left_km row e hN f le fun b => by cases b <;> assumption
theorem left_k2 {p q : Program} {loose : List PySem.Str} {Xt : Shared → Bool} {K : Params → Frag} {as : List Addr} {ek : ∀ P, as = (K P).map (·.1)} {N M : Nat} (row : String)
    (e : opening p = plainProg p.main.scope.names) (hN : Nat.ble 600 N = true) (f : ∀ s, fenceModules? p s = some s) (le : Nat.ble M N = true)
    (run0 : ∀ (w : World) (os : OsState), (endF (stepQ (denQ tabQ) p (w.withFollow row false)) M p (w.withFollow row false) os).map (fun s => (looksF p (boot_heap (w.withFollow row false).params) s.abs, seenQ q loose (importedModules p.main.body) Xt s.abs, as.map (getT s))) = some (true, openGood q loose, (K (w.withFollow row false).params).map fun x => some x.2))
    (run1 : ∀ (w : World) (os : OsState), (endF (stepQ (denQ tabQ) p (w.withFollow row true)) M p (w.withFollow row true) os).map (fun s => (looksF p (boot_heap (w.withFollow row true).params) s.abs, seenQ q loose (importedModules p.main.body) Xt s.abs, as.map (getT s))) = some (true, openGood q loose, (K (w.withFollow row true).params).map fun x => some x.2)) :
    LeftO p q loose Xt (Hook.obs (kHook K as ek)) (Hook.val (kHook K as ek)) N true :=
  left_k row e hN f le fun b => by cases b <;> assumption
end ZH

set_option Elab.async false
set_option linter.all false
set_option maxRecDepth 100000
set_option maxHeartbeats 0
noncomputable section
namespace HH
open PySem PySem.W PySem.Calls PyProof.Rows HeadRun
/-- the view: the law alone -/
def vw : Program := { PySem.Challenge.pw_frontlines_k68_whole_long_messages with main := { (PySem.Challenge.pw_frontlines_k68_whole_long_messages).main with body := (PySem.Challenge.pw_frontlines_k68_whole_long_messages).main.body.drop 137 } }
def lse : List PySem.Str := [PySem.Str.ofString "_wall", PySem.Str.ofString "__name__", PySem.Str.ofString "LineError", PySem.Str.ofString "InvalidSigns", PySem.Str.ofString "InvalidRows", PySem.Str.ofString "InvalidEnds", PySem.Str.ofString "InvalidLine", PySem.Str.ofString "InvalidLines", PySem.Str.ofString "InvalidCount", PySem.Str.ofString "InvalidMarks", PySem.Str.ofString "InvalidTail", PySem.Str.ofString "InvalidCare", PySem.Str.ofString "InvalidRole", PySem.Str.ofString "InvalidLevel", PySem.Str.ofString "InvalidTree", PySem.Str.ofString "InvalidMessage", PySem.Str.ofString "StateError", PySem.Str.ofString "OtherSigns", PySem.Str.ofString "LimitError", PySem.Str.ofString "TooMany", PySem.Str.ofString "KNOWN_SIGNS", PySem.Str.ofString "LEAST_SIGNS", PySem.Str.ofString "MOST_SIGNS", PySem.Str.ofString "is_integer", PySem.Str.ofString "is_count", PySem.Str.ofString "is_list", PySem.Str.ofString "are_signs", PySem.Str.ofString "want_signs", PySem.Str.ofString "is_line", PySem.Str.ofString "want_line", PySem.Str.ofString "want_count", PySem.Str.ofString "want_same_signs", PySem.Str.ofString "first_bad", PySem.Str.ofString "FEW", PySem.Str.ofString "is_state", PySem.Str.ofString "is_row", PySem.Str.ofString "want_rows", PySem.Str.ofString "want_ends", PySem.Str.ofString "reached", PySem.Str.ofString "numbered", PySem.Str.ofString "ways_back", PySem.Str.ofString "least_sizes", PySem.Str.ofString "first_marks", PySem.Str.ofString "class_numbers", PySem.Str.ofString "least_parts", PySem.Str.ofString "marked", PySem.Str.ofString "ends_of", PySem.Str.ofString "line_rows", PySem.Str.ofString "trie_rows", PySem.Str.ofString "MOST", PySem.Str.ofString "EITHER", PySem.Str.ofString "BOTH", PySem.Str.ofString "FIRST", PySem.Str.ofString "want_few", PySem.Str.ofString "want_few_states", PySem.Str.ofString "least_machine", PySem.Str.ofString "end_of", PySem.Str.ofString "is_wanted", PySem.Str.ofString "joined", PySem.Str.ofString "joined_few", PySem.Str.ofString "Machine", PySem.Str.ofString "seen_machine", PySem.Str.ofString "MOST_LEVELS", PySem.Str.ofString "MOST_MARK", PySem.Str.ofString "MOST_TAIL", PySem.Str.ofString "WORDS", PySem.Str.ofString "CARES", PySem.Str.ofString "KINDS", PySem.Str.ofString "is_mark_line", PySem.Str.ofString "is_tail", PySem.Str.ofString "want_marks", PySem.Str.ofString "is_word", PySem.Str.ofString "want_cares", PySem.Str.ofString "is_level", PySem.Str.ofString "want_level", PySem.Str.ofString "is_role", PySem.Str.ofString "want_role", PySem.Str.ofString "roles_of", PySem.Str.ofString "line_of_role", PySem.Str.ofString "is_seen", PySem.Str.ofString "asked_roles", PySem.Str.ofString "role_taken", PySem.Str.ofString "seen_role", PySem.Str.ofString "taken_machine", PySem.Str.ofString "Reader", PySem.Str.ofString "NEXT", PySem.Str.ofString "END", PySem.Str.ofString "WAIT", PySem.Str.ofString "BODY", PySem.Str.ofString "REFUSE", PySem.Str.ofString "TOLD_LINE", PySem.Str.ofString "START", PySem.Str.ofString "DONE", PySem.Str.ofString "is_tree_of", PySem.Str.ofString "is_tree", PySem.Str.ofString "want_tree", PySem.Str.ofString "want_message", PySem.Str.ofString "role_row", PySem.Str.ofString "written_rows", PySem.Str.ofString "written", PySem.Str.ofString "own_telling", PySem.Str.ofString "next_stand", PySem.Str.ofString "gone_through", PySem.Str.ofString "is_refused", PySem.Str.ofString "telling", PySem.Str.ofString "course", PySem.Str.ofString "tree_read", PySem.Str.ofString "_law_pot", PySem.Str.ofString "_law_draw", PySem.Str.ofString "_law_pick", PySem.Str.ofString "_law_line", PySem.Str.ofString "_law_model", PySem.Str.ofString "_law_reader", PySem.Str.ofString "_law_line_of", PySem.Str.ofString "_law_is_seen", PySem.Str.ofString "_law_role_at", PySem.Str.ofString "_law_move", PySem.Str.ofString "_law_told", PySem.Str.ofString "_law_near_line", PySem.Str.ofString "_law_bush", PySem.Str.ofString "_law_mail", PySem.Str.ofString "_law_due", PySem.Str.ofString "_law_grown", PySem.Str.ofString "_law_rules", PySem.Str.ofString "_law_turn", PySem.Str.ofString "_law_turn_all", PySem.Str.ofString "_law_wide_bush", PySem.Str.ofString "_law_mail_right", PySem.Str.ofString "_law_known_right", PySem.Str.ofString "_law_right"]
abbrev rr : OpenRow := OpenLaw.row PySem.Challenge.rw_frontlines_k68_whole_long_messages
abbrev xt : Shared → Bool := fun s => xlAt vw [] s && recOk rr.toRowW.records s
section
local macro_rules
  | `(tactic| o_head $H) => `(tactic| (have hk := $H; assumption))
/-- lays what the walks read of the heap -/
theorem lay (h : rr.Holds) : rr.Holds := by
  k_head
end
def as : List Addr := [2, 3, 15, 17, 18, 20, 21, 22, 29, 30, 31, 32, 35, 42, 44, 45, 47, 48, 49, 50, 51, 54, 61, 63, 64, 66, 67, 68, 69, 70, 73, 80, 82, 83, 85, 86, 87, 88, 89, 92, 99, 101, 102, 104, 105, 106, 107, 108, 111, 118, 120, 121, 123, 124, 125, 126, 127, 130, 137, 139, 140, 142, 143, 144, 145, 146, 149, 156, 158, 159, 161, 162, 163, 164, 165, 168, 175, 177, 178, 180, 181, 182, 183, 184, 187, 194, 196, 197, 199, 200, 201, 202, 203, 206, 213, 215, 216, 218, 219, 220, 221, 222, 225, 232, 234, 235, 237, 238, 239, 240, 241, 244, 251, 253, 254, 256, 257, 258, 259, 260, 263, 270, 272, 273, 275, 276, 277, 278, 279, 282, 289, 290, 291, 292, 295, 302, 304, 305, 307, 308, 309, 310, 311, 314, 321, 322, 323, 324, 327, 334, 336, 337, 339, 340, 341, 342, 343, 346, 348, 349, 351, 352, 353, 355, 356, 358, 359, 360, 362, 363, 365, 366, 367, 370, 371, 372, 374, 375, 377, 378, 379, 382, 383, 384, 386, 387, 389, 390, 391, 393, 394, 396, 397, 398, 400, 401, 403, 404, 405, 407, 408, 410, 411, 412, 414, 415, 417, 418, 419, 422, 423, 424, 426, 427, 429, 430, 431, 433, 434, 436, 437, 438, 440, 441, 443, 444, 445, 447, 448, 450, 451, 452, 454, 455, 457, 458, 459, 461, 462, 464, 465, 466, 469, 470, 471, 474, 475, 476, 479, 480, 481, 484, 485, 486, 489, 490, 491, 494, 495, 496, 498, 499, 501, 502, 503, 505, 506, 508, 509, 510, 512, 513, 515, 516, 517, 519, 520, 522, 523, 524, 526, 527, 529, 530, 531, 533, 534, 536, 537, 538, 541, 542, 543, 545, 546, 548, 549, 557, 558, 560, 561, 563, 564, 565, 567, 568, 570, 571, 572, 573, 574, 575, 577, 578, 580, 581, 582, 583, 584, 585, 588, 589, 590, 591, 592, 593, 595, 596, 598, 599, 600, 601, 602, 603, 605, 606, 608, 609, 610, 611, 612, 613, 615, 616, 618, 619, 620, 621, 622, 623, 626, 627, 628, 629, 630, 631, 633, 634, 636, 637, 638, 639, 641, 642, 644, 645, 646, 647, 649, 650, 652, 653, 654, 656, 657, 659, 660, 661, 663, 664, 666, 667, 668, 670, 671, 673, 674, 675, 677, 678, 680, 681, 682, 684, 685, 687, 688, 689, 692, 693, 694, 696, 697, 699, 700, 701, 703, 704, 706, 707, 708, 710, 711, 713, 714, 715, 717, 718, 720, 721, 722, 724, 725, 727, 728, 729, 731, 732, 734, 735, 736, 738, 739, 741, 742, 743, 745, 746, 748, 749, 750, 752, 753, 755, 756, 757, 758, 759, 760, 761, 764, 766, 767, 769, 770, 771, 772, 773, 774, 775, 776, 777, 779, 780, 782, 783, 784, 786, 787, 789, 790, 791, 793, 794, 796, 797, 798, 800, 801, 803, 804, 805, 807, 808, 810, 811, 812, 814, 815, 817, 818, 819, 821, 822, 824, 825, 826, 828, 829, 831, 832, 833, 835, 836, 838, 839, 840, 842, 843, 845, 846, 847, 849, 850, 852, 853, 854, 856, 857, 859, 860, 861, 864, 865, 866, 868, 869, 871, 872, 873, 875, 876, 878, 879, 880, 882, 883, 885, 886, 894, 895, 897, 898, 900, 901, 902, 904, 905, 907, 908, 909, 910, 912, 913, 915, 916, 917, 918, 920, 921, 923, 924, 925, 926, 928, 929, 931, 932, 933, 934, 936, 937, 939, 940, 941, 942, 944, 945, 947, 948, 949, 950, 952, 953, 955, 956, 957, 958, 960, 961, 963, 964, 965, 968, 969, 970, 972, 973, 975, 976, 977, 979, 980, 982, 983, 984, 987, 988, 989, 991, 992, 994, 995, 996, 998, 999, 1001, 1002, 1003, 1005, 1006, 1008, 1009, 1010, 1012, 1013, 1015, 1016, 1017, 1019, 1020, 1022, 1023, 1024, 1026, 1027, 1029, 1030, 1031, 1033, 1034, 1036, 1037, 1038, 1041, 1042, 1043, 1044, 1045, 1046, 1047, 1050, 1051, 1052, 1053, 1056, 1057, 1058, 1060, 1061, 1063, 1064, 1065, 1067, 1068, 1070, 1071, 1072, 1074, 1075, 1077, 1078, 1079, 1081, 1082, 1084, 1085, 1086, 1089, 1090, 1091, 1094, 1095, 1096, 1099, 1100, 1101, 1103, 1104, 1106, 1107, 1108, 1110, 1111, 1113, 1114, 1115, 1117, 1118, 1120, 1121, 1122, 1124, 1125, 1127, 1128, 1129, 1131, 1132, 1134, 1135, 1136, 1138, 1139, 1141, 1142, 1143, 1145, 1146, 1148, 1149, 1150, 1152, 1153, 1155, 1156, 1157, 1159, 1160, 1162, 1163, 1164, 1167, 1168, 1169, 1171, 1172, 1174, 1175, 1176, 1178, 1179, 1181, 1182, 1183, 1185, 1186, 1188, 1189, 1190, 1193, 1194, 1195, 1197, 1198, 1200, 1201, 1202, 1204, 1205, 1207, 1208, 1209, 1211, 1212, 1214, 1215, 1216, 1218, 1219, 1221, 1222, 1228, 1230, 1231, 1233, 1234, 1235, 1237, 1238, 1240, 1241, 1242, 1244, 1245, 1247, 1248, 1249, 1251, 1252, 1254, 1255, 1256, 1258, 1259, 1261, 1262, 1270, 1273, 1274, 1275, 1277, 1278, 1280, 1281, 1282, 1284, 1285, 1287, 1288, 1289, 1292, 1293, 1294, 1297, 1298]
theorem ek : ∀ P, as = (HH.lay.heap_1 P).map (·.1) := fun P => by kernel_rfl
theorem run0 : ∀ (w : World) (os : OsState), (endF (stepQ (denQ tabQ) PySem.Challenge.pw_frontlines_k68_whole_long_messages (w.withFollow "special-get-raises" false)) 30000 PySem.Challenge.pw_frontlines_k68_whole_long_messages (w.withFollow "special-get-raises" false) os).map (fun s => (looksF PySem.Challenge.pw_frontlines_k68_whole_long_messages (boot_heap (w.withFollow "special-get-raises" false).params) s.abs, seenQ vw lse (importedModules (PySem.Challenge.pw_frontlines_k68_whole_long_messages).main.body) xt s.abs, (as.map (getT s), ([1073] : List Addr).map (getT s)))) = some (true, openGood vw lse, (((HH.lay.heap_1 (w.withFollow "special-get-raises" false).params).map fun x => some x.2), ([1073] : List Addr).map fun _ => some (tabObj #[]))) := by
  intro w os
  kernel_rfl
theorem run1 : ∀ (w : World) (os : OsState), (endF (stepQ (denQ tabQ) PySem.Challenge.pw_frontlines_k68_whole_long_messages (w.withFollow "special-get-raises" true)) 30000 PySem.Challenge.pw_frontlines_k68_whole_long_messages (w.withFollow "special-get-raises" true) os).map (fun s => (looksF PySem.Challenge.pw_frontlines_k68_whole_long_messages (boot_heap (w.withFollow "special-get-raises" true).params) s.abs, seenQ vw lse (importedModules (PySem.Challenge.pw_frontlines_k68_whole_long_messages).main.body) xt s.abs, (as.map (getT s), ([1073] : List Addr).map (getT s)))) = some (true, openGood vw lse, (((HH.lay.heap_1 (w.withFollow "special-get-raises" true).params).map fun x => some x.2), ([1073] : List Addr).map fun _ => some (tabObj #[]))) := by
  intro w os
  kernel_rfl
theorem left : LeftO rr.prog vw lse xt (Hook.obs (kmHook HH.lay.heap_1 as ek [1073])) (Hook.val (kmHook HH.lay.heap_1 as ek [1073])) 30600 true :=
  ZH.left_km2 (M := 30000) "special-get-raises" (by kernel_rfl) (by rfl) (fun s => by kernel_rfl) (by rfl) run0 run1
theorem top (said : rr.wellSaid = true) {d : DefRec} {kwd : List (PySem.Str × PySem.Expr)} (h1 : defOf vw rr.name = some (d, kwd)) (h2 : rr.prog.theDef rr.name = some (d.params, d.body, d.scope)) (h3 : kwWritten? d.params.kwonlyargs d.params.kw_defaults = some kwd) (hw : rr.toRowW.promised)
    (call : WalkO vw lse (XL vw []) (Hook.says (kmHook HH.lay.heap_1 as ek [1073])) rr.toRowW d kwd fun f vs => PySem.call f vs) : rr.Holds :=
  holds_open (r := rr) (q := vw) (loose := lse) (Xt := xt) (XP := XL vw []) (Yf := Hook.obs (kmHook HH.lay.heap_1 as ek [1073])) (Ya := Hook.val (kmHook HH.lay.heap_1 as ek [1073])) (YP := Hook.says (kmHook HH.lay.heap_1 as ek [1073])) (N := 30600) left (Hook.of (kmHook HH.lay.heap_1 as ek [1073])) (Hook.keeps (kmHook HH.lay.heap_1 as ek [1073])) (fun s e => xl_of s (Bool.and_eq_true_iff.mp e).1) XL.keeps h1 h2 h3 (fun s e => recFacts_of (Bool.and_eq_true_iff.mp e).2) (by rfl) said (by decide +kernel) ⟨rfl, rfl, rfl, rfl, rfl, by decide +kernel⟩ hw call
end HH
end

set_option Elab.async false
set_option linter.all false
set_option maxRecDepth 100000
set_option maxHeartbeats 4000000
/-! The weakest readings: each judgement of the hand layer turned into a predicate of the goal, so that a body is gone through from left to right. -/
namespace Z
open PySem PySem.Spec PyProof.Rows L2


/-! ### the judgements -/
structure wE (X : Cx) (e : Expr) (σ : L2.St) (H : Hp) (Q : VK) : Prop where
  run : ∀ pins s, Inv X pins σ H s → wpAny (model X.prog X.w) X.A (eval e X.env) (EP X pins σ Q) X.xe s
structure wT (X : Cx) (e : Expr) (σ : L2.St) (H : Hp) (Q : Bool → Hp → Prop) : Prop where
  run : ∀ pins s, Inv X pins σ H s → wpAny (model X.prog X.w) X.A (isTrue e X.env (eval e X.env)) (TP X pins σ Q) X.xe s
structure wW (X : Cx) (e : Expr) (σ : L2.St) (H : Hp) (Q : Bool → Hp → Prop) : Prop where
  run : ∀ whole pins s, Inv X pins σ H s → wpAny (model X.prog X.w) X.A (isTrue e X.env whole) (TP X pins σ Q) X.xe s
structure wA (X : Cx) (es : List Expr) (σ : L2.St) (H : Hp) (Q : List V → Hp → Prop) : Prop where
  run : ∀ pos pins s, Inv X pins σ H s → wpAny (model X.prog X.w) X.A (spliced (backTo pos (starEach es X.env))) (AP X pins σ Q) X.xe s
structure wK (X : Cx) (kws : List Keyword) (σ : L2.St) (H : Hp) (Q : List V → Hp → Prop) : Prop where
  run : ∀ pos pins s, Inv X pins σ H s → wpAny (model X.prog X.w) X.A (evalAll ((backToKw pos (keywordEach kws X.env)).map (·.2))) (AP X pins σ Q) X.xe s
structure wS (X : Cx) (st : Stmt) (D : Ends) (σ : L2.St) (H : Hp) : Prop where
  run : ∀ pins s, Inv X pins σ H s → wpAny (model X.prog X.w) X.A (exec st X.env) (SP X pins D) X.xe s
structure wB (X : Cx) (sts : List Stmt) (D : Ends) (σ : L2.St) (H : Hp) : Prop where
  run : ∀ pins s, Inv X pins σ H s → wpAny (model X.prog X.w) X.A (execs sts X.env) (SP X pins D) X.xe s
structure wG (X : Cx) (tg : Expr) (v : V) (σ : L2.St) (H : Hp) (Q : L2.St → Hp → Prop) : Prop where
  run : ∀ pins s u, Inv X pins σ H s → RelV v u → wpAny (model X.prog X.w) X.A (assign tg X.env u) (fun _ s' => ∃ σ' H', Inv X pins σ' H' s' ∧ Q σ' H') X.xe s
structure wGs (X : Cx) (ts : List Expr) (vs : List V) (σ : L2.St) (H : Hp) (Q : L2.St → Hp → Prop) : Prop where
  run : ∀ pins s us, Inv X pins σ H s → Vals vs us → wpAny (model X.prog X.w) X.A (assignInOrder ((assignEach ts X.env).map (·.2)) us) (fun _ s' => ∃ σ' H', Inv X pins σ' H' s' ∧ Q σ' H') X.xe s
structure wI (X : Cx) (tg iter : Expr) (σ : L2.St) (H : Hp) (R : It → Hp → Prop) : Prop where
  run : ∀ pins s, Inv X pins σ H s → wpAny (model X.prog X.w) X.A (eval iter X.env) (fun v s1 => wpAny (model X.prog X.w) X.A (pyIter v) (PIE X pins σ tg R) X.xe s1) X.xe s
structure wIf (X : Cx) (ifs : List Expr) (σ : L2.St) (H : Hp) (Q : Bool → Hp → Prop) : Prop where
  run : ∀ pins s, Inv X pins σ H s →
    wpAny (model X.prog X.w) X.A (forIn ifs true fun c r => if r = true then do let ok ← isTrue c X.env (eval c X.env); pure (ForInStep.yield ok) else pure (ForInStep.yield r)) (TP X pins σ Q) X.xe s

section
variable {X : Cx} {e a b c : Expr} {es : List Expr} {st : Stmt} {sts : List Stmt} {σ : L2.St} {H : Hp}
theorem pE : PE X e (wE X e) := ⟨fun pins s _ _ _ I h => h.run pins s I⟩
theorem pT : PT X e (wT X e) := ⟨fun pins s _ _ _ I h => h.run pins s I⟩
theorem pW : PW X e (wW X e) := ⟨fun wh pins s _ _ _ I h => h.run wh pins s I⟩
theorem pA : PA X es (wA X es) := ⟨fun pos pins s _ _ _ I h => h.run pos pins s I⟩
theorem pK {kws : List Keyword} : PK X kws (wK X kws) := ⟨fun pos pins s _ _ _ I h => h.run pos pins s I⟩
theorem pS : PS X st (wS X st) := ⟨fun pins s _ _ _ I h => h.run pins s I⟩
theorem pB : PSs X sts (wB X sts) := ⟨fun pins s _ _ _ I h => h.run pins s I⟩
theorem pG : PG X e (wG X e) := ⟨fun pins s _ _ _ u _ I r h => h.run pins s u I r⟩
theorem pGs : PGs X es (wGs X es) := ⟨fun pins s _ _ _ us _ I r h => h.run pins s us I r⟩
theorem pI {tg iter : Expr} : PI X tg iter (wI X tg iter) := ⟨fun pins s _ _ _ I h => h.run pins s I⟩
theorem pIf : PTs X es (wIf X es) := ⟨fun pins s _ _ _ I h => h.run pins s I⟩
theorem eE {t : TE} {Q : VK} (p : PE X e t) (h : t σ H Q) : wE X e σ H Q := ⟨fun pins s I => p.run pins s σ H Q I h⟩
theorem eT {t : TT} {Q : Bool → Hp → Prop} (p : PT X e t) (h : t σ H Q) : wT X e σ H Q := ⟨fun pins s I => p.run pins s σ H Q I h⟩
theorem eW {t : TT} {Q : Bool → Hp → Prop} (p : PW X e t) (h : t σ H Q) : wW X e σ H Q := ⟨fun wh pins s I => p.run wh pins s σ H Q I h⟩
theorem eA {t : TA} {Q : List V → Hp → Prop} (p : PA X es t) (h : t σ H Q) : wA X es σ H Q := ⟨fun pos pins s I => p.run pos pins s σ H Q I h⟩
theorem eK {kws : List Keyword} {t : TA} {Q : List V → Hp → Prop} (p : PK X kws t) (h : t σ H Q) : wK X kws σ H Q := ⟨fun pos pins s I => p.run pos pins s σ H Q I h⟩
theorem eS {t : TS} {D : Ends} (p : PS X st t) (h : t D σ H) : wS X st D σ H := ⟨fun pins s I => p.run pins s σ H D I h⟩
theorem eB {t : TS} {D : Ends} (p : PSs X sts t) (h : t D σ H) : wB X sts D σ H := ⟨fun pins s I => p.run pins s σ H D I h⟩
theorem eG {t : TG} {v : V} {Q : L2.St → Hp → Prop} (p : PG X e t) (h : t v σ H Q) : wG X e v σ H Q := ⟨fun pins s u I r => p.run pins s σ H v u Q I r h⟩
theorem eGs {t : TGs} {vs : List V} {Q : L2.St → Hp → Prop} (p : PGs X es t) (h : t vs σ H Q) : wGs X es vs σ H Q := ⟨fun pins s us I r => p.run pins s σ H vs us Q I r h⟩
theorem eI {tg iter : Expr} {t : TI} {R : It → Hp → Prop} (p : PI X tg iter t) (h : t σ H R) : wI X tg iter σ H R := ⟨fun pins s I => p.run pins s σ H R I h⟩
theorem eIf {t : TT} {Q : Bool → Hp → Prop} (p : PTs X es t) (h : t σ H Q) : wIf X es σ H Q := ⟨fun pins s I => p.run pins s σ H Q I h⟩

theorem wE_mono {Q Q' : VK} (h : wE X e σ H Q) (k : ∀ v H', Q v H' → Q' v H') : wE X e σ H Q' := ⟨fun pins s I => thn (h.run pins s I) fun _ _ ⟨v, H', I', r, q⟩ => ⟨v, H', I', r, k v H' q⟩⟩
theorem wT_mono {Q Q' : Bool → Hp → Prop} (h : wT X e σ H Q) (k : ∀ v H', Q v H' → Q' v H') : wT X e σ H Q' := ⟨fun pins s I => thn (h.run pins s I) fun b _ ⟨H', I', q⟩ => ⟨H', I', k b H' q⟩⟩

/-! ### statements -/
theorem b_nil {D : Ends} (h : D.nx σ H) : wB X [] D σ H := eB pss_nil h
theorem b_cons {D : Ends} (h : wS X st { D with nx := wB X sts D } σ H) : wB X (st :: sts) D σ H := eB (pss_cons pS pB) h
theorem s_pass {D : Ends} {pos : Pos} (h : D.nx σ H) : wS X (.Pass pos) D σ H := eS ps_pass h
theorem s_break {D : Ends} {pos : Pos} (h : D.bk σ H) : wS X (.Break pos) D σ H := eS ps_break h
theorem s_continue {D : Ends} {pos : Pos} (h : D.ct σ H) : wS X (.Continue pos) D σ H := eS ps_continue h
theorem s_if {D : Ends} {c : Expr} {u v : List Stmt} {pos : Pos} (h : wT X c σ H fun b H1 => if b = true then wB X u D σ H1 else wB X v D σ H1) : wS X (.If c u v pos) D σ H := eS (ps_if pT pB pB) h
theorem s_ret {D : Ends} {pos : Pos} (h : wE X e σ H D.rt) : wS X (.Return (some e) pos) D σ H := eS (ps_ret pE) h
theorem s_retN {D : Ends} {pos : Pos} (h : D.rt .non H) : wS X (.Return none pos) D σ H := eS ps_retN h
theorem s_expr {D : Ends} {pos : Pos} (h : wE X e σ H fun _ H1 => D.nx σ H1) (hs : swapsWith e none pos.line X.env = pure false := by rfl) : wS X (.Expr e pos) D σ H := eS (ps_expr pE hs) h
/-- name = value -/
theorem s_set {D : Ends} {i : Nat} {x : Str} {pos pos' : Pos} (h : wE X e σ H fun v H1 => D.nx (σ.set i (some v)) H1) (hN : X.N.Nodup) (hi : X.N[i]? = some x := by rfl) (hx : Loc X.env.scope x := by first | exact Or.inl rfl | exact Or.inr rfl)
    (hs : swapsWith e (some (.Name x pos')) pos.line X.env = pure false := by rfl) (hf : X.fn x = true ∨ X.env.scope.names.lookup x = some .local := by first | exact .inl rfl | exact .inr rfl) : wS X (.Assign [.Name x pos'] e pos) D σ H := eS (ps_set hN hi hx pE hs hf) h
theorem s_asg {D : Ends} {tg : Expr} {pos : Pos} (h : wE X e σ H fun v H1 => wG X tg v σ H1 D.nx) (hs : swapsWithSole [tg] e pos.line X.env = pure false := by rfl) (hw : swappedStores [tg] e X.env = pure none := by rfl)
    (h1 : (assignEach [tg] X.env).map (·.2) = [assign tg X.env] := by rfl) : wS X (.Assign [tg] e pos) D σ H := eS (ps_asg pE pG hs hw h1) h
theorem g_name {i : Nat} {x : Str} {pos : Pos} {v : V} {Q : L2.St → Hp → Prop} (h : Q (σ.set i (some v)) H) (hN : X.N.Nodup) (hi : X.N[i]? = some x := by rfl) (hx : Loc X.env.scope x := by first | exact Or.inl rfl | exact Or.inr rfl)
    (hf : X.fn x = true ∨ X.env.scope.names.lookup x = some .local := by first | exact .inl rfl | exact .inr rfl) : wG X (.Name x pos) v σ H Q := eG (pg_name hN hi hx hf) h
theorem gs_nil {Q : L2.St → Hp → Prop} (h : Q σ H) : wGs X [] [] σ H Q := eGs pgs_nil ⟨rfl, h⟩
theorem gs_cons {v : V} {vs : List V} {Q : L2.St → Hp → Prop} (h : wG X e v σ H fun σ' H' => wGs X es vs σ' H' Q) (hs : (assignEach (e :: es) X.env).map (·.2) = assign e X.env :: (assignEach es X.env).map (·.2) := by rfl) :
    wGs X (e :: es) (v :: vs) σ H Q := eGs (pgs_cons pG pGs hs) ⟨v, vs, rfl, h⟩
theorem g_tup {k : Nat} {pos : Pos} {p : Addr} {xs : List V} {Q : L2.St → Hp → Prop} (h : wGs X es xs σ H Q) (hc : X.calm = true) (hq : SqT X.K H p xs) (hn : (assignEach es X.env).length = xs.length := by rfl)
    (hst : (assignEach es X.env).findIdx? (·.1) = none := by rfl) : wG X (.Tuple es k pos) (.ref p) σ H Q := eG (pg_tup hc pGs hn hst) ⟨p, xs, rfl, hq, rfl, h⟩
/-- o[i] = v -/
structure sW (X : Cx) (o i v : V) (H : Hp) (Q : Hp → Prop) : Prop where
  run : ∀ pins s σ ov iv u, Inv X pins σ H s → RelV o ov → RelV i iv → RelV v u → wpAny (model X.prog X.w) X.A (setItem ov iv u) (fun _ s' => ∃ H', Inv X pins σ H' s' ∧ Q H') X.xe s
theorem g_sub {o i : Expr} {pos : Pos} {v : V} {Q : L2.St → Hp → Prop} (h : wE X o σ H fun ov H1 => wE X i σ H1 fun iv H2 => sW X ov iv v H2 fun H3 => Q σ H3)
    (ha : ∀ v, assign (.Subscript o i pos) X.env v = (do
      let ov ← holding [v] (eval o X.env)
      let iv ← holding [v, ov] (eval i X.env)
      standAt pos
      holding [v, ov, iv] (setItem ov iv v)
      release [v, ov, iv] []) := by intro _; rfl) : wG X (.Subscript o i pos) v σ H Q :=
  eG (pg_sub pE pE (t := sW X) (fun pins s σ H o i v ov iv u Q I r1 r2 r3 h => h.run pins s σ ov iv u I r1 r2 r3) ha) h
theorem sW_of {t : TSet} {o i v : V} {Q : Hp → Prop} (p : PSet X t) (h : t o i v H Q) : sW X o i v H Q := ⟨fun pins s σ ov iv u I r1 r2 r3 => p pins s σ H o i v ov iv u Q I r1 r2 r3 h⟩

/-! ### expressions -/
theorem e_name (i : Nat) {x : Str} {pos : Pos} {v : V} {Q : VK} (h : Q v H) (hs : σ[i]? = some (some v) := by rfl) (hN : X.N[i]? = some x := by rfl) (hv : Vis X.env.scope x := by first | exact Or.inl rfl | exact Or.inr (Or.inl rfl) | exact Or.inr (Or.inr rfl))
    (hd : (x == ("__debug__" : Str)) = false := by decide) (hcd : (x == ("__classdict__" : Str)) = false := by decide) : wE X (.Name x pos) σ H Q := eE (pe_var hN hv hd hcd) ⟨v, hs, h⟩
theorem e_glob {x : Str} {pos : Pos} {v : V} {u : Value} {Q : VK} (h : Q v H) (hm : X.mg x = some u) (r : RelV v u) (hg : Gl X x := by rfl) (hd : (x == ("__debug__" : Str)) = false := by decide) : wE X (.Name x pos) σ H Q := eE (pe_glob hg hm r hd) h
theorem e_blt {x : Str} {pos : Pos} {v : V} {u : Value} {Q : VK} (h : Q v H) (hm : X.mg x = none) (hv : bootBuiltins x = some u) (r : RelV v u) (hg : Gl X x := by rfl) (hn : x ≠ "__name__" := by decide) (hd : (x == ("__debug__" : Str)) = false := by decide) :
    wE X (.Name x pos) σ H Q := eE (pe_bltn hg hm hv r hn hd) h
theorem e_int {i : Int} {j} {pos : Pos} {Q : VK} (h : Q (.int i) H) : wE X (.Constant (.int i) j pos) σ H Q := eE pe_int h
theorem e_str {x : Str} {j} {pos : Pos} {Q : VK} (h : Q (.str x) H) : wE X (.Constant (.str x) j pos) σ H Q := eE pe_str h
theorem e_bool {b : Bool} {j} {pos : Pos} {Q : VK} (h : Q (.bl b) H) : wE X (.Constant (.bool b) j pos) σ H Q := eE pe_bl h
theorem e_none {j} {pos : Pos} {Q : VK} (h : Q .non H) : wE X (.Constant .none j pos) σ H Q := eE pe_non h
/-- an operation on two values -/
structure oW (X : Cx) (f : Value → Value → Sem Value) (x y : V) (H : Hp) (Q : VK) : Prop where
  run : ∀ pins s σ v u, Inv X pins σ H s → RelV x v → RelV y u → wpAny (model X.prog X.w) X.A (f v u) (EP X pins σ Q) X.xe s
theorem oR {f : Value → Value → Sem Value} : OpR X f (oW X f) := fun pins s σ _ _ _ v u _ I rx ry h => h.run pins s σ v u I rx ry
theorem oW_of {f : Value → Value → Sem Value} {r : R2} {x y : V} {Q : VK} (p : OpR X f r) (h : r x y H Q) : oW X f x y H Q := ⟨fun pins s σ v u I rx ry => p pins s σ H x y v u Q I rx ry h⟩
structure uW (X : Cx) (f : Value → Sem Value) (x : V) (H : Hp) (Q : VK) : Prop where
  run : ∀ pins s σ v, Inv X pins σ H s → RelV x v → wpAny (model X.prog X.w) X.A (f v) (EP X pins σ Q) X.xe s
theorem uW_of {f : Value → Sem Value} {r : V → Hp → VK → Prop} {x : V} {Q : VK} (p : UnR X f r) (h : r x H Q) : uW X f x H Q := ⟨fun pins s σ v I rx => p pins s σ H x v Q I rx h⟩
theorem e_bin {op : Operator} {pos : Pos} {Q : VK} (h : wE X a σ H fun x H1 => wE X b σ H1 fun y H2 => oW X (binaryOp op) x y H2 Q) : wE X (.BinOp a op b pos) σ H Q := eE (pe_op oR pE pE) h
theorem e_un {op : UnaryOp} {pos : Pos} {Q : VK} (h : wE X a σ H fun x H1 => uW X (unaryOp op) x H1 Q) : wE X (.UnaryOp op a pos) σ H Q := eE (pe_un (r := uW X (unaryOp op)) (fun pins s σ _ _ v _ I rx h => h.run pins s σ v I rx) pE) h
theorem e_cmp {op : CmpOp} {pos : Pos} {Q : VK} (h : wE X a σ H fun x H1 => wE X b σ H1 fun y H2 => oW X (compareOp op) x y H2 Q) (hm : behindInMarks op b = false := by first | exact nomark _ | rfl) :
    wE X (.Compare a [op] [b] pos) σ H Q := eE (pe_cmpR oR pE pE hm) h
theorem t_cmp {op : CmpOp} {pos : Pos} {Q : Bool → Hp → Prop} (h : wE X a σ H fun x H1 => wE X b σ H1 fun y H2 => oW X (compareOp op) x y H2 fun v H3 => ∃ k, v = .bl k ∧ Q k H3) (hm : behindInMarks op b = false := by first | exact nomark _ | rfl) :
    wT X (.Compare a [op] [b] pos) σ H Q := eT (pt_cmpR oR pE pE hm) h
theorem t_chain {op op' : CmpOp} {pos : Pos} {Q : Bool → Hp → Prop} (h : wE X a σ H fun x H1 => wE X b σ H1 fun y H2 => oW X (compareOp op) x y H2 fun z H3 => ∃ k, z = .bl k ∧
      (if k = true then wE X c σ H3 fun w' H4 => oW X (compareOp op') y w' H4 (fun v H5 => ∃ k, v = .bl k ∧ Q k H5) else ∃ k, V.bl false = .bl k ∧ Q k H3)) (hm : lastMarks [op, op'] [b, c] = false := by with_unfolding_all rfl) :
    wT X (.Compare a [op, op'] [b, c] pos) σ H Q := eT (pt_chain oR oR pE pE pE hm) h
theorem t_not {pos : Pos} {Q : Bool → Hp → Prop} (h : wT X a σ H fun c H1 => Q (!c) H1) : wT X (.UnaryOp .Not a pos) σ H Q := eT (pt_not pT) h
theorem e_not {pos : Pos} {Q : VK} (h : wE X a σ H fun x H1 => ∃ c, x = .bl c ∧ Q (.bl (!c)) H1) : wE X (.UnaryOp .Not a pos) σ H Q := eE (pe_not pE) h
theorem t_boolop {op} {pos : Pos} {Q : Bool → Hp → Prop} (h : wW X (.BoolOp op es pos) σ H Q) : wT X (.BoolOp op es pos) σ H Q := eT pW.pt h
theorem w_and1 {pos : Pos} {Q : Bool → Hp → Prop} (h : wT X a σ H Q) : wW X (.BoolOp .And [a] pos) σ H Q := eW (pw_and1 pT) h
theorem w_or1 {pos : Pos} {Q : Bool → Hp → Prop} (h : wT X a σ H Q) : wW X (.BoolOp .Or [a] pos) σ H Q := eW (pw_or1 pT) h
theorem w_and {rest : List Expr} {pos : Pos} {Q : Bool → Hp → Prop} (h : wT X a σ H fun c H1 => if c = true then wW X (.BoolOp .And (b :: rest) pos) σ H1 Q else Q false H1) : wW X (.BoolOp .And (a :: b :: rest) pos) σ H Q := eW (pw_and pT pW) h
theorem w_or {rest : List Expr} {pos : Pos} {Q : Bool → Hp → Prop} (h : wT X a σ H fun c H1 => if c = true then Q true H1 else wW X (.BoolOp .Or (b :: rest) pos) σ H1 Q) : wW X (.BoolOp .Or (a :: b :: rest) pos) σ H Q := eW (pw_or pT pW) h
theorem e_one {op} {pos : Pos} {Q : VK} (h : wE X a σ H Q) : wE X (.BoolOp op [a] pos) σ H Q := eE (pe_one pE) h
theorem e_and {rest : List Expr} {pos : Pos} {Q : VK} (h : wE X a σ H fun x H1 => ∃ c, x = .bl c ∧ if c = true then wE X (.BoolOp .And (b :: rest) pos) σ H1 Q else Q (.bl false) H1) : wE X (.BoolOp .And (a :: b :: rest) pos) σ H Q := eE (pe_and pE pE) h
theorem e_or {rest : List Expr} {pos : Pos} {Q : VK} (h : wE X a σ H fun x H1 => ∃ c, x = .bl c ∧ if c = true then Q (.bl true) H1 else wE X (.BoolOp .Or (b :: rest) pos) σ H1 Q) : wE X (.BoolOp .Or (a :: b :: rest) pos) σ H Q := eE (pe_or pE pE) h
theorem e_if {pos : Pos} {Q : VK} (h : wT X c σ H fun k H1 => if k = true then wE X a σ H1 Q else wE X b σ H1 Q) : wE X (.IfExp c a b pos) σ H Q := eE (pe_ifExp pT pE pE) h
/-- an expression whose value is a bool, as a test -/
theorem t_val {Q : Bool → Hp → Prop} (h : wE X e σ H fun x H1 => ∃ c, x = .bl c ∧ Q c H1) (he : ∀ whole, isTrue e X.env whole = (do let v ← whole; standAt e.pos; holding [v] (truthy v)) := by intro _; rfl) : wT X e σ H Q := eT (pt_val pE he) h
theorem t_truth {Q : Bool → Hp → Prop} (h : wE X e σ H fun x H1 => ∃ k, TruV X.K x H1 k ∧ Q k H1) (he : ∀ whole, isTrue e X.env whole = (do let v ← whole; standAt e.pos; holding [v] (truthy v)) := by intro _; rfl) : wT X e σ H Q := eT (pt_truth pE he) h
theorem a_nil {Q : List V → Hp → Prop} (h : Q [] H) : wA X [] σ H Q := eA pa_nil h
theorem a_cons {Q : List V → Hp → Prop} (h : wE X e σ H fun x H1 => wA X es σ H1 fun xs H2 => Q (x :: xs) H2) (hs : starEach (e :: es) X.env = (false, eval e X.env) :: starEach es X.env := by rfl) : wA X (e :: es) σ H Q := eA (pa_cons pE pA hs) h
theorem k_nil {Q : List V → Hp → Prop} (h : Q [] H) : wK X [] σ H Q := eK pk_nil h
theorem k_cons {nm : Option Str} {kpos : Pos} {kws : List Keyword} {Q : List V → Hp → Prop} (h : wE X e σ H fun x H1 => wK X kws σ H1 fun xs H2 => Q (x :: xs) H2) : wK X (⟨nm, e, kpos⟩ :: kws) σ H Q := eK (pk_cons pE pK) h
theorem e_tup {x1} {pos : Pos} {Q : VK} (h : wA X es σ H fun xs H1 => xs.length ≤ sizeLine ∧ ∀ p, H1 p = none → Q (.ref p) (upd H1 p (.tup xs))) : wE X (.Tuple es x1 pos) σ H Q := eE (pe_tup pA) h
theorem e_lst {pos : Pos} {Q : VK} (h : wA X es σ H fun xs H1 => xs.length ≤ sizeLine ∧ ∀ p, H1 p = none → Q (.ref p) (upd H1 p (.lst xs))) : wE X (.List es pos) σ H Q := eE (pe_lst pA) h
end
end Z

set_option Elab.async false
set_option linter.all false
set_option maxRecDepth 100000
set_option maxHeartbeats 4000000
namespace Z
open PySem PySem.Spec PyProof.Rows L2

/-- the built-in names that no def of the text hides -/
structure Blt (mg : Str → Option Value) (base : Heap) : Prop where
  sys : ∃ o es ep, base.get? sysModules = some o ∧ o.data = .dict es ep
  len : mg "len" = none
  range : mg "range" = none
  min : mg "min" = none
  max : mg "max" = none
  abs : mg "abs" = none
  int : mg "int" = none
  str : mg "str" = none
  bool : mg "bool" = none
  list : mg "list" = none
  tuple : mg "tuple" = none
  dict : mg "dict" = none
  isinstance : mg "isinstance" = none
  all : mg "all" = none
  any : mg "any" = none
  sum : mg "sum" = none
  zip : mg "zip" = none
  repr : mg "repr" = none
  divmod : mg "divmod" = none
  sorted : mg "sorted" = none
  enumerate : mg "enumerate" = none
  reversed : mg "reversed" = none
  valueError : mg "ValueError" = none

/-- where a body runs: the room, what a raised error is wished to meet -/
structure Cxt (X : Cx) (k : Nat) (W : WX) : Prop where
  room : Room k X.A
  calm : X.calm = true
  nd : X.N.Nodup
  blt : Blt X.mg X.base
  po : PassesOwn (model X.prog X.w) X.A X.env X.xe
  tk : Takes X W
abbrev W0 : WX := fun _ _ _ _ => False
theorem takesW0 {X : Cx} : Takes X W0 := fun _ _ ⟨_, _, _, _, _, _, _, _, _, _, _, _, _, _, _, _, z⟩ => z.elim
theorem Cxt.mono {X : Cx} {j k : Nat} {W : WX} (C : Cxt X k W) (h : j ≤ k) : Cxt X j W := ⟨C.room.mono h, C.calm, C.nd, C.blt, C.po, C.tk⟩
theorem Cxt.blk {X : Cx} {k : Nat} {W : WX} (C : Cxt X k W) (s : Shared) (H : Hp) (scope : Scope) (cenv : Env) (fp : List Addr) : Cxt (X.blk s H scope cenv fp) k W0 :=
  ⟨C.room, C.calm, C.nd, C.blt, PassesOwn.never, takesW0⟩
/-- no guard of repr stands -/
abbrev Gd (X : Cx) : Prop := X.A.guards = some []

/-! ### a def's promise, where no guard of repr stands -/
structure GFn (P : Program) (w : World) (K : PySem.W.Frag) (mg : Str → Option Value) (base : Heap) (k : Nat) (f : Addr) (fd : FuncData) (ps : List Str) (sp : Sp) : Prop where
  len : ∀ vs H Q E, sp vs H Q E → vs.length = ps.length
  run : ∀ (A : Around) (outer : List Env) (s : Shared) (H : Hp) (args : Args) (us : List Value) (vs : List V) (Q : VK) (E : XK), Room k A → A.guards = some [] → Env0 P w K mg base A outer s H → BindsTo s fd args (ps.zip us) → Vals vs us → sp vs H Q E →
    codeAny (model P w) A (.call (.ref f) args) (CR (L2.CX P w) outer P w H s Q E) s
/-- a def of the text under its name: its promise in every place -/
structure Def (P : Program) (w : World) (K : PySem.W.Frag) (mg : Str → Option Value) (base : Heap) (k : Nat) (x : Str) (st : Stmt) (ps : List Str) (sp : Sp) : Prop where
  ex : ∃ (f : Addr) (kV doc pm : Value) (an : Option Addr) (cdv ct : Value), mg x = some (.ref f) ∧ PySem.W.keepIn K (.ref f) = true ∧
    FnOk P w K mg base (L2.CX P w) k f (PySem.W.fnOf x x (defArgs st) (defBody st) (defScope st) .none kV doc pm an cdv ct) ps sp
/-- .. its promise where no guard of repr stands -/
structure DefG (P : Program) (w : World) (K : PySem.W.Frag) (mg : Str → Option Value) (base : Heap) (k : Nat) (x : Str) (st : Stmt) (ps : List Str) (sp : Sp) : Prop where
  ex : ∃ (f : Addr) (kV doc pm : Value) (an : Option Addr) (cdv ct : Value), mg x = some (.ref f) ∧ PySem.W.keepIn K (.ref f) = true ∧
    GFn P w K mg base k f (PySem.W.fnOf x x (defArgs st) (defBody st) (defScope st) .none kV doc pm an cdv ct) ps sp
/-- what the head tells of it -/
structure At (K : PySem.W.Frag) (mg : Str → Option Value) (x : Str) (st : Stmt) : Prop where
  ex : ∃ (f : Addr) (fd : FuncData), mg x = some (.ref f) ∧ Fun K x x st f fd

section
variable {P : Program} {w : World} {K : PySem.W.Frag} {mg : Str → Option Value} {base : Heap}
theorem gfn_of {k : Nat} {f : Addr} {fd : FuncData} {ps : List Str} {sp : Sp} (F : FnOk P w K mg base (L2.CX P w) k f fd ps sp) : GFn P w K mg base k f fd ps sp := ⟨F.len, fun A outer s H args us vs Q E hr _ => F.run A outer s H args us vs Q E hr⟩
theorem Def.g {k : Nat} {x : Str} {st : Stmt} {ps : List Str} {sp : Sp} (D : Def P w K mg base k x st ps sp) : DefG P w K mg base k x st ps sp := by
  obtain ⟨f, kV, doc, pm, an, cdv, ct, h1, h2, h3⟩ := D.ex
  exact ⟨f, kV, doc, pm, an, cdv, ct, h1, h2, gfn_of h3⟩
theorem Def.mono {j k : Nat} {x : Str} {st : Stmt} {ps : List Str} {sp : Sp} (D : Def P w K mg base j x st ps sp) (h : j ≤ k) : Def P w K mg base k x st ps sp := by
  obtain ⟨f, kV, doc, pm, an, cdv, ct, h1, h2, h3⟩ := D.ex
  exact ⟨f, kV, doc, pm, an, cdv, ct, h1, h2, h3.mono h⟩
theorem DefG.mono {j k : Nat} {x : Str} {st : Stmt} {ps : List Str} {sp : Sp} (D : DefG P w K mg base j x st ps sp) (h : j ≤ k) : DefG P w K mg base k x st ps sp := by
  obtain ⟨f, kV, doc, pm, an, cdv, ct, h1, h2, h3⟩ := D.ex
  exact ⟨f, kV, doc, pm, an, cdv, ct, h1, h2, h3.len, fun A outer s H args us vs Q E hr => h3.run A outer s H args us vs Q E (hr.mono h)⟩
/-- the body's context -/
abbrev bX (P : Program) (w : World) (K : PySem.W.Frag) (mg : Str → Option Value) (base : Heap) (N : List Str) (x : Str) (st : Stmt) (f : Addr) (cdv : Value) (A : Around) (outer : List Env) (s : Shared) (H : Hp) (E : XK) : Cx :=
  cxOf (L2.CX P w) P w K mg base N x (defScope st) f cdv A outer s H E
/-- THE RULE for a function object: x0 its name, x its qualified name -/
theorem fnok_body {k : Nat} {x0 x : Str} {st : Stmt} {f : Addr} {oc dV kV doc pm cdv ct : Value} {od an : Option Addr} {osl : Array (Option Value)} {N ps : List Str} {sp : Sp} (B : Blt mg base)
    (lk : K.lookup f = some ⟨oc, od, .func (PySem.W.fnOf x0 x (defArgs st) (defBody st) (defScope st) dV kV doc pm an cdv ct), osl⟩) (hcd : PySem.W.codeIn K cdv x = true)
    (S : FnScope N ps (defScope st)) (len : ∀ vs H Q E, sp vs H Q E → vs.length = ps.length)
    (body : ∀ (A : Around) (outer : List Env) (s : Shared) (H : Hp) (vs : List V) (Q : VK) (E : XK), Cxt (bX P w K mg base N x st f cdv A outer s H E) k (fun cls d _ H => E cls d H) → sp vs H Q E →
      wB (bX P w K mg base N x st f cdv A outer s H E) (defBody st) { nx := fun _ H' => Q .non H', rt := Q } (start N vs) H) :
    FnOk P w K mg base (L2.CX P w) (k + 1) f (PySem.W.fnOf x0 x (defArgs st) (defBody st) (defScope st) dV kV doc pm an cdv ct) ps sp :=
  ⟨len, fun A outer s H args us vs Q E hr e0 hb r hsp => LamX.run_ofS lk hcd S hr e0 hb r (len _ _ _ _ hsp) fun hr' => ⟨wB _ (defBody st), pB, body A outer s H vs Q E ⟨hr', rfl, S.nd, B, passes_of rfl, takes_of rfl rfl rfl rfl⟩ hsp⟩⟩
theorem gfn_body {k : Nat} {x0 x : Str} {st : Stmt} {f : Addr} {oc dV kV doc pm cdv ct : Value} {od an : Option Addr} {osl : Array (Option Value)} {N ps : List Str} {sp : Sp} (B : Blt mg base)
    (lk : K.lookup f = some ⟨oc, od, .func (PySem.W.fnOf x0 x (defArgs st) (defBody st) (defScope st) dV kV doc pm an cdv ct), osl⟩) (hcd : PySem.W.codeIn K cdv x = true)
    (S : FnScope N ps (defScope st)) (len : ∀ vs H Q E, sp vs H Q E → vs.length = ps.length)
    (body : ∀ (A : Around) (outer : List Env) (s : Shared) (H : Hp) (vs : List V) (Q : VK) (E : XK), Cxt (bX P w K mg base N x st f cdv A outer s H E) k (fun cls d _ H => E cls d H) → Gd (bX P w K mg base N x st f cdv A outer s H E) → sp vs H Q E →
      wB (bX P w K mg base N x st f cdv A outer s H E) (defBody st) { nx := fun _ H' => Q .non H', rt := Q } (start N vs) H) :
    GFn P w K mg base (k + 1) f (PySem.W.fnOf x0 x (defArgs st) (defBody st) (defScope st) dV kV doc pm an cdv ct) ps sp :=
  ⟨len, fun A outer s H args us vs Q E hr hg e0 hb r hsp => LamX.run_ofS lk hcd S hr e0 hb r (len _ _ _ _ hsp) fun hr' => ⟨wB _ (defBody st), pB, body A outer s H vs Q E ⟨hr', rfl, S.nd, B, passes_of rfl, takes_of rfl rfl rfl rfl⟩ hg hsp⟩⟩
/-- THE RULE for a def -/
theorem def_of {k : Nat} {x : Str} {st : Stmt} {N ps : List Str} {sp : Sp} (D : At K mg x st) (B : Blt mg base) (S : FnScope N ps (defScope st)) (len : ∀ vs H Q E, sp vs H Q E → vs.length = ps.length)
    (body : ∀ (f : Addr) (cdv : Value) (A : Around) (outer : List Env) (s : Shared) (H : Hp) (vs : List V) (Q : VK) (E : XK), mg x = some (.ref f) → Cxt (bX P w K mg base N x st f cdv A outer s H E) k (fun cls d _ H => E cls d H) → sp vs H Q E →
      wB (bX P w K mg base N x st f cdv A outer s H E) (defBody st) { nx := fun _ H' => Q .non H', rt := Q } (start N vs) H) : Def P w K mg base (k + 1) x st ps sp := by
  obtain ⟨f, fd, hm, F⟩ := D.ex
  obtain ⟨oc, od, kV, doc, pm, an, cdv, ct, osl, rfl, lk, hcd⟩ := F.ex
  exact ⟨f, kV, doc, pm, an, cdv, ct, hm, F.kp, fnok_body B lk hcd S len fun A outer s H vs Q E C h => body f cdv A outer s H vs Q E hm C h⟩
theorem defG_of {k : Nat} {x : Str} {st : Stmt} {N ps : List Str} {sp : Sp} (D : At K mg x st) (B : Blt mg base) (S : FnScope N ps (defScope st)) (len : ∀ vs H Q E, sp vs H Q E → vs.length = ps.length)
    (body : ∀ (f : Addr) (cdv : Value) (A : Around) (outer : List Env) (s : Shared) (H : Hp) (vs : List V) (Q : VK) (E : XK), mg x = some (.ref f) → Cxt (bX P w K mg base N x st f cdv A outer s H E) k (fun cls d _ H => E cls d H) → Gd (bX P w K mg base N x st f cdv A outer s H E) → sp vs H Q E →
      wB (bX P w K mg base N x st f cdv A outer s H E) (defBody st) { nx := fun _ H' => Q .non H', rt := Q } (start N vs) H) : DefG P w K mg base (k + 1) x st ps sp := by
  obtain ⟨f, fd, hm, F⟩ := D.ex
  obtain ⟨oc, od, kV, doc, pm, an, cdv, ct, osl, rfl, lk, hcd⟩ := F.ex
  exact ⟨f, kV, doc, pm, an, cdv, ct, hm, F.kp, gfn_body B lk hcd S len fun A outer s H vs Q E C g h => body f cdv A outer s H vs Q E hm C g h⟩
end

/-! ### calls of the text's defs -/
section
variable {X : Cx} {k : Nat} {W : WX} {σ : L2.St} {H : Hp} {x : Str} {st : Stmt} {ps : List Str} {sp : Sp} {e : Expr} {es : List Expr} {p pos : Pos} {Q : VK}
theorem ran {f : Addr} {fd : FuncData} {us : List Value} {kw : List (Str × Value)} {us' : List Value} {vs' : List V} {pins : List (Addr × Obj)} {s : Shared} (C : Cxt X k W) (F : FnOk X.prog X.w X.K X.mg X.base (L2.CX X.prog X.w) k f fd ps sp)
    (hb : BindsTo s fd ⟨us, kw⟩ (ps.zip us')) (I : Inv X pins σ H s) (r : Vals vs' us') (h : sp vs' H Q (fun cls d H' => W cls d σ H')) : wpAny (model X.prog X.w) X.A (call (.ref f) us kw) (EP X pins σ Q) X.xe s := by
  refine wpAny_call (codeAny_mono (F.run X.A X.stack s H ⟨us, kw⟩ us' vs' Q _ C.room I.env0 hb r h) fun r s' hq => ?_)
  cases r with
  | error e => exact C.tk e s' (XE.of_call I (fun _ _ _ z => z) hq)
  | ok fl =>
    cases fl with
    | ret u => exact I.after hq
    | next => exact False.elim hq
    | brk => exact False.elim hq
    | cont => exact False.elim hq
theorem e_call (C : Cxt X k W) (D : Def X.prog X.w X.K X.mg X.base k x st ps sp)
    (h : wA X (e :: es) σ H fun vs H1 => sp vs H1 Q (fun cls d H' => W cls d σ H')) (hg : Gl X x := by rfl)
    (hbind : ∀ (kV doc pm : Value) (an : Option Addr) (cdv ct : Value) (us : List Value), us.length = ps.length → bindArgs (PySem.W.fnOf x x (defArgs st) (defBody st) (defScope st) .none kV doc pm an cdv ct) ⟨us, []⟩ = pure (ps.zip us))
    (hdb : (x == ("__debug__" : Str)) = false := by decide) (he : starEach (e :: es) X.env = (false, eval e X.env) :: starEach es X.env := by rfl) (hpl : (backTo pos (starEach es X.env)).any (·.1) = false := by rfl) :
    wE X (.Call (.Name x p) (e :: es) [] pos) σ H Q := by
  obtain ⟨f, kV, doc, pm, an, cdv, ct, hm, hk, F⟩ := D.ex
  refine ⟨fun pins s I => ?_⟩
  refine wpAny_Call_Name_kw (ld_glob I hg hm ?_ hdb)
  refine PySem.W.callWith_K (h₀ := X.base) I.ok.mod.kin hk (thn (h.run pos pins s I) fun us s1 ⟨vs, H1, I1, r, q⟩ => ⟨I1.kIn, ?_⟩) he hpl
  exact ran C F (.of_eq (hbind kV doc pm an cdv ct us (r.length.symm.trans (F.len _ _ _ _ q)))) I1 r q
theorem e_call0 (C : Cxt X k W) (D : Def X.prog X.w X.K X.mg X.base k x st [] sp) (h : sp [] H Q (fun cls d H' => W cls d σ H')) (hg : Gl X x := by rfl)
    (hbind : ∀ (kV doc pm : Value) (an : Option Addr) (cdv ct : Value), bindArgs (PySem.W.fnOf x x (defArgs st) (defBody st) (defScope st) .none kV doc pm an cdv ct) ⟨[], []⟩ = pure [] := by intros; rfl)
    (hdb : (x == ("__debug__" : Str)) = false := by decide) : wE X (.Call (.Name x p) [] [] pos) σ H Q := by
  obtain ⟨f, kV, doc, pm, an, cdv, ct, hm, hk, F⟩ := D.ex
  refine ⟨fun pins s I => ?_⟩
  refine wpAny_Call_Name_kw (ld_glob I hg hm ?_ hdb)
  exact PySem.W.callWith_K0 I.kIn hk (ran (us := []) (us' := []) C F (.of_eq (hbind kV doc pm an cdv ct)) I .nil h)
/-- f(k = a, ..), nothing by its place -/
theorem e_callK0 {kws : List Keyword} {ks : List Str} {g : {α : Type} → List α → List α} (C : Cxt X k W) (D : Def X.prog X.w X.K X.mg X.base k x st ps sp)
    (h : wK X kws σ H fun zs H1 => sp (g zs) H1 Q (fun cls d H' => W cls d σ H')) (hrel : ∀ {vs : List V} {us : List Value}, Vals vs us → Vals (g vs) (g us)) (hg : Gl X x := by rfl)
    (hbind : ∀ (kV doc pm : Value) (an : Option Addr) (cdv ct : Value) (us : List Value), (g us).length = ps.length → bindArgs (PySem.W.fnOf x x (defArgs st) (defBody st) (defScope st) .none kV doc pm an cdv ct) ⟨[], ks.zip us⟩ = pure (ps.zip (g us)))
    (hall : (backToKw pos (keywordEach kws X.env)).all (·.1.isSome) = true := by rfl) (hks : (backToKw pos (keywordEach kws X.env)).filterMap (·.1) = ks := by rfl)
    (hdb : (x == ("__debug__" : Str)) = false := by decide)
    (hpl : ((backTo pos (starEach [] X.env)).any (·.1) || (backToKw pos (keywordEach kws X.env)).any (·.1.isNone)) = false := by rfl) : wE X (.Call (.Name x p) [] kws pos) σ H Q := by
  obtain ⟨f, kV, doc, pm, an, cdv, ct, hm, hk, F⟩ := D.ex
  refine ⟨fun pins s I => ?_⟩
  refine wpAny_Call_Name_kw (ld_glob I hg hm ?_ hdb)
  refine PySem.W.callWith_KW0 (h₀ := X.base) I.ok.mod.kin hk hall (thn (h.run pos pins s I) fun us s1 ⟨vs, H1, I1, r, q⟩ => ⟨I1.kIn, ?_⟩) hpl
  rw [hks]
  have r2 := hrel r
  exact ran (us := []) C F (.of_eq (hbind kV doc pm an cdv ct us (r2.length.symm.trans (F.len _ _ _ _ q)))) I1 r2 q
theorem ranG {f : Addr} {fd : FuncData} {us : List Value} {kw : List (Str × Value)} {us' : List Value} {vs' : List V} {pins : List (Addr × Obj)} {s : Shared} (C : Cxt X k W) (g : Gd X) (F : GFn X.prog X.w X.K X.mg X.base k f fd ps sp)
    (hb : BindsTo s fd ⟨us, kw⟩ (ps.zip us')) (I : Inv X pins σ H s) (r : Vals vs' us') (h : sp vs' H Q (fun cls d H' => W cls d σ H')) : wpAny (model X.prog X.w) X.A (call (.ref f) us kw) (EP X pins σ Q) X.xe s := by
  refine wpAny_call (codeAny_mono (F.run X.A X.stack s H ⟨us, kw⟩ us' vs' Q _ C.room g I.env0 hb r h) fun r s' hq => ?_)
  cases r with
  | error e => exact C.tk e s' (XE.of_call I (fun _ _ _ z => z) hq)
  | ok fl =>
    cases fl with
    | ret u => exact I.after hq
    | next => exact False.elim hq
    | brk => exact False.elim hq
    | cont => exact False.elim hq
theorem e_callG (C : Cxt X k W) (hgd : Gd X) (D : DefG X.prog X.w X.K X.mg X.base k x st ps sp)
    (h : wA X (e :: es) σ H fun vs H1 => sp vs H1 Q (fun cls d H' => W cls d σ H')) (hg : Gl X x := by rfl)
    (hbind : ∀ (kV doc pm : Value) (an : Option Addr) (cdv ct : Value) (us : List Value), us.length = ps.length → bindArgs (PySem.W.fnOf x x (defArgs st) (defBody st) (defScope st) .none kV doc pm an cdv ct) ⟨us, []⟩ = pure (ps.zip us))
    (hdb : (x == ("__debug__" : Str)) = false := by decide) (he : starEach (e :: es) X.env = (false, eval e X.env) :: starEach es X.env := by rfl) (hpl : (backTo pos (starEach es X.env)).any (·.1) = false := by rfl) :
    wE X (.Call (.Name x p) (e :: es) [] pos) σ H Q := by
  obtain ⟨f, kV, doc, pm, an, cdv, ct, hm, hk, F⟩ := D.ex
  refine ⟨fun pins s I => ?_⟩
  refine wpAny_Call_Name_kw (ld_glob I hg hm ?_ hdb)
  refine PySem.W.callWith_K (h₀ := X.base) I.ok.mod.kin hk (thn (h.run pos pins s I) fun us s1 ⟨vs, H1, I1, r, q⟩ => ⟨I1.kIn, ?_⟩) he hpl
  exact ranG C hgd F (.of_eq (hbind kV doc pm an cdv ct us (r.length.symm.trans (F.len _ _ _ _ q)))) I1 r q
theorem e_callG0 (C : Cxt X k W) (hgd : Gd X) (D : DefG X.prog X.w X.K X.mg X.base k x st [] sp) (h : sp [] H Q (fun cls d H' => W cls d σ H')) (hg : Gl X x := by rfl)
    (hbind : ∀ (kV doc pm : Value) (an : Option Addr) (cdv ct : Value), bindArgs (PySem.W.fnOf x x (defArgs st) (defBody st) (defScope st) .none kV doc pm an cdv ct) ⟨[], []⟩ = pure [] := by intros; rfl)
    (hdb : (x == ("__debug__" : Str)) = false := by decide) : wE X (.Call (.Name x p) [] [] pos) σ H Q := by
  obtain ⟨f, kV, doc, pm, an, cdv, ct, hm, hk, F⟩ := D.ex
  refine ⟨fun pins s I => ?_⟩
  refine wpAny_Call_Name_kw (ld_glob I hg hm ?_ hdb)
  exact PySem.W.callWith_K0 I.kIn hk (ranG (us := []) (us' := []) C hgd F (.of_eq (hbind kV doc pm an cdv ct)) I .nil h)
/-- f(k = a, ..), nothing by its place -/
theorem e_callGK0 {kws : List Keyword} {ks : List Str} {g : {α : Type} → List α → List α} (C : Cxt X k W) (hgd : Gd X) (D : DefG X.prog X.w X.K X.mg X.base k x st ps sp)
    (h : wK X kws σ H fun zs H1 => sp (g zs) H1 Q (fun cls d H' => W cls d σ H')) (hrel : ∀ {vs : List V} {us : List Value}, Vals vs us → Vals (g vs) (g us)) (hg : Gl X x := by rfl)
    (hbind : ∀ (kV doc pm : Value) (an : Option Addr) (cdv ct : Value) (us : List Value), (g us).length = ps.length → bindArgs (PySem.W.fnOf x x (defArgs st) (defBody st) (defScope st) .none kV doc pm an cdv ct) ⟨[], ks.zip us⟩ = pure (ps.zip (g us)))
    (hall : (backToKw pos (keywordEach kws X.env)).all (·.1.isSome) = true := by rfl) (hks : (backToKw pos (keywordEach kws X.env)).filterMap (·.1) = ks := by rfl)
    (hdb : (x == ("__debug__" : Str)) = false := by decide)
    (hpl : ((backTo pos (starEach [] X.env)).any (·.1) || (backToKw pos (keywordEach kws X.env)).any (·.1.isNone)) = false := by rfl) : wE X (.Call (.Name x p) [] kws pos) σ H Q := by
  obtain ⟨f, kV, doc, pm, an, cdv, ct, hm, hk, F⟩ := D.ex
  refine ⟨fun pins s I => ?_⟩
  refine wpAny_Call_Name_kw (ld_glob I hg hm ?_ hdb)
  refine PySem.W.callWith_KW0 (h₀ := X.base) I.ok.mod.kin hk hall (thn (h.run pos pins s I) fun us s1 ⟨vs, H1, I1, r, q⟩ => ⟨I1.kIn, ?_⟩) hpl
  rw [hks]
  have r2 := hrel r
  exact ranG (us := []) C hgd F (.of_eq (hbind kV doc pm an cdv ct us (r2.length.symm.trans (F.len _ _ _ _ q)))) I1 r2 q
end

/-! ### loops -/
section
variable {X : Cx} {k : Nat} {W : WX} {σ : L2.St} {H : Hp} {e a b c : Expr} {es : List Expr} {p pos : Pos}
theorem s_for {D : Ends} {tg iter : Expr} {body : List Stmt} (C : Cxt X k W)
    (h : wI X tg iter σ H fun J H1 => ∃ n G Y, Walk J n G Y ∧ ∃ Pv : Nat → L2.St → Hp → Prop, Pv 0 σ H1 ∧ (∀ i σ H, i ≤ n → Pv i σ H → G H) ∧
      (∀ i x σ H H', i < n → Pv i σ H → Y i H x H' → wG X tg x σ H' fun σ2 H2 => wB X body { D with nx := Pv (i + 1), ct := Pv (i + 1), bk := D.nx } σ2 H2) ∧ ∀ σ H, Pv n σ H → D.nx σ H)
    (hs : ∀ x, foldedSetIterable iter X.env x = pure x := by intro _; rfl) : wS X (.For tg iter body [] pos) D σ H := by
  refine eS (ps_for C.po C.calm pI pG pB hs) ⟨fun pins s I => ?_⟩
  refine wpAny_mono (h.run pins s I) (fun v s1 hv => ?_) fun _ _ z => z
  refine wpAny_mono hv (fun it s2 hi => ?_) fun _ _ z => z
  obtain ⟨itv, fp, tn, J, H', e1, I1, T, t0, f1, n, G, Y, w, Pv, h0, hG, hs, hd⟩ := hi
  exact ⟨itv, fp, tn, J, H', e1, I1, T, t0, f1, for_it w Pv h0 hG hs hd⟩
theorem wI_mono {tg iter : Expr} {R R' : It → Hp → Prop} (h : wI X tg iter σ H R) (k : ∀ J H', R J H' → R' J H') : wI X tg iter σ H R' := ⟨fun pins s I =>
  thn (h.run pins s I) fun v s1 hv => thn hv fun it s2 ⟨itv, fp, tn, J, H', e1, I1, T, t0, f1, r⟩ => ⟨itv, fp, tn, J, H', e1, I1, T, t0, f1, k J H' r⟩⟩
/-- the readings within a comprehension's block, whatever its context -/
def wEb (X : Cx) (scope : Scope) (e : Expr) : TE := fun σ H Q => ∀ (s : Shared) (H0 : Hp) (C : Addr) (cl : List (Str × Addr)) (fp : List Addr), wE (X.blk s H0 scope (compEnvC scope cl C X.env) fp) e σ H Q
def wGb (X : Cx) (scope : Scope) (e : Expr) : TG := fun v σ H Q => ∀ (s : Shared) (H0 : Hp) (C : Addr) (cl : List (Str × Addr)) (fp : List Addr), wG (X.blk s H0 scope (compEnvC scope cl C X.env) fp) e v σ H Q
def wIfb (X : Cx) (scope : Scope) (es : List Expr) : TT := fun σ H Q => ∀ (s : Shared) (H0 : Hp) (C : Addr) (cl : List (Str × Addr)) (fp : List Addr), wIf (X.blk s H0 scope (compEnvC scope cl C X.env) fp) es σ H Q
/-- one turn of a comprehension: x the item, D the list under way -/
def LcTurn (X : Cx) (scope : Scope) (vs : List Nat) (tg : Expr) (ifs : List Expr) (elt : Expr) (σ : L2.St) (D : Addr) (x : V) (H : Hp) (Nx : Hp → Prop) : Prop :=
  wGb X scope tg x (wipe σ vs) H fun σ2 H2 => wipe σ2 vs = wipe σ vs ∧ wIfb X scope ifs σ2 H2 fun b H3 =>
    if b = true then wEb X scope elt σ2 H3 fun y H4 => ∃ acc, H4 D = some (.lst acc) ∧ acc.length < sizeLine ∧ Nx (upd H4 D (.lst (acc ++ [y]))) else Nx H3
theorem e_lc {Q : VK} {elt tg iter : Expr} {ifs : List Expr} {scope : Scope} (own : List (Str × Nat)) (C : Cxt X k W)
    (h : wI X tg iter σ H fun J H1 => ∃ n G Y, Walk J n G Y ∧ ∀ D, H1 D = none → ∃ Pv : Nat → Hp → Prop, Pv 0 (upd H1 D (.lst [])) ∧ (∀ i H, i ≤ n → Pv i H → G H) ∧
      (∀ i x H H', i < n → Pv i H → Y i H x H' → LcTurn X scope (own.map (·.2)) tg ifs elt σ D x H' (Pv (i + 1))) ∧ ∀ H, Pv n H → Q (.ref D) H)
    (ok : BlkOk X.N X.env.scope scope own := by exact blkOk_by (by first | rfl | kernel_rfl)) (hs : ∀ x, foldedSetIterable iter X.env x = pure x := by intro _; rfl) :
    wE X (.ListComp elt [⟨tg, iter, ifs, 0⟩] scope pos) σ H Q := by
  refine eE (pe_lc (g := wGb X scope tg) (tt := wIfb X scope ifs) (te := wEb X scope elt) C.calm C.nd pI ok (fun s H C cl fp => ⟨fun pins s' σ' H' v u Q' I r hh => (hh s H C cl fp).run pins s' u I r⟩)
    (fun s H C cl fp => ⟨fun pins s' σ' H' Q' I hh => (hh s H C cl fp).run pins s' I⟩) (fun s H C cl fp => ⟨fun pins s' σ' H' Q' I hh => (hh s H C cl fp).run pins s' I⟩) hs) ?_
  refine wI_mono h fun J H1 hh => ?_
  obtain ⟨n, G, Y, w, hD⟩ := hh
  intro D hn
  obtain ⟨Pv, h0, hG, ht, hd⟩ := hD D hn
  exact lc_it w Pv h0 hG ht hd
theorem s_setLc {D : Ends} {i : Nat} {y : Str} {py spos : Pos} {elt tg iter : Expr} {ifs : List Expr} {scope : Scope} (own : List (Str × Nat)) (C : Cxt X k W)
    (h : wI X tg iter σ H fun J H1 => ∃ n G Y, Walk J n G Y ∧ ∀ L, H1 L = none → ∃ Pv : Nat → Hp → Prop, Pv 0 (upd H1 L (.lst [])) ∧ (∀ i H, i ≤ n → Pv i H → G H) ∧
      (∀ i x H H', i < n → Pv i H → Y i H x H' → LcTurn X scope (own.map (·.2)) tg ifs elt σ L x H' (Pv (i + 1))) ∧ ∀ H, Pv n H → D.nx (σ.set i (some (.ref L))) H)
    (hi : X.N[i]? = some y := by rfl) (hyl : X.env.scope.names.lookup y = some .local := by rfl)
    (hsw : swapsWith (.ListComp elt [⟨tg, iter, ifs, 0⟩] scope pos) (some (.Name y py)) spos.line X.env = pure true := by exact sw_true rfl rfl rfl (by first | rfl | kernel_rfl))
    (ok : BlkOk X.N X.env.scope scope own := by exact blkOk_by (by first | rfl | kernel_rfl)) (hs : ∀ x, foldedSetIterable iter X.env x = pure x := by intro _; rfl) :
    wS X (.Assign [.Name y py] (.ListComp elt [⟨tg, iter, ifs, 0⟩] scope pos) spos) D σ H := by
  refine eS (ps_setLc (g := wGb X scope tg) (tt := wIfb X scope ifs) (te := wEb X scope elt) C.calm C.nd hi hyl hsw pI ok (fun s H C cl fp => ⟨fun pins s' σ' H' v u Q' I r hh => (hh s H C cl fp).run pins s' u I r⟩)
    (fun s H C cl fp => ⟨fun pins s' σ' H' Q' I hh => (hh s H C cl fp).run pins s' I⟩) (fun s H C cl fp => ⟨fun pins s' σ' H' Q' I hh => (hh s H C cl fp).run pins s' I⟩) hs) ?_
  refine wI_mono h fun J H1 hh => ?_
  obtain ⟨n, G, Y, w, hD⟩ := hh
  intro L hn
  obtain ⟨Pv, h0, hG, ht, hd⟩ := hD L hn
  exact lc_it w Pv h0 hG ht hd
/-- a block without tests, its target a name -/
theorem lc_plain {scope : Scope} {vs : List Nat} {i : Nat} {y : Str} {elt : Expr} {D : Addr} {x : V} {Nx : Hp → Prop} (hN : X.N.Nodup)
    (h : wEb X scope elt ((wipe σ vs).set i (some x)) H fun y H4 => ∃ acc, H4 D = some (.lst acc) ∧ acc.length < sizeLine ∧ Nx (upd H4 D (.lst (acc ++ [y])))) (hw : wipe ((wipe σ vs).set i (some x)) vs = wipe σ vs := by rfl) (hi : X.N[i]? = some y := by rfl)
    (hx : Loc (relS scope X.env.scope) y := by first | exact Or.inl rfl | exact Or.inr rfl) (hf : (scope.names.lookup y == some .cell) = true ∨ (relS scope X.env.scope).names.lookup y = some .local := by first | exact .inl rfl | exact .inr rfl) :
    LcTurn X scope vs (.Name y p) [] elt σ D x H Nx := by
  intro s H0 C cl fp
  refine g_name (i := i) ?_ hN hi hx hf
  refine ⟨hw, fun s H0 C cl fp => eIf pts_nil ?_⟩
  exact h

/-! ### what is walked -/
theorem i_list {tg : Expr} {R : It → Hp → Prop} (h : wE X e σ H fun x H1 => ∃ a, x = .ref a ∧ (∃ xs, SqL X.K H1 a xs) ∧ R (Itl X.K a) H1) : wI X tg e σ H R := eI (pi_list pE) h
theorem i_tup {tg : Expr} {R : It → Hp → Prop} (h : wE X e σ H fun x H1 => ∃ a, x = .ref a ∧ (∃ xs, SqT X.K H1 a xs) ∧ R (Itt X.K a) H1) : wI X tg e σ H R := eI (pi_tup pE) h
theorem i_str {tg : Expr} {R : It → Hp → Prop} (h : wE X e σ H fun v H1 => ∃ x, v = .str x ∧ R (Its x) H1) : wI X tg e σ H R := eI (pi_str pE) h
theorem i_range1 {tg : Expr} {R : It → Hp → Prop} (B : Blt X.mg X.base) (h : wE X a σ H fun v H1 => ∃ j : Int, v = .int j ∧ -(2 ^ 62) ≤ j ∧ j < 2 ^ 62 ∧ R (Itr 0 j.toNat) H1) (hg : Gl X "range" := by rfl)
    (hs : starEach [a] X.env = [(false, eval a X.env)] := by rfl) : wI X tg (.Call (.Name "range" p) [a] [] pos) σ H R :=
  eI (pi_range1 hg B.range pA hs) (a_cons (wE_mono h fun v H1 ⟨j, e1, h1, h2, r⟩ => a_nil ⟨j, by rw [e1], h1, h2, r⟩) hs)
theorem i_range2 {tg : Expr} {R : It → Hp → Prop} (B : Blt X.mg X.base) (h : wE X a σ H fun v H1 => wE X b σ H1 fun u H2 => ∃ i j : Int, v = .int i ∧ u = .int j ∧ (-(2 ^ 62) ≤ i ∧ i < 2 ^ 62 ∧ -(2 ^ 62) ≤ j ∧ j < 2 ^ 62) ∧ R (Itr i (j - i).toNat) H2) (hg : Gl X "range" := by rfl)
    (hs : starEach [a, b] X.env = [(false, eval a X.env), (false, eval b X.env)] := by rfl) (hs2 : starEach [b] X.env = [(false, eval b X.env)] := by rfl) : wI X tg (.Call (.Name "range" p) [a, b] [] pos) σ H R :=
  eI (pi_range2 hg B.range pA hs hs2) (a_cons (wE_mono h fun v H1 q => a_cons (wE_mono q fun u H2 ⟨i, j, e1, e2, h1, r⟩ => a_nil ⟨i, j, by rw [e1, e2], h1, r⟩) hs2) (by rw [hs, hs2]))
theorem i_range3 {tg : Expr} {R : It → Hp → Prop} (B : Blt X.mg X.base) (h : wA X [a, b, c] σ H fun vs H1 => ∃ (i j c : Int) (n : Nat), vs = [.int i, .int j, .int c] ∧ RgC i j c n ∧ R (Itc i c n) H1) (hg : Gl X "range" := by rfl)
    (hs : starEach [a, b, c] X.env = (false, eval a X.env) :: starEach [b, c] X.env := by rfl) (hpl : (backTo pos (starEach [b, c] X.env)).any (·.1) = false := by rfl) : wI X tg (.Call (.Name "range" p) [a, b, c] [] pos) σ H R := eI (pi_range3 hg B.range pA hs hpl) h
theorem i_enum {R : It → Hp → Prop} {elts : List Expr} {kk : Nat} {tpos : Pos} (B : Blt X.mg X.base) (h : wE X e σ H fun v H1 => ∃ a xs, v = .ref a ∧ SqL X.K H1 a xs ∧ R (Ite X.K a) H1) (hg : Gl X "enumerate" := by rfl) (hs : starEach [e] X.env = [(false, eval e X.env)] := by rfl) :
    wI X (.Tuple elts kk tpos) (.Call (.Name "enumerate" p) [e] [] pos) σ H R :=
  eI (pi_enum hg B.enumerate pA hs) (a_cons (wE_mono h fun v H1 ⟨a, xs, e1, h1, r⟩ => a_nil ⟨a, xs, by rw [e1], h1, r⟩) hs)
end

/-! ### built-ins -/
structure cW (X : Cx) (f : Value) (xs : List V) (H : Hp) (Q : VK) : Prop where
  run : ∀ pins s σ us, Inv X pins σ H s → Vals xs us → wpAny (model X.prog X.w) X.A (call f us) (EP X pins σ Q) X.xe s
theorem cR {X : Cx} {f : Value} : CallR X f (cW X f) := fun pins s σ _ _ us _ I r h => h.run pins s σ us I r
theorem cW_of {X : Cx} {f : Value} {r : List V → Hp → VK → Prop} {xs : List V} {H : Hp} {Q : VK} (p : CallR X f r) (h : r xs H Q) : cW X f xs H Q := ⟨fun pins s σ us I rv => p pins s σ H xs us Q I rv h⟩
section
variable {X : Cx} {k : Nat} {W : WX} {σ : L2.St} {H : Hp} {x : Str} {e a b : Expr} {es : List Expr} {p pos : Pos} {Q : VK}
theorem e_B {id : String} (h : wA X (e :: es) σ H fun vs H1 => cW X (.builtin id) vs H1 Q) (hm : X.mg x = none) (hv : bootBuiltins x = some (.builtin id)) (hg : Gl X x := by rfl) (hn : x ≠ "__name__" := by decide) (hdb : (x == ("__debug__" : Str)) = false := by decide)
    (he : starEach (e :: es) X.env = (false, eval e X.env) :: starEach es X.env := by rfl) (hpl : (backTo pos (starEach es X.env)).any (·.1) = false := by rfl) : wE X (.Call (.Name x p) (e :: es) [] pos) σ H Q := eE (pe_callB cR hg hm hv pA hn hdb he hpl) h
theorem e_Ty {T : String} (h : wA X (e :: es) σ H fun vs H1 => cW X (.type T) vs H1 Q) (hm : X.mg x = none) (hv : bootBuiltins x = some (.type T)) (hg : Gl X x := by rfl) (hn : x ≠ "__name__" := by decide) (hdb : (x == ("__debug__" : Str)) = false := by decide)
    (he : starEach (e :: es) X.env = (false, eval e X.env) :: starEach es X.env := by rfl) (hpl : (backTo pos (starEach es X.env)).any (·.1) = false := by rfl) : wE X (.Call (.Name x p) (e :: es) [] pos) σ H Q := eE (pe_callTy cR hg hm hv pA hn hdb he hpl) h
theorem e_len (B : Blt X.mg X.base) (h : wE X a σ H fun x H1 => ∃ n, LenV X.K x H1 n ∧ Q (.int n) H1) (hg : Gl X "len" := by rfl) (hs : starEach [a] X.env = [(false, eval a X.env)] := by rfl) : wE X (.Call (.Name "len" p) [a] [] pos) σ H Q :=
  e_B (id := "len") (a_cons (wE_mono h fun x H1 ⟨n, l, q⟩ => a_nil (cW_of call_len ⟨x, n, rfl, l, q⟩)) hs) B.len PySem.boot_len hg (by decide) (by decide) hs rfl
theorem e_abs (B : Blt X.mg X.base) (h : wE X a σ H fun x H1 => ∃ i, x = .int i ∧ Q (.int (if i < 0 then -i else i)) H1) (hg : Gl X "abs" := by rfl) (hs : starEach [a] X.env = [(false, eval a X.env)] := by rfl) : wE X (.Call (.Name "abs" p) [a] [] pos) σ H Q :=
  e_B (id := "abs") (a_cons (wE_mono h fun x H1 ⟨n, l, q⟩ => a_nil (cW_of call_abs ⟨n, by rw [l], q⟩)) hs) B.abs PyProof.Rows.boot_abs hg (by decide) (by decide) hs rfl
theorem e_int1 (B : Blt X.mg X.base) (h : wE X a σ H fun x H1 => ∃ i, x = .int i ∧ Q (.int i) H1) (hg : Gl X "int" := by rfl) (hs : starEach [a] X.env = [(false, eval a X.env)] := by rfl) : wE X (.Call (.Name "int" p) [a] [] pos) σ H Q :=
  e_Ty (T := "int") (a_cons (wE_mono h fun x H1 ⟨n, l, q⟩ => a_nil (cW_of call_int1 (.inl ⟨n, by rw [l], q⟩))) hs) B.int PyProof.Rows.boot_int hg (by decide) (by decide) hs rfl
theorem e_max2 (C : Cxt X k W) (h : wE X a σ H fun x H1 => wE X b σ H1 fun y H2 => ∃ i j, x = .int i ∧ y = .int j ∧ Q (.int (if j > i then j else i)) H2) (hg : Gl X "max" := by rfl) (hs : starEach [a, b] X.env = (false, eval a X.env) :: starEach [b] X.env := by rfl)
    (hs2 : starEach [b] X.env = [(false, eval b X.env)] := by rfl) : wE X (.Call (.Name "max" p) [a, b] [] pos) σ H Q :=
  e_B (id := "max") (a_cons (wE_mono h fun x H1 q => a_cons (wE_mono q fun y H2 ⟨i, j, e1, e2, q⟩ => a_nil (cW_of (call_max2 C.calm) ⟨i, j, by rw [e1, e2], q⟩)) hs2) hs) C.blt.max PyProof.Rows.boot_max hg (by decide) (by decide) hs (by rw [hs2]; rfl)
theorem e_min2 (C : Cxt X k W) (h : wE X a σ H fun x H1 => wE X b σ H1 fun y H2 => ∃ i j, x = .int i ∧ y = .int j ∧ Q (.int (if j < i then j else i)) H2) (hg : Gl X "min" := by rfl) (hs : starEach [a, b] X.env = (false, eval a X.env) :: starEach [b] X.env := by rfl)
    (hs2 : starEach [b] X.env = [(false, eval b X.env)] := by rfl) : wE X (.Call (.Name "min" p) [a, b] [] pos) σ H Q :=
  e_B (id := "min") (a_cons (wE_mono h fun x H1 q => a_cons (wE_mono q fun y H2 ⟨i, j, e1, e2, q⟩ => a_nil (cW_of (call_min2 C.calm) ⟨i, j, by rw [e1, e2], q⟩)) hs2) hs) C.blt.min PyProof.Rows.boot_min hg (by decide) (by decide) hs (by rw [hs2]; rfl)
theorem e_divmod (B : Blt X.mg X.base) (h : wE X a σ H fun x H1 => wE X b σ H1 fun y H2 => ∃ i j, x = .int i ∧ y = .int j ∧ CDiv i j ∧ ∀ p, H2 p = none → Q (.ref p) (upd H2 p (.tup [.int (i / j), .int (i % j)]))) (hg : Gl X "divmod" := by rfl)
    (hs : starEach [a, b] X.env = (false, eval a X.env) :: starEach [b] X.env := by rfl) (hs2 : starEach [b] X.env = [(false, eval b X.env)] := by rfl) : wE X (.Call (.Name "divmod" p) [a, b] [] pos) σ H Q :=
  e_B (id := "divmod") (a_cons (wE_mono h fun x H1 q => a_cons (wE_mono q fun y H2 ⟨i, j, e1, e2, q⟩ => a_nil (cW_of call_divmod ⟨i, j, by rw [e1, e2], q⟩)) hs2) hs) B.divmod PyProof.Rows.boot_divmod hg (by decide) (by decide) hs (by rw [hs2]; rfl)
theorem e_all (C : Cxt X k W) (h : wE X a σ H fun x H1 => ∃ (q : Addr) (bs : List Bool), x = .ref q ∧ SqL X.K H1 q (bs.map V.bl) ∧ Q (.bl (bs.all id)) H1) (hg : Gl X "all" := by rfl) (hs : starEach [a] X.env = [(false, eval a X.env)] := by rfl) : wE X (.Call (.Name "all" p) [a] [] pos) σ H Q :=
  e_B (id := "all") (a_cons (wE_mono h fun x H1 ⟨n, bs, e1, l, q⟩ => a_nil (cW_of (cr_all C.calm) ⟨n, bs, by rw [e1], l, q⟩)) hs) C.blt.all PyProof.Rows.boot_all hg (by decide) (by decide) hs rfl
theorem e_any (C : Cxt X k W) (h : wE X a σ H fun x H1 => ∃ (q : Addr) (bs : List Bool), x = .ref q ∧ SqL X.K H1 q (bs.map V.bl) ∧ Q (.bl (bs.any id)) H1) (hg : Gl X "any" := by rfl) (hs : starEach [a] X.env = [(false, eval a X.env)] := by rfl) : wE X (.Call (.Name "any" p) [a] [] pos) σ H Q :=
  e_B (id := "any") (a_cons (wE_mono h fun x H1 ⟨n, bs, e1, l, q⟩ => a_nil (cW_of (cr_any C.calm) ⟨n, bs, by rw [e1], l, q⟩)) hs) C.blt.any PyProof.Rows.boot_any hg (by decide) (by decide) hs rfl

/-! ### subscripts, slices, methods -/
/-- v[i], by values -/
structure iW (X : Cx) (x y : V) (H : Hp) (Q : VK) : Prop where
  run : ∀ (value slice : Expr) pins s σ v u, Inv X pins σ H s → RelV x v → RelV y u → subscripted slice false v u = operate [v, u] (getItem v u) → wpAny (model X.prog X.w) X.A (subscriptTail value slice v u) (EP X pins σ Q) X.xe s
theorem e_ix (h : wE X a σ H fun x H1 => wE X b σ H1 fun y H2 => iW X x y H2 Q) (hs : PlainIx b := by exact fun _ _ => rfl) : wE X (.Subscript a b pos) σ H Q :=
  eE (pe_ix (r := iW X) (fun value slice pins s σ _ _ _ v u _ I rx ry h he => h.run value slice pins s σ v u I rx ry he) pE pE hs) h
theorem iW_of {r : R2} {x y : V} (p : IxR X r) (h : r x y H Q) : iW X x y H Q := ⟨fun value slice pins s σ v u I rx ry he => p value slice pins s σ H x y v u Q I rx ry h he⟩
theorem ix_l {q : Addr} {xs : List V} {i : Int} {v : V} (hq : SqL X.K H q xs) (ha : atI xs i = some v) (h : Q v H) : iW X (.ref q) (.int i) H Q := iW_of ix_list ⟨q, xs, i, v, rfl, rfl, hq, ha, h⟩
theorem ix_t {q : Addr} {xs : List V} {i : Int} {v : V} (hq : SqT X.K H q xs) (ha : atI xs i = some v) (h : Q v H) : iW X (.ref q) (.int i) H Q := iW_of ix_tup ⟨q, xs, i, v, rfl, rfl, hq, ha, h⟩
theorem ix_s {z : Str} {i : Int} {c : Nat} (hz : z.length ≤ sizeLine) (ha : atI z.cps.toList i = some c) (h : Q (.str ⟨#[c]⟩) H) : iW X (.str z) (.int i) H Q := iW_of ix_str ⟨z, i, c, rfl, rfl, hz, ha, h⟩
theorem set_l {q : Addr} {xs : List V} {i : Int} {j : Nat} {v : V} {R : Hp → Prop} (hq : H q = some (.lst xs)) (hj : ixN xs.length i = some j) (h : R (upd H q (.lst (xs.set j v)))) : sW X (.ref q) (.int i) v H R := sW_of set_list ⟨q, xs, i, j, rfl, rfl, hq, hj, h⟩
end
end Z

set_option Elab.async false
set_option linter.all false
set_option maxRecDepth 100000
set_option maxHeartbeats 4000000
/-! Data: what a value holds as a whole; none of its lists and dicts among l (those that may change) -/
namespace Z
open PySem PySem.Spec PyProof.Rows L2

/-- all but what stands at l is as it was -/
def But (l : List Addr) (H H' : Hp) : Prop := ∀ q o, q ∉ l → H q = some o → H' q = some o
theorem But.refl {l : List Addr} {H : Hp} : But l H H := fun _ _ _ h => h
theorem But.trans {l : List Addr} {H H1 H2 : Hp} (a : But l H H1) (b : But l H1 H2) : But l H H2 := fun q o n h => b q o n (a q o n h)
theorem But.new {l : List Addr} {H : Hp} {p : Addr} {o : HO} (h : H p = none) : But l H (upd H p o) := fun q u _ e => by rw [upd_ne (ne_of_none e h)]; exact e
theorem But.at {l : List Addr} {H : Hp} {p : Addr} {o : HO} (h : p ∈ l) : But l H (upd H p o) := fun q u n e => by
  have : q ≠ p := fun z => n (z ▸ h)
  rw [upd_ne this]; exact e
theorem But.mono {l m : List Addr} {H H' : Hp} (a : But l H H') (h : ∀ q ∈ l, q ∈ m) : But m H H' := fun q o n e => a q o (fun z => n (h q z)) e
theorem But.of {H H' : Hp} {l : List Addr} (a : But [] H H') : But l H H' := a.mono fun _ h => nomatch h
theorem But.free {H H' : Hp} (a : But [] H H') {p : Addr} (h : H' p = none) : H p = none := by
  cases e : H p with
  | none => rfl
  | some o => rw [a p o (by simp) e] at h; cases h
theorem But.freeL {l : List Addr} {H H' : Hp} (a : But l H H') {p : Addr} (n : p ∉ l) (h : H' p = none) : H p = none := by
  cases e : H p with
  | none => rfl
  | some o => rw [a p o n e] at h; cases h
theorem But.sql {K : PySem.W.Frag} {l : List Addr} {H H' : Hp} {a : Addr} {xs : List V} (b : But l H H') (n : a ∉ l) (h : SqL K H a xs) : SqL K H' a xs := by
  rcases h with (h | ⟨o, h⟩) | h
  · exact .inl (.inl (b _ _ n h))
  · exact .inl (.inr ⟨o, b _ _ n h⟩)
  · exact .inr h
theorem But.sqt {K : PySem.W.Frag} {l : List Addr} {H H' : Hp} {a : Addr} {xs : List V} (b : But l H H') (n : a ∉ l) (h : SqT K H a xs) : SqT K H' a xs := by
  rcases h with (h | ⟨o, h⟩) | h
  · exact .inl (.inl (b _ _ n h))
  · exact .inl (.inr ⟨o, b _ _ n h⟩)
  · exact .inr h

def keyD : Key → PyData
  | .inl i => .int i
  | .inr x => .str x
mutual
inductive DD (K : PySem.W.Frag) (l : List Addr) (H : Hp) : V → PyData → Prop
  | non : DD K l H .non .none
  | bl (b : Bool) : DD K l H (.bl b) (.bool b)
  | int (i : Int) : DD K l H (.int i) (.int i)
  | str (x : Str) : DD K l H (.str x) (.str x)
  | lst {a : Addr} {xs : List V} {ds : List PyData} : SqL K H a xs → a ∉ l → DDs K l H xs ds → DD K l H (.ref a) (.list ds)
  | tup {a : Addr} {xs : List V} {ds : List PyData} : SqT K H a xs → a ∉ l → DDs K l H xs ds → DD K l H (.ref a) (.tuple ds)
  | dct {a : Addr} {kvs : List (Key × V)} {ds : List PyData} : H a = some (.dK kvs) → a ∉ l → DDs K l H (kvs.map (·.2)) ds → DD K l H (.ref a) (.dict ((kvs.map fun q => keyD q.1).zip ds))
inductive DDs (K : PySem.W.Frag) (l : List Addr) (H : Hp) : List V → List PyData → Prop
  | nil : DDs K l H [] []
  | cons {v : V} {vs : List V} {d : PyData} {ds : List PyData} : DD K l H v d → DDs K l H vs ds → DDs K l H (v :: vs) (d :: ds)
end
section
variable {K : PySem.W.Frag} {l m : List Addr} {H H' : Hp}
mutual
theorem DD.but (b : But l H H') : ∀ {v : V} {d : PyData}, DD K l H v d → DD K l H' v d
  | _, _, .non => .non
  | _, _, .bl x => .bl x
  | _, _, .int x => .int x
  | _, _, .str x => .str x
  | _, _, .lst h n r => .lst (b.sql n h) n (DDs.but b r)
  | _, _, .tup h n r => .tup (b.sqt n h) n (DDs.but b r)
  | _, _, .dct h n r => .dct (b _ _ n h) n (DDs.but b r)
theorem DDs.but (b : But l H H') : ∀ {vs : List V} {ds : List PyData}, DDs K l H vs ds → DDs K l H' vs ds
  | _, _, .nil => .nil
  | _, _, .cons h r => .cons (DD.but b h) (DDs.but b r)
end
mutual
theorem DD.less (b : ∀ q ∈ m, q ∈ l) : ∀ {v : V} {d : PyData}, DD K l H v d → DD K m H v d
  | _, _, .non => .non
  | _, _, .bl x => .bl x
  | _, _, .int x => .int x
  | _, _, .str x => .str x
  | _, _, .lst h n r => .lst h (fun z => n (b _ z)) (DDs.less b r)
  | _, _, .tup h n r => .tup h (fun z => n (b _ z)) (DDs.less b r)
  | _, _, .dct h n r => .dct h (fun z => n (b _ z)) (DDs.less b r)
theorem DDs.less (b : ∀ q ∈ m, q ∈ l) : ∀ {vs : List V} {ds : List PyData}, DDs K l H vs ds → DDs K m H vs ds
  | _, _, .nil => .nil
  | _, _, .cons h r => .cons (DD.less b h) (DDs.less b r)
end
theorem DDs.length : ∀ {vs : List V} {ds : List PyData}, DDs K l H vs ds → vs.length = ds.length
  | _, _, .nil => rfl
  | _, _, .cons _ r => congrArg Nat.succ (DDs.length r)
theorem DDs.get : ∀ {vs : List V} {ds : List PyData} {i : Nat} {v : V}, DDs K l H vs ds → vs[i]? = some v → ∃ d, ds[i]? = some d ∧ DD K l H v d
  | _, _, _, _, .nil, h => by simp at h
  | _, _, 0, _, .cons h _, e => by simp at e; subst e; exact ⟨_, rfl, h⟩
  | _, _, i + 1, _, .cons _ r, e => by
    obtain ⟨d, h1, h2⟩ := DDs.get (i := i) r (by simpa using e)
    exact ⟨d, by simpa using h1, h2⟩
theorem DDs.strs : ∀ ys : List Str, DDs K l H (ys.map V.str) (ys.map PyData.str)
  | [] => .nil
  | y :: ys => .cons (.str y) (DDs.strs ys)
theorem DDs.append : ∀ {vs ws : List V} {ds es : List PyData}, DDs K l H vs ds → DDs K l H ws es → DDs K l H (vs ++ ws) (ds ++ es)
  | _, _, _, _, .nil, s => s
  | _, _, _, _, .cons h r, s => .cons h (DDs.append r s)
mutual
theorem DD.dp : ∀ {v : V} {d : PyData}, DD K l H v d → d.hasDict = false → Dp K H v d
  | _, _, .non, _ => .non
  | _, _, .bl x, _ => .bl x
  | _, _, .int x, _ => .int x
  | _, _, .str x, _ => .str x
  | _, _, .lst h n r, e => .lst h (DDs.dp r (by simpa [PyData.hasDict] using e))
  | _, _, .tup h n r, e => .tup h (DDs.dp r (by simpa [PyData.hasDict] using e))
  | _, _, .dct h n r, e => by simp [PyData.hasDict] at e
theorem DDs.dp : ∀ {vs : List V} {ds : List PyData}, DDs K l H vs ds → PyData.hasDictAll ds = false → DpAll K H vs ds
  | _, _, .nil, _ => .nil
  | _, _, .cons h r, e => by
    simp only [PyData.hasDictAll, Bool.or_eq_false_iff] at e
    exact .cons (DD.dp h e.1) (DDs.dp r e.2)
end
end

/-! ### what is read of it -/
theorem keyD_reads {h : Heap} {k : Key} {v : Value} (e : keyIs k v = true) : Reads h v (keyD k) [] := by
  rcases keyIs_shape e with ⟨i, t, rfl, rfl⟩ | ⟨x, t, rfl, rfl⟩
  · exact .int i t
  · exact .str x t
section
variable {X : Cx} {pins : List (Addr × Obj)} {σ : L2.St} {l : List Addr} {H : Hp} {s : Shared}
/-- at sysModules there is no list and no tracked dict -/
abbrev SysFree (X : Cx) : Prop := ∃ o es ep, X.base.get? sysModules = some o ∧ o.data = .dict es ep
theorem sys_noL (Y : SysFree X) (I : Inv X pins σ H s) {a : Addr} {xs : List V} (h : SqL X.K H a xs) : a ≠ sysModules := fun z => by
  subst z
  obtain ⟨o, es, ep, h1, h2⟩ := Y
  obtain ⟨its, rv, ⟨o', n, ho, hc, _, hd⟩, _⟩ := I.list h
  rw [(I.bs _ _ h1).1] at ho
  cases ho
  rw [h2] at hd
  cases hd
theorem sys_noD (Y : SysFree X) (I : Inv X pins σ H s) {a : Addr} {u : HO} (h : H a = some u) : a ≠ sysModules := fun z => by
  subst z
  obtain ⟨o, es, ep, h1, h2⟩ := Y
  rw [(I.bs _ _ h1).2] at h
  cases h
theorem readsAll_keys {P : Program} {w : World} (h : Heap) : ∀ {kvs : List (Key × V)} {vs : List (Key × Value)} {es : List DictEntry}, KV kvs vs → Pairs (mixKind P w) es vs → ReadsAll h (es.map (·.key)) (kvs.map fun q => keyD q.1) []
  | _, _, _, .nil, .nil => .nil
  | _, _, _, .cons r1 r, .cons e1 e2 e => by
    have q := readsAll_keys h r e
    have k1 := keyD_reads (h := h) (show keyIs _ _ = true from e1)
    rw [← r1.1] at k1
    exact ReadsAll.cons k1 q
theorem pairs_vals {P : Program} {w : World} : ∀ {es : List DictEntry} {vs : List (Key × Value)}, Pairs (mixKind P w) es vs → es.map (·.val) = vs.map (·.2)
  | _, _, .nil => rfl
  | _, _, .cons _ e2 e => by rw [List.map_cons, List.map_cons, e2, pairs_vals e]
theorem vals_of {kvs : List (Key × V)} {vs : List (Key × Value)} (r : KV kvs vs) : Vals (kvs.map (·.2)) (vs.map (·.2)) := by
  induction r with
  | nil => exact .nil
  | cons h _ ih => exact .cons h.2 ih
mutual
theorem DD.reads (Y : SysFree X) (I : Inv X pins σ H s) : ∀ {v : V} {d : PyData} {u : Value}, DD X.K l H v d → RelV v u → ∃ as, Reads s.heap u d as ∧ sysModules ∉ as
  | _, _, _, .non, r => by cases r; exact ⟨_, Reads.none, by simp⟩
  | _, _, _, .bl b, r => by cases r; exact ⟨_, Reads.bool b, by simp⟩
  | _, _, _, .int i, r => by obtain ⟨t, rfl⟩ := r; exact ⟨_, Reads.int i t, by simp⟩
  | _, _, _, .str x, r => by obtain ⟨t, rfl⟩ := r; exact ⟨_, Reads.str x t, by simp⟩
  | _, _, _, .lst h n ha, r => by
    cases r
    have ne := sys_noL Y I h
    obtain ⟨its, rv, ⟨o, n, ho, hc, _, hd⟩, _⟩ := I.list h
    obtain ⟨as, hr, na⟩ := DDs.reads Y I ha rv
    exact ⟨_, Reads.list ho hc hd hr, by simp [na, Ne.symm ne]⟩
  | _, _, _, .tup h n ha, r => by
    cases r
    obtain ⟨its, rv, ⟨o, ho, hc, n, hd⟩, _⟩ := I.tuple h
    obtain ⟨as, hr, na⟩ := DDs.reads Y I ha rv
    exact ⟨_, Reads.tuple ho hc hd hr, na⟩
  | _, _, _, .dct (a := a) (kvs := kvs) (ds := ds) h n ha, r => by
    cases r
    have ne := sys_noD Y I h
    obtain ⟨_, _, vs, rk, o, es, ep, ho, hx, hd, _, hp, _⟩ := I.hok a _ h
    have hv := pairs_vals hp
    obtain ⟨as, hr, na⟩ := DDs.reads Y I ha (vals_of rk)
    have hl := DDs.length ha
    refine ⟨_, Reads.dict (as := []) (bs := as) ho hx.1 hd ?_ ?_, by simp [na, Ne.symm ne]⟩
    · rw [List.map_fst_zip (by simpa using Nat.le_of_eq hl)]
      exact readsAll_keys _ rk hp
    · rw [List.map_snd_zip (by simpa using Nat.le_of_eq hl.symm), hv]
      exact hr
theorem DDs.reads (Y : SysFree X) (I : Inv X pins σ H s) : ∀ {vs : List V} {ds : List PyData} {us : List Value}, DDs X.K l H vs ds → Vals vs us → ∃ as, ReadsAll s.heap us ds as ∧ sysModules ∉ as
  | _, _, _, .nil, .nil => ⟨_, ReadsAll.nil, by simp⟩
  | _, _, _, .cons h r, .cons r1 r2 => by
    obtain ⟨as, q1, n1⟩ := DD.reads Y I h r1
    obtain ⟨bs, q2, n2⟩ := DDs.reads Y I r r2
    exact ⟨_, ReadsAll.cons q1 q2, by simp [n1, n2]⟩
end
/-! ### repr -/
theorem call_reprD (Y : SysFree X) (hg : X.A.guards = some []) (hu : X.A.units + 66 < cLine) : CallR X (.builtin "repr") (fun xs H Q => ∃ v l d, xs = [v] ∧ DD X.K l H v d ∧ d.showable = true ∧ d.depth ≤ 64 ∧ d.shown.length ≤ sizeLine ∧ Q (.str d.shown) H) := by
  intro pins s σ H xs us Q I r h
  obtain ⟨v, l, d, rfl, hd, hs, hdp, hz, q⟩ := h
  obtain ⟨u, rfl, r1⟩ := vals1 r
  have fin : ∀ {h' : Heap} {t tk}, (∀ b o, s.heap.get? b = some o → h'.get? b = some o) → EP X pins σ Q (.str d.shown t) { s with heap := h', toks := tk } := fun k => ⟨.str d.shown, H, I.kept k, ⟨_, rfl⟩, q⟩
  cases hd with
  | non =>
    cases r1
    rw [PyData.shown_none] at fin
    exact PySem.P.repr_of_none (fin fun _ _ e => e)
  | bl b =>
    cases r1
    rw [PyData.shown_bool] at fin
    refine PySem.P.repr_of_bool ?_
    have := fin (t := s.toks) (tk := s.toks + 1) (h' := s.heap) fun _ _ e => e
    cases b <;> exact this
  | int i =>
    obtain ⟨t, rfl⟩ := r1
    rw [PyData.shown_int] at fin
    exact PySem.P.repr_of_int (by simpa [PyData.showable] using hs) (fin fun _ _ e => e)
  | str x =>
    obtain ⟨t, rfl⟩ := r1
    rw [PyData.shown_str] at fin hz
    exact PySem.P.repr_of_str (fin fun _ _ e => e) hz
  | @lst a xs ds h1 h2 h3 =>
    obtain rfl : u = Value.ref a := r1
    obtain ⟨as, hr, na⟩ := DD.reads Y I (.lst h1 h2 h3) (u := .ref a) rfl
    exact repr_of_reads' hr hs (fun _ => na) hg (by omega) (fun _ _ e => e) (fun h' u tk k => fin k) hz
  | @tup a xs ds h1 h2 h3 =>
    obtain rfl : u = Value.ref a := r1
    obtain ⟨as, hr, na⟩ := DD.reads Y I (.tup h1 h2 h3) (u := .ref a) rfl
    exact repr_of_reads' hr hs (fun _ => na) hg (by omega) (fun _ _ e => e) (fun h' u tk k => fin k) hz
  | @dct a kvs ds h1 h2 h3 =>
    obtain rfl : u = Value.ref a := r1
    obtain ⟨as, hr, na⟩ := DD.reads Y I (.dct h1 h2 h3) (u := .ref a) rfl
    exact repr_of_reads' hr hs (fun _ => na) hg (by omega) (fun _ _ e => e) (fun h' u tk k => fin k) hz
end
end Z

set_option Elab.async false
set_option linter.all false
set_option maxRecDepth 100000
set_option maxHeartbeats 4000000
namespace Z
open PySem PySem.Spec PyProof.Rows L2

/-! ### repr, isinstance, == of data -/
section
variable {X : Cx} {k : Nat} {W : WX} {σ : L2.St} {H : Hp} {x : Str} {e a b : Expr} {es : List Expr} {p pos : Pos} {Q : VK}
theorem e_repr (B : Blt X.mg X.base) (hg : X.A.guards = some []) (hu : X.A.units + 66 < cLine)
    (h : wE X a σ H fun v H1 => ∃ l d, DD X.K l H1 v d ∧ d.showable = true ∧ d.depth ≤ 64 ∧ d.shown.length ≤ sizeLine ∧ Q (.str d.shown) H1) (hgl : Gl X "repr" := by rfl) (hs : starEach [a] X.env = [(false, eval a X.env)] := by rfl) :
    wE X (.Call (.Name "repr" p) [a] [] pos) σ H Q :=
  e_B (id := "repr") (a_cons (wE_mono h fun v H1 ⟨l, d, h1, h2, h3, h4, q⟩ => a_nil (cW_of (call_reprD B.sys hg hu) ⟨v, l, d, rfl, h1, h2, h3, h4, q⟩)) hs) B.repr PyProof.Rows.boot_repr hgl (by decide) (by decide) hs rfl
theorem Cxt.un (C : Cxt X k W) : X.A.units + 66 < cLine := by have := C.room.un; omega
/-- the name of a data's type -/
def tyD : PyData → String
  | .none => "NoneType" | .bool _ => "bool" | .int _ => "int" | .str _ => "str" | .list _ => "list" | .tuple _ => "tuple" | .dict _ => "dict"
theorem DD.tyx {K : PySem.W.Frag} {l : List Addr} {v : V} {d : PyData} (h : DD K l H v d) : TyX K H v (.type (tyD d)) := by
  cases h with
  | non => exact .base .non
  | bl b => exact .base (.bl b)
  | int i => exact .base (.int i)
  | str x => exact .base (.str x)
  | lst h1 h2 h3 =>
    rcases h1 with (h1 | ⟨o, h1⟩) | ⟨o, its, n, h1, h4, _⟩
    · exact .base (.lst h1)
    · exact .base (.frz h1)
    · exact .kList h1 h4
  | tup h1 h2 h3 =>
    rcases h1 with (h1 | ⟨o, h1⟩) | ⟨o, its, n, h1, h4, _⟩
    · exact .base (.tup h1)
    · exact .fTuple h1
    · exact .kTuple h1 h4
  | dct h1 h2 h3 => exact .base (.dK h1)
def isInt : PyData → Bool | .int _ => true | .bool _ => true | _ => false
def isBool : PyData → Bool | .bool _ => true | _ => false
def isStr : PyData → Bool | .str _ => true | _ => false
def isList : PyData → Bool | .list _ => true | _ => false
def isTuple : PyData → Bool | .tuple _ => true | _ => false
def isDict : PyData → Bool | .dict _ => true | _ => false
theorem kit_int : ∀ d : PyData, kitB (tyD d) "int" = some (isInt d)
  | .none => (by decide +kernel : kitB "NoneType" "int" = some false)
  | .bool _ => (by decide +kernel : kitB "bool" "int" = some true)
  | .int _ => (by decide +kernel : kitB "int" "int" = some true)
  | .str _ => (by decide +kernel : kitB "str" "int" = some false)
  | .list _ => (by decide +kernel : kitB "list" "int" = some false)
  | .tuple _ => (by decide +kernel : kitB "tuple" "int" = some false)
  | .dict _ => (by decide +kernel : kitB "dict" "int" = some false)
theorem kit_bool : ∀ d : PyData, kitB (tyD d) "bool" = some (isBool d)
  | .none => (by decide +kernel : kitB "NoneType" "bool" = some false)
  | .bool _ => (by decide +kernel : kitB "bool" "bool" = some true)
  | .int _ => (by decide +kernel : kitB "int" "bool" = some false)
  | .str _ => (by decide +kernel : kitB "str" "bool" = some false)
  | .list _ => (by decide +kernel : kitB "list" "bool" = some false)
  | .tuple _ => (by decide +kernel : kitB "tuple" "bool" = some false)
  | .dict _ => (by decide +kernel : kitB "dict" "bool" = some false)
theorem kit_str : ∀ d : PyData, kitB (tyD d) "str" = some (isStr d)
  | .none => (by decide +kernel : kitB "NoneType" "str" = some false)
  | .bool _ => (by decide +kernel : kitB "bool" "str" = some false)
  | .int _ => (by decide +kernel : kitB "int" "str" = some false)
  | .str _ => (by decide +kernel : kitB "str" "str" = some true)
  | .list _ => (by decide +kernel : kitB "list" "str" = some false)
  | .tuple _ => (by decide +kernel : kitB "tuple" "str" = some false)
  | .dict _ => (by decide +kernel : kitB "dict" "str" = some false)
theorem kit_list : ∀ d : PyData, kitB (tyD d) "list" = some (isList d)
  | .none => (by decide +kernel : kitB "NoneType" "list" = some false)
  | .bool _ => (by decide +kernel : kitB "bool" "list" = some false)
  | .int _ => (by decide +kernel : kitB "int" "list" = some false)
  | .str _ => (by decide +kernel : kitB "str" "list" = some false)
  | .list _ => (by decide +kernel : kitB "list" "list" = some true)
  | .tuple _ => (by decide +kernel : kitB "tuple" "list" = some false)
  | .dict _ => (by decide +kernel : kitB "dict" "list" = some false)
theorem kit_tuple : ∀ d : PyData, kitB (tyD d) "tuple" = some (isTuple d)
  | .none => (by decide +kernel : kitB "NoneType" "tuple" = some false)
  | .bool _ => (by decide +kernel : kitB "bool" "tuple" = some false)
  | .int _ => (by decide +kernel : kitB "int" "tuple" = some false)
  | .str _ => (by decide +kernel : kitB "str" "tuple" = some false)
  | .list _ => (by decide +kernel : kitB "list" "tuple" = some false)
  | .tuple _ => (by decide +kernel : kitB "tuple" "tuple" = some true)
  | .dict _ => (by decide +kernel : kitB "dict" "tuple" = some false)
theorem kit_dict : ∀ d : PyData, kitB (tyD d) "dict" = some (isDict d)
  | .none => (by decide +kernel : kitB "NoneType" "dict" = some false)
  | .bool _ => (by decide +kernel : kitB "bool" "dict" = some false)
  | .int _ => (by decide +kernel : kitB "int" "dict" = some false)
  | .str _ => (by decide +kernel : kitB "str" "dict" = some false)
  | .list _ => (by decide +kernel : kitB "list" "dict" = some false)
  | .tuple _ => (by decide +kernel : kitB "tuple" "dict" = some false)
  | .dict _ => (by decide +kernel : kitB "dict" "dict" = some true)
/-- isinstance(a, T), T a built-in type -/
theorem e_isi {T : Str} {n : String} {r : PyData → Bool} (B : Blt X.mg X.base) (hk : ∀ d, kitB (tyD d) n = some (r d)) (hT : X.mg T = none) (hv : bootBuiltins T = some (.type n))
    (h : wE X a σ H fun v H1 => ∃ l d, DD X.K l H1 v d ∧ Q (.bl (r d)) H1) {pT : Pos} (hgT : Gl X T := by rfl) (hnT : T ≠ "__name__" := by decide) (hdT : (T == ("__debug__" : Str)) = false := by decide) (hgl : Gl X "isinstance" := by rfl)
    (hs : starEach [a, .Name T pT] X.env = (false, eval a X.env) :: starEach [.Name T pT] X.env := by rfl) (hs2 : starEach [.Name T pT] X.env = [(false, eval (.Name T pT) X.env)] := by rfl) :
    wE X (.Call (.Name "isinstance" p) [a, .Name T pT] [] pos) σ H Q :=
  e_B (id := "isinstance") (a_cons (wE_mono h fun v H1 ⟨l, d, h1, q⟩ => a_cons (e_blt (v := .ty n) (a_nil (cW_of call_isi ⟨v, .ty n, _, _, r d, rfl, .ty n, h1.tyx, kit_ty (hk d), q⟩)) hT hv rfl hgT hnT hdT) hs2) hs)
    B.isinstance PyProof.Rows.boot_isinstance hgl (by decide) (by decide) hs (by rw [hs2]; rfl)
/-- isinstance(a, (T, U)), two built-in types -/
theorem e_isi2 {T U : Str} {n m : String} {r : PyData → Bool} {r' : PyData → Bool} (B : Blt X.mg X.base) (hk : ∀ d, kitB (tyD d) n = some (r d)) (hk' : ∀ d, kitB (tyD d) m = some (r' d)) (hT : X.mg T = none) (hv : bootBuiltins T = some (.type n)) (hU : X.mg U = none) (hv' : bootBuiltins U = some (.type m))
    {pT pU pt : Pos} {kt} (h : wE X a σ H fun v H1 => ∃ l d, DD X.K l H1 v d ∧ ∀ H2, But [] H1 H2 → Q (.bl (r d || r' d)) H2) (hgT : Gl X T := by rfl) (hnT : T ≠ "__name__" := by decide) (hdT : (T == ("__debug__" : Str)) = false := by decide) (hgU : Gl X U := by rfl) (hnU : U ≠ "__name__" := by decide) (hdU : (U == ("__debug__" : Str)) = false := by decide) (hgl : Gl X "isinstance" := by rfl)
    (hs : starEach [a, .Tuple [.Name T pT, .Name U pU] kt pt] X.env = (false, eval a X.env) :: starEach [.Tuple [.Name T pT, .Name U pU] kt pt] X.env := by rfl) (hs2 : starEach [.Tuple [.Name T pT, .Name U pU] kt pt] X.env = [(false, eval (.Tuple [.Name T pT, .Name U pU] kt pt) X.env)] := by rfl)
    (hs3 : starEach [.Name T pT, .Name U pU] X.env = (false, eval (.Name T pT) X.env) :: starEach [.Name U pU] X.env := by rfl) (hs4 : starEach [.Name U pU] X.env = [(false, eval (.Name U pU) X.env)] := by rfl) :
    wE X (.Call (.Name "isinstance" p) [a, .Tuple [.Name T pT, .Name U pU] kt pt] [] pos) σ H Q := by
  refine e_B (id := "isinstance") (a_cons (wE_mono h fun v H1 ⟨l, d, h1, q⟩ => a_cons (e_tup (a_cons (e_blt (v := .ty n) (a_cons (e_blt (v := .ty m) (a_nil ⟨by show 2 ≤ sizeLine; decide, fun t ht => ?_⟩) hU hv' rfl hgU hnU hdU) hs4) hT hv rfl hgT hnT hdT) hs3)) hs2) hs)
    B.isinstance PyProof.Rows.boot_isinstance hgl (by decide) (by decide) hs (by rw [hs2]; rfl)
  refine a_nil (cW_of call_isiT ⟨v, t, [.ty n, .ty m], _, [.type n, .type m], r d || r' d, rfl, upd_same, .cons (.ty n) (.cons (.ty m) .nil), (h1.but (But.new ht)).tyx, ?_, q _ (But.new ht)⟩)
  refine kitAny_cons (kit_ty (hk d)) (fun e1 => ?_) fun e1 => by rw [e1]; rfl
  rw [e1, Bool.false_or]
  exact kitAny_cons (kit_ty (hk' d)) (fun e2 => by rw [e2]; rfl) fun e2 => e2
/-- a == b, a != b: data without dicts, as the library tells it -/
theorem c_eqD {y z : V} {l m : List Addr} {d f : PyData} (C : Cxt X k W) (h1 : DD X.K l H y d) (h2 : DD X.K m H z f) (n1 : SeqAt.shaped d = true) (n2 : SeqAt.shaped f = true) (q : Q (.bl (PyData.eqv d f)) H) : oW X (compareOp .Eq) y z H Q :=
  oW_of (op_eqD C.room.units) ⟨d, f, h1.dp (PyData.hasDict_of_canLay d (SeqAt.canLay_of_shaped n1)), h2.dp (PyData.hasDict_of_canLay f (SeqAt.canLay_of_shaped n2)), n1, n2, q⟩
theorem c_neD {y z : V} {l m : List Addr} {d f : PyData} (C : Cxt X k W) (h1 : DD X.K l H y d) (h2 : DD X.K m H z f) (n1 : SeqAt.shaped d = true) (n2 : SeqAt.shaped f = true) (q : Q (.bl (!PyData.eqv d f)) H) : oW X (compareOp .NotEq) y z H Q :=
  oW_of (op_neD C.room.units) ⟨d, f, h1.dp (PyData.hasDict_of_canLay d (SeqAt.canLay_of_shaped n1)), h2.dp (PyData.hasDict_of_canLay f (SeqAt.canLay_of_shaped n2)), n1, n2, q⟩
end

/-! ### own errors over LineError: one field -/
/-- what the head tells of an error class: it stands at C under the name x -/
structure Err1 (K : PySem.W.Frag) (mg : Str → Option Value) (x f : Str) (C : Addr) (st : Stmt) : Prop where
  gC : mg x = some (.ref C)
  oex : OexC K C
  init : ∃ fI oc od kV doc pm an cdv ct osl, PySem.W.findIn K (.ref C) "__init__" = some (some (.ref fI)) ∧ PySem.W.typeIn K (.ref fI) = some (.type "function") ∧
    K.lookup fI = some ⟨oc, od, .func (PySem.W.fnOf "__init__" (x ++ ".__init__") (defArgs st) (defBody st) (defScope st) .none kV doc pm an cdv ct), osl⟩ ∧ PySem.W.codeIn K cdv (x ++ ".__init__") = true
  no : PySem.W.findIn K (.ref C) f = some none
  xf : XfC K C
  kc : PySem.W.typeIn K (.ref C) = some (.type "type")
/-- the base class LineError, whose __init__ is ValueError's -/
structure Base0 (K : PySem.W.Frag) (mg : Str → Option Value) (b : Str) : Prop where
  ex : ∃ CB, mg b = some (.ref CB) ∧ PySem.W.readsIn K CB (.type "type") = true ∧ PySem.W.specialIn K (.ref CB) "__getattribute__" = some (some (.builtin "type.__getattribute__")) ∧
    PySem.W.findCls K (.ref CB) (.type "type") "__init__" = some (.val (.builtin "ValueError.__init__"))
section
variable {X : Cx} {σ : L2.St} {H : Hp} {Q : VK} {e : Expr} {es : List Expr} {p1 p2 pos : Pos} {b : Str}
theorem e_baseInit {pl : Sem Bool} (B : Base0 X.K X.mg b) (h : wA X (e :: es) σ H fun vs H1 => ∃ (a C : Addr) (ws : List V), vs = .ref a :: ws ∧ ws.length ≤ 1000 ∧ OexC X.K C ∧ H1 a = some (exo a C none) ∧ Q .non H1) (hg : Gl X b) (hdb : (b == ("__debug__" : Str)) = false)
    (hc : eval (.Call (.Attribute (.Name b p1) "__init__" p2) (e :: es) [] pos) X.env = (do
      let ov ← eval (.Name b p1) X.env
      standAt p2.atName
      let (f, first) ← holding [ov] (getMethod ov "__init__" pl)
      callWith pos f first (backTo pos (starEach (e :: es) X.env)) (backToKw pos (keywordEach [] X.env))))
    (he : starEach (e :: es) X.env = (false, eval e X.env) :: starEach es X.env := by rfl) (hpl : (backTo pos (starEach es X.env)).any (·.1) = false := by rfl) :
    wE X (.Call (.Attribute (.Name b p1) "__init__" p2) (e :: es) [] pos) σ H Q := by
  obtain ⟨CB, hm, rd, ga, fc⟩ := B.ex
  refine ⟨fun pins s I => ?_⟩
  refine PySem.W.methodCall_KW (ld_glob I hg hm ?_ hdb) hc
  refine PySem.W.method_cls I.kIn ga (PySem.W.cls_value I.kIn rd fc rfl ?_)
  show wpAny _ _ (callWith pos (Value.builtin "ValueError.__init__") [] (backTo pos (starEach (e :: es) X.env)) []) _ _ _
  refine PyProof.Rows.callWith_method1 (thn (h.run pos pins _ (I.tok _)) fun us s1 ⟨vs, H1, I1, r1, a, C, ws, ev, hl, T, ea, q⟩ => ?_) he hpl
  subst ev
  cases r1 with
  | @cons _ u0 _ ur ra rw' =>
    obtain rfl : u0 = Value.ref a := ra
    have hlen : ur.length ≤ sizeLine := by
      rw [← Paired.length rw', sizeLine_eq]
      omega
    exact oinit_ok T I1 ea hlen fun s' J => ⟨.non, H1, J, rfl, q⟩
end
/-- what an error's __init__ promises -/
def spInit1 (K : PySem.W.Frag) (f : Str) : Sp := fun vs H Q _ => ∃ (a C : Addr) (v : V), vs = [.ref a, v] ∧ OexC K C ∧ PySem.W.findIn K (.ref C) f = some none ∧ H a = some (exo a C none) ∧
  ∀ dx, H dx = none → dx ≠ a → Q .non (upd (upd H dx (exd dx [(f, v)])) a (exo a C (some dx)))
section
variable {P : Program} {w : World} {K : PySem.W.Frag} {mg : Str → Option Value} {base : Heap}
theorem init1_ok {x b f txt : Str} {st : Stmt} {fI : Addr} {oc kV doc pm cdv ct : Value} {od an : Option Addr} {osl : Array (Option Value)} {p1 p2 p3 p4 p5 p6 p7 p8 p9 p10 : Pos} {j : Nat} (B : Base0 K mg b)
    (lk : K.lookup fI = some ⟨oc, od, .func (PySem.W.fnOf "__init__" x (defArgs st) (defBody st) (defScope st) .none kV doc pm an cdv ct), osl⟩) (hcd : PySem.W.codeIn K cdv x = true)
    (S : FnScope ["self", f] ["self", f] (defScope st))
    (hb : defBody st = [.Expr (.Call (.Attribute (.Name b p1) "__init__" p2) [.Name "self" p3, .Constant (.str txt) j p4] [] p5) p6, .Assign [.Attribute (.Name "self" p7) f p8] (.Name f p9) p10])
    (hs : (defScope st).names.lookup ("self" : Str) = some .local) (hf : (defScope st).names.lookup f = some .local) (hg : (defScope st).names.lookup b = some .globalImplicit) (hdb : (b == ("__debug__" : Str)) = false) (hdf : (f == ("__debug__" : Str)) = false) (hdf2 : (f == ("__classdict__" : Str)) = false)
    (hc : ∀ env : Env, env.scope = defScope st → ∃ pl, eval (.Call (.Attribute (.Name b p1) "__init__" p2) [.Name "self" p3, .Constant (.str txt) j p4] [] p5) env = (do
      let ov ← eval (.Name b p1) env
      standAt p2.atName
      let (f, first) ← holding [ov] (getMethod ov "__init__" pl)
      callWith p5 f first (backTo p5 (starEach [.Name "self" p3, .Constant (.str txt) j p4] env)) (backToKw p5 (keywordEach [] env))))
    (hsw : ∀ env : Env, env.scope = defScope st → swapsWith (.Name f p9) (some (.Attribute (.Name "self" p7) f p8)) p10.line env = pure false)
    (hsw2 : ∀ env : Env, env.scope = defScope st → swapsWith (.Call (.Attribute (.Name b p1) "__init__" p2) [.Name "self" p3, .Constant (.str txt) j p4] [] p5) none p6.line env = pure false) :
    FnOk P w K mg base (L2.CX P w) 1 fI (PySem.W.fnOf "__init__" x (defArgs st) (defBody st) (defScope st) .none kV doc pm an cdv ct) ["self", f] (spInit1 K f) := by
  refine fn_of lk hcd S (fun vs H Q E h => ?_) fun A outer s H vs Q E hr h => ⟨wB _ (defBody st), pB, ?_⟩
  · obtain ⟨a, C, v, rfl, _⟩ := h
    rfl
  · obtain ⟨a, C, v, rfl, T, hno, ha, q⟩ := h
    rw [hb]
    obtain ⟨pl, hcc⟩ := hc (envOfC x (defScope st) s.heap.objs.size fI cdv) rfl
    refine b_cons (s_expr (e_baseInit (pl := pl) B ?_ hg hdb hcc) (hsw2 _ rfl))
    refine a_cons (e_name 0 (a_cons (e_str (a_nil ⟨a, C, _, rfl, by simp, T, ha, ?_⟩))) rfl rfl (.inl hs))
    refine b_cons (eS (ps_ost (pE (e := .Name "self" p7)) pE (hsw _ rfl)) ?_)
    refine e_name 1 ?_ rfl rfl (.inl hf) hdf hdf2
    refine e_name 0 ?_ rfl rfl (.inl hs)
    exact ⟨a, C, rfl, T, hno, .inl ⟨ha, fun dx n ne => b_nil (q dx n ne)⟩⟩
end
end Z

set_option Elab.async false
set_option linter.all false
set_option maxRecDepth 100000
set_option maxHeartbeats 4000000
/-! raise and try with own errors of one field -/
namespace Z
open PySem PySem.Spec PyProof.Rows L2

/-- an error class of one field, its __init__ proved -/
structure ErrOk (P : Program) (w : World) (K : PySem.W.Frag) (mg : Str → Option Value) (base : Heap) (x f : Str) (C : Addr) : Prop where
  gC : mg x = some (.ref C)
  oex : OexC K C
  no : PySem.W.findIn K (.ref C) f = some none
  xf : XfC K C
  ex : ∃ fI fd, PySem.W.findIn K (.ref C) "__init__" = some (some (.ref fI)) ∧ PySem.W.typeIn K (.ref fI) = some (.type "function") ∧ FnOk P w K mg base (L2.CX P w) 1 fI fd ["self", f] (spInit1 K f) ∧ Binds K fd ["self", f] []
section
variable {X : Cx} {k : Nat} {W : WX} {σ : L2.St} {H : Hp} {x f : Str} {e : Expr} {C : Addr} {p1 p2 pos : Pos} {D : Ends}
/-- raise X(v) -/
theorem s_raise1 (Cc : Cxt X k W) (E : ErrOk X.prog X.w X.K X.mg X.base x f C) (hr : 2 ≤ k)
    (h : wE X e σ H fun v H1 => ∀ d H', But [] H1 H' → H1 d = none → H' d = some (.xd [(f, v)]) → W (.ref C) (some d) σ H')
    (hg : Gl X x := by rfl) (hdb : (x == ("__debug__" : Str)) = false := by decide) (he : starEach [e] X.env = [(false, eval e X.env)] := by rfl) : wS X (.Raise (some (.Call (.Name x p1) [e] [] p2)) none pos) D σ H := by
  obtain ⟨fI, fd, iC, tI, F, hb⟩ := E.ex
  have hx : Passes (L2.CX X.prog X.w) X (fun _ _ _ => False) := fun pins σ H s e s' I c => passes_call Cc.tk (fun cls d σ' H' z => z.elim) pins σ H s e s' I c
  refine eS (ps_raise Cc.calm Cc.tk (pmk_oex E.oex iC tI F (Cc.room.mono hr) hb .nil hx hg E.gC pA hdb he rfl)) ?_
  refine a_cons (wE_mono h fun v H1 q => a_nil ⟨by simp, fun a ha => ?_⟩) he
  refine ⟨a, C, v, rfl, E.oex, E.no, upd_same, fun dx hd ne => ⟨rfl, dx, [(f, v)], upd_same, by rw [upd_ne ne, upd_same], ?_, ?_⟩⟩
  · rw [upd_ne ne] at hd
    exact hd
  · have hd' : H1 dx = none := by rw [upd_ne ne] at hd; exact hd
    refine q dx _ (fun b o _ hbo => ?_) hd' upd_same
    have nb : b ≠ a := ne_of_none hbo ha
    have nb2 : b ≠ dx := ne_of_none hbo hd'
    rw [upd_ne nb2, del_ne nb, upd_ne nb, upd_ne nb2, upd_ne nb]
    exact hbo
end

/-! ### several clauses, each with its name -/
abbrev Cl := Value × Nat × List Stmt
def wHd (X : Cx) (Wout : WX) (D : Ends) : List Cl → WX
  | [] => Wout
  | (c, i, sts) :: r => fun cls d σ H => ∃ b, PySem.W.exmOne X.K cls c = some b ∧
      (b = true → ∀ (a : Addr) (oe : Obj) (pn : List (Addr × Obj)), Zc cls d oe → (∃ vs, oe.data = .fields vs) → H a = none →
        wB (X.suite a ((a, oe) :: pn)) sts { nx := fun σ' H' => D.nx (σ'.set i none) H', rt := D.rt, bk := fun σ' H' => D.bk (σ'.set i none) H', ct := fun σ' H' => D.ct (σ'.set i none) H' } (σ.set i (some (.ref a))) H) ∧
      (b = false → wHd X Wout D r cls d σ H)
inductive HdsAs (X : Cx) : List ExceptHandler → List Cl → Prop
  | nil : HdsAs X [] []
  | cons {x n : Str} {c : Value} {i : Nat} {b₀ : Stmt} {suite : List Stmt} {np pos' : Pos} {hds : List ExceptHandler} {l : List Cl} (hc : Names X x c) (hi : X.N[i]? = some n) (hln : X.env.kindOf n = some .local) (r : HdsAs X hds l) :
      HdsAs X (.ExceptHandler (some (.Name x np)) (some n) (b₀ :: suite) pos' :: hds) ((c, i, b₀ :: suite) :: l)
section
variable {X : Cx} {k : Nat} {W : WX} {σ : L2.St} {H : Hp} {body : List Stmt} {h₀ : ExceptHandler} {hds : List ExceptHandler} {l : List Cl} {pos : Pos} {D : Ends}
theorem s_try (C : Cxt X k W) (hh : HdsAs X (h₀ :: hds) l) (h : ∀ pn xe, Cxt (X.tr pn xe) k (wHd X W D l) → wB (X.tr pn xe) body D σ H) (hs : X.stack = X.env :: X.outer := by rfl) (hf : X.env.frame = some X.env.locals := by rfl) : wS X (.Try body (h₀ :: hds) [] [] pos) D σ H := by
  refine ⟨fun pins s I => ?_⟩
  have ok := I.ok
  have hfr : X.A.frames = some (X.env :: X.outer) := by rw [ok.frames, hs]
  refine wpAny_Try_except ?_
  refine wpAny_mono ((h (X.pn ++ pins) (fun e s₁ => wpAny (model X.prog X.w) X.A (noteFrame e X.env) (fun _ s₂ => wpAny (model X.prog X.w) X.A (setFlight e none) (fun _ s₃ =>
    wpAny (model X.prog X.w) X.A (handleBy e X.env (h₀ :: hds)) (SP X pins D) X.xe s₃) X.xe s₂) X.xe s₁) ⟨C.room, C.calm, C.nd, C.blt, PassesOwn.looking, fun u s' xx => ?_⟩).run [] s (I.toTry _)) (fun f s1 hsp => ?_) (fun e s1 he => he)
  · obtain ⟨a, B, sI, pins', σ', H', cls, d, rfl, J', nb, up, sky, na, os, ag, w⟩ := xx
    have J : Inv X pins σ' H' sI := J'.ofTry ok
    have sky' : Sky B (X.env :: X.outer) a (Zc cls d) X.env.locals s'.heap := by rw [← hs]; exact sky
    show wpAny (model X.prog X.w) X.A (noteFrame (.ref a) X.env) _ _ _
    refine Sky.land Zc.steady hfr hf sky' fun h3 fl3 up3 => ?_
    have J3 : Inv X pins σ' H' { s' with heap := h3 } := J.landed nb fl3.1 (up.trans up3) os ag
    obtain ⟨oe3, vs3, he3, hz3, hd3⟩ := fl3.there
    have notFr : ∀ {h : Heap} {o : Obj} {vs : Array Value}, h.FunFrames B (X.env :: X.outer) → h.get? a = some o → o.data = .fields vs → a ∉ frs (X.env :: X.outer) := fun {h o vs} ff e dd hm => by
      obtain ⟨_, o', e', hnf⟩ := ff.mem hm
      rw [e] at e'; cases e'
      exact hnf _ dd
    have nfr := notFr fl3.2.2.1 he3 hd3
    have nL : a ≠ X.env.locals := fun z => nfr (List.mem_filterMap.mpr ⟨X.env, List.mem_cons_self, by rw [hf, z]⟩)
    have nF : a ∉ X.fs := fun hm => by
      obtain ⟨e, he, q⟩ := List.mem_filterMap.mp hm
      exact nfr (List.mem_filterMap.mpr ⟨e, List.mem_cons_of_mem _ he, q⟩)
    have S3 := J3.suite he3 hd3 na nL nF
    have go : ∀ {hds' : List ExceptHandler} {l' : List Cl}, HdsAs X hds' l' → wHd X W D l' cls d σ' H' →
        wpAny (model X.prog X.w) X.A (handleBy (.ref a) X.env hds') (SP X pins D) X.xe { s' with heap := h3 } := by
      intro hds' l' hk
      induction hk with
      | nil =>
        intro w
        refine wpAny_handleBy_nil ?_
        obtain ⟨k1, k2, k3, oe, vs, T, oT, ts', he, hz, hd, h1, hr⟩ := id fl3
        unfold PySem.passOn
        refine wpAny_bind (wpAny_field he hd h1 ?_)
        rw [if_neg (show ¬ ((Value.ref T == Value.none) = true) from by simp)]
        have fin : wpAny (model X.prog X.w) X.A (setFlight (.ref a) X.env.frame) (fun _ s4 => wpAny (model X.prog X.w) X.A (throw (.ref a) : Sem Flow) (SP X pins D) X.xe s4) X.xe { s' with heap := h3 } := by
          rw [hf]
          refine HandSPX.setFlight_upZ fl3 fun h4 hh4 up4 => wpAny_throw (C.tk _ _ ?_)
          exact ⟨a, B, sI, pins, σ', H', cls, d, rfl, J, nb, (up.trans up3).trans up4, .inr (.inr (by rw [hs]; exact hh4)), na, os, ag, w⟩
        first
          | exact wpAny_bind (wpAny_pure (wpAny_bind fin))
          | exact wpAny_bind fin
      | @cons x n c i b₀ suite np pos' hds2 l2 hc hi hln r ih =>
        intro w
        obtain ⟨b, hb1, hyes, hno⟩ := w
        refine wpAny_handleBy_cons (codeAny_handlers_test ?_) (by intro q; cases q)
        have LT : PySem.W.Looks (model X.prog X.w) h3 (typeOf (.ref a)) cls := fun A Q E s k q => wpAny_typeOf_ref (k _ _ he3) (by rw [hz3.1]; exact q)
        have LM := PySem.W.exm_one (M := model X.prog X.w) (J3.kIn) LT hb1
        have test : ∀ {Q : Value → Shared → Prop} {E : Value → Shared → Prop}, Q c { s' with heap := h3 } → wpAny (model X.prog X.w) (X.A.mark (some (.ref a))) (eval (.Name x np) X.env) Q E { s' with heap := h3 } := fun {Q E} q => by
          obtain ⟨hg, hdbg, hm | ⟨hm, hv, hnn⟩⟩ := hc
          · exact ld_glob (X := X.suite a ((a, oe3) :: (X.pn ++ pins))) S3 hg hm q hdbg
          · exact ld_blt (X := X.suite a ((a, oe3) :: (X.pn ++ pins))) S3 hg hm hv q hnn hdbg
        refine test (LM.here ?_)
        cases b with
        | true =>
          refine codeAny_handlers_suite_as ?_
          refine HandSPX.lands_againZ fl3 fun h4 fl4 up4 => ?_
          have J4 : Inv X pins σ' H' { s' with heap := h4 } := J.landed nb fl4.1 ((up.trans up3).trans up4) os ag
          obtain ⟨oe4, vs4, he4, hz4, hd4⟩ := fl4.there
          have S4 := J4.suite he4 hd4 na nL nF
          have hloc : Loc X.env.scope n := .inl hln
          refine store_ok (X := X.suite a ((a, oe4) :: (X.pn ++ pins))) (v := .ref a) S4 C.nd hi hloc rfl (fun s5 S5 => ?_) (.inr hln)
          refine wpAny_mono ((hyes rfl a oe4 (X.pn ++ pins) hz4 ⟨_, hd4⟩ na).run [] s5 S5) (fun f s6 hsp => ?_) (fun _ _ z => False.elim z)
          have end_ : ∀ {σ6 : L2.St} {H6 : Hp} {Q : Shared → Prop}, Inv (X.suite a ((a, oe4) :: (X.pn ++ pins))) [] σ6 H6 s6 → (∀ s7, Inv X pins (σ6.set i none) H6 s7 → Q s7) →
              wpAny (model X.prog X.w) X.A (do bindName X.env n .none; unbindBehindTheSuite X.env n pos') (fun _ s7 => Q s7) X.xe s6 := fun {σ6 H6 Q} S6 hq => gone_ok (S6.unsuite ok) C.nd hi hln hq
          cases f with
          | next =>
            obtain ⟨σ6, H6, S6, q6⟩ := hsp
            exact end_ S6 fun s7 J7 => ⟨_, _, J7, q6⟩
          | brk =>
            obtain ⟨σ6, H6, S6, q6⟩ := hsp
            exact end_ S6 fun s7 J7 => ⟨_, _, J7, q6⟩
          | cont =>
            obtain ⟨σ6, H6, S6, q6⟩ := hsp
            exact end_ S6 fun s7 J7 => ⟨_, _, J7, q6⟩
          | ret u =>
            obtain ⟨v6, σ6, H6, S6, r6, q6⟩ := hsp
            exact end_ S6 fun s7 J7 => ⟨_, _, _, J7, r6, q6⟩
        | false =>
          show wpAny _ X.A (handleBy (.ref a) X.env hds2) _ _ _
          exact ih (hno rfl)
    exact go hh w
  · cases f with
    | next =>
      obtain ⟨σ', H', J', q⟩ := hsp
      exact wpAny_execs_nil ⟨σ', H', J'.ofTry ok, q⟩
    | brk =>
      obtain ⟨σ', H', J', q⟩ := hsp
      exact ⟨σ', H', J'.ofTry ok, q⟩
    | cont =>
      obtain ⟨σ', H', J', q⟩ := hsp
      exact ⟨σ', H', J'.ofTry ok, q⟩
    | ret u =>
      obtain ⟨v, σ', H', J', r, q⟩ := hsp
      exact ⟨v, σ', H', J'.ofTry ok, r, q⟩
end

/-! ### within a suite -/
section
variable {X : Cx} {σ : L2.St} {H : Hp} {a CE dd : Addr} {oe : Obj} {pn : List (Addr × Obj)} {e : Expr} {pos p : Pos} {f : Str} {Q : VK}
/-- e.f -/
theorem e_xf {v : V} (T : XfC X.K CE) (hno : PySem.W.findIn X.K (.ref CE) f = some none) (hz : Zc (.ref CE) (some dd) oe) (hf : ∃ vs, oe.data = .fields vs)
    (h : wE (X.suite a ((a, oe) :: pn)) e σ H fun x H1 => x = .ref a ∧ H1 dd = some (.xd [(f, v)]) ∧ Q v H1) (hb : attributeBase e f X.env (eval e X.env) = eval e X.env := by rfl) :
    wE (X.suite a ((a, oe) :: pn)) (.Attribute e f pos) σ H Q := by
  refine ⟨fun pins s I => ?_⟩
  refine attr_of hb (thn (h.run pins s I) fun u s1 hh => ?_)
  obtain ⟨x, H1, I1, rx, ex, ea, q⟩ := hh
  subst ex
  obtain rfl : u = Value.ref a := rx
  obtain ⟨ha, _⟩ := I1.pin (a, oe) (List.mem_append_left _ List.mem_cons_self)
  obtain ⟨vs, hd⟩ := hf
  obtain ⟨mA, hns, hr⟩ := (show ObjOk X.prog X.w H1 s1.heap dd (.xd [(f, v)]) from I1.hok dd _ ea)
  obtain ⟨od, ho, hl⟩ := lookIn_ns hns
  obtain ⟨u, hu, ru⟩ := RelO.some_of (v := v) (o := mA f) (by have := hr f; simpa using this)
  have J : PySem.W.InstAt s1.heap a oe CE (some od) := ⟨ha, hz.1, by unfold PySem.W.notCls; rw [hd] <;> rfl, by rw [hz.2]; exact ho⟩
  exact HandSPX.exc_get I1.kIn J T.ga T.gg T.exC (PySem.W.findObj_own T.hdC hno rfl (by rw [hl, hu])) (handed_of ru) ⟨v, H1, I1.tok _, ru, q⟩
/-- isinstance(e, c) of the caught error, whose fields are kept in dd -/
theorem c_isX {c : V} {cv : Value} {b : Bool} {fs : List (Str × V)} (T : ExcC X.K CE) (hz : Zc (.ref CE) (some dd) oe) (hf : ∃ vs, oe.data = .fields vs) (hcv : ∀ u, RelV c u → u = cv) (e1 : PySem.W.kitOne X.K (.ref CE) cv = some b) (hx : H dd = some (.xd fs)) (q : Q (.bl b) H) :
    cW (X.suite a ((a, oe) :: pn)) (.builtin "isinstance") [.ref a, c] H Q := by
  refine ⟨fun pins s σ us I r => ?_⟩
  cases r with
  | cons rx rr =>
    cases rr with
    | cons rt rr =>
      cases rr
      cases rx
      have ec := hcv _ rt
      subst ec
      obtain ⟨hget, _⟩ := I.pin (a, oe) (List.mem_append.mpr (.inl List.mem_cons_self))
      obtain ⟨vs, hv⟩ := hf
      obtain ⟨mA, hns, hr⟩ := (show ObjOk X.prog X.w H s.heap dd (.xd fs) from I.hok dd _ hx)
      obtain ⟨od, ho, hl⟩ := lookIn_ns hns
      have J : PySem.W.InstAt s.heap a oe CE (some od) := ⟨hget, hz.1, by unfold PySem.W.notCls; rw [hv] <;> rfl, by rw [hz.2]; exact ho⟩
      exact PySem.W.kia_one (PySem.W.kitx_exc (by obtain ⟨cd, hc, _⟩ := PySem.W.any_some T.hd; rw [hc]; rfl) T.hg T.hk T.hs T.ha T.hn T.ht T.hm) I.kIn J e1 (fun z => nomatch z) fun tk => ⟨.bl b, H, I.kept (t' := tk) fun _ _ z => z, rfl, q⟩
end
end Z

set_option Elab.async false
set_option linter.all false
set_option maxRecDepth 100000
set_option maxHeartbeats 4000000
/-! a lambda without parameters handed to a def that calls it -/
namespace Z
open PySem PySem.Spec PyProof.Rows L2 LamX
section
variable {X : Cx} {pins : List (Addr × Obj)} {σ : L2.St} {H : Hp} {s : Shared} {k : Nat} {W : WX}
theorem Cxt.lam {A : Around} {outer : List Env} {E : XK} {scope : Scope} {f c' : Addr} (C : Cxt X k W) {j : Nat} (hr : Room j (A.deeper (lamEnv X scope s.heap.objs.size f c'))) :
    Cxt (lamCx X A outer s H E scope f c') j (fun cls d _ H' => E cls d H') :=
  ⟨hr, rfl, C.nd, C.blt, passes_of rfl, takes_of rfl rfl rfl rfl⟩
/-- the context of the def that got the lambda -/
abbrev hX (X : Cx) (N : List Str) (x : Str) (st : Stmt) (g : Addr) (cdg : Value) (s : Shared) (H : Hp) (E : XK) : Cx := bX X.prog X.w X.K X.mg X.base N x st g cdg X.A X.stack s H E
/-- the lambda is called -/
theorem e_act {Ng : List Str} {x a : Str} {st : Stmt} {g f c' : Addr} {cdg pm ctv : Value} {params : Arguments} {body : Expr} {scope : Scope} {pn : List (Addr × Obj)} {xe : Value → Shared → Prop} {W' : WX} {E0 E : XK} {p1 p2 : Pos} {σZ : L2.St} {HZ : Hp} {Q : VK}
    (C : Cxt X (k + 2) W) (I : Inv X pins σ H s) (L : LamS X.env.scope scope) (hf : s.heap.get? f = some (PySem.W.kla_obj "<lambda>" (X.env.qual ++ "<lambda>") params body scope (cloFrom X.env.cells scope.names []) pm c' ctv)) (hfn : H f = none) (hfr : f ∉ frs X.stack)
    (hbind : bindArgs (PySem.W.kla_fn "<lambda>" (X.env.qual ++ "<lambda>") params body scope (cloFrom X.env.cells scope.names []) pm (.ref c') ctv) ⟨[], []⟩ = pure [])
    (tk : Takes ((hX X Ng x st g cdg s H E0).tr pn xe) W') (hW : ∀ cls d H', E cls d H' → W' cls d σZ H')
    (hN : Ng[0]? = some a) (hv : Vis (defScope st) a) (hd : (a == ("__debug__" : Str)) = false) (hcd : (a == ("__classdict__" : Str)) = false)
    (hs : σZ[0]? = some (some (.ref f))) (hc : HZ c' = some (CodeO c' (X.env.qual ++ "<lambda>")))
    (h : ∀ (A : Around) (outer : List Env) (s' : Shared) (H' : Hp), Cxt (lamCx X A outer s' H' E scope f c') k (fun cls d _ H => E cls d H) → (Gd X → Gd (lamCx X A outer s' H' E scope f c')) → wE (lamCx X A outer s' H' E scope f c') body σ HZ Q) :
    wE ((hX X Ng x st g cdg s H E0).tr pn xe) (.Call (.Name a p1) [] [] p2) σZ HZ Q := by
  refine ⟨fun pinsZ sZ IZ => ?_⟩
  refine wpAny_Call_Name_kw (thn ((pe_var (pos := p1) (i := 0) hN hv hd hcd).run pinsZ sZ σZ HZ (fun v H1 => v = .ref f ∧ H1 = HZ) IZ ⟨.ref f, hs, rfl, rfl⟩) fun u s1 ⟨v, H1, I1, r1, q1⟩ => ?_)
  obtain ⟨ev, eH⟩ := q1
  subst ev
  rw [eH] at I1
  obtain rfl : u = Value.ref f := r1
  have of1 : s1.heap.get? f = some (PySem.W.kla_obj "<lambda>" (X.env.qual ++ "<lambda>") params body scope (cloFrom X.env.cells scope.names []) pm c' ctv) := I1.base.keep f _ hf hfn hfr (fun z => nomatch (show f ∈ ([] : List Addr) from z))
  refine PySem.W.callWith_F0 ⟨_, _, _, _, of1⟩ ?_
  have un : Un (frs X.stack) [] H HZ s.heap s1.heap := I1.base
  obtain ⟨⟨oc, vs, t, hoc, hdc, hvc⟩, _, _⟩ := I1.hok c' _ hc
  have hr : Room (k + 1) (X.A.deeper (envOfC x (defScope st) s.heap.objs.size g cdg)) := C.room.deeper _
  have rc : codeAny (model X.prog X.w) (X.A.deeper (envOfC x (defScope st) s.heap.objs.size g cdg)) (.call (.ref f) ⟨[], []⟩) (CR (L2.CX X.prog X.w) (envOfC x (defScope st) s.heap.objs.size g cdg :: X.stack) X.prog X.w HZ s1 Q E) s1 := by
    refine PySem.W.kla_callFunE hr.depth of1 rfl L.co L.gen rfl ⟨c', oc, vs, t, rfl, hoc, hdc, hvc⟩ ?_
    rw [hbind]
    refine wpAny_pure (wpAny_newFunctionEnv (fun y hy => (L.own y hy).2) (fun y hy => absurd hy (by simp)) (fun h₁ hns hsb => ⟨I1.nolimit.fresh _ hsb, ?_⟩) L.kind)
    show codeAny _ _ (.expr body (lamEnv X scope s1.heap.objs.size f c')) _ _
    have kp : ∀ b o, s1.heap.get? b = some o → h₁.get? b = some o := fun b o e => hsb.extBut b o (Nat.ne_of_lt (Heap.lt_size e)) (Heap.get?_push_of_some _ e)
    have J : Inv (lamCx X (X.A.deeper (envOfC x (defScope st) s.heap.objs.size g cdg)) (envOfC x (defScope st) s.heap.objs.size g cdg :: X.stack) s1 HZ E scope f c') [] σ HZ { s1 with heap := h₁, toks := s1.toks + ([] : List (Str × Value)).length } :=
      lam_start2 I L I1.env0 hr.hd un hns kp
    have CL : Cxt (lamCx X (X.A.deeper (envOfC x (defScope st) s.heap.objs.size g cdg)) (envOfC x (defScope st) s.heap.objs.size g cdg :: X.stack) s1 HZ E scope f c') k (fun cls d _ H' => E cls d H') := C.lam (hr.deeper _)
    refine PySem.W.kla_codeExpr (wpAny_mono ((h _ _ s1 HZ CL fun g => g).run [] _ J) (fun v s' hq => ?_) fun e s' hq => hq)
    obtain ⟨w', H', J', rv, q⟩ := hq
    exact ⟨w', H', J'.os, J'.bare, J'.base, J'.hok, rv, q⟩
  refine wpAny_call (codeAny_mono rc fun r s' hq => ?_)
  cases r with
  | error e => exact tk e s' (XE.of_call I1 (fun cls d H' h => hW cls d H' h) hq)
  | ok fl =>
    cases fl with
    | ret u => exact I1.after hq
    | next => exact False.elim hq
    | brk => exact False.elim hq
    | cont => exact False.elim hq
/-- x(lambda: body) -/
theorem e_lam {T : List (Addr × Str)} {x a : Str} {st : Stmt} {c P : Addr} {Ng : List Str} {params : Arguments} {body : Expr} {scope : Scope} {p lpos pos : Pos} {Q : VK}
    (C : Cxt X (k + 2) W) (D : At X.K X.mg x st) (S : FnScope Ng [a] (defScope st)) (TB : TabB X.base X.mg c P) (hcode : X.env.code = .ref c) (hmT : (P, X.env.qual ++ "<lambda>") ∈ T) (hu : ∀ p ∈ T, p.1 = P → p.2 = X.env.qual ++ "<lambda>")
    (L : LamS X.env.scope scope) (hT : Tabs T H)
    (h : ∀ (g : Addr) (cdg : Value) (f c' : Addr) (s : Shared) (H1 : Hp), ExtN H H1 → Tabs T H1 → H1 c' = some (CodeO c' (X.env.qual ++ "<lambda>")) →
      Cxt (hX X Ng x st g cdg s H1 (fun cls d H' => W cls d σ H')) (k + 1) (fun cls d _ H' => W cls d σ H') → (Gd X → Gd (hX X Ng x st g cdg s H1 (fun cls d H' => W cls d σ H'))) →
      (∀ (W' : WX) (pn : List (Addr × Obj)) (xe : Value → Shared → Prop) (E : XK) (σZ : L2.St) (HZ : Hp) (Q' : VK) (p1 p2 : Pos), Takes ((hX X Ng x st g cdg s H1 (fun cls d H' => W cls d σ H')).tr pn xe) W' → (∀ cls d H', E cls d H' → W' cls d σZ H') →
        σZ[0]? = some (some (.ref f)) → HZ c' = some (CodeO c' (X.env.qual ++ "<lambda>")) →
        (∀ (A : Around) (outer : List Env) (s' : Shared) (H' : Hp), Cxt (lamCx X A outer s' H' E scope f c') k (fun cls d _ H => E cls d H) → (Gd X → Gd (lamCx X A outer s' H' E scope f c')) → wE (lamCx X A outer s' H' E scope f c') body σ HZ Q') →
        wE ((hX X Ng x st g cdg s H1 (fun cls d H' => W cls d σ H')).tr pn xe) (.Call (.Name a p1) [] [] p2) σZ HZ Q') →
      wB (hX X Ng x st g cdg s H1 (fun cls d H' => W cls d σ H')) (defBody st) { nx := fun _ H' => Q .non H', rt := Q } (start Ng [.ref f]) H1)
    (hN : Ng[0]? = some a := by rfl) (hv : Vis (defScope st) a := by first | exact Or.inl rfl | exact Or.inr (Or.inl rfl) | exact Or.inr (Or.inr rfl)) (hg : Gl X x := by rfl) (hdef : defaultsOf params X.env = ([], []) := by rfl)
    (hbl : ∀ (q : Str) (cl : List (Str × Addr)) (pm cv ctv : Value), bindArgs (PySem.W.kla_fn "<lambda>" q params body scope cl pm cv ctv) ⟨[], []⟩ = pure [] := by intros; rfl)
    (hbind : ∀ (kV doc pm : Value) (an : Option Addr) (cdv ct : Value) (us : List Value), us.length = ([a] : List Str).length → bindArgs (PySem.W.fnOf x x (defArgs st) (defBody st) (defScope st) .none kV doc pm an cdv ct) ⟨us, []⟩ = pure (([a] : List Str).zip us) := by exact fun _ _ _ _ _ _ us hl => match us, hl with | [_], _ => rfl)
    (hdb : (x == ("__debug__" : Str)) = false := by decide) (hd : (a == ("__debug__" : Str)) = false := by decide) (hcd : (a == ("__classdict__" : Str)) = false := by decide) :
    wE X (.Call (.Name x p) [.Lambda params body scope lpos] [] pos) σ H Q := by
  refine ⟨fun pins s I => ?_⟩
  obtain ⟨g, fd, hm, F⟩ := D.ex
  obtain ⟨oc, od, kV, doc, pm, an, cdg, ct, osl, rfl, lk, hcd2⟩ := F.ex
  refine wpAny_Call_Name_kw (ld_glob I hg hm ?_ hdb)
  refine PySem.W.callWith_K (h₀ := X.base) I.ok.mod.kin F.kp ?_ (by rfl) (by rfl)
  show wpAny _ _ (spliced ((false, eval (.Lambda params body scope lpos) X.env) :: backTo pos (starEach [] X.env))) _ _ s
  refine Calls.spliced_cons (lam_make2 I TB hcode hmT hu hT hdef (L.has I.ok) fun f c' pm' ctv H1 s' I1 eN T1 hf hfn hfr hco => ?_)
  refine Calls.spliced_nil ⟨I1.kIn, ?_⟩
  have rc : codeAny (model X.prog X.w) X.A (.call (.ref g) ⟨[.ref f], []⟩) (CR (L2.CX X.prog X.w) X.stack X.prog X.w H1 s' Q (fun cls d H' => W cls d σ H')) s' := by
    refine run_ofS (N := Ng) (ps := [a]) (us := [.ref f]) (vs := [.ref f]) lk hcd2 S (C.room.mono (show k + 1 + 1 ≤ k + 2 from Nat.le_refl _)) I1.env0 (.of_eq (hbind kV doc pm an cdg ct [.ref f] rfl)) (.cons rfl .nil) rfl fun hr' => ?_
    have CZ : Cxt (hX X Ng x st g cdg s' H1 (fun cls d H' => W cls d σ H')) (k + 1) (fun cls d _ H' => W cls d σ H') := ⟨hr', rfl, S.nd, C.blt, passes_of rfl, takes_of rfl rfl rfl rfl⟩
    refine ⟨wB _ (defBody st), pB, h g cdg f c' s' H1 eN T1 hco CZ (fun g => g) fun W' pn xe E σZ HZ Q' p1 p2 tk hW hs hc hh => ?_⟩
    exact e_act C I1 L hf hfn hfr (hbl _ _ _ _ _) tk hW hN hv hd hcd hs hc hh
  refine wpAny_call (codeAny_mono rc fun r s2 hq => ?_)
  cases r with
  | error e => exact C.tk e s2 (XE.of_call I1 (fun _ _ _ z => z) hq)
  | ok fl =>
    cases fl with
    | ret u => exact I1.after hq
    | next => exact False.elim hq
    | brk => exact False.elim hq
    | cont => exact False.elim hq
end
end Z

set_option Elab.async false
set_option linter.all false
set_option maxRecDepth 100000
set_option maxHeartbeats 4000000
/-! the law's own call, where the defs keep GFn; tables of code objects -/
namespace Z
open PySem PySem.Spec PyProof.Rows L2 LamX

/-- a def whose code object is known -/
structure AtC (K : PySem.W.Frag) (mg : Str → Option Value) (x : Str) (st : Stmt) (c : Addr) : Prop where
  ex : ∃ (f : Addr) (oc kV doc pm ct : Value) (od an : Option Addr) (osl : Array (Option Value)), mg x = some (.ref f) ∧ PySem.W.keepIn K (.ref f) = true ∧
    K.lookup f = some ⟨oc, od, .func (PySem.W.fnOf x x (defArgs st) (defBody st) (defScope st) .none kV doc pm an (.ref c) ct), osl⟩ ∧ PySem.W.codeIn K (.ref c) x = true
theorem defG_ofC {P : Program} {w : World} {K : PySem.W.Frag} {mg : Str → Option Value} {base : Heap} {k : Nat} {x : Str} {st : Stmt} {c : Addr} {N ps : List Str} {sp : Sp} (D : AtC K mg x st c) (B : Blt mg base) (S : FnScope N ps (defScope st)) (len : ∀ vs H Q E, sp vs H Q E → vs.length = ps.length)
    (body : ∀ (f : Addr) (A : Around) (outer : List Env) (s : Shared) (H : Hp) (vs : List V) (Q : VK) (E : XK), mg x = some (.ref f) → Cxt (bX P w K mg base N x st f (.ref c) A outer s H E) k (fun cls d _ H => E cls d H) → Gd (bX P w K mg base N x st f (.ref c) A outer s H E) → sp vs H Q E →
      wB (bX P w K mg base N x st f (.ref c) A outer s H E) (defBody st) { nx := fun _ H' => Q .non H', rt := Q } (start N vs) H) : DefG P w K mg base (k + 1) x st ps sp := by
  obtain ⟨f, oc, kV, doc, pm, ct, od, an, osl, hm, kp, lk, hcd⟩ := D.ex
  exact ⟨f, kV, doc, pm, an, .ref c, ct, hm, kp, gfn_body B lk hcd S len fun A outer s H vs Q E C g h => body f A outer s H vs Q E hm C g h⟩

/-- the data at sysModules is a dict -/
def SysAt (base : Heap) : Prop := ∃ o es ep, base.get? sysModules = some o ∧ o.data = .dict es ep
theorem law_callG {P : Program} {w : World} {K : PySem.W.Frag} {mg mb : Str → Option Value} {k : Nat} {fa a : Addr} {cs : List (Addr × Addr)} {x : Str} {sp : Sp} {s₁ : Shared} {vs : List Value} {ns : List Int}
    (KX : K.In s₁.heap) (hns : s₁.heap.Ns mainGlobals mg) (hb : s₁.heap.Ns builtinsNs mb) (hbb : ∀ x : Str, x ≠ "__name__" → mb x = bootBuiltins x) (hlim : s₁.heap.NoLimit) (hsy : ∃ mm, s₁.heap.Ns sysModules mm) (hg : s₁.gens = #[])
    (hT : ∀ p ∈ cs, s₁.heap.get? p.2 = some { cls := .none, data := .fields #[] }) (nT : ∀ p ∈ cs, K.lookup p.2 = none) (C : ∀ p ∈ cs, PySem.W.CodeHd s₁.heap p.1 p.2)
    (hbm : ∃ (bm : Addr) (ob : Obj), mg "__builtins__" = some (.ref bm) ∧ bm ≠ builtinsNs ∧ s₁.heap.get? bm = some ob ∧ ob.cls = .type "module" ∧ ob.dict = some builtinsNs ∧ ob.data = .plain)
    (ha : s₁.heap.get? a = some { cls := .type "list", data := .seq vs.toArray }) (hi : IntsAre vs ns) (hl : ns.length ≤ sizeLine) (hr : Room k callerA)
    (F : ∀ base : Heap, K.In base → base.Ns mainGlobals mg → SysAt base → (∀ p ∈ cs, TabB base mg p.1 p.2) → ∃ fd, (∀ (s : Shared) (u : Value), BindsTo s fd ⟨[u], []⟩ [(x, u)]) ∧ GFn P w K mg base k fa fd [x] sp)
    (hsp : ∀ H : Hp, (∀ p ∈ cs, H p.2 = some (.tbl #[])) → SqL K H a (ns.map V.int) → sp [.ref a] H (fun v _ => v = .bl true) fun _ _ _ => False) :
    codeAny (model P w) callerA (.call (.ref fa) ⟨[.ref a], []⟩) (fun r s' => r = .ok (.ret (.bool true)) ∧ OldK s₁.heap s'.heap ∧ s'.os = s₁.os ∧ AllBare s'.gens) s₁ := by
  have rv := vals_ints hi
  have lenV := hi.length
  have isT : ∀ b : Addr, b ∈ cs.map (·.2) → s₁.heap.get? b = some { cls := .none, data := .fields #[] } := fun b hb => by
    obtain ⟨p, hp, e⟩ := List.mem_map.mp hb
    rw [← e]
    exact hT p hp
  have aT : a ∉ cs.map (·.2) := fun z => by
    have q := isT a z
    rw [ha] at q
    have z' : Data.seq vs.toArray _ = Data.fields #[] := congrArg Obj.data (Option.some.inj q)
    cases z'
  have memT : ∀ p ∈ cs, p.2 ∈ cs.map (·.2) := fun p hp => List.mem_map.mpr ⟨p, hp, rfl⟩
  -- what is tracked at the start: the tables, and the script where the text does not hold it
  let H : Hp := fun b => if b ∈ cs.map (·.2) then some (.tbl #[]) else if b = a ∧ K.lookup a = none then some (.frz { cls := .type "list", data := .seq vs.toArray } (.lst (ns.map V.int))) else none
  have HT : ∀ b, b ∈ cs.map (·.2) → H b = some (.tbl #[]) := fun b hb => if_pos hb
  have HA : K.lookup a = none → H a = some (.frz { cls := .type "list", data := .seq vs.toArray } (.lst (ns.map V.int))) := fun e => (if_neg aT).trans (if_pos ⟨rfl, e⟩)
  have Hcase : ∀ b u, H b = some u → (b ∈ cs.map (·.2) ∧ u = .tbl #[]) ∨ (b = a ∧ K.lookup a = none ∧ u = .frz { cls := .type "list", data := .seq vs.toArray } (.lst (ns.map V.int))) := fun b u e => by
    by_cases h1 : b ∈ cs.map (·.2)
    · rw [HT b h1] at e
      cases e
      exact .inl ⟨h1, rfl⟩
    · have e1 : H b = _ := if_neg h1
      rw [e1] at e
      by_cases h2 : b = a ∧ K.lookup a = none
      · rw [if_pos h2] at e
        cases e
        exact .inr ⟨h2.1, h2.2, rfl⟩
      · rw [if_neg h2] at e
        cases e
  have hok : HOk P w H s₁.heap := fun b u e => by
    rcases Hcase b u e with ⟨h1, rfl⟩ | ⟨rfl, h2, rfl⟩
    · exact isT b h1
    · exact ⟨ha, by rw [List.length_map]; exact hl, vs, _, rv, ha⟩
  have hS : SqL K H a (ns.map V.int) := by
    cases hk : K.lookup a with
    | none => exact .inl (.inr ⟨_, HA hk⟩)
    | some o =>
      have e := KX a o hk
      rw [ha] at e
      cases e
      exact .inr ⟨_, vs.toArray, _, hk, rfl, rfl, rfl, by rw [List.size_toArray, lenV]; exact hl, by simpa using rv⟩
  have base_of : ∀ {b : Addr} {o : Obj}, s₁.heap.get? b = some o → H b = none → (hidT s₁.heap H).get? b = some o := fun e n => hidT_get e n
  have noD : ∀ {b : Addr} {o : Obj}, s₁.heap.get? b = some o → (∀ vs n, o.data ≠ .seq vs n) → o.data ≠ .fields #[] → H b = none := fun {b o} e h1 h2 => by
    cases q : H b with
    | none => rfl
    | some u =>
      rcases Hcase b u q with ⟨e', _⟩ | ⟨e', _⟩
      · rw [isT b e'] at e
        cases e
        exact (h2 rfl).elim
      · rw [e', ha] at e
        cases e
        exact (h1 _ _ rfl).elim
  have noA : ∀ {b : Addr} {o : Obj} {es : Array DictEntry} {ep : Nat}, s₁.heap.get? b = some o → o.data = .dict es ep → H b = none := fun {b o es ep} e d => by
    refine noD e (fun vs n z => ?_) fun z => ?_
    · rw [d] at z
      cases z
    · rw [d] at z
      cases z
  have nsK : ∀ {b : Addr} {m : Str → Option Value}, s₁.heap.Ns b m → (hidT s₁.heap H).Ns b m := fun {b m} ⟨o, es, ep, e, d, r⟩ => ⟨o, es, ep, base_of e (noA e d), d, r⟩
  have hKb : K.In (hidT s₁.heap H) := fun b o e => base_of (KX b o e) (by
    cases q : H b with
    | none => rfl
    | some u =>
      rcases Hcase b u q with ⟨e', _⟩ | ⟨e', hk, _⟩
      · obtain ⟨p, hp, ep⟩ := List.mem_map.mp e'
        rw [← ep, nT p hp] at e
        cases e
      · rw [e', hk] at e
        cases e)
  have hM : L2.Mod K mg (hidT s₁.heap H) := ⟨hKb, nsK hns, ⟨mb, nsK hb, hbb⟩, let ⟨mc, h1, h2⟩ := hlim; ⟨mc, nsK h1, h2⟩⟩
  have hSys : SysAt (hidT s₁.heap H) := by
    obtain ⟨mm, hm⟩ := hsy
    obtain ⟨o, es, ep, e, d, _⟩ := nsK hm
    exact ⟨o, es, ep, e, d⟩
  have TB : ∀ p ∈ cs, TabB (hidT s₁.heap H) mg p.1 p.2 := fun p hp => by
    have hTp := hT p hp
    refine ⟨?_, ?_, fun z => ?_⟩
    · obtain ⟨o, us, file, tf, flags, tg, inF, text, tt, e1, r1, r2, r3, r4, r5, r6, r7, r8, hne⟩ := C p hp
      refine ⟨o, us, file, tf, flags, tg, inF, text, tt, base_of e1 (noD e1 (fun vs n z => ?_) fun z => ?_), r1, r2, r3, r4, r5, r6, r7, r8, hne⟩
      · rw [r2] at z
        cases z
      · rw [r2] at z
        cases z
        simp at r3
    · obtain ⟨bm, ob, b1, b2, b3, b4, b5, b6⟩ := hbm
      have nG : bm ≠ mainGlobals := fun q => by
        obtain ⟨o, es, ep, e, hd, _⟩ := hns
        rw [q, e] at b3
        cases b3
        rw [hd] at b6
        cases b6
      have nP : bm ≠ p.2 := fun q => by
        rw [q, hTp] at b3
        cases b3
        cases b6
      refine ⟨bm, ob, b1, b2, nG, nP, base_of b3 (noD b3 (fun vs n z => ?_) fun z => ?_), b4, b5, b6⟩
      · rw [b6] at z
        cases z
      · rw [b6] at z
        cases z
    · obtain ⟨o, es, ep, e, hd, _⟩ := hns
      rw [z, hTp] at e
      cases e
      cases hd
  have e0 : Env0 P w K mg (hidT s₁.heap H) callerA [] s₁ H := ⟨rfl, hM, fun b o e => of_hidT e, Nat.le_of_eq (hidT_size _ _), trivial, fun b hb => absurd (show b ∈ ([] : List Addr) from hb) (by simp), hok, .of_eq hg⟩
  obtain ⟨fd, hbind, hF⟩ := F _ hKb (nsK hns) hSys TB
  refine codeAny_mono (hF.run callerA [] s₁ H ⟨[.ref a], []⟩ [.ref a] [.ref a] _ _ hr rfl e0 (hbind s₁ (.ref a)) (.cons rfl .nil) (hsp H (fun p hp => HT _ (memT p hp)) hS)) fun r s' h => ?_
  cases r with
  | error e =>
    obtain ⟨_, _, _, _, _, _, _, _, _, _, _, _, z⟩ := h
    exact z.elim
  | ok fl =>
    cases fl with
    | next => exact False.elim h
    | brk => exact False.elim h
    | cont => exact False.elim h
    | ret u =>
      obtain ⟨v, H', os, bare, un, hok', r', q⟩ := h
      have q' : v = .bl true := q
      subst q'
      obtain rfl : u = Value.bool true := r'
      have key : ∀ b o, b ∉ cs.map (·.2) → s₁.heap.get? b = some o → s'.heap.get? b = some o := fun b o nb e => by
        cases q : H b with
        | none => exact un.keep b o e q (by intro z; exact absurd (show b ∈ ([] : List Addr) from z) (by simp)) (by simp)
        | some u =>
          rcases Hcase b u q with ⟨z, _⟩ | ⟨_, _, z⟩
          · exact absurd z nb
          · rw [z] at q
            have z2 := un.frzs b _ _ q
            obtain ⟨e1, _⟩ := hok b _ q
            obtain ⟨e2, _⟩ := hok' b _ z2
            rw [e] at e1; cases e1
            exact e2
      have grown : ∀ p ∈ cs, ∃ more : Array Value, s'.heap.get? p.2 = some { cls := .none, data := .fields more } := fun p hp => by
        obtain ⟨more, z⟩ := un.tbls p.2 #[] (HT _ (memT p hp))
        exact ⟨_, hok' p.2 _ z⟩
      refine ⟨rfl, ⟨fun b o e => ?_, fun b o e => ?_⟩, os, bare⟩
      · by_cases hb : b ∈ cs.map (·.2)
        · obtain ⟨p, hp, ep⟩ := List.mem_map.mp hb
          obtain ⟨more, hm⟩ := grown p hp
          rw [← ep] at e ⊢
          rw [hT p hp] at e
          cases e
          exact .inr (.inl ⟨((C p hp).tab (hT p hp)).isCodeTable, rfl, #[], more, rfl, by rw [Array.empty_append]; exact hm⟩)
        · exact .inl (key b o hb e)
      · by_cases hb : b ∈ cs.map (·.2)
        · obtain ⟨p, hp, ep⟩ := List.mem_map.mp hb
          obtain ⟨more, hm⟩ := grown p hp
          rw [← ep]
          exact ⟨_, hm⟩
        · exact ⟨o, key b o hb e⟩
/-- what is known of the law's promise at the head's heap h -/
def LawG (l : PySem.W.OpenLaw) (w : World) (K : PySem.W.Frag) (k n : Nat) (x : Str) (mg : Str → Option Value) (fa : Addr) (h : Heap) : Prop :=
  ∃ (cs : List (Addr × Addr)) (sp : Sp), (∀ p ∈ cs, h.get? p.2 = some { cls := .none, data := .fields #[] }) ∧ (∀ p ∈ cs, K.lookup p.2 = none) ∧ (∀ p ∈ cs, PySem.W.CodeHd h p.1 p.2) ∧
    (∀ (H : Hp) (a : Addr) (ns : List Int), ns.length ≤ n → (∀ z ∈ ns, Builtin.Int.intBits z ≤ 1048576) → (∀ p ∈ cs, H p.2 = some (.tbl #[])) → SqL K H a (ns.map V.int) → sp [.ref a] H (fun v _ => v = .bl true) fun _ _ _ => False) ∧
    ∀ base : Heap, K.In base → base.Ns mainGlobals mg → SysAt base → (∀ p ∈ cs, TabB base mg p.1 p.2) → ∃ fd, (∀ (s : Shared) (u : Value), BindsTo s fd ⟨[u], []⟩ [(x, u)]) ∧ GFn l.prog w K mg base k fa fd [x] sp
theorem walk_G {l : PySem.W.OpenLaw} {n k : Nat} {q : Program} {loose : List Str} {XP : (Str → Option Value) → Heap → Prop} {YP : World → Heap → Prop} {d : DefRec} {K : Params → PySem.W.Frag} {x : Str}
    (hn : l.most = some n) (hn2 : n ≤ sizeLine) (hdf : d.params.defaults = []) (hr : Room k callerA) (hY : ∀ (w : World) (h : Heap), YP w h → (K w.params).In h) (hq : importsNone q = true)
    (F : ∀ (w : World) (mg : Str → Option Value) (fa : Addr) (h : Heap), YP w h → (K w.params).In h → h.Ns mainGlobals mg → mg d.name = some (.ref fa) → LawG l w (K w.params) k n x mg fa h) :
    PySem.W.WalkO q loose XP YP l.row.toRowW d [] (fun f vs => PySem.call f vs) := by
  refine Att.attach_callB hn hdf fun w s₀ s₁ mg mb fa o pm cd doc a vs ns G Y ho hd hcd hmg hobj hints hlen hbits hg => ?_
  have KX := hY w _ Y
  obtain ⟨cs, sp, hT, nT, C, hsp, hF⟩ := F w mg fa _ Y KX G.T.g hmg
  obtain ⟨mm, hmm, _⟩ := (G.T.seer hq).mods
  exact law_callG KX G.T.g G.T.b G.T.builtins G.T.nolimit ⟨mm, hmm⟩ hg hT nT C G.T.bmain hobj hints (Nat.le_trans hlen hn2) hr hF fun H hH hS => hsp H a ns hlen hbits hH hS
end Z

set_option Elab.async false
set_option linter.all false
set_option maxRecDepth 100000
set_option maxHeartbeats 4000000
/-! zip of two texts of ASCII signs -/
namespace Z
open PySem PySem.Spec PyProof.Rows L2
section
variable {prog : Program} {w : World} {A : Around} {E : Value → Shared → Prop} {s : Shared}
abbrev At8 (h : Heap) (a : Addr) (x : Str) (t : Tok) (i : Nat) : Prop := h.IsStrIter a "str_ascii_iterator" x t i
theorem at8_at {h h' : Heap} {a : Addr} {x : Str} {t : Tok} {i : Nat} (y : At8 h a x t i) (k : ∀ o, h.get? a = some o → h'.get? a = some o) : At8 h' a x t i := let ⟨o, e, r⟩ := y; ⟨o, k o e, r⟩
theorem zipS_next_item {z TI TO i1 i2 l1 l2 : Addr} {k1 k2 c d : Nat} {xs ys : Str} {t1 t2 : Tok} {a b : Value} {Q : Value → Shared → Prop} (D : ZipApart z TI TO i1 i2 l1 l2)
    (hz : IsZip s.heap z TI TO .none) (hTI : IsPair s.heap TI (.ref i1) (.ref i2)) (hTO : IsPair s.heap TO a b)
    (h1 : At8 s.heap i1 xs t1 k1) (h2 : At8 s.heap i2 ys t2 k2) (hx : xs.cps[k1]? = some c) (hy : ys.cps[k2]? = some d)
    (hQ : ∀ h' u v, IsZip h' z TI TO (rawInt s.heap.objs.size) → IsPair h' TO (.str ⟨#[c]⟩ u) (.str ⟨#[d]⟩ v) → At8 h' i1 xs t1 (k1 + 1) → At8 h' i2 ys t2 (k2 + 1) → IsPair h' s.heap.objs.size (.str ⟨#[c]⟩ u) (.str ⟨#[d]⟩ v) → h'.objs.size = s.heap.objs.size + 1 →
      (∀ c o, c ≠ z → c ≠ TO → c ≠ i1 → c ≠ i2 → s.heap.get? c = some o → h'.get? c = some o) → Q (.ref s.heap.objs.size) { s with heap := h', toks := s.toks + 2 }) :
    wpAny (model prog w) A (Builtin.«zip.__next__» ⟨[.ref z], []⟩) (fun fin s' => ∃ v, fin = .done (.ret v) ∧ Q v s') E s := by
  obtain ⟨hp, g, dr, tk, os⟩ := s
  show wpAny _ _ (field (.ref z) 2 >>= _) _ _ _
  refine wpAny_bind (wpAny_field hz rfl (x := .bool false) rfl ?_)
  show wpAny _ _ (field (.ref z) 3 >>= _) _ _ _
  refine wpAny_bind (wpAny_field hz rfl (x := .ref TI) rfl ?_)
  refine wpAny_bind (wpAny_seqItems hTI rfl ?_)
  show wpAny _ _ (Builtin.SmallTypes.ownedTupleIsFree (.ref z) >>= _) _ _ _
  refine wpAny_bind ?_
  unfold Builtin.SmallTypes.ownedTupleIsFree
  refine wpAny_bind (wpAny_field hz rfl (x := .none) rfl (wpAny_pure ?_))
  simp only [if_true]
  refine wpAny_bind (wpAny_rule ?_)
  refine wpAny_bind (wpAny_field hz rfl (x := .ref TO) rfl ?_)
  refine wpAny_bind (wpAny_setField_rec hz (by simp) fun h₁ hz₁ hs₁ => ?_)
  replace hz₁ : IsZip h₁ z TI TO .ellipsis := hz₁
  refine wpAny_bind ?_
  simp only [List.zipIdx_cons, List.zipIdx_nil, List.forIn_cons, List.forIn_nil]
  refine wpAny_bind (wpAny_bind (wpAny_onRaise ?_))
  show wpAny _ _ (Builtin.SmallTypes.nextOf (.ref i1) >>= _) _ _ _
  refine wpAny_bind (wpAny_nextOf_ascii_item (Heap.IsStrIter.extBut h1 hs₁.extBut D.i1z) hx fun h₂ h1₂ hs₂ => wpAny_pure ?_)
  have hTO₂ : IsPair h₂ TO a b := hs₂.extBut _ _ D.TOi1 (hs₁.extBut _ _ D.TOz hTO)
  refine wpAny_bind (wpAny_seqItems hTO₂ rfl ?_)
  refine wpAny_bind (wpAny_updateSeq_pair hTO₂ fun h₃ hTO₃ hs₃ => ?_)
  replace hTO₃ : IsPair h₃ TO (.str ⟨#[c]⟩ tk) b := hTO₃
  refine wpAny_bind (wpAny_letGo (wpAny_pure ?_))
  refine wpAny_bind (wpAny_bind (wpAny_onRaise ?_))
  show wpAny _ _ (Builtin.SmallTypes.nextOf (.ref i2) >>= _) _ _ _
  refine wpAny_bind (wpAny_nextOf_ascii_item (((Heap.IsStrIter.extBut h2 hs₁.extBut D.i2z).extBut hs₂.extBut D.i12.symm).extBut hs₃.extBut D.TOi2.symm) hy fun h₄ h2₄ hs₄ => wpAny_pure ?_)
  have hTO₄ : IsPair h₄ TO (.str ⟨#[c]⟩ tk) b := hs₄.extBut _ _ D.TOi2 hTO₃
  refine wpAny_bind (wpAny_seqItems hTO₄ rfl ?_)
  refine wpAny_bind (wpAny_updateSeq_pair hTO₄ fun h₅ hTO₅ hs₅ => ?_)
  replace hTO₅ : IsPair h₅ TO (.str ⟨#[c]⟩ tk) (.str ⟨#[d]⟩ (tk + 1)) := hTO₅
  refine wpAny_bind (wpAny_letGo (wpAny_pure (wpAny_pure ?_)))
  refine wpAny_bind (wpAny_seqItems hTO₅ rfl ?_)
  refine wpAny_bind (wpAny_newTuple ?_)
  have hsz : h₅.objs.size = hp.objs.size := by rw [hs₅.1, hs₄.1, hs₃.1, hs₂.1, hs₁.1]
  have hz₅ : IsZip h₅ z TI TO .ellipsis := hs₅.extBut _ _ D.TOz.symm (hs₄.extBut _ _ D.i2z.symm (hs₃.extBut _ _ D.TOz.symm (hs₂.extBut _ _ D.i1z.symm hz₁)))
  have hk₅ : ∀ c o, c ≠ z → c ≠ TO → c ≠ i1 → c ≠ i2 → hp.get? c = some o → h₅.get? c = some o := fun c o c1 c2 c3 c4 e =>
    hs₅.extBut _ _ c2 (hs₄.extBut _ _ c4 (hs₃.extBut _ _ c2 (hs₂.extBut _ _ c3 (hs₁.extBut _ _ c1 e))))
  have h1₅ : At8 h₅ i1 xs t1 (k1 + 1) := ((Heap.IsStrIter.extBut h1₂ hs₃.extBut D.TOi1.symm).extBut hs₄.extBut D.i12).extBut hs₅.extBut D.TOi1.symm
  have h2₅ : At8 h₅ i2 ys t2 (k2 + 1) := Heap.IsStrIter.extBut h2₄ hs₅.extBut D.TOi2.symm
  have hzlt : z < h₅.objs.size := Heap.lt_size hz₅
  have hTOlt : TO < h₅.objs.size := Heap.lt_size hTO₅
  show wpAny _ _ (Builtin.SmallTypes.ownedTupleHandOut (.ref z) (.ref h₅.objs.size) >>= _) _ _ _
  refine wpAny_bind ?_
  unfold Builtin.SmallTypes.ownedTupleHandOut
  have hz₆ : IsZip (h₅.push { cls := .type "tuple", data := .seq #[.str ⟨#[c]⟩ tk, .str ⟨#[d]⟩ (tk + 1)] }) z TI TO .ellipsis := Heap.get?_push_of_some _ hz₅
  refine wpAny_bind (wpAny_setField_rec hz₆ (by simp) fun h₇ hz₇ hs₇ => ?_)
  replace hz₇ : IsZip h₇ z TI TO (rawInt h₅.objs.size) := hz₇
  refine wpAny_setField_rec hz₇ (by simp) fun h₈ hz₈ hs₈ => ?_
  replace hz₈ : IsZip h₈ z TI TO (rawInt h₅.objs.size) := hz₈
  have up : ∀ c o, c ≠ z → h₅.get? c = some o → h₈.get? c = some o := fun c o c1 e => hs₈.extBut _ _ c1 (hs₇.extBut _ _ c1 (Heap.get?_push_of_some _ e))
  have hT₈ : IsPair h₈ h₅.objs.size (.str ⟨#[c]⟩ tk) (.str ⟨#[d]⟩ (tk + 1)) := hs₈.extBut _ _ (Nat.ne_of_gt hzlt) (hs₇.extBut _ _ (Nat.ne_of_gt hzlt) (Heap.get?_push_size _ rfl))
  have hz8 : h₈.objs.size = h₅.objs.size + 1 := by rw [hs₈.1, hs₇.1, Heap.size_push]
  rw [hsz] at hz₈ hT₈ hz8
  refine wpAny_pure ⟨_, rfl, ?_⟩
  show Q (.ref h₅.objs.size) _
  rw [hsz]
  exact hQ h₈ _ _ hz₈ (up _ _ D.TOz hTO₅) (at8_at h1₅ fun o e => up _ o D.i1z e) (at8_at h2₅ fun o e => up _ o D.i2z e) hT₈ hz8 fun c o c1 c2 c3 c4 e => up c o c1 (hk₅ c o c1 c2 c3 c4 e)
theorem zipS_next_end {z TI TO i1 i2 l1 l2 : Addr} {k1 k2 : Nat} {xs ys : Str} {t1 t2 : Tok} {a b : Value} {Q : Fin → Shared → Prop} (hh : A.handled = none) (D : ZipApart z TI TO i1 i2 l1 l2)
    (hz : IsZip s.heap z TI TO .none) (hTI : IsPair s.heap TI (.ref i1) (.ref i2)) (hTO : IsPair s.heap TO a b)
    (h1 : At8 s.heap i1 xs t1 k1) (h2 : At8 s.heap i2 ys t2 k2) (hend : xs.cps[k1]? = none ∨ ys.cps[k2]? = none)
    (hE : ∀ h' tk' e, (∀ c o, c ≠ z → c ≠ TO → c ≠ i1 → c ≠ i2 → s.heap.get? c = some o → h'.get? c = some o) → (∃ o, h'.get? e = some o ∧ o.cls = .type "StopIteration") → E (.ref e) { s with heap := h', toks := tk' }) :
    wpAny (model prog w) A (Builtin.«zip.__next__» ⟨[.ref z], []⟩) Q E s := by
  obtain ⟨hp, g, dr, tk, os⟩ := s
  show wpAny _ _ (field (.ref z) 2 >>= _) _ _ _
  refine wpAny_bind (wpAny_field hz rfl (x := .bool false) rfl ?_)
  show wpAny _ _ (field (.ref z) 3 >>= _) _ _ _
  refine wpAny_bind (wpAny_field hz rfl (x := .ref TI) rfl ?_)
  refine wpAny_bind (wpAny_seqItems hTI rfl ?_)
  show wpAny _ _ (Builtin.SmallTypes.ownedTupleIsFree (.ref z) >>= _) _ _ _
  refine wpAny_bind ?_
  unfold Builtin.SmallTypes.ownedTupleIsFree
  refine wpAny_bind (wpAny_field hz rfl (x := .none) rfl (wpAny_pure ?_))
  simp only [if_true]
  refine wpAny_bind (wpAny_rule ?_)
  refine wpAny_bind (wpAny_field hz rfl (x := .ref TO) rfl ?_)
  refine wpAny_bind (wpAny_setField_rec hz (by simp) fun h₁ hz₁ hs₁ => ?_)
  replace hz₁ : IsZip h₁ z TI TO .ellipsis := hz₁
  refine wpAny_bind ?_
  simp only [List.zipIdx_cons, List.zipIdx_nil, List.forIn_cons, List.forIn_nil]
  refine wpAny_bind (wpAny_bind (wpAny_onRaise ?_))
  show wpAny _ _ (Builtin.SmallTypes.nextOf (.ref i1) >>= _) _ _ _
  cases hx : xs.cps[k1]? with
  | none =>
    refine wpAny_bind (wpAny_nextOf_ascii_end hh (Heap.IsStrIter.extBut h1 hs₁.extBut D.i1z) hx fun h₂ e hs₂ he => ?_)
    obtain ⟨oe, hoe, hce⟩ := he
    have hz₂ : IsZip h₂ z TI TO .ellipsis := hs₂ _ _ D.i1z.symm hz₁
    have hez : e ≠ z := fun x => by subst x; rw [hz₂] at hoe; cases hoe; simp at hce
    refine wpAny_setField_rec hz₂ (by simp) fun h₃ _ hs₃ => hE h₃ _ e (fun c o c1 _ c3 _ x => hs₃.extBut _ _ c1 (hs₂ _ _ c3 (hs₁.extBut _ _ c1 x))) ⟨oe, hs₃.extBut _ _ hez hoe, hce⟩
  | some x =>
    have hy : ys.cps[k2]? = none := by rcases hend with h | h; rw [hx] at h; cases h; exact h
    refine wpAny_bind (wpAny_nextOf_ascii_item (Heap.IsStrIter.extBut h1 hs₁.extBut D.i1z) hx fun h₂ h1₂ hs₂ => wpAny_pure ?_)
    have hTO₂ : IsPair h₂ TO a b := hs₂.extBut _ _ D.TOi1 (hs₁.extBut _ _ D.TOz hTO)
    refine wpAny_bind (wpAny_seqItems hTO₂ rfl ?_)
    refine wpAny_bind (wpAny_updateSeq_pair hTO₂ fun h₃ hTO₃ hs₃ => ?_)
    refine wpAny_bind (wpAny_letGo (wpAny_pure ?_))
    refine wpAny_bind (wpAny_bind (wpAny_onRaise ?_))
    show wpAny _ _ (Builtin.SmallTypes.nextOf (.ref i2) >>= _) _ _ _
    refine wpAny_bind (wpAny_nextOf_ascii_end hh (((Heap.IsStrIter.extBut h2 hs₁.extBut D.i2z).extBut hs₂.extBut D.i12.symm).extBut hs₃.extBut D.TOi2.symm) hy fun h₄ e hs₄ he => ?_)
    obtain ⟨oe, hoe, hce⟩ := he
    have hz₄ : IsZip h₄ z TI TO .ellipsis := hs₄ _ _ D.i2z.symm (hs₃.extBut _ _ D.TOz.symm (hs₂.extBut _ _ D.i1z.symm hz₁))
    have hez : e ≠ z := fun x => by subst x; rw [hz₄] at hoe; cases hoe; simp at hce
    refine wpAny_setField_rec hz₄ (by simp) fun h₅ _ hs₅ => hE h₅ _ e (fun c o c1 c2 c3 c4 x => hs₅.extBut _ _ c1 (hs₄ _ _ c4 (hs₃.extBut _ _ c2 (hs₂.extBut _ _ c3 (hs₁.extBut _ _ c1 x))))) ⟨oe, hs₅.extBut _ _ hez hoe, hce⟩
theorem pyNext_zipS_item {z TI TO i1 i2 l1 l2 : Addr} {k1 k2 c d : Nat} {xs ys : Str} {t1 t2 : Tok} {a b : Value} {Q : Option Value → Shared → Prop} (D : ZipApart z TI TO i1 i2 l1 l2)
    (hz : IsZip s.heap z TI TO .none) (hTI : IsPair s.heap TI (.ref i1) (.ref i2)) (hTO : IsPair s.heap TO a b)
    (h1 : At8 s.heap i1 xs t1 k1) (h2 : At8 s.heap i2 ys t2 k2) (hx : xs.cps[k1]? = some c) (hy : ys.cps[k2]? = some d)
    (hQ : ∀ h' u v, IsZip h' z TI TO (rawInt s.heap.objs.size) → IsPair h' TO (.str ⟨#[c]⟩ u) (.str ⟨#[d]⟩ v) → At8 h' i1 xs t1 (k1 + 1) → At8 h' i2 ys t2 (k2 + 1) → IsPair h' s.heap.objs.size (.str ⟨#[c]⟩ u) (.str ⟨#[d]⟩ v) → h'.objs.size = s.heap.objs.size + 1 →
      (∀ c o, c ≠ z → c ≠ TO → c ≠ i1 → c ≠ i2 → s.heap.get? c = some o → h'.get? c = some o) → Q (some (.ref s.heap.objs.size)) { s with heap := h', toks := s.toks + 2 }) :
    wpAny (model prog w) A (pyNext (.ref z)) Q E s := by
  have hT : s.TypeIs (.ref z) "zip" := ⟨_, hz, rfl⟩
  unfold pyNext
  exact wpAny_bind (wpAny_attempt (wpAny_callSpecial?_slot (name := Str.ofString "__next__") hT F.slot_zip_next
    (wpAny_call_entry F.slot_zip_next hT F.entry_zip_next
      (zipS_next_item D hz hTI hTO h1 h2 hx hy fun h' u v a1 a2 a3 a4 a5 a6 a7 => wpAny_pure (hQ h' u v a1 a2 a3 a4 a5 a6 a7)) (F.args_zip_next_1 _))))
theorem pyNext_zipS_end {z TI TO i1 i2 l1 l2 : Addr} {k1 k2 : Nat} {xs ys : Str} {t1 t2 : Tok} {a b : Value} {Q : Option Value → Shared → Prop} (hh : A.handled = none) (D : ZipApart z TI TO i1 i2 l1 l2)
    (hz : IsZip s.heap z TI TO .none) (hTI : IsPair s.heap TI (.ref i1) (.ref i2)) (hTO : IsPair s.heap TO a b)
    (h1 : At8 s.heap i1 xs t1 k1) (h2 : At8 s.heap i2 ys t2 k2) (hend : xs.cps[k1]? = none ∨ ys.cps[k2]? = none)
    (hQ : ∀ h' tk', (∀ c o, c ≠ z → c ≠ TO → c ≠ i1 → c ≠ i2 → s.heap.get? c = some o → h'.get? c = some o) → Q none { s with heap := h', toks := tk' }) : wpAny (model prog w) A (pyNext (.ref z)) Q E s := by
  have hT : s.TypeIs (.ref z) "zip" := ⟨_, hz, rfl⟩
  unfold pyNext
  refine wpAny_bind (wpAny_attempt (wpAny_callSpecial?_slot (name := Str.ofString "__next__") hT F.slot_zip_next
    (wpAny_call_entry F.slot_zip_next hT F.entry_zip_next (zipS_next_end hh D hz hTI hTO h1 h2 hend fun h' tk' e hk he => ?_) (F.args_zip_next_1 _))))
  obtain ⟨o, ho, hc⟩ := he
  refine wpAny_bind (wpAny_isInstance (T := "StopIteration") (b := true) ⟨o, ho, hc⟩ isSubtype_stop ?_)
  exact wpAny_pure (hQ _ _ hk)
end
abbrev zipSH1 (h : Heap) (x : Str) (t : Tok) : Heap := h.push { cls := .type "str_ascii_iterator", data := .fields #[.str x t, .int 0 0] }
abbrev zipSH2 (h : Heap) (x y : Str) (t u : Tok) : Heap := (zipSH1 h x t).push { cls := .type "str_ascii_iterator", data := .fields #[.str y u, .int 0 0] }
abbrev zipSH3 (h : Heap) (x y : Str) (t u : Tok) : Heap := (zipSH2 h x y t u).push { cls := .type "tuple", data := .seq #[.ref h.objs.size, .ref (zipSH1 h x t).objs.size] }
abbrev zipSH4 (h : Heap) (x y : Str) (t u : Tok) : Heap := (zipSH3 h x y t u).push { cls := .type "tuple", data := .seq #[.none, .none] }
abbrev zipSH5 (h : Heap) (x y : Str) (t u : Tok) : Heap := (zipSH4 h x y t u).push { cls := .type "zip", data := .fields #[.none, .bool false, .bool false, .ref (zipSH2 h x y t u).objs.size, .ref (zipSH3 h x y t u).objs.size] }
theorem meets_zipS_new (x y : Str) (t u : Tok) (hx : x.cps.all (· < 128) = true) (hy : y.cps.all (· < 128) = true) :
    Meets (Builtin.«zip.__new__» ⟨[.type "zip", .str x t, .str y u], []⟩) (fun _ R s => R (.ok (.ret (.ref (zipSH4 s.heap x y t u).objs.size))) { s with heap := zipSH5 s.heap x y t u }) :=
  .of_wp fun prog w A R s h => by
    obtain ⟨hp, g, d, tk, os⟩ := s
    have hsub := sub_zip
    wp_walk using wpAny_pyIter_ascii hx, wpAny_pyIter_ascii hy
    exact ⟨_, rfl, h⟩
section
variable {prog : Program} {w : World} {A : Around} {E : Value → Shared → Prop} {s : Shared}
theorem call_zipS {x y : Str} {t u : Tok} {Q : Value → Shared → Prop} (hx : x.cps.all (· < 128) = true) (hy : y.cps.all (· < 128) = true)
    (h : ∀ h', IsZip h' (s.heap.objs.size + 4) (s.heap.objs.size + 2) (s.heap.objs.size + 3) .none → IsPair h' (s.heap.objs.size + 2) (.ref s.heap.objs.size) (.ref (s.heap.objs.size + 1)) →
      IsPair h' (s.heap.objs.size + 3) .none .none → At8 h' s.heap.objs.size x t 0 → At8 h' (s.heap.objs.size + 1) y u 0 → h'.objs.size = s.heap.objs.size + 5 →
      (∀ c o, s.heap.get? c = some o → h'.get? c = some o) → Q (.ref (s.heap.objs.size + 4)) { s with heap := h' }) :
    wpAny (model prog w) A (call (.type "zip") [.str x t, .str y u]) Q E s := by
  refine callType_new F.called_zip (by decide) (F.typeCall_zip_2 _ _) (F.newCall_zip_2 _ _) (fun obj => F.args_object_init_3 obj _ _) F.entry_zip_new
    (meets_zipS_new x y t u hx hy) ?_
  have z1 : (zipSH1 s.heap x t).objs.size = s.heap.objs.size + 1 := Heap.size_push ..
  have z2 : (zipSH2 s.heap x y t u).objs.size = s.heap.objs.size + 2 := by rw [Heap.size_push, z1]
  have z3 : (zipSH3 s.heap x y t u).objs.size = s.heap.objs.size + 3 := by rw [Heap.size_push, z2]
  have z4 : (zipSH4 s.heap x y t u).objs.size = s.heap.objs.size + 4 := by rw [Heap.size_push, z3]
  have z5 : (zipSH5 s.heap x y t u).objs.size = s.heap.objs.size + 5 := by rw [Heap.size_push, z4]
  have g5 : (zipSH5 s.heap x y t u).get? (zipSH4 s.heap x y t u).objs.size = some _ := Heap.get?_push_size _ rfl
  have g4 : (zipSH5 s.heap x y t u).get? (zipSH3 s.heap x y t u).objs.size = some _ := Heap.get?_push_of_some _ (Heap.get?_push_size _ rfl)
  have g3 : (zipSH5 s.heap x y t u).get? (zipSH2 s.heap x y t u).objs.size = some _ := Heap.get?_push_of_some _ (Heap.get?_push_of_some _ (Heap.get?_push_size _ rfl))
  have g2 : (zipSH5 s.heap x y t u).get? (zipSH1 s.heap x t).objs.size = some _ := Heap.get?_push_of_some _ (Heap.get?_push_of_some _ (Heap.get?_push_of_some _ (Heap.get?_push_size _ rfl)))
  have g1 : (zipSH5 s.heap x y t u).get? s.heap.objs.size = some _ := Heap.get?_push_of_some _ (Heap.get?_push_of_some _ (Heap.get?_push_of_some _ (Heap.get?_push_of_some _ (Heap.get?_push_size _ rfl))))
  show _ ∧ _
  rw [z2, z3, z4] at g5
  rw [z1, z2] at g3
  rw [z3] at g4
  rw [z1] at g2
  rw [z4]
  exact ⟨⟨_, g5, rfl⟩, h _ g5 g3 g4 ⟨_, g1, rfl, rfl⟩ ⟨_, g2, rfl, rfl⟩ z5 fun c o x =>
    Heap.get?_push_of_some _ (Heap.get?_push_of_some _ (Heap.get?_push_of_some _ (Heap.get?_push_of_some _ (Heap.get?_push_of_some _ x))))⟩
end
/-- the walk: pairs of signs, as long as both have some -/
def ItzS (x y : Str) : It :=
  ⟨fun i H => i < x.cps.size ∧ i < y.cps.size,
    fun i H v H' => ∃ T c d, v = .ref T ∧ H T = none ∧ H' = upd H T (.tup [.str ⟨#[c]⟩, .str ⟨#[d]⟩]) ∧ x.cps[i]? = some c ∧ y.cps[i]? = some d,
    fun i H => x.cps.size ≤ i ∨ y.cps.size ≤ i⟩
theorem turn_zipS {P : Program} {w : World} {K : PySem.W.Frag} {elts : List Expr} {kk : Nat} {tpos : Pos} {x y : Str} {t1 t2 : Tok} {l1 l2 z TI TO i1 i2 : Addr} (D : ZipApart z TI TO i1 i2 l1 l2) :
    Turn P w K (.Tuple elts kk tpos) (ItzS x y) [z, TI, TO, i1, i2] z (fun i h => IsZip h z TI TO .none ∧ IsPair h TI (.ref i1) (.ref i2) ∧ (∃ x y, IsPair h TO x y) ∧ At8 h i1 x t1 i ∧ At8 h i2 y t2 i) where
  mem := by simp
  obj := fun i h st c hc => by
    obtain ⟨hz, hTI, ⟨x, y, hTO⟩, ⟨o1, e1, _, d1⟩, ⟨o2, e2, _, d2⟩⟩ := st
    have e' : c = z ∨ c = TI ∨ c = TO ∨ c = i1 ∨ c = i2 := by simpa using hc
    rcases e' with q | q | q | q | q
    · rw [q]; exact ⟨_, hz, fun v q => nomatch q⟩
    · rw [q]; exact ⟨_, hTI, fun v q => nomatch q⟩
    · rw [q]; exact ⟨_, hTO, fun v q => nomatch q⟩
    · rw [q]; exact ⟨o1, e1, fun v q => by rw [d1] at q; cases q⟩
    · rw [q]; exact ⟨o2, e2, fun v q => by rw [d2] at q; cases q⟩
  keep := fun i h h' st k => by
    obtain ⟨hz, hTI, ⟨x, y, hTO⟩, h1, h2⟩ := st
    exact ⟨k z (by simp) _ hz, k TI (by simp) _ hTI, ⟨x, y, k TO (by simp) _ hTO⟩, at8_at h1 fun o q => k i1 (by simp) o q, at8_at h2 fun o q => k i2 (by simp) o q⟩
  item := by
    intro X hP hw hK hc i pins s σ H E I hf st hg
    subst hP hw hK
    obtain ⟨hz, hTI, ⟨x0, y0, hTO⟩, h1, h2⟩ := st
    obtain ⟨hx, hy⟩ := hg
    obtain ⟨c1, ex⟩ : ∃ c, x.cps[i]? = some c := ⟨_, Array.getElem?_eq_getElem hx⟩
    obtain ⟨c2, ey⟩ : ∃ c, y.cps[i]? = some c := ⟨_, Array.getElem?_eq_getElem hy⟩
    have hzl : z < s.heap.objs.size := Heap.lt_size hz
    refine pyNext_zipS_item D hz hTI hTO h1 h2 ex ey fun h' u v z' TO' h1' h2' hT hsz hk => ?_
    refine ⟨_, rfl, wpAny_letOwnedTupleGo_zip (s := { s with heap := h', toks := s.toks + 2 }) z' fun h'' z'' sb => ?_⟩
    have hT2 : h''.get? s.heap.objs.size = some { cls := .type "tuple", data := .seq #[.str ⟨#[c1]⟩ u, .str ⟨#[c2]⟩ v] } := (sb.2 _ (Nat.ne_of_gt hzl)).trans hT
    have new : ObjOk X.prog X.w (upd H s.heap.objs.size (.tup [.str ⟨#[c1]⟩, .str ⟨#[c2]⟩])) h'' s.heap.objs.size (.tup [.str ⟨#[c1]⟩, .str ⟨#[c2]⟩]) :=
      ⟨by show 2 ≤ sizeLine; decide, [_, _], .cons ⟨u, rfl⟩ (.cons ⟨v, rfl⟩ .nil), ⟨_, hT2, rfl, _, rfl⟩⟩
    have I1 : Inv X pins σ (upd H s.heap.objs.size (.tup [.str ⟨#[c1]⟩, .str ⟨#[c2]⟩])) { s with heap := h'', toks := s.toks + 2 } :=
      I.turnedNew (t' := s.toks + 2) (ch := [z, TI, TO, i1, i2]) (fun c o hb q => (sb.2 c (fun q' => hb (by simp [q']))).trans (hk c o (fun q' => hb (by simp [q'])) (fun q' => hb (by simp [q'])) (fun q' => hb (by simp [q'])) (fun q' => hb (by simp [q'])) q)) hf (Nat.le_refl _) new
    refine ⟨.ref s.heap.objs.size, _, I1, rfl, ⟨_, _, _, rfl, I.hok.fresh (Nat.le_refl _), rfl, ex, ey⟩, ⟨z'', ?_, ⟨.str ⟨#[c1]⟩ u, .str ⟨#[c2]⟩ v, ?_⟩, ?_, ?_⟩, fun c hcm => ?_⟩
    · exact (sb.2 _ D.TIz).trans (hk _ _ D.TIz D.TITO D.TIi1 D.TIi2 hTI)
    · exact (sb.2 _ D.TOz).trans TO'
    · exact at8_at h1' fun o q => (sb.2 _ D.i1z).trans q
    · exact at8_at h2' fun o q => (sb.2 _ D.i2z).trans q
    · have hlt : c < s.heap.objs.size := by
        have e' : c = z ∨ c = TI ∨ c = TO ∨ c = i1 ∨ c = i2 := by simpa using hcm
        rcases e' with q | q | q | q | q
        · rw [q]; exact hzl
        · rw [q]; exact Heap.lt_size hTI
        · rw [q]; exact Heap.lt_size hTO
        · rw [q]; obtain ⟨_, e1, _⟩ := h1; exact Heap.lt_size e1
        · rw [q]; obtain ⟨_, e2, _⟩ := h2; exact Heap.lt_size e2
      rw [upd_ne (Nat.ne_of_lt hlt)]
      exact (hf c hcm).1
  done := by
    intro X hP hw hK hc i pins s σ H E I hf st hg
    subst hP hw hK
    obtain ⟨hz, hTI, ⟨x0, y0, hTO⟩, h1, h2⟩ := st
    have he : x.cps[i]? = none ∨ y.cps[i]? = none := by
      rcases hg with q | q
      · exact .inl (Array.getElem?_eq_none q)
      · exact .inr (Array.getElem?_eq_none q)
    exact pyNext_zipS_end (I.ok.hd hc) D hz hTI hTO h1 h2 he fun h' tk' hk => ⟨rfl, I.turnedL (t' := tk') (ch := [z, TI, TO, i1, i2]) (fun c o hb q =>
      hk c o (fun q' => hb (by simp [q'])) (fun q' => hb (by simp [q'])) (fun q' => hb (by simp [q'])) (fun q' => hb (by simp [q'])) q) hf⟩
  self := fun A i s Q E st h => wpAny_pyIter_zip st.1 h
section
variable {X : Cx} {σ : L2.St} {H : Hp} {e a b : Expr} {p pos tpos : Pos} {elts : List Expr} {kk : Nat}
theorem i_zipS {R : It → Hp → Prop} (B : Blt X.mg X.base) (h : wE X a σ H fun v H1 => wE X b σ H1 fun u H2 => ∃ x y : Str, v = .str x ∧ u = .str y ∧ x.cps.all (· < 128) = true ∧ y.cps.all (· < 128) = true ∧ R (ItzS x y) H2) (hg : Gl X "zip" := by rfl)
    (hs : starEach [a, b] X.env = (false, eval a X.env) :: starEach [b] X.env := by rfl) (hs2 : starEach [b] X.env = [(false, eval b X.env)] := by rfl) :
    wI X (.Tuple elts kk tpos) (.Call (.Name "zip" p) [a, b] [] pos) σ H R := by
  have ha : wA X [a, b] σ H fun vs H2 => ∃ x y : Str, vs = [.str x, .str y] ∧ x.cps.all (· < 128) = true ∧ y.cps.all (· < 128) = true ∧ R (ItzS x y) H2 :=
    a_cons (wE_mono h fun v H1 q => a_cons (wE_mono q fun u H2 ⟨x, y, e1, e2, r⟩ => a_nil ⟨x, y, by rw [e1, e2], r⟩) hs2) hs
  refine ⟨fun pins s I => ?_⟩
  refine Call_ (ld_blt I hg B.zip PyProof.Rows.boot_zip (PyProof.Rows.callWith_type1 (thn (ha.run pos pins _ I) fun us s1 ⟨vs, H1, I1, r1, q1⟩ => ?_) hs (by rw [hs2]; rfl)))
  obtain ⟨x, y, ex, hx, hy, q⟩ := q1
  subst ex
  obtain ⟨u1, u2, rfl, ⟨t1, rfl⟩, ⟨t2, rfl⟩⟩ := vals2 r1
  have fresh5 : ∀ c, c ∈ [s1.heap.objs.size + 4, s1.heap.objs.size + 2, s1.heap.objs.size + 3, s1.heap.objs.size, s1.heap.objs.size + 1] → FpOk X pins H1 c := fun c hcm => by
    have e' : c = s1.heap.objs.size + 4 ∨ c = s1.heap.objs.size + 2 ∨ c = s1.heap.objs.size + 3 ∨ c = s1.heap.objs.size ∨ c = s1.heap.objs.size + 1 := by simpa using hcm
    have hle : s1.heap.objs.size ≤ c := by
      rcases e' with z | z | z | z | z
      · rw [z]; exact Nat.le_add_right _ _
      · rw [z]; exact Nat.le_add_right _ _
      · rw [z]; exact Nat.le_add_right _ _
      · rw [z]; exact Nat.le_refl _
      · rw [z]; exact Nat.le_add_right _ _
    exact I1.fpOk hle (I1.hok.fresh hle)
  obtain ⟨m, ⟨oL, _, _, hoL, _⟩, _⟩ := id I1.loc
  refine call_zipS hx hy fun h' hz hTI hTO h1 h2 hsz hk => wpAny_pyIter_zip hz ?_
  have I2 : Inv X pins σ H1 { s1 with heap := h' } := I1.kept (t' := s1.toks) hk
  exact ⟨s1.heap.objs.size + 4, [s1.heap.objs.size + 4, s1.heap.objs.size + 2, s1.heap.objs.size + 3, s1.heap.objs.size, s1.heap.objs.size + 1], _, _, H1, rfl, I2, turn_zipS (PySem.W.ktu_apart s1.heap.objs.size _ _ (Heap.lt_size hoL) (Heap.lt_size hoL)), ⟨hz, hTI, ⟨_, _, hTO⟩, h1, h2⟩, fresh5, q⟩
end
theorem walk_zipS {x y : Str} {n : Nat} (hn : n = min x.cps.size y.cps.size) : Walk (ItzS x y) n (fun _ => True) (fun i H v H' => ∃ T c d, v = .ref T ∧ H T = none ∧ H' = upd H T (.tup [.str ⟨#[c]⟩, .str ⟨#[d]⟩]) ∧ x.cps[i]? = some c ∧ y.cps[i]? = some d) := by
  subst hn
  exact ⟨fun i _ hi _ => ⟨by omega, by omega⟩, fun _ _ => by show _ ∨ _; omega, fun _ _ _ _ _ _ y => y⟩
end Z

set_option Elab.async false
set_option linter.all false
set_option maxRecDepth 100000
set_option maxHeartbeats 4000000
/-! rules by value, slices, methods -/
namespace Z
open PySem PySem.Spec PyProof.Rows L2
section
variable {X : Cx} {k : Nat} {W : WX} {σ : L2.St} {H : Hp} {e a b o : Expr} {es : List Expr} {p p2 pos : Pos} {Q : VK}
theorem o_add {i j : Int} (q : Q (.int (i + j)) H) : oW X (binaryOp .Add) (.int i) (.int j) H Q := oW_of op_add ⟨i, j, rfl, rfl, q⟩
theorem o_sub {i j : Int} (q : Q (.int (i - j)) H) : oW X (binaryOp .Sub) (.int i) (.int j) H Q := oW_of op_sub ⟨i, j, rfl, rfl, q⟩
theorem o_mul {i j : Int} (h : CMul i j) (q : Q (.int (i * j)) H) : oW X (binaryOp .Mult) (.int i) (.int j) H Q := oW_of op_mul ⟨i, j, rfl, rfl, h, q⟩
theorem o_div {i j : Int} (h : CDiv i j) (q : Q (.int (i / j)) H) : oW X (binaryOp .FloorDiv) (.int i) (.int j) H Q := oW_of op_fdiv ⟨i, j, rfl, rfl, h, q⟩
theorem o_mod {i j : Int} (h : 0 < j) (q : Q (.int (i % j)) H) : oW X (binaryOp .Mod) (.int i) (.int j) H Q := oW_of op_mod ⟨i, j, rfl, rfl, h, q⟩
theorem o_pow {i j : Int} (h : CPow i j) (q : Q (.int (i ^ j.toNat)) H) : oW X (binaryOp .Pow) (.int i) (.int j) H Q := oW_of op_pow ⟨i, j, rfl, rfl, h, q⟩
theorem o_adds {i j : Str} (h : i.length + j.length ≤ sizeLine) (q : Q (.str (i ++ j)) H) : oW X (binaryOp .Add) (.str i) (.str j) H Q := oW_of op_add_str ⟨i, j, rfl, rfl, h, q⟩
theorem u_neg {i : Int} (q : Q (.int (-i)) H) : uW X (unaryOp .USub) (.int i) H Q := uW_of un_neg ⟨i, rfl, q⟩
theorem c_lt {i j : Int} (q : Q (.bl (decide (i < j))) H) : oW X (compareOp .Lt) (.int i) (.int j) H Q := oW_of op_lt ⟨i, j, rfl, rfl, q⟩
theorem c_le {i j : Int} (q : Q (.bl (decide (i ≤ j))) H) : oW X (compareOp .LtE) (.int i) (.int j) H Q := oW_of op_le ⟨i, j, rfl, rfl, q⟩
theorem c_gt {i j : Int} (q : Q (.bl (decide (j < i))) H) : oW X (compareOp .Gt) (.int i) (.int j) H Q := oW_of op_gt ⟨i, j, rfl, rfl, q⟩
theorem c_ge {i j : Int} (q : Q (.bl (decide (j ≤ i))) H) : oW X (compareOp .GtE) (.int i) (.int j) H Q := oW_of op_ge ⟨i, j, rfl, rfl, q⟩
theorem c_eq {x y : V} (h : scal x y = true) (q : Q (.bl (decide (x = y))) H) : oW X (compareOp .Eq) x y H Q := oW_of op_eq ⟨h, q⟩
theorem c_ne {x y : V} (h : scal x y = true) (q : Q (.bl (!decide (x = y))) H) : oW X (compareOp .NotEq) x y H Q := oW_of op_ne ⟨h, q⟩
theorem c_isN {x : V} (q : Q (.bl (decide (x = .non))) H) : oW X (compareOp .Is) x .non H Q := oW_of op_isN ⟨rfl, q⟩
theorem c_notN {x : V} (q : Q (.bl (!decide (x = .non))) H) : oW X (compareOp .IsNot) x .non H Q := oW_of op_notN ⟨rfl, q⟩
theorem c_ltS {i j : Str} (q : Q (.bl (decide (i.cps.toList < j.cps.toList))) H) : oW X (compareOp .Lt) (.str i) (.str j) H Q := oW_of op_lt_str ⟨i, j, rfl, rfl, q⟩
theorem c_inSign {c : Nat} {z : Str} (q : Q (.bl (decide (c ∈ z.cps.toList))) H) : oW X (compareOp .In) (.str ⟨#[c]⟩) (.str z) H Q := oW_of op_in_sign ⟨c, z, rfl, rfl, q⟩
theorem c_inL {x : V} {q : Addr} {xs : List V} (hq : SqL X.K H q xs ∨ SqT X.K H q xs) (fx : flatV x = true) (fs : xs.all flatV = true) (h : Q (.bl (inV x xs)) H) : oW X (compareOp .In) x (.ref q) H Q := oW_of op_in_seq ⟨q, xs, rfl, hq, fx, fs, by exact h⟩
theorem c_notInL {x : V} {q : Addr} {xs : List V} (hq : SqL X.K H q xs ∨ SqT X.K H q xs) (fx : flatV x = true) (fs : xs.all flatV = true) (h : Q (.bl (!inV x xs)) H) : oW X (compareOp .NotIn) x (.ref q) H Q := oW_of op_notIn_seq ⟨q, xs, rfl, hq, fx, fs, by exact h⟩

/-- the part of a slice -/
def wO (X : Cx) (e : Option Expr) : L2.TO := match e with | none => tNoPart | some e => tPart (wE X e)
theorem pO {e : Option Expr} : PO X e (wO X e) := match e with | none => po_none | some _ => po_some pE
theorem e_slice {r : V → Option Int → Option Int → Hp → VK → Prop} {lo hi : Option Expr} (hr : SlR X r) (h : wE X e σ H fun x H1 => wO X lo σ H1 fun l H2 => wO X hi σ H2 fun u H3 => r x l u H3 Q) : wE X (.Subscript e (.Slice lo hi none p2) pos) σ H Q :=
  eE (pe_slice hr pE pO pO) h
theorem p_none {R : Option Int → Hp → Prop} (h : R none H) : wO X none σ H R := h
theorem p_some {R : Option Int → Hp → Prop} (h : wE X e σ H fun x H1 => ∃ i, x = .int i ∧ R (some i) H1) : wO X (some e) σ H R := h
/-- "..".join(xs) -/
theorem e_join {apos : Pos} (h : wE X o σ H fun x H1 => ∃ s : Str, x = .str s ∧ wE X a σ H1 fun y H2 => ∃ q, ∃ ys : List Str, y = .ref q ∧ (SqL X.K H2 q (ys.map V.str) ∨ SqT X.K H2 q (ys.map V.str)) ∧ (ys.map (·.length)).sum + ys.length * s.length ≤ 16777216 ∧ Q (.str (Txt.join s ys)) H2)
    (hs : starEach [a] X.env = [(false, eval a X.env)] := by rfl) (hbase : attributeBase o "join" X.env (eval o X.env) = eval o X.env := by rfl) (hline : (apos.endLine == pos.line) = true := by rfl) : wE X (.Call (.Attribute o "join" apos) [a] [] pos) σ H Q :=
  eE (pe_join pE pE hs hbase hline) (wE_mono h fun x H1 ⟨s, e1, h1⟩ => ⟨⟨s, e1⟩, wE_mono h1 fun y H2 ⟨q, ys, e2, h2, h3, h4⟩ => ⟨s, q, ys, e1, by rw [e2], h2, h3, h4⟩⟩)
/-- xs.append(v) -/
theorem e_append {apos : Pos} (h : wE X o σ H fun x H1 => ∃ q, x = .ref q ∧ (∃ ys, H1 q = some (.lst ys)) ∧ wE X a σ H1 fun y H2 => ∃ xs, H2 q = some (.lst xs) ∧ xs.length < sizeLine ∧ Q .non (upd H2 q (.lst (xs ++ [y]))))
    (hs : starEach [a] X.env = [(false, eval a X.env)] := by rfl) (hbase : attributeBase o "append" X.env (eval o X.env) = eval o X.env := by rfl) (hline : (apos.endLine == pos.line) = true := by rfl)
    (hfew : ((backTo pos (starEach [a] X.env)).all (fun x => !x.1) && (backToKw pos (keywordEach [] X.env)).all (fun x => x.1.isSome) && decide (([a] : List Expr).length + ([] : List Keyword).length + (if ([] : List Keyword).isEmpty then 0 else 1) < 30)) = true := by rfl) :
    wE X (.Call (.Attribute o "append" apos) [a] [] pos) σ H Q :=
  eE (pe_bm PySem.F.plainAttrs_list PySem.F.slot_list_append PySem.F.type_list_append mt_append pE pA hbase hfew hline (by rw [hs]; rfl) rfl)
    (wE_mono h fun x H1 ⟨q, e1, ⟨ys, h0⟩, h1⟩ => ⟨by rw [e1]; exact .inl ⟨rfl, ys, .inl (.inl h0)⟩, a_cons (wE_mono h1 fun y H2 ⟨xs, h2, h3, h4⟩ => a_nil ⟨q, xs, y, e1, rfl, h2, h3, h4⟩) (by rw [hs]; rfl)⟩)
end
end Z

set_option Elab.async false
set_option linter.all false
set_option maxRecDepth 100000
set_option maxHeartbeats 4000000
/-! comprehensions that only read -/
namespace Z
open PySem PySem.Spec PyProof.Rows L2
section
variable {X : Cx} {k : Nat} {W : WX} {σ : L2.St} {H : Hp} {pos : Pos} {Q : VK} {elt tg iter : Expr} {scope : Scope}
/-- one turn that only reads: the item x, the heap H; the target is bound, the element told -/
def MapTurn (X : Cx) (scope : Scope) (vs : List Nat) (tg elt : Expr) (σ : L2.St) (x : V) (H : Hp) (R : V → Prop) : Prop :=
  wGb X scope tg x (wipe σ vs) H fun σ2 H2 => wipe σ2 vs = wipe σ vs ∧ But [] H H2 ∧ wEb X scope elt σ2 H2 fun v H4 => R v ∧ But [] H2 H4
theorem lcM_core {J : It} {n : Nat} {G : Hp → Prop} {Y : Nat → Hp → V → Hp → Prop} {own : List (Str × Nat)} {H1 : Hp} {ys : List V} (w : Walk J n G Y) (hn : ys.length = n) (hz : n ≤ sizeLine) (hG : ∀ H', But [] H1 H' → G H')
    (ht : ∀ i x H2 H', i < n → But [] H1 H2 → Y i H2 x H' → But [] H2 H' ∧ MapTurn X scope (own.map (·.2)) tg elt σ x H' fun v => ys[i]? = some v) {Qd : Addr → Hp → Prop}
    (hq : ∀ D H', But [] H1 H' → H1 D = none → H' D = some (.lst ys) → Qd D H') : ∀ D, H1 D = none → ∃ Pv : Nat → Hp → Prop, Pv 0 (upd H1 D (.lst [])) ∧ (∀ i H, i ≤ n → Pv i H → G H) ∧
      (∀ i x H H', i < n → Pv i H → Y i H x H' → LcTurn X scope (own.map (·.2)) tg [] elt σ D x H' (Pv (i + 1))) ∧ ∀ H, Pv n H → Qd D H := by
  intro D hD
  refine ⟨fun i H' => But [] H1 H' ∧ H' D = some (.lst (ys.take i)), ⟨But.new hD, by rw [upd_same]; rfl⟩, fun i H' _ h => hG H' h.1, ?_, fun H' h => hq D H' h.1 hD (by rw [h.2, ← hn, List.take_length])⟩
  intro i x H2 H' hi hP hY
  obtain ⟨hb, hm⟩ := ht i x H2 H' hi hP.1 hY
  intro s H0 C cl fp
  refine ⟨fun pins s2 u I r => thn ((hm s H0 C cl fp).run pins s2 u I r) fun _ s3 h3 => ?_⟩
  obtain ⟨σ', H3, I3, e1, b3, h3⟩ := h3
  refine ⟨σ', H3, I3, e1, fun s H0 C cl fp => eIf pts_nil ?_⟩
  intro s H0 C cl fp
  refine wE_mono (h3 s H0 C cl fp) fun v H4 ⟨hv, b4⟩ => ?_
  have hD4 : H4 D = some (.lst (ys.take i)) := b4 _ _ (by simp) (b3 _ _ (by simp) (hb _ _ (by simp) hP.2))
  refine ⟨_, hD4, by have := List.length_take_le i ys; rw [List.length_take]; omega, ?_, ?_⟩
  · refine fun q o _ e => ?_
    have ne : q ≠ D := ne_of_none e hD
    rw [upd_ne ne]
    exact b4 _ _ (by simp) (b3 _ _ (by simp) (hb _ _ (by simp) (hP.1 _ _ (by simp) e)))
  · rw [upd_same, List.take_add_one, hv]
    rfl
theorem e_lcM (own : List (Str × Nat)) (C : Cxt X k W)
    (h : wI X tg iter σ H fun J H1 => ∃ n G Y ys, Walk J n G Y ∧ ys.length = n ∧ n ≤ sizeLine ∧ (∀ H', But [] H1 H' → G H') ∧
      (∀ i x H2 H', i < n → But [] H1 H2 → Y i H2 x H' → But [] H2 H' ∧ MapTurn X scope (own.map (·.2)) tg elt σ x H' fun v => ys[i]? = some v) ∧
      ∀ D H', But [] H1 H' → H1 D = none → H' D = some (.lst ys) → Q (.ref D) H')
    (ok : BlkOk X.N X.env.scope scope own := by exact blkOk_by (by first | rfl | kernel_rfl)) (hs : ∀ x, foldedSetIterable iter X.env x = pure x := by intro _; rfl) :
    wE X (.ListComp elt [⟨tg, iter, [], 0⟩] scope pos) σ H Q :=
  e_lc own C (wI_mono h fun J H1 ⟨n, G, Y, ys, w, h1, h2, h3, h4, h5⟩ => ⟨n, G, Y, w, lcM_core w h1 h2 h3 h4 h5⟩) ok hs
/-- the target is a name -/
theorem mt_name {i : Nat} {y : Str} {p : Pos} {vs : List Nat} {x : V} {R : V → Prop} (hN : X.N.Nodup)
    (h : wEb X scope elt ((wipe σ vs).set i (some x)) H fun v H4 => R v ∧ But [] H H4) (hw : wipe ((wipe σ vs).set i (some x)) vs = wipe σ vs := by rfl) (hi : X.N[i]? = some y := by rfl)
    (hx : Loc (relS scope X.env.scope) y := by first | exact Or.inl rfl | exact Or.inr rfl) (hf : (scope.names.lookup y == some .cell) = true ∨ (relS scope X.env.scope).names.lookup y = some .local := by first | exact .inl rfl | exact .inr rfl) :
    MapTurn X scope vs (.Name y p) elt σ x H R := by
  intro s H0 C cl fp
  exact g_name (i := i) ⟨hw, But.refl, h⟩ hN hi hx hf
/-- the target is a pair of names -/
theorem mt_pair {i j : Nat} {y z : Str} {p p' pt : Pos} {kt} {vs : List Nat} {q : Addr} {u v : V} {R : V → Prop} (hc : X.calm = true) (hN : X.N.Nodup) (hq : H q = some (.tup [u, v]))
    (h : wEb X scope elt (((wipe σ vs).set i (some u)).set j (some v)) H fun v H4 => R v ∧ But [] H H4) (hw : wipe (((wipe σ vs).set i (some u)).set j (some v)) vs = wipe σ vs := by rfl) (hi : X.N[i]? = some y := by rfl) (hj : X.N[j]? = some z := by rfl)
    (hx : Loc (relS scope X.env.scope) y := by first | exact Or.inl rfl | exact Or.inr rfl) (hf : (scope.names.lookup y == some .cell) = true ∨ (relS scope X.env.scope).names.lookup y = some .local := by first | exact .inl rfl | exact .inr rfl)
    (hx2 : Loc (relS scope X.env.scope) z := by first | exact Or.inl rfl | exact Or.inr rfl) (hf2 : (scope.names.lookup z == some .cell) = true ∨ (relS scope X.env.scope).names.lookup z = some .local := by first | exact .inl rfl | exact .inr rfl) :
    MapTurn X scope vs (.Tuple [.Name y p, .Name z p'] kt pt) elt σ (.ref q) H R := by
  intro s H0 C cl fp
  refine g_tup (gs_cons (g_name (i := i) (gs_cons (g_name (i := j) (gs_nil ⟨hw, But.refl, h⟩) hN hj hx2 hf2)) hN hi hx hf)) hc (.inl (.inl hq))
/-- if c: u else: v, where the test only reads -/
theorem s_ifB {c : Expr} {u v : List Stmt} {D : Ends} (b : Bool) (ht : wT X c σ H fun x H1 => x = b ∧ But [] H H1) (h1 : b = true → ∀ H1, But [] H H1 → wB X u D σ H1) (h2 : b = false → ∀ H1, But [] H H1 → wB X v D σ H1) : wS X (.If c u v pos) D σ H :=
  s_if (wT_mono ht fun x H1 ⟨e, k⟩ => by
    subst e
    split
    · rename_i e
      exact h1 e H1 k
    · rename_i e
      exact h2 (by simpa using e) H1 k)
theorem ite_b {p q : Prop} {b : Bool} (h1 : b = true → p) (h2 : b = false → q) : if b = true then p else q := by
  cases b with
  | true => exact h1 rfl
  | false => exact h2 rfl
end
end Z

/-! plain: a text in pieces -/
set_option Elab.async false
set_option linter.all false
namespace Z
open PySem PySem.Spec PyProof.Rows L2 TL
def sOf (l : List Nat) : Str := ⟨l.toArray⟩
theorem sOf_list {l : List Nat} : (sOf l).cps.toList = l := by simp [sOf]
theorem sOf_len {l : List Nat} : (sOf l).length = l.length := by show (sOf l).cps.size = _; simp [sOf]
theorem sOf_str (x : Str) : sOf x.cps.toList = x := by cases x; simp [sOf]
theorem str_ext {x y : Str} (h : x.cps.toList = y.cps.toList) : x = y := by rw [← sOf_str x, ← sOf_str y, h]
def chunks (l : List Nat) (n : Nat) : List (List Nat) := if l.length ≤ n then [l] else (List.range ((l.length + n - 1) / n)).map fun i => (l.drop (i * n)).take n
theorem chunk_flat (l : List Nat) (n : Nat) : ∀ m, ((List.range m).map fun i => (l.drop (i * n)).take n).flatten = l.take (m * n)
  | 0 => by simp
  | m + 1 => by
    rw [List.range_succ, List.map_append, List.flatten_append, chunk_flat l n m]
    simp only [List.map_cons, List.map_nil, List.flatten_cons, List.flatten_nil, List.append_nil]
    rw [Nat.add_mul, Nat.one_mul, List.take_add]
theorem up_div {a n : Nat} (hn : 0 < n) : a ≤ (a + n - 1) / n * n := by
  have h := Nat.lt_div_mul_add hn (a := a + n - 1)
  omega
theorem chunks_flatten (l : List Nat) {n : Nat} (hn : 0 < n) : (chunks l n).flatten = l := by
  unfold chunks
  split
  · simp
  · rw [chunk_flat, List.take_of_length_le (up_div hn)]
theorem chunks_length (l : List Nat) {n : Nat} (hn : 0 < n) : (chunks l n).length = max 1 ((l.length + n - 1) / n) := by
  unfold chunks
  split
  · rename_i h
    have : (l.length + n - 1) / n ≤ 1 := by
      rw [← Nat.lt_succ_iff, Nat.div_lt_iff_lt_mul hn]
      omega
    simp only [List.length_singleton]
    omega
  · rename_i h
    rw [List.length_map, List.length_range]
    have : 1 ≤ (l.length + n - 1) / n := by
      rw [Nat.le_div_iff_mul_le hn]
      omega
    omega
theorem chunks_last (l : List Nat) {n : Nat} (hn : 0 < n) : ∀ p ∈ (chunks l n).getLast?, p.length ≤ n := by
  unfold chunks
  split
  · simp_all
  · intro p hp
    obtain ⟨i, hi⟩ : ∃ i, p = (l.drop (i * n)).take n := by
      have := List.mem_of_getLast? hp
      obtain ⟨i, _, e⟩ := List.mem_map.mp this
      exact ⟨i, e.symm⟩
    rw [hi]
    exact List.length_take_le _ _
theorem chunks_each (l : List Nat) {n : Nat} (hn : 0 < n) : ∀ p ∈ chunks l n, p.length ≤ n := by
  unfold chunks
  split
  · simp_all
  · intro p hp
    obtain ⟨i, _, e⟩ := List.mem_map.mp hp
    rw [← e]
    exact List.length_take_le _ _
theorem chunks_init (l : List Nat) {n : Nat} (hn : 0 < n) : ∀ p ∈ (chunks l n).dropLast, p.length = n := by
  unfold chunks
  split
  · simp
  · rename_i h
    intro p hp
    rw [← List.map_dropLast] at hp
    obtain ⟨i, hi, e⟩ := List.mem_map.mp hp
    have hi2 : i + 1 < (l.length + n - 1) / n := by
      obtain ⟨j, hj, ej⟩ := List.getElem_of_mem hi
      rw [List.getElem_dropLast, List.getElem_range] at ej
      rw [List.length_dropLast, List.length_range] at hj
      omega
    have : (i + 2) * n ≤ l.length + n - 1 := by
      rw [← Nat.le_div_iff_mul_le hn]
      omega
    rw [← e, List.length_take, List.length_drop]
    have e2 : (i + 2) * n = i * n + 2 * n := Nat.add_mul i 2 n
    omega
theorem chunks_ne (l : List Nat) {n : Nat} (hn : 0 < n) (hl : l ≠ []) : ∀ p ∈ chunks l n, p ≠ [] := by
  intro p hp hp0
  unfold chunks at hp
  split at hp
  · simp at hp
    exact hl (hp ▸ hp0)
  · obtain ⟨i, hi, e⟩ := List.mem_map.mp hp
    rw [List.mem_range, Nat.lt_iff_add_one_le, Nat.le_div_iff_mul_le hn, Nat.add_mul, Nat.one_mul] at hi
    have h2 : ((l.drop (i * n)).take n).length = 0 := by rw [e, hp0]; rfl
    rw [List.length_take, List.length_drop] at h2
    omega
theorem joinL_nil : ∀ ps : List (List Nat), joinL [] ps = ps.flatten
  | [] => rfl
  | [p] => by simp [joinL]
  | p :: q :: r => by
    have := joinL_nil (q :: r)
    simp only [joinL, List.nil_append, this, List.flatten_cons]
theorem join_nil (ls : List (List Nat)) : Txt.join "" (ls.map sOf) = sOf ls.flatten := by
  apply str_ext
  rw [sOf_list, join_eq]
  have := tl_join "" (ls.map sOf)
  show tl _ = _
  rw [this, List.map_map]
  have e1 : tl "" = [] := rfl
  have e2 : tl ∘ sOf = id := by
    funext l
    exact sOf_list
  rw [e1, joinL_nil, e2, List.map_id]
end Z

set_option Elab.async false
set_option linter.all false
set_option maxRecDepth 100000
set_option maxHeartbeats 4000000
/-! plain: what can be shown -/
namespace Z
open PySem PySem.Spec PyProof.Rows L2 TL
/-- small enough to be shown -/
def rp (d : PyData) : Bool := d.showable && decide (d.depth ≤ 64) && d.leavesShort 40 && decide (d.weight ≤ 300000)
theorem rp_len {d : PyData} (h : rp d = true) : d.showable = true ∧ d.depth ≤ 64 ∧ d.shown.length ≤ sizeLine := by
  simp only [rp, Bool.and_eq_true, decide_eq_true_eq] at h
  have h2 := PyData.shown_le 40 (by decide) d h.1.2
  refine ⟨h.1.1.1, h.1.1.2, ?_⟩
  rw [sizeLine_eq]
  omega
theorem weight_strs : ∀ ys : List Str, PyData.weightAll (ys.map PyData.str) = (ys.map (·.length)).sum + ys.length
  | [] => rfl
  | y :: ys => by
    have := weight_strs ys
    simp only [List.map_cons, PyData.weightAll, List.sum_cons, List.length_cons, PyData.weight, this]
    show y.cps.size + 1 + _ = y.cps.size + _ + _
    omega
theorem depth_strs : ∀ ys : List Str, PyData.depthAll (ys.map PyData.str) ≤ 1
  | [] => by simp [PyData.depthAll]
  | y :: ys => by
    have := depth_strs ys
    simp only [List.map_cons, PyData.depthAll, PyData.depth]
    omega
theorem showable_strs : ∀ ys : List Str, PyData.showableAll (ys.map PyData.str) = true
  | [] => rfl
  | y :: ys => by simp [PyData.showableAll, PyData.showable, showable_strs ys]
theorem leaves_strs : ∀ ys : List Str, (∀ y ∈ ys, ∀ c ∈ y.cps.toList, c < 4294967296) → PyData.leavesShortAll 40 (ys.map PyData.str) = true
  | [], _ => rfl
  | y :: ys, h => by
    simp only [List.map_cons, PyData.leavesShortAll, PyData.leavesShort, leaves_strs ys (fun z hz => h z (by simp [hz])), Bool.and_true, List.all_eq_true, decide_eq_true_eq]
    intro c hc
    exact h y (by simp) c hc
theorem rp_strs {ys : List Str} (hs : (ys.map (·.length)).sum + ys.length ≤ 300000) (hc : ∀ y ∈ ys, ∀ c ∈ y.cps.toList, c < 4294967296) : rp (.list (ys.map PyData.str)) = true := by
  have := depth_strs ys
  have e1 : (PyData.list (ys.map PyData.str)).depth ≤ 64 := by simp only [PyData.depth]; omega
  have e2 : (PyData.list (ys.map PyData.str)).weight ≤ 300000 := by simp only [PyData.weight, weight_strs]; omega
  have e3 : (PyData.list (ys.map PyData.str)).showable = true := by simp only [PyData.showable, showable_strs]
  have e4 : (PyData.list (ys.map PyData.str)).leavesShort 40 = true := by simp only [PyData.leavesShort, leaves_strs ys hc]
  rw [rp, e3, e4, decide_eq_true e1, decide_eq_true e2]
  rfl
theorem rp_str {y : Str} (hs : y.length ≤ 300000) (hc : ∀ c ∈ y.cps.toList, c < 4294967296) : rp (.str y) = true := by
  have e1 : (PyData.str y).depth ≤ 64 := by simp only [PyData.depth]; omega
  have e2 : (PyData.str y).weight ≤ 300000 := by simp only [PyData.weight]; exact hs
  have e3 : (PyData.str y).showable = true := by simp only [PyData.showable]
  have e4 : (PyData.str y).leavesShort 40 = true := by simp only [PyData.leavesShort, List.all_eq_true, decide_eq_true_eq]; exact fun c h => hc c h
  rw [rp, e3, e4, decide_eq_true e1, decide_eq_true e2]
  rfl
section
variable {X : Cx} {k : Nat} {W : WX} {σ : L2.St} {H : Hp} {a : Expr} {p pos : Pos} {Q : VK}
theorem e_rep (B : Blt X.mg X.base) (hg : X.A.guards = some []) (hu : X.A.units + 66 < cLine) (h : wE X a σ H fun v H1 => ∃ l d, DD X.K l H1 v d ∧ rp d = true ∧ Q (.str d.shown) H1) (hgl : Gl X "repr" := by rfl) (hs : starEach [a] X.env = [(false, eval a X.env)] := by rfl) :
    wE X (.Call (.Name "repr" p) [a] [] pos) σ H Q :=
  e_repr B hg hu (wE_mono h fun v H1 ⟨l, d, h1, h2, q⟩ => ⟨l, d, h1, (rp_len h2).1, (rp_len h2).2.1, (rp_len h2).2.2, q⟩) hgl hs
theorem vals_rev : ∀ {vs : List V} {us : List Value}, Vals vs us → Vals vs.reverse us.reverse
  | _, _, .nil => .nil
  | _, _, .cons r h => by
    rw [List.reverse_cons, List.reverse_cons]
    exact (vals_rev h).append (.cons r .nil)
end
end Z

set_option Elab.async false
set_option linter.all false
set_option maxRecDepth 100000
set_option maxHeartbeats 4000000
/-! literals of data; what stays across the making of lambdas -/
namespace Z
open PySem PySem.Spec PyProof.Rows L2 LamX
section
variable {X : Cx} {σ : L2.St} {l : List Addr} {H : Hp} {e a b : Expr} {es : List Expr}
theorem wA_mono {Q Q' : List V → Hp → Prop} (h : wA X es σ H Q) (k : ∀ v H', Q v H' → Q' v H') : wA X es σ H Q' := ⟨fun pos pins s I => thn (h.run pos pins s I) fun _ _ ⟨v, H', I', r, q⟩ => ⟨v, H', I', r, k v H' q⟩⟩
theorem DDs.mem {K : PySem.W.Frag} : ∀ {vs : List V} {ds : List PyData} {v : V}, DDs K l H vs ds → v ∈ vs → ∃ d ∈ ds, DD K l H v d
  | _, _, _, .nil, h => by simp at h
  | _, _, _, .cons h r, e => by
    rcases List.mem_cons.mp e with e | e
    · subst e
      exact ⟨_, by simp, h⟩
    · obtain ⟨d, hd, h'⟩ := DDs.mem r e
      exact ⟨d, by simp [hd], h'⟩
section
variable {K : PySem.W.Frag}
/-- e is told as the datum d, whatever is added to the heap; nothing of it lies at l -/
def Lit (K : PySem.W.Frag) (X : Cx) (l : List Addr) (σ : L2.St) (H : Hp) (e : Expr) (d : PyData) : Prop := ∀ H1, But [] H H1 → wE X e σ H1 fun v H2 => But [] H1 H2 ∧ DD K l H2 v d
def Lits (K : PySem.W.Frag) (X : Cx) (l : List Addr) (σ : L2.St) (H : Hp) (es : List Expr) (ds : List PyData) : Prop := ∀ H1, But [] H H1 → wA X es σ H1 fun vs H2 => But [] H1 H2 ∧ DDs K l H2 vs ds
/-- what stands at l is there -/
def Here (l : List Addr) (H : Hp) : Prop := ∀ q ∈ l, ∃ o, H q = some o
theorem Here.new {p : Addr} {H1 : Hp} (h : Here l H) (b : But [] H H1) (n : H1 p = none) : p ∉ l := fun z => by
  obtain ⟨o, e⟩ := h p z
  rw [b _ _ (by simp) e] at n
  cases n
theorem lit_none {j} {pos : Pos} : Lit K X l σ H (.Constant .none j pos) .none := fun _ _ => e_none ⟨But.refl, .non⟩
theorem lit_int {i : Int} {j} {pos : Pos} : Lit K X l σ H (.Constant (.int i) j pos) (.int i) := fun _ _ => e_int ⟨But.refl, .int i⟩
theorem lit_str {x : Str} {j} {pos : Pos} : Lit K X l σ H (.Constant (.str x) j pos) (.str x) := fun _ _ => e_str ⟨But.refl, .str x⟩
theorem lit_bool {b : Bool} {j} {pos : Pos} : Lit K X l σ H (.Constant (.bool b) j pos) (.bool b) := fun _ _ => e_bool ⟨But.refl, .bl b⟩
theorem lit_neg {i : Int} {j} {pos p2 : Pos} : Lit K X l σ H (.UnaryOp .USub (.Constant (.int i) j pos) p2) (.int (-i)) := fun _ _ => e_un (e_int (u_neg ⟨But.refl, .int _⟩))
theorem lit_pow {i k : Int} {j j'} {pos p2 p3 : Pos} (h : CPow i k) : Lit K X l σ H (.BinOp (.Constant (.int i) j pos) .Pow (.Constant (.int k) j' p2) p3) (.int (i ^ k.toNat)) := fun _ _ => e_bin (e_int (e_int (o_pow h ⟨But.refl, .int _⟩)))
theorem lits_nil : Lits K X l σ H [] [] := fun _ _ => a_nil ⟨But.refl, .nil⟩
theorem lits_cons {d : PyData} {ds : List PyData} (h : Lit K X l σ H e d) (r : Lits K X l σ H es ds) (hs : starEach (e :: es) X.env = (false, eval e X.env) :: starEach es X.env := by rfl) : Lits K X l σ H (e :: es) (d :: ds) := fun H1 b1 =>
  a_cons (wE_mono (h H1 b1) fun v H2 ⟨b2, h2⟩ => wA_mono (r H2 (b1.trans b2)) fun vs H3 ⟨b3, h3⟩ => ⟨b2.trans b3, .cons (h2.but b3.of) h3⟩) hs
theorem lit_lst {ds : List PyData} {pos : Pos} (hl : Here l H) (r : Lits K X l σ H es ds) (hn : ds.length ≤ 16777216 := by decide) : Lit K X l σ H (.List es pos) (.list ds) := fun H1 b1 =>
  e_lst (wA_mono (r H1 b1) fun vs H2 ⟨b2, h2⟩ => ⟨by rw [h2.length, sizeLine_eq]; exact hn, fun p hp => ⟨b2.trans (But.new hp), .lst (.inl (.inl upd_same)) (hl.new (b1.trans b2) hp) (h2.but (But.new hp))⟩⟩)
theorem lit_tup {ds : List PyData} {x1} {pos : Pos} (hl : Here l H) (r : Lits K X l σ H es ds) (hn : ds.length ≤ 16777216 := by decide) : Lit K X l σ H (.Tuple es x1 pos) (.tuple ds) := fun H1 b1 =>
  e_tup (wA_mono (r H1 b1) fun vs H2 ⟨b2, h2⟩ => ⟨by rw [h2.length, sizeLine_eq]; exact hn, fun p hp => ⟨b2.trans (But.new hp), .tup (.inl (.inl upd_same)) (hl.new (b1.trans b2) hp) (h2.but (But.new hp))⟩⟩)
theorem lit_dict0 {pos : Pos} (hl : Here l H) : Lit K X l σ H (.Dict [] [] pos) (.dict []) := fun H1 b1 =>
  eE pe_dnewK fun p hp => ⟨But.new hp, DD.dct (kvs := []) (ds := []) upd_same (hl.new b1 hp) .nil⟩
/-- a list of literals, as a list of values -/
theorem e_lits {ds : List PyData} {pos : Pos} {Q : VK} (hl : Here l H) (r : Lits K X l σ H es ds) (h : ∀ q vs H1, But [] H H1 → H1 q = some (.lst vs) → q ∉ l → DDs K l H1 vs ds → Q (.ref q) H1) (hn : ds.length ≤ 16777216 := by decide) : wE X (.List es pos) σ H Q :=
  e_lst (wA_mono (r H But.refl) fun vs H2 ⟨b2, h2⟩ => ⟨by rw [h2.length, sizeLine_eq]; exact hn, fun p hp => h p vs _ (b2.trans (But.new hp)) upd_same (hl.new b2 hp) (h2.but (But.new hp))⟩)
end
/-! data that is wholly tracked -/
theorem sql_all {K : PySem.W.Frag} {a : Addr} {xs : List V} (h : SqL [] H a xs) : SqL K H a xs := by
  rcases h with h | ⟨o, _, _, h, _⟩
  · exact .inl h
  · cases h
theorem sqt_all {K : PySem.W.Frag} {a : Addr} {xs : List V} (h : SqT [] H a xs) : SqT K H a xs := by
  rcases h with h | ⟨o, _, _, h, _⟩
  · exact .inl h
  · cases h
mutual
theorem DD.all {K : PySem.W.Frag} : ∀ {v : V} {d : PyData}, DD [] l H v d → DD K l H v d
  | _, _, .non => .non
  | _, _, .bl x => .bl x
  | _, _, .int x => .int x
  | _, _, .str x => .str x
  | _, _, .lst h n r => .lst (sql_all h) n (DDs.all r)
  | _, _, .tup h n r => .tup (sqt_all h) n (DDs.all r)
  | _, _, .dct h n r => .dct h n (DDs.all r)
theorem DDs.all {K : PySem.W.Frag} : ∀ {vs : List V} {ds : List PyData}, DDs [] l H vs ds → DDs K l H vs ds
  | _, _, .nil => .nil
  | _, _, .cons h r => .cons (DD.all h) (DDs.all r)
end
theorem sql_there {a : Addr} {xs : List V} (h : SqL [] H a xs) : ∃ o, H a = some o := by
  rcases h with (h | ⟨o, h⟩) | ⟨o, _, _, h, _⟩
  · exact ⟨_, h⟩
  · exact ⟨_, h⟩
  · cases h
theorem sqt_there {a : Addr} {xs : List V} (h : SqT [] H a xs) : ∃ o, H a = some o := by
  rcases h with (h | ⟨o, h⟩) | ⟨o, _, _, h, _⟩
  · exact ⟨_, h⟩
  · exact ⟨_, h⟩
  · cases h
theorem not_new {a t : Addr} (h : ∃ o, H a = some o) (n : a ∉ l) (ht : H t = none) : a ∉ t :: l := fun z => by
  rcases List.mem_cons.mp z with e | e
  · obtain ⟨o, h⟩ := h
    rw [e, ht] at h
    cases h
  · exact n e
mutual
theorem DD.add {t : Addr} (ht : H t = none) : ∀ {v : V} {d : PyData}, DD [] l H v d → DD [] (t :: l) H v d
  | _, _, .non => .non
  | _, _, .bl x => .bl x
  | _, _, .int x => .int x
  | _, _, .str x => .str x
  | _, _, .lst h n r => .lst h (not_new (sql_there h) n ht) (DDs.add ht r)
  | _, _, .tup h n r => .tup h (not_new (sqt_there h) n ht) (DDs.add ht r)
  | _, _, .dct h n r => .dct h (not_new ⟨_, h⟩ n ht) (DDs.add ht r)
theorem DDs.add {t : Addr} (ht : H t = none) : ∀ {vs : List V} {ds : List PyData}, DDs [] l H vs ds → DDs [] (t :: l) H vs ds
  | _, _, .nil => .nil
  | _, _, .cons h r => .cons (DD.add ht h) (DDs.add ht r)
end
end
/-! ### the weak keeping: tables may grow -/
def Ex (l : List Addr) (H H' : Hp) : Prop := ∀ q o, q ∉ l → H q = some o → (∀ ps, o ≠ .tbl ps) → H' q = some o
section
variable {l m : List Addr} {H H1 H2 : Hp}
theorem But.ex (b : But l H H1) : Ex l H H1 := fun q o n e _ => b q o n e
theorem ex_of (b : ExtN H H1) : Ex l H H1 := fun q o _ e n => b q o e n
theorem Ex.refl : Ex l H H := fun _ _ _ h _ => h
theorem Ex.trans (a : Ex l H H1) (b : Ex l H1 H2) : Ex l H H2 := fun q o n e t => b q o n (a q o n e t) t
theorem Ex.mono (a : Ex l H H1) (h : ∀ q ∈ l, q ∈ m) : Ex m H H1 := fun q o n e t => a q o (fun z => n (h q z)) e t
theorem Ex.lst (b : Ex l H H1) {q : Addr} {xs : List V} (n : q ∉ l) (h : H q = some (.lst xs)) : H1 q = some (.lst xs) := b _ _ n h fun ps z => by cases z
theorem Ex.sql {K : PySem.W.Frag} {a : Addr} {xs : List V} (b : Ex l H H1) (n : a ∉ l) (h : SqL K H a xs) : SqL K H1 a xs := by
  rcases h with (h | ⟨o, h⟩) | h
  · exact .inl (.inl (b _ _ n h fun ps z => by cases z))
  · exact .inl (.inr ⟨o, b _ _ n h fun ps z => by cases z⟩)
  · exact .inr h
theorem Ex.sqt {K : PySem.W.Frag} {a : Addr} {xs : List V} (b : Ex l H H1) (n : a ∉ l) (h : SqT K H a xs) : SqT K H1 a xs := by
  rcases h with (h | ⟨o, h⟩) | h
  · exact .inl (.inl (b _ _ n h fun ps z => by cases z))
  · exact .inl (.inr ⟨o, b _ _ n h fun ps z => by cases z⟩)
  · exact .inr h
mutual
theorem DD.ex {K : PySem.W.Frag} (b : Ex l H H1) : ∀ {v : V} {d : PyData}, DD K l H v d → DD K l H1 v d
  | _, _, .non => .non
  | _, _, .bl x => .bl x
  | _, _, .int x => .int x
  | _, _, .str x => .str x
  | _, _, .lst h n r => .lst (b.sql n h) n (DDs.ex b r)
  | _, _, .tup h n r => .tup (b.sqt n h) n (DDs.ex b r)
  | _, _, .dct h n r => .dct (b _ _ n h fun ps z => by cases z) n (DDs.ex b r)
theorem DDs.ex {K : PySem.W.Frag} (b : Ex l H H1) : ∀ {vs : List V} {ds : List PyData}, DDs K l H vs ds → DDs K l H1 vs ds
  | _, _, .nil => .nil
  | _, _, .cons h r => .cons (DD.ex b h) (DDs.ex b r)
end
/-- tables stand where only lists at l change -/
theorem tabs_but {T : List (Addr × Str)} (t : Tabs T H) (b : But l H H1) (hl : ∀ q ∈ l, ∃ xs, H q = some (.lst xs)) : Tabs T H1 := fun p hp => by
  obtain ⟨ps, h1, h2, h3⟩ := t p hp
  have n1 : p.1 ∉ l := fun z => by
    obtain ⟨xs, e⟩ := hl _ z
    rw [h1] at e
    cases e
  refine ⟨ps, b _ _ n1 h1, h2, fun pos cv hc => ?_⟩
  obtain ⟨c, e1, e2⟩ := h3 pos cv hc
  refine ⟨c, e1, b _ _ (fun z => ?_) e2⟩
  obtain ⟨xs, e⟩ := hl _ z
  rw [e2] at e
  unfold CodeO at e
  cases e
theorem tabs_new {T : List (Addr × Str)} (t : Tabs T H) (b : But [] H H1) : Tabs T H1 := tabs_but t b (by simp)
end
/-! ### texts in repr -/
theorem reprChar_ok : ∀ c, c < 128 → ((Builtin.Str.reprChar 34 c).all (fun d => decide (d < 1114112)) && (Builtin.Str.reprChar 39 c).all fun d => decide (d < 1114112)) = true := by decide +kernel
theorem repr_fold {q : Nat} (hq : q = 34 ∨ q = 39) : ∀ (l : List Nat) (acc : Array Nat), (∀ c ∈ l, c < 128) → (∀ c ∈ acc.toList, c < 1114112) → ∀ c ∈ (l.foldl (fun out c => out ++ (Builtin.Str.reprChar q c).toArray) acc).toList, c < 1114112
  | [], acc, _, h => h
  | a :: r, acc, h1, h2 => by
    rw [List.foldl_cons]
    refine repr_fold hq r _ (fun c hc => h1 c (by simp [hc])) fun c hc => ?_
    rw [Array.toList_append, List.mem_append] at hc
    rcases hc with hc | hc
    · exact h2 c hc
    · have h3 := reprChar_ok a (h1 a (by simp))
      simp only [Bool.and_eq_true, List.all_eq_true, decide_eq_true_eq] at h3
      rcases hq with rfl | rfl
      · exact h3.1 c (by simpa using hc)
      · exact h3.2 c (by simpa using hc)
theorem strOk_repr {x : Str} (h : ∀ c ∈ x.cps.toList, c < 128) : PyData.strOk (PyData.str x).shown = true := by
  rw [PyData.shown_str]
  have hq : PySem.reprQuote x = 34 ∨ PySem.reprQuote x = 39 := by
    unfold PySem.reprQuote
    split <;> simp
  have hq2 : PySem.reprQuote x < 1114112 := by rcases hq with e | e <;> omega
  have := repr_fold hq x.cps.toList #[PySem.reprQuote x] h (by simp [hq2])
  unfold PyData.strOk PySem.reprText
  rw [Array.all_eq_true']
  intro c hc
  rw [← Array.foldl_toList] at hc
  simp only [Array.mem_push] at hc
  rcases hc with hc | hc
  · have := this c (Array.mem_toList_iff.mpr hc)
    simpa using this
  · simp [hc, hq2]
end Z

set_option Elab.async false
set_option linter.all false
set_option maxRecDepth 100000
set_option maxHeartbeats 4000000
/-! what the head's facts give -/
namespace Z
open PySem PySem.Spec PyProof.Rows L2
theorem base_call {b txt : Str} {p1 p2 p3 p4 p5 : Pos} {j} (env : Env) (hl : (p2.endLine == p5.line) = true) : eval (.Call (.Attribute (.Name b p1) "__init__" p2) [.Name "self" p3, .Constant (.str txt) j p4] [] p5) env = (do
      let ov ← eval (.Name b p1) env
      standAt p2.atName
      let (f, first) ← holding [ov] (getMethod ov "__init__" (plainOf (.Name b p1) env))
      callWith p5 f first (backTo p5 (starEach [.Name "self" p3, .Constant (.str txt) j p4] env)) (backToKw p5 (keywordEach [] env))) := by
  show (do let ov ← attributeBase (.Name b p1) "__init__" env (eval (.Name b p1) env); standAt p2.atName; methodCall (.Name b p1) "__init__" p2 p5 env ov 2 (backTo p5 (starEach [.Name "self" p3, .Constant (.str txt) j p4] env)) (backToKw p5 (keywordEach [] env))) = _
  have e : attributeBase (.Name b p1) "__init__" env (eval (.Name b p1) env) = eval (.Name b p1) env := rfl
  rw [e]
  congr 1
  funext ov
  congr 1
  funext _
  exact mcall_line rfl hl
/-- the first def of a class text -/
def clsDef (s : Stmt) : Stmt := match s with
  | .ClassDef _ _ _ (b :: _) _ _ _ _ _ _ _ => b
  | s => s
section
variable {P : Program} {w : World} {K : PySem.W.Frag} {mg : Str → Option Value} {base : Heap} {h : Heap}
theorem at_mk {x : Str} {st : Stmt} {f : Addr} {oc kV doc pm cd ct : Value} {od an : Option Addr} {sl : Array (Option Value)} (X : K.In h) (G : h.Ns mainGlobals mg) (a : PySem.W.nsIn K mainGlobals x = some (some (.ref f)))
    (l : K.lookup f = some ⟨oc, od, .func (PySem.W.fnOf x x (defArgs st) (defBody st) (defScope st) .none kV doc pm an cd ct), sl⟩) (c : PySem.W.codeIn K cd x = true) (k : PySem.W.keepIn K (.ref f) = true) : At K mg x st :=
  ⟨f, _, PySem.W.mg_of X G a, fun_mk l c k⟩
theorem atc_mk {x : Str} {st : Stmt} {f cd : Addr} {oc kV doc pm ct : Value} {od an : Option Addr} {sl : Array (Option Value)} (X : K.In h) (G : h.Ns mainGlobals mg) (a : PySem.W.nsIn K mainGlobals x = some (some (.ref f)))
    (l : K.lookup f = some ⟨oc, od, .func (PySem.W.fnOf x x (defArgs st) (defBody st) (defScope st) .none kV doc pm an (.ref cd) ct), sl⟩) (c : PySem.W.codeIn K (.ref cd) x = true) (k : PySem.W.keepIn K (.ref f) = true) : AtC K mg x st cd :=
  ⟨f, oc, kV, doc, pm, ct, od, an, sl, PySem.W.mg_of X G a, k, l, c⟩
theorem base_mk {b : Str} {CB : Addr} (X : K.In h) (G : h.Ns mainGlobals mg) (a : PySem.W.nsIn K mainGlobals b = some (some (.ref CB))) (r : PySem.W.readsIn K CB (.type "type") = true)
    (s : PySem.W.specialIn K (.ref CB) "__getattribute__" = some (some (.builtin "type.__getattribute__"))) (f : PySem.W.findCls K (.ref CB) (.type "type") "__init__" = some (.val (.builtin "ValueError.__init__"))) : Base0 K mg b :=
  ⟨CB, PySem.W.mg_of X G a, r, s, f⟩
theorem oex_mk {C : Addr} {nm q : Str} {N : Addr} {bs bm : List Value} {sn : List Str} {sub : List Value} {ab : Bool} {col : Option Bool} {dd : Option Addr} {m0 m1 m2 m3 m5 : Option Value}
    (xL : K.lookup C = some (excClassObj nm q C N bs bm true sn sub ab col dd m0 m1 m2 m3 m5 "ValueError.__new__")) (hbm : PySem.HandSPX.refsVE bm = true) (sa : PySem.W.findIn K (.ref C) "__setattr__" = some (some (.builtin "object.__setattr__")))
    (eC : PySem.W.subIn K (.ref C) (.type "BaseException") = some true) (tC : PySem.W.typeIn K (.ref C) = some (.type "type")) (kC : PySem.W.keepIn K (.ref C) = true) : OexC K C :=
  ⟨⟨nm, q, N, bs, bm, sn, sub, ab, col, dd, m0, m1, m2, m3, m5, xL, hbm⟩, sa, eC, tC, kC⟩
theorem err_mk {x b f q txt : Str} {st : Stmt} {C fI : Addr} {oc kV doc pm cdv ct : Value} {od an : Option Addr} {osl : Array (Option Value)} {p1 p2 p3 p4 p5 p6 p7 p8 p9 p10 : Pos} {j} (B : Base0 K mg b) (gC : mg x = some (.ref C)) (O : OexC K C) (XF : XfC K C)
    (no : PySem.W.findIn K (.ref C) f = some none) (i1 : PySem.W.findIn K (.ref C) "__init__" = some (some (.ref fI))) (tI : PySem.W.typeIn K (.ref fI) = some (.type "function"))
    (lk : K.lookup fI = some ⟨oc, od, .func (PySem.W.fnOf "__init__" q (defArgs st) (defBody st) (defScope st) .none kV doc pm an cdv ct), osl⟩) (hcd : PySem.W.codeIn K cdv q = true)
    (S : FnScope ["self", f] ["self", f] (defScope st))
    (hb : defBody st = [.Expr (.Call (.Attribute (.Name b p1) "__init__" p2) [.Name "self" p3, .Constant (.str txt) j p4] [] p5) p6, .Assign [.Attribute (.Name "self" p7) f p8] (.Name f p9) p10])
    (hs : (defScope st).names.lookup ("self" : Str) = some .local) (hf : (defScope st).names.lookup f = some .local) (hg : (defScope st).names.lookup b = some .globalImplicit) (hl : (p2.endLine == p5.line) = true)
    (hdb : (b == ("__debug__" : Str)) = false) (hdf : (f == ("__debug__" : Str)) = false) (hdf2 : (f == ("__classdict__" : Str)) = false)
    (hbind : ∀ (kV doc pm : Value) (an : Option Addr) (cdv ct : Value) (us : List Value), us.length = (["self", f] : List Str).length → bindArgs (PySem.W.fnOf "__init__" q (defArgs st) (defBody st) (defScope st) .none kV doc pm an cdv ct) ⟨us, []⟩ = pure ((["self", f] : List Str).zip us)) : ErrOk P w K mg base x f C :=
  ⟨gC, O, no, XF, fI, _, i1, tI, init1_ok B lk hcd S hb hs hf hg hdb hdf hdf2 (fun env _ => ⟨_, base_call env hl⟩) (fun _ _ => rfl) (fun _ _ => rfl), Binds.all fun us hl => hbind kV doc pm an cdv ct us hl⟩
theorem init_mk {C fI : Addr} {q : Str} {st : Stmt} {oc kV doc pm cdv ct : Value} {od an : Option Addr} {osl : Array (Option Value)} (i1 : PySem.W.findIn K (.ref C) "__init__" = some (some (.ref fI))) (i2 : PySem.W.typeIn K (.ref fI) = some (.type "function"))
    (i3 : K.lookup fI = some ⟨oc, od, .func (PySem.W.fnOf "__init__" q (defArgs st) (defBody st) (defScope st) .none kV doc pm an cdv ct), osl⟩) (i4 : PySem.W.codeIn K cdv q = true) :
    ∃ fI oc od kV doc pm an cdv ct osl, PySem.W.findIn K (.ref C) "__init__" = some (some (.ref fI)) ∧ PySem.W.typeIn K (.ref fI) = some (.type "function") ∧ K.lookup fI = some ⟨oc, od, .func (PySem.W.fnOf "__init__" q (defArgs st) (defBody st) (defScope st) .none kV doc pm an cdv ct), osl⟩ ∧ PySem.W.codeIn K cdv q = true :=
  ⟨fI, oc, od, kV, doc, pm, an, cdv, ct, osl, i1, i2, i3, i4⟩
theorem kit_ref {A C : Addr} (h1 : PySem.W.subIn K (.ref A) (.ref C) = some true) (h2 : PySem.W.hasDictIn K C = true) (h3 : PySem.W.typeIn K (.ref C) = some (.type "type")) : PySem.W.kitOne K (.ref A) (.ref C) = some true := by
  obtain ⟨cd, hc, _⟩ := PySem.W.any_some h2
  unfold PySem.W.kitOne PySem.W.kitCls
  split
  · rfl
  · simp [hc, h3, h1]
theorem kit_type {A : Addr} {T : String} (h1 : PySem.W.subIn K (.ref A) (.type T) = some true) (h2 : PySem.W.kitMeta T = true) : PySem.W.kitOne K (.ref A) (.type T) = some true := by
  unfold PySem.W.kitOne PySem.W.kitCls
  split
  · rfl
  · simp [h2, h1]
theorem excC_of {C : Addr} (F : XfC K C) (ha : PySem.W.findIn K (.ref C) "__class__" = some (some (.builtin "object.__class__"))) (hn : PySem.W.specialIn K (.builtin "object.__class__") "__get__" = some (some (.builtin "getset_descriptor.__get__")))
    (ht : PySem.W.takesIn K (.builtin "object.__class__") = some true) (hm : PySem.W.mroIn K C (.type "object") = some true) : ExcC K C := ⟨F.ga, F.gg, F.exC, F.hdC, ha, hn, ht, hm⟩
/-- a constant of the text -/
theorem const_mk {x : Str} {v : V} {u : Value} (X : K.In h) (G : h.Ns mainGlobals mg) (a : PySem.W.nsIn K mainGlobals x = some (some u)) (r : RelV v u) : ∃ u, mg x = some u ∧ RelV v u := ⟨u, PySem.W.mg_of X G a, r⟩
/-- no def hides the built-in names -/
structure BltN (mg : Str → Option Value) : Prop where
  len : mg "len" = none
  range : mg "range" = none
  min : mg "min" = none
  max : mg "max" = none
  abs : mg "abs" = none
  int : mg "int" = none
  str : mg "str" = none
  bool : mg "bool" = none
  list : mg "list" = none
  tuple : mg "tuple" = none
  dict : mg "dict" = none
  isinstance : mg "isinstance" = none
  all : mg "all" = none
  any : mg "any" = none
  sum : mg "sum" = none
  zip : mg "zip" = none
  repr : mg "repr" = none
  divmod : mg "divmod" = none
  sorted : mg "sorted" = none
  enumerate : mg "enumerate" = none
  reversed : mg "reversed" = none
  valueError : mg "ValueError" = none
theorem BltN.at (B : BltN mg) (S : SysAt base) : Blt mg base := ⟨S, B.len, B.range, B.min, B.max, B.abs, B.int, B.str, B.bool, B.list, B.tuple, B.dict, B.isinstance, B.all, B.any, B.sum, B.zip, B.repr, B.divmod, B.sorted, B.enumerate, B.reversed, B.valueError⟩
theorem bltn_mk (X : K.In h) (G : h.Ns mainGlobals mg) (a1 : PySem.W.nsIn K mainGlobals "len" = some none) (a2 : PySem.W.nsIn K mainGlobals "range" = some none) (a3 : PySem.W.nsIn K mainGlobals "min" = some none) (a4 : PySem.W.nsIn K mainGlobals "max" = some none)
    (a5 : PySem.W.nsIn K mainGlobals "abs" = some none) (a6 : PySem.W.nsIn K mainGlobals "int" = some none) (a7 : PySem.W.nsIn K mainGlobals "str" = some none) (a8 : PySem.W.nsIn K mainGlobals "bool" = some none) (a9 : PySem.W.nsIn K mainGlobals "list" = some none)
    (a10 : PySem.W.nsIn K mainGlobals "tuple" = some none) (a11 : PySem.W.nsIn K mainGlobals "dict" = some none) (a12 : PySem.W.nsIn K mainGlobals "isinstance" = some none) (a13 : PySem.W.nsIn K mainGlobals "all" = some none) (a14 : PySem.W.nsIn K mainGlobals "any" = some none)
    (a15 : PySem.W.nsIn K mainGlobals "sum" = some none) (a16 : PySem.W.nsIn K mainGlobals "zip" = some none) (a17 : PySem.W.nsIn K mainGlobals "repr" = some none) (a18 : PySem.W.nsIn K mainGlobals "divmod" = some none) (a19 : PySem.W.nsIn K mainGlobals "sorted" = some none)
    (a20 : PySem.W.nsIn K mainGlobals "enumerate" = some none) (a21 : PySem.W.nsIn K mainGlobals "reversed" = some none) (a22 : PySem.W.nsIn K mainGlobals "ValueError" = some none) : BltN mg :=
  ⟨PySem.W.ns_none_of X G a1, PySem.W.ns_none_of X G a2, PySem.W.ns_none_of X G a3, PySem.W.ns_none_of X G a4, PySem.W.ns_none_of X G a5, PySem.W.ns_none_of X G a6, PySem.W.ns_none_of X G a7, PySem.W.ns_none_of X G a8, PySem.W.ns_none_of X G a9, PySem.W.ns_none_of X G a10,
   PySem.W.ns_none_of X G a11, PySem.W.ns_none_of X G a12, PySem.W.ns_none_of X G a13, PySem.W.ns_none_of X G a14, PySem.W.ns_none_of X G a15, PySem.W.ns_none_of X G a16, PySem.W.ns_none_of X G a17, PySem.W.ns_none_of X G a18, PySem.W.ns_none_of X G a19, PySem.W.ns_none_of X G a20,
   PySem.W.ns_none_of X G a21, PySem.W.ns_none_of X G a22⟩
end
end Z

set_option Elab.async false
set_option linter.all false
set_option maxRecDepth 100000
set_option maxHeartbeats 4000000
/-! objects of own classes, dicts, more of lists -/
namespace Z
open PySem PySem.Spec PyProof.Rows L2
theorem wK_mono {X : Cx} {kws : List Keyword} {σ : L2.St} {H : Hp} {Q Q' : List V → Hp → Prop} (h : wK X kws σ H Q) (k : ∀ v H', Q v H' → Q' v H') : wK X kws σ H Q' := ⟨fun pos pins s I => thn (h.run pos pins s I) fun _ _ ⟨v, H', I', r, q⟩ => ⟨v, H', I', r, k v H' q⟩⟩
section
variable {X : Cx} {k : Nat} {W : WX} {σ : L2.St} {H : Hp} {e a b c o i : Expr} {es : List Expr} {p p2 pos apos : Pos} {Q : VK} {x f m : Str}
theorem e_chain {op op' : CmpOp} (h : wE X a σ H fun x H1 => wE X b σ H1 fun y H2 => oW X (compareOp op) x y H2 fun z H3 => ∃ k, z = .bl k ∧ (if k = true then wE X c σ H3 fun w' H4 => oW X (compareOp op') y w' H4 Q else Q (.bl false) H3))
    (hm : lastMarks [op, op'] [b, c] = false := by with_unfolding_all rfl) : wE X (.Compare a [op, op'] [b, c] pos) σ H Q := eE (pe_chain oR oR pE pE pE hm) h
/-! ### list(x), tuple(x), + and * of lists -/
theorem e_listOf (B : Blt X.mg X.base) (h : wE X a σ H fun x H1 => ∃ q ys, x = .ref q ∧ (SqL X.K H1 q ys ∨ SqT X.K H1 q ys) ∧ ∀ l, H1 l = none → Q (.ref l) (upd H1 l (.lst ys))) (hg : Gl X "list" := by rfl) (hs : starEach [a] X.env = [(false, eval a X.env)] := by rfl) :
    wE X (.Call (.Name "list" p) [a] [] pos) σ H Q := e_Ty (T := "list") (a_cons (wE_mono h fun x H1 ⟨q, ys, e1, h1, h2⟩ => a_nil (cW_of call_list_of ⟨q, ys, by rw [e1], h1, h2⟩)) hs) B.list PyProof.Rows.boot_list hg (by decide) (by decide) hs rfl
theorem e_tupleOf (B : Blt X.mg X.base) (h : wE X a σ H fun x H1 => ∃ q ys, x = .ref q ∧ ((SqL X.K H1 q ys ∧ ∀ l, H1 l = none → Q (.ref l) (upd H1 l (.tup ys))) ∨ (SqT X.K H1 q ys ∧ Q (.ref q) H1))) (hg : Gl X "tuple" := by rfl) (hs : starEach [a] X.env = [(false, eval a X.env)] := by rfl) :
    wE X (.Call (.Name "tuple" p) [a] [] pos) σ H Q := e_Ty (T := "tuple") (a_cons (wE_mono h fun x H1 ⟨q, ys, e1, h1⟩ => a_nil (cW_of call_tuple_of ⟨q, ys, by rw [e1], h1⟩)) hs) B.tuple PyProof.Rows.boot_tuple hg (by decide) (by decide) hs rfl
theorem o_cat {q r : Addr} {xs ys : List V} (h1 : H q = some (.lst xs)) (h2 : H r = some (.lst ys)) (hn : xs.length + ys.length ≤ sizeLine) (h : ∀ p, H p = none → Q (.ref p) (upd H p (.lst (xs ++ ys)))) : oW X (binaryOp .Add) (.ref q) (.ref r) H Q :=
  oW_of op_cat ⟨q, r, xs, ys, rfl, rfl, h1, h2, hn, h⟩
/-! ### fields, properties, methods -/
theorem e_fld {r C dx : Addr} {fs : List (Str × V)} {v : V} (h : wE X e σ H fun x H1 => x = .ref r ∧ H1 r = some (.ins C dx fs) ∧ Q v H1) (c : Cls X.K C) (n : NoAttr X.K C f) (l : fs.lookup f = some v) (hb : attributeBase e f X.env (eval e X.env) = eval e X.env := by rfl) :
    wE X (.Attribute e f pos) σ H Q := eE (pe_fld pE hb) (wE_mono h fun x H1 ⟨e1, h1, q⟩ => ⟨r, C, dx, fs, v, e1, h1, c, n, l, q⟩)
theorem s_fld {D : Ends} {r C : Addr} (h : wE X e σ H fun y H1 => wE X o σ H1 fun x H2 => ∃ dx fs, x = .ref r ∧ H2 r = some (.ins C dx fs) ∧ fs.length < 1000 ∧ D.nx σ (upd H2 r (.ins C dx (putF f y fs)))) (c : Cls X.K C) (n : NoAttr X.K C f)
    (hs : swapsWith e (some (.Attribute o f p)) pos.line X.env = pure false := by rfl) : wS X (.Assign [.Attribute o f p] e pos) D σ H :=
  eS (ps_fld pE pE hs) (wE_mono h fun y H1 h1 => wE_mono h1 fun x H2 ⟨dx, fs, e1, h2, h3, q⟩ => ⟨r, C, dx, fs, e1, h2, c, n, h3, q⟩)
/-- a def of the class at C under the name m, its promise -/
structure MethOk (P : Program) (w : World) (K : PySem.W.Frag) (mg : Str → Option Value) (base : Heap) (k : Nat) (C : Addr) (m : Str) (ps : List Str) (sp : Sp) : Prop where
  ex : ∃ f fd, Meth K C m f ∧ FnOk P w K mg base (L2.CX P w) k f fd ps sp ∧ Binds K fd ps []
structure PropOk (P : Program) (w : World) (K : PySem.W.Frag) (mg : Str → Option Value) (base : Heap) (k : Nat) (C : Addr) (m : Str) (sp : Sp) : Prop where
  ex : ∃ pr f fd, PropOf K C m pr f ∧ FnOk P w K mg base (L2.CX P w) k f fd ["self"] sp ∧ Binds K fd ["self"] []
theorem passes0 {X : Cx} {W : WX} (tk : Takes X W) : Passes (L2.CX X.prog X.w) X (fun _ _ _ => False) := fun pins σ H s e s' I c => passes_call tk (fun cls d σ' H' z => z.elim) pins σ H s e s' I c
theorem passesE {X : Cx} {W : WX} {E : XK} (tk : Takes X W) (h : ∀ cls d σ H, E cls d H → W cls d σ H) : Passes (L2.CX X.prog X.w) X E := fun pins σ H s e s' I c => passes_call tk h pins σ H s e s' I c
/-- e.m, a property that raises nothing -/
theorem e_prop {sp : Sp} {r C dx : Addr} {fs : List (Str × V)} {j : Nat} (Cc : Cxt X (j + 1) W) (c : Cls X.K C) (M : PropOk X.prog X.w X.K X.mg X.base j C m sp) (h : wE X e σ H fun x H1 => x = .ref r ∧ H1 r = some (.ins C dx fs) ∧ sp [.ref r] H1 Q fun _ _ _ => False)
    (hab : attributeBase e m X.env (eval e X.env) = eval e X.env := by rfl) : wE X (.Attribute e m pos) σ H Q := by
  obtain ⟨pr, g, fd, hp, F, hb⟩ := M.ex
  exact eE (pe_prop pE c hp F Cc.room hb .nil (passes0 (X := X.nox) takesW0) hab) (wE_mono h fun x H1 ⟨e1, h1, q⟩ => ⟨r, dx, fs, e1, h1, q⟩)
theorem meth_eval {o : Expr} {m : Str} {apos pos : Pos} {es : List Expr} {env : Env} (hb : attributeBase o m env (eval o env) = eval o env) (hf : methodCallForm (es.length + 0) (backTo pos (starEach es env)) (backToKw pos (keywordEach [] env)) = true) (hl : (apos.endLine == pos.line) = true) :
    eval (.Call (.Attribute o m apos) es [] pos) env = (do
      let ov ← eval o env
      standAt apos.atName
      let (f, first) ← holding [ov] (getMethod ov m (plainOf o env))
      callWith pos f first (backTo pos (starEach es env)) (backToKw pos (keywordEach [] env))) := by
  show (do let ov ← attributeBase o m env (eval o env); standAt apos.atName; methodCall o m apos pos env ov (es.length + 0) (backTo pos (starEach es env)) (backToKw pos (keywordEach [] env))) = _
  rw [hb]
  congr 1
  funext ov
  congr 1
  funext _
  exact mcall_line hf hl
/-- o.m(), a method that raises nothing -/
theorem e_meth0 {sp : Sp} {r C dx : Addr} {fs : List (Str × V)} {j : Nat} {ps : List Str} (Cc : Cxt X j W) (c : Cls X.K C) (M : MethOk X.prog X.w X.K X.mg X.base j C m ps sp) (h : wE X o σ H fun x H1 => x = .ref r ∧ H1 r = some (.ins C dx fs) ∧ fs.lookup m = none ∧ sp [.ref r] H1 Q fun _ _ _ => False)
    (hb : attributeBase o m X.env (eval o X.env) = eval o X.env := by rfl) (hf : methodCallForm (([] : List Expr).length + 0) (backTo pos (starEach [] X.env)) (backToKw pos (keywordEach [] X.env)) = true := by rfl) (hl : (apos.endLine == pos.line) = true := by rfl) :
    wE X (.Call (.Attribute o m apos) [] [] pos) σ H Q := by
  obtain ⟨g, fd, hm, F, hbd⟩ := M.ex
  exact eE (pe_meth0 (pl := plainOf o X.env) pE c hm F Cc.room hbd .nil (passes0 Cc.tk) (meth_eval hb hf hl)) (wE_mono h fun x H1 ⟨e1, h1, n, q⟩ => by subst e1; exact ⟨r, dx, fs, rfl, h1, n, q⟩)
/-- o.m(e, ..) -/
theorem e_meth {sp : Sp} {r C dx : Addr} {fs : List (Str × V)} {j : Nat} {ps : List Str} (Cc : Cxt X j W) (c : Cls X.K C) (M : MethOk X.prog X.w X.K X.mg X.base j C m ps sp) (h : wE X o σ H fun x H1 => x = .ref r ∧ H1 r = some (.ins C dx fs) ∧ fs.lookup m = none ∧ wA X (e :: es) σ H1 fun vs H2 => sp (.ref r :: vs) H2 Q fun _ _ _ => False)
    (hb : attributeBase o m X.env (eval o X.env) = eval o X.env := by rfl) (hf : methodCallForm ((e :: es).length + 0) (backTo pos (starEach (e :: es) X.env)) (backToKw pos (keywordEach [] X.env)) = true := by rfl) (hl : (apos.endLine == pos.line) = true := by rfl)
    (hst : starEach (e :: es) X.env = (false, eval e X.env) :: starEach es X.env := by rfl) (hpl : (backTo pos (starEach es X.env)).any (·.1) = false := by rfl) :
    wE X (.Call (.Attribute o m apos) (e :: es) [] pos) σ H Q := by
  obtain ⟨g, fd, hm, F, hbd⟩ := M.ex
  exact eE (pe_meth (pl := plainOf o X.env) pE c hm F Cc.room hbd .nil (passes0 Cc.tk) pA hst hpl (meth_eval hb hf hl)) (wE_mono h fun x H1 ⟨e1, h1, n, q⟩ => by subst e1; exact ⟨r, dx, fs, rfl, h1, n, wA_mono q fun vs H2 q => by rw [List.append_nil]; exact q⟩)
/-! ### making an object -/
/-- the class at C under its name x, its __init__'s promise; ds what the defaults tell -/
structure MakeOk (P : Program) (w : World) (K : PySem.W.Frag) (mg : Str → Option Value) (base : Heap) (k : Nat) (x : Str) (C : Addr) (ps : List Str) (sp : Sp) (B : FuncData → Prop) : Prop where
  ex : ∃ f fd, mg x = some (.ref C) ∧ Mk K C f ∧ FnOk P w K mg base (L2.CX P w) k f fd ps sp ∧ B fd
theorem e_make {sp : Sp} {C : Addr} {j : Nat} {ps : List Str} {ds : List Value} {dvs : List V} {E : XK} (Cc : Cxt X (j + 1) W) (M : MakeOk X.prog X.w X.K X.mg X.base j x C ps sp fun fd => Binds X.K fd ps ds) (hd : Vals dvs ds) (hW : ∀ cls d σ H, E cls d H → W cls d σ H)
    (h : wA X (e :: es) σ H fun vs H1 => ∀ r dx, H1 r = none → H1 dx = none → dx ≠ r → sp (.ref r :: (vs ++ dvs)) (upd (upd H1 dx (.own r)) r (.ins C dx [])) (fun v H2 => v = .non ∧ Q (.ref r) H2) E) (hg : Gl X x := by rfl)
    (hdb : (x == ("__debug__" : Str)) = false := by decide) (he : starEach (e :: es) X.env = (false, eval e X.env) :: starEach es X.env := by rfl) (hpl : (backTo pos (starEach es X.env)).any (·.1) = false := by rfl) :
    wE X (.Call (.Name x p) (e :: es) [] pos) σ H Q := by
  obtain ⟨g, fd, hm, mk, F, hb⟩ := M.ex
  exact eE (pe_make mk F Cc.room hg hm hb hd (passesE Cc.tk hW) pA hdb he hpl) h
theorem e_makeK {sp : Sp} {C : Addr} {j n : Nat} {ps ks : List Str} {gf : List Value → List Value → List Value} {gV : List V → List V → List V} {kws : List Keyword} {E : XK} (Cc : Cxt X (j + 1) W) (M : MakeOk X.prog X.w X.K X.mg X.base j x C ps sp fun fd => KBn X.K fd ps (n + 1) ks gf gV) (hW : ∀ cls d σ H, E cls d H → W cls d σ H)
    (h : wA X (e :: es) σ H fun vs H1 => wK X kws σ H1 fun zs H2 => vs.length = n ∧ zs.length = ks.length ∧ ∀ r dx, H2 r = none → H2 dx = none → dx ≠ r → sp (gV (.ref r :: vs) zs) (upd (upd H2 dx (.own r)) r (.ins C dx [])) (fun v H3 => v = .non ∧ Q (.ref r) H3) E) (hg : Gl X x := by rfl)
    (hall : (backToKw pos (keywordEach kws X.env)).all (·.1.isSome) = true := by rfl) (hks : (backToKw pos (keywordEach kws X.env)).filterMap (·.1) = ks := by rfl) (hdb : (x == ("__debug__" : Str)) = false := by decide)
    (he : starEach (e :: es) X.env = (false, eval e X.env) :: starEach es X.env := by rfl) (hpl : ((backTo pos (starEach (e :: es) X.env)).any (·.1) || (backToKw pos (keywordEach kws X.env)).any (·.1.isNone)) = false := by rfl) :
    wE X (.Call (.Name x p) (e :: es) kws pos) σ H Q := by
  obtain ⟨g, fd, hm, mk, F, hb⟩ := M.ex
  exact eE (pe_makeK mk F Cc.room hg hm hb (passesE Cc.tk hW) pA pK hall hks hdb he hpl) h
theorem e_makeK0 {sp : Sp} {C : Addr} {j : Nat} {ps ks : List Str} {gf : List Value → List Value → List Value} {gV : List V → List V → List V} {kws : List Keyword} {E : XK} (Cc : Cxt X (j + 1) W) (M : MakeOk X.prog X.w X.K X.mg X.base j x C ps sp fun fd => KBn X.K fd ps 1 ks gf gV) (hW : ∀ cls d σ H, E cls d H → W cls d σ H)
    (h : wK X kws σ H fun zs H2 => zs.length = ks.length ∧ ∀ r dx, H2 r = none → H2 dx = none → dx ≠ r → sp (gV [.ref r] zs) (upd (upd H2 dx (.own r)) r (.ins C dx [])) (fun v H3 => v = .non ∧ Q (.ref r) H3) E) (hg : Gl X x := by rfl)
    (hall : (backToKw pos (keywordEach kws X.env)).all (·.1.isSome) = true := by rfl) (hks : (backToKw pos (keywordEach kws X.env)).filterMap (·.1) = ks := by rfl) (hdb : (x == ("__debug__" : Str)) = false := by decide)
    (hpl : ((backTo pos (starEach [] X.env)).any (·.1) || (backToKw pos (keywordEach kws X.env)).any (·.1.isNone)) = false := by rfl) :
    wE X (.Call (.Name x p) [] kws pos) σ H Q := by
  obtain ⟨g, fd, hm, mk, F, hb⟩ := M.ex
  exact eE (pe_makeK0 mk F Cc.room hg hm hb (passesE Cc.tk hW) pK hall hks hdb hpl) (eK pK ⟨(wK_mono h fun zs H2 ⟨h1, h2⟩ => ⟨rfl, h1, h2⟩).run⟩)
/-! ### dicts -/
theorem e_dget {r : Addr} {v : V} (C : Cxt X k W) (h : wE X o σ H fun x H1 => wE X i σ H1 fun y H2 => x = .ref r ∧ DGet H2 r y (some v) ∧ Q v H2) (hs : NoSl i := by exact fun _ _ => rfl) : wE X (.Subscript o i pos) σ H Q :=
  eE (pe_dget (by have := C.un; omega) pE pE hs) (wE_mono h fun x H1 q => wE_mono q fun y H2 ⟨e1, h1, q⟩ => ⟨r, v, e1, h1, q⟩)
theorem set_d {r : Addr} {y v : V} {H' : Hp} {R : Hp → Prop} (C : Cxt X k W) (h : DPut H r y v H') (q : R H') : sW X (.ref r) y v H R := sW_of (set_dict (by have := C.un; omega)) ⟨r, H', rfl, h, q⟩
end
end Z

set_option Elab.async false
set_option linter.all false
set_option maxRecDepth 100000
set_option maxHeartbeats 4000000
/-! own errors of two fields -/
namespace Z
open PySem PySem.Spec PyProof.Rows L2
def spInit2 (K : PySem.W.Frag) (f g : Str) : Sp := fun vs H Q _ => ∃ (a C : Addr) (v w : V), vs = [.ref a, v, w] ∧ OexC K C ∧ PySem.W.findIn K (.ref C) f = some none ∧ PySem.W.findIn K (.ref C) g = some none ∧ H a = some (exo a C none) ∧
  ∀ dx, H dx = none → dx ≠ a → Q .non (upd (upd (upd H dx (exd dx [(f, v)])) a (exo a C (some dx))) dx (exd dx [(g, w), (f, v)]))
section
variable {P : Program} {w : World} {K : PySem.W.Frag} {mg : Str → Option Value} {base : Heap}
theorem init2_ok {x b f g txt : Str} {st : Stmt} {fI : Addr} {oc kV doc pm cdv ct : Value} {od an : Option Addr} {osl : Array (Option Value)} {p1 p2 p3 p4 p5 p6 p7 p8 p9 p10 q7 q8 q9 q10 : Pos} {j} (B : Base0 K mg b)
    (lk : K.lookup fI = some ⟨oc, od, .func (PySem.W.fnOf "__init__" x (defArgs st) (defBody st) (defScope st) .none kV doc pm an cdv ct), osl⟩) (hcd : PySem.W.codeIn K cdv x = true)
    (S : FnScope ["self", f, g] ["self", f, g] (defScope st))
    (hb : defBody st = [.Expr (.Call (.Attribute (.Name b p1) "__init__" p2) [.Name "self" p3, .Constant (.str txt) j p4] [] p5) p6, .Assign [.Attribute (.Name "self" p7) f p8] (.Name f p9) p10, .Assign [.Attribute (.Name "self" q7) g q8] (.Name g q9) q10])
    (hs : (defScope st).names.lookup ("self" : Str) = some .local) (hf : (defScope st).names.lookup f = some .local) (hgl : (defScope st).names.lookup g = some .local) (hg : (defScope st).names.lookup b = some .globalImplicit) (hdb : (b == ("__debug__" : Str)) = false) (hl : (p2.endLine == p5.line) = true)
    (hdf : (f == ("__debug__" : Str)) = false) (hdf2 : (f == ("__classdict__" : Str)) = false) (hdg : (g == ("__debug__" : Str)) = false) (hdg2 : (g == ("__classdict__" : Str)) = false) :
    FnOk P w K mg base (L2.CX P w) 1 fI (PySem.W.fnOf "__init__" x (defArgs st) (defBody st) (defScope st) .none kV doc pm an cdv ct) ["self", f, g] (spInit2 K f g) := by
  refine fn_of lk hcd S (fun vs H Q E h => ?_) fun A outer s H vs Q E hr h => ⟨wB _ (defBody st), pB, ?_⟩
  · obtain ⟨a, C, v, w, rfl, _⟩ := h
    rfl
  · obtain ⟨a, C, v, w, rfl, T, hno, hno2, ha, q⟩ := h
    rw [hb]
    refine b_cons (s_expr (e_baseInit B ?_ hg hdb (base_call (envOfC x (defScope st) s.heap.objs.size fI cdv) hl)) rfl)
    refine a_cons (e_name 0 (a_cons (e_str (a_nil ⟨a, C, _, rfl, by simp, T, ha, ?_⟩))) rfl rfl (.inl hs))
    refine b_cons (eS (ps_ost (pE (e := .Name "self" p7)) pE rfl) ?_)
    refine e_name 1 ?_ rfl rfl (.inl hf) hdf hdf2
    refine e_name 0 ?_ rfl rfl (.inl hs)
    refine ⟨a, C, rfl, T, hno, .inl ⟨ha, fun dx n ne => b_cons (eS (ps_ost (pE (e := .Name "self" q7)) pE rfl) ?_)⟩⟩
    refine e_name 2 ?_ rfl rfl (.inl hgl) hdg hdg2
    refine e_name 0 ?_ rfl rfl (.inl hs)
    exact ⟨a, C, rfl, T, hno2, .inr ⟨dx, [(f, v)], upd_same, by rw [upd_ne ne, upd_same], by simp, b_nil (q dx n ne)⟩⟩
end
/-- an error class of two fields, its __init__ proved -/
structure ErrOk2 (P : Program) (w : World) (K : PySem.W.Frag) (mg : Str → Option Value) (base : Heap) (x f g : Str) (C : Addr) : Prop where
  gC : mg x = some (.ref C)
  oex : OexC K C
  no : PySem.W.findIn K (.ref C) f = some none
  no2 : PySem.W.findIn K (.ref C) g = some none
  xf : XfC K C
  ex : ∃ fI fd, PySem.W.findIn K (.ref C) "__init__" = some (some (.ref fI)) ∧ PySem.W.typeIn K (.ref fI) = some (.type "function") ∧ FnOk P w K mg base (L2.CX P w) 1 fI fd ["self", f, g] (spInit2 K f g) ∧ Binds K fd ["self", f, g] []
section
variable {X : Cx} {k : Nat} {W : WX} {σ : L2.St} {H : Hp} {x f g : Str} {e e2 : Expr} {C : Addr} {p1 p2 pos : Pos} {D : Ends}
/-- raise X(v, w) -/
theorem s_raise2 (Cc : Cxt X k W) (E : ErrOk2 X.prog X.w X.K X.mg X.base x f g C) (hr : 2 ≤ k)
    (h : wE X e σ H fun v H1 => wE X e2 σ H1 fun w H2 => ∀ d H', But [] H2 H' → H2 d = none → H' d = some (.xd [(g, w), (f, v)]) → W (.ref C) (some d) σ H')
    (hg : Gl X x := by rfl) (hdb : (x == ("__debug__" : Str)) = false := by decide) (he : starEach [e, e2] X.env = (false, eval e X.env) :: starEach [e2] X.env := by rfl) (he2 : starEach [e2] X.env = [(false, eval e2 X.env)] := by rfl) : wS X (.Raise (some (.Call (.Name x p1) [e, e2] [] p2)) none pos) D σ H := by
  obtain ⟨fI, fd, iC, tI, F, hb⟩ := E.ex
  have hx : Passes (L2.CX X.prog X.w) X (fun _ _ _ => False) := passes0 Cc.tk
  refine eS (ps_raise Cc.calm Cc.tk (pmk_oex E.oex iC tI F (Cc.room.mono hr) hb .nil hx hg E.gC pA hdb he (by rw [he2]; rfl))) ?_
  refine a_cons (wE_mono h fun v H1 q1 => a_cons (wE_mono q1 fun w H2 q => a_nil ⟨by simp, fun a ha => ?_⟩) he2) he
  refine ⟨a, C, v, w, rfl, E.oex, E.no, E.no2, upd_same, fun dx hd ne => ⟨rfl, dx, [(g, w), (f, v)], by rw [upd_ne ne.symm, upd_same], upd_same, ?_, ?_⟩⟩
  · rw [upd_ne ne] at hd
    exact hd
  · have hd' : H2 dx = none := by rw [upd_ne ne] at hd; exact hd
    refine q dx _ (fun b o _ hbo => ?_) hd' upd_same
    have nb : b ≠ a := ne_of_none hbo ha
    have nb2 : b ≠ dx := ne_of_none hbo hd'
    rw [upd_ne nb2, del_ne nb, upd_ne nb2, upd_ne nb, upd_ne nb2, upd_ne nb]
    exact hbo
end
section
variable {X : Cx} {σ : L2.St} {H : Hp} {a CE dd : Addr} {oe : Obj} {pn : List (Addr × Obj)} {e : Expr} {pos p : Pos} {f : Str} {Q : VK}
/-- e.f, any fields -/
theorem e_xfs {v : V} {fs : List (Str × V)} (T : XfC X.K CE) (hno : PySem.W.findIn X.K (.ref CE) f = some none) (hz : Zc (.ref CE) (some dd) oe) (hf : ∃ vs, oe.data = .fields vs) (hl : fs.lookup f = some v)
    (h : wE (X.suite a ((a, oe) :: pn)) e σ H fun x H1 => x = .ref a ∧ H1 dd = some (.xd fs) ∧ Q v H1) (hb : attributeBase e f X.env (eval e X.env) = eval e X.env := by rfl) :
    wE (X.suite a ((a, oe) :: pn)) (.Attribute e f pos) σ H Q :=
  eE (pe_xf T hno hz hf pE hb) (wE_mono h fun x H1 ⟨e1, e2, q⟩ => ⟨e1, rfl, dd, fs, v, rfl, e2, hl, q⟩)
end
end Z

set_option Elab.async false
set_option linter.all false
set_option maxRecDepth 100000
set_option maxHeartbeats 4000000
/-! dicts walked, dicts written out -/
namespace Z
open PySem PySem.Spec PyProof.Rows L2
/-- the i-th statement of a class text -/
def clsAt (s : Stmt) (i : Nat) : Stmt := match s with
  | .ClassDef _ _ _ b _ _ _ _ _ _ _ => b.getD i s
  | s => s
section
variable {X : Cx} {k : Nat} {W : WX} {σ : L2.St} {H : Hp} {e : Expr} {st : Stmt} {p pos apos tpos : Pos} {elts : List Expr} {kk : Nat}
theorem i_items {R : It → Hp → Prop} (h : wE X e σ H fun x H1 => ∃ d o kvs, x = .ref d ∧ H1 d = some (.frz o (.dK kvs)) ∧ R (Iti d o kvs) H1)
    (hb : attributeBase e "items" X.env (eval e X.env) = eval e X.env := by rfl) (hl : (apos.endLine == pos.line) = true := by rfl) : wI X (.Tuple elts kk tpos) (.Call (.Attribute e "items" apos) [] [] pos) σ H R := eI (pi_items pE hb hl) h
/-- a statement while the object at d is told not to change -/
theorem s_lock {D : Ends} {d : Addr} {u : HO} (hd : H d = some u) (mu : Mut (some u)) (h : ∀ od, wS X st ⟨fun σ' H' => H' d = some (.frz od u) ∧ D.nx σ' (upd H' d u), fun v H' => H' d = some (.frz od u) ∧ D.rt v (upd H' d u), fun σ' H' => H' d = some (.frz od u) ∧ D.bk σ' (upd H' d u), fun σ' H' => H' d = some (.frz od u) ∧ D.ct σ' (upd H' d u)⟩ σ (upd H d (.frz od u))) :
    wS X st D σ H := eS (ps_lock pS) ⟨d, u, hd, mu, h⟩
end
theorem but_unlock {l : List Addr} {H H' : Hp} {d : Addr} {u v : HO} (hd : H d = some u) (b : But l (upd H d v) H') : But l H (upd H' d u) := fun q o n e => by
  by_cases hq : q = d
  · rw [hq, upd_same]
    rw [hq, hd] at e
    exact e
  · rw [upd_ne hq]
    exact b q o n (by rw [upd_ne hq]; exact e)
end Z

set_option Elab.async false
set_option linter.all false
set_option maxRecDepth 100000
set_option maxHeartbeats 4000000
/-! a list or a tuple, walked -/
namespace Z
open PySem PySem.Spec PyProof.Rows L2
def items : PyData → List PyData
  | .list ds => ds
  | .tuple ds => ds
  | _ => []
def seqB (d : PyData) : Bool := isList d || isTuple d
section
variable {X : Cx} {σ : L2.St} {H : Hp} {e tg : Expr}
theorem i_dd {R : It → Hp → Prop} {x : V} {l : List Addr} {d : PyData} (hd : DD X.K l H x d) (hs : seqB d = true) (he : ∀ Q : VK, Q x H → wE X e σ H Q)
    (h : ∀ J G vs, Walk J vs.length G (YAt vs) → (∀ H', But l H H' → G H') → DDs X.K l H vs (items d) → R J H) : wI X tg e σ H R := by
  cases hd with
  | @lst a xs ds h1 n h2 => exact i_list (he _ ⟨a, rfl, ⟨xs, h1⟩, h _ _ xs walk_list (fun H' b => b.sql n h1) h2⟩)
  | @tup a xs ds h1 n h2 => exact i_tup (he _ ⟨a, rfl, ⟨xs, h1⟩, h _ _ xs walk_tup (fun H' b => b.sqt n h1) h2⟩)
  | _ => simp [seqB, isList, isTuple] at hs
/-- .. data that is wholly tracked -/
theorem i_dd0 {R : It → Hp → Prop} {x : V} {l : List Addr} {d : PyData} (hd : DD [] l H x d) (hs : seqB d = true) (he : ∀ Q : VK, Q x H → wE X e σ H Q)
    (h : ∀ J G vs, Walk J vs.length G (YAt vs) → (∀ H', But l H H' → G H') → DDs [] l H vs (items d) → R J H) : wI X tg e σ H R := by
  cases hd with
  | @lst a xs ds h1 n h2 => exact i_list (he _ ⟨a, rfl, ⟨xs, sql_all h1⟩, h _ _ xs walk_list (fun H' b => sql_all (b.sql n h1)) h2⟩)
  | @tup a xs ds h1 n h2 => exact i_tup (he _ ⟨a, rfl, ⟨xs, sqt_all h1⟩, h _ _ xs walk_tup (fun H' b => sqt_all (b.sqt n h1)) h2⟩)
  | _ => simp [seqB, isList, isTuple] at hs
end
end Z

set_option Elab.async false
set_option linter.all false
set_option maxRecDepth 100000
set_option maxHeartbeats 4000000
/-! tuples and lists are never one; extend, reverse, clear -/
namespace Z
open PySem PySem.Spec PyProof.Rows L2
/-- no tuple is a list -/
def Apart (K : PySem.W.Frag) (H : Hp) : Prop := ∀ a xs q ys, SqT K H a xs → H q = some (.lst ys) → a ≠ q
theorem apart_inv {X : Cx} {pins : List (Addr × Obj)} {σ : L2.St} {H : Hp} {s : Shared} (I : Inv X pins σ H s) : Apart X.K H := fun a xs q ys h1 h2 z => by
  subst z
  obtain ⟨its, r, ⟨o, e, c, _⟩, _⟩ := I.tuple h1
  obtain ⟨its', r', ⟨o', n', e', c', _⟩, _⟩ := I.list (.inl (.inl h2))
  rw [e] at e'
  cases e'
  rw [c] at c'
  exact absurd (Value.type.inj c') (by decide)
section
variable {X : Cx} {k : Nat} {W : WX} {σ : L2.St} {H : Hp} {e a o : Expr} {es : List Expr} {sts : List Stmt} {pos apos : Pos} {Q : VK}
theorem b_apart {D : Ends} (h : Apart X.K H → wB X sts D σ H) : wB X sts D σ H := ⟨fun pins s I => (h (apart_inv I)).run pins s I⟩
theorem e_gives (h : wE X e σ H fun v H1 => Apart X.K H1 → Q v H1) : wE X e σ H Q := ⟨fun pins s I => thn (h.run pins s I) fun _ _ ⟨v, H', I', r, q⟩ => ⟨v, H', I', r, q (apart_inv I')⟩⟩
theorem e_apart (h : Apart X.K H → wE X e σ H Q) : wE X e σ H Q := ⟨fun pins s I => (h (apart_inv I)).run pins s I⟩
end
mutual
def tupOnly : PyData → Bool
  | .tuple xs => tupOnlyAll xs
  | .list _ => false
  | .dict _ => false
  | _ => true
def tupOnlyAll : List PyData → Bool
  | [] => true
  | x :: xs => tupOnly x && tupOnlyAll xs
end
section
variable {K : PySem.W.Frag} {l : List Addr} {H : Hp}
mutual
theorem DD.avoid {q : Addr} {ys : List V} (A : Apart K H) (hq : H q = some (.lst ys)) : ∀ {v : V} {d : PyData}, DD K l H v d → tupOnly d = true → DD K (q :: l) H v d
  | _, _, .non, _ => .non
  | _, _, .bl x, _ => .bl x
  | _, _, .int x, _ => .int x
  | _, _, .str x, _ => .str x
  | _, _, .lst h n r, e => by simp [tupOnly] at e
  | _, _, .tup h n r, e => .tup h (fun z => by
      rcases List.mem_cons.mp z with z | z
      · exact A _ _ _ _ h hq z
      · exact n z) (DDs.avoid A hq r (by simpa [tupOnly] using e))
  | _, _, .dct h n r, e => by simp [tupOnly] at e
theorem DDs.avoid {q : Addr} {ys : List V} (A : Apart K H) (hq : H q = some (.lst ys)) : ∀ {vs : List V} {ds : List PyData}, DDs K l H vs ds → tupOnlyAll ds = true → DDs K (q :: l) H vs ds
  | _, _, .nil, _ => .nil
  | _, _, .cons h r, e => by
    simp only [tupOnlyAll, Bool.and_eq_true] at e
    exact .cons (DD.avoid A hq h e.1) (DDs.avoid A hq r e.2)
end
theorem tupOnlyAll_of {ds : List PyData} (h : ∀ d ∈ ds, tupOnly d = true) : tupOnlyAll ds = true := by
  induction ds with
  | nil => rfl
  | cons d ds ih => simp only [tupOnlyAll, h d (by simp), ih fun x hx => h x (by simp [hx]), Bool.and_self]
end
section
variable {X : Cx} {k : Nat} {W : WX} {σ : L2.St} {H : Hp} {e a o : Expr} {es : List Expr} {pos apos : Pos} {Q : VK}
/-- xs.extend(ys) -/
theorem e_extend (h : wE X o σ H fun x H1 => ∃ q, x = .ref q ∧ (∃ ys, H1 q = some (.lst ys)) ∧ wE X a σ H1 fun y H2 => ∃ r xs zs, y = .ref r ∧ H2 q = some (.lst xs) ∧ H2 r = some (.lst zs) ∧ xs.length + zs.length ≤ sizeLine ∧ Q .non (upd H2 q (.lst (xs ++ zs))))
    (hs : starEach [a] X.env = [(false, eval a X.env)] := by rfl) (hbase : attributeBase o "extend" X.env (eval o X.env) = eval o X.env := by rfl) (hline : (apos.endLine == pos.line) = true := by rfl)
    (hfew : ((backTo pos (starEach [a] X.env)).all (fun x => !x.1) && (backToKw pos (keywordEach [] X.env)).all (fun x => x.1.isSome) && decide (([a] : List Expr).length + ([] : List Keyword).length + (if ([] : List Keyword).isEmpty then 0 else 1) < 30)) = true := by rfl) :
    wE X (.Call (.Attribute o "extend" apos) [a] [] pos) σ H Q :=
  eE (pe_bm PySem.F.plainAttrs_list PySem.F.slot_list_extend PySem.F.type_list_extend mt_extend pE pA hbase hfew hline (by rw [hs]; rfl) rfl)
    (wE_mono h fun x H1 ⟨q, e1, ⟨ys, h0⟩, h1⟩ => ⟨by rw [e1]; exact .inl ⟨rfl, ys, .inl (.inl h0)⟩, a_cons (wE_mono h1 fun y H2 ⟨r, xs, zs, e2, h2, h3, h4, h5⟩ => a_nil ⟨q, r, xs, zs, e1, by rw [e2], h2, h3, h4, h5⟩) (by rw [hs]; rfl)⟩)
end
end Z

set_option Elab.async false
set_option linter.all false
set_option maxRecDepth 100000
set_option maxHeartbeats 4000000
/-! pairs walked, reverse, clear, lists times a number, while, == -/
namespace Z
open PySem PySem.Spec PyProof.Rows L2
theorem Apart.nil {K : PySem.W.Frag} {H : Hp} (A : Apart K H) : Apart [] H := fun a xs q ys h1 h2 => A a xs q ys (sqt_all h1) h2
theorem Here.ext {l : List Addr} {H H1 : Hp} (h : Here l H) (b : But [] H H1) : Here l H1 := fun q hq => let ⟨o, e⟩ := h q hq; ⟨o, b _ _ (by simp) e⟩
theorem Here.cons {l : List Addr} {H : Hp} {q : Addr} {o : HO} (e : H q = some o) (h : Here l H) : Here (q :: l) H := fun x hx => by
  rcases List.mem_cons.mp hx with rfl | hx
  · exact ⟨o, e⟩
  · exact h x hx
theorem Here.nil {H : Hp} : Here [] H := fun q hq => by simp at hq
/-- what was there stays, whatever became of the new -/
theorem but_late {H0 H1 H2 : Hp} {l : List Addr} (a : But [] H0 H1) (b : But l H1 H2) (n : ∀ q ∈ l, H0 q = none) : But [] H0 H2 := fun q o _ e => b q o (fun z => by rw [n q z] at e; cases e) (a q o (by simp) e)
section
variable {X : Cx} {k : Nat} {W : WX} {σ : L2.St} {H : Hp} {e a b o elt c : Expr} {es : List Expr} {p pos apos : Pos} {Q : VK} {scope : Scope}
theorem mt_pairS {i j : Nat} {y z : Str} {p p' pt : Pos} {kt} {vs : List Nat} {q : Addr} {u v : V} {R : V → Prop} (hc : X.calm = true) (hN : X.N.Nodup) (hq : SqT X.K H q [u, v])
    (h : wEb X scope elt (((wipe σ vs).set i (some u)).set j (some v)) H fun v H4 => R v ∧ But [] H H4) (hw : wipe (((wipe σ vs).set i (some u)).set j (some v)) vs = wipe σ vs := by rfl) (hi : X.N[i]? = some y := by rfl) (hj : X.N[j]? = some z := by rfl)
    (hx : Loc (relS scope X.env.scope) y := by first | exact Or.inl rfl | exact Or.inr rfl) (hf : (scope.names.lookup y == some .cell) = true ∨ (relS scope X.env.scope).names.lookup y = some .local := by first | exact .inl rfl | exact .inr rfl)
    (hx2 : Loc (relS scope X.env.scope) z := by first | exact Or.inl rfl | exact Or.inr rfl) (hf2 : (scope.names.lookup z == some .cell) = true ∨ (relS scope X.env.scope).names.lookup z = some .local := by first | exact .inl rfl | exact .inr rfl) :
    MapTurn X scope vs (.Tuple [.Name y p, .Name z p'] kt pt) elt σ (.ref q) H R := by
  intro s H0 C cl fp
  refine g_tup (gs_cons (g_name (i := i) (gs_cons (g_name (i := j) (gs_nil ⟨hw, But.refl, h⟩) hN hj hx2 hf2)) hN hi hx hf)) hc hq
theorem e_reverse (h : wE X o σ H fun x H1 => ∃ q xs, x = .ref q ∧ H1 q = some (.lst xs) ∧ Q .non (upd H1 q (.lst xs.reverse)))
    (hbase : attributeBase o "reverse" X.env (eval o X.env) = eval o X.env := by rfl) (hline : (apos.endLine == pos.line) = true := by rfl)
    : wE X (.Call (.Attribute o "reverse" apos) [] [] pos) σ H Q :=
  eE (pe_bm0 PySem.F.plainAttrs_list PySem.F.slot_list_reverse PySem.F.type_list_reverse mt_reverse pE hbase hline)
    (wE_mono h fun x H1 ⟨q, xs, e1, h0, h1⟩ => ⟨by rw [e1]; exact .inl ⟨rfl, xs, .inl (.inl h0)⟩, ⟨q, xs, e1, rfl, h0, h1⟩⟩)
theorem e_clear (h : wE X o σ H fun x H1 => ∃ q xs, x = .ref q ∧ H1 q = some (.lst xs) ∧ Q .non (upd H1 q (.lst [])))
    (hbase : attributeBase o "clear" X.env (eval o X.env) = eval o X.env := by rfl) (hline : (apos.endLine == pos.line) = true := by rfl)
    : wE X (.Call (.Attribute o "clear" apos) [] [] pos) σ H Q :=
  eE (pe_bm0 PySem.F.plainAttrs_list PySem.F.slot_list_clear PySem.F.type_list_clear mt_clear pE hbase hline)
    (wE_mono h fun x H1 ⟨q, xs, e1, h0, h1⟩ => ⟨by rw [e1]; exact .inl ⟨rfl, xs, .inl (.inl h0)⟩, ⟨q, xs, e1, rfl, h0, h1⟩⟩)
theorem o_rep {q : Addr} {xs : List V} {n : Nat} (h1 : H q = some (.lst xs)) (hz : xs.length * n ≤ sizeLine) (hn : n < 2 ^ 62) (h : ∀ p, H p = none → Q (.ref p) (upd H p (.lst (List.replicate n xs).flatten))) : oW X (binaryOp .Mult) (.ref q) (.int n) H Q :=
  oW_of op_rep ⟨q, n, xs, rfl, rfl, h1, by omega, by omega, by simpa using hz, by simpa using h⟩
/-- while: the invariant with its measure -/
theorem s_while {D : Ends} {body : List Stmt} (C : Cxt X k W) (I : Nat → L2.St → Hp → Prop) (m0 : Nat) (h0 : I m0 σ H)
    (h : ∀ m σ H, I m σ H → wT X c σ H fun b H1 => if b = true then wB X body { D with nx := fun σ' H' => ∃ m', m' < m ∧ I m' σ' H', ct := fun σ' H' => ∃ m', m' < m ∧ I m' σ' H', bk := D.nx } σ H1 else D.nx σ H1) : wS X (.While c body [] pos) D σ H := by
  refine eS (ps_while C.po pT pB) ⟨I, ⟨m0, h0⟩, fun m σ H hi => wT_mono (h m σ H hi) fun b H1 q => ?_⟩
  cases b with
  | true => exact ⟨fun σ' H' => ∃ m', m' < m ∧ I m' σ' H', fun _ _ q => q, q⟩
  | false => exact q
end
mutual
theorem eqv_same : ∀ {d : PyData}, d.hasDict = false → PyData.eqv d d = true
  | .none, _ => rfl
  | .bool b, _ => by simp [PyData.eqv]
  | .int i, _ => by simp [PyData.eqv]
  | .str x, _ => by simp [PyData.eqv]
  | .list xs, h => by rw [PyData.eqv]; exact eqvAll_same (by simpa [PyData.hasDict] using h)
  | .tuple xs, h => by rw [PyData.eqv]; exact eqvAll_same (by simpa [PyData.hasDict] using h)
  | .dict _, h => by simp [PyData.hasDict] at h
theorem eqvAll_same : ∀ {ds : List PyData}, PyData.hasDictAll ds = false → PyData.eqvAll ds ds = true
  | [], _ => rfl
  | x :: xs, h => by
    simp only [PyData.hasDictAll, Bool.or_eq_false_iff] at h
    rw [PyData.eqvAll, eqv_same h.1, eqvAll_same h.2]
    rfl
end
end Z

set_option Elab.async false
set_option linter.all false
set_option maxRecDepth 100000
set_option maxHeartbeats 4000000
/-! objects of own classes compared -/
namespace Z
open PySem PySem.Spec PyProof.Rows L2 C8
section
variable {X : Cx} {k : Nat} {W : WX} {σ : L2.St} {H : Hp} {e a b : Expr} {p pos : Pos} {Q : VK} {x : Str}
theorem but_ext {H H' : Hp} (e : Ext H H') : But [] H H' := fun q o _ h => e q o h
theorem ext_but {H H' : Hp} (e : But [] H H') : Ext H H' := fun q o h => e q o (by simp) h
/-- x == y by the own __eq__ of the class at C -/
theorem c_eqI {C : Addr} {ps : List Str} {R : Addr → Addr → Hp → Prop} {y z : V} (Cc : Cxt X k W) (M : MethOk X.prog X.w X.K X.mg X.base k C "__eq__" ps (spEq R)) (d : DIns C R y z H) (q : ∀ H', But [] H H' → Q (.bl true) H') : oW X (compareOp .Eq) y z H Q := by
  obtain ⟨f, fd, hm, F, hb⟩ := M.ex
  exact oW_of (op_eqG (rcG_ins F hm.at_ hm.fn hb (passes0 Cc.tk)) Cc.room) ⟨d, fun H' e => q H' (but_ext e)⟩
/-- isinstance(e, C), e an instance of the own class C -/
theorem e_isC {C : Addr} {pT : Pos} (B : Blt X.mg X.base) (c : InsC X.K C) (hT : X.mg x = some (.ref C)) (h : wE X a σ H fun v H1 => ∃ r dx fs, v = .ref r ∧ H1 r = some (.ins C dx fs) ∧ Q (.bl true) H1) (hgT : Gl X x := by rfl) (hdT : (x == ("__debug__" : Str)) = false := by decide) (hgl : Gl X "isinstance" := by rfl)
    (hs : starEach [a, .Name x pT] X.env = (false, eval a X.env) :: starEach [.Name x pT] X.env := by rfl) (hs2 : starEach [.Name x pT] X.env = [(false, eval (.Name x pT) X.env)] := by rfl) :
    wE X (.Call (.Name "isinstance" p) [a, .Name x pT] [] pos) σ H Q :=
  e_B (id := "isinstance") (a_cons (wE_mono h fun v H1 ⟨r, dx, fs, e1, h1, q⟩ => a_cons (e_glob (v := .ref C) (a_nil (cW_of (call_isC c) ⟨r, dx, fs, by rw [e1], h1, q⟩)) hT rfl hgT hdT) hs2) hs)
    B.isinstance PyProof.Rows.boot_isinstance hgl (by decide) (by decide) hs (by rw [hs2]; rfl)
theorem c_eqDict {d1 d2 : Addr} {kvs : List (Key × V)} (C : Cxt X k W) (h1 : H d1 = some (.dK kvs)) (h2 : H d2 = some (.dK kvs)) (nd : (kvs.map (·.1)).Nodup) (fl : ∀ p ∈ kvs, flatB p.2 = true) (q : Q (.bl true) H) : oW X (compareOp .Eq) (.ref d1) (.ref d2) H Q :=
  oW_of (op_eq_dict (by have := C.un; omega)) ⟨d1, d2, kvs, rfl, rfl, h1, h2, nd, fl, q⟩
end
theorem strOk_ascii {x : Str} (h : ∀ c ∈ x.cps.toList, c < 128) : PyData.strOk x = true := by
  simp only [PyData.strOk, Array.all_eq_true', decide_eq_true_eq]
  intro c hc
  have := h c (by simpa using hc)
  omega
end Z

set_option Elab.async false
set_option linter.all false
set_option maxRecDepth 100000
set_option maxHeartbeats 4000000
/-! names set in pairs and threes -/
namespace Z
open PySem PySem.Spec PyProof.Rows L2
section
variable {X : Cx} {k : Nat} {W : WX} {σ : L2.St} {H : Hp} {a b c : Expr} {x y z : Str} {px py pz pt pt2 pos : Pos} {kt k2}
theorem s_par {D : Ends} {i j : Nat} (C : Cxt X k W) (h : wA X [a, b] σ H fun vs H1 => ∃ v w, vs = [v, w] ∧ D.nx ((σ.set i (some v)).set j (some w)) H1) (hi : X.N[i]? = some x := by rfl) (hj : X.N[j]? = some y := by rfl) (hij : i ≠ j := by decide)
    (hx : X.env.scope.names.lookup x = some .local := by rfl) (hy : X.env.scope.names.lookup y = some .local := by rfl)
    (hw : swappedStores [.Tuple [.Name x px, .Name y py] kt pt] (.Tuple [a, b] k2 pt2) X.env = pure (some [x, y]) := by rfl)
    (hs : swapsWithSole [.Tuple [.Name x px, .Name y py] kt pt] (.Tuple [a, b] k2 pt2) pos.line X.env = pure false := by rfl) : wS X (.Assign [.Tuple [.Name x px, .Name y py] kt pt] (.Tuple [a, b] k2 pt2) pos) D σ H :=
  eS (ps_par C.calm C.nd hi hj hij hx hy pA hw hs) h
theorem s_par3 {D : Ends} {i j l : Nat} (C : Cxt X k W) (h : wA X [a, b, c] σ H fun vs H1 => ∃ u v w, vs = [u, v, w] ∧ D.nx (((σ.set i (some u)).set j (some v)).set l (some w)) H1) (hi : X.N[i]? = some x := by rfl) (hj : X.N[j]? = some y := by rfl) (hl : X.N[l]? = some z := by rfl)
    (hij : i ≠ j := by decide) (hil : i ≠ l := by decide) (hjl : j ≠ l := by decide) (hx : X.env.scope.names.lookup x = some .local := by rfl) (hy : X.env.scope.names.lookup y = some .local := by rfl) (hz : X.env.scope.names.lookup z = some .local := by rfl)
    (hw : swappedStores [.Tuple [.Name x px, .Name y py, .Name z pz] kt pt] (.Tuple [a, b, c] k2 pt2) X.env = pure (some [x, y, z]) := by rfl)
    (hs : swapsWithSole [.Tuple [.Name x px, .Name y py, .Name z pz] kt pt] (.Tuple [a, b, c] k2 pt2) pos.line X.env = pure false := by rfl) : wS X (.Assign [.Tuple [.Name x px, .Name y py, .Name z pz] kt pt] (.Tuple [a, b, c] k2 pt2) pos) D σ H :=
  eS (ps_par3 C.calm C.nd hi hj hl hij hil hjl hx hy hz pA hw hs) h
end
end Z

set_option Elab.async false
set_option linter.all false
set_option maxRecDepth 100000
set_option maxHeartbeats 4000000
/-! what the head's facts give: tuples and dicts of the text, classes -/
namespace Z
open PySem PySem.Spec PyProof.Rows L2
section
variable {w : World} {K : PySem.W.Frag} {mg : Str → Option Value} {h : Heap}
theorem sqt_mk {a : Addr} {its : Array Value} {n : Nat} {dd : Option Addr} {sl : Array (Option Value)} {xs : List V} (l : K.lookup a = some ⟨.type "tuple", dd, .seq its n, sl⟩) (v : Vals xs its.toList) (z : its.size ≤ 16777216) : ∀ H, SqT K H a xs :=
  fun H => .inr ⟨_, its, n, l, rfl, rfl, by rw [sizeLine_eq]; exact z, v⟩
theorem kdct_mk {a : Addr} {x : Str} {v : V} {u : Value} {es : Array DictEntry} {n : Nat} (l : K.lookup a = some ⟨.type "dict", none, .dict es n, #[]⟩) (kl : PySem.W.KeysLit w.params es.toList) (e : PySem.W.nsIn K a x = some (some u)) (r : RelV v u) : KDct K w a x v := ⟨es, n, u, l, kl, e, r⟩
end
end Z

set_option Elab.async false
set_option linter.all false
set_option maxRecDepth 100000
set_option maxHeartbeats 4000000
/-! enumerate of a tuple -/
namespace Z
open PySem PySem.Spec PyProof.Rows L2
open AutoSeq1 (wpAny_loadPart')
theorem meets_enumerate_new1 (t : Addr) (items : Array Value) (n : Nat) (dct : Option Addr) (sl : Array (Option Value)) :
    Meets (Builtin.«enumerate.__new__» ⟨[.type "enumerate", .ref t], []⟩) (fun _ R s => s.heap.get? t = some { cls := .type "tuple", dict := dct, data := .seq items n, slots := sl } ∧
      R (.ok (.ret (.ref (s.heap.push { cls := .type "tuple_iterator", data := .fields #[.ref t, .int 0 0] }).objs.size)))
        { s with heap := (s.heap.push { cls := .type "tuple_iterator", data := .fields #[.ref t, .int 0 0] }).push { cls := .type "enumerate", data := .fields #[.none, .bool false, .ref s.heap.objs.size, rawInt 0, .none, .none] } }) :=
  .of_wp fun prog w A R s h => by
    obtain ⟨hp, g, d, tk, os⟩ := s; obtain ⟨hl, h⟩ := h
    have hsub := sub_enumerate
    have hL : Heap.IsTuple (Shared.heap ⟨hp, g, d, tk, os⟩) t items := ⟨_, hl, rfl, n, rfl⟩
    wp_walk using wpAny_loadPart' hl
    refine wpAny_stack_any fun st => wpAny_pure ?_
    split
    · rename_i c _ _ _ _ _
      cases (c == Value.type "enumerate")
      · wp_walk using wpAny_loadPart' hl, wpAny_pyIter_tuple hL
        exact ⟨_, rfl, h⟩
      · wp_walk using wpAny_loadPart' hl, wpAny_pyIter_tuple hL
        exact ⟨_, rfl, h⟩
    · wp_walk using wpAny_loadPart' hl, wpAny_pyIter_tuple hL
      exact ⟨_, rfl, h⟩
section
variable {prog : Program} {w : World} {A : Around} {E : Value → Shared → Prop} {s : Shared}
theorem call_enumerate_tuple {t : Addr} {items : Array Value} {Q : Value → Shared → Prop} (hL : s.heap.IsTuple t items)
    (h : ∀ h', IsEnum h' (s.heap.objs.size + 1) s.heap.objs.size 0 .none → h'.IsTupleIter s.heap.objs.size t 0 → h'.objs.size = s.heap.objs.size + 2 →
      (∀ b o, s.heap.get? b = some o → h'.get? b = some o) → Q (.ref (s.heap.objs.size + 1)) { s with heap := h' }) :
    wpAny (model prog w) A (call (.type "enumerate") [.ref t]) Q E s := by
  obtain ⟨⟨c, dct, dt, sl⟩, hl, hc, n, hd⟩ := hL
  replace hc : c = .type "tuple" := hc
  replace hd : dt = .seq items n := hd
  subst hc hd
  refine callType_new F.called_enumerate (by decide) (F.typeCall_enumerate_1 _) (F.newCall_enumerate_1 _) (fun obj => F.args_object_init_2 obj _) F.entry_enumerate_new
    (meets_enumerate_new1 t items n dct sl) ⟨hl, ?_⟩
  have hz : (s.heap.push { cls := .type "tuple_iterator", data := .fields #[.ref t, .int 0 0] }).objs.size = s.heap.objs.size + 1 := Heap.size_push ..
  show _ ∧ _
  rw [hz]
  have he : IsEnum ((s.heap.push { cls := .type "tuple_iterator", data := .fields #[.ref t, .int 0 0] }).push
      { cls := .type "enumerate", data := .fields #[.none, .bool false, .ref s.heap.objs.size, rawInt 0, .none, .none] }) (s.heap.objs.size + 1) s.heap.objs.size 0 .none := by
    have := Heap.get?_push_size (s.heap.push { cls := .type "tuple_iterator", data := .fields #[.ref t, .int 0 0] })
      (o := { cls := .type "enumerate", data := .fields #[.none, .bool false, .ref s.heap.objs.size, rawInt 0, .none, .none] }) rfl
    rw [hz] at this; exact this
  refine ⟨⟨_, he, rfl⟩, h _ he ⟨_, Heap.get?_push_of_some _ (Heap.get?_push_size _ rfl), rfl, rfl⟩ (by rw [Heap.size_push, hz]) fun b o x => Heap.get?_push_of_some _ (Heap.get?_push_of_some _ x)⟩
end
theorem wpAny_pyNext_enum_endT {prog : Program} {w : World} {A : Around} {E : Value → Shared → Prop} {s : Shared} {e it t : Addr} {i : Nat} {items : Array Value} {old : Value} {Q : Option Value → Shared → Prop} (hh : A.handled = none)
    (he : IsEnum s.heap e it ((i : Nat) : Int) old) (hit : s.heap.IsTupleIter it t i) (ht : s.heap.IsTuple t items) (hx : items[i]? = none)
    (hQ : ∀ h', Heap.ExtBut it s.heap h' → Q none { s with heap := h' }) : wpAny (model prog w) A (pyNext (.ref e)) Q E s := by
  have hT : s.TypeIs (.ref e) "enumerate" := ⟨_, he, rfl⟩
  unfold pyNext
  refine wpAny_bind (wpAny_attempt (wpAny_callSpecial?_slot (name := Str.ofString "__next__") hT F.slot_enumerate_next
    (wpAny_call_entry F.slot_enumerate_next hT F.entry_enumerate_next ?_ (F.args_enumerate_next_1 _))))
  show wpAny _ _ (field (.ref e) 2 >>= _) _ _ _
  refine wpAny_bind (wpAny_field he rfl (x := .ref it) rfl ?_)
  refine wpAny_bind (wpAny_nextOf_tuple_end (show A.in1.handled = none from hh) hit ht hx fun h' x he' hx' => ?_)
  obtain ⟨o, ho, hc⟩ := hx'
  refine wpAny_bind (wpAny_isInstance (T := "StopIteration") (b := true) ⟨o, ho, hc⟩ isSubtype_stop ?_)
  exact wpAny_pure (hQ _ he')
/-- the tuple at a, its items in new pairs -/
def Itet (K : PySem.W.Frag) (a : Addr) : It :=
  ⟨fun i H => ∃ (xs : List V) (x : V), SqT K H a xs ∧ xs[i]? = some x, fun i H v H' => ∃ T x, v = .ref T ∧ H T = none ∧ H' = upd H T (.tup [.int (i : Nat), x]) ∧ ∀ xs, SqT K H a xs → xs[i]? = some x, fun i H => ∃ xs : List V, SqT K H a xs ∧ xs.length ≤ i⟩
theorem tup_ne {h : Heap} {a b : Addr} {items : Array Value} {o : Obj} (ha : IsTup h a items) (hb : h.get? b = some o) (n : ¬ o.cls = .type "tuple") : a ≠ b := fun z => by
  obtain ⟨o', e, c, _⟩ := ha
  rw [z, hb] at e
  cases e
  exact n c
theorem turn_enumT {P : Program} {w : World} {K : PySem.W.Frag} {elts : List Expr} {kk : Nat} {tpos : Pos} (a e it : Addr) :
    Turn P w K (.Tuple elts kk tpos) (Itet K a) [e, it] e (fun i h => (∃ old, IsEnum h e it ((i : Nat) : Int) old) ∧ h.IsTupleIter it a i ∧ e ≠ it) where
  mem := by simp
  obj := fun i h st b hb => by
    obtain ⟨⟨old, he⟩, ⟨o, ho, hc, hd⟩, _⟩ := st
    have e' : b = e ∨ b = it := by simpa using hb
    rcases e' with z | z
    · rw [z]; exact ⟨_, he, fun v q => nomatch q⟩
    · rw [z]; exact ⟨o, ho, fun v q => by rw [hd] at q; cases q⟩
  keep := fun i h h' st k => let ⟨⟨old, he⟩, hi, hne⟩ := st; ⟨⟨old, k e (by simp) _ he⟩, hi.at fun o q => k it (by simp) o q, hne⟩
  item := by
    intro X hP hw hK hc i pins s σ H E I hf st hg
    subst hP hw hK
    obtain ⟨⟨old, he⟩, hit, hne⟩ := st
    obtain ⟨xs, x, hq, hx⟩ := hg
    obtain ⟨its, rv, p, hz⟩ := I.tuple hq
    obtain ⟨u, hu, ru⟩ := rv.get hx
    have hel : e < s.heap.objs.size := Heap.lt_size he
    have hil : it < s.heap.objs.size := by obtain ⟨_, q, _⟩ := hit; exact Heap.lt_size q
    have nae : a ≠ e := tup_ne p he (fun z => absurd (Value.type.inj z) (by decide))
    have nai : a ≠ it := by
      obtain ⟨oi, hoi, hci, _⟩ := hit
      exact tup_ne p hoi (by rw [hci]; exact fun z => absurd (Value.type.inj z) (by decide))
    have hlt : i < its.toArray.size := by
      have := (List.getElem?_eq_some_iff.mp hu).1
      simpa using this
    refine wpAny_pyNext_enum_itemC (Draws.tuple (show X.A.in1.handled = none from I.ok.hd hc) it a nai its.toArray) he ⟨hit, p⟩ hlt hne (by simp [hne, nae.symm]) fun x' h' tk hP ho hst' hT hsz hk => ?_
    obtain ⟨hit', p'⟩ := hst'
    have hxu : x' = u := by
      have h1 : its.toArray[i]? = some x' := hP
      rw [← Array.getElem?_toList] at h1
      rw [show its.toArray.toList = its from by simp, hu] at h1
      exact (Option.some.inj h1).symm
    subst hxu
    refine ⟨_, rfl, wpAny_letOwnedTupleGo_enum (s := { s with heap := h', toks := tk + 1 }) ho fun h'' he' sb => ?_⟩
    have hT2 : h''.get? s.heap.objs.size = some { cls := .type "tuple", data := .seq #[.int i tk, x'] } := (sb.2 _ (Nat.ne_of_gt hel)).trans hT
    have new : ObjOk X.prog X.w (upd H s.heap.objs.size (.tup [.int (i : Nat), x])) h'' s.heap.objs.size (.tup [.int (i : Nat), x]) :=
      ⟨by show 2 ≤ sizeLine; decide, [.int i tk, x'], .cons ⟨_, rfl⟩ (.cons ru .nil), ⟨_, hT2, rfl, _, rfl⟩⟩
    have I1 : Inv X pins σ (upd H s.heap.objs.size (.tup [.int (i : Nat), x])) { s with heap := h'', toks := tk + 1 } :=
      I.turnedNew (ch := [e, it]) (fun b ob hb q => (sb.2 b (fun z => hb (by simp [z]))).trans (hk b ob (fun z => hb (by simp [z])) (fun z => hb (by simp [z])) q)) hf (Nat.le_refl _) new
    refine ⟨.ref s.heap.objs.size, _, I1, rfl, ⟨_, x, rfl, I.hok.fresh (Nat.le_refl _), rfl, fun ys hy => by rw [I.tuple_inj hy hq]; exact hx⟩, ⟨⟨x', ?_⟩, hit'.at fun o q => (sb.2 it (Ne.symm hne)).trans q, hne⟩, fun b hb => ?_⟩
    · have e1 : ((i + 1 : Nat) : Int) = (i : Int) + 1 := by omega
      rw [e1]; exact he'
    · have hb' : b < s.heap.objs.size := by
        have e' : b = e ∨ b = it := by simpa using hb
        rcases e' with z | z
        · rw [z]; exact hel
        · rw [z]; exact hil
      rw [upd_ne (Nat.ne_of_lt hb')]
      exact (hf b hb).1
  done := by
    intro X hP hw hK hc i pins s σ H E I hf st hg
    subst hP hw hK
    obtain ⟨⟨old, he⟩, hit, hne⟩ := st
    obtain ⟨xs, hq, hx⟩ := hg
    obtain ⟨its, rv, p, hz⟩ := I.tuple hq
    obtain ⟨f0, f1, f2, f3, f4, f5⟩ := hf it (by simp)
    have hl := rv.length
    exact wpAny_pyNext_enum_endT (I.ok.hd hc) he hit p (by simp; omega) fun h' eb => ⟨rfl, I.turned (t' := s.toks) (fun b o hb q => eb b o hb q) f0 f1 f3 f4 f5⟩
  self := fun A i s Q E st h => let ⟨⟨_, he⟩, _⟩ := st; wpAny_pyIter_enum he h
def iEnumT (K : PySem.W.Frag) (ta : TA) : TI := fun σ H R => ta σ H fun vs H1 => ∃ a xs, vs = [.ref a] ∧ SqT K H1 a xs ∧ R (Itet K a) H1
theorem pi_enumT {X : Cx} {e : Expr} {ta : TA} {p pos tpos : Pos} {elts : List Expr} {kk : Nat} (hg : Gl X "enumerate") (hm : X.mg "enumerate" = none) (ha : PA X [e] ta) (hs : starEach [e] X.env = [(false, eval e X.env)] := by rfl) :
    PI X (.Tuple elts kk tpos) (.Call (.Name "enumerate" p) [e] [] pos) (iEnumT X.K ta) := by
  refine ⟨fun pins s σ H R I h => ?_⟩
  refine Call_ (ld_blt I hg hm boot_enumerate (PyProof.Rows.callWith_type1 (thn (ha.run pos pins s σ H _ I h) fun us s1 ⟨vs, H1, I1, r1, q1⟩ => ?_) hs rfl))
  obtain ⟨a, xs, ex, hq, q⟩ := q1
  subst ex
  cases r1 with
  | cons r rr =>
    cases rr
    cases r
    obtain ⟨its, rv, p', hz⟩ := I1.tuple hq
    refine call_enumerate_tuple (show s1.heap.IsTuple a its.toArray from p') fun h' he hit hsz hk => wpAny_pyIter_enum he ?_
    have I2 : Inv X pins σ H1 { s1 with heap := h' } := I1.kept (t' := s1.toks) hk
    refine ⟨s1.heap.objs.size + 1, [s1.heap.objs.size + 1, s1.heap.objs.size], _, _, H1, rfl, I2, turn_enumT a (s1.heap.objs.size + 1) s1.heap.objs.size, ⟨⟨.none, he⟩, hit, Nat.succ_ne_self _⟩, fun b hb => ?_, q⟩
    have e' : b = s1.heap.objs.size + 1 ∨ b = s1.heap.objs.size := by simpa using hb
    have hle : s1.heap.objs.size ≤ b := by
      rcases e' with z | z
      · rw [z]; exact Nat.le_add_right _ _
      · rw [z]; exact Nat.le_refl _
    exact I1.fpOk hle (I1.hok.fresh hle)
theorem walk_enumT {K : PySem.W.Frag} {a : Addr} {xs : List V} : Walk (Itet K a) xs.length (fun H => SqT K H a xs) (YPair (fun i => some (.int (i : Nat))) (fun i => xs[i]?)) := by
  refine ⟨fun i _ hi q => ⟨xs, xs[i], q, by simp [hi]⟩, fun _ q => ⟨xs, q, Nat.le_refl _⟩, fun i H v H' _ q y => ?_⟩
  obtain ⟨T, x, h1, h2, h3, h4⟩ := y
  exact ⟨T, .int (i : Nat), x, h1, h2, h3, rfl, h4 xs q⟩
section
variable {X : Cx} {σ : L2.St} {H : Hp} {e : Expr} {elts : List Expr} {kk : Nat} {p pos tpos : Pos}
theorem i_enumT {R : It → Hp → Prop} (B : Blt X.mg X.base) (h : wE X e σ H fun v H1 => ∃ a xs, v = .ref a ∧ SqT X.K H1 a xs ∧ R (Itet X.K a) H1) (hg : Gl X "enumerate" := by rfl) (hs : starEach [e] X.env = [(false, eval e X.env)] := by rfl) :
    wI X (.Tuple elts kk tpos) (.Call (.Name "enumerate" p) [e] [] pos) σ H R :=
  eI (pi_enumT hg B.enumerate pA hs) (a_cons (wE_mono h fun v H1 ⟨a, xs, e1, h1, r⟩ => a_nil ⟨a, xs, by rw [e1], h1, r⟩) hs)
end
end Z

set_option Elab.async false
set_option linter.all false
set_option maxRecDepth 100000
set_option maxHeartbeats 4000000
/-! a lambda with one parameter, handed to a def as its second argument -/
namespace Z
open PySem PySem.Spec PyProof.Rows L2 LamX NdefX
abbrev lamF (X : Cx) (params : Arguments) (scope : Scope) (c' : Addr) : NF := ⟨"<lambda>", X.env.qual ++ "<lambda>", params, [], scope, cloFrom X.env.cells scope.names [], c'⟩
/-- the context of the lambda's body -/
abbrev lam1Cx (X : Cx) (N : List Str) (A : Around) (outer : List Env) (s : Shared) (H : Hp) (E : XK) (params : Arguments) (scope : Scope) (f c' : Addr) : Cx := ncx (L2.CX X.prog X.w) X.prog X.w X.K X.mg X.base N (lamF X params scope c') f A outer s H E
section
variable {X : Cx} {pins : List (Addr × Obj)} {σ : L2.St} {H : Hp} {s : Shared} {k : Nat} {W : WX}
theorem cells_un {fs : List Addr} {cl : List (Str × Addr)} {fr : List Str} {ws : List (Option V)} {h h' : Heap} {H H' : Hp} (C : CellsAt cl fr ws h H) (un : Un fs [] H H' h h') : CellsAt cl fr ws h' H' := by
  have kp : ∀ {c : Addr} {v : Option Value}, H c = none → h.IsCell c v → h'.IsCell c v := fun {c v} n ⟨o, ho, hd⟩ => by
    obtain ⟨sl, q⟩ := un.any ho n (by simp)
    exact ⟨_, q, hd⟩
  refine ⟨C.len, fun y c e => ?_, C.inj, fun i y e => ?_⟩
  · obtain ⟨n, v, z⟩ := C.all y c e
    refine ⟨?_, v, kp n z⟩
    obtain ⟨o, ho, _⟩ := z
    exact un.free c o ho n (by simp)
  · obtain ⟨c, hc, hv⟩ := C.has i y e
    refine ⟨c, hc, fun v ev => ?_⟩
    obtain ⟨u, r, z⟩ := hv v ev
    exact ⟨u, r, kp (C.all y c hc).1 z⟩
/-- the lambda is called -/
theorem e_act1 {Ng N fr : List Str} {js : List Nat} {i : Nat} {x a pname : Str} {st : Stmt} {g f c' : Addr} {cdg pm ctv : Value} {params : Arguments} {body arg : Expr} {scope : Scope} {E0 E : XK} {p1 p2 : Pos} {σZ : L2.St} {HZ : Hp} {Q : VK}
    (C : Cxt X (k + 2) W) (I : Inv X pins σ H s) (S : NScope N [pname] fr scope) (cp : Caps X (cloFrom X.env.cells scope.names []) fr js) (hf : s.heap.get? f = some (PySem.W.kla_obj "<lambda>" (X.env.qual ++ "<lambda>") params body scope (cloFrom X.env.cells scope.names []) pm c' ctv)) (hfn : H f = none) (hfr : f ∉ frs X.stack)
    (hbind : ∀ u : Value, bindArgs (PySem.W.kla_fn "<lambda>" (X.env.qual ++ "<lambda>") params body scope (cloFrom X.env.cells scope.names []) pm (.ref c') ctv) ⟨[u], []⟩ = pure [(pname, u)])
    {W' : WX} (tk : Takes (hX X Ng x st g cdg s H E0) W') (hW : ∀ cls d σ' H', E cls d H' → W' cls d σ' H')
    (hN : Ng[i]? = some a) (hv : Vis (defScope st) a) (hd : (a == ("__debug__" : Str)) = false) (hcd : (a == ("__classdict__" : Str)) = false)
    (hs : σZ[i]? = some (some (.ref f)))
    (h : wE (hX X Ng x st g cdg s H E0) arg σZ HZ fun v HY => HY c' = some (CodeO c' (X.env.qual ++ "<lambda>")) ∧ ∀ (A : Around) (outer : List Env) (s' : Shared), Cxt (lam1Cx X N A outer s' HY E params scope f c') k (fun cls d _ H => E cls d H) → wE (lam1Cx X N A outer s' HY E params scope f c') body (startF N [v] (js.map (slotAt σ))) HY Q)
    (he : starEach [arg] (hX X Ng x st g cdg s H E0).env = (false, eval arg (hX X Ng x st g cdg s H E0).env) :: starEach [] (hX X Ng x st g cdg s H E0).env := by rfl) :
    wE (hX X Ng x st g cdg s H E0) (.Call (.Name a p1) [arg] [] p2) σZ HZ Q := by
  refine ⟨fun pinsZ sZ IZ => ?_⟩
  refine wpAny_Call_Name_kw (thn ((pe_var (pos := p1) (i := i) hN hv hd hcd).run pinsZ sZ σZ HZ (fun v H1 => v = .ref f ∧ H1 = HZ) IZ ⟨.ref f, hs, rfl, rfl⟩) fun u s1 ⟨v, H1, I1, r1, q1⟩ => ?_)
  obtain ⟨ev, eH⟩ := q1
  subst ev
  rw [eH] at I1
  obtain rfl : u = Value.ref f := r1
  have of1 : s1.heap.get? f = some (PySem.W.kla_obj "<lambda>" (X.env.qual ++ "<lambda>") params body scope (cloFrom X.env.cells scope.names []) pm c' ctv) := I1.base.keep f _ hf hfn hfr (fun z => nomatch (show f ∈ ([] : List Addr) from z))
  refine PySem.W.callWith_F (first := []) ⟨_, _, _, _, of1⟩ (thn ((a_cons (Q := fun vs H1 => ∃ v, vs = [v] ∧ H1 c' = some (CodeO c' (X.env.qual ++ "<lambda>")) ∧ ∀ (A : Around) (outer : List Env) (s' : Shared), Cxt (lam1Cx X N A outer s' H1 E params scope f c') k (fun cls d _ H => E cls d H) → wE (lam1Cx X N A outer s' H1 E params scope f c') body (startF N [v] (js.map (slotAt σ))) H1 Q) (wE_mono h fun v HY q => a_nil ⟨v, rfl, q⟩) he).run p2 pinsZ s1 I1) fun us s2 ⟨vs, H2, I2, r, v, ev, hc, hb⟩ => ?_) he rfl
  subst ev
  obtain ⟨u, rfl, ru⟩ := vals1 r
  have of2 : s2.heap.get? f = some (PySem.W.kla_obj "<lambda>" (X.env.qual ++ "<lambda>") params body scope (cloFrom X.env.cells scope.names []) pm c' ctv) := I2.base.keep f _ hf hfn hfr (fun z => nomatch (show f ∈ ([] : List Addr) from z))
  refine ⟨⟨_, _, _, _, of2⟩, ?_⟩
  show wpAny _ _ (call (.ref f) [u]) _ _ _
  have un : Un (frs X.stack) [] H H2 s.heap s2.heap := I2.base
  have CA : CellsAt (cloFrom X.env.cells scope.names []) fr (js.map (slotAt σ)) s2.heap H2 := cells_un (cells_of I cp) un
  obtain ⟨⟨oc, ws, t, hoc, hdc, hvc⟩, _, _⟩ := I2.hok c' _ hc
  have hr : Room (k + 1) (X.A.deeper (envOfC x (defScope st) s.heap.objs.size g cdg)) := C.room.deeper _
  have rc : codeAny (model X.prog X.w) (X.A.deeper (envOfC x (defScope st) s.heap.objs.size g cdg)) (.call (.ref f) ⟨[u], []⟩) (CR (L2.CX X.prog X.w) (envOfC x (defScope st) s.heap.objs.size g cdg :: X.stack) X.prog X.w H2 s2 Q E) s2 := by
    refine PySem.W.kla_callFunE hr.depth of2 rfl S.co S.gen rfl ⟨c', oc, ws, t, rfl, hoc, hdc, hvc⟩ ?_
    rw [hbind u]
    refine wpAny_pure (wpAny_newFunctionEnv S.nocell (fun y hy => S.par y.1 (by rw [List.mem_singleton.mp hy]; simp)) (fun h₁ hns hsb => ⟨I2.nolimit.fresh _ hsb, ?_⟩) S.kind)
    show codeAny _ _ (.expr body (envF (lamF X params scope c') f s2.heap.objs.size)) _ _
    have kp : ∀ b o, s2.heap.get? b = some o → h₁.get? b = some o := fun b o e => hsb.extBut b o (Nat.ne_of_lt (Heap.lt_size e)) (Heap.get?_push_of_some _ e)
    have J : Inv (lam1Cx X N (X.A.deeper (envOfC x (defScope st) s.heap.objs.size g cdg)) (envOfC x (defScope st) s.heap.objs.size g cdg :: X.stack) s2 H2 E params scope f c') [] (startF N [v] (js.map (slotAt σ))) H2 { s2 with heap := h₁, toks := s2.toks + ([(pname, u)] : List (Str × Value)).length } :=
      inv_startN (F := lamF X params scope c') (ps := [pname]) (us := [u]) S hr.hd I2.env0 rfl (.cons ru .nil) CA hns kp
    have CL : Cxt (lam1Cx X N (X.A.deeper (envOfC x (defScope st) s.heap.objs.size g cdg)) (envOfC x (defScope st) s.heap.objs.size g cdg :: X.stack) s2 H2 E params scope f c') k (fun cls d _ H' => E cls d H') :=
      ⟨hr.deeper _, rfl, S.nd, C.blt, passes_of rfl, takes_of rfl rfl rfl rfl⟩
    refine PySem.W.kla_codeExpr (wpAny_mono ((hb _ _ s2 CL).run [] _ J) (fun v s' hq => ?_) fun e s' hq => hq)
    obtain ⟨w', H', J', rv, q⟩ := hq
    exact ⟨w', H', J'.os, J'.bare, J'.base, J'.hok, rv, q⟩
  refine wpAny_call (codeAny_mono rc fun r s' hq => ?_)
  cases r with
  | error e => exact tk e s' (XE.of_call I2 (fun cls d H' h => hW cls d _ H' h) hq)
  | ok fl =>
    cases fl with
    | ret u => exact I2.after hq
    | next => exact False.elim hq
    | brk => exact False.elim hq
    | cont => exact False.elim hq
/-- x(e0, lambda p: body) -/
theorem e_lam2 {T : List (Addr × Str)} {x a b pname : Str} {st : Stmt} {c P : Addr} {Ng N fr : List Str} {js : List Nat} {params : Arguments} {body e0 : Expr} {scope : Scope} {p lpos pos : Pos} {Q : VK}
    (C : Cxt X (k + 2) W) (D : At X.K X.mg x st) (Sg : FnScope Ng [b, a] (defScope st)) (TB : TabB X.base X.mg c P) (hcode : X.env.code = .ref c) (hmT : (P, X.env.qual ++ "<lambda>") ∈ T) (hu : ∀ p ∈ T, p.1 = P → p.2 = X.env.qual ++ "<lambda>")
    (S : NScope N [pname] fr scope) (hB : ndefB X.env.scope scope fr = true) (hjs : js.map (fun j => X.N[j]?) = fr.map some)
    (h : wE X e0 σ H fun v0 H0 => Tabs T H0 ∧ ∀ (g : Addr) (cdg : Value) (f c' : Addr) (s : Shared) (H1 : Hp), ExtN H0 H1 → Tabs T H1 → H1 c' = some (CodeO c' (X.env.qual ++ "<lambda>")) →
      Cxt (hX X Ng x st g cdg s H1 (fun cls d H' => W cls d σ H')) (k + 1) (fun cls d _ H' => W cls d σ H') →
      (∀ (E : XK) (σZ : L2.St) (HZ : Hp) (Q' : VK) (arg : Expr) (p1 p2 : Pos), (∀ cls d H', E cls d H' → W cls d σ H') → σZ[1]? = some (some (.ref f)) →
        (starEach [arg] (hX X Ng x st g cdg s H1 (fun cls d H' => W cls d σ H')).env = (false, eval arg (hX X Ng x st g cdg s H1 (fun cls d H' => W cls d σ H')).env) :: starEach [] (hX X Ng x st g cdg s H1 (fun cls d H' => W cls d σ H')).env) →
        wE (hX X Ng x st g cdg s H1 (fun cls d H' => W cls d σ H')) arg σZ HZ (fun v HY => HY c' = some (CodeO c' (X.env.qual ++ "<lambda>")) ∧ ∀ (A : Around) (outer : List Env) (s' : Shared), Cxt (lam1Cx X N A outer s' HY E params scope f c') k (fun cls d _ H => E cls d H) → wE (lam1Cx X N A outer s' HY E params scope f c') body (startF N [v] (js.map (slotAt σ))) HY Q') →
        wE (hX X Ng x st g cdg s H1 (fun cls d H' => W cls d σ H')) (.Call (.Name a p1) [arg] [] p2) σZ HZ Q') →
      wB (hX X Ng x st g cdg s H1 (fun cls d H' => W cls d σ H')) (defBody st) { nx := fun _ H' => Q .non H', rt := Q } (start Ng [v0, .ref f]) H1)
    (hN : Ng[1]? = some a := by rfl) (hv : Vis (defScope st) a := by first | exact Or.inl rfl | exact Or.inr (Or.inl rfl) | exact Or.inr (Or.inr rfl)) (hg : Gl X x := by rfl) (hdef : defaultsOf params X.env = ([], []) := by rfl)
    (hbl : ∀ (q : Str) (cl : List (Str × Addr)) (pm cv ctv u : Value), bindArgs (PySem.W.kla_fn "<lambda>" q params body scope cl pm cv ctv) ⟨[u], []⟩ = pure [(pname, u)] := by intros; rfl)
    (hbind : ∀ (kV doc pm : Value) (an : Option Addr) (cdv ct : Value) (us : List Value), us.length = ([b, a] : List Str).length → bindArgs (PySem.W.fnOf x x (defArgs st) (defBody st) (defScope st) .none kV doc pm an cdv ct) ⟨us, []⟩ = pure (([b, a] : List Str).zip us) := by exact fun _ _ _ _ _ _ us hl => match us, hl with | [_, _], _ => rfl)
    (hdb : (x == ("__debug__" : Str)) = false := by decide) (hd : (a == ("__debug__" : Str)) = false := by decide) (hcd : (a == ("__classdict__" : Str)) = false := by decide)
    (he : starEach [e0, .Lambda params body scope lpos] X.env = (false, eval e0 X.env) :: starEach [.Lambda params body scope lpos] X.env := by rfl) :
    wE X (.Call (.Name x p) [e0, .Lambda params body scope lpos] [] pos) σ H Q := by
  refine ⟨fun pins s I => ?_⟩
  obtain ⟨g, fd, hm, F⟩ := D.ex
  obtain ⟨oc, od, kV, doc, pm, an, cdg, ct, osl, rfl, lk, hcd2⟩ := F.ex
  refine wpAny_Call_Name_kw (ld_glob I hg hm ?_ hdb)
  refine PySem.W.callWith_K (h₀ := X.base) I.ok.mod.kin F.kp ?_ he (by rfl)
  rw [he]
  show wpAny _ _ (spliced ((false, eval e0 X.env) :: backTo pos (starEach [.Lambda params body scope lpos] X.env))) _ _ s
  refine Calls.spliced_cons (thn (h.run pins s I) fun u0 s0 ⟨v0, H0, I0, r0, hT, h⟩ => ?_)
  show wpAny _ _ (spliced ((false, eval (.Lambda params body scope lpos) X.env) :: backTo pos (starEach [] X.env))) _ _ s0
  have hfree : ∀ y ∈ scope.names, y.2 = .free → ∃ c, X.env.cells.lookup y.1 = some c := fun y hy e => (ndef_free hB y hy e).elim (fun z => I0.ok.has _ (.inl z)) fun z => I0.ok.has _ (.inr z)
  refine Calls.spliced_cons (lam_make2 I0 TB hcode hmT hu hT hdef hfree fun f c' pm' ctv H1 s' I1 eN T1 hf hfn hfr hco => ?_)
  refine Calls.spliced_nil ⟨I1.kIn, ?_⟩
  have cp : Caps X (cloFrom X.env.cells scope.names []) fr js := Caps.made I1.ok (ndef_free hB) (ndef_fr hB) hjs
  have rc : codeAny (model X.prog X.w) X.A (.call (.ref g) ⟨[u0, .ref f], []⟩) (CR (L2.CX X.prog X.w) X.stack X.prog X.w H1 s' Q (fun cls d H' => W cls d σ H')) s' := by
    refine run_ofS (N := Ng) (ps := [b, a]) (us := [u0, .ref f]) (vs := [v0, .ref f]) lk hcd2 Sg (C.room.mono (show k + 1 + 1 ≤ k + 2 from Nat.le_refl _)) I1.env0 (.of_eq (hbind kV doc pm an cdg ct [u0, .ref f] rfl)) (.cons r0 (.cons rfl .nil)) rfl fun hr' => ?_
    have CZ : Cxt (hX X Ng x st g cdg s' H1 (fun cls d H' => W cls d σ H')) (k + 1) (fun cls d _ H' => W cls d σ H') := ⟨hr', rfl, Sg.nd, C.blt, passes_of rfl, takes_of rfl rfl rfl rfl⟩
    refine ⟨wB _ (defBody st), pB, h g cdg f c' s' H1 eN T1 hco CZ fun E σZ HZ Q' arg p1 p2 hW hs hst hh => ?_⟩
    exact e_act1 C I1 S cp hf hfn hfr (hbl _ _ _ _ _) CZ.tk (fun cls d σ' H' z => hW cls d H' z) hN hv hd hcd hs hh hst
  refine wpAny_call (codeAny_mono rc fun r s2 hq => ?_)
  cases r with
  | error e => exact C.tk e s2 (XE.of_call I1 (fun _ _ _ z => z) hq)
  | ok fl =>
    cases fl with
    | ret u => exact I1.after hq
    | next => exact False.elim hq
    | brk => exact False.elim hq
    | cont => exact False.elim hq
end
end Z

set_option Elab.async false
set_option linter.all false
set_option maxRecDepth 100000
set_option maxHeartbeats 4000000
/-! more rules: lists of ranges, reversed slices, texts times numbers, dicts made of pairs, comprehensions of two fors -/
namespace Z
open PySem PySem.Spec PyProof.Rows L2
section
variable {X : Cx} {k : Nat} {W : WX} {σ : L2.St} {H : Hp} {e a b c o elt tg iter tg1 iter1 : Expr} {es : List Expr} {p p2 pos apos pos2 : Pos} {Q : VK} {scope : Scope}
/-- xs[::-1] -/
theorem e_rev {kk : Nat} {p1 p2 p3 pos : Pos} (h : wE X e σ H fun x H1 => ∃ a xs, x = .ref a ∧ SqL X.K H1 a xs ∧ ∀ p, H1 p = none → Q (.ref p) (upd H1 p (.lst xs.reverse))) : wE X (.Subscript e (.Slice none none (some (.UnaryOp .USub (.Constant (.int 1) kk p1) p2)) p3) pos) σ H Q := eE (pe_revL pE) h
/-- the ints from i on, n of them, by steps of d -/
def rgD (i d : Int) (n : Nat) : List V := (List.range n).map fun t => V.int (i + (t : Nat) * d)
/-- list(range(a, b, c)) -/
theorem e_listRg3 (C : Cxt X k W) (h : wA X [a, b, c] σ H fun vs H1 => ∃ (i j d : Int) (n : Nat), vs = [.int i, .int j, .int d] ∧ d ≠ 0 ∧ Builtin.Range.small i j d = true ∧ Builtin.Range.rangeSize i j d = n ∧ n ≤ 2 ^ 24 ∧ Builtin.divisionGoesByPylong (j - i) d = false ∧ ∀ q, H1 q = none → Q (.ref q) (upd H1 q (.lst (rgD i d n))))
    (hg : Gl X "list" := by rfl) (hg2 : Gl X "range" := by rfl) (na : starEach [.Call (.Name "range" p2) [a, b, c] [] pos2] X.env = (false, eval (.Call (.Name "range" p2) [a, b, c] [] pos2) X.env) :: starEach [] X.env := by rfl)
    (hs : starEach [a, b, c] X.env = (false, eval a X.env) :: starEach [b, c] X.env := by rfl) (hpl : (backTo pos2 (starEach [b, c] X.env)).any (·.1) = false := by rfl) :
    wE X (.Call (.Name "list" p) [.Call (.Name "range" p2) [a, b, c] [] pos2] [] pos) σ H Q := by
  refine ⟨fun pins s I => ?_⟩
  refine Call_ (ld_blt I hg C.blt.list PyProof.Rows.boot_list (PyProof.Rows.callWith_type1 (args_cons ?_ na) na))
  refine Call_ (ld_blt I hg2 C.blt.range PyProof.Rows.boot_range (PyProof.Rows.callWith_type1 (thn (h.run pos2 pins _ I) fun us s1 ⟨vs, H1, I1, r1, q1⟩ => ?_) hs hpl))
  obtain ⟨i, j, d, n, ex, hd, hsm, hsz, hn, hdv, q⟩ := q1
  subst ex
  obtain ⟨u1, u2, u3, rfl, ⟨t1, rfl⟩, ⟨t2, rfl⟩, ⟨t3, rfl⟩⟩ : ∃ u1 u2 u3, us = [u1, u2, u3] ∧ RelV (.int i) u1 ∧ RelV (.int j) u2 ∧ RelV (.int d) u3 := by
    cases r1 with
    | cons r1 r =>
      cases r with
      | cons r2 r =>
        cases r with
        | cons r3 r =>
          cases r
          exact ⟨_, _, _, rfl, r1, r2, r3⟩
  refine call_range_3 hd (args_nil ?_) (.inl hdv)
  have I2 : Inv X pins σ H1 { s1 with heap := s1.heap.push { cls := .type "range", data := .fields #[.int i t1, .int j t2, .int d t3] } } := I1.kept (t' := s1.toks) fun b u e => Heap.get?_push_of_some _ e
  refine call_list_range (n := n) (I2.ok.hd C.calm) (IsRange.new _ _ _ _ _ _ _) hsm hsz hn fun h' tk acc c' hk e' hi => ?_
  refine ⟨.ref _, _, I2.laid (o := .lst (rgD i d n)) hk (Nat.le_refl _) ⟨?_, acc.toList, c', ?_, ?_⟩, rfl, q _ (I2.hok.fresh (Nat.le_refl _))⟩
  · rw [rgD, List.length_map, List.length_range, sizeLine_eq]; omega
  · have e : acc.toList.length = n := by rw [Array.length_toList]; exact hi.1
    unfold rgD
    rw [← e]
    refine vals_of_get acc.toList _ fun j u hj => ?_
    obtain ⟨t, rfl⟩ := hi.2 j u (by rw [← hj, Array.getElem?_toList])
    exact ⟨t, rfl⟩
  · rw [Array.toArray_toList]; exact e'
/-- list(range(a, b)) -/
theorem e_listRg2 (C : Cxt X k W) (h : wE X a σ H fun x H1 => wE X b σ H1 fun y H2 => ∃ i j : Int, x = .int i ∧ y = .int j ∧ RgOk i j ∧ ∀ q, H2 q = none → Q (.ref q) (upd H2 q (.lst (rgV i j))))
    (hg : Gl X "list" := by rfl) (hg2 : Gl X "range" := by rfl) (na : starEach [.Call (.Name "range" p2) [a, b] [] pos2] X.env = (false, eval (.Call (.Name "range" p2) [a, b] [] pos2) X.env) :: starEach [] X.env := by rfl)
    (hs : starEach [a, b] X.env = (false, eval a X.env) :: starEach [b] X.env := by rfl) (hs2 : starEach [b] X.env = (false, eval b X.env) :: starEach [] X.env := by rfl) (hpl : (backTo pos2 (starEach [b] X.env)).any (·.1) = false := by rfl) :
    wE X (.Call (.Name "list" p) [.Call (.Name "range" p2) [a, b] [] pos2] [] pos) σ H Q :=
  eE (pe_listRg C.calm hg C.blt.list (prg_2 hg2 C.blt.range pE pE hs hs2 hpl) na) (wE_mono h fun x H1 q => wE_mono q fun y H2 ⟨i, j, e1, e2, ok, q⟩ => ⟨i, j, e1, e2, ok, q⟩)
/-- x.startswith(y) -/
theorem e_starts (h : wE X o σ H fun x H1 => ∃ s : Str, x = .str s ∧ wE X a σ H1 fun y H2 => ∃ t : Str, y = .str t ∧ Q (.bl (Txt.startswith s t)) H2)
    (hs : starEach [a] X.env = [(false, eval a X.env)] := by rfl) (hbase : attributeBase o "startswith" X.env (eval o X.env) = eval o X.env := by rfl) (hline : (apos.endLine == pos.line) = true := by rfl)
    (hfew : ((backTo pos (starEach [a] X.env)).all (fun x => !x.1) && (backToKw pos (keywordEach [] X.env)).all (fun x => x.1.isSome) && decide (([a] : List Expr).length + ([] : List Keyword).length + (if ([] : List Keyword).isEmpty then 0 else 1) < 30)) = true := by rfl) :
    wE X (.Call (.Attribute o "startswith" apos) [a] [] pos) σ H Q :=
  eE (pe_bm PySem.F.plainAttrs_str PySem.F.slot_str_startswith PySem.F.type_str_startswith mt_startswith pE pA hbase hfew hline (by rw [hs]; rfl) rfl)
    (wE_mono h fun x H1 ⟨s, e1, h1⟩ => ⟨by rw [e1]; exact rfl, a_cons (wE_mono h1 fun y H2 ⟨t, e2, q⟩ => a_nil ⟨s, t, e1, by rw [e2], q⟩) (by rw [hs]; rfl)⟩)
/-- x * n, x a text -/
theorem o_mulS {x : Str} {n : Int} (hx : x.length ≤ 16) (hlo : 0 ≤ n) (hhi : n ≤ 1048576) (q : Q (.str (Txt.mul x n)) H) : oW X (binaryOp .Mult) (.str x) (.int n) H Q := by
  refine ⟨fun pins s σ v u I rx ry => ?_⟩
  obtain ⟨t, rfl⟩ := rx
  obtain ⟨t', rfl⟩ := ry
  exact PySem.SB.mul (mulOk_of 16 1048576 hx hhi (by omega) (by decide) (by decide)) fun t2 k => ⟨.str (Txt.mul x n), H, I.tok _, ⟨_, rfl⟩, q⟩
/-- list(e.items()) -/
theorem e_listItems (C : Cxt X k W) {cpos : Pos} (h : wE X e σ H fun x H1 => ∃ (d : Addr) (kvs : List (Key × V)), x = .ref d ∧ H1 d = some (.dK kvs) ∧
      ∀ (H' : Hp) (p : Addr) (ts : List Addr), But [] H1 H' → H1 p = none → (∀ t ∈ ts, H1 t = none) → p ∉ ts → H' p = some (.lst (ts.map V.ref)) → Paired (fun (t : Addr) (q : Key × V) => H' t = some (.tup [kV q.1, q.2])) ts kvs → Q (.ref p) H')
    (hg : Gl X "list" := by rfl) (hbase : attributeBase e "items" X.env (eval e X.env) = eval e X.env := by rfl) (hline : (apos.endLine == cpos.line) = true := by rfl)
    (hs : starEach [.Call (.Attribute e "items" apos) [] [] cpos] X.env = (false, eval (.Call (.Attribute e "items" apos) [] [] cpos) X.env) :: starEach [] X.env := by rfl) :
    wE X (.Call (.Name "list" p) [.Call (.Attribute e "items" apos) [] [] cpos] [] pos) σ H Q :=
  eE (LiI.pe_listItems C.calm pE hg C.blt.list PyProof.Rows.boot_list hbase hline hs) (wE_mono h fun x H1 ⟨d, kvs, e1, e2, q⟩ => ⟨d, kvs, e1, e2, fun H' p ts b n1 n2 n3 hp hT => q H' p ts (fun q o _ e => b q o e) n1 n2 n3 hp hT⟩)
/-- dict(ps), ps a list of pairs -/
theorem e_dictP (C : Cxt X k W) (h : wE X a σ H fun x H1 => ∃ (q : Addr) (ps : List Addr) (kvs : List (Key × V)), x = .ref q ∧ SqL X.K H1 q (ps.map V.ref) ∧ Paired (fun p kv => SqT X.K H1 p [kV kv.1, kv.2]) ps kvs ∧ ∀ p, H1 p = none → Q (.ref p) (upd H1 p (.dK (mergeK [] kvs))))
    (hg : Gl X "dict" := by rfl) (hs : starEach [a] X.env = [(false, eval a X.env)] := by rfl) : wE X (.Call (.Name "dict" p) [a] [] pos) σ H Q :=
  e_Ty (T := "dict") (a_cons (wE_mono h fun x H1 ⟨q, ps, kvs, e1, h1, h2, h3⟩ => a_nil (cW_of (call_dictP C.calm) ⟨q, ps, kvs, by rw [e1], h1, h2, h3⟩)) hs) C.blt.dict (by decide +kernel) hg (by decide) (by decide) hs rfl
/-- for k in d -/
theorem i_keys {R : It → Hp → Prop} (h : wE X e σ H fun x H1 => ∃ d o kvs, x = .ref d ∧ H1 d = some (.frz o (.dK kvs)) ∧ R (Itk d o kvs) H1) : wI X tg e σ H R :=
  eI (pi_keys pE) (wE_mono h fun x H1 ⟨d, o, kvs, e1, e2, r⟩ => ⟨d, o, e1, .inl ⟨kvs, e2, r⟩⟩)
def wIb (X : Cx) (scope : Scope) (tg iter : Expr) : TI := fun σ H R => ∀ (s : Shared) (H0 : Hp) (C : Addr) (cl : List (Str × Addr)) (fp : List Addr), wI (X.blk s H0 scope (compEnvC scope cl C X.env) fp) tg iter σ H R
/-- a comprehension of two fors without tests -/
theorem e_lc2 (own : List (Str × Nat)) (vs1 : List Nat) (C : Cxt X k W)
    (h : wI X tg iter σ H fun J H1 => ∃ n G Y, Walk J n G Y ∧ ∀ D, H1 D = none → ∃ Pv : Nat → Hp → Prop, Pv 0 (upd H1 D (.lst [])) ∧ (∀ i H, i ≤ n → Pv i H → G H) ∧
      (∀ i x H H', i < n → Pv i H → Y i H x H' → wGb X scope tg x (wipe σ (own.map (·.2))) H' fun σ2 H2 => wipe σ2 (own.map (·.2)) = wipe σ (own.map (·.2)) ∧ wIb X scope tg1 iter1 σ2 H2 fun J1 H4 => ∃ n1 G1 Y1, Walk J1 n1 G1 Y1 ∧ ∃ P1 : Nat → Hp → Prop, P1 0 H4 ∧ (∀ j H, j ≤ n1 → P1 j H → G1 H) ∧
        (∀ j y H H', j < n1 → P1 j H → Y1 j H y H' → wGb X scope tg1 y (wipe σ2 vs1) H' fun σ3 H5 => wipe σ3 vs1 = wipe σ2 vs1 ∧ wEb X scope elt σ3 H5 fun z H7 => ∃ acc, H7 D = some (.lst acc) ∧ acc.length < sizeLine ∧ P1 (j + 1) (upd H7 D (.lst (acc ++ [z])))) ∧
        ∀ H, P1 n1 H → Pv (i + 1) H) ∧ ∀ H, Pv n H → Q (.ref D) H)
    (hv : ∀ i ∈ vs1, i ∈ own.map (·.2)) (ok : BlkOk X.N X.env.scope scope own := by exact blkOk_by (by first | rfl | kernel_rfl)) (hs : ∀ x, foldedSetIterable iter X.env x = pure x := by intro _; rfl) (hs1 : ∀ env x, foldedSetIterable iter1 env x = pure x := by intro _ _; rfl) :
    wE X (.ListComp elt [⟨tg, iter, [], 0⟩, ⟨tg1, iter1, [], 0⟩] scope pos) σ H Q := by
  refine eE (pe_lc2 (g := wGb X scope tg) (tt := wIfb X scope []) (te := wEb X scope elt) (wi1 := wIb X scope tg1 iter1) (g1 := wGb X scope tg1) (tt1 := wIfb X scope []) C.calm C.nd pI ok hv (fun s H C cl fp => ⟨fun pins s' σ' H' v u Q' I r hh => (hh s H C cl fp).run pins s' u I r⟩)
    (fun s H C cl fp => ⟨fun pins s' σ' H' Q' I hh => (hh s H C cl fp).run pins s' I⟩) (fun s H C cl fp => ⟨fun pins s' σ' H' Q' I hh => (hh s H C cl fp).run pins s' I⟩) (fun s H C cl fp => ⟨fun pins s' σ' H' v u Q' I r hh => (hh s H C cl fp).run pins s' u I r⟩)
    (fun s H C cl fp => ⟨fun pins s' σ' H' Q' I hh => (hh s H C cl fp).run pins s' I⟩) (fun s H C cl fp => ⟨fun pins s' σ' H' Q' I hh => (hh s H C cl fp).run pins s' I⟩) hs hs1) ?_
  refine wI_mono h fun J H1 hh => ?_
  obtain ⟨n, G, Y, w, hD⟩ := hh
  intro D hn
  obtain ⟨Pv, h0, hG, ht, hd⟩ := hD D hn
  refine ⟨fun i m H => m = n - i ∧ i ≤ n ∧ Pv i H, ⟨n, by simp, Nat.zero_le _, h0⟩, ?_⟩
  rintro i m H ⟨rfl, hi, p⟩
  have q := hG i H hi p
  by_cases hlt : i < n
  · refine .inr ⟨w.goes i H hlt q, Pv (i + 1), fun H' p' => ⟨n - (i + 1), by omega, rfl, hlt, p'⟩, fun x H' y => ?_⟩
    intro s H0 Ca cl fp
    refine ⟨fun pins s2 u I r => thn ((ht i x H H' hlt p (w.yields i H x H' hlt q y) s H0 Ca cl fp).run pins s2 u I r) fun _ s3 h3 => ?_⟩
    obtain ⟨σ2, H2, I2, e1, h3⟩ := h3
    refine ⟨σ2, H2, I2, e1, fun s H0 Ca cl fp => eIf pts_nil ?_⟩
    intro s H0 Ca cl fp
    refine wI_mono (h3 s H0 Ca cl fp) fun J1 H4 ⟨n1, G1, Y1, w1, P1, p0, g1, t1, d1⟩ => ?_
    refine ⟨fun j m H => m = n1 - j ∧ j ≤ n1 ∧ P1 j H, ⟨n1, by simp, Nat.zero_le _, p0⟩, ?_⟩
    rintro j m H5 ⟨rfl, hj, pj⟩
    have qj := g1 j H5 hj pj
    by_cases hl1 : j < n1
    · refine .inr ⟨w1.goes j H5 hl1 qj, P1 (j + 1), fun H' p' => ⟨n1 - (j + 1), by omega, rfl, hl1, p'⟩, fun x H' y => ?_⟩
      intro s H0 Ca cl fp
      refine ⟨fun pins s2 u I r => thn ((t1 j x H5 H' hl1 pj (w1.yields j H5 x H' hl1 qj y) s H0 Ca cl fp).run pins s2 u I r) fun _ s3 h3 => ?_⟩
      obtain ⟨σ3, H6, I3, e2, h3⟩ := h3
      refine ⟨σ3, H6, I3, e2, fun s H0 Ca cl fp => eIf pts_nil ?_⟩
      exact h3
    · have e : j = n1 := by omega
      subst e
      exact .inl ⟨w1.stops H5 qj, d1 H5 pj⟩
  · have e : i = n := by omega
    subst e
    exact .inl ⟨w.stops H q, hd H p⟩
end
end Z

set_option Elab.async false
set_option linter.all false
set_option maxRecDepth 100000
set_option maxHeartbeats 4000000
/-! plain: marks seen in lines -/
namespace Z
open PySem PySem.Spec PyProof.Rows L2 TL
theorem lenL (x : Str) : x.cps.toList.length = x.length := by simp; rfl
theorem cut_to (x : Str) (n : Nat) : (cutS x none (some (n : Int))).cps.toList = x.cps.toList.take n := by
  show (((x.cps.toList.drop (HT.sIx x.length 0 none)).take (HT.sIx x.length x.length (some (n : Int)) - HT.sIx x.length 0 none)).toArray).toList = _
  rw [HT.sIx_nat, HT.sIx_none, List.toList_toArray, List.drop_zero, Nat.sub_zero]
  by_cases h : n ≤ x.length
  · rw [Nat.min_eq_left h]
  · rw [Nat.min_eq_right (by omega), List.take_of_length_le (by rw [lenL]; omega), List.take_of_length_le (by rw [lenL]; omega)]
theorem cut_from (x : Str) (n : Nat) : (cutS x (some (n : Int)) none).cps.toList = x.cps.toList.drop n := by
  show (((x.cps.toList.drop (HT.sIx x.length 0 (some (n : Int)))).take (HT.sIx x.length x.length none - HT.sIx x.length 0 (some (n : Int)))).toArray).toList = _
  rw [HT.sIx_nat, HT.sIx_none, List.toList_toArray]
  by_cases h : n ≤ x.length
  · rw [Nat.min_eq_left h, List.take_of_length_le (by rw [List.length_drop, lenL]; omega)]
  · rw [Nat.min_eq_right (by omega), List.drop_of_length_le (by rw [lenL]; omega), List.drop_of_length_le (by rw [lenL]; omega)]
    simp
theorem starts_eq (x y : Str) : Txt.startswith x y = decide (x.cps.toList.take y.length = y.cps.toList) := by
  have e : PySem.Builtin.Str.subAt x y 0 = (((tl x).drop 0).take y.length == tl y) := PySem.StrLaws.subAt_eq x y 0
  rw [List.drop_zero] at e
  unfold Txt.startswith
  rw [e]
  show (decide (0 + y.length ≤ x.length) && (x.cps.toList.take y.length == y.cps.toList)) = _
  rw [Bool.eq_iff_iff]
  simp only [Bool.and_eq_true, decide_eq_true_eq, beq_iff_eq]
  refine ⟨fun h => h.2, fun h => ⟨?_, h⟩⟩
  have h2 := congrArg List.length h
  rw [List.length_take, lenL, lenL] at h2
  omega
/-- whether the mark due is seen in the line by the sight si -/
def seenP (line due si : Str) : Bool :=
  decide (line.cps.toList.take due.length = due.cps.toList) && (decide (si = "start") || decide (line = due) || (!decide (si = "whole") && (line.cps.toList.drop due.length).all fun c => decide ((⟨#[c]⟩ : Str) = si)))
theorem take_self (x : Str) : x.cps.toList.take x.length = x.cps.toList := List.take_of_length_le (by rw [lenL]; omega)
theorem drop_self (x : Str) : x.cps.toList.drop x.length = [] := List.drop_of_length_le (by rw [lenL]; omega)
theorem seen_whole (line due : Str) : seenP line due "whole" = decide (line = due) := by
  unfold seenP
  rw [show decide ((("whole" : Str)) = "start") = false from by decide, show decide ((("whole" : Str)) = "whole") = true from by decide]
  by_cases h : line = due
  · subst h
    simp [take_self]
  · simp [h]
theorem seen_start (line due : Str) : seenP line due "start" = Txt.startswith line due := by
  unfold seenP
  rw [show decide ((("start" : Str)) = "start") = true from by decide, starts_eq]
  simp
theorem all_rep (l : List Nat) (c : Nat) : (l.all fun d => decide ((⟨#[d]⟩ : Str) = ⟨#[c]⟩)) = decide (l = List.replicate l.length c) := by
  rw [Bool.eq_iff_iff, decide_eq_true_eq, List.all_eq_true, List.eq_replicate_iff]
  simp
theorem seen_sign (line due : Str) (c : Nat) : seenP line due ⟨#[c]⟩ = (Txt.startswith line due && decide (line.cps.toList.drop due.length = List.replicate (line.length - due.length) c)) := by
  have h1 : decide ((⟨#[c]⟩ : Str) = "start") = false := decide_eq_false fun h => by
    have := congrArg (fun x : Str => x.cps.size) h
    exact absurd this (by show ¬ (1 = 5); decide)
  have h2 : decide ((⟨#[c]⟩ : Str) = "whole") = false := decide_eq_false fun h => by
    have := congrArg (fun x : Str => x.cps.size) h
    exact absurd this (by show ¬ (1 = 5); decide)
  have h3 : line.length - due.length = (line.cps.toList.drop due.length).length := by rw [List.length_drop, lenL]
  unfold seenP
  rw [h1, h2, all_rep, starts_eq, h3]
  by_cases h : line = due
  · subst h
    simp [take_self, drop_self]
  · simp [h]
end Z

set_option Elab.async false
set_option linter.all false
set_option maxRecDepth 100000
set_option maxHeartbeats 4000000
namespace Z
open PySem PySem.Spec PyProof.Rows L2
theorem def_ofC {P : Program} {w : World} {K : PySem.W.Frag} {mg : Str → Option Value} {base : Heap} {k : Nat} {x : Str} {st : Stmt} {c : Addr} {N ps : List Str} {sp : Sp} (D : AtC K mg x st c) (B : Blt mg base) (S : FnScope N ps (defScope st)) (len : ∀ vs H Q E, sp vs H Q E → vs.length = ps.length)
    (body : ∀ (f : Addr) (A : Around) (outer : List Env) (s : Shared) (H : Hp) (vs : List V) (Q : VK) (E : XK), mg x = some (.ref f) → Cxt (bX P w K mg base N x st f (.ref c) A outer s H E) k (fun cls d _ H => E cls d H) → sp vs H Q E →
      wB (bX P w K mg base N x st f (.ref c) A outer s H E) (defBody st) { nx := fun _ H' => Q .non H', rt := Q } (start N vs) H) : Def P w K mg base (k + 1) x st ps sp := by
  obtain ⟨f, oc, kV, doc, pm, ct, od, an, osl, hm, kp, lk, hcd⟩ := D.ex
  exact ⟨f, kV, doc, pm, an, .ref c, ct, hm, kp, fnok_body B lk hcd S len fun A outer s H vs Q E C h => body f A outer s H vs Q E hm C h⟩
section
variable {X : Cx} {σ : L2.St} {H H0 : Hp} {e tg : Expr} {elts : List Expr} {kk : Nat} {p pos tpos : Pos}
/-- enumerate over a list or a tuple -/
theorem i_enumDD {R : It → Hp → Prop} {x : V} {l : List Addr} {d : PyData} (B : Blt X.mg X.base) (hd : DD X.K l H x d) (hs : seqB d = true) (he : ∀ Q : VK, Q x H → wE X e σ H Q)
    (h : ∀ J G vs, Walk J vs.length G (YPair (fun i => some (.int (i : Nat))) (fun i => vs[i]?)) → (∀ H', But l H H' → G H') → DDs X.K l H vs (items d) → R J H) (hg : Gl X "enumerate" := by rfl) (hs2 : starEach [e] X.env = [(false, eval e X.env)] := by rfl) :
    wI X (.Tuple elts kk tpos) (.Call (.Name "enumerate" p) [e] [] pos) σ H R := by
  cases hd with
  | @lst a xs ds h1 n h2 => exact i_enum B (he _ ⟨a, xs, rfl, h1, h _ _ xs walk_enum (fun H' b => b.sql n h1) h2⟩) hg hs2
  | @tup a xs ds h1 n h2 => exact i_enumT B (he _ ⟨a, xs, rfl, h1, h _ _ xs walk_enumT (fun H' b => b.sqt n h1) h2⟩) hg hs2
  | _ => simp [seqB, Z.isList, Z.isTuple] at hs
/-- a list or a tuple that was there earlier -/
theorem i_ddL {R : It → Hp → Prop} {x : V} {l : List Addr} {d : PyData} (hd : DD X.K l H0 x d) (hs : seqB d = true) (b : But l H0 H) (he : ∀ Q : VK, Q x H → wE X e σ H Q)
    (h : ∀ J G vs, Walk J vs.length G (YAt vs) → (∀ H', But l H0 H' → G H') → DDs X.K l H0 vs (items d) → R J H) : wI X tg e σ H R := by
  cases hd with
  | @lst a xs ds h1 n h2 => exact i_list (he _ ⟨a, rfl, ⟨xs, b.sql n h1⟩, h _ _ xs walk_list (fun H' b => b.sql n h1) h2⟩)
  | @tup a xs ds h1 n h2 => exact i_tup (he _ ⟨a, rfl, ⟨xs, b.sqt n h1⟩, h _ _ xs walk_tup (fun H' b => b.sqt n h1) h2⟩)
  | _ => simp [seqB, isList, isTuple] at hs
end
theorem dds_strs {K : PySem.W.Frag} {l : List Addr} {H : Hp} : ∀ {vs : List V} {ls : List Str}, DDs K l H vs (ls.map PyData.str) → vs = ls.map V.str
  | [], [], _ => rfl
  | _ :: _, y :: ls, h => by
    cases h with
    | cons a r =>
      cases a
      rw [dds_strs r]
      rfl
end Z

set_option Elab.async false
set_option linter.all false
set_option maxRecDepth 100000
set_option maxHeartbeats 4000000
/-! plain: what can be shown, in general -/
namespace Z
open PySem PySem.Spec PyProof.Rows L2
theorem depthAllZ {b : Nat} : ∀ {ds : List PyData}, (∀ d ∈ ds, PyData.depth d ≤ b) → PyData.depthAll ds ≤ b
  | [], _ => by simp [PyData.depthAll]
  | d :: ds, h => by
    have h2 := depthAllZ (ds := ds) fun x hx => h x (List.mem_cons_of_mem _ hx)
    have h1 := h d (by simp)
    simp only [PyData.depthAll]
    omega
theorem weightAllZ {b : Nat} : ∀ {ds : List PyData}, (∀ d ∈ ds, PyData.weight d ≤ b) → PyData.weightAll ds ≤ ds.length * (b + 1)
  | [], _ => by simp [PyData.weightAll]
  | d :: ds, h => by
    have h2 := weightAllZ (ds := ds) fun x hx => h x (List.mem_cons_of_mem _ hx)
    have h1 := h d (by simp)
    simp only [PyData.weightAll, List.length_cons, Nat.add_mul]
    omega
theorem showAllZ : ∀ {ds : List PyData}, (∀ d ∈ ds, PyData.showable d = true) → PyData.showableAll ds = true
  | [], _ => rfl
  | d :: ds, h => by
    have h2 := showAllZ (ds := ds) fun x hx => h x (List.mem_cons_of_mem _ hx)
    simp only [PyData.showableAll, h d (by simp), h2, Bool.and_self]
theorem leavesAllZ : ∀ {ds : List PyData}, (∀ d ∈ ds, PyData.leavesShort 40 d = true) → PyData.leavesShortAll 40 ds = true
  | [], _ => rfl
  | d :: ds, h => by
    have h2 := leavesAllZ (ds := ds) fun x hx => h x (List.mem_cons_of_mem _ hx)
    simp only [PyData.leavesShortAll, h d (by simp), h2, Bool.and_self]
/-- it can be shown: its depth, its weight -/
structure ShwZ (n w : Nat) (d : PyData) : Prop where
  s : d.showable = true
  l : d.leavesShort 40 = true
  dep : d.depth ≤ n
  w : d.weight ≤ w
theorem ShwZ.mono {n m w v : Nat} {d : PyData} (h : ShwZ n w d) (a : n ≤ m) (b : w ≤ v) : ShwZ m v d := ⟨h.s, h.l, Nat.le_trans h.dep a, Nat.le_trans h.w b⟩
theorem ShwZ.list {n w : Nat} {ds : List PyData} (L : Nat) (h : ∀ d ∈ ds, ShwZ n w d) (hl : ds.length ≤ L) : ShwZ (n + 1) (L * (w + 1)) (.list ds) := by
  have e1 := showAllZ fun d hd => (h d hd).s
  have e2 := leavesAllZ fun d hd => (h d hd).l
  have e3 := depthAllZ fun d hd => (h d hd).dep
  have e4 := weightAllZ fun d hd => (h d hd).w
  have e5 : ds.length * (w + 1) ≤ L * (w + 1) := Nat.mul_le_mul_right _ hl
  exact ⟨by simp only [PyData.showable, e1], by simp only [PyData.leavesShort, e2], by simp only [PyData.depth]; omega, by simp only [PyData.weight]; omega⟩
theorem ShwZ.rp {n w : Nat} {d : PyData} (h : ShwZ n w d) (hn : n ≤ 64) (hw : w ≤ 300000) : rp d = true := by
  have e1 := h.dep
  have e2 := h.w
  rw [Z.rp, h.s, h.l, decide_eq_true (show d.depth ≤ 64 by omega), decide_eq_true (show d.weight ≤ 300000 by omega)]
  rfl
theorem ShwZ.none {n w : Nat} : ShwZ n w .none := ⟨by simp only [PyData.showable], by simp only [PyData.leavesShort], by simp only [PyData.depth]; omega, by simp only [PyData.weight]; omega⟩
end Z

set_option Elab.async false
set_option linter.all false
set_option maxRecDepth 100000
set_option maxHeartbeats 4000000
/-! zip of a list and a tuple (turned from the kit's zip of two tuples), weakest readings of zip -/
namespace Z
open PySem PySem.Spec PyProof.Rows L2 RZ
open PySem.Sem (wp)
section
variable {prog : Program} {w : World} {A : Around} {E : Value → Shared → Prop} {s : Shared}
theorem zipM_next_item {z TI TO i1 i2 l1 l2 : Addr} {k1 k2 : Nat} {xs ys : Array Value} {x y a b : Value} {Q : Value → Shared → Prop} (D : ZipApart z TI TO i1 i2 l1 l2)
    (hz : IsZip s.heap z TI TO .none) (hTI : IsPair s.heap TI (.ref i1) (.ref i2)) (hTO : IsPair s.heap TO a b)
    (h1 : s.heap.IsListIter i1 l1 k1) (h2 : s.heap.IsTupleIter i2 l2 k2) (hl1 : s.heap.IsList l1 xs) (hl2 : s.heap.IsTuple l2 ys) (hx : xs[k1]? = some x) (hy : ys[k2]? = some y)
    (hQ : ∀ h', IsZip h' z TI TO (rawInt s.heap.objs.size) → IsPair h' TO x y → h'.IsListIter i1 l1 (k1 + 1) → h'.IsTupleIter i2 l2 (k2 + 1) → IsPair h' s.heap.objs.size x y → h'.objs.size = s.heap.objs.size + 1 →
      (∀ c o, c ≠ z → c ≠ TO → c ≠ i1 → c ≠ i2 → s.heap.get? c = some o → h'.get? c = some o) → Q (.ref s.heap.objs.size) { s with heap := h' }) :
    wpAny (model prog w) A (Builtin.«zip.__next__» ⟨[.ref z], []⟩) (fun fin s' => ∃ v, fin = .done (.ret v) ∧ Q v s') E s := by
  show wpAny _ _ (field (.ref z) 2 >>= _) _ _ _
  refine wpAny_bind (wpAny_field hz rfl (x := .bool false) rfl ?_)
  show wpAny _ _ (field (.ref z) 3 >>= _) _ _ _
  refine wpAny_bind (wpAny_field hz rfl (x := .ref TI) rfl ?_)
  refine wpAny_bind (wpAny_seqItems hTI rfl ?_)
  show wpAny _ _ (Builtin.SmallTypes.ownedTupleIsFree (.ref z) >>= _) _ _ _
  refine wpAny_bind ?_
  unfold Builtin.SmallTypes.ownedTupleIsFree
  refine wpAny_bind (wpAny_field hz rfl (x := .none) rfl (wpAny_pure ?_))
  simp only [if_true]
  refine wpAny_bind (wpAny_rule ?_)
  refine wpAny_bind (wpAny_field hz rfl (x := .ref TO) rfl ?_)
  refine wpAny_bind (wpAny_setField_rec hz (by simp) fun h₁ hz₁ hs₁ => ?_)
  replace hz₁ : IsZip h₁ z TI TO .ellipsis := hz₁
  refine wpAny_bind ?_
  simp only [List.zipIdx_cons, List.zipIdx_nil, List.forIn_cons, List.forIn_nil]

  refine wpAny_bind (wpAny_bind (wpAny_onRaise ?_))
  show wpAny _ _ (Builtin.SmallTypes.nextOf (.ref i1) >>= _) _ _ _
  refine wpAny_bind (wpAny_nextOf_list_item (h1.extBut hs₁.extBut D.i1z) (hl1.extBut hs₁.extBut D.l1z) hx fun h₂ h1₂ hs₂ => wpAny_pure ?_)
  have hTO₂ : IsPair h₂ TO a b := hs₂.extBut _ _ D.TOi1 (hs₁.extBut _ _ D.TOz hTO)
  refine wpAny_bind (wpAny_seqItems hTO₂ rfl ?_)
  refine wpAny_bind (wpAny_updateSeq_pair hTO₂ fun h₃ hTO₃ hs₃ => ?_)
  replace hTO₃ : IsPair h₃ TO x b := hTO₃
  refine wpAny_bind (wpAny_letGo (wpAny_pure ?_))

  refine wpAny_bind (wpAny_bind (wpAny_onRaise ?_))
  show wpAny _ _ (Builtin.SmallTypes.nextOf (.ref i2) >>= _) _ _ _
  refine wpAny_bind (nextOf_tuple_item (((h2.extBut hs₁.extBut D.i2z).extBut hs₂.extBut D.i12.symm).extBut hs₃.extBut D.TOi2.symm)
    (((hl2.extBut hs₁.extBut D.l2z).extBut hs₂.extBut D.l2i1).extBut hs₃.extBut D.l2TO) hy fun h₄ h2₄ hs₄ => wpAny_pure ?_)
  have hTO₄ : IsPair h₄ TO x b := hs₄.extBut _ _ D.TOi2 hTO₃
  refine wpAny_bind (wpAny_seqItems hTO₄ rfl ?_)
  refine wpAny_bind (wpAny_updateSeq_pair hTO₄ fun h₅ hTO₅ hs₅ => ?_)
  replace hTO₅ : IsPair h₅ TO x y := hTO₅
  refine wpAny_bind (wpAny_letGo (wpAny_pure (wpAny_pure ?_)))

  refine wpAny_bind (wpAny_seqItems hTO₅ rfl ?_)
  refine wpAny_bind (wpAny_newTuple ?_)
  have hsz : h₅.objs.size = s.heap.objs.size := by rw [hs₅.1, hs₄.1, hs₃.1, hs₂.1, hs₁.1]
  have hz₅ : IsZip h₅ z TI TO .ellipsis := hs₅.extBut _ _ D.TOz.symm (hs₄.extBut _ _ D.i2z.symm (hs₃.extBut _ _ D.TOz.symm (hs₂.extBut _ _ D.i1z.symm hz₁)))
  have hk₅ : ∀ c o, c ≠ z → c ≠ TO → c ≠ i1 → c ≠ i2 → s.heap.get? c = some o → h₅.get? c = some o := fun c o c1 c2 c3 c4 e =>
    hs₅.extBut _ _ c2 (hs₄.extBut _ _ c4 (hs₃.extBut _ _ c2 (hs₂.extBut _ _ c3 (hs₁.extBut _ _ c1 e))))
  have h1₅ : h₅.IsListIter i1 l1 (k1 + 1) := ((h1₂.extBut hs₃.extBut D.TOi1.symm).extBut hs₄.extBut D.i12).extBut hs₅.extBut D.TOi1.symm
  have h2₅ : h₅.IsTupleIter i2 l2 (k2 + 1) := h2₄.extBut hs₅.extBut D.TOi2.symm
  have hzlt : z < h₅.objs.size := Heap.lt_size hz₅
  have hTOlt : TO < h₅.objs.size := Heap.lt_size hTO₅
  have hi1lt : i1 < h₅.objs.size := by obtain ⟨_, e, _⟩ := h1₅; exact Heap.lt_size e
  have hi2lt : i2 < h₅.objs.size := by obtain ⟨_, e, _⟩ := h2₅; exact Heap.lt_size e
  show wpAny _ _ (Builtin.SmallTypes.ownedTupleHandOut (.ref z) (.ref h₅.objs.size) >>= _) _ _ _
  refine wpAny_bind ?_
  unfold Builtin.SmallTypes.ownedTupleHandOut
  have hz₆ : IsZip (h₅.push { cls := .type "tuple", data := .seq #[x, y] }) z TI TO .ellipsis := Heap.get?_push_of_some _ hz₅
  refine wpAny_bind (wpAny_setField_rec hz₆ (by simp) fun h₇ hz₇ hs₇ => ?_)
  replace hz₇ : IsZip h₇ z TI TO (rawInt h₅.objs.size) := hz₇
  refine wpAny_setField_rec hz₇ (by simp) fun h₈ hz₈ hs₈ => ?_
  replace hz₈ : IsZip h₈ z TI TO (rawInt h₅.objs.size) := hz₈
  have up : ∀ c o, c ≠ z → h₅.get? c = some o → h₈.get? c = some o := fun c o c1 e => hs₈.extBut _ _ c1 (hs₇.extBut _ _ c1 (Heap.get?_push_of_some _ e))
  have hT₈ : IsPair h₈ h₅.objs.size x y := hs₈.extBut _ _ (Nat.ne_of_gt hzlt) (hs₇.extBut _ _ (Nat.ne_of_gt hzlt) (Heap.get?_push_size _ rfl))
  have hz8 : h₈.objs.size = h₅.objs.size + 1 := by rw [hs₈.1, hs₇.1, Heap.size_push]
  rw [hsz] at hz₈ hT₈ hz8
  refine wpAny_pure ⟨_, rfl, ?_⟩
  show Q (.ref h₅.objs.size) _
  rw [hsz]
  exact hQ h₈ hz₈ (up _ _ D.TOz hTO₅) (h1₅.at fun o e => up _ o D.i1z e) (h2₅.at fun o e => up _ o D.i2z e) hT₈ hz8 fun c o c1 c2 c3 c4 e => up c o c1 (hk₅ c o c1 c2 c3 c4 e)

theorem zipM_next_end {z TI TO i1 i2 l1 l2 : Addr} {k1 k2 : Nat} {xs ys : Array Value} {a b : Value} {Q : Fin → Shared → Prop} (hh : A.handled = none) (D : ZipApart z TI TO i1 i2 l1 l2)
    (hz : IsZip s.heap z TI TO .none) (hTI : IsPair s.heap TI (.ref i1) (.ref i2)) (hTO : IsPair s.heap TO a b)
    (h1 : s.heap.IsListIter i1 l1 k1) (h2 : s.heap.IsTupleIter i2 l2 k2) (hl1 : s.heap.IsList l1 xs) (hl2 : s.heap.IsTuple l2 ys) (hend : xs[k1]? = none ∨ ys[k2]? = none)
    (hE : ∀ h' e, (∀ c o, c ≠ z → c ≠ TO → c ≠ i1 → c ≠ i2 → s.heap.get? c = some o → h'.get? c = some o) → (∃ o, h'.get? e = some o ∧ o.cls = .type "StopIteration") → E (.ref e) { s with heap := h' }) :
    wpAny (model prog w) A (Builtin.«zip.__next__» ⟨[.ref z], []⟩) Q E s := by
  show wpAny _ _ (field (.ref z) 2 >>= _) _ _ _
  refine wpAny_bind (wpAny_field hz rfl (x := .bool false) rfl ?_)
  show wpAny _ _ (field (.ref z) 3 >>= _) _ _ _
  refine wpAny_bind (wpAny_field hz rfl (x := .ref TI) rfl ?_)
  refine wpAny_bind (wpAny_seqItems hTI rfl ?_)
  show wpAny _ _ (Builtin.SmallTypes.ownedTupleIsFree (.ref z) >>= _) _ _ _
  refine wpAny_bind ?_
  unfold Builtin.SmallTypes.ownedTupleIsFree
  refine wpAny_bind (wpAny_field hz rfl (x := .none) rfl (wpAny_pure ?_))
  simp only [if_true]
  refine wpAny_bind (wpAny_rule ?_)
  refine wpAny_bind (wpAny_field hz rfl (x := .ref TO) rfl ?_)
  refine wpAny_bind (wpAny_setField_rec hz (by simp) fun h₁ hz₁ hs₁ => ?_)
  replace hz₁ : IsZip h₁ z TI TO .ellipsis := hz₁
  refine wpAny_bind ?_
  simp only [List.zipIdx_cons, List.zipIdx_nil, List.forIn_cons, List.forIn_nil]
  refine wpAny_bind (wpAny_bind (wpAny_onRaise ?_))
  show wpAny _ _ (Builtin.SmallTypes.nextOf (.ref i1) >>= _) _ _ _
  cases hx : xs[k1]? with
  | none =>
    refine wpAny_bind (wpAny_nextOf_list_end hh (h1.extBut hs₁.extBut D.i1z) (hl1.extBut hs₁.extBut D.l1z) hx fun h₂ e hs₂ he => ?_)
    obtain ⟨oe, hoe, hce⟩ := he
    have hz₂ : IsZip h₂ z TI TO .ellipsis := hs₂ _ _ D.i1z.symm hz₁
    have hez : e ≠ z := fun x => by subst x; rw [hz₂] at hoe; cases hoe; simp at hce
    refine wpAny_setField_rec hz₂ (by simp) fun h₃ _ hs₃ => hE h₃ e (fun c o c1 _ c3 _ x => hs₃.extBut _ _ c1 (hs₂ _ _ c3 (hs₁.extBut _ _ c1 x))) ⟨oe, hs₃.extBut _ _ hez hoe, hce⟩
  | some x =>
    have hy : ys[k2]? = none := by rcases hend with h | h; rw [hx] at h; cases h; exact h
    refine wpAny_bind (wpAny_nextOf_list_item (h1.extBut hs₁.extBut D.i1z) (hl1.extBut hs₁.extBut D.l1z) hx fun h₂ h1₂ hs₂ => wpAny_pure ?_)
    have hTO₂ : IsPair h₂ TO a b := hs₂.extBut _ _ D.TOi1 (hs₁.extBut _ _ D.TOz hTO)
    refine wpAny_bind (wpAny_seqItems hTO₂ rfl ?_)
    refine wpAny_bind (wpAny_updateSeq_pair hTO₂ fun h₃ hTO₃ hs₃ => ?_)
    refine wpAny_bind (wpAny_letGo (wpAny_pure ?_))
    refine wpAny_bind (wpAny_bind (wpAny_onRaise ?_))
    show wpAny _ _ (Builtin.SmallTypes.nextOf (.ref i2) >>= _) _ _ _
    refine wpAny_bind (nextOf_tuple_end hh (((h2.extBut hs₁.extBut D.i2z).extBut hs₂.extBut D.i12.symm).extBut hs₃.extBut D.TOi2.symm)
      (((hl2.extBut hs₁.extBut D.l2z).extBut hs₂.extBut D.l2i1).extBut hs₃.extBut D.l2TO) hy fun h₄ e hs₄ he => ?_)
    obtain ⟨oe, hoe, hce⟩ := he
    have hz₄ : IsZip h₄ z TI TO .ellipsis := hs₄ _ _ D.i2z.symm (hs₃.extBut _ _ D.TOz.symm (hs₂.extBut _ _ D.i1z.symm hz₁))
    have hez : e ≠ z := fun x => by subst x; rw [hz₄] at hoe; cases hoe; simp at hce
    refine wpAny_setField_rec hz₄ (by simp) fun h₅ _ hs₅ => hE h₅ e (fun c o c1 c2 c3 c4 x => hs₅.extBut _ _ c1 (hs₄ _ _ c4 (hs₃.extBut _ _ c2 (hs₂.extBut _ _ c3 (hs₁.extBut _ _ c1 x))))) ⟨oe, hs₅.extBut _ _ hez hoe, hce⟩

theorem pyNext_zipM_item {z TI TO i1 i2 l1 l2 : Addr} {k1 k2 : Nat} {xs ys : Array Value} {x y a b : Value} {Q : Option Value → Shared → Prop} (D : ZipApart z TI TO i1 i2 l1 l2)
    (hz : IsZip s.heap z TI TO .none) (hTI : IsPair s.heap TI (.ref i1) (.ref i2)) (hTO : IsPair s.heap TO a b)
    (h1 : s.heap.IsListIter i1 l1 k1) (h2 : s.heap.IsTupleIter i2 l2 k2) (hl1 : s.heap.IsList l1 xs) (hl2 : s.heap.IsTuple l2 ys) (hx : xs[k1]? = some x) (hy : ys[k2]? = some y)
    (hQ : ∀ h', IsZip h' z TI TO (rawInt s.heap.objs.size) → IsPair h' TO x y → h'.IsListIter i1 l1 (k1 + 1) → h'.IsTupleIter i2 l2 (k2 + 1) → IsPair h' s.heap.objs.size x y → h'.objs.size = s.heap.objs.size + 1 →
      (∀ c o, c ≠ z → c ≠ TO → c ≠ i1 → c ≠ i2 → s.heap.get? c = some o → h'.get? c = some o) → Q (some (.ref s.heap.objs.size)) { s with heap := h' }) :
    wpAny (model prog w) A (pyNext (.ref z)) Q E s := by
  have hT : s.TypeIs (.ref z) "zip" := ⟨_, hz, rfl⟩
  unfold pyNext
  exact wpAny_bind (wpAny_attempt (wpAny_callSpecial?_slot (name := Str.ofString "__next__") hT F.slot_zip_next
    (wpAny_call_entry F.slot_zip_next hT F.entry_zip_next
      (zipM_next_item D hz hTI hTO h1 h2 hl1 hl2 hx hy fun h' a1 a2 a3 a4 a5 a6 a7 => wpAny_pure (hQ h' a1 a2 a3 a4 a5 a6 a7)) (F.args_zip_next_1 _))))

theorem pyNext_zipM_end {z TI TO i1 i2 l1 l2 : Addr} {k1 k2 : Nat} {xs ys : Array Value} {a b : Value} {Q : Option Value → Shared → Prop} (hh : A.handled = none) (D : ZipApart z TI TO i1 i2 l1 l2)
    (hz : IsZip s.heap z TI TO .none) (hTI : IsPair s.heap TI (.ref i1) (.ref i2)) (hTO : IsPair s.heap TO a b)
    (h1 : s.heap.IsListIter i1 l1 k1) (h2 : s.heap.IsTupleIter i2 l2 k2) (hl1 : s.heap.IsList l1 xs) (hl2 : s.heap.IsTuple l2 ys) (hend : xs[k1]? = none ∨ ys[k2]? = none)
    (hQ : ∀ h', (∀ c o, c ≠ z → c ≠ TO → c ≠ i1 → c ≠ i2 → s.heap.get? c = some o → h'.get? c = some o) → Q none { s with heap := h' }) : wpAny (model prog w) A (pyNext (.ref z)) Q E s := by
  have hT : s.TypeIs (.ref z) "zip" := ⟨_, hz, rfl⟩
  unfold pyNext
  refine wpAny_bind (wpAny_attempt (wpAny_callSpecial?_slot (name := Str.ofString "__next__") hT F.slot_zip_next
    (wpAny_call_entry F.slot_zip_next hT F.entry_zip_next (zipM_next_end hh D hz hTI hTO h1 h2 hl1 hl2 hend fun h' e hk he => ?_) (F.args_zip_next_1 _))))
  obtain ⟨o, ho, hc⟩ := he
  refine wpAny_bind (wpAny_isInstance (T := "StopIteration") (b := true) ⟨o, ho, hc⟩ isSubtype_stop ?_)
  exact wpAny_pure (hQ _ hk)
end

abbrev zipMH1 (h : Heap) (l1 : Addr) : Heap := h.push { cls := .type "list_iterator", data := .fields #[.ref l1, .int 0 0] }
abbrev zipMH2 (h : Heap) (l1 l2 : Addr) : Heap := (zipMH1 h l1).push { cls := .type "tuple_iterator", data := .fields #[.ref l2, .int 0 0] }
abbrev zipMH3 (h : Heap) (l1 l2 : Addr) : Heap := (zipMH2 h l1 l2).push { cls := .type "tuple", data := .seq #[.ref h.objs.size, .ref (zipMH1 h l1).objs.size] }
abbrev zipMH4 (h : Heap) (l1 l2 : Addr) : Heap := (zipMH3 h l1 l2).push { cls := .type "tuple", data := .seq #[.none, .none] }
abbrev zipMH5 (h : Heap) (l1 l2 : Addr) : Heap := (zipMH4 h l1 l2).push { cls := .type "zip", data := .fields #[.none, .bool false, .bool false, .ref (zipMH2 h l1 l2).objs.size, .ref (zipMH3 h l1 l2).objs.size] }

theorem meets_zipM_new (l1 l2 : Addr) (xs ys : Array Value) :
    Meets (Builtin.«zip.__new__» ⟨[.type "zip", .ref l1, .ref l2], []⟩) (fun _ R s => s.heap.IsList l1 xs ∧ s.heap.IsTuple l2 ys ∧
      R (.ok (.ret (.ref (zipMH4 s.heap l1 l2).objs.size))) { s with heap := zipMH5 s.heap l1 l2 }) :=
  .of_wp fun prog w A R s h => by
    obtain ⟨hp, g, d, tk, os⟩ := s; obtain ⟨hl1, hl2, h⟩ := h
    have hsub := sub_zip
    have hL1 : Heap.IsList (Shared.heap ⟨hp, g, d, tk, os⟩) l1 xs := hl1
    have hL2 : Heap.IsTuple (Shared.heap ⟨hp.push { cls := .type "list_iterator", data := .fields #[.ref l1, .int 0 0] }, g, d, tk, os⟩) l2 ys := Heap.IsTuple.push hl2 _
    wp_walk using wpAny_pyIter_list hL1, wpAny_pyIter_tuple hL2
    exact ⟨_, rfl, h⟩

section
variable {prog : Program} {w : World} {A : Around} {E : Value → Shared → Prop} {s : Shared}

theorem call_zipM {l1 l2 : Addr} {xs ys : Array Value} {Q : Value → Shared → Prop} (hl1 : s.heap.IsList l1 xs) (hl2 : s.heap.IsTuple l2 ys)
    (h : ∀ h', IsZip h' (s.heap.objs.size + 4) (s.heap.objs.size + 2) (s.heap.objs.size + 3) .none → IsPair h' (s.heap.objs.size + 2) (.ref s.heap.objs.size) (.ref (s.heap.objs.size + 1)) →
      IsPair h' (s.heap.objs.size + 3) .none .none → h'.IsListIter s.heap.objs.size l1 0 → h'.IsTupleIter (s.heap.objs.size + 1) l2 0 → h'.objs.size = s.heap.objs.size + 5 →
      (∀ c o, s.heap.get? c = some o → h'.get? c = some o) → Q (.ref (s.heap.objs.size + 4)) { s with heap := h' }) :
    wpAny (model prog w) A (call (.type "zip") [.ref l1, .ref l2]) Q E s := by
  refine callType_new F.called_zip (by decide) (F.typeCall_zip_2 _ _) (F.newCall_zip_2 _ _) (fun obj => F.args_object_init_3 obj _ _) F.entry_zip_new
    (meets_zipM_new l1 l2 xs ys) ⟨hl1, hl2, ?_⟩
  have z1 : (zipMH1 s.heap l1).objs.size = s.heap.objs.size + 1 := Heap.size_push ..
  have z2 : (zipMH2 s.heap l1 l2).objs.size = s.heap.objs.size + 2 := by rw [Heap.size_push, z1]
  have z3 : (zipMH3 s.heap l1 l2).objs.size = s.heap.objs.size + 3 := by rw [Heap.size_push, z2]
  have z4 : (zipMH4 s.heap l1 l2).objs.size = s.heap.objs.size + 4 := by rw [Heap.size_push, z3]
  have z5 : (zipMH5 s.heap l1 l2).objs.size = s.heap.objs.size + 5 := by rw [Heap.size_push, z4]
  have g5 : (zipMH5 s.heap l1 l2).get? (zipMH4 s.heap l1 l2).objs.size = some _ := Heap.get?_push_size _ rfl
  have g4 : (zipMH5 s.heap l1 l2).get? (zipMH3 s.heap l1 l2).objs.size = some _ := Heap.get?_push_of_some _ (Heap.get?_push_size _ rfl)
  have g3 : (zipMH5 s.heap l1 l2).get? (zipMH2 s.heap l1 l2).objs.size = some _ := Heap.get?_push_of_some _ (Heap.get?_push_of_some _ (Heap.get?_push_size _ rfl))
  have g2 : (zipMH5 s.heap l1 l2).get? (zipMH1 s.heap l1).objs.size = some _ := Heap.get?_push_of_some _ (Heap.get?_push_of_some _ (Heap.get?_push_of_some _ (Heap.get?_push_size _ rfl)))
  have g1 : (zipMH5 s.heap l1 l2).get? s.heap.objs.size = some _ := Heap.get?_push_of_some _ (Heap.get?_push_of_some _ (Heap.get?_push_of_some _ (Heap.get?_push_of_some _ (Heap.get?_push_size _ rfl))))
  show _ ∧ _
  rw [z2, z3, z4] at g5
  rw [z1, z2] at g3
  rw [z3] at g4
  rw [z1] at g2
  rw [z4]
  exact ⟨⟨_, g5, rfl⟩, h _ g5 g3 g4 ⟨_, g1, rfl, rfl⟩ ⟨_, g2, rfl, rfl⟩ z5 fun c o x =>
    Heap.get?_push_of_some _ (Heap.get?_push_of_some _ (Heap.get?_push_of_some _ (Heap.get?_push_of_some _ (Heap.get?_push_of_some _ x))))⟩
end

/-- the list at a and the tuple at b as they stand at each turn, the items in new pairs -/
def ItzM (K : PySem.W.Frag) (a b : Addr) : It :=
  ⟨fun i H => ∃ (xs ys : List V) (x y : V), SqL K H a xs ∧ SqT K H b ys ∧ xs[i]? = some x ∧ ys[i]? = some y,
    fun i H v H' => ∃ T x y, v = .ref T ∧ H T = none ∧ H' = upd H T (.tup [x, y]) ∧ (∀ xs, SqL K H a xs → xs[i]? = some x) ∧ ∀ ys, SqT K H b ys → ys[i]? = some y,
    fun i H => ∃ xs ys : List V, SqL K H a xs ∧ SqT K H b ys ∧ (xs.length ≤ i ∨ ys.length ≤ i)⟩
theorem turn_zipM {P : Program} {w : World} {K : PySem.W.Frag} {elts : List Expr} {kk : Nat} {tpos : Pos} {a b z TI TO i1 i2 : Addr} (D : ZipApart z TI TO i1 i2 a b) :
    Turn P w K (.Tuple elts kk tpos) (ItzM K a b) [z, TI, TO, i1, i2] z (fun i h => IsZip h z TI TO .none ∧ IsPair h TI (.ref i1) (.ref i2) ∧ (∃ x y, IsPair h TO x y) ∧ h.IsListIter i1 a i ∧ h.IsTupleIter i2 b i) where
  mem := by simp
  obj := fun i h st c hc => by
    obtain ⟨hz, hTI, ⟨x, y, hTO⟩, ⟨o1, e1, _, d1⟩, ⟨o2, e2, _, d2⟩⟩ := st
    have e' : c = z ∨ c = TI ∨ c = TO ∨ c = i1 ∨ c = i2 := by simpa using hc
    rcases e' with q | q | q | q | q
    · rw [q]; exact ⟨_, hz, fun v q => nomatch q⟩
    · rw [q]; exact ⟨_, hTI, fun v q => nomatch q⟩
    · rw [q]; exact ⟨_, hTO, fun v q => nomatch q⟩
    · rw [q]; exact ⟨o1, e1, fun v q => by rw [d1] at q; cases q⟩
    · rw [q]; exact ⟨o2, e2, fun v q => by rw [d2] at q; cases q⟩
  keep := fun i h h' st k => by
    obtain ⟨hz, hTI, ⟨x, y, hTO⟩, h1, h2⟩ := st
    exact ⟨k z (by simp) _ hz, k TI (by simp) _ hTI, ⟨x, y, k TO (by simp) _ hTO⟩, h1.at fun o q => k i1 (by simp) o q, h2.at fun o q => k i2 (by simp) o q⟩
  item := by
    intro X hP hw hK hc i pins s σ H E I hf st hg
    subst hP hw hK
    obtain ⟨hz, hTI, ⟨x0, y0, hTO⟩, h1, h2⟩ := st
    obtain ⟨xs, ys, x, y, hqx, hqy, hx, hy⟩ := hg
    obtain ⟨its, rv, p, _⟩ := I.list hqx
    obtain ⟨its2, rv2, p2, _⟩ := I.tuple hqy
    obtain ⟨u, hu, ru⟩ := rv.get hx
    obtain ⟨u2, hu2, ru2⟩ := rv2.get hy
    have hzl : z < s.heap.objs.size := Heap.lt_size hz
    refine pyNext_zipM_item D hz hTI hTO h1 h2 p.isList p2 (x := u) (y := u2) (by simpa using hu) (by simpa using hu2) fun h' z' TO' h1' h2' hT hsz hk => ?_
    refine ⟨_, rfl, wpAny_letOwnedTupleGo_zip (s := { s with heap := h' }) z' fun h'' z'' sb => ?_⟩
    have hT2 : h''.get? s.heap.objs.size = some { cls := .type "tuple", data := .seq #[u, u2] } := (sb.2 _ (Nat.ne_of_gt hzl)).trans hT
    have new : ObjOk X.prog X.w (upd H s.heap.objs.size (.tup [x, y])) h'' s.heap.objs.size (.tup [x, y]) :=
      ⟨by show 2 ≤ sizeLine; decide, [u, u2], .cons ru (.cons ru2 .nil), ⟨_, hT2, rfl, _, rfl⟩⟩
    have I1 : Inv X pins σ (upd H s.heap.objs.size (.tup [x, y])) { s with heap := h'' } :=
      I.turnedNew (t' := s.toks) (ch := [z, TI, TO, i1, i2]) (fun c o hb q => (sb.2 c (fun q' => hb (by simp [q']))).trans (hk c o (fun q' => hb (by simp [q'])) (fun q' => hb (by simp [q'])) (fun q' => hb (by simp [q'])) (fun q' => hb (by simp [q'])) q)) hf (Nat.le_refl _) new
    refine ⟨.ref s.heap.objs.size, _, I1, rfl, ⟨_, x, y, rfl, I.hok.fresh (Nat.le_refl _), rfl, fun l hl => by rw [I.list_inj hl hqx]; exact hx, fun l hl => by rw [I.tuple_inj hl hqy]; exact hy⟩, ⟨z'', ?_, ⟨u, u2, ?_⟩, ?_, ?_⟩, fun c hcm => ?_⟩
    · exact (sb.2 _ D.TIz).trans (hk _ _ D.TIz D.TITO D.TIi1 D.TIi2 hTI)
    · exact (sb.2 _ D.TOz).trans TO'
    · exact h1'.at fun o q => (sb.2 _ D.i1z).trans q
    · exact h2'.at fun o q => (sb.2 _ D.i2z).trans q
    · have hlt : c < s.heap.objs.size := by
        have e' : c = z ∨ c = TI ∨ c = TO ∨ c = i1 ∨ c = i2 := by simpa using hcm
        rcases e' with q | q | q | q | q
        · rw [q]; exact hzl
        · rw [q]; exact Heap.lt_size hTI
        · rw [q]; exact Heap.lt_size hTO
        · rw [q]; obtain ⟨_, e1, _⟩ := h1; exact Heap.lt_size e1
        · rw [q]; obtain ⟨_, e2, _⟩ := h2; exact Heap.lt_size e2
      rw [upd_ne (Nat.ne_of_lt hlt)]
      exact (hf c hcm).1
  done := by
    intro X hP hw hK hc i pins s σ H E I hf st hg
    subst hP hw hK
    obtain ⟨hz, hTI, ⟨x0, y0, hTO⟩, h1, h2⟩ := st
    obtain ⟨xs, ys, hqx, hqy, hend⟩ := hg
    obtain ⟨its, rv, p, _⟩ := I.list hqx
    obtain ⟨its2, rv2, p2, _⟩ := I.tuple hqy
    have l1 := rv.length
    have l2 := rv2.length
    have he : its.toArray[i]? = none ∨ its2.toArray[i]? = none := by
      rcases hend with q | q
      · exact .inl (by simp; omega)
      · exact .inr (by simp; omega)
    exact pyNext_zipM_end (I.ok.hd hc) D hz hTI hTO h1 h2 p.isList p2 he fun h' hk => ⟨rfl, I.turnedL (t' := s.toks) (ch := [z, TI, TO, i1, i2]) (fun c o hb q =>
      hk c o (fun q' => hb (by simp [q'])) (fun q' => hb (by simp [q'])) (fun q' => hb (by simp [q'])) (fun q' => hb (by simp [q'])) q) hf⟩
  self := fun A i s Q E st h => wpAny_pyIter_zip st.1 h


section
variable {X : Cx} {σ : L2.St} {H : Hp} {e a b : Expr} {p pos tpos : Pos} {elts : List Expr} {kk : Nat}
/-- zip of a list and of a list or a tuple of data -/
theorem i_zipD {H0 : Hp} {R : It → Hp → Prop} (B : Blt X.mg X.base) (h : wE X a σ H fun v H1 => wE X b σ H1 fun u H2 => ∃ (q : Addr) (xs : List V) (l : List Addr) (d : PyData), v = .ref q ∧ H2 q = some (.lst xs) ∧ But l H0 H2 ∧ DD X.K l H0 u d ∧ seqB d = true ∧
      ∀ J G vs, Walk J (min xs.length vs.length) G (YPair (fun i => xs[i]?) (fun i => vs[i]?)) → (∀ H', H' q = some (.lst xs) → But l H0 H' → G H') → DDs X.K l H0 vs (items d) → R J H2) (hg : Gl X "zip" := by rfl)
    (hs : starEach [a, b] X.env = (false, eval a X.env) :: starEach [b] X.env := by rfl) (hs2 : starEach [b] X.env = [(false, eval b X.env)] := by rfl) :
    wI X (.Tuple elts kk tpos) (.Call (.Name "zip" p) [a, b] [] pos) σ H R := by
  have ha : wA X [a, b] σ H fun vs H2 => ∃ (q t : Addr) (xs ys : List V), vs = [.ref q, .ref t] ∧ ((SqL X.K H2 q xs ∧ SqL X.K H2 t ys ∧ R (Itz X.K q t) H2) ∨ (SqL X.K H2 q xs ∧ SqT X.K H2 t ys ∧ R (ItzM X.K q t) H2)) :=
    a_cons (wE_mono h fun v H1 g1 => a_cons (wE_mono g1 fun u H2 ⟨q, xs, l, d, e1, e2, e3, e4, e5, r⟩ => a_nil (by
      subst e1
      have sq : ∀ {H'}, H' q = some (.lst xs) → SqL X.K H' q xs := fun h => .inl (.inl h)
      cases e4 with
      | @lst t ys ds h1 n h2 => exact ⟨q, t, xs, ys, rfl, .inl ⟨sq e2, e3.sql n h1, r _ _ ys (walk_zip rfl) (fun H' b1 b2 => ⟨sq b1, b2.sql n h1⟩) h2⟩⟩
      | @tup t ys ds h1 n h2 =>
        refine ⟨q, t, xs, ys, rfl, .inr ⟨sq e2, e3.sqt n h1, r (ItzM X.K q t) (fun H => SqL X.K H q xs ∧ SqT X.K H t ys) ys ⟨fun i H hi q => ?_, fun H q => ⟨xs, ys, q.1, q.2, by omega⟩, fun i H v H' hi q y => ?_⟩ (fun H' b1 b2 => ⟨sq b1, b2.sqt n h1⟩) h2⟩⟩
        · exact ⟨xs, ys, xs[i]'(by omega), ys[i]'(by omega), q.1, q.2, List.getElem?_eq_getElem _, List.getElem?_eq_getElem _⟩
        · obtain ⟨T, x, z, h1, h2, h3, h4, h5⟩ := y
          exact ⟨T, x, z, h1, h2, h3, h4 xs q.1, h5 ys q.2⟩
      | _ => simp [seqB, Z.isList, Z.isTuple] at e5)) hs2) hs
  refine ⟨fun pins s I => ?_⟩
  refine Call_ (ld_blt I hg B.zip PyProof.Rows.boot_zip (PyProof.Rows.callWith_type1 (thn (ha.run pos pins _ I) fun us s1 ⟨vs, H1, I1, r1, q1⟩ => ?_) hs (by rw [hs2]; rfl)))
  obtain ⟨q, t, xs, ys, ex, q1⟩ := q1
  subst ex
  obtain ⟨u1, u2, rfl, k1, k2⟩ := vals2 r1
  cases k1
  cases k2
  have fresh5 : ∀ c, c ∈ [s1.heap.objs.size + 4, s1.heap.objs.size + 2, s1.heap.objs.size + 3, s1.heap.objs.size, s1.heap.objs.size + 1] → FpOk X pins H1 c := fun c hcm => by
    have hle : s1.heap.objs.size ≤ c := by
      simp only [List.mem_cons, List.not_mem_nil, or_false] at hcm
      omega
    exact I1.fpOk hle (I1.hok.fresh hle)
  rcases q1 with ⟨hqx, hqy, r⟩ | ⟨hqx, hqy, r⟩
  · obtain ⟨its, rv, p1, _⟩ := I1.list hqx
    obtain ⟨its2, rv2, p2, _⟩ := I1.list hqy
    refine call_zip_2 p1.isList p2.isList fun h' hz hTI hTO h1 h2 hsz hk => wpAny_pyIter_zip hz ?_
    have I2 : Inv X pins σ H1 { s1 with heap := h' } := I1.kept (t' := s1.toks) hk
    exact ⟨s1.heap.objs.size + 4, [s1.heap.objs.size + 4, s1.heap.objs.size + 2, s1.heap.objs.size + 3, s1.heap.objs.size, s1.heap.objs.size + 1], _, _, H1, rfl, I2, turn_zip (PySem.W.ktu_apart s1.heap.objs.size q t p1.lt p2.lt), ⟨hz, hTI, ⟨_, _, hTO⟩, h1, h2⟩, fresh5, r⟩
  · obtain ⟨its, rv, p1, _⟩ := I1.list hqx
    obtain ⟨its2, rv2, p2, _⟩ := I1.tuple hqy
    obtain ⟨o2, ho2, _⟩ := id p2
    refine call_zipM p1.isList (show s1.heap.IsTuple t its2.toArray from p2) fun h' hz hTI hTO h1 h2 hsz hk => wpAny_pyIter_zip hz ?_
    have I2 : Inv X pins σ H1 { s1 with heap := h' } := I1.kept (t' := s1.toks) hk
    exact ⟨s1.heap.objs.size + 4, [s1.heap.objs.size + 4, s1.heap.objs.size + 2, s1.heap.objs.size + 3, s1.heap.objs.size, s1.heap.objs.size + 1], _, _, H1, rfl, I2, turn_zipM (PySem.W.ktu_apart s1.heap.objs.size q t p1.lt (Heap.lt_size ho2)), ⟨hz, hTI, ⟨_, _, hTO⟩, h1, h2⟩, fresh5, r⟩
end
end Z

set_option Elab.async false
set_option linter.all false
set_option maxRecDepth 100000
set_option maxHeartbeats 4000000
/-! trees of lists, each list at an address of its own; a tree that grows at its right edge -/
namespace Z
open PySem PySem.Spec PyProof.Rows L2
mutual
/-- v holds the tree d of lists and texts; its lists stand at the addresses S, each once -/
inductive Bu (H : Hp) : List Addr → V → PyData → Prop
  | str (x : Str) : Bu H [] (.str x) (.str x)
  | lst {a : Addr} {xs : List V} {S : List Addr} {ds : List PyData} : H a = some (.lst xs) → Bus H S xs ds → a ∉ S → Bu H (a :: S) (.ref a) (.list ds)
inductive Bus (H : Hp) : List Addr → List V → List PyData → Prop
  | nil : Bus H [] [] []
  | cons {S T : List Addr} {v : V} {d : PyData} {vs : List V} {ds : List PyData} : Bu H S v d → Bus H T vs ds → (∀ a ∈ S, a ∉ T) → Bus H (S ++ T) (v :: vs) (d :: ds)
end
mutual
theorem Bu.dd {K : PySem.W.Frag} {l : List Addr} {H : Hp} {S : List Addr} {v : V} {d : PyData} : Bu H S v d → (∀ a ∈ S, a ∉ l) → DD K l H v d
  | .str x, _ => .str x
  | .lst h r _, n => .lst (.inl (.inl h)) (n _ (by simp)) (Bus.dd r fun a ha => n a (by simp [ha]))
theorem Bus.dd {K : PySem.W.Frag} {l : List Addr} {H : Hp} {S : List Addr} {vs : List V} {ds : List PyData} : Bus H S vs ds → (∀ a ∈ S, a ∉ l) → DDs K l H vs ds
  | .nil, _ => .nil
  | .cons h r _, n => .cons (Bu.dd h fun a ha => n a (by simp [ha])) (Bus.dd r fun a ha => n a (by simp [ha]))
end
mutual
theorem Bu.but {l : List Addr} {H H' : Hp} {S : List Addr} {v : V} {d : PyData} (b : But l H H') : Bu H S v d → (∀ a ∈ S, a ∉ l) → Bu H' S v d
  | .str x, _ => .str x
  | .lst h r m, n => .lst (b _ _ (n _ (by simp)) h) (Bus.but b r fun a ha => n a (by simp [ha])) m
theorem Bus.but {l : List Addr} {H H' : Hp} {S : List Addr} {vs : List V} {ds : List PyData} (b : But l H H') : Bus H S vs ds → (∀ a ∈ S, a ∉ l) → Bus H' S vs ds
  | .nil, _ => .nil
  | .cons h r m, n => .cons (Bu.but b h fun a ha => n a (by simp [ha])) (Bus.but b r fun a ha => n a (by simp [ha])) m
end
theorem Bus.length {H : Hp} : ∀ {S : List Addr} {vs : List V} {ds : List PyData}, Bus H S vs ds → vs.length = ds.length
  | _, _, _, .nil => rfl
  | _, _, _, .cons _ r _ => by simp [Bus.length r]
theorem Bus.append {H : Hp} : ∀ {S T : List Addr} {xs ys : List V} {ds es : List PyData}, Bus H S xs ds → Bus H T ys es → (∀ a ∈ S, a ∉ T) → Bus H (S ++ T) (xs ++ ys) (ds ++ es)
  | _, _, _, _, _, _, .nil, r, _ => r
  | _, _, _, _, _, _, .cons (S := S1) (T := T1) h h2 m, r, n => by
    rw [List.append_assoc]
    exact .cons h (Bus.append h2 r fun a ha => n a (by simp [ha])) fun a ha hb => by
      rcases List.mem_append.mp hb with q | q
      · exact m a ha q
      · exact n a (by simp [ha]) q
theorem Bu.one {H : Hp} {S : List Addr} {v : V} {d : PyData} (h : Bu H S v d) : Bus H S [v] [d] := by
  have := Bus.cons h .nil (by simp)
  rwa [List.append_nil] at this
/-! ### plain: open levels -/
abbrev Sts := List (List PyData)
/-- all levels closed -/
def fold : Sts → List PyData
  | [] => []
  | [ds] => ds
  | ds :: r :: rs => ds ++ [.list (fold (r :: rs))]
/-- the first n levels stay open -/
def closeTo : Nat → Sts → Sts
  | 0, _ => []
  | _, [] => []
  | 1, st => [fold st]
  | n + 2, ds :: r => ds :: closeTo (n + 1) r
def putLast : Sts → PyData → Sts
  | [], _ => []
  | [ds], d => [ds ++ [d]]
  | ds :: r :: rs, d => ds :: putLast (r :: rs) d
theorem len_closeTo : ∀ {n : Nat} {st : Sts}, n ≤ st.length → (closeTo n st).length = n
  | 0, _, _ => rfl
  | 1, _ :: _, _ => rfl
  | n + 2, ds :: r, h => by
    show (closeTo (n + 1) r).length + 1 = n + 2
    rw [len_closeTo (n := n + 1) (by simpa using h)]
theorem len_putLast : ∀ {st : Sts} {d : PyData}, (putLast st d).length = st.length
  | [], _ => rfl
  | [_], _ => rfl
  | _ :: r :: rs, d => by
    show (putLast (r :: rs) d).length + 1 = _
    rw [len_putLast (st := r :: rs)]
    rfl
theorem fold_few : ∀ {st : Sts} {N : Nat}, (∀ ds ∈ st, ds.length ≤ N) → (fold st).length ≤ N + 1
  | [], _, _ => by simp [fold]
  | [ds], N, h => Nat.le_succ_of_le (h ds (by simp))
  | ds :: r :: rs, N, h => by
    show (ds ++ [_]).length ≤ _
    rw [List.length_append]
    exact Nat.succ_le_succ (h ds (by simp))
theorem closeTo_few : ∀ {n : Nat} {st : Sts} {N : Nat}, (∀ ds ∈ st, ds.length ≤ N) → ∀ ds ∈ closeTo n st, ds.length ≤ N + 1
  | 0, _, _, _, ds, h => by simp [closeTo] at h
  | 1, [], _, _, ds, h => by simp [closeTo] at h
  | n + 2, [], _, _, ds, h => by simp [closeTo] at h
  | 1, a :: st, N, hN, ds, h => by
    have : ds = fold (a :: st) := by simpa [closeTo] using h
    rw [this]
    exact fold_few hN
  | n + 2, a :: r, N, hN, ds, h => by
    have h : ds ∈ a :: closeTo (n + 1) r := h
    rcases List.mem_cons.mp h with h | h
    · rw [h]; exact Nat.le_succ_of_le (hN a (by simp))
    · exact closeTo_few (n := n + 1) (fun d hd => hN d (by simp [hd])) ds h
theorem putLast_few : ∀ {st : Sts} {d : PyData} {N : Nat}, (∀ ds ∈ st, ds.length ≤ N) → ∀ ds ∈ putLast st d, ds.length ≤ N + 1
  | [], _, _, _, ds, h => by simp [putLast] at h
  | [a], d, N, hN, ds, h => by
    have : ds = a ++ [d] := by simpa [putLast] using h
    rw [this, List.length_append]
    exact Nat.succ_le_succ (hN a (by simp))
  | a :: r :: rs, d, N, hN, ds, h => by
    have h : ds ∈ a :: putLast (r :: rs) d := h
    rcases List.mem_cons.mp h with h | h
    · rw [h]; exact Nat.le_succ_of_le (hN a (by simp))
    · exact putLast_few (st := r :: rs) (fun d hd => hN d (by simp [hd])) ds h
/-- the open lists at us, each one's last but the innermost's is the next one; what is closed stands at T -/
inductive Spn (H : Hp) : List Addr → List Addr → Sts → Prop
  | one {u : Addr} {xs : List V} {S : List Addr} {ds : List PyData} : H u = some (.lst xs) → Bus H S xs ds → u ∉ S → Spn H [u] S [ds]
  | more {u u' : Addr} {us : List Addr} {xs : List V} {S T : List Addr} {ds : List PyData} {r : Sts} : H u = some (.lst (xs ++ [.ref u'])) → Bus H S xs ds → Spn H (u' :: us) T r → u ∉ S → u ∉ u' :: us → u ∉ T → (∀ a ∈ S, a ∉ u' :: us ∧ a ∉ T) →
      Spn H (u :: u' :: us) (S ++ T) (ds :: r)
theorem Spn.len {H : Hp} : ∀ {us T : List Addr} {st : Sts}, Spn H us T st → st.length = us.length
  | _, _, _, .one .. => rfl
  | _, _, _, .more _ _ r .. => by simp [Spn.len r]
theorem Spn.but {l : List Addr} {H H' : Hp} (b : But l H H') : ∀ {us T : List Addr} {st : Sts}, Spn H us T st → (∀ a ∈ us, a ∉ l) → (∀ a ∈ T, a ∉ l) → Spn H' us T st
  | _, _, _, .one h r n, h1, h2 => .one (b _ _ (h1 _ (by simp)) h) (r.but b h2) n
  | _, _, _, .more h r s n1 n2 n3 n4, h1, h2 => .more (b _ _ (h1 _ (by simp)) h) (r.but b fun a ha => h2 a (by simp [ha])) (s.but b (fun a ha => h1 a (List.mem_cons_of_mem _ ha)) fun a ha => h2 a (by simp [ha])) n1 n2 n3 n4
theorem Spn.apart {H : Hp} : ∀ {us T : List Addr} {st : Sts}, Spn H us T st → ∀ a ∈ us, a ∉ T
  | _, _, _, .one h r n, a, ha => by rw [List.mem_singleton.mp ha]; exact n
  | _, _, _, .more h r s n1 n2 n3 n4, a, ha => fun hb => by
    rcases List.mem_cons.mp ha with e | ha
    · subst e
      rcases List.mem_append.mp hb with q | q
      · exact n1 q
      · exact n3 q
    · rcases List.mem_append.mp hb with q | q
      · exact (n4 a q).1 ha
      · exact s.apart a ha q
theorem Spn.fold {H : Hp} : ∀ {u : Addr} {us T : List Addr} {st : Sts}, Spn H (u :: us) T st → ∃ xs S, H u = some (.lst xs) ∧ Bus H S xs (fold st) ∧ u ∉ S ∧ ∀ a ∈ S, a ∈ us ∨ a ∈ T
  | _, _, _, _, .one h r n => ⟨_, _, h, r, n, fun a ha => .inr ha⟩
  | _, _, _, _, .more (r := r0) h r s n1 n2 n3 n4 => by
    obtain ⟨xs', S', e1, e2, e3, e4⟩ := s.fold
    cases r0 with
    | nil => cases s
    | cons r1 rs =>
      refine ⟨_, _, h, Bus.append r (Bu.one (Bu.lst e1 e2 e3)) fun a ha hb => ?_, fun hb => ?_, fun a ha => ?_⟩
      · rcases List.mem_cons.mp hb with e | hb
        · exact (n4 a ha).1 (by simp [e])
        · rcases e4 a hb with q | q
          · exact (n4 a ha).1 (by simp [q])
          · exact (n4 a ha).2 q
      · rcases List.mem_append.mp hb with q | q
        · exact n1 q
        · rcases List.mem_cons.mp q with e | q
          · exact n2 (by simp [e])
          · rcases e4 _ q with q | q
            · exact n2 (by simp [q])
            · exact n3 q
      · rcases List.mem_append.mp ha with q | q
        · exact .inr (by simp [q])
        · rcases List.mem_cons.mp q with e | q
          · exact .inl (by simp [e])
          · rcases e4 _ q with q | q
            · exact .inl (by simp [q])
            · exact .inr (by simp [q])
theorem Spn.cut {H : Hp} : ∀ {n : Nat} {us T : List Addr} {st : Sts}, Spn H us T st → 1 ≤ n → n ≤ us.length → ∃ T', Spn H (us.take n) T' (closeTo n st) ∧ ∀ a ∈ T', a ∈ us ∨ a ∈ T
  | 0, _, _, _, _, h, _ => by omega
  | 1, u :: us, T, st, s, _, _ => by
    obtain ⟨xs, S, e1, e2, e3, e4⟩ := s.fold
    have hc : closeTo 1 st = [Z.fold st] := by
      cases st with
      | nil => cases s
      | cons a r => rfl
    rw [hc]
    exact ⟨S, .one e1 e2 e3, fun a ha => (e4 a ha).imp (fun q => List.mem_cons_of_mem _ q) id⟩
  | n + 2, u :: us, T, st, s, _, hn => by
    cases s with
    | one => simp at hn
    | @more _ u' us xs S T ds r h r0 s n1 n2 n3 n4 =>
      obtain ⟨T', s', hT⟩ := s.cut (n := n + 1) (by omega) (by simpa using hn)
      refine ⟨S ++ T', .more h r0 s' n1 (fun q => n2 ?_) (fun q => ?_) (fun a ha => ⟨fun q => (n4 a ha).1 ?_, fun q => ?_⟩), fun a ha => ?_⟩
      · exact List.mem_of_mem_take (i := n + 1) q
      · rcases hT _ q with q | q
        · exact n2 q
        · exact n3 q
      · exact List.mem_of_mem_take (i := n + 1) q
      · rcases hT _ q with q | q
        · exact (n4 a ha).1 q
        · exact (n4 a ha).2 q
      · rcases List.mem_append.mp ha with q | q
        · exact .inr (by simp [q])
        · rcases hT _ q with q | q
          · exact .inl (List.mem_cons_of_mem _ q)
          · exact .inr (by simp [q])
theorem Spn.hd {H : Hp} {us T : List Addr} {st : Sts} (s : Spn H us T st) : ∃ u r, us = u :: r := by
  cases s <;> exact ⟨_, _, rfl⟩
/-- the innermost one -/
theorem Spn.last {H : Hp} : ∀ {us T : List Addr} {st : Sts}, Spn H us T st → ∃ ini u xs ds, us = ini ++ [u] ∧ u ∉ ini ∧ u ∉ T ∧ H u = some (.lst xs) ∧ xs.length = ds.length ∧ ds ∈ st ∧
    (∀ (p : Addr) H', H' u = some (.lst (xs ++ [.ref p])) → H' p = some (.lst []) → But [u, p] H H' → p ∉ us → p ∉ T → Spn H' (us ++ [p]) T (st ++ [[]])) ∧
    ∀ x H', H' u = some (.lst (xs ++ [.str x])) → But [u] H H' → Spn H' us T (putLast st (.str x))
  | _, _, _, .one (u := u) (xs := xs) (S := S) (ds := ds) h r n => by
    refine ⟨[], u, xs, ds, rfl, by simp, n, h, r.length, by simp, fun p H' h1 h2 b np nT => ?_, fun x H' h1 b => ?_⟩
    · have e : S ++ [] = S := List.append_nil S
      have := Spn.more (u := u) (u' := p) (us := []) (xs := xs) (S := S) (T := []) (ds := ds) (r := [[]]) h1 (r.but b fun a ha hb => by
        rcases List.mem_cons.mp hb with e | hb
        · exact n (e ▸ ha)
        · exact nT (List.mem_singleton.mp hb ▸ ha)) (.one h2 .nil (by simp)) n (fun q => np (by rw [List.mem_singleton.mp q]; simp)) (by simp) (fun a ha => ⟨fun q => nT (List.mem_singleton.mp q ▸ ha), by simp⟩)
      rw [e] at this
      exact this
    · have := Bus.append (r.but b fun a ha hb => n (List.mem_singleton.mp hb ▸ ha)) (Bu.one (.str (H := H') x)) (by simp)
      rw [List.append_nil] at this
      exact .one h1 this n
  | _, _, _, .more (u := u) (u' := u') (us := us) (xs := xs) (S := S) (T := T) (ds := ds) (r := r) h r0 s n1 n2 n3 n4 => by
    obtain ⟨ini, v, ys, es, e1, e2, e3, e4, e5, e6, f1, f2⟩ := s.last
    have hv : v ∈ u' :: us := by rw [e1]; simp
    have huv : u ≠ v := fun z => n2 (z ▸ hv)
    refine ⟨u :: ini, v, ys, es, by rw [e1]; rfl, fun q => ?_, fun q => ?_, e4, e5, List.mem_cons_of_mem _ e6, fun p H' h1 h2 b np nT => ?_, fun x H' h1 b => ?_⟩
    · rcases List.mem_cons.mp q with z | q
      · exact huv z.symm
      · exact e2 q
    · rcases List.mem_append.mp q with q | q
      · exact (n4 v q).1 hv
      · exact e3 q
    · have hup : u ≠ p := fun z => np (by rw [z]; simp)
      have s' := f1 p H' h1 h2 b (fun q => np (List.mem_cons_of_mem _ q)) fun q => nT (by simp [q])
      have rr : (u' :: us) ++ [p] = u' :: (us ++ [p]) := rfl
      rw [rr] at s'
      refine .more (b _ _ (by simp [huv, hup]) h) (r0.but b fun a ha hb => ?_) s' n1 (fun q => ?_) n3 fun a ha => ⟨fun q => ?_, (n4 a ha).2⟩
      · rcases List.mem_cons.mp hb with z | hb
        · exact (n4 a ha).1 (z ▸ hv)
        · exact nT (by rw [← List.mem_singleton.mp hb]; simp [ha])
      · rcases List.mem_append.mp (show u ∈ (u' :: us) ++ [p] from q) with q | q
        · exact n2 q
        · exact hup (List.mem_singleton.mp q)
      · rcases List.mem_append.mp (show a ∈ (u' :: us) ++ [p] from q) with q | q
        · exact (n4 a ha).1 q
        · exact nT (by rw [← List.mem_singleton.mp q]; simp [ha])
    · have s' := f2 x H' h1 b
      have hp : putLast (ds :: r) (.str x) = ds :: putLast r (.str x) := by
        cases r with
        | nil => cases s
        | cons a rs => rfl
      rw [hp]
      exact .more (b _ _ (by simp [huv]) h) (r0.but b fun a ha hb => (n4 a ha).1 (List.mem_singleton.mp hb ▸ hv)) s' n1 n2 n3 n4
theorem cutV_toV (ys : List V) (n : Nat) : cutV ys none (some (n : Int)) = ys.take n := by
  unfold cutV
  rw [HT.sIx_nat, HT.sIx_none, List.drop_zero, Nat.sub_zero]
  by_cases h : n ≤ ys.length
  · rw [Nat.min_eq_left h]
  · rw [Nat.min_eq_right (by omega), List.take_of_length_le (Nat.le_refl _), List.take_of_length_le (by omega)]
theorem cutV_fromV (ys : List V) (n : Nat) : cutV ys (some (n : Int)) none = ys.drop n := by
  unfold cutV
  rw [HT.sIx_nat, HT.sIx_none]
  by_cases h : n ≤ ys.length
  · rw [Nat.min_eq_left h, List.take_of_length_le (by rw [List.length_drop]; omega)]
  · rw [Nat.min_eq_right (by omega), List.drop_of_length_le (Nat.le_refl _), List.drop_of_length_le (by omega)]
    simp
mutual
theorem Bu.there {H : Hp} {S : List Addr} {v : V} {d : PyData} : Bu H S v d → ∀ a ∈ S, ∃ xs, H a = some (.lst xs)
  | .str x, a, h => by simp at h
  | .lst h r m, a, ha => by
    rcases List.mem_cons.mp ha with e | ha
    · rw [e]; exact ⟨_, h⟩
    · exact Bus.there r a ha
theorem Bus.there {H : Hp} {S : List Addr} {vs : List V} {ds : List PyData} : Bus H S vs ds → ∀ a ∈ S, ∃ xs, H a = some (.lst xs)
  | .nil, a, h => by simp at h
  | .cons h r m, a, ha => by
    rcases List.mem_append.mp ha with q | q
    · exact Bu.there h a q
    · exact Bus.there r a q
end
theorem Spn.there {H : Hp} : ∀ {us T : List Addr} {st : Sts}, Spn H us T st → ∀ a, a ∈ us ∨ a ∈ T → ∃ xs, H a = some (.lst xs)
  | _, _, _, .one h r n, a, ha => by
    rcases ha with ha | ha
    · rw [List.mem_singleton.mp ha]; exact ⟨_, h⟩
    · exact r.there a ha
  | _, _, _, .more h r s n1 n2 n3 n4, a, ha => by
    rcases ha with ha | ha
    · rcases List.mem_cons.mp ha with e | ha
      · rw [e]; exact ⟨_, h⟩
      · exact s.there a (.inl ha)
    · rcases List.mem_append.mp ha with q | q
      · exact r.there a q
      · exact s.there a (.inr q)
/-- one level down: the last one -/
theorem Spn.down {H : Hp} : ∀ {us T : List Addr} {st : Sts}, Spn H us T st → ∀ (j : Nat) (u v : Addr), us[j]? = some u → us[j + 1]? = some v → ∃ xs, H u = some (.lst (xs ++ [.ref v]))
  | _, _, _, .one .., j, u, v, _, h => by simp at h
  | _, _, _, .more h r s n1 n2 n3 n4, 0, u, v, h1, h2 => by
    simp at h1 h2
    subst h1
    subst h2
    exact ⟨_, h⟩
  | _, _, _, .more h r s n1 n2 n3 n4, j + 1, u, v, h1, h2 => s.down j u v (by simpa using h1) (by simpa using h2)
theorem closeTo_all : ∀ {n : Nat} {st : Sts}, st.length = n → closeTo n st = st
  | 0, [], _ => rfl
  | 1, [a], _ => rfl
  | n + 2, a :: r, h => by
    show a :: closeTo (n + 1) r = a :: r
    rw [closeTo_all (by simpa using h)]
end Z

set_option Elab.async false
set_option linter.all false
set_option maxRecDepth 100000
set_option maxHeartbeats 4000000
/-! rows of texts: parts, one behind the other, many times; the new state told by what it holds -/
namespace Z
open PySem PySem.Spec PyProof.Rows L2
theorem cut_mid (ys : List V) (a b : Nat) (h : a ≤ b) : cutV ys (some (a : Int)) (some (b : Int)) = (ys.drop a).take (b - a) := by
  unfold cutV
  rw [HT.sIx_nat, HT.sIx_nat]
  by_cases ha : a ≤ ys.length
  · rw [Nat.min_eq_left ha]
    by_cases hb : b ≤ ys.length
    · rw [Nat.min_eq_left hb]
    · rw [Nat.min_eq_right (by omega), List.take_of_length_le (by rw [List.length_drop]; omega), List.take_of_length_le (by rw [List.length_drop]; omega)]
  · have e : List.drop a ys = [] := List.drop_of_length_le (by omega)
    have e2 : List.drop (min a ys.length) ys = [] := List.drop_of_length_le (by omega)
    rw [e, e2]
    simp
/-- the row ys of texts stands at q -/
def RowS (H : Hp) (q : Addr) (ys : List Str) : Prop := H q = some (.lst (ys.map V.str))
theorem RowS.new {H H' : Hp} {q : Addr} {ys : List Str} (h : RowS H q ys) (b : But [] H H') : RowS H' q ys := b _ _ (by simp) h
section
variable {X : Cx} {σ : L2.St} {H : Hp} {Q : VK} {q r : Addr} {xs ys : List Str} {a b n : Nat}
theorem rs_to {K : PySem.W.Frag} (h : RowS H q ys) (k : ∀ p H', But [] H H' → H p = none → RowS H' p (ys.take a) → Q (.ref p) H') : rSlL K (.ref q) none (some (a : Int)) H Q :=
  ⟨q, _, rfl, .inl (.inl h), fun p hp => k p _ (But.new hp) hp (by rw [cutV_toV]; unfold RowS; rw [upd_same, List.map_take])⟩
theorem rs_from {K : PySem.W.Frag} (h : RowS H q ys) (k : ∀ p H', But [] H H' → H p = none → RowS H' p (ys.drop a) → Q (.ref p) H') : rSlL K (.ref q) (some (a : Int)) none H Q :=
  ⟨q, _, rfl, .inl (.inl h), fun p hp => k p _ (But.new hp) hp (by rw [cutV_fromV]; unfold RowS; rw [upd_same, List.map_drop])⟩
theorem rs_mid {K : PySem.W.Frag} (hab : a ≤ b) (h : RowS H q ys) (k : ∀ p H', But [] H H' → H p = none → RowS H' p ((ys.drop a).take (b - a)) → Q (.ref p) H') : rSlL K (.ref q) (some (a : Int)) (some (b : Int)) H Q :=
  ⟨q, _, rfl, .inl (.inl h), fun p hp => k p _ (But.new hp) hp (by rw [cut_mid _ _ _ hab]; unfold RowS; rw [upd_same, List.map_take, List.map_drop])⟩
theorem o_catS (h1 : RowS H q xs) (h2 : RowS H r ys) (hn : xs.length + ys.length ≤ 1000000) (k : ∀ p H', But [] H H' → H p = none → RowS H' p (xs ++ ys) → Q (.ref p) H') : oW X (binaryOp .Add) (.ref q) (.ref r) H Q :=
  o_cat h1 h2 (by rw [sizeLine_eq, List.length_map, List.length_map]; omega) fun p hp => k p _ (But.new hp) hp (by unfold RowS; rw [upd_same, List.map_append])
theorem o_repS (h1 : RowS H q xs) (hn : xs.length * n ≤ 1000000) (hn2 : n ≤ 1000000) (k : ∀ p H', But [] H H' → H p = none → RowS H' p (List.replicate n xs).flatten → Q (.ref p) H') : oW X (binaryOp .Mult) (.ref q) (.int n) H Q :=
  o_rep h1 (by rw [sizeLine_eq, List.length_map]; omega) (by omega) fun p hp => k p _ (But.new hp) hp (by unfold RowS; rw [upd_same, List.map_flatten, List.map_replicate])
end
end Z

set_option Elab.async false
set_option linter.all false
set_option maxRecDepth 100000
set_option maxHeartbeats 4000000
/-! a comprehension that keeps some -/
namespace Z
open PySem PySem.Spec PyProof.Rows L2
def keepL : List Bool → List V → List V
  | b :: bs, x :: xs => if b = true then x :: keepL bs xs else keepL bs xs
  | _, _ => []
theorem keepL_snoc {b : Bool} {x : V} : ∀ {bs : List Bool} {xs : List V}, bs.length = xs.length → keepL (bs ++ [b]) (xs ++ [x]) = keepL bs xs ++ (if b = true then [x] else [])
  | [], [], _ => by cases b <;> rfl
  | c :: bs, z :: xs, h => by
    have ih := keepL_snoc (b := b) (x := x) (bs := bs) (xs := xs) (by simpa using h)
    show (if c = true then z :: keepL (bs ++ [b]) (xs ++ [x]) else keepL (bs ++ [b]) (xs ++ [x])) = (if c = true then z :: keepL bs xs else keepL bs xs) ++ _
    rw [ih]
    cases c <;> rfl
  | [], _ :: _, h => by simp at h
  | _ :: _, [], h => by simp at h
theorem keepL_len : ∀ {bs : List Bool} {xs : List V}, (keepL bs xs).length ≤ xs.length
  | [], _ => by simp [keepL]
  | _ :: _, [] => by simp [keepL]
  | b :: bs, x :: xs => by
    have := keepL_len (bs := bs) (xs := xs)
    show (if b = true then x :: keepL bs xs else keepL bs xs).length ≤ _
    cases b <;> simp <;> omega
theorem keepL_dds {K : PySem.W.Frag} {l : List Addr} {H : Hp} {f : PyData → Bool} : ∀ {xs : List V} {ds : List PyData}, DDs K l H xs ds → DDs K l H (keepL (ds.map f) xs) (ds.filter f)
  | _, _, .nil => .nil
  | _, _, .cons (v := x) (d := d) h r => by
    have ih := keepL_dds (f := f) r
    rw [List.map_cons, List.filter_cons]
    show DDs K l H (if f d = true then x :: keepL _ _ else keepL _ _) _
    cases f d with
    | true => exact .cons h ih
    | false => exact ih
section
variable {X : Cx} {k : Nat} {W : WX} {σ : L2.St} {H : Hp} {pos : Pos} {Q : VK} {iter c : Expr} {scope : Scope} {y : Str} {p p2 : Pos}
/-- the target is a name, one test -/
theorem lc_test {vs : List Nat} {i : Nat} {elt : Expr} {D : Addr} {x : V} {Nx : Hp → Prop} (hN : X.N.Nodup)
    (h : ∀ s H0 C cl fp, wT (X.blk s H0 scope (compEnvC scope cl C X.env) fp) c ((wipe σ vs).set i (some x)) H fun b H3 => if b = true then wEb X scope elt ((wipe σ vs).set i (some x)) H3 fun y H4 => ∃ acc, H4 D = some (.lst acc) ∧ acc.length < sizeLine ∧ Nx (upd H4 D (.lst (acc ++ [y]))) else Nx H3)
    (hw : wipe ((wipe σ vs).set i (some x)) vs = wipe σ vs := by rfl) (hi : X.N[i]? = some y := by rfl)
    (hx : Loc (relS scope X.env.scope) y := by first | exact Or.inl rfl | exact Or.inr rfl) (hf : (scope.names.lookup y == some .cell) = true ∨ (relS scope X.env.scope).names.lookup y = some .local := by first | exact .inl rfl | exact .inr rfl) :
    LcTurn X scope vs (.Name y p) [c] elt σ D x H Nx := by
  intro s H0 C cl fp
  refine g_name (i := i) ?_ hN hi hx hf
  exact ⟨hw, fun s H0 C cl fp => eIf (pts_one pT) (h s H0 C cl fp)⟩
/-- what is walked is kept where the test says so; nothing is changed -/
theorem lcF_core {J : It} {n : Nat} {G : Hp → Prop} {Y : Nat → Hp → V → Hp → Prop} {vs : List Nat} {elt : Expr} {i : Nat} {H1 : Hp} {xs : List V} {bs : List Bool} (hN : X.N.Nodup) (w : Walk J n G Y) (hn : xs.length = n) (hb : bs.length = n) (hz : n ≤ sizeLine) (hG : ∀ H', But [] H1 H' → G H')
    (ht : ∀ j x H2 H', j < n → But [] H1 H2 → Y j H2 x H' → H' = H2 ∧ xs[j]? = some x ∧ ∀ s H0 C cl fp, wT (X.blk s H0 scope (compEnvC scope cl C X.env) fp) c ((wipe σ vs).set i (some x)) H2 fun b H3 => bs[j]? = some b ∧ But [] H2 H3 ∧ (b = true → wEb X scope elt ((wipe σ vs).set i (some x)) H3 fun y H4 => y = x ∧ But [] H3 H4))
    {Qd : Addr → Hp → Prop} (hq : ∀ D H', But [] H1 H' → H1 D = none → H' D = some (.lst (keepL bs xs)) → Qd D H')
    (hw : ∀ x, wipe ((wipe σ vs).set i (some x)) vs = wipe σ vs := by intro _; rfl) (hi : X.N[i]? = some y := by rfl)
    (hx : Loc (relS scope X.env.scope) y := by first | exact Or.inl rfl | exact Or.inr rfl) (hf : (scope.names.lookup y == some .cell) = true ∨ (relS scope X.env.scope).names.lookup y = some .local := by first | exact .inl rfl | exact .inr rfl) : ∀ D, H1 D = none → ∃ Pv : Nat → Hp → Prop, Pv 0 (upd H1 D (.lst [])) ∧ (∀ i H, i ≤ n → Pv i H → G H) ∧
      (∀ i x H H', i < n → Pv i H → Y i H x H' → LcTurn X scope vs (.Name y p) [c] elt σ D x H' (Pv (i + 1))) ∧ ∀ H, Pv n H → Qd D H := by
  intro D hD
  refine ⟨fun j H' => But [] H1 H' ∧ H' D = some (.lst (keepL (bs.take j) (xs.take j))), ⟨But.new hD, by rw [upd_same]; rfl⟩, fun j H' _ h => hG H' h.1, ?_, fun H' h => hq D H' h.1 hD (by
    have h2 := h.2
    rw [List.take_of_length_le (by omega), List.take_of_length_le (by omega)] at h2
    exact h2)⟩
  intro j x H2 H' hj hP hY
  obtain ⟨rfl, hxj, hT⟩ := ht j x H2 H' hj hP.1 hY
  refine lc_test (i := i) hN (fun s H0 C cl fp => ⟨fun pins s2 I => thn ((hT s H0 C cl fp).run pins s2 I) fun b s3 h3 => ?_⟩) (hw x) hi hx hf
  obtain ⟨H3, I3, hbj, b3, hE⟩ := h3
  refine ⟨H3, I3, ?_⟩
  have e1 : bs.take (j + 1) = bs.take j ++ [b] := by rw [List.take_add_one, hbj]; rfl
  have e2 : xs.take (j + 1) = xs.take j ++ [x] := by rw [List.take_add_one, hxj]; rfl
  have e3 : keepL (bs.take (j + 1)) (xs.take (j + 1)) = keepL (bs.take j) (xs.take j) ++ (if b = true then [x] else []) := by
    rw [e1, e2, keepL_snoc (by rw [List.length_take, List.length_take]; omega)]
  have hD3 := b3 _ _ (by simp) hP.2
  cases b with
  | false =>
    refine ⟨hP.1.trans b3, ?_⟩
    rw [e3, hD3]
    simp
  | true =>
    show wEb X scope elt _ H3 _
    intro s H0 C cl fp
    refine wE_mono (hE rfl s H0 C cl fp) fun v H4 ⟨hv, b4⟩ => ?_
    subst hv
    have hD4 := b4 _ _ (by simp) hD3
    have hl := keepL_len (bs := bs.take j) (xs := xs.take j)
    rw [List.length_take] at hl
    refine ⟨_, hD4, by omega, fun q o _ e => ?_, by rw [upd_same, e3]; rfl⟩
    rw [upd_ne (ne_of_none e hD)]
    exact b4 _ _ (by simp) (b3 _ _ (by simp) (hP.1 _ _ (by simp) e))
/-- [x for x in xs if c] -/
theorem e_lcF (own : List (Str × Nat)) (C : Cxt X k W) (i : Nat)
    (h : wI X (.Name y p) iter σ H fun J H1 => ∃ n G Y xs bs, Walk J n G Y ∧ xs.length = n ∧ bs.length = n ∧ n ≤ sizeLine ∧ (∀ H', But [] H1 H' → G H') ∧
      (∀ j x H2 H', j < n → But [] H1 H2 → Y j H2 x H' → H' = H2 ∧ xs[j]? = some x ∧ ∀ s H0 C cl fp, wT (X.blk s H0 scope (compEnvC scope cl C X.env) fp) c ((wipe σ (own.map (·.2))).set i (some x)) H2 fun b H3 => bs[j]? = some b ∧ But [] H2 H3 ∧ (b = true → wEb X scope (.Name y p2) ((wipe σ (own.map (·.2))).set i (some x)) H3 fun y H4 => y = x ∧ But [] H3 H4)) ∧
      ∀ D H', But [] H1 H' → H1 D = none → H' D = some (.lst (keepL bs xs)) → Q (.ref D) H')
    (ok : BlkOk X.N X.env.scope scope own := by exact blkOk_by (by first | rfl | kernel_rfl)) (hs : ∀ x, foldedSetIterable iter X.env x = pure x := by intro _; rfl)
    (hw : ∀ x, wipe ((wipe σ (own.map (·.2))).set i (some x)) (own.map (·.2)) = wipe σ (own.map (·.2)) := by intro _; rfl) (hi : X.N[i]? = some y := by rfl)
    (hx : Loc (relS scope X.env.scope) y := by first | exact Or.inl rfl | exact Or.inr rfl) (hf : (scope.names.lookup y == some .cell) = true ∨ (relS scope X.env.scope).names.lookup y = some .local := by first | exact .inl rfl | exact .inr rfl) :
    wE X (.ListComp (.Name y p2) [⟨.Name y p, iter, [c], 0⟩] scope pos) σ H Q :=
  e_lc own C (wI_mono h fun J H1 ⟨n, G, Y, xs, bs, w, h1, h2, h3, h4, h5, h6⟩ => ⟨n, G, Y, w, lcF_core C.nd w h1 h2 h3 h4 h5 h6 hw hi hx hf⟩) ok hs
end
theorem op_isnotB {X : Cx} : OpR X (compareOp .IsNot) (fun x y H Q => ∃ a b : Bool, x = .bl a ∧ y = .bl b ∧ Q (.bl (!decide (a = b))) H) := by
  intro pins s σ H x y v u Q I rx ry h
  obtain ⟨a, b, rfl, rfl, q⟩ := h
  cases rx
  cases ry
  show wpAny _ _ ((isSame (Value.bool a) (Value.bool b)) >>= fun z => pure (Value.bool (!z))) _ _ s
  refine wpAny_bind (wpAny_isSame_plain rfl (wpAny_pure (fin_bl I q ?_)))
  cases a <;> cases b <;> rfl
theorem c_isnotB {X : Cx} {H : Hp} {Q : VK} {a b : Bool} (q : Q (.bl (!decide (a = b))) H) : oW X (compareOp .IsNot) (.bl a) (.bl b) H Q := oW_of op_isnotB ⟨a, b, rfl, rfl, q⟩
end Z

set_option Elab.async false
set_option linter.all false
set_option maxRecDepth 100000
set_option maxHeartbeats 4000000
/-! plain: what can be compared -/
namespace Z
open PySem PySem.Spec PyProof.Rows L2 TL
theorem layAllZ : ∀ {ds : List PyData}, (∀ d ∈ ds, PyData.canLay0 d = true) → PyData.canLayAll0 ds = true
  | [], _ => rfl
  | d :: ds, h => by
    have h2 := layAllZ (ds := ds) fun x hx => h x (List.mem_cons_of_mem _ hx)
    simp only [PyData.canLayAll0, h d (by simp), h2, Bool.and_self]
theorem noDictZ : ∀ {ds : List PyData}, (∀ d ∈ ds, PyData.hasDict d = false) → PyData.hasDictAll ds = false
  | [], _ => rfl
  | d :: ds, h => by
    have h2 := noDictZ (ds := ds) fun x hx => h x (List.mem_cons_of_mem _ hx)
    simp only [PyData.hasDictAll, h d (by simp), h2, Bool.or_self]
/-- good to be compared -/
structure CmpZ (n : Nat) (d : PyData) : Prop where
  lay : PyData.canLay0 d = true
  dep : d.depth ≤ n
  nod : d.hasDict = false
theorem CmpZ.mono {n m : Nat} {d : PyData} (h : CmpZ n d) (a : n ≤ m) : CmpZ m d := ⟨h.lay, Nat.le_trans h.dep a, h.nod⟩
theorem CmpZ.list {n : Nat} {ds : List PyData} (h : ∀ d ∈ ds, CmpZ n d) : CmpZ (n + 1) (.list ds) := by
  have e1 := layAllZ fun d hd => (h d hd).lay
  have e2 := depthAllZ fun d hd => (h d hd).dep
  have e3 := noDictZ fun d hd => (h d hd).nod
  exact ⟨by simp only [PyData.canLay0, e1], by simp only [PyData.depth]; omega, by simp only [PyData.hasDict, e3]⟩
theorem CmpZ.tuple {n : Nat} {ds : List PyData} (h : ∀ d ∈ ds, CmpZ n d) : CmpZ (n + 1) (.tuple ds) := by
  have e1 := layAllZ fun d hd => (h d hd).lay
  have e2 := depthAllZ fun d hd => (h d hd).dep
  have e3 := noDictZ fun d hd => (h d hd).nod
  exact ⟨by simp only [PyData.canLay0, e1], by simp only [PyData.depth]; omega, by simp only [PyData.hasDict, e3]⟩
theorem CmpZ.str {x : Str} (h : ∀ c ∈ x.cps.toList, c < 128) : CmpZ 0 (.str x) := ⟨by simp only [PyData.canLay0, strOk_ascii h], by simp only [PyData.depth]; omega, by simp only [PyData.hasDict]⟩
theorem CmpZ.int {i : Int} : CmpZ 0 (.int i) := ⟨by simp only [PyData.canLay0], by simp only [PyData.depth]; omega, by simp only [PyData.hasDict]⟩
theorem CmpZ.none : CmpZ 0 .none := ⟨by simp only [PyData.canLay0], by simp only [PyData.depth]; omega, by simp only [PyData.hasDict]⟩
theorem CmpZ.shaped {n : Nat} {d : PyData} (h : CmpZ n d) (hn : n ≤ 64) : SeqAt.shaped d = true := by
  have := h.dep
  rw [SeqAt.shaped, h.lay, decide_eq_true (by omega)]
  rfl
theorem CmpZ.same {n : Nat} {d : PyData} (h : CmpZ n d) : PyData.eqv d d = true := eqv_same h.nod
end Z

set_option Elab.async false
set_option linter.all false
set_option maxRecDepth 100000
set_option maxHeartbeats 4000000
namespace K68
open PySem PySem.Spec PyProof.Rows L2 Z
def top (i : Nat) : Stmt := PySem.Challenge.pw_frontlines_k68_whole_long_messages.main.body.getD i (.Pass ⟨0, 0, 0, 0⟩)
/-! ### plain -/
def known : Str := "abcdefghijklmnopqrstuvwxyz0123456789.-=>|"
def isInteger (d : PyData) : Bool := isInt d && !isBool d
def ascends : List Nat → Bool
  | a :: b :: r => decide (a < b) && ascends (b :: r)
  | _ => true
def strSigns (x : Str) : Bool := decide (2 ≤ x.length) && decide (x.length ≤ 4) && x.cps.toList.all (fun c => decide (c ∈ known.cps.toList)) && ascends x.cps.toList
def lenOk : PyData → Bool
  | .str x => decide (2 ≤ x.length) && decide (x.length ≤ 4)
  | _ => false
def areSigns : PyData → Bool
  | .str x => strSigns x
  | _ => false
/-- the constants of the text -/
structure Consts (mg : Str → Option Value) : Prop where
  known : ∃ u, mg "KNOWN_SIGNS" = some u ∧ RelV (.str known) u
  least : ∃ u, mg "LEAST_SIGNS" = some u ∧ RelV (.int 2) u
  most : ∃ u, mg "MOST_SIGNS" = some u ∧ RelV (.int 4) u
section
variable {P : Program} {w : World} {K : PySem.W.Frag} {mg : Str → Option Value} {base : Heap}
theorem known_ascii : ∀ c, c ∈ known.cps.toList → c < 128 := by decide +kernel
theorem zip_ascends : ∀ l : List Nat, ((l.zip (l.drop 1)).map fun q => decide (q.1 < q.2)).all id = ascends l
  | [] => rfl
  | [_] => rfl
  | a :: b :: r => by
    have ih := zip_ascends (b :: r)
    simp only [List.drop_succ_cons, List.drop_zero, List.zip_cons_cons, List.map_cons, List.all_cons, id_eq, ascends] at ih ⊢
    rw [← ih]
theorem lt_one {a b : Nat} : decide ((⟨#[a]⟩ : Str).cps.toList < (⟨#[b]⟩ : Str).cps.toList) = decide (a < b) := by
  rw [decide_eq_decide]
  show [a] < [b] ↔ a < b
  simp [List.cons_lt_cons_iff]
/-- one datum in, a bool out, nothing changed -/
def fits : PyData → Prop
  | .str x => x.length ≤ sizeLine
  | _ => True
def sp1 (K : PySem.W.Frag) (f : PyData → Bool) : Sp := fun vs H Q _ => ∃ v l d, vs = [v] ∧ DD K l H v d ∧ fits d ∧ ∀ H', But [] H H' → Q (.bl (f d)) H'
theorem sp1_len {f : PyData → Bool} : ∀ vs H Q E, sp1 K f vs H Q E → vs.length = (["value"] : List Str).length := fun vs H Q E ⟨v, l, d, e, _⟩ => by rw [e]; rfl
theorem sc9 : FnScope ["value"] ["value"] (defScope (top 24)) := ⟨rfl, rfl, rfl, by decide +kernel, rfl, by decide +kernel, by decide +kernel⟩
theorem d_isInteger (B : Blt mg base) (D : At K mg "is_integer" (top 24)) : Def P w K mg base 1 "is_integer" (top 24) ["value"] (sp1 K isInteger) := by
  refine def_of D B sc9 sp1_len fun f cdv A outer s H vs Q E hm C h => ?_
  obtain ⟨v, l, d, rfl, hd, hf, q⟩ := h
  refine b_cons (s_ret (e_and (e_isi B kit_int B.int PyProof.Rows.boot_int (e_name 0 ⟨l, d, hd, isInt d, rfl, ?_⟩))))
  split
  · refine e_one (e_not (e_isi B kit_bool B.bool PyProof.Rows.boot_bool (e_name 0 ⟨l, d, hd, isBool d, rfl, ?_⟩)))
    have := q H But.refl
    simpa [isInteger, *] using this
  · have := q H But.refl
    simpa [isInteger, *] using this
theorem sc10 : FnScope ["value", "sign", "one", "other"] ["value"] (defScope (top 27)) := ⟨rfl, rfl, rfl, by decide +kernel, rfl, by decide +kernel, by decide +kernel⟩
theorem d_areSigns (B : Blt mg base) (D : At K mg "are_signs" (top 27)) (T : Consts mg) : Def P w K mg base 1 "are_signs" (top 27) ["value"] (sp1 K areSigns) := by
  refine def_of D B sc10 sp1_len fun f cdv A outer s H vs Q E hm C h => ?_
  obtain ⟨v, l, d, rfl, hd, hf, q⟩ := h
  obtain ⟨uK, hK, rK⟩ := T.known
  obtain ⟨u2, h2, r2⟩ := T.least
  obtain ⟨u4, h4, r4⟩ := T.most
  have rd : ∀ {H1}, But [] H H1 → DD K l H1 v d := fun b => hd.but (b.mono (by simp))
  refine b_cons (s_ifB (!lenOk d) ?_ (fun e H1 b1 => ?_) (fun e H1 b1 => ?_))
  · refine t_boolop (w_or (t_not (t_val (e_isi B kit_str B.str PyProof.Rows.boot_str (e_name 0 ⟨l, d, hd, isStr d, rfl, ?_⟩)))))
    refine ite_b (fun e => ⟨?_, But.refl⟩) fun e => ?_
    · cases d <;> simp_all [isStr, lenOk]
    · obtain ⟨x, rfl⟩ : ∃ x, d = .str x := by cases d <;> simp [isStr] at e; exact ⟨_, rfl⟩
      cases hd
      refine w_or1 (t_not (t_chain (e_glob (e_len B (e_name 0 ?_)) h2 r2)))
      refine ⟨x.length, ⟨hf, rfl⟩, c_le ⟨_, rfl, ite_b (fun e => e_glob (c_le ⟨_, rfl, ?_, But.refl⟩) h4 r4) fun e => ⟨_, rfl, ?_, But.refl⟩⟩⟩
      · have e := of_decide_eq_true e
        rw [lenOk, show decide (2 ≤ x.length) = true from decide_eq_true (by omega), Bool.true_and, Bool.not_eq_eq_eq_not, Bool.not_not, decide_eq_decide]
        omega
      · have e := of_decide_eq_false e
        rw [lenOk, show decide (2 ≤ x.length) = false from decide_eq_false (by omega)]
        rfl
  · refine b_cons (s_ret (e_bool ?_))
    have := q H1 b1
    have no : areSigns d = false := by cases d <;> simp_all [areSigns, strSigns, lenOk]; omega
    rwa [no] at this
  · obtain ⟨x, rfl⟩ : ∃ x, d = .str x := by cases d <;> simp [lenOk] at e; exact ⟨_, rfl⟩
    cases hd
    have hx : x.length ≤ sizeLine := hf
    have hsz : x.cps.size = x.length := rfl
    refine b_nil (b_cons (s_ifB (!(x.cps.toList.all fun c => decide (c ∈ known.cps.toList))) ?_ (fun e2 H2 b2 => ?_) (fun e2 H2 b2 => ?_)))
    · refine t_not (t_val (e_all C (e_lcM [("sign", 1)] C (i_str (e_name 0 ?_)))))
      refine ⟨x, rfl, _, _, _, (x.cps.toList.map fun c => V.bl (decide (c ∈ known.cps.toList))), walk_str, by simp, hx, fun _ _ => trivial, fun i y H2 H' hi b2 hy => ?_, fun Da H' b2 hn hl => ⟨Da, x.cps.toList.map fun c => decide (c ∈ known.cps.toList), rfl, .inl (.inl (by rw [hl, List.map_map]; rfl)), _, rfl, ?_, b2⟩⟩
      · obtain ⟨rfl, c, hc, rfl⟩ := hy
        refine ⟨But.refl, mt_name (i := 1) C.nd fun s H0 Ca cl fp => e_cmp (e_name 1 (e_glob (c_inSign ⟨?_, But.refl⟩) hK rK))⟩
        simp [← Array.getElem?_toList] at hc
        simp [hc]
      · simp [Function.comp_def]
    · refine b_cons (s_ret (e_bool ?_))
      have := q H2 (b1.trans b2)
      have no : areSigns (.str x) = false := by simp only [areSigns, strSigns]; simp only [Bool.not_eq_true'] at e2; rw [e2]; simp
      rwa [no] at this
    · have hall : (x.cps.toList.all fun c => decide (c ∈ known.cps.toList)) = true := by simpa using e2
      have asc : ∀ z : Str, (∀ c ∈ z.cps.toList, c ∈ x.cps.toList) → z.cps.all (· < 128) = true := fun z hz => by
        rw [Array.all_eq_true']
        intro c hc
        have := List.all_eq_true.mp hall c (hz c (by simpa using hc))
        simpa using known_ascii c (by simpa using this)
      refine b_nil (b_cons (s_ret (e_all C (e_lcM [("one", 2), ("other", 3)] C (i_zipS B (e_name 0 ?_))))))
      refine e_slice sl_str (e_name 0 ?_)
      refine p_some (e_int ⟨1, rfl, p_none ⟨x, rfl, hx, ?_⟩⟩)
      have hcut : (cutS x (some 1) none).cps.toList = x.cps.toList.drop 1 := by
        show (((x.cps.toList.drop (HT.sIx x.length 0 (some ((1 : Nat) : Int)))).take (HT.sIx x.length x.length none - HT.sIx x.length 0 (some ((1 : Nat) : Int)))).toArray).toList = _
        have hl : x.cps.toList.length = x.length := by simp [hsz]
        rw [HT.sIx_nat, HT.sIx_none, List.toList_toArray]
        by_cases h0 : 1 ≤ x.length
        · rw [Nat.min_eq_left h0, List.take_of_length_le (by rw [List.length_drop]; omega)]
        · have h1 : x.length = 0 := by omega
          have h2 : x.cps.toList = [] := List.eq_nil_of_length_eq_zero (by omega)
          simp [h2]
      refine ⟨x, _, rfl, rfl, asc x (fun _ h => h), asc _ (fun c hc => by rw [hcut] at hc; exact List.mem_of_mem_drop hc), _, _, _, ((x.cps.toList.zip (x.cps.toList.drop 1)).map fun q => V.bl (decide (q.1 < q.2))), walk_zipS rfl, ?_, ?_, fun _ _ => trivial, fun i y H3 H' hi b3 hy => ?_, fun Da H' b3 hn hl => ?_⟩
      · rw [← Array.length_toList (xs := (cutS x (some 1) none).cps), hcut]
        simp
      · omega
      · obtain ⟨T, c, c', rfl, hT, rfl, hc, hc'⟩ := hy
        refine ⟨But.new hT, mt_pair (i := 2) (j := 3) rfl C.nd upd_same fun s H0 Ca cl fp => e_cmp (e_name 2 (e_name 3 (c_ltS ⟨?_, But.refl⟩)))⟩
        rw [← Array.getElem?_toList] at hc hc'
        rw [hcut] at hc'
        rw [List.getElem?_map, (List.getElem?_zip_eq_some (z := (c, c'))).mpr ⟨hc, hc'⟩, lt_one]
        rfl
      · refine ⟨Da, (x.cps.toList.zip (x.cps.toList.drop 1)).map fun q => decide (q.1 < q.2), rfl, .inl (.inl (by rw [hl, List.map_map]; rfl)), ?_⟩
        rw [zip_ascends]
        have := q H' (b1.trans (b2.trans b3))
        have e3 : areSigns (.str x) = ascends x.cps.toList := by
          simp only [areSigns, strSigns, hall]
          have : lenOk (.str x) = true := by simpa using e
          simp only [lenOk] at this
          rw [this]
          rfl
        rwa [e3] at this
/-! ### the refusals -/
/-- one datum is wanted: None, or the error of the class at C with it -/
def spWant (K : PySem.W.Frag) (f : PyData → Bool) (C : Addr) : Sp := fun vs H Q E => ∃ v l d, vs = [v] ∧ DD K l H v d ∧ fits d ∧ (f d = true → ∀ H', But [] H H' → Q .non H') ∧
  (f d = false → ∀ dd H', But [] H H' → H' dd = some (.xd [("value", v)]) → E (.ref C) (some dd) H')
theorem DD.fit {l : List Addr} {H : Hp} {v : V} {d : PyData} (h : DD K l H v d) (H' : Hp) (b : But [] H H') : DD K l H' v d := h.but (b.mono (by simp))
theorem sc11 : FnScope ["value"] ["value"] (defScope (top 28)) := ⟨rfl, rfl, rfl, by decide +kernel, rfl, by decide +kernel, by decide +kernel⟩
theorem d_wantSigns {CS : Addr} (B : Blt mg base) (D : At K mg "want_signs" (top 28)) (D1 : Def P w K mg base 1 "are_signs" (top 27) ["value"] (sp1 K areSigns)) (E1 : ErrOk P w K mg base "InvalidSigns" "value" CS) :
    Def P w K mg base 3 "want_signs" (top 28) ["value"] (spWant K areSigns CS) := by
  refine def_of D B sc11 (fun vs H Q E ⟨v, l, d, e, _⟩ => by rw [e]; rfl) fun f cdv A outer s H vs Q E hm C h => ?_
  obtain ⟨v, l, d, rfl, hd, hf, q1, q2⟩ := h
  refine b_cons (s_ifB (!areSigns d) ?_ (fun e H1 b1 => ?_) (fun e H1 b1 => ?_))
  · refine t_not (t_val (e_call (C.mono (by decide)) (D1.mono (Nat.le_refl _)) (a_cons (e_name 0 (a_nil ?_))) rfl (fun _ _ _ _ _ _ us hl => match us, hl with | [_], _ => rfl)))
    exact ⟨v, l, d, rfl, hd, hf, fun H' b => ⟨_, rfl, rfl, b⟩⟩
  · refine b_cons (s_raise1 C E1 (by decide) (e_name 0 fun dd H' b2 hn hx => ?_))
    exact q2 (by simpa using e) dd H' (b1.trans b2) hx
  · exact b_nil (b_nil (q1 (by simpa using e) H1 b1))
/-! ### lines -/
def isLine (g : Str) : PyData → Bool
  | .str x => x.cps.toList.all fun c => decide (c ∈ g.cps.toList)
  | _ => false
def spLine (K : PySem.W.Frag) : Sp := fun vs H Q _ => ∃ g v l d, vs = [.str g, v] ∧ DD K l H v d ∧ fits d ∧ ∀ H', But [] H H' → Q (.bl (isLine g d)) H'
theorem sc12 : FnScope ["signs", "value", "sign"] ["signs", "value"] (defScope (top 29)) := ⟨rfl, rfl, rfl, by decide +kernel, rfl, by decide +kernel, by decide +kernel⟩
theorem d_isLine (B : Blt mg base) (D : At K mg "is_line" (top 29)) : Def P w K mg base 1 "is_line" (top 29) ["signs", "value"] (spLine K) := by
  refine def_of D B sc12 (fun vs H Q E ⟨g, v, l, d, e, _⟩ => by rw [e]; rfl) fun f cdv A outer s H vs Q E hm C h => ?_
  obtain ⟨g, v, l, d, rfl, hd, hf, q⟩ := h
  refine b_cons (s_ret (e_and (e_isi B kit_str B.str PyProof.Rows.boot_str (e_name 1 ⟨l, d, hd, isStr d, rfl, ite_b (fun e => ?_) fun e => ?_⟩))))
  · obtain ⟨x, rfl⟩ : ∃ x, d = .str x := by cases d <;> simp [isStr] at e; exact ⟨_, rfl⟩
    cases hd
    refine e_one (e_all C (e_lcM [("sign", 2)] C (i_str (e_name 1 ?_))))
    refine ⟨x, rfl, _, _, _, (x.cps.toList.map fun c => V.bl (decide (c ∈ g.cps.toList))), walk_str, by simp, hf, fun _ _ => trivial, fun i y H2 H' hi b2 hy => ?_, fun Da H' b2 hn hl => ⟨Da, x.cps.toList.map fun c => decide (c ∈ g.cps.toList), rfl, .inl (.inl (by rw [hl, List.map_map]; rfl)), ?_⟩⟩
    · obtain ⟨rfl, c, hc, rfl⟩ := hy
      refine ⟨But.refl, mt_name (i := 2) C.nd fun s H0 Ca cl fp => e_cmp (e_name 2 (e_name 0 (c_inSign ⟨?_, But.refl⟩)))⟩
      simp [← Array.getElem?_toList] at hc
      simp [hc]
    · have := q H' b2
      simpa [isLine, Function.comp_def] using this
  · have := q H But.refl
    have no : isLine g d = false := by cases d <;> simp_all [isLine, isStr]
    rwa [no] at this
end
end K68

set_option Elab.async false
set_option linter.all false
set_option maxRecDepth 100000
set_option maxHeartbeats 4000000
namespace K68
open PySem PySem.Spec PyProof.Rows L2 Z
/-! ### the reader's parts -/
structure Consts2 (mg : Str → Option Value) : Prop where
  levels : ∃ u, mg "MOST_LEVELS" = some u ∧ RelV (.int 3) u
  mark : ∃ u, mg "MOST_MARK" = some u ∧ RelV (.int 12) u
  tail : ∃ u, mg "MOST_TAIL" = some u ∧ RelV (.int 3) u
def shortLine (m : Nat) (g : Str) : PyData → Bool
  | .str x => isLine g (.str x) && decide (1 ≤ x.length) && decide (x.length ≤ m)
  | _ => false
section
variable {P : Program} {w : World} {K : PySem.W.Frag} {mg : Str → Option Value} {base : Heap}
def spShort (K : PySem.W.Frag) (m : Nat) : Sp := fun vs H Q _ => ∃ g v l d, vs = [.str g, v] ∧ DD K l H v d ∧ fits d ∧ ∀ H', But [] H H' → Q (.bl (shortLine m g d)) H'
theorem scMl : FnScope ["signs", "value"] ["signs", "value"] (defScope (top 73)) := ⟨rfl, rfl, rfl, by decide +kernel, rfl, by decide +kernel, by decide +kernel⟩
theorem d_isMarkLine (B : Blt mg base) (D : At K mg "is_mark_line" (top 73)) (T : Consts2 mg) (D1 : Def P w K mg base 1 "is_line" (top 29) ["signs", "value"] (spLine K)) : Def P w K mg base 2 "is_mark_line" (top 73) ["signs", "value"] (spShort K 12) := by
  refine def_of D B scMl (fun vs H Q E ⟨g, v, l, d, e, _⟩ => by rw [e]; rfl) fun f cdv A outer s H vs Q E hm C h => ?_
  obtain ⟨g, v, l, d, rfl, hd, hf, q⟩ := h
  obtain ⟨u, hu, ru⟩ := T.mark
  refine b_cons (s_ret (e_and (e_call C D1 (a_cons (e_name 0 (a_cons (e_name 1 (a_nil ?_))))) rfl (fun _ _ _ _ _ _ us hl => match us, hl with | [_, _], _ => rfl))))
  refine ⟨g, v, l, d, rfl, hd, hf, fun H' b => ⟨_, rfl, ite_b (fun e => ?_) fun e => ?_⟩⟩
  · obtain ⟨x, rfl⟩ : ∃ x, d = .str x := by cases d <;> simp [isLine] at e; exact ⟨_, rfl⟩
    cases hd
    refine e_one (e_chain (e_int (e_len B (e_name 1 (v := .str x) ⟨x.length, ⟨hf, rfl⟩, c_le ⟨_, rfl, ite_b (fun e1 => e_glob (c_le ?_) hu ru) fun e1 => ?_⟩⟩))))
    · have := q H' b
      have e1 := of_decide_eq_true e1
      have e3 : shortLine 12 g (.str x) = decide ((x.length : Int) ≤ 12) := by
        simp only [shortLine, e, Bool.true_and]
        rw [show decide (1 ≤ x.length) = true from decide_eq_true (by omega), Bool.true_and, decide_eq_decide]
        omega
      rwa [e3] at this
    · have := q H' b
      have e1 := of_decide_eq_false e1
      have e3 : shortLine 12 g (.str x) = false := by
        simp only [shortLine, e, Bool.true_and]
        rw [show decide (1 ≤ x.length) = false from decide_eq_false (by omega), Bool.false_and]
      rwa [e3] at this
  · have := q H' b
    have e3 : shortLine 12 g d = false := by cases d <;> simp_all [shortLine]
    rwa [e3] at this
theorem scTl : FnScope ["signs", "value"] ["signs", "value"] (defScope (top 74)) := ⟨rfl, rfl, rfl, by decide +kernel, rfl, by decide +kernel, by decide +kernel⟩
theorem d_isTail (B : Blt mg base) (D : At K mg "is_tail" (top 74)) (T : Consts2 mg) (D1 : Def P w K mg base 1 "is_line" (top 29) ["signs", "value"] (spLine K)) : Def P w K mg base 2 "is_tail" (top 74) ["signs", "value"] (spShort K 3) := by
  refine def_of D B scTl (fun vs H Q E ⟨g, v, l, d, e, _⟩ => by rw [e]; rfl) fun f cdv A outer s H vs Q E hm C h => ?_
  obtain ⟨g, v, l, d, rfl, hd, hf, q⟩ := h
  obtain ⟨u, hu, ru⟩ := T.tail
  refine b_cons (s_ret (e_and (e_call C D1 (a_cons (e_name 0 (a_cons (e_name 1 (a_nil ?_))))) rfl (fun _ _ _ _ _ _ us hl => match us, hl with | [_, _], _ => rfl))))
  refine ⟨g, v, l, d, rfl, hd, hf, fun H' b => ⟨_, rfl, ite_b (fun e => ?_) fun e => ?_⟩⟩
  · obtain ⟨x, rfl⟩ : ∃ x, d = .str x := by cases d <;> simp [isLine] at e; exact ⟨_, rfl⟩
    cases hd
    refine e_one (e_chain (e_int (e_len B (e_name 1 (v := .str x) ⟨x.length, ⟨hf, rfl⟩, c_le ⟨_, rfl, ite_b (fun e1 => e_glob (c_le ?_) hu ru) fun e1 => ?_⟩⟩))))
    · have := q H' b
      have e1 := of_decide_eq_true e1
      have e3 : shortLine 3 g (.str x) = decide ((x.length : Int) ≤ 3) := by
        simp only [shortLine, e, Bool.true_and]
        rw [show decide (1 ≤ x.length) = true from decide_eq_true (by omega), Bool.true_and, decide_eq_decide]
        omega
      rwa [e3] at this
    · have := q H' b
      have e1 := of_decide_eq_false e1
      have e3 : shortLine 3 g (.str x) = false := by
        simp only [shortLine, e, Bool.true_and]
        rw [show decide (1 ≤ x.length) = false from decide_eq_false (by omega), Bool.false_and]
      rwa [e3] at this
  · have := q H' b
    have e3 : shortLine 3 g d = false := by cases d <;> simp_all [shortLine]
    rwa [e3] at this
/-- is it a list or a tuple -/
def isSeq (d : PyData) : Bool := Z.isList d || Z.isTuple d
theorem scIl : FnScope ["value"] ["value"] (defScope (top 26)) := ⟨rfl, rfl, rfl, by decide +kernel, rfl, by decide +kernel, by decide +kernel⟩
theorem d_isList (B : Blt mg base) (D : At K mg "is_list" (top 26)) : Def P w K mg base 1 "is_list" (top 26) ["value"] (sp1 K isSeq) := by
  refine def_of D B scIl sp1_len fun f cdv A outer s H vs Q E hm C h => ?_
  obtain ⟨v, l, d, rfl, hd, hf, q⟩ := h
  refine b_cons (s_ret (e_isi2 B kit_list kit_tuple B.list PyProof.Rows.boot_list B.tuple PyProof.Rows.boot_tuple (e_name 0 ⟨l, d, hd, fun H' b => ?_⟩)))
  exact q H' b
/-- want_signs, where they are signs -/
def spFine (K : PySem.W.Frag) (f : PyData → Bool) : Sp := fun vs H Q _ => ∃ v l d, vs = [v] ∧ DD K l H v d ∧ fits d ∧ f d = true ∧ ∀ H', But [] H H' → Q .non H'
theorem scWs : FnScope ["value"] ["value"] (defScope (top 28)) := ⟨rfl, rfl, rfl, by decide +kernel, rfl, by decide +kernel, by decide +kernel⟩
theorem d_fineSigns (B : Blt mg base) (D : At K mg "want_signs" (top 28)) (D1 : Def P w K mg base 1 "are_signs" (top 27) ["value"] (sp1 K areSigns)) :
    Def P w K mg base 2 "want_signs" (top 28) ["value"] (spFine K areSigns) := by
  refine def_of D B scWs (fun vs H Q E ⟨v, l, d, e, _⟩ => by rw [e]; rfl) fun f cdv A outer s H vs Q E hm C h => ?_
  obtain ⟨v, l, d, rfl, hd, hf, e1, q⟩ := h
  refine b_cons (s_ifB false ?_ (fun e => by cases e) (fun _ H1 b1 => b_nil (b_nil (q H1 b1))))
  refine t_not (t_val (e_call C D1 (a_cons (e_name 0 (a_nil ?_))) rfl (fun _ _ _ _ _ _ us hl => match us, hl with | [_], _ => rfl)))
  exact ⟨v, l, d, rfl, hd, hf, fun H' b => ⟨_, rfl, by rw [e1]; rfl, b⟩⟩
theorem flat_strs (ys : List Str) : (ys.map V.str).all flatV = true := List.all_eq_true.mpr fun x hx => by
  obtain ⟨y, _, rfl⟩ := List.mem_map.mp hx
  rfl
/-- want_marks, where they are marks, in a list -/
def marksOk (g : Str) (ms : List Str) : Prop := 1 ≤ ms.length ∧ ms.length ≤ 3 ∧ (∀ m ∈ ms, shortLine 12 g (.str m) = true) ∧ ms.Nodup
def spFineMarks (K : PySem.W.Frag) : Sp := fun vs H Q _ => ∃ g q ms, vs = [.str g, .ref q] ∧ SqL K H q (ms.map V.str) ∧ (∃ o, H q = some o) ∧ marksOk g ms ∧ ∀ H', But [] H H' → Q .non H'
theorem scWm : FnScope ["signs", "value", "position", "mark"] ["signs", "value"] (defScope (top 75)) := ⟨rfl, rfl, rfl, by decide +kernel, rfl, by decide +kernel, by decide +kernel⟩
theorem d_fineMarks (B : Blt mg base) (D : At K mg "want_marks" (top 75)) (T : Consts2 mg) (D0 : Def P w K mg base 1 "is_list" (top 26) ["value"] (sp1 K isSeq)) (D1 : Def P w K mg base 2 "is_mark_line" (top 73) ["signs", "value"] (spShort K 12)) :
    Def P w K mg base 3 "want_marks" (top 75) ["signs", "value"] (spFineMarks K) := by
  refine def_of D B scWm (fun vs H Q E ⟨_, _, _, e, _⟩ => by rw [e]; rfl) fun f cdv A outer s H vs Q E hm C h => ?_
  obtain ⟨g, q, ms, rfl, hq, ⟨o, ho⟩, ⟨n1, n3, hms, hnd⟩, hQ⟩ := h
  obtain ⟨u, hu, ru⟩ := T.levels
  refine b_cons (s_ifB false ?_ (fun e => by cases e) (fun _ H1 b1 => b_nil (b_cons (s_for C (i_enum B (e_name 1 ?_))))))
  · refine t_boolop (w_or (t_not (t_val (e_call (C.mono (by decide)) D0 (a_cons (e_name 1 (a_nil ?_))) rfl (fun _ _ _ _ _ _ us hl => match us, hl with | [_], _ => rfl)))))
    refine ⟨_, [], .list (ms.map PyData.str), rfl, .lst hq (by simp) (DDs.strs ms), trivial, fun H' b => ⟨true, rfl, ite_b (fun e => by cases e) fun _ => ?_⟩⟩
    refine w_or1 (t_not (t_chain (e_int (e_len B (e_name 1 (v := .ref q) ⟨ms.length, .inl ⟨_, b.sql (by simp) hq, by simp⟩, c_le ⟨_, rfl, ite_b (fun e => e_glob (c_le ⟨_, rfl, ?_, b⟩) hu ru) fun e => ?_⟩⟩)))))
    · rw [decide_eq_true (by omega)]
      rfl
    · have := of_decide_eq_false e
      omega
  · have hq1 : ∀ {H2}, But [] H H2 → SqL K H2 q (ms.map V.str) := fun b => b.sql (by simp) hq
    refine ⟨q, _, rfl, hq1 b1, ms.length, _, _, (by have := walk_enum (K := K) (a := q) (xs := ms.map V.str); rwa [List.length_map] at this), fun i σ H' => (∃ v1 v2, σ = [some (.str g), some (.ref q), v1, v2]) ∧ But [] H H', ⟨⟨none, none, rfl⟩, b1⟩, fun i σ H' _ h => hq1 h.2, ?_, ?_⟩
    · rintro i x σ H2 H3 hi ⟨⟨v1, v2, rfl⟩, b2⟩ ⟨t, x1, y1, rfl, ht, rfl, e1, e2⟩
      cases e1
      replace e2 : (ms.map V.str)[i]? = some y1 := e2
      rw [List.getElem?_map, Option.map_eq_some_iff] at e2
      obtain ⟨m, hmi, rfl⟩ := e2
      have hmem := List.mem_of_getElem? hmi
      have hm12 := hms m hmem
      have hlen : m.length ≤ 12 := by simp only [shortLine, Bool.and_eq_true, decide_eq_true_eq] at hm12; exact hm12.2
      refine g_tup (gs_cons (g_name (i := 2) (gs_cons (g_name (i := 3) (gs_nil ?_) C.nd)) C.nd)) rfl (.inl (.inl upd_same))
      have b3 : But [] H (upd H2 t (.tup [.int (i : Nat), .str m])) := b2.trans (But.new ht)
      refine b_cons (s_ifB false ?_ (fun e => by cases e) (fun _ H4 b4 => b_nil (b_nil ⟨⟨_, _, rfl⟩, b3.trans b4⟩)))
      refine t_boolop (w_or (t_not (t_val (e_call (C.mono (by decide)) D1 (a_cons (e_name 0 (a_cons (e_name 3 (a_nil ?_))))) rfl (fun _ _ _ _ _ _ us hl => match us, hl with | [_, _], _ => rfl)))))
      refine ⟨g, _, [], .str m, rfl, .str m, by show m.length ≤ _; rw [sizeLine_eq]; omega, fun H4 b4 => ⟨_, rfl, ite_b (fun e => by rw [hm12] at e; cases e) fun _ => ?_⟩⟩
      refine w_or1 (t_cmp (e_name 3 (v := .str m) (e_slice sl_list (e_name 1 (v := .ref q) (p_none (p_some (e_name 2 (v := .int (i : Nat)) ⟨_, rfl, q, _, rfl, hq1 (b3.trans b4), fun r hr => ?_⟩)))))))
      have hcut : cutV (ms.map V.str) none (some ((i : Nat) : Int)) = (ms.take i).map V.str := by
        unfold cutV
        rw [HT.sIx_nat, HT.sIx_none, List.length_map, List.drop_zero, Nat.sub_zero, List.map_take, Nat.min_eq_left (by omega)]
      rw [hcut]
      refine c_inL (.inl (.inl (.inl upd_same))) rfl (flat_strs _) ⟨_, rfl, ?_, b4.trans (But.new hr)⟩
      rw [Bool.eq_false_iff]
      intro e
      simp only [inV, List.any_map, List.any_eq_true, Function.comp, eqV, beq_iff_eq] at e
      obtain ⟨y, hy, rfl⟩ := e
      obtain ⟨j, hj, ej⟩ := List.getElem_of_mem hy
      rw [List.getElem_take] at ej
      rw [List.length_take] at hj
      have hi' : i < ms.length := hi
      have e3 : ms[i]? = some ms[i] := List.getElem?_eq_getElem hi'
      rw [hmi] at e3
      have e4 : ms[j] = ms[i] := ej.trans (Option.some.inj e3)
      exact List.pairwise_iff_getElem.mp hnd j i (by omega) hi' (by omega) e4
    · rintro σ H2 ⟨_, b2⟩
      exact b_nil (hQ H2 b2)
end
end K68

set_option Elab.async false
set_option linter.all false
set_option maxRecDepth 100000
set_option maxHeartbeats 4000000
namespace K68
open PySem PySem.Spec PyProof.Rows L2 Z
/-! ### cares -/
def wordsOf (nm : Str) : List Str := if nm = "order" then ["inner", "outer"] else ["refuse", "close"]
def wordOk (g nm x : Str) : Prop := if nm = "sight" then x = "whole" ∨ x = "start" ∨ ∃ c ∈ g.cps.toList, x = ⟨#[c]⟩ else x ∈ wordsOf nm
structure Words (K : PySem.W.Frag) (w : World) (mg : Str → Option Value) : Prop where
  ex : ∃ d, mg "WORDS" = some (.ref d) ∧ ∀ nm : Str, nm = "order" ∨ nm = "further" ∨ nm = "finish" → ∃ t, KDct K w d nm (.ref t) ∧ ∀ H, SqT K H t ((wordsOf nm).map V.str)
section
variable {P : Program} {w : World} {K : PySem.W.Frag} {mg : Str → Option Value} {base : Heap}
def isName (nm : Str) : Prop := nm = "sight" ∨ nm = "order" ∨ nm = "further" ∨ nm = "finish"
def spWord : Sp := fun vs H Q _ => ∃ g nm x, vs = [.str g, .str nm, .str x] ∧ isName nm ∧ wordOk g nm x ∧ ∀ H', But [] H H' → Q (.bl true) H'
theorem scWd : FnScope ["signs", "name", "value"] ["signs", "name", "value"] (defScope (top 76)) := ⟨rfl, rfl, rfl, by decide +kernel, rfl, by decide +kernel, by decide +kernel⟩
theorem d_isWord (B : Blt mg base) (D : At K mg "is_word" (top 76)) (T : Words K w mg) : Def P w K mg base 1 "is_word" (top 76) ["signs", "name", "value"] spWord := by
  refine def_of D B scWd (fun vs H Q E ⟨_, _, _, e, _⟩ => by rw [e]; rfl) fun f cdv A outer s H vs Q E hm C h => ?_
  obtain ⟨g, nm, x, rfl, hn, hw, q⟩ := h
  obtain ⟨d, hd, hT⟩ := T.ex
  refine b_cons (s_ifB false ?_ (fun e => by cases e) (fun _ H1 b1 => b_nil ?_))
  · exact t_not (t_val (e_isi B kit_str B.str PyProof.Rows.boot_str (e_name 2 (v := .str x) ⟨[], .str x, .str x, true, rfl, rfl, But.refl⟩)))
  refine b_cons (s_ifB (decide (nm = "sight")) ?_ (fun e H2 b2 => ?_) (fun e H2 b2 => ?_))
  · refine t_cmp (e_name 1 (v := .str nm) (e_str (c_eq rfl ⟨_, rfl, ?_, But.refl⟩)))
    rw [decide_eq_decide, V.str.injEq]
  · have e := of_decide_eq_true e
    subst e
    rw [wordOk, if_pos rfl] at hw
    have two : 2 ≤ sizeLine := by rw [sizeLine_eq]; exact (by decide : 2 ≤ 16777216)
    refine b_cons (s_ret (e_or (e_cmp (e_name 2 (v := .str x) (e_tup (a_cons (e_str (a_cons (e_str (a_nil ⟨two, fun t ht => ?_⟩))))))))))
    refine c_inL (.inr (.inl (.inl upd_same))) rfl rfl ⟨_, rfl, ite_b (fun e => q _ (b1.trans (b2.trans (But.new ht)))) fun e => ?_⟩
    have hin : ∃ c ∈ g.cps.toList, x = ⟨#[c]⟩ := by
      rcases hw with h | h | h
      · subst h; cases e
      · subst h; cases e
      · exact h
    obtain ⟨c, hc, rfl⟩ := hin
    refine e_one (e_and (e_cmp (e_len B (e_name 2 (v := .str ⟨#[c]⟩) ⟨1, ⟨by rw [sizeLine_eq]; exact (by decide : 1 ≤ 16777216), rfl⟩, e_int (c_eq rfl ⟨true, rfl, ite_b (fun _ => ?_) fun e => by cases e⟩)⟩))))
    refine e_one (e_cmp (e_name 2 (v := .str ⟨#[c]⟩) (e_name 0 (v := .str g) (c_inSign ?_))))
    rw [decide_eq_true hc]
    exact q _ (b1.trans (b2.trans (But.new ht)))
  · have e := of_decide_eq_false e
    have hn' : nm = "order" ∨ nm = "further" ∨ nm = "finish" := hn.resolve_left e
    rw [wordOk, if_neg e] at hw
    obtain ⟨t, kd, st⟩ := hT nm hn'
    refine b_nil (b_cons (s_ret (e_cmp (e_name 2 (v := .str x) (e_ix (e_glob (e_name 1 (v := .str nm) (iW_of ix_kdict ⟨d, nm, .ref t, rfl, rfl, kd, ?_⟩)) hd rfl))))))
    refine c_inL (.inr (st H2)) rfl (flat_strs _) ?_
    have : inV (.str x) ((wordsOf nm).map V.str) = true := by
      simp only [inV, List.any_map, List.any_eq_true, Function.comp, eqV, beq_iff_eq]
      exact ⟨x, hw, rfl⟩
    rw [this]
    exact q _ (b1.trans b2)
def spCares : Sp := fun vs H Q _ => ∃ (g : Str) (d : Addr) (kvs : List (Str × Str)), vs = [.str g, .ref d] ∧ H d = some (.dK (kvs.map fun q : Str × Str => (.inr q.1, .str q.2))) ∧ (∀ q ∈ kvs, isName q.1 ∧ wordOk g q.1 q.2) ∧ ∀ H', But [] H H' → Q .non H'
theorem scWc : FnScope ["signs", "cares", "name", "value"] ["signs", "cares"] (defScope (top 77)) := ⟨rfl, rfl, rfl, by decide +kernel, rfl, by decide +kernel, by decide +kernel⟩
theorem d_wantCares (B : Blt mg base) (D : At K mg "want_cares" (top 77)) (D1 : Def P w K mg base 1 "is_word" (top 76) ["signs", "name", "value"] spWord) : Def P w K mg base 2 "want_cares" (top 77) ["signs", "cares"] spCares := by
  refine def_of D B scWc (fun vs H Q E ⟨_, _, _, e, _⟩ => by rw [e]; rfl) fun f cdv A outer s H vs Q E hm C h => ?_
  obtain ⟨g, d, kvs, rfl, hd, hk, q⟩ := h
  refine b_cons (s_lock hd trivial fun od => s_for C (i_items (e_name 1 (v := .ref d) ⟨d, od, _, rfl, upd_same, ?_⟩)))
  refine ⟨_, _, _, walk_items, fun i σ H' => (∃ v1 v2, σ = [some (.str g), some (.ref d), v1, v2]) ∧ But [] (upd H d (.frz od (.dK (kvs.map fun q : Str × Str => (.inr q.1, .str q.2))))) H', ⟨⟨none, none, rfl⟩, But.refl⟩, fun i σ H' _ h => h.2 _ _ (by simp) upd_same, ?_, ?_⟩
  · rintro i x σ H2 H3 hi ⟨⟨v1, v2, rfl⟩, b2⟩ ⟨t, x1, y1, rfl, ht, rfl, e1, e2⟩
    replace e1 : ((kvs.map fun q : Str × Str => ((.inr q.1 : Key), V.str q.2))[i]?).map (fun kv => kV kv.1) = some x1 := e1
    replace e2 : ((kvs.map fun q : Str × Str => ((.inr q.1 : Key), V.str q.2))[i]?).map Prod.snd = some y1 := e2
    have hi' : i < kvs.length := by simpa using hi
    rw [List.getElem?_map, List.getElem?_eq_getElem hi'] at e1 e2
    cases e1
    cases e2
    obtain ⟨hn, hw⟩ := hk kvs[i] (List.getElem_mem hi')
    refine g_tup (gs_cons (g_name (i := 2) (gs_cons (g_name (i := 3) (gs_nil ?_) C.nd)) C.nd)) rfl (.inl (.inl upd_same))
    refine b_cons (s_ifB false ?_ (fun e => by cases e) (fun _ H4 b4 => b_nil (b_nil ⟨⟨_, _, rfl⟩, b2.trans ((But.new ht).trans b4)⟩)))
    refine t_not (t_val (e_call C D1 (a_cons (e_name 0 (a_cons (e_name 2 (a_cons (e_name 3 (a_nil ?_))))))) rfl (fun _ _ _ _ _ _ us hl => match us, hl with | [_, _, _], _ => rfl)))
    exact ⟨g, _, _, rfl, hn, hw, fun H' b => ⟨true, rfl, rfl, b⟩⟩
  · rintro σ H2 ⟨_, b2⟩
    exact ⟨b2 _ _ (by simp) upd_same, b_nil (q _ (but_unlock hd b2))⟩
end
end K68

set_option Elab.async false
set_option linter.all false
set_option maxRecDepth 100000
set_option maxHeartbeats 4000000
namespace K68
open PySem PySem.Spec PyProof.Rows L2 Z
/-! ### the reader -/
/-- what a reader holds -/
structure RData where
  g : Str
  ms : List Str
  t : Str
  si : Str
  od : Str
  fu : Str
  fi : Str
structure RData.Ok (R : RData) : Prop where
  g : strSigns R.g = true
  ms : marksOk R.g R.ms
  t : shortLine 3 R.g (.str R.t) = true
  si : wordOk R.g "sight" R.si
  od : wordOk R.g "order" R.od
  fu : wordOk R.g "further" R.fu
  fi : wordOk R.g "finish" R.fi
def RData.cares (R : RData) : List (Str × Str) := [("sight", R.si), ("order", R.od), ("further", R.fu), ("finish", R.fi)]
def RData.kvs (R : RData) : List (Key × V) := R.cares.map fun q => (.inr q.1, .str q.2)
def RData.fields (R : RData) (ml cd : Addr) : List (Str × V) := [("own_signs", .str R.g), ("own_marks", .ref ml), ("own_tail", .str R.t), ("own_cares", .ref cd)]
/-- a reader at r -/
structure IsReader (CR : Addr) (R : RData) (H : Hp) (r : Addr) : Prop where
  ex : ∃ dx ml cd, H r = some (.ins CR dx (R.fields ml cd)) ∧ H ml = some (.lst (R.ms.map V.str)) ∧ H cd = some (.dK R.kvs)
theorem IsReader.but {CR : Addr} {R : RData} {l : List Addr} {H H' : Hp} {r : Addr} (h : IsReader CR R H r) (b : But l H H') (hl : ∀ q ∈ l, ∃ xs, H q = some (.lst xs) ∧ xs ≠ R.ms.map V.str) : IsReader CR R H' r := by
  obtain ⟨dx, ml, cd, h1, h2, h3⟩ := h.ex
  have n : ∀ {q o}, H q = some o → (∀ xs, o ≠ .lst xs) → q ∉ l := fun {q o} e no hm => by
    obtain ⟨xs, e2, _⟩ := hl q hm
    rw [e] at e2
    cases e2
    exact no _ rfl
  refine ⟨dx, ml, cd, b _ _ (n h1 fun xs z => by cases z) h1, b _ _ (fun hm => ?_) h2, b _ _ (n h3 fun xs z => by cases z) h3⟩
  obtain ⟨xs, e2, ne⟩ := hl ml hm
  rw [h2] at e2
  cases e2
  exact ne rfl
structure ClsR (K : PySem.W.Frag) (CR : Addr) : Prop where
  c : Cls K CR
  n1 : NoAttr K CR "own_signs"
  n2 : NoAttr K CR "own_marks"
  n3 : NoAttr K CR "own_tail"
  n4 : NoAttr K CR "own_cares"
section
variable {P : Program} {w : World} {K : PySem.W.Frag} {mg : Str → Option Value} {base : Heap}
def rPs : List Str := ["self", "signs", "marks", "tail", "sight", "order", "further", "finish"]
def spInit (K : PySem.W.Frag) (CR : Addr) : Sp := fun vs H Q _ => ∃ (r dx q : Addr) (R : RData), vs = [.ref r, .str R.g, .ref q, .str R.t, .str R.si, .str R.od, .str R.fu, .str R.fi] ∧ R.Ok ∧ H r = some (.ins CR dx []) ∧ H q = some (.lst (R.ms.map V.str)) ∧
  ∀ H', But [r] H H' → IsReader CR R H' r → Q .non H'
theorem scIn : FnScope ["self", "signs", "marks", "tail", "sight", "order", "further", "finish", "cares"] rPs (defScope (clsAt (top 89) 0)) := ⟨rfl, rfl, rfl, by decide +kernel, rfl, by decide +kernel, by decide +kernel⟩
theorem d_init {CR f : Addr} {oc dV kV doc pm cdv ct : Value} {od an : Option Addr} {osl : Array (Option Value)} (B : Blt mg base) (CL : ClsR K CR)
    (lk : K.lookup f = some ⟨oc, od, .func (PySem.W.fnOf "__init__" "Reader.__init__" (defArgs (clsAt (top 89) 0)) (defBody (clsAt (top 89) 0)) (defScope (clsAt (top 89) 0)) dV kV doc pm an cdv ct), osl⟩) (hcd : PySem.W.codeIn K cdv "Reader.__init__" = true)
    (D1 : Def P w K mg base 2 "want_signs" (top 28) ["value"] (spFine K areSigns)) (D2 : Def P w K mg base 3 "want_marks" (top 75) ["signs", "value"] (spFineMarks K)) (D3 : Def P w K mg base 2 "is_tail" (top 74) ["signs", "value"] (spShort K 3))
    (D4 : Def P w K mg base 2 "want_cares" (top 77) ["signs", "cares"] spCares) :
    FnOk P w K mg base (L2.CX P w) 4 f (PySem.W.fnOf "__init__" "Reader.__init__" (defArgs (clsAt (top 89) 0)) (defBody (clsAt (top 89) 0)) (defScope (clsAt (top 89) 0)) dV kV doc pm an cdv ct) rPs (spInit K CR) := by
  refine fnok_body B lk hcd scIn (fun vs H Q E ⟨_, _, _, _, e, _⟩ => by rw [e]; rfl) fun A outer s H vs Q E C h => ?_
  obtain ⟨r, dx, q, R, rfl, ok, hr, hq, hQ⟩ := h
  have gl := ok.g
  have fg : fits (.str R.g) := by
    simp only [strSigns, Bool.and_eq_true, decide_eq_true_eq] at gl
    show R.g.length ≤ _
    rw [sizeLine_eq]
    omega
  have ft : fits (.str R.t) := by
    have := ok.t
    simp only [shortLine, Bool.and_eq_true, decide_eq_true_eq] at this
    show R.t.length ≤ _
    rw [sizeLine_eq]
    omega
  have hrq : r ≠ q := fun z => by rw [z, hq] at hr; cases hr
  refine b_cons (s_expr (e_call (C.mono (by decide)) D1 (a_cons (e_name 1 (a_nil ?_))) rfl (fun _ _ _ _ _ _ us hl => match us, hl with | [_], _ => rfl)))
  refine ⟨_, [], .str R.g, rfl, .str R.g, fg, gl, fun H1 b1 => ?_⟩
  refine b_cons (s_expr (e_call C D2 (a_cons (e_name 1 (a_cons (e_name 2 (a_nil ?_))))) rfl (fun _ _ _ _ _ _ us hl => match us, hl with | [_, _], _ => rfl)))
  refine ⟨R.g, q, R.ms, rfl, .inl (.inl (b1 _ _ (by simp) hq)), ⟨_, b1 _ _ (by simp) hq⟩, ok.ms, fun H2 b2 => ?_⟩
  refine b_cons (s_ifB false ?_ (fun e => by cases e) (fun _ H3 b3 => b_nil ?_))
  · refine t_not (t_val (e_call (C.mono (by decide)) D3 (a_cons (e_name 1 (a_cons (e_name 3 (a_nil ?_))))) rfl (fun _ _ _ _ _ _ us hl => match us, hl with | [_, _], _ => rfl)))
    exact ⟨R.g, _, [], .str R.t, rfl, .str R.t, ft, fun H' b => ⟨_, rfl, by rw [ok.t]; rfl, b⟩⟩
  have b03 : But [] H H3 := b1.trans (b2.trans b3)
  refine b_cons (s_set (i := 8) (eE (pe_disp (pps_cons pE pE (pps_cons pE pE (pps_cons pE pE (pps_cons pE pE pps_nil)))) rfl rfl (by simp) (by decide)) ?_) C.nd)
  intro cd hcd'
  refine e_str (e_name 4 (e_str (e_name 5 (e_str (e_name 6 (e_str (e_name 7 ?_)))))))
  refine ⟨upd_same, R.kvs, rfl, by show 4 ≤ 15; decide, ?_⟩
  have em : mergeK [] R.kvs = R.kvs := rfl
  have eH : upd (upd H3 cd (.dK [])) cd (.dK (mergeK [] R.kvs)) = upd H3 cd (.dK R.kvs) := by
    rw [em]
    funext a
    by_cases ha : a = cd
    · rw [ha, upd_same, upd_same]
    · rw [upd_ne ha, upd_ne ha, upd_ne ha]
  rw [eH]
  refine b_cons (s_expr (e_call (C.mono (by decide)) D4 (a_cons (e_name 1 (a_cons (e_name 8 (a_nil ?_))))) rfl (fun _ _ _ _ _ _ us hl => match us, hl with | [_, _], _ => rfl)))
  refine ⟨R.g, cd, R.cares, rfl, upd_same, ?_, fun H4 b4 => ?_⟩
  · intro x hx
    simp only [RData.cares, List.mem_cons, List.not_mem_nil, or_false] at hx
    rcases hx with rfl | rfl | rfl | rfl
    · exact ⟨.inl rfl, ok.si⟩
    · exact ⟨.inr (.inl rfl), ok.od⟩
    · exact ⟨.inr (.inr (.inl rfl)), ok.fu⟩
    · exact ⟨.inr (.inr (.inr rfl)), ok.fi⟩
  have bn : But [] H3 (upd H3 cd (.dK R.kvs)) := But.new hcd'
  have hr4 : H4 r = some (.ins CR dx []) := b4 _ _ (by simp) (bn _ _ (by simp) (b03 _ _ (by simp) hr))
  have hq4 : H4 q = some (.lst (R.ms.map V.str)) := b4 _ _ (by simp) (bn _ _ (by simp) (b03 _ _ (by simp) hq))
  have hc4 : H4 cd = some (.dK R.kvs) := b4 _ _ (by simp) upd_same
  have b04 : But [] H H4 := b03.trans (bn.trans b4)
  have nrc : r ≠ cd := fun z => by rw [z, hc4] at hr4; cases hr4
  refine b_cons (s_fld (e_name 1 (e_name 0 ⟨dx, [], rfl, hr4, (by decide : 0 < 1000), ?_⟩)) CL.c CL.n1)
  refine b_cons (s_fld (e_listOf B (e_name 2 (v := .ref q) ⟨q, _, rfl, .inl (.inl (.inl (by rw [upd_ne hrq.symm]; exact hq4))), fun ml hml => e_name 0 ⟨dx, [("own_signs", .str R.g)], rfl, ?_, by simp, ?_⟩⟩)) CL.c CL.n2)
  · rw [upd_ne (ne_of_none upd_same hml), upd_same]
    rfl
  have nrm : r ≠ ml := ne_of_none upd_same hml
  have hml4 : H4 ml = none := by rw [upd_ne nrm.symm] at hml; exact hml
  have ncm : cd ≠ ml := ne_of_none hc4 hml4
  refine b_cons (s_fld (e_name 3 (e_name 0 ⟨dx, [("own_signs", .str R.g), ("own_marks", .ref ml)], rfl, upd_same, by simp, ?_⟩)) CL.c CL.n3)
  refine b_cons (s_fld (e_name 8 (e_name 0 ⟨dx, [("own_signs", .str R.g), ("own_marks", .ref ml), ("own_tail", .str R.t)], rfl, upd_same, by simp, ?_⟩)) CL.c CL.n4)
  refine b_nil (hQ _ ?_ ⟨dx, ml, cd, upd_same, ?_, ?_⟩)
  · refine b04.of.trans (fun a o na e => ?_)
    have nar : a ≠ r := by simpa using na
    have nam : a ≠ ml := ne_of_none e hml4
    rw [upd_ne nar, upd_ne nar, upd_ne nar, upd_ne nam, upd_ne nar]
    exact e
  · rw [upd_ne nrm.symm, upd_ne nrm.symm, upd_ne nrm.symm, upd_same]
  · rw [upd_ne nrc.symm, upd_ne nrc.symm, upd_ne nrc.symm, upd_ne ncm, upd_ne nrc.symm]
    exact hc4
end
end K68

set_option Elab.async false
set_option linter.all false
set_option maxRecDepth 100000
set_option maxHeartbeats 4000000
namespace K68
open PySem PySem.Spec PyProof.Rows L2 Z
section
variable {P : Program} {w : World} {K : PySem.W.Frag} {mg : Str → Option Value} {base : Heap} {CR : Addr}
def spGet (CR : Addr) (f : RData → V) : Sp := fun vs H Q _ => ∃ r R, vs = [.ref r] ∧ IsReader CR R H r ∧ Q (f R) H
theorem scG1 : FnScope ["self"] ["self"] (defScope (clsAt (top 89) 1)) := ⟨rfl, rfl, rfl, by decide +kernel, rfl, by decide +kernel, by decide +kernel⟩
theorem scG2 : FnScope ["self"] ["self"] (defScope (clsAt (top 89) 2)) := ⟨rfl, rfl, rfl, by decide +kernel, rfl, by decide +kernel, by decide +kernel⟩
theorem scG3 : FnScope ["self"] ["self"] (defScope (clsAt (top 89) 3)) := ⟨rfl, rfl, rfl, by decide +kernel, rfl, by decide +kernel, by decide +kernel⟩
/-- what the head tells of a property -/
structure PropAt (K : PySem.W.Frag) (CR : Addr) (m q : Str) (st : Stmt) : Prop where
  ex : ∃ (pr f : Addr) (oc doc pm cdv ct : Value) (od an : Option Addr) (osl : Array (Option Value)), PropOf K CR m pr f ∧ K.lookup f = some ⟨oc, od, .func (PySem.W.fnOf m q (defArgs st) (defBody st) (defScope st) .none .none doc pm an cdv ct), osl⟩ ∧ PySem.W.codeIn K cdv q = true
structure MethAt (K : PySem.W.Frag) (CR : Addr) (m q : Str) (st : Stmt) : Prop where
  ex : ∃ (f : Addr) (oc doc pm cdv ct : Value) (od an : Option Addr) (osl : Array (Option Value)), Meth K CR m f ∧ K.lookup f = some ⟨oc, od, .func (PySem.W.fnOf m q (defArgs st) (defBody st) (defScope st) .none .none doc pm an cdv ct), osl⟩ ∧ PySem.W.codeIn K cdv q = true
theorem bind1 {m q : Str} {st : Stmt} {dV kV doc pm cdv ct : Value} {an : Option Addr} (h : ∀ us : List Value, us.length = (["self"] : List Str).length → bindArgs (PySem.W.fnOf m q (defArgs st) (defBody st) (defScope st) dV kV doc pm an cdv ct) ⟨us, []⟩ = pure ((["self"] : List Str).zip us)) :
    Binds K (PySem.W.fnOf m q (defArgs st) (defBody st) (defScope st) dV kV doc pm an cdv ct) ["self"] [] := Binds.all h
theorem d_signs (B : Blt mg base) (CL : ClsR K CR) (D : PropAt K CR "signs" "Reader.signs" (clsAt (top 89) 1)) : PropOk P w K mg base 1 CR "signs" (spGet CR fun R => .str R.g) := by
  obtain ⟨pr, f, oc, doc, pm, cdv, ct, od, an, osl, hp, lk, hcd⟩ := D.ex
  refine ⟨pr, f, _, hp, fnok_body B lk hcd scG1 (fun vs H Q E ⟨_, _, e, _⟩ => by rw [e]; rfl) fun A outer s H vs Q E C h => ?_, bind1 fun us hl => match us, hl with | [_], _ => rfl⟩
  obtain ⟨r, R, rfl, hr, q⟩ := h
  obtain ⟨dx, ml, cd, h1, h2, h3⟩ := hr.ex
  exact b_cons (s_ret (e_fld (e_name 0 ⟨rfl, h1, q⟩) CL.c CL.n1 rfl))
theorem d_tail (B : Blt mg base) (CL : ClsR K CR) (D : PropAt K CR "tail" "Reader.tail" (clsAt (top 89) 2)) : PropOk P w K mg base 1 CR "tail" (spGet CR fun R => .str R.t) := by
  obtain ⟨pr, f, oc, doc, pm, cdv, ct, od, an, osl, hp, lk, hcd⟩ := D.ex
  refine ⟨pr, f, _, hp, fnok_body B lk hcd scG2 (fun vs H Q E ⟨_, _, e, _⟩ => by rw [e]; rfl) fun A outer s H vs Q E C h => ?_, bind1 fun us hl => match us, hl with | [_], _ => rfl⟩
  obtain ⟨r, R, rfl, hr, q⟩ := h
  obtain ⟨dx, ml, cd, h1, h2, h3⟩ := hr.ex
  exact b_cons (s_ret (e_fld (e_name 0 ⟨rfl, h1, q⟩) CL.c CL.n3 rfl))
theorem d_depth (B : Blt mg base) (CL : ClsR K CR) (D : PropAt K CR "depth" "Reader.depth" (clsAt (top 89) 3)) : PropOk P w K mg base 1 CR "depth" (spGet CR fun R => .int (R.ms.length : Nat)) := by
  obtain ⟨pr, f, oc, doc, pm, cdv, ct, od, an, osl, hp, lk, hcd⟩ := D.ex
  refine ⟨pr, f, _, hp, fnok_body B lk hcd scG3 (fun vs H Q E ⟨_, _, e, _⟩ => by rw [e]; rfl) fun A outer s H vs Q E C h => ?_, bind1 fun us hl => match us, hl with | [_], _ => rfl⟩
  obtain ⟨r, R, rfl, hr, q⟩ := h
  obtain ⟨dx, ml, cd, h1, h2, h3⟩ := hr.ex
  exact b_cons (s_ret (e_len B (e_fld (v := .ref ml) (e_name 0 ⟨rfl, h1, R.ms.length, .inl ⟨_, .inl (.inl h2), by simp⟩, q⟩) CL.c CL.n2 rfl)))
/-! ### roles and their lines -/
structure Kinds (K : PySem.W.Frag) (mg : Str → Option Value) : Prop where
  ex : ∃ t, mg "KINDS" = some (.ref t) ∧ ∀ H, SqT K H t [.str "next", .str "end"]
def kindS (b : Bool) : Str := if b = true then "next" else "end"
def lineOf (R : RData) (nx : Bool) (lv : Nat) : Str := (R.ms.getD (lv - 1) "") ++ (if nx = true then ("" : Str) else R.t)
def spLevel (CR : Addr) : Sp := fun vs H Q _ => ∃ (r : Addr) (R : RData) (lv : Nat), vs = [.ref r, .int lv] ∧ IsReader CR R H r ∧ 1 ≤ lv ∧ lv ≤ R.ms.length ∧ ∀ H', But [] H H' → Q (.bl true) H'
theorem scLv : FnScope ["reader", "value"] ["reader", "value"] (defScope (top 78)) := ⟨rfl, rfl, rfl, by decide +kernel, rfl, by decide +kernel, by decide +kernel⟩
theorem d_isLevel (B : Blt mg base) (CL : ClsR K CR) (D : At K mg "is_level" (top 78)) (D1 : Def P w K mg base 1 "is_integer" (top 24) ["value"] (sp1 K isInteger)) (D2 : PropOk P w K mg base 1 CR "depth" (spGet CR fun R => .int (R.ms.length : Nat))) :
    Def P w K mg base 3 "is_level" (top 78) ["reader", "value"] (spLevel CR) := by
  refine def_of D B scLv (fun vs H Q E ⟨_, _, _, e, _⟩ => by rw [e]; rfl) fun f cdv A outer s H vs Q E hm C h => ?_
  obtain ⟨r, R, lv, rfl, hr, l1, l2, q⟩ := h
  refine b_cons (s_ret (e_and (e_call (C.mono (by decide)) D1 (a_cons (e_name 1 (a_nil ?_))) rfl (fun _ _ _ _ _ _ us hl => match us, hl with | [_], _ => rfl))))
  refine ⟨_, [], .int lv, rfl, .int lv, trivial, fun H1 b1 => ⟨true, rfl, ite_b (fun _ => e_one (e_chain (e_int (e_name 1 (v := .int lv) (c_le ⟨_, rfl, ite_b (fun e => ?_) fun e => ?_⟩))))) fun e => by cases e⟩⟩
  · have hr1 := hr.but b1 (by simp)
    obtain ⟨dx, ml, cd, h1, h2, h3⟩ := hr1.ex
    refine e_prop C CL.c D2 (e_name 0 ⟨rfl, h1, r, R, rfl, hr1, c_le ?_⟩)
    rw [decide_eq_true (by omega)]
    exact q H1 b1
  · have := of_decide_eq_false e
    omega
def spRole (K : PySem.W.Frag) (CR : Addr) (Rt : RData → Bool → Nat → V) : Sp := fun vs H Q _ => ∃ (r : Addr) (R : RData) (t : Addr) (nx : Bool) (lv : Nat), vs = [.ref r, .ref t] ∧ IsReader CR R H r ∧ SqT K H t [.str (kindS nx), .int lv] ∧ 1 ≤ lv ∧ lv ≤ R.ms.length ∧ R.Ok ∧ ∀ H', But [] H H' → Q (Rt R nx lv) H'
theorem scLr : FnScope ["reader", "role", "kind", "level", "mark"] ["reader", "role"] (defScope (top 83)) := ⟨rfl, rfl, rfl, by decide +kernel, rfl, by decide +kernel, by decide +kernel⟩
theorem d_lineOfRole (B : Blt mg base) (CL : ClsR K CR) (D : At K mg "line_of_role" (top 83)) (D1 : PropOk P w K mg base 1 CR "tail" (spGet CR fun R => .str R.t)) :
    Def P w K mg base 3 "line_of_role" (top 83) ["reader", "role"] (spRole K CR fun R nx lv => .str (lineOf R nx lv)) := by
  refine def_of D B scLr (fun vs H Q E ⟨_, _, _, _, _, e, _⟩ => by rw [e]; rfl) fun f cdv A outer s H vs Q E hm C h => ?_
  obtain ⟨r, R, t, nx, lv, rfl, hr, ht, l1, l2, ok, q⟩ := h
  obtain ⟨dx, ml, cd, h1, h2, h3⟩ := hr.ex
  have hlt : lv - 1 < R.ms.length := by omega
  have hget : R.ms.getD (lv - 1) "" = R.ms[lv - 1] := by rw [List.getD_eq_getElem?_getD, List.getElem?_eq_getElem hlt]; rfl
  refine b_cons (s_asg (e_name 1 (v := .ref t) (g_tup (gs_cons (g_name (i := 2) (gs_cons (g_name (i := 3) (gs_nil ?_) C.nd)) C.nd)) rfl ht)))
  refine b_cons (s_set (i := 4) (e_ix (e_fld (e_name 0 ⟨rfl, h1, e_bin (e_name 3 (e_int (o_sub ?_)))⟩) CL.c CL.n2 rfl)) C.nd)
  have e1 : ((lv : Int) - 1) = ((lv - 1 : Nat) : Int) := by omega
  rw [e1]
  refine ix_l (.inl (.inl h2)) (v := .str R.ms[lv - 1]) (atI_nat (by rw [List.getElem?_map, List.getElem?_eq_getElem hlt]; rfl)) ?_
  refine b_cons (s_ret (e_if (t_cmp (e_name 2 (v := .str (kindS nx)) (e_str (c_eq rfl ⟨nx, ?_, ite_b (fun e => ?_) fun e => ?_⟩))))))
  · cases nx <;> rfl
  · subst e
    refine e_name 4 ?_
    have e2 : R.ms[lv - 1] ++ ("" : Str) = R.ms[lv - 1] := by
      apply str_ext
      rw [show (R.ms[lv - 1] ++ ("" : Str)).cps.toList = R.ms[lv - 1].cps.toList ++ [] from TL.tl_append _ _, List.append_nil]
    have e3 : lineOf R true lv = R.ms[lv - 1] := by
      unfold lineOf
      rw [hget, if_pos rfl]
      exact e2
    have := q H But.refl
    simp only [e3] at this
    exact this
  · subst e
    have m12 := ok.ms.2.2.1 _ (List.getElem_mem hlt)
    have t3 := ok.t
    simp only [shortLine, Bool.and_eq_true, decide_eq_true_eq] at m12 t3
    refine e_bin (e_name 4 (v := .str R.ms[lv - 1]) (e_prop C CL.c D1 (e_name 0 ⟨rfl, h1, r, R, rfl, hr, o_adds (by rw [sizeLine_eq]; omega) ?_⟩)))
    have e3 : lineOf R false lv = R.ms[lv - 1] ++ R.t := by
      unfold lineOf
      rw [hget, if_neg (by simp)]
    have := q H But.refl
    simp only [e3] at this
    exact this
end
end K68

set_option Elab.async false
set_option linter.all false
set_option maxRecDepth 100000
set_option maxHeartbeats 4000000
namespace K68
open PySem PySem.Spec PyProof.Rows L2 Z
section
variable {P : Program} {w : World} {K : PySem.W.Frag} {mg : Str → Option Value} {base : Heap} {CR : Addr}
theorem scIr : FnScope ["reader", "value"] ["reader", "value"] (defScope (top 80)) := ⟨rfl, rfl, rfl, by decide +kernel, rfl, by decide +kernel, by decide +kernel⟩
theorem d_isRole (B : Blt mg base) (T : Kinds K mg) (D : At K mg "is_role" (top 80)) (D1 : Def P w K mg base 3 "is_level" (top 78) ["reader", "value"] (spLevel CR)) :
    Def P w K mg base 4 "is_role" (top 80) ["reader", "value"] (spRole K CR fun _ _ _ => .bl true) := by
  refine def_of D B scIr (fun vs H Q E ⟨_, _, _, _, _, e, _⟩ => by rw [e]; rfl) fun f cdv A outer s H vs Q E hm C h => ?_
  obtain ⟨r, R, t, nx, lv, rfl, hr, ht, l1, l2, ok, q⟩ := h
  obtain ⟨kt, hkt, kq⟩ := T.ex
  have dd : DD K [] H (.ref t) (.tuple [.str (kindS nx), .int lv]) := .tup ht (by simp) (.cons (.str _) (.cons (.int _) .nil))
  refine b_cons (s_ifB false ?_ (fun e => by cases e) (fun _ H1 b1 => b_nil ?_))
  · refine t_boolop (w_or (t_not (t_val (e_isi B kit_tuple B.tuple PyProof.Rows.boot_tuple (e_name 1 ⟨[], _, dd, true, rfl, ite_b (fun e => by cases e) fun _ => ?_⟩)))))
    refine w_or (t_cmp (e_len B (e_name 1 (v := .ref t) ⟨2, .inr ⟨_, ht, rfl⟩, e_int (c_ne rfl ⟨_, rfl, ite_b (fun e => by cases e) fun _ => ?_⟩)⟩)))
    exact w_or1 (t_not (t_val (e_isi B kit_str B.str PyProof.Rows.boot_str (e_ix (e_name 1 (v := .ref t) (e_int (ix_t ht (v := .str (kindS nx)) rfl ⟨[], .str _, .str _, true, rfl, rfl, But.refl⟩)))))))
  have ht1 : SqT K H1 t [.str (kindS nx), .int lv] := b1.sqt (by simp) ht
  refine b_cons (s_ret (e_and (e_cmp (e_ix (e_name 1 (v := .ref t) (e_int (ix_t ht1 (v := .str (kindS nx)) rfl (e_glob (v := .ref kt) (c_inL (.inr (kq H1)) rfl rfl ⟨true, ?_, ite_b (fun _ => ?_) fun e => by cases e⟩) hkt rfl))))))))
  · cases nx <;> rfl
  refine e_one (e_call C D1 (a_cons (e_name 0 (v := .ref r) (a_cons (e_ix (e_name 1 (v := .ref t) (e_int (ix_t ht1 (v := .int lv) rfl (a_nil ?_)))))))) rfl (fun _ _ _ _ _ _ us hl => match us, hl with | [_, _], _ => rfl))
  exact ⟨r, R, lv, rfl, hr.but b1 (by simp), l1, l2, fun H' b => q H' (b1.trans b)⟩
theorem scWr : FnScope ["reader", "role"] ["reader", "role"] (defScope (top 81)) := ⟨rfl, rfl, rfl, by decide +kernel, rfl, by decide +kernel, by decide +kernel⟩
theorem d_wantRole (B : Blt mg base) (D : At K mg "want_role" (top 81)) (D1 : Def P w K mg base 4 "is_role" (top 80) ["reader", "value"] (spRole K CR fun _ _ _ => .bl true)) :
    Def P w K mg base 5 "want_role" (top 81) ["reader", "role"] (spRole K CR fun _ _ _ => .non) := by
  refine def_of D B scWr (fun vs H Q E ⟨_, _, _, _, _, e, _⟩ => by rw [e]; rfl) fun f cdv A outer s H vs Q E hm C h => ?_
  obtain ⟨r, R, t, nx, lv, rfl, hr, ht, l1, l2, ok, q⟩ := h
  refine b_cons (s_ifB false ?_ (fun e => by cases e) (fun _ H1 b1 => b_nil (b_nil (q H1 b1))))
  refine t_not (t_val (e_call C D1 (a_cons (e_name 0 (a_cons (e_name 1 (a_nil ?_))))) rfl (fun _ _ _ _ _ _ us hl => match us, hl with | [_, _], _ => rfl)))
  exact ⟨r, R, t, nx, lv, rfl, hr, ht, l1, l2, ok, fun H' b => ⟨true, rfl, rfl, b⟩⟩
theorem scLo : FnScope ["self", "role"] ["self", "role"] (defScope (clsAt (top 89) 13)) := ⟨rfl, rfl, rfl, by decide +kernel, rfl, by decide +kernel, by decide +kernel⟩
theorem d_lineOf (B : Blt mg base) (D : MethAt K CR "line_of" "Reader.line_of" (clsAt (top 89) 13)) (D1 : Def P w K mg base 5 "want_role" (top 81) ["reader", "role"] (spRole K CR fun _ _ _ => .non))
    (D2 : Def P w K mg base 3 "line_of_role" (top 83) ["reader", "role"] (spRole K CR fun R nx lv => .str (lineOf R nx lv))) : MethOk P w K mg base 6 CR "line_of" ["self", "role"] (spRole K CR fun R nx lv => .str (lineOf R nx lv)) := by
  obtain ⟨f, oc, doc, pm, cdv, ct, od, an, osl, hp, lk, hcd⟩ := D.ex
  refine ⟨f, _, hp, fnok_body B lk hcd scLo (fun vs H Q E ⟨_, _, _, _, _, e, _⟩ => by rw [e]; rfl) fun A outer s H vs Q E C h => ?_, Binds.all fun us hl => match us, hl with | [_, _], _ => rfl⟩
  obtain ⟨r, R, t, nx, lv, rfl, hr, ht, l1, l2, ok, q⟩ := h
  refine b_cons (s_expr (e_call C D1 (a_cons (e_name 0 (a_cons (e_name 1 (a_nil ?_))))) rfl (fun _ _ _ _ _ _ us hl => match us, hl with | [_, _], _ => rfl)))
  refine ⟨r, R, t, nx, lv, rfl, hr, ht, l1, l2, ok, fun H1 b1 => ?_⟩
  refine b_cons (s_ret (e_call (C.mono (by decide)) D2 (a_cons (e_name 0 (a_cons (e_name 1 (a_nil ?_))))) rfl (fun _ _ _ _ _ _ us hl => match us, hl with | [_, _], _ => rfl)))
  exact ⟨r, R, t, nx, lv, rfl, hr.but b1 (by simp), b1.sqt (by simp) ht, l1, l2, ok, fun H' b => q H' (b1.trans b)⟩
end
end K68

set_option Elab.async false
set_option linter.all false
set_option maxRecDepth 100000
set_option maxHeartbeats 4000000
namespace K68
open PySem PySem.Spec PyProof.Rows L2 Z
/-! ### trees -/
def okLine (g : Str) : PyData → Bool
  | .str x => isLine g (.str x) && decide (x.length ≤ 1000)
  | _ => false
/-- a tree of n levels -/
def isTree (g : Str) : Nat → PyData → Bool
  | 0, d => seqB d && decide ((items d).length ≤ 20000) && (items d).all (okLine g)
  | n + 1, d => seqB d && decide ((items d).length ≤ 20000) && (items d).all (isTree g n)
theorem isTree_seq {g : Str} : ∀ {n : Nat} {d : PyData}, isTree g n d = true → seqB d = true ∧ (items d).length ≤ 20000
  | 0, d, h => by simp only [isTree, Bool.and_eq_true, decide_eq_true_eq] at h; exact h.1
  | n + 1, d, h => by simp only [isTree, Bool.and_eq_true, decide_eq_true_eq] at h; exact h.1
section
variable {P : Program} {w : World} {K : PySem.W.Frag} {mg : Str → Option Value} {base : Heap} {CR : Addr}
def spTreeOf (K : PySem.W.Frag) (n : Nat) : Sp := fun vs H Q _ => ∃ (g : Str) (v : V) (l : List Addr) (d : PyData), vs = [.str g, v, .int (n : Nat)] ∧ DD K l H v d ∧ isTree g n d = true ∧ ∀ H', But [] H H' → Q (.bl true) H'
theorem scTo : FnScope ["signs", "value", "depth", "line", "part"] ["signs", "value", "depth"] (defScope (top 99)) := ⟨rfl, rfl, rfl, by decide +kernel, rfl, by decide +kernel, by decide +kernel⟩
theorem fits_seq {d : PyData} (h : seqB d = true) : fits d := by cases d <;> simp [seqB, Z.isList, Z.isTuple] at h <;> trivial
theorem d_treeOf (B : Blt mg base) (D : At K mg "is_tree_of" (top 99)) (D0 : Def P w K mg base 1 "is_list" (top 26) ["value"] (sp1 K isSeq)) (D1 : Def P w K mg base 1 "is_line" (top 29) ["signs", "value"] (spLine K)) :
    ∀ n, Def P w K mg base (n + 2) "is_tree_of" (top 99) ["signs", "value", "depth"] (spTreeOf K n)
  | 0 => by
    refine def_of D B scTo (fun vs H Q E ⟨_, _, _, _, e, _⟩ => by rw [e]; rfl) fun f cdv A outer s H vs Q E hm C h => ?_
    obtain ⟨g, v, l, d, rfl, hd, ht, q⟩ := h
    obtain ⟨hs, hn⟩ := isTree_seq ht
    refine b_cons (s_ifB false ?_ (fun e => by cases e) (fun _ H1 b1 => b_nil (b_cons (s_ifB true ?_ (fun _ H2 b2 => ?_) fun e => by cases e))))
    · refine t_not (t_val (e_call C D0 (a_cons (e_name 1 (a_nil ?_))) rfl (fun _ _ _ _ _ _ us hl => match us, hl with | [_], _ => rfl)))
      exact ⟨v, l, d, rfl, hd, fits_seq hs, fun H' b => ⟨_, rfl, by rw [show isSeq d = true from hs]; rfl, b⟩⟩
    · exact t_cmp (e_name 2 (v := .int ((0 : Nat) : Int)) (e_int (c_eq rfl ⟨true, rfl, rfl, But.refl⟩)))
    · refine b_cons (s_ret (e_all C (e_lcM [("line", 3)] C (i_dd (hd.but (b1.trans b2).of) hs (fun Q h => e_name 1 h) fun J G vs W hG hvs => ?_))))
      have hl := hvs.length
      refine ⟨_, _, _, vs.map fun _ => .bl true, W, by simp, by rw [hl, sizeLine_eq]; omega, fun H' b => hG H' b.of, fun i x H3 H' hi b3 hy => ?_, fun Da H' b3 hn hDa => ⟨Da, vs.map fun _ => true, rfl, .inl (.inl (by rw [hDa, List.map_map]; rfl)), ?_⟩⟩
      · obtain ⟨rfl, hx⟩ := hy
        obtain ⟨dx, hdx, hD⟩ := hvs.get hx
        have hok : okLine g dx = true := by
          simp only [isTree, Bool.and_eq_true, List.all_eq_true] at ht
          exact ht.2 dx (List.mem_of_getElem? hdx)
        obtain ⟨y, rfl⟩ : ∃ y, dx = .str y := by cases dx <;> simp [okLine] at hok; exact ⟨_, rfl⟩
        cases hD
        simp only [okLine, Bool.and_eq_true, decide_eq_true_eq] at hok
        refine ⟨But.refl, mt_name (i := 3) C.nd fun s H0 Ca cl fp => e_call (C.blk _ _ _ _ _) D1 (a_cons (e_name 0 (a_cons (e_name 3 (a_nil ?_))))) rfl (fun _ _ _ _ _ _ us hl => match us, hl with | [_, _], _ => rfl)⟩
        refine ⟨g, _, [], .str y, rfl, .str y, by show y.length ≤ _; rw [sizeLine_eq]; omega, fun H' b => ⟨?_, b⟩⟩
        rw [List.getElem?_map, hx, hok.1]
        rfl
      · have : (vs.map fun _ => true).all id = true := by simp
        rw [this]
        exact q H' (b1.trans (b2.trans b3))
  | n + 1 => by
    have IH := d_treeOf B D D0 D1 n
    refine def_of D B scTo (fun vs H Q E ⟨_, _, _, _, e, _⟩ => by rw [e]; rfl) fun f cdv A outer s H vs Q E hm C h => ?_
    obtain ⟨g, v, l, d, rfl, hd, ht, q⟩ := h
    obtain ⟨hs, hn⟩ := isTree_seq ht
    refine b_cons (s_ifB false ?_ (fun e => by cases e) (fun _ H1 b1 => b_nil (b_cons (s_ifB false ?_ (fun e => by cases e) (fun _ H2 b2 => b_nil ?_)))))
    · refine t_not (t_val (e_call (C.mono (by omega)) D0 (a_cons (e_name 1 (a_nil ?_))) rfl (fun _ _ _ _ _ _ us hl => match us, hl with | [_], _ => rfl)))
      exact ⟨v, l, d, rfl, hd, fits_seq hs, fun H' b => ⟨_, rfl, by rw [show isSeq d = true from hs]; rfl, b⟩⟩
    · refine t_cmp (e_name 2 (v := .int ((n + 1 : Nat) : Int)) (e_int (c_eq rfl ⟨false, ?_, rfl, But.refl⟩)))
      rw [decide_eq_false]
      intro e
      have := V.int.inj e
      omega
    · refine b_cons (s_ret (e_all C (e_lcM [("part", 4)] C (i_dd (hd.but (b1.trans b2).of) hs (fun Q h => e_name 1 h) fun J G vs W hG hvs => ?_))))
      have hl := hvs.length
      refine ⟨_, _, _, vs.map fun _ => .bl true, W, by simp, by rw [hl, sizeLine_eq]; omega, fun H' b => hG H' b.of, fun i x H3 H' hi b3 hy => ?_, fun Da H' b3 hn hDa => ⟨Da, vs.map fun _ => true, rfl, .inl (.inl (by rw [hDa, List.map_map]; rfl)), ?_⟩⟩
      · obtain ⟨rfl, hx⟩ := hy
        obtain ⟨dx, hdx, hD⟩ := hvs.get hx
        have hok : isTree g n dx = true := by
          simp only [isTree, Bool.and_eq_true, List.all_eq_true] at ht
          exact ht.2 dx (List.mem_of_getElem? hdx)
        refine ⟨But.refl, mt_name (i := 4) C.nd fun s H0 Ca cl fp => e_call (C.blk _ _ _ _ _) IH (a_cons (e_name 0 (a_cons (e_name 4 (a_cons (e_bin (e_name 2 (v := .int ((n + 1 : Nat) : Int)) (e_int (o_sub (a_nil ?_)))))))))) rfl (fun _ _ _ _ _ _ us hl => match us, hl with | [_, _, _], _ => rfl)⟩
        refine ⟨g, x, l, dx, by rw [show ((n + 1 : Nat) : Int) - 1 = (n : Int) by omega], hD.but b3.of, hok, fun H' b => ⟨?_, b⟩⟩
        rw [List.getElem?_map, hx]
        rfl
      · have : (vs.map fun _ => true).all id = true := by simp
        rw [this]
        exact q H' (b1.trans (b2.trans b3))
def spTree (K : PySem.W.Frag) (CR : Addr) (v0 : V) : Sp := fun vs H Q _ => ∃ (r : Addr) (R : RData) (v : V) (l : List Addr) (d : PyData), vs = [.ref r, v] ∧ IsReader CR R H r ∧ R.Ok ∧ DD K l H v d ∧ isTree R.g R.ms.length d = true ∧ ∀ H', But [] H H' → Q v0 H'
theorem scIt : FnScope ["reader", "value"] ["reader", "value"] (defScope (top 100)) := ⟨rfl, rfl, rfl, by decide +kernel, rfl, by decide +kernel, by decide +kernel⟩
theorem d_isTree (B : Blt mg base) (CL : ClsR K CR) (D : At K mg "is_tree" (top 100)) (D1 : ∀ n, Def P w K mg base (n + 2) "is_tree_of" (top 99) ["signs", "value", "depth"] (spTreeOf K n))
    (G1 : PropOk P w K mg base 1 CR "signs" (spGet CR fun R => .str R.g)) (G2 : PropOk P w K mg base 1 CR "depth" (spGet CR fun R => .int (R.ms.length : Nat))) :
    Def P w K mg base 6 "is_tree" (top 100) ["reader", "value"] (spTree K CR (.bl true)) := by
  refine def_of D B scIt (fun vs H Q E ⟨_, _, _, _, _, e, _⟩ => by rw [e]; rfl) fun f cdv A outer s H vs Q E hm C h => ?_
  obtain ⟨r, R, v, l, d, rfl, hr, ok, hd, ht, q⟩ := h
  obtain ⟨dx, ml, cd, h1, h2, h3⟩ := hr.ex
  have hn := ok.ms.2.1
  refine b_cons (s_ret (e_call C ((D1 R.ms.length).mono (by omega)) (a_cons (e_prop (C.mono (by decide)) CL.c G1 (e_name 0 ⟨rfl, h1, r, R, rfl, hr, a_cons (e_name 1 (a_cons (e_prop (C.mono (by decide)) CL.c G2 (e_name 0 ⟨rfl, h1, r, R, rfl, hr, a_nil ?_⟩))))⟩))) rfl (fun _ _ _ _ _ _ us hl => match us, hl with | [_, _, _], _ => rfl)))
  exact ⟨R.g, v, l, d, rfl, hd, ht, q⟩
theorem scWt : FnScope ["reader", "tree"] ["reader", "tree"] (defScope (top 101)) := ⟨rfl, rfl, rfl, by decide +kernel, rfl, by decide +kernel, by decide +kernel⟩
theorem d_wantTree (B : Blt mg base) (D : At K mg "want_tree" (top 101)) (D1 : Def P w K mg base 6 "is_tree" (top 100) ["reader", "value"] (spTree K CR (.bl true))) :
    Def P w K mg base 7 "want_tree" (top 101) ["reader", "tree"] (spTree K CR .non) := by
  refine def_of D B scWt (fun vs H Q E ⟨_, _, _, _, _, e, _⟩ => by rw [e]; rfl) fun f cdv A outer s H vs Q E hm C h => ?_
  obtain ⟨r, R, v, l, d, rfl, hr, ok, hd, ht, q⟩ := h
  refine b_cons (s_ifB false ?_ (fun e => by cases e) (fun _ H1 b1 => b_nil (b_nil (q H1 b1))))
  refine t_not (t_val (e_call C D1 (a_cons (e_name 0 (a_cons (e_name 1 (a_nil ?_))))) rfl (fun _ _ _ _ _ _ us hl => match us, hl with | [_, _], _ => rfl)))
  exact ⟨r, R, v, l, d, rfl, hr, ok, hd, ht, fun H' b => ⟨true, rfl, rfl, b⟩⟩
end
end K68

set_option Elab.async false
set_option linter.all false
set_option maxRecDepth 100000
set_option maxHeartbeats 4000000
namespace K68
open PySem PySem.Spec PyProof.Rows L2 Z
/-! ### a tree written -/
abbrev Row := (Str × Nat) × Str
def txtOf : PyData → Str
  | .str x => x
  | _ => ""
/-- the rows of a tree whose own level is ms.length + 1 - n -/
def rowsOf (R : RData) : Nat → PyData → List Row
  | 0, d => (items d).map fun x => ((("line" : Str), 0), txtOf x)
  | n + 1, d => (items d).flatMap (fun p => ((("next" : Str), R.ms.length - n), lineOf R true (R.ms.length - n)) :: rowsOf R n p) ++ [((("end" : Str), R.ms.length - n), lineOf R false (R.ms.length - n))]
def rowD (x : Row) : PyData := .tuple [.tuple [.str x.1.1, .int x.1.2], .str x.2]
theorem rows_tup (rs : List Row) : tupOnlyAll (rs.map rowD) = true := tupOnlyAll_of fun d hd => by
  obtain ⟨x, _, rfl⟩ := List.mem_map.mp hd
  rfl
/-- how many rows at most -/
def rowMax : Nat → Nat
  | 0 => 10
  | n + 1 => 10 * (rowMax n + 1) + 1
theorem rowMax_le : ∀ {n : Nat}, n ≤ 3 → rowMax n ≤ 11221
  | 0, _ => by decide
  | 1, _ => by decide
  | 2, _ => by decide
  | 3, _ => by decide
  | n + 4, h => by omega
theorem rows_pre {R : RData} {n i : Nat} {d dx : PyData} (h : (items d)[i]? = some dx) : (((items d).take i).flatMap fun p => (((("next" : Str), R.ms.length - n), lineOf R true (R.ms.length - n)) : Row) :: rowsOf R n p).length + 1 + (rowsOf R n dx).length + 1 ≤ (rowsOf R (n + 1) d).length := by
  obtain ⟨hlt, e⟩ := List.getElem?_eq_some_iff.mp h
  have hs : items d = (items d).take i ++ dx :: (items d).drop (i + 1) := by
    rw [← e, ← List.drop_eq_getElem_cons hlt, List.take_append_drop]
  show _ ≤ ((items d).flatMap (fun p => ((("next" : Str), R.ms.length - n), lineOf R true (R.ms.length - n)) :: rowsOf R n p) ++ [((("end" : Str), R.ms.length - n), lineOf R false (R.ms.length - n))]).length
  conv => rhs; rw [hs]
  rw [List.flatMap_append, List.flatMap_cons, List.length_append, List.length_append, List.length_append, List.length_cons, List.length_singleton]
  omega
structure Ends3 (K : PySem.W.Frag) (mg : Str → Option Value) : Prop where
  nx : ∃ u, mg "NEXT" = some u ∧ RelV (.str "next") u
  en : ∃ u, mg "END" = some u ∧ RelV (.str "end") u
  ln : ∃ t, mg "TOLD_LINE" = some (.ref t) ∧ ∀ H, SqT K H t [.str "line", .int 0]
section
variable {P : Program} {w : World} {K : PySem.W.Frag} {mg : Str → Option Value} {base : Heap} {CR : Addr}
def spRow (K : PySem.W.Frag) (CR : Addr) : Sp := fun vs H Q _ => ∃ (r : Addr) (R : RData) (t : Addr) (nx : Bool) (lv : Nat), vs = [.ref r, .ref t] ∧ IsReader CR R H r ∧ SqT K H t [.str (kindS nx), .int lv] ∧ 1 ≤ lv ∧ lv ≤ R.ms.length ∧ R.Ok ∧
  ∀ p H', But [] H H' → H' p = some (.tup [.ref t, .str (lineOf R nx lv)]) → Q (.ref p) H'
theorem scRr : FnScope ["reader", "role"] ["reader", "role"] (defScope (top 103)) := ⟨rfl, rfl, rfl, by decide +kernel, rfl, by decide +kernel, by decide +kernel⟩
theorem d_roleRow (B : Blt mg base) (CL : ClsR K CR) (D : At K mg "role_row" (top 103)) (M : MethOk P w K mg base 6 CR "line_of" ["self", "role"] (spRole K CR fun R nx lv => .str (lineOf R nx lv))) (D0 : True) :
    Def P w K mg base 7 "role_row" (top 103) ["reader", "role"] (spRow K CR) := by
  refine def_of D B scRr (fun vs H Q E ⟨_, _, _, _, _, e, _⟩ => by rw [e]; rfl) fun f cdv A outer s H vs Q E hm C h => ?_
  obtain ⟨r, R, t, nx, lv, rfl, hr, ht, l1, l2, ok, q⟩ := h
  obtain ⟨dx, ml, cd, h1, h2, h3⟩ := hr.ex
  refine b_cons (s_ret (e_tup (a_cons (e_name 1 (v := .ref t) (a_cons (e_meth C CL.c M (e_name 0 ⟨rfl, h1, rfl, a_cons (e_name 1 (v := .ref t) (a_nil ?_))⟩)))))))
  refine ⟨r, R, t, nx, lv, rfl, hr, ht, l1, l2, ok, fun H1 b1 => a_nil ⟨by rw [sizeLine_eq]; exact (by decide : 2 ≤ 16777216), fun p hp => ?_⟩⟩
  exact q p _ (b1.trans (But.new hp)) upd_same
def spRows (K : PySem.W.Frag) (CR : Addr) (n : Nat) : Sp := fun vs H Q _ => ∃ (r : Addr) (R : RData) (v : V) (l : List Addr) (d : PyData), vs = [.ref r, v, .int ((R.ms.length + 1 - n : Nat) : Int)] ∧ n ≤ R.ms.length ∧ IsReader CR R H r ∧ R.Ok ∧ DD [] l H v d ∧ isTree R.g n d = true ∧ (rowsOf R n d).length ≤ 20000 ∧
  ∀ q xs H', But [] H H' → H q = none → H' q = some (.lst xs) → DDs K [] H' xs ((rowsOf R n d).map rowD) → Q (.ref q) H'
theorem scRw : FnScope ["reader", "tree", "level", "line", "found", "part"] ["reader", "tree", "level"] (defScope (top 104)) := ⟨rfl, rfl, rfl, by decide +kernel, rfl, by decide +kernel, by decide +kernel⟩
theorem d_rows (B : Blt mg base) (CL : ClsR K CR) (T : Ends3 K mg) (D : At K mg "written_rows" (top 104)) (G2 : PropOk P w K mg base 1 CR "depth" (spGet CR fun R => .int (R.ms.length : Nat))) (D1 : Def P w K mg base 7 "role_row" (top 103) ["reader", "role"] (spRow K CR)) :
    ∀ n, Def P w K mg base (n + 8) "written_rows" (top 104) ["reader", "tree", "level"] (spRows K CR n)
  | 0 => by
    refine def_of D B scRw (fun vs H Q E ⟨_, _, _, _, _, e, _⟩ => by rw [e]; rfl) fun f cdv A outer s H vs Q E hm C h => ?_
    obtain ⟨r, R, v, l, d, rfl, hn, hr, ok, hd, ht, hB, q⟩ := h
    obtain ⟨dx, ml, cd, h1, h2, h3⟩ := hr.ex
    obtain ⟨tl, htl, hT⟩ := T.ln
    obtain ⟨hs, hlen⟩ := isTree_seq ht
    refine b_cons (s_ifB true ?_ (fun _ H1 b1 => ?_) fun e => by cases e)
    · refine t_cmp (e_name 2 (v := .int ((R.ms.length + 1 - 0 : Nat) : Int)) (e_prop (C.mono (by decide)) CL.c G2 (e_name 0 ⟨rfl, h1, r, R, rfl, hr, c_gt ⟨_, rfl, ?_, But.refl⟩⟩)))
      rw [decide_eq_true (by omega)]
    · refine b_cons (s_ret (e_lc [("line", 3)] C (i_dd0 (hd.but b1.of) hs (fun Q h => e_name 1 h) fun J G vs W hG hvs => ?_)))
      have hl := hvs.length
      refine ⟨_, _, _, W, fun Dl hDl => ⟨fun i H' => But [] H1 H' ∧ ∃ acc, H' Dl = some (.lst acc) ∧ DDs K [Dl] H' acc (((items d).take i).map fun x => rowD ((("line" : Str), 0), txtOf x)), ⟨But.new hDl, [], upd_same, .nil⟩, fun i H' _ h => hG H' h.1.of, ?_, ?_⟩⟩
      · rintro i x H3 H' hi ⟨b3, acc, hD3, hacc⟩ ⟨rfl, hx⟩
        obtain ⟨dx, hdx, hD⟩ := hvs.get hx
        have hok : okLine R.g dx = true := by
          simp only [isTree, Bool.and_eq_true, List.all_eq_true] at ht
          exact ht.2 dx (List.mem_of_getElem? hdx)
        obtain ⟨y, rfl⟩ : ∃ y, dx = .str y := by cases dx <;> simp [okLine] at hok; exact ⟨_, rfl⟩
        cases hD
        refine lc_plain (i := 3) C.nd fun s H0 Ca cl fp => e_apart fun ap => e_tup (a_cons (e_glob (v := .ref tl) (a_cons (e_name 3 (v := .str y) (a_nil ⟨by rw [sizeLine_eq]; exact (by decide : 2 ≤ 16777216), fun p hp => ?_⟩))) htl rfl))
        have nDp : Dl ≠ p := ne_of_none hD3 hp
        have hDp : upd H' p (.tup [.ref tl, .str y]) Dl = some (.lst acc) := by rw [upd_ne nDp]; exact hD3
        have ntl : tl ≠ Dl := ap _ _ _ _ (hT H') hD3
        have bp : But [] H' (upd H' p (.tup [.ref tl, .str y])) := But.new hp
        have hacl : acc.length = i := by rw [hacc.length, List.length_map, List.length_take]; omega
        refine ⟨acc, hDp, by rw [hacl, sizeLine_eq]; omega, ?_, acc ++ [.ref p], upd_same, ?_⟩
        · refine fun a o na e => ?_
          rw [upd_ne (ne_of_none e hDl)]
          exact bp _ _ (by simp) (b3 _ _ (by simp) e)
        · rw [List.take_add_one, hdx, List.map_append]
          refine DDs.append ((hacc.but bp.of).but (But.at (by simp))) (.cons (DD.tup (.inl (.inl (by rw [upd_ne nDp.symm]; exact upd_same))) (by simpa using nDp.symm) (.cons (.tup (hT _) (by simpa using ntl) (.cons (.str _) (.cons (.int _) .nil))) (.cons (.str _) .nil))) .nil)
      · rintro H3 ⟨b3, acc, hD3, hacc⟩
        refine q Dl acc H3 (b1.trans b3) (b1.free hDl) hD3 ?_
        rw [hl, List.take_length] at hacc
        show DDs K [] H3 acc (((items d).map fun x => (((("line" : Str), 0), txtOf x) : Row)).map rowD)
        rw [List.map_map]
        exact hacc.less (by simp)
  | n + 1 => by
    have IH := d_rows B CL T D G2 D1 n
    refine def_of D B scRw (fun vs H Q E ⟨_, _, _, _, _, e, _⟩ => by rw [e]; rfl) fun f cdv A outer s H vs Q E hm C h => ?_
    obtain ⟨r, R, v, l, d, rfl, hn, hr, ok, hd, ht, hB, q⟩ := h
    obtain ⟨dx, ml, cd, h1, h2, h3⟩ := hr.ex
    obtain ⟨un, hnx, rnx⟩ := T.nx
    obtain ⟨ue, hen, ren⟩ := T.en
    obtain ⟨hs, hlen⟩ := isTree_seq ht
    have m3 := ok.ms.2.1
    have elv : R.ms.length + 1 - (n + 1) = R.ms.length - n := by omega
    rw [elv]
    have lv1 : 1 ≤ R.ms.length - n := by omega
    have lv2 : R.ms.length - n ≤ R.ms.length := by omega
    have two : 2 ≤ sizeLine := by rw [sizeLine_eq]; exact (by decide : 2 ≤ 16777216)
    -- a row of a role
    have rowDD : ∀ {H' : Hp} {fq t p : Addr} {acc : List V} (b : Bool), H' fq = some (.lst acc) → H' t = some (.tup [.str (kindS b), .int ((R.ms.length - n : Nat) : Int)]) → H' p = some (.tup [.ref t, .str (lineOf R b (R.ms.length - n))]) →
        DD K [fq] H' (.ref p) (rowD ((kindS b, R.ms.length - n), lineOf R b (R.ms.length - n))) := fun {H' fq t p acc} b hf ht hp => by
      have n1 : p ≠ fq := fun z => by rw [z, hf] at hp; cases hp
      have n2 : t ≠ fq := fun z => by rw [z, hf] at ht; cases ht
      exact .tup (.inl (.inl hp)) (by simpa using n1) (.cons (.tup (.inl (.inl ht)) (by simpa using n2) (.cons (.str _) (.cons (.int _) .nil))) (.cons (.str _) .nil))
    refine b_cons (s_ifB false ?_ (fun e => by cases e) (fun _ H1 b1 => b_nil ?_))
    · refine t_cmp (e_name 2 (v := .int ((R.ms.length - n : Nat) : Int)) (e_prop (C.mono (by omega)) CL.c G2 (e_name 0 ⟨rfl, h1, r, R, rfl, hr, c_gt ⟨_, rfl, ?_, But.refl⟩⟩)))
      rw [decide_eq_false (by omega)]
    refine b_cons (s_set (i := 4) (e_lst (a_nil ⟨by rw [sizeLine_eq]; exact (by decide : 0 ≤ 16777216), fun fq hfq => ?_⟩)) C.nd)
    have bf : But [] H1 (upd H1 fq (.lst [])) := But.new hfq
    refine b_cons (s_for C (i_dd0 (((hd.but b1.of).add hfq).but bf.of) hs (fun Q h => e_name 1 h) fun J G vs W hG hvs => ?_))
    have hl := hvs.length
    refine ⟨_, _, _, W, fun i σ H' => (∃ v3 v5, σ = [some (.ref r), some v, some (.int ((R.ms.length - n : Nat) : Int)), v3, some (.ref fq), v5]) ∧ But [] H1 H' ∧ ∃ acc, H' fq = some (.lst acc) ∧ acc.length ≤ 20000 ∧
      DDs K [fq] H' acc ((((items d).take i).flatMap fun p => (((("next" : Str), R.ms.length - n), lineOf R true (R.ms.length - n)) : Row) :: rowsOf R n p).map rowD), ⟨⟨none, none, rfl⟩, bf, [], upd_same, by simp, .nil⟩, fun i σ H' _ h => hG H' fun a o na e => ?_, ?_, ?_⟩
    · have ha : a ≠ fq := fun z => na (by simp [z])
      rw [upd_ne ha] at e
      exact h.2.1 _ _ (by simp) e
    · rintro i x σ H3 H' hi ⟨⟨v3, v5, rfl⟩, b3, acc, hD3, hal, hacc⟩ ⟨rfl, hx⟩
      obtain ⟨dx', hdx, hD⟩ := hvs.get hx
      have hok : isTree R.g n dx' = true := by
        simp only [isTree, Bool.and_eq_true, List.all_eq_true] at ht
        exact ht.2 dx' (List.mem_of_getElem? hdx)
      have hpre := rows_pre (R := R) (n := n) hdx
      have haccl := hacc.length
      rw [List.length_map] at haccl
      refine g_name (i := 5) ?_ C.nd
      -- the head row
      refine b_cons (s_expr (e_append (e_name 4 ⟨fq, rfl, ⟨_, hD3⟩, e_call (C.mono (by omega)) D1 (a_cons (e_name 0 (a_cons (e_tup (a_cons (e_glob (v := .str "next") (a_cons (e_name 2 (a_nil ⟨two, fun t ht => a_nil ?_⟩))) hnx rnx))))) ) rfl (fun _ _ _ _ _ _ us hl => match us, hl with | [_, _], _ => rfl)⟩)))
      have bt : But [] H' (upd H' t (.tup [.str "next", .int ((R.ms.length - n : Nat) : Int)])) := But.new ht
      refine ⟨r, R, t, true, R.ms.length - n, rfl, (hr.but b1 (by simp)).but (b3.trans bt) (by simp), .inl (.inl upd_same), lv1, lv2, ok, fun p H4 b4 hp => ?_⟩
      have hq4 : H4 fq = some (.lst acc) := b4 _ _ (by simp) (bt _ _ (by simp) hD3)
      have ht4 : H4 t = some (.tup [.str (kindS true), .int ((R.ms.length - n : Nat) : Int)]) := b4 _ _ (by simp) upd_same
      refine ⟨acc, hq4, by rw [sizeLine_eq]; omega, ?_⟩
      have b34 : But [] H' H4 := bt.trans b4
      have acc4 : DDs K [fq] (upd H4 fq (.lst (acc ++ [.ref p]))) (acc ++ [.ref p]) (((((items d).take i).flatMap fun p => (((("next" : Str), R.ms.length - n), lineOf R true (R.ms.length - n)) : Row) :: rowsOf R n p).map rowD) ++ [rowD ((kindS true, R.ms.length - n), lineOf R true (R.ms.length - n))]) :=
        (DDs.append (hacc.but b34.of) (.cons (rowDD true hq4 ht4 hp) .nil)).but (But.at (by simp))
      have bu : But [fq] H4 (upd H4 fq (.lst (acc ++ [.ref p]))) := But.at (by simp)
      have hqu : upd H4 fq (.lst (acc ++ [.ref p])) fq = some (.lst (acc ++ [.ref p])) := upd_same
      have b1u : But [] H1 (upd H4 fq (.lst (acc ++ [.ref p]))) := fun a o _ e => by
        rw [upd_ne (ne_of_none e hfq)]
        exact b34 _ _ (by simp) (b3 _ _ (by simp) e)
      have hDu : DD [] (fq :: l) (upd H4 fq (.lst (acc ++ [.ref p]))) x dx' := (hD.but (fun a o na e => by
        have ha : a ≠ fq := fun z => na (by simp [z])
        rw [upd_ne ha] at e
        rw [upd_ne ha]
        exact b34 _ _ (by simp) (b3 _ _ (by simp) e)))
      generalize upd H4 fq (.lst (acc ++ [.ref p])) = H5 at acc4 bu hqu b1u hDu ⊢
      -- the part's rows
      refine b_cons (s_expr (e_extend (e_name 4 (v := .ref fq) ⟨fq, rfl, ⟨_, hqu⟩, e_gives (e_call (C.mono (by omega)) IH (a_cons (e_name 0 (a_cons (e_name 5 (v := x) (a_cons (e_bin (e_name 2 (v := .int ((R.ms.length - n : Nat) : Int)) (e_int (o_add (a_nil ?_)))))))))) rfl (fun _ _ _ _ _ _ us hl => match us, hl with | [_, _, _], _ => rfl))⟩)))
      refine ⟨r, R, x, fq :: l, dx', ?_, by omega, (hr.but b1 (by simp)).but b1u (by simp), ok, hDu, hok, by omega, fun q2 xs2 H6 b6 hq2n hq2 hdd ap => ?_⟩
      · have : ((R.ms.length - n : Nat) : Int) + 1 = ((R.ms.length + 1 - n : Nat) : Int) := by omega
        rw [this]
      have hq6 : H6 fq = some (.lst (acc ++ [.ref p])) := b6 _ _ (by simp) hqu
      have hx2 : xs2.length = (rowsOf R n dx').length := by rw [hdd.length, List.length_map]
      refine ⟨q2, acc ++ [.ref p], xs2, rfl, hq6, hq2, by rw [sizeLine_eq, List.length_append, List.length_singleton]; omega, ?_⟩
      refine b_nil ⟨⟨_, _, rfl⟩, fun a o _ e => ?_, _, upd_same, ?_, ?_⟩
      · rw [upd_ne (ne_of_none e hfq)]
        exact b6 _ _ (by simp) (b1u _ _ (by simp) e)
      · rw [List.length_append, List.length_append, List.length_singleton]
        omega
      · rw [List.take_add_one, hdx, List.flatMap_append, List.map_append]
        have h2 : DDs K [fq] H6 xs2 ((rowsOf R n dx').map rowD) := hdd.avoid ap hq6 (rows_tup _)
        have h3 := (DDs.append (acc4.but b6.of) h2).but (But.at (H := H6) (o := .lst (acc ++ [.ref p] ++ xs2)) (p := fq) (l := [fq]) (by simp))
        have e4 : (((some dx').toList.flatMap fun p => (((("next" : Str), R.ms.length - n), lineOf R true (R.ms.length - n)) : Row) :: rowsOf R n p).map rowD) = rowD ((kindS true, R.ms.length - n), lineOf R true (R.ms.length - n)) :: (rowsOf R n dx').map rowD := by
          simp [kindS]
        rw [e4]
        have e5 : ∀ (A B : List PyData) (x : PyData), (A ++ [x]) ++ B = A ++ (x :: B) := fun A B x => by simp
        rw [e5] at h3
        exact h3
    · rintro σ H3 ⟨⟨v3, v5, rfl⟩, b3, acc, hD3, hal, hacc⟩
      rw [hl, List.take_length] at hacc
      refine b_cons (s_expr (e_append (e_name 4 ⟨fq, rfl, ⟨_, hD3⟩, e_call (C.mono (by omega)) D1 (a_cons (e_name 0 (a_cons (e_tup (a_cons (e_glob (v := .str "end") (a_cons (e_name 2 (a_nil ⟨two, fun t ht => a_nil ?_⟩))) hen ren))))) ) rfl (fun _ _ _ _ _ _ us hl => match us, hl with | [_, _], _ => rfl)⟩)))
      have bt : But [] H3 (upd H3 t (.tup [.str "end", .int ((R.ms.length - n : Nat) : Int)])) := But.new ht
      refine ⟨r, R, t, false, R.ms.length - n, rfl, (hr.but b1 (by simp)).but (b3.trans bt) (by simp), .inl (.inl upd_same), lv1, lv2, ok, fun p H4 b4 hp => ?_⟩
      have hq4 : H4 fq = some (.lst acc) := b4 _ _ (by simp) (bt _ _ (by simp) hD3)
      have ht4 : H4 t = some (.tup [.str (kindS false), .int ((R.ms.length - n : Nat) : Int)]) := b4 _ _ (by simp) upd_same
      refine ⟨acc, hq4, by rw [sizeLine_eq]; omega, ?_⟩
      have b34 : But [] H3 H4 := bt.trans b4
      have acc4 := (DDs.append (hacc.but b34.of) (.cons (rowDD false hq4 ht4 hp) .nil)).but (But.at (H := H4) (o := .lst (acc ++ [.ref p])) (p := fq) (l := [fq]) (by simp))
      refine b_cons (s_ret (e_name 4 (q fq (acc ++ [.ref p]) _ (fun a o _ e => ?_) (b1.free hfq) upd_same ?_)))
      · have e1 := b1 _ _ (by simp) e
        rw [upd_ne (ne_of_none e1 hfq)]
        exact b34 _ _ (by simp) (b3 _ _ (by simp) e1)
      · have e5 : (rowsOf R (n + 1) d).map rowD = (((items d).flatMap fun p => (((("next" : Str), R.ms.length - n), lineOf R true (R.ms.length - n)) : Row) :: rowsOf R n p).map rowD) ++ [rowD ((kindS false, R.ms.length - n), lineOf R false (R.ms.length - n))] := by
          simp [rowsOf, kindS]
        rw [e5]
        exact acc4.less (by simp)
end
end K68

set_option Elab.async false
set_option linter.all false
set_option maxRecDepth 100000
set_option maxHeartbeats 4000000
namespace K68
open PySem PySem.Spec PyProof.Rows L2 Z
/-! ### a tree told -/
def roleD (x : Row) : PyData := .tuple [.str x.1.1, .int x.1.2]
theorem rows_split {K : PySem.W.Frag} {l : List Addr} {H : Hp} : ∀ {xs : List V} {rs : List Row}, DDs K l H xs (rs.map rowD) → ∃ ws, DDs K l H ws (rs.map roleD) ∧ ∀ (i : Nat) x, xs[i]? = some x → ∃ a u y, x = .ref a ∧ SqT K H a [u, .str y] ∧ ws[i]? = some u ∧ (rs.map (·.2))[i]? = some y
  | [], [], _ => ⟨[], .nil, fun i x h => by simp at h⟩
  | _ :: _, r :: rs, h => by
    cases h with
    | cons h1 h2 =>
      obtain ⟨ws, hw, hx⟩ := rows_split h2
      cases h1 with
      | tup ha na hd =>
        cases hd with
        | cons hu hr =>
          cases hr with
          | cons hy hn =>
            cases hn
            cases hy
            refine ⟨_ :: ws, .cons hu hw, fun i x hi => ?_⟩
            cases i with
            | zero =>
              simp at hi
              subst hi
              exact ⟨_, _, _, rfl, ha, rfl, rfl⟩
            | succ i =>
              obtain ⟨a, u, y, e1, e2, e3, e4⟩ := hx i x (by simpa using hi)
              exact ⟨a, u, y, e1, e2, by simpa using e3, by simpa using e4⟩
section
variable {P : Program} {w : World} {K : PySem.W.Frag} {mg : Str → Option Value} {base : Heap} {CR : Addr}
def linesOf (R : RData) (d : PyData) : List Str := (rowsOf R R.ms.length d).map (·.2)
def rolesD (R : RData) (d : PyData) : List PyData := (rowsOf R R.ms.length d).map roleD
def spWritten (CR : Addr) : Sp := fun vs H Q _ => ∃ (r : Addr) (R : RData) (v : V) (l : List Addr) (d : PyData), vs = [.ref r, v] ∧ IsReader CR R H r ∧ R.Ok ∧ DD [] l H v d ∧ isTree R.g R.ms.length d = true ∧ (rowsOf R R.ms.length d).length ≤ 20000 ∧
  ∀ q H', But [] H H' → H q = none → H' q = some (.lst ((linesOf R d).map V.str)) → Q (.ref q) H'
def spTelling (K : PySem.W.Frag) (CR : Addr) : Sp := fun vs H Q _ => ∃ (r : Addr) (R : RData) (v : V) (l : List Addr) (d : PyData), vs = [.ref r, v] ∧ IsReader CR R H r ∧ R.Ok ∧ DD [] l H v d ∧ isTree R.g R.ms.length d = true ∧ (rowsOf R R.ms.length d).length ≤ 20000 ∧
  ∀ q ws H', But [] H H' → H q = none → H' q = some (.lst ws) → DDs K [] H' ws (rolesD R d) → Q (.ref q) H'
theorem scWn : FnScope ["reader", "tree", "what", "line"] ["reader", "tree"] (defScope (top 105)) := ⟨rfl, rfl, rfl, by decide +kernel, rfl, by decide +kernel, by decide +kernel⟩
theorem scOt : FnScope ["reader", "tree", "what", "line"] ["reader", "tree"] (defScope (top 106)) := ⟨rfl, rfl, rfl, by decide +kernel, rfl, by decide +kernel, by decide +kernel⟩
theorem d_written (B : Blt mg base) (D : At K mg "written" (top 105)) (D1 : Def P w K mg base 7 "want_tree" (top 101) ["reader", "tree"] (spTree K CR .non))
    (D2 : ∀ n, Def P w K mg base (n + 8) "written_rows" (top 104) ["reader", "tree", "level"] (spRows K CR n)) : Def P w K mg base 12 "written" (top 105) ["reader", "tree"] (spWritten CR) := by
  refine def_of D B scWn (fun vs H Q E ⟨_, _, _, _, _, e, _⟩ => by rw [e]; rfl) fun f cdv A outer s H vs Q E hm C h => ?_
  obtain ⟨r, R, v, l, d, rfl, hr, ok, hd, ht, hmx, q⟩ := h
  have m3 := ok.ms.2.1
  refine b_cons (s_expr (e_call (C.mono (by decide)) D1 (a_cons (e_name 0 (a_cons (e_name 1 (a_nil ?_))))) rfl (fun _ _ _ _ _ _ us hl => match us, hl with | [_, _], _ => rfl)))
  refine ⟨r, R, v, l, d, rfl, hr, ok, hd.all, ht, fun H1 b1 => ?_⟩
  refine b_cons (s_ret (e_lcM [("what", 2), ("line", 3)] C (i_list (e_call C ((D2 R.ms.length).mono (by omega)) (a_cons (e_name 0 (a_cons (e_name 1 (a_cons (e_int (a_nil ?_))))))) rfl (fun _ _ _ _ _ _ us hl => match us, hl with | [_, _, _], _ => rfl)))))
  refine ⟨r, R, v, l, d, by rw [show R.ms.length + 1 - R.ms.length = 1 by omega]; rfl, Nat.le_refl _, hr.but b1 (by simp), ok, hd.but b1.of, ht, hmx, fun q2 xs H2 b2 hq2n hq2 hdd => ?_⟩
  obtain ⟨ws, hws, hx⟩ := rows_split hdd
  have sq : ∀ {H3}, But [] H2 H3 → SqL K H3 q2 xs := fun b => .inl (.inl (b _ _ (by simp) hq2))
  have hlen : xs.length = (rowsOf R R.ms.length d).length := by rw [hdd.length, List.length_map]
  refine ⟨q2, rfl, ⟨xs, sq But.refl⟩, _, _, _, (linesOf R d).map V.str, walk_list (xs := xs), by rw [hlen]; simp [linesOf], by rw [hlen, sizeLine_eq]; omega, fun H' b => sq b, fun i x H3 H' hi b3 hy => ?_, fun Da H' b3 hn hDa => q Da H' (b1.trans (b2.trans b3)) (b1.free (b2.free hn)) hDa⟩
  obtain ⟨rfl, hxi⟩ := hy
  obtain ⟨a, u, y, rfl, ha, _, hy⟩ := hx i x hxi
  refine ⟨But.refl, mt_pairS (i := 2) (j := 3) rfl C.nd (b3.sqt (by simp) ha) fun s H0 Ca cl fp => e_name 3 ⟨?_, But.refl⟩⟩
  rw [linesOf, List.getElem?_map, hy]
  rfl
theorem d_telling (B : Blt mg base) (D : At K mg "own_telling" (top 106)) (D1 : Def P w K mg base 7 "want_tree" (top 101) ["reader", "tree"] (spTree K CR .non))
    (D2 : ∀ n, Def P w K mg base (n + 8) "written_rows" (top 104) ["reader", "tree", "level"] (spRows K CR n)) : Def P w K mg base 12 "own_telling" (top 106) ["reader", "tree"] (spTelling K CR) := by
  refine def_of D B scOt (fun vs H Q E ⟨_, _, _, _, _, e, _⟩ => by rw [e]; rfl) fun f cdv A outer s H vs Q E hm C h => ?_
  obtain ⟨r, R, v, l, d, rfl, hr, ok, hd, ht, hmx, q⟩ := h
  have m3 := ok.ms.2.1
  refine b_cons (s_expr (e_call (C.mono (by decide)) D1 (a_cons (e_name 0 (a_cons (e_name 1 (a_nil ?_))))) rfl (fun _ _ _ _ _ _ us hl => match us, hl with | [_, _], _ => rfl)))
  refine ⟨r, R, v, l, d, rfl, hr, ok, hd.all, ht, fun H1 b1 => ?_⟩
  refine b_cons (s_ret (e_lcM [("what", 2), ("line", 3)] C (i_list (e_call C ((D2 R.ms.length).mono (by omega)) (a_cons (e_name 0 (a_cons (e_name 1 (a_cons (e_int (a_nil ?_))))))) rfl (fun _ _ _ _ _ _ us hl => match us, hl with | [_, _, _], _ => rfl)))))
  refine ⟨r, R, v, l, d, by rw [show R.ms.length + 1 - R.ms.length = 1 by omega]; rfl, Nat.le_refl _, hr.but b1 (by simp), ok, hd.but b1.of, ht, hmx, fun q2 xs H2 b2 hq2n hq2 hdd => ?_⟩
  obtain ⟨ws, hws, hx⟩ := rows_split hdd
  have sq : ∀ {H3}, But [] H2 H3 → SqL K H3 q2 xs := fun b => .inl (.inl (b _ _ (by simp) hq2))
  have hlen : xs.length = (rowsOf R R.ms.length d).length := by rw [hdd.length, List.length_map]
  refine ⟨q2, rfl, ⟨xs, sq But.refl⟩, _, _, _, ws, walk_list (xs := xs), by rw [hws.length, hlen]; simp, by rw [hlen, sizeLine_eq]; omega, fun H' b => sq b, fun i x H3 H' hi b3 hy => ?_, fun Da H' b3 hn hDa => q Da ws H' (b1.trans (b2.trans b3)) (b1.free (b2.free hn)) hDa (hws.but b3)⟩
  obtain ⟨rfl, hxi⟩ := hy
  obtain ⟨a, u, y, rfl, ha, hu, _⟩ := hx i x hxi
  exact ⟨But.refl, mt_pairS (i := 2) (j := 3) rfl C.nd (b3.sqt (by simp) ha) fun s H0 Ca cl fp => e_name 2 ⟨hu, But.refl⟩⟩
end
end K68

set_option Elab.async false
set_option linter.all false
set_option maxRecDepth 100000
set_option maxHeartbeats 4000000
namespace K68
open PySem PySem.Spec PyProof.Rows L2 Z
/-! ### plain: signs are ASCII -/
theorem strSigns_ascii {g : Str} (h : strSigns g = true) : ∀ c ∈ g.cps.toList, c < 128 := by
  simp only [strSigns, Bool.and_eq_true, List.all_eq_true, decide_eq_true_eq] at h
  exact fun c hc => known_ascii c (h.1.2 c hc)
theorem isLine_ascii {g x : Str} (hg : strSigns g = true) (h : isLine g (.str x) = true) : ∀ c ∈ x.cps.toList, c < 128 := by
  simp only [isLine, List.all_eq_true, decide_eq_true_eq] at h
  exact fun c hc => strSigns_ascii hg c (h c hc)
theorem lay_strs : ∀ {ys : List Str}, (∀ y ∈ ys, ∀ c ∈ y.cps.toList, c < 128) → PyData.canLayAll0 (ys.map PyData.str) = true
  | [], _ => rfl
  | y :: ys, h => by
    simp only [List.map_cons, PyData.canLayAll0, PyData.canLay0, strOk_ascii (h y (by simp)), lay_strs (ys := ys) (fun z hz => h z (List.mem_cons_of_mem _ hz)), Bool.and_self]
theorem shaped_strs {ys : List Str} (h : ∀ y ∈ ys, ∀ c ∈ y.cps.toList, c < 128) : SeqAt.shaped (.list (ys.map PyData.str)) = true := by
  have := depth_strs ys
  have e1 : (PyData.list (ys.map PyData.str)).depth ≤ 64 := by simp only [PyData.depth]; omega
  have e2 : (PyData.list (ys.map PyData.str)).canLay0 = true := by simp only [PyData.canLay0, lay_strs h]
  rw [SeqAt.shaped, e2, decide_eq_true e1]
  rfl
theorem noDict_strs : ∀ ys : List Str, PyData.hasDictAll (ys.map PyData.str) = false
  | [] => rfl
  | y :: ys => by simp only [List.map_cons, PyData.hasDictAll, PyData.hasDict, noDict_strs ys, Bool.or_self]
theorem marks_ascii {R : RData} (ok : R.Ok) : ∀ y ∈ R.ms, ∀ c ∈ y.cps.toList, c < 128 := fun y hy => by
  have := ok.ms.2.2.1 y hy
  simp only [shortLine, Bool.and_eq_true] at this
  exact isLine_ascii ok.g this.1.1
end K68

set_option Elab.async false
set_option linter.all false
set_option maxRecDepth 100000
set_option maxHeartbeats 4000000
namespace K68
open PySem PySem.Spec PyProof.Rows L2 Z
/-! ### which role a line is taken for -/
def lvs (R : RData) (k : Nat) : List Nat := if R.od = "inner" then ((List.range k).map (· + 1)).reverse else (List.range k).map (· + 1)
def askedL (R : RData) (k : Nat) : List (Bool × Nat) := (lvs R k).flatMap fun l => [(false, l), (true, l)]
def roleAt (R : RData) (x : Str) (k : Nat) : Option (Bool × Nat) := (askedL R k).find? fun q => seenP x (lineOf R q.1 q.2) R.si
def kindD (q : Bool × Nat) : PyData := .tuple [.str (kindS q.1), .int q.2]
theorem lvs_mem {R : RData} {k l : Nat} (h : l ∈ lvs R k) : 1 ≤ l ∧ l ≤ k := by
  unfold lvs at h
  split at h
  · rw [List.mem_reverse] at h
    obtain ⟨a, ha, rfl⟩ := List.mem_map.mp h
    rw [List.mem_range] at ha
    omega
  · obtain ⟨a, ha, rfl⟩ := List.mem_map.mp h
    rw [List.mem_range] at ha
    omega
theorem asked_mem {R : RData} {k : Nat} {q : Bool × Nat} (h : q ∈ askedL R k) : 1 ≤ q.2 ∧ q.2 ≤ k := by
  obtain ⟨l, hl, hq⟩ := List.mem_flatMap.mp h
  simp only [List.mem_cons, List.not_mem_nil, or_false] at hq
  rcases hq with rfl | rfl <;> exact lvs_mem hl
theorem lvs_len (R : RData) (k : Nat) : (lvs R k).length = k := by
  unfold lvs
  split <;> simp
theorem role_mem {R : RData} {x : Str} {k : Nat} {q : Bool × Nat} (h : roleAt R x k = some q) : 1 ≤ q.2 ∧ q.2 ≤ k := asked_mem (List.mem_of_find?_eq_some h)
theorem find_at {α : Type} {p : α → Bool} : ∀ {l : List α} {i : Nat} {x : α}, (∀ y ∈ l.take i, p y = false) → l[i]? = some x → p x = true → l.find? p = some x
  | [], i, x, _, h, _ => by simp at h
  | a :: l, 0, x, _, h, hp => by
    simp at h
    subst h
    simp [hp]
  | a :: l, i + 1, x, h0, h, hp => by
    have ha : p a = false := h0 a (by simp)
    rw [List.find?_cons, ha]
    exact find_at (i := i) (fun y hy => h0 y (by simp [hy])) (by simpa using h) hp
theorem find_none {α : Type} {p : α → Bool} {l : List α} (h : ∀ y ∈ l, p y = false) : l.find? p = none := by
  rw [List.find?_eq_none]
  intro x hx
  rw [h x hx]
  simp
theorem dd_pair {K : PySem.W.Frag} {l : List Addr} {H : Hp} {v : V} {q : Bool × Nat} (h : DD K l H v (kindD q)) : ∃ t, v = .ref t ∧ SqT K H t [.str (kindS q.1), .int q.2] := by
  cases h with
  | tup h1 n h2 =>
    cases h2 with
    | cons a r =>
      cases r with
      | cons b r =>
        cases r
        cases a
        cases b
        exact ⟨_, rfl, h1⟩
theorem line_len {R : RData} (ok : R.Ok) {nx : Bool} {lv : Nat} (l1 : 1 ≤ lv) (l2 : lv ≤ R.ms.length) : 1 ≤ (lineOf R nx lv).length ∧ (lineOf R nx lv).length ≤ 15 := by
  have hlt : lv - 1 < R.ms.length := by omega
  have hget : R.ms.getD (lv - 1) "" = R.ms[lv - 1] := by rw [List.getD_eq_getElem?_getD, List.getElem?_eq_getElem hlt]; rfl
  have m12 := ok.ms.2.2.1 _ (List.getElem_mem hlt)
  have t3 := ok.t
  simp only [shortLine, Bool.and_eq_true, decide_eq_true_eq] at m12 t3
  have e : (lineOf R nx lv).cps.toList = R.ms[lv - 1].cps.toList ++ (if nx = true then ("" : Str) else R.t).cps.toList := by
    unfold lineOf
    rw [hget]
    exact TL.tl_append _ _
  have e2 := congrArg List.length e
  rw [List.length_append, lenL, lenL, lenL] at e2
  cases nx with
  | true =>
    rw [if_pos rfl, show ("" : Str).length = 0 from rfl] at e2
    omega
  | false =>
    rw [if_neg (by simp)] at e2
    omega
section
variable {P : Program} {w : World} {K : PySem.W.Frag} {mg : Str → Option Value} {base : Heap} {CR : Addr}
theorem scG4 : FnScope ["self"] ["self"] (defScope (clsAt (top 89) 4)) := ⟨rfl, rfl, rfl, by decide +kernel, rfl, by decide +kernel, by decide +kernel⟩
theorem scG5 : FnScope ["self"] ["self"] (defScope (clsAt (top 89) 5)) := ⟨rfl, rfl, rfl, by decide +kernel, rfl, by decide +kernel, by decide +kernel⟩
theorem scG6 : FnScope ["self"] ["self"] (defScope (clsAt (top 89) 6)) := ⟨rfl, rfl, rfl, by decide +kernel, rfl, by decide +kernel, by decide +kernel⟩
theorem scG7 : FnScope ["self"] ["self"] (defScope (clsAt (top 89) 7)) := ⟨rfl, rfl, rfl, by decide +kernel, rfl, by decide +kernel, by decide +kernel⟩
theorem d_sight (B : Blt mg base) (CL : ClsR K CR) (D : PropAt K CR "sight" "Reader.sight" (clsAt (top 89) 4)) : PropOk P w K mg base 1 CR "sight" (spGet CR fun R => .str R.si) := by
  obtain ⟨pr, f, oc, doc, pm, cdv, ct, od, an, osl, hp, lk, hcd⟩ := D.ex
  refine ⟨pr, f, _, hp, fnok_body B lk hcd scG4 (fun vs H Q E ⟨_, _, e, _⟩ => by rw [e]; rfl) fun A outer s H vs Q E C h => ?_, bind1 fun us hl => match us, hl with | [_], _ => rfl⟩
  obtain ⟨r, R, rfl, hr, q⟩ := h
  obtain ⟨dx, ml, cd, h1, h2, h3⟩ := hr.ex
  exact b_cons (s_ret (e_dget C (e_fld (v := .ref cd) (e_name 0 ⟨rfl, h1, e_str ⟨rfl, DGet.k (k := .inr "sight") h3, q⟩⟩) CL.c CL.n4 rfl)))
theorem d_order (B : Blt mg base) (CL : ClsR K CR) (D : PropAt K CR "order" "Reader.order" (clsAt (top 89) 5)) : PropOk P w K mg base 1 CR "order" (spGet CR fun R => .str R.od) := by
  obtain ⟨pr, f, oc, doc, pm, cdv, ct, od, an, osl, hp, lk, hcd⟩ := D.ex
  refine ⟨pr, f, _, hp, fnok_body B lk hcd scG5 (fun vs H Q E ⟨_, _, e, _⟩ => by rw [e]; rfl) fun A outer s H vs Q E C h => ?_, bind1 fun us hl => match us, hl with | [_], _ => rfl⟩
  obtain ⟨r, R, rfl, hr, q⟩ := h
  obtain ⟨dx, ml, cd, h1, h2, h3⟩ := hr.ex
  exact b_cons (s_ret (e_dget C (e_fld (v := .ref cd) (e_name 0 ⟨rfl, h1, e_str ⟨rfl, DGet.k (k := .inr "order") h3, q⟩⟩) CL.c CL.n4 rfl)))
theorem d_further (B : Blt mg base) (CL : ClsR K CR) (D : PropAt K CR "further" "Reader.further" (clsAt (top 89) 6)) : PropOk P w K mg base 1 CR "further" (spGet CR fun R => .str R.fu) := by
  obtain ⟨pr, f, oc, doc, pm, cdv, ct, od, an, osl, hp, lk, hcd⟩ := D.ex
  refine ⟨pr, f, _, hp, fnok_body B lk hcd scG6 (fun vs H Q E ⟨_, _, e, _⟩ => by rw [e]; rfl) fun A outer s H vs Q E C h => ?_, bind1 fun us hl => match us, hl with | [_], _ => rfl⟩
  obtain ⟨r, R, rfl, hr, q⟩ := h
  obtain ⟨dx, ml, cd, h1, h2, h3⟩ := hr.ex
  exact b_cons (s_ret (e_dget C (e_fld (v := .ref cd) (e_name 0 ⟨rfl, h1, e_str ⟨rfl, DGet.k (k := .inr "further") h3, q⟩⟩) CL.c CL.n4 rfl)))
theorem d_finish (B : Blt mg base) (CL : ClsR K CR) (D : PropAt K CR "finish" "Reader.finish" (clsAt (top 89) 7)) : PropOk P w K mg base 1 CR "finish" (spGet CR fun R => .str R.fi) := by
  obtain ⟨pr, f, oc, doc, pm, cdv, ct, od, an, osl, hp, lk, hcd⟩ := D.ex
  refine ⟨pr, f, _, hp, fnok_body B lk hcd scG7 (fun vs H Q E ⟨_, _, e, _⟩ => by rw [e]; rfl) fun A outer s H vs Q E C h => ?_, bind1 fun us hl => match us, hl with | [_], _ => rfl⟩
  obtain ⟨r, R, rfl, hr, q⟩ := h
  obtain ⟨dx, ml, cd, h1, h2, h3⟩ := hr.ex
  exact b_cons (s_ret (e_dget C (e_fld (v := .ref cd) (e_name 0 ⟨rfl, h1, e_str ⟨rfl, DGet.k (k := .inr "finish") h3, q⟩⟩) CL.c CL.n4 rfl)))
/-! ### a mark seen -/
def sightOk (si : Str) : Prop := si = "whole" ∨ si = "start" ∨ ∃ c, si = ⟨#[c]⟩
theorem sight_ok {R : RData} (ok : R.Ok) : sightOk R.si := by
  have h := ok.si
  unfold wordOk at h
  rw [if_pos rfl] at h
  rcases h with h | h | ⟨c, _, h⟩
  · exact .inl h
  · exact .inr (.inl h)
  · exact .inr (.inr ⟨c, h⟩)
def spSeen : Sp := fun vs H Q _ => ∃ x m si : Str, vs = [.str x, .str m, .str si] ∧ x.length ≤ 100000 ∧ m.length ≤ 100000 ∧ sightOk si ∧ ∀ H', But [] H H' → Q (.bl (seenP x m si)) H'
theorem scSe : FnScope ["line", "mark", "sight"] ["line", "mark", "sight"] (defScope (top 84)) := ⟨rfl, rfl, rfl, by decide +kernel, rfl, by decide +kernel, by decide +kernel⟩
theorem d_isSeen (B : Blt mg base) (D : At K mg "is_seen" (top 84)) : Def P w K mg base 1 "is_seen" (top 84) ["line", "mark", "sight"] spSeen := by
  refine def_of D B scSe (fun vs H Q E ⟨_, _, _, e, _⟩ => by rw [e]; rfl) fun f cdv A outer s H vs Q E hm C h => ?_
  obtain ⟨x, m, si, rfl, hx, hml, hs, hQ⟩ := h
  have zx : x.length ≤ sizeLine := by rw [sizeLine_eq]; omega
  have zm : m.length ≤ sizeLine := by rw [sizeLine_eq]; omega
  refine b_cons (s_ifB (decide (si = "whole")) ?_ (fun e H1 b1 => ?_) (fun e H1 b1 => b_nil ?_))
  · refine t_cmp (e_name 2 (v := .str si) (e_str (c_eq rfl ⟨_, rfl, ?_, But.refl⟩)))
    rw [decide_eq_decide, V.str.injEq]
  · have e := of_decide_eq_true e
    subst e
    refine b_cons (s_ret (e_cmp (e_name 0 (v := .str x) (e_name 1 (v := .str m) (c_eq rfl ?_)))))
    have := hQ H1 b1
    rw [seen_whole] at this
    have e2 : decide (V.str x = V.str m) = decide (x = m) := by rw [decide_eq_decide, V.str.injEq]
    rw [e2]
    exact this
  have e := of_decide_eq_false e
  refine b_cons (s_ifB (decide (si = "start")) ?_ (fun e2 H2 b2 => ?_) (fun e2 H2 b2 => b_nil ?_))
  · refine t_cmp (e_name 2 (v := .str si) (e_str (c_eq rfl ⟨_, rfl, ?_, But.refl⟩)))
    rw [decide_eq_decide, V.str.injEq]
  · have e2 := of_decide_eq_true e2
    subst e2
    refine b_cons (s_ret (e_starts (e_name 0 (v := .str x) ⟨x, rfl, e_name 1 (v := .str m) ⟨m, rfl, ?_⟩⟩)))
    have := hQ H2 (b1.trans b2)
    rwa [seen_start] at this
  have e2 := of_decide_eq_false e2
  obtain ⟨c, rfl⟩ : ∃ c, si = ⟨#[c]⟩ := by
    rcases hs with h | h | h
    · exact absurd h e
    · exact absurd h e2
    · exact h
  have hq := hQ H2 (b1.trans b2)
  rw [seen_sign] at hq
  refine b_cons (s_ret (e_and (e_starts (e_name 0 (v := .str x) ⟨x, rfl, e_name 1 (v := .str m) ⟨m, rfl, _, rfl, ite_b (fun e3 => ?_) fun e3 => ?_⟩⟩))))
  · rw [e3, Bool.true_and] at hq
    have hle : m.length ≤ x.length := by
      rw [starts_eq, decide_eq_true_eq] at e3
      have := congrArg List.length e3
      rw [List.length_take, lenL, lenL] at this
      omega
    refine e_one (e_cmp (e_slice sl_str (e_name 0 (v := .str x) ?_)))
    refine p_some (e_len B (e_name 1 (v := .str m) ⟨m.length, ⟨zm, rfl⟩, m.length, rfl, p_none ⟨x, rfl, zx, ?_⟩⟩))
    refine e_bin (e_name 2 (v := .str ⟨#[c]⟩) (e_bin (e_len B (e_name 0 (v := .str x) ⟨x.length, ⟨zx, rfl⟩, e_len B (e_name 1 (v := .str m) ⟨m.length, ⟨zm, rfl⟩, o_sub (o_mulS (by show 1 ≤ 16; decide) (by omega) (by omega) (c_eq rfl ?_))⟩)⟩))))
    have e4 : decide (V.str (cutS x (some (m.length : Int)) none) = V.str (Txt.mul ⟨#[c]⟩ ((x.length : Int) - (m.length : Int)))) = decide (x.cps.toList.drop m.length = List.replicate (x.length - m.length) c) := by
      rw [decide_eq_decide, V.str.injEq]
      have h1 := cut_from x m.length
      have h2 := mul_one_list c ((x.length : Int) - (m.length : Int))
      rw [show ((x.length : Int) - (m.length : Int)).toNat = x.length - m.length by omega] at h2
      constructor
      · intro h
        rw [← h1, h, h2]
      · intro h
        exact str_ext (by rw [h1, h2, h])
    rw [e4]
    exact hq
  · rw [e3, Bool.false_and] at hq
    exact hq
/-! ### the roles asked -/
def spRoles (K : PySem.W.Frag) : Sp := fun vs H Q _ => ∃ lv : Nat, vs = [.int lv] ∧ ∀ q t1 t2 H', But [] H H' → H q = none → H' q = some (.lst [.ref t1, .ref t2]) → H' t1 = some (.tup [.str "end", .int lv]) → H' t2 = some (.tup [.str "next", .int lv]) → Q (.ref q) H'
theorem scRo : FnScope ["level"] ["level"] (defScope (top 82)) := ⟨rfl, rfl, rfl, by decide +kernel, rfl, by decide +kernel, by decide +kernel⟩
theorem d_rolesOf (B : Blt mg base) (D : At K mg "roles_of" (top 82)) : Def P w K mg base 1 "roles_of" (top 82) ["level"] (spRoles K) := by
  refine def_of D B scRo (fun vs H Q E ⟨_, e, _⟩ => by rw [e]; rfl) fun f cdv A outer s H vs Q E hm C h => ?_
  obtain ⟨lv, rfl, hQ⟩ := h
  have two : 2 ≤ sizeLine := by rw [sizeLine_eq]; exact (by decide : 2 ≤ 16777216)
  refine b_cons (s_ret (e_lst (a_cons (e_tup (a_cons (e_str (a_cons (e_name 0 (v := .int lv) (a_nil ⟨two, fun t1 ht1 => ?_⟩)))))))))
  refine a_cons (e_tup (a_cons (e_str (a_cons (e_name 0 (v := .int lv) (a_nil ⟨two, fun t2 ht2 => a_nil ⟨two, fun q hq => ?_⟩⟩))))))
  have b1 : But [] H (upd H t1 (.tup [.str "end", .int lv])) := But.new ht1
  have b2 : But [] (upd H t1 (.tup [.str "end", .int lv])) (upd (upd H t1 (.tup [.str "end", .int lv])) t2 (.tup [.str "next", .int lv])) := But.new ht2
  have b3 := But.new (l := []) (o := .lst [.ref t1, .ref t2]) hq
  exact hQ q t1 t2 _ (b1.trans (b2.trans b3)) ((b1.trans b2).free hq) upd_same (b3 _ _ (by simp) (b2 _ _ (by simp) upd_same)) (b3 _ _ (by simp) upd_same)
def spAsked (K : PySem.W.Frag) (CR : Addr) : Sp := fun vs H Q _ => ∃ (r : Addr) (R : RData) (k : Nat), vs = [.ref r, .int k] ∧ IsReader CR R H r ∧ R.Ok ∧ k ≤ 3 ∧ ∀ q xs H', But [] H H' → H q = none → H' q = some (.lst xs) → DDs K [] H' xs ((askedL R k).map kindD) → Q (.ref q) H'
theorem scAs : FnScope ["reader", "level", "levels", "open_level", "role"] ["reader", "level"] (defScope (top 85)) := ⟨rfl, rfl, rfl, by decide +kernel, rfl, by decide +kernel, by decide +kernel⟩
theorem rgv_up (k : Nat) : rgV 1 ((k : Int) + 1) = ((List.range k).map (· + 1)).map fun n : Nat => V.int n := by
  unfold rgV
  rw [show ((k : Int) + 1 - 1).toNat = k by omega, List.map_map]
  refine List.map_congr_left fun a _ => ?_
  show V.int (1 + (a : Int)) = V.int ((a + 1 : Nat) : Int)
  rw [show (1 + (a : Int)) = ((a + 1 : Nat) : Int) by omega]
theorem d_asked (B : Blt mg base) (CL : ClsR K CR) (D : At K mg "asked_roles" (top 85)) (G : PropOk P w K mg base 1 CR "order" (spGet CR fun R => .str R.od)) (D1 : Def P w K mg base 1 "roles_of" (top 82) ["level"] (spRoles K)) :
    Def P w K mg base 3 "asked_roles" (top 85) ["reader", "level"] (spAsked K CR) := by
  refine def_of D B scAs (fun vs H Q E ⟨_, _, _, e, _⟩ => by rw [e]; rfl) fun f cdv A outer s H vs Q E hm C h => ?_
  obtain ⟨r, R, k, rfl, hr, ok, hk, hQ⟩ := h
  refine b_cons (s_set (i := 2) (e_listRg2 C (e_int (e_bin (e_name 1 (v := .int k) (e_int (o_add ⟨1, (k : Int) + 1, rfl, rfl, ⟨by omega, by omega, by omega, by omega, by omega⟩, fun q1 hq1 => ?_⟩)))))) C.nd)
  have b1 : But [] H (upd H q1 (.lst (rgV 1 ((k : Int) + 1)))) := But.new hq1
  have e1 : upd H q1 (.lst (rgV 1 ((k : Int) + 1))) q1 = some (.lst (((List.range k).map (· + 1)).map fun n : Nat => V.int n)) := by rw [upd_same, rgv_up]
  have hr1 := hr.but b1 (by simp)
  generalize upd H q1 (.lst (rgV 1 ((k : Int) + 1))) = H1 at b1 e1 hr1 ⊢
  obtain ⟨dx, ml, cd, h1, h2, h3⟩ := hr1.ex
  -- the rest, whatever the list of levels is
  have fin : ∀ (q2 : Addr) (H2 : Hp), But [] H1 H2 → H2 q2 = some (.lst ((lvs R k).map fun n : Nat => V.int n)) →
      wB (bX P w K mg base ["reader", "level", "levels", "open_level", "role"] "asked_roles" (top 85) f cdv A outer s H E) ((defBody (top 85)).drop 2) { nx := fun _ H' => Q .non H', rt := Q } [some (.ref r), some (.int k), some (.ref q2), none, none] H2 := fun q2 H2 b2 e2 => by
    refine b_cons (s_ret (e_lc2 [("open_level", 3), ("role", 4)] [4] C (i_list (e_name 2 (v := .ref q2) ⟨q2, rfl, ⟨_, .inl (.inl e2)⟩, _, _, _, walk_list (xs := (lvs R k).map fun n : Nat => V.int n), fun Dl hDl => ?_⟩)) (by decide)))
    refine ⟨fun i H' => But [] H2 H' ∧ ∃ acc, H' Dl = some (.lst acc) ∧ acc.length = 2 * i ∧ DDs K [Dl] H' acc ((((lvs R k).take i).flatMap fun l => [(false, l), (true, l)]).map kindD), ⟨But.new hDl, [], upd_same, rfl, by simp; exact .nil⟩, fun i H' _ h => .inl (.inl (h.1 _ _ (by simp) e2)), ?_, ?_⟩
    · rintro i x H3 H' hi ⟨b3, acc, hD3, hal, hacc⟩ ⟨rfl, hx⟩
      rw [List.length_map, lvs_len] at hi
      rw [List.getElem?_map, Option.map_eq_some_iff] at hx
      obtain ⟨l, hl, rfl⟩ := hx
      intro s0 H0 Ca cl fp
      refine g_name (i := 3) ⟨rfl, fun s0 H0 Ca cl fp => i_list (e_call ((C.mono (by decide)).blk _ _ _ _ _) D1 (a_cons (e_name 3 (v := .int l) (a_nil ?_))) rfl (fun _ _ _ _ _ _ us hl => match us, hl with | [_], _ => rfl))⟩ C.nd
      refine ⟨l, rfl, fun q4 t1 t2 H4 b4 hq4n hq4 ht1 ht2 => ⟨q4, rfl, ⟨_, .inl (.inl hq4)⟩, _, _, _, walk_list (xs := [.ref t1, .ref t2]), ?_⟩⟩
      have hD4 := b4 _ _ (by simp) hD3
      have nqD : q4 ≠ Dl := fun z => by rw [z, hD3] at hq4n; cases hq4n
      have n1 : t1 ≠ Dl := fun z => by rw [z, hD4] at ht1; cases ht1
      have n2 : t2 ≠ Dl := fun z => by rw [z, hD4] at ht2; cases ht2
      refine ⟨fun j H' => But [Dl] H4 H' ∧ ∃ acc', H' Dl = some (.lst acc') ∧ acc' = acc ++ ([V.ref t1, .ref t2].take j), ⟨But.refl, acc, hD4, by simp⟩, fun j H' _ h => .inl (.inl (h.1 _ _ (by simpa using nqD) hq4)), ?_, ?_⟩
      · rintro j y H5 H' hj ⟨b5, acc', hD5, rfl⟩ ⟨rfl, hy⟩
        have hj2 : j < 2 := hj
        intro s0 H0 Ca cl fp
        refine g_name (i := 4) ⟨rfl, fun s0 H0 Ca cl fp => e_name 4 (v := y) ⟨_, hD5, by rw [sizeLine_eq, List.length_append, hal, List.length_take]; omega, b5.trans (But.at (by simp)), _, upd_same, ?_⟩⟩ C.nd
        rw [List.take_add_one, hy, List.append_assoc]
        rfl
      · rintro H5 ⟨b5, acc', hD5, rfl⟩
        refine ⟨fun a o _ e => ?_, _, hD5, by simp [hal]; omega, ?_⟩
        · have ha : a ≠ Dl := ne_of_none e hDl
          exact b5 _ _ (by simpa using ha) (b4 _ _ (by simp) (b3 _ _ (by simp) e))
        · rw [List.take_add_one, hl, List.flatMap_append, List.map_append]
          have x1 := (hacc.but b4.of).but b5
          have x2 : DDs K [Dl] H5 [.ref t1, .ref t2] ([(false, l), (true, l)].map kindD) :=
            .cons (.tup (.inl (.inl (b5 _ _ (by simpa using n1) ht1))) (by simpa using n1) (.cons (.str _) (.cons (.int _) .nil))) (.cons (.tup (.inl (.inl (b5 _ _ (by simpa using n2) ht2))) (by simpa using n2) (.cons (.str _) (.cons (.int _) .nil))) .nil)
          have := DDs.append x1 x2
          simpa using this
    · rintro H3 ⟨b3, acc, hD3, hal, hacc⟩
      rw [List.length_map, List.take_length] at hacc
      exact hQ Dl acc H3 (b1.trans (b2.trans b3)) (b1.free (b2.free hDl)) hD3 (hacc.less (by simp))
  refine b_cons (s_ifB (decide (R.od = "inner")) ?_ (fun e H2 b2 => ?_) (fun e H2 b2 => b_nil ?_))
  · refine t_cmp (e_prop (C.mono (by decide)) CL.c G (e_name 0 ⟨rfl, h1, r, R, rfl, hr1, e_str (c_eq rfl ⟨_, rfl, ?_, But.refl⟩)⟩))
    rw [decide_eq_decide, V.str.injEq]
  · have e := of_decide_eq_true e
    refine b_cons (s_set (i := 2) (e_rev (e_name 2 (v := .ref q1) ⟨q1, _, rfl, .inl (.inl (b2 _ _ (by simp) e1)), fun p hp => b_nil (fin p _ (b2.trans (But.new hp)) ?_)⟩)) C.nd)
    rw [upd_same, lvs, if_pos e, List.map_reverse]
  · have e := of_decide_eq_false e
    refine fin q1 H2 b2 ?_
    rw [b2 _ _ (by simp) e1, lvs, if_neg e]
/-! ### the role for which a line is taken -/
def spTaken (K : PySem.W.Frag) (CR : Addr) : Sp := fun vs H Q _ => ∃ (r : Addr) (R : RData) (x : Str) (k : Nat), vs = [.ref r, .str x, .int k] ∧ IsReader CR R H r ∧ R.Ok ∧ 1 ≤ k ∧ k ≤ R.ms.length ∧ isLine R.g (.str x) = true ∧ x.length ≤ 1000 ∧
  (roleAt R x k = none → ∀ H', But [] H H' → Q .non H') ∧ (∀ q t H', roleAt R x k = some q → But [] H H' → SqT K H' t [.str (kindS q.1), .int q.2] → Q (.ref t) H')
theorem scTk : FnScope ["reader", "line", "level", "role"] ["reader", "line", "level"] (defScope (top 86)) := ⟨rfl, rfl, rfl, by decide +kernel, rfl, by decide +kernel, by decide +kernel⟩
theorem d_taken (B : Blt mg base) (CL : ClsR K CR) (D : At K mg "role_taken" (top 86)) (G : PropOk P w K mg base 1 CR "sight" (spGet CR fun R => .str R.si)) (D1 : Def P w K mg base 3 "asked_roles" (top 85) ["reader", "level"] (spAsked K CR))
    (D2 : Def P w K mg base 1 "is_seen" (top 84) ["line", "mark", "sight"] spSeen) (D3 : Def P w K mg base 3 "line_of_role" (top 83) ["reader", "role"] (spRole K CR fun R nx lv => .str (lineOf R nx lv))) :
    Def P w K mg base 4 "role_taken" (top 86) ["reader", "line", "level"] (spTaken K CR) := by
  refine def_of D B scTk (fun vs H Q E ⟨_, _, _, _, e, _⟩ => by rw [e]; rfl) fun f cdv A outer s H vs Q E hm C h => ?_
  obtain ⟨r, R, x, k, rfl, hr, ok, k1, k2, hx, hxl, hN, hS⟩ := h
  have m3 := ok.ms.2.1
  refine b_cons (s_for C (i_list (e_call C D1 (a_cons (e_name 0 (v := .ref r) (a_cons (e_name 2 (v := .int k) (a_nil ?_))))) rfl (fun _ _ _ _ _ _ us hl => match us, hl with | [_, _], _ => rfl))))
  refine ⟨r, R, k, rfl, hr, ok, by omega, fun q xs H1 b1 hqn hq hdd => ⟨q, rfl, ⟨xs, .inl (.inl hq)⟩, _, _, _, walk_list (xs := xs), ?_⟩⟩
  have hlen : xs.length = (askedL R k).length := by rw [hdd.length, List.length_map]
  refine ⟨fun i σ H' => (∃ v3, σ = [some (.ref r), some (.str x), some (.int k), v3]) ∧ But [] H1 H' ∧ ∀ y ∈ (askedL R k).take i, seenP x (lineOf R y.1 y.2) R.si = false, ⟨⟨none, rfl⟩, But.refl, by simp⟩, fun i σ H' _ h => .inl (.inl (h.2.1 _ _ (by simp) hq)), ?_, ?_⟩
  · rintro i v σ H3 H' hi ⟨⟨v3, rfl⟩, b3, hno⟩ ⟨rfl, hv⟩
    obtain ⟨d, hd, hD⟩ := hdd.get hv
    rw [List.getElem?_map, Option.map_eq_some_iff] at hd
    obtain ⟨y, hy, rfl⟩ := hd
    obtain ⟨t, rfl, ht⟩ := dd_pair (hD.but b3)
    have hym := asked_mem (List.mem_of_getElem? hy)
    have hr3 := hr.but (b1.trans b3) (by simp)
    have ll := line_len ok (nx := y.1) hym.1 (by omega)
    refine g_name (i := 3) ?_ C.nd
    refine b_cons (s_ifB (seenP x (lineOf R y.1 y.2) R.si) ?_ (fun e H4 b4 => ?_) (fun e H4 b4 => b_nil (b_nil ⟨⟨_, rfl⟩, b3.trans b4, ?_⟩)))
    · refine t_val (e_call (C.mono (by decide)) D2 (a_cons (e_name 1 (v := .str x) (a_cons (e_call C D3 (a_cons (e_name 0 (v := .ref r) (a_cons (e_name 3 (v := .ref t) (a_nil ?_))))) rfl (fun _ _ _ _ _ _ us hl => match us, hl with | [_, _], _ => rfl))))) rfl (fun _ _ _ _ _ _ us hl => match us, hl with | [_, _, _], _ => rfl))
      refine ⟨r, R, t, y.1, y.2, rfl, hr3, ht, hym.1, by omega, ok, fun H5 b5 => ?_⟩
      have hr5 := hr3.but b5 (by simp)
      obtain ⟨dx, ml, cd, g1, _, _⟩ := hr5.ex
      refine a_cons (e_prop (C.mono (by decide)) CL.c G (e_name 0 ⟨rfl, g1, r, R, rfl, hr5, a_nil ⟨x, _, R.si, rfl, by omega, by omega, sight_ok ok, fun H6 b6 => ⟨_, rfl, rfl, b5.trans b6⟩⟩⟩))
    · refine b_cons (s_ret (e_name 3 (v := .ref t) (hS y t H4 (find_at hno hy e) (b1.trans (b3.trans b4)) (b4.sqt (by simp) ht))))
    · intro z hz
      rw [List.take_add_one, hy, List.mem_append] at hz
      rcases hz with hz | hz
      · exact hno z hz
      · simp only [Option.toList_some, List.mem_singleton] at hz
        rw [hz]
        exact e
  · rintro σ H3 ⟨⟨v3, rfl⟩, b3, hno⟩
    rw [hlen, List.take_length] at hno
    exact b_cons (s_ret (e_none (hN (find_none hno) H3 (b1.trans b3))))
def spWantLine (K : PySem.W.Frag) : Sp := fun vs H Q _ => ∃ g x : Str, vs = [.str g, .str x] ∧ isLine g (.str x) = true ∧ x.length ≤ 1000 ∧ ∀ H', But [] H H' → Q .non H'
theorem scWl : FnScope ["signs", "line"] ["signs", "line"] (defScope (top 30)) := ⟨rfl, rfl, rfl, by decide +kernel, rfl, by decide +kernel, by decide +kernel⟩
theorem d_wantLine (B : Blt mg base) (D : At K mg "want_line" (top 30)) (D1 : Def P w K mg base 1 "is_line" (top 29) ["signs", "value"] (spLine K)) : Def P w K mg base 2 "want_line" (top 30) ["signs", "line"] (spWantLine K) := by
  refine def_of D B scWl (fun vs H Q E ⟨_, _, e, _⟩ => by rw [e]; rfl) fun f cdv A outer s H vs Q E hm C h => ?_
  obtain ⟨g, x, rfl, hx, hxl, hQ⟩ := h
  refine b_cons (s_ifB false ?_ (fun e => by cases e) (fun _ H1 b1 => b_nil (b_nil (hQ H1 b1))))
  refine t_not (t_val (e_call C D1 (a_cons (e_name 0 (a_cons (e_name 1 (a_nil ?_))))) rfl (fun _ _ _ _ _ _ us hl => match us, hl with | [_, _], _ => rfl)))
  exact ⟨g, _, [], .str x, rfl, .str x, by show x.length ≤ _; rw [sizeLine_eq]; omega, fun H' b => ⟨_, rfl, by rw [hx]; rfl, b⟩⟩
theorem scWv : FnScope ["reader", "value"] ["reader", "value"] (defScope (top 79)) := ⟨rfl, rfl, rfl, by decide +kernel, rfl, by decide +kernel, by decide +kernel⟩
def spWantLevel (CR : Addr) : Sp := fun vs H Q _ => ∃ (r : Addr) (R : RData) (lv : Nat), vs = [.ref r, .int lv] ∧ IsReader CR R H r ∧ 1 ≤ lv ∧ lv ≤ R.ms.length ∧ ∀ H', But [] H H' → Q .non H'
theorem d_wantLevel (B : Blt mg base) (D : At K mg "want_level" (top 79)) (D1 : Def P w K mg base 3 "is_level" (top 78) ["reader", "value"] (spLevel CR)) : Def P w K mg base 4 "want_level" (top 79) ["reader", "value"] (spWantLevel CR) := by
  refine def_of D B scWv (fun vs H Q E ⟨_, _, _, e, _⟩ => by rw [e]; rfl) fun f cdv A outer s H vs Q E hm C h => ?_
  obtain ⟨r, R, lv, rfl, hr, l1, l2, hQ⟩ := h
  refine b_cons (s_ifB false ?_ (fun e => by cases e) (fun _ H1 b1 => b_nil (b_nil (hQ H1 b1))))
  refine t_not (t_val (e_call C D1 (a_cons (e_name 0 (a_cons (e_name 1 (a_nil ?_))))) rfl (fun _ _ _ _ _ _ us hl => match us, hl with | [_, _], _ => rfl)))
  exact ⟨r, R, lv, rfl, hr, l1, l2, fun H' b => ⟨_, rfl, rfl, b⟩⟩
theorem scRa : FnScope ["self", "line", "level"] ["self", "line", "level"] (defScope (clsAt (top 89) 17)) := ⟨rfl, rfl, rfl, by decide +kernel, rfl, by decide +kernel, by decide +kernel⟩
theorem d_roleAt (B : Blt mg base) (CL : ClsR K CR) (D : MethAt K CR "role_at" "Reader.role_at" (clsAt (top 89) 17)) (D1 : Def P w K mg base 2 "want_line" (top 30) ["signs", "line"] (spWantLine K)) (D2 : Def P w K mg base 4 "want_level" (top 79) ["reader", "value"] (spWantLevel CR))
    (D3 : Def P w K mg base 4 "role_taken" (top 86) ["reader", "line", "level"] (spTaken K CR)) : MethOk P w K mg base 5 CR "role_at" ["self", "line", "level"] (spTaken K CR) := by
  obtain ⟨f, oc, doc, pm, cdv, ct, od, an, osl, hp, lk, hcd⟩ := D.ex
  refine ⟨f, _, hp, fnok_body B lk hcd scRa (fun vs H Q E ⟨_, _, _, _, e, _⟩ => by rw [e]; rfl) fun A outer s H vs Q E C h => ?_, Binds.all fun us hl => match us, hl with | [_, _, _], _ => rfl⟩
  obtain ⟨r, R, x, k, rfl, hr, ok, k1, k2, hx, hxl, hN, hS⟩ := h
  obtain ⟨dx, ml, cd, h1, h2, h3⟩ := hr.ex
  refine b_cons (s_expr (e_call (C.mono (by decide)) D1 (a_cons (e_fld (v := .str R.g) (e_name 0 ⟨rfl, h1, a_cons (e_name 1 (v := .str x) (a_nil ?_))⟩) CL.c CL.n1 rfl)) rfl (fun _ _ _ _ _ _ us hl => match us, hl with | [_, _], _ => rfl)))
  refine ⟨R.g, x, rfl, hx, hxl, fun H1 b1 => ?_⟩
  refine b_cons (s_expr (e_call C D2 (a_cons (e_name 0 (v := .ref r) (a_cons (e_name 2 (v := .int k) (a_nil ?_))))) rfl (fun _ _ _ _ _ _ us hl => match us, hl with | [_, _], _ => rfl)))
  refine ⟨r, R, k, rfl, hr.but b1 (by simp), k1, k2, fun H2 b2 => ?_⟩
  refine b_cons (s_ret (e_call C D3 (a_cons (e_name 0 (v := .ref r) (a_cons (e_name 1 (v := .str x) (a_cons (e_name 2 (v := .int k) (a_nil ?_))))))) rfl (fun _ _ _ _ _ _ us hl => match us, hl with | [_, _, _], _ => rfl)))
  exact ⟨r, R, x, k, rfl, hr.but (b1.trans b2) (by simp), ok, k1, k2, hx, hxl, fun e H' b => hN e H' (b1.trans (b2.trans b)), fun q t H' e b ht => hS q t H' e (b1.trans (b2.trans b)) ht⟩
end
end K68

set_option Elab.async false
set_option linter.all false
set_option maxRecDepth 100000
set_option maxHeartbeats 4000000
namespace K68
open PySem PySem.Spec PyProof.Rows L2 Z LamX
/-! ### plain: how a reader goes through a message -/
abbrev Stand := Nat × Bool
def wordS (b : Bool) : Str := if b = true then "body" else "wait"
def standD (s : Stand) : PyData := .tuple [.int s.1, .str (wordS s.2)]
def lineD : PyData := .tuple [.str "line", .int 0]
/-- what a line is told as, and the next stand; none if the message is refused -/
def step (R : RData) (s : Stand) (x : Str) : Option (PyData × Stand) :=
  if s.1 = 0 then none
  else match roleAt R x s.1 with
    | none => if s.2 = true then some (lineD, s) else none
    | some q => if q.2 < s.1 ∧ R.fu = "refuse" then none
      else if q.1 = false then some (kindD q, (q.2 - 1, false))
      else some (kindD q, if q.2 = R.ms.length then (q.2, true) else (q.2 + 1, false))
def goes (R : RData) : Stand → List Str → List (PyData × Stand)
  | _, [] => []
  | s, x :: r => match step R s x with
    | none => []
    | some p => p :: goes R p.2 r
def lastS (s : Stand) (gs : List (PyData × Stand)) : Stand := (gs.getLast?.map (·.2)).getD s
theorem lastS_cons {s : Stand} {p : PyData × Stand} {gs : List (PyData × Stand)} : lastS s (p :: gs) = lastS p.2 gs := by
  cases gs with
  | nil => rfl
  | cons q r =>
    unfold lastS
    rw [List.getLast?_cons_cons]
    cases hy : (q :: r).getLast? with
    | none => simp at hy
    | some y => rfl
theorem lastS_snoc {s : Stand} {p : PyData × Stand} {gs : List (PyData × Stand)} : lastS s (gs ++ [p]) = p.2 := by simp [lastS]
theorem goes_len {R : RData} : ∀ {s : Stand} {ls : List Str}, (goes R s ls).length ≤ ls.length
  | _, [] => Nat.le_refl _
  | s, x :: r => by
    unfold goes
    split
    · simp
    · rename_i p e
      have := goes_len (R := R) (s := p.2) (ls := r)
      simp only [List.length_cons]
      omega
theorem goes_snoc {R : RData} : ∀ {ls : List Str} {s : Stand} {x : Str}, (goes R s ls).length = ls.length → goes R s (ls ++ [x]) = match step R (lastS s (goes R s ls)) x with
    | none => goes R s ls
    | some p => goes R s ls ++ [p]
  | [], s, x, _ => by
    show (match step R s x with | none => [] | some p => p :: goes R p.2 []) = _
    show _ = (match step R s x with | none => [] | some p => [] ++ [p])
    cases step R s x <;> rfl
  | y :: ls, s, x, h => by
    cases e : step R s y with
    | none =>
      rw [goes, e] at h
      simp at h
    | some p =>
      have h1 : goes R s (y :: ls) = p :: goes R p.2 ls := by rw [goes, e]
      have h2 : goes R s (y :: ls ++ [x]) = p :: goes R p.2 (ls ++ [x]) := by
        show goes R s (y :: (ls ++ [x])) = _
        rw [goes, e]
      rw [h1] at h ⊢
      rw [h2, lastS_cons, goes_snoc (ls := ls) (by simpa using h)]
      cases step R (lastS p.2 (goes R p.2 ls)) x <;> rfl
/-- it stops where a step tells nothing -/
theorem goes_stop {R : RData} : ∀ {ls : List Str} {s : Stand} {x : Str} {r : List Str}, (goes R s ls).length = ls.length → step R (lastS s (goes R s ls)) x = none → goes R s (ls ++ x :: r) = goes R s ls
  | [], s, x, r, _, h => by
    show (match step R s x with | none => [] | some p => p :: goes R p.2 r) = []
    have h' : step R s x = none := h
    rw [h']
  | y :: ls, s, x, r, hl, h => by
    cases e : step R s y with
    | none =>
      rw [goes, e] at hl
      simp at hl
    | some p =>
      have h1 : goes R s (y :: ls) = p :: goes R p.2 ls := by rw [goes, e]
      have h2 : goes R s (y :: ls ++ x :: r) = p :: goes R p.2 (ls ++ x :: r) := by
        show goes R s (y :: (ls ++ x :: r)) = _
        rw [goes, e]
      rw [h1] at hl h ⊢
      rw [lastS_cons] at h
      rw [h2, goes_stop (ls := ls) (by simpa using hl) h]
theorem step_ok {R : RData} {s s' : Stand} {x : Str} {d : PyData} (h : step R s x = some (d, s')) (hs : s.1 ≤ R.ms.length) : s'.1 ≤ R.ms.length ∧ tupOnly d = true := by
  unfold step at h
  split at h
  · cases h
  · split at h
    · split at h
      · cases h
        exact ⟨hs, rfl⟩
      · cases h
    · rename_i q hq
      have hm := role_mem hq
      split at h
      · cases h
      · split at h
        · cases h
          exact ⟨by show q.2 - 1 ≤ _; omega, rfl⟩
        · cases h
          refine ⟨?_, rfl⟩
          split
          · show q.2 ≤ _; omega
          · show q.2 + 1 ≤ _; omega
theorem goes_ok {R : RData} : ∀ {ls : List Str} {s : Stand}, s.1 ≤ R.ms.length → ∀ p ∈ goes R s ls, p.2.1 ≤ R.ms.length ∧ tupOnly p.1 = true
  | [], _, _, p, h => by simp [goes] at h
  | x :: ls, s, hs, p, h => by
    cases e : step R s x with
    | none => rw [goes, e] at h; simp at h
    | some q =>
      rw [goes, e] at h
      have hq := step_ok (d := q.1) (s' := q.2) e hs
      rcases List.mem_cons.mp h with h | h
      · rw [h]; exact hq
      · exact goes_ok (ls := ls) hq.1 p h
theorem last_ok {R : RData} {ls : List Str} {s : Stand} (hs : s.1 ≤ R.ms.length) : (lastS s (goes R s ls)).1 ≤ R.ms.length := by
  unfold lastS
  cases h : (goes R s ls).getLast? with
  | none => exact hs
  | some p => exact (goes_ok hs p (List.mem_of_getLast? h)).1
def start1 : Stand := (1, false)
def toldD (R : RData) (ls : List Str) : List PyData := (goes R start1 ls).map (·.1)
def courseD (R : RData) (ls : List Str) : List PyData := standD start1 :: (goes R start1 ls).map fun p => standD p.2
def refusedB (R : RData) (ls : List Str) : Bool := decide ((goes R start1 ls).length < ls.length) || (!decide (lastS start1 (goes R start1 ls) = (0, false)) && decide (R.fi = "refuse"))
theorem tup_told (R : RData) (hm : 1 ≤ R.ms.length) (ls : List Str) : tupOnlyAll (toldD R ls) = true := tupOnlyAll_of fun d hd => by
  obtain ⟨p, hp, rfl⟩ := List.mem_map.mp hd
  exact (goes_ok (s := start1) hm p hp).2
theorem tup_course (R : RData) (ls : List Str) : tupOnlyAll (courseD R ls) = true := tupOnlyAll_of fun d hd => by
  rcases List.mem_cons.mp hd with rfl | hd
  · rfl
  · obtain ⟨p, hp, rfl⟩ := List.mem_map.mp hd
    rfl
theorem course_last {R : RData} {ls : List Str} : (courseD R ls).getLast? = some (standD (lastS start1 (goes R start1 ls))) := by
  unfold courseD lastS
  cases h : (goes R start1 ls).getLast? with
  | none =>
    rw [List.getLast?_eq_none_iff.mp h]
    rfl
  | some p =>
    obtain ⟨gs, hg⟩ := List.getLast?_eq_some_iff.mp h
    rw [hg, List.map_append, ← List.cons_append, List.getLast?_append]
    rfl
theorem eqv_stand (a : Stand) : PyData.eqv (standD a) (standD (0, false)) = decide (a = (0, false)) := by
  obtain ⟨n, b⟩ := a
  rw [Bool.eq_iff_iff]
  cases b
  · simp [standD, PyData.eqv, PyData.eqvAll, wordS]
  · have : ¬ (Str.ofString "body" = Str.ofString "wait") := by decide
    simp [standD, PyData.eqv, PyData.eqvAll, wordS, this]
structure Ends11 (K : PySem.W.Frag) (mg : Str → Option Value) : Prop where
  en : ∃ u, mg "END" = some u ∧ RelV (.str "end") u
  wt : ∃ u, mg "WAIT" = some u ∧ RelV (.str "wait") u
  bo : ∃ u, mg "BODY" = some u ∧ RelV (.str "body") u
  re : ∃ u, mg "REFUSE" = some u ∧ RelV (.str "refuse") u
  ln : ∃ t, mg "TOLD_LINE" = some (.ref t) ∧ ∀ H, SqT K H t [.str "line", .int 0]
  st : ∃ t, mg "START" = some (.ref t) ∧ ∀ H, SqT K H t [.int 1, .str "wait"]
  dn : ∃ t, mg "DONE" = some (.ref t) ∧ ∀ H, SqT K H t [.int 0, .str "wait"]
theorem dd_stand {K : PySem.W.Frag} {l : List Addr} {H : Hp} {v : V} {s : Stand} (h : DD K l H v (standD s)) : ∃ t, v = .ref t ∧ SqT K H t [.int s.1, .str (wordS s.2)] := by
  cases h with
  | tup h1 n h2 =>
    cases h2 with
    | cons a r =>
      cases r with
      | cons b r =>
        cases r
        cases a
        cases b
        exact ⟨_, rfl, h1⟩
theorem stand_dd {K : PySem.W.Frag} {l : List Addr} {H : Hp} {t : Addr} {s : Stand} (h : SqT K H t [.int s.1, .str (wordS s.2)]) (n : t ∉ l) : DD K l H (.ref t) (standD s) := .tup h n (.cons (.int _) (.cons (.str _) .nil))
theorem kind_dd {K : PySem.W.Frag} {l : List Addr} {H : Hp} {t : Addr} {q : Bool × Nat} (h : SqT K H t [.str (kindS q.1), .int q.2]) (n : t ∉ l) : DD K l H (.ref t) (kindD q) := .tup h n (.cons (.str _) (.cons (.int _) .nil))
section
variable {P : Program} {w : World} {K : PySem.W.Frag} {mg : Str → Option Value} {base : Heap} {CR : Addr}
def spNext (K : PySem.W.Frag) (CR : Addr) : Sp := fun vs H Q _ => ∃ (r : Addr) (R : RData) (t : Addr) (st : Stand) (x : Str), vs = [.ref r, .ref t, .str x] ∧ IsReader CR R H r ∧ R.Ok ∧ SqT K H t [.int st.1, .str (wordS st.2)] ∧ st.1 ≤ R.ms.length ∧ isLine R.g (.str x) = true ∧ x.length ≤ 1000 ∧
  (step R st x = none → ∀ H', But [] H H' → Q .non H') ∧
  (∀ d st', step R st x = some (d, st') → ∀ p u s' H', But [] H H' → H' p = some (.tup [u, .ref s']) → DD K [] H' u d → SqT K H' s' [.int st'.1, .str (wordS st'.2)] → Q (.ref p) H')
theorem scNs : FnScope ["reader", "stand", "line", "level", "word", "role", "kind", "place"] ["reader", "stand", "line"] (defScope (top 107)) := ⟨rfl, rfl, rfl, by decide +kernel, rfl, by decide +kernel, by decide +kernel⟩
theorem kindS_inj {b : Bool} : decide (V.str (kindS b) = V.str "end") = !b := by cases b <;> rfl
theorem d_nextStand (B : Blt mg base) (CL : ClsR K CR) (T : Ends11 K mg) (D : At K mg "next_stand" (top 107)) (M : MethOk P w K mg base 5 CR "role_at" ["self", "line", "level"] (spTaken K CR))
    (G1 : PropOk P w K mg base 1 CR "further" (spGet CR fun R => .str R.fu)) (G2 : PropOk P w K mg base 1 CR "depth" (spGet CR fun R => .int (R.ms.length : Nat))) :
    Def P w K mg base 6 "next_stand" (top 107) ["reader", "stand", "line"] (spNext K CR) := by
  refine def_of D B scNs (fun vs H Q E ⟨_, _, _, _, _, e, _⟩ => by rw [e]; rfl) fun f cdv A outer s H vs Q E hm C h => ?_
  obtain ⟨r, R, t, st, x, rfl, hr, ok, ht, hst, hx, hxl, hN, hS⟩ := h
  obtain ⟨dx, ml, cd, h1, h2, h3⟩ := hr.ex
  obtain ⟨uE, hE, rE⟩ := T.en
  obtain ⟨uW, hW, rW⟩ := T.wt
  obtain ⟨uB, hB, rB⟩ := T.bo
  obtain ⟨uR, hR, rR⟩ := T.re
  obtain ⟨tl, hL, sL⟩ := T.ln
  have two : 2 ≤ sizeLine := by rw [sizeLine_eq]; exact (by decide : 2 ≤ 16777216)
  have m1 := ok.ms.1
  refine b_cons (s_asg (e_name 1 (v := .ref t) (g_tup (gs_cons (g_name (i := 3) (gs_cons (g_name (i := 4) (gs_nil ?_) C.nd)) C.nd)) rfl ht)))
  refine b_cons (s_ifB (decide (st.1 = 0)) ?_ (fun e H1 b1 => ?_) (fun e H1 b1 => b_nil ?_))
  · refine t_cmp (e_name 3 (v := .int st.1) (e_int (c_eq rfl ⟨_, rfl, ?_, But.refl⟩)))
    rw [decide_eq_decide, V.int.injEq]
    omega
  · have e := of_decide_eq_true e
    refine b_cons (s_ret (e_none (hN ?_ H1 b1)))
    rw [step, if_pos e]
  have e := of_decide_eq_false e
  have hstep : step R st x = (match roleAt R x st.1 with
    | none => if st.2 = true then some (lineD, st) else none
    | some q => if q.2 < st.1 ∧ R.fu = "refuse" then none
      else if q.1 = false then some (kindD q, (q.2 - 1, false))
      else some (kindD q, if q.2 = R.ms.length then (q.2, true) else (q.2 + 1, false))) := by rw [step, if_neg e]
  refine b_cons (s_set (i := 5) (e_meth (C.mono (by decide)) CL.c M (e_name 0 ⟨rfl, b1 _ _ (by simp) h1, rfl, a_cons (e_name 2 (v := .str x) (a_cons (e_name 3 (v := .int st.1) (a_nil ?_))))⟩)) C.nd)
  refine ⟨r, R, x, st.1, rfl, hr.but b1 (by simp), ok, by omega, hst, hx, hxl, fun er H2 b2 => ?_, fun q tq H2 er b2 htq => ?_⟩
  · rw [er] at hstep
    refine b_cons (s_ifB true ?_ (fun _ H3 b3 => ?_) (fun e => by cases e))
    · exact t_cmp (e_name 5 (v := .non) (e_none (c_isN ⟨_, rfl, rfl, But.refl⟩)))
    · refine b_cons (s_ret (e_if (t_cmp (e_name 4 (v := .str (wordS st.2)) (e_glob (v := .str "body") (c_eq rfl ⟨st.2, ?_, ite_b (fun e2 => ?_) fun e2 => ?_⟩) hB rB)))))
      · cases st.2 <;> rfl
      · refine e_tup (a_cons (e_glob (v := .ref tl) (a_cons (e_name 1 (v := .ref t) (a_nil ⟨two, fun p hp => ?_⟩))) hL rfl))
        have b04 : But [] H (upd H3 p (.tup [.ref tl, .ref t])) := b1.trans (b2.trans (b3.trans (But.new hp)))
        exact hS lineD st (by rw [hstep]; simp [e2]) p _ t _ b04 upd_same (.tup (sL _) (by simp) (.cons (.str _) (.cons (.int _) .nil))) (b04.sqt (by simp) ht)
      · exact e_none (hN (by rw [hstep]; simp [e2]) H3 (b1.trans (b2.trans b3)))
  · rw [er] at hstep
    have hqm := role_mem er
    refine b_cons (s_ifB false ?_ (fun e => by cases e) (fun _ H3 b3 => b_nil ?_))
    · exact t_cmp (e_name 5 (v := .ref tq) (e_none (c_isN ⟨_, rfl, rfl, But.refl⟩)))
    have htq3 := b3.sqt (by simp) htq
    have b03 : But [] H H3 := b1.trans (b2.trans b3)
    have hr3 := hr.but b03 (by simp)
    refine b_cons (s_asg (e_name 5 (v := .ref tq) (g_tup (gs_cons (g_name (i := 6) (gs_cons (g_name (i := 7) (gs_nil ?_) C.nd)) C.nd)) rfl htq3)))
    refine b_cons (s_ifB (decide (q.2 < st.1) && decide (R.fu = "refuse")) ?_ (fun e4 H4 b4 => ?_) (fun e4 H4 b4 => b_nil ?_))
    · refine t_boolop (w_and (t_cmp (e_name 7 (v := .int q.2) (e_name 3 (v := .int st.1) (c_lt ⟨_, rfl, ?_⟩)))))
      have e5 : decide (((q.2 : Nat) : Int) < ((st.1 : Nat) : Int)) = decide (q.2 < st.1) := by rw [decide_eq_decide]; omega
      rw [e5]
      refine ite_b (fun e6 => ?_) fun e6 => ?_
      · obtain ⟨dx3, ml3, cd3, g1, _, _⟩ := hr3.ex
        refine w_and1 (t_cmp (e_prop (C.mono (by decide)) CL.c G1 (e_name 0 ⟨rfl, g1, r, R, rfl, hr3, e_glob (v := .str "refuse") (c_eq rfl ⟨_, rfl, ?_, But.refl⟩) hR rR⟩)))
        rw [e6, Bool.true_and, decide_eq_decide, V.str.injEq]
      · exact ⟨by rw [e6, Bool.false_and], But.refl⟩
    · simp only [Bool.and_eq_true, decide_eq_true_eq] at e4
      refine b_cons (s_ret (e_none (hN ?_ H4 (b03.trans b4))))
      rw [hstep]
      exact if_pos e4
    have hno : ¬ (q.2 < st.1 ∧ R.fu = "refuse") := by
      intro h
      rw [decide_eq_true h.1, decide_eq_true h.2] at e4
      cases e4
    have hstep2 : step R st x = if q.1 = false then some (kindD q, (q.2 - 1, false)) else some (kindD q, if q.2 = R.ms.length then (q.2, true) else (q.2 + 1, false)) := by
      rw [hstep]
      exact if_neg hno
    refine b_cons (s_ifB (!q.1) ?_ (fun e7 H5 b5 => ?_) (fun e7 H5 b5 => b_nil ?_))
    · refine t_cmp (e_name 6 (v := .str (kindS q.1)) (e_glob (v := .str "end") (c_eq rfl ⟨_, rfl, ?_, But.refl⟩) hE rE))
      exact kindS_inj
    · have e7 : q.1 = false := by simpa using e7
      refine b_cons (s_ret (e_tup (a_cons (e_name 5 (v := .ref tq) (a_cons (e_tup (a_cons (e_bin (e_name 7 (v := .int q.2) (e_int (o_sub (a_cons (e_glob (v := .str "wait") (a_nil ⟨two, fun s' hs' => a_nil ⟨two, fun p hp => ?_⟩⟩) hW rW)))))))))))))
      have bs := But.new (l := []) (o := .tup [.int ((q.2 : Int) - 1), .str "wait"]) hs'
      have bp := But.new (l := []) (o := .tup [.ref tq, .ref s']) hp
      have b57 := b4.trans (b5.trans (bs.trans bp))
      refine hS (kindD q) (q.2 - 1, false) (by rw [hstep2, if_pos e7]) p _ s' _ (b03.trans b57) upd_same (kind_dd (b57.sqt (by simp) htq3) (by simp)) (.inl (.inl ?_))
      rw [bp _ _ (by simp) upd_same, show ((q.2 : Int) - 1) = ((q.2 - 1 : Nat) : Int) by omega]
      rfl
    · have e7 : q.1 = true := by simpa using e7
      have hr5 := hr.but (b03.trans (b4.trans b5)) (by simp)
      obtain ⟨dx5, ml5, cd5, g1, _, _⟩ := hr5.ex
      refine b_cons (s_ret (e_tup (a_cons (e_name 5 (v := .ref tq) (a_cons (e_if (t_cmp (e_name 7 (v := .int q.2) (e_prop (C.mono (by decide)) CL.c G2 (e_name 0 ⟨rfl, g1, r, R, rfl, hr5, c_eq rfl ⟨decide (q.2 = R.ms.length), ?_, ite_b (fun e8 => ?_) fun e8 => ?_⟩⟩))))))))))
      · have : decide (V.int (q.2 : Nat) = V.int (R.ms.length : Nat)) = decide (q.2 = R.ms.length) := by
          rw [decide_eq_decide, V.int.injEq]
          omega
        rw [this]
      · have e8 := of_decide_eq_true e8
        refine e_tup (a_cons (e_name 7 (v := .int q.2) (a_cons (e_glob (v := .str "body") (a_nil ⟨two, fun s' hs' => a_nil ⟨two, fun p hp => ?_⟩⟩) hB rB))))
        have bs := But.new (l := []) (o := .tup [.int (q.2 : Nat), .str "body"]) hs'
        have bp := But.new (l := []) (o := .tup [.ref tq, .ref s']) hp
        have b57 := b4.trans (b5.trans (bs.trans bp))
        exact hS (kindD q) (q.2, true) (by rw [hstep2, if_neg (by simp [e7]), if_pos e8]) p _ s' _ (b03.trans b57) upd_same (kind_dd (b57.sqt (by simp) htq3) (by simp)) (.inl (.inl (bp _ _ (by simp) upd_same)))
      · have e8 := of_decide_eq_false e8
        refine e_tup (a_cons (e_bin (e_name 7 (v := .int q.2) (e_int (o_add (a_cons (e_glob (v := .str "wait") (a_nil ⟨two, fun s' hs' => a_nil ⟨two, fun p hp => ?_⟩⟩) hW rW)))))))
        have bs := But.new (l := []) (o := .tup [.int ((q.2 : Int) + 1), .str "wait"]) hs'
        have bp := But.new (l := []) (o := .tup [.ref tq, .ref s']) hp
        have b57 := b4.trans (b5.trans (bs.trans bp))
        refine hS (kindD q) (q.2 + 1, false) (by rw [hstep2, if_neg (by simp [e7]), if_neg e8]) p _ s' _ (b03.trans b57) upd_same (kind_dd (b57.sqt (by simp) htq3) (by simp)) (.inl (.inl ?_))
        exact bp _ _ (by simp) upd_same
end
end K68

set_option Elab.async false
set_option linter.all false
set_option maxRecDepth 100000
set_option maxHeartbeats 4000000
namespace K68
open PySem PySem.Spec PyProof.Rows L2 Z LamX NdefX
/-- v is the message of the lines ls -/
structure IsMsg (K : PySem.W.Frag) (g : Str) (ls : List Str) (l : List Addr) (H : Hp) (v : V) : Prop where
  ex : ∃ d, DD K l H v d ∧ seqB d = true ∧ items d = ls.map PyData.str
  ok : ∀ y ∈ ls, isLine g (.str y) = true ∧ y.length ≤ 1000
  few : ls.length ≤ 100000
theorem IsMsg.ext {K : PySem.W.Frag} {g : Str} {ls : List Str} {l : List Addr} {H H' : Hp} {v : V} (h : IsMsg K g ls l H v) (b : Ex l H H') : IsMsg K g ls l H' v := let ⟨d, h1, h2, h3⟩ := h.ex; ⟨⟨d, h1.ex b, h2, h3⟩, h.ok, h.few⟩
theorem IsReader.ext {CR : Addr} {R : RData} {H H' : Hp} {r : Addr} (h : IsReader CR R H r) (b : Ex [] H H') : IsReader CR R H' r := by
  obtain ⟨dx, ml, cd, h1, h2, h3⟩ := h.ex
  exact ⟨dx, ml, cd, b _ _ (by simp) h1 (fun _ z => by cases z), b _ _ (by simp) h2 (fun _ z => by cases z), b _ _ (by simp) h3 (fun _ z => by cases z)⟩
theorem msg_len {K : PySem.W.Frag} {g : Str} {ls : List Str} {l : List Addr} {H : Hp} {v : V} (h : IsMsg K g ls l H v) : LenV K v H ls.length := by
  obtain ⟨d, h1, h2, h3⟩ := h.ex
  cases h1 with
  | @lst a xs ds q n r =>
    have e := r.length
    have e2 : ds = ls.map PyData.str := h3
    rw [e2, List.length_map] at e
    exact .inl ⟨xs, q, e.symm⟩
  | @tup a xs ds q n r =>
    have e := r.length
    have e2 : ds = ls.map PyData.str := h3
    rw [e2, List.length_map] at e
    exact .inr ⟨xs, q, e.symm⟩
  | _ => simp [seqB, Z.isList, Z.isTuple] at h2
def lamQ : Str := ("want_message" ++ ".<locals>.") ++ "<lambda>"
abbrev tabsM (Pt : Addr) : List (Addr × Str) := [(Pt, lamQ)]
section
variable {P : Program} {w : World} {K : PySem.W.Frag} {mg : Str → Option Value} {base : Heap} {CR : Addr}
def spWantMsg (K : PySem.W.Frag) (CR Pt : Addr) : Sp := fun vs H Q _ => ∃ (r : Addr) (R : RData) (v : V) (l : List Addr) (ls : List Str), vs = [.ref r, v] ∧ IsReader CR R H r ∧ R.Ok ∧ IsMsg K R.g ls l H v ∧ Tabs (tabsM Pt) H ∧ ∀ H', Ex [] H H' → Tabs (tabsM Pt) H' → Q .non H'
theorem scWg : FnScope ["reader", "message", "position"] ["reader", "message"] (defScope (top 102)) := ⟨rfl, rfl, rfl, by decide +kernel, rfl, by decide +kernel, by decide +kernel⟩
theorem scFb : FnScope ["some", "is_good", "place", "one"] ["some", "is_good"] (defScope (top 33)) := ⟨rfl, rfl, rfl, by decide +kernel, rfl, by decide +kernel, by decide +kernel⟩
theorem d_wantMsg {c Pt : Addr} (B : Blt mg base) (CL : ClsR K CR) (D : AtC K mg "want_message" (top 102) c) (TB : TabB base mg c Pt) (D0 : Def P w K mg base 1 "is_list" (top 26) ["value"] (sp1 K isSeq)) (D1 : Def P w K mg base 1 "is_line" (top 29) ["signs", "value"] (spLine K))
    (D2 : At K mg "first_bad" (top 33)) (G : PropOk P w K mg base 1 CR "signs" (spGet CR fun R => .str R.g)) : Def P w K mg base 5 "want_message" (top 102) ["reader", "message"] (spWantMsg K CR Pt) := by
  refine def_ofC D B scWg (fun vs H Q E ⟨_, _, _, _, _, e, _⟩ => by rw [e]; rfl) fun f A outer s H vs Q E hm C h => ?_
  obtain ⟨r, R, v, l, ls, rfl, hr, ok, hmsg, hT, hQ⟩ := h
  obtain ⟨d, hd, hsq, hit⟩ := hmsg.ex
  refine b_cons (s_ifB false ?_ (fun e => by cases e) (fun _ H1 b1 => b_nil ?_))
  · refine t_not (t_val (e_call (C.mono (by decide)) D0 (a_cons (e_name 1 (v := v) (a_nil ?_))) rfl (fun _ _ _ _ _ _ us hl => match us, hl with | [_], _ => rfl)))
    refine ⟨v, l, d, rfl, hd, ?_, fun H' b => ⟨_, rfl, by rw [show isSeq d = true from hsq]; rfl, b⟩⟩
    cases d <;> simp [seqB, Z.isList, Z.isTuple] at hsq <;> trivial
  refine b_cons (s_set (i := 2) (e_lam2 (k := 2) (T := tabsM Pt) (pname := "line") (N := ["line", "reader"]) (fr := ["reader"]) (js := [0]) C D2 scFb TB rfl (List.mem_singleton.mpr rfl) (fun q hq _ => by rw [List.mem_singleton.mp hq]; rfl) (nscope_by (by decide +kernel)) (by rfl) rfl (e_name 1 (v := v) ⟨tabs_new hT b1, fun g cdg fa c' s H2 eN T2 hco CZ act => ?_⟩)) C.nd)
  have x02 : Ex [] H H2 := b1.ex.trans (ex_of eN)
  have hd2 : DD K l H2 v d := hd.ex (x02.mono (by simp))
  have hr2 := hr.ext x02
  refine b_cons (s_for CZ (i_enumDD B hd2 hsq (fun Q h => e_name 0 (v := v) h) fun J Gw vs W hG hvs => ?_))
  have hvl : vs = ls.map V.str := by rw [hit] at hvs; exact dds_strs hvs
  subst hvl
  refine ⟨_, _, _, W, fun i σ H' => (∃ v2 v3, σ = [some v, some (.ref fa), v2, v3]) ∧ But [] H2 H', ⟨⟨none, none, rfl⟩, But.refl⟩, fun i σ H' _ h => hG H' h.2.of, ?_, ?_⟩
  · rintro i x σ H3 H4 hi ⟨⟨v2, v3, rfl⟩, b3⟩ ⟨t, x1, y1, rfl, ht, rfl, e1, e2⟩
    cases e1
    replace e2 : (ls.map V.str)[i]? = some y1 := e2
    rw [List.getElem?_map, Option.map_eq_some_iff] at e2
    obtain ⟨y, hy, rfl⟩ := e2
    obtain ⟨hyl, hy9⟩ := hmsg.ok y (List.mem_of_getElem? hy)
    refine g_tup (gs_cons (g_name (i := 2) (gs_cons (g_name (i := 3) (gs_nil ?_) CZ.nd)) CZ.nd)) rfl (.inl (.inl upd_same))
    have b4 : But [] H2 (upd H3 t (.tup [.int (i : Nat), .str y])) := b3.trans (But.new ht)
    refine b_cons (s_ifB false ?_ (fun e => by cases e) (fun _ H5 b5 => b_nil (b_nil ⟨⟨_, _, rfl⟩, b4.trans b5⟩)))
    refine t_not (t_val (act (fun cls d H' => E cls d H') _ _ _ _ _ _ (fun _ _ _ z => z) rfl rfl (e_name 3 (v := .str y) ⟨b4 _ _ (by simp) hco, fun A' outer' s' CL' => ?_⟩)))
    have hr4 := hr2.but b4 (by simp)
    obtain ⟨dx, ml, cd, g1, _, _⟩ := hr4.ex
    refine e_call (CL'.mono (by decide)) D1 (a_cons (e_prop CL' CL.c G (e_name 1 ⟨rfl, g1, r, R, rfl, hr4, a_cons (e_name 0 (v := .str y) (a_nil ?_))⟩))) rfl (fun _ _ _ _ _ _ us hl => match us, hl with | [_, _], _ => rfl)
    exact ⟨R.g, _, [], .str y, rfl, .str y, by show y.length ≤ _; rw [sizeLine_eq]; omega, fun H' b => ⟨_, rfl, by rw [hyl]; rfl, b⟩⟩
  · rintro σ H3 ⟨⟨v2, v3, rfl⟩, b3⟩
    refine b_cons (s_ret (e_none ?_))
    refine b_cons (s_ifB false ?_ (fun e => by cases e) (fun _ H4 b4 => b_nil (b_nil (hQ H4 (x02.trans (b3.trans b4).ex) (tabs_new T2 (b3.trans b4))))))
    exact t_cmp (e_name 2 (v := .non) (e_none (c_notN ⟨false, rfl, rfl, But.refl⟩)))
/-! ### a message gone through -/
def spGone (K : PySem.W.Frag) (CR : Addr) : Sp := fun vs H Q _ => ∃ (r : Addr) (R : RData) (v : V) (l : List Addr) (ls : List Str), vs = [.ref r, v] ∧ IsReader CR R H r ∧ R.Ok ∧ IsMsg K R.g ls l H v ∧
  ∀ p tq pq ws us H', But [] H H' → H tq = none → H pq = none → tq ≠ pq → H' p = some (.tup [.ref tq, .ref pq]) → H' tq = some (.lst ws) → H' pq = some (.lst us) → DDs K [] H' ws (toldD R ls) → DDs K [] H' us (courseD R ls) → Q (.ref p) H'
theorem scGo : FnScope ["reader", "message", "told", "passed", "line", "found"] ["reader", "message"] (defScope (top 108)) := ⟨rfl, rfl, rfl, by decide +kernel, rfl, by decide +kernel, by decide +kernel⟩
theorem d_gone (B : Blt mg base) (CL : ClsR K CR) (T : Ends11 K mg) (D : At K mg "gone_through" (top 108)) (D1 : Def P w K mg base 6 "next_stand" (top 107) ["reader", "stand", "line"] (spNext K CR)) :
    Def P w K mg base 7 "gone_through" (top 108) ["reader", "message"] (spGone K CR) := by
  refine def_of D B scGo (fun vs H Q E ⟨_, _, _, _, _, e, _⟩ => by rw [e]; rfl) fun f cdv A outer s H vs Q E hm C h => ?_
  obtain ⟨r, R, v, l, ls, rfl, hr, ok, hmsg, hQ⟩ := h
  obtain ⟨d, hd, hsq, hit⟩ := hmsg.ex
  obtain ⟨ts, hS, sS⟩ := T.st
  have m1 := ok.ms.1
  have zero : 0 ≤ sizeLine := by rw [sizeLine_eq]; exact (by decide : 0 ≤ 16777216)
  have two : 2 ≤ sizeLine := by rw [sizeLine_eq]; exact (by decide : 2 ≤ 16777216)
  refine b_cons (s_par (i := 2) (j := 3) C (a_cons (e_lst (a_nil ⟨zero, fun tq htq => ?_⟩))))
  refine a_cons (e_lst (a_cons (e_glob (v := .ref ts) (a_nil ⟨by show 1 ≤ sizeLine; omega, fun pq hpq => a_nil ⟨_, _, rfl, ?_⟩⟩) hS rfl)))
  have bt : But [] H (upd H tq (.lst [])) := But.new htq
  have bp : But [] (upd H tq (.lst [])) (upd (upd H tq (.lst [])) pq (.lst [.ref ts])) := But.new hpq
  have hpqH : H pq = none := bt.free hpq
  have ntp : tq ≠ pq := ne_of_none upd_same hpq
  have e1 : upd (upd H tq (.lst [])) pq (.lst [.ref ts]) tq = some (.lst []) := by rw [upd_ne ntp]; exact upd_same
  have e2 : upd (upd H tq (.lst [])) pq (.lst [.ref ts]) pq = some (.lst [.ref ts]) := upd_same
  have b02 := bt.trans bp
  generalize upd (upd H tq (.lst [])) pq (.lst [.ref ts]) = H2 at e1 e2 b02 ⊢
  refine b_apart fun ap2 => ?_
  have nts : ∀ q xs, H2 q = some (.lst xs) → ts ≠ q := fun q xs e => ap2 _ _ _ _ (sS H2) e
  have fin : ∀ (σ : L2.St) (H3 : Hp) (ws us : List V), σ[2]? = some (some (.ref tq)) → σ[3]? = some (some (.ref pq)) → But [] H H3 → H3 tq = some (.lst ws) → H3 pq = some (.lst us) → DDs K [tq, pq] H3 ws (toldD R ls) → DDs K [tq, pq] H3 us (courseD R ls) →
      wB (bX P w K mg base ["reader", "message", "told", "passed", "line", "found"] "gone_through" (top 108) f cdv A outer s H E) ((defBody (top 108)).drop 2) { nx := fun _ H' => Q .non H', rt := Q } σ H3 := fun σ H3 ws us s2 s3 b3 h1 h2 d1 d2 => by
    refine b_cons (s_ret (e_tup (a_cons (e_name 2 (v := .ref tq) (a_cons (e_name 3 (v := .ref pq) (a_nil ⟨two, fun p hp => ?_⟩) s3)) s2))))
    have bn : But [] H3 (upd H3 p (.tup [.ref tq, .ref pq])) := But.new hp
    exact hQ p tq pq ws us _ (b3.trans bn) htq hpqH ntp upd_same (bn _ _ (by simp) h1) (bn _ _ (by simp) h2) ((d1.less (by simp)).but bn) ((d2.less (by simp)).but bn)
  refine b_cons (s_for C (i_ddL hd hsq b02.of (fun Q h => e_name 1 (v := v) h) fun J G vs W hG hvs => ?_))
  have hvl : vs = ls.map V.str := by rw [hit] at hvs; exact dds_strs hvs
  subst hvl
  refine ⟨_, _, _, W, fun i σ H' => (∃ v4 v5, σ = [some (.ref r), some v, some (.ref tq), some (.ref pq), v4, v5]) ∧ But [] H H' ∧ (goes R start1 (ls.take i)).length = (ls.take i).length ∧ ∃ ws us, H' tq = some (.lst ws) ∧ H' pq = some (.lst us) ∧ DDs K [tq, pq] H' ws (toldD R (ls.take i)) ∧ DDs K [tq, pq] H' us (courseD R (ls.take i)),
    ⟨⟨none, none, rfl⟩, b02, rfl, [], [.ref ts], e1, e2, .nil, .cons (stand_dd (s := start1) (sS H2) (by simp [nts tq _ e1, nts pq _ e2])) .nil⟩, fun i σ H' _ h => hG H' h.2.1.of, ?_, ?_⟩
  · rintro i x σ H3 H' hi ⟨⟨v4, v5, rfl⟩, b3, hgl, ws, us, h1, h2, d1, d2⟩ ⟨rfl, hx⟩
    rw [List.getElem?_map, Option.map_eq_some_iff] at hx
    obtain ⟨y, hy, rfl⟩ := hx
    rw [List.length_map] at hi
    obtain ⟨hyl, hy9⟩ := hmsg.ok y (List.mem_of_getElem? hy)
    have hfew := hmsg.few
    have htk : ls.take (i + 1) = ls.take i ++ [y] := by rw [List.take_add_one, hy]; rfl
    have hwl : ws.length = i := by rw [d1.length, toldD, List.length_map, hgl, List.length_take]; omega
    have hul : us.length = i + 1 := by rw [d2.length, courseD, List.length_cons, List.length_map, hgl, List.length_take]; omega
    -- the last stand
    have hlast : ∃ sv, us.getLast? = some sv ∧ DD K [tq, pq] H' sv (standD (lastS start1 (goes R start1 (ls.take i)))) := by
      have hcl := course_last (R := R) (ls := ls.take i)
      rw [List.getLast?_eq_getElem?] at hcl ⊢
      have e : (courseD R (ls.take i)).length = us.length := d2.length.symm
      rw [e] at hcl
      have hlt : us.length - 1 < us.length := by omega
      obtain ⟨dd, hdd, hD⟩ := d2.get (i := us.length - 1) (List.getElem?_eq_getElem hlt)
      rw [hcl] at hdd
      cases hdd
      exact ⟨_, List.getElem?_eq_getElem hlt, hD⟩
    obtain ⟨sv, hsv, hsD⟩ := hlast
    obtain ⟨st, rfl, hst⟩ := dd_stand hsD
    have hr3 := hr.but b3 (by simp)
    refine g_name (i := 4) ?_ C.nd
    refine b_cons (s_set (i := 5) (e_gives (e_call C D1 (a_cons (e_name 0 (v := .ref r) (a_cons (e_ix (e_name 3 (v := .ref pq) (e_un (e_int (u_neg (ix_l (.inl (.inl h2)) (v := .ref st) ?_ (a_cons (e_name 4 (v := .str y) (a_nil ?_)))))))))))) rfl (fun _ _ _ _ _ _ us hl => match us, hl with | [_, _, _], _ => rfl))) C.nd)
    · obtain ⟨ini, hini⟩ := List.getLast?_eq_some_iff.mp hsv
      rw [hini]
      exact atI_last _ _
    refine ⟨r, R, st, _, y, rfl, hr3, ok, hst, last_ok (s := start1) (by exact m1), hyl, hy9, fun hstep H4 b4 ap => ?_, fun d4 st4 hstep p u s' H4 b4 hp hu hs' ap => ?_⟩
    · -- refused
      refine b_cons (s_ifB true ?_ (fun _ H5 b5 => ?_) (fun e => by cases e))
      · exact t_cmp (e_name 5 (v := .non) (e_none (c_isN ⟨_, rfl, rfl, But.refl⟩)))
      have b35 := b4.trans b5
      have hall : goes R start1 ls = goes R start1 (ls.take i) := by
        have h1 : ls.take i ++ y :: ls.drop (i + 1) = ls := by
          have : ls.drop i = y :: ls.drop (i + 1) := by
            obtain ⟨hlt, e⟩ := List.getElem?_eq_some_iff.mp hy
            rw [List.drop_eq_getElem_cons hlt, e]
          rw [← this, List.take_append_drop]
        have := goes_stop (r := ls.drop (i + 1)) hgl hstep
        rwa [h1] at this
      have t1 : toldD R ls = toldD R (ls.take i) := by unfold toldD; rw [hall]
      have t2 : courseD R ls = courseD R (ls.take i) := by unfold courseD; rw [hall]
      refine b_cons (s_break ?_)
      exact fin _ H5 ws us rfl rfl (b3.trans b35) (b35 _ _ (by simp) h1) (b35 _ _ (by simp) h2) (by rw [t1]; exact d1.but b35.of) (by rw [t2]; exact d2.but b35.of)
    · -- told
      have hsn : goes R start1 (ls.take (i + 1)) = goes R start1 (ls.take i) ++ [(d4, st4)] := by
        rw [htk, goes_snoc hgl, hstep]
      refine b_cons (s_ifB false ?_ (fun e => by cases e) (fun _ H5 b5 => b_nil ?_))
      · exact t_cmp (e_name 5 (v := .ref p) (e_none (c_isN ⟨_, rfl, rfl, But.refl⟩)))
      have b35 := b4.trans b5
      have h15 := b35 _ _ (by simp) h1
      have h25 := b35 _ _ (by simp) h2
      have hp5 := b5 _ _ (by simp) hp
      have d4t : tupOnly d4 = true := (step_ok hstep (last_ok (s := start1) (by exact m1))).2
      have hu5 : DD K [tq, pq] H5 u d4 := ((hu.avoid ap (b4 _ _ (by simp) h2) d4t).avoid ap (b4 _ _ (by simp) h1) d4t).but b5.of
      have ns1 : s' ≠ tq := ap _ _ _ _ hs' (b4 _ _ (by simp) h1)
      have ns2 : s' ≠ pq := ap _ _ _ _ hs' (b4 _ _ (by simp) h2)
      have hs5 : DD K [tq, pq] H5 (.ref s') (standD st4) := stand_dd (b5.sqt (by simp) hs') (by simp [ns1, ns2])
      have npt : p ≠ tq := fun z => by rw [z, h15] at hp5; cases hp5
      have npp : p ≠ pq := fun z => by rw [z, h25] at hp5; cases hp5
      refine b_cons (s_expr (e_append (e_name 2 (v := .ref tq) ⟨tq, rfl, ⟨_, h15⟩, e_ix (e_name 5 (v := .ref p) (e_int (ix_t (.inl (.inl hp5)) (v := u) rfl ⟨_, h15, by rw [sizeLine_eq]; omega, ?_⟩)))⟩)))
      have bA : But [tq, pq] H5 (upd H5 tq (.lst (ws ++ [u]))) := But.at (by simp)
      have h16 : upd H5 tq (.lst (ws ++ [u])) tq = some (.lst (ws ++ [u])) := upd_same
      have h26 : upd H5 tq (.lst (ws ++ [u])) pq = some (.lst us) := by rw [upd_ne ntp.symm]; exact h25
      have hp6 : upd H5 tq (.lst (ws ++ [u])) p = some (.tup [u, .ref s']) := by rw [upd_ne npt]; exact hp5
      generalize upd H5 tq (.lst (ws ++ [u])) = H6 at bA h16 h26 hp6 ⊢
      refine b_cons (s_expr (e_append (e_name 3 (v := .ref pq) ⟨pq, rfl, ⟨_, h26⟩, e_ix (e_name 5 (v := .ref p) (e_int (ix_t (.inl (.inl hp6)) (v := .ref s') rfl ⟨_, h26, by rw [sizeLine_eq]; omega, ?_⟩)))⟩)))
      have bB : But [tq, pq] H6 (upd H6 pq (.lst (us ++ [.ref s']))) := But.at (by simp)
      have bAB := bA.trans bB
      refine b_nil ⟨⟨_, _, rfl⟩, ?_, ?_, ws ++ [u], us ++ [.ref s'], by rw [upd_ne ntp]; exact h16, upd_same, ?_, ?_⟩
      · exact but_late (b3.trans b35) bAB fun q hq => by
          simp only [List.mem_cons, List.not_mem_nil, or_false] at hq
          rcases hq with rfl | rfl
          · exact htq
          · exact hpqH
      · rw [hsn, List.length_append, hgl, htk, List.length_append]
        rfl
      · have : toldD R (ls.take (i + 1)) = toldD R (ls.take i) ++ [d4] := by unfold toldD; rw [hsn, List.map_append]; rfl
        rw [this]
        exact DDs.append ((d1.but b35.of).but bAB) (.cons (hu5.but bAB) .nil)
      · have : courseD R (ls.take (i + 1)) = courseD R (ls.take i) ++ [standD st4] := by unfold courseD; rw [hsn, List.map_append]; rfl
        rw [this]
        exact DDs.append ((d2.but b35.of).but bAB) (.cons (hs5.but bAB) .nil)
  · rintro σ H3 ⟨⟨v4, v5, rfl⟩, b3, hgl, ws, us, h1, h2, d1, d2⟩
    rw [List.length_map, List.take_length] at d1 d2
    exact fin _ H3 ws us rfl rfl b3 h1 h2 d1 d2
end
end K68

set_option Elab.async false
set_option linter.all false
set_option maxRecDepth 100000
set_option maxHeartbeats 4000000
namespace K68
open PySem PySem.Spec PyProof.Rows L2 Z LamX NdefX
theorem stand_shaped (s : Stand) : SeqAt.shaped (standD s) = true := by
  obtain ⟨n, b⟩ := s
  have e : (standD (n, b)).canLay0 = true := by
    cases b <;> simp only [standD, PyData.canLay0, PyData.canLayAll0, wordS, if_true, if_false, Bool.false_eq_true, Bool.true_and, Bool.and_true] <;> decide +kernel
  unfold SeqAt.shaped
  rw [e]
  cases b <;> simp [standD, PyData.depth, PyData.depthAll]
section
variable {P : Program} {w : World} {K : PySem.W.Frag} {mg : Str → Option Value} {base : Heap} {CR : Addr}
def spRefused (K : PySem.W.Frag) (CR : Addr) : Sp := fun vs H Q _ => ∃ (r : Addr) (R : RData) (v : V) (l : List Addr) (ls : List Str) (tq pq : Addr) (ws us : List V), vs = [.ref r, v, .ref tq, .ref pq] ∧ IsReader CR R H r ∧ R.Ok ∧ IsMsg K R.g ls l H v ∧
  H tq = some (.lst ws) ∧ H pq = some (.lst us) ∧ DDs K [] H ws (toldD R ls) ∧ DDs K [] H us (courseD R ls) ∧ ∀ H', But [] H H' → Q (.bl (refusedB R ls)) H'
theorem scRe : FnScope ["reader", "message", "told", "passed"] ["reader", "message", "told", "passed"] (defScope (top 109)) := ⟨rfl, rfl, rfl, by decide +kernel, rfl, by decide +kernel, by decide +kernel⟩
theorem d_isRefused (B : Blt mg base) (CL : ClsR K CR) (T : Ends11 K mg) (D : At K mg "is_refused" (top 109)) (G1 : PropOk P w K mg base 1 CR "finish" (spGet CR fun R => .str R.fi)) :
    Def P w K mg base 3 "is_refused" (top 109) ["reader", "message", "told", "passed"] (spRefused K CR) := by
  refine def_of D B scRe (fun vs H Q E ⟨_, _, _, _, _, _, _, _, _, e, _⟩ => by rw [e]; rfl) fun f cdv A outer s H vs Q E hm C h => ?_
  obtain ⟨r, R, v, l, ls, tq, pq, ws, us, rfl, hr, ok, hmsg, ht, hp, d1, d2, hQ⟩ := h
  obtain ⟨uR, hR, rR⟩ := T.re
  obtain ⟨tdn, hDn, sDn⟩ := T.dn
  have hwl : ws.length = (goes R start1 ls).length := by rw [d1.length, toldD, List.length_map]
  refine b_cons (s_ifB (decide ((goes R start1 ls).length < ls.length)) ?_ (fun e H1 b1 => ?_) (fun e H1 b1 => b_nil ?_))
  · refine t_cmp (e_len B (e_name 2 (v := .ref tq) ⟨ws.length, .inl ⟨ws, .inl (.inl ht), rfl⟩, e_len B (e_name 1 (v := v) ⟨ls.length, msg_len hmsg, c_lt ⟨_, rfl, ?_, But.refl⟩⟩)⟩))
    rw [decide_eq_decide, hwl]
    omega
  · refine b_cons (s_ret (e_bool ?_))
    have := hQ H1 b1
    have e2 : refusedB R ls = true := by unfold refusedB; rw [e]; rfl
    rwa [e2] at this
  · have hp1 := b1 _ _ (by simp) hp
    have d21 := d2.but b1
    have hr1 := hr.but b1 (by simp)
    obtain ⟨dx, ml, cd, g1, _, _⟩ := hr1.ex
    have hlast : ∃ sv ini, us = ini ++ [sv] ∧ DD K [] H1 sv (standD (lastS start1 (goes R start1 ls))) := by
      have hcl := course_last (R := R) (ls := ls)
      rw [List.getLast?_eq_getElem?] at hcl
      have e3 : (courseD R ls).length = us.length := d2.length.symm
      rw [e3] at hcl
      have hul : 0 < us.length := by rw [d2.length, courseD, List.length_cons]; omega
      have hlt : us.length - 1 < us.length := by omega
      obtain ⟨dd, hdd, hD⟩ := d21.get (i := us.length - 1) (List.getElem?_eq_getElem hlt)
      rw [hcl] at hdd
      cases hdd
      have e4 : us.getLast? = some us[us.length - 1] := by rw [List.getLast?_eq_getElem?]; exact List.getElem?_eq_getElem hlt
      obtain ⟨ini, hini⟩ := List.getLast?_eq_some_iff.mp e4
      exact ⟨_, ini, hini, hD⟩
    obtain ⟨sv, ini, hini, hsD⟩ := hlast
    have hq := hQ H1 b1
    have e2 : refusedB R ls = (!decide (lastS start1 (goes R start1 ls) = (0, false)) && decide (R.fi = "refuse")) := by unfold refusedB; rw [e]; rfl
    rw [e2] at hq
    refine b_cons (s_ret (e_and (e_cmp (e_ix (e_name 3 (v := .ref pq) (e_un (e_int (u_neg (ix_l (.inl (.inl hp1)) (v := sv) ?_ (e_glob (v := .ref tdn) (c_neD C hsD (stand_dd (l := []) (s := (0, false)) (sDn H1) (by simp)) (stand_shaped _) (stand_shaped _) ⟨_, rfl, ite_b (fun e5 => ?_) fun e5 => ?_⟩) hDn rfl))))))))))
    · rw [hini]
      exact atI_last _ _
    · rw [eqv_stand] at e5
      rw [e5, Bool.true_and] at hq
      refine e_one (e_cmp (e_prop (C.mono (by decide)) CL.c G1 (e_name 0 ⟨rfl, g1, r, R, rfl, hr1, e_glob (v := .str "refuse") (c_eq rfl ?_) hR rR⟩)))
      have e6 : decide (V.str R.fi = V.str "refuse") = decide (R.fi = "refuse") := by rw [decide_eq_decide, V.str.injEq]
      rw [e6]
      exact hq
    · rw [eqv_stand] at e5
      rw [e5, Bool.false_and] at hq
      exact hq
/-! ### telling and course -/
/-- nothing stood at q, but for a table -/
def NewX (H : Hp) (q : Addr) : Prop := ∀ o, H q = some o → ∃ ps, o = .tbl ps
def spTell (K : PySem.W.Frag) (CR Pt : Addr) : Sp := fun vs H Q _ => ∃ (r : Addr) (R : RData) (v : V) (l : List Addr) (ls : List Str), vs = [.ref r, v] ∧ IsReader CR R H r ∧ R.Ok ∧ IsMsg K R.g ls l H v ∧ Tabs (tabsM Pt) H ∧
  (refusedB R ls = true → ∀ H', Ex [] H H' → Tabs (tabsM Pt) H' → Q .non H') ∧
  (refusedB R ls = false → ∀ q ws H', Ex [] H H' → Tabs (tabsM Pt) H' → NewX H q → H' q = some (.lst ws) → DDs K [] H' ws (toldD R ls) → Q (.ref q) H')
def spCourse (K : PySem.W.Frag) (CR Pt : Addr) : Sp := fun vs H Q _ => ∃ (r : Addr) (R : RData) (v : V) (l : List Addr) (ls : List Str), vs = [.ref r, v] ∧ IsReader CR R H r ∧ R.Ok ∧ IsMsg K R.g ls l H v ∧ Tabs (tabsM Pt) H ∧
  ∀ q us H', Ex [] H H' → Tabs (tabsM Pt) H' → NewX H q → H' q = some (.lst us) → DDs K [] H' us (courseD R ls) → Q (.ref q) H'
theorem scTe : FnScope ["reader", "message", "told", "passed"] ["reader", "message"] (defScope (top 110)) := ⟨rfl, rfl, rfl, by decide +kernel, rfl, by decide +kernel, by decide +kernel⟩
theorem newX_of {H H1 : Hp} (b : Ex [] H H1) {q : Addr} (h : H1 q = none) : NewX H q := fun o e => by
  by_cases ht : ∃ ps, o = .tbl ps
  · exact ht
  · have := b q o (by simp) e (fun ps z => ht ⟨ps, z⟩)
    rw [h] at this
    cases this
theorem NewX.ne {H : Hp} {q a : Addr} {o : HO} (n : NewX H q) (e : H a = some o) (h : ∀ ps, o ≠ .tbl ps) : a ≠ q := fun z => by
  rw [z] at e
  obtain ⟨ps, hp⟩ := n _ e
  exact h ps hp
theorem ex_late {l : List Addr} {H H1 H2 : Hp} (a : Ex [] H H1) (b : But l H1 H2) (n : ∀ q ∈ l, NewX H q) : Ex [] H H2 := fun q o _ e h => b q o (fun z => by
  obtain ⟨ps, hp⟩ := n q z _ e
  exact h ps hp) (a q o (by simp) e h)
theorem d_telling2 {Pt : Addr} (B : Blt mg base) (D : At K mg "telling" (top 110)) (D1 : Def P w K mg base 5 "want_message" (top 102) ["reader", "message"] (spWantMsg K CR Pt)) (D2 : Def P w K mg base 7 "gone_through" (top 108) ["reader", "message"] (spGone K CR))
    (D3 : Def P w K mg base 3 "is_refused" (top 109) ["reader", "message", "told", "passed"] (spRefused K CR)) : Def P w K mg base 8 "telling" (top 110) ["reader", "message"] (spTell K CR Pt) := by
  refine def_of D B scTe (fun vs H Q E ⟨_, _, _, _, _, e, _⟩ => by rw [e]; rfl) fun f cdv A outer s H vs Q E hm C h => ?_
  obtain ⟨r, R, v, l, ls, rfl, hr, ok, hmsg, hT, hY, hN⟩ := h
  refine b_cons (s_expr (e_call (C.mono (by decide)) D1 (a_cons (e_name 0 (v := .ref r) (a_cons (e_name 1 (v := v) (a_nil ?_))))) rfl (fun _ _ _ _ _ _ us hl => match us, hl with | [_, _], _ => rfl)))
  refine ⟨r, R, v, l, ls, rfl, hr, ok, hmsg, hT, fun H1 x1 T1 => ?_⟩
  have hr1 := hr.ext x1
  have hmsg1 := hmsg.ext (x1.mono (by simp))
  refine b_cons (s_asg (e_call C D2 (a_cons (e_name 0 (v := .ref r) (a_cons (e_name 1 (v := v) (a_nil ?_))))) rfl (fun _ _ _ _ _ _ us hl => match us, hl with | [_, _], _ => rfl)))
  refine ⟨r, R, v, l, ls, rfl, hr1, ok, hmsg1, fun p tq pq ws us H2 b2 htqn hpqn ntp hp htq hpq d1 d2 => ?_⟩
  refine g_tup (gs_cons (g_name (i := 2) (gs_cons (g_name (i := 3) (gs_nil ?_) C.nd)) C.nd)) rfl (.inl (.inl hp))
  refine b_cons (s_ret (e_if (t_val (e_call (C.mono (by decide)) D3 (a_cons (e_name 0 (v := .ref r) (a_cons (e_name 1 (v := v) (a_cons (e_name 2 (v := .ref tq) (a_cons (e_name 3 (v := .ref pq) (a_nil ?_))))))))) rfl (fun _ _ _ _ _ _ us hl => match us, hl with | [_, _, _, _], _ => rfl)))))
  refine ⟨r, R, v, l, ls, tq, pq, ws, us, rfl, hr1.but b2 (by simp), ok, hmsg1.ext b2.of.ex, htq, hpq, d1, d2, fun H3 b3 => ⟨_, rfl, ite_b (fun e => ?_) fun e => ?_⟩⟩
  · exact e_none (hY e H3 (x1.trans (b2.trans b3).ex) (tabs_new T1 (b2.trans b3)))
  · refine e_name 2 (v := .ref tq) (hN e tq ws H3 (x1.trans (b2.trans b3).ex) (tabs_new T1 (b2.trans b3)) (newX_of x1 htqn) (b3 _ _ (by simp) htq) (d1.but b3))
end
end K68

set_option Elab.async false
set_option linter.all false
set_option maxRecDepth 100000
set_option maxHeartbeats 4000000
namespace K68
open PySem PySem.Spec PyProof.Rows L2 Z LamX NdefX
section
variable {P : Program} {w : World} {K : PySem.W.Frag} {mg : Str → Option Value} {base : Heap} {CR : Addr}
theorem scCo : FnScope ["reader", "message"] ["reader", "message"] (defScope (top 111)) := ⟨rfl, rfl, rfl, by decide +kernel, rfl, by decide +kernel, by decide +kernel⟩
theorem d_course {Pt : Addr} (B : Blt mg base) (D : At K mg "course" (top 111)) (D1 : Def P w K mg base 5 "want_message" (top 102) ["reader", "message"] (spWantMsg K CR Pt)) (D2 : Def P w K mg base 7 "gone_through" (top 108) ["reader", "message"] (spGone K CR)) :
    Def P w K mg base 8 "course" (top 111) ["reader", "message"] (spCourse K CR Pt) := by
  refine def_of D B scCo (fun vs H Q E ⟨_, _, _, _, _, e, _⟩ => by rw [e]; rfl) fun f cdv A outer s H vs Q E hm C h => ?_
  obtain ⟨r, R, v, l, ls, rfl, hr, ok, hmsg, hT, hY⟩ := h
  refine b_cons (s_expr (e_call (C.mono (by decide)) D1 (a_cons (e_name 0 (v := .ref r) (a_cons (e_name 1 (v := v) (a_nil ?_))))) rfl (fun _ _ _ _ _ _ us hl => match us, hl with | [_, _], _ => rfl)))
  refine ⟨r, R, v, l, ls, rfl, hr, ok, hmsg, hT, fun H1 x1 T1 => ?_⟩
  refine b_cons (s_ret (e_ix (e_call C D2 (a_cons (e_name 0 (v := .ref r) (a_cons (e_name 1 (v := v) (a_nil ?_))))) rfl (fun _ _ _ _ _ _ us hl => match us, hl with | [_, _], _ => rfl))))
  refine ⟨r, R, v, l, ls, rfl, hr.ext x1, ok, hmsg.ext (x1.mono (by simp)), fun p tq pq ws us H2 b2 htqn hpqn ntp hp htq hpq d1 d2 => e_int (ix_t (.inl (.inl hp)) (v := .ref pq) rfl ?_)⟩
  exact hY pq us H2 (x1.trans b2.ex) (tabs_new T1 b2) (newX_of x1 hpqn) hpq d2
end
end K68

set_option Elab.async false
set_option linter.all false
set_option maxRecDepth 100000
set_option maxHeartbeats 4000000
namespace K68
open PySem PySem.Spec PyProof.Rows L2 Z LamX NdefX
/-! ### plain: the tree that a message tells -/
def climb (st : Sts) (d : PyData) (x : Str) : Sts :=
  match d with
  | .tuple [.str k, .int n] => if k = "next" then closeTo n.toNat st ++ [[]] else if k = "end" then closeTo n.toNat st else putLast st (.str x)
  | _ => putLast st (.str x)
theorem climb_next {st : Sts} {p : Nat} {x : Str} : climb st (kindD (true, p)) x = closeTo p st ++ [[]] := by
  show (if kindS true = ("next" : Str) then closeTo (p : Int).toNat st ++ [[]] else if kindS true = ("end" : Str) then closeTo (p : Int).toNat st else putLast st (.str x)) = _
  rw [if_pos (show kindS true = ("next" : Str) from rfl), Int.toNat_natCast]
theorem climb_end {st : Sts} {p : Nat} {x : Str} : climb st (kindD (false, p)) x = closeTo p st := by
  show (if kindS false = ("next" : Str) then closeTo (p : Int).toNat st ++ [[]] else if kindS false = ("end" : Str) then closeTo (p : Int).toNat st else putLast st (.str x)) = _
  rw [if_neg (by decide), if_pos (show kindS false = ("end" : Str) from rfl), Int.toNat_natCast]
theorem climb_line {st : Sts} {x : Str} : climb st lineD x = putLast st (.str x) := by
  show (if ("line" : Str) = ("next" : Str) then closeTo (0 : Int).toNat st ++ [[]] else if ("line" : Str) = ("end" : Str) then closeTo (0 : Int).toNat st else putLast st (.str x)) = _
  rw [if_neg (by decide), if_neg (by decide)]
theorem climb_few {st : Sts} {d : PyData} {x : Str} {N : Nat} (h : ∀ ds ∈ st, ds.length ≤ N) : ∀ ds ∈ climb st d x, ds.length ≤ N + 1 := by
  unfold climb
  split
  · split
    · intro ds hd
      rcases List.mem_append.mp hd with q | q
      · exact closeTo_few h ds q
      · rw [List.mem_singleton.mp q]; simp
    · split
      · exact closeTo_few h
      · exact putLast_few h
  · exact putLast_few h
/-- what a line is told as, and that it fits -/
inductive Tells (f : Prop) (k : Nat) : PyData → Prop
  | line : f → Tells f k lineD
  | role (b : Bool) (p : Nat) : 1 ≤ p → p ≤ k → Tells f k (kindD (b, p))
/-- where a stand is, as many levels are open -/
def Fits (R : RData) (s : Stand) (st : Sts) : Prop := s.1 ≤ st.length ∧ 1 ≤ st.length ∧ st.length ≤ R.ms.length + 1 ∧ s.1 ≤ R.ms.length ∧ (s.2 = true → st.length = R.ms.length + 1)
theorem step_fit {R : RData} {s s' : Stand} {x : Str} {d : PyData} {st : Sts} (h : step R s x = some (d, s')) (hf : Fits R s st) : Tells (st.length = R.ms.length + 1) (min st.length R.ms.length) d ∧ Fits R s' (climb st d x) := by
  obtain ⟨h1, h2, h3, h4, h5⟩ := hf
  have h6 := (step_ok h h4).1
  unfold step at h
  split at h
  · cases h
  · split at h
    · split at h
      · rename_i hb
        cases h
        unfold Fits
        rw [climb_line, len_putLast]
        exact ⟨.line (h5 hb), h1, h2, h3, h4, h5⟩
      · cases h
    · rename_i q hq
      obtain ⟨b, p⟩ := q
      have hm := role_mem hq
      split at h
      · cases h
      · split at h
        · rename_i hb
          cases h
          have hb : b = false := hb
          subst hb
          unfold Fits
          rw [climb_end, len_closeTo (by omega)]
          exact ⟨.role _ _ hm.1 (by simp only at hm; omega), by show p - 1 ≤ p; omega, hm.1, by simp only at hm; omega, h6, fun z => by cases z⟩
        · rename_i hb
          cases h
          have hb : b = true := by cases b; exact absurd rfl hb; rfl
          subst hb
          unfold Fits
          rw [climb_next, List.length_append, len_closeTo (by omega), List.length_singleton]
          refine ⟨.role _ _ hm.1 (by simp only at hm; omega), ?_, by omega, by simp only at hm; omega, h6, ?_⟩
          · split
            · show p ≤ _; omega
            · exact Nat.le_refl _
          · intro z
            split at z
            · rename_i e
              show p + 1 = _
              have e : p = R.ms.length := e
              omega
            · cases z
def climbs (ts : List PyData) (ls : List Str) (st : Sts) : Sts := (ts.zip ls).foldl (fun st p => climb st p.1 p.2) st
/-- the tree of a message -/
def treeD (R : RData) (ls : List Str) : List PyData := fold (climbs (toldD R ls) ls [[]])
theorem climbs_fit {R : RData} : ∀ {ls : List Str} {s : Stand} {st : Sts}, Fits R s st →
    ∀ (i : Nat) (d : PyData), ((goes R s ls).map (·.1))[i]? = some d → Tells ((climbs (((goes R s ls).map (·.1)).take i) (ls.take i) st).length = R.ms.length + 1) (min (climbs (((goes R s ls).map (·.1)).take i) (ls.take i) st).length R.ms.length) d
  | [], _, _, _, i, d, h => by simp [goes] at h
  | x :: ls, s, st, hf, i, d, h => by
    cases e : step R s x with
    | none => rw [goes, e] at h; simp at h
    | some q =>
      obtain ⟨d0, s0⟩ := q
      have hg : goes R s (x :: ls) = (d0, s0) :: goes R s0 ls := by rw [goes, e]
      rw [hg] at h ⊢
      obtain ⟨f1, f2⟩ := step_fit e hf
      cases i with
      | zero =>
        have : d0 = d := by simpa using h
        subst this
        exact f1
      | succ i => exact climbs_fit f2 i d (by simpa using h)
theorem fits0 {R : RData} (hm : 1 ≤ R.ms.length) : Fits R start1 [[]] := ⟨Nat.le_refl _, Nat.le_refl _, by simp, hm, fun z => by cases z⟩
theorem told_tells {R : RData} {ls : List Str} (hm : 1 ≤ R.ms.length) {i : Nat} {d : PyData} (h : (toldD R ls)[i]? = some d) : Tells ((climbs ((toldD R ls).take i) (ls.take i) [[]]).length = R.ms.length + 1) (min (climbs ((toldD R ls).take i) (ls.take i) [[]]).length R.ms.length) d := climbs_fit (fits0 hm) i d h
theorem climbs_few : ∀ (ps : List (PyData × Str)) {st : Sts} {N : Nat}, (∀ ds ∈ st, ds.length ≤ N) → ∀ ds ∈ ps.foldl (fun st p => climb st p.1 p.2) st, ds.length ≤ N + ps.length
  | [], _, _, h => h
  | p :: ps, st, N, h => fun ds hd => by
    have := climbs_few ps (climb_few (d := p.1) (x := p.2) h) ds hd
    simp only [List.length_cons]
    omega
theorem climbs_snoc {ts : List PyData} {ls : List Str} {st : Sts} {i : Nat} {d : PyData} {x : Str} (h1 : ts[i]? = some d) (h2 : ls[i]? = some x) : climbs (ts.take (i + 1)) (ls.take (i + 1)) st = climb (climbs (ts.take i) (ls.take i) st) d x := by
  have e : ∀ {α : Type} {l : List α} {a : α}, l[i]? = some a → l.take (i + 1) = l.take i ++ [a] := fun h => by rw [List.take_add_one, h]; rfl
  have hl : (ts.take i).length = (ls.take i).length := by
    rw [List.length_take, List.length_take, Nat.min_eq_left (Nat.le_of_lt (List.getElem?_eq_some_iff.mp h1).1), Nat.min_eq_left (Nat.le_of_lt (List.getElem?_eq_some_iff.mp h2).1)]
  unfold climbs
  rw [e h1, e h2, List.zip_append hl, List.foldl_append]
  rfl
end K68

set_option Elab.async false
set_option linter.all false
set_option maxRecDepth 100000
set_option maxHeartbeats 4000000
namespace K68
open PySem PySem.Spec PyProof.Rows L2 Z LamX NdefX
section
variable {P : Program} {w : World} {K : PySem.W.Frag} {mg : Str → Option Value} {base : Heap} {CR : Addr}
theorem told_len {R : RData} {ls : List Str} (h : refusedB R ls = false) : (toldD R ls).length = ls.length := by
  unfold refusedB at h
  rw [Bool.or_eq_false_iff] at h
  have h1 := of_decide_eq_false h.1
  have h2 := goes_len (R := R) (s := start1) (ls := ls)
  unfold toldD
  rw [List.length_map]
  omega
theorem dd_tells {f : Prop} {k : Nat} {l : List Addr} {H : Hp} {v : V} {d : PyData} (h : DD K l H v d) (t : Tells f k d) : ∃ a kn n, v = .ref a ∧ SqT K H a [.str kn, .int n] ∧ d = .tuple [.str kn, .int n] := by
  cases t with
  | line _ =>
    cases h with
    | tup h1 n h2 =>
      cases h2 with
      | cons a r =>
        cases r with
        | cons b r =>
          cases r
          cases a
          cases b
          exact ⟨_, _, _, rfl, h1, rfl⟩
  | role b p =>
    cases h with
    | tup h1 n h2 =>
      cases h2 with
      | cons a r =>
        cases r with
        | cons b r =>
          cases r
          cases a
          cases b
          exact ⟨_, _, _, rfl, h1, rfl⟩
theorem tells_next {f : Prop} {k : Nat} {d : PyData} {kn : Str} {n : Int} (t : Tells f k d) (e : d = .tuple [.str kn, .int n]) (h : kn = "next") : ∃ p : Nat, n = p ∧ d = kindD (true, p) ∧ 1 ≤ p ∧ p ≤ k := by
  cases t with
  | line _ =>
    simp only [lineD, PyData.tuple.injEq, List.cons.injEq, PyData.str.injEq] at e
    rw [h] at e
    exact absurd e.1 (by decide)
  | role b p h1 h2 =>
    simp only [kindD, PyData.tuple.injEq, List.cons.injEq, PyData.str.injEq, PyData.int.injEq] at e
    cases b
    · rw [h] at e
      exact absurd e.1 (by decide)
    · exact ⟨p, e.2.1.symm, rfl, h1, h2⟩
theorem tells_end {f : Prop} {k : Nat} {d : PyData} {kn : Str} {n : Int} (t : Tells f k d) (e : d = .tuple [.str kn, .int n]) (h : kn = "end") : ∃ p : Nat, n = p ∧ d = kindD (false, p) ∧ 1 ≤ p ∧ p ≤ k := by
  cases t with
  | line _ =>
    simp only [lineD, PyData.tuple.injEq, List.cons.injEq, PyData.str.injEq] at e
    rw [h] at e
    exact absurd e.1 (by decide)
  | role b p h1 h2 =>
    simp only [kindD, PyData.tuple.injEq, List.cons.injEq, PyData.str.injEq, PyData.int.injEq] at e
    cases b
    · exact ⟨p, e.2.1.symm, rfl, h1, h2⟩
    · rw [h] at e
      exact absurd e.1 (by decide)
theorem tells_line {f : Prop} {k : Nat} {d : PyData} {kn : Str} {n : Int} (t : Tells f k d) (e : d = .tuple [.str kn, .int n]) (h : ¬ kn = "next") (h2 : ¬ kn = "end") : d = lineD ∧ f := by
  cases t with
  | line hf => exact ⟨rfl, hf⟩
  | role b p =>
    simp only [kindD, PyData.tuple.injEq, List.cons.injEq, PyData.str.injEq] at e
    cases b
    · exact absurd e.1.symm h2
    · exact absurd e.1.symm h
def spRead (K : PySem.W.Frag) (CR Pt : Addr) : Sp := fun vs H Q _ => ∃ (r : Addr) (R : RData) (v : V) (l : List Addr) (ls : List Str), vs = [.ref r, v] ∧ IsReader CR R H r ∧ R.Ok ∧ IsMsg K R.g ls l H v ∧ Tabs (tabsM Pt) H ∧
  (refusedB R ls = true → ∀ H', Ex [] H H' → Tabs (tabsM Pt) H' → Q .non H') ∧
  (refusedB R ls = false → ∀ a S H', Ex [] H H' → Tabs (tabsM Pt) H' → (∀ b ∈ S, NewX H b) → Bu H' S (.ref a) (.list (treeD R ls)) → Q (.ref a) H')
structure Ends14 (mg : Str → Option Value) : Prop where
  nx : ∃ u, mg "NEXT" = some u ∧ RelV (.str "next") u
  en : ∃ u, mg "END" = some u ∧ RelV (.str "end") u
theorem scTr : FnScope ["reader", "message", "told", "under_way", "kind", "level", "line"] ["reader", "message"] (defScope (top 112)) := ⟨rfl, rfl, rfl, by decide +kernel, rfl, by decide +kernel, by decide +kernel⟩
theorem d_treeRead {Pt : Addr} (B : Blt mg base) (T : Ends14 mg) (D : At K mg "tree_read" (top 112)) (D1 : Def P w K mg base 8 "telling" (top 110) ["reader", "message"] (spTell K CR Pt)) :
    Def P w K mg base 9 "tree_read" (top 112) ["reader", "message"] (spRead K CR Pt) := by
  refine def_of D B scTr (fun vs H Q E ⟨_, _, _, _, _, e, _⟩ => by rw [e]; rfl) fun f cdv A outer s H vs Q E hm C h => ?_
  obtain ⟨r, R, v, l, ls, rfl, hr, ok, hmsg, hT, hN, hY⟩ := h
  obtain ⟨uN, gN, rN⟩ := T.nx
  obtain ⟨uE, gE, rE⟩ := T.en
  obtain ⟨d, hd, hsq, hit⟩ := hmsg.ex
  have m3 := ok.ms.2.1
  have few := hmsg.few
  have sz : ∀ n, n ≤ 16777216 → n ≤ sizeLine := fun n hn => by rw [sizeLine_eq]; exact hn
  refine b_cons (s_set (i := 2) (e_call C D1 (a_cons (e_name 0 (v := .ref r) (a_cons (e_name 1 (v := v) (a_nil ?_))))) rfl (fun _ _ _ _ _ _ us hl => match us, hl with | [_, _], _ => rfl)) C.nd)
  refine ⟨r, R, v, l, ls, rfl, hr, ok, hmsg, hT, fun hf H1 x1 T1 => ?_, fun hf tq ws H1 x1 T1 htqn htq dws => ?_⟩
  · refine b_cons (s_ifB true ?_ (fun _ H2 b2 => ?_) (fun e => by cases e))
    · exact t_cmp (e_name 2 (v := .non) (e_none (c_isN ⟨_, rfl, rfl, But.refl⟩)))
    · exact b_cons (s_ret (e_none (hN hf H2 (x1.trans b2.ex) (tabs_new T1 b2))))
  have tl := told_len hf
  have wl : ws.length = ls.length := by rw [dws.length, tl]
  refine b_cons (s_ifB false ?_ (fun e => by cases e) (fun _ H2 b2 => b_nil ?_))
  · exact t_cmp (e_name 2 (v := .ref tq) (e_none (c_isN ⟨_, rfl, rfl, But.refl⟩)))
  have x2 : Ex [] H H2 := x1.trans b2.ex
  have T2 := tabs_new T1 b2
  have htq2 := b2 _ _ (by simp) htq
  have dws2 := dws.but b2
  have hd2 : DD K l H2 v d := hd.ex (x2.mono (by simp))
  -- the first list, and the row of lists that are under way
  refine b_cons (s_set (i := 3) (e_lst (a_cons (e_lst (a_nil ⟨sz 0 (by decide), fun u0 hu0 => a_nil ⟨sz 1 (by decide), fun q0 hq0 => ?_⟩⟩)))) C.nd)
  have b3 : But [] H2 (upd (upd H2 u0 (.lst [])) q0 (.lst [.ref u0])) := (But.new hu0).trans (But.new hq0)
  have nuq : u0 ≠ q0 := ne_of_none upd_same hq0
  have q0n : H2 q0 = none := (But.new hu0).free hq0
  have e3u : upd (upd H2 u0 (.lst [])) q0 (.lst [.ref u0]) u0 = some (.lst []) := by rw [upd_ne nuq]; exact upd_same
  have e3q : upd (upd H2 u0 (.lst [])) q0 (.lst [.ref u0]) q0 = some (.lst [.ref u0]) := upd_same
  generalize upd (upd H2 u0 (.lst [])) q0 (.lst [.ref u0]) = H3 at b3 e3u e3q ⊢
  refine b_cons (s_for C (i_zipD (H0 := H2) B (e_name 2 (v := .ref tq) (e_name 1 (v := v) ⟨tq, ws, l, d, rfl, b3 _ _ (by simp) htq2, b3.of, hd2, hsq, fun J Gw vs W hG hvs => ?_⟩))))
  have hvl : vs = ls.map V.str := by rw [hit] at hvs; exact dds_strs hvs
  subst hvl
  have hmin : min ws.length (ls.map V.str).length = ls.length := by rw [List.length_map, wl, Nat.min_self]
  rw [hmin] at W
  refine ⟨_, _, _, W, fun i σ H' => ∃ (v4 v5 v6 : Option V) (uq : Addr) (us T : List Addr), σ = [some (.ref r), some v, some (.ref tq), some (.ref uq), v4, v5, v6] ∧ But [] H2 H' ∧ H2 uq = none ∧ Spn H' us T (climbs ((toldD R ls).take i) (ls.take i) [[]]) ∧ (∀ a ∈ us, H2 a = none) ∧ (∀ a ∈ T, H2 a = none) ∧
    H' uq = some (.lst (us.map V.ref)) ∧ uq ∉ us ∧ uq ∉ T, ⟨none, none, none, q0, [u0], [], rfl, b3, q0n, .one e3u .nil (by simp), by simpa using hu0, by simp, e3q, by simpa using nuq.symm, by simp⟩, fun i σ H' _ ⟨v4, v5, v6, uq, us, T, _, b, _⟩ => hG H' (b _ _ (by simp) htq2) b.of, ?_, ?_⟩
  · rintro i x σ H4 H5 hi ⟨v4, v5, v6, uq, us, T, rfl, b4, huq, sp, fu, fT, hq4, nu, nT⟩ ⟨t, x1, y1, rfl, ht, rfl, e1, e2⟩
    replace e1 : ws[i]? = some x1 := e1
    replace e2 : (ls.map V.str)[i]? = some y1 := e2
    rw [List.getElem?_map, Option.map_eq_some_iff] at e2
    obtain ⟨y, hy, rfl⟩ := e2
    obtain ⟨dd, hdd, hD⟩ := dws2.get e1
    have hc := climbs_snoc (st := [[]]) hdd hy
    have tells := told_tells ok.ms.1 hdd
    have lens : ∀ ds ∈ climbs ((toldD R ls).take i) (ls.take i) [[]], ds.length ≤ 100000 := fun ds hds => by
      have h1 := climbs_few (((toldD R ls).take i).zip (ls.take i)) (st := [[]]) (N := 0) (by simp) ds hds
      rw [List.length_zip, List.length_take, List.length_take] at h1
      omega
    generalize climbs ((toldD R ls).take i) (ls.take i) [[]] = st at sp hc tells lens
    have stl := sp.len
    obtain ⟨a, kn, n, rfl, hsq0, hform⟩ := dd_tells (hD.but b4) tells
    have b45 : But [] H4 (upd H4 t (.tup [.ref a, .str y])) := But.new ht
    have hsq1 := b45.sqt (by simp) hsq0
    have hT5 : upd H4 t (.tup [.ref a, .str y]) t = some (.tup [.ref a, .str y]) := upd_same
    have b5 := b4.trans b45
    have sp5 := sp.but b45 (by simp) (by simp)
    have hq5 := b45 _ _ (by simp) hq4
    generalize upd H4 t (.tup [.ref a, .str y]) = H5 at hsq1 b45 hT5 b5 sp5 hq5 ⊢
    refine g_tup (gs_cons (g_tup (gs_cons (g_name (i := 4) (gs_cons (g_name (i := 5) (gs_nil (gs_cons (g_name (i := 6) (gs_nil ?_) C.nd))) C.nd)) C.nd)) rfl hsq1)) rfl (.inl (.inl hT5))
    have nothere : ∀ {HH : Hp} {z : Addr}, But [] H5 HH → HH z = none → z ∉ us ∧ z ∉ T := fun {HH z} b hz => by
      refine ⟨fun q => ?_, fun q => ?_⟩
      · obtain ⟨xs, e⟩ := sp5.there _ (.inl q)
        rw [b _ _ (by simp) e] at hz
        cases hz
      · obtain ⟨xs, e⟩ := sp5.there _ (.inr q)
        rw [b _ _ (by simp) e] at hz
        cases hz
    refine b_cons (s_ifB (decide (kn = "next")) ?_ (fun e H6 b6 => ?_) (fun e H6 b6 => b_cons (s_ifB (decide (kn = "end")) ?_ (fun e' H7 b7 => ?_) (fun e' H7 b7 => ?_))))
    · exact t_cmp (e_name 4 (v := .str kn) (e_glob (v := .str "next") (c_eq rfl ⟨_, rfl, by rw [decide_eq_decide, V.str.injEq], But.refl⟩) gN rN))
    · -- a next mark
      obtain ⟨p, rfl, hdp, p1, p2⟩ := tells_next tells hform (of_decide_eq_true e)
      have pu : p ≤ us.length := by omega
      have hq6 := b6 _ _ (by simp) hq5
      have sp6 := sp5.but b6 (by simp) (by simp)
      refine b_cons (s_set (i := 3) (e_bin (e_slice sl_list (e_name 3 (v := .ref uq) (p_none (p_some (e_name 5 (v := .int p) ⟨_, rfl, uq, _, rfl, .inl (.inl hq6), fun s1 hs1 => ?_⟩)))))) C.nd)
      rw [cutV_toV]
      refine e_lst (a_cons (e_lst (a_nil ⟨sz 0 (by decide), fun p0 hp0 => a_nil ⟨sz 1 (by decide), fun q2 hq2 => ?_⟩⟩)))
      have c1 : But [] H6 (upd H6 s1 (.lst ((us.map V.ref).take p))) := But.new hs1
      have c2 := But.new (l := []) (o := .lst []) hp0
      have c3 := But.new (l := []) (o := .lst [V.ref p0]) hq2
      have g1 := c3 _ _ (by simp) (c2 _ _ (by simp) (show upd H6 s1 (.lst ((us.map V.ref).take p)) s1 = _ from upd_same))
      have gp := c3 _ _ (by simp) (show upd (upd H6 s1 (.lst ((us.map V.ref).take p))) p0 (.lst []) p0 = _ from upd_same)
      have gq : upd (upd (upd H6 s1 (.lst ((us.map V.ref).take p))) p0 (.lst [])) q2 (.lst [V.ref p0]) q2 = some (.lst [V.ref p0]) := upd_same
      have tkl : ((us.map V.ref).take p).length ≤ 1000000 := by rw [List.length_take, List.length_map]; omega
      have c123 := c1.trans (c2.trans c3)
      have f0 := nothere (b6.trans c1) hp0
      have p0n : H2 p0 = none := ((b5.trans b6).trans c1).free hp0
      generalize upd (upd (upd H6 s1 (.lst ((us.map V.ref).take p))) p0 (.lst [])) q2 (.lst [V.ref p0]) = HC at c123 g1 gp gq ⊢
      refine o_cat g1 gq (sz _ (by show _ + 1 ≤ _; omega)) fun q3 hq3 => ?_
      have c4 : But [] HC (upd HC q3 (.lst ((us.map V.ref).take p ++ [V.ref p0]))) := But.new hq3
      have f3 := nothere (b6.trans c123) hq3
      have q3n : H2 q3 = none := ((b5.trans b6).trans c123).free hq3
      have h7p := c4 _ _ (by simp) gp
      have npq : p0 ≠ q3 := fun z => by rw [← z, gp] at hq3; cases hq3
      have h7q : upd HC q3 (.lst ((us.map V.ref).take p ++ [V.ref p0])) q3 = some (.lst ((us.map V.ref).take p ++ [V.ref p0])) := upd_same
      have c := c123.trans c4
      generalize upd HC q3 (.lst ((us.map V.ref).take p ++ [V.ref p0])) = H7 at c h7p h7q ⊢
      obtain ⟨T', sc, hT'⟩ := (sp6.but c (by simp) (by simp)).cut p1 pu
      obtain ⟨ini, u, xs, ds, i1, i2, i3, i4, i5, i6, i7, i8⟩ := sc.last
      have il : ini.length + 1 = p := by
        have := congrArg List.length i1
        rw [List.length_take, List.length_append, List.length_singleton] at this
        omega
      have umem : u ∈ us := List.mem_of_mem_take (i := p) (by rw [i1]; simp)
      have xl : xs.length ≤ 100001 := by rw [i5]; exact closeTo_few lens ds i6
      have row : (us.map V.ref).take p ++ [V.ref p0] = (ini ++ [u] ++ [p0]).map V.ref := by rw [← List.map_take, i1]; simp
      have pi : ((p : Nat) : Int) - 1 = ((ini.length : Nat) : Int) := by omega
      refine b_cons (s_expr (e_append (e_ix (e_name 3 (v := .ref q3) (e_bin (e_name 5 (v := .int p) (e_int (o_sub ?_))))))))
      rw [pi]
      refine ix_l (.inl (.inl h7q)) (v := .ref u) (atI_nat ?_) ⟨u, rfl, ⟨_, i4⟩, e_ix (e_name 3 (v := .ref q3) (e_name 5 (v := .int p) (ix_l (.inl (.inl h7q)) (v := .ref p0) (atI_nat ?_) ⟨xs, i4, by rw [sizeLine_eq]; omega, ?_⟩)))⟩
      · rw [row]; simp
      · rw [row, ← il]; simp
      have nuq3 : u ≠ q3 := fun z => f3.1 (z ▸ umem)
      have nup : u ≠ p0 := fun z => f0.1 (z ▸ umem)
      refine b_nil (b_nil ⟨_, _, _, q3, us.take p ++ [p0], T', rfl, ?_, q3n, ?_, fun a ha => ?_, fun a ha => ?_, ?_, ?_, ?_⟩)
      · exact but_late (b5.trans (b6.trans c)) (But.at (l := [u]) (by simp)) fun z hz => by rw [List.mem_singleton.mp hz]; exact fu u umem
      · rw [hc, hdp, climb_next]
        exact i7 p0 _ upd_same (by rw [upd_ne nup.symm]; exact h7p) (But.at (by simp)) (fun q => f0.1 (List.mem_of_mem_take q)) fun q => (hT' _ q).elim f0.1 f0.2
      · rcases List.mem_append.mp ha with q | q
        · exact fu a (List.mem_of_mem_take q)
        · rw [List.mem_singleton.mp q]; exact p0n
      · exact (hT' a ha).elim (fu a) (fT a)
      · rw [upd_ne nuq3.symm, i1, ← row]; exact h7q
      · intro q
        rcases List.mem_append.mp q with q | q
        · exact f3.1 (List.mem_of_mem_take q)
        · exact npq (List.mem_singleton.mp q).symm
      · exact fun q => (hT' _ q).elim f3.1 f3.2
    · exact t_cmp (e_name 4 (v := .str kn) (e_glob (v := .str "end") (c_eq rfl ⟨_, rfl, by rw [decide_eq_decide, V.str.injEq], But.refl⟩) gE rE))
    · -- an end mark
      obtain ⟨p, rfl, hdp, p1, p2⟩ := tells_end tells hform (of_decide_eq_true e')
      have pu : p ≤ us.length := by omega
      have b57 := b6.trans b7
      have hq7 := b57 _ _ (by simp) hq5
      refine b_cons (s_set (i := 3) (e_slice sl_list (e_name 3 (v := .ref uq) (p_none (p_some (e_name 5 (v := .int p) ⟨_, rfl, uq, _, rfl, .inl (.inl hq7), fun s1 hs1 => ?_⟩))))) C.nd)
      rw [cutV_toV]
      have c1 : But [] H7 (upd H7 s1 (.lst ((us.map V.ref).take p))) := But.new hs1
      have f1 := nothere b57 hs1
      obtain ⟨T', sc, hT'⟩ := (sp5.but (b57.trans c1) (by simp) (by simp)).cut p1 pu
      refine b_nil (b_nil (b_nil ⟨_, _, _, s1, us.take p, T', rfl, b5.trans (b57.trans c1), (b5.trans b57).free hs1, ?_, fun a ha => fu a (List.mem_of_mem_take ha), fun a ha => (hT' a ha).elim (fu a) (fT a), ?_, fun q => f1.1 (List.mem_of_mem_take q), fun q => (hT' _ q).elim f1.1 f1.2⟩))
      · rw [hc, hdp, climb_end]; exact sc
      · rw [List.map_take]; exact upd_same
    · -- a line
      have hdp := (tells_line tells hform (of_decide_eq_false e) (of_decide_eq_false e')).1
      have b57 := b6.trans b7
      have hq7 := b57 _ _ (by simp) hq5
      have sp7 := sp5.but b57 (by simp) (by simp)
      obtain ⟨ini, u, xs, ds, i1, i2, i3, i4, i5, i6, i7, i8⟩ := sp7.last
      have umem : u ∈ us := by rw [i1]; simp
      have xl : xs.length ≤ 100000 := by rw [i5]; exact lens ds i6
      refine b_cons (s_expr (e_append (e_ix (e_name 3 (v := .ref uq) (e_un (e_int (u_neg (ix_l (.inl (.inl hq7)) (v := .ref u) ?_ ⟨u, rfl, ⟨_, i4⟩, e_name 6 (v := .str y) ⟨xs, i4, by rw [sizeLine_eq]; omega, ?_⟩⟩))))))))
      · rw [i1, List.map_append]
        exact atI_last _ _
      have nuq : u ≠ uq := fun z => nu (z ▸ umem)
      refine b_nil (b_nil (b_nil ⟨_, _, _, uq, us, T, rfl, ?_, huq, ?_, fu, fT, by rw [upd_ne nuq.symm]; exact hq7, nu, nT⟩))
      · exact but_late (b5.trans b57) (But.at (l := [u]) (by simp)) fun z hz => by rw [List.mem_singleton.mp hz]; exact fu u umem
      · rw [hc, hdp, climb_line]
        exact i8 y _ upd_same (But.at (by simp))
  · rintro σ H4 ⟨v4, v5, v6, uq, us, T, rfl, b4, huq, sp, fu, fT, hq4, nu, nT⟩
    obtain ⟨u, us', rfl⟩ := sp.hd
    obtain ⟨xs, S, g1, g2, g3, g4⟩ := sp.fold
    refine b_cons (s_ret (e_ix (e_name 3 (v := .ref uq) (e_int (ix_l (.inl (.inl hq4)) (v := .ref u) (atI_nat (j := 0) rfl) ?_)))))
    have tk : climbs ((toldD R ls).take ls.length) (ls.take ls.length) [[]] = climbs (toldD R ls) ls [[]] := by rw [List.take_length, List.take_of_length_le (by omega)]
    rw [tk] at g2
    refine hY hf u (u :: S) H4 (x2.trans b4.ex) (tabs_new T2 b4) (fun b hb => newX_of x2 ?_) (.lst g1 g2 g3)
    rcases List.mem_cons.mp hb with e | hb
    · exact fu b (by simp [e])
    · exact (g4 b hb).elim (fun q => fu b (by simp [q])) (fT b)
end
end K68


set_option Elab.async false
set_option linter.all false
set_option maxRecDepth 100000
set_option maxHeartbeats 4000000
namespace K68
open PySem PySem.Spec PyProof.Rows L2 Z
/-! ### what is drawn -/
def Pot (H : Hp) (p : Addr) : Prop := ∃ a b : Int, H p = some (.lst [.int a, .int b]) ∧ 0 ≤ b ∧ b < 2 ^ 31
theorem Pot.new {H H' : Hp} {p : Addr} (h : Pot H p) (b : But [] H H') : Pot H' p := let ⟨x, y, e, r⟩ := h; ⟨x, y, b _ _ (by simp) e, r⟩
theorem Pot.here {H : Hp} {p : Addr} (h : Pot H p) : Here [p] H := let ⟨x, y, e, r⟩ := h; fun q hq => by rw [List.mem_singleton.mp hq]; exact ⟨_, e⟩
theorem Pot.there {H : Hp} {p q : Addr} (h : Pot H p) (hq : H q = none) : q ≠ p := fun z => by
  obtain ⟨x, y, e, r⟩ := h
  rw [z, e] at hq
  cases hq
section
variable {P : Program} {w : World} {K : PySem.W.Frag} {mg : Str → Option Value} {base : Heap}
def spPotMk (K : PySem.W.Frag) : Sp := fun vs H Q _ => ∃ (q : Addr) (ns : List Int) (k : Nat), vs = [.ref q, .int k] ∧ SqL K H q (ns.map V.int) ∧ k ≤ 100 ∧ ns.length ≤ 1000 ∧ ∀ p H', But [] H H' → H p = none → Pot H' p → Q (.ref p) H'
theorem scPot : FnScope ["script", "k", "cell"] ["script", "k"] (defScope (top 114)) := ⟨rfl, rfl, rfl, by decide +kernel, rfl, by decide +kernel, by decide +kernel⟩
theorem d_pot (B : Blt mg base) (D : At K mg "_law_pot" (top 114)) : Def P w K mg base 1 "_law_pot" (top 114) ["script", "k"] (spPotMk K) := by
  refine def_of D B scPot (fun vs H Q E ⟨_, _, _, e, _⟩ => by rw [e]; rfl) fun f cdv A outer s H vs Q E hm C h => ?_
  obtain ⟨q, ns, k, rfl, hq, hk, hn, hQ⟩ := h
  have hq' : ∀ {H1}, But [] H H1 → SqL K H1 q (ns.map V.int) := fun b => b.sql (by simp) hq
  have fin : ∀ (j : Int) (H1 : Hp), But [] H H1 → wB (bX P w K mg base ["script", "k", "cell"] "_law_pot" (top 114) f cdv A outer s H E) ((defBody (top 114)).drop 2) { nx := fun _ H' => Q .non H', rt := Q } [some (.ref q), some (.int k), some (.int j)] H1 := fun j H1 b1 => by
    refine b_cons (s_ret (e_lst (a_cons (e_max2 C (e_int (e_bin (e_name 2 (e_bin (e_int (e_int ?_))))))))))
    refine o_pow ⟨by decide, by decide, by decide⟩ (o_sub ⟨_, _, rfl, rfl, ?_⟩)
    have m1 := Int.emod_nonneg j (show (2147483549 : Int) ≠ 0 by decide)
    have m2 := Int.emod_lt_of_pos j (show (0 : Int) < 2147483549 by decide)
    refine a_cons (e_bin (e_bin (e_bin (e_int1 B (e_bin (e_bin (e_int1 B (e_name 2 ⟨j, rfl, e_int (o_mod (by decide) (e_int (o_add ⟨_, rfl, ?_⟩)))⟩))))))))
    refine e_bin (e_bin (e_bin (e_int (e_name 1 (o_mul (.inl ⟨by decide, by decide⟩) (e_int (o_add (e_int ?_))))))))
    refine o_pow ⟨by decide, by decide, by omega⟩ (o_mul (.inl ⟨by omega, by omega⟩) (e_int (o_mod (by decide) (e_int (o_add (a_nil ⟨?_, fun p hp => ?_⟩))))))
    · rw [sizeLine_eq]; exact (by decide : 2 ≤ 16777216)
    · have x1 := Int.emod_nonneg ((j % 2147483549 + 7) * (2 * (k : Int) + 9) ^ (3 : Int).toNat) (show (2147483477 : Int) ≠ 0 by decide)
      have x2 := Int.emod_lt_of_pos ((j % 2147483549 + 7) * (2 * (k : Int) + 9) ^ (3 : Int).toNat) (show (0 : Int) < 2147483477 by decide)
      exact hQ p _ (b1.trans (But.new hp)) (b1.free hp) ⟨_, _, upd_same, by omega, by omega⟩
  refine b_cons (s_set (i := 2) (e_bin (e_bin (e_int (e_name 1 ?_)))) C.nd)
  refine o_mul (.inl ⟨by decide, by decide⟩) (e_int (o_add ?_))
  refine b_cons (s_ifB (decide (k < ns.length)) ?_ (fun e H1 b1 => ?_) (fun e H1 b1 => ?_))
  · refine t_cmp (e_name 1 (e_len B (e_name 0 ?_)))
    refine ⟨ns.length, .inl ⟨_, hq, by simp⟩, c_lt ⟨_, rfl, ?_, But.refl⟩⟩
    rw [decide_eq_decide]; omega
  · have hlt : k < ns.length := of_decide_eq_true e
    refine b_cons (s_set (i := 2) (e_abs B (e_ix (e_name 0 (e_name 1 (ix_l (hq' b1) (v := .int ns[k]) ?_ ⟨_, rfl, b_nil (fin _ H1 b1)⟩))))) C.nd)
    exact atI_nat (by simp [hlt])
  · exact b_nil (fin _ H1 b1)
def spDraw : Sp := fun vs H Q _ => ∃ (p : Addr) (n : Int), vs = [.ref p, .int n] ∧ Pot H p ∧ 0 < n ∧ n < 1073741824 ∧ ∀ (r : Int) H', 0 ≤ r → r < n → But [p] H H' → Pot H' p → Q (.int r) H'
theorem scDraw : FnScope ["pot", "many", "digit"] ["pot", "many"] (defScope (top 115)) := ⟨rfl, rfl, rfl, by decide +kernel, rfl, by decide +kernel, by decide +kernel⟩
theorem d_draw (B : Blt mg base) (D : At K mg "_law_draw" (top 115)) : Def P w K mg base 1 "_law_draw" (top 115) ["pot", "many"] spDraw := by
  refine def_of D B scDraw (fun vs H Q E ⟨_, _, e, _⟩ => by rw [e]; rfl) fun f cdv A outer s H vs Q E hm C h => ?_
  obtain ⟨p, n, rfl, ⟨a, b, hp, b0, b1⟩, n0, n1, hQ⟩ := h
  have sq : SqL K H p [.int a, .int b] := .inl (.inl hp)
  refine b_cons (s_ifB (decide (0 < a)) ?_ (fun e H1 b1 => ?_) (fun e H1 b1 => ?_))
  · refine t_cmp (e_ix (e_name 0 (e_int (ix_l sq (v := .int a) rfl (e_int (c_gt ⟨_, rfl, rfl, But.refl⟩))))))
  · have hp1 := b1 _ _ (by simp) hp
    refine b_cons (s_asg (e_divmod B (e_ix (e_name 0 (e_int (ix_l (.inl (.inl hp1)) (v := .int a) rfl (e_name 1 ?_)))))))
    refine ⟨a, n, rfl, rfl, ⟨n0, n1⟩, fun t ht => ?_⟩
    have hpt : p ≠ t := ne_of_none hp1 ht
    refine g_tup (gs_cons (g_sub (e_name 0 (e_int (set_l (j := 0) (by rw [upd_ne hpt]; exact hp1) rfl ?_))))) rfl (.inl (.inl upd_same))
    refine gs_cons (g_name (i := 2) (gs_nil (b_cons (s_ret (e_name 2 ?_)))) C.nd)
    refine hQ _ _ (Int.emod_nonneg _ (by omega)) (Int.emod_lt_of_pos _ n0) ((b1.of.trans (But.new ht)).trans (But.at (by simp))) ⟨_, _, upd_same, b0, by assumption⟩
  · have hp1 := b1 _ _ (by simp) hp
    refine b_nil (b_cons (s_asg (e_bin (e_int1 B (e_bin (e_bin (e_ix (e_name 0 (e_int (ix_l (.inl (.inl hp1)) (v := .int b) rfl (e_int ?_)))))))))))
    refine o_mul (.inr ⟨by decide, by decide⟩) (e_int (o_add ⟨_, rfl, e_int (o_mod (by decide) (g_sub (e_name 0 (e_int (set_l (j := 1) hp1 rfl ?_)))))⟩))
    have x1 := Int.emod_nonneg (b * 40014 + 12211) (show (2147483563 : Int) ≠ 0 by decide)
    have x2 := Int.emod_lt_of_pos (b * 40014 + 12211) (show (0 : Int) < 2147483563 by decide)
    generalize (b * 40014 + 12211) % 2147483563 = b' at x1 x2 ⊢
    refine b_cons (s_ret (e_bin (e_int1 B (e_bin (e_bin (e_bin (e_ix (e_name 0 (e_int (ix_l (.inl (.inl upd_same)) (v := .int b') rfl (e_ix (e_name 0 (e_int (ix_l (.inl (.inl upd_same)) (v := .int b') rfl ?_))))))))))))))
    refine o_mul (.inl ⟨by omega, by omega⟩) (e_int (o_mod (by decide) (e_int (o_div ⟨by decide, by decide⟩ ⟨_, rfl, e_name 1 (o_mod n0 ?_)⟩))))
    exact hQ _ _ (Int.emod_nonneg _ (by omega)) (Int.emod_lt_of_pos _ n0) (b1.of.trans (But.at (by simp))) ⟨_, _, upd_same, by omega, by omega⟩
end
end K68

set_option Elab.async false
set_option linter.all false
set_option maxRecDepth 100000
set_option maxHeartbeats 4000000
namespace K68
open PySem PySem.Spec PyProof.Rows L2 Z
theorem strSigns_len {g : Str} (h : strSigns g = true) : g.length ≤ 4 ∧ 2 ≤ g.length := by
  simp only [strSigns, Bool.and_eq_true, decide_eq_true_eq] at h
  exact ⟨h.1.1.2, h.1.1.1⟩
section
variable {P : Program} {w : World} {K : PySem.W.Frag} {mg : Str → Option Value} {base : Heap}
def spPick (K : PySem.W.Frag) : Sp := fun vs H Q _ => ∃ p, Pot H p ∧
  ((∃ q xs, vs = [.ref p, .ref q] ∧ q ≠ p ∧ SqL K H q xs ∧ 0 < xs.length ∧ xs.length < 1000000 ∧ ∀ v ∈ xs, ∀ H', But [p] H H' → Pot H' p → Q v H') ∨
   (∃ z : Str, vs = [.ref p, .str z] ∧ 0 < z.length ∧ z.length < 1000000 ∧ ∀ c ∈ z.cps.toList, ∀ H', But [p] H H' → Pot H' p → Q (.str ⟨#[c]⟩) H'))
theorem scPick : FnScope ["pot", "things"] ["pot", "things"] (defScope (top 116)) := ⟨rfl, rfl, rfl, by decide +kernel, rfl, by decide +kernel, by decide +kernel⟩
theorem d_pick (B : Blt mg base) (D : At K mg "_law_pick" (top 116)) (D1 : Def P w K mg base 1 "_law_draw" (top 115) ["pot", "many"] spDraw) : Def P w K mg base 2 "_law_pick" (top 116) ["pot", "things"] (spPick K) := by
  refine def_of D B scPick (fun vs H Q E ⟨_, _, h⟩ => by rcases h with ⟨_, _, e, _⟩ | ⟨_, e, _⟩ <;> (rw [e]; rfl)) fun f cdv A outer s H vs Q E hm C h => ?_
  obtain ⟨p, hp, ⟨q, xs, rfl, hqp, hq, x0, x1, hQ⟩ | ⟨z, rfl, x0, x1, hQ⟩⟩ := h
  · refine b_cons (s_ret (e_ix (e_name 1 (e_call C D1 (a_cons (e_name 0 (a_cons (e_len B (e_name 1 ?_))))) rfl (fun _ _ _ _ _ _ us hl => match us, hl with | [_, _], _ => rfl)))))
    refine ⟨xs.length, .inl ⟨xs, hq, rfl⟩, a_nil ⟨p, xs.length, rfl, hp, by omega, by omega, fun r H' r0 r1 b hp' => ?_⟩⟩
    obtain ⟨j, rfl⟩ := Int.eq_ofNat_of_zero_le r0
    have hj : j < xs.length := by omega
    exact ix_l (b.sql (by simpa using hqp) hq) (atI_nat (List.getElem?_eq_getElem hj)) (hQ _ (List.getElem_mem hj) H' b hp')
  · refine b_cons (s_ret (e_ix (e_name 1 (e_call C D1 (a_cons (e_name 0 (a_cons (e_len B (e_name 1 ?_))))) rfl (fun _ _ _ _ _ _ us hl => match us, hl with | [_, _], _ => rfl)))))
    have hz : z.length ≤ sizeLine := by rw [sizeLine_eq]; omega
    refine ⟨z.length, ⟨hz, rfl⟩, a_nil ⟨p, z.length, rfl, hp, by omega, by omega, fun r H' r0 r1 b hp' => ?_⟩⟩
    obtain ⟨j, rfl⟩ := Int.eq_ofNat_of_zero_le r0
    have hj : j < z.cps.toList.length := by have : z.cps.toList.length = z.length := by simp; rfl
                                            omega
    exact ix_s hz (atI_nat (List.getElem?_eq_getElem hj)) (hQ _ (List.getElem_mem hj) H' b hp')
/-- a text of the signs -/
def spTxt : Sp := fun vs H Q _ => ∃ (p : Addr) (g : Str) (n : Nat), vs = [.ref p, .str g, .int n] ∧ Pot H p ∧ strSigns g = true ∧ n ≤ 100 ∧ ∀ (y : Str) H', isLine g (.str y) = true → y.length ≤ n → But [p] H H' → Pot H' p → Q (.str y) H'
theorem scTxt : FnScope ["pot", "signs", "most", "at"] ["pot", "signs", "most"] (defScope (top 117)) := ⟨rfl, rfl, rfl, by decide +kernel, rfl, by decide +kernel, by decide +kernel⟩
theorem d_txt (B : Blt mg base) (D : At K mg "_law_line" (top 117)) (D0 : Def P w K mg base 1 "_law_draw" (top 115) ["pot", "many"] spDraw) (D1 : Def P w K mg base 2 "_law_pick" (top 116) ["pot", "things"] (spPick K)) :
    Def P w K mg base 3 "_law_line" (top 117) ["pot", "signs", "most"] spTxt := by
  refine def_of D B scTxt (fun vs H Q E ⟨_, _, _, e, _⟩ => by rw [e]; rfl) fun f cdv A outer s H vs Q E hm C h => ?_
  obtain ⟨p, g, n, rfl, hp, hg, hn, hQ⟩ := h
  have gl := strSigns_len hg
  refine b_cons (s_ret (e_join (e_str ⟨"", rfl, e_lc [("at", 3)] C (i_range1 B (e_call (C.mono (by decide)) D0 (a_cons (e_name 0 (a_cons (e_bin (e_name 2 (e_int (o_add (a_nil ?_)))))))) rfl (fun _ _ _ _ _ _ us hl => match us, hl with | [_, _], _ => rfl)))⟩)))
  refine ⟨p, n + 1, rfl, hp, by omega, by omega, fun r H1 r0 r1 b1 hp1 => ?_⟩
  obtain ⟨m, rfl⟩ := Int.eq_ofNat_of_zero_le r0
  refine ⟨m, rfl, by omega, by omega, m, _, _, walk_range, fun Dl hDl => ?_⟩
  have nDp : Dl ≠ p := hp1.there hDl
  refine ⟨fun i H' => But [p] H1 H' ∧ Pot H' p ∧ ∃ ys : List Nat, ys.length = i ∧ (∀ c ∈ ys, c ∈ g.cps.toList) ∧ H' Dl = some (.lst (ys.map fun c => .str ⟨#[c]⟩)), ⟨But.new hDl, hp1.new (But.new hDl), [], rfl, fun c hc => by simp at hc, upd_same⟩, fun _ _ _ _ => trivial, ?_, ?_⟩
  · rintro i x H5 H' hi ⟨b5, hp5, ys, hy, hyg, hD5⟩ ⟨rfl, rfl⟩
    refine lc_plain (i := 3) C.nd fun s H0 Ca cl fp => ?_
    refine e_call (C.blk _ _ _ _ _) D1 (a_cons (e_name 0 (a_cons (e_name 1 (a_nil ?_))))) rfl (fun _ _ _ _ _ _ us hl => match us, hl with | [_, _], _ => rfl)
    refine ⟨p, hp5, .inr ⟨g, rfl, by omega, by omega, fun c hc H6 b6 hp6 => ?_⟩⟩
    refine ⟨_, b6 _ _ (by simpa using nDp) hD5, by rw [sizeLine_eq, List.length_map]; omega, fun q o nq e => ?_, ?_, ys ++ [c], by simp [hy], ?_, ?_⟩
    · have nqD : q ≠ Dl := ne_of_none e hDl
      rw [upd_ne nqD]
      exact b6 _ _ nq (b5 _ _ nq e)
    · obtain ⟨a, b, e, r⟩ := hp6
      exact ⟨a, b, by rw [upd_ne nDp.symm]; exact e, r⟩
    · intro c' hc'
      rcases List.mem_append.mp hc' with h | h
      · exact hyg c' h
      · rw [List.mem_singleton.mp h]; exact hc
    · rw [upd_same]; simp
  · rintro H5 ⟨b5, hp5, ys, hy, hyg, hD5⟩
    have e1 : (ys.map fun c => (⟨#[c]⟩ : Str)) = (ys.map fun c => [c]).map sOf := by rw [List.map_map]; rfl
    refine ⟨Dl, ys.map fun c => (⟨#[c]⟩ : Str), rfl, .inl (.inl (.inl (by rw [hD5, List.map_map]; rfl))), ?_, ?_⟩
    · have e2 : ((ys.map fun c => (⟨#[c]⟩ : Str)).map (·.length)).sum = ys.length := by
        clear hy hyg hD5 e1
        induction ys with
        | nil => rfl
        | cons c r ih => simp only [List.map_cons, List.sum_cons, ih, List.length_cons]; show 1 + r.length = _; omega
      rw [e2]
      show ys.length + _ * 0 ≤ _
      omega
    rw [e1, Z.join_nil]
    have e3 : (ys.map fun c => [c]).flatten = ys := by
      clear hy hyg hD5 e1
      induction ys with
      | nil => rfl
      | cons c r ih => simp only [List.map_cons, List.flatten_cons, ih, List.cons_append, List.nil_append]
    rw [e3]
    refine hQ (sOf ys) H5 ?_ (by rw [sOf_len]; omega) (b1.trans b5) hp5
    simp only [isLine, List.all_eq_true, decide_eq_true_eq, sOf_list]
    exact hyg
end
end K68

set_option Elab.async false
set_option linter.all false
set_option maxRecDepth 100000
set_option maxHeartbeats 4000000
namespace K68
open PySem PySem.Spec PyProof.Rows L2 Z
/-! ### the model drawn -/
def signSets : List Str := ["-a", "-.a", "-=>", "01", "-.=>", ".a|"]
theorem signs_ok : ∀ g ∈ signSets, strSigns g = true := by decide +kernel
def kvsM (R : RData) (ml : Addr) : List (Key × V) := [(.inr "signs", .str R.g), (.inr "marks", .ref ml), (.inr "tail", .str R.t), (.inr "sight", .str R.si), (.inr "order", .str R.od), (.inr "further", .str R.fu), (.inr "finish", .str R.fi)]
structure IsModel (R : RData) (H : Hp) (m : Addr) : Prop where
  ex : ∃ ml, H m = some (.dK (kvsM R ml)) ∧ H ml = some (.lst (R.ms.map V.str))
theorem IsModel.but {R : RData} {H H' : Hp} {m : Addr} (h : IsModel R H m) (b : But [] H H') : IsModel R H' m := let ⟨ml, h1, h2⟩ := h.ex; ⟨ml, b _ _ (by simp) h1, b _ _ (by simp) h2⟩
theorem ms_ne {R : RData} (ok : R.Ok) {a b : Int} : (R.ms.map V.str) ≠ [.int a, .int b] := fun z => by
  have h1 := ok.ms.1
  match h : R.ms, h1 with
  | x :: r, _ => rw [h] at z; cases z
theorem IsModel.pot {R : RData} {H H' : Hp} {m p : Addr} (h : IsModel R H m) (ok : R.Ok) (hp : Pot H p) (b : But [p] H H') : IsModel R H' m := by
  obtain ⟨ml, h1, h2⟩ := h.ex
  obtain ⟨x, y, e, _⟩ := hp
  refine ⟨ml, b _ _ (fun z => ?_) h1, b _ _ (fun z => ?_) h2⟩
  · rw [List.mem_singleton.mp z, e] at h1
    cases h1
  · rw [List.mem_singleton.mp z, e] at h2
    exact ms_ne ok (HO.lst.inj (Option.some.inj h2)).symm
theorem IsReader.pot {CR : Addr} {R : RData} {H H' : Hp} {m p : Addr} (h : IsReader CR R H m) (ok : R.Ok) (hp : Pot H p) (b : But [p] H H') : IsReader CR R H' m := by
  obtain ⟨x, y, e, _⟩ := hp
  exact h.but b fun q hq => ⟨[.int x, .int y], by rw [List.mem_singleton.mp hq]; exact e, (ms_ne ok).symm⟩
/-- no more than the laws' models hold -/
structure Small (R : RData) : Prop where
  ms : ∀ x ∈ R.ms, x.length ≤ 12
  t : R.t.length ≤ 3
theorem small_of {R : RData} (ok : R.Ok) : Small R := ⟨fun x hx => by
  have := ok.ms.2.2.1 x hx
  simp only [shortLine, Bool.and_eq_true, decide_eq_true_eq] at this
  exact this.2, by
  have := ok.t
  simp only [shortLine, Bool.and_eq_true, decide_eq_true_eq] at this
  exact this.2⟩
theorem app_len {x y : Str} : (x ++ y).length = x.length + y.length := by
  have e : (x ++ y : Str).cps.toList = x.cps.toList ++ y.cps.toList := TL.tl_append x y
  have := congrArg List.length e
  rw [Array.length_toList, List.length_append, Array.length_toList, Array.length_toList] at this
  exact this
theorem app_line {g x y : Str} (hx : isLine g (.str x) = true) (hy : isLine g (.str y) = true) : isLine g (.str (x ++ y)) = true := by
  have e : (x ++ y : Str).cps.toList = x.cps.toList ++ y.cps.toList := TL.tl_append x y
  simp only [isLine] at hx hy ⊢
  rw [e, List.all_append, hx, hy]
  rfl
theorem one_line {g : Str} {c : Nat} (h : c ∈ g.cps.toList) : isLine g (.str ⟨#[c]⟩) = true := by simpa [isLine] using h
theorem wordOk_of {g nm x : Str} (h1 : nm ≠ "sight") (h2 : x ∈ wordsOf nm) : wordOk g nm x := by
  unfold wordOk
  rw [if_neg h1]
  exact h2
theorem inV_strs {z : Str} {ms : List Str} : inV (.str z) (ms.map V.str) = true ↔ z ∈ ms := by
  simp only [inV, List.any_map, List.any_eq_true, Function.comp, eqV, beq_iff_eq]
  exact ⟨fun ⟨y, hy, e⟩ => e ▸ hy, fun h => ⟨z, h, rfl⟩⟩
section
variable {P : Program} {w : World} {K : PySem.W.Frag} {mg : Str → Option Value} {base : Heap}
def spModel : Sp := fun vs H Q _ => ∃ p, vs = [.ref p] ∧ Pot H p ∧ ∀ R m H', R.Ok → Small R → IsModel R H' m → But [p] H H' → Pot H' p → Q (.ref m) H'
theorem scMo : FnScope ["pot", "signs", "marks", "turn", "mark", "found"] ["pot"] (defScope (top 118)) := ⟨rfl, rfl, rfl, by decide +kernel, rfl, by decide +kernel, by decide +kernel⟩
theorem d_model (B : Blt mg base) (D : At K mg "_law_model" (top 118)) (D0 : Def P w K mg base 1 "_law_draw" (top 115) ["pot", "many"] spDraw) (D1 : Def P w K mg base 2 "_law_pick" (top 116) ["pot", "things"] (spPick K))
    (D2 : Def P w K mg base 3 "_law_line" (top 117) ["pot", "signs", "most"] spTxt) : Def P w K mg base 4 "_law_model" (top 118) ["pot"] spModel := by
  refine def_of D B scMo (fun vs H Q E ⟨_, e, _⟩ => by rw [e]; rfl) fun f cdv A outer s H vs Q E hm C h => ?_
  obtain ⟨p, rfl, hp, hQ⟩ := h
  -- signs
  refine b_cons (s_set (i := 1) (e_call (C.mono (by decide)) D1 (a_cons (e_name 0 (a_cons (e_lits (K := []) (l := [p]) (ds := signSets.map .str) hp.here (lits_cons lit_str (lits_cons lit_str (lits_cons lit_str (lits_cons lit_str (lits_cons lit_str (lits_cons lit_str lits_nil)))))) (fun q vs H1 b1 hq hqp hd => a_nil ?_))))) rfl (fun _ _ _ _ _ _ us hl => match us, hl with | [_, _], _ => rfl)) C.nd)
  refine ⟨p, hp.new b1, .inl ⟨q, vs, rfl, by simpa using hqp, .inl (.inl hq), by rw [hd.length]; decide, by rw [hd.length]; decide, fun gv hgv H2 b2 hp2 => ?_⟩⟩
  obtain ⟨dg, hdg, dG⟩ := DDs.mem (hd.but b2) hgv
  obtain ⟨g, hg, rfl⟩ := List.mem_map.mp hdg
  cases dG
  have b02 : But [p] H H2 := b1.of.trans b2
  have gs := signs_ok g hg
  have gl := strSigns_len gs
  clear hd hq hqp hgv hdg
  -- marks
  refine b_cons (s_set (i := 2) (e_lst (a_nil ⟨by rw [sizeLine_eq]; exact (by decide : 0 ≤ 16777216), fun ml hml => ?_⟩)) C.nd)
  have bml : But [] H2 (upd H2 ml (.lst [])) := But.new hml
  have nmp : ml ≠ p := hp2.there hml
  refine b_cons (s_for C (i_range1 B (e_bin (e_int (e_call (C.mono (by decide)) D0 (a_cons (e_name 0 (a_cons (e_int (a_nil ?_))))) rfl (fun _ _ _ _ _ _ us hl => match us, hl with | [_, _], _ => rfl))))))
  refine ⟨p, 3, rfl, hp2.new bml, by decide, by decide, fun r H3 r0 r1 b3 hp3 => o_add ⟨_, rfl, by omega, by omega, ?_⟩⟩
  obtain ⟨n, rfl⟩ := Int.eq_ofNat_of_zero_le r0
  have hml3 : H3 ml = some (.lst []) := b3 _ _ (by simpa using nmp) upd_same
  have b23 : But [p] H2 H3 := bml.of.trans b3
  refine ⟨_, _, _, walk_range, fun i σ H' => (∃ v3 v4, σ = [some (.ref p), some (.str g), some (.ref ml), v3, v4, none]) ∧ But [p] H2 H' ∧ Pot H' p ∧ ∃ ms : List Str, H' ml = some (.lst (ms.map V.str)) ∧ ms.length = i ∧ ms.Nodup ∧ ∀ x ∈ ms, isLine g (.str x) = true ∧ 1 ≤ x.length ∧ x.length ≤ 2 + i,
    ⟨⟨none, none, rfl⟩, b23, hp3, [], hml3, rfl, List.nodup_nil, fun x hx => by simp at hx⟩, fun _ _ _ _ _ => trivial, ?_, ?_⟩
  · rintro i x σ H4 H' hi ⟨⟨v3, v4, rfl⟩, b4, hp4, ms, hml4, hlen, hnd, hms⟩ ⟨rfl, rfl⟩
    refine g_name (i := 3) ?_ C.nd
    refine b_cons (s_set (i := 4) (e_bin (e_call (C.mono (by decide)) D1 (a_cons (e_name 0 (a_cons (e_name 1 (a_nil ?_))))) rfl (fun _ _ _ _ _ _ us hl => match us, hl with | [_, _], _ => rfl))) C.nd)
    refine ⟨p, hp4, .inr ⟨g, rfl, by omega, by omega, fun c hc H5 b5 hp5 => ?_⟩⟩
    refine e_call C D2 (a_cons (e_name 0 (a_cons (e_name 1 (a_cons (e_int (a_nil ?_))))))) rfl (fun _ _ _ _ _ _ us hl => match us, hl with | [_, _, _], _ => rfl)
    refine ⟨p, g, 1, rfl, hp5, gs, by decide, fun y H6 hy hyl b6 hp6 => ?_⟩
    have l1 : (⟨#[c]⟩ : Str).length = 1 := rfl
    have l2 : ((⟨#[c]⟩ : Str) ++ y).length = 1 + y.length := by rw [app_len, l1]
    refine o_adds (by rw [l1, sizeLine_eq]; omega) ?_
    have hz0 := app_line (one_line hc) hy
    generalize (⟨#[c]⟩ : Str) ++ y = z0 at l2 hz0 ⊢
    have npl : ml ∉ [p] := by simpa using nmp
    have hml6 := b6 _ _ npl (b5 _ _ npl hml4)
    have b46 := b4.trans (b5.trans b6)
    -- until it is new
    refine b_cons (s_while C (fun k σ H' => ∃ z : Str, σ = [some (.ref p), some (.str g), some (.ref ml), some (.int (0 + (i : Int))), some (.str z), none] ∧ But [p] H2 H' ∧ Pot H' p ∧ H' ml = some (.lst (ms.map V.str)) ∧ isLine g (.str z) = true ∧ 1 ≤ z.length ∧ z.length + k = 3 + i) (3 + i - z0.length) ⟨z0, rfl, b46, hp6, hml6, hz0, by omega, by omega⟩ ?_)
    rintro k σ' H7 ⟨z, rfl, b7, hp7, hml7, hz, hz1, hzk⟩
    refine t_cmp (e_name 4 (v := .str z) (e_name 2 (v := .ref ml) (c_inL (.inl (.inl (.inl hml7))) rfl (flat_strs _) ⟨_, rfl, ite_b (fun e => ?_) fun e => ?_⟩)))
    · have hzin := inV_strs.mp e
      have hz2 := (hms z hzin).2.2
      have hgl : 0 < g.cps.toList.length := by have : g.cps.toList.length = g.length := by simp; rfl
                                               omega
      refine b_cons (s_set (i := 4) (e_bin (e_name 4 (v := .str z) (e_ix (e_name 1 (v := .str g) (e_int (ix_s (by rw [sizeLine_eq]; omega) (atI_nat (j := 0) (List.getElem?_eq_getElem hgl)) (o_adds ?_ (b_nil ?_)))))))) C.nd)
      · show z.length + 1 ≤ _
        rw [sizeLine_eq]; omega
      · exact ⟨k - 1, by omega, z ++ ⟨#[g.cps.toList[0]]⟩, rfl, b7, hp7, hml7, app_line hz (one_line (List.getElem_mem hgl)), by rw [app_len]; omega, by rw [app_len]; show z.length + 1 + (k - 1) = _; omega⟩
    · have hzn : z ∉ ms := fun hh => by rw [inV_strs.mpr hh] at e; cases e
      refine b_cons (s_expr (e_append (e_name 2 ⟨ml, rfl, ⟨_, hml7⟩, e_name 4 (v := .str z) ⟨_, hml7, by rw [sizeLine_eq, List.length_map]; omega, ?_⟩⟩)))
      refine b_nil ⟨⟨_, _, rfl⟩, fun q o nq e => ?_, ?_, ms ++ [z], by rw [upd_same]; simp, by simp [hlen], ?_, ?_⟩
      · rw [upd_ne (ne_of_none e hml)]
        exact b7 _ _ nq e
      · obtain ⟨a, b, e, r⟩ := hp7
        exact ⟨a, b, by rw [upd_ne nmp.symm]; exact e, r⟩
      · rw [List.nodup_append]
        exact ⟨hnd, by simp, fun a ha b hb hab => by rw [List.mem_singleton.mp hb] at hab; exact hzn (hab ▸ ha)⟩
      · intro x hx
        rcases List.mem_append.mp hx with hx | hx
        · have := hms x hx
          exact ⟨this.1, this.2.1, by omega⟩
        · rw [List.mem_singleton.mp hx]
          exact ⟨hz, hz1, by omega⟩
  · rintro σ H4 ⟨⟨v3, v4, rfl⟩, b4, hp4, ms, hml4, hlen, hnd, hms⟩
    have npl : ml ∉ [p] := by simpa using nmp
    have two : ∀ {x : Str}, x.length ≤ 10 → x.length ≤ sizeLine := fun h => by rw [sizeLine_eq]; omega
    refine b_cons (s_set (i := 5) (eE (pe_disp (pps_cons pE pE (pps_cons pE pE (pps_cons pE pE pps_nil))) rfl rfl (by simp) (by decide)) ?_) C.nd)
    intro fd hfd
    have nfp : fd ≠ p := hp4.there hfd
    have nfm : ml ≠ fd := ne_of_none hml4 hfd
    refine e_str (e_name 1 (e_str (e_name 2 (e_str (e_bin (e_call (C.mono (by decide)) D1 (a_cons (e_name 0 (a_cons (e_name 1 (a_nil ?_))))) rfl (fun _ _ _ _ _ _ us hl => match us, hl with | [_, _], _ => rfl)))))))
    refine ⟨p, hp4.new (But.new hfd), .inr ⟨g, rfl, by omega, by omega, fun c hc H5 b5 hp5 => ?_⟩⟩
    refine e_call C D2 (a_cons (e_name 0 (a_cons (e_name 1 (a_cons (e_int (a_nil ?_))))))) rfl (fun _ _ _ _ _ _ us hl => match us, hl with | [_, _, _], _ => rfl)
    refine ⟨p, g, 1, rfl, hp5, gs, by decide, fun y H6 hy hyl b6 hp6 => ?_⟩
    have l1 : (⟨#[c]⟩ : Str).length = 1 := rfl
    have l2 : ((⟨#[c]⟩ : Str) ++ y).length = 1 + y.length := by rw [app_len, l1]
    refine o_adds (by rw [l1, sizeLine_eq]; omega) ?_
    have ht := app_line (one_line hc) hy
    generalize (⟨#[c]⟩ : Str) ++ y = t at l2 ht ⊢
    have npf : fd ∉ [p] := by simpa using nfp
    have hf6 : H6 fd = some (.dK []) := b6 _ _ npf (b5 _ _ npf upd_same)
    have hm6 : H6 ml = some (.lst (ms.map V.str)) := b6 _ _ npl (b5 _ _ npl (by rw [upd_ne nfm]; exact hml4))
    have bf : But [] H4 (upd H4 fd (.dK [])) := But.new hfd
    have b46 : But [p] H4 H6 := bf.of.trans (b5.trans b6)
    refine ⟨hf6, [(.inr "signs", .str g), (.inr "marks", .ref ml), (.inr "tail", .str t)], rfl, by show 3 ≤ 15; decide, ?_⟩
    have em : mergeK [] [((.inr "signs" : Key), V.str g), (.inr "marks", .ref ml), (.inr "tail", .str t)] = [((.inr "signs" : Key), V.str g), (.inr "marks", .ref ml), (.inr "tail", .str t)] := rfl
    rw [em]
    -- what stays while the dict grows
    have grow : ∀ {H7 H8 : Hp} {o : HO}, But [p] H4 H7 → Pot H7 p → H7 ml = some (.lst (ms.map V.str)) → H8 = upd H7 fd o → But [p] H4 H8 ∧ Pot H8 p ∧ H8 ml = some (.lst (ms.map V.str)) ∧ H8 fd = some o := fun {H7 H8 o} b hp hm e => by
      subst e
      refine ⟨fun q u nq e => ?_, ?_, by rw [upd_ne nfm]; exact hm, upd_same⟩
      · rw [upd_ne (ne_of_none e hfd)]
        exact b _ _ nq e
      · obtain ⟨x, y, e, r⟩ := hp
        exact ⟨x, y, by rw [upd_ne nfp.symm]; exact e, r⟩
    obtain ⟨b7, hp7, hm7, hf7⟩ := grow b46 hp6 hm6 rfl
    generalize upd H6 fd (.dK [((.inr "signs" : Key), V.str g), (.inr "marks", .ref ml), (.inr "tail", .str t)]) = H7 at b7 hp7 hm7 hf7 ⊢
    have hgl : 0 < g.cps.toList.length := by have : g.cps.toList.length = g.length := by simp; rfl
                                             omega
    -- sight
    refine b_cons (s_asg (e_call (C.mono (by decide)) D1 (a_cons (e_name 0 (a_cons (e_lst ?_)))) rfl (fun _ _ _ _ _ _ us hl => match us, hl with | [_, _], _ => rfl)))
    refine a_cons (e_str (a_cons (e_str (a_cons (e_str (a_cons (e_ix (e_name 1 (v := .str g) (e_int (ix_s (two (by omega)) (atI_nat (j := 0) (List.getElem?_eq_getElem hgl)) ?_))))))))))
    refine a_cons (e_ix (e_name 1 (v := .str g) (e_un (e_int (u_neg (ix_s (two (by omega)) (c := g.cps.toList[g.cps.toList.length - 1]) ?_ (a_nil ⟨by rw [sizeLine_eq]; exact (by decide : 5 ≤ 16777216), fun q hq => a_nil ?_⟩)))))))
    · obtain ⟨ini, las, hs⟩ : ∃ ini las, g.cps.toList = ini ++ [las] := ⟨_, _, (List.dropLast_concat_getLast (fun z => by rw [z] at hgl; cases hgl)).symm⟩
      have : g.cps.toList[g.cps.toList.length - 1]'(by omega) = las := by simp [hs]
      rw [this, hs]
      exact atI_last _ _
    refine ⟨p, hp7.new (But.new hq), .inl ⟨q, _, rfl, hp7.there hq, .inl (.inl upd_same), by show 0 < 5; decide, by show 5 < 1000000; decide, fun sv hsv H8 b8 hp8 => ?_⟩⟩
    obtain ⟨si, rfl, hsi⟩ : ∃ si, sv = .str si ∧ wordOk g "sight" si := by
      simp only [List.mem_cons, List.not_mem_nil, or_false] at hsv
      rcases hsv with rfl | rfl | rfl | rfl | rfl
      · exact ⟨_, rfl, .inl rfl⟩
      · exact ⟨_, rfl, .inl rfl⟩
      · exact ⟨_, rfl, .inr (.inl rfl)⟩
      · exact ⟨_, rfl, .inr (.inr ⟨_, List.getElem_mem hgl, rfl⟩)⟩
      · exact ⟨_, rfl, .inr (.inr ⟨_, List.getElem_mem (by omega), rfl⟩)⟩
    have bq : But [] H7 (upd H7 q (.lst [.str "whole", .str "whole", .str "start", .str ⟨#[g.cps.toList[0]]⟩, .str ⟨#[g.cps.toList[g.cps.toList.length - 1]]⟩])) := But.new hq
    have hf8 := b8 _ _ npf (bq _ _ (by simp) hf7)
    have hm8 := b8 _ _ npl (bq _ _ (by simp) hm7)
    have b48 : But [p] H4 H8 := b7.trans (bq.of.trans b8)
    clear hsv
    refine g_sub (e_name 5 (v := .ref fd) (e_str (set_d C (DPut.k (k := .inr "sight") hf8 (by rw [sizeLine_eq]; exact (by decide : 3 < 16777216))) ?_)))
    rw [show putK [((.inr "signs" : Key), V.str g), (.inr "marks", .ref ml), (.inr "tail", .str t)] (.inr "sight") (.str si) = [((.inr "signs" : Key), V.str g), (.inr "marks", .ref ml), (.inr "tail", .str t), (.inr "sight", .str si)] from rfl]
    obtain ⟨b9, hp9, hm9, hf9⟩ := grow b48 hp8 hm8 rfl
    generalize upd H8 fd (.dK [((.inr "signs" : Key), V.str g), (.inr "marks", .ref ml), (.inr "tail", .str t), (.inr "sight", .str si)]) = H9 at b9 hp9 hm9 hf9 ⊢
    clear hf8 hm8 b48 hp8 hf7 hm7 hp7 b7 hf6 hm6 hp6
    -- order
    refine b_cons (s_asg (e_call (C.mono (by decide)) D1 (a_cons (e_name 0 (a_cons (e_lits (K := []) (l := [p]) (ds := [.str "inner", .str "outer"]) hp9.here (lits_cons lit_str (lits_cons lit_str lits_nil)) (fun q vs H10 b10 hq hqp hd => a_nil ?_))))) rfl (fun _ _ _ _ _ _ us hl => match us, hl with | [_, _], _ => rfl)))
    refine ⟨p, hp9.new b10, .inl ⟨q, vs, rfl, by simpa using hqp, .inl (.inl hq), by rw [hd.length]; decide, by rw [hd.length]; decide, fun ov hov H11 b11 hp11 => ?_⟩⟩
    obtain ⟨dg, hdg, dG⟩ := DDs.mem (hd.but b11) hov
    obtain ⟨od, rfl, hod⟩ : ∃ od, dg = .str od ∧ wordOk g "order" od := by
      simp only [List.mem_cons, List.not_mem_nil, or_false] at hdg
      rcases hdg with rfl | rfl
      · exact ⟨_, rfl, wordOk_of (by decide) (by decide)⟩
      · exact ⟨_, rfl, wordOk_of (by decide) (by decide)⟩
    cases dG
    have hf11 := b11 _ _ npf (b10 _ _ (by simp) hf9)
    have hm11 := b11 _ _ npl (b10 _ _ (by simp) hm9)
    have b411 : But [p] H4 H11 := b9.trans (b10.of.trans b11)
    clear hov hd hq hqp hdg
    refine g_sub (e_name 5 (v := .ref fd) (e_str (set_d C (DPut.k (k := .inr "order") hf11 (by rw [sizeLine_eq]; exact (by decide : 4 < 16777216))) ?_)))
    rw [show putK [((.inr "signs" : Key), V.str g), (.inr "marks", .ref ml), (.inr "tail", .str t), (.inr "sight", .str si)] (.inr "order") (.str od) = [((.inr "signs" : Key), V.str g), (.inr "marks", .ref ml), (.inr "tail", .str t), (.inr "sight", .str si), (.inr "order", .str od)] from rfl]
    obtain ⟨b12, hp12, hm12, hf12⟩ := grow b411 hp11 hm11 rfl
    generalize upd H11 fd (.dK [((.inr "signs" : Key), V.str g), (.inr "marks", .ref ml), (.inr "tail", .str t), (.inr "sight", .str si), (.inr "order", .str od)]) = H12 at b12 hp12 hm12 hf12 ⊢
    clear hf11 hm11 b411 hp11 hf9 hm9 hp9 b9 b10 b11
    -- further
    refine b_cons (s_asg (e_call (C.mono (by decide)) D1 (a_cons (e_name 0 (a_cons (e_lits (K := []) (l := [p]) (ds := [.str "refuse", .str "close"]) hp12.here (lits_cons lit_str (lits_cons lit_str lits_nil)) (fun q vs H10 b10 hq hqp hd => a_nil ?_))))) rfl (fun _ _ _ _ _ _ us hl => match us, hl with | [_, _], _ => rfl)))
    refine ⟨p, hp12.new b10, .inl ⟨q, vs, rfl, by simpa using hqp, .inl (.inl hq), by rw [hd.length]; decide, by rw [hd.length]; decide, fun ov hov H11 b11 hp11 => ?_⟩⟩
    obtain ⟨dg, hdg, dG⟩ := DDs.mem (hd.but b11) hov
    obtain ⟨fu, rfl, hfu⟩ : ∃ od, dg = .str od ∧ wordOk g "further" od := by
      simp only [List.mem_cons, List.not_mem_nil, or_false] at hdg
      rcases hdg with rfl | rfl
      · exact ⟨_, rfl, wordOk_of (by decide) (by decide)⟩
      · exact ⟨_, rfl, wordOk_of (by decide) (by decide)⟩
    cases dG
    have hf11 := b11 _ _ npf (b10 _ _ (by simp) hf12)
    have hm11 := b11 _ _ npl (b10 _ _ (by simp) hm12)
    have b411 : But [p] H4 H11 := b12.trans (b10.of.trans b11)
    clear hov hd hq hqp hdg
    refine g_sub (e_name 5 (v := .ref fd) (e_str (set_d C (DPut.k (k := .inr "further") hf11 (by rw [sizeLine_eq]; exact (by decide : 5 < 16777216))) ?_)))
    rw [show putK [((.inr "signs" : Key), V.str g), (.inr "marks", .ref ml), (.inr "tail", .str t), (.inr "sight", .str si), (.inr "order", .str od)] (.inr "further") (.str fu) = [((.inr "signs" : Key), V.str g), (.inr "marks", .ref ml), (.inr "tail", .str t), (.inr "sight", .str si), (.inr "order", .str od), (.inr "further", .str fu)] from rfl]
    obtain ⟨b13, hp13, hm13, hf13⟩ := grow b411 hp11 hm11 rfl
    generalize upd H11 fd (.dK [((.inr "signs" : Key), V.str g), (.inr "marks", .ref ml), (.inr "tail", .str t), (.inr "sight", .str si), (.inr "order", .str od), (.inr "further", .str fu)]) = H13 at b13 hp13 hm13 hf13 ⊢
    clear hf11 hm11 b411 hp11 hf12 hm12 hp12 b12 b10 b11
    -- finish
    refine b_cons (s_asg (e_call (C.mono (by decide)) D1 (a_cons (e_name 0 (a_cons (e_lits (K := []) (l := [p]) (ds := [.str "refuse", .str "close"]) hp13.here (lits_cons lit_str (lits_cons lit_str lits_nil)) (fun q vs H10 b10 hq hqp hd => a_nil ?_))))) rfl (fun _ _ _ _ _ _ us hl => match us, hl with | [_, _], _ => rfl)))
    refine ⟨p, hp13.new b10, .inl ⟨q, vs, rfl, by simpa using hqp, .inl (.inl hq), by rw [hd.length]; decide, by rw [hd.length]; decide, fun ov hov H11 b11 hp11 => ?_⟩⟩
    obtain ⟨dg, hdg, dG⟩ := DDs.mem (hd.but b11) hov
    obtain ⟨fi, rfl, hfi⟩ : ∃ od, dg = .str od ∧ wordOk g "finish" od := by
      simp only [List.mem_cons, List.not_mem_nil, or_false] at hdg
      rcases hdg with rfl | rfl
      · exact ⟨_, rfl, wordOk_of (by decide) (by decide)⟩
      · exact ⟨_, rfl, wordOk_of (by decide) (by decide)⟩
    cases dG
    have hf11 := b11 _ _ npf (b10 _ _ (by simp) hf13)
    have hm11 := b11 _ _ npl (b10 _ _ (by simp) hm13)
    have b411 : But [p] H4 H11 := b13.trans (b10.of.trans b11)
    clear hov hd hq hqp hdg
    refine g_sub (e_name 5 (v := .ref fd) (e_str (set_d C (DPut.k (k := .inr "finish") hf11 (by rw [sizeLine_eq]; exact (by decide : 6 < 16777216))) ?_)))
    rw [show putK [((.inr "signs" : Key), V.str g), (.inr "marks", .ref ml), (.inr "tail", .str t), (.inr "sight", .str si), (.inr "order", .str od), (.inr "further", .str fu)] (.inr "finish") (.str fi) = kvsM ⟨g, ms, t, si, od, fu, fi⟩ ml from rfl]
    obtain ⟨b14, hp14, hm14, hf14⟩ := grow b411 hp11 hm11 rfl
    have hn : ms.length = n + 1 := by omega
    refine b_cons (s_ret (e_name 5 (hQ ⟨g, ms, t, si, od, fu, fi⟩ fd _ ⟨gs, ⟨by show 1 ≤ ms.length; omega, by show ms.length ≤ 3; omega, fun x hx => ?_, hnd⟩, ?_, hsi, hod, hfu, hfi⟩ ⟨fun x hx => ?_, by show t.length ≤ 3; omega⟩ ⟨ml, hf14, hm14⟩ (b02.trans (b4.trans b14)) hp14)))
    · have := hms x hx
      simp only [shortLine, this.1, Bool.true_and, Bool.and_eq_true, decide_eq_true_eq]
      omega
    · simp only [shortLine, ht, Bool.true_and, Bool.and_eq_true, decide_eq_true_eq]
      omega
    · have := hms x hx
      omega
end
end K68

set_option Elab.async false
set_option linter.all false
set_option maxRecDepth 100000
set_option maxHeartbeats 4000000
namespace K68
open PySem PySem.Spec PyProof.Rows L2 Z
/-! ### the reader made -/
section
variable {P : Program} {w : World} {K : PySem.W.Frag} {mg : Str → Option Value} {base : Heap} {CR : Addr}
def rKs : List Str := ["sight", "order", "further", "finish"]
theorem kbn_init {kV doc pm cdv ct : Value} {an : Option Addr} : KBn K (PySem.W.fnOf "__init__" "Reader.__init__" (defArgs (clsAt (top 89) 0)) (defBody (clsAt (top 89) 0)) (defScope (clsAt (top 89) 0)) .none kV doc pm an cdv ct) rPs 4 rKs (fun us ws => us ++ ws) (fun vs zs => vs ++ zs) :=
  ⟨fun s us ws X l1 l2 => .of_eq (match us, ws, l1, l2 with | [_, _, _, _], [_, _, _, _], _, _ => rfl), fun r1 r2 => r1.append r2⟩
def rgf : List Value → List Value → List Value := fun us ws => us ++ ws
abbrev RdOk (P : Program) (w : World) (K : PySem.W.Frag) (mg : Str → Option Value) (base : Heap) (CR : Addr) : Prop := MakeOk P w K mg base 4 "Reader" CR rPs (spInit K CR) fun fd => KBn K fd rPs 4 rKs (fun us ws => us ++ ws) (fun vs zs => vs ++ zs)
def spRd (CR : Addr) : Sp := fun vs H Q _ => ∃ (m : Addr) (R : RData), vs = [.ref m] ∧ IsModel R H m ∧ R.Ok ∧ ∀ r H', But [] H H' → H r = none → IsReader CR R H' r → Q (.ref r) H'
theorem scRd : FnScope ["model"] ["model"] (defScope (top 119)) := ⟨rfl, rfl, rfl, by decide +kernel, rfl, by decide +kernel, by decide +kernel⟩
theorem d_reader (B : Blt mg base) (D : At K mg "_law_reader" (top 119)) (M : RdOk P w K mg base CR) : Def P w K mg base 6 "_law_reader" (top 119) ["model"] (spRd CR) := by
  refine def_of D B scRd (fun vs H Q E ⟨_, _, e, _⟩ => by rw [e]; rfl) fun f cdv A outer s H vs Q E hm C h => ?_
  obtain ⟨m, R, rfl, hM, ok, hQ⟩ := h
  obtain ⟨ml, h1, h2⟩ := hM.ex
  have get : ∀ (k : Str) (v : V), valV (kvsM R ml) (.inr k) = some v → DGet H m (.str k) (some v) := fun k v e => by rw [← e]; exact DGet.k (k := .inr k) h1
  refine b_cons (s_ret (e_makeK (gf := fun us ws => us ++ ws) (gV := fun vs zs => vs ++ zs) (ks := rKs) (n := 3) (E := fun _ _ _ => False) C M (fun _ _ _ _ z => z.elim) ?_))
  refine a_cons (e_dget C (e_name 0 (v := .ref m) (e_str ⟨rfl, get _ (.str R.g) rfl, ?_⟩)))
  refine a_cons (e_dget C (e_name 0 (v := .ref m) (e_str ⟨rfl, get _ (.ref ml) rfl, ?_⟩)))
  refine a_cons (e_dget C (e_name 0 (v := .ref m) (e_str ⟨rfl, get _ (.str R.t) rfl, a_nil ?_⟩)))
  refine k_cons (e_dget C (e_name 0 (v := .ref m) (e_str ⟨rfl, get _ (.str R.si) rfl, ?_⟩)))
  refine k_cons (e_dget C (e_name 0 (v := .ref m) (e_str ⟨rfl, get _ (.str R.od) rfl, ?_⟩)))
  refine k_cons (e_dget C (e_name 0 (v := .ref m) (e_str ⟨rfl, get _ (.str R.fu) rfl, ?_⟩)))
  refine k_cons (e_dget C (e_name 0 (v := .ref m) (e_str ⟨rfl, get _ (.str R.fi) rfl, k_nil ⟨rfl, rfl, fun r dx hr hdx nd => ?_⟩⟩)))
  have bn : But [] H (upd (upd H dx (.own r)) r (.ins CR dx [])) := (But.new hdx).trans (But.new (by rw [upd_ne nd.symm]; exact hr))
  refine ⟨r, dx, ml, R, rfl, ok, upd_same, bn _ _ (by simp) h2, fun H' b hR => ⟨rfl, hQ r H' (but_late bn b fun q hq => by rw [List.mem_singleton.mp hq]; exact hr) hr hR⟩⟩
/-! ### lines near to the model's -/
def spLof (K : PySem.W.Frag) : Sp := fun vs H Q _ => ∃ (m t : Addr) (R : RData) (nx : Bool) (lv : Nat), vs = [.ref m, .ref t] ∧ IsModel R H m ∧ R.Ok ∧ SqT K H t [.str (kindS nx), .int lv] ∧ 1 ≤ lv ∧ lv ≤ R.ms.length ∧ ∀ H', But [] H H' → Q (.str (lineOf R nx lv)) H'
theorem scLof : FnScope ["model", "role", "mark"] ["model", "role"] (defScope (top 120)) := ⟨rfl, rfl, rfl, by decide +kernel, rfl, by decide +kernel, by decide +kernel⟩
theorem app_empty {x : Str} : x ++ ("" : Str) = x := by
  apply str_ext
  rw [show (x ++ ("" : Str)).cps.toList = x.cps.toList ++ [] from TL.tl_append _ _, List.append_nil]
theorem d_lof (B : Blt mg base) (D : At K mg "_law_line_of" (top 120)) : Def P w K mg base 1 "_law_line_of" (top 120) ["model", "role"] (spLof K) := by
  refine def_of D B scLof (fun vs H Q E ⟨_, _, _, _, _, e, _⟩ => by rw [e]; rfl) fun f cdv A outer s H vs Q E hm C h => ?_
  obtain ⟨m, t, R, nx, lv, rfl, hM, ok, ht, l1, l2, hQ⟩ := h
  obtain ⟨ml, h1, h2⟩ := hM.ex
  have get : ∀ (k : Str) (v : V), valV (kvsM R ml) (.inr k) = some v → DGet H m (.str k) (some v) := fun k v e => by rw [← e]; exact DGet.k (k := .inr k) h1
  have hlt : lv - 1 < R.ms.length := by omega
  have hget : R.ms.getD (lv - 1) "" = R.ms[lv - 1] := by rw [List.getD_eq_getElem?_getD, List.getElem?_eq_getElem hlt]; rfl
  refine b_cons (s_set (i := 2) (e_ix (e_dget C (e_name 0 (v := .ref m) (e_str ⟨rfl, get _ (.ref ml) rfl, e_bin (e_ix (e_name 1 (v := .ref t) (e_int (ix_t ht (v := .int lv) rfl (e_int (o_sub ?_))))))⟩)))) C.nd)
  have e1 : ((lv : Int) - 1) = ((lv - 1 : Nat) : Int) := by omega
  rw [e1]
  refine ix_l (.inl (.inl h2)) (v := .str R.ms[lv - 1]) (atI_nat (by rw [List.getElem?_map, List.getElem?_eq_getElem hlt]; rfl)) ?_
  refine b_cons (s_ret (e_if (t_cmp (e_ix (e_name 1 (v := .ref t) (e_int (ix_t ht (v := .str (kindS nx)) rfl (e_str (c_eq rfl ⟨nx, ?_, ite_b (fun e => ?_) fun e => ?_⟩)))))))))
  · cases nx <;> rfl
  · subst e
    refine e_name 2 ?_
    have e3 : lineOf R true lv = R.ms[lv - 1] := by
      unfold lineOf
      rw [hget, if_pos rfl]
      exact app_empty
    rw [← e3]
    exact hQ H But.refl
  · subst e
    have m12 := ok.ms.2.2.1 _ (List.getElem_mem hlt)
    have t3 := ok.t
    simp only [shortLine, Bool.and_eq_true, decide_eq_true_eq] at m12 t3
    refine e_bin (e_name 2 (v := .str R.ms[lv - 1]) (e_dget C (e_name 0 (v := .ref m) (e_str ⟨rfl, get _ (.str R.t) rfl, o_adds (by rw [sizeLine_eq]; omega) ?_⟩))))
    have e3 : lineOf R false lv = R.ms[lv - 1] ++ R.t := by
      unfold lineOf
      rw [hget, if_neg (by simp)]
    rw [← e3]
    exact hQ H But.refl
theorem lineOf_ok {R : RData} (ok : R.Ok) (sm : Small R) {nx : Bool} {lv : Nat} (l1 : 1 ≤ lv) (l2 : lv ≤ R.ms.length) : isLine R.g (.str (lineOf R nx lv)) = true ∧ (lineOf R nx lv).length ≤ 15 := by
  have hlt : lv - 1 < R.ms.length := by omega
  have hget : R.ms.getD (lv - 1) "" = R.ms[lv - 1] := by rw [List.getD_eq_getElem?_getD, List.getElem?_eq_getElem hlt]; rfl
  have m12 := ok.ms.2.2.1 _ (List.getElem_mem hlt)
  have s5 := sm.ms _ (List.getElem_mem hlt)
  have t3 := ok.t
  have s2 := sm.t
  simp only [shortLine, Bool.and_eq_true, decide_eq_true_eq] at m12 t3
  unfold lineOf
  rw [hget]
  cases nx with
  | true =>
    rw [if_pos rfl, app_empty]
    exact ⟨m12.1.1, by omega⟩
  | false =>
    rw [if_neg (by simp)]
    exact ⟨app_line m12.1.1 t3.1.1, by rw [app_len]; omega⟩
def spNear : Sp := fun vs H Q _ => ∃ (p m : Addr) (R : RData), vs = [.ref p, .ref m] ∧ Pot H p ∧ IsModel R H m ∧ R.Ok ∧ Small R ∧ ∀ (y : Str) H', isLine R.g (.str y) = true → y.length ≤ 16 → But [p] H H' → Pot H' p → Q (.str y) H'
theorem scNe : FnScope ["pot", "model", "signs", "way", "word"] ["pot", "model"] (defScope (top 125)) := ⟨rfl, rfl, rfl, by decide +kernel, rfl, by decide +kernel, by decide +kernel⟩
theorem d_near (B : Blt mg base) (D : At K mg "_law_near_line" (top 125)) (D0 : Def P w K mg base 1 "_law_draw" (top 115) ["pot", "many"] spDraw) (D2 : Def P w K mg base 3 "_law_line" (top 117) ["pot", "signs", "most"] spTxt)
    (D3 : Def P w K mg base 1 "_law_line_of" (top 120) ["model", "role"] (spLof K)) : Def P w K mg base 4 "_law_near_line" (top 125) ["pot", "model"] spNear := by
  refine def_of D B scNe (fun vs H Q E ⟨_, _, _, e, _⟩ => by rw [e]; rfl) fun f cdv A outer s H vs Q E hm C h => ?_
  obtain ⟨p, m, R, rfl, hp, hM, ok, sm, hQ⟩ := h
  obtain ⟨ml, h1, h2⟩ := hM.ex
  have get : ∀ (k : Str) (v : V), valV (kvsM R ml) (.inr k) = some v → DGet H m (.str k) (some v) := fun k v e => by rw [← e]; exact DGet.k (k := .inr k) h1
  have two : 2 ≤ sizeLine := by rw [sizeLine_eq]; exact (by decide : 2 ≤ 16777216)
  refine b_cons (s_par (i := 2) (j := 3) C ?_)
  refine a_cons (e_dget C (e_name 1 (v := .ref m) (e_str ⟨rfl, get _ (.str R.g) rfl, ?_⟩)))
  refine a_cons (e_call (C.mono (by decide)) D0 (a_cons (e_name 0 (a_cons (e_int (a_nil ?_))))) rfl (fun _ _ _ _ _ _ us hl => match us, hl with | [_, _], _ => rfl))
  refine ⟨p, 5, rfl, hp, by decide, by decide, fun r H2 r0 r1 b02 hp2 => a_nil ⟨_, _, rfl, ?_⟩⟩
  obtain ⟨n, rfl⟩ := Int.eq_ofNat_of_zero_le r0
  refine b_cons (s_ifB (decide ((n : Int) < 2)) ?_ (fun e H3 b3 => ?_) (fun e H3 b3 => ?_))
  · exact t_cmp (e_name 3 (v := .int n) (e_int (c_lt ⟨_, rfl, rfl, But.refl⟩)))
  · refine b_cons (s_ret (e_call C D2 (a_cons (e_name 0 (a_cons (e_name 2 (v := .str R.g) (a_cons (e_int (a_nil ?_))))))) rfl (fun _ _ _ _ _ _ us hl => match us, hl with | [_, _, _], _ => rfl)))
    exact ⟨p, R.g, 4, rfl, hp2.new b3, ok.g, by decide, fun y H' hy hl b hp' => hQ y H' hy (by omega) (b02.trans (b3.of.trans b)) hp'⟩
  · have hM3 : IsModel R H3 m := (hM.pot ok hp b02).but b3
    obtain ⟨mk, g1, g2⟩ := hM3.ex
    have hp3 := hp2.new b3
    have fin : ∀ nx : Bool, wB (bX P w K mg base ["pot", "model", "signs", "way", "word"] "_law_near_line" (top 125) f cdv A outer s H E) ((defBody (top 125)).drop 3) { nx := fun _ H' => Q .non H', rt := Q } [some (.ref p), some (.ref m), some (.str R.g), some (.int n), some (.str (kindS nx))] H3 := fun nx => by
      refine b_cons (s_ret (e_bin (e_call (C.mono (by decide)) D3 (a_cons (e_name 1 (v := .ref m) (a_cons (e_tup ?_)))) rfl (fun _ _ _ _ _ _ us hl => match us, hl with | [_, _], _ => rfl))))
      refine a_cons (e_name 4 (v := .str (kindS nx)) (a_cons (e_bin (e_int (e_call (C.mono (by decide)) D0 ?_ rfl (fun _ _ _ _ _ _ us hl => match us, hl with | [_, _], _ => rfl))))))
      refine a_cons (e_name 0 (a_cons (e_len B (e_dget C (e_name 1 (v := .ref m) (e_str ⟨rfl, DGet.k (k := .inr "marks") g1, ?_⟩))))))
      refine ⟨R.ms.length, .inl ⟨_, .inl (.inl g2), by simp⟩, a_nil ⟨p, R.ms.length, rfl, hp3, ?_, ?_, fun r H4 r0 r1 b4 hp4 => o_add (a_nil ⟨two, fun t ht => a_nil ?_⟩)⟩⟩
      · have := ok.ms.1; omega
      · have := ok.ms.2.1; omega
      obtain ⟨k, rfl⟩ := Int.eq_ofNat_of_zero_le r0
      have bt := But.new (l := []) (o := .tup [.str (kindS nx), .int (1 + (k : Int))]) ht
      refine ⟨m, t, R, nx, 1 + k, rfl, (hM3.pot ok hp3 b4).but bt, ok, .inl (.inl (by rw [upd_same]; rfl)), by omega, by omega, fun H5 b5 => ?_⟩
      have hp5 := (hp4.new bt).new b5
      have ll := lineOf_ok ok sm (nx := nx) (lv := 1 + k) (by omega) (by omega)
      refine e_call C D2 (a_cons (e_name 0 (a_cons (e_name 2 (v := .str R.g) (a_cons (e_int (a_nil ?_))))))) rfl (fun _ _ _ _ _ _ us hl => match us, hl with | [_, _, _], _ => rfl)
      exact ⟨p, R.g, 1, rfl, hp5, ok.g, by decide, fun y H' hy hl b hp' => o_adds (by rw [sizeLine_eq]; omega) (hQ _ H' (app_line ll.1 hy) (by rw [app_len]; omega) (b02.trans (b3.of.trans (b4.trans (bt.of.trans (b5.of.trans b))))) hp')⟩
    refine b_nil (b_cons (s_set (i := 4) (e_if (t_cmp (e_name 3 (v := .int n) (e_int (c_eq rfl ⟨_, rfl, ite_b (fun e2 => e_str ?_) fun e2 => e_str ?_⟩))))) C.nd))
    · exact fin true
    · exact fin false
end
end K68

set_option Elab.async false
set_option linter.all false
set_option maxRecDepth 100000
set_option maxHeartbeats 4000000
namespace K68
open PySem PySem.Spec PyProof.Rows L2 Z
/-! ### the bush drawn -/
def leafOk (g : Str) : PyData → Bool
  | .str y => isLine g (.str y) && decide (y.length ≤ 60)
  | _ => false
def bushOk (g : Str) : Nat → PyData → Bool
  | 0, d => Z.isList d && decide ((items d).length ≤ 7) && (items d).all (leafOk g)
  | n + 1, d => Z.isList d && decide ((items d).length ≤ 7) && (items d).all (bushOk g n)
theorem here_pot {l : List Addr} {p : Addr} {H H' : Hp} (h : Here l H) (b : But [p] H H') (hp : Pot H' p) : Here l H' := fun q hq => by
  obtain ⟨o, e⟩ := h q hq
  by_cases z : q = p
  · obtain ⟨x, y, e2, _⟩ := hp
    exact ⟨_, by rw [z]; exact e2⟩
  · exact ⟨o, b _ _ (by simpa using z) e⟩
theorem pot_upd {p q : Addr} {H : Hp} {o : HO} (hp : Pot H p) (n : q ≠ p) : Pot (upd H q o) p := by
  obtain ⟨a, b, e, r⟩ := hp
  exact ⟨a, b, by rw [upd_ne n.symm]; exact e, r⟩
theorem dd_mono {l m : List Addr} {H H1 : Hp} {v : V} {d : PyData} (h : DD [] m H v d) (b : But l H H1) (hm : ∀ q ∈ l, q ∈ m) : DD [] m H1 v d := h.but (b.mono hm)
theorem dds_mono {l m : List Addr} {H H1 : Hp} {vs : List V} {ds : List PyData} (h : DDs [] m H vs ds) (b : But l H H1) (hm : ∀ q ∈ l, q ∈ m) : DDs [] m H1 vs ds := h.but (b.mono hm)
end K68

set_option Elab.async false
set_option linter.all false
set_option maxRecDepth 100000
set_option maxHeartbeats 4000000
namespace K68
open PySem PySem.Spec PyProof.Rows L2 Z
/-! ### what the law thinks of a bush -/
theorem leaf_line {g : Str} {d : PyData} (h : leafOk g d = true) : okLine g d = true := by
  cases d <;> simp [leafOk, okLine] at h ⊢
  exact ⟨h.1, by omega⟩
theorem bush_tree {g : Str} : ∀ {n : Nat} {d : PyData}, bushOk g n d = true → isTree g n d = true
  | 0, d, h => by
    simp only [bushOk, isTree, seqB, Bool.and_eq_true, decide_eq_true_eq, List.all_eq_true] at h ⊢
    exact ⟨⟨by rw [h.1.1]; rfl, by omega⟩, fun x hx => leaf_line (h.2 x hx)⟩
  | n + 1, d, h => by
    simp only [bushOk, isTree, seqB, Bool.and_eq_true, decide_eq_true_eq, List.all_eq_true] at h ⊢
    exact ⟨⟨by rw [h.1.1]; rfl, by omega⟩, fun x hx => bush_tree (h.2 x hx)⟩
def lns (R : RData) (n : Nat) (d : PyData) : List V := (rowsOf R n d).map fun x => .str x.2
def rds (R : RData) (n : Nat) (d : PyData) : List PyData := (rowsOf R n d).map roleD
theorem sum_le {l : List PyData} {f : PyData → Nat} {b : Nat} (h : ∀ x ∈ l, f x ≤ b) : (l.map f).sum ≤ l.length * b := by
  induction l with
  | nil => simp
  | cons x l ih =>
    have h1 := h x (by simp)
    have h2 := ih fun y hy => h y (by simp [hy])
    simp only [List.map_cons, List.sum_cons, List.length_cons, Nat.add_mul]
    omega
theorem rows_len {R : RData} {g : Str} : ∀ {n : Nat} {d : PyData}, bushOk g n d = true → (rowsOf R n d).length ≤ rowMax n
  | 0, d, h => by
    simp only [bushOk, Bool.and_eq_true, decide_eq_true_eq] at h
    show ((items d).map _).length ≤ 10
    rw [List.length_map]
    omega
  | n + 1, d, h => by
    simp only [bushOk, Bool.and_eq_true, decide_eq_true_eq, List.all_eq_true] at h
    have h2 : ∀ x ∈ items d, ((fun p => ((("next" : Str), R.ms.length - n), lineOf R true (R.ms.length - n)) :: rowsOf R n p) x).length ≤ rowMax n + 1 := fun x hx => by
      have := rows_len (R := R) (h.2 x hx)
      simp only [List.length_cons]
      omega
    have h3 := sum_le h2
    have h4 : (items d).length * (rowMax n + 1) ≤ 10 * (rowMax n + 1) := Nat.mul_le_mul_right _ (by omega)
    simp only [rowsOf, List.length_append, List.length_flatMap, List.length_singleton]
    show _ ≤ 10 * (rowMax n + 1) + 1
    have : (List.map (fun x => ((fun p => ((("next" : Str), R.ms.length - n), lineOf R true (R.ms.length - n)) :: rowsOf R n p) x).length) (items d)).sum ≤ 10 * (rowMax n + 1) := by omega
    simpa using this
theorem strs_of {K : PySem.W.Frag} {l : List Addr} {H : Hp} {g : Str} : ∀ {xs : List V} {ds : List PyData}, DDs K l H xs ds → (∀ d ∈ ds, leafOk g d = true) → xs = ds.map fun d => .str (txtOf d)
  | [], [], _, _ => rfl
  | _ :: _, d :: ds, .cons h r, ok => by
    have h1 := ok d (by simp)
    obtain ⟨y, rfl⟩ : ∃ y, d = .str y := by cases d <;> simp [leafOk] at h1; exact ⟨_, rfl⟩
    cases h
    rw [strs_of r fun z hz => ok z (by simp [hz])]
    rfl
theorem bush_list {K : PySem.W.Frag} {l : List Addr} {H : Hp} {g : Str} {n : Nat} {v : V} {d : PyData} (h : bushOk g n d = true) (hd : DD K l H v d) : ∃ a xs, v = .ref a ∧ SqL K H a xs ∧ a ∉ l ∧ DDs K l H xs (items d) ∧ (items d).length ≤ 7 := by
  have h0 : Z.isList d = true ∧ (items d).length ≤ 7 := by
    cases n <;> simp only [bushOk, Bool.and_eq_true, decide_eq_true_eq] at h <;> exact h.1
  cases hd with
  | lst h1 n r => exact ⟨_, _, rfl, h1, n, r, h0.2⟩
  | _ => simp [Z.isList] at h0
section
variable {P : Program} {w : World} {K : PySem.W.Frag} {mg : Str → Option Value} {base : Heap} {CR : Addr}
def spMail (n : Nat) : Sp := fun vs H Q _ => ∃ (m : Addr) (R : RData) (v : V) (l : List Addr) (d : PyData), vs = [.ref m, v, .int ((R.ms.length + 1 - n : Nat) : Int)] ∧ n ≤ R.ms.length ∧ IsModel R H m ∧ R.Ok ∧ DD [] l H v d ∧ bushOk R.g n d = true ∧
  ∀ q H', But [] H H' → H q = none → H' q = some (.lst (lns R n d)) → Q (.ref q) H'
theorem scMail : FnScope ["model", "bush", "level", "found", "part"] ["model", "bush", "level"] (defScope (top 127)) := ⟨rfl, rfl, rfl, by decide +kernel, rfl, by decide +kernel, by decide +kernel⟩
theorem d_mail (B : Blt mg base) (D : At K mg "_law_mail" (top 127)) (D1 : Def P w K mg base 1 "_law_line_of" (top 120) ["model", "role"] (spLof K)) :
    ∀ n, Def P w K mg base (n + 2) "_law_mail" (top 127) ["model", "bush", "level"] (spMail n)
  | 0 => by
    refine def_of D B scMail (fun vs H Q E ⟨_, _, _, _, _, e, _⟩ => by rw [e]; rfl) fun f cdv A outer s H vs Q E hm C h => ?_
    obtain ⟨m, R, v, l, d, rfl, hn, hM, ok, hd, hb, hQ⟩ := h
    obtain ⟨ml, h1, h2⟩ := hM.ex
    obtain ⟨a, xs, rfl, ha, _, hxs, hl3⟩ := bush_list hb hd
    refine b_cons (s_ifB true ?_ (fun _ H1 b1 => ?_) (fun e => by cases e))
    · refine t_cmp (e_name 2 (v := .int ((R.ms.length + 1 - 0 : Nat) : Int)) (e_len B (e_dget C (e_name 0 (v := .ref m) (e_str ⟨rfl, DGet.k (k := .inr "marks") h1, R.ms.length, .inl ⟨_, .inl (.inl h2), by simp⟩, c_gt ⟨_, rfl, ?_, But.refl⟩⟩)))))
      rw [decide_eq_true (by omega)]
    refine b_cons (s_ret (e_listOf B (e_name 1 (v := .ref a) ⟨a, xs, rfl, .inl (b1.sql (by simp) (sql_all ha)), fun q hq => hQ q _ (b1.trans (But.new hq)) (b1.free hq) ?_⟩)))
    rw [upd_same, strs_of (g := R.g) hxs (by simp only [bushOk, Bool.and_eq_true, List.all_eq_true] at hb; exact hb.2)]
    simp only [lns, rowsOf, List.map_map]
    rfl
  | n + 1 => by
    have IH := d_mail B D D1 n
    refine def_of D B scMail (fun vs H Q E ⟨_, _, _, _, _, e, _⟩ => by rw [e]; rfl) fun f cdv A outer s H vs Q E hm C h => ?_
    obtain ⟨m, R, v, l, d, rfl, hn, hM, ok, hd, hb, hQ⟩ := h
    obtain ⟨ml, h1, h2⟩ := hM.ex
    obtain ⟨a, xs, rfl, ha, _, hxs, hl3⟩ := bush_list hb hd
    have elv : R.ms.length + 1 - (n + 1) = R.ms.length - n := by omega
    rw [elv]
    have m3 := ok.ms.2.1
    have two : 2 ≤ sizeLine := by rw [sizeLine_eq]; exact (by decide : 2 ≤ 16777216)
    have hmx := rowMax_le (n := n) (by omega)
    have lv1 : 1 ≤ R.ms.length - n := by omega
    have lv2 : R.ms.length - n ≤ R.ms.length := by omega
    refine b_cons (s_ifB false ?_ (fun e => by cases e) (fun _ H1 b1 => b_nil ?_))
    · refine t_cmp (e_name 2 (v := .int ((R.ms.length - n : Nat) : Int)) (e_len B (e_dget C (e_name 0 (v := .ref m) (e_str ⟨rfl, DGet.k (k := .inr "marks") h1, R.ms.length, .inl ⟨_, .inl (.inl h2), by simp⟩, c_gt ⟨_, rfl, ?_, But.refl⟩⟩)))))
      rw [decide_eq_false (by omega)]
    refine b_cons (s_set (i := 3) (e_lst (a_nil ⟨by rw [sizeLine_eq]; exact (by decide : 0 ≤ 16777216), fun fq hfq => ?_⟩)) C.nd)
    have bf : But [] H1 (upd H1 fq (.lst [])) := But.new hfq
    have hlen := hxs.length
    have sqa : ∀ {H2}, But [] H1 H2 → SqL K H2 a xs := fun b => (b1.trans b).sql (by simp) (sql_all ha)
    refine b_cons (s_for C (i_list (e_name 1 (v := .ref a) ⟨a, rfl, ⟨xs, sqa bf⟩, _, _, _, walk_list (xs := xs), fun i σ H' => (∃ q v4, σ = [some (.ref m), some (.ref a), some (.int ((R.ms.length - n : Nat) : Int)), some (.ref q), v4] ∧ But [] H1 H' ∧ H1 q = none ∧
      ∃ fl : List Row, H' q = some (.lst (fl.map fun x => V.str x.2)) ∧ fl.length ≤ i * (rowMax n + 1) ∧ fl = ((items d).take i).flatMap fun p => (((("next" : Str), R.ms.length - n), lineOf R true (R.ms.length - n)) : Row) :: rowsOf R n p),
      ⟨fq, none, rfl, bf, hfq, [], upd_same, by simp, by simp⟩, fun i σ H' _ ⟨_, _, _, b, _⟩ => sqa b, ?_, ?_⟩)))
    · rintro i x σ H3 H' hi ⟨q, v4, rfl, b3, hqn, fl, hq3, hfl, hfe⟩ ⟨rfl, hx⟩
      obtain ⟨dx, hdx, hD⟩ := hxs.get hx
      have hok : bushOk R.g n dx = true := by
        simp only [bushOk, Bool.and_eq_true, List.all_eq_true] at hb
        exact hb.2 dx (List.mem_of_getElem? hdx)
      have hi3 : i < 7 := by omega
      have hil : i * (rowMax n + 1) ≤ 7 * (rowMax n + 1) := Nat.mul_le_mul_right _ (by omega)
      refine g_name (i := 4) ?_ C.nd
      refine b_cons (s_set (i := 3) (e_bin (e_bin (e_name 3 (v := .ref q) (e_lst (a_cons (e_call (C.mono (by omega)) D1 (a_cons (e_name 0 (v := .ref m) (a_cons (e_tup (a_cons (e_str (a_cons (e_name 2 (a_nil ⟨two, fun t ht => a_nil ?_⟩))))))))) rfl (fun _ _ _ _ _ _ us hl => match us, hl with | [_, _], _ => rfl))))))) C.nd)
      have bt : But [] H' (upd H' t (.tup [.str "next", .int ((R.ms.length - n : Nat) : Int)])) := But.new ht
      refine ⟨m, t, R, true, R.ms.length - n, rfl, (hM.but b1).but (b3.trans bt), ok, .inl (.inl upd_same), lv1, lv2, fun H4 b4 => a_nil ⟨by rw [sizeLine_eq]; exact (by decide : 1 ≤ 16777216), fun s1 hs1 => ?_⟩⟩
      have b34 : But [] H' H4 := bt.trans b4
      have hq4 : H4 q = some (.lst (fl.map fun x => V.str x.2)) := b34 _ _ (by simp) hq3
      have hqs : q ≠ s1 := ne_of_none hq4 hs1
      refine o_cat (by rw [upd_ne hqs]; exact hq4) upd_same (by rw [sizeLine_eq, List.length_map]; show _ + 1 ≤ _; omega) fun s2 hs2 => ?_
      have b45 : But [] H4 (upd (upd H4 s1 (.lst [.str (lineOf R true (R.ms.length - n))])) s2 (.lst ((fl.map fun x => V.str x.2) ++ [.str (lineOf R true (R.ms.length - n))]))) := (But.new hs1).trans (But.new hs2)
      have e5 : upd (upd H4 s1 (.lst [.str (lineOf R true (R.ms.length - n))])) s2 (.lst ((fl.map fun x => V.str x.2) ++ [.str (lineOf R true (R.ms.length - n))])) s2 = some (.lst ((fl.map fun x => V.str x.2) ++ [.str (lineOf R true (R.ms.length - n))])) := upd_same
      generalize upd (upd H4 s1 (.lst [.str (lineOf R true (R.ms.length - n))])) s2 (.lst ((fl.map fun x => V.str x.2) ++ [.str (lineOf R true (R.ms.length - n))])) = H5 at b45 e5 ⊢
      have b05 : But [] H1 H5 := b3.trans (b34.trans b45)
      refine e_call (C.mono (by omega)) IH (a_cons (e_name 0 (v := .ref m) (a_cons (e_name 4 (v := x) (a_cons (e_bin (e_name 2 (v := .int ((R.ms.length - n : Nat) : Int)) (e_int (o_add (a_nil ?_)))))))))) rfl (fun _ _ _ _ _ _ us hl => match us, hl with | [_, _, _], _ => rfl)
      refine ⟨m, R, x, l, dx, by rw [show ((R.ms.length - n : Nat) : Int) + 1 = ((R.ms.length + 1 - n : Nat) : Int) by omega], by omega, (hM.but b1).but b05, ok, hD.but (b1.trans b05).of, hok, fun q2 H6 b6 hq2n hq2 => ?_⟩
      have hlx := rows_len (R := R) hok
      have hs6 := b6 _ _ (by simp) e5
      refine o_cat hs6 hq2 (by rw [sizeLine_eq, lns, List.length_append, List.length_map, List.length_map]; show _ + 1 + _ ≤ _; omega) fun s3 hs3 => ?_
      refine b_nil ⟨s3, _, rfl, (b05.trans b6).trans (But.new hs3), (b05.trans b6).free hs3, fl ++ (((("next" : Str), R.ms.length - n), lineOf R true (R.ms.length - n)) :: rowsOf R n dx), ?_, ?_, ?_⟩
      · rw [upd_same]
        simp [lns]
      · simp only [List.length_append, List.length_cons, Nat.add_mul]
        omega
      · rw [List.take_add_one, hdx, List.flatMap_append, hfe]
        simp
    · rintro σ H3 ⟨q, v4, rfl, b3, hqn, fl, hq3, hfl, hfe⟩
      have hil : xs.length * (rowMax n + 1) ≤ 7 * (rowMax n + 1) := Nat.mul_le_mul_right _ (by omega)
      rw [hlen, List.take_length] at hfe
      refine b_cons (s_ret (e_bin (e_name 3 (v := .ref q) (e_lst (a_cons (e_call (C.mono (by omega)) D1 (a_cons (e_name 0 (v := .ref m) (a_cons (e_tup (a_cons (e_str (a_cons (e_name 2 (a_nil ⟨two, fun t ht => a_nil ?_⟩))))))))) rfl (fun _ _ _ _ _ _ us hl => match us, hl with | [_, _], _ => rfl)))))))
      have bt : But [] H3 (upd H3 t (.tup [.str "end", .int ((R.ms.length - n : Nat) : Int)])) := But.new ht
      refine ⟨m, t, R, false, R.ms.length - n, rfl, (hM.but b1).but (b3.trans bt), ok, .inl (.inl upd_same), lv1, lv2, fun H4 b4 => a_nil ⟨by rw [sizeLine_eq]; exact (by decide : 1 ≤ 16777216), fun s1 hs1 => ?_⟩⟩
      have b34 : But [] H3 H4 := bt.trans b4
      have hq4 : H4 q = some (.lst (fl.map fun x => V.str x.2)) := b34 _ _ (by simp) hq3
      have hqs : q ≠ s1 := ne_of_none hq4 hs1
      refine o_cat (by rw [upd_ne hqs]; exact hq4) upd_same (by rw [sizeLine_eq, List.length_map]; show _ + 1 ≤ _; omega) fun s2 hs2 => ?_
      have b45 : But [] H1 (upd (upd H4 s1 (.lst [.str (lineOf R false (R.ms.length - n))])) s2 (.lst ((fl.map fun x => V.str x.2) ++ [.str (lineOf R false (R.ms.length - n))]))) := (b3.trans b34).trans ((But.new hs1).trans (But.new hs2))
      refine hQ s2 _ (b1.trans b45) (b1.free ((b3.trans (b34.trans (But.new hs1))).free hs2)) ?_
      rw [upd_same, hfe]
      simp [lns, rowsOf]
end
end K68

set_option Elab.async false
set_option linter.all false
set_option maxRecDepth 100000
set_option maxHeartbeats 4000000
namespace K68
open PySem PySem.Spec PyProof.Rows L2 Z
theorem rds_line {R : RData} {d : PyData} : rds R 0 d = List.replicate (items d).length (.tuple [.str "line", .int 0]) := by
  simp only [rds, rowsOf, List.map_map]
  induction items d with
  | nil => rfl
  | cons x r ih => simp only [List.map_cons, ih, List.length_cons, List.replicate_succ]; rfl
theorem flat_one (v : V) : ∀ k, (List.replicate k [v]).flatten = List.replicate k v
  | 0 => rfl
  | k + 1 => by rw [List.replicate_succ, List.replicate_succ, List.flatten_cons, flat_one v k]; rfl
theorem dds_rep {l : List Addr} {H : Hp} {v : V} {d : PyData} (h : DD [] l H v d) : ∀ k, DDs [] l H (List.replicate k v) (List.replicate k d)
  | 0 => .nil
  | k + 1 => .cons h (dds_rep h k)
section
variable {P : Program} {w : World} {K : PySem.W.Frag} {mg : Str → Option Value} {base : Heap} {CR : Addr}
def spDue (n : Nat) : Sp := fun vs H Q _ => ∃ (m : Addr) (R : RData) (v : V) (l : List Addr) (d : PyData), vs = [.ref m, v, .int ((R.ms.length + 1 - n : Nat) : Int)] ∧ n ≤ R.ms.length ∧ IsModel R H m ∧ R.Ok ∧ DD [] l H v d ∧ bushOk R.g n d = true ∧
  ∀ q ws H', But [] H H' → H q = none → H' q = some (.lst ws) → (∀ l, Here l H → DDs [] l H' ws (rds R n d)) → Q (.ref q) H'
theorem scDue : FnScope ["model", "bush", "level", "found", "part"] ["model", "bush", "level"] (defScope (top 128)) := ⟨rfl, rfl, rfl, by decide +kernel, rfl, by decide +kernel, by decide +kernel⟩
theorem d_due (B : Blt mg base) (D : At K mg "_law_due" (top 128)) :
    ∀ n, Def P w K mg base (n + 1) "_law_due" (top 128) ["model", "bush", "level"] (spDue n)
  | 0 => by
    refine def_of D B scDue (fun vs H Q E ⟨_, _, _, _, _, e, _⟩ => by rw [e]; rfl) fun f cdv A outer s H vs Q E hm C h => ?_
    obtain ⟨m, R, v, l, d, rfl, hn, hM, ok, hd, hb, hQ⟩ := h
    obtain ⟨ml, h1, h2⟩ := hM.ex
    obtain ⟨a, xs, rfl, ha, _, hxs, hl3⟩ := bush_list hb hd
    have two : 2 ≤ sizeLine := by rw [sizeLine_eq]; exact (by decide : 2 ≤ 16777216)
    have hlen := hxs.length
    refine b_cons (s_ifB true ?_ (fun _ H1 b1 => ?_) (fun e => by cases e))
    · refine t_cmp (e_name 2 (v := .int ((R.ms.length + 1 - 0 : Nat) : Int)) (e_len B (e_dget C (e_name 0 (v := .ref m) (e_str ⟨rfl, DGet.k (k := .inr "marks") h1, R.ms.length, .inl ⟨_, .inl (.inl h2), by simp⟩, c_gt ⟨_, rfl, ?_, But.refl⟩⟩)))))
      rw [decide_eq_true (by omega)]
    refine b_cons (s_ret (e_bin (e_lst (a_cons (e_tup (a_cons (e_str (a_cons (e_int (a_nil ⟨two, fun t ht => a_nil ⟨by rw [sizeLine_eq]; exact (by decide : 1 ≤ 16777216), fun s1 hs1 => ?_⟩⟩))))))))))
    have bt : But [] H1 (upd H1 t (.tup [.str "line", .int 0])) := But.new ht
    have hts : t ≠ s1 := ne_of_none upd_same hs1
    refine e_len B (e_name 1 (v := .ref a) ⟨xs.length, .inl ⟨xs, (b1.trans (bt.trans (But.new hs1))).sql (by simp) (sql_all ha), rfl⟩, o_rep (n := xs.length) upd_same (by rw [sizeLine_eq, List.length_singleton]; omega) (by omega) fun s2 hs2 => ?_⟩)
    have b2 : But [] H1 (upd (upd (upd H1 t (.tup [.str "line", .int 0])) s1 (.lst [.ref t])) s2 (.lst (List.replicate xs.length [.ref t]).flatten)) := bt.trans ((But.new hs1).trans (But.new hs2))
    refine hQ s2 _ _ (b1.trans b2) (b1.free ((bt.trans (But.new hs1)).free hs2)) upd_same fun l hl => ?_
    rw [flat_one, rds_line, ← hlen]
    have hts2 : t ≠ s2 := ne_of_none (by rw [upd_ne hts]; exact upd_same) hs2
    exact dds_rep (.tup (.inl (.inl (by rw [upd_ne hts2, upd_ne hts]; exact upd_same))) ((hl.ext b1).new But.refl ht) (.cons (.str _) (.cons (.int _) .nil))) _
  | n + 1 => by
    have IH := d_due B D n
    refine def_of D B scDue (fun vs H Q E ⟨_, _, _, _, _, e, _⟩ => by rw [e]; rfl) fun f cdv A outer s H vs Q E hm C h => ?_
    obtain ⟨m, R, v, l, d, rfl, hn, hM, ok, hd, hb, hQ⟩ := h
    obtain ⟨ml, h1, h2⟩ := hM.ex
    obtain ⟨a, xs, rfl, ha, _, hxs, hl3⟩ := bush_list hb hd
    have elv : R.ms.length + 1 - (n + 1) = R.ms.length - n := by omega
    rw [elv]
    have m3 := ok.ms.2.1
    have two : 2 ≤ sizeLine := by rw [sizeLine_eq]; exact (by decide : 2 ≤ 16777216)
    have hmx := rowMax_le (n := n) (by omega)
    refine b_cons (s_ifB false ?_ (fun e => by cases e) (fun _ H1 b1 => b_nil ?_))
    · refine t_cmp (e_name 2 (v := .int ((R.ms.length - n : Nat) : Int)) (e_len B (e_dget C (e_name 0 (v := .ref m) (e_str ⟨rfl, DGet.k (k := .inr "marks") h1, R.ms.length, .inl ⟨_, .inl (.inl h2), by simp⟩, c_gt ⟨_, rfl, ?_, But.refl⟩⟩)))))
      rw [decide_eq_false (by omega)]
    refine b_cons (s_set (i := 3) (e_lst (a_nil ⟨by rw [sizeLine_eq]; exact (by decide : 0 ≤ 16777216), fun fq hfq => ?_⟩)) C.nd)
    have bf : But [] H1 (upd H1 fq (.lst [])) := But.new hfq
    have hlen := hxs.length
    have sqa : ∀ {H2}, But [] H1 H2 → SqL K H2 a xs := fun b => (b1.trans b).sql (by simp) (sql_all ha)
    -- one row's tuple
    have one : ∀ {x : Str} {H2 H3 : Hp} {t : Addr} (l : List Addr), Here l H1 → But [] H1 H2 → H2 t = none → But [] (upd H2 t (.tup [.str x, .int ((R.ms.length - n : Nat) : Int)])) H3 → DD [] l H3 (.ref t) (.tuple [.str x, .int ((R.ms.length - n : Nat) : Int)]) := fun {x H2 H3 t} l hl b ht b3 =>
      .tup (.inl (.inl (b3 _ _ (by simp) upd_same))) ((hl.ext b).new But.refl ht) (.cons (.str _) (.cons (.int _) .nil))
    refine b_cons (s_for C (i_list (e_name 1 (v := .ref a) ⟨a, rfl, ⟨xs, sqa bf⟩, _, _, _, walk_list (xs := xs), fun i σ H' => (∃ q v4, σ = [some (.ref m), some (.ref a), some (.int ((R.ms.length - n : Nat) : Int)), some (.ref q), v4] ∧ But [] H1 H' ∧ H1 q = none ∧
      ∃ (ws : List V) (fl : List Row), H' q = some (.lst ws) ∧ (∀ l, Here l H1 → DDs [] l H' ws (fl.map roleD)) ∧ fl.length ≤ i * (rowMax n + 1) ∧ fl = ((items d).take i).flatMap fun p => (((("next" : Str), R.ms.length - n), lineOf R true (R.ms.length - n)) : Row) :: rowsOf R n p),
      ⟨fq, none, rfl, bf, hfq, [], [], upd_same, fun _ _ => .nil, by simp, by simp⟩, fun i σ H' _ ⟨_, _, _, b, _⟩ => sqa b, ?_, ?_⟩)))
    · rintro i x σ H3 H' hi ⟨q, v4, rfl, b3, hqn, ws, fl, hq3, hdd, hfl, hfe⟩ ⟨rfl, hx⟩
      obtain ⟨dx, hdx, hD⟩ := hxs.get hx
      have hok : bushOk R.g n dx = true := by
        simp only [bushOk, Bool.and_eq_true, List.all_eq_true] at hb
        exact hb.2 dx (List.mem_of_getElem? hdx)
      have hil : i * (rowMax n + 1) ≤ 7 * (rowMax n + 1) := Nat.mul_le_mul_right _ (by omega)
      have hwl : ws.length = fl.length := by rw [(hdd [] Here.nil).length, List.length_map]
      refine g_name (i := 4) ?_ C.nd
      refine b_cons (s_set (i := 3) (e_bin (e_bin (e_name 3 (v := .ref q) (e_lst (a_cons (e_tup (a_cons (e_str (a_cons (e_name 2 (v := .int ((R.ms.length - n : Nat) : Int)) (a_nil ⟨two, fun t ht => a_nil ⟨by rw [sizeLine_eq]; exact (by decide : 1 ≤ 16777216), fun s1 hs1 => ?_⟩⟩))))))))))) C.nd)
      have bt : But [] H' (upd H' t (.tup [.str "next", .int ((R.ms.length - n : Nat) : Int)])) := But.new ht
      have hq4 := bt _ _ (by simp) hq3
      have hqs : q ≠ s1 := ne_of_none hq4 hs1
      refine o_cat (by rw [upd_ne hqs]; exact hq4) upd_same (by rw [sizeLine_eq]; show _ + 1 ≤ _; omega) fun s2 hs2 => ?_
      have b45 : But [] (upd H' t (.tup [.str "next", .int ((R.ms.length - n : Nat) : Int)])) (upd (upd (upd H' t (.tup [.str "next", .int ((R.ms.length - n : Nat) : Int)])) s1 (.lst [.ref t])) s2 (.lst (ws ++ [.ref t]))) := (But.new hs1).trans (But.new hs2)
      have e5 : upd (upd (upd H' t (.tup [.str "next", .int ((R.ms.length - n : Nat) : Int)])) s1 (.lst [.ref t])) s2 (.lst (ws ++ [.ref t])) s2 = some (.lst (ws ++ [.ref t])) := upd_same
      generalize upd (upd (upd H' t (.tup [.str "next", .int ((R.ms.length - n : Nat) : Int)])) s1 (.lst [.ref t])) s2 (.lst (ws ++ [.ref t])) = H5 at b45 e5 ⊢
      have b35 : But [] H' H5 := bt.trans b45
      have b05 : But [] H1 H5 := b3.trans b35
      refine e_call (C.mono (by omega)) IH (a_cons (e_name 0 (v := .ref m) (a_cons (e_name 4 (v := x) (a_cons (e_bin (e_name 2 (v := .int ((R.ms.length - n : Nat) : Int)) (e_int (o_add (a_nil ?_)))))))))) rfl (fun _ _ _ _ _ _ us hl => match us, hl with | [_, _, _], _ => rfl)
      refine ⟨m, R, x, l, dx, by rw [show ((R.ms.length - n : Nat) : Int) + 1 = ((R.ms.length + 1 - n : Nat) : Int) by omega], by omega, (hM.but b1).but b05, ok, hD.but (b1.trans b05).of, hok, fun q2 ws2 H6 b6 hq2n hq2 hdd2 => ?_⟩
      have hlx := rows_len (R := R) hok
      have hw2 : ws2.length = (rowsOf R n dx).length := by rw [(hdd2 [] Here.nil).length, rds, List.length_map]
      have hs6 := b6 _ _ (by simp) e5
      refine o_cat hs6 hq2 (by rw [sizeLine_eq, List.length_append]; show _ + 1 + _ ≤ _; omega) fun s3 hs3 => ?_
      have b67 : But [] H6 (upd H6 s3 (.lst (ws ++ [.ref t] ++ ws2))) := But.new hs3
      refine b_nil ⟨s3, _, rfl, (b05.trans b6).trans b67, (b05.trans b6).free hs3, _, fl ++ (((("next" : Str), R.ms.length - n), lineOf R true (R.ms.length - n)) :: rowsOf R n dx), upd_same, fun l hl => ?_, ?_, ?_⟩
      · have e1 := (hdd l hl).but ((b35.trans b6).trans b67).of
        have e2 := one (x := "next") l hl b3 ht ((b45.trans b6).trans b67)
        have e3 := (hdd2 l (hl.ext b05)).but b67.of
        have e4 := DDs.append (DDs.append e1 (.cons e2 .nil)) e3
        have e5 : (fl ++ (((("next" : Str), R.ms.length - n), lineOf R true (R.ms.length - n)) :: rowsOf R n dx)).map roleD = (fl.map roleD ++ [.tuple [.str "next", .int ((R.ms.length - n : Nat) : Int)]]) ++ rds R n dx := by
          simp [rds, roleD]
        rw [e5]
        exact e4
      · simp only [List.length_append, List.length_cons, Nat.add_mul]
        omega
      · rw [List.take_add_one, hdx, List.flatMap_append, hfe]
        simp
    · rintro σ H3 ⟨q, v4, rfl, b3, hqn, ws, fl, hq3, hdd, hfl, hfe⟩
      have hil : xs.length * (rowMax n + 1) ≤ 7 * (rowMax n + 1) := Nat.mul_le_mul_right _ (by omega)
      have hwl : ws.length = fl.length := by rw [(hdd [] Here.nil).length, List.length_map]
      rw [hlen, List.take_length] at hfe
      refine b_cons (s_ret (e_bin (e_name 3 (v := .ref q) (e_lst (a_cons (e_tup (a_cons (e_str (a_cons (e_name 2 (v := .int ((R.ms.length - n : Nat) : Int)) (a_nil ⟨two, fun t ht => a_nil ⟨by rw [sizeLine_eq]; exact (by decide : 1 ≤ 16777216), fun s1 hs1 => ?_⟩⟩)))))))))))
      have bt : But [] H3 (upd H3 t (.tup [.str "end", .int ((R.ms.length - n : Nat) : Int)])) := But.new ht
      have hq4 := bt _ _ (by simp) hq3
      have hqs : q ≠ s1 := ne_of_none hq4 hs1
      refine o_cat (by rw [upd_ne hqs]; exact hq4) upd_same (by rw [sizeLine_eq]; show _ + 1 ≤ _; omega) fun s2 hs2 => ?_
      have b45 : But [] (upd H3 t (.tup [.str "end", .int ((R.ms.length - n : Nat) : Int)])) (upd (upd (upd H3 t (.tup [.str "end", .int ((R.ms.length - n : Nat) : Int)])) s1 (.lst [.ref t])) s2 (.lst (ws ++ [.ref t]))) := (But.new hs1).trans (But.new hs2)
      refine hQ s2 _ _ (b1.trans (b3.trans (bt.trans b45))) (b1.free ((b3.trans (bt.trans (But.new hs1))).free hs2)) upd_same fun l hl => ?_
      have e1 := (hdd l (hl.ext b1)).but (bt.trans b45).of
      have e2 := one (x := "end") l (hl.ext b1) b3 ht b45
      have e4 := DDs.append e1 (.cons e2 .nil)
      have e5 : rds R (n + 1) d = fl.map roleD ++ [.tuple [.str "end", .int ((R.ms.length - n : Nat) : Int)]] := by
        rw [hfe]
        simp [rds, rowsOf, roleD]
      rw [e5]
      exact e4
end
end K68

set_option Elab.async false
set_option linter.all false
set_option maxRecDepth 100000
set_option maxHeartbeats 4000000
namespace K68
open PySem PySem.Spec PyProof.Rows L2 Z
/-! ### the law's own reader -/
theorem find_split {α : Type} {p : α → Bool} {l : List α} {x : α} {r : List α} (h : ∀ y ∈ l, p y = false) (hx : p x = true) : (l ++ x :: r).find? p = some x := by
  rw [List.find?_append, find_none h, List.find?_cons, hx]
  rfl
section
variable {P : Program} {w : World} {K : PySem.W.Frag} {mg : Str → Option Value} {base : Heap} {CR : Addr}
def spLSeen (K : PySem.W.Frag) : Sp := fun vs H Q _ => ∃ (m t : Addr) (R : RData) (nx : Bool) (lv : Nat) (x : Str), vs = [.ref m, .ref t, .str x] ∧ IsModel R H m ∧ R.Ok ∧ SqT K H t [.str (kindS nx), .int lv] ∧ 1 ≤ lv ∧ lv ≤ R.ms.length ∧ x.length ≤ 1000 ∧ ∀ H', But [] H H' → Q (.bl (seenP x (lineOf R nx lv) R.si)) H'
theorem scLSe : FnScope ["model", "role", "line", "due", "care", "sign"] ["model", "role", "line"] (defScope (top 121)) := ⟨rfl, rfl, rfl, by decide +kernel, rfl, by decide +kernel, by decide +kernel⟩
theorem d_lseen (B : Blt mg base) (D : At K mg "_law_is_seen" (top 121)) (D1 : Def P w K mg base 1 "_law_line_of" (top 120) ["model", "role"] (spLof K)) : Def P w K mg base 2 "_law_is_seen" (top 121) ["model", "role", "line"] (spLSeen K) := by
  refine def_of D B scLSe (fun vs H Q E ⟨_, _, _, _, _, _, e, _⟩ => by rw [e]; rfl) fun f cdv A outer s H vs Q E hm C h => ?_
  obtain ⟨m, t, R, nx, lv, x, rfl, hM, ok, ht, l1, l2, hxl, hQ⟩ := h
  have zx : x.length ≤ sizeLine := by rw [sizeLine_eq]; omega
  have two : 2 ≤ sizeLine := by rw [sizeLine_eq]; exact (by decide : 2 ≤ 16777216)
  have ll := line_len ok (nx := nx) l1 l2
  refine b_cons (s_asg (e_tup (a_cons (e_call C D1 (a_cons (e_name 0 (v := .ref m) (a_cons (e_name 1 (v := .ref t) (a_nil ?_))))) rfl (fun _ _ _ _ _ _ us hl => match us, hl with | [_, _], _ => rfl)))))
  refine ⟨m, t, R, nx, lv, rfl, hM, ok, ht, l1, l2, fun H1 b1 => ?_⟩
  obtain ⟨ml, h1, h2⟩ := (hM.but b1).ex
  refine a_cons (e_dget C (e_name 0 (v := .ref m) (e_str ⟨rfl, DGet.k (k := .inr "sight") h1, a_nil ⟨two, fun tp htp => ?_⟩⟩)))
  refine g_tup (gs_cons (g_name (i := 3) (gs_cons (g_name (i := 4) (gs_nil ?_) C.nd)) C.nd)) rfl (.inl (.inl upd_same))
  have b2 : But [] H (upd H1 tp (.tup [.str (lineOf R nx lv), .str R.si])) := b1.trans (But.new htp)
  show wB _ _ _ [some (.ref m), some (.ref t), some (.str x), some (.str (lineOf R nx lv)), some (.str R.si), none] _
  generalize upd H1 tp (.tup [.str (lineOf R nx lv), .str R.si]) = H2 at b2 ⊢
  generalize lineOf R nx lv = due at ll hQ ⊢
  have zd : due.length ≤ sizeLine := by rw [sizeLine_eq]; omega
  refine b_cons (s_ifB (!decide (x.cps.toList.take due.length = due.cps.toList)) ?_ (fun e H3 b3 => ?_) (fun e H3 b3 => b_nil ?_))
  · refine t_cmp (e_slice sl_str (e_name 2 (v := .str x) (p_none (p_some (e_len B (e_name 3 (v := .str due) ⟨due.length, ⟨zd, rfl⟩, due.length, rfl, x, rfl, zx, e_name 3 (v := .str due) (c_ne rfl ⟨_, rfl, ?_, But.refl⟩)⟩))))))
    congr 1
    rw [decide_eq_decide, V.str.injEq, ← cut_to x due.length]
    exact ⟨fun h => by rw [h], fun h => str_ext h⟩
  · refine b_cons (s_ret (e_bool ?_))
    have := hQ H3 (b2.trans b3)
    have e2 : seenP x due R.si = false := by
      unfold seenP
      rw [Bool.not_eq_true'] at e
      rw [e, Bool.false_and]
    rwa [e2] at this
  · have e : decide (x.cps.toList.take due.length = due.cps.toList) = true := by simpa using e
    have hq := fun H' b => hQ H' (b2.trans (b3.trans b))
    have e2 : seenP x due R.si = (decide (R.si = "start") || decide (x = due) || (!decide (R.si = "whole") && (x.cps.toList.drop due.length).all fun c => decide ((⟨#[c]⟩ : Str) = R.si))) := by
      unfold seenP
      rw [e, Bool.true_and]
    rw [e2] at hq
    have es : ∀ a b : Str, decide (V.str a = V.str b) = decide (a = b) := fun a b => by rw [decide_eq_decide, V.str.injEq]
    refine b_cons (s_ret (e_or (e_cmp (e_name 4 (v := .str R.si) (e_str (c_eq rfl ⟨_, rfl, ite_b (fun e3 => ?_) fun e3 => ?_⟩))))))
    · rw [es] at e3
      have := hq H3 But.refl
      rw [e3] at this
      exact this
    rw [es] at e3
    rw [e3, Bool.false_or] at hq
    refine e_or (e_cmp (e_name 2 (v := .str x) (e_name 3 (v := .str due) (c_eq rfl ⟨_, rfl, ite_b (fun e4 => ?_) fun e4 => ?_⟩))))
    · rw [es] at e4
      have := hq H3 But.refl
      rw [e4] at this
      exact this
    rw [es] at e4
    rw [e4, Bool.false_or] at hq
    refine e_one (e_and (e_cmp (e_name 4 (v := .str R.si) (e_str (c_ne rfl ⟨_, rfl, ite_b (fun e5 => ?_) fun e5 => ?_⟩)))))
    · rw [es] at e5
      rw [e5, Bool.true_and] at hq
      refine e_one (e_all C (e_lcM [("sign", 5)] C (i_str (e_slice sl_str (e_name 2 (v := .str x) (p_some (e_len B (e_name 3 (v := .str due) ⟨due.length, ⟨zd, rfl⟩, due.length, rfl, p_none ⟨x, rfl, zx, ?_⟩⟩))))))))
      have hcut := cut_from x due.length
      have hlen : (cutS x (some (due.length : Int)) none).cps.size = (x.cps.toList.drop due.length).length := by rw [← hcut, Array.length_toList]
      refine ⟨_, rfl, _, _, _, ((x.cps.toList.drop due.length).map fun c => V.bl (decide ((⟨#[c]⟩ : Str) = R.si))), walk_str, by rw [List.length_map, hlen], ?_, fun _ _ => trivial, fun i y H4 H' hi b4 hy => ?_, fun Da H' b4 hn hl => ⟨Da, (x.cps.toList.drop due.length).map fun c => decide ((⟨#[c]⟩ : Str) = R.si), rfl, .inl (.inl (by rw [hl, List.map_map]; rfl)), ?_⟩⟩
      · rw [hlen, List.length_drop, lenL, sizeLine_eq]
        omega
      · obtain ⟨rfl, c, hc, rfl⟩ := hy
        refine ⟨But.refl, mt_name (i := 5) C.nd fun s H0 Ca cl fp => e_cmp (e_name 5 (v := .str ⟨#[c]⟩) (e_name 4 (v := .str R.si) (c_eq rfl ⟨?_, But.refl⟩)))⟩
        rw [← Array.getElem?_toList, hcut] at hc
        rw [List.getElem?_map, hc, es]
        rfl
      · have := hq H' b4
        have e6 : ((x.cps.toList.drop due.length).map fun c => decide ((⟨#[c]⟩ : Str) = R.si)).all id = (x.cps.toList.drop due.length).all fun c => decide ((⟨#[c]⟩ : Str) = R.si) := by
          rw [List.all_map]
          rfl
        rw [e6]
        exact this
    · rw [es] at e5
      have := hq H3 But.refl
      rw [e5, Bool.false_and] at this
      exact this
def spLRole (K : PySem.W.Frag) : Sp := fun vs H Q _ => ∃ (m : Addr) (R : RData) (x : Str) (k : Nat), vs = [.ref m, .str x, .int k] ∧ IsModel R H m ∧ R.Ok ∧ 1 ≤ k ∧ k ≤ R.ms.length ∧ x.length ≤ 1000 ∧
  (roleAt R x k = none → ∀ H', But [] H H' → Q .non H') ∧ (∀ q t H', roleAt R x k = some q → But [] H H' → SqT K H' t [.str (kindS q.1), .int q.2] → Q (.ref t) H')
theorem scLRa : FnScope ["model", "line", "level", "asked", "near", "word"] ["model", "line", "level"] (defScope (top 122)) := ⟨rfl, rfl, rfl, by decide +kernel, rfl, by decide +kernel, by decide +kernel⟩
theorem rgd_down : ∀ k : Nat, 1 ≤ k → k ≤ 3 → rgD (k : Int) (-1) k = (((List.range k).map (· + 1)).reverse.map fun n : Nat => V.int n)
  | 1, _, _ => by decide
  | 2, _, _ => by decide
  | 3, _, _ => by decide
  | 0, h, _ => by omega
  | n + 4, _, h => by omega
theorem down_ok : ∀ k : Nat, 1 ≤ k → k ≤ 3 → Builtin.Range.small (k : Int) 0 (-1) = true ∧ Builtin.Range.rangeSize (k : Int) 0 (-1) = k ∧ Builtin.divisionGoesByPylong (0 - (k : Int)) (-1) = false
  | 1, _, _ => by decide +kernel
  | 2, _, _ => by decide +kernel
  | 3, _, _ => by decide +kernel
  | 0, h, _ => by omega
  | n + 4, _, h => by omega
theorem d_lrole (B : Blt mg base) (D : At K mg "_law_role_at" (top 122)) (D1 : Def P w K mg base 2 "_law_is_seen" (top 121) ["model", "role", "line"] (spLSeen K)) : Def P w K mg base 3 "_law_role_at" (top 122) ["model", "line", "level"] (spLRole K) := by
  refine def_of D B scLRa (fun vs H Q E ⟨_, _, _, _, e, _⟩ => by rw [e]; rfl) fun f cdv A outer s H vs Q E hm C h => ?_
  obtain ⟨m, R, x, k, rfl, hM, ok, k1, k2, hxl, hN, hS⟩ := h
  have m3 := ok.ms.2.1
  have two : 2 ≤ sizeLine := by rw [sizeLine_eq]; exact (by decide : 2 ≤ 16777216)
  have es : ∀ a b : Str, decide (V.str a = V.str b) = decide (a = b) := fun a b => by rw [decide_eq_decide, V.str.injEq]
  obtain ⟨ml, h1, h2⟩ := hM.ex
  have hod := ok.od
  unfold wordOk at hod
  rw [if_neg (by decide)] at hod
  -- the rest, whatever the list asked is
  have fin : ∀ (q1 : Addr) (H1 : Hp), But [] H H1 → H1 q1 = some (.lst ((lvs R k).map fun n : Nat => V.int n)) →
      wB (bX P w K mg base ["model", "line", "level", "asked", "near", "word"] "_law_role_at" (top 122) f cdv A outer s H E) ((defBody (top 122)).drop 1) { nx := fun _ H' => Q .non H', rt := Q } [some (.ref m), some (.str x), some (.int k), some (.ref q1), none, none] H1 := fun q1 H1 b1 e1 => by
    refine b_cons (s_for C (i_list (e_name 3 (v := .ref q1) ⟨q1, rfl, ⟨_, .inl (.inl e1)⟩, _, _, _, walk_list (xs := (lvs R k).map fun n : Nat => V.int n), fun i σ H' => (∃ v4 v5, σ = [some (.ref m), some (.str x), some (.int k), some (.ref q1), v4, v5]) ∧ But [] H1 H' ∧ ∀ y ∈ ((lvs R k).take i).flatMap (fun l => [(false, l), (true, l)]), seenP x (lineOf R y.1 y.2) R.si = false,
      ⟨⟨none, none, rfl⟩, But.refl, by simp⟩, fun i σ H' _ h => .inl (.inl (h.2.1 _ _ (by simp) e1)), ?_, ?_⟩)))
    · rintro i v σ H3 H' hi ⟨⟨v4, v5, rfl⟩, b3, hno⟩ ⟨rfl, hv⟩
      rw [List.getElem?_map, Option.map_eq_some_iff] at hv
      obtain ⟨l, hl, rfl⟩ := hv
      have hlm := lvs_mem (List.mem_of_getElem? hl)
      refine g_name (i := 4) ?_ C.nd
      have hspl : askedL R k = ((lvs R k).take i).flatMap (fun l => [(false, l), (true, l)]) ++ ([(false, l), (true, l)] ++ ((lvs R k).drop (i + 1)).flatMap fun l => [(false, l), (true, l)]) := by
        obtain ⟨hlt, e⟩ := List.getElem?_eq_some_iff.mp hl
        have : lvs R k = (lvs R k).take i ++ l :: (lvs R k).drop (i + 1) := by
          rw [← e, ← List.drop_eq_getElem_cons hlt, List.take_append_drop]
        unfold askedL
        conv => lhs; rw [this]
        rw [List.flatMap_append, List.flatMap_cons]
      refine b_cons (s_for C (i_list (e_lst (a_cons (e_str (a_cons (e_str (a_nil ⟨two, fun wq hwq => ?_⟩))))))))
      have bw : But [] H' (upd H' wq (.lst [.str "end", .str "next"])) := But.new hwq
      have hw : upd H' wq (.lst [.str "end", .str "next"]) wq = some (.lst [.str "end", .str "next"]) := upd_same
      generalize upd H' wq (.lst [.str "end", .str "next"]) = H4 at bw hw ⊢
      refine ⟨wq, rfl, ⟨_, .inl (.inl hw)⟩, _, _, _, walk_list (xs := [.str "end", .str "next"]), fun j σ H' => (∃ v5, σ = [some (.ref m), some (.str x), some (.int k), some (.ref q1), some (.int l), v5]) ∧ But [] H4 H' ∧ ∀ y ∈ ([(false, l), (true, l)] : List (Bool × Nat)).take j, seenP x (lineOf R y.1 y.2) R.si = false,
        ⟨⟨v5, rfl⟩, But.refl, by simp⟩, fun i σ H' _ h => .inl (.inl (h.2.1 _ _ (by simp) hw)), ?_, ?_⟩
      · rintro j z σ H5 H6 hj ⟨⟨v5, rfl⟩, b5, hno2⟩ ⟨rfl, hz⟩
        have hj2 : j < 2 := hj
        obtain ⟨b, rfl, hb⟩ : ∃ b : Bool, z = .str (kindS b) ∧ ([(false, l), (true, l)] : List (Bool × Nat))[j]? = some (b, l) := by
          match j, hj2 with
          | 0, _ => simp at hz; exact ⟨false, hz.symm, rfl⟩
          | 1, _ => simp at hz; exact ⟨true, hz.symm, rfl⟩
        have b06 : But [] H H6 := b1.trans (b3.trans (bw.trans b5))
        refine g_name (i := 5) ?_ C.nd
        refine b_cons (s_ifB (seenP x (lineOf R b l) R.si) ?_ (fun e H7 b7 => ?_) (fun e H7 b7 => b_nil (b_nil ⟨⟨_, rfl⟩, b5.trans b7, ?_⟩)))
        · refine t_val (e_call C D1 (a_cons (e_name 0 (v := .ref m) (a_cons (e_tup (a_cons (e_name 5 (v := .str (kindS b)) (a_cons (e_name 4 (v := .int l) (a_nil ⟨two, fun t ht => a_cons (e_name 1 (v := .str x) (a_nil ?_))⟩))))) )))) rfl (fun _ _ _ _ _ _ us hl => match us, hl with | [_, _, _], _ => rfl))
          have bt := But.new (l := []) (o := .tup [.str (kindS b), .int l]) ht
          exact ⟨m, t, R, b, l, x, rfl, hM.but (b06.trans bt), ok, .inl (.inl upd_same), hlm.1, by omega, hxl, fun H' b => ⟨_, rfl, rfl, bt.trans b⟩⟩
        · refine b_cons (s_ret (e_tup (a_cons (e_name 5 (v := .str (kindS b)) (a_cons (e_name 4 (v := .int l) (a_nil ⟨two, fun t ht => ?_⟩)))))))
          refine hS (b, l) t _ ?_ (b06.trans (b7.trans (But.new ht))) (.inl (.inl upd_same))
          unfold roleAt
          have hpre : ([(false, l), (true, l)] : List (Bool × Nat)) = ([(false, l), (true, l)] : List (Bool × Nat)).take j ++ (b, l) :: ([(false, l), (true, l)] : List (Bool × Nat)).drop (j + 1) := by
            obtain ⟨hlt, e⟩ := List.getElem?_eq_some_iff.mp hb
            rw [← e, ← List.drop_eq_getElem_cons hlt, List.take_append_drop]
          rw [hspl]
          conv => lhs; rw [hpre]
          rw [List.append_assoc, List.cons_append, ← List.append_assoc]
          refine find_split (fun y hy => ?_) e
          rcases List.mem_append.mp hy with hy | hy
          · exact hno y hy
          · exact hno2 y hy
        · intro y hy
          rw [List.take_add_one, hb, List.mem_append] at hy
          rcases hy with hy | hy
          · exact hno2 y hy
          · simp only [Option.toList_some, List.mem_singleton] at hy
            rw [hy]
            exact e
      · rintro σ H5 ⟨⟨v5, rfl⟩, b5, hno2⟩
        refine b_nil ⟨⟨_, _, rfl⟩, b3.trans (bw.trans b5), fun y hy => ?_⟩
        rw [List.take_add_one, hl, List.flatMap_append, List.mem_append] at hy
        rcases hy with hy | hy
        · exact hno y hy
        · exact hno2 y (by simpa using hy)
    · rintro σ H3 ⟨⟨v4, v5, rfl⟩, b3, hno⟩
      rw [List.length_map, List.take_length] at hno
      exact b_cons (s_ret (e_none (hN (find_none hno) H3 (b1.trans b3))))
  refine b_cons (s_set (i := 3) (e_if (t_cmp (e_dget C (e_name 0 (v := .ref m) (e_str ⟨rfl, DGet.k (k := .inr "order") h1, e_str (c_eq rfl ⟨_, rfl, ite_b (fun e => ?_) fun e => ?_⟩)⟩))))) C.nd)
  · have e : R.od = "outer" := V.str.inj (of_decide_eq_true e)
    refine e_listRg2 C (e_int (e_bin (e_name 2 (v := .int k) (e_int (o_add ⟨1, (k : Int) + 1, rfl, rfl, ⟨by omega, by omega, by omega, by omega, by omega⟩, fun q1 hq1 => fin q1 _ (But.new hq1) ?_⟩)))))
    rw [upd_same, rgv_up, lvs, if_neg (by rw [e]; decide)]
  · have e : R.od = "inner" := by
      have ne : R.od ≠ "outer" := fun z => by rw [z] at e; revert e; decide
      simp only [wordsOf, if_pos, List.mem_cons, List.not_mem_nil, or_false] at hod
      rcases hod with h | h
      · exact h
      · exact absurd h ne
    obtain ⟨s1, s2, s3⟩ := down_ok k k1 (by omega)
    refine e_listRg3 C (a_cons (e_name 2 (v := .int k) (a_cons (e_int (a_cons (e_un (e_int (u_neg (a_nil ⟨k, 0, -1, k, rfl, by decide, s1, s2, by omega, s3, fun q1 hq1 => fin q1 _ (But.new hq1) ?_⟩)))))))))
    rw [upd_same, rgd_down k k1 (by omega), lvs, if_pos e]
end
end K68

set_option Elab.async false
set_option linter.all false
set_option maxRecDepth 100000
set_option maxHeartbeats 4000000
namespace K68
open PySem PySem.Spec PyProof.Rows L2 Z
section
variable {P : Program} {w : World} {K : PySem.W.Frag} {mg : Str → Option Value} {base : Heap} {CR : Addr}
def spMove (K : PySem.W.Frag) : Sp := fun vs H Q _ => ∃ (m t : Addr) (R : RData) (st : Stand) (x : Str), vs = [.ref m, .ref t, .str x] ∧ IsModel R H m ∧ R.Ok ∧ SqT K H t [.int st.1, .str (wordS st.2)] ∧ st.1 ≤ R.ms.length ∧ x.length ≤ 1000 ∧
  (step R st x = none → ∀ H', But [] H H' → Q .non H') ∧
  (∀ d st', step R st x = some (d, st') → ∀ p u s' H', But [] H H' → H' p = some (.tup [u, .ref s']) → DD K [] H' u d → SqT K H' s' [.int st'.1, .str (wordS st'.2)] → Q (.ref p) H')
theorem scMv : FnScope ["model", "here", "line", "role", "depth"] ["model", "here", "line"] (defScope (top 123)) := ⟨rfl, rfl, rfl, by decide +kernel, rfl, by decide +kernel, by decide +kernel⟩
theorem d_move (B : Blt mg base) (D : At K mg "_law_move" (top 123)) (D1 : Def P w K mg base 3 "_law_role_at" (top 122) ["model", "line", "level"] (spLRole K)) : Def P w K mg base 4 "_law_move" (top 123) ["model", "here", "line"] (spMove K) := by
  refine def_of D B scMv (fun vs H Q E ⟨_, _, _, _, _, e, _⟩ => by rw [e]; rfl) fun f cdv A outer s H vs Q E hm C h => ?_
  obtain ⟨m, t, R, st, x, rfl, hM, ok, ht, hst, hxl, hN, hS⟩ := h
  have two : 2 ≤ sizeLine := by rw [sizeLine_eq]; exact (by decide : 2 ≤ 16777216)
  have m1 := ok.ms.1
  refine b_cons (s_ifB (decide (st.1 = 0)) ?_ (fun e H1 b1 => ?_) (fun e H1 b1 => b_nil ?_))
  · refine t_cmp (e_ix (e_name 1 (v := .ref t) (e_int (ix_t ht (v := .int st.1) rfl (e_int (c_eq rfl ⟨_, rfl, ?_, But.refl⟩))))))
    rw [decide_eq_decide, V.int.injEq]
    omega
  · have e := of_decide_eq_true e
    refine b_cons (s_ret (e_none (hN ?_ H1 b1)))
    rw [step, if_pos e]
  have e := of_decide_eq_false e
  have hstep : step R st x = (match roleAt R x st.1 with
    | none => if st.2 = true then some (lineD, st) else none
    | some q => if q.2 < st.1 ∧ R.fu = "refuse" then none
      else if q.1 = false then some (kindD q, (q.2 - 1, false))
      else some (kindD q, if q.2 = R.ms.length then (q.2, true) else (q.2 + 1, false))) := by
    rw [step, if_neg e]
    all_goals (cases roleAt R x st.1 <;> rfl)
  have ht1 := b1.sqt (by simp) ht
  have hM1 := hM.but b1
  refine b_cons (s_par (i := 3) (j := 4) C (a_cons (e_call C D1 (a_cons (e_name 0 (v := .ref m) (a_cons (e_name 2 (v := .str x) (a_cons (e_ix (e_name 1 (v := .ref t) (e_int (ix_t ht1 (v := .int st.1) rfl (a_nil ?_)))))))))) rfl (fun _ _ _ _ _ _ us hl => match us, hl with | [_, _, _], _ => rfl))))
  refine ⟨m, R, x, st.1, rfl, hM1, ok, by omega, hst, hxl, fun er H2 b2 => ?_, fun q tq H2 er b2 htq => ?_⟩
  · rw [er] at hstep
    obtain ⟨ml, h1, h2⟩ := (hM1.but b2).ex
    refine a_cons (e_len B (e_dget C (e_name 0 (v := .ref m) (e_str ⟨rfl, DGet.k (k := .inr "marks") h1, R.ms.length, .inl ⟨_, .inl (.inl h2), by simp⟩, a_nil ⟨_, _, rfl, ?_⟩⟩))))
    refine b_cons (s_ifB true ?_ (fun _ H3 b3 => ?_) (fun e => by cases e))
    · exact t_cmp (e_name 3 (v := .non) (e_none (c_isN ⟨_, rfl, rfl, But.refl⟩)))
    · have ht3 := b3.sqt (by simp) (b2.sqt (by simp) ht1)
      refine b_cons (s_ret (e_if (t_cmp (e_ix (e_name 1 (v := .ref t) (e_int (ix_t ht3 (v := .str (wordS st.2)) rfl (e_str (c_eq rfl ⟨st.2, ?_, ite_b (fun e2 => ?_) fun e2 => ?_⟩)))))))))
      · cases st.2 <;> rfl
      · refine e_tup (a_cons (e_tup (a_cons (e_str (a_cons (e_int (a_nil ⟨two, fun tl htl => a_cons (e_name 1 (v := .ref t) (a_nil ⟨two, fun p hp => ?_⟩))⟩)))))))
        have bl := But.new (l := []) (o := .tup [.str "line", .int 0]) htl
        have bp := But.new (l := []) (o := .tup [.ref tl, .ref t]) hp
        have b04 := b1.trans (b2.trans (b3.trans (bl.trans bp)))
        exact hS lineD st (by rw [hstep]; simp [e2]) p _ t _ b04 upd_same (.tup (.inl (.inl (bp _ _ (by simp) upd_same))) (by simp) (.cons (.str _) (.cons (.int _) .nil))) (b04.sqt (by simp) ht)
      · exact e_none (hN (by rw [hstep]; simp [e2]) H3 (b1.trans (b2.trans b3)))
  · rw [er] at hstep
    have hqm := role_mem er
    obtain ⟨ml, h1, h2⟩ := (hM1.but b2).ex
    refine a_cons (e_len B (e_dget C (e_name 0 (v := .ref m) (e_str ⟨rfl, DGet.k (k := .inr "marks") h1, R.ms.length, .inl ⟨_, .inl (.inl h2), by simp⟩, a_nil ⟨_, _, rfl, ?_⟩⟩))))
    refine b_cons (s_ifB false ?_ (fun e => by cases e) (fun _ H3 b3 => b_nil ?_))
    · exact t_cmp (e_name 3 (v := .ref tq) (e_none (c_isN ⟨_, rfl, rfl, But.refl⟩)))
    have htq3 := b3.sqt (by simp) htq
    have b03 : But [] H H3 := b1.trans (b2.trans b3)
    have ht3 := b03.sqt (by simp) ht
    refine b_cons (s_ifB (decide (q.2 < st.1) && decide (R.fu = "refuse")) ?_ (fun e4 H4 b4 => ?_) (fun e4 H4 b4 => b_nil ?_))
    · refine t_boolop (w_and (t_cmp (e_ix (e_name 3 (v := .ref tq) (e_int (ix_t htq3 (v := .int q.2) rfl (e_ix (e_name 1 (v := .ref t) (e_int (ix_t ht3 (v := .int st.1) rfl (c_lt ⟨_, rfl, ?_⟩)))))))))))
      have e5 : decide (((q.2 : Nat) : Int) < ((st.1 : Nat) : Int)) = decide (q.2 < st.1) := by rw [decide_eq_decide]; omega
      rw [e5]
      refine ite_b (fun e6 => ?_) fun e6 => ?_
      · obtain ⟨ml3, g1, _⟩ := (hM.but b03).ex
        refine w_and1 (t_cmp (e_dget C (e_name 0 (v := .ref m) (e_str ⟨rfl, DGet.k (k := .inr "further") g1, e_str (c_eq rfl ⟨_, rfl, ?_, But.refl⟩)⟩))))
        rw [e6, Bool.true_and, decide_eq_decide, V.str.injEq]
      · exact ⟨by rw [e6, Bool.false_and], But.refl⟩
    · simp only [Bool.and_eq_true, decide_eq_true_eq] at e4
      refine b_cons (s_ret (e_none (hN ?_ H4 (b03.trans b4))))
      rw [hstep]
      exact if_pos e4
    have hno : ¬ (q.2 < st.1 ∧ R.fu = "refuse") := by
      intro h
      rw [decide_eq_true h.1, decide_eq_true h.2] at e4
      cases e4
    have hstep2 : step R st x = if q.1 = false then some (kindD q, (q.2 - 1, false)) else some (kindD q, if q.2 = R.ms.length then (q.2, true) else (q.2 + 1, false)) := by
      rw [hstep]
      exact if_neg hno
    have htq4 := b4.sqt (by simp) htq3
    refine b_cons (s_ifB (!q.1) ?_ (fun e7 H5 b5 => ?_) (fun e7 H5 b5 => b_nil ?_))
    · refine t_cmp (e_ix (e_name 3 (v := .ref tq) (e_int (ix_t htq4 (v := .str (kindS q.1)) rfl (e_str (c_eq rfl ⟨_, rfl, ?_, But.refl⟩))))))
      exact kindS_inj
    · have e7 : q.1 = false := by simpa using e7
      have htq5 := b5.sqt (by simp) htq4
      refine b_cons (s_ret (e_tup (a_cons (e_name 3 (v := .ref tq) (a_cons (e_tup (a_cons (e_bin (e_ix (e_name 3 (v := .ref tq) (e_int (ix_t htq5 (v := .int q.2) rfl (e_int (o_sub (a_cons (e_str (a_nil ⟨two, fun s' hs' => a_nil ⟨two, fun p hp => ?_⟩⟩)))))))))))))))))
      have bs := But.new (l := []) (o := .tup [.int ((q.2 : Int) - 1), .str "wait"]) hs'
      have bp := But.new (l := []) (o := .tup [.ref tq, .ref s']) hp
      have b57 := b4.trans (b5.trans (bs.trans bp))
      refine hS (kindD q) (q.2 - 1, false) (by rw [hstep2, if_pos e7]) p _ s' _ (b03.trans b57) upd_same (kind_dd (b57.sqt (by simp) htq3) (by simp)) (.inl (.inl ?_))
      rw [bp _ _ (by simp) upd_same, show ((q.2 : Int) - 1) = ((q.2 - 1 : Nat) : Int) by omega]
      rfl
    · have e7 : q.1 = true := by simpa using e7
      have htq5 := b5.sqt (by simp) htq4
      refine b_cons (s_ret (e_tup (a_cons (e_name 3 (v := .ref tq) (a_cons (e_if (t_cmp (e_ix (e_name 3 (v := .ref tq) (e_int (ix_t htq5 (v := .int q.2) rfl (e_name 4 (v := .int (R.ms.length : Nat)) (c_eq rfl ⟨decide (q.2 = R.ms.length), ?_, ite_b (fun e8 => ?_) fun e8 => ?_⟩)))))))))))))
      · have : decide (V.int (q.2 : Nat) = V.int (R.ms.length : Nat)) = decide (q.2 = R.ms.length) := by
          rw [decide_eq_decide, V.int.injEq]
          omega
        rw [this]
      · have e8 := of_decide_eq_true e8
        refine e_tup (a_cons (e_name 4 (v := .int (R.ms.length : Nat)) (a_cons (e_str (a_nil ⟨two, fun s' hs' => a_nil ⟨two, fun p hp => ?_⟩⟩)))))
        have bs := But.new (l := []) (o := .tup [.int (R.ms.length : Nat), .str "body"]) hs'
        have bp := But.new (l := []) (o := .tup [.ref tq, .ref s']) hp
        have b57 := b4.trans (b5.trans (bs.trans bp))
        refine hS (kindD q) (q.2, true) (by rw [hstep2, if_neg (by simp [e7]), if_pos e8]) p _ s' _ (b03.trans b57) upd_same (kind_dd (b57.sqt (by simp) htq3) (by simp)) (.inl (.inl ?_))
        rw [e8]
        exact bp _ _ (by simp) upd_same
      · have e8 := of_decide_eq_false e8
        refine e_tup (a_cons (e_bin (e_ix (e_name 3 (v := .ref tq) (e_int (ix_t htq5 (v := .int q.2) rfl (e_int (o_add (a_cons (e_str (a_nil ⟨two, fun s' hs' => a_nil ⟨two, fun p hp => ?_⟩⟩)))))))))))
        have bs := But.new (l := []) (o := .tup [.int ((q.2 : Int) + 1), .str "wait"]) hs'
        have bp := But.new (l := []) (o := .tup [.ref tq, .ref s']) hp
        have b57 := b4.trans (b5.trans (bs.trans bp))
        refine hS (kindD q) (q.2 + 1, false) (by rw [hstep2, if_neg (by simp [e7]), if_neg e8]) p _ s' _ (b03.trans b57) upd_same (kind_dd (b57.sqt (by simp) htq3) (by simp)) (.inl (.inl ?_))
        exact bp _ _ (by simp) upd_same
def spTold (K : PySem.W.Frag) : Sp := fun vs H Q _ => ∃ (m mq : Addr) (R : RData) (ls : List Str), vs = [.ref m, .ref mq] ∧ IsModel R H m ∧ R.Ok ∧ H mq = some (.lst (ls.map V.str)) ∧ (∀ y ∈ ls, y.length ≤ 1000) ∧ ls.length ≤ 100000 ∧
  ∀ p hv pq us H', But [] H H' → H pq = none → H' p = some (.tup [hv, .ref pq]) → H' pq = some (.lst us) → DDs K [] H' us (courseD R ls) → (refusedB R ls = true → hv = .non) → (refusedB R ls = false → ∃ tq ws, hv = .ref tq ∧ H tq = none ∧ H' tq = some (.lst ws) ∧ DDs K [] H' ws (toldD R ls)) → Q (.ref p) H'
theorem scTd : FnScope ["model", "mail", "heard", "trail", "line", "move"] ["model", "mail"] (defScope (top 124)) := ⟨rfl, rfl, rfl, by decide +kernel, rfl, by decide +kernel, by decide +kernel⟩
theorem d_told (B : Blt mg base) (D : At K mg "_law_told" (top 124)) (D1 : Def P w K mg base 4 "_law_move" (top 123) ["model", "here", "line"] (spMove K)) : Def P w K mg base 5 "_law_told" (top 124) ["model", "mail"] (spTold K) := by
  refine def_of D B scTd (fun vs H Q E ⟨_, _, _, _, e, _⟩ => by rw [e]; rfl) fun f cdv A outer s H vs Q E hm C h => ?_
  obtain ⟨m, mq, R, ls, rfl, hM, ok, hmq, hlen, hfew, hQ⟩ := h
  have m1 := ok.ms.1
  have zero : 0 ≤ sizeLine := by rw [sizeLine_eq]; exact (by decide : 0 ≤ 16777216)
  have two : 2 ≤ sizeLine := by rw [sizeLine_eq]; exact (by decide : 2 ≤ 16777216)
  refine b_cons (s_par (i := 2) (j := 3) C (a_cons (e_lst (a_nil ⟨zero, fun tq htq => ?_⟩))))
  refine a_cons (e_lst (a_cons (e_tup (a_cons (e_int (a_cons (e_str (a_nil ⟨two, fun ts hts => a_nil ⟨by show 1 ≤ sizeLine; omega, fun pq hpq => a_nil ⟨_, _, rfl, ?_⟩⟩⟩))))))))
  have bt : But [] H (upd H tq (.lst [])) := But.new htq
  have bs : But [] (upd H tq (.lst [])) (upd (upd H tq (.lst [])) ts (.tup [.int 1, .str "wait"])) := But.new hts
  have bp : But [] (upd (upd H tq (.lst [])) ts (.tup [.int 1, .str "wait"])) (upd (upd (upd H tq (.lst [])) ts (.tup [.int 1, .str "wait"])) pq (.lst [.ref ts])) := But.new hpq
  have hpqH : H pq = none := (bt.trans bs).free hpq
  have e1 := bp _ _ (by simp) (bs _ _ (by simp) (upd_same (H := H) (a := tq) (o := .lst [])))
  have ntp : tq ≠ pq := ne_of_none (bs _ _ (by simp) (upd_same (H := H) (a := tq) (o := .lst []))) hpq
  have e2 : upd (upd (upd H tq (.lst [])) ts (.tup [.int 1, .str "wait"])) pq (.lst [.ref ts]) pq = some (.lst [.ref ts]) := upd_same
  have e3 := bp _ _ (by simp) (upd_same (H := upd H tq (.lst [])) (a := ts) (o := .tup [.int 1, .str "wait"]))
  have b02 := bt.trans (bs.trans bp)
  generalize upd (upd (upd H tq (.lst [])) ts (.tup [.int 1, .str "wait"])) pq (.lst [.ref ts]) = H2 at e1 e2 e3 b02 ⊢
  have nts : ∀ q xs, H2 q = some (.lst xs) → ts ≠ q := fun q xs e z => by rw [z, e] at e3; cases e3
  have sqm : ∀ {H'}, But [] H H' → SqL K H' mq (ls.map V.str) := fun b => .inl (.inl (b _ _ (by simp) hmq))
  refine b_cons (s_for C (i_list (e_name 1 (v := .ref mq) ⟨mq, rfl, ⟨_, sqm b02⟩, _, _, _, walk_list (xs := ls.map V.str), fun i σ H' => (∃ v4 v5, σ = [some (.ref m), some (.ref mq), some (.ref tq), some (.ref pq), v4, v5]) ∧ But [] H H' ∧ (goes R start1 (ls.take i)).length = (ls.take i).length ∧ ∃ ws us, H' tq = some (.lst ws) ∧ H' pq = some (.lst us) ∧ DDs K [tq, pq] H' ws (toldD R (ls.take i)) ∧ DDs K [tq, pq] H' us (courseD R (ls.take i)),
    ⟨⟨none, none, rfl⟩, b02, rfl, [], [.ref ts], e1, e2, .nil, .cons (stand_dd (s := start1) (.inl (.inl e3)) (by simp [nts tq _ e1, nts pq _ e2])) .nil⟩, fun i σ H' _ h => sqm h.2.1, ?_, ?_⟩)))
  · rintro i x σ H3 H' hi ⟨⟨v4, v5, rfl⟩, b3, hgl, ws, us, h1, h2, d1, d2⟩ ⟨rfl, hx⟩
    rw [List.getElem?_map, Option.map_eq_some_iff] at hx
    obtain ⟨y, hy, rfl⟩ := hx
    rw [List.length_map] at hi
    have hy9 := hlen y (List.mem_of_getElem? hy)
    have htk : ls.take (i + 1) = ls.take i ++ [y] := by rw [List.take_add_one, hy]; rfl
    have hwl : ws.length = i := by rw [d1.length, toldD, List.length_map, hgl, List.length_take]; omega
    have hul : us.length = i + 1 := by rw [d2.length, courseD, List.length_cons, List.length_map, hgl, List.length_take]; omega
    have hlast : ∃ sv, us.getLast? = some sv ∧ DD K [tq, pq] H' sv (standD (lastS start1 (goes R start1 (ls.take i)))) := by
      have hcl := course_last (R := R) (ls := ls.take i)
      rw [List.getLast?_eq_getElem?] at hcl ⊢
      have e : (courseD R (ls.take i)).length = us.length := d2.length.symm
      rw [e] at hcl
      have hlt : us.length - 1 < us.length := by omega
      obtain ⟨dd, hdd, hD⟩ := d2.get (i := us.length - 1) (List.getElem?_eq_getElem hlt)
      rw [hcl] at hdd
      cases hdd
      exact ⟨_, List.getElem?_eq_getElem hlt, hD⟩
    obtain ⟨sv, hsv, hsD⟩ := hlast
    obtain ⟨st, rfl, hst⟩ := dd_stand hsD
    refine g_name (i := 4) ?_ C.nd
    refine b_cons (s_set (i := 5) (e_gives (e_call C D1 (a_cons (e_name 0 (v := .ref m) (a_cons (e_ix (e_name 3 (v := .ref pq) (e_un (e_int (u_neg (ix_l (.inl (.inl h2)) (v := .ref st) ?_ (a_cons (e_name 4 (v := .str y) (a_nil ?_)))))))))))) rfl (fun _ _ _ _ _ _ us hl => match us, hl with | [_, _, _], _ => rfl))) C.nd)
    · obtain ⟨ini, hini⟩ := List.getLast?_eq_some_iff.mp hsv
      rw [hini]
      exact atI_last _ _
    refine ⟨m, st, R, _, y, rfl, hM.but b3, ok, hst, last_ok (s := start1) (by exact m1), hy9, fun hstep H4 b4 ap => ?_, fun d4 st4 hstep p u s' H4 b4 hp hu hs' ap => ?_⟩
    · -- refused
      refine b_cons (s_ifB true ?_ (fun _ H5 b5 => ?_) (fun e => by cases e))
      · exact t_cmp (e_name 5 (v := .non) (e_none (c_isN ⟨_, rfl, rfl, But.refl⟩)))
      have b35 := b4.trans b5
      have hall : goes R start1 ls = goes R start1 (ls.take i) := by
        have h1 : ls.take i ++ y :: ls.drop (i + 1) = ls := by
          have : ls.drop i = y :: ls.drop (i + 1) := by
            obtain ⟨hlt, e⟩ := List.getElem?_eq_some_iff.mp hy
            rw [List.drop_eq_getElem_cons hlt, e]
          rw [← this, List.take_append_drop]
        have := goes_stop (r := ls.drop (i + 1)) hgl hstep
        rwa [h1] at this
      have t2 : courseD R ls = courseD R (ls.take i) := by unfold courseD; rw [hall]
      have hrf : refusedB R ls = true := by
        unfold refusedB
        rw [hall, decide_eq_true (by rw [hgl, List.length_take]; omega), Bool.true_or]
      refine b_cons (s_ret (e_tup (a_cons (e_none (a_cons (e_name 3 (v := .ref pq) (a_nil ⟨two, fun p hp => ?_⟩)))))))
      have bn : But [] H5 (upd H5 p (.tup [.non, .ref pq])) := But.new hp
      refine hQ p .non pq us _ (b3.trans (b35.trans bn)) hpqH upd_same (bn _ _ (by simp) (b35 _ _ (by simp) h2)) ?_ (fun _ => rfl) (fun e => by rw [hrf] at e; cases e)
      rw [t2]
      exact ((d2.less (by simp)).but b35).but bn
    · -- told
      have hsn : goes R start1 (ls.take (i + 1)) = goes R start1 (ls.take i) ++ [(d4, st4)] := by
        rw [htk, goes_snoc hgl, hstep]
      refine b_cons (s_ifB false ?_ (fun e => by cases e) (fun _ H5 b5 => b_nil ?_))
      · exact t_cmp (e_name 5 (v := .ref p) (e_none (c_isN ⟨_, rfl, rfl, But.refl⟩)))
      have b35 := b4.trans b5
      have h15 := b35 _ _ (by simp) h1
      have h25 := b35 _ _ (by simp) h2
      have hp5 := b5 _ _ (by simp) hp
      have d4t : tupOnly d4 = true := (step_ok hstep (last_ok (s := start1) (by exact m1))).2
      have hu5 : DD K [tq, pq] H5 u d4 := ((hu.avoid ap (b4 _ _ (by simp) h2) d4t).avoid ap (b4 _ _ (by simp) h1) d4t).but b5.of
      have ns1 : s' ≠ tq := ap _ _ _ _ hs' (b4 _ _ (by simp) h1)
      have ns2 : s' ≠ pq := ap _ _ _ _ hs' (b4 _ _ (by simp) h2)
      have hs5 : DD K [tq, pq] H5 (.ref s') (standD st4) := stand_dd (b5.sqt (by simp) hs') (by simp [ns1, ns2])
      have npt : p ≠ tq := fun z => by rw [z, h15] at hp5; cases hp5
      have npp : p ≠ pq := fun z => by rw [z, h25] at hp5; cases hp5
      refine b_cons (s_expr (e_append (e_name 2 (v := .ref tq) ⟨tq, rfl, ⟨_, h15⟩, e_ix (e_name 5 (v := .ref p) (e_int (ix_t (.inl (.inl hp5)) (v := u) rfl ⟨_, h15, by rw [sizeLine_eq]; omega, ?_⟩)))⟩)))
      have bA : But [tq, pq] H5 (upd H5 tq (.lst (ws ++ [u]))) := But.at (by simp)
      have h16 : upd H5 tq (.lst (ws ++ [u])) tq = some (.lst (ws ++ [u])) := upd_same
      have h26 : upd H5 tq (.lst (ws ++ [u])) pq = some (.lst us) := by rw [upd_ne ntp.symm]; exact h25
      have hp6 : upd H5 tq (.lst (ws ++ [u])) p = some (.tup [u, .ref s']) := by rw [upd_ne npt]; exact hp5
      generalize upd H5 tq (.lst (ws ++ [u])) = H6 at bA h16 h26 hp6 ⊢
      refine b_cons (s_expr (e_append (e_name 3 (v := .ref pq) ⟨pq, rfl, ⟨_, h26⟩, e_ix (e_name 5 (v := .ref p) (e_int (ix_t (.inl (.inl hp6)) (v := .ref s') rfl ⟨_, h26, by rw [sizeLine_eq]; omega, ?_⟩)))⟩)))
      have bB : But [tq, pq] H6 (upd H6 pq (.lst (us ++ [.ref s']))) := But.at (by simp)
      have bAB := bA.trans bB
      refine b_nil ⟨⟨_, _, rfl⟩, ?_, ?_, ws ++ [u], us ++ [.ref s'], by rw [upd_ne ntp]; exact h16, upd_same, ?_, ?_⟩
      · exact but_late (b3.trans b35) bAB fun q hq => by
          simp only [List.mem_cons, List.not_mem_nil, or_false] at hq
          rcases hq with rfl | rfl
          · exact htq
          · exact hpqH
      · rw [hsn, List.length_append, hgl, htk, List.length_append]
        rfl
      · have : toldD R (ls.take (i + 1)) = toldD R (ls.take i) ++ [d4] := by unfold toldD; rw [hsn, List.map_append]; rfl
        rw [this]
        exact DDs.append ((d1.but b35.of).but bAB) (.cons (hu5.but bAB) .nil)
      · have : courseD R (ls.take (i + 1)) = courseD R (ls.take i) ++ [standD st4] := by unfold courseD; rw [hsn, List.map_append]; rfl
        rw [this]
        exact DDs.append ((d2.but b35.of).but bAB) (.cons (hs5.but bAB) .nil)
  · rintro σ H3 ⟨⟨v4, v5, rfl⟩, b3, hgl, ws, us, h1, h2, d1, d2⟩
    rw [List.length_map, List.take_length] at d1 d2 hgl
    have hle : decide ((goes R start1 ls).length < ls.length) = false := decide_eq_false (by omega)
    have hrf : refusedB R ls = (decide (R.fi = "refuse") && !decide (lastS start1 (goes R start1 ls) = (0, false))) := by
      unfold refusedB
      rw [hle, Bool.false_or, Bool.and_comm]
    obtain ⟨ml, g1, g2⟩ := (hM.but b3).ex
    have hlast : ∃ sv ini, us = ini ++ [sv] ∧ DD K [] H3 sv (standD (lastS start1 (goes R start1 ls))) := by
      have hcl := course_last (R := R) (ls := ls)
      rw [List.getLast?_eq_getElem?] at hcl
      have e3 : (courseD R ls).length = us.length := d2.length.symm
      rw [e3] at hcl
      have hul : 0 < us.length := by rw [d2.length, courseD, List.length_cons]; omega
      have hlt : us.length - 1 < us.length := by omega
      obtain ⟨dd, hdd, hD⟩ := d2.get (i := us.length - 1) (List.getElem?_eq_getElem hlt)
      rw [hcl] at hdd
      cases hdd
      have e4 : us.getLast? = some us[us.length - 1] := by rw [List.getLast?_eq_getElem?]; exact List.getElem?_eq_getElem hlt
      obtain ⟨ini, hini⟩ := List.getLast?_eq_some_iff.mp e4
      exact ⟨_, ini, hini, hD.less (by simp)⟩
    obtain ⟨sv, ini, hini, hsD⟩ := hlast
    refine b_cons (s_ifB (refusedB R ls) ?_ (fun e H4 b4 => ?_) (fun e H4 b4 => b_nil ?_))
    · rw [hrf]
      refine t_boolop (w_and (t_cmp (e_dget C (e_name 0 (v := .ref m) (e_str ⟨rfl, DGet.k (k := .inr "finish") g1, e_str (c_eq rfl ⟨decide (R.fi = "refuse"), ?_, ite_b (fun e5 => ?_) fun e5 => ?_⟩)⟩)))))
      · rw [show decide (V.str R.fi = V.str "refuse") = decide (R.fi = "refuse") from by rw [decide_eq_decide, V.str.injEq]]
      · refine w_and1 (t_cmp (e_ix (e_name 3 (v := .ref pq) (e_un (e_int (u_neg (ix_l (.inl (.inl h2)) (v := sv) ?_ (e_tup (a_cons (e_int (a_cons (e_str (a_nil ⟨two, fun dn hdn => c_neD C (hsD.but (But.new hdn)) (stand_dd (l := []) (s := (0, false)) (.inl (.inl upd_same)) (by simp)) (stand_shaped _) (stand_shaped _) ⟨_, rfl, ?_, But.new hdn⟩⟩)))))))))))))
        · rw [hini]
          exact atI_last _ _
        · rw [eqv_stand, e5, Bool.true_and]
      · exact ⟨by rw [e5, Bool.false_and], But.refl⟩
    · refine b_cons (s_ret (e_tup (a_cons (e_none (a_cons (e_name 3 (v := .ref pq) (a_nil ⟨two, fun p hp => ?_⟩)))))))
      have bn : But [] H4 (upd H4 p (.tup [.non, .ref pq])) := But.new hp
      exact hQ p .non pq us _ (b3.trans (b4.trans bn)) hpqH upd_same (bn _ _ (by simp) (b4 _ _ (by simp) h2)) (((d2.less (by simp)).but b4).but bn) (fun _ => rfl) (fun e6 => by rw [e] at e6; cases e6)
    · refine b_cons (s_ret (e_tup (a_cons (e_name 2 (v := .ref tq) (a_cons (e_name 3 (v := .ref pq) (a_nil ⟨two, fun p hp => ?_⟩)))))))
      have bn : But [] H4 (upd H4 p (.tup [.ref tq, .ref pq])) := But.new hp
      exact hQ p (.ref tq) pq us _ (b3.trans (b4.trans bn)) hpqH upd_same (bn _ _ (by simp) (b4 _ _ (by simp) h2)) (((d2.less (by simp)).but b4).but bn) (fun e6 => by rw [e] at e6; cases e6) (fun _ => ⟨tq, ws, rfl, htq, bn _ _ (by simp) (b4 _ _ (by simp) h1), ((d1.less (by simp)).but b4).but bn⟩)
end
end K68

set_option Elab.async false
set_option linter.all false
set_option maxRecDepth 100000
set_option maxHeartbeats 4000000
namespace K68
open PySem PySem.Spec PyProof.Rows L2 Z
/-! ### the law's own tree of a message -/
section
variable {P : Program} {w : World} {K : PySem.W.Frag} {mg : Str → Option Value} {base : Heap} {CR : Addr}
def spGrown (K : PySem.W.Frag) : Sp := fun vs H Q _ => ∃ (m hq mq : Addr) (R : RData) (ws : List V) (ls : List Str), vs = [.ref m, .ref hq, .ref mq] ∧ IsModel R H m ∧ R.Ok ∧ H hq = some (.lst ws) ∧ DDs K [] H ws (toldD R ls) ∧ H mq = some (.lst (ls.map V.str)) ∧ refusedB R ls = false ∧ ls.length ≤ 100000 ∧
  ∀ a S H', But [] H H' → (∀ b ∈ S, H b = none) → Bu H' S (.ref a) (.list (treeD R ls)) → Q (.ref a) H'
theorem scGr : FnScope ["model", "heard", "mail", "root", "role", "line", "place", "turn"] ["model", "heard", "mail"] (defScope (top 129)) := ⟨rfl, rfl, rfl, by decide +kernel, rfl, by decide +kernel, by decide +kernel⟩
theorem d_grown (B : Blt mg base) (D : At K mg "_law_grown" (top 129)) : Def P w K mg base 1 "_law_grown" (top 129) ["model", "heard", "mail"] (spGrown K) := by
  refine def_of D B scGr (fun vs H Q E ⟨_, _, _, _, _, _, e, _⟩ => by rw [e]; rfl) fun f cdv A outer s H vs Q E hm C h => ?_
  obtain ⟨m, hq, mq, R, ws, ls, rfl, hM, ok, hhq, dws, hmq, hf, few, hQ⟩ := h
  have m1 := ok.ms.1
  have m3 := ok.ms.2.1
  have sz : ∀ n, n ≤ 16777216 → n ≤ sizeLine := fun n hn => by rw [sizeLine_eq]; exact hn
  have tl := told_len hf
  have wl : ws.length = ls.length := by rw [dws.length, tl]
  refine b_cons (s_set (i := 3) (e_lst (a_nil ⟨sz 0 (by decide), fun u0 hu0 => ?_⟩)) C.nd)
  have b0 : But [] H (upd H u0 (.lst [])) := But.new hu0
  have e0 : upd H u0 (.lst []) u0 = some (.lst []) := upd_same
  generalize upd H u0 (.lst []) = H0 at b0 e0 ⊢
  refine b_cons (s_for C (i_zipD (H0 := H) B (e_name 1 (v := .ref hq) (e_name 2 (v := .ref mq) ⟨hq, ws, [], .list (ls.map .str), rfl, b0 _ _ (by simp) hhq, b0, .lst (.inl (.inl hmq)) (by simp) (DDs.strs _), rfl, fun J Gw vs W hG hvs => ?_⟩))))
  have hvl : vs = ls.map V.str := dds_strs hvs
  subst hvl
  have hmin : min ws.length (ls.map V.str).length = ls.length := by rw [List.length_map, wl, Nat.min_self]
  rw [hmin] at W
  refine ⟨_, _, _, W, fun i σ H' => ∃ (v4 v5 v6 v7 : Option V) (us T : List Addr), σ = [some (.ref m), some (.ref hq), some (.ref mq), some (.ref u0), v4, v5, v6, v7] ∧ But [] H H' ∧ us.head? = some u0 ∧ Spn H' us T (climbs ((toldD R ls).take i) (ls.take i) [[]]) ∧ (∀ a ∈ us, H a = none) ∧ (∀ a ∈ T, H a = none),
    ⟨none, none, none, none, [u0], [], rfl, b0, rfl, .one e0 .nil (by simp), by simpa using hu0, by simp⟩, fun i σ H' _ ⟨v4, v5, v6, v7, us, T, _, b, _⟩ => hG H' (b _ _ (by simp) hhq) b, ?_, ?_⟩
  · rintro i x σ H4 H5 hi ⟨v4, v5, v6, v7, us, T, rfl, b4, uh, sp, fu, fT⟩ ⟨t, x1, y1, rfl, ht, rfl, e1, e2⟩
    replace e1 : ws[i]? = some x1 := e1
    replace e2 : (ls.map V.str)[i]? = some y1 := e2
    rw [List.getElem?_map, Option.map_eq_some_iff] at e2
    obtain ⟨y, hy, rfl⟩ := e2
    obtain ⟨dd, hdd, hD⟩ := dws.get e1
    have hc := climbs_snoc (st := [[]]) hdd hy
    have tells := told_tells ok.ms.1 hdd
    have lens : ∀ ds ∈ climbs ((toldD R ls).take i) (ls.take i) [[]], ds.length ≤ 100000 := fun ds hds => by
      have h1 := climbs_few (((toldD R ls).take i).zip (ls.take i)) (st := [[]]) (N := 0) (by simp) ds hds
      rw [List.length_zip, List.length_take, List.length_take] at h1
      omega
    generalize climbs ((toldD R ls).take i) (ls.take i) [[]] = st at sp hc tells lens
    have stl := sp.len
    obtain ⟨a, kn, n, rfl, hsq0, hform⟩ := dd_tells (hD.but b4) tells
    have b45 : But [] H4 (upd H4 t (.tup [.ref a, .str y])) := But.new ht
    have hT5 : upd H4 t (.tup [.ref a, .str y]) t = some (.tup [.ref a, .str y]) := upd_same
    have hsq1 := b45.sqt (by simp) hsq0
    have b5 := b4.trans b45
    have sp5 := sp.but b45 (by simp) (by simp)
    generalize upd H4 t (.tup [.ref a, .str y]) = H5 at hsq1 b45 hT5 b5 sp5 ⊢
    refine g_tup (gs_cons (g_name (i := 4) (gs_cons (g_name (i := 5) (gs_nil ?_) C.nd)) C.nd)) rfl (.inl (.inl hT5))
    refine b_cons (s_ifB (!decide (kn = "end")) ?_ (fun e H6 b6 => ?_) (fun e H6 b6 => ?_))
    · exact t_cmp (e_ix (e_name 4 (v := .ref a) (e_int (ix_t hsq1 (v := .str kn) rfl (e_str (c_ne rfl ⟨_, rfl, by rw [show decide (V.str kn = V.str "end") = decide (kn = "end") by rw [decide_eq_decide, V.str.injEq]], But.refl⟩))))))
    · have ne : ¬ kn = "end" := by simpa using e
      obtain ⟨k, hkn, hkl, hku, hk3⟩ : ∃ k : Nat, (kn = "next" → n - 1 = (k : Int)) ∧ (¬ kn = "next" → R.ms.length = k) ∧ k + 1 ≤ us.length ∧ k ≤ 3 := by
        by_cases z : kn = "next"
        · obtain ⟨p, hp, _, p1, p2⟩ := tells_next tells hform z
          exact ⟨p - 1, fun _ => by omega, fun h => absurd z h, by omega, by omega⟩
        · obtain ⟨_, hfull⟩ := tells_line tells hform z ne
          exact ⟨R.ms.length, fun h => absurd h z, fun _ => rfl, by omega, m3⟩
      have sp6 := sp5.but b6 (by simp) (by simp)
      have hsq6 := b6.sqt (by simp) hsq1
      obtain ⟨us0, rest, hus⟩ := sp.hd
      have hu0 : us0 = u0 := by rw [hus] at uh; simpa using uh
      subst hu0
      refine b_cons (s_set (i := 6) (e_name 3 (v := .ref us0) ?_) C.nd)
      refine b_cons (s_for C (i_range1 B (wE_mono (Q := fun x H' => x = V.int (k : Nat) ∧ But [] H6 H') ?_ fun x H7 ⟨ex, b7⟩ => ?_)))
      · obtain ⟨ml, h1, h2⟩ := (hM.but (b5.trans b6)).ex
        refine e_if (t_cmp (e_ix (e_name 4 (v := .ref a) (e_int (ix_t hsq6 (v := .str kn) rfl (e_str (c_eq rfl ⟨decide (kn = "next"), by rw [show decide (V.str kn = V.str "next") = decide (kn = "next") by rw [decide_eq_decide, V.str.injEq]], ite_b (fun z => ?_) fun z => ?_⟩)))))))
        · exact e_bin (e_ix (e_name 4 (v := .ref a) (e_int (ix_t hsq6 (v := .int n) rfl (e_int (o_sub ⟨by rw [hkn (of_decide_eq_true z)], But.refl⟩))))))
        · exact e_len B (e_dget C (e_name 0 (v := .ref m) (e_str ⟨rfl, DGet.k (k := .inr "marks") h1, R.ms.length, .inl ⟨_, .inl (.inl h2), by simp⟩, by rw [hkl (of_decide_eq_false z)], But.refl⟩)))
      have sp7 := sp6.but b7 (by simp) (by simp)
      have hsq7 := b7.sqt (by simp) hsq6
      refine ⟨k, ex, by omega, by omega, k, _, _, walk_range, fun j σ H' => ∃ (u : Addr) (v7 : Option V), σ = [some (.ref m), some (.ref hq), some (.ref mq), some (.ref us0), some (.ref a), some (.str y), some (.ref u), v7] ∧ us[j]? = some u ∧ But [] H7 H', ⟨us0, v7, rfl, by rw [hus]; rfl, But.refl⟩, fun _ _ _ _ _ => trivial, ?_, ?_⟩
      · rintro j x σ H8 H' hj ⟨u, v7, rfl, hu, b8⟩ ⟨rfl, rfl⟩
        refine g_name (i := 7) ?_ C.nd
        have hlt : j + 1 < us.length := by omega
        obtain ⟨xs, hxs⟩ := (sp7.but b8 (by simp) (by simp)).down j u us[j + 1] hu (List.getElem?_eq_getElem hlt)
        exact b_cons (s_set (i := 6) (e_ix (e_name 6 (v := .ref u) (e_un (e_int (u_neg (ix_l (.inl (.inl hxs)) (v := .ref us[j + 1]) (atI_last _ _) (b_nil ⟨_, _, rfl, List.getElem?_eq_getElem hlt, b8⟩))))))) C.nd)
      · rintro σ H8 ⟨u, v7, rfl, hu, b8⟩
        have sp8 := sp7.but b8 (by simp) (by simp)
        have hsq8 := b8.sqt (by simp) hsq7
        have b58 : But [] H5 H8 := b6.trans (b7.trans b8)
        obtain ⟨T', sc, hT'⟩ := sp8.cut (n := k + 1) (by omega) hku
        obtain ⟨ini, w1, xs, ds, i1, i2, i3, i4, i5, i6, i7, i8⟩ := sc.last
        have il : ini.length = k := by
          have := congrArg List.length i1
          rw [List.length_take, List.length_append, List.length_singleton] at this
          omega
        have hwu : w1 = u := by
          have h1 : (us.take (k + 1))[k]? = some u := by rw [List.getElem?_take, if_pos (by omega)]; exact hu
          rw [i1, ← il] at h1
          simpa using h1
        subst hwu
        have umem : w1 ∈ us := List.mem_of_getElem? hu
        have xl : xs.length ≤ 100001 := by rw [i5]; exact closeTo_few lens ds i6
        have uhead : ∀ q, (us.take (k + 1) ++ q).head? = some us0 := fun q => by rw [hus]; rfl
        refine b_cons (s_expr (e_append (e_name 6 (v := .ref w1) ⟨w1, rfl, ⟨_, i4⟩, e_if (t_cmp (e_ix (e_name 4 (v := .ref a) (e_int (ix_t hsq8 (v := .str kn) rfl (e_str (c_eq rfl ⟨decide (kn = "next"), by rw [show decide (V.str kn = V.str "next") = decide (kn = "next") by rw [decide_eq_decide, V.str.injEq]], ite_b (fun z => ?_) fun z => ?_⟩)))))))⟩)))
        · obtain ⟨p, hp, hdp, p1, p2⟩ := tells_next tells hform (of_decide_eq_true z)
          have hpk := hkn (of_decide_eq_true z)
          have pk : p = k + 1 := by omega
          refine e_lst (a_nil ⟨sz 0 (by decide), fun p0 hp0 => ?_⟩)
          have c1 : But [] H8 (upd H8 p0 (.lst [])) := But.new hp0
          have nup : w1 ≠ p0 := ne_of_none i4 hp0
          have f0 : p0 ∉ us ∧ p0 ∉ T := by
            refine ⟨fun q => ?_, fun q => ?_⟩
            · obtain ⟨xs, e⟩ := sp8.there _ (.inl q)
              rw [e] at hp0
              cases hp0
            · obtain ⟨xs, e⟩ := sp8.there _ (.inr q)
              rw [e] at hp0
              cases hp0
          refine ⟨xs, c1 _ _ (by simp) i4, by rw [sizeLine_eq]; omega, ?_⟩
          refine b_nil (b_nil ⟨_, _, _, _, us.take (k + 1) ++ [p0], T', rfl, ?_, uhead _, ?_, fun a ha => ?_, fun a ha => (hT' a ha).elim (fu a) (fT a)⟩)
          · exact but_late (b5.trans (b58.trans c1)) (But.at (l := [w1]) (by simp)) fun z hz => by rw [List.mem_singleton.mp hz]; exact fu w1 umem
          · rw [hc, hdp, climb_next, pk]
            refine i7 p0 _ upd_same (by rw [upd_ne nup.symm]; exact upd_same) ((c1.of).trans (But.at (by simp))) (fun q => f0.1 (List.mem_of_mem_take q)) fun q => (hT' _ q).elim f0.1 f0.2
          · rcases List.mem_append.mp ha with q | q
            · exact fu a (List.mem_of_mem_take q)
            · rw [List.mem_singleton.mp q]; exact (b5.trans b58).free hp0
        · obtain ⟨hdp, hfull⟩ := tells_line tells hform (of_decide_eq_false z) ne
          have hpk := hkl (of_decide_eq_false z)
          have full : us.take (k + 1) = us := List.take_of_length_le (by omega)
          have same : closeTo (k + 1) st = st := closeTo_all (by omega)
          rw [full, same] at i8
          refine e_name 5 (v := .str y) ⟨xs, i4, by rw [sizeLine_eq]; omega, ?_⟩
          refine b_nil (b_nil ⟨_, _, _, _, us, T', rfl, ?_, uh, ?_, fu, fun a ha => (hT' a ha).elim (fu a) (fT a)⟩)
          · exact but_late (b5.trans b58) (But.at (l := [w1]) (by simp)) fun z hz => by rw [List.mem_singleton.mp hz]; exact fu w1 umem
          · rw [hc, hdp, climb_line]
            exact i8 y _ upd_same (But.at (by simp))
    · -- an end mark: nothing is done
      have he : kn = "end" := by simpa using e
      obtain ⟨p, hp, hdp, p1, p2⟩ := tells_end tells hform he
      obtain ⟨T', sc, hT'⟩ := (sp5.but b6 (by simp) (by simp)).cut (n := p) p1 (by omega)
      refine b_nil (b_nil ⟨_, _, _, _, us.take p, T', rfl, b5.trans b6, ?_, ?_, fun a ha => fu a (List.mem_of_mem_take ha), fun a ha => (hT' a ha).elim (fu a) (fT a)⟩)
      · obtain ⟨us0, rest, hus⟩ := sp.hd
        rw [hus] at uh ⊢
        cases p with
        | zero => omega
        | succ p => exact uh
      · rw [hc, hdp, climb_end]
        exact sc
  · rintro σ H4 ⟨v4, v5, v6, v7, us, T, rfl, b4, uh, sp, fu, fT⟩
    obtain ⟨u, us', rfl⟩ := sp.hd
    cases uh
    obtain ⟨xs, S, g1, g2, g3, g4⟩ := sp.fold
    have tk : climbs ((toldD R ls).take ls.length) (ls.take ls.length) [[]] = climbs (toldD R ls) ls [[]] := by rw [List.take_length, List.take_of_length_le (by omega)]
    rw [tk] at g2
    refine b_cons (s_ret (e_name 3 (v := .ref u0) (hQ u0 (u0 :: S) H4 b4 (fun b hb => ?_) (.lst g1 g2 g3))))
    rcases List.mem_cons.mp hb with e | hb
    · exact fu b (by simp [e])
    · exact (g4 b hb).elim (fun q => fu b (by simp [q])) (fT b)
end
end K68

set_option Elab.async false
set_option linter.all false
set_option maxRecDepth 100000
set_option maxHeartbeats 4000000
namespace K68
open PySem PySem.Spec PyProof.Rows L2 Z
/-! ### plain: what the tree of a message is -/
theorem fold_closeTo : ∀ {n : Nat} {st : Sts}, 1 ≤ n → n ≤ st.length → fold (closeTo n st) = fold st
  | 0, _, h, _ => by omega
  | 1, a :: r, _, _ => rfl
  | n + 2, [a], _, h => by simp at h
  | n + 2, a :: b :: r, _, h => by
    have hl : (closeTo (n + 1) (b :: r)).length = n + 1 := len_closeTo (by simpa using h)
    have ih := fold_closeTo (n := n + 1) (st := b :: r) (by omega) (by simpa using h)
    show fold (a :: closeTo (n + 1) (b :: r)) = a ++ [.list (fold (b :: r))]
    rw [← ih]
    cases hc : closeTo (n + 1) (b :: r) with
    | nil => rw [hc] at hl; simp at hl
    | cons x y => rfl
theorem putLast_snoc : ∀ {st : Sts} {es : List PyData} {d : PyData}, putLast (st ++ [es]) d = st ++ [es ++ [d]]
  | [], _, _ => rfl
  | [a], es, d => rfl
  | a :: b :: r, es, d => by
    show a :: putLast ((b :: r) ++ [es]) d = _
    rw [putLast_snoc]
    rfl
theorem closeTo_two : ∀ {st : Sts} {es fs : List PyData}, closeTo (st.length + 1) (st ++ [es, fs]) = st ++ [es ++ [.list fs]]
  | [], _, _ => rfl
  | a :: r, es, fs => by
    show a :: closeTo (r.length + 1) (r ++ [es, fs]) = _
    rw [closeTo_two]
    rfl
/-- the roles of a tree's lines, but for the ends -/
def nfl (R : RData) : Nat → List PyData → List PyData
  | 0, ds => ds.map fun _ => lineD
  | n + 1, ds => ds.flatMap fun p => kindD (true, R.ms.length - n) :: nfl R n (items p)
theorem nfl_append {R : RData} : ∀ {n : Nat} {ds es : List PyData}, nfl R n (ds ++ es) = nfl R n ds ++ nfl R n es
  | 0, _, _ => by simp [nfl]
  | n + 1, _, _ => by simp [nfl]
theorem nfl_nil {R : RData} : ∀ {n : Nat}, nfl R n [] = []
  | 0 => rfl
  | n + 1 => rfl
theorem nfl_grow {R : RData} : ∀ {st : Sts} {n : Nat}, 1 ≤ st.length → st.length ≤ n → n ≤ R.ms.length → nfl R n (fold (st ++ [[]])) = nfl R n (fold st) ++ [kindD (true, R.ms.length - n + st.length)]
  | [], _, h, _, _ => by simp at h
  | [ds], 0, _, h, _ => by simp at h
  | [ds], n + 1, _, _, hn => by
    show nfl R (n + 1) (ds ++ [.list []]) = _
    rw [nfl_append]
    show _ ++ ([PyData.list []].flatMap _) = _
    have e : R.ms.length - (n + 1) + 1 = R.ms.length - n := by omega
    simp only [List.flatMap_cons, List.flatMap_nil, List.append_nil, items, nfl_nil, List.length_singleton, e]
    rfl
  | a :: b :: r, 0, _, h, _ => by simp at h
  | a :: b :: r, n + 1, _, h, hn => by
    have ih := nfl_grow (R := R) (st := b :: r) (n := n) (by simp) (by simpa using h) (by omega)
    show nfl R (n + 1) (a ++ [.list (fold ((b :: r) ++ [[]]))]) = nfl R (n + 1) (a ++ [.list (fold (b :: r))]) ++ _
    rw [nfl_append, nfl_append]
    have f : ∀ x, nfl R (n + 1) [.list x] = kindD (true, R.ms.length - n) :: nfl R n x := fun x => by simp [nfl, items]
    rw [f, f, ih]
    have e : R.ms.length - n + (b :: r).length = R.ms.length - (n + 1) + (a :: b :: r).length := by simp only [List.length_cons]; omega
    rw [e]
    simp
theorem nfl_put {R : RData} {x : Str} : ∀ {st : Sts} {n : Nat}, st.length = n + 1 → nfl R n (fold (putLast st (.str x))) = nfl R n (fold st) ++ [lineD]
  | [], _, h => by simp at h
  | [ds], 0, _ => by
    show nfl R 0 (ds ++ [.str x]) = _
    rw [nfl_append]
    rfl
  | [ds], n + 1, h => by simp at h
  | a :: b :: r, 0, h => by simp at h
  | a :: b :: r, n + 1, h => by
    have ih := nfl_put (R := R) (x := x) (st := b :: r) (n := n) (by simpa using h)
    have f : ∀ x, nfl R (n + 1) [.list x] = kindD (true, R.ms.length - n) :: nfl R n x := fun x => by simp [nfl, items]
    have g : fold (putLast (a :: b :: r) (.str x)) = a ++ [.list (fold (putLast (b :: r) (.str x)))] := by
      show fold (a :: putLast (b :: r) (.str x)) = _
      have hl := len_putLast (st := b :: r) (d := .str x)
      cases hc : putLast (b :: r) (.str x) with
      | nil => rw [hc] at hl; simp at hl
      | cons y z => rfl
    rw [g]
    show _ = nfl R (n + 1) (a ++ [.list (fold (b :: r))]) ++ _
    rw [nfl_append, nfl_append, f, f, ih]
    simp
def nonEnd : PyData → Bool
  | .tuple [.str k, .int _] => !decide (k = "end")
  | _ => true
theorem nonEnd_kind (b : Bool) (p : Nat) : nonEnd (kindD (b, p)) = b := by cases b <;> rfl
theorem nfl_climb {R : RData} {s s' : Stand} {st : Sts} {d : PyData} {x : Str} (h : step R s x = some (d, s')) (hf : Fits R s st) : nfl R R.ms.length (fold (climb st d x)) = nfl R R.ms.length (fold st) ++ [d].filter nonEnd := by
  obtain ⟨t, hf'⟩ := step_fit h hf
  obtain ⟨h1, h2, h3, h4, h5⟩ := hf
  cases t with
  | line full =>
    rw [climb_line, nfl_put full]
    rfl
  | role b p p1 p2 =>
    cases b
    · rw [climb_end, fold_closeTo p1 (by omega)]
      have : [kindD (false, p)].filter nonEnd = [] := rfl
      rw [this, List.append_nil]
    · have hl : (closeTo p st).length = p := len_closeTo (by omega)
      have : [kindD (true, p)].filter nonEnd = [kindD (true, p)] := rfl
      rw [climb_next, nfl_grow (by omega) (by omega) (Nat.le_refl _), fold_closeTo p1 (by omega), hl, this, Nat.sub_self, Nat.zero_add]
/-- what holds of a state goes on -/
theorem climbs_all {R : RData} (Pp : Sts → List PyData → Prop) (hp : ∀ {s s' st d x l}, step R s x = some (d, s') → Fits R s st → Pp st l → Pp (climb st d x) (l ++ [d])) :
    ∀ {ls : List Str} {s : Stand} {st : Sts} {l : List PyData}, Fits R s st → Pp st l → Pp (climbs ((goes R s ls).map (·.1)) ls st) (l ++ (goes R s ls).map (·.1))
  | [], _, _, l, _, h => by
    simp only [goes, List.map_nil, List.append_nil]
    exact h
  | x :: ls, s, st, l, hf, h => by
    cases e : step R s x with
    | none =>
      have hg : goes R s (x :: ls) = [] := by rw [goes, e]
      rw [hg]
      simp only [List.map_nil, List.append_nil]
      exact h
    | some q =>
      obtain ⟨d0, s0⟩ := q
      have hg : goes R s (x :: ls) = (d0, s0) :: goes R s0 ls := by rw [goes, e]
      have := climbs_all Pp hp (ls := ls) (step_fit e hf).2 (hp e hf h)
      rw [hg]
      rw [List.append_assoc] at this
      exact this
theorem nfl_tree {R : RData} (hm : 1 ≤ R.ms.length) {ls : List Str} : nfl R R.ms.length (treeD R ls) = (toldD R ls).filter nonEnd := by
  have := climbs_all (R := R) (ls := ls) (fun st l => nfl R R.ms.length (fold st) = l.filter nonEnd) (fun h hf hl => by rw [nfl_climb h hf, hl, List.filter_append]) (s := start1) (st := [[]]) (l := []) (fits0 hm) (by simp [fold, nfl_nil])
  exact this
theorem nfl_rows {R : RData} : ∀ {n : Nat} {d : PyData}, ((rowsOf R n d).map roleD).filter nonEnd = nfl R n (items d)
  | 0, d => by
    show (((items d).map fun x => ((("line" : Str), 0), txtOf x)).map roleD).filter nonEnd = (items d).map fun _ => lineD
    induction items d with
    | nil => rfl
    | cons a l ih =>
      have e : nonEnd (roleD ((("line" : Str), 0), txtOf a)) = true := rfl
      simp only [List.map_cons, List.filter_cons, e, if_true, ih]
      rfl
  | n + 1, d => by
    show (((items d).flatMap (fun p => ((("next" : Str), R.ms.length - n), lineOf R true (R.ms.length - n)) :: rowsOf R n p) ++ [((("end" : Str), R.ms.length - n), lineOf R false (R.ms.length - n))]).map roleD).filter nonEnd = (items d).flatMap fun p => kindD (true, R.ms.length - n) :: nfl R n (items p)
    have e1 : ([((("end" : Str), R.ms.length - n), lineOf R false (R.ms.length - n))].map roleD).filter nonEnd = [] := rfl
    rw [List.map_append, List.filter_append, e1, List.append_nil]
    induction items d with
    | nil => rfl
    | cons a l ih =>
      rw [List.flatMap_cons, List.map_append, List.filter_append, ih, List.flatMap_cons, ← nfl_rows (n := n) (d := a)]
      rfl
/-- a tree, however long -/
def isT (g : Str) : Nat → PyData → Prop
  | 0, d => seqB d = true ∧ ∀ x ∈ items d, okLine g x = true
  | n + 1, d => seqB d = true ∧ ∀ x ∈ items d, isT g n x
theorem isT_app {g : Str} : ∀ {n : Nat} {ds es : List PyData}, isT g n (.list ds) → isT g n (.list es) → isT g n (.list (ds ++ es))
  | 0, ds, es, h1, h2 => ⟨rfl, fun x hx => (List.mem_append.mp hx).elim (h1.2 x) (h2.2 x)⟩
  | n + 1, ds, es, h1, h2 => ⟨rfl, fun x hx => (List.mem_append.mp hx).elim (h1.2 x) (h2.2 x)⟩
theorem isT_nil {g : Str} : ∀ {n : Nat}, isT g n (.list [])
  | 0 => ⟨rfl, fun x hx => by simp [items] at hx⟩
  | n + 1 => ⟨rfl, fun x hx => by simp [items] at hx⟩
theorem isT_left {g : Str} : ∀ {n : Nat} {ds es : List PyData}, isT g n (.list (ds ++ es)) → isT g n (.list ds)
  | 0, ds, es, h => ⟨rfl, fun x hx => h.2 x (List.mem_append_left _ hx)⟩
  | n + 1, ds, es, h => ⟨rfl, fun x hx => h.2 x (List.mem_append_left _ hx)⟩
theorem isT_grow {g : Str} : ∀ {st : Sts} {n : Nat}, 1 ≤ st.length → st.length ≤ n → isT g n (.list (fold st)) → isT g n (.list (fold (st ++ [[]])))
  | [], _, h, _, _ => by simp at h
  | [ds], 0, _, h, _ => by simp at h
  | [ds], n + 1, _, _, h => by
    refine isT_app h ⟨rfl, fun x hx => ?_⟩
    rw [List.mem_singleton.mp hx]
    exact isT_nil
  | a :: b :: r, 0, _, h, _ => by simp at h
  | a :: b :: r, n + 1, _, h, ht => by
    have hd : isT g n (.list (fold (b :: r))) := ht.2 _ (by simp [fold, items])
    have ih := isT_grow (st := b :: r) (n := n) (by simp) (by simpa using h) hd
    show isT g (n + 1) (.list (a ++ [.list (fold ((b :: r) ++ [[]]))]))
    refine isT_app (isT_left (es := [.list (fold (b :: r))]) ht) ⟨rfl, fun x hx => ?_⟩
    rw [List.mem_singleton.mp hx]
    exact ih
theorem isT_put {g x : Str} (hx : okLine g (.str x) = true) : ∀ {st : Sts} {n : Nat}, st.length = n + 1 → isT g n (.list (fold st)) → isT g n (.list (fold (putLast st (.str x))))
  | [], _, h, _ => by simp at h
  | [ds], 0, _, h => isT_app h ⟨rfl, fun y hy => by rw [List.mem_singleton.mp hy]; exact hx⟩
  | [ds], n + 1, h, _ => by simp at h
  | a :: b :: r, 0, h, _ => by simp at h
  | a :: b :: r, n + 1, h, ht => by
    have hd : isT g n (.list (fold (b :: r))) := ht.2 _ (by simp [fold, items])
    have ih := isT_put hx (st := b :: r) (n := n) (by simpa using h) hd
    have e : fold (putLast (a :: b :: r) (.str x)) = a ++ [.list (fold (putLast (b :: r) (.str x)))] := by
      show fold (a :: putLast (b :: r) (.str x)) = _
      have hl := len_putLast (st := b :: r) (d := .str x)
      cases hc : putLast (b :: r) (.str x) with
      | nil => rw [hc] at hl; simp at hl
      | cons y z => rfl
    rw [e]
    refine isT_app (isT_left (es := [.list (fold (b :: r))]) ht) ⟨rfl, fun y hy => ?_⟩
    rw [List.mem_singleton.mp hy]
    exact ih
theorem isT_climb {R : RData} {s s' : Stand} {st : Sts} {d : PyData} {x : Str} (h : step R s x = some (d, s')) (hf : Fits R s st) (hx : okLine R.g (.str x) = true) (ht : isT R.g R.ms.length (.list (fold st))) : isT R.g R.ms.length (.list (fold (climb st d x))) := by
  obtain ⟨t, hf'⟩ := step_fit h hf
  obtain ⟨h1, h2, h3, h4, h5⟩ := hf
  cases t with
  | line full =>
    rw [climb_line]
    exact isT_put hx full ht
  | role b p p1 p2 =>
    cases b
    · rw [climb_end, fold_closeTo p1 (by omega)]
      exact ht
    · have hl : (closeTo p st).length = p := len_closeTo (by omega)
      rw [climb_next]
      refine isT_grow (by omega) (by omega) ?_
      rw [fold_closeTo p1 (by omega)]
      exact ht
theorem isT_tree {R : RData} (hm : 1 ≤ R.ms.length) : ∀ {ls : List Str} {s : Stand} {st : Sts}, (∀ y ∈ ls, okLine R.g (.str y) = true) → Fits R s st → isT R.g R.ms.length (.list (fold st)) → isT R.g R.ms.length (.list (fold (climbs ((goes R s ls).map (·.1)) ls st)))
  | [], _, _, _, _, h => by
    simp only [goes, List.map_nil]
    exact h
  | x :: ls, s, st, hx, hf, h => by
    cases e : step R s x with
    | none =>
      have hg : goes R s (x :: ls) = [] := by rw [goes, e]
      rw [hg]
      exact h
    | some q =>
      obtain ⟨d0, s0⟩ := q
      have hg : goes R s (x :: ls) = (d0, s0) :: goes R s0 ls := by rw [goes, e]
      rw [hg]
      exact isT_tree hm (fun y hy => hx y (List.mem_cons_of_mem _ hy)) (step_fit e hf).2 (isT_climb e hf (hx x (by simp)) h)
theorem sum_map_le {α : Type} {f g : α → Nat} : ∀ {l : List α}, (∀ x ∈ l, f x ≤ g x) → (l.map f).sum ≤ (l.map g).sum
  | [], _ => Nat.le_refl _
  | a :: l, h => by
    simp only [List.map_cons, List.sum_cons]
    exact Nat.add_le_add (h a (by simp)) (sum_map_le fun x hx => h x (by simp [hx]))
theorem sum_two : ∀ (l : List Nat), (l.map (2 * ·)).sum = 2 * l.sum
  | [] => rfl
  | a :: l => by simp only [List.map_cons, List.sum_cons, sum_two l]; omega
theorem rows_two {R : RData} : ∀ {n : Nat} {d : PyData}, (rowsOf R n d).length ≤ 2 * (nfl R n (items d)).length + 1
  | 0, d => by
    show ((items d).map _).length ≤ 2 * ((items d).map _).length + 1
    rw [List.length_map, List.length_map]
    omega
  | n + 1, d => by
    show ((items d).flatMap (fun p => ((("next" : Str), R.ms.length - n), lineOf R true (R.ms.length - n)) :: rowsOf R n p) ++ [_]).length ≤ 2 * ((items d).flatMap fun p => kindD (true, R.ms.length - n) :: nfl R n (items p)).length + 1
    rw [List.length_append, List.length_flatMap, List.length_flatMap, List.length_singleton]
    have h := sum_map_le (l := items d) (f := fun p => (((("next" : Str), R.ms.length - n), lineOf R true (R.ms.length - n)) :: rowsOf R n p).length) (g := fun p => 2 * (kindD (true, R.ms.length - n) :: nfl R n (items p)).length) (fun p _ => by
      have := rows_two (R := R) (n := n) (d := p)
      simp only [List.length_cons]
      omega)
    have h2 := sum_two ((items d).map fun p => (kindD (true, R.ms.length - n) :: nfl R n (items p)).length)
    rw [List.map_map] at h2
    have h3 : ((items d).map ((fun x => 2 * x) ∘ fun p => (kindD (true, R.ms.length - n) :: nfl R n (items p)).length)).sum = ((items d).map fun p => 2 * (kindD (true, R.ms.length - n) :: nfl R n (items p)).length).sum := rfl
    omega
theorem tree_of_isT {R : RData} {g : Str} : ∀ {n : Nat} {d : PyData}, isT g n d → (rowsOf R n d).length ≤ 20000 → isTree g n d = true
  | 0, d, h, hr => by
    have hl : (items d).length ≤ 20000 := by
      have : (rowsOf R 0 d).length = (items d).length := by show ((items d).map _).length = _; rw [List.length_map]
      omega
    simp only [isTree, Bool.and_eq_true, decide_eq_true_eq, List.all_eq_true]
    exact ⟨⟨h.1, hl⟩, h.2⟩
  | n + 1, d, h, hr => by
    have hsub : ∀ x ∈ items d, (rowsOf R n x).length ≤ 20000 := fun x hx => by
      obtain ⟨i, hi⟩ := List.getElem?_of_mem hx
      have := rows_pre (R := R) (n := n) hi
      omega
    have hl : (items d).length ≤ 20000 := by
      have h1 : (rowsOf R (n + 1) d).length = ((items d).flatMap fun p => ((("next" : Str), R.ms.length - n), lineOf R true (R.ms.length - n)) :: rowsOf R n p).length + 1 := by
        show (_ ++ [_]).length = _
        rw [List.length_append, List.length_singleton]
      have h2 : ∀ l : List PyData, l.length ≤ (l.flatMap fun p => ((("next" : Str), R.ms.length - n), lineOf R true (R.ms.length - n)) :: rowsOf R n p).length := by
        intro l
        induction l with
        | nil => simp
        | cons a l ih =>
          rw [List.flatMap_cons, List.length_append, List.length_cons, List.length_cons]
          omega
      have := h2 (items d)
      omega
    simp only [isTree, Bool.and_eq_true, decide_eq_true_eq, List.all_eq_true]
    exact ⟨⟨h.1, hl⟩, fun x hx => tree_of_isT (h.2 x hx) (hsub x hx)⟩
/-- the tree of a message is one, with few rows -/
theorem treeD_ok {R : RData} (hm : 1 ≤ R.ms.length) {ls : List Str} (hx : ∀ y ∈ ls, okLine R.g (.str y) = true) (hl : ls.length ≤ 5000) : isTree R.g R.ms.length (.list (treeD R ls)) = true ∧ (rowsOf R R.ms.length (.list (treeD R ls))).length ≤ 20000 := by
  have h1 : isT R.g R.ms.length (.list (treeD R ls)) := isT_tree hm (s := start1) (st := [[]]) hx (fits0 hm) isT_nil
  have h2 := rows_two (R := R) (n := R.ms.length) (d := .list (treeD R ls))
  have h3 : items (.list (treeD R ls)) = treeD R ls := rfl
  rw [h3, nfl_tree hm] at h2
  have h4 := List.length_filter_le nonEnd (toldD R ls)
  have h5 := goes_len (R := R) (s := start1) (ls := ls)
  have h6 : (toldD R ls).length = (goes R start1 ls).length := by unfold toldD; rw [List.length_map]
  have h7 : (rowsOf R R.ms.length (.list (treeD R ls))).length ≤ 20000 := by omega
  exact ⟨tree_of_isT h1 h7, h7⟩
/-! ### a tree written and read -/
def climbsR (st : Sts) (rs : List Row) : Sts := rs.foldl (fun st x => climb st (roleD x) x.2) st
theorem climbs_zip {st : Sts} : ∀ {rs : List Row}, climbs (rs.map roleD) (rs.map (·.2)) st = climbsR st rs := fun {rs} => by
  unfold climbs climbsR
  induction rs generalizing st with
  | nil => rfl
  | cons a l ih =>
    show List.foldl _ (climb st (roleD a) a.2) ((l.map roleD).zip (l.map (·.2))) = _
    rw [ih]
    rfl
theorem climb_back {R : RData} {g : Str} : ∀ {n : Nat} {d : PyData} {st : Sts} {es : List PyData}, bushOk g n d = true → n ≤ R.ms.length → st.length = R.ms.length - n → climbsR (st ++ [es]) (rowsOf R n d) = st ++ [es ++ items d]
  | 0, d, st, es, hb, _, _ => by
    have hleaf : ∀ x ∈ items d, leafOk g x = true := by simp only [bushOk, Bool.and_eq_true, List.all_eq_true] at hb; exact hb.2
    show climbsR (st ++ [es]) ((items d).map fun x => ((("line" : Str), 0), txtOf x)) = _
    clear hb
    revert hleaf
    generalize items d = xs
    induction xs generalizing es with
    | nil => intro _; show st ++ [es] = _; rw [List.append_nil]
    | cons a l ih =>
      intro hl
      have ha := hl a (by simp)
      obtain ⟨y, rfl⟩ : ∃ y, a = .str y := by cases a <;> simp [leafOk] at ha; exact ⟨_, rfl⟩
      show climbsR (climb (st ++ [es]) lineD y) (l.map fun x => ((("line" : Str), 0), txtOf x)) = _
      rw [climb_line, putLast_snoc, ih _ fun x hx => hl x (by simp [hx])]
      simp
  | n + 1, d, st, es, hb, hn, hst => by
    have hsub : ∀ x ∈ items d, bushOk g n x = true := by simp only [bushOk, Bool.and_eq_true, List.all_eq_true] at hb; exact hb.2
    have lv : R.ms.length - n = st.length + 1 := by omega
    have key : ∀ (ps : List PyData) (es : List PyData) (S : Sts), (∀ x ∈ ps, bushOk g n x = true) → closeTo (st.length + 1) S = st ++ [es] → climbsR S (ps.flatMap (fun p => ((("next" : Str), R.ms.length - n), lineOf R true (R.ms.length - n)) :: rowsOf R n p) ++ [((("end" : Str), R.ms.length - n), lineOf R false (R.ms.length - n))]) = st ++ [es ++ ps] := by
      intro ps
      induction ps with
      | nil =>
        intro es S _ hS
        show climb S (kindD (false, R.ms.length - n)) (lineOf R false (R.ms.length - n)) = _
        rw [climb_end, lv, hS, List.append_nil]
      | cons a l ih =>
        intro es S hs hS
        have ha := hs a (by simp)
        have hlist : PyData.list (items a) = a := by
          have h0 : Z.isList a = true := by cases n <;> simp only [bushOk, Bool.and_eq_true] at ha <;> exact ha.1.1
          cases a <;> simp [Z.isList] at h0
          rfl
        have e1 : climb S (kindD (true, R.ms.length - n)) (lineOf R true (R.ms.length - n)) = (st ++ [es]) ++ [[]] := by rw [climb_next, lv, hS]
        have e2 : climbsR ((st ++ [es]) ++ [[]]) (rowsOf R n a) = (st ++ [es]) ++ [[] ++ items a] := climb_back ha (by omega) (by rw [List.length_append, List.length_singleton]; omega)
        have hsplit : ∀ (A B : List Row) (S : Sts), climbsR S (A ++ B) = climbsR (climbsR S A) B := fun A B S => by unfold climbsR; rw [List.foldl_append]
        rw [List.flatMap_cons, List.cons_append, List.cons_append, List.append_assoc]
        show climbsR (climb S (kindD (true, R.ms.length - n)) (lineOf R true (R.ms.length - n))) _ = _
        rw [e1, hsplit, e2, List.nil_append, ih (es ++ [a]) _ (fun x hx => hs x (by simp [hx])) (by
          rw [List.append_assoc]
          show closeTo (st.length + 1) (st ++ [es, items a]) = _
          rw [closeTo_two, hlist])]
        simp
    exact key (items d) es (st ++ [es]) hsub (closeTo_all (by rw [List.length_append, List.length_singleton]))
theorem tree_back {R : RData} {d : PyData} (hb : bushOk R.g R.ms.length d = true) (h : toldD R (linesOf R d) = rolesD R d) : PyData.list (treeD R (linesOf R d)) = d := by
  have h1 : climbs (toldD R (linesOf R d)) (linesOf R d) [[]] = [items d] := by
    rw [h]
    show climbs ((rowsOf R R.ms.length d).map roleD) ((rowsOf R R.ms.length d).map (·.2)) [[]] = _
    rw [climbs_zip]
    have := climb_back (R := R) (st := []) (es := []) hb (Nat.le_refl _) (by simp)
    exact this
  unfold treeD
  rw [h1]
  show PyData.list (items d) = d
  have h0 : Z.isList d = true := by
    cases hk : R.ms.length <;> rw [hk] at hb <;> simp only [bushOk, Bool.and_eq_true] at hb <;> exact hb.1.1
  cases d <;> simp [Z.isList] at h0
  rfl
end K68

set_option Elab.async false
set_option linter.all false
set_option maxRecDepth 100000
set_option maxHeartbeats 4000000
namespace K68
open PySem PySem.Spec PyProof.Rows L2 Z
/-! ### plain: trees shown and compared -/
theorem okLine_ascii {g : Str} (hg : strSigns g = true) {d : PyData} (h : okLine g d = true) : ∃ x, d = .str x ∧ x.length ≤ 1000 ∧ ∀ c ∈ x.cps.toList, c < 128 := by
  obtain ⟨y, rfl⟩ : ∃ y, d = .str y := by cases d <;> simp [okLine] at h; exact ⟨_, rfl⟩
  simp only [okLine, Bool.and_eq_true, decide_eq_true_eq] at h
  exact ⟨y, rfl, h.2, isLine_ascii hg h.1⟩
theorem seq_cmp {n : Nat} {d : PyData} (hs : seqB d = true) (h : ∀ x ∈ items d, CmpZ n x) : CmpZ (n + 1) d := by
  cases d with
  | list ds => exact CmpZ.list h
  | tuple ds => exact CmpZ.tuple h
  | _ => simp [seqB, Z.isList, Z.isTuple] at hs
theorem isT_cmp {g : Str} (hg : strSigns g = true) : ∀ {n : Nat} {d : PyData}, isT g n d → CmpZ (n + 1) d
  | 0, d, h => seq_cmp h.1 fun x hx => by
    obtain ⟨y, rfl, _, hy⟩ := okLine_ascii hg (h.2 x hx)
    exact CmpZ.str hy
  | n + 1, d, h => seq_cmp h.1 fun x hx => isT_cmp hg (h.2 x hx)
theorem isT_shw {R : RData} (hg : strSigns R.g = true) : ∀ {n : Nat} {ds : List PyData}, isT R.g n (.list ds) → (∀ x ∈ ds, n ≠ 0 → Z.isList x = true) → (∀ x ∈ ds, x.showable = true ∧ x.leavesShort 40 = true ∧ x.depth ≤ n) → ShwZ (n + 1) (PyData.weightAll ds) (.list ds)
  | n, ds, h, _, hx => by
    have e1 := showAllZ fun d hd => (hx d hd).1
    have e2 := leavesAllZ fun d hd => (hx d hd).2.1
    have e3 := depthAllZ fun d hd => (hx d hd).2.2
    exact ⟨by simp only [PyData.showable, e1], by simp only [PyData.leavesShort, e2], by simp only [PyData.depth]; omega, by simp only [PyData.weight]; omega⟩
theorem weight_items {d : PyData} (h : seqB d = true) : d.weight ≤ PyData.weightAll (items d) + 1 := by
  cases d with
  | list ds => simp only [PyData.weight, items]; omega
  | tuple ds => simp only [PyData.weight, items]; omega
  | _ => simp [seqB, Z.isList, Z.isTuple] at h
theorem shw_items {n : Nat} {d : PyData} (h : seqB d = true) (hx : ∀ x ∈ items d, x.showable = true ∧ x.leavesShort 40 = true ∧ x.depth ≤ n) : d.showable = true ∧ d.leavesShort 40 = true ∧ d.depth ≤ n + 1 := by
  have e1 := showAllZ fun d hd => (hx d hd).1
  have e2 := leavesAllZ fun d hd => (hx d hd).2.1
  have e3 := depthAllZ fun d hd => (hx d hd).2.2
  cases d with
  | list ds => exact ⟨by simp only [PyData.showable]; exact e1, by simp only [PyData.leavesShort]; exact e2, by simp only [PyData.depth]; simp only [items] at e3; omega⟩
  | tuple ds => exact ⟨by simp only [PyData.showable]; exact e1, by simp only [PyData.leavesShort]; exact e2, by simp only [PyData.depth]; simp only [items] at e3; omega⟩
  | _ => simp [seqB, Z.isList, Z.isTuple] at h
theorem isT_show {g : Str} (hg : strSigns g = true) : ∀ {n : Nat} {d : PyData}, isT g n d → d.showable = true ∧ d.leavesShort 40 = true ∧ d.depth ≤ n + 1
  | 0, d, h => shw_items h.1 fun x hx => by
    obtain ⟨y, rfl, _, hy⟩ := okLine_ascii hg (h.2 x hx)
    refine ⟨by simp only [PyData.showable], ?_, by simp only [PyData.depth]; omega⟩
    simp only [PyData.leavesShort, List.all_eq_true, decide_eq_true_eq]
    intro c hc
    have := hy c hc
    omega
  | n + 1, d, h => shw_items h.1 fun x hx => isT_show hg (h.2 x hx)
theorem weightAll_sum {f : PyData → Nat} : ∀ {ds : List PyData}, (∀ d ∈ ds, d.weight + 1 ≤ f d) → PyData.weightAll ds ≤ (ds.map f).sum
  | [], _ => by simp [PyData.weightAll]
  | d :: ds, h => by
    have h2 := weightAll_sum (ds := ds) fun x hx => h x (List.mem_cons_of_mem _ hx)
    have h1 := h d (by simp)
    simp only [PyData.weightAll, List.map_cons, List.sum_cons]
    omega
theorem sum_mul (c : Nat) : ∀ (l : List Nat), (l.map (c * ·)).sum = c * l.sum
  | [] => by simp
  | a :: l => by simp only [List.map_cons, List.sum_cons, sum_mul c l, Nat.mul_add]
theorem isT_weight {R : RData} (hg : strSigns R.g = true) : ∀ {n : Nat} {d : PyData}, isT R.g n d → PyData.weightAll (items d) ≤ 1003 * (nfl R n (items d)).length
  | 0, d, h => by
    have := weightAll_sum (ds := items d) (f := fun _ => 1003) fun x hx => by
      obtain ⟨y, rfl, hy, _⟩ := okLine_ascii hg (h.2 x hx)
      simp only [PyData.weight]
      have : y.cps.size = y.length := rfl
      omega
    have e : (nfl R 0 (items d)).length = (items d).length := by show ((items d).map _).length = _; rw [List.length_map]
    rw [List.map_const', List.sum_replicate_nat] at this
    rw [e]
    omega
  | n + 1, d, h => by
    have h1 := weightAll_sum (ds := items d) (f := fun p => 1003 * (kindD (true, R.ms.length - n) :: nfl R n (items p)).length) fun x hx => by
      have hx2 := h.2 x hx
      have h3 := isT_weight (R := R) hg hx2
      have h4 : x.weight ≤ PyData.weightAll (items x) + 1 := weight_items (by cases n <;> exact hx2.1)
      simp only [List.length_cons]
      omega
    have h2 := sum_mul 1003 ((items d).map fun p => (kindD (true, R.ms.length - n) :: nfl R n (items p)).length)
    rw [List.map_map] at h2
    have h3 : ((items d).map ((fun x => 1003 * x) ∘ fun p => (kindD (true, R.ms.length - n) :: nfl R n (items p)).length)).sum = ((items d).map fun p => 1003 * (kindD (true, R.ms.length - n) :: nfl R n (items p)).length).sum := rfl
    show _ ≤ 1003 * ((items d).flatMap fun p => kindD (true, R.ms.length - n) :: nfl R n (items p)).length
    rw [List.length_flatMap]
    omega
theorem isT_rp {R : RData} (ok : R.Ok) {d : PyData} (h : isT R.g R.ms.length d) (hl : (nfl R R.ms.length (items d)).length ≤ 290) : rp d = true := by
  have m3 := ok.ms.2.1
  obtain ⟨e1, e2, e3⟩ := isT_show ok.g h
  have h1 := isT_weight ok.g h
  have h2 : d.weight ≤ PyData.weightAll (items d) + 1 := weight_items (by cases hk : R.ms.length <;> rw [hk] at h <;> exact h.1)
  rw [Z.rp, e1, e2, decide_eq_true (show d.depth ≤ 64 by omega), decide_eq_true (show d.weight ≤ 300000 by omega)]
  rfl
theorem treeD_isT {R : RData} (hm : 1 ≤ R.ms.length) {ls : List Str} (hx : ∀ y ∈ ls, okLine R.g (.str y) = true) : isT R.g R.ms.length (.list (treeD R ls)) := isT_tree hm (s := start1) (st := [[]]) hx (fits0 hm) isT_nil
theorem told_few {R : RData} {ls : List Str} : (toldD R ls).length ≤ ls.length := by
  unfold toldD
  rw [List.length_map]
  exact goes_len
theorem treeD_rp {R : RData} (ok : R.Ok) {ls : List Str} (hx : ∀ y ∈ ls, okLine R.g (.str y) = true) (hl : ls.length ≤ 290) : rp (.list (treeD R ls)) = true := by
  refine isT_rp ok (treeD_isT ok.ms.1 hx) ?_
  show (nfl R R.ms.length (treeD R ls)).length ≤ 290
  rw [nfl_tree ok.ms.1]
  have h4 := List.length_filter_le nonEnd (toldD R ls)
  have := told_few (R := R) (ls := ls)
  omega
theorem treeD_cmp {R : RData} (ok : R.Ok) {ls : List Str} (hx : ∀ y ∈ ls, okLine R.g (.str y) = true) : CmpZ 4 (.list (treeD R ls)) := (isT_cmp ok.g (treeD_isT ok.ms.1 hx)).mono (by have := ok.ms.2.1; omega)
theorem kind_cmp (q : Bool × Nat) : CmpZ 1 (kindD q) := CmpZ.tuple fun x hx => by
  simp only [List.mem_cons, List.not_mem_nil, or_false] at hx
  rcases hx with rfl | rfl
  · obtain ⟨b, n⟩ := q
    cases b
    · exact CmpZ.str (x := "end") (by decide)
    · exact CmpZ.str (x := "next") (by decide)
  · exact CmpZ.int
theorem line_cmp : CmpZ 1 lineD := CmpZ.tuple fun x hx => by
  simp only [List.mem_cons, List.not_mem_nil, or_false] at hx
  rcases hx with rfl | rfl
  · exact CmpZ.str (by decide)
  · exact CmpZ.int
theorem told_mem {R : RData} (hm : 1 ≤ R.ms.length) {ls : List Str} {d : PyData} (h : d ∈ toldD R ls) : d = lineD ∨ ∃ q, d = kindD q := by
  obtain ⟨i, hi⟩ := List.getElem?_of_mem h
  cases told_tells hm hi with
  | line _ => exact .inl rfl
  | role b p _ _ => exact .inr ⟨_, rfl⟩
theorem told_cmp {R : RData} (hm : 1 ≤ R.ms.length) {ls : List Str} : CmpZ 2 (.list (toldD R ls)) := CmpZ.list fun x hx => by
  rcases told_mem hm hx with rfl | ⟨q, rfl⟩
  · exact line_cmp
  · exact kind_cmp q
theorem roleD_cmp {R : RData} : ∀ {n : Nat} {d : PyData}, ∀ x ∈ rowsOf R n d, CmpZ 1 (roleD x)
  | 0, d, x, hx => by
    obtain ⟨y, hy, rfl⟩ := List.mem_map.mp hx
    exact line_cmp
  | n + 1, d, x, hx => by
    simp only [rowsOf, List.mem_append, List.mem_flatMap, List.mem_cons, List.not_mem_nil, or_false] at hx
    rcases hx with ⟨y, hy, rfl | hx⟩ | rfl
    · exact kind_cmp (true, _)
    · exact roleD_cmp x hx
    · exact kind_cmp (false, _)
theorem roles_cmp {R : RData} {d : PyData} : CmpZ 2 (.list (rolesD R d)) := CmpZ.list fun x hx => by
  obtain ⟨y, hy, rfl⟩ := List.mem_map.mp hx
  exact roleD_cmp y hy
/-- the roles of the tree read, but for ends -/
theorem roles_tree {R : RData} (hm : 1 ≤ R.ms.length) {ls : List Str} : (rolesD R (.list (treeD R ls))).filter nonEnd = (toldD R ls).filter nonEnd := by
  rw [rolesD, nfl_rows]
  exact nfl_tree hm
end K68

set_option Elab.async false
set_option linter.all false
set_option maxRecDepth 100000
set_option maxHeartbeats 4000000
namespace K68
open PySem PySem.Spec PyProof.Rows L2 Z LamX
/-! ### rules, drawn and gone by -/
structure Rule where
  k : Str
  old : Str
  new : Str
def ruleD (r : Rule) : PyData := .tuple [.str r.k, .str r.old, .str r.new]
structure RuleOk (g : Str) (r : Rule) : Prop where
  o : isLine g (.str r.old) = true
  ol : r.old.length ≤ 2
  n : isLine g (.str r.new) = true
  nl : r.new.length ≤ 3
theorem line_cut {g x : Str} {y : Str} (h : isLine g (.str x) = true) (hy : ∀ c ∈ y.cps.toList, c ∈ x.cps.toList) : isLine g (.str y) = true := by
  simp only [isLine, List.all_eq_true, decide_eq_true_eq] at h ⊢
  exact fun c hc => h c (hy c hc)
section
variable {P : Program} {w : World} {K : PySem.W.Frag} {mg : Str → Option Value} {base : Heap} {CR : Addr}
def spRules : Sp := fun vs H Q _ => ∃ (p : Addr) (g : Str), vs = [.ref p, .str g] ∧ Pot H p ∧ strSigns g = true ∧ ∀ q (rs : List Rule) H', (∀ r ∈ rs, RuleOk g r) → DD [] [p] H' (.ref q) (.list (rs.map ruleD)) → But [p] H H' → Pot H' p → Q (.ref q) H'
theorem scRu : FnScope ["pot", "signs", "found", "turn", "kind"] ["pot", "signs"] (defScope (top 130)) := ⟨rfl, rfl, rfl, by decide +kernel, rfl, by decide +kernel, by decide +kernel⟩
theorem d_rules (B : Blt mg base) (D : At K mg "_law_rules" (top 130)) (D0 : Def P w K mg base 1 "_law_draw" (top 115) ["pot", "many"] spDraw) (D1 : Def P w K mg base 2 "_law_pick" (top 116) ["pot", "things"] (spPick K))
    (D2 : Def P w K mg base 3 "_law_line" (top 117) ["pot", "signs", "most"] spTxt) : Def P w K mg base 4 "_law_rules" (top 130) ["pot", "signs"] spRules := by
  refine def_of D B scRu (fun vs H Q E ⟨_, _, e, _⟩ => by rw [e]; rfl) fun f cdv A outer s H vs Q E hm C h => ?_
  obtain ⟨p, g, rfl, hp, gs, hQ⟩ := h
  have sz : ∀ n, n ≤ 16777216 → n ≤ sizeLine := fun n hn => by rw [sizeLine_eq]; exact hn
  refine b_cons (s_set (i := 2) (e_lst (a_nil ⟨sz 0 (by decide), fun ml hml => ?_⟩)) C.nd)
  have bml : But [] H (upd H ml (.lst [])) := But.new hml
  have nmp : ml ≠ p := hp.there hml
  refine b_cons (s_for C (i_range1 B (e_call (C.mono (by decide)) D0 (a_cons (e_name 0 (a_cons (e_int (a_nil ?_))))) rfl (fun _ _ _ _ _ _ us hl => match us, hl with | [_, _], _ => rfl))))
  refine ⟨p, 4, rfl, hp.new bml, by decide, by decide, fun r H3 r0 r1 b3 hp3 => ?_⟩
  obtain ⟨n, rfl⟩ := Int.eq_ofNat_of_zero_le r0
  have npl : ml ∉ [p] := by simpa using nmp
  have hml3 : H3 ml = some (.lst []) := b3 _ _ npl upd_same
  have b23 : But [p] H H3 := bml.of.trans b3
  refine ⟨n, rfl, by omega, by omega, n, _, _, walk_range, fun i σ H' => (∃ v3 v4, σ = [some (.ref p), some (.str g), some (.ref ml), v3, v4]) ∧ But [p] H H' ∧ Pot H' p ∧ ∃ (ws : List V) (rs : List Rule), H' ml = some (.lst ws) ∧ rs.length = i ∧ (∀ r ∈ rs, RuleOk g r) ∧ DDs [] [ml, p] H' ws (rs.map ruleD),
    ⟨⟨none, none, rfl⟩, b23, hp3, [], [], hml3, rfl, fun x hx => by simp at hx, .nil⟩, fun _ _ _ _ _ => trivial, ?_, ?_⟩
  · rintro i x σ H4 H' hi ⟨⟨v3, v4, rfl⟩, b4, hp4, ws, rs, hml4, hlen, hrs, hdd⟩ ⟨rfl, rfl⟩
    have hwl : ws.length = i := by rw [hdd.length, List.length_map]; exact hlen
    refine g_name (i := 3) ?_ C.nd
    refine b_cons (s_set (i := 4) (e_call (C.mono (by decide)) D1 (a_cons (e_name 0 (a_cons (e_lits (K := []) (l := [p]) (ds := (["front", "front", "whole"] : List Str).map .str) hp4.here (lits_cons lit_str (lits_cons lit_str (lits_cons lit_str lits_nil))) (fun q vs H5 b5 hq hqp hd => a_nil ?_))))) rfl (fun _ _ _ _ _ _ us hl => match us, hl with | [_, _], _ => rfl)) C.nd)
    refine ⟨p, hp4.new b5, .inl ⟨q, vs, rfl, by simpa using hqp, .inl (.inl hq), by rw [hd.length]; decide, by rw [hd.length]; decide, fun kv hkv H6 b6 hp6 => ?_⟩⟩
    obtain ⟨dk, hdk, dK⟩ := DDs.mem (hd.but b6) hkv
    obtain ⟨kd, hkd, rfl⟩ := List.mem_map.mp hdk
    cases dK
    clear hd hq hqp hkv hdk
    have hml6 := b6 _ _ npl (b5 _ _ (by simp) hml4)
    refine b_cons (s_expr (e_append (e_name 2 (v := .ref ml) ⟨ml, rfl, ⟨_, hml6⟩, e_tup (a_cons (e_name 4 (v := .str kd) (a_cons (e_call C D2 (a_cons (e_name 0 (v := .ref p) (a_cons (e_name 1 (v := .str g) (a_cons (e_int (a_nil ?_))))))) rfl (fun _ _ _ _ _ _ us hl => match us, hl with | [_, _, _], _ => rfl)))))⟩)))
    refine ⟨p, g, 2, rfl, hp6, gs, by decide, fun y1 H7 hy1 l1 b7 hp7 => ?_⟩
    refine a_cons (e_call C D2 (a_cons (e_name 0 (v := .ref p) (a_cons (e_name 1 (v := .str g) (a_cons (e_int (a_nil ?_))))))) rfl (fun _ _ _ _ _ _ us hl => match us, hl with | [_, _, _], _ => rfl))
    refine ⟨p, g, 3, rfl, hp7, gs, by decide, fun y2 H8 hy2 l2 b8 hp8 => a_nil ⟨sz 3 (by decide), fun t ht => ?_⟩⟩
    have b48 : But [p] H' H8 := b5.of.trans (b6.trans (b7.trans b8))
    have hml8 := b48 _ _ npl hml4
    have bt := But.new (l := []) (o := .tup [.str kd, .str y1, .str y2]) ht
    have ntm : t ≠ ml := (ne_of_none hml8 ht).symm
    have ntp : t ≠ p := hp8.there ht
    refine ⟨ws, bt _ _ (by simp) hml8, sz _ (by omega), b_nil ⟨⟨_, _, rfl⟩, ?_, ?_, ws ++ [.ref t], rs ++ [⟨kd, y1, y2⟩], upd_same, by simp [hlen], ?_, ?_⟩⟩
    · intro q o nq e
      rw [upd_ne (ne_of_none e hml)]
      exact bt _ _ (by simp) (b48 _ _ nq (b4 _ _ nq e))
    · exact pot_upd (hp8.new bt) nmp
    · intro x hx
      rcases List.mem_append.mp hx with hx | hx
      · exact hrs x hx
      · rw [List.mem_singleton.mp hx]
        exact ⟨hy1, l1, hy2, l2⟩
    · rw [List.map_append]
      refine DDs.append (dds_mono (dds_mono hdd (b48.trans bt.of) (fun q hq => by rw [List.mem_singleton.mp hq]; simp)) (But.at (l := [ml]) (by simp)) (fun q hq => by rw [List.mem_singleton.mp hq]; simp)) (.cons (.tup (.inl (.inl ?_)) (by simp [ntm, ntp]) (.cons (.str _) (.cons (.str _) (.cons (.str _) .nil)))) .nil)
      rw [upd_ne ntm]
      exact upd_same
  · rintro σ H4 ⟨⟨v3, v4, rfl⟩, b4, hp4, ws, rs, hml4, hlen, hrs, hdd⟩
    refine b_cons (s_ret (e_name 2 (v := .ref ml) ?_))
    exact hQ ml rs H4 hrs (.lst (.inl (.inl hml4)) npl (hdd.less fun q hq => List.mem_cons_of_mem _ hq)) b4 hp4
def spTurn : Sp := fun vs H Q _ => ∃ (q : Addr) (x g : Str) (l : List Addr) (rs : List Rule), vs = [.ref q, .str x] ∧ DD [] l H (.ref q) (.list (rs.map ruleD)) ∧ (∀ r ∈ rs, RuleOk g r) ∧ isLine g (.str x) = true ∧ x.length ≤ 500 ∧ ∀ z H', isLine g (.str z) = true → z.length ≤ x.length + 3 → But [] H H' → Q (.str z) H'
theorem scTn : FnScope ["rules", "line", "kind", "old", "new"] ["rules", "line"] (defScope (top 131)) := ⟨rfl, rfl, rfl, by decide +kernel, rfl, by decide +kernel, by decide +kernel⟩
theorem d_turn (B : Blt mg base) (D : At K mg "_law_turn" (top 131)) : Def P w K mg base 1 "_law_turn" (top 131) ["rules", "line"] spTurn := by
  refine def_of D B scTn (fun vs H Q E ⟨_, _, _, _, _, e, _⟩ => by rw [e]; rfl) fun f cdv A outer s H vs Q E hm C h => ?_
  obtain ⟨q, x, g, l, rs, rfl, hd, hrs, hx, hxl, hQ⟩ := h
  have zx : x.length ≤ sizeLine := by rw [sizeLine_eq]; omega
  cases hd with
  | @lst _ xs _ h1 n h2 =>
  have sq : ∀ {H'}, But [] H H' → SqL K H' q xs := fun b => b.sql (by simp) (sql_all h1)
  refine b_cons (s_for C (i_list (e_name 0 (v := .ref q) ⟨q, rfl, ⟨xs, sq But.refl⟩, _, _, _, walk_list (xs := xs), fun i σ H' => (∃ v2 v3 v4, σ = [some (.ref q), some (.str x), v2, v3, v4]) ∧ But [] H H', ⟨⟨none, none, none, rfl⟩, But.refl⟩, fun i σ H' _ h => sq h.2, ?_, ?_⟩)))
  · rintro i v σ H3 H' hi ⟨⟨v2, v3, v4, rfl⟩, b3⟩ ⟨rfl, hv⟩
    obtain ⟨dx, hdx, hD⟩ := (h2.but b3.of).get hv
    obtain ⟨r, hr, rfl⟩ := List.mem_map.mp (List.mem_of_getElem? hdx)
    have ro := hrs r hr
    cases hD with
    | tup ht nt hu =>
    cases hu with
    | cons u1 hu =>
    cases hu with
    | cons u2 hu =>
    cases hu with
    | cons u3 hu =>
    cases hu
    cases u1
    cases u2
    cases u3
    have zo : r.old.length ≤ sizeLine := by have := ro.ol; rw [sizeLine_eq]; omega
    refine g_tup (gs_cons (g_name (i := 2) (gs_cons (g_name (i := 3) (gs_cons (g_name (i := 4) (gs_nil ?_) C.nd)) C.nd)) C.nd)) rfl (sqt_all ht)
    have es : ∀ a b : Str, decide (V.str a = V.str b) = decide (a = b) := fun a b => by rw [decide_eq_decide, V.str.injEq]
    refine b_cons (s_ifB (decide (r.k = "whole") && decide (x = r.old)) ?_ (fun e H4 b4 => ?_) (fun e H4 b4 => b_nil ?_))
    · refine t_boolop (w_and (t_cmp (e_name 2 (v := .str r.k) (e_str (c_eq rfl ⟨_, rfl, ?_⟩)))))
      rw [es]
      refine ite_b (fun e6 => ?_) fun e6 => ?_
      · rw [e6, Bool.true_and]
        exact w_and1 (t_cmp (e_name 1 (v := .str x) (e_name 3 (v := .str r.old) (c_eq rfl ⟨_, rfl, es _ _, But.refl⟩))))
      · rw [e6, Bool.false_and]
        exact ⟨rfl, But.refl⟩
    · refine b_cons (s_ret (e_name 4 (v := .str r.new) (hQ _ H4 ro.n (by have := ro.nl; omega) (b3.trans b4))))
    refine b_cons (s_ifB (decide (r.k = "front") && decide (x.cps.toList.take r.old.length = r.old.cps.toList)) ?_ (fun e H5 b5 => ?_) (fun e H5 b5 => b_nil (b_nil ?_)))
    · refine t_boolop (w_and (t_cmp (e_name 2 (v := .str r.k) (e_str (c_eq rfl ⟨_, rfl, ?_⟩)))))
      rw [es]
      refine ite_b (fun e6 => ?_) fun e6 => ?_
      · rw [e6, Bool.true_and]
        refine w_and1 (t_cmp (e_slice sl_str (e_name 1 (v := .str x) (p_none (p_some (e_len B (e_name 3 (v := .str r.old) ⟨r.old.length, ⟨zo, rfl⟩, r.old.length, rfl, x, rfl, zx, e_name 3 (v := .str r.old) (c_eq rfl ⟨_, rfl, ?_, But.refl⟩)⟩)))))))
        rw [decide_eq_decide, V.str.injEq, ← cut_to x r.old.length]
        exact ⟨fun h => by rw [h], fun h => str_ext h⟩
      · rw [e6, Bool.false_and]
        exact ⟨rfl, But.refl⟩
    · refine b_cons (s_ret (e_bin (e_name 4 (v := .str r.new) (e_slice sl_str (e_name 1 (v := .str x) (p_some (e_len B (e_name 3 (v := .str r.old) ⟨r.old.length, ⟨zo, rfl⟩, r.old.length, rfl, p_none ⟨x, rfl, zx, ?_⟩⟩))))))))
      have hcut := cut_from x r.old.length
      have hl : (cutS x (some (r.old.length : Int)) none).length ≤ x.length := by
        rw [← lenL, hcut, List.length_drop, lenL]
        omega
      exact o_adds (by have := ro.nl; rw [sizeLine_eq]; omega) (hQ _ H5 (app_line ro.n (line_cut hx fun c hc => by rw [hcut] at hc; exact List.mem_of_mem_drop hc)) (by rw [app_len]; have := ro.nl; omega) (b3.trans (b4.trans b5)))
    · exact ⟨⟨_, _, _, rfl⟩, b3.trans (b4.trans b5)⟩
  · rintro σ H3 ⟨⟨v2, v3, v4, rfl⟩, b3⟩
    exact b_cons (s_ret (e_name 1 (v := .str x) (hQ _ H3 hx (by omega) b3)))
end
end K68

set_option Elab.async false
set_option linter.all false
set_option maxRecDepth 100000
set_option maxHeartbeats 4000000
namespace K68
open PySem PySem.Spec PyProof.Rows L2 Z LamX
/-! ### a wide bush -/
theorem mul_line {g : Str} {c : Nat} (h : c ∈ g.cps.toList) (n : Int) : isLine g (.str (Txt.mul ⟨#[c]⟩ n)) = true := by
  have h2 := mul_one_list c n
  simp only [isLine, List.all_eq_true, decide_eq_true_eq]
  intro d hd
  rw [h2] at hd
  rw [(List.mem_replicate.mp hd).2]
  exact h
theorem mul_len (c : Nat) (n : Int) : (Txt.mul ⟨#[c]⟩ n).length = n.toNat := by
  rw [← lenL, mul_one_list, List.length_replicate]
theorem nil_line {g : Str} : isLine g (.str "") = true := by rfl
section
variable {P : Program} {w : World} {K : PySem.W.Frag} {mg : Str → Option Value} {base : Heap} {CR : Addr}
def spWb (n : Nat) : Sp := fun vs H Q _ => ∃ (p m : Addr) (R : RData), vs = [.ref p, .ref m, .int n] ∧ Pot H p ∧ IsModel R H m ∧ R.Ok ∧
  ∀ q d H', bushOk R.g n d = true → (∀ l, Here l H → p ∈ l → DD [] l H' (.ref q) d) → But [p] H H' → Pot H' p → Q (.ref q) H'
theorem scWb : FnScope ["pot", "model", "depth", "turn"] ["pot", "model", "depth"] (defScope (top 133)) := ⟨rfl, rfl, rfl, by decide +kernel, rfl, by decide +kernel, by decide +kernel⟩
theorem d_wb (B : Blt mg base) (D : At K mg "_law_wide_bush" (top 133)) (D0 : Def P w K mg base 1 "_law_draw" (top 115) ["pot", "many"] spDraw) (D2 : Def P w K mg base 2 "_law_pick" (top 116) ["pot", "things"] (spPick K))
    (D1 : Def P w K mg base 4 "_law_near_line" (top 125) ["pot", "model"] spNear) :
    ∀ n, Def P w K mg base (n + 5) "_law_wide_bush" (top 133) ["pot", "model", "depth"] (spWb n)
  | 0 => by
    refine def_of D B scWb (fun vs H Q E ⟨_, _, _, e, _⟩ => by rw [e]; rfl) fun f cdv A outer s H vs Q E hm C h => ?_
    obtain ⟨p, m, R, rfl, hp, hM, ok, hQ⟩ := h
    have sm := small_of ok
    have sz : ∀ n, n ≤ 16777216 → n ≤ sizeLine := fun n hn => by rw [sizeLine_eq]; exact hn
    refine b_cons (s_ifB true ?_ (fun _ H1 b1 => ?_) (fun e => by cases e))
    · exact t_cmp (e_name 2 (v := .int ((0 : Nat) : Int)) (e_int (c_eq rfl ⟨true, rfl, rfl, But.refl⟩)))
    refine b_cons (s_ret (e_lc [("turn", 3)] C (i_range1 B (e_call (C.mono (by decide)) D0 (a_cons (e_name 0 (v := .ref p) (a_cons (e_int (a_nil ?_))))) rfl (fun _ _ _ _ _ _ us hl => match us, hl with | [_, _], _ => rfl)))))
    refine ⟨p, 8, rfl, hp.new b1, by omega, by omega, fun r H2 r0 r1 b2 hp2 => ?_⟩
    obtain ⟨k, rfl⟩ := Int.eq_ofNat_of_zero_le r0
    refine ⟨k, rfl, by omega, by omega, k, _, _, walk_range, fun Dl hDl => ?_⟩
    have b02 : But [p] H H2 := b1.of.trans b2
    have nDp : Dl ≠ p := hp2.there hDl
    refine ⟨fun i H' => But [p] H2 H' ∧ Pot H' p ∧ ∃ ys : List Str, ys.length = i ∧ (∀ y ∈ ys, leafOk R.g (.str y) = true) ∧ H' Dl = some (.lst (ys.map V.str)), ⟨But.new hDl, hp2.new (But.new hDl), [], rfl, fun c hc => by simp at hc, upd_same⟩, fun _ _ _ _ => trivial, ?_, ?_⟩
    · rintro i x H5 H' hi ⟨b5, hp5, ys, hy, hyg, hD5⟩ ⟨rfl, rfl⟩
      refine lc_plain (i := 3) C.nd fun s H0 Ca cl fp => ?_
      refine e_bin (e_call (C.blk _ _ _ _ _) D1 (a_cons (e_name 0 (v := .ref p) (a_cons (e_name 1 (v := .ref m) (a_nil ?_))))) rfl (fun _ _ _ _ _ _ us hl => match us, hl with | [_, _], _ => rfl))
      refine ⟨p, m, R, rfl, hp5, hM.pot ok hp (b02.trans b5), ok, sm, fun y H6 hyl hy8 b6 hp6 => ?_⟩
      have hM6 := hM.pot ok hp (b02.trans (b5.trans b6))
      obtain ⟨ml, h1, h2⟩ := hM6.ex
      have gl := strSigns_len ok.g
      have hgl : 0 < R.g.cps.toList.length := by rw [lenL]; omega
      refine e_call ((C.mono (by decide)).blk _ _ _ _ _) D2 (a_cons (e_name 0 (v := .ref p) (a_cons (e_lst (a_cons (e_str (a_cons (e_str (a_cons (e_bin (e_ix (e_dget (C.blk _ _ _ _ _) (e_name 1 (v := .ref m) (e_str ⟨rfl, DGet.k (k := .inr "signs") h1, e_int (ix_s (sz _ (by omega)) (atI_nat (j := 0) (List.getElem?_eq_getElem hgl)) (e_int (o_mulS (by show 1 ≤ 16; decide) (by decide) (by decide) (a_nil ⟨sz 3 (by decide), fun q hq => a_nil ?_⟩)))) ⟩)))))))))))))) rfl (fun _ _ _ _ _ _ us hl => match us, hl with | [_, _], _ => rfl)
      have hpq : q ≠ p := hp6.there hq
      refine ⟨p, hp6.new (But.new hq), .inl ⟨q, _, rfl, hpq, .inl (.inl upd_same), by simp, by simp, fun v hv H7 b7 hp7 => ?_⟩⟩
      have hv2 : ∃ z : Str, v = .str z ∧ isLine R.g (.str z) = true ∧ z.length ≤ 36 := by
        simp only [List.mem_cons, List.not_mem_nil, or_false] at hv
        rcases hv with rfl | rfl | rfl
        · exact ⟨_, rfl, nil_line, by decide⟩
        · exact ⟨_, rfl, nil_line, by decide⟩
        · exact ⟨_, rfl, mul_line (List.getElem_mem hgl) _, by rw [mul_len]; decide⟩
      obtain ⟨z, rfl, hz, hz36⟩ := hv2
      have bq := But.new (l := []) (o := .lst [V.str "", V.str "", V.str (Txt.mul ⟨#[R.g.cps.toList[0]]⟩ 36)]) hq
      have b67 : But [p] H' H7 := b6.trans (bq.of.trans b7)
      refine o_adds (sz _ (by omega)) ?_
      refine ⟨_, b67 _ _ (by simpa using nDp) hD5, by rw [sizeLine_eq, List.length_map]; omega, fun q o nq e => ?_, pot_upd hp7 nDp, ys ++ [y ++ z], by simp [hy], ?_, ?_⟩
      · rw [upd_ne (ne_of_none e hDl)]
        exact b67 _ _ nq (b5 _ _ nq e)
      · intro z' hz'
        rcases List.mem_append.mp hz' with h | h
        · exact hyg z' h
        · rw [List.mem_singleton.mp h]
          simp only [leafOk, Bool.and_eq_true, decide_eq_true_eq]
          exact ⟨app_line hyl hz, by rw [app_len]; omega⟩
      · rw [upd_same]; simp
    · rintro H5 ⟨b5, hp5, ys, hy, hyg, hD5⟩
      refine hQ Dl (.list (ys.map .str)) H5 ?_ (fun l hl hpl => .lst (.inl (.inl hD5)) ((here_pot hl b02 hp2).new But.refl hDl) (DDs.strs _)) (b02.trans b5) hp5
      simp only [bushOk, Z.isList, items, List.length_map, Bool.true_and, Bool.and_eq_true, decide_eq_true_eq, List.all_eq_true]
      exact ⟨by omega, fun x hx => by obtain ⟨y, hy, rfl⟩ := List.mem_map.mp hx; exact hyg y hy⟩
  | n + 1 => by
    have IH := d_wb B D D0 D2 D1 n
    refine def_of D B scWb (fun vs H Q E ⟨_, _, _, e, _⟩ => by rw [e]; rfl) fun f cdv A outer s H vs Q E hm C h => ?_
    obtain ⟨p, m, R, rfl, hp, hM, ok, hQ⟩ := h
    refine b_cons (s_ifB false ?_ (fun e => by cases e) (fun _ H1 b1 => b_nil ?_))
    · refine t_cmp (e_name 2 (v := .int ((n + 1 : Nat) : Int)) (e_int (c_eq rfl ⟨false, ?_, rfl, But.refl⟩)))
      rw [decide_eq_false]
      intro e
      have := V.int.inj e
      omega
    refine b_cons (s_ret (e_lc [("turn", 3)] C (i_range1 B (e_call (C.mono (by omega)) D0 (a_cons (e_name 0 (v := .ref p) (a_cons (e_if (t_cmp (e_name 2 (v := .int ((n + 1 : Nat) : Int)) (e_int (c_lt ⟨_, rfl, ite_b (fun e => e_int (a_nil ?_)) fun e => e_int (a_nil ?_)⟩)))) )))) rfl (fun _ _ _ _ _ _ us hl => match us, hl with | [_, _], _ => rfl)))))
    all_goals
      refine ⟨p, _, rfl, hp.new b1, by decide, by decide, fun r H2 r0 r1 b2 hp2 => ?_⟩
      obtain ⟨k, rfl⟩ := Int.eq_ofNat_of_zero_le r0
      have k8 : k < 8 := by omega
      clear r1 r0
      refine ⟨k, rfl, by omega, by omega, k, _, _, walk_range, fun Dl hDl => ?_⟩
      have b02 : But [p] H H2 := b1.of.trans b2
      have nDp : Dl ≠ p := hp2.there hDl
      refine ⟨fun i H' => But [p] H2 H' ∧ Pot H' p ∧ ∃ acc ds, ds.length = i ∧ (∀ d ∈ ds, bushOk R.g n d = true) ∧ H' Dl = some (.lst acc) ∧ ∀ l, Here l H2 → p ∈ l → DDs [] (Dl :: l) H' acc ds, ⟨But.new hDl, hp2.new (But.new hDl), [], [], rfl, fun c hc => by simp at hc, upd_same, fun _ _ _ => .nil⟩, fun _ _ _ _ => trivial, ?_, ?_⟩
      · rintro i x H5 H' hi ⟨b5, hp5, acc, ds, hl5, hds, hD5, hdd⟩ ⟨rfl, rfl⟩
        refine lc_plain (i := 3) C.nd fun s H0 Ca cl fp => ?_
        refine e_call (C.blk _ _ _ _ _) IH (a_cons (e_name 0 (v := .ref p) (a_cons (e_name 1 (v := .ref m) (a_cons (e_bin (e_name 2 (v := .int ((n + 1 : Nat) : Int)) (e_int (o_sub (a_nil ?_)))))))))) rfl (fun _ _ _ _ _ _ us hl => match us, hl with | [_, _, _], _ => rfl)
        have hlen : acc.length = i := by rw [(hdd [p] hp2.here (by simp)).length]; exact hl5
        refine ⟨p, m, R, by rw [show ((n + 1 : Nat) : Int) - 1 = (n : Int) by omega], hp5, hM.pot ok hp (b02.trans b5), ok, fun q2 d2 H6 hb2 hd2 b6 hp6 => ?_⟩
        have hD6 := b6 _ _ (by simpa using nDp) hD5
        refine ⟨_, hD6, by rw [sizeLine_eq]; omega, fun q o nq e => ?_, pot_upd hp6 nDp, acc ++ [.ref q2], ds ++ [d2], by simp [hl5], ?_, upd_same, fun l hl hpl => ?_⟩
        · rw [upd_ne (ne_of_none e hDl)]
          exact b6 _ _ nq (b5 _ _ nq e)
        · intro z hz
          rcases List.mem_append.mp hz with h | h
          · exact hds z h
          · rw [List.mem_singleton.mp h]
            exact hb2
        · have e1 := dds_mono (hdd l hl hpl) b6 (fun q hq => by rw [List.mem_singleton.mp hq]; exact List.mem_cons_of_mem _ hpl)
          have e2 := hd2 (Dl :: l) ((here_pot hl b5 hp5).cons hD5) (List.mem_cons_of_mem _ hpl)
          exact dds_mono (DDs.append e1 (.cons e2 .nil)) (But.at (l := [Dl]) (by simp)) (fun q hq => by rw [List.mem_singleton.mp hq]; simp)
      · rintro H5 ⟨b5, hp5, acc, ds, hl5, hds, hD5, hdd⟩
        refine hQ Dl (.list ds) H5 ?_ (fun l hl hpl => .lst (.inl (.inl hD5)) ((here_pot hl b02 hp2).new But.refl hDl) ((hdd l (here_pot hl b02 hp2) hpl).less fun q hq => List.mem_cons_of_mem _ hq)) (b02.trans b5) hp5
        simp only [bushOk, Z.isList, items, Bool.true_and, Bool.and_eq_true, decide_eq_true_eq, List.all_eq_true]
        exact ⟨decide_eq_true (by omega), hds⟩
end
end K68

set_option Elab.async false
set_option linter.all false
set_option maxRecDepth 100000
set_option maxHeartbeats 4000000
namespace K68
open PySem PySem.Spec PyProof.Rows L2 Z LamX
/-! ### what is told can be shown -/
theorem step_told {R : RData} {s s' : Stand} {x : Str} {d : PyData} (h : step R s x = some (d, s')) : d = lineD ∨ ∃ q : Bool × Nat, d = kindD q ∧ q.2 ≤ s.1 := by
  unfold step at h
  split at h
  · cases h
  · split at h
    · split at h
      · cases h
        exact .inl rfl
      · cases h
    · rename_i q hq
      have hm := role_mem hq
      split at h
      · cases h
      · split at h
        · cases h
          exact .inr ⟨q, rfl, hm.2⟩
        · cases h
          exact .inr ⟨q, rfl, hm.2⟩
theorem goes_told {R : RData} : ∀ {ls : List Str} {s : Stand}, s.1 ≤ R.ms.length → ∀ p ∈ goes R s ls, p.1 = lineD ∨ ∃ q : Bool × Nat, p.1 = kindD q ∧ q.2 ≤ R.ms.length
  | [], _, _, p, h => by simp [goes] at h
  | x :: ls, s, hs, p, h => by
    cases e : step R s x with
    | none => rw [goes, e] at h; simp at h
    | some q =>
      rw [goes, e] at h
      rcases List.mem_cons.mp h with h | h
      · rw [h]
        rcases step_told (d := q.1) (s' := q.2) e with h1 | ⟨q', h1, h2⟩
        · exact .inl h1
        · exact .inr ⟨q', h1, by omega⟩
      · exact goes_told (ls := ls) (step_ok (d := q.1) (s' := q.2) e hs).1 p h
theorem kind_shw : ∀ (b : Bool) (n : Nat), n ≤ 3 → ShwZ 1 8 (kindD (b, n))
  | true, 0, _ => ⟨by decide +kernel, by decide +kernel, by decide +kernel, by decide +kernel⟩
  | true, 1, _ => ⟨by decide +kernel, by decide +kernel, by decide +kernel, by decide +kernel⟩
  | true, 2, _ => ⟨by decide +kernel, by decide +kernel, by decide +kernel, by decide +kernel⟩
  | true, 3, _ => ⟨by decide +kernel, by decide +kernel, by decide +kernel, by decide +kernel⟩
  | false, 0, _ => ⟨by decide +kernel, by decide +kernel, by decide +kernel, by decide +kernel⟩
  | false, 1, _ => ⟨by decide +kernel, by decide +kernel, by decide +kernel, by decide +kernel⟩
  | false, 2, _ => ⟨by decide +kernel, by decide +kernel, by decide +kernel, by decide +kernel⟩
  | false, 3, _ => ⟨by decide +kernel, by decide +kernel, by decide +kernel, by decide +kernel⟩
  | _, n + 4, h => by omega
theorem stand_shw : ∀ (n : Nat) (b : Bool), n ≤ 3 → ShwZ 1 8 (standD (n, b))
  | 0, true, _ => ⟨by decide +kernel, by decide +kernel, by decide +kernel, by decide +kernel⟩
  | 1, true, _ => ⟨by decide +kernel, by decide +kernel, by decide +kernel, by decide +kernel⟩
  | 2, true, _ => ⟨by decide +kernel, by decide +kernel, by decide +kernel, by decide +kernel⟩
  | 3, true, _ => ⟨by decide +kernel, by decide +kernel, by decide +kernel, by decide +kernel⟩
  | 0, false, _ => ⟨by decide +kernel, by decide +kernel, by decide +kernel, by decide +kernel⟩
  | 1, false, _ => ⟨by decide +kernel, by decide +kernel, by decide +kernel, by decide +kernel⟩
  | 2, false, _ => ⟨by decide +kernel, by decide +kernel, by decide +kernel, by decide +kernel⟩
  | 3, false, _ => ⟨by decide +kernel, by decide +kernel, by decide +kernel, by decide +kernel⟩
  | n + 4, _, h => by omega
theorem told_shw {R : RData} (ok : R.Ok) {ls : List Str} (h : ls.length ≤ 2000) : ShwZ 2 (2001 * 9) (.list (toldD R ls)) := by
  have m1 := ok.ms.1
  have m3 := ok.ms.2.1
  refine ShwZ.list (n := 1) (w := 8) 2001 (fun d hd => ?_) ?_
  · obtain ⟨p, hp, rfl⟩ := List.mem_map.mp hd
    rcases goes_told (s := start1) (by exact m1) p hp with e | ⟨q, e, h2⟩
    · rw [e]
      exact ⟨by decide +kernel, by decide +kernel, by decide +kernel, by decide +kernel⟩
    · rw [e]
      exact kind_shw q.1 q.2 (by omega)
  · rw [toldD, List.length_map]
    have := goes_len (R := R) (s := start1) (ls := ls)
    omega
theorem course_shw {R : RData} (ok : R.Ok) {ls : List Str} (h : ls.length ≤ 2000) : ShwZ 2 (2001 * 9) (.list (courseD R ls)) := by
  have m1 := ok.ms.1
  have m3 := ok.ms.2.1
  refine ShwZ.list (n := 1) (w := 8) 2001 (fun d hd => ?_) ?_
  · rcases List.mem_cons.mp hd with rfl | hd
    · exact stand_shw 1 false (by decide)
    · obtain ⟨p, hp, rfl⟩ := List.mem_map.mp hd
      have := (goes_ok (s := start1) (by exact m1) p hp).1
      exact stand_shw p.2.1 p.2.2 (by omega)
  · rw [courseD, List.length_cons, List.length_map]
    have := goes_len (R := R) (s := start1) (ls := ls)
    omega
/-- what is heard -/
def heardD (R : RData) (ls : List Str) : PyData := if refusedB R ls = true then .none else .list (toldD R ls)
def bothD (R : RData) (ls : List Str) : PyData := .list [heardD R ls, .list (courseD R ls)]
theorem both_rp {R : RData} (ok : R.Ok) {ls : List Str} (h : ls.length ≤ 2000) : rp (bothD R ls) = true := by
  refine (ShwZ.list (n := 2) (w := 2001 * 9) (ds := [heardD R ls, .list (courseD R ls)]) 2 (fun d hd => ?_) (by simp)).rp (by decide) (by decide)
  simp only [List.mem_cons, List.not_mem_nil, or_false] at hd
  rcases hd with rfl | rfl
  · unfold heardD
    split
    · exact ShwZ.none
    · exact told_shw ok h
  · exact course_shw ok h
/-- the value heard and what it holds -/
structure Heard (K : PySem.W.Frag) (R : RData) (ls : List Str) (H : Hp) (v : V) : Prop where
  yes : refusedB R ls = true → v = .non
  no : refusedB R ls = false → ∃ q ws, v = .ref q ∧ H q = some (.lst ws) ∧ DDs K [] H ws (toldD R ls)
theorem Heard.dd {K : PySem.W.Frag} {R : RData} {ls : List Str} {H : Hp} {v : V} (h : Heard K R ls H v) : DD K [] H v (heardD R ls) := by
  unfold heardD
  cases e : refusedB R ls with
  | true =>
    rw [h.yes e]
    exact .non
  | false =>
    obtain ⟨q, ws, rfl, h1, h2⟩ := h.no e
    exact .lst (.inl (.inl h1)) (by simp) h2
theorem Heard.ext {K : PySem.W.Frag} {R : RData} {ls : List Str} {H H' : Hp} {v : V} (h : Heard K R ls H v) (b : Ex [] H H') : Heard K R ls H' v :=
  ⟨h.yes, fun e => let ⟨q, ws, e1, h1, h2⟩ := h.no e; ⟨q, ws, e1, b.lst (by simp) h1, h2.ex b⟩⟩
section
variable {P : Program} {w : World} {K : PySem.W.Frag} {mg : Str → Option Value} {base : Heap} {CR : Addr}
theorem IsModel.ext {R : RData} {H H' : Hp} {m : Addr} (h : IsModel R H m) (b : Ex [] H H') : IsModel R H' m := let ⟨ml, h1, h2⟩ := h.ex; ⟨ml, b _ _ (by simp) h1 (fun _ z => by cases z), b _ _ (by simp) h2 (fun _ z => by cases z)⟩
theorem tell_mk {Pt : Addr} {r : Addr} {R : RData} {v : V} {l : List Addr} {ls : List Str} {H : Hp} {Q : VK} {E : XK} (hr : IsReader CR R H r) (ok : R.Ok) (hm : IsMsg K R.g ls l H v) (T : Tabs (tabsM Pt) H)
    (k : ∀ hv H', Ex [] H H' → Tabs (tabsM Pt) H' → Heard K R ls H' hv → (∀ q, hv = .ref q → NewX H q) → Q hv H') : spTell K CR Pt [.ref r, v] H Q E :=
  ⟨r, R, v, l, ls, rfl, hr, ok, hm, T, fun e H' x t => k .non H' x t ⟨fun _ => rfl, fun e2 => by rw [e] at e2; cases e2⟩ (fun q z => by cases z),
    fun e q ws H' x t n h1 h2 => k (.ref q) H' x t ⟨(fun e2 => by rw [e] at e2; cases e2), fun _ => ⟨q, ws, rfl, h1, h2⟩⟩ (fun q' z => by cases z; exact n)⟩
end
end K68

set_option Elab.async false
set_option linter.all false
set_option maxRecDepth 100000
set_option maxHeartbeats 4000000
namespace K68
open PySem PySem.Spec PyProof.Rows L2 Z LamX
/-! ### one mail -/
theorem stand_cmp (s : Stand) : CmpZ 1 (standD s) := CmpZ.tuple fun x hx => by
  simp only [List.mem_cons, List.not_mem_nil, or_false] at hx
  rcases hx with rfl | rfl
  · exact CmpZ.int
  · obtain ⟨n, b⟩ := s
    cases b
    · exact CmpZ.str (x := "wait") (by decide)
    · exact CmpZ.str (x := "body") (by decide)
theorem course_cmp {R : RData} {ls : List Str} : CmpZ 2 (.list (courseD R ls)) := CmpZ.list fun x hx => by
  rcases List.mem_cons.mp hx with rfl | hx
  · exact stand_cmp _
  · obtain ⟨p, hp, rfl⟩ := List.mem_map.mp hx
    exact stand_cmp _
theorem heard_cmp {R : RData} (m1 : 1 ≤ R.ms.length) {ls : List Str} : CmpZ 2 (heardD R ls) := by
  unfold heardD
  split
  · exact CmpZ.none.mono (by decide)
  · exact told_cmp m1
section
variable {P : Program} {w : World} {K : PySem.W.Frag} {mg : Str → Option Value} {base : Heap} {CR : Addr}
def spMq (CR Pt : Addr) : Sp := fun vs H Q _ => ∃ (m r mq : Addr) (R : RData) (ls : List Str), vs = [.ref m, .ref r, .ref mq] ∧ IsModel R H m ∧ IsReader CR R H r ∧ R.Ok ∧ H mq = some (.lst (ls.map V.str)) ∧ (∀ y ∈ ls, isLine R.g (.str y) = true ∧ y.length ≤ 1000) ∧ ls.length ≤ 20000 ∧ Tabs (tabsM Pt) H ∧ ∀ H', Ex [] H H' → Tabs (tabsM Pt) H' → Q (.bl true) H'
theorem scMq : FnScope ["model", "rd", "mail", "due", "trail"] ["model", "rd", "mail"] (defScope (top 134)) := ⟨rfl, rfl, rfl, by decide +kernel, rfl, by decide +kernel, by decide +kernel⟩
theorem d_mq {Pt : Addr} (B : Blt mg base) (D : At K mg "_law_mail_right" (top 134)) (D1 : Def P w K mg base 5 "_law_told" (top 124) ["model", "mail"] (spTold K)) (D2 : Def P w K mg base 8 "telling" (top 110) ["reader", "message"] (spTell K CR Pt)) (D3 : Def P w K mg base 8 "course" (top 111) ["reader", "message"] (spCourse K CR Pt))
    (D4 : Def P w K mg base 9 "tree_read" (top 112) ["reader", "message"] (spRead K CR Pt)) (D5 : Def P w K mg base 1 "_law_grown" (top 129) ["model", "heard", "mail"] (spGrown K)) :
    Def P w K mg base 10 "_law_mail_right" (top 134) ["model", "rd", "mail"] (spMq CR Pt) := by
  refine def_of D B scMq (fun vs H Q E ⟨_, _, _, _, _, e, _⟩ => by rw [e]; rfl) fun f cdv A outer s H vs Q E hm C h => ?_
  obtain ⟨m, r, mq, R, ls, rfl, hM, hr, ok, hmq, okm, hfew, hT, hQ⟩ := h
  have m1 := ok.ms.1
  have okl : ∀ y ∈ ls, okLine R.g (.str y) = true := fun y hy => by
    simp only [okLine, Bool.and_eq_true, decide_eq_true_eq]
    exact okm y hy
  have isMsgL : ∀ {H'}, Ex [] H H' → IsMsg K R.g ls [] H' (.ref mq) := fun x => ⟨⟨.list (ls.map .str), .lst (.inl (.inl (x.lst (by simp) hmq))) (by simp) (DDs.strs _), rfl, rfl⟩, okm, by omega⟩
  have hc := heard_cmp m1 (ls := ls)
  have cc := course_cmp (R := R) (ls := ls)
  have tc := treeD_cmp ok okl
  refine b_cons (s_asg (e_call (C.mono (by decide)) D1 (a_cons (e_name 0 (v := .ref m) (a_cons (e_name 2 (v := .ref mq) (a_nil ?_))))) rfl (fun _ _ _ _ _ _ us hl => match us, hl with | [_, _], _ => rfl)))
  refine ⟨m, mq, R, ls, rfl, hM, ok, hmq, fun y hy => (okm y hy).2, by omega, fun p hv pq us H1 b1 hpqn hp hpq dC hy hn => ?_⟩
  refine g_tup (gs_cons (g_name (i := 3) (gs_cons (g_name (i := 4) (gs_nil ?_) C.nd)) C.nd)) rfl (.inl (.inl hp))
  have due1 : Heard K R ls H1 hv := ⟨hy, fun e => let ⟨q, ws, e1, _, h1, h2⟩ := hn e; ⟨q, ws, e1, h1, h2⟩⟩
  have x01 : Ex [] H H1 := b1.ex
  have T1 := tabs_new hT b1
  refine b_cons (s_if (t_boolop (w_or (t_cmp (e_call (C.mono (by decide)) D2 (a_cons (e_name 1 (v := .ref r) (a_cons (e_name 2 (v := .ref mq) (a_nil ?_))))) rfl (fun _ _ _ _ _ _ us hl => match us, hl with | [_, _], _ => rfl))))))
  refine tell_mk (l := []) (hr.ext x01) ok (isMsgL x01) T1 fun hd H2 x2 T2 hh2 n2 => ?_
  refine e_name 3 (v := hv) (c_neD C (l := []) (m := []) hh2.dd (due1.ext x2).dd (hc.shaped (by decide)) (hc.shaped (by decide)) ⟨false, by rw [hc.same]; rfl, ite_b (fun e => by cases e) fun _ => ?_⟩)
  refine w_or1 (t_cmp (e_call (C.mono (by decide)) D3 (a_cons (e_name 1 (v := .ref r) (a_cons (e_name 2 (v := .ref mq) (a_nil ?_))))) rfl (fun _ _ _ _ _ _ us hl => match us, hl with | [_, _], _ => rfl)))
  refine ⟨r, R, .ref mq, [], ls, rfl, hr.ext (x01.trans x2), ok, isMsgL (x01.trans x2), T2, fun sq us3 H3 x3 T3 n3 hsq d3 => ?_⟩
  have x13 := x2.trans x3
  have x03 := x01.trans x13
  refine e_name 4 (v := .ref pq) (c_neD C (l := []) (m := []) (.lst (.inl (.inl hsq)) (by simp) d3) (.lst (.inl (.inl (x13.lst (by simp) hpq))) (by simp) (dC.ex x13)) (cc.shaped (by decide)) (cc.shaped (by decide)) ⟨false, by rw [cc.same]; rfl, ite_b (fun e => by cases e) fun _ => b_nil ?_⟩)
  refine b_cons (s_ret (e_cmp (e_call (C.mono (by decide)) D4 (a_cons (e_name 1 (v := .ref r) (a_cons (e_name 2 (v := .ref mq) (a_nil ?_))))) rfl (fun _ _ _ _ _ _ us hl => match us, hl with | [_, _], _ => rfl))))
  refine ⟨r, R, .ref mq, [], ls, rfl, hr.ext x03, ok, isMsgL x03, T3, fun hf H4 x4 T4 => ?_, fun hf a S H4 x4 T4 nS hbu => ?_⟩
  · have e0 := hy hf
    subst e0
    refine e_if (t_cmp (e_name 3 (v := .non) (e_none (c_isN ⟨true, rfl, ite_b (fun _ => e_none ?_) fun e => by cases e⟩))))
    exact c_eqD C (l := []) (m := []) .non .non (CmpZ.none.shaped (by decide)) (CmpZ.none.shaped (by decide)) (by rw [CmpZ.none.same]; exact hQ _ (x03.trans x4) T4)
  · obtain ⟨q, ws, e1, hqn, hq1, dws⟩ := hn hf
    subst e1
    refine e_if (t_cmp (e_name 3 (v := .ref q) (e_none (c_isN ⟨false, rfl, ite_b (fun e => by cases e) fun _ => ?_⟩))))
    have x14 := x13.trans x4
    have x04 := x03.trans x4
    refine e_call (C.mono (by decide)) D5 (a_cons (e_name 0 (v := .ref m) (a_cons (e_name 3 (v := .ref q) (a_cons (e_name 2 (v := .ref mq) (a_nil ?_))))))) rfl (fun _ _ _ _ _ _ us hl => match us, hl with | [_, _, _], _ => rfl)
    refine ⟨m, q, mq, R, ws, ls, rfl, hM.ext x04, ok, x14.lst (by simp) hq1, dws.ex x14, x04.lst (by simp) hmq, hf, by omega, fun u Su H5 b5 nSu hbd => ?_⟩
    refine c_eqD C (l := []) (m := []) ((hbu.but b5 (by simp)).dd (by simp)) (hbd.dd (by simp)) (tc.shaped (by decide)) (tc.shaped (by decide)) ?_
    rw [tc.same]
    exact hQ _ (x04.trans b5.ex) (tabs_new T4 b5)
end
end K68

set_option Elab.async false
set_option linter.all false
set_option maxRecDepth 100000
set_option maxHeartbeats 4000000
namespace K68
open PySem PySem.Spec PyProof.Rows L2 Z LamX
/-! ### readers made with cares left out; what is known of two of them -/
abbrev rKws : List (Str × V) := [("sight", .str "whole"), ("order", .str "inner"), ("further", .str "refuse"), ("finish", .str "refuse")]
abbrev InitD (K : PySem.W.Frag) (f : Addr) (fd : FuncData) : Prop := FunD K "__init__" "Reader.__init__" (defArgs (clsAt (top 89) 0)) (defBody (clsAt (top 89) 0)) (defScope (clsAt (top 89) 0)) [] rKws f fd
theorem init_binds {K : PySem.W.Frag} {f : Addr} {fd : FuncData} (F : InitD K f fd) : ∃ ds, Vals (rKws.map (·.2)) ds ∧ Binds K fd rPs ds := by
  refine FunD.binds0 F 4 (by simp) rfl fun D doc pm an cdv ct us ks h1 h2 => ?_
  match us, ks, h1, h2 with
  | [a, b, c, d], [k1, k2, k3, k4], _, _ =>
    refine ⟨_, _, _, _, _, _, rfl, rfl, ?_⟩
    refine ⟨_, _, _, _, _, _, rfl, rfl, ?_⟩
    refine ⟨_, _, _, _, _, _, rfl, rfl, ?_⟩
    refine ⟨_, _, _, _, _, _, rfl, rfl, ?_⟩
    rfl
abbrev fKws : List (Str × V) := [("sight", .str "whole"), ("order", .str "inner"), ("finish", .str "refuse")]
theorem init_kfur {K : PySem.W.Frag} {f : Addr} {fd : FuncData} (F : InitD K f fd) : ∃ mv : List Value, KBn K fd rPs 4 ["further"] (fun us ws => us ++ (mv.take 2 ++ (ws ++ mv.drop 2))) (fun vs zs => vs ++ ((fKws.map (·.2)).take 2 ++ (zs ++ (fKws.map (·.2)).drop 2))) := by
  refine FunD.kbinds0 F 4 ["further"] fKws (fun us mv ws => us ++ (mv.take 2 ++ (ws ++ mv.drop 2))) (by simp) (fun q hq => ?_) (fun r1 r2 r3 => r1.append ((r2.take 2).append (r3.append (r2.drop 2)))) fun D doc pm an cdv ct us mv ws h1 h2 h3 => ?_
  · simp only [List.mem_cons, List.not_mem_nil, or_false] at hq ⊢
    rcases hq with rfl | rfl | rfl <;> simp
  · match us, mv, ws, h1, h2, h3 with
    | [a, b, c, d], [m1, m2, m3], [w1], _, _, _ =>
      refine ⟨_, _, _, _, _, _, rfl, rfl, ?_⟩
      refine ⟨_, _, _, _, _, _, rfl, rfl, ?_⟩
      refine ⟨_, _, _, _, _, _, rfl, rfl, ?_⟩
      rfl
structure RdOk0 (P : Program) (w : World) (K : PySem.W.Frag) (mg : Str → Option Value) (base : Heap) (CR : Addr) : Prop where
  ex : ∃ ds, Vals (rKws.map (·.2)) ds ∧ MakeOk P w K mg base 4 "Reader" CR rPs (spInit K CR) fun fd => Binds K fd rPs ds
  fur : ∃ mv : List Value, MakeOk P w K mg base 4 "Reader" CR rPs (spInit K CR) fun fd => KBn K fd rPs 4 ["further"] (fun us ws => us ++ (mv.take 2 ++ (ws ++ mv.drop 2))) (fun vs zs => vs ++ ((fKws.map (·.2)).take 2 ++ (zs ++ (fKws.map (·.2)).drop 2)))
abbrev Rf : RData := ⟨"-a", ["-"], "a", "whole", "inner", "refuse", "refuse"⟩
theorem rf_ok : Rf.Ok := ⟨by decide +kernel, ⟨by decide, by decide, fun y hy => by rw [List.mem_singleton.mp hy]; decide +kernel, by decide⟩, by decide +kernel, by unfold wordOk; rw [if_pos rfl]; exact .inl rfl, by unfold wordOk; rw [if_neg (by decide)]; decide, by unfold wordOk; rw [if_neg (by decide)]; decide, by unfold wordOk; rw [if_neg (by decide)]; decide⟩
abbrev Rd : RData := ⟨"-.a", ["-", ".", "a"], "-", "whole", "inner", "close", "refuse"⟩
theorem rd_ok : Rd.Ok := ⟨by decide +kernel, ⟨by decide, by decide, by decide +kernel, by decide⟩, by decide +kernel, by unfold wordOk; rw [if_pos rfl]; exact .inl rfl, by unfold wordOk; rw [if_neg (by decide)]; decide, by unfold wordOk; rw [if_neg (by decide)]; decide, by unfold wordOk; rw [if_neg (by decide)]; decide⟩
def lF : List Str := List.replicate 400 ("-" : Str) ++ [("-a" : Str)]
def dF : PyData := .list (List.replicate 400 (.list []))
theorem lines_F : linesOf Rf dF = lF := by decide +kernel
theorem isT_F : isTree Rf.g Rf.ms.length dF = true := by decide +kernel
theorem rows_F : (rowsOf Rf Rf.ms.length dF).length ≤ 20000 := by decide +kernel
theorem ref_F : refusedB Rf lF = false := by decide +kernel
theorem ok_F : ∀ y ∈ lF, isLine Rf.g (.str y) = true ∧ y.length ≤ 1000 := by decide +kernel
theorem tree_F : PyData.list (treeD Rf lF) = dF := by kernel_rfl
def dD : PyData := .list [.list [.list [.list [.str "--a"], .list []], .list []], .list []]
def lD : List Str := ["-", ".", "a", "--a", "a", "a-", ".", "a-", ".-", "-", ".-", "--"]
theorem lines_D : linesOf Rd dD = lD := by decide +kernel
theorem isT_D : isTree Rd.g Rd.ms.length dD = true := by decide +kernel
theorem rows_D : (rowsOf Rd Rd.ms.length dD).length ≤ 20000 := by decide +kernel
theorem ref_D : refusedB Rd lD = false := by decide +kernel
theorem ok_D : ∀ y ∈ lD, isLine Rd.g (.str y) = true ∧ y.length ≤ 1000 := by decide +kernel
theorem tree_D : PyData.list (treeD Rd lD) = dD := by kernel_rfl
theorem roles_E : rolesD Rd (.list []) = [.tuple [.str "end", .int 1]] := by kernel_rfl
theorem isT_E : isTree Rd.g Rd.ms.length (.list []) = true := by decide +kernel
theorem rows_E : (rowsOf Rd Rd.ms.length (.list [])).length ≤ 20000 := by decide +kernel
def lC : List Str := ["-", ".", "-"]
theorem ok_C : ∀ y ∈ lC, isLine Rd.g (.str y) = true ∧ y.length ≤ 1000 := by decide +kernel
def cD : List PyData := [.tuple [.int 1, .str "wait"], .tuple [.int 2, .str "wait"], .tuple [.int 3, .str "wait"], .tuple [.int 2, .str "wait"]]
theorem cour_C : courseD Rd lC = cD := by kernel_rfl
def lG : List Str := ["-", ".", "a", "aa", "-", ".", "--"]
def dG : PyData := .list [.list [.list [.list [.str "aa"]]], .list [.list []]]
theorem ok_G : ∀ y ∈ lG, isLine Rd.g (.str y) = true ∧ y.length ≤ 1000 := by decide +kernel
theorem ref_G : refusedB Rd lG = false := by decide +kernel
theorem tree_G : PyData.list (treeD Rd lG) = dG := by kernel_rfl
end K68

set_option Elab.async false
set_option linter.all false
set_option maxRecDepth 100000
set_option maxHeartbeats 4000000
namespace K68
open PySem PySem.Spec PyProof.Rows L2 Z LamX NdefX
/-! ### what is known -/
theorem strs_cmp {l : List Str} (h : ∀ y ∈ l, ∀ c ∈ y.cps.toList, c < 128) : CmpZ 1 (.list (l.map .str)) := CmpZ.list fun x hx => by
  obtain ⟨y, hy, rfl⟩ := List.mem_map.mp hx
  exact CmpZ.str (h y hy)
theorem lF_cmp : CmpZ 1 (.list (lF.map .str)) := strs_cmp (by decide +kernel)
theorem lD_cmp : CmpZ 1 (.list (lD.map .str)) := strs_cmp (by decide +kernel)
theorem nil_cmp : CmpZ 1 (.list []) := CmpZ.list fun x hx => by simp at hx
theorem one_cmp {n : Nat} {d : PyData} (h : CmpZ n d) : CmpZ (n + 1) (.list [d]) := CmpZ.list fun x hx => by rw [List.mem_singleton.mp hx]; exact h
theorem two_cmp {n : Nat} {d e : PyData} (h : CmpZ n d) (k : CmpZ n e) : CmpZ (n + 1) (.list [d, e]) := CmpZ.list fun x hx => by
  simp only [List.mem_cons, List.not_mem_nil, or_false] at hx
  rcases hx with rfl | rfl
  · exact h
  · exact k
theorem dF_cmp : CmpZ 2 dF := CmpZ.list fun x hx => by rw [List.eq_of_mem_replicate hx]; exact nil_cmp
theorem sA_cmp {x : Str} (h : ∀ c ∈ x.cps.toList, c < 128) : CmpZ 1 (.list [.str x]) := one_cmp (CmpZ.str h)
theorem dD_cmp : CmpZ 4 dD := two_cmp (two_cmp (two_cmp (sA_cmp (by decide)) nil_cmp) (nil_cmp.mono (by decide))) (nil_cmp.mono (by decide))
theorem dG_cmp : CmpZ 4 dG := two_cmp (one_cmp (one_cmp (sA_cmp (by decide)))) ((one_cmp nil_cmp).mono (by decide))
theorem end_cmp : CmpZ 1 (.tuple [.str "end", .int 1]) := kind_cmp (false, 1)
theorem cD_cmp : CmpZ 2 (.list cD) := by rw [← cour_C]; exact course_cmp
section
variable {X : Cx} {σ : L2.St} {H : Hp}
theorem e_lit {K : PySem.W.Frag} {l : List Addr} {e : Expr} {d : PyData} {Q : VK} (r : Lit K X l σ H e d) (h : ∀ v H', But [] H H' → DD K l H' v d → Q v H') : wE X e σ H Q := wE_mono (r H But.refl) fun v H' ⟨b, q⟩ => h v H' b q
theorem e_lF {Q : VK} {j1 j2 j3} {p1 p2 p3 p4 p5 p6 p7 : Pos} (h : ∀ q H', But [] H H' → H' q = some (.lst (lF.map V.str)) → Q (.ref q) H') :
    wE X (.BinOp (.BinOp (.List [.Constant (.str "-") j1 p1] p2) .Mult (.Constant (.int 400) j2 p3) p4) .Add (.List [.Constant (.str "-a") j3 p5] p6) p7) σ H Q := by
  have sz : ∀ n, n ≤ 16777216 → n ≤ sizeLine := fun n hn => by rw [sizeLine_eq]; exact hn
  refine e_bin (e_bin (e_lst (a_cons (e_str (a_nil ⟨sz 1 (by decide), fun a ha => e_int (o_rep (n := 400) upd_same (sz _ (by decide)) (by decide) fun b hb => e_lst (a_cons (e_str (a_nil ⟨sz 1 (by decide), fun c hc => ?_⟩))))⟩)))))
  have eb : upd (upd H a (.lst [V.str "-"])) b (.lst (List.replicate 400 [V.str "-"]).flatten) b = some (.lst (List.replicate 400 (V.str "-"))) := by rw [upd_same, flat_one]
  have c1 : But [] H (upd H a (.lst [V.str "-"])) := But.new ha
  have c2 : But [] (upd H a (.lst [V.str "-"])) (upd (upd H a (.lst [V.str "-"])) b (.lst (List.replicate 400 [V.str "-"]).flatten)) := But.new hb
  generalize upd (upd H a (.lst [V.str "-"])) b (.lst (List.replicate 400 [V.str "-"]).flatten) = H2 at eb c2 hc ⊢
  have c3 : But [] H2 (upd H2 c (.lst [V.str "-a"])) := But.new hc
  refine o_cat (c3 _ _ (by simp) eb) upd_same (sz _ (by decide)) fun d hd => h d _ (c1.trans (c2.trans (c3.trans (But.new hd)))) ?_
  rw [upd_same, lF, List.map_append, List.map_replicate]
  rfl
theorem e_dF {Q : VK} {j} {p1 p2 p3 p4 : Pos} (h : ∀ q H', But [] H H' → DD [] [] H' (.ref q) dF → Q (.ref q) H') :
    wE X (.BinOp (.List [.List [] p1] p2) .Mult (.Constant (.int 400) j p3) p4) σ H Q := by
  have sz : ∀ n, n ≤ 16777216 → n ≤ sizeLine := fun n hn => by rw [sizeLine_eq]; exact hn
  refine e_bin (e_lst (a_cons (e_lst (a_nil ⟨sz 0 (by decide), fun z hz => a_nil ⟨sz 1 (by decide), fun a ha => e_int (o_rep (n := 400) upd_same (sz _ (by show 1 * 400 ≤ 16777216; decide)) (by decide) fun b hb => h b _ ((But.new hz).trans ((But.new ha).trans (But.new hb))) ?_)⟩⟩))))
  have c2 : But [] (upd H z (.lst [])) (upd (upd H z (.lst [])) a (.lst [V.ref z])) := But.new ha
  have c3 : But [] (upd (upd H z (.lst [])) a (.lst [V.ref z])) (upd (upd (upd H z (.lst [])) a (.lst [V.ref z])) b (.lst (List.replicate 400 [V.ref z]).flatten)) := But.new hb
  refine .lst (xs := List.replicate 400 (.ref z)) (.inl (.inl ?_)) (by simp) (dds_rep (.lst (xs := []) (.inl (.inl (c3 _ _ (by simp) (c2 _ _ (by simp) upd_same)))) (by simp) .nil) 400)
  rw [upd_same, flat_one]
end
section
variable {P : Program} {w : World} {K : PySem.W.Frag} {mg : Str → Option Value} {base : Heap} {CR : Addr}
theorem msg_of {R : RData} {H : Hp} {q : Addr} {vs : List V} {ls : List Str} (hq : H q = some (.lst vs)) (hd : DDs K [] H vs (ls.map .str)) (ok : ∀ y ∈ ls, isLine R.g (.str y) = true ∧ y.length ≤ 1000) (few : ls.length ≤ 100000) : IsMsg K R.g ls [] H (.ref q) :=
  ⟨⟨.list (ls.map .str), .lst (.inl (.inl hq)) (by simp) hd, rfl, rfl⟩, ok, few⟩
def spKn (Pt : Addr) : Sp := fun vs H Q _ => vs = [] ∧ Tabs (tabsM Pt) H ∧ ∀ H', Ex [] H H' → Tabs (tabsM Pt) H' → Q (.bl true) H'
theorem scKn : FnScope ["flat", "deep", "mail"] [] (defScope (top 135)) := ⟨rfl, rfl, rfl, by decide +kernel, rfl, by decide +kernel, by decide +kernel⟩
theorem d_kn {Pt : Addr} (B : Blt mg base) (D : At K mg "_law_known_right" (top 135)) (M0 : RdOk0 P w K mg base CR) (D1 : Def P w K mg base 12 "written" (top 105) ["reader", "tree"] (spWritten CR)) (D2 : Def P w K mg base 12 "own_telling" (top 106) ["reader", "tree"] (spTelling K CR))
    (D3 : Def P w K mg base 8 "course" (top 111) ["reader", "message"] (spCourse K CR Pt)) (D4 : Def P w K mg base 9 "tree_read" (top 112) ["reader", "message"] (spRead K CR Pt)) :
    Def P w K mg base 13 "_law_known_right" (top 135) [] (spKn Pt) := by
  refine def_of D B scKn (fun vs H Q E ⟨e, _⟩ => by rw [e]; rfl) fun f cdv A outer s H vs Q E hm C h => ?_
  obtain ⟨rfl, hT, hQ⟩ := h
  obtain ⟨ds, vds, M⟩ := M0.ex
  obtain ⟨mv, Mf⟩ := M0.fur
  have sz : ∀ n, n ≤ 16777216 → n ≤ sizeLine := fun n hn => by rw [sizeLine_eq]; exact hn
  -- flat
  refine b_cons (s_set (i := 0) (e_make (E := fun _ _ _ => False) (C.mono (by decide)) M vds (fun _ _ _ _ z => z.elim) ?_) C.nd)
  refine a_cons (e_str (a_cons (e_lst (a_cons (e_str (a_nil ⟨sz 1 (by decide), fun q0 hq0 => a_cons (e_str (a_nil fun r dx hr hdx nd => ?_))⟩))))))
  have b0 : But [] H (upd H q0 (.lst [.str "-"])) := But.new hq0
  have hq0' : upd H q0 (.lst [.str "-"]) q0 = some (.lst [.str "-"]) := upd_same
  generalize upd H q0 (.lst [.str "-"]) = H0 at b0 hq0' hr hdx ⊢
  have bn : But [] H0 (upd (upd H0 dx (.own r)) r (.ins CR dx [])) := (But.new hdx).trans (But.new (by rw [upd_ne nd.symm]; exact hr))
  refine ⟨r, dx, q0, Rf, rfl, rf_ok, upd_same, bn _ _ (by simp) hq0', fun H1 b1 hR => ⟨rfl, ?_⟩⟩
  have b01 : But [] H H1 := b0.trans (but_late bn b1 fun q hq => by rw [List.mem_singleton.mp hq]; exact hr)
  have T1 := tabs_new hT b01
  clear bn b1 hq0' hr hdx hq0
  -- 400 empty parts
  refine b_cons (s_if (t_boolop (w_or (t_cmp (e_call (C.mono (by decide)) D1 (a_cons (e_name 0 (v := .ref r) (a_cons (e_dF fun q1 H2 b2 d2 => a_nil ?_)))) rfl (fun _ _ _ _ _ _ us hl => match us, hl with | [_, _], _ => rfl))))))
  refine ⟨r, Rf, .ref q1, [], dF, rfl, hR.but b2 (by simp), rf_ok, d2, isT_F, rows_F, fun q3 H3 b3 _ h3 => e_lF fun q4 H4 b4 h4 => ?_⟩
  rw [lines_F] at h3
  refine c_neD C (l := []) (m := []) (d := .list (lF.map .str)) (f := .list (lF.map .str)) (.lst (.inl (.inl (b4 _ _ (by simp) h3))) (by simp) (DDs.strs _)) (.lst (.inl (.inl h4)) (by simp) (DDs.strs _)) (lF_cmp.shaped (by decide)) (lF_cmp.shaped (by decide)) ⟨false, by rw [lF_cmp.same]; rfl, ite_b (fun e => by cases e) fun _ => ?_⟩
  have b14 : But [] H1 H4 := b2.trans (b3.trans b4)
  refine w_or1 (t_cmp (e_call (C.mono (by decide)) D4 (a_cons (e_name 0 (v := .ref r) (a_cons (e_lF fun q5 H5 b5 h5 => a_nil ?_)))) rfl (fun _ _ _ _ _ _ us hl => match us, hl with | [_, _], _ => rfl)))
  have b15 := b14.trans b5
  refine ⟨r, Rf, .ref q5, [], lF, rfl, hR.but b15 (by simp), rf_ok, msg_of h5 (DDs.strs _) ok_F (by decide +kernel), tabs_new T1 b15, (fun e => by rw [ref_F] at e; cases e), fun _ a S H6 x6 T6 nS hbu => e_dF fun q7 H7 b7 d7 => ?_⟩
  rw [tree_F] at hbu
  refine c_neD C (l := []) (m := []) ((hbu.but b7 (by simp)).dd (by simp)) d7.all (dF_cmp.shaped (by decide)) (dF_cmp.shaped (by decide)) ⟨false, by rw [dF_cmp.same]; rfl, ite_b (fun e => by cases e) fun _ => b_nil ?_⟩
  have x07 : Ex [] H H7 := (b01.trans b15).ex.trans (x6.trans b7.ex)
  have T7 := tabs_new T6 b7
  clear hbu nS x6 T6 d7 h5 h4 h3 d2 b2 b3 b4 b5 b7 b14 b15 hR T1 b01 b0
  show wB _ _ _ [some (.ref r), none, none] _
  -- deep
  refine b_cons (s_set (i := 1) (e_makeK (gf := fun us ws => us ++ (mv.take 2 ++ (ws ++ mv.drop 2))) (gV := fun vs zs => vs ++ ((fKws.map (·.2)).take 2 ++ (zs ++ (fKws.map (·.2)).drop 2))) (ks := ["further"]) (n := 3) (E := fun _ _ _ => False) (C.mono (by decide)) Mf (fun _ _ _ _ z => z.elim) ?_) C.nd)
  refine a_cons (e_str (a_cons (e_lst (a_cons (e_str (a_cons (e_str (a_cons (e_str (a_nil ⟨sz 3 (by decide), fun q0 hq0 => a_cons (e_str (a_nil ?_))⟩))))))))))
  refine k_cons (e_str (k_nil ⟨rfl, rfl, fun r dx hr hdx nd => ?_⟩))
  have b0 : But [] H7 (upd H7 q0 (.lst [.str "-", .str ".", .str "a"])) := But.new hq0
  have hq0' : upd H7 q0 (.lst [.str "-", .str ".", .str "a"]) q0 = some (.lst [.str "-", .str ".", .str "a"]) := upd_same
  generalize upd H7 q0 (.lst [.str "-", .str ".", .str "a"]) = H0 at b0 hq0' hr hdx ⊢
  have bn : But [] H0 (upd (upd H0 dx (.own r)) r (.ins CR dx [])) := (But.new hdx).trans (But.new (by rw [upd_ne nd.symm]; exact hr))
  refine ⟨r, dx, q0, Rd, rfl, rd_ok, upd_same, bn _ _ (by simp) hq0', fun H8 b8 hR => ⟨rfl, ?_⟩⟩
  have b78 : But [] H7 H8 := b0.trans (but_late bn b8 fun q hq => by rw [List.mem_singleton.mp hq]; exact hr)
  have x08 := x07.trans b78.ex
  have T8 := tabs_new T7 b78
  clear bn b8 hq0' hr hdx hq0 b0 b78 T7 x07
  -- mail
  refine b_cons (s_set (i := 2) (e_call (C.mono (by decide)) D1 (a_cons (e_name 1 (v := .ref r) (a_cons (e_lit (K := []) (l := []) (d := dD) (lit_lst Here.nil (lits_cons (lit_lst Here.nil (lits_cons (lit_lst Here.nil (lits_cons (lit_lst Here.nil (lits_cons lit_str lits_nil)) (lits_cons (lit_lst Here.nil lits_nil) lits_nil))) (lits_cons (lit_lst Here.nil lits_nil) lits_nil))) (lits_cons (lit_lst Here.nil lits_nil) lits_nil))) fun v1 H9 b9 d9 => a_nil ?_)))) rfl (fun _ _ _ _ _ _ us hl => match us, hl with | [_, _], _ => rfl)) C.nd)
  refine ⟨r, Rd, v1, [], dD, rfl, hR.but b9 (by simp), rd_ok, d9, isT_D, rows_D, fun mq HA bA _ hmq => ?_⟩
  rw [lines_D] at hmq
  have b8A := b9.trans bA
  have hRA := hR.but b8A (by simp)
  have xA := x08.trans b8A.ex
  have TA := tabs_new T8 b8A
  clear d9 b9 bA b8A hR x08 T8
  refine b_cons (s_ifB false ?_ (fun e => by cases e) (fun _ HB bB => b_nil ?_))
  · refine t_cmp (e_name 2 (v := .ref mq) (e_lits (K := K) (l := []) (ds := lD.map .str) Here.nil (lits_cons lit_str (lits_cons lit_str (lits_cons lit_str (lits_cons lit_str (lits_cons lit_str (lits_cons lit_str (lits_cons lit_str (lits_cons lit_str (lits_cons lit_str (lits_cons lit_str (lits_cons lit_str (lits_cons lit_str lits_nil)))))))))))) fun q vs H' b hq _ hd => ?_))
    exact c_neD C (l := []) (m := []) (d := .list (lD.map .str)) (f := .list (lD.map .str)) (.lst (.inl (.inl (b _ _ (by simp) hmq))) (by simp) (DDs.strs _)) (.lst (.inl (.inl hq)) (by simp) hd) (lD_cmp.shaped (by decide)) (lD_cmp.shaped (by decide)) ⟨false, by rw [lD_cmp.same]; rfl, rfl, b⟩
  have hRB := hRA.but bB (by simp)
  have hmB := bB _ _ (by simp) hmq
  have xB := xA.trans bB.ex
  have TB := tabs_new TA bB
  clear hmq bB hRA xA TA
  -- the tree read, the last row told
  refine b_cons (s_if (t_boolop (w_or (t_cmp (e_call (C.mono (by decide)) D4 (a_cons (e_name 1 (v := .ref r) (a_cons (e_name 2 (v := .ref mq) (a_nil ?_))))) rfl (fun _ _ _ _ _ _ us hl => match us, hl with | [_, _], _ => rfl))))))
  refine ⟨r, Rd, .ref mq, [], lD, rfl, hRB, rd_ok, msg_of hmB (DDs.strs _) ok_D (by decide), TB, (fun e => by rw [ref_D] at e; cases e), fun _ a S HC xC TC nS hbu => ?_⟩
  rw [tree_D] at hbu
  refine e_lit (K := K) (l := []) (d := dD) (lit_lst Here.nil (lits_cons (lit_lst Here.nil (lits_cons (lit_lst Here.nil (lits_cons (lit_lst Here.nil (lits_cons lit_str lits_nil)) (lits_cons (lit_lst Here.nil lits_nil) lits_nil))) (lits_cons (lit_lst Here.nil lits_nil) lits_nil))) (lits_cons (lit_lst Here.nil lits_nil) lits_nil))) fun v1 HD bD dd => ?_
  refine c_neD C (l := []) (m := []) (f := dD) ((hbu.but bD (by simp)).dd (by simp)) dd (dD_cmp.shaped (by decide)) (dD_cmp.shaped (by decide)) ⟨false, by rw [dD_cmp.same]; rfl, ite_b (fun e => by cases e) fun _ => ?_⟩
  have xBD := xC.trans bD.ex
  refine w_or1 (t_cmp (e_ix (e_call (C.mono (by decide)) D2 (a_cons (e_name 1 (v := .ref r) (a_cons (e_lst (a_nil ⟨sz 0 (by decide), fun z hz => a_nil ?_⟩))))) rfl (fun _ _ _ _ _ _ us hl => match us, hl with | [_, _], _ => rfl))))
  have bz : But [] HD (upd HD z (.lst [])) := But.new hz
  refine ⟨r, Rd, .ref z, [], .list [], rfl, hRB.ext (xBD.trans bz.ex), rd_ok, .lst (xs := []) (.inl (.inl upd_same)) (by simp) .nil, isT_E, rows_E, fun q ws HE bE _ hq hws => ?_⟩
  rw [roles_E] at hws
  cases hws with
  | @cons w0 _ _ _ h1 h2 =>
  cases h2
  refine e_int (ix_l (.inl (.inl hq)) (v := w0) (atI_nat (j := 0) rfl) (e_lit (K := K) (l := []) (d := .tuple [.str "end", .int 1]) (lit_tup Here.nil (lits_cons lit_str (lits_cons lit_int lits_nil))) fun v2 HF bF df => ?_))
  refine c_neD C (l := []) (m := []) (h1.but bF) df (end_cmp.shaped (by decide)) (end_cmp.shaped (by decide)) ⟨false, by rw [end_cmp.same]; rfl, ite_b (fun e => by cases e) fun _ => b_nil ?_⟩
  have xBF := xBD.trans (bz.trans (bE.trans bF)).ex
  have TF := tabs_new (tabs_new (tabs_new (tabs_new TC bD) bz) bE) bF
  have hRF := hRB.ext xBF
  have xF := xB.trans xBF
  clear h1 hq bE bF bz hz dd bD hbu nS xC TC xBD xBF hRB hmB xB TB
  -- a course
  refine b_cons (s_if (t_cmp (e_call (C.mono (by decide)) D3 (a_cons (e_name 1 (v := .ref r) (a_cons (e_lits (K := K) (l := []) (ds := lC.map .str) Here.nil (lits_cons lit_str (lits_cons lit_str (lits_cons lit_str lits_nil))) fun q vs HG bG hq _ hd => a_nil ?_)))) rfl (fun _ _ _ _ _ _ us hl => match us, hl with | [_, _], _ => rfl))))
  refine ⟨r, Rd, .ref q, [], lC, rfl, hRF.but bG (by simp), rd_ok, msg_of hq hd ok_C (by decide), tabs_new TF bG, fun cq us HI xI TI _ hcq hus => ?_⟩
  rw [cour_C] at hus
  refine e_lits (K := K) (l := []) (ds := cD) Here.nil (lits_cons (lit_tup Here.nil (lits_cons lit_int (lits_cons lit_str lits_nil))) (lits_cons (lit_tup Here.nil (lits_cons lit_int (lits_cons lit_str lits_nil))) (lits_cons (lit_tup Here.nil (lits_cons lit_int (lits_cons lit_str lits_nil))) (lits_cons (lit_tup Here.nil (lits_cons lit_int (lits_cons lit_str lits_nil))) lits_nil)))) fun q2 vs2 HJ bJ hq2 _ hd2 => ?_
  refine c_neD C (l := []) (m := []) (d := .list cD) (f := .list cD) (.lst (.inl (.inl (bJ _ _ (by simp) hcq))) (by simp) (hus.but bJ)) (.lst (.inl (.inl hq2)) (by simp) hd2) (cD_cmp.shaped (by decide)) (cD_cmp.shaped (by decide)) ⟨false, by rw [cD_cmp.same]; rfl, ite_b (fun e => by cases e) fun _ => b_nil ?_⟩
  have xFJ := bG.ex.trans (xI.trans bJ.ex)
  have hRJ := hRF.ext xFJ
  have xJ := xF.trans xFJ
  have TJ := tabs_new TI bJ
  clear hd2 hq2 hus hcq hd hq bG bJ xI TI xFJ hRF xF TF
  -- a message that is no mail
  refine b_cons (s_ret (e_cmp (e_call (C.mono (by decide)) D4 (a_cons (e_name 1 (v := .ref r) (a_cons (e_lits (K := K) (l := []) (ds := lG.map .str) Here.nil (lits_cons lit_str (lits_cons lit_str (lits_cons lit_str (lits_cons lit_str (lits_cons lit_str (lits_cons lit_str (lits_cons lit_str lits_nil))))))) fun q vs HK bK hq _ hd => a_nil ?_)))) rfl (fun _ _ _ _ _ _ us hl => match us, hl with | [_, _], _ => rfl))))
  refine ⟨r, Rd, .ref q, [], lG, rfl, hRJ.but bK (by simp), rd_ok, msg_of hq hd ok_G (by decide), tabs_new TJ bK, (fun e => by rw [ref_G] at e; cases e), fun _ a S HL xL TL nS hbu => ?_⟩
  rw [tree_G] at hbu
  refine e_lit (K := K) (l := []) (d := dG) (lit_lst Here.nil (lits_cons (lit_lst Here.nil (lits_cons (lit_lst Here.nil (lits_cons (lit_lst Here.nil (lits_cons lit_str lits_nil)) lits_nil)) lits_nil)) (lits_cons (lit_lst Here.nil (lits_cons (lit_lst Here.nil lits_nil) lits_nil)) lits_nil))) fun v1 HM bM dd => ?_
  refine c_eqD C (l := []) (m := []) (f := dG) ((hbu.but bM (by simp)).dd (by simp)) dd (dG_cmp.shaped (by decide)) (dG_cmp.shaped (by decide)) ?_
  rw [dG_cmp.same]
  exact hQ _ (xJ.trans (bK.ex.trans (xL.trans bM.ex))) (tabs_new TL bM)
end
end K68

set_option Elab.async false
set_option linter.all false
set_option maxRecDepth 100000
set_option maxHeartbeats 4000000
namespace K68
open PySem PySem.Spec PyProof.Rows L2 Z LamX
/-! ### the law -/
theorem Pot.ext {H H' : Hp} {p : Addr} (h : Pot H p) (e : Ex [] H H') : Pot H' p := let ⟨a, b, x, r⟩ := h; ⟨a, b, e.lst (by simp) x, r⟩
theorem Pot.lsts {H : Hp} {p : Addr} (h : Pot H p) : ∀ q ∈ [p], ∃ xs, H q = some (.lst xs) := fun q hq => by
  obtain ⟨a, b, e, _⟩ := h
  rw [List.mem_singleton.mp hq]
  exact ⟨_, e⟩
theorem IsModel.potX {R : RData} {H H' : Hp} {m p : Addr} (h : IsModel R H m) (ok : R.Ok) (hp : Pot H p) (b : Ex [p] H H') : IsModel R H' m := by
  obtain ⟨ml, h1, h2⟩ := h.ex
  obtain ⟨x, y, e, _⟩ := hp
  refine ⟨ml, b _ _ (fun z => ?_) h1 (fun _ z => by cases z), b _ _ (fun z => ?_) h2 (fun _ z => by cases z)⟩
  · rw [List.mem_singleton.mp z, e] at h1
    cases h1
  · rw [List.mem_singleton.mp z, e] at h2
    exact ms_ne ok (HO.lst.inj (Option.some.inj h2)).symm
theorem IsReader.potX {CR : Addr} {R : RData} {H H' : Hp} {r p : Addr} (h : IsReader CR R H r) (ok : R.Ok) (hp : Pot H p) (b : Ex [p] H H') : IsReader CR R H' r := by
  obtain ⟨dx, ml, cd, h1, h2, h3⟩ := h.ex
  obtain ⟨x, y, e, _⟩ := hp
  refine ⟨dx, ml, cd, b _ _ (fun z => ?_) h1 (fun _ z => by cases z), b _ _ (fun z => ?_) h2 (fun _ z => by cases z), b _ _ (fun z => ?_) h3 (fun _ z => by cases z)⟩
  · rw [List.mem_singleton.mp z, e] at h1
    cases h1
  · rw [List.mem_singleton.mp z, e] at h2
    exact ms_ne ok (HO.lst.inj (Option.some.inj h2)).symm
  · rw [List.mem_singleton.mp z, e] at h3
    cases h3
section
variable {X : Cx} {k : Nat} {W : WX} {σ : L2.St} {H : Hp} {Q : VK} {elt iter : Expr} {scope : Scope} {y : Str} {py p pos cpos : Pos}
/-- all([.. for y in iter]), each of them true -/
theorem e_allTrue {Pt : Addr} (own : List (Str × Nat)) (i : Nat) (C : Cxt X k W) (hT : Tabs (tabsM Pt) H)
    (hit : wE X iter σ H fun x H1 => ∃ (L : Addr) (vs : List V), x = .ref L ∧ H1 L = some (.lst vs) ∧ vs.length ≤ 1000000 ∧ But [] H H1 ∧ ∀ (j : Nat) (v : V) (H' : Hp), vs[j]? = some v → Ex [] H1 H' → Tabs (tabsM Pt) H' → wEb X scope elt ((wipe σ (own.map (·.2))).set i (some v)) H' fun b H2 => b = .bl true ∧ Ex [] H' H2 ∧ Tabs (tabsM Pt) H2)
    (hq : ∀ H', Ex [] H H' → Tabs (tabsM Pt) H' → Q (.bl true) H') (hgl : Gl X "all" := by rfl) (hst : starEach [.ListComp elt [⟨.Name y py, iter, [], 0⟩] scope cpos] X.env = [(false, eval (.ListComp elt [⟨.Name y py, iter, [], 0⟩] scope cpos) X.env)] := by rfl)
    (hw : ∀ x, wipe ((wipe σ (own.map (·.2))).set i (some x)) (own.map (·.2)) = wipe σ (own.map (·.2)) := by intro _; rfl) (hi : X.N[i]? = some y := by rfl)
    (hx : Loc (relS scope X.env.scope) y := by first | exact Or.inl rfl | exact Or.inr rfl) (hf : (scope.names.lookup y == some .cell) = true ∨ (relS scope X.env.scope).names.lookup y = some .local := by first | exact .inl rfl | exact .inr rfl)
    (ok : BlkOk X.N X.env.scope scope own := by exact blkOk_by (by first | rfl | kernel_rfl)) (hs : ∀ x, foldedSetIterable iter X.env x = pure x := by intro _; rfl) :
    wE X (.Call (.Name "all" p) [.ListComp elt [⟨.Name y py, iter, [], 0⟩] scope cpos] [] pos) σ H Q := by
  refine e_all C (e_lc own C (i_list (wE_mono hit fun x H1 ⟨L, vs, e, hL, hvl, b1, he⟩ => ⟨L, e, ⟨vs, .inl (.inl hL)⟩, _, _, _, walk_list (xs := vs), fun D hD => ?_⟩)) ok hs) hgl hst
  have T1 := tabs_new hT b1
  have nLD : L ≠ D := ne_of_none hL hD
  refine ⟨fun j H' => Ex [] H1 H' ∧ Tabs (tabsM Pt) H' ∧ H' D = some (.lst (List.replicate j (.bl true))), ⟨(But.new hD).ex, tabs_new T1 (But.new hD), upd_same⟩, fun j H' _ h => .inl (.inl (h.1.lst (by simp) hL)), ?_, ?_⟩
  · rintro j x H3 H' hj ⟨x3, T3, hD3⟩ ⟨rfl, hx'⟩
    refine lc_plain (i := i) C.nd (fun s H0 Ca cl fp => wE_mono (he j x H' hx' x3 T3 s H0 Ca cl fp) fun b H4 ⟨eb, x4, T4⟩ => ?_) (hw x) hi hx hf
    subst eb
    have hD4 := x4.lst (by simp) hD3
    refine ⟨_, hD4, by rw [List.length_replicate, sizeLine_eq]; omega, fun q o _ e h => ?_, tabs_but T4 (But.at (l := [D]) (by simp)) (fun q hq => ⟨List.replicate j (.bl true), by rw [List.mem_singleton.mp hq]; exact hD4⟩), ?_⟩
    · rw [upd_ne (ne_of_none e hD)]
      exact (x3.trans x4) q o (by simp) e h
    · rw [upd_same, ← List.replicate_succ']
  · rintro H3 ⟨x3, T3, hD3⟩
    refine ⟨D, List.replicate vs.length true, rfl, .inl (.inl (by rw [hD3, List.map_replicate])), ?_⟩
    have : (List.replicate vs.length true).all id = true := by simp
    rw [this]
    exact hq H3 (b1.ex.trans x3) T3
end
theorem elv1 (n : Nat) : ((n + 1 - n : Nat) : Int) = 1 := by omega
theorem rows60 {R : RData} (ok : R.Ok) : ∀ {n : Nat} {d : PyData}, n ≤ R.ms.length → bushOk R.g n d = true → ∀ x ∈ rowsOf R n d, isLine R.g (.str x.2) = true ∧ x.2.length ≤ 60
  | 0, d, hn, hb, x, hx => by
    simp only [bushOk, Bool.and_eq_true, List.all_eq_true] at hb
    obtain ⟨y, hy, rfl⟩ := List.mem_map.mp hx
    have h1 := hb.2 y hy
    obtain ⟨z, rfl⟩ : ∃ z, y = .str z := by cases y <;> simp [leafOk] at h1; exact ⟨_, rfl⟩
    simp only [leafOk, Bool.and_eq_true, decide_eq_true_eq] at h1
    exact h1
  | n + 1, d, hn, hb, x, hx => by
    simp only [bushOk, Bool.and_eq_true, List.all_eq_true] at hb
    simp only [rowsOf, List.mem_append, List.mem_flatMap, List.mem_cons, List.not_mem_nil, or_false] at hx
    rcases hx with ⟨y, hy, rfl | hx⟩ | rfl
    · have := lineOf_ok ok (small_of ok) (nx := true) (lv := R.ms.length - n) (by omega) (by omega)
      exact ⟨this.1, Nat.le_trans this.2 (by decide)⟩
    · exact rows60 ok (by omega) (hb.2 y hy) x hx
    · have := lineOf_ok ok (small_of ok) (nx := false) (lv := R.ms.length - n) (by omega) (by omega)
      exact ⟨this.1, Nat.le_trans this.2 (by decide)⟩
theorem rows_len2 {R : RData} (ok : R.Ok) {d : PyData} (h : bushOk R.g R.ms.length d = true) : (rowsOf R R.ms.length d).length ≤ 11221 :=
  Nat.le_trans (rows_len h) (rowMax_le ok.ms.2.1)
theorem lns_eq {R : RData} {d : PyData} : lns R R.ms.length d = (linesOf R d).map V.str := by simp only [lns, linesOf, List.map_map]; rfl
theorem goes_take {R : RData} : ∀ (pre : List Str) (s : Stand) (r : List Str), (goes R s (pre ++ r)).take pre.length = goes R s pre
  | [], s, r => by simp [goes]
  | x :: pre, s, r => by
    rw [List.cons_append, goes, goes]
    cases step R s x with
    | none => simp
    | some p => simp only [List.length_cons, List.take_succ_cons, goes_take pre p.2 r]
theorem course_take {R : RData} (pre r : List Str) : (courseD R (pre ++ r)).take (pre.length + 1) = courseD R pre := by
  unfold courseD
  rw [List.take_succ_cons, ← List.map_take, goes_take]
theorem dds_take {K : PySem.W.Frag} {l : List Addr} {H : Hp} : ∀ {vs : List V} {ds : List PyData} (n : Nat), DDs K l H vs ds → DDs K l H (vs.take n) (ds.take n)
  | _, _, 0, _ => by simp only [List.take_zero]; exact .nil
  | _, _, _ + 1, .nil => .nil
  | _, _, n + 1, .cons h r => .cons h (dds_take n r)
section
variable {P : Program} {w : World} {K : PySem.W.Frag} {mg : Str → Option Value} {base : Heap} {CR : Addr}
theorem cut_dd {H : Hp} {Q : VK} {q : Addr} {vs : List V} {ds : List PyData} {n : Nat} (hq : H q = some (.lst vs)) (hd : DDs K [] H vs ds) (k : ∀ p H', But [] H H' → DD K [] H' (.ref p) (.list (ds.take n)) → Q (.ref p) H') : rSlL K (.ref q) none (some (n : Int)) H Q :=
  ⟨q, _, rfl, .inl (.inl hq), fun p hp => k p _ (But.new hp) (by rw [cutV_toV]; exact .lst (.inl (.inl upd_same)) (by simp) ((dds_take n hd).but (But.new hp)))⟩
def spRightV (Pt : Addr) : Sp := fun vs H Q _ => ∃ p, vs = [.ref p] ∧ Pot H p ∧ Tabs (tabsM Pt) H ∧ ∀ H', Ex [p] H H' → Tabs (tabsM Pt) H' → Q (.bl true) H'
theorem scRi : FnScope ["pot", "model", "rd", "rules_now", "bush", "mail", "at", "other_mail", "relayed", "line", "near"] ["pot"] (defScope (top 136)) := ⟨rfl, rfl, rfl, by decide +kernel, rfl, by decide +kernel, by decide +kernel⟩
theorem d_rightV {Pt : Addr} (B : Blt mg base) (D : At K mg "_law_right" (top 136)) (Dmo : Def P w K mg base 4 "_law_model" (top 118) ["pot"] spModel)
    (D0 : Def P w K mg base 1 "_law_draw" (top 115) ["pot", "many"] spDraw) (Drd : Def P w K mg base 6 "_law_reader" (top 119) ["model"] (spRd CR)) (Dne : Def P w K mg base 4 "_law_near_line" (top 125) ["pot", "model"] spNear)
    (Dru : Def P w K mg base 4 "_law_rules" (top 130) ["pot", "signs"] spRules) (Dtu : Def P w K mg base 1 "_law_turn" (top 131) ["rules", "line"] spTurn)
    (Dwb : ∀ n, Def P w K mg base (n + 5) "_law_wide_bush" (top 133) ["pot", "model", "depth"] (spWb n)) (Dm : ∀ n, Def P w K mg base (n + 2) "_law_mail" (top 127) ["model", "bush", "level"] (spMail n))
    (Ddu : ∀ n, Def P w K mg base (n + 1) "_law_due" (top 128) ["model", "bush", "level"] (spDue n)) (D1 : Def P w K mg base 12 "written" (top 105) ["reader", "tree"] (spWritten CR)) (D2 : Def P w K mg base 12 "own_telling" (top 106) ["reader", "tree"] (spTelling K CR))
    (D3 : Def P w K mg base 8 "course" (top 111) ["reader", "message"] (spCourse K CR Pt)) (Dmq : Def P w K mg base 10 "_law_mail_right" (top 134) ["model", "rd", "mail"] (spMq CR Pt)) :
    Def P w K mg base 13 "_law_right" (top 136) ["pot"] (spRightV Pt) := by
  refine def_of D B scRi (fun vs H Q E ⟨_, e, _⟩ => by rw [e]; rfl) fun f cdv A outer s H vs Q E hm C h => ?_
  obtain ⟨p, rfl, hp, T0, hQ⟩ := h
  have sz : ∀ n, n ≤ 16777216 → n ≤ sizeLine := fun n h => by rw [sizeLine_eq]; exact h
  refine b_cons (s_set (i := 1) (e_call (C.mono (by decide)) Dmo (a_cons (e_name 0 (v := .ref p) (a_nil ?_))) rfl (fun _ _ _ _ _ _ us hl => match us, hl with | [_], _ => rfl)) C.nd)
  refine ⟨p, rfl, hp, fun R m H1 ok sm0 hM1 b1 hp1 => ?_⟩
  show wB _ _ _ [some (.ref p), some (.ref m), none, none, none, none, none, none, none, none, none] _
  have m1 := ok.ms.1
  have m3 := ok.ms.2.1
  -- rd, rules_now
  refine b_cons (s_asg (e_tup ?_))
  refine a_cons (e_call (C.mono (by decide)) Drd (a_cons (e_name 1 (v := .ref m) (a_nil ?_))) rfl (fun _ _ _ _ _ _ us hl => match us, hl with | [_], _ => rfl))
  refine ⟨m, R, rfl, hM1, ok, fun r H2 b2 hrn hr => ?_⟩
  obtain ⟨ml, h1, h2⟩ := (hM1.but b2).ex
  refine a_cons (e_call (C.mono (by decide)) Dru (a_cons (e_name 0 (v := .ref p) (a_cons (e_dget C (e_name 1 (v := .ref m) (e_str ⟨rfl, DGet.k (k := .inr "signs") h1, a_nil ?_⟩)))))) rfl (fun _ _ _ _ _ _ us hl => match us, hl with | [_, _], _ => rfl))
  have hp2 := hp1.new b2
  refine ⟨p, R.g, rfl, hp2, ok.g, fun rq rs H3 hrs hdr b3 hp3 => a_nil ⟨sz 2 (by decide), fun tp htp => ?_⟩⟩
  refine g_tup (gs_cons (g_name (i := 2) (gs_cons (g_name (i := 3) (gs_nil ?_) C.nd)) C.nd)) rfl (.inl (.inl upd_same))
  have bt : But [] H3 (upd H3 tp (.tup [.ref r, .ref rq])) := But.new htp
  have hr4 : IsReader CR R (upd H3 tp (.tup [.ref r, .ref rq])) r := (IsReader.pot hr ok hp2 b3).but bt (by simp)
  have hM4 := ((hM1.but b2).pot ok hp2 b3).but bt
  have hd4 := hdr.but bt.of
  have hp4 := hp3.new bt
  have b04 : But [p] H (upd H3 tp (.tup [.ref r, .ref rq])) := b1.trans (b2.of.trans (b3.trans bt.of))
  clear h1 h2 hr hM1 hdr bt hp3 htp b1 b2 b3 hp2 hp1 hrn sm0
  generalize upd H3 tp (.tup [.ref r, .ref rq]) = H4 at hr4 hM4 hd4 hp4 b04 ⊢
  -- bush
  obtain ⟨ml, h1, h2⟩ := hM4.ex
  refine b_cons (s_set (i := 4) (e_call (C.mono (by omega)) (Dwb R.ms.length) (a_cons (e_name 0 (v := .ref p) (a_cons (e_name 1 (v := .ref m) (a_cons (e_len B (e_dget C (e_name 1 (v := .ref m) (e_str ⟨rfl, DGet.k (k := .inr "marks") h1, R.ms.length, .inl ⟨_, .inl (.inl h2), by simp⟩, a_nil ?_⟩))))))))) rfl (fun _ _ _ _ _ _ us hl => match us, hl with | [_, _, _], _ => rfl)) C.nd)
  refine ⟨p, m, R, rfl, hp4, hM4, ok, fun bq d H5 hb hbd b5 hp5 => ?_⟩
  have hM5 := hM4.pot ok hp4 b5
  have hr5 := IsReader.pot hr4 ok hp4 b5
  have hd5 := hd4.but b5
  have hbd5 := hbd [p] hp4.here (by simp)
  have b05 := b04.trans b5
  clear h1 h2 hM4 hr4 hd4 hbd hp4 b04 b5
  -- mail
  refine b_cons (s_set (i := 5) (e_call (C.mono (by omega)) (Dm R.ms.length) (a_cons (e_name 1 (v := .ref m) (a_cons (e_name 4 (v := .ref bq) (a_cons (e_int (a_nil ?_))))))) rfl (fun _ _ _ _ _ _ us hl => match us, hl with | [_, _, _], _ => rfl)) C.nd)
  refine ⟨m, R, .ref bq, [p], d, by rw [elv1], Nat.le_refl _, hM5, ok, hbd5, hb, fun mq H6 b6 hmqn hmq => ?_⟩
  rw [lns_eq] at hmq
  have hok : ∀ y ∈ linesOf R d, isLine R.g (.str y) = true ∧ y.length ≤ 60 := fun y hy => by
    obtain ⟨x, hx, rfl⟩ := List.mem_map.mp hy
    exact rows60 ok (Nat.le_refl _) hb x hx
  have hfew : (linesOf R d).length ≤ 11221 := by rw [linesOf, List.length_map]; exact rows_len2 ok hb
  have ht := bush_tree hb
  have hrl : (rowsOf R R.ms.length d).length ≤ 20000 := Nat.le_trans (rows_len2 ok hb) (by decide)
  have lc : CmpZ 1 (.list ((linesOf R d).map .str)) := strs_cmp fun y hy => isLine_ascii ok.g (hok y hy).1
  have rc := roles_cmp (R := R) (d := d)
  have hM6 := hM5.but b6
  have hr6 := hr5.but b6 (by simp)
  have hd6 := hd5.but b6.of
  have hbd6 := hbd5.but b6.of
  have hp6 := hp5.new b6
  have b06 := b05.trans b6.of
  clear hM5 hr5 hd5 hbd5 hp5 b05 b6
  refine b_cons (s_ifB false ?_ (fun e => by cases e) (fun _ H7 b7 => b_nil ?_))
  · refine t_boolop (w_or (t_cmp (e_call (C.mono (by decide)) D1 (a_cons (e_name 2 (v := .ref r) (a_cons (e_name 4 (v := .ref bq) (a_nil ?_))))) rfl (fun _ _ _ _ _ _ us hl => match us, hl with | [_, _], _ => rfl))))
    refine ⟨r, R, .ref bq, [p], d, rfl, hr6, ok, hbd6, ht, hrl, fun q1 H7 b7 _ h1 => e_name 5 (v := .ref mq) ?_⟩
    refine c_neD C (l := []) (m := []) (d := .list ((linesOf R d).map .str)) (f := .list ((linesOf R d).map .str)) (.lst (.inl (.inl h1)) (by simp) (DDs.strs _)) (.lst (.inl (.inl (b7 _ _ (by simp) hmq))) (by simp) (DDs.strs _)) (lc.shaped (by decide)) (lc.shaped (by decide)) ⟨false, by rw [lc.same]; rfl, ite_b (fun e => by cases e) fun _ => ?_⟩
    refine w_or1 (t_cmp (e_call (C.mono (by decide)) D2 (a_cons (e_name 2 (v := .ref r) (a_cons (e_name 4 (v := .ref bq) (a_nil ?_))))) rfl (fun _ _ _ _ _ _ us hl => match us, hl with | [_, _], _ => rfl)))
    refine ⟨r, R, .ref bq, [p], d, rfl, hr6.but b7 (by simp), ok, hbd6.but b7.of, ht, hrl, fun q2 ws2 H8 b8 _ h2 d2 => ?_⟩
    refine e_call (C.mono (by omega)) (Ddu R.ms.length) (a_cons (e_name 1 (v := .ref m) (a_cons (e_name 4 (v := .ref bq) (a_cons (e_int (a_nil ?_))))))) rfl (fun _ _ _ _ _ _ us hl => match us, hl with | [_, _, _], _ => rfl)
    have b78 := b7.trans b8
    refine ⟨m, R, .ref bq, [p], d, by rw [elv1], Nat.le_refl _, hM6.but b78, ok, hbd6.but b78.of, hb, fun q3 ws3 H9 b9 _ h3 d3 => ?_⟩
    exact c_neD C (l := []) (m := []) (d := .list (rolesD R d)) (f := .list (rolesD R d)) (.lst (.inl (.inl (b9 _ _ (by simp) h2))) (by simp) (d2.but b9)) (.lst (.inl (.inl h3)) (by simp) (d3 [] Here.nil).all) (rc.shaped (by decide)) (rc.shaped (by decide)) ⟨false, by rw [rc.same]; rfl, rfl, b78.trans b9⟩
  have hM7 := hM6.but b7
  have hr7 := hr6.but b7 (by simp)
  have hd7 := hd6.but b7.of
  have hp7 := hp6.new b7
  have b07 := b06.trans b7.of
  have hm7 : RowS H7 mq (linesOf R d) := b7 _ _ (by simp) hmq
  have l1 : 1 ≤ (linesOf R d).length := by
    rw [linesOf, List.length_map]
    obtain ⟨k, hk⟩ : ∃ k, R.ms.length = k + 1 := ⟨R.ms.length - 1, by omega⟩
    rw [hk, rowsOf, List.length_append, List.length_singleton]
    omega
  have nmp : mq ∉ [p] := fun z => by
    obtain ⟨a, b, e, _⟩ := hp7
    rw [← List.mem_singleton.mp z, show H7 mq = _ from hm7] at e
    cases h : linesOf R d with
    | nil => rw [h] at e; cases e
    | cons y l => rw [h] at e; simp at e
  clear hM6 hr6 hd6 hbd6 hp6 b06 hmq b7 hmqn
  generalize linesOf R d = ls at hok hfew lc hm7 l1
  -- at
  refine b_cons (s_set (i := 6) (e_max2 C (e_int (e_bin (e_bin (e_len B (e_name 5 (v := .ref mq) ⟨ls.length, .inl ⟨_, .inl (.inl hm7), by simp⟩, e_int (o_sub (e_call (C.mono (by decide)) D0 (a_cons (e_name 0 (v := .ref p) (a_cons (e_int (a_nil ?_))))) rfl (fun _ _ _ _ _ _ us hl => match us, hl with | [_, _], _ => rfl)))⟩)))))) C.nd)
  refine ⟨p, 5, rfl, hp7, by decide, by decide, fun r8 H8 r0 r1 b8 hp8 => o_sub ⟨_, _, rfl, rfl, ?_⟩⟩
  obtain ⟨a, ha, ea⟩ : ∃ a : Nat, a ≤ ls.length ∧ (if ((ls.length : Nat) : Int) - 1 - r8 > 0 then ((ls.length : Nat) : Int) - 1 - r8 else 0) = (a : Int) := by
    split
    · exact ⟨(((ls.length : Nat) : Int) - 1 - r8).toNat, by omega, by omega⟩
    · exact ⟨0, by omega, rfl⟩
  rw [ea]
  have e1a : ((a : Nat) : Int) + 1 = ((a + 1 : Nat) : Int) := by omega
  have hm8 : RowS H8 mq ls := b8 _ _ nmp hm7
  have hM8 := hM7.pot ok hp7 b8
  have hr8 := IsReader.pot hr7 ok hp7 b8
  have hd8 := hd7.but b8
  have b08 := b07.trans b8
  clear hM7 hr7 hd7 hp7 b07 hm7 b8
  -- other_mail
  refine b_cons (s_set (i := 7) (e_bin (e_bin (e_slice sl_list (e_name 5 (v := .ref mq) (p_none (p_some (e_name 6 (v := .int (a : Nat)) ⟨_, rfl, rs_to hm8 fun s1 H9 b9 n9 r9 => ?_⟩))))))) C.nd)
  have hp9 := hp8.new b9
  have n1p : s1 ∉ [p] := by simpa using hp8.there n9
  refine e_lst (a_cons (e_call (C.mono (by decide)) Dne (a_cons (e_name 0 (v := .ref p) (a_cons (e_name 1 (v := .ref m) (a_nil ?_))))) rfl (fun _ _ _ _ _ _ us hl => match us, hl with | [_, _], _ => rfl)))
  refine ⟨p, m, R, rfl, hp9, hM8.but b9, ok, small_of ok, fun y HA hy hy16 bA hpA => a_nil ⟨sz 1 (by decide), fun s2 hs2 => ?_⟩⟩
  have r9A : RowS HA s1 (ls.take a) := bA _ _ n1p r9
  have c2 : But [] HA (upd HA s2 (.lst [.str y])) := But.new hs2
  have tl : (ls.take a).length = a := by rw [List.length_take]; omega
  have dl : (ls.drop (a + 1)).length + a ≤ ls.length := by rw [List.length_drop]; omega
  refine o_catS (ys := [y]) (r9A.new c2) (by unfold RowS; rw [upd_same]; rfl) (by rw [tl]; show a + 1 ≤ _; omega) fun s3 HB bB n3 r3 => ?_
  have b8B : But [p] H8 HB := b9.of.trans (bA.trans (c2.of.trans bB.of))
  have hmB : RowS HB mq ls := b8B _ _ nmp hm8
  refine e_slice sl_list (e_name 5 (v := .ref mq) (p_some (e_bin (e_name 6 (v := .int (a : Nat)) (e_int (o_add ⟨_, rfl, p_none ?_⟩))))))
  rw [e1a]
  refine rs_from hmB fun s4 HC bC n4 r4 => o_catS (r3.new bC) r4 (by rw [List.length_append, tl]; show a + 1 + _ ≤ _; omega) fun oq HD bD n5 r5 => ?_
  have bBD := bC.trans bD
  have b8D : But [p] H8 HD := b8B.trans bBD.of
  have hpD := hpA.new (c2.trans (bB.trans bBD))
  have hmD := hmB.new bBD
  have hMD := hM8.pot ok hp8 b8D
  have hrD := IsReader.pot hr8 ok hp8 b8D
  have hdD := hd8.but b8D
  have b0D := b08.trans b8D
  have TD := tabs_but T0 b0D hp.lsts
  have om : (ls.take a ++ [y] ++ ls.drop (a + 1)) = ls.take a ++ (y :: ls.drop (a + 1)) := by rw [List.append_assoc]; rfl
  rw [om] at r5
  have hsp : ls = ls.take a ++ ls.drop a := (List.take_append_drop a ls).symm
  have hoo : ∀ z ∈ ls.take a ++ (y :: ls.drop (a + 1)), isLine R.g (.str z) = true ∧ z.length ≤ 60 := fun z hz => by
    rcases List.mem_append.mp hz with hz | hz
    · exact hok z (List.mem_of_mem_take hz)
    · rcases List.mem_cons.mp hz with rfl | hz
      · exact ⟨hy, by omega⟩
      · exact hok z (List.mem_of_mem_drop hz)
  have hol : (ls.take a ++ (y :: ls.drop (a + 1))).length ≤ 11222 := by rw [List.length_append, List.length_cons, tl]; omega
  have c1 : courseD R (ls.take a ++ (y :: ls.drop (a + 1))) = courseD R (ls.take a ++ (y :: ls.drop (a + 1))) := rfl
  have t1 : (courseD R (ls.take a ++ (y :: ls.drop (a + 1)))).take (a + 1) = courseD R (ls.take a) := by
    have := course_take (R := R) (ls.take a) (y :: ls.drop (a + 1))
    rwa [tl] at this
  have t2 : (courseD R ls).take (a + 1) = courseD R (ls.take a) := by
    have := course_take (R := R) (ls.take a) (ls.drop a)
    rw [List.take_append_drop, tl] at this
    exact this
  clear c1 hsp om r9A r9 r3 r4 c2 bB bC bD bBD b8B hmB hpA hp9 b9 bA hs2 n9 n3 n4 hm8 hM8 hr8 hd8 b08 b8D n1p
  generalize ls.take a ++ (y :: ls.drop (a + 1)) = os at r5 hoo hol t1
  -- the courses begin alike
  have cc := course_cmp (R := R) (ls := ls.take a)
  refine b_cons (s_if (t_cmp (e_slice sl_list (e_call (C.mono (by decide)) D3 (a_cons (e_name 2 (v := .ref r) (a_cons (e_name 7 (v := .ref oq) (a_nil ?_))))) rfl (fun _ _ _ _ _ _ us hl => match us, hl with | [_, _], _ => rfl)))))
  refine ⟨r, R, .ref oq, [], os, rfl, hrD, ok, msg_of r5 (DDs.strs _) (fun z hz => ⟨(hoo z hz).1, by have := (hoo z hz).2; omega⟩) (by omega), TD, fun cq us HE xE TE _ hcq hus => p_none (p_some (e_bin (e_name 6 (v := .int (a : Nat)) (e_int (o_add ⟨_, rfl, ?_⟩)))))⟩
  rw [e1a]
  refine cut_dd hcq hus fun cp HF bF dF => ?_
  rw [t1] at dF
  have xDF := xE.trans bF.ex
  have TF := tabs_new TE bF
  refine e_slice sl_list (e_call (C.mono (by decide)) D3 (a_cons (e_name 2 (v := .ref r) (a_cons (e_name 5 (v := .ref mq) (a_nil ?_))))) rfl (fun _ _ _ _ _ _ us hl => match us, hl with | [_, _], _ => rfl))
  refine ⟨r, R, .ref mq, [], ls, rfl, hrD.ext xDF, ok, msg_of (xDF.lst (by simp) hmD) (DDs.strs _) (fun z hz => ⟨(hok z hz).1, by have := (hok z hz).2; omega⟩) (by omega), TF, fun cq2 us2 HG xG TG _ hcq2 hus2 => p_none (p_some (e_bin (e_name 6 (v := .int (a : Nat)) (e_int (o_add ⟨_, rfl, ?_⟩)))))⟩
  rw [e1a]
  refine cut_dd hcq2 hus2 fun cp2 HH bH dH => ?_
  rw [t2] at dH
  refine c_neD C (l := []) (m := []) (dF.ex (xG.trans bH.ex)) dH (cc.shaped (by decide)) (cc.shaped (by decide)) ⟨false, by rw [cc.same]; rfl, ite_b (fun e => by cases e) fun _ => b_nil ?_⟩
  have xDH := xDF.trans (xG.trans bH.ex)
  have TH := tabs_new TG bH
  have hmH : RowS HH mq ls := xDH.lst (by simp) hmD
  have hoH : RowS HH oq os := xDH.lst (by simp) r5
  have hMH := hMD.ext xDH
  have hrH := hrD.ext xDH
  have hdH := hdD.ex (xDH.mono (by simp))
  have x0H : Ex [p] H HH := b0D.ex.trans (xDH.mono (by simp))
  clear dH hus2 hcq2 dF hus hcq xE xG bF bH xDF TE TF TG hmD r5 hMD hrD hdD b0D TD hpD xDH t1 t2 cc
  -- relayed
  refine b_cons (s_setLc (i := 8) [("line", 9)] C (i_list (e_name 5 (v := .ref mq) ⟨mq, rfl, ⟨_, .inl (.inl hmH)⟩, _, _, _, walk_list (xs := ls.map V.str), fun L hL => ?_⟩)))
  refine ⟨fun i H' => But [] HH H' ∧ ∃ zs : List Str, zs.length = i ∧ H' L = some (.lst (zs.map V.str)) ∧ ∀ z ∈ zs, isLine R.g (.str z) = true ∧ z.length ≤ 1000, ⟨But.new hL, [], rfl, upd_same, fun v hv => by simp at hv⟩, fun i H' _ h => .inl (.inl (h.1 _ _ (by simp) hmH)), ?_, ?_⟩
  · rintro i x HI H' hi ⟨bI, zs, hzl, hLI, hzs⟩ ⟨rfl, hx⟩
    rw [List.getElem?_map, Option.map_eq_some_iff] at hx
    obtain ⟨y2, hy2, rfl⟩ := hx
    rw [List.length_map] at hi
    have ho2 := hok y2 (List.mem_of_getElem? hy2)
    refine lc_plain (i := 9) C.nd fun s H0 Ca cl fp => ?_
    refine e_call ((C.mono (by decide)).blk _ _ _ _ _) Dtu (a_cons (e_name 3 (v := .ref rq) (a_cons (e_name 9 (v := .str y2) (a_nil ?_))))) rfl (fun _ _ _ _ _ _ us hl => match us, hl with | [_, _], _ => rfl)
    refine ⟨rq, y2, R.g, [p], rs, rfl, hdH.but bI.of, hrs, ho2.1, by omega, fun z HJ hz hzl2 bJ => ?_⟩
    refine ⟨_, bJ _ _ (by simp) hLI, by rw [sizeLine_eq, List.length_map]; omega, ?_, zs ++ [z], by simp [hzl], by rw [upd_same]; simp, fun q hq => ?_⟩
    · intro q o nq e
      rw [upd_ne (ne_of_none e hL)]
      exact bJ _ _ nq (bI _ _ nq e)
    · rcases List.mem_append.mp hq with hq | hq
      · exact hzs q hq
      · rw [List.mem_singleton.mp hq]
        exact ⟨hz, by omega⟩
  rintro HI ⟨bI, zs, hzl, hLI, hzs⟩
  rw [List.length_map] at hzl
  have TI := tabs_new TH bI
  have hMI := hMH.but bI
  have hrI := hrH.but bI (by simp)
  have hmI := hmH.new bI
  have hoI := hoH.new bI
  refine b_cons (s_ret (e_allTrue (Pt := Pt) [("near", 10)] 10 C TI (e_lst (a_cons (e_name 5 (v := .ref mq) (a_cons (e_name 7 (v := .ref oq) (a_cons (e_name 8 (v := .ref L) (a_nil ⟨sz 3 (by decide), fun LL hLL => ⟨LL, _, rfl, upd_same, by simp, But.new hLL, fun j v H' hv x T' s0 H0 Ca cl fp => ?_⟩⟩)))))))) fun H' x T' => hQ H' (x0H.trans ((bI.ex.trans x).mono (by simp))) T'))
  have bL : But [] HI (upd HI LL (.lst [.ref mq, .ref oq, .ref L])) := But.new hLL
  have x2 := bL.ex.trans x
  have key : ∃ (a : Addr) (ys : List Str), v = .ref a ∧ H' a = some (.lst (ys.map V.str)) ∧ (∀ z ∈ ys, isLine R.g (.str z) = true ∧ z.length ≤ 1000) ∧ ys.length ≤ 20000 := by
    match j, hv with
    | 0, hv => cases hv; exact ⟨mq, ls, rfl, x2.lst (by simp) hmI, fun z hz => ⟨(hok z hz).1, by have := (hok z hz).2; omega⟩, by omega⟩
    | 1, hv => cases hv; exact ⟨oq, os, rfl, x2.lst (by simp) hoI, fun z hz => ⟨(hoo z hz).1, by have := (hoo z hz).2; omega⟩, by omega⟩
    | 2, hv => cases hv; exact ⟨L, zs, rfl, x2.lst (by simp) hLI, hzs, by omega⟩
    | j + 3, hv => simp at hv
  obtain ⟨na, ys, rfl, hna, hyo, hyl⟩ := key
  refine e_call ((C.mono (by decide)).blk _ _ _ _ _) Dmq (a_cons (e_name 1 (v := .ref m) (a_cons (e_name 2 (v := .ref r) (a_cons (e_name 10 (v := .ref na) (a_nil ?_))))))) rfl (fun _ _ _ _ _ _ us hl => match us, hl with | [_, _, _], _ => rfl)
  exact ⟨m, r, na, R, ys, rfl, hMI.ext x2, hrI.ext x2, ok, hna, hyo, hyl, T', fun H'' x3 T2 => ⟨rfl, x3, T2⟩⟩
end
end K68

set_option Elab.async false
set_option linter.all false
set_option maxRecDepth 100000
set_option maxHeartbeats 4000000
namespace K68
open PySem PySem.Spec PyProof.Rows L2 Z LamX
theorem ite_nt {p q : Prop} (h : q) : if (!true) = true then p else q := by simpa using h
section
variable {P : Program} {w : World} {K : PySem.W.Frag} {mg : Str → Option Value} {base : Heap} {CR : Addr}
theorem ex_late2 {l : List Addr} {H H1 H2 : Hp} (a : Ex [] H H1) (b : Ex l H1 H2) (n : ∀ q ∈ l, H q = none) : Ex [] H H2 := fun q o _ e h => b q o (fun z => by rw [n q z] at e; cases e) (a q o (by simp) e h) h
def spLawV (K : PySem.W.Frag) (Pt : Addr) : Sp := fun vs H Q _ => ∃ (a : Addr) (ns : List Int), vs = [.ref a] ∧ SqL K H a (ns.map V.int) ∧ ns.length ≤ 63 ∧ Tabs (tabsM Pt) H ∧ ∀ H', Q (.bl true) H'
theorem scLw : FnScope ["script", "k"] ["script"] (defScope (top 137)) := ⟨rfl, rfl, rfl, by decide +kernel, rfl, by decide +kernel, by decide +kernel⟩
theorem d_lawV {Pt : Addr} (B : Blt mg base) (D : At K mg "law" (top 137)) (Da : Def P w K mg base 13 "_law_known_right" (top 135) [] (spKn Pt)) (D1 : Def P w K mg base 1 "_law_pot" (top 114) ["script", "k"] (spPotMk K)) (D2 : Def P w K mg base 13 "_law_right" (top 136) ["pot"] (spRightV Pt)) :
    DefG P w K mg base 14 "law" (top 137) ["script"] (spLawV K Pt) := by
  refine defG_of D B scLw (fun vs H Q E ⟨_, _, e, _⟩ => by rw [e]; rfl) fun f cdv A outer s H vs Q E hm C g h => ?_
  obtain ⟨a, ns, rfl, ha0, hn, hT0, hQ⟩ := h
  refine b_cons (s_if (t_not (t_val (e_call0 C Da ?_))))
  refine ⟨rfl, hT0, fun H0 x0 hT => ⟨true, rfl, ite_nt (b_nil ?_)⟩⟩
  have ha := x0.sql (by simp) ha0
  clear ha0 hT0
  refine b_cons (s_ret (e_all C (e_lc [("k", 1)] C (i_range1 B (e_max2 C (e_int (e_min2 C (e_int (e_len B (e_name 0 ?_))))))))))
  refine ⟨ns.length, .inl ⟨_, ha, by simp⟩, _, _, rfl, rfl, _, _, rfl, rfl, ?_⟩
  have hj : ∃ j : Nat, j ≤ 2 ∧ (if (if ((ns.length : Nat) : Int) < 2 then ((ns.length : Nat) : Int) else 2) > 1 then (if ((ns.length : Nat) : Int) < 2 then ((ns.length : Nat) : Int) else 2) else 1) = (j : Int) := by
    by_cases h4 : ((ns.length : Nat) : Int) < 2
    · rw [if_pos h4]
      by_cases h1 : ((ns.length : Nat) : Int) > 1
      · rw [if_pos h1]
        exact ⟨ns.length, by omega, rfl⟩
      · rw [if_neg h1]
        exact ⟨1, by decide, rfl⟩
    · rw [if_neg h4]
      exact ⟨2, by decide, rfl⟩
  obtain ⟨j, j4, ej⟩ := hj
  refine ⟨_, rfl, ?_⟩
  rw [ej]
  refine ⟨by omega, by omega, j, _, _, walk_range, fun Dl hDl => ⟨fun i H' => Ex [] H0 H' ∧ Tabs (tabsM Pt) H' ∧ H' Dl = some (.lst (List.replicate i (.bl true))), ⟨(But.new hDl).ex, tabs_new hT (But.new hDl), upd_same⟩, fun _ _ _ _ => trivial, ?_, ?_⟩⟩
  · rintro i x H3 H' hi ⟨x3, T3, hD3⟩ ⟨rfl, rfl⟩
    refine lc_plain (i := 1) C.nd fun s H0 Ca cl fp => e_call (C.blk _ _ _ _ _) D2 (a_cons (e_call ((C.mono (by decide)).blk _ _ _ _ _) D1 (a_cons (e_name 0 (v := .ref a) (a_cons (e_name 1 (a_nil ?_))))) rfl (fun _ _ _ _ _ _ us hl => match us, hl with | [_, _], _ => rfl))) rfl (fun _ _ _ _ _ _ us hl => match us, hl with | [_], _ => rfl)
    refine ⟨a, ns, i, by simp, x3.sql (by simp) ha, by omega, by omega, fun p H4 b4 hpn hp4 => a_nil ⟨p, rfl, hp4, tabs_new T3 b4, fun H5 x5 T5 => ?_⟩⟩
    have x35 : Ex [] H' H5 := ex_late2 b4.ex x5 fun q hq => by rw [List.mem_singleton.mp hq]; exact hpn
    have hD5 := x35.lst (by simp) hD3
    refine ⟨_, hD5, by rw [List.length_replicate, sizeLine_eq]; omega, fun q o _ e h => ?_, tabs_but T5 (But.at (l := [Dl]) (by simp)) (fun q hq => ⟨List.replicate i (.bl true), by rw [List.mem_singleton.mp hq]; exact hD5⟩), ?_⟩
    · rw [upd_ne (ne_of_none e hDl)]
      exact (x3.trans x35) q o (by simp) e h
    · rw [upd_same, ← List.replicate_succ']
  · rintro H3 ⟨x3, T3, hD3⟩
    refine ⟨Dl, List.replicate j true, rfl, .inl (.inl (by rw [hD3, List.map_replicate])), ?_⟩
    have : (List.replicate j true).all id = true := by simp
    rw [this]
    exact hQ _
end
end K68

set_option Elab.async false
set_option linter.all false
set_option maxRecDepth 100000
set_option maxHeartbeats 4000000
namespace K68
open PySem PySem.Spec PyProof.Rows L2 Z LamX NdefX
theorem methMono {P : Program} {w : World} {K : PySem.W.Frag} {mg : Str → Option Value} {base : Heap} {j k : Nat} {C : Addr} {m : Str} {ps : List Str} {sp : Sp} (M : MethOk P w K mg base j C m ps sp) (h : j ≤ k) : MethOk P w K mg base k C m ps sp := by
  obtain ⟨f, fd, h1, h2, h3⟩ := M.ex
  exact ⟨f, fd, h1, h2.mono h, h3⟩
structure InitAt (K : PySem.W.Frag) (CR : Addr) : Prop where
  ex : ∃ (f : Addr) (oc kV doc pm cdv ct : Value) (od an : Option Addr) (osl : Array (Option Value)), Mk K CR f ∧ K.lookup f = some ⟨oc, od, .func (PySem.W.fnOf "__init__" "Reader.__init__" (defArgs (clsAt (top 89) 0)) (defBody (clsAt (top 89) 0)) (defScope (clsAt (top 89) 0)) .none kV doc pm an cdv ct), osl⟩ ∧ PySem.W.codeIn K cdv "Reader.__init__" = true ∧ KwdV K kV rKws ∧ PySem.W.keepIn K (.ref f) = true
theorem prop_mk {K : PySem.W.Frag} {CR pr f : Addr} {m q : Str} {st : Stmt} {oc doc pm cdv ct : Value} {od an : Option Addr} {osl : Array (Option Value)} {rest : List Value} (a1 : PySem.W.findIn K (.ref CR) m = some (some (.ref pr))) (a2 : PySem.W.specialIn K (.ref pr) "__get__" = some (some (.builtin "property.__get__")))
    (a3 : PySem.W.takesIn K (.ref pr) = some true) (a4 : PySem.W.recIn K pr "property" = some (.ref f :: rest)) (a5 : K.lookup f = some ⟨oc, od, .func (PySem.W.fnOf m q (defArgs st) (defBody st) (defScope st) .none .none doc pm an cdv ct), osl⟩) (a6 : PySem.W.codeIn K cdv q = true) : PropAt K CR m q st :=
  ⟨pr, f, oc, doc, pm, cdv, ct, od, an, osl, ⟨a1, a2, a3, _, a4⟩, a5, a6⟩
theorem meth_mk {K : PySem.W.Frag} {CR f : Addr} {m q : Str} {st : Stmt} {oc doc pm cdv ct : Value} {od an : Option Addr} {osl : Array (Option Value)} (a1 : PySem.W.findIn K (.ref CR) m = some (some (.ref f))) (a2 : PySem.W.isFn K (.ref f) = true)
    (a3 : PySem.W.keepIn K (.ref f) = true) (a5 : K.lookup f = some ⟨oc, od, .func (PySem.W.fnOf m q (defArgs st) (defBody st) (defScope st) .none .none doc pm an cdv ct), osl⟩) (a6 : PySem.W.codeIn K cdv q = true) : MethAt K CR m q st :=
  ⟨f, oc, doc, pm, cdv, ct, od, an, osl, ⟨a1, a2, a3⟩, a5, a6⟩
theorem initAt_mk {K : PySem.W.Frag} {CR f D : Addr} {oc doc pm cdv ct u1 u2 u3 u4 : Value} {od an : Option Addr} {osl : Array (Option Value)} (a1 : PySem.W.makesIn K CR = true) (a2 : PySem.W.findIn K (.ref CR) "__init__" = some (some (.ref f))) (a3 : PySem.W.isFn K (.ref f) = true) (a4 : PySem.W.keepIn K (.ref CR) = true)
    (a5 : K.lookup f = some ⟨oc, od, .func (PySem.W.fnOf "__init__" "Reader.__init__" (defArgs (clsAt (top 89) 0)) (defBody (clsAt (top 89) 0)) (defScope (clsAt (top 89) 0)) .none (.ref D) doc pm an cdv ct), osl⟩) (a6 : PySem.W.codeIn K cdv "Reader.__init__" = true) (a7 : PySem.W.keepIn K (.ref f) = true)
    (b1 : PySem.W.nsIn K D "sight" = some (some u1)) (b2 : PySem.W.nsIn K D "order" = some (some u2)) (b3 : PySem.W.nsIn K D "further" = some (some u3)) (b4 : PySem.W.nsIn K D "finish" = some (some u4))
    (c1 : RelV (.str "whole") u1) (c2 : RelV (.str "inner") u2) (c3 : RelV (.str "refuse") u3) (c4 : RelV (.str "refuse") u4) : InitAt K CR :=
  ⟨f, oc, .ref D, doc, pm, cdv, ct, od, an, osl, ⟨a1, a2, a3, a4⟩, a5, a6, .inr ⟨D, rfl, fun q hq => by
    simp only [List.mem_cons, List.not_mem_nil, or_false] at hq
    rcases hq with rfl | rfl | rfl | rfl
    · exact ⟨_, b1, c1⟩
    · exact ⟨_, b2, c2⟩
    · exact ⟨_, b3, c3⟩
    · exact ⟨_, b4, c4⟩⟩, a7⟩
theorem kinds_mk {K : PySem.W.Frag} {mg : Str → Option Value} {t : Addr} (g : mg "KINDS" = some (.ref t)) (h : ∀ H, SqT K H t [.str "next", .str "end"]) : Kinds K mg := ⟨t, g, h⟩
theorem words_mk {K : PySem.W.Frag} {w : World} {mg : Str → Option Value} {d t1 t2 t3 : Addr} (g : mg "WORDS" = some (.ref d)) (k1 : KDct K w d "order" (.ref t1)) (k2 : KDct K w d "further" (.ref t2)) (k3 : KDct K w d "finish" (.ref t3))
    (s1 : ∀ H, SqT K H t1 [.str "inner", .str "outer"]) (s2 : ∀ H, SqT K H t2 [.str "refuse", .str "close"]) (s3 : ∀ H, SqT K H t3 [.str "refuse", .str "close"]) : Words K w mg :=
  ⟨d, g, fun nm h => by
    rcases h with rfl | rfl | rfl
    · exact ⟨t1, k1, s1⟩
    · exact ⟨t2, k2, s2⟩
    · exact ⟨t3, k3, s3⟩⟩
theorem ends11_mk {K : PySem.W.Frag} {mg : Str → Option Value} {t1 t2 t3 : Addr} (a : ∃ u, mg "END" = some u ∧ RelV (.str "end") u) (b : ∃ u, mg "WAIT" = some u ∧ RelV (.str "wait") u) (c : ∃ u, mg "BODY" = some u ∧ RelV (.str "body") u) (d : ∃ u, mg "REFUSE" = some u ∧ RelV (.str "refuse") u)
    (g1 : mg "TOLD_LINE" = some (.ref t1)) (h1 : ∀ H, SqT K H t1 [.str "line", .int 0]) (g2 : mg "START" = some (.ref t2)) (h2 : ∀ H, SqT K H t2 [.int 1, .str "wait"]) (g3 : mg "DONE" = some (.ref t3)) (h3 : ∀ H, SqT K H t3 [.int 0, .str "wait"]) : Ends11 K mg :=
  ⟨a, b, c, d, ⟨t1, g1, h1⟩, ⟨t2, g2, h2⟩, ⟨t3, g3, h3⟩⟩
structure Facts (K : PySem.W.Frag) (w : World) (mg : Str → Option Value) (CR c : Addr) : Prop where
  B : BltN mg
  T : Consts mg
  T2 : Consts2 mg
  Wd : Words K w mg
  E : Ends11 K mg
  nX : ∃ u, mg "NEXT" = some u ∧ RelV (.str "next") u
  Kd : Kinds K mg
  CL : ClsR K CR
  gR : mg "Reader" = some (.ref CR)
  iR : InitAt K CR
  p_signs : PropAt K CR "signs" "Reader.signs" (clsAt (top 89) 1)
  p_tail : PropAt K CR "tail" "Reader.tail" (clsAt (top 89) 2)
  p_depth : PropAt K CR "depth" "Reader.depth" (clsAt (top 89) 3)
  p_sight : PropAt K CR "sight" "Reader.sight" (clsAt (top 89) 4)
  p_order : PropAt K CR "order" "Reader.order" (clsAt (top 89) 5)
  p_further : PropAt K CR "further" "Reader.further" (clsAt (top 89) 6)
  p_finish : PropAt K CR "finish" "Reader.finish" (clsAt (top 89) 7)
  mL : MethAt K CR "line_of" "Reader.line_of" (clsAt (top 89) 13)
  mRa : MethAt K CR "role_at" "Reader.role_at" (clsAt (top 89) 17)
  aM : AtC K mg "want_message" (top 102) c
  a_is_integer : At K mg "is_integer" (top 24)
  a_are_signs : At K mg "are_signs" (top 27)
  a_want_signs : At K mg "want_signs" (top 28)
  a_is_line : At K mg "is_line" (top 29)
  a_is_mark_line : At K mg "is_mark_line" (top 73)
  a_is_tail : At K mg "is_tail" (top 74)
  a_is_list : At K mg "is_list" (top 26)
  a_want_marks : At K mg "want_marks" (top 75)
  a_is_word : At K mg "is_word" (top 76)
  a_want_cares : At K mg "want_cares" (top 77)
  a_is_level : At K mg "is_level" (top 78)
  a_want_level : At K mg "want_level" (top 79)
  a_want_line : At K mg "want_line" (top 30)
  a_line_of_role : At K mg "line_of_role" (top 83)
  a_is_seen : At K mg "is_seen" (top 84)
  a_roles_of : At K mg "roles_of" (top 82)
  a_asked_roles : At K mg "asked_roles" (top 85)
  a_role_taken : At K mg "role_taken" (top 86)
  a_first_bad : At K mg "first_bad" (top 33)
  a_next_stand : At K mg "next_stand" (top 107)
  a_gone_through : At K mg "gone_through" (top 108)
  a_is_refused : At K mg "is_refused" (top 109)
  a_telling : At K mg "telling" (top 110)
  a_course : At K mg "course" (top 111)
  a_is_role : At K mg "is_role" (top 80)
  a_want_role : At K mg "want_role" (top 81)
  a_is_tree_of : At K mg "is_tree_of" (top 99)
  a_is_tree : At K mg "is_tree" (top 100)
  a_want_tree : At K mg "want_tree" (top 101)
  a_role_row : At K mg "role_row" (top 103)
  a_written_rows : At K mg "written_rows" (top 104)
  a_written : At K mg "written" (top 105)
  a_own_telling : At K mg "own_telling" (top 106)
  a_tree_read : At K mg "tree_read" (top 112)
  a_law_pot : At K mg "_law_pot" (top 114)
  a_law_draw : At K mg "_law_draw" (top 115)
  a_law_pick : At K mg "_law_pick" (top 116)
  a_law_line : At K mg "_law_line" (top 117)
  a_law_model : At K mg "_law_model" (top 118)
  a_law_reader : At K mg "_law_reader" (top 119)
  a_law_line_of : At K mg "_law_line_of" (top 120)
  a_law_is_seen : At K mg "_law_is_seen" (top 121)
  a_law_role_at : At K mg "_law_role_at" (top 122)
  a_law_move : At K mg "_law_move" (top 123)
  a_law_told : At K mg "_law_told" (top 124)
  a_law_near_line : At K mg "_law_near_line" (top 125)
  a_law_mail : At K mg "_law_mail" (top 127)
  a_law_due : At K mg "_law_due" (top 128)
  a_law_grown : At K mg "_law_grown" (top 129)
  a_law_rules : At K mg "_law_rules" (top 130)
  a_law_turn : At K mg "_law_turn" (top 131)
  a_law_wide_bush : At K mg "_law_wide_bush" (top 133)
  a_law_mail_right : At K mg "_law_mail_right" (top 134)
  a_law_known_right : At K mg "_law_known_right" (top 135)
  a_law_right : At K mg "_law_right" (top 136)
  a_law : At K mg "law" (top 137)
theorem law_def {P : Program} {w : World} {K : PySem.W.Frag} {mg : Str → Option Value} {base : Heap} {CR c Pt : Addr} (F : Facts K w mg CR c) (S : SysAt base) (TB : TabB base mg c Pt) : DefG P w K mg base 14 "law" (top 137) ["script"] (spLawV K Pt) := by
  have B := F.B.at S
  have isInteger : Def P w K mg base 1 "is_integer" (top 24) ["value"] (sp1 K isInteger) := d_isInteger B F.a_is_integer
  have areSigns : Def P w K mg base 1 "are_signs" (top 27) ["value"] (sp1 K areSigns) := d_areSigns B F.a_are_signs F.T
  have isLine : Def P w K mg base 1 "is_line" (top 29) ["signs", "value"] (spLine K) := d_isLine B F.a_is_line
  have isMark := d_isMarkLine B F.a_is_mark_line F.T2 isLine
  have isTail := d_isTail B F.a_is_tail F.T2 isLine
  have isList : Def P w K mg base 1 "is_list" (top 26) ["value"] (sp1 K isSeq) := d_isList B F.a_is_list
  have fineS := d_fineSigns B F.a_want_signs areSigns
  have fineM := d_fineMarks B F.a_want_marks F.T2 isList isMark
  have isWord : Def P w K mg base 1 "is_word" (top 76) ["signs", "name", "value"] spWord := d_isWord B F.a_is_word F.Wd
  have cares := d_wantCares B F.a_want_cares isWord
  obtain ⟨fi, oc, kV, doc, pm, cdv, ct, od, an, osl, mk, lk, hcd, kw, kpf⟩ := F.iR.ex
  have rd : RdOk P w K mg base CR := ⟨fi, _, F.gR, mk, d_init B F.CL lk hcd fineS fineM isTail cares, kbn_init⟩
  have FD : InitD K fi _ := ⟨⟨oc, od, .none, kV, doc, pm, an, cdv, ct, osl, rfl, lk, hcd, .inl ⟨rfl, rfl⟩, kw⟩, kpf⟩
  obtain ⟨ds, hds, bds⟩ := init_binds FD
  obtain ⟨mv, hmv⟩ := init_kfur FD
  have rd0 : RdOk0 P w K mg base CR := ⟨⟨ds, hds, ⟨fi, _, F.gR, mk, d_init B F.CL lk hcd fineS fineM isTail cares, bds⟩⟩, ⟨mv, ⟨fi, _, F.gR, mk, d_init B F.CL lk hcd fineS fineM isTail cares, hmv⟩⟩⟩
  have gS : PropOk P w K mg base 1 CR "signs" (spGet CR fun R => .str R.g) := d_signs B F.CL F.p_signs
  have gT : PropOk P w K mg base 1 CR "tail" (spGet CR fun R => .str R.t) := d_tail B F.CL F.p_tail
  have gD : PropOk P w K mg base 1 CR "depth" (spGet CR fun R => .int (R.ms.length : Nat)) := d_depth B F.CL F.p_depth
  have gSi : PropOk P w K mg base 1 CR "sight" (spGet CR fun R => .str R.si) := d_sight B F.CL F.p_sight
  have gO : PropOk P w K mg base 1 CR "order" (spGet CR fun R => .str R.od) := d_order B F.CL F.p_order
  have gFu : PropOk P w K mg base 1 CR "further" (spGet CR fun R => .str R.fu) := d_further B F.CL F.p_further
  have gFi : PropOk P w K mg base 1 CR "finish" (spGet CR fun R => .str R.fi) := d_finish B F.CL F.p_finish
  have isLevel := d_isLevel B F.CL F.a_is_level isInteger gD
  have wantLevel := d_wantLevel B F.a_want_level isLevel
  have wantLine := d_wantLine B F.a_want_line isLine
  have lor := d_lineOfRole B F.CL F.a_line_of_role gT
  have isSeen : Def P w K mg base 1 "is_seen" (top 84) ["line", "mark", "sight"] spSeen := d_isSeen B F.a_is_seen
  have rolesOf : Def P w K mg base 1 "roles_of" (top 82) ["level"] (spRoles K) := d_rolesOf B F.a_roles_of
  have asked := d_asked B F.CL F.a_asked_roles gO rolesOf
  have taken := d_taken B F.CL F.a_role_taken gSi asked isSeen lor
  have roleAt := d_roleAt B F.CL F.mRa wantLine wantLevel taken
  have next := d_nextStand B F.CL F.E F.a_next_stand roleAt gFu gD
  have gone := d_gone B F.CL F.E F.a_gone_through next
  have wantMsg := d_wantMsg B F.CL F.aM TB isList isLine F.a_first_bad gS
  have refused := d_isRefused B F.CL F.E F.a_is_refused gFi
  have telling := d_telling2 B F.a_telling wantMsg gone refused
  have course := d_course B F.a_course wantMsg gone
  have isRole := d_isRole B F.Kd F.a_is_role isLevel
  have wantRole := d_wantRole B F.a_want_role isRole
  have lo := d_lineOf B F.mL wantRole lor
  have treeOf : ∀ n, Def P w K mg base (n + 2) "is_tree_of" (top 99) ["signs", "value", "depth"] (spTreeOf K n) := d_treeOf B F.a_is_tree_of isList isLine
  have isTree := d_isTree B F.CL F.a_is_tree treeOf gS gD
  have wantTree := d_wantTree B F.a_want_tree isTree
  have row := d_roleRow B F.CL F.a_role_row lo trivial
  have rows := d_rows B F.CL ⟨F.nX, F.E.en, F.E.ln⟩ F.a_written_rows gD row
  have wr := d_written B F.a_written wantTree rows
  have own := d_telling B F.a_own_telling wantTree rows
  have read := d_treeRead B ⟨F.nX, F.E.en⟩ F.a_tree_read telling
  have pot : Def P w K mg base 1 "_law_pot" (top 114) ["script", "k"] (spPotMk K) := d_pot B F.a_law_pot
  have draw : Def P w K mg base 1 "_law_draw" (top 115) ["pot", "many"] spDraw := d_draw B F.a_law_draw
  have pick := d_pick B F.a_law_pick draw
  have txt := d_txt B F.a_law_line draw pick
  have model := d_model B F.a_law_model draw pick txt
  have reader := d_reader B F.a_law_reader rd
  have lof : Def P w K mg base 1 "_law_line_of" (top 120) ["model", "role"] (spLof K) := d_lof B F.a_law_line_of
  have near := d_near B F.a_law_near_line draw txt lof
  have mail := d_mail B F.a_law_mail lof
  have lseen := d_lseen B F.a_law_is_seen lof
  have lrole := d_lrole B F.a_law_role_at lseen
  have move := d_move B F.a_law_move lrole
  have told := d_told B F.a_law_told move
  have due : ∀ n, Def P w K mg base (n + 1) "_law_due" (top 128) ["model", "bush", "level"] (spDue n) := d_due B F.a_law_due
  have grown : Def P w K mg base 1 "_law_grown" (top 129) ["model", "heard", "mail"] (spGrown K) := d_grown B F.a_law_grown
  have rules := d_rules B F.a_law_rules draw pick txt
  have turn : Def P w K mg base 1 "_law_turn" (top 131) ["rules", "line"] spTurn := d_turn B F.a_law_turn
  have wb := d_wb B F.a_law_wide_bush draw pick near
  have mq := d_mq B F.a_law_mail_right told telling course read grown
  have kn := d_kn B F.a_law_known_right rd0 wr own course read
  have right := d_rightV B F.a_law_right model draw reader near rules turn wb mail due wr own course mq
  exact d_lawV B F.a_law kn pot right
/-- the law's promise at the head's heap -/
theorem law_at {l : PySem.W.OpenLaw} {w : World} {K : PySem.W.Frag} {mg : Str → Option Value} {h : Heap} {fa CR c Pt : Addr} (F : Facts K w mg CR c) (hfa : mg "law" = some (.ref fa)) (hT : h.get? Pt = some { cls := .none, data := .fields #[] }) (nT : K.lookup Pt = none) (hC : PySem.W.CodeHd h c Pt) :
    LawG l w K 14 63 "script" mg fa h := by
  refine ⟨[(c, Pt)], spLawV K Pt, fun p hp => ?_, fun p hp => ?_, fun p hp => ?_, fun H a ns hn hb hT hS => ?_, fun base KB G S hTB => ?_⟩
  · rw [List.mem_singleton.mp hp]; exact hT
  · rw [List.mem_singleton.mp hp]; exact nT
  · rw [List.mem_singleton.mp hp]; exact hC
  · refine ⟨a, ns, rfl, hS, hn, fun p hp => ?_, fun _ => rfl⟩
    rw [List.mem_singleton.mp hp]
    exact TabS.nil (hT (c, Pt) (by simp))
  · obtain ⟨f2, kV2, doc2, pm2, an2, cdv2, ct2, hm2, kp2, G2⟩ := (law_def (P := l.prog) (w := w) F S (hTB (c, Pt) (by simp))).ex
    have e2 := hfa.symm.trans hm2
    cases e2
    exact ⟨_, fun s u => .of_eq rfl, G2⟩
end K68

set_option Elab.async false
set_option linter.all false
open PySem PySem.W PyProof.Rows
set_option maxRecDepth 100000 in
set_option maxHeartbeats 0 in
theorem PySem.Challenge.cw_frontlines_k68_whole_long_messages_holds : PySem.Challenge.rw_frontlines_k68_whole_long_messages.Holds := by
  w_on; o_law
  refine HH.top (by assumption) (by rfl) (by rfl) (by rfl) ?hw ?hc
  (case hw => w_witness2)
  k_fill
  refine Z.walk_G (n := 63) (k := 14) (x := "script") rfl (by decide) rfl ⟨rfl, by decide, by decide⟩ (fun w h Y => PySem.W.km_in_of Y) (by first | rfl | kernel_rfl) ?F
  intro w mg fa h Y KX G hmg
  have tabs := PySem.W.km_tabs_of Y

  have B : Z.BltN mg := by
    refine' Z.bltn_mk KX G ?a1 ?a2 ?a3 ?a4 ?a5 ?a6 ?a7 ?a8 ?a9 ?a10 ?a11 ?a12 ?a13 ?a14 ?a15 ?a16 ?a17 ?a18 ?a19 ?a20 ?a21 ?a22 <;> k_is
  have T : K68.Consts mg := by
    refine' ⟨Z.const_mk KX G ?tc1 ?tr1, Z.const_mk KX G ?tc2 ?tr2, Z.const_mk KX G ?tc3 ?tr3⟩
    (case tc1 => k_is); (case tc2 => k_is); (case tc3 => k_is)
    all_goals exact ⟨_, rfl⟩
  have T2 : K68.Consts2 mg := by
    refine' ⟨Z.const_mk KX G ?uc1 ?ur1, Z.const_mk KX G ?uc2 ?ur2, Z.const_mk KX G ?uc3 ?ur3⟩
    (case uc1 => k_is); (case uc2 => k_is); (case uc3 => k_is)
    all_goals exact ⟨_, rfl⟩

  refine' K68.law_at (Pt := 1073) ⟨B, T, T2, K68.words_mk (W.mg_of KX G ?wg1) (Z.kdct_mk ?wl1 ?wk1 ?wn1 rfl) (Z.kdct_mk ?wl2 ?wk2 ?wn2 rfl) (Z.kdct_mk ?wl3 ?wk3 ?wn3 rfl) (Z.sqt_mk ?wl4 ?wv4 ?wz4) (Z.sqt_mk ?wl5 ?wv5 ?wz5) (Z.sqt_mk ?wl6 ?wv6 ?wz6), K68.ends11_mk (Z.const_mk KX G ?ec1 ?er1) (Z.const_mk KX G ?ec2 ?er2) (Z.const_mk KX G ?ec3 ?er3) (Z.const_mk KX G ?ec4 ?er4) (W.mg_of KX G ?eg1) (Z.sqt_mk ?el1 ?ev1 ?ez1) (W.mg_of KX G ?eg2) (Z.sqt_mk ?el2 ?ev2 ?ez2) (W.mg_of KX G ?eg3) (Z.sqt_mk ?el3 ?ev3 ?ez3), Z.const_mk KX G ?nx1 ?nx2, K68.kinds_mk (W.mg_of KX G ?kd1) (Z.sqt_mk ?kd2 ?kd3 ?kd4), ⟨⟨?cl1, ?cl2, ?cl3, ?cl4⟩, ?na1, ?na2, ?na3, ?na4⟩, W.mg_of KX G ?gR, K68.initAt_mk ?in1 ?in2 ?in3 ?in4 ?in5 ?in6 ?in7 ?in8 ?in9 ?in10 ?in11 ?ic1 ?ic2 ?ic3 ?ic4,
      K68.prop_mk ?pa1 ?pa2 ?pa3 ?pa4 ?pa5 ?pa6,
      K68.prop_mk ?pb1 ?pb2 ?pb3 ?pb4 ?pb5 ?pb6,
      K68.prop_mk ?pc1 ?pc2 ?pc3 ?pc4 ?pc5 ?pc6,
      K68.prop_mk ?pd1 ?pd2 ?pd3 ?pd4 ?pd5 ?pd6,
      K68.prop_mk ?pe1 ?pe2 ?pe3 ?pe4 ?pe5 ?pe6,
      K68.prop_mk ?pf1 ?pf2 ?pf3 ?pf4 ?pf5 ?pf6,
      K68.prop_mk ?pg1 ?pg2 ?pg3 ?pg4 ?pg5 ?pg6,
      K68.meth_mk ?mf1 ?mf2 ?mf3 ?mf4 ?mf5, K68.meth_mk ?me1 ?me2 ?me3 ?me4 ?me5, Z.atc_mk KX G ?am1 ?am2 ?am3 ?am4,
      Z.at_mk KX G ?d_is_integer_1 ?d_is_integer_2 ?d_is_integer_3 ?d_is_integer_4,
      Z.at_mk KX G ?d_are_signs_1 ?d_are_signs_2 ?d_are_signs_3 ?d_are_signs_4,
      Z.at_mk KX G ?d_want_signs_1 ?d_want_signs_2 ?d_want_signs_3 ?d_want_signs_4,
      Z.at_mk KX G ?d_is_line_1 ?d_is_line_2 ?d_is_line_3 ?d_is_line_4,
      Z.at_mk KX G ?d_is_mark_line_1 ?d_is_mark_line_2 ?d_is_mark_line_3 ?d_is_mark_line_4,
      Z.at_mk KX G ?d_is_tail_1 ?d_is_tail_2 ?d_is_tail_3 ?d_is_tail_4,
      Z.at_mk KX G ?d_is_list_1 ?d_is_list_2 ?d_is_list_3 ?d_is_list_4,
      Z.at_mk KX G ?d_want_marks_1 ?d_want_marks_2 ?d_want_marks_3 ?d_want_marks_4,
      Z.at_mk KX G ?d_is_word_1 ?d_is_word_2 ?d_is_word_3 ?d_is_word_4,
      Z.at_mk KX G ?d_want_cares_1 ?d_want_cares_2 ?d_want_cares_3 ?d_want_cares_4,
      Z.at_mk KX G ?d_is_level_1 ?d_is_level_2 ?d_is_level_3 ?d_is_level_4,
      Z.at_mk KX G ?d_want_level_1 ?d_want_level_2 ?d_want_level_3 ?d_want_level_4,
      Z.at_mk KX G ?d_want_line_1 ?d_want_line_2 ?d_want_line_3 ?d_want_line_4,
      Z.at_mk KX G ?d_line_of_role_1 ?d_line_of_role_2 ?d_line_of_role_3 ?d_line_of_role_4,
      Z.at_mk KX G ?d_is_seen_1 ?d_is_seen_2 ?d_is_seen_3 ?d_is_seen_4,
      Z.at_mk KX G ?d_roles_of_1 ?d_roles_of_2 ?d_roles_of_3 ?d_roles_of_4,
      Z.at_mk KX G ?d_asked_roles_1 ?d_asked_roles_2 ?d_asked_roles_3 ?d_asked_roles_4,
      Z.at_mk KX G ?d_role_taken_1 ?d_role_taken_2 ?d_role_taken_3 ?d_role_taken_4,
      Z.at_mk KX G ?d_first_bad_1 ?d_first_bad_2 ?d_first_bad_3 ?d_first_bad_4,
      Z.at_mk KX G ?d_next_stand_1 ?d_next_stand_2 ?d_next_stand_3 ?d_next_stand_4,
      Z.at_mk KX G ?d_gone_through_1 ?d_gone_through_2 ?d_gone_through_3 ?d_gone_through_4,
      Z.at_mk KX G ?d_is_refused_1 ?d_is_refused_2 ?d_is_refused_3 ?d_is_refused_4,
      Z.at_mk KX G ?d_telling_1 ?d_telling_2 ?d_telling_3 ?d_telling_4,
      Z.at_mk KX G ?d_course_1 ?d_course_2 ?d_course_3 ?d_course_4,
      Z.at_mk KX G ?d_is_role_1 ?d_is_role_2 ?d_is_role_3 ?d_is_role_4,
      Z.at_mk KX G ?d_want_role_1 ?d_want_role_2 ?d_want_role_3 ?d_want_role_4,
      Z.at_mk KX G ?d_is_tree_of_1 ?d_is_tree_of_2 ?d_is_tree_of_3 ?d_is_tree_of_4,
      Z.at_mk KX G ?d_is_tree_1 ?d_is_tree_2 ?d_is_tree_3 ?d_is_tree_4,
      Z.at_mk KX G ?d_want_tree_1 ?d_want_tree_2 ?d_want_tree_3 ?d_want_tree_4,
      Z.at_mk KX G ?d_role_row_1 ?d_role_row_2 ?d_role_row_3 ?d_role_row_4,
      Z.at_mk KX G ?d_written_rows_1 ?d_written_rows_2 ?d_written_rows_3 ?d_written_rows_4,
      Z.at_mk KX G ?d_written_1 ?d_written_2 ?d_written_3 ?d_written_4,
      Z.at_mk KX G ?d_own_telling_1 ?d_own_telling_2 ?d_own_telling_3 ?d_own_telling_4,
      Z.at_mk KX G ?d_tree_read_1 ?d_tree_read_2 ?d_tree_read_3 ?d_tree_read_4,
      Z.at_mk KX G ?d_law_pot_1 ?d_law_pot_2 ?d_law_pot_3 ?d_law_pot_4,
      Z.at_mk KX G ?d_law_draw_1 ?d_law_draw_2 ?d_law_draw_3 ?d_law_draw_4,
      Z.at_mk KX G ?d_law_pick_1 ?d_law_pick_2 ?d_law_pick_3 ?d_law_pick_4,
      Z.at_mk KX G ?d_law_line_1 ?d_law_line_2 ?d_law_line_3 ?d_law_line_4,
      Z.at_mk KX G ?d_law_model_1 ?d_law_model_2 ?d_law_model_3 ?d_law_model_4,
      Z.at_mk KX G ?d_law_reader_1 ?d_law_reader_2 ?d_law_reader_3 ?d_law_reader_4,
      Z.at_mk KX G ?d_law_line_of_1 ?d_law_line_of_2 ?d_law_line_of_3 ?d_law_line_of_4,
      Z.at_mk KX G ?d_law_is_seen_1 ?d_law_is_seen_2 ?d_law_is_seen_3 ?d_law_is_seen_4,
      Z.at_mk KX G ?d_law_role_at_1 ?d_law_role_at_2 ?d_law_role_at_3 ?d_law_role_at_4,
      Z.at_mk KX G ?d_law_move_1 ?d_law_move_2 ?d_law_move_3 ?d_law_move_4,
      Z.at_mk KX G ?d_law_told_1 ?d_law_told_2 ?d_law_told_3 ?d_law_told_4,
      Z.at_mk KX G ?d_law_near_line_1 ?d_law_near_line_2 ?d_law_near_line_3 ?d_law_near_line_4,
      Z.at_mk KX G ?d_law_mail_1 ?d_law_mail_2 ?d_law_mail_3 ?d_law_mail_4,
      Z.at_mk KX G ?d_law_due_1 ?d_law_due_2 ?d_law_due_3 ?d_law_due_4,
      Z.at_mk KX G ?d_law_grown_1 ?d_law_grown_2 ?d_law_grown_3 ?d_law_grown_4,
      Z.at_mk KX G ?d_law_rules_1 ?d_law_rules_2 ?d_law_rules_3 ?d_law_rules_4,
      Z.at_mk KX G ?d_law_turn_1 ?d_law_turn_2 ?d_law_turn_3 ?d_law_turn_4,
      Z.at_mk KX G ?d_law_wide_bush_1 ?d_law_wide_bush_2 ?d_law_wide_bush_3 ?d_law_wide_bush_4,
      Z.at_mk KX G ?d_law_mail_right_1 ?d_law_mail_right_2 ?d_law_mail_right_3 ?d_law_mail_right_4,
      Z.at_mk KX G ?d_law_known_right_1 ?d_law_known_right_2 ?d_law_known_right_3 ?d_law_known_right_4,
      Z.at_mk KX G ?d_law_right_1 ?d_law_right_2 ?d_law_right_3 ?d_law_right_4,
      Z.at_mk KX G ?d_law_1 ?d_law_2 ?d_law_3 ?d_law_4⟩ hmg (tabs 1073 (by simp)) ?nT (W.codeHd_of_K KX ?hC)
  (case gR => k_is)
  (case nx1 => k_is)
  (case nx2 => exact ⟨_, rfl⟩)
  (case kd1 => k_is)
  (case kd2 => k_is)
  (case kd3 => exact .cons ⟨_, rfl⟩ (.cons ⟨_, rfl⟩ .nil))
  (case kd4 => decide)
  (case ec1 => k_is)
  (case ec2 => k_is)
  (case ec3 => k_is)
  (case ec4 => k_is)
  (case er1 => exact ⟨_, rfl⟩)
  (case er2 => exact ⟨_, rfl⟩)
  (case er3 => exact ⟨_, rfl⟩)
  (case er4 => exact ⟨_, rfl⟩)
  (case eg1 => k_is)
  (case eg2 => k_is)
  (case eg3 => k_is)
  (case el1 => k_is)
  (case el2 => k_is)
  (case el3 => k_is)
  (case ev1 => exact .cons ⟨_, rfl⟩ (.cons ⟨_, rfl⟩ .nil))
  (case ev2 => exact .cons ⟨_, rfl⟩ (.cons ⟨_, rfl⟩ .nil))
  (case ev3 => exact .cons ⟨_, rfl⟩ (.cons ⟨_, rfl⟩ .nil))
  (case ez1 => decide)
  (case ez2 => decide)
  (case ez3 => decide)
  (case wg1 => k_is)
  (case wl1 => k_is)
  (case wl2 => k_is)
  (case wl3 => k_is)
  (case wn1 => k_is)
  (case wn2 => k_is)
  (case wn3 => k_is)
  (case wl4 => k_is)
  (case wl5 => k_is)
  (case wl6 => k_is)
  (case wk1 => exact ⟨⟨_, _, rfl, rfl⟩, ⟨_, _, rfl, rfl⟩, ⟨_, _, rfl, rfl⟩, trivial⟩)
  (case wk2 => exact ⟨⟨_, _, rfl, rfl⟩, ⟨_, _, rfl, rfl⟩, ⟨_, _, rfl, rfl⟩, trivial⟩)
  (case wk3 => exact ⟨⟨_, _, rfl, rfl⟩, ⟨_, _, rfl, rfl⟩, ⟨_, _, rfl, rfl⟩, trivial⟩)
  (case wv4 => exact .cons ⟨_, rfl⟩ (.cons ⟨_, rfl⟩ .nil))
  (case wv5 => exact .cons ⟨_, rfl⟩ (.cons ⟨_, rfl⟩ .nil))
  (case wv6 => exact .cons ⟨_, rfl⟩ (.cons ⟨_, rfl⟩ .nil))
  (case wz4 => decide)
  (case wz5 => decide)
  (case wz6 => decide)
  (case cl1 => k_is)
  (case cl2 => k_is)
  (case cl3 => k_is)
  (case cl4 => k_is)
  (case na1 => unfold L2.NoAttr; k_is)
  (case na2 => unfold L2.NoAttr; k_is)
  (case na3 => unfold L2.NoAttr; k_is)
  (case na4 => unfold L2.NoAttr; k_is)
  (case in1 => k_is)
  (case in2 => k_is)
  (case in3 => k_is)
  (case in4 => k_is)
  (case in5 => k_is)
  (case in6 => k_is)
  (case in7 => k_is)
  (case in8 => k_is)
  (case in9 => k_is)
  (case in10 => k_is)
  (case in11 => k_is)
  (case pa1 => k_is)
  (case pa2 => k_is)
  (case pa3 => k_is)
  (case pa4 => k_is)
  (case pa5 => k_is)
  (case pa6 => k_is)
  (case pb1 => k_is)
  (case pb2 => k_is)
  (case pb3 => k_is)
  (case pb4 => k_is)
  (case pb5 => k_is)
  (case pb6 => k_is)
  (case pc1 => k_is)
  (case pc2 => k_is)
  (case pc3 => k_is)
  (case pc4 => k_is)
  (case pc5 => k_is)
  (case pc6 => k_is)
  (case pd1 => k_is)
  (case pd2 => k_is)
  (case pd3 => k_is)
  (case pd4 => k_is)
  (case pd5 => k_is)
  (case pd6 => k_is)
  (case pe1 => k_is)
  (case pe2 => k_is)
  (case pe3 => k_is)
  (case pe4 => k_is)
  (case pe5 => k_is)
  (case pe6 => k_is)
  (case pf1 => k_is)
  (case pf2 => k_is)
  (case pf3 => k_is)
  (case pf4 => k_is)
  (case pf5 => k_is)
  (case pf6 => k_is)
  (case pg1 => k_is)
  (case pg2 => k_is)
  (case pg3 => k_is)
  (case pg4 => k_is)
  (case pg5 => k_is)
  (case pg6 => k_is)
  (case mf1 => k_is)
  (case mf2 => k_is)
  (case mf3 => k_is)
  (case mf4 => k_is)
  (case mf5 => k_is)
  (case me1 => k_is)
  (case me2 => k_is)
  (case me3 => k_is)
  (case me4 => k_is)
  (case me5 => k_is)
  (case am1 => k_is)
  (case am2 => k_is)
  (case am3 => k_is)
  (case am4 => k_is)
  (case d_is_integer_1 => k_is)
  (case d_is_integer_2 => k_is)
  (case d_is_integer_3 => k_is)
  (case d_is_integer_4 => k_is)
  (case d_are_signs_1 => k_is)
  (case d_are_signs_2 => k_is)
  (case d_are_signs_3 => k_is)
  (case d_are_signs_4 => k_is)
  (case d_want_signs_1 => k_is)
  (case d_want_signs_2 => k_is)
  (case d_want_signs_3 => k_is)
  (case d_want_signs_4 => k_is)
  (case d_is_line_1 => k_is)
  (case d_is_line_2 => k_is)
  (case d_is_line_3 => k_is)
  (case d_is_line_4 => k_is)
  (case d_is_mark_line_1 => k_is)
  (case d_is_mark_line_2 => k_is)
  (case d_is_mark_line_3 => k_is)
  (case d_is_mark_line_4 => k_is)
  (case d_is_tail_1 => k_is)
  (case d_is_tail_2 => k_is)
  (case d_is_tail_3 => k_is)
  (case d_is_tail_4 => k_is)
  (case d_is_list_1 => k_is)
  (case d_is_list_2 => k_is)
  (case d_is_list_3 => k_is)
  (case d_is_list_4 => k_is)
  (case d_want_marks_1 => k_is)
  (case d_want_marks_2 => k_is)
  (case d_want_marks_3 => k_is)
  (case d_want_marks_4 => k_is)
  (case d_is_word_1 => k_is)
  (case d_is_word_2 => k_is)
  (case d_is_word_3 => k_is)
  (case d_is_word_4 => k_is)
  (case d_want_cares_1 => k_is)
  (case d_want_cares_2 => k_is)
  (case d_want_cares_3 => k_is)
  (case d_want_cares_4 => k_is)
  (case d_is_level_1 => k_is)
  (case d_is_level_2 => k_is)
  (case d_is_level_3 => k_is)
  (case d_is_level_4 => k_is)
  (case d_want_level_1 => k_is)
  (case d_want_level_2 => k_is)
  (case d_want_level_3 => k_is)
  (case d_want_level_4 => k_is)
  (case d_want_line_1 => k_is)
  (case d_want_line_2 => k_is)
  (case d_want_line_3 => k_is)
  (case d_want_line_4 => k_is)
  (case d_line_of_role_1 => k_is)
  (case d_line_of_role_2 => k_is)
  (case d_line_of_role_3 => k_is)
  (case d_line_of_role_4 => k_is)
  (case d_is_seen_1 => k_is)
  (case d_is_seen_2 => k_is)
  (case d_is_seen_3 => k_is)
  (case d_is_seen_4 => k_is)
  (case d_roles_of_1 => k_is)
  (case d_roles_of_2 => k_is)
  (case d_roles_of_3 => k_is)
  (case d_roles_of_4 => k_is)
  (case d_asked_roles_1 => k_is)
  (case d_asked_roles_2 => k_is)
  (case d_asked_roles_3 => k_is)
  (case d_asked_roles_4 => k_is)
  (case d_role_taken_1 => k_is)
  (case d_role_taken_2 => k_is)
  (case d_role_taken_3 => k_is)
  (case d_role_taken_4 => k_is)
  (case d_first_bad_1 => k_is)
  (case d_first_bad_2 => k_is)
  (case d_first_bad_3 => k_is)
  (case d_first_bad_4 => k_is)
  (case d_next_stand_1 => k_is)
  (case d_next_stand_2 => k_is)
  (case d_next_stand_3 => k_is)
  (case d_next_stand_4 => k_is)
  (case d_gone_through_1 => k_is)
  (case d_gone_through_2 => k_is)
  (case d_gone_through_3 => k_is)
  (case d_gone_through_4 => k_is)
  (case d_is_refused_1 => k_is)
  (case d_is_refused_2 => k_is)
  (case d_is_refused_3 => k_is)
  (case d_is_refused_4 => k_is)
  (case d_telling_1 => k_is)
  (case d_telling_2 => k_is)
  (case d_telling_3 => k_is)
  (case d_telling_4 => k_is)
  (case d_course_1 => k_is)
  (case d_course_2 => k_is)
  (case d_course_3 => k_is)
  (case d_course_4 => k_is)
  (case d_is_role_1 => k_is)
  (case d_is_role_2 => k_is)
  (case d_is_role_3 => k_is)
  (case d_is_role_4 => k_is)
  (case d_want_role_1 => k_is)
  (case d_want_role_2 => k_is)
  (case d_want_role_3 => k_is)
  (case d_want_role_4 => k_is)
  (case d_is_tree_of_1 => k_is)
  (case d_is_tree_of_2 => k_is)
  (case d_is_tree_of_3 => k_is)
  (case d_is_tree_of_4 => k_is)
  (case d_is_tree_1 => k_is)
  (case d_is_tree_2 => k_is)
  (case d_is_tree_3 => k_is)
  (case d_is_tree_4 => k_is)
  (case d_want_tree_1 => k_is)
  (case d_want_tree_2 => k_is)
  (case d_want_tree_3 => k_is)
  (case d_want_tree_4 => k_is)
  (case d_role_row_1 => k_is)
  (case d_role_row_2 => k_is)
  (case d_role_row_3 => k_is)
  (case d_role_row_4 => k_is)
  (case d_written_rows_1 => k_is)
  (case d_written_rows_2 => k_is)
  (case d_written_rows_3 => k_is)
  (case d_written_rows_4 => k_is)
  (case d_written_1 => k_is)
  (case d_written_2 => k_is)
  (case d_written_3 => k_is)
  (case d_written_4 => k_is)
  (case d_own_telling_1 => k_is)
  (case d_own_telling_2 => k_is)
  (case d_own_telling_3 => k_is)
  (case d_own_telling_4 => k_is)
  (case d_tree_read_1 => k_is)
  (case d_tree_read_2 => k_is)
  (case d_tree_read_3 => k_is)
  (case d_tree_read_4 => k_is)
  (case d_law_pot_1 => k_is)
  (case d_law_pot_2 => k_is)
  (case d_law_pot_3 => k_is)
  (case d_law_pot_4 => k_is)
  (case d_law_draw_1 => k_is)
  (case d_law_draw_2 => k_is)
  (case d_law_draw_3 => k_is)
  (case d_law_draw_4 => k_is)
  (case d_law_pick_1 => k_is)
  (case d_law_pick_2 => k_is)
  (case d_law_pick_3 => k_is)
  (case d_law_pick_4 => k_is)
  (case d_law_line_1 => k_is)
  (case d_law_line_2 => k_is)
  (case d_law_line_3 => k_is)
  (case d_law_line_4 => k_is)
  (case d_law_model_1 => k_is)
  (case d_law_model_2 => k_is)
  (case d_law_model_3 => k_is)
  (case d_law_model_4 => k_is)
  (case d_law_reader_1 => k_is)
  (case d_law_reader_2 => k_is)
  (case d_law_reader_3 => k_is)
  (case d_law_reader_4 => k_is)
  (case d_law_line_of_1 => k_is)
  (case d_law_line_of_2 => k_is)
  (case d_law_line_of_3 => k_is)
  (case d_law_line_of_4 => k_is)
  (case d_law_is_seen_1 => k_is)
  (case d_law_is_seen_2 => k_is)
  (case d_law_is_seen_3 => k_is)
  (case d_law_is_seen_4 => k_is)
  (case d_law_role_at_1 => k_is)
  (case d_law_role_at_2 => k_is)
  (case d_law_role_at_3 => k_is)
  (case d_law_role_at_4 => k_is)
  (case d_law_move_1 => k_is)
  (case d_law_move_2 => k_is)
  (case d_law_move_3 => k_is)
  (case d_law_move_4 => k_is)
  (case d_law_told_1 => k_is)
  (case d_law_told_2 => k_is)
  (case d_law_told_3 => k_is)
  (case d_law_told_4 => k_is)
  (case d_law_near_line_1 => k_is)
  (case d_law_near_line_2 => k_is)
  (case d_law_near_line_3 => k_is)
  (case d_law_near_line_4 => k_is)
  (case d_law_mail_1 => k_is)
  (case d_law_mail_2 => k_is)
  (case d_law_mail_3 => k_is)
  (case d_law_mail_4 => k_is)
  (case d_law_due_1 => k_is)
  (case d_law_due_2 => k_is)
  (case d_law_due_3 => k_is)
  (case d_law_due_4 => k_is)
  (case d_law_grown_1 => k_is)
  (case d_law_grown_2 => k_is)
  (case d_law_grown_3 => k_is)
  (case d_law_grown_4 => k_is)
  (case d_law_rules_1 => k_is)
  (case d_law_rules_2 => k_is)
  (case d_law_rules_3 => k_is)
  (case d_law_rules_4 => k_is)
  (case d_law_turn_1 => k_is)
  (case d_law_turn_2 => k_is)
  (case d_law_turn_3 => k_is)
  (case d_law_turn_4 => k_is)
  (case d_law_wide_bush_1 => k_is)
  (case d_law_wide_bush_2 => k_is)
  (case d_law_wide_bush_3 => k_is)
  (case d_law_wide_bush_4 => k_is)
  (case d_law_mail_right_1 => k_is)
  (case d_law_mail_right_2 => k_is)
  (case d_law_mail_right_3 => k_is)
  (case d_law_mail_right_4 => k_is)
  (case d_law_known_right_1 => k_is)
  (case d_law_known_right_2 => k_is)
  (case d_law_known_right_3 => k_is)
  (case d_law_known_right_4 => k_is)
  (case d_law_right_1 => k_is)
  (case d_law_right_2 => k_is)
  (case d_law_right_3 => k_is)
  (case d_law_right_4 => k_is)
  (case d_law_1 => k_is)
  (case d_law_2 => k_is)
  (case d_law_3 => k_is)
  (case d_law_4 => k_is)
  (case ic1 => exact ⟨_, rfl⟩)
  (case ic2 => exact ⟨_, rfl⟩)
  (case ic3 => exact ⟨_, rfl⟩)
  (case ic4 => exact ⟨_, rfl⟩)
  (case hC => first | rfl | kernel_rfl)
  (case nT => first | rfl | kernel_rfl)
#print axioms PySem.Challenge.cw_frontlines_k68_whole_long_messages_holds

