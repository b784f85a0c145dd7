import PyProof.Rows.All
import Wide.All
import OpenK.AllK
import Wide.FinOn
import HandS.ForMost
import HandS.Wide
import HandS.TupAny
import HandS.Style
import HandS.IsInst
import HandS.Flow
import HandS.Deep
import HandS.Text
import HandS.Zip
import HandS.Rev
import HandS.More
import PyProof.ReprRoads
import KE.KDictZip
import KE.GoesZip
import KE.GoesMore
import KE.GoesEnum
import HandS.TryOnly
import KE.KRevIter
import HandS.Conv
import HandS.SortKw
import HandS.RaiseMore
import HandS.ExcInit
import HandS.ExcCtx
import HandS.TryElse
import HandS.SuiteRaise
import HandS.SetBool
import PyProof.Rows.TupDisplay
import HandS.ExcIs
import HandS.ExcOwn
import HandS.Strs
import HandS.ExcField
import PyProof.SeqRoads2
import PyProof.AutoSeq1
import PyProof.EqKinds
import PyProof.NeKinds
import PyProof.TableCode
import PyProof.ReprLen
import KE.OsRunLaw
import PySem.Challenge.RW_turnpaper_k52_forms_of_turnings
set_option Elab.async false
set_option linter.all false
set_option maxRecDepth 100000
namespace K52Hd
section
open PySem PySem.W PySem.Calls PyProof.Rows
set_option maxRecDepth 100000
set_option maxHeartbeats 0
abbrev hR : OpenRow := OpenLaw.row PySem.Challenge.rw_turnpaper_k52_forms_of_turnings
abbrev hP : Program := RowW.prog (OpenRow.toRowW hR)
theorem bareP : hP.bare := ⟨rfl, rfl, rfl, rfl, rfl, by decide +kernel⟩
section
local macro_rules | `(tactic| o_head $H) => `(tactic| assumption)
theorem pre (h : OpenRow.Holds hR) : OpenRow.Holds hR := by k_head
end
def loose0 : List PySem.Str := ["__name__", "TurnError", "NoStep", "Shade", "NoTurn", "TooMany", "BadProgram", "BadPaper", "BadText", "Hangs", "MOST", "MOST_NAME", "MOST_MODULES", "MOST_FUNCTIONS", "MOST_PARAMS", "MOST_EXPRESSIONS", "MOST_DEEP", "LETTERS", "WORDS", "SIGNS", "SPOTS", "SIZES", "is_name", "is_number", "are_names", "parts", "with_parts", "has_head", "with_scope", "is_expression"]
def loose1 : List PySem.Str := ["is_function", "are_things", "need_program", "functions", "function", "with_body", "SHAPES", "is_count", "are_counts", "is_way", "is_binder", "are_ways", "fits", "has_form", "word_at", "names_bound", "names_in", "names_of", "fresh", "fresh_fresh", "MOST_ROUNDS", "LOUD", "RISKY", "quiet_head", "quiet_by", "quiet_functions", "is_quiet", "is_spot", "part_at", "at_way"]
def loose2 : List PySem.Str := ["put_in", "put_at", "rows_in", "ways_of", "more_round", "uses_in", "params_round", "round_way", "all_uses", "home_of", "uses_of", "name_of", "need", "need_steps_calls", "with_names", "outer_names", "opened", "open_call", "close_call", "turned_in", "turn_params", "CALL_DEEDS", "Tree", "own_binders", "grown", "tree_of", "within", "with_tree", "is_used", "with_uses"]
def loose3 : List PySem.Str := ["expression_of", "round_part", "is_shaded", "planted", "NEW", "FIRST_PARTS", "need_so", "need_let", "put_in_place", "tree_at", "let_in", "need_rows", "known_ahead", "need_told", "let_out", "lets_swapped", "need_first_part", "let_lifted", "let_sunk", "LET_DEEDS", "SPOTS_OF_NAMES", "with_name", "tree_named", "with_params", "named", "call_renamed", "renamed", "NAME_DEEDS", "need_steps_rooms", "rows_of"]
def loose4 : List PySem.Str := ["with_rows", "put_row", "has_call", "with_calls", "define", "without", "drop", "move", "module", "leave", "ROOM_DEEDS", "deed_of", "is_program", "step", "MOST_STEPS", "need_goings", "Going", "places", "head_of", "nearest", "pairs_in", "are_like", "likes", "free_names", "outside", "binders_at", "binders_in", "binders_of", "calls_of", "carved"]
def loose5 : List PySem.Str := ["melted", "Match", "folded", "all_folded", "loose", "is_kept", "lets_down", "ordered", "place_of", "widened", "freed", "equalled", "round_binder", "gathered", "is_tidied", "tidied", "called_in", "wanted_by", "brought", "TELLING", "done_with_names", "done_with_calls", "is_turning", "turned", "_law_cell", "_law_names", "_law_is_name", "_law_are_counts", "_law_is_way", "_law_is_binder"]
def loose6 : List PySem.Str := ["_law_fits", "_law_kinds", "_law_is_form", "_law_part", "_law_odd", "_law_bent", "_law_refused", "_law_far_right"]
def looseL : List PySem.Str := loose0 ++ loose1 ++ loose2 ++ loose3 ++ loose4 ++ loose5 ++ loose6
abbrev viewP : Program := view hP [207]
abbrev xtF : Shared → Bool := fun s => xlAt viewP [] s && recOk (RowW.records (OpenRow.toRowW hR)) s
def asL : List Addr := [2, 3, 15, 22, 23, 24, 25, 28, 35, 36, 37, 40, 47, 48, 49, 52, 59, 60, 61, 64, 71, 72, 73, 76, 83, 85, 86, 88, 89, 90, 91, 92, 95, 102, 104, 105, 107, 108, 109, 110, 111, 114, 121, 123, 124, 126, 127, 128, 129, 130, 133, 140, 142, 143, 145, 146, 147, 148, 149, 152, 153, 154, 155, 156, 157, 158, 159, 160, 161, 162, 163, 164, 167, 168, 169, 171, 172, 174, 175, 176, 179, 180, 181, 184, 185, 186, 188, 189, 191, 192, 193, 195, 196, 198, 199, 200, 202, 203, 205, 206, 207, 210, 211, 212, 214, 215, 217, 218, 219, 222, 223, 224, 227, 228, 229, 232, 233, 234, 236, 237, 239, 240, 241, 244, 245, 246, 247, 249, 250, 252, 253, 254, 257, 258, 259, 262, 263, 264, 266, 267, 269, 270, 271, 274, 275, 276, 278, 279, 281, 282, 283, 286, 287, 288, 290, 291, 293, 294, 295, 297, 298, 300, 301, 302, 304, 305, 307, 308, 309, 312, 313, 314, 316, 317, 319, 320, 321, 322, 323, 325, 326, 328, 329, 330, 333, 334, 335, 337, 338, 340, 341, 342, 344, 345, 347, 348, 349, 351, 352, 354, 355, 356, 358, 359, 361, 362, 363, 366, 367, 368, 370, 371, 373, 374, 375, 377, 378, 380, 381, 382, 385, 386, 387, 390, 391, 392, 394, 395, 397, 398, 399, 401, 402, 404, 405, 406, 409, 410, 411, 413, 414, 416, 417, 418, 420, 421, 423, 424, 425, 427, 428, 430, 431, 432, 435, 436, 437, 439, 440, 442, 443, 444, 446, 447, 449, 450, 451, 454, 455, 456, 458, 459, 461, 462, 463, 466, 467, 468, 470, 471, 473, 474, 475, 477, 478, 480, 481, 482, 485, 486, 487, 490, 491, 492, 493, 494, 495, 503, 505, 506, 508, 509, 510, 511, 512, 513, 514, 517, 519, 520, 522, 523, 524, 526, 527, 529, 530, 531, 533, 534, 536, 537, 538, 540, 541, 543, 544, 545, 547, 548, 550, 551, 552, 555, 556, 557, 560, 561, 562, 565, 566, 567, 569, 570, 572, 573, 574, 577, 578, 579, 581, 582, 584, 585, 586, 587, 588, 590, 591, 593, 594, 595, 597, 598, 600, 601, 602, 604, 605, 607, 608, 609, 611, 612, 614, 615, 616, 618, 619, 621, 622, 623, 626, 627, 628, 630, 631, 633, 634, 635, 637, 638, 640, 641, 642, 645, 646, 647, 649, 650, 652, 653, 654, 657, 658, 659, 661, 662, 664, 665, 666, 669, 670, 671, 672, 673, 674, 675, 676, 677, 678, 679, 680, 682, 683, 685, 686, 687, 690, 691, 692, 695, 696, 697, 699, 700, 702, 703, 704, 707, 708, 709, 711, 712, 714, 715, 716, 717, 718, 719, 721, 722, 724, 725, 726, 729, 730, 731, 734, 735, 736, 738, 739, 741, 742, 743, 746, 747, 748, 751, 752, 753, 755, 756, 758, 759, 760, 763, 764, 765, 768, 769, 770, 773, 774, 775, 777, 778, 780, 781, 782, 785, 786, 787, 788, 789, 790, 791, 792, 793, 795, 796, 798, 799, 800, 802, 803, 805, 806, 807, 809, 810, 812, 813, 814, 816, 817, 819, 820, 828, 830, 831, 833, 834, 835, 837, 838, 840, 841, 842, 844, 845, 847, 848, 849, 851, 852, 854, 855, 856, 858, 859, 861, 862, 863, 865, 866, 868, 869, 870, 873, 874, 875, 876, 877, 878, 879, 882, 884, 885, 887, 888, 889, 891, 892, 894, 895, 896, 898, 899, 901, 902, 903, 905, 906, 908, 909, 910, 913, 914, 915, 918, 919, 920, 922, 923, 925, 926, 927, 929, 930, 932, 933, 934, 936, 937, 939, 940, 941, 943, 944, 946, 947, 948, 951, 952, 953, 956, 957, 958, 961, 962, 963, 965, 966, 968, 969, 977, 980, 981, 982, 985, 986, 987, 988, 989, 990, 991, 994, 997, 998, 999, 1002, 1003, 1004, 1007, 1008, 1009, 1012, 1013, 1014, 1017, 1018, 1019, 1021, 1022, 1024, 1025, 1026, 1029, 1030, 1031, 1034, 1035, 1036, 1039, 1040, 1041, 1044, 1045, 1046, 1048, 1049, 1051, 1052, 1053, 1056, 1057, 1058, 1060, 1061, 1063, 1064, 1065, 1068, 1069, 1070, 1072, 1073, 1075, 1076, 1077, 1079, 1080, 1082, 1083, 1084, 1087, 1088, 1089, 1090, 1091, 1092, 1093, 1095, 1096, 1098, 1099, 1100, 1102, 1103, 1105, 1106, 1107, 1109, 1110, 1112, 1113, 1114, 1117, 1118, 1119, 1121, 1122, 1124, 1125, 1126, 1129, 1130, 1131, 1134, 1135, 1136, 1139, 1140, 1141, 1143, 1144, 1146, 1147, 1148, 1150, 1151, 1153, 1154, 1155, 1158, 1159, 1160, 1162, 1163, 1165, 1166, 1167, 1170, 1171, 1172, 1175, 1176, 1177, 1179, 1180, 1182, 1183, 1184, 1186, 1187, 1189, 1190, 1191, 1193, 1194, 1196, 1197, 1198, 1201, 1202, 1203, 1206, 1207]
theorem as_ok (P : Params) : asL = (pre.heap_1 P).map (·.1) := by kernel_rfl
theorem three {α β γ δ : Type} {x : Option α} {f : α → β} {g : α → γ} {h : α → δ} {a : β} {b : γ} {c : δ} (e1 : x.map f = some a) (e2 : x.map g = some b) (e3 : x.map h = some c) : x.map (fun s => (f s, g s, h s)) = some (a, b, c) := by
  cases x with
  | none => cases e1
  | some s => exact congrArg some (Prod.ext (Option.some.inj e1) (Prod.ext (Option.some.inj e2) (Option.some.inj e3)))
theorem sw (a b c d : Bool) : (a && b && c && d) = ((a && (c && d)) && b) := by cases a <;> cases b <;> cases c <;> cases d <;> rfl
theorem lk (p : Program) (h0 : Heap) (s : Shared) : HeadRun.looksF p h0 s = ((staticsOk (importedModules p.main.body) h0 s.heap && (gensDone s && laidKept h0 s.heap)) && namesBound p s.heap) := by
  unfold HeadRun.looksF
  generalize staticsOk _ _ _ = a
  generalize namesBound _ _ = b
  generalize gensDone _ = c
  generalize laidKept _ _ = d
  exact sw a b c d
theorem lk2 {p : Program} {x : Option SharedT} {h0 : Heap} (e1 : x.map (fun s => (staticsOk (importedModules p.main.body) h0 s.abs.heap && (gensDone s.abs && laidKept h0 s.abs.heap))) = some true) (e2 : x.map (fun s => namesBound p s.abs.heap) = some true) : x.map (fun s => HeadRun.looksF p h0 s.abs) = some true := by
  cases x with
  | none => cases e1
  | some s =>
    have a : (staticsOk (importedModules p.main.body) h0 s.abs.heap && (gensDone s.abs && laidKept h0 s.abs.heap)) = true := Option.some.inj e1
    have b : namesBound p s.abs.heap = true := Option.some.inj e2
    refine congrArg some ((lk p h0 s.abs).trans ?_)
    rw [a, b]
    rfl
theorem run_f0a (w : World) (os : OsState) : (HeadRun.endF (HeadRun.stepQ (HeadRun.denQ HeadRun.tabQ) hP (w.withFollow "special-get-raises" false)) 100000 hP (w.withFollow "special-get-raises" false) os).map (fun s => (staticsOk (importedModules hP.main.body) (boot_heap (w.withFollow "special-get-raises" false).params) s.abs.heap && (gensDone s.abs && laidKept (boot_heap (w.withFollow "special-get-raises" false).params) s.abs.heap))) = some true := by kernel_rfl
theorem run_f0b (w : World) (os : OsState) : (HeadRun.endF (HeadRun.stepQ (HeadRun.denQ HeadRun.tabQ) hP (w.withFollow "special-get-raises" false)) 100000 hP (w.withFollow "special-get-raises" false) os).map (fun s => namesBound hP s.abs.heap) = some true := by kernel_rfl
theorem run_f0 (w : World) (os : OsState) : (HeadRun.endF (HeadRun.stepQ (HeadRun.denQ HeadRun.tabQ) hP (w.withFollow "special-get-raises" false)) 100000 hP (w.withFollow "special-get-raises" false) os).map (fun s => HeadRun.looksF hP (boot_heap (w.withFollow "special-get-raises" false).params) s.abs) = some true := lk2 (p := hP) (run_f0a w os) (run_f0b w os)
theorem run_f1 (w : World) (os : OsState) : (HeadRun.endF (HeadRun.stepQ (HeadRun.denQ HeadRun.tabQ) hP (w.withFollow "special-get-raises" false)) 100000 hP (w.withFollow "special-get-raises" false) os).map (fun s => HeadRun.seenQ viewP looseL (importedModules hP.main.body) xtF s.abs) = some (openGood viewP looseL) := by kernel_rfl
theorem run_f2 (w : World) (os : OsState) : (HeadRun.endF (HeadRun.stepQ (HeadRun.denQ HeadRun.tabQ) hP (w.withFollow "special-get-raises" false)) 100000 hP (w.withFollow "special-get-raises" false) os).map (fun s => asL.map (HeadRun.getT s)) = some ((pre.heap_1 (w.withFollow "special-get-raises" false).params).map fun x => some x.2) := by kernel_rfl
theorem run_f (w : World) (os : OsState) : (HeadRun.endF (HeadRun.stepQ (HeadRun.denQ HeadRun.tabQ) hP (w.withFollow "special-get-raises" false)) 100000 hP (w.withFollow "special-get-raises" false) os).map (fun s => (HeadRun.looksF hP (boot_heap (w.withFollow "special-get-raises" false).params) s.abs, HeadRun.seenQ viewP looseL (importedModules hP.main.body) xtF s.abs, asL.map (HeadRun.getT s))) = some (true, openGood viewP looseL, (pre.heap_1 (w.withFollow "special-get-raises" false).params).map fun x => some x.2) := three (run_f0 w os) (run_f1 w os) (run_f2 w os)
theorem run_t0a (w : World) (os : OsState) : (HeadRun.endF (HeadRun.stepQ (HeadRun.denQ HeadRun.tabQ) hP (w.withFollow "special-get-raises" true)) 100000 hP (w.withFollow "special-get-raises" true) os).map (fun s => (staticsOk (importedModules hP.main.body) (boot_heap (w.withFollow "special-get-raises" true).params) s.abs.heap && (gensDone s.abs && laidKept (boot_heap (w.withFollow "special-get-raises" true).params) s.abs.heap))) = some true := by kernel_rfl
theorem run_t0b (w : World) (os : OsState) : (HeadRun.endF (HeadRun.stepQ (HeadRun.denQ HeadRun.tabQ) hP (w.withFollow "special-get-raises" true)) 100000 hP (w.withFollow "special-get-raises" true) os).map (fun s => namesBound hP s.abs.heap) = some true := by kernel_rfl
theorem run_t0 (w : World) (os : OsState) : (HeadRun.endF (HeadRun.stepQ (HeadRun.denQ HeadRun.tabQ) hP (w.withFollow "special-get-raises" true)) 100000 hP (w.withFollow "special-get-raises" true) os).map (fun s => HeadRun.looksF hP (boot_heap (w.withFollow "special-get-raises" true).params) s.abs) = some true := lk2 (p := hP) (run_t0a w os) (run_t0b w os)
theorem run_t1 (w : World) (os : OsState) : (HeadRun.endF (HeadRun.stepQ (HeadRun.denQ HeadRun.tabQ) hP (w.withFollow "special-get-raises" true)) 100000 hP (w.withFollow "special-get-raises" true) os).map (fun s => HeadRun.seenQ viewP looseL (importedModules hP.main.body) xtF s.abs) = some (openGood viewP looseL) := by kernel_rfl
theorem run_t2 (w : World) (os : OsState) : (HeadRun.endF (HeadRun.stepQ (HeadRun.denQ HeadRun.tabQ) hP (w.withFollow "special-get-raises" true)) 100000 hP (w.withFollow "special-get-raises" true) os).map (fun s => asL.map (HeadRun.getT s)) = some ((pre.heap_1 (w.withFollow "special-get-raises" true).params).map fun x => some x.2) := by kernel_rfl
theorem run_t (w : World) (os : OsState) : (HeadRun.endF (HeadRun.stepQ (HeadRun.denQ HeadRun.tabQ) hP (w.withFollow "special-get-raises" true)) 100000 hP (w.withFollow "special-get-raises" true) os).map (fun s => (HeadRun.looksF hP (boot_heap (w.withFollow "special-get-raises" true).params) s.abs, HeadRun.seenQ viewP looseL (importedModules hP.main.body) xtF s.abs, asL.map (HeadRun.getT s))) = some (true, openGood viewP looseL, (pre.heap_1 (w.withFollow "special-get-raises" true).params).map fun x => some x.2) := three (run_t0 w os) (run_t1 w os) (run_t2 w os)
theorem left : LeftO hP viewP looseL xtF (Hook.obs (kHook pre.heap_1 asL as_ok)) (Hook.val (kHook pre.heap_1 asL as_ok)) 100700 true :=
  HeadRun.left_oneK (M := 100000) (by kernel_rfl) (by rfl) (fun s => by kernel_rfl) (by rfl) (byRow2 "special-get-raises" run_f run_t)
theorem okP : (chainsOk viewP && opensWell hP && (frees (OpenRow.toRowW hR) && (OpenRow.toRowW hR).within.isEmpty)) = true := by decide +kernel
end
end K52Hd
/-! TPa: plain data, the store, worlds. -/
namespace TP
open PySem L2

/-- plain data; ref k: the k-th thing of the store -/
inductive D where
  | non | bl (b : Bool) | int (i : Int) | str (x : Str) | tup (xs : List D) | lst (xs : List D) | fro (xs : List D) | kt (xs : List D) | ref (k : Nat) | fn (c : Str)
  deriving Inhabited

/-- a thing of the store, which may be changed -/
inductive MO where
  | lst (xs : List D)
  | dK (kvs : List (Key × D))
  | dT (kvs : List (List Key × D))
  | ins (c : Str) (fs : List (Str × D))
  | exc (c : Nat) (d : D)
abbrev Store := List MO

/-- where a def or a class of the text stands -/
def clsAt (K : PySem.W.Frag) (c : Str) : Addr := match PySem.W.nsIn K mainGlobals c with
  | some (some (.ref a)) => a
  | _ => 0
section
variable (K : PySem.W.Frag) (A : List Addr) (G : Hp)
mutual
inductive Rep : V → D → Prop
  | non : Rep .non .non
  | bl (b : Bool) : Rep (.bl b) (.bl b)
  | int (i : Int) : Rep (.int i) (.int i)
  | str (x : Str) : Rep (.str x) (.str x)
  | tup {a : Addr} {vs : List V} {ds : List D} : G a = some (.tup vs) → RepL vs ds → Rep (.ref a) (.tup ds)
  | kt {a : Addr} {vs : List V} {ds : List D} : SqT K G a vs → RepL vs ds → Rep (.ref a) (.kt ds)
  | lst {a : Addr} {vs : List V} {ds : List D} : G a = some (.lst vs) → RepL vs ds → Rep (.ref a) (.lst ds)
  | fro {a : Addr} {vs : List V} {ds : List D} : SqL K G a vs → RepL vs ds → Rep (.ref a) (.fro ds)
  | ref {a : Addr} {k : Nat} : A[k]? = some a → Rep (.ref a) (.ref k)
  | fn (c : Str) : Rep (.ref (clsAt K c)) (.fn c)
inductive RepL : List V → List D → Prop
  | nil : RepL [] []
  | cons {v : V} {vs : List V} {d : D} {ds : List D} : Rep v d → RepL vs ds → RepL (v :: vs) (d :: ds)
end
end

theorem sqT_mono {K : PySem.W.Frag} {G G' : Hp} {a : Addr} {xs : List V} (e : Same G G') (h : SqT K G a xs) : SqT K G' a xs := by
  rcases h with (h | ⟨o, h⟩) | h
  · exact .inl (.inl (e _ _ h))
  · exact .inl (.inr ⟨o, e _ _ h⟩)
  · exact .inr h

section
variable {K : PySem.W.Frag} {A A' : List Addr} {G G' : Hp}
theorem pre_get {α : Type} {l l' : List α} (h : l <+: l') {k : Nat} {a : α} (e : l[k]? = some a) : l'[k]? = some a := by
  obtain ⟨t, rfl⟩ := h
  rw [List.getElem?_append_left (List.getElem?_eq_some_iff.mp e).1]
  exact e
mutual
theorem Rep.mono (hA : A <+: A') (hG : Same G G') : ∀ (d : D) (v : V), Rep K A G v d → Rep K A' G' v d
  | .non, _, h => by cases h; exact .non
  | .bl b, _, h => by cases h; exact .bl b
  | .int i, _, h => by cases h; exact .int i
  | .str x, _, h => by cases h; exact .str x
  | .tup ds, _, h => by
    cases h with
    | tup hs hr => exact .tup (hG _ _ hs) (RepL.mono hA hG ds _ hr)
  | .kt ds, _, h => by
    cases h with
    | kt hs hr => exact .kt (sqT_mono hG hs) (RepL.mono hA hG ds _ hr)
  | .lst ds, _, h => by
    cases h with
    | lst hs hr => exact .lst (hG _ _ hs) (RepL.mono hA hG ds _ hr)
  | .fro ds, _, h => by
    cases h with
    | fro hs hr => exact .fro (hG.seq hs) (RepL.mono hA hG ds _ hr)
  | .ref k, _, h => by
    cases h with
    | ref e => exact .ref (pre_get hA e)
  | .fn c, _, h => by cases h; exact .fn c
theorem RepL.mono (hA : A <+: A') (hG : Same G G') : ∀ (ds : List D) (vs : List V), RepL K A G vs ds → RepL K A' G' vs ds
  | [], _, h => by cases h; exact .nil
  | d :: ds, _, h => by
    cases h with
    | cons h1 h2 => exact .cons (Rep.mono hA hG d _ h1) (RepL.mono hA hG ds _ h2)
end

theorem RepL.length : ∀ {vs : List V} {ds : List D}, RepL K A G vs ds → vs.length = ds.length
  | [], [], _ => rfl
  | _ :: vs, _ :: ds, h => by
    cases h with
    | cons _ h2 => rw [List.length_cons, List.length_cons, RepL.length h2]
theorem RepL.get : ∀ {vs : List V} {ds : List D} {i : Nat} {d : D}, RepL K A G vs ds → ds[i]? = some d → ∃ v, vs[i]? = some v ∧ Rep K A G v d
  | [], [], _, _, _, e => by simp at e
  | _ :: _, _ :: _, 0, _, h, e => by
    cases h with
    | cons h1 _ => simp at e; subst e; exact ⟨_, rfl, h1⟩
  | _ :: _, _ :: _, i + 1, _, h, e => by
    cases h with
    | cons _ h2 =>
      obtain ⟨v, a, b⟩ := RepL.get (i := i) h2 (by simpa using e)
      exact ⟨v, by simpa using a, b⟩
theorem RepL.get' : ∀ {vs : List V} {ds : List D} {i : Nat} {v : V}, RepL K A G vs ds → vs[i]? = some v → ∃ d, ds[i]? = some d ∧ Rep K A G v d
  | [], [], _, _, _, e => by simp at e
  | _ :: _, _ :: _, 0, _, h, e => by
    cases h with
    | cons h1 _ => simp at e; subst e; exact ⟨_, rfl, h1⟩
  | _ :: _, _ :: _, i + 1, _, h, e => by
    cases h with
    | cons _ h2 =>
      obtain ⟨v, a, b⟩ := RepL.get' (i := i) h2 (by simpa using e)
      exact ⟨v, by simpa using a, b⟩
theorem RepL.append : ∀ {vs ws : List V} {ds es : List D}, RepL K A G vs ds → RepL K A G ws es → RepL K A G (vs ++ ws) (ds ++ es)
  | [], _, [], _, _, s => s
  | _ :: vs, _, _ :: ds, _, .cons r t, s => .cons r (RepL.append t s)
theorem RepL.take : ∀ {vs : List V} {ds : List D} (n : Nat), RepL K A G vs ds → RepL K A G (vs.take n) (ds.take n)
  | _, _, 0, _ => .nil
  | [], [], _ + 1, _ => .nil
  | _ :: _, _ :: _, n + 1, .cons r t => .cons r (RepL.take n t)
theorem RepL.drop : ∀ {vs : List V} {ds : List D} (n : Nat), RepL K A G vs ds → RepL K A G (vs.drop n) (ds.drop n)
  | _, _, 0, r => r
  | [], [], _ + 1, _ => .nil
  | _ :: _, _ :: _, n + 1, .cons _ t => RepL.drop n t
theorem RepL.set {v : V} {d : D} (r : Rep K A G v d) : ∀ {vs : List V} {ds : List D} (i : Nat), RepL K A G vs ds → RepL K A G (vs.set i v) (ds.set i d)
  | [], [], _, _ => .nil
  | _ :: _, _ :: _, 0, .cons _ t => .cons r t
  | _ :: _, _ :: _, i + 1, .cons q t => .cons q (RepL.set r i t)
theorem RepL.dropLast {vs : List V} {ds : List D} (h : RepL K A G vs ds) : RepL K A G vs.dropLast ds.dropLast := by
  rw [List.dropLast_eq_take, List.dropLast_eq_take, h.length]
  exact h.take _
theorem RepL.one {v : V} {d : D} (h : Rep K A G v d) : RepL K A G [v] [d] := .cons h .nil
theorem RepL.reverse : ∀ {vs : List V} {ds : List D}, RepL K A G vs ds → RepL K A G vs.reverse ds.reverse
  | [], [], _ => .nil
  | _ :: vs, _ :: ds, .cons r t => by
    rw [List.reverse_cons, List.reverse_cons]
    exact (RepL.reverse t).append (.one r)
theorem RepL.nil_iff {vs : List V} {ds : List D} (h : RepL K A G vs ds) : vs = [] ↔ ds = [] := by
  cases h <;> simp
end

/-- a world: the addresses of the store's things, the frozen heap, the store, the heap -/
structure Wd where
  A : List Addr
  G : Hp
  M : Store
  H : Hp

/-- values of a dict, pairwise -/
inductive RepKV {κ : Type} (R : V → D → Prop) : List (κ × V) → List (κ × D) → Prop
  | nil : RepKV R [] []
  | cons {k : κ} {v : V} {d : D} {vs : List (κ × V)} {ds : List (κ × D)} : R v d → RepKV R vs ds → RepKV R ((k, v) :: vs) ((k, d) :: ds)
theorem RepKV.imp {κ : Type} {R R' : V → D → Prop} (f : ∀ v d, R v d → R' v d) : ∀ {vs : List (κ × V)} {ds : List (κ × D)}, RepKV R vs ds → RepKV R' vs ds
  | _, _, .nil => .nil
  | _, _, .cons r t => .cons (f _ _ r) (RepKV.imp f t)

/-- plain instances: their fields are no names of the class -/
def InsOk (K : PySem.W.Frag) (c : Str) (fs : List (Str × D)) : Prop := Cls K (clsAt K c) ∧ ∀ x ∈ fs, NoAttr K (clsAt K c) x.1
/-- the own exceptions: their names, and whether they have a field at -/
def exN : Nat → Str
  | 0 => "NoStep"
  | 1 => "Shade"
  | 2 => "NoTurn"
  | 3 => "TooMany"
  | 4 => "BadProgram"
  | 5 => "BadPaper"
  | 6 => "BadText"
  | _ => "Hangs"
def exI (c : Nat) : Bool := decide (4 ≤ c)
/-- an exception that was caught stands at a -/
def exH (cls : Value) (dx : Option Addr) (a : Addr) : HO := .ext fun h => ∃ (oe : Obj) (vs : Array Value), h.get? a = some oe ∧ oe.cls = cls ∧ oe.dict = dx ∧ oe.data = .fields vs
section
variable (K : PySem.W.Frag)
/-- what stands at the address of a thing of the store -/
def MoR (w : Wd) (a : Addr) : MO → Prop
  | .lst ds => ∃ vs, w.H a = some (.lst vs) ∧ RepL K w.A w.G vs ds
  | .dK kvs => ∃ vs, w.H a = some (.dK vs) ∧ RepKV (Rep K w.A w.G) vs kvs
  | .dT kvs => ∃ vs, w.H a = some (.dT vs) ∧ RepKV (Rep K w.A w.G) vs kvs
  | .ins c fs => InsOk K c fs ∧ ∃ vs dx, w.H a = some (.ins (clsAt K c) dx vs) ∧ RepKV (Rep K w.A w.G) vs fs
  | .exc c d => ∃ dx, w.H a = some (exH (.ref (clsAt K (exN c))) dx a) ∧ ((exI c = false ∧ dx = none) ∨ (exI c = true ∧ ∃ dd v, dx = some dd ∧ w.G dd = some (.xd [("at", v)]) ∧ Rep K w.A w.G v d))
theorem exc_mono {K : PySem.W.Frag} {w w' : Wd} {a : Addr} {c : Nat} {d : D} (r : MoR K w a (.exc c d)) (h : ∀ o, w.H a = some o → w'.H a = some o) (hA : w.A <+: w'.A) (hG : Same w.G w'.G) : MoR K w' a (.exc c d) := by
  obtain ⟨dx, z, q⟩ := r
  refine ⟨dx, h _ z, q.imp id fun ⟨e, dd, v, h1, h2, h3⟩ => ⟨e, dd, v, h1, hG _ _ h2, Rep.mono hA hG d v h3⟩⟩
structure Wd.Ok (w : Wd) : Prop where
  sub : Same w.G w.H
  nd : w.A.Nodup
  len : w.A.length = w.M.length
  out : ∀ a ∈ w.A, w.G a = none
  mos : ∀ (k : Nat) (o : MO), w.M[k]? = some o → ∃ a, w.A[k]? = some a ∧ MoR K w a o
/-- from one world to a later one: what is frozen stays, the store's addresses stay, what is owned by someone (neither frozen nor of the store) stays -/
structure Step (w w' : Wd) : Prop where
  ok : w'.Ok K
  pre : w.A <+: w'.A
  fro : Same w.G w'.G
  keep : ∀ p o, w.H p = some o → w.G p = none → p ∉ w.A → w'.H p = some o ∧ (w'.G p = none ∨ ∃ xs, o = .tup xs) ∧ p ∉ w'.A
end
section
variable {K : PySem.W.Frag} {w w1 w2 : Wd}
theorem Step.refl (h : w.Ok K) : Step K w w := ⟨h, List.prefix_refl _, Same.refl _, fun _ _ a b c => ⟨a, .inl b, c⟩⟩
theorem Step.trans (a : Step K w w1) (b : Step K w1 w2) : Step K w w2 :=
  ⟨b.ok, a.pre.trans b.pre, a.fro.trans b.fro, fun p o h1 h2 h3 => by
    obtain ⟨x, y, z⟩ := a.keep p o h1 h2 h3
    cases q : w1.G p with
    | none => exact b.keep p o x q z
    | some u =>
      have e1 := a.ok.sub _ _ q
      rw [x] at e1; cases e1
      have e2 := b.fro _ _ q
      refine ⟨b.ok.sub _ _ e2, .inr (y.elim (fun y => by rw [q] at y; cases y) id), fun hm => ?_⟩
      rw [b.ok.out _ hm] at e2; cases e2⟩
theorem Step.keepN (s : Step K w w1) (p : Addr) (o : HO) (h1 : w.H p = some o) (h2 : w.G p = none) (h3 : p ∉ w.A) (hn : ∀ xs, o ≠ .tup xs := by intro _ h; cases h) : w1.H p = some o ∧ w1.G p = none ∧ p ∉ w1.A :=
  let ⟨a, b, c⟩ := s.keep p o h1 h2 h3
  ⟨a, b.elim id fun ⟨xs, e⟩ => absurd e (hn xs), c⟩
theorem Step.rep (s : Step K w w1) {v : V} {d : D} (h : Rep K w.A w.G v d) : Rep K w1.A w1.G v d := Rep.mono s.pre s.fro d v h
theorem Step.repL (s : Step K w w1) {vs : List V} {ds : List D} (h : RepL K w.A w.G vs ds) : RepL K w1.A w1.G vs ds := RepL.mono s.pre s.fro ds vs h

/-- a new thing, frozen at once -/
theorem Wd.Ok.fresh (h : w.Ok K) {p : Addr} (hp : w.H p = none) (o : HO) : Step K w ⟨w.A, upd w.G p o, w.M, upd w.H p o⟩ := by
  have hG : w.G p = none := h.sub.free hp
  have sG : Same w.G (upd w.G p o) := fun b u e => by rw [upd_ne (ne_of_none e hG)]; exact e
  have npA : p ∉ w.A := fun hm => by
    obtain ⟨k, hk, e⟩ := List.mem_iff_getElem.mp hm
    have hk' : k < w.M.length := by rw [← h.len]; exact hk
    obtain ⟨a, ea, r⟩ := h.mos k w.M[k] (List.getElem?_eq_getElem hk')
    have e2 : a = p := by
      rw [List.getElem?_eq_getElem hk] at ea
      exact (Option.some.inj ea).symm.trans e
    subst e2
    cases q : w.M[k] with
    | lst ds => rw [q] at r; obtain ⟨_, z, _⟩ := r; rw [hp] at z; cases z
    | dK ds => rw [q] at r; obtain ⟨_, z, _⟩ := r; rw [hp] at z; cases z
    | dT ds => rw [q] at r; obtain ⟨_, z, _⟩ := r; rw [hp] at z; cases z
    | ins c fs => rw [q] at r; obtain ⟨_, _, _, z, _⟩ := r; rw [hp] at z; cases z
    | exc c d => rw [q] at r; obtain ⟨_, z, _⟩ := r; rw [hp] at z; cases z
  refine ⟨⟨fun b u e => ?_, h.nd, h.len, fun a ha => ?_, fun k m e => ?_⟩, List.prefix_refl _, sG, fun q u h1 h2 h3 => ⟨?_, ?_, h3⟩⟩
  · show upd w.H p o b = some u
    by_cases hb : b = p
    · subst hb
      have e' : upd w.G b o b = some u := e
      rw [upd_same] at e' ⊢; exact e'
    · have e' : upd w.G p o b = some u := e
      rw [upd_ne hb] at e' ⊢; exact h.sub b u e'
  · show upd w.G p o a = none
    rw [upd_ne (fun z : a = p => npA (z ▸ ha))]
    exact h.out a ha
  · obtain ⟨a, ea, r⟩ := h.mos k m e
    refine ⟨a, ea, ?_⟩
    have rr : ∀ v d, Rep K w.A w.G v d → Rep K w.A (upd w.G p o) v d := fun v d => Rep.mono (List.prefix_refl _) sG d v
    cases m with
    | lst ds =>
      obtain ⟨vs, z, q⟩ := r
      exact ⟨vs, by show upd w.H p o a = _; rw [upd_ne (ne_of_none z hp)]; exact z, RepL.mono (List.prefix_refl _) sG _ _ q⟩
    | dK ds =>
      obtain ⟨vs, z, q⟩ := r
      exact ⟨vs, by show upd w.H p o a = _; rw [upd_ne (ne_of_none z hp)]; exact z, q.imp rr⟩
    | dT ds =>
      obtain ⟨vs, z, q⟩ := r
      exact ⟨vs, by show upd w.H p o a = _; rw [upd_ne (ne_of_none z hp)]; exact z, q.imp rr⟩
    | exc c d => exact exc_mono r (fun o z => by show upd w.H p _ a = _; rw [upd_ne (ne_of_none z hp)]; exact z) (List.prefix_refl _) sG
    | ins c fs =>
      obtain ⟨io, vs, dx, z, q⟩ := r
      exact ⟨io, vs, dx, by show upd w.H p o a = _; rw [upd_ne (ne_of_none z hp)]; exact z, q.imp rr⟩
  · show upd w.H p o q = some u
    rw [upd_ne (ne_of_none h1 hp)]; exact h1
  · refine .inl ?_
    show upd w.G p o q = none
    rw [upd_ne (ne_of_none h1 hp)]; exact h2
end
end TP
/-! TPb: slots, answers, the readings of expressions and statements. -/
namespace TP
open PySem L2

/-- a name's value: none known; plain data; a list that nobody else has -/
inductive Slot where
  | un | val (d : D) | own (ds : List D)
  deriving Inhabited
abbrev EnvD := List Slot
def Slot.d : Slot → D
  | .un => .non
  | .val d => d
  | .own ds => .lst ds

inductive R (α : Type) where
  | ok (a : α) (M : Store) | exc (c : Nat) (d : D) (M : Store) | bad
def R.bind {α β : Type} (r : R α) (f : α → Store → R β) : R β := match r with
  | .ok a M => f a M
  | .exc c d M => .exc c d M
  | .bad => .bad
def R.map {α β : Type} (f : α → β) (r : R α) : R β := match r with
  | .ok a M => .ok (f a) M
  | .exc c d M => .exc c d M
  | .bad => .bad
def R.of {α : Type} (o : Option α) (M : Store) : R α := match o with
  | some a => .ok a M
  | none => .bad

abbrev Wish := Nat → D → Wd → Prop

section
variable (K : PySem.W.Frag) (E : Wish)
def After {α : Type} (w : Wd) (r : R α) (P : α → Wd → Prop) : Prop := match r with
  | .ok a M => ∀ w', Step K w w' → w'.M = M → P a w'
  | .exc c d M => ∀ w', Step K w w' → w'.M = M → E c d w'
  | .bad => False
/-- the names' values -/
structure SR (w : Wd) (ρ : EnvD) (σ : St) : Prop where
  len : ρ.length = σ.length
  val : ∀ (i : Nat) (d : D), ρ[i]? = some (.val d) → ∃ v, σ[i]? = some (some v) ∧ Rep K w.A w.G v d
  own : ∀ (i : Nat) (ds : List D), ρ[i]? = some (.own ds) → ∃ p vs, σ[i]? = some (some (.ref p)) ∧ w.H p = some (.lst vs) ∧ w.G p = none ∧ p ∉ w.A ∧ RepL K w.A w.G vs ds
  dis : ∀ (i j : Nat) (ds es : List D) (p : Addr), ρ[i]? = some (.own ds) → ρ[j]? = some (.own es) → σ[i]? = some (some (.ref p)) → σ[j]? = some (some (.ref p)) → i = j
/-- what may be read -/
def RepB (w : Wd) (v : V) (d : D) : Prop := Rep K w.A w.G v d ∨ ∃ p vs ds, v = .ref p ∧ d = .lst ds ∧ w.H p = some (.lst vs) ∧ w.G p = none ∧ p ∉ w.A ∧ RepL K w.A w.G vs ds
/-- an expression's value: plain data, or a new list of one's own -/
def RepX (w w' : Wd) (v : V) : Slot → Prop
  | .un => False
  | .val d => Rep K w'.A w'.G v d
  | .own ds => ∃ p vs, v = .ref p ∧ w.H p = none ∧ w'.H p = some (.lst vs) ∧ w'.G p = none ∧ p ∉ w'.A ∧ RepL K w'.A w'.G vs ds
abbrev FE := EnvD → Store → R Slot
abbrev FD := EnvD → Store → R D
abbrev FL := EnvD → Store → R (List D)
abbrev FB := EnvD → Store → R Bool
def tE (f : FE) : TE := fun σ H Q => ∃ ρ w, w.H = H ∧ w.Ok K ∧ SR K w ρ σ ∧ After K E w (f ρ w.M) fun s w' => ∀ v, RepX K w w' v s → Q v w'.H
def tF (f : FD) : TE := fun σ H Q => ∃ ρ w, w.H = H ∧ w.Ok K ∧ SR K w ρ σ ∧ After K E w (f ρ w.M) fun d w' => ∀ v, Rep K w'.A w'.G v d → Q v w'.H
def tR (f : FD) : TE := fun σ H Q => ∃ ρ w, w.H = H ∧ w.Ok K ∧ SR K w ρ σ ∧ After K E w (f ρ w.M) fun d w' => ∀ v, RepB K w' v d → Q v w'.H
def tAF (f : FL) : TA := fun σ H Q => ∃ ρ w, w.H = H ∧ w.Ok K ∧ SR K w ρ σ ∧ After K E w (f ρ w.M) fun ds w' => ∀ vs, RepL K w'.A w'.G vs ds → Q vs w'.H
inductive RepBL (w : Wd) : List V → List D → Prop
  | nil : RepBL w [] []
  | cons {v : V} {vs : List V} {d : D} {ds : List D} : RepB K w v d → RepBL w vs ds → RepBL w (v :: vs) (d :: ds)
def tAR (f : FL) : TA := fun σ H Q => ∃ ρ w, w.H = H ∧ w.Ok K ∧ SR K w ρ σ ∧ After K E w (f ρ w.M) fun ds w' => ∀ vs, RepBL K w' vs ds → Q vs w'.H
def tT (f : FB) : TT := fun σ H Q => ∃ ρ w, w.H = H ∧ w.Ok K ∧ SR K w ρ σ ∧ After K E w (f ρ w.M) fun b w' => Q b w'.H
end

section
variable {K : PySem.W.Frag} {E : Wish}
theorem After.bind {α β : Type} {w : Wd} {r : R α} {f : α → Store → R β} {P : β → Wd → Prop} (h : After K E w (r.bind f) P) : After K E w r fun a w' => After K E w' (f a w'.M) P := by
  cases r with
  | bad => exact h
  | exc c d M => exact h
  | ok a M =>
    intro w1 s1 e1
    have h' : After K E w (f a M) P := h
    rw [e1]
    cases q : f a M with
    | bad => rw [q] at h'; exact h'
    | exc c d M2 => rw [q] at h'; exact fun w2 s2 e2 => h' w2 (s1.trans s2) e2
    | ok b M2 => rw [q] at h'; exact fun w2 s2 e2 => h' w2 (s1.trans s2) e2
theorem After.imp {α : Type} {w : Wd} {r : R α} {P P' : α → Wd → Prop} (h : After K E w r P) (f : ∀ a w', Step K w w' → P a w' → P' a w') : After K E w r P' := by
  cases r with
  | bad => exact h
  | exc c d M => exact h
  | ok a M => exact fun w1 s1 e1 => f a w1 s1 (h w1 s1 e1)
theorem After.map {α β : Type} {w : Wd} {r : R α} {g : α → β} {P : β → Wd → Prop} (h : After K E w (r.map g) P) : After K E w r fun a w' => P (g a) w' := by
  cases r with
  | bad => exact h
  | exc c d M => exact h
  | ok a M => exact h
theorem After.of {α : Type} {w w' : Wd} {o : Option α} {P : α → Wd → Prop} (h : After K E w (R.of o w.M) P) (hs : Step K w w') (hM : w'.M = w.M) : ∃ a, o = some a ∧ P a w' := by
  cases o with
  | none => exact h.elim
  | some a => exact ⟨a, rfl, h w' hs hM⟩
/-- from an earlier world -/
theorem After.later {α : Type} {w w1 : Wd} {r : R α} {P : α → Wd → Prop} (h : After K E w r P) (s : Step K w w1) : After K E w1 r P := by
  cases r with
  | bad => exact h
  | exc c d M => exact fun w2 s2 e2 => h w2 (s.trans s2) e2
  | ok a M => exact fun w2 s2 e2 => h w2 (s.trans s2) e2
theorem SR.step {w w' : Wd} {ρ : EnvD} {σ : St} (h : SR K w ρ σ) (s : Step K w w') : SR K w' ρ σ :=
  ⟨h.len, fun i d e => let ⟨v, a, b⟩ := h.val i d e; ⟨v, a, s.rep b⟩,
   fun i ds e => let ⟨p, vs, a, b, c, d, f⟩ := h.own i ds e; let ⟨b', c', d'⟩ := s.keepN p _ b c d; ⟨p, vs, a, b', c', d', s.repL f⟩, h.dis⟩
theorem RepB.step {w w' : Wd} {v : V} {d : D} (h : RepB K w v d) (s : Step K w w') : RepB K w' v d := by
  rcases h with h | ⟨p, vs, ds, e1, e2, b, c, d, f⟩
  · exact .inl (s.rep h)
  · obtain ⟨b', c', d'⟩ := s.keepN p _ b c d
    exact .inr ⟨p, vs, ds, e1, e2, b', c', d', s.repL f⟩
theorem RepBL.step {w w' : Wd} (s : Step K w w') : ∀ {vs : List V} {ds : List D}, RepBL K w vs ds → RepBL K w' vs ds
  | _, _, .nil => .nil
  | _, _, .cons r t => .cons (r.step s) (RepBL.step s t)
theorem RepBL.of {w : Wd} : ∀ {vs : List V} {ds : List D}, RepL K w.A w.G vs ds → RepBL K w vs ds
  | [], [], _ => .nil
  | _ :: _, _ :: _, .cons r t => .cons (.inl r) (RepBL.of t)
/-- a list of one's own is frozen -/
theorem Wd.Ok.freeze {w : Wd} (h : w.Ok K) {p : Addr} {o : HO} (hp : w.H p = some o) (hG : w.G p = none) (hA : p ∉ w.A) : (⟨w.A, upd w.G p o, w.M, w.H⟩ : Wd).Ok K := by
  have sG : Same w.G (upd w.G p o) := fun b u e => by rw [upd_ne (ne_of_none e hG)]; exact e
  have rr : ∀ v d, Rep K w.A w.G v d → Rep K w.A (upd w.G p o) v d := fun v d => Rep.mono (List.prefix_refl _) sG d v
  refine ⟨fun b u e => ?_, h.nd, h.len, fun a ha => ?_, fun k m e => ?_⟩
  · have e' : upd w.G p o b = some u := e
    by_cases hb : b = p
    · subst hb
      rw [upd_same] at e'
      exact hp.trans e'
    · rw [upd_ne hb] at e'; exact h.sub b u e'
  · show upd w.G p o a = none
    rw [upd_ne (fun z : a = p => hA (z ▸ ha))]
    exact h.out a ha
  · obtain ⟨a, ea, r⟩ := h.mos k m e
    refine ⟨a, ea, ?_⟩
    cases m with
    | lst ds => obtain ⟨vs, z, q⟩ := r; exact ⟨vs, z, RepL.mono (List.prefix_refl _) sG _ _ q⟩
    | dK ds => obtain ⟨vs, z, q⟩ := r; exact ⟨vs, z, q.imp rr⟩
    | dT ds => obtain ⟨vs, z, q⟩ := r; exact ⟨vs, z, q.imp rr⟩
    | ins c fs => obtain ⟨io, vs, dx, z, q⟩ := r; exact ⟨io, vs, dx, z, q.imp rr⟩
    | exc c d => exact exc_mono r (fun _ z => z) (List.prefix_refl _) sG
theorem upd_fro {G : Hp} {p : Addr} {o : HO} (h : G p = none) : Same G (upd G p o) := fun b u e => by rw [upd_ne (ne_of_none e h)]; exact e
/-- a value of an expression, frozen -/
theorem RepX.freeze {w w' : Wd} {v : V} {s : Slot} (st : Step K w w') (h : RepX K w w' v s) : ∃ G', Step K w ⟨w'.A, G', w'.M, w'.H⟩ ∧ Rep K w'.A G' v s.d := by
  cases s with
  | un => exact h.elim
  | val d => exact ⟨w'.G, st, h⟩
  | own ds =>
    obtain ⟨p, vs, rfl, h0, hH, hG, hA, r⟩ := h
    refine ⟨upd w'.G p (.lst vs), ⟨st.ok.freeze hH hG hA, st.pre, st.fro.trans (upd_fro hG), fun q o h1 h2 h3 => ?_⟩, .lst upd_same (RepL.mono (List.prefix_refl _) (upd_fro hG) _ _ r)⟩
    obtain ⟨a, b, c⟩ := st.keep q o h1 h2 h3
    exact ⟨a, b.imp (fun b => by show upd w'.G p (.lst vs) q = none; rw [upd_ne (ne_of_none h1 h0)]; exact b) id, c⟩
theorem RepX.b {w w' : Wd} {v : V} {s : Slot} (h : RepX K w w' v s) : RepB K w' v s.d := by
  cases s with
  | un => exact h.elim
  | val d => exact .inl h
  | own ds => obtain ⟨p, vs, e, _, hH, hG, hA, r⟩ := h; exact .inr ⟨p, vs, ds, e, rfl, hH, hG, hA, r⟩

/-- what is free now was free -/
theorem Wd.Ok.some_at {w : Wd} (h : w.Ok K) {p : Addr} (hp : p ∈ w.A) : ∃ o, w.H p = some o := by
  obtain ⟨k, hk, e⟩ := List.mem_iff_getElem.mp hp
  have hk' : k < w.M.length := by rw [← h.len]; exact hk
  obtain ⟨a, ea, r⟩ := h.mos k w.M[k] (List.getElem?_eq_getElem hk')
  have e2 : a = p := by
    rw [List.getElem?_eq_getElem hk] at ea
    exact (Option.some.inj ea).symm.trans e
  subst e2
  cases q : w.M[k] with
  | lst ds => rw [q] at r; obtain ⟨_, z, _⟩ := r; exact ⟨_, z⟩
  | dK ds => rw [q] at r; obtain ⟨_, z, _⟩ := r; exact ⟨_, z⟩
  | dT ds => rw [q] at r; obtain ⟨_, z, _⟩ := r; exact ⟨_, z⟩
  | ins c fs => rw [q] at r; obtain ⟨_, _, _, z, _⟩ := r; exact ⟨_, z⟩
  | exc c d => rw [q] at r; obtain ⟨_, z, _⟩ := r; exact ⟨_, z⟩
theorem Step.free {w w' : Wd} (s : Step K w w') {p : Addr} (h : w'.H p = none) : w.H p = none := by
  cases q : w.H p with
  | none => rfl
  | some o =>
    exfalso
    cases qG : w.G p with
    | some u =>
      have := s.ok.sub p u (s.fro p u qG)
      rw [h] at this; cases this
    | none =>
      by_cases hA : p ∈ w.A
      · obtain ⟨o', z⟩ := s.ok.some_at (s.pre.subset hA)
        rw [h] at z; cases z
      · have := (s.keep p o q qG hA).1
        rw [h] at this; cases this
theorem RepX.back {w w1 w2 : Wd} {v : V} {s : Slot} (st : Step K w w1) (h : RepX K w1 w2 v s) : RepX K w w2 v s := by
  cases s with
  | un => exact h
  | val d => exact h
  | own ds => obtain ⟨p, vs, e, h0, r⟩ := h; exact ⟨p, vs, e, st.free h0, r⟩

/-! ### weaker readings -/
section
variable {X : Cx} {e : Expr}
theorem PE.wk {t t' : TE} (h : PE X e t) (f : ∀ σ H Q, t' σ H Q → t σ H Q) : PE X e t' := ⟨fun pins s σ H Q I q => h.run pins s σ H Q I (f σ H Q q)⟩
theorem PT.wk {t t' : TT} (h : PT X e t) (f : ∀ σ H Q, t' σ H Q → t σ H Q) : PT X e t' := ⟨fun pins s σ H Q I q => h.run pins s σ H Q I (f σ H Q q)⟩
theorem PW.wk {t t' : TT} (h : PW X e t) (f : ∀ σ H Q, t' σ H Q → t σ H Q) : PW X e t' := ⟨fun wh pins s σ H Q I q => h.run wh pins s σ H Q I (f σ H Q q)⟩
theorem PA.wk {es : List Expr} {t t' : TA} (h : PA X es t) (f : ∀ σ H Q, t' σ H Q → t σ H Q) : PA X es t' := ⟨fun pos pins s σ H Q I q => h.run pos pins s σ H Q I (f σ H Q q)⟩
theorem PSs.wk {sts : List Stmt} {t t' : TS} (h : PSs X sts t) (f : ∀ D σ H, t' D σ H → t D σ H) : PSs X sts t' := ⟨fun pins s σ H D I q => h.run pins s σ H D I (f D σ H q)⟩
theorem PS.wk {st : Stmt} {t t' : TS} (h : PS X st t) (f : ∀ D σ H, t' D σ H → t D σ H) : PS X st t' := ⟨fun pins s σ H D I q => h.run pins s σ H D I (f D σ H q)⟩
def dEF (f : FE) : FD := fun ρ M => (f ρ M).map Slot.d
def dFE (f : FD) : FE := fun ρ M => (f ρ M).map Slot.val
/-- frozen -/
theorem c_EF {f : FE} (h : PE X e (tE K E f)) : PE X e (tF K E (dEF f)) := PE.wk h fun σ H Q ⟨ρ, w, e1, ok, sr, a⟩ => ⟨ρ, w, e1, ok, sr, by
  have a2 := a.map
  cases q : f ρ w.M with
  | bad => rw [q] at a2; exact a2
  | exc c d M => rw [q] at a2; exact a2
  | ok s M =>
    rw [q] at a2
    intro w' st eM v r
    obtain ⟨G', st', r'⟩ := r.freeze st
    exact a2 _ st' eM v r'⟩
theorem c_EB {f : FE} (h : PE X e (tE K E f)) : PE X e (tR K E (dEF f)) := PE.wk h fun σ H Q ⟨ρ, w, e1, ok, sr, a⟩ => ⟨ρ, w, e1, ok, sr, a.map.imp fun s w' _ z v r => z v r.b⟩
theorem c_FE {f : FD} (h : PE X e (tF K E f)) : PE X e (tE K E (dFE f)) := PE.wk h fun σ H Q ⟨ρ, w, e1, ok, sr, a⟩ => ⟨ρ, w, e1, ok, sr, a.map⟩
theorem c_FB {f : FD} (h : PE X e (tF K E f)) : PE X e (tR K E f) := PE.wk h fun σ H Q ⟨ρ, w, e1, ok, sr, a⟩ => ⟨ρ, w, e1, ok, sr, a.imp fun s w' _ z v r => z v (.inl r)⟩
/-! ### names, constants -/
def dVar (i : Nat) : FD := fun ρ M => match ρ[i]? with
  | some (.val d) => .ok d M
  | _ => .bad
def dVarB (i : Nat) : FD := fun ρ M => match ρ[i]? with
  | some (.val d) => .ok d M
  | some (.own ds) => .ok (.lst ds) M
  | _ => .bad
def dC (d : D) : FD := fun _ M => .ok d M
theorem x_var {i : Nat} (h : PE X e (tVar i)) : PE X e (tF K E (dVar i)) := PE.wk h fun σ H Q ⟨ρ, w, e1, ok, sr, a⟩ => by
  subst e1
  unfold dVar at a
  split at a
  · rename_i d e2
    obtain ⟨v, h1, h2⟩ := sr.val i d e2
    exact ⟨v, h1, a w (Step.refl ok) rfl v h2⟩
  · exact a.elim
theorem x_varB {i : Nat} (h : PE X e (tVar i)) : PE X e (tR K E (dVarB i)) := PE.wk h fun σ H Q ⟨ρ, w, e1, ok, sr, a⟩ => by
  subst e1
  unfold dVarB at a
  split at a
  · rename_i d e2
    obtain ⟨v, h1, h2⟩ := sr.val i d e2
    exact ⟨v, h1, a w (Step.refl ok) rfl v (.inl h2)⟩
  · rename_i ds e2
    obtain ⟨p, vs, h1, h2, h3, h4, h5⟩ := sr.own i ds e2
    exact ⟨_, h1, a w (Step.refl ok) rfl _ (.inr ⟨p, vs, ds, rfl, rfl, h2, h3, h4, h5⟩)⟩
  · exact a.elim
theorem x_c {v : V} {d : D} (h : PE X e (tC v)) (r : ∀ A G, Rep K A G v d) : PE X e (tF K E (dC d)) := PE.wk h fun σ H Q ⟨ρ, w, e1, ok, sr, a⟩ => by
  subst e1
  exact a w (Step.refl ok) rfl v (r _ _)
end
end
end TP
/-! TPc: expressions. -/
namespace TP
open PySem L2
/-! ### views -/
/-- a list that may be changed or read -/
def lstOf (M : Store) : D → Option (List D)
  | .lst ds => some ds
  | .ref k => match M[k]? with
    | some (.lst ds) => some ds
    | _ => none
  | _ => none
/-- a list that may be read -/
def seqOf (M : Store) : D → Option (List D)
  | .fro ds => some ds
  | x => lstOf M x
section
variable {K : PySem.W.Frag} {E : Wish}
theorem lstOf_ref {M : Store} {k : Nat} {ds : List D} (h : lstOf M (.ref k) = some ds) : M[k]? = some (.lst ds) := by
  unfold lstOf at h
  simp only at h
  split at h
  · rename_i es e2
    cases h
    exact e2
  · cases h
theorem lst_at {w : Wd} (ok : w.Ok K) {v : V} {x : D} {ds : List D} (r : RepB K w v x) (h : lstOf w.M x = some ds) : ∃ p vs, v = .ref p ∧ w.H p = some (.lst vs) ∧ RepL K w.A w.G vs ds := by
  rcases r with r | ⟨p, vs, es, rfl, rfl, h1, _, _, h4⟩
  · cases r with
    | lst e rl => cases h; exact ⟨_, _, rfl, ok.sub _ _ e, rl⟩
    | @ref a k e =>
      obtain ⟨a', e3, vs, h1, h2⟩ := ok.mos k _ (lstOf_ref h)
      rw [e] at e3
      cases e3
      exact ⟨_, vs, rfl, h1, h2⟩
    | _ => cases h
  · cases h; exact ⟨p, vs, rfl, h1, h4⟩
theorem seq_at {w : Wd} (ok : w.Ok K) {v : V} {x : D} {ds : List D} (r : RepB K w v x) (h : seqOf w.M x = some ds) : ∃ p vs, v = .ref p ∧ SqL K w.H p vs ∧ RepL K w.A w.G vs ds := by
  by_cases hf : ∃ es, x = .fro es
  · obtain ⟨es, rfl⟩ := hf
    rcases r with r | ⟨p, vs, es', rfl, e, _⟩
    · cases r with
      | fro hs rl => cases h; exact ⟨_, _, rfl, ok.sub.seq hs, rl⟩
    · cases e
  · have h' : lstOf w.M x = some ds := by
      cases x <;> first | exact h | exact absurd ⟨_, rfl⟩ hf
    obtain ⟨p, vs, e, h1, h2⟩ := lst_at ok r h'
    exact ⟨p, vs, e, .inl (.inl h1), h2⟩
theorem tup_at {w : Wd} (ok : w.Ok K) {v : V} {ds : List D} (r : RepB K w v (.tup ds)) : ∃ p vs, v = .ref p ∧ SqT K w.H p vs ∧ RepL K w.A w.G vs ds := by
  rcases r with r | ⟨p, vs, es', rfl, e, _⟩
  · cases r with
    | tup hs rl => exact ⟨_, _, rfl, .inl (.inl (ok.sub _ _ hs)), rl⟩
  · cases e
theorem tupH_at {w : Wd} (ok : w.Ok K) {v : V} {ds : List D} (r : RepB K w v (.tup ds)) : ∃ p vs, v = .ref p ∧ w.H p = some (.tup vs) ∧ RepL K w.A w.G vs ds := by
  rcases r with r | ⟨p, vs, es', rfl, e, _⟩
  · cases r with
    | tup hs rl => exact ⟨_, _, rfl, ok.sub _ _ hs, rl⟩
  · cases e
theorem kt_at {w : Wd} (ok : w.Ok K) {v : V} {ds : List D} (r : RepB K w v (.kt ds)) : ∃ p vs, v = .ref p ∧ SqT K w.H p vs ∧ RepL K w.A w.G vs ds := by
  rcases r with r | ⟨p, vs, es', rfl, e, _⟩
  · cases r with
    | kt hs rl => exact ⟨_, _, rfl, sqT_mono ok.sub hs, rl⟩
  · cases e
theorem int_at {w : Wd} {v : V} {i : Int} (r : RepB K w v (.int i)) : v = .int i := by
  rcases r with r | ⟨p, vs, es', rfl, e, _⟩
  · cases r; rfl
  · cases e
theorem bl_at {w : Wd} {v : V} {i : Bool} (r : RepB K w v (.bl i)) : v = .bl i := by
  rcases r with r | ⟨p, vs, es', rfl, e, _⟩
  · cases r; rfl
  · cases e
theorem str_at {w : Wd} {v : V} {i : Str} (r : RepB K w v (.str i)) : v = .str i := by
  rcases r with r | ⟨p, vs, es', rfl, e, _⟩
  · cases r; rfl
  · cases e
theorem non_at {w : Wd} {v : V} (r : RepB K w v .non) : v = .non := by
  rcases r with r | ⟨p, vs, es', rfl, e, _⟩
  · cases r; rfl
  · cases e
/-! ### what a built-in thing does, by plain data -/
def Prim1 (K : PySem.W.Frag) (r : V → Hp → VK → Prop) (g : Store → D → Option Slot) : Prop := ∀ (w : Wd) (vx : V) (x : D) (s : Slot) (Q : VK), w.Ok K → RepB K w vx x → g w.M x = some s →
  (∀ v w', Step K w w' → w'.M = w.M → RepX K w w' v s → Q v w'.H) → r vx w.H Q
def Prim2 (K : PySem.W.Frag) (r : R2) (g : Store → D → D → Option Slot) : Prop := ∀ (w : Wd) (vx vy : V) (x y : D) (s : Slot) (Q : VK), w.Ok K → RepB K w vx x → RepB K w vy y → g w.M x y = some s →
  (∀ v w', Step K w w' → w'.M = w.M → RepX K w w' v s → Q v w'.H) → r vx vy w.H Q
def PrimN (K : PySem.W.Frag) (r : List V → Hp → VK → Prop) (g : Store → List D → Option Slot) : Prop := ∀ (w : Wd) (vs : List V) (ds : List D) (s : Slot) (Q : VK), w.Ok K → RepBL K w vs ds → g w.M ds = some s →
  (∀ v w', Step K w w' → w'.M = w.M → RepX K w w' v s → Q v w'.H) → r vs w.H Q
def PrimM (K : PySem.W.Frag) (r : V → List V → Hp → VK → Prop) (g : Store → D → List D → Option Slot) : Prop := ∀ (w : Wd) (vx : V) (x : D) (vs : List V) (ds : List D) (s : Slot) (Q : VK), w.Ok K → RepB K w vx x → RepBL K w vs ds → g w.M x ds = some s →
  (∀ v w', Step K w w' → w'.M = w.M → RepX K w w' v s → Q v w'.H) → r vx vs w.H Q
def dOp1 (g : Store → D → Option Slot) (fa : FD) : FE := fun ρ M => (fa ρ M).bind fun x M => R.of (g M x) M
def dOp2 (g : Store → D → D → Option Slot) (fa fb : FD) : FE := fun ρ M => (fa ρ M).bind fun x M => (fb ρ M).bind fun y M => R.of (g M x y) M
def dPr (g : Store → List D → Option Slot) (fs : FL) : FE := fun ρ M => (fs ρ M).bind fun ds M => R.of (g M ds) M
section
variable {X : Cx} {e : Expr}
theorem fin_of {w w2 : Wd} {o : Option Slot} {Q : VK} (s : Step K w w2) (a : After K E w2 (R.of o w2.M) fun s w' => ∀ v, RepX K w w' v s → Q v w'.H) :
    ∃ s, o = some s ∧ ∀ v w', Step K w2 w' → w'.M = w2.M → RepX K w2 w' v s → Q v w'.H := by
  cases o with
  | none => exact a.elim
  | some x => exact ⟨x, rfl, fun v w' s3 e3 rv => a w' s3 e3 v (rv.back s)⟩
theorem x_op2 {r : R2} {g : Store → D → D → Option Slot} {fa fb : FD} (h : PE X e (tOp r (tR K E fa) (tR K E fb))) (p : Prim2 K r g) : PE X e (tE K E (dOp2 g fa fb)) := PE.wk h fun σ H Q ⟨ρ, w, e1, ok, sr, a⟩ =>
  ⟨ρ, w, e1, ok, sr, a.bind.imp fun x w1 s1 a1 vx rx => ⟨ρ, w1, rfl, s1.ok, sr.step s1, a1.bind.imp fun y w2 s2 a2 vy ry => by
    obtain ⟨s, es, k⟩ := fin_of (s1.trans s2) a2
    exact p w2 vx vy x y s Q s2.ok (rx.step s2) ry es k⟩⟩
theorem x_op1 {r : V → Hp → VK → Prop} {g : Store → D → Option Slot} {fa : FD} (h : PE X e (tUn r (tR K E fa))) (p : Prim1 K r g) : PE X e (tE K E (dOp1 g fa)) := PE.wk h fun σ H Q ⟨ρ, w, e1, ok, sr, a⟩ =>
  ⟨ρ, w, e1, ok, sr, a.bind.imp fun x w1 s1 a1 vx rx => by
    obtain ⟨s, es, k⟩ := fin_of s1 a1
    exact p w1 vx x s Q s1.ok rx es k⟩
theorem x_prim {r : List V → Hp → VK → Prop} {g : Store → List D → Option Slot} {fs : FL} (h : PE X e (tCB r (tAR K E fs))) (p : PrimN K r g) : PE X e (tE K E (dPr g fs)) := PE.wk h fun σ H Q ⟨ρ, w, e1, ok, sr, a⟩ =>
  ⟨ρ, w, e1, ok, sr, a.bind.imp fun x w1 s1 a1 vx rx => by
    obtain ⟨s, es, k⟩ := fin_of s1 a1
    exact p w1 vx x s Q s1.ok rx es k⟩
/-! ### lists of arguments -/
def dNil : FL := fun _ M => .ok [] M
def dCons (f : FD) (fs : FL) : FL := fun ρ M => (f ρ M).bind fun d M => (fs ρ M).bind fun ds M => .ok (d :: ds) M
variable {es : List Expr}
theorem xa_nil (h : PA X [] tNil) : PA X [] (tAF K E dNil) := PA.wk h fun σ H Q ⟨ρ, w, e1, ok, sr, a⟩ => by
  subst e1
  exact a w (Step.refl ok) rfl [] .nil
theorem xr_nil (h : PA X [] tNil) : PA X [] (tAR K E dNil) := PA.wk h fun σ H Q ⟨ρ, w, e1, ok, sr, a⟩ => by
  subst e1
  exact a w (Step.refl ok) rfl [] .nil
theorem xa_cons {f : FD} {fs : FL} (h : PA X es (tCons (tF K E f) (tAF K E fs))) : PA X es (tAF K E (dCons f fs)) := PA.wk h fun σ H Q ⟨ρ, w, e1, ok, sr, a⟩ =>
  ⟨ρ, w, e1, ok, sr, a.bind.imp fun d w1 s1 a1 v rv => ⟨ρ, w1, rfl, s1.ok, sr.step s1, a1.bind.imp fun ds w2 s2 a2 vs rvs => a2 w2 (Step.refl s2.ok) rfl _ (.cons (s2.rep rv) rvs)⟩⟩
theorem xr_cons {f : FD} {fs : FL} (h : PA X es (tCons (tR K E f) (tAR K E fs))) : PA X es (tAR K E (dCons f fs)) := PA.wk h fun σ H Q ⟨ρ, w, e1, ok, sr, a⟩ =>
  ⟨ρ, w, e1, ok, sr, a.bind.imp fun d w1 s1 a1 v rv => ⟨ρ, w1, rfl, s1.ok, sr.step s1, a1.bind.imp fun ds w2 s2 a2 vs rvs => a2 w2 (Step.refl s2.ok) rfl _ (.cons (rv.step s2) rvs)⟩⟩
theorem sizeOf_le {n : Nat} (h : decide (n ≤ sizeLine) = true) : n ≤ sizeLine := of_decide_eq_true h
/-- a tuple of written items -/
def dTup (fs : FL) : FD := fun ρ M => (fs ρ M).bind fun ds M => if ds.length ≤ sizeLine then .ok (.tup ds) M else .bad
def dLst (fs : FL) : FE := fun ρ M => (fs ρ M).bind fun ds M => if ds.length ≤ sizeLine then .ok (.own ds) M else .bad
theorem x_tup {fs : FL} (h : PE X e (tTup (tAF K E fs))) : PE X e (tF K E (dTup fs)) := PE.wk h fun σ H Q ⟨ρ, w, e1, ok, sr, a⟩ =>
  ⟨ρ, w, e1, ok, sr, a.bind.imp fun ds w1 s1 a1 vs rvs => by
    split at a1
    · rename_i hl
      refine ⟨by rw [rvs.length]; exact hl, fun p hp => ?_⟩
      have st := s1.ok.fresh hp (.tup vs)
      exact a1 _ st rfl _ (.tup upd_same (st.repL rvs))
    · exact a1.elim⟩
/-- a new thing that is not frozen: a list of one's own -/
theorem Wd.Ok.fresh0 {w : Wd} (h : w.Ok K) {p : Addr} (hp : w.H p = none) (o : HO) : Step K w ⟨w.A, w.G, w.M, upd w.H p o⟩ := by
  have hG : w.G p = none := h.sub.free hp
  refine ⟨⟨fun b u e => ?_, h.nd, h.len, h.out, fun k m e => ?_⟩, List.prefix_refl _, Same.refl _, fun q u h1 h2 h3 => ⟨?_, .inl h2, h3⟩⟩
  · show upd w.H p o b = some u
    rw [upd_ne (ne_of_none e hG)]
    exact h.sub b u e
  · obtain ⟨a, ea, r⟩ := h.mos k m e
    refine ⟨a, ea, ?_⟩
    cases m with
    | lst ds => obtain ⟨vs, z, q⟩ := r; exact ⟨vs, by show upd w.H p o a = _; rw [upd_ne (ne_of_none z hp)]; exact z, q⟩
    | dK ds => obtain ⟨vs, z, q⟩ := r; exact ⟨vs, by show upd w.H p o a = _; rw [upd_ne (ne_of_none z hp)]; exact z, q⟩
    | dT ds => obtain ⟨vs, z, q⟩ := r; exact ⟨vs, by show upd w.H p o a = _; rw [upd_ne (ne_of_none z hp)]; exact z, q⟩
    | ins c fs => obtain ⟨io, vs, dx, z, q⟩ := r; exact ⟨io, vs, dx, by show upd w.H p o a = _; rw [upd_ne (ne_of_none z hp)]; exact z, q⟩
    | exc c d => exact exc_mono r (fun _ z => by show upd w.H p o a = _; rw [upd_ne (ne_of_none z hp)]; exact z) (List.prefix_refl _) (Same.refl _)
  · show upd w.H p o q = some u
    rw [upd_ne (ne_of_none h1 hp)]; exact h1
theorem Wd.Ok.notA {w : Wd} (h : w.Ok K) {p : Addr} (hp : w.H p = none) : p ∉ w.A := fun hm => by
  obtain ⟨o, z⟩ := h.some_at hm
  rw [hp] at z; cases z
/-- a new list, as a value of its own -/
theorem own_new {w w1 : Wd} (s1 : Step K w w1) {p : Addr} (hp : w1.H p = none) {vs : List V} {ds : List D} (r : RepL K w1.A w1.G vs ds) :
    RepX K w ⟨w1.A, w1.G, w1.M, upd w1.H p (.lst vs)⟩ (.ref p) (.own ds) :=
  ⟨p, vs, rfl, s1.free hp, upd_same, s1.ok.sub.free hp, s1.ok.notA hp, r⟩
theorem x_lst {fs : FL} (h : PE X e (tLst (tAF K E fs))) : PE X e (tE K E (dLst fs)) := PE.wk h fun σ H Q ⟨ρ, w, e1, ok, sr, a⟩ =>
  ⟨ρ, w, e1, ok, sr, a.bind.imp fun ds w1 s1 a1 vs rvs => by
    split at a1
    · rename_i hl
      refine ⟨by rw [rvs.length]; exact hl, fun p hp => ?_⟩
      exact a1 _ (s1.ok.fresh0 hp (.lst vs)) rfl _ (own_new s1 hp rvs)
    · exact a1.elim⟩
/-! ### tests -/
/-- truth -/
def truD (M : Store) : D → Option Bool
  | .non => some false
  | .bl b => some b
  | .int i => some (i != 0)
  | .str y => if y.length ≤ sizeLine then some ((y.length : Int) != 0) else none
  | .tup ds => some (!ds.isEmpty)
  | .ref k => match M[k]? with
    | some (.lst ds) => some (!ds.isEmpty)
    | some (.dK ds) => some (!ds.isEmpty)
    | _ => none
  | .lst ds => some (!ds.isEmpty)
  | .fro ds => some (!ds.isEmpty)
  | .kt ds => some (!ds.isEmpty)
  | .fn _ => none
theorem RepL.emp {A : List Addr} {G : Hp} {vs : List V} {ds : List D} (h : RepL K A G vs ds) : ds.isEmpty = vs.isEmpty := by cases h <;> rfl
theorem RepKV.emp {κ : Type} {R : V → D → Prop} {vs : List (κ × V)} {ds : List (κ × D)} (h : RepKV R vs ds) : ds.isEmpty = vs.isEmpty := by cases h <;> rfl
theorem tru_at {w : Wd} (ok : w.Ok K) {v : V} {x : D} {b : Bool} (r : RepB K w v x) (h : truD w.M x = some b) : TruV K v w.H b := by
  cases x with
  | non => cases non_at r; exact (Option.some.inj h).symm
  | bl c => cases bl_at r; exact (Option.some.inj h).symm
  | int i => cases int_at r; exact (Option.some.inj h).symm
  | str y =>
    cases str_at r
    simp only [truD] at h
    split at h
    · rename_i hl; exact ⟨hl, (Option.some.inj h).symm⟩
    · cases h
  | tup ds =>
    obtain ⟨p, vs, rfl, hs, rl⟩ := tup_at ok r
    exact .inr (.inl ⟨vs, hs, by rw [← rl.emp]; exact (Option.some.inj h).symm⟩)
  | lst ds =>
    obtain ⟨p, vs, rfl, hs, rl⟩ := lst_at (ds := ds) ok r rfl
    exact .inl ⟨vs, .inl (.inl hs), by rw [← rl.emp]; exact (Option.some.inj h).symm⟩
  | fro ds =>
    obtain ⟨p, vs, rfl, hs, rl⟩ := seq_at (ds := ds) ok r rfl
    exact .inl ⟨vs, hs, by rw [← rl.emp]; exact (Option.some.inj h).symm⟩
  | kt ds =>
    obtain ⟨p, vs, rfl, hs, rl⟩ := kt_at ok r
    exact .inr (.inl ⟨vs, hs, by rw [← rl.emp]; exact (Option.some.inj h).symm⟩)
  | fn c => cases h
  | ref k =>
    simp only [truD] at h
    rcases r with r | ⟨p, vs, es', rfl, e, _⟩
    · cases r with
      | @ref a k ek =>
        split at h
        · rename_i ds e2
          obtain ⟨a', e3, vs, h1, h2⟩ := ok.mos k _ e2
          rw [ek] at e3; cases e3
          exact .inl ⟨vs, .inl (.inl h1), by rw [← h2.emp]; exact (Option.some.inj h).symm⟩
        · rename_i ds e2
          obtain ⟨a', e3, vs, h1, h2⟩ := ok.mos k _ e2
          rw [ek] at e3; cases e3
          exact .inr (.inr ⟨vs, h1, by rw [← h2.emp]; exact (Option.some.inj h).symm⟩)
        · cases h
    · cases e
def dTru (f : FD) : FB := fun ρ M => (f ρ M).bind fun x M => R.of (truD M x) M
theorem x_truth {f : FD} (h : PT X e (fun σ H Q => tR K E f σ H fun x H' => ∃ k, TruV K x H' k ∧ Q k H')) : PT X e (tT K E (dTru f)) := PT.wk h fun σ H Q ⟨ρ, w, e1, ok, sr, a⟩ =>
  ⟨ρ, w, e1, ok, sr, a.bind.imp fun x w1 s1 a1 v rv => by
    obtain ⟨b, eb, k⟩ := a1.of (Step.refl s1.ok) rfl
    exact ⟨b, tru_at s1.ok rv eb, k⟩⟩
/-- a test that is a bool expression (a comparison) -/
def boD : D → Option Bool
  | .bl b => some b
  | _ => none
def dBo (f : FE) : FB := fun ρ M => (f ρ M).bind fun x M => R.of (boD x.d) M
theorem x_test {t : TE} {f : FE} (h : PT X e (tTest t)) (ht : ∀ σ H Q, tE K E f σ H Q → t σ H Q) : PT X e (tT K E (dBo f)) := PT.wk h fun σ H Q ⟨ρ, w, e1, ok, sr, a⟩ =>
  ht _ _ _ ⟨ρ, w, e1, ok, sr, a.bind.imp fun x w1 s1 a1 v rv => by
    obtain ⟨b, eb, k⟩ := a1.of (Step.refl s1.ok) rfl
    cases x with
    | un => cases eb
    | own ds => cases eb
    | val d =>
      cases d with
      | bl c => cases eb; cases rv; exact ⟨_, rfl, k⟩
      | _ => cases eb⟩
def dNot (f : FB) : FB := fun ρ M => (f ρ M).map fun b => !b
theorem x_not {f : FB} (h : PT X e (tNot (tT K E f))) : PT X e (tT K E (dNot f)) := PT.wk h fun σ H Q ⟨ρ, w, e1, ok, sr, a⟩ => ⟨ρ, w, e1, ok, sr, a.map⟩
def dAnd (f g : FB) : FB := fun ρ M => (f ρ M).bind fun b M => if b then g ρ M else .ok false M
def dOr (f g : FB) : FB := fun ρ M => (f ρ M).bind fun b M => if b then .ok true M else g ρ M
theorem x_and {f g : FB} (h : PW X e (tAnd (tT K E f) (tT K E g))) : PW X e (tT K E (dAnd f g)) := PW.wk h fun σ H Q ⟨ρ, w, e1, ok, sr, a⟩ =>
  ⟨ρ, w, e1, ok, sr, a.bind.imp fun b w1 s1 a1 => by
    cases b with
    | true => exact iteT ⟨ρ, w1, rfl, s1.ok, sr.step s1, a1⟩
    | false => exact iteF (a1 w1 (Step.refl s1.ok) rfl)⟩
theorem x_or {f g : FB} (h : PW X e (tOr (tT K E f) (tT K E g))) : PW X e (tT K E (dOr f g)) := PW.wk h fun σ H Q ⟨ρ, w, e1, ok, sr, a⟩ =>
  ⟨ρ, w, e1, ok, sr, a.bind.imp fun b w1 s1 a1 => by
    cases b with
    | true => exact iteT (a1 w1 (Step.refl s1.ok) rfl)
    | false => exact iteF ⟨ρ, w1, rfl, s1.ok, sr.step s1, a1⟩⟩
/-- a if c else b -/
def dIf (c : FB) (f g : FE) : FE := fun ρ M => (c ρ M).bind fun b M => if b then f ρ M else g ρ M
theorem tE_back {f : FE} {w w1 : Wd} {ρ : EnvD} {σ : St} {Q : VK} (s1 : Step K w w1) (sr : SR K w ρ σ) (a : After K E w1 (f ρ w1.M) fun s w' => ∀ v, RepX K w w' v s → Q v w'.H) : tE K E f σ w1.H Q :=
  ⟨ρ, w1, rfl, s1.ok, sr.step s1, a.imp fun s w' _ z v rv => z v (rv.back s1)⟩
theorem x_if {c : FB} {f g : FE} (h : PE X e (tIf (tT K E c) (tE K E f) (tE K E g))) : PE X e (tE K E (dIf c f g)) := PE.wk h fun σ H Q ⟨ρ, w, e1, ok, sr, a⟩ =>
  ⟨ρ, w, e1, ok, sr, a.bind.imp fun b w1 s1 a1 => by
    cases b with
    | true => exact iteT (tE_back s1 sr a1)
    | false => exact iteF (tE_back s1 sr a1)⟩
/-- and, or as values of bools -/
def dAndV (f g : FE) : FE := fun ρ M => (f ρ M).bind fun x M => match x with
  | .val (.bl true) => g ρ M
  | .val (.bl false) => .ok (.val (.bl false)) M
  | _ => .bad
def dOrV (f g : FE) : FE := fun ρ M => (f ρ M).bind fun x M => match x with
  | .val (.bl true) => .ok (.val (.bl true)) M
  | .val (.bl false) => g ρ M
  | _ => .bad
def dNotV (f : FE) : FE := fun ρ M => (f ρ M).bind fun x M => match x with
  | .val (.bl b) => .ok (.val (.bl (!b))) M
  | _ => .bad
theorem x_andV {f g : FE} (h : PE X e (tAndV (tE K E f) (tE K E g))) : PE X e (tE K E (dAndV f g)) := PE.wk h fun σ H Q ⟨ρ, w, e1, ok, sr, a⟩ =>
  ⟨ρ, w, e1, ok, sr, a.bind.imp fun x w1 s1 a1 v rv => by
    split at a1
    · cases rv; exact ⟨true, rfl, iteT (tE_back s1 sr a1)⟩
    · cases rv; exact ⟨false, rfl, iteF (a1 w1 (Step.refl s1.ok) rfl _ (.bl _))⟩
    · exact a1.elim⟩
theorem x_orV {f g : FE} (h : PE X e (tOrV (tE K E f) (tE K E g))) : PE X e (tE K E (dOrV f g)) := PE.wk h fun σ H Q ⟨ρ, w, e1, ok, sr, a⟩ =>
  ⟨ρ, w, e1, ok, sr, a.bind.imp fun x w1 s1 a1 v rv => by
    split at a1
    · cases rv; exact ⟨true, rfl, iteT (a1 w1 (Step.refl s1.ok) rfl _ (.bl _))⟩
    · cases rv; exact ⟨false, rfl, iteF (tE_back s1 sr a1)⟩
    · exact a1.elim⟩
theorem x_notV {f : FE} (h : PE X e (tNotV (tE K E f))) : PE X e (tE K E (dNotV f)) := PE.wk h fun σ H Q ⟨ρ, w, e1, ok, sr, a⟩ =>
  ⟨ρ, w, e1, ok, sr, a.bind.imp fun x w1 s1 a1 v rv => by
    split at a1
    · cases rv; exact ⟨_, rfl, a1 w1 (Step.refl s1.ok) rfl _ (.bl _)⟩
    · exact a1.elim⟩
end
end
end TP
/-! TPd: methods, slices, calls, what is walked, targets, comprehensions. -/
namespace TP
open PySem L2
section
variable {K : PySem.W.Frag} {E : Wish} {X : Cx} {e : Expr}
/-! ### methods of built-in types -/
def tyD (M : Store) : D → Option String
  | .str _ => some "str"
  | .int _ => some "int"
  | .lst _ => some "list"
  | .fro _ => some "list"
  | .ref k => match M[k]? with
    | some (.lst _) => some "list"
    | some (.dK _) => some "dict"
    | some (.dT _) => some "dict"
    | _ => none
  | _ => none
theorem ty_at {w : Wd} (ok : w.Ok K) {v : V} {x : D} {T : String} (r : RepB K w v x) (h : tyD w.M x = some T) : tyV K T v w.H := by
  cases x with
  | str y => cases str_at r; exact (Option.some.inj h).symm
  | int y => cases int_at r; exact (Option.some.inj h).symm
  | lst ds =>
    obtain ⟨p, vs, rfl, hs, rl⟩ := lst_at (ds := ds) ok r rfl
    exact .inl ⟨(Option.some.inj h).symm, vs, .inl (.inl hs)⟩
  | fro ds =>
    obtain ⟨p, vs, rfl, hs, rl⟩ := seq_at (ds := ds) ok r rfl
    exact .inl ⟨(Option.some.inj h).symm, vs, hs⟩
  | fn c => cases h
  | ref k =>
    simp only [tyD] at h
    rcases r with r | ⟨p, vs, es', rfl, e, _⟩
    · cases r with
      | @ref a k ek =>
        split at h
        · rename_i ds e2
          obtain ⟨a', e3, vs, h1, h2⟩ := ok.mos k _ e2
          rw [ek] at e3; cases e3
          exact .inl ⟨(Option.some.inj h).symm, vs, .inl (.inl h1)⟩
        · rename_i ds e2
          obtain ⟨a', e3, vs, h1, h2⟩ := ok.mos k _ e2
          rw [ek] at e3; cases e3
          exact .inr (.inr (.inl ⟨(Option.some.inj h).symm, .inl ⟨vs, h1⟩⟩))
        · rename_i ds e2
          obtain ⟨a', e3, vs, h1, h2⟩ := ok.mos k _ e2
          rw [ek] at e3; cases e3
          exact .inr (.inr (.inl ⟨(Option.some.inj h).symm, .inr ⟨vs, h1⟩⟩))
        · cases h
    · cases e
  | non => cases h
  | bl b => cases h
  | tup ds => cases h
  | kt ds => cases h
def dMeth (T : String) (g : Store → D → List D → Option Slot) (fo : FD) (fs : FL) : FE := fun ρ M => (fo ρ M).bind fun x M => if tyD M x = some T then (fs ρ M).bind fun ds M => R.of (g M x ds) M else .bad
theorem x_meth {T : String} {r : V → List V → Hp → VK → Prop} {g : Store → D → List D → Option Slot} {fo : FD} {fs : FL} (h : PE X e (tBM K T r (tR K E fo) (tAR K E fs))) (p : PrimM K r g) : PE X e (tE K E (dMeth T g fo fs)) := PE.wk h fun σ H Q ⟨ρ, w, e1, ok, sr, a⟩ =>
  ⟨ρ, w, e1, ok, sr, a.bind.imp fun x w1 s1 a1 vx rx => by
    split at a1
    · rename_i ht
      refine ⟨ty_at s1.ok rx ht, ρ, w1, rfl, s1.ok, sr.step s1, a1.bind.imp fun ds w2 s2 a2 vs rvs => ?_⟩
      obtain ⟨s, es, k⟩ := fin_of (s1.trans s2) a2
      exact p w2 vx x vs ds s Q s2.ok (rx.step s2) rvs es k
    · exact a1.elim⟩
def dMeth0 (T : String) (g : Store → D → List D → Option Slot) (fo : FD) : FE := fun ρ M => (fo ρ M).bind fun x M => if tyD M x = some T then R.of (g M x []) M else .bad
theorem x_meth0 {T : String} {r : V → List V → Hp → VK → Prop} {g : Store → D → List D → Option Slot} {fo : FD} (h : PE X e (tBM0 K T r (tR K E fo))) (p : PrimM K r g) : PE X e (tE K E (dMeth0 T g fo)) := PE.wk h fun σ H Q ⟨ρ, w, e1, ok, sr, a⟩ =>
  ⟨ρ, w, e1, ok, sr, a.bind.imp fun x w1 s1 a1 vx rx => by
    split at a1
    · rename_i ht
      obtain ⟨s, es, k⟩ := fin_of s1 a1
      exact ⟨ty_at s1.ok rx ht, p w1 vx x [] [] s Q s1.ok rx .nil es k⟩
    · exact a1.elim⟩
/-! ### slices -/
abbrev FO := EnvD → Store → R (Option Int)
def tO (K : PySem.W.Frag) (E : Wish) (f : FO) : TO := fun σ H Q => ∃ ρ w, w.H = H ∧ w.Ok K ∧ SR K w ρ σ ∧ After K E w (f ρ w.M) fun o w' => Q o w'.H
def dNo : FO := fun _ M => .ok none M
def dSo (f : FD) : FO := fun ρ M => (f ρ M).bind fun x M => match x with
  | .int i => .ok (some i) M
  | _ => .bad
theorem PO.wk {o : Option Expr} {t t' : TO} (h : PO X o t) (f : ∀ σ H Q, t' σ H Q → t σ H Q) : PO X o t' := ⟨fun pins s σ H Q I q => h.run pins s σ H Q I (f σ H Q q)⟩
theorem x_no : PO X none (tO K E dNo) := PO.wk po_none fun σ H Q ⟨ρ, w, e1, ok, sr, a⟩ => by
  subst e1
  exact a w (Step.refl ok) rfl
theorem x_so {f : FD} (h : PE X e (tR K E f)) : PO X (some e) (tO K E (dSo f)) := PO.wk (po_some h) fun σ H Q ⟨ρ, w, e1, ok, sr, a⟩ =>
  ⟨ρ, w, e1, ok, sr, a.bind.imp fun x w1 s1 a1 v rv => by
    split at a1
    · exact ⟨_, int_at rv, a1 w1 (Step.refl s1.ok) rfl⟩
    · exact a1.elim⟩
def PrimS (K : PySem.W.Frag) (r : V → Option Int → Option Int → Hp → VK → Prop) (g : Store → D → Option Int → Option Int → Option Slot) : Prop := ∀ (w : Wd) (vx : V) (x : D) (lo hi : Option Int) (s : Slot) (Q : VK), w.Ok K → RepB K w vx x → g w.M x lo hi = some s →
  (∀ v w', Step K w w' → w'.M = w.M → RepX K w w' v s → Q v w'.H) → r vx lo hi w.H Q
def dSl (g : Store → D → Option Int → Option Int → Option Slot) (f : FD) (lo hi : FO) : FE := fun ρ M => (f ρ M).bind fun x M => (lo ρ M).bind fun l M => (hi ρ M).bind fun u M => R.of (g M x l u) M
theorem x_sl {r : V → Option Int → Option Int → Hp → VK → Prop} {g : Store → D → Option Int → Option Int → Option Slot} {f : FD} {lo hi : FO} (h : PE X e (tSl r (tR K E f) (tO K E lo) (tO K E hi))) (p : PrimS K r g) : PE X e (tE K E (dSl g f lo hi)) := PE.wk h fun σ H Q ⟨ρ, w, e1, ok, sr, a⟩ =>
  ⟨ρ, w, e1, ok, sr, a.bind.imp fun x w1 s1 a1 vx rx => ⟨ρ, w1, rfl, s1.ok, sr.step s1, a1.bind.imp fun l w2 s2 a2 => ⟨ρ, w2, rfl, s2.ok, (sr.step s1).step s2, a2.bind.imp fun u w3 s3 a3 => by
    obtain ⟨s, es, k⟩ := fin_of ((s1.trans s2).trans s3) a3
    exact p w3 vx x l u s Q s3.ok ((rx.step s2).step s3) es k⟩⟩⟩
/-! ### calls of defs of the text -/
abbrev Fn := List D → Store → R Slot
/-- n: how many arguments; We: from the wish about an exception's class and dict to ours -/
def spD (K : PySem.W.Frag) (We : XK → Wish) (n : Nat) (m : Fn) : Sp := fun vs H Q EX => vs.length = n ∧ ∃ ds w, w.H = H ∧ w.Ok K ∧ RepL K w.A w.G vs ds ∧ After K (We EX) w (m ds w.M) fun s w' => ∀ v, RepX K w w' v s → Q v w'.H
def dCall (n : Nat) (m : Fn) (fs : FL) : FE := fun ρ M => (fs ρ M).bind fun ds M => if ds.length = n then m ds M else .bad
theorem x_call {We : XK → Wish} {n : Nat} {m : Fn} {EX : XK} {fs : FL} (hE : We EX = E) (h : PE X e (tCall (spD K We n m) [] EX (tAF K E fs))) : PE X e (tE K E (dCall n m fs)) := PE.wk h fun σ H Q ⟨ρ, w, e1, ok, sr, a⟩ =>
  ⟨ρ, w, e1, ok, sr, a.bind.imp fun ds w1 s1 a1 vs rvs => by
    split at a1
    · rename_i hn
      refine ⟨by rw [List.append_nil, rvs.length]; exact hn, ds, w1, rfl, s1.ok, by rw [List.append_nil]; exact rvs, ?_⟩
      rw [hE]
      exact a1.imp fun s w' _ z v rv => z v (rv.back s1)
    · exact a1.elim⟩
theorem x_call0 {We : XK → Wish} {m : Fn} {EX : XK} (hE : We EX = E) (h : PE X e (tCall (spD K We 0 m) [] EX tNil)) : PE X e (tE K E (dCall 0 m dNil)) := PE.wk h fun σ H Q ⟨ρ, w, e1, ok, sr, a⟩ => by
  subst e1
  refine ⟨rfl, [], w, rfl, ok, .nil, ?_⟩
  rw [hE]
  exact a
/-! ### what is walked -/
def Le (w w' : Wd) : Prop := w.A <+: w'.A ∧ Same w.G w'.G
theorem Le.refl (w : Wd) : Le w w := ⟨List.prefix_refl _, Same.refl _⟩
theorem Le.trans {w w1 w2 : Wd} (a : Le w w1) (b : Le w1 w2) : Le w w2 := ⟨a.1.trans b.1, a.2.trans b.2⟩
theorem Step.le {w w' : Wd} (s : Step K w w') : Le w w' := ⟨s.pre, s.fro⟩
theorem Le.rep {w w' : Wd} (s : Le w w') {v : V} {d : D} (h : Rep K w.A w.G v d) : Rep K w'.A w'.G v d := Rep.mono s.1 s.2 d v h
theorem Le.repL {w w' : Wd} (s : Le w w') {v : List V} {d : List D} (h : RepL K w.A w.G v d) : RepL K w'.A w'.G v d := RepL.mono s.1 s.2 d v h
/-- the iterator yields these things, whatever comes between, as long as what is frozen stays -/
def IterOk (K : PySem.W.Frag) (w : Wd) (J : It) (ds : List D) : Prop := ∀ w2, Le w w2 → w2.Ok K → ∀ i, (∀ d, ds[i]? = some d → J.go i w2.H ∧ ∀ x H', J.yld i w2.H x H' → ∃ w3, Step K w2 w3 ∧ w3.M = w2.M ∧ w3.H = H' ∧ Rep K w3.A w3.G x d) ∧ (ds.length ≤ i → J.stop i w2.H)
def tI (K : PySem.W.Frag) (E : Wish) (f : FL) : TI := fun σ H Q => ∃ ρ w, w.H = H ∧ w.Ok K ∧ SR K w ρ σ ∧ After K E w (f ρ w.M) fun ds w' => ∀ J, IterOk K w' J ds → Q J w'.H
theorem PI.wk {tg : Expr} {t t' : TI} (h : PI X tg e t) (f : ∀ σ H Q, t' σ H Q → t σ H Q) : PI X tg e t' := ⟨fun pins s σ H Q I q => h.run pins s σ H Q I (f σ H Q q)⟩
theorem PI.or {tg : Expr} {t t' : TI} (h : PI X tg e t) (h' : PI X tg e t') : PI X tg e (fun σ H Q => t σ H Q ∨ t' σ H Q) := ⟨fun pins s σ H Q I q => q.elim (h.run pins s σ H Q I) (h'.run pins s σ H Q I)⟩
/-- the items of a thing that is walked -/
def itemsD : D → Option (List D)
  | .lst ds => some ds
  | .fro ds => some ds
  | .tup ds => some ds
  | .kt ds => some ds
  | .str x => some (x.cps.toList.map fun c => .str ⟨#[c]⟩)
  | _ => none
def dIt (f : FD) : FL := fun ρ M => (f ρ M).bind fun x M => R.of (itemsD x) M
theorem it_list {w : Wd} {a : Addr} {vs : List V} {ds : List D} (hs : SqL K w.G a vs) (rl : RepL K w.A w.G vs ds) : IterOk K w (Itl K a) ds := fun w2 le ok2 i => by
  have h2 : SqL K w2.H a vs := ok2.sub.seq (le.2.seq hs)
  have r2 := le.repL rl
  refine ⟨fun d ed => ?_, fun hl => ⟨vs, h2, by rw [rl.length]; exact hl⟩⟩
  obtain ⟨v, ev, rv⟩ := r2.get ed
  refine ⟨⟨vs, v, h2, ev⟩, fun x H' y => ?_⟩
  obtain ⟨eH, y⟩ := y
  have := y vs h2
  rw [ev] at this
  cases this
  exact ⟨w2, Step.refl ok2, rfl, eH.symm, rv⟩
theorem it_tup {w : Wd} {a : Addr} {vs : List V} {ds : List D} (hs : SqT K w.G a vs) (rl : RepL K w.A w.G vs ds) : IterOk K w (Itt K a) ds := fun w2 le ok2 i => by
  have h2 : SqT K w2.H a vs := sqT_mono ok2.sub (sqT_mono le.2 hs)
  have r2 := le.repL rl
  refine ⟨fun d ed => ?_, fun hl => ⟨vs, h2, by rw [rl.length]; exact hl⟩⟩
  obtain ⟨v, ev, rv⟩ := r2.get ed
  refine ⟨⟨vs, v, h2, ev⟩, fun x H' y => ?_⟩
  obtain ⟨eH, y⟩ := y
  have := y vs h2
  rw [ev] at this
  cases this
  exact ⟨w2, Step.refl ok2, rfl, eH.symm, rv⟩
theorem it_str {w : Wd} (x : Str) : IterOk K w (Its x) (x.cps.toList.map fun c => .str ⟨#[c]⟩) := fun w2 le ok2 i => by
  refine ⟨fun d ed => ?_, fun hl => show x.cps.size ≤ i by simpa using hl⟩
  rw [List.getElem?_map] at ed
  cases q : x.cps.toList[i]? with
  | none => rw [q] at ed; cases ed
  | some c =>
    rw [q] at ed
    cases ed
    have q' : x.cps[i]? = some c := by simpa using q
    refine ⟨?_, fun v H' y => ?_⟩
    · have := (List.getElem?_eq_some_iff.mp q).1
      show i < x.cps.size
      simpa using this
    · obtain ⟨eH, c', ec, ev⟩ := y
      rw [q'] at ec
      cases ec
      subst ev
      exact ⟨w2, Step.refl ok2, rfl, eH.symm, .str _⟩
/-- lo, lo + 1, .. -/
def rngL (lo : Int) (n : Nat) : List D := (List.range n).map fun (i : Nat) => .int (lo + i)
theorem rngL_len (lo : Int) (n : Nat) : (rngL lo n).length = n := by simp [rngL]
theorem it_range {w : Wd} (lo : Int) (n : Nat) : IterOk K w (Itr lo n) (rngL lo n) := fun w2 le ok2 i => by
  refine ⟨fun d ed => ?_, fun hl => show n ≤ i by rw [rngL_len] at hl; exact hl⟩
  unfold rngL at ed
  rw [List.getElem?_map] at ed
  by_cases hi : i < n
  · rw [List.getElem?_range hi] at ed
    cases ed
    refine ⟨hi, fun v H' y => ?_⟩
    obtain ⟨eH, ev⟩ := y
    subst ev
    exact ⟨w2, Step.refl ok2, rfl, eH.symm, .int _⟩
  · rw [List.getElem?_eq_none (by simpa using hi)] at ed
    cases ed
theorem x_it {tg : Expr} {f : FD} (h : PI X tg e (fun σ H Q => iList K (tF K E f) σ H Q ∨ (iTup K (tF K E f) σ H Q ∨ iStr (tF K E f) σ H Q))) : PI X tg e (tI K E (dIt f)) := PI.wk h fun σ H Q ⟨ρ, w, e1, ok, sr, a⟩ => by
  have a1 := a.bind
  cases q : f ρ w.M with
  | bad => rw [q] at a1; exact a1.elim
  | exc c d M => rw [q] at a1; exact .inl ⟨ρ, w, e1, ok, sr, by rw [q]; exact a1⟩
  | ok x M =>
    rw [q] at a1
    cases x with
    | lst ds =>
      refine .inl ⟨ρ, w, e1, ok, sr, ?_⟩
      rw [q]
      intro w1 s1 eM v rv
      cases rv with
      | lst hs rl => exact ⟨_, rfl, ⟨_, .inl (.inl (s1.ok.sub _ _ hs))⟩, a1 w1 s1 eM w1 (Step.refl s1.ok) rfl _ (it_list (.inl (.inl hs)) rl)⟩
    | fro ds =>
      refine .inl ⟨ρ, w, e1, ok, sr, ?_⟩
      rw [q]
      intro w1 s1 eM v rv
      cases rv with
      | fro hs rl => exact ⟨_, rfl, ⟨_, s1.ok.sub.seq hs⟩, a1 w1 s1 eM w1 (Step.refl s1.ok) rfl _ (it_list hs rl)⟩
    | tup ds =>
      refine .inr (.inl ⟨ρ, w, e1, ok, sr, ?_⟩)
      rw [q]
      intro w1 s1 eM v rv
      cases rv with
      | tup hs rl => exact ⟨_, rfl, ⟨_, .inl (.inl (s1.ok.sub _ _ hs))⟩, a1 w1 s1 eM w1 (Step.refl s1.ok) rfl _ (it_tup (.inl (.inl hs)) rl)⟩
    | kt ds =>
      refine .inr (.inl ⟨ρ, w, e1, ok, sr, ?_⟩)
      rw [q]
      intro w1 s1 eM v rv
      cases rv with
      | kt hs rl => exact ⟨_, rfl, ⟨_, sqT_mono s1.ok.sub hs⟩, a1 w1 s1 eM w1 (Step.refl s1.ok) rfl _ (it_tup hs rl)⟩
    | str y =>
      refine .inr (.inr ⟨ρ, w, e1, ok, sr, ?_⟩)
      rw [q]
      intro w1 s1 eM v rv
      cases rv
      exact ⟨_, rfl, a1 w1 s1 eM w1 (Step.refl s1.ok) rfl _ (it_str y)⟩
    | non => exact (show After K E w (dIt f ρ w.M) _ from a) |> fun z => by rw [show dIt f ρ w.M = .bad by simp only [dIt, q, R.bind, itemsD, R.of]] at z; exact z.elim
    | bl b => exact (show After K E w (dIt f ρ w.M) _ from a) |> fun z => by rw [show dIt f ρ w.M = .bad by simp only [dIt, q, R.bind, itemsD, R.of]] at z; exact z.elim
    | int b => exact (show After K E w (dIt f ρ w.M) _ from a) |> fun z => by rw [show dIt f ρ w.M = .bad by simp only [dIt, q, R.bind, itemsD, R.of]] at z; exact z.elim
    | ref b => exact (show After K E w (dIt f ρ w.M) _ from a) |> fun z => by rw [show dIt f ρ w.M = .bad by simp only [dIt, q, R.bind, itemsD, R.of]] at z; exact z.elim
    | fn b => exact (show After K E w (dIt f ρ w.M) _ from a) |> fun z => by rw [show dIt f ρ w.M = .bad by simp only [dIt, q, R.bind, itemsD, R.of]] at z; exact z.elim
theorem RepBL.one {w : Wd} {vs : List V} {d : D} (h : RepBL K w vs [d]) : ∃ v, vs = [v] ∧ RepB K w v d := by
  cases h with
  | cons h1 h2 => cases h2; exact ⟨_, rfl, h1⟩
theorem RepBL.two {w : Wd} {vs : List V} {d d' : D} (h : RepBL K w vs [d, d']) : ∃ v v', vs = [v, v'] ∧ RepB K w v d ∧ RepB K w v' d' := by
  cases h with
  | cons h1 h2 =>
    cases h2 with
    | cons h2 h3 => cases h3; exact ⟨_, _, rfl, h1, h2⟩
/-- range(n), range(m, n) -/
def rng1D : List D → Option (List D)
  | [.int j] => if -(2 ^ 62) ≤ j ∧ j < 2 ^ 62 then some (rngL 0 j.toNat) else none
  | _ => none
def rng2D : List D → Option (List D)
  | [.int i, .int j] => if -(2 ^ 62) ≤ i ∧ i < 2 ^ 62 ∧ -(2 ^ 62) ≤ j ∧ j < 2 ^ 62 then some (rngL i (j - i).toNat) else none
  | _ => none
def dRng1 (fs : FL) : FL := fun ρ M => (fs ρ M).bind fun ds M => R.of (rng1D ds) M
def dRng2 (fs : FL) : FL := fun ρ M => (fs ρ M).bind fun ds M => R.of (rng2D ds) M
theorem x_rng1 {tg : Expr} {fs : FL} (h : PI X tg e (iRng1 (tAR K E fs))) : PI X tg e (tI K E (dRng1 fs)) := PI.wk h fun σ H Q ⟨ρ, w, e1, ok, sr, a⟩ =>
  ⟨ρ, w, e1, ok, sr, a.bind.imp fun ds w1 s1 a1 vs rvs => by
    obtain ⟨items, ei, k⟩ := a1.of (Step.refl s1.ok) rfl
    unfold rng1D at ei
    split at ei
    · rename_i j
      split at ei
      · rename_i hj
        cases ei
        obtain ⟨v, rfl, rv⟩ := rvs.one
        cases int_at rv
        exact ⟨j, rfl, hj.1, hj.2, k _ (it_range 0 j.toNat)⟩
      · cases ei
    · cases ei⟩
theorem x_rng2 {tg : Expr} {fs : FL} (h : PI X tg e (iRng2 (tAR K E fs))) : PI X tg e (tI K E (dRng2 fs)) := PI.wk h fun σ H Q ⟨ρ, w, e1, ok, sr, a⟩ =>
  ⟨ρ, w, e1, ok, sr, a.bind.imp fun ds w1 s1 a1 vs rvs => by
    obtain ⟨items, ei, k⟩ := a1.of (Step.refl s1.ok) rfl
    unfold rng2D at ei
    split at ei
    · rename_i i j
      split at ei
      · rename_i hj
        cases ei
        obtain ⟨v, v', rfl, rv, rv'⟩ := rvs.two
        cases int_at rv
        cases int_at rv'
        exact ⟨i, j, rfl, ⟨hj.1, hj.2.1, hj.2.2.1, hj.2.2.2⟩, k _ (it_range i _)⟩
      · cases ei
    · cases ei⟩
/-! ### targets -/
/-- b: how a thing is bound to names; is: the names' places -/
def OwnSub (ρ ρ' : EnvD) (σ σ' : St) : Prop := ∀ (j : Nat) (ds : List D), ρ'[j]? = some (.own ds) → ρ[j]? = some (.own ds) ∧ σ'[j]? = σ[j]?
theorem OwnSub.refl (ρ : EnvD) (σ : St) : OwnSub ρ ρ σ σ := fun _ _ h => ⟨h, rfl⟩
theorem OwnSub.trans {ρ ρ1 ρ2 : EnvD} {σ σ1 σ2 : St} (a : OwnSub ρ ρ1 σ σ1) (b : OwnSub ρ1 ρ2 σ1 σ2) : OwnSub ρ ρ2 σ σ2 := fun j ds h => by
  obtain ⟨h1, e1⟩ := b j ds h
  obtain ⟨h2, e2⟩ := a j ds h1
  exact ⟨h2, e1.trans e2⟩
theorem OwnSub.set (ρ : EnvD) (σ : St) (i : Nat) {s : Slot} (hs : ∀ ds, s ≠ .own ds) (v : Option V) : OwnSub ρ (ρ.set i s) σ (σ.set i v) := fun j ds h => by
  by_cases hj : i = j
  · subst hj
    have hi : i < ρ.length := by have := (List.getElem?_eq_some_iff.mp h).1; rwa [List.length_set] at this
    rw [List.getElem?_set_self hi] at h
    exact absurd (Option.some.inj h) (hs ds)
  · rw [List.getElem?_set_ne hj] at h ⊢
    exact ⟨h, rfl⟩
def tG (K : PySem.W.Frag) (b : D → EnvD → Option EnvD) (is : List Nat) : TG := fun v σ H Q => ∃ ρ w d ρ', w.H = H ∧ w.Ok K ∧ SR K w ρ σ ∧ Rep K w.A w.G v d ∧ b d ρ = some ρ' ∧ ∀ σ', SR K w ρ' σ' → OwnSub ρ ρ' σ σ' → (∀ j, j ∉ is → σ'[j]? = σ[j]?) → σ'.length = σ.length → Q σ' H
theorem PG.wk {tg : Expr} {t t' : TG} (h : PG X tg t) (f : ∀ v σ H Q, t' v σ H Q → t v σ H Q) : PG X tg t' := ⟨fun pins s σ H v u Q I r q => h.run pins s σ H v u Q I r (f v σ H Q q)⟩
theorem SR.set {w : Wd} {ρ : EnvD} {σ : St} (sr : SR K w ρ σ) (i : Nat) {v : V} {d : D} (r : Rep K w.A w.G v d) : SR K w (ρ.set i (.val d)) (σ.set i (some v)) := by
  refine ⟨by rw [List.length_set, List.length_set]; exact sr.len, fun j x h => ?_, fun j ds h => ?_, fun j k ds es p h1 h2 h3 h4 => ?_⟩
  · by_cases hj : i = j
    · subst hj
      have hi : i < ρ.length := by have := (List.getElem?_eq_some_iff.mp h).1; rwa [List.length_set] at this
      rw [List.getElem?_set_self hi] at h
      cases h
      exact ⟨v, List.getElem?_set_self (by rw [← sr.len]; exact hi), r⟩
    · rw [List.getElem?_set_ne hj] at h ⊢
      exact sr.val j x h
  · by_cases hj : i = j
    · subst hj
      have hi : i < ρ.length := by have := (List.getElem?_eq_some_iff.mp h).1; rwa [List.length_set] at this
      rw [List.getElem?_set_self hi] at h
      cases h
    · rw [List.getElem?_set_ne hj] at h ⊢
      exact sr.own j ds h
  · have nj : i ≠ j := fun hj => by
      subst hj
      have hi : i < ρ.length := by have := (List.getElem?_eq_some_iff.mp h1).1; rwa [List.length_set] at this
      rw [List.getElem?_set_self hi] at h1
      cases h1
    have nk : i ≠ k := fun hj => by
      subst hj
      have hi : i < ρ.length := by have := (List.getElem?_eq_some_iff.mp h2).1; rwa [List.length_set] at this
      rw [List.getElem?_set_self hi] at h2
      cases h2
    rw [List.getElem?_set_ne nj] at h1 h3
    rw [List.getElem?_set_ne nk] at h2 h4
    exact sr.dis j k ds es p h1 h2 h3 h4
def bName (i : Nat) : D → EnvD → Option EnvD := fun d ρ => some (ρ.set i (.val d))
theorem x_gname {tg : Expr} {i : Nat} (h : PG X tg (gName i)) : PG X tg (tG K (bName i) [i]) := PG.wk h fun v σ H Q ⟨ρ, w, d, ρ', e1, ok, sr, r, eb, k⟩ => by
  cases eb
  exact k _ (sr.set i r) (OwnSub.set ρ σ i (fun _ z => by cases z) _) (fun j hj => List.getElem?_set_ne (by simpa using fun z => hj (by simp [z]))) (by rw [List.length_set])
/-- several names -/
def bNames : List Nat → List D → EnvD → Option EnvD
  | [], [], ρ => some ρ
  | i :: is, d :: ds, ρ => bNames is ds (ρ.set i (.val d))
  | _, _, _ => none
def bTup (is : List Nat) : D → EnvD → Option EnvD := fun d ρ => match d with
  | .tup ds => bNames is ds ρ
  | _ => none
def gNames : List Nat → TGs
  | [] => gNil
  | i :: is => gCons (gName i) (gNames is)
theorem gNames_ok {w : Wd} {Q : St → Hp → Prop} (ok : w.Ok K) : ∀ (is : List Nat) (ds : List D) (vs : List V) (ρ ρ' : EnvD) (σ : St), SR K w ρ σ → RepL K w.A w.G vs ds → bNames is ds ρ = some ρ' →
    (∀ σ', SR K w ρ' σ' → OwnSub ρ ρ' σ σ' → (∀ j, j ∉ is → σ'[j]? = σ[j]?) → σ'.length = σ.length → Q σ' w.H) → gNames is vs σ w.H Q
  | [], [], _, ρ, ρ', σ, sr, rl, eb, k => by
    cases rl
    cases eb
    exact ⟨rfl, k σ sr (OwnSub.refl _ _) (fun _ _ => rfl) rfl⟩
  | i :: is, d :: ds, _, ρ, ρ', σ, sr, rl, eb, k => by
    cases rl with
    | cons r rl =>
      refine ⟨_, _, rfl, ?_⟩
      exact gNames_ok ok is ds _ _ ρ' _ (sr.set i r) rl eb fun σ' sr' os h1 h2 => k σ' sr' ((OwnSub.set ρ σ i (fun _ z => by cases z) _).trans os) (fun j hj => by
        rw [h1 j (fun z => hj (List.mem_cons_of_mem _ z)), List.getElem?_set_ne (fun z => hj (by rw [z]; exact List.mem_cons_self))]) (by rw [h2, List.length_set])
  | [], _ :: _, _, _, _, _, _, _, eb, _ => by cases eb
  | _ :: _, [], _, _, _, _, _, _, eb, _ => by cases eb
theorem bNames_len : ∀ {is : List Nat} {ds : List D} {ρ ρ' : EnvD}, bNames is ds ρ = some ρ' → is.length = ds.length
  | [], [], _, _, _ => rfl
  | _ :: is, _ :: ds, _, _, h => by rw [List.length_cons, List.length_cons, bNames_len (is := is) (ds := ds) h]
  | [], _ :: _, _, _, h => by cases h
  | _ :: _, [], _, _, h => by cases h
theorem x_gtup {tg : Expr} {is : List Nat} {n : Nat} (hn : n = is.length) (h : PG X tg (gTup K n (gNames is))) : PG X tg (tG K (bTup is) is) := PG.wk h fun v σ H Q ⟨ρ, w, d, ρ', e1, ok, sr, r, eb, k⟩ => by
  subst e1
  unfold bTup at eb
  split at eb
  · cases r with
    | tup hs rl =>
      refine ⟨_, _, rfl, .inl (.inl (ok.sub _ _ hs)), by rw [rl.length, ← bNames_len eb, hn], ?_⟩
      exact gNames_ok ok is _ _ ρ ρ' σ sr rl eb k
  · cases eb
/-! ### comprehensions -/
def wipeD (ρ : EnvD) : List Nat → EnvD
  | [] => ρ
  | v :: vs => (wipeD ρ vs).set v .un
theorem SR.wipe1 {w : Wd} {ρ : EnvD} {σ : St} (sr : SR K w ρ σ) (i : Nat) : SR K w (ρ.set i .un) (σ.set i none) := by
  have no : ∀ {j : Nat} {s : Slot}, s ≠ .un → (ρ.set i .un)[j]? = some s → i ≠ j := fun {j s} hs h hj => by
    subst hj
    have hi : i < ρ.length := by have := (List.getElem?_eq_some_iff.mp h).1; rwa [List.length_set] at this
    rw [List.getElem?_set_self hi] at h
    exact hs (Option.some.inj h).symm
  refine ⟨by rw [List.length_set, List.length_set]; exact sr.len, fun j x h => ?_, fun j ds h => ?_, fun j k ds es p h1 h2 h3 h4 => ?_⟩
  · have nj := no (fun z => by cases z) h
    rw [List.getElem?_set_ne nj] at h ⊢
    exact sr.val j x h
  · have nj := no (fun z => by cases z) h
    rw [List.getElem?_set_ne nj] at h ⊢
    exact sr.own j ds h
  · have nj := no (fun z => by cases z) h1
    have nk := no (fun z => by cases z) h2
    rw [List.getElem?_set_ne nj] at h1 h3
    rw [List.getElem?_set_ne nk] at h2 h4
    exact sr.dis j k ds es p h1 h2 h3 h4
theorem SR.wipe {w : Wd} {ρ : EnvD} {σ : St} (sr : SR K w ρ σ) : ∀ vs : List Nat, SR K w (wipeD ρ vs) (wipe σ vs)
  | [] => sr
  | v :: vs => (SR.wipe sr vs).wipe1 v
theorem wipe_get (τ : St) (vs : List Nat) (j : Nat) : (wipe τ vs)[j]? = if j ∈ vs then (if j < τ.length then some none else none) else τ[j]? := by
  induction vs with
  | nil => simp [wipe]
  | cons v vs ih =>
    unfold wipe
    by_cases hv : v = j
    · subst hv
      rw [if_pos List.mem_cons_self, List.getElem?_set, if_pos rfl, wipe_length]
    · rw [List.getElem?_set_ne hv, ih]
      by_cases hm : j ∈ vs
      · rw [if_pos hm, if_pos (List.mem_cons_of_mem _ hm)]
      · rw [if_neg hm, if_neg (by simp [hm, Ne.symm hv])]
theorem wipe_same {σ σ' : St} (hl : σ'.length = σ.length) (vs : List Nat) (h : ∀ j, j ∉ vs → σ'[j]? = σ[j]?) : wipe σ' vs = wipe σ vs := by
  apply List.ext_getElem?
  intro j
  rw [wipe_get, wipe_get, hl]
  by_cases hm : j ∈ vs
  · rw [if_pos hm, if_pos hm]
  · rw [if_neg hm, if_neg hm, h j hm]
theorem wipe_wipe (σ : St) (vs : List Nat) : wipe (wipe σ vs) vs = wipe σ vs := by
  refine wipe_same (wipe_length σ vs) vs fun j hj => ?_
  rw [wipe_get, if_neg hj]
abbrev E00 : Wish := fun _ _ _ => False
/-- the turns of a comprehension -/
def lcGo (b : D → EnvD → Option EnvD) (c : FB) (f : FD) (ρ0 : EnvD) : List D → List D → Store → R (List D)
  | [], acc, M => .ok acc M
  | d :: ds, acc, M => match b d ρ0 with
    | none => .bad
    | some ρ1 => match c ρ1 M with
      | .ok true M1 => match f ρ1 M1 with
        | .ok y M2 => if acc.length < sizeLine then lcGo b c f ρ0 ds (acc ++ [y]) M2 else .bad
        | _ => .bad
      | .ok false M1 => lcGo b c f ρ0 ds acc M1
      | _ => .bad
theorem lcGo_exc {b : D → EnvD → Option EnvD} {c : FB} {f : FD} {ρ0 : EnvD} {k : Nat} {x : D} {M' : Store} : ∀ (ds acc : List D) (M : Store), lcGo b c f ρ0 ds acc M ≠ .exc k x M'
  | [], _, _ => fun h => by cases h
  | d :: ds, acc, M => fun h => by
    unfold lcGo at h
    split at h
    · cases h
    · split at h
      · split at h
        · split at h
          · exact lcGo_exc ds _ _ h
          · cases h
        · cases h
      · exact lcGo_exc ds _ _ h
      · cases h
def dLc (fi : FL) (b : D → EnvD → Option EnvD) (c : FB) (f : FD) (vs : List Nat) : FE := fun ρ M => (fi ρ M).bind fun items M => (lcGo b c f (wipeD ρ vs) items [] M).map Slot.own
/-- what is wanted of the rest of the turns -/
def LcRest (K : PySem.W.Frag) (w0 : Wd) (D : Addr) (Q : VK) (r : R (List TP.D)) : Prop := match r with
  | .ok res M => ∀ w' vres, Step K w0 w' → w'.M = M → w'.H D = some (.lst vres) → w'.G D = none → D ∉ w'.A → RepL K w'.A w'.G vres res → Q (.ref D) w'.H
  | _ => False
theorem setOwn_ok {w : Wd} (h : w.Ok K) {p : Addr} {o o' : HO} (hp : w.H p = some o') (hG : w.G p = none) (hA : p ∉ w.A) : (⟨w.A, w.G, w.M, upd w.H p o⟩ : Wd).Ok K := by
  refine ⟨fun b u e => ?_, h.nd, h.len, h.out, fun k m e => ?_⟩
  · show upd w.H p o b = some u
    rw [upd_ne (ne_of_none e hG)]
    exact h.sub b u e
  · obtain ⟨a, ea, r⟩ := h.mos k m e
    have na : a ≠ p := fun z => hA (z ▸ List.mem_of_getElem? ea)
    refine ⟨a, ea, ?_⟩
    cases m with
    | lst ds => obtain ⟨vs, z, q⟩ := r; exact ⟨vs, by show upd w.H p o a = _; rw [upd_ne na]; exact z, q⟩
    | dK ds => obtain ⟨vs, z, q⟩ := r; exact ⟨vs, by show upd w.H p o a = _; rw [upd_ne na]; exact z, q⟩
    | dT ds => obtain ⟨vs, z, q⟩ := r; exact ⟨vs, by show upd w.H p o a = _; rw [upd_ne na]; exact z, q⟩
    | ins c fs => obtain ⟨io, vs, dx, z, q⟩ := r; exact ⟨io, vs, dx, by show upd w.H p o a = _; rw [upd_ne na]; exact z, q⟩
    | exc c d => exact exc_mono r (fun _ z => by show upd w.H p o a = _; rw [upd_ne na]; exact z) (List.prefix_refl _) (Same.refl _)
/-- an own thing that was not there at w0 is changed -/
theorem Step.setOwn {w0 w : Wd} (s : Step K w0 w) {p : Addr} {o o' : HO} (h0 : w0.H p = none) (hp : w.H p = some o') (hG : w.G p = none) (hA : p ∉ w.A) : Step K w0 ⟨w.A, w.G, w.M, upd w.H p o⟩ :=
  ⟨setOwn_ok s.ok hp hG hA, s.pre, s.fro, fun q u h1 h2 h3 => by
    obtain ⟨a, b, c⟩ := s.keep q u h1 h2 h3
    exact ⟨by show upd w.H p o q = some u; rw [upd_ne (ne_of_none h1 h0)]; exact a, b, c⟩⟩
theorem lc_le {fi : FL} {b : D → EnvD → Option EnvD} {is : List Nat} {c : FB} {f : FD} {vs : List Nat} (hv : ∀ i ∈ is, i ∈ vs) (σ : St) (H : Hp) (Q : VK) : tE K E (dLc fi b c f vs) σ H Q → tLc (tI K E fi) (tG K b is) (tT K E00 c) (tF K E00 f) vs σ H Q := fun ⟨ρ, w, e1, ok, sr, a⟩ =>
  ⟨ρ, w, e1, ok, sr, a.bind.imp fun items w1 s1 a1 J hJ Dl hD => by
    have s0 := s1.ok.fresh0 hD (.lst [])
    have hG1 : w1.G Dl = none := s1.ok.sub.free hD
    have hA1 := s1.ok.notA hD
    have a2 : LcRest K w1 Dl Q (lcGo b c f (wipeD ρ vs) items [] w1.M) := by
      have a2 := a1.map
      revert a2
      cases q : lcGo b c f (wipeD ρ vs) items [] w1.M with
      | bad => exact fun z => z
      | exc c d M => exact absurd q (lcGo_exc _ _ _)
      | ok res M => exact fun z w' vres st eM hH hG hA rl => z w' st eM _ ⟨Dl, vres, rfl, s1.free hD, hH, hG, hA, rl⟩
    refine ⟨fun i m H => m = items.length - i ∧ i ≤ items.length ∧ ∃ w acc vacc, w.H = H ∧ Step K w1 w ∧ w.H Dl = some (.lst vacc) ∧ w.G Dl = none ∧ Dl ∉ w.A ∧ RepL K w.A w.G vacc acc ∧ LcRest K w1 Dl Q (lcGo b c f (wipeD ρ vs) (items.drop i) acc w.M),
      ⟨items.length, by simp, Nat.zero_le _, _, [], [], rfl, s0, upd_same, hG1, hA1, .nil, by simpa using a2⟩, ?_⟩
    rintro i m H ⟨rfl, hi, w2, acc, vacc, rfl, s2, hH2, hG2, hA2, rl2, rest⟩
    by_cases hlt : i < items.length
    · have ed : items[i]? = some items[i] := List.getElem?_eq_getElem hlt
      rw [List.drop_eq_getElem_cons hlt] at rest
      obtain ⟨go, yl⟩ := (hJ w2 s2.le s2.ok i).1 _ ed
      refine .inr ⟨go, fun H' => i + 1 ≤ items.length ∧ ∃ w acc vacc, w.H = H' ∧ Step K w1 w ∧ w.H Dl = some (.lst vacc) ∧ w.G Dl = none ∧ Dl ∉ w.A ∧ RepL K w.A w.G vacc acc ∧ LcRest K w1 Dl Q (lcGo b c f (wipeD ρ vs) (items.drop (i + 1)) acc w.M),
        fun H' ⟨h1, h2⟩ => ⟨_, by omega, rfl, h1, h2⟩, fun x H' hy => ?_⟩
      obtain ⟨w3, s3, eM3, rfl, rx⟩ := yl x H' hy
      unfold lcGo at rest
      cases eb : b items[i] (wipeD ρ vs) with
      | none => rw [eb] at rest; exact rest.elim
      | some ρ1 =>
        rw [eb] at rest
        simp only at rest
        have sr3 : SR K w3 (wipeD ρ vs) (wipe σ vs) := (((sr.step s1).step s2).step s3).wipe vs
        refine ⟨wipeD ρ vs, w3, items[i], ρ1, rfl, s3.ok, sr3, rx, eb, fun σ' sr' _ h1 h2 => ⟨?_, ?_⟩⟩
        · have e2 := wipe_same h2 vs (fun j hj => h1 j (fun z => hj (hv j z)))
          rw [e2]
          exact wipe_wipe σ vs
        · refine ⟨ρ1, w3, rfl, s3.ok, sr', ?_⟩
          have s13 : Step K w1 w3 := s2.trans s3
          obtain ⟨hH3, hG3, hA3⟩ := s3.keepN Dl _ hH2 hG2 hA2
          rw [eM3]
          cases ec : c ρ1 w2.M with
          | bad => rw [ec] at rest; exact rest.elim
          | exc _ _ _ => rw [ec] at rest; exact rest.elim
          | ok t M1 =>
            rw [ec] at rest
            intro w4 s4 eM4
            obtain ⟨hH4, hG4, hA4⟩ := s4.keepN Dl _ hH3 hG3 hA3
            cases t with
            | false =>
              refine iteF ⟨hlt, w4, acc, vacc, rfl, s13.trans s4, hH4, hG4, hA4, (s3.trans s4).repL rl2, ?_⟩
              rw [eM4]
              exact rest
            | true =>
              refine iteT ⟨ρ1, w4, rfl, s4.ok, sr'.step s4, ?_⟩
              simp only at rest
              rw [eM4]
              cases ef : f ρ1 M1 with
              | bad => rw [ef] at rest; exact rest.elim
              | exc _ _ _ => rw [ef] at rest; exact rest.elim
              | ok y M2 =>
                rw [ef] at rest
                intro w5 s5 eM5 v rv
                obtain ⟨hH5, hG5, hA5⟩ := s5.keepN Dl _ hH4 hG4 hA4
                have rl5 : RepL K w5.A w5.G vacc acc := ((s3.trans s4).trans s5).repL rl2
                simp only at rest
                split at rest
                · rename_i hz
                  refine ⟨vacc, hH5, by rw [rl5.length]; exact hz, hlt, ⟨w5.A, w5.G, w5.M, upd w5.H Dl (.lst (vacc ++ [v]))⟩, acc ++ [y], vacc ++ [v], rfl, ((s13.trans s4).trans s5).setOwn hD hH5 hG5 hA5, upd_same, hG5, hA5, rl5.append (.one rv), ?_⟩
                  show LcRest K w1 Dl Q (lcGo b c f (wipeD ρ vs) (items.drop (i + 1)) (acc ++ [y]) w5.M)
                  rw [eM5]
                  exact rest
                · exact rest.elim
    · have ei : i = items.length := by omega
      subst ei
      rw [List.drop_length] at rest
      exact .inl ⟨(hJ w2 s2.le s2.ok _).2 (Nat.le_refl _), rest w2 vacc s2 rfl hH2 hG2 hA2 rl2⟩⟩
theorem x_lc {fi : FL} {b : D → EnvD → Option EnvD} {is : List Nat} {c : FB} {f : FD} {vs : List Nat} (hv : ∀ i ∈ is, i ∈ vs) (h : PE X e (tLc (tI K E fi) (tG K b is) (tT K E00 c) (tF K E00 f) vs)) : PE X e (tE K E (dLc fi b c f vs)) := PE.wk h (lc_le hv)
end
end TP
/-! TPe: statements. -/
namespace TP
open PySem L2
inductive Out where
  | next (ρ : EnvD) (M : Store) | ret (s : Slot) (M : Store) | brk (ρ : EnvD) (M : Store) | cont (ρ : EnvD) (M : Store) | exc (c : Nat) (d : D) (M : Store) | bad
abbrev FS := EnvD → Store → Out
section
variable (K : PySem.W.Frag) (E : Wish)
/-- own lists were not there at the def's entry -/
def OF (w0 : Wd) (ρ : EnvD) (σ : St) : Prop := ∀ (i : Nat) (ds : List D) (p : Addr), ρ[i]? = some (.own ds) → σ[i]? = some (some (.ref p)) → w0.H p = none
def PostS (w0 ws : Wd) (D : Ends) : Out → Prop
  | .next ρ M => ∀ w σ, Step K w0 w → Le ws w → w.M = M → SR K w ρ σ → OF w0 ρ σ → D.nx σ w.H
  | .brk ρ M => ∀ w σ, Step K w0 w → Le ws w → w.M = M → SR K w ρ σ → OF w0 ρ σ → D.bk σ w.H
  | .cont ρ M => ∀ w σ, Step K w0 w → Le ws w → w.M = M → SR K w ρ σ → OF w0 ρ σ → D.ct σ w.H
  | .ret s M => ∀ w v, Step K w0 w → w.M = M → RepX K w0 w v s → D.rt v w.H
  | .exc c d M => ∀ w, Step K w0 w → Le ws w → w.M = M → E c d w
  | .bad => False
def tS (g : FS) : TS := fun D σ H => ∃ ρ w w0, w.H = H ∧ Step K w0 w ∧ SR K w ρ σ ∧ OF w0 ρ σ ∧ PostS K E w0 w D (g ρ w.M)
end
section
variable {K : PySem.W.Frag} {E : Wish} {X : Cx} {st : Stmt} {sts : List Stmt}
theorem PostS.later {w0 ws w1 : Wd} {D : Ends} {o : Out} (h : PostS K E w0 ws D o) (l : Le ws w1) : PostS K E w0 w1 D o := by
  cases o with
  | next ρ M => exact fun w σ a b => h w σ a (l.trans b)
  | brk ρ M => exact fun w σ a b => h w σ a (l.trans b)
  | cont ρ M => exact fun w σ a b => h w σ a (l.trans b)
  | ret s M => exact h
  | exc c d M => exact fun w a b => h w a (l.trans b)
  | bad => exact h
theorem OF.sub {w0 : Wd} {ρ ρ' : EnvD} {σ σ' : St} (h : OF w0 ρ σ) (o : OwnSub ρ ρ' σ σ') : OF w0 ρ' σ' := fun i ds p h1 h2 => by
  obtain ⟨a, b⟩ := o i ds h1
  rw [b] at h2
  exact h i ds p a h2
/-! ### blocks -/
def sNil : FS := fun ρ M => .next ρ M
def sSeq (g h : FS) : FS := fun ρ M => match g ρ M with
  | .next ρ M => h ρ M
  | o => o
theorem s_nil (h : PSs X [] tNext) : PSs X [] (tS K E sNil) := PSs.wk h fun D σ H ⟨ρ, w, w0, e1, s, sr, of, p⟩ => by
  subst e1
  exact p w σ s (Le.refl w) rfl sr of
theorem s_seq {g h : FS} (hh : PSs X sts (tSeq (tS K E g) (tS K E h))) : PSs X sts (tS K E (sSeq g h)) := PSs.wk hh fun D σ H ⟨ρ, w, w0, e1, s, sr, of, p⟩ => by
  refine ⟨ρ, w, w0, e1, s, sr, of, ?_⟩
  unfold sSeq at p
  cases q : g ρ w.M with
  | next ρ' M' =>
    rw [q] at p
    intro w1 σ1 s1 l1 e2 sr1 of1
    refine ⟨ρ', w1, w0, rfl, s1, sr1, of1, ?_⟩
    rw [e2]
    exact PostS.later p l1
  | ret x M' => rw [q] at p; exact p
  | brk x M' => rw [q] at p; exact p
  | cont x M' => rw [q] at p; exact p
  | exc c d M' => rw [q] at p; exact p
  | bad => rw [q] at p; exact p
theorem s_pass (h : PS X st tNext) : PS X st (tS K E sNil) := PS.wk h fun D σ H ⟨ρ, w, w0, e1, s, sr, of, p⟩ => by
  subst e1
  exact p w σ s (Le.refl w) rfl sr of
def sBreak : FS := fun ρ M => .brk ρ M
def sCont : FS := fun ρ M => .cont ρ M
theorem s_break (h : PS X st tBreak) : PS X st (tS K E sBreak) := PS.wk h fun D σ H ⟨ρ, w, w0, e1, s, sr, of, p⟩ => by
  subst e1
  exact p w σ s (Le.refl w) rfl sr of
theorem s_cont (h : PS X st tCont) : PS X st (tS K E sCont) := PS.wk h fun D σ H ⟨ρ, w, w0, e1, s, sr, of, p⟩ => by
  subst e1
  exact p w σ s (Le.refl w) rfl sr of
/-- an expression's answer, then -/
def R.out {α : Type} (r : R α) (k : α → Store → Out) : Out := match r with
  | .ok a M => k a M
  | .exc c d M => .exc c d M
  | .bad => .bad
theorem out_after {α : Type} {w0 w : Wd} {D : Ends} {r : R α} {k : α → Store → Out} (s : Step K w0 w) (p : PostS K E w0 w D (r.out k)) : After K E w r fun a w' => PostS K E w0 w' D (k a w'.M) := by
  cases r with
  | bad => exact p
  | exc c d M => exact fun w' s' e => p w' (s.trans s') s'.le e
  | ok a M =>
    intro w' s' e
    have p' : PostS K E w0 w D (k a M) := p
    rw [e]
    exact p'.later s'.le
def sExpr (f : FE) : FS := fun ρ M => (f ρ M).out fun _ M => .next ρ M
theorem s_expr {f : FE} (h : PS X st (tDrop (tE K E f))) : PS X st (tS K E (sExpr f)) := PS.wk h fun D σ H ⟨ρ, w, w0, e1, s, sr, of, p⟩ =>
  ⟨ρ, w, e1, s.ok, sr, (out_after s p).imp fun x w1 s1 p1 v rv => p1 w1 σ (s.trans s1) (Le.refl _) rfl (sr.step s1) of⟩
def sRet (f : FE) : FS := fun ρ M => (f ρ M).out fun x M => .ret x M
theorem s_ret {f : FE} (h : PS X st (tRet (tE K E f))) : PS X st (tS K E (sRet f)) := PS.wk h fun D σ H ⟨ρ, w, w0, e1, s, sr, of, p⟩ =>
  ⟨ρ, w, e1, s.ok, sr, (out_after s p).imp fun x w1 s1 p1 v rv => p1 w1 v (s.trans s1) rfl (rv.back s)⟩
def sRetN : FS := fun _ M => .ret (.val .non) M
theorem s_retN (h : PS X st tRetN) : PS X st (tS K E sRetN) := PS.wk h fun D σ H ⟨ρ, w, w0, e1, s, sr, of, p⟩ => by
  subst e1
  exact p w .non s rfl .non
/-- return x, x perhaps a list of one's own -/
def sRetV (i : Nat) : FS := fun ρ M => match ρ[i]? with
  | some (.val d) => .ret (.val d) M
  | some (.own ds) => .ret (.own ds) M
  | _ => .bad
theorem s_retV {i : Nat} (h : PS X st (tRet (tVar i))) : PS X st (tS K E (sRetV i)) := PS.wk h fun D σ H ⟨ρ, w, w0, e1, s, sr, of, p⟩ => by
  subst e1
  unfold sRetV at p
  split at p
  · rename_i d e2
    obtain ⟨v, h1, h2⟩ := sr.val i d e2
    exact ⟨v, h1, p w v s rfl h2⟩
  · rename_i ds e2
    obtain ⟨q, vs, h1, h2, h3, h4, h5⟩ := sr.own i ds e2
    exact ⟨_, h1, p w _ s rfl ⟨q, vs, rfl, of i ds q e2 h1, h2, h3, h4, h5⟩⟩
  · exact p.elim
theorem SR.setOwn {w w' : Wd} {ρ : EnvD} {σ : St} (sr : SR K w ρ σ) (st : Step K w w') (i : Nat) {v : V} {ds : List D} (r : RepX K w w' v (.own ds)) : SR K w' (ρ.set i (.own ds)) (σ.set i (some v)) := by
  obtain ⟨p, vs, rfl, h0, hH, hG, hA, rl⟩ := r
  have sr' := sr.step st
  have other : ∀ (j : Nat) (es : List D), i ≠ j → ρ[j]? = some (.own es) → σ[j]? ≠ some (some (.ref p)) := fun j es hj h1 h2 => by
    obtain ⟨q, us, a, b, _⟩ := sr.own j es h1
    rw [a] at h2
    cases h2
    rw [h0] at b
    cases b
  refine ⟨by rw [List.length_set, List.length_set]; exact sr.len, fun j x h => ?_, fun j es h => ?_, fun j k ds1 es q h1 h2 h3 h4 => ?_⟩
  · by_cases hj : i = j
    · subst hj
      have hi : i < ρ.length := by have := (List.getElem?_eq_some_iff.mp h).1; rwa [List.length_set] at this
      rw [List.getElem?_set_self hi] at h
      cases h
    · rw [List.getElem?_set_ne hj] at h ⊢
      exact sr'.val j x h
  · by_cases hj : i = j
    · subst hj
      have hi : i < ρ.length := by have := (List.getElem?_eq_some_iff.mp h).1; rwa [List.length_set] at this
      rw [List.getElem?_set_self hi] at h
      cases h
      exact ⟨p, vs, List.getElem?_set_self (by rw [← sr.len]; exact hi), hH, hG, hA, rl⟩
    · rw [List.getElem?_set_ne hj] at h ⊢
      exact sr'.own j es h
  · by_cases hj : i = j
    · by_cases hk : i = k
      · rw [← hj, ← hk]
      · subst hj
        have hi : i < ρ.length := by have := (List.getElem?_eq_some_iff.mp h1).1; rwa [List.length_set] at this
        rw [List.getElem?_set_self (by rw [← sr.len]; exact hi)] at h3
        cases h3
        rw [List.getElem?_set_ne hk] at h2 h4
        exact absurd h4 (other k es hk h2)
    · by_cases hk : i = k
      · subst hk
        have hi : i < ρ.length := by have := (List.getElem?_eq_some_iff.mp h2).1; rwa [List.length_set] at this
        rw [List.getElem?_set_self (by rw [← sr.len]; exact hi)] at h4
        cases h4
        rw [List.getElem?_set_ne hj] at h1 h3
        exact absurd h3 (other j ds1 hj h1)
      · rw [List.getElem?_set_ne hj] at h1 h3
        rw [List.getElem?_set_ne hk] at h2 h4
        exact sr'.dis j k ds1 es q h1 h2 h3 h4
theorem OF.setOwn {w0 w w' : Wd} {ρ : EnvD} {σ : St} (of : OF w0 ρ σ) (s : Step K w0 w) (i : Nat) {v : V} {ds : List D} (r : RepX K w w' v (.own ds)) : OF w0 (ρ.set i (.own ds)) (σ.set i (some v)) := fun j es p h1 h2 => by
  obtain ⟨q, vs, rfl, h0, _⟩ := r
  by_cases hj : i = j
  · subst hj
    have hi : i < σ.length := by have := (List.getElem?_eq_some_iff.mp h2).1; rwa [List.length_set] at this
    rw [List.getElem?_set_self hi] at h2
    cases h2
    exact s.free h0
  · rw [List.getElem?_set_ne hj] at h1 h2
    exact of j es p h1 h2
/-- name = value -/
def sSet (i : Nat) (f : FE) : FS := fun ρ M => (f ρ M).out fun x M => match x with
  | .un => .bad
  | x => .next (ρ.set i x) M
theorem s_set {i : Nat} {f : FE} (h : PS X st (tAsg (tE K E f) (gName i))) : PS X st (tS K E (sSet i f)) := PS.wk h fun D σ H ⟨ρ, w, w0, e1, s, sr, of, p⟩ =>
  ⟨ρ, w, e1, s.ok, sr, (out_after s p).imp fun x w1 s1 p1 v rv => by
    cases x with
    | un => exact rv.elim
    | val d => exact p1 w1 _ (s.trans s1) (Le.refl _) rfl ((sr.step s1).set i rv) (of.sub (OwnSub.set ρ σ i (fun _ z => by cases z) _))
    | own ds => exact p1 w1 _ (s.trans s1) (Le.refl _) rfl (sr.setOwn s1 i rv) (of.setOwn s i rv)⟩
/-- target = value -/
def sAsg (b : D → EnvD → Option EnvD) (f : FD) : FS := fun ρ M => (f ρ M).out fun x M => match b x ρ with
  | some ρ' => .next ρ' M
  | none => .bad
theorem s_asg {b : D → EnvD → Option EnvD} {is : List Nat} {f : FD} (h : PS X st (tAsg (tF K E f) (tG K b is))) : PS X st (tS K E (sAsg b f)) := PS.wk h fun D σ H ⟨ρ, w, w0, e1, s, sr, of, p⟩ =>
  ⟨ρ, w, e1, s.ok, sr, (out_after s p).imp fun x w1 s1 p1 v rv => by
    cases eb : b x ρ with
    | none => rw [eb] at p1; exact p1.elim
    | some ρ' =>
      rw [eb] at p1
      exact ⟨ρ, w1, x, ρ', rfl, s1.ok, sr.step s1, rv, eb, fun σ' sr' os _ _ => p1 w1 σ' (s.trans s1) (Le.refl _) rfl sr' (of.sub os)⟩⟩
/-- a, b = x, y by swapped stores: both values frozen or of their own kind -/
def sPar (i j : Nat) (fs : FL) : FS := fun ρ M => (fs ρ M).out fun ds M => match ds with
  | [x, y] => .next ((ρ.set i (.val x)).set j (.val y)) M
  | _ => .bad
theorem s_par {i j : Nat} {fs : FL} (h : PS X st (tPar i j (tAF K E fs))) : PS X st (tS K E (sPar i j fs)) := PS.wk h fun D σ H ⟨ρ, w, w0, e1, s, sr, of, p⟩ =>
  ⟨ρ, w, e1, s.ok, sr, (out_after s p).imp fun ds w1 s1 p1 vs rvs => by
    split at p1
    · cases rvs with
      | cons r1 r2 =>
        cases r2 with
        | cons r2 r3 =>
          cases r3
          refine ⟨_, _, rfl, p1 w1 _ (s.trans s1) (Le.refl _) rfl (((sr.step s1).set i r1).set j r2) (of.sub ((OwnSub.set ρ σ i (fun _ z => by cases z) _).trans (OwnSub.set _ _ j (fun _ z => by cases z) _)))⟩
    · exact p1.elim⟩
/-! ### if -/
def sIf (c : FB) (g h : FS) : FS := fun ρ M => (c ρ M).out fun b M => if b then g ρ M else h ρ M
theorem s_if {c : FB} {g h : FS} (hh : PS X st (tIfS (tT K E c) (tS K E g) (tS K E h))) : PS X st (tS K E (sIf c g h)) := PS.wk hh fun D σ H ⟨ρ, w, w0, e1, s, sr, of, p⟩ =>
  ⟨ρ, w, e1, s.ok, sr, (out_after s p).imp fun b w1 s1 p1 => by
    cases b with
    | true => exact iteT ⟨ρ, w1, w0, rfl, s.trans s1, sr.step s1, of, p1⟩
    | false => exact iteF ⟨ρ, w1, w0, rfl, s.trans s1, sr.step s1, of, p1⟩⟩
/-! ### loops -/
def forGo (b : D → EnvD → Option EnvD) (body : FS) : List D → EnvD → Store → Out
  | [], ρ, M => .next ρ M
  | d :: ds, ρ, M => match b d ρ with
    | none => .bad
    | some ρ1 => match body ρ1 M with
      | .next ρ2 M2 => forGo b body ds ρ2 M2
      | .cont ρ2 M2 => forGo b body ds ρ2 M2
      | .brk ρ2 M2 => .next ρ2 M2
      | o => o
def sFor (fi : FL) (b : D → EnvD → Option EnvD) (body : FS) : FS := fun ρ M => (fi ρ M).out fun items M => forGo b body items ρ M
theorem s_for {fi : FL} {b : D → EnvD → Option EnvD} {is : List Nat} {body : FS} (h : PS X st (tFor (tI K E fi) (tG K b is) (tS K E body))) : PS X st (tS K E (sFor fi b body)) := PS.wk h fun D σ H ⟨ρ, w, w0, e1, s, sr, of, p⟩ =>
  ⟨ρ, w, e1, s.ok, sr, (out_after s p).imp fun items w1 s1 p1 J hJ => by
    refine ⟨fun i m σ H => m = items.length - i ∧ i ≤ items.length ∧ ∃ ρ w, w.H = H ∧ Step K w0 w ∧ Le w1 w ∧ SR K w ρ σ ∧ OF w0 ρ σ ∧ PostS K E w0 w D (forGo b body (items.drop i) ρ w.M),
      ⟨items.length, by simp, Nat.zero_le _, ρ, w1, rfl, s.trans s1, Le.refl _, sr.step s1, of, by simpa using p1⟩, ?_⟩
    rintro i m σ2 H2 ⟨rfl, hi, ρ2, w2, rfl, s2, l2, sr2, of2, p2⟩
    by_cases hlt : i < items.length
    · have ed : items[i]? = some items[i] := List.getElem?_eq_getElem hlt
      rw [List.drop_eq_getElem_cons hlt] at p2
      obtain ⟨go, yl⟩ := (hJ w2 l2 s2.ok i).1 _ ed
      refine .inr ⟨go, fun σ' H' => i + 1 ≤ items.length ∧ ∃ ρ w, w.H = H' ∧ Step K w0 w ∧ Le w1 w ∧ SR K w ρ σ' ∧ OF w0 ρ σ' ∧ PostS K E w0 w D (forGo b body (items.drop (i + 1)) ρ w.M),
        fun σ' H' ⟨h1, h2⟩ => ⟨_, by omega, rfl, h1, h2⟩, fun x H' hy => ?_⟩
      obtain ⟨w3, s3, eM3, rfl, rx⟩ := yl x H' hy
      unfold forGo at p2
      cases eb : b items[i] ρ2 with
      | none => rw [eb] at p2; exact p2.elim
      | some ρ1 =>
        rw [eb] at p2
        simp only at p2
        refine ⟨ρ2, w3, items[i], ρ1, rfl, s3.ok, sr2.step s3, rx, eb, fun σ' sr' os _ _ => ?_⟩
        refine ⟨ρ1, w3, w0, rfl, s2.trans s3, sr', of2.sub os, ?_⟩
        rw [eM3]
        cases q : body ρ1 w2.M with
        | next ρ4 M4 =>
          rw [q] at p2
          intro w5 σ5 s5 l5 e5 sr5 of5
          refine ⟨hlt, ρ4, w5, rfl, s5, (l2.trans s3.le).trans l5, sr5, of5, ?_⟩
          rw [e5]
          exact PostS.later p2 (s3.le.trans l5)
        | cont ρ4 M4 =>
          rw [q] at p2
          intro w5 σ5 s5 l5 e5 sr5 of5
          refine ⟨hlt, ρ4, w5, rfl, s5, (l2.trans s3.le).trans l5, sr5, of5, ?_⟩
          rw [e5]
          exact PostS.later p2 (s3.le.trans l5)
        | brk ρ4 M4 =>
          rw [q] at p2
          intro w5 σ5 s5 l5 e5 sr5 of5
          exact p2 w5 σ5 s5 (s3.le.trans l5) e5 sr5 of5
        | ret x M4 => rw [q] at p2; exact p2
        | exc c d M4 => rw [q] at p2; exact fun w5 s5 l5 e5 => p2 w5 s5 (s3.le.trans l5) e5
        | bad => rw [q] at p2; exact p2
    · have ei : i = items.length := by omega
      subst ei
      rw [List.drop_length] at p2
      exact .inl ⟨(hJ w2 l2 s2.ok _).2 (Nat.le_refl _), p2 w2 σ2 s2 (Le.refl _) rfl sr2 of2⟩⟩
/-- while, n turns at most -/
def whGo (c : FB) (body : FS) : Nat → EnvD → Store → Out
  | 0, _, _ => .bad
  | n + 1, ρ, M => match c ρ M with
    | .ok true M1 => match body ρ M1 with
      | .next ρ2 M2 => whGo c body n ρ2 M2
      | .cont ρ2 M2 => whGo c body n ρ2 M2
      | .brk ρ2 M2 => .next ρ2 M2
      | o => o
    | .ok false M1 => .next ρ M1
    | .exc k d M1 => .exc k d M1
    | .bad => .bad
def sWhile (n : Nat) (c : FB) (body : FS) : FS := fun ρ M => whGo c body n ρ M
theorem s_while {n : Nat} {c : FB} {body : FS} (h : PS X st (tWhile (tT K E c) (tS K E body))) : PS X st (tS K E (sWhile n c body)) := PS.wk h fun D σ H ⟨ρ, w, w0, e1, s, sr, of, p⟩ => by
  refine ⟨fun m σ H => ∃ ρ w, w.H = H ∧ Step K w0 w ∧ SR K w ρ σ ∧ OF w0 ρ σ ∧ PostS K E w0 w D (whGo c body m ρ w.M), ⟨n, ρ, w, e1, s, sr, of, p⟩, ?_⟩
  rintro m σ2 H2 ⟨ρ2, w2, rfl, s2, sr2, of2, p2⟩
  refine ⟨ρ2, w2, rfl, s2.ok, sr2, ?_⟩
  cases m with
  | zero => exact p2.elim
  | succ m =>
    unfold whGo at p2
    cases q : c ρ2 w2.M with
    | bad => rw [q] at p2; exact p2
    | exc k d M1 => rw [q] at p2; exact fun w' s' e => p2 w' (s2.trans s') s'.le e
    | ok b M1 =>
      rw [q] at p2
      intro w3 s3 e3
      cases b with
      | false => exact iteF (p2 w3 σ2 (s2.trans s3) s3.le e3 (sr2.step s3) of2)
      | true =>
        refine iteT ⟨fun σ' H' => ∃ ρ w, w.H = H' ∧ Step K w0 w ∧ SR K w ρ σ' ∧ OF w0 ρ σ' ∧ PostS K E w0 w D (whGo c body m ρ w.M), fun σ' H' z => ⟨m, Nat.lt_succ_self _, z⟩, ρ2, w3, w0, rfl, s2.trans s3, sr2.step s3, of2, ?_⟩
        rw [e3]
        simp only at p2
        cases q2 : body ρ2 M1 with
        | next ρ4 M4 =>
          rw [q2] at p2
          intro w5 σ5 s5 l5 e5 sr5 of5
          refine ⟨ρ4, w5, rfl, s5, sr5, of5, ?_⟩
          rw [e5]
          exact PostS.later p2 (s3.le.trans l5)
        | cont ρ4 M4 =>
          rw [q2] at p2
          intro w5 σ5 s5 l5 e5 sr5 of5
          refine ⟨ρ4, w5, rfl, s5, sr5, of5, ?_⟩
          rw [e5]
          exact PostS.later p2 (s3.le.trans l5)
        | brk ρ4 M4 =>
          rw [q2] at p2
          intro w5 σ5 s5 l5 e5 sr5 of5
          exact p2 w5 σ5 s5 (s3.le.trans l5) e5 sr5 of5
        | ret x M4 => rw [q2] at p2; exact p2
        | exc c d M4 => rw [q2] at p2; exact fun w5 s5 l5 e5 => p2 w5 s5 (s3.le.trans l5) e5
        | bad => rw [q2] at p2; exact p2
/-! ### a list of one's own -/
/-- it is changed at its place -/
theorem SR.change {w0 w : Wd} {ρ : EnvD} {σ : St} (s : Step K w0 w) (sr : SR K w ρ σ) (of : OF w0 ρ σ) {i : Nat} {ds ds' : List D} {p : Addr} {vs vs' : List V} (hi : ρ[i]? = some (.own ds)) (hp : σ[i]? = some (some (.ref p))) (r : RepL K w.A w.G vs' ds') :
    Step K w0 ⟨w.A, w.G, w.M, upd w.H p (.lst vs')⟩ ∧ SR K ⟨w.A, w.G, w.M, upd w.H p (.lst vs')⟩ (ρ.set i (.own ds')) σ ∧ OF w0 (ρ.set i (.own ds')) σ := by
  obtain ⟨q, us, a, b, c, d, f⟩ := sr.own i ds hi
  rw [hp] at a
  cases a
  have hil : i < ρ.length := (List.getElem?_eq_some_iff.mp hi).1
  refine ⟨s.setOwn (of i ds p hi hp) b c d, ⟨by rw [List.length_set]; exact sr.len, fun j x h => ?_, fun j es h => ?_, fun j k es1 es2 q h1 h2 h3 h4 => ?_⟩, fun j es q h1 h2 => ?_⟩
  · have nj : i ≠ j := fun z => by subst z; rw [List.getElem?_set_self hil] at h; cases h
    rw [List.getElem?_set_ne nj] at h
    exact sr.val j x h
  · by_cases hj : i = j
    · subst hj
      rw [List.getElem?_set_self hil] at h
      cases h
      exact ⟨p, vs', hp, upd_same, c, d, r⟩
    · rw [List.getElem?_set_ne hj] at h
      obtain ⟨q, us2, a2, b2, c2, d2, f2⟩ := sr.own j es h
      refine ⟨q, us2, a2, ?_, c2, d2, f2⟩
      show upd w.H p (.lst vs') q = _
      rw [upd_ne (fun z : q = p => hj (by rw [z] at a2; exact sr.dis i j ds es p hi h hp a2))]
      exact b2
  · have f : ∀ {j : Nat} {es : List D}, (ρ.set i (.own ds'))[j]? = some (.own es) → ∃ es', ρ[j]? = some (.own es') := fun {j es} h => by
      by_cases hj : i = j
      · subst hj; exact ⟨ds, hi⟩
      · rw [List.getElem?_set_ne hj] at h; exact ⟨es, h⟩
    obtain ⟨_, z1⟩ := f h1
    obtain ⟨_, z2⟩ := f h2
    exact sr.dis j k _ _ q z1 z2 h3 h4
  · by_cases hj : i = j
    · subst hj; exact of _ ds q hi h2
    · rw [List.getElem?_set_ne hj] at h1; exact of j es q h1 h2
/-- x.append(e) -/
def sApp (i : Nat) (f : FD) : FS := fun ρ M => match ρ[i]? with
  | some (.own ds) => (f ρ M).out fun d M => if ds.length < sizeLine then .next (ρ.set i (.own (ds ++ [d]))) M else .bad
  | _ => .bad
theorem s_app {i : Nat} {f : FD} (h : PS X st (tDrop (tBM K "list" rAppend (tVar i) (tCons (tF K E f) tNil)))) : PS X st (tS K E (sApp i f)) := PS.wk h fun D σ H ⟨ρ, w, w0, e1, s, sr, of, p⟩ => by
  subst e1
  unfold sApp at p
  split at p
  · rename_i ds e2
    obtain ⟨q, vs, h1, h2, h3, h4, h5⟩ := sr.own i ds e2
    refine ⟨_, h1, .inl ⟨rfl, vs, .inl (.inl h2)⟩, ρ, w, rfl, s.ok, sr, (out_after s p).imp fun x w1 s1 p1 v rv => ?_⟩
    split at p1
    · rename_i hz
      obtain ⟨b1, c1, d1⟩ := s1.keepN q _ h2 h3 h4
      have r1 := s1.repL h5
      refine ⟨q, vs, v, rfl, rfl, b1, by rw [h5.length]; exact hz, ?_⟩
      obtain ⟨a, b, c⟩ := SR.change (vs := vs) (s.trans s1) (sr.step s1) of e2 h1 (r1.append (.one rv))
      exact p1 _ σ a (Le.refl _) rfl b c
    · exact p1.elim
  · exact p.elim
/-- x.extend(e), e a list -/
def sExt (i : Nat) (f : FD) : FS := fun ρ M => match ρ[i]? with
  | some (.own ds) => (f ρ M).out fun d M => match lstOf M d with
    | some es => if ds.length + es.length ≤ sizeLine then .next (ρ.set i (.own (ds ++ es))) M else .bad
    | none => .bad
  | _ => .bad
theorem s_ext {i : Nat} {f : FD} (h : PS X st (tDrop (tBM K "list" rExtend (tVar i) (tCons (tF K E f) tNil)))) : PS X st (tS K E (sExt i f)) := PS.wk h fun D σ H ⟨ρ, w, w0, e1, s, sr, of, p⟩ => by
  subst e1
  unfold sExt at p
  split at p
  · rename_i ds e2
    obtain ⟨q, vs, h1, h2, h3, h4, h5⟩ := sr.own i ds e2
    refine ⟨_, h1, .inl ⟨rfl, vs, .inl (.inl h2)⟩, ρ, w, rfl, s.ok, sr, (out_after s p).imp fun x w1 s1 p1 v rv => ?_⟩
    cases el : lstOf w1.M x with
    | none => rw [el] at p1; exact p1.elim
    | some es =>
      rw [el] at p1
      simp only at p1
      split at p1
      · rename_i hz
        obtain ⟨b1, c1, d1⟩ := s1.keepN q _ h2 h3 h4
        have r1 := s1.repL h5
        obtain ⟨q2, us, rfl, hu, ru⟩ := lst_at s1.ok (.inl rv) el
        refine ⟨q, q2, vs, us, rfl, rfl, b1, hu, by rw [h5.length, ru.length]; exact hz, ?_⟩
        obtain ⟨a, b, c⟩ := SR.change (vs := vs) (s.trans s1) (sr.step s1) of e2 h1 (r1.append ru)
        exact p1 _ σ a (Le.refl _) rfl b c
      · exact p1.elim
  · exact p.elim
/-- a list of one's own is frozen: nothing happens in the program -/
def sFz (i : Nat) (g : FS) : FS := fun ρ M => match ρ[i]? with
  | some (.own ds) => g (ρ.set i (.val (.lst ds))) M
  | _ => g ρ M
theorem fz_ok {i : Nat} {g : FS} {D : Ends} {σ : St} {H : Hp} (h : tS K E (sFz i g) D σ H) : tS K E g D σ H := by
  obtain ⟨ρ, w, w0, e1, s, sr, of, p⟩ := h
  unfold sFz at p
  split at p
  · rename_i ds e2
    obtain ⟨q, vs, h1, h2, h3, h4, h5⟩ := sr.own i ds e2
    have hil : i < ρ.length := (List.getElem?_eq_some_iff.mp e2).1
    have fG : Same w.G (upd w.G q (.lst vs)) := upd_fro h3
    have l : Le w ⟨w.A, upd w.G q (.lst vs), w.M, w.H⟩ := ⟨List.prefix_refl _, fG⟩
    refine ⟨ρ.set i (.val (.lst ds)), ⟨w.A, upd w.G q (.lst vs), w.M, w.H⟩, w0, e1, ⟨s.ok.freeze h2 h3 h4, s.pre, s.fro.trans fG, fun b o z1 z2 z3 => ?_⟩, ⟨by rw [List.length_set]; exact sr.len, fun j x h => ?_, fun j es h => ?_, fun j k es1 es2 b z1 z2 z3 z4 => ?_⟩, fun j es b z1 z2 => ?_, PostS.later p l⟩
    · obtain ⟨a, b', c⟩ := s.keep b o z1 z2 z3
      refine ⟨a, b'.imp (fun b' => ?_) id, c⟩
      show upd w.G q (.lst vs) b = none
      rw [upd_ne (ne_of_none z1 (of i ds q e2 h1))]
      exact b'
    · by_cases hj : i = j
      · subst hj
        rw [List.getElem?_set_self hil] at h
        cases h
        exact ⟨_, h1, .lst upd_same (l.repL h5)⟩
      · rw [List.getElem?_set_ne hj] at h
        obtain ⟨v, a, b⟩ := sr.val j x h
        exact ⟨v, a, l.rep b⟩
    · have nj : i ≠ j := fun z => by subst z; rw [List.getElem?_set_self hil] at h; cases h
      rw [List.getElem?_set_ne nj] at h
      obtain ⟨q2, us, a, b, c, d, f⟩ := sr.own j es h
      refine ⟨q2, us, a, b, ?_, d, l.repL f⟩
      show upd w.G q (.lst vs) q2 = none
      rw [upd_ne (fun z : q2 = q => nj (by rw [z] at a; exact sr.dis i j ds es q e2 h h1 a))]
      exact c
    · have nj : i ≠ j := fun z => by subst z; rw [List.getElem?_set_self hil] at z1; cases z1
      have nk : i ≠ k := fun z => by subst z; rw [List.getElem?_set_self hil] at z2; cases z2
      rw [List.getElem?_set_ne nj] at z1
      rw [List.getElem?_set_ne nk] at z2
      exact sr.dis j k _ _ b z1 z2 z3 z4
    · have nj : i ≠ j := fun z => by subst z; rw [List.getElem?_set_self hil] at z1; cases z1
      rw [List.getElem?_set_ne nj] at z1
      exact of j es b z1 z2
  · exact ⟨ρ, w, w0, e1, s, sr, of, p⟩
theorem s_fz {i : Nat} {g : FS} (h : PS X st (tS K E g)) : PS X st (tS K E (sFz i g)) := PS.wk h fun _ _ _ z => fz_ok z
end
end TP
/-! TPf: built-in things by plain data. -/
namespace TP
open PySem L2
section
variable {K : PySem.W.Frag} {E : Wish} {X : Cx} {e : Expr}
/-! ### one answer, nothing changed -/
theorem ans {w : Wd} {Q : VK} {d : D} {v : V} (ok : w.Ok K) (k : ∀ v w', Step K w w' → w'.M = w.M → RepX K w w' v (.val d) → Q v w'.H) (r : ∀ A G, Rep K A G v d) : Q v w.H := k v w (Step.refl ok) rfl (r _ _)
/-! ### arithmetic -/
def mulOk (i j : Int) : Bool := decide (-(2 ^ 64) < i ∧ i < 2 ^ 64) || decide (-(2 ^ 64) < j ∧ j < 2 ^ 64) || decide (i.natAbs.log2 + j.natAbs.log2 < 1000000)
def addD (M : Store) (x y : D) : Option Slot := match x, y with
  | .int i, .int j => some (.val (.int (i + j)))
  | .str a, .str b => if a.length + b.length ≤ sizeLine then some (.val (.str (a ++ b))) else none
  | .tup xs, .tup ys => if xs.length + ys.length ≤ sizeLine then some (.val (.tup (xs ++ ys))) else none
  | x, y => match lstOf M x, lstOf M y with
    | some xs, some ys => if xs.length + ys.length ≤ sizeLine then some (.own (xs ++ ys)) else none
    | _, _ => none
def rAddA (K : PySem.W.Frag) : R2 := fun x y H Q => rI0 (fun i j => .int (i + j)) x y H Q ∨ (∃ i j, x = .str i ∧ y = .str j ∧ i.length + j.length ≤ sizeLine ∧ Q (.str (i ++ j)) H) ∨ rCatA K x y H Q ∨ rCat x y H Q
theorem op_addA : OpR X (binaryOp .Add) (rAddA X.K) := op_add.or (op_add_str.or (op_catA.or op_cat))
theorem p_add : Prim2 K (rAddA K) addD := by
  intro w vx vy x y s Q ok rx ry h k
  unfold addD at h
  split at h
  · cases h
    cases int_at rx
    cases int_at ry
    exact .inl ⟨_, _, rfl, rfl, ans ok k fun _ _ => .int _⟩
  · split at h
    · cases h
      cases str_at rx
      cases str_at ry
      exact .inr (.inl ⟨_, _, rfl, rfl, by assumption, ans ok k fun _ _ => .str _⟩)
    · cases h
  · split at h
    · cases h
      obtain ⟨p, vs, rfl, hs, rl⟩ := tup_at ok rx
      obtain ⟨p2, vs2, rfl, hs2, rl2⟩ := tup_at ok ry
      refine .inr (.inr (.inl ⟨p, p2, vs, vs2, rfl, rfl, hs, hs2, by rw [rl.length, rl2.length]; assumption, fun e => ?_, fun _ e => ?_, fun _ _ q hq => ?_⟩))
      · subst e
        cases rl
        rcases ry with ry | ⟨_, _, _, _, e, _⟩
        · exact k _ w (Step.refl ok) rfl ry
        · cases e
      · subst e
        cases rl2
        rw [List.append_nil] at k
        rcases rx with rx | ⟨_, _, _, _, e, _⟩
        · exact k _ w (Step.refl ok) rfl rx
        · cases e
      · have st := ok.fresh hq (.tup (vs ++ vs2))
        exact k _ _ st rfl (.tup upd_same (st.repL (rl.append rl2)))
    · cases h
  · split at h
    · rename_i e1 e2
      split at h
      · cases h
        obtain ⟨p, vs, rfl, hs, rl⟩ := lst_at ok rx e1
        obtain ⟨p2, vs2, rfl, hs2, rl2⟩ := lst_at ok ry e2
        refine .inr (.inr (.inr ⟨p, p2, vs, vs2, rfl, rfl, hs, hs2, by rw [rl.length, rl2.length]; assumption, fun q hq => ?_⟩))
        exact k _ _ (ok.fresh0 hq _) rfl (own_new (Step.refl ok) hq (rl.append rl2))
      · cases h
    · cases h
def subD (_ : Store) (x y : D) : Option Slot := match x, y with
  | .int i, .int j => some (.val (.int (i - j)))
  | _, _ => none
theorem p_sub : Prim2 K (rI0 fun i j => .int (i - j)) subD := by
  intro w vx vy x y s Q ok rx ry h k
  unfold subD at h
  split at h
  · cases h
    cases int_at rx
    cases int_at ry
    exact ⟨_, _, rfl, rfl, ans ok k fun _ _ => .int _⟩
  · cases h
def mulD (M : Store) (x y : D) : Option Slot := match x, y with
  | .int i, .int j => if mulOk i j then some (.val (.int (i * j))) else none
  | x, .int k => match lstOf M x with
    | some xs => if -(2 ^ 63) ≤ k ∧ k < 2 ^ 63 ∧ xs.length * k.toNat ≤ sizeLine then some (.own (List.replicate k.toNat xs).flatten) else none
    | none => none
  | _, _ => none
def rMulA : R2 := fun x y H Q => rI CMul (fun i j => .int (i * j)) x y H Q ∨ rI CMulW (fun i j => .int (i * j)) x y H Q ∨ rRep x y H Q
theorem op_mulA : OpR X (binaryOp .Mult) rMulA := op_mul.or (op_mulW.or op_rep)
theorem RepL.rep {A : List Addr} {G : Hp} {vs : List V} {ds : List D} (h : RepL K A G vs ds) : ∀ n : Nat, RepL K A G (List.replicate n vs).flatten (List.replicate n ds).flatten
  | 0 => .nil
  | n + 1 => by
    rw [List.replicate_succ, List.replicate_succ, List.flatten_cons, List.flatten_cons]
    exact h.append (RepL.rep h n)
theorem p_mul : Prim2 K rMulA mulD := by
  intro w vx vy x y s Q ok rx ry h k
  unfold mulD at h
  split at h
  · split at h
    · rename_i i j hm
      cases h
      cases int_at rx
      cases int_at ry
      unfold mulOk at hm
      rw [Bool.or_eq_true, Bool.or_eq_true] at hm
      rcases hm with (hm | hm) | hm
      · exact .inl ⟨_, _, rfl, rfl, .inl (of_decide_eq_true hm), ans ok k fun _ _ => .int _⟩
      · exact .inl ⟨_, _, rfl, rfl, .inr (of_decide_eq_true hm), ans ok k fun _ _ => .int _⟩
      · exact .inr (.inl ⟨_, _, rfl, rfl, (show i.natAbs.log2 + j.natAbs.log2 < 1000000 from of_decide_eq_true hm), ans ok k fun _ _ => .int _⟩)
    · cases h
  · split at h
    · rename_i e1
      split at h
      · rename_i hz
        cases h
        obtain ⟨p, vs, rfl, hs, rl⟩ := lst_at ok rx e1
        cases int_at ry
        refine .inr (.inr ⟨p, _, vs, rfl, rfl, hs, hz.1, hz.2.1, by rw [rl.length]; exact hz.2.2, fun q hq => ?_⟩)
        exact k _ _ (ok.fresh0 hq _) rfl (own_new (Step.refl ok) hq (rl.rep _))
      · cases h
    · cases h
  · cases h
/-- by a positive divisor, or a small one -/
def fdivD (_ : Store) (x y : D) : Option Slot := match x, y with
  | .int i, .int j => if 0 < j ∧ j < 1073741824 then some (.val (.int (i / j))) else if 0 < j ∧ j.natAbs.log2 < 9000 then some (.val (.int (i / j))) else if j ≠ 0 ∧ j.natAbs < 1073741824 then some (.val (.int (i.fdiv j))) else if j ≠ 0 ∧ j.natAbs.log2 < 9000 then some (.val (.int (i.fdiv j))) else none
  | _, _ => none
def CDivG (_ j : Int) : Prop := j ≠ 0 ∧ j.natAbs.log2 < 9000
open PySem.Spec PyProof.Rows in
theorem op_fdivG : OpR X (binaryOp .FloorDiv) (rI CDivG fun i j => .int (i.fdiv j)) := opI fun _ _ _ _ _ _ _ hc q => floordiv_int hc.1 q (.inl (PyProof.noPylong_of_log2 hc.2))
def rFdivA : R2 := fun x y H Q => rI CDivW (fun i j => .int (i / j)) x y H Q ∨ rI CDivN (fun i j => .int (i.fdiv j)) x y H Q ∨ rI CDivG (fun i j => .int (i.fdiv j)) x y H Q
theorem op_fdivA : OpR X (binaryOp .FloorDiv) rFdivA := op_fdivW.or (op_fdivN.or op_fdivG)
theorem p_fdiv : Prim2 K rFdivA fdivD := by
  intro w vx vy x y s Q ok rx ry h k
  unfold fdivD at h
  split at h
  · cases int_at rx
    cases int_at ry
    split at h
    · rename_i hc
      cases h
      exact .inl ⟨_, _, rfl, rfl, ⟨hc.1, Nat.lt_of_lt_of_le (PySem.Flt.log2_lt_of (k := 30) (by decide) (by omega)) (by decide)⟩, ans ok k fun _ _ => .int _⟩
    · split at h
      · rename_i hc
        cases h
        exact .inl ⟨_, _, rfl, rfl, hc, ans ok k fun _ _ => .int _⟩
      · split at h
        · rename_i hc
          cases h
          exact .inr (.inl ⟨_, _, rfl, rfl, hc, ans ok k fun _ _ => .int _⟩)
        · split at h
          · rename_i hc
            cases h
            exact .inr (.inr ⟨_, _, rfl, rfl, hc, ans ok k fun _ _ => .int _⟩)
          · cases h
  · cases h
def modD (_ : Store) (x y : D) : Option Slot := match x, y with
  | .int i, .int j => if 0 < j then some (.val (.int (i % j))) else if j ≠ 0 then some (.val (.int (i.fmod j))) else none
  | _, _ => none
def rModA : R2 := fun x y H Q => rI (fun _ j => 0 < j) (fun i j => .int (i % j)) x y H Q ∨ rI (fun _ j => j ≠ 0) (fun i j => .int (i.fmod j)) x y H Q
theorem op_modA : OpR X (binaryOp .Mod) rModA := op_mod.or op_modN
theorem p_mod : Prim2 K rModA modD := by
  intro w vx vy x y s Q ok rx ry h k
  unfold modD at h
  split at h
  · cases int_at rx
    cases int_at ry
    split at h
    · rename_i hc
      cases h
      exact .inl ⟨_, _, rfl, rfl, hc, ans ok k fun _ _ => .int _⟩
    · split at h
      · rename_i hc
        cases h
        exact .inr ⟨_, _, rfl, rfl, hc, ans ok k fun _ _ => .int _⟩
      · cases h
  · cases h
def powD (_ : Store) (x y : D) : Option Slot := match x, y with
  | .int i, .int j => if 0 ≤ j ∧ j ≤ 1000000 ∧ i.natAbs < 2 ^ 64 then some (.val (.int (i ^ j.toNat))) else none
  | _, _ => none
theorem p_pow : Prim2 K (rI CPow fun i j => .int (i ^ j.toNat)) powD := by
  intro w vx vy x y s Q ok rx ry h k
  unfold powD at h
  split at h
  · cases int_at rx
    cases int_at ry
    split at h
    · rename_i hc
      cases h
      exact ⟨_, _, rfl, rfl, hc, ans ok k fun _ _ => .int _⟩
    · cases h
  · cases h
def negD (_ : Store) (x : D) : Option Slot := match x with
  | .int i => some (.val (.int (-i)))
  | _ => none
theorem p_neg : Prim1 K (rU fun i => .int (-i)) negD := by
  intro w vx x s Q ok rx h k
  unfold negD at h
  split at h
  · cases int_at rx
    cases h
    exact ⟨_, rfl, ans ok k fun _ _ => .int _⟩
  · cases h
/-! ### order of ints -/
def cmpD (p : Int → Int → Bool) (_ : Store) (x y : D) : Option Slot := match x, y with
  | .int i, .int j => some (.val (.bl (p i j)))
  | _, _ => none
theorem p_cmp (p : Int → Int → Bool) : Prim2 K (rI0 fun i j => .bl (p i j)) (cmpD p) := by
  intro w vx vy x y s Q ok rx ry h k
  unfold cmpD at h
  split at h
  · cases int_at rx
    cases int_at ry
    cases h
    exact ⟨_, _, rfl, rfl, ans ok k fun _ _ => .bl _⟩
  · cases h
/-! ### equality -/
mutual
def eqvD : D → D → Bool
  | .non, .non => true
  | .bl a, .bl b => a == b
  | .bl a, .int j => (if a then 1 else 0) == j
  | .int i, .bl b => i == (if b then 1 else 0)
  | .int i, .int j => i == j
  | .str x, .str y => x == y
  | .lst xs, .lst ys => eqvL xs ys
  | .tup xs, .tup ys => eqvL xs ys
  | _, _ => false
def eqvL : List D → List D → Bool
  | [], [] => true
  | x :: xs, y :: ys => eqvD x y && eqvL xs ys
  | _, _ => false
end
mutual
/-- no things of the store, no strange signs -/
def goodD : D → Bool
  | .non => true
  | .bl _ => true
  | .int _ => true
  | .str x => x.cps.all (· < 0x110000)
  | .lst xs => goodL xs
  | .tup xs => goodL xs
  | .fro _ => false
  | .kt _ => false
  | .fn _ => false
  | .ref _ => false
def goodL : List D → Bool
  | [] => true
  | x :: xs => goodD x && goodL xs
end
mutual
def dpD : D → Nat
  | .lst xs => dpL xs + 1
  | .tup xs => dpL xs + 1
  | _ => 0
def dpL : List D → Nat
  | [] => 0
  | x :: xs => max (dpD x) (dpL xs)
end
mutual
def toPy : D → PyData
  | .non => .none
  | .bl b => .bool b
  | .int i => .int i
  | .str x => .str x
  | .lst xs => .list (toPyL xs)
  | .tup xs => .tuple (toPyL xs)
  | .fro _ => .none
  | .kt _ => .none
  | .fn _ => .none
  | .ref _ => .none
def toPyL : List D → List PyData
  | [] => []
  | x :: xs => toPy x :: toPyL xs
end
mutual
theorem eqv_py : ∀ x y : D, goodD x = true → goodD y = true → PyData.eqv (toPy x) (toPy y) = eqvD x y
  | .non, y, _, hy => by cases y <;> first | (simp [goodD] at hy; done) | simp [toPy, PyData.eqv, eqvD]
  | .bl _, y, _, hy => by cases y <;> first | (simp [goodD] at hy; done) | simp [toPy, PyData.eqv, eqvD]
  | .int _, y, _, hy => by cases y <;> first | (simp [goodD] at hy; done) | simp [toPy, PyData.eqv, eqvD]
  | .str _, y, _, hy => by cases y <;> first | (simp [goodD] at hy; done) | simp [toPy, PyData.eqv, eqvD]
  | .lst xs, y, hx, hy => by
    cases y with
    | lst ys =>
      simp only [toPy, PyData.eqv, eqvD]
      exact eqvL_py xs ys (by simpa [goodD] using hx) (by simpa [goodD] using hy)
    | _ => first | (simp [goodD] at hy; done) | simp [toPy, PyData.eqv, eqvD]
  | .tup xs, y, hx, hy => by
    cases y with
    | tup ys =>
      simp only [toPy, PyData.eqv, eqvD]
      exact eqvL_py xs ys (by simpa [goodD] using hx) (by simpa [goodD] using hy)
    | _ => first | (simp [goodD] at hy; done) | simp [toPy, PyData.eqv, eqvD]
  | .fro _, _, hx, _ => by simp [goodD] at hx
  | .kt _, _, hx, _ => by simp [goodD] at hx
  | .fn _, _, hx, _ => by simp [goodD] at hx
  | .ref _, _, hx, _ => by simp [goodD] at hx
theorem eqvL_py : ∀ xs ys : List D, goodL xs = true → goodL ys = true → PyData.eqvAll (toPyL xs) (toPyL ys) = eqvL xs ys
  | [], [], _, _ => by simp [toPyL, PyData.eqvAll, eqvL]
  | [], _ :: _, _, _ => by simp [toPyL, PyData.eqvAll, eqvL]
  | _ :: _, [], _, _ => by simp [toPyL, PyData.eqvAll, eqvL]
  | x :: xs, y :: ys, hx, hy => by
    simp only [goodL, Bool.and_eq_true] at hx hy
    simp only [toPyL, PyData.eqvAll, eqvL, eqv_py x y hx.1 hy.1, eqvL_py xs ys hx.2 hy.2]
end
mutual
theorem lay_py : ∀ x : D, goodD x = true → (toPy x).canLay0 = true
  | .non, _ => by simp [toPy, PyData.canLay0]
  | .bl _, _ => by simp [toPy, PyData.canLay0]
  | .int _, _ => by simp [toPy, PyData.canLay0]
  | .str x, h => by simpa [toPy, PyData.canLay0, PyData.strOk, goodD] using h
  | .lst xs, h => by simp only [toPy, PyData.canLay0]; exact layL_py xs (by simpa [goodD] using h)
  | .tup xs, h => by simp only [toPy, PyData.canLay0]; exact layL_py xs (by simpa [goodD] using h)
  | .fro _, h => by simp [goodD] at h
  | .kt _, h => by simp [goodD] at h
  | .fn _, h => by simp [goodD] at h
  | .ref _, h => by simp [goodD] at h
theorem layL_py : ∀ xs : List D, goodL xs = true → PyData.canLayAll0 (toPyL xs) = true
  | [], _ => by simp [toPyL, PyData.canLayAll0]
  | x :: xs, h => by
    simp only [goodL, Bool.and_eq_true] at h
    simp only [toPyL, PyData.canLayAll0, lay_py x h.1, layL_py xs h.2, Bool.and_self]
end
mutual
theorem dp_py : ∀ x : D, goodD x = true → (toPy x).depth = dpD x
  | .non, _ => by simp [toPy, PyData.depth, dpD]
  | .bl _, _ => by simp [toPy, PyData.depth, dpD]
  | .int _, _ => by simp [toPy, PyData.depth, dpD]
  | .str x, h => by simp [toPy, PyData.depth, dpD]
  | .lst xs, h => by simp only [toPy, PyData.depth, dpD]; rw [dpL_py xs (by simpa [goodD] using h)]
  | .tup xs, h => by simp only [toPy, PyData.depth, dpD]; rw [dpL_py xs (by simpa [goodD] using h)]
  | .fro _, h => by simp [goodD] at h
  | .kt _, h => by simp [goodD] at h
  | .fn _, h => by simp [goodD] at h
  | .ref _, h => by simp [goodD] at h
theorem dpL_py : ∀ xs : List D, goodL xs = true → PyData.depthAll (toPyL xs) = dpL xs
  | [], _ => by simp [toPyL, PyData.depthAll, dpL]
  | x :: xs, h => by
    simp only [goodL, Bool.and_eq_true] at h
    simp only [toPyL, PyData.depthAll, dpL, dp_py x h.1, dpL_py xs h.2]
end
mutual
theorem Rep.dp {A : List Addr} {G H : Hp} (sub : Same G H) : ∀ (d : D) (v : V), Rep K A G v d → goodD d = true → Dp K H v (toPy d)
  | .non, _, h, _ => by cases h; simp only [toPy]; exact .non
  | .bl b, _, h, _ => by cases h; simp only [toPy]; exact .bl b
  | .int i, _, h, _ => by cases h; simp only [toPy]; exact .int i
  | .str x, _, h, _ => by cases h; simp only [toPy]; exact .str x
  | .tup ds, _, h, g => by
    cases h with
    | tup hs hr =>
      simp only [toPy]
      exact .tup (.inl (.inl (sub _ _ hs))) (RepL.dp sub ds _ hr (by simpa [goodD] using g))
  | .lst ds, _, h, g => by
    cases h with
    | lst hs hr =>
      simp only [toPy]
      exact .lst (.inl (.inl (sub _ _ hs))) (RepL.dp sub ds _ hr (by simpa [goodD] using g))
  | .fro ds, _, h, g => by simp [goodD] at g
  | .kt ds, _, h, g => by simp [goodD] at g
  | .fn c, _, h, g => by simp [goodD] at g
  | .ref k, _, h, g => by simp [goodD] at g
theorem RepL.dp {A : List Addr} {G H : Hp} (sub : Same G H) : ∀ (ds : List D) (vs : List V), RepL K A G vs ds → goodL ds = true → DpAll K H vs (toPyL ds)
  | [], _, h, _ => by cases h; simp only [toPyL]; exact .nil
  | d :: ds, _, h, g => by
    simp only [goodL, Bool.and_eq_true] at g
    cases h with
    | cons h1 h2 =>
      simp only [toPyL]
      exact .cons (Rep.dp sub d _ h1 g.1) (RepL.dp sub ds _ h2 g.2)
end
mutual
/-- with other things for those of the store -/
def mapR (f : Nat → D) : D → D
  | .tup xs => .tup (mapRL f xs)
  | .lst xs => .lst (mapRL f xs)
  | .ref k => f k
  | .non => .non
  | .bl b => .bl b
  | .int i => .int i
  | .str x => .str x
  | .fro xs => .fro xs
  | .kt xs => .kt xs
  | .fn c => .fn c
def mapRL (f : Nat → D) : List D → List D
  | [] => []
  | x :: xs => mapR f x :: mapRL f xs
end
/-- lists of the store, as they stand, so many within one another -/
def dd : Nat → Store → D → D
  | 0, _, x => x
  | n + 1, M, x => mapR (fun k => match M[k]? with
    | some (.lst ds) => .lst (ds.map (dd n M))
    | _ => .ref k) x
def derD (M : Store) (x : D) : D := dd 3 M x
mutual
theorem mapR_good {f : Nat → D} : ∀ x : D, goodD x = true → mapR f x = x
  | .non, _ => by simp only [mapR]
  | .bl _, _ => by simp only [mapR]
  | .int _, _ => by simp only [mapR]
  | .str _, _ => by simp only [mapR]
  | .lst xs, h => by simp only [mapR]; rw [mapRL_good xs (by simpa [goodD] using h)]
  | .tup xs, h => by simp only [mapR]; rw [mapRL_good xs (by simpa [goodD] using h)]
  | .fro _, h => by simp [goodD] at h
  | .kt _, h => by simp [goodD] at h
  | .fn _, h => by simp [goodD] at h
  | .ref _, h => by simp [goodD] at h
theorem mapRL_good {f : Nat → D} : ∀ xs : List D, goodL xs = true → mapRL f xs = xs
  | [], _ => by simp only [mapRL]
  | x :: xs, h => by
    simp only [goodL, Bool.and_eq_true] at h
    simp only [mapRL, mapR_good x h.1, mapRL_good xs h.2]
end
theorem der_good (M : Store) {x : D} (h : goodD x = true) : derD M x = x := by
  unfold derD dd
  exact mapR_good x h
mutual
theorem Rep.mapR {A : List Addr} {G H : Hp} (sub : Same G H) {f : Nat → D} (hf : ∀ k v, Rep K A G v (.ref k) → goodD (f k) = true → Dp K H v (toPy (f k))) : ∀ (d : D) (v : V), Rep K A G v d → goodD (TP.mapR f d) = true → Dp K H v (toPy (TP.mapR f d))
  | .non, _, h, _ => by cases h; simp only [TP.mapR, toPy]; exact .non
  | .bl b, _, h, _ => by cases h; simp only [TP.mapR, toPy]; exact .bl b
  | .int i, _, h, _ => by cases h; simp only [TP.mapR, toPy]; exact .int i
  | .str x, _, h, _ => by cases h; simp only [TP.mapR, toPy]; exact .str x
  | .tup ds, _, h, g => by
    cases h with
    | tup hs hr =>
      simp only [TP.mapR, toPy]
      simp only [TP.mapR, goodD] at g
      exact .tup (.inl (.inl (sub _ _ hs))) (RepL.mapR sub hf ds _ hr g)
  | .lst ds, _, h, g => by
    cases h with
    | lst hs hr =>
      simp only [TP.mapR, toPy]
      simp only [TP.mapR, goodD] at g
      exact .lst (.inl (.inl (sub _ _ hs))) (RepL.mapR sub hf ds _ hr g)
  | .fro ds, _, h, g => by simp [TP.mapR, goodD] at g
  | .kt ds, _, h, g => by simp [TP.mapR, goodD] at g
  | .fn c, _, h, g => by simp [TP.mapR, goodD] at g
  | .ref k, v, h, g => by
    simp only [TP.mapR] at g ⊢
    exact hf k v h g
theorem RepL.mapR {A : List Addr} {G H : Hp} (sub : Same G H) {f : Nat → D} (hf : ∀ k v, Rep K A G v (.ref k) → goodD (f k) = true → Dp K H v (toPy (f k))) : ∀ (ds : List D) (vs : List V), RepL K A G vs ds → goodL (mapRL f ds) = true → DpAll K H vs (toPyL (mapRL f ds))
  | [], _, h, _ => by cases h; simp only [mapRL, toPyL]; exact .nil
  | d :: ds, _, h, g => by
    simp only [mapRL, goodL, Bool.and_eq_true] at g
    cases h with
    | cons h1 h2 =>
      simp only [mapRL, toPyL]
      exact .cons (Rep.mapR sub hf d _ h1 g.1) (RepL.mapR sub hf ds _ h2 g.2)
end
theorem RepL.each {w : Wd} {g : D → D} (hg : ∀ d v, Rep K w.A w.G v d → goodD (g d) = true → Dp K w.H v (toPy (g d))) : ∀ (ds : List D) (vs : List V), RepL K w.A w.G vs ds → goodL (ds.map g) = true → DpAll K w.H vs (toPyL (ds.map g))
  | [], _, h, _ => by cases h; exact .nil
  | d :: ds, _, h, z => by
    rw [List.map_cons] at z ⊢
    simp only [goodL, Bool.and_eq_true] at z
    cases h with
    | cons h1 h2 =>
      simp only [toPyL]
      exact .cons (hg d _ h1 z.1) (RepL.each hg ds _ h2 z.2)
theorem Rep.dd {w : Wd} (ok : w.Ok K) : ∀ (n : Nat) (d : D) (v : V), Rep K w.A w.G v d → goodD (TP.dd n w.M d) = true → Dp K w.H v (toPy (TP.dd n w.M d))
  | 0, d, v, r, g => by
    unfold TP.dd at g ⊢
    exact Rep.dp ok.sub d v r g
  | n + 1, d, v, r, g => by
    unfold TP.dd at g ⊢
    refine Rep.mapR ok.sub (fun k v r g => ?_) d v r g
    cases r with
    | @ref a k ek =>
      split at g
      · rename_i ds e2
        obtain ⟨a', e3, vs, h1, h2⟩ := ok.mos k _ e2
        rw [ek] at e3; cases e3
        simp only [toPy]
        simp only [goodD] at g
        exact .lst (.inl (.inl h1)) (RepL.each (fun d v r g => Rep.dd ok n d v r g) ds _ h2 g)
      · simp [goodD] at g
theorem RepB.dp {w : Wd} (ok : w.Ok K) {v : V} {x : D} (r : RepB K w v x) (g : goodD (derD w.M x) = true) : Dp K w.H v (toPy (derD w.M x)) := by
  rcases r with r | ⟨p, vs, ds, rfl, rfl, h1, _, _, h4⟩
  · exact Rep.dd ok 3 x v r g
  · unfold derD TP.dd at g ⊢
    simp only [TP.mapR, toPy]
    simp only [TP.mapR, goodD] at g
    refine .lst (.inl (.inl h1)) (RepL.mapR ok.sub (fun k v r g => ?_) ds _ h4 g)
    have r3 := Rep.dd ok 3 (.ref k) v r
    unfold TP.dd at r3
    simp only [TP.mapR] at r3
    exact r3 g
/-- two texts -/
def strP : D → D → Option Bool
  | .str i, .str j => some (decide (i = j))
  | _, _ => none
def rEqW (K : PySem.W.Frag) : R2 := fun x y H Q => (∃ i j, x = .str i ∧ y = .str j ∧ Q (.bl (decide (i = j))) H) ∨ ∃ d e, Dp K H x d ∧ Dp K H y e ∧ d.canLay0 = true ∧ e.canLay0 = true ∧ min d.depth e.depth ≤ 190 ∧ Q (.bl (PyData.eqv d e)) H
def rNeW (K : PySem.W.Frag) : R2 := fun x y H Q => (∃ i j, x = .str i ∧ y = .str j ∧ Q (.bl (!decide (i = j))) H) ∨ ∃ d e, Dp K H x d ∧ Dp K H y e ∧ d.canLay0 = true ∧ e.canLay0 = true ∧ min d.depth e.depth ≤ 190 ∧ Q (.bl (!PyData.eqv d e)) H
theorem op_eqW (hu : X.A.units + 200 < cLine) : OpR X (compareOp .Eq) (rEqW X.K) := by
  intro pins s σ H x y v u Q I rx ry h
  rcases h with ⟨i, j, rfl, rfl, q⟩ | h
  · refine op_eq pins s σ H (.str i) (.str j) v u Q I rx ry ⟨rfl, ?_⟩
    rw [show decide (V.str i = V.str j) = decide (i = j) by rw [Bool.eq_iff_iff]; simp]
    exact q
  obtain ⟨d, e, hd, he, sd, se, hm, q⟩ := h
  obtain ⟨as, r1⟩ := Dp.reads I d x v hd rx
  obtain ⟨bs, r2⟩ := Dp.reads I e y u he ry
  exact SeqAt.compareEq_reads r1 r2 sd se (by omega) ⟨.bl _, H, I, rfl, q⟩
theorem op_neW (hu : X.A.units + 200 < cLine) : OpR X (compareOp .NotEq) (rNeW X.K) := by
  intro pins s σ H x y v u Q I rx ry h
  rcases h with ⟨i, j, rfl, rfl, q⟩ | h
  · refine op_ne pins s σ H (.str i) (.str j) v u Q I rx ry ⟨rfl, ?_⟩
    rw [show decide (V.str i = V.str j) = decide (i = j) by rw [Bool.eq_iff_iff]; simp]
    exact q
  obtain ⟨d, e, hd, he, sd, se, hm, q⟩ := h
  obtain ⟨as, r1⟩ := Dp.reads I d x v hd rx
  obtain ⟨bs, r2⟩ := Dp.reads I e y u he ry
  exact SeqAt.compareNe_reads r1 r2 sd se (by omega) ⟨.bl _, H, I, rfl, q⟩
def eqD (M : Store) (x y : D) : Option Slot := match strP x y with
  | some b => some (.val (.bl b))
  | none => if goodD (derD M x) && goodD (derD M y) && decide (min (dpD (derD M x)) (dpD (derD M y)) ≤ 190) then some (.val (.bl (eqvD (derD M x) (derD M y)))) else none
def neD (M : Store) (x y : D) : Option Slot := match strP x y with
  | some b => some (.val (.bl !b))
  | none => if goodD (derD M x) && goodD (derD M y) && decide (min (dpD (derD M x)) (dpD (derD M y)) ≤ 190) then some (.val (.bl (!eqvD (derD M x) (derD M y)))) else none
theorem strP_at {x y : D} {b : Bool} (h : strP x y = some b) : ∃ i j, x = .str i ∧ y = .str j ∧ b = decide (i = j) := by
  unfold strP at h
  split at h
  · cases h; exact ⟨_, _, rfl, rfl, rfl⟩
  · cases h
theorem p_eq : Prim2 K (rEqW K) eqD := by
  intro w vx vy x y s Q ok rx ry h k
  unfold eqD at h
  split at h
  · rename_i b hb
    obtain ⟨i, j, rfl, rfl, rfl⟩ := strP_at hb
    cases h
    cases str_at rx
    cases str_at ry
    exact .inl ⟨i, j, rfl, rfl, ans ok k fun _ _ => .bl _⟩
  split at h
  · rename_i hc
    simp only [Bool.and_eq_true, decide_eq_true_eq] at hc
    obtain ⟨⟨h1, h2⟩, h3⟩ := hc
    cases h
    refine .inr ⟨_, _, rx.dp ok h1, ry.dp ok h2, lay_py _ h1, lay_py _ h2, by rw [dp_py _ h1, dp_py _ h2]; exact h3, ?_⟩
    rw [eqv_py _ _ h1 h2]
    exact ans ok k fun _ _ => .bl _
  · cases h
theorem p_ne : Prim2 K (rNeW K) neD := by
  intro w vx vy x y s Q ok rx ry h k
  unfold neD at h
  split at h
  · rename_i b hb
    obtain ⟨i, j, rfl, rfl, rfl⟩ := strP_at hb
    cases h
    cases str_at rx
    cases str_at ry
    exact .inl ⟨i, j, rfl, rfl, ans ok k fun _ _ => .bl _⟩
  split at h
  · rename_i hc
    simp only [Bool.and_eq_true, decide_eq_true_eq] at hc
    obtain ⟨⟨h1, h2⟩, h3⟩ := hc
    cases h
    refine .inr ⟨_, _, rx.dp ok h1, ry.dp ok h2, lay_py _ h1, lay_py _ h2, by rw [dp_py _ h1, dp_py _ h2]; exact h3, ?_⟩
    rw [eqv_py _ _ h1 h2]
    exact ans ok k fun _ _ => .bl _
  · cases h
/-! ### is -/
def isD (_ : Store) (x y : D) : Option Slot := match x, y with
  | .non, .non => some (.val (.bl true))
  | _, .non => some (.val (.bl false))
  | .bl a, .bl b => some (.val (.bl (decide (a = b))))
  | _, _ => none
def isntD (_ : Store) (x y : D) : Option Slot := match x, y with
  | .non, .non => some (.val (.bl false))
  | _, .non => some (.val (.bl true))
  | .bl a, .bl b => some (.val (.bl (!decide (a = b))))
  | _, _ => none
def rIsA : R2 := fun x y H Q => (y = .non ∧ Q (.bl (decide (x = .non))) H) ∨ rIsB x y H Q
def rIsntA : R2 := fun x y H Q => (y = .non ∧ Q (.bl (!decide (x = .non))) H) ∨ rNotB x y H Q
theorem op_isA : OpR X (compareOp .Is) rIsA := op_isN.or op_isBl
theorem op_isntA : OpR X (compareOp .IsNot) rIsntA := op_notN.or op_notBl
theorem non_iff {w : Wd} {v : V} {x : D} (r : RepB K w v x) (h : x ≠ .non) : v ≠ .non := fun e => by
  subst e
  rcases r with r | ⟨p, _, _, e, _⟩
  · cases r; exact h rfl
  · cases e
theorem p_is : Prim2 K rIsA isD := by
  intro w vx vy x y s Q ok rx ry h k
  unfold isD at h
  split at h
  · cases h
    cases non_at rx
    cases non_at ry
    exact .inl ⟨rfl, ans ok k fun _ _ => .bl _⟩
  · rename_i hx
    cases h
    cases non_at ry
    refine .inl ⟨rfl, ?_⟩
    rw [decide_eq_false (non_iff rx (fun e => hx e))]
    exact ans ok k fun _ _ => .bl _
  · cases h
    cases bl_at rx
    cases bl_at ry
    exact .inr ⟨_, _, rfl, rfl, ans ok k fun _ _ => .bl _⟩
  · cases h
theorem p_isnt : Prim2 K rIsntA isntD := by
  intro w vx vy x y s Q ok rx ry h k
  unfold isntD at h
  split at h
  · cases h
    cases non_at rx
    cases non_at ry
    exact .inl ⟨rfl, ans ok k fun _ _ => .bl _⟩
  · rename_i hx
    cases h
    cases non_at ry
    refine .inl ⟨rfl, ?_⟩
    rw [decide_eq_false (non_iff rx (fun e => hx e))]
    exact ans ok k fun _ _ => .bl _
  · cases h
    cases bl_at rx
    cases bl_at ry
    exact .inr ⟨_, _, rfl, rfl, ans ok k fun _ _ => .bl _⟩
  · cases h
end
end TP
/-! TPg: more built-in things; the store; a def's entry. -/
namespace TP
open PySem PySem.Spec PyProof.Rows L2
section
variable {K : PySem.W.Frag} {E : Wish} {X : Cx} {e : Expr}
/-! ### subscripts -/
def idxD (M : Store) (x y : D) : Option Slot := match x, y with
  | .tup ds, .int i => (atI ds i).map Slot.val
  | .kt ds, .int i => (atI ds i).map Slot.val
  | .str z, .int i => if z.length ≤ sizeLine then (atI z.cps.toList i).map fun c => .val (.str ⟨#[c]⟩) else none
  | x, .int i => match seqOf M x with
    | some ds => (atI ds i).map Slot.val
    | none => none
  | _, _ => none
theorem RepL.atI {A : List Addr} {G : Hp} {vs : List V} {ds : List D} {i : Int} {d : D} (h : RepL K A G vs ds) (e : atI ds i = some d) : ∃ v, L2.atI vs i = some v ∧ Rep K A G v d := by
  unfold L2.atI at e ⊢
  rw [h.length]
  cases q : ixN ds.length i with
  | none => rw [q] at e; cases e
  | some j => rw [q] at e; exact h.get e
theorem p_idx : Prim2 K (rIx K) idxD := by
  intro w vx vy x y s Q ok rx ry h k
  unfold idxD at h
  split at h
  · rename_i ds i
    cases q : L2.atI ds i with
    | none => rw [q] at h; cases h
    | some d =>
      rw [q] at h
      cases h
      obtain ⟨p, vs, rfl, hs, rl⟩ := tup_at ok rx
      cases int_at ry
      obtain ⟨v, hv, rv⟩ := rl.atI q
      exact .inr (.inl ⟨p, vs, i, v, rfl, rfl, hs, hv, k v w (Step.refl ok) rfl rv⟩)
  · rename_i ds i
    cases q : L2.atI ds i with
    | none => rw [q] at h; cases h
    | some d =>
      rw [q] at h
      cases h
      obtain ⟨p, vs, rfl, hs, rl⟩ := kt_at ok rx
      cases int_at ry
      obtain ⟨v, hv, rv⟩ := rl.atI q
      exact .inr (.inl ⟨p, vs, i, v, rfl, rfl, hs, hv, k v w (Step.refl ok) rfl rv⟩)
  · split at h
    · rename_i z i hz
      cases q : L2.atI z.cps.toList i with
      | none => rw [q] at h; cases h
      | some c =>
        rw [q] at h
        cases h
        cases str_at rx
        cases int_at ry
        exact .inr (.inr ⟨z, i, c, rfl, rfl, hz, q, ans ok k fun _ _ => .str _⟩)
    · cases h
  · rename_i i _ _ _
    split at h
    · rename_i ds e1
      cases q : L2.atI ds i with
      | none => rw [q] at h; cases h
      | some d =>
        rw [q] at h
        cases h
        obtain ⟨p, vs, rfl, hs, rl⟩ := seq_at ok rx e1
        cases int_at ry
        obtain ⟨v, hv, rv⟩ := rl.atI q
        exact .inl ⟨p, vs, i, v, rfl, rfl, hs, hv, k v w (Step.refl ok) rfl rv⟩
    · cases h
  · cases h
theorem x_ix {fa fb : FD} (h : PE X e (tOp (rIx K) (tR K E fa) (tR K E fb))) : PE X e (tE K E (dOp2 idxD fa fb)) := x_op2 h p_idx
/-! ### slices -/
def cutD (xs : List D) (lo hi : Option Int) : List D := (xs.drop (HT.sIx xs.length 0 lo)).take (HT.sIx xs.length xs.length hi - HT.sIx xs.length 0 lo)
theorem RepL.cut {A : List Addr} {G : Hp} {vs : List V} {ds : List D} (h : RepL K A G vs ds) (lo hi : Option Int) : RepL K A G (cutV vs lo hi) (cutD ds lo hi) := by
  unfold cutV cutD
  rw [h.length]
  exact (h.drop _).take _
def slD (M : Store) (x : D) (lo hi : Option Int) : Option Slot := match x with
  | .tup ds => some (.val (.tup (cutD ds lo hi)))
  | .str z => if z.length ≤ sizeLine then some (.val (.str (cutS z lo hi))) else none
  | x => match seqOf M x with
    | some ds => some (.own (cutD ds lo hi))
    | none => none
def rSlA3 (K : PySem.W.Frag) : V → Option Int → Option Int → Hp → VK → Prop := fun x lo hi H Q => rSlA K x lo hi H Q ∨ rSlS x lo hi H Q ∨ rSlL K x lo hi H Q
theorem sl_A3 : SlR X (rSlA3 X.K) := sl_tupA.or (sl_str.or sl_list)
theorem p_sl : PrimS K (rSlA3 K) slD := by
  intro w vx x lo hi s Q ok rx h k
  unfold slD at h
  split at h
  · rename_i ds
    cases h
    obtain ⟨p, vs, rfl, hs, rl⟩ := tup_at ok rx
    refine .inl ⟨p, vs, rfl, hs, fun hw => ?_, fun _ q hq => ?_⟩
    · have e : cutD ds lo hi = ds := by
        unfold cutD
        rw [← rl.length, hw.1, hw.2, List.drop_zero, Nat.sub_zero, rl.length, List.take_length]
      rw [e] at k
      rcases rx with rx | ⟨_, _, _, _, e, _⟩
      · exact k _ w (Step.refl ok) rfl rx
      · cases e
    · have st := ok.fresh hq (.tup (cutV vs lo hi))
      exact k _ _ st rfl (.tup upd_same (st.repL (rl.cut lo hi)))
  · split at h
    · rename_i hz
      cases h
      cases str_at rx
      exact .inr (.inl ⟨_, rfl, hz, ans ok k fun _ _ => .str _⟩)
    · cases h
  · split at h
    · rename_i e1
      cases h
      obtain ⟨p, vs, rfl, hs, rl⟩ := seq_at ok rx e1
      refine .inr (.inr ⟨p, vs, rfl, hs, fun q hq => ?_⟩)
      exact k _ _ (ok.fresh0 hq _) rfl (own_new (Step.refl ok) hq (rl.cut lo hi))
    · cases h
/-! ### in -/
def flatD : D → Bool
  | .non => true
  | .bl _ => true
  | .int _ => true
  | .str _ => true
  | _ => false
def elemsD (M : Store) : D → Option (List D)
  | .tup ds => some ds
  | .kt ds => some ds
  | x => seqOf M x
theorem elems_at {w : Wd} (ok : w.Ok K) {v : V} {x : D} {ds : List D} (r : RepB K w v x) (h : elemsD w.M x = some ds) : ∃ p vs, v = .ref p ∧ (SqL K w.H p vs ∨ SqT K w.H p vs) ∧ RepL K w.A w.G vs ds := by
  by_cases hf : ∃ es, x = .tup es
  · obtain ⟨es, rfl⟩ := hf
    cases h
    obtain ⟨p, vs, e, h1, h2⟩ := tup_at ok r
    exact ⟨p, vs, e, .inr h1, h2⟩
  by_cases hk : ∃ es, x = .kt es
  · obtain ⟨es, rfl⟩ := hk
    cases h
    obtain ⟨p, vs, e, h1, h2⟩ := kt_at ok r
    exact ⟨p, vs, e, .inr h1, h2⟩
  · have h' : seqOf w.M x = some ds := by
      cases x <;> first | exact h | exact absurd ⟨_, rfl⟩ hf | exact absurd ⟨_, rfl⟩ hk
    obtain ⟨p, vs, e, h1, h2⟩ := seq_at ok r h'
    exact ⟨p, vs, e, .inl h1, h2⟩
def inStr (i j : Str) : Bool := !(Builtin.Str.occurrences j i 0 j.length 1).isEmpty
def inD (M : Store) (x y : D) : Option Slot := match x, y with
  | .str i, .str j => some (.val (.bl (inStr i j)))
  | x, y => match elemsD M y with
    | some ds => if flatD x && ds.all flatD then some (.val (.bl (ds.any fun d => eqvD d x))) else none
    | none => none
def notInD (M : Store) (x y : D) : Option Slot := match x, y with
  | .str i, .str j => some (.val (.bl (!inStr i j)))
  | x, y => match elemsD M y with
    | some ds => if flatD x && ds.all flatD then some (.val (.bl (!ds.any fun d => eqvD d x))) else none
    | none => none
def rInA (K : PySem.W.Frag) : R2 := fun x y H Q => (∃ i j, x = .str i ∧ y = .str j ∧ Q (.bl (!(Builtin.Str.occurrences j i 0 j.length 1).isEmpty)) H) ∨ rIn K false x y H Q
def rNotInA (K : PySem.W.Frag) : R2 := fun x y H Q => (∃ i j, x = .str i ∧ y = .str j ∧ Q (.bl (!(!(Builtin.Str.occurrences j i 0 j.length 1).isEmpty))) H) ∨ rIn K true x y H Q
theorem op_inA : OpR X (compareOp .In) (rInA X.K) := op_in_str.or op_in_seq
theorem op_notInA : OpR X (compareOp .NotIn) (rNotInA X.K) := op_notin_str.or op_notIn_seq
theorem flat_at {A : List Addr} {G : Hp} {v : V} {d : D} (r : Rep K A G v d) (h : flatD d = true) : flatV v = true ∧ ∀ {v' : V} {d' : D}, Rep K A G v' d' → flatD d' = true → eqV v v' = eqvD d d' := by
  cases r with
  | non => exact ⟨rfl, fun r' h' => by cases r' <;> first | (cases h'; done) | simp [eqV, eqvD]⟩
  | bl b => exact ⟨rfl, fun r' h' => by cases r' <;> first | (cases h'; done) | simp [eqV, eqvD]⟩
  | int i => exact ⟨rfl, fun r' h' => by cases r' <;> first | (cases h'; done) | simp [eqV, eqvD]⟩
  | str z => exact ⟨rfl, fun r' h' => by cases r' <;> first | (cases h'; done) | simp [eqV, eqvD]⟩
  | _ => cases h
theorem flats_at {A : List Addr} {G : Hp} {v : V} {d : D} (r : Rep K A G v d) (h : flatD d = true) : ∀ {vs : List V} {ds : List D}, RepL K A G vs ds → ds.all flatD = true → vs.all flatV = true ∧ inV v vs = ds.any fun z => eqvD z d
  | [], [], _, _ => ⟨rfl, rfl⟩
  | v1 :: vs, d1 :: ds, .cons r1 rl, hs => by
    simp only [List.all_cons, Bool.and_eq_true] at hs
    obtain ⟨a, b⟩ := flats_at r h rl hs.2
    obtain ⟨c, f⟩ := flat_at r1 hs.1
    refine ⟨by simp only [List.all_cons, c, a, Bool.and_self], ?_⟩
    unfold inV at b ⊢
    rw [List.any_cons, List.any_cons, b, f r h]
theorem flatB {w : Wd} {v : V} {x : D} (r : RepB K w v x) (h : flatD x = true) : Rep K w.A w.G v x := by
  rcases r with r | ⟨_, _, _, _, rfl, _⟩
  · exact r
  · cases h
theorem p_in : Prim2 K (rInA K) inD := by
  intro w vx vy x y s Q ok rx ry h k
  unfold inD at h
  split at h
  · cases h
    cases str_at rx
    cases str_at ry
    exact .inl ⟨_, _, rfl, rfl, ans ok k fun _ _ => .bl _⟩
  · split at h
    · rename_i ds e1
      split at h
      · rename_i hc
        simp only [Bool.and_eq_true] at hc
        cases h
        obtain ⟨p, vs, rfl, hs, rl⟩ := elems_at ok ry e1
        have r := flatB rx hc.1
        obtain ⟨a, b⟩ := flats_at r hc.1 rl hc.2
        refine .inr ⟨p, vs, rfl, hs, (flat_at r hc.1).1, a, ?_⟩
        rw [b]
        exact ans ok k fun _ _ => .bl _
      · cases h
    · cases h
theorem p_notIn : Prim2 K (rNotInA K) notInD := by
  intro w vx vy x y s Q ok rx ry h k
  unfold notInD at h
  split at h
  · cases h
    cases str_at rx
    cases str_at ry
    exact .inl ⟨_, _, rfl, rfl, ans ok k fun _ _ => .bl _⟩
  · split at h
    · rename_i ds e1
      split at h
      · rename_i hc
        simp only [Bool.and_eq_true] at hc
        cases h
        obtain ⟨p, vs, rfl, hs, rl⟩ := elems_at ok ry e1
        have r := flatB rx hc.1
        obtain ⟨a, b⟩ := flats_at r hc.1 rl hc.2
        refine .inr ⟨p, vs, rfl, hs, (flat_at r hc.1).1, a, ?_⟩
        rw [b]
        exact ans ok k fun _ _ => .bl _
      · cases h
    · cases h
/-! ### len, min, max, int, list, tuple -/
def lenD (M : Store) (ds : List D) : Option Slot := match ds with
  | [.str z] => if z.length ≤ sizeLine then some (.val (.int z.length)) else none
  | [x] => match elemsD M x with
    | some es => some (.val (.int es.length))
    | none => none
  | _ => none
def rLenA (K : PySem.W.Frag) : List V → Hp → VK → Prop := fun xs H Q => (∃ p ys, xs = [.ref p] ∧ (SqL K H p ys ∨ SqT K H p ys) ∧ Q (.int ys.length) H) ∨ ∃ z, xs = [.str z] ∧ z.length ≤ sizeLine ∧ Q (.int z.length) H
theorem call_lenA : CallR X (.builtin "len") (rLenA X.K) := call_len_seq.or call_len_str
theorem p_len : PrimN K (rLenA K) lenD := by
  intro w vs ds s Q ok rl h k
  unfold lenD at h
  split at h
  · split at h
    · rename_i hz
      cases h
      obtain ⟨v, rfl, rv⟩ := rl.one
      cases str_at rv
      exact .inr ⟨_, rfl, hz, ans ok k fun _ _ => .int _⟩
    · cases h
  · split at h
    · rename_i es e1
      cases h
      obtain ⟨v, rfl, rv⟩ := rl.one
      obtain ⟨p, us, rfl, hs, r⟩ := elems_at ok rv e1
      refine .inl ⟨p, us, rfl, hs, ?_⟩
      rw [r.length]
      exact ans ok k fun _ _ => .int _
    · cases h
  · cases h
def min2D (_ : Store) (ds : List D) : Option Slot := match ds with
  | [.int i, .int j] => some (.val (.int (if j < i then j else i)))
  | _ => none
def max2D (_ : Store) (ds : List D) : Option Slot := match ds with
  | [.int i, .int j] => some (.val (.int (if j > i then j else i)))
  | _ => none
theorem p_min2 : PrimN K (fun xs H Q => ∃ i j, xs = [.int i, .int j] ∧ Q (.int (if j < i then j else i)) H) min2D := by
  intro w vs ds s Q ok rl h k
  unfold min2D at h
  split at h
  · cases h
    obtain ⟨v, v', rfl, rv, rv'⟩ := rl.two
    cases int_at rv
    cases int_at rv'
    exact ⟨_, _, rfl, ans ok k fun _ _ => .int _⟩
  · cases h
theorem p_max2 : PrimN K (fun xs H Q => ∃ i j, xs = [.int i, .int j] ∧ Q (.int (if j > i then j else i)) H) max2D := by
  intro w vs ds s Q ok rl h k
  unfold max2D at h
  split at h
  · cases h
    obtain ⟨v, v', rfl, rv, rv'⟩ := rl.two
    cases int_at rv
    cases int_at rv'
    exact ⟨_, _, rfl, ans ok k fun _ _ => .int _⟩
  · cases h
def intD (_ : Store) (ds : List D) : Option Slot := match ds with
  | [.int i] => some (.val (.int i))
  | [.bl b] => some (.val (.int (if b then 1 else 0)))
  | _ => none
theorem p_int : PrimN K (fun xs H Q => (∃ i, xs = [.int i] ∧ Q (.int i) H) ∨ ∃ k, xs = [.bl k] ∧ Q (.int (if k then 1 else 0)) H) intD := by
  intro w vs ds s Q ok rl h k
  unfold intD at h
  split at h
  · cases h
    obtain ⟨v, rfl, rv⟩ := rl.one
    cases int_at rv
    exact .inl ⟨_, rfl, ans ok k fun _ _ => .int _⟩
  · cases h
    obtain ⟨v, rfl, rv⟩ := rl.one
    cases bl_at rv
    exact .inr ⟨_, rfl, ans ok k fun _ _ => .int _⟩
  · cases h
def absD (_ : Store) (ds : List D) : Option Slot := match ds with
  | [.int i] => some (.val (.int (if i < 0 then -i else i)))
  | _ => none
theorem p_abs : PrimN K (fun xs H Q => ∃ i, xs = [.int i] ∧ Q (.int (if i < 0 then -i else i)) H) absD := by
  intro w vs ds s Q ok rl h k
  unfold absD at h
  split at h
  · cases h
    obtain ⟨v, rfl, rv⟩ := rl.one
    cases int_at rv
    exact ⟨_, rfl, ans ok k fun _ _ => .int _⟩
  · cases h
def listD (M : Store) (ds : List D) : Option Slot := match ds with
  | [x] => (elemsD M x).map Slot.own
  | _ => none
theorem p_list : PrimN K (fun xs H Q => ∃ p ys, xs = [.ref p] ∧ (SqL K H p ys ∨ SqT K H p ys) ∧ ∀ l, H l = none → Q (.ref l) (upd H l (.lst ys))) listD := by
  intro w vs ds s Q ok rl h k
  unfold listD at h
  split at h
  · rename_i x
    cases q : elemsD w.M x with
    | none => rw [q] at h; cases h
    | some es =>
      rw [q] at h
      cases h
      obtain ⟨v, rfl, rv⟩ := rl.one
      obtain ⟨p, us, rfl, hs, r⟩ := elems_at ok rv q
      exact ⟨p, us, rfl, hs, fun l hl => k _ _ (ok.fresh0 hl _) rfl (own_new (Step.refl ok) hl r)⟩
  · cases h
def tupleD (M : Store) (ds : List D) : Option Slot := match ds with
  | [.tup es] => some (.val (.tup es))
  | [x] => (seqOf M x).map fun es => .val (.tup es)
  | _ => none
theorem p_tuple : PrimN K (fun xs H Q => ∃ p ys, xs = [.ref p] ∧ ((SqL K H p ys ∧ ∀ l, H l = none → Q (.ref l) (upd H l (.tup ys))) ∨ (SqT K H p ys ∧ Q (.ref p) H))) tupleD := by
  intro w vs ds s Q ok rl h k
  unfold tupleD at h
  split at h
  · cases h
    obtain ⟨v, rfl, rv⟩ := rl.one
    obtain ⟨p, us, rfl, hs, r⟩ := tup_at ok rv
    rcases rv with rv | ⟨_, _, _, _, e, _⟩
    · exact ⟨p, us, rfl, .inr ⟨hs, k _ w (Step.refl ok) rfl rv⟩⟩
    · cases e
  · rename_i x _
    cases q : seqOf w.M x with
    | none => rw [q] at h; cases h
    | some es =>
      rw [q] at h
      cases h
      obtain ⟨v, rfl, rv⟩ := rl.one
      obtain ⟨p, us, rfl, hs, r⟩ := seq_at ok rv q
      refine ⟨p, us, rfl, .inl ⟨hs, fun l hl => ?_⟩⟩
      have st := ok.fresh hl (.tup us)
      exact k _ _ st rfl (.tup upd_same (st.repL r))
  · cases h
/-! ### all, any, sum of lists of bools, ints -/
def blsOf : List D → Option (List Bool)
  | [] => some []
  | .bl b :: ds => (blsOf ds).map (b :: ·)
  | _ => none
def intsOf : List D → Option (List Int)
  | [] => some []
  | .int b :: ds => (intsOf ds).map (b :: ·)
  | _ => none
theorem bls_at {A : List Addr} {G : Hp} : ∀ {ds : List D} {vs : List V} {bs : List Bool}, RepL K A G vs ds → blsOf ds = some bs → vs = bs.map V.bl
  | [], _, _, r, h => by cases r; cases h; rfl
  | .bl b :: ds, _, bs, r, h => by
    cases r with
    | cons r1 r2 =>
      simp only [blsOf] at h
      cases q : blsOf ds with
      | none => rw [q] at h; cases h
      | some cs =>
        rw [q] at h
        cases h
        cases r1
        rw [bls_at r2 q]
        rfl
  | .non :: _, _, _, _, h => by cases h
  | .int _ :: _, _, _, _, h => by cases h
  | .str _ :: _, _, _, _, h => by cases h
  | .tup _ :: _, _, _, _, h => by cases h
  | .lst _ :: _, _, _, _, h => by cases h
  | .fro _ :: _, _, _, _, h => by cases h
  | .kt _ :: _, _, _, _, h => by cases h
  | .ref _ :: _, _, _, _, h => by cases h
theorem ints_at {A : List Addr} {G : Hp} : ∀ {ds : List D} {vs : List V} {bs : List Int}, RepL K A G vs ds → intsOf ds = some bs → vs = bs.map V.int
  | [], _, _, r, h => by cases r; cases h; rfl
  | .int b :: ds, _, bs, r, h => by
    cases r with
    | cons r1 r2 =>
      simp only [intsOf] at h
      cases q : intsOf ds with
      | none => rw [q] at h; cases h
      | some cs =>
        rw [q] at h
        cases h
        cases r1
        rw [ints_at r2 q]
        rfl
  | .non :: _, _, _, _, h => by cases h
  | .bl _ :: _, _, _, _, h => by cases h
  | .str _ :: _, _, _, _, h => by cases h
  | .tup _ :: _, _, _, _, h => by cases h
  | .lst _ :: _, _, _, _, h => by cases h
  | .fro _ :: _, _, _, _, h => by cases h
  | .kt _ :: _, _, _, _, h => by cases h
  | .ref _ :: _, _, _, _, h => by cases h
def allD (M : Store) (ds : List D) : Option Slot := match ds with
  | [x] => match seqOf M x with
    | some es => (blsOf es).map fun bs => .val (.bl (bs.all id))
    | none => none
  | _ => none
def anyD (M : Store) (ds : List D) : Option Slot := match ds with
  | [x] => match seqOf M x with
    | some es => (blsOf es).map fun bs => .val (.bl (bs.any id))
    | none => none
  | _ => none
def sumD (M : Store) (ds : List D) : Option Slot := match ds with
  | [x] => match seqOf M x with
    | some es => (intsOf es).map fun bs => .val (.int bs.sum)
    | none => none
  | _ => none
theorem p_all : PrimN K (rAll K) allD := by
  intro w vs ds s Q ok rl h k
  unfold allD at h
  split at h
  · split at h
    · rename_i es e1
      cases q : blsOf es with
      | none => rw [q] at h; cases h
      | some bs =>
        rw [q] at h
        cases h
        obtain ⟨v, rfl, rv⟩ := rl.one
        obtain ⟨p, us, rfl, hs, r⟩ := seq_at ok rv e1
        cases bls_at r q
        exact ⟨p, bs, rfl, hs, ans ok k fun _ _ => .bl _⟩
    · cases h
  · cases h
theorem p_any : PrimN K (rAny K) anyD := by
  intro w vs ds s Q ok rl h k
  unfold anyD at h
  split at h
  · split at h
    · rename_i es e1
      cases q : blsOf es with
      | none => rw [q] at h; cases h
      | some bs =>
        rw [q] at h
        cases h
        obtain ⟨v, rfl, rv⟩ := rl.one
        obtain ⟨p, us, rfl, hs, r⟩ := seq_at ok rv e1
        cases bls_at r q
        exact ⟨p, bs, rfl, hs, ans ok k fun _ _ => .bl _⟩
    · cases h
  · cases h
theorem p_sum : PrimN K (rSum K) sumD := by
  intro w vs ds s Q ok rl h k
  unfold sumD at h
  split at h
  · split at h
    · rename_i es e1
      cases q : intsOf es with
      | none => rw [q] at h; cases h
      | some bs =>
        rw [q] at h
        cases h
        obtain ⟨v, rfl, rv⟩ := rl.one
        obtain ⟨p, us, rfl, hs, r⟩ := seq_at ok rv e1
        cases ints_at r q
        exact ⟨p, bs, rfl, hs, ans ok k fun _ _ => .int _⟩
    · cases h
  · cases h
/-! ### texts -/
def upperD (_ : Store) (x : D) (ds : List D) : Option Slot := match x, ds with
  | .str a, [] => if a.length ≤ 5592405 then some (.val (.str (Txt.upper a))) else none
  | _, _ => none
theorem p_upper : PrimM K (fun x xs H Q => ∃ a, x = .str a ∧ xs = [] ∧ a.length ≤ 5592405 ∧ Q (.str (Txt.upper a)) H) upperD := by
  intro w vx x vs ds s Q ok rx rl h k
  unfold upperD at h
  split at h
  · split at h
    · rename_i hz
      cases h
      cases str_at rx
      cases rl
      exact ⟨_, rfl, rfl, hz, ans ok k fun _ _ => .str _⟩
    · cases h
  · cases h
def strsOf : List D → Option (List Str)
  | [] => some []
  | .str b :: ds => (strsOf ds).map (b :: ·)
  | _ => none
theorem strs_at {A : List Addr} {G : Hp} : ∀ {ds : List D} {vs : List V} {bs : List Str}, RepL K A G vs ds → strsOf ds = some bs → vs = bs.map V.str
  | [], _, _, r, h => by cases r; cases h; rfl
  | .str b :: ds, _, bs, r, h => by
    cases r with
    | cons r1 r2 =>
      simp only [strsOf] at h
      cases q : strsOf ds with
      | none => rw [q] at h; cases h
      | some cs =>
        rw [q] at h
        cases h
        cases r1
        rw [strs_at r2 q]
        rfl
  | .non :: _, _, _, _, h => by cases h
  | .bl _ :: _, _, _, _, h => by cases h
  | .int _ :: _, _, _, _, h => by cases h
  | .tup _ :: _, _, _, _, h => by cases h
  | .lst _ :: _, _, _, _, h => by cases h
  | .fro _ :: _, _, _, _, h => by cases h
  | .kt _ :: _, _, _, _, h => by cases h
  | .ref _ :: _, _, _, _, h => by cases h
def joinD (M : Store) (x : D) (ds : List D) : Option Slot := match x, ds with
  | .str a, [y] => match elemsD M y with
    | some es => match strsOf es with
      | some ys => if (ys.map (·.length)).sum + ys.length * a.length ≤ 16777216 then some (.val (.str (Txt.join a ys))) else none
      | none => none
    | none => none
  | _, _ => none
theorem p_join : PrimM K (fun x xs H Q => ∃ a p, ∃ ys : List Str, x = .str a ∧ xs = [.ref p] ∧ (SqL K H p (ys.map V.str) ∨ SqT K H p (ys.map V.str)) ∧ (ys.map (·.length)).sum + ys.length * a.length ≤ 16777216 ∧ Q (.str (Txt.join a ys)) H) joinD := by
  intro w vx x vs ds s Q ok rx rl h k
  unfold joinD at h
  split at h
  · split at h
    · rename_i es e1
      split at h
      · rename_i ys e2
        split at h
        · rename_i hz
          cases h
          cases str_at rx
          obtain ⟨v, rfl, rv⟩ := rl.one
          obtain ⟨p, us, rfl, hs, r⟩ := elems_at ok rv e1
          cases strs_at r e2
          exact ⟨_, p, ys, rfl, rfl, hs, hz, ans ok k fun _ _ => .str _⟩
        · cases h
      · cases h
    · cases h
  · cases h
/-! ### isinstance with a built-in class -/
def clsD (M : Store) : D → Option String
  | .non => some "NoneType"
  | .bl _ => some "bool"
  | .int _ => some "int"
  | .str _ => some "str"
  | .tup _ => some "tuple"
  | .lst _ => some "list"
  | .fro _ => none
  | .kt _ => some "tuple"
  | .fn _ => none
  | .ref k => match M[k]? with
    | some (.lst _) => some "list"
    | some (.dK _) => some "dict"
    | some (.dT _) => some "dict"
    | _ => none
theorem cls_at {w : Wd} (ok : w.Ok K) {v : V} {x : D} {T : String} (r : RepB K w v x) (h : clsD w.M x = some T) : TyX K w.H v (.type T) := by
  cases x with
  | non => cases non_at r; cases h; exact .base .non
  | bl b => cases bl_at r; cases h; exact .base (.bl b)
  | int b => cases int_at r; cases h; exact .base (.int b)
  | str b => cases str_at r; cases h; exact .base (.str b)
  | tup ds =>
    cases h
    obtain ⟨p, vs, rfl, hs, rl⟩ := tup_at ok r
    rcases hs with (hs | ⟨o, hs⟩) | ⟨o, its, n, hk, hc, _⟩
    · exact .base (.tup hs)
    · exact .fTuple hs
    · exact .kTuple hk hc
  | lst ds =>
    cases h
    obtain ⟨p, vs, rfl, hs, rl⟩ := lst_at (ds := ds) ok r rfl
    exact .base (.lst hs)
  | fro ds => cases h
  | fn c => cases h
  | kt ds =>
    cases h
    obtain ⟨p, vs, rfl, hs, rl⟩ := kt_at ok r
    rcases hs with (hs | ⟨o, hs⟩) | ⟨o, its, n, hk, hc, _⟩
    · exact .base (.tup hs)
    · exact .fTuple hs
    · exact .kTuple hk hc
  | ref k =>
    simp only [clsD] at h
    rcases r with r | ⟨p, vs, es', rfl, e, _⟩
    · cases r with
      | @ref a k ek =>
        split at h
        · rename_i ds e2
          obtain ⟨a', e3, vs, h1, h2⟩ := ok.mos k _ e2
          rw [ek] at e3; cases e3
          cases h
          exact .base (.lst h1)
        · rename_i ds e2
          obtain ⟨a', e3, vs, h1, h2⟩ := ok.mos k _ e2
          rw [ek] at e3; cases e3
          cases h
          exact .base (.dK h1)
        · rename_i ds e2
          obtain ⟨a', e3, vs, h1, h2⟩ := ok.mos k _ e2
          rw [ek] at e3; cases e3
          cases h
          exact .base (.dT h1)
        · cases h
    · cases e
/-- subclasses among these -/
def subTy (a b : String) : Bool := a == b || (a == "bool" && b == "int")
def kitTys : List String := ["NoneType", "bool", "int", "str", "tuple", "list", "dict"]
theorem kit_all : ∀ a ∈ kitTys, ∀ b ∈ ["bool", "int", "str", "tuple", "list", "dict"], kitB a b = some (subTy a b) := by decide +kernel
theorem cls_in {M : Store} {x : D} {T : String} (h : clsD M x = some T) : T ∈ kitTys := by
  cases x <;> simp only [clsD] at h <;> first | (cases h; done) | (cases h; decide) | skip
  split at h <;> first | (cases h; done) | (cases h; decide)
def isiD (T : String) (M : Store) (x : D) : Option Slot := (clsD M x).map fun c => .val (.bl (subTy c T))
/-- isinstance(e, T) -/
def tIsi (T : String) (K : PySem.W.Frag) (t : TE) : TE := tCB (rIsi K) (tCons t (tCons (tC (.ty T)) tNil))
theorem x_isi {T : String} (hT : T ∈ ["bool", "int", "str", "tuple", "list", "dict"]) {f : FD} (h : PE X e (tIsi T K (tR K E f))) : PE X e (tE K E (dOp1 (isiD T) f)) := PE.wk h fun σ H Q ⟨ρ, w, e1, ok, sr, a⟩ =>
  ⟨ρ, w, e1, ok, sr, a.bind.imp fun x w1 s1 a1 v rv => by
    obtain ⟨s, es, k⟩ := fin_of s1 a1
    unfold isiD at es
    cases q : clsD w1.M x with
    | none => rw [q] at es; cases es
    | some c =>
      rw [q] at es
      cases es
      exact ⟨v, .ty T, .type c, .type T, subTy c T, rfl, .ty T, cls_at s1.ok rv q, kit_ty (kit_all c (cls_in q) T hT), ans s1.ok k fun _ _ => .bl _⟩⟩
/-! ### the store -/
/-- a list of one's own comes into the store -/
def dRef (f : FE) : FE := fun ρ M => (f ρ M).bind fun x M => match x with
  | .own ds => .ok (.val (.ref M.length)) (M ++ [.lst ds])
  | _ => .bad
theorem Wd.Ok.push {w : Wd} (h : w.Ok K) {p : Addr} {o : MO} (hG : w.G p = none) (hA : p ∉ w.A) (hm : MoR K w p o) : (⟨w.A ++ [p], w.G, w.M ++ [o], w.H⟩ : Wd).Ok K := by
  have up : ∀ {a : Addr} {m : MO}, MoR K w a m → MoR K ⟨w.A ++ [p], w.G, w.M ++ [o], w.H⟩ a m := fun {a m} r => by
    have rr : ∀ v d, Rep K w.A w.G v d → Rep K (w.A ++ [p]) w.G v d := fun v d => Rep.mono (List.prefix_append _ _) (Same.refl _) d v
    cases m with
    | lst ds => obtain ⟨vs, z, q⟩ := r; exact ⟨vs, z, RepL.mono (List.prefix_append _ _) (Same.refl _) _ _ q⟩
    | dK ds => obtain ⟨vs, z, q⟩ := r; exact ⟨vs, z, q.imp rr⟩
    | dT ds => obtain ⟨vs, z, q⟩ := r; exact ⟨vs, z, q.imp rr⟩
    | ins c fs => obtain ⟨io, vs, dx, z, q⟩ := r; exact ⟨io, vs, dx, z, q.imp rr⟩
    | exc c d => exact exc_mono r (fun _ z => z) (List.prefix_append _ _) (Same.refl _)
  refine ⟨h.sub, ?_, by simp [h.len], fun a ha => ?_, fun k m e => ?_⟩
  · rw [List.nodup_append]
    exact ⟨h.nd, by simp, fun a ha b hb => by simp at hb; subst hb; exact fun z => hA (z ▸ ha)⟩
  · rcases List.mem_append.mp ha with ha | ha
    · exact h.out a ha
    · simp at ha; subst ha; exact hG
  · have e : (w.M ++ [o])[k]? = some m := e
    by_cases hk : k < w.M.length
    · rw [List.getElem?_append_left hk] at e
      obtain ⟨a, ea, r⟩ := h.mos k m e
      exact ⟨a, pre_get (List.prefix_append _ _) ea, up r⟩
    · rw [List.getElem?_append_right (by omega)] at e
      have hk2 : k - w.M.length = 0 := by
        have := (List.getElem?_eq_some_iff.mp e).1
        simp at this
        omega
      rw [hk2] at e
      cases e
      refine ⟨p, ?_, up hm⟩
      show (w.A ++ [p])[k]? = some p
      have hl := h.len
      rw [List.getElem?_append_right (by omega), show k - w.A.length = 0 by omega]
      rfl
theorem x_ref {f : FE} (h : PE X e (tE K E f)) : PE X e (tE K E (dRef f)) := PE.wk h fun σ H Q ⟨ρ, w, e1, ok, sr, a⟩ =>
  ⟨ρ, w, e1, ok, sr, by
    unfold dRef at a
    cases q : f ρ w.M with
    | bad => rw [q] at a; exact a
    | exc c d M => rw [q] at a; exact a
    | ok x M =>
      rw [q] at a
      cases x with
      | un => exact a.elim
      | val d => exact a.elim
      | own ds =>
        intro w1 s1 eM v rv
        obtain ⟨p, vs, rfl, h0, hH, hG, hA, rl⟩ := rv
        have ok2 := s1.ok.push hG hA (show MoR K w1 p (.lst ds) from ⟨vs, hH, rl⟩)
        have a' : ∀ w', Step K w w' → w'.M = M ++ [.lst ds] → ∀ v, RepX K w w' v (.val (.ref M.length)) → Q v w'.H := a
        refine a' ⟨w1.A ++ [p], w1.G, w1.M ++ [.lst ds], w1.H⟩ ⟨ok2, s1.pre.trans (List.prefix_append _ _), s1.fro, fun b o z1 z2 z3 => ?_⟩ (by rw [eM]) _ (.ref ?_)
        · obtain ⟨c1, c2, c3⟩ := s1.keep b o z1 z2 z3
          exact ⟨c1, c2, fun hm => (List.mem_append.mp hm).elim c3 fun z => by simp at z; subst z; rw [h0] at z1; cases z1⟩
        · show (w1.A ++ [p])[M.length]? = some p
          have hl := s1.ok.len
          rw [eM] at hl
          rw [← hl, List.getElem?_append_right (Nat.le_refl _), Nat.sub_self]
          rfl⟩
/-- the k-th thing of the store is changed -/
theorem Wd.Ok.put {w : Wd} (h : w.Ok K) {k : Nat} {p : Addr} {o : MO} {ho : HO} (hk : w.A[k]? = some p) (hm : MoR K ⟨w.A, w.G, w.M.set k o, upd w.H p ho⟩ p o) : Step K w ⟨w.A, w.G, w.M.set k o, upd w.H p ho⟩ := by
  have hp : p ∈ w.A := List.mem_of_getElem? hk
  have hG : w.G p = none := h.out p hp
  have hkl : k < w.M.length := by rw [← h.len]; exact (List.getElem?_eq_some_iff.mp hk).1
  refine ⟨⟨fun b u e => ?_, h.nd, by simp [h.len], h.out, fun j m e => ?_⟩, List.prefix_refl _, Same.refl _, fun q u z1 z2 z3 => ⟨?_, .inl z2, z3⟩⟩
  · show upd w.H p ho b = some u
    rw [upd_ne (ne_of_none e hG)]
    exact h.sub b u e
  · have e : (w.M.set k o)[j]? = some m := e
    by_cases hj : k = j
    · subst hj
      rw [List.getElem?_set_self hkl] at e
      cases e
      exact ⟨p, hk, hm⟩
    · rw [List.getElem?_set_ne hj] at e
      obtain ⟨a, ea, r⟩ := h.mos j m e
      have na : a ≠ p := fun z => hj ((List.getElem?_inj (List.getElem?_eq_some_iff.mp hk).1 h.nd).mp (by rw [hk]; rw [← z]; exact ea.symm))
      refine ⟨a, ea, ?_⟩
      cases m with
      | lst ds => obtain ⟨vs, z, q⟩ := r; exact ⟨vs, by show upd w.H p ho a = _; rw [upd_ne na]; exact z, q⟩
      | dK ds => obtain ⟨vs, z, q⟩ := r; exact ⟨vs, by show upd w.H p ho a = _; rw [upd_ne na]; exact z, q⟩
      | dT ds => obtain ⟨vs, z, q⟩ := r; exact ⟨vs, by show upd w.H p ho a = _; rw [upd_ne na]; exact z, q⟩
      | ins c fs => obtain ⟨io, vs, dx, z, q⟩ := r; exact ⟨io, vs, dx, by show upd w.H p ho a = _; rw [upd_ne na]; exact z, q⟩
      | exc c d => exact exc_mono r (fun _ z => by show upd w.H p ho a = _; rw [upd_ne na]; exact z) (List.prefix_refl _) (Same.refl _)
  · show upd w.H p ho q = some u
    rw [upd_ne (fun z : q = p => z3 (z ▸ hp))]
    exact z1
/-- o[i] = e of a list of the store -/
def sPutR (f fo fi : FD) : FS := fun ρ M => (f ρ M).out fun x M => (fo ρ M).out fun o M => (fi ρ M).out fun i M => match o, i with
  | .ref k, .int j => match M[k]? with
    | some (.lst ds) => match ixN ds.length j with
      | some n => .next ρ (M.set k (.lst (ds.set n x)))
      | none => .bad
    | _ => .bad
  | _, _ => .bad
theorem ref_at {w : Wd} {v : V} {k : Nat} (r : RepB K w v (.ref k)) : ∃ a, v = .ref a ∧ w.A[k]? = some a := by
  rcases r with r | ⟨p, vs, es', rfl, e, _⟩
  · cases r with
    | ref e => exact ⟨_, rfl, e⟩
  · cases e
theorem s_putR {st : Stmt} {f fo fi : FD} (h : PS X st (tAsg (tF K E f) (gSub (tR K E fo) (tR K E fi) rSetL))) : PS X st (tS K E (sPutR f fo fi)) := PS.wk h fun D σ H ⟨ρ, w, w0, e1, s, sr, of, p⟩ =>
  ⟨ρ, w, e1, s.ok, sr, (out_after s p).imp fun x w1 s1 p1 v rv => ⟨ρ, w1, rfl, s1.ok, sr.step s1, (out_after (s.trans s1) p1).imp fun o w2 s2 p2 vo ro => ⟨ρ, w2, rfl, s2.ok, (sr.step s1).step s2, (out_after ((s.trans s1).trans s2) p2).imp fun i w3 s3 p3 vi ri => by
    split at p3
    · rename_i k j
      split at p3
      · rename_i ds e2
        split at p3
        · rename_i n en
          obtain ⟨a, rfl, ea⟩ := ref_at (ro.step s3)
          cases int_at ri
          obtain ⟨a', ea', vs, hH, rl⟩ := s3.ok.mos k _ e2
          rw [ea] at ea'
          cases ea'
          refine ⟨a, vs, j, n, rfl, rfl, hH, by rw [rl.length]; exact en, ?_⟩
          have rv3 := (s2.trans s3).rep rv
          have st3 := s3.ok.put (o := .lst (ds.set n x)) (ho := .lst (vs.set n v)) ea ⟨_, upd_same, rl.set rv3 n⟩
          have sall := ((s.trans s1).trans s2).trans s3
          exact p3 _ σ (sall.trans st3) st3.le rfl ((((sr.step s1).step s2).step s3).step st3) of
        · exact p3.elim
      · exact p3.elim
    · exact p3.elim⟩⟩⟩
/-! ### a def's entry -/
def startD (n : Nat) (ds : List D) : EnvD := ds.map Slot.val ++ List.replicate (n - ds.length) .un
theorem SR.start {w : Wd} {N : List Str} {vs : List V} {ds : List D} (rl : RepL K w.A w.G vs ds) : SR K w (startD N.length ds) (L2.start N vs) := by
  have no : ∀ (i : Nat) (es : List D), (startD N.length ds)[i]? ≠ some (.own es) := fun i es h => by
    unfold startD at h
    by_cases hi : i < (ds.map Slot.val).length
    · rw [List.getElem?_append_left hi, List.getElem?_map] at h
      cases q : ds[i]? with
      | none => rw [q] at h; cases h
      | some d => rw [q] at h; cases h
    · rw [List.getElem?_append_right (by omega), List.getElem?_replicate] at h
      split at h <;> cases h
  refine ⟨by unfold startD L2.start; simp [rl.length], fun i d h => ?_, fun i es h => absurd h (no i es), fun i j es es' p h => absurd h (no i es)⟩
  unfold startD at h
  by_cases hi : i < (ds.map Slot.val).length
  · rw [List.getElem?_append_left hi, List.getElem?_map] at h
    cases q : ds[i]? with
    | none => rw [q] at h; cases h
    | some d' =>
      rw [q] at h
      cases h
      obtain ⟨v, ev, rv⟩ := rl.get q
      refine ⟨v, ?_, rv⟩
      unfold L2.start
      rw [List.length_map] at hi
      rw [List.getElem?_append_left (by simpa [rl.length] using hi), List.getElem?_map, ev]
      rfl
  · rw [List.getElem?_append_right (by omega), List.getElem?_replicate] at h
    split at h <;> cases h
theorem OF.start (w : Wd) (n : Nat) (ds : List D) (σ : L2.St) : OF w (startD n ds) σ := fun i es p h => by
  exfalso
  unfold startD at h
  by_cases hi : i < (ds.map Slot.val).length
  · rw [List.getElem?_append_left hi, List.getElem?_map] at h
    cases q : ds[i]? with
    | none => rw [q] at h; cases h
    | some d => rw [q] at h; cases h
  · rw [List.getElem?_append_right (by omega), List.getElem?_replicate] at h
    split at h <;> cases h
def runF (n : Nat) (g : FS) : Fn := fun ds M => match g (startD n ds) M with
  | .next _ M => .ok (.val .non) M
  | .ret s M => .ok s M
  | .exc c d M => .exc c d M
  | _ => .bad
abbrev W0 : XK → Wish := fun _ => E00
/-- a def that lets no exception out -/
theorem fn_ok {P : Program} {wo : World} {mg : Str → Option Value} {base : Heap} {x qual : Str} {st : Stmt} {f : Addr} {fd : FuncData} {N ps : List Str} {k : Nat} {g : FS} (F : Fun K x qual st f fd) (S : FnScope N ps (defScope st))
    (hbody : ∀ (cdv : Value) (A : Around) (outer : List Env) (s : Shared) (H : Hp) (EX : XK), Room k (A.deeper (envOfC qual (defScope st) s.heap.objs.size f cdv)) →
      PSs (cxOf CX0 P wo K mg base N qual (defScope st) f cdv A outer s H EX).nox (defBody st) (tS K E00 g)) : FnOk P wo K mg base CX0 (k + 1) f fd ps (spD K W0 ps.length (runF N.length g)) := by
  refine F.ok S (fun vs H Q EX h => h.1) (fun cdv A outer s H vs Q EX hr h => ?_)
  refine ⟨_, hbody cdv A outer s H EX hr, ?_⟩
  obtain ⟨hl, ds, w, rfl, ok, rl, a⟩ := h
  refine ⟨startD N.length ds, w, w, rfl, Step.refl ok, SR.start rl, OF.start w _ _ _, ?_⟩
  unfold runF at a
  cases q : g (startD N.length ds) w.M with
  | next ρ M => rw [q] at a; exact fun w' σ s' _ eM _ _ => a w' s' eM .non .non
  | ret x M => rw [q] at a; exact fun w' v s' eM rv => a w' s' eM v rv
  | exc c d M => rw [q] at a; exact fun w1 s1 _ e1 => a w1 s1 e1
  | brk ρ M => rw [q] at a; exact a.elim
  | cont ρ M => rw [q] at a; exact a.elim
  | bad => rw [q] at a; exact a.elim
end
end TP
/-! TPh: chains, more statements, more walks. -/
namespace TP
open PySem L2
section
variable {K : PySem.W.Frag} {E : Wish} {X : Cx} {e : Expr} {st : Stmt}
def dChain (g g' : Store → D → D → Option Slot) (fa fb fc : FD) : FE := fun ρ M => (fa ρ M).bind fun x M => (fb ρ M).bind fun y M => match g M x y with
  | some (.val (.bl true)) => (fc ρ M).bind fun z M => R.of (g' M y z) M
  | some (.val (.bl false)) => .ok (.val (.bl false)) M
  | _ => .bad
theorem x_chain {r r' : R2} {g g' : Store → D → D → Option Slot} {fa fb fc : FD} (h : PE X e (tChain r r' (tR K E fa) (tR K E fb) (tR K E fc))) (p : Prim2 K r g) (p' : Prim2 K r' g') : PE X e (tE K E (dChain g g' fa fb fc)) := PE.wk h fun σ H Q ⟨ρ, w, e1, ok, sr, a⟩ =>
  ⟨ρ, w, e1, ok, sr, a.bind.imp fun x w1 s1 a1 vx rx => ⟨ρ, w1, rfl, s1.ok, sr.step s1, a1.bind.imp fun y w2 s2 a2 vy ry => by
    split at a2
    · rename_i eg
      refine p w2 vx vy x y _ _ s2.ok (rx.step s2) ry eg fun v w3 s3 e3 rv => ?_
      cases rv
      have s13 := (s1.trans s2).trans s3
      refine ⟨true, rfl, iteT ⟨ρ, w3, rfl, s3.ok, ((sr.step s1).step s2).step s3, ?_⟩⟩
      rw [e3]
      have a3 := a2.later s3
      exact a3.bind.imp fun z w4 s4 a4 vz rz => by
        obtain ⟨s, es, k⟩ := fin_of (s13.trans s4) a4
        exact p' w4 vy vz y z s Q s4.ok ((ry.step s3).step s4) rz es k
    · rename_i eg
      refine p w2 vx vy x y _ _ s2.ok (rx.step s2) ry eg fun v w3 s3 e3 rv => ?_
      cases rv
      exact ⟨false, rfl, iteF (a2 w3 s3 e3 _ (.bl _))⟩
    · exact a2.elim⟩⟩
/-- name = [comprehension] on one line -/
theorem s_setLc {i : Nat} {fi : FL} {b : D → EnvD → Option EnvD} {is : List Nat} {c : FB} {f : FD} {vs : List Nat} (hv : ∀ i ∈ is, i ∈ vs) (h : PS X st (tAsg (tLc (tI K E fi) (tG K b is) (tT K E00 c) (tF K E00 f) vs) (gName i))) : PS X st (tS K E (sSet i (dLc fi b c f vs))) :=
  s_set (PS.wk h fun D σ H z => lc_le hv σ H _ z)
/-- name op= e -/
def sAug (i : Nat) (g : Store → D → D → Option Slot) (f : FD) : FS := fun ρ M => match ρ[i]? with
  | some (.val x) => (f ρ M).out fun y M => match g M x y with
    | some (.val z) => .next (ρ.set i (.val z)) M
    | _ => .bad
  | _ => .bad
/-- what op= does by values, for plain data that is not changed in place -/
def PrimI (K : PySem.W.Frag) (r : TIp) (g : Store → D → D → Option Slot) : Prop := ∀ (w : Wd) (vx vy : V) (x y z : D) (Q : VK), w.Ok K → Rep K w.A w.G vx x → RepB K w vy y → g w.M x y = some (.val z) →
  (∀ v w', Step K w w' → w'.M = w.M → Rep K w'.A w'.G v z → Q v w'.H) → r vx vy w.H Q
theorem s_aug {i : Nat} {r : TIp} {g : Store → D → D → Option Slot} {f : FD} (h : PS X st (tAug i (tR K E f) r)) (p : PrimI K r g) : PS X st (tS K E (sAug i g f)) := PS.wk h fun D σ H ⟨ρ, w, w0, e1, s, sr, of, q⟩ => by
  subst e1
  unfold sAug at q
  split at q
  · rename_i x e2
    obtain ⟨v, h1, h2⟩ := sr.val i x e2
    refine ⟨v, h1, ρ, w, rfl, s.ok, sr, (out_after s q).imp fun y w1 s1 q1 vy ry => ?_⟩
    split at q1
    · rename_i z eg
      refine p w1 v vy x y z _ s1.ok (s1.rep h2) ry eg fun u w2 s2 e3 rz => ?_
      refine q1 w2 _ ((s.trans s1).trans s2) s2.le e3 (((sr.step s1).step s2).set i rz) (of.sub (OwnSub.set ρ σ i (fun _ z => by cases z) _))
    · exact q1.elim
  · exact q.elim
def iaddD (_ : Store) (x y : D) : Option Slot := match x, y with
  | .int i, .int j => some (.val (.int (i + j)))
  | _, _ => none
theorem p_iadd : PrimI K (ipI fun i j => i + j) iaddD := by
  intro w vx vy x y z Q ok rx ry h k
  unfold iaddD at h
  split at h
  · cases h
    cases rx
    cases int_at ry
    exact ⟨_, _, rfl, rfl, k _ w (Step.refl ok) rfl (.int _)⟩
  · cases h
/-! ### enumerate, zip, reversed -/
def enumL (ds : List D) : List D := (List.range ds.length).map fun i => .tup [.int (i : Nat), ds.getD i .non]
theorem it_enum {w : Wd} {a : Addr} {vs : List V} {ds : List D} (hs : SqL K w.G a vs) (rl : RepL K w.A w.G vs ds) : IterOk K w (Ite K a) (enumL ds) := fun w2 le ok2 i => by
  have h2 : SqL K w2.H a vs := ok2.sub.seq (le.2.seq hs)
  have r2 := le.repL rl
  refine ⟨fun d ed => ?_, fun hl => ⟨vs, h2, by rw [rl.length]; simpa [enumL] using hl⟩⟩
  unfold enumL at ed
  rw [List.getElem?_map] at ed
  by_cases hi : i < ds.length
  · rw [List.getElem?_range hi] at ed
    cases ed
    obtain ⟨v, ev, rv⟩ := r2.get (List.getElem?_eq_getElem hi)
    refine ⟨⟨vs, v, h2, ev⟩, fun x H' y => ?_⟩
    obtain ⟨T, x', rfl, hT, rfl, y⟩ := y
    have := y vs h2
    rw [ev] at this
    cases this
    have st := ok2.fresh hT (.tup [.int (i : Nat), v])
    refine ⟨_, st, rfl, rfl, .tup upd_same (.cons (.int _) (.one ?_))⟩
    rw [List.getD_eq_getElem?_getD, List.getElem?_eq_getElem hi]
    exact st.rep rv
  · rw [List.getElem?_eq_none (by simpa using hi)] at ed
    cases ed
def dEnum (fs : FL) : FL := fun ρ M => (fs ρ M).bind fun ds M => match ds with
  | [.lst es] => .ok (enumL es) M
  | [.fro es] => .ok (enumL es) M
  | _ => .bad
theorem x_enum {tg : Expr} {fs : FL} (h : PI X tg e (iEnum K (tAF K E fs))) : PI X tg e (tI K E (dEnum fs)) := PI.wk h fun σ H Q ⟨ρ, w, e1, ok, sr, a⟩ =>
  ⟨ρ, w, e1, ok, sr, a.bind.imp fun ds w1 s1 a1 vs rvs => by
    split at a1
    · cases rvs with
      | cons r1 r2 =>
        cases r2
        cases r1 with
        | lst hs rl => exact ⟨_, _, rfl, .inl (.inl (s1.ok.sub _ _ hs)), a1 w1 (Step.refl s1.ok) rfl _ (it_enum (.inl (.inl hs)) rl)⟩
    · cases rvs with
      | cons r1 r2 =>
        cases r2
        cases r1 with
        | fro hs rl => exact ⟨_, _, rfl, s1.ok.sub.seq hs, a1 w1 (Step.refl s1.ok) rfl _ (it_enum hs rl)⟩
    · exact a1.elim⟩
def zipL : List D → List D → List D
  | x :: xs, y :: ys => .tup [x, y] :: zipL xs ys
  | _, _ => []
theorem zipL_get : ∀ (xs ys : List D) (i : Nat) (d : D), (zipL xs ys)[i]? = some d → ∃ x y, xs[i]? = some x ∧ ys[i]? = some y ∧ d = .tup [x, y]
  | x :: xs, y :: ys, 0, d, h => by simp [zipL] at h; exact ⟨x, y, rfl, rfl, h.symm⟩
  | x :: xs, y :: ys, i + 1, d, h => by
    obtain ⟨a, b, h1, h2, h3⟩ := zipL_get xs ys i d (by simpa [zipL] using h)
    exact ⟨a, b, by simpa using h1, by simpa using h2, h3⟩
  | [], _, _, _, h => by simp [zipL] at h
  | _ :: _, [], _, _, h => by simp [zipL] at h
theorem zipL_len : ∀ (xs ys : List D), (zipL xs ys).length = min xs.length ys.length
  | x :: xs, y :: ys => by simp [zipL, zipL_len xs ys]
  | [], _ => by simp [zipL]
  | _ :: _, [] => by simp [zipL]
theorem it_zip {w : Wd} {a b : Addr} {vs us : List V} {ds es : List D} (hs : SqL K w.G a vs) (rl : RepL K w.A w.G vs ds) (hs' : SqL K w.G b us) (rl' : RepL K w.A w.G us es) : IterOk K w (Itz K a b) (zipL ds es) := fun w2 le ok2 i => by
  have h2 : SqL K w2.H a vs := ok2.sub.seq (le.2.seq hs)
  have h2' : SqL K w2.H b us := ok2.sub.seq (le.2.seq hs')
  refine ⟨fun d ed => ?_, fun hl => ⟨vs, us, h2, h2', by rw [zipL_len] at hl; rw [rl.length, rl'.length]; omega⟩⟩
  obtain ⟨x, y, ex, ey, rfl⟩ := zipL_get ds es i d ed
  obtain ⟨v, ev, rv⟩ := (le.repL rl).get ex
  obtain ⟨u, eu, ru⟩ := (le.repL rl').get ey
  refine ⟨⟨vs, us, v, u, h2, h2', ev, eu⟩, fun z H' hy => ?_⟩
  obtain ⟨T, x', y', rfl, hT, rfl, y1, y2⟩ := hy
  have q1 := y1 vs h2
  rw [ev] at q1
  cases q1
  have q2 := y2 us h2'
  rw [eu] at q2
  cases q2
  have st := ok2.fresh hT (.tup [v, u])
  exact ⟨_, st, rfl, rfl, .tup upd_same (.cons (st.rep rv) (.one (st.rep ru)))⟩
theorem it_zipT {w : Wd} {a b : Addr} {vs us : List V} {ds es : List D} (hs : SqT K w.G a vs) (rl : RepL K w.A w.G vs ds) (hs' : SqT K w.G b us) (rl' : RepL K w.A w.G us es) : IterOk K w (RZ.ItzT K a b) (zipL ds es) := fun w2 le ok2 i => by
  have h2 : SqT K w2.H a vs := sqT_mono ok2.sub (sqT_mono le.2 hs)
  have h2' : SqT K w2.H b us := sqT_mono ok2.sub (sqT_mono le.2 hs')
  refine ⟨fun d ed => ?_, fun hl => ⟨vs, us, h2, h2', by rw [zipL_len] at hl; rw [rl.length, rl'.length]; omega⟩⟩
  obtain ⟨x, y, ex, ey, rfl⟩ := zipL_get ds es i d ed
  obtain ⟨v, ev, rv⟩ := (le.repL rl).get ex
  obtain ⟨u, eu, ru⟩ := (le.repL rl').get ey
  refine ⟨⟨vs, us, v, u, h2, h2', ev, eu⟩, fun z H' hy => ?_⟩
  obtain ⟨T, x', y', rfl, hT, rfl, y1, y2⟩ := hy
  have q1 := y1 vs h2
  rw [ev] at q1
  cases q1
  have q2 := y2 us h2'
  rw [eu] at q2
  cases q2
  have st := ok2.fresh hT (.tup [v, u])
  exact ⟨_, st, rfl, rfl, .tup upd_same (.cons (st.rep rv) (.one (st.rep ru)))⟩
def dZip (fs : FL) : FL := fun ρ M => (fs ρ M).bind fun ds M => match ds with
  | [.lst xs, .lst ys] => .ok (zipL xs ys) M
  | [.tup xs, .tup ys] => .ok (zipL xs ys) M
  | _ => .bad
theorem x_zip {tg : Expr} {fs : FL} (h : PI X tg e (RZ.iZipA K (tAF K E fs))) : PI X tg e (tI K E (dZip fs)) := PI.wk h fun σ H Q ⟨ρ, w, e1, ok, sr, a⟩ =>
  ⟨ρ, w, e1, ok, sr, a.bind.imp fun ds w1 s1 a1 vs rvs => by
    split at a1
    · cases rvs with
      | cons r1 r2 =>
        cases r2 with
        | cons r2 r3 =>
          cases r3
          cases r1 with
          | lst hs rl =>
            cases r2 with
            | lst hs' rl' => exact ⟨_, _, _, _, rfl, .inl ⟨.inl (.inl (s1.ok.sub _ _ hs)), .inl (.inl (s1.ok.sub _ _ hs')), a1 w1 (Step.refl s1.ok) rfl _ (it_zip (.inl (.inl hs)) rl (.inl (.inl hs')) rl')⟩⟩
    · cases rvs with
      | cons r1 r2 =>
        cases r2 with
        | cons r2 r3 =>
          cases r3
          cases r1 with
          | tup hs rl =>
            cases r2 with
            | tup hs' rl' => exact ⟨_, _, _, _, rfl, .inr ⟨.inl (.inl (s1.ok.sub _ _ hs)), .inl (.inl (s1.ok.sub _ _ hs')), a1 w1 (Step.refl s1.ok) rfl _ (it_zipT (.inl (.inl hs)) rl (.inl (.inl hs')) rl')⟩⟩
    · exact a1.elim⟩
theorem it_rev {w : Wd} {a : Addr} {vs : List V} {ds : List D} (hs : SqL K w.G a vs) (rl : RepL K w.A w.G vs ds) : IterOk K w (Itv K a vs.length) ds.reverse := fun w2 le ok2 i => by
  have h2 : SqL K w2.H a vs := ok2.sub.seq (le.2.seq hs)
  refine ⟨fun d ed => ?_, fun hl => show vs.length ≤ i by rw [rl.length]; simpa using hl⟩
  have hi : i < ds.length := by have := (List.getElem?_eq_some_iff.mp ed).1; simpa using this
  rw [List.getElem?_reverse hi] at ed
  obtain ⟨v, ev, rv⟩ := (le.repL rl).get ed
  rw [← rl.length] at ev
  refine ⟨⟨by rw [rl.length]; exact hi, vs, v, h2, ev⟩, fun x H' y => ?_⟩
  obtain ⟨eH, y⟩ := y
  have q := y vs h2
  rw [ev] at q
  cases q
  exact ⟨w2, Step.refl ok2, rfl, eH.symm, rv⟩
theorem it_revT {w : Wd} {a : Addr} {vs : List V} {ds : List D} (hs : SqT K w.G a vs) (rl : RepL K w.A w.G vs ds) : IterOk K w (RT.ItvT K a vs.length) ds.reverse := fun w2 le ok2 i => by
  have h2 : SqT K w2.H a vs := sqT_mono ok2.sub (sqT_mono le.2 hs)
  refine ⟨fun d ed => ?_, fun hl => show vs.length ≤ i by rw [rl.length]; simpa using hl⟩
  have hi : i < ds.length := by have := (List.getElem?_eq_some_iff.mp ed).1; simpa using this
  rw [List.getElem?_reverse hi] at ed
  obtain ⟨v, ev, rv⟩ := (le.repL rl).get ed
  rw [← rl.length] at ev
  refine ⟨⟨by rw [rl.length]; exact hi, vs, v, h2, ev⟩, fun x H' y => ?_⟩
  obtain ⟨eH, y⟩ := y
  have q := y vs h2
  rw [ev] at q
  cases q
  exact ⟨w2, Step.refl ok2, rfl, eH.symm, rv⟩
def dRev (f : FD) : FL := fun ρ M => (f ρ M).bind fun d M => match d with
  | .lst xs => .ok xs.reverse M
  | .fro xs => .ok xs.reverse M
  | .tup xs => .ok xs.reverse M
  | _ => .bad
theorem x_rev {tg : Expr} {f : FD} (h : PI X tg e (RT.iRevA K (tF K E f))) : PI X tg e (tI K E (dRev f)) := PI.wk h fun σ H Q ⟨ρ, w, e1, ok, sr, a⟩ =>
  ⟨ρ, w, e1, ok, sr, a.bind.imp fun d w1 s1 a1 v rv => by
    split at a1
    · cases rv with
      | lst hs rl => exact ⟨_, _, rfl, .inl ⟨.inl (.inl (s1.ok.sub _ _ hs)), a1 w1 (Step.refl s1.ok) rfl _ (it_rev (.inl (.inl hs)) rl)⟩⟩
    · cases rv with
      | fro hs rl => exact ⟨_, _, rfl, .inl ⟨s1.ok.sub.seq hs, a1 w1 (Step.refl s1.ok) rfl _ (it_rev hs rl)⟩⟩
    · cases rv with
      | tup hs rl => exact ⟨_, _, rfl, .inr ⟨.inl (.inl (s1.ok.sub _ _ hs)), a1 w1 (Step.refl s1.ok) rfl _ (it_revT (.inl (.inl hs)) rl)⟩⟩
    · exact a1.elim⟩
end
/-! ### built-in names -/
theorem bt_len : bootBuiltins "len" = some (.builtin "len") := by decide +kernel
theorem bt_min : bootBuiltins "min" = some (.builtin "min") := by decide +kernel
theorem bt_max : bootBuiltins "max" = some (.builtin "max") := by decide +kernel
theorem bt_abs : bootBuiltins "abs" = some (.builtin "abs") := by decide +kernel
theorem bt_sum : bootBuiltins "sum" = some (.builtin "sum") := by decide +kernel
theorem bt_all : bootBuiltins "all" = some (.builtin "all") := by decide +kernel
theorem bt_any : bootBuiltins "any" = some (.builtin "any") := by decide +kernel
theorem bt_isinstance : bootBuiltins "isinstance" = some (.builtin "isinstance") := by decide +kernel
theorem bt_int : bootBuiltins "int" = some (.type "int") := by decide +kernel
theorem bt_str : bootBuiltins "str" = some (.type "str") := by decide +kernel
theorem bt_bool : bootBuiltins "bool" = some (.type "bool") := by decide +kernel
theorem bt_list : bootBuiltins "list" = some (.type "list") := by decide +kernel
theorem bt_tuple : bootBuiltins "tuple" = some (.type "tuple") := by decide +kernel
theorem bt_dict : bootBuiltins "dict" = some (.type "dict") := by decide +kernel
end TP
/-! TPi: what the printed proofs use besides. -/
namespace TP
open PySem L2
section
variable {K : PySem.W.Frag} {E : Wish} {X : Cx} {e : Expr}
theorem un_of {A : Around} {k : Nat} (hr : Room k A) : A.units + 200 < cLine := by have := hr.un; omega
def dYes : FB := fun _ M => .ok true M
theorem x_yes : PTs X [] (tT K E dYes) := ⟨fun pins s σ H Q I h => by
  obtain ⟨ρ, w, e1, ok, sr, a⟩ := h
  subst e1
  exact pts_nil.run pins s σ w.H Q I (a w (Step.refl ok) rfl)⟩
theorem x_test2 {r : R2} {g : Store → D → D → Option Slot} {fa fb : FD} (h : PT X e (tTest (tOp r (tR K E fa) (tR K E fb)))) (p : Prim2 K r g) : PT X e (tT K E (dBo (dOp2 g fa fb))) :=
  x_test h fun σ H Q ⟨ρ, w, e1, ok, sr, a⟩ =>
    ⟨ρ, w, e1, ok, sr, a.bind.imp fun x w1 s1 a1 vx rx => ⟨ρ, w1, rfl, s1.ok, sr.step s1, a1.bind.imp fun y w2 s2 a2 vy ry => by
      obtain ⟨s, es, k⟩ := fin_of (s1.trans s2) a2
      exact p w2 vx vy x y s Q s2.ok (rx.step s2) ry es k⟩⟩
theorem x_testC {r r' : R2} {g g' : Store → D → D → Option Slot} {fa fb fc : FD} (h : PT X e (tTest (tChain r r' (tR K E fa) (tR K E fb) (tR K E fc)))) (p : Prim2 K r g) (p' : Prim2 K r' g') : PT X e (tT K E (dBo (dChain g g' fa fb fc))) :=
  x_test h fun σ H Q ⟨ρ, w, e1, ok, sr, a⟩ =>
    ⟨ρ, w, e1, ok, sr, a.bind.imp fun x w1 s1 a1 vx rx => ⟨ρ, w1, rfl, s1.ok, sr.step s1, a1.bind.imp fun y w2 s2 a2 vy ry => by
      split at a2
      · rename_i eg
        refine p w2 vx vy x y _ _ s2.ok (rx.step s2) ry eg fun v w3 s3 e3 rv => ?_
        cases rv
        have s13 := (s1.trans s2).trans s3
        refine ⟨true, rfl, iteT ⟨ρ, w3, rfl, s3.ok, ((sr.step s1).step s2).step s3, ?_⟩⟩
        rw [e3]
        have a3 := a2.later s3
        exact a3.bind.imp fun z w4 s4 a4 vz rz => by
          obtain ⟨s, es, k⟩ := fin_of (s13.trans s4) a4
          exact p' w4 vy vz y z s Q s4.ok ((ry.step s3).step s4) rz es k
      · rename_i eg
        refine p w2 vx vy x y _ _ s2.ok (rx.step s2) ry eg fun v w3 s3 e3 rv => ?_
        cases rv
        exact ⟨false, rfl, iteF (a2 w3 s3 e3 _ (.bl _))⟩
      · exact a2.elim⟩⟩
/-- {} -/
def dNewK : FD := fun _ M => .ok (.ref M.length) (M ++ [.dK []])
theorem x_dnewK (h : PE X e tDNewK) : PE X e (tF K E dNewK) := PE.wk h fun σ H Q ⟨ρ, w, e1, ok, sr, a⟩ => by
  subst e1
  intro d hd
  have s0 := ok.fresh0 hd (.dK [])
  have hG : w.G d = none := ok.sub.free hd
  have ok2 := s0.ok.push (o := .dK []) hG (ok.notA hd) ⟨[], upd_same, .nil⟩
  have a' : ∀ w', Step K w w' → w'.M = w.M ++ [.dK []] → ∀ v, Rep K w'.A w'.G v (.ref w.M.length) → Q v w'.H := a
  refine a' ⟨w.A ++ [d], w.G, w.M ++ [.dK []], upd w.H d (.dK [])⟩ ⟨ok2, List.prefix_append _ _, Same.refl _, fun b o z1 z2 z3 => ?_⟩ rfl _ (.ref ?_)
  · refine ⟨?_, .inl z2, fun hm => (List.mem_append.mp hm).elim z3 fun z => by simp at z; subst z; rw [hd] at z1; cases z1⟩
    show upd w.H d (.dK []) b = some o
    rw [upd_ne (ne_of_none z1 hd)]
    exact z1
  · show (w.A ++ [d])[w.M.length]? = some d
    rw [← ok.len, List.getElem?_append_right (Nat.le_refl _), Nat.sub_self]
    rfl
theorem fn_zero {P : Program} {wo : World} {mg : Str → Option Value} {base : Heap} {f : Addr} {fd : FuncData} {ps : List Str} {n : Nat} (hn : n = ps.length := by rfl) : FnOk P wo K mg base CX0 0 f fd ps (spD K W0 n (fun _ _ => .bad)) :=
  ⟨fun vs H Q EX h => h.1.trans hn, fun A outer s H args us vs Q EX _ _ _ _ h => by
    obtain ⟨_, ds, w, _, _, _, a⟩ := h
    exact a.elim⟩
end
end TP
namespace TP
open PySem L2
/-! ### the top's constants -/
/-- an object of the written part is a tuple of these -/
def valIs (K : PySem.W.Frag) : Nat → Value → D → Bool
  | _, .none, .non => true
  | _, .bool b, .bl c => b == c
  | _, .int i _, .int j => decide (i = j)
  | _, .str x _, .str y => decide (x = y)
  | _, .ref a, .fn c => decide (clsAt K c = a)
  | n + 1, .ref a, .kt ds => match K.lookup a with
    | some o => match o.cls, o.data with
      | .type c, .seq its _ => c == "tuple" && decide (its.size ≤ 1000) && valsIs its.toList ds (valIs K n)
      | _, _ => false
    | none => false
  | _, _, _ => false
where valsIs : List Value → List D → (Value → D → Bool) → Bool
  | [], [], _ => true
  | v :: vs, d :: ds, f => f v d && valsIs vs ds f
  | _, _, _ => false
def tupIs (K : PySem.W.Frag) (n : Nat) (o : Obj) (d : D) : Bool := match d with
  | .kt ds => match o.cls, o.data with
    | .type c, .seq its _ => c == "tuple" && decide (its.size ≤ 1000) && valIs.valsIs its.toList ds (valIs K n)
    | _, _ => false
  | _ => false
section
variable {K : PySem.W.Frag} {A : List Addr} {G : Hp}
theorem valsIs_rep {f : Value → D → Bool} (hf : ∀ v d, f v d = true → ∃ x, RelV x v ∧ Rep K A G x d) : ∀ {vs : List Value} {ds : List D}, valIs.valsIs vs ds f = true → ∃ xs, Vals xs vs ∧ RepL K A G xs ds
  | [], [], _ => ⟨[], .nil, .nil⟩
  | v :: vs, d :: ds, h => by
    unfold valIs.valsIs at h
    rw [Bool.and_eq_true] at h
    obtain ⟨x, h1, h2⟩ := hf v d h.1
    obtain ⟨xs, h3, h4⟩ := valsIs_rep hf h.2
    exact ⟨x :: xs, .cons h1 h3, .cons h2 h4⟩
  | [], _ :: _, h => by cases h
  | _ :: _, [], h => by cases h
theorem valIs_rep : ∀ (n : Nat) (v : Value) (d : D), valIs K n v d = true → ∃ x, RelV x v ∧ Rep K A G x d := by
  intro n
  induction n with
  | zero =>
    intro v d h
    unfold valIs at h
    split at h
    · exact ⟨.non, rfl, .non⟩
    · rw [beq_iff_eq] at h; subst h; exact ⟨.bl _, rfl, .bl _⟩
    · have := of_decide_eq_true h; subst this; exact ⟨.int _, ⟨_, rfl⟩, .int _⟩
    · have := of_decide_eq_true h; subst this; exact ⟨.str _, ⟨_, rfl⟩, .str _⟩
    · have := of_decide_eq_true h; subst this; exact ⟨.ref _, rfl, .fn _⟩
    · exfalso; omega
    · cases h
  | succ n ih =>
    intro v d h
    unfold valIs at h
    split at h
    · exact ⟨.non, rfl, .non⟩
    · rw [beq_iff_eq] at h; subst h; exact ⟨.bl _, rfl, .bl _⟩
    · have := of_decide_eq_true h; subst this; exact ⟨.int _, ⟨_, rfl⟩, .int _⟩
    · have := of_decide_eq_true h; subst this; exact ⟨.str _, ⟨_, rfl⟩, .str _⟩
    · have := of_decide_eq_true h; subst this; exact ⟨.ref _, rfl, .fn _⟩
    · rename_i m a ds q
      cases q
      split at h
      · rename_i o ho
        split at h
        · rename_i c its k hc hd
          simp only [Bool.and_eq_true, decide_eq_true_eq, beq_iff_eq] at h
          obtain ⟨⟨e1, e2⟩, e3⟩ := h
          subst e1
          obtain ⟨xs, h3, h4⟩ := valsIs_rep ih e3
          exact ⟨.ref a, rfl, .kt (.inr ⟨o, its, k, ho, hc, hd, Nat.le_trans e2 (by decide), h3⟩) h4⟩
        · cases h
      · cases h
    · cases h
theorem tupIs_rep {n : Nat} {q : Addr} {o : Obj} {d : D} (ho : K.lookup q = some o) (h : tupIs K n o d = true) : Rep K A G (.ref q) d := by
  unfold tupIs at h
  split at h
  · split at h
    · rename_i c its k hc hd
      simp only [Bool.and_eq_true, decide_eq_true_eq, beq_iff_eq] at h
      obtain ⟨⟨e1, e2⟩, e3⟩ := h
      subst e1
      obtain ⟨xs, h3, h4⟩ := valsIs_rep (valIs_rep n) e3
      exact .kt (.inr ⟨o, its, k, ho, hc, hd, Nat.le_trans e2 (by decide), h3⟩) h4
    · cases h
  · cases h
theorem repL_ints : ∀ ns : List Int, RepL K A G (ns.map V.int) (ns.map D.int)
  | [] => .nil
  | n :: ns => .cons (.int n) (repL_ints ns)
/-- the law's own promise: what it is asked, and True -/
theorem law_sp {H : Hp} {a : Addr} {ns : List Int} {m : Fn} {EX : XK} (hS : SqL K H a (ns.map V.int)) (h : ∃ M, m [.fro (ns.map D.int)] [] = .ok (.val (.bl true)) M) : spD K W0 1 m [.ref a] H (fun v _ => v = .bl true) EX := by
  obtain ⟨M, h⟩ := h
  refine ⟨rfl, [.fro (ns.map D.int)], ⟨[], H, [], H⟩, rfl, ⟨Same.refl _, List.nodup_nil, rfl, (fun a ha => by simp at ha), (fun k o e => by simp at e)⟩, .one (.fro hS (repL_ints ns)), ?_⟩
  show After K E00 _ (m [.fro (ns.map D.int)] []) _
  rw [h]
  intro w' _ _ v rv
  cases rv
  rfl
end
end TP
/-! TPj: dicts. -/
namespace TP
open PySem L2
section
variable {K : PySem.W.Frag} {E : Wish} {X : Cx} {e : Expr} {st : Stmt}
def keyD : D → Option Key
  | .int i => some (.inl i)
  | .str x => some (.inr x)
  | _ => none
def keysD : List D → Option (List Key)
  | [] => some []
  | d :: ds => match keyD d, keysD ds with
    | some k, some ks => some (k :: ks)
    | _, _ => none
section
variable {κ : Type} [DecidableEq κ]
def lookD (kvs : List (κ × D)) (k : κ) : Option D := (kvs.find? fun kv => decide (kv.1 = k)).map (·.2)
def putD (kvs : List (κ × D)) (k : κ) (v : D) : List (κ × D) :=
  if (kvs.any fun kv => decide (kv.1 = k)) = true then kvs.map (fun kv => if kv.1 = k then (kv.1, v) else kv) else kvs ++ [(k, v)]
theorem RepKV.val {R : V → D → Prop} : ∀ {vs : List (κ × V)} {ds : List (κ × D)} (k : κ), RepKV R vs ds → (∀ d, lookD ds k = some d → ∃ v, valV vs k = some v ∧ R v d) ∧ (lookD ds k = none → valV vs k = none)
  | _, _, k, .nil => ⟨fun d h => by simp [lookD] at h, fun _ => rfl⟩
  | (k', v') :: vs, (_, d') :: ds, k, .cons r t => by
    obtain ⟨h1, h2⟩ := RepKV.val k t
    unfold lookD valV at *
    by_cases hk : k' = k
    · refine ⟨fun d h => ?_, fun h => ?_⟩
      · rw [List.find?_cons_of_pos (by simpa using hk)] at h ⊢
        cases h
        exact ⟨v', rfl, r⟩
      · rw [List.find?_cons_of_pos (by simpa using hk)] at h
        cases h
    · rw [List.find?_cons_of_neg (by simpa using hk), List.find?_cons_of_neg (by simpa using hk)]
      exact ⟨h1, h2⟩
theorem RepKV.any {R : V → D → Prop} (p : κ → Bool) : ∀ {vs : List (κ × V)} {ds : List (κ × D)}, RepKV R vs ds → (vs.any fun kv => p kv.1) = ds.any fun kv => p kv.1
  | _, _, .nil => rfl
  | (k', v') :: vs, (_, d') :: ds, .cons r t => by rw [List.any_cons, List.any_cons, RepKV.any p t]
theorem RepKV.mapV {R : V → D → Prop} {v : V} {d : D} (r : R v d) (k : κ) : ∀ {vs : List (κ × V)} {ds : List (κ × D)}, RepKV R vs ds → RepKV R (vs.map fun kv => if kv.1 = k then (kv.1, v) else kv) (ds.map fun kv => if kv.1 = k then (kv.1, d) else kv)
  | _, _, .nil => .nil
  | (k', v') :: vs, (_, d') :: ds, .cons r' t => by
    rw [List.map_cons, List.map_cons]
    by_cases hk : k' = k
    · simp only [hk, if_true]
      exact .cons r (RepKV.mapV r k t)
    · simp only [hk, if_false]
      exact .cons r' (RepKV.mapV r k t)
theorem RepKV.append {R : V → D → Prop} : ∀ {vs us : List (κ × V)} {ds es : List (κ × D)}, RepKV R vs ds → RepKV R us es → RepKV R (vs ++ us) (ds ++ es)
  | _, _, _, _, .nil, s => s
  | _, _, _, _, .cons r t, s => .cons r (RepKV.append t s)
theorem RepKV.put {R : V → D → Prop} {v : V} {d : D} (r : R v d) (k : κ) {vs : List (κ × V)} {ds : List (κ × D)} (h : RepKV R vs ds) : RepKV R (putK vs k v) (putD ds k d) := by
  unfold putK putD
  rw [h.any fun x => decide (x = k)]
  split
  · exact h.mapV r k
  · exact h.append (.cons r .nil)
theorem RepKV.len {R : V → D → Prop} : ∀ {vs : List (κ × V)} {ds : List (κ × D)}, RepKV R vs ds → vs.length = ds.length
  | _, _, .nil => rfl
  | _ :: _, _ :: _, .cons _ t => by rw [List.length_cons, List.length_cons, RepKV.len t]
end
theorem key_at {A : List Addr} {G : Hp} {v : V} {d : D} {k : Key} (r : Rep K A G v d) (h : keyD d = some k) : v = kV k := by
  cases r <;> first | (cases h; rfl) | cases h
theorem keys_at {A : List Addr} {G : Hp} : ∀ {vs : List V} {ds : List D} {ks : List Key}, RepL K A G vs ds → keysD ds = some ks → vs = ks.map kV
  | [], [], _, _, h => by cases h; rfl
  | v :: vs, d :: ds, ks, .cons r t, h => by
    unfold keysD at h
    split at h
    · rename_i k ks' h1 h2
      cases h
      rw [key_at r h1, keys_at t h2]
      rfl
    · cases h
theorem keyB {w : Wd} {v : V} {d : D} {k : Key} (r : RepB K w v d) (h : keyD d = some k) : v = kV k := by
  rcases r with r | ⟨_, _, _, _, rfl, _⟩
  · exact key_at r h
  · cases h
/-- what a dict of the store has at a key: none, where it is no dict or no key -/
def dGetO (M : Store) (x y : D) : Option (Option D) := match x with
  | .ref k => match M[k]? with
    | some (.dK kvs) => (keyD y).map (lookD kvs)
    | some (.dT kvs) => match y with
      | .tup ds => (keysD ds).map (lookD kvs)
      | _ => none
    | _ => none
  | _ => none
theorem dget_at {w : Wd} (ok : w.Ok K) {vx vy : V} {x y : D} {o : Option D} (rx : RepB K w vx x) (ry : RepB K w vy y) (h : dGetO w.M x y = some o) :
    ∃ a ov, vx = .ref a ∧ DGet w.H a vy ov ∧ (∀ d, o = some d → ∃ v, ov = some v ∧ Rep K w.A w.G v d) ∧ (o = none → ov = none) := by
  unfold dGetO at h
  split at h
  · rename_i k
    obtain ⟨a, rfl, ea⟩ := ref_at rx
    split at h
    · rename_i kvs e2
      obtain ⟨a', ea', vs, hH, rk⟩ := ok.mos k _ e2
      rw [ea] at ea'; cases ea'
      cases q : keyD y with
      | none => rw [q] at h; cases h
      | some key =>
        rw [q] at h
        cases h
        obtain ⟨h1, h2⟩ := rk.val key
        refine ⟨a, valV vs key, rfl, ?_, h1, h2⟩
        rw [keyB ry q]
        exact .inl ⟨vs, key, .inl hH, rfl, rfl⟩
    · rename_i kvs e2
      obtain ⟨a', ea', vs, hH, rk⟩ := ok.mos k _ e2
      rw [ea] at ea'; cases ea'
      split at h
      · rename_i ds
        cases q : keysD ds with
        | none => rw [q] at h; cases h
        | some ks =>
          rw [q] at h
          cases h
          obtain ⟨h1, h2⟩ := rk.val ks
          obtain ⟨b, us, rfl, hb, rl⟩ := tupH_at ok ry
          refine ⟨a, valV vs ks, rfl, .inr ⟨vs, ks, b, .inl hH, rfl, ?_, rfl⟩, h1, h2⟩
          rw [← keys_at rl q]
          exact hb
      · cases h
    · cases h
  · cases h
def dgetD (M : Store) (x y : D) : Option Slot := match dGetO M x y with
  | some (some d) => some (.val d)
  | _ => none
theorem p_dget : Prim2 K (fun x y H Q => ∃ a v, x = .ref a ∧ DGet H a y (some v) ∧ Q v H) dgetD := by
  intro w vx vy x y s Q ok rx ry h k
  unfold dgetD at h
  split at h
  · rename_i d e1
    cases h
    obtain ⟨a, ov, rfl, g, h1, _⟩ := dget_at ok rx ry e1
    obtain ⟨v, rfl, rv⟩ := h1 d rfl
    exact ⟨a, v, rfl, g, k v w (Step.refl ok) rfl rv⟩
  · cases h
theorem x_dget {fa fb : FD} (h : PE X e (tDGet (tR K E fa) (tR K E fb))) : PE X e (tE K E (dOp2 dgetD fa fb)) := x_op2 (r := fun x y H Q => ∃ a v, x = .ref a ∧ DGet H a y (some v) ∧ Q v H) h p_dget
def dinD (M : Store) (y x : D) : Option Slot := (dGetO M x y).map fun o => .val (.bl o.isSome)
def dnotInD (M : Store) (y x : D) : Option Slot := (dGetO M x y).map fun o => .val (.bl (!o.isSome))
theorem isSome_at {o : Option D} {ov : Option V} {R : V → D → Prop} (h1 : ∀ d, o = some d → ∃ v, ov = some v ∧ R v d) (h2 : o = none → ov = none) : ov.isSome = o.isSome := by
  cases o with
  | none => rw [h2 rfl]; rfl
  | some d => obtain ⟨v, e, _⟩ := h1 d rfl; rw [e]; rfl
theorem p_din : Prim2 K (fun y x H Q => ∃ a o, x = .ref a ∧ DGet H a y o ∧ Q (.bl o.isSome) H) dinD := by
  intro w vx vy x y s Q ok rx ry h k
  unfold dinD at h
  cases q : dGetO w.M y x with
  | none => rw [q] at h; cases h
  | some o =>
    rw [q] at h
    cases h
    obtain ⟨a, ov, rfl, g, h1, h2⟩ := dget_at ok ry rx q
    refine ⟨a, ov, rfl, g, ?_⟩
    rw [isSome_at h1 h2]
    exact ans ok k fun _ _ => .bl _
theorem p_dnotIn : Prim2 K (fun y x H Q => ∃ a o, x = .ref a ∧ DGet H a y o ∧ Q (.bl (!o.isSome)) H) dnotInD := by
  intro w vx vy x y s Q ok rx ry h k
  unfold dnotInD at h
  cases q : dGetO w.M y x with
  | none => rw [q] at h; cases h
  | some o =>
    rw [q] at h
    cases h
    obtain ⟨a, ov, rfl, g, h1, h2⟩ := dget_at ok ry rx q
    refine ⟨a, ov, rfl, g, ?_⟩
    rw [isSome_at h1 h2]
    exact ans ok k fun _ _ => .bl _
theorem x_din {fa fb : FD} (h : PE X e (tDIn (tR K E fa) (tR K E fb))) : PE X e (tE K E (dOp2 dinD fa fb)) := x_op2 (r := fun y x H Q => ∃ a o, x = .ref a ∧ DGet H a y o ∧ Q (.bl o.isSome) H) h p_din
theorem x_dnotIn {fa fb : FD} (h : PE X e (tDNotIn (tR K E fa) (tR K E fb))) : PE X e (tE K E (dOp2 dnotInD fa fb)) := x_op2 (r := fun y x H Q => ∃ a o, x = .ref a ∧ DGet H a y o ∧ Q (.bl (!o.isSome)) H) h p_dnotIn
/-- as tests -/
theorem xt_din {fa fb : FD} (h : PT X e (tB (tDIn (tR K E fa) (tR K E fb)))) : PT X e (tT K E (dBo (dOp2 dinD fa fb))) := x_test2 (r := fun y x H Q => ∃ a o, x = .ref a ∧ DGet H a y o ∧ Q (.bl o.isSome) H) h p_din
theorem xt_dnotIn {fa fb : FD} (h : PT X e (tB (tDNotIn (tR K E fa) (tR K E fb)))) : PT X e (tT K E (dBo (dOp2 dnotInD fa fb))) := x_test2 (r := fun y x H Q => ∃ a o, x = .ref a ∧ DGet H a y o ∧ Q (.bl (!o.isSome)) H) h p_dnotIn
/-- d.get(k, x) -/
def isDD (M : Store) (x : D) : Bool := match x with
  | .ref k => match M[k]? with
    | some (.dK _) => true
    | some (.dT _) => true
    | _ => false
  | _ => false
theorem isD_at' {w : Wd} (ok : w.Ok K) {v : V} {x : D} (r : RepB K w v x) (h : isDD w.M x = true) : ∃ a, v = .ref a ∧ IsD w.H a := by
  unfold isDD at h
  split at h
  · rename_i k
    obtain ⟨a, rfl, ea⟩ := ref_at r
    refine ⟨a, rfl, ?_⟩
    split at h
    · rename_i kvs e2
      obtain ⟨a', ea', vs, hH, rk⟩ := ok.mos k _ e2
      rw [ea] at ea'; cases ea'
      exact .inl ⟨vs, .inl hH⟩
    · rename_i kvs e2
      obtain ⟨a', ea', vs, hH, rk⟩ := ok.mos k _ e2
      rw [ea] at ea'; cases ea'
      exact .inr ⟨vs, .inl hH⟩
    · cases h
  · cases h
def dGet2 (fo fk fd : FD) : FD := fun ρ M => (fo ρ M).bind fun x M => if isDD M x then (fk ρ M).bind fun y M => (fd ρ M).bind fun z M => match dGetO M x y with
  | some o => .ok (o.getD z) M
  | none => .bad else .bad
theorem x_dget2 {fo fk fd : FD} (h : PE X e (tDGet2 (tR K E fo) (tR K E fk) (tF K E fd))) : PE X e (tF K E (dGet2 fo fk fd)) := PE.wk h fun σ H Q ⟨ρ, w, e1, ok, sr, a⟩ =>
  ⟨ρ, w, e1, ok, sr, a.bind.imp fun x w1 s1 a1 vx rx => by
    split at a1
    · rename_i hd
      obtain ⟨p, rfl, ip⟩ := isD_at' s1.ok rx hd
      refine ⟨p, rfl, ip, ρ, w1, rfl, s1.ok, sr.step s1, a1.bind.imp fun y w2 s2 a2 vy ry => ⟨ρ, w2, rfl, s2.ok, (sr.step s1).step s2, a2.bind.imp fun z w3 s3 a3 vz rz => ?_⟩⟩
      split at a3
      · rename_i o eo
        obtain ⟨p', ov, e2, g, h1, h2⟩ := dget_at s3.ok ((rx.step s2).step s3) (ry.step s3) eo
        cases e2
        refine ⟨ov, g, ?_⟩
        cases o with
        | none => rw [h2 rfl]; exact a3 w3 (Step.refl s3.ok) rfl _ rz
        | some d => obtain ⟨v, e3, rv⟩ := h1 d rfl; rw [e3]; exact a3 w3 (Step.refl s3.ok) rfl _ rv
      · exact a3.elim
    · exact a1.elim⟩
def dGet1 (fo fk : FD) : FD := fun ρ M => (fo ρ M).bind fun x M => if isDD M x then (fk ρ M).bind fun y M => match dGetO M x y with
  | some o => .ok (o.getD .non) M
  | none => .bad else .bad
theorem x_dget1 {fo fk : FD} (h : PE X e (tDGet1 (tR K E fo) (tR K E fk))) : PE X e (tF K E (dGet1 fo fk)) := PE.wk h fun σ H Q ⟨ρ, w, e1, ok, sr, a⟩ =>
  ⟨ρ, w, e1, ok, sr, a.bind.imp fun x w1 s1 a1 vx rx => by
    split at a1
    · rename_i hd
      obtain ⟨p, rfl, ip⟩ := isD_at' s1.ok rx hd
      refine ⟨p, rfl, ip, ρ, w1, rfl, s1.ok, sr.step s1, a1.bind.imp fun y w2 s2 a2 vy ry => ?_⟩
      split at a2
      · rename_i o eo
        obtain ⟨p', ov, e2, g, h1, h2⟩ := dget_at s2.ok (rx.step s2) ry eo
        cases e2
        refine ⟨ov, g, ?_⟩
        cases o with
        | none => rw [h2 rfl]; exact a2 w2 (Step.refl s2.ok) rfl _ .non
        | some d => obtain ⟨v, e3, rv⟩ := h1 d rfl; rw [e3]; exact a2 w2 (Step.refl s2.ok) rfl _ rv
      · exact a2.elim
    · exact a1.elim⟩
/-- d[k] = v -/
def dPutM (M : Store) (x y z : D) : Option Store := match x with
  | .ref k => match M[k]? with
    | some (.dK kvs) => match keyD y with
      | some key => if kvs.length < sizeLine then some (M.set k (.dK (putD kvs key z))) else none
      | none => none
    | some (.dT kvs) => match y with
      | .tup ds => match keysD ds with
        | some ks => if kvs.length < sizeLine then some (M.set k (.dT (putD kvs ks z))) else none
        | none => none
      | _ => none
    | _ => none
  | _ => none
def sPutD (f fo fi : FD) : FS := fun ρ M => (f ρ M).out fun z M => (fo ρ M).out fun x M => (fi ρ M).out fun y M => match dPutM M x y z with
  | some M' => .next ρ M'
  | none => .bad
theorem dput_at {w : Wd} (ok : w.Ok K) {vx vy vz : V} {x y z : D} {M' : Store} (rx : RepB K w vx x) (ry : RepB K w vy y) (rz : Rep K w.A w.G vz z) (h : dPutM w.M x y z = some M') :
    ∃ a w', vx = .ref a ∧ DPut w.H a vy vz w'.H ∧ Step K w w' ∧ w'.M = M' := by
  unfold dPutM at h
  split at h
  · rename_i k
    obtain ⟨a, rfl, ea⟩ := ref_at rx
    split at h
    · rename_i kvs e2
      obtain ⟨a', ea', vs, hH, rk⟩ := ok.mos k _ e2
      rw [ea] at ea'; cases ea'
      split at h
      · rename_i key q
        split at h
        · rename_i hz
          cases h
          refine ⟨a, ⟨w.A, w.G, w.M.set k (.dK (putD kvs key z)), upd w.H a (.dK (putK vs key vz))⟩, rfl, .inl ⟨vs, key, hH, keyB ry q, by rw [rk.len]; exact hz, rfl⟩, ok.put ea ⟨_, upd_same, rk.put rz key⟩, rfl⟩
        · cases h
      · cases h
    · rename_i kvs e2
      obtain ⟨a', ea', vs, hH, rk⟩ := ok.mos k _ e2
      rw [ea] at ea'; cases ea'
      split at h
      · rename_i ds
        split at h
        · rename_i ks q
          split at h
          · rename_i hz
            cases h
            obtain ⟨b, us, rfl, hb, rl⟩ := tupH_at ok ry
            refine ⟨a, ⟨w.A, w.G, w.M.set k (.dT (putD kvs ks z)), upd w.H a (.dT (putK vs ks vz))⟩, rfl, .inr ⟨vs, ks, b, hH, rfl, by rw [← keys_at rl q]; exact hb, by rw [rk.len]; exact hz, rfl⟩, ok.put ea ⟨_, upd_same, rk.put rz ks⟩, rfl⟩
          · cases h
        · cases h
      · cases h
    · cases h
  · cases h
theorem s_putD {f fo fi : FD} (h : PS X st (sDPut (tR K E fo) (tR K E fi) (tF K E f))) : PS X st (tS K E (sPutD f fo fi)) := PS.wk h fun D σ H ⟨ρ, w, w0, e1, s, sr, of, p⟩ =>
  ⟨ρ, w, e1, s.ok, sr, (out_after s p).imp fun z w1 s1 p1 vz rz => ⟨ρ, w1, rfl, s1.ok, sr.step s1, (out_after (s.trans s1) p1).imp fun x w2 s2 p2 vx rx => ⟨ρ, w2, rfl, s2.ok, (sr.step s1).step s2, (out_after ((s.trans s1).trans s2) p2).imp fun y w3 s3 p3 vy ry => by
    split at p3
    · rename_i M' em
      obtain ⟨a, w4, rfl, dp, s4, e4⟩ := dput_at s3.ok (rx.step s3) ry ((s2.trans s3).rep rz) em
      refine ⟨a, w4.H, rfl, dp, ?_⟩
      exact p3 w4 σ ((((s.trans s1).trans s2).trans s3).trans s4) s4.le e4 ((((sr.step s1).step s2).step s3).step s4) of
    · exact p3.elim⟩⟩⟩
/-- {} with tuple keys -/
def dNewT : FD := fun _ M => .ok (.ref M.length) (M ++ [.dT []])
theorem new_obj {w : Wd} (ok : w.Ok K) {d : Addr} (hd : w.H d = none) {o : HO} {m : MO} (hm : MoR K ⟨w.A, w.G, w.M, upd w.H d o⟩ d m) : Step K w ⟨w.A ++ [d], w.G, w.M ++ [m], upd w.H d o⟩ ∧ (w.A ++ [d])[w.M.length]? = some d := by
  have s0 := ok.fresh0 hd o
  have hG : w.G d = none := ok.sub.free hd
  have ok2 := s0.ok.push (o := m) hG (ok.notA hd) hm
  refine ⟨⟨ok2, List.prefix_append _ _, Same.refl _, fun b o' z1 z2 z3 => ?_⟩, ?_⟩
  · refine ⟨?_, .inl z2, fun hm => (List.mem_append.mp hm).elim z3 fun z => by simp at z; subst z; rw [hd] at z1; cases z1⟩
    show upd w.H d o b = some o'
    rw [upd_ne (ne_of_none z1 hd)]
    exact z1
  · rw [← ok.len, List.getElem?_append_right (Nat.le_refl _), Nat.sub_self]
    rfl
theorem x_dnewT (h : PE X e tDNewT) : PE X e (tF K E dNewT) := PE.wk h fun σ H Q ⟨ρ, w, e1, ok, sr, a⟩ => by
  subst e1
  intro d hd
  obtain ⟨st, hA⟩ := new_obj (o := .dT []) (m := .dT []) ok hd ⟨[], upd_same, .nil⟩
  have a' : ∀ w', Step K w w' → w'.M = w.M ++ [.dT []] → ∀ v, Rep K w'.A w'.G v (.ref w.M.length) → Q v w'.H := a
  exact a' _ st rfl _ (.ref hA)
/-! ### a display with keys that are texts -/
def tPrs (ks : List Str) (fs : List TE) : List (TE × TE) := ks.zipWith (fun k f => (tC (.str k), f)) fs
/-- the values, in order -/
def dVals : List FD → FL
  | [] => dNil
  | f :: fs => dCons f (dVals fs)
def mergeD (ks : List Str) (ds : List D) : List (Key × D) := (ks.zip ds).foldl (fun acc kv => putD acc (Sum.inr kv.1) kv.2) []
def dDisp (ks : List Str) (fs : List FD) : FD := fun ρ M => (dVals fs ρ M).bind fun ds M => if ds.length = ks.length ∧ ks.length ≤ 15 then .ok (.ref M.length) (M ++ [.dK (mergeD ks ds)]) else .bad
theorem pairs_ok {σ : L2.St} {ρ : EnvD} : ∀ (ks : List Str) (fs : List FD) (w w0 : Wd) (Q : List (V × V) → Hp → Prop), ks.length = fs.length → Step K w0 w → SR K w ρ σ →
    After K E w (dVals fs ρ w.M) (fun ds w' => ∀ vs, RepL K w'.A w'.G vs ds → Q (ks.zipWith (fun k v => (V.str k, v)) vs) w'.H) → tPairs (tPrs ks (fs.map (tF K E))) σ w.H Q
  | [], [], w, w0, Q, _, s, sr, a => by
    have a' : ∀ w', Step K w w' → w'.M = w.M → ∀ vs, RepL K w'.A w'.G vs [] → Q ([].zipWith (fun k v => (V.str k, v)) vs) w'.H := a
    exact a' w (Step.refl s.ok) rfl [] .nil
  | k :: ks, f :: fs, w, w0, Q, hl, s, sr, a => by
    refine ⟨ρ, w, rfl, s.ok, sr, ?_⟩
    have a1 : After K E w (dCons f (dVals fs) ρ w.M) _ := a
    refine a1.bind.imp fun d w1 s1 a2 v rv => ?_
    refine pairs_ok ks fs w1 w0 _ (by simpa using hl) (s.trans s1) (sr.step s1) (a2.bind.imp fun ds w2 s2 a3 vs rvs => ?_)
    exact a3 w2 (Step.refl s2.ok) rfl (v :: vs) (.cons (s2.rep rv) rvs)
  | [], _ :: _, _, _, _, hl, _, _, _ => by cases hl
  | _ :: _, [], _, _, _, hl, _, _, _ => by cases hl
theorem merge_rep {R : V → D → Prop} : ∀ (ks : List Str) (vs : List V) (ds : List D) (av : List (Key × V)) (ad : List (Key × D)), (∀ (i : Nat) (v : V), vs[i]? = some v → ∃ d, ds[i]? = some d ∧ R v d) → vs.length = ds.length → RepKV R av ad →
    RepKV R (mergeK av ((ks.zip vs).map fun kv => ((Sum.inr kv.1 : Key), kv.2))) ((ks.zip ds).foldl (fun acc kv => putD acc (Sum.inr kv.1) kv.2) ad)
  | [], _, _, _, _, _, _, h => by simpa [mergeK] using h
  | k :: ks, [], [], av, ad, _, _, h => by simpa [mergeK] using h
  | k :: ks, v :: vs, d :: ds, av, ad, hr, hl, h => by
    obtain ⟨d', e, r⟩ := hr 0 v rfl
    cases e
    have := merge_rep ks vs ds (putK av (Sum.inr k) v) (putD ad (Sum.inr k) d) (fun i x hx => by
      obtain ⟨y, h1, h2⟩ := hr (i + 1) x (by simpa using hx)
      exact ⟨y, by simpa using h1, h2⟩) (by simpa using hl) (h.put r (Sum.inr k))
    simpa [mergeK] using this
  | k :: ks, [], _ :: _, _, _, _, hl, _ => by cases hl
  | k :: ks, _ :: _, [], _, _, _, hl, _ => by cases hl
theorem zip_pairs : ∀ (ks : List Str) (vs : List V), ks.zipWith (fun k v => (V.str k, v)) vs = ((ks.zip vs).map fun kv => ((Sum.inr kv.1 : Key), kv.2)).map fun kv => (kV kv.1, kv.2)
  | [], _ => rfl
  | _ :: _, [] => rfl
  | k :: ks, v :: vs => by rw [List.zipWith_cons_cons, zip_pairs ks vs]; rfl
theorem x_disp {ks : List Str} {fs : List FD} (hl : ks.length = fs.length) (h : PE X e (tDisp (tPrs ks (fs.map (tF K E))))) : PE X e (tF K E (dDisp ks fs)) := PE.wk h fun σ H Q ⟨ρ, w, e1, ok, sr, a⟩ => by
  subst e1
  intro p hp
  have s0 := ok.fresh0 hp (.dK [])
  have hG : w.G p = none := ok.sub.free hp
  have hA := ok.notA hp
  refine pairs_ok ks fs ⟨w.A, w.G, w.M, upd w.H p (.dK [])⟩ w _ hl s0 (sr.step s0) ?_
  have a1 := (show After K E w ((dVals fs ρ w.M).bind _) _ from a).bind
  cases q : dVals fs ρ w.M with
  | bad => rw [q] at a1; exact a1
  | exc c d M => rw [q] at a1; exact fun w' s' e => a1 w' (s0.trans s') e
  | ok ds M =>
    rw [q] at a1
    intro w1 s1 eM vs rvs
    have s01 := s0.trans s1
    obtain ⟨k1, k2, k3⟩ := s1.keepN p (.dK []) upd_same hG hA
    have a2 := (show After K E w (dDisp ks fs ρ w.M) _ from a)
    have ed : dDisp ks fs ρ w.M = if ds.length = ks.length ∧ ks.length ≤ 15 then .ok (.ref M.length) (M ++ [.dK (mergeD ks ds)]) else .bad := by unfold dDisp; rw [q]; rfl
    rw [ed] at a2
    split at a2
    · rename_i hc
      refine ⟨k1, (ks.zip vs).map fun kv => ((Sum.inr kv.1 : Key), kv.2), zip_pairs ks vs, by simp; omega, ?_⟩
      have hrep : RepKV (Rep K w1.A w1.G) (mergeK [] ((ks.zip vs).map fun kv => ((Sum.inr kv.1 : Key), kv.2))) (mergeD ks ds) :=
        merge_rep ks vs ds [] [] (fun i v hv => rvs.get' hv) rvs.length .nil
      have okA := setOwn_ok (o := .dK (mergeK [] ((ks.zip vs).map fun kv => ((Sum.inr kv.1 : Key), kv.2)))) s1.ok k1 k2 k3
      have ok2 := okA.push (o := .dK (mergeD ks ds)) k2 k3 ⟨_, upd_same, hrep⟩
      have a3 : ∀ w', Step K w w' → w'.M = M ++ [.dK (mergeD ks ds)] → ∀ v, Rep K w'.A w'.G v (.ref M.length) → Q v w'.H := a2
      refine a3 ⟨w1.A ++ [p], w1.G, w1.M ++ [.dK (mergeD ks ds)], upd w1.H p (.dK (mergeK [] ((ks.zip vs).map fun kv => ((Sum.inr kv.1 : Key), kv.2))))⟩ ⟨ok2, s01.pre.trans (List.prefix_append _ _), s01.fro, fun b o z1 z2 z3 => ?_⟩ (by rw [eM]) _ (.ref ?_)
      · obtain ⟨c1, c2, c3⟩ := s01.keep b o z1 z2 z3
        refine ⟨?_, c2, fun hm => (List.mem_append.mp hm).elim c3 fun z => by simp at z; subst z; rw [hp] at z1; cases z1⟩
        show upd w1.H p _ b = some o
        rw [upd_ne (ne_of_none z1 hp)]
        exact c1
      · show (w1.A ++ [p])[M.length]? = some p
        have hl := s1.ok.len
        rw [eM] at hl
        rw [← hl, List.getElem?_append_right (Nat.le_refl _), Nat.sub_self]
        rfl
    · exact a2.elim
/-! ### a dict of the top, its keys texts -/
def tabFind (tab : List (Str × D)) (z : Str) : Option D := (tab.find? fun kv => decide (kv.1 = z)).map (·.2)
def dTab (tab : List (Str × D)) (f : FD) : FD := fun ρ M => (f ρ M).bind fun y M => match y with
  | .str z => R.of (tabFind tab z) M
  | _ => .bad
structure TabOk (K : PySem.W.Frag) (w : World) (q : Addr) (tab : List (Str × D)) : Prop where
  at_ : ∀ z d, tabFind tab z = some d → ∃ v, KDct K w q z v ∧ ∀ A G, Rep K A G v d
theorem x_tab {q : Addr} {tab : List (Str × D)} {f : FD} (T : TabOk X.K X.w q tab) (hK : X.K = K) (h : PE X e (tOp (rIxD X.K X.w) (tC (.ref q)) (tR K E f))) : PE X e (tF K E (dTab tab f)) := PE.wk h fun σ H Q ⟨ρ, w, e1, ok, sr, a⟩ => by
  subst e1
  refine ⟨ρ, w, rfl, ok, sr, a.bind.imp fun y w1 s1 a1 vy ry => ?_⟩
  split at a1
  · rename_i z
    obtain ⟨d, ed, k⟩ := a1.of (Step.refl s1.ok) rfl
    obtain ⟨v, kd, rv⟩ := T.at_ z d ed
    exact ⟨q, z, v, rfl, str_at ry, kd, k v (hK ▸ rv _ _)⟩
  · exact a1.elim
def tabIs (K : PySem.W.Frag) (q : Addr) (tab : List (Str × D)) : Bool := tab.all fun kv => match PySem.W.nsIn K q kv.1 with
  | some (some u) => valIs K 9 u kv.2
  | _ => false
theorem tab_ok {w : World} {q : Addr} {tab : List (Str × D)} {es : Array DictEntry} {n : Nat} (hl : K.lookup q = some ⟨.type "dict", none, .dict es n, #[]⟩) (hk : PySem.W.KeysLit w.params es.toList) (ht : tabIs K q tab = true) : TabOk K w q tab := by
  refine ⟨fun z d h => ?_⟩
  unfold tabFind at h
  cases q1 : tab.find? fun kv => decide (kv.1 = z) with
  | none => rw [q1] at h; cases h
  | some kv =>
    rw [q1] at h
    cases h
    have hm := List.mem_of_find?_eq_some q1
    have hz : kv.1 = z := by have := List.find?_some q1; simpa using this
    have h1 := List.all_eq_true.mp ht kv hm
    subst hz
    split at h1
    · rename_i u hu
      obtain ⟨x, rx, _⟩ := valIs_rep (K := K) (A := []) (G := fun _ => none) 9 u kv.2 h1
      refine ⟨x, ⟨es, n, u, hl, hk, hu, rx⟩, fun A G => ?_⟩
      obtain ⟨x', rx', rp⟩ := valIs_rep (K := K) (A := A) (G := G) 9 u kv.2 h1
      rw [rx.inj rx']
      exact rp
    · cases h1
end
end TP
/-! TPm: reckoning with the mirrors. -/
namespace TP
open PySem L2
@[simp] theorem R.bind_ok {α β : Type} (a : α) (M : Store) (f : α → Store → R β) : (R.ok a M).bind f = f a M := rfl
@[simp] theorem R.map_ok {α β : Type} (a : α) (M : Store) (f : α → β) : (R.ok a M).map f = .ok (f a) M := rfl
@[simp] theorem R.out_ok {α : Type} (a : α) (M : Store) (f : α → Store → Out) : (R.ok a M).out f = f a M := rfl
@[simp] theorem R.of_some {α : Type} (a : α) (M : Store) : R.of (some a) M = .ok a M := rfl
@[simp] theorem szL : sizeLine = 16777216 := sizeLine_eq
@[simp] theorem Slot.d_val (d : D) : (Slot.val d).d = d := rfl
@[simp] theorem Slot.d_own (ds : List D) : (Slot.own ds).d = .lst ds := rfl
@[simp] theorem sNil_eq (ρ : EnvD) (M : Store) : sNil ρ M = .next ρ M := rfl
@[simp] theorem dC_eq (d : D) (ρ : EnvD) (M : Store) : dC d ρ M = .ok d M := rfl
@[simp] theorem dNil_eq (ρ : EnvD) (M : Store) : dNil ρ M = .ok [] M := rfl
@[simp] theorem dYes_eq (ρ : EnvD) (M : Store) : dYes ρ M = .ok true M := rfl

/-! ### what the pieces do, for simp -/
section
variable (ρ : EnvD) (M : Store)
@[simp] theorem dVar_eq (i : Nat) : dVar i ρ M = match ρ[i]? with
  | some (.val d) => .ok d M
  | _ => .bad := rfl
@[simp] theorem dVarB_eq (i : Nat) : dVarB i ρ M = match ρ[i]? with
  | some (.val d) => .ok d M
  | some (.own ds) => .ok (.lst ds) M
  | _ => .bad := rfl
@[simp] theorem dEF_eq (f : FE) : dEF f ρ M = (f ρ M).map Slot.d := rfl
@[simp] theorem dFE_eq (f : FD) : dFE f ρ M = (f ρ M).map Slot.val := rfl
@[simp] theorem dOp1_eq (g : Store → D → Option Slot) (f : FD) : dOp1 g f ρ M = (f ρ M).bind fun x M => R.of (g M x) M := rfl
@[simp] theorem dOp2_eq (g : Store → D → D → Option Slot) (fa fb : FD) : dOp2 g fa fb ρ M = (fa ρ M).bind fun x M => (fb ρ M).bind fun y M => R.of (g M x y) M := rfl
@[simp] theorem dPr_eq (g : Store → List D → Option Slot) (fs : FL) : dPr g fs ρ M = (fs ρ M).bind fun ds M => R.of (g M ds) M := rfl
@[simp] theorem dCons_eq (f : FD) (fs : FL) : dCons f fs ρ M = (f ρ M).bind fun d M => (fs ρ M).bind fun ds M => .ok (d :: ds) M := rfl
@[simp] theorem dTup_eq (fs : FL) : dTup fs ρ M = (fs ρ M).bind fun ds M => if ds.length ≤ sizeLine then .ok (.tup ds) M else .bad := rfl
@[simp] theorem dLst_eq (fs : FL) : dLst fs ρ M = (fs ρ M).bind fun ds M => if ds.length ≤ sizeLine then .ok (.own ds) M else .bad := rfl
@[simp] theorem dTru_eq (f : FD) : dTru f ρ M = (f ρ M).bind fun x M => R.of (truD M x) M := rfl
@[simp] theorem dBo_eq (f : FE) : dBo f ρ M = (f ρ M).bind fun x M => R.of (boD x.d) M := rfl
@[simp] theorem dNot_eq (f : FB) : dNot f ρ M = (f ρ M).map fun b => !b := rfl
@[simp] theorem dAnd_eq (f g : FB) : dAnd f g ρ M = (f ρ M).bind fun b M => if b then g ρ M else .ok false M := rfl
@[simp] theorem dOr_eq (f g : FB) : dOr f g ρ M = (f ρ M).bind fun b M => if b then .ok true M else g ρ M := rfl
@[simp] theorem dIf_eq (c : FB) (f g : FE) : dIf c f g ρ M = (c ρ M).bind fun b M => if b then f ρ M else g ρ M := rfl
@[simp] theorem dAndV_eq (f g : FE) : dAndV f g ρ M = (f ρ M).bind fun x M => match x with
  | .val (.bl true) => g ρ M
  | .val (.bl false) => .ok (.val (.bl false)) M
  | _ => .bad := rfl
@[simp] theorem dOrV_eq (f g : FE) : dOrV f g ρ M = (f ρ M).bind fun x M => match x with
  | .val (.bl true) => .ok (.val (.bl true)) M
  | .val (.bl false) => g ρ M
  | _ => .bad := rfl
@[simp] theorem dNotV_eq (f : FE) : dNotV f ρ M = (f ρ M).bind fun x M => match x with
  | .val (.bl b) => .ok (.val (.bl (!b))) M
  | _ => .bad := rfl
@[simp] theorem dMeth_eq (T : String) (g : Store → D → List D → Option Slot) (fo : FD) (fs : FL) : dMeth T g fo fs ρ M = (fo ρ M).bind fun x M => if tyD M x = some T then (fs ρ M).bind fun ds M => R.of (g M x ds) M else .bad := rfl
@[simp] theorem dMeth0_eq (T : String) (g : Store → D → List D → Option Slot) (fo : FD) : dMeth0 T g fo ρ M = (fo ρ M).bind fun x M => if tyD M x = some T then R.of (g M x []) M else .bad := rfl
@[simp] theorem dNo_eq : dNo ρ M = .ok none M := rfl
@[simp] theorem dSo_eq (f : FD) : dSo f ρ M = (f ρ M).bind fun x M => match x with
  | .int i => .ok (some i) M
  | _ => .bad := rfl
@[simp] theorem dSl_eq (g : Store → D → Option Int → Option Int → Option Slot) (f : FD) (lo hi : FO) : dSl g f lo hi ρ M = (f ρ M).bind fun x M => (lo ρ M).bind fun l M => (hi ρ M).bind fun u M => R.of (g M x l u) M := rfl
@[simp] theorem dCall_eq (n : Nat) (m : Fn) (fs : FL) : dCall n m fs ρ M = (fs ρ M).bind fun ds M => if ds.length = n then m ds M else .bad := rfl
@[simp] theorem dIt_eq (f : FD) : dIt f ρ M = (f ρ M).bind fun x M => R.of (itemsD x) M := rfl
@[simp] theorem dRng1_eq (fs : FL) : dRng1 fs ρ M = (fs ρ M).bind fun ds M => R.of (rng1D ds) M := rfl
@[simp] theorem dRng2_eq (fs : FL) : dRng2 fs ρ M = (fs ρ M).bind fun ds M => R.of (rng2D ds) M := rfl
@[simp] theorem dEnum_eq (fs : FL) : dEnum fs ρ M = (fs ρ M).bind fun ds M => match ds with
  | [.lst es] => .ok (enumL es) M
  | [.fro es] => .ok (enumL es) M
  | _ => .bad := rfl
@[simp] theorem dZip_eq (fs : FL) : dZip fs ρ M = (fs ρ M).bind fun ds M => match ds with
  | [.lst xs, .lst ys] => .ok (zipL xs ys) M
  | [.tup xs, .tup ys] => .ok (zipL xs ys) M
  | _ => .bad := rfl
@[simp] theorem dRev_eq (f : FD) : dRev f ρ M = (f ρ M).bind fun d M => match d with
  | .lst xs => .ok xs.reverse M
  | .fro xs => .ok xs.reverse M
  | .tup xs => .ok xs.reverse M
  | _ => .bad := rfl
@[simp] theorem dLc_eq (fi : FL) (b : D → EnvD → Option EnvD) (c : FB) (f : FD) (vs : List Nat) : dLc fi b c f vs ρ M = (fi ρ M).bind fun items M => (lcGo b c f (wipeD ρ vs) items [] M).map Slot.own := rfl
@[simp] theorem dChain_eq (g g' : Store → D → D → Option Slot) (fa fb fc : FD) : dChain g g' fa fb fc ρ M = (fa ρ M).bind fun x M => (fb ρ M).bind fun y M => match g M x y with
  | some (.val (.bl true)) => (fc ρ M).bind fun z M => R.of (g' M y z) M
  | some (.val (.bl false)) => .ok (.val (.bl false)) M
  | _ => .bad := rfl
@[simp] theorem dRef_eq (f : FE) : dRef f ρ M = (f ρ M).bind fun x M => match x with
  | .own ds => .ok (.val (.ref M.length)) (M ++ [.lst ds])
  | _ => .bad := rfl
@[simp] theorem dNewK_eq : dNewK ρ M = .ok (.ref M.length) (M ++ [.dK []]) := rfl
@[simp] theorem bName_eq (i : Nat) (d : D) : bName i d ρ = some (ρ.set i (.val d)) := rfl
@[simp] theorem sSeq_eq (g h : FS) : sSeq g h ρ M = match g ρ M with
  | .next ρ M => h ρ M
  | o => o := rfl
@[simp] theorem sExpr_eq (f : FE) : sExpr f ρ M = (f ρ M).out fun _ M => .next ρ M := rfl
@[simp] theorem sRet_eq (f : FE) : sRet f ρ M = (f ρ M).out fun x M => .ret x M := rfl
@[simp] theorem sRetN_eq : sRetN ρ M = .ret (.val .non) M := rfl
@[simp] theorem sRetV_eq (i : Nat) : sRetV i ρ M = match ρ[i]? with
  | some (.val d) => .ret (.val d) M
  | some (.own ds) => .ret (.own ds) M
  | _ => .bad := rfl
@[simp] theorem sSet_eq (i : Nat) (f : FE) : sSet i f ρ M = (f ρ M).out fun x M => match x with
  | .un => .bad
  | x => .next (ρ.set i x) M := rfl
@[simp] theorem sAsg_eq (b : D → EnvD → Option EnvD) (f : FD) : sAsg b f ρ M = (f ρ M).out fun x M => match b x ρ with
  | some ρ' => .next ρ' M
  | none => .bad := rfl
@[simp] theorem sPar_eq (i j : Nat) (fs : FL) : sPar i j fs ρ M = (fs ρ M).out fun ds M => match ds with
  | [x, y] => .next ((ρ.set i (.val x)).set j (.val y)) M
  | _ => .bad := rfl
@[simp] theorem sIf_eq (c : FB) (g h : FS) : sIf c g h ρ M = (c ρ M).out fun b M => if b then g ρ M else h ρ M := rfl
@[simp] theorem sFor_eq (fi : FL) (b : D → EnvD → Option EnvD) (body : FS) : sFor fi b body ρ M = (fi ρ M).out fun items M => forGo b body items ρ M := rfl
@[simp] theorem sApp_eq (i : Nat) (f : FD) : sApp i f ρ M = match ρ[i]? with
  | some (.own ds) => (f ρ M).out fun d M => if ds.length < sizeLine then .next (ρ.set i (.own (ds ++ [d]))) M else .bad
  | _ => .bad := rfl
@[simp] theorem sExt_eq (i : Nat) (f : FD) : sExt i f ρ M = match ρ[i]? with
  | some (.own ds) => (f ρ M).out fun d M => match lstOf M d with
    | some es => if ds.length + es.length ≤ sizeLine then .next (ρ.set i (.own (ds ++ es))) M else .bad
    | none => .bad
  | _ => .bad := rfl
@[simp] theorem sFz_eq (i : Nat) (g : FS) : sFz i g ρ M = match ρ[i]? with
  | some (.own ds) => g (ρ.set i (.val (.lst ds))) M
  | _ => g ρ M := rfl
@[simp] theorem sAug_eq (i : Nat) (g : Store → D → D → Option Slot) (f : FD) : sAug i g f ρ M = match ρ[i]? with
  | some (.val x) => (f ρ M).out fun y M => match g M x y with
    | some (.val z) => .next (ρ.set i (.val z)) M
    | _ => .bad
  | _ => .bad := rfl
@[simp] theorem sPutR_eq (f fo fi : FD) : sPutR f fo fi ρ M = (f ρ M).out fun x M => (fo ρ M).out fun o M => (fi ρ M).out fun i M => match o, i with
  | .ref k, .int j => match M[k]? with
    | some (.lst ds) => match ixN ds.length j with
      | some n => .next ρ (M.set k (.lst (ds.set n x)))
      | none => .bad
    | _ => .bad
  | _, _ => .bad := rfl
end
/-! ### primitives -/
section
variable (M : Store)
@[simp] theorem addD_int (i j : Int) : addD M (.int i) (.int j) = some (.val (.int (i + j))) := rfl
@[simp] theorem subD_int (i j : Int) : subD M (.int i) (.int j) = some (.val (.int (i - j))) := rfl
@[simp] theorem mulD_int (i j : Int) : mulD M (.int i) (.int j) = if mulOk i j then some (.val (.int (i * j))) else none := rfl
@[simp] theorem fdivD_int (i j : Int) : fdivD M (.int i) (.int j) = if 0 < j ∧ j < 1073741824 then some (.val (.int (i / j))) else if 0 < j ∧ j.natAbs.log2 < 9000 then some (.val (.int (i / j))) else if j ≠ 0 ∧ j.natAbs < 1073741824 then some (.val (.int (i.fdiv j))) else if j ≠ 0 ∧ j.natAbs.log2 < 9000 then some (.val (.int (i.fdiv j))) else none := rfl
@[simp] theorem modD_int (i j : Int) : modD M (.int i) (.int j) = if 0 < j then some (.val (.int (i % j))) else if j ≠ 0 then some (.val (.int (i.fmod j))) else none := rfl
@[simp] theorem powD_int (i j : Int) : powD M (.int i) (.int j) = if 0 ≤ j ∧ j ≤ 1000000 ∧ i.natAbs < 2 ^ 64 then some (.val (.int (i ^ j.toNat))) else none := rfl
@[simp] theorem negD_int (i : Int) : negD M (.int i) = some (.val (.int (-i))) := rfl
@[simp] theorem cmpD_int (p : Int → Int → Bool) (i j : Int) : cmpD p M (.int i) (.int j) = some (.val (.bl (p i j))) := rfl
@[simp] theorem boD_bl (b : Bool) : boD (.bl b) = some b := rfl
@[simp] theorem truD_bl (b : Bool) : truD M (.bl b) = some b := rfl
@[simp] theorem idxD_tup (ds : List D) (i : Int) : idxD M (.tup ds) (.int i) = (atI ds i).map Slot.val := rfl
@[simp] theorem idxD_kt (ds : List D) (i : Int) : idxD M (.kt ds) (.int i) = (atI ds i).map Slot.val := rfl
@[simp] theorem idxD_lst (ds : List D) (i : Int) : idxD M (.lst ds) (.int i) = (atI ds i).map Slot.val := rfl
@[simp] theorem idxD_str (z : Str) (i : Int) : idxD M (.str z) (.int i) = if z.length ≤ sizeLine then (atI z.cps.toList i).map fun c => .val (.str ⟨#[c]⟩) else none := rfl
@[simp] theorem lenD_lst (ds : List D) : lenD M [.lst ds] = some (.val (.int ds.length)) := rfl
@[simp] theorem lenD_fro (ds : List D) : lenD M [.fro ds] = some (.val (.int ds.length)) := rfl
@[simp] theorem lenD_tup (ds : List D) : lenD M [.tup ds] = some (.val (.int ds.length)) := rfl
@[simp] theorem lenD_str (z : Str) : lenD M [.str z] = if z.length ≤ sizeLine then some (.val (.int z.length)) else none := rfl
theorem idxD_ref {k : Nat} {ds : List D} (h : M[k]? = some (.lst ds)) (i : Int) : idxD M (.ref k) (.int i) = (atI ds i).map Slot.val := by
  simp [idxD, seqOf, lstOf, h]
end
@[simp] theorem rng1D_int (j : Int) : rng1D [.int j] = if -(2 ^ 62) ≤ j ∧ j < 2 ^ 62 then some (rngL 0 j.toNat) else none := rfl
@[simp] theorem rng2D_int (i j : Int) : rng2D [.int i, .int j] = if -(2 ^ 62) ≤ i ∧ i < 2 ^ 62 ∧ -(2 ^ 62) ≤ j ∧ j < 2 ^ 62 then some (rngL i (j - i).toNat) else none := rfl
theorem rng1_ok {j : Int} (h0 : -(2 ^ 62) ≤ j) (h1 : j < 2 ^ 62) : rng1D [.int j] = some (rngL 0 j.toNat) := by rw [rng1D_int, if_pos ⟨h0, h1⟩]
theorem rngL_get {lo : Int} {n i : Nat} {d : D} (h : (rngL lo n)[i]? = some d) : i < n ∧ d = .int (lo + i) := by
  have hi : i < n := by have := (List.getElem?_eq_some_iff.mp h).1; rwa [rngL_len] at this
  unfold rngL at h
  rw [List.getElem?_map, List.getElem?_range hi] at h
  cases h
  exact ⟨hi, rfl⟩
section
variable (M : Store)
theorem eqvD_int (i j : Int) : eqvD (.int i) (.int j) = decide (i = j) := by
  rw [Bool.eq_iff_iff]; simp [eqvD]
theorem eqvD_bl (i j : Bool) : eqvD (.bl i) (.bl j) = decide (i = j) := by
  rw [Bool.eq_iff_iff]; simp [eqvD]
theorem eqvD_str (i j : Str) : eqvD (.str i) (.str j) = decide (i = j) := by
  rw [Bool.eq_iff_iff]; simp [eqvD]
@[simp] theorem eqD_int (i j : Int) : eqD M (.int i) (.int j) = some (.val (.bl (decide (i = j)))) := by
  have h : eqD M (.int i) (.int j) = some (.val (.bl (eqvD (.int i) (.int j)))) := rfl
  rw [h, eqvD_int]
@[simp] theorem neD_int (i j : Int) : neD M (.int i) (.int j) = some (.val (.bl (!decide (i = j)))) := by
  have h : neD M (.int i) (.int j) = some (.val (.bl (!eqvD (.int i) (.int j)))) := rfl
  rw [h, eqvD_int]
@[simp] theorem eqD_bl (i j : Bool) : eqD M (.bl i) (.bl j) = some (.val (.bl (decide (i = j)))) := by
  have h : eqD M (.bl i) (.bl j) = some (.val (.bl (eqvD (.bl i) (.bl j)))) := rfl
  rw [h, eqvD_bl]
@[simp] theorem neD_bl (i j : Bool) : neD M (.bl i) (.bl j) = some (.val (.bl (!decide (i = j)))) := by
  have h : neD M (.bl i) (.bl j) = some (.val (.bl (!eqvD (.bl i) (.bl j)))) := rfl
  rw [h, eqvD_bl]
/-- signs as they are -/
def okStr (x : Str) : Bool := x.cps.all (· < 0x110000)
theorem eqS (i j : Str) : eqD M (.str i) (.str j) = some (.val (.bl (decide (i = j)))) := rfl
theorem neS (i j : Str) : neD M (.str i) (.str j) = some (.val (.bl (!decide (i = j)))) := rfl
theorem eqD_str {i j : Str} (hi : okStr i = true) (hj : okStr j = true) : eqD M (.str i) (.str j) = some (.val (.bl (decide (i = j)))) := rfl
theorem neD_str {i j : Str} (hi : okStr i = true) (hj : okStr j = true) : neD M (.str i) (.str j) = some (.val (.bl (!decide (i = j)))) := rfl
theorem strP_eqv {x y : D} {b : Bool} (h : strP x y = some b) : b = eqvD x y := by
  obtain ⟨i, j, rfl, rfl, rfl⟩ := strP_at h
  rw [eqvD_str]
theorem eqD_of {x y : D} (hx : goodD x = true) (hy : goodD y = true) (hd : dpD x ≤ 190) : eqD M x y = some (.val (.bl (eqvD x y))) := by
  unfold eqD
  split
  · rename_i b hb
    rw [strP_eqv hb]
  · rw [der_good M hx, der_good M hy, hx, hy, if_pos (by simp; omega)]
theorem neD_of {x y : D} (hx : goodD x = true) (hy : goodD y = true) (hd : dpD x ≤ 190) : neD M x y = some (.val (.bl (!eqvD x y))) := by
  unfold neD
  split
  · rename_i b hb
    rw [strP_eqv hb]
  · rw [der_good M hx, der_good M hy, hx, hy, if_pos (by simp; omega)]
end
theorem mulOk_l {i j : Int} (h : -(2 ^ 64) < i) (h' : i < 2 ^ 64) : mulOk i j = true := by
  unfold mulOk
  rw [decide_eq_true (show -(2 ^ 64) < i ∧ i < 2 ^ 64 from ⟨h, h'⟩)]
  rfl
theorem mulOk_r {i j : Int} (h : -(2 ^ 64) < j) (h' : j < 2 ^ 64) : mulOk i j = true := by
  unfold mulOk
  rw [decide_eq_true (show -(2 ^ 64) < j ∧ j < 2 ^ 64 from ⟨h, h'⟩), Bool.or_true]
  rfl
/-! ### comprehensions -/
theorem lcGo_fm {b : D → EnvD → Option EnvD} {c : FB} {f : FD} {ρ0 : EnvD} {M : Store} (p : D → Bool) (g : D → D) : ∀ (items acc : List D),
    (∀ d ∈ items, ∃ ρ1, b d ρ0 = some ρ1 ∧ c ρ1 M = .ok (p d) M ∧ (p d = true → f ρ1 M = .ok (g d) M)) → acc.length + items.length ≤ sizeLine → lcGo b c f ρ0 items acc M = .ok (acc ++ (items.filter p).map g) M
  | [], acc, _, _ => by simp [lcGo]
  | d :: ds, acc, h, hl => by
    obtain ⟨ρ1, h1, h2, h3⟩ := h d List.mem_cons_self
    unfold lcGo
    rw [h1]
    simp only
    rw [h2]
    rw [List.length_cons] at hl
    cases hp : p d with
    | false =>
      simp only
      rw [lcGo_fm p g ds acc (fun x hx => h x (List.mem_cons_of_mem _ hx)) (by omega), List.filter_cons_of_neg (by rw [hp]; decide)]
    | true =>
      simp only
      rw [h3 hp]
      simp only
      rw [if_pos (by omega), lcGo_fm p g ds (acc ++ [g d]) (fun x hx => h x (List.mem_cons_of_mem _ hx)) (by rw [List.length_append, List.length_singleton]; omega), List.filter_cons_of_pos hp, List.map_cons, List.append_assoc]
      rfl
theorem lcGo_map {b : D → EnvD → Option EnvD} {f : FD} {ρ0 : EnvD} {M : Store} (g : D → D) (items : List D) (h : ∀ d ∈ items, ∃ ρ1, b d ρ0 = some ρ1 ∧ f ρ1 M = .ok (g d) M) (hl : items.length ≤ sizeLine) : lcGo b dYes f ρ0 items [] M = .ok (items.map g) M := by
  rw [lcGo_fm (fun _ => true) g items [] (fun d hd => by obtain ⟨ρ1, h1, h2⟩ := h d hd; exact ⟨ρ1, h1, rfl, fun _ => h2⟩) (by simpa using hl)]
  rw [List.filter_eq_self.mpr (fun _ _ => rfl), List.nil_append]
/-- by an invariant over the turn, what is made so far, the store -/
theorem lcGo_inv {b : D → EnvD → Option EnvD} {f : FD} {ρ0 : EnvD} (I : Nat → List D → Store → Prop) (items : List D) (hl : items.length ≤ sizeLine)
    (step : ∀ i d acc M, items[i]? = some d → I i acc M → ∃ ρ1, b d ρ0 = some ρ1 ∧ ∃ y M', f ρ1 M = .ok y M' ∧ I (i + 1) (acc ++ [y]) M') :
    ∀ (n i : Nat) (acc : List D) (M : Store), n + i = items.length → acc.length = i → I i acc M → ∃ res M', lcGo b dYes f ρ0 (items.drop i) acc M = .ok res M' ∧ I items.length res M' ∧ res.length = items.length
  | 0, i, acc, M, e, ha, h => by
    have ei : i = items.length := by omega
    subst ei
    rw [List.drop_length]
    exact ⟨acc, M, rfl, h, ha⟩
  | n + 1, i, acc, M, e, ha, h => by
    have hi : i < items.length := by omega
    rw [List.drop_eq_getElem_cons hi]
    obtain ⟨ρ1, h1, y, M', h2, h3⟩ := step i items[i] acc M (List.getElem?_eq_getElem hi) h
    unfold lcGo
    rw [h1]
    simp only [dYes_eq]
    rw [h2]
    simp only
    rw [if_pos (by omega)]
    exact lcGo_inv I items hl step n (i + 1) (acc ++ [y]) M' (by omega) (by rw [List.length_append, ha]; rfl) h3
/-! ### loops -/
/-- a loop that goes on to its end -/
theorem forGo_inv {b : D → EnvD → Option EnvD} {body : FS} (I : Nat → EnvD → Store → Prop) (items : List D)
    (step : ∀ i d ρ M, items[i]? = some d → I i ρ M → ∃ ρ1, b d ρ = some ρ1 ∧ ((∃ ρ2 M2, body ρ1 M = .next ρ2 M2 ∧ I (i + 1) ρ2 M2) ∨ ∃ ρ2 M2, body ρ1 M = .cont ρ2 M2 ∧ I (i + 1) ρ2 M2)) :
    ∀ (n i : Nat) (ρ : EnvD) (M : Store), n + i = items.length → I i ρ M → ∃ ρ' M', forGo b body (items.drop i) ρ M = .next ρ' M' ∧ I items.length ρ' M'
  | 0, i, ρ, M, e, h => by
    have ei : i = items.length := by omega
    subst ei
    rw [List.drop_length]
    exact ⟨ρ, M, rfl, h⟩
  | n + 1, i, ρ, M, e, h => by
    have hi : i < items.length := by omega
    rw [List.drop_eq_getElem_cons hi]
    obtain ⟨ρ1, h1, h2⟩ := step i items[i] ρ M (List.getElem?_eq_getElem hi) h
    unfold forGo
    rw [h1]
    simp only
    rcases h2 with ⟨ρ2, M2, h2, h3⟩ | ⟨ρ2, M2, h2, h3⟩
    · rw [h2]
      exact forGo_inv I items step n (i + 1) ρ2 M2 (by omega) h3
    · rw [h2]
      exact forGo_inv I items step n (i + 1) ρ2 M2 (by omega) h3
theorem forGo_all {b : D → EnvD → Option EnvD} {body : FS} (I : Nat → EnvD → Store → Prop) (items : List D) {ρ : EnvD} {M : Store} (h0 : I 0 ρ M)
    (step : ∀ i d ρ M, items[i]? = some d → I i ρ M → ∃ ρ1, b d ρ = some ρ1 ∧ ∃ ρ2 M2, body ρ1 M = .next ρ2 M2 ∧ I (i + 1) ρ2 M2) : ∃ ρ' M', forGo b body items ρ M = .next ρ' M' ∧ I items.length ρ' M' := by
  have := forGo_inv (b := b) (body := body) I items (fun i d ρ M hd h => by obtain ⟨ρ1, h1, h2⟩ := step i d ρ M hd h; exact ⟨ρ1, h1, .inl h2⟩) items.length 0 ρ M rfl h0
  simpa using this
theorem size_ok {n : Nat} (h : n ≤ 1000000) : n ≤ sizeLine := Nat.le_trans h (by decide)
end TP
/-! TPn: the laws' own numbers. -/
namespace TP
open PySem L2
def cellM : FS := (sSeq (sPutR (dEF (dOp2 addD (dEF (dOp2 idxD (dVarB 1) (dC (.int 0)))) (dC (.int 1)))) (dVarB 1) (dC (.int 0))) (sSeq (sSet 2 (dFE (dEF (dOp2 idxD (dVarB 1) (dC (.int 0)))))) (sSeq (sSet 3 (dFE (dEF (dOp2 addD (dEF (dOp2 mulD (dEF (dOp2 mulD (dC (.int 31)) (dVarB 2))) (dVarB 2))) (dEF (dOp2 mulD (dC (.int 7919)) (dVarB 2))))))) (sSeq (sIf (dAnd (dBo (dOp2 (cmpD fun i j => decide (j < i)) (dEF (dPr lenD (dCons (dVarB 0) dNil))) (dC (.int 0)))) (dAnd (dBo (dOp2 (cmpD fun i j => decide (j ≤ i)) (dEF (dOp2 idxD (dVarB 0) (dEF (dOp2 modD (dVarB 2) (dEF (dPr lenD (dCons (dVarB 0) dNil))))))) (dEF (dOp2 powD (dC (.int 10)) (dC (.int 18)))))) (dBo (dOp2 (cmpD fun i j => decide (i < j)) (dEF (dOp2 fdivD (dVarB 2) (dEF (dPr lenD (dCons (dVarB 0) dNil))))) (dC (.int 60)))))) (sSeq (sSet 4 (dFE (dEF (dOp2 idxD (dVarB 0) (dEF (dOp2 modD (dVarB 2) (dEF (dPr lenD (dCons (dVarB 0) dNil))))))))) (sSeq (sFor (dRng1 (dCons (dEF (dOp2 fdivD (dVarB 2) (dEF (dPr lenD (dCons (dVarB 0) dNil))))) dNil)) (bName 5) (sSeq (sSet 4 (dFE (dEF (dOp2 fdivD (dVarB 4) (dC (.int 306783379)))))) sNil)) (sSeq (sIf (dBo (dOp2 (cmpD fun i j => decide (j < i)) (dVarB 4) (dC (.int 0)))) (sSeq (sRet (dOp2 modD (dVarB 4) (dC (.int 306783379)))) sNil) sNil) sNil))) sNil) (sSeq (sIf (dBo (dOp2 (cmpD fun i j => decide (j < i)) (dEF (dPr lenD (dCons (dVarB 0) dNil))) (dC (.int 0)))) (sSeq (sSet 3 (dFE (dEF (dOp2 addD (dVarB 3) (dEF (dOp2 mulD (dEF (dOp2 modD (dEF (dOp2 idxD (dVarB 0) (dEF (dOp2 modD (dVarB 2) (dEF (dPr lenD (dCons (dVarB 0) dNil))))))) (dC (.int 2147483629)))) (dEF (dOp2 addD (dC (.int 1)) (dEF (dOp2 fdivD (dVarB 2) (dEF (dPr lenD (dCons (dVarB 0) dNil))))))))))))) sNil) sNil) (sSeq (sRet (dOp2 fdivD (dEF (dOp2 modD (dEF (dOp2 mulD (dEF (dOp2 modD (dEF (dOp2 mulD (dVarB 3) (dC (.int 48271)))) (dC (.int 2147483647)))) (dC (.int 69621)))) (dC (.int 2147483629)))) (dC (.int 7)))) sNil))))))
theorem atI_ints {ns : List Int} {i : Int} (h0 : 0 ≤ i) (h1 : i < ns.length) : ∃ v, atI (ns.map D.int) i = some (.int v) := by
  have hi : i.toNat < ns.length := by omega
  have e : ((i.toNat : Nat) : Int) = i := by omega
  generalize i.toNat = j at hi e
  subst e
  refine ⟨ns[j], ?_⟩
  exact atI_nat (by rw [List.getElem?_map, List.getElem?_eq_getElem hi]; rfl)
set_option maxHeartbeats 2000000 in
theorem cell_genB (c : D) (ns : List Int) (hlen : ∀ M, lenD M [c] = some (.val (.int ns.length))) (hidx : ∀ M i, idxD M c (.int i) = (atI (ns.map D.int) i).map Slot.val) (j : Nat) (k : Int) (M : Store) (hns : ns.length ≤ 63) (hj : M[j]? = some (.lst [.int k])) (h0 : -1 ≤ k) (h1 : k < 2 ^ 40) :
    ∃ r : Int, (0 ≤ r ∧ r < 306783379) ∧ runF 6 cellM [c, .ref j] M = .ok (.val (.int r)) (M.set j (.lst [.int (k + 1)])) := by
  have hjl : j < M.length := (List.getElem?_eq_some_iff.mp hj).1
  have hM : (M.set j (.lst [.int (k + 1)]))[j]? = some (.lst [.int (k + 1)]) := List.getElem?_set_self hjl
  have a0 : ∀ d : D, atI [d] 0 = some d := fun d => rfl
  have i0 : ixN 1 0 = some 0 := rfl
  have m1 : mulOk 31 (k + 1) = true := mulOk_l (by decide) (by decide)
  have m2 : mulOk (31 * (k + 1)) (k + 1) = true := mulOk_r (by omega) (by omega)
  have m3 : mulOk 7919 (k + 1) = true := mulOk_l (by decide) (by decide)
  have m4 : ∀ x, mulOk x 48271 = true := fun x => mulOk_r (by decide) (by decide)
  have m5 : ∀ x, mulOk x 69621 = true := fun x => mulOk_r (by decide) (by decide)
  have fin : ∀ b : Int, 0 ≤ b * 48271 % 2147483647 * 69621 % 2147483629 / 7 ∧ b * 48271 % 2147483647 * 69621 % 2147483629 / 7 < 306783379 := fun b => by omega
  unfold runF cellM startD
  cases ns with
  | nil =>
    simp [hlen, hidx, idxD_ref _ hj, idxD_ref _ hM, hj, a0, i0, m1, m2, m3, m4, m5]
    exact fin _
  | cons n ns =>
    have hl : 0 < (n :: ns).length := by simp
    generalize hL : ((n :: ns).length : Nat) = L at hl hns
    generalize hA : n :: ns = all at hL hlen hidx
    have hp1 : 0 ≤ (k + 1) % (L : Int) := Int.emod_nonneg _ (by omega)
    have hp2 : (k + 1) % (L : Int) < L := Int.emod_lt_of_pos _ (by omega)
    obtain ⟨v, hv⟩ := atI_ints (ns := all) hp1 (by omega)
    have m6 : mulOk (v % 2147483629) (1 + (k + 1) / (L : Int)) = true := mulOk_l (by omega) (by omega)
    have hdiv : (L : Int) < 1073741824 := by omega
    have hq0 : 0 ≤ (k + 1) / (L : Int) := Int.ediv_nonneg (by omega) (by omega)
    have hq1 : (k + 1) / (L : Int) ≤ k + 1 := Int.ediv_le_self _ (by omega)
    simp only [List.replicate, List.map_cons, List.map_nil, List.length_cons, List.length_nil]
    by_cases hv2 : 1000000000000000000 ≤ v ∧ (k + 1) / (L : Int) < 60
    · -- its own digits
      have hr : -4611686018427387904 ≤ (k + 1) / (L : Int) ∧ (k + 1) / (L : Int) < 4611686018427387904 := ⟨by omega, by omega⟩
      obtain ⟨ρ', M', e1, ⟨x, y, e2⟩, e3⟩ := forGo_all (b := bName 5) (body := (sSeq (sSet 4 (dFE (dEF (dOp2 fdivD (dVarB 4) (dC (D.int 306783379)))))) sNil))
        (fun _ ρ N => (∃ (x : Int) (y : Slot), ρ = [Slot.val c, Slot.val (D.ref j), Slot.val (D.int (k + 1)), Slot.val (D.int (31 * (k + 1) * (k + 1) + 7919 * (k + 1))), Slot.val (D.int x), y]) ∧ N = M.set j (.lst [.int (k + 1)]))
        (rngL 0 ((k + 1) / (L : Int)).toNat) (ρ := [Slot.val c, Slot.val (D.ref j), Slot.val (D.int (k + 1)), Slot.val (D.int (31 * (k + 1) * (k + 1) + 7919 * (k + 1))), Slot.val (D.int v), .un]) (M := M.set j (.lst [.int (k + 1)])) ⟨⟨v, .un, rfl⟩, rfl⟩
        (fun i d ρ N hd ⟨⟨x, y, e⟩, eN⟩ => by
          subst e eN
          refine ⟨_, rfl, _, _, by simp; rfl, ⟨x / 306783379, .val d, by simp⟩, rfl⟩)
      subst e2 e3
      by_cases hx : 0 < x
      · refine ⟨x % 306783379, by omega, ?_⟩
        simp [hlen, hidx, idxD_ref _ hj, idxD_ref _ hM, hj, a0, i0, m1, m2, m3, m4, m5, m6, hL, hv, hdiv, hl, hv2.1, hv2.2, hr, e1, hx]
      · simp [hlen, hidx, idxD_ref _ hj, idxD_ref _ hM, hj, a0, i0, m1, m2, m3, m4, m5, m6, hL, hv, hdiv, hl, hv2.1, hv2.2, hr, e1, hx]
        exact fin _
    · have hv3 : (if 1000000000000000000 ≤ v then decide ((k + 1) / (L : Int) < 60) else false) = false := by
        split
        · exact decide_eq_false fun z => hv2 ⟨by assumption, z⟩
        · rfl
      by_cases hv4 : 1000000000000000000 ≤ v
      · have hv5 : ¬ (k + 1) / (L : Int) < 60 := fun z => hv2 ⟨hv4, z⟩
        simp [hlen, hidx, idxD_ref _ hj, idxD_ref _ hM, hj, a0, i0, m1, m2, m3, m4, m5, m6, hL, hv, hdiv, hl, hv4, hv5]
        exact fin _
      · simp [hlen, hidx, idxD_ref _ hj, idxD_ref _ hM, hj, a0, i0, m1, m2, m3, m4, m5, m6, hL, hv, hdiv, hl, hv4]
        exact fin _

theorem cell_gen (c : D) (ns : List Int) (hlen : ∀ M, lenD M [c] = some (.val (.int ns.length))) (hidx : ∀ M i, idxD M c (.int i) = (atI (ns.map D.int) i).map Slot.val) (j : Nat) (k : Int) (M : Store) (hns : ns.length ≤ 63) (hj : M[j]? = some (.lst [.int k])) (h0 : -1 ≤ k) (h1 : k < 2 ^ 40) :
    ∃ r : Int, 0 ≤ r ∧ runF 6 cellM [c, .ref j] M = .ok (.val (.int r)) (M.set j (.lst [.int (k + 1)])) := by
  obtain ⟨r, h, e⟩ := cell_genB c ns hlen hidx j k M hns hj h0 h1
  exact ⟨r, h.1, e⟩

theorem cell_fro (ns : List Int) (j : Nat) (k : Int) (M : Store) (hns : ns.length ≤ 63) (hj : M[j]? = some (.lst [.int k])) (h0 : -1 ≤ k) (h1 : k < 2 ^ 40) :
    ∃ r : Int, 0 ≤ r ∧ runF 6 cellM [.fro (ns.map .int), .ref j] M = .ok (.val (.int r)) (M.set j (.lst [.int (k + 1)])) :=
  cell_gen _ ns (fun M => by show some (Slot.val (D.int (List.map D.int ns).length)) = _; rw [List.length_map]) (fun M i => rfl) j k M hns hj h0 h1
theorem cell_ok (ns : List Int) (j : Nat) (k : Int) (M : Store) (hns : ns.length ≤ 63) (hj : M[j]? = some (.lst [.int k])) (h0 : -1 ≤ k) (h1 : k < 2 ^ 40) :
    ∃ r : Int, 0 ≤ r ∧ runF 6 cellM [.lst (ns.map .int), .ref j] M = .ok (.val (.int r)) (M.set j (.lst [.int (k + 1)])) :=
  cell_gen _ ns (fun M => by show some (Slot.val (D.int (List.map D.int ns).length)) = _; rw [List.length_map]) (fun M i => rfl) j k M hns hj h0 h1
theorem cell_okB (ns : List Int) (j : Nat) (k : Int) (M : Store) (hns : ns.length ≤ 63) (hj : M[j]? = some (.lst [.int k])) (h0 : -1 ≤ k) (h1 : k < 2 ^ 40) :
    ∃ r : Int, (0 ≤ r ∧ r < 306783379) ∧ runF 6 cellM [.lst (ns.map .int), .ref j] M = .ok (.val (.int r)) (M.set j (.lst [.int (k + 1)])) :=
  cell_genB _ ns (fun M => by show some (Slot.val (D.int (List.map D.int ns).length)) = _; rw [List.length_map]) (fun M i => rfl) j k M hns hj h0 h1
end TP
/-! TPo: more for reckoning: dicts, the laws' numbers out of any row. -/
namespace TP
open PySem L2
section
variable (ρ : EnvD) (M : Store)
@[simp] theorem dTab_eq (tab : List (Str × D)) (f : FD) : dTab tab f ρ M = (f ρ M).bind fun y M => match y with
  | .str z => R.of (tabFind tab z) M
  | _ => .bad := rfl
@[simp] theorem dNewT_eq : dNewT ρ M = .ok (.ref M.length) (M ++ [.dT []]) := rfl
@[simp] theorem sPutD_eq (f fo fi : FD) : sPutD f fo fi ρ M = (f ρ M).out fun z M => (fo ρ M).out fun x M => (fi ρ M).out fun y M => match dPutM M x y z with
  | some M' => .next ρ M'
  | none => .bad := rfl
@[simp] theorem dDisp_eq (ks : List Str) (fs : List FD) : dDisp ks fs ρ M = (dVals fs ρ M).bind fun ds M => if ds.length = ks.length ∧ ks.length ≤ 15 then .ok (.ref M.length) (M ++ [.dK (mergeD ks ds)]) else .bad := rfl
end
end TP
/-! TPk: promises of defs where no repr is under way (guards), calls by them, the law's end. -/
namespace TP
open PySem L2
/-- a def's promise, wherever no repr is under way -/
structure GOk (P : Program) (wo : World) (K : PySem.W.Frag) (mg : Str → Option Value) (base : Heap) (CX : CXT) (k : Nat) (f : Addr) (fd : FuncData) (ps : List Str) (sp : Sp) : Prop where
  len : ∀ vs H Q EX, sp vs H Q EX → vs.length = ps.length
  go : ∀ (A : Around) (outer : List Env) (s : Shared) (H : Hp) (ar : Args) (us : List Value) (vs : List V) (Q : VK) (EX : XK),
    Room k A → A.guards = some [] → Env0 P wo K mg base A outer s H → BindsTo s fd ar (ps.zip us) → Vals vs us → sp vs H Q EX →
    codeAny (model P wo) A (.call (.ref f) ar) (CR CX outer P wo H s Q EX) s
section
variable {X : Cx} {CX : CXT} {k : Nat} {f C : Addr} {fd : FuncData} {ps : List Str} {sp : Sp} {EX : XK} {x m : Str} {p pos apos : Pos} {e o : Expr} {es : List Expr} {ta : TE} {t : TA}
theorem g_run {pins : List (Addr × Obj)} {σ : St} {H : Hp} {s : Shared} {Q : VK} {us : List Value} {vs : List V} (F : GOk X.prog X.w X.K X.mg X.base CX k f fd ps sp) (hr : Room k X.A) (hq : X.A.guards = some [])
    (hb : Binds X.K fd ps []) (hx : Passes CX X EX) (I : Inv X pins σ H s) (r : Vals vs us) (h : sp vs H Q EX) : wpAny (model X.prog X.w) X.A (call (.ref f) us) (EP X pins σ Q) X.xe s := by
  have hl : (us ++ []).length = ps.length := by
    rw [List.append_nil, ← r.length]
    exact F.len _ _ _ _ h
  have hb' := hb s us I.kIn hl
  rw [List.append_nil] at hb'
  refine wpAny_call (codeAny_mono (F.go X.A X.stack s H ⟨us, []⟩ us vs Q EX hr hq I.env0 hb' r h) fun z s' hz => ?_)
  match z, hz with
  | .error er, hz => exact hx pins σ H s er s' I hz
  | .ok (.ret u), hz => exact I.after hz
  | .ok .next, hz => exact False.elim hz
  | .ok .brk, hz => exact False.elim hz
  | .ok .cont, hz => exact False.elim hz
/-- f(e, ..) -/
theorem g_call (F : GOk X.prog X.w X.K X.mg X.base CX k f fd ps sp) (hr : Room k X.A) (hq : X.A.guards = some []) (hg : Gl X x) (hm : X.mg x = some (.ref f)) (hk : PySem.W.keepIn X.K (.ref f) = true) (hb : Binds X.K fd ps [])
    (hx : Passes CX X EX) (ha : PA X (e :: es) t) (hdb : (x == ("__debug__" : Str)) = false := by decide) (he : starEach (e :: es) X.env = (false, eval e X.env) :: starEach es X.env := by rfl)
    (hpl : (backTo pos (starEach es X.env)).any (·.1) = false := by rfl) : PE X (.Call (.Name x p) (e :: es) [] pos) (tCall sp [] EX t) :=
  ⟨fun pins s σ H Q I h => wpAny_Call_Name_kw (ld_glob I hg hm (PySem.W.callWith_K (h₀ := X.base) I.ok.mod.kin hk
    (thn (ha.run pos pins s σ H _ I h) fun us s1 ⟨vs, H1, I1, r, q⟩ => ⟨I1.kIn, g_run F hr hq hb hx I1 r (by have q' : sp (vs ++ []) H1 Q EX := q; rw [List.append_nil] at q'; exact q')⟩) he hpl) hdb)⟩
/-- f() -/
theorem g_call0 (F : GOk X.prog X.w X.K X.mg X.base CX k f fd ps sp) (hr : Room k X.A) (hq : X.A.guards = some []) (hg : Gl X x) (hm : X.mg x = some (.ref f)) (hk : PySem.W.keepIn X.K (.ref f) = true) (hb : Binds X.K fd ps [])
    (hx : Passes CX X EX) (hdb : (x == ("__debug__" : Str)) = false := by decide) : PE X (.Call (.Name x p) [] [] pos) (tCall sp [] EX tNil) :=
  ⟨fun pins s σ H Q I h => wpAny_Call_Name_kw (ld_glob I hg hm (PySem.W.callWith_K0 I.kIn hk (g_run (us := []) F hr hq hb hx I .nil h)) hdb)⟩
/-- o.m(e, ..) -/
theorem g_meth {pl : Sem Bool} (he : PE X o ta) (c : Cls X.K C) (hm : Meth X.K C m f) (F : GOk X.prog X.w X.K X.mg X.base CX k f fd ps sp) (hr : Room k X.A) (hq : X.A.guards = some []) (hb : Binds X.K fd ps []) (hx : Passes CX X EX)
    (ha : PA X (e :: es) t) (hst : starEach (e :: es) X.env = (false, eval e X.env) :: starEach es X.env := by rfl) (hpl : (backTo pos (starEach es X.env)).any (·.1) = false := by rfl)
    (ht : eval (.Call (.Attribute o m apos) (e :: es) [] pos) X.env = (do
      let ov ← eval o X.env
      standAt apos.atName
      let (fv, first) ← holding [ov] (getMethod ov m pl)
      callWith pos fv first (backTo pos (starEach (e :: es) X.env)) (backToKw pos (keywordEach [] X.env))) := by rfl) :
    PE X (.Call (.Attribute o m apos) (e :: es) [] pos) (tMeth C m sp [] EX ta t) := by
  constructor
  intro pins s σ H Q I h
  refine PySem.W.methodCall_KW (pl := pl) (thn (he.run pins s σ H _ I h) ?_) ht
  rintro u s1 ⟨_, H1, I1, rx, a, dx, fs, rfl, ea, l, q⟩
  obtain rfl : u = Value.ref a := rx
  refine getmeth_ok I1 ea c hm l (PySem.W.callWith_K (first := [.ref a]) (h₀ := X.base) I.ok.mod.kin hm.kp (thn (ha.run pos pins s1 σ H1 _ I1 q) ?_) hst hpl)
  rintro us s2 ⟨vs, H2, I2, r, q2⟩
  have q2' : sp (V.ref a :: (vs ++ [])) H2 Q EX := q2
  rw [List.append_nil] at q2'
  exact ⟨I2.kIn, g_run (us := .ref a :: us) (vs := .ref a :: vs) F hr hq hb hx I2 (.cons rfl r) q2'⟩
/-- o.m() -/
theorem g_meth0 {pl : Sem Bool} (he : PE X o ta) (c : Cls X.K C) (hm : Meth X.K C m f) (F : GOk X.prog X.w X.K X.mg X.base CX k f fd ps sp) (hr : Room k X.A) (hq : X.A.guards = some []) (hb : Binds X.K fd ps []) (hx : Passes CX X EX)
    (ht : eval (.Call (.Attribute o m apos) [] [] pos) X.env = (do
      let ov ← eval o X.env
      standAt apos.atName
      let (fv, first) ← holding [ov] (getMethod ov m pl)
      callWith pos fv first (backTo pos (starEach [] X.env)) (backToKw pos (keywordEach [] X.env))) := by rfl) :
    PE X (.Call (.Attribute o m apos) [] [] pos) (tMeth C m sp [] EX ta tNil) := by
  constructor
  intro pins s σ H Q I h
  refine PySem.W.methodCall_KW (pl := pl) (thn (he.run pins s σ H _ I h) ?_) ht
  rintro u s1 ⟨_, H1, I1, rx, a, dx, fs, rfl, ea, l, q⟩
  obtain rfl : u = Value.ref a := rx
  exact getmeth_ok I1 ea c hm l (PySem.W.callWith_K0 (first := [.ref a]) I1.kIn hm.kp (g_run (us := [.ref a]) (vs := [.ref a]) F hr hq hb hx I1 (.cons rfl .nil) q))
theorem make_guards {A : Around} {us : List Value} {kw : List (Str × Value)} (h : A.guards = some []) : (A.under (.builtin "type.__call__" ⟨.ref C :: us, kw⟩)).guards = some [] := by
  first | exact h | simp [Around.under, Code.guards, Code.isGuard, pushGuards, guardIds, h]
theorem g_mk {pins : List (Addr × Obj)} {σ : St} {H : Hp} {s : Shared} {Q : VK} {us : List Value} {vs : List V} (M : Mk X.K C f) (F : GOk X.prog X.w X.K X.mg X.base CX k f fd ps sp) (hr : Room (k + 1) X.A) (hq : X.A.guards = some [])
    (hb : Binds X.K fd ps []) (hx : Passes CX X EX) (I : Inv X pins σ H s) (r : Vals vs us)
    (h : ∀ y dx, H y = none → H dx = none → dx ≠ y → sp (.ref y :: vs) (upd (upd H dx (.own y)) y (.ins C dx [])) (fun v H2 => v = .non ∧ Q (.ref y) H2) EX) :
    wpAny (model X.prog X.w) X.A (call (.ref C) us) (EP X pins σ Q) X.xe s := by
  generalize hz : s.heap.objs.size = z at *
  have f0 : H z = none := I.hok.fresh (by omega)
  have f1 : H (z + 1) = none := I.hok.fresh (by omega)
  have h1 := h (z + 1) z f1 f0 (Nat.ne_of_lt (Nat.lt_succ_self z))
  have I2 := Inv.made (C := C) I
  rw [hz] at I2
  have r2 : Vals (V.ref (z + 1) :: vs) (Value.ref (z + 1) :: us) := .cons rfl r
  have hl : ((Value.ref (z + 1) :: us) ++ []).length = ps.length := by
    rw [List.append_nil, ← r2.length]
    exact F.len _ _ _ _ h1
  have hb' := hb _ (Value.ref (z + 1) :: us) I2.kIn hl
  rw [List.append_nil] at hb'
  refine wpAny_call (make_map (f := f) I.kIn M.makes M.init (beq_iff_eq.mp M.fn) ?_)
  rw [hz]
  refine codeAny_mono (F.go _ X.stack _ _ ⟨Value.ref (z + 1) :: us, []⟩ (Value.ref (z + 1) :: us) _ _ EX (hr.make C us []) (make_guards hq) (I2.env0.make C us []) hb' r2 h1) fun w s' hw => ?_
  match w, hw with
  | .error er, hw => exact hx pins σ _ _ er s' I2 hw
  | .ok .next, hw => exact False.elim hw
  | .ok .brk, hw => exact False.elim hw
  | .ok .cont, hw => exact False.elim hw
  | .ok (.ret u), hw =>
    obtain ⟨v, H', I3, rv, ev, q3⟩ := I2.after hw
    subst ev
    exact ⟨rv, V.ref (z + 1), H', I3, rfl, q3⟩
/-- C(e, ..) -/
theorem g_make (M : Mk X.K C f) (F : GOk X.prog X.w X.K X.mg X.base CX k f fd ps sp) (hr : Room (k + 1) X.A) (hq : X.A.guards = some []) (hg : Gl X x) (hm : X.mg x = some (.ref C)) (hb : Binds X.K fd ps []) (hx : Passes CX X EX)
    (ha : PA X (e :: es) t) (hdb : (x == ("__debug__" : Str)) = false := by decide) (he : starEach (e :: es) X.env = (false, eval e X.env) :: starEach es X.env := by rfl)
    (hpl : (backTo pos (starEach es X.env)).any (·.1) = false := by rfl) : PE X (.Call (.Name x p) (e :: es) [] pos) (tMake C sp [] EX t) :=
  ⟨fun pins s σ H Q I h => wpAny_Call_Name_kw (ld_glob I hg hm (PySem.W.callWith_K (h₀ := X.base) I.ok.mod.kin M.kp
    (thn (ha.run pos pins s σ H _ I h) fun us s1 ⟨vs, H1, I1, r, q⟩ => ⟨I1.kIn, g_mk M F hr hq hb hx I1 r fun y dx h1 h2 h3 => by have := q y dx h1 h2 h3; rw [List.append_nil] at this; exact this⟩) he hpl) hdb)⟩
end
section
open PySem.Spec PyProof.Rows
variable {K : PySem.W.Frag}
/-- a def by its body, wherever no repr is under way -/
theorem g_of {CX : CXT} {P : Program} {wo : World} {mg : Str → Option Value} {base : Heap} {x qual : Str} {st : Stmt} {f : Addr} {fd : FuncData} {N ps : List Str} {k : Nat} {sp : Sp} (F : Fun K x qual st f fd) (S : FnScope N ps (defScope st))
    (len : ∀ vs H Q EX, sp vs H Q EX → vs.length = ps.length)
    (hbody : ∀ (cdv : Value) (A : Around) (outer : List Env) (s : Shared) (H : Hp) (vs : List V) (Q : VK) (EX : XK), Room k (A.deeper (envOfC qual (defScope st) s.heap.objs.size f cdv)) → (A.deeper (envOfC qual (defScope st) s.heap.objs.size f cdv)).guards = some [] → sp vs H Q EX →
      ∃ t, PSs (cxOf CX P wo K mg base N qual (defScope st) f cdv A outer s H EX) (defBody st) t ∧ t { nx := fun _ H' => Q .non H', rt := Q } (L2.start N vs) H) : GOk P wo K mg base CX (k + 1) f fd ps sp := by
  obtain ⟨oc, od, kV, doc, pm, an, cdv, ct, osl, rfl, lk, hcd⟩ := F.ex
  refine ⟨len, ?_⟩
  intro A outer s H ar us vs Q EX hr hq e0 hb r hsp
  have hl := len _ _ _ _ hsp
  have kin : K.In s.heap := e0.mod.kin.keeps fun b o z => (e0.bs b o z).1
  have nl : s.heap.NoLimit := e0.mod.nolimit.keeps fun b o z => (e0.bs b o z).1
  have kinds : ∀ y ∈ ps.zip us, (defScope st).names.lookup y.1 = some .local
      ∨ ((defScope st).names.lookup y.1 = some .cell ∧ ((cellsFrom (s.heap.objs.size + 1) (defScope st).names []).lookup y.1).isSome = true) := by
    rintro ⟨n, v⟩ hy
    exact (S.par n (List.of_mem_zip hy).1).imp id fun z => ⟨z, PySem.W.cellsFrom_some _ _ _ (.inl z)⟩
  refine codeAny_call_function hr.depth (kin _ _ lk) rfl S.co S.gen rfl (PySem.W.codeRec_of kin hcd) (hb _ _ _ _ ?_)
  refine wpAny_newFunctionEnv_cells S.kind kinds ?_
  rintro env rfl s1 xc
  refine ⟨nl.keeps xc.toInCall.keep, codeAny_func ?_⟩
  obtain ⟨t, ht, hg⟩ := hbody cdv A outer s H vs Q EX (hr.deeper _) hq hsp
  refine wpAny_mono (ht.run [] s1 (L2.start N vs) H _ (inv_start S hr.hd e0 hl r xc) hg) (fun fl s' hs => ?_) fun er s' hs => hs
  match fl, hs with
  | .ret u, ⟨v, σ', H', J, rv, q⟩ => exact ⟨v, H', J.os, J.bare, J.base, J.hok, rv, q⟩
  | .next, ⟨σ', H', J, q⟩ => exact ⟨V.non, H', J.os, J.bare, J.base, J.hok, rfl, q⟩
  | .brk, ⟨_, _, _, q⟩ => exact False.elim q
  | .cont, ⟨_, _, _, q⟩ => exact False.elim q
/-- a def that lets no exception out -/
theorem g_fn {P : Program} {wo : World} {mg : Str → Option Value} {base : Heap} {x qual : Str} {st : Stmt} {f : Addr} {fd : FuncData} {N ps : List Str} {k : Nat} {g : FS} (F : Fun K x qual st f fd) (S : FnScope N ps (defScope st))
    (hbody : ∀ (cdv : Value) (A : Around) (outer : List Env) (s : Shared) (H : Hp) (EX : XK), Room k (A.deeper (envOfC qual (defScope st) s.heap.objs.size f cdv)) → (A.deeper (envOfC qual (defScope st) s.heap.objs.size f cdv)).guards = some [] →
      PSs (cxOf CX0 P wo K mg base N qual (defScope st) f cdv A outer s H EX).nox (defBody st) (tS K E00 g)) : GOk P wo K mg base CX0 (k + 1) f fd ps (spD K W0 ps.length (runF N.length g)) := by
  refine g_of F S (fun vs H Q EX h => h.1) (fun cdv A outer s H vs Q EX hr hq h => ?_)
  refine ⟨_, (hbody cdv A outer s H EX hr hq).nox, ?_⟩
  obtain ⟨hl, ds, w, rfl, ok, rl, a⟩ := h
  refine ⟨startD N.length ds, w, w, rfl, Step.refl ok, SR.start rl, OF.start w _ _ _, ?_⟩
  unfold runF at a
  cases q : g (startD N.length ds) w.M with
  | next ρ M => rw [q] at a; exact fun w' σ s' _ eM _ _ => a w' s' eM .non .non
  | ret y M => rw [q] at a; exact fun w' v s' eM rv => a w' s' eM v rv
  | exc c d M => rw [q] at a; exact fun w1 s1 _ e1 => a w1 s1 e1
  | brk ρ M => rw [q] at a; exact a.elim
  | cont ρ M => rw [q] at a; exact a.elim
  | bad => rw [q] at a; exact a.elim
theorem g_zero {P : Program} {wo : World} {mg : Str → Option Value} {base : Heap} {f : Addr} {fd : FuncData} {ps : List Str} {n : Nat} (hn : n = ps.length := by rfl) : GOk P wo K mg base CX0 0 f fd ps (spD K W0 n (fun _ _ => .bad)) :=
  ⟨fun vs H Q EX h => h.1.trans hn, fun A outer s H args us vs Q EX _ _ _ _ _ h => by
    obtain ⟨_, ds, w, _, _, _, a⟩ := h
    exact a.elim⟩
/-- the law's def at the heap behind the top -/
theorem g_law {P : Program} {wo : World} {mg mb : Str → Option Value} {CX : CXT} {k : Nat} {fa a : Addr} {fd : FuncData} {x : Str} {sp : Sp} {s₁ : Shared} {vs : List Value} {ns : List Int}
    (KX : K.In s₁.heap) (hns : s₁.heap.Ns mainGlobals mg) (hb : s₁.heap.Ns builtinsNs mb) (hbb : ∀ y : Str, y ≠ "__name__" → mb y = bootBuiltins y) (hlim : s₁.heap.NoLimit) (hg : s₁.gens = #[])
    (ha : s₁.heap.get? a = some { cls := .type "list", data := .seq vs.toArray }) (hi : IntsAre vs ns) (hl : ns.length ≤ sizeLine) (hr : Room k callerA)
    (F : ∀ base : Heap, K.In base → base.Ns mainGlobals mg → GOk P wo K mg base CX k fa fd [x] sp) (hbind : ∀ (s : Shared) (u : Value), BindsTo s fd ⟨[u], []⟩ [(x, u)])
    (hsp : ∀ H : Hp, Only H → SqL K H a (ns.map V.int) → sp [.ref a] H (fun v _ => v = .bl true) fun _ _ _ => False)
    (hCX : ∀ H er s', CX [] H s₁ (fun _ _ _ => False) er s' → False) :
    codeAny (model P wo) callerA (.call (.ref fa) ⟨[.ref a], []⟩) (fun z s' => z = .ok (.ret (.bool true)) ∧ OldK s₁.heap s'.heap ∧ s'.os = s₁.os ∧ AllBare s'.gens) s₁ := by
  have key : ∀ H : Hp, Only H → SqL K H a (ns.map V.int) → HOk P wo H s₁.heap → (∀ b, H b ≠ none → b = a) → (H a ≠ none → K.lookup a = none) →
      codeAny (model P wo) callerA (.call (.ref fa) ⟨[.ref a], []⟩) (fun z s' => z = .ok (.ret (.bool true)) ∧ OldK s₁.heap s'.heap ∧ s'.os = s₁.os ∧ AllBare s'.gens) s₁ := by
    intro H hO hS hok hA hK
    have free : ∀ {b : Addr}, b ≠ a → H b = none := fun {b} hb => by
      by_cases q : H b = none
      · exact q
      · exact absurd (hA b q) hb
    have keepNs : ∀ {b : Addr} {m : Str → Option Value}, s₁.heap.Ns b m → (hidT s₁.heap H).Ns b m := by
      rintro b m ⟨o, es, ep, h1, h2, h3⟩
      refine ⟨o, es, ep, hidT_get h1 (free fun hz => ?_), h2, h3⟩
      subst hz
      rw [ha] at h1
      cases h1
      cases h2
    have hKb : K.In (hidT s₁.heap H) := by
      intro b o hbo
      refine hidT_get (KX b o hbo) ?_
      by_cases q : H b = none
      · exact q
      · have hz := hA b q
        subst hz
        rw [hK q] at hbo
        cases hbo
    have M0 : Mod K mg (hidT s₁.heap H) := by
      obtain ⟨mc, l1, l2⟩ := hlim
      exact ⟨hKb, keepNs hns, ⟨mb, keepNs hb, hbb⟩, mc, keepNs l1, l2⟩
    have e0 : Env0 P wo K mg (hidT s₁.heap H) callerA [] s₁ H :=
      { frames := rfl, mod := M0, bs := fun b o z => of_hidT z, bsz := Nat.le_of_eq (hidT_size _ _), funs := trivial,
        frf := fun b z => (List.not_mem_nil (show b ∈ ([] : List Addr) from z)).elim, hok := hok, bare := .of_eq hg }
    refine codeAny_mono ((F _ hKb (keepNs hns)).go callerA [] s₁ H ⟨[.ref a], []⟩ [.ref a] [.ref a] _ _ hr rfl e0 (hbind s₁ (.ref a)) (.cons rfl .nil) (hsp H hO hS)) fun z s' h => ?_
    match z, h with
    | .error er, h => exact (hCX H er s' h).elim
    | .ok .next, h => exact False.elim h
    | .ok .brk, h => exact False.elim h
    | .ok .cont, h => exact False.elim h
    | .ok (.ret u), ⟨v, H', os, bare, un, hok', rv, (q : v = .bl true)⟩ =>
      subst q
      obtain rfl : u = Value.bool true := rv
      refine ⟨rfl, OldK.of_keep fun b o hbo => ?_, os, bare⟩
      rcases hO b with hn | ⟨ob, xs, hs⟩
      · exact un.keep b o hbo hn (fun z => (List.not_mem_nil (show b ∈ ([] : List Addr) from z)).elim) (by simp)
      · have h1 := (hok b _ hs).1
        have h2 := (hok' b _ (un.frzs b ob _ hs)).1
        rw [hbo] at h1
        cases h1
        exact h2
  have rv : Vals (ns.map V.int) vs := vals_ints hi
  by_cases hk : K.lookup a = none
  · have at_a : ∀ b, (if b = a then some (HO.frz { cls := .type "list", data := .seq vs.toArray } (.lst (ns.map V.int))) else none) ≠ none → b = a := fun b hb => by
      by_cases z : b = a
      · exact z
      · exact absurd (if_neg z) hb
    refine key (fun b => if b = a then some (.frz { cls := .type "list", data := .seq vs.toArray } (.lst (ns.map V.int))) else none) (fun b => ?_) (.inl (.inr ⟨_, if_pos rfl⟩)) (fun b u hu => ?_) at_a fun _ => hk
    · by_cases z : b = a
      · exact .inr ⟨_, _, if_pos z⟩
      · exact .inl (if_neg z)
    · have z := at_a b (fun hz => by have hu' := hz.symm.trans hu; cases hu')
      subst z
      have hu' := (if_pos rfl).symm.trans hu
      cases hu'
      exact ⟨ha, by rw [List.length_map]; exact hl, vs, _, rv, ha⟩
  · obtain ⟨o, ho⟩ := Option.ne_none_iff_exists'.mp hk
    have h1 := KX a o ho
    rw [ha] at h1
    cases h1
    refine key (fun _ => none) (fun _ => .inl rfl) (.inr ⟨_, vs.toArray, _, ho, rfl, rfl, rfl, by rw [List.size_toArray, hi.length]; exact hl, by simpa using rv⟩) (fun b u hu => ?_) (fun b z => absurd rfl z) fun z => absurd rfl z
    exact absurd hu (fun z => by cases z)
end
open PySem.Spec PyProof.Rows in
/-- the end of a law -/
theorem g_walk {l : PySem.W.OpenLaw} {n k : Nat} {q : Program} {loose : List Str} {XP : (Str → Option Value) → Heap → Prop} {YP : World → Heap → Prop} {d : DefRec} {K : Params → PySem.W.Frag} {CX : World → CXT} {sp : World → Sp} {x : Str}
    (hn : l.most = some n) (hn2 : n ≤ sizeLine) (hdf : d.params.defaults = []) (hr : Room k callerA) (hY : ∀ (w : World) (h : Heap), YP w h → (K w.params).In h)
    (F : ∀ (w : World) (mg : Str → Option Value) (fa : Addr) (h : Heap), (K w.params).In h → h.Ns mainGlobals mg → mg d.name = some (.ref fa) →
      ∃ fd : FuncData, (∀ (s : Shared) (u : Value), BindsTo s fd ⟨[u], []⟩ [(x, u)]) ∧ ∀ base : Heap, (K w.params).In base → base.Ns mainGlobals mg → GOk l.prog w (K w.params) mg base (CX w) k fa fd [x] (sp w))
    (hsp : ∀ (w : World) (H : Hp) (a : Addr) (ns : List Int), ns.length ≤ n → Only H → SqL (K w.params) H a (ns.map V.int) → sp w [.ref a] H (fun v _ => v = .bl true) fun _ _ _ => False)
    (hCX : ∀ (w : World) (H : Hp) (s : Shared) (e : Value) (s' : Shared), CX w [] H s (fun _ _ _ => False) e s' → False) :
    PySem.W.WalkO q loose XP YP l.row.toRowW d [] (fun f vs => PySem.call f vs) := by
  refine Att.attach_call hn hdf ?_
  intro w s₀ s₁ mg mb fa o pm cd doc a vs ns G Y ho hd hcd hmg hobj hints hlen hgens
  have kin := hY w _ Y
  obtain ⟨fd, hbd, hF⟩ := F w mg fa _ kin G.T.g hmg
  exact g_law kin G.T.g G.T.b G.T.builtins G.T.nolimit hgens hobj hints (Nat.le_trans hlen hn2) hr hF hbd (fun H hO hS => hsp w H a ns hlen hO hS) (fun H er s' => hCX w H s₁ er s')
end TP
/-! TPl: repr. -/
namespace TP
open PySem L2
section
variable {K : PySem.W.Frag} {E : Wish} {X : Cx} {e : Expr}
def rRepr (K : PySem.W.Frag) : List V → Hp → VK → Prop := fun xs H Q => ∃ x d, xs = [x] ∧ Dp K H x d ∧ d.canLay0 = true ∧ d.showable = true ∧ d.depth ≤ 190 ∧ d.shown.length ≤ sizeLine ∧ Q (.str d.shown) H
theorem call_repr (hu : X.A.units + 200 < cLine) (hq : X.A.guards = some []) : CallR X (.builtin "repr") (rRepr X.K) := by
  intro pins s σ H xs us Q I r h
  obtain ⟨x, d, rfl, hd, hl, hs, hdp, hz, q⟩ := h
  obtain ⟨u, rfl, ru⟩ := vals1 r
  obtain ⟨as, rd⟩ := Dp.reads I d x u hd ru
  have fin : ∀ h' t tk, (∀ b o, s.heap.get? b = some o → h'.get? b = some o) → EP X pins σ Q (.str d.shown t) { s with heap := h', toks := tk } := fun h' t tk hk => ⟨.str _, H, I.kept hk, ⟨_, rfl⟩, q⟩
  cases hd with
  | non => cases ru; exact PySem.P.repr_of_none (fin s.heap _ _ fun _ _ z => z)
  | bl b => cases ru; exact PySem.P.repr_of_bool (fin s.heap _ _ fun _ _ z => z)
  | int i =>
    obtain ⟨t, rfl⟩ := ru
    exact PySem.P.repr_of_int (by simpa [PyData.showable] using hs) (fin s.heap _ _ fun _ _ z => z)
  | str y =>
    obtain ⟨t, rfl⟩ := ru
    exact PySem.P.repr_of_str (fin s.heap _ _ fun _ _ z => z) (by simpa [PyData.shown] using hz)
  | lst h1 h2 =>
    cases ru
    exact repr_of_reads' rd hs (PyData.noDict_hsm (PyData.hasDict_of_canLay _ hl)) hq (by omega) (fun _ _ z => z) (fun h' t tk hk => fin h' t tk hk) hz
  | tup h1 h2 =>
    cases ru
    exact repr_of_reads' rd hs (PyData.noDict_hsm (PyData.hasDict_of_canLay _ hl)) hq (by omega) (fun _ _ z => z) (fun h' t tk hk => fin h' t tk hk) hz
/-- may it be shown -/
def shwD (y : D) : Bool := goodD y && (toPy y).showable && decide (dpD y ≤ 190) && decide ((toPy y).shown.length ≤ sizeLine)
def reprD (M : Store) (ds : List D) : Option Slot := match ds with
  | [x] => if shwD (derD M x) then some (.val (.str (toPy (derD M x)).shown)) else none
  | _ => none
theorem p_repr : PrimN K (rRepr K) reprD := by
  intro w vs ds s Q ok rl h k
  unfold reprD at h
  split at h
  · split at h
    · rename_i x hs
      cases h
      obtain ⟨v, rfl, rv⟩ := rl.one
      simp only [shwD, Bool.and_eq_true, decide_eq_true_eq] at hs
      obtain ⟨⟨⟨h1, h2⟩, h3⟩, h4⟩ := hs
      exact ⟨v, _, rfl, rv.dp ok h1, lay_py _ h1, h2, by rw [dp_py _ h1]; exact h3, h4, ans ok k fun _ _ => .str _⟩
    · cases h
  · cases h
end
theorem bt_repr : bootBuiltins "repr" = some (.builtin "repr") := by decide +kernel
theorem bt_sorted : bootBuiltins "sorted" = some (.builtin "sorted") := by decide +kernel
end TP
/-! TPq: instances: fields, methods, new ones; lists of the store that are changed through an expression. -/
namespace TP
open PySem L2
section
variable {K : PySem.W.Frag} {E : Wish} {X : Cx} {e : Expr} {st : Stmt}
theorem kv_look {R : V → D → Prop} (f : Str) : ∀ {vs : List (Str × V)} {fs : List (Str × D)}, RepKV R vs fs → (∀ d, fs.lookup f = some d → ∃ v, vs.lookup f = some v ∧ R v d) ∧ (fs.lookup f = none → vs.lookup f = none)
  | _, _, .nil => ⟨fun d h => by simp at h, fun _ => rfl⟩
  | (k, v) :: vs, (_, d) :: fs, .cons r t => by
    obtain ⟨h1, h2⟩ := kv_look f t
    rw [List.lookup_cons, List.lookup_cons]
    cases f == k with
    | true => exact ⟨fun d' h => by cases h; exact ⟨v, rfl, r⟩, fun h => by cases h⟩
    | false => exact ⟨h1, h2⟩
theorem look_mem {f : Str} {d : D} : ∀ {fs : List (Str × D)}, fs.lookup f = some d → ∃ y ∈ fs, y.1 = f
  | [], h => by simp at h
  | y :: fs, h => by
    rw [List.lookup_cons] at h
    cases hb : f == y.1 with
    | true => exact ⟨y, List.mem_cons_self, (beq_iff_eq.mp hb).symm⟩
    | false =>
      rw [hb] at h
      obtain ⟨z, hz, e⟩ := look_mem h
      exact ⟨z, List.mem_cons_of_mem _ hz, e⟩
def putFd (f : Str) (d : D) : List (Str × D) → List (Str × D)
  | [] => [(f, d)]
  | (g, x) :: r => if g = f then (g, d) :: r else (g, x) :: putFd f d r
theorem kv_put {R : V → D → Prop} {f : Str} {v : V} {d : D} (r : R v d) : ∀ {vs : List (Str × V)} {fs : List (Str × D)}, RepKV R vs fs → RepKV R (putF f v vs) (putFd f d fs)
  | _, _, .nil => .cons r .nil
  | (k, v') :: vs, (_, d') :: fs, .cons q t => by
    unfold putF putFd
    by_cases h : k = f
    · rw [if_pos h, if_pos h]; exact .cons r t
    · rw [if_neg h, if_neg h]; exact .cons q (kv_put r t)
theorem putFd_mem {f : Str} {d : D} : ∀ {fs : List (Str × D)} {x : Str × D}, x ∈ putFd f d fs → x.1 = f ∨ x ∈ fs ∨ ∃ y ∈ fs, y.1 = x.1
  | [], x, h => by
    rw [putFd, List.mem_singleton] at h
    subst h
    exact .inl rfl
  | (g, y) :: r, x, h => by
    unfold putFd at h
    split at h
    · rename_i hg
      rcases List.mem_cons.mp h with rfl | h
      · exact .inl hg
      · exact .inr (.inl (List.mem_cons_of_mem _ h))
    · rcases List.mem_cons.mp h with rfl | h
      · exact .inr (.inl List.mem_cons_self)
      · rcases putFd_mem h with h | h | ⟨z, hz, e⟩
        · exact .inl h
        · exact .inr (.inl (List.mem_cons_of_mem _ h))
        · exact .inr (.inr ⟨z, List.mem_cons_of_mem _ hz, e⟩)
theorem kv_len {R : V → D → Prop} : ∀ {vs : List (Str × V)} {fs : List (Str × D)}, RepKV R vs fs → vs.length = fs.length
  | _, _, .nil => rfl
  | _, _, .cons _ t => by rw [List.length_cons, List.length_cons, kv_len t]
/-! ### e.f -/
def dFld (f : Str) (fo : FD) : FD := fun ρ M => (fo ρ M).bind fun x M => match x with
  | .ref k => match M[k]? with
    | some (.ins _ fs) => R.of (fs.lookup f) M
    | _ => .bad
  | _ => .bad
theorem x_fld {f : Str} {fo : FD} (h : PE X e (tFld K (tR K E fo) f)) : PE X e (tF K E (dFld f fo)) := PE.wk h fun σ H Q ⟨ρ, w, e1, ok, sr, a⟩ =>
  ⟨ρ, w, e1, ok, sr, a.bind.imp fun x w1 s1 a1 vx rx => by
    split at a1
    · rename_i k
      split at a1
      · rename_i c fs e2
        obtain ⟨d, hd, q⟩ := a1.of (Step.refl s1.ok) rfl
        obtain ⟨p, rfl, ea⟩ := ref_at rx
        obtain ⟨p', ea', io, vs, dx, hH, rk⟩ := s1.ok.mos k _ e2
        rw [ea] at ea'
        cases ea'
        obtain ⟨v, hv, rv⟩ := (kv_look f rk).1 d hd
        obtain ⟨y, hy, e3⟩ := look_mem hd
        have na := io.2 y hy
        rw [e3] at na
        exact ⟨p, _, dx, vs, v, rfl, hH, io.1, na, hv, q v rv⟩
      · exact a1.elim
    · exact a1.elim⟩
/-! ### e.f = value -/
def sFldS (c f : Str) (fv fo : FD) : FS := fun ρ M => (fv ρ M).out fun y M => (fo ρ M).out fun x M => match x with
  | .ref k => match M[k]? with
    | some (.ins c' fs) => if c' = c ∧ fs.length < 1000 then .next ρ (M.set k (.ins c' (putFd f y fs))) else .bad
    | _ => .bad
  | _ => .bad
theorem s_fldS {c f : Str} {fv fo : FD} (hn : NoAttr K (clsAt K c) f) (h : PS X st (sFld K (tR K E fo) (tF K E fv) f)) : PS X st (tS K E (sFldS c f fv fo)) := PS.wk h fun D σ H ⟨ρ, w, w0, e1, s, sr, of, p⟩ =>
  ⟨ρ, w, e1, s.ok, sr, (out_after s p).imp fun y w1 s1 p1 vy ry => ⟨ρ, w1, rfl, s1.ok, sr.step s1, (out_after (s.trans s1) p1).imp fun x w2 s2 p2 vx rx => by
    split at p2
    · rename_i k
      split at p2
      · rename_i c' fs e2
        split at p2
        · rename_i hc
          obtain ⟨hc1, hc2⟩ := hc
          subst hc1
          obtain ⟨q, rfl, ea⟩ := ref_at rx
          obtain ⟨q', ea', io, vs, dx, hH, rk⟩ := s2.ok.mos k _ e2
          rw [ea] at ea'
          cases ea'
          refine ⟨q, _, dx, vs, rfl, hH, io.1, hn, by rw [kv_len rk]; exact hc2, ?_⟩
          have io2 : InsOk K c' (putFd f y fs) := ⟨io.1, fun z hz => by
            rcases putFd_mem hz with h | h | ⟨u, hu, e⟩
            · rw [h]; exact hn
            · exact io.2 z h
            · rw [← e]; exact io.2 u hu⟩
          have st3 := s2.ok.put (o := .ins c' (putFd f y fs)) (ho := .ins (clsAt K c') dx (putF f vy vs)) ea ⟨io2, _, dx, upd_same, kv_put (s2.rep ry) rk⟩
          have sall := (s.trans s1).trans s2
          exact p2 _ σ (sall.trans st3) st3.le rfl (((sr.step s1).step s2).step st3) of
        · exact p2.elim
      · exact p2.elim
    · exact p2.elim⟩⟩
/-! ### o.m(..), by the class of o -/
def dMethC (n : Nat) (m : Str) (tab : List (Str × Nat)) (Φ : Nat → Fn) (fo : FD) (fs : FL) : FE := fun ρ M => (fo ρ M).bind fun x M => match x with
  | .ref k => match M[k]? with
    | some (.ins c fds) => match fds.lookup m, tab.lookup c with
      | none, some i => (fs ρ M).bind fun ds M => if ds.length + 1 = n then Φ i (.ref k :: ds) M else .bad
      | _, _ => .bad
    | _ => .bad
  | _ => .bad
theorem x_methC {We : XK → Wish} {n : Nat} {m : Str} {tab : List (Str × Nat)} {Φ : Nat → Fn} {EX : XK} {fo : FD} {fs : FL} (hE : We EX = E) (h0 : ∃ c i, tab.lookup c = some i)
    (h : ∀ c i, tab.lookup c = some i → PE X e (tMeth (clsAt K c) m (spD K We n (Φ i)) [] EX (tR K E fo) (tAF K E fs))) : PE X e (tE K E (dMethC n m tab Φ fo fs)) := by
  constructor
  intro pins s σ H Q I ⟨ρ, w, e1, ok, sr, a⟩
  unfold dMethC at a
  cases hfo : fo ρ w.M with
  | bad => rw [hfo] at a; exact a.elim
  | exc c d M1 =>
    rw [hfo] at a
    obtain ⟨c0, i0, hc0⟩ := h0
    refine (h c0 i0 hc0).run pins s σ H Q I ⟨ρ, w, e1, ok, sr, ?_⟩
    rw [hfo]
    exact a
  | ok x M1 =>
    rw [hfo] at a
    have a' := a
    simp only [R.bind_ok] at a'
    split at a'
    · rename_i k
      split at a'
      · rename_i c fds e2
        split at a'
        · rename_i hl1 hl2
          rename_i i
          refine (h c i hl2).run pins s σ H Q I ⟨ρ, w, e1, ok, sr, ?_⟩
          rw [hfo]
          intro w1 s1 eM vx rx
          obtain ⟨p, rfl, ea⟩ := ref_at rx
          rw [← eM] at e2 a'
          obtain ⟨p', ea', io, vs, dx, hH, rk⟩ := s1.ok.mos k _ e2
          rw [ea] at ea'
          cases ea'
          refine ⟨p, dx, vs, rfl, hH, (kv_look m rk).2 hl1, ρ, w1, rfl, s1.ok, sr.step s1, ?_⟩
          refine (a'.later s1).bind.imp fun ds w2 s2 a2 us ru => ?_
          show spD K We n (Φ i) (V.ref p :: (us ++ [])) w2.H Q EX
          rw [List.append_nil]
          split at a2
          · rename_i hn
            refine ⟨by rw [List.length_cons, ru.length]; exact hn, .ref k :: ds, w2, rfl, s2.ok, .cons (s2.rep (.ref ea)) ru, ?_⟩
            rw [hE]
            exact a2.imp fun sl w3 s3 q v rv => q v (rv.back (s1.trans s2))
          · exact a2.elim
        · exact a'.elim
      · exact a'.elim
    · exact a'.elim
/-! ### C(..) -/
def dMake (c : Str) (n : Nat) (m : Fn) (fs : FL) : FE := fun ρ M => (fs ρ M).bind fun ds M => if ds.length + 1 = n then (m (.ref M.length :: ds) (M ++ [.ins c []])).bind fun s M' => match s with
  | .val .non => .ok (.val (.ref M.length)) M'
  | _ => .bad else .bad
theorem x_make {We : XK → Wish} {c : Str} {n : Nat} {m : Fn} {EX : XK} {fs : FL} (hE : We EX = E) (hc : Cls K (clsAt K c)) (h : PE X e (tMake (clsAt K c) (spD K We n m) [] EX (tAF K E fs))) : PE X e (tE K E (dMake c n m fs)) := PE.wk h fun σ H Q ⟨ρ, w, e1, ok, sr, a⟩ =>
  ⟨ρ, w, e1, ok, sr, a.bind.imp fun ds w1 s1 a1 us ru => by
    intro y dx hy hdx hne
    split at a1
    · rename_i hn
      have f0 := s1.ok.fresh0 hdx (.own y)
      have hy2 : upd w1.H dx (.own y) y = none := by rw [upd_ne (fun z => hne z.symm)]; exact hy
      have f1 := f0.ok.fresh0 (p := y) hy2 (.ins (clsAt K c) dx [])
      have hG : w1.G y = none := s1.ok.sub.free hy
      have okp := f1.ok.push (o := .ins c []) hG (s1.ok.notA hy) ⟨⟨hc, fun x hx => by cases hx⟩, [], dx, upd_same, .nil⟩
      have st : Step K w1 ⟨w1.A ++ [y], w1.G, w1.M ++ [.ins c []], upd (upd w1.H dx (.own y)) y (.ins (clsAt K c) dx [])⟩ := by
        refine ⟨okp, List.prefix_append _ _, Same.refl _, fun b o z1 z2 z3 => ?_⟩
        obtain ⟨k1, k2, k3⟩ := (f0.trans f1).keep b o z1 z2 z3
        exact ⟨k1, k2, fun hm => (List.mem_append.mp hm).elim z3 fun z => by simp at z; subst z; rw [hy] at z1; cases z1⟩
      have hlen : (w1.A ++ [y])[w1.M.length]? = some y := by
        rw [← s1.ok.len, List.getElem?_append_right (Nat.le_refl _), Nat.sub_self]; rfl
      show spD K We n m (V.ref y :: (us ++ [])) _ _ EX
      rw [List.append_nil]
      refine ⟨by rw [List.length_cons, ru.length]; exact hn, .ref w1.M.length :: ds, _, rfl, st.ok, .cons (.ref hlen) (st.repL ru), ?_⟩
      rw [hE]
      refine (a1.later st).bind.imp fun sl w3 s3 a3 v rv => ?_
      split at a3
      · cases rv
        have q := a3 w3 (Step.refl s3.ok) rfl (.ref y) (.ref (pre_get s3.pre hlen))
        exact ⟨rfl, q⟩
      · exact a3.elim
    · exact a1.elim⟩
/-! ### lists of the store -/
def sAppR (fo f : FD) : FS := fun ρ M => (fo ρ M).out fun x M => match x with
  | .ref k => match M[k]? with
    | some (.lst _) => (f ρ M).out fun y M => match M[k]? with
      | some (.lst ds) => if ds.length < sizeLine then .next ρ (M.set k (.lst (ds ++ [y]))) else .bad
      | _ => .bad
    | _ => .bad
  | _ => .bad
theorem s_appR {fo f : FD} (h : PS X st (tDrop (tBM K "list" rAppend (tR K E fo) (tCons (tF K E f) tNil)))) : PS X st (tS K E (sAppR fo f)) := PS.wk h fun D σ H ⟨ρ, w, w0, e1, s, sr, of, p⟩ =>
  ⟨ρ, w, e1, s.ok, sr, (out_after s p).imp fun x w1 s1 p1 vx rx => by
    split at p1
    · rename_i k
      split at p1
      · rename_i ds0 e0
        obtain ⟨q, rfl, ea⟩ := ref_at rx
        obtain ⟨q', ea', vs0, hH0, _⟩ := s1.ok.mos k _ e0
        rw [ea] at ea'
        cases ea'
        refine ⟨.inl ⟨rfl, vs0, .inl (.inl hH0)⟩, ρ, w1, rfl, s1.ok, sr.step s1, (out_after (s.trans s1) p1).imp fun y w2 s2 p2 vy ry => ?_⟩
        split at p2
        · rename_i ds e2
          split at p2
          · rename_i hz
            have ea2 : w2.A[k]? = some q := pre_get s2.pre ea
            obtain ⟨q', ea', vs, hH, rl⟩ := s2.ok.mos k _ e2
            rw [ea2] at ea'
            cases ea'
            refine ⟨q, vs, vy, rfl, rfl, hH, by rw [rl.length]; exact hz, ?_⟩
            have st3 := s2.ok.put (o := .lst (ds ++ [y])) (ho := .lst (vs ++ [vy])) ea2 ⟨_, upd_same, rl.append (.one ry)⟩
            exact p2 _ σ (((s.trans s1).trans s2).trans st3) st3.le rfl (((sr.step s1).step s2).step st3) of
          · exact p2.elim
        · exact p2.elim
      · exact p1.elim
    · exact p1.elim⟩
def dPopR (fo : FD) : FD := fun ρ M => (fo ρ M).bind fun x M => match x with
  | .ref k => match M[k]? with
    | some (.lst ds) => match ds.getLast? with
      | some y => .ok y (M.set k (.lst ds.dropLast))
      | none => .bad
    | _ => .bad
  | _ => .bad
theorem x_popR {fo : FD} (h : PE X e (tBM0 K "list" rPop (tR K E fo))) : PE X e (tF K E (dPopR fo)) := PE.wk h fun σ H Q ⟨ρ, w, e1, ok, sr, a⟩ =>
  ⟨ρ, w, e1, ok, sr, a.bind.imp fun x w1 s1 a1 vx rx => by
    split at a1
    · rename_i k
      split at a1
      · rename_i ds e2
        split at a1
        · rename_i y hy
          obtain ⟨q, rfl, ea⟩ := ref_at rx
          obtain ⟨q', ea', vs, hH, rl⟩ := s1.ok.mos k _ e2
          rw [ea] at ea'
          cases ea'
          rw [List.getLast?_eq_getElem?] at hy
          obtain ⟨v, hv, rv⟩ := rl.get hy
          have st3 := s1.ok.put (o := .lst ds.dropLast) (ho := .lst vs.dropLast) ea ⟨_, upd_same, rl.dropLast⟩
          exact ⟨.inl ⟨rfl, vs, .inl (.inl hH)⟩, q, vs, v, rfl, rfl, hH, by rw [rl.length]; exact hv, a1 _ st3 rfl v (st3.rep rv)⟩
        · exact a1.elim
      · exact a1.elim
    · exact a1.elim⟩
def dClearR (fo : FD) : FD := fun ρ M => (fo ρ M).bind fun x M => match x with
  | .ref k => match M[k]? with
    | some (.lst _) => .ok .non (M.set k (.lst []))
    | _ => .bad
  | _ => .bad
theorem x_clearR {fo : FD} (h : PE X e (tBM0 K "list" rClear (tR K E fo))) : PE X e (tF K E (dClearR fo)) := PE.wk h fun σ H Q ⟨ρ, w, e1, ok, sr, a⟩ =>
  ⟨ρ, w, e1, ok, sr, a.bind.imp fun x w1 s1 a1 vx rx => by
    split at a1
    · rename_i k
      split at a1
      · rename_i ds e2
        obtain ⟨q, rfl, ea⟩ := ref_at rx
        obtain ⟨q', ea', vs, hH, rl⟩ := s1.ok.mos k _ e2
        rw [ea] at ea'
        cases ea'
        have st3 := s1.ok.put (o := .lst []) (ho := .lst []) ea ⟨_, upd_same, .nil⟩
        exact ⟨.inl ⟨rfl, vs, .inl (.inl hH)⟩, q, vs, rfl, rfl, hH, a1 _ st3 rfl .non .non⟩
      · exact a1.elim
    · exact a1.elim⟩
/-! ### what is not looked at -/
def dBadE : FE := fun _ _ => .bad
def dBadF : FD := fun _ _ => .bad
theorem x_badE : PE X e (tE K E dBadE) := ⟨fun pins s σ H Q I ⟨ρ, w, e1, ok, sr, a⟩ => a.elim⟩
theorem x_badF : PE X e (tF K E dBadF) := ⟨fun pins s σ H Q I ⟨ρ, w, e1, ok, sr, a⟩ => a.elim⟩
def sBad : FS := fun _ _ => .bad
theorem s_bad : PS X st (tS K E sBad) := ⟨fun pins s σ H D I ⟨ρ, w, w0, e1, ok, sr, of, p⟩ => p.elim⟩
end
end TP
/-! TPt: dict(zip(a, b)) over any two iterators, at the library's level. -/
namespace TP
open PySem
section
variable {prog : Program} {w : World} {A : Around} {E : Value → Shared → Prop} {s : Shared} {z TI TO T i1 i2 : Addr} {fp1 fp2 : List Addr} {n1 n2 i : Nat} {P1 P2 : Nat → Value → Prop} {St1 St2 : Nat → Heap → Prop} {f : Bool} {oT : Obj}
/-- the next pair, the one ahead still held -/
theorem zipH_item {Q : Value → Shared → Prop} (S : ZipSep2 z TI TO i1 i2 fp1 fp2) (D1 : Draws prog w A i1 fp1 n1 P1 St1) (D2 : Draws prog w A i2 fp2 n2 P2 St2)
    (hz : IsZipHeld s.heap z TI TO T f) (hT : s.heap.get? T = some oT) (hTI : IsTupOf2 s.heap TI (.ref i1) (.ref i2)) (st1 : St1 i s.heap) (st2 : St2 i s.heap) (l1 : i < n1) (l2 : i < n2)
    (hQ : ∀ x y h' tk, P1 i x → P2 i y → IsZipHeld h' z TI TO T true → St1 (i + 1) h' → St2 (i + 1) h' → IsTupOf2 h' s.heap.objs.size x y → h'.objs.size = s.heap.objs.size + 1 →
      (∀ c o, c ≠ z → c ≠ i1 → c ≠ i2 → s.heap.get? c = some o → h'.get? c = some o) → Q (.ref s.heap.objs.size) { s with heap := h', toks := tk }) :
    wpAny (model prog w) A (Builtin.«zip.__next__» ⟨[.ref z], []⟩) (fun fin s' => ∃ v, fin = .done (.ret v) ∧ Q v s') E s := by
  obtain ⟨h0, gs, dr, t0, os⟩ := s
  show wpAny _ _ (field (.ref z) 2 >>= _) _ _ _
  refine wpAny_bind (wpAny_field hz rfl (x := .bool false) rfl ?_)
  show wpAny _ _ (field (.ref z) 3 >>= _) _ _ _
  refine wpAny_bind (wpAny_field hz rfl (x := .ref TI) rfl (wpAny_bind (wpAny_seqItems hTI rfl ?_)))
  show wpAny _ _ (Builtin.SmallTypes.ownedTupleIsFree (.ref z) >>= _) _ _ _
  refine wpAny_bind (wpAny_tupleHeld_zip hz hT ?_)
  intro ha za sa
  replace sa : Heap.SameBut z h0 ha := sa
  simp only [Bool.false_eq_true, if_false]
  refine wpAny_bind ?_
  rw [← Array.forIn_toList]
  simp only [List.forIn_cons, List.forIn_nil]
  refine wpAny_bind (wpAny_bind (wpAny_holding ?_))
  show wpAny _ _ (Builtin.SmallTypes.nextOf (.ref i1) >>= _) _ _ ⟨ha, gs, dr, t0, os⟩
  refine wpAny_bind (D1.item i _ _ _ l1 (D1.over st1 sa S.zf1) ?_)
  intro x hb t1 px sn1 sb
  replace sb : Heap.SameBut i1 ha hb := sb
  refine wpAny_pure (wpAny_pure (wpAny_bind (wpAny_bind (wpAny_holding ?_))))
  show wpAny _ _ (Builtin.SmallTypes.nextOf (.ref i2) >>= _) _ _ ⟨hb, gs, dr, t1, os⟩
  refine wpAny_bind (D2.item i _ _ _ l2 (D2.over (D2.over st2 sa S.zf2) sb S.sep1_2) ?_)
  intro y hc t2 py sn2 sc
  replace sc : Heap.SameBut i2 hb hc := sc
  refine wpAny_pure (wpAny_pure (wpAny_pure ?_))
  show wpAny _ _ (newTuple [x, y] >>= _) _ _ ⟨hc, gs, dr, t2, os⟩
  refine wpAny_bind (wpAny_newTuple (wpAny_pure ⟨_, rfl, ?_⟩))
  have size : hc.objs.size = h0.objs.size := by rw [sc.1, sb.1, sa.1]
  have i1z : i1 ≠ z := fun q => S.zf1 (q ▸ S.mem1)
  have i2z : i2 ≠ z := fun q => S.zf2 (q ▸ S.mem2)
  have zc : IsZipHeld hc z TI TO T true := sc.extBut _ _ i2z.symm (sb.extBut _ _ i1z.symm za)
  have keep : ∀ c o, c ≠ z → c ≠ i1 → c ≠ i2 → h0.get? c = some o → hc.get? c = some o := fun c o c1 c2 c3 e => sc.extBut _ _ c3 (sb.extBut _ _ c2 (sa.extBut _ _ c1 e))
  show Q (.ref hc.objs.size) ⟨hc.push { cls := .type "tuple", data := .seq #[x, y] }, gs, dr, t2, os⟩
  have tp : IsTupOf2 (hc.push { cls := .type "tuple", data := .seq #[x, y] }) hc.objs.size x y := Heap.get?_push_size _ rfl
  have sz : (hc.push { cls := .type "tuple", data := .seq #[x, y] }).objs.size = hc.objs.size + 1 := Heap.size_push ..
  rw [size] at tp sz ⊢
  exact hQ x y _ t2 px py (Heap.get?_push_of_some _ zc) (D1.frame _ _ _ (D1.over sn1 sc S.sep2_1) fun b _ o e => Heap.get?_push_of_some _ e) (D2.frame _ _ _ sn2 fun b _ o e => Heap.get?_push_of_some _ e) tp sz
    fun c o c1 c2 c3 e => Heap.get?_push_of_some _ (keep c o c1 c2 c3 e)
theorem zipH_end {Q : Fin → Shared → Prop} (S : ZipSep2 z TI TO i1 i2 fp1 fp2) (D1 : Draws prog w A i1 fp1 n1 P1 St1) (D2 : Draws prog w A i2 fp2 n2 P2 St2)
    (hz : IsZipHeld s.heap z TI TO T f) (hT : s.heap.get? T = some oT) (hTI : IsTupOf2 s.heap TI (.ref i1) (.ref i2)) (st1 : St1 i s.heap) (st2 : St2 i s.heap) (l1 : i ≤ n1) (l2 : i ≤ n2) (hend : i = n1 ∨ i = n2)
    (hE : ∀ h' tk e, (∀ c o, c ≠ z → c ≠ i1 → c ≠ i2 → s.heap.get? c = some o → h'.get? c = some o) → (∃ o, h'.get? e = some o ∧ o.cls = .type "StopIteration") → E (.ref e) { s with heap := h', toks := tk }) :
    wpAny (model prog w) A (Builtin.«zip.__next__» ⟨[.ref z], []⟩) Q E s := by
  obtain ⟨h0, gs, dr, t0, os⟩ := s
  show wpAny _ _ (field (.ref z) 2 >>= _) _ _ _
  refine wpAny_bind (wpAny_field hz rfl (x := .bool false) rfl ?_)
  show wpAny _ _ (field (.ref z) 3 >>= _) _ _ _
  refine wpAny_bind (wpAny_field hz rfl (x := .ref TI) rfl (wpAny_bind (wpAny_seqItems hTI rfl ?_)))
  show wpAny _ _ (Builtin.SmallTypes.ownedTupleIsFree (.ref z) >>= _) _ _ _
  refine wpAny_bind (wpAny_tupleHeld_zip hz hT ?_)
  intro ha za sa
  replace sa : Heap.SameBut z h0 ha := sa
  simp only [Bool.false_eq_true, if_false]
  refine wpAny_bind ?_
  rw [← Array.forIn_toList]
  simp only [List.forIn_cons, List.forIn_nil]
  refine wpAny_bind (wpAny_bind (wpAny_holding ?_))
  show wpAny _ _ (Builtin.SmallTypes.nextOf (.ref i1) >>= _) _ _ ⟨ha, gs, dr, t0, os⟩
  by_cases k1 : i < n1
  · refine wpAny_bind (D1.item i _ _ _ k1 (D1.over st1 sa S.zf1) ?_)
    intro x hb t1 px sn1 sb
    replace sb : Heap.SameBut i1 ha hb := sb
    refine wpAny_pure (wpAny_pure (wpAny_bind (wpAny_bind (wpAny_holding ?_))))
    show wpAny _ _ (Builtin.SmallTypes.nextOf (.ref i2) >>= _) _ _ ⟨hb, gs, dr, t1, os⟩
    have e2 : i = n2 := by omega
    refine wpAny_bind (D2.done ⟨hb, gs, dr, t1, os⟩ _ _ (by rw [← e2]; exact D2.over (D2.over st2 sa S.zf2) sb S.sep1_2) ?_)
    intro hc e sc he
    exact hE hc t1 e (fun c o c1 c2 c3 q => sc _ _ c3 (sb.extBut _ _ c2 (sa.extBut _ _ c1 q))) he
  · have e1 : i = n1 := by omega
    refine wpAny_bind (D1.done ⟨ha, gs, dr, t0, os⟩ _ _ (by rw [← e1]; exact D1.over st1 sa S.zf1) ?_)
    intro hb e sb he
    exact hE hb t0 e (fun c o c1 c2 _ q => sb _ _ c2 (sa.extBut _ _ c1 q)) he
theorem next_zipH_item {Q : Option Value → Shared → Prop} (S : ZipSep2 z TI TO i1 i2 fp1 fp2) (D1 : Draws prog w A.in1 i1 fp1 n1 P1 St1) (D2 : Draws prog w A.in1 i2 fp2 n2 P2 St2)
    (hz : IsZipHeld s.heap z TI TO T f) (hT : s.heap.get? T = some oT) (hTI : IsTupOf2 s.heap TI (.ref i1) (.ref i2)) (st1 : St1 i s.heap) (st2 : St2 i s.heap) (l1 : i < n1) (l2 : i < n2)
    (hQ : ∀ x y h' tk, P1 i x → P2 i y → IsZipHeld h' z TI TO T true → St1 (i + 1) h' → St2 (i + 1) h' → IsTupOf2 h' s.heap.objs.size x y → h'.objs.size = s.heap.objs.size + 1 →
      (∀ c o, c ≠ z → c ≠ i1 → c ≠ i2 → s.heap.get? c = some o → h'.get? c = some o) → Q (some (.ref s.heap.objs.size)) { s with heap := h', toks := tk }) :
    wpAny (model prog w) A (pyNext (.ref z)) Q E s := by
  have ty : s.TypeIs (.ref z) "zip" := ⟨_, hz, rfl⟩
  unfold pyNext
  exact wpAny_bind (wpAny_attempt (wpAny_callSpecial?_slot (name := Str.ofString "__next__") ty F.slot_zip_next
    (wpAny_call_entry F.slot_zip_next ty F.entry_zip_next
      (zipH_item S D1 D2 hz hT hTI st1 st2 l1 l2 fun x y h' tk a b c d e g k m => wpAny_pure (hQ x y h' tk a b c d e g k m)) (F.args_zip_next_1 _))))
theorem next_zipH_end {Q : Option Value → Shared → Prop} (S : ZipSep2 z TI TO i1 i2 fp1 fp2) (D1 : Draws prog w A.in1 i1 fp1 n1 P1 St1) (D2 : Draws prog w A.in1 i2 fp2 n2 P2 St2)
    (hz : IsZipHeld s.heap z TI TO T f) (hT : s.heap.get? T = some oT) (hTI : IsTupOf2 s.heap TI (.ref i1) (.ref i2)) (st1 : St1 i s.heap) (st2 : St2 i s.heap) (l1 : i ≤ n1) (l2 : i ≤ n2) (hend : i = n1 ∨ i = n2)
    (hQ : ∀ h' tk, (∀ c o, c ≠ z → c ≠ i1 → c ≠ i2 → s.heap.get? c = some o → h'.get? c = some o) → Q none { s with heap := h', toks := tk }) : wpAny (model prog w) A (pyNext (.ref z)) Q E s := by
  have ty : s.TypeIs (.ref z) "zip" := ⟨_, hz, rfl⟩
  unfold pyNext
  refine wpAny_bind (wpAny_attempt (wpAny_callSpecial?_slot (name := Str.ofString "__next__") ty F.slot_zip_next
    (wpAny_call_entry F.slot_zip_next ty F.entry_zip_next (zipH_end S D1 D2 hz hT hTI st1 st2 l1 l2 hend ?_) (F.args_zip_next_1 _))))
  rintro h' tk e hk ⟨o, ho, hc⟩
  exact wpAny_bind (wpAny_isInstance (T := "StopIteration") (b := true) ⟨o, ho, hc⟩ isSubtype_stop (wpAny_pure (hQ _ _ hk)))
end
theorem ZipSep2.z1 {z TI TO i1 i2 : Addr} {fp1 fp2 : List Addr} (S : ZipSep2 z TI TO i1 i2 fp1 fp2) : i1 ≠ z ∧ i2 ≠ z ∧ TO ≠ i1 ∧ TO ≠ i2 :=
  ⟨fun q => S.zf1 (q ▸ S.mem1), fun q => S.zf2 (q ▸ S.mem2), fun q => S.Tf1 (q ▸ S.mem1), fun q => S.Tf2 (q ▸ S.mem2)⟩
/-- a zip of two iterators as the argument of dict() -/
theorem zipArg {prog : Program} {w : World} {z TI TO i1 i2 : Addr} {fp1 fp2 : List Addr} {n1 n2 : Nat} {P1 P2 : Nat → Value → Prop} {St1 St2 : Nat → Heap → Prop} (S : ZipSep2 z TI TO i1 i2 fp1 fp2)
    (D1 : ∀ A : Around, A.handled = none → Draws prog w A i1 fp1 n1 P1 St1) (D2 : ∀ A : Around, A.handled = none → Draws prog w A i2 fp2 n2 P2 St2)
    (L1 : ∀ i h, St1 i h → ∀ b ∈ fp1, ∃ o, h.get? b = some o) (L2 : ∀ i h, St2 i h → ∀ b ∈ fp2, ∃ o, h.get? b = some o) :
    PairArg prog w "zip" z (z :: TI :: TO :: (fp1 ++ fp2)) [z, TO, i1, i2] (min n1 n2) (fun i k v => P1 i k ∧ P2 i v)
      (fun h => IsZip h z TI TO .none ∧ IsTupOf2 h TI (.ref i1) (.ref i2) ∧ (∃ a b, IsTupOf2 h TO a b) ∧ St1 0 h ∧ St2 0 h) where
  type := fun s ok => ⟨_, ok.1, rfl⟩
  notDict := by decide
  keep := fun h h' ⟨a, b, ⟨c, d, e⟩, f, g⟩ hk => ⟨hk _ _ a, hk _ _ b, ⟨c, d, hk _ _ e⟩, (D1 {} rfl).frame _ _ _ f fun b _ o e => hk b o e, (D2 {} rfl).frame _ _ _ g fun b _ o e => hk b o e⟩
  there := fun h ⟨a, b, ⟨c, d, e⟩, f, g⟩ x hx => by
    rcases List.mem_cons.mp hx with rfl | hx
    · exact ⟨_, a⟩
    rcases List.mem_cons.mp hx with rfl | hx
    · exact ⟨_, b⟩
    rcases List.mem_cons.mp hx with rfl | hx
    · exact ⟨_, e⟩
    rcases List.mem_append.mp hx with hx | hx
    · exact L1 _ _ f x hx
    · exact L2 _ _ g x hx
  sub := fun b hb => by
    simp only [List.mem_cons, List.not_mem_nil, or_false] at hb
    rcases hb with rfl | rfl | rfl | rfl
    · exact List.mem_cons_self
    · exact List.mem_cons_of_mem _ (List.mem_cons_of_mem _ List.mem_cons_self)
    · exact List.mem_cons_of_mem _ (List.mem_cons_of_mem _ (List.mem_cons_of_mem _ (List.mem_append_left _ S.mem1)))
    · exact List.mem_cons_of_mem _ (List.mem_cons_of_mem _ (List.mem_cons_of_mem _ (List.mem_append_right _ S.mem2)))
  noKeys := fun A s Q E hA ok h => getAttrOr_miss_zip ok.1 rfl rfl rfl zip_no_keys (by decide +kernel) hA h
  iter := fun A s d Q E hA ok hd hdf h => by
    obtain ⟨hz, hTI, ⟨a, b, hTO⟩, h1, h2⟩ := ok
    have dz : d ≠ z := fun q => hdf (q ▸ List.mem_cons_self)
    have dTI : d ≠ TI := fun q => hdf (q ▸ List.mem_cons_of_mem _ List.mem_cons_self)
    have dTO : d ≠ TO := fun q => hdf (q ▸ List.mem_cons_of_mem _ (List.mem_cons_of_mem _ List.mem_cons_self))
    have d1 : d ∉ fp1 := fun q => hdf (List.mem_cons_of_mem _ (List.mem_cons_of_mem _ (List.mem_cons_of_mem _ (List.mem_append_left _ q))))
    have d2 : d ∉ fp2 := fun q => hdf (List.mem_cons_of_mem _ (List.mem_cons_of_mem _ (List.mem_cons_of_mem _ (List.mem_append_right _ q))))
    obtain ⟨s1z, s2z, sT1, sT2⟩ := ZipSep2.z1 S
    have hA1 : A.in1.handled = none := hA
    refine wpAny_pyIter_zip hz (h z [z, TO, i1, i2] (fun i h => IsTupOf2 h TI (.ref i1) (.ref i2) ∧ St1 i h ∧ St2 i h ∧
      ((IsZip h z TI TO .none ∧ ∃ a b, IsTupOf2 h TO a b) ∨ ∃ T f oT, IsZipHeld h z TI TO T f ∧ h.get? T = some oT ∧ T ≠ z ∧ T ≠ i1 ∧ T ≠ i2 ∧ T ≠ d)) s.heap s.toks ?_
      ⟨hTI, h1, h2, .inl ⟨hz, a, b, hTO⟩⟩ (fun _ _ e => e) fun b hb => .inl hb)
    refine { off := fun hm => ?_, frame := fun i ha hb st hk => ?_, item := fun i s1 Q1 E1 hi st hds hQ => ?_, done := fun s1 Q1 E1 st hQ => ?_ }
    · simp only [List.mem_cons, List.not_mem_nil, or_false] at hm
      rcases hm with e | e | e | e
      · exact dz e
      · exact dTO e
      · exact d1 (e ▸ S.mem1)
      · exact d2 (e ▸ S.mem2)
    · obtain ⟨q1, q2, q3, q4⟩ := st
      refine ⟨hk _ _ (Ne.symm dTI) q1, (D1 A hA).frame _ _ _ q2 fun b hb o e => hk b o (fun z => d1 (z ▸ hb)) e, (D2 A hA).frame _ _ _ q3 fun b hb o e => hk b o (fun z => d2 (z ▸ hb)) e, ?_⟩
      rcases q4 with ⟨q4, a, b, q5⟩ | ⟨T, f, oT, q4, q5, r1, r2, r3, r4⟩
      · exact .inl ⟨hk _ _ (Ne.symm dz) q4, a, b, hk _ _ (Ne.symm dTO) q5⟩
      · exact .inr ⟨T, f, oT, hk _ _ (Ne.symm dz) q4, hk _ _ r4 q5, r1, r2, r3, r4⟩
    · obtain ⟨q1, q2, q3, q4⟩ := st
      have k1 : i < n1 := Nat.lt_of_lt_of_le hi (Nat.min_le_left ..)
      have k2 : i < n2 := Nat.lt_of_lt_of_le hi (Nat.min_le_right ..)
      have new : ∀ {c o}, s1.heap.get? c = some o → s1.heap.objs.size ≠ c := fun e => Nat.ne_of_gt (Heap.lt_size e)
      obtain ⟨o1, g1⟩ := L1 _ _ q2 i1 S.mem1
      obtain ⟨o2, g2⟩ := L2 _ _ q3 i2 S.mem2
      rcases q4 with ⟨q4, a, b, q5⟩ | ⟨T, f, oT, q4, q5, r1, r2, r3, r4⟩
      · refine wpAny_pyNext_zipD2_item S (D1 _ hA1) (D2 _ hA1) q4 q1 q5 q2 q3 k1 k2 fun x y h' tk px py a1 a2 a3 a4 a5 a6 hk => ?_
        exact hQ s1.heap.objs.size x y h' tk ⟨px, py⟩ (.inl ⟨_, a5, rfl, _, rfl⟩)
          ⟨hk _ _ S.TIz S.TITO S.TIi1 S.TIi2 q1, a3, a4, .inr ⟨s1.heap.objs.size, false, _, a1, a5, new q4, new g1, new g2, Nat.ne_of_gt hds⟩⟩
          fun c o hc e => hk c o (fun x => hc (by simp [x])) (fun x => hc (by simp [x])) (fun x => hc (by simp [x])) (fun x => hc (by simp [x])) e
      · refine next_zipH_item S (D1 _ hA1) (D2 _ hA1) q4 q5 q1 q2 q3 k1 k2 fun x y h' tk px py a1 a3 a4 a5 a6 hk => ?_
        exact hQ s1.heap.objs.size x y h' tk ⟨px, py⟩ (.inl ⟨_, a5, rfl, _, rfl⟩)
          ⟨hk _ _ S.TIz S.TIi1 S.TIi2 q1, a3, a4, .inr ⟨T, true, oT, a1, hk _ _ r1 r2 r3 q5, r1, r2, r3, r4⟩⟩
          fun c o hc e => hk c o (fun x => hc (by simp [x])) (fun x => hc (by simp [x])) (fun x => hc (by simp [x])) e
    · obtain ⟨q1, q2, q3, q4⟩ := st
      have hend : min n1 n2 = n1 ∨ min n1 n2 = n2 := by omega
      rcases q4 with ⟨q4, a, b, q5⟩ | ⟨T, f, oT, q4, q5, r1, r2, r3, r4⟩
      · exact wpAny_pyNext_zipD2_end S (D1 _ hA1) (D2 _ hA1) q4 q1 q5 q2 q3 (Nat.min_le_left ..) (Nat.min_le_right ..) hend fun h' tk hk => hQ h' tk fun c o hc e => hk c o (fun x => hc (by simp [x])) (fun x => hc (by simp [x])) (fun x => hc (by simp [x])) (fun x => hc (by simp [x])) e
      · exact next_zipH_end S (D1 _ hA1) (D2 _ hA1) q4 q5 q1 q2 q3 (Nat.min_le_left ..) (Nat.min_le_right ..) hend fun h' tk hk => hQ h' tk fun c o hc e => hk c o (fun x => hc (by simp [x])) (fun x => hc (by simp [x])) (fun x => hc (by simp [x])) e
end TP
/-! TPu: new dicts: dict(d), dict(pairs), dict(zip(a, b)). -/
namespace TP
open PySem L2
section
variable {X : Cx}
/-! ### dict(zip(a, b)) of two tuples -/
def tDictZip (K : PySem.W.Frag) (t : TA) : TE := fun σ H Q => t σ H fun vs H1 => ∃ (a b : Addr) (ks : List Key) (ys : List V), vs = [.ref a, .ref b] ∧ SqT K H1 a (ks.map kV) ∧ SqT K H1 b ys ∧ ∀ p, H1 p = none → Q (.ref p) (upd H1 p (.dK (mergeK [] (ks.zip ys))))
theorem kv_zip : ∀ (ks : List Key) {ys : List V} {us : List Value}, Vals ys us → KV (ks.zip ys) (ks.zip us)
  | [], _, _, _ => .nil
  | _ :: _, _, _, .nil => .nil
  | k :: ks, _, _, .cons h t => .cons ⟨rfl, h⟩ (kv_zip ks t)
open PySem.Spec PyProof.Rows in
theorem pe_dictzip {e1 e2 : Expr} {t : TA} {p1 p2 pos1 pos2 : Pos} (ha : PA X [e1, e2] t) (hc : X.calm = true) (hgd : Gl X "dict") (hmd : X.mg "dict" = none) (hgz : Gl X "zip") (hmz : X.mg "zip" = none)
    (he1 : starEach [e1, e2] X.env = (false, eval e1 X.env) :: starEach [e2] X.env := by rfl) (hp1 : (backTo pos2 (starEach [e2] X.env)).any (·.1) = false := by rfl)
    (he2 : starEach [.Call (.Name "zip" p2) [e1, e2] [] pos2] X.env = (false, eval (.Call (.Name "zip" p2) [e1, e2] [] pos2) X.env) :: starEach [] X.env := by rfl) :
    PE X (.Call (.Name "dict" p1) [.Call (.Name "zip" p2) [e1, e2] [] pos2] [] pos1) (tDictZip X.K t) := by
  have bd : bootBuiltins "dict" = some (.type "dict") := by decide +kernel
  have bz : bootBuiltins "zip" = some (.type "zip") := by decide +kernel
  constructor
  intro pins s σ H Q I h
  refine wpAny_Call_Name_kw (ld_blt I hgd hmd bd (callWith_type1 ?_ he2 (by rfl)))
  rw [he2]
  show wpAny _ _ (spliced ((false, eval (.Call (.Name "zip" p2) [e1, e2] [] pos2) X.env) :: backTo pos1 (starEach [] X.env))) _ _ s
  refine Calls.spliced_cons (wpAny_Call_Name_kw (ld_blt I hgz hmz bz (callWith_type1 (thn (ha.run pos2 pins s σ H _ I h) ?_) he1 hp1)))
  rintro us s1 ⟨vs, H1, I1, r, a, b, ks, ys, rfl, ta, tb, q⟩
  obtain ⟨u1, u2, rfl, r1, r2⟩ := vals2 r
  obtain rfl : u1 = Value.ref a := r1
  obtain rfl : u2 = Value.ref b := r2
  obtain ⟨its1, rv1, h1, l1⟩ := I1.tuple ta
  obtain ⟨its2, rv2, h2, l2⟩ := I1.tuple tb
  generalize hN : s1.heap.objs.size = N
  refine zip_begins2 (begins_tuple a its1.toArray) (begins_tuple b its2.toArray) h1 h2 ?_
  intro h' hz hTI hTO g1 g2 hsz hk
  rw [hN] at hz hTI hTO g1 g2 hsz ⊢
  have la : a < N := by rw [← hN]; exact Heap.lt_size h1.choose_spec.1
  have lb : b < N := by rw [← hN]; exact Heap.lt_size h2.choose_spec.1
  refine Calls.spliced_nil ?_
  have hh : X.A.handled = none := I1.ok.hd hc
  have S := zip_sep2 (N := N) (fp1 := [a]) (fp2 := [b]) (fun c hc => by rw [List.mem_singleton] at hc; subst hc; exact la) (fun c hc => by rw [List.mem_singleton] at hc; subst hc; exact lb)
  have P := zipArg (prog := X.prog) (w := X.w) S (fun A hA => Draws.tuple hA N a (Nat.ne_of_lt la) its1.toArray) (fun A hA => Draws.tuple hA (N + 1) b (Nat.ne_of_lt (Nat.lt_succ_of_lt lb)) its2.toArray)
    (fun i h st c hc => by
      obtain ⟨⟨o, ho, _⟩, ⟨o2, ho2, _⟩⟩ := st
      simp only [List.mem_cons, List.not_mem_nil, or_false] at hc
      rcases hc with rfl | rfl
      · exact ⟨o, ho⟩
      · exact ⟨o2, ho2⟩)
    (fun i h st c hc => by
      obtain ⟨⟨o, ho, _⟩, ⟨o2, ho2, _⟩⟩ := st
      simp only [List.mem_cons, List.not_mem_nil, or_false] at hc
      rcases hc with rfl | rfl
      · exact ⟨o, ho⟩
      · exact ⟨o2, ho2⟩)
  have rel : KV (ks.zip ys) (ks.zip its2) := kv_zip ks rv2
  have lk : its1.length = ks.length := by rw [← rv1.length, List.length_map]
  refine call_dict_pairs (knd := mixKind X.prog X.w) (kvs := ks.zip its2) P hh ⟨hz, hTI, ⟨_, _, hTO⟩, ⟨⟨_, g1, rfl, rfl⟩, h1.keeps hk⟩, ⟨⟨_, g2, rfl, rfl⟩, h2.keeps hk⟩⟩ ⟨?_, ?_⟩ ?_ ?_
  · rw [List.length_zip, List.size_toArray, List.size_toArray, lk]
  · rintro i key v ⟨k1, k2⟩
    rw [List.getElem?_toArray] at k1 k2
    have hi : i < its1.length := (List.getElem?_eq_some_iff.mp k1).1
    have hik : i < ks.length := by omega
    obtain ⟨u, hu, ru⟩ := rv1.get (i := i) (x := kV ks[i]) (by rw [List.getElem?_map, List.getElem?_eq_getElem hik]; rfl)
    rw [k1] at hu
    cases hu
    exact ⟨ks[i], by rw [List.getElem?_zip_eq_some]; exact ⟨List.getElem?_eq_getElem hik, k2⟩, kV_is ru⟩
  · rw [List.size_toArray, List.size_toArray]
    have := rv2.length
    omega
  · intro h'' tk hd hk2
    have hbig : sysModules < N := by rw [← hN]; exact I1.big
    have hb : N + 5 ≠ sysModules := Nat.ne_of_gt (Nat.lt_of_lt_of_le hbig (Nat.le_add_right N 5))
    have hm : ((N + 5 : Addr) == sysModules) = false := beq_eq_false_iff_ne.mpr hb
    rw [hsz] at hd ⊢
    have hlen : (mergeK [] (ks.zip ys)).length ≤ sizeLine := by
      refine Nat.le_trans (length_mergeK (ks.zip ys) []) ?_
      rw [List.length_nil, Nat.zero_add, List.length_zip]
      have := rv2.length
      omega
    have keep : ∀ c u, s1.heap.get? c = some u → h''.get? c = some u := fun c u e => by
      have lc : c < N := by rw [← hN]; exact Heap.lt_size e
      refine hk2 c u (fun hm => ?_) (hk c u e)
      simp only [List.mem_cons, List.not_mem_nil, or_false] at hm
      rcases hm with x | x | x | x
      · exact Nat.ne_of_lt (Nat.lt_of_lt_of_le lc (Nat.le_add_right N 4)) x
      · exact Nat.ne_of_lt (Nat.lt_of_lt_of_le lc (Nat.le_add_right N 3)) x
      · exact Nat.ne_of_lt lc x
      · exact Nat.ne_of_lt (Nat.lt_of_lt_of_le lc (Nat.le_add_right N 1)) x
    refine ⟨.ref (N + 5), upd H1 (N + 5) (.dK (mergeK [] (ks.zip ys))), ?_, rfl, q _ (I1.hok.fresh (by rw [hN]; exact Nat.le_add_right N 5))⟩
    exact I1.laid (t' := tk) keep (by rw [hN]; exact Nat.le_add_right N 5) (show ObjOk X.prog X.w _ _ _ (.dK (mergeK [] (ks.zip ys))) from ⟨hlen, hm, merged [] (ks.zip its2), KV.merge rel .nil, hd⟩)
/-! ### dict(pairs), keys that are tuples -/
def mergeT (kvs : List (List Key × V)) (qs : List (List Key × Addr × V)) : List (List Key × V) := qs.foldl (fun acc q => putK acc q.1 q.2.2) kvs
def rDictT (K : PySem.W.Frag) : List V → Hp → VK → Prop := fun xs H Q => ∃ (a : Addr) (ps : List Addr) (qs : List (List Key × Addr × V)), xs = [.ref a] ∧ SqL K H a (ps.map V.ref) ∧
  Paired (fun p q => SqT K H p [.ref q.2.1, q.2.2] ∧ H q.2.1 = some (.tup (q.1.map kV))) ps qs ∧ ∀ p, H p = none → Q (.ref p) (upd H p (.dT (mergeT [] qs)))
theorem pairsT_of {pins : List (Addr × Obj)} {σ : L2.St} {H : Hp} {s : Shared} (I : L2.Inv X pins σ H s) : ∀ {ps : List Addr} {qs : List (List Key × Addr × V)}, Paired (fun p (q : List Key × Addr × V) => SqT X.K H p [.ref q.2.1, q.2.2] ∧ H q.2.1 = some (.tup (q.1.map kV))) ps qs →
    ∃ rs : List (List Key × Addr × Value), Paired (fun (q : List Key × Addr × V) (r : List Key × Addr × Value) => q.1 = r.1 ∧ q.2.1 = r.2.1 ∧ RelV q.2.2 r.2.2) qs rs ∧ rs.length = ps.length ∧
      ∀ (j : Nat) (r : List Key × Addr × Value), rs[j]? = some r → ∃ b, ps[j]? = some b ∧ PyProof.Rows.IsTup s.heap b #[.ref r.2.1, r.2.2] ∧ H r.2.1 = some (.tup (r.1.map kV))
  | _, _, .nil => ⟨[], .nil, rfl, fun j r e => by simp at e⟩
  | _, _, .cons (a := p) (b := q) h t => by
    obtain ⟨rs, r1, r2, r3⟩ := pairsT_of I t
    obtain ⟨its, rv, ht, _⟩ := I.tuple h.1
    obtain ⟨u, y, ei, ru, ry⟩ := vals2 rv
    subst ei
    obtain rfl : u = Value.ref q.2.1 := ru
    refine ⟨(q.1, q.2.1, y) :: rs, .cons ⟨rfl, rfl, ry⟩ r1, by rw [List.length_cons, List.length_cons, r2], fun j r e => ?_⟩
    cases j with
    | zero =>
      have e' : (q.1, q.2.1, y) = r := Option.some.inj e
      subst e'
      exact ⟨p, rfl, ht, h.2⟩
    | succ j =>
      obtain ⟨b, e1, e2, e3⟩ := r3 j r (by simpa using e)
      exact ⟨b, by simpa using e1, e2, e3⟩
theorem kt_fold {H : Hp} : ∀ {qs : List (List Key × Addr × V)} {rs : List (List Key × Addr × Value)} {kvs : List (List Key × V)} {xs : List (List Key × Addr × Value)},
    Paired (fun (q : List Key × Addr × V) (r : List Key × Addr × Value) => q.1 = r.1 ∧ q.2.1 = r.2.1 ∧ RelV q.2.2 r.2.2) qs rs → (∀ q ∈ qs, H q.2.1 = some (.tup (q.1.map kV))) → KT H kvs xs → KT H (mergeT kvs qs) (storedAllH xs rs)
  | _, _, kvs, xs, .nil, _, h => h
  | _, _, kvs, xs, .cons (a := q) (b := r) h t, hq, hk => by
    obtain ⟨k', b', y'⟩ := r
    obtain ⟨k, b, y⟩ := q
    obtain ⟨e1, e2, e3⟩ := h
    have e1 : k = k' := e1
    have e2 : b = b' := e2
    subst e1 e2
    have e3 : RelV y y' := e3
    have hb : H b = some (.tup (k.map kV)) := hq (k, b, y) List.mem_cons_self
    show KT H (mergeT (putK kvs k y) _) (storedAllH (storedH xs k b y') _)
    exact kt_fold (kvs := putK kvs k y) (xs := storedH xs k b y') t (fun q hm => hq q (List.mem_cons_of_mem _ hm)) (hk.put k hb e3)
theorem mergeT_len : ∀ (qs : List (List Key × Addr × V)) (kvs : List (List Key × V)), (mergeT kvs qs).length ≤ kvs.length + qs.length
  | [], kvs => Nat.le_refl _
  | q :: qs, kvs => by
    have h1 := mergeT_len qs (putK kvs q.1 q.2.2)
    have h2 : (putK kvs q.1 q.2.2).length ≤ kvs.length + 1 := by
      unfold putK
      split
      · rw [List.length_map]; omega
      · rw [List.length_append]; exact Nat.le_refl _
    rw [List.length_cons]
    show (mergeT (putK kvs q.1 q.2.2) qs).length ≤ _
    omega
open PySem.Spec PyProof.Rows in
theorem call_dictT (hcalm : X.calm = true) (hu : X.A.units + 200 < cLine) : CallR X (.type "dict") (rDictT X.K) := by
  intro pins s σ H xs us Q I r h
  obtain ⟨a, ps, qs, rfl, hq, hp, q⟩ := h
  obtain ⟨u, rfl, rx⟩ := vals1 r
  obtain rfl : u = Value.ref a := rx
  obtain ⟨its, rv, pl, hz⟩ := I.list hq
  have ei := refs_at rv
  subst ei
  rw [List.length_map] at hz
  obtain ⟨rs, rel, hl, hr⟩ := pairsT_of I hp
  obtain ⟨o, n, ho, hc, hd, hdat⟩ := pl
  have P := PairArg.list (prog := X.prog) (w := X.w) a (ps.map Value.ref).toArray (fun j => ps.getD j 0) (rs.map fun x => (Value.ref x.2.1, x.2.2))
  have key : ∀ x ∈ rs, H x.2.1 = some (.tup (x.1.map kV)) := fun x hx => by
    obtain ⟨j, hj⟩ := List.getElem?_of_mem hx
    obtain ⟨b, _, _, e⟩ := hr j x hj
    exact e
  refine call_dict_pairsH (knd := tupleKind (mixKind X.prog X.w)) (ps := rs) P (I.ok.hd hcalm) (by show X.A.in1.in1.units < cLine; show X.A.units + 1 + 1 < cLine; omega) ⟨⟨o, n, ho, hc, hd, hdat⟩, by simp [hl], fun j k v hj => ?_⟩ ⟨by rw [List.length_map], fun j k v hj => ?_⟩ (fun h' hk x hx => ?_) (by rw [List.length_map, hl]; exact hz) fun h' tk hd' hk => ?_
  · rw [List.getElem?_map] at hj
    cases hx : rs[j]? with
    | none => rw [hx] at hj; cases hj
    | some x =>
      rw [hx] at hj
      cases hj
      obtain ⟨b, e1, e2, _⟩ := hr j x hx
      refine ⟨by simp [e1], .inl ?_⟩
      show s.heap.IsTuple (ps.getD j 0) _
      rw [show ps.getD j 0 = b by simp [e1]]
      exact e2
  · have hj' : (rs.map fun x => (Value.ref x.2.1, x.2.2))[j]? = some (k, v) := hj
    rw [List.getElem?_map] at hj'
    cases hx : rs[j]? with
    | none => rw [hx] at hj'; cases hj'
    | some x =>
      rw [hx] at hj'
      cases hj'
      exact ⟨x.1, x.2.1, rfl, rfl⟩
  · obtain ⟨ob, iv, nv, hob, r⟩ := (show IsTupleKey (mixKind X.prog X.w) s.heap x.1 x.2.1 from key_of I.hok (key x hx))
    exact ⟨ob, iv, nv, hk _ _ (Nat.ne_of_lt (Heap.lt_size hob)) (by simp) hob, r⟩
  · have hm : (s.heap.objs.size == sysModules) = false := beq_eq_false_iff_ne.mpr (Nat.ne_of_gt I.big)
    have lq : qs.length = ps.length := by
      have : ∀ {α β : Type} {R : α → β → Prop} {l : List α} {m : List β}, Paired R l m → l.length = m.length := fun {α β R l m} h => by
        induction h with
        | nil => rfl
        | cons _ _ ih => rw [List.length_cons, List.length_cons, ih]
      exact (this hp).symm
    have hlen : (mergeT [] qs).length ≤ sizeLine := by
      refine Nat.le_trans (mergeT_len qs []) ?_
      rw [List.length_nil, Nat.zero_add, lq]
      exact hz
    have hqk : ∀ x ∈ qs, H x.2.1 = some (.tup (x.1.map kV)) := by
      have : ∀ {ps : List Addr} {qs : List (List Key × Addr × V)}, Paired (fun p (q : List Key × Addr × V) => SqT X.K H p [.ref q.2.1, q.2.2] ∧ H q.2.1 = some (.tup (q.1.map kV))) ps qs → ∀ x ∈ qs, H x.2.1 = some (.tup (x.1.map kV)) := fun {ps qs} h => by
        induction h with
        | nil => intro x hx; cases hx
        | cons h1 _ ih =>
          intro x hx
          rcases List.mem_cons.mp hx with rfl | hx
          · exact h1.2
          · exact ih x hx
      exact this hp
    have fr : H s.heap.objs.size = none := I.hok.fresh (Nat.le_refl _)
    have kt : KT (upd H s.heap.objs.size (.dT (mergeT [] qs))) (mergeT [] qs) (storedAllH [] rs) := (kt_fold rel hqk .nil).keeps fun b ys e => by rw [upd_ne (ne_of_none e fr)]; exact e
    obtain ⟨o', es, ep, d1, d2, d3, d4, _, d6⟩ := hd'
    exact ⟨.ref s.heap.objs.size, upd H s.heap.objs.size (.dT (mergeT [] qs)), I.laid (t' := tk) (fun b u e => hk b u (by simp) e) (Nat.le_refl _) (show ObjOk X.prog X.w _ _ _ (.dT (mergeT [] qs)) from ⟨hlen, hm, storedAllH [] rs, kt, o', es, ep, d1, d2, d3, d4, d6⟩), rfl, q _ fr⟩
end
section
variable {K : PySem.W.Frag} {E : Wish} {X : Cx} {e : Expr}
/-! ### a new thing of the store, by what is handed in -/
def PrimD (K : PySem.W.Frag) (r : List V → Hp → VK → Prop) (g : Store → D → Option MO) : Prop := ∀ (w : Wd) (vx : V) (x : D) (o : MO) (Q : VK), w.Ok K → RepB K w vx x → g w.M x = some o →
  (∀ p ho, w.H p = none → MoR K ⟨w.A, w.G, w.M, upd w.H p ho⟩ p o → Q (.ref p) (upd w.H p ho)) → r [vx] w.H Q
def dNewD (g : Store → D → Option MO) (fo : FD) : FD := fun ρ M => (fo ρ M).bind fun x M => match g M x with
  | some o => .ok (.ref M.length) (M ++ [o])
  | none => .bad
theorem x_newD {r : List V → Hp → VK → Prop} {g : Store → D → Option MO} {fo : FD} (h : PE X e (tCB r (tAR K E (dCons fo dNil)))) (p : PrimD K r g) : PE X e (tF K E (dNewD g fo)) := PE.wk h fun σ H Q ⟨ρ, w, e1, ok, sr, a⟩ => by
  refine ⟨ρ, w, e1, ok, sr, ?_⟩
  unfold dNewD at a
  cases hfo : fo ρ w.M with
  | bad => rw [hfo] at a; exact a.elim
  | exc c d M1 =>
    rw [hfo] at a
    unfold dCons
    rw [hfo]
    exact a
  | ok x M1 =>
    rw [hfo] at a
    unfold dCons
    rw [hfo]
    intro w1 s1 eM vs rvs
    cases rvs with
    | cons rv t =>
      cases t
      have a' := a
      simp only [R.bind_ok] at a'
      split at a'
      · rename_i o ho
        refine p w1 _ x o Q s1.ok rv (by rw [eM]; exact ho) fun q hob hq hm => ?_
        obtain ⟨st, hA⟩ := new_obj (o := hob) (m := o) s1.ok hq hm
        have a2 : ∀ w', Step K w w' → w'.M = M1 ++ [o] → ∀ v, Rep K w'.A w'.G v (.ref M1.length) → Q v w'.H := a'
        refine a2 _ (s1.trans st) (by rw [eM]) _ ?_
        rw [← eM]
        exact .ref hA
      · exact a'.elim
/-! ### dict(d) -/
def rDictD : List V → Hp → VK → Prop := fun xs H Q => ∃ (a : Addr) (kvs : List (Key × V)), xs = [.ref a] ∧ Rd H a (.dK kvs) ∧ ∀ p, H p = none → Q (.ref p) (upd H p (.dK kvs))
def copyD (M : Store) (x : D) : Option MO := match x with
  | .ref k => match M[k]? with
    | some (.dK kvs) => some (.dK kvs)
    | _ => none
  | _ => none
theorem p_copyD : PrimD K rDictD copyD := by
  intro w vx x o Q ok rx h k
  unfold copyD at h
  split at h
  · rename_i j
    split at h
    · rename_i kvs e2
      cases h
      obtain ⟨p, rfl, ea⟩ := ref_at rx
      obtain ⟨p', ea', vs, hH, rk⟩ := ok.mos j _ e2
      rw [ea] at ea'
      cases ea'
      exact ⟨p, vs, rfl, .inl hH, fun q hq => k q _ hq ⟨vs, upd_same, rk⟩⟩
    · cases h
  · cases h
/-! ### dict(pairs) -/
def mergeP {κ : Type} [DecidableEq κ] (acc kvs : List (κ × D)) : List (κ × D) := kvs.foldl (fun acc kv => putD acc kv.1 kv.2) acc
def pairsK : List D → Option (List (Key × D))
  | [] => some []
  | .tup [k, v] :: ds => match keyD k, pairsK ds with
    | some k, some r => some ((k, v) :: r)
    | _, _ => none
  | _ => none
def pairsT : List D → Option (List (List Key × D))
  | [] => some []
  | .tup [.tup k, v] :: ds => match keysD k, pairsT ds with
    | some k, some r => some ((k, v) :: r)
    | _, _ => none
  | _ => none
def rDictP (K : PySem.W.Frag) : List V → Hp → VK → Prop := fun xs H Q => ∃ (a : Addr) (ps : List Addr) (kvs : List (Key × V)), xs = [.ref a] ∧ SqL K H a (ps.map V.ref) ∧ Paired (fun p kv => SqT K H p [kV kv.1, kv.2]) ps kvs ∧
  ∀ p, H p = none → Q (.ref p) (upd H p (.dK (mergeK [] kvs)))
theorem pairsK_at {A : List Addr} {G H : Hp} (sub : Same G H) : ∀ {vs : List V} {ds : List D} {kvs : List (Key × D)}, RepL K A G vs ds → pairsK ds = some kvs →
    ∃ (ps : List Addr) (kv : List (Key × V)), vs = ps.map V.ref ∧ Paired (fun p kv => SqT K H p [kV kv.1, kv.2]) ps kv ∧ RepKV (Rep K A G) kv kvs
  | [], [], _, _, h => by
    unfold pairsK at h
    cases h
    exact ⟨[], [], rfl, .nil, .nil⟩
  | v :: vs, d :: ds, kvs, .cons r t, h => by
    unfold pairsK at h
    split at h
    · rename_i heq; cases heq
    · rename_i k d2 ds2 heq
      cases heq
      split at h
      · rename_i key rest hk hr
        cases h
        obtain ⟨ps, kv, rfl, hp, hrk⟩ := pairsK_at sub t hr
        cases r with
        | @tup a us _ hs rl =>
          cases rl with
          | cons r1 t1 =>
            cases t1 with
            | cons r2 t2 =>
              cases t2
              have e := key_at r1 hk
              subst e
              exact ⟨a :: ps, (key, _) :: kv, rfl, .cons (.inl (.inl (sub _ _ hs))) hp, .cons r2 hrk⟩
      · cases h
    · cases h
theorem pairsT_at {A : List Addr} {G H : Hp} (sub : Same G H) : ∀ {vs : List V} {ds : List D} {kvs : List (List Key × D)}, RepL K A G vs ds → pairsT ds = some kvs →
    ∃ (ps : List Addr) (qs : List (List Key × Addr × V)), vs = ps.map V.ref ∧ Paired (fun p (q : List Key × Addr × V) => SqT K H p [.ref q.2.1, q.2.2] ∧ H q.2.1 = some (.tup (q.1.map kV))) ps qs ∧ RepKV (Rep K A G) (qs.map fun q => (q.1, q.2.2)) kvs
  | [], [], _, _, h => by
    unfold pairsT at h
    cases h
    exact ⟨[], [], rfl, .nil, .nil⟩
  | v :: vs, d :: ds, kvs, .cons r t, h => by
    unfold pairsT at h
    split at h
    · rename_i heq; cases heq
    · rename_i k d2 ds2 heq
      cases heq
      split at h
      · rename_i key rest hk hr
        cases h
        obtain ⟨ps, qs, rfl, hp, hrk⟩ := pairsT_at sub t hr
        cases r with
        | @tup a us _ hs rl =>
          cases rl with
          | cons r1 t1 =>
            cases t1 with
            | cons r2 t2 =>
              cases t2
              cases r1 with
              | @tup b ks _ hb rb =>
                have e := keys_at rb hk
                subst e
                exact ⟨a :: ps, (key, b, _) :: qs, rfl, .cons ⟨.inl (.inl (sub _ _ hs)), sub _ _ hb⟩ hp, .cons r2 hrk⟩
      · cases h
    · cases h
theorem merge_kv {κ : Type} [DecidableEq κ] {R : V → D → Prop} : ∀ {kv : List (κ × V)} {kd : List (κ × D)} {av : List (κ × V)} {ad : List (κ × D)}, RepKV R kv kd → RepKV R av ad → RepKV R (kv.foldl (fun acc x => putK acc x.1 x.2) av) (mergeP ad kd)
  | _, _, av, ad, .nil, h => h
  | (k, v) :: kv, (_, d) :: kd, av, ad, .cons r t, h => by
    show RepKV R (kv.foldl (fun acc x => putK acc x.1 x.2) (putK av k v)) (mergeP (putD ad k d) kd)
    exact merge_kv t (h.put r k)
def pairKD (M : Store) (x : D) : Option MO := match lstOf M x with
  | some ds => (pairsK ds).map fun kvs => .dK (mergeP [] kvs)
  | none => none
theorem p_pairKD : PrimD K (rDictP K) pairKD := by
  intro w vx x o Q ok rx h k
  unfold pairKD at h
  split at h
  · rename_i ds e1
    cases hp : pairsK ds with
    | none => rw [hp] at h; cases h
    | some kvs =>
      rw [hp] at h
      cases h
      obtain ⟨p, vs, rfl, hs, rl⟩ := lst_at ok rx e1
      obtain ⟨ps, kv, rfl, h1, h2⟩ := pairsK_at ok.sub rl hp
      exact ⟨p, ps, kv, rfl, .inl (.inl hs), h1, fun q hq => k q _ hq ⟨_, upd_same, merge_kv h2 .nil⟩⟩
  · cases h
def pairTD (M : Store) (x : D) : Option MO := match lstOf M x with
  | some ds => (pairsT ds).map fun kvs => .dT (mergeP [] kvs)
  | none => none
theorem mergeT_eq (qs : List (List Key × Addr × V)) : ∀ acc, mergeT acc qs = (qs.map fun q => (q.1, q.2.2)).foldl (fun acc x => putK acc x.1 x.2) acc := by
  induction qs with
  | nil => intro acc; rfl
  | cons q qs ih => intro acc; exact ih _
theorem p_pairTD : PrimD K (rDictT K) pairTD := by
  intro w vx x o Q ok rx h k
  unfold pairTD at h
  split at h
  · rename_i ds e1
    cases hp : pairsT ds with
    | none => rw [hp] at h; cases h
    | some kvs =>
      rw [hp] at h
      cases h
      obtain ⟨p, vs, rfl, hs, rl⟩ := lst_at ok rx e1
      obtain ⟨ps, qs, rfl, h1, h2⟩ := pairsT_at ok.sub rl hp
      refine ⟨p, ps, qs, rfl, .inl (.inl hs), h1, fun q hq => k q _ hq ⟨_, upd_same, ?_⟩⟩
      rw [mergeT_eq]
      exact merge_kv h2 .nil
  · cases h
/-! ### dict(zip(a, b)) -/
def dDictZ (fs : FL) : FD := fun ρ M => (fs ρ M).bind fun ds M => match ds with
  | [.tup xs, .tup ys] => match keysD xs with
    | some ks => .ok (.ref M.length) (M ++ [.dK (mergeP [] (ks.zip ys))])
    | none => .bad
  | _ => .bad
theorem zip_kv {R : V → D → Prop} : ∀ (ks : List Key) {vs : List V} {ds : List D}, (∀ (i : Nat) (v : V), vs[i]? = some v → ∃ d, ds[i]? = some d ∧ R v d) → vs.length = ds.length → RepKV R (ks.zip vs) (ks.zip ds)
  | [], _, _, _, _ => .nil
  | _ :: _, [], [], _, _ => .nil
  | k :: ks, v :: vs, d :: ds, h, hl => by
    obtain ⟨d', e, r⟩ := h 0 v rfl
    cases e
    exact .cons r (zip_kv ks (fun i x hx => by
      obtain ⟨y, h1, h2⟩ := h (i + 1) x (by simpa using hx)
      exact ⟨y, by simpa using h1, h2⟩) (by simpa using hl))
  | _ :: _, [], _ :: _, _, hl => by cases hl
  | _ :: _, _ :: _, [], _, hl => by cases hl
theorem x_dictZ {fs : FL} (h : PE X e (tDictZip K (tAF K E fs))) : PE X e (tF K E (dDictZ fs)) := PE.wk h fun σ H Q ⟨ρ, w, e1, ok, sr, a⟩ =>
  ⟨ρ, w, e1, ok, sr, a.bind.imp fun ds w1 s1 a1 vs rvs => by
    split at a1
    · rename_i xs ys
      split at a1
      · rename_i ks hk
        cases rvs with
        | cons r1 t1 =>
          cases t1 with
          | cons r2 t2 =>
            cases t2
            cases r1 with
            | @tup p us _ hs rl =>
              cases r2 with
              | @tup q ws _ hs2 rl2 =>
                have e := keys_at rl hk
                subst e
                refine ⟨p, q, ks, ws, rfl, .inl (.inl (s1.ok.sub _ _ hs)), .inl (.inl (s1.ok.sub _ _ hs2)), fun n hn => ?_⟩
                obtain ⟨st, hA⟩ := new_obj (o := .dK (mergeK [] (ks.zip ws))) (m := .dK (mergeP [] (ks.zip ys))) s1.ok hn ⟨_, upd_same, merge_kv (zip_kv ks (fun i v hv => rl2.get' hv) rl2.length) .nil⟩
                have a2 : ∀ w', Step K w1 w' → w'.M = w1.M ++ [.dK (mergeP [] (ks.zip ys))] → ∀ v, Rep K w'.A w'.G v (.ref w1.M.length) → Q v w'.H := a1
                exact a2 _ st rfl _ (.ref hA)
      · exact a1.elim
    · exact a1.elim⟩
end
end TP
/-! TPv: what the printed proofs of classes use besides. -/
namespace TP
open PySem L2
/-- a, b = a list -/
def bLst (is : List Nat) : D → EnvD → Option EnvD := fun d ρ => match d with
  | .lst ds => bNames is ds ρ
  | _ => none
theorem x_glst {X : Cx} {K : PySem.W.Frag} {tg : Expr} {is : List Nat} {n : Nat} (hn : n = is.length) (h : PG X tg (gLst K n (gNames is))) : PG X tg (tG K (bLst is) is) := PG.wk h fun v σ H Q ⟨ρ, w, d, ρ', e1, ok, sr, r, eb, k⟩ => by
  subst e1
  unfold bLst at eb
  split at eb
  · cases r with
    | lst hs rl =>
      refine ⟨_, _, rfl, .inl (.inl (ok.sub _ _ hs)), by rw [rl.length, ← bNames_len eb, hn], ?_⟩
      exact gNames_ok ok is _ _ ρ ρ' σ sr rl eb k
  · cases eb
/-- a, b = x, []: the second is a list of its own -/
def sParO (i j : Nat) (f : FD) (g : FE) : FS := fun ρ M => (f ρ M).out fun x M => (g ρ M).out fun y M => match y with
  | .val d => .next ((ρ.set i (.val x)).set j (.val d)) M
  | .own ds => .next ((ρ.set i (.val x)).set j (.own ds)) M
  | .un => .bad
theorem s_parO {X : Cx} {K : PySem.W.Frag} {E : Wish} {st : Stmt} {i j : Nat} {f : FD} {g : FE} (h : PS X st (tPar i j (tCons (tF K E f) (tCons (tE K E g) tNil)))) : PS X st (tS K E (sParO i j f g)) := PS.wk h fun D σ H ⟨ρ, w, w0, e1, s, sr, of, p⟩ =>
  ⟨ρ, w, e1, s.ok, sr, (out_after s p).imp fun x w1 s1 p1 v rv => ⟨ρ, w1, rfl, s1.ok, sr.step s1, (out_after (s.trans s1) p1).imp fun y w2 s2 p2 u ru => by
    refine ⟨_, _, rfl, ?_⟩
    cases y with
    | un => exact p2.elim
    | val d =>
      have sr2 : SR K w2 ((ρ.set i (.val x)).set j (.val d)) ((σ.set i (some v)).set j (some u)) := (((sr.step s1).set i rv).step s2).set j ru
      exact p2 w2 _ ((s.trans s1).trans s2) (Le.refl _) rfl sr2 (of.sub ((OwnSub.set ρ σ i (fun _ z => by cases z) _).trans (OwnSub.set _ _ j (fun _ z => by cases z) _)))
    | own ds => exact p2 w2 _ ((s.trans s1).trans s2) (Le.refl _) rfl (((sr.step s1).set i rv).setOwn s2 j ru) ((of.sub (OwnSub.set ρ σ i (fun _ z => by cases z) _)).setOwn (s.trans s1) j ru)⟩⟩
/-- the n-th statement of a class -/
def clsS (s : Stmt) (n : Nat) : Stmt := match s with
  | .ClassDef (body := b) .. => b.getD n (.Pass ⟨0, 0, 0, 0⟩)
  | _ => .Pass ⟨0, 0, 0, 0⟩
theorem clsAt_of {K : PySem.W.Frag} {c : Str} {C : Addr} (h : PySem.W.nsIn K mainGlobals c = some (some (.ref C))) : clsAt K c = C := by
  unfold clsAt
  rw [h]
theorem cls_mk {K : PySem.W.Frag} {c : Str} {C : Addr} (h : PySem.W.nsIn K mainGlobals c = some (some (.ref C))) (h1 : PySem.W.plainGet K C Str.empty = true) (h2 : PySem.W.hasDictIn K C = true) (h3 : PySem.W.plainOver K C = true) (h4 : PySem.W.findIn K (.ref C) "__setattr__" = some (some (.builtin "object.__setattr__"))) : Cls K (clsAt K c) := by
  rw [clsAt_of h]
  exact ⟨h1, h2, h3, h4⟩
theorem mk_mk {K : PySem.W.Frag} {c : Str} {C f : Addr} (h : PySem.W.nsIn K mainGlobals c = some (some (.ref C))) (h1 : PySem.W.makesIn K C = true) (h2 : PySem.W.findIn K (.ref C) "__init__" = some (some (.ref f))) (h3 : PySem.W.isFn K (.ref f) = true) (h4 : PySem.W.keepIn K (.ref C) = true) : Mk K (clsAt K c) f := by
  rw [clsAt_of h]
  exact ⟨h1, h2, h3, h4⟩
theorem meth_mk {K : PySem.W.Frag} {c m : Str} {C f : Addr} (h : PySem.W.nsIn K mainGlobals c = some (some (.ref C))) (h1 : PySem.W.findIn K (.ref C) m = some (some (.ref f))) (h2 : PySem.W.isFn K (.ref f) = true) (h3 : PySem.W.keepIn K (.ref f) = true) : Meth K (clsAt K c) m f := by
  rw [clsAt_of h]
  exact ⟨h1, h2, h3⟩
theorem na_mk {K : PySem.W.Frag} {c m : Str} {C : Addr} (h : PySem.W.nsIn K mainGlobals c = some (some (.ref C))) (h1 : PySem.W.findIn K (.ref C) m = some none) : NoAttr K (clsAt K c) m := by
  rw [clsAt_of h]
  exact h1
theorem tab_nil {P : Str → Nat → Prop} : ∀ c i, ([] : List (Str × Nat)).lookup c = some i → P c i := fun c i h => by simp at h
theorem tab_cons {P : Str → Nat → Prop} {c0 : Str} {i0 : Nat} {tab : List (Str × Nat)} (h0 : P c0 i0) (h : ∀ c i, tab.lookup c = some i → P c i) : ∀ c i, ((c0, i0) :: tab).lookup c = some i → P c i := fun c i e => by
  rw [List.lookup_cons] at e
  cases hb : c == c0 with
  | true =>
    rw [hb] at e
    cases e
    rw [beq_iff_eq.mp hb]
    exact h0
  | false =>
    rw [hb] at e
    exact h c i e
section
variable {K : PySem.W.Frag} {E : Wish} {X : Cx} {e : Expr} {st : Stmt}
theorem x_methC0 {We : XK → Wish} {n : Nat} {m : Str} {tab : List (Str × Nat)} {Φ : Nat → Fn} {EX : XK} {fo : FD} (hE : We EX = E) (h0 : ∃ c i, tab.lookup c = some i)
    (h : ∀ c i, tab.lookup c = some i → PE X e (tMeth (clsAt K c) m (spD K We n (Φ i)) [] EX (tR K E fo) tNil)) : PE X e (tE K E (dMethC n m tab Φ fo dNil)) := by
  constructor
  intro pins s σ H Q I ⟨ρ, w, e1, ok, sr, a⟩
  unfold dMethC at a
  cases hfo : fo ρ w.M with
  | bad => rw [hfo] at a; exact a.elim
  | exc c d M1 =>
    rw [hfo] at a
    obtain ⟨c0, i0, hc0⟩ := h0
    refine (h c0 i0 hc0).run pins s σ H Q I ⟨ρ, w, e1, ok, sr, ?_⟩
    rw [hfo]
    exact a
  | ok x M1 =>
    rw [hfo] at a
    have a' := a
    simp only [R.bind_ok] at a'
    split at a'
    · rename_i k
      split at a'
      · rename_i c fds e2
        split at a'
        · rename_i hl1 hl2
          rename_i i
          refine (h c i hl2).run pins s σ H Q I ⟨ρ, w, e1, ok, sr, ?_⟩
          rw [hfo]
          intro w1 s1 eM vx rx
          obtain ⟨p, rfl, ea⟩ := ref_at rx
          rw [← eM] at e2 a'
          obtain ⟨p', ea', io, vs, dx, hH, rk⟩ := s1.ok.mos k _ e2
          rw [ea] at ea'
          cases ea'
          refine ⟨p, dx, vs, rfl, hH, (kv_look m rk).2 hl1, ?_⟩
          show spD K We n (Φ i) [V.ref p] w1.H Q EX
          have a2 : After K E w1 (if 0 + 1 = n then Φ i [.ref k] w1.M else .bad) (fun sl w' => ∀ v, RepX K w w' v sl → Q v w'.H) := (a'.later s1).bind w1 (Step.refl s1.ok) rfl
          split at a2
          · rename_i hn
            refine ⟨hn, [.ref k], w1, rfl, s1.ok, .one (.ref ea), ?_⟩
            rw [hE]
            exact a2.imp fun sl w3 s3 q v rv => q v (rv.back s1)
          · exact a2.elim
        · exact a'.elim
      · exact a'.elim
    · exact a'.elim
/-! ### == and != with [] -/
def rEqL : R2 := fun x y H Q => ∃ l m xs, x = .ref l ∧ y = .ref m ∧ H l = some (.lst xs) ∧ H m = some (.lst []) ∧ Q (.bl xs.isEmpty) H
def rNeL : R2 := fun x y H Q => ∃ l m xs, x = .ref l ∧ y = .ref m ∧ H l = some (.lst xs) ∧ H m = some (.lst []) ∧ Q (.bl (!xs.isEmpty)) H
open SeqAt in
theorem op_neL (hu : X.A.units + 200 < cLine) : OpR X (compareOp .NotEq) rNeL := by
  intro pins s σ H x y v u Q I rx ry h
  obtain ⟨l, m, xs, rfl, rfl, hl, hm, q⟩ := h
  obtain rfl : v = Value.ref l := rx
  obtain rfl : u = Value.ref m := ry
  obtain ⟨its, rv, pl, _⟩ := I.list (xs := xs) (.inl (.inl hl))
  obtain ⟨its2, rv2, pm, _⟩ := I.list (xs := []) (.inl (.inl hm))
  cases rv2
  have hu1 : X.A.units < cLine := by omega
  cases rv with
  | nil =>
    have := RcNeAt.lists (A := X.A) (s := s) (e := fun _ => true) pl.isList pm.isList rfl hu1 (fun j h1 _ => absurd h1 (by simp))
    exact this X.prog X.w X.xe _ ⟨.bl false, H, I, rfl, q⟩
  | cons h1 t1 =>
    have := RcNeAt.lists_lengths (A := X.A) (s := s) pl.isList pm.isList (by simp) hu1
    exact this X.prog X.w X.xe _ ⟨.bl true, H, I, rfl, q⟩
open SeqAt in
theorem op_eqL (hu : X.A.units + 200 < cLine) : OpR X (compareOp .Eq) rEqL := by
  intro pins s σ H x y v u Q I rx ry h
  obtain ⟨l, m, xs, rfl, rfl, hl, hm, q⟩ := h
  obtain rfl : v = Value.ref l := rx
  obtain rfl : u = Value.ref m := ry
  obtain ⟨its, rv, pl, _⟩ := I.list (xs := xs) (.inl (.inl hl))
  obtain ⟨its2, rv2, pm, _⟩ := I.list (xs := []) (.inl (.inl hm))
  cases rv2
  have hu1 : X.A.units < cLine := by omega
  cases rv with
  | nil =>
    have := RcAt.lists (A := X.A) (s := s) (e := fun _ => true) pl.isList pm.isList rfl hu1 (fun j h1 _ => absurd h1 (by simp))
    exact this X.prog X.w X.xe _ ⟨.bl true, H, I, rfl, q⟩
  | cons h1 t1 =>
    have := RcAt.lists_lengths (A := X.A) (s := s) pl.isList pm.isList (by simp) hu1
    exact this X.prog X.w X.xe _ ⟨.bl false, H, I, rfl, q⟩
def eqLD (M : Store) (x y : D) : Option Slot := match lstOf M x, lstOf M y with
  | some xs, some [] => some (.val (.bl xs.isEmpty))
  | _, _ => none
def neLD (M : Store) (x y : D) : Option Slot := match lstOf M x, lstOf M y with
  | some xs, some [] => some (.val (.bl (!xs.isEmpty)))
  | _, _ => none
theorem isEmpty_at {A : List Addr} {G : Hp} {vs : List V} {ds : List D} (r : RepL K A G vs ds) : vs.isEmpty = ds.isEmpty := by cases r <;> rfl
theorem p_eqL : Prim2 K rEqL eqLD := by
  intro w vx vy x y s Q ok rx ry h k
  unfold eqLD at h
  split at h
  · rename_i xs e1 e2
    cases h
    obtain ⟨p, vs, rfl, hs, rl⟩ := lst_at ok rx e1
    obtain ⟨p2, vs2, rfl, hs2, rl2⟩ := lst_at ok ry e2
    cases rl2
    refine ⟨p, p2, vs, rfl, rfl, hs, hs2, ?_⟩
    rw [isEmpty_at rl]
    exact ans ok k fun _ _ => .bl _
  · cases h
theorem p_neL : Prim2 K rNeL neLD := by
  intro w vx vy x y s Q ok rx ry h k
  unfold neLD at h
  split at h
  · rename_i xs e1 e2
    cases h
    obtain ⟨p, vs, rfl, hs, rl⟩ := lst_at ok rx e1
    obtain ⟨p2, vs2, rfl, hs2, rl2⟩ := lst_at ok ry e2
    cases rl2
    refine ⟨p, p2, vs, rfl, rfl, hs, hs2, ?_⟩
    rw [isEmpty_at rl]
    exact ans ok k fun _ _ => .bl _
  · cases h
end
/-- how often a while may turn -/
@[irreducible] def Lw : Nat := 1000000000000
/-! ### sorted of ints -/
def insI (x : Int) : List Int → List Int
  | [] => [x]
  | y :: ys => if x ≤ y then x :: y :: ys else y :: insI x ys
def sortI : List Int → List Int
  | [] => []
  | x :: xs => insI x (sortI xs)
theorem insI_perm (x : Int) : ∀ ys : List Int, (insI x ys).Perm (x :: ys)
  | [] => .refl _
  | y :: ys => by
    unfold insI
    split
    · exact .refl _
    · exact ((insI_perm x ys).cons y).trans (.swap x y ys)
theorem sortI_perm : ∀ xs : List Int, (sortI xs).Perm xs
  | [] => .refl _
  | x :: xs => (insI_perm x _).trans ((sortI_perm xs).cons x)
theorem insI_sorted (x : Int) : ∀ {ys : List Int}, ys.Pairwise (· ≤ ·) → (insI x ys).Pairwise (· ≤ ·)
  | [], _ => by unfold insI; exact List.pairwise_singleton _ _
  | y :: ys, h => by
    unfold insI
    rw [List.pairwise_cons] at h
    split
    · rename_i hx
      refine List.pairwise_cons.mpr ⟨fun z hz => ?_, List.pairwise_cons.mpr h⟩
      rcases List.mem_cons.mp hz with rfl | hz
      · exact hx
      · have := h.1 z hz; omega
    · rename_i hx
      refine List.pairwise_cons.mpr ⟨fun z hz => ?_, insI_sorted x h.2⟩
      rcases List.mem_cons.mp ((insI_perm x ys).mem_iff.mp hz) with rfl | hz
      · omega
      · exact h.1 z hz
theorem sortI_sorted : ∀ xs : List Int, (sortI xs).Pairwise (· ≤ ·)
  | [] => .nil
  | x :: xs => insI_sorted x (sortI_sorted xs)
theorem sorted_unique : ∀ {xs ys : List Int}, xs.Perm ys → xs.Pairwise (· ≤ ·) → ys.Pairwise (· ≤ ·) → xs = ys
  | [], ys, p, _, _ => (List.nil_perm.mp p).symm
  | x :: xs, [], p, _, _ => by have := p.length_eq; simp at this
  | x :: xs, y :: ys, p, hx, hy => by
    rw [List.pairwise_cons] at hx hy
    have e : x = y := by
      have h1 : x ∈ y :: ys := p.mem_iff.mp List.mem_cons_self
      have h2 : y ∈ x :: xs := p.mem_iff.mpr List.mem_cons_self
      rcases List.mem_cons.mp h1 with h1 | h1
      · exact h1
      · rcases List.mem_cons.mp h2 with h2 | h2
        · exact h2.symm
        · have := hx.1 y h2
          have := hy.1 x h1
          omega
    subst e
    rw [sorted_unique (List.Perm.cons_inv p) hx.2 hy.2]
section
variable {K : PySem.W.Frag}
def sortD (M : Store) (ds : List D) : Option Slot := match ds with
  | [x] => match seqOf M x with
    | some es => match intsOf es with
      | some ns => if ns.length < 64 then some (.own ((sortI ns).map .int)) else none
      | none => none
    | none => none
  | _ => none
theorem intsOf_eq : ∀ {ds : List D} {ns : List Int}, intsOf ds = some ns → ds = ns.map .int
  | [], _, h => by cases h; rfl
  | d :: ds, ns, h => by
    cases d with
    | int i =>
      have h' : (intsOf ds).map (i :: ·) = some ns := h
      cases hq : intsOf ds with
      | none => rw [hq] at h'; cases h'
      | some ms =>
        rw [hq] at h'
        cases h'
        rw [List.map_cons, intsOf_eq hq]
    | _ => cases h
theorem vals_int {A : List Addr} {G : Hp} : ∀ {vs : List V} {ns : List Int}, RepL K A G vs (ns.map D.int) → vs = ns.map V.int
  | [], [], _ => rfl
  | v :: vs, n :: ns, .cons r t => by
    cases r
    rw [List.map_cons, vals_int t]
theorem p_sort : PrimN K (rSorted K) sortD := by
  intro w vs ds s Q ok rl h k
  unfold sortD at h
  split at h
  · rename_i x
    split at h
    · rename_i es e1
      split at h
      · rename_i ns e2
        split at h
        · rename_i hz
          cases h
          obtain ⟨v, rfl, rv⟩ := rl.one
          obtain ⟨p, us, rfl, hs, r⟩ := seq_at ok rv e1
          rw [intsOf_eq e2] at r
          have := vals_int r
          subst this
          refine ⟨p, ns, rfl, hs, hz, fun ns' q hp hsort hq => ?_⟩
          have e3 : ns' = sortI ns := sorted_unique (hp.trans (sortI_perm ns).symm) hsort (sortI_sorted ns)
          subst e3
          exact k _ _ (ok.fresh0 hq _) rfl (own_new (Step.refl ok) hq (repL_ints _))
        · cases h
      · cases h
    · cases h
  · cases h
end
/-! ### for simp -/
section
variable (ρ : EnvD) (M : Store)
@[simp] theorem sParO_eq (i j : Nat) (f : FD) (g : FE) : sParO i j f g ρ M = (f ρ M).out fun x M => (g ρ M).out fun y M => match y with
  | .val d => .next ((ρ.set i (.val x)).set j (.val d)) M
  | .own ds => .next ((ρ.set i (.val x)).set j (.own ds)) M
  | .un => .bad := rfl
@[simp] theorem dFld_eq (f : Str) (fo : FD) : dFld f fo ρ M = (fo ρ M).bind fun x M => match x with
  | .ref k => match M[k]? with
    | some (.ins _ fs) => R.of (fs.lookup f) M
    | _ => .bad
  | _ => .bad := rfl
@[simp] theorem sFldS_eq (c f : Str) (fv fo : FD) : sFldS c f fv fo ρ M = (fv ρ M).out fun y M => (fo ρ M).out fun x M => match x with
  | .ref k => match M[k]? with
    | some (.ins c' fs) => if c' = c ∧ fs.length < 1000 then .next ρ (M.set k (.ins c' (putFd f y fs))) else .bad
    | _ => .bad
  | _ => .bad := rfl
@[simp] theorem dMethC_eq (n : Nat) (m : Str) (tab : List (Str × Nat)) (Φ : Nat → Fn) (fo : FD) (fs : FL) : dMethC n m tab Φ fo fs ρ M = (fo ρ M).bind fun x M => match x with
  | .ref k => match M[k]? with
    | some (.ins c fds) => match fds.lookup m, tab.lookup c with
      | none, some i => (fs ρ M).bind fun ds M => if ds.length + 1 = n then Φ i (.ref k :: ds) M else .bad
      | _, _ => .bad
    | _ => .bad
  | _ => .bad := rfl
@[simp] theorem dMake_eq (c : Str) (n : Nat) (m : Fn) (fs : FL) : dMake c n m fs ρ M = (fs ρ M).bind fun ds M => if ds.length + 1 = n then (m (.ref M.length :: ds) (M ++ [.ins c []])).bind fun s M' => match s with
  | .val .non => .ok (.val (.ref M.length)) M'
  | _ => .bad else .bad := rfl
@[simp] theorem sAppR_eq (fo f : FD) : sAppR fo f ρ M = (fo ρ M).out fun x M => match x with
  | .ref k => match M[k]? with
    | some (.lst _) => (f ρ M).out fun y M => match M[k]? with
      | some (.lst ds) => if ds.length < sizeLine then .next ρ (M.set k (.lst (ds ++ [y]))) else .bad
      | _ => .bad
    | _ => .bad
  | _ => .bad := rfl
@[simp] theorem dPopR_eq (fo : FD) : dPopR fo ρ M = (fo ρ M).bind fun x M => match x with
  | .ref k => match M[k]? with
    | some (.lst ds) => match ds.getLast? with
      | some y => .ok y (M.set k (.lst ds.dropLast))
      | none => .bad
    | _ => .bad
  | _ => .bad := rfl
@[simp] theorem dClearR_eq (fo : FD) : dClearR fo ρ M = (fo ρ M).bind fun x M => match x with
  | .ref k => match M[k]? with
    | some (.lst _) => .ok .non (M.set k (.lst []))
    | _ => .bad
  | _ => .bad := rfl
@[simp] theorem dNewD_eq (g : Store → D → Option MO) (fo : FD) : dNewD g fo ρ M = (fo ρ M).bind fun x M => match g M x with
  | some o => .ok (.ref M.length) (M ++ [o])
  | none => .bad := rfl
@[simp] theorem dDictZ_eq (fs : FL) : dDictZ fs ρ M = (fs ρ M).bind fun ds M => match ds with
  | [.tup xs, .tup ys] => match keysD xs with
    | some ks => .ok (.ref M.length) (M ++ [.dK (mergeP [] (ks.zip ys))])
    | none => .bad
  | _ => .bad := rfl
end
end TP
/-! TPr: dict(zip(t, reversed(l))). -/
namespace TP
open PySem
section
variable {prog : Program} {w : World} {A : Around} {E : Value → Shared → Prop} {s : Shared}
theorem nextOf_rev_item {it l : Addr} {i : Nat} {items : Array Value} {x : Value} {Q : Value → Shared → Prop} (hit : s.heap.IsRevIter it l (i : Int)) (hl : s.heap.IsList l items) (hx : items[i]? = some x)
    (hQ : ∀ h', h'.IsRevIter it l ((i : Int) - 1) → Heap.SameBut it s.heap h' → Q x { s with heap := h' }) : wpAny (model prog w) A (Builtin.SmallTypes.nextOf (.ref it)) Q E s := by
  obtain ⟨o, ho, hc, hd⟩ := id hit
  obtain ⟨ol, hol, _, nl, hdl⟩ := hl
  unfold Builtin.SmallTypes.nextOf
  refine wpAny_bind (wpAny_callSpecial?_slot (name := Str.ofString "__next__") hit.typeIs F.slot_lri_next
    (wpAny_call_entry F.slot_lri_next hit.typeIs F.entry_lri_next ?_ (F.args_lri_next_1 _)))
  unfold Builtin.«list_reverseiterator.__next__»
  refine wpAny_bind (wpAny_of_eq (a := (Value.ref it, [])) rfl ?_)
  try dsimp only
  refine wpAny_bind (wpAny_field ho hd (x := rawInt (i : Int)) rfl ?_)
  show wpAny _ _ (if (i : Int) < 0 then _ else _) _ _ s
  rw [if_neg (by omega)]
  show wpAny _ _ (field (.ref it) 0 >>= _) _ _ s
  refine wpAny_bind (wpAny_field ho hd (x := .ref l) rfl ?_)
  show wpAny _ _ (seqItems? (.ref l) >>= _) _ _ s
  refine wpAny_bind (wpAny_seqItems hol hdl ?_)
  simp only [Int.toNat_natCast, hx]
  refine wpAny_bind (wpAny_setField ho hd (by simp) ?_)
  first
  | refine wpAny_pure ⟨x, rfl, wpAny_pure (hQ _ ?_ (Heap.SameBut.update ..))⟩
  | refine wpAny_bind (wpAny_pure (wpAny_pure ⟨x, rfl, wpAny_pure (hQ _ ?_ (Heap.SameBut.update ..))⟩))
  exact ⟨_, Heap.get?_update_self _ ho (Obj.isFreed_of_fields (Obj.data_mapFields hd _)), (Obj.cls_mapFields ..).trans hc, by
    rw [Obj.data_mapFields hd]; simp⟩
theorem nextOf_rev_end {it l : Addr} {Q : Value → Shared → Prop} (hh : A.handled = none) (hit : s.heap.IsRevIter it l (-1))
    (hE : ∀ h' e, Heap.ExtBut it s.heap h' → (∃ o, h'.get? e = some o ∧ o.cls = .type "StopIteration") → E (.ref e) { s with heap := h' }) : wpAny (model prog w) A (Builtin.SmallTypes.nextOf (.ref it)) Q E s := by
  obtain ⟨o, ho, hc, hd⟩ := id hit
  unfold Builtin.SmallTypes.nextOf
  refine wpAny_bind (wpAny_callSpecial?_slot (name := Str.ofString "__next__") hit.typeIs F.slot_lri_next
    (wpAny_call_entry F.slot_lri_next hit.typeIs F.entry_lri_next ?_ (F.args_lri_next_1 _)))
  unfold Builtin.«list_reverseiterator.__next__»
  refine wpAny_bind (wpAny_of_eq (a := (Value.ref it, [])) rfl ?_)
  try dsimp only
  refine wpAny_bind (wpAny_field ho hd (x := rawInt (-1)) rfl ?_)
  show wpAny _ _ (if (-1 : Int) < 0 then _ else _) _ _ s
  rw [if_pos (by decide)]
  refine wpAny_bind (wpAny_rule ?_)
  first
  | show wpAny _ _ (newExc (.type "StopIteration") [] >>= _) _ _ _
  | (refine wpAny_bind ?_; show wpAny _ _ (newExc (.type "StopIteration") [] >>= _) _ _ _)
  refine wpAny_bind ?_
  simp only [newExc, newTuple]
  refine wpAny_bind (wpAny_newObj_type ?_ (by size_fits))
  refine wpAny_bind (m := firstArgMember _ _) (wpAny_of_eq (a := Value.none) (by first | rfl | (simp only [firstArgMember]; rfl)) ?_)
  refine wpAny_newObj_type ?_ (by size_fits)
  simp only [raiseNew]
  refine wpAny_bind (wpAny_handled ?_)
  first | rw [show A.in1.handled = none from hh] | rw [hh]
  refine wpAny_bind (wpAny_pure (wpAny_throw ?_))
  exact hE _ _ (((Heap.ExtBut.refl _ _).push _).push _) ⟨_, Heap.get?_push_size _ rfl, rfl⟩
end
theorem draws_rev {prog : Program} {w : World} {A : Around} (hh : A.handled = none) (it l : Addr) (hne : l ≠ it) (items : Array Value) :
    Draws prog w A it [it, l] items.size (fun i v => i < items.size ∧ items[items.size - 1 - i]? = some v) (fun i h => i ≤ items.size ∧ h.IsRevIter it l ((items.size : Int) - 1 - (i : Int)) ∧ h.IsList l items) where
  live := fun _ _ st => let ⟨o, ho, _⟩ := st.2.1; ⟨o, ho⟩
  frame := fun _ _ _ x hk => ⟨x.1, x.2.1.at fun o e => hk it (by simp) o e, x.2.2.at fun o e => hk l (by simp) o e⟩
  item := fun i s Q E hi x hQ => by
    have e : (items.size : Int) - 1 - (i : Int) = ((items.size - 1 - i : Nat) : Int) := by omega
    have hit := x.2.1
    rw [e] at hit
    have hx : items[items.size - 1 - i]? = some (items[items.size - 1 - i]'(by omega)) := Array.getElem?_eq_getElem (by omega)
    refine nextOf_rev_item hit x.2.2 hx fun h' hit' hs' => ?_
    have e2 : ((items.size - 1 - i : Nat) : Int) - 1 = (items.size : Int) - 1 - ((i + 1 : Nat) : Int) := by omega
    rw [e2] at hit'
    exact hQ _ h' s.toks ⟨hi, hx⟩ ⟨hi, hit', x.2.2.at fun o eo => (hs'.2 l hne).trans eo⟩ hs'
  done := fun s Q E x hE => by
    have e : (items.size : Int) - 1 - (items.size : Int) = -1 := by omega
    have hit := x.2.1
    rw [e] at hit
    exact nextOf_rev_end hh hit hE
/-! ### zip(t, it): the second is an iterator already -/
structure BeginsI (v : Value) (H : Heap → Prop) : Prop where
  iter : ∀ (prog : Program) (w : World) (A : Around) (E : Value → Shared → Prop) (s : Shared) (Q : Value → Shared → Prop), H s.heap → Q v s → wpAny (model prog w) A (pyIter v) Q E s
  keeps : ∀ h h', H h → (∀ b o', h.get? b = some o' → h'.get? b = some o') → H h'
theorem begins_rev (it l : Addr) (i : Int) : BeginsI (.ref it) fun h => h.IsRevIter it l i where
  iter := fun prog w A E s Q hl h => wpAny_pyIter_revIter hl h
  keeps := fun h h' x hk => x.at fun o e => hk it o e
abbrev gzTI (h : Heap) (o1 : Obj) (v2 : Value) : Heap := (h.push o1).push { cls := .type "tuple", data := .seq #[.ref h.objs.size, v2] }
abbrev gzOI (h : Heap) (o1 : Obj) (v2 : Value) : Heap := (gzTI h o1 v2).push { cls := .type "tuple", data := .seq #[.none, .none] }
abbrev gzZI (h : Heap) (o1 : Obj) (v2 : Value) : Heap := (gzOI h o1 v2).push { cls := .type "zip", data := .fields #[.none, .bool false, .bool false, .ref (h.push o1).objs.size, .ref (gzTI h o1 v2).objs.size] }
theorem meets_zip_newI {v1 v2 : Value} {o1 : Obj} {H1 H2 : Heap → Prop} (B1 : Begins v1 o1 H1) (B2 : BeginsI v2 H2) :
    Meets (Builtin.«zip.__new__» ⟨[.type "zip", v1, v2], []⟩) (fun _ R s => (H1 s.heap ∧ H2 s.heap) ∧
      R (.ok (.ret (.ref (gzOI s.heap o1 v2).objs.size))) { s with heap := gzZI s.heap o1 v2 }) :=
  .of_wp fun prog w A R s h => by
    obtain ⟨hp, g, d, tk, os⟩ := s; obtain ⟨⟨h1, h2⟩, h⟩ := h
    have hsub := sub_zip
    have q1 : ∀ {A' : Around} {E : Value → Shared → Prop} {Q : Value → Shared → Prop}, Q (.ref hp.objs.size) ⟨(hp.push o1), g, d, tk, os⟩ → wpAny (model prog w) A' (pyIter v1) Q E ⟨hp, g, d, tk, os⟩ :=
      fun q => B1.iter prog w _ _ ⟨hp, g, d, tk, os⟩ _ (B1.keeps _ _ h1 fun b o' e => e) q
    have q2 : ∀ {A' : Around} {E : Value → Shared → Prop} {Q : Value → Shared → Prop}, Q v2 ⟨(hp.push o1), g, d, tk, os⟩ → wpAny (model prog w) A' (pyIter v2) Q E ⟨(hp.push o1), g, d, tk, os⟩ :=
      fun q => B2.iter prog w _ _ ⟨(hp.push o1), g, d, tk, os⟩ _ (B2.keeps _ _ h2 fun b o' e => (Heap.get?_push_of_some _ e)) q
    wp_walk using q1, q2
    exact ⟨_, rfl, h⟩
section
variable {prog : Program} {w : World} {A : Around} {E : Value → Shared → Prop} {s : Shared}
theorem zip_beginsI {v1 v2 : Value} {o1 : Obj} {H1 H2 : Heap → Prop} {Q : Value → Shared → Prop} (B1 : Begins v1 o1 H1) (B2 : BeginsI v2 H2) (h1 : H1 s.heap) (h2 : H2 s.heap)
    (h : ∀ h', IsZip h' (s.heap.objs.size + 3) (s.heap.objs.size + 1) (s.heap.objs.size + 2) .none → IsTupOf2 h' (s.heap.objs.size + 1) (.ref s.heap.objs.size) v2 →
      IsTupOf2 h' (s.heap.objs.size + 2) .none .none → h'.get? s.heap.objs.size = some o1 → h'.objs.size = s.heap.objs.size + 4 →
      (∀ c o, s.heap.get? c = some o → h'.get? c = some o) → Q (.ref (s.heap.objs.size + 3)) { s with heap := h' }) :
    wpAny (model prog w) A (call (.type "zip") [v1, v2]) Q E s := by
  refine callType_new F.called_zip (by decide) (F.typeCall_zip_2 _ _) (F.newCall_zip_2 _ _) (fun obj => F.args_object_init_3 obj _ _) F.entry_zip_new
    (meets_zip_newI B1 B2) ⟨⟨h1, h2⟩, ?_⟩
  have z1 : (s.heap.push o1).objs.size = s.heap.objs.size + 1 := by rw [Heap.size_push]
  have zT : (gzTI s.heap o1 v2).objs.size = s.heap.objs.size + 2 := by rw [Heap.size_push, z1]
  have zO : (gzOI s.heap o1 v2).objs.size = s.heap.objs.size + 3 := by rw [Heap.size_push, zT]
  have zZ : (gzZI s.heap o1 v2).objs.size = s.heap.objs.size + 4 := by rw [Heap.size_push, zO]
  have gZ : (gzZI s.heap o1 v2).get? (gzOI s.heap o1 v2).objs.size = some { cls := .type "zip", data := .fields #[.none, .bool false, .bool false, .ref (s.heap.push o1).objs.size, .ref (gzTI s.heap o1 v2).objs.size] } := Heap.get?_push_size _ rfl
  have gO : (gzZI s.heap o1 v2).get? (gzTI s.heap o1 v2).objs.size = some { cls := .type "tuple", data := .seq #[.none, .none] } := Heap.get?_push_of_some _ (Heap.get?_push_size _ rfl)
  have gT : (gzZI s.heap o1 v2).get? (s.heap.push o1).objs.size = some { cls := .type "tuple", data := .seq #[.ref s.heap.objs.size, v2] } := Heap.get?_push_of_some _ (Heap.get?_push_of_some _ (Heap.get?_push_size _ rfl))
  have g1 : (gzZI s.heap o1 v2).get? s.heap.objs.size = some o1 := Heap.get?_push_of_some _ (Heap.get?_push_of_some _ (Heap.get?_push_of_some _ (Heap.get?_push_size _ B1.free)))
  rw [zO, zT, z1] at gZ
  rw [zT] at gO
  rw [z1] at gT
  show _ ∧ _
  rw [zO]
  exact ⟨⟨_, gZ, rfl⟩, h _ gZ gT gO g1 zZ fun c o e => Heap.get?_push_of_some _ (Heap.get?_push_of_some _ (Heap.get?_push_of_some _ (Heap.get?_push_of_some _ e)))⟩
end
open L2
section
variable {X : Cx}
/-! ### dict(zip(t, reversed(l))) -/
theorem no2 {x y z : Nat} (h1 : x ≠ y) (h2 : x ≠ z) : x ∉ [y, z] := fun h => by
  rcases List.mem_cons.mp h with e | h
  · exact h1 e
  · exact h2 (List.mem_singleton.mp h)
theorem sepR {N a b : Nat} (la : a < N) (lb : b < N) : ZipSep2 (N + 1 + 3) (N + 1 + 1) (N + 1 + 2) (N + 1) N [N + 1, a] [N, b] where
  TIz := show (N + 1 + 1 : Nat) ≠ N + 1 + 3 by omega
  TOz := show (N + 1 + 2 : Nat) ≠ N + 1 + 3 by omega
  TITO := show (N + 1 + 1 : Nat) ≠ N + 1 + 2 by omega
  TIi1 := show (N + 1 + 1 : Nat) ≠ N + 1 by omega
  mem1 := List.mem_cons_self
  zf1 := no2 (by omega) (by omega)
  Tf1 := no2 (by omega) (by omega)
  TIi2 := show (N + 1 + 1 : Nat) ≠ N by omega
  mem2 := List.mem_cons_self
  zf2 := no2 (by omega) (by omega)
  Tf2 := no2 (by omega) (by omega)
  sep1_2 := no2 (by omega) (by omega)
  sep2_1 := no2 (by omega) (by omega)
def tDictZipR (K : PySem.W.Frag) (t1 t2 : TE) : TE := fun σ H Q => t1 σ H fun x H1 => t2 σ H1 fun y H2 => ∃ (a b : Addr) (ks : List Key) (ys : List V), x = .ref a ∧ y = .ref b ∧ SqT K H2 a (ks.map kV) ∧ SqL K H2 b ys ∧ ∀ p, H2 p = none → Q (.ref p) (upd H2 p (.dK (mergeK [] (ks.zip ys.reverse))))
open PySem.Spec PyProof.Rows in
theorem pe_dictzipR {e1 e2 : Expr} {t1 t2 : TE} {p1 p2 p3 pos1 pos2 pos3 : Pos} (h1 : PE X e1 t1) (h2 : PE X e2 t2) (hc : X.calm = true) (hgd : Gl X "dict") (hmd : X.mg "dict" = none) (hgz : Gl X "zip") (hmz : X.mg "zip" = none) (hgr : Gl X "reversed") (hmr : X.mg "reversed" = none)
    (he1 : starEach [e1, .Call (.Name "reversed" p3) [e2] [] pos3] X.env = (false, eval e1 X.env) :: starEach [.Call (.Name "reversed" p3) [e2] [] pos3] X.env := by rfl)
    (heR : starEach [.Call (.Name "reversed" p3) [e2] [] pos3] X.env = (false, eval (.Call (.Name "reversed" p3) [e2] [] pos3) X.env) :: starEach [] X.env := by rfl) (hpR : (backTo pos2 (starEach [.Call (.Name "reversed" p3) [e2] [] pos3] X.env)).any (·.1) = false := by rfl)
    (he2 : starEach [.Call (.Name "zip" p2) [e1, .Call (.Name "reversed" p3) [e2] [] pos3] [] pos2] X.env = (false, eval (.Call (.Name "zip" p2) [e1, .Call (.Name "reversed" p3) [e2] [] pos3] [] pos2) X.env) :: starEach [] X.env := by rfl)
    (he3 : starEach [e2] X.env = (false, eval e2 X.env) :: starEach [] X.env := by rfl) :
    PE X (.Call (.Name "dict" p1) [.Call (.Name "zip" p2) [e1, .Call (.Name "reversed" p3) [e2] [] pos3] [] pos2] [] pos1) (tDictZipR X.K t1 t2) := by
  have bd : bootBuiltins "dict" = some (.type "dict") := by decide +kernel
  have bz : bootBuiltins "zip" = some (.type "zip") := by decide +kernel
  constructor
  intro pins s σ H Q I h
  refine wpAny_Call_Name_kw (ld_blt I hgd hmd bd (callWith_type1 ?_ he2 (by rfl)))
  rw [he2]
  show wpAny _ _ (spliced ((false, eval (.Call (.Name "zip" p2) [e1, .Call (.Name "reversed" p3) [e2] [] pos3] [] pos2) X.env) :: backTo pos1 (starEach [] X.env))) _ _ s
  refine Calls.spliced_cons (wpAny_Call_Name_kw (ld_blt I hgz hmz bz (callWith_type1 ?_ he1 hpR)))
  rw [he1]
  show wpAny _ _ (spliced ((false, eval e1 X.env) :: backTo pos2 (starEach [.Call (.Name "reversed" p3) [e2] [] pos3] X.env))) _ _ s
  refine Calls.spliced_cons (thn (h1.run pins s σ H _ I h) fun u1 s1 ⟨x1, H1, I1, r1, q1⟩ => ?_)
  rw [heR]
  show wpAny _ _ (spliced ((false, eval (.Call (.Name "reversed" p3) [e2] [] pos3) X.env) :: backTo pos2 (starEach [] X.env))) _ _ s1
  refine Calls.spliced_cons (Call_ (ld_blt I1 hgr hmr PyProof.Rows.boot_reversed (PyProof.Rows.callWith_type1 (args_cons (thn (h2.run pins s1 σ H1 _ I1 q1) fun u2 s2 ⟨x2, H2, I2, r2, q2⟩ => args_nil ?_) he3) he3 rfl)))
  obtain ⟨a, b, ks, ys, rfl, rfl, ta, tb, q⟩ := q2
  obtain rfl : u1 = Value.ref a := r1
  obtain rfl : u2 = Value.ref b := r2
  obtain ⟨its2, rv2, pl2, l2⟩ := I2.list tb
  refine call_reversed_list pl2.isList ?_
  refine Calls.spliced_nil ?_
  obtain ⟨its1, rv1, h1', l1⟩ := I2.tuple ta
  generalize hN : s2.heap.objs.size = N
  have la : a < N := by rw [← hN]; exact Heap.lt_size h1'.choose_spec.1
  have lb : b < N := by rw [← hN]; exact Heap.lt_size pl2.choose_spec.choose_spec.1
  have hsz3 : (s2.heap.push (revObj b ((its2.toArray.size : Int) - 1))).objs.size = N + 1 := by rw [Heap.size_push, hN]
  have ext3 : ∀ c o, s2.heap.get? c = some o → (s2.heap.push (revObj b ((its2.toArray.size : Int) - 1))).get? c = some o := fun c o e => Heap.get?_push_of_some _ e
  have hrev : (s2.heap.push (revObj b ((its2.toArray.size : Int) - 1))).IsRevIter N b ((its2.toArray.size : Int) - 1) := by rw [← hN]; exact ⟨_, Heap.get?_push_size _ rfl, rfl, rfl⟩
  refine zip_beginsI (begins_tuple a its1.toArray) (begins_rev N b ((its2.toArray.size : Int) - 1)) (h1'.keeps ext3) hrev ?_
  intro h' hz hTI hTO g1 hsz hk
  simp only [hsz3] at hz hTI hTO g1 hsz ⊢
  refine Calls.spliced_nil ?_
  have hh : X.A.handled = none := I2.ok.hd hc
  have S := sepR la lb
  have P := zipArg (prog := X.prog) (w := X.w) S (fun A hA => Draws.tuple hA (N + 1) a (Nat.ne_of_lt (Nat.lt_succ_of_lt la)) its1.toArray) (fun A hA => draws_rev hA N b (Nat.ne_of_lt lb) its2.toArray)
    (fun i h st c hc => by
      obtain ⟨⟨o, ho, _⟩, ⟨o2, ho2, _⟩⟩ := st
      simp only [List.mem_cons, List.not_mem_nil, or_false] at hc
      rcases hc with rfl | rfl
      · exact ⟨o, ho⟩
      · exact ⟨o2, ho2⟩)
    (fun i h st c hc => by
      obtain ⟨_, ⟨o, ho, _⟩, ⟨o2, ho2, _⟩⟩ := st
      simp only [List.mem_cons, List.not_mem_nil, or_false] at hc
      rcases hc with rfl | rfl
      · exact ⟨o, ho⟩
      · exact ⟨o2, ho2⟩)
  have hkk : ∀ c u, s2.heap.get? c = some u → h'.get? c = some u := fun c u e => hk c u (ext3 c u e)
  have hrev' : h'.IsRevIter N b ((its2.toArray.size : Int) - 1 - ((0 : Nat) : Int)) := by
    rw [Int.natCast_zero, Int.sub_zero]
    exact hrev.at fun o e => hk N o e
  have hls' : h'.IsList b its2.toArray := pl2.isList.at fun o e => hkk b o e
  have rel : KV (ks.zip ys.reverse) (ks.zip its2.reverse) := kv_zip ks rv2.reverse
  have lk : its1.length = ks.length := by rw [← rv1.length, List.length_map]
  refine call_dict_pairs (knd := mixKind X.prog X.w) (kvs := ks.zip its2.reverse) P hh ⟨hz, hTI, ⟨_, _, hTO⟩, ⟨⟨_, g1, rfl, rfl⟩, h1'.keeps hkk⟩, ⟨Nat.zero_le _, hrev', hls'⟩⟩ ⟨?_, ?_⟩ ?_ ?_
  · rw [List.length_zip, List.length_reverse, List.size_toArray, List.size_toArray, lk]
  · rintro i key v ⟨k1, k2, k3⟩
    rw [List.size_toArray] at k2
    rw [List.getElem?_toArray] at k1 k3
    rw [List.size_toArray] at k3
    have hi : i < its1.length := (List.getElem?_eq_some_iff.mp k1).1
    have hik : i < ks.length := by omega
    obtain ⟨u, hu, ru⟩ := rv1.get (i := i) (x := kV ks[i]) (by rw [List.getElem?_map, List.getElem?_eq_getElem hik]; rfl)
    rw [k1] at hu
    cases hu
    exact ⟨ks[i], by rw [List.getElem?_zip_eq_some]; exact ⟨List.getElem?_eq_getElem hik, by rw [List.getElem?_reverse k2]; exact k3⟩, kV_is ru⟩
  · rw [List.size_toArray, List.size_toArray]
    have := rv2.length
    omega
  · intro h'' tk hd hk2
    have hbig : sysModules < N := by rw [← hN]; exact I2.big
    have hb : N + 5 ≠ sysModules := Nat.ne_of_gt (Nat.lt_of_lt_of_le hbig (Nat.le_add_right N 5))
    have hm : ((N + 5 : Addr) == sysModules) = false := beq_eq_false_iff_ne.mpr hb
    rw [hsz] at hd ⊢
    rw [show N + 1 + 4 = N + 5 from rfl] at hd ⊢
    have hlen : (mergeK [] (ks.zip ys.reverse)).length ≤ sizeLine := by
      refine Nat.le_trans (length_mergeK (ks.zip ys.reverse) []) ?_
      rw [List.length_nil, Nat.zero_add, List.length_zip, List.length_reverse]
      have := rv2.length
      omega
    have keep : ∀ c u, s2.heap.get? c = some u → h''.get? c = some u := fun c u e => by
      have lc : c < N := by rw [← hN]; exact Heap.lt_size e
      refine hk2 c u (fun hm => ?_) (hkk c u e)
      simp only [List.mem_cons, List.not_mem_nil, or_false] at hm
      rcases hm with x | x | x | x
      · exact Nat.ne_of_lt (Nat.lt_of_lt_of_le lc (Nat.le_add_right N 4)) x
      · exact Nat.ne_of_lt (Nat.lt_of_lt_of_le lc (Nat.le_add_right N 3)) x
      · exact Nat.ne_of_lt (Nat.lt_of_lt_of_le lc (Nat.le_add_right N 1)) x
      · exact Nat.ne_of_lt lc x
    refine ⟨.ref (N + 5), upd H2 (N + 5) (.dK (mergeK [] (ks.zip ys.reverse))), ?_, rfl, q _ (I2.hok.fresh (by rw [hN]; exact Nat.le_add_right N 5))⟩
    exact I2.laid (t' := tk) keep (by rw [hN]; exact Nat.le_add_right N 5) (show ObjOk X.prog X.w _ _ _ (.dK (mergeK [] (ks.zip ys.reverse))) from ⟨hlen, hm, merged [] (ks.zip its2.reverse), KV.merge rel .nil, hd⟩)
end
section
variable {K : PySem.W.Frag} {E : Wish} {X : Cx} {e : Expr}
def dDictZR (f1 f2 : FD) : FD := fun ρ M => (f1 ρ M).bind fun x M => (f2 ρ M).bind fun y M => match x with
  | .tup xs => match keysD xs with
    | some ks => match lstOf M y with
      | some ys => .ok (.ref M.length) (M ++ [.dK (mergeP [] (ks.zip ys.reverse))])
      | none => .bad
    | none => .bad
  | _ => .bad
theorem x_dictZR {f1 f2 : FD} (h : PE X e (tDictZipR K (tF K E f1) (tR K E f2))) : PE X e (tF K E (dDictZR f1 f2)) := PE.wk h fun σ H Q ⟨ρ, w, e1, ok, sr, a⟩ =>
  ⟨ρ, w, e1, ok, sr, a.bind.imp fun x w1 s1 a1 v1 r1 => ⟨ρ, w1, rfl, s1.ok, sr.step s1, a1.bind.imp fun y w2 s2 a2 v2 r2 => by
    split at a2
    · rename_i xs
      split at a2
      · rename_i ks hk
        split at a2
        · rename_i ys hy
          have r1' := s2.rep r1
          cases r1' with
          | @tup p us _ hs rl =>
            have e := keys_at rl hk
            subst e
            obtain ⟨q, ws, rfl, hq, rl2⟩ := lst_at s2.ok r2 hy
            refine ⟨p, q, ks, ws, rfl, rfl, .inl (.inl (s2.ok.sub _ _ hs)), .inl (.inl hq), fun n hn => ?_⟩
            have rl3 := rl2.reverse
            obtain ⟨st, hA⟩ := new_obj (o := .dK (mergeK [] (ks.zip ws.reverse))) (m := .dK (mergeP [] (ks.zip ys.reverse))) s2.ok hn ⟨_, upd_same, merge_kv (zip_kv ks (fun i v hv => rl3.get' hv) rl3.length) .nil⟩
            have a3 : ∀ w', Step K w2 w' → w'.M = w2.M ++ [.dK (mergeP [] (ks.zip ys.reverse))] → ∀ v, Rep K w'.A w'.G v (.ref w2.M.length) → Q v w'.H := a2
            exact a3 _ st rfl _ (.ref hA)
        · exact a2.elim
      · exact a2.elim
    · exact a2.elim⟩⟩
end
end TP
/-! TPp: more rules: dict(zip(a, b)) of any two, displays with any keys, d.update(d'), steps of slices, three names at once. -/
namespace TP
open PySem L2
/-! ### dict(zip(a, b)), lists or tuples -/
structure ZSrc (h : Heap) (a : Addr) (its : List Value) (o1 : Obj) (H : Heap → Prop) (St : Addr → Nat → Heap → Prop) : Prop where
  beg : Begins (.ref a) o1 H
  now : H h
  lt : a < h.objs.size
  draws : ∀ (prog : Program) (w : World) (A : Around), A.handled = none → ∀ it, a ≠ it → Draws prog w A it [it, a] its.toArray.size (fun i v => its.toArray[i]? = some v) (St it)
  start : ∀ h' it, h'.get? it = some o1 → H h' → St it 0 h'
  live : ∀ it i h', St it i h' → ∀ c ∈ [it, a], ∃ o, h'.get? c = some o
section
variable {X : Cx}
open PySem.Spec PyProof.Rows in
theorem src_tup {h : Heap} {a : Addr} {its : List Value} (h1 : IsTup h a its.toArray) : ∃ o H St, ZSrc h a its o H St :=
  ⟨_, _, _, begins_tuple a its.toArray, h1, Heap.lt_size h1.choose_spec.1, fun prog w A hh it ne => Draws.tuple hh it a ne its.toArray, fun h' it e x => ⟨⟨_, e, rfl, rfl⟩, x⟩, fun it i h' st c hc => by
    obtain ⟨⟨o, ho, _⟩, ⟨o2, ho2, _⟩⟩ := st
    simp only [List.mem_cons, List.not_mem_nil, or_false] at hc
    rcases hc with rfl | rfl
    · exact ⟨o, ho⟩
    · exact ⟨o2, ho2⟩⟩
open PySem.Spec PyProof.Rows in
theorem src_list {h : Heap} {a : Addr} {its : List Value} (h1 : h.IsList a its.toArray) : ∃ o H St, ZSrc h a its o H St :=
  ⟨_, _, _, begins_list a its.toArray, h1, Heap.lt_size h1.choose_spec.1, fun prog w A hh it ne => Draws.list hh it a ne its.toArray, fun h' it e x => ⟨⟨_, e, rfl, rfl⟩, x⟩, fun it i h' st c hc => by
    obtain ⟨⟨o, ho, _⟩, ⟨o2, ho2, _⟩⟩ := st
    simp only [List.mem_cons, List.not_mem_nil, or_false] at hc
    rcases hc with rfl | rfl
    · exact ⟨o, ho⟩
    · exact ⟨o2, ho2⟩⟩
def SqA (K : PySem.W.Frag) (H : Hp) (a : Addr) (xs : List V) : Prop := SqT K H a xs ∨ SqL K H a xs
theorem inv_src {pins : List (Addr × Obj)} {σ : L2.St} {H : Hp} {s : Shared} (I : L2.Inv X pins σ H s) {a : Addr} {xs : List V} (h : SqA X.K H a xs) : ∃ its o1 HH St, Vals xs its ∧ ZSrc s.heap a its o1 HH St ∧ xs.length ≤ sizeLine := by
  rcases h with h | h
  · obtain ⟨its, rv, h1, l1⟩ := I.tuple h
    obtain ⟨o, HH, St, z⟩ := src_tup h1
    exact ⟨its, o, HH, St, rv, z, l1⟩
  · obtain ⟨its, rv, h1, l1⟩ := I.list h
    obtain ⟨o, HH, St, z⟩ := src_list h1.isList
    exact ⟨its, o, HH, St, rv, z, l1⟩
def tDictZip2 (K : PySem.W.Frag) (t : TA) : TE := fun σ H Q => t σ H fun vs H1 => ∃ (a b : Addr) (ks : List Key) (ys : List V), vs = [.ref a, .ref b] ∧ SqA K H1 a (ks.map kV) ∧ SqA K H1 b ys ∧ ∀ p, H1 p = none → Q (.ref p) (upd H1 p (.dK (mergeK [] (ks.zip ys))))
open PySem.Spec PyProof.Rows in
theorem pe_dictzip2 {e1 e2 : Expr} {t : TA} {p1 p2 pos1 pos2 : Pos} (ha : PA X [e1, e2] t) (hc : X.calm = true) (hgd : Gl X "dict") (hmd : X.mg "dict" = none) (hgz : Gl X "zip") (hmz : X.mg "zip" = none)
    (he1 : starEach [e1, e2] X.env = (false, eval e1 X.env) :: starEach [e2] X.env := by rfl) (hp1 : (backTo pos2 (starEach [e2] X.env)).any (·.1) = false := by rfl)
    (he2 : starEach [.Call (.Name "zip" p2) [e1, e2] [] pos2] X.env = (false, eval (.Call (.Name "zip" p2) [e1, e2] [] pos2) X.env) :: starEach [] X.env := by rfl) :
    PE X (.Call (.Name "dict" p1) [.Call (.Name "zip" p2) [e1, e2] [] pos2] [] pos1) (tDictZip2 X.K t) := by
  have bd : bootBuiltins "dict" = some (.type "dict") := by decide +kernel
  have bz : bootBuiltins "zip" = some (.type "zip") := by decide +kernel
  constructor
  intro pins s σ H Q I h
  refine wpAny_Call_Name_kw (ld_blt I hgd hmd bd (callWith_type1 ?_ he2 (by rfl)))
  rw [he2]
  show wpAny _ _ (spliced ((false, eval (.Call (.Name "zip" p2) [e1, e2] [] pos2) X.env) :: backTo pos1 (starEach [] X.env))) _ _ s
  refine Calls.spliced_cons (wpAny_Call_Name_kw (ld_blt I hgz hmz bz (callWith_type1 (thn (ha.run pos2 pins s σ H _ I h) ?_) he1 hp1)))
  rintro us s1 ⟨vs, H1, I1, r, a, b, ks, ys, rfl, ta, tb, q⟩
  obtain ⟨u1, u2, rfl, r1, r2⟩ := vals2 r
  obtain rfl : u1 = Value.ref a := r1
  obtain rfl : u2 = Value.ref b := r2
  obtain ⟨its1, o1, HH1, St1, rv1, z1, l1⟩ := inv_src I1 ta
  obtain ⟨its2, o2, HH2, St2, rv2, z2, l2⟩ := inv_src I1 tb
  generalize hN : s1.heap.objs.size = N
  refine zip_begins2 z1.beg z2.beg z1.now z2.now ?_
  intro h' hz hTI hTO g1 g2 hsz hk
  rw [hN] at hz hTI hTO g1 g2 hsz ⊢
  have la : a < N := by rw [← hN]; exact z1.lt
  have lb : b < N := by rw [← hN]; exact z2.lt
  refine Calls.spliced_nil ?_
  have hh : X.A.handled = none := I1.ok.hd hc
  have S := zip_sep2 (N := N) (fp1 := [a]) (fp2 := [b]) (fun c hc => by rw [List.mem_singleton] at hc; subst hc; exact la) (fun c hc => by rw [List.mem_singleton] at hc; subst hc; exact lb)
  have P := zipArg (prog := X.prog) (w := X.w) S (fun A hA => z1.draws X.prog X.w A hA N (Nat.ne_of_lt la)) (fun A hA => z2.draws X.prog X.w A hA (N + 1) (Nat.ne_of_lt (Nat.lt_succ_of_lt lb)))
    (fun i h st c hc => z1.live _ i h st c hc) (fun i h st c hc => z2.live _ i h st c hc)
  have rel : KV (ks.zip ys) (ks.zip its2) := kv_zip ks rv2
  have lk : its1.length = ks.length := by rw [← rv1.length, List.length_map]
  refine call_dict_pairs (knd := mixKind X.prog X.w) (kvs := ks.zip its2) P hh ⟨hz, hTI, ⟨_, _, hTO⟩, z1.start _ _ g1 (z1.beg.keeps _ _ z1.now hk), z2.start _ _ g2 (z2.beg.keeps _ _ z2.now hk)⟩ ⟨?_, ?_⟩ ?_ ?_
  · rw [List.length_zip, List.size_toArray, List.size_toArray, lk]
  · rintro i key v ⟨k1, k2⟩
    rw [List.getElem?_toArray] at k1 k2
    have hi : i < its1.length := (List.getElem?_eq_some_iff.mp k1).1
    have hik : i < ks.length := by omega
    obtain ⟨u, hu, ru⟩ := rv1.get (i := i) (x := kV ks[i]) (by rw [List.getElem?_map, List.getElem?_eq_getElem hik]; rfl)
    rw [k1] at hu
    cases hu
    exact ⟨ks[i], by rw [List.getElem?_zip_eq_some]; exact ⟨List.getElem?_eq_getElem hik, k2⟩, kV_is ru⟩
  · rw [List.size_toArray, List.size_toArray]
    have := rv2.length
    omega
  · intro h'' tk hd hk2
    have hbig : sysModules < N := by rw [← hN]; exact I1.big
    have hb : N + 5 ≠ sysModules := Nat.ne_of_gt (Nat.lt_of_lt_of_le hbig (Nat.le_add_right N 5))
    have hm : ((N + 5 : Addr) == sysModules) = false := beq_eq_false_iff_ne.mpr hb
    rw [hsz] at hd ⊢
    have hlen : (mergeK [] (ks.zip ys)).length ≤ sizeLine := by
      refine Nat.le_trans (length_mergeK (ks.zip ys) []) ?_
      rw [List.length_nil, Nat.zero_add, List.length_zip]
      have := rv2.length
      omega
    have keep : ∀ c u, s1.heap.get? c = some u → h''.get? c = some u := fun c u e => by
      have lc : c < N := by rw [← hN]; exact Heap.lt_size e
      refine hk2 c u (fun hm => ?_) (hk c u e)
      simp only [List.mem_cons, List.not_mem_nil, or_false] at hm
      rcases hm with x | x | x | x
      · exact Nat.ne_of_lt (Nat.lt_of_lt_of_le lc (Nat.le_add_right N 4)) x
      · exact Nat.ne_of_lt (Nat.lt_of_lt_of_le lc (Nat.le_add_right N 3)) x
      · exact Nat.ne_of_lt lc x
      · exact Nat.ne_of_lt (Nat.lt_of_lt_of_le lc (Nat.le_add_right N 1)) x
    refine ⟨.ref (N + 5), upd H1 (N + 5) (.dK (mergeK [] (ks.zip ys))), ?_, rfl, q _ (I1.hok.fresh (by rw [hN]; exact Nat.le_add_right N 5))⟩
    exact I1.laid (t' := tk) keep (by rw [hN]; exact Nat.le_add_right N 5) (show ObjOk X.prog X.w _ _ _ (.dK (mergeK [] (ks.zip ys))) from ⟨hlen, hm, merged [] (ks.zip its2), KV.merge rel .nil, hd⟩)
end
/-- the items of a list or a tuple -/
def anyOf (M : Store) : D → Option (List D)
  | .tup ds => some ds
  | .kt ds => some ds
  | x => seqOf M x
section
variable {K : PySem.W.Frag} {E : Wish} {X : Cx} {e : Expr}
theorem any_at {w : Wd} (ok : w.Ok K) {v : V} {x : D} {ds : List D} (r : RepB K w v x) (h : anyOf w.M x = some ds) : ∃ p vs, v = .ref p ∧ SqA K w.H p vs ∧ RepL K w.A w.G vs ds := by
  by_cases h1 : ∃ es, x = .tup es
  · obtain ⟨es, rfl⟩ := h1
    rcases r with r | ⟨p, vs, es', rfl, e, _⟩
    · cases r with
      | tup hs rl => cases h; exact ⟨_, _, rfl, .inl (.inl (.inl (ok.sub _ _ hs))), rl⟩
    · cases e
  by_cases h2 : ∃ es, x = .kt es
  · obtain ⟨es, rfl⟩ := h2
    rcases r with r | ⟨p, vs, es', rfl, e, _⟩
    · cases r with
      | kt hs rl => cases h; exact ⟨_, _, rfl, .inl (sqT_mono ok.sub hs), rl⟩
    · cases e
  have h' : seqOf w.M x = some ds := by
    cases x <;> first | exact h | exact absurd ⟨_, rfl⟩ h1 | exact absurd ⟨_, rfl⟩ h2
  obtain ⟨p, vs, e, a, b⟩ := seq_at ok r h'
  exact ⟨p, vs, e, .inr a, b⟩
def dDictZ2 (f1 f2 : FD) : FD := fun ρ M => (f1 ρ M).bind fun x M => (f2 ρ M).bind fun y M => match anyOf M x with
  | some xs => match keysD xs with
    | some ks => match anyOf M y with
      | some ys => .ok (.ref M.length) (M ++ [.dK (mergeP [] (ks.zip ys))])
      | none => .bad
    | none => .bad
  | none => .bad
theorem x_dictZ2 {f1 f2 : FD} (h : PE X e (tDictZip2 K (tAR K E (dCons f1 (dCons f2 dNil))))) : PE X e (tF K E (dDictZ2 f1 f2)) := PE.wk h fun σ H Q ⟨ρ, w, e1, ok, sr, a⟩ =>
  ⟨ρ, w, e1, ok, sr, by
    have a0 : After K E w ((f1 ρ w.M).bind fun x M => (f2 ρ M).bind fun y M => match anyOf M x with
      | some xs => match keysD xs with
        | some ks => match anyOf M y with
          | some ys => (.ok (.ref M.length) (M ++ [.dK (mergeP [] (ks.zip ys))]) : R D)
          | none => .bad
        | none => .bad
      | none => .bad) _ := a
    unfold dCons
    cases q1 : f1 ρ w.M with
    | bad => rw [q1] at a0; exact a0.elim
    | exc c d M1 => rw [q1] at a0; exact a0
    | ok x M1 =>
      rw [q1] at a0
      simp only [R.bind_ok] at a0 ⊢
      cases q2 : f2 ρ M1 with
      | bad => rw [q2] at a0; exact a0.elim
      | exc c d M2 => rw [q2] at a0; exact a0
      | ok y M2 =>
        rw [q2] at a0
        simp only [R.bind_ok] at a0
        have a1 : After K E w (R.ok [x, y] M2) (fun ds w' => ∀ vs, RepBL K w' vs ds → ∃ (a b : Addr) (ks : List Key) (ys : List V), vs = [.ref a, .ref b] ∧ SqA K w'.H a (ks.map kV) ∧ SqA K w'.H b ys ∧ ∀ p, w'.H p = none → Q (.ref p) (upd w'.H p (.dK (mergeK [] (ks.zip ys))))) := by
          intro w2 s2 eM vs rvs
          rw [← eM] at a0
          cases rvs with
          | cons r1 t1 =>
            cases t1 with
            | cons r2 t2 =>
              cases t2
              split at a0
              · rename_i xs hx
                split at a0
                · rename_i ks hk
                  split at a0
                  · rename_i ys hy
                    obtain ⟨p, us, rfl, hp, rl⟩ := any_at s2.ok r1 hx
                    have e := keys_at rl hk
                    subst e
                    obtain ⟨q, ws, rfl, hq, rl2⟩ := any_at s2.ok r2 hy
                    refine ⟨p, q, ks, ws, rfl, hp, hq, fun n hn => ?_⟩
                    obtain ⟨st, hA⟩ := new_obj (o := .dK (mergeK [] (ks.zip ws))) (m := .dK (mergeP [] (ks.zip ys))) s2.ok hn ⟨_, upd_same, merge_kv (zip_kv ks (fun i v hv => rl2.get' hv) rl2.length) .nil⟩
                    have a3 : ∀ w', Step K w w' → w'.M = w2.M ++ [.dK (mergeP [] (ks.zip ys))] → ∀ v, Rep K w'.A w'.G v (.ref w2.M.length) → Q v w'.H := a0
                    exact a3 _ (s2.trans st) rfl _ (.ref hA)
                  · exact a0.elim
                · exact a0.elim
              · exact a0.elim
        exact a1⟩
/-! ### a display with any keys -/
def dVals2 : List (FD × FD) → FL
  | [] => dNil
  | (k, v) :: r => dCons k (dCons v (dVals2 r))
def pairUp : List D → Option (List (Key × D))
  | [] => some []
  | [_] => none
  | k :: v :: r => match keyD k with
    | some k => (pairUp r).map fun r => (k, v) :: r
    | none => none
def dDispG (ps : List (FD × FD)) : FD := fun ρ M => (dVals2 ps ρ M).bind fun ds M => match pairUp ds with
  | some kvs => if kvs.length ≤ 15 then .ok (.ref M.length) (M ++ [.dK (mergeP [] kvs)]) else .bad
  | none => .bad
def vPairs : List V → List (V × V)
  | k :: v :: r => (k, v) :: vPairs r
  | _ => []
theorem pairs2_ok {σ : L2.St} {ρ : EnvD} : ∀ (ps : List (FD × FD)) (w w0 : Wd) (Q : List (V × V) → Hp → Prop), Step K w0 w → SR K w ρ σ →
    After K E w (dVals2 ps ρ w.M) (fun ds w' => ∀ vs, RepL K w'.A w'.G vs ds → Q (vPairs vs) w'.H) → tPairs (ps.map fun p => (tF K E p.1, tF K E p.2)) σ w.H Q
  | [], w, w0, Q, s, sr, a => by
    have a' : ∀ w', Step K w w' → w'.M = w.M → ∀ vs, RepL K w'.A w'.G vs [] → Q (vPairs vs) w'.H := a
    exact a' w (Step.refl s.ok) rfl [] .nil
  | (k, v) :: ps, w, w0, Q, s, sr, a => by
    refine ⟨ρ, w, rfl, s.ok, sr, ?_⟩
    have a1 : After K E w (dCons k (dCons v (dVals2 ps)) ρ w.M) _ := a
    refine a1.bind.imp fun d w1 s1 a2 x rx => ?_
    refine ⟨ρ, w1, rfl, s1.ok, sr.step s1, ?_⟩
    have a2' := a2.bind
    have a3 : After K E w1 (v ρ w1.M) fun d2 w2 => After K E w2 (dVals2 ps ρ w2.M) fun ds w3 => ∀ w4, Step K w3 w4 → w4.M = w3.M → ∀ vs, RepL K w4.A w4.G vs (d :: d2 :: ds) → Q (vPairs vs) w4.H := by
      have a4 : After K E w1 ((v ρ w1.M).bind fun d2 M => (dVals2 ps ρ M).bind fun ds M => .ok (d2 :: ds) M) _ := a2'
      refine a4.bind.imp fun d2 w2 s2 a5 => a5.bind.imp fun ds w3 s3 a6 w4 s4 e4 vs rvs => ?_
      exact a6 w3 (Step.refl s3.ok) rfl w4 s4 e4 vs rvs
    refine a3.imp fun d2 w2 s2 a4 y ry => ?_
    refine pairs2_ok ps w2 w0 _ ((s.trans s1).trans s2) ((sr.step s1).step s2) (a4.imp fun ds w3 s3 a5 vs rvs => ?_)
    exact a5 w3 (Step.refl s3.ok) rfl (x :: y :: vs) (.cons (s3.rep (s2.rep rx)) (.cons (s3.rep ry) rvs))
theorem pairUp_at {A : List Addr} {G : Hp} : ∀ {vs : List V} {ds : List D} {kd : List (Key × D)}, RepL K A G vs ds → pairUp ds = some kd → ∃ kv : List (Key × V), vPairs vs = kv.map (fun kv => (kV kv.1, kv.2)) ∧ RepKV (Rep K A G) kv kd
  | [], [], _, _, h => by cases h; exact ⟨[], rfl, .nil⟩
  | [_], [_], _, _, h => by cases h
  | x :: y :: vs, k :: v :: ds, kd, .cons r1 (.cons r2 t), h => by
    rw [pairUp] at h
    cases hk : keyD k with
    | none => rw [hk] at h; cases h
    | some kk =>
      rw [hk] at h
      cases hp : pairUp ds with
      | none => simp [hp] at h
      | some r =>
        simp [hp] at h
        subst h
        obtain ⟨kv, e1, e2⟩ := pairUp_at t hp
        have := key_at r1 hk
        subst this
        exact ⟨(kk, y) :: kv, by rw [vPairs, e1]; rfl, .cons r2 e2⟩
theorem mergeK_fold : ∀ (kv av : List (Key × V)), mergeK av kv = kv.foldl (fun acc x => putK acc x.1 x.2) av := fun kv av => rfl
theorem x_dispG {ps : List (FD × FD)} (h : PE X e (tDisp (ps.map fun p => (tF K E p.1, tF K E p.2)))) : PE X e (tF K E (dDispG ps)) := PE.wk h fun σ H Q ⟨ρ, w, e1, ok, sr, a⟩ => by
  subst e1
  intro p hp
  have s0 := ok.fresh0 hp (.dK [])
  have hG : w.G p = none := ok.sub.free hp
  have hA := ok.notA hp
  refine pairs2_ok ps ⟨w.A, w.G, w.M, upd w.H p (.dK [])⟩ w _ s0 (sr.step s0) ?_
  have a1 := (show After K E w ((dVals2 ps ρ w.M).bind _) _ from a).bind
  cases q : dVals2 ps ρ w.M with
  | bad => rw [q] at a1; exact a1
  | exc c d M => rw [q] at a1; exact fun w' s' e => a1 w' (s0.trans s') e
  | ok ds M =>
    rw [q] at a1
    intro w1 s1 eM vs rvs
    have s01 := s0.trans s1
    obtain ⟨k1, k2, k3⟩ := s1.keepN p (.dK []) upd_same hG hA
    have a2 := (show After K E w (dDispG ps ρ w.M) _ from a)
    have ed : dDispG ps ρ w.M = match pairUp ds with
      | some kvs => if kvs.length ≤ 15 then .ok (.ref M.length) (M ++ [.dK (mergeP [] kvs)]) else .bad
      | none => .bad := by unfold dDispG; rw [q]; rfl
    rw [ed] at a2
    split at a2
    · rename_i kd hkd
      split at a2
      · rename_i hc
        obtain ⟨kv, ev, rk⟩ := pairUp_at rvs hkd
        refine ⟨k1, kv, ev, by rw [rk.len]; exact hc, ?_⟩
        have hrep : RepKV (Rep K w1.A w1.G) (mergeK [] kv) (mergeP [] kd) := merge_kv rk .nil
        have okA := setOwn_ok (o := .dK (mergeK [] kv)) s1.ok k1 k2 k3
        have ok2 := okA.push (o := .dK (mergeP [] kd)) k2 k3 ⟨_, upd_same, hrep⟩
        have a3 : ∀ w', Step K w w' → w'.M = M ++ [.dK (mergeP [] kd)] → ∀ v, Rep K w'.A w'.G v (.ref M.length) → Q v w'.H := a2
        refine a3 ⟨w1.A ++ [p], w1.G, w1.M ++ [.dK (mergeP [] kd)], upd w1.H p (.dK (mergeK [] kv))⟩ ⟨ok2, s01.pre.trans (List.prefix_append _ _), s01.fro, fun b o z1 z2 z3 => ?_⟩ (by rw [eM]) _ (.ref ?_)
        · obtain ⟨c1, c2, c3⟩ := s01.keep b o z1 z2 z3
          refine ⟨?_, c2, fun hm => (List.mem_append.mp hm).elim c3 fun z => by simp at z; subst z; rw [hp] at z1; cases z1⟩
          show upd w1.H p _ b = some o
          rw [upd_ne (ne_of_none z1 hp)]
          exact c1
        · show (w1.A ++ [p])[M.length]? = some p
          have hl := s1.ok.len
          rw [eM] at hl
          rw [← hl, List.getElem?_append_right (Nat.le_refl _), Nat.sub_self]
          rfl
      · exact a2.elim
    · exact a2.elim
end
/-! ### d.update(d') -/
def tDUpd (td ty : TE) : TE := fun σ H Q => td σ H fun x H1 => ∃ a, x = .ref a ∧ IsD H1 a ∧ ty σ H1 fun y H2 => ∃ (b : Addr) (kvs more : List (Key × V)), y = .ref b ∧ a ≠ b ∧ H2 a = some (.dK kvs) ∧ H2 b = some (.dK more) ∧ kvs.length + more.length ≤ sizeLine ∧ Q .non (upd H2 a (.dK (mergeK kvs more)))
section
variable {X : Cx} {o e : Expr} {td ty : TE} {apos cpos : Pos}
open PySem.Spec PyProof.Rows in
theorem pe_dupd (ho : PE X o td) (he : PE X e ty) (m : M1 X o "update" apos e cpos) : PE X (.Call (.Attribute o "update" apos) [e] [] cpos) (tDUpd td ty) := by
  refine ⟨fun pins s σ H Q I h => ?_⟩
  refine wpAny_Call_method m.base m.few m.line PySem.F.plainAttrs_dict PySem.F.slot_dict_update PySem.F.type_dict_update (thn (ho.run pins s σ H _ I h) fun u s1 ⟨x, H1, I1, rx, a, ex, d, q1⟩ => ?_)
  subst ex
  obtain rfl : u = Value.ref a := rx
  obtain ⟨t1, t2, _⟩ := isD_at I1 d
  refine ⟨t1, t2, ?_⟩
  rw [m.trees]
  refine Calls.callWith_builtin rfl (Calls.evalArgs_plain (Calls.spliced_cons (thn (he.run pins s1 σ H1 _ I1 q1) fun iv s2 ⟨y, H2, I2, ry, b, kvs, more, ey, hne, hd, ho, hz, q2⟩ => Calls.spliced_nil ?_)))
  subst ey
  obtain rfl : iv = Value.ref b := ry
  obtain ⟨z1, m1, vs1, rel1, dd1⟩ := dk_of I2.hok hd
  obtain ⟨z2, m2, vs2, rel2, dd2⟩ := dk_of I2.hok ho
  refine call_meetsIn PySem.F.slot_dict_update dd1.typeIs PySem.F.entry_dict_update (PySem.F.args_dict_update_2 _ _) (meets_dict_update (mixKind X.prog X.w) a b hne m2) ⟨vs1, vs2, dd1, dd2, by rw [← rel1.length, ← rel2.length]; exact hz, fun h' e1 e2 hs => ?_⟩
  have hl : (mergeK kvs more).length ≤ sizeLine := Nat.le_trans (length_mergeK more kvs) hz
  have hex : ∃ q, h'.get? a = some q := let ⟨q, _, _, hq, _⟩ := e1; ⟨q, hq⟩
  exact ⟨.non, _, d_write I2 (by rw [hd]; exact True.intro) hs hex (dk_new hl m1 (KV.merge rel2 rel1) e1), rfl, q2⟩
end
section
variable {K : PySem.W.Frag} {E : Wish} {X : Cx} {e : Expr}
def dUpd (fo fe : FD) : FD := fun ρ M => (fo ρ M).bind fun x M => if isDD M x then (fe ρ M).bind fun y M => match x, y with
  | .ref i, .ref j => match M[i]?, M[j]? with
    | some (.dK kvs), some (.dK more) => if i ≠ j ∧ kvs.length + more.length ≤ sizeLine then .ok .non (M.set i (.dK (mergeP kvs more))) else .bad
    | _, _ => .bad
  | _, _ => .bad else .bad
theorem x_upd {fo fe : FD} (h : PE X e (tDUpd (tR K E fo) (tR K E fe))) : PE X e (tF K E (dUpd fo fe)) := PE.wk h fun σ H Q ⟨ρ, w, e1, ok, sr, a⟩ =>
  ⟨ρ, w, e1, ok, sr, a.bind.imp fun x w1 s1 a1 vx rx => by
    split at a1
    · rename_i hd
      obtain ⟨p, rfl, ip⟩ := isD_at' s1.ok rx hd
      refine ⟨p, rfl, ip, ρ, w1, rfl, s1.ok, sr.step s1, a1.bind.imp fun y w2 s2 a2 vy ry => ?_⟩
      split at a2
      · rename_i i j
        split at a2
        · rename_i kvs more ei ej
          split at a2
          · rename_i hc
            obtain ⟨p', e2, ea⟩ := ref_at (rx.step s2)
            cases e2
            obtain ⟨q, rfl, eb⟩ := ref_at ry
            obtain ⟨p2, ea2, vs1, h1, rk1⟩ := s2.ok.mos i _ ei
            rw [ea] at ea2; cases ea2
            obtain ⟨q2, eb2, vs2, h2, rk2⟩ := s2.ok.mos j _ ej
            rw [eb] at eb2; cases eb2
            refine ⟨q, vs1, vs2, rfl, fun hpq => hc.1 ?_, h1, h2, by rw [rk1.len, rk2.len]; exact hc.2, ?_⟩
            · subst hpq
              obtain ⟨li, gi⟩ := List.getElem?_eq_some_iff.mp ea
              obtain ⟨lj, gj⟩ := List.getElem?_eq_some_iff.mp eb
              exact (List.getElem_inj (h₀ := li) (h₁ := lj) s2.ok.nd).mp (gi.trans gj.symm)
            · have st3 := s2.ok.put (o := .dK (mergeP kvs more)) (ho := .dK (mergeK vs1 vs2)) ea ⟨_, upd_same, merge_kv rk2 rk1⟩
              exact a2 _ st3 rfl .non .non
          · exact a2.elim
        · exact a2.elim
      · exact a2.elim
    · exact a1.elim⟩
end
/-! ### xs[::k], k 1 or -1 -/
def tStepL (K : PySem.W.Frag) (te ts : TE) : TE := fun σ H Q => te σ H fun x H1 => tPart ts σ H1 fun o H2 => ∃ (a : Addr) (xs : List V) (k : Int), x = .ref a ∧ o = some k ∧ (k = 1 ∨ k = -1) ∧ SqL K H2 a xs ∧ ∀ p, H2 p = none → Q (.ref p) (upd H2 p (.lst (if k = 1 then xs else xs.reverse)))
section
variable {X : Cx} {e st : Expr} {te ts : TE}
open PySem.Spec PyProof.Rows in
theorem pick_one (its : List Value) : slicePick its.toArray none none (some 1) = its.toArray := by
  have h := slicePick_cut its none none
  have e : slicePick its.toArray none none (some 1) = slicePick its.toArray none none none := rfl
  rw [e, h]
  simp [HT.sIx]
open PySem.Spec PyProof.Rows in
theorem pe_stepL {p3 pos : Pos} (he : PE X e te) (hs : PE X st ts) : PE X (.Subscript e (.Slice none none (some st) p3) pos) (tStepL X.K te ts) := by
  refine ⟨fun pins s σ H Q I h => ?_⟩
  refine Subscript_ (thn (he.run pins s σ H _ I h) fun v s1 ⟨x, H1, I1, r1, q1⟩ => ?_)
  have hst : PO X (some st) (tPart ts) := po_some hs
  refine wpAny_Slice (thn (po_none.run pins s1 σ H1 (fun o H2 => o = none ∧ H2 = H1) I1 ⟨rfl, rfl⟩) fun vl s2 ⟨l, H2, I2, pl, el, e2⟩ => ?_)
  subst el e2
  refine thn (po_none.run pins s2 σ H2 (fun o H3 => o = none ∧ H3 = H2) I2 ⟨rfl, rfl⟩) fun vu s3 ⟨u, H3, I3, pu, eu, e3⟩ => ?_
  subst eu e3
  refine thn (hst.run pins s3 σ H3 _ I3 q1) fun vs s4 ⟨o, H4, I4, ps, a, xs, k, ex, eo, hk, hx, q⟩ => ?_
  subst ex eo
  cases r1
  have I5 : Inv X pins σ H4 { s4 with heap := s4.heap.push { cls := .type "slice", data := .fields #[vl, vu, vs] } } := I4.kept (t' := s4.toks) fun b ob q => Heap.get?_push_of_some _ q
  obtain ⟨its, r, ht, hz⟩ := I5.list hx
  have hlen := r.length
  show wpAny (model X.prog X.w) X.A (subscriptTail e (.Slice none none (some st) p3) (.ref a) (.ref s4.heap.objs.size)) (EP X pins σ Q) X.xe { s4 with heap := s4.heap.push { cls := .type "slice", data := .fields #[vl, vu, vs] } }
  refine tail_any (ops := [.ref a, .ref s4.heap.objs.size]) ht.isList.typeIs (PySem.slot_list_getitem.lookup) ?_ (by with_unfolding_all rfl)
  refine wpAny_getItem_list_slice ht.isList (Heap.IsSliceOf.new _ vl vu vs) pl pu ps (by rcases hk with rfl | rfl <;> decide) ?_ (by rw [List.size_toArray]; omega)
  rcases hk with rfl | rfl
  · rw [pick_one]
    refine ⟨.ref _, _, I5.laid (t' := s4.toks) (o := .lst xs) (fun b ob q => Heap.get?_push_of_some _ q) (Nat.le_refl _) ?_, rfl, by simpa using q _ (I5.hok.fresh (Nat.le_refl _))⟩
    exact ⟨hz, _, 0, r, Heap.get?_push_size _ rfl⟩
  · rw [PySem.W.krv_pick]
    refine ⟨.ref _, _, I5.laid (t' := s4.toks) (o := .lst xs.reverse) (fun b ob q => Heap.get?_push_of_some _ q) (Nat.le_refl _) ?_, rfl, by simpa using q _ (I5.hok.fresh (Nat.le_refl _))⟩
    exact ⟨by rw [List.length_reverse]; exact hz, _, 0, r.reverse, Heap.get?_push_size _ rfl⟩
end
section
variable {K : PySem.W.Frag} {E : Wish} {X : Cx} {e : Expr}
def stepD (xs : List D) : D → Option (List D)
  | .int k => if k = 1 then some xs else if k = -1 then some xs.reverse else none
  | _ => none
/-- xs[::k] of a list -/
def dStepL (fe fs : FD) : FE := fun ρ M => (fe ρ M).bind fun x M => (fs ρ M).bind fun y M => match seqOf M x with
  | some xs => match stepD xs y with
    | some zs => .ok (.own zs) M
    | none => .bad
  | none => .bad
theorem x_stepL {fe fs : FD} (h : PE X e (tStepL K (tR K E fe) (tR K E fs))) : PE X e (tE K E (dStepL fe fs)) := PE.wk h fun σ H Q ⟨ρ, w, e1, ok, sr, a⟩ =>
  ⟨ρ, w, e1, ok, sr, a.bind.imp fun x w1 s1 a1 v1 r1 => ⟨ρ, w1, rfl, s1.ok, sr.step s1, a1.bind.imp fun y w2 s2 a2 v2 r2 => by
    split at a2
    · rename_i xs hx
      split at a2
      · rename_i zs hz
        cases y with
        | int k =>
          obtain ⟨p, vs, rfl, hp, rl⟩ := seq_at s2.ok (r1.step s2) hx
          have e2 := int_at r2
          refine ⟨k, e2, p, vs, k, rfl, rfl, ?_, hp, fun n hn => ?_⟩
          · unfold stepD at hz
            simp only at hz
            split at hz
            · exact .inl ‹_›
            · split at hz
              · exact .inr ‹_›
              · cases hz
          · have s3 := s2.ok.fresh0 hn (.lst (if k = 1 then vs else vs.reverse))
            have hG : w2.G n = none := s2.ok.sub.free hn
            have a3 : ∀ w', Step K w2 w' → w'.M = w2.M → ∀ v, RepX K w w' v (.own zs) → Q v w'.H := a2
            refine a3 _ s3 rfl _ ⟨n, _, rfl, ((s1.trans s2).free hn), upd_same, hG, s2.ok.notA hn, ?_⟩
            unfold stepD at hz
            simp only at hz
            split at hz
            · rename_i h1; cases hz; rw [if_pos h1]; exact rl
            · rename_i h1
              split at hz
              · cases hz; rw [if_neg h1]; exact rl.reverse
              · cases hz
        | _ => cases hz
      · exact a2.elim
    · exact a2.elim⟩⟩
end
section
variable (ρ : EnvD) (M : Store)
@[simp] theorem dUpd_eq (fo fe : FD) : dUpd fo fe ρ M = (fo ρ M).bind fun x M => if isDD M x then (fe ρ M).bind fun y M => match x, y with
  | .ref i, .ref j => match M[i]?, M[j]? with
    | some (.dK kvs), some (.dK more) => if i ≠ j ∧ kvs.length + more.length ≤ sizeLine then .ok .non (M.set i (.dK (mergeP kvs more))) else .bad
    | _, _ => .bad
  | _, _ => .bad else .bad := rfl
@[simp] theorem dDispG_eq (ps : List (FD × FD)) : dDispG ps ρ M = (dVals2 ps ρ M).bind fun ds M => match pairUp ds with
  | some kvs => if kvs.length ≤ 15 then .ok (.ref M.length) (M ++ [.dK (mergeP [] kvs)]) else .bad
  | none => .bad := rfl
@[simp] theorem dStepL_eq (fe fs : FD) : dStepL fe fs ρ M = (fe ρ M).bind fun x M => (fs ρ M).bind fun y M => match seqOf M x with
  | some xs => match stepD xs y with
    | some zs => .ok (.own zs) M
    | none => .bad
  | none => .bad := rfl
@[simp] theorem dDictZ2_eq (f1 f2 : FD) : dDictZ2 f1 f2 ρ M = (f1 ρ M).bind fun x M => (f2 ρ M).bind fun y M => match anyOf M x with
  | some xs => match keysD xs with
    | some ks => match anyOf M y with
      | some ys => .ok (.ref M.length) (M ++ [.dK (mergeP [] (ks.zip ys))])
      | none => .bad
    | none => .bad
  | none => .bad := rfl
end
end TP
/-! TPp2: three names at once, list(range(n)). -/
namespace TP
open PySem L2
section
variable {K : PySem.W.Frag} {E : Wish} {X : Cx} {e : Expr} {st : Stmt}
/-- a, b, c = x, y, z -/
def sPar3 (i j l : Nat) (fs : FL) : FS := fun ρ M => (fs ρ M).out fun ds M => match ds with
  | [x, y, z] => .next (((ρ.set i (.val x)).set j (.val y)).set l (.val z)) M
  | _ => .bad
theorem s_par3 {i j l : Nat} {fs : FL} (h : PS X st (tPar3 i j l (tAF K E fs))) : PS X st (tS K E (sPar3 i j l fs)) := PS.wk h fun D σ H ⟨ρ, w, w0, e1, s, sr, of, p⟩ =>
  ⟨ρ, w, e1, s.ok, sr, (out_after s p).imp fun ds w1 s1 p1 vs rvs => by
    split at p1
    · cases rvs with
      | cons r1 r2 =>
        cases r2 with
        | cons r2 r3 =>
          cases r3 with
          | cons r3 r4 =>
            cases r4
            refine ⟨_, _, _, rfl, p1 w1 _ (s.trans s1) (Le.refl _) rfl ((((sr.step s1).set i r1).set j r2).set l r3) (of.sub (((OwnSub.set ρ σ i (fun _ z => by cases z) _).trans (OwnSub.set _ _ j (fun _ z => by cases z) _)).trans (OwnSub.set _ _ l (fun _ z => by cases z) _)))⟩
    · exact p1.elim⟩
/-! ### list(range(n)) -/
def dLstRg (f : FD) : FE := fun ρ M => (f ρ M).bind fun x M => match x with
  | .int n => if -(2 ^ 62) ≤ n ∧ n ≤ 16777216 then .ok (.own (rngL 0 n.toNat)) M else .bad
  | _ => .bad
theorem rep_map {α : Type} {A : List Addr} {G : Hp} {f : α → V} {g : α → D} (h : ∀ i, Rep K A G (f i) (g i)) : ∀ l : List α, RepL K A G (l.map f) (l.map g)
  | [] => .nil
  | x :: l => .cons (h x) (rep_map h l)
theorem rep_rg (A : List Addr) (G : Hp) (m : Nat) (a : Int) : RepL K A G ((List.range m).map fun (i : Nat) => V.int (a + (i : Nat))) (rngL a m) := rep_map (fun i => .int _) _
theorem x_listRg {f : FD} (h : PE X e (tLstRg (tRg1 (tR K E f)))) : PE X e (tE K E (dLstRg f)) := PE.wk h fun σ H Q ⟨ρ, w, e1, ok, sr, a⟩ =>
  ⟨ρ, w, e1, ok, sr, a.bind.imp fun x w1 s1 a1 v1 r1 => by
    split at a1
    · rename_i n
      split at a1
      · rename_i hn
        refine ⟨n, int_at r1, ⟨by omega, by omega, by omega, by omega, by omega⟩, fun q hq => ?_⟩
        have s3 := s1.ok.fresh0 hq (.lst (rgV 0 n))
        have hG : w1.G q = none := s1.ok.sub.free hq
        have a3 : ∀ w', Step K w1 w' → w'.M = w1.M → ∀ v, RepX K w w' v (.own (rngL 0 n.toNat)) → Q v w'.H := a1
        refine a3 _ s3 rfl _ ⟨q, _, rfl, (s1.free hq), upd_same, hG, s1.ok.notA hq, ?_⟩
        have e : n - 0 = n := by omega
        unfold rgV
        rw [e]
        exact rep_rg _ _ n.toNat 0
      · exact a1.elim
    · exact a1.elim⟩
end
section
variable (ρ : EnvD) (M : Store)
@[simp] theorem sPar3_eq (i j l : Nat) (fs : FL) : sPar3 i j l fs ρ M = (fs ρ M).out fun ds M => match ds with
  | [x, y, z] => .next (((ρ.set i (.val x)).set j (.val y)).set l (.val z)) M
  | _ => .bad := rfl
@[simp] theorem dLstRg_eq (f : FD) : dLstRg f ρ M = (f ρ M).bind fun x M => match x with
  | .int n => if -(2 ^ 62) ≤ n ∧ n ≤ 16777216 then .ok (.own (rngL 0 n.toNat)) M else .bad
  | _ => .bad := rfl
end
end TP
/-! TPga: enumerate of a tuple, x[i] = e of a list of one's own, max of a list, index. -/
namespace TP
open PySem L2
section
variable {prog : Program} {w : World} {A : Around} {E : Value → Shared → Prop} {s : Shared}
set_option maxHeartbeats 1000000 in
theorem meets_enum_new1 {v : Value} {o : Obj} {H : Heap → Prop} (B : Begins v o H) :
    Meets (Builtin.«enumerate.__new__» ⟨[.type "enumerate", v], []⟩) (fun _ R s => H s.heap ∧
      R (.ok (.ret (.ref (s.heap.push o).objs.size))) { s with heap := (s.heap.push o).push { cls := .type "enumerate", data := .fields #[.none, .bool false, .ref s.heap.objs.size, rawInt 0, .none, .none] } }) :=
  .of_wp fun prog w A R s h => by
    obtain ⟨hp, g, d, tk, os⟩ := s; obtain ⟨h1, h⟩ := h
    have hsub := sub_enumerate
    have q1 : ∀ {A' : Around} {E : Value → Shared → Prop} {Q : Value → Shared → Prop}, Q (.ref hp.objs.size) ⟨hp.push o, g, d, tk, os⟩ → wpAny (model prog w) A' (pyIter v) Q E ⟨hp, g, d, tk, os⟩ :=
      fun q => B.iter prog w _ _ ⟨hp, g, d, tk, os⟩ _ h1 q
    wp_walk using q1
    refine wpAny_stack_any fun st => wpAny_pure ?_
    split
    · rename_i c _ _ _ _ _
      cases (c == Value.type "enumerate")
      · wp_walk using q1
        exact ⟨_, rfl, h⟩
      · wp_walk using q1
        exact ⟨_, rfl, h⟩
    · wp_walk using q1
      exact ⟨_, rfl, h⟩
theorem enum_begins1 {v : Value} {o : Obj} {H : Heap → Prop} {Q : Value → Shared → Prop} (B : Begins v o H) (h1 : H s.heap)
    (h : ∀ h', IsEnum h' (s.heap.objs.size + 1) s.heap.objs.size 0 .none → h'.get? s.heap.objs.size = some o → h'.objs.size = s.heap.objs.size + 2 →
      (∀ b o, s.heap.get? b = some o → h'.get? b = some o) → Q (.ref (s.heap.objs.size + 1)) { s with heap := h' }) :
    wpAny (model prog w) A (call (.type "enumerate") [v]) Q E s := by
  refine callType_new F.called_enumerate (by decide) (F.typeCall_enumerate_1 _) (F.newCall_enumerate_1 _) (fun obj => F.args_object_init_2 obj _) F.entry_enumerate_new
    (meets_enum_new1 B) ⟨h1, ?_⟩
  have hz : (s.heap.push o).objs.size = s.heap.objs.size + 1 := Heap.size_push ..
  show _ ∧ _
  rw [hz]
  have he : IsEnum ((s.heap.push o).push { cls := .type "enumerate", data := .fields #[.none, .bool false, .ref s.heap.objs.size, rawInt 0, .none, .none] }) (s.heap.objs.size + 1) s.heap.objs.size 0 .none := by
    have := Heap.get?_push_size (s.heap.push o) (o := { cls := .type "enumerate", data := .fields #[.none, .bool false, .ref s.heap.objs.size, rawInt 0, .none, .none] }) rfl
    rw [hz] at this; exact this
  refine ⟨⟨_, he, rfl⟩, h _ he (Heap.get?_push_of_some _ (Heap.get?_push_size _ B.free)) (by rw [Heap.size_push, hz]) fun b o x => Heap.get?_push_of_some _ (Heap.get?_push_of_some _ x)⟩
end
/-- the tuple at a, each item in a new pair -/
def IteT (K : PySem.W.Frag) (a : Addr) : It :=
  ⟨fun i H => ∃ (xs : List V) (x : V), SqT K H a xs ∧ xs[i]? = some x, fun i H v H' => ∃ T x, v = .ref T ∧ H T = none ∧ H' = upd H T (.tup [.int (i : Nat), x]) ∧ ∀ xs, SqT K H a xs → xs[i]? = some x, fun i H => ∃ xs : List V, SqT K H a xs ∧ xs.length ≤ i⟩
theorem turn_enumT {P : Program} {w : World} {K : PySem.W.Frag} {elts : List Expr} {kk : Nat} {tpos : Pos} (a e it : Addr) :
    Turn P w K (.Tuple elts kk tpos) (IteT K a) [e, it] e (fun i h => (∃ old, IsEnum h e it ((i : Nat) : Int) old) ∧ h.IsTupleIter it a i ∧ e ≠ it ∧ e ≠ a ∧ a ≠ it) where
  mem := by simp
  obj := fun i h st b hb => by
    obtain ⟨⟨old, he⟩, ⟨o, ho, hc, hd⟩, _⟩ := st
    have e' : b = e ∨ b = it := by simpa using hb
    rcases e' with z | z
    · rw [z]; exact ⟨_, he, fun v q => nomatch q⟩
    · rw [z]; exact ⟨o, ho, fun v q => by rw [hd] at q; cases q⟩
  keep := fun i h h' st k => let ⟨⟨old, he⟩, hi, hne⟩ := st; ⟨⟨old, k e (by simp) _ he⟩, hi.at fun o q => k it (by simp) o q, hne⟩
  item := by
    intro X hP hw hK hc i pins s σ H E I hf st hg
    subst hP hw hK
    obtain ⟨⟨old, he⟩, hit, hne, hea, hai⟩ := st
    obtain ⟨xs, x, hq, hx⟩ := hg
    obtain ⟨its, rv, p, hz⟩ := I.tuple hq
    obtain ⟨u, hu, ru⟩ := rv.get hx
    have hel : e < s.heap.objs.size := Heap.lt_size he
    have hil : it < s.heap.objs.size := by obtain ⟨_, q, _⟩ := hit; exact Heap.lt_size q
    have hu2 : its.toArray[i]? = some u := by simpa using hu
    have hlt : i < its.toArray.size := (Array.getElem?_eq_some_iff.mp hu2).1
    refine wpAny_pyNext_enum_itemD (Draws.tuple (A := X.A.in1) (I.ok.hd hc) it a hai its.toArray) he ⟨hit, p⟩ hlt hne (by simp [hne, hea]) fun y h' tk hy ho hit' hT hsz hk => ?_
    have ey : u = y := Option.some.inj (hu2.symm.trans hy)
    subst ey
    refine ⟨_, rfl, wpAny_letOwnedTupleGo_enum (s := { s with heap := h', toks := tk + 1 }) ho fun h'' he' sb => ?_⟩
    have hT2 : h''.get? s.heap.objs.size = some { cls := .type "tuple", data := .seq #[.int i tk, u] } := (sb.2 _ (Nat.ne_of_gt hel)).trans hT
    have new : ObjOk X.prog X.w (upd H s.heap.objs.size (.tup [.int (i : Nat), x])) h'' s.heap.objs.size (.tup [.int (i : Nat), x]) :=
      ⟨by show 2 ≤ sizeLine; decide, [.int i tk, u], .cons ⟨_, rfl⟩ (.cons ru .nil), ⟨_, hT2, rfl, _, rfl⟩⟩
    have I1 : Inv X pins σ (upd H s.heap.objs.size (.tup [.int (i : Nat), x])) { s with heap := h'', toks := tk + 1 } :=
      I.turnedNew (ch := [e, it]) (fun b ob hb q => (sb.2 b (fun z => hb (by simp [z]))).trans (hk b ob (fun z => hb (by simp [z])) (fun z => hb (by simp [z])) q)) hf (Nat.le_refl _) new
    refine ⟨.ref s.heap.objs.size, _, I1, rfl, ⟨_, x, rfl, I.hok.fresh (Nat.le_refl _), rfl, fun ys hy => by rw [I.tuple_inj hy hq]; exact hx⟩, ⟨⟨u, ?_⟩, hit'.1.at fun o q => (sb.2 it (Ne.symm hne)).trans q, hne, hea, hai⟩, fun b hb => ?_⟩
    · have e1 : ((i + 1 : Nat) : Int) = (i : Int) + 1 := by omega
      rw [e1]; exact he'
    · have hb' : b < s.heap.objs.size := by
        have e' : b = e ∨ b = it := by simpa using hb
        rcases e' with z | z
        · rw [z]; exact hel
        · rw [z]; exact hil
      rw [upd_ne (Nat.ne_of_lt hb')]
      exact (hf b hb).1
  done := by
    intro X hP hw hK hc i pins s σ H E I hf st hg
    subst hP hw hK
    obtain ⟨⟨old, he⟩, hit, hne, hea, hai⟩ := st
    obtain ⟨xs, hq, hx⟩ := hg
    obtain ⟨its, rv, p, hz⟩ := I.tuple hq
    obtain ⟨f0, f1, f2, f3, f4, f5⟩ := hf it (by simp)
    have hl := rv.length
    have hT : s.TypeIs (.ref e) "enumerate" := ⟨_, he, rfl⟩
    unfold pyNext
    refine wpAny_bind (wpAny_attempt (wpAny_callSpecial?_slot (name := Str.ofString "__next__") hT F.slot_enumerate_next
      (wpAny_call_entry F.slot_enumerate_next hT F.entry_enumerate_next ?_ (F.args_enumerate_next_1 _))))
    show wpAny _ _ (field (.ref e) 2 >>= _) _ _ _
    refine wpAny_bind (wpAny_field he rfl (x := .ref it) rfl ?_)
    refine wpAny_bind (wpAny_nextOf_tuple_end (A := X.A.in1) (I.ok.hd hc) hit p (by simp; omega) fun h' x he' hx' => ?_)
    obtain ⟨o, ho, hcl⟩ := hx'
    refine wpAny_bind (wpAny_isInstance (T := "StopIteration") (b := true) ⟨o, ho, hcl⟩ isSubtype_stop ?_)
    exact wpAny_pure ⟨rfl, I.turned (t' := s.toks) (fun b o hb q => he' b o hb q) f0 f1 f3 f4 f5⟩
  self := fun A i s Q E st h => let ⟨⟨_, he⟩, _⟩ := st; wpAny_pyIter_enum he h
/-- enumerate of a list or a tuple -/
def iEnumA (K : PySem.W.Frag) (ta : TA) : TI := fun σ H R => ta σ H fun vs H1 => ∃ a xs, vs = [.ref a] ∧ ((SqL K H1 a xs ∧ R (Ite K a) H1) ∨ (SqT K H1 a xs ∧ R (IteT K a) H1))
theorem pi_enumA {X : Cx} {e : Expr} {ta : TA} {p pos tpos : Pos} {elts : List Expr} {kk : Nat} (hg : Gl X "enumerate") (hm : X.mg "enumerate" = none) (ha : PA X [e] ta) (hs : starEach [e] X.env = [(false, eval e X.env)] := by rfl) :
    PI X (.Tuple elts kk tpos) (.Call (.Name "enumerate" p) [e] [] pos) (iEnumA X.K ta) := by
  refine ⟨fun pins s σ H R I h => ?_⟩
  refine PyProof.Rows.Call_ (ld_blt I hg hm PyProof.Rows.boot_enumerate (PyProof.Rows.callWith_type1 (thn (ha.run pos pins s σ H _ I h) fun us s1 ⟨vs, H1, I1, r1, q1⟩ => ?_) hs rfl))
  obtain ⟨a, xs, ex, q⟩ := q1
  subst ex
  cases r1 with
  | cons r rr =>
    cases rr
    cases r
    rcases q with ⟨hq, q⟩ | ⟨hq, q⟩
    · obtain ⟨its, rv, p', hz⟩ := I1.list hq
      refine call_enumerate_list p'.isList fun h' he hit hsz hk => wpAny_pyIter_enum he ?_
      have I2 : Inv X pins σ H1 { s1 with heap := h' } := I1.kept (t' := s1.toks) hk
      refine ⟨s1.heap.objs.size + 1, [s1.heap.objs.size + 1, s1.heap.objs.size], _, _, H1, rfl, I2, turn_enum a (s1.heap.objs.size + 1) s1.heap.objs.size, ⟨⟨.none, he⟩, hit, Nat.succ_ne_self _⟩, fun b hb => ?_, q⟩
      have e' : b = s1.heap.objs.size + 1 ∨ b = s1.heap.objs.size := by simpa using hb
      have hle : s1.heap.objs.size ≤ b := by
        rcases e' with z | z
        · rw [z]; exact Nat.le_add_right _ _
        · rw [z]; exact Nat.le_refl _
      exact I1.fpOk hle (I1.hok.fresh hle)
    · obtain ⟨its, rv, p', hz⟩ := I1.tuple hq
      have hal : a < s1.heap.objs.size := by obtain ⟨_, q, _⟩ := p'; exact Heap.lt_size q
      refine enum_begins1 (begins_tuple a its.toArray) p' fun h' he hit hsz hk => wpAny_pyIter_enum he ?_
      have I2 : Inv X pins σ H1 { s1 with heap := h' } := I1.kept (t' := s1.toks) hk
      refine ⟨s1.heap.objs.size + 1, [s1.heap.objs.size + 1, s1.heap.objs.size], _, _, H1, rfl, I2, turn_enumT a (s1.heap.objs.size + 1) s1.heap.objs.size, ⟨⟨.none, he⟩, ⟨_, hit, rfl, rfl⟩, Nat.succ_ne_self _, Nat.ne_of_gt (Nat.lt_succ_of_lt hal), Nat.ne_of_lt hal⟩, fun b hb => ?_, q⟩
      have e' : b = s1.heap.objs.size + 1 ∨ b = s1.heap.objs.size := by simpa using hb
      have hle : s1.heap.objs.size ≤ b := by
        rcases e' with z | z
        · rw [z]; exact Nat.le_add_right _ _
        · rw [z]; exact Nat.le_refl _
      exact I1.fpOk hle (I1.hok.fresh hle)
section
variable {K : PySem.W.Frag} {E : Wish} {X : Cx} {e : Expr} {st : Stmt}
theorem it_enumT {w : Wd} {a : Addr} {vs : List V} {ds : List D} (hs : SqT K w.G a vs) (rl : RepL K w.A w.G vs ds) : IterOk K w (IteT K a) (enumL ds) := fun w2 le ok2 i => by
  have h2 : SqT K w2.H a vs := sqT_mono ok2.sub (sqT_mono le.2 hs)
  have r2 := le.repL rl
  refine ⟨fun d ed => ?_, fun hl => ⟨vs, h2, by rw [rl.length]; simpa [enumL] using hl⟩⟩
  unfold enumL at ed
  rw [List.getElem?_map] at ed
  by_cases hi : i < ds.length
  · rw [List.getElem?_range hi] at ed
    cases ed
    obtain ⟨v, ev, rv⟩ := r2.get (List.getElem?_eq_getElem hi)
    refine ⟨⟨vs, v, h2, ev⟩, fun x H' y => ?_⟩
    obtain ⟨T, x', rfl, hT, rfl, y⟩ := y
    have := y vs h2
    rw [ev] at this
    cases this
    have st := ok2.fresh hT (.tup [.int (i : Nat), v])
    refine ⟨_, st, rfl, rfl, .tup upd_same (.cons (.int _) (.one ?_))⟩
    rw [List.getD_eq_getElem?_getD, List.getElem?_eq_getElem hi]
    exact st.rep rv
  · rw [List.getElem?_eq_none (by simpa using hi)] at ed
    cases ed
def dEnumA (fs : FL) : FL := fun ρ M => (fs ρ M).bind fun ds M => match ds with
  | [.lst es] => .ok (enumL es) M
  | [.fro es] => .ok (enumL es) M
  | [.tup es] => .ok (enumL es) M
  | _ => .bad
theorem x_enumA {tg : Expr} {fs : FL} (h : PI X tg e (iEnumA K (tAF K E fs))) : PI X tg e (tI K E (dEnumA fs)) := PI.wk h fun σ H Q ⟨ρ, w, e1, ok, sr, a⟩ =>
  ⟨ρ, w, e1, ok, sr, a.bind.imp fun ds w1 s1 a1 vs rvs => by
    split at a1
    · cases rvs with
      | cons r1 r2 =>
        cases r2
        cases r1 with
        | lst hs rl => exact ⟨_, _, rfl, .inl ⟨.inl (.inl (s1.ok.sub _ _ hs)), a1 w1 (Step.refl s1.ok) rfl _ (it_enum (.inl (.inl hs)) rl)⟩⟩
    · cases rvs with
      | cons r1 r2 =>
        cases r2
        cases r1 with
        | fro hs rl => exact ⟨_, _, rfl, .inl ⟨s1.ok.sub.seq hs, a1 w1 (Step.refl s1.ok) rfl _ (it_enum hs rl)⟩⟩
    · cases rvs with
      | cons r1 r2 =>
        cases r2
        cases r1 with
        | tup hs rl => exact ⟨_, _, rfl, .inr ⟨.inl (.inl (s1.ok.sub _ _ hs)), a1 w1 (Step.refl s1.ok) rfl _ (it_enumT (.inl (.inl hs)) rl)⟩⟩
    · exact a1.elim⟩
@[simp] theorem dEnumA_eq (fs : FL) (ρ : EnvD) (M : Store) : dEnumA fs ρ M = (fs ρ M).bind fun ds M => match ds with
  | [.lst es] => .ok (enumL es) M
  | [.fro es] => .ok (enumL es) M
  | [.tup es] => .ok (enumL es) M
  | _ => .bad := rfl
/-- x[j] = e, x a list of one's own -/
def sPutO (i : Nat) (f fi : FD) : FS := fun ρ M => (f ρ M).out fun x M => match ρ[i]? with
  | some (.own ds) => (fi ρ M).out fun j M => match j with
    | .int j => match ixN ds.length j with
      | some n => .next (ρ.set i (.own (ds.set n x))) M
      | none => .bad
    | _ => .bad
  | _ => .bad
theorem s_putO {i : Nat} {f fi : FD} (h : PS X st (tAsg (tF K E f) (gSub (tVar i) (tR K E fi) rSetL))) : PS X st (tS K E (sPutO i f fi)) := PS.wk h fun D σ H ⟨ρ, w, w0, e1, s, sr, of, p⟩ =>
  ⟨ρ, w, e1, s.ok, sr, (out_after s p).imp fun x w1 s1 p1 v rv => by
    split at p1
    · rename_i ds e2
      obtain ⟨q, vs, h1, h2, h3, h4, h5⟩ := (sr.step s1).own i ds e2
      refine ⟨_, h1, ρ, w1, rfl, s1.ok, sr.step s1, (out_after (s.trans s1) p1).imp fun j w2 s2 p2 vj rj => ?_⟩
      split at p2
      · rename_i j
        split at p2
        · rename_i n en
          cases int_at rj
          obtain ⟨b1, c1, d1⟩ := s2.keepN q _ h2 h3 h4
          have r1 := s2.repL h5
          refine ⟨q, vs, j, n, rfl, rfl, b1, by rw [h5.length]; exact en, ?_⟩
          obtain ⟨a, b, c⟩ := SR.change (vs := vs) ((s.trans s1).trans s2) ((sr.step s1).step s2) of e2 h1 (r1.set (s2.rep rv) n)
          exact p2 _ σ a (Le.refl _) rfl b c
        · exact p2.elim
      · exact p2.elim
    · exact p1.elim⟩
@[simp] theorem sPutO_eq (i : Nat) (f fi : FD) (ρ : EnvD) (M : Store) : sPutO i f fi ρ M = (f ρ M).out fun x M => match ρ[i]? with
  | some (.own ds) => (fi ρ M).out fun j M => match j with
    | .int j => match ixN ds.length j with
      | some n => .next (ρ.set i (.own (ds.set n x))) M
      | none => .bad
    | _ => .bad
  | _ => .bad := rfl
end
end TP
/-! TPgb: in with any data, max of a list, index in a tuple of texts. -/
namespace TP
open PySem L2
section
variable {X : Cx}
def rInW (K : PySem.W.Frag) (neg : Bool) : R2 := fun x y H Q => (if neg then rNotInA K x y H Q else rInA K x y H Q) ∨ ∃ d e ds, Dp K H x d ∧ Dp K H y e ∧ (e = .list ds ∨ e = .tuple ds) ∧ d.canLay0 = true ∧ PyData.canLayAll0 ds = true ∧ min (PyData.depthAll ds) d.depth ≤ 190 ∧ Q (.bl (if neg then !(ds.any fun z => PyData.eqv z d) else ds.any fun z => PyData.eqv z d)) H
theorem op_inW (hu : X.A.units + 200 < cLine) : OpR X (compareOp .In) (rInW X.K false) := by
  intro pins s σ H x y v u Q I rx ry h
  rcases h with h | ⟨d, e, ds, hd, he, hk, sd, se, hm, q⟩
  · exact op_inA pins s σ H x y v u Q I rx ry h
  · obtain ⟨as, r1⟩ := Dp.reads I d x v hd rx
    obtain ⟨bs, r2⟩ := Dp.reads I e y u he ry
    rcases hk with rfl | rfl
    · exact SeqAt.in_list_reads r2 r1 se sd (by omega) ⟨.bl _, H, I, rfl, q⟩
    · exact SeqAt.in_tuple_reads r2 r1 se sd (by omega) ⟨.bl _, H, I, rfl, q⟩
theorem op_notInW (hu : X.A.units + 200 < cLine) : OpR X (compareOp .NotIn) (rInW X.K true) := by
  intro pins s σ H x y v u Q I rx ry h
  rcases h with h | ⟨d, e, ds, hd, he, hk, sd, se, hm, q⟩
  · exact op_notInA pins s σ H x y v u Q I rx ry h
  · obtain ⟨as, r1⟩ := Dp.reads I d x v hd rx
    obtain ⟨bs, r2⟩ := Dp.reads I e y u he ry
    rcases hk with rfl | rfl
    · exact SeqAt.notIn_list_reads r2 r1 se sd (by omega) ⟨.bl _, H, I, rfl, q⟩
    · exact SeqAt.notIn_tuple_reads r2 r1 se sd (by omega) ⟨.bl _, H, I, rfl, q⟩
end
section
variable {K : PySem.W.Frag} {E : Wish} {X : Cx} {e : Expr} {st : Stmt}
def itemsP : D → Option (List D)
  | .tup ds => some ds
  | .kt ds => some ds
  | .lst ds => some ds
  | .fro ds => some ds
  | _ => none
def anyW (M : Store) (x y : D) : Option Bool := match itemsP (derD M y) with
  | some ds => if goodD (derD M x) && goodL ds && goodD (derD M y) && decide (min (dpL ds) (dpD (derD M x)) ≤ 190) then some (ds.any fun z => eqvD z (derD M x)) else none
  | none => none
def inWD (M : Store) (x y : D) : Option Slot := match inD M x y with
  | some s => some s
  | none => (anyW M x y).map fun b => .val (.bl b)
def notInWD (M : Store) (x y : D) : Option Slot := match notInD M x y with
  | some s => some s
  | none => (anyW M x y).map fun b => .val (.bl (!b))
theorem any_py {d : D} (hd : goodD d = true) : ∀ ds : List D, goodL ds = true → (toPyL ds).any (fun z => PyData.eqv z (toPy d)) = ds.any fun z => eqvD z d
  | [], _ => by rw [toPyL]; rfl
  | x :: ds, h => by
    rw [goodL, Bool.and_eq_true] at h
    rw [toPyL, List.any_cons, List.any_cons, eqv_py x d h.1 hd, any_py hd ds h.2]
theorem anyW_at {w : Wd} (ok : w.Ok K) {vx vy : V} {x y : D} {b : Bool} (rx : RepB K w vx x) (ry : RepB K w vy y) (h : anyW w.M x y = some b) :
    ∃ d e ds, Dp K w.H vx d ∧ Dp K w.H vy e ∧ (e = .list ds ∨ e = .tuple ds) ∧ d.canLay0 = true ∧ PyData.canLayAll0 ds = true ∧ min (PyData.depthAll ds) d.depth ≤ 190 ∧ (ds.any fun z => PyData.eqv z d) = b := by
  unfold anyW at h
  split at h
  · rename_i ds hds
    split at h
    · rename_i hc
      simp only [Bool.and_eq_true, decide_eq_true_eq] at hc
      obtain ⟨⟨⟨h1, h2⟩, h3⟩, h4⟩ := hc
      refine ⟨toPy (derD w.M x), toPy (derD w.M y), toPyL ds, rx.dp ok h1, ry.dp ok h3, ?_, lay_py _ h1, layL_py _ h2, by rw [dp_py _ h1, dpL_py _ h2]; exact h4, ?_⟩
      · cases hq : derD w.M y with
        | tup es => rw [hq] at hds; cases hds; exact .inr (by rw [toPy])
        | kt es => rw [hq, goodD] at h3; cases h3
        | lst es => rw [hq] at hds; cases hds; exact .inl (by rw [toPy])
        | fro es => rw [hq, goodD] at h3; cases h3
        | non => rw [hq] at hds; cases hds
        | bl b => rw [hq] at hds; cases hds
        | int i => rw [hq] at hds; cases hds
        | str z => rw [hq] at hds; cases hds
        | ref k => rw [hq] at hds; cases hds
        | fn c => rw [hq] at hds; cases hds
      · rw [any_py h1 ds h2]; exact Option.some.inj h
    · cases h
  · cases h
theorem p_inW : Prim2 K (rInW K false) inWD := by
  intro w vx vy x y s Q ok rx ry h k
  unfold inWD at h
  split at h
  · rename_i s' hs
    cases h
    exact .inl (p_in w vx vy x y s Q ok rx ry hs k)
  · cases hb : anyW w.M x y with
    | none => rw [hb] at h; cases h
    | some b =>
      rw [hb] at h
      cases h
      obtain ⟨d, e, ds, a1, a2, a3, a4, a5, a6, a7⟩ := anyW_at ok rx ry hb
      exact .inr ⟨d, e, ds, a1, a2, a3, a4, a5, a6, ans ok k fun A G => by rw [if_neg (by decide), a7]; exact .bl _⟩
theorem p_notInW : Prim2 K (rInW K true) notInWD := by
  intro w vx vy x y s Q ok rx ry h k
  unfold notInWD at h
  split at h
  · rename_i s' hs
    cases h
    exact .inl (p_notIn w vx vy x y s Q ok rx ry hs k)
  · cases hb : anyW w.M x y with
    | none => rw [hb] at h; cases h
    | some b =>
      rw [hb] at h
      cases h
      obtain ⟨d, e, ds, a1, a2, a3, a4, a5, a6, a7⟩ := anyW_at ok rx ry hb
      exact .inr ⟨d, e, ds, a1, a2, a3, a4, a5, a6, ans ok k fun A G => by rw [if_pos rfl, a7]; exact .bl _⟩
/-! ### max of a list -/
def maxI : Int → List Int → Int
  | a, [] => a
  | a, b :: l => maxI (if b > a then b else a) l
theorem maxI_max : ∀ (l : List Int) (a m : Int), m ∈ a :: l → (∀ y ∈ a :: l, y ≤ m) → maxI a l = m
  | [], a, m, h, _ => by rw [maxI]; exact (List.mem_singleton.mp h).symm
  | b :: l, a, m, h, hy => by
    rw [maxI]
    have ha := hy a (by simp)
    have hb := hy b (by simp)
    refine maxI_max l _ m ?_ (fun y hm => ?_)
    · rcases List.mem_cons.mp h with rfl | h
      · split
        · have : b = m := by omega
          simp [this]
        · simp
      · rcases List.mem_cons.mp h with rfl | h
        · split
          · simp
          · have : a = m := by omega
            simp [this]
        · exact List.mem_cons_of_mem _ h
    · rcases List.mem_cons.mp hm with rfl | hm
      · split <;> assumption
      · exact hy y (by simp [hm])
def maxLD (M : Store) (ds : List D) : Option Slot := match ds with
  | [x] => match seqOf M x with
    | some es => match intsOf es with
      | some (a :: l) => some (.val (.int (maxI a l)))
      | _ => none
    | none => none
  | _ => none
theorem p_maxL : PrimN K (rMax K) maxLD := by
  intro w vs ds s Q ok r h k
  unfold maxLD at h
  split at h
  · split at h
    · rename_i x es hx
      split at h
      · rename_i a l hi
        cases h
        obtain ⟨v, rfl, rv⟩ := r.one
        obtain ⟨p, us, rfl, hp, rl⟩ := seq_at ok rv hx
        have e := ints_at rl hi
        subst e
        refine ⟨p, a :: l, rfl, hp, by simp, fun m h1 h2 => ?_⟩
        rw [← maxI_max l a m h1 h2]
        exact ans ok k fun A G => .int _
      · cases h
    · cases h
  · cases h
/-! ### t.index(x), t a tuple of texts -/
def idxS (z : Str) : List Str → Option Nat
  | [] => none
  | y :: ys => if y = z then some 0 else (idxS z ys).map (· + 1)
theorem idxS_ok {z : Str} : ∀ {ys : List Str} {j : Nat}, idxS z ys = some j → ys[j]? = some z ∧ ∀ m, m < j → ys[m]? ≠ some z
  | [], j, h => by cases h
  | y :: ys, j, h => by
    rw [idxS] at h
    split at h
    · rename_i e
      cases h
      exact ⟨by simp [e], fun m hm => absurd hm (Nat.not_lt_zero _)⟩
    · rename_i e
      cases hq : idxS z ys with
      | none => rw [hq] at h; cases h
      | some i =>
        rw [hq] at h
        cases h
        obtain ⟨h1, h2⟩ := idxS_ok hq
        refine ⟨by simpa using h1, fun m hm => ?_⟩
        cases m with
        | zero => simpa using e
        | succ m => simpa using h2 m (Nat.lt_of_succ_lt_succ hm)
def tupIdxD (_ : Store) (x : D) (ds : List D) : Option Slot := match x, ds with
  | .tup es, [.str z] => match strsOf es with
    | some ys => (idxS z ys).map fun j => .val (.int (j : Nat))
    | none => none
  | _, _ => none
theorem p_tupIdx : PrimM K (fun x xs H Q => ∃ p, ∃ ys : List Str, ∃ z j, x = .ref p ∧ xs = [.str z] ∧ SqT K H p (ys.map V.str) ∧ ys[j]? = some z ∧ (∀ m, m < j → ys[m]? ≠ some z) ∧ Q (.int (j : Nat)) H) tupIdxD := by
  intro w vx x vs ds s Q ok rx r h k
  unfold tupIdxD at h
  split at h
  · rename_i es z
    split at h
    · rename_i ys hy
      cases hj : idxS z ys with
      | none => rw [hj] at h; cases h
      | some j =>
        rw [hj] at h
        cases h
        obtain ⟨v, rfl, rv⟩ := r.one
        have ez := str_at rv
        subst ez
        obtain ⟨p, us, rfl, hp, rl⟩ := tup_at ok rx
        have e := strs_at rl hy
        subst e
        obtain ⟨h1, h2⟩ := idxS_ok hj
        exact ⟨p, ys, z, j, rfl, rfl, hp, h1, h2, ans ok k fun A G => .int _⟩
    · cases h
  · cases h
end
end TP
/-! TPgc: t[::k] of a tuple, xs.insert(0, x) of a list of the store, list(d) of a dict with tuple keys. -/
namespace TP
open PySem L2
section
open PySem.Spec PyProof.Rows HT
variable {prog : Program} {w : World} {A : Around} {E : Value → Shared → Prop} {s : Shared}
theorem adjust_rev (n : Nat) : Builtin.Slice.sliceAdjust none none (-1) (n : Int) = ((n : Int) - 1, -1) := rfl
theorem places_rev (n : Nat) : Builtin.Slice.slicePlaces ((n : Int) - 1) (-1) (-1) = n := by
  unfold Builtin.Slice.slicePlaces
  have h1 : ¬ ((-1 : Int) > 0) := by decide
  rw [if_neg h1, show (- -1 : Int) = 1 by decide]
  split
  · rw [Int.ediv_one]; omega
  · omega
theorem pick_rev (xs : Array Value) : ((List.range xs.size).filterMap fun (m : Nat) => xs[(((xs.size : Int) - 1) + (m : Int) * (-1)).toNat]?).toArray = xs.toList.reverse.toArray := by
  congr 1
  rw [← PySem.W.krv_all xs, ← List.filterMap_reverse, ← PySem.W.krv_range, List.filterMap_map]
  congr 1
  funext m
  have : (((xs.size : Int) - 1) + (m : Int) * (-1)).toNat = xs.size - 1 - m := by omega
  simp only [Function.comp_apply, this]
theorem sliceApplied_rev {sl : Addr} {vs : Value} {n : Nat} {Q : Int × Int × Nat → Shared → Prop} (hs : s.heap.IsSliceOf sl .none .none vs) (ps : IsPart vs (some (-1)))
    (h : Q ((n : Int) - 1, -1, n) s) : wpAny (model prog w) A (Builtin.Slice.sliceApplied (.ref sl) (pure (n : Int))) Q E s := by
  obtain ⟨os, hos, hcs, hds⟩ := id hs
  unfold Builtin.Slice.sliceApplied Builtin.Slice.sliceFields
  refine wpAny_bind (wpAny_bind (wpAny_field hos hds (x := .none) rfl (wpAny_bind (wpAny_field hos hds (x := .none) rfl (wpAny_bind (wpAny_field hos hds (x := vs) rfl (wpAny_pure ?_)))))))
  refine wpAny_bind (slicePart_ ps ?_)
  show wpAny _ _ (if ((-1 : Int) == 0) = true then _ else _) _ _ s
  rw [if_neg (by decide)]
  refine wpAny_bind (slicePart_none (wpAny_bind (slicePart_none (wpAny_bind (wpAny_pure ?_)))))
  show wpAny _ _ (pure ((n : Int) - 1, (-1 : Int), Builtin.Slice.slicePlaces ((n : Int) - 1) (-1) (-1))) _ _ s
  rw [places_rev]
  exact wpAny_pure h
theorem getItem_tuple_rev {t sl : Addr} {items : Array Value} {vs : Value} {Q : Value → Shared → Prop} (ht : IsTup s.heap t items) (hs : s.heap.IsSliceOf sl .none .none vs) (ps : IsPart vs (some (-1)))
    (h : Q (.ref s.heap.objs.size) { s with heap := s.heap.push { cls := .type "tuple", data := .seq items.toList.reverse.toArray } })
    (hsz : items.size ≤ sizeLine) : wpAny (model prog w) A (getItem (.ref t) (.ref sl)) Q E s := by
  have htake : sizeOk (.seq items.toList.reverse.toArray) := by
    show items.toList.reverse.toArray.size ≤ sizeLine
    rw [List.size_toArray, List.length_reverse, Array.length_toList]
    exact hsz
  obtain ⟨os, hos, hcs, hds⟩ := id hs
  have hTs : s.TypeIs (.ref sl) "slice" := ⟨os, hos, hcs⟩
  unfold getItem
  try with_reducible refine wpAny_holding ?_
  first | refine wpAny_bind (wpAny_pure ?_) | skip
  refine wpAny_bind (wpAny_sequenceKey ht.typeIs (by decide) ?_)
  refine wpAny_bind (wpAny_callSpecial?_slot (name := Str.ofString "__getitem__") ht.typeIs PyProof.Rows.slot_tuple_getitem
    (wpAny_call_entry PyProof.Rows.slot_tuple_getitem ht.typeIs entry_tuple_getitem ?_ (args_tuple_getitem _ _)))
  show wpAny _ _ (Builtin.Tuple.tupleItemsOf (.ref t) >>= _) _ _ s
  refine wpAny_bind (tupleItemsOf_ ht ?_)
  refine wpAny_bind (wpAny_typeOf hTs ?_)
  rw [if_pos (by decide)]
  refine wpAny_bind (sliceApplied_rev hs ps ?_)
  show wpAny _ _ (if ((((items.size : Int) - 1) == 0) && ((-1 : Int) == 1) && (items.size == items.size)) = true then _ else _) _ _ s
  rw [show ((((items.size : Int) - 1) == 0) && ((-1 : Int) == 1) && (items.size == items.size)) = false by simp, if_neg Bool.false_ne_true, pick_rev]
  first
    | exact wpAny_bind (m := Builtin.Tuple.tupleExact _) (wpAny_newObj_type (wpAny_pure ⟨_, rfl, wpAny_pure h⟩) htake)
    | exact wpAny_bind (m := Builtin.Tuple.tupleExact _) (wpAny_newObj_type (wpAny_bind (wpAny_pure (wpAny_pure ⟨_, rfl, wpAny_pure h⟩))) htake)
    | exact wpAny_bind (wpAny_bind (m := Builtin.Tuple.tupleExact _) (wpAny_newObj_type (wpAny_pure (wpAny_pure ⟨_, rfl, wpAny_pure h⟩)) htake))
    | exact wpAny_bind (wpAny_bind (m := Builtin.Tuple.tupleExact _) (wpAny_newObj_type (wpAny_pure ⟨_, rfl, wpAny_pure h⟩) htake))
theorem sliceApplied_one {sl : Addr} {vs : Value} {n : Nat} {Q : Int × Int × Nat → Shared → Prop} (hs : s.heap.IsSliceOf sl .none .none vs) (ps : IsPart vs (some 1))
    (h : Q (0, 1, n) s) : wpAny (model prog w) A (Builtin.Slice.sliceApplied (.ref sl) (pure (n : Int))) Q E s := by
  obtain ⟨os, hos, hcs, hds⟩ := id hs
  unfold Builtin.Slice.sliceApplied Builtin.Slice.sliceFields
  refine wpAny_bind (wpAny_bind (wpAny_field hos hds (x := .none) rfl (wpAny_bind (wpAny_field hos hds (x := .none) rfl (wpAny_bind (wpAny_field hos hds (x := vs) rfl (wpAny_pure ?_)))))))
  refine wpAny_bind (slicePart_ ps ?_)
  show wpAny _ _ (if ((1 : Int) == 0) = true then _ else _) _ _ s
  rw [if_neg (by decide)]
  refine wpAny_bind (slicePart_none (wpAny_bind (slicePart_none (wpAny_bind (wpAny_pure ?_)))))
  show wpAny _ _ (pure ((0 : Int), (1 : Int), Builtin.Slice.slicePlaces ((0 : Nat) : Int) (n : Int) 1)) _ _ s
  rw [places_gen]
  exact wpAny_pure h
theorem getItem_tuple_one {t sl : Addr} {items : Array Value} {vs : Value} {Q : Value → Shared → Prop} (ht : IsTup s.heap t items) (hs : s.heap.IsSliceOf sl .none .none vs) (ps : IsPart vs (some 1))
    (h : Q (.ref t) s) : wpAny (model prog w) A (getItem (.ref t) (.ref sl)) Q E s := by
  obtain ⟨os, hos, hcs, hds⟩ := id hs
  have hTs : s.TypeIs (.ref sl) "slice" := ⟨os, hos, hcs⟩
  unfold getItem
  try with_reducible refine wpAny_holding ?_
  first | refine wpAny_bind (wpAny_pure ?_) | skip
  refine wpAny_bind (wpAny_sequenceKey ht.typeIs (by decide) ?_)
  refine wpAny_bind (wpAny_callSpecial?_slot (name := Str.ofString "__getitem__") ht.typeIs PyProof.Rows.slot_tuple_getitem
    (wpAny_call_entry PyProof.Rows.slot_tuple_getitem ht.typeIs entry_tuple_getitem ?_ (args_tuple_getitem _ _)))
  show wpAny _ _ (Builtin.Tuple.tupleItemsOf (.ref t) >>= _) _ _ s
  refine wpAny_bind (tupleItemsOf_ ht ?_)
  refine wpAny_bind (wpAny_typeOf hTs ?_)
  rw [if_pos (by decide)]
  refine wpAny_bind (sliceApplied_one hs ps ?_)
  show wpAny _ _ (if (((0 : Int) == 0) && ((1 : Int) == 1) && (items.size == items.size)) = true then _ else _) _ _ s
  rw [if_pos (by simp)]
  refine wpAny_bind ?_
  show wpAny _ _ (typeOf (.ref t) >>= fun T => pure (T == .type "tuple")) _ _ s
  refine wpAny_bind (wpAny_typeOf ht.typeIs (wpAny_pure ?_))
  rw [if_pos (by decide)]
  first
    | exact wpAny_bind (wpAny_pure ⟨_, rfl, wpAny_pure h⟩)
    | exact wpAny_pure ⟨_, rfl, wpAny_pure h⟩
    | (wp_walk; exact ⟨_, rfl, wpAny_pure h⟩)
    | (wp_walk; exact ⟨_, rfl, h⟩)
end
/-! ### t[::k], k 1 or -1 -/
def tStepT (K : PySem.W.Frag) (te ts : TE) : TE := fun σ H Q => te σ H fun x H1 => tPart ts σ H1 fun o H2 => ∃ (a : Addr) (xs : List V) (k : Int), x = .ref a ∧ o = some k ∧ (k = 1 ∨ k = -1) ∧ SqT K H2 a xs ∧ (k = 1 → Q (.ref a) H2) ∧ (k = -1 → ∀ p, H2 p = none → Q (.ref p) (upd H2 p (.tup xs.reverse)))
section
variable {X : Cx} {e st : Expr} {te ts : TE}
open PySem.Spec PyProof.Rows in
theorem pe_stepT {p3 pos : Pos} (he : PE X e te) (hs : PE X st ts) : PE X (.Subscript e (.Slice none none (some st) p3) pos) (tStepT X.K te ts) := by
  refine ⟨fun pins s σ H Q I h => ?_⟩
  refine Subscript_ (thn (he.run pins s σ H _ I h) fun v s1 ⟨x, H1, I1, r1, q1⟩ => ?_)
  have hst : PO X (some st) (tPart ts) := po_some hs
  refine wpAny_Slice (thn (po_none.run pins s1 σ H1 (fun o H2 => o = none ∧ H2 = H1) I1 ⟨rfl, rfl⟩) fun vl s2 ⟨l, H2, I2, pl, el, e2⟩ => ?_)
  subst el e2
  refine thn (po_none.run pins s2 σ H2 (fun o H3 => o = none ∧ H3 = H2) I2 ⟨rfl, rfl⟩) fun vu s3 ⟨u, H3, I3, pu, eu, e3⟩ => ?_
  subst eu e3
  refine thn (hst.run pins s3 σ H3 _ I3 q1) fun vs s4 ⟨o, H4, I4, ps, a, xs, k, ex, eo, hk, hx, qa, qb⟩ => ?_
  subst ex eo
  cases r1
  cases pl
  cases pu
  have I5 : Inv X pins σ H4 { s4 with heap := s4.heap.push { cls := .type "slice", data := .fields #[.none, .none, vs] } } := I4.kept (t' := s4.toks) fun b ob q => Heap.get?_push_of_some _ q
  obtain ⟨its, r, ht, hz⟩ := I5.tuple hx
  have hlen := r.length
  show wpAny (model X.prog X.w) X.A (subscriptTail e (.Slice none none (some st) p3) (.ref a) (.ref s4.heap.objs.size)) (EP X pins σ Q) X.xe { s4 with heap := s4.heap.push { cls := .type "slice", data := .fields #[.none, .none, vs] } }
  refine tail_any (ops := [.ref a, .ref s4.heap.objs.size]) ht.typeIs (PyProof.Rows.slot_tuple_getitem.lookup) ?_ (by with_unfolding_all rfl)
  rcases hk with rfl | rfl
  · exact getItem_tuple_one ht (Heap.IsSliceOf.new _ .none .none vs) ps ⟨.ref a, H4, I5, rfl, qa rfl⟩
  · refine getItem_tuple_rev ht (Heap.IsSliceOf.new _ .none .none vs) ps ?_ (by rw [List.size_toArray]; omega)
    refine ⟨.ref _, _, I5.laid (t' := s4.toks) (o := .tup xs.reverse) (fun b ob q => Heap.get?_push_of_some _ q) (Nat.le_refl _) ?_, rfl, by simpa using qb rfl _ (I5.hok.fresh (Nat.le_refl _))⟩
    exact ⟨by rw [List.length_reverse]; exact hz, _, r.reverse, IsTup.new _ _⟩
end
section
variable {K : PySem.W.Frag} {E : Wish} {X : Cx} {e : Expr} {st : Stmt}
def dStepT (fe fs : FD) : FE := fun ρ M => (fe ρ M).bind fun x M => (fs ρ M).bind fun y M => match x with
  | .tup xs => match stepD xs y with
    | some zs => .ok (.val (.tup zs)) M
    | none => .bad
  | _ => .bad
theorem x_stepT {fe fs : FD} (h : PE X e (tStepT K (tR K E fe) (tR K E fs))) : PE X e (tE K E (dStepT fe fs)) := PE.wk h fun σ H Q ⟨ρ, w, e1, ok, sr, a⟩ =>
  ⟨ρ, w, e1, ok, sr, a.bind.imp fun x w1 s1 a1 v1 r1 => ⟨ρ, w1, rfl, s1.ok, sr.step s1, a1.bind.imp fun y w2 s2 a2 v2 r2 => by
    split at a2
    · rename_i xs
      split at a2
      · rename_i zs hz
        cases y with
        | int k =>
          have r1' := r1.step s2
          obtain ⟨p, vs, rfl, hp, rl⟩ := tup_at s2.ok r1'
          have e2 := int_at r2
          have a3 : ∀ w', Step K w2 w' → w'.M = w2.M → ∀ v, RepX K w w' v (.val (.tup zs)) → Q v w'.H := a2
          unfold stepD at hz
          simp only at hz
          have hk : k = 1 ∨ k = -1 := by
            by_cases h1 : k = 1
            · exact .inl h1
            · by_cases h2 : k = -1
              · exact .inr h2
              · rw [if_neg h1, if_neg h2] at hz; cases hz
          refine ⟨k, e2, p, vs, k, rfl, rfl, hk, hp, fun h1 => ?_, fun h1 n hn => ?_⟩
          · rw [if_pos h1] at hz; cases hz
            rcases r1' with r1' | ⟨_, _, _, _, e, _⟩
            · exact a3 w2 (Step.refl s2.ok) rfl _ r1'
            · cases e
          · rw [if_neg (by omega), if_pos h1] at hz; cases hz
            have s3 := s2.ok.fresh hn (.tup vs.reverse)
            exact a3 _ s3 rfl _ (.tup upd_same (s3.repL rl.reverse))
        | _ => cases hz
      · exact a2.elim
    · exact a2.elim⟩⟩
/-! ### xs.insert(0, e), xs a list of the store -/
def rIns : V → List V → Hp → VK → Prop := fun x vs H Q => ∃ (l : Addr) (xs : List V) (i : Int) (y : V), x = .ref l ∧ vs = [.int i, y] ∧ H l = some (.lst xs) ∧ xs.length < sizeLine ∧ 0 ≤ i ∧ i < 2 ^ 63 ∧
    Q .non (upd H l (.lst (xs.take i.toNat ++ [y] ++ xs.drop i.toNat)))
def sInsR (fo f : FD) : FS := fun ρ M => (fo ρ M).out fun x M => match x with
  | .ref k => match M[k]? with
    | some (.lst _) => (f ρ M).out fun y M => match M[k]? with
      | some (.lst ds) => if ds.length < sizeLine then .next ρ (M.set k (.lst (y :: ds))) else .bad
      | _ => .bad
    | _ => .bad
  | _ => .bad
theorem s_insR {fo f : FD} (h : PS X st (tDrop (tBM K "list" rIns (tR K E fo) (tCons (tC (.int 0)) (tCons (tF K E f) tNil))))) : PS X st (tS K E (sInsR fo f)) := PS.wk h fun D σ H ⟨ρ, w, w0, e1, s, sr, of, p⟩ =>
  ⟨ρ, w, e1, s.ok, sr, (out_after s p).imp fun x w1 s1 p1 vx rx => by
    split at p1
    · rename_i k
      split at p1
      · rename_i ds0 e0
        obtain ⟨q, rfl, ea⟩ := ref_at rx
        obtain ⟨q', ea', vs0, hH0, _⟩ := s1.ok.mos k _ e0
        rw [ea] at ea'
        cases ea'
        refine ⟨.inl ⟨rfl, vs0, .inl (.inl hH0)⟩, ρ, w1, rfl, s1.ok, sr.step s1, (out_after (s.trans s1) p1).imp fun y w2 s2 p2 vy ry => ?_⟩
        split at p2
        · rename_i ds e2
          split at p2
          · rename_i hz
            have ea2 : w2.A[k]? = some q := pre_get s2.pre ea
            obtain ⟨q', ea', vs, hH, rl⟩ := s2.ok.mos k _ e2
            rw [ea2] at ea'
            cases ea'
            refine ⟨q, vs, 0, vy, rfl, rfl, hH, by rw [rl.length]; exact hz, by decide, by decide, ?_⟩
            have st3 := s2.ok.put (o := .lst (y :: ds)) (ho := .lst (vy :: vs)) ea2 ⟨_, upd_same, .cons ry rl⟩
            exact p2 _ σ (((s.trans s1).trans s2).trans st3) st3.le rfl (((sr.step s1).step s2).step st3) of
          · exact p2.elim
        · exact p2.elim
      · exact p1.elim
    · exact p1.elim⟩
/-! ### list(d), d a dict with tuple keys -/
def keyT : Key → D
  | .inl i => .int i
  | .inr x => .str x
def keysT (kvs : List (List Key × D)) : List D := kvs.map fun kv => .tup (kv.1.map keyT)
def listTD (M : Store) (ds : List D) : Option Slot := match ds with
  | [.ref k] => match M[k]? with
    | some (.dT kvs) => some (.own (keysT kvs))
    | _ => listD M ds
  | _ => listD M ds
theorem keyT_rep {A : List Addr} {G : Hp} : ∀ ks : List Key, RepL K A G (ks.map kV) (ks.map keyT)
  | [] => .nil
  | .inl i :: ks => .cons (.int i) (keyT_rep ks)
  | .inr x :: ks => .cons (.str x) (keyT_rep ks)
theorem keysT_rep {R : V → D → Prop} {A : List Addr} {G H : Hp} : ∀ {vs : List (List Key × V)} {kvs : List (List Key × D)} {bs : List Addr}, RepKV R vs kvs → IsKeys H vs bs → (∀ b ∈ bs, ∀ o, H b = some o → G b = some o) → RepL K A G (bs.map V.ref) (keysT kvs)
  | _, _, _, .nil, .nil, _ => .nil
  | _, _, _, .cons r t, .cons h1 h2, hb => .cons (.tup (hb _ List.mem_cons_self _ h1) (keyT_rep _)) (keysT_rep t h2 fun b m => hb b (List.mem_cons_of_mem _ m))
theorem isKeys_at {H : Hp} : ∀ {vs : List (List Key × V)} {bs : List Addr}, IsKeys H vs bs → ∀ b ∈ bs, ∃ xs, H b = some (.tup xs)
  | _, _, .nil, b, m => by cases m
  | _, _, .cons h1 h2, b, m => by
    rcases List.mem_cons.mp m with rfl | m
    · exact ⟨_, h1⟩
    · exact isKeys_at h2 b m
open Classical in
/-- tuples that stand somewhere are frozen -/
theorem Wd.Ok.freezes {w : Wd} (h : w.Ok K) {bs : List Addr} (hb : ∀ b ∈ bs, ∃ xs, w.H b = some (.tup xs)) : Step K w ⟨w.A, fun b => if b ∈ bs then w.H b else w.G b, w.M, w.H⟩ := by
  have sG : Same w.G (fun b => if b ∈ bs then w.H b else w.G b) := fun b u e => by
    by_cases m : b ∈ bs
    · show (if b ∈ bs then w.H b else w.G b) = some u
      rw [if_pos m]; exact h.sub _ _ e
    · show (if b ∈ bs then w.H b else w.G b) = some u
      rw [if_neg m]; exact e
  have notA : ∀ a ∈ w.A, a ∉ bs := fun a ha m => by
    obtain ⟨xs, e⟩ := hb a m
    obtain ⟨k, hk, e2⟩ := List.mem_iff_getElem.mp ha
    have hk' : k < w.M.length := by rw [← h.len]; exact hk
    obtain ⟨a', ea, r⟩ := h.mos k w.M[k] (List.getElem?_eq_getElem hk')
    have e3 : a' = a := by
      rw [List.getElem?_eq_getElem hk] at ea
      exact (Option.some.inj ea).symm.trans e2
    subst e3
    cases q : w.M[k] with
    | lst ds => rw [q] at r; obtain ⟨_, z, _⟩ := r; rw [e] at z; cases z
    | dK ds => rw [q] at r; obtain ⟨_, z, _⟩ := r; rw [e] at z; cases z
    | dT ds => rw [q] at r; obtain ⟨_, z, _⟩ := r; rw [e] at z; cases z
    | ins c fs => rw [q] at r; obtain ⟨_, _, _, z, _⟩ := r; rw [e] at z; cases z
    | exc c d => rw [q] at r; obtain ⟨_, z, _⟩ := r; rw [e] at z; cases z
  have rr : ∀ v d, Rep K w.A w.G v d → Rep K w.A (fun b => if b ∈ bs then w.H b else w.G b) v d := fun v d => Rep.mono (List.prefix_refl _) sG d v
  refine ⟨⟨fun b u e => ?_, h.nd, h.len, fun a ha => ?_, fun k m e => ?_⟩, List.prefix_refl _, sG, fun p o h1 h2 h3 => ⟨h1, ?_, h3⟩⟩
  · have e' : (if b ∈ bs then w.H b else w.G b) = some u := e
    by_cases m : b ∈ bs
    · rw [if_pos m] at e'; exact e'
    · rw [if_neg m] at e'; exact h.sub _ _ e'
  · show (if a ∈ bs then w.H a else w.G a) = none
    rw [if_neg (notA a ha)]; exact h.out a ha
  · obtain ⟨a, ea, r⟩ := h.mos k m e
    refine ⟨a, ea, ?_⟩
    cases m with
    | lst ds => obtain ⟨vs, z, q⟩ := r; exact ⟨vs, z, RepL.mono (List.prefix_refl _) sG _ _ q⟩
    | dK ds => obtain ⟨vs, z, q⟩ := r; exact ⟨vs, z, q.imp rr⟩
    | dT ds => obtain ⟨vs, z, q⟩ := r; exact ⟨vs, z, q.imp rr⟩
    | ins c fs => obtain ⟨io, vs, dx, z, q⟩ := r; exact ⟨io, vs, dx, z, q.imp rr⟩
    | exc c d => exact exc_mono r (fun _ z => z) (List.prefix_refl _) sG
  · by_cases m : p ∈ bs
    · obtain ⟨xs, e⟩ := hb p m
      rw [h1] at e
      exact .inr ⟨xs, Option.some.inj e⟩
    · refine .inl ?_
      show (if p ∈ bs then w.H p else w.G p) = none
      rw [if_neg m]; exact h2
theorem p_listT : PrimN K (fun xs H Q => (∃ p ys, xs = [.ref p] ∧ (SqL K H p ys ∨ SqT K H p ys) ∧ ∀ l, H l = none → Q (.ref l) (upd H l (.lst ys))) ∨
    ∃ d kvs, xs = [V.ref d] ∧ Rd H d (.dT kvs) ∧ ∀ p bs, H p = none → IsKeys H kvs bs → Q (.ref p) (upd H p (.lst (bs.map V.ref)))) listTD := by
  intro w vs ds s Q ok rl h k
  by_cases hc : ∃ j kvs, ds = [.ref j] ∧ w.M[j]? = some (.dT kvs)
  · obtain ⟨j, kvs, rfl, e⟩ := hc
    have h' : some (Slot.own (keysT kvs)) = some s := by
      rw [← h]; unfold listTD; simp only [e]
    cases h'
    obtain ⟨v, rfl, rv⟩ := rl.one
    obtain ⟨a, rfl, ea⟩ := ref_at rv
    obtain ⟨a', ea', us, hH, rk⟩ := ok.mos j _ e
    rw [ea] at ea'; cases ea'
    refine .inr ⟨a, us, rfl, .inl hH, fun p bs hp hk => ?_⟩
    have s1 := ok.freezes (isKeys_at hk)
    have s2 := s1.trans (s1.ok.fresh0 hp (.lst (bs.map V.ref)))
    refine k _ _ s2 rfl (own_new s1 hp ?_)
    exact keysT_rep rk hk fun b m o e => by
      show (if b ∈ bs then w.H b else w.G b) = some o
      rw [if_pos m]; exact e
  · have h' : listD w.M ds = some s := by
      rw [← h]; unfold listTD
      split
      · split
        · rename_i j kvs e; exact absurd ⟨_, _, rfl, e⟩ hc
        · rfl
      · rfl
    exact .inl (p_list w vs ds s Q ok rl h' k)
variable {ρ : EnvD} {M : Store}
@[simp] theorem dStepT_eq (fe fs : FD) : dStepT fe fs ρ M = (fe ρ M).bind fun x M => (fs ρ M).bind fun y M => match x with
  | .tup xs => match stepD xs y with
    | some zs => .ok (.val (.tup zs)) M
    | none => .bad
  | _ => .bad := rfl
@[simp] theorem sInsR_eq (fo f : FD) : sInsR fo f ρ M = (fo ρ M).out fun x M => match x with
  | .ref k => match M[k]? with
    | some (.lst _) => (f ρ M).out fun y M => match M[k]? with
      | some (.lst ds) => if ds.length < sizeLine then .next ρ (M.set k (.lst (y :: ds))) else .bad
      | _ => .bad
    | _ => .bad
  | _ => .bad := rfl
end
end TP
/-! TPgd: max(xs, default=k). The two loops are MinMaxWalk's, with the keyword along. -/
namespace TP
open PySem L2
section
open PySem.Spec PyProof.Rows
variable {prog : Program} {w : World} {A : Around} {R : Result → Shared → Prop} {I : Addr} {fp wr : List Addr} {n : Nat} {P : Nat → Value → Prop} {St : Nat → Heap → Prop} {d : Value}
theorem codeAny_max_loopK (W : Walks prog w A.in1 I fp wr n P St) (bt : Nat → Nat → Bool) (hcmp : CmpOf prog w A.in1 .Gt P bt) (S : Addr) (hSf : S ∉ fp) :
    ∀ (k j : Nat) (s : Shared) (vb : Value) (c : Nat), n - (j + 1) = k → j + 1 ≤ n → St (j + 1) s.heap → P (argBest bt j) vb →
    s.heap.get? S = some { cls := .type "list", dict := none, data := .seq #[vb, vb] c, slots := #[] } →
    (∀ v h' tk, P (argBest bt (n - 1)) v → (∀ b o, b ∉ wr → b ≠ S → s.heap.get? b = some o → h'.get? b = some o) → R (.ok (.ret v)) { s with heap := h', toks := tk }) →
    codeAny (model prog w) A (.builtin "max.loop" ⟨[.ref I, .none, .ref S], [(Str.ofString "default", d)]⟩) R s := by
  have hSw : S ∉ wr := fun h => hSf (W.sub _ h)
  have hname : (toString "max" ++ toString ".loop" : String) = "max.loop" := by decide
  intro k
  induction k with
  | zero =>
    intro j s vb c hk hj hst hPb hS hR
    have hin : j + 1 = n := by omega
    refine codeAny_builtin F.entry_max_loop ?_
    rw [Around.under_plainId F.plain_max_loop _]
    show wpAny _ A.in1 (seqItems? (.ref S) >>= _) _ _ s
    refine wpAny_bind (wpAny_seqItems hS rfl ?_)
    show wpAny _ A.in1 (tryCatch (pyNext (.ref I)) _ >>= _) _ _ s
    refine wpAny_bind (wpAny_tryCatch (W.done s _ _ (hin ▸ hst) fun h' tk hk' => ?_))
    have hS' := hk' S _ hSw hS
    show wpAny _ A.in1 (updateSeq S (fun _ => #[]) >>= _) _ _ _
    refine wpAny_bind ?_
    refine wpAny_updateSeq hS' rfl (wpAny_bind (wpAny_letGo (wpAny_pure ?_)))
    refine hR vb _ tk (by rw [← hin]; exact hPb) fun b o hbw hbS e => (Heap.get?_update_other _ _ (Ne.symm hbS)).trans (hk' b o hbw e)
  | succ k ih =>
    intro j s vb c hk hj hst hPb hS hR
    have hlt : j + 1 < n := by omega
    refine codeAny_builtin F.entry_max_loop ?_
    rw [Around.under_plainId F.plain_max_loop _]
    show wpAny _ A.in1 (seqItems? (.ref S) >>= _) _ _ s
    refine wpAny_bind (wpAny_seqItems hS rfl ?_)
    show wpAny _ A.in1 (tryCatch (pyNext (.ref I)) _ >>= _) _ _ s
    refine wpAny_bind (wpAny_tryCatch (W.item (j + 1) s _ _ hlt hst fun v h' tk hP hst' hk' => ?_))
    have hS' := hk' S _ hSw hS
    show wpAny _ A.in1 (tryCatch (holding [v, v] (richCompare .Gt v vb >>= _)) _ >>= _) _ _ _
    refine wpAny_bind (wpAny_tryCatch (wpAny_holding (wpAny_bind (hcmp (j + 1) (argBest bt j) v vb _ _ _ hP hPb ?_))))
    refine wpAny_bind (wpAny_holding (wpAny_truthy_bool ?_))
    refine wpAny_bind (wpAny_letGo (wpAny_pure ?_))
    cases hb : bt (j + 1) (argBest bt j) with
    | true =>
      simp only [if_true]
      refine wpAny_bind ?_
      refine wpAny_updateSeq hS' rfl (wpAny_bind (wpAny_letGo ?_))
      rw [hname]
      refine wpAny_pure ⟨plainId_quiet F.plain_max_loop _, ih (j + 1) _ v _ (by omega) hlt (W.frame _ _ _ hst' fun b hbf o e => ?_) (by simp only [argBest, hb, if_true]; exact hP) (Heap.get?_update_self _ hS' rfl)
        fun v' h'' tk'' hP' hk'' => ?_⟩
      · exact (Heap.get?_update_other _ _ (fun h : S = b => hSf (by rw [h]; exact hbf))).trans e
      · exact hR v' h'' tk'' hP' fun b o hbw hbS e => hk'' b o hbw hbS ((Heap.get?_update_other _ _ (Ne.symm hbS)).trans (hk' b o hbw e))
    | false =>
      simp only [Bool.false_eq_true, if_false]
      refine wpAny_bind (wpAny_letGo ?_)
      rw [hname]
      refine wpAny_pure ⟨plainId_quiet F.plain_max_loop _, ih (j + 1) _ vb c (by omega) hlt hst' (by simp only [argBest, hb, Bool.false_eq_true, if_false]; exact hPb) hS' fun v' h'' tk'' hP' hk'' => ?_⟩
      exact hR v' h'' tk'' hP' fun b o hbw hbS e => hk'' b o hbw hbS (hk' b o hbw e)

theorem codeAny_max_loopK_first (W : Walks prog w A.in1 I fp wr n P St) (bt : Nat → Nat → Bool) (hcmp : CmpOf prog w A.in1 .Gt P bt) (S : Addr) (hSf : S ∉ fp) (hn : 0 < n) {s : Shared} {c : Nat} (hst : St 0 s.heap)
    (hS : s.heap.get? S = some { cls := .type "list", dict := none, data := .seq #[] c, slots := #[] })
    (hR : ∀ v h' tk, P (argBest bt (n - 1)) v → (∀ b o, b ∉ wr → b ≠ S → s.heap.get? b = some o → h'.get? b = some o) → R (.ok (.ret v)) { s with heap := h', toks := tk }) :
    codeAny (model prog w) A (.builtin "max.loop" ⟨[.ref I, .none, .ref S], [(Str.ofString "default", d)]⟩) R s := by
  have hSw : S ∉ wr := fun h => hSf (W.sub _ h)
  have hname : (toString "max" ++ toString ".loop" : String) = "max.loop" := by decide
  refine codeAny_builtin F.entry_max_loop ?_
  rw [Around.under_plainId F.plain_max_loop _]
  show wpAny _ A.in1 (seqItems? (.ref S) >>= _) _ _ s
  refine wpAny_bind (wpAny_seqItems hS rfl ?_)
  show wpAny _ A.in1 (tryCatch (pyNext (.ref I)) _ >>= _) _ _ s
  refine wpAny_bind (wpAny_tryCatch (W.item 0 s _ _ hn hst fun v h' tk hP hst' hk' => ?_))
  have hS' := hk' S _ hSw hS
  show wpAny _ A.in1 (updateSeq S (fun _ => #[v, v]) >>= _) _ _ _
  refine wpAny_bind ?_
  refine wpAny_updateSeq hS' rfl ?_
  rw [hname]
  refine wpAny_pure ⟨plainId_quiet F.plain_max_loop _, codeAny_max_loopK W bt hcmp S hSf _ 0 _ v _ rfl hn (W.frame _ _ _ hst' fun b hbf o e => ?_) hP (Heap.get?_update_self _ hS' rfl) fun v' h'' tk'' hP' hk'' => ?_⟩
  · exact (Heap.get?_update_other _ _ (fun h : S = b => hSf (by rw [h]; exact hbf))).trans e
  · exact hR v' h'' tk'' hP' fun b o hbw hbS e => hk'' b o hbw hbS ((Heap.get?_update_other _ _ (Ne.symm hbS)).trans (hk' b o hbw e))

theorem codeAny_max_loopK_none (W : Walks prog w A.in1 I fp wr 0 P St) (S : Addr) {s : Shared} {c : Nat} (hst : St 0 s.heap)
    (hS : s.heap.get? S = some { cls := .type "list", dict := none, data := .seq #[] c, slots := #[] })
    (hR : ∀ h' tk, (∀ b o, b ∉ wr → b ≠ S → s.heap.get? b = some o → h'.get? b = some o) → R (.ok (.ret d)) { s with heap := h', toks := tk }) :
    codeAny (model prog w) A (.builtin "max.loop" ⟨[.ref I, .none, .ref S], [(Str.ofString "default", d)]⟩) R s := by
  refine codeAny_builtin F.entry_max_loop ?_
  rw [Around.under_plainId F.plain_max_loop _]
  show wpAny _ A.in1 (seqItems? (.ref S) >>= _) _ _ s
  refine wpAny_bind (wpAny_seqItems hS rfl ?_)
  show wpAny _ A.in1 (tryCatch (pyNext (.ref I)) _ >>= _) _ _ s
  refine wpAny_bind (wpAny_tryCatch (W.done s _ _ hst fun h' tk hk' => ?_))
  show wpAny _ A.in1 (rule _ >>= _) _ _ _
  refine wpAny_bind (wpAny_rule ?_)
  exact wpAny_pure (hR h' tk fun b o hbw _ e => hk' b o hbw e)
end
section
open PySem.Spec PyProof.Rows
variable {prog : Program} {w : World} {A : Around} {E : Value → Shared → Prop} {s : Shared} {d : Value}
theorem args_maxK (a d : Value) : argsOk "max" ⟨[a], [(Str.ofString "default", d)]⟩ := by unfold argsOk; kernel_rfl
theorem call_function_treeK {id : String} {b : Builtin} {args : List Value} {kw : List (Str × Value)} {Q : Value → Shared → Prop} (hk : builtinKind id = none) (hp : plainId id = true)
    (hb : entryFor table id = some b) (ha : argsOk id ⟨args, kw⟩)
    (hc : wpAny (model prog w) A.in1 (b ⟨args, kw⟩) (fun fin s' => match fin with
      | .done f => (match (Except.ok f : Result) with | .ok (.ret v) => Q v s' | .ok _ => False | .error e => E e s')
      | .again c' => c'.quiet = true ∧ codeAny (model prog w) A c' (fun r s' => match r with | .ok (.ret v) => Q v s' | .ok _ => False | .error e => E e s') s') E s) :
    wpAny (model prog w) A (call (.builtin id) args kw) Q E s := by
  refine wpAny_call (codeAny_call_builtin hp hb ?_)
  simp only [checkBuiltinCall, hk]
  cases hsig : Manifest.signature? id with
  | none => exact wpAny_pure hc
  | some sig =>
    simp only [argsOk, hsig] at ha
    have h2 : Bind.checkArgs id sig ⟨args, kw⟩ = pure () := ha
    show wpAny _ A.in1 (Bind.checkArgs id sig ⟨args, kw⟩) _ _ s
    rw [h2]; exact wpAny_pure hc
theorem call_maxK_walk {x : Value} {Q : Value → Shared → Prop}
    (h : wpAny (model prog w) A.in1 (pyIter x) (fun it s₂ => ∃ I fp wr n P St bt, it = .ref I ∧ Walks prog w A.in1 I fp wr n P St ∧ St 0 s₂.heap ∧ (∀ b ∈ fp, b < s₂.heap.objs.size) ∧ CmpOf prog w A.in1 .Gt P bt ∧
      (0 < n → ∀ v h' tk, P (argBest bt (n - 1)) v → (∀ b o, b ∉ wr → s₂.heap.get? b = some o → h'.get? b = some o) → Q v { s₂ with heap := h', toks := tk }) ∧
      (n = 0 → ∀ h' tk, (∀ b o, b ∉ wr → s₂.heap.get? b = some o → h'.get? b = some o) → Q d { s₂ with heap := h', toks := tk })) E s) :
    wpAny (model prog w) A (call (.builtin "max") [x] [(Str.ofString "default", d)]) Q E s := by
  have hname : (toString "max" ++ toString ".loop" : String) = "max.loop" := by decide
  refine call_function_treeK F.kind_max F.plain_max F.entry_max (args_maxK _ _) ?_
  show wpAny _ A.in1 (Builtin.Builtins.bindParams "max" ["key", "default"] 0 ⟨[], [(Str.ofString "default", d)]⟩ >>= _) _ _ s
  refine wpAny_bind (wpAny_of_eq (show Builtin.Builtins.bindParams "max" ["key", "default"] 0 ⟨[], [(Str.ofString "default", d)]⟩ = pure [none, some d] from rfl) ?_)
  refine wpAny_bind (wpAny_pure ?_)
  refine wpAny_bind (wpAny_mono h (fun it s₂ h₂ => ?_) fun _ _ e => e)
  obtain ⟨I, fp, wr, n, P, St, bt, rfl, W, hst, hfp, hcmp, hQ, hQ0⟩ := h₂
  refine wpAny_bind (wpAny_newObj_type ?_)
  have hSf : s₂.heap.objs.size ∉ fp := fun hm => Nat.lt_irrefl _ (hfp _ hm)
  rw [hname]
  refine wpAny_pure ⟨plainId_quiet F.plain_max_loop _, ?_⟩
  rcases Nat.eq_zero_or_pos n with h0 | hn
  · subst h0
    refine codeAny_max_loopK_none W s₂.heap.objs.size (W.frame _ _ _ hst fun b _ o e => Heap.get?_push_of_some _ e) (Heap.get?_push_size _ rfl) fun h' tk hk => ?_
    exact hQ0 rfl h' tk fun b o hbw e => hk b o hbw (Nat.ne_of_lt (Heap.lt_size e)) (Heap.get?_push_of_some _ e)
  · refine codeAny_max_loopK_first W bt hcmp s₂.heap.objs.size hSf hn (W.frame _ _ _ hst fun b _ o e => Heap.get?_push_of_some _ e) (Heap.get?_push_size _ rfl) fun v h' tk hP hk => ?_
    exact hQ hn v h' tk hP fun b o hbw e => hk b o hbw (Nat.ne_of_lt (Heap.lt_size e)) (Heap.get?_push_of_some _ e)
theorem maxK_intList {l : Addr} {xs : Array (Int × Tok)} {Q : Value → Shared → Prop} (hh : A.handled = none) (hl : s.heap.IsList l (intItems xs))
    (h : 0 < xs.size → ∀ v h' tk, (intItems xs)[argBest (fun i j => decide (numAt xs i > numAt xs j)) (xs.size - 1)]? = some v → (∀ b o, s.heap.get? b = some o → h'.get? b = some o) → Q v { s with heap := h', toks := tk })
    (h0 : xs.size = 0 → ∀ h' tk, (∀ b o, s.heap.get? b = some o → h'.get? b = some o) → Q d { s with heap := h', toks := tk }) :
    wpAny (model prog w) A (call (.builtin "max") [.ref l] [(Str.ofString "default", d)]) Q E s := by
  refine call_maxK_walk (iter_intList hl fun s₂ e st hfp hlI => ?_)
  subst e
  have hz : (intItems xs).size = xs.size := by simp [intItems]
  refine ⟨_, _, _, _, _, _, _, rfl, Walks.list (A := A.in1) hh _ l hlI (intItems xs), st, hfp, CmpOf.ints_gt (numAt xs) (fun _ _ => intItems_at), fun hn v h' tk hP hk => ?_, fun hn h' tk hk => ?_⟩
  · exact h (by omega) v h' tk (by rw [← hz]; exact hP) (old_kept hk)
  · exact h0 (by omega) h' tk (old_kept hk)
theorem maxK_raw {l : Addr} {its : List Value} {ns : List Int} {Q : Value → Shared → Prop} (hh : A.handled = none) (hl : s.heap.IsList l its.toArray) (hi : IntsAre its ns)
    (h : 0 < ns.length → ∀ h' tk M t', (∀ b o, s.heap.get? b = some o → h'.get? b = some o) → M ∈ ns → (∀ a, a ∈ ns → a ≤ M) → Q (.int M t') { s with heap := h', toks := tk })
    (h0 : ns = [] → ∀ h' tk, (∀ b o, s.heap.get? b = some o → h'.get? b = some o) → Q d { s with heap := h', toks := tk }) :
    wpAny (model prog w) A (call (.builtin "max") [.ref l] [(Str.ofString "default", d)]) Q E s := by
  obtain ⟨xs, e⟩ := hi.allInts.items
  have hn : numsOf (intItems xs).toList = ns := by rw [← e]; exact hi.numsOf
  rw [nums_intItems] at hn
  subst hn
  rw [e] at hl
  refine maxK_intList hh hl (fun hsz v h' tk hv hk => ?_) fun hz h' tk hk => h0 ?_ h' tk hk
  · obtain ⟨t, rfl⟩ := intItems_at hv
    obtain ⟨h1, h2⟩ := argBest_gt (numAt xs) (xs.size - 1)
    refine h (by simpa using hsz) h' tk _ t hk ?_ fun a ha => ?_
    · rw [numAt_eq]; exact PySem.getD_mem (by rw [List.length_map, Array.length_toList]; omega)
    · obtain ⟨j, hj, rfl⟩ := mem_getD ha
      rw [List.length_map, Array.length_toList] at hj
      rw [← numAt_eq]; exact h2 j (by omega)
  · rw [List.map_eq_nil_iff]
    exact List.eq_nil_of_length_eq_zero (by rw [Array.length_toList]; exact hz)
end
section
open PySem.Spec PyProof.Rows
variable {X : Cx}
def rMaxK (K : PySem.W.Frag) (k : Int) : List V → Hp → VK → Prop := fun vs H Q => ∃ (a : Addr) (ns : List Int), vs = [V.ref a] ∧ SqL K H a (ns.map V.int) ∧ (0 < ns.length → ∀ m, m ∈ ns → (∀ y, y ∈ ns → y ≤ m) → Q (.int m) H) ∧ (ns = [] → Q (.int k) H)
theorem cr_maxK (hc : X.calm = true) (k : Int) : CallRK X (.builtin "max") [Str.ofString "default"] fun xs zs H Q => zs = [.int k] ∧ rMaxK X.K k xs H Q := by
  intro pins s σ H vs zs us ws Q I r rz h
  obtain ⟨rfl, a, ns, rfl, hs, q, q0⟩ := h
  obtain ⟨its, rv, hl, _⟩ := I.list hs
  rw [Vals.ref1 r]
  obtain ⟨w1, rfl, e1⟩ := vals1 rz
  refine maxK_raw (I.ok.hd hc) hl.isList rv.ints (fun hn h' tk m t' hk h1 h2 => ⟨.int _, H, I.kept hk, ⟨_, rfl⟩, q hn m h1 h2⟩) fun hn h' tk hk => ⟨.int k, H, I.kept hk, e1, q0 hn⟩
def maxKD (k : Int) (M : Store) (ds : List D) : Option Slot := match ds with
  | [x] => match seqOf M x with
    | some es => match intsOf es with
      | some (a :: l) => some (.val (.int (maxI a l)))
      | some [] => some (.val (.int k))
      | none => none
    | none => none
  | _ => none
theorem p_maxK {K : PySem.W.Frag} (k : Int) : PrimN K (rMaxK K k) (maxKD k) := by
  intro w vs ds s Q ok r h kk
  unfold maxKD at h
  split at h
  · split at h
    · rename_i x es hx
      split at h
      · rename_i a l hi
        cases h
        obtain ⟨v, rfl, rv⟩ := r.one
        obtain ⟨p, us, rfl, hp, rl⟩ := seq_at ok rv hx
        have e := ints_at rl hi
        subst e
        refine ⟨p, a :: l, rfl, hp, fun _ m h1 h2 => ?_, fun h => by cases h⟩
        rw [← maxI_max l a m h1 h2]
        exact ans ok kk fun A G => .int _
      · rename_i hi
        cases h
        obtain ⟨v, rfl, rv⟩ := r.one
        obtain ⟨p, us, rfl, hp, rl⟩ := seq_at ok rv hx
        have e := ints_at rl hi
        subst e
        exact ⟨p, [], rfl, hp, fun h => absurd h (Nat.lt_irrefl 0), fun _ => ans ok kk fun A G => .int _⟩
      · cases h
    · cases h
  · cases h
end
section
variable {K : PySem.W.Frag} {E : Wish} {X : Cx} {e : Expr}
theorem x_maxK {k : Int} {fs : FL} (h : PE X e (tCKw (fun xs zs H Q => zs = [.int k] ∧ rMaxK K k xs H Q) (tAR K E fs) (tCons (tC (.int k)) tNil))) : PE X e (tE K E (dPr (maxKD k) fs)) := PE.wk h fun σ H Q ⟨ρ, w, e1, ok, sr, a⟩ =>
  ⟨ρ, w, e1, ok, sr, a.bind.imp fun x w1 s1 a1 vx rx => by
    obtain ⟨s, es, kk⟩ := fin_of s1 a1
    exact ⟨rfl, p_maxK k w1 vx x s Q s1.ok rx es kk⟩⟩
end
end TP
/-! TPge: zip of a tuple and a list (lines of HandS.Zip0/Zip turned to it). -/
namespace TP
open RZ
section
open PySem
open PySem.Sem (wp)
section
variable {prog : Program} {w : World} {A : Around} {E : Value → Shared → Prop} {s : Shared}
theorem zipM_next_item {z TI TO i1 i2 l1 l2 : Addr} {k1 k2 : Nat} {xs ys : Array Value} {x y a b : Value} {Q : Value → Shared → Prop} (D : ZipApart z TI TO i1 i2 l1 l2)
    (hz : IsZip s.heap z TI TO .none) (hTI : IsPair s.heap TI (.ref i1) (.ref i2)) (hTO : IsPair s.heap TO a b)
    (h1 : s.heap.IsTupleIter i1 l1 k1) (h2 : s.heap.IsListIter i2 l2 k2) (hl1 : s.heap.IsTuple l1 xs) (hl2 : s.heap.IsList l2 ys) (hx : xs[k1]? = some x) (hy : ys[k2]? = some y)
    (hQ : ∀ h', IsZip h' z TI TO (rawInt s.heap.objs.size) → IsPair h' TO x y → h'.IsTupleIter i1 l1 (k1 + 1) → h'.IsListIter i2 l2 (k2 + 1) → IsPair h' s.heap.objs.size x y → h'.objs.size = s.heap.objs.size + 1 →
      (∀ c o, c ≠ z → c ≠ TO → c ≠ i1 → c ≠ i2 → s.heap.get? c = some o → h'.get? c = some o) → Q (.ref s.heap.objs.size) { s with heap := h' }) :
    wpAny (model prog w) A (Builtin.«zip.__next__» ⟨[.ref z], []⟩) (fun fin s' => ∃ v, fin = .done (.ret v) ∧ Q v s') E s := by
  show wpAny _ _ (field (.ref z) 2 >>= _) _ _ _
  refine wpAny_bind (wpAny_field hz rfl (x := .bool false) rfl ?_)
  show wpAny _ _ (field (.ref z) 3 >>= _) _ _ _
  refine wpAny_bind (wpAny_field hz rfl (x := .ref TI) rfl ?_)
  refine wpAny_bind (wpAny_seqItems hTI rfl ?_)
  show wpAny _ _ (Builtin.SmallTypes.ownedTupleIsFree (.ref z) >>= _) _ _ _
  refine wpAny_bind ?_
  unfold Builtin.SmallTypes.ownedTupleIsFree
  refine wpAny_bind (wpAny_field hz rfl (x := .none) rfl (wpAny_pure ?_))
  simp only [if_true]
  refine wpAny_bind (wpAny_rule ?_)
  refine wpAny_bind (wpAny_field hz rfl (x := .ref TO) rfl ?_)
  refine wpAny_bind (wpAny_setField_rec hz (by simp) fun h₁ hz₁ hs₁ => ?_)
  replace hz₁ : IsZip h₁ z TI TO .ellipsis := hz₁
  refine wpAny_bind ?_
  simp only [List.zipIdx_cons, List.zipIdx_nil, List.forIn_cons, List.forIn_nil]

  refine wpAny_bind (wpAny_bind (wpAny_onRaise ?_))
  show wpAny _ _ (Builtin.SmallTypes.nextOf (.ref i1) >>= _) _ _ _
  refine wpAny_bind (nextOf_tuple_item (h1.extBut hs₁.extBut D.i1z) (hl1.extBut hs₁.extBut D.l1z) hx fun h₂ h1₂ hs₂ => wpAny_pure ?_)
  have hTO₂ : IsPair h₂ TO a b := hs₂.extBut _ _ D.TOi1 (hs₁.extBut _ _ D.TOz hTO)
  refine wpAny_bind (wpAny_seqItems hTO₂ rfl ?_)
  refine wpAny_bind (wpAny_updateSeq_pair hTO₂ fun h₃ hTO₃ hs₃ => ?_)
  replace hTO₃ : IsPair h₃ TO x b := hTO₃
  refine wpAny_bind (wpAny_letGo (wpAny_pure ?_))

  refine wpAny_bind (wpAny_bind (wpAny_onRaise ?_))
  show wpAny _ _ (Builtin.SmallTypes.nextOf (.ref i2) >>= _) _ _ _
  refine wpAny_bind (wpAny_nextOf_list_item (((h2.extBut hs₁.extBut D.i2z).extBut hs₂.extBut D.i12.symm).extBut hs₃.extBut D.TOi2.symm)
    (((hl2.extBut hs₁.extBut D.l2z).extBut hs₂.extBut D.l2i1).extBut hs₃.extBut D.l2TO) hy fun h₄ h2₄ hs₄ => wpAny_pure ?_)
  have hTO₄ : IsPair h₄ TO x b := hs₄.extBut _ _ D.TOi2 hTO₃
  refine wpAny_bind (wpAny_seqItems hTO₄ rfl ?_)
  refine wpAny_bind (wpAny_updateSeq_pair hTO₄ fun h₅ hTO₅ hs₅ => ?_)
  replace hTO₅ : IsPair h₅ TO x y := hTO₅
  refine wpAny_bind (wpAny_letGo (wpAny_pure (wpAny_pure ?_)))

  refine wpAny_bind (wpAny_seqItems hTO₅ rfl ?_)
  refine wpAny_bind (wpAny_newTuple ?_)
  have hsz : h₅.objs.size = s.heap.objs.size := by rw [hs₅.1, hs₄.1, hs₃.1, hs₂.1, hs₁.1]
  have hz₅ : IsZip h₅ z TI TO .ellipsis := hs₅.extBut _ _ D.TOz.symm (hs₄.extBut _ _ D.i2z.symm (hs₃.extBut _ _ D.TOz.symm (hs₂.extBut _ _ D.i1z.symm hz₁)))
  have hk₅ : ∀ c o, c ≠ z → c ≠ TO → c ≠ i1 → c ≠ i2 → s.heap.get? c = some o → h₅.get? c = some o := fun c o c1 c2 c3 c4 e =>
    hs₅.extBut _ _ c2 (hs₄.extBut _ _ c4 (hs₃.extBut _ _ c2 (hs₂.extBut _ _ c3 (hs₁.extBut _ _ c1 e))))
  have h1₅ : h₅.IsTupleIter i1 l1 (k1 + 1) := ((h1₂.extBut hs₃.extBut D.TOi1.symm).extBut hs₄.extBut D.i12).extBut hs₅.extBut D.TOi1.symm
  have h2₅ : h₅.IsListIter i2 l2 (k2 + 1) := h2₄.extBut hs₅.extBut D.TOi2.symm
  have hzlt : z < h₅.objs.size := Heap.lt_size hz₅
  have hTOlt : TO < h₅.objs.size := Heap.lt_size hTO₅
  have hi1lt : i1 < h₅.objs.size := by obtain ⟨_, e, _⟩ := h1₅; exact Heap.lt_size e
  have hi2lt : i2 < h₅.objs.size := by obtain ⟨_, e, _⟩ := h2₅; exact Heap.lt_size e
  show wpAny _ _ (Builtin.SmallTypes.ownedTupleHandOut (.ref z) (.ref h₅.objs.size) >>= _) _ _ _
  refine wpAny_bind ?_
  unfold Builtin.SmallTypes.ownedTupleHandOut
  have hz₆ : IsZip (h₅.push { cls := .type "tuple", data := .seq #[x, y] }) z TI TO .ellipsis := Heap.get?_push_of_some _ hz₅
  refine wpAny_bind (wpAny_setField_rec hz₆ (by simp) fun h₇ hz₇ hs₇ => ?_)
  replace hz₇ : IsZip h₇ z TI TO (rawInt h₅.objs.size) := hz₇
  refine wpAny_setField_rec hz₇ (by simp) fun h₈ hz₈ hs₈ => ?_
  replace hz₈ : IsZip h₈ z TI TO (rawInt h₅.objs.size) := hz₈
  have up : ∀ c o, c ≠ z → h₅.get? c = some o → h₈.get? c = some o := fun c o c1 e => hs₈.extBut _ _ c1 (hs₇.extBut _ _ c1 (Heap.get?_push_of_some _ e))
  have hT₈ : IsPair h₈ h₅.objs.size x y := hs₈.extBut _ _ (Nat.ne_of_gt hzlt) (hs₇.extBut _ _ (Nat.ne_of_gt hzlt) (Heap.get?_push_size _ rfl))
  have hz8 : h₈.objs.size = h₅.objs.size + 1 := by rw [hs₈.1, hs₇.1, Heap.size_push]
  rw [hsz] at hz₈ hT₈ hz8
  refine wpAny_pure ⟨_, rfl, ?_⟩
  show Q (.ref h₅.objs.size) _
  rw [hsz]
  exact hQ h₈ hz₈ (up _ _ D.TOz hTO₅) (h1₅.at fun o e => up _ o D.i1z e) (h2₅.at fun o e => up _ o D.i2z e) hT₈ hz8 fun c o c1 c2 c3 c4 e => up c o c1 (hk₅ c o c1 c2 c3 c4 e)

theorem zipM_next_end {z TI TO i1 i2 l1 l2 : Addr} {k1 k2 : Nat} {xs ys : Array Value} {a b : Value} {Q : Fin → Shared → Prop} (hh : A.handled = none) (D : ZipApart z TI TO i1 i2 l1 l2)
    (hz : IsZip s.heap z TI TO .none) (hTI : IsPair s.heap TI (.ref i1) (.ref i2)) (hTO : IsPair s.heap TO a b)
    (h1 : s.heap.IsTupleIter i1 l1 k1) (h2 : s.heap.IsListIter i2 l2 k2) (hl1 : s.heap.IsTuple l1 xs) (hl2 : s.heap.IsList l2 ys) (hend : xs[k1]? = none ∨ ys[k2]? = none)
    (hE : ∀ h' e, (∀ c o, c ≠ z → c ≠ TO → c ≠ i1 → c ≠ i2 → s.heap.get? c = some o → h'.get? c = some o) → (∃ o, h'.get? e = some o ∧ o.cls = .type "StopIteration") → E (.ref e) { s with heap := h' }) :
    wpAny (model prog w) A (Builtin.«zip.__next__» ⟨[.ref z], []⟩) Q E s := by
  show wpAny _ _ (field (.ref z) 2 >>= _) _ _ _
  refine wpAny_bind (wpAny_field hz rfl (x := .bool false) rfl ?_)
  show wpAny _ _ (field (.ref z) 3 >>= _) _ _ _
  refine wpAny_bind (wpAny_field hz rfl (x := .ref TI) rfl ?_)
  refine wpAny_bind (wpAny_seqItems hTI rfl ?_)
  show wpAny _ _ (Builtin.SmallTypes.ownedTupleIsFree (.ref z) >>= _) _ _ _
  refine wpAny_bind ?_
  unfold Builtin.SmallTypes.ownedTupleIsFree
  refine wpAny_bind (wpAny_field hz rfl (x := .none) rfl (wpAny_pure ?_))
  simp only [if_true]
  refine wpAny_bind (wpAny_rule ?_)
  refine wpAny_bind (wpAny_field hz rfl (x := .ref TO) rfl ?_)
  refine wpAny_bind (wpAny_setField_rec hz (by simp) fun h₁ hz₁ hs₁ => ?_)
  replace hz₁ : IsZip h₁ z TI TO .ellipsis := hz₁
  refine wpAny_bind ?_
  simp only [List.zipIdx_cons, List.zipIdx_nil, List.forIn_cons, List.forIn_nil]
  refine wpAny_bind (wpAny_bind (wpAny_onRaise ?_))
  show wpAny _ _ (Builtin.SmallTypes.nextOf (.ref i1) >>= _) _ _ _
  cases hx : xs[k1]? with
  | none =>
    refine wpAny_bind (nextOf_tuple_end hh (h1.extBut hs₁.extBut D.i1z) (hl1.extBut hs₁.extBut D.l1z) hx fun h₂ e hs₂ he => ?_)
    obtain ⟨oe, hoe, hce⟩ := he
    have hz₂ : IsZip h₂ z TI TO .ellipsis := hs₂ _ _ D.i1z.symm hz₁
    have hez : e ≠ z := fun x => by subst x; rw [hz₂] at hoe; cases hoe; simp at hce
    refine wpAny_setField_rec hz₂ (by simp) fun h₃ _ hs₃ => hE h₃ e (fun c o c1 _ c3 _ x => hs₃.extBut _ _ c1 (hs₂ _ _ c3 (hs₁.extBut _ _ c1 x))) ⟨oe, hs₃.extBut _ _ hez hoe, hce⟩
  | some x =>
    have hy : ys[k2]? = none := by rcases hend with h | h; rw [hx] at h; cases h; exact h
    refine wpAny_bind (nextOf_tuple_item (h1.extBut hs₁.extBut D.i1z) (hl1.extBut hs₁.extBut D.l1z) hx fun h₂ h1₂ hs₂ => wpAny_pure ?_)
    have hTO₂ : IsPair h₂ TO a b := hs₂.extBut _ _ D.TOi1 (hs₁.extBut _ _ D.TOz hTO)
    refine wpAny_bind (wpAny_seqItems hTO₂ rfl ?_)
    refine wpAny_bind (wpAny_updateSeq_pair hTO₂ fun h₃ hTO₃ hs₃ => ?_)
    refine wpAny_bind (wpAny_letGo (wpAny_pure ?_))
    refine wpAny_bind (wpAny_bind (wpAny_onRaise ?_))
    show wpAny _ _ (Builtin.SmallTypes.nextOf (.ref i2) >>= _) _ _ _
    refine wpAny_bind (wpAny_nextOf_list_end hh (((h2.extBut hs₁.extBut D.i2z).extBut hs₂.extBut D.i12.symm).extBut hs₃.extBut D.TOi2.symm)
      (((hl2.extBut hs₁.extBut D.l2z).extBut hs₂.extBut D.l2i1).extBut hs₃.extBut D.l2TO) hy fun h₄ e hs₄ he => ?_)
    obtain ⟨oe, hoe, hce⟩ := he
    have hz₄ : IsZip h₄ z TI TO .ellipsis := hs₄ _ _ D.i2z.symm (hs₃.extBut _ _ D.TOz.symm (hs₂.extBut _ _ D.i1z.symm hz₁))
    have hez : e ≠ z := fun x => by subst x; rw [hz₄] at hoe; cases hoe; simp at hce
    refine wpAny_setField_rec hz₄ (by simp) fun h₅ _ hs₅ => hE h₅ e (fun c o c1 c2 c3 c4 x => hs₅.extBut _ _ c1 (hs₄ _ _ c4 (hs₃.extBut _ _ c2 (hs₂.extBut _ _ c3 (hs₁.extBut _ _ c1 x))))) ⟨oe, hs₅.extBut _ _ hez hoe, hce⟩

theorem pyNext_zipM_item {z TI TO i1 i2 l1 l2 : Addr} {k1 k2 : Nat} {xs ys : Array Value} {x y a b : Value} {Q : Option Value → Shared → Prop} (D : ZipApart z TI TO i1 i2 l1 l2)
    (hz : IsZip s.heap z TI TO .none) (hTI : IsPair s.heap TI (.ref i1) (.ref i2)) (hTO : IsPair s.heap TO a b)
    (h1 : s.heap.IsTupleIter i1 l1 k1) (h2 : s.heap.IsListIter i2 l2 k2) (hl1 : s.heap.IsTuple l1 xs) (hl2 : s.heap.IsList l2 ys) (hx : xs[k1]? = some x) (hy : ys[k2]? = some y)
    (hQ : ∀ h', IsZip h' z TI TO (rawInt s.heap.objs.size) → IsPair h' TO x y → h'.IsTupleIter i1 l1 (k1 + 1) → h'.IsListIter i2 l2 (k2 + 1) → IsPair h' s.heap.objs.size x y → h'.objs.size = s.heap.objs.size + 1 →
      (∀ c o, c ≠ z → c ≠ TO → c ≠ i1 → c ≠ i2 → s.heap.get? c = some o → h'.get? c = some o) → Q (some (.ref s.heap.objs.size)) { s with heap := h' }) :
    wpAny (model prog w) A (pyNext (.ref z)) Q E s := by
  have hT : s.TypeIs (.ref z) "zip" := ⟨_, hz, rfl⟩
  unfold pyNext
  exact wpAny_bind (wpAny_attempt (wpAny_callSpecial?_slot (name := Str.ofString "__next__") hT F.slot_zip_next
    (wpAny_call_entry F.slot_zip_next hT F.entry_zip_next
      (zipM_next_item D hz hTI hTO h1 h2 hl1 hl2 hx hy fun h' a1 a2 a3 a4 a5 a6 a7 => wpAny_pure (hQ h' a1 a2 a3 a4 a5 a6 a7)) (F.args_zip_next_1 _))))

theorem pyNext_zipM_end {z TI TO i1 i2 l1 l2 : Addr} {k1 k2 : Nat} {xs ys : Array Value} {a b : Value} {Q : Option Value → Shared → Prop} (hh : A.handled = none) (D : ZipApart z TI TO i1 i2 l1 l2)
    (hz : IsZip s.heap z TI TO .none) (hTI : IsPair s.heap TI (.ref i1) (.ref i2)) (hTO : IsPair s.heap TO a b)
    (h1 : s.heap.IsTupleIter i1 l1 k1) (h2 : s.heap.IsListIter i2 l2 k2) (hl1 : s.heap.IsTuple l1 xs) (hl2 : s.heap.IsList l2 ys) (hend : xs[k1]? = none ∨ ys[k2]? = none)
    (hQ : ∀ h', (∀ c o, c ≠ z → c ≠ TO → c ≠ i1 → c ≠ i2 → s.heap.get? c = some o → h'.get? c = some o) → Q none { s with heap := h' }) : wpAny (model prog w) A (pyNext (.ref z)) Q E s := by
  have hT : s.TypeIs (.ref z) "zip" := ⟨_, hz, rfl⟩
  unfold pyNext
  refine wpAny_bind (wpAny_attempt (wpAny_callSpecial?_slot (name := Str.ofString "__next__") hT F.slot_zip_next
    (wpAny_call_entry F.slot_zip_next hT F.entry_zip_next (zipM_next_end hh D hz hTI hTO h1 h2 hl1 hl2 hend fun h' e hk he => ?_) (F.args_zip_next_1 _))))
  obtain ⟨o, ho, hc⟩ := he
  refine wpAny_bind (wpAny_isInstance (T := "StopIteration") (b := true) ⟨o, ho, hc⟩ isSubtype_stop ?_)
  exact wpAny_pure (hQ _ hk)
end

abbrev zipMH1 (h : Heap) (l1 : Addr) : Heap := h.push { cls := .type "tuple_iterator", data := .fields #[.ref l1, .int 0 0] }
abbrev zipMH2 (h : Heap) (l1 l2 : Addr) : Heap := (zipMH1 h l1).push { cls := .type "list_iterator", data := .fields #[.ref l2, .int 0 0] }
abbrev zipMH3 (h : Heap) (l1 l2 : Addr) : Heap := (zipMH2 h l1 l2).push { cls := .type "tuple", data := .seq #[.ref h.objs.size, .ref (zipMH1 h l1).objs.size] }
abbrev zipMH4 (h : Heap) (l1 l2 : Addr) : Heap := (zipMH3 h l1 l2).push { cls := .type "tuple", data := .seq #[.none, .none] }
abbrev zipMH5 (h : Heap) (l1 l2 : Addr) : Heap := (zipMH4 h l1 l2).push { cls := .type "zip", data := .fields #[.none, .bool false, .bool false, .ref (zipMH2 h l1 l2).objs.size, .ref (zipMH3 h l1 l2).objs.size] }

theorem meets_zipM_new (l1 l2 : Addr) (xs ys : Array Value) :
    Meets (Builtin.«zip.__new__» ⟨[.type "zip", .ref l1, .ref l2], []⟩) (fun _ R s => s.heap.IsTuple l1 xs ∧ s.heap.IsList l2 ys ∧
      R (.ok (.ret (.ref (zipMH4 s.heap l1 l2).objs.size))) { s with heap := zipMH5 s.heap l1 l2 }) :=
  .of_wp fun prog w A R s h => by
    obtain ⟨hp, g, d, tk, os⟩ := s; obtain ⟨hl1, hl2, h⟩ := h
    have hsub := sub_zip
    have hL1 : Heap.IsTuple (Shared.heap ⟨hp, g, d, tk, os⟩) l1 xs := hl1
    have hL2 : Heap.IsList (Shared.heap ⟨hp.push { cls := .type "tuple_iterator", data := .fields #[.ref l1, .int 0 0] }, g, d, tk, os⟩) l2 ys := Heap.IsList.push hl2 _
    wp_walk using wpAny_pyIter_tuple hL1, wpAny_pyIter_list hL2
    exact ⟨_, rfl, h⟩

section
variable {prog : Program} {w : World} {A : Around} {E : Value → Shared → Prop} {s : Shared}

theorem call_zipM {l1 l2 : Addr} {xs ys : Array Value} {Q : Value → Shared → Prop} (hl1 : s.heap.IsTuple l1 xs) (hl2 : s.heap.IsList l2 ys)
    (h : ∀ h', IsZip h' (s.heap.objs.size + 4) (s.heap.objs.size + 2) (s.heap.objs.size + 3) .none → IsPair h' (s.heap.objs.size + 2) (.ref s.heap.objs.size) (.ref (s.heap.objs.size + 1)) →
      IsPair h' (s.heap.objs.size + 3) .none .none → h'.IsTupleIter s.heap.objs.size l1 0 → h'.IsListIter (s.heap.objs.size + 1) l2 0 → h'.objs.size = s.heap.objs.size + 5 →
      (∀ c o, s.heap.get? c = some o → h'.get? c = some o) → Q (.ref (s.heap.objs.size + 4)) { s with heap := h' }) :
    wpAny (model prog w) A (call (.type "zip") [.ref l1, .ref l2]) Q E s := by
  refine callType_new F.called_zip (by decide) (F.typeCall_zip_2 _ _) (F.newCall_zip_2 _ _) (fun obj => F.args_object_init_3 obj _ _) F.entry_zip_new
    (meets_zipM_new l1 l2 xs ys) ⟨hl1, hl2, ?_⟩
  have z1 : (zipMH1 s.heap l1).objs.size = s.heap.objs.size + 1 := Heap.size_push ..
  have z2 : (zipMH2 s.heap l1 l2).objs.size = s.heap.objs.size + 2 := by rw [Heap.size_push, z1]
  have z3 : (zipMH3 s.heap l1 l2).objs.size = s.heap.objs.size + 3 := by rw [Heap.size_push, z2]
  have z4 : (zipMH4 s.heap l1 l2).objs.size = s.heap.objs.size + 4 := by rw [Heap.size_push, z3]
  have z5 : (zipMH5 s.heap l1 l2).objs.size = s.heap.objs.size + 5 := by rw [Heap.size_push, z4]
  have g5 : (zipMH5 s.heap l1 l2).get? (zipMH4 s.heap l1 l2).objs.size = some _ := Heap.get?_push_size _ rfl
  have g4 : (zipMH5 s.heap l1 l2).get? (zipMH3 s.heap l1 l2).objs.size = some _ := Heap.get?_push_of_some _ (Heap.get?_push_size _ rfl)
  have g3 : (zipMH5 s.heap l1 l2).get? (zipMH2 s.heap l1 l2).objs.size = some _ := Heap.get?_push_of_some _ (Heap.get?_push_of_some _ (Heap.get?_push_size _ rfl))
  have g2 : (zipMH5 s.heap l1 l2).get? (zipMH1 s.heap l1).objs.size = some _ := Heap.get?_push_of_some _ (Heap.get?_push_of_some _ (Heap.get?_push_of_some _ (Heap.get?_push_size _ rfl)))
  have g1 : (zipMH5 s.heap l1 l2).get? s.heap.objs.size = some _ := Heap.get?_push_of_some _ (Heap.get?_push_of_some _ (Heap.get?_push_of_some _ (Heap.get?_push_of_some _ (Heap.get?_push_size _ rfl))))
  show _ ∧ _
  rw [z2, z3, z4] at g5
  rw [z1, z2] at g3
  rw [z3] at g4
  rw [z1] at g2
  rw [z4]
  exact ⟨⟨_, g5, rfl⟩, h _ g5 g3 g4 ⟨_, g1, rfl, rfl⟩ ⟨_, g2, rfl, rfl⟩ z5 fun c o x =>
    Heap.get?_push_of_some _ (Heap.get?_push_of_some _ (Heap.get?_push_of_some _ (Heap.get?_push_of_some _ (Heap.get?_push_of_some _ x))))⟩
end
end
section
open PySem PySem.Spec PyProof.Rows L2
/-- the tuples at a and b as they stand at each turn, the items in new pairs -/
def ItzM (K : PySem.W.Frag) (a b : Addr) : It :=
  ⟨fun i H => ∃ (xs ys : List V) (x y : V), SqT K H a xs ∧ SqL K H b ys ∧ xs[i]? = some x ∧ ys[i]? = some y,
    fun i H v H' => ∃ T x y, v = .ref T ∧ H T = none ∧ H' = upd H T (.tup [x, y]) ∧ (∀ xs, SqT K H a xs → xs[i]? = some x) ∧ ∀ ys, SqL K H b ys → ys[i]? = some y,
    fun i H => ∃ xs ys : List V, SqT K H a xs ∧ SqL K H b ys ∧ (xs.length ≤ i ∨ ys.length ≤ i)⟩
theorem turn_zipM {P : Program} {w : World} {K : PySem.W.Frag} {elts : List Expr} {kk : Nat} {tpos : Pos} {a b z TI TO i1 i2 : Addr} (D : ZipApart z TI TO i1 i2 a b) :
    Turn P w K (.Tuple elts kk tpos) (ItzM K a b) [z, TI, TO, i1, i2] z (fun i h => IsZip h z TI TO .none ∧ IsPair h TI (.ref i1) (.ref i2) ∧ (∃ x y, IsPair h TO x y) ∧ h.IsTupleIter i1 a i ∧ h.IsListIter i2 b i) where
  mem := by simp
  obj := fun i h st c hc => by
    obtain ⟨hz, hTI, ⟨x, y, hTO⟩, ⟨o1, e1, _, d1⟩, ⟨o2, e2, _, d2⟩⟩ := st
    have e' : c = z ∨ c = TI ∨ c = TO ∨ c = i1 ∨ c = i2 := by simpa using hc
    rcases e' with q | q | q | q | q
    · rw [q]; exact ⟨_, hz, fun v q => nomatch q⟩
    · rw [q]; exact ⟨_, hTI, fun v q => nomatch q⟩
    · rw [q]; exact ⟨_, hTO, fun v q => nomatch q⟩
    · rw [q]; exact ⟨o1, e1, fun v q => by rw [d1] at q; cases q⟩
    · rw [q]; exact ⟨o2, e2, fun v q => by rw [d2] at q; cases q⟩
  keep := fun i h h' st k => by
    obtain ⟨hz, hTI, ⟨x, y, hTO⟩, h1, h2⟩ := st
    exact ⟨k z (by simp) _ hz, k TI (by simp) _ hTI, ⟨x, y, k TO (by simp) _ hTO⟩, h1.at fun o q => k i1 (by simp) o q, h2.at fun o q => k i2 (by simp) o q⟩
  item := by
    intro X hP hw hK hc i pins s σ H E I hf st hg
    subst hP hw hK
    obtain ⟨hz, hTI, ⟨x0, y0, hTO⟩, h1, h2⟩ := st
    obtain ⟨xs, ys, x, y, hqx, hqy, hx, hy⟩ := hg
    obtain ⟨its, rv, p, _⟩ := I.tuple hqx
    obtain ⟨its2, rv2, p2, _⟩ := I.list hqy
    obtain ⟨u, hu, ru⟩ := rv.get hx
    obtain ⟨u2, hu2, ru2⟩ := rv2.get hy
    have hzl : z < s.heap.objs.size := Heap.lt_size hz
    refine pyNext_zipM_item D hz hTI hTO h1 h2 p p2.isList (x := u) (y := u2) (by simpa using hu) (by simpa using hu2) fun h' z' TO' h1' h2' hT hsz hk => ?_
    refine ⟨_, rfl, wpAny_letOwnedTupleGo_zip (s := { s with heap := h' }) z' fun h'' z'' sb => ?_⟩
    have hT2 : h''.get? s.heap.objs.size = some { cls := .type "tuple", data := .seq #[u, u2] } := (sb.2 _ (Nat.ne_of_gt hzl)).trans hT
    have new : ObjOk X.prog X.w (upd H s.heap.objs.size (.tup [x, y])) h'' s.heap.objs.size (.tup [x, y]) :=
      ⟨by show 2 ≤ sizeLine; decide, [u, u2], .cons ru (.cons ru2 .nil), ⟨_, hT2, rfl, _, rfl⟩⟩
    have I1 : Inv X pins σ (upd H s.heap.objs.size (.tup [x, y])) { s with heap := h'' } :=
      I.turnedNew (t' := s.toks) (ch := [z, TI, TO, i1, i2]) (fun c o hb q => (sb.2 c (fun q' => hb (by simp [q']))).trans (hk c o (fun q' => hb (by simp [q'])) (fun q' => hb (by simp [q'])) (fun q' => hb (by simp [q'])) (fun q' => hb (by simp [q'])) q)) hf (Nat.le_refl _) new
    refine ⟨.ref s.heap.objs.size, _, I1, rfl, ⟨_, x, y, rfl, I.hok.fresh (Nat.le_refl _), rfl, fun l hl => by rw [I.tuple_inj hl hqx]; exact hx, fun l hl => by rw [I.list_inj hl hqy]; exact hy⟩, ⟨z'', ?_, ⟨u, u2, ?_⟩, ?_, ?_⟩, fun c hcm => ?_⟩
    · exact (sb.2 _ D.TIz).trans (hk _ _ D.TIz D.TITO D.TIi1 D.TIi2 hTI)
    · exact (sb.2 _ D.TOz).trans TO'
    · exact h1'.at fun o q => (sb.2 _ D.i1z).trans q
    · exact h2'.at fun o q => (sb.2 _ D.i2z).trans q
    · have hlt : c < s.heap.objs.size := by
        have e' : c = z ∨ c = TI ∨ c = TO ∨ c = i1 ∨ c = i2 := by simpa using hcm
        rcases e' with q | q | q | q | q
        · rw [q]; exact hzl
        · rw [q]; exact Heap.lt_size hTI
        · rw [q]; exact Heap.lt_size hTO
        · rw [q]; obtain ⟨_, e1, _⟩ := h1; exact Heap.lt_size e1
        · rw [q]; obtain ⟨_, e2, _⟩ := h2; exact Heap.lt_size e2
      rw [upd_ne (Nat.ne_of_lt hlt)]
      exact (hf c hcm).1
  done := by
    intro X hP hw hK hc i pins s σ H E I hf st hg
    subst hP hw hK
    obtain ⟨hz, hTI, ⟨x0, y0, hTO⟩, h1, h2⟩ := st
    obtain ⟨xs, ys, hqx, hqy, hend⟩ := hg
    obtain ⟨its, rv, p, _⟩ := I.tuple hqx
    obtain ⟨its2, rv2, p2, _⟩ := I.list hqy
    have l1 := rv.length
    have l2 := rv2.length
    have he : its.toArray[i]? = none ∨ its2.toArray[i]? = none := by
      rcases hend with q | q
      · exact .inl (by simp; omega)
      · exact .inr (by simp; omega)
    exact pyNext_zipM_end (I.ok.hd hc) D hz hTI hTO h1 h2 p p2.isList he fun h' hk => ⟨rfl, I.turnedL (t' := s.toks) (ch := [z, TI, TO, i1, i2]) (fun c o hb q =>
      hk c o (fun q' => hb (by simp [q'])) (fun q' => hb (by simp [q'])) (fun q' => hb (by simp [q'])) (fun q' => hb (by simp [q'])) q) hf⟩
  self := fun A i s Q E st h => wpAny_pyIter_zip st.1 h

def iZipM (K : PySem.W.Frag) (ta : TA) : TI := fun σ H R => ta σ H fun vs H1 => ∃ a b xs ys, vs = [.ref a, .ref b] ∧ SqT K H1 a xs ∧ SqL K H1 b ys ∧ R (ItzM K a b) H1
theorem pi_zipM {X : Cx} {e e2 : Expr} {ta : TA} {p pos tpos : Pos} {elts : List Expr} {kk : Nat} (hg : Gl X "zip") (hm : X.mg "zip" = none) (ha : PA X [e, e2] ta)
    (hs : starEach [e, e2] X.env = (false, eval e X.env) :: starEach [e2] X.env := by rfl) (hpl : (backTo pos (starEach [e2] X.env)).any (·.1) = false := by rfl) :
    PI X (.Tuple elts kk tpos) (.Call (.Name "zip" p) [e, e2] [] pos) (iZipM X.K ta) := by
  refine ⟨fun pins s σ H R I h => ?_⟩
  refine Call_ (ld_blt I hg hm PyProof.Rows.boot_zip (PyProof.Rows.callWith_type1 (thn (ha.run pos pins s σ H _ I h) fun us s1 ⟨vs, H1, I1, r1, q1⟩ => ?_) hs hpl))
  obtain ⟨a, b, xs, ys, ex, hqx, hqy, q⟩ := q1
  subst ex
  cases r1 with
  | cons r rr =>
    cases rr with
    | cons r' rr =>
      cases rr
      cases r
      cases r'
      have fresh5 : ∀ c, c ∈ [s1.heap.objs.size + 4, s1.heap.objs.size + 2, s1.heap.objs.size + 3, s1.heap.objs.size, s1.heap.objs.size + 1] → FpOk X pins H1 c := fun c hcm => by
        have e' : c = s1.heap.objs.size + 4 ∨ c = s1.heap.objs.size + 2 ∨ c = s1.heap.objs.size + 3 ∨ c = s1.heap.objs.size ∨ c = s1.heap.objs.size + 1 := by simpa using hcm
        have hle : s1.heap.objs.size ≤ c := by
          rcases e' with z | z | z | z | z
          · rw [z]; exact Nat.le_add_right _ _
          · rw [z]; exact Nat.le_add_right _ _
          · rw [z]; exact Nat.le_add_right _ _
          · rw [z]; exact Nat.le_refl _
          · rw [z]; exact Nat.le_add_right _ _
        exact I1.fpOk hle (I1.hok.fresh hle)
      obtain ⟨its, rv, p1, _⟩ := I1.tuple hqx
      obtain ⟨its2, rv2, p2, _⟩ := I1.list hqy
      obtain ⟨o1, ho1, _⟩ := id p1
      refine call_zipM (show s1.heap.IsTuple a its.toArray from p1) p2.isList fun h' hz hTI hTO h1 h2 hsz hk => wpAny_pyIter_zip hz ?_
      have I2 : Inv X pins σ H1 { s1 with heap := h' } := I1.kept (t' := s1.toks) hk
      exact ⟨s1.heap.objs.size + 4, [s1.heap.objs.size + 4, s1.heap.objs.size + 2, s1.heap.objs.size + 3, s1.heap.objs.size, s1.heap.objs.size + 1], _, _, H1, rfl, I2, turn_zipM (PySem.W.ktu_apart s1.heap.objs.size a b (Heap.lt_size ho1) p2.lt), ⟨hz, hTI, ⟨_, _, hTO⟩, h1, h2⟩, fresh5, q⟩
end
section
open PySem L2
variable {K : PySem.W.Frag} {E : Wish} {X : Cx} {e : Expr}
theorem it_zipM {w : Wd} {a b : Addr} {vs us : List V} {ds es : List D} (hs : SqT K w.G a vs) (rl : RepL K w.A w.G vs ds) (hs' : SqL K w.G b us) (rl' : RepL K w.A w.G us es) : IterOk K w (ItzM K a b) (zipL ds es) := fun w2 le ok2 i => by
  have h2 : SqT K w2.H a vs := sqT_mono ok2.sub (sqT_mono le.2 hs)
  have h2' : SqL K w2.H b us := ok2.sub.seq (le.2.seq hs')
  refine ⟨fun d ed => ?_, fun hl => ⟨vs, us, h2, h2', by rw [zipL_len] at hl; rw [rl.length, rl'.length]; omega⟩⟩
  obtain ⟨x, y, ex, ey, rfl⟩ := zipL_get ds es i d ed
  obtain ⟨v, ev, rv⟩ := (le.repL rl).get ex
  obtain ⟨u, eu, ru⟩ := (le.repL rl').get ey
  refine ⟨⟨vs, us, v, u, h2, h2', ev, eu⟩, fun z H' hy => ?_⟩
  obtain ⟨T, x', y', rfl, hT, rfl, y1, y2⟩ := hy
  have q1 := y1 vs h2
  rw [ev] at q1
  cases q1
  have q2 := y2 us h2'
  rw [eu] at q2
  cases q2
  have st := ok2.fresh hT (.tup [v, u])
  exact ⟨_, st, rfl, rfl, .tup upd_same (.cons (st.rep rv) (.one (st.rep ru)))⟩
def dZipM (fs : FL) : FL := fun ρ M => (fs ρ M).bind fun ds M => match ds with
  | [.kt xs, .lst ys] => .ok (zipL xs ys) M
  | [.tup xs, .lst ys] => .ok (zipL xs ys) M
  | _ => .bad
@[simp] theorem dZipM_eq (fs : FL) (ρ : EnvD) (M : Store) : dZipM fs ρ M = (fs ρ M).bind fun ds M => match ds with
  | [.kt xs, .lst ys] => .ok (zipL xs ys) M
  | [.tup xs, .lst ys] => .ok (zipL xs ys) M
  | _ => .bad := rfl
theorem x_zipM {tg : Expr} {fs : FL} (h : PI X tg e (iZipM K (tAF K E fs))) : PI X tg e (tI K E (dZipM fs)) := PI.wk h fun σ H Q ⟨ρ, w, e1, ok, sr, a⟩ =>
  ⟨ρ, w, e1, ok, sr, a.bind.imp fun ds w1 s1 a1 vs rvs => by
    split at a1
    · cases rvs with
      | cons r1 r2 =>
        cases r2 with
        | cons r2 r3 =>
          cases r3
          cases r1 with
          | kt hs rl =>
            cases r2 with
            | lst hs' rl' => exact ⟨_, _, _, _, rfl, sqT_mono s1.ok.sub hs, .inl (.inl (s1.ok.sub _ _ hs')), a1 w1 (Step.refl s1.ok) rfl _ (it_zipM hs rl (.inl (.inl hs')) rl')⟩
    · cases rvs with
      | cons r1 r2 =>
        cases r2 with
        | cons r2 r3 =>
          cases r3
          cases r1 with
          | tup hs rl =>
            cases r2 with
            | lst hs' rl' => exact ⟨_, _, _, _, rfl, .inl (.inl (s1.ok.sub _ _ hs)), .inl (.inl (s1.ok.sub _ _ hs')), a1 w1 (Step.refl s1.ok) rfl _ (it_zipM (.inl (.inl hs)) rl (.inl (.inl hs')) rl')⟩
    · exact a1.elim⟩
end
end TP
/-! TPgf: str(x) of an int or a text. -/
namespace TP
open PySem L2
section
variable {X : Cx} {K : PySem.W.Frag}
def rStr1 : List V → Hp → VK → Prop := fun xs H Q => (∃ i, xs = [.int i] ∧ i.natAbs.log2 < 1920 ∧ Q (.str (toString i)) H) ∨ ∃ a, xs = [.str a] ∧ Q (.str a) H
theorem call_strA : CallR X (.type "str") rStr1 := call_str_int.or SkE.call_str_str
def strD (_ : Store) (ds : List D) : Option Slot := match ds with
  | [.int i] => if i.natAbs.log2 < 1920 then some (.val (.str (toString i))) else none
  | [.str a] => some (.val (.str a))
  | _ => none
theorem p_str : PrimN K rStr1 strD := by
  intro w vs ds s Q ok rl h k
  unfold strD at h
  split at h
  · split at h
    · rename_i hz
      cases h
      obtain ⟨v, rfl, rv⟩ := rl.one
      cases int_at rv
      exact .inl ⟨_, rfl, hz, ans ok k fun _ _ => .str _⟩
    · cases h
  · cases h
    obtain ⟨v, rfl, rv⟩ := rl.one
    cases str_at rv
    exact .inr ⟨_, rfl, ans ok k fun _ _ => .str _⟩
  · cases h
end
@[simp] theorem strD_int (M : Store) (i : Int) : strD M [.int i] = if i.natAbs.log2 < 1920 then some (.val (.str (toString i))) else none := rfl
@[simp] theorem strD_str (M : Store) (a : Str) : strD M [.str a] = some (.val (.str a)) := rfl
section
open PySem.Spec PyProof.Rows
variable {X : Cx} {K : PySem.W.Frag}
/-- a text times 0 or 1 -/
def rRepS : R2 := fun x y H Q => ∃ a k, x = .str a ∧ y = .int k ∧ (k = 0 ∨ k = 1) ∧ Q (.str (if k = 0 then Str.empty else a)) H
theorem op_repS : OpR X (binaryOp .Mult) rRepS := by
  intro pins s σ H x y v u Q I rx ry h
  obtain ⟨a, k, rfl, rfl, hk, q⟩ := h
  obtain ⟨t, rfl⟩ := rx
  obtain ⟨t2, rfl⟩ := ry
  rcases hk with rfl | rfl
  · exact PySem.P.mul_str_none (by decide) (by decide) ⟨.str _, H, I.tok _, ⟨_, rfl⟩, q⟩
  · refine PySem.P.mul_str (by decide) (fun _ h => by simp at h) (fun _ h => by simp at h) ?_
    exact ⟨.str a, H, I, ⟨_, rfl⟩, q⟩
def rMulS : R2 := fun x y H Q => rMulA x y H Q ∨ rRepS x y H Q
theorem op_mulS : OpR X (binaryOp .Mult) rMulS := op_mulA.or op_repS
def mulSD (M : Store) (x y : D) : Option Slot := match x, y with
  | .str a, .int k => if k = 0 then some (.val (.str Str.empty)) else if k = 1 then some (.val (.str a)) else none
  | x, y => mulD M x y
theorem p_mulS : Prim2 K rMulS mulSD := by
  intro w vx vy x y s Q ok rx ry h k
  unfold mulSD at h
  split at h
  · rename_i a j
    cases str_at rx
    cases int_at ry
    refine .inr ⟨a, j, rfl, rfl, ?_⟩
    split at h
    · rename_i hj
      cases h
      rw [if_pos hj]
      exact ⟨.inl hj, ans ok k fun _ _ => .str _⟩
    · rename_i hj
      split at h
      · rename_i hj2
        cases h
        rw [if_neg hj]
        exact ⟨.inr hj2, ans ok k fun _ _ => .str _⟩
      · cases h
  · exact .inl (p_mul w vx vy _ _ s Q ok rx ry h k)
@[simp] theorem mulSD_str (M : Store) (a : Str) (k : Int) : mulSD M (.str a) (.int k) = if k = 0 then some (.val (.str Str.empty)) else if k = 1 then some (.val (.str a)) else none := rfl
end
end TP
/-! TPea: defs that may raise; raise; calls of them. -/
namespace TP
open PySem L2
/-- what is wished of an own exception that leaves a def -/
def W1 (K : PySem.W.Frag) : XK → Wish := fun EX c d w =>
  if exI c = true then ∀ dd v, w.H dd = none → Rep K w.A w.G v d → EX (.ref (clsAt K (exN c))) (some dd) (upd w.H dd (.xd [("at", v)])) else EX (.ref (clsAt K (exN c))) none w.H
def R.calm {α : Type} (r : R α) : R α := match r with
  | .exc _ _ _ => .bad
  | r => r
@[simp] theorem calm_ok {α : Type} (a : α) (M : Store) : (R.ok a M).calm = .ok a M := rfl
@[simp] theorem calm_bad {α : Type} : (R.bad : R α).calm = .bad := rfl
@[simp] theorem calm_exc {α : Type} (c : Nat) (d : D) (M : Store) : (R.exc c d M : R α).calm = .bad := rfl
def calmF (m : Fn) : Fn := fun ds M => (m ds M).calm
@[simp] theorem calmF_eq (m : Fn) (ds : List D) (M : Store) : calmF m ds M = (m ds M).calm := rfl
section
variable {K : PySem.W.Frag} {E : Wish} {X : Cx} {e : Expr} {st : Stmt} {sts : List Stmt}
theorem After.calm {α : Type} {w : Wd} {r : R α} {P : α → Wd → Prop} (h : After K E w r.calm P) : After K E00 w r P := by
  cases r with
  | bad => exact h
  | exc c d M => exact (show False from h).elim
  | ok a M => exact h
/-- a def that lets no exception out, called where some may leave -/
theorem x_callC {n : Nat} {m : Fn} {EX : XK} {fs : FL} (h : PE X e (tCall (spD K W0 n m) [] EX (tAF K E fs))) : PE X e (tE K E (dCall n (calmF m) fs)) := PE.wk h fun σ H Q ⟨ρ, w, e1, ok, sr, a⟩ =>
  ⟨ρ, w, e1, ok, sr, a.bind.imp fun ds w1 s1 a1 vs rvs => by
    split at a1
    · rename_i hn
      show spD K W0 n m (vs ++ []) w1.H Q EX
      rw [List.append_nil]
      refine ⟨by rw [rvs.length]; exact hn, ds, w1, rfl, s1.ok, rvs, ?_⟩
      have a2 : After K E w1 (m ds w1.M).calm _ := a1
      exact a2.calm.imp fun s w2 _ z v rv => z v (rv.back s1)
    · exact a1.elim⟩
theorem x_callC0 {m : Fn} {EX : XK} (h : PE X e (tCall (spD K W0 0 m) [] EX tNil)) : PE X e (tE K E (dCall 0 (calmF m) dNil)) := PE.wk h fun σ H Q ⟨ρ, w, e1, ok, sr, a⟩ => by
  subst e1
  have a1 : After K E w (m [] w.M).calm _ := a
  exact ⟨rfl, [], w, rfl, ok, .nil, a1.calm⟩
/-! ### raise -/
/-- raise C('..') -/
def sRaise (c : Nat) : FS := fun _ M => .exc c .non M
theorem s_raise {EX : XK} {c : Nat} (hc : exI c = false) (h : PS X st (fun _ _ H => EX (.ref (clsAt K (exN c))) none H)) : PS X st (tS K (W1 K EX) (sRaise c)) := PS.wk h fun D σ H ⟨ρ, w, w0, e1, s, sr, of, p⟩ => by
  subst e1
  have q : W1 K EX c .non w := p w s (Le.refl w) rfl
  unfold W1 at q
  rw [hc, if_neg (by decide)] at q
  exact q
/-- what an exception's own __init__(self, at) does -/
def spAt (C : Addr) : Sp := fun vs H Q _ => ∃ (a : Addr) (v : V), vs = [.ref a, v] ∧ H a = some (exo a C none) ∧ ∀ d, H d = none → d ≠ a → Q .non (upd (upd H d (exd d [("at", v)])) a (exo a C (some d)))
/-- raise C(e) -/
def sRaiseA (c : Nat) (f : FD) : FS := fun ρ M => (f ρ M).out fun d M => .exc c d M
theorem s_raiseA {EX : XK} {c : Nat} {f : FD} (hc : exI c = true) (h : PS X st (fun _ σ H => tMkO (clsAt K (exN c)) (spAt (clsAt K (exN c))) [] (tAF K (W1 K EX) (dCons f dNil)) σ H fun cls d H' => EX cls d H')) : PS X st (tS K (W1 K EX) (sRaiseA c f)) := PS.wk h fun D σ H ⟨ρ, w, w0, e1, s, sr, of, p⟩ => by
  have key : After K (W1 K EX) w (dCons f dNil ρ w.M) fun ds w1 => ∃ d, ds = [d] ∧ W1 K EX c d w1 := by
    have p' := out_after s p
    show After K (W1 K EX) w ((f ρ w.M).bind fun d M => .ok [d] M) _
    cases q : f ρ w.M with
    | bad => rw [q] at p'; exact p'
    | exc c' d' M' => rw [q] at p'; exact p'
    | ok d M' =>
      rw [q] at p'
      exact fun w1 s1 e2 => ⟨d, rfl, p' w1 s1 e2 w1 (s.trans s1) (Le.refl _) rfl⟩
  refine ⟨ρ, w, e1, s.ok, sr, key.imp fun ds w1 s1 ⟨d, ed, q⟩ vs rvs => ?_⟩
  subst ed
  cases rvs with
  | @cons v _ _ _ r1 r2 =>
    cases r2
    unfold W1 at q
    rw [if_pos hc] at q
    refine ⟨by simp, fun a na => ⟨a, v, rfl, upd_same, fun dd ndd hda => ⟨rfl, dd, [("at", v)], upd_same, ?_, ?_, ?_⟩⟩⟩
    · rw [upd_ne hda, upd_same]
    · rw [upd_ne hda] at ndd; exact ndd
    · rw [upd_ne hda] at ndd
      have e3 : upd (del (upd (upd (upd w1.H a (exo a (clsAt K (exN c)) none)) dd (exd dd [("at", v)])) a (exo a (clsAt K (exN c)) (some dd))) a) dd (.xd [("at", v)]) = upd w1.H dd (.xd [("at", v)]) := by
        funext b
        by_cases hb : b = dd
        · subst hb; rw [upd_same, upd_same]
        · rw [upd_ne hb, upd_ne hb]
          by_cases hba : b = a
          · subst hba; rw [del_same, na]
          · rw [del_ne hba, upd_ne hba, upd_ne hb, upd_ne hba]
      rw [e3]
      exact q dd v ndd r1
end
section
open PySem.Spec PyProof.Rows
variable {K : PySem.W.Frag}
/-- a def that may raise own exceptions -/
theorem g_fnX {P : Program} {wo : World} {mg : Str → Option Value} {base : Heap} {x qual : Str} {st : Stmt} {f : Addr} {fd : FuncData} {N ps : List Str} {k : Nat} {g : FS} (F : Fun K x qual st f fd) (S : FnScope N ps (defScope st))
    (hbody : ∀ (cdv : Value) (A : Around) (outer : List Env) (s : Shared) (H : Hp) (EX : XK), Room k (A.deeper (envOfC qual (defScope st) s.heap.objs.size f cdv)) → (A.deeper (envOfC qual (defScope st) s.heap.objs.size f cdv)).guards = some [] →
      PSs (cxOf (L2N.CX P wo) P wo K mg base N qual (defScope st) f cdv A outer s H EX) (defBody st) (tS K (W1 K EX) g)) : GOk P wo K mg base (L2N.CX P wo) (k + 1) f fd ps (spD K (W1 K) ps.length (runF N.length g)) := by
  refine g_of F S (fun vs H Q EX h => h.1) (fun cdv A outer s H vs Q EX hr hq h => ?_)
  refine ⟨_, hbody cdv A outer s H EX hr hq, ?_⟩
  obtain ⟨hl, ds, w, rfl, ok, rl, a⟩ := h
  refine ⟨startD N.length ds, w, w, rfl, Step.refl ok, SR.start rl, OF.start w _ _ _, ?_⟩
  unfold runF at a
  cases q : g (startD N.length ds) w.M with
  | next ρ M => rw [q] at a; exact fun w' σ s' _ eM _ _ => a w' s' eM .non .non
  | ret y M => rw [q] at a; exact fun w' v s' eM rv => a w' s' eM v rv
  | exc c d M => rw [q] at a; exact fun w1 s1 _ e1 => a w1 s1 e1
  | brk ρ M => rw [q] at a; exact a.elim
  | cont ρ M => rw [q] at a; exact a.elim
  | bad => rw [q] at a; exact a.elim
theorem g_zeroX {P : Program} {wo : World} {mg : Str → Option Value} {base : Heap} {f : Addr} {fd : FuncData} {ps : List Str} {n : Nat} (hn : n = ps.length := by rfl) : GOk P wo K mg base (L2N.CX P wo) 0 f fd ps (spD K (W1 K) n (fun _ _ => .bad)) :=
  ⟨fun vs H Q EX h => h.1.trans hn, fun A outer s H args us vs Q EX _ _ _ _ _ h => by
    obtain ⟨_, ds, w, _, _, _, a⟩ := h
    exact a.elim⟩
end
/-! ### an exception's own __init__ -/
section
/-- T.__init__ of an own class T over ValueError without an own one -/
structure TInit (K : PySem.W.Frag) (C : Addr) : Prop where
  ga : PySem.W.specialIn K (.ref C) "__getattribute__" = some (some (.builtin "type.__getattribute__"))
  rd : PySem.W.readsIn K C (.type "type") = true
  at_ : PySem.W.findCls K (.ref C) (.type "type") "__init__" = some (.val (.builtin "ValueError.__init__"))
variable {X : Cx} {e : Expr} {es : List Expr} {ta : TA} {x : Str} {C : Addr} {p1 p2 pos : Pos}
open PySem.Spec PyProof.Rows in
theorem pe_tinit {pl : Sem Bool} (T : TInit X.K C) (hg : Gl X x) (hm : X.mg x = some (.ref C)) (ha : PA X (e :: es) ta) (hdb : (x == ("__debug__" : Str)) = false := by decide)
    (hc : eval (.Call (.Attribute (.Name x p1) "__init__" p2) (e :: es) [] pos) X.env = (do
      let fv ← eval (.Name x p1) X.env
      standAt p2.atName
      let (g, us) ← holding [fv] (getMethod fv "__init__" pl)
      callWith pos g us (backTo pos (starEach (e :: es) X.env)) (backToKw pos (keywordEach [] X.env))) := by rfl)
    (he : starEach (e :: es) X.env = (false, eval e X.env) :: starEach es X.env := by rfl) (hpl : (backTo pos (starEach es X.env)).any (·.1) = false := by rfl) :
    PE X (.Call (.Attribute (.Name x p1) "__init__" p2) (e :: es) [] pos) (tVeI X.K ta) := by
  constructor
  intro pins s σ H Q I h
  refine PySem.W.methodCall_KW (ld_glob I hg hm ?_ hdb) hc
  refine PySem.W.method_cls I.kIn T.ga ?_
  refine PySem.W.cls_value I.kIn T.rd T.at_ (by decide +kernel) ?_
  refine PyProof.Rows.callWith_method1 (thn (ha.run pos pins _ σ H _ (I.tok _) h) ?_) he hpl
  rintro us s1 ⟨vs, H1, I1, r1, a, C', ws, rfl, hl, TC, ea, q⟩
  cases r1 with
  | @cons _ u0 _ ur ra rw' =>
    obtain rfl : u0 = Value.ref a := ra
    exact oinit_ok TC I1 ea (by rw [← Paired.length rw', PySem.sizeLine_eq]; omega) fun s' J => ⟨.non, H1, J, rfl, q⟩
end
end TP
/-! TPeb: try. -/
namespace TP
open PySem L2
section
open PySem.Spec PyProof.Rows
variable {K : PySem.W.Frag}
/-- an exception's own __init__(self, at): T.__init__(self, '..'); self.at = at -/
theorem init_fn {P : Program} {wo : World} {mg : Str → Option Value} {base : Heap} {qual : Str} {st : Stmt} {f C : Addr} {fd : FuncData} {tx : Str} (F : Fun K "__init__" qual st f fd) (S : FnScope ["self", "at"] ["self", "at"] (defScope st)) (T : OexC K C) (hno : PySem.W.findIn K (.ref C) "at" = some none)
    (hbody : ∀ (cdv : Value) (A : Around) (outer : List Env) (s : Shared) (H : Hp) (EX : XK),
      PSs (cxOf CX0 P wo K mg base ["self", "at"] qual (defScope st) f cdv A outer s H EX).nox (defBody st) (tSeq (tDrop (tVeI K (tCons (tVar 0) (tCons (tC (.str tx)) tNil)))) (tOst K "at" (tVar 0) (tVar 1)))) :
    FnOk P wo K mg base CX0 1 f fd ["self", "at"] (spAt C) := by
  refine F.ok S (fun vs H Q EX h => by obtain ⟨a, v, rfl, _⟩ := h; rfl) (fun cdv A outer s H vs Q EX hr h => ?_)
  refine ⟨_, hbody cdv A outer s H EX, ?_⟩
  obtain ⟨a, v, rfl, ha, q⟩ := h
  refine ⟨_, rfl, a, C, [.str tx], rfl, by simp, T, ha, ?_⟩
  refine ⟨v, rfl, _, rfl, a, C, rfl, T, hno, .inl ⟨ha, fun dx n ne => ?_⟩⟩
  exact q dx n ne
end
/-! ### own lists are forgotten -/
def unOwn : Slot → Slot
  | .own _ => .un
  | s => s
def dropOwn (ρ : EnvD) : EnvD := ρ.map unOwn
section
variable {K : PySem.W.Frag} {E : Wish} {X : Cx} {st : Stmt}
theorem dropOwn_val {ρ : EnvD} {i : Nat} {d : D} (h : (dropOwn ρ)[i]? = some (.val d)) : ρ[i]? = some (.val d) := by
  unfold dropOwn at h
  rw [List.getElem?_map] at h
  cases q : ρ[i]? with
  | none => rw [q] at h; cases h
  | some s =>
    rw [q] at h
    cases s <;> first | exact h | cases h
theorem dropOwn_own {ρ : EnvD} {i : Nat} {ds : List D} (h : (dropOwn ρ)[i]? = some (.own ds)) : False := by
  unfold dropOwn at h
  rw [List.getElem?_map] at h
  cases q : ρ[i]? with
  | none => rw [q] at h; cases h
  | some s =>
    rw [q] at h
    cases s <;> cases h
theorem SR.drop {w w1 : Wd} {ρ : EnvD} {σ : St} (sr : SR K w ρ σ) (l : Le w w1) : SR K w1 (dropOwn ρ) σ :=
  ⟨by unfold dropOwn; rw [List.length_map]; exact sr.len, fun i d h => by
    obtain ⟨v, a, b⟩ := sr.val i d (dropOwn_val h)
    exact ⟨v, a, l.rep b⟩, fun i ds h => (dropOwn_own h).elim, fun i j ds es p h1 => (dropOwn_own h1).elim⟩
theorem OF.drop {w0 : Wd} {ρ : EnvD} {σ : St} : OF w0 (dropOwn ρ) σ := fun i ds p h1 => (dropOwn_own h1).elim
/-- the wish within a try's body, by the names' values at its beginning -/
abbrev EXs (W : WX) (σ : St) : XK := fun cls d H => W cls d σ H
def tryE (K : PySem.W.Frag) (g : FS) : WX → TS := fun W D σ H => tS K (W1 K (EXs W σ)) g D σ H
/-- try: body, except C: suite, else: orelse; all that may leave the body is of C's -/
def sTryE (cs : Nat → Bool) (body suite orelse : FS) : FS := fun ρ M => match body ρ M with
  | .exc c d M' => if cs c = true then suite (dropOwn ρ) M' else .bad
  | .next ρ' M' => orelse ρ' M'
  | o => o
abbrev noW : WX := fun _ _ _ _ => False
theorem takes_no : L2.Takes X noW := fun _ _ ⟨_, _, _, _, _, _, _, _, _, _, _, _, _, _, _, _, w⟩ => w.elim
/-- an own exception in hand, where its wish stands -/
theorem w1_use {EX : XK} {c : Nat} {d : D} {w0 w1 : Wd} (s1 : Step K w0 w1) (h : ∀ dd w2, Step K w0 w2 → Step K w1 w2 → w2.M = w1.M → (exI c = false ∧ dd = none ∧ w2 = w1 ∨ exI c = true ∧ ∃ a v, dd = some a ∧ w2.G a = some (.xd [("at", v)]) ∧ Rep K w2.A w2.G v d) → EX (.ref (clsAt K (exN c))) dd w2.H) : W1 K EX c d w1 := by
  unfold W1
  by_cases hc : exI c = true
  · rw [if_pos hc]
    intro dd v hd r
    have s2 := s1.ok.fresh hd (.xd [("at", v)])
    exact h (some dd) ⟨w1.A, upd w1.G dd (.xd [("at", v)]), w1.M, upd w1.H dd (.xd [("at", v)])⟩ (s1.trans s2) s2 rfl (.inr ⟨hc, dd, v, rfl, upd_same, s2.rep r⟩)
  · rw [if_neg hc]
    exact h none w1 s1 (Step.refl s1.ok) rfl (.inl ⟨by simpa using hc, rfl, rfl⟩)
theorem s_tryE {cs : Nat → Bool} {gb gs go : FS} {C : Value} (hcs : ∀ c, cs c = true → PySem.W.exmOne K (.ref (clsAt K (exN c))) C = some true)
    (h : PS X st (fun D σ H => tryE K gb (wOnly K C (fun _ _ _ => tS K E gs) noW D) { D with nx := tS K E go D } σ H)) : PS X st (tS K E (sTryE cs gb gs go)) := PS.wk h fun D σ H ⟨ρ, w, w0, e1, s, sr, of, p⟩ => by
  refine ⟨ρ, w, w0, e1, s, sr, of, ?_⟩
  unfold sTryE at p
  cases q : gb ρ w.M with
  | next ρ' M' =>
    rw [q] at p
    intro w1 σ1 s1 l1 e2 sr1 of1
    refine ⟨ρ', w1, w0, rfl, s1, sr1, of1, ?_⟩
    rw [e2]
    exact PostS.later p l1
  | ret x M' => rw [q] at p; exact p
  | brk x M' => rw [q] at p; exact p
  | cont x M' => rw [q] at p; exact p
  | bad => rw [q] at p; exact p
  | exc c d M' =>
    rw [q] at p
    intro w1 s1 l1 e2
    simp only at p
    by_cases hc : cs c = true
    · rw [if_pos hc] at p
      refine w1_use s1 fun dd w2 s2 s12 eM _ => ?_
      refine ⟨true, hcs c hc, fun _ a na => ?_, fun z => by cases z⟩
      refine ⟨dropOwn ρ, w2, w0, rfl, s2, sr.drop (l1.trans s12.le), OF.drop, ?_⟩
      rw [eM, e2]
      exact PostS.later p (l1.trans s12.le)
    · rw [if_neg hc] at p
      exact p.elim
end
/-! ### calls in a try's body -/
section
variable {X : Cx} {CX : CXT} {k : Nat} {f : Addr} {fd : FuncData} {ps : List Str} {sp : Sp} {x : Str} {p pos : Pos} {e : Expr} {es : List Expr} {t : TA} {EX : St → XK}
theorem g_runS {pins : List (Addr × Obj)} {σ : St} {H : Hp} {s : Shared} {Q : VK} {us : List Value} {vs : List V} (F : GOk X.prog X.w X.K X.mg X.base CX k f fd ps sp) (hr : Room k X.A) (hq : X.A.guards = some [])
    (hb : Binds X.K fd ps []) (hx : PassesAt CX X σ (EX σ)) (I : Inv X pins σ H s) (r : Vals vs us) (h : sp vs H Q (EX σ)) : wpAny (model X.prog X.w) X.A (call (.ref f) us) (EP X pins σ Q) X.xe s := by
  have hl : (us ++ []).length = ps.length := by
    rw [List.append_nil, ← r.length]
    exact F.len _ _ _ _ h
  have hb' := hb s us I.kIn hl
  rw [List.append_nil] at hb'
  refine wpAny_call (codeAny_mono (F.go X.A X.stack s H ⟨us, []⟩ us vs Q (EX σ) hr hq I.env0 hb' r h) fun z s' hz => ?_)
  match z, hz with
  | .error er, hz => exact hx pins H s er s' I hz
  | .ok (.ret u), hz => exact I.after hz
  | .ok .next, hz => exact False.elim hz
  | .ok .brk, hz => exact False.elim hz
  | .ok .cont, hz => exact False.elim hz
/-- f(e, ..) where the wish of exceptions goes by the names' values -/
theorem g_callS (F : GOk X.prog X.w X.K X.mg X.base CX k f fd ps sp) (hr : Room k X.A) (hq : X.A.guards = some []) (hg : Gl X x) (hm : X.mg x = some (.ref f)) (hk : PySem.W.keepIn X.K (.ref f) = true) (hb : Binds X.K fd ps [])
    (hx : ∀ σ, PassesAt CX X σ (EX σ)) (ha : PA X (e :: es) t) (hdb : (x == ("__debug__" : Str)) = false := by decide) (he : starEach (e :: es) X.env = (false, eval e X.env) :: starEach es X.env := by rfl)
    (hpl : (backTo pos (starEach es X.env)).any (·.1) = false := by rfl) : PE X (.Call (.Name x p) (e :: es) [] pos) (fun σ H Q => t σ H fun vs H1 => sp vs H1 Q (EX σ)) :=
  ⟨fun pins s σ H Q I h => wpAny_Call_Name_kw (ld_glob I hg hm (PySem.W.callWith_K (h₀ := X.base) I.ok.mod.kin hk
    (thn (ha.run pos pins s σ H _ I h) fun us s1 ⟨vs, H1, I1, r, q⟩ => ⟨I1.kIn, g_runS F hr hq hb (hx σ) I1 r q⟩) he hpl) hdb)⟩
/-- what a callee lets out is taken within a try -/
theorem cxN_cx {P : Program} {w : World} {outer : List Env} {H : Hp} {s : Shared} {E : XK} {u : Value} {s' : Shared} (c : L2N.CX P w outer H s E u s') : L2.CX P w outer H s E u s' := by
  obtain ⟨a, B, H', cls, d, e, fl, r⟩ := c
  exact ⟨a, B, H', cls, d, e, L2H.flyingZ_imp (fun o z => L2N.Zn.zc z) fl, r⟩
theorem passN {W : WX} (tk : L2.Takes X W) (σ : St) : PassesAt (L2N.CX X.prog X.w) X σ (EXs W σ) := fun pins H s e s' I c => passAt tk σ pins H s e s' I (cxN_cx c)
end
end TP
/-! TPec: a try's body; an exception that is kept under a name. -/
namespace TP
open PySem L2
section
variable {K : PySem.W.Frag} {E : Wish} {X : Cx} {st : Stmt} {e : Expr} {es : List Expr} {W : WX}
theorem pa_S {fs : FL} (h : ∀ E, PA X es (tAF K E fs)) : PA X es (fun σ H Q => tAF K (W1 K (EXs W σ)) fs σ H Q) := ⟨fun pos pins s σ H Q I q => (h _).run pos pins s σ H Q I q⟩
theorem x_callS {n : Nat} {m : Fn} {fs : FL} (h : PE X e (fun σ H Q => tAF K (W1 K (EXs W σ)) fs σ H fun vs H1 => spD K (W1 K) n m vs H1 Q (EXs W σ))) : PE X e (fun σ H Q => tE K (W1 K (EXs W σ)) (dCall n m fs) σ H Q) :=
  PE.wk h fun σ H Q ⟨ρ, w, e1, ok, sr, a⟩ => ⟨ρ, w, e1, ok, sr, a.bind.imp fun ds w1 s1 a1 vs rvs => by
    split at a1
    · rename_i hn
      exact ⟨by rw [rvs.length]; exact hn, ds, w1, rfl, s1.ok, rvs, a1.imp fun s w2 _ z v rv => z v (rv.back s1)⟩
    · exact a1.elim⟩
theorem s_exprS {f : FE} (h : PS X st (tDrop fun σ H Q => tE K (W1 K (EXs W σ)) f σ H Q)) : PS X st (tryE K (sExpr f) W) := PS.wk h fun D σ H ⟨ρ, w, w0, e1, s, sr, of, p⟩ =>
  ⟨ρ, w, e1, s.ok, sr, (out_after s p).imp fun x w1 s1 p1 v rv => p1 w1 σ (s.trans s1) (Le.refl _) rfl (sr.step s1) of⟩
theorem s_setS {i : Nat} {f : FE} (h : PS X st (tAsg (fun σ H Q => tE K (W1 K (EXs W σ)) f σ H Q) (gName i))) : PS X st (tryE K (sSet i f) W) := PS.wk h fun D σ H ⟨ρ, w, w0, e1, s, sr, of, p⟩ =>
  ⟨ρ, w, e1, s.ok, sr, (out_after s p).imp fun x w1 s1 p1 v rv => by
    cases x with
    | un => exact rv.elim
    | val d => exact p1 w1 _ (s.trans s1) (Le.refl _) rfl ((sr.step s1).set i rv) (of.sub (OwnSub.set ρ σ i (fun _ z => by cases z) _))
    | own ds => exact p1 w1 _ (s.trans s1) (Le.refl _) rfl (sr.setOwn s1 i rv) (of.setOwn s i rv)⟩
end
/-! ### except C as n: r = n -/
section
open PySem.Spec PyProof.Rows
variable {X : Cx} {pins : List (Addr × Obj)} {σ : L2.St} {H : Hp} {s : Shared}
theorem exH_ok {P : Program} {w : World} {h : Heap} {a : Addr} {cls : Value} {d : Option Addr} {oe : Obj} {vs : Array Value} (he : h.get? a = some oe) (hc : oe.cls = cls) (hd : oe.dict = d) (hv : oe.data = .fields vs) : ObjOk P w H h a (exH cls d a) :=
  ⟨⟨oe, vs, he, hc, hd, hv⟩, ⟨_, he⟩, fun h1 h2 z k => by
    obtain ⟨o, us, q, r⟩ := z
    exact ⟨o, us, k _ q, r⟩⟩
/-- an exception that is not looked at so far is tracked -/
theorem track {a : Addr} {oe : Obj} {cls : Value} {d : Option Addr} {vs : Array Value} (I : Inv X ((a, oe) :: pins) σ H s) (h0 : X.s_0.heap.get? a = none) (hp : ∀ p ∈ X.pn ++ pins, p.1 ≠ a) (hc : oe.cls = cls) (hd : oe.dict = d) (hv : oe.data = .fields vs) :
    Inv X pins σ (upd H a (exH cls d a)) s := by
  have hm : (a, oe) ∈ X.pn ++ (a, oe) :: pins := List.mem_append_right _ List.mem_cons_self
  obtain ⟨q1, q2, q3, q4, q5⟩ := I.pin _ hm
  have q1' : s.heap.get? a = some oe := q1
  have q2' : H a = none := q2
  have ne : ∀ {b : Addr} {o : HO}, H b = some o → b ≠ a := fun {b o} z y => by rw [y, q2'] at z; cases z
  refine ⟨I.ok, I.os, I.bare, ⟨I.base.keep, I.base.slot, fun b o z1 z2 z3 => ?_, I.base.there, fun b xs z => ?_, fun b o u z => ?_, fun b ps z => ?_⟩, I.loc, I.cell, ?_, fun y c z => ?_, fun p z => ?_, fun b o z => ?_, I.len⟩
  · rw [upd_ne (fun y => by rw [y, h0] at z1; cases z1)]
    exact I.base.free b o z1 z2 z3
  · have y := I.base.tups b xs z
    rw [upd_ne (ne y)]; exact y
  · have y := I.base.frzs b o u z
    rw [upd_ne (ne y)]; exact y
  · obtain ⟨more, y⟩ := I.base.tbls b ps z
    exact ⟨more, by rw [upd_ne (ne y)]; exact y⟩
  · rw [upd_ne (fun y => q3 y.symm)]; exact I.free
  · have nc : c ≠ a := fun y => by
      obtain ⟨v, hc⟩ := I.cell _ c z
      rw [y] at hc
      obtain ⟨o, e1, e2⟩ := hc
      rw [q1'] at e1
      cases e1
      exact q5 v e2
    rw [upd_ne nc]; exact I.freeC y c z
  · obtain ⟨r1, r2, r3⟩ := I.pin p (by
      rcases List.mem_append.mp z with z | z
      · exact List.mem_append_left _ z
      · exact List.mem_append_right _ (List.mem_cons_of_mem _ z))
    exact ⟨r1, by rw [upd_ne (hp p z)]; exact r2, r3⟩
  · by_cases hb : b = a
    · subst hb
      rw [upd_same] at z
      cases z
      exact exH_ok q1' hc hd hv
    · rw [upd_ne hb] at z
      exact (I.hok b o z).stay (fun c v _ y => y) (fun c y => by rw [upd_ne (ne y)]; exact y) fun c xs y => by rw [upd_ne (ne y)]; exact y
end
/-- what is wished of the body's exceptions: the names i (the clause's) and j (the one that keeps it) -/
def wHold (K : PySem.W.Frag) (c : Value) (i j : Nat) (D : Ends) : WX := fun cls d σ H => PySem.W.exmOne K cls c = some true ∧ ∀ a, H a = none → D.nx (((σ.set i (some (.ref a))).set j (some (.ref a))).set i none) (upd H a (exH cls d a))
section
open PySem.Spec PyProof.Rows
variable {X : Cx} {x n : Str} {c : Value} {i j : Nat} {body : List Stmt} {s1 : Stmt} {np pos pos' : Pos} {tb : WX → TS}
theorem ps_try_hold (hst : X.stack = X.env :: X.outer) (hfr : X.env.frame = some X.env.locals) (hex : X.ex = []) (hN : X.N.Nodup) (hi : X.N[i]? = some n) (hl : X.env.kindOf n = some .local) (hc : Names X x c)
    (hb : ∀ (W : WX) (pn : List (Addr × Obj)) (xe : Value → Shared → Prop), L2.Takes (X.tr pn xe) W → PassesOwn (model X.prog X.w) X.A X.env xe → PSs (X.tr pn xe) body (tb W))
    (hs : ∀ (a : Addr) (pn : List (Addr × Obj)), PSs (X.suite a pn) [s1] (tAsg (tVar i) (gName j))) :
    PS X (.Try body [.ExceptHandler (some (.Name x np)) (some n) [s1] pos'] [] [] pos) (fun D σ H => tb (wHold X.K c i j D) D σ H) := by
  constructor
  intro pins s σ H D I h
  have ok := I.ok
  have hA : X.A.frames = some (X.env :: X.outer) := by rw [ok.frames, hst]
  refine wpAny_Try_except (wpAny_mono ((hb (wHold X.K c i j D) (X.pn ++ pins) _ (fun u s' xx => ?_) PassesOwn.looking).run [] s σ H D (I.toTry (fun u t1 => wpAny (model X.prog X.w) X.A (noteFrame u X.env) (fun _ t2 => wpAny (model X.prog X.w) X.A (setFlight u none) (fun _ t3 =>
    wpAny (model X.prog X.w) X.A (handleBy u X.env [.ExceptHandler (some (.Name x np)) (some n) [s1] pos']) (SP X pins D) X.xe t3) X.xe t2) X.xe t1)) h) (fun f t1 q => ?_) (fun _ _ z => z))
  · obtain ⟨a, B, sI, pins', σ', H', cls, d, rfl, J', nb, up, sky, na, os, ag, hm, hw⟩ := xx
    have J : Inv X pins σ' H' sI := J'.ofTry ok
    rw [hst] at sky
    refine Sky.land Zc.steady hA hfr (show Sky B (X.env :: X.outer) a (Zc cls d) X.env.locals s'.heap from sky) fun h3 f3 u3 => ?_
    have J3 : Inv X pins σ' H' { s' with heap := h3 } := J.landed nb f3.1 (up.trans u3) os ag
    -- it is no frame, and it is new
    have nfr : a ∉ frs (X.env :: X.outer) := fun z => by
      obtain ⟨oe, vs, e1, e2, e3⟩ := f3.there
      obtain ⟨_, o', e4, e5⟩ := f3.2.2.1.mem z
      rw [e1] at e4
      cases e4
      exact e5 _ e3
    have nB : B.get? a = none := f3.2.1
    have nI : sI.heap.get? a = none := by
      cases y : sI.heap.get? a with
      | none => rfl
      | some o =>
        have z := nb a o y (by rw [hst]; exact nfr)
        rw [nB] at z; cases z
    have n0 : X.s_0.heap.get? a = none := by
      cases y : X.s_0.heap.get? a with
      | none => rfl
      | some o =>
        obtain ⟨o', z⟩ := I.base.there a o y (by rw [hex]; exact List.not_mem_nil)
        obtain ⟨o2, z2⟩ := J.base.there a o y (by rw [hex]; exact List.not_mem_nil)
        rw [nI] at z2; cases z2
    have np' : ∀ p ∈ X.pn ++ pins, p.1 ≠ a := fun p hp z => by
      have y := (J.pin p hp).1
      rw [z, nI] at y; cases y
    have nL : a ≠ X.env.locals := fun z => nfr (List.mem_filterMap.mpr ⟨X.env, List.mem_cons_self, by rw [hfr, z]⟩)
    have nF : a ∉ X.fs := fun z => by
      obtain ⟨e, he, q⟩ := List.mem_filterMap.mp z
      exact nfr (List.mem_filterMap.mpr ⟨e, List.mem_cons_of_mem _ he, q⟩)
    obtain ⟨o3, v3, he3, hz3, hd3⟩ := f3.there
    have S3 := J3.suite he3 hd3 na nL nF
    refine wpAny_handleBy_cons (codeAny_handlers_test ?_) (by intro q; cases q)
    have LM := PySem.W.exm_one (M := model X.prog X.w) J3.kIn (fun A Q E t k q => wpAny_typeOf_ref (k _ _ he3) (by rw [hz3.1]; exact q)) hm
    have tst : ∀ {Q : Value → Shared → Prop} {E : Value → Shared → Prop}, Q c { s' with heap := h3 } → wpAny (model X.prog X.w) (X.A.mark (some (.ref a))) (eval (.Name x np) X.env) Q E { s' with heap := h3 } := fun {Q E} q => by
      obtain ⟨g1, g2, g3 | ⟨g3, g4, g5⟩⟩ := hc
      · exact ld_glob (X := X.suite a ((a, o3) :: (X.pn ++ pins))) S3 g1 g3 q g2
      · exact ld_blt (X := X.suite a ((a, o3) :: (X.pn ++ pins))) S3 g1 g3 g4 q g5 g2
    refine tst (LM.here (codeAny_handlers_suite_as (HandSPX.lands_againZ f3 fun h4 f4 u4 => ?_)))
    have J4 : Inv X pins σ' H' { s' with heap := h4 } := J.landed nb f4.1 ((up.trans u3).trans u4) os ag
    obtain ⟨o4, v4, he4, hz4, hd4⟩ := f4.there
    have S4 := J4.suite he4 hd4 na nL nF
    refine store_ok (X := X.suite a ((a, o4) :: (X.pn ++ pins))) (v := .ref a) S4 hN hi (.inl hl) rfl (fun t5 S5 => ?_) (.inr hl)
    have hil : i < σ'.length := by rw [J.len]; exact (List.getElem?_eq_some_iff.mp hi).1
    refine wpAny_mono ((hs a ((a, o4) :: (X.pn ++ pins))).run [] t5 _ H' ⟨fun σ6 H6 => σ6 = (σ'.set i (some (.ref a))).set j (some (.ref a)) ∧ H6 = H', fun _ _ => False, fun _ _ => False, fun _ _ => False⟩ S5 ⟨.ref a, List.getElem?_set_self hil, rfl, rfl⟩) (fun f t6 q6 => ?_) (fun _ _ z => False.elim z)
    cases f with
    | brk => obtain ⟨_, _, _, z⟩ := q6; exact z.elim
    | cont => obtain ⟨_, _, _, z⟩ := q6; exact z.elim
    | ret u => obtain ⟨_, _, _, _, _, z⟩ := q6; exact z.elim
    | next =>
      obtain ⟨σ6, H6, S6, rfl, rfl⟩ := q6
      have S7 : Inv X ((a, o4) :: pins) ((σ'.set i (some (.ref a))).set j (some (.ref a))) H6 t6 :=
        ⟨ok, S6.os, S6.bare, S6.base, S6.loc, S6.cell, S6.free, S6.freeC, fun p hp => S6.pin p (by
          rw [List.append_nil]
          rcases List.mem_append.mp hp with z | z
          · exact List.mem_cons_of_mem _ (List.mem_append_left _ z)
          · rcases List.mem_cons.mp z with z | z
            · subst z; exact List.mem_cons_self
            · exact List.mem_cons_of_mem _ (List.mem_append_right _ z)), S6.hok, S6.len⟩
      exact gone_ok S7 hN hi hl fun t7 J7 => ⟨_, _, track J7 n0 np' hz4.1 hz4.2 hd4, hw a na⟩
  · cases f with
    | next => obtain ⟨σ', H', J', q⟩ := q; exact wpAny_execs_nil ⟨σ', H', J'.ofTry ok, q⟩
    | brk => obtain ⟨σ', H', J', q⟩ := q; exact ⟨σ', H', J'.ofTry ok, q⟩
    | cont => obtain ⟨σ', H', J', q⟩ := q; exact ⟨σ', H', J'.ofTry ok, q⟩
    | ret u => obtain ⟨v, σ', H', J', r, q⟩ := q; exact ⟨v, σ', H', J'.ofTry ok, r, q⟩
end
/-- try: body, except C as (i): (j) = (i) -/
def sHold (cs : Nat → Bool) (body : FS) (i j : Nat) : FS := fun ρ M => match body ρ M with
  | .exc c d M' => if cs c = true then .next (((dropOwn ρ).set i .un).set j (.val (.ref M'.length))) (M' ++ [.exc c d]) else .bad
  | o => o
section
variable {K : PySem.W.Frag} {E : Wish} {X : Cx} {st : Stmt}
theorem SR.clear {w : Wd} {ρ : EnvD} {σ : L2.St} (sr : SR K w ρ σ) (i : Nat) (o : Option V) : SR K w (ρ.set i .un) (σ.set i o) := by
  have ne : ∀ {k : Nat} {y : Slot}, y ≠ .un → (ρ.set i .un)[k]? = some y → i ≠ k := fun {k y} hy z e => by
    subst e
    have hl := (List.getElem?_eq_some_iff.mp z).1
    rw [List.length_set] at hl
    rw [List.getElem?_set_self hl] at z
    exact hy (Option.some.inj z).symm
  refine ⟨by rw [List.length_set, List.length_set]; exact sr.len, fun k d z => ?_, fun k ds z => ?_, fun k l ds es p z1 z2 z3 z4 => ?_⟩
  · have n := ne (by intro q; cases q) z
    rw [List.getElem?_set_ne n] at z ⊢
    exact sr.val k d z
  · have n := ne (by intro q; cases q) z
    rw [List.getElem?_set_ne n] at z ⊢
    exact sr.own k ds z
  · have n1 := ne (by intro q; cases q) z1
    have n2 := ne (by intro q; cases q) z2
    rw [List.getElem?_set_ne n1] at z1 z3
    rw [List.getElem?_set_ne n2] at z2 z4
    exact sr.dis k l ds es p z1 z2 z3 z4
theorem s_hold {cs : Nat → Bool} {gb : FS} {i j : Nat} {C : Value} (hij : i ≠ j) (hcs : ∀ c, cs c = true → PySem.W.exmOne K (.ref (clsAt K (exN c))) C = some true)
    (h : PS X st (fun D σ H => tryE K gb (wHold K C i j D) D σ H)) : PS X st (tS K E (sHold cs gb i j)) := PS.wk h fun D σ H ⟨ρ, w, w0, e1, s, sr, of, p⟩ => by
  refine ⟨ρ, w, w0, e1, s, sr, of, ?_⟩
  unfold sHold at p
  cases q : gb ρ w.M with
  | next ρ' M' => rw [q] at p; exact p
  | ret x M' => rw [q] at p; exact p
  | brk x M' => rw [q] at p; exact p
  | cont x M' => rw [q] at p; exact p
  | bad => rw [q] at p; exact p
  | exc c d M' =>
    rw [q] at p
    intro w1 s1 l1 e2
    simp only at p
    by_cases hc : cs c = true
    · rw [if_pos hc] at p
      refine w1_use s1 fun dd w2 s2 s12 eM hx => ⟨hcs c hc, fun a na => ?_⟩
      have s3 := s2.ok.fresh0 na (exH (.ref (clsAt K (exN c))) dd a)
      have hG : w2.G a = none := s2.ok.sub.free na
      have nA : a ∉ w2.A := s2.ok.notA na
      have ok4 := s3.ok.push (o := .exc c d) hG nA ⟨dd, upd_same, hx.imp (fun z => ⟨z.1, z.2.1⟩) id⟩
      have s4 : Step K w2 ⟨w2.A ++ [a], w2.G, w2.M ++ [.exc c d], upd w2.H a (exH (.ref (clsAt K (exN c))) dd a)⟩ := ⟨ok4, List.prefix_append _ _, Same.refl _, fun b o z1 z2 z3 => by
        have nb : b ≠ a := ne_of_none z1 na
        refine ⟨?_, .inl z2, fun hm => (List.mem_append.mp hm).elim z3 fun z => nb (List.mem_singleton.mp z)⟩
        show upd w2.H a _ b = some o
        rw [upd_ne nb]; exact z1⟩
      refine p _ _ (s2.trans s4) ((l1.trans s12.le).trans s4.le) (by show w2.M ++ [MO.exc c d] = _; rw [eM, e2]) ?_ (fun k ds b z1 z2 => ?_)
      · have r1 : SR K ⟨w2.A ++ [a], w2.G, w2.M ++ [.exc c d], upd w2.H a (exH (.ref (clsAt K (exN c))) dd a)⟩ (dropOwn ρ) σ := sr.drop ((l1.trans s12.le).trans s4.le)
        have r2 := (r1.clear i none).set j (v := .ref a) (d := .ref w2.M.length) (.ref (by
          show (w2.A ++ [a])[w2.M.length]? = some a
          rw [← s2.ok.len, List.getElem?_append_right (Nat.le_refl _), Nat.sub_self]
          rfl))
        rw [eM, e2] at r2
        have e5 : ((σ.set i (some (.ref a))).set j (some (.ref a))).set i none = (σ.set i none).set j (some (.ref a)) := by
          rw [List.set_comm _ _ (Ne.symm hij), List.set_set]
        rw [e5]
        rw [eM, e2]
        exact r2
      · exfalso
        by_cases hk : j = k
        · subst hk
          have hl := (List.getElem?_eq_some_iff.mp z1).1
          rw [List.length_set] at hl
          rw [List.getElem?_set_self hl] at z1
          cases z1
        · rw [List.getElem?_set_ne hk] at z1
          by_cases hk2 : i = k
          · subst hk2
            have hl := (List.getElem?_eq_some_iff.mp z1).1
            rw [List.length_set] at hl
            rw [List.getElem?_set_self hl] at z1
            cases z1
          · rw [List.getElem?_set_ne hk2] at z1
            exact dropOwn_own z1
    · rw [if_neg hc] at p
      exact p.elim
end
end TP
/-! TPed: {(True, ..): '..', (False, ..): '..'}.get(x, '..'). -/
namespace TP
open PySem L2
def tBls : List Bool → TA
  | [] => tNil
  | b :: bs => tCons (tC (.bl b)) (tBls bs)
theorem tBls_go {σ : St} : ∀ (bs : List Bool) (H : Hp) (Q : List V → Hp → Prop), Q (bs.map .bl) H → tBls bs σ H Q
  | [], H, Q, h => h
  | b :: bs, H, Q, h => tBls_go bs H (fun vs H1 => Q (.bl b :: vs) H1) h
def tBG (i : Nat) (k1 : List Bool) (s1 : Str) (k2 : List Bool) (s2 z : Str) : TE := fun σ H Q => ∃ (t : Addr) (bs : List Bool), σ[i]? = some (some (.ref t)) ∧ H t = some (.tup (bs.map .bl)) ∧
  ∀ H', (∀ p o, H p = some o → H' p = some o) → Q (.str (if bs = k1 then s1 else if bs = k2 then s2 else z)) H'
section
open PySem.Spec PyProof.Rows
variable {X : Cx} {ks : List (Option Expr)} {vs : List Expr} {ex ez : Expr} {dpos apos cpos : Pos} {i : Nat} {k1 k2 : List Bool} {s1 s2 z : Str}
theorem bools_are {P : Program} {w : World} : ∀ {bs : List Bool} {us : List Value}, Vals (bs.map V.bl) us → ItemsAre (PpSet.boolK P w) bs us
  | [], _, r => by cases r; exact .nil
  | b :: bs, _, r => by
    cases r with
    | cons h t =>
      obtain rfl : _ = Value.bool b := h
      exact .cons (by show (b == b) = true; simp) (bools_are t)
theorem bkey_of {P : Program} {w : World} {H : Hp} {h : Heap} {a : Addr} {bs : List Bool} (ok : HOk P w H h) (e : H a = some (.tup (bs.map .bl))) : (tupleKind (PpSet.boolK P w)).is h bs a := by
  obtain ⟨_, its, r, o, q1, q2, n, q3⟩ := (show ObjOk P w H h a (.tup (bs.map .bl)) from ok a _ e)
  exact ⟨o, its.toArray, n, q1, q2, q3, by simpa using bools_are r⟩
theorem pe_bget (hu : X.A.units + 1 < cLine) (hk : k1 ≠ k2) (l1 : k1.length ≤ 100) (l2 : k2.length ≤ 100) (h : PPs X dpos ks vs [(tTup (tBls k1), tC (.str s1)), (tTup (tBls k2), tC (.str s2))]) (hall : ks.all (·.isSome) = true) (hl : ks.length = vs.length) (h0 : ks ≠ []) (h15 : ks.length ≤ 15)
    (hx : PE X ex (tVar i)) (hz : PE X ez (tC (.str z))) (m : M2 X (.Dict ks vs dpos) "get" apos ex ez cpos) :
    PE X (.Call (.Attribute (.Dict ks vs dpos) "get" apos) [ex, ez] [] cpos) (tBG i k1 s1 k2 s2 z) := by
  constructor
  intro pins s σ H Q I ⟨t, bs, hσ, ht, q⟩
  obtain ⟨d, hd⟩ : ∃ d, s.heap.objs.size = d := ⟨_, rfl⟩
  have hn : H d = none := I.hok.fresh (Nat.le_of_eq hd)
  have I1 := I.laid (a := s.heap.objs.size) (o := .dK []) (h' := s.heap.push { cls := .type "dict", data := .dict #[] }) (t' := s.toks) (fun _ _ q => Heap.get?_push_of_some _ q) (Nat.le_refl _) (dk_empty s.heap I.big)
  refine wpAny_Call_method m.base m.few m.line PySem.F.plainAttrs_dict PySem.F.slot_dict_get PySem.F.type_dict_get (wpAny_Dict_any hall hl h0 h15 (thn (h.run pins _ σ _
    (fun ps H2 => ∃ t1 t2, ps = [(.ref t1, .str s1), (.ref t2, .str s2)] ∧ H2 d = some (.dK []) ∧ H2 t1 = some (.tup (k1.map .bl)) ∧ H2 t2 = some (.tup (k2.map .bl)) ∧ ∀ p o, H p = some o → H2 p = some o) I1 ?_) ?_))
  · rw [hd]
    refine tBls_go k1 _ _ ⟨by rw [List.length_map]; exact Nat.le_trans l1 (by decide), fun t1 n1 => tBls_go k2 _ _ ⟨by rw [List.length_map]; exact Nat.le_trans l2 (by decide), fun t2 n2 => ⟨t1, t2, rfl, ?_, ?_, upd_same, fun p o e => ?_⟩⟩⟩
    · have a1 : d ≠ t1 := fun y => by rw [← y, upd_same] at n1; cases n1
      have a2 : d ≠ t2 := fun y => by rw [← y, upd_ne a1, upd_same] at n2; cases n2
      rw [upd_ne a2, upd_ne a1, upd_same]
    · have a2 : t1 ≠ t2 := fun y => by rw [← y, upd_same] at n2; cases n2
      rw [upd_ne a2, upd_same]
    · have a0 : p ≠ d := ne_of_none e hn
      have a1 : p ≠ t1 := fun y => by rw [← y, upd_ne a0, e] at n1; cases n1
      have a2 : p ≠ t2 := fun y => by rw [← y, upd_ne a1, upd_ne a0, e] at n2; cases n2
      rw [upd_ne a2, upd_ne a1, upd_ne a0]; exact e
  · rintro ws t0 ⟨ps, H2, I2, rel, t1, t2, rfl, e0, e1, e2, keep⟩
    rw [hd]
    cases rel with
    | @cons _ w1 _ ws1 r1 rr =>
      cases rr with
      | @cons _ w2 _ ws2 r2 rr2 =>
        cases rr2
        obtain ⟨w1a, w1b⟩ := w1
        obtain ⟨w2a, w2b⟩ := w2
        obtain ⟨ra, rb⟩ := r1
        obtain ⟨rc, rd⟩ := r2
        obtain rfl : w1a = Value.ref t1 := ra
        obtain rfl : w2a = Value.ref t2 := rc
        obtain ⟨lz, hsys, vs0, r0, o, es, ep, g1, g2, g3, g4, g5⟩ := dk_of I2.hok e0
        cases r0
        have D0 : t0.heap.DictOfH (tupleKind (PpSet.boolK X.prog X.w)) d [] := by
          refine ⟨o, es, ep, g1, g2, g3, ?_, fun x hx => absurd hx List.not_mem_nil, List.nodup_nil⟩
          have g5' := g5.1
          generalize es.toList = L at g5'
          cases g5'
          rfl
        unfold storeAll
        rw [List.forIn_cons]
        refine wpAny_bind (wpAny_bind (wpAny_dictSet_heap (hsz := by simp) (knd := tupleKind (PpSet.boolK X.prog X.w)) (by show X.A.units < cLine; omega) (bkey_of I2.hok e1) D0 fun h1 D1 sb1 => wpAny_pure ?_))
        dsimp only
        rw [List.forIn_cons]
        have k2is : (tupleKind (PpSet.boolK X.prog X.w)).is h1 k2 t2 := by
          obtain ⟨o2, its, n2, q1, q2⟩ := bkey_of I2.hok e2
          refine ⟨o2, its, n2, (sb1.2 t2 fun y => ?_).trans q1, q2⟩
          rw [y, e0] at e2; cases e2
        refine wpAny_bind (wpAny_bind (wpAny_dictSet_heap (hsz := by simp [storedH, atKey]) (knd := tupleKind (PpSet.boolK X.prog X.w)) (by show X.A.units < cLine; omega) k2is D1 fun h2 D2 sb2 => wpAny_pure ?_))
        dsimp only
        rw [List.forIn_nil]
        refine wpAny_pure ?_
        have hk' : ¬ k1 = k2 := hk
        have ex1 : storedH (storedH ([] : List (List Bool × Addr × Value)) k1 t1 w1b) k2 t2 w2b = [(k1, t1, w1b), (k2, t2, w2b)] := by
          simp [storedH, atKey, hk']
        rw [ex1] at D2
        obtain ⟨o2, es2, ep2, g12, g22, g32, g42, g52, g62⟩ := D2
        have sb : Heap.SameBut d t0.heap h2 := by
          refine ⟨?_, fun b hb => (sb2.2 b hb).trans (sb1.2 b hb)⟩
          first | exact sb2.1.trans sb1.1 | exact sb1.1.trans sb2.1
        have I3 := d_write (t' := t0.toks + (k1.length + 1) + (k2.length + 1)) (ob := .ext fun g => g.get? d = some o2) I2 (by rw [e0]; exact True.intro) sb ⟨o2, g12⟩ ⟨g12, ⟨_, g12⟩, fun _ _ y k => k _ y⟩
        obtain ⟨H3, hH3⟩ : ∃ H3, upd H2 d (.ext fun g => g.get? d = some o2) = H3 := ⟨_, rfl⟩
        have n1 : t1 ≠ d := fun y => by rw [y, e0] at e1; cases e1
        have n2 : t2 ≠ d := fun y => by rw [y, e0] at e2; cases e2
        have nt : t ≠ d := fun y => by rw [y, hn] at ht; cases ht
        have f0 : H3 d = some (.ext fun g => g.get? d = some o2) := by rw [← hH3, upd_same]
        have f1 : H3 t1 = some (.tup (k1.map .bl)) := by rw [← hH3, upd_ne n1]; exact e1
        have f2 : H3 t2 = some (.tup (k2.map .bl)) := by rw [← hH3, upd_ne n2]; exact e2
        have ft : H3 t = some (.tup (bs.map .bl)) := by rw [← hH3, upd_ne nt]; exact keep _ _ ht
        have fk : ∀ p o, H p = some o → H3 p = some o := fun p o e => by rw [← hH3, upd_ne (ne_of_none e hn)]; exact keep _ _ e
        rw [hH3] at I3
        have xs3 : ∀ {H4 : Hp} {s4 : Shared}, Inv X pins σ H4 s4 → H4 = H3 → s4.heap.DictOfH (tupleKind (PpSet.boolK X.prog X.w)) d [(k1, t1, w1b), (k2, t2, w2b)] := fun {H4 s4} I4 e4 => by
          subst e4
          have y : s4.heap.get? d = some o2 := (show ObjOk X.prog X.w _ s4.heap d (.ext fun g => g.get? d = some o2) from I4.hok d _ f0).1
          refine ⟨o2, es2, ep2, y, g22, g32, g42, fun x hx => ?_, g62⟩
          simp only [List.mem_cons, List.not_mem_nil, or_false] at hx
          rcases hx with rfl | rfl
          · exact bkey_of I4.hok f1
          · exact bkey_of I4.hok f2
        refine ⟨(xs3 I3 rfl).typeIs, fun b e => by cases e; exact ⟨o2, g12, g22.2.1⟩, ?_⟩
        rw [m.trees]
        refine Calls.callWith_builtin rfl (Calls.evalArgs_plain (Calls.spliced_cons (thn (hx.run pins _ σ H3 (fun v H4 => v = .ref t ∧ H4 = H3) I3 ⟨_, hσ, rfl, rfl⟩) fun u s4 ⟨v4, H4, I4, r4, ev, eH⟩ => ?_)))
        subst ev eH
        obtain rfl : u = Value.ref t := r4
        refine Calls.spliced_cons (thn (hz.run pins s4 σ H4 (fun v H5 => v = .str z ∧ H5 = H4) I4 ⟨rfl, rfl⟩) fun fv s5 ⟨v5, H5, I5, r5, ev5, eH5⟩ => Calls.spliced_nil ?_)
        subst ev5 eH5
        refine call_meetsIn PySem.F.slot_dict_get (xs3 I5 rfl).typeIs PySem.F.entry_dict_get (PySem.F.args_dict_get_3 _ _ _) (meetsH_dict_get_default (tupleKind (PpSet.boolK X.prog X.w)) d t hsys fv)
          ⟨tupleKind_room_in1 hu, bs, _, bkey_of I5.hok ft, xs3 I5 rfl, ⟨_, H5, I5.tok _, ?_, q H5 fk⟩⟩
        by_cases b1 : bs = k1
        · subst b1
          simp only [atKey, List.find?, decide_true, Option.map_some, Option.getD_some, if_true]
          exact rb
        · by_cases b2 : bs = k2
          · subst b2
            have b3 : ¬ k1 = bs := hk
            simp only [atKey, List.find?, decide_true, decide_false, b3, b1, Option.map_some, Option.getD_some, if_true, if_false]
            exact rd
          · have b3 : ¬ k1 = bs := fun y => b1 y.symm
            have b4 : ¬ k2 = bs := fun y => b2 y.symm
            simp only [atKey, List.find?, decide_false, b1, b2, b3, b4, Option.map_none, Option.getD_none, if_false]
            exact r5
end
end TP
/-! TPee: isinstance of exceptions, calls of a def in a name, d.get of a dict of the top. -/
namespace TP
open PySem L2
section
variable {K : PySem.W.Frag} {E : Wish} {X : Cx} {e : Expr} {st : Stmt}
/-! ### more is tracked -/
theorem Wd.Ok.super {w : Wd} (ok : w.Ok K) {H' : Hp} (h : ∀ p o, w.H p = some o → H' p = some o) : Step K w ⟨w.A, w.G, w.M, H'⟩ := by
  refine ⟨⟨fun b u z => h _ _ (ok.sub _ _ z), ok.nd, ok.len, ok.out, fun k o z => ?_⟩, List.prefix_refl _, Same.refl _, fun p o z1 z2 z3 => ⟨h _ _ z1, .inl z2, z3⟩⟩
  obtain ⟨a, ea, r⟩ := ok.mos k o z
  refine ⟨a, ea, ?_⟩
  cases o with
  | lst ds => obtain ⟨vs, z, q⟩ := r; exact ⟨vs, h _ _ z, q⟩
  | dK ds => obtain ⟨vs, z, q⟩ := r; exact ⟨vs, h _ _ z, q⟩
  | dT ds => obtain ⟨vs, z, q⟩ := r; exact ⟨vs, h _ _ z, q⟩
  | ins c fs => obtain ⟨io, vs, dx, z, q⟩ := r; exact ⟨io, vs, dx, h _ _ z, q⟩
  | exc c d => exact exc_mono r (fun _ z => h _ _ z) (List.prefix_refl _) (Same.refl _)
/-! ### {(True, ..): ..}.get(x, ..) -/
def blsT : List D → Option (List Bool)
  | [] => some []
  | .bl b :: ds => (blsT ds).map (b :: ·)
  | _ => none
theorem blsT_at {A : List Addr} {G : Hp} : ∀ {vs : List V} {ds : List D} {bs : List Bool}, RepL K A G vs ds → blsT ds = some bs → vs = bs.map .bl
  | [], [], _, _, h => by cases h; rfl
  | v :: vs, d :: ds, bs, .cons r t, h => by
    cases d with
    | bl b =>
      cases r
      have h' : (blsT ds).map (b :: ·) = some bs := h
      cases q : blsT ds with
      | none => rw [q] at h'; cases h'
      | some bs' => rw [q] at h'; cases h'; rw [blsT_at t q]; rfl
    | _ => cases h
def dBGet (i : Nat) (k1 : List Bool) (s1 : Str) (k2 : List Bool) (s2 z : Str) : FD := fun ρ M => match ρ[i]? with
  | some (.val (.tup ds)) => match blsT ds with
    | some bs => .ok (.str (if bs = k1 then s1 else if bs = k2 then s2 else z)) M
    | none => .bad
  | _ => .bad
theorem x_bget {i : Nat} {k1 k2 : List Bool} {s1 s2 z : Str} (h : PE X e (tBG i k1 s1 k2 s2 z)) : PE X e (tF K E (dBGet i k1 s1 k2 s2 z)) := PE.wk h fun σ H Q ⟨ρ, w, e1, ok, sr, a⟩ => by
  subst e1
  unfold dBGet at a
  split at a
  · rename_i ds e2
    split at a
    · rename_i bs e3
      obtain ⟨v, hv, rv⟩ := sr.val i _ e2
      cases rv with
      | tup hs rl =>
        refine ⟨_, bs, hv, ?_, fun H' hH => ?_⟩
        · rw [← blsT_at rl e3]; exact ok.sub _ _ hs
        · exact a _ (ok.super hH) rfl _ (.str _)
    · exact a.elim
  · exact a.elim
/-! ### isinstance -/
open PySem.Spec PyProof.Rows in
/-- isinstance(e, C), isinstance(e, (C, ..)), e a kept exception -/
def rIsX (K : PySem.W.Frag) : List V → Hp → VK → Prop := fun xs H Q => ∃ (a D : Addr) (c : V) (b : Bool), xs = [.ref a, c] ∧ H a = some (exH (.ref D) none a) ∧ ExcC K D ∧
  ((∃ cv, (∀ u, RelV c u → u = cv) ∧ PySem.W.kitOne K (.ref D) cv = some b) ∨ ∃ (t : Addr) (Cs : List Addr), c = .ref t ∧ H t = some (.tup (Cs.map .ref)) ∧ PySem.W.kitAny K (.ref D) (Cs.map .ref) = some b) ∧ Q (.bl b) H
open PySem.Spec PyProof.Rows in
theorem refs_are : ∀ {Cs : List Addr} {us : List Value}, Vals (Cs.map V.ref) us → us = Cs.map .ref
  | [], _, r => by cases r; rfl
  | c :: cs, _, r => by
    cases r with
    | cons h t => obtain rfl : _ = Value.ref c := h; rw [refs_are t]; rfl
open PySem.Spec PyProof.Rows in
theorem call_isX : CallR X (.builtin "isinstance") (rIsX X.K) := by
  intro pins s σ H xs us Q I r ⟨a, D, c, b, ex, ha, T, hc, q⟩
  subst ex
  cases r with
  | cons rx rr =>
    cases rr with
    | cons rt rr =>
      cases rr
      cases rx
      obtain ⟨oe, vs, g1, g2, g3, g4⟩ := (show ObjOk X.prog X.w H s.heap a (exH (.ref D) none a) from I.hok a _ ha).1
      have J : PySem.W.InstAt s.heap a oe D none := by
        obtain ⟨oc, od, oda, osl⟩ := oe
        dsimp only at g2 g3 g4
        subst g2 g3 g4
        exact ⟨g1, rfl, rfl, trivial⟩
      have Z := PySem.W.handS_kitx_exc (K := X.K) (x := a) (ox := oe) T.hg T.hk T.hs T.hd T.ha T.hn T.ht T.hm
      rcases hc with ⟨cv, h1, h2⟩ | ⟨t, Cs, rfl, h1, h2⟩
      · have e1 := h1 _ rt
        subst e1
        exact PySem.W.kia_one Z I.kIn J h2 (fun z => nomatch z) fun tk => ⟨.bl b, H, I.kept (t' := tk) fun _ _ z => z, rfl, q⟩
      · cases rt
        obtain ⟨_, its, rv, o, p1, p2, n, p3⟩ := (show ObjOk X.prog X.w H s.heap t (.tup (Cs.map .ref)) from I.hok t _ h1)
        have e2 := refs_are rv
        subst e2
        obtain ⟨oc, od, oda, osl⟩ := o
        dsimp only at p2 p3
        subst p2 p3
        exact PySem.W.kia_tup Z I.kIn J p1 h2 (fun z => nomatch z) fun tk => ⟨.bl b, H, I.kept (t' := tk) fun _ _ z => z, rfl, q⟩
abbrev ExTab := List (Nat × Str × Bool)
def exFind (L : ExTab) (c : Nat) (C : Str) : Option Bool := (L.find? fun x => decide (x.1 = c ∧ x.2.1 = C)).map (·.2.2)
def exAny (L : ExTab) (c : Nat) : List D → Option Bool
  | [] => some false
  | .fn C :: ds => match exFind L c C, exAny L c ds with
    | some b, some b' => some (b || b')
    | _, _ => none
  | _ => none
def isXD (L : ExTab) (M : Store) (ds : List D) : Option Slot := match ds with
  | [.ref k, .fn C] => match M[k]? with
    | some (.exc c _) => (exFind L c C).map fun b => .val (.bl b)
    | _ => none
  | [.ref k, .tup cs] => match M[k]? with
    | some (.exc c _) => if (exFind L c (exN c)).isSome = true then (exAny L c cs).map fun b => .val (.bl b) else none
    | _ => none
  | _ => none
/-- what the table says is so -/
def TabEx (K : PySem.W.Frag) (L : ExTab) : Prop := ∀ x ∈ L, exI x.1 = false ∧ ExcC K (clsAt K (exN x.1)) ∧ PySem.W.kitOne K (.ref (clsAt K (exN x.1))) (.ref (clsAt K x.2.1)) = some x.2.2
theorem TabEx.at {L : ExTab} (T : TabEx K L) {c : Nat} {C : Str} {b : Bool} (h : exFind L c C = some b) : exI c = false ∧ ExcC K (clsAt K (exN c)) ∧ PySem.W.kitOne K (.ref (clsAt K (exN c))) (.ref (clsAt K C)) = some b := by
  unfold exFind at h
  cases q : L.find? fun x => decide (x.1 = c ∧ x.2.1 = C) with
  | none => rw [q] at h; cases h
  | some x =>
    rw [q] at h
    cases h
    have h1 := List.find?_some q
    simp only [decide_eq_true_eq] at h1
    obtain ⟨e1, e2⟩ := h1
    have := T x (List.mem_of_find?_eq_some q)
    rw [e1, e2] at this
    exact this
theorem exAny_kit {L : ExTab} (T : TabEx K L) {A : List Addr} {G : Hp} {c : Nat} : ∀ {ds : List D} {vs : List V} {b : Bool}, RepL K A G vs ds → exAny L c ds = some b → ∃ Cs : List Addr, vs = Cs.map .ref ∧ PySem.W.kitAny K (.ref (clsAt K (exN c))) (Cs.map .ref) = some b
  | [], _, b, .nil, h => ⟨[], rfl, h⟩
  | d :: ds, v :: vs, b, .cons r t, h => by
    cases d with
    | fn C =>
      cases r
      have h' : (match exFind L c C, exAny L c ds with | some b, some b' => some (b || b') | _, _ => none) = some b := h
      cases q : exFind L c C with
      | none => rw [q] at h'; cases h'
      | some b1 =>
        rw [q] at h'
        cases q2 : exAny L c ds with
        | none => rw [q2] at h'; cases h'
        | some b2 =>
          rw [q2] at h'
          cases h'
          obtain ⟨Cs, rfl, h2⟩ := exAny_kit T t q2
          refine ⟨clsAt K C :: Cs, rfl, ?_⟩
          show PySem.W.kitAny K _ (Value.ref (clsAt K C) :: Cs.map .ref) = _
          unfold PySem.W.kitAny
          rw [(T.at q).2.2]
          cases b1
          · exact h2
          · rfl
    | _ => cases h
theorem p_isX {L : ExTab} (T : TabEx K L) : PrimN K (rIsX K) (isXD L) := by
  intro w vs ds s Q ok r h k
  unfold isXD at h
  split at h
  · rename_i j C
    split at h
    · rename_i c d e2
      cases q : exFind L c C with
      | none => rw [q] at h; cases h
      | some b =>
        rw [q] at h
        cases h
        obtain ⟨v, v', rfl, r1, r2⟩ := r.two
        obtain ⟨a, rfl, ea⟩ := ref_at r1
        obtain ⟨a', ea', dx, hH, hx⟩ := ok.mos j _ e2
        rw [ea] at ea'
        cases ea'
        obtain ⟨t1, t2, t3⟩ := T.at q
        have hd : dx = none := hx.elim (fun z => z.2) fun z => by rw [t1] at z; cases z.1
        subst hd
        refine ⟨a, _, v', b, rfl, hH, t2, .inl ⟨.ref (clsAt K C), fun u z => ?_, t3⟩, k _ w (Step.refl ok) rfl (.bl b)⟩
        rcases r2 with r2 | ⟨_, _, _, _, z2, _⟩
        · cases r2; exact z
        · cases z2
    · cases h
  · rename_i j cs
    split at h
    · rename_i c d e2
      split at h
      · rename_i hs
        obtain ⟨b0, q0⟩ := Option.isSome_iff_exists.mp hs
        obtain ⟨t1, t2, _⟩ := T.at q0
        cases q : exAny L c cs with
        | none => rw [q] at h; cases h
        | some b =>
          rw [q] at h
          cases h
          obtain ⟨v, v', rfl, r1, r2⟩ := r.two
          obtain ⟨a, rfl, ea⟩ := ref_at r1
          obtain ⟨a', ea', dx, hH, hx⟩ := ok.mos j _ e2
          rw [ea] at ea'
          cases ea'
          have hd : dx = none := hx.elim (fun z => z.2) fun z => by rw [t1] at z; cases z.1
          subst hd
          rcases r2 with r2 | ⟨_, _, _, _, z2, _⟩
          · cases r2 with
            | tup hs rl =>
              obtain ⟨Cs, rfl, hk⟩ := exAny_kit T rl q
              exact ⟨a, _, _, b, rfl, hH, t2, .inr ⟨_, Cs, rfl, ok.sub _ _ hs, hk⟩, k _ w (Step.refl ok) rfl (.bl b)⟩
          · cases z2
      · cases h
    · cases h
  · cases h
/-- isinstance(e, ValueError) -/
def isVE (L : ExTab) (M : Store) (ds : D) : Option Slot := match ds with
  | .ref k => match M[k]? with
    | some (.exc c _) => if (exFind L c (exN c)).isSome = true then some (.val (.bl true)) else none
    | _ => none
  | _ => none
def TabVE (K : PySem.W.Frag) (L : ExTab) : Prop := ∀ x ∈ L, PySem.W.kitOne K (.ref (clsAt K (exN x.1))) (.type "ValueError") = some true
theorem x_isVE {L : ExTab} {f : FD} (T : TabEx K L) (T2 : TabVE K L) (h : PE X e (tCB (rIsX K) (tCons (tR K E f) (tCons (tC (.ty "ValueError")) tNil)))) : PE X e (tE K E (dOp1 (isVE L) f)) := PE.wk h fun σ H Q ⟨ρ, w, e1, ok, sr, a⟩ =>
  ⟨ρ, w, e1, ok, sr, a.bind.imp fun x w1 s1 a1 v rv => by
    obtain ⟨s, es, k⟩ := fin_of s1 a1
    unfold isVE at es
    split at es
    · rename_i j
      split at es
      · rename_i c d e2
        split at es
        · rename_i hs
          cases es
          obtain ⟨b0, q0⟩ := Option.isSome_iff_exists.mp hs
          obtain ⟨t1, t2, _⟩ := T.at q0
          obtain ⟨a, rfl, ea⟩ := ref_at rv
          obtain ⟨a', ea', dx, hH, hx⟩ := s1.ok.mos j _ e2
          rw [ea] at ea'
          cases ea'
          have hd : dx = none := hx.elim (fun z => z.2) fun z => by rw [t1] at z; cases z.1
          subst hd
          have hv : PySem.W.kitOne K (.ref (clsAt K (exN c))) (.type "ValueError") = some true := by
            unfold exFind at q0
            cases q : L.find? fun x => decide (x.1 = c ∧ x.2.1 = exN c) with
            | none => rw [q] at q0; cases q0
            | some x =>
              have h1 := List.find?_some q
              simp only [decide_eq_true_eq] at h1
              have := T2 x (List.mem_of_find?_eq_some q)
              rw [h1.1] at this
              exact this
          exact ⟨a, _, _, true, rfl, hH, t2, .inl ⟨.type "ValueError", fun u z => z, hv⟩, k _ w1 (Step.refl s1.ok) rfl (.bl true)⟩
        · cases es
      · cases es
    · cases es⟩
end
end TP
/-! TPef: d.get of a dict of the top, calls of a def that a name holds. -/
namespace TP
open PySem L2
section
open PySem.Spec PyProof.Rows
variable {K : PySem.W.Frag} {E : Wish} {X : Cx} {e : Expr}
def keyStr (e : DictEntry) : Option Str := match e.key with
  | .str x _ => some x
  | _ => none
def tabFull (es : Array DictEntry) (tab : List (Str × D)) : Bool := es.toList.map keyStr == tab.map fun kv => some kv.1
/-- a dict of the top, all of it -/
structure TabAll (K : PySem.W.Frag) (w : World) (q : Addr) (tab : List (Str × D)) : Prop where
  some_ : TabOk K w q tab
  sys : (q == sysModules) = false
  ex : ∃ es n, K.lookup q = some ⟨.type "dict", none, .dict es n, #[]⟩ ∧ PySem.W.KeysLit w.params es.toList ∧ ∀ z, tabFind tab z = none → findBy Value.isStrOf es z = none
theorem tab_all {w : World} {q : Addr} {tab : List (Str × D)} {es : Array DictEntry} {n : Nat} (hl : K.lookup q = some ⟨.type "dict", none, .dict es n, #[]⟩) (hk : PySem.W.KeysLit w.params es.toList) (ht : tabIs K q tab = true) (hf : tabFull es tab = true) (hs : (q == sysModules) = false) : TabAll K w q tab := by
  refine ⟨tab_ok hl hk ht, hs, es, n, hl, hk, fun z hz => ?_⟩
  obtain ⟨l⟩ := es
  unfold findBy
  rw [List.find?_toArray]
  have h1 : l.map keyStr = tab.map fun kv => some kv.1 := by
    have := hf
    unfold tabFull at this
    exact eq_of_beq this
  have h2 : l.find? (fun e => Value.isStrOf z e.key) = none := by
    rw [List.find?_eq_none]
    intro d hd y
    obtain ⟨t, ek⟩ := Value.isStrOf_shape y
    have h3 : some z ∈ l.map keyStr := List.mem_map.mpr ⟨d, hd, by unfold keyStr; rw [ek]⟩
    rw [h1] at h3
    obtain ⟨kv, hkv, e2⟩ := List.mem_map.mp h3
    unfold tabFind at hz
    cases q2 : tab.find? fun kv => decide (kv.1 = z) with
    | some x => rw [q2] at hz; cases hz
    | none =>
      have := List.find?_eq_none.mp q2 kv hkv
      simp only [decide_eq_true_eq] at this
      exact this (Option.some.inj e2)
  rw [h2]
  rfl
def tTG (K : PySem.W.Frag) (tab : List (Str × D)) (ty tz : TE) : TE := fun σ H Q => ty σ H fun y H1 => tz σ H1 fun z H2 => ∃ s, y = .str s ∧ (∀ d, tabFind tab s = some d → ∀ v, (∀ A G, Rep K A G v d) → Q v H2) ∧ (tabFind tab s = none → Q z H2)
variable {o ey ez : Expr} {apos cpos : Pos} {ty tz : TE} {q : Addr} {tab : List (Str × D)}
theorem pe_tget (T : TabAll X.K X.w q tab) (ho : PE X o (tC (.ref q))) (hy : PE X ey ty) (hz : PE X ez tz) (m : M2 X o "get" apos ey ez cpos) : PE X (.Call (.Attribute o "get" apos) [ey, ez] [] cpos) (tTG X.K tab ty tz) := by
  constructor
  intro pins s σ H Q I h
  obtain ⟨es, n, hl, hk, hm⟩ := T.ex
  refine wpAny_Call_method m.base m.few m.line PySem.F.plainAttrs_dict PySem.F.slot_dict_get PySem.F.type_dict_get (thn (ho.run pins s σ H (fun v H1 => v = .ref q ∧ H1 = H) I ⟨rfl, rfl⟩) ?_)
  rintro u s1 ⟨x, H1, I1, rx, rfl, rfl⟩
  obtain rfl : u = Value.ref q := rx
  have m1 := PySem.W.mapOf_K (prog := X.prog) (w := X.w) I1.kIn hl hk
  refine ⟨m1.typeIs, fun b e => by cases e; exact ⟨_, I1.kIn _ _ hl, rfl⟩, ?_⟩
  rw [m.trees]
  refine Calls.callWith_builtin rfl (Calls.evalArgs_plain (Calls.spliced_cons (thn (hy.run pins s1 σ _ _ I1 h) fun iv s2 ⟨y, H2, I2, ry, q2⟩ =>
    Calls.spliced_cons (thn (hz.run pins s2 σ H2 _ I2 q2) fun fv s3 ⟨z, H3, I3, rz, k, ek, q3, q4⟩ => Calls.spliced_nil ?_))))
  subst ek
  obtain ⟨t, rfl⟩ := (show ∃ t, iv = Value.str k t from ry)
  have m3 := PySem.W.mapOf_K (prog := X.prog) (w := X.w) I3.kIn hl hk
  refine call_meetsIn PySem.F.slot_dict_get m3.typeIs PySem.F.entry_dict_get (PySem.F.args_dict_get_3 _ _ _) (meets_dict_get_default (strKind X.prog X.w) q (strKind_is X.prog X.w k t) T.sys fv) ⟨_, m3, ?_⟩
  cases r : tabFind tab k with
  | none =>
    rw [hm k r]
    exact ⟨z, H3, I3.tok _, rz, q4 r⟩
  | some d =>
    obtain ⟨v, ⟨es', n', u', hl', hk', hn, ru⟩, rv⟩ := T.some_.at_ k d r
    rw [hl] at hl'
    cases hl'
    rw [PySem.W.find_K hl hn]
    exact ⟨v, H3, I3.tok _, ru, q3 d r v rv⟩
def dTabGet (tab : List (Str × D)) (f fd : FD) : FD := fun ρ M => (f ρ M).bind fun y M => (fd ρ M).bind fun z M => match y with
  | .str s => .ok ((tabFind tab s).getD z) M
  | _ => .bad
theorem x_tget {f fd : FD} (hK : X.K = K) (h : PE X e (tTG X.K tab (tR K E f) (tF K E fd))) : PE X e (tF K E (dTabGet tab f fd)) := PE.wk h fun σ H Q ⟨ρ, w, e1, ok, sr, a⟩ =>
  ⟨ρ, w, e1, ok, sr, a.bind.imp fun y w1 s1 a1 vy ry => ⟨ρ, w1, rfl, s1.ok, sr.step s1, a1.bind.imp fun z w2 s2 a2 vz rz => by
    split at a2
    · rename_i s
      refine ⟨s, str_at (ry.step s2), fun d hd v rv => ?_, fun hn => ?_⟩
      · rw [hd] at a2
        exact a2 w2 (Step.refl s2.ok) rfl v (hK ▸ rv _ _)
      · rw [hn] at a2
        exact a2 w2 (Step.refl s2.ok) rfl _ rz
    · exact a2.elim⟩⟩
end
/-! ### a name that holds a def -/
theorem lookP {α : Type} {f g : Str} {y : α} {fs : List (Str × α)} : ((f, y) :: fs).lookup g = if g = f then some y else fs.lookup g := by
  by_cases h : g = f
  · subst h
    simp [List.lookup]
  · have e : (g == f) = false := by simpa using h
    rw [if_neg h]
    simp [List.lookup, e]
/-- the def of this name keeps m -/
structure HeldG (P : Program) (w : World) (K : PySem.W.Frag) (mg : Str → Option Value) (base : Heap) (CX : CXT) (k : Nat) (We : XK → Wish) (n : Nat) (c : Str) (m : Fn) : Prop where
  ex : ∃ (fd : FuncData) (ps : List Str), GOk P w K mg base CX k (clsAt K c) fd ps (spD K We n m) ∧ PySem.W.keepIn K (.ref (clsAt K c)) = true ∧ Binds K fd ps []
theorem held_mk {P : Program} {w : World} {K : PySem.W.Frag} {mg : Str → Option Value} {base : Heap} {CX : CXT} {k : Nat} {We : XK → Wish} {n : Nat} {c : Str} {m : Fn} {f : Addr} {fd : FuncData} {ps : List Str} (hf : clsAt K c = f) (F : GOk P w K mg base CX k f fd ps (spD K We n m)) (hk : PySem.W.keepIn K (.ref f) = true) (hb : Binds K fd ps []) : HeldG P w K mg base CX k We n c m := by
  subst hf
  exact ⟨fd, ps, F, hk, hb⟩
abbrev HeldT (P : Program) (w : World) (K : PySem.W.Frag) (mg : Str → Option Value) (base : Heap) (CX : CXT) (k : Nat) (We : XK → Wish) (n : Nat) (Φ : Nat → Fn) (tab : List (Str × Nat)) : Prop := ∀ c j, tab.lookup c = some j → HeldG P w K mg base CX k We n c (Φ j)
section
variable {P : Program} {w : World} {K : PySem.W.Frag} {mg : Str → Option Value} {base : Heap} {CX : CXT} {k n : Nat} {We : XK → Wish} {Φ : Nat → Fn} {tab : List (Str × Nat)}
theorem held_nil : HeldT P w K mg base CX k We n Φ [] := fun c j h => by cases h
theorem held_cons {c : Str} {j : Nat} (h : HeldG P w K mg base CX k We n c (Φ j)) (t : HeldT P w K mg base CX k We n Φ tab) : HeldT P w K mg base CX k We n Φ ((c, j) :: tab) := fun c' j' e => by
  rw [lookP] at e
  by_cases hc : c' = c
  · rw [if_pos hc] at e
    cases e
    subst hc
    exact h
  · rw [if_neg hc] at e
    exact t c' j' e
end
def dCallV (i n : Nat) (tab : List (Str × Nat)) (Φ : Nat → Fn) (fs : FL) : FE := fun ρ M => match ρ[i]? with
  | some (.val (.fn c)) => match tab.lookup c with
    | some j => dCall n (Φ j) fs ρ M
    | none => .bad
  | _ => .bad
section
variable {X : Cx} {E : Wish} {CX : CXT} {k i n : Nat} {We : XK → Wish} {Φ : Nat → Fn} {tab : List (Str × Nat)} {EX : XK} {x : Str} {p pos : Pos} {e : Expr} {es : List Expr} {fs : FL}
theorem x_callV (hh : HeldT X.prog X.w X.K X.mg X.base CX k We n Φ tab) (hr : Room k X.A) (hq : X.A.guards = some []) (hN : X.N[i]? = some x) (hv : Vis X.env.scope x) (hx : Passes CX X EX) (hE : We EX = E) (ha : PA X (e :: es) (tAF X.K E fs))
    (hdb : (x == ("__debug__" : Str)) = false := by decide) (hcd : (x == ("__classdict__" : Str)) = false := by decide)
    (he : starEach (e :: es) X.env = (false, eval e X.env) :: starEach es X.env := by rfl) (hpl : (backTo pos (starEach es X.env)).any (·.1) = false := by rfl) : PE X (.Call (.Name x p) (e :: es) [] pos) (tE X.K E (dCallV i n tab Φ fs)) := by
  constructor
  rintro pins s σ H Q I ⟨ρ, w, e1, ok, sr, a⟩
  unfold dCallV at a
  split at a
  · rename_i c ec
    split at a
    · rename_i j ej
      obtain ⟨fd, ps, F, hk, hb⟩ := (hh c j ej).ex
      obtain ⟨v, hσ, rv⟩ := sr.val i _ ec
      cases rv
      refine wpAny_Call_Name_kw (thn ((pe_var (pos := p) hN hv hdb hcd).run pins s σ H (fun v H1 => v = .ref (clsAt X.K c) ∧ H1 = H) I ⟨_, hσ, rfl, rfl⟩) fun u s1 ⟨v, H1, I1, r1, q1⟩ => ?_)
      obtain ⟨rfl, rfl⟩ := q1
      cases r1
      subst e1
      refine PySem.W.callWith_K (h₀ := X.base) I.ok.mod.kin hk (thn (ha.run pos pins s1 σ _ (fun vs H2 => spD X.K We n (Φ j) vs H2 Q EX) I1 ⟨ρ, w, rfl, ok, sr, a.bind.imp fun ds w1 s1 a1 vs rvs => ?_⟩) fun us s2 ⟨vs, H2, I2, r, q⟩ => ⟨I2.kIn, g_run F hr hq hb hx I2 r q⟩) he hpl
      split at a1
      · rename_i hn
        subst hE
        exact ⟨by rw [rvs.length]; exact hn, ds, w1, rfl, s1.ok, rvs, a1.imp fun s w2 _ z v rv => z v (rv.back s1)⟩
      · exact a1.elim
    · exact a.elim
  · exact a.elim
end
end TP
/-! TPeg: what the printed proofs with exceptions use besides. -/
namespace TP
open PySem L2
section
variable {K : PySem.W.Frag}
theorem g_zeroE {P : Program} {wo : World} {mg : Str → Option Value} {base : Heap} {CX : CXT} {We : XK → Wish} {f : Addr} {fd : FuncData} {ps : List Str} {n k : Nat} (hn : n = ps.length := by rfl) : GOk P wo K mg base CX k f fd ps (spD K We n (fun _ _ => .bad)) :=
  ⟨fun vs H Q EX h => h.1.trans hn, fun A outer s H args us vs Q EX _ _ _ _ _ h => by
    obtain ⟨_, ds, w, _, _, _, a⟩ := h
    exact a.elim⟩
/-- what a clause catches, as a list -/
def csOf (l : List Nat) (c : Nat) : Bool := l.contains c
structure CsOk (K : PySem.W.Frag) (l : List Nat) (C : Value) : Prop where
  all : ∀ c ∈ l, PySem.W.exmOne K (.ref (clsAt K (exN c))) C = some true
theorem cs_nil {C : Value} : CsOk K [] C := ⟨fun c h => absurd h List.not_mem_nil⟩
theorem cs_cons {c : Nat} {l : List Nat} {C : Value} (h : PySem.W.exmOne K (.ref (clsAt K (exN c))) C = some true) (t : CsOk K l C) : CsOk K (c :: l) C := ⟨fun x hx => by
  rcases List.mem_cons.mp hx with rfl | hx
  · exact h
  · exact t.all x hx⟩
theorem CsOk.at {l : List Nat} {C : Value} (h : CsOk K l C) (c : Nat) (hc : csOf l c = true) : PySem.W.exmOne K (.ref (clsAt K (exN c))) C = some true := h.all c (by unfold csOf at hc; simpa using hc)
/-- the table of isinstance, row by row -/
theorem tabex_nil : TabEx K [] := fun x h => absurd h List.not_mem_nil
theorem tabex_cons {c : Nat} {C : Str} {b : Bool} {L : ExTab} (h1 : exI c = false) (h2 : ExcC K (clsAt K (exN c))) (h3 : PySem.W.kitOne K (.ref (clsAt K (exN c))) (.ref (clsAt K C)) = some b) (t : TabEx K L) : TabEx K ((c, C, b) :: L) := fun x hx => by
  rcases List.mem_cons.mp hx with rfl | hx
  · exact ⟨h1, h2, h3⟩
  · exact t x hx
theorem tabve_nil : TabVE K [] := fun x h => absurd h List.not_mem_nil
theorem tabve_cons {c : Nat} {C : Str} {b : Bool} {L : ExTab} (h : PySem.W.kitOne K (.ref (clsAt K (exN c))) (.type "ValueError") = some true) (t : TabVE K L) : TabVE K ((c, C, b) :: L) := fun x hx => by
  rcases List.mem_cons.mp hx with rfl | hx
  · exact h
  · exact t x hx
end
section
open PySem.Spec PyProof.Rows
variable {K : PySem.W.Frag}
/-- a def that may raise own exceptions, of any kind -/
theorem g_fnY {P : Program} {wo : World} {mg : Str → Option Value} {base : Heap} {x qual : Str} {st : Stmt} {f : Addr} {fd : FuncData} {N ps : List Str} {k : Nat} {g : FS} (F : Fun K x qual st f fd) (S : FnScope N ps (defScope st))
    (hbody : ∀ (cdv : Value) (A : Around) (outer : List Env) (s : Shared) (H : Hp) (EX : XK), Room k (A.deeper (envOfC qual (defScope st) s.heap.objs.size f cdv)) → (A.deeper (envOfC qual (defScope st) s.heap.objs.size f cdv)).guards = some [] →
      PSs (cxOf (L2.CX P wo) P wo K mg base N qual (defScope st) f cdv A outer s H EX) (defBody st) (tS K (W1 K EX) g)) : GOk P wo K mg base (L2.CX P wo) (k + 1) f fd ps (spD K (W1 K) ps.length (runF N.length g)) := by
  refine g_of F S (fun vs H Q EX h => h.1) (fun cdv A outer s H vs Q EX hr hq h => ?_)
  refine ⟨_, hbody cdv A outer s H EX hr hq, ?_⟩
  obtain ⟨hl, ds, w, rfl, ok, rl, a⟩ := h
  refine ⟨startD N.length ds, w, w, rfl, Step.refl ok, SR.start rl, OF.start w _ _ _, ?_⟩
  unfold runF at a
  cases q : g (startD N.length ds) w.M with
  | next ρ M => rw [q] at a; exact fun w' σ s' _ eM _ _ => a w' s' eM .non .non
  | ret y M => rw [q] at a; exact fun w' v s' eM rv => a w' s' eM v rv
  | exc c d M => rw [q] at a; exact fun w1 s1 _ e1 => a w1 s1 e1
  | brk ρ M => rw [q] at a; exact a.elim
  | cont ρ M => rw [q] at a; exact a.elim
  | bad => rw [q] at a; exact a.elim
variable {X : Cx} {W : WX} {EX : XK}
theorem passNY (tk : L2.Takes X (fun cls d _ H => EX cls d H)) : Passes (L2N.CX X.prog X.w) X EX := fun pins σ H s e s' I c => tk e s' (L2.XE.of_call I (fun _ _ _ h => h) (cxN_cx c))
end
@[simp] theorem sRaise_eq (c : Nat) (ρ : EnvD) (M : Store) : sRaise c ρ M = .exc c .non M := rfl
@[simp] theorem sRaiseA_eq (c : Nat) (f : FD) (ρ : EnvD) (M : Store) : sRaiseA c f ρ M = (f ρ M).out fun d M => .exc c d M := rfl
@[simp] theorem sTryE_eq (cs : Nat → Bool) (body suite orelse : FS) (ρ : EnvD) (M : Store) : sTryE cs body suite orelse ρ M = match body ρ M with
  | .exc c d M' => if cs c = true then suite (dropOwn ρ) M' else .bad
  | .next ρ' M' => orelse ρ' M'
  | o => o := rfl
@[simp] theorem sHold_eq (cs : Nat → Bool) (body : FS) (i j : Nat) (ρ : EnvD) (M : Store) : sHold cs body i j ρ M = match body ρ M with
  | .exc c d M' => if cs c = true then .next (((dropOwn ρ).set i .un).set j (.val (.ref M'.length))) (M' ++ [.exc c d]) else .bad
  | o => o := rfl
@[simp] theorem dropOwn_nil : dropOwn [] = [] := rfl
@[simp] theorem dropOwn_cons (s : Slot) (ρ : EnvD) : dropOwn (s :: ρ) = unOwn s :: dropOwn ρ := rfl
@[simp] theorem unOwn_un : unOwn .un = .un := rfl
@[simp] theorem unOwn_val (d : D) : unOwn (.val d) = .val d := rfl
@[simp] theorem unOwn_own (ds : List D) : unOwn (.own ds) = .un := rfl
@[simp] theorem dBGet_eq (i : Nat) (k1 : List Bool) (s1 : Str) (k2 : List Bool) (s2 z : Str) (ρ : EnvD) (M : Store) : dBGet i k1 s1 k2 s2 z ρ M = match ρ[i]? with
  | some (.val (.tup ds)) => match blsT ds with
    | some bs => .ok (.str (if bs = k1 then s1 else if bs = k2 then s2 else z)) M
    | none => .bad
  | _ => .bad := rfl
@[simp] theorem dTabGet_eq (tab : List (Str × D)) (f fd : FD) (ρ : EnvD) (M : Store) : dTabGet tab f fd ρ M = (f ρ M).bind fun y M => (fd ρ M).bind fun z M => match y with
  | .str s => .ok ((tabFind tab s).getD z) M
  | _ => .bad := rfl
@[simp] theorem dCallV_eq (i n : Nat) (tab : List (Str × Nat)) (Φ : Nat → Fn) (fs : FL) (ρ : EnvD) (M : Store) : dCallV i n tab Φ fs ρ M = match ρ[i]? with
  | some (.val (.fn c)) => match tab.lookup c with
    | some j => dCall n (Φ j) fs ρ M
    | none => .bad
  | _ => .bad := rfl
end TP
/-! TPeh: len(set(t)), t a tuple of texts. -/
namespace TP
open PySem L2
/-- how many texts there are among the first i -/
def cntS (xs : List Str) : Nat → Nat
  | 0 => 0
  | i + 1 => if (xs.take i).any (· == xs.getD i Str.empty) then cntS xs i else cntS xs i + 1
theorem cntS_succ (xs : List Str) (i : Nat) : cntS xs (i + 1) = if (xs.take i).any (· == xs.getD i Str.empty) then cntS xs i else cntS xs i + 1 := rfl
theorem cntS_le (xs : List Str) : ∀ i, cntS xs i ≤ i
  | 0 => Nat.le_refl _
  | i + 1 => by
    have := cntS_le xs i
    unfold cntS
    split <;> omega
theorem any_take {xs : List Str} {i : Nat} (hi : i < xs.length) (k : Str) : (xs.take (i + 1)).any (· == k) = ((xs.take i).any (· == k) || decide (k = xs.getD i Str.empty)) := by
  rw [List.take_succ, List.any_append, List.getElem?_eq_getElem hi, List.getD_eq_getElem?_getD, List.getElem?_eq_getElem hi]
  congr 1
  show ([xs[i]].any fun y => y == k) = decide (k = xs[i])
  by_cases e : k = xs[i]
  · subst e; simp
  · have hb : (xs[i] == k) = false := by simpa [beq_iff_eq] using fun y : xs[i] = k => e y.symm
    simp [hb, e]
theorem cntS_full {xs : List Str} : ∀ i, i ≤ xs.length → (cntS xs i = i ↔ (xs.take i).Nodup)
  | 0, _ => by simp [cntS]
  | i + 1, h => by
    have ih := cntS_full (xs := xs) i (by omega)
    have hl := cntS_le xs i
    have hi : i < xs.length := h
    have e : xs.take (i + 1) = xs.take i ++ [xs[i]] := by rw [List.take_succ, List.getElem?_eq_getElem hi]; rfl
    have eg : xs.getD i Str.empty = xs[i] := by rw [List.getD_eq_getElem?_getD, List.getElem?_eq_getElem hi]; rfl
    rw [e]
    unfold cntS
    rw [eg, List.nodup_append]
    by_cases q : (xs.take i).any (· == xs[i]) = true
    · rw [if_pos q]
      obtain ⟨y, hy, ey⟩ := List.any_eq_true.mp q
      have ey' : y = xs[i] := by simpa using ey
      refine ⟨fun z => by omega, fun z => ?_⟩
      exact absurd ey' (z.2.2 y hy _ (List.mem_singleton.mpr rfl))
    · rw [if_neg q]
      refine ⟨fun z => ⟨ih.mp (by omega), by simp, fun y hy z hz ez => q (List.any_eq_true.mpr ⟨y, hy, ?_⟩)⟩, fun z => by rw [ih.mpr z.1]⟩
      rw [List.mem_singleton.mp hz] at ez
      simpa using ez
section
open PySem.Spec PyProof.Rows
variable {prog : Program} {w : World} {A : Around} {R : Result → Shared → Prop} {it : Addr} {fp wr : List Addr} {G : Array GenState → Array GenState → Prop} {n : Nat} {P : Nat → Value → Prop} {At : Nat → Shared → Prop}
abbrev SetN (prog : Program) (w : World) (h : Heap) (S : Addr) (xs : List Str) (i : Nat) : Prop := h.SetOf (strKind prog w) S (fun y => (xs.take i).any (· == y)) (cntS xs i)
theorem SetN.stay {h h2 : Heap} {S : Addr} {xs : List Str} {i : Nat} (z : SetN prog w h S xs i) (k : ∀ o, h.get? S = some o → h2.get? S = some o) : SetN prog w h2 S xs i := by
  obtain ⟨o, es, ep, tb, q, r⟩ := z
  exact ⟨o, es, ep, tb, k o q, r⟩
theorem set_loop (W : WalksS prog w A.in1 it fp wr G n P At) (S : Addr) (nS : S ∉ fp) (xs : List Str) (el : xs.length = n) (hb : n + 1 < scanBound) (val : ∀ i v, P i v → ∃ t, v = .str (xs.getD i Str.empty) t) :
    ∀ (m i : Nat) (s : Shared), i + m = n → At i s → SetN prog w s.heap S xs i → (∀ s2, Moved (S :: wr) G s s2 → SetN prog w s2.heap S xs n → R (.ok (.ret .none)) s2) →
      codeAny (model prog w) A (.builtin "set.update.loop" ⟨[.ref S, .ref it], []⟩) R s := by
  have nw : S ∉ wr := fun z => nS (W.sub _ z)
  intro m
  induction m with
  | zero =>
    intro i s e0 st z k
    obtain rfl : i = n := by omega
    refine codeAny_builtin PyProof.Rows.F.entry_set_update_loop (by
      rw [Around.under_plainId PyProof.Rows.F.plain_set_update_loop _]
      show wpAny _ A.in1 (pyNext (Value.ref it) >>= _) _ _ s
      exact wpAny_bind (W.done s _ _ st fun s2 mv => wpAny_pure (k s2 (mv.mono fun b hb => List.mem_cons_of_mem _ hb) (z.stay fun o => mv.heap S o nw))))
  | succ m ih =>
    intro i s e0 st z k
    have lt : i < n := by omega
    refine codeAny_builtin PyProof.Rows.F.entry_set_update_loop (by
      rw [Around.under_plainId PyProof.Rows.F.plain_set_update_loop _]
      show wpAny _ A.in1 (pyNext (Value.ref it) >>= _) _ _ s
      refine wpAny_bind (W.item i s _ _ lt st fun v s2 hv st2 mv => ?_)
      obtain ⟨t, rfl⟩ := val i v hv
      have z2 : SetN prog w s2.heap S xs i := z.stay fun o => mv.heap S o nw
      obtain ⟨y, ey⟩ : ∃ y, xs.getD i Str.empty = y := ⟨_, rfl⟩
      rw [ey]
      show wpAny _ A.in1 (holding [Value.str y t] (setAdd S (.str y t)) >>= _) _ _ s2
      refine wpAny_bind (wpAny_holding (by
        unfold setAdd
        refine wpAny_holding (wpAny_bind ((strKind prog w).pyHash (k := y) (strKind_is _ _ _ _) ?_))
        have room : cntS xs i + 1 < scanBound := by have := cntS_le xs i; omega
        refine wpAny_setAddHashed_of (knd := strKind prog w) (s := { s2 with toks := s2.toks + 1 }) (strKind_is _ _ _ _) rfl z2 room fun h3 sb z3 => ?_
        have z4 : SetN prog w h3 S xs (i + 1) := SetOf_congr z3 (fun k2 => by rw [any_take (by omega), ey]) (by rw [cntS_succ, ey])
        refine wpAny_pure ⟨plainId_quiet PyProof.Rows.F.plain_set_update_loop _, ih (i + 1) _ (by omega) (W.frame _ s2 _ _ st2 (Nat.le_succ _) fun b hb o eo => ?_) z4 fun s5 mv5 z5 => k s5 (Moved.trans W.gtrans ((mv.mono fun b hb => List.mem_cons_of_mem _ hb).then_heap (Nat.le_succ _) fun b o nb eo => ?_) mv5) z5⟩
        · rw [sb.2 b fun q : b = S => nS (by rw [← q]; exact hb)]; exact eo
        · rw [sb.2 b fun q : b = S => nb (by rw [q]; exact List.mem_cons_self)]; exact eo)))
end
section
open PySem.Spec PyProof.Rows
variable {prog : Program} {w : World} {A : Around} {E : Value → Shared → Prop} {s : Shared}
set_option maxHeartbeats 3200000 in
/-- set(t) -/
theorem set_tup {p : Addr} {its : Array Value} {xs : List Str} {Q : Value → Shared → Prop} (calm : A.handled = none) (tp : s.heap.IsTuple p its) (texts : StrsAre its.toList xs) (hb : xs.length + 1 < scanBound)
    (k : ∀ (h2 : Heap) (tk : Nat), SetN prog w h2 s.heap.objs.size xs xs.length → (∀ b o, b < s.heap.objs.size → s.heap.get? b = some o → h2.get? b = some o) → Q (.ref s.heap.objs.size) { s with heap := h2, toks := tk }) : wpAny (model prog w) A (call (.type "set") [.ref p]) Q E s := by
  obtain ⟨nS, eS⟩ : ∃ n, s.heap.objs.size = n := ⟨_, rfl⟩
  have es : xs.length = its.size := by rw [← StrsAre.len_eq texts, Array.length_toList]
  obtain ⟨c, tl, hmro⟩ := PySem.F.called_set.mro
  have hmade := PySem.F.called_set.made
  have hsub := PySem.F.called_set.sub
  refine wpAny_call (codeAny_of_tree (by
    show wpAny _ _ (callAny (.type "set") _) _ _ _
    refine wpAny_pure ⟨Code.quiet_builtin _ (by decide +kernel), codeAny_builtin PySem.F.entry_type_call ?_⟩
    rw [Around.under_plain (weight_type_call_type "set" [.ref p] []) rfl]
    have t1 := PySem.F.called_set.notType
    have t2 := PySem.F.called_set.canCreate
    have t3 := PySem.F.typeCall_set_1 (.ref p)
    repeat (any_goals (first | assumption | wp_step))
    refine codeAny_mono (code_set_new_1 (.ref p) (E := E) (Q₁ := fun u s2 => ∃ led : Bool, u = .ref s.heap.objs.size ∧ s2 = { s with heap := s.heap.push { cls := .type "set", dict := none, data := .set #[] 0 (.fresh 0 0 led) } }) fun led => ⟨led, rfl, rfl⟩) fun r s2 hr => ?_
    match r, hr with
    | .error er, hr => exact hr
    | .ok .next, hr => exact hr.elim
    | .ok .brk, hr => exact hr.elim
    | .ok .cont, hr => exact hr.elim
    | .ok (.ret u), hr =>
      obtain ⟨led, rfl, rfl⟩ := hr
      obtain ⟨h1, e1⟩ : ∃ h1, s.heap.push { cls := .type "set", dict := none, data := .set #[] 0 (.fresh 0 0 led) } = h1 := ⟨_, rfl⟩
      have g1 : h1.get? s.heap.objs.size = some { cls := .type "set", dict := none, data := .set #[] 0 (.fresh 0 0 led) } := by rw [← e1]; exact Heap.get?_push_size _ rfl
      have z1 : h1.objs.size = s.heap.objs.size + 1 := by rw [← e1, Heap.size_push]
      have keep1 : ∀ b o, s.heap.get? b = some o → h1.get? b = some o := fun b o q => by rw [← e1]; exact Heap.get?_push_of_some _ q
      rw [e1]
      have ty : Shared.TypeIs { s with heap := h1 } (.ref s.heap.objs.size) "set" := ⟨_, g1, rfl⟩
      have b1 := PySem.F.called_set.init.lookup
      have b2 := PySem.F.called_set.init.bind (.ref s.heap.objs.size)
      repeat (any_goals (first | assumption | wp_step))
      refine codeAny_mono (codeAny_call_builtin (R := wants (fun u s3 => u = .none ∧ ∃ h2 tk, s3 = { s with heap := h2, toks := tk } ∧ SetN prog w h2 s.heap.objs.size xs xs.length ∧
          ∀ b o, b < s.heap.objs.size → s.heap.get? b = some o → h2.get? b = some o) E) PySem.F.called_set.init.plain PySem.F.entry_set_init (check_set_init_1 ty ?_)) fun r3 s3 hr3 => ?_
      · obtain ⟨⟨oc, od, oda, os⟩, g2, c2, n2, d2⟩ := tp
        simp only at c2 d2
        subst c2; subst d2
        have g3 := keep1 _ _ g2
        have tp1 : h1.IsTuple p its := ⟨_, g3, rfl, n2, rfl⟩
        have q1 := PySem.F.sub_tuple_set
        have q2 := PySem.F.sub_tuple_frozenset
        have q3 : (Value.type "tuple" == Value.type "dict") = false := by decide
        unfold Builtin.«set.__init__» noKeywords Builtin.Frozenset.updateFrom
        generalize hPI : pyIter = PI
        wp_walk
        subst hPI
        refine wpAny_pyIter_tuple tp1 (wpAny_bind (wpAny_runValue ?_))
        have lp : p < s.heap.objs.size := Heap.lt_size g2
        have np : p ≠ h1.objs.size := Nat.ne_of_lt (by rw [z1]; exact Nat.lt_succ_of_lt lp)
        have nf : s.heap.objs.size ∉ [h1.objs.size, p] := by
          simp only [List.mem_cons, List.not_mem_nil, or_false, not_or]
          exact ⟨Nat.ne_of_lt (by rw [z1]; exact Nat.lt_succ_self _), Nat.ne_of_gt lp⟩
        have vals : ∀ (i : Nat) (v : Value), its[i]? = some v → ∃ t, v = .str (xs.getD i Str.empty) t := fun i v hv => SS.strs_at texts i v (by rw [Array.getElem?_toList]; exact hv)
        refine set_loop ((Walks.tuple (by simp [calm]) _ p np its).toS) s.heap.objs.size nf xs es (by omega) vals its.size 0 _ (by omega) ⟨⟨_, Heap.get?_push_size _ rfl, rfl, rfl⟩, tp1.push _⟩ ?_ ?_
        · exact SetOf_congr ((setObjOf_fresh (knd := strKind prog w) led).setOf (Heap.get?_push_of_some _ g1) (by unfold scanBound; omega)) (fun _ => rfl) rfl
        · rintro ⟨h4, g4, d4, tk4, os4⟩ mv z4
          obtain rfl : g4 = s.gens := mv.gens
          obtain rfl : d4 = s.drawn := mv.drawn
          obtain rfl : os4 = s.os := mv.os
          rw [← es] at z4
          show wpAny _ _ _ _ _ _
          refine wpAny_pure ?_
          show wpAny _ _ (ret Value.none) _ _ _
          refine wpAny_pure ⟨rfl, h4, tk4, rfl, z4, fun b o lb eo => mv.heap b o ?_ (Heap.get?_push_of_some _ (keep1 _ _ eo))⟩
          simp only [List.mem_cons, List.not_mem_nil, or_false, not_or]
          exact ⟨Nat.ne_of_lt lb, Nat.ne_of_lt (by rw [z1]; exact Nat.lt_succ_of_lt lb)⟩
      · match r3, hr3 with
        | .error er, hr3 => exact hr3
        | .ok .next, hr3 => exact hr3.elim
        | .ok .brk, hr3 => exact hr3.elim
        | .ok .cont, hr3 => exact hr3.elim
        | .ok (.ret u3), hr3 =>
          obtain ⟨rfl, h2, tk, rfl, z3, k3⟩ := hr3
          repeat (any_goals (first | assumption | wp_step))
          exact k _ _ z3 k3))
end
section
variable {K : PySem.W.Frag} {E : Wish} {X : Cx} {e : Expr}
def tLenS (K : PySem.W.Frag) (te : TE) : TE := fun σ H Q => te σ H fun x H1 => ∃ (l : Addr) (xs : List Str), x = .ref l ∧ SqT K H1 l (xs.map V.str) ∧ xs.length + 1 < scanBound ∧ Q (.int (cntS xs xs.length)) H1
open PySem.Spec PyProof.Rows in
theorem pe_lenS {a : Expr} {te : TE} {p p2 q pos : Pos} (calm : X.calm = true) (g1 : Gl X "len") (m1 : X.mg "len" = none) (g2 : Gl X "set") (m2 : X.mg "set" = none) (ha : PE X a te)
    (na : starEach [a] X.env = (false, eval a X.env) :: starEach [] X.env := by rfl) : PE X (.Call (.Name "len" p) [.Call (.Name "set" p2) [a] [] q] [] pos) (tLenS X.K te) := by
  refine ⟨fun pins s σ H Q I h => Call_ (ld_blt I g1 m1 boot_len (PyProof.Rows.callWith_builtin1 (PyProof.Rows.args_cons (Call_ (ld_blt I g2 m2 boot_set
    (PyProof.Rows.callWith_type1 (PyProof.Rows.args_cons (thn (ha.run pins s σ H _ I h) fun v s1 ⟨x, H1, I1, r1, q1⟩ => PyProof.Rows.args_nil ?_) na) na rfl))) rfl) rfl rfl))⟩
  obtain ⟨l, xs, rfl, hq, hb, q2⟩ := q1
  cases r1
  obtain ⟨its, r, pl, hz⟩ := I1.tuple hq
  refine set_tup (I1.ok.hd calm) pl (by simpa using strsAre_of r) hb fun h2 tk z k => PyProof.Rows.args_nil ?_
  obtain ⟨o, es, ep, t, ho, hex, hd, _, _, _, hf, hn⟩ := z
  have I2 : Inv X pins σ H1 { s1 with heap := h2, toks := tk } := I1.kept fun b o e => k b o (Heap.lt_size e) e
  refine call_len_set ho hex hd hf (by rw [hn]; have := cntS_le xs xs.length; unfold scanBound at hb; omega) ⟨.int (cntS xs xs.length), H1, I2.tok _, ⟨_, by rw [hn]⟩, q2⟩
def strsD : List D → Option (List Str)
  | [] => some []
  | .str x :: ds => (strsD ds).map (x :: ·)
  | _ => none
theorem strsD_at {A : List Addr} {G : Hp} : ∀ {vs : List V} {ds : List D} {xs : List Str}, RepL K A G vs ds → strsD ds = some xs → vs = xs.map .str
  | [], [], _, _, h => by cases h; rfl
  | v :: vs, d :: ds, xs, .cons r t, h => by
    cases d with
    | str x =>
      cases r
      have h' : (strsD ds).map (x :: ·) = some xs := h
      cases q : strsD ds with
      | none => rw [q] at h'; cases h'
      | some ys => rw [q] at h'; cases h'; rw [strsD_at t q]; rfl
    | _ => cases h
def lenSD (M : Store) (d : D) : Option Slot := match d with
  | .tup ds => (strsD ds).bind fun xs => if xs.length ≤ 1000 then some (.val (.int (cntS xs xs.length))) else none
  | _ => none
theorem x_lenS {f : FD} (h : PE X e (tLenS K (tR K E f))) : PE X e (tE K E (dOp1 lenSD f)) := PE.wk h fun σ H Q ⟨ρ, w, e1, ok, sr, a⟩ =>
  ⟨ρ, w, e1, ok, sr, a.bind.imp fun x w1 s1 a1 v rv => by
    obtain ⟨s, es, k⟩ := fin_of s1 a1
    unfold lenSD at es
    split at es
    · rename_i ds
      cases q : strsD ds with
      | none => rw [q] at es; cases es
      | some xs =>
        rw [q] at es
        have es' : (if xs.length ≤ 1000 then some (Slot.val (.int (cntS xs xs.length))) else none) = some s := es
        by_cases hl : xs.length ≤ 1000
        · rw [if_pos hl] at es'
          cases es'
          rcases rv with rv | rv
          · cases rv with
            | tup hs rl =>
              refine ⟨_, xs, rfl, ?_, by unfold scanBound; omega, k _ w1 (Step.refl s1.ok) rfl (.int _)⟩
              rw [← strsD_at rl q]; exact .inl (.inl (s1.ok.sub _ _ hs))
          · obtain ⟨_, _, _, _, z2, _⟩ := rv; cases z2
        · rw [if_neg hl] at es'; cases es'
    · cases es⟩
end
end TP
/-! TPei: facts of exception classes; extend on a list of the store; dict(t) of a tuple of pairs. -/
namespace TP
open PySem L2
theorem bt_ValueError : bootBuiltins "ValueError" = some (.type "ValueError") := by decide +kernel
theorem bt_set : bootBuiltins "set" = some (.type "set") := by decide +kernel
section
variable {K : PySem.W.Frag} {mg : Str → Option Value} {c c2 : Str} {C C2 : Addr}
/-- an exception's class without an own __init__ -/
structure XCls (K : PySem.W.Frag) (mg : Str → Option Value) (c : Str) : Prop where
  g : mg c = some (.ref (clsAt K c))
  kp : PySem.W.keepIn K (.ref (clsAt K c)) = true
  sb : PySem.W.subIn K (.ref (clsAt K c)) (.type "BaseException") = some true
  ty : PySem.W.typeIn K (.ref (clsAt K c)) = some (.type "type")
  xq : PySem.W.excIn K (clsAt K c) [.type "ValueError", .type "Exception", .type "BaseException", .type "object"] "ValueError.__new__" = true
theorem xcls_mk (g : mg c = some (.ref C)) (h : PySem.W.nsIn K mainGlobals c = some (some (.ref C))) (kp : PySem.W.keepIn K (.ref C) = true) (sb : PySem.W.subIn K (.ref C) (.type "BaseException") = some true) (ty : PySem.W.typeIn K (.ref C) = some (.type "type"))
    (xq : PySem.W.excIn K C [.type "ValueError", .type "Exception", .type "BaseException", .type "object"] "ValueError.__new__" = true) : XCls K mg c := by
  have e := clsAt_of h
  subst e
  exact ⟨g, kp, sb, ty, xq⟩
/-- an exception's class with an own __init__(self, at) -/
structure XAt (K : PySem.W.Frag) (mg : Str → Option Value) (c : Str) (f : Addr) : Prop where
  g : mg c = some (.ref (clsAt K c))
  oex : OexC K (clsAt K c)
  iC : PySem.W.findIn K (.ref (clsAt K c)) "__init__" = some (some (.ref f))
  tI : PySem.W.typeIn K (.ref f) = some (.type "function")
  hno : PySem.W.findIn K (.ref (clsAt K c)) "at" = some none
theorem xat_mk {f : Addr} {nm q : Str} {N : Addr} {bs bm : List Value} {sn : List Str} {sub : List Value} {ab : Bool} {col : Option Bool} {dd : Option Addr} {k0 k1 k2 k3 k5 : Option Value}
    (g : mg c = some (.ref C)) (h : PySem.W.nsIn K mainGlobals c = some (some (.ref C))) (l : K.lookup C = some (excClassObj nm q C N bs bm true sn sub ab col dd k0 k1 k2 k3 k5 "ValueError.__new__")) (rv : PySem.HandSPX.refsVE bm = true)
    (sa : PySem.W.findIn K (.ref C) "__setattr__" = some (some (.builtin "object.__setattr__"))) (sb : PySem.W.subIn K (.ref C) (.type "BaseException") = some true) (ty : PySem.W.typeIn K (.ref C) = some (.type "type")) (kp : PySem.W.keepIn K (.ref C) = true)
    (iC : PySem.W.findIn K (.ref C) "__init__" = some (some (.ref f))) (tI : PySem.W.typeIn K (.ref f) = some (.type "function")) (hno : PySem.W.findIn K (.ref C) "at" = some none) : XAt K mg c f := by
  have e := clsAt_of h
  subst e
  exact ⟨g, ⟨⟨nm, q, N, bs, bm, sn, sub, ab, col, dd, k0, k1, k2, k3, k5, l, rv⟩, sa, sb, ty, kp⟩, iC, tI, hno⟩
theorem tinit_mk (h : PySem.W.nsIn K mainGlobals c = some (some (.ref C))) (ga : PySem.W.specialIn K (.ref C) "__getattribute__" = some (some (.builtin "type.__getattribute__"))) (rd : PySem.W.readsIn K C (.type "type") = true)
    (at_ : PySem.W.findCls K (.ref C) (.type "type") "__init__" = some (.val (.builtin "ValueError.__init__"))) : TInit K (clsAt K c) := by
  have e := clsAt_of h
  subst e
  exact ⟨ga, rd, at_⟩
theorem exm_mk (h : PySem.W.nsIn K mainGlobals c = some (some (.ref C))) (h2 : PySem.W.nsIn K mainGlobals c2 = some (some (.ref C2))) (e : PySem.W.exmOne K (.ref C) (.ref C2) = some true) : PySem.W.exmOne K (.ref (clsAt K c)) (.ref (clsAt K c2)) = some true := by
  rw [clsAt_of h, clsAt_of h2]; exact e
theorem kit_mk {b : Bool} (h : PySem.W.nsIn K mainGlobals c = some (some (.ref C))) (h2 : PySem.W.nsIn K mainGlobals c2 = some (some (.ref C2))) (e : PySem.W.kitOne K (.ref C) (.ref C2) = some b) : PySem.W.kitOne K (.ref (clsAt K c)) (.ref (clsAt K c2)) = some b := by
  rw [clsAt_of h, clsAt_of h2]; exact e
theorem ve_mk (h : PySem.W.nsIn K mainGlobals c = some (some (.ref C))) (e : PySem.W.kitOne K (.ref C) (.type "ValueError") = some true) : PySem.W.kitOne K (.ref (clsAt K c)) (.type "ValueError") = some true := by
  rw [clsAt_of h]; exact e
theorem excC_mk (h : PySem.W.nsIn K mainGlobals c = some (some (.ref C))) (h1 : PySem.W.findIn K (.ref C) "__getattribute__" = some (some (.builtin "BaseException.__getattribute__"))) (h2 : PySem.W.findIn K (.ref C) "__getattr__" = some none) (h3 : PySem.W.subIn K (.ref C) (.type "BaseException") = some true)
    (h4 : PySem.W.hasDictIn K C = true) (h5 : PySem.W.findIn K (.ref C) "__class__" = some (some (.builtin "object.__class__"))) (h6 : PySem.W.specialIn K (.builtin "object.__class__") "__get__" = some (some (.builtin "getset_descriptor.__get__")))
    (h7 : PySem.W.takesIn K (.builtin "object.__class__") = some true) (h8 : PySem.W.mroIn K C (.type "object") = some true) : ExcC K (clsAt K c) := by
  have e := clsAt_of h
  subst e
  exact ⟨h1, h2, h3, h4, h5, h6, h7, h8⟩
end
/-! ### extend -/
section
variable {K : PySem.W.Frag} {E : Wish} {X : Cx} {e : Expr} {st : Stmt}
def sExtR (fo f : FD) : FS := fun ρ M => (fo ρ M).out fun x M => match x with
  | .ref k => match M[k]? with
    | some (.lst _) => (f ρ M).out fun d M => match M[k]?, lstOf M d with
      | some (.lst ds), some es => if ds.length + es.length ≤ sizeLine then .next ρ (M.set k (.lst (ds ++ es))) else .bad
      | _, _ => .bad
    | _ => .bad
  | _ => .bad
@[simp] theorem sExtR_eq (fo f : FD) (ρ : EnvD) (M : Store) : sExtR fo f ρ M = (fo ρ M).out fun x M => match x with
  | .ref k => match M[k]? with
    | some (.lst _) => (f ρ M).out fun d M => match M[k]?, lstOf M d with
      | some (.lst ds), some es => if ds.length + es.length ≤ sizeLine then .next ρ (M.set k (.lst (ds ++ es))) else .bad
      | _, _ => .bad
    | _ => .bad
  | _ => .bad := rfl
theorem s_extR {fo f : FD} (h : PS X st (tDrop (tBM K "list" rExtend (tR K E fo) (tCons (tF K E f) tNil)))) : PS X st (tS K E (sExtR fo f)) := PS.wk h fun D σ H ⟨ρ, w, w0, e1, s, sr, of, p⟩ =>
  ⟨ρ, w, e1, s.ok, sr, (out_after s p).imp fun x w1 s1 p1 vx rx => by
    split at p1
    · rename_i k
      split at p1
      · rename_i ds0 e0
        obtain ⟨q, rfl, ea⟩ := ref_at rx
        obtain ⟨q', ea', vs0, hH0, _⟩ := s1.ok.mos k _ e0
        rw [ea] at ea'
        cases ea'
        refine ⟨.inl ⟨rfl, vs0, .inl (.inl hH0)⟩, ρ, w1, rfl, s1.ok, sr.step s1, (out_after (s.trans s1) p1).imp fun y w2 s2 p2 vy ry => ?_⟩
        split at p2
        · rename_i ds es e2 e3
          split at p2
          · rename_i hz
            have ea2 : w2.A[k]? = some q := pre_get s2.pre ea
            obtain ⟨q', ea', vs, hH, rl⟩ := s2.ok.mos k _ e2
            rw [ea2] at ea'
            cases ea'
            obtain ⟨q2, us, rfl, hu, ru⟩ := lst_at s2.ok (.inl ry) e3
            refine ⟨q, q2, vs, us, rfl, rfl, hH, hu, by rw [rl.length, ru.length]; exact hz, ?_⟩
            have st3 := s2.ok.put (o := .lst (ds ++ es)) (ho := .lst (vs ++ us)) ea2 ⟨_, upd_same, rl.append ru⟩
            exact p2 _ σ (((s.trans s1).trans s2).trans st3) st3.le rfl (((sr.step s1).step s2).step st3) of
          · exact p2.elim
        · exact p2.elim
      · exact p1.elim
    · exact p1.elim⟩
end
/-! ### a def that may raise, called where nothing is let out -/
section
open PySem.Spec PyProof.Rows
variable {K : PySem.W.Frag} {E : Wish} {X : Cx} {e : Expr}
abbrev noX : XK := fun _ _ _ => False
theorem passN2 : Passes (L2.CX X.prog X.w) X noX := fun _ _ _ _ e s' I c => (takes_no : L2.Takes X noW) e s' (L2.XE.of_call I (fun _ _ _ h => h) c)
theorem passN1 : Passes (L2N.CX X.prog X.w) X noX := fun _ _ _ _ e s' I c => (takes_no : L2.Takes X noW) e s' (L2.XE.of_call I (fun _ _ _ h => h) (cxN_cx c))
theorem After.calmW {α : Type} {E' : Wish} {w : Wd} {r : R α} {P : α → Wd → Prop} (h : After K E w r.calm P) : After K E' w r P := by
  cases r with
  | bad => exact h
  | exc c d M => exact (show False from h).elim
  | ok a M => exact h
theorem x_callN {n : Nat} {m : Fn} {fs : FL} (h : PE X e (tCall (spD K (W1 K) n m) [] noX (tAF K E fs))) : PE X e (tE K E (dCall n (calmF m) fs)) := PE.wk h fun σ H Q ⟨ρ, w, e1, ok, sr, a⟩ =>
  ⟨ρ, w, e1, ok, sr, a.bind.imp fun ds w1 s1 a1 vs rvs => by
    split at a1
    · rename_i hn
      show spD K (W1 K) n m (vs ++ []) w1.H Q noX
      rw [List.append_nil]
      refine ⟨by rw [rvs.length]; exact hn, ds, w1, rfl, s1.ok, rvs, ?_⟩
      have a2 : After K E w1 (m ds w1.M).calm _ := a1
      exact a2.calmW.imp fun s w2 _ z v rv => z v (rv.back s1)
    · exact a1.elim⟩
end
/-! ### k -= n -/
def isubD (_ : Store) (x y : D) : Option Slot := match x, y with
  | .int i, .int j => some (.val (.int (i - j)))
  | _, _ => none
theorem p_isub {K : PySem.W.Frag} : PrimI K (ipI fun i j => i - j) isubD := by
  intro w vx vy x y z Q ok rx ry h k
  unfold isubD at h
  split at h
  · cases h
    cases rx
    cases int_at ry
    exact ⟨_, _, rfl, rfl, k _ w (Step.refl ok) rfl (.int _)⟩
  · cases h
/-! ### a, b = a tuple, made or of the top -/
def bTupA (is : List Nat) : D → EnvD → Option EnvD := fun d ρ => match d with
  | .tup ds => bNames is ds ρ
  | .kt ds => bNames is ds ρ
  | _ => none
theorem x_gtupA {X : Cx} {K : PySem.W.Frag} {tg : Expr} {is : List Nat} {n : Nat} (hn : n = is.length) (h : PG X tg (gTup K n (gNames is))) : PG X tg (tG K (bTupA is) is) := PG.wk h fun v σ H Q ⟨ρ, w, d, ρ', e1, ok, sr, r, eb, k⟩ => by
  subst e1
  unfold bTupA at eb
  split at eb
  · cases r with
    | tup hs rl =>
      refine ⟨_, _, rfl, .inl (.inl (ok.sub _ _ hs)), by rw [rl.length, ← bNames_len eb, hn], ?_⟩
      exact gNames_ok ok is _ _ ρ ρ' σ sr rl eb k
  · rename_i ds
    obtain ⟨p, vs, rfl, hs, rl⟩ := kt_at ok (.inl r)
    refine ⟨_, _, rfl, hs, by rw [rl.length, ← bNames_len eb, hn], ?_⟩
    exact gNames_ok ok is _ _ ρ ρ' σ sr rl eb k
  · cases eb
@[simp] theorem R.bind_exc {α β : Type} (c : Nat) (d : D) (M : Store) (f : α → Store → R β) : (R.exc c d M : R α).bind f = .exc c d M := rfl
@[simp] theorem R.map_exc {α β : Type} (c : Nat) (d : D) (M : Store) (f : α → β) : (R.exc c d M : R α).map f = .exc c d M := rfl
@[simp] theorem R.out_exc {α : Type} (c : Nat) (d : D) (M : Store) (f : α → Store → Out) : (R.exc c d M : R α).out f = .exc c d M := rfl
end TP
/-! TPej: len(set(l)), l a list or a tuple of texts. -/
namespace TP
open PySem L2
section
open PySem.Spec PyProof.Rows
variable {prog : Program} {w : World} {A : Around} {E : Value → Shared → Prop} {s : Shared}
set_option maxHeartbeats 3200000 in
/-- set(l) -/
theorem set_lst {p : Addr} {its : Array Value} {xs : List Str} {Q : Value → Shared → Prop} (calm : A.handled = none) (tp : s.heap.IsList p its) (texts : StrsAre its.toList xs) (hb : xs.length + 1 < scanBound)
    (k : ∀ (h2 : Heap) (tk : Nat), SetN prog w h2 s.heap.objs.size xs xs.length → (∀ b o, b < s.heap.objs.size → s.heap.get? b = some o → h2.get? b = some o) → Q (.ref s.heap.objs.size) { s with heap := h2, toks := tk }) : wpAny (model prog w) A (call (.type "set") [.ref p]) Q E s := by
  obtain ⟨nS, eS⟩ : ∃ n, s.heap.objs.size = n := ⟨_, rfl⟩
  have es : xs.length = its.size := by rw [← StrsAre.len_eq texts, Array.length_toList]
  obtain ⟨c, tl, hmro⟩ := PySem.F.called_set.mro
  have hmade := PySem.F.called_set.made
  have hsub := PySem.F.called_set.sub
  refine wpAny_call (codeAny_of_tree (by
    show wpAny _ _ (callAny (.type "set") _) _ _ _
    refine wpAny_pure ⟨Code.quiet_builtin _ (by decide +kernel), codeAny_builtin PySem.F.entry_type_call ?_⟩
    rw [Around.under_plain (weight_type_call_type "set" [.ref p] []) rfl]
    have t1 := PySem.F.called_set.notType
    have t2 := PySem.F.called_set.canCreate
    have t3 := PySem.F.typeCall_set_1 (.ref p)
    repeat (any_goals (first | assumption | wp_step))
    refine codeAny_mono (code_set_new_1 (.ref p) (E := E) (Q₁ := fun u s2 => ∃ led : Bool, u = .ref s.heap.objs.size ∧ s2 = { s with heap := s.heap.push { cls := .type "set", dict := none, data := .set #[] 0 (.fresh 0 0 led) } }) fun led => ⟨led, rfl, rfl⟩) fun r s2 hr => ?_
    match r, hr with
    | .error er, hr => exact hr
    | .ok .next, hr => exact hr.elim
    | .ok .brk, hr => exact hr.elim
    | .ok .cont, hr => exact hr.elim
    | .ok (.ret u), hr =>
      obtain ⟨led, rfl, rfl⟩ := hr
      obtain ⟨h1, e1⟩ : ∃ h1, s.heap.push { cls := .type "set", dict := none, data := .set #[] 0 (.fresh 0 0 led) } = h1 := ⟨_, rfl⟩
      have g1 : h1.get? s.heap.objs.size = some { cls := .type "set", dict := none, data := .set #[] 0 (.fresh 0 0 led) } := by rw [← e1]; exact Heap.get?_push_size _ rfl
      have z1 : h1.objs.size = s.heap.objs.size + 1 := by rw [← e1, Heap.size_push]
      have keep1 : ∀ b o, s.heap.get? b = some o → h1.get? b = some o := fun b o q => by rw [← e1]; exact Heap.get?_push_of_some _ q
      rw [e1]
      have ty : Shared.TypeIs { s with heap := h1 } (.ref s.heap.objs.size) "set" := ⟨_, g1, rfl⟩
      have b1 := PySem.F.called_set.init.lookup
      have b2 := PySem.F.called_set.init.bind (.ref s.heap.objs.size)
      repeat (any_goals (first | assumption | wp_step))
      refine codeAny_mono (codeAny_call_builtin (R := wants (fun u s3 => u = .none ∧ ∃ h2 tk, s3 = { s with heap := h2, toks := tk } ∧ SetN prog w h2 s.heap.objs.size xs xs.length ∧
          ∀ b o, b < s.heap.objs.size → s.heap.get? b = some o → h2.get? b = some o) E) PySem.F.called_set.init.plain PySem.F.entry_set_init (check_set_init_1 ty ?_)) fun r3 s3 hr3 => ?_
      · obtain ⟨⟨oc, od, oda, os⟩, g2, c2, n2, d2⟩ := tp
        simp only at c2 d2
        subst c2; subst d2
        have g3 := keep1 _ _ g2
        have tp1 : h1.IsList p its := ⟨_, g3, rfl, n2, rfl⟩
        have q1 := PySem.F.sub_list_set
        have q2 := PySem.F.sub_list_frozenset
        have q3 : (Value.type "list" == Value.type "dict") = false := by decide
        unfold Builtin.«set.__init__» noKeywords Builtin.Frozenset.updateFrom
        generalize hPI : pyIter = PI
        wp_walk
        subst hPI
        refine wpAny_pyIter_list tp1 (wpAny_bind (wpAny_runValue ?_))
        have lp : p < s.heap.objs.size := Heap.lt_size g2
        have np : p ≠ h1.objs.size := Nat.ne_of_lt (by rw [z1]; exact Nat.lt_succ_of_lt lp)
        have nf : s.heap.objs.size ∉ [h1.objs.size, p] := by
          simp only [List.mem_cons, List.not_mem_nil, or_false, not_or]
          exact ⟨Nat.ne_of_lt (by rw [z1]; exact Nat.lt_succ_self _), Nat.ne_of_gt lp⟩
        have vals : ∀ (i : Nat) (v : Value), its[i]? = some v → ∃ t, v = .str (xs.getD i Str.empty) t := fun i v hv => SS.strs_at texts i v (by rw [Array.getElem?_toList]; exact hv)
        refine set_loop ((Walks.list (by simp [calm]) _ p np its).toS) s.heap.objs.size nf xs es (by omega) vals its.size 0 _ (by omega) ⟨⟨_, Heap.get?_push_size _ rfl, rfl, rfl⟩, tp1.push _⟩ ?_ ?_
        · exact SetOf_congr ((setObjOf_fresh (knd := strKind prog w) led).setOf (Heap.get?_push_of_some _ g1) (by unfold scanBound; omega)) (fun _ => rfl) rfl
        · rintro ⟨h4, g4, d4, tk4, os4⟩ mv z4
          obtain rfl : g4 = s.gens := mv.gens
          obtain rfl : d4 = s.drawn := mv.drawn
          obtain rfl : os4 = s.os := mv.os
          rw [← es] at z4
          show wpAny _ _ _ _ _ _
          refine wpAny_pure ?_
          show wpAny _ _ (ret Value.none) _ _ _
          refine wpAny_pure ⟨rfl, h4, tk4, rfl, z4, fun b o lb eo => mv.heap b o ?_ (Heap.get?_push_of_some _ (keep1 _ _ eo))⟩
          simp only [List.mem_cons, List.not_mem_nil, or_false, not_or]
          exact ⟨Nat.ne_of_lt lb, Nat.ne_of_lt (by rw [z1]; exact Nat.lt_succ_of_lt lb)⟩
      · match r3, hr3 with
        | .error er, hr3 => exact hr3
        | .ok .next, hr3 => exact hr3.elim
        | .ok .brk, hr3 => exact hr3.elim
        | .ok .cont, hr3 => exact hr3.elim
        | .ok (.ret u3), hr3 =>
          obtain ⟨rfl, h2, tk, rfl, z3, k3⟩ := hr3
          repeat (any_goals (first | assumption | wp_step))
          exact k _ _ z3 k3))
end
section
variable {K : PySem.W.Frag} {E : Wish} {X : Cx} {e : Expr}
def tLenSL (K : PySem.W.Frag) (te : TE) : TE := fun σ H Q => te σ H fun x H1 => ∃ (l : Addr) (xs : List Str), x = .ref l ∧ (SqT K H1 l (xs.map V.str) ∨ SqL K H1 l (xs.map V.str)) ∧ xs.length + 1 < scanBound ∧ Q (.int (cntS xs xs.length)) H1
open PySem.Spec PyProof.Rows in
theorem pe_lenSL {a : Expr} {te : TE} {p p2 q pos : Pos} (calm : X.calm = true) (g1 : Gl X "len") (m1 : X.mg "len" = none) (g2 : Gl X "set") (m2 : X.mg "set" = none) (ha : PE X a te)
    (na : starEach [a] X.env = (false, eval a X.env) :: starEach [] X.env := by rfl) : PE X (.Call (.Name "len" p) [.Call (.Name "set" p2) [a] [] q] [] pos) (tLenSL X.K te) := by
  refine ⟨fun pins s σ H Q I h => Call_ (ld_blt I g1 m1 boot_len (PyProof.Rows.callWith_builtin1 (PyProof.Rows.args_cons (Call_ (ld_blt I g2 m2 boot_set
    (PyProof.Rows.callWith_type1 (PyProof.Rows.args_cons (thn (ha.run pins s σ H _ I h) fun v s1 ⟨x, H1, I1, r1, q1⟩ => PyProof.Rows.args_nil ?_) na) na rfl))) rfl) rfl rfl))⟩
  obtain ⟨l, xs, rfl, hq, hb, q2⟩ := q1
  cases r1
  rcases hq with hq | hq
  · obtain ⟨its, r, pl, hz⟩ := I1.tuple hq
    refine set_tup (I1.ok.hd calm) pl (by simpa using strsAre_of r) hb fun h2 tk z k => PyProof.Rows.args_nil ?_
    obtain ⟨o, es, ep, t, ho, hex, hd, _, _, _, hf, hn⟩ := z
    have I2 : Inv X pins σ H1 { s1 with heap := h2, toks := tk } := I1.kept fun b o e => k b o (Heap.lt_size e) e
    refine call_len_set ho hex hd hf (by rw [hn]; have := cntS_le xs xs.length; unfold scanBound at hb; omega) ⟨.int (cntS xs xs.length), H1, I2.tok _, ⟨_, by rw [hn]⟩, q2⟩
  · obtain ⟨its, r, pl, hz⟩ := I1.list hq
    have pl' : s1.heap.IsList l its.toArray := by obtain ⟨o, n, a, b, c, d⟩ := pl; exact ⟨o, a, b, n, d⟩
    refine set_lst (I1.ok.hd calm) pl' (by simpa using strsAre_of r) hb fun h2 tk z k => PyProof.Rows.args_nil ?_
    obtain ⟨o, es, ep, t, ho, hex, hd, _, _, _, hf, hn⟩ := z
    have I2 : Inv X pins σ H1 { s1 with heap := h2, toks := tk } := I1.kept fun b o e => k b o (Heap.lt_size e) e
    refine call_len_set ho hex hd hf (by rw [hn]; have := cntS_le xs xs.length; unfold scanBound at hb; omega) ⟨.int (cntS xs xs.length), H1, I2.tok _, ⟨_, by rw [hn]⟩, q2⟩
def lenSLD (M : Store) (d : D) : Option Slot := match (match d with | .tup ds => some ds | .lst ds => some ds | _ => none) with
  | some ds => (strsD ds).bind fun xs => if xs.length ≤ 1000 then some (.val (.int (cntS xs xs.length))) else none
  | none => none
theorem x_lenSL {f : FD} (h : PE X e (tLenSL K (tF K E f))) : PE X e (tE K E (dOp1 lenSLD f)) := PE.wk h fun σ H Q ⟨ρ, w, e1, ok, sr, a⟩ =>
  ⟨ρ, w, e1, ok, sr, a.bind.imp fun x w1 s1 a1 v rv => by
    obtain ⟨s, es, k⟩ := fin_of s1 a1
    unfold lenSLD at es
    split at es
    · rename_i ds hds
      cases q : strsD ds with
      | none => rw [q] at es; cases es
      | some xs =>
        rw [q] at es
        have es' : (if xs.length ≤ 1000 then some (Slot.val (.int (cntS xs xs.length))) else none) = some s := es
        by_cases hl : xs.length ≤ 1000
        · rw [if_pos hl] at es'
          cases es'
          cases rv with
          | tup hs rl =>
            cases hds
            refine ⟨_, xs, rfl, .inl ?_, by unfold scanBound; omega, k _ w1 (Step.refl s1.ok) rfl (.int _)⟩
            rw [← strsD_at rl q]; exact .inl (.inl (s1.ok.sub _ _ hs))
          | lst hs rl =>
            cases hds
            refine ⟨_, xs, rfl, .inr ?_, by unfold scanBound; omega, k _ w1 (Step.refl s1.ok) rfl (.int _)⟩
            rw [← strsD_at rl q]; exact .inl (.inl (s1.ok.sub _ _ hs))
          | _ => cases hds
        · rw [if_neg hl] at es'; cases es'
    · cases es⟩
end
end TP
/-! TPek: the field `at` of a kept exception; == of things that lie far within one another. -/
namespace TP
open PySem L2
section
open PySem.Spec PyProof.Rows
variable {X : Cx} {e : Expr} {te : TE} {pos : Pos}
def tFX (K : PySem.W.Frag) (te : TE) : TE := fun σ H Q => te σ H fun x H1 => ∃ (a C dd : Addr) (v : V), x = .ref a ∧ XfC K C ∧ PySem.W.findIn K (.ref C) "at" = some none ∧ H1 a = some (exH (.ref C) (some dd) a) ∧ H1 dd = some (.xd [("at", v)]) ∧ Q v H1
theorem pe_fldX (he : PE X e te) (hb : attributeBase e "at" X.env (eval e X.env) = eval e X.env := by rfl) : PE X (.Attribute e "at" pos) (tFX X.K te) := by
  refine ⟨fun pins s σ H Q I h => ?_⟩
  refine attr_of hb (thn (he.run pins s σ H _ I h) fun u s1 hh => ?_)
  obtain ⟨x, H1, I1, rx, a, C, dd, v, ex, T, hno, ha, ea, q⟩ := hh
  subst ex
  obtain rfl : u = Value.ref a := rx
  obtain ⟨oe, vs, g1, g2, g3, g4⟩ := (show ObjOk X.prog X.w H1 s1.heap a (exH (.ref C) (some dd) a) from I1.hok a _ ha).1
  have hx : ObjOk X.prog X.w H1 s1.heap dd (.xd [("at", v)]) := I1.hok dd _ ea
  obtain ⟨mA, hns, hr⟩ := hx
  obtain ⟨od, ho, hl⟩ := lookIn_ns hns
  obtain ⟨u, hu, ru⟩ := RelO.some_of (v := v) (o := mA "at") (by have := hr "at"; exact this)
  have J : PySem.W.InstAt s1.heap a oe C (some od) := ⟨g1, g2, by unfold PySem.W.notCls; rw [g4] <;> rfl, by rw [g3]; exact ho⟩
  exact HandSPX.exc_get I1.kIn J T.ga T.gg T.exC (PySem.W.findObj_own T.hdC hno rfl (by rw [hl, hu])) (handed_of ru) ⟨v, H1, I1.tok _, ru, q⟩
end
section
variable {K : PySem.W.Frag} {E : Wish} {X : Cx} {e : Expr}
/-- the classes whose field may be read -/
def AtC (K : PySem.W.Frag) (l : List Nat) : Prop := ∀ c ∈ l, XfC K (clsAt K (exN c)) ∧ PySem.W.findIn K (.ref (clsAt K (exN c))) "at" = some none
def dAtX (l : List Nat) (f : FD) : FD := fun ρ M => (f ρ M).bind fun x M => match x with
  | .ref k => match M[k]? with
    | some (.exc c d) => if (exI c && l.contains c) = true then .ok d M else .bad
    | _ => .bad
  | _ => .bad
theorem x_atX {l : List Nat} {f : FD} (T : AtC K l) (h : PE X e (tFX K (tR K E f))) : PE X e (tF K E (dAtX l f)) := PE.wk h fun σ H Q ⟨ρ, w, e1, ok, sr, a⟩ =>
  ⟨ρ, w, e1, ok, sr, a.bind.imp fun x w1 s1 a1 v rv => by
    split at a1
    · rename_i k
      split at a1
      · rename_i c d e2
        split at a1
        · rename_i hc
          simp only [Bool.and_eq_true, List.contains_iff_mem] at hc
          obtain ⟨p, rfl, ea⟩ := ref_at rv
          obtain ⟨p', ea', dx, hH, hx⟩ := s1.ok.mos k _ e2
          rw [ea] at ea'
          cases ea'
          rcases hx with ⟨z, _⟩ | ⟨_, dd, v, rfl, hG, hr⟩
          · rw [hc.1] at z; cases z
          · obtain ⟨t1, t2⟩ := T c hc.2
            exact ⟨p, _, dd, v, rfl, t1, t2, hH, s1.ok.sub _ _ hG, a1 w1 (Step.refl s1.ok) rfl v hr⟩
        · exact a1.elim
      · exact a1.elim
    · exact a1.elim⟩
@[simp] theorem dAtX_eq (l : List Nat) (f : FD) (ρ : EnvD) (M : Store) : dAtX l f ρ M = (f ρ M).bind fun x M => match x with
  | .ref k => match M[k]? with
    | some (.exc c d) => if (exI c && l.contains c) = true then .ok d M else .bad
    | _ => .bad
  | _ => .bad := rfl
theorem at_nil : AtC K [] := fun _ h => absurd h List.not_mem_nil
theorem at_cons {c : Nat} {l : List Nat} (h : XfC K (clsAt K (exN c)) ∧ PySem.W.findIn K (.ref (clsAt K (exN c))) "at" = some none) (t : AtC K l) : AtC K (c :: l) := fun x hx => (List.mem_cons.mp hx).elim (fun e => e ▸ h) (t x)
theorem at_mk {c : Nat} {C : Addr} (ca : PySem.W.nsIn K mainGlobals (exN c) = some (some (.ref C))) (h : xfB K C = true) (n : PySem.W.findIn K (.ref C) "at" = some none) : XfC K (clsAt K (exN c)) ∧ PySem.W.findIn K (.ref (clsAt K (exN c))) "at" = some none := by
  rw [clsAt_of ca]
  exact ⟨xfB_ok h, n⟩
end
/-! ### == of deep things -/
section
variable {K : PySem.W.Frag} {X : Cx}
theorem un_big {A : Around} {k : Nat} (hr : Room k A) (hk : 19 ≤ k) : A.units + 500 < cLine := by have := hr.un; omega
def rNeX (K : PySem.W.Frag) : R2 := fun x y H Q => ∃ d e, Dp K H x d ∧ Dp K H y e ∧ d.canLay0 = true ∧ e.canLay0 = true ∧ min d.depth e.depth ≤ 490 ∧ Q (.bl (!PyData.eqv d e)) H
theorem op_neX (hu : X.A.units + 500 < cLine) : OpR X (compareOp .NotEq) (rNeX X.K) := by
  intro pins s σ H x y v u Q I rx ry ⟨d, e, hd, he, sd, se, hm, q⟩
  obtain ⟨as, r1⟩ := Dp.reads I d x v hd rx
  obtain ⟨bs, r2⟩ := Dp.reads I e y u he ry
  exact SeqAt.compareNe_reads r1 r2 sd se (by omega) ⟨.bl _, H, I, rfl, q⟩
def neXD (M : Store) (x y : D) : Option Slot := if goodD (derD M x) && goodD (derD M y) && decide (min (dpD (derD M x)) (dpD (derD M y)) ≤ 490) then some (.val (.bl (!eqvD (derD M x) (derD M y)))) else none
theorem p_neX : Prim2 K (rNeX K) neXD := by
  intro w vx vy x y s Q ok rx ry h k
  unfold neXD at h
  split at h
  · rename_i hc
    simp only [Bool.and_eq_true, decide_eq_true_eq] at hc
    obtain ⟨⟨h1, h2⟩, h3⟩ := hc
    cases h
    refine ⟨_, _, rx.dp ok h1, ry.dp ok h2, lay_py _ h1, lay_py _ h2, by rw [dp_py _ h1, dp_py _ h2]; exact h3, ?_⟩
    rw [eqv_py _ _ h1 h2]
    exact ans ok k fun _ _ => .bl _
  · cases h
theorem neX_of (M : Store) {x y : D} (hx : goodD x = true) (hy : goodD y = true) (hd : dpD x ≤ 490) : neXD M x y = some (.val (.bl (!eqvD x y))) := by
  unfold neXD
  rw [der_good M hx, der_good M hy, hx, hy, if_pos (by simp; omega)]
end
/-! ### a text times a number -/
section
open PySem.Spec PyProof.Rows
variable {X : Cx} {K : PySem.W.Frag}
def repS (a : Str) (k : Int) : Str := if k < 1 then Str.empty else if (k == 1 || a.length == 0) = true then a else ⟨(List.replicate k.toNat a.cps).foldl (· ++ ·) #[]⟩
theorem rep_size (x : Array Nat) : ∀ (n : Nat) (acc : Array Nat), ((List.replicate n x).foldl (· ++ ·) acc).size = acc.size + n * x.size
  | 0, acc => by simp
  | n + 1, acc => by
    rw [List.replicate_succ, List.foldl_cons, rep_size x n, Array.size_append, Nat.succ_mul]
    omega
def rRepM : R2 := fun x y H Q => ∃ a k, x = .str a ∧ y = .int k ∧ 0 ≤ k ∧ k ≤ 1000 ∧ a.length ≤ 1000 ∧ Q (.str (repS a k)) H
theorem op_repM : OpR X (binaryOp .Mult) rRepM := by
  intro pins s σ H x y v u Q I rx ry h
  obtain ⟨a, k, rfl, rfl, hk0, hk1, ha, q⟩ := h
  obtain ⟨t, rfl⟩ := rx
  obtain ⟨t2, rfl⟩ := ry
  have hm : a.length * k.toNat ≤ 1000 * 1000 := Nat.mul_le_mul ha (by omega)
  unfold repS at q
  refine PySem.P.mul_str (by rw [decide_eq_false (by omega), decide_eq_false (by omega)]; rfl) (fun h1 _ => ?_) (fun h1 _ => ?_) ?_
  · have h2 : (1000 : Int) ≤ (2 ^ 63 - 1) / k := (Int.le_ediv_iff_mul_le (by omega)).mpr (by omega)
    omega
  · unfold Builtin.Str.tooLong
    rw [decide_eq_false]
    rw [show sizeLine = 16777216 from sizeLine_eq]
    omega
  · by_cases h1 : k < 1
    · rw [if_pos h1] at q ⊢
      exact ⟨by decide, .str _, H, I.tok _, ⟨_, rfl⟩, q⟩
    · rw [if_neg h1] at q ⊢
      by_cases h2 : (k == 1 || a.length == 0) = true
      · rw [if_pos h2] at q ⊢
        exact ⟨.str a, H, I, ⟨_, rfl⟩, q⟩
      · rw [if_neg h2] at q ⊢
        refine ⟨?_, .str _, H, I.tok _, ⟨_, rfl⟩, q⟩
        show ((List.replicate k.toNat a.cps).foldl (· ++ ·) #[]).size ≤ sizeLine
        rw [rep_size, show sizeLine = 16777216 from sizeLine_eq]
        have : k.toNat * a.cps.size ≤ 1000 * 1000 := Nat.mul_le_mul (by omega) ha
        show 0 + _ ≤ _
        omega
def rMulM : R2 := fun x y H Q => rMulA x y H Q ∨ rRepM x y H Q
theorem op_mulM : OpR X (binaryOp .Mult) rMulM := op_mulA.or op_repM
def mulMD (M : Store) (x y : D) : Option Slot := match x, y with
  | .str a, .int k => if 0 ≤ k ∧ k ≤ 1000 ∧ a.length ≤ 1000 then some (.val (.str (repS a k))) else none
  | x, y => mulD M x y
theorem p_mulM : Prim2 K rMulM mulMD := by
  intro w vx vy x y s Q ok rx ry h k
  unfold mulMD at h
  split at h
  · rename_i a j
    cases str_at rx
    cases int_at ry
    split at h
    · rename_i hj
      cases h
      exact .inr ⟨a, j, rfl, rfl, hj.1, hj.2.1, hj.2.2, ans ok k fun _ _ => .str _⟩
    · cases h
  · exact .inl (p_mul w vx vy _ _ s Q ok rx ry h k)
@[simp] theorem mulMD_str (M : Store) (a : Str) (k : Int) : mulMD M (.str a) (.int k) = if 0 ≤ k ∧ k ≤ 1000 ∧ a.length ≤ 1000 then some (.val (.str (repS a k))) else none := rfl
@[simp] theorem mulMD_int (M : Store) (a k : Int) : mulMD M (.int a) (.int k) = mulD M (.int a) (.int k) := rfl
end
end TP
/-! TPel: xs.pop(0) of a list of the store; xs.remove(text) of a list of texts of one's own; xs.extend(tuple) -/
namespace TP
open PySem L2
section
open PySem.Spec PyProof.Rows
variable {K : PySem.W.Frag} {E : Wish} {X : Cx} {e : Expr} {st : Stmt}
def dPop0R (fo : FD) : FD := fun ρ M => (fo ρ M).bind fun x M => match x with
  | .ref k => match M[k]? with
    | some (.lst (y :: ds)) => .ok y (M.set k (.lst ds))
    | _ => .bad
  | _ => .bad
theorem x_pop0R {fo : FD} (h : PE X e (tBM K "list" rPopAt (tR K E fo) (tCons (tC (.int 0)) tNil))) : PE X e (tF K E (dPop0R fo)) := PE.wk h fun σ H Q ⟨ρ, w, e1, ok, sr, a⟩ =>
  ⟨ρ, w, e1, ok, sr, a.bind.imp fun x w1 s1 a1 vx rx => by
    split at a1
    · rename_i k
      split at a1
      · rename_i y ds e2
        obtain ⟨q, rfl, ea⟩ := ref_at rx
        obtain ⟨q', ea', vs, hH, rl⟩ := s1.ok.mos k _ e2
        rw [ea] at ea'
        cases ea'
        cases rl with
        | cons rv rl =>
          rename_i v vs
          have st3 := s1.ok.put (o := .lst ds) (ho := .lst vs) ea ⟨_, upd_same, rl⟩
          exact ⟨.inl ⟨rfl, _, .inl (.inl hH)⟩, q, v :: vs, 0, 0, v, rfl, rfl, hH, by decide, by decide, by simp [seqIndex?], rfl, a1 _ st3 rfl v (st3.rep rv)⟩
      · exact a1.elim
    · exact a1.elim⟩
/-! ### xs.remove(text) -/
def eqkS (k : Str) (v : Value) : Bool := match v with
  | .str x _ => x.cps.toList == k.cps.toList
  | _ => false
theorem eqkS_gives {k : Str} {t : Tok} : ∀ {us : List Value} {ns : List Str}, StrsAre us ns → ∀ y ∈ us, MeetsSeq.EqGives y (.str k t) (eqkS k y)
  | _, _, .nil => fun y hy => by cases hy
  | _, _, .cons n t' h => fun y hy => by
    rcases List.mem_cons.mp hy with e | e
    · rw [e]
      exact PySem.SeqRoads2.EqGives.str n k t' t
    · exact eqkS_gives h y e
theorem strsAre_get : ∀ {us : List Value} {ns : List Str}, StrsAre us ns → ∀ (i : Nat) (x : Str), ns[i]? = some x → ∃ t, us[i]? = some (.str x t)
  | _, _, .nil, i, x, h => by cases h
  | _, _, .cons n t _, 0, x, h => by cases h; exact ⟨t, rfl⟩
  | _, _, .cons n t r, i + 1, x, h => strsAre_get r i x h
theorem erase_mapS : ∀ (l : List Str) (j : Nat), (l.map V.str).eraseIdx j = (l.eraseIdx j).map V.str
  | [], j => by simp
  | a :: r, 0 => by simp
  | a :: r, j + 1 => by
    have ih := erase_mapS r j
    simp [ih]
theorem cps_eq {a b : Str} : (a.cps.toList == b.cps.toList) = true ↔ a = b := by
  cases a with | mk a => cases b with | mk b => simp
def rRemS : V → List V → Hp → VK → Prop := fun x xs H Q => ∃ (l : Addr) (ns : List Str) (k : Str) (j : Nat), x = .ref l ∧ xs = [.str k] ∧ H l = some (.lst (ns.map V.str)) ∧ ns[j]? = some k ∧ (∀ m : Nat, m < j → ns[m]? ≠ some k) ∧ Q .non (upd H l (.lst ((ns.eraseIdx j).map V.str)))
theorem mt_removeS : MtM X "list.remove" rRemS := by
  intro pins s σ H x xs v us Q I rx rxs h
  obtain ⟨l, ns, k, j, rfl, rfl, hH, hj, hno, q⟩ := h
  cases rx
  obtain ⟨u, rfl, ru⟩ := rxs.one
  obtain ⟨t, rfl⟩ := ru
  obtain ⟨z, its, n, r, hl, e⟩ := I.lstM hH
  have hi := strs_of_vals r
  rw [List.length_map] at hl z
  have hjn : j < ns.length := (List.getElem?_eq_some_iff.mp hj).1
  have hjl : j < its.toArray.size := by rw [List.size_toArray]; omega
  refine call_meets PySem.F.slot_list_remove ⟨_, e, rfl⟩ PySem.F.entry_list_remove (PySem.F.args_list_remove_2 _ _)
    (MeetsSeq.list_remove l its.toArray n (.str k t) (eqkS k) (fun y hy => eqkS_gives hi y (by simpa using hy)) j hjl ?_ ?_ (by rw [List.size_toArray]; omega)) ⟨e, ?_⟩
  · obtain ⟨tj, hjt⟩ := strsAre_get hi j k hj
    obtain ⟨h1, h2⟩ := List.getElem?_eq_some_iff.mp hjt
    have e1 : its.toArray[j] = .str k tj := by simpa using h2
    rw [e1]
    exact cps_eq.mpr rfl
  · intro m hm hmj
    have hmn : m < ns.length := by omega
    obtain ⟨tm, hmt⟩ := strsAre_get hi m _ (List.getElem?_eq_getElem hmn)
    obtain ⟨h1, h2⟩ := List.getElem?_eq_some_iff.mp hmt
    have e1 : its.toArray[m] = .str ns[m] tm := by simpa using h2
    rw [e1]
    cases q : eqkS k (.str ns[m] tm) with
    | false => rfl
    | true => exact absurd (by rw [List.getElem?_eq_getElem hmn, cps_eq.mp q]) (hno m hmj)
  · have rr := r.eraseIdx j
    rw [erase_mapS] at rr
    refine ⟨.non, _, I.lset (its' := its.eraseIdx j) (t' := s.toks) hH e ?_ rr ?_, rfl, q⟩
    · show its.toArray.eraseIdxIfInBounds j = (its.eraseIdx j).toArray
      rw [List.eraseIdxIfInBounds_toArray]
    · have z2 := len_erase ns j
      rw [List.length_map]
      omega
theorem rep_strs {A : List Addr} {G : Hp} : ∀ xs : List Str, RepL K A G (xs.map V.str) (xs.map .str)
  | [] => .nil
  | x :: xs => .cons (.str x) (rep_strs xs)
def sRemO (i : Nat) (f : FD) : FS := fun ρ M => match ρ[i]? with
  | some (.own ds) => (f ρ M).out fun d M => match d, strsD ds with
    | .str k, some xs => if k ∈ xs then .next (ρ.set i (.own ((xs.eraseIdx (xs.idxOf k)).map .str))) M else .bad
    | _, _ => .bad
  | _ => .bad
theorem s_remO {i : Nat} {f : FD} (h : PS X st (tDrop (tBM K "list" rRemS (tVar i) (tCons (tF K E f) tNil)))) : PS X st (tS K E (sRemO i f)) := PS.wk h fun D σ H ⟨ρ, w, w0, e1, s, sr, of, p⟩ => by
  subst e1
  unfold sRemO at p
  split at p
  · rename_i ds e2
    obtain ⟨q, vs, h1, h2, h3, h4, h5⟩ := sr.own i ds e2
    refine ⟨_, h1, .inl ⟨rfl, vs, .inl (.inl h2)⟩, ρ, w, rfl, s.ok, sr, (out_after s p).imp fun x w1 s1 p1 v rv => ?_⟩
    split at p1
    · rename_i k xs ex
      split at p1
      · rename_i hk
        have hv := strsD_at (.one rv) (show strsD [.str k] = some [k] from rfl)
        cases hv
        obtain ⟨b1, c1, d1⟩ := s1.keepN q _ h2 h3 h4
        have hvs := strsD_at h5 ex
        subst hvs
        have hlt := List.idxOf_lt_length_of_mem hk
        refine ⟨q, xs, k, xs.idxOf k, rfl, rfl, b1, ?_, ?_, ?_⟩
        · rw [List.getElem?_eq_getElem hlt, List.getElem_idxOf]
        · intro m hm z
          have := List.getElem?_eq_some_iff.mp z
          obtain ⟨z1, z2⟩ := this
          have hz := List.not_of_lt_findIdx (p := (· == k)) (xs := xs) hm
          simp [z2] at hz
        · obtain ⟨a, b, c⟩ := SR.change (vs := (xs.eraseIdx (xs.idxOf k)).map V.str) (s.trans s1) (sr.step s1) of e2 h1 (rep_strs _)
          exact p1 _ σ a (Le.refl _) rfl b c
      · exact p1.elim
    · exact p1.elim
  · exact p.elim
@[simp] theorem dPop0R_eq (fo : FD) (ρ : EnvD) (M : Store) : dPop0R fo ρ M = (fo ρ M).bind fun x M => match x with
  | .ref k => match M[k]? with
    | some (.lst (y :: ds)) => .ok y (M.set k (.lst ds))
    | _ => .bad
  | _ => .bad := rfl
@[simp] theorem sRemO_eq (i : Nat) (f : FD) (ρ : EnvD) (M : Store) : sRemO i f ρ M = match ρ[i]? with
  | some (.own ds) => (f ρ M).out fun d M => match d, strsD ds with
    | .str k, some xs => if k ∈ xs then .next (ρ.set i (.own ((xs.eraseIdx (xs.idxOf k)).map .str))) M else .bad
    | _, _ => .bad
  | _ => .bad := rfl
end
/-! ### own.extend(tuple) -/
namespace ExtT
open PySem PySem.AutoSeq1
set_option maxRecDepth 8000 in
theorem extT (l : Addr) (items : Array Value) (n : Nat) (b : Addr) (items2 : Array Value) (n2 : Nat) (dd : Option Addr) (sl : Array (Option Value)) (hs0 : ¬(!items.isEmpty && Builtin.List.listTooLong (items.size + items2.size)) = true) (hs1 : items.size ≤ sizeLine) (hs2 : items.size + items2.size ≤ sizeLine + 1) :
    Meets (Builtin.«list.extend» ⟨[.ref l, .ref b], []⟩) (fun _ R s => s.heap.get? l = some { cls := .type "list", dict := none, data := .seq items n, slots := #[] } ∧ s.heap.get? b = some { cls := .type "tuple", dict := dd, data := .seq items2 n2, slots := sl } ∧ R (.ok (.ret Value.none)) { s with heap := s.heap.update l (Obj.mapSeq fun x => x ++ items2), toks := s.toks }) :=
  .of_wp fun prog w A R s h => by
    obtain ⟨hp, g, d, tk, os⟩ := s; obtain ⟨hl, hb, h⟩ := h; have f1 := idx_int; have f2 := sub_tuple_tuple; have f3 := sub_list_list; have f4 := sub_tuple_list; have f5 := sub_list_tuple;
    have hz' : (items ++ items2).size ≤ sizeLine + 1 := by rw [Array.size_append]; exact hs2
    wp_walk using (wpAny_updateSeq hl rfl (hz := hs1) (_hz' := hz')), wpAny_loadPart' hl, wpAny_loadPart' hb; exact ⟨_, rfl, h⟩
end ExtT
section
open PySem.Spec PyProof.Rows
variable {K : PySem.W.Frag} {E : Wish} {X : Cx} {e : Expr} {st : Stmt}
def rExtT (K : PySem.W.Frag) : V → List V → Hp → VK → Prop := fun x vs H Q => ∃ l b xs zs, x = .ref l ∧ vs = [.ref b] ∧ H l = some (.lst xs) ∧ SqT K H b zs ∧ xs.length + zs.length ≤ sizeLine ∧ Q .non (upd H l (.lst (xs ++ zs)))
theorem mt_extendT : MtM X "list.extend" (rExtT X.K) := by
  intro pins s σ H x vs v us Q I rx rv h
  obtain ⟨l, b, xs, zs, rfl, rfl, hH, hB, hz, q⟩ := h
  cases rx
  obtain ⟨u, rfl, ru⟩ := rv.one
  cases ru
  obtain ⟨z, its, n, r, hl, e⟩ := I.lstM hH
  obtain ⟨its2, r2, ⟨o2, e2, hc, n2, hd⟩, hz2⟩ := I.tuple hB
  obtain ⟨c2, dd, dat, sl⟩ := o2
  simp only at hc hd
  subst hc hd
  have hl2 := r2.length
  have hsz : its.toArray.size + its2.toArray.size ≤ sizeLine := by rw [List.size_toArray, List.size_toArray]; omega
  have hlong : ¬ (!its.toArray.isEmpty && Builtin.List.listTooLong (its.toArray.size + its2.toArray.size)) = true := by
    rw [notLongL hsz, Bool.and_false]
    exact Bool.false_ne_true
  refine call_meets F.slot_list_extend ⟨_, e, rfl⟩ F.entry_list_extend (F.args_list_extend_2 _ _)
    (ExtT.extT l its.toArray n b its2.toArray n2 dd sl hlong (by rw [List.size_toArray]; omega) (by omega)) ⟨e, e2, ?_⟩
  refine ⟨.non, _, I.lset (its' := its ++ its2) hH e (by simp) (r.append r2) ?_, rfl, q⟩
  rw [List.length_append]
  omega
/-- own.extend(tuple) -/
def sExtT (i : Nat) (f : FD) : FS := fun ρ M => match ρ[i]? with
  | some (.own ds) => (f ρ M).out fun d M => match d with
    | .tup es => if ds.length + es.length ≤ sizeLine then .next (ρ.set i (.own (ds ++ es))) M else .bad
    | _ => .bad
  | _ => .bad
theorem s_extT {i : Nat} {f : FD} (h : PS X st (tDrop (tBM K "list" (rExtT K) (tVar i) (tCons (tF K E f) tNil)))) : PS X st (tS K E (sExtT i f)) := PS.wk h fun D σ H ⟨ρ, w, w0, e1, s, sr, of, p⟩ => by
  subst e1
  unfold sExtT at p
  split at p
  · rename_i ds e2
    obtain ⟨q, vs, h1, h2, h3, h4, h5⟩ := sr.own i ds e2
    refine ⟨_, h1, .inl ⟨rfl, vs, .inl (.inl h2)⟩, ρ, w, rfl, s.ok, sr, (out_after s p).imp fun x w1 s1 p1 v rv => ?_⟩
    split at p1
    · rename_i es
      split at p1
      · rename_i hz
        obtain ⟨b1, c1, d1⟩ := s1.keepN q _ h2 h3 h4
        have r1 := s1.repL h5
        obtain ⟨q2, us, rfl, hu, ru⟩ := tup_at s1.ok (.inl rv)
        refine ⟨q, q2, vs, us, rfl, rfl, b1, hu, by rw [h5.length, ru.length]; exact hz, ?_⟩
        obtain ⟨a, b, c⟩ := SR.change (vs := vs) (s.trans s1) (sr.step s1) of e2 h1 (r1.append ru)
        exact p1 _ σ a (Le.refl _) rfl b c
      · exact p1.elim
    · exact p1.elim
  · exact p.elim
@[simp] theorem sExtT_eq (i : Nat) (f : FD) (ρ : EnvD) (M : Store) : sExtT i f ρ M = match ρ[i]? with
  | some (.own ds) => (f ρ M).out fun d M => match d with
    | .tup es => if ds.length + es.length ≤ sizeLine then .next (ρ.set i (.own (ds ++ es))) M else .bad
    | _ => .bad
  | _ => .bad := rfl
end
/-! ### name = [comprehension], a list of the store -/
section
variable {K : PySem.W.Frag} {E : Wish} {X : Cx} {st : Stmt}
theorem ref_le {f : FE} (σ : St) (H : Hp) (Q : VK) : tE K E (dRef f) σ H Q → tE K E f σ H Q := fun ⟨ρ, w, e1, ok, sr, a⟩ =>
  ⟨ρ, w, e1, ok, sr, by
    unfold dRef at a
    cases q : f ρ w.M with
    | bad => rw [q] at a; exact a
    | exc c d M => rw [q] at a; exact a
    | ok x M =>
      rw [q] at a
      cases x with
      | un => exact a.elim
      | val d => exact a.elim
      | own ds =>
        intro w1 s1 eM v rv
        obtain ⟨p, vs, rfl, h0, hH, hG, hA, rl⟩ := rv
        have ok2 := s1.ok.push hG hA (show MoR K w1 p (.lst ds) from ⟨vs, hH, rl⟩)
        have a' : ∀ w', Step K w w' → w'.M = M ++ [.lst ds] → ∀ v, RepX K w w' v (.val (.ref M.length)) → Q v w'.H := a
        refine a' ⟨w1.A ++ [p], w1.G, w1.M ++ [.lst ds], w1.H⟩ ⟨ok2, s1.pre.trans (List.prefix_append _ _), s1.fro, fun b o z1 z2 z3 => ?_⟩ (by rw [eM]) _ (.ref ?_)
        · obtain ⟨c1, c2, c3⟩ := s1.keep b o z1 z2 z3
          exact ⟨c1, c2, fun hm => (List.mem_append.mp hm).elim c3 fun z => by simp at z; subst z; rw [h0] at z1; cases z1⟩
        · show (w1.A ++ [p])[M.length]? = some p
          have hl := s1.ok.len
          rw [eM] at hl
          rw [← hl, List.getElem?_append_right (Nat.le_refl _), Nat.sub_self]
          rfl⟩
theorem s_setLcRef {i : Nat} {fi : FL} {b : D → EnvD → Option EnvD} {is : List Nat} {c : FB} {f : FD} {vs : List Nat} (hv : ∀ i ∈ is, i ∈ vs) (h : PS X st (tAsg (tLc (tI K E fi) (tG K b is) (tT K E00 c) (tF K E00 f) vs) (gName i))) : PS X st (tS K E (sSet i (dRef (dLc fi b c f vs)))) :=
  s_set (PS.wk h fun D σ H z => lc_le hv σ H _ (ref_le σ H _ z))
end
end TP
/-! TPem: tab.get(k) of a dict of the top; x.split(sep). -/
namespace TP
open PySem L2
section
open PySem.Spec PyProof.Rows
variable {K : PySem.W.Frag} {E : Wish} {X : Cx} {e : Expr}
theorem strs_rep (A : List Addr) (G : Hp) : ∀ ys : List Str, RepL K A G (ys.map V.str) (ys.map D.str)
  | [] => .nil
  | y :: ys => .cons (.str y) (strs_rep A G ys)
def splitD (M : Store) (x : D) (ds : List D) : Option Slot := match x, ds with
  | .str a, [.str b] => if (b.length == 0) = false ∧ a.length + 2 ≤ sizeLine then some (.own ((Txt.split a b).map .str)) else none
  | _, _ => none
theorem p_split : PrimM K (fun x xs H Q => ∃ a b, x = .str a ∧ xs = [.str b] ∧ (b.length == 0) = false ∧ a.length + 2 ≤ sizeLine ∧ rNewStrs (Txt.split a b) H Q) splitD := by
  intro w vx x vs ds s Q ok rx rl h k
  unfold splitD at h
  split at h
  · split at h
    · rename_i hz
      cases h
      cases str_at rx
      obtain ⟨v, rfl, rv⟩ := rl.one
      cases str_at rv
      exact ⟨_, _, rfl, rfl, hz.1, hz.2, fun l hl => k _ _ (ok.fresh0 hl _) rfl (own_new (Step.refl ok) hl (strs_rep _ _ _))⟩
    · cases h
  · cases h
def tTG1 (K : PySem.W.Frag) (tab : List (Str × D)) (ty : TE) : TE := fun σ H Q => ty σ H fun y H1 => ∃ s, y = .str s ∧ (∀ d, tabFind tab s = some d → ∀ v, (∀ A G, Rep K A G v d) → Q v H1) ∧ (tabFind tab s = none → Q .non H1)
variable {o ey : Expr} {apos cpos : Pos} {ty : TE} {q : Addr} {tab : List (Str × D)}
theorem pe_tget1 (T : TabAll X.K X.w q tab) (ho : PE X o (tC (.ref q))) (hy : PE X ey ty) (m : M1 X o "get" apos ey cpos) : PE X (.Call (.Attribute o "get" apos) [ey] [] cpos) (tTG1 X.K tab ty) := by
  constructor
  intro pins s σ H Q I h
  obtain ⟨es, n, hl, hk, hm⟩ := T.ex
  refine wpAny_Call_method m.base m.few m.line PySem.F.plainAttrs_dict PySem.F.slot_dict_get PySem.F.type_dict_get (thn (ho.run pins s σ H (fun v H1 => v = .ref q ∧ H1 = H) I ⟨rfl, rfl⟩) ?_)
  rintro u s1 ⟨x, H1, I1, rx, rfl, rfl⟩
  obtain rfl : u = Value.ref q := rx
  have m1 := PySem.W.mapOf_K (prog := X.prog) (w := X.w) I1.kIn hl hk
  refine ⟨m1.typeIs, fun b e => by cases e; exact ⟨_, I1.kIn _ _ hl, rfl⟩, ?_⟩
  rw [m.trees]
  refine Calls.callWith_builtin rfl (Calls.evalArgs_plain (Calls.spliced_cons (thn (hy.run pins s1 σ _ _ I1 h) fun iv s2 ⟨y, H2, I2, ry, k, ek, q3, q4⟩ => Calls.spliced_nil ?_)))
  subst ek
  obtain ⟨t, rfl⟩ := (show ∃ t, iv = Value.str k t from ry)
  have m3 := PySem.W.mapOf_K (prog := X.prog) (w := X.w) I2.kIn hl hk
  refine call_meetsIn PySem.F.slot_dict_get m3.typeIs PySem.F.entry_dict_get (PySem.F.args_dict_get_2 _ _) (meets_dict_get (strKind X.prog X.w) q (strKind_is X.prog X.w k t) T.sys) ⟨_, m3, ?_⟩
  cases r : tabFind tab k with
  | none =>
    rw [hm k r]
    exact ⟨.non, H2, I2.tok _, rfl, q4 r⟩
  | some d =>
    obtain ⟨v, ⟨es', n', u', hl', hk', hn, ru⟩, rv⟩ := T.some_.at_ k d r
    rw [hl] at hl'
    cases hl'
    rw [PySem.W.find_K hl hn]
    exact ⟨v, H2, I2.tok _, ru, q3 d r v rv⟩
def dTabGet1 (tab : List (Str × D)) (f : FD) : FD := fun ρ M => (f ρ M).bind fun y M => match y with
  | .str s => .ok ((tabFind tab s).getD .non) M
  | _ => .bad
theorem x_tget1 {f : FD} (hK : X.K = K) (h : PE X e (tTG1 X.K tab (tR K E f))) : PE X e (tF K E (dTabGet1 tab f)) := PE.wk h fun σ H Q ⟨ρ, w, e1, ok, sr, a⟩ =>
  ⟨ρ, w, e1, ok, sr, a.bind.imp fun y w1 s1 a1 vy ry => by
    split at a1
    · rename_i s
      refine ⟨s, str_at ry, fun d hd v rv => ?_, fun hn => ?_⟩
      · rw [hd] at a1
        exact a1 w1 (Step.refl s1.ok) rfl v (hK ▸ rv _ _)
      · rw [hn] at a1
        exact a1 w1 (Step.refl s1.ok) rfl _ .non
    · exact a1.elim⟩
@[simp] theorem dTabGet1_eq (tab : List (Str × D)) (f : FD) (ρ : EnvD) (M : Store) : dTabGet1 tab f ρ M = (f ρ M).bind fun y M => match y with
  | .str s => .ok ((tabFind tab s).getD .non) M
  | _ => .bad := rfl
end
end TP
/-! TPen: a tuple == (), (a text,), ((),), among its items anything, an empty dict too. -/
namespace TP
section
open PySem PySem.SeqAt
open PySem.Sem (wp)
/-! ### an empty dict beside a text, a tuple -/
theorem dict_declines_str (l : Addr) (es : Array DictEntry) (n : Nat) (dd : Option Addr) (sl : Array (Option Value)) (b : Str) (u : Tok) :
    Meets (Builtin.«dict.__eq__» ⟨[.ref l, .str b u], []⟩) (fun _ R s => s.heap.get? l = some { cls := .type "dict", dict := dd, data := .dict es n, slots := sl } ∧ R (.ok (.ret .notImplemented)) s) :=
  .of_wp fun prog w A R s h => by
    obtain ⟨hp, g, d, tk, os⟩ := s
    obtain ⟨hl, h⟩ := h
    have f1 := F.sub_str_dict
    have f2 := F.sub_dict_str
    wp_walk using wpAny_loadPart' hl, wpAny_load hl
    exact ⟨_, rfl, h⟩
theorem dict_declines_tup (l b : Addr) (es : Array DictEntry) (items : Array Value) (n m : Nat) (dd dd2 : Option Addr) (sl sl2 : Array (Option Value)) :
    Meets (Builtin.«dict.__eq__» ⟨[.ref l, .ref b], []⟩) (fun _ R s => s.heap.get? l = some { cls := .type "dict", dict := dd, data := .dict es n, slots := sl } ∧ s.heap.get? b = some { cls := .type "tuple", dict := dd2, data := .seq items m, slots := sl2 } ∧ R (.ok (.ret .notImplemented)) s) :=
  .of_wp fun prog w A R s h => by
    obtain ⟨hp, g, d, tk, os⟩ := s
    obtain ⟨hl, hb, h⟩ := h
    have f1 := F.sub_tuple_dict
    have f2 := F.sub_dict_tuple
    wp_walk using wpAny_loadPart' hl, wpAny_load hl, wpAny_loadPart' hb, wpAny_load hb
    exact ⟨_, rfl, h⟩
theorem str_declines_dict (b : Str) (u : Tok) (l : Addr) (es : Array DictEntry) (n : Nat) (dd : Option Addr) (sl : Array (Option Value)) :
    Meets (Builtin.«str.__eq__» ⟨[.str b u, .ref l], []⟩) (fun _ R s => s.heap.get? l = some { cls := .type "dict", dict := dd, data := .dict es n, slots := sl } ∧ R (.ok (.ret .notImplemented)) s) :=
  .of_wp fun prog w A R s h => by
    obtain ⟨hp, g, d, tk, os⟩ := s
    obtain ⟨hl, h⟩ := h
    wp_walk using wpAny_loadPart' hl, wpAny_load hl
    exact ⟨_, rfl, h⟩
theorem tup_declines_dict (b l : Addr) (items : Array Value) (es : Array DictEntry) (m n : Nat) (dd2 dd : Option Addr) (sl2 sl : Array (Option Value)) :
    Meets (Builtin.«tuple.__eq__» ⟨[.ref b, .ref l], []⟩) (fun _ R s => s.heap.get? b = some { cls := .type "tuple", dict := dd2, data := .seq items m, slots := sl2 } ∧ s.heap.get? l = some { cls := .type "dict", dict := dd, data := .dict es n, slots := sl } ∧ R (.ok (.ret .notImplemented)) s) :=
  .of_wp fun prog w A R s h => by
    obtain ⟨hp, g, d, tk, os⟩ := s
    obtain ⟨hb, hl, h⟩ := h
    have f1 := F.sub_dict_tuple
    wp_walk using wpAny_loadPart' hl, wpAny_loadPart' hb
    exact ⟨_, rfl, h⟩
section
variable {A : Around} {s : Shared}
theorem eqAt_dict_str {l : Addr} {o : Obj} {es : Array DictEntry} {n : Nat} (b : Str) (u : Tok) (ho : s.heap.get? l = some o) (hc : o.cls = .type "dict") (hd : o.data = .dict es n) (hu : A.units < cLine) : EqAt A s (.ref l) (.str b u) false := fun prog w E Q h => by
  obtain ⟨cls, dd, data, sl⟩ := o
  simp only at hc hd
  subst hc hd
  unfold eqBool
  refine wpAny_holding ?_
  refine wpAny_ite_split (fun hab => absurd (eq_of_beq hab) nofun) (fun _ => ?_)
  exact wpAny_bind (rc_eq_decline_or (k := false) ⟨_, ho, rfl⟩ (typeIs_str s b u) (by decide) F.sub_str_dict F.slot_dict_eq F.slot_str_eq_refl
    (fun _ hq => call_meets F.slot_dict_eq ⟨_, ho, rfl⟩ F.entry_dict_eq (F.args_dict_eq_2 _ _) (dict_declines_str l es n dd sl b u) ⟨ho, hq⟩)
    (fun _ hq => call_meets F.slot_str_eq_refl (typeIs_str s b u) F.entry_str_eq (F.args_str_eq_2 _ _) (str_declines_dict b u l es n dd sl) ⟨ho, hq⟩)
    (fun _ hq => wpAny_of_eq (rfl : isSame (.ref l) (.str b u) = pure false) hq) (.inr hu) (wpAny_truthy_bool h))
theorem eqAt_dict_tup {l b : Addr} {o : Obj} {es : Array DictEntry} {n : Nat} {items : Array Value} (ho : s.heap.get? l = some o) (hc : o.cls = .type "dict") (hd : o.data = .dict es n) (hb : s.heap.IsTuple b items) (hu : A.units < cLine) : EqAt A s (.ref l) (.ref b) false := by
  have hne : l ≠ b := fun e => by
    subst e
    obtain ⟨o2, ho2, hc2, _⟩ := hb
    rw [ho] at ho2
    cases ho2
    rw [hc] at hc2
    exact absurd hc2 (by simp)
  refine EqAt.of_refs hne fun prog w E Q h => ?_
  obtain ⟨cls, dd, data, sl⟩ := o
  obtain ⟨⟨cls2, dd2, data2, sl2⟩, ho2, hc2, m, hd2⟩ := hb
  simp only at hc hd hc2 hd2
  subst hc hd hc2 hd2
  exact rc_eq_decline_or (k := false) ⟨_, ho, rfl⟩ ⟨_, ho2, rfl⟩ (by decide) F.sub_tuple_dict F.slot_dict_eq F.slot_tuple_eq_refl
    (fun _ hq => call_meets F.slot_dict_eq ⟨_, ho, rfl⟩ F.entry_dict_eq (F.args_dict_eq_2 _ _) (dict_declines_tup l b es items n m dd dd2 sl sl2) ⟨ho, ho2, hq⟩)
    (fun _ hq => call_meets F.slot_tuple_eq_refl ⟨_, ho2, rfl⟩ F.entry_tuple_eq (F.args_tuple_eq_2 _ _) (tup_declines_dict b l items es m n dd2 dd sl2 sl) ⟨ho2, ho, hq⟩)
    (fun _ hq => wpAny_isSame_ref_other hne ho ho2 (by simp) hq) (.inr hu) h
end
end
section
open PySem.Spec PyProof.Rows PySem L2 SeqAt
variable {K : PySem.W.Frag} {X : Cx} {e : Expr}
/-- these two are equal, or not -/
def ElE (K : PySem.W.Frag) (H : Hp) (x y : V) (b : Bool) : Prop := ∀ (X : Cx) (pins : List (Addr × Obj)) (σ : L2.St) (s : Shared) (u v : Value) (A : Around), X.K = K → Inv X pins σ H s → RelV x u → RelV y v → A.units + 2 < cLine → EqAt A s u v b
def eqX (M : Store) (x : D) : D → Option Bool
  | .str j => match x with
    | .str i => some (decide (i = j))
    | .non => some false
    | .bl _ => some false
    | .int _ => some false
    | .tup _ => some false
    | .lst _ => some false
    | .ref k => match M[k]? with
      | some (.dK _) => some false
      | _ => none
    | _ => none
  | .tup [] => match x with
    | .tup ds => some ds.isEmpty
    | .non => some false
    | .bl _ => some false
    | .int _ => some false
    | .str _ => some false
    | .lst _ => some false
    | .ref k => match M[k]? with
      | some (.dK _) => some false
      | _ => none
    | _ => none
  | _ => none
theorem tup_isT {pins : List (Addr × Obj)} {σ : L2.St} {H : Hp} {s : Shared} {a : Addr} {xs : List V} (I : Inv X pins σ H s) (h : SqT X.K H a xs) : ∃ its : List Value, Vals xs its ∧ s.heap.IsTuple a its.toArray := by
  obtain ⟨its, r, p, _⟩ := I.tuple h
  exact ⟨its, r, p⟩
theorem dict_obj {pins : List (Addr × Obj)} {σ : L2.St} {H : Hp} {s : Shared} {a : Addr} {kvs : List (Key × V)} (I : Inv X pins σ H s) (h : H a = some (.dK kvs)) : ∃ (o : Obj) (es : Array DictEntry) (n : Nat), s.heap.get? a = some o ∧ o.cls = .type "dict" ∧ o.data = .dict es n := by
  obtain ⟨-, -, vs, hk, oo, es, ep, q2, q3, q4, -⟩ := (show ObjOk X.prog X.w H s.heap a (.dK kvs) from I.hok a _ h)
  exact ⟨oo, es, ep, q2, q3.1, q4⟩
theorem el_at {w : Wd} (ok : w.Ok K) {x y : D} {v u : V} {b : Bool} (rx : Rep K w.A w.G v x) (ry : Rep K w.A w.G u y) (h : eqX w.M x y = some b) : ElE K w.H v u b := by
  intro X pins σ s u' v' A e I r1 r2 hu
  subst e
  unfold eqX at h
  split at h
  · rename_i j
    cases ry
    obtain ⟨t, rfl⟩ := r2
    split at h
    · rename_i i
      cases h
      cases rx
      obtain ⟨t', rfl⟩ := r1
      have := EqAt.str_str (A := A) (s := s) i t' j t
      rwa [show (i == j) = decide (i = j) by rw [Bool.eq_iff_iff]; simp] at this
    · cases h; cases rx; cases r1; exact EqAt.none_str j t
    · cases h; cases rx; cases r1; exact EqAt.bool_str _ j t
    · cases h; cases rx; obtain ⟨t', rfl⟩ := r1; exact EqAt.int_str _ t' j t
    · cases h
      cases rx with
      | tup hs hr =>
        cases r1
        obtain ⟨its, _, p⟩ := tup_isT I (.inl (.inl (ok.sub _ _ hs)))
        exact EqAt.tuple_str j t p (by omega)
    · cases h
      cases rx with
      | lst hs hr =>
        cases r1
        obtain ⟨its, _, p, _⟩ := I.list (.inl (.inl (ok.sub _ _ hs)))
        exact EqAt.list_str j t p.isList (by omega)
    · rename_i k
      split at h
      · rename_i kvs e2
        cases h
        obtain ⟨p, rfl, ea⟩ := ref_at (.inl rx)
        cases r1
        obtain ⟨a', e3, vs, h1, _⟩ := ok.mos k _ e2
        rw [ea] at e3
        cases e3
        obtain ⟨o, es, n, q1, q2, q3⟩ := dict_obj I h1
        exact eqAt_dict_str j t q1 q2 q3 (by omega)
      · cases h
    · cases h
  · cases ry with
    | @tup ya _ _ hy hyr =>
      cases hyr
      cases r2
      obtain ⟨ys, yr, yp⟩ := tup_isT I (.inl (.inl (ok.sub _ _ hy)))
      cases yr
      split at h
      · rename_i ds
        cases h
        cases rx with
        | @tup xa vs _ hs hr =>
          cases r1
          obtain ⟨its, xr, p⟩ := tup_isT I (.inl (.inl (ok.sub _ _ hs)))
          by_cases hab : xa = ya
          · subst hab
            rw [hs] at hy
            cases hy
            cases hr
            exact EqAt.same _
          · have := RcAt.tuples (A := A) (e := fun _ => true) p yp (by omega) (fun j h1 h2 => absurd h2 (by simp))
            have e2 : ((List.range (min its.toArray.size ([] : List Value).toArray.size)).all (fun _ => true) && its.toArray.size == ([] : List Value).toArray.size) = ds.isEmpty := by
              have l1 := xr.length
              have l2 := hr.length
              cases ds with
              | nil => cases hr; cases xr; rfl
              | cons d ds =>
                cases hr with
                | cons h1 h2 => cases xr; simp
            rw [e2] at this
            exact EqAt.of_refs hab this
      · cases h; cases rx; cases r1; exact EqAt.none_tuple yp (by omega)
      · cases h; cases rx; cases r1; exact EqAt.bool_tuple _ yp (by omega)
      · cases h; cases rx; obtain ⟨t', rfl⟩ := r1; exact EqAt.int_tuple _ t' yp (by omega)
      · cases h; cases rx; obtain ⟨t', rfl⟩ := r1; exact EqAt.str_tuple _ t' yp (by omega)
      · cases h
        cases rx with
        | lst hs hr =>
          cases r1
          obtain ⟨its, _, p, _⟩ := I.list (.inl (.inl (ok.sub _ _ hs)))
          exact EqAt.list_tuple p.isList yp (by omega)
      · rename_i k
        split at h
        · rename_i kvs e2
          cases h
          obtain ⟨p, rfl, ea⟩ := ref_at (.inl rx)
          cases r1
          obtain ⟨a', e3, vs, h1, _⟩ := ok.mos k _ e2
          rw [ea] at e3
          cases e3
          obtain ⟨o, es, n, q1, q2, q3⟩ := dict_obj I h1
          exact eqAt_dict_tup q1 q2 q3 yp (by omega)
        · cases h
      · cases h
  · cases h
/-- item by item, as many as both have -/
def eqXs (M : Store) : List D → List D → Option (List Bool)
  | x :: xs, y :: ys => match eqX M x y, eqXs M xs ys with
    | some b, some bs => some (b :: bs)
    | _, _ => none
  | _, _ => some []
theorem eqXs_at {w : Wd} (ok : w.Ok K) : ∀ {xs ys : List D} {vs us : List V} {bs : List Bool}, RepL K w.A w.G vs xs → RepL K w.A w.G us ys → eqXs w.M xs ys = some bs → bs.length = min vs.length us.length ∧ ∀ (j : Nat) (v u : V), vs[j]? = some v → us[j]? = some u → ElE K w.H v u (bs.getD j true)
  | [], _, _, _, _, r, _, h => by
    cases r
    rw [eqXs] at h
    · cases h; exact ⟨by simp, fun j v u e => by simp at e⟩
    · intro _ _ _ _ z; cases z
  | _ :: _, [], _, _, _, _, r, h => by
    cases r
    rw [eqXs] at h
    · cases h; exact ⟨by simp, fun j v u _ e => by simp at e⟩
    · intro _ _ _ _ _ z; cases z
  | x :: xs, y :: ys, _, _, _, .cons r1 r2, .cons q1 q2, h => by
    rw [eqXs] at h
    split at h
    · rename_i b bs e1 e2
      cases h
      obtain ⟨hl, ih⟩ := eqXs_at ok r2 q2 e2
      refine ⟨by simp only [List.length_cons, hl]; omega, fun j v u ev eu => ?_⟩
      cases j with
      | zero =>
        simp at ev eu
        subst ev eu
        exact el_at ok r1 q1 e1
      | succ j => exact ih j v u (by simpa using ev) (by simpa using eu)
    · cases h
theorem all_getD : ∀ bs : List Bool, (List.range bs.length).all (fun j => bs.getD j true) = bs.all id := fun bs => by
  rw [Bool.eq_iff_iff, List.all_eq_true, List.all_eq_true]
  constructor
  · intro h b hb
    obtain ⟨i, hi, rfl⟩ := List.mem_iff_getElem.mp hb
    have := h i (List.mem_range.mpr hi)
    simpa [List.getD, List.getElem?_eq_getElem hi] using this
  · intro h j hj
    have hj' := List.mem_range.mp hj
    have := h bs[j] (List.getElem_mem hj')
    simpa [List.getD, List.getElem?_eq_getElem hj'] using this
def rEqT (K : PySem.W.Frag) (f : Bool → Bool) : R2 := fun x y H Q => ∃ (a b : Addr) (vs us : List V) (bs : List Bool), x = .ref a ∧ y = .ref b ∧ SqT K H a vs ∧ SqT K H b us ∧ bs.length = min vs.length us.length ∧
  (∀ (j : Nat) (v u : V), vs[j]? = some v → us[j]? = some u → ElE K H v u (bs.getD j true)) ∧ Q (.bl (f (bs.all id && decide (vs.length = us.length)))) H
theorem rEqT_use {pins : List (Addr × Obj)} {σ : L2.St} {H : Hp} {s : Shared} {f : Bool → Bool} {x y : V} {v u : Value} {Q : VK} (hu : X.A.units + 200 < cLine) (I : Inv X pins σ H s) (rx : RelV x v) (ry : RelV y u) (h : rEqT X.K f x y H Q) :
    ∃ (a b : Addr) (its its2 : Array Value) (e : Nat → Bool), v = .ref a ∧ u = .ref b ∧ s.heap.IsTuple a its ∧ s.heap.IsTuple b its2 ∧ (∀ j (h1 : j < its.size) (h2 : j < its2.size), EqAt X.A.in1 s its[j] its2[j] (e j)) ∧ Q (.bl (f ((List.range (min its.size its2.size)).all e && its.size == its2.size))) H := by
  obtain ⟨a, b, vs, us, bs, rfl, rfl, h1, h2, hl, he, q⟩ := h
  cases rx
  cases ry
  obtain ⟨its, r1, p1⟩ := tup_isT I h1
  obtain ⟨its2, r2, p2⟩ := tup_isT I h2
  refine ⟨a, b, its.toArray, its2.toArray, fun j => bs.getD j true, rfl, rfl, p1, p2, fun j j1 j2 => ?_, ?_⟩
  · have k1 : j < vs.length := by have := r1.length; simp at j1; omega
    have k2 : j < us.length := by have := r2.length; simp at j2; omega
    obtain ⟨z1, e1, w1⟩ := r1.get (List.getElem?_eq_getElem k1)
    obtain ⟨z2, e2, w2⟩ := r2.get (List.getElem?_eq_getElem k2)
    have := he j _ _ (List.getElem?_eq_getElem k1) (List.getElem?_eq_getElem k2) X pins σ s z1 z2 X.A.in1 rfl I w1 w2 (by show X.A.units + 1 + 2 < cLine; omega)
    have g1 : its.toArray[j] = z1 := by
      have := List.getElem?_eq_some_iff.mp e1
      obtain ⟨_, e⟩ := this
      simpa using e
    have g2 : its2.toArray[j] = z2 := by
      obtain ⟨_, e⟩ := List.getElem?_eq_some_iff.mp e2
      simpa using e
    rw [g1, g2]
    exact this
  · have l1 := r1.length
    have l2 := r2.length
    have e1 : (List.range (min its.toArray.size its2.toArray.size)).all (fun j => bs.getD j true) = bs.all id := by
      rw [← all_getD bs, hl]
      simp only [List.size_toArray, l1, l2]
    have e2 : (its.toArray.size == its2.toArray.size) = decide (vs.length = us.length) := by
      rw [Bool.eq_iff_iff]
      simp [l1, l2]
    rw [e1, e2]
    exact q
theorem op_eqE (hu : X.A.units + 200 < cLine) : OpR X (compareOp .Eq) (rEqT X.K fun b => b) := by
  intro pins s σ H x y v u Q I rx ry h
  obtain ⟨a, b, its, its2, e, rfl, rfl, p1, p2, he, q⟩ := rEqT_use hu I rx ry h
  exact RcAt.tuples p1 p2 (by omega) he _ _ _ _ ⟨.bl _, H, I, rfl, q⟩
theorem op_neE (hu : X.A.units + 200 < cLine) : OpR X (compareOp .NotEq) (rEqT X.K fun b => !b) := by
  intro pins s σ H x y v u Q I rx ry h
  obtain ⟨a, b, its, its2, e, rfl, rfl, p1, p2, he, q⟩ := rEqT_use hu I rx ry h
  exact RcNeAt.tuples p1 p2 (by omega) he _ _ _ _ ⟨.bl _, H, I, rfl, q⟩
def eqE2 (f : Bool → Bool) (M : Store) (x y : D) : Option Slot := match x, y with
  | .tup xs, .tup ys => (eqXs M xs ys).map fun bs => .val (.bl (f (bs.all id && decide (xs.length = ys.length))))
  | _, _ => none
def eqE : Store → D → D → Option Slot := eqE2 fun b => b
def neE : Store → D → D → Option Slot := eqE2 fun b => !b
theorem p_eqE2 (f : Bool → Bool) : Prim2 K (rEqT K f) (eqE2 f) := by
  intro w vx vy x y s Q ok rx ry h k
  unfold eqE2 at h
  split at h
  · rename_i xs ys
    obtain ⟨bs, hb, rfl⟩ := Option.map_eq_some_iff.mp h
    rcases rx with rx | ⟨_, _, _, _, z, _⟩
    · rcases ry with ry | ⟨_, _, _, _, z, _⟩
      · cases rx with
        | tup h1 r1 =>
          cases ry with
          | tup h2 r2 =>
            obtain ⟨hl, he⟩ := eqXs_at ok r1 r2 hb
            refine ⟨_, _, _, _, bs, rfl, rfl, .inl (.inl (ok.sub _ _ h1)), .inl (.inl (ok.sub _ _ h2)), hl, he, ?_⟩
            rw [r1.length, r2.length]
            exact ans ok k fun _ _ => .bl _
      · cases z
    · cases z
  · cases h
theorem p_eqE : Prim2 K (rEqT K fun b => b) eqE := p_eqE2 _
theorem p_neE : Prim2 K (rEqT K fun b => !b) neE := p_eqE2 _
theorem eqE_nil (M : Store) (xs : List D) : eqE M (.tup xs) (.tup []) = some (.val (.bl xs.isEmpty)) := by
  cases xs <;> rfl
theorem neE_nil (M : Store) (xs : List D) : neE M (.tup xs) (.tup []) = some (.val (.bl (!xs.isEmpty))) := by
  cases xs <;> rfl
end
end TP
/-! TPeo: zip of any two: tuples, lists, texts. -/
namespace TP
section
open PySem PySem.Spec PyProof.Rows L2
/-- what zip walks along -/
inductive Sk where
  | tup (a : Addr) | lst (a : Addr) | txt (z : Str) (t : Tok)
def signsV (z : Str) : List V := z.cps.toList.map fun c => V.str ⟨#[c]⟩
namespace Sk
def it : Sk → Addr → Nat → Heap → Prop
  | .tup a, J, i, h => h.IsTupleIter J a i
  | .lst a, J, i, h => h.IsListIter J a i
  | .txt z t, J, i, h => h.IsStrIter J (strIterType z) z t i
def sq (K : PySem.W.Frag) (H : Hp) : Sk → List V → Prop
  | .tup a, xs => SqT K H a xs
  | .lst a, xs => SqL K H a xs
  | .txt z _, xs => xs = signsV z
def src : Sk → List Addr
  | .tup a => [a]
  | .lst a => [a]
  | .txt _ _ => []
def val : Sk → Value
  | .tup a => .ref a
  | .lst a => .ref a
  | .txt z t => .str z t
theorem obj : ∀ {k : Sk} {J i h}, k.it J i h → ∃ o, h.get? J = some o ∧ ∀ v, o.data ≠ .cell v
  | .tup _, _, _, _, ⟨o, e, _, d⟩ => ⟨o, e, fun v q => by rw [d] at q; cases q⟩
  | .lst _, _, _, _, ⟨o, e, _, d⟩ => ⟨o, e, fun v q => by rw [d] at q; cases q⟩
  | .txt _ _, _, _, _, ⟨o, e, _, d⟩ => ⟨o, e, fun v q => by rw [d] at q; cases q⟩
theorem keep : ∀ {k : Sk} {J i h h'}, k.it J i h → (∀ o, h.get? J = some o → h'.get? J = some o) → k.it J i h'
  | .tup _, _, _, _, _, ⟨o, e, r⟩, q => ⟨o, q o e, r⟩
  | .lst _, _, _, _, _, ⟨o, e, r⟩, q => ⟨o, q o e, r⟩
  | .txt _ _, _, _, _, _, ⟨o, e, r⟩, q => ⟨o, q o e, r⟩
theorem inj {X : Cx} {pins : List (Addr × Obj)} {σ : L2.St} {H : Hp} {s : Shared} (I : Inv X pins σ H s) : ∀ {k : Sk} {xs ys : List V}, k.sq X.K H xs → k.sq X.K H ys → xs = ys
  | .tup _, _, _, a, b => I.tuple_inj a b
  | .lst _, _, _, a, b => I.list_inj a b
  | .txt _ _, _, _, a, b => a.trans b.symm
theorem vals_back : ∀ {xs : List V} {us : List Value} {i : Nat} {u : Value}, Vals xs us → us[i]? = some u → ∃ x, xs[i]? = some x ∧ RelV x u
  | _, _, _, _, .nil, e => by simp at e
  | _, _, 0, _, .cons r _, e => by simp at e; subst e; exact ⟨_, rfl, r⟩
  | _, _, i + 1, _, .cons _ t, e => by
    obtain ⟨x, hx, rx⟩ := vals_back (i := i) t (by simpa using e)
    exact ⟨x, by simpa using hx, rx⟩
/-- what it draws, and how -/
theorem draws {X : Cx} {pins : List (Addr × Obj)} {σ : L2.St} {H : Hp} {s : Shared} {A : Around} (I : Inv X pins σ H s) (hh : A.handled = none) : ∀ {k : Sk} {J : Addr} {xs : List V}, J ∉ k.src → k.sq X.K H xs →
    ∃ (P : Nat → Value → Prop) (S : Nat → Heap → Prop), Draws X.prog X.w A J (J :: k.src) xs.length P S ∧ (∀ i, k.it J i s.heap → S i s.heap) ∧ (∀ i h, S i h → k.it J i h) ∧ ∀ i u, P i u → ∃ x, xs[i]? = some x ∧ RelV x u
  | .tup a, J, xs, hn, hq => by
    obtain ⟨us, rv, p, _⟩ := I.tuple (show SqT X.K H a xs from hq)
    have hne : a ≠ J := fun e => hn (by simp [src, e])
    have D := Draws.tuple (prog := X.prog) (w := X.w) hh J a hne us.toArray
    have hl : us.toArray.size = xs.length := by rw [List.size_toArray]; exact rv.length.symm
    rw [hl] at D
    exact ⟨_, _, D, fun i h => ⟨h, p⟩, fun i h z => z.1, fun i u e => vals_back rv (by simpa using e)⟩
  | .lst a, J, xs, hn, hq => by
    obtain ⟨us, rv, p, _⟩ := I.list (show SqL X.K H a xs from hq)
    have hne : a ≠ J := fun e => hn (by simp [src, e])
    have D := Draws.list (prog := X.prog) (w := X.w) hh J a hne us.toArray
    have hl : us.toArray.size = xs.length := by rw [List.size_toArray]; exact rv.length.symm
    rw [hl] at D
    exact ⟨_, _, D, fun i h => ⟨h, p.isList⟩, fun i h z => z.1, fun i u e => vals_back rv (by simpa using e)⟩
  | .txt z t, J, xs, _, hq => by
    have e : xs = signsV z := hq
    subst e
    have D := Draws.text (prog := X.prog) (w := X.w) hh J z t
    have hl : z.cps.size = (signsV z).length := by simp [signsV]
    rw [hl] at D
    refine ⟨_, _, D, fun i h => h, fun i h z => z, fun i u ⟨c, t', e, eu⟩ => ?_⟩
    subst eu
    exact ⟨.str ⟨#[c]⟩, by simp [signsV, e], t', rfl⟩
/-- at its end, or beyond -/
theorem ends {X : Cx} {pins : List (Addr × Obj)} {σ : L2.St} {H : Hp} {s : Shared} {A : Around} (I : Inv X pins σ H s) (hh : A.handled = none) {i : Nat} : ∀ {k : Sk} {J : Addr} {xs : List V}, J ∉ k.src → k.sq X.K H xs → xs.length ≤ i → k.it J i s.heap →
    ∃ (P : Nat → Value → Prop) (S : Nat → Heap → Prop), Draws X.prog X.w A J (J :: k.src) i P S ∧ S i s.heap
  | .tup a, J, xs, hn, hq, hl, hi => by
    obtain ⟨us, rv, p, _⟩ := I.tuple (show SqT X.K H a xs from hq)
    have hne : a ≠ J := fun e => hn (by simp [src, e])
    refine ⟨fun _ _ => True, fun j h => j = i ∧ h.IsTupleIter J a i ∧ h.IsTuple a us.toArray, ⟨fun j h ⟨_, ⟨o, e, _⟩, _⟩ => ⟨o, e⟩, fun j h h' ⟨e, z1, z2⟩ hk => ⟨e, z1.at fun o q => hk J (by simp) o q, z2.at fun o q => hk a (by simp [src]) o q⟩,
      fun j s Q E hj z => absurd hj (by rw [z.1]; exact Nat.lt_irrefl _), fun s Q E z hE => PySem.wpAny_nextOf_tuple_end hh z.2.1 z.2.2 (by have := rv.length; simp; omega) hE⟩, rfl, hi, p⟩
  | .lst a, J, xs, hn, hq, hl, hi => by
    obtain ⟨us, rv, p, _⟩ := I.list (show SqL X.K H a xs from hq)
    have hne : a ≠ J := fun e => hn (by simp [src, e])
    refine ⟨fun _ _ => True, fun j h => j = i ∧ h.IsListIter J a i ∧ h.IsList a us.toArray, ⟨fun j h ⟨_, ⟨o, e, _⟩, _⟩ => ⟨o, e⟩, fun j h h' ⟨e, z1, z2⟩ hk => ⟨e, z1.at fun o q => hk J (by simp) o q, z2.at fun o q => hk a (by simp [src]) o q⟩,
      fun j s Q E hj z => absurd hj (by rw [z.1]; exact Nat.lt_irrefl _), fun s Q E z hE => wpAny_nextOf_list_end hh z.2.1 z.2.2 (by have := rv.length; simp; omega) hE⟩, rfl, hi, p.isList⟩
  | .txt z t, J, xs, _, hq, hl, hi => by
    have e : xs = signsV z := hq
    subst e
    have hl' : z.cps.size ≤ i := by simpa [signsV] using hl
    refine ⟨fun _ _ => True, fun j h => j = i ∧ h.IsStrIter J (strIterType z) z t i, ⟨fun j h ⟨_, ⟨o, e, _⟩⟩ => ⟨o, e⟩, fun j h h' ⟨e, ⟨o, q, r⟩⟩ hk => ⟨e, o, hk J (by simp) o q, r⟩,
      fun j s Q E hj z => absurd hj (by rw [z.1]; exact Nat.lt_irrefl _), fun s Q E y hE => ?_⟩, rfl, hi⟩
    have y2 := y.2
    cases ha : z.cps.all (· < 128)
    · simp only [strIterType, ha, Bool.false_eq_true, if_false] at y2
      exact wpAny_nextOf_wide_end hh y2 (Array.getElem?_eq_none hl') hE
    · simp only [strIterType, ha, if_true] at y2
      exact wpAny_nextOf_ascii_end hh y2 (Array.getElem?_eq_none hl') hE
end Sk
theorem Sk.lt {X : Cx} {pins : List (Addr × Obj)} {σ : L2.St} {H : Hp} {s : Shared} (I : Inv X pins σ H s) : ∀ {k : Sk} {xs : List V}, k.sq X.K H xs → ∀ b ∈ k.src, b < s.heap.objs.size
  | .tup a, xs, hq, b, hb => by
    obtain ⟨us, rv, ⟨o, e, _⟩, _⟩ := I.tuple (show SqT X.K H a xs from hq)
    obtain rfl : b = a := by simpa [Sk.src] using hb
    exact Heap.lt_size e
  | .lst a, xs, hq, b, hb => by
    obtain ⟨us, rv, p, _⟩ := I.list (show SqL X.K H a xs from hq)
    obtain rfl : b = a := by simpa [Sk.src] using hb
    exact p.lt
  | .txt _ _, _, _, b, hb => by simp [Sk.src] at hb
theorem Sk.begins {X : Cx} {pins : List (Addr × Obj)} {σ : L2.St} {H : Hp} {s : Shared} (I : Inv X pins σ H s) : ∀ {k : Sk} {xs : List V}, k.sq X.K H xs → ∃ (o : Obj) (G : Heap → Prop), Begins k.val o G ∧ G s.heap ∧ ∀ (h : Heap) (J : Addr), h.get? J = some o → k.it J 0 h
  | .tup a, xs, hq => by
    obtain ⟨us, rv, p, _⟩ := I.tuple (show SqT X.K H a xs from hq)
    exact ⟨_, _, begins_tuple a us.toArray, p, fun h J e => ⟨_, e, rfl, rfl⟩⟩
  | .lst a, xs, hq => by
    obtain ⟨us, rv, p, _⟩ := I.list (show SqL X.K H a xs from hq)
    exact ⟨_, _, begins_list a us.toArray, p.isList, fun h J e => ⟨_, e, rfl, rfl⟩⟩
  | .txt z t, _, _ => ⟨_, _, begins_text z t, trivial, fun h J e => ⟨_, e, rfl, rfl⟩⟩
/-- the two as they stand at each turn, the items in new pairs -/
def ItzG (K : PySem.W.Frag) (k1 k2 : Sk) : It :=
  ⟨fun i H => ∃ (xs ys : List V) (x y : V), k1.sq K H xs ∧ k2.sq K H ys ∧ xs[i]? = some x ∧ ys[i]? = some y,
    fun i H v H' => ∃ T x y, v = .ref T ∧ H T = none ∧ H' = upd H T (.tup [x, y]) ∧ (∀ xs, k1.sq K H xs → xs[i]? = some x) ∧ ∀ ys, k2.sq K H ys → ys[i]? = some y,
    fun i H => ∃ xs ys : List V, k1.sq K H xs ∧ k2.sq K H ys ∧ (xs.length ≤ i ∨ ys.length ≤ i)⟩
theorem turn_zipG {P : Program} {w : World} {K : PySem.W.Frag} {elts : List Expr} {kk : Nat} {tpos : Pos} {k1 k2 : Sk} {z TI TO i1 i2 : Addr} (D : ZipSep2 z TI TO i1 i2 (i1 :: k1.src) (i2 :: k2.src)) (n1 : i1 ∉ k1.src) (n2 : i2 ∉ k2.src) :
    Turn P w K (.Tuple elts kk tpos) (ItzG K k1 k2) [z, TI, TO, i1, i2] z (fun i h => IsZip h z TI TO .none ∧ IsTupOf2 h TI (.ref i1) (.ref i2) ∧ (∃ x y, IsTupOf2 h TO x y) ∧ k1.it i1 i h ∧ k2.it i2 i h) where
  mem := by simp
  obj := fun i h st c hc => by
    obtain ⟨hz, hTI, ⟨x, y, hTO⟩, e1, e2⟩ := st
    have e' : c = z ∨ c = TI ∨ c = TO ∨ c = i1 ∨ c = i2 := by simpa using hc
    rcases e' with q | q | q | q | q
    · rw [q]; exact ⟨_, hz, fun v q => nomatch q⟩
    · rw [q]; exact ⟨_, hTI, fun v q => nomatch q⟩
    · rw [q]; exact ⟨_, hTO, fun v q => nomatch q⟩
    · rw [q]; exact Sk.obj e1
    · rw [q]; exact Sk.obj e2
  keep := fun i h h' st k => by
    obtain ⟨hz, hTI, ⟨x, y, hTO⟩, e1, e2⟩ := st
    exact ⟨k z (by simp) _ hz, k TI (by simp) _ hTI, ⟨x, y, k TO (by simp) _ hTO⟩, Sk.keep e1 fun o q => k i1 (by simp) o q, Sk.keep e2 fun o q => k i2 (by simp) o q⟩
  item := by
    intro X hP hw hK hc i pins s σ H E I hf st hg
    subst hP hw hK
    obtain ⟨hz, hTI, ⟨x0, y0, hTO⟩, e1, e2⟩ := st
    obtain ⟨xs, ys, x, y, hqx, hqy, hx, hy⟩ := hg
    have hh : X.A.in1.handled = none := I.ok.hd hc
    obtain ⟨P1, S1, D1, a1, b1, c1⟩ := Sk.draws I hh n1 hqx
    obtain ⟨P2, S2, D2, a2, b2, c2⟩ := Sk.draws I hh n2 hqy
    have hzl : z < s.heap.objs.size := Heap.lt_size hz
    refine wpAny_pyNext_zipD2_item D D1 D2 hz hTI hTO (a1 i e1) (a2 i e2) (List.getElem?_eq_some_iff.mp hx).1 (List.getElem?_eq_some_iff.mp hy).1 fun u u2 h' tk p1 p2 z' TO' s1' s2' hT hsz hk => ?_
    obtain ⟨x', ex, ru⟩ := c1 i u p1
    obtain ⟨y', ey, ru2⟩ := c2 i u2 p2
    obtain rfl : x = x' := by rw [hx] at ex; exact Option.some.inj ex
    obtain rfl : y = y' := by rw [hy] at ey; exact Option.some.inj ey
    refine ⟨_, rfl, wpAny_letOwnedTupleGo_zip (s := { s with heap := h', toks := tk }) z' fun h'' z'' sb => ?_⟩
    have hT2 : h''.get? s.heap.objs.size = some { cls := .type "tuple", data := .seq #[u, u2] } := (sb.2 _ (Nat.ne_of_gt hzl)).trans hT
    have new : ObjOk X.prog X.w (upd H s.heap.objs.size (.tup [x, y])) h'' s.heap.objs.size (.tup [x, y]) :=
      ⟨by show 2 ≤ sizeLine; decide, [u, u2], .cons ru (.cons ru2 .nil), ⟨_, hT2, rfl, _, rfl⟩⟩
    have I1 : Inv X pins σ (upd H s.heap.objs.size (.tup [x, y])) { s with heap := h'', toks := tk } :=
      I.turnedNew (t' := tk) (ch := [z, TI, TO, i1, i2]) (fun c o hb q => (sb.2 c (fun q' => hb (by simp [q']))).trans (hk c o (fun q' => hb (by simp [q'])) (fun q' => hb (by simp [q'])) (fun q' => hb (by simp [q'])) (fun q' => hb (by simp [q'])) q)) hf (Nat.le_refl _) new
    refine ⟨.ref s.heap.objs.size, _, I1, rfl, ⟨_, x, y, rfl, I.hok.fresh (Nat.le_refl _), rfl, fun l hl => by rw [Sk.inj I hl hqx]; exact hx, fun l hl => by rw [Sk.inj I hl hqy]; exact hy⟩, ⟨z'', ?_, ⟨u, u2, ?_⟩, ?_, ?_⟩, fun c hcm => ?_⟩
    · exact (sb.2 _ D.TIz).trans (hk _ _ D.TIz D.TITO D.TIi1 D.TIi2 hTI)
    · exact (sb.2 _ D.TOz).trans TO'
    · exact Sk.keep (b1 _ _ s1') fun o q => (sb.2 _ D.zi1.symm).trans q
    · exact Sk.keep (b2 _ _ s2') fun o q => (sb.2 _ D.zi2.symm).trans q
    · have hlt : c < s.heap.objs.size := by
        have e' : c = z ∨ c = TI ∨ c = TO ∨ c = i1 ∨ c = i2 := by simpa using hcm
        rcases e' with q | q | q | q | q
        · rw [q]; exact hzl
        · rw [q]; exact Heap.lt_size hTI
        · rw [q]; exact Heap.lt_size hTO
        · rw [q]; obtain ⟨_, e, _⟩ := Sk.obj e1; exact Heap.lt_size e
        · rw [q]; obtain ⟨_, e, _⟩ := Sk.obj e2; exact Heap.lt_size e
      rw [upd_ne (Nat.ne_of_lt hlt)]
      exact (hf c hcm).1
  done := by
    intro X hP hw hK hc i pins s σ H E I hf st hg
    subst hP hw hK
    obtain ⟨hz, hTI, ⟨x0, y0, hTO⟩, e1, e2⟩ := st
    obtain ⟨xs, ys, hqx, hqy, hend⟩ := hg
    have hh : X.A.in1.handled = none := I.ok.hd hc
    have fin : ∀ (h' : Heap) (tk : Nat), (∀ c o, c ≠ z → c ≠ TO → c ≠ i1 → c ≠ i2 → s.heap.get? c = some o → h'.get? c = some o) → Inv X pins σ H { s with heap := h', toks := tk } := fun h' tk hk =>
      I.turnedL (t' := tk) (ch := [z, TI, TO, i1, i2]) (fun c o hb q => hk c o (fun q' => hb (by simp [q'])) (fun q' => hb (by simp [q'])) (fun q' => hb (by simp [q'])) (fun q' => hb (by simp [q'])) q) hf
    by_cases hl1 : xs.length ≤ i
    · obtain ⟨P1, S1, D1, a1⟩ := Sk.ends I hh n1 hqx hl1 e1
      by_cases hl2 : ys.length ≤ i
      · obtain ⟨P2, S2, D2, a2⟩ := Sk.ends I hh n2 hqy hl2 e2
        exact wpAny_pyNext_zipD2_end D D1 D2 hz hTI hTO a1 a2 (Nat.le_refl _) (Nat.le_refl _) (.inl rfl) fun h' tk hk => ⟨rfl, fin h' tk hk⟩
      · obtain ⟨P2, S2, D2, a2, _⟩ := Sk.draws I hh n2 hqy
        exact wpAny_pyNext_zipD2_end D D1 D2 hz hTI hTO a1 (a2 i e2) (Nat.le_refl _) (by omega) (.inl rfl) fun h' tk hk => ⟨rfl, fin h' tk hk⟩
    · have hl2 : ys.length ≤ i := hend.resolve_left hl1
      obtain ⟨P1, S1, D1, a1, _⟩ := Sk.draws I hh n1 hqx
      obtain ⟨P2, S2, D2, a2⟩ := Sk.ends I hh n2 hqy hl2 e2
      exact wpAny_pyNext_zipD2_end D D1 D2 hz hTI hTO (a1 i e1) a2 (by omega) (Nat.le_refl _) (.inr rfl) fun h' tk hk => ⟨rfl, fin h' tk hk⟩
  self := fun A i s Q E st h => wpAny_pyIter_zip st.1 h
/-- the value that zip is given, its kind (a text's token left out) -/
def VSk (v : V) (k : Sk) : Prop := (∃ a, v = .ref a ∧ (k = .tup a ∨ k = .lst a)) ∨ ∃ z, v = .str z ∧ k = .txt z 0
theorem vsk_val {v : V} {k : Sk} {u : Value} (h : VSk v k) (r : RelV v u) : ∃ k' : Sk, k'.val = u ∧ k'.src = k.src ∧ (∀ K H, k'.sq K H = k.sq K H) := by
  rcases h with ⟨a, rfl, h⟩ | ⟨z, rfl, rfl⟩
  · obtain rfl : u = Value.ref a := r
    rcases h with rfl | rfl
    · exact ⟨.tup a, rfl, rfl, fun _ _ => rfl⟩
    · exact ⟨.lst a, rfl, rfl, fun _ _ => rfl⟩
  · obtain ⟨t, rfl⟩ := r
    exact ⟨.txt z t, rfl, rfl, fun _ _ => rfl⟩
def iZipG (K : PySem.W.Frag) (ta : TA) : TI := fun σ H R => ta σ H fun vs H1 => ∃ (v1 v2 : V) (k1 k2 : Sk) (xs ys : List V), vs = [v1, v2] ∧ VSk v1 k1 ∧ VSk v2 k2 ∧ k1.sq K H1 xs ∧ k2.sq K H1 ys ∧ R (ItzG K k1 k2) H1
theorem pi_zipG {X : Cx} {e e2 : Expr} {ta : TA} {p pos tpos : Pos} {elts : List Expr} {kk : Nat} (hg : Gl X "zip") (hm : X.mg "zip" = none) (ha : PA X [e, e2] ta)
    (hs : starEach [e, e2] X.env = (false, eval e X.env) :: starEach [e2] X.env := by rfl) (hpl : (backTo pos (starEach [e2] X.env)).any (·.1) = false := by rfl) :
    PI X (.Tuple elts kk tpos) (.Call (.Name "zip" p) [e, e2] [] pos) (iZipG X.K ta) := by
  refine ⟨fun pins s σ H R I h => ?_⟩
  refine Call_ (ld_blt I hg hm PyProof.Rows.boot_zip (PyProof.Rows.callWith_type1 (thn (ha.run pos pins s σ H _ I h) fun us s1 ⟨vs, H1, I1, r1, q1⟩ => ?_) hs hpl))
  obtain ⟨v1, v2, k1, k2, xs, ys, ex, g1, g2, hqx, hqy, q⟩ := q1
  subst ex
  cases r1 with
  | cons r rr =>
    cases rr with
    | cons r' rr =>
      cases rr
      obtain ⟨k1', rfl, m1, w1⟩ := vsk_val g1 r
      obtain ⟨k2', rfl, m2, w2⟩ := vsk_val g2 r'
      rw [← w1] at hqx
      rw [← w2] at hqy
      have eJ : ItzG X.K k1 k2 = ItzG X.K k1' k2' := by
        unfold ItzG
        simp only [w1, w2]
      rw [eJ] at q
      have l1 := Sk.lt I1 hqx
      have l2 := Sk.lt I1 hqy
      obtain ⟨o1, G1, B1, j1, t1⟩ := Sk.begins I1 hqx
      obtain ⟨o2, G2, B2, j2, t2⟩ := Sk.begins I1 hqy
      have fresh5 : ∀ c, c ∈ [s1.heap.objs.size + 4, s1.heap.objs.size + 2, s1.heap.objs.size + 3, s1.heap.objs.size, s1.heap.objs.size + 1] → FpOk X pins H1 c := fun c hcm => by
        have e' : c = s1.heap.objs.size + 4 ∨ c = s1.heap.objs.size + 2 ∨ c = s1.heap.objs.size + 3 ∨ c = s1.heap.objs.size ∨ c = s1.heap.objs.size + 1 := by simpa using hcm
        have hle : s1.heap.objs.size ≤ c := by
          rcases e' with z | z | z | z | z
          · rw [z]; exact Nat.le_add_right _ _
          · rw [z]; exact Nat.le_add_right _ _
          · rw [z]; exact Nat.le_add_right _ _
          · rw [z]; exact Nat.le_refl _
          · rw [z]; exact Nat.le_add_right _ _
        exact I1.fpOk hle (I1.hok.fresh hle)
      refine zip_begins2 B1 B2 j1 j2 fun h' hz hTI hTO g1 g2 hsz hk => wpAny_pyIter_zip hz ?_
      have I2 : Inv X pins σ H1 { s1 with heap := h' } := I1.kept (t' := s1.toks) hk
      exact ⟨s1.heap.objs.size + 4, [s1.heap.objs.size + 4, s1.heap.objs.size + 2, s1.heap.objs.size + 3, s1.heap.objs.size, s1.heap.objs.size + 1], _, _, H1, rfl, I2,
        turn_zipG (zip_sep2 l1 l2) (fun m => absurd (l1 _ m) (Nat.lt_irrefl _)) (fun m => absurd (l2 _ m) (Nat.not_lt.mpr (Nat.le_succ _))), ⟨hz, hTI, ⟨_, _, hTO⟩, t1 _ _ g1, t2 _ _ g2⟩, fresh5, q⟩
end
section
open PySem L2
variable {K : PySem.W.Frag} {E : Wish} {X : Cx} {e : Expr}
/-- the items of what zip walks along -/
def zipItems : D → Option (List D)
  | .tup ds => some ds
  | .kt ds => some ds
  | .lst ds => some ds
  | .fro ds => some ds
  | .str z => some (z.cps.toList.map fun c => .str ⟨#[c]⟩)
  | _ => none
theorem signs_rep (A : List Addr) (G : Hp) : ∀ l : List Nat, RepL K A G (l.map fun c => V.str ⟨#[c]⟩) (l.map fun c => D.str ⟨#[c]⟩)
  | [] => .nil
  | c :: l => .cons (.str _) (signs_rep A G l)
theorem zip_src {w : Wd} {v : V} {x : D} {ds : List D} (r : Rep K w.A w.G v x) (h : zipItems x = some ds) : ∃ (k : Sk) (vs : List V), VSk v k ∧ RepL K w.A w.G vs ds ∧ ∀ w2, Le w w2 → w2.Ok K → k.sq K w2.H vs := by
  cases r with
  | tup hs hr => cases h; exact ⟨.tup _, _, .inl ⟨_, rfl, .inl rfl⟩, hr, fun w2 le ok => .inl (.inl (ok.sub _ _ (le.2 _ _ hs)))⟩
  | kt hs hr => cases h; exact ⟨.tup _, _, .inl ⟨_, rfl, .inl rfl⟩, hr, fun w2 le ok => sqT_mono ok.sub (sqT_mono le.2 hs)⟩
  | lst hs hr => cases h; exact ⟨.lst _, _, .inl ⟨_, rfl, .inr rfl⟩, hr, fun w2 le ok => .inl (.inl (ok.sub _ _ (le.2 _ _ hs)))⟩
  | fro hs hr => cases h; exact ⟨.lst _, _, .inl ⟨_, rfl, .inr rfl⟩, hr, fun w2 le ok => ok.sub.seq (le.2.seq hs)⟩
  | str z => cases h; exact ⟨.txt z 0, _, .inr ⟨z, rfl, rfl⟩, signs_rep _ _ _, fun w2 le ok => rfl⟩
  | non => cases h
  | bl => cases h
  | int => cases h
  | ref => cases h
  | fn => cases h
theorem it_zipG {w : Wd} {k1 k2 : Sk} {vs us : List V} {ds es : List D} (rl : RepL K w.A w.G vs ds) (rl' : RepL K w.A w.G us es) (h1 : ∀ w2, Le w w2 → w2.Ok K → k1.sq K w2.H vs) (h1' : ∀ w2, Le w w2 → w2.Ok K → k2.sq K w2.H us) : IterOk K w (ItzG K k1 k2) (zipL ds es) := fun w2 le ok2 i => by
  have h2 := h1 w2 le ok2
  have h2' := h1' w2 le ok2
  refine ⟨fun d ed => ?_, fun hl => ⟨vs, us, h2, h2', by rw [zipL_len] at hl; rw [rl.length, rl'.length]; omega⟩⟩
  obtain ⟨x, y, ex, ey, rfl⟩ := zipL_get ds es i d ed
  obtain ⟨v, ev, rv⟩ := (le.repL rl).get ex
  obtain ⟨u, eu, ru⟩ := (le.repL rl').get ey
  refine ⟨⟨vs, us, v, u, h2, h2', ev, eu⟩, fun z H' hy => ?_⟩
  obtain ⟨T, x', y', rfl, hT, rfl, y1, y2⟩ := hy
  have q1 := y1 vs h2
  rw [ev] at q1
  cases q1
  have q2 := y2 us h2'
  rw [eu] at q2
  cases q2
  have st := ok2.fresh hT (.tup [v, u])
  exact ⟨_, st, rfl, rfl, .tup upd_same (.cons (st.rep rv) (.one (st.rep ru)))⟩
def dZipG (fs : FL) : FL := fun ρ M => (fs ρ M).bind fun ds M => match ds with
  | [x, y] => match zipItems x, zipItems y with
    | some xs, some ys => .ok (zipL xs ys) M
    | _, _ => .bad
  | _ => .bad
@[simp] theorem dZipG_eq (fs : FL) (ρ : EnvD) (M : Store) : dZipG fs ρ M = (fs ρ M).bind fun ds M => match ds with
  | [x, y] => match zipItems x, zipItems y with
    | some xs, some ys => .ok (zipL xs ys) M
    | _, _ => .bad
  | _ => .bad := rfl
theorem x_zipG {tg : Expr} {fs : FL} (h : PI X tg e (iZipG K (tAF K E fs))) : PI X tg e (tI K E (dZipG fs)) := PI.wk h fun σ H Q ⟨ρ, w, e1, ok, sr, a⟩ =>
  ⟨ρ, w, e1, ok, sr, a.bind.imp fun ds w1 s1 a1 vs rvs => by
    split at a1
    · split at a1
      · rename_i xs ys z1 z2
        cases rvs with
        | cons r1 r2 =>
          cases r2 with
          | cons r2 r3 =>
            cases r3
            obtain ⟨k1, us1, g1, rl1, t1⟩ := zip_src r1 z1
            obtain ⟨k2, us2, g2, rl2, t2⟩ := zip_src r2 z2
            exact ⟨_, _, k1, k2, us1, us2, rfl, g1, g2, t1 _ (Le.refl _) s1.ok, t2 _ (Le.refl _) s1.ok, a1 w1 (Step.refl s1.ok) rfl _ (it_zipG rl1 rl2 t1 t2)⟩
      · exact a1.elim
    · exact a1.elim⟩
end
end TP
/-! TPx: the expressions of a program, plain. -/
namespace TP
open PySem L2
inductive Ex where
  | num (n : Int)
  | use (x : Str)
  | op (s : Str) (a b : Ex)
  | lt (x : Str) (a b : Ex)
  | ite (a b c : Ex)
  | times (a : Ex) (i s : Str) (b c : Ex)
  | tell (a b : Ex)
  | stop (a : Ex)
  | call (m f : Str) (as : List Ex)
namespace Ex
mutual
def toD : Ex → D
  | num n => .tup [.str "num", .int n]
  | use x => .tup [.str "use", .str x]
  | op s a b => .tup [.str "op", .str s, toD a, toD b]
  | lt x a b => .tup [.str "let", .str x, toD a, toD b]
  | ite a b c => .tup [.str "if", toD a, toD b, toD c]
  | times a i s b c => .tup [.str "times", toD a, .str i, .str s, toD b, toD c]
  | tell a b => .tup [.str "tell", toD a, toD b]
  | stop a => .tup [.str "stop", toD a]
  | call m f as => .tup [.str "call", .str m, .str f, .tup (toDs as)]
def toDs : List Ex → List D
  | [] => []
  | e :: es => toD e :: toDs es
end
def parts : Ex → List Ex
  | num _ => []
  | use _ => []
  | op _ a b => [a, b]
  | lt _ a b => [a, b]
  | ite a b c => [a, b, c]
  | times a _ _ b c => [a, b, c]
  | tell a b => [a, b]
  | stop a => [a]
  | call _ _ as => as
mutual
def dep : Ex → Nat
  | num _ => 0
  | use _ => 0
  | op _ a b => max (dep a) (dep b) + 1
  | lt _ a b => max (dep a) (dep b) + 1
  | ite a b c => max (dep a) (max (dep b) (dep c)) + 1
  | times a _ _ b c => max (dep a) (max (dep b) (dep c)) + 1
  | tell a b => max (dep a) (dep b) + 1
  | stop a => dep a + 1
  | call _ _ as => deps as + 1
def deps : List Ex → Nat
  | [] => 0
  | e :: es => max (dep e) (deps es)
end
theorem toDs_eq : ∀ es : List Ex, toDs es = es.map toD
  | [] => rfl
  | e :: es => by rw [toDs, toDs_eq es, List.map_cons]
theorem deps_mem : ∀ {es : List Ex} {e : Ex}, e ∈ es → dep e ≤ deps es
  | e' :: es, e, h => by
    rw [deps]
    rcases List.mem_cons.mp h with rfl | h
    · omega
    · have := deps_mem h; omega
theorem parts_dep {e p : Ex} (h : p ∈ parts e) : dep p < dep e := by
  cases e <;> simp only [parts, List.mem_cons, List.not_mem_nil, or_false] at h <;> simp only [dep]
  case op => rcases h with rfl | rfl <;> omega
  case lt => rcases h with rfl | rfl <;> omega
  case ite => rcases h with rfl | rfl | rfl <;> omega
  case times => rcases h with rfl | rfl | rfl <;> omega
  case tell => rcases h with rfl | rfl <;> omega
  case stop => subst h; omega
  case call => have := deps_mem h; omega
end Ex
@[simp] theorem ix0 {x : D} {xs : List D} : atI (x :: xs) 0 = some x := atI_nat (j := 0) rfl
@[simp] theorem ix1 {x y : D} {xs : List D} : atI (x :: y :: xs) 1 = some y := atI_nat (j := 1) rfl
@[simp] theorem ix2 {x y z : D} {xs : List D} : atI (x :: y :: z :: xs) 2 = some z := atI_nat (j := 2) rfl
@[simp] theorem ix3 {x y z u : D} {xs : List D} : atI (x :: y :: z :: u :: xs) 3 = some u := atI_nat (j := 3) rfl
@[simp] theorem ix4 {x y z u v : D} {xs : List D} : atI (x :: y :: z :: u :: v :: xs) 4 = some v := atI_nat (j := 4) rfl
@[simp] theorem ix5 {x y z u v a : D} {xs : List D} : atI (x :: y :: z :: u :: v :: a :: xs) 5 = some a := atI_nat (j := 5) rfl
theorem atI_mem {α : Type} {xs : List α} {i : Int} (h0 : 0 ≤ i) (h1 : i < xs.length) : ∃ v, v ∈ xs ∧ atI xs i = some v := by
  have hi : i.toNat < xs.length := by omega
  have e : ((i.toNat : Nat) : Int) = i := by omega
  generalize i.toNat = j at hi e
  subst e
  exact ⟨xs[j], List.getElem_mem hi, atI_nat (List.getElem?_eq_getElem hi)⟩
theorem atI_map {α β : Type} (f : α → β) (xs : List α) (i : Int) : atI (xs.map f) i = (atI xs i).map f := by
  unfold atI
  rw [List.length_map]
  cases ixN xs.length i with
  | none => rfl
  | some j => simp
theorem set_set {M : Store} {j : Nat} {a b : MO} : (M.set j a).set j b = M.set j b := List.set_set ..
theorem get_set {M : Store} {j : Nat} {a b : MO} (h : M[j]? = some a) : (M.set j b)[j]? = some b := List.getElem?_set_self (List.getElem?_eq_some_iff.mp h).1
theorem get_app {M M' : Store} {j : Nat} {a : MO} (h : M[j]? = some a) : (M ++ M')[j]? = some a := by
  rw [List.getElem?_append_left (List.getElem?_eq_some_iff.mp h).1]; exact h
theorem set_self {M : Store} {j : Nat} {a : MO} (h : M[j]? = some a) : M.set j a = M := by
  apply List.ext_getElem?
  intro i
  by_cases hi : j = i
  · subst hi; rw [get_set h, h]
  · rw [List.getElem?_set_ne hi]
theorem at_end (M : Store) (o : MO) : (M ++ [o])[M.length]? = some o := by
  rw [List.getElem?_append_right (Nat.le_refl _), Nat.sub_self]; rfl
theorem set_end (M : Store) (o p : MO) : (M ++ [o]).set M.length p = M ++ [p] := by
  rw [List.set_append_right _ _ (Nat.le_refl _), Nat.sub_self]; rfl
/-- of two words that are written out -/
theorem eqW {s t : Str} {b : Bool} (h : (okStr s && okStr t && (decide (s = t) == b)) = true) (M : Store) : eqD M (.str s) (.str t) = some (.val (.bl b)) := by
  simp only [Bool.and_eq_true, beq_iff_eq] at h
  rw [eqD_str M h.1.1 h.1.2, h.2]
end TP
/-! TPy: drawn expressions, plain. -/
namespace TP
open PySem L2
def signs : List Str := ["+", "-", "*", "=", "<", "/", "&"]
namespace Ex
mutual
/-- well formed: numbers, names, binders and calls as drawn -/
def Wf (nm : Str → Prop) (ah : Str → Str → Nat → Prop) : List Str → Ex → Prop
  | sc, num n => -(10 ^ 30) ≤ n ∧ n ≤ 10 ^ 30
  | sc, use x => x ∈ sc
  | sc, op s a b => s ∈ signs ∧ Wf nm ah sc a ∧ Wf nm ah sc b
  | sc, lt x a b => nm x ∧ Wf nm ah sc a ∧ Wf nm ah (x :: sc) b
  | sc, ite a b c => Wf nm ah sc a ∧ Wf nm ah sc b ∧ Wf nm ah sc c
  | sc, times a i s b c => nm i ∧ nm s ∧ i ≠ s ∧ Wf nm ah sc a ∧ Wf nm ah sc b ∧ Wf nm ah (i :: s :: sc) c
  | sc, tell a b => Wf nm ah sc a ∧ Wf nm ah sc b
  | sc, stop a => Wf nm ah sc a
  | sc, call m f as => ah m f as.length ∧ Wfs nm ah sc as
def Wfs (nm : Str → Prop) (ah : Str → Str → Nat → Prop) : List Str → List Ex → Prop
  | sc, [] => True
  | sc, e :: es => Wf nm ah sc e ∧ Wfs nm ah sc es
end
mutual
theorem Wf.mono {nm : Str → Prop} {ah ah' : Str → Str → Nat → Prop} (ha : ∀ m f n, ah m f n → ah' m f n) : ∀ (e : Ex) (sc sc' : List Str), (∀ x, x ∈ sc → x ∈ sc') → Wf nm ah sc e → Wf nm ah' sc' e
  | num n, _, _, _, h => by rw [Wf] at *; exact h
  | use x, _, _, hs, h => by rw [Wf] at *; exact hs _ h
  | op s a b, sc, sc', hs, h => by rw [Wf] at *; exact ⟨h.1, Wf.mono ha a _ _ hs h.2.1, Wf.mono ha b _ _ hs h.2.2⟩
  | lt x a b, sc, sc', hs, h => by
    rw [Wf] at *
    refine ⟨h.1, Wf.mono ha a _ _ hs h.2.1, Wf.mono ha b _ _ (fun y hy => ?_) h.2.2⟩
    rcases List.mem_cons.mp hy with rfl | hy
    · exact List.mem_cons_self
    · exact List.mem_cons_of_mem _ (hs _ hy)
  | ite a b c, sc, sc', hs, h => by rw [Wf] at *; exact ⟨Wf.mono ha a _ _ hs h.1, Wf.mono ha b _ _ hs h.2.1, Wf.mono ha c _ _ hs h.2.2⟩
  | times a i s b c, sc, sc', hs, h => by
    rw [Wf] at *
    refine ⟨h.1, h.2.1, h.2.2.1, Wf.mono ha a _ _ hs h.2.2.2.1, Wf.mono ha b _ _ hs h.2.2.2.2.1, Wf.mono ha c _ _ (fun y hy => ?_) h.2.2.2.2.2⟩
    rcases List.mem_cons.mp hy with rfl | hy
    · exact List.mem_cons_self
    · rcases List.mem_cons.mp hy with rfl | hy
      · exact List.mem_cons_of_mem _ List.mem_cons_self
      · exact List.mem_cons_of_mem _ (List.mem_cons_of_mem _ (hs _ hy))
  | tell a b, sc, sc', hs, h => by rw [Wf] at *; exact ⟨Wf.mono ha a _ _ hs h.1, Wf.mono ha b _ _ hs h.2⟩
  | stop a, sc, sc', hs, h => by rw [Wf] at *; exact Wf.mono ha a _ _ hs h
  | call m f as, sc, sc', hs, h => by rw [Wf] at *; exact ⟨ha _ _ _ h.1, Wfs.mono ha as _ _ hs h.2⟩
theorem Wfs.mono {nm : Str → Prop} {ah ah' : Str → Str → Nat → Prop} (ha : ∀ m f n, ah m f n → ah' m f n) : ∀ (es : List Ex) (sc sc' : List Str), (∀ x, x ∈ sc → x ∈ sc') → Wfs nm ah sc es → Wfs nm ah' sc' es
  | [], _, _, _, h => by rw [Wfs]; trivial
  | e :: es, sc, sc', hs, h => by rw [Wfs] at *; exact ⟨Wf.mono ha e _ _ hs h.1, Wfs.mono ha es _ _ hs h.2⟩
end
end Ex
/-! ### the names -/
def pools : List (List Str) := [["q", "z", "b", "m", "x", "k", "c", "w", "h", "v", "j", "p", "g", "y", "l", "d"],
  ["nqor", "nzor", "nbor", "nmor", "nxor", "nkor", "ncor", "nwor", "nhor", "nvor", "njor", "npor", "ngor", "nyor", "nlor", "ndor"],
  ["g", "gr", "gra", "grap", "graph", "graphi", "graphit", "graphite", "s", "sa", "san", "sand", "sandw", "sandwi", "sandwic", "sandwich"]]
def pool (n : Int) : List Str := (atI pools (n % 3)).getD []
def spotAt (n k : Int) : Int := (n / 3 + (2 * (n / 48 % 8) + 1) * k) % 16
def nameAt (n k : Int) : Str := (atI (pool n) (spotAt n k)).getD ""
def namesL (n : Int) : List Str := (List.range 16).map fun k => nameAt n (k : Nat)
theorem pool_mem (n : Int) : pool n ∈ pools ∧ atI pools (n % 3) = some (pool n) := by
  obtain ⟨p, hp, ha⟩ := atI_mem (xs := pools) (i := n % 3) (by omega) (by show _ < (3 : Int); omega)
  unfold pool
  rw [ha]
  exact ⟨hp, rfl⟩
theorem pool_len (n : Int) : (pool n).length = 16 := by
  have h : pools.all (fun p => p.length == 16) = true := by decide +kernel
  simpa using List.all_eq_true.mp h _ (pool_mem n).1
theorem nameAt_mem (n k : Int) : nameAt n k ∈ pool n ∧ atI (pool n) (spotAt n k) = some (nameAt n k) := by
  obtain ⟨p, hp, ha⟩ := atI_mem (xs := pool n) (i := spotAt n k) (by unfold spotAt; omega) (by rw [pool_len]; unfold spotAt; omega)
  unfold nameAt
  rw [ha]
  exact ⟨hp, rfl⟩
theorem pools_ok : pools.all (fun p => p.all fun x => okStr x && decide (x.length ≤ 8)) = true := by decide +kernel
theorem nameAt_ok (n k : Int) : okStr (nameAt n k) = true := by
  have := List.all_eq_true.mp (List.all_eq_true.mp pools_ok _ (pool_mem n).1) _ (nameAt_mem n k).1
  simp only [Bool.and_eq_true] at this
  exact this.1
theorem namesL_len (n : Int) : (namesL n).length = 16 := by unfold namesL; rw [List.length_map, List.length_range]
theorem namesL_ok {n : Int} {x : Str} (h : x ∈ namesL n) : okStr x = true := by
  unfold namesL at h
  obtain ⟨k, _, rfl⟩ := List.mem_map.mp h
  exact nameAt_ok _ _
theorem namesL_at {n i : Int} (h0 : 0 ≤ i) (h1 : i < 16) : atI ((namesL n).map D.str) i = some (.str (nameAt n i)) := by
  have e : ((i.toNat : Nat) : Int) = i := by omega
  have hi : i.toNat < 16 := by omega
  generalize i.toNat = j at e hi
  subst e
  refine atI_nat ?_
  unfold namesL
  rw [List.getElem?_map, List.getElem?_map, List.getElem?_range hi]
  rfl
theorem nameAt_names {n i : Int} (h0 : 0 ≤ i) (h1 : i < 16) : nameAt n i ∈ namesL n := by
  unfold namesL
  refine List.mem_map.mpr ⟨i.toNat, List.mem_range.mpr (by omega), ?_⟩
  rw [show ((i.toNat : Nat) : Int) = i by omega]
theorem lcGo_fmap {α : Type} {b : D → EnvD → Option EnvD} {c : FB} {f : FD} {ρ0 : EnvD} {M : Store} (t : α → D) (p : α → Bool) (g : α → D) : ∀ (xs : List α) (acc : List D),
    (∀ x ∈ xs, ∃ ρ1, b (t x) ρ0 = some ρ1 ∧ c ρ1 M = .ok (p x) M ∧ (p x = true → f ρ1 M = .ok (g x) M)) → acc.length + xs.length ≤ sizeLine → lcGo b c f ρ0 (xs.map t) acc M = .ok (acc ++ (xs.filter p).map g) M
  | [], acc, _, _ => by simp [lcGo]
  | x :: xs, acc, h, hl => by
    obtain ⟨ρ1, h1, h2, h3⟩ := h x List.mem_cons_self
    rw [List.map_cons]
    unfold lcGo
    rw [h1]
    simp only
    rw [h2]
    rw [List.length_cons] at hl
    cases hp : p x with
    | false =>
      simp only
      rw [lcGo_fmap t p g xs acc (fun y hy => h y (List.mem_cons_of_mem _ hy)) (by omega), List.filter_cons_of_neg (by rw [hp]; decide)]
    | true =>
      simp only
      rw [h3 hp]
      simp only
      rw [if_pos (by omega), lcGo_fmap t p g xs (acc ++ [g x]) (fun y hy => h y (List.mem_cons_of_mem _ hy)) (by rw [List.length_append, List.length_singleton]; omega), List.filter_cons_of_pos hp, List.map_cons, List.append_assoc]
      rfl
namespace Ex
mutual
/-- how many expressions -/
def cnt : Ex → Nat
  | num _ => 1
  | use _ => 1
  | op _ a b => cnt a + cnt b + 1
  | lt _ a b => cnt a + cnt b + 1
  | ite a b c => cnt a + cnt b + cnt c + 1
  | times a _ _ b c => cnt a + cnt b + cnt c + 1
  | tell a b => cnt a + cnt b + 1
  | stop a => cnt a + 1
  | call _ _ as => cnts as + 1
def cnts : List Ex → Nat
  | [] => 0
  | e :: es => cnt e + cnts es
end
theorem cnts_le {n : Nat} : ∀ {es : List Ex}, (∀ e ∈ es, cnt e ≤ n) → cnts es ≤ es.length * n
  | [], _ => by rw [cnts]; omega
  | e :: es, h => by
    have h1 := h e List.mem_cons_self
    have h2 := cnts_le (es := es) fun x hx => h x (List.mem_cons_of_mem _ hx)
    rw [cnts, List.length_cons, Nat.succ_mul]
    omega
theorem Wfs_of {nm : Str → Prop} {ah : Str → Str → Nat → Prop} {sc : List Str} : ∀ {es : List Ex}, (∀ e ∈ es, Wf nm ah sc e) → Wfs nm ah sc es
  | [], _ => by rw [Wfs]; trivial
  | e :: es, h => by rw [Wfs]; exact ⟨h e List.mem_cons_self, Wfs_of fun x hx => h x (List.mem_cons_of_mem _ hx)⟩
theorem Wfs_mem {nm : Str → Prop} {ah : Str → Str → Nat → Prop} {sc : List Str} : ∀ {es : List Ex} {e : Ex}, Wfs nm ah sc es → e ∈ es → Wf nm ah sc e
  | e' :: es, e, h, hm => by
    rw [Wfs] at h
    rcases List.mem_cons.mp hm with rfl | hm
    · exact h.1
    · exact Wfs_mem h.2 hm
theorem deps_le {n : Nat} : ∀ {es : List Ex}, (∀ e ∈ es, dep e ≤ n) → deps es ≤ n
  | [], _ => by rw [deps]; omega
  | e :: es, h => by
    have h1 := h e List.mem_cons_self
    have h2 := deps_le (es := es) fun x hx => h x (List.mem_cons_of_mem _ hx)
    rw [deps]
    omega
end Ex
theorem spot_inj {n i j : Int} (hi : 0 ≤ i) (hi2 : i < 16) (hj : 0 ≤ j) (hj2 : j < 16) (h : spotAt n i = spotAt n j) : i = j := by
  unfold spotAt at h
  have hb : n / 48 % 8 = 0 ∨ n / 48 % 8 = 1 ∨ n / 48 % 8 = 2 ∨ n / 48 % 8 = 3 ∨ n / 48 % 8 = 4 ∨ n / 48 % 8 = 5 ∨ n / 48 % 8 = 6 ∨ n / 48 % 8 = 7 := by omega
  generalize n / 3 = x at h
  rcases hb with hb | hb | hb | hb | hb | hb | hb | hb <;> rw [hb] at h <;> omega
theorem pools_nodup : pools.all (fun p => decide p.Nodup) = true := by decide +kernel
theorem atI_inj {α : Type} {xs : List α} (hn : xs.Nodup) {i j : Int} (hi : 0 ≤ i) (hi2 : i < xs.length) (hj : 0 ≤ j) (hj2 : j < xs.length) (h : atI xs i = atI xs j) : i = j := by
  have ei : ((i.toNat : Nat) : Int) = i := by omega
  have ej : ((j.toNat : Nat) : Int) = j := by omega
  have li : i.toNat < xs.length := by omega
  have lj : j.toNat < xs.length := by omega
  generalize i.toNat = a at ei li
  generalize j.toNat = b at ej lj
  subst ei ej
  rw [atI_nat (List.getElem?_eq_getElem li), atI_nat (List.getElem?_eq_getElem lj)] at h
  have := (List.getElem_inj hn).mp (Option.some.inj h)
  omega
theorem nameAt_inj {n i j : Int} (hi : 0 ≤ i) (hi2 : i < 16) (hj : 0 ≤ j) (hj2 : j < 16) (h : nameAt n i = nameAt n j) : i = j := by
  have h1 := (nameAt_mem n i).2
  have h2 := (nameAt_mem n j).2
  rw [h, ← h2] at h1
  have hn : (pool n).Nodup := by simpa using List.all_eq_true.mp pools_nodup _ (pool_mem n).1
  refine spot_inj hi hi2 hj hj2 (atI_inj hn ?_ ?_ ?_ ?_ h1) <;> (try rw [pool_len]) <;> unfold spotAt <;> omega
end TP
/-! TPz: programs, plain. -/
namespace TP
open PySem L2
structure Row where
  f : Str
  ps : List Str
  b : Ex
def Row.toD (r : Row) : D := .tup [.str r.f, .tup (r.ps.map .str), r.b.toD]
abbrev Pr := List (Str × List Row)
def rmD (m : Str × List Row) : D := .tup [.str m.1, .tup (m.2.map Row.toD)]
def pgD (P : Pr) : D := .tup (P.map rmD)
def flat : Pr → List (Str × Row)
  | [] => []
  | (m, rs) :: P => rs.map (fun r => (m, r)) ++ flat P
theorem itemsD_lst (ds : List D) : itemsD (.lst ds) = some ds := rfl
theorem itemsD_tup (ds : List D) : itemsD (.tup ds) = some ds := rfl
theorem itemsD_fro (ds : List D) : itemsD (.fro ds) = some ds := rfl
theorem itemsD_kt (ds : List D) : itemsD (.kt ds) = some ds := rfl
theorem itemsD_pg (P : Pr) : itemsD (pgD P) = some (P.map rmD) := rfl
theorem flat_append : ∀ (P Q : Pr), flat (P ++ Q) = flat P ++ flat Q
  | [], Q => rfl
  | (m, rs) :: P, Q => by rw [List.cons_append, flat, flat, flat_append P Q, List.append_assoc]
def fnD (x : Str × Row) : D := .tup [.str x.1, .str x.2.f, .tup (x.2.ps.map .str), x.2.b.toD]
theorem row_add (M : Store) (m : Str) (r : Row) : addD M (.tup [.str m]) r.toD = some (.val (fnD (m, r))) := by simp [Row.toD, addD, fnD]
/-- the functions of a row, with how many params -/
def rowP (xs : List (Str × Row)) (m f : Str) (k : Nat) : Prop := ∃ x ∈ xs, x.1 = m ∧ x.2.f = f ∧ x.2.ps.length = k
/-- one function behind others, as drawn -/
structure RowWf (n : Int) (pre : List (Str × Row)) (x : Str × Row) : Prop where
  nd : x.2.ps.Nodup
  len : x.2.ps.length ≤ 5
  ps : ∀ y ∈ x.2.ps, y ∈ namesL n
  wf : Ex.Wf (· ∈ namesL n) (rowP pre) x.2.ps x.2.b
  dep : x.2.b.dep ≤ 5
  cnt : x.2.b.cnt ≤ 7776
  m : x.1 ∈ namesL (n / 7)
  f : x.2.f ∈ namesL (n / 7)
/-- all functions, one behind the other -/
def RowsWf (n : Int) : List (Str × Row) → List (Str × Row) → Prop
  | _, [] => True
  | pre, x :: xs => RowWf n pre x ∧ RowsWf n (pre ++ [x]) xs
theorem RowsWf.snoc {n : Int} {x : Str × Row} : ∀ {xs pre : List (Str × Row)}, RowsWf n pre xs → RowWf n (pre ++ xs) x → RowsWf n pre (xs ++ [x])
  | [], pre, _, h => by
    rw [List.append_nil] at h
    exact ⟨h, True.intro⟩
  | y :: xs, pre, h, hx => by
    refine ⟨h.1, RowsWf.snoc h.2 ?_⟩
    rw [List.append_assoc]
    exact hx
theorem RowWf.mono {n : Int} {pre pre' : List (Str × Row)} {x : Str × Row} (h : RowWf n pre x) (hp : ∀ y ∈ pre, y ∈ pre') : RowWf n pre' x :=
  ⟨h.nd, h.len, h.ps, Ex.Wf.mono (fun m f k ⟨y, hy, e⟩ => ⟨y, hp y hy, e⟩) _ _ _ (fun _ z => z) h.wf, h.dep, h.cnt, h.m, h.f⟩
theorem RowsWf.mem {n : Int} {x : Str × Row} : ∀ {xs pre : List (Str × Row)}, RowsWf n pre xs → x ∈ xs → RowWf n (pre ++ xs) x
  | y :: xs, pre, h, hm => by
    rcases List.mem_cons.mp hm with rfl | hm
    · exact h.1.mono fun z hz => List.mem_append_left _ hz
    · have := RowsWf.mem h.2 hm
      rw [List.append_assoc] at this
      exact this
/-- a drawn program -/
structure PrWf (n : Int) (most : Nat) (P : Pr) : Prop where
  rows : RowsWf n [] (flat P)
  mods : (P.map (·.1)).Nodup
  names : ∀ q ∈ P, (q.2.map Row.f).Nodup ∧ q.1 ∈ namesL (n / 7)
  len : P.length ≤ 3
  each : ∀ q ∈ P, q.2.length ≤ max 1 most
  one : ∃ q Q, P = q :: Q ∧ q.2 ≠ []
theorem flat_len {k : Nat} : ∀ {P : Pr}, (∀ q ∈ P, q.2.length ≤ k) → (flat P).length ≤ P.length * k
  | [], _ => by rw [flat]; exact Nat.zero_le _
  | (m, rs) :: P, h => by
    have h1 : rs.length ≤ k := h (m, rs) List.mem_cons_self
    have h2 := flat_len (P := P) fun q hq => h q (List.mem_cons_of_mem _ hq)
    rw [flat, List.length_append, List.length_map, List.length_cons, Nat.succ_mul]
    omega
theorem set_app {M X : Store} {j : Nat} {o : MO} (h : j < M.length) : (M ++ X).set j o = M.set j o ++ X := by
  rw [List.set_append_left _ _ h]
namespace Ex
/-- where the parts stand in the tuple, but a call's -/
def spots : Ex → List Int
  | num _ => []
  | use _ => []
  | op _ _ _ => [2, 3]
  | lt _ _ _ => [2, 3]
  | ite _ _ _ => [1, 2, 3]
  | times _ _ _ _ _ => [1, 4, 5]
  | tell _ _ => [1, 2]
  | stop _ => [1]
  | call _ _ _ => []
mutual
/-- the rows of numbers of all parts -/
def rows : Ex → List (List Nat)
  | num _ => [[]]
  | use _ => [[]]
  | op _ a b => [] :: ((rows a).map (0 :: ·) ++ ((rows b).map (1 :: ·) ++ []))
  | lt _ a b => [] :: ((rows a).map (0 :: ·) ++ ((rows b).map (1 :: ·) ++ []))
  | ite a b c => [] :: ((rows a).map (0 :: ·) ++ ((rows b).map (1 :: ·) ++ ((rows c).map (2 :: ·) ++ [])))
  | times a _ _ b c => [] :: ((rows a).map (0 :: ·) ++ ((rows b).map (1 :: ·) ++ ((rows c).map (2 :: ·) ++ [])))
  | tell a b => [] :: ((rows a).map (0 :: ·) ++ ((rows b).map (1 :: ·) ++ []))
  | stop a => [] :: ((rows a).map (0 :: ·) ++ [])
  | call _ _ as => [] :: rowsL 0 as
def rowsL : Nat → List Ex → List (List Nat)
  | _, [] => []
  | k, e :: es => (rows e).map (k :: ·) ++ rowsL (k + 1) es
end
theorem rows_eq (e : Ex) : rows e = [] :: rowsL 0 e.parts := by
  cases e <;> simp [rows, rowsL, parts]
/-- the expression at a row -/
def sub : Ex → List Nat → Option Ex
  | e, [] => some e
  | e, i :: r => match e.parts[i]? with
    | some p => sub p r
    | none => none
theorem rowsL_sub : ∀ {es : List Ex} {k : Nat} {r : List Nat}, r ∈ rowsL k es → ∃ (i : Nat) (p : Ex) (r' : List Nat), r = (k + i) :: r' ∧ es[i]? = some p ∧ r' ∈ rows p
  | e :: es, k, r, h => by
    rw [rowsL] at h
    rcases List.mem_append.mp h with h | h
    · obtain ⟨r', hr, rfl⟩ := List.mem_map.mp h
      exact ⟨0, e, r', rfl, rfl, hr⟩
    · obtain ⟨i, p, r', rfl, h1, h2⟩ := rowsL_sub h
      exact ⟨i + 1, p, r', by rw [Nat.add_assoc, Nat.add_comm 1], by simpa using h1, h2⟩
theorem rows_sub : ∀ (n : Nat) {e : Ex} {r : List Nat}, e.dep ≤ n → r ∈ rows e → ∃ p, sub e r = some p
  | n, e, r, hn, h => by
    rw [rows_eq] at h
    rcases List.mem_cons.mp h with rfl | h
    · exact ⟨e, by rw [sub]⟩
    · obtain ⟨i, p, r', rfl, h1, h2⟩ := rowsL_sub h
      have hd := parts_dep (List.mem_of_getElem? h1)
      obtain ⟨m, rfl⟩ : ∃ m, n = m + 1 := ⟨n - 1, by omega⟩
      obtain ⟨q, hq⟩ := rows_sub m (by omega) h2
      refine ⟨q, ?_⟩
      rw [sub, Nat.zero_add, h1]
      exact hq
theorem sub_dep : ∀ {r : List Nat} {e p : Ex}, sub e r = some p → p.dep ≤ e.dep
  | [], e, p, h => by rw [sub] at h; cases h; exact Nat.le_refl _
  | i :: r, e, p, h => by
    rw [sub] at h
    split at h
    · rename_i q hq
      have := parts_dep (List.mem_of_getElem? hq)
      have := sub_dep h
      omega
    · cases h
theorem rowsL_len : ∀ (es : List Ex) (k : Nat), (∀ e ∈ es, (rows e).length = cnt e) → (rowsL k es).length = cnts es
  | [], k, _ => by rw [rowsL, cnts]; rfl
  | e :: es, k, h => by
    rw [rowsL, cnts, List.length_append, List.length_map, h e List.mem_cons_self, rowsL_len es (k + 1) fun x hx => h x (List.mem_cons_of_mem _ hx)]
theorem cnt_eq (e : Ex) : cnt e = 1 + cnts e.parts := by
  cases e <;> simp only [cnt, cnts, parts] <;> omega
theorem rows_len : ∀ (n : Nat) {e : Ex}, e.dep ≤ n → (rows e).length = cnt e
  | n, e, hn => by
    rw [rows_eq, List.length_cons, cnt_eq, rowsL_len e.parts 0 fun p hp => ?_, Nat.add_comm]
    have hd := parts_dep hp
    obtain ⟨m, rfl⟩ : ∃ m, n = m + 1 := ⟨n - 1, by omega⟩
    exact rows_len m (by omega)
theorem cnts_mem : ∀ {es : List Ex} {e : Ex}, e ∈ es → cnt e ≤ cnts es
  | e' :: es, e, h => by
    rw [cnts]
    rcases List.mem_cons.mp h with rfl | h
    · omega
    · have := cnts_mem h; omega
theorem parts_cnt {e p : Ex} (h : p ∈ e.parts) : cnt p < cnt e := by
  rw [cnt_eq e]
  have := cnts_mem h
  omega
theorem parts_len {e : Ex} : e.parts.length ≤ cnt e := by
  rw [cnt_eq]
  have : ∀ es : List Ex, es.length ≤ cnts es := fun es => by
    induction es with
    | nil => simp
    | cons e es ih =>
      rw [cnts, List.length_cons]
      have : 1 ≤ cnt e := by rw [cnt_eq]; omega
      omega
  have := this e.parts
  omega
end Ex
def rowD (r : List Nat) : D := .tup (r.map fun i => .int (i : Nat))
def enumF : Nat → List D → List D
  | _, [] => []
  | k, d :: ds => .tup [.int (k : Nat), d] :: enumF (k + 1) ds
theorem enumF_eq : ∀ (ds : List D) (k : Nat), ((List.range ds.length).map fun i => D.tup [.int ((k + i : Nat) : Int), ds.getD i .non]) = enumF k ds
  | [], k => rfl
  | d :: ds, k => by
    rw [List.length_cons, List.range_succ_eq_map, List.map_cons, enumF, ← enumF_eq ds (k + 1), List.map_map]
    congr 1
    apply List.map_congr_left
    intro i _
    show D.tup [.int ((k + (i + 1) : Nat) : Int), (d :: ds).getD (i + 1) .non] = _
    rw [show k + (i + 1) = k + 1 + i by omega]
    rfl
theorem enumL_eq (ds : List D) : enumL ds = enumF 0 ds := by
  rw [← enumF_eq]
  unfold enumL
  apply List.map_congr_left
  intro i _
  rw [Nat.zero_add]
theorem lcGo_mp {α : Type} {b : D → EnvD → Option EnvD} {f : FD} {ρ0 : EnvD} {M : Store} (t : α → D) (g : α → D) (xs : List α) (h : ∀ x ∈ xs, ∃ ρ1, b (t x) ρ0 = some ρ1 ∧ f ρ1 M = .ok (g x) M) (hl : xs.length ≤ 1000000) :
    lcGo b dYes f ρ0 (xs.map t) [] M = .ok (xs.map g) M := by
  have := lcGo_fmap (b := b) (c := dYes) (f := f) (ρ0 := ρ0) (M := M) t (fun _ => true) g xs [] (fun x hx => by
    obtain ⟨ρ1, h1, h2⟩ := h x hx
    exact ⟨ρ1, h1, rfl, fun _ => h2⟩) (by rw [szL, List.length_nil]; omega)
  rw [this, List.filter_eq_self.mpr (fun _ _ => rfl), List.nil_append]
namespace Ex
theorem rowsL_lens : ∀ {es : List Ex} {k n : Nat} {r : List Nat}, (∀ e ∈ es, ∀ r ∈ rows e, r.length ≤ n) → r ∈ rowsL k es → r.length ≤ n + 1
  | es, k, n, r, h, hr => by
    obtain ⟨i, p, r', rfl, h1, h2⟩ := rowsL_sub hr
    rw [List.length_cons]
    have := h p (List.mem_of_getElem? h1) r' h2
    omega
theorem rows_lens : ∀ (n : Nat) {e : Ex} {r : List Nat}, e.dep ≤ n → r ∈ rows e → r.length ≤ n
  | n, e, r, hn, h => by
    rw [rows_eq] at h
    rcases List.mem_cons.mp h with rfl | h
    · exact Nat.zero_le _
    · obtain ⟨i, p, r', rfl, h1, h2⟩ := rowsL_sub h
      have hd := parts_dep (List.mem_of_getElem? h1)
      obtain ⟨m, rfl⟩ : ∃ m, n = m + 1 := ⟨n - 1, by omega⟩
      have := rows_lens m (by omega) h2
      rw [List.length_cons]
      omega
end Ex
section
variable {κ : Type} [DecidableEq κ]
theorem look_cons (p : κ × D) (kvs : List (κ × D)) (k : κ) : lookD (p :: kvs) k = if p.1 = k then some p.2 else lookD kvs k := by
  unfold lookD
  rw [List.find?_cons]
  by_cases h : p.1 = k
  · rw [decide_eq_true h, if_pos h]; rfl
  · rw [decide_eq_false h, if_neg h]
theorem look_map : ∀ (kvs : List (κ × D)) (k k' : κ) (v : D), lookD (kvs.map fun kv => if kv.1 = k then (kv.1, v) else kv) k' = if k = k' ∧ (kvs.any fun kv => decide (kv.1 = k)) = true then some v else lookD kvs k'
  | [], k, k', v => by simp [lookD]
  | p :: kvs, k, k', v => by
    rw [List.map_cons, look_cons, look_cons, look_map kvs k k' v, List.any_cons]
    by_cases h1 : p.1 = k
    · by_cases h2 : k = k'
      · simp [h1, h2]
      · simp [h1, h2]
    · by_cases h2 : k = k'
      · subst h2
        simp only [if_neg h1, decide_eq_false h1, Bool.false_or]
      · simp [h1, h2]
theorem look_none : ∀ (kvs : List (κ × D)) (k : κ), ¬ (kvs.any fun kv => decide (kv.1 = k)) = true → lookD kvs k = none
  | [], _, _ => rfl
  | p :: kvs, k, h => by
    rw [List.any_cons, Bool.or_eq_true, not_or] at h
    rw [look_cons, if_neg (by simpa using h.1), look_none kvs k h.2]
theorem look_app : ∀ (a b : List (κ × D)) (k : κ), lookD (a ++ b) k = (lookD a k).or (lookD b k)
  | [], b, k => rfl
  | p :: a, b, k => by
    rw [List.cons_append, look_cons, look_cons, look_app a b k]
    split <;> rfl
theorem look_put (kvs : List (κ × D)) (k k' : κ) (v : D) : lookD (putD kvs k v) k' = if k = k' then some v else lookD kvs k' := by
  unfold putD
  split
  · rename_i h
    rw [look_map]
    simp only [h, and_true]
  · rename_i h
    rw [look_app, look_cons]
    by_cases hk : k = k'
    · subst hk
      rw [look_none kvs k h]
      simp
    · simp only [if_neg hk]
      show (lookD kvs k').or none = _
      rw [Option.or_none]
end
theorem mem_flat : ∀ {P : Pr} {q : Str × List Row} {r : Row}, q ∈ P → r ∈ q.2 → (q.1, r) ∈ flat P
  | (m, rs) :: P, q, r, hq, hr => by
    rw [flat]
    rcases List.mem_cons.mp hq with rfl | hq
    · exact List.mem_append_left _ (List.mem_map.mpr ⟨r, hr, rfl⟩)
    · exact List.mem_append_right _ (mem_flat hq hr)
end TP
/-! TPw: words that are written out. -/
namespace TP
open PySem L2
theorem neW {s t : Str} {b : Bool} (h : (okStr s && okStr t && (decide (s = t) == b)) = true) (M : Store) : neD M (.str s) (.str t) = some (.val (.bl !b)) := by
  simp only [Bool.and_eq_true, beq_iff_eq] at h
  rw [neD_str M h.1.1 h.1.2, h.2]
@[simp] theorem ew0 (M : Store) : eqD M (.str "num") (.str "num") = some (.val (.bl true)) := eqW (by decide +kernel) M
@[simp] theorem nw0 (M : Store) : neD M (.str "num") (.str "num") = some (.val (.bl (!true))) := neW (by decide +kernel) M
@[simp] theorem ew1 (M : Store) : eqD M (.str "num") (.str "use") = some (.val (.bl false)) := eqW (by decide +kernel) M
@[simp] theorem nw1 (M : Store) : neD M (.str "num") (.str "use") = some (.val (.bl (!false))) := neW (by decide +kernel) M
@[simp] theorem ew2 (M : Store) : eqD M (.str "num") (.str "op") = some (.val (.bl false)) := eqW (by decide +kernel) M
@[simp] theorem nw2 (M : Store) : neD M (.str "num") (.str "op") = some (.val (.bl (!false))) := neW (by decide +kernel) M
@[simp] theorem ew3 (M : Store) : eqD M (.str "num") (.str "let") = some (.val (.bl false)) := eqW (by decide +kernel) M
@[simp] theorem nw3 (M : Store) : neD M (.str "num") (.str "let") = some (.val (.bl (!false))) := neW (by decide +kernel) M
@[simp] theorem ew4 (M : Store) : eqD M (.str "num") (.str "if") = some (.val (.bl false)) := eqW (by decide +kernel) M
@[simp] theorem nw4 (M : Store) : neD M (.str "num") (.str "if") = some (.val (.bl (!false))) := neW (by decide +kernel) M
@[simp] theorem ew5 (M : Store) : eqD M (.str "num") (.str "times") = some (.val (.bl false)) := eqW (by decide +kernel) M
@[simp] theorem nw5 (M : Store) : neD M (.str "num") (.str "times") = some (.val (.bl (!false))) := neW (by decide +kernel) M
@[simp] theorem ew6 (M : Store) : eqD M (.str "num") (.str "tell") = some (.val (.bl false)) := eqW (by decide +kernel) M
@[simp] theorem nw6 (M : Store) : neD M (.str "num") (.str "tell") = some (.val (.bl (!false))) := neW (by decide +kernel) M
@[simp] theorem ew7 (M : Store) : eqD M (.str "num") (.str "stop") = some (.val (.bl false)) := eqW (by decide +kernel) M
@[simp] theorem nw7 (M : Store) : neD M (.str "num") (.str "stop") = some (.val (.bl (!false))) := neW (by decide +kernel) M
@[simp] theorem ew8 (M : Store) : eqD M (.str "num") (.str "call") = some (.val (.bl false)) := eqW (by decide +kernel) M
@[simp] theorem nw8 (M : Store) : neD M (.str "num") (.str "call") = some (.val (.bl (!false))) := neW (by decide +kernel) M
@[simp] theorem ew9 (M : Store) : eqD M (.str "use") (.str "num") = some (.val (.bl false)) := eqW (by decide +kernel) M
@[simp] theorem nw9 (M : Store) : neD M (.str "use") (.str "num") = some (.val (.bl (!false))) := neW (by decide +kernel) M
@[simp] theorem ew10 (M : Store) : eqD M (.str "use") (.str "use") = some (.val (.bl true)) := eqW (by decide +kernel) M
@[simp] theorem nw10 (M : Store) : neD M (.str "use") (.str "use") = some (.val (.bl (!true))) := neW (by decide +kernel) M
@[simp] theorem ew11 (M : Store) : eqD M (.str "use") (.str "op") = some (.val (.bl false)) := eqW (by decide +kernel) M
@[simp] theorem nw11 (M : Store) : neD M (.str "use") (.str "op") = some (.val (.bl (!false))) := neW (by decide +kernel) M
@[simp] theorem ew12 (M : Store) : eqD M (.str "use") (.str "let") = some (.val (.bl false)) := eqW (by decide +kernel) M
@[simp] theorem nw12 (M : Store) : neD M (.str "use") (.str "let") = some (.val (.bl (!false))) := neW (by decide +kernel) M
@[simp] theorem ew13 (M : Store) : eqD M (.str "use") (.str "if") = some (.val (.bl false)) := eqW (by decide +kernel) M
@[simp] theorem nw13 (M : Store) : neD M (.str "use") (.str "if") = some (.val (.bl (!false))) := neW (by decide +kernel) M
@[simp] theorem ew14 (M : Store) : eqD M (.str "use") (.str "times") = some (.val (.bl false)) := eqW (by decide +kernel) M
@[simp] theorem nw14 (M : Store) : neD M (.str "use") (.str "times") = some (.val (.bl (!false))) := neW (by decide +kernel) M
@[simp] theorem ew15 (M : Store) : eqD M (.str "use") (.str "tell") = some (.val (.bl false)) := eqW (by decide +kernel) M
@[simp] theorem nw15 (M : Store) : neD M (.str "use") (.str "tell") = some (.val (.bl (!false))) := neW (by decide +kernel) M
@[simp] theorem ew16 (M : Store) : eqD M (.str "use") (.str "stop") = some (.val (.bl false)) := eqW (by decide +kernel) M
@[simp] theorem nw16 (M : Store) : neD M (.str "use") (.str "stop") = some (.val (.bl (!false))) := neW (by decide +kernel) M
@[simp] theorem ew17 (M : Store) : eqD M (.str "use") (.str "call") = some (.val (.bl false)) := eqW (by decide +kernel) M
@[simp] theorem nw17 (M : Store) : neD M (.str "use") (.str "call") = some (.val (.bl (!false))) := neW (by decide +kernel) M
@[simp] theorem ew18 (M : Store) : eqD M (.str "op") (.str "num") = some (.val (.bl false)) := eqW (by decide +kernel) M
@[simp] theorem nw18 (M : Store) : neD M (.str "op") (.str "num") = some (.val (.bl (!false))) := neW (by decide +kernel) M
@[simp] theorem ew19 (M : Store) : eqD M (.str "op") (.str "use") = some (.val (.bl false)) := eqW (by decide +kernel) M
@[simp] theorem nw19 (M : Store) : neD M (.str "op") (.str "use") = some (.val (.bl (!false))) := neW (by decide +kernel) M
@[simp] theorem ew20 (M : Store) : eqD M (.str "op") (.str "op") = some (.val (.bl true)) := eqW (by decide +kernel) M
@[simp] theorem nw20 (M : Store) : neD M (.str "op") (.str "op") = some (.val (.bl (!true))) := neW (by decide +kernel) M
@[simp] theorem ew21 (M : Store) : eqD M (.str "op") (.str "let") = some (.val (.bl false)) := eqW (by decide +kernel) M
@[simp] theorem nw21 (M : Store) : neD M (.str "op") (.str "let") = some (.val (.bl (!false))) := neW (by decide +kernel) M
@[simp] theorem ew22 (M : Store) : eqD M (.str "op") (.str "if") = some (.val (.bl false)) := eqW (by decide +kernel) M
@[simp] theorem nw22 (M : Store) : neD M (.str "op") (.str "if") = some (.val (.bl (!false))) := neW (by decide +kernel) M
@[simp] theorem ew23 (M : Store) : eqD M (.str "op") (.str "times") = some (.val (.bl false)) := eqW (by decide +kernel) M
@[simp] theorem nw23 (M : Store) : neD M (.str "op") (.str "times") = some (.val (.bl (!false))) := neW (by decide +kernel) M
@[simp] theorem ew24 (M : Store) : eqD M (.str "op") (.str "tell") = some (.val (.bl false)) := eqW (by decide +kernel) M
@[simp] theorem nw24 (M : Store) : neD M (.str "op") (.str "tell") = some (.val (.bl (!false))) := neW (by decide +kernel) M
@[simp] theorem ew25 (M : Store) : eqD M (.str "op") (.str "stop") = some (.val (.bl false)) := eqW (by decide +kernel) M
@[simp] theorem nw25 (M : Store) : neD M (.str "op") (.str "stop") = some (.val (.bl (!false))) := neW (by decide +kernel) M
@[simp] theorem ew26 (M : Store) : eqD M (.str "op") (.str "call") = some (.val (.bl false)) := eqW (by decide +kernel) M
@[simp] theorem nw26 (M : Store) : neD M (.str "op") (.str "call") = some (.val (.bl (!false))) := neW (by decide +kernel) M
@[simp] theorem ew27 (M : Store) : eqD M (.str "let") (.str "num") = some (.val (.bl false)) := eqW (by decide +kernel) M
@[simp] theorem nw27 (M : Store) : neD M (.str "let") (.str "num") = some (.val (.bl (!false))) := neW (by decide +kernel) M
@[simp] theorem ew28 (M : Store) : eqD M (.str "let") (.str "use") = some (.val (.bl false)) := eqW (by decide +kernel) M
@[simp] theorem nw28 (M : Store) : neD M (.str "let") (.str "use") = some (.val (.bl (!false))) := neW (by decide +kernel) M
@[simp] theorem ew29 (M : Store) : eqD M (.str "let") (.str "op") = some (.val (.bl false)) := eqW (by decide +kernel) M
@[simp] theorem nw29 (M : Store) : neD M (.str "let") (.str "op") = some (.val (.bl (!false))) := neW (by decide +kernel) M
@[simp] theorem ew30 (M : Store) : eqD M (.str "let") (.str "let") = some (.val (.bl true)) := eqW (by decide +kernel) M
@[simp] theorem nw30 (M : Store) : neD M (.str "let") (.str "let") = some (.val (.bl (!true))) := neW (by decide +kernel) M
@[simp] theorem ew31 (M : Store) : eqD M (.str "let") (.str "if") = some (.val (.bl false)) := eqW (by decide +kernel) M
@[simp] theorem nw31 (M : Store) : neD M (.str "let") (.str "if") = some (.val (.bl (!false))) := neW (by decide +kernel) M
@[simp] theorem ew32 (M : Store) : eqD M (.str "let") (.str "times") = some (.val (.bl false)) := eqW (by decide +kernel) M
@[simp] theorem nw32 (M : Store) : neD M (.str "let") (.str "times") = some (.val (.bl (!false))) := neW (by decide +kernel) M
@[simp] theorem ew33 (M : Store) : eqD M (.str "let") (.str "tell") = some (.val (.bl false)) := eqW (by decide +kernel) M
@[simp] theorem nw33 (M : Store) : neD M (.str "let") (.str "tell") = some (.val (.bl (!false))) := neW (by decide +kernel) M
@[simp] theorem ew34 (M : Store) : eqD M (.str "let") (.str "stop") = some (.val (.bl false)) := eqW (by decide +kernel) M
@[simp] theorem nw34 (M : Store) : neD M (.str "let") (.str "stop") = some (.val (.bl (!false))) := neW (by decide +kernel) M
@[simp] theorem ew35 (M : Store) : eqD M (.str "let") (.str "call") = some (.val (.bl false)) := eqW (by decide +kernel) M
@[simp] theorem nw35 (M : Store) : neD M (.str "let") (.str "call") = some (.val (.bl (!false))) := neW (by decide +kernel) M
@[simp] theorem ew36 (M : Store) : eqD M (.str "if") (.str "num") = some (.val (.bl false)) := eqW (by decide +kernel) M
@[simp] theorem nw36 (M : Store) : neD M (.str "if") (.str "num") = some (.val (.bl (!false))) := neW (by decide +kernel) M
@[simp] theorem ew37 (M : Store) : eqD M (.str "if") (.str "use") = some (.val (.bl false)) := eqW (by decide +kernel) M
@[simp] theorem nw37 (M : Store) : neD M (.str "if") (.str "use") = some (.val (.bl (!false))) := neW (by decide +kernel) M
@[simp] theorem ew38 (M : Store) : eqD M (.str "if") (.str "op") = some (.val (.bl false)) := eqW (by decide +kernel) M
@[simp] theorem nw38 (M : Store) : neD M (.str "if") (.str "op") = some (.val (.bl (!false))) := neW (by decide +kernel) M
@[simp] theorem ew39 (M : Store) : eqD M (.str "if") (.str "let") = some (.val (.bl false)) := eqW (by decide +kernel) M
@[simp] theorem nw39 (M : Store) : neD M (.str "if") (.str "let") = some (.val (.bl (!false))) := neW (by decide +kernel) M
@[simp] theorem ew40 (M : Store) : eqD M (.str "if") (.str "if") = some (.val (.bl true)) := eqW (by decide +kernel) M
@[simp] theorem nw40 (M : Store) : neD M (.str "if") (.str "if") = some (.val (.bl (!true))) := neW (by decide +kernel) M
@[simp] theorem ew41 (M : Store) : eqD M (.str "if") (.str "times") = some (.val (.bl false)) := eqW (by decide +kernel) M
@[simp] theorem nw41 (M : Store) : neD M (.str "if") (.str "times") = some (.val (.bl (!false))) := neW (by decide +kernel) M
@[simp] theorem ew42 (M : Store) : eqD M (.str "if") (.str "tell") = some (.val (.bl false)) := eqW (by decide +kernel) M
@[simp] theorem nw42 (M : Store) : neD M (.str "if") (.str "tell") = some (.val (.bl (!false))) := neW (by decide +kernel) M
@[simp] theorem ew43 (M : Store) : eqD M (.str "if") (.str "stop") = some (.val (.bl false)) := eqW (by decide +kernel) M
@[simp] theorem nw43 (M : Store) : neD M (.str "if") (.str "stop") = some (.val (.bl (!false))) := neW (by decide +kernel) M
@[simp] theorem ew44 (M : Store) : eqD M (.str "if") (.str "call") = some (.val (.bl false)) := eqW (by decide +kernel) M
@[simp] theorem nw44 (M : Store) : neD M (.str "if") (.str "call") = some (.val (.bl (!false))) := neW (by decide +kernel) M
@[simp] theorem ew45 (M : Store) : eqD M (.str "times") (.str "num") = some (.val (.bl false)) := eqW (by decide +kernel) M
@[simp] theorem nw45 (M : Store) : neD M (.str "times") (.str "num") = some (.val (.bl (!false))) := neW (by decide +kernel) M
@[simp] theorem ew46 (M : Store) : eqD M (.str "times") (.str "use") = some (.val (.bl false)) := eqW (by decide +kernel) M
@[simp] theorem nw46 (M : Store) : neD M (.str "times") (.str "use") = some (.val (.bl (!false))) := neW (by decide +kernel) M
@[simp] theorem ew47 (M : Store) : eqD M (.str "times") (.str "op") = some (.val (.bl false)) := eqW (by decide +kernel) M
@[simp] theorem nw47 (M : Store) : neD M (.str "times") (.str "op") = some (.val (.bl (!false))) := neW (by decide +kernel) M
@[simp] theorem ew48 (M : Store) : eqD M (.str "times") (.str "let") = some (.val (.bl false)) := eqW (by decide +kernel) M
@[simp] theorem nw48 (M : Store) : neD M (.str "times") (.str "let") = some (.val (.bl (!false))) := neW (by decide +kernel) M
@[simp] theorem ew49 (M : Store) : eqD M (.str "times") (.str "if") = some (.val (.bl false)) := eqW (by decide +kernel) M
@[simp] theorem nw49 (M : Store) : neD M (.str "times") (.str "if") = some (.val (.bl (!false))) := neW (by decide +kernel) M
@[simp] theorem ew50 (M : Store) : eqD M (.str "times") (.str "times") = some (.val (.bl true)) := eqW (by decide +kernel) M
@[simp] theorem nw50 (M : Store) : neD M (.str "times") (.str "times") = some (.val (.bl (!true))) := neW (by decide +kernel) M
@[simp] theorem ew51 (M : Store) : eqD M (.str "times") (.str "tell") = some (.val (.bl false)) := eqW (by decide +kernel) M
@[simp] theorem nw51 (M : Store) : neD M (.str "times") (.str "tell") = some (.val (.bl (!false))) := neW (by decide +kernel) M
@[simp] theorem ew52 (M : Store) : eqD M (.str "times") (.str "stop") = some (.val (.bl false)) := eqW (by decide +kernel) M
@[simp] theorem nw52 (M : Store) : neD M (.str "times") (.str "stop") = some (.val (.bl (!false))) := neW (by decide +kernel) M
@[simp] theorem ew53 (M : Store) : eqD M (.str "times") (.str "call") = some (.val (.bl false)) := eqW (by decide +kernel) M
@[simp] theorem nw53 (M : Store) : neD M (.str "times") (.str "call") = some (.val (.bl (!false))) := neW (by decide +kernel) M
@[simp] theorem ew54 (M : Store) : eqD M (.str "tell") (.str "num") = some (.val (.bl false)) := eqW (by decide +kernel) M
@[simp] theorem nw54 (M : Store) : neD M (.str "tell") (.str "num") = some (.val (.bl (!false))) := neW (by decide +kernel) M
@[simp] theorem ew55 (M : Store) : eqD M (.str "tell") (.str "use") = some (.val (.bl false)) := eqW (by decide +kernel) M
@[simp] theorem nw55 (M : Store) : neD M (.str "tell") (.str "use") = some (.val (.bl (!false))) := neW (by decide +kernel) M
@[simp] theorem ew56 (M : Store) : eqD M (.str "tell") (.str "op") = some (.val (.bl false)) := eqW (by decide +kernel) M
@[simp] theorem nw56 (M : Store) : neD M (.str "tell") (.str "op") = some (.val (.bl (!false))) := neW (by decide +kernel) M
@[simp] theorem ew57 (M : Store) : eqD M (.str "tell") (.str "let") = some (.val (.bl false)) := eqW (by decide +kernel) M
@[simp] theorem nw57 (M : Store) : neD M (.str "tell") (.str "let") = some (.val (.bl (!false))) := neW (by decide +kernel) M
@[simp] theorem ew58 (M : Store) : eqD M (.str "tell") (.str "if") = some (.val (.bl false)) := eqW (by decide +kernel) M
@[simp] theorem nw58 (M : Store) : neD M (.str "tell") (.str "if") = some (.val (.bl (!false))) := neW (by decide +kernel) M
@[simp] theorem ew59 (M : Store) : eqD M (.str "tell") (.str "times") = some (.val (.bl false)) := eqW (by decide +kernel) M
@[simp] theorem nw59 (M : Store) : neD M (.str "tell") (.str "times") = some (.val (.bl (!false))) := neW (by decide +kernel) M
@[simp] theorem ew60 (M : Store) : eqD M (.str "tell") (.str "tell") = some (.val (.bl true)) := eqW (by decide +kernel) M
@[simp] theorem nw60 (M : Store) : neD M (.str "tell") (.str "tell") = some (.val (.bl (!true))) := neW (by decide +kernel) M
@[simp] theorem ew61 (M : Store) : eqD M (.str "tell") (.str "stop") = some (.val (.bl false)) := eqW (by decide +kernel) M
@[simp] theorem nw61 (M : Store) : neD M (.str "tell") (.str "stop") = some (.val (.bl (!false))) := neW (by decide +kernel) M
@[simp] theorem ew62 (M : Store) : eqD M (.str "tell") (.str "call") = some (.val (.bl false)) := eqW (by decide +kernel) M
@[simp] theorem nw62 (M : Store) : neD M (.str "tell") (.str "call") = some (.val (.bl (!false))) := neW (by decide +kernel) M
@[simp] theorem ew63 (M : Store) : eqD M (.str "stop") (.str "num") = some (.val (.bl false)) := eqW (by decide +kernel) M
@[simp] theorem nw63 (M : Store) : neD M (.str "stop") (.str "num") = some (.val (.bl (!false))) := neW (by decide +kernel) M
@[simp] theorem ew64 (M : Store) : eqD M (.str "stop") (.str "use") = some (.val (.bl false)) := eqW (by decide +kernel) M
@[simp] theorem nw64 (M : Store) : neD M (.str "stop") (.str "use") = some (.val (.bl (!false))) := neW (by decide +kernel) M
@[simp] theorem ew65 (M : Store) : eqD M (.str "stop") (.str "op") = some (.val (.bl false)) := eqW (by decide +kernel) M
@[simp] theorem nw65 (M : Store) : neD M (.str "stop") (.str "op") = some (.val (.bl (!false))) := neW (by decide +kernel) M
@[simp] theorem ew66 (M : Store) : eqD M (.str "stop") (.str "let") = some (.val (.bl false)) := eqW (by decide +kernel) M
@[simp] theorem nw66 (M : Store) : neD M (.str "stop") (.str "let") = some (.val (.bl (!false))) := neW (by decide +kernel) M
@[simp] theorem ew67 (M : Store) : eqD M (.str "stop") (.str "if") = some (.val (.bl false)) := eqW (by decide +kernel) M
@[simp] theorem nw67 (M : Store) : neD M (.str "stop") (.str "if") = some (.val (.bl (!false))) := neW (by decide +kernel) M
@[simp] theorem ew68 (M : Store) : eqD M (.str "stop") (.str "times") = some (.val (.bl false)) := eqW (by decide +kernel) M
@[simp] theorem nw68 (M : Store) : neD M (.str "stop") (.str "times") = some (.val (.bl (!false))) := neW (by decide +kernel) M
@[simp] theorem ew69 (M : Store) : eqD M (.str "stop") (.str "tell") = some (.val (.bl false)) := eqW (by decide +kernel) M
@[simp] theorem nw69 (M : Store) : neD M (.str "stop") (.str "tell") = some (.val (.bl (!false))) := neW (by decide +kernel) M
@[simp] theorem ew70 (M : Store) : eqD M (.str "stop") (.str "stop") = some (.val (.bl true)) := eqW (by decide +kernel) M
@[simp] theorem nw70 (M : Store) : neD M (.str "stop") (.str "stop") = some (.val (.bl (!true))) := neW (by decide +kernel) M
@[simp] theorem ew71 (M : Store) : eqD M (.str "stop") (.str "call") = some (.val (.bl false)) := eqW (by decide +kernel) M
@[simp] theorem nw71 (M : Store) : neD M (.str "stop") (.str "call") = some (.val (.bl (!false))) := neW (by decide +kernel) M
@[simp] theorem ew72 (M : Store) : eqD M (.str "call") (.str "num") = some (.val (.bl false)) := eqW (by decide +kernel) M
@[simp] theorem nw72 (M : Store) : neD M (.str "call") (.str "num") = some (.val (.bl (!false))) := neW (by decide +kernel) M
@[simp] theorem ew73 (M : Store) : eqD M (.str "call") (.str "use") = some (.val (.bl false)) := eqW (by decide +kernel) M
@[simp] theorem nw73 (M : Store) : neD M (.str "call") (.str "use") = some (.val (.bl (!false))) := neW (by decide +kernel) M
@[simp] theorem ew74 (M : Store) : eqD M (.str "call") (.str "op") = some (.val (.bl false)) := eqW (by decide +kernel) M
@[simp] theorem nw74 (M : Store) : neD M (.str "call") (.str "op") = some (.val (.bl (!false))) := neW (by decide +kernel) M
@[simp] theorem ew75 (M : Store) : eqD M (.str "call") (.str "let") = some (.val (.bl false)) := eqW (by decide +kernel) M
@[simp] theorem nw75 (M : Store) : neD M (.str "call") (.str "let") = some (.val (.bl (!false))) := neW (by decide +kernel) M
@[simp] theorem ew76 (M : Store) : eqD M (.str "call") (.str "if") = some (.val (.bl false)) := eqW (by decide +kernel) M
@[simp] theorem nw76 (M : Store) : neD M (.str "call") (.str "if") = some (.val (.bl (!false))) := neW (by decide +kernel) M
@[simp] theorem ew77 (M : Store) : eqD M (.str "call") (.str "times") = some (.val (.bl false)) := eqW (by decide +kernel) M
@[simp] theorem nw77 (M : Store) : neD M (.str "call") (.str "times") = some (.val (.bl (!false))) := neW (by decide +kernel) M
@[simp] theorem ew78 (M : Store) : eqD M (.str "call") (.str "tell") = some (.val (.bl false)) := eqW (by decide +kernel) M
@[simp] theorem nw78 (M : Store) : neD M (.str "call") (.str "tell") = some (.val (.bl (!false))) := neW (by decide +kernel) M
@[simp] theorem ew79 (M : Store) : eqD M (.str "call") (.str "stop") = some (.val (.bl false)) := eqW (by decide +kernel) M
@[simp] theorem nw79 (M : Store) : neD M (.str "call") (.str "stop") = some (.val (.bl (!false))) := neW (by decide +kernel) M
@[simp] theorem ew80 (M : Store) : eqD M (.str "call") (.str "call") = some (.val (.bl true)) := eqW (by decide +kernel) M
@[simp] theorem nw80 (M : Store) : neD M (.str "call") (.str "call") = some (.val (.bl (!true))) := neW (by decide +kernel) M
end TP
/-! TPs: how long texts of data are (repr). -/
namespace TP
open PySem L2
mutual
/-- at least as long as it is shown -/
def bigD : D → Nat
  | .non => 4
  | .bl _ => 5
  | .int i => (Str.ofString (toString i)).length
  | .str x => (reprText x).length
  | .lst xs => bigL xs + 3
  | .tup xs => bigL xs + 3
  | .fro _ => 4
  | .kt _ => 4
  | .fn _ => 4
  | .ref _ => 4
def bigL : List D → Nat
  | [] => 0
  | x :: xs => bigD x + 2 + bigL xs
end
mutual
theorem shown_big : ∀ d : D, (toPy d).shown.length ≤ bigD d
  | .non => by simp only [toPy, bigD]; decide
  | .bl b => by simp only [toPy, bigD]; cases b <;> decide
  | .int i => by simp only [toPy, bigD, PyData.shown]; exact Nat.le_refl _
  | .str x => by simp only [toPy, bigD, PyData.shown]; exact Nat.le_refl _
  | .lst xs => by
    simp only [toPy, bigD, PyData.shown]
    have h1 := listText_len_le (PyData.shownAll (toPyL xs))
    have h2 := shownL_big xs
    omega
  | .tup xs => by
    simp only [toPy, bigD, PyData.shown]
    have h1 := tupleText_len_le (PyData.shownAll (toPyL xs))
    have h2 := shownL_big xs
    omega
  | .fro _ => by simp only [toPy, bigD]; decide
  | .kt _ => by simp only [toPy, bigD]; decide
  | .fn _ => by simp only [toPy, bigD]; decide
  | .ref _ => by simp only [toPy, bigD]; decide
theorem shownL_big : ∀ xs : List D, ((PyData.shownAll (toPyL xs)).map (·.length)).sum + 2 * (PyData.shownAll (toPyL xs)).length ≤ bigL xs
  | [] => by simp [toPyL, PyData.shownAll, bigL]
  | x :: xs => by
    have h1 := shown_big x
    have h2 := shownL_big xs
    simp only [toPyL, PyData.shownAll, bigL, List.map_cons, List.sum_cons, List.length_cons]
    omega
end
/-- may be shown: at most so long, so deep -/
structure Fit (n k : Nat) (d : D) : Prop where
  good : goodD d = true
  show_ : (toPy d).showable = true
  dp : dpD d ≤ k
  big : bigD d ≤ n
theorem Fit.mono {n k n' k' : Nat} {d : D} (h : Fit n k d) (hn : n ≤ n') (hk : k ≤ k') : Fit n' k' d := ⟨h.good, h.show_, Nat.le_trans h.dp hk, Nat.le_trans h.big hn⟩
theorem Fit.repr {n k : Nat} {d : D} (h : Fit n k d) (hn : n ≤ 16777216) (hk : k ≤ 190) (M : Store) : reprD M [d] = some (.val (.str (toPy d).shown)) := by
  show (if shwD (derD M d) then some (Slot.val (D.str (toPy (derD M d)).shown)) else none) = _
  rw [der_good M h.good]
  have hs : shwD d = true := by
    unfold shwD
    simp only [Bool.and_eq_true, decide_eq_true_eq]
    refine ⟨⟨⟨h.good, h.show_⟩, Nat.le_trans h.dp hk⟩, ?_⟩
    rw [szL]
    exact Nat.le_trans (shown_big d) (Nat.le_trans h.big hn)
  rw [hs]
  rfl
structure FitL (n k : Nat) (ds : List D) : Prop where
  good : goodL ds = true
  show_ : PyData.showableAll (toPyL ds) = true
  dp : dpL ds ≤ k
  big : bigL ds ≤ n
theorem FitL.nil {k : Nat} : FitL 0 k [] := ⟨rfl, rfl, Nat.zero_le _, Nat.le_refl _⟩
theorem FitL.cons {n m k : Nat} {d : D} {ds : List D} (h : Fit n k d) (hs : FitL m k ds) : FitL (n + 2 + m) k (d :: ds) := by
  refine ⟨?_, ?_, ?_, ?_⟩
  · rw [goodL, h.good, hs.good]; rfl
  · simp only [toPyL, PyData.showableAll, h.show_, hs.show_]; rfl
  · have h1 := h.dp
    have h2 := hs.dp
    rw [dpL]; omega
  · have h1 := h.big
    have h2 := hs.big
    rw [bigL]; omega
theorem FitL.each {n k : Nat} : ∀ {ds : List D}, (∀ d ∈ ds, Fit n k d) → FitL (ds.length * (n + 2)) k ds
  | [], _ => ⟨rfl, rfl, Nat.zero_le _, by rw [List.length_nil, Nat.zero_mul]; exact Nat.le_refl _⟩
  | d :: ds, h => by
    have h1 := FitL.cons (h d List.mem_cons_self) (FitL.each fun x hx => h x (List.mem_cons_of_mem _ hx))
    rw [List.length_cons, Nat.succ_mul, Nat.add_comm]
    exact h1
theorem FitL.upto {n k c m : Nat} {ds : List D} (h : ∀ d ∈ ds, Fit n k d) (hl : ds.length ≤ c) (hm : c * (n + 2) ≤ m) : FitL m k ds := by
  have h1 := FitL.each h
  exact ⟨h1.good, h1.show_, h1.dp, Nat.le_trans h1.big (Nat.le_trans (Nat.mul_le_mul_right _ hl) hm)⟩
theorem FitL.mono {n k n' k' : Nat} {d : List D} (h : FitL n k d) (hn : n ≤ n') (hk : k ≤ k') : FitL n' k' d := ⟨h.good, h.show_, Nat.le_trans h.dp hk, Nat.le_trans h.big hn⟩
theorem FitL.tup {n k : Nat} {ds : List D} (h : FitL n k ds) : Fit (n + 3) (k + 1) (.tup ds) := by
  refine ⟨?_, ?_, ?_, ?_⟩
  · rw [goodD]; exact h.good
  · simp only [toPy, PyData.showable]; exact h.show_
  · have := h.dp; rw [dpD]; omega
  · have := h.big; rw [bigD]; omega
theorem FitL.lst {n k : Nat} {ds : List D} (h : FitL n k ds) : Fit (n + 3) (k + 1) (.lst ds) := by
  refine ⟨?_, ?_, ?_, ?_⟩
  · rw [goodD]; exact h.good
  · simp only [toPy, PyData.showable]; exact h.show_
  · have := h.dp; rw [dpD]; omega
  · have := h.big; rw [bigD]; omega
theorem Fit.non {k : Nat} : Fit 4 k .non := ⟨rfl, rfl, Nat.zero_le _, Nat.le_refl _⟩
theorem Fit.bl {k : Nat} {b : Bool} : Fit 5 k (.bl b) := ⟨rfl, rfl, Nat.zero_le _, Nat.le_refl _⟩
theorem Fit.int {k j : Nat} {i : Int} (hj : 0 < j) (hj2 : j ≤ 500) (h : i.natAbs < 10 ^ j) : Fit (j + 1) k (.int i) := by
  refine ⟨rfl, ?_, Nat.zero_le _, ?_⟩
  · simp only [toPy, PyData.showable, decide_eq_true_eq]
    have h1 : i.natAbs < 2 ^ 1920 := Nat.lt_of_lt_of_le h (Nat.le_trans (Nat.pow_le_pow_right (by decide) hj2) (by decide +kernel))
    by_cases h0 : i.natAbs = 0
    · rw [h0]; decide
    · exact (Nat.log2_lt h0).mpr h1
  · have := int_text_length_le10 hj h
    rw [bigD]
    have e : (Str.ofString (toString i)).length = (toString i).length := PySem.ofString_length _
    omega
/-- a name or a word -/
def nmB (n : Nat) (x : Str) : Bool := okStr x && decide ((reprText x).length ≤ n)
theorem Fit.str {n k : Nat} {x : Str} (h : nmB n x = true) : Fit n k (.str x) := by
  unfold nmB at h
  rw [Bool.and_eq_true, decide_eq_true_eq] at h
  exact ⟨h.1, rfl, Nat.zero_le _, h.2⟩
namespace Ex
mutual
/-- all its names are some, all its numbers are some -/
def Al (p : Str → Prop) (q : Int → Prop) : Ex → Prop
  | num n => q n
  | use x => p x
  | op s a b => p s ∧ Al p q a ∧ Al p q b
  | lt x a b => p x ∧ Al p q a ∧ Al p q b
  | ite a b c => Al p q a ∧ Al p q b ∧ Al p q c
  | times a i s b c => p i ∧ p s ∧ Al p q a ∧ Al p q b ∧ Al p q c
  | tell a b => Al p q a ∧ Al p q b
  | stop a => Al p q a
  | call m f as => p m ∧ p f ∧ Als p q as
def Als (p : Str → Prop) (q : Int → Prop) : List Ex → Prop
  | [] => True
  | e :: es => Al p q e ∧ Als p q es
end
mutual
theorem Wf.al {nm : Str → Prop} {ah : Str → Str → Nat → Prop} {p : Str → Prop} {q : Int → Prop} (h1 : ∀ x, nm x → p x) (h2 : ∀ m f k, ah m f k → p m ∧ p f) (h3 : ∀ s ∈ signs, p s) (h4 : ∀ n, -(10 ^ 30) ≤ n → n ≤ 10 ^ 30 → q n) : ∀ (e : Ex) (sc : List Str), (∀ x ∈ sc, p x) → Wf nm ah sc e → Al p q e
  | num n, sc, hs, h => by rw [Wf] at h; rw [Al]; exact h4 n h.1 h.2
  | use x, sc, hs, h => by rw [Wf] at h; rw [Al]; exact hs x h
  | op s a b, sc, hs, h => by rw [Wf] at h; rw [Al]; exact ⟨h3 s h.1, Wf.al h1 h2 h3 h4 a sc hs h.2.1, Wf.al h1 h2 h3 h4 b sc hs h.2.2⟩
  | lt x a b, sc, hs, h => by
    rw [Wf] at h; rw [Al]
    exact ⟨h1 x h.1, Wf.al h1 h2 h3 h4 a sc hs h.2.1, Wf.al h1 h2 h3 h4 b _ (fun y hy => by rcases List.mem_cons.mp hy with rfl | hy; exact h1 _ h.1; exact hs y hy) h.2.2⟩
  | ite a b c, sc, hs, h => by rw [Wf] at h; rw [Al]; exact ⟨Wf.al h1 h2 h3 h4 a sc hs h.1, Wf.al h1 h2 h3 h4 b sc hs h.2.1, Wf.al h1 h2 h3 h4 c sc hs h.2.2⟩
  | times a i s b c, sc, hs, h => by
    rw [Wf] at h; rw [Al]
    exact ⟨h1 i h.1, h1 s h.2.1, Wf.al h1 h2 h3 h4 a sc hs h.2.2.2.1, Wf.al h1 h2 h3 h4 b sc hs h.2.2.2.2.1, Wf.al h1 h2 h3 h4 c _ (fun y hy => by
      rcases List.mem_cons.mp hy with rfl | hy
      · exact h1 _ h.1
      · rcases List.mem_cons.mp hy with rfl | hy
        · exact h1 _ h.2.1
        · exact hs y hy) h.2.2.2.2.2⟩
  | tell a b, sc, hs, h => by rw [Wf] at h; rw [Al]; exact ⟨Wf.al h1 h2 h3 h4 a sc hs h.1, Wf.al h1 h2 h3 h4 b sc hs h.2⟩
  | stop a, sc, hs, h => by rw [Wf] at h; rw [Al]; exact Wf.al h1 h2 h3 h4 a sc hs h
  | call m f as, sc, hs, h => by rw [Wf] at h; rw [Al]; exact ⟨(h2 _ _ _ h.1).1, (h2 _ _ _ h.1).2, Wfs.al h1 h2 h3 h4 as sc hs h.2⟩
theorem Wfs.al {nm : Str → Prop} {ah : Str → Str → Nat → Prop} {p : Str → Prop} {q : Int → Prop} (h1 : ∀ x, nm x → p x) (h2 : ∀ m f k, ah m f k → p m ∧ p f) (h3 : ∀ s ∈ signs, p s) (h4 : ∀ n, -(10 ^ 30) ≤ n → n ≤ 10 ^ 30 → q n) : ∀ (es : List Ex) (sc : List Str), (∀ x ∈ sc, p x) → Wfs nm ah sc es → Als p q es
  | [], _, _, _ => by rw [Als]; trivial
  | e :: es, sc, hs, h => by rw [Wfs] at h; rw [Als]; exact ⟨Wf.al h1 h2 h3 h4 e sc hs h.1, Wfs.al h1 h2 h3 h4 es sc hs h.2⟩
end
theorem wNum : nmB 12 "num" = true := by decide +kernel
theorem wUse : nmB 12 "use" = true := by decide +kernel
theorem wOp : nmB 12 "op" = true := by decide +kernel
theorem wLet : nmB 12 "let" = true := by decide +kernel
theorem wIf : nmB 12 "if" = true := by decide +kernel
theorem wTimes : nmB 12 "times" = true := by decide +kernel
theorem wTell : nmB 12 "tell" = true := by decide +kernel
theorem wStop : nmB 12 "stop" = true := by decide +kernel
theorem wCall : nmB 12 "call" = true := by decide +kernel
theorem cnt_pos (e : Ex) : 1 ≤ cnt e := by rw [cnt_eq]; omega
mutual
theorem fit : ∀ (e : Ex), Al (fun x => nmB 12 x = true) (fun n => n.natAbs < 10 ^ 31) e → Fit (80 * cnt e - 2) (2 * dep e + 2) e.toD
  | num n, h => by
    rw [Al] at h; rw [toD, cnt, dep]
    exact ((FitL.cons (.str wNum) (.cons (.int (by decide) (by decide) h) .nil)).tup (k := 0)).mono (by decide) (by decide)
  | use x, h => by
    rw [Al] at h; rw [toD, cnt, dep]
    exact ((FitL.cons (.str wUse) (.cons (.str h) .nil)).tup (k := 0)).mono (by decide) (by decide)
  | op s a b, h => by
    rw [Al] at h; rw [toD, cnt, dep]
    have pa := cnt_pos a
    have pb := cnt_pos b
    have ha := (fit a h.2.1).mono (Nat.le_refl _) (show _ ≤ 2 * max (dep a) (dep b) + 2 by omega)
    have hb := (fit b h.2.2).mono (Nat.le_refl _) (show _ ≤ 2 * max (dep a) (dep b) + 2 by omega)
    exact (FitL.cons (.str wOp) (.cons (.str h.1) (.cons ha (.cons hb .nil)))).tup.mono (by omega) (by omega)
  | lt s a b, h => by
    rw [Al] at h; rw [toD, cnt, dep]
    have pa := cnt_pos a
    have pb := cnt_pos b
    have ha := (fit a h.2.1).mono (Nat.le_refl _) (show _ ≤ 2 * max (dep a) (dep b) + 2 by omega)
    have hb := (fit b h.2.2).mono (Nat.le_refl _) (show _ ≤ 2 * max (dep a) (dep b) + 2 by omega)
    exact (FitL.cons (.str wLet) (.cons (.str h.1) (.cons ha (.cons hb .nil)))).tup.mono (by omega) (by omega)
  | ite a b c, h => by
    rw [Al] at h; rw [toD, cnt, dep]
    have pa := cnt_pos a
    have pb := cnt_pos b
    have pc := cnt_pos c
    have ha := (fit a h.1).mono (Nat.le_refl _) (show _ ≤ 2 * max (dep a) (max (dep b) (dep c)) + 2 by omega)
    have hb := (fit b h.2.1).mono (Nat.le_refl _) (show _ ≤ 2 * max (dep a) (max (dep b) (dep c)) + 2 by omega)
    have hc := (fit c h.2.2).mono (Nat.le_refl _) (show _ ≤ 2 * max (dep a) (max (dep b) (dep c)) + 2 by omega)
    exact (FitL.cons (.str wIf) (.cons ha (.cons hb (.cons hc .nil)))).tup.mono (by omega) (by omega)
  | times a i s b c, h => by
    rw [Al] at h; rw [toD, cnt, dep]
    have pa := cnt_pos a
    have pb := cnt_pos b
    have pc := cnt_pos c
    have ha := (fit a h.2.2.1).mono (Nat.le_refl _) (show _ ≤ 2 * max (dep a) (max (dep b) (dep c)) + 2 by omega)
    have hb := (fit b h.2.2.2.1).mono (Nat.le_refl _) (show _ ≤ 2 * max (dep a) (max (dep b) (dep c)) + 2 by omega)
    have hc := (fit c h.2.2.2.2).mono (Nat.le_refl _) (show _ ≤ 2 * max (dep a) (max (dep b) (dep c)) + 2 by omega)
    exact (FitL.cons (.str wTimes) (.cons ha (.cons (.str h.1) (.cons (.str h.2.1) (.cons hb (.cons hc .nil)))))).tup.mono (by omega) (by omega)
  | tell a b, h => by
    rw [Al] at h; rw [toD, cnt, dep]
    have pa := cnt_pos a
    have pb := cnt_pos b
    have ha := (fit a h.1).mono (Nat.le_refl _) (show _ ≤ 2 * max (dep a) (dep b) + 2 by omega)
    have hb := (fit b h.2).mono (Nat.le_refl _) (show _ ≤ 2 * max (dep a) (dep b) + 2 by omega)
    exact (FitL.cons (.str wTell) (.cons ha (.cons hb .nil))).tup.mono (by omega) (by omega)
  | stop a, h => by
    rw [Al] at h; rw [toD, cnt, dep]
    have pa := cnt_pos a
    have ha := fit a h
    exact (FitL.cons (.str wStop) (.cons ha .nil)).tup.mono (by omega) (by omega)
  | call m f as, h => by
    rw [Al] at h; rw [toD, cnt, dep]
    have ha := (fits as h.2.2).tup
    exact (FitL.cons (.str wCall) (.cons (.str h.1) (.cons (.str h.2.1) (.cons ha .nil)))).tup.mono (by omega) (by omega)
theorem fits : ∀ (es : List Ex), Als (fun x => nmB 12 x = true) (fun n => n.natAbs < 10 ^ 31) es → FitL (80 * cnts es) (2 * deps es + 2) (toDs es)
  | [], _ => by rw [toDs, cnts, deps]; exact FitL.nil
  | e :: es, h => by
    rw [Als] at h; rw [toDs, cnts, deps]
    have h1 := (fit e h.1).mono (Nat.le_refl _) (show _ ≤ 2 * max (dep e) (deps es) + 2 by omega)
    have h2 := (fits es h.2).mono (Nat.le_refl _) (show _ ≤ 2 * max (dep e) (deps es) + 2 by omega)
    have hp := cnt_pos e
    exact (FitL.cons h1 h2).mono (by omega) (Nat.le_refl _)
end
end Ex
/-! ### drawn programs -/
theorem pools_nm : pools.all (fun p => p.all (nmB 12)) = true := by decide +kernel
theorem namesL_nm {n : Int} {x : Str} (h : x ∈ namesL n) : nmB 12 x = true := by
  unfold namesL at h
  obtain ⟨k, _, rfl⟩ := List.mem_map.mp h
  exact List.all_eq_true.mp (List.all_eq_true.mp pools_nm _ (pool_mem n).1) _ (nameAt_mem n k).1
theorem signs_nm : ∀ s ∈ signs, nmB 12 s = true := by decide +kernel
theorem RowWf.al {n : Int} {pre : List (Str × Row)} {x : Str × Row} (h : RowWf n pre x) (hp : ∀ y ∈ pre, y.1 ∈ namesL (n / 7) ∧ y.2.f ∈ namesL (n / 7)) : Ex.Al (fun x => nmB 12 x = true) (fun n => n.natAbs < 10 ^ 31) x.2.b :=
  Ex.Wf.al (fun _ => namesL_nm) (fun m f k ⟨y, hy, e1, e2, _⟩ => by subst e1 e2; exact ⟨namesL_nm (hp y hy).1, namesL_nm (hp y hy).2⟩) signs_nm (fun n h1 h2 => by omega) x.2.b x.2.ps (fun y hy => namesL_nm (h.ps y hy)) h.wf
theorem strs_fit {k : Nat} {xs : List Str} (h : ∀ x ∈ xs, nmB 12 x = true) : FitL (xs.length * 14) k (xs.map D.str) := by
  have := FitL.each (n := 12) (k := k) (ds := xs.map D.str) fun d hd => by
    obtain ⟨x, hx, rfl⟩ := List.mem_map.mp hd
    exact .str (h x hx)
  rw [List.length_map] at this
  exact this
/-- a function that may be shown -/
structure RowFit (x : Str × Row) : Prop where
  row : Fit 622300 13 x.2.toD
  fn : Fit 622320 13 (fnD x)
  body : Fit 622080 12 x.2.b.toD
theorem rowFit {x : Str × Row} (hm : nmB 12 x.1 = true) (hf : nmB 12 x.2.f = true) (hp : ∀ y ∈ x.2.ps, nmB 12 y = true) (hl : x.2.ps.length ≤ 5) (hd : x.2.b.dep ≤ 5) (hc : x.2.b.cnt ≤ 7776) (ha : Ex.Al (fun x => nmB 12 x = true) (fun n => n.natAbs < 10 ^ 31) x.2.b) : RowFit x := by
  have hb : Fit 622078 12 x.2.b.toD := (Ex.fit x.2.b ha).mono (by omega) (by omega)
  have hps : Fit 73 12 (.tup (x.2.ps.map D.str)) := ((strs_fit (k := 0) hp).tup).mono (by omega) (by omega)
  exact ⟨(FitL.cons (.str hf) (.cons hps (.cons hb .nil))).tup.mono (by omega) (by omega), (FitL.cons (.str hm) (.cons (.str hf) (.cons hps (.cons hb .nil)))).tup.mono (by omega) (by omega), hb.mono (by omega) (by omega)⟩
theorem RowsWf.names {n : Int} : ∀ {xs pre : List (Str × Row)}, RowsWf n pre xs → ∀ x ∈ xs, x.1 ∈ namesL (n / 7) ∧ x.2.f ∈ namesL (n / 7)
  | y :: xs, pre, h, x, hx => by
    rcases List.mem_cons.mp hx with rfl | hx
    · exact ⟨h.1.m, h.1.f⟩
    · exact RowsWf.names h.2 x hx
theorem RowsWf.fit {n : Int} {xs : List (Str × Row)} (h : RowsWf n [] xs) : ∀ x ∈ xs, RowFit x := fun x hx => by
  have hr := h.mem hx
  rw [List.nil_append] at hr
  have hn := h.names x hx
  exact rowFit (namesL_nm hn.1) (namesL_nm hn.2) (fun y hy => namesL_nm (hr.ps y hy)) (by have := hr.len; omega) hr.dep hr.cnt (hr.al h.names)
/-- a program that may be shown: at most n functions in all, each within so much -/
theorem rooms_fit {n k : Nat} : ∀ {P : Pr}, (∀ q ∈ P, nmB 12 q.1 = true ∧ ∀ r ∈ q.2, Fit n k r.toD) → FitL ((flat P).length * (n + 2) + P.length * 24) (k + 2) (P.map rmD)
  | [], _ => ⟨rfl, rfl, Nat.zero_le _, Nat.zero_le _⟩
  | (m, rs) :: P, h => by
    have h1 := h (m, rs) List.mem_cons_self
    have h2 : FitL (rs.length * (n + 2)) k (rs.map Row.toD) := by
      have := FitL.each (n := n) (k := k) (ds := rs.map Row.toD) fun d hd => by
        obtain ⟨r, hr, rfl⟩ := List.mem_map.mp hd
        exact h1.2 r hr
      rw [List.length_map] at this
      exact this
    have h3 : Fit (rs.length * (n + 2) + 22) (k + 2) (rmD (m, rs)) := (FitL.cons (.str h1.1) (.cons h2.tup .nil)).tup.mono (by omega) (by omega)
    have h4 := rooms_fit (P := P) fun q hq => h q (List.mem_cons_of_mem _ hq)
    rw [List.map_cons, flat, List.length_append, List.length_map, List.length_cons, Nat.add_mul]
    exact (FitL.cons h3 h4).mono (by omega) (Nat.le_refl _)
theorem pg_fit {n k j : Nat} {P : Pr} (hl : (flat P).length ≤ k) (hP : P.length ≤ 8) (h : ∀ q ∈ P, nmB 12 q.1 = true ∧ ∀ r ∈ q.2, Fit n j r.toD) : Fit (k * (n + 2) + 200) (j + 3) (pgD P) := by
  have h1 := (rooms_fit h).tup
  have h2 : (flat P).length * (n + 2) ≤ k * (n + 2) := Nat.mul_le_mul_right _ hl
  exact h1.mono (by omega) (Nat.le_refl _)
end TP
set_option maxHeartbeats 4000000
namespace K52
open PySem L2 TP
def topS (i : Nat) : Stmt := PySem.Challenge.pw_turnpaper_k52_forms_of_turnings.main.body.getD i (.Pass ⟨0, 0, 0, 0⟩)
def k_WORDS : D := (.kt [(.str "module"), (.str "def"), (.str "let"), (.str "in"), (.str "if"), (.str "then"), (.str "else"), (.str "times"), (.str "as"), (.str "from"), (.str "do"), (.str "tell"), (.str "stop")])
def k_SHAPES : List (Str × D) := [("free", (.str "bx")), ("equal", (.str "ww")), ("gather", (.str "wx")), ("carve", (.str "wxkx")), ("melt", (.str "xx")), ("fold", (.str "wxx")), ("folds", (.str "xx")), ("tidy", (.str "xx")), ("bring", (.str "xxx")), ("order", (.str "xxo")), ("widen", (.str "xxxxr"))]
abbrev f_is_name : Nat := 0
abbrev s_is_name : Stmt := topS 23
theorem sc_is_name : FnScope ["thing", "letter"] ["thing"] (defScope s_is_name) := ⟨rfl, rfl, rfl, by decide +kernel, rfl, by decide +kernel, by decide +kernel⟩
abbrev f_is_count : Nat := 1
abbrev s_is_count : Stmt := topS 39
theorem sc_is_count : FnScope ["thing"] ["thing"] (defScope s_is_count) := ⟨rfl, rfl, rfl, by decide +kernel, rfl, by decide +kernel, by decide +kernel⟩
abbrev f_are_counts : Nat := 2
abbrev s_are_counts : Stmt := topS 40
theorem sc_are_counts : FnScope ["thing", "one"] ["thing"] (defScope s_are_counts) := ⟨rfl, rfl, rfl, by decide +kernel, rfl, by decide +kernel, by decide +kernel⟩
abbrev f_is_way : Nat := 3
abbrev s_is_way : Stmt := topS 41
theorem sc_is_way : FnScope ["thing", "name"] ["thing"] (defScope s_is_way) := ⟨rfl, rfl, rfl, by decide +kernel, rfl, by decide +kernel, by decide +kernel⟩
abbrev f_is_binder : Nat := 4
abbrev s_is_binder : Stmt := topS 42
theorem sc_is_binder : FnScope ["thing"] ["thing"] (defScope s_is_binder) := ⟨rfl, rfl, rfl, by decide +kernel, rfl, by decide +kernel, by decide +kernel⟩
abbrev f_are_ways : Nat := 5
abbrev s_are_ways : Stmt := topS 43
theorem sc_are_ways : FnScope ["thing", "one"] ["thing"] (defScope s_are_ways) := ⟨rfl, rfl, rfl, by decide +kernel, rfl, by decide +kernel, by decide +kernel⟩
abbrev f_fits : Nat := 6
abbrev s_fits : Stmt := topS 44
theorem sc_fits : FnScope ["sign", "thing"] ["sign", "thing"] (defScope s_fits) := ⟨rfl, rfl, rfl, by decide +kernel, rfl, by decide +kernel, by decide +kernel⟩
abbrev f_has_form : Nat := 7
abbrev s_has_form : Stmt := topS 45
theorem sc_has_form : FnScope ["thing", "signs", "sign", "one"] ["thing"] (defScope s_has_form) := ⟨rfl, rfl, rfl, by decide +kernel, rfl, by decide +kernel, by decide +kernel⟩
abbrev f_need_goings : Nat := 8
abbrev s_need_goings : Stmt := topS 148
theorem sc_need_goings : FnScope ["is_so"] ["is_so"] (defScope s_need_goings) := ⟨rfl, rfl, rfl, by decide +kernel, rfl, by decide +kernel, by decide +kernel⟩
abbrev f_is_turning : Nat := 9
abbrev s_is_turning : Stmt := topS 190
theorem sc_is_turning : FnScope ["thing"] ["thing"] (defScope s_is_turning) := ⟨rfl, rfl, rfl, by decide +kernel, rfl, by decide +kernel, by decide +kernel⟩
abbrev f_turned : Nat := 10
abbrev s_turned : Stmt := topS 191
theorem sc_turned : FnScope ["program", "turning", "going", "word", "some", "spot"] ["program", "turning"] (defScope s_turned) := ⟨rfl, rfl, rfl, by decide +kernel, rfl, by decide +kernel, by decide +kernel⟩
abbrev f__law_cell : Nat := 11
abbrev s__law_cell : Stmt := topS 193
theorem sc__law_cell : FnScope ["_law_cells", "_law_spot", "_law_k", "_law_base", "_law_own", "_law_turn"] ["_law_cells", "_law_spot"] (defScope s__law_cell) := ⟨rfl, rfl, rfl, by decide +kernel, rfl, by decide +kernel, by decide +kernel⟩
abbrev f__law_names : Nat := 12
abbrev s__law_names : Stmt := topS 194
theorem sc__law_names : FnScope ["_law_n", "_law_letters", "_law_some", "_law_k", "_law_sign"] ["_law_n"] (defScope s__law_names) := ⟨rfl, rfl, rfl, by decide +kernel, rfl, by decide +kernel, by decide +kernel⟩
abbrev f__law_is_name : Nat := 13
abbrev s__law_is_name : Stmt := topS 195
theorem sc__law_is_name : FnScope ["_law_thing", "_law_told", "_law_sign"] ["_law_thing"] (defScope s__law_is_name) := ⟨rfl, rfl, rfl, by decide +kernel, rfl, by decide +kernel, by decide +kernel⟩
abbrev f__law_are_counts : Nat := 14
abbrev s__law_are_counts : Stmt := topS 196
theorem sc__law_are_counts : FnScope ["_law_thing", "_law_one"] ["_law_thing"] (defScope s__law_are_counts) := ⟨rfl, rfl, rfl, by decide +kernel, rfl, by decide +kernel, by decide +kernel⟩
abbrev f__law_is_way : Nat := 15
abbrev s__law_is_way : Stmt := topS 197
theorem sc__law_is_way : FnScope ["_law_thing"] ["_law_thing"] (defScope s__law_is_way) := ⟨rfl, rfl, rfl, by decide +kernel, rfl, by decide +kernel, by decide +kernel⟩
abbrev f__law_is_binder : Nat := 16
abbrev s__law_is_binder : Stmt := topS 198
theorem sc__law_is_binder : FnScope ["_law_thing"] ["_law_thing"] (defScope s__law_is_binder) := ⟨rfl, rfl, rfl, by decide +kernel, rfl, by decide +kernel, by decide +kernel⟩
abbrev f__law_fits : Nat := 17
abbrev s__law_fits : Stmt := topS 199
theorem sc__law_fits : FnScope ["_law_kind", "_law_thing", "_law_one"] ["_law_kind", "_law_thing"] (defScope s__law_fits) := ⟨rfl, rfl, rfl, by decide +kernel, rfl, by decide +kernel, by decide +kernel⟩
abbrev f__law_kinds : Nat := 18
abbrev s__law_kinds : Stmt := topS 200
theorem sc__law_kinds : FnScope ["_law_word", "_law_some"] ["_law_word"] (defScope s__law_kinds) := ⟨rfl, rfl, rfl, by decide +kernel, rfl, by decide +kernel, by decide +kernel⟩
abbrev f__law_is_form : Nat := 19
abbrev s__law_is_form : Stmt := topS 201
theorem sc__law_is_form : FnScope ["_law_thing", "_law_kinds_here", "_law_kind", "_law_one"] ["_law_thing"] (defScope s__law_is_form) := ⟨rfl, rfl, rfl, by decide +kernel, rfl, by decide +kernel, by decide +kernel⟩
abbrev f__law_part : Nat := 20
abbrev s__law_part : Stmt := topS 202
theorem sc__law_part : FnScope ["_law_kind", "_law_names_here", "_law_n", "_law_way", "_law_k"] ["_law_kind", "_law_names_here", "_law_n"] (defScope s__law_part) := ⟨rfl, rfl, rfl, by decide +kernel, rfl, by decide +kernel, by decide +kernel⟩
abbrev f__law_odd : Nat := 21
abbrev s__law_odd : Stmt := topS 203
theorem sc__law_odd : FnScope ["_law_names_here", "_law_n", "_law_some", "_law_a", "_law_b"] ["_law_names_here", "_law_n"] (defScope s__law_odd) := ⟨rfl, rfl, rfl, by decide +kernel, rfl, by decide +kernel, by decide +kernel⟩
abbrev f__law_bent : Nat := 22
abbrev s__law_bent : Stmt := topS 204
theorem sc__law_bent : FnScope ["_law_thing", "_law_names_here", "_law_n", "_law_way", "_law_at"] ["_law_thing", "_law_names_here", "_law_n"] (defScope s__law_bent) := ⟨rfl, rfl, rfl, by decide +kernel, rfl, by decide +kernel, by decide +kernel⟩
abbrev f__law_refused : Nat := 23
abbrev s__law_refused : Stmt := topS 205
theorem sc__law_refused : FnScope ["_law_program", "_law_thing", "_law_caught", "_law_others", "e"] ["_law_program", "_law_thing"] (defScope s__law_refused) := ⟨rfl, rfl, rfl, by decide +kernel, rfl, by decide +kernel, by decide +kernel⟩
abbrev f__law_far_right : Nat := 24
abbrev s__law_far_right : Stmt := topS 206
theorem sc__law_far_right : FnScope ["_law_far", "_law_turn", "_law_program", "_law_some", "_law_thing"] [] (defScope s__law_far_right) := ⟨rfl, rfl, rfl, by decide +kernel, rfl, by decide +kernel, by decide +kernel⟩
abbrev f_law : Nat := 25
abbrev s_law : Stmt := topS 207
theorem sc_law : FnScope ["_law_script", "_law_spot", "_law_words", "_law_k", "_law_n", "_law_names_here", "_law_program", "_law_word", "_law_some", "_law_thing", "_law_turn", "_law_odd_here", "_law_bent_here", "_law_j", "_law_kind"] ["_law_script"] (defScope s_law) := ⟨rfl, rfl, rfl, by decide +kernel, rfl, by decide +kernel, by decide +kernel⟩
def exL : ExTab := [(2, "NoTurn", true), (2, "BadPaper", false), (2, "BadProgram", false), (2, "BadText", false), (2, "Hangs", false), (2, "NoStep", false), (2, "Shade", false), (2, "TooMany", false)]
def el_is_name_0 (Φ : Nat → Fn) : FD := (dEF (dOp2 inD (dVarB 1) (dC (.str "abcdefghijklmnopqrstuvwxyz"))))
theorem el_is_name_0_eq (Φ : Nat → Fn) (ρ : EnvD) (M : Store) : el_is_name_0 Φ ρ M = (dEF (dOp2 inD (dVarB 1) (dC (.str "abcdefghijklmnopqrstuvwxyz")))) ρ M := rfl
def m_is_name (Φ : Nat → Fn) : FS := (sSeq (sIf (dOr (dNot (dTru (dEF (dOp1 (isiD "str") (dVarB 0))))) (dOr (dNot (dBo (dChain (cmpD fun i j => decide (i ≤ j)) (cmpD fun i j => decide (i ≤ j)) (dC (.int 1)) (dEF (dPr lenD (dCons (dVarB 0) dNil))) (dC (.int 8))))) (dBo (dOp2 inD (dVarB 0) (dC k_WORDS))))) (sSeq (sRet (dFE (dC (.bl false)))) sNil) sNil) (sSeq (sRet (dPr allD (dCons (dEF (dLc (dIt (dVar 0)) (bName 1) dYes (el_is_name_0 Φ) [1])) dNil))) sNil))
def m_is_count (Φ : Nat → Fn) : FS := (sSeq (sRet (dAndV (dOp1 (isiD "int") (dVarB 0)) (dAndV (dNotV (dOp1 (isiD "bool") (dVarB 0))) (dOp2 (cmpD fun i j => decide (j ≤ i)) (dVarB 0) (dC (.int 0)))))) sNil)
def el_are_counts_0 (Φ : Nat → Fn) : FD := (dEF (dCall 1 (Φ f_is_count) (dCons (dVar 1) dNil)))
theorem el_are_counts_0_eq (Φ : Nat → Fn) (ρ : EnvD) (M : Store) : el_are_counts_0 Φ ρ M = (dEF (dCall 1 (Φ f_is_count) (dCons (dVar 1) dNil))) ρ M := rfl
def m_are_counts (Φ : Nat → Fn) : FS := (sSeq (sRet (dAndV (dOp1 (isiD "tuple") (dVarB 0)) (dPr allD (dCons (dEF (dLc (dIt (dVar 0)) (bName 1) dYes (el_are_counts_0 Φ) [1])) dNil)))) sNil)
def el_is_way_0 (Φ : Nat → Fn) : FD := (dEF (dCall 1 (Φ f_is_name) (dCons (dVar 1) dNil)))
theorem el_is_way_0_eq (Φ : Nat → Fn) (ρ : EnvD) (M : Store) : el_is_way_0 Φ ρ M = (dEF (dCall 1 (Φ f_is_name) (dCons (dVar 1) dNil))) ρ M := rfl
def m_is_way (Φ : Nat → Fn) : FS := (sSeq (sIf (dOr (dNot (dTru (dEF (dOp1 (isiD "tuple") (dVarB 0))))) (dOr (dBo (dOp2 (cmpD fun i j => decide (i < j)) (dEF (dPr lenD (dCons (dVarB 0) dNil))) (dC (.int 2)))) (dNot (dTru (dEF (dPr allD (dCons (dEF (dLc (dIt (dEF (dSl slD (dVarB 0) dNo (dSo (dC (.int 2)))))) (bName 1) dYes (el_is_way_0 Φ) [1])) dNil))))))) (sSeq (sRet (dFE (dC (.bl false)))) sNil) sNil) (sSeq (sRet (dCall 1 (Φ f_are_counts) (dCons (dEF (dSl slD (dVarB 0) (dSo (dC (.int 2))) dNo)) dNil))) sNil))
def m_is_binder (Φ : Nat → Fn) : FS := (sSeq (sIf (dOr (dNot (dTru (dEF (dOp1 (isiD "tuple") (dVarB 0))))) (dOr (dBo (dOp2 eqE (dVarB 0) (dTup dNil))) (dNot (dTru (dEF (dOp1 (isiD "str") (dEF (dOp2 idxD (dVarB 0) (dC (.int 0)))))))))) (sSeq (sRet (dFE (dC (.bl false)))) sNil) sNil) (sSeq (sIf (dBo (dOp2 eqD (dEF (dOp2 idxD (dVarB 0) (dC (.int 0)))) (dC (.str "param")))) (sSeq (sRet (dAndV (dOp2 eqD (dEF (dPr lenD (dCons (dVarB 0) dNil))) (dC (.int 4))) (dAndV (dCall 1 (Φ f_is_name) (dCons (dEF (dOp2 idxD (dVarB 0) (dC (.int 1)))) dNil)) (dAndV (dCall 1 (Φ f_is_name) (dCons (dEF (dOp2 idxD (dVarB 0) (dC (.int 2)))) dNil)) (dCall 1 (Φ f_is_count) (dCons (dEF (dOp2 idxD (dVarB 0) (dC (.int 3)))) dNil)))))) sNil) sNil) (sSeq (sRet (dAndV (dOp2 inD (dEF (dOp2 idxD (dVarB 0) (dC (.int 0)))) (dTup (dCons (dC (.str "let")) (dCons (dC (.str "count")) (dCons (dC (.str "sum")) dNil))))) (dAndV (dOp2 eqD (dEF (dPr lenD (dCons (dVarB 0) dNil))) (dC (.int 2))) (dCall 1 (Φ f_is_way) (dCons (dEF (dOp2 idxD (dVarB 0) (dC (.int 1)))) dNil))))) sNil)))
def el_are_ways_0 (Φ : Nat → Fn) : FD := (dEF (dCall 1 (Φ f_is_way) (dCons (dVar 1) dNil)))
theorem el_are_ways_0_eq (Φ : Nat → Fn) (ρ : EnvD) (M : Store) : el_are_ways_0 Φ ρ M = (dEF (dCall 1 (Φ f_is_way) (dCons (dVar 1) dNil))) ρ M := rfl
def m_are_ways (Φ : Nat → Fn) : FS := (sSeq (sRet (dAndV (dOp1 (isiD "tuple") (dVarB 0)) (dAndV (dOp2 neE (dVarB 0) (dTup dNil)) (dPr allD (dCons (dEF (dLc (dIt (dVar 0)) (bName 1) dYes (el_are_ways_0 Φ) [1])) dNil))))) sNil)
def m_fits (Φ : Nat → Fn) : FS := (sSeq (sIf (dBo (dOp2 eqD (dVarB 0) (dC (.str "x")))) (sSeq (sRet (dCall 1 (Φ f_is_name) (dCons (dVar 1) dNil))) sNil) sNil) (sSeq (sIf (dBo (dOp2 eqD (dVarB 0) (dC (.str "k")))) (sSeq (sRet (dCall 1 (Φ f_is_count) (dCons (dVar 1) dNil))) sNil) sNil) (sSeq (sIf (dBo (dOp2 eqD (dVarB 0) (dC (.str "b")))) (sSeq (sRet (dCall 1 (Φ f_is_binder) (dCons (dVar 1) dNil))) sNil) sNil) (sSeq (sIf (dBo (dOp2 eqD (dVarB 0) (dC (.str "w")))) (sSeq (sRet (dCall 1 (Φ f_is_way) (dCons (dVar 1) dNil))) sNil) sNil) (sSeq (sRet (dIf (dBo (dOp2 eqD (dVarB 0) (dC (.str "o")))) (dCall 1 (Φ f_are_counts) (dCons (dVar 1) dNil)) (dCall 1 (Φ f_are_ways) (dCons (dVar 1) dNil)))) sNil)))))
def el_has_form_0 (Φ : Nat → Fn) : FD := (dEF (dCall 2 (Φ f_fits) (dCons (dVar 2) (dCons (dVar 3) dNil))))
theorem el_has_form_0_eq (Φ : Nat → Fn) (ρ : EnvD) (M : Store) : el_has_form_0 Φ ρ M = (dEF (dCall 2 (Φ f_fits) (dCons (dVar 2) (dCons (dVar 3) dNil)))) ρ M := rfl
def m_has_form (Φ : Nat → Fn) : FS := (sSeq (sIf (dOr (dNot (dTru (dEF (dOp1 (isiD "tuple") (dVarB 0))))) (dOr (dBo (dOp2 eqE (dVarB 0) (dTup dNil))) (dNot (dTru (dEF (dOp1 (isiD "str") (dEF (dOp2 idxD (dVarB 0) (dC (.int 0)))))))))) (sSeq (sRet (dFE (dC (.bl false)))) sNil) sNil) (sSeq (sSet 1 (dFE (dTabGet1 k_SHAPES (dEF (dOp2 idxD (dVarB 0) (dC (.int 0))))))) (sSeq (sIf (dOr (dBo (dOp2 isD (dVarB 1) (dC .non))) (dBo (dOp2 neD (dEF (dPr lenD (dCons (dVarB 0) dNil))) (dEF (dOp2 addD (dEF (dPr lenD (dCons (dVarB 1) dNil))) (dC (.int 1))))))) (sSeq (sRet (dFE (dC (.bl false)))) sNil) sNil) (sSeq (sRet (dPr allD (dCons (dEF (dLc (dZipG (dCons (dVar 1) (dCons (dEF (dSl slD (dVarB 0) (dSo (dC (.int 1))) dNo)) dNil))) (bTup [2, 3]) dYes (el_has_form_0 Φ) [2, 3])) dNil))) sNil))))
def m_need_goings (Φ : Nat → Fn) : FS := (sSeq (sIf (dNot (dTru (dVarB 0))) (sSeq (sRaise 2) sNil) sNil) sNil)
def m_is_turning (Φ : Nat → Fn) : FS := (sSeq (sRet (dCall 1 (Φ f_has_form) (dCons (dVar 0) dNil))) sNil)
def m_turned (Φ : Nat → Fn) : FS := (sSeq (sExpr (dCall 1 (Φ f_need_goings) (dCons (dEF (dCall 1 (calmF (Φ f_is_turning)) (dCons (dVar 1) dNil))) dNil))) (sSeq sBad (sSeq sBad (sSeq sBad (sSeq sBad sNil)))))
def lp__law_cell_0 (Φ : Nat → Fn) : FS := (sSeq (sSet 4 (dFE (dEF (dOp2 fdivD (dVarB 4) (dC (.int 306783379)))))) sNil)
theorem lp__law_cell_0_eq (Φ : Nat → Fn) (ρ : EnvD) (M : Store) : lp__law_cell_0 Φ ρ M = (sSeq (sSet 4 (dFE (dEF (dOp2 fdivD (dVarB 4) (dC (.int 306783379)))))) sNil) ρ M := rfl
def m__law_cell (Φ : Nat → Fn) : FS := (sSeq (sPutR (dEF (dOp2 addD (dEF (dOp2 idxD (dVarB 1) (dC (.int 0)))) (dC (.int 1)))) (dVarB 1) (dC (.int 0))) (sSeq (sSet 2 (dFE (dEF (dOp2 idxD (dVarB 1) (dC (.int 0)))))) (sSeq (sSet 3 (dFE (dEF (dOp2 addD (dEF (dOp2 mulD (dEF (dOp2 mulD (dC (.int 31)) (dVarB 2))) (dVarB 2))) (dEF (dOp2 mulD (dC (.int 7919)) (dVarB 2))))))) (sSeq (sIf (dAnd (dBo (dOp2 (cmpD fun i j => decide (j < i)) (dEF (dPr lenD (dCons (dVarB 0) dNil))) (dC (.int 0)))) (dAnd (dBo (dOp2 (cmpD fun i j => decide (j ≤ i)) (dEF (dOp2 idxD (dVarB 0) (dEF (dOp2 modD (dVarB 2) (dEF (dPr lenD (dCons (dVarB 0) dNil))))))) (dEF (dOp2 powD (dC (.int 10)) (dC (.int 18)))))) (dBo (dOp2 (cmpD fun i j => decide (i < j)) (dEF (dOp2 fdivD (dVarB 2) (dEF (dPr lenD (dCons (dVarB 0) dNil))))) (dC (.int 60)))))) (sSeq (sSet 4 (dFE (dEF (dOp2 idxD (dVarB 0) (dEF (dOp2 modD (dVarB 2) (dEF (dPr lenD (dCons (dVarB 0) dNil))))))))) (sSeq (sFor (dRng1 (dCons (dEF (dOp2 fdivD (dVarB 2) (dEF (dPr lenD (dCons (dVarB 0) dNil))))) dNil)) (bName 5) (lp__law_cell_0 Φ)) (sSeq (sIf (dBo (dOp2 (cmpD fun i j => decide (j < i)) (dVarB 4) (dC (.int 0)))) (sSeq (sRet (dOp2 modD (dVarB 4) (dC (.int 306783379)))) sNil) sNil) sNil))) sNil) (sSeq (sIf (dBo (dOp2 (cmpD fun i j => decide (j < i)) (dEF (dPr lenD (dCons (dVarB 0) dNil))) (dC (.int 0)))) (sSeq (sSet 3 (dFE (dEF (dOp2 addD (dVarB 3) (dEF (dOp2 mulD (dEF (dOp2 modD (dEF (dOp2 idxD (dVarB 0) (dEF (dOp2 modD (dVarB 2) (dEF (dPr lenD (dCons (dVarB 0) dNil))))))) (dC (.int 2147483629)))) (dEF (dOp2 addD (dC (.int 1)) (dEF (dOp2 fdivD (dVarB 2) (dEF (dPr lenD (dCons (dVarB 0) dNil))))))))))))) sNil) sNil) (sSeq (sRet (dOp2 fdivD (dEF (dOp2 modD (dEF (dOp2 mulD (dEF (dOp2 modD (dEF (dOp2 mulD (dVarB 3) (dC (.int 48271)))) (dC (.int 2147483647)))) (dC (.int 69621)))) (dC (.int 2147483629)))) (dC (.int 7)))) sNil))))))
def el__law_names_0 (Φ : Nat → Fn) : FD := (dEF (dOp2 addD (dEF (dOp2 addD (dC (.str "n")) (dVarB 4))) (dC (.str "or"))))
theorem el__law_names_0_eq (Φ : Nat → Fn) (ρ : EnvD) (M : Store) : el__law_names_0 Φ ρ M = (dEF (dOp2 addD (dEF (dOp2 addD (dC (.str "n")) (dVarB 4))) (dC (.str "or")))) ρ M := rfl
def el__law_names_1 (Φ : Nat → Fn) : FD := (dVar 4)
theorem el__law_names_1_eq (Φ : Nat → Fn) (ρ : EnvD) (M : Store) : el__law_names_1 Φ ρ M = (dVar 4) ρ M := rfl
def el__law_names_2 (Φ : Nat → Fn) : FD := (dEF (dSl slD (dC (.str "graphite")) dNo (dSo (dEF (dOp2 addD (dVarB 3) (dC (.int 1)))))))
theorem el__law_names_2_eq (Φ : Nat → Fn) (ρ : EnvD) (M : Store) : el__law_names_2 Φ ρ M = (dEF (dSl slD (dC (.str "graphite")) dNo (dSo (dEF (dOp2 addD (dVarB 3) (dC (.int 1))))))) ρ M := rfl
def el__law_names_3 (Φ : Nat → Fn) : FD := (dEF (dSl slD (dC (.str "sandwich")) dNo (dSo (dEF (dOp2 addD (dVarB 3) (dC (.int 1)))))))
theorem el__law_names_3_eq (Φ : Nat → Fn) (ρ : EnvD) (M : Store) : el__law_names_3 Φ ρ M = (dEF (dSl slD (dC (.str "sandwich")) dNo (dSo (dEF (dOp2 addD (dVarB 3) (dC (.int 1))))))) ρ M := rfl
def el__law_names_4 (Φ : Nat → Fn) : FD := (dEF (dOp2 idxD (dVarB 2) (dEF (dOp2 modD (dEF (dOp2 addD (dEF (dOp2 fdivD (dVarB 0) (dC (.int 3)))) (dEF (dOp2 mulD (dEF (dOp2 addD (dEF (dOp2 mulD (dC (.int 2)) (dEF (dOp2 modD (dEF (dOp2 fdivD (dVarB 0) (dC (.int 48)))) (dC (.int 8)))))) (dC (.int 1)))) (dVarB 3))))) (dC (.int 16))))))
theorem el__law_names_4_eq (Φ : Nat → Fn) (ρ : EnvD) (M : Store) : el__law_names_4 Φ ρ M = (dEF (dOp2 idxD (dVarB 2) (dEF (dOp2 modD (dEF (dOp2 addD (dEF (dOp2 fdivD (dVarB 0) (dC (.int 3)))) (dEF (dOp2 mulD (dEF (dOp2 addD (dEF (dOp2 mulD (dC (.int 2)) (dEF (dOp2 modD (dEF (dOp2 fdivD (dVarB 0) (dC (.int 48)))) (dC (.int 8)))))) (dC (.int 1)))) (dVarB 3))))) (dC (.int 16)))))) ρ M := rfl
def m__law_names (Φ : Nat → Fn) : FS := (sSeq (sSet 1 (dFE (dC (.str "qzbmxkcwhvjpgyld")))) (sSeq (sSet 2 (dLst (dCons (dEF (dLc (dIt (dVar 1)) (bName 4) dYes (el__law_names_1 Φ) [4])) (dCons (dEF (dLc (dIt (dVar 1)) (bName 4) dYes (el__law_names_0 Φ) [4])) dNil)))) (sSeq (sApp 2 (dEF (dOp2 addD (dEF (dLc (dRng1 (dCons (dC (.int 8)) dNil)) (bName 3) dYes (el__law_names_2 Φ) [3])) (dEF (dLc (dRng1 (dCons (dC (.int 8)) dNil)) (bName 3) dYes (el__law_names_3 Φ) [3]))))) (sSeq (sSet 2 (dOp2 idxD (dVarB 2) (dEF (dOp2 modD (dVarB 0) (dC (.int 3)))))) (sSeq (sRet (dLc (dRng1 (dCons (dC (.int 16)) dNil)) (bName 3) dYes (el__law_names_4 Φ) [3])) sNil)))))
def el__law_is_name_0 (Φ : Nat → Fn) : FD := (dEF (dOp2 inD (dVarB 2) (dC (.str "abcdefghijklmnopqrstuvwxyz"))))
theorem el__law_is_name_0_eq (Φ : Nat → Fn) (ρ : EnvD) (M : Store) : el__law_is_name_0 Φ ρ M = (dEF (dOp2 inD (dVarB 2) (dC (.str "abcdefghijklmnopqrstuvwxyz")))) ρ M := rfl
def m__law_is_name (Φ : Nat → Fn) : FS := (sSeq (sSet 1 (dFE (dEF (dLst (dCons (dC (.str "module")) (dCons (dC (.str "def")) (dCons (dC (.str "let")) (dCons (dC (.str "in")) (dCons (dC (.str "if")) (dCons (dC (.str "then")) (dCons (dC (.str "else")) (dCons (dC (.str "times")) (dCons (dC (.str "as")) (dCons (dC (.str "from")) (dCons (dC (.str "do")) (dCons (dC (.str "tell")) (dCons (dC (.str "stop")) dNil))))))))))))))))) (sSeq (sIf (dOr (dNot (dTru (dEF (dOp1 (isiD "str") (dVarB 0))))) (dOr (dNot (dBo (dChain (cmpD fun i j => decide (i ≤ j)) (cmpD fun i j => decide (i ≤ j)) (dC (.int 1)) (dEF (dPr lenD (dCons (dVarB 0) dNil))) (dC (.int 8))))) (dBo (dOp2 inD (dVarB 0) (dVarB 1))))) (sSeq (sRet (dFE (dC (.bl false)))) sNil) sNil) (sSeq (sRet (dPr allD (dCons (dEF (dLc (dIt (dVar 0)) (bName 2) dYes (el__law_is_name_0 Φ) [2])) dNil))) sNil)))
def el__law_are_counts_0 (Φ : Nat → Fn) : FD := (dEF (dAndV (dOp1 (isiD "int") (dVarB 1)) (dAndV (dNotV (dOp1 (isiD "bool") (dVarB 1))) (dOp2 (cmpD fun i j => decide (j ≤ i)) (dVarB 1) (dC (.int 0))))))
theorem el__law_are_counts_0_eq (Φ : Nat → Fn) (ρ : EnvD) (M : Store) : el__law_are_counts_0 Φ ρ M = (dEF (dAndV (dOp1 (isiD "int") (dVarB 1)) (dAndV (dNotV (dOp1 (isiD "bool") (dVarB 1))) (dOp2 (cmpD fun i j => decide (j ≤ i)) (dVarB 1) (dC (.int 0)))))) ρ M := rfl
def m__law_are_counts (Φ : Nat → Fn) : FS := (sSeq (sIf (dNot (dTru (dEF (dOp1 (isiD "tuple") (dVarB 0))))) (sSeq (sRet (dFE (dC (.bl false)))) sNil) sNil) (sSeq (sRet (dPr allD (dCons (dEF (dLc (dIt (dVar 0)) (bName 1) dYes (el__law_are_counts_0 Φ) [1])) dNil))) sNil))
def m__law_is_way (Φ : Nat → Fn) : FS := (sSeq (sIf (dOr (dNot (dTru (dEF (dOp1 (isiD "tuple") (dVarB 0))))) (dOr (dBo (dOp2 (cmpD fun i j => decide (i < j)) (dEF (dPr lenD (dCons (dVarB 0) dNil))) (dC (.int 2)))) (dOr (dNot (dTru (dEF (dCall 1 (Φ f__law_is_name) (dCons (dEF (dOp2 idxD (dVarB 0) (dC (.int 0)))) dNil))))) (dNot (dTru (dEF (dCall 1 (Φ f__law_is_name) (dCons (dEF (dOp2 idxD (dVarB 0) (dC (.int 1)))) dNil)))))))) (sSeq (sRet (dFE (dC (.bl false)))) sNil) sNil) (sSeq (sRet (dCall 1 (Φ f__law_are_counts) (dCons (dEF (dSl slD (dVarB 0) (dSo (dC (.int 2))) dNo)) dNil))) sNil))
def m__law_is_binder (Φ : Nat → Fn) : FS := (sSeq (sIf (dOr (dNot (dTru (dEF (dOp1 (isiD "tuple") (dVarB 0))))) (dOr (dBo (dOp2 eqE (dVarB 0) (dTup dNil))) (dNot (dTru (dEF (dOp1 (isiD "str") (dEF (dOp2 idxD (dVarB 0) (dC (.int 0)))))))))) (sSeq (sRet (dFE (dC (.bl false)))) sNil) sNil) (sSeq (sIf (dBo (dOp2 eqD (dEF (dOp2 idxD (dVarB 0) (dC (.int 0)))) (dC (.str "param")))) (sSeq (sRet (dAndV (dOp2 eqD (dEF (dPr lenD (dCons (dVarB 0) dNil))) (dC (.int 4))) (dAndV (dCall 1 (Φ f__law_is_name) (dCons (dEF (dOp2 idxD (dVarB 0) (dC (.int 1)))) dNil)) (dAndV (dCall 1 (Φ f__law_is_name) (dCons (dEF (dOp2 idxD (dVarB 0) (dC (.int 2)))) dNil)) (dCall 1 (Φ f__law_are_counts) (dCons (dEF (dSl slD (dVarB 0) (dSo (dC (.int 3))) dNo)) dNil)))))) sNil) sNil) (sSeq (sRet (dAndV (dOp2 inD (dEF (dOp2 idxD (dVarB 0) (dC (.int 0)))) (dTup (dCons (dC (.str "let")) (dCons (dC (.str "count")) (dCons (dC (.str "sum")) dNil))))) (dAndV (dOp2 eqD (dEF (dPr lenD (dCons (dVarB 0) dNil))) (dC (.int 2))) (dCall 1 (Φ f__law_is_way) (dCons (dEF (dOp2 idxD (dVarB 0) (dC (.int 1)))) dNil))))) sNil)))
def el__law_fits_0 (Φ : Nat → Fn) : FD := (dEF (dCall 1 (Φ f__law_is_way) (dCons (dVar 2) dNil)))
theorem el__law_fits_0_eq (Φ : Nat → Fn) (ρ : EnvD) (M : Store) : el__law_fits_0 Φ ρ M = (dEF (dCall 1 (Φ f__law_is_way) (dCons (dVar 2) dNil))) ρ M := rfl
def m__law_fits (Φ : Nat → Fn) : FS := (sSeq (sIf (dBo (dOp2 eqD (dVarB 0) (dC (.str "name")))) (sSeq (sRet (dCall 1 (Φ f__law_is_name) (dCons (dVar 1) dNil))) sNil) sNil) (sSeq (sIf (dBo (dOp2 eqD (dVarB 0) (dC (.str "way")))) (sSeq (sRet (dCall 1 (Φ f__law_is_way) (dCons (dVar 1) dNil))) sNil) sNil) (sSeq (sIf (dBo (dOp2 eqD (dVarB 0) (dC (.str "binder")))) (sSeq (sRet (dCall 1 (Φ f__law_is_binder) (dCons (dVar 1) dNil))) sNil) sNil) (sSeq (sIf (dBo (dOp2 eqD (dVarB 0) (dC (.str "count")))) (sSeq (sRet (dCall 1 (Φ f__law_are_counts) (dCons (dTup (dCons (dVar 1) dNil)) dNil))) sNil) sNil) (sSeq (sIf (dBo (dOp2 eqD (dVarB 0) (dC (.str "order")))) (sSeq (sRet (dCall 1 (Φ f__law_are_counts) (dCons (dVar 1) dNil))) sNil) sNil) (sSeq (sRet (dAndV (dOp1 (isiD "tuple") (dVarB 1)) (dAndV (dOp2 neE (dVarB 1) (dTup dNil)) (dPr allD (dCons (dEF (dLc (dIt (dVar 1)) (bName 2) dYes (el__law_fits_0 Φ) [2])) dNil))))) sNil))))))
def m__law_kinds (Φ : Nat → Fn) : FS := (sSeq (sSet 1 (dFE (dDisp ["free", "equal", "gather", "carve"] [(dC (.str "binder name")), (dC (.str "way way")), (dC (.str "way name")), (dC (.str "way name count name"))]))) (sSeq (sExpr (dFE (dUpd (dVarB 1) (dDisp ["melt", "fold", "folds", "tidy"] [(dC (.str "name name")), (dC (.str "way name name")), (dC (.str "name name")), (dC (.str "name name"))])))) (sSeq (sExpr (dFE (dUpd (dVarB 1) (dDisp ["bring", "order", "widen"] [(dC (.str "name name name")), (dC (.str "name name order")), (dC (.str "name name name name ways"))])))) (sSeq (sRet (dIf (dBo (dOp2 dinD (dVarB 0) (dVarB 1))) (dMeth "str" splitD (dEF (dOp2 dgetD (dVarB 1) (dVarB 0))) (dCons (dC (.str " ")) dNil)) (dFE (dC .non)))) sNil))))
def el__law_is_form_0 (Φ : Nat → Fn) : FD := (dEF (dCall 2 (Φ f__law_fits) (dCons (dVar 2) (dCons (dVar 3) dNil))))
theorem el__law_is_form_0_eq (Φ : Nat → Fn) (ρ : EnvD) (M : Store) : el__law_is_form_0 Φ ρ M = (dEF (dCall 2 (Φ f__law_fits) (dCons (dVar 2) (dCons (dVar 3) dNil)))) ρ M := rfl
def m__law_is_form (Φ : Nat → Fn) : FS := (sSeq (sIf (dOr (dNot (dTru (dEF (dOp1 (isiD "tuple") (dVarB 0))))) (dOr (dBo (dOp2 eqE (dVarB 0) (dTup dNil))) (dOr (dNot (dTru (dEF (dOp1 (isiD "str") (dEF (dOp2 idxD (dVarB 0) (dC (.int 0)))))))) (dBo (dOp2 isD (dEF (dCall 1 (Φ f__law_kinds) (dCons (dEF (dOp2 idxD (dVarB 0) (dC (.int 0)))) dNil))) (dC .non)))))) (sSeq (sRet (dFE (dC (.bl false)))) sNil) sNil) (sSeq (sSet 1 (dFE (dEF (dCall 1 (Φ f__law_kinds) (dCons (dEF (dOp2 idxD (dVarB 0) (dC (.int 0)))) dNil))))) (sSeq (sRet (dAndV (dOp2 eqD (dEF (dPr lenD (dCons (dVarB 0) dNil))) (dEF (dOp2 addD (dEF (dPr lenD (dCons (dVarB 1) dNil))) (dC (.int 1))))) (dPr allD (dCons (dEF (dLc (dZipG (dCons (dVar 1) (dCons (dEF (dSl slD (dVarB 0) (dSo (dC (.int 1))) dNo)) dNil))) (bTup [2, 3]) dYes (el__law_is_form_0 Φ) [2, 3])) dNil)))) sNil)))
def el__law_part_0 (Φ : Nat → Fn) : FD := (dEF (dOp2 modD (dEF (dOp2 fdivD (dVarB 2) (dEF (dOp2 addD (dC (.int 256)) (dEF (dOp2 mulD (dC (.int 7)) (dVarB 4))))))) (dC (.int 4))))
theorem el__law_part_0_eq (Φ : Nat → Fn) (ρ : EnvD) (M : Store) : el__law_part_0 Φ ρ M = (dEF (dOp2 modD (dEF (dOp2 fdivD (dVarB 2) (dEF (dOp2 addD (dC (.int 256)) (dEF (dOp2 mulD (dC (.int 7)) (dVarB 4))))))) (dC (.int 4)))) ρ M := rfl
def el__law_part_1 (Φ : Nat → Fn) : FD := (dEF (dOp2 modD (dEF (dOp2 addD (dVarB 2) (dEF (dOp2 mulD (dC (.int 3)) (dVarB 4))))) (dC (.int 5))))
theorem el__law_part_1_eq (Φ : Nat → Fn) (ρ : EnvD) (M : Store) : el__law_part_1 Φ ρ M = (dEF (dOp2 modD (dEF (dOp2 addD (dVarB 2) (dEF (dOp2 mulD (dC (.int 3)) (dVarB 4))))) (dC (.int 5)))) ρ M := rfl
def el__law_part_2 (Φ : Nat → Fn) : FD := (dEF (dOp2 addD (dEF (dSl slD (dVarB 3) dNo (dSo (dC (.int 2))))) (dTup (dCons (dVar 4) dNil))))
theorem el__law_part_2_eq (Φ : Nat → Fn) (ρ : EnvD) (M : Store) : el__law_part_2 Φ ρ M = (dEF (dOp2 addD (dEF (dSl slD (dVarB 3) dNo (dSo (dC (.int 2))))) (dTup (dCons (dVar 4) dNil)))) ρ M := rfl
def m__law_part (Φ : Nat → Fn) : FS := (sSeq (sSet 3 (dFE (dEF (dOp2 addD (dTup (dCons (dEF (dOp2 idxD (dVarB 1) (dEF (dOp2 modD (dVarB 2) (dC (.int 16)))))) (dCons (dEF (dOp2 idxD (dVarB 1) (dEF (dOp2 modD (dEF (dOp2 fdivD (dVarB 2) (dC (.int 16)))) (dC (.int 16)))))) dNil))) (dEF (dPr tupleD (dCons (dEF (dLc (dRng1 (dCons (dEF (dOp2 modD (dEF (dOp2 fdivD (dVarB 2) (dC (.int 256)))) (dC (.int 5)))) dNil)) (bName 4) dYes (el__law_part_0 Φ) [4])) dNil))))))) (sSeq (sIf (dBo (dOp2 eqD (dVarB 0) (dC (.str "binder")))) (sSeq (sRet (dOp2 idxD (dEF (dLst (dCons (dEF (dOp2 addD (dEF (dOp2 addD (dTup (dCons (dC (.str "param")) dNil)) (dEF (dSl slD (dVarB 3) dNo (dSo (dC (.int 2))))))) (dTup (dCons (dEF (dOp2 modD (dVarB 2) (dC (.int 6)))) dNil)))) (dCons (dTup (dCons (dC (.str "let")) (dCons (dVar 3) dNil))) (dCons (dTup (dCons (dC (.str "count")) (dCons (dVar 3) dNil))) (dCons (dTup (dCons (dC (.str "sum")) (dCons (dVar 3) dNil))) dNil)))))) (dEF (dOp2 modD (dEF (dOp2 fdivD (dVarB 2) (dC (.int 5)))) (dC (.int 4)))))) sNil) sNil) (sSeq (sIf (dBo (dOp2 eqD (dVarB 0) (dC (.str "order")))) (sSeq (sRet (dPr tupleD (dCons (dEF (dLc (dRng1 (dCons (dEF (dOp2 modD (dEF (dOp2 fdivD (dVarB 2) (dC (.int 256)))) (dC (.int 6)))) dNil)) (bName 4) dYes (el__law_part_1 Φ) [4])) dNil))) sNil) sNil) (sSeq (sIf (dBo (dOp2 eqD (dVarB 0) (dC (.str "ways")))) (sSeq (sRet (dPr tupleD (dCons (dEF (dLc (dRng1 (dCons (dEF (dOp2 addD (dC (.int 1)) (dEF (dOp2 modD (dEF (dOp2 fdivD (dVarB 2) (dC (.int 256)))) (dC (.int 4)))))) dNil)) (bName 4) dYes (el__law_part_2 Φ) [4])) dNil))) sNil) sNil) (sSeq (sRet (dOp2 dgetD (dDisp ["name", "way", "count"] [(dEF (dOp2 idxD (dVarB 1) (dEF (dOp2 modD (dEF (dOp2 fdivD (dVarB 2) (dC (.int 3)))) (dC (.int 16)))))), (dVar 3), (dEF (dOp2 modD (dEF (dOp2 fdivD (dVarB 2) (dC (.int 3)))) (dC (.int 40))))]) (dVarB 0))) sNil)))))
def m__law_odd (Φ : Nat → Fn) : FS := (sSeq (sAsg (bLst [3, 4]) (dEF (dSl slD (dVarB 0) dNo (dSo (dC (.int 2)))))) (sSeq (sSet 2 (dLst (dCons (dC .non) (dCons (dC (.int 5)) (dCons (dC (.bl true)) (dCons (dEF (dOp1 negD (dC (.int 1)))) (dCons (dC (.str "")) (dCons (dC (.str "let")) (dCons (dC (.str "Aa")) (dCons (dC (.str "ninesigns")) (dCons (dC (.str "a1")) (dCons (dVar 3) (dCons (dTup (dCons (dVar 3) dNil)) (dCons (dTup (dCons (dVar 3) (dCons (dVar 4) dNil))) (dCons (dTup (dCons (dVar 3) (dCons (dVar 4) (dCons (dEF (dOp1 negD (dC (.int 1)))) dNil)))) (dCons (dTup (dCons (dVar 3) (dCons (dVar 4) (dCons (dC (.bl true)) dNil)))) (dCons (dTup (dCons (dVar 3) (dCons (dC (.str "do")) dNil))) dNil))))))))))))))))) (sSeq (sSet 2 (dOp2 addD (dVarB 2) (dEF (dLst (dCons (dEF (dLst (dCons (dVar 3) (dCons (dVar 4) dNil)))) (dCons (dTup (dCons (dVar 3) (dCons (dVar 4) (dCons (dC (.int 0)) (dCons (dC (.int 1)) dNil))))) (dCons (dTup (dCons (dVar 3) (dCons (dVar 4) (dCons (dC (.str "0")) dNil)))) (dCons (dTup (dCons (dTup (dCons (dVar 3) (dCons (dVar 4) dNil))) dNil)) (dCons (dTup dNil) (dCons dNewK (dCons (dTup (dCons (dC (.str "let")) (dCons (dTup (dCons (dVar 3) (dCons (dVar 4) dNil))) dNil))) (dCons (dTup (dCons (dC (.str "param")) (dCons (dVar 3) (dCons (dVar 4) (dCons (dC (.int 0)) dNil))))) (dCons (dEF (dOp2 powD (dC (.int 10)) (dC (.int 20)))) dNil))))))))))))) (sSeq (sSet 2 (dOp2 addD (dVarB 2) (dEF (dLst (dCons (dTup (dCons (dC (.str "param")) (dCons (dVar 3) (dCons (dVar 4) (dCons (dC (.bl true)) dNil))))) (dCons (dTup (dCons (dC (.str "param")) (dCons (dVar 3) (dCons (dVar 4) dNil)))) (dCons (dTup (dCons (dC (.str "use")) (dCons (dTup (dCons (dVar 3) (dCons (dVar 4) dNil))) dNil))) (dCons (dTup (dCons (dC (.str "let")) (dCons (dVar 3) dNil))) (dCons (dTup (dCons (dC (.str "sum")) (dCons (dTup (dCons (dVar 3) dNil)) dNil))) (dCons (dTup (dCons (dC (.int 0)) (dCons (dC (.int 1)) dNil))) dNil)))))))))) (sSeq (sApp 2 (dTup (dCons (dC (.int 0)) (dCons (dC (.bl true)) dNil)))) (sSeq (sSet 2 (dOp2 addD (dVarB 2) (dEF (dLst (dCons (dEF (dLst (dCons (dC (.int 0)) (dCons (dC (.int 1)) dNil)))) (dCons (dTup (dCons (dC (.int 0)) (dCons (dEF (dOp1 negD (dC (.int 1)))) dNil))) (dCons (dTup (dCons (dTup (dCons (dVar 3) (dCons (dVar 4) dNil))) (dCons (dTup (dCons (dVar 3) dNil)) dNil))) (dCons (dEF (dLst (dCons (dTup (dCons (dVar 3) (dCons (dVar 4) dNil))) dNil))) (dCons (dTup (dCons (dVar 3) (dCons (dVar 4) (dCons (dC .non) dNil)))) (dCons (dC (.str "a b")) (dCons (dTup (dCons (dC (.str "let")) (dCons (dTup (dCons (dVar 3) (dCons (dVar 4) dNil))) (dCons (dC (.int 0)) dNil)))) dNil))))))))))) (sSeq (sRet (dOp2 idxD (dVarB 2) (dEF (dOp2 modD (dVarB 1) (dC (.int 38)))))) sNil)))))))
def m__law_bent (Φ : Nat → Fn) : FS := (sSeq (sSet 3 (dFE (dEF (dOp2 modD (dVarB 2) (dC (.int 9)))))) (sSeq (sSet 4 (dFE (dEF (dOp2 modD (dEF (dOp2 fdivD (dVarB 2) (dC (.int 9)))) (dEF (dPr lenD (dCons (dVarB 0) dNil))))))) (sSeq (sIf (dBo (dOp2 (cmpD fun i j => decide (i < j)) (dVarB 3) (dC (.int 5)))) (sSeq (sRet (dOp2 addD (dEF (dOp2 addD (dEF (dSl slD (dVarB 0) dNo (dSo (dVarB 4)))) (dTup (dCons (dEF (dCall 2 (Φ f__law_odd) (dCons (dVar 1) (dCons (dEF (dOp2 fdivD (dVarB 2) (dC (.int 81)))) dNil)))) dNil)))) (dEF (dSl slD (dVarB 0) (dSo (dEF (dOp2 addD (dVarB 4) (dC (.int 1))))) dNo)))) sNil) sNil) (sSeq (sIf (dBo (dOp2 eqD (dVarB 3) (dC (.int 5)))) (sSeq (sRet (dOp2 addD (dEF (dSl slD (dVarB 0) dNo (dSo (dVarB 4)))) (dEF (dSl slD (dVarB 0) (dSo (dEF (dOp2 addD (dVarB 4) (dC (.int 1))))) dNo)))) sNil) sNil) (sSeq (sIf (dBo (dOp2 eqD (dVarB 3) (dC (.int 6)))) (sSeq (sRet (dOp2 addD (dEF (dOp2 addD (dEF (dSl slD (dVarB 0) dNo (dSo (dVarB 4)))) (dTup (dCons (dEF (dCall 2 (Φ f__law_odd) (dCons (dVar 1) (dCons (dEF (dOp2 fdivD (dVarB 2) (dC (.int 81)))) dNil)))) dNil)))) (dEF (dSl slD (dVarB 0) (dSo (dVarB 4)) dNo)))) sNil) sNil) (sSeq (sRet (dOp2 idxD (dEF (dLst (dCons (dEF (dPr listD (dCons (dVarB 0) dNil))) (dCons (dEF (dOp2 addD (dTup (dCons (dEF (dOp2 idxD (dEF (dLst (dCons (dC (.str "Free")) (dCons (dC (.str "turn")) (dCons (dC (.str "in")) (dCons (dC (.str "open")) (dCons (dC (.str "")) dNil))))))) (dEF (dOp2 modD (dEF (dOp2 fdivD (dVarB 2) (dC (.int 81)))) (dC (.int 5)))))) dNil)) (dEF (dSl slD (dVarB 0) (dSo (dC (.int 1))) dNo)))) dNil)))) (dEF (dOp2 subD (dVarB 3) (dC (.int 7)))))) sNil))))))
def m__law_refused (Φ : Nat → Fn) : FS := (sSeq (sSet 2 (dFE (dC .non))) (sSeq (sHold (csOf [2]) (sExpr (dCall 2 (Φ f_turned) (dCons (dVar 0) (dCons (dVar 1) dNil)))) 4 2) (sSeq (sSet 3 (dFE (dEF (dPr (isXD exL) (dCons (dVarB 2) (dCons (dTup (dCons (dC (.fn "BadPaper")) (dCons (dC (.fn "BadProgram")) (dCons (dC (.fn "BadText")) (dCons (dC (.fn "Hangs")) (dCons (dC (.fn "NoStep")) (dCons (dC (.fn "Shade")) (dCons (dC (.fn "TooMany")) dNil)))))))) dNil)))))) (sSeq (sRet (dAndV (dPr (isXD exL) (dCons (dVarB 2) (dCons (dC (.fn "NoTurn")) dNil))) (dAndV (dOp1 (isVE exL) (dVarB 2)) (dNotV (dFE (dVar 3)))))) sNil))))
def lp__law_far_right_0 (Φ : Nat → Fn) : FS := (sSeq (sSet 0 (dFE (dTup (dCons (dVar 0) dNil)))) sNil)
theorem lp__law_far_right_0_eq (Φ : Nat → Fn) (ρ : EnvD) (M : Store) : lp__law_far_right_0 Φ ρ M = (sSeq (sSet 0 (dFE (dTup (dCons (dVar 0) dNil)))) sNil) ρ M := rfl
def el__law_far_right_0 (Φ : Nat → Fn) : FD := (dC (.int 1))
theorem el__law_far_right_0_eq (Φ : Nat → Fn) (ρ : EnvD) (M : Store) : el__law_far_right_0 Φ ρ M = (dC (.int 1)) ρ M := rfl
def cd__law_far_right_0 (Φ : Nat → Fn) : FB := (dOr (dBo (dOp2 isntD (dEF (dCall 1 (Φ f_is_turning) (dCons (dVar 4) dNil))) (dC (.bl false)))) (dNot (dTru (dEF (dCall 2 (Φ f__law_refused) (dCons (dVar 2) (dCons (dVar 4) dNil)))))))
theorem cd__law_far_right_0_eq (Φ : Nat → Fn) (ρ : EnvD) (M : Store) : cd__law_far_right_0 Φ ρ M = (dOr (dBo (dOp2 isntD (dEF (dCall 1 (Φ f_is_turning) (dCons (dVar 4) dNil))) (dC (.bl false)))) (dNot (dTru (dEF (dCall 2 (Φ f__law_refused) (dCons (dVar 2) (dCons (dVar 4) dNil))))))) ρ M := rfl
def m__law_far_right (Φ : Nat → Fn) : FS := (sSeq (sSet 0 (dFE (dTup dNil))) (sSeq (sFor (dRng1 (dCons (dC (.int 380)) dNil)) (bName 1) (lp__law_far_right_0 Φ)) (sSeq (sSet 2 (dFE (dTup (dCons (dTup (dCons (dC (.str "m")) (dCons (dTup (dCons (dTup (dCons (dC (.str "f")) (dCons (dTup (dCons (dC (.str "x")) dNil)) (dCons (dTup (dCons (dC (.str "use")) (dCons (dC (.str "x")) dNil))) dNil)))) dNil)) dNil))) dNil)))) (sSeq (sSet 3 (dLst (dCons (dVar 0) (dCons (dTup (dCons (dC (.str "equal")) (dCons (dVar 0) (dCons (dVar 0) dNil)))) (dCons (dTup (dCons (dC (.str "free")) (dCons (dTup (dCons (dC (.str "let")) (dCons (dVar 0) dNil))) (dCons (dC (.str "y")) dNil)))) (dCons (dTup (dCons (dC (.str "order")) (dCons (dC (.str "m")) (dCons (dC (.str "f")) (dCons (dVar 0) dNil))))) dNil)))))) (sSeq (sApp 3 (dTup (dCons (dC (.str "widen")) (dCons (dC (.str "m")) (dCons (dC (.str "f")) (dCons (dC (.str "g")) (dCons (dC (.str "y")) (dCons (dVar 0) dNil)))))))) (sSeq (sFz 3 (sRet (dOp2 eqD (dEF (dLc (dIt (dVar 3)) (bName 4) (cd__law_far_right_0 Φ) (el__law_far_right_0 Φ) [4])) (dEF (dLst dNil))))) sNil))))))
def el_law_0 (Φ : Nat → Fn) : FD := (dEF (dCall 3 (Φ f__law_part) (dCons (dVar 14) (dCons (dVar 5) (dCons (dEF (dOp2 fdivD (dVarB 4) (dEF (dOp2 addD (dEF (dOp2 mulD (dC (.int 3)) (dVarB 13))) (dC (.int 5)))))) dNil)))))
theorem el_law_0_eq (Φ : Nat → Fn) (ρ : EnvD) (M : Store) : el_law_0 Φ ρ M = (dEF (dCall 3 (Φ f__law_part) (dCons (dVar 14) (dCons (dVar 5) (dCons (dEF (dOp2 fdivD (dVarB 4) (dEF (dOp2 addD (dEF (dOp2 mulD (dC (.int 3)) (dVarB 13))) (dC (.int 5)))))) dNil))))) ρ M := rfl
def lp_law_0 (Φ : Nat → Fn) : FS := (sSeq (sSet 12 (dFE (dEF (dCall 3 (Φ f__law_bent) (dCons (dVar 9) (dCons (dVar 5) (dCons (dEF (dCall 2 (Φ f__law_cell) (dCons (dVar 0) (dCons (dVar 1) dNil)))) dNil))))))) (sSeq (sIf (dAnd (dTru (dEF (dOp1 (isiD "tuple") (dVarB 12)))) (dAnd (dBo (dOp2 eqE (dEF (dSl slD (dVarB 12) dNo (dSo (dC (.int 1))))) (dTup (dCons (dC (.str "widen")) dNil)))) (dBo (dOp2 eqE (dEF (dSl slD (dVarB 12) (dSo (dC (.int 5))) dNo)) (dTup (dCons (dTup dNil) dNil)))))) (sSeq sCont sNil) sNil) (sSeq (sIf (dBo (dOp2 neD (dEF (dPr reprD (dCons (dEF (dCall 1 (Φ f_is_turning) (dCons (dVar 12) dNil))) dNil))) (dEF (dPr reprD (dCons (dEF (dCall 1 (Φ f__law_is_form) (dCons (dVar 12) dNil))) dNil))))) (sSeq (sRet (dFE (dC (.bl false)))) sNil) sNil) (sSeq (sIf (dAnd (dNot (dTru (dEF (dCall 1 (Φ f__law_is_form) (dCons (dVar 12) dNil))))) (dNot (dTru (dEF (dCall 2 (Φ f__law_refused) (dCons (dVar 6) (dCons (dVar 12) dNil))))))) (sSeq (sRet (dFE (dC (.bl false)))) sNil) sNil) sNil))))
theorem lp_law_0_eq (Φ : Nat → Fn) (ρ : EnvD) (M : Store) : lp_law_0 Φ ρ M = (sSeq (sSet 12 (dFE (dEF (dCall 3 (Φ f__law_bent) (dCons (dVar 9) (dCons (dVar 5) (dCons (dEF (dCall 2 (Φ f__law_cell) (dCons (dVar 0) (dCons (dVar 1) dNil)))) dNil))))))) (sSeq (sIf (dAnd (dTru (dEF (dOp1 (isiD "tuple") (dVarB 12)))) (dAnd (dBo (dOp2 eqE (dEF (dSl slD (dVarB 12) dNo (dSo (dC (.int 1))))) (dTup (dCons (dC (.str "widen")) dNil)))) (dBo (dOp2 eqE (dEF (dSl slD (dVarB 12) (dSo (dC (.int 5))) dNo)) (dTup (dCons (dTup dNil) dNil)))))) (sSeq sCont sNil) sNil) (sSeq (sIf (dBo (dOp2 neD (dEF (dPr reprD (dCons (dEF (dCall 1 (Φ f_is_turning) (dCons (dVar 12) dNil))) dNil))) (dEF (dPr reprD (dCons (dEF (dCall 1 (Φ f__law_is_form) (dCons (dVar 12) dNil))) dNil))))) (sSeq (sRet (dFE (dC (.bl false)))) sNil) sNil) (sSeq (sIf (dAnd (dNot (dTru (dEF (dCall 1 (Φ f__law_is_form) (dCons (dVar 12) dNil))))) (dNot (dTru (dEF (dCall 2 (Φ f__law_refused) (dCons (dVar 6) (dCons (dVar 12) dNil))))))) (sSeq (sRet (dFE (dC (.bl false)))) sNil) sNil) sNil)))) ρ M := rfl
def lp_law_1 (Φ : Nat → Fn) : FS := (sSeq (sSet 4 (dFE (dEF (dCall 2 (Φ f__law_cell) (dCons (dVar 0) (dCons (dVar 1) dNil)))))) (sSeq (sSet 5 (dFE (dEF (dCall 1 (Φ f__law_names) (dCons (dVar 4) dNil))))) (sSeq (sSet 6 (dFE (dTup (dCons (dTup (dCons (dEF (dOp2 idxD (dVarB 5) (dC (.int 0)))) (dCons (dTup (dCons (dTup (dCons (dEF (dOp2 idxD (dVarB 5) (dC (.int 1)))) (dCons (dTup (dCons (dEF (dOp2 idxD (dVarB 5) (dC (.int 2)))) dNil)) (dCons (dTup (dCons (dC (.str "use")) (dCons (dEF (dOp2 idxD (dVarB 5) (dC (.int 2)))) dNil))) dNil)))) dNil)) dNil))) dNil)))) (sSeq (sSet 7 (dFE (dEF (dOp2 idxD (dVarB 2) (dEF (dOp2 modD (dVarB 3) (dC (.int 11)))))))) (sSeq (sSet 8 (dLc (dEnumA (dCons (dEF (dCall 1 (Φ f__law_kinds) (dCons (dVar 7) dNil))) dNil)) (bTup [13, 14]) dYes (el_law_0 Φ) [13, 14])) (sSeq (sSet 9 (dFE (dEF (dOp2 addD (dTup (dCons (dVar 7) dNil)) (dEF (dPr tupleD (dCons (dVarB 8) dNil))))))) (sSeq (sIf (dBo (dOp2 isntD (dEF (dCall 1 (Φ f_is_turning) (dCons (dVar 9) dNil))) (dC (.bl true)))) (sSeq (sRet (dFE (dC (.bl false)))) sNil) sNil) (sSeq (sFor (dRng1 (dCons (dC (.int 4)) dNil)) (bName 10) (lp_law_0 Φ)) (sSeq (sSet 11 (dFE (dEF (dCall 2 (Φ f__law_odd) (dCons (dVar 5) (dCons (dEF (dOp2 fdivD (dVarB 4) (dC (.int 7)))) dNil)))))) (sSeq (sIf (dAnd (dNot (dTru (dEF (dCall 1 (Φ f__law_is_form) (dCons (dVar 11) dNil))))) (dOr (dBo (dOp2 isntD (dEF (dCall 1 (Φ f_is_turning) (dCons (dVar 11) dNil))) (dC (.bl false)))) (dNot (dTru (dEF (dCall 2 (Φ f__law_refused) (dCons (dVar 6) (dCons (dVar 11) dNil)))))))) (sSeq (sRet (dFE (dC (.bl false)))) sNil) sNil) sNil))))))))))
theorem lp_law_1_eq (Φ : Nat → Fn) (ρ : EnvD) (M : Store) : lp_law_1 Φ ρ M = (sSeq (sSet 4 (dFE (dEF (dCall 2 (Φ f__law_cell) (dCons (dVar 0) (dCons (dVar 1) dNil)))))) (sSeq (sSet 5 (dFE (dEF (dCall 1 (Φ f__law_names) (dCons (dVar 4) dNil))))) (sSeq (sSet 6 (dFE (dTup (dCons (dTup (dCons (dEF (dOp2 idxD (dVarB 5) (dC (.int 0)))) (dCons (dTup (dCons (dTup (dCons (dEF (dOp2 idxD (dVarB 5) (dC (.int 1)))) (dCons (dTup (dCons (dEF (dOp2 idxD (dVarB 5) (dC (.int 2)))) dNil)) (dCons (dTup (dCons (dC (.str "use")) (dCons (dEF (dOp2 idxD (dVarB 5) (dC (.int 2)))) dNil))) dNil)))) dNil)) dNil))) dNil)))) (sSeq (sSet 7 (dFE (dEF (dOp2 idxD (dVarB 2) (dEF (dOp2 modD (dVarB 3) (dC (.int 11)))))))) (sSeq (sSet 8 (dLc (dEnumA (dCons (dEF (dCall 1 (Φ f__law_kinds) (dCons (dVar 7) dNil))) dNil)) (bTup [13, 14]) dYes (el_law_0 Φ) [13, 14])) (sSeq (sSet 9 (dFE (dEF (dOp2 addD (dTup (dCons (dVar 7) dNil)) (dEF (dPr tupleD (dCons (dVarB 8) dNil))))))) (sSeq (sIf (dBo (dOp2 isntD (dEF (dCall 1 (Φ f_is_turning) (dCons (dVar 9) dNil))) (dC (.bl true)))) (sSeq (sRet (dFE (dC (.bl false)))) sNil) sNil) (sSeq (sFor (dRng1 (dCons (dC (.int 4)) dNil)) (bName 10) (lp_law_0 Φ)) (sSeq (sSet 11 (dFE (dEF (dCall 2 (Φ f__law_odd) (dCons (dVar 5) (dCons (dEF (dOp2 fdivD (dVarB 4) (dC (.int 7)))) dNil)))))) (sSeq (sIf (dAnd (dNot (dTru (dEF (dCall 1 (Φ f__law_is_form) (dCons (dVar 11) dNil))))) (dOr (dBo (dOp2 isntD (dEF (dCall 1 (Φ f_is_turning) (dCons (dVar 11) dNil))) (dC (.bl false)))) (dNot (dTru (dEF (dCall 2 (Φ f__law_refused) (dCons (dVar 6) (dCons (dVar 11) dNil)))))))) (sSeq (sRet (dFE (dC (.bl false)))) sNil) sNil) sNil)))))))))) ρ M := rfl
def m_law (Φ : Nat → Fn) : FS := (sSeq (sSet 1 (dFE (dEF (dRef (dLst (dCons (dC (.int 0)) dNil)))))) (sSeq (sSet 2 (dFE (dEF (dLst (dCons (dC (.str "free")) (dCons (dC (.str "equal")) (dCons (dC (.str "gather")) (dCons (dC (.str "carve")) (dCons (dC (.str "melt")) (dCons (dC (.str "fold")) (dCons (dC (.str "folds")) (dCons (dC (.str "tidy")) (dCons (dC (.str "bring")) (dCons (dC (.str "order")) (dCons (dC (.str "widen")) dNil))))))))))))))) (sSeq (sFor (dRng1 (dCons (dEF (dOp2 addD (dC (.int 11)) (dEF (dPr min2D (dCons (dC (.int 50)) (dCons (dEF (dPr lenD (dCons (dVarB 0) dNil))) dNil)))))) dNil)) (bName 3) (lp_law_1 Φ)) (sSeq (sRet (dCall 0 (Φ f__law_far_right) dNil)) sNil))))
def lv : Nat → Nat
  | 0 => 2
  | k + 1 => lv k + 1
theorem lv_two : ∀ k, 2 ≤ lv k
  | 0 => by decide
  | k + 1 => by show 2 ≤ lv k + 1; have := lv_two k; omega
/-- what the defs do, k calls within one another at most -/
def semS (Φ : Nat → Fn) (i : Nat) : Fn := match i with
    | 0 => runF 2 (m_is_name Φ)
    | 1 => runF 1 (m_is_count Φ)
    | 2 => runF 2 (m_are_counts Φ)
    | 3 => runF 2 (m_is_way Φ)
    | 4 => runF 1 (m_is_binder Φ)
    | 5 => runF 2 (m_are_ways Φ)
    | 6 => runF 2 (m_fits Φ)
    | 7 => runF 4 (m_has_form Φ)
    | 8 => runF 1 (m_need_goings Φ)
    | 9 => runF 1 (m_is_turning Φ)
    | 10 => runF 6 (m_turned Φ)
    | 11 => runF 6 (m__law_cell Φ)
    | 12 => runF 5 (m__law_names Φ)
    | 13 => runF 3 (m__law_is_name Φ)
    | 14 => runF 2 (m__law_are_counts Φ)
    | 15 => runF 1 (m__law_is_way Φ)
    | 16 => runF 1 (m__law_is_binder Φ)
    | 17 => runF 3 (m__law_fits Φ)
    | 18 => runF 2 (m__law_kinds Φ)
    | 19 => runF 4 (m__law_is_form Φ)
    | 20 => runF 5 (m__law_part Φ)
    | 21 => runF 5 (m__law_odd Φ)
    | 22 => runF 5 (m__law_bent Φ)
    | 23 => runF 5 (m__law_refused Φ)
    | 24 => runF 5 (m__law_far_right Φ)
    | 25 => runF 15 (m_law Φ)
    | _ => fun _ _ => .bad
def sem : Nat → Nat → Fn
  | 0 => fun _ _ _ => .bad
  | k + 1 => semS (sem k)
theorem e_is_name (k : Nat) : sem (k + 1) f_is_name = runF 2 (m_is_name (sem k)) := rfl
theorem e_is_count (k : Nat) : sem (k + 1) f_is_count = runF 1 (m_is_count (sem k)) := rfl
theorem e_are_counts (k : Nat) : sem (k + 1) f_are_counts = runF 2 (m_are_counts (sem k)) := rfl
theorem e_is_way (k : Nat) : sem (k + 1) f_is_way = runF 2 (m_is_way (sem k)) := rfl
theorem e_is_binder (k : Nat) : sem (k + 1) f_is_binder = runF 1 (m_is_binder (sem k)) := rfl
theorem e_are_ways (k : Nat) : sem (k + 1) f_are_ways = runF 2 (m_are_ways (sem k)) := rfl
theorem e_fits (k : Nat) : sem (k + 1) f_fits = runF 2 (m_fits (sem k)) := rfl
theorem e_has_form (k : Nat) : sem (k + 1) f_has_form = runF 4 (m_has_form (sem k)) := rfl
theorem e_need_goings (k : Nat) : sem (k + 1) f_need_goings = runF 1 (m_need_goings (sem k)) := rfl
theorem e_is_turning (k : Nat) : sem (k + 1) f_is_turning = runF 1 (m_is_turning (sem k)) := rfl
theorem e_turned (k : Nat) : sem (k + 1) f_turned = runF 6 (m_turned (sem k)) := rfl
theorem e__law_cell (k : Nat) : sem (k + 1) f__law_cell = runF 6 (m__law_cell (sem k)) := rfl
theorem e__law_names (k : Nat) : sem (k + 1) f__law_names = runF 5 (m__law_names (sem k)) := rfl
theorem e__law_is_name (k : Nat) : sem (k + 1) f__law_is_name = runF 3 (m__law_is_name (sem k)) := rfl
theorem e__law_are_counts (k : Nat) : sem (k + 1) f__law_are_counts = runF 2 (m__law_are_counts (sem k)) := rfl
theorem e__law_is_way (k : Nat) : sem (k + 1) f__law_is_way = runF 1 (m__law_is_way (sem k)) := rfl
theorem e__law_is_binder (k : Nat) : sem (k + 1) f__law_is_binder = runF 1 (m__law_is_binder (sem k)) := rfl
theorem e__law_fits (k : Nat) : sem (k + 1) f__law_fits = runF 3 (m__law_fits (sem k)) := rfl
theorem e__law_kinds (k : Nat) : sem (k + 1) f__law_kinds = runF 2 (m__law_kinds (sem k)) := rfl
theorem e__law_is_form (k : Nat) : sem (k + 1) f__law_is_form = runF 4 (m__law_is_form (sem k)) := rfl
theorem e__law_part (k : Nat) : sem (k + 1) f__law_part = runF 5 (m__law_part (sem k)) := rfl
theorem e__law_odd (k : Nat) : sem (k + 1) f__law_odd = runF 5 (m__law_odd (sem k)) := rfl
theorem e__law_bent (k : Nat) : sem (k + 1) f__law_bent = runF 5 (m__law_bent (sem k)) := rfl
theorem e__law_refused (k : Nat) : sem (k + 1) f__law_refused = runF 5 (m__law_refused (sem k)) := rfl
theorem e__law_far_right (k : Nat) : sem (k + 1) f__law_far_right = runF 5 (m__law_far_right (sem k)) := rfl
theorem e_law (k : Nat) : sem (k + 1) f_law = runF 15 (m_law (sem k)) := rfl
/-- what the top has left -/
structure Top (w : World) (K : PySem.W.Frag) (mg : Str → Option Value) where
  a_is_name : Addr
  d_is_name : FuncData
  F_is_name : Fun K "is_name" "is_name" s_is_name a_is_name d_is_name
  b_is_name : Binds K d_is_name ["thing"] []
  m_is_name : mg "is_name" = some (.ref a_is_name)
  a_is_count : Addr
  d_is_count : FuncData
  F_is_count : Fun K "is_count" "is_count" s_is_count a_is_count d_is_count
  b_is_count : Binds K d_is_count ["thing"] []
  m_is_count : mg "is_count" = some (.ref a_is_count)
  a_are_counts : Addr
  d_are_counts : FuncData
  F_are_counts : Fun K "are_counts" "are_counts" s_are_counts a_are_counts d_are_counts
  b_are_counts : Binds K d_are_counts ["thing"] []
  m_are_counts : mg "are_counts" = some (.ref a_are_counts)
  a_is_way : Addr
  d_is_way : FuncData
  F_is_way : Fun K "is_way" "is_way" s_is_way a_is_way d_is_way
  b_is_way : Binds K d_is_way ["thing"] []
  m_is_way : mg "is_way" = some (.ref a_is_way)
  a_is_binder : Addr
  d_is_binder : FuncData
  F_is_binder : Fun K "is_binder" "is_binder" s_is_binder a_is_binder d_is_binder
  b_is_binder : Binds K d_is_binder ["thing"] []
  m_is_binder : mg "is_binder" = some (.ref a_is_binder)
  a_are_ways : Addr
  d_are_ways : FuncData
  F_are_ways : Fun K "are_ways" "are_ways" s_are_ways a_are_ways d_are_ways
  b_are_ways : Binds K d_are_ways ["thing"] []
  m_are_ways : mg "are_ways" = some (.ref a_are_ways)
  a_fits : Addr
  d_fits : FuncData
  F_fits : Fun K "fits" "fits" s_fits a_fits d_fits
  b_fits : Binds K d_fits ["sign", "thing"] []
  m_fits : mg "fits" = some (.ref a_fits)
  a_has_form : Addr
  d_has_form : FuncData
  F_has_form : Fun K "has_form" "has_form" s_has_form a_has_form d_has_form
  b_has_form : Binds K d_has_form ["thing"] []
  m_has_form : mg "has_form" = some (.ref a_has_form)
  a_need_goings : Addr
  d_need_goings : FuncData
  F_need_goings : Fun K "need" "need" s_need_goings a_need_goings d_need_goings
  b_need_goings : Binds K d_need_goings ["is_so"] []
  m_need_goings : mg "need_goings" = some (.ref a_need_goings)
  a_is_turning : Addr
  d_is_turning : FuncData
  F_is_turning : Fun K "is_turning" "is_turning" s_is_turning a_is_turning d_is_turning
  b_is_turning : Binds K d_is_turning ["thing"] []
  m_is_turning : mg "is_turning" = some (.ref a_is_turning)
  a_turned : Addr
  d_turned : FuncData
  F_turned : Fun K "turned" "turned" s_turned a_turned d_turned
  b_turned : Binds K d_turned ["program", "turning"] []
  m_turned : mg "turned" = some (.ref a_turned)
  a__law_cell : Addr
  d__law_cell : FuncData
  F__law_cell : Fun K "_law_cell" "_law_cell" s__law_cell a__law_cell d__law_cell
  b__law_cell : Binds K d__law_cell ["_law_cells", "_law_spot"] []
  m__law_cell : mg "_law_cell" = some (.ref a__law_cell)
  a__law_names : Addr
  d__law_names : FuncData
  F__law_names : Fun K "_law_names" "_law_names" s__law_names a__law_names d__law_names
  b__law_names : Binds K d__law_names ["_law_n"] []
  m__law_names : mg "_law_names" = some (.ref a__law_names)
  a__law_is_name : Addr
  d__law_is_name : FuncData
  F__law_is_name : Fun K "_law_is_name" "_law_is_name" s__law_is_name a__law_is_name d__law_is_name
  b__law_is_name : Binds K d__law_is_name ["_law_thing"] []
  m__law_is_name : mg "_law_is_name" = some (.ref a__law_is_name)
  a__law_are_counts : Addr
  d__law_are_counts : FuncData
  F__law_are_counts : Fun K "_law_are_counts" "_law_are_counts" s__law_are_counts a__law_are_counts d__law_are_counts
  b__law_are_counts : Binds K d__law_are_counts ["_law_thing"] []
  m__law_are_counts : mg "_law_are_counts" = some (.ref a__law_are_counts)
  a__law_is_way : Addr
  d__law_is_way : FuncData
  F__law_is_way : Fun K "_law_is_way" "_law_is_way" s__law_is_way a__law_is_way d__law_is_way
  b__law_is_way : Binds K d__law_is_way ["_law_thing"] []
  m__law_is_way : mg "_law_is_way" = some (.ref a__law_is_way)
  a__law_is_binder : Addr
  d__law_is_binder : FuncData
  F__law_is_binder : Fun K "_law_is_binder" "_law_is_binder" s__law_is_binder a__law_is_binder d__law_is_binder
  b__law_is_binder : Binds K d__law_is_binder ["_law_thing"] []
  m__law_is_binder : mg "_law_is_binder" = some (.ref a__law_is_binder)
  a__law_fits : Addr
  d__law_fits : FuncData
  F__law_fits : Fun K "_law_fits" "_law_fits" s__law_fits a__law_fits d__law_fits
  b__law_fits : Binds K d__law_fits ["_law_kind", "_law_thing"] []
  m__law_fits : mg "_law_fits" = some (.ref a__law_fits)
  a__law_kinds : Addr
  d__law_kinds : FuncData
  F__law_kinds : Fun K "_law_kinds" "_law_kinds" s__law_kinds a__law_kinds d__law_kinds
  b__law_kinds : Binds K d__law_kinds ["_law_word"] []
  m__law_kinds : mg "_law_kinds" = some (.ref a__law_kinds)
  a__law_is_form : Addr
  d__law_is_form : FuncData
  F__law_is_form : Fun K "_law_is_form" "_law_is_form" s__law_is_form a__law_is_form d__law_is_form
  b__law_is_form : Binds K d__law_is_form ["_law_thing"] []
  m__law_is_form : mg "_law_is_form" = some (.ref a__law_is_form)
  a__law_part : Addr
  d__law_part : FuncData
  F__law_part : Fun K "_law_part" "_law_part" s__law_part a__law_part d__law_part
  b__law_part : Binds K d__law_part ["_law_kind", "_law_names_here", "_law_n"] []
  m__law_part : mg "_law_part" = some (.ref a__law_part)
  a__law_odd : Addr
  d__law_odd : FuncData
  F__law_odd : Fun K "_law_odd" "_law_odd" s__law_odd a__law_odd d__law_odd
  b__law_odd : Binds K d__law_odd ["_law_names_here", "_law_n"] []
  m__law_odd : mg "_law_odd" = some (.ref a__law_odd)
  a__law_bent : Addr
  d__law_bent : FuncData
  F__law_bent : Fun K "_law_bent" "_law_bent" s__law_bent a__law_bent d__law_bent
  b__law_bent : Binds K d__law_bent ["_law_thing", "_law_names_here", "_law_n"] []
  m__law_bent : mg "_law_bent" = some (.ref a__law_bent)
  a__law_refused : Addr
  d__law_refused : FuncData
  F__law_refused : Fun K "_law_refused" "_law_refused" s__law_refused a__law_refused d__law_refused
  b__law_refused : Binds K d__law_refused ["_law_program", "_law_thing"] []
  m__law_refused : mg "_law_refused" = some (.ref a__law_refused)
  a__law_far_right : Addr
  d__law_far_right : FuncData
  F__law_far_right : Fun K "_law_far_right" "_law_far_right" s__law_far_right a__law_far_right d__law_far_right
  b__law_far_right : Binds K d__law_far_right [] []
  m__law_far_right : mg "_law_far_right" = some (.ref a__law_far_right)
  a_law : Addr
  d_law : FuncData
  F_law : Fun K "law" "law" s_law a_law d_law
  b_law : Binds K d_law ["_law_script"] []
  m_law : mg "law" = some (.ref a_law)
  g_NoTurn : mg "NoTurn" = some (.ref (clsAt K "NoTurn"))
  x_NoTurn : XCls K mg "NoTurn"
  g_TurnError : mg "TurnError" = some (.ref (clsAt K "TurnError"))
  g_TooMany : mg "TooMany" = some (.ref (clsAt K "TooMany"))
  g_Shade : mg "Shade" = some (.ref (clsAt K "Shade"))
  g_NoStep : mg "NoStep" = some (.ref (clsAt K "NoStep"))
  g_Hangs : mg "Hangs" = some (.ref (clsAt K "Hangs"))
  g_BadText : mg "BadText" = some (.ref (clsAt K "BadText"))
  g_BadProgram : mg "BadProgram" = some (.ref (clsAt K "BadProgram"))
  g_BadPaper : mg "BadPaper" = some (.ref (clsAt K "BadPaper"))
  co_0 : CsOk K [2] (.ref (clsAt K "TurnError"))
  ex_L : TabEx K exL
  ve_L : TabVE K exL
  bb_law : ∀ (s : Shared) (v : Value), BindsTo s d_law ⟨[v], []⟩ [("_law_script", v)]
  z_len : mg "len" = none
  z_isinstance : mg "isinstance" = none
  z_str : mg "str" = none
  z_all : mg "all" = none
  z_bool : mg "bool" = none
  z_int : mg "int" = none
  z_tuple : mg "tuple" = none
  z_zip : mg "zip" = none
  z_range : mg "range" = none
  z_list : mg "list" = none
  z_ValueError : mg "ValueError" = none
  z_min : mg "min" = none
  z_enumerate : mg "enumerate" = none
  z_repr : mg "repr" = none
  c_MOST_NAME : ∃ t, mg "MOST_NAME" = some (.int 8 t)
  c_LETTERS : ∃ t, mg "LETTERS" = some (.str "abcdefghijklmnopqrstuvwxyz" t)
  q_WORDS : Addr
  c_WORDS : mg "WORDS" = some (.ref q_WORDS)
  r_WORDS : ∀ A G, Rep K A G (.ref q_WORDS) k_WORDS
  q_SHAPES : Addr
  c_SHAPES : mg "SHAPES" = some (.ref q_SHAPES)
  t_SHAPES : TabOk K w q_SHAPES k_SHAPES
  tg_SHAPES : TabAll K w q_SHAPES k_SHAPES
section
variable {P : Program} {w : World} {K : PySem.W.Frag} {mg : Str → Option Value} {base : Heap}
structure Oks (P : Program) (w : World) (base : Heap) (T : Top w K mg) (k : Nat) : Prop where
  i_is_name : GOk P w K mg base CX0 (lv k) T.a_is_name T.d_is_name ["thing"] (spD K W0 1 (sem k f_is_name))
  i_is_count : GOk P w K mg base CX0 (lv k) T.a_is_count T.d_is_count ["thing"] (spD K W0 1 (sem k f_is_count))
  i_are_counts : GOk P w K mg base CX0 (lv k) T.a_are_counts T.d_are_counts ["thing"] (spD K W0 1 (sem k f_are_counts))
  i_is_way : GOk P w K mg base CX0 (lv k) T.a_is_way T.d_is_way ["thing"] (spD K W0 1 (sem k f_is_way))
  i_is_binder : GOk P w K mg base CX0 (lv k) T.a_is_binder T.d_is_binder ["thing"] (spD K W0 1 (sem k f_is_binder))
  i_are_ways : GOk P w K mg base CX0 (lv k) T.a_are_ways T.d_are_ways ["thing"] (spD K W0 1 (sem k f_are_ways))
  i_fits : GOk P w K mg base CX0 (lv k) T.a_fits T.d_fits ["sign", "thing"] (spD K W0 2 (sem k f_fits))
  i_has_form : GOk P w K mg base CX0 (lv k) T.a_has_form T.d_has_form ["thing"] (spD K W0 1 (sem k f_has_form))
  i_need_goings : GOk P w K mg base (L2N.CX P w) (lv k) T.a_need_goings T.d_need_goings ["is_so"] (spD K (W1 K) 1 (sem k f_need_goings))
  i_is_turning : GOk P w K mg base CX0 (lv k) T.a_is_turning T.d_is_turning ["thing"] (spD K W0 1 (sem k f_is_turning))
  i_turned : GOk P w K mg base (L2N.CX P w) (lv k) T.a_turned T.d_turned ["program", "turning"] (spD K (W1 K) 2 (sem k f_turned))
  i__law_cell : GOk P w K mg base CX0 (lv k) T.a__law_cell T.d__law_cell ["_law_cells", "_law_spot"] (spD K W0 2 (sem k f__law_cell))
  i__law_names : GOk P w K mg base CX0 (lv k) T.a__law_names T.d__law_names ["_law_n"] (spD K W0 1 (sem k f__law_names))
  i__law_is_name : GOk P w K mg base CX0 (lv k) T.a__law_is_name T.d__law_is_name ["_law_thing"] (spD K W0 1 (sem k f__law_is_name))
  i__law_are_counts : GOk P w K mg base CX0 (lv k) T.a__law_are_counts T.d__law_are_counts ["_law_thing"] (spD K W0 1 (sem k f__law_are_counts))
  i__law_is_way : GOk P w K mg base CX0 (lv k) T.a__law_is_way T.d__law_is_way ["_law_thing"] (spD K W0 1 (sem k f__law_is_way))
  i__law_is_binder : GOk P w K mg base CX0 (lv k) T.a__law_is_binder T.d__law_is_binder ["_law_thing"] (spD K W0 1 (sem k f__law_is_binder))
  i__law_fits : GOk P w K mg base CX0 (lv k) T.a__law_fits T.d__law_fits ["_law_kind", "_law_thing"] (spD K W0 2 (sem k f__law_fits))
  i__law_kinds : GOk P w K mg base CX0 (lv k) T.a__law_kinds T.d__law_kinds ["_law_word"] (spD K W0 1 (sem k f__law_kinds))
  i__law_is_form : GOk P w K mg base CX0 (lv k) T.a__law_is_form T.d__law_is_form ["_law_thing"] (spD K W0 1 (sem k f__law_is_form))
  i__law_part : GOk P w K mg base CX0 (lv k) T.a__law_part T.d__law_part ["_law_kind", "_law_names_here", "_law_n"] (spD K W0 3 (sem k f__law_part))
  i__law_odd : GOk P w K mg base CX0 (lv k) T.a__law_odd T.d__law_odd ["_law_names_here", "_law_n"] (spD K W0 2 (sem k f__law_odd))
  i__law_bent : GOk P w K mg base CX0 (lv k) T.a__law_bent T.d__law_bent ["_law_thing", "_law_names_here", "_law_n"] (spD K W0 3 (sem k f__law_bent))
  i__law_refused : GOk P w K mg base CX0 (lv k) T.a__law_refused T.d__law_refused ["_law_program", "_law_thing"] (spD K W0 2 (sem k f__law_refused))
  i__law_far_right : GOk P w K mg base CX0 (lv k) T.a__law_far_right T.d__law_far_right [] (spD K W0 0 (sem k f__law_far_right))
  i_law : GOk P w K mg base CX0 (lv k) T.a_law T.d_law ["_law_script"] (spD K W0 1 (sem k f_law))
theorem ok_is_name (T : Top w K mg) {k : Nat} (ih : Oks P w base T k) : GOk P w K mg base CX0 (lv k + 1) T.a_is_name T.d_is_name ["thing"] (spD K W0 1 (sem (k + 1) f_is_name)) := by
  rw [e_is_name]
  refine g_fn (N := ["thing", "letter"]) (ps := ["thing"]) (g := m_is_name (sem k)) T.F_is_name sc_is_name (fun cdv A outer s H EX hr hq => ?_)
  have hc := hr
  exact (s_seq (pss_cons (s_if (ps_if (PW.pt (x_or (pw_or (x_not (pt_not (x_truth (pt_truth (c_EB (x_isi (by decide) (pe_callB call_isi (by rfl) T.z_isinstance bt_isinstance (pa_cons (x_varB (pv 0)) (pa_cons (pe_bltn (by rfl) T.z_str bt_str rfl) pa_nil))))) (fun _ => rfl))))) (x_or (pw_or (x_not (pt_not (x_testC (pt_chain op_le op_le (c_FB (x_c pe_int fun _ _ => .int _)) (c_EB (x_prim (pe_callB call_lenA (by rfl) T.z_len bt_len (xr_cons (pa_cons (x_varB (pv 0)) (xr_nil pa_nil)))) p_len)) (c_FB (x_c (pe_glob (v := .int 8) (by rfl) T.c_MOST_NAME.choose_spec ⟨_, rfl⟩) fun _ _ => .int _))) (p_cmp fun i j => decide (i ≤ j)) (p_cmp fun i j => decide (i ≤ j))))) (pw_or1 (x_test2 (pt_cmpR op_inA (x_varB (pv 0)) (c_FB (x_c (pe_glob (v := .ref T.q_WORDS) (by rfl) T.c_WORDS rfl) T.r_WORDS)) rfl) p_in))))))) (s_seq (pss_cons (s_ret (ps_ret (c_FE (x_c pe_bl fun _ _ => .bl _)))) (s_nil pss_nil))) (s_nil pss_nil))) (s_seq (pss_cons (s_ret (ps_ret (x_prim (pe_callB (cr_all rfl) (by rfl) T.z_all bt_all (xr_cons (pa_cons (c_EB (x_lc (by decide) (pe_lc (own := [("letter", 1)]) rfl sc_is_name.nd (x_it (PI.or (pi_list (x_var (pv 0))) (PI.or (pi_tup (x_var (pv 0))) (pi_str (x_var (pv 0)))))) (blkOk_by (N := ["thing", "letter"]) (sc := defScope s_is_name) (by decide +kernel)) (fun _ _ _ _ _ => (x_gname (pg_name (i := 1) sc_is_name.nd rfl (by first | exact Or.inl rfl | exact Or.inr rfl)))) (fun _ _ _ _ _ => x_yes) (fun _ _ _ _ _ => (c_EF (x_op2 (pe_cmpR op_inA (x_varB (pv 1)) (c_FB (x_c (pe_glob (v := .str "abcdefghijklmnopqrstuvwxyz") (by rfl) T.c_LETTERS.choose_spec ⟨_, rfl⟩) fun _ _ => .str _)) rfl) p_in)))))) (xr_nil pa_nil)))) p_all))) (s_nil pss_nil)))))
theorem ok_is_count (T : Top w K mg) {k : Nat} (ih : Oks P w base T k) : GOk P w K mg base CX0 (lv k + 1) T.a_is_count T.d_is_count ["thing"] (spD K W0 1 (sem (k + 1) f_is_count)) := by
  rw [e_is_count]
  refine g_fn (N := ["thing"]) (ps := ["thing"]) (g := m_is_count (sem k)) T.F_is_count sc_is_count (fun cdv A outer s H EX hr hq => ?_)
  have hc := hr
  exact (s_seq (pss_cons (s_ret (ps_ret (x_andV (pe_and (x_isi (by decide) (pe_callB call_isi (by rfl) T.z_isinstance bt_isinstance (pa_cons (x_varB (pv 0)) (pa_cons (pe_bltn (by rfl) T.z_int bt_int rfl) pa_nil)))) (x_andV (pe_and (x_notV (pe_not (x_isi (by decide) (pe_callB call_isi (by rfl) T.z_isinstance bt_isinstance (pa_cons (x_varB (pv 0)) (pa_cons (pe_bltn (by rfl) T.z_bool bt_bool rfl) pa_nil)))))) (pe_one (x_op2 (pe_cmpR op_ge (x_varB (pv 0)) (c_FB (x_c pe_int fun _ _ => .int _)) rfl) (p_cmp fun i j => decide (j ≤ i)))))))))) (s_nil pss_nil)))
theorem ok_are_counts (T : Top w K mg) {k : Nat} (ih : Oks P w base T k) : GOk P w K mg base CX0 (lv k + 1) T.a_are_counts T.d_are_counts ["thing"] (spD K W0 1 (sem (k + 1) f_are_counts)) := by
  rw [e_are_counts]
  refine g_fn (N := ["thing", "one"]) (ps := ["thing"]) (g := m_are_counts (sem k)) T.F_are_counts sc_are_counts (fun cdv A outer s H EX hr hq => ?_)
  have hc := hr
  exact (s_seq (pss_cons (s_ret (ps_ret (x_andV (pe_and (x_isi (by decide) (pe_callB call_isi (by rfl) T.z_isinstance bt_isinstance (pa_cons (x_varB (pv 0)) (pa_cons (pe_bltn (by rfl) T.z_tuple bt_tuple rfl) pa_nil)))) (pe_one (x_prim (pe_callB (cr_all rfl) (by rfl) T.z_all bt_all (xr_cons (pa_cons (c_EB (x_lc (by decide) (pe_lc (own := [("one", 1)]) rfl sc_are_counts.nd (x_it (PI.or (pi_list (x_var (pv 0))) (PI.or (pi_tup (x_var (pv 0))) (pi_str (x_var (pv 0)))))) (blkOk_by (N := ["thing", "one"]) (sc := defScope s_are_counts) (by decide +kernel)) (fun _ _ _ _ _ => (x_gname (pg_name (i := 1) sc_are_counts.nd rfl (by first | exact Or.inl rfl | exact Or.inr rfl)))) (fun _ _ _ _ _ => x_yes) (fun _ _ _ _ _ => (c_EF (x_call rfl (g_call ih.i_is_count hc hq (by rfl) T.m_is_count T.F_is_count.kp T.b_is_count pass0 (xa_cons (pa_cons (x_var (pv 1)) (xa_nil pa_nil)))))))))) (xr_nil pa_nil)))) p_all)))))) (s_nil pss_nil)))
theorem ok_is_way (T : Top w K mg) {k : Nat} (ih : Oks P w base T k) : GOk P w K mg base CX0 (lv k + 1) T.a_is_way T.d_is_way ["thing"] (spD K W0 1 (sem (k + 1) f_is_way)) := by
  rw [e_is_way]
  refine g_fn (N := ["thing", "name"]) (ps := ["thing"]) (g := m_is_way (sem k)) T.F_is_way sc_is_way (fun cdv A outer s H EX hr hq => ?_)
  have hc := hr
  exact (s_seq (pss_cons (s_if (ps_if (PW.pt (x_or (pw_or (x_not (pt_not (x_truth (pt_truth (c_EB (x_isi (by decide) (pe_callB call_isi (by rfl) T.z_isinstance bt_isinstance (pa_cons (x_varB (pv 0)) (pa_cons (pe_bltn (by rfl) T.z_tuple bt_tuple rfl) pa_nil))))) (fun _ => rfl))))) (x_or (pw_or (x_test2 (pt_cmpR op_lt (c_EB (x_prim (pe_callB call_lenA (by rfl) T.z_len bt_len (xr_cons (pa_cons (x_varB (pv 0)) (xr_nil pa_nil)))) p_len)) (c_FB (x_c pe_int fun _ _ => .int _)) rfl) (p_cmp fun i j => decide (i < j))) (pw_or1 (x_not (pt_not (x_truth (pt_truth (c_EB (x_prim (pe_callB (cr_all rfl) (by rfl) T.z_all bt_all (xr_cons (pa_cons (c_EB (x_lc (by decide) (pe_lc (own := [("name", 1)]) rfl sc_is_way.nd (x_it (PI.or (pi_list (c_EF (x_sl (pe_slice sl_A3 (x_varB (pv 0)) x_no (x_so (c_FB (x_c pe_int fun _ _ => .int _)))) p_sl))) (PI.or (pi_tup (c_EF (x_sl (pe_slice sl_A3 (x_varB (pv 0)) x_no (x_so (c_FB (x_c pe_int fun _ _ => .int _)))) p_sl))) (pi_str (c_EF (x_sl (pe_slice sl_A3 (x_varB (pv 0)) x_no (x_so (c_FB (x_c pe_int fun _ _ => .int _)))) p_sl)))))) (blkOk_by (N := ["thing", "name"]) (sc := defScope s_is_way) (by decide +kernel)) (fun _ _ _ _ _ => (x_gname (pg_name (i := 1) sc_is_way.nd rfl (by first | exact Or.inl rfl | exact Or.inr rfl)))) (fun _ _ _ _ _ => x_yes) (fun _ _ _ _ _ => (c_EF (x_call rfl (g_call ih.i_is_name hc hq (by rfl) T.m_is_name T.F_is_name.kp T.b_is_name pass0 (xa_cons (pa_cons (x_var (pv 1)) (xa_nil pa_nil)))))))))) (xr_nil pa_nil)))) p_all)) (fun _ => rfl))))))))))) (s_seq (pss_cons (s_ret (ps_ret (c_FE (x_c pe_bl fun _ _ => .bl _)))) (s_nil pss_nil))) (s_nil pss_nil))) (s_seq (pss_cons (s_ret (ps_ret (x_call rfl (g_call ih.i_are_counts hc hq (by rfl) T.m_are_counts T.F_are_counts.kp T.b_are_counts pass0 (xa_cons (pa_cons (c_EF (x_sl (pe_slice sl_A3 (x_varB (pv 0)) (x_so (c_FB (x_c pe_int fun _ _ => .int _))) x_no) p_sl)) (xa_nil pa_nil))))))) (s_nil pss_nil)))))
theorem ok_is_binder (T : Top w K mg) {k : Nat} (ih : Oks P w base T k) : GOk P w K mg base CX0 (lv k + 1) T.a_is_binder T.d_is_binder ["thing"] (spD K W0 1 (sem (k + 1) f_is_binder)) := by
  rw [e_is_binder]
  refine g_fn (N := ["thing"]) (ps := ["thing"]) (g := m_is_binder (sem k)) T.F_is_binder sc_is_binder (fun cdv A outer s H EX hr hq => ?_)
  have hc := hr
  exact (s_seq (pss_cons (s_if (ps_if (PW.pt (x_or (pw_or (x_not (pt_not (x_truth (pt_truth (c_EB (x_isi (by decide) (pe_callB call_isi (by rfl) T.z_isinstance bt_isinstance (pa_cons (x_varB (pv 0)) (pa_cons (pe_bltn (by rfl) T.z_tuple bt_tuple rfl) pa_nil))))) (fun _ => rfl))))) (x_or (pw_or (x_test2 (pt_cmpR (op_eqE (un_of hr)) (x_varB (pv 0)) (c_FB (x_tup (pe_tup (xa_nil pa_nil)))) rfl) p_eqE) (pw_or1 (x_not (pt_not (x_truth (pt_truth (c_EB (x_isi (by decide) (pe_callB call_isi (by rfl) T.z_isinstance bt_isinstance (pa_cons (c_EB (x_ix (pe_ix ix_seq (x_varB (pv 0)) (c_FB (x_c pe_int fun _ _ => .int _)) (fun _ _ => rfl)))) (pa_cons (pe_bltn (by rfl) T.z_str bt_str rfl) pa_nil))))) (fun _ => rfl))))))))))) (s_seq (pss_cons (s_ret (ps_ret (c_FE (x_c pe_bl fun _ _ => .bl _)))) (s_nil pss_nil))) (s_nil pss_nil))) (s_seq (pss_cons (s_if (ps_if (x_test2 (pt_cmpR (op_eqW (un_of hr)) (c_EB (x_ix (pe_ix ix_seq (x_varB (pv 0)) (c_FB (x_c pe_int fun _ _ => .int _)) (fun _ _ => rfl)))) (c_FB (x_c pe_str fun _ _ => .str _)) rfl) p_eq) (s_seq (pss_cons (s_ret (ps_ret (x_andV (pe_and (x_op2 (pe_cmpR (op_eqW (un_of hr)) (c_EB (x_prim (pe_callB call_lenA (by rfl) T.z_len bt_len (xr_cons (pa_cons (x_varB (pv 0)) (xr_nil pa_nil)))) p_len)) (c_FB (x_c pe_int fun _ _ => .int _)) rfl) p_eq) (x_andV (pe_and (x_call rfl (g_call ih.i_is_name hc hq (by rfl) T.m_is_name T.F_is_name.kp T.b_is_name pass0 (xa_cons (pa_cons (c_EF (x_ix (pe_ix ix_seq (x_varB (pv 0)) (c_FB (x_c pe_int fun _ _ => .int _)) (fun _ _ => rfl)))) (xa_nil pa_nil))))) (x_andV (pe_and (x_call rfl (g_call ih.i_is_name hc hq (by rfl) T.m_is_name T.F_is_name.kp T.b_is_name pass0 (xa_cons (pa_cons (c_EF (x_ix (pe_ix ix_seq (x_varB (pv 0)) (c_FB (x_c pe_int fun _ _ => .int _)) (fun _ _ => rfl)))) (xa_nil pa_nil))))) (pe_one (x_call rfl (g_call ih.i_is_count hc hq (by rfl) T.m_is_count T.F_is_count.kp T.b_is_count pass0 (xa_cons (pa_cons (c_EF (x_ix (pe_ix ix_seq (x_varB (pv 0)) (c_FB (x_c pe_int fun _ _ => .int _)) (fun _ _ => rfl)))) (xa_nil pa_nil)))))))))))))) (s_nil pss_nil))) (s_nil pss_nil))) (s_seq (pss_cons (s_ret (ps_ret (x_andV (pe_and (x_op2 (pe_cmpR op_inA (c_EB (x_ix (pe_ix ix_seq (x_varB (pv 0)) (c_FB (x_c pe_int fun _ _ => .int _)) (fun _ _ => rfl)))) (c_FB (x_tup (pe_tup (xa_cons (pa_cons (x_c pe_str fun _ _ => .str _) (xa_cons (pa_cons (x_c pe_str fun _ _ => .str _) (xa_cons (pa_cons (x_c pe_str fun _ _ => .str _) (xa_nil pa_nil)))))))))) rfl) p_in) (x_andV (pe_and (x_op2 (pe_cmpR (op_eqW (un_of hr)) (c_EB (x_prim (pe_callB call_lenA (by rfl) T.z_len bt_len (xr_cons (pa_cons (x_varB (pv 0)) (xr_nil pa_nil)))) p_len)) (c_FB (x_c pe_int fun _ _ => .int _)) rfl) p_eq) (pe_one (x_call rfl (g_call ih.i_is_way hc hq (by rfl) T.m_is_way T.F_is_way.kp T.b_is_way pass0 (xa_cons (pa_cons (c_EF (x_ix (pe_ix ix_seq (x_varB (pv 0)) (c_FB (x_c pe_int fun _ _ => .int _)) (fun _ _ => rfl)))) (xa_nil pa_nil)))))))))))) (s_nil pss_nil)))))))
theorem ok_are_ways (T : Top w K mg) {k : Nat} (ih : Oks P w base T k) : GOk P w K mg base CX0 (lv k + 1) T.a_are_ways T.d_are_ways ["thing"] (spD K W0 1 (sem (k + 1) f_are_ways)) := by
  rw [e_are_ways]
  refine g_fn (N := ["thing", "one"]) (ps := ["thing"]) (g := m_are_ways (sem k)) T.F_are_ways sc_are_ways (fun cdv A outer s H EX hr hq => ?_)
  have hc := hr
  exact (s_seq (pss_cons (s_ret (ps_ret (x_andV (pe_and (x_isi (by decide) (pe_callB call_isi (by rfl) T.z_isinstance bt_isinstance (pa_cons (x_varB (pv 0)) (pa_cons (pe_bltn (by rfl) T.z_tuple bt_tuple rfl) pa_nil)))) (x_andV (pe_and (x_op2 (pe_cmpR (op_neE (un_of hr)) (x_varB (pv 0)) (c_FB (x_tup (pe_tup (xa_nil pa_nil)))) rfl) p_neE) (pe_one (x_prim (pe_callB (cr_all rfl) (by rfl) T.z_all bt_all (xr_cons (pa_cons (c_EB (x_lc (by decide) (pe_lc (own := [("one", 1)]) rfl sc_are_ways.nd (x_it (PI.or (pi_list (x_var (pv 0))) (PI.or (pi_tup (x_var (pv 0))) (pi_str (x_var (pv 0)))))) (blkOk_by (N := ["thing", "one"]) (sc := defScope s_are_ways) (by decide +kernel)) (fun _ _ _ _ _ => (x_gname (pg_name (i := 1) sc_are_ways.nd rfl (by first | exact Or.inl rfl | exact Or.inr rfl)))) (fun _ _ _ _ _ => x_yes) (fun _ _ _ _ _ => (c_EF (x_call rfl (g_call ih.i_is_way hc hq (by rfl) T.m_is_way T.F_is_way.kp T.b_is_way pass0 (xa_cons (pa_cons (x_var (pv 1)) (xa_nil pa_nil)))))))))) (xr_nil pa_nil)))) p_all)))))))) (s_nil pss_nil)))
theorem ok_fits (T : Top w K mg) {k : Nat} (ih : Oks P w base T k) : GOk P w K mg base CX0 (lv k + 1) T.a_fits T.d_fits ["sign", "thing"] (spD K W0 2 (sem (k + 1) f_fits)) := by
  rw [e_fits]
  refine g_fn (N := ["sign", "thing"]) (ps := ["sign", "thing"]) (g := m_fits (sem k)) T.F_fits sc_fits (fun cdv A outer s H EX hr hq => ?_)
  have hc := hr
  exact (s_seq (pss_cons (s_if (ps_if (x_test2 (pt_cmpR (op_eqW (un_of hr)) (x_varB (pv 0)) (c_FB (x_c pe_str fun _ _ => .str _)) rfl) p_eq) (s_seq (pss_cons (s_ret (ps_ret (x_call rfl (g_call ih.i_is_name hc hq (by rfl) T.m_is_name T.F_is_name.kp T.b_is_name pass0 (xa_cons (pa_cons (x_var (pv 1)) (xa_nil pa_nil))))))) (s_nil pss_nil))) (s_nil pss_nil))) (s_seq (pss_cons (s_if (ps_if (x_test2 (pt_cmpR (op_eqW (un_of hr)) (x_varB (pv 0)) (c_FB (x_c pe_str fun _ _ => .str _)) rfl) p_eq) (s_seq (pss_cons (s_ret (ps_ret (x_call rfl (g_call ih.i_is_count hc hq (by rfl) T.m_is_count T.F_is_count.kp T.b_is_count pass0 (xa_cons (pa_cons (x_var (pv 1)) (xa_nil pa_nil))))))) (s_nil pss_nil))) (s_nil pss_nil))) (s_seq (pss_cons (s_if (ps_if (x_test2 (pt_cmpR (op_eqW (un_of hr)) (x_varB (pv 0)) (c_FB (x_c pe_str fun _ _ => .str _)) rfl) p_eq) (s_seq (pss_cons (s_ret (ps_ret (x_call rfl (g_call ih.i_is_binder hc hq (by rfl) T.m_is_binder T.F_is_binder.kp T.b_is_binder pass0 (xa_cons (pa_cons (x_var (pv 1)) (xa_nil pa_nil))))))) (s_nil pss_nil))) (s_nil pss_nil))) (s_seq (pss_cons (s_if (ps_if (x_test2 (pt_cmpR (op_eqW (un_of hr)) (x_varB (pv 0)) (c_FB (x_c pe_str fun _ _ => .str _)) rfl) p_eq) (s_seq (pss_cons (s_ret (ps_ret (x_call rfl (g_call ih.i_is_way hc hq (by rfl) T.m_is_way T.F_is_way.kp T.b_is_way pass0 (xa_cons (pa_cons (x_var (pv 1)) (xa_nil pa_nil))))))) (s_nil pss_nil))) (s_nil pss_nil))) (s_seq (pss_cons (s_ret (ps_ret (x_if (pe_ifExp (x_test2 (pt_cmpR (op_eqW (un_of hr)) (x_varB (pv 0)) (c_FB (x_c pe_str fun _ _ => .str _)) rfl) p_eq) (x_call rfl (g_call ih.i_are_counts hc hq (by rfl) T.m_are_counts T.F_are_counts.kp T.b_are_counts pass0 (xa_cons (pa_cons (x_var (pv 1)) (xa_nil pa_nil))))) (x_call rfl (g_call ih.i_are_ways hc hq (by rfl) T.m_are_ways T.F_are_ways.kp T.b_are_ways pass0 (xa_cons (pa_cons (x_var (pv 1)) (xa_nil pa_nil))))))))) (s_nil pss_nil)))))))))))
theorem ok_has_form (T : Top w K mg) {k : Nat} (ih : Oks P w base T k) : GOk P w K mg base CX0 (lv k + 1) T.a_has_form T.d_has_form ["thing"] (spD K W0 1 (sem (k + 1) f_has_form)) := by
  rw [e_has_form]
  refine g_fn (N := ["thing", "signs", "sign", "one"]) (ps := ["thing"]) (g := m_has_form (sem k)) T.F_has_form sc_has_form (fun cdv A outer s H EX hr hq => ?_)
  have hc := hr
  exact (s_seq (pss_cons (s_if (ps_if (PW.pt (x_or (pw_or (x_not (pt_not (x_truth (pt_truth (c_EB (x_isi (by decide) (pe_callB call_isi (by rfl) T.z_isinstance bt_isinstance (pa_cons (x_varB (pv 0)) (pa_cons (pe_bltn (by rfl) T.z_tuple bt_tuple rfl) pa_nil))))) (fun _ => rfl))))) (x_or (pw_or (x_test2 (pt_cmpR (op_eqE (un_of hr)) (x_varB (pv 0)) (c_FB (x_tup (pe_tup (xa_nil pa_nil)))) rfl) p_eqE) (pw_or1 (x_not (pt_not (x_truth (pt_truth (c_EB (x_isi (by decide) (pe_callB call_isi (by rfl) T.z_isinstance bt_isinstance (pa_cons (c_EB (x_ix (pe_ix ix_seq (x_varB (pv 0)) (c_FB (x_c pe_int fun _ _ => .int _)) (fun _ _ => rfl)))) (pa_cons (pe_bltn (by rfl) T.z_str bt_str rfl) pa_nil))))) (fun _ => rfl))))))))))) (s_seq (pss_cons (s_ret (ps_ret (c_FE (x_c pe_bl fun _ _ => .bl _)))) (s_nil pss_nil))) (s_nil pss_nil))) (s_seq (pss_cons (s_set (ps_set (i := 1) sc_has_form.nd rfl (by first | exact Or.inl rfl | exact Or.inr rfl) (c_FE (x_tget1 rfl (pe_tget1 T.tg_SHAPES (pe_glob (v := .ref T.q_SHAPES) (by rfl) T.c_SHAPES rfl) (c_EB (x_ix (pe_ix ix_seq (x_varB (pv 0)) (c_FB (x_c pe_int fun _ _ => .int _)) (fun _ _ => rfl)))) ⟨rfl, rfl, rfl, rfl⟩))))) (s_seq (pss_cons (s_if (ps_if (PW.pt (x_or (pw_or (x_test2 (pt_cmpR op_isA (x_varB (pv 1)) (c_FB (x_c pe_non fun _ _ => .non)) rfl) p_is) (pw_or1 (x_test2 (pt_cmpR (op_neW (un_of hr)) (c_EB (x_prim (pe_callB call_lenA (by rfl) T.z_len bt_len (xr_cons (pa_cons (x_varB (pv 0)) (xr_nil pa_nil)))) p_len)) (c_EB (x_op2 (pe_op op_addA (c_EB (x_prim (pe_callB call_lenA (by rfl) T.z_len bt_len (xr_cons (pa_cons (x_varB (pv 1)) (xr_nil pa_nil)))) p_len)) (c_FB (x_c pe_int fun _ _ => .int _))) p_add)) rfl) p_ne))))) (s_seq (pss_cons (s_ret (ps_ret (c_FE (x_c pe_bl fun _ _ => .bl _)))) (s_nil pss_nil))) (s_nil pss_nil))) (s_seq (pss_cons (s_ret (ps_ret (x_prim (pe_callB (cr_all rfl) (by rfl) T.z_all bt_all (xr_cons (pa_cons (c_EB (x_lc (by decide) (pe_lc (own := [("sign", 2), ("one", 3)]) rfl sc_has_form.nd (x_zipG (pi_zipG (by rfl) T.z_zip (xa_cons (pa_cons (x_var (pv 1)) (xa_cons (pa_cons (c_EF (x_sl (pe_slice sl_A3 (x_varB (pv 0)) (x_so (c_FB (x_c pe_int fun _ _ => .int _))) x_no) p_sl)) (xa_nil pa_nil))))))) (blkOk_by (N := ["thing", "signs", "sign", "one"]) (sc := defScope s_has_form) (by decide +kernel)) (fun _ _ _ _ _ => (x_gtup (is := [2, 3]) rfl (pg_tup rfl (pgs_cons (pg_name (i := 2) sc_has_form.nd rfl (by first | exact Or.inl rfl | exact Or.inr rfl)) (pgs_cons (pg_name (i := 3) sc_has_form.nd rfl (by first | exact Or.inl rfl | exact Or.inr rfl)) pgs_nil))))) (fun _ _ _ _ _ => x_yes) (fun _ _ _ _ _ => (c_EF (x_call rfl (g_call ih.i_fits hc hq (by rfl) T.m_fits T.F_fits.kp T.b_fits pass0 (xa_cons (pa_cons (x_var (pv 2)) (xa_cons (pa_cons (x_var (pv 3)) (xa_nil pa_nil)))))))))))) (xr_nil pa_nil)))) p_all))) (s_nil pss_nil)))))))))
theorem ok_need_goings (T : Top w K mg) {k : Nat} (ih : Oks P w base T k) : GOk P w K mg base (L2N.CX P w) (lv k + 1) T.a_need_goings T.d_need_goings ["is_so"] (spD K (W1 K) 1 (sem (k + 1) f_need_goings)) := by
  rw [e_need_goings]
  refine g_fnX (N := ["is_so"]) (ps := ["is_so"]) (g := m_need_goings (sem k)) T.F_need_goings sc_need_goings (fun cdv A outer s H EX hr hq => ?_)
  have hc := hr
  exact (s_seq (pss_cons (s_if (ps_if (x_not (pt_not (x_truth (pt_truth (x_varB (pv 0)) (fun _ => rfl))))) (s_seq (pss_cons (s_raise rfl (L2N.ps_raise rfl (L2N.takes_of rfl rfl rfl rfl) (L2N.pmk_own PySem.F.excBase_ValueError T.x_NoTurn.xq T.x_NoTurn.g T.x_NoTurn.kp (raises_own T.x_NoTurn.sb T.x_NoTurn.ty) (by rfl)))) (s_nil pss_nil))) (s_nil pss_nil))) (s_nil pss_nil)))
theorem ok_is_turning (T : Top w K mg) {k : Nat} (ih : Oks P w base T k) : GOk P w K mg base CX0 (lv k + 1) T.a_is_turning T.d_is_turning ["thing"] (spD K W0 1 (sem (k + 1) f_is_turning)) := by
  rw [e_is_turning]
  refine g_fn (N := ["thing"]) (ps := ["thing"]) (g := m_is_turning (sem k)) T.F_is_turning sc_is_turning (fun cdv A outer s H EX hr hq => ?_)
  have hc := hr
  exact (s_seq (pss_cons (s_ret (ps_ret (x_call rfl (g_call ih.i_has_form hc hq (by rfl) T.m_has_form T.F_has_form.kp T.b_has_form pass0 (xa_cons (pa_cons (x_var (pv 0)) (xa_nil pa_nil))))))) (s_nil pss_nil)))
theorem ok_turned (T : Top w K mg) {k : Nat} (ih : Oks P w base T k) : GOk P w K mg base (L2N.CX P w) (lv k + 1) T.a_turned T.d_turned ["program", "turning"] (spD K (W1 K) 2 (sem (k + 1) f_turned)) := by
  rw [e_turned]
  refine g_fnX (N := ["program", "turning", "going", "word", "some", "spot"]) (ps := ["program", "turning"]) (g := m_turned (sem k)) T.F_turned sc_turned (fun cdv A outer s H EX hr hq => ?_)
  have hc := hr
  exact (s_seq (pss_cons (s_expr (ps_expr (x_call rfl (g_call ih.i_need_goings hc hq (by rfl) T.m_need_goings T.F_need_goings.kp T.b_need_goings (L2N.passes_call (L2N.takes_of rfl rfl rfl rfl) fun _ _ _ _ h => h) (xa_cons (pa_cons (c_EF (x_callC (g_call ih.i_is_turning hc hq (by rfl) T.m_is_turning T.F_is_turning.kp T.b_is_turning pass0 (xa_cons (pa_cons (x_var (pv 1)) (xa_nil pa_nil)))))) (xa_nil pa_nil))))))) (s_seq (pss_cons s_bad (s_seq (pss_cons s_bad (s_seq (pss_cons s_bad (s_seq (pss_cons s_bad (s_nil pss_nil)))))))))))
theorem ok__law_cell (T : Top w K mg) {k : Nat} (ih : Oks P w base T k) : GOk P w K mg base CX0 (lv k + 1) T.a__law_cell T.d__law_cell ["_law_cells", "_law_spot"] (spD K W0 2 (sem (k + 1) f__law_cell)) := by
  rw [e__law_cell]
  refine g_fn (N := ["_law_cells", "_law_spot", "_law_k", "_law_base", "_law_own", "_law_turn"]) (ps := ["_law_cells", "_law_spot"]) (g := m__law_cell (sem k)) T.F__law_cell sc__law_cell (fun cdv A outer s H EX hr hq => ?_)
  have hc := hr
  exact (s_seq (pss_cons (s_putR (ps_asg (c_EF (x_op2 (pe_op op_addA (c_EB (x_ix (pe_ix ix_seq (x_varB (pv 1)) (c_FB (x_c pe_int fun _ _ => .int _)) (fun _ _ => rfl)))) (c_FB (x_c pe_int fun _ _ => .int _))) p_add)) (pg_sub (x_varB (pv 1)) (c_FB (x_c pe_int fun _ _ => .int _)) set_list))) (s_seq (pss_cons (s_set (ps_set (i := 2) sc__law_cell.nd rfl (by first | exact Or.inl rfl | exact Or.inr rfl) (c_FE (c_EF (x_ix (pe_ix ix_seq (x_varB (pv 1)) (c_FB (x_c pe_int fun _ _ => .int _)) (fun _ _ => rfl))))))) (s_seq (pss_cons (s_set (ps_set (i := 3) sc__law_cell.nd rfl (by first | exact Or.inl rfl | exact Or.inr rfl) (c_FE (c_EF (x_op2 (pe_op op_addA (c_EB (x_op2 (pe_op op_mulA (c_EB (x_op2 (pe_op op_mulA (c_FB (x_c pe_int fun _ _ => .int _)) (x_varB (pv 2))) p_mul)) (x_varB (pv 2))) p_mul)) (c_EB (x_op2 (pe_op op_mulA (c_FB (x_c pe_int fun _ _ => .int _)) (x_varB (pv 2))) p_mul))) p_add))))) (s_seq (pss_cons (s_if (ps_if (PW.pt (x_and (pw_and (x_test2 (pt_cmpR op_gt (c_EB (x_prim (pe_callB call_lenA (by rfl) T.z_len bt_len (xr_cons (pa_cons (x_varB (pv 0)) (xr_nil pa_nil)))) p_len)) (c_FB (x_c pe_int fun _ _ => .int _)) rfl) (p_cmp fun i j => decide (j < i))) (x_and (pw_and (x_test2 (pt_cmpR op_ge (c_EB (x_ix (pe_ix ix_seq (x_varB (pv 0)) (c_EB (x_op2 (pe_op op_modA (x_varB (pv 2)) (c_EB (x_prim (pe_callB call_lenA (by rfl) T.z_len bt_len (xr_cons (pa_cons (x_varB (pv 0)) (xr_nil pa_nil)))) p_len))) p_mod)) (fun _ _ => rfl)))) (c_EB (x_op2 (pe_op op_pow (c_FB (x_c pe_int fun _ _ => .int _)) (c_FB (x_c pe_int fun _ _ => .int _))) p_pow)) rfl) (p_cmp fun i j => decide (j ≤ i))) (pw_and1 (x_test2 (pt_cmpR op_lt (c_EB (x_op2 (pe_op op_fdivA (x_varB (pv 2)) (c_EB (x_prim (pe_callB call_lenA (by rfl) T.z_len bt_len (xr_cons (pa_cons (x_varB (pv 0)) (xr_nil pa_nil)))) p_len))) p_fdiv)) (c_FB (x_c pe_int fun _ _ => .int _)) rfl) (p_cmp fun i j => decide (i < j))))))))) (s_seq (pss_cons (s_set (ps_set (i := 4) sc__law_cell.nd rfl (by first | exact Or.inl rfl | exact Or.inr rfl) (c_FE (c_EF (x_ix (pe_ix ix_seq (x_varB (pv 0)) (c_EB (x_op2 (pe_op op_modA (x_varB (pv 2)) (c_EB (x_prim (pe_callB call_lenA (by rfl) T.z_len bt_len (xr_cons (pa_cons (x_varB (pv 0)) (xr_nil pa_nil)))) p_len))) p_mod)) (fun _ _ => rfl))))))) (s_seq (pss_cons (s_for (ps_for PassesOwn.never rfl (x_rng1 (pi_range1 (by rfl) T.z_range (xr_cons (pa_cons (c_EB (x_op2 (pe_op op_fdivA (x_varB (pv 2)) (c_EB (x_prim (pe_callB call_lenA (by rfl) T.z_len bt_len (xr_cons (pa_cons (x_varB (pv 0)) (xr_nil pa_nil)))) p_len))) p_fdiv)) (xr_nil pa_nil))))) (x_gname (pg_name (i := 5) sc__law_cell.nd rfl (by first | exact Or.inl rfl | exact Or.inr rfl))) (s_seq (pss_cons (s_set (ps_set (i := 4) sc__law_cell.nd rfl (by first | exact Or.inl rfl | exact Or.inr rfl) (c_FE (c_EF (x_op2 (pe_op op_fdivA (x_varB (pv 4)) (c_FB (x_c pe_int fun _ _ => .int _))) p_fdiv))))) (s_nil pss_nil))))) (s_seq (pss_cons (s_if (ps_if (x_test2 (pt_cmpR op_gt (x_varB (pv 4)) (c_FB (x_c pe_int fun _ _ => .int _)) rfl) (p_cmp fun i j => decide (j < i))) (s_seq (pss_cons (s_ret (ps_ret (x_op2 (pe_op op_modA (x_varB (pv 4)) (c_FB (x_c pe_int fun _ _ => .int _))) p_mod))) (s_nil pss_nil))) (s_nil pss_nil))) (s_nil pss_nil))))))) (s_nil pss_nil))) (s_seq (pss_cons (s_if (ps_if (x_test2 (pt_cmpR op_gt (c_EB (x_prim (pe_callB call_lenA (by rfl) T.z_len bt_len (xr_cons (pa_cons (x_varB (pv 0)) (xr_nil pa_nil)))) p_len)) (c_FB (x_c pe_int fun _ _ => .int _)) rfl) (p_cmp fun i j => decide (j < i))) (s_seq (pss_cons (s_set (ps_set (i := 3) sc__law_cell.nd rfl (by first | exact Or.inl rfl | exact Or.inr rfl) (c_FE (c_EF (x_op2 (pe_op op_addA (x_varB (pv 3)) (c_EB (x_op2 (pe_op op_mulA (c_EB (x_op2 (pe_op op_modA (c_EB (x_ix (pe_ix ix_seq (x_varB (pv 0)) (c_EB (x_op2 (pe_op op_modA (x_varB (pv 2)) (c_EB (x_prim (pe_callB call_lenA (by rfl) T.z_len bt_len (xr_cons (pa_cons (x_varB (pv 0)) (xr_nil pa_nil)))) p_len))) p_mod)) (fun _ _ => rfl)))) (c_FB (x_c pe_int fun _ _ => .int _))) p_mod)) (c_EB (x_op2 (pe_op op_addA (c_FB (x_c pe_int fun _ _ => .int _)) (c_EB (x_op2 (pe_op op_fdivA (x_varB (pv 2)) (c_EB (x_prim (pe_callB call_lenA (by rfl) T.z_len bt_len (xr_cons (pa_cons (x_varB (pv 0)) (xr_nil pa_nil)))) p_len))) p_fdiv))) p_add))) p_mul))) p_add))))) (s_nil pss_nil))) (s_nil pss_nil))) (s_seq (pss_cons (s_ret (ps_ret (x_op2 (pe_op op_fdivA (c_EB (x_op2 (pe_op op_modA (c_EB (x_op2 (pe_op op_mulA (c_EB (x_op2 (pe_op op_modA (c_EB (x_op2 (pe_op op_mulA (x_varB (pv 3)) (c_FB (x_c pe_int fun _ _ => .int _))) p_mul)) (c_FB (x_c pe_int fun _ _ => .int _))) p_mod)) (c_FB (x_c pe_int fun _ _ => .int _))) p_mul)) (c_FB (x_c pe_int fun _ _ => .int _))) p_mod)) (c_FB (x_c pe_int fun _ _ => .int _))) p_fdiv))) (s_nil pss_nil)))))))))))))
theorem ok__law_names (T : Top w K mg) {k : Nat} (ih : Oks P w base T k) : GOk P w K mg base CX0 (lv k + 1) T.a__law_names T.d__law_names ["_law_n"] (spD K W0 1 (sem (k + 1) f__law_names)) := by
  rw [e__law_names]
  refine g_fn (N := ["_law_n", "_law_letters", "_law_some", "_law_k", "_law_sign"]) (ps := ["_law_n"]) (g := m__law_names (sem k)) T.F__law_names sc__law_names (fun cdv A outer s H EX hr hq => ?_)
  have hc := hr
  exact (s_seq (pss_cons (s_set (ps_set (i := 1) sc__law_names.nd rfl (by first | exact Or.inl rfl | exact Or.inr rfl) (c_FE (x_c pe_str fun _ _ => .str _)))) (s_seq (pss_cons (s_set (ps_set (i := 2) sc__law_names.nd rfl (by first | exact Or.inl rfl | exact Or.inr rfl) (x_lst (pe_lst (xa_cons (pa_cons (c_EF (x_lc (by decide) (pe_lc (own := [("_law_sign", 4)]) rfl sc__law_names.nd (x_it (PI.or (pi_list (x_var (pv 1))) (PI.or (pi_tup (x_var (pv 1))) (pi_str (x_var (pv 1)))))) (blkOk_by (N := ["_law_n", "_law_letters", "_law_some", "_law_k", "_law_sign"]) (sc := defScope s__law_names) (by decide +kernel)) (fun _ _ _ _ _ => (x_gname (pg_name (i := 4) sc__law_names.nd rfl (by first | exact Or.inl rfl | exact Or.inr rfl)))) (fun _ _ _ _ _ => x_yes) (fun _ _ _ _ _ => (x_var (pv 4)))))) (xa_cons (pa_cons (c_EF (x_lc (by decide) (pe_lc (own := [("_law_sign", 4)]) rfl sc__law_names.nd (x_it (PI.or (pi_list (x_var (pv 1))) (PI.or (pi_tup (x_var (pv 1))) (pi_str (x_var (pv 1)))))) (blkOk_by (N := ["_law_n", "_law_letters", "_law_some", "_law_k", "_law_sign"]) (sc := defScope s__law_names) (by decide +kernel)) (fun _ _ _ _ _ => (x_gname (pg_name (i := 4) sc__law_names.nd rfl (by first | exact Or.inl rfl | exact Or.inr rfl)))) (fun _ _ _ _ _ => x_yes) (fun _ _ _ _ _ => (c_EF (x_op2 (pe_op op_addA (c_EB (x_op2 (pe_op op_addA (c_FB (x_c pe_str fun _ _ => .str _)) (x_varB (pv 4))) p_add)) (c_FB (x_c pe_str fun _ _ => .str _))) p_add)))))) (xa_nil pa_nil))))))))) (s_seq (pss_cons (s_app (ps_expr (pe_bm PySem.F.plainAttrs_list PySem.F.slot_list_append PySem.F.type_list_append mt_append (pv 2) (pa_cons (c_EF (x_op2 (pe_op op_addA (c_EB (x_lc (by decide) (pe_lc (own := [("_law_k", 3)]) rfl sc__law_names.nd (x_rng1 (pi_range1 (by rfl) T.z_range (xr_cons (pa_cons (c_FB (x_c pe_int fun _ _ => .int _)) (xr_nil pa_nil))))) (blkOk_by (N := ["_law_n", "_law_letters", "_law_some", "_law_k", "_law_sign"]) (sc := defScope s__law_names) (by decide +kernel)) (fun _ _ _ _ _ => (x_gname (pg_name (i := 3) sc__law_names.nd rfl (by first | exact Or.inl rfl | exact Or.inr rfl)))) (fun _ _ _ _ _ => x_yes) (fun _ _ _ _ _ => (c_EF (x_sl (pe_slice sl_A3 (c_FB (x_c pe_str fun _ _ => .str _)) x_no (x_so (c_EB (x_op2 (pe_op op_addA (x_varB (pv 3)) (c_FB (x_c pe_int fun _ _ => .int _))) p_add)))) p_sl)))))) (c_EB (x_lc (by decide) (pe_lc (own := [("_law_k", 3)]) rfl sc__law_names.nd (x_rng1 (pi_range1 (by rfl) T.z_range (xr_cons (pa_cons (c_FB (x_c pe_int fun _ _ => .int _)) (xr_nil pa_nil))))) (blkOk_by (N := ["_law_n", "_law_letters", "_law_some", "_law_k", "_law_sign"]) (sc := defScope s__law_names) (by decide +kernel)) (fun _ _ _ _ _ => (x_gname (pg_name (i := 3) sc__law_names.nd rfl (by first | exact Or.inl rfl | exact Or.inr rfl)))) (fun _ _ _ _ _ => x_yes) (fun _ _ _ _ _ => (c_EF (x_sl (pe_slice sl_A3 (c_FB (x_c pe_str fun _ _ => .str _)) x_no (x_so (c_EB (x_op2 (pe_op op_addA (x_varB (pv 3)) (c_FB (x_c pe_int fun _ _ => .int _))) p_add)))) p_sl))))))) p_add)) pa_nil)))) (s_seq (pss_cons (s_set (ps_set (i := 2) sc__law_names.nd rfl (by first | exact Or.inl rfl | exact Or.inr rfl) (x_ix (pe_ix ix_seq (x_varB (pv 2)) (c_EB (x_op2 (pe_op op_modA (x_varB (pv 0)) (c_FB (x_c pe_int fun _ _ => .int _))) p_mod)) (fun _ _ => rfl))))) (s_seq (pss_cons (s_ret (ps_ret (x_lc (by decide) (pe_lc (own := [("_law_k", 3)]) rfl sc__law_names.nd (x_rng1 (pi_range1 (by rfl) T.z_range (xr_cons (pa_cons (c_FB (x_c pe_int fun _ _ => .int _)) (xr_nil pa_nil))))) (blkOk_by (N := ["_law_n", "_law_letters", "_law_some", "_law_k", "_law_sign"]) (sc := defScope s__law_names) (by decide +kernel)) (fun _ _ _ _ _ => (x_gname (pg_name (i := 3) sc__law_names.nd rfl (by first | exact Or.inl rfl | exact Or.inr rfl)))) (fun _ _ _ _ _ => x_yes) (fun _ _ _ _ _ => (c_EF (x_ix (pe_ix ix_seq (x_varB (pv 2)) (c_EB (x_op2 (pe_op op_modA (c_EB (x_op2 (pe_op op_addA (c_EB (x_op2 (pe_op op_fdivA (x_varB (pv 0)) (c_FB (x_c pe_int fun _ _ => .int _))) p_fdiv)) (c_EB (x_op2 (pe_op op_mulA (c_EB (x_op2 (pe_op op_addA (c_EB (x_op2 (pe_op op_mulA (c_FB (x_c pe_int fun _ _ => .int _)) (c_EB (x_op2 (pe_op op_modA (c_EB (x_op2 (pe_op op_fdivA (x_varB (pv 0)) (c_FB (x_c pe_int fun _ _ => .int _))) p_fdiv)) (c_FB (x_c pe_int fun _ _ => .int _))) p_mod))) p_mul)) (c_FB (x_c pe_int fun _ _ => .int _))) p_add)) (x_varB (pv 3))) p_mul))) p_add)) (c_FB (x_c pe_int fun _ _ => .int _))) p_mod)) (fun _ _ => rfl))))))))) (s_nil pss_nil)))))))))))
theorem ok__law_is_name (T : Top w K mg) {k : Nat} (ih : Oks P w base T k) : GOk P w K mg base CX0 (lv k + 1) T.a__law_is_name T.d__law_is_name ["_law_thing"] (spD K W0 1 (sem (k + 1) f__law_is_name)) := by
  rw [e__law_is_name]
  refine g_fn (N := ["_law_thing", "_law_told", "_law_sign"]) (ps := ["_law_thing"]) (g := m__law_is_name (sem k)) T.F__law_is_name sc__law_is_name (fun cdv A outer s H EX hr hq => ?_)
  have hc := hr
  exact (s_seq (pss_cons (s_set (ps_set (i := 1) sc__law_is_name.nd rfl (by first | exact Or.inl rfl | exact Or.inr rfl) (c_FE (c_EF (x_lst (pe_lst (xa_cons (pa_cons (x_c pe_str fun _ _ => .str _) (xa_cons (pa_cons (x_c pe_str fun _ _ => .str _) (xa_cons (pa_cons (x_c pe_str fun _ _ => .str _) (xa_cons (pa_cons (x_c pe_str fun _ _ => .str _) (xa_cons (pa_cons (x_c pe_str fun _ _ => .str _) (xa_cons (pa_cons (x_c pe_str fun _ _ => .str _) (xa_cons (pa_cons (x_c pe_str fun _ _ => .str _) (xa_cons (pa_cons (x_c pe_str fun _ _ => .str _) (xa_cons (pa_cons (x_c pe_str fun _ _ => .str _) (xa_cons (pa_cons (x_c pe_str fun _ _ => .str _) (xa_cons (pa_cons (x_c pe_str fun _ _ => .str _) (xa_cons (pa_cons (x_c pe_str fun _ _ => .str _) (xa_cons (pa_cons (x_c pe_str fun _ _ => .str _) (xa_nil pa_nil))))))))))))))))))))))))))))))))) (s_seq (pss_cons (s_if (ps_if (PW.pt (x_or (pw_or (x_not (pt_not (x_truth (pt_truth (c_EB (x_isi (by decide) (pe_callB call_isi (by rfl) T.z_isinstance bt_isinstance (pa_cons (x_varB (pv 0)) (pa_cons (pe_bltn (by rfl) T.z_str bt_str rfl) pa_nil))))) (fun _ => rfl))))) (x_or (pw_or (x_not (pt_not (x_testC (pt_chain op_le op_le (c_FB (x_c pe_int fun _ _ => .int _)) (c_EB (x_prim (pe_callB call_lenA (by rfl) T.z_len bt_len (xr_cons (pa_cons (x_varB (pv 0)) (xr_nil pa_nil)))) p_len)) (c_FB (x_c pe_int fun _ _ => .int _))) (p_cmp fun i j => decide (i ≤ j)) (p_cmp fun i j => decide (i ≤ j))))) (pw_or1 (x_test2 (pt_cmpR op_inA (x_varB (pv 0)) (x_varB (pv 1)) rfl) p_in))))))) (s_seq (pss_cons (s_ret (ps_ret (c_FE (x_c pe_bl fun _ _ => .bl _)))) (s_nil pss_nil))) (s_nil pss_nil))) (s_seq (pss_cons (s_ret (ps_ret (x_prim (pe_callB (cr_all rfl) (by rfl) T.z_all bt_all (xr_cons (pa_cons (c_EB (x_lc (by decide) (pe_lc (own := [("_law_sign", 2)]) rfl sc__law_is_name.nd (x_it (PI.or (pi_list (x_var (pv 0))) (PI.or (pi_tup (x_var (pv 0))) (pi_str (x_var (pv 0)))))) (blkOk_by (N := ["_law_thing", "_law_told", "_law_sign"]) (sc := defScope s__law_is_name) (by decide +kernel)) (fun _ _ _ _ _ => (x_gname (pg_name (i := 2) sc__law_is_name.nd rfl (by first | exact Or.inl rfl | exact Or.inr rfl)))) (fun _ _ _ _ _ => x_yes) (fun _ _ _ _ _ => (c_EF (x_op2 (pe_cmpR op_inA (x_varB (pv 2)) (c_FB (x_c pe_str fun _ _ => .str _)) rfl) p_in)))))) (xr_nil pa_nil)))) p_all))) (s_nil pss_nil)))))))
theorem ok__law_are_counts (T : Top w K mg) {k : Nat} (ih : Oks P w base T k) : GOk P w K mg base CX0 (lv k + 1) T.a__law_are_counts T.d__law_are_counts ["_law_thing"] (spD K W0 1 (sem (k + 1) f__law_are_counts)) := by
  rw [e__law_are_counts]
  refine g_fn (N := ["_law_thing", "_law_one"]) (ps := ["_law_thing"]) (g := m__law_are_counts (sem k)) T.F__law_are_counts sc__law_are_counts (fun cdv A outer s H EX hr hq => ?_)
  have hc := hr
  exact (s_seq (pss_cons (s_if (ps_if (x_not (pt_not (x_truth (pt_truth (c_EB (x_isi (by decide) (pe_callB call_isi (by rfl) T.z_isinstance bt_isinstance (pa_cons (x_varB (pv 0)) (pa_cons (pe_bltn (by rfl) T.z_tuple bt_tuple rfl) pa_nil))))) (fun _ => rfl))))) (s_seq (pss_cons (s_ret (ps_ret (c_FE (x_c pe_bl fun _ _ => .bl _)))) (s_nil pss_nil))) (s_nil pss_nil))) (s_seq (pss_cons (s_ret (ps_ret (x_prim (pe_callB (cr_all rfl) (by rfl) T.z_all bt_all (xr_cons (pa_cons (c_EB (x_lc (by decide) (pe_lc (own := [("_law_one", 1)]) rfl sc__law_are_counts.nd (x_it (PI.or (pi_list (x_var (pv 0))) (PI.or (pi_tup (x_var (pv 0))) (pi_str (x_var (pv 0)))))) (blkOk_by (N := ["_law_thing", "_law_one"]) (sc := defScope s__law_are_counts) (by decide +kernel)) (fun _ _ _ _ _ => (x_gname (pg_name (i := 1) sc__law_are_counts.nd rfl (by first | exact Or.inl rfl | exact Or.inr rfl)))) (fun _ _ _ _ _ => x_yes) (fun _ _ _ _ _ => (c_EF (x_andV (pe_and (x_isi (by decide) (pe_callB call_isi (by rfl) T.z_isinstance bt_isinstance (pa_cons (x_varB (pv 1)) (pa_cons (pe_bltn (by rfl) T.z_int bt_int rfl) pa_nil)))) (x_andV (pe_and (x_notV (pe_not (x_isi (by decide) (pe_callB call_isi (by rfl) T.z_isinstance bt_isinstance (pa_cons (x_varB (pv 1)) (pa_cons (pe_bltn (by rfl) T.z_bool bt_bool rfl) pa_nil)))))) (pe_one (x_op2 (pe_cmpR op_ge (x_varB (pv 1)) (c_FB (x_c pe_int fun _ _ => .int _)) rfl) (p_cmp fun i j => decide (j ≤ i))))))))))))) (xr_nil pa_nil)))) p_all))) (s_nil pss_nil)))))
theorem ok__law_is_way (T : Top w K mg) {k : Nat} (ih : Oks P w base T k) : GOk P w K mg base CX0 (lv k + 1) T.a__law_is_way T.d__law_is_way ["_law_thing"] (spD K W0 1 (sem (k + 1) f__law_is_way)) := by
  rw [e__law_is_way]
  refine g_fn (N := ["_law_thing"]) (ps := ["_law_thing"]) (g := m__law_is_way (sem k)) T.F__law_is_way sc__law_is_way (fun cdv A outer s H EX hr hq => ?_)
  have hc := hr
  exact (s_seq (pss_cons (s_if (ps_if (PW.pt (x_or (pw_or (x_not (pt_not (x_truth (pt_truth (c_EB (x_isi (by decide) (pe_callB call_isi (by rfl) T.z_isinstance bt_isinstance (pa_cons (x_varB (pv 0)) (pa_cons (pe_bltn (by rfl) T.z_tuple bt_tuple rfl) pa_nil))))) (fun _ => rfl))))) (x_or (pw_or (x_test2 (pt_cmpR op_lt (c_EB (x_prim (pe_callB call_lenA (by rfl) T.z_len bt_len (xr_cons (pa_cons (x_varB (pv 0)) (xr_nil pa_nil)))) p_len)) (c_FB (x_c pe_int fun _ _ => .int _)) rfl) (p_cmp fun i j => decide (i < j))) (x_or (pw_or (x_not (pt_not (x_truth (pt_truth (c_EB (x_call rfl (g_call ih.i__law_is_name hc hq (by rfl) T.m__law_is_name T.F__law_is_name.kp T.b__law_is_name pass0 (xa_cons (pa_cons (c_EF (x_ix (pe_ix ix_seq (x_varB (pv 0)) (c_FB (x_c pe_int fun _ _ => .int _)) (fun _ _ => rfl)))) (xa_nil pa_nil)))))) (fun _ => rfl))))) (pw_or1 (x_not (pt_not (x_truth (pt_truth (c_EB (x_call rfl (g_call ih.i__law_is_name hc hq (by rfl) T.m__law_is_name T.F__law_is_name.kp T.b__law_is_name pass0 (xa_cons (pa_cons (c_EF (x_ix (pe_ix ix_seq (x_varB (pv 0)) (c_FB (x_c pe_int fun _ _ => .int _)) (fun _ _ => rfl)))) (xa_nil pa_nil)))))) (fun _ => rfl))))))))))))) (s_seq (pss_cons (s_ret (ps_ret (c_FE (x_c pe_bl fun _ _ => .bl _)))) (s_nil pss_nil))) (s_nil pss_nil))) (s_seq (pss_cons (s_ret (ps_ret (x_call rfl (g_call ih.i__law_are_counts hc hq (by rfl) T.m__law_are_counts T.F__law_are_counts.kp T.b__law_are_counts pass0 (xa_cons (pa_cons (c_EF (x_sl (pe_slice sl_A3 (x_varB (pv 0)) (x_so (c_FB (x_c pe_int fun _ _ => .int _))) x_no) p_sl)) (xa_nil pa_nil))))))) (s_nil pss_nil)))))
theorem ok__law_is_binder (T : Top w K mg) {k : Nat} (ih : Oks P w base T k) : GOk P w K mg base CX0 (lv k + 1) T.a__law_is_binder T.d__law_is_binder ["_law_thing"] (spD K W0 1 (sem (k + 1) f__law_is_binder)) := by
  rw [e__law_is_binder]
  refine g_fn (N := ["_law_thing"]) (ps := ["_law_thing"]) (g := m__law_is_binder (sem k)) T.F__law_is_binder sc__law_is_binder (fun cdv A outer s H EX hr hq => ?_)
  have hc := hr
  exact (s_seq (pss_cons (s_if (ps_if (PW.pt (x_or (pw_or (x_not (pt_not (x_truth (pt_truth (c_EB (x_isi (by decide) (pe_callB call_isi (by rfl) T.z_isinstance bt_isinstance (pa_cons (x_varB (pv 0)) (pa_cons (pe_bltn (by rfl) T.z_tuple bt_tuple rfl) pa_nil))))) (fun _ => rfl))))) (x_or (pw_or (x_test2 (pt_cmpR (op_eqE (un_of hr)) (x_varB (pv 0)) (c_FB (x_tup (pe_tup (xa_nil pa_nil)))) rfl) p_eqE) (pw_or1 (x_not (pt_not (x_truth (pt_truth (c_EB (x_isi (by decide) (pe_callB call_isi (by rfl) T.z_isinstance bt_isinstance (pa_cons (c_EB (x_ix (pe_ix ix_seq (x_varB (pv 0)) (c_FB (x_c pe_int fun _ _ => .int _)) (fun _ _ => rfl)))) (pa_cons (pe_bltn (by rfl) T.z_str bt_str rfl) pa_nil))))) (fun _ => rfl))))))))))) (s_seq (pss_cons (s_ret (ps_ret (c_FE (x_c pe_bl fun _ _ => .bl _)))) (s_nil pss_nil))) (s_nil pss_nil))) (s_seq (pss_cons (s_if (ps_if (x_test2 (pt_cmpR (op_eqW (un_of hr)) (c_EB (x_ix (pe_ix ix_seq (x_varB (pv 0)) (c_FB (x_c pe_int fun _ _ => .int _)) (fun _ _ => rfl)))) (c_FB (x_c pe_str fun _ _ => .str _)) rfl) p_eq) (s_seq (pss_cons (s_ret (ps_ret (x_andV (pe_and (x_op2 (pe_cmpR (op_eqW (un_of hr)) (c_EB (x_prim (pe_callB call_lenA (by rfl) T.z_len bt_len (xr_cons (pa_cons (x_varB (pv 0)) (xr_nil pa_nil)))) p_len)) (c_FB (x_c pe_int fun _ _ => .int _)) rfl) p_eq) (x_andV (pe_and (x_call rfl (g_call ih.i__law_is_name hc hq (by rfl) T.m__law_is_name T.F__law_is_name.kp T.b__law_is_name pass0 (xa_cons (pa_cons (c_EF (x_ix (pe_ix ix_seq (x_varB (pv 0)) (c_FB (x_c pe_int fun _ _ => .int _)) (fun _ _ => rfl)))) (xa_nil pa_nil))))) (x_andV (pe_and (x_call rfl (g_call ih.i__law_is_name hc hq (by rfl) T.m__law_is_name T.F__law_is_name.kp T.b__law_is_name pass0 (xa_cons (pa_cons (c_EF (x_ix (pe_ix ix_seq (x_varB (pv 0)) (c_FB (x_c pe_int fun _ _ => .int _)) (fun _ _ => rfl)))) (xa_nil pa_nil))))) (pe_one (x_call rfl (g_call ih.i__law_are_counts hc hq (by rfl) T.m__law_are_counts T.F__law_are_counts.kp T.b__law_are_counts pass0 (xa_cons (pa_cons (c_EF (x_sl (pe_slice sl_A3 (x_varB (pv 0)) (x_so (c_FB (x_c pe_int fun _ _ => .int _))) x_no) p_sl)) (xa_nil pa_nil)))))))))))))) (s_nil pss_nil))) (s_nil pss_nil))) (s_seq (pss_cons (s_ret (ps_ret (x_andV (pe_and (x_op2 (pe_cmpR op_inA (c_EB (x_ix (pe_ix ix_seq (x_varB (pv 0)) (c_FB (x_c pe_int fun _ _ => .int _)) (fun _ _ => rfl)))) (c_FB (x_tup (pe_tup (xa_cons (pa_cons (x_c pe_str fun _ _ => .str _) (xa_cons (pa_cons (x_c pe_str fun _ _ => .str _) (xa_cons (pa_cons (x_c pe_str fun _ _ => .str _) (xa_nil pa_nil)))))))))) rfl) p_in) (x_andV (pe_and (x_op2 (pe_cmpR (op_eqW (un_of hr)) (c_EB (x_prim (pe_callB call_lenA (by rfl) T.z_len bt_len (xr_cons (pa_cons (x_varB (pv 0)) (xr_nil pa_nil)))) p_len)) (c_FB (x_c pe_int fun _ _ => .int _)) rfl) p_eq) (pe_one (x_call rfl (g_call ih.i__law_is_way hc hq (by rfl) T.m__law_is_way T.F__law_is_way.kp T.b__law_is_way pass0 (xa_cons (pa_cons (c_EF (x_ix (pe_ix ix_seq (x_varB (pv 0)) (c_FB (x_c pe_int fun _ _ => .int _)) (fun _ _ => rfl)))) (xa_nil pa_nil)))))))))))) (s_nil pss_nil)))))))
theorem ok__law_fits (T : Top w K mg) {k : Nat} (ih : Oks P w base T k) : GOk P w K mg base CX0 (lv k + 1) T.a__law_fits T.d__law_fits ["_law_kind", "_law_thing"] (spD K W0 2 (sem (k + 1) f__law_fits)) := by
  rw [e__law_fits]
  refine g_fn (N := ["_law_kind", "_law_thing", "_law_one"]) (ps := ["_law_kind", "_law_thing"]) (g := m__law_fits (sem k)) T.F__law_fits sc__law_fits (fun cdv A outer s H EX hr hq => ?_)
  have hc := hr
  exact (s_seq (pss_cons (s_if (ps_if (x_test2 (pt_cmpR (op_eqW (un_of hr)) (x_varB (pv 0)) (c_FB (x_c pe_str fun _ _ => .str _)) rfl) p_eq) (s_seq (pss_cons (s_ret (ps_ret (x_call rfl (g_call ih.i__law_is_name hc hq (by rfl) T.m__law_is_name T.F__law_is_name.kp T.b__law_is_name pass0 (xa_cons (pa_cons (x_var (pv 1)) (xa_nil pa_nil))))))) (s_nil pss_nil))) (s_nil pss_nil))) (s_seq (pss_cons (s_if (ps_if (x_test2 (pt_cmpR (op_eqW (un_of hr)) (x_varB (pv 0)) (c_FB (x_c pe_str fun _ _ => .str _)) rfl) p_eq) (s_seq (pss_cons (s_ret (ps_ret (x_call rfl (g_call ih.i__law_is_way hc hq (by rfl) T.m__law_is_way T.F__law_is_way.kp T.b__law_is_way pass0 (xa_cons (pa_cons (x_var (pv 1)) (xa_nil pa_nil))))))) (s_nil pss_nil))) (s_nil pss_nil))) (s_seq (pss_cons (s_if (ps_if (x_test2 (pt_cmpR (op_eqW (un_of hr)) (x_varB (pv 0)) (c_FB (x_c pe_str fun _ _ => .str _)) rfl) p_eq) (s_seq (pss_cons (s_ret (ps_ret (x_call rfl (g_call ih.i__law_is_binder hc hq (by rfl) T.m__law_is_binder T.F__law_is_binder.kp T.b__law_is_binder pass0 (xa_cons (pa_cons (x_var (pv 1)) (xa_nil pa_nil))))))) (s_nil pss_nil))) (s_nil pss_nil))) (s_seq (pss_cons (s_if (ps_if (x_test2 (pt_cmpR (op_eqW (un_of hr)) (x_varB (pv 0)) (c_FB (x_c pe_str fun _ _ => .str _)) rfl) p_eq) (s_seq (pss_cons (s_ret (ps_ret (x_call rfl (g_call ih.i__law_are_counts hc hq (by rfl) T.m__law_are_counts T.F__law_are_counts.kp T.b__law_are_counts pass0 (xa_cons (pa_cons (x_tup (pe_tup (xa_cons (pa_cons (x_var (pv 1)) (xa_nil pa_nil))))) (xa_nil pa_nil))))))) (s_nil pss_nil))) (s_nil pss_nil))) (s_seq (pss_cons (s_if (ps_if (x_test2 (pt_cmpR (op_eqW (un_of hr)) (x_varB (pv 0)) (c_FB (x_c pe_str fun _ _ => .str _)) rfl) p_eq) (s_seq (pss_cons (s_ret (ps_ret (x_call rfl (g_call ih.i__law_are_counts hc hq (by rfl) T.m__law_are_counts T.F__law_are_counts.kp T.b__law_are_counts pass0 (xa_cons (pa_cons (x_var (pv 1)) (xa_nil pa_nil))))))) (s_nil pss_nil))) (s_nil pss_nil))) (s_seq (pss_cons (s_ret (ps_ret (x_andV (pe_and (x_isi (by decide) (pe_callB call_isi (by rfl) T.z_isinstance bt_isinstance (pa_cons (x_varB (pv 1)) (pa_cons (pe_bltn (by rfl) T.z_tuple bt_tuple rfl) pa_nil)))) (x_andV (pe_and (x_op2 (pe_cmpR (op_neE (un_of hr)) (x_varB (pv 1)) (c_FB (x_tup (pe_tup (xa_nil pa_nil)))) rfl) p_neE) (pe_one (x_prim (pe_callB (cr_all rfl) (by rfl) T.z_all bt_all (xr_cons (pa_cons (c_EB (x_lc (by decide) (pe_lc (own := [("_law_one", 2)]) rfl sc__law_fits.nd (x_it (PI.or (pi_list (x_var (pv 1))) (PI.or (pi_tup (x_var (pv 1))) (pi_str (x_var (pv 1)))))) (blkOk_by (N := ["_law_kind", "_law_thing", "_law_one"]) (sc := defScope s__law_fits) (by decide +kernel)) (fun _ _ _ _ _ => (x_gname (pg_name (i := 2) sc__law_fits.nd rfl (by first | exact Or.inl rfl | exact Or.inr rfl)))) (fun _ _ _ _ _ => x_yes) (fun _ _ _ _ _ => (c_EF (x_call rfl (g_call ih.i__law_is_way hc hq (by rfl) T.m__law_is_way T.F__law_is_way.kp T.b__law_is_way pass0 (xa_cons (pa_cons (x_var (pv 2)) (xa_nil pa_nil)))))))))) (xr_nil pa_nil)))) p_all)))))))) (s_nil pss_nil)))))))))))))
theorem ok__law_kinds (T : Top w K mg) {k : Nat} (ih : Oks P w base T k) : GOk P w K mg base CX0 (lv k + 1) T.a__law_kinds T.d__law_kinds ["_law_word"] (spD K W0 1 (sem (k + 1) f__law_kinds)) := by
  rw [e__law_kinds]
  refine g_fn (N := ["_law_word", "_law_some"]) (ps := ["_law_word"]) (g := m__law_kinds (sem k)) T.F__law_kinds sc__law_kinds (fun cdv A outer s H EX hr hq => ?_)
  have hc := hr
  exact (s_seq (pss_cons (s_set (ps_set (i := 1) sc__law_kinds.nd rfl (by first | exact Or.inl rfl | exact Or.inr rfl) (c_FE (x_disp (ks := ["free", "equal", "gather", "carve"]) (fs := [(dC (.str "binder name")), (dC (.str "way way")), (dC (.str "way name")), (dC (.str "way name count name"))]) rfl (pe_disp (pps_cons pe_str (x_c pe_str fun _ _ => .str _) (pps_cons pe_str (x_c pe_str fun _ _ => .str _) (pps_cons pe_str (x_c pe_str fun _ _ => .str _) (pps_cons pe_str (x_c pe_str fun _ _ => .str _) pps_nil)))) rfl rfl (by simp) (by decide)))))) (s_seq (pss_cons (s_expr (ps_expr (c_FE (x_upd (pe_dupd (x_varB (pv 1)) (c_FB (x_disp (ks := ["melt", "fold", "folds", "tidy"]) (fs := [(dC (.str "name name")), (dC (.str "way name name")), (dC (.str "name name")), (dC (.str "name name"))]) rfl (pe_disp (pps_cons pe_str (x_c pe_str fun _ _ => .str _) (pps_cons pe_str (x_c pe_str fun _ _ => .str _) (pps_cons pe_str (x_c pe_str fun _ _ => .str _) (pps_cons pe_str (x_c pe_str fun _ _ => .str _) pps_nil)))) rfl rfl (by simp) (by decide)))) ⟨rfl, rfl, rfl, rfl⟩))))) (s_seq (pss_cons (s_expr (ps_expr (c_FE (x_upd (pe_dupd (x_varB (pv 1)) (c_FB (x_disp (ks := ["bring", "order", "widen"]) (fs := [(dC (.str "name name name")), (dC (.str "name name order")), (dC (.str "name name name name ways"))]) rfl (pe_disp (pps_cons pe_str (x_c pe_str fun _ _ => .str _) (pps_cons pe_str (x_c pe_str fun _ _ => .str _) (pps_cons pe_str (x_c pe_str fun _ _ => .str _) pps_nil))) rfl rfl (by simp) (by decide)))) ⟨rfl, rfl, rfl, rfl⟩))))) (s_seq (pss_cons (s_ret (ps_ret (x_if (pe_ifExp (xt_din (pt_cmp (pc_din (hu_of hr) (x_varB (pv 0)) (x_varB (pv 1))))) (x_meth (pe_bm PySem.F.plainAttrs_str PySem.F.slot_str_split PySem.F.type_str_split mt_split (c_EB (x_dget (pe_dget (hu_of hr) (x_varB (pv 1)) (x_varB (pv 0)) (fun _ _ => rfl)))) (xr_cons (pa_cons (c_FB (x_c pe_str fun _ _ => .str _)) (xr_nil pa_nil)))) p_split) (c_FE (x_c pe_non fun _ _ => .non)))))) (s_nil pss_nil)))))))))
theorem ok__law_is_form (T : Top w K mg) {k : Nat} (ih : Oks P w base T k) : GOk P w K mg base CX0 (lv k + 1) T.a__law_is_form T.d__law_is_form ["_law_thing"] (spD K W0 1 (sem (k + 1) f__law_is_form)) := by
  rw [e__law_is_form]
  refine g_fn (N := ["_law_thing", "_law_kinds_here", "_law_kind", "_law_one"]) (ps := ["_law_thing"]) (g := m__law_is_form (sem k)) T.F__law_is_form sc__law_is_form (fun cdv A outer s H EX hr hq => ?_)
  have hc := hr
  exact (s_seq (pss_cons (s_if (ps_if (PW.pt (x_or (pw_or (x_not (pt_not (x_truth (pt_truth (c_EB (x_isi (by decide) (pe_callB call_isi (by rfl) T.z_isinstance bt_isinstance (pa_cons (x_varB (pv 0)) (pa_cons (pe_bltn (by rfl) T.z_tuple bt_tuple rfl) pa_nil))))) (fun _ => rfl))))) (x_or (pw_or (x_test2 (pt_cmpR (op_eqE (un_of hr)) (x_varB (pv 0)) (c_FB (x_tup (pe_tup (xa_nil pa_nil)))) rfl) p_eqE) (x_or (pw_or (x_not (pt_not (x_truth (pt_truth (c_EB (x_isi (by decide) (pe_callB call_isi (by rfl) T.z_isinstance bt_isinstance (pa_cons (c_EB (x_ix (pe_ix ix_seq (x_varB (pv 0)) (c_FB (x_c pe_int fun _ _ => .int _)) (fun _ _ => rfl)))) (pa_cons (pe_bltn (by rfl) T.z_str bt_str rfl) pa_nil))))) (fun _ => rfl))))) (pw_or1 (x_test2 (pt_cmpR op_isA (c_EB (x_call rfl (g_call ih.i__law_kinds hc hq (by rfl) T.m__law_kinds T.F__law_kinds.kp T.b__law_kinds pass0 (xa_cons (pa_cons (c_EF (x_ix (pe_ix ix_seq (x_varB (pv 0)) (c_FB (x_c pe_int fun _ _ => .int _)) (fun _ _ => rfl)))) (xa_nil pa_nil)))))) (c_FB (x_c pe_non fun _ _ => .non)) rfl) p_is))))))))) (s_seq (pss_cons (s_ret (ps_ret (c_FE (x_c pe_bl fun _ _ => .bl _)))) (s_nil pss_nil))) (s_nil pss_nil))) (s_seq (pss_cons (s_set (ps_set (i := 1) sc__law_is_form.nd rfl (by first | exact Or.inl rfl | exact Or.inr rfl) (c_FE (c_EF (x_call rfl (g_call ih.i__law_kinds hc hq (by rfl) T.m__law_kinds T.F__law_kinds.kp T.b__law_kinds pass0 (xa_cons (pa_cons (c_EF (x_ix (pe_ix ix_seq (x_varB (pv 0)) (c_FB (x_c pe_int fun _ _ => .int _)) (fun _ _ => rfl)))) (xa_nil pa_nil))))))))) (s_seq (pss_cons (s_ret (ps_ret (x_andV (pe_and (x_op2 (pe_cmpR (op_eqW (un_of hr)) (c_EB (x_prim (pe_callB call_lenA (by rfl) T.z_len bt_len (xr_cons (pa_cons (x_varB (pv 0)) (xr_nil pa_nil)))) p_len)) (c_EB (x_op2 (pe_op op_addA (c_EB (x_prim (pe_callB call_lenA (by rfl) T.z_len bt_len (xr_cons (pa_cons (x_varB (pv 1)) (xr_nil pa_nil)))) p_len)) (c_FB (x_c pe_int fun _ _ => .int _))) p_add)) rfl) p_eq) (pe_one (x_prim (pe_callB (cr_all rfl) (by rfl) T.z_all bt_all (xr_cons (pa_cons (c_EB (x_lc (by decide) (pe_lc (own := [("_law_kind", 2), ("_law_one", 3)]) rfl sc__law_is_form.nd (x_zipG (pi_zipG (by rfl) T.z_zip (xa_cons (pa_cons (x_var (pv 1)) (xa_cons (pa_cons (c_EF (x_sl (pe_slice sl_A3 (x_varB (pv 0)) (x_so (c_FB (x_c pe_int fun _ _ => .int _))) x_no) p_sl)) (xa_nil pa_nil))))))) (blkOk_by (N := ["_law_thing", "_law_kinds_here", "_law_kind", "_law_one"]) (sc := defScope s__law_is_form) (by decide +kernel)) (fun _ _ _ _ _ => (x_gtup (is := [2, 3]) rfl (pg_tup rfl (pgs_cons (pg_name (i := 2) sc__law_is_form.nd rfl (by first | exact Or.inl rfl | exact Or.inr rfl)) (pgs_cons (pg_name (i := 3) sc__law_is_form.nd rfl (by first | exact Or.inl rfl | exact Or.inr rfl)) pgs_nil))))) (fun _ _ _ _ _ => x_yes) (fun _ _ _ _ _ => (c_EF (x_call rfl (g_call ih.i__law_fits hc hq (by rfl) T.m__law_fits T.F__law_fits.kp T.b__law_fits pass0 (xa_cons (pa_cons (x_var (pv 2)) (xa_cons (pa_cons (x_var (pv 3)) (xa_nil pa_nil)))))))))))) (xr_nil pa_nil)))) p_all)))))) (s_nil pss_nil)))))))
theorem ok__law_part (T : Top w K mg) {k : Nat} (ih : Oks P w base T k) : GOk P w K mg base CX0 (lv k + 1) T.a__law_part T.d__law_part ["_law_kind", "_law_names_here", "_law_n"] (spD K W0 3 (sem (k + 1) f__law_part)) := by
  rw [e__law_part]
  refine g_fn (N := ["_law_kind", "_law_names_here", "_law_n", "_law_way", "_law_k"]) (ps := ["_law_kind", "_law_names_here", "_law_n"]) (g := m__law_part (sem k)) T.F__law_part sc__law_part (fun cdv A outer s H EX hr hq => ?_)
  have hc := hr
  exact (s_seq (pss_cons (s_set (ps_set (i := 3) sc__law_part.nd rfl (by first | exact Or.inl rfl | exact Or.inr rfl) (c_FE (c_EF (x_op2 (pe_op op_addA (c_FB (x_tup (pe_tup (xa_cons (pa_cons (c_EF (x_ix (pe_ix ix_seq (x_varB (pv 1)) (c_EB (x_op2 (pe_op op_modA (x_varB (pv 2)) (c_FB (x_c pe_int fun _ _ => .int _))) p_mod)) (fun _ _ => rfl)))) (xa_cons (pa_cons (c_EF (x_ix (pe_ix ix_seq (x_varB (pv 1)) (c_EB (x_op2 (pe_op op_modA (c_EB (x_op2 (pe_op op_fdivA (x_varB (pv 2)) (c_FB (x_c pe_int fun _ _ => .int _))) p_fdiv)) (c_FB (x_c pe_int fun _ _ => .int _))) p_mod)) (fun _ _ => rfl)))) (xa_nil pa_nil)))))))) (c_EB (x_prim (pe_callTy call_tuple_of (by rfl) T.z_tuple bt_tuple (xr_cons (pa_cons (c_EB (x_lc (by decide) (pe_lc (own := [("_law_k", 4)]) rfl sc__law_part.nd (x_rng1 (pi_range1 (by rfl) T.z_range (xr_cons (pa_cons (c_EB (x_op2 (pe_op op_modA (c_EB (x_op2 (pe_op op_fdivA (x_varB (pv 2)) (c_FB (x_c pe_int fun _ _ => .int _))) p_fdiv)) (c_FB (x_c pe_int fun _ _ => .int _))) p_mod)) (xr_nil pa_nil))))) (blkOk_by (N := ["_law_kind", "_law_names_here", "_law_n", "_law_way", "_law_k"]) (sc := defScope s__law_part) (by decide +kernel)) (fun _ _ _ _ _ => (x_gname (pg_name (i := 4) sc__law_part.nd rfl (by first | exact Or.inl rfl | exact Or.inr rfl)))) (fun _ _ _ _ _ => x_yes) (fun _ _ _ _ _ => (c_EF (x_op2 (pe_op op_modA (c_EB (x_op2 (pe_op op_fdivA (x_varB (pv 2)) (c_EB (x_op2 (pe_op op_addA (c_FB (x_c pe_int fun _ _ => .int _)) (c_EB (x_op2 (pe_op op_mulA (c_FB (x_c pe_int fun _ _ => .int _)) (x_varB (pv 4))) p_mul))) p_add))) p_fdiv)) (c_FB (x_c pe_int fun _ _ => .int _))) p_mod)))))) (xr_nil pa_nil)))) p_tuple))) p_add))))) (s_seq (pss_cons (s_if (ps_if (x_test2 (pt_cmpR (op_eqW (un_of hr)) (x_varB (pv 0)) (c_FB (x_c pe_str fun _ _ => .str _)) rfl) p_eq) (s_seq (pss_cons (s_ret (ps_ret (x_ix (pe_ix ix_seq (c_EB (x_lst (pe_lst (xa_cons (pa_cons (c_EF (x_op2 (pe_op op_addA (c_EB (x_op2 (pe_op op_addA (c_FB (x_tup (pe_tup (xa_cons (pa_cons (x_c pe_str fun _ _ => .str _) (xa_nil pa_nil)))))) (c_EB (x_sl (pe_slice sl_A3 (x_varB (pv 3)) x_no (x_so (c_FB (x_c pe_int fun _ _ => .int _)))) p_sl))) p_add)) (c_FB (x_tup (pe_tup (xa_cons (pa_cons (c_EF (x_op2 (pe_op op_modA (x_varB (pv 2)) (c_FB (x_c pe_int fun _ _ => .int _))) p_mod)) (xa_nil pa_nil))))))) p_add)) (xa_cons (pa_cons (x_tup (pe_tup (xa_cons (pa_cons (x_c pe_str fun _ _ => .str _) (xa_cons (pa_cons (x_var (pv 3)) (xa_nil pa_nil))))))) (xa_cons (pa_cons (x_tup (pe_tup (xa_cons (pa_cons (x_c pe_str fun _ _ => .str _) (xa_cons (pa_cons (x_var (pv 3)) (xa_nil pa_nil))))))) (xa_cons (pa_cons (x_tup (pe_tup (xa_cons (pa_cons (x_c pe_str fun _ _ => .str _) (xa_cons (pa_cons (x_var (pv 3)) (xa_nil pa_nil))))))) (xa_nil pa_nil)))))))))))) (c_EB (x_op2 (pe_op op_modA (c_EB (x_op2 (pe_op op_fdivA (x_varB (pv 2)) (c_FB (x_c pe_int fun _ _ => .int _))) p_fdiv)) (c_FB (x_c pe_int fun _ _ => .int _))) p_mod)) (fun _ _ => rfl))))) (s_nil pss_nil))) (s_nil pss_nil))) (s_seq (pss_cons (s_if (ps_if (x_test2 (pt_cmpR (op_eqW (un_of hr)) (x_varB (pv 0)) (c_FB (x_c pe_str fun _ _ => .str _)) rfl) p_eq) (s_seq (pss_cons (s_ret (ps_ret (x_prim (pe_callTy call_tuple_of (by rfl) T.z_tuple bt_tuple (xr_cons (pa_cons (c_EB (x_lc (by decide) (pe_lc (own := [("_law_k", 4)]) rfl sc__law_part.nd (x_rng1 (pi_range1 (by rfl) T.z_range (xr_cons (pa_cons (c_EB (x_op2 (pe_op op_modA (c_EB (x_op2 (pe_op op_fdivA (x_varB (pv 2)) (c_FB (x_c pe_int fun _ _ => .int _))) p_fdiv)) (c_FB (x_c pe_int fun _ _ => .int _))) p_mod)) (xr_nil pa_nil))))) (blkOk_by (N := ["_law_kind", "_law_names_here", "_law_n", "_law_way", "_law_k"]) (sc := defScope s__law_part) (by decide +kernel)) (fun _ _ _ _ _ => (x_gname (pg_name (i := 4) sc__law_part.nd rfl (by first | exact Or.inl rfl | exact Or.inr rfl)))) (fun _ _ _ _ _ => x_yes) (fun _ _ _ _ _ => (c_EF (x_op2 (pe_op op_modA (c_EB (x_op2 (pe_op op_addA (x_varB (pv 2)) (c_EB (x_op2 (pe_op op_mulA (c_FB (x_c pe_int fun _ _ => .int _)) (x_varB (pv 4))) p_mul))) p_add)) (c_FB (x_c pe_int fun _ _ => .int _))) p_mod)))))) (xr_nil pa_nil)))) p_tuple))) (s_nil pss_nil))) (s_nil pss_nil))) (s_seq (pss_cons (s_if (ps_if (x_test2 (pt_cmpR (op_eqW (un_of hr)) (x_varB (pv 0)) (c_FB (x_c pe_str fun _ _ => .str _)) rfl) p_eq) (s_seq (pss_cons (s_ret (ps_ret (x_prim (pe_callTy call_tuple_of (by rfl) T.z_tuple bt_tuple (xr_cons (pa_cons (c_EB (x_lc (by decide) (pe_lc (own := [("_law_k", 4)]) rfl sc__law_part.nd (x_rng1 (pi_range1 (by rfl) T.z_range (xr_cons (pa_cons (c_EB (x_op2 (pe_op op_addA (c_FB (x_c pe_int fun _ _ => .int _)) (c_EB (x_op2 (pe_op op_modA (c_EB (x_op2 (pe_op op_fdivA (x_varB (pv 2)) (c_FB (x_c pe_int fun _ _ => .int _))) p_fdiv)) (c_FB (x_c pe_int fun _ _ => .int _))) p_mod))) p_add)) (xr_nil pa_nil))))) (blkOk_by (N := ["_law_kind", "_law_names_here", "_law_n", "_law_way", "_law_k"]) (sc := defScope s__law_part) (by decide +kernel)) (fun _ _ _ _ _ => (x_gname (pg_name (i := 4) sc__law_part.nd rfl (by first | exact Or.inl rfl | exact Or.inr rfl)))) (fun _ _ _ _ _ => x_yes) (fun _ _ _ _ _ => (c_EF (x_op2 (pe_op op_addA (c_EB (x_sl (pe_slice sl_A3 (x_varB (pv 3)) x_no (x_so (c_FB (x_c pe_int fun _ _ => .int _)))) p_sl)) (c_FB (x_tup (pe_tup (xa_cons (pa_cons (x_var (pv 4)) (xa_nil pa_nil))))))) p_add)))))) (xr_nil pa_nil)))) p_tuple))) (s_nil pss_nil))) (s_nil pss_nil))) (s_seq (pss_cons (s_ret (ps_ret (x_dget (pe_dget (hu_of hr) (c_FB (x_disp (ks := ["name", "way", "count"]) (fs := [(dEF (dOp2 idxD (dVarB 1) (dEF (dOp2 modD (dEF (dOp2 fdivD (dVarB 2) (dC (.int 3)))) (dC (.int 16)))))), (dVar 3), (dEF (dOp2 modD (dEF (dOp2 fdivD (dVarB 2) (dC (.int 3)))) (dC (.int 40))))]) rfl (pe_disp (pps_cons pe_str (c_EF (x_ix (pe_ix ix_seq (x_varB (pv 1)) (c_EB (x_op2 (pe_op op_modA (c_EB (x_op2 (pe_op op_fdivA (x_varB (pv 2)) (c_FB (x_c pe_int fun _ _ => .int _))) p_fdiv)) (c_FB (x_c pe_int fun _ _ => .int _))) p_mod)) (fun _ _ => rfl)))) (pps_cons pe_str (x_var (pv 3)) (pps_cons pe_str (c_EF (x_op2 (pe_op op_modA (c_EB (x_op2 (pe_op op_fdivA (x_varB (pv 2)) (c_FB (x_c pe_int fun _ _ => .int _))) p_fdiv)) (c_FB (x_c pe_int fun _ _ => .int _))) p_mod)) pps_nil))) rfl rfl (by simp) (by decide)))) (x_varB (pv 0)) (fun _ _ => rfl))))) (s_nil pss_nil)))))))))))
theorem ok__law_odd (T : Top w K mg) {k : Nat} (ih : Oks P w base T k) : GOk P w K mg base CX0 (lv k + 1) T.a__law_odd T.d__law_odd ["_law_names_here", "_law_n"] (spD K W0 2 (sem (k + 1) f__law_odd)) := by
  rw [e__law_odd]
  refine g_fn (N := ["_law_names_here", "_law_n", "_law_some", "_law_a", "_law_b"]) (ps := ["_law_names_here", "_law_n"]) (g := m__law_odd (sem k)) T.F__law_odd sc__law_odd (fun cdv A outer s H EX hr hq => ?_)
  have hc := hr
  exact (s_seq (pss_cons (s_asg (ps_asg (c_EF (x_sl (pe_slice sl_A3 (x_varB (pv 0)) x_no (x_so (c_FB (x_c pe_int fun _ _ => .int _)))) p_sl)) (x_glst (is := [3, 4]) rfl (pg_lst rfl (pgs_cons (pg_name (i := 3) sc__law_odd.nd rfl (by first | exact Or.inl rfl | exact Or.inr rfl)) (pgs_cons (pg_name (i := 4) sc__law_odd.nd rfl (by first | exact Or.inl rfl | exact Or.inr rfl)) pgs_nil)))))) (s_seq (pss_cons (s_set (ps_set (i := 2) sc__law_odd.nd rfl (by first | exact Or.inl rfl | exact Or.inr rfl) (x_lst (pe_lst (xa_cons (pa_cons (x_c pe_non fun _ _ => .non) (xa_cons (pa_cons (x_c pe_int fun _ _ => .int _) (xa_cons (pa_cons (x_c pe_bl fun _ _ => .bl _) (xa_cons (pa_cons (c_EF (x_op1 (pe_un un_neg (c_FB (x_c pe_int fun _ _ => .int _))) p_neg)) (xa_cons (pa_cons (x_c pe_str fun _ _ => .str _) (xa_cons (pa_cons (x_c pe_str fun _ _ => .str _) (xa_cons (pa_cons (x_c pe_str fun _ _ => .str _) (xa_cons (pa_cons (x_c pe_str fun _ _ => .str _) (xa_cons (pa_cons (x_c pe_str fun _ _ => .str _) (xa_cons (pa_cons (x_var (pv 3)) (xa_cons (pa_cons (x_tup (pe_tup (xa_cons (pa_cons (x_var (pv 3)) (xa_nil pa_nil))))) (xa_cons (pa_cons (x_tup (pe_tup (xa_cons (pa_cons (x_var (pv 3)) (xa_cons (pa_cons (x_var (pv 4)) (xa_nil pa_nil))))))) (xa_cons (pa_cons (x_tup (pe_tup (xa_cons (pa_cons (x_var (pv 3)) (xa_cons (pa_cons (x_var (pv 4)) (xa_cons (pa_cons (c_EF (x_op1 (pe_un un_neg (c_FB (x_c pe_int fun _ _ => .int _))) p_neg)) (xa_nil pa_nil))))))))) (xa_cons (pa_cons (x_tup (pe_tup (xa_cons (pa_cons (x_var (pv 3)) (xa_cons (pa_cons (x_var (pv 4)) (xa_cons (pa_cons (x_c pe_bl fun _ _ => .bl _) (xa_nil pa_nil))))))))) (xa_cons (pa_cons (x_tup (pe_tup (xa_cons (pa_cons (x_var (pv 3)) (xa_cons (pa_cons (x_c pe_str fun _ _ => .str _) (xa_nil pa_nil))))))) (xa_nil pa_nil))))))))))))))))))))))))))))))))))) (s_seq (pss_cons (s_set (ps_set (i := 2) sc__law_odd.nd rfl (by first | exact Or.inl rfl | exact Or.inr rfl) (x_op2 (pe_op op_addA (x_varB (pv 2)) (c_EB (x_lst (pe_lst (xa_cons (pa_cons (c_EF (x_lst (pe_lst (xa_cons (pa_cons (x_var (pv 3)) (xa_cons (pa_cons (x_var (pv 4)) (xa_nil pa_nil)))))))) (xa_cons (pa_cons (x_tup (pe_tup (xa_cons (pa_cons (x_var (pv 3)) (xa_cons (pa_cons (x_var (pv 4)) (xa_cons (pa_cons (x_c pe_int fun _ _ => .int _) (xa_cons (pa_cons (x_c pe_int fun _ _ => .int _) (xa_nil pa_nil))))))))))) (xa_cons (pa_cons (x_tup (pe_tup (xa_cons (pa_cons (x_var (pv 3)) (xa_cons (pa_cons (x_var (pv 4)) (xa_cons (pa_cons (x_c pe_str fun _ _ => .str _) (xa_nil pa_nil))))))))) (xa_cons (pa_cons (x_tup (pe_tup (xa_cons (pa_cons (x_tup (pe_tup (xa_cons (pa_cons (x_var (pv 3)) (xa_cons (pa_cons (x_var (pv 4)) (xa_nil pa_nil))))))) (xa_nil pa_nil))))) (xa_cons (pa_cons (x_tup (pe_tup (xa_nil pa_nil))) (xa_cons (pa_cons (x_dnewK pe_dnewK) (xa_cons (pa_cons (x_tup (pe_tup (xa_cons (pa_cons (x_c pe_str fun _ _ => .str _) (xa_cons (pa_cons (x_tup (pe_tup (xa_cons (pa_cons (x_var (pv 3)) (xa_cons (pa_cons (x_var (pv 4)) (xa_nil pa_nil))))))) (xa_nil pa_nil))))))) (xa_cons (pa_cons (x_tup (pe_tup (xa_cons (pa_cons (x_c pe_str fun _ _ => .str _) (xa_cons (pa_cons (x_var (pv 3)) (xa_cons (pa_cons (x_var (pv 4)) (xa_cons (pa_cons (x_c pe_int fun _ _ => .int _) (xa_nil pa_nil))))))))))) (xa_cons (pa_cons (c_EF (x_op2 (pe_op op_pow (c_FB (x_c pe_int fun _ _ => .int _)) (c_FB (x_c pe_int fun _ _ => .int _))) p_pow)) (xa_nil pa_nil))))))))))))))))))))))) p_add))) (s_seq (pss_cons (s_set (ps_set (i := 2) sc__law_odd.nd rfl (by first | exact Or.inl rfl | exact Or.inr rfl) (x_op2 (pe_op op_addA (x_varB (pv 2)) (c_EB (x_lst (pe_lst (xa_cons (pa_cons (x_tup (pe_tup (xa_cons (pa_cons (x_c pe_str fun _ _ => .str _) (xa_cons (pa_cons (x_var (pv 3)) (xa_cons (pa_cons (x_var (pv 4)) (xa_cons (pa_cons (x_c pe_bl fun _ _ => .bl _) (xa_nil pa_nil))))))))))) (xa_cons (pa_cons (x_tup (pe_tup (xa_cons (pa_cons (x_c pe_str fun _ _ => .str _) (xa_cons (pa_cons (x_var (pv 3)) (xa_cons (pa_cons (x_var (pv 4)) (xa_nil pa_nil))))))))) (xa_cons (pa_cons (x_tup (pe_tup (xa_cons (pa_cons (x_c pe_str fun _ _ => .str _) (xa_cons (pa_cons (x_tup (pe_tup (xa_cons (pa_cons (x_var (pv 3)) (xa_cons (pa_cons (x_var (pv 4)) (xa_nil pa_nil))))))) (xa_nil pa_nil))))))) (xa_cons (pa_cons (x_tup (pe_tup (xa_cons (pa_cons (x_c pe_str fun _ _ => .str _) (xa_cons (pa_cons (x_var (pv 3)) (xa_nil pa_nil))))))) (xa_cons (pa_cons (x_tup (pe_tup (xa_cons (pa_cons (x_c pe_str fun _ _ => .str _) (xa_cons (pa_cons (x_tup (pe_tup (xa_cons (pa_cons (x_var (pv 3)) (xa_nil pa_nil))))) (xa_nil pa_nil))))))) (xa_cons (pa_cons (x_tup (pe_tup (xa_cons (pa_cons (x_c pe_int fun _ _ => .int _) (xa_cons (pa_cons (x_c pe_int fun _ _ => .int _) (xa_nil pa_nil))))))) (xa_nil pa_nil))))))))))))))))) p_add))) (s_seq (pss_cons (s_app (ps_expr (pe_bm PySem.F.plainAttrs_list PySem.F.slot_list_append PySem.F.type_list_append mt_append (pv 2) (pa_cons (x_tup (pe_tup (xa_cons (pa_cons (x_c pe_int fun _ _ => .int _) (xa_cons (pa_cons (x_c pe_bl fun _ _ => .bl _) (xa_nil pa_nil))))))) pa_nil)))) (s_seq (pss_cons (s_set (ps_set (i := 2) sc__law_odd.nd rfl (by first | exact Or.inl rfl | exact Or.inr rfl) (x_op2 (pe_op op_addA (x_varB (pv 2)) (c_EB (x_lst (pe_lst (xa_cons (pa_cons (c_EF (x_lst (pe_lst (xa_cons (pa_cons (x_c pe_int fun _ _ => .int _) (xa_cons (pa_cons (x_c pe_int fun _ _ => .int _) (xa_nil pa_nil)))))))) (xa_cons (pa_cons (x_tup (pe_tup (xa_cons (pa_cons (x_c pe_int fun _ _ => .int _) (xa_cons (pa_cons (c_EF (x_op1 (pe_un un_neg (c_FB (x_c pe_int fun _ _ => .int _))) p_neg)) (xa_nil pa_nil))))))) (xa_cons (pa_cons (x_tup (pe_tup (xa_cons (pa_cons (x_tup (pe_tup (xa_cons (pa_cons (x_var (pv 3)) (xa_cons (pa_cons (x_var (pv 4)) (xa_nil pa_nil))))))) (xa_cons (pa_cons (x_tup (pe_tup (xa_cons (pa_cons (x_var (pv 3)) (xa_nil pa_nil))))) (xa_nil pa_nil))))))) (xa_cons (pa_cons (c_EF (x_lst (pe_lst (xa_cons (pa_cons (x_tup (pe_tup (xa_cons (pa_cons (x_var (pv 3)) (xa_cons (pa_cons (x_var (pv 4)) (xa_nil pa_nil))))))) (xa_nil pa_nil)))))) (xa_cons (pa_cons (x_tup (pe_tup (xa_cons (pa_cons (x_var (pv 3)) (xa_cons (pa_cons (x_var (pv 4)) (xa_cons (pa_cons (x_c pe_non fun _ _ => .non) (xa_nil pa_nil))))))))) (xa_cons (pa_cons (x_c pe_str fun _ _ => .str _) (xa_cons (pa_cons (x_tup (pe_tup (xa_cons (pa_cons (x_c pe_str fun _ _ => .str _) (xa_cons (pa_cons (x_tup (pe_tup (xa_cons (pa_cons (x_var (pv 3)) (xa_cons (pa_cons (x_var (pv 4)) (xa_nil pa_nil))))))) (xa_cons (pa_cons (x_c pe_int fun _ _ => .int _) (xa_nil pa_nil))))))))) (xa_nil pa_nil))))))))))))))))))) p_add))) (s_seq (pss_cons (s_ret (ps_ret (x_ix (pe_ix ix_seq (x_varB (pv 2)) (c_EB (x_op2 (pe_op op_modA (x_varB (pv 1)) (c_FB (x_c pe_int fun _ _ => .int _))) p_mod)) (fun _ _ => rfl))))) (s_nil pss_nil)))))))))))))))
theorem ok__law_bent (T : Top w K mg) {k : Nat} (ih : Oks P w base T k) : GOk P w K mg base CX0 (lv k + 1) T.a__law_bent T.d__law_bent ["_law_thing", "_law_names_here", "_law_n"] (spD K W0 3 (sem (k + 1) f__law_bent)) := by
  rw [e__law_bent]
  refine g_fn (N := ["_law_thing", "_law_names_here", "_law_n", "_law_way", "_law_at"]) (ps := ["_law_thing", "_law_names_here", "_law_n"]) (g := m__law_bent (sem k)) T.F__law_bent sc__law_bent (fun cdv A outer s H EX hr hq => ?_)
  have hc := hr
  exact (s_seq (pss_cons (s_set (ps_set (i := 3) sc__law_bent.nd rfl (by first | exact Or.inl rfl | exact Or.inr rfl) (c_FE (c_EF (x_op2 (pe_op op_modA (x_varB (pv 2)) (c_FB (x_c pe_int fun _ _ => .int _))) p_mod))))) (s_seq (pss_cons (s_set (ps_set (i := 4) sc__law_bent.nd rfl (by first | exact Or.inl rfl | exact Or.inr rfl) (c_FE (c_EF (x_op2 (pe_op op_modA (c_EB (x_op2 (pe_op op_fdivA (x_varB (pv 2)) (c_FB (x_c pe_int fun _ _ => .int _))) p_fdiv)) (c_EB (x_prim (pe_callB call_lenA (by rfl) T.z_len bt_len (xr_cons (pa_cons (x_varB (pv 0)) (xr_nil pa_nil)))) p_len))) p_mod))))) (s_seq (pss_cons (s_if (ps_if (x_test2 (pt_cmpR op_lt (x_varB (pv 3)) (c_FB (x_c pe_int fun _ _ => .int _)) rfl) (p_cmp fun i j => decide (i < j))) (s_seq (pss_cons (s_ret (ps_ret (x_op2 (pe_op op_addA (c_EB (x_op2 (pe_op op_addA (c_EB (x_sl (pe_slice sl_A3 (x_varB (pv 0)) x_no (x_so (x_varB (pv 4)))) p_sl)) (c_FB (x_tup (pe_tup (xa_cons (pa_cons (c_EF (x_call rfl (g_call ih.i__law_odd hc hq (by rfl) T.m__law_odd T.F__law_odd.kp T.b__law_odd pass0 (xa_cons (pa_cons (x_var (pv 1)) (xa_cons (pa_cons (c_EF (x_op2 (pe_op op_fdivA (x_varB (pv 2)) (c_FB (x_c pe_int fun _ _ => .int _))) p_fdiv)) (xa_nil pa_nil)))))))) (xa_nil pa_nil))))))) p_add)) (c_EB (x_sl (pe_slice sl_A3 (x_varB (pv 0)) (x_so (c_EB (x_op2 (pe_op op_addA (x_varB (pv 4)) (c_FB (x_c pe_int fun _ _ => .int _))) p_add))) x_no) p_sl))) p_add))) (s_nil pss_nil))) (s_nil pss_nil))) (s_seq (pss_cons (s_if (ps_if (x_test2 (pt_cmpR (op_eqW (un_of hr)) (x_varB (pv 3)) (c_FB (x_c pe_int fun _ _ => .int _)) rfl) p_eq) (s_seq (pss_cons (s_ret (ps_ret (x_op2 (pe_op op_addA (c_EB (x_sl (pe_slice sl_A3 (x_varB (pv 0)) x_no (x_so (x_varB (pv 4)))) p_sl)) (c_EB (x_sl (pe_slice sl_A3 (x_varB (pv 0)) (x_so (c_EB (x_op2 (pe_op op_addA (x_varB (pv 4)) (c_FB (x_c pe_int fun _ _ => .int _))) p_add))) x_no) p_sl))) p_add))) (s_nil pss_nil))) (s_nil pss_nil))) (s_seq (pss_cons (s_if (ps_if (x_test2 (pt_cmpR (op_eqW (un_of hr)) (x_varB (pv 3)) (c_FB (x_c pe_int fun _ _ => .int _)) rfl) p_eq) (s_seq (pss_cons (s_ret (ps_ret (x_op2 (pe_op op_addA (c_EB (x_op2 (pe_op op_addA (c_EB (x_sl (pe_slice sl_A3 (x_varB (pv 0)) x_no (x_so (x_varB (pv 4)))) p_sl)) (c_FB (x_tup (pe_tup (xa_cons (pa_cons (c_EF (x_call rfl (g_call ih.i__law_odd hc hq (by rfl) T.m__law_odd T.F__law_odd.kp T.b__law_odd pass0 (xa_cons (pa_cons (x_var (pv 1)) (xa_cons (pa_cons (c_EF (x_op2 (pe_op op_fdivA (x_varB (pv 2)) (c_FB (x_c pe_int fun _ _ => .int _))) p_fdiv)) (xa_nil pa_nil)))))))) (xa_nil pa_nil))))))) p_add)) (c_EB (x_sl (pe_slice sl_A3 (x_varB (pv 0)) (x_so (x_varB (pv 4))) x_no) p_sl))) p_add))) (s_nil pss_nil))) (s_nil pss_nil))) (s_seq (pss_cons (s_ret (ps_ret (x_ix (pe_ix ix_seq (c_EB (x_lst (pe_lst (xa_cons (pa_cons (c_EF (x_prim (pe_callTy call_list_of (by rfl) T.z_list bt_list (xr_cons (pa_cons (x_varB (pv 0)) (xr_nil pa_nil)))) p_list)) (xa_cons (pa_cons (c_EF (x_op2 (pe_op op_addA (c_FB (x_tup (pe_tup (xa_cons (pa_cons (c_EF (x_ix (pe_ix ix_seq (c_EB (x_lst (pe_lst (xa_cons (pa_cons (x_c pe_str fun _ _ => .str _) (xa_cons (pa_cons (x_c pe_str fun _ _ => .str _) (xa_cons (pa_cons (x_c pe_str fun _ _ => .str _) (xa_cons (pa_cons (x_c pe_str fun _ _ => .str _) (xa_cons (pa_cons (x_c pe_str fun _ _ => .str _) (xa_nil pa_nil)))))))))))))) (c_EB (x_op2 (pe_op op_modA (c_EB (x_op2 (pe_op op_fdivA (x_varB (pv 2)) (c_FB (x_c pe_int fun _ _ => .int _))) p_fdiv)) (c_FB (x_c pe_int fun _ _ => .int _))) p_mod)) (fun _ _ => rfl)))) (xa_nil pa_nil)))))) (c_EB (x_sl (pe_slice sl_A3 (x_varB (pv 0)) (x_so (c_FB (x_c pe_int fun _ _ => .int _))) x_no) p_sl))) p_add)) (xa_nil pa_nil)))))))) (c_EB (x_op2 (pe_op op_sub (x_varB (pv 3)) (c_FB (x_c pe_int fun _ _ => .int _))) p_sub)) (fun _ _ => rfl))))) (s_nil pss_nil)))))))))))))
theorem ok__law_refused (T : Top w K mg) {k : Nat} (ih : Oks P w base T k) : GOk P w K mg base CX0 (lv k + 1) T.a__law_refused T.d__law_refused ["_law_program", "_law_thing"] (spD K W0 2 (sem (k + 1) f__law_refused)) := by
  rw [e__law_refused]
  refine g_fn (N := ["_law_program", "_law_thing", "_law_caught", "_law_others", "e"]) (ps := ["_law_program", "_law_thing"]) (g := m__law_refused (sem k)) T.F__law_refused sc__law_refused (fun cdv A outer s H EX hr hq => ?_)
  have hc := hr
  exact (s_seq (pss_cons (s_set (ps_set (i := 2) sc__law_refused.nd rfl (by first | exact Or.inl rfl | exact Or.inr rfl) (c_FE (x_c pe_non fun _ _ => .non)))) (s_seq (pss_cons (s_hold (by decide) T.co_0.at (ps_try_hold (i := 4) (j := 2) rfl rfl rfl sc__law_refused.nd rfl rfl ⟨rfl, by decide, .inl T.g_TurnError⟩ (fun W pn xe tk _ => pss_one (s_exprS (ps_expr (x_callS (g_callS ih.i_turned hc hq (by rfl) T.m_turned T.F_turned.kp T.b_turned (fun σ => passN tk σ) (pa_S fun E => (xa_cons (pa_cons (x_var (pv 0)) (xa_cons (pa_cons (x_var (pv 1)) (xa_nil pa_nil))))))))))) (fun a pn => pss_one (ps_set (i := 2) sc__law_refused.nd rfl (by first | exact Or.inl rfl | exact Or.inr rfl) (pv 4))))) (s_seq (pss_cons (s_set (ps_set (i := 3) sc__law_refused.nd rfl (by first | exact Or.inl rfl | exact Or.inr rfl) (c_FE (c_EF (x_prim (pe_callB call_isX (by rfl) T.z_isinstance bt_isinstance (xr_cons (pa_cons (x_varB (pv 2)) (xr_cons (pa_cons (c_FB (x_tup (pe_tup (xa_cons (pa_cons (x_c (pe_glob (v := .ref _) (by rfl) T.g_BadPaper rfl) fun _ _ => .fn _) (xa_cons (pa_cons (x_c (pe_glob (v := .ref _) (by rfl) T.g_BadProgram rfl) fun _ _ => .fn _) (xa_cons (pa_cons (x_c (pe_glob (v := .ref _) (by rfl) T.g_BadText rfl) fun _ _ => .fn _) (xa_cons (pa_cons (x_c (pe_glob (v := .ref _) (by rfl) T.g_Hangs rfl) fun _ _ => .fn _) (xa_cons (pa_cons (x_c (pe_glob (v := .ref _) (by rfl) T.g_NoStep rfl) fun _ _ => .fn _) (xa_cons (pa_cons (x_c (pe_glob (v := .ref _) (by rfl) T.g_Shade rfl) fun _ _ => .fn _) (xa_cons (pa_cons (x_c (pe_glob (v := .ref _) (by rfl) T.g_TooMany rfl) fun _ _ => .fn _) (xa_nil pa_nil)))))))))))))))))) (xr_nil pa_nil)))))) (p_isX T.ex_L)))))) (s_seq (pss_cons (s_ret (ps_ret (x_andV (pe_and (x_prim (pe_callB call_isX (by rfl) T.z_isinstance bt_isinstance (xr_cons (pa_cons (x_varB (pv 2)) (xr_cons (pa_cons (c_FB (x_c (pe_glob (v := .ref _) (by rfl) T.g_NoTurn rfl) fun _ _ => .fn _)) (xr_nil pa_nil)))))) (p_isX T.ex_L)) (x_andV (pe_and (x_isVE T.ex_L T.ve_L (pe_callB call_isX (by rfl) T.z_isinstance bt_isinstance (pa_cons (x_varB (pv 2)) (pa_cons (pe_bltn (by rfl) T.z_ValueError bt_ValueError rfl) pa_nil)))) (pe_one (x_notV (pe_not (c_FE (x_var (pv 3)))))))))))) (s_nil pss_nil)))))))))
theorem ok__law_far_right (T : Top w K mg) {k : Nat} (ih : Oks P w base T k) : GOk P w K mg base CX0 (lv k + 1) T.a__law_far_right T.d__law_far_right [] (spD K W0 0 (sem (k + 1) f__law_far_right)) := by
  rw [e__law_far_right]
  refine g_fn (N := ["_law_far", "_law_turn", "_law_program", "_law_some", "_law_thing"]) (ps := []) (g := m__law_far_right (sem k)) T.F__law_far_right sc__law_far_right (fun cdv A outer s H EX hr hq => ?_)
  have hc := hr
  exact (s_seq (pss_cons (s_set (ps_set (i := 0) sc__law_far_right.nd rfl (by first | exact Or.inl rfl | exact Or.inr rfl) (c_FE (x_tup (pe_tup (xa_nil pa_nil)))))) (s_seq (pss_cons (s_for (ps_for PassesOwn.never rfl (x_rng1 (pi_range1 (by rfl) T.z_range (xr_cons (pa_cons (c_FB (x_c pe_int fun _ _ => .int _)) (xr_nil pa_nil))))) (x_gname (pg_name (i := 1) sc__law_far_right.nd rfl (by first | exact Or.inl rfl | exact Or.inr rfl))) (s_seq (pss_cons (s_set (ps_set (i := 0) sc__law_far_right.nd rfl (by first | exact Or.inl rfl | exact Or.inr rfl) (c_FE (x_tup (pe_tup (xa_cons (pa_cons (x_var (pv 0)) (xa_nil pa_nil)))))))) (s_nil pss_nil))))) (s_seq (pss_cons (s_set (ps_set (i := 2) sc__law_far_right.nd rfl (by first | exact Or.inl rfl | exact Or.inr rfl) (c_FE (x_tup (pe_tup (xa_cons (pa_cons (x_tup (pe_tup (xa_cons (pa_cons (x_c pe_str fun _ _ => .str _) (xa_cons (pa_cons (x_tup (pe_tup (xa_cons (pa_cons (x_tup (pe_tup (xa_cons (pa_cons (x_c pe_str fun _ _ => .str _) (xa_cons (pa_cons (x_tup (pe_tup (xa_cons (pa_cons (x_c pe_str fun _ _ => .str _) (xa_nil pa_nil))))) (xa_cons (pa_cons (x_tup (pe_tup (xa_cons (pa_cons (x_c pe_str fun _ _ => .str _) (xa_cons (pa_cons (x_c pe_str fun _ _ => .str _) (xa_nil pa_nil))))))) (xa_nil pa_nil))))))))) (xa_nil pa_nil))))) (xa_nil pa_nil))))))) (xa_nil pa_nil)))))))) (s_seq (pss_cons (s_set (ps_set (i := 3) sc__law_far_right.nd rfl (by first | exact Or.inl rfl | exact Or.inr rfl) (x_lst (pe_lst (xa_cons (pa_cons (x_var (pv 0)) (xa_cons (pa_cons (x_tup (pe_tup (xa_cons (pa_cons (x_c pe_str fun _ _ => .str _) (xa_cons (pa_cons (x_var (pv 0)) (xa_cons (pa_cons (x_var (pv 0)) (xa_nil pa_nil))))))))) (xa_cons (pa_cons (x_tup (pe_tup (xa_cons (pa_cons (x_c pe_str fun _ _ => .str _) (xa_cons (pa_cons (x_tup (pe_tup (xa_cons (pa_cons (x_c pe_str fun _ _ => .str _) (xa_cons (pa_cons (x_var (pv 0)) (xa_nil pa_nil))))))) (xa_cons (pa_cons (x_c pe_str fun _ _ => .str _) (xa_nil pa_nil))))))))) (xa_cons (pa_cons (x_tup (pe_tup (xa_cons (pa_cons (x_c pe_str fun _ _ => .str _) (xa_cons (pa_cons (x_c pe_str fun _ _ => .str _) (xa_cons (pa_cons (x_c pe_str fun _ _ => .str _) (xa_cons (pa_cons (x_var (pv 0)) (xa_nil pa_nil))))))))))) (xa_nil pa_nil))))))))))))) (s_seq (pss_cons (s_app (ps_expr (pe_bm PySem.F.plainAttrs_list PySem.F.slot_list_append PySem.F.type_list_append mt_append (pv 3) (pa_cons (x_tup (pe_tup (xa_cons (pa_cons (x_c pe_str fun _ _ => .str _) (xa_cons (pa_cons (x_c pe_str fun _ _ => .str _) (xa_cons (pa_cons (x_c pe_str fun _ _ => .str _) (xa_cons (pa_cons (x_c pe_str fun _ _ => .str _) (xa_cons (pa_cons (x_c pe_str fun _ _ => .str _) (xa_cons (pa_cons (x_var (pv 0)) (xa_nil pa_nil))))))))))))))) pa_nil)))) (s_seq (pss_cons (s_fz (s_ret (ps_ret (x_op2 (pe_cmpR (op_eqW (un_of hr)) (c_EB (x_lc (by decide) (pe_lc (own := [("_law_thing", 4)]) rfl sc__law_far_right.nd (x_it (PI.or (pi_list (x_var (pv 3))) (PI.or (pi_tup (x_var (pv 3))) (pi_str (x_var (pv 3)))))) (blkOk_by (N := ["_law_far", "_law_turn", "_law_program", "_law_some", "_law_thing"]) (sc := defScope s__law_far_right) (by decide +kernel)) (fun _ _ _ _ _ => (x_gname (pg_name (i := 4) sc__law_far_right.nd rfl (by first | exact Or.inl rfl | exact Or.inr rfl)))) (fun _ _ _ _ _ => (pts_one (PW.pt (x_or (pw_or (x_test2 (pt_cmpR op_isntA (c_EB (x_call rfl (g_call ih.i_is_turning hc hq (by rfl) T.m_is_turning T.F_is_turning.kp T.b_is_turning pass0 (xa_cons (pa_cons (x_var (pv 4)) (xa_nil pa_nil)))))) (c_FB (x_c pe_bl fun _ _ => .bl _)) rfl) p_isnt) (pw_or1 (x_not (pt_not (x_truth (pt_truth (c_EB (x_call rfl (g_call ih.i__law_refused hc hq (by rfl) T.m__law_refused T.F__law_refused.kp T.b__law_refused pass0 (xa_cons (pa_cons (x_var (pv 2)) (xa_cons (pa_cons (x_var (pv 4)) (xa_nil pa_nil)))))))) (fun _ => rfl))))))))))) (fun _ _ _ _ _ => (x_c pe_int fun _ _ => .int _))))) (c_EB (x_lst (pe_lst (xa_nil pa_nil)))) rfl) p_eq)))) (s_nil pss_nil)))))))))))))
theorem ok_law (T : Top w K mg) {k : Nat} (ih : Oks P w base T k) : GOk P w K mg base CX0 (lv k + 1) T.a_law T.d_law ["_law_script"] (spD K W0 1 (sem (k + 1) f_law)) := by
  rw [e_law]
  refine g_fn (N := ["_law_script", "_law_spot", "_law_words", "_law_k", "_law_n", "_law_names_here", "_law_program", "_law_word", "_law_some", "_law_thing", "_law_turn", "_law_odd_here", "_law_bent_here", "_law_j", "_law_kind"]) (ps := ["_law_script"]) (g := m_law (sem k)) T.F_law sc_law (fun cdv A outer s H EX hr hq => ?_)
  have hc := hr
  exact (s_seq (pss_cons (s_set (ps_set (i := 1) sc_law.nd rfl (by first | exact Or.inl rfl | exact Or.inr rfl) (c_FE (c_EF (x_ref (x_lst (pe_lst (xa_cons (pa_cons (x_c pe_int fun _ _ => .int _) (xa_nil pa_nil)))))))))) (s_seq (pss_cons (s_set (ps_set (i := 2) sc_law.nd rfl (by first | exact Or.inl rfl | exact Or.inr rfl) (c_FE (c_EF (x_lst (pe_lst (xa_cons (pa_cons (x_c pe_str fun _ _ => .str _) (xa_cons (pa_cons (x_c pe_str fun _ _ => .str _) (xa_cons (pa_cons (x_c pe_str fun _ _ => .str _) (xa_cons (pa_cons (x_c pe_str fun _ _ => .str _) (xa_cons (pa_cons (x_c pe_str fun _ _ => .str _) (xa_cons (pa_cons (x_c pe_str fun _ _ => .str _) (xa_cons (pa_cons (x_c pe_str fun _ _ => .str _) (xa_cons (pa_cons (x_c pe_str fun _ _ => .str _) (xa_cons (pa_cons (x_c pe_str fun _ _ => .str _) (xa_cons (pa_cons (x_c pe_str fun _ _ => .str _) (xa_cons (pa_cons (x_c pe_str fun _ _ => .str _) (xa_nil pa_nil))))))))))))))))))))))))))))) (s_seq (pss_cons (s_for (ps_for PassesOwn.never rfl (x_rng1 (pi_range1 (by rfl) T.z_range (xr_cons (pa_cons (c_EB (x_op2 (pe_op op_addA (c_FB (x_c pe_int fun _ _ => .int _)) (c_EB (x_prim (pe_callB (call_min2 rfl) (by rfl) T.z_min bt_min (xr_cons (pa_cons (c_FB (x_c pe_int fun _ _ => .int _)) (xr_cons (pa_cons (c_EB (x_prim (pe_callB call_lenA (by rfl) T.z_len bt_len (xr_cons (pa_cons (x_varB (pv 0)) (xr_nil pa_nil)))) p_len)) (xr_nil pa_nil)))))) p_min2))) p_add)) (xr_nil pa_nil))))) (x_gname (pg_name (i := 3) sc_law.nd rfl (by first | exact Or.inl rfl | exact Or.inr rfl))) (s_seq (pss_cons (s_set (ps_set (i := 4) sc_law.nd rfl (by first | exact Or.inl rfl | exact Or.inr rfl) (c_FE (c_EF (x_call rfl (g_call ih.i__law_cell hc hq (by rfl) T.m__law_cell T.F__law_cell.kp T.b__law_cell pass0 (xa_cons (pa_cons (x_var (pv 0)) (xa_cons (pa_cons (x_var (pv 1)) (xa_nil pa_nil))))))))))) (s_seq (pss_cons (s_set (ps_set (i := 5) sc_law.nd rfl (by first | exact Or.inl rfl | exact Or.inr rfl) (c_FE (c_EF (x_call rfl (g_call ih.i__law_names hc hq (by rfl) T.m__law_names T.F__law_names.kp T.b__law_names pass0 (xa_cons (pa_cons (x_var (pv 4)) (xa_nil pa_nil))))))))) (s_seq (pss_cons (s_set (ps_set (i := 6) sc_law.nd rfl (by first | exact Or.inl rfl | exact Or.inr rfl) (c_FE (x_tup (pe_tup (xa_cons (pa_cons (x_tup (pe_tup (xa_cons (pa_cons (c_EF (x_ix (pe_ix ix_seq (x_varB (pv 5)) (c_FB (x_c pe_int fun _ _ => .int _)) (fun _ _ => rfl)))) (xa_cons (pa_cons (x_tup (pe_tup (xa_cons (pa_cons (x_tup (pe_tup (xa_cons (pa_cons (c_EF (x_ix (pe_ix ix_seq (x_varB (pv 5)) (c_FB (x_c pe_int fun _ _ => .int _)) (fun _ _ => rfl)))) (xa_cons (pa_cons (x_tup (pe_tup (xa_cons (pa_cons (c_EF (x_ix (pe_ix ix_seq (x_varB (pv 5)) (c_FB (x_c pe_int fun _ _ => .int _)) (fun _ _ => rfl)))) (xa_nil pa_nil))))) (xa_cons (pa_cons (x_tup (pe_tup (xa_cons (pa_cons (x_c pe_str fun _ _ => .str _) (xa_cons (pa_cons (c_EF (x_ix (pe_ix ix_seq (x_varB (pv 5)) (c_FB (x_c pe_int fun _ _ => .int _)) (fun _ _ => rfl)))) (xa_nil pa_nil))))))) (xa_nil pa_nil))))))))) (xa_nil pa_nil))))) (xa_nil pa_nil))))))) (xa_nil pa_nil)))))))) (s_seq (pss_cons (s_set (ps_set (i := 7) sc_law.nd rfl (by first | exact Or.inl rfl | exact Or.inr rfl) (c_FE (c_EF (x_ix (pe_ix ix_seq (x_varB (pv 2)) (c_EB (x_op2 (pe_op op_modA (x_varB (pv 3)) (c_FB (x_c pe_int fun _ _ => .int _))) p_mod)) (fun _ _ => rfl))))))) (s_seq (pss_cons (s_setLc (by decide) (ps_setLc (i := 8) (own := [("_law_j", 13), ("_law_kind", 14)]) rfl sc_law.nd rfl rfl (sw_true rfl rfl rfl (by decide +kernel)) (x_enumA (pi_enumA (by rfl) T.z_enumerate (xa_cons (pa_cons (c_EF (x_call rfl (g_call ih.i__law_kinds hc hq (by rfl) T.m__law_kinds T.F__law_kinds.kp T.b__law_kinds pass0 (xa_cons (pa_cons (x_var (pv 7)) (xa_nil pa_nil)))))) (xa_nil pa_nil))))) (blkOk_by (N := ["_law_script", "_law_spot", "_law_words", "_law_k", "_law_n", "_law_names_here", "_law_program", "_law_word", "_law_some", "_law_thing", "_law_turn", "_law_odd_here", "_law_bent_here", "_law_j", "_law_kind"]) (sc := defScope s_law) (by decide +kernel)) (fun _ _ _ _ _ => (x_gtup (is := [13, 14]) rfl (pg_tup rfl (pgs_cons (pg_name (i := 13) sc_law.nd rfl (by first | exact Or.inl rfl | exact Or.inr rfl)) (pgs_cons (pg_name (i := 14) sc_law.nd rfl (by first | exact Or.inl rfl | exact Or.inr rfl)) pgs_nil))))) (fun _ _ _ _ _ => x_yes) (fun _ _ _ _ _ => (c_EF (x_call rfl (g_call ih.i__law_part hc hq (by rfl) T.m__law_part T.F__law_part.kp T.b__law_part pass0 (xa_cons (pa_cons (x_var (pv 14)) (xa_cons (pa_cons (x_var (pv 5)) (xa_cons (pa_cons (c_EF (x_op2 (pe_op op_fdivA (x_varB (pv 4)) (c_EB (x_op2 (pe_op op_addA (c_EB (x_op2 (pe_op op_mulA (c_FB (x_c pe_int fun _ _ => .int _)) (x_varB (pv 13))) p_mul)) (c_FB (x_c pe_int fun _ _ => .int _))) p_add))) p_fdiv)) (xa_nil pa_nil))))))))))))) (s_seq (pss_cons (s_set (ps_set (i := 9) sc_law.nd rfl (by first | exact Or.inl rfl | exact Or.inr rfl) (c_FE (c_EF (x_op2 (pe_op op_addA (c_FB (x_tup (pe_tup (xa_cons (pa_cons (x_var (pv 7)) (xa_nil pa_nil)))))) (c_EB (x_prim (pe_callTy call_tuple_of (by rfl) T.z_tuple bt_tuple (xr_cons (pa_cons (x_varB (pv 8)) (xr_nil pa_nil)))) p_tuple))) p_add))))) (s_seq (pss_cons (s_if (ps_if (x_test2 (pt_cmpR op_isntA (c_EB (x_call rfl (g_call ih.i_is_turning hc hq (by rfl) T.m_is_turning T.F_is_turning.kp T.b_is_turning pass0 (xa_cons (pa_cons (x_var (pv 9)) (xa_nil pa_nil)))))) (c_FB (x_c pe_bl fun _ _ => .bl _)) rfl) p_isnt) (s_seq (pss_cons (s_ret (ps_ret (c_FE (x_c pe_bl fun _ _ => .bl _)))) (s_nil pss_nil))) (s_nil pss_nil))) (s_seq (pss_cons (s_for (ps_for PassesOwn.never rfl (x_rng1 (pi_range1 (by rfl) T.z_range (xr_cons (pa_cons (c_FB (x_c pe_int fun _ _ => .int _)) (xr_nil pa_nil))))) (x_gname (pg_name (i := 10) sc_law.nd rfl (by first | exact Or.inl rfl | exact Or.inr rfl))) (s_seq (pss_cons (s_set (ps_set (i := 12) sc_law.nd rfl (by first | exact Or.inl rfl | exact Or.inr rfl) (c_FE (c_EF (x_call rfl (g_call ih.i__law_bent hc hq (by rfl) T.m__law_bent T.F__law_bent.kp T.b__law_bent pass0 (xa_cons (pa_cons (x_var (pv 9)) (xa_cons (pa_cons (x_var (pv 5)) (xa_cons (pa_cons (c_EF (x_call rfl (g_call ih.i__law_cell hc hq (by rfl) T.m__law_cell T.F__law_cell.kp T.b__law_cell pass0 (xa_cons (pa_cons (x_var (pv 0)) (xa_cons (pa_cons (x_var (pv 1)) (xa_nil pa_nil)))))))) (xa_nil pa_nil))))))))))))) (s_seq (pss_cons (s_if (ps_if (PW.pt (x_and (pw_and (x_truth (pt_truth (c_EB (x_isi (by decide) (pe_callB call_isi (by rfl) T.z_isinstance bt_isinstance (pa_cons (x_varB (pv 12)) (pa_cons (pe_bltn (by rfl) T.z_tuple bt_tuple rfl) pa_nil))))) (fun _ => rfl))) (x_and (pw_and (x_test2 (pt_cmpR (op_eqE (un_of hr)) (c_EB (x_sl (pe_slice sl_A3 (x_varB (pv 12)) x_no (x_so (c_FB (x_c pe_int fun _ _ => .int _)))) p_sl)) (c_FB (x_tup (pe_tup (xa_cons (pa_cons (x_c pe_str fun _ _ => .str _) (xa_nil pa_nil)))))) rfl) p_eqE) (pw_and1 (x_test2 (pt_cmpR (op_eqE (un_of hr)) (c_EB (x_sl (pe_slice sl_A3 (x_varB (pv 12)) (x_so (c_FB (x_c pe_int fun _ _ => .int _))) x_no) p_sl)) (c_FB (x_tup (pe_tup (xa_cons (pa_cons (x_tup (pe_tup (xa_nil pa_nil))) (xa_nil pa_nil)))))) rfl) p_eqE))))))) (s_seq (pss_cons (s_cont ps_continue) (s_nil pss_nil))) (s_nil pss_nil))) (s_seq (pss_cons (s_if (ps_if (x_test2 (pt_cmpR (op_neW (un_of hr)) (c_EB (x_prim (pe_callB (call_repr (un_of hr) hq) (by rfl) T.z_repr bt_repr (xr_cons (pa_cons (c_EB (x_call rfl (g_call ih.i_is_turning hc hq (by rfl) T.m_is_turning T.F_is_turning.kp T.b_is_turning pass0 (xa_cons (pa_cons (x_var (pv 12)) (xa_nil pa_nil)))))) (xr_nil pa_nil)))) p_repr)) (c_EB (x_prim (pe_callB (call_repr (un_of hr) hq) (by rfl) T.z_repr bt_repr (xr_cons (pa_cons (c_EB (x_call rfl (g_call ih.i__law_is_form hc hq (by rfl) T.m__law_is_form T.F__law_is_form.kp T.b__law_is_form pass0 (xa_cons (pa_cons (x_var (pv 12)) (xa_nil pa_nil)))))) (xr_nil pa_nil)))) p_repr)) rfl) p_ne) (s_seq (pss_cons (s_ret (ps_ret (c_FE (x_c pe_bl fun _ _ => .bl _)))) (s_nil pss_nil))) (s_nil pss_nil))) (s_seq (pss_cons (s_if (ps_if (PW.pt (x_and (pw_and (x_not (pt_not (x_truth (pt_truth (c_EB (x_call rfl (g_call ih.i__law_is_form hc hq (by rfl) T.m__law_is_form T.F__law_is_form.kp T.b__law_is_form pass0 (xa_cons (pa_cons (x_var (pv 12)) (xa_nil pa_nil)))))) (fun _ => rfl))))) (pw_and1 (x_not (pt_not (x_truth (pt_truth (c_EB (x_call rfl (g_call ih.i__law_refused hc hq (by rfl) T.m__law_refused T.F__law_refused.kp T.b__law_refused pass0 (xa_cons (pa_cons (x_var (pv 6)) (xa_cons (pa_cons (x_var (pv 12)) (xa_nil pa_nil)))))))) (fun _ => rfl))))))))) (s_seq (pss_cons (s_ret (ps_ret (c_FE (x_c pe_bl fun _ _ => .bl _)))) (s_nil pss_nil))) (s_nil pss_nil))) (s_nil pss_nil))))))))))) (s_seq (pss_cons (s_set (ps_set (i := 11) sc_law.nd rfl (by first | exact Or.inl rfl | exact Or.inr rfl) (c_FE (c_EF (x_call rfl (g_call ih.i__law_odd hc hq (by rfl) T.m__law_odd T.F__law_odd.kp T.b__law_odd pass0 (xa_cons (pa_cons (x_var (pv 5)) (xa_cons (pa_cons (c_EF (x_op2 (pe_op op_fdivA (x_varB (pv 4)) (c_FB (x_c pe_int fun _ _ => .int _))) p_fdiv)) (xa_nil pa_nil))))))))))) (s_seq (pss_cons (s_if (ps_if (PW.pt (x_and (pw_and (x_not (pt_not (x_truth (pt_truth (c_EB (x_call rfl (g_call ih.i__law_is_form hc hq (by rfl) T.m__law_is_form T.F__law_is_form.kp T.b__law_is_form pass0 (xa_cons (pa_cons (x_var (pv 11)) (xa_nil pa_nil)))))) (fun _ => rfl))))) (pw_and1 (PW.pt (x_or (pw_or (x_test2 (pt_cmpR op_isntA (c_EB (x_call rfl (g_call ih.i_is_turning hc hq (by rfl) T.m_is_turning T.F_is_turning.kp T.b_is_turning pass0 (xa_cons (pa_cons (x_var (pv 11)) (xa_nil pa_nil)))))) (c_FB (x_c pe_bl fun _ _ => .bl _)) rfl) p_isnt) (pw_or1 (x_not (pt_not (x_truth (pt_truth (c_EB (x_call rfl (g_call ih.i__law_refused hc hq (by rfl) T.m__law_refused T.F__law_refused.kp T.b__law_refused pass0 (xa_cons (pa_cons (x_var (pv 6)) (xa_cons (pa_cons (x_var (pv 11)) (xa_nil pa_nil)))))))) (fun _ => rfl))))))))))))) (s_seq (pss_cons (s_ret (ps_ret (c_FE (x_c pe_bl fun _ _ => .bl _)))) (s_nil pss_nil))) (s_nil pss_nil))) (s_nil pss_nil))))))))))))))))))))))) (s_seq (pss_cons (s_ret (ps_ret (x_call0 rfl (g_call0 ih.i__law_far_right hc hq (by rfl) T.m__law_far_right T.F__law_far_right.kp T.b__law_far_right pass0)))) (s_nil pss_nil)))))))))
theorem oks (T : Top w K mg) : ∀ k, Oks P w base T k
  | 0 => ⟨g_zeroE, g_zeroE, g_zeroE, g_zeroE, g_zeroE, g_zeroE, g_zeroE, g_zeroE, g_zeroE, g_zeroE, g_zeroE, g_zeroE, g_zeroE, g_zeroE, g_zeroE, g_zeroE, g_zeroE, g_zeroE, g_zeroE, g_zeroE, g_zeroE, g_zeroE, g_zeroE, g_zeroE, g_zeroE, g_zeroE⟩
  | k + 1 => have ih := oks T k; ⟨ok_is_name T ih, ok_is_count T ih, ok_are_counts T ih, ok_is_way T ih, ok_is_binder T ih, ok_are_ways T ih, ok_fits T ih, ok_has_form T ih, ok_need_goings T ih, ok_is_turning T ih, ok_turned T ih, ok__law_cell T ih, ok__law_names T ih, ok__law_is_name T ih, ok__law_are_counts T ih, ok__law_is_way T ih, ok__law_is_binder T ih, ok__law_fits T ih, ok__law_kinds T ih, ok__law_is_form T ih, ok__law_part T ih, ok__law_odd T ih, ok__law_bent T ih, ok__law_refused T ih, ok__law_far_right T ih, ok_law T ih⟩
end
noncomputable def top_mk {w : World} {K : PySem.W.Frag} {h : Heap} {mg : Str → Option Value} (X : K.In h) (G : h.Ns mainGlobals mg) {C_NoTurn : Addr} {C_TurnError : Addr} {C_TooMany : Addr} {C_Shade : Addr} {C_NoStep : Addr} {C_Hangs : Addr} {C_BadText : Addr} {C_BadProgram : Addr} {C_BadPaper : Addr} {f0 : Addr} {od0 an0 : Option Addr} {sl0 : Array (Option Value)} {oc0 kV0 dc0 pm0 cd0 ct0 : Value} {f1 : Addr} {od1 an1 : Option Addr} {sl1 : Array (Option Value)} {oc1 kV1 dc1 pm1 cd1 ct1 : Value} {f2 : Addr} {od2 an2 : Option Addr} {sl2 : Array (Option Value)} {oc2 kV2 dc2 pm2 cd2 ct2 : Value} {f3 : Addr} {od3 an3 : Option Addr} {sl3 : Array (Option Value)} {oc3 kV3 dc3 pm3 cd3 ct3 : Value} {f4 : Addr} {od4 an4 : Option Addr} {sl4 : Array (Option Value)} {oc4 kV4 dc4 pm4 cd4 ct4 : Value} {f5 : Addr} {od5 an5 : Option Addr} {sl5 : Array (Option Value)} {oc5 kV5 dc5 pm5 cd5 ct5 : Value} {f6 : Addr} {od6 an6 : Option Addr} {sl6 : Array (Option Value)} {oc6 kV6 dc6 pm6 cd6 ct6 : Value} {f7 : Addr} {od7 an7 : Option Addr} {sl7 : Array (Option Value)} {oc7 kV7 dc7 pm7 cd7 ct7 : Value} {f8 : Addr} {od8 an8 : Option Addr} {sl8 : Array (Option Value)} {oc8 kV8 dc8 pm8 cd8 ct8 : Value} {f9 : Addr} {od9 an9 : Option Addr} {sl9 : Array (Option Value)} {oc9 kV9 dc9 pm9 cd9 ct9 : Value} {f10 : Addr} {od10 an10 : Option Addr} {sl10 : Array (Option Value)} {oc10 kV10 dc10 pm10 cd10 ct10 : Value} {f11 : Addr} {od11 an11 : Option Addr} {sl11 : Array (Option Value)} {oc11 kV11 dc11 pm11 cd11 ct11 : Value} {f12 : Addr} {od12 an12 : Option Addr} {sl12 : Array (Option Value)} {oc12 kV12 dc12 pm12 cd12 ct12 : Value} {f13 : Addr} {od13 an13 : Option Addr} {sl13 : Array (Option Value)} {oc13 kV13 dc13 pm13 cd13 ct13 : Value} {f14 : Addr} {od14 an14 : Option Addr} {sl14 : Array (Option Value)} {oc14 kV14 dc14 pm14 cd14 ct14 : Value} {f15 : Addr} {od15 an15 : Option Addr} {sl15 : Array (Option Value)} {oc15 kV15 dc15 pm15 cd15 ct15 : Value} {f16 : Addr} {od16 an16 : Option Addr} {sl16 : Array (Option Value)} {oc16 kV16 dc16 pm16 cd16 ct16 : Value} {f17 : Addr} {od17 an17 : Option Addr} {sl17 : Array (Option Value)} {oc17 kV17 dc17 pm17 cd17 ct17 : Value} {f18 : Addr} {od18 an18 : Option Addr} {sl18 : Array (Option Value)} {oc18 kV18 dc18 pm18 cd18 ct18 : Value} {f19 : Addr} {od19 an19 : Option Addr} {sl19 : Array (Option Value)} {oc19 kV19 dc19 pm19 cd19 ct19 : Value} {f20 : Addr} {od20 an20 : Option Addr} {sl20 : Array (Option Value)} {oc20 kV20 dc20 pm20 cd20 ct20 : Value} {f21 : Addr} {od21 an21 : Option Addr} {sl21 : Array (Option Value)} {oc21 kV21 dc21 pm21 cd21 ct21 : Value} {f22 : Addr} {od22 an22 : Option Addr} {sl22 : Array (Option Value)} {oc22 kV22 dc22 pm22 cd22 ct22 : Value} {f23 : Addr} {od23 an23 : Option Addr} {sl23 : Array (Option Value)} {oc23 kV23 dc23 pm23 cd23 ct23 : Value} {f24 : Addr} {od24 an24 : Option Addr} {sl24 : Array (Option Value)} {oc24 kV24 dc24 pm24 cd24 ct24 : Value} {f25 : Addr} {od25 an25 : Option Addr} {sl25 : Array (Option Value)} {oc25 kV25 dc25 pm25 cd25 ct25 : Value} {t_MOST_NAME : Tok} {t_LETTERS : Tok} {q_WORDS : Addr} {o_WORDS : Obj} {q_SHAPES : Addr} {es_SHAPES : Array DictEntry} {n_SHAPES : Nat} (ca_NoTurn : PySem.W.nsIn K mainGlobals "NoTurn" = some (some (.ref C_NoTurn))) (xk_NoTurn : PySem.W.keepIn K (.ref C_NoTurn) = true) (xs_NoTurn : PySem.W.subIn K (.ref C_NoTurn) (.type "BaseException") = some true) (xt_NoTurn : PySem.W.typeIn K (.ref C_NoTurn) = some (.type "type")) (v_xq_NoTurn : PySem.W.excIn K C_NoTurn [.type "ValueError", .type "Exception", .type "BaseException", .type "object"] "ValueError.__new__" = true) (ca_TurnError : PySem.W.nsIn K mainGlobals "TurnError" = some (some (.ref C_TurnError))) (ca_TooMany : PySem.W.nsIn K mainGlobals "TooMany" = some (some (.ref C_TooMany))) (ca_Shade : PySem.W.nsIn K mainGlobals "Shade" = some (some (.ref C_Shade))) (ca_NoStep : PySem.W.nsIn K mainGlobals "NoStep" = some (some (.ref C_NoStep))) (ca_Hangs : PySem.W.nsIn K mainGlobals "Hangs" = some (some (.ref C_Hangs))) (ca_BadText : PySem.W.nsIn K mainGlobals "BadText" = some (some (.ref C_BadText))) (ca_BadProgram : PySem.W.nsIn K mainGlobals "BadProgram" = some (some (.ref C_BadProgram))) (ca_BadPaper : PySem.W.nsIn K mainGlobals "BadPaper" = some (some (.ref C_BadPaper))) (v_exm_0_NoTurn : PySem.W.exmOne K (.ref C_NoTurn) (.ref C_TurnError) = some true) (h0_NoTurn : PySem.W.findIn K (.ref C_NoTurn) "__getattribute__" = some (some (.builtin "BaseException.__getattribute__"))) (h1_NoTurn : PySem.W.findIn K (.ref C_NoTurn) "__getattr__" = some none) (h2_NoTurn : PySem.W.subIn K (.ref C_NoTurn) (.type "BaseException") = some true) (h3_NoTurn : PySem.W.hasDictIn K C_NoTurn = true) (h4_NoTurn : PySem.W.findIn K (.ref C_NoTurn) "__class__" = some (some (.builtin "object.__class__"))) (h5_NoTurn : PySem.W.specialIn K (.builtin "object.__class__") "__get__" = some (some (.builtin "getset_descriptor.__get__"))) (h6_NoTurn : PySem.W.takesIn K (.builtin "object.__class__") = some true) (h7_NoTurn : PySem.W.mroIn K C_NoTurn (.type "object") = some true) (v_ve_NoTurn : PySem.W.kitOne K (.ref C_NoTurn) (.type "ValueError") = some true) (v_kit_NoTurn_NoTurn : PySem.W.kitOne K (.ref C_NoTurn) (.ref C_NoTurn) = some true) (v_kit_NoTurn_BadPaper : PySem.W.kitOne K (.ref C_NoTurn) (.ref C_BadPaper) = some false) (v_kit_NoTurn_BadProgram : PySem.W.kitOne K (.ref C_NoTurn) (.ref C_BadProgram) = some false) (v_kit_NoTurn_BadText : PySem.W.kitOne K (.ref C_NoTurn) (.ref C_BadText) = some false) (v_kit_NoTurn_Hangs : PySem.W.kitOne K (.ref C_NoTurn) (.ref C_Hangs) = some false) (v_kit_NoTurn_NoStep : PySem.W.kitOne K (.ref C_NoTurn) (.ref C_NoStep) = some false) (v_kit_NoTurn_Shade : PySem.W.kitOne K (.ref C_NoTurn) (.ref C_Shade) = some false) (v_kit_NoTurn_TooMany : PySem.W.kitOne K (.ref C_NoTurn) (.ref C_TooMany) = some false) (a0 : PySem.W.nsIn K mainGlobals "is_name" = some (some (.ref f0))) (l0 : K.lookup f0 = some ⟨oc0, od0, .func (PySem.W.fnOf "is_name" "is_name" (defArgs s_is_name) (defBody s_is_name) (defScope s_is_name) .none kV0 dc0 pm0 an0 cd0 ct0), sl0⟩) (c0 : PySem.W.codeIn K cd0 "is_name" = true) (k0 : PySem.W.keepIn K (.ref f0) = true) (a1 : PySem.W.nsIn K mainGlobals "is_count" = some (some (.ref f1))) (l1 : K.lookup f1 = some ⟨oc1, od1, .func (PySem.W.fnOf "is_count" "is_count" (defArgs s_is_count) (defBody s_is_count) (defScope s_is_count) .none kV1 dc1 pm1 an1 cd1 ct1), sl1⟩) (c1 : PySem.W.codeIn K cd1 "is_count" = true) (k1 : PySem.W.keepIn K (.ref f1) = true) (a2 : PySem.W.nsIn K mainGlobals "are_counts" = some (some (.ref f2))) (l2 : K.lookup f2 = some ⟨oc2, od2, .func (PySem.W.fnOf "are_counts" "are_counts" (defArgs s_are_counts) (defBody s_are_counts) (defScope s_are_counts) .none kV2 dc2 pm2 an2 cd2 ct2), sl2⟩) (c2 : PySem.W.codeIn K cd2 "are_counts" = true) (k2 : PySem.W.keepIn K (.ref f2) = true) (a3 : PySem.W.nsIn K mainGlobals "is_way" = some (some (.ref f3))) (l3 : K.lookup f3 = some ⟨oc3, od3, .func (PySem.W.fnOf "is_way" "is_way" (defArgs s_is_way) (defBody s_is_way) (defScope s_is_way) .none kV3 dc3 pm3 an3 cd3 ct3), sl3⟩) (c3 : PySem.W.codeIn K cd3 "is_way" = true) (k3 : PySem.W.keepIn K (.ref f3) = true) (a4 : PySem.W.nsIn K mainGlobals "is_binder" = some (some (.ref f4))) (l4 : K.lookup f4 = some ⟨oc4, od4, .func (PySem.W.fnOf "is_binder" "is_binder" (defArgs s_is_binder) (defBody s_is_binder) (defScope s_is_binder) .none kV4 dc4 pm4 an4 cd4 ct4), sl4⟩) (c4 : PySem.W.codeIn K cd4 "is_binder" = true) (k4 : PySem.W.keepIn K (.ref f4) = true) (a5 : PySem.W.nsIn K mainGlobals "are_ways" = some (some (.ref f5))) (l5 : K.lookup f5 = some ⟨oc5, od5, .func (PySem.W.fnOf "are_ways" "are_ways" (defArgs s_are_ways) (defBody s_are_ways) (defScope s_are_ways) .none kV5 dc5 pm5 an5 cd5 ct5), sl5⟩) (c5 : PySem.W.codeIn K cd5 "are_ways" = true) (k5 : PySem.W.keepIn K (.ref f5) = true) (a6 : PySem.W.nsIn K mainGlobals "fits" = some (some (.ref f6))) (l6 : K.lookup f6 = some ⟨oc6, od6, .func (PySem.W.fnOf "fits" "fits" (defArgs s_fits) (defBody s_fits) (defScope s_fits) .none kV6 dc6 pm6 an6 cd6 ct6), sl6⟩) (c6 : PySem.W.codeIn K cd6 "fits" = true) (k6 : PySem.W.keepIn K (.ref f6) = true) (a7 : PySem.W.nsIn K mainGlobals "has_form" = some (some (.ref f7))) (l7 : K.lookup f7 = some ⟨oc7, od7, .func (PySem.W.fnOf "has_form" "has_form" (defArgs s_has_form) (defBody s_has_form) (defScope s_has_form) .none kV7 dc7 pm7 an7 cd7 ct7), sl7⟩) (c7 : PySem.W.codeIn K cd7 "has_form" = true) (k7 : PySem.W.keepIn K (.ref f7) = true) (a8 : PySem.W.nsIn K mainGlobals "need_goings" = some (some (.ref f8))) (l8 : K.lookup f8 = some ⟨oc8, od8, .func (PySem.W.fnOf "need" "need" (defArgs s_need_goings) (defBody s_need_goings) (defScope s_need_goings) .none kV8 dc8 pm8 an8 cd8 ct8), sl8⟩) (c8 : PySem.W.codeIn K cd8 "need" = true) (k8 : PySem.W.keepIn K (.ref f8) = true) (a9 : PySem.W.nsIn K mainGlobals "is_turning" = some (some (.ref f9))) (l9 : K.lookup f9 = some ⟨oc9, od9, .func (PySem.W.fnOf "is_turning" "is_turning" (defArgs s_is_turning) (defBody s_is_turning) (defScope s_is_turning) .none kV9 dc9 pm9 an9 cd9 ct9), sl9⟩) (c9 : PySem.W.codeIn K cd9 "is_turning" = true) (k9 : PySem.W.keepIn K (.ref f9) = true) (a10 : PySem.W.nsIn K mainGlobals "turned" = some (some (.ref f10))) (l10 : K.lookup f10 = some ⟨oc10, od10, .func (PySem.W.fnOf "turned" "turned" (defArgs s_turned) (defBody s_turned) (defScope s_turned) .none kV10 dc10 pm10 an10 cd10 ct10), sl10⟩) (c10 : PySem.W.codeIn K cd10 "turned" = true) (k10 : PySem.W.keepIn K (.ref f10) = true) (a11 : PySem.W.nsIn K mainGlobals "_law_cell" = some (some (.ref f11))) (l11 : K.lookup f11 = some ⟨oc11, od11, .func (PySem.W.fnOf "_law_cell" "_law_cell" (defArgs s__law_cell) (defBody s__law_cell) (defScope s__law_cell) .none kV11 dc11 pm11 an11 cd11 ct11), sl11⟩) (c11 : PySem.W.codeIn K cd11 "_law_cell" = true) (k11 : PySem.W.keepIn K (.ref f11) = true) (a12 : PySem.W.nsIn K mainGlobals "_law_names" = some (some (.ref f12))) (l12 : K.lookup f12 = some ⟨oc12, od12, .func (PySem.W.fnOf "_law_names" "_law_names" (defArgs s__law_names) (defBody s__law_names) (defScope s__law_names) .none kV12 dc12 pm12 an12 cd12 ct12), sl12⟩) (c12 : PySem.W.codeIn K cd12 "_law_names" = true) (k12 : PySem.W.keepIn K (.ref f12) = true) (a13 : PySem.W.nsIn K mainGlobals "_law_is_name" = some (some (.ref f13))) (l13 : K.lookup f13 = some ⟨oc13, od13, .func (PySem.W.fnOf "_law_is_name" "_law_is_name" (defArgs s__law_is_name) (defBody s__law_is_name) (defScope s__law_is_name) .none kV13 dc13 pm13 an13 cd13 ct13), sl13⟩) (c13 : PySem.W.codeIn K cd13 "_law_is_name" = true) (k13 : PySem.W.keepIn K (.ref f13) = true) (a14 : PySem.W.nsIn K mainGlobals "_law_are_counts" = some (some (.ref f14))) (l14 : K.lookup f14 = some ⟨oc14, od14, .func (PySem.W.fnOf "_law_are_counts" "_law_are_counts" (defArgs s__law_are_counts) (defBody s__law_are_counts) (defScope s__law_are_counts) .none kV14 dc14 pm14 an14 cd14 ct14), sl14⟩) (c14 : PySem.W.codeIn K cd14 "_law_are_counts" = true) (k14 : PySem.W.keepIn K (.ref f14) = true) (a15 : PySem.W.nsIn K mainGlobals "_law_is_way" = some (some (.ref f15))) (l15 : K.lookup f15 = some ⟨oc15, od15, .func (PySem.W.fnOf "_law_is_way" "_law_is_way" (defArgs s__law_is_way) (defBody s__law_is_way) (defScope s__law_is_way) .none kV15 dc15 pm15 an15 cd15 ct15), sl15⟩) (c15 : PySem.W.codeIn K cd15 "_law_is_way" = true) (k15 : PySem.W.keepIn K (.ref f15) = true) (a16 : PySem.W.nsIn K mainGlobals "_law_is_binder" = some (some (.ref f16))) (l16 : K.lookup f16 = some ⟨oc16, od16, .func (PySem.W.fnOf "_law_is_binder" "_law_is_binder" (defArgs s__law_is_binder) (defBody s__law_is_binder) (defScope s__law_is_binder) .none kV16 dc16 pm16 an16 cd16 ct16), sl16⟩) (c16 : PySem.W.codeIn K cd16 "_law_is_binder" = true) (k16 : PySem.W.keepIn K (.ref f16) = true) (a17 : PySem.W.nsIn K mainGlobals "_law_fits" = some (some (.ref f17))) (l17 : K.lookup f17 = some ⟨oc17, od17, .func (PySem.W.fnOf "_law_fits" "_law_fits" (defArgs s__law_fits) (defBody s__law_fits) (defScope s__law_fits) .none kV17 dc17 pm17 an17 cd17 ct17), sl17⟩) (c17 : PySem.W.codeIn K cd17 "_law_fits" = true) (k17 : PySem.W.keepIn K (.ref f17) = true) (a18 : PySem.W.nsIn K mainGlobals "_law_kinds" = some (some (.ref f18))) (l18 : K.lookup f18 = some ⟨oc18, od18, .func (PySem.W.fnOf "_law_kinds" "_law_kinds" (defArgs s__law_kinds) (defBody s__law_kinds) (defScope s__law_kinds) .none kV18 dc18 pm18 an18 cd18 ct18), sl18⟩) (c18 : PySem.W.codeIn K cd18 "_law_kinds" = true) (k18 : PySem.W.keepIn K (.ref f18) = true) (a19 : PySem.W.nsIn K mainGlobals "_law_is_form" = some (some (.ref f19))) (l19 : K.lookup f19 = some ⟨oc19, od19, .func (PySem.W.fnOf "_law_is_form" "_law_is_form" (defArgs s__law_is_form) (defBody s__law_is_form) (defScope s__law_is_form) .none kV19 dc19 pm19 an19 cd19 ct19), sl19⟩) (c19 : PySem.W.codeIn K cd19 "_law_is_form" = true) (k19 : PySem.W.keepIn K (.ref f19) = true) (a20 : PySem.W.nsIn K mainGlobals "_law_part" = some (some (.ref f20))) (l20 : K.lookup f20 = some ⟨oc20, od20, .func (PySem.W.fnOf "_law_part" "_law_part" (defArgs s__law_part) (defBody s__law_part) (defScope s__law_part) .none kV20 dc20 pm20 an20 cd20 ct20), sl20⟩) (c20 : PySem.W.codeIn K cd20 "_law_part" = true) (k20 : PySem.W.keepIn K (.ref f20) = true) (a21 : PySem.W.nsIn K mainGlobals "_law_odd" = some (some (.ref f21))) (l21 : K.lookup f21 = some ⟨oc21, od21, .func (PySem.W.fnOf "_law_odd" "_law_odd" (defArgs s__law_odd) (defBody s__law_odd) (defScope s__law_odd) .none kV21 dc21 pm21 an21 cd21 ct21), sl21⟩) (c21 : PySem.W.codeIn K cd21 "_law_odd" = true) (k21 : PySem.W.keepIn K (.ref f21) = true) (a22 : PySem.W.nsIn K mainGlobals "_law_bent" = some (some (.ref f22))) (l22 : K.lookup f22 = some ⟨oc22, od22, .func (PySem.W.fnOf "_law_bent" "_law_bent" (defArgs s__law_bent) (defBody s__law_bent) (defScope s__law_bent) .none kV22 dc22 pm22 an22 cd22 ct22), sl22⟩) (c22 : PySem.W.codeIn K cd22 "_law_bent" = true) (k22 : PySem.W.keepIn K (.ref f22) = true) (a23 : PySem.W.nsIn K mainGlobals "_law_refused" = some (some (.ref f23))) (l23 : K.lookup f23 = some ⟨oc23, od23, .func (PySem.W.fnOf "_law_refused" "_law_refused" (defArgs s__law_refused) (defBody s__law_refused) (defScope s__law_refused) .none kV23 dc23 pm23 an23 cd23 ct23), sl23⟩) (c23 : PySem.W.codeIn K cd23 "_law_refused" = true) (k23 : PySem.W.keepIn K (.ref f23) = true) (a24 : PySem.W.nsIn K mainGlobals "_law_far_right" = some (some (.ref f24))) (l24 : K.lookup f24 = some ⟨oc24, od24, .func (PySem.W.fnOf "_law_far_right" "_law_far_right" (defArgs s__law_far_right) (defBody s__law_far_right) (defScope s__law_far_right) .none kV24 dc24 pm24 an24 cd24 ct24), sl24⟩) (c24 : PySem.W.codeIn K cd24 "_law_far_right" = true) (k24 : PySem.W.keepIn K (.ref f24) = true) (a25 : PySem.W.nsIn K mainGlobals "law" = some (some (.ref f25))) (l25 : K.lookup f25 = some ⟨oc25, od25, .func (PySem.W.fnOf "law" "law" (defArgs s_law) (defBody s_law) (defScope s_law) .none kV25 dc25 pm25 an25 cd25 ct25), sl25⟩) (c25 : PySem.W.codeIn K cd25 "law" = true) (k25 : PySem.W.keepIn K (.ref f25) = true) (z_len : PySem.W.nsIn K mainGlobals "len" = some none) (z_isinstance : PySem.W.nsIn K mainGlobals "isinstance" = some none) (z_str : PySem.W.nsIn K mainGlobals "str" = some none) (z_all : PySem.W.nsIn K mainGlobals "all" = some none) (z_bool : PySem.W.nsIn K mainGlobals "bool" = some none) (z_int : PySem.W.nsIn K mainGlobals "int" = some none) (z_tuple : PySem.W.nsIn K mainGlobals "tuple" = some none) (z_zip : PySem.W.nsIn K mainGlobals "zip" = some none) (z_range : PySem.W.nsIn K mainGlobals "range" = some none) (z_list : PySem.W.nsIn K mainGlobals "list" = some none) (z_ValueError : PySem.W.nsIn K mainGlobals "ValueError" = some none) (z_min : PySem.W.nsIn K mainGlobals "min" = some none) (z_enumerate : PySem.W.nsIn K mainGlobals "enumerate" = some none) (z_repr : PySem.W.nsIn K mainGlobals "repr" = some none) (g_MOST_NAME : PySem.W.nsIn K mainGlobals "MOST_NAME" = some (some (.int 8 t_MOST_NAME))) (g_LETTERS : PySem.W.nsIn K mainGlobals "LETTERS" = some (some (.str "abcdefghijklmnopqrstuvwxyz" t_LETTERS))) (g_WORDS : PySem.W.nsIn K mainGlobals "WORDS" = some (some (.ref q_WORDS))) (u_WORDS : K.lookup q_WORDS = some o_WORDS) (v_WORDS : tupIs K 9 o_WORDS k_WORDS = true) (g_SHAPES : PySem.W.nsIn K mainGlobals "SHAPES" = some (some (.ref q_SHAPES))) (u_SHAPES : K.lookup q_SHAPES = some ⟨.type "dict", none, .dict es_SHAPES n_SHAPES, #[]⟩) (v_SHAPES : tabIs K q_SHAPES k_SHAPES = true) (y_SHAPES : PySem.W.KeysLit w.params es_SHAPES.toList) (v_f_SHAPES : tabFull es_SHAPES k_SHAPES = true) (v_s_SHAPES : (q_SHAPES == sysModules) = false) : Top w K mg where
  g_NoTurn := by rw [clsAt_of ca_NoTurn]; exact PySem.W.mg_of X G ca_NoTurn
  x_NoTurn := xcls_mk (PySem.W.mg_of X G ca_NoTurn) ca_NoTurn xk_NoTurn xs_NoTurn xt_NoTurn v_xq_NoTurn
  g_TurnError := by rw [clsAt_of ca_TurnError]; exact PySem.W.mg_of X G ca_TurnError
  g_TooMany := by rw [clsAt_of ca_TooMany]; exact PySem.W.mg_of X G ca_TooMany
  g_Shade := by rw [clsAt_of ca_Shade]; exact PySem.W.mg_of X G ca_Shade
  g_NoStep := by rw [clsAt_of ca_NoStep]; exact PySem.W.mg_of X G ca_NoStep
  g_Hangs := by rw [clsAt_of ca_Hangs]; exact PySem.W.mg_of X G ca_Hangs
  g_BadText := by rw [clsAt_of ca_BadText]; exact PySem.W.mg_of X G ca_BadText
  g_BadProgram := by rw [clsAt_of ca_BadProgram]; exact PySem.W.mg_of X G ca_BadProgram
  g_BadPaper := by rw [clsAt_of ca_BadPaper]; exact PySem.W.mg_of X G ca_BadPaper
  co_0 := (cs_cons (exm_mk ca_NoTurn ca_TurnError v_exm_0_NoTurn) cs_nil)
  ex_L := (tabex_cons rfl (excC_mk ca_NoTurn h0_NoTurn h1_NoTurn h2_NoTurn h3_NoTurn h4_NoTurn h5_NoTurn h6_NoTurn h7_NoTurn) (kit_mk ca_NoTurn ca_NoTurn v_kit_NoTurn_NoTurn) (tabex_cons rfl (excC_mk ca_NoTurn h0_NoTurn h1_NoTurn h2_NoTurn h3_NoTurn h4_NoTurn h5_NoTurn h6_NoTurn h7_NoTurn) (kit_mk ca_NoTurn ca_BadPaper v_kit_NoTurn_BadPaper) (tabex_cons rfl (excC_mk ca_NoTurn h0_NoTurn h1_NoTurn h2_NoTurn h3_NoTurn h4_NoTurn h5_NoTurn h6_NoTurn h7_NoTurn) (kit_mk ca_NoTurn ca_BadProgram v_kit_NoTurn_BadProgram) (tabex_cons rfl (excC_mk ca_NoTurn h0_NoTurn h1_NoTurn h2_NoTurn h3_NoTurn h4_NoTurn h5_NoTurn h6_NoTurn h7_NoTurn) (kit_mk ca_NoTurn ca_BadText v_kit_NoTurn_BadText) (tabex_cons rfl (excC_mk ca_NoTurn h0_NoTurn h1_NoTurn h2_NoTurn h3_NoTurn h4_NoTurn h5_NoTurn h6_NoTurn h7_NoTurn) (kit_mk ca_NoTurn ca_Hangs v_kit_NoTurn_Hangs) (tabex_cons rfl (excC_mk ca_NoTurn h0_NoTurn h1_NoTurn h2_NoTurn h3_NoTurn h4_NoTurn h5_NoTurn h6_NoTurn h7_NoTurn) (kit_mk ca_NoTurn ca_NoStep v_kit_NoTurn_NoStep) (tabex_cons rfl (excC_mk ca_NoTurn h0_NoTurn h1_NoTurn h2_NoTurn h3_NoTurn h4_NoTurn h5_NoTurn h6_NoTurn h7_NoTurn) (kit_mk ca_NoTurn ca_Shade v_kit_NoTurn_Shade) (tabex_cons rfl (excC_mk ca_NoTurn h0_NoTurn h1_NoTurn h2_NoTurn h3_NoTurn h4_NoTurn h5_NoTurn h6_NoTurn h7_NoTurn) (kit_mk ca_NoTurn ca_TooMany v_kit_NoTurn_TooMany) tabex_nil))))))))
  ve_L := (tabve_cons (ve_mk ca_NoTurn v_ve_NoTurn) (tabve_cons (ve_mk ca_NoTurn v_ve_NoTurn) (tabve_cons (ve_mk ca_NoTurn v_ve_NoTurn) (tabve_cons (ve_mk ca_NoTurn v_ve_NoTurn) (tabve_cons (ve_mk ca_NoTurn v_ve_NoTurn) (tabve_cons (ve_mk ca_NoTurn v_ve_NoTurn) (tabve_cons (ve_mk ca_NoTurn v_ve_NoTurn) (tabve_cons (ve_mk ca_NoTurn v_ve_NoTurn) tabve_nil))))))))
  a_is_name := f0
  d_is_name := PySem.W.fnOf "is_name" "is_name" (defArgs s_is_name) (defBody s_is_name) (defScope s_is_name) .none kV0 dc0 pm0 an0 cd0 ct0
  F_is_name := fun_mk (st := s_is_name) l0 c0 k0
  b_is_name := (fun_mk (st := s_is_name) l0 c0 k0).binds (ps := ["thing"]) fun _ _ _ _ _ _ us hl => match us, hl with | [_], _ => rfl
  m_is_name := PySem.W.mg_of X G a0
  a_is_count := f1
  d_is_count := PySem.W.fnOf "is_count" "is_count" (defArgs s_is_count) (defBody s_is_count) (defScope s_is_count) .none kV1 dc1 pm1 an1 cd1 ct1
  F_is_count := fun_mk (st := s_is_count) l1 c1 k1
  b_is_count := (fun_mk (st := s_is_count) l1 c1 k1).binds (ps := ["thing"]) fun _ _ _ _ _ _ us hl => match us, hl with | [_], _ => rfl
  m_is_count := PySem.W.mg_of X G a1
  a_are_counts := f2
  d_are_counts := PySem.W.fnOf "are_counts" "are_counts" (defArgs s_are_counts) (defBody s_are_counts) (defScope s_are_counts) .none kV2 dc2 pm2 an2 cd2 ct2
  F_are_counts := fun_mk (st := s_are_counts) l2 c2 k2
  b_are_counts := (fun_mk (st := s_are_counts) l2 c2 k2).binds (ps := ["thing"]) fun _ _ _ _ _ _ us hl => match us, hl with | [_], _ => rfl
  m_are_counts := PySem.W.mg_of X G a2
  a_is_way := f3
  d_is_way := PySem.W.fnOf "is_way" "is_way" (defArgs s_is_way) (defBody s_is_way) (defScope s_is_way) .none kV3 dc3 pm3 an3 cd3 ct3
  F_is_way := fun_mk (st := s_is_way) l3 c3 k3
  b_is_way := (fun_mk (st := s_is_way) l3 c3 k3).binds (ps := ["thing"]) fun _ _ _ _ _ _ us hl => match us, hl with | [_], _ => rfl
  m_is_way := PySem.W.mg_of X G a3
  a_is_binder := f4
  d_is_binder := PySem.W.fnOf "is_binder" "is_binder" (defArgs s_is_binder) (defBody s_is_binder) (defScope s_is_binder) .none kV4 dc4 pm4 an4 cd4 ct4
  F_is_binder := fun_mk (st := s_is_binder) l4 c4 k4
  b_is_binder := (fun_mk (st := s_is_binder) l4 c4 k4).binds (ps := ["thing"]) fun _ _ _ _ _ _ us hl => match us, hl with | [_], _ => rfl
  m_is_binder := PySem.W.mg_of X G a4
  a_are_ways := f5
  d_are_ways := PySem.W.fnOf "are_ways" "are_ways" (defArgs s_are_ways) (defBody s_are_ways) (defScope s_are_ways) .none kV5 dc5 pm5 an5 cd5 ct5
  F_are_ways := fun_mk (st := s_are_ways) l5 c5 k5
  b_are_ways := (fun_mk (st := s_are_ways) l5 c5 k5).binds (ps := ["thing"]) fun _ _ _ _ _ _ us hl => match us, hl with | [_], _ => rfl
  m_are_ways := PySem.W.mg_of X G a5
  a_fits := f6
  d_fits := PySem.W.fnOf "fits" "fits" (defArgs s_fits) (defBody s_fits) (defScope s_fits) .none kV6 dc6 pm6 an6 cd6 ct6
  F_fits := fun_mk (st := s_fits) l6 c6 k6
  b_fits := (fun_mk (st := s_fits) l6 c6 k6).binds (ps := ["sign", "thing"]) fun _ _ _ _ _ _ us hl => match us, hl with | [_, _], _ => rfl
  m_fits := PySem.W.mg_of X G a6
  a_has_form := f7
  d_has_form := PySem.W.fnOf "has_form" "has_form" (defArgs s_has_form) (defBody s_has_form) (defScope s_has_form) .none kV7 dc7 pm7 an7 cd7 ct7
  F_has_form := fun_mk (st := s_has_form) l7 c7 k7
  b_has_form := (fun_mk (st := s_has_form) l7 c7 k7).binds (ps := ["thing"]) fun _ _ _ _ _ _ us hl => match us, hl with | [_], _ => rfl
  m_has_form := PySem.W.mg_of X G a7
  a_need_goings := f8
  d_need_goings := PySem.W.fnOf "need" "need" (defArgs s_need_goings) (defBody s_need_goings) (defScope s_need_goings) .none kV8 dc8 pm8 an8 cd8 ct8
  F_need_goings := fun_mk (st := s_need_goings) l8 c8 k8
  b_need_goings := (fun_mk (st := s_need_goings) l8 c8 k8).binds (ps := ["is_so"]) fun _ _ _ _ _ _ us hl => match us, hl with | [_], _ => rfl
  m_need_goings := PySem.W.mg_of X G a8
  a_is_turning := f9
  d_is_turning := PySem.W.fnOf "is_turning" "is_turning" (defArgs s_is_turning) (defBody s_is_turning) (defScope s_is_turning) .none kV9 dc9 pm9 an9 cd9 ct9
  F_is_turning := fun_mk (st := s_is_turning) l9 c9 k9
  b_is_turning := (fun_mk (st := s_is_turning) l9 c9 k9).binds (ps := ["thing"]) fun _ _ _ _ _ _ us hl => match us, hl with | [_], _ => rfl
  m_is_turning := PySem.W.mg_of X G a9
  a_turned := f10
  d_turned := PySem.W.fnOf "turned" "turned" (defArgs s_turned) (defBody s_turned) (defScope s_turned) .none kV10 dc10 pm10 an10 cd10 ct10
  F_turned := fun_mk (st := s_turned) l10 c10 k10
  b_turned := (fun_mk (st := s_turned) l10 c10 k10).binds (ps := ["program", "turning"]) fun _ _ _ _ _ _ us hl => match us, hl with | [_, _], _ => rfl
  m_turned := PySem.W.mg_of X G a10
  a__law_cell := f11
  d__law_cell := PySem.W.fnOf "_law_cell" "_law_cell" (defArgs s__law_cell) (defBody s__law_cell) (defScope s__law_cell) .none kV11 dc11 pm11 an11 cd11 ct11
  F__law_cell := fun_mk (st := s__law_cell) l11 c11 k11
  b__law_cell := (fun_mk (st := s__law_cell) l11 c11 k11).binds (ps := ["_law_cells", "_law_spot"]) fun _ _ _ _ _ _ us hl => match us, hl with | [_, _], _ => rfl
  m__law_cell := PySem.W.mg_of X G a11
  a__law_names := f12
  d__law_names := PySem.W.fnOf "_law_names" "_law_names" (defArgs s__law_names) (defBody s__law_names) (defScope s__law_names) .none kV12 dc12 pm12 an12 cd12 ct12
  F__law_names := fun_mk (st := s__law_names) l12 c12 k12
  b__law_names := (fun_mk (st := s__law_names) l12 c12 k12).binds (ps := ["_law_n"]) fun _ _ _ _ _ _ us hl => match us, hl with | [_], _ => rfl
  m__law_names := PySem.W.mg_of X G a12
  a__law_is_name := f13
  d__law_is_name := PySem.W.fnOf "_law_is_name" "_law_is_name" (defArgs s__law_is_name) (defBody s__law_is_name) (defScope s__law_is_name) .none kV13 dc13 pm13 an13 cd13 ct13
  F__law_is_name := fun_mk (st := s__law_is_name) l13 c13 k13
  b__law_is_name := (fun_mk (st := s__law_is_name) l13 c13 k13).binds (ps := ["_law_thing"]) fun _ _ _ _ _ _ us hl => match us, hl with | [_], _ => rfl
  m__law_is_name := PySem.W.mg_of X G a13
  a__law_are_counts := f14
  d__law_are_counts := PySem.W.fnOf "_law_are_counts" "_law_are_counts" (defArgs s__law_are_counts) (defBody s__law_are_counts) (defScope s__law_are_counts) .none kV14 dc14 pm14 an14 cd14 ct14
  F__law_are_counts := fun_mk (st := s__law_are_counts) l14 c14 k14
  b__law_are_counts := (fun_mk (st := s__law_are_counts) l14 c14 k14).binds (ps := ["_law_thing"]) fun _ _ _ _ _ _ us hl => match us, hl with | [_], _ => rfl
  m__law_are_counts := PySem.W.mg_of X G a14
  a__law_is_way := f15
  d__law_is_way := PySem.W.fnOf "_law_is_way" "_law_is_way" (defArgs s__law_is_way) (defBody s__law_is_way) (defScope s__law_is_way) .none kV15 dc15 pm15 an15 cd15 ct15
  F__law_is_way := fun_mk (st := s__law_is_way) l15 c15 k15
  b__law_is_way := (fun_mk (st := s__law_is_way) l15 c15 k15).binds (ps := ["_law_thing"]) fun _ _ _ _ _ _ us hl => match us, hl with | [_], _ => rfl
  m__law_is_way := PySem.W.mg_of X G a15
  a__law_is_binder := f16
  d__law_is_binder := PySem.W.fnOf "_law_is_binder" "_law_is_binder" (defArgs s__law_is_binder) (defBody s__law_is_binder) (defScope s__law_is_binder) .none kV16 dc16 pm16 an16 cd16 ct16
  F__law_is_binder := fun_mk (st := s__law_is_binder) l16 c16 k16
  b__law_is_binder := (fun_mk (st := s__law_is_binder) l16 c16 k16).binds (ps := ["_law_thing"]) fun _ _ _ _ _ _ us hl => match us, hl with | [_], _ => rfl
  m__law_is_binder := PySem.W.mg_of X G a16
  a__law_fits := f17
  d__law_fits := PySem.W.fnOf "_law_fits" "_law_fits" (defArgs s__law_fits) (defBody s__law_fits) (defScope s__law_fits) .none kV17 dc17 pm17 an17 cd17 ct17
  F__law_fits := fun_mk (st := s__law_fits) l17 c17 k17
  b__law_fits := (fun_mk (st := s__law_fits) l17 c17 k17).binds (ps := ["_law_kind", "_law_thing"]) fun _ _ _ _ _ _ us hl => match us, hl with | [_, _], _ => rfl
  m__law_fits := PySem.W.mg_of X G a17
  a__law_kinds := f18
  d__law_kinds := PySem.W.fnOf "_law_kinds" "_law_kinds" (defArgs s__law_kinds) (defBody s__law_kinds) (defScope s__law_kinds) .none kV18 dc18 pm18 an18 cd18 ct18
  F__law_kinds := fun_mk (st := s__law_kinds) l18 c18 k18
  b__law_kinds := (fun_mk (st := s__law_kinds) l18 c18 k18).binds (ps := ["_law_word"]) fun _ _ _ _ _ _ us hl => match us, hl with | [_], _ => rfl
  m__law_kinds := PySem.W.mg_of X G a18
  a__law_is_form := f19
  d__law_is_form := PySem.W.fnOf "_law_is_form" "_law_is_form" (defArgs s__law_is_form) (defBody s__law_is_form) (defScope s__law_is_form) .none kV19 dc19 pm19 an19 cd19 ct19
  F__law_is_form := fun_mk (st := s__law_is_form) l19 c19 k19
  b__law_is_form := (fun_mk (st := s__law_is_form) l19 c19 k19).binds (ps := ["_law_thing"]) fun _ _ _ _ _ _ us hl => match us, hl with | [_], _ => rfl
  m__law_is_form := PySem.W.mg_of X G a19
  a__law_part := f20
  d__law_part := PySem.W.fnOf "_law_part" "_law_part" (defArgs s__law_part) (defBody s__law_part) (defScope s__law_part) .none kV20 dc20 pm20 an20 cd20 ct20
  F__law_part := fun_mk (st := s__law_part) l20 c20 k20
  b__law_part := (fun_mk (st := s__law_part) l20 c20 k20).binds (ps := ["_law_kind", "_law_names_here", "_law_n"]) fun _ _ _ _ _ _ us hl => match us, hl with | [_, _, _], _ => rfl
  m__law_part := PySem.W.mg_of X G a20
  a__law_odd := f21
  d__law_odd := PySem.W.fnOf "_law_odd" "_law_odd" (defArgs s__law_odd) (defBody s__law_odd) (defScope s__law_odd) .none kV21 dc21 pm21 an21 cd21 ct21
  F__law_odd := fun_mk (st := s__law_odd) l21 c21 k21
  b__law_odd := (fun_mk (st := s__law_odd) l21 c21 k21).binds (ps := ["_law_names_here", "_law_n"]) fun _ _ _ _ _ _ us hl => match us, hl with | [_, _], _ => rfl
  m__law_odd := PySem.W.mg_of X G a21
  a__law_bent := f22
  d__law_bent := PySem.W.fnOf "_law_bent" "_law_bent" (defArgs s__law_bent) (defBody s__law_bent) (defScope s__law_bent) .none kV22 dc22 pm22 an22 cd22 ct22
  F__law_bent := fun_mk (st := s__law_bent) l22 c22 k22
  b__law_bent := (fun_mk (st := s__law_bent) l22 c22 k22).binds (ps := ["_law_thing", "_law_names_here", "_law_n"]) fun _ _ _ _ _ _ us hl => match us, hl with | [_, _, _], _ => rfl
  m__law_bent := PySem.W.mg_of X G a22
  a__law_refused := f23
  d__law_refused := PySem.W.fnOf "_law_refused" "_law_refused" (defArgs s__law_refused) (defBody s__law_refused) (defScope s__law_refused) .none kV23 dc23 pm23 an23 cd23 ct23
  F__law_refused := fun_mk (st := s__law_refused) l23 c23 k23
  b__law_refused := (fun_mk (st := s__law_refused) l23 c23 k23).binds (ps := ["_law_program", "_law_thing"]) fun _ _ _ _ _ _ us hl => match us, hl with | [_, _], _ => rfl
  m__law_refused := PySem.W.mg_of X G a23
  a__law_far_right := f24
  d__law_far_right := PySem.W.fnOf "_law_far_right" "_law_far_right" (defArgs s__law_far_right) (defBody s__law_far_right) (defScope s__law_far_right) .none kV24 dc24 pm24 an24 cd24 ct24
  F__law_far_right := fun_mk (st := s__law_far_right) l24 c24 k24
  b__law_far_right := (fun_mk (st := s__law_far_right) l24 c24 k24).binds (ps := []) fun _ _ _ _ _ _ us hl => match us, hl with | [], _ => rfl
  m__law_far_right := PySem.W.mg_of X G a24
  a_law := f25
  d_law := PySem.W.fnOf "law" "law" (defArgs s_law) (defBody s_law) (defScope s_law) .none kV25 dc25 pm25 an25 cd25 ct25
  F_law := fun_mk (st := s_law) l25 c25 k25
  b_law := (fun_mk (st := s_law) l25 c25 k25).binds (ps := ["_law_script"]) fun _ _ _ _ _ _ us hl => match us, hl with | [_], _ => rfl
  m_law := PySem.W.mg_of X G a25
  bb_law := fun s v => .of_eq rfl
  z_len := PySem.W.mg_none_of X G z_len
  z_isinstance := PySem.W.mg_none_of X G z_isinstance
  z_str := PySem.W.mg_none_of X G z_str
  z_all := PySem.W.mg_none_of X G z_all
  z_bool := PySem.W.mg_none_of X G z_bool
  z_int := PySem.W.mg_none_of X G z_int
  z_tuple := PySem.W.mg_none_of X G z_tuple
  z_zip := PySem.W.mg_none_of X G z_zip
  z_range := PySem.W.mg_none_of X G z_range
  z_list := PySem.W.mg_none_of X G z_list
  z_ValueError := PySem.W.mg_none_of X G z_ValueError
  z_min := PySem.W.mg_none_of X G z_min
  z_enumerate := PySem.W.mg_none_of X G z_enumerate
  z_repr := PySem.W.mg_none_of X G z_repr
  c_MOST_NAME := ⟨_, PySem.W.mg_of X G g_MOST_NAME⟩
  c_LETTERS := ⟨_, PySem.W.mg_of X G g_LETTERS⟩
  q_WORDS := q_WORDS
  c_WORDS := PySem.W.mg_of X G g_WORDS
  r_WORDS := fun A G => tupIs_rep u_WORDS v_WORDS
  q_SHAPES := q_SHAPES
  c_SHAPES := PySem.W.mg_of X G g_SHAPES
  t_SHAPES := tab_ok u_SHAPES y_SHAPES v_SHAPES
  tg_SHAPES := tab_all u_SHAPES y_SHAPES v_SHAPES v_f_SHAPES v_s_SHAPES
theorem law_fin (lvl : Nat) {l : PySem.W.OpenLaw} {w : World} {K : PySem.W.Frag} {h : Heap} {mg : Str → Option Value} {fa : Addr} (X : K.In h) (G : h.Ns mainGlobals mg) (hfa : mg "law" = some (.ref fa)) {C_NoTurn : Addr} {C_TurnError : Addr} {C_TooMany : Addr} {C_Shade : Addr} {C_NoStep : Addr} {C_Hangs : Addr} {C_BadText : Addr} {C_BadProgram : Addr} {C_BadPaper : Addr} {f0 : Addr} {od0 an0 : Option Addr} {sl0 : Array (Option Value)} {oc0 kV0 dc0 pm0 cd0 ct0 : Value} {f1 : Addr} {od1 an1 : Option Addr} {sl1 : Array (Option Value)} {oc1 kV1 dc1 pm1 cd1 ct1 : Value} {f2 : Addr} {od2 an2 : Option Addr} {sl2 : Array (Option Value)} {oc2 kV2 dc2 pm2 cd2 ct2 : Value} {f3 : Addr} {od3 an3 : Option Addr} {sl3 : Array (Option Value)} {oc3 kV3 dc3 pm3 cd3 ct3 : Value} {f4 : Addr} {od4 an4 : Option Addr} {sl4 : Array (Option Value)} {oc4 kV4 dc4 pm4 cd4 ct4 : Value} {f5 : Addr} {od5 an5 : Option Addr} {sl5 : Array (Option Value)} {oc5 kV5 dc5 pm5 cd5 ct5 : Value} {f6 : Addr} {od6 an6 : Option Addr} {sl6 : Array (Option Value)} {oc6 kV6 dc6 pm6 cd6 ct6 : Value} {f7 : Addr} {od7 an7 : Option Addr} {sl7 : Array (Option Value)} {oc7 kV7 dc7 pm7 cd7 ct7 : Value} {f8 : Addr} {od8 an8 : Option Addr} {sl8 : Array (Option Value)} {oc8 kV8 dc8 pm8 cd8 ct8 : Value} {f9 : Addr} {od9 an9 : Option Addr} {sl9 : Array (Option Value)} {oc9 kV9 dc9 pm9 cd9 ct9 : Value} {f10 : Addr} {od10 an10 : Option Addr} {sl10 : Array (Option Value)} {oc10 kV10 dc10 pm10 cd10 ct10 : Value} {f11 : Addr} {od11 an11 : Option Addr} {sl11 : Array (Option Value)} {oc11 kV11 dc11 pm11 cd11 ct11 : Value} {f12 : Addr} {od12 an12 : Option Addr} {sl12 : Array (Option Value)} {oc12 kV12 dc12 pm12 cd12 ct12 : Value} {f13 : Addr} {od13 an13 : Option Addr} {sl13 : Array (Option Value)} {oc13 kV13 dc13 pm13 cd13 ct13 : Value} {f14 : Addr} {od14 an14 : Option Addr} {sl14 : Array (Option Value)} {oc14 kV14 dc14 pm14 cd14 ct14 : Value} {f15 : Addr} {od15 an15 : Option Addr} {sl15 : Array (Option Value)} {oc15 kV15 dc15 pm15 cd15 ct15 : Value} {f16 : Addr} {od16 an16 : Option Addr} {sl16 : Array (Option Value)} {oc16 kV16 dc16 pm16 cd16 ct16 : Value} {f17 : Addr} {od17 an17 : Option Addr} {sl17 : Array (Option Value)} {oc17 kV17 dc17 pm17 cd17 ct17 : Value} {f18 : Addr} {od18 an18 : Option Addr} {sl18 : Array (Option Value)} {oc18 kV18 dc18 pm18 cd18 ct18 : Value} {f19 : Addr} {od19 an19 : Option Addr} {sl19 : Array (Option Value)} {oc19 kV19 dc19 pm19 cd19 ct19 : Value} {f20 : Addr} {od20 an20 : Option Addr} {sl20 : Array (Option Value)} {oc20 kV20 dc20 pm20 cd20 ct20 : Value} {f21 : Addr} {od21 an21 : Option Addr} {sl21 : Array (Option Value)} {oc21 kV21 dc21 pm21 cd21 ct21 : Value} {f22 : Addr} {od22 an22 : Option Addr} {sl22 : Array (Option Value)} {oc22 kV22 dc22 pm22 cd22 ct22 : Value} {f23 : Addr} {od23 an23 : Option Addr} {sl23 : Array (Option Value)} {oc23 kV23 dc23 pm23 cd23 ct23 : Value} {f24 : Addr} {od24 an24 : Option Addr} {sl24 : Array (Option Value)} {oc24 kV24 dc24 pm24 cd24 ct24 : Value} {f25 : Addr} {od25 an25 : Option Addr} {sl25 : Array (Option Value)} {oc25 kV25 dc25 pm25 cd25 ct25 : Value} {t_MOST_NAME : Tok} {t_LETTERS : Tok} {q_WORDS : Addr} {o_WORDS : Obj} {q_SHAPES : Addr} {es_SHAPES : Array DictEntry} {n_SHAPES : Nat} (ca_NoTurn : PySem.W.nsIn K mainGlobals "NoTurn" = some (some (.ref C_NoTurn))) (xk_NoTurn : PySem.W.keepIn K (.ref C_NoTurn) = true) (xs_NoTurn : PySem.W.subIn K (.ref C_NoTurn) (.type "BaseException") = some true) (xt_NoTurn : PySem.W.typeIn K (.ref C_NoTurn) = some (.type "type")) (v_xq_NoTurn : PySem.W.excIn K C_NoTurn [.type "ValueError", .type "Exception", .type "BaseException", .type "object"] "ValueError.__new__" = true) (ca_TurnError : PySem.W.nsIn K mainGlobals "TurnError" = some (some (.ref C_TurnError))) (ca_TooMany : PySem.W.nsIn K mainGlobals "TooMany" = some (some (.ref C_TooMany))) (ca_Shade : PySem.W.nsIn K mainGlobals "Shade" = some (some (.ref C_Shade))) (ca_NoStep : PySem.W.nsIn K mainGlobals "NoStep" = some (some (.ref C_NoStep))) (ca_Hangs : PySem.W.nsIn K mainGlobals "Hangs" = some (some (.ref C_Hangs))) (ca_BadText : PySem.W.nsIn K mainGlobals "BadText" = some (some (.ref C_BadText))) (ca_BadProgram : PySem.W.nsIn K mainGlobals "BadProgram" = some (some (.ref C_BadProgram))) (ca_BadPaper : PySem.W.nsIn K mainGlobals "BadPaper" = some (some (.ref C_BadPaper))) (v_exm_0_NoTurn : PySem.W.exmOne K (.ref C_NoTurn) (.ref C_TurnError) = some true) (h0_NoTurn : PySem.W.findIn K (.ref C_NoTurn) "__getattribute__" = some (some (.builtin "BaseException.__getattribute__"))) (h1_NoTurn : PySem.W.findIn K (.ref C_NoTurn) "__getattr__" = some none) (h2_NoTurn : PySem.W.subIn K (.ref C_NoTurn) (.type "BaseException") = some true) (h3_NoTurn : PySem.W.hasDictIn K C_NoTurn = true) (h4_NoTurn : PySem.W.findIn K (.ref C_NoTurn) "__class__" = some (some (.builtin "object.__class__"))) (h5_NoTurn : PySem.W.specialIn K (.builtin "object.__class__") "__get__" = some (some (.builtin "getset_descriptor.__get__"))) (h6_NoTurn : PySem.W.takesIn K (.builtin "object.__class__") = some true) (h7_NoTurn : PySem.W.mroIn K C_NoTurn (.type "object") = some true) (v_ve_NoTurn : PySem.W.kitOne K (.ref C_NoTurn) (.type "ValueError") = some true) (v_kit_NoTurn_NoTurn : PySem.W.kitOne K (.ref C_NoTurn) (.ref C_NoTurn) = some true) (v_kit_NoTurn_BadPaper : PySem.W.kitOne K (.ref C_NoTurn) (.ref C_BadPaper) = some false) (v_kit_NoTurn_BadProgram : PySem.W.kitOne K (.ref C_NoTurn) (.ref C_BadProgram) = some false) (v_kit_NoTurn_BadText : PySem.W.kitOne K (.ref C_NoTurn) (.ref C_BadText) = some false) (v_kit_NoTurn_Hangs : PySem.W.kitOne K (.ref C_NoTurn) (.ref C_Hangs) = some false) (v_kit_NoTurn_NoStep : PySem.W.kitOne K (.ref C_NoTurn) (.ref C_NoStep) = some false) (v_kit_NoTurn_Shade : PySem.W.kitOne K (.ref C_NoTurn) (.ref C_Shade) = some false) (v_kit_NoTurn_TooMany : PySem.W.kitOne K (.ref C_NoTurn) (.ref C_TooMany) = some false) (a0 : PySem.W.nsIn K mainGlobals "is_name" = some (some (.ref f0))) (l0 : K.lookup f0 = some ⟨oc0, od0, .func (PySem.W.fnOf "is_name" "is_name" (defArgs s_is_name) (defBody s_is_name) (defScope s_is_name) .none kV0 dc0 pm0 an0 cd0 ct0), sl0⟩) (c0 : PySem.W.codeIn K cd0 "is_name" = true) (k0 : PySem.W.keepIn K (.ref f0) = true) (a1 : PySem.W.nsIn K mainGlobals "is_count" = some (some (.ref f1))) (l1 : K.lookup f1 = some ⟨oc1, od1, .func (PySem.W.fnOf "is_count" "is_count" (defArgs s_is_count) (defBody s_is_count) (defScope s_is_count) .none kV1 dc1 pm1 an1 cd1 ct1), sl1⟩) (c1 : PySem.W.codeIn K cd1 "is_count" = true) (k1 : PySem.W.keepIn K (.ref f1) = true) (a2 : PySem.W.nsIn K mainGlobals "are_counts" = some (some (.ref f2))) (l2 : K.lookup f2 = some ⟨oc2, od2, .func (PySem.W.fnOf "are_counts" "are_counts" (defArgs s_are_counts) (defBody s_are_counts) (defScope s_are_counts) .none kV2 dc2 pm2 an2 cd2 ct2), sl2⟩) (c2 : PySem.W.codeIn K cd2 "are_counts" = true) (k2 : PySem.W.keepIn K (.ref f2) = true) (a3 : PySem.W.nsIn K mainGlobals "is_way" = some (some (.ref f3))) (l3 : K.lookup f3 = some ⟨oc3, od3, .func (PySem.W.fnOf "is_way" "is_way" (defArgs s_is_way) (defBody s_is_way) (defScope s_is_way) .none kV3 dc3 pm3 an3 cd3 ct3), sl3⟩) (c3 : PySem.W.codeIn K cd3 "is_way" = true) (k3 : PySem.W.keepIn K (.ref f3) = true) (a4 : PySem.W.nsIn K mainGlobals "is_binder" = some (some (.ref f4))) (l4 : K.lookup f4 = some ⟨oc4, od4, .func (PySem.W.fnOf "is_binder" "is_binder" (defArgs s_is_binder) (defBody s_is_binder) (defScope s_is_binder) .none kV4 dc4 pm4 an4 cd4 ct4), sl4⟩) (c4 : PySem.W.codeIn K cd4 "is_binder" = true) (k4 : PySem.W.keepIn K (.ref f4) = true) (a5 : PySem.W.nsIn K mainGlobals "are_ways" = some (some (.ref f5))) (l5 : K.lookup f5 = some ⟨oc5, od5, .func (PySem.W.fnOf "are_ways" "are_ways" (defArgs s_are_ways) (defBody s_are_ways) (defScope s_are_ways) .none kV5 dc5 pm5 an5 cd5 ct5), sl5⟩) (c5 : PySem.W.codeIn K cd5 "are_ways" = true) (k5 : PySem.W.keepIn K (.ref f5) = true) (a6 : PySem.W.nsIn K mainGlobals "fits" = some (some (.ref f6))) (l6 : K.lookup f6 = some ⟨oc6, od6, .func (PySem.W.fnOf "fits" "fits" (defArgs s_fits) (defBody s_fits) (defScope s_fits) .none kV6 dc6 pm6 an6 cd6 ct6), sl6⟩) (c6 : PySem.W.codeIn K cd6 "fits" = true) (k6 : PySem.W.keepIn K (.ref f6) = true) (a7 : PySem.W.nsIn K mainGlobals "has_form" = some (some (.ref f7))) (l7 : K.lookup f7 = some ⟨oc7, od7, .func (PySem.W.fnOf "has_form" "has_form" (defArgs s_has_form) (defBody s_has_form) (defScope s_has_form) .none kV7 dc7 pm7 an7 cd7 ct7), sl7⟩) (c7 : PySem.W.codeIn K cd7 "has_form" = true) (k7 : PySem.W.keepIn K (.ref f7) = true) (a8 : PySem.W.nsIn K mainGlobals "need_goings" = some (some (.ref f8))) (l8 : K.lookup f8 = some ⟨oc8, od8, .func (PySem.W.fnOf "need" "need" (defArgs s_need_goings) (defBody s_need_goings) (defScope s_need_goings) .none kV8 dc8 pm8 an8 cd8 ct8), sl8⟩) (c8 : PySem.W.codeIn K cd8 "need" = true) (k8 : PySem.W.keepIn K (.ref f8) = true) (a9 : PySem.W.nsIn K mainGlobals "is_turning" = some (some (.ref f9))) (l9 : K.lookup f9 = some ⟨oc9, od9, .func (PySem.W.fnOf "is_turning" "is_turning" (defArgs s_is_turning) (defBody s_is_turning) (defScope s_is_turning) .none kV9 dc9 pm9 an9 cd9 ct9), sl9⟩) (c9 : PySem.W.codeIn K cd9 "is_turning" = true) (k9 : PySem.W.keepIn K (.ref f9) = true) (a10 : PySem.W.nsIn K mainGlobals "turned" = some (some (.ref f10))) (l10 : K.lookup f10 = some ⟨oc10, od10, .func (PySem.W.fnOf "turned" "turned" (defArgs s_turned) (defBody s_turned) (defScope s_turned) .none kV10 dc10 pm10 an10 cd10 ct10), sl10⟩) (c10 : PySem.W.codeIn K cd10 "turned" = true) (k10 : PySem.W.keepIn K (.ref f10) = true) (a11 : PySem.W.nsIn K mainGlobals "_law_cell" = some (some (.ref f11))) (l11 : K.lookup f11 = some ⟨oc11, od11, .func (PySem.W.fnOf "_law_cell" "_law_cell" (defArgs s__law_cell) (defBody s__law_cell) (defScope s__law_cell) .none kV11 dc11 pm11 an11 cd11 ct11), sl11⟩) (c11 : PySem.W.codeIn K cd11 "_law_cell" = true) (k11 : PySem.W.keepIn K (.ref f11) = true) (a12 : PySem.W.nsIn K mainGlobals "_law_names" = some (some (.ref f12))) (l12 : K.lookup f12 = some ⟨oc12, od12, .func (PySem.W.fnOf "_law_names" "_law_names" (defArgs s__law_names) (defBody s__law_names) (defScope s__law_names) .none kV12 dc12 pm12 an12 cd12 ct12), sl12⟩) (c12 : PySem.W.codeIn K cd12 "_law_names" = true) (k12 : PySem.W.keepIn K (.ref f12) = true) (a13 : PySem.W.nsIn K mainGlobals "_law_is_name" = some (some (.ref f13))) (l13 : K.lookup f13 = some ⟨oc13, od13, .func (PySem.W.fnOf "_law_is_name" "_law_is_name" (defArgs s__law_is_name) (defBody s__law_is_name) (defScope s__law_is_name) .none kV13 dc13 pm13 an13 cd13 ct13), sl13⟩) (c13 : PySem.W.codeIn K cd13 "_law_is_name" = true) (k13 : PySem.W.keepIn K (.ref f13) = true) (a14 : PySem.W.nsIn K mainGlobals "_law_are_counts" = some (some (.ref f14))) (l14 : K.lookup f14 = some ⟨oc14, od14, .func (PySem.W.fnOf "_law_are_counts" "_law_are_counts" (defArgs s__law_are_counts) (defBody s__law_are_counts) (defScope s__law_are_counts) .none kV14 dc14 pm14 an14 cd14 ct14), sl14⟩) (c14 : PySem.W.codeIn K cd14 "_law_are_counts" = true) (k14 : PySem.W.keepIn K (.ref f14) = true) (a15 : PySem.W.nsIn K mainGlobals "_law_is_way" = some (some (.ref f15))) (l15 : K.lookup f15 = some ⟨oc15, od15, .func (PySem.W.fnOf "_law_is_way" "_law_is_way" (defArgs s__law_is_way) (defBody s__law_is_way) (defScope s__law_is_way) .none kV15 dc15 pm15 an15 cd15 ct15), sl15⟩) (c15 : PySem.W.codeIn K cd15 "_law_is_way" = true) (k15 : PySem.W.keepIn K (.ref f15) = true) (a16 : PySem.W.nsIn K mainGlobals "_law_is_binder" = some (some (.ref f16))) (l16 : K.lookup f16 = some ⟨oc16, od16, .func (PySem.W.fnOf "_law_is_binder" "_law_is_binder" (defArgs s__law_is_binder) (defBody s__law_is_binder) (defScope s__law_is_binder) .none kV16 dc16 pm16 an16 cd16 ct16), sl16⟩) (c16 : PySem.W.codeIn K cd16 "_law_is_binder" = true) (k16 : PySem.W.keepIn K (.ref f16) = true) (a17 : PySem.W.nsIn K mainGlobals "_law_fits" = some (some (.ref f17))) (l17 : K.lookup f17 = some ⟨oc17, od17, .func (PySem.W.fnOf "_law_fits" "_law_fits" (defArgs s__law_fits) (defBody s__law_fits) (defScope s__law_fits) .none kV17 dc17 pm17 an17 cd17 ct17), sl17⟩) (c17 : PySem.W.codeIn K cd17 "_law_fits" = true) (k17 : PySem.W.keepIn K (.ref f17) = true) (a18 : PySem.W.nsIn K mainGlobals "_law_kinds" = some (some (.ref f18))) (l18 : K.lookup f18 = some ⟨oc18, od18, .func (PySem.W.fnOf "_law_kinds" "_law_kinds" (defArgs s__law_kinds) (defBody s__law_kinds) (defScope s__law_kinds) .none kV18 dc18 pm18 an18 cd18 ct18), sl18⟩) (c18 : PySem.W.codeIn K cd18 "_law_kinds" = true) (k18 : PySem.W.keepIn K (.ref f18) = true) (a19 : PySem.W.nsIn K mainGlobals "_law_is_form" = some (some (.ref f19))) (l19 : K.lookup f19 = some ⟨oc19, od19, .func (PySem.W.fnOf "_law_is_form" "_law_is_form" (defArgs s__law_is_form) (defBody s__law_is_form) (defScope s__law_is_form) .none kV19 dc19 pm19 an19 cd19 ct19), sl19⟩) (c19 : PySem.W.codeIn K cd19 "_law_is_form" = true) (k19 : PySem.W.keepIn K (.ref f19) = true) (a20 : PySem.W.nsIn K mainGlobals "_law_part" = some (some (.ref f20))) (l20 : K.lookup f20 = some ⟨oc20, od20, .func (PySem.W.fnOf "_law_part" "_law_part" (defArgs s__law_part) (defBody s__law_part) (defScope s__law_part) .none kV20 dc20 pm20 an20 cd20 ct20), sl20⟩) (c20 : PySem.W.codeIn K cd20 "_law_part" = true) (k20 : PySem.W.keepIn K (.ref f20) = true) (a21 : PySem.W.nsIn K mainGlobals "_law_odd" = some (some (.ref f21))) (l21 : K.lookup f21 = some ⟨oc21, od21, .func (PySem.W.fnOf "_law_odd" "_law_odd" (defArgs s__law_odd) (defBody s__law_odd) (defScope s__law_odd) .none kV21 dc21 pm21 an21 cd21 ct21), sl21⟩) (c21 : PySem.W.codeIn K cd21 "_law_odd" = true) (k21 : PySem.W.keepIn K (.ref f21) = true) (a22 : PySem.W.nsIn K mainGlobals "_law_bent" = some (some (.ref f22))) (l22 : K.lookup f22 = some ⟨oc22, od22, .func (PySem.W.fnOf "_law_bent" "_law_bent" (defArgs s__law_bent) (defBody s__law_bent) (defScope s__law_bent) .none kV22 dc22 pm22 an22 cd22 ct22), sl22⟩) (c22 : PySem.W.codeIn K cd22 "_law_bent" = true) (k22 : PySem.W.keepIn K (.ref f22) = true) (a23 : PySem.W.nsIn K mainGlobals "_law_refused" = some (some (.ref f23))) (l23 : K.lookup f23 = some ⟨oc23, od23, .func (PySem.W.fnOf "_law_refused" "_law_refused" (defArgs s__law_refused) (defBody s__law_refused) (defScope s__law_refused) .none kV23 dc23 pm23 an23 cd23 ct23), sl23⟩) (c23 : PySem.W.codeIn K cd23 "_law_refused" = true) (k23 : PySem.W.keepIn K (.ref f23) = true) (a24 : PySem.W.nsIn K mainGlobals "_law_far_right" = some (some (.ref f24))) (l24 : K.lookup f24 = some ⟨oc24, od24, .func (PySem.W.fnOf "_law_far_right" "_law_far_right" (defArgs s__law_far_right) (defBody s__law_far_right) (defScope s__law_far_right) .none kV24 dc24 pm24 an24 cd24 ct24), sl24⟩) (c24 : PySem.W.codeIn K cd24 "_law_far_right" = true) (k24 : PySem.W.keepIn K (.ref f24) = true) (a25 : PySem.W.nsIn K mainGlobals "law" = some (some (.ref f25))) (l25 : K.lookup f25 = some ⟨oc25, od25, .func (PySem.W.fnOf "law" "law" (defArgs s_law) (defBody s_law) (defScope s_law) .none kV25 dc25 pm25 an25 cd25 ct25), sl25⟩) (c25 : PySem.W.codeIn K cd25 "law" = true) (k25 : PySem.W.keepIn K (.ref f25) = true) (z_len : PySem.W.nsIn K mainGlobals "len" = some none) (z_isinstance : PySem.W.nsIn K mainGlobals "isinstance" = some none) (z_str : PySem.W.nsIn K mainGlobals "str" = some none) (z_all : PySem.W.nsIn K mainGlobals "all" = some none) (z_bool : PySem.W.nsIn K mainGlobals "bool" = some none) (z_int : PySem.W.nsIn K mainGlobals "int" = some none) (z_tuple : PySem.W.nsIn K mainGlobals "tuple" = some none) (z_zip : PySem.W.nsIn K mainGlobals "zip" = some none) (z_range : PySem.W.nsIn K mainGlobals "range" = some none) (z_list : PySem.W.nsIn K mainGlobals "list" = some none) (z_ValueError : PySem.W.nsIn K mainGlobals "ValueError" = some none) (z_min : PySem.W.nsIn K mainGlobals "min" = some none) (z_enumerate : PySem.W.nsIn K mainGlobals "enumerate" = some none) (z_repr : PySem.W.nsIn K mainGlobals "repr" = some none) (g_MOST_NAME : PySem.W.nsIn K mainGlobals "MOST_NAME" = some (some (.int 8 t_MOST_NAME))) (g_LETTERS : PySem.W.nsIn K mainGlobals "LETTERS" = some (some (.str "abcdefghijklmnopqrstuvwxyz" t_LETTERS))) (g_WORDS : PySem.W.nsIn K mainGlobals "WORDS" = some (some (.ref q_WORDS))) (u_WORDS : K.lookup q_WORDS = some o_WORDS) (v_WORDS : tupIs K 9 o_WORDS k_WORDS = true) (g_SHAPES : PySem.W.nsIn K mainGlobals "SHAPES" = some (some (.ref q_SHAPES))) (u_SHAPES : K.lookup q_SHAPES = some ⟨.type "dict", none, .dict es_SHAPES n_SHAPES, #[]⟩) (v_SHAPES : tabIs K q_SHAPES k_SHAPES = true) (y_SHAPES : PySem.W.KeysLit w.params es_SHAPES.toList) (v_f_SHAPES : tabFull es_SHAPES k_SHAPES = true) (v_s_SHAPES : (q_SHAPES == sysModules) = false) :
    ∃ fd : FuncData, (∀ (s : Shared) (v : Value), BindsTo s fd ⟨[v], []⟩ [("_law_script", v)]) ∧ ∀ base : Heap, K.In base → base.Ns mainGlobals mg → GOk l.prog w K mg base CX0 (lv lvl) fa fd ["_law_script"] (spD K W0 1 (sem lvl f_law)) := by
  have T : Top w K mg := top_mk X G (ca_NoTurn := ca_NoTurn) (xk_NoTurn := xk_NoTurn) (xs_NoTurn := xs_NoTurn) (xt_NoTurn := xt_NoTurn) (v_xq_NoTurn := v_xq_NoTurn) (ca_TurnError := ca_TurnError) (ca_TooMany := ca_TooMany) (ca_Shade := ca_Shade) (ca_NoStep := ca_NoStep) (ca_Hangs := ca_Hangs) (ca_BadText := ca_BadText) (ca_BadProgram := ca_BadProgram) (ca_BadPaper := ca_BadPaper) (v_exm_0_NoTurn := v_exm_0_NoTurn) (h0_NoTurn := h0_NoTurn) (h1_NoTurn := h1_NoTurn) (h2_NoTurn := h2_NoTurn) (h3_NoTurn := h3_NoTurn) (h4_NoTurn := h4_NoTurn) (h5_NoTurn := h5_NoTurn) (h6_NoTurn := h6_NoTurn) (h7_NoTurn := h7_NoTurn) (v_ve_NoTurn := v_ve_NoTurn) (v_kit_NoTurn_NoTurn := v_kit_NoTurn_NoTurn) (v_kit_NoTurn_BadPaper := v_kit_NoTurn_BadPaper) (v_kit_NoTurn_BadProgram := v_kit_NoTurn_BadProgram) (v_kit_NoTurn_BadText := v_kit_NoTurn_BadText) (v_kit_NoTurn_Hangs := v_kit_NoTurn_Hangs) (v_kit_NoTurn_NoStep := v_kit_NoTurn_NoStep) (v_kit_NoTurn_Shade := v_kit_NoTurn_Shade) (v_kit_NoTurn_TooMany := v_kit_NoTurn_TooMany) (a0 := a0) (l0 := l0) (c0 := c0) (k0 := k0) (a1 := a1) (l1 := l1) (c1 := c1) (k1 := k1) (a2 := a2) (l2 := l2) (c2 := c2) (k2 := k2) (a3 := a3) (l3 := l3) (c3 := c3) (k3 := k3) (a4 := a4) (l4 := l4) (c4 := c4) (k4 := k4) (a5 := a5) (l5 := l5) (c5 := c5) (k5 := k5) (a6 := a6) (l6 := l6) (c6 := c6) (k6 := k6) (a7 := a7) (l7 := l7) (c7 := c7) (k7 := k7) (a8 := a8) (l8 := l8) (c8 := c8) (k8 := k8) (a9 := a9) (l9 := l9) (c9 := c9) (k9 := k9) (a10 := a10) (l10 := l10) (c10 := c10) (k10 := k10) (a11 := a11) (l11 := l11) (c11 := c11) (k11 := k11) (a12 := a12) (l12 := l12) (c12 := c12) (k12 := k12) (a13 := a13) (l13 := l13) (c13 := c13) (k13 := k13) (a14 := a14) (l14 := l14) (c14 := c14) (k14 := k14) (a15 := a15) (l15 := l15) (c15 := c15) (k15 := k15) (a16 := a16) (l16 := l16) (c16 := c16) (k16 := k16) (a17 := a17) (l17 := l17) (c17 := c17) (k17 := k17) (a18 := a18) (l18 := l18) (c18 := c18) (k18 := k18) (a19 := a19) (l19 := l19) (c19 := c19) (k19 := k19) (a20 := a20) (l20 := l20) (c20 := c20) (k20 := k20) (a21 := a21) (l21 := l21) (c21 := c21) (k21 := k21) (a22 := a22) (l22 := l22) (c22 := c22) (k22 := k22) (a23 := a23) (l23 := l23) (c23 := c23) (k23 := k23) (a24 := a24) (l24 := l24) (c24 := c24) (k24 := k24) (a25 := a25) (l25 := l25) (c25 := c25) (k25 := k25) (z_len := z_len) (z_isinstance := z_isinstance) (z_str := z_str) (z_all := z_all) (z_bool := z_bool) (z_int := z_int) (z_tuple := z_tuple) (z_zip := z_zip) (z_range := z_range) (z_list := z_list) (z_ValueError := z_ValueError) (z_min := z_min) (z_enumerate := z_enumerate) (z_repr := z_repr) (g_MOST_NAME := g_MOST_NAME) (g_LETTERS := g_LETTERS) (g_WORDS := g_WORDS) (u_WORDS := u_WORDS) (v_WORDS := v_WORDS) (g_SHAPES := g_SHAPES) (u_SHAPES := u_SHAPES) (v_SHAPES := v_SHAPES) (y_SHAPES := y_SHAPES) (v_f_SHAPES := v_f_SHAPES) (v_s_SHAPES := v_s_SHAPES)
  have e : fa = T.a_law := PySem.Value.ref.inj (Option.some.inj (hfa.symm.trans T.m_law))
  subst e
  exact ⟨T.d_law, T.bb_law, fun base _ _ => (oks T lvl).i_law⟩
end K52
namespace K52
open PySem L2 TP
set_option maxHeartbeats 8000000
/-! names -/
def abc : Str := "abcdefghijklmnopqrstuvwxyz"
def wordsD : List D := [.str "module", .str "def", .str "let", .str "in", .str "if", .str "then", .str "else", .str "times", .str "as", .str "from", .str "do", .str "tell", .str "stop"]
def isN (z : Str) : Bool := decide (1 ≤ z.length) && decide (z.length ≤ 8) && !(wordsD.any fun d => eqvD d (.str z)) && (z.cps.toList.all fun c => inStr ⟨#[c]⟩ abc)
def nameB : D → Bool
  | .str z => isN z
  | _ => false
mutual
def okX (M : Store) : D → Prop
  | .non => True
  | .bl _ => True
  | .int _ => True
  | .str z => z.length ≤ 1000
  | .tup xs => okXL M xs ∧ xs.length ≤ 1000
  | .lst _ => True
  | .ref k => ∃ kvs, M[k]? = some (.dK kvs)
  | _ => False
def okXL (M : Store) : List D → Prop
  | [] => True
  | x :: xs => okX M x ∧ okXL M xs
end
theorem okXL_mem {M : Store} : ∀ {xs : List D}, okXL M xs → ∀ x ∈ xs, okX M x
  | [], _, _, h => by cases h
  | x :: xs, h, y, hy => by
    rw [okXL] at h
    rcases List.mem_cons.mp hy with rfl | hy
    · exact h.1
    · exact okXL_mem h.2 y hy
theorem words_flat : wordsD.all flatD = true := by decide +kernel
theorem inW (M : Store) (z : Str) : inD M (.str z) k_WORDS = some (.val (.bl (wordsD.any fun d => eqvD d (.str z)))) := by
  show inD M (.str z) (.tup wordsD) = _
  unfold inD
  simp only [elemsD]
  rw [if_pos (by rw [words_flat]; rfl)]
theorem inWL (M : Store) (z : Str) : inD M (.str z) (.lst wordsD) = some (.val (.bl (wordsD.any fun d => eqvD d (.str z)))) := by
  unfold inD
  simp only [elemsD, seqOf, lstOf]
  rw [if_pos (by rw [words_flat]; rfl)]
theorem blsOf_map {α : Type} (f : α → Bool) : ∀ l : List α, blsOf (l.map fun c => .bl (f c)) = some (l.map f)
  | [] => rfl
  | c :: l => by rw [List.map_cons, blsOf, blsOf_map f l]; rfl
theorem name_str (k : Nat) (z : Str) (M : Store) (hz : z.length ≤ 1000) : sem (k + 1) f_is_name [.str z] M = .ok (.val (.bl (isN z))) M := by
  have hz' : z.length ≤ 16777216 := by omega
  have hl : lcGo (bName 1) dYes (el_is_name_0 (sem k)) [Slot.val (D.str z), Slot.un] (z.cps.toList.map fun c => D.str ⟨#[c]⟩) [] M = .ok (z.cps.toList.map fun c => .bl (inStr ⟨#[c]⟩ abc)) M :=
    lcGo_mp (b := bName 1) (fun c => D.str ⟨#[c]⟩) (fun c => .bl (inStr ⟨#[c]⟩ abc)) z.cps.toList (fun c _ => ⟨_, rfl, by simp [el_is_name_0_eq, inD, abc]⟩) (by rw [Array.length_toList]; show z.length ≤ _; omega)
  have hb := blsOf_map (fun c => inStr ⟨#[c]⟩ abc) z.cps.toList
  rw [e_is_name]
  unfold isN
  by_cases h1 : 1 ≤ z.length
  · have h1' : (1 : Int) ≤ (z.length : Int) := by omega
    by_cases h2 : z.length ≤ 8
    · have h2' : (z.length : Int) ≤ 8 := by omega
      cases h3 : wordsD.any fun d => eqvD d (.str z) with
      | true => simp [runF, m_is_name, startD, isiD, clsD, subTy, hz', inW, h1, h2, h1', h2', h3]
      | false => simp [runF, m_is_name, startD, isiD, clsD, subTy, hz', inW, h1, h2, h1', h2', h3, itemsD, wipeD, hl, allD, seqOf, lstOf, hb]
    · have h2' : ¬ (z.length : Int) ≤ 8 := by omega
      simp [runF, m_is_name, startD, isiD, clsD, subTy, hz', inW, h1, h2, h1', h2']
  · have h1' : ¬ (1 : Int) ≤ (z.length : Int) := by omega
    simp [runF, m_is_name, startD, isiD, clsD, subTy, hz', inW, h1, h1']
theorem name_ok (k : Nat) (x : D) (M : Store) (h : okX M x) : sem (k + 1) f_is_name [x] M = .ok (.val (.bl (nameB x))) M := by
  cases x with
  | str z => exact name_str k z M (by rw [okX] at h; exact h)
  | ref j =>
    rw [okX] at h
    obtain ⟨kvs, h⟩ := h
    rw [e_is_name]
    simp [runF, m_is_name, startD, isiD, clsD, subTy, h, nameB]
  | fro => rw [okX] at h <;> first | exact h.elim | (intros; contradiction)
  | kt => rw [okX] at h <;> first | exact h.elim | (intros; contradiction)
  | fn => rw [okX] at h <;> first | exact h.elim | (intros; contradiction)
  | _ => rw [e_is_name]; simp [runF, m_is_name, startD, isiD, clsD, subTy, nameB]
theorem lname_str (k : Nat) (z : Str) (M : Store) (hz : z.length ≤ 1000) : sem (k + 1) f__law_is_name [.str z] M = .ok (.val (.bl (isN z))) M := by
  have hz' : z.length ≤ 16777216 := by omega
  have hl : ∀ s : Slot, lcGo (bName 2) dYes (el__law_is_name_0 (sem k)) [Slot.val (D.str z), s, Slot.un] (z.cps.toList.map fun c => D.str ⟨#[c]⟩) [] M = .ok (z.cps.toList.map fun c => .bl (inStr ⟨#[c]⟩ abc)) M := fun s =>
    lcGo_mp (b := bName 2) (fun c => D.str ⟨#[c]⟩) (fun c => .bl (inStr ⟨#[c]⟩ abc)) z.cps.toList (fun c _ => ⟨_, rfl, by simp [el__law_is_name_0_eq, inD, abc]⟩) (by rw [Array.length_toList]; show z.length ≤ _; omega)
  have hb := blsOf_map (fun c => inStr ⟨#[c]⟩ abc) z.cps.toList
  have hw := inWL M z
  obtain ⟨WL, hWL⟩ : ∃ y, y = wordsD := ⟨_, rfl⟩
  have e0 : ([.str "module", .str "def", .str "let", .str "in", .str "if", .str "then", .str "else", .str "times", .str "as", .str "from", .str "do", .str "tell", .str "stop"] : List D) = WL := hWL.symm
  rw [e__law_is_name]
  unfold isN
  rw [← hWL] at hw ⊢
  have hWLl : WL.length ≤ 16777216 := by rw [hWL]; decide
  by_cases h1 : 1 ≤ z.length
  · have h1' : (1 : Int) ≤ (z.length : Int) := by omega
    by_cases h2 : z.length ≤ 8
    · have h2' : (z.length : Int) ≤ 8 := by omega
      cases h3 : WL.any fun d => eqvD d (.str z) with
      | true => simp [runF, m__law_is_name, startD, isiD, clsD, subTy, hz', e0, hWLl, hw, h1, h2, h1', h2', h3]
      | false => simp [runF, m__law_is_name, startD, isiD, clsD, subTy, hz', e0, hWLl, hw, h1, h2, h1', h2', h3, itemsD, wipeD, hl, allD, seqOf, lstOf, hb]
    · have h2' : ¬ (z.length : Int) ≤ 8 := by omega
      simp [runF, m__law_is_name, startD, isiD, clsD, subTy, hz', e0, hWLl, hw, h1, h2, h1', h2']
  · have h1' : ¬ (1 : Int) ≤ (z.length : Int) := by omega
    simp [runF, m__law_is_name, startD, isiD, clsD, subTy, hz', e0, hWLl, hw, h1, h1']
theorem lname_ok (k : Nat) (x : D) (M : Store) (h : okX M x) : sem (k + 1) f__law_is_name [x] M = .ok (.val (.bl (nameB x))) M := by
  cases x with
  | str z => exact lname_str k z M (by rw [okX] at h; exact h)
  | ref j =>
    rw [okX] at h
    obtain ⟨kvs, h⟩ := h
    rw [e__law_is_name]
    simp [runF, m__law_is_name, startD, isiD, clsD, subTy, h, nameB]
  | fro => rw [okX] at h <;> first | exact h.elim | (intros; contradiction)
  | kt => rw [okX] at h <;> first | exact h.elim | (intros; contradiction)
  | fn => rw [okX] at h <;> first | exact h.elim | (intros; contradiction)
  | _ => rw [e__law_is_name]; simp [runF, m__law_is_name, startD, isiD, clsD, subTy, nameB]
end K52
namespace K52
open PySem L2 TP
set_option maxHeartbeats 8000000
/-! counts, ways -/
def cntB : D → Bool
  | .int i => decide (0 ≤ i)
  | _ => false
def cntsB : D → Bool
  | .tup xs => xs.all cntB
  | _ => false
theorem ok_tup {M : Store} {xs : List D} (h : okX M (.tup xs)) : (∀ x ∈ xs, okX M x) ∧ xs.length ≤ 1000 := by
  rw [okX] at h
  exact ⟨okXL_mem h.1, h.2⟩
theorem okXL_of {M : Store} : ∀ {xs : List D}, (∀ x ∈ xs, okX M x) → okXL M xs
  | [], _ => by rw [okXL]; trivial
  | x :: xs, h => by rw [okXL]; exact ⟨h x List.mem_cons_self, okXL_of fun y hy => h y (List.mem_cons_of_mem _ hy)⟩
theorem tup_ok {M : Store} {xs : List D} (h : ∀ x ∈ xs, okX M x) (hl : xs.length ≤ 1000) : okX M (.tup xs) := by
  rw [okX]
  exact ⟨okXL_of h, hl⟩
theorem count_ok (k : Nat) (x : D) (M : Store) (h : okX M x) : sem (k + 1) f_is_count [x] M = .ok (.val (.bl (cntB x))) M := by
  cases x with
  | ref j =>
    rw [okX] at h
    obtain ⟨kvs, h⟩ := h
    rw [e_is_count]
    simp [runF, m_is_count, startD, isiD, clsD, subTy, h, cntB]
  | fro => rw [okX] at h <;> first | exact h.elim | (intros; contradiction)
  | kt => rw [okX] at h <;> first | exact h.elim | (intros; contradiction)
  | fn => rw [okX] at h <;> first | exact h.elim | (intros; contradiction)
  | _ => rw [e_is_count]; simp [runF, m_is_count, startD, isiD, clsD, subTy, cntB]
theorem counts_ok (k : Nat) (x : D) (M : Store) (h : okX M x) : sem (k + 2) f_are_counts [x] M = .ok (.val (.bl (cntsB x))) M := by
  cases x with
  | tup xs =>
    obtain ⟨h1, h2⟩ := ok_tup h
    have hl := lcGo_mp (b := bName 1) (f := el_are_counts_0 (sem (k + 1))) (ρ0 := [Slot.val (.tup xs), Slot.un]) (M := M) (fun x => x) (fun x => .bl (cntB x)) xs (fun x hx => ⟨_, rfl, by simp [el_are_counts_0_eq, count_ok k x M (h1 x hx)]⟩) (by omega)
    rw [List.map_id'] at hl
    rw [e_are_counts]
    simp [runF, m_are_counts, startD, isiD, clsD, subTy, itemsD, wipeD, hl, allD, seqOf, lstOf, blsOf_map, cntsB]
  | ref j =>
    rw [okX] at h
    obtain ⟨kvs, h⟩ := h
    rw [e_are_counts]
    simp [runF, m_are_counts, startD, isiD, clsD, subTy, h, cntsB]
  | fro => rw [okX] at h <;> first | exact h.elim | (intros; contradiction)
  | kt => rw [okX] at h <;> first | exact h.elim | (intros; contradiction)
  | fn => rw [okX] at h <;> first | exact h.elim | (intros; contradiction)
  | _ => rw [e_are_counts]; simp [runF, m_are_counts, startD, isiD, clsD, subTy, cntsB]
theorem lcount_el (Φ : Nat → Fn) (x y : D) (M : Store) (h : okX M x) : el__law_are_counts_0 Φ [.val y, .val x] M = .ok (.bl (cntB x)) M := by
  cases x with
  | ref j =>
    rw [okX] at h
    obtain ⟨kvs, h⟩ := h
    simp [el__law_are_counts_0_eq, isiD, clsD, subTy, h, cntB]
  | fro => rw [okX] at h <;> first | exact h.elim | (intros; contradiction)
  | kt => rw [okX] at h <;> first | exact h.elim | (intros; contradiction)
  | fn => rw [okX] at h <;> first | exact h.elim | (intros; contradiction)
  | _ => simp [el__law_are_counts_0_eq, isiD, clsD, subTy, cntB]
theorem lcounts_ok (k : Nat) (x : D) (M : Store) (h : okX M x) : sem (k + 1) f__law_are_counts [x] M = .ok (.val (.bl (cntsB x))) M := by
  cases x with
  | tup xs =>
    obtain ⟨h1, h2⟩ := ok_tup h
    have hl := lcGo_mp (b := bName 1) (f := el__law_are_counts_0 (sem k)) (ρ0 := [Slot.val (.tup xs), Slot.un]) (M := M) (fun x => x) (fun x => .bl (cntB x)) xs (fun x hx => ⟨_, rfl, lcount_el _ x _ M (h1 x hx)⟩) (by omega)
    rw [List.map_id'] at hl
    rw [e__law_are_counts]
    simp [runF, m__law_are_counts, startD, isiD, clsD, subTy, itemsD, wipeD, hl, allD, seqOf, lstOf, blsOf_map, cntsB]
  | ref j =>
    rw [okX] at h
    obtain ⟨kvs, h⟩ := h
    rw [e__law_are_counts]
    simp [runF, m__law_are_counts, startD, isiD, clsD, subTy, h, cntsB]
  | fro => rw [okX] at h <;> first | exact h.elim | (intros; contradiction)
  | kt => rw [okX] at h <;> first | exact h.elim | (intros; contradiction)
  | fn => rw [okX] at h <;> first | exact h.elim | (intros; contradiction)
  | _ => rw [e__law_are_counts]; simp [runF, m__law_are_counts, startD, isiD, clsD, subTy, cntsB]
end K52
namespace K52
open PySem L2 TP
set_option maxHeartbeats 8000000
def wayB : D → Bool
  | .tup (a :: b :: r) => nameB a && nameB b && r.all cntB
  | _ => false
theorem cut_lo (n : Nat) (xs : List D) (h : n ≤ xs.length) : cutD xs none (some (n : Int)) = xs.take n := by
  unfold cutD
  rw [HT.sIx_nat, HT.sIx_none, List.drop_zero, Nat.sub_zero, Nat.min_eq_left h]
theorem cut_hi (n : Nat) (xs : List D) (h : n ≤ xs.length) : cutD xs (some (n : Int)) none = xs.drop n := by
  unfold cutD
  rw [HT.sIx_nat, HT.sIx_none, Nat.min_eq_left h, List.take_of_length_le (by rw [List.length_drop]; exact Nat.le_refl _)]
theorem cut_2lo (a b : D) (r : List D) : cutD (a :: b :: r) none (some 2) = [a, b] := cut_lo 2 (a :: b :: r) (by simp)
theorem cut_2hi (a b : D) (r : List D) : cutD (a :: b :: r) (some 2) none = r := cut_hi 2 (a :: b :: r) (by simp)
theorem way_ok (k : Nat) (x : D) (M : Store) (h : okX M x) : sem (k + 3) f_is_way [x] M = .ok (.val (.bl (wayB x))) M := by
  cases x with
  | tup xs =>
    obtain ⟨h1, h2⟩ := ok_tup h
    rw [e_is_way]
    rcases xs with _ | ⟨a, _ | ⟨b, r⟩⟩
    · simp [runF, m_is_way, startD, isiD, clsD, subTy, wayB]
    · simp [runF, m_is_way, startD, isiD, clsD, subTy, wayB]
    · have ha := name_ok (k + 1) a M (h1 a (by simp))
      have hb := name_ok (k + 1) b M (h1 b (by simp))
      have hl : lcGo (bName 1) dYes (el_is_way_0 (sem (k + 2))) [Slot.val (.tup (a :: b :: r)), Slot.un] [a, b] [] M = .ok [.bl (nameB a), .bl (nameB b)] M := by
        simp [lcGo, bName, el_is_way_0_eq, ha, hb]
      have hr := counts_ok k (.tup r) M (tup_ok (fun x hx => h1 x (by simp [hx])) (by simp at h2; omega))
      have hlen : ¬ ((r.length : Int) + 1 + 1 < 2) := by omega
      have c1 := fun N => (show slD N (.tup (a :: b :: r)) none (some 2) = some (.val (.tup [a, b])) by rw [slD, cut_2lo])
      have c2 := fun N => (show slD N (.tup (a :: b :: r)) (some 2) none = some (.val (.tup r)) by rw [slD, cut_2hi])
      have it : itemsD (.tup [a, b]) = some [a, b] := rfl
      cases n1 : nameB a <;> cases n2 : nameB b <;> simp [runF, m_is_way, startD, isiD, clsD, subTy, hlen, c1, c2, it, wipeD, hl, allD, seqOf, lstOf, blsOf, n1, n2, hr, wayB, cntsB]
  | ref j =>
    rw [okX] at h
    obtain ⟨kvs, h⟩ := h
    rw [e_is_way]
    simp [runF, m_is_way, startD, isiD, clsD, subTy, h, wayB]
  | fro => rw [okX] at h <;> first | exact h.elim | (intros; contradiction)
  | kt => rw [okX] at h <;> first | exact h.elim | (intros; contradiction)
  | fn => rw [okX] at h <;> first | exact h.elim | (intros; contradiction)
  | _ => rw [e_is_way]; simp [runF, m_is_way, startD, isiD, clsD, subTy, wayB]
theorem lway_ok (k : Nat) (x : D) (M : Store) (h : okX M x) : sem (k + 2) f__law_is_way [x] M = .ok (.val (.bl (wayB x))) M := by
  cases x with
  | tup xs =>
    obtain ⟨h1, h2⟩ := ok_tup h
    rw [e__law_is_way]
    rcases xs with _ | ⟨a, _ | ⟨b, r⟩⟩
    · simp [runF, m__law_is_way, startD, isiD, clsD, subTy, wayB]
    · simp [runF, m__law_is_way, startD, isiD, clsD, subTy, wayB]
    · have ha := lname_ok k a M (h1 a (by simp))
      have hb := lname_ok k b M (h1 b (by simp))
      have hr := lcounts_ok k (.tup r) M (tup_ok (fun x hx => h1 x (by simp [hx])) (by simp at h2; omega))
      have hlen : ¬ ((r.length : Int) + 1 + 1 < 2) := by omega
      have c2 := fun N => (show slD N (.tup (a :: b :: r)) (some 2) none = some (.val (.tup r)) by rw [slD, cut_2hi])
      cases n1 : nameB a <;> cases n2 : nameB b <;> simp [runF, m__law_is_way, startD, isiD, clsD, subTy, hlen, c2, ha, hb, n1, n2, hr, wayB, cntsB]
  | ref j =>
    rw [okX] at h
    obtain ⟨kvs, h⟩ := h
    rw [e__law_is_way]
    simp [runF, m__law_is_way, startD, isiD, clsD, subTy, h, wayB]
  | fro => rw [okX] at h <;> first | exact h.elim | (intros; contradiction)
  | kt => rw [okX] at h <;> first | exact h.elim | (intros; contradiction)
  | fn => rw [okX] at h <;> first | exact h.elim | (intros; contradiction)
  | _ => rw [e__law_is_way]; simp [runF, m__law_is_way, startD, isiD, clsD, subTy, wayB]
end K52
namespace K52
open PySem L2 TP
set_option maxHeartbeats 8000000
def bindB : D → Bool
  | .tup (.str w :: r) => if w = "param" then (match r with
      | [a, b, c] => nameB a && nameB b && cntB c
      | _ => false) else if w = "let" ∨ w = "count" ∨ w = "sum" then (match r with
      | [x] => wayB x
      | _ => false) else false
  | _ => false
def waysB : D → Bool
  | .tup xs => !xs.isEmpty && xs.all wayB
  | _ => false
theorem in3g (M : Store) (w a b c : Str) : inD M (.str w) (.tup [.str a, .str b, .str c]) = some (.val (.bl (decide (w = a ∨ w = b ∨ w = c)))) := by
  unfold inD
  simp only [elemsD]
  rw [if_pos (show (flatD (D.str w) && [D.str a, D.str b, D.str c].all flatD) = true from rfl)]
  simp only [List.any_cons, List.any_nil, eqvD_str]
  congr 3
  rw [Bool.eq_iff_iff]
  simp only [Bool.or_eq_true, beq_iff_eq, decide_eq_true_eq, Bool.false_eq_true, or_false]
  constructor <;> rintro (h | h | h) <;> subst h <;> simp
theorem in3 (M : Store) (w : Str) : inD M (.str w) (.tup [.str "let", .str "count", .str "sum"]) = some (.val (.bl (decide (w = "let" ∨ w = "count" ∨ w = "sum")))) := in3g M w _ _ _
theorem cut_3hi (a b c : D) (r : List D) : cutD (a :: b :: c :: r) (some 3) none = r := cut_hi 3 (a :: b :: c :: r) (by simp)
theorem cnts_one (x : D) : cntsB (.tup [x]) = cntB x := by simp [cntsB]
theorem bind_ok (k : Nat) (x : D) (M : Store) (h : okX M x) : sem (k + 4) f_is_binder [x] M = .ok (.val (.bl (bindB x))) M := by
  cases x with
  | tup xs =>
    obtain ⟨h1, h2⟩ := ok_tup h
    rw [e_is_binder]
    rcases xs with _ | ⟨w, r⟩
    · simp [runF, m_is_binder, startD, isiD, clsD, subTy, eqE_nil, bindB]
    · have hw := h1 w (by simp)
      cases w with
      | str w =>
        by_cases hp : w = "param"
        · subst hp
          rcases r with _ | ⟨a, _ | ⟨b, _ | ⟨c, _ | ⟨d, r⟩⟩⟩⟩
          · simp [runF, m_is_binder, startD, isiD, clsD, subTy, eqE_nil, eqS, bindB]
          · simp [runF, m_is_binder, startD, isiD, clsD, subTy, eqE_nil, eqS, bindB]
          · simp [runF, m_is_binder, startD, isiD, clsD, subTy, eqE_nil, eqS, bindB]
          · have ha := name_ok (k + 2) a M (h1 a (by simp))
            have hb := name_ok (k + 2) b M (h1 b (by simp))
            have hc := count_ok (k + 2) c M (h1 c (by simp))
            cases n1 : nameB a <;> cases n2 : nameB b <;> simp [runF, m_is_binder, startD, isiD, clsD, subTy, eqE_nil, eqS, ha, hb, hc, n1, n2, bindB]
          · have hl : ¬ ((r.length : Int) + 1 + 1 + 1 + 1 + 1 = 4) := by omega
            simp [runF, m_is_binder, startD, isiD, clsD, subTy, eqE_nil, eqS, hl, bindB]
        · have i3 := in3 M w
          by_cases h3 : w = "let" ∨ w = "count" ∨ w = "sum"
          · rw [decide_eq_true h3] at i3
            rcases r with _ | ⟨a, _ | ⟨b, r⟩⟩
            · simp [runF, m_is_binder, startD, isiD, clsD, subTy, eqE_nil, eqS, hp, h3, i3, bindB]
            · have ha := way_ok k a M (h1 a (by simp))
              simp [runF, m_is_binder, startD, isiD, clsD, subTy, eqE_nil, eqS, hp, h3, i3, ha, bindB]
            · have hl : ¬ ((r.length : Int) + 1 + 1 + 1 = 2) := by omega
              simp [runF, m_is_binder, startD, isiD, clsD, subTy, eqE_nil, eqS, hp, h3, i3, hl, bindB]
          · rw [decide_eq_false h3] at i3
            simp [runF, m_is_binder, startD, isiD, clsD, subTy, eqE_nil, eqS, hp, h3, i3, bindB]
      | ref j =>
        rw [okX] at hw
        obtain ⟨kvs, hw⟩ := hw
        simp [runF, m_is_binder, startD, isiD, clsD, subTy, eqE_nil, hw, bindB]
      | fro => rw [okX] at hw <;> first | exact hw.elim | (intros; contradiction)
      | kt => rw [okX] at hw <;> first | exact hw.elim | (intros; contradiction)
      | fn => rw [okX] at hw <;> first | exact hw.elim | (intros; contradiction)
      | _ => simp [runF, m_is_binder, startD, isiD, clsD, subTy, eqE_nil, bindB]
  | ref j =>
    rw [okX] at h
    obtain ⟨kvs, h⟩ := h
    rw [e_is_binder]
    simp [runF, m_is_binder, startD, isiD, clsD, subTy, h, bindB]
  | fro => rw [okX] at h <;> first | exact h.elim | (intros; contradiction)
  | kt => rw [okX] at h <;> first | exact h.elim | (intros; contradiction)
  | fn => rw [okX] at h <;> first | exact h.elim | (intros; contradiction)
  | _ => rw [e_is_binder]; simp [runF, m_is_binder, startD, isiD, clsD, subTy, bindB]
theorem lbind_ok (k : Nat) (x : D) (M : Store) (h : okX M x) : sem (k + 3) f__law_is_binder [x] M = .ok (.val (.bl (bindB x))) M := by
  cases x with
  | tup xs =>
    obtain ⟨h1, h2⟩ := ok_tup h
    rw [e__law_is_binder]
    rcases xs with _ | ⟨w, r⟩
    · simp [runF, m__law_is_binder, startD, isiD, clsD, subTy, eqE_nil, bindB]
    · have hw := h1 w (by simp)
      cases w with
      | str w =>
        by_cases hp : w = "param"
        · subst hp
          rcases r with _ | ⟨a, _ | ⟨b, _ | ⟨c, _ | ⟨d, r⟩⟩⟩⟩
          · simp [runF, m__law_is_binder, startD, isiD, clsD, subTy, eqE_nil, eqS, bindB]
          · simp [runF, m__law_is_binder, startD, isiD, clsD, subTy, eqE_nil, eqS, bindB]
          · simp [runF, m__law_is_binder, startD, isiD, clsD, subTy, eqE_nil, eqS, bindB]
          · have ha := lname_ok (k + 1) a M (h1 a (by simp))
            have hb := lname_ok (k + 1) b M (h1 b (by simp))
            have hc := lcounts_ok (k + 1) (.tup [c]) M (tup_ok (fun x hx => h1 x (by simp at hx; simp [hx])) (by simp))
            rw [cnts_one] at hc
            have c3 := fun N => (show slD N (.tup [.str "param", a, b, c]) (some 3) none = some (.val (.tup [c])) by rw [slD, cut_3hi])
            cases n1 : nameB a <;> cases n2 : nameB b <;> simp [runF, m__law_is_binder, startD, isiD, clsD, subTy, eqE_nil, eqS, ha, hb, hc, c3, n1, n2, bindB]
          · have hl : ¬ ((r.length : Int) + 1 + 1 + 1 + 1 + 1 = 4) := by omega
            simp [runF, m__law_is_binder, startD, isiD, clsD, subTy, eqE_nil, eqS, hl, bindB]
        · have i3 := in3 M w
          by_cases h3 : w = "let" ∨ w = "count" ∨ w = "sum"
          · rw [decide_eq_true h3] at i3
            rcases r with _ | ⟨a, _ | ⟨b, r⟩⟩
            · simp [runF, m__law_is_binder, startD, isiD, clsD, subTy, eqE_nil, eqS, hp, h3, i3, bindB]
            · have ha := lway_ok k a M (h1 a (by simp))
              simp [runF, m__law_is_binder, startD, isiD, clsD, subTy, eqE_nil, eqS, hp, h3, i3, ha, bindB]
            · have hl : ¬ ((r.length : Int) + 1 + 1 + 1 = 2) := by omega
              simp [runF, m__law_is_binder, startD, isiD, clsD, subTy, eqE_nil, eqS, hp, h3, i3, hl, bindB]
          · rw [decide_eq_false h3] at i3
            simp [runF, m__law_is_binder, startD, isiD, clsD, subTy, eqE_nil, eqS, hp, h3, i3, bindB]
      | ref j =>
        rw [okX] at hw
        obtain ⟨kvs, hw⟩ := hw
        simp [runF, m__law_is_binder, startD, isiD, clsD, subTy, eqE_nil, hw, bindB]
      | fro => rw [okX] at hw <;> first | exact hw.elim | (intros; contradiction)
      | kt => rw [okX] at hw <;> first | exact hw.elim | (intros; contradiction)
      | fn => rw [okX] at hw <;> first | exact hw.elim | (intros; contradiction)
      | _ => simp [runF, m__law_is_binder, startD, isiD, clsD, subTy, eqE_nil, bindB]
  | ref j =>
    rw [okX] at h
    obtain ⟨kvs, h⟩ := h
    rw [e__law_is_binder]
    simp [runF, m__law_is_binder, startD, isiD, clsD, subTy, h, bindB]
  | fro => rw [okX] at h <;> first | exact h.elim | (intros; contradiction)
  | kt => rw [okX] at h <;> first | exact h.elim | (intros; contradiction)
  | fn => rw [okX] at h <;> first | exact h.elim | (intros; contradiction)
  | _ => rw [e__law_is_binder]; simp [runF, m__law_is_binder, startD, isiD, clsD, subTy, bindB]
theorem ways_ok (k : Nat) (x : D) (M : Store) (h : okX M x) : sem (k + 4) f_are_ways [x] M = .ok (.val (.bl (waysB x))) M := by
  cases x with
  | tup xs =>
    obtain ⟨h1, h2⟩ := ok_tup h
    have hl := lcGo_mp (b := bName 1) (f := el_are_ways_0 (sem (k + 3))) (ρ0 := [Slot.val (.tup xs), Slot.un]) (M := M) (fun x => x) (fun x => .bl (wayB x)) xs (fun x hx => ⟨_, rfl, by simp [el_are_ways_0_eq, way_ok k x M (h1 x hx)]⟩) (by omega)
    rw [List.map_id'] at hl
    rw [e_are_ways]
    cases he : xs.isEmpty <;> simp [-List.isEmpty_iff, runF, m_are_ways, startD, isiD, clsD, subTy, neE_nil, he, itemsD, wipeD, hl, allD, seqOf, lstOf, blsOf_map, waysB]
  | ref j =>
    rw [okX] at h
    obtain ⟨kvs, h⟩ := h
    rw [e_are_ways]
    simp [runF, m_are_ways, startD, isiD, clsD, subTy, h, waysB]
  | fro => rw [okX] at h <;> first | exact h.elim | (intros; contradiction)
  | kt => rw [okX] at h <;> first | exact h.elim | (intros; contradiction)
  | fn => rw [okX] at h <;> first | exact h.elim | (intros; contradiction)
  | _ => rw [e_are_ways]; simp [runF, m_are_ways, startD, isiD, clsD, subTy, waysB]
end K52
namespace K52
open PySem L2 TP
set_option maxHeartbeats 8000000
/-! what fits -/
inductive Kd where
  | x | k | b | w | o | r
  deriving DecidableEq
def fitB : Kd → D → Bool
  | .x => nameB
  | .k => cntB
  | .b => bindB
  | .w => wayB
  | .o => cntsB
  | .r => waysB
def cdC : Kd → Nat
  | .x => 120
  | .k => 107
  | .b => 98
  | .w => 119
  | .o => 111
  | .r => 114
def sgC (d : Kd) : Str := ⟨#[cdC d]⟩
def lkS : Kd → Str
  | .x => "name"
  | .k => "count"
  | .b => "binder"
  | .w => "way"
  | .o => "order"
  | .r => "ways"
theorem fx (M : Store) (d : Kd) : eqD M (.str (sgC d)) (.str "x") = some (.val (.bl (decide (d = .x)))) := by cases d <;> kernel_rfl
theorem fk (M : Store) (d : Kd) : eqD M (.str (sgC d)) (.str "k") = some (.val (.bl (decide (d = .k)))) := by cases d <;> kernel_rfl
theorem fb (M : Store) (d : Kd) : eqD M (.str (sgC d)) (.str "b") = some (.val (.bl (decide (d = .b)))) := by cases d <;> kernel_rfl
theorem fw (M : Store) (d : Kd) : eqD M (.str (sgC d)) (.str "w") = some (.val (.bl (decide (d = .w)))) := by cases d <;> kernel_rfl
theorem fo (M : Store) (d : Kd) : eqD M (.str (sgC d)) (.str "o") = some (.val (.bl (decide (d = .o)))) := by cases d <;> kernel_rfl
theorem lx (M : Store) (d : Kd) : eqD M (.str (lkS d)) (.str "name") = some (.val (.bl (decide (d = .x)))) := by cases d <;> kernel_rfl
theorem lk (M : Store) (d : Kd) : eqD M (.str (lkS d)) (.str "count") = some (.val (.bl (decide (d = .k)))) := by cases d <;> kernel_rfl
theorem lb (M : Store) (d : Kd) : eqD M (.str (lkS d)) (.str "binder") = some (.val (.bl (decide (d = .b)))) := by cases d <;> kernel_rfl
theorem lw (M : Store) (d : Kd) : eqD M (.str (lkS d)) (.str "way") = some (.val (.bl (decide (d = .w)))) := by cases d <;> kernel_rfl
theorem lo (M : Store) (d : Kd) : eqD M (.str (lkS d)) (.str "order") = some (.val (.bl (decide (d = .o)))) := by cases d <;> kernel_rfl
theorem fits_ok (k : Nat) (d : Kd) (x : D) (M : Store) (h : okX M x) : sem (k + 5) f_fits [.str (sgC d), x] M = .ok (.val (.bl (fitB d x))) M := by
  have h1 := name_ok (k + 3) x M h
  have h2 := count_ok (k + 3) x M h
  have h3 := bind_ok k x M h
  have h4 := way_ok (k + 1) x M h
  have h5 := counts_ok (k + 2) x M h
  have h6 := ways_ok k x M h
  have fx := fun N => fx N d
  have fk := fun N => fk N d
  have fb := fun N => fb N d
  have fw := fun N => fw N d
  have fo := fun N => fo N d
  rw [e_fits]
  obtain ⟨s, hs⟩ : ∃ s, sgC d = s := ⟨_, rfl⟩
  rw [hs] at fx fk fb fw fo ⊢
  cases d <;> simp [-eqS, runF, m_fits, startD, fx, fk, fb, fw, fo, h1, h2, h3, h4, h5, h6, fitB]
theorem lfits_ok (k : Nat) (d : Kd) (x : D) (M : Store) (h : okX M x) : sem (k + 4) f__law_fits [.str (lkS d), x] M = .ok (.val (.bl (fitB d x))) M := by
  have h1 := lname_ok (k + 2) x M h
  have h2 := lcounts_ok (k + 2) (.tup [x]) M (tup_ok (fun y hy => by simp at hy; subst hy; exact h) (by simp))
  rw [cnts_one] at h2
  have h3 := lbind_ok k x M h
  have h4 := lway_ok (k + 1) x M h
  have h5 := lcounts_ok (k + 2) x M h
  have fx := fun N => lx N d
  have fk := fun N => lk N d
  have fb := fun N => lb N d
  have fw := fun N => lw N d
  have fo := fun N => lo N d
  rw [e__law_fits]
  obtain ⟨s, hs⟩ : ∃ s, lkS d = s := ⟨_, rfl⟩
  rw [hs] at fx fk fb fw fo ⊢
  by_cases hr : d = .r
  · subst hr
    cases x with
    | tup xs =>
      obtain ⟨g1, g2⟩ := ok_tup h
      have hl := lcGo_mp (b := bName 2) (f := el__law_fits_0 (sem (k + 3))) (ρ0 := [Slot.val (.str s), Slot.val (.tup xs), Slot.un]) (M := M) (fun x => x) (fun x => .bl (wayB x)) xs (fun x hx => ⟨_, rfl, by simp [el__law_fits_0_eq, lway_ok (k + 1) x M (g1 x hx)]⟩) (by omega)
      rw [List.map_id'] at hl
      cases he : xs.isEmpty <;> simp [-List.isEmpty_iff, -eqS, runF, m__law_fits, startD, fx, fk, fb, fw, fo, isiD, clsD, subTy, neE_nil, he, itemsD, wipeD, hl, allD, seqOf, lstOf, blsOf_map, waysB, fitB]
    | ref j =>
      rw [okX] at h
      obtain ⟨kvs, h⟩ := h
      simp [-eqS, runF, m__law_fits, startD, fx, fk, fb, fw, fo, isiD, clsD, subTy, h, waysB, fitB]
    | fro => rw [okX] at h <;> first | exact h.elim | (intros; contradiction)
    | kt => rw [okX] at h <;> first | exact h.elim | (intros; contradiction)
    | fn => rw [okX] at h <;> first | exact h.elim | (intros; contradiction)
    | _ => simp [-eqS, runF, m__law_fits, startD, fx, fk, fb, fw, fo, isiD, clsD, subTy, waysB, fitB]
  · cases d <;> first | exact absurd rfl hr | simp [-eqS, runF, m__law_fits, startD, fx, fk, fb, fw, fo, h1, h2, h3, h4, h5, fitB]
end K52
namespace K52
open PySem L2 TP
set_option maxHeartbeats 8000000
/-! the forms -/
def shT : List (Str × List Kd × Str) :=
  [("free", [.b, .x], "binder name"), ("equal", [.w, .w], "way way"), ("gather", [.w, .x], "way name"), ("carve", [.w, .x, .k, .x], "way name count name"),
   ("melt", [.x, .x], "name name"), ("fold", [.w, .x, .x], "way name name"), ("folds", [.x, .x], "name name"), ("tidy", [.x, .x], "name name"),
   ("bring", [.x, .x, .x], "name name name"), ("order", [.x, .x, .o], "name name order"), ("widen", [.x, .x, .x, .x, .r], "name name name name ways")]
def shK (w : Str) : Option (List Kd × Str) := (shT.find? fun p => decide (p.1 = w)).map (·.2)
def sgS (ks : List Kd) : Str := ⟨(ks.map cdC).toArray⟩
theorem shK_mem {w : Str} {p : List Kd × Str} (h : shK w = some p) : (w, p) ∈ shT := by
  unfold shK at h
  obtain ⟨q, hq, e⟩ := Option.map_eq_some_iff.mp h
  have h1 := List.mem_of_find?_eq_some hq
  have h2 := List.find?_some hq
  simp only [decide_eq_true_eq] at h2
  subst e h2
  exact h1
theorem tab_is : k_SHAPES = shT.map fun p => (p.1, D.str (sgS p.2.1)) := by kernel_rfl
theorem find_map {α β : Type} (f : α → β) (q : Str) : ∀ l : List (Str × α), ((l.map fun p => (p.1, f p.2)).find? fun kv => decide (kv.1 = q)).map (·.2) = ((l.find? fun p => decide (p.1 = q)).map (·.2)).map f
  | [] => rfl
  | p :: l => by
    rw [List.map_cons, List.find?_cons, List.find?_cons]
    by_cases e : p.1 = q
    · simp [e]
    · simp only [e, decide_false]
      exact find_map f q l
theorem tab_find (w : Str) : tabFind k_SHAPES w = (shK w).map fun p => D.str (sgS p.1) := by
  rw [tab_is]
  exact find_map (fun p : List Kd × Str => D.str (sgS p.1)) w shT
theorem find_mapK {α β : Type} (f : α → β) (q : Str) : ∀ l : List (Str × α), ((l.map fun p => ((.inr p.1 : Key), f p.2)).find? fun kv => decide (kv.1 = .inr q)).map (·.2) = ((l.find? fun p => decide (p.1 = q)).map (·.2)).map f
  | [] => rfl
  | p :: l => by
    rw [List.map_cons, List.find?_cons, List.find?_cons]
    by_cases e : p.1 = q
    · simp [e]
    · have e' : ¬ ((.inr p.1 : Key) = .inr q) := fun z => e (Sum.inr.inj z)
      simp only [e, e', decide_false]
      exact find_mapK f q l
def kvW (p : Str × List Kd × Str) : Key × D := (.inr p.1, D.str p.2.2)
theorem look_kd (w : Str) : lookD (shT.map kvW) (.inr w) = (shK w).map fun p => D.str p.2 := find_mapK (fun p : List Kd × Str => D.str p.2) w shT
theorem kd1 : mergeD ["free", "equal", "gather", "carve"] [.str "binder name", .str "way way", .str "way name", .str "way name count name"] = (shT.take 4).map kvW := by kernel_rfl
theorem kd2 : mergeD ["melt", "fold", "folds", "tidy"] [.str "name name", .str "way name name", .str "name name", .str "name name"] = ((shT.drop 4).take 4).map kvW := by kernel_rfl
theorem kd3 : mergeD ["bring", "order", "widen"] [.str "name name name", .str "name name order", .str "name name name name ways"] = (shT.drop 8).map kvW := by kernel_rfl
theorem kdm : mergeP (mergeP ((shT.take 4).map kvW) (((shT.drop 4).take 4).map kvW)) ((shT.drop 8).map kvW) = shT.map kvW := by kernel_rfl
theorem kdl : ((shT.take 4).map kvW).length = 4 ∧ (((shT.drop 4).take 4).map kvW).length = 4 ∧ ((shT.drop 8).map kvW).length = 3 ∧ (mergeP ((shT.take 4).map kvW) (((shT.drop 4).take 4).map kvW)).length = 8 := by decide +kernel
theorem splits : ∀ p ∈ shT, Txt.split p.2.2 " " = p.2.1.map lkS ∧ p.2.1.length ≤ 5 ∧ p.2.2.length ≤ 100 := by decide +kernel
theorem kinds_ok (k : Nat) (w : Str) (M : Store) : ∃ X, sem (k + 1) f__law_kinds [.str w] M = .ok (match shK w with
    | some p => .own (p.1.map fun d => .str (lkS d))
    | none => .val .non) (M ++ X) := by
  obtain ⟨a, ha⟩ : ∃ y, (shT.take 4).map kvW = y := ⟨_, rfl⟩
  obtain ⟨b, hb⟩ : ∃ y, ((shT.drop 4).take 4).map kvW = y := ⟨_, rfl⟩
  obtain ⟨c, hc⟩ : ∃ y, (shT.drop 8).map kvW = y := ⟨_, rfl⟩
  obtain ⟨f, hf⟩ : ∃ y, shT.map kvW = y := ⟨_, rfl⟩
  have k1 := kd1
  have k2 := kd2
  have k3 := kd3
  have km := kdm
  have kl := kdl
  have hlk := look_kd w
  rw [ha] at k1 km kl
  rw [hb] at k2 km kl
  rw [hc] at k3 km kl
  rw [hf] at km hlk
  obtain ⟨ab, hab⟩ : ∃ y, mergeP a b = y := ⟨_, rfl⟩
  rw [hab] at km kl
  obtain ⟨l1, l2, l3, l4⟩ := kl
  refine ⟨[.dK f, .dK b, .dK c], ?_⟩
  rw [e__law_kinds]
  have g1 : (M ++ [MO.dK a])[M.length]? = some (.dK a) := at_end _ _
  have g2 : (M ++ [MO.dK a] ++ [MO.dK b])[M.length]? = some (.dK a) := get_app g1
  have g3 : (M ++ [MO.dK a] ++ [MO.dK b])[(M ++ [MO.dK a]).length]? = some (.dK b) := at_end _ _
  have s1 : (M ++ [MO.dK a] ++ [MO.dK b]).set M.length (.dK ab) = M ++ [MO.dK ab] ++ [MO.dK b] := by simp
  have g4 : (M ++ [MO.dK ab] ++ [MO.dK b])[M.length]? = some (.dK ab) := get_app (at_end _ _)
  have g5 : (M ++ [MO.dK ab] ++ [MO.dK b] ++ [MO.dK c])[M.length]? = some (.dK ab) := get_app g4
  have g6 : (M ++ [MO.dK ab] ++ [MO.dK b] ++ [MO.dK c])[(M ++ [MO.dK ab] ++ [MO.dK b]).length]? = some (.dK c) := at_end _ _
  have s2 : (M ++ [MO.dK ab] ++ [MO.dK b] ++ [MO.dK c]).set M.length (.dK f) = M ++ [MO.dK f] ++ [MO.dK b] ++ [MO.dK c] := by simp
  have g7 : (M ++ [MO.dK f] ++ [MO.dK b] ++ [MO.dK c])[M.length]? = some (.dK f) := get_app (get_app (at_end _ _))
  have n1 : ¬ (M.length = (M ++ [MO.dK a]).length) := by simp
  have n2 : ¬ (M.length = (M ++ [MO.dK ab] ++ [MO.dK b]).length) := by simp
  have e3 : M ++ [MO.dK f] ++ [MO.dK b] ++ [MO.dK c] = M ++ [MO.dK f, MO.dK b, MO.dK c] := by simp
  rw [← e3]
  obtain ⟨M1, hM1⟩ : ∃ y, M ++ [MO.dK a] = y := ⟨_, rfl⟩
  rw [hM1] at g1 g2 g3 s1 n1
  obtain ⟨M2, hM2⟩ : ∃ y, M1 ++ [MO.dK b] = y := ⟨_, rfl⟩
  rw [hM2] at g2 g3 s1
  obtain ⟨M3, hM3⟩ : ∃ y, M ++ [MO.dK ab] ++ [MO.dK b] = y := ⟨_, rfl⟩
  rw [hM3] at s1 g4 g5 g6 s2 n2
  obtain ⟨M4, hM4⟩ : ∃ y, M3 ++ [MO.dK c] = y := ⟨_, rfl⟩
  rw [hM4] at g5 g6 s2
  obtain ⟨M5, hM5⟩ : ∃ y, M ++ [MO.dK f] ++ [MO.dK b] ++ [MO.dK c] = y := ⟨_, rfl⟩
  rw [hM5] at s2 g7 ⊢
  obtain ⟨i, hi⟩ : ∃ y, M.length = y := ⟨_, rfl⟩
  rw [hi] at g1 g2 s1 g4 g5 s2 g7 n1 n2
  have hin : dinD M5 (.str w) (.ref i) = some (.val (.bl (shK w).isSome)) := by
    unfold dinD dGetO
    simp only [g7]
    show Option.map _ (some (lookD f (.inr w))) = _
    rw [hlk]
    cases shK w <;> rfl
  cases hs : shK w with
  | none =>
    rw [hs] at hin
    simp [-List.append_assoc, runF, m__law_kinds, startD, dVals, k1, k2, k3, hM1, hM2, hM4, hi, isDD, g1, g2, g3, g4, g5, g6, n1, n2, l1, l2, l3, l4, hab, km, s1, s2, hin, size_ok]
  | some p =>
    rw [hs] at hin hlk
    have hget : dgetD M5 (.ref i) (.str w) = some (.val (.str p.2)) := by
      unfold dgetD dGetO
      simp only [g7]
      show (match Option.map (lookD f) (some (.inr w)) with | some (some d) => some (Slot.val d) | _ => none) = _
      rw [Option.map_some, hlk]
      rfl
    obtain ⟨z1, z2, z3⟩ := splits _ (shK_mem hs)
    simp only at z1 z2 z3
    have hty : tyD M5 (.str p.2) = some "str" := rfl
    have hsp : splitD M5 (.str p.2) [.str " "] = some (.own (p.1.map fun d => .str (lkS d))) := by
      unfold splitD
      simp only
      rw [if_pos ⟨by decide +kernel, by have : (16777216 : Nat) = sizeLine := rfl; omega⟩, z1, List.map_map]
      rfl
    simp [-List.append_assoc, runF, m__law_kinds, startD, dVals, k1, k2, k3, hM1, hM2, hM4, hi, isDD, g1, g2, g3, g4, g5, g6, n1, n2, l1, l2, l3, l4, hab, km, s1, s2, hin, hget, hsp, hty, size_ok]
end K52
namespace K52
open PySem L2 TP
set_option maxHeartbeats 8000000
def formB : D → Bool
  | .tup (.str w :: r) => match shK w with
    | some p => decide (r.length = p.1.length) && (p.1.zip r).all fun q => fitB q.1 q.2
    | none => false
  | _ => false
theorem zipL_map {α : Type} (f : α → D) : ∀ (ks : List α) (r : List D), zipL (ks.map f) r = (ks.zip r).map fun q => D.tup [f q.1, q.2]
  | [], _ => by simp [zipL]
  | k :: ks, [] => by simp [zipL]
  | k :: ks, x :: r => by simp [zipL, zipL_map f ks r]
theorem zip_sg (ks : List Kd) : zipItems (.str (sgS ks)) = some (ks.map fun d => D.str (sgC d)) := by
  show some _ = some _
  unfold sgS sgC
  simp
theorem cut_1hi (a : D) (r : List D) : cutD (a :: r) (some 1) none = r := cut_hi 1 (a :: r) (by simp)
theorem zip_len (ks : List Kd) (r : List D) : (ks.zip r).length ≤ r.length := by rw [List.length_zip]; omega
theorem hform_ok (k : Nat) (x : D) (M : Store) (h : okX M x) : sem (k + 6) f_has_form [x] M = .ok (.val (.bl (formB x))) M := by
  cases x with
  | tup xs =>
    obtain ⟨h1, h2⟩ := ok_tup h
    rw [e_has_form]
    rcases xs with _ | ⟨w, r⟩
    · simp [runF, m_has_form, startD, isiD, clsD, subTy, eqE_nil, formB]
    · have hw := h1 w (by simp)
      cases w with
      | str w =>
        have ht := tab_find w
        cases hs : shK w with
        | none =>
          rw [hs] at ht
          simp [runF, m_has_form, startD, isiD, clsD, subTy, eqE_nil, ht, isD, formB, hs]
        | some p =>
          rw [hs, Option.map_some] at ht
          obtain ⟨z1, z2, z3⟩ := splits _ (shK_mem hs)
          simp only at z1 z2 z3
          have hsl : (sgS p.1).length = p.1.length := by unfold sgS; show (List.toArray _).size = _; rw [List.size_toArray, List.length_map]
          have hlen : ∀ N, lenD N [.str (sgS p.1)] = some (.val (.int (p.1.length : Int))) := fun N => by
            show (if (sgS p.1).length ≤ sizeLine then some (Slot.val (D.int (sgS p.1).length)) else none) = _
            rw [hsl, if_pos (size_ok (by omega))]
          have c1 := fun N => (show slD N (.tup (.str w :: r)) (some 1) none = some (.val (.tup r)) by rw [slD, cut_1hi])
          have zs := zip_sg p.1
          have zr : zipItems (.tup r) = some r := rfl
          have hz := zipL_map (fun d => D.str (sgC d)) p.1 r
          by_cases hl : r.length = p.1.length
          · have hl' : (r.length : Int) + 1 = (p.1.length : Int) + 1 := by omega
            have hg := lcGo_mp (b := bTup [2, 3]) (f := el_has_form_0 (sem (k + 5))) (ρ0 := [Slot.val (.tup (.str w :: r)), Slot.val (.str (sgS p.1)), Slot.un, Slot.un]) (M := M) (fun q : Kd × D => D.tup [.str (sgC q.1), q.2]) (fun q => .bl (fitB q.1 q.2)) (p.1.zip r)
              (fun q hq => ⟨_, rfl, by
                have hq2 := (List.of_mem_zip hq).2
                have := fits_ok k q.1 q.2 M (h1 q.2 (by simp [hq2]))
                simp [bTup, bNames, el_has_form_0_eq, this]⟩) (by have := zip_len p.1 r; simp at h2; omega)
            obtain ⟨ss, hss⟩ : ∃ y, sgS p.1 = y := ⟨_, rfl⟩
            rw [hss] at hg ht hlen zs
            have hne : ∀ N, neD N (.int ((r.length : Int) + 1)) (.int ((p.1.length : Int) + 1)) = some (.val (.bl false)) := fun N => by rw [hl']; simp
            obtain ⟨RL, hRL⟩ : ∃ y : Int, (r.length : Int) = y := ⟨_, rfl⟩
            obtain ⟨PL, hPL⟩ : ∃ y : Int, (p.1.length : Int) = y := ⟨_, rfl⟩
            rw [hPL] at hlen hne
            rw [hRL] at hne
            have hlt : ∀ N, lenD N [.tup (.str w :: r)] = some (.val (.int (RL + 1))) := fun N => by rw [← hRL]; simp
            simp [-lenD_tup, -neD_int, runF, m_has_form, startD, isiD, clsD, subTy, eqE_nil, ht, isD, hlt, hlen, hne, c1, zs, zr, hz, wipeD, hg, allD, seqOf, lstOf, blsOf_map, formB, hs, hl]
          · have hne : ∀ N, neD N (.int ((r.length : Int) + 1)) (.int ((p.1.length : Int) + 1)) = some (.val (.bl true)) := fun N => by
              have : ¬ ((r.length : Int) + 1 = (p.1.length : Int) + 1) := by omega
              simp [this]
            obtain ⟨ss, hss⟩ : ∃ y, sgS p.1 = y := ⟨_, rfl⟩
            rw [hss] at ht hlen
            obtain ⟨RL, hRL⟩ : ∃ y : Int, (r.length : Int) = y := ⟨_, rfl⟩
            obtain ⟨PL, hPL⟩ : ∃ y : Int, (p.1.length : Int) = y := ⟨_, rfl⟩
            rw [hPL] at hlen hne
            rw [hRL] at hne
            have hlt : ∀ N, lenD N [.tup (.str w :: r)] = some (.val (.int (RL + 1))) := fun N => by rw [← hRL]; simp
            simp [-lenD_tup, -neD_int, runF, m_has_form, startD, isiD, clsD, subTy, eqE_nil, ht, isD, hlt, hlen, hne, formB, hs, hl]
      | ref j =>
        rw [okX] at hw
        obtain ⟨kvs, hw⟩ := hw
        simp [runF, m_has_form, startD, isiD, clsD, subTy, eqE_nil, hw, formB]
      | fro => rw [okX] at hw <;> first | exact hw.elim | (intros; contradiction)
      | kt => rw [okX] at hw <;> first | exact hw.elim | (intros; contradiction)
      | fn => rw [okX] at hw <;> first | exact hw.elim | (intros; contradiction)
      | _ => simp [runF, m_has_form, startD, isiD, clsD, subTy, eqE_nil, formB]
  | ref j =>
    rw [okX] at h
    obtain ⟨kvs, h⟩ := h
    rw [e_has_form]
    simp [runF, m_has_form, startD, isiD, clsD, subTy, h, formB]
  | fro => rw [okX] at h <;> first | exact h.elim | (intros; contradiction)
  | kt => rw [okX] at h <;> first | exact h.elim | (intros; contradiction)
  | fn => rw [okX] at h <;> first | exact h.elim | (intros; contradiction)
  | _ => rw [e_has_form]; simp [runF, m_has_form, startD, isiD, clsD, subTy, formB]
theorem turning_ok (k : Nat) (x : D) (M : Store) (h : okX M x) : sem (k + 7) f_is_turning [x] M = .ok (.val (.bl (formB x))) M := by
  have := hform_ok k x M h
  rw [e_is_turning]
  simp [runF, m_is_turning, startD, this]
end K52
namespace K52
open PySem L2 TP
set_option maxHeartbeats 8000000
mutual
theorem okX_app {M : Store} (X : Store) : ∀ x : D, okX M x → okX (M ++ X) x
  | .non, _ => by rw [okX]; trivial
  | .bl _, _ => by rw [okX]; trivial
  | .int _, _ => by rw [okX]; trivial
  | .str _, h => by rw [okX] at h ⊢; exact h
  | .tup xs, h => by rw [okX] at h ⊢; exact ⟨okXL_app X xs h.1, h.2⟩
  | .lst _, _ => by rw [okX]; trivial
  | .ref k, h => by
    rw [okX] at h ⊢
    obtain ⟨kvs, h⟩ := h
    exact ⟨kvs, get_app h⟩
  | .fro _, h => by rw [okX] at h <;> first | exact h.elim | (intros; contradiction)
  | .kt _, h => by rw [okX] at h <;> first | exact h.elim | (intros; contradiction)
  | .fn _, h => by rw [okX] at h <;> first | exact h.elim | (intros; contradiction)
theorem okXL_app {M : Store} (X : Store) : ∀ xs : List D, okXL M xs → okXL (M ++ X) xs
  | [], _ => by rw [okXL]; trivial
  | x :: xs, h => by rw [okXL] at h ⊢; exact ⟨okX_app X x h.1, okXL_app X xs h.2⟩
end
theorem lform_ok (k : Nat) (x : D) (M : Store) (h : okX M x) : ∃ X, sem (k + 5) f__law_is_form [x] M = .ok (.val (.bl (formB x))) (M ++ X) := by
  cases x with
  | tup xs =>
    obtain ⟨h1, h2⟩ := ok_tup h
    rcases xs with _ | ⟨w, r⟩
    · exact ⟨[], by rw [e__law_is_form]; simp [runF, m__law_is_form, startD, isiD, clsD, subTy, eqE_nil, formB]⟩
    · have hw := h1 w (by simp)
      cases w with
      | str w =>
        obtain ⟨X1, q1⟩ := kinds_ok (k + 3) w M
        cases hs : shK w with
        | none =>
          rw [hs] at q1
          refine ⟨X1, ?_⟩
          rw [e__law_is_form]
          simp [runF, m__law_is_form, startD, isiD, clsD, subTy, eqE_nil, q1, isD, formB, hs]
        | some p =>
          obtain ⟨X2, q2⟩ := kinds_ok (k + 3) w (M ++ X1)
          rw [hs] at q1 q2
          simp only at q1 q2
          refine ⟨X1 ++ X2, ?_⟩
          rw [e__law_is_form, ← List.append_assoc]
          obtain ⟨z1, z2, z3⟩ := splits _ (shK_mem hs)
          simp only at z1 z2 z3
          have hok : ∀ y ∈ r, okX (M ++ X1 ++ X2) y := fun y hy => okX_app X2 y (okX_app X1 y (h1 y (by simp [hy])))
          obtain ⟨N1, hN1⟩ : ∃ y, M ++ X1 = y := ⟨_, rfl⟩
          rw [hN1] at q1 q2 hok ⊢
          obtain ⟨N2, hN2⟩ : ∃ y, N1 ++ X2 = y := ⟨_, rfl⟩
          rw [hN2] at q2 hok ⊢
          have hkl : (p.1.map fun d => D.str (lkS d)).length = p.1.length := List.length_map _
          have hlen : ∀ N, lenD N [.lst (p.1.map fun d => D.str (lkS d))] = some (.val (.int (p.1.length : Int))) := fun N => by
            show some (Slot.val (D.int ((p.1.map fun d => D.str (lkS d)).length : Nat))) = _
            rw [hkl]
          have c1 := fun N => (show slD N (.tup (.str w :: r)) (some 1) none = some (.val (.tup r)) by rw [slD, cut_1hi])
          have zr : zipItems (.tup r) = some r := rfl
          have hz := zipL_map (fun d => D.str (lkS d)) p.1 r
          have hg := lcGo_mp (b := bTup [2, 3]) (f := el__law_is_form_0 (sem (k + 4))) (ρ0 := [Slot.val (.tup (.str w :: r)), Slot.val (.lst (p.1.map fun d => D.str (lkS d))), Slot.un, Slot.un]) (M := N2) (fun q : Kd × D => D.tup [.str (lkS q.1), q.2]) (fun q => .bl (fitB q.1 q.2)) (p.1.zip r)
              (fun q hq => ⟨_, rfl, by
                have hq2 := (List.of_mem_zip hq).2
                have := lfits_ok k q.1 q.2 N2 (hok q.2 hq2)
                simp [bTup, bNames, el__law_is_form_0_eq, this]⟩) (by have := zip_len p.1 r; simp at h2; omega)
          obtain ⟨KL, hKL⟩ : ∃ y, (p.1.map fun d => D.str (lkS d)) = y := ⟨_, rfl⟩
          rw [hKL] at q1 q2 hg hlen hz
          have zs : zipItems (.lst KL) = some KL := rfl
          have heq : ∀ N, eqD N (.int ((r.length : Int) + 1)) (.int ((p.1.length : Int) + 1)) = some (.val (.bl (decide (r.length = p.1.length)))) := fun N => by
            rw [eqD_int]
            congr 3
            rw [Bool.eq_iff_iff]
            simp only [decide_eq_true_eq]
            omega
          obtain ⟨RL, hRL⟩ : ∃ y : Int, (r.length : Int) = y := ⟨_, rfl⟩
          obtain ⟨PL, hPL⟩ : ∃ y : Int, (p.1.length : Int) = y := ⟨_, rfl⟩
          rw [hPL] at hlen heq
          rw [hRL] at heq
          have hlt : ∀ N, lenD N [.tup (.str w :: r)] = some (.val (.int (RL + 1))) := fun N => by rw [← hRL]; simp
          by_cases hl : r.length = p.1.length
          · rw [decide_eq_true hl] at heq
            simp [-lenD_tup, -lenD_lst, -eqD_int, runF, m__law_is_form, startD, isiD, clsD, subTy, eqE_nil, q1, q2, isD, hlt, hlen, heq, c1, zs, zr, hz, wipeD, hg, allD, seqOf, lstOf, blsOf_map, formB, hs, hl]
          · rw [decide_eq_false hl] at heq
            simp [-lenD_tup, -lenD_lst, -eqD_int, runF, m__law_is_form, startD, isiD, clsD, subTy, eqE_nil, q1, q2, isD, hlt, hlen, heq, formB, hs, hl]
      | ref j =>
        rw [okX] at hw
        obtain ⟨kvs, hw⟩ := hw
        exact ⟨[], by rw [e__law_is_form]; simp [runF, m__law_is_form, startD, isiD, clsD, subTy, eqE_nil, hw, formB]⟩
      | fro => rw [okX] at hw <;> first | exact hw.elim | (intros; contradiction)
      | kt => rw [okX] at hw <;> first | exact hw.elim | (intros; contradiction)
      | fn => rw [okX] at hw <;> first | exact hw.elim | (intros; contradiction)
      | _ => exact ⟨[], by rw [e__law_is_form]; simp [runF, m__law_is_form, startD, isiD, clsD, subTy, eqE_nil, formB]⟩
  | ref j =>
    rw [okX] at h
    obtain ⟨kvs, h⟩ := h
    exact ⟨[], by rw [e__law_is_form]; simp [runF, m__law_is_form, startD, isiD, clsD, subTy, h, formB]⟩
  | fro => rw [okX] at h <;> first | exact h.elim | (intros; contradiction)
  | kt => rw [okX] at h <;> first | exact h.elim | (intros; contradiction)
  | fn => rw [okX] at h <;> first | exact h.elim | (intros; contradiction)
  | _ => exact ⟨[], by rw [e__law_is_form]; simp [runF, m__law_is_form, startD, isiD, clsD, subTy, formB]⟩
/-! a turning of another form is refused -/
theorem isX1 {M : Store} {k c : Nat} {d : D} {C : Str} {b : Bool} (h : M[k]? = some (.exc c d)) (hf : exFind exL c C = some b) : isXD exL M [.ref k, .fn C] = some (.val (.bl b)) := by simp [isXD, h, hf]
theorem isXT {M : Store} {k c : Nat} {d : D} {cs : List D} {b : Bool} (h : M[k]? = some (.exc c d)) (hs : (exFind exL c (exN c)).isSome = true) (hf : exAny exL c cs = some b) : isXD exL M [.ref k, .tup cs] = some (.val (.bl b)) := by simp [isXD, h, hs, hf]
theorem isV1 {M : Store} {k c : Nat} {d : D} (h : M[k]? = some (.exc c d)) (hs : (exFind exL c (exN c)).isSome = true) : isVE exL M (.ref k) = some (.val (.bl true)) := by simp [isVE, h, hs]
theorem need_ok (k : Nat) (M : Store) : sem (k + 1) f_need_goings [.bl false] M = .exc 2 .non M := by
  rw [e_need_goings]
  simp [runF, m_need_goings, startD, sRaise]
theorem turned_exc (k : Nat) (p x : D) (M : Store) (h : okX M x) (hf : formB x = false) : sem (k + 8) f_turned [p, x] M = .exc 2 .non M := by
  have h1 := turning_ok k x M h
  rw [hf] at h1
  have h2 := fun N => need_ok (k + 6) N
  rw [e_turned]
  simp [runF, m_turned, startD, calmF, h1, h2]
theorem refused_ok (k : Nat) (p x : D) (M : Store) (h : okX M x) (hf : formB x = false) : sem (k + 9) f__law_refused [p, x] M = .ok (.val (.bl true)) (M ++ [.exc 2 .non]) := by
  have ht := turned_exc k p x M h hf
  have g : (M ++ [MO.exc 2 .non])[M.length]? = some (.exc 2 .non) := at_end _ _
  have hcs : csOf [2] 2 = true := rfl
  have x1 := isXT (cs := [.fn "BadPaper", .fn "BadProgram", .fn "BadText", .fn "Hangs", .fn "NoStep", .fn "Shade", .fn "TooMany"]) (b := false) g (by decide +kernel) (by kernel_rfl)
  have x2 := isX1 (C := "NoTurn") (b := true) g (by kernel_rfl)
  have x4 := isV1 g (by decide +kernel)
  rw [e__law_refused]
  obtain ⟨N, hN⟩ : ∃ N, M ++ [MO.exc 2 .non] = N := ⟨_, rfl⟩
  rw [hN] at x1 x2 x4 ⊢
  obtain ⟨j, hj⟩ : ∃ k, M.length = k := ⟨_, rfl⟩
  rw [hj] at x1 x2 x4
  simp [runF, m__law_refused, startD, sHold, ht, hcs, dropOwn, unOwn, hN, hj, x1, x2, x4]
end K52
namespace K52
open PySem L2 TP
set_option maxHeartbeats 8000000
theorem names_pre (Φ : Nat → Fn) (n : Int) (M : Store) : m__law_names Φ (startD 5 [.int n]) M = (sSeq (sSet 2 (dOp2 idxD (dVarB 2) (dEF (dOp2 TP.modD (dVarB 0) (dC (.int 3)))))) (sSeq (sRet (dLc (dRng1 (dCons (dC (.int 16)) dNil)) (bName 3) dYes (el__law_names_4 Φ) [3])) sNil)) [.val (.int n), .val (.str "qzbmxkcwhvjpgyld"), .own (pools.map fun l => .lst (l.map .str)), .un, .un] M := by kernel_rfl
theorem names_ok (K : Nat) (n : Int) (M : Store) : sem (K + 1) f__law_names [.int n] M = .ok (.own ((namesL n).map .str)) M := by
  rw [e__law_names]
  unfold runF
  rw [names_pre]
  have h1 : atI (pools.map fun l => D.lst (l.map .str)) (n % 3) = some (.lst ((pool n).map .str)) := by
    rw [atI_map, (pool_mem n).2]; rfl
  have h2 : lcGo (bName 3) dYes (el__law_names_4 (sem K)) [.val (.int n), .val (.str "qzbmxkcwhvjpgyld"), .val (.lst ((pool n).map .str)), .un, .un] (rngL 0 16) [] M = .ok ((rngL 0 16).map fun d => match d with | .int k => .str (nameAt n k) | _ => .non) M := by
    refine lcGo_map _ _ (fun d hd => ?_) (by rw [rngL_len, szL]; omega)
    obtain ⟨i, hi⟩ := List.getElem?_of_mem hd
    obtain ⟨hi1, rfl⟩ := rngL_get hi
    have h3 : atI ((pool n).map D.str) (spotAt n (0 + (i : Int))) = some (.str (nameAt n (0 + (i : Int)))) := by
      rw [atI_map, (nameAt_mem n _).2]; rfl
    unfold spotAt at h3
    have m1 : ∀ x, mulOk 2 x = true := fun x => mulOk_l (by decide) (by decide)
    have m2 : mulOk (2 * (n / 48 % 8) + 1) (0 + (i : Int)) = true := mulOk_l (by omega) (by omega)
    refine ⟨_, rfl, ?_⟩
    rw [Int.zero_add] at h3 m2 ⊢
    simp [el__law_names_4_eq, m1, m2, h3]
  have h4 : ((rngL 0 16).map fun d => match d with | .int k => D.str (nameAt n k) | _ => .non) = (namesL n).map .str := by
    unfold namesL rngL
    rw [List.map_map, List.map_map]
    apply List.map_congr_left
    intro k _
    show D.str (nameAt n (0 + (k : Int))) = D.str (nameAt n (k : Int))
    rw [Int.zero_add]
  rw [h4] at h2
  have h5 : rng1D [.int 16] = some (rngL 0 16) := rfl
  simp [-rng1D_int, h1, h5, wipeD, h2]
def CellsD (c : D) : Prop := ∃ ns : List Int, ns.length ≤ 63 ∧ (c = .fro (ns.map .int) ∨ c = .lst (ns.map .int))
theorem cell1 (K : Nat) {c : D} (hc : CellsD c) {j : Nat} {k : Int} {M : Store} (hj : M[j]? = some (.lst [.int k])) (h0 : -1 ≤ k) (h1 : k < 2 ^ 40) :
    ∃ r : Int, 0 ≤ r ∧ sem (K + 1) f__law_cell [c, .ref j] M = .ok (.val (.int r)) (M.set j (.lst [.int (k + 1)])) := by
  obtain ⟨ns, hl, rfl | rfl⟩ := hc
  · exact cell_fro ns j k M hl hj h0 h1
  · exact cell_ok ns j k M hl hj h0 h1
theorem pools_isN : (pools.all fun p => p.all isN) = true := by decide +kernel
theorem names_isN {n : Int} {x : Str} (h : x ∈ namesL n) : isN x = true := by
  unfold namesL at h
  obtain ⟨k, _, rfl⟩ := List.mem_map.mp h
  exact List.all_eq_true.mp (List.all_eq_true.mp pools_isN _ (pool_mem n).1) _ (nameAt_mem n k).1
theorem isN_len {z : Str} (h : isN z = true) : z.length ≤ 1000 := by
  unfold isN at h
  simp only [Bool.and_eq_true, decide_eq_true_eq] at h
  omega
theorem names_len (n : Int) : (namesL n).length = 16 := by unfold namesL; simp
/-- a name of the row, at a spot -/
theorem name_at (n i : Int) (h0 : 0 ≤ i) (h1 : i < 16) : ∃ a : Str, isN a = true ∧ atI ((namesL n).map D.str) i = some (.str a) := by
  obtain ⟨a, ha, e⟩ := atI_mem (xs := namesL n) (i := i) h0 (by rw [names_len]; exact h1)
  exact ⟨a, names_isN ha, by rw [atI_map, e]; rfl⟩
theorem okX_name (M : Store) {z : Str} (h : isN z = true) : okX M (.str z) := by rw [okX]; exact isN_len h
theorem okX_int (M : Store) (i : Int) : okX M (.int i) := by rw [okX]; trivial
/-! a way -/
theorem nums_way (Φ : Nat → Fn) (m : Int) (hm : 0 ≤ m) (c : Nat) (hc : c ≤ 5) (s0 s1 s3 : Slot) (M : Store) : ∃ is : List Int, is.length = c ∧ (∀ i ∈ is, 0 ≤ i) ∧ lcGo (bName 4) dYes (el__law_part_0 Φ) [s0, s1, .val (.int m), s3, .un] (rngL 0 c) [] M = .ok (is.map .int) M := by
  refine ⟨(List.range c).map fun (k : Nat) => m / (256 + 7 * (k : Int)) % 4, by simp, fun i hi => ?_, ?_⟩
  · obtain ⟨k, _, rfl⟩ := List.mem_map.mp hi
    exact Int.emod_nonneg _ (by decide)
  have h := lcGo_mp (b := bName 4) (f := el__law_part_0 Φ) (ρ0 := [s0, s1, .val (.int m), s3, .un]) (M := M) (fun k : Nat => D.int (0 + (k : Int))) (fun k => .int (m / (256 + 7 * (k : Int)) % 4)) (List.range c) (fun k hk => ⟨_, rfl, by
    have hk' := List.mem_range.mp hk
    have m1 : mulOk 7 (0 + (k : Int)) = true := mulOk_l (by decide) (by decide)
    obtain ⟨kI, hkI⟩ : ∃ y : Int, (k : Int) = y := ⟨_, rfl⟩
    have hb : 0 ≤ kI ∧ kI < 5 := by omega
    rw [hkI] at m1 ⊢
    rw [Int.zero_add] at m1 ⊢
    have hp : (0 : Int) < 256 + 7 * kI := by omega
    have hq : 256 + 7 * kI < 1073741824 := by omega
    simp [el__law_part_0_eq, m1, hp, hq]⟩) (by simp; omega)
  rw [List.map_map]
  exact h
theorem ints_ok (M : Store) {is : List Int} (h : ∀ i ∈ is, 0 ≤ i) : (is.map D.int).all cntB = true := by
  rw [List.all_map]
  exact List.all_eq_true.mpr fun i hi => by simp [cntB, h i hi]
theorem addT (M : Store) (xs ys : List D) (h : xs.length + ys.length ≤ 1000000) : addD M (.tup xs) (.tup ys) = some (.val (.tup (xs ++ ys))) := by
  show (if xs.length + ys.length ≤ sizeLine then some (Slot.val (D.tup (xs ++ ys))) else none) = _
  rw [if_pos (size_ok h)]
def wayD (a b : Str) (is : List Int) : D := .tup (.str a :: .str b :: is.map .int)
theorem way_is {a b : Str} {is : List Int} (ha : isN a = true) (hb : isN b = true) (h : ∀ i ∈ is, 0 ≤ i) : wayB (wayD a b is) = true := by
  unfold wayD
  rw [wayB, ints_ok [] h]
  simp [nameB, ha, hb]
theorem ok_way (M : Store) {a b : Str} {is : List Int} (ha : isN a = true) (hb : isN b = true) (h : is.length ≤ 5) : okX M (wayD a b is) := by
  refine tup_ok (fun x hx => ?_) (by simp; omega)
  rcases List.mem_cons.mp hx with rfl | hx
  · exact okX_name M ha
  · rcases List.mem_cons.mp hx with rfl | hx
    · exact okX_name M hb
    · obtain ⟨i, _, rfl⟩ := List.mem_map.mp hx
      exact okX_int M i
theorem lr (M : Store) (d : Kd) : eqD M (.str (lkS d)) (.str "ways") = some (.val (.bl (decide (d = .r)))) := by cases d <;> kernel_rfl
theorem disp3 (a b c : D) : mergeD ["name", "way", "count"] [a, b, c] = [(.inr "name", a), (.inr "way", b), (.inr "count", c)] := by kernel_rfl
theorem nums_order (Φ : Nat → Fn) (m : Int) (hm : 0 ≤ m) (c : Nat) (hc : c ≤ 5) (s0 s1 s3 : Slot) (M : Store) : ∃ is : List Int, is.length = c ∧ (∀ i ∈ is, 0 ≤ i) ∧ lcGo (bName 4) dYes (el__law_part_1 Φ) [s0, s1, .val (.int m), s3, .un] (rngL 0 c) [] M = .ok (is.map .int) M := by
  refine ⟨(List.range c).map fun (k : Nat) => (m + 3 * (k : Int)) % 5, by simp, fun i hi => ?_, ?_⟩
  · obtain ⟨k, _, rfl⟩ := List.mem_map.mp hi
    exact Int.emod_nonneg _ (by decide)
  have h := lcGo_mp (b := bName 4) (f := el__law_part_1 Φ) (ρ0 := [s0, s1, .val (.int m), s3, .un]) (M := M) (fun k : Nat => D.int (0 + (k : Int))) (fun k => .int ((m + 3 * (k : Int)) % 5)) (List.range c) (fun k hk => ⟨_, rfl, by
    have m1 : mulOk 3 (0 + (k : Int)) = true := mulOk_l (by decide) (by decide)
    obtain ⟨kI, hkI⟩ : ∃ y : Int, (k : Int) = y := ⟨_, rfl⟩
    rw [hkI] at m1 ⊢
    rw [Int.zero_add] at m1 ⊢
    simp [el__law_part_1_eq, m1]⟩) (by simp; omega)
  rw [List.map_map]
  exact h
theorem ways_row (Φ : Nat → Fn) (m : Int) (a b : Str) (is : List Int) (c : Nat) (hc : c ≤ 5) (s0 s1 : Slot) (M : Store) : lcGo (bName 4) dYes (el__law_part_2 Φ) [s0, s1, .val (.int m), .val (wayD a b is), .un] (rngL 0 c) [] M = .ok ((List.range c).map fun k : Nat => wayD a b [(k : Int)]) M := by
  have h := lcGo_mp (b := bName 4) (f := el__law_part_2 Φ) (ρ0 := [s0, s1, .val (.int m), .val (wayD a b is), .un]) (M := M) (fun k : Nat => D.int (0 + (k : Int))) (fun k => wayD a b [(k : Int)]) (List.range c) (fun k hk => ⟨_, rfl, by
    obtain ⟨kI, hkI⟩ : ∃ y : Int, (k : Int) = y := ⟨_, rfl⟩
    rw [hkI, Int.zero_add]
    have c1 := fun N => (show slD N (wayD a b is) none (some 2) = some (.val (.tup [.str a, .str b])) by unfold wayD; rw [slD, cut_2lo])
    have ha := fun N => addT N [.str a, .str b] [.int kI] (by simp)
    obtain ⟨wd, hwd⟩ : ∃ y, wayD a b is = y := ⟨_, rfl⟩
    rw [hwd] at c1 ⊢
    simp [el__law_part_2_eq, c1, ha, wayD]⟩) (by simp; omega)
  exact h
end K52
namespace K52
open PySem L2 TP
set_option maxHeartbeats 8000000
theorem ints_all {is : List Int} (h : ∀ i ∈ is, 0 ≤ i) (M : Store) : ∀ x ∈ is.map D.int, okX M x := fun x hx => by
  obtain ⟨i, _, rfl⟩ := List.mem_map.mp hx
  exact okX_int M i
theorem look3 (a b c : D) : lookD [((.inr "name" : Key), a), (.inr "way", b), (.inr "count", c)] (.inr (lkS .x)) = some a ∧ lookD [((.inr "name" : Key), a), (.inr "way", b), (.inr "count", c)] (.inr (lkS .w)) = some b ∧ lookD [((.inr "name" : Key), a), (.inr "way", b), (.inr "count", c)] (.inr (lkS .k)) = some c := ⟨by kernel_rfl, by kernel_rfl, by kernel_rfl⟩
theorem part_ok (K : Nat) (n m : Int) (hm : 0 ≤ m) (d : Kd) (M : Store) : ∃ (x : D) (X : Store), sem (K + 1) f__law_part [.str (lkS d), .lst ((namesL n).map .str), .int m] M = .ok (.val x) (M ++ X) ∧ (∀ N, okX N x) ∧ fitB d x = true := by
  obtain ⟨a, ha, ea⟩ := name_at n (m % 16) (by omega) (by omega)
  obtain ⟨b, hb, eb⟩ := name_at n (m / 16 % 16) (by omega) (by omega)
  obtain ⟨g, hg, eg⟩ := name_at n (m / 3 % 16) (by omega) (by omega)
  obtain ⟨c, hc⟩ : ∃ c : Nat, m / 256 % 5 = (c : Int) := ⟨(m / 256 % 5).toNat, by omega⟩
  obtain ⟨is, il, ip, hl⟩ := nums_way (sem K) m hm c (by omega) (.val (.str (lkS d))) (.val (.lst ((namesL n).map .str))) .un M
  have hr1 : rng1D [.int (m / 256 % 5)] = some (rngL 0 c) := by rw [hc, rng1_ok (by omega) (by omega), Int.toNat_natCast]
  have a1 := fun N => addT N [.str a, .str b] (is.map .int) (by simp; omega)
  have hwd : D.tup ([.str a, .str b] ++ is.map .int) = wayD a b is := rfl
  have w1 := way_is ha hb ip
  have w2 := fun N => ok_way N ha hb (is := is) (by omega)
  have lb := fun N => lb N d
  have lo := fun N => lo N d
  have lr := fun N => lr N d
  have tu : ∀ N, tupleD N [.lst (is.map .int)] = some (.val (.tup (is.map .int))) := fun _ => rfl
  rw [hwd] at a1
  have c2 := fun N => (show slD N (wayD a b is) none (some 2) = some (.val (.tup [.str a, .str b])) by unfold wayD; rw [slD, cut_2lo])
  obtain ⟨WD, hWD⟩ : ∃ y, wayD a b is = y := ⟨_, rfl⟩
  rw [hWD] at a1 w1 w2 c2
  rw [e__law_part]
  obtain ⟨NL, hNL⟩ : ∃ y, (namesL n).map D.str = y := ⟨_, rfl⟩
  rw [hNL] at ea eb eg hl ⊢
  obtain ⟨IL, hIL⟩ : ∃ y, is.map D.int = y := ⟨_, rfl⟩
  rw [hIL] at hl a1 tu
  have hone : ∀ i : Int, (∀ j ∈ [i], 0 ≤ j) → [D.int i].all cntB = true := fun i h => by simp [cntB, h i (by simp)]
  cases d with
  | b =>
    obtain ⟨s, hs⟩ : ∃ s, lkS .b = s := ⟨_, rfl⟩
    rw [hs] at lb lo lr hl ⊢
    have p1 := fun N => addT N [.str "param"] [.str a, .str b] (by simp)
    have p2 := fun N => addT N [.str "param", .str a, .str b] [.int (m % 6)] (by simp)
    obtain ⟨q, hq0, hq⟩ : ∃ q, q ∈ [0, 1, 2, 3] ∧ m / 5 % 4 = (q : Int) := ⟨m / 5 % 4, by simp; omega, rfl⟩
    have g0 : 0 ≤ m % 6 := by omega
    simp only [List.mem_cons, List.not_mem_nil, or_false] at hq0
    rcases hq0 with rfl | rfl | rfl | rfl
    · refine ⟨.tup [.str "param", .str a, .str b, .int (m % 6)], [], ?_, fun N => tup_ok (fun x hx => ?_) (by simp), ?_⟩
      · simp [-rng1D_int, runF, m__law_part, startD, ea, eb, hr1, hl, wipeD, tu, a1, lb, c2, p1, p2, hq]
      · simp only [List.mem_cons, List.not_mem_nil, or_false] at hx
        rcases hx with rfl | rfl | rfl | rfl
        · rw [okX]; decide
        · exact okX_name N ha
        · exact okX_name N hb
        · exact okX_int N _
      · simp [fitB, bindB, nameB, ha, hb, cntB, g0]
    · refine ⟨.tup [.str "let", WD], [], ?_, fun N => tup_ok (fun x hx => ?_) (by simp), ?_⟩
      · simp [-rng1D_int, runF, m__law_part, startD, ea, eb, hr1, hl, wipeD, tu, a1, lb, c2, p1, p2, hq]
      · simp only [List.mem_cons, List.not_mem_nil, or_false] at hx
        rcases hx with rfl | rfl
        · rw [okX]; decide
        · exact w2 N
      · rw [fitB, bindB, if_neg (by decide), if_pos (by decide)]; exact w1
    · refine ⟨.tup [.str "count", WD], [], ?_, fun N => tup_ok (fun x hx => ?_) (by simp), ?_⟩
      · simp [-rng1D_int, runF, m__law_part, startD, ea, eb, hr1, hl, wipeD, tu, a1, lb, c2, p1, p2, hq]
      · simp only [List.mem_cons, List.not_mem_nil, or_false] at hx
        rcases hx with rfl | rfl
        · rw [okX]; decide
        · exact w2 N
      · rw [fitB, bindB, if_neg (by decide), if_pos (by decide)]; exact w1
    · refine ⟨.tup [.str "sum", WD], [], ?_, fun N => tup_ok (fun x hx => ?_) (by simp), ?_⟩
      · simp [-rng1D_int, runF, m__law_part, startD, ea, eb, hr1, hl, wipeD, tu, a1, lb, c2, p1, p2, hq]
      · simp only [List.mem_cons, List.not_mem_nil, or_false] at hx
        rcases hx with rfl | rfl
        · rw [okX]; decide
        · exact w2 N
      · rw [fitB, bindB, if_neg (by decide), if_pos (by decide)]; exact w1
  | o =>
    obtain ⟨c2', hc2⟩ : ∃ c : Nat, m / 256 % 6 = (c : Int) := ⟨(m / 256 % 6).toNat, by omega⟩
    obtain ⟨js, jl, jp, hj⟩ := nums_order (sem K) m hm c2' (by omega) (.val (.str (lkS .o))) (.val (.lst NL)) (.val WD) M
    have hr2 : rng1D [.int (m / 256 % 6)] = some (rngL 0 c2') := by rw [hc2, rng1_ok (by omega) (by omega), Int.toNat_natCast]
    have tj : ∀ N, tupleD N [.lst (js.map .int)] = some (.val (.tup (js.map .int))) := fun _ => rfl
    refine ⟨.tup (js.map .int), [], ?_, fun N => tup_ok (ints_all jp N) (by simp; omega), by rw [fitB, cntsB]; exact ints_ok [] jp⟩
    obtain ⟨s, hs⟩ : ∃ s, lkS .o = s := ⟨_, rfl⟩
    rw [hs] at lb lo lr hl hj ⊢
    obtain ⟨JL, hJL⟩ : ∃ y, js.map D.int = y := ⟨_, rfl⟩
    rw [hJL] at hj tj ⊢
    simp [-rng1D_int, runF, m__law_part, startD, ea, eb, hr1, hl, wipeD, tu, a1, lb, lo, hr2, hj, tj]
  | r =>
    obtain ⟨c2', hc2, hc0⟩ : ∃ c : Nat, 1 + m / 256 % 4 = (c : Int) ∧ 1 ≤ c := ⟨(1 + m / 256 % 4).toNat, by omega, by omega⟩
    have hj := ways_row (sem K) m a b is c2' (by omega) (.val (.str (lkS .r))) (.val (.lst NL)) M
    rw [hWD] at hj
    have hr2 : rng1D [.int (1 + m / 256 % 4)] = some (rngL 0 c2') := by rw [hc2, rng1_ok (by omega) (by omega), Int.toNat_natCast]
    obtain ⟨WL, hWL⟩ : ∃ y, ((List.range c2').map fun k : Nat => wayD a b [(k : Int)]) = y := ⟨_, rfl⟩
    have tj : ∀ N, tupleD N [.lst WL] = some (.val (.tup WL)) := fun _ => rfl
    have hk : ∀ x ∈ WL, wayB x = true ∧ ∀ N, okX N x := fun x hx => by
      rw [← hWL] at hx
      obtain ⟨k, _, rfl⟩ := List.mem_map.mp hx
      exact ⟨way_is ha hb (fun i hi => by simp at hi; omega), fun N => ok_way N ha hb (by simp)⟩
    have hne : WL.isEmpty = false := by
      rw [← hWL]
      cases c2' with
      | zero => omega
      | succ c => simp
    refine ⟨.tup WL, [], ?_, fun N => tup_ok (fun x hx => (hk x hx).2 N) (by rw [← hWL]; simp; omega), by rw [fitB, waysB, hne]; simpa using fun x hx => (hk x hx).1⟩
    rw [hWL] at hj
    obtain ⟨s, hs⟩ : ∃ s, lkS .r = s := ⟨_, rfl⟩
    rw [hs] at lb lo lr hl hj ⊢
    simp [-rng1D_int, runF, m__law_part, startD, ea, eb, hr1, hl, wipeD, tu, a1, lb, lo, lr, hr2, hj, tj]
  | x =>
    have hd := disp3 (.str g) WD (.int (m / 3 % 40))
    have gl := (look3 (.str g) WD (.int (m / 3 % 40))).1
    obtain ⟨KV, hKV⟩ : ∃ y, [((.inr "name" : Key), D.str g), (.inr "way", WD), (.inr "count", .int (m / 3 % 40))] = y := ⟨_, rfl⟩
    rw [hKV] at hd gl
    have gm : (M ++ [MO.dK KV])[M.length]? = some (.dK KV) := at_end _ _
    refine ⟨.str g, [.dK KV], ?_, fun N => okX_name N hg, by simpa [fitB, nameB] using hg⟩
    obtain ⟨s, hs⟩ : ∃ s, lkS .x = s := ⟨_, rfl⟩
    rw [hs] at lb lo lr hl gl ⊢
    obtain ⟨N, hN⟩ : ∃ y, M ++ [MO.dK KV] = y := ⟨_, rfl⟩
    rw [hN] at gm ⊢
    obtain ⟨j, hj⟩ : ∃ y, M.length = y := ⟨_, rfl⟩
    rw [hj] at gm
    have hget : dgetD N (.ref j) (.str s) = some (.val (.str g)) := by
      unfold dgetD dGetO
      simp only [gm]
      show (match Option.map (lookD KV) (some (.inr s)) with | some (some d) => some (Slot.val d) | _ => none) = _
      rw [Option.map_some, gl]
    simp [-rng1D_int, runF, m__law_part, startD, dVals, ea, eb, eg, hr1, hl, wipeD, tu, a1, lb, lo, lr, hd, hN, hj, hget]
  | w =>
    have hd := disp3 (.str g) WD (.int (m / 3 % 40))
    have gl := (look3 (.str g) WD (.int (m / 3 % 40))).2.1
    obtain ⟨KV, hKV⟩ : ∃ y, [((.inr "name" : Key), D.str g), (.inr "way", WD), (.inr "count", .int (m / 3 % 40))] = y := ⟨_, rfl⟩
    rw [hKV] at hd gl
    have gm : (M ++ [MO.dK KV])[M.length]? = some (.dK KV) := at_end _ _
    refine ⟨WD, [.dK KV], ?_, w2, by rw [fitB]; exact w1⟩
    obtain ⟨s, hs⟩ : ∃ s, lkS .w = s := ⟨_, rfl⟩
    rw [hs] at lb lo lr hl gl ⊢
    obtain ⟨N, hN⟩ : ∃ y, M ++ [MO.dK KV] = y := ⟨_, rfl⟩
    rw [hN] at gm ⊢
    obtain ⟨j, hj⟩ : ∃ y, M.length = y := ⟨_, rfl⟩
    rw [hj] at gm
    have hget : dgetD N (.ref j) (.str s) = some (.val (WD)) := by
      unfold dgetD dGetO
      simp only [gm]
      show (match Option.map (lookD KV) (some (.inr s)) with | some (some d) => some (Slot.val d) | _ => none) = _
      rw [Option.map_some, gl]
    simp [-rng1D_int, runF, m__law_part, startD, dVals, ea, eb, eg, hr1, hl, wipeD, tu, a1, lb, lo, lr, hd, hN, hj, hget]
  | k =>
    have hd := disp3 (.str g) WD (.int (m / 3 % 40))
    have gl := (look3 (.str g) WD (.int (m / 3 % 40))).2.2
    obtain ⟨KV, hKV⟩ : ∃ y, [((.inr "name" : Key), D.str g), (.inr "way", WD), (.inr "count", .int (m / 3 % 40))] = y := ⟨_, rfl⟩
    rw [hKV] at hd gl
    have gm : (M ++ [MO.dK KV])[M.length]? = some (.dK KV) := at_end _ _
    refine ⟨.int (m / 3 % 40), [.dK KV], ?_, fun N => okX_int N _, by simp [fitB, cntB]; omega⟩
    obtain ⟨s, hs⟩ : ∃ s, lkS .k = s := ⟨_, rfl⟩
    rw [hs] at lb lo lr hl gl ⊢
    obtain ⟨N, hN⟩ : ∃ y, M ++ [MO.dK KV] = y := ⟨_, rfl⟩
    rw [hN] at gm ⊢
    obtain ⟨j, hj⟩ : ∃ y, M.length = y := ⟨_, rfl⟩
    rw [hj] at gm
    have hget : dgetD N (.ref j) (.str s) = some (.val (.int (m / 3 % 40))) := by
      unfold dgetD dGetO
      simp only [gm]
      show (match Option.map (lookD KV) (some (.inr s)) with | some (some d) => some (Slot.val d) | _ => none) = _
      rw [Option.map_some, gl]
    simp [-rng1D_int, runF, m__law_part, startD, dVals, ea, eb, eg, hr1, hl, wipeD, tu, a1, lb, lo, lr, hd, hN, hj, hget]
end K52
namespace K52
open PySem L2 TP
set_option maxHeartbeats 8000000
/-! odd things -/
def oddA (a b : Str) : List D := [.non, .int 5, .bl true, .int (-1), .str "", .str "let", .str "Aa", .str "ninesigns", .str "a1", .str a, .tup [.str a], .tup [.str a, .str b], .tup [.str a, .str b, .int (-1)], .tup [.str a, .str b, .bl true], .tup [.str a, .str "do"]]
def oddB (a b : Str) (k : Nat) : List D := [.lst [.str a, .str b], .tup [.str a, .str b, .int 0, .int 1], .tup [.str a, .str b, .str "0"], .tup [.tup [.str a, .str b]], .tup [], .ref k, .tup [.str "let", .tup [.str a, .str b]], .tup [.str "param", .str a, .str b, .int 0], .int 100000000000000000000]
def oddC (a b : Str) : List D := [.tup [.str "param", .str a, .str b, .bl true], .tup [.str "param", .str a, .str b], .tup [.str "use", .tup [.str a, .str b]], .tup [.str "let", .str a], .tup [.str "sum", .tup [.str a]], .tup [.int 0, .int 1]]
def oddE (a b : Str) : List D := [.lst [.int 0, .int 1], .tup [.int 0, .int (-1)], .tup [.tup [.str a, .str b], .tup [.str a]], .lst [.tup [.str a, .str b]], .tup [.str a, .str b, .non], .str "a b", .tup [.str "let", .tup [.str a, .str b], .int 0]]
def oddL (a b : Str) (k : Nat) : List D := oddA a b ++ oddB a b k ++ oddC a b ++ [.tup [.int 0, .bl true]] ++ oddE a b
theorem addLL (M : Store) (xs ys : List D) (h : xs.length + ys.length ≤ 1000000) : addD M (.lst xs) (.lst ys) = some (.own (xs ++ ys)) := by
  show (if xs.length + ys.length ≤ sizeLine then some (Slot.own (xs ++ ys)) else none) = _
  rw [if_pos (size_ok h)]
theorem okXL_append {M : Store} : ∀ {xs ys : List D}, okXL M xs → okXL M ys → okXL M (xs ++ ys)
  | [], _, _, h => h
  | x :: xs, _, h, h' => by rw [okXL] at h; rw [List.cons_append, okXL]; exact ⟨h.1, okXL_append h.2 h'⟩
theorem oddL_ok (M : Store) {a b : Str} {k : Nat} (ha : isN a = true) (hb : isN b = true) (hk : ∃ kvs, M[k]? = some (.dK kvs)) : okXL M (oddL a b k) := by
  have la := isN_len ha
  have lb := isN_len hb
  have lits : ∀ s ∈ (["", "let", "Aa", "ninesigns", "a1", "do", "0", "param", "use", "sum", "a b"] : List Str), s.length ≤ 1000 := by decide +kernel
  simp only [List.forall_mem_cons] at lits
  obtain ⟨s1, s2, s3, s4, s5, s6, s7, s8, s9, s10, s11, _⟩ := lits
  unfold oddL
  refine okXL_append (okXL_append (okXL_append (okXL_append ?_ ?_) ?_) ?_) ?_ <;> simp only [oddA, oddB, oddC, oddE, okXL, okX, la, lb, hk, s1, s2, s3, s4, s5, s6, s7, s8, s9, s10, s11, List.length_cons, List.length_nil] <;> simp
theorem odd_ok (K : Nat) (n m : Int) (M : Store) : ∃ x : D, sem (K + 1) f__law_odd [.lst ((namesL n).map .str), .int m] M = .ok (.val x) (M ++ [.dK []]) ∧ okX (M ++ [.dK []]) x := by
  obtain ⟨a, ha, ea⟩ := name_at n 0 (by omega) (by omega)
  obtain ⟨b, hb, eb⟩ := name_at n 1 (by omega) (by omega)
  have hl : (oddL a b M.length).length = 38 := rfl
  obtain ⟨v, hv, ev⟩ := atI_mem (xs := oddL a b M.length) (i := m % 38) (by omega) (by rw [hl]; show m % 38 < (38 : Int); omega)
  have hok := okXL_mem (oddL_ok (M ++ [.dK []]) (k := M.length) ha hb ⟨[], at_end _ _⟩) v hv
  refine ⟨v, ?_, hok⟩
  have hcut : cutD ((namesL n).map D.str) none (some 2) = [.str a, .str b] := by
    have h1 := cut_lo 2 ((namesL n).map D.str) (by rw [List.length_map, names_len]; omega)
    have hlen : ((namesL n).map D.str).length = 16 := by rw [List.length_map, names_len]
    have e1 : cutD ((namesL n).map D.str) none (some 2) = ((namesL n).map D.str).take 2 := h1
    rw [e1]
    obtain ⟨L, hL⟩ : ∃ y, (namesL n).map D.str = y := ⟨_, rfl⟩
    rw [hL] at ea eb hlen ⊢
    rcases L with _ | ⟨x, _ | ⟨y, r⟩⟩
    · simp at hlen
    · simp at hlen
    · simp at ea eb
      subst ea eb
      rfl
  have hsl : ∀ N, slD N (.lst ((namesL n).map .str)) none (some 2) = some (.own [.str a, .str b]) := fun N => by
    show some (Slot.own (cutD ((namesL n).map D.str) none (some 2))) = _
    rw [hcut]
  obtain ⟨NL, hNL⟩ : ∃ y, (namesL n).map D.str = y := ⟨_, rfl⟩
  rw [hNL] at hsl ⊢
  obtain ⟨j, hj⟩ : ∃ y, M.length = y := ⟨_, rfl⟩
  rw [hj] at ev
  have hpow : ∀ N, powD N (.int 10) (.int 20) = some (.val (.int 100000000000000000000)) := fun _ => rfl
  have hneg : ∀ N, negD N (.int 1) = some (.val (.int (-1))) := fun _ => rfl
  have hnew : ∀ ρ N, dNewK ρ N = .ok (.ref N.length) (N ++ [.dK []]) := fun _ _ => rfl
  obtain ⟨A, hA⟩ : ∃ y, oddA a b = y := ⟨_, rfl⟩
  obtain ⟨B, hB⟩ : ∃ y, oddB a b j = y := ⟨_, rfl⟩
  obtain ⟨C, hC⟩ : ∃ y, oddC a b = y := ⟨_, rfl⟩
  obtain ⟨E, hE⟩ : ∃ y, oddE a b = y := ⟨_, rfl⟩
  have lA : A.length = 15 := by rw [← hA]; rfl
  have lB : B.length = 9 := by rw [← hB]; rfl
  have lC : C.length = 6 := by rw [← hC]; rfl
  have lE : E.length = 7 := by rw [← hE]; rfl
  unfold oddL at ev
  rw [hA, hB, hC, hE] at ev
  unfold oddA at hA
  unfold oddB at hB
  unfold oddC at hC
  unfold oddE at hE
  try dsimp only at hA hB hC hE
  have g1 := fun N => addLL N A B (by omega)
  have g2 := fun N => addLL N (A ++ B) C (by rw [List.length_append]; omega)
  have g3 := fun N => addLL N (A ++ B ++ C ++ [.tup [.int 0, .bl true]]) E (by simp only [List.length_append, List.length_cons, List.length_nil]; omega)
  have h38 : (A ++ B ++ C).length ≤ 1000000 := by simp only [List.length_append]; omega
  rw [e__law_odd]
  simp [-List.append_assoc, -powD_int, runF, m__law_odd, startD, hsl, bTup, bLst, bNames, hpow, hneg, hnew, hj, hA, hB, hC, hE, g1, g2, g3, size_ok, ev, lA, lB, lC, lE]
end K52
namespace K52
open PySem L2 TP
set_option maxHeartbeats 8000000
/-! bent things -/
theorem slT_lo (N : Store) (ts : List D) (j : Nat) (h : j ≤ ts.length) : slD N (.tup ts) none (some (j : Int)) = some (.val (.tup (ts.take j))) := by rw [slD, cut_lo j ts h]
theorem slT_hi (N : Store) (ts : List D) (j : Nat) (h : j ≤ ts.length) : slD N (.tup ts) (some (j : Int)) none = some (.val (.tup (ts.drop j))) := by rw [slD, cut_hi j ts h]
theorem okX_list (M : Store) (ts : List D) : okX M (.lst ts) := by rw [okX]; trivial
theorem bent_ok (K : Nat) (n m : Int) (hm : 0 ≤ m) (ts : List D) (h1 : 1 ≤ ts.length) (h2 : ts.length ≤ 20) (M : Store) (hok : ∀ x ∈ ts, ∀ N, okX N x) :
    ∃ (y : D) (X : Store), sem (K + 2) f__law_bent [.tup ts, .lst ((namesL n).map .str), .int m] M = .ok (.val y) (M ++ X) ∧ okX (M ++ X) y := by
  obtain ⟨x, hx, kx⟩ := odd_ok K n (m / 81) M
  obtain ⟨w, hw⟩ : ∃ y, m % 9 = y := ⟨_, rfl⟩
  have hw0 : 0 ≤ w ∧ w < 9 := by omega
  have hL : (0 : Int) < (ts.length : Int) := by omega
  obtain ⟨j, hj, hjl⟩ : ∃ j : Nat, m / 9 % (ts.length : Int) = (j : Int) ∧ j < ts.length := by
    have b1 := Int.emod_nonneg (m / 9) (show (ts.length : Int) ≠ 0 by omega)
    have b2 := Int.emod_lt_of_pos (m / 9) hL
    exact ⟨(m / 9 % (ts.length : Int)).toNat, by omega, by omega⟩
  have hlen : ∀ N, lenD N [.tup ts] = some (.val (.int (ts.length : Int))) := fun N => by simp
  have hmod : ∀ N, TP.modD N (.int (m / 9)) (.int (ts.length : Int)) = some (.val (.int (j : Int))) := fun N => by rw [modD_int, if_pos hL, hj]
  have s1 := fun N => slT_lo N ts j (by omega)
  have s2 := fun N => slT_hi N ts (j + 1) (by omega)
  have s3 := fun N => slT_hi N ts j (by omega)
  have s4 := fun N => slT_hi N ts 1 h1
  rw [show ((j + 1 : Nat) : Int) = (j : Int) + 1 by omega] at s2
  rw [show ((1 : Nat) : Int) = 1 from rfl] at s4
  have hmem : ∀ z N, z ∈ ts → okX N z := fun z N hz => hok z hz N
  have tk : ∀ z, z ∈ ts.take j → z ∈ ts := fun z hz => List.mem_of_mem_take hz
  have td : ∀ i z, z ∈ ts.drop i → z ∈ ts := fun i z hz => List.mem_of_mem_drop hz
  have lt : (ts.take j).length ≤ 20 := by rw [List.length_take]; omega
  have ld : ∀ i, (ts.drop i).length ≤ 20 := fun i => by rw [List.length_drop]; omega
  have a1 := fun N => addT N (ts.take j) [x] (by simp; omega)
  have a2 := fun N => addT N (ts.take j ++ [x]) (ts.drop (j + 1)) (by have := ld (j + 1); simp only [List.length_append, List.length_cons, List.length_nil]; omega)
  have a3 := fun N => addT N (ts.take j) (ts.drop (j + 1)) (by have := ld (j + 1); omega)
  have a4 := fun N => addT N (ts.take j ++ [x]) (ts.drop j) (by have := ld j; simp only [List.length_append, List.length_cons, List.length_nil]; omega)
  obtain ⟨s, hs, es⟩ := atI_mem (xs := (["Free", "turn", "in", "open", ""] : List Str)) (i := m / 81 % 5) (by omega) (by show _ < (5 : Int); omega)
  have es' := atI_map D.str (["Free", "turn", "in", "open", ""] : List Str) (m / 81 % 5)
  rw [es] at es'
  simp only [List.map_cons, List.map_nil, Option.map_some] at es'
  have ls : s.length ≤ 1000 := by
    have : ∀ s ∈ (["Free", "turn", "in", "open", ""] : List Str), s.length ≤ 1000 := by decide +kernel
    exact this s hs
  have a5 := fun N => addT N [.str s] (ts.drop 1) (by have := ld 1; simp; omega)
  obtain ⟨D1, hD1⟩ : ∃ y, ts.drop 1 = y := ⟨_, rfl⟩
  have d1 := td 1
  have d2 := ld 1
  rw [hD1] at s4 a5 d1 d2
  have hli : ∀ N, listD N [.tup ts] = some (.own ts) := fun _ => rfl
  have hl16 : ts.length ≤ 16777216 := by omega
  have case : w < 5 ∨ w = 5 ∨ w = 6 ∨ w = 7 ∨ w = 8 := by omega
  obtain ⟨NL, hNL⟩ : ∃ y, (namesL n).map D.str = y := ⟨_, rfl⟩
  rw [hNL] at hx ⊢
  obtain ⟨jI, hjI⟩ : ∃ y : Int, (j : Int) = y := ⟨_, rfl⟩
  rw [hjI] at hmod s1 s2 s3
  obtain ⟨TL, hTL⟩ : ∃ y : Int, (ts.length : Int) = y := ⟨_, rfl⟩
  rw [hTL] at hlen hmod
  rw [e__law_bent]
  rcases case with hc | hc | hc | hc | hc
  · refine ⟨.tup (ts.take j ++ [x] ++ ts.drop (j + 1)), [.dK []], ?_, tup_ok (fun z hz => ?_) (by have := ld (j + 1); simp only [List.length_append, List.length_cons, List.length_nil]; omega)⟩
    · simp [-List.append_assoc, -lenD_tup, runF, m__law_bent, startD, hw, hlen, hmod, hc, s1, s2, hx, a1, a2]
    · rcases List.mem_append.mp hz with hz | hz
      · rcases List.mem_append.mp hz with hz | hz
        · exact hmem z _ (tk z hz)
        · simp at hz; subst hz; exact kx
      · exact hmem z _ (td _ z hz)
  · refine ⟨.tup (ts.take j ++ ts.drop (j + 1)), [], ?_, tup_ok (fun z hz => ?_) (by have := ld (j + 1); simp only [List.length_append]; omega)⟩
    · simp [-List.append_assoc, -lenD_tup, runF, m__law_bent, startD, hw, hlen, hmod, hc, s1, s2, a3]
    · rcases List.mem_append.mp hz with hz | hz
      · exact hmem z _ (tk z hz)
      · exact hmem z _ (td _ z hz)
  · refine ⟨.tup (ts.take j ++ [x] ++ ts.drop j), [.dK []], ?_, tup_ok (fun z hz => ?_) (by have := ld j; simp only [List.length_append, List.length_cons, List.length_nil]; omega)⟩
    · simp [-List.append_assoc, -lenD_tup, runF, m__law_bent, startD, hw, hlen, hmod, hc, s1, s3, hx, a1, a4]
    · rcases List.mem_append.mp hz with hz | hz
      · rcases List.mem_append.mp hz with hz | hz
        · exact hmem z _ (tk z hz)
        · simp at hz; subst hz; exact kx
      · exact hmem z _ (td _ z hz)
  · refine ⟨.lst ts, [], ?_, okX_list _ _⟩
    simp [-List.append_assoc, -lenD_tup, runF, m__law_bent, startD, hw, hlen, hmod, hc, s1, s2, hli, hl16, es', s4, a5]
  · refine ⟨.tup ([.str s] ++ D1), [], ?_, tup_ok (fun z hz => ?_) (by simp only [List.length_append, List.length_cons, List.length_nil]; omega)⟩
    · simp [-List.append_assoc, -lenD_tup, runF, m__law_bent, startD, hw, hlen, hmod, hc, s1, s2, hli, hl16, es', s4, a5]
    · rcases List.mem_append.mp hz with hz | hz
      · simp at hz; subst hz; rw [okX]; exact ls
      · exact hmem z _ (d1 z hz)
end K52
namespace K52
open PySem L2 TP
set_option maxHeartbeats 8000000
theorem cut_lo' (n : Nat) (xs : List D) : cutD xs none (some (n : Int)) = xs.take n := by
  unfold cutD
  rw [HT.sIx_nat, HT.sIx_none, List.drop_zero, Nat.sub_zero]
  by_cases h : n ≤ xs.length
  · rw [Nat.min_eq_left h]
  · rw [Nat.min_eq_right (by omega), List.take_of_length_le (Nat.le_refl _), List.take_of_length_le (by omega)]
theorem cut_hi' (n : Nat) (xs : List D) : cutD xs (some (n : Int)) none = xs.drop n := by
  by_cases h : n ≤ xs.length
  · exact cut_hi n xs h
  · unfold cutD
    rw [HT.sIx_nat, HT.sIx_none, Nat.min_eq_right (by omega), List.drop_of_length_le (Nat.le_refl _), List.drop_of_length_le (by omega), List.take_nil]
theorem eqX_str (M : Store) (s : Str) (x : D) (h : okX M x) : ∃ b, eqX M x (.str s) = some b := by
  cases x with
  | ref j =>
    rw [okX] at h
    obtain ⟨kvs, h⟩ := h
    exact ⟨false, by simp [eqX, h]⟩
  | fro => rw [okX] at h <;> first | exact h.elim | (intros; contradiction)
  | kt => rw [okX] at h <;> first | exact h.elim | (intros; contradiction)
  | fn => rw [okX] at h <;> first | exact h.elim | (intros; contradiction)
  | _ => exact ⟨_, rfl⟩
theorem eqX_nil (M : Store) (x : D) (h : okX M x) : ∃ b, eqX M x (.tup []) = some b := by
  cases x with
  | ref j =>
    rw [okX] at h
    obtain ⟨kvs, h⟩ := h
    exact ⟨false, by simp [eqX, h]⟩
  | fro => rw [okX] at h <;> first | exact h.elim | (intros; contradiction)
  | kt => rw [okX] at h <;> first | exact h.elim | (intros; contradiction)
  | fn => rw [okX] at h <;> first | exact h.elim | (intros; contradiction)
  | _ => exact ⟨_, rfl⟩
theorem eqE_one (M : Store) (e : D) (ys : List D) (h : ∀ y ∈ ys, ∃ b, eqX M y e = some b) : ∃ b, eqE M (.tup ys) (.tup [e]) = some (.val (.bl b)) := by
  rcases ys with _ | ⟨y, r⟩
  · exact ⟨_, rfl⟩
  · obtain ⟨b, hb⟩ := h y List.mem_cons_self
    have hr : eqXs M r [] = some [] := by cases r <;> rfl
    have hx : eqXs M (y :: r) [e] = some [b] := by rw [eqXs, hb, hr]
    refine ⟨[b].all id && decide ((y :: r).length = [e].length), ?_⟩
    show (eqXs M (y :: r) [e]).map _ = _
    rw [hx]
    rfl
def condM : FB := dAnd (dTru (dEF (dOp1 (isiD "tuple") (dVarB 12)))) (dAnd (dBo (dOp2 eqE (dEF (dSl slD (dVarB 12) dNo (dSo (dC (.int 1))))) (dTup (dCons (dC (.str "widen")) dNil)))) (dBo (dOp2 eqE (dEF (dSl slD (dVarB 12) (dSo (dC (.int 5))) dNo)) (dTup (dCons (dTup dNil) dNil)))))
theorem cond_ok (M : Store) (y : D) (h : okX M y) (s0 s1 s2 s3 s4 s5 s6 s7 s8 s9 s10 s11 s13 s14 : Slot) : ∃ c, condM [s0, s1, s2, s3, s4, s5, s6, s7, s8, s9, s10, s11, .val y, s13, s14] M = .ok c M := by
  unfold condM
  cases y with
  | tup ys =>
    obtain ⟨h1, _⟩ := ok_tup h
    obtain ⟨b1, e1⟩ := eqE_one M (.str "widen") (ys.take 1) fun y hy => eqX_str M _ y (h1 y (List.mem_of_mem_take hy))
    obtain ⟨b2, e2⟩ := eqE_one M (.tup []) (ys.drop 5) fun y hy => eqX_nil M y (h1 y (List.mem_of_mem_drop hy))
    have c1 : slD M (.tup ys) none (some 1) = some (.val (.tup (ys.take 1))) := by
      have := cut_lo' 1 ys
      rw [slD]
      exact congrArg (fun z => some (Slot.val (D.tup z))) this
    have c2 : slD M (.tup ys) (some 5) none = some (.val (.tup (ys.drop 5))) := by
      have := cut_hi' 5 ys
      rw [slD]
      exact congrArg (fun z => some (Slot.val (D.tup z))) this
    obtain ⟨t1, ht1⟩ : ∃ z, ys.take 1 = z := ⟨_, rfl⟩
    obtain ⟨t2, ht2⟩ : ∃ z, ys.drop 5 = z := ⟨_, rfl⟩
    rw [ht1] at e1 c1
    rw [ht2] at e2 c2
    refine ⟨b1 && b2, ?_⟩
    cases b1 <;> simp [isiD, clsD, subTy, c1, c2, e1, e2]
  | ref j =>
    rw [okX] at h
    obtain ⟨kvs, h⟩ := h
    exact ⟨false, by simp [isiD, clsD, subTy, h]⟩
  | fro => rw [okX] at h <;> first | exact h.elim | (intros; contradiction)
  | kt => rw [okX] at h <;> first | exact h.elim | (intros; contradiction)
  | fn => rw [okX] at h <;> first | exact h.elim | (intros; contradiction)
  | _ => exact ⟨false, by simp [isiD, clsD, subTy]⟩
theorem repr_bl (b : Bool) : ∃ z, ∀ N, reprD N [.bl b] = some (.val (.str z)) := by
  refine ⟨(toPy (.bl b)).shown, fun N => ?_⟩
  have e : derD N (.bl b) = .bl b := der_good N rfl
  show (if shwD (derD N (.bl b)) = true then some (Slot.val (D.str (toPy (derD N (.bl b))).shown)) else none) = _
  rw [e]
  cases b <;> kernel_rfl
theorem ne_strS (N : Store) (z : Str) : neD N (.str z) (.str z) = some (.val (.bl false)) := by
  show some (Slot.val (D.bl (!decide (z = z)))) = _
  simp
theorem set_app {M X : Store} {j : Nat} {a b : MO} (h : M[j]? = some a) : ((M.set j b) ++ X)[j]? = some b := get_app (List.getElem?_set_self (List.getElem?_eq_some_iff.mp h).1)
theorem turn0 (K : Nat) {cs : D} (hcs : CellsD cs) (n : Int) (p : D) (ts : List D) (h1 : 1 ≤ ts.length) (h2 : ts.length ≤ 20) (hok : ∀ x ∈ ts, ∀ N, okX N x) {c : Int} {M : Store} (hj : M[0]? = some (.lst [.int c])) (b0 : -1 ≤ c) (b1 : c < 2 ^ 40) (s2 s3 s4 s7 s8 s10 s11 s12 s13 s14 : Slot) :
    ∃ (y : D) (M' : Store), M'[0]? = some (.lst [.int (c + 1)]) ∧
      (lp_law_0 (sem (K + 12)) [.val cs, .val (.ref 0), s2, s3, s4, .val (.lst ((namesL n).map .str)), .val p, s7, s8, .val (.tup ts), s10, s11, s12, s13, s14] M = .next [.val cs, .val (.ref 0), s2, s3, s4, .val (.lst ((namesL n).map .str)), .val p, s7, s8, .val (.tup ts), s10, s11, .val y, s13, s14] M' ∨
       lp_law_0 (sem (K + 12)) [.val cs, .val (.ref 0), s2, s3, s4, .val (.lst ((namesL n).map .str)), .val p, s7, s8, .val (.tup ts), s10, s11, s12, s13, s14] M = .cont [.val cs, .val (.ref 0), s2, s3, s4, .val (.lst ((namesL n).map .str)), .val p, s7, s8, .val (.tup ts), s10, s11, .val y, s13, s14] M') := by
  obtain ⟨m, hm, hc⟩ := cell1 (K + 11) hcs hj b0 b1
  obtain ⟨y, X, hy, ky⟩ := bent_ok (K + 10) n m hm ts h1 h2 (M.set 0 (.lst [.int (c + 1)])) hok
  have g0 : (M.set 0 (.lst [.int (c + 1)]) ++ X)[0]? = some (.lst [.int (c + 1)]) := set_app hj
  obtain ⟨N0, hN0⟩ : ∃ z, M.set 0 (.lst [.int (c + 1)]) = z := ⟨_, rfl⟩
  rw [hN0] at hc hy g0 ky
  obtain ⟨N1, hN1⟩ : ∃ z, N0 ++ X = z := ⟨_, rfl⟩
  rw [hN1] at hy g0 ky
  obtain ⟨NL, hNL⟩ : ∃ z, (namesL n).map D.str = z := ⟨_, rfl⟩
  rw [hNL] at hy ⊢
  obtain ⟨b, hb⟩ := cond_ok N1 y ky (.val cs) (.val (.ref 0)) s2 s3 s4 (.val (.lst NL)) (.val p) s7 s8 (.val (.tup ts)) s10 s11 s13 s14
  have ht := turning_ok (K + 5) y N1 ky
  obtain ⟨X1, f1⟩ := lform_ok (K + 7) y N1 ky
  obtain ⟨X2, f2⟩ := lform_ok (K + 7) y (N1 ++ X1) (okX_app X1 y ky)
  have k3 := okX_app X2 y (okX_app X1 y ky)
  obtain ⟨z, hz⟩ := repr_bl (formB y)
  have hne := fun N => ne_strS N z
  cases b with
  | true =>
    refine ⟨y, N1, g0, .inr ?_⟩
    rw [lp_law_0_eq]
    unfold condM at hb
    obtain ⟨CM, hCM⟩ : ∃ S : FB, (dAnd (dTru (dEF (dOp1 (isiD "tuple") (dVarB 12)))) (dAnd (dBo (dOp2 eqE (dEF (dSl slD (dVarB 12) dNo (dSo (dC (.int 1))))) (dTup (dCons (dC (.str "widen")) dNil)))) (dBo (dOp2 eqE (dEF (dSl slD (dVarB 12) (dSo (dC (.int 5))) dNo)) (dTup (dCons (dTup dNil) dNil)))))) = S := ⟨_, rfl⟩
    rw [hCM] at hb ⊢
    simp [hc, hy, hb, sCont]
  | false =>
    unfold condM at hb
    cases hf : formB y with
    | true =>
      rw [hf] at ht f1 f2 hz
      refine ⟨y, N1 ++ X1 ++ X2, get_app (get_app g0), .inl ?_⟩
      rw [lp_law_0_eq]
      obtain ⟨CM, hCM⟩ : ∃ S : FB, (dAnd (dTru (dEF (dOp1 (isiD "tuple") (dVarB 12)))) (dAnd (dBo (dOp2 eqE (dEF (dSl slD (dVarB 12) dNo (dSo (dC (.int 1))))) (dTup (dCons (dC (.str "widen")) dNil)))) (dBo (dOp2 eqE (dEF (dSl slD (dVarB 12) (dSo (dC (.int 5))) dNo)) (dTup (dCons (dTup dNil) dNil)))))) = S := ⟨_, rfl⟩
      rw [hCM] at hb ⊢
      obtain ⟨N2, hN2⟩ : ∃ z, N1 ++ X1 = z := ⟨_, rfl⟩
      rw [hN2] at f1 f2 ⊢
      obtain ⟨N3, hN3⟩ : ∃ z, N2 ++ X2 = z := ⟨_, rfl⟩
      rw [hN3] at f2 ⊢
      simp [hc, hy, hb, ht, f1, f2, hz, hne]
    | false =>
      rw [hf] at ht f1 f2 hz
      have hr := refused_ok (K + 3) p y (N1 ++ X1 ++ X2) k3 hf
      refine ⟨y, N1 ++ X1 ++ X2 ++ [.exc 2 .non], get_app (get_app (get_app g0)), .inl ?_⟩
      rw [lp_law_0_eq]
      obtain ⟨CM, hCM⟩ : ∃ S : FB, (dAnd (dTru (dEF (dOp1 (isiD "tuple") (dVarB 12)))) (dAnd (dBo (dOp2 eqE (dEF (dSl slD (dVarB 12) dNo (dSo (dC (.int 1))))) (dTup (dCons (dC (.str "widen")) dNil)))) (dBo (dOp2 eqE (dEF (dSl slD (dVarB 12) (dSo (dC (.int 5))) dNo)) (dTup (dCons (dTup dNil) dNil)))))) = S := ⟨_, rfl⟩
      rw [hCM] at hb ⊢
      obtain ⟨N2, hN2⟩ : ∃ z, N1 ++ X1 = z := ⟨_, rfl⟩
      rw [hN2] at f1 f2 hr ⊢
      obtain ⟨N3, hN3⟩ : ∃ z, N2 ++ X2 = z := ⟨_, rfl⟩
      rw [hN3] at f2 hr ⊢
      obtain ⟨N4, hN4⟩ : ∃ z, N3 ++ [MO.exc 2 .non] = z := ⟨_, rfl⟩
      rw [hN4] at hr ⊢
      simp [hc, hy, hb, ht, f1, f2, hz, hne, hr]
end K52
namespace K52
open PySem L2 TP
set_option maxHeartbeats 8000000
theorem parts_lc (K : Nat) (n : Int) (hn : 0 ≤ n) (s0 s1 s2 s3 s6 s7 s8 s9 s10 s11 s12 s13 s14 : Slot) : ∀ (ks : List Kd) (j : Nat) (acc : List D) (M : Store), acc.length + ks.length ≤ 100 → j + ks.length ≤ 100 →
    ∃ (xs : List D) (X : Store), (lcGo (bTup [13, 14]) dYes (el_law_0 (sem (K + 1))) [s0, s1, s2, s3, .val (.int n), .val (.lst ((namesL n).map .str)), s6, s7, s8, s9, s10, s11, s12, s13, s14] (enumF j (ks.map fun d => D.str (lkS d))) acc M = .ok (acc ++ xs) (M ++ X)) ∧
      xs.length = ks.length ∧ (∀ x ∈ xs, ∀ N, okX N x) ∧ ((ks.zip xs).all fun q => fitB q.1 q.2) = true
  | [], j, acc, M, _, _ => ⟨[], [], by rw [List.append_nil, List.append_nil]; rfl, rfl, (fun x hx => absurd hx List.not_mem_nil), rfl⟩
  | d :: ks, j, acc, M, h1, h2 => by
    rw [List.length_cons] at h1 h2
    have hq : 0 ≤ n / (3 * (j : Int) + 5) := Int.ediv_nonneg hn (by omega)
    obtain ⟨x, X1, hx, kx, fx⟩ := part_ok K n (n / (3 * (j : Int) + 5)) hq d M
    obtain ⟨xs, X2, hg, hl, hk, hf⟩ := parts_lc K n hn s0 s1 s2 s3 s6 s7 s8 s9 s10 s11 s12 s13 s14 ks (j + 1) (acc ++ [x]) (M ++ X1) (by rw [List.length_append, List.length_cons, List.length_nil]; omega) (by omega)
    refine ⟨x :: xs, X1 ++ X2, ?_, by rw [List.length_cons, List.length_cons, hl], fun y hy => ?_, ?_⟩
    · rw [List.map_cons, enumF, lcGo]
      have m1 : mulOk 3 (j : Int) = true := mulOk_l (by decide) (by decide)
      obtain ⟨jI, hjI⟩ : ∃ z : Int, (j : Int) = z := ⟨_, rfl⟩
      have hb : 0 ≤ jI ∧ jI ≤ 100 := by omega
      rw [hjI] at hx m1 ⊢
      have p1 : 0 < 3 * jI + 5 := by omega
      have p2 : 3 * jI + 5 < 1073741824 := by omega
      obtain ⟨NL, hNL⟩ : ∃ z, (namesL n).map D.str = z := ⟨_, rfl⟩
      rw [hNL] at hx hg ⊢
      obtain ⟨w, hw⟩ : ∃ z, lkS d = z := ⟨_, rfl⟩
      rw [hw] at hx ⊢
      have ev : el_law_0 (sem (K + 1)) [s0, s1, s2, s3, .val (.int n), .val (.lst NL), s6, s7, s8, s9, s10, s11, s12, .val (.int jI), .val (.str w)] M = .ok x (M ++ X1) := by
        simp [el_law_0_eq, m1, p1, p2, hx]
      have hb2 : bTup [13, 14] (.tup [.int jI, .str w]) [s0, s1, s2, s3, .val (.int n), .val (.lst NL), s6, s7, s8, s9, s10, s11, s12, s13, s14] = some [s0, s1, s2, s3, .val (.int n), .val (.lst NL), s6, s7, s8, s9, s10, s11, s12, .val (.int jI), .val (.str w)] := rfl
      rw [hb2]
      simp only [dYes, ev]
      rw [if_pos (Nat.lt_of_le_of_lt (show acc.length ≤ 100 by omega) (by decide))]
      rw [hg, List.append_assoc, List.append_assoc]
      rfl
    · rcases List.mem_cons.mp hy with rfl | hy
      · exact kx
      · exact hk y hy
    · rw [List.zip_cons_cons, List.all_cons, hf, fx]
      rfl
theorem shK_self : ∀ p ∈ shT, shK p.1 = some p.2 ∧ p.1.length ≤ 1000 := by decide +kernel
def wordL : List Str := shT.map (·.1)
theorem word_at (k : Int) : ∃ (w : Str) (p : List Kd × Str), atI (wordL.map D.str) (k % 11) = some (.str w) ∧ shK w = some p ∧ w.length ≤ 1000 ∧ p.1.length ≤ 5 := by
  obtain ⟨w, hw, e⟩ := atI_mem (xs := wordL) (i := k % 11) (by omega) (by show k % 11 < (11 : Int); omega)
  unfold wordL at hw
  obtain ⟨q, hq, rfl⟩ := List.mem_map.mp hw
  obtain ⟨h1, h2⟩ := shK_self q hq
  exact ⟨q.1, q.2, by rw [atI_map, e]; rfl, h1, h2, (splits q hq).2.1⟩
theorem four (K : Nat) {cs : D} (hcs : CellsD cs) (n : Int) (p : D) (ts : List D) (h1 : 1 ≤ ts.length) (h2 : ts.length ≤ 20) (hok : ∀ x ∈ ts, ∀ N, okX N x) {c : Int} {M : Store} (hj : M[0]? = some (.lst [.int c])) (b0 : -1 ≤ c) (b1 : c + 10 < 2 ^ 40) (s2 s3 s4 s7 s8 s10 s11 s12 s13 s14 : Slot) :
    ∃ (t10 t12 : Slot) (M' : Store), M'[0]? = some (.lst [.int (c + 4)]) ∧
      forGo (bName 10) (lp_law_0 (sem (K + 12))) (rngL 0 4) [.val cs, .val (.ref 0), s2, s3, s4, .val (.lst ((namesL n).map .str)), .val p, s7, s8, .val (.tup ts), s10, s11, s12, s13, s14] M = .next [.val cs, .val (.ref 0), s2, s3, s4, .val (.lst ((namesL n).map .str)), .val p, s7, s8, .val (.tup ts), t10, s11, t12, s13, s14] M' := by
  have h := forGo_inv (b := bName 10) (body := lp_law_0 (sem (K + 12))) (fun i ρ N => ∃ t10 t12 : Slot, ρ = [.val cs, .val (.ref 0), s2, s3, s4, .val (.lst ((namesL n).map .str)), .val p, s7, s8, .val (.tup ts), t10, s11, t12, s13, s14] ∧ N[0]? = some (.lst [.int (c + i)])) (rngL 0 4)
    (fun i d ρ N hd ⟨t10, t12, e1, hg⟩ => by
      subst e1
      obtain ⟨hi, rfl⟩ := rngL_get hd
      obtain ⟨y, M', g, hs⟩ := turn0 K hcs n p ts h1 h2 hok hg (by omega) (by omega) s2 s3 s4 s7 s8 (.val (.int (0 + (i : Int)))) s11 t12 s13 s14
      have g' : M'[0]? = some (.lst [.int (c + ((i + 1 : Nat) : Int))]) := by rw [g]; congr 4; push_cast; omega
      refine ⟨_, rfl, ?_⟩
      rcases hs with hs | hs
      · exact .inl ⟨_, _, hs, _, _, rfl, g'⟩
      · exact .inr ⟨_, _, hs, _, _, rfl, g'⟩) 4 0 _ M (by rw [rngL_len]) ⟨s10, s12, rfl, by rw [hj]; congr 4; simp⟩
  obtain ⟨ρ', M', hf, t10, t12, e1, hg⟩ := h
  rw [List.drop_zero] at hf
  subst e1
  refine ⟨t10, t12, M', ?_, hf⟩
  rw [hg, rngL_len]
  rfl
end K52
namespace K52
open PySem L2 TP
set_option maxHeartbeats 8000000
theorem turn1 (K : Nat) {cs : D} (hcs : CellsD cs) (k : Int) {c : Int} {M : Store} (hj : M[0]? = some (.lst [.int c])) (b0 : -1 ≤ c) (b1 : c + 20 < 2 ^ 40) (s4 s5 s6 s7 s8 s9 s10 s11 s12 : Slot) :
    ∃ (t4 t5 t6 t7 t8 t9 t10 t11 t12 : Slot) (M' : Store), lp_law_1 (sem (K + 12)) [.val cs, .val (.ref 0), .val (.lst (wordL.map .str)), .val (.int k), s4, s5, s6, s7, s8, s9, s10, s11, s12, .un, .un] M = .next [.val cs, .val (.ref 0), .val (.lst (wordL.map .str)), .val (.int k), t4, t5, t6, t7, t8, t9, t10, t11, t12, .un, .un] M' ∧ M'[0]? = some (.lst [.int (c + 5)]) := by
  obtain ⟨n, hn, hc⟩ := cell1 (K + 11) hcs hj b0 (by omega)
  have g0 : (M.set 0 (.lst [.int (c + 1)]))[0]? = some (.lst [.int (c + 1)]) := List.getElem?_set_self (List.getElem?_eq_some_iff.mp hj).1
  obtain ⟨N0, hN0⟩ : ∃ z, M.set 0 (.lst [.int (c + 1)]) = z := ⟨_, rfl⟩
  rw [hN0] at hc g0
  have hnm := fun N => names_ok (K + 11) n N
  obtain ⟨a, ha, ea⟩ := name_at n 0 (by omega) (by omega)
  obtain ⟨b, hb, eb⟩ := name_at n 1 (by omega) (by omega)
  obtain ⟨d, hd, ed⟩ := name_at n 2 (by omega) (by omega)
  obtain ⟨w, p, hw, hs, lw, lp⟩ := word_at k
  obtain ⟨X1, hk⟩ := kinds_ok (K + 11) w N0
  rw [hs] at hk
  simp only at hk
  obtain ⟨PG, hPG⟩ : ∃ z : D, D.tup [.tup [.str a, .tup [.tup [.str b, .tup [.str d], .tup [.str "use", .str d]]]]] = z := ⟨_, rfl⟩
  obtain ⟨xs, X2, hl, xl, xk, xf⟩ := parts_lc (K + 11) n hn (.val cs) (.val (.ref 0)) (.val (.lst (wordL.map .str))) (.val (.int k)) (.val PG) (.val (.str w)) s8 s9 s10 s11 s12 .un .un p.1 0 [] (N0 ++ X1) (by simp; omega) (by omega)
  rw [List.nil_append] at hl
  have hen : enumL (p.1.map fun d => D.str (lkS d)) = enumF 0 (p.1.map fun d => D.str (lkS d)) := enumL_eq _
  have ha1 := fun N => addT N [.str w] xs (by simp; omega)
  have htu : ∀ N, tupleD N [.lst xs] = some (.val (.tup xs)) := fun _ => rfl
  have hts : ∀ x ∈ [D.str w] ++ xs, ∀ N, okX N x := fun x hx N => by
    rcases List.mem_append.mp hx with hx | hx
    · simp at hx; subst hx; rw [okX]; exact lw
    · exact xk x hx N
  have hfb : formB (.tup ([.str w] ++ xs)) = true := by
    show (match shK w with
      | some p => decide (xs.length = p.1.length) && (p.1.zip xs).all fun q => fitB q.1 q.2
      | none => false) = true
    rw [hs]
    simp only
    rw [decide_eq_true xl, xf]
    rfl
  have hlen : ([D.str w] ++ xs).length ≤ 20 := by simp; omega
  have g2 : (N0 ++ X1 ++ X2)[0]? = some (.lst [.int (c + 1)]) := get_app (get_app g0)
  have ht := turning_ok (K + 5) (.tup ([.str w] ++ xs)) (N0 ++ X1 ++ X2) (tup_ok (fun x hx => hts x hx _) (by omega))
  rw [hfb] at ht
  have hfour := fun (s7 s8 s10 s11 s12 : Slot) => four K hcs n PG ([.str w] ++ xs) (by simp) hlen hts g2 (by omega) (by omega) (.val (.lst (wordL.map .str))) (.val (.int k)) (.val (.int n)) s7 s8 s10 s11 s12 .un .un
  obtain ⟨TS, hTS⟩ : ∃ z, [D.str w] ++ xs = z := ⟨_, rfl⟩
  rw [hTS] at ha1 ht hfour
  obtain ⟨N2, hN2⟩ : ∃ z, N0 ++ X1 = z := ⟨_, rfl⟩
  rw [hN2] at hk hl ht hfour g2
  obtain ⟨N3, hN3⟩ : ∃ z, N2 ++ X2 = z := ⟨_, rfl⟩
  rw [hN3] at hl ht hfour g2
  obtain ⟨t10, t12, M4, g4, hf⟩ := hfour (.val (.str w)) (.own xs) s10 s11 s12
  rw [show c + 1 + 4 = c + 5 by omega] at g4
  obtain ⟨x, hx, kx⟩ := odd_ok (K + 11) n (n / 7) M4
  obtain ⟨N5, hN5⟩ : ∃ z, M4 ++ [MO.dK []] = z := ⟨_, rfl⟩
  have g5 : N5[0]? = some (.lst [.int (c + 5)]) := by rw [← hN5]; exact get_app g4
  rw [hN5] at hx kx
  obtain ⟨X6, f6⟩ := lform_ok (K + 7) x N5 kx
  have k6 := okX_app X6 x kx
  have g6 : (N5 ++ X6)[0]? = some (.lst [.int (c + 5)]) := get_app g5
  have ht6 := turning_ok (K + 5) x (N5 ++ X6) k6
  obtain ⟨N6, hN6⟩ : ∃ z, N5 ++ X6 = z := ⟨_, rfl⟩
  rw [hN6] at f6 k6 g6 ht6
  have hrng : rng1D [.int 4] = some (rngL 0 4) := rfl
  obtain ⟨KL, hKL⟩ : ∃ z, (p.1.map fun d => D.str (lkS d)) = z := ⟨_, rfl⟩
  rw [hKL] at hk hen hl
  obtain ⟨EL, hEL⟩ : ∃ z, enumF 0 KL = z := ⟨_, rfl⟩
  rw [hEL] at hen hl
  obtain ⟨NL, hNL⟩ : ∃ z, (namesL n).map D.str = z := ⟨_, rfl⟩
  rw [hNL] at hnm ea eb ed hl hf hx
  obtain ⟨WL, hWL⟩ : ∃ z, wordL.map D.str = z := ⟨_, rfl⟩
  rw [hWL] at hw hl hf ⊢
  obtain ⟨RL, hRL⟩ : ∃ z, rngL 0 4 = z := ⟨_, rfl⟩
  rw [hRL] at hrng hf
  have i1 : ∀ N, isntD N (.bl true) (.bl true) = some (.val (.bl false)) := fun _ => rfl
  have i0 : ∀ N, isntD N (.bl false) (.bl false) = some (.val (.bl false)) := fun _ => rfl
  cases hfx : formB x with
  | true =>
    rw [hfx] at f6
    refine ⟨.val (.int n), .val (.lst NL), .val PG, .val (.str w), .own xs, .val (.tup TS), t10, .val x, t12, N6, ?_, g6⟩
    rw [lp_law_1_eq]
    simp [-rng1D_int, hc, hnm, ea, eb, ed, hPG, hw, hk, hen, wipeD, hl, htu, ha1, ht, i1, hrng, hf, hx, f6]
  | false =>
    rw [hfx] at f6 ht6
    have hr := refused_ok (K + 3) PG x N6 k6 hfx
    refine ⟨.val (.int n), .val (.lst NL), .val PG, .val (.str w), .own xs, .val (.tup TS), t10, .val x, t12, N6 ++ [.exc 2 .non], ?_, get_app g6⟩
    rw [lp_law_1_eq]
    simp [-rng1D_int, hc, hnm, ea, eb, ed, hPG, hw, hk, hen, wipeD, hl, htu, ha1, ht, i1, i0, hrng, hf, hx, f6, ht6, hr]
end K52
namespace K52
open PySem L2 TP
set_option maxHeartbeats 8000000
def farD : Nat → D
  | 0 => .tup []
  | k + 1 => .tup [farD k]
theorem far_ok (M : Store) : ∀ k, okX M (farD k)
  | 0 => by rw [farD, okX]; exact ⟨by rw [okXL]; trivial, by decide⟩
  | k + 1 => by
    rw [farD, okX, okXL, okXL]
    exact ⟨⟨far_ok M k, trivial⟩, show 1 ≤ 1000 by decide⟩
theorem far_380 : farD 380 = .tup [.tup [farD 378]] := rfl
def farL (F : D) : List D := [F, .tup [.str "equal", F, F], .tup [.str "free", .tup [.str "let", F], .str "y"], .tup [.str "order", .str "m", .str "f", F], .tup [.str "widen", .str "m", .str "f", .str "g", .str "y", F]]
theorem farL_form (H : D) : ∀ x ∈ farL (.tup [.tup [H]]), formB x = false := fun x hx => by
  simp only [farL, List.mem_cons, List.not_mem_nil, or_false] at hx
  rcases hx with rfl | rfl | rfl | rfl | rfl
  · rfl
  · kernel_rfl
  · kernel_rfl
  · kernel_rfl
  · kernel_rfl
theorem farL_ok (M : Store) (F : D) (h : okX M F) : ∀ x ∈ farL F, okX M x := fun x hx => by
  have s : ∀ z : Str, z.length ≤ 1000 → okX M (.str z) := fun z hz => by rw [okX]; exact hz
  simp only [farL, List.mem_cons, List.not_mem_nil, or_false] at hx
  rcases hx with rfl | rfl | rfl | rfl | rfl
  · exact h
  · refine tup_ok (fun y hy => ?_) (by simp)
    simp only [List.mem_cons, List.not_mem_nil, or_false] at hy
    rcases hy with rfl | rfl | rfl
    · exact s _ (by decide)
    · exact h
    · exact h
  · refine tup_ok (fun y hy => ?_) (by simp)
    simp only [List.mem_cons, List.not_mem_nil, or_false] at hy
    rcases hy with rfl | rfl | rfl
    · exact s _ (by decide)
    · refine tup_ok (fun y hy => ?_) (by simp)
      simp only [List.mem_cons, List.not_mem_nil, or_false] at hy
      rcases hy with rfl | rfl
      · exact s _ (by decide)
      · exact h
    · exact s _ (by decide)
  · refine tup_ok (fun y hy => ?_) (by simp)
    simp only [List.mem_cons, List.not_mem_nil, or_false] at hy
    rcases hy with rfl | rfl | rfl | rfl
    · exact s _ (by decide)
    · exact s _ (by decide)
    · exact s _ (by decide)
    · exact h
  · refine tup_ok (fun y hy => ?_) (by simp)
    simp only [List.mem_cons, List.not_mem_nil, or_false] at hy
    rcases hy with rfl | rfl | rfl | rfl | rfl | rfl
    · exact s _ (by decide)
    · exact s _ (by decide)
    · exact s _ (by decide)
    · exact s _ (by decide)
    · exact s _ (by decide)
    · exact h
theorem far_lc (K : Nat) (p : D) (s0 s1 s3 s4 : Slot) : ∀ (xs : List D) (M : Store), (∀ x ∈ xs, okX M x ∧ formB x = false) →
    ∃ X, lcGo (bName 4) (cd__law_far_right_0 (sem (K + 12))) (el__law_far_right_0 (sem (K + 12))) [s0, s1, .val p, s3, s4] xs [] M = .ok [] (M ++ X)
  | [], M, _ => ⟨[], by rw [List.append_nil]; rfl⟩
  | x :: xs, M, h => by
    obtain ⟨kx, fx⟩ := h x List.mem_cons_self
    obtain ⟨X, hX⟩ := far_lc K p s0 s1 s3 s4 xs (M ++ [.exc 2 .non]) fun y hy => ⟨okX_app _ y (h y (List.mem_cons_of_mem _ hy)).1, (h y (List.mem_cons_of_mem _ hy)).2⟩
    have ht := turning_ok (K + 5) x M kx
    rw [fx] at ht
    have hr := refused_ok (K + 3) p x M kx fx
    have i0 : ∀ N, isntD N (.bl false) (.bl false) = some (.val (.bl false)) := fun _ => rfl
    refine ⟨[.exc 2 .non] ++ X, ?_⟩
    rw [lcGo]
    have hb : bName 4 x [s0, s1, .val p, s3, s4] = some [s0, s1, .val p, s3, .val x] := rfl
    rw [hb]
    obtain ⟨N1, hN1⟩ : ∃ z, M ++ [MO.exc 2 .non] = z := ⟨_, rfl⟩
    rw [hN1] at hr hX
    have ev : cd__law_far_right_0 (sem (K + 12)) [s0, s1, .val p, s3, .val x] M = .ok false N1 := by
      simp [cd__law_far_right_0_eq, ht, i0, hr]
    simp only [ev]
    rw [hX, ← hN1, List.append_assoc]
theorem far_for (Φ : Nat → Fn) (M : Store) : ∃ s1, forGo (bName 1) (lp__law_far_right_0 Φ) (rngL 0 380) [.val (.tup []), .un, .un, .un, .un] M = .next [.val (farD 380), s1, .un, .un, .un] M := by
  obtain ⟨ρ', M', hf, s1, e1, e2⟩ := forGo_all (b := bName 1) (body := lp__law_far_right_0 Φ) (fun i ρ N => ∃ s1 : Slot, ρ = [.val (farD i), s1, .un, .un, .un] ∧ N = M) (rngL 0 380) (ρ := [.val (.tup []), .un, .un, .un, .un]) (M := M)
    ⟨.un, rfl, rfl⟩ (fun i d ρ N hd ⟨s1, e1, e2⟩ => by
      subst e1; subst e2
      exact ⟨_, rfl, [.val (farD (i + 1)), .val d, .un, .un, .un], N, by simp [lp__law_far_right_0_eq, farD], .val d, rfl, rfl⟩)
  subst e1
  subst e2
  rw [rngL_len] at hf
  exact ⟨s1, hf⟩
theorem far_right_ok (K : Nat) (M : Store) : ∃ X, sem (K + 13) f__law_far_right [] M = .ok (.val (.bl true)) (M ++ X) := by
  obtain ⟨s1, hf⟩ := far_for (sem (K + 12)) M
  obtain ⟨PG, hPG⟩ : ∃ z : D, D.tup [.tup [.str "m", .tup [.tup [.str "f", .tup [.str "x"], .tup [.str "use", .str "x"]]]]] = z := ⟨_, rfl⟩
  have hko := far_ok M 380
  have hfm := farL_form (farD 378)
  rw [← far_380] at hfm
  obtain ⟨F, hF⟩ : ∃ z, farD 380 = z := ⟨_, rfl⟩
  rw [hF] at hf hko hfm
  obtain ⟨X, hX⟩ := far_lc K PG (.val F) s1 (.val (.lst (farL F))) .un (farL F) M fun x hx => ⟨farL_ok M F hko x hx, hfm x hx⟩
  refine ⟨X, ?_⟩
  obtain ⟨N, hN⟩ : ∃ z, M ++ X = z := ⟨_, rfl⟩
  rw [hN] at hX ⊢
  have hr : rng1D [.int 380] = some (rngL 0 380) := rfl
  obtain ⟨R3, hR3⟩ : ∃ z, rngL 0 380 = z := ⟨_, rfl⟩
  rw [hR3] at hr hf
  have hq : ∀ N, eqD N (.lst []) (.lst []) = some (.val (.bl true)) := fun N => rfl
  rw [e__law_far_right]
  unfold runF m__law_far_right
  unfold farL at hX
  simp [-rng1D_int, startD, hr, hf, hPG, hX, hq, wipeD, itemsD]
theorem law_true (ns : List Int) (hns : ns.length ≤ 63) : ∃ M, sem 110 f_law [.fro (ns.map .int)] [] = .ok (.val (.bl true)) M := by
  have hcs : CellsD (.fro (ns.map D.int)) := ⟨ns, hns, .inl rfl⟩
  obtain ⟨cnt, hcnt, hc2, hc32⟩ : ∃ k : Nat, (k : Int) = 11 + (if (ns.length : Int) < 50 then (ns.length : Int) else 50) ∧ 11 ≤ k ∧ k ≤ 61 := by
    refine ⟨(11 + (if (ns.length : Int) < 50 then (ns.length : Int) else 50)).toNat, ?_, ?_, ?_⟩ <;> split <;> omega
  obtain ⟨ρ', M', hf, c, s3, s4, s5, s6, s7, s8, s9, s10, s11, s12, e1, hg, b0, b1⟩ := forGo_all (b := bName 3) (body := lp_law_1 (sem 109))
    (fun i ρ N => ∃ (c : Int) (s3 s4 s5 s6 s7 s8 s9 s10 s11 s12 : Slot), ρ = [.val (.fro (ns.map .int)), .val (.ref 0), .val (.lst (wordL.map .str)), s3, s4, s5, s6, s7, s8, s9, s10, s11, s12, .un, .un] ∧ N[0]? = some (.lst [.int c]) ∧ 0 ≤ c ∧ c ≤ 5 * i)
    (rngL 0 cnt) (ρ := [.val (.fro (ns.map .int)), .val (.ref 0), .val (.lst (wordL.map .str)), .un, .un, .un, .un, .un, .un, .un, .un, .un, .un, .un, .un]) (M := [.lst [.int 0]])
    ⟨0, .un, .un, .un, .un, .un, .un, .un, .un, .un, .un, rfl, rfl, by omega, by omega⟩
    (fun i d ρ N hd ⟨c, s3, s4, s5, s6, s7, s8, s9, s10, s11, s12, e1, hg, b0, b1⟩ => by
      subst e1
      obtain ⟨hi, rfl⟩ := rngL_get hd
      obtain ⟨t4, t5, t6, t7, t8, t9, t10, t11, t12, M', hs, hg'⟩ := turn1 97 hcs (0 + (i : Int)) hg (by omega) (by omega) s4 s5 s6 s7 s8 s9 s10 s11 s12
      exact ⟨_, rfl, _, _, hs, c + 5, _, t4, t5, t6, t7, t8, t9, t10, t11, t12, rfl, hg', by omega, by push_cast; omega⟩)
  subst e1
  obtain ⟨X, hX⟩ := far_right_ok 96 M'
  refine ⟨M' ++ X, ?_⟩
  have hX' : sem 109 f__law_far_right [] M' = .ok (.val (.bl true)) (M' ++ X) := hX
  obtain ⟨N, hN⟩ : ∃ z, M' ++ X = z := ⟨_, rfl⟩
  rw [hN] at hX' ⊢
  have hlen : ∀ N, lenD N [.fro (ns.map .int)] = some (.val (.int (ns.length : Int))) := fun N => by show some (Slot.val (D.int (List.map D.int ns).length)) = _; rw [List.length_map]
  obtain ⟨L, hL⟩ : ∃ z : Int, (ns.length : Int) = z := ⟨_, rfl⟩
  rw [hL] at hcnt hlen
  have hmin : ∀ N, min2D N [.int 50, .int L] = some (.val (.int (if L < 50 then L else 50))) := fun N => rfl
  obtain ⟨w, hw⟩ : ∃ z : Int, (if L < 50 then L else 50) = z := ⟨_, rfl⟩
  rw [hw] at hcnt hmin
  have hrng : rng1D [.int (11 + w)] = some (rngL 0 cnt) := by rw [← hcnt, rng1_ok (by omega) (by omega), Int.toNat_natCast]
  have hword : ([.str "free", .str "equal", .str "gather", .str "carve", .str "melt", .str "fold", .str "folds", .str "tidy", .str "bring", .str "order", .str "widen"] : List D) = wordL.map .str := rfl
  obtain ⟨CL, hCL⟩ : ∃ y, ns.map D.int = y := ⟨_, rfl⟩
  rw [hCL] at hlen hf ⊢
  obtain ⟨WL, hWL⟩ : ∃ y, wordL.map D.str = y := ⟨_, rfl⟩
  have hwl : WL.length ≤ 16777216 := by rw [← hWL, List.length_map]; decide
  rw [hWL] at hword hf
  obtain ⟨one, hone⟩ : ∃ o : Store, [MO.lst [.int 0]] = o := ⟨_, rfl⟩
  rw [hone] at hf
  rw [e_law]
  unfold runF m_law
  simp [-rng1D_int, -lenD_fro, startD, hword, hwl, hone, hlen, hmin, hrng, hf, hX']
end K52
open PySem PySem.W PyProof.Rows
set_option maxRecDepth 100000 in
set_option maxHeartbeats 0 in
theorem PySem.Challenge.cw_turnpaper_k52_forms_of_turnings_holds : PySem.Challenge.rw_turnpaper_k52_forms_of_turnings.Holds := by
  w_on; o_law
  refine holds_open (q := K52Hd.viewP) (loose := K52Hd.looseL) (Xt := K52Hd.xtF) (XP := XL K52Hd.viewP []) (Yf := Hook.obs (kHook K52Hd.pre.heap_1 K52Hd.asL K52Hd.as_ok)) (Ya := Hook.val (kHook K52Hd.pre.heap_1 K52Hd.asL K52Hd.as_ok)) (YP := Hook.says (kHook K52Hd.pre.heap_1 K52Hd.asL K52Hd.as_ok)) (N := 100700) K52Hd.left (Hook.of (kHook K52Hd.pre.heap_1 K52Hd.asL K52Hd.as_ok)) (Hook.keeps (kHook K52Hd.pre.heap_1 K52Hd.asL K52Hd.as_ok)) (fun s e => xl_of s (Bool.and_eq_true_iff.mp e).1) XL.keeps (by rfl) (by rfl) (by rfl) (fun s e => recFacts_of (Bool.and_eq_true_iff.mp e).2) (by rfl) (by assumption) K52Hd.okP K52Hd.bareP ?hw ?hc
  (case hw => w_witness2)
  k_fill
  refine TP.g_walk (l := PySem.Challenge.rw_turnpaper_k52_forms_of_turnings) (n := 63) (k := K52.lv 110) (x := "_law_script") (CX := fun _ => L2.CX0) (sp := fun w => TP.spD _ TP.W0 1 (K52.sem 110 K52.f_law)) rfl (by decide) rfl ⟨rfl, by decide, by decide⟩ (fun w h Y => PySem.W.kIn_of Y) ?F (fun _ H a ns hl hO hS => TP.law_sp hS (K52.law_true ns hl)) (fun _ _ _ _ _ h => h)
  case F =>
    intro w mg fa h KX G hmg
    refine' K52.law_fin 110 KX G hmg ?ca_NoTurn ?xk_NoTurn ?xs_NoTurn ?xt_NoTurn ?v_xq_NoTurn ?ca_TurnError ?ca_TooMany ?ca_Shade ?ca_NoStep ?ca_Hangs ?ca_BadText ?ca_BadProgram ?ca_BadPaper ?v_exm_0_NoTurn ?h0_NoTurn ?h1_NoTurn ?h2_NoTurn ?h3_NoTurn ?h4_NoTurn ?h5_NoTurn ?h6_NoTurn ?h7_NoTurn ?v_ve_NoTurn ?v_kit_NoTurn_NoTurn ?v_kit_NoTurn_BadPaper ?v_kit_NoTurn_BadProgram ?v_kit_NoTurn_BadText ?v_kit_NoTurn_Hangs ?v_kit_NoTurn_NoStep ?v_kit_NoTurn_Shade ?v_kit_NoTurn_TooMany ?a0 ?l0 ?c0 ?k0 ?a1 ?l1 ?c1 ?k1 ?a2 ?l2 ?c2 ?k2 ?a3 ?l3 ?c3 ?k3 ?a4 ?l4 ?c4 ?k4 ?a5 ?l5 ?c5 ?k5 ?a6 ?l6 ?c6 ?k6 ?a7 ?l7 ?c7 ?k7 ?a8 ?l8 ?c8 ?k8 ?a9 ?l9 ?c9 ?k9 ?a10 ?l10 ?c10 ?k10 ?a11 ?l11 ?c11 ?k11 ?a12 ?l12 ?c12 ?k12 ?a13 ?l13 ?c13 ?k13 ?a14 ?l14 ?c14 ?k14 ?a15 ?l15 ?c15 ?k15 ?a16 ?l16 ?c16 ?k16 ?a17 ?l17 ?c17 ?k17 ?a18 ?l18 ?c18 ?k18 ?a19 ?l19 ?c19 ?k19 ?a20 ?l20 ?c20 ?k20 ?a21 ?l21 ?c21 ?k21 ?a22 ?l22 ?c22 ?k22 ?a23 ?l23 ?c23 ?k23 ?a24 ?l24 ?c24 ?k24 ?a25 ?l25 ?c25 ?k25 ?z_len ?z_isinstance ?z_str ?z_all ?z_bool ?z_int ?z_tuple ?z_zip ?z_range ?z_list ?z_ValueError ?z_min ?z_enumerate ?z_repr ?g_MOST_NAME ?g_LETTERS ?g_WORDS ?u_WORDS ?v_WORDS ?g_SHAPES ?u_SHAPES ?v_SHAPES ?y_SHAPES ?v_f_SHAPES ?v_s_SHAPES
    (case ca_NoTurn => k_is)
    (case xk_NoTurn => k_is)
    (case xs_NoTurn => k_is)
    (case xt_NoTurn => k_is)
    (case v_xq_NoTurn => first | rfl | kernel_rfl)
    (case ca_TurnError => k_is)
    (case ca_TooMany => k_is)
    (case ca_Shade => k_is)
    (case ca_NoStep => k_is)
    (case ca_Hangs => k_is)
    (case ca_BadText => k_is)
    (case ca_BadProgram => k_is)
    (case ca_BadPaper => k_is)
    (case v_exm_0_NoTurn => first | rfl | kernel_rfl)
    (case h0_NoTurn => k_is)
    (case h1_NoTurn => k_is)
    (case h2_NoTurn => k_is)
    (case h3_NoTurn => k_is)
    (case h4_NoTurn => k_is)
    (case h5_NoTurn => k_is)
    (case h6_NoTurn => k_is)
    (case h7_NoTurn => k_is)
    (case v_ve_NoTurn => first | rfl | kernel_rfl)
    (case v_kit_NoTurn_NoTurn => first | rfl | kernel_rfl)
    (case v_kit_NoTurn_BadPaper => first | rfl | kernel_rfl)
    (case v_kit_NoTurn_BadProgram => first | rfl | kernel_rfl)
    (case v_kit_NoTurn_BadText => first | rfl | kernel_rfl)
    (case v_kit_NoTurn_Hangs => first | rfl | kernel_rfl)
    (case v_kit_NoTurn_NoStep => first | rfl | kernel_rfl)
    (case v_kit_NoTurn_Shade => first | rfl | kernel_rfl)
    (case v_kit_NoTurn_TooMany => first | rfl | kernel_rfl)
    (case a0 => k_is)
    (case l0 => k_is)
    (case c0 => k_is)
    (case k0 => k_is)
    (case a1 => k_is)
    (case l1 => k_is)
    (case c1 => k_is)
    (case k1 => k_is)
    (case a2 => k_is)
    (case l2 => k_is)
    (case c2 => k_is)
    (case k2 => k_is)
    (case a3 => k_is)
    (case l3 => k_is)
    (case c3 => k_is)
    (case k3 => k_is)
    (case a4 => k_is)
    (case l4 => k_is)
    (case c4 => k_is)
    (case k4 => k_is)
    (case a5 => k_is)
    (case l5 => k_is)
    (case c5 => k_is)
    (case k5 => k_is)
    (case a6 => k_is)
    (case l6 => k_is)
    (case c6 => k_is)
    (case k6 => k_is)
    (case a7 => k_is)
    (case l7 => k_is)
    (case c7 => k_is)
    (case k7 => k_is)
    (case a8 => k_is)
    (case l8 => k_is)
    (case c8 => k_is)
    (case k8 => k_is)
    (case a9 => k_is)
    (case l9 => k_is)
    (case c9 => k_is)
    (case k9 => k_is)
    (case a10 => k_is)
    (case l10 => k_is)
    (case c10 => k_is)
    (case k10 => k_is)
    (case a11 => k_is)
    (case l11 => k_is)
    (case c11 => k_is)
    (case k11 => k_is)
    (case a12 => k_is)
    (case l12 => k_is)
    (case c12 => k_is)
    (case k12 => k_is)
    (case a13 => k_is)
    (case l13 => k_is)
    (case c13 => k_is)
    (case k13 => k_is)
    (case a14 => k_is)
    (case l14 => k_is)
    (case c14 => k_is)
    (case k14 => k_is)
    (case a15 => k_is)
    (case l15 => k_is)
    (case c15 => k_is)
    (case k15 => k_is)
    (case a16 => k_is)
    (case l16 => k_is)
    (case c16 => k_is)
    (case k16 => k_is)
    (case a17 => k_is)
    (case l17 => k_is)
    (case c17 => k_is)
    (case k17 => k_is)
    (case a18 => k_is)
    (case l18 => k_is)
    (case c18 => k_is)
    (case k18 => k_is)
    (case a19 => k_is)
    (case l19 => k_is)
    (case c19 => k_is)
    (case k19 => k_is)
    (case a20 => k_is)
    (case l20 => k_is)
    (case c20 => k_is)
    (case k20 => k_is)
    (case a21 => k_is)
    (case l21 => k_is)
    (case c21 => k_is)
    (case k21 => k_is)
    (case a22 => k_is)
    (case l22 => k_is)
    (case c22 => k_is)
    (case k22 => k_is)
    (case a23 => k_is)
    (case l23 => k_is)
    (case c23 => k_is)
    (case k23 => k_is)
    (case a24 => k_is)
    (case l24 => k_is)
    (case c24 => k_is)
    (case k24 => k_is)
    (case a25 => k_is)
    (case l25 => k_is)
    (case c25 => k_is)
    (case k25 => k_is)
    (case z_len => k_is)
    (case z_isinstance => k_is)
    (case z_str => k_is)
    (case z_all => k_is)
    (case z_bool => k_is)
    (case z_int => k_is)
    (case z_tuple => k_is)
    (case z_zip => k_is)
    (case z_range => k_is)
    (case z_list => k_is)
    (case z_ValueError => k_is)
    (case z_min => k_is)
    (case z_enumerate => k_is)
    (case z_repr => k_is)
    (case g_MOST_NAME => k_is)
    (case g_LETTERS => k_is)
    (case g_WORDS => k_is)
    (case u_WORDS => k_is)
    (case v_WORDS => first | rfl | kernel_rfl)
    (case g_SHAPES => k_is)
    (case u_SHAPES => k_is)
    (case v_SHAPES => first | rfl | kernel_rfl)
    (case y_SHAPES => repeat (first | exact True.intro | refine ⟨⟨_, _, rfl, rfl⟩, ?_⟩))
    (case v_f_SHAPES => first | rfl | kernel_rfl)
    (case v_s_SHAPES => first | rfl | kernel_rfl)
