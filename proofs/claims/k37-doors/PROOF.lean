import PyProof.Rows.All
import Wide.All
import OpenK.AllK
import Wide.FinOn
import HandS.ForMost
import HandS.ForExc
import HandS.Evl
import HandS.Flow
import HandS.Wide
import HandS.CallSlots
import HandS.TupAny
import HandS.Zip
import HandS.TupMul
import HandS.Deep
import HandS.Style
import HandS.IsInst
import HandS.RaiseMore
import KE.GoesEnum
import KE.GoesMore
import KE.GoesZip
import HandS.TryMany
import HandS.ExcIs
import HandS.Defaults
import HandS.Head0
import HandS.Head1
import HandS.Head2
import HandS.HeadEnd
import HandS.HeadHook1
import HandS.HeadHook2
import HandS.HeadHook3
import HandS.HeadHook4
import HandS.List
import KE.KRevSl
import HandS.SetFor
import HandS.Strs
import HandS.Replace
import HandS.Text
import HandS.NoneIn
import HandS.ListItems
import KE.KDictZip
import HandS.Conv
import KE.KTryMore
import HandS.TupSets
import KE.SortData
import KE.DataMinMax
import HandS.IterVal
import PySem.Challenge.RW_unsuretables_k37_doors
set_option Elab.async false
set_option linter.all false
set_option maxRecDepth 100000
set_option maxHeartbeats 4000000
namespace U
open PySem PySem.Spec PyProof.Rows L2
abbrev D := PyData
def gmN : List Str := (["is_choice", "is_side_choice", "corner", "determinant", "determinant_span", "is_sure", "singular_choice", "is_full", "lost_unknowns", "solves_some", "solves_each_table", "solves_each_side"] : List Str) ++ (["solves_all", "choice_for", "can_solve", "a_solution", "papers", "are_papers", "each_has_solution", "barring_choice", "each_has_upward", "barring_upward", "can_solve_upward", "an_upward_solution"] : List Str) ++ (["upward_paper", "is_upward_paper", "keeps_some", "keeps_all", "can_keep", "keeping", "can_keep_each", "keeping_all", "breaking_choice", "unknown_span", "reaching", "sure_signs"] : List Str) ++ (["inverse_span", "are_within", "outside", "plus", "product", "widened", "is_inside", "overlap", "open_cells", "fixed", "fewest_fixed", "format_table"] : List Str) ++ (["format_side", "parse_table", "parse_side", "end_choices_of", "naive_sure", "whole_solutions"] : List Str)
def gmT : List Addr := ([542, 547, 571, 718, 728, 899, 920, 662, 669, 599, 606, 613, 620, 641, 1006, 1013, 1025, 1037, 784, 806, 791, 811, 1163, 1170, 1177, 1184, 818, 825, 837, 844, 861, 868, 873, 1072, 1079, 1086, 1098, 1215, 1222, 681] : List Addr) ++ ([691, 696, 701, 706, 927, 963, 975, 1122, 1129, 1149, 1156, 982, 987, 992] : List Addr)
def bltNames : List Str := ["len", "abs", "max", "min", "sum", "int", "str", "tuple", "list", "isinstance", "range", "zip", "enumerate", "sorted", "set", "bool", "ValueError"]
structure Tb where
  cls : List (Str × Nat)
  cst : List (Str × D)
  sub : Nat → Nat → Bool
  nc : List Nat
def Tb.cn (T : Tb) (c : Nat) : Str := match T.cls.find? (fun p => p.2 == c) with
  | some p => p.1
  | none => if c = 100 then "Program" else if c = 101 then "Workbook" else ""
def Tb.cv (T : Tb) (K : PySem.W.Frag) (c : Nat) : Value := .ref (He.ga K (T.cn c))
def excB (K : PySem.W.Frag) (D : Addr) : Bool :=
  He.eqO (PySem.W.findIn K (.ref D) "__getattribute__") (some (some (.builtin "BaseException.__getattribute__"))) && (He.eqO (PySem.W.findIn K (.ref D) "__getattr__") (some none) &&
  (decide (PySem.W.subIn K (.ref D) (.type "BaseException") = some true) && (PySem.W.hasDictIn K D && (He.eqO (PySem.W.findIn K (.ref D) "__class__") (some (some (.builtin "object.__class__"))) &&
  (He.eqO (PySem.W.specialIn K (.builtin "object.__class__") "__get__") (some (some (.builtin "getset_descriptor.__get__"))) && (decide (PySem.W.takesIn K (.builtin "object.__class__") = some true) && decide (PySem.W.mroIn K D (.type "object") = some true)))))))
def noLst (K : PySem.W.Frag) : Bool := K.all fun q => match q.2.cls with
  | .type n => !(n == "list")
  | _ => true
def gmOk (K : PySem.W.Frag) : Bool := decide (gmN.map (He.ga K) = gmT)
def wbN : List Str := []
def wbB (K : PySem.W.Frag) (C : Addr) : Bool :=
  He.eqO (PySem.W.findIn K (.ref C) "__class__") (some (some (.builtin "object.__class__"))) && (He.eqO (PySem.W.specialIn K (.builtin "object.__class__") "__get__") (some (some (.builtin "getset_descriptor.__get__"))) && (decide (PySem.W.takesIn K (.builtin "object.__class__") = some true) && (decide (PySem.W.mroIn K C (.type "object") = some true) &&
  (decide (PySem.W.typeIn K (.ref C) = some (.type "type")) && He.eqO (PySem.W.findIn K (.ref C) "__ne__") (some (some (.builtin "object.__ne__")))))))
def wbOk (K : PySem.W.Frag) : Bool := wbN.all fun c => wbB K (He.ga K c)
def exU (T : Tb) (K : PySem.W.Frag) : Bool := ((noLst K && gmOk K) && wbOk K) && T.nc.all fun c => excB K (He.ga K (T.cn c)) && T.nc.all fun k => decide (PySem.W.kitOne K (T.cv K c) (T.cv K k) = some (T.sub c k)) && decide (PySem.W.exmOne K (T.cv K c) (T.cv K k) = some (T.sub c k))
def cstF : List (Str × D) → List He.Fa
  | [] => []
  | (x, .int i) :: r => .int x i :: cstF r
  | (x, .str z) :: r => .str x z :: cstF r
  | _ :: r => cstF r
def faU (T : Tb) (ds : List Str) : List He.Fa := ds.map .glo ++ (bltNames.map .free ++ (T.cls.map (fun p => .glo p.1) ++ (T.cls.map (fun p => .exc p.1) ++ cstF T.cst)))
def dOf (x : Str) (st : Stmt) : He.DefD := ⟨(x, none), x, x, defArgs st, defBody st, defScope st, [], []⟩
def sub0 (c k : Nat) : Bool := c == k || k == 0
def top (i : Nat) : Stmt := PySem.Challenge.pw_unsuretables_k37_doors.main.body.getD i (.Pass ⟨0, 0, 0, 0⟩)
def T : Tb := ⟨[("BoundError", 0), ("InvalidTable", 1), ("InvalidSide", 2), ("InvalidUnknowns", 3), ("InvalidChoice", 4), ("InvalidSigns", 5), ("InvalidIndex", 6), ("InvalidNumber", 7), ("InvalidCell", 8), ("NotSquare", 9), ("NotSure", 10), ("NoExample", 11), ("NoPaper", 12), ("NoSolution", 13), ("Apart", 14), ("Unequal", 15), ("TooMany", 16), ("ParseError", 18)], [("MOST", .int 3), ("MOST_OPEN_measuring", .int 6), ("MOST_OPEN_naive", .int 8), ("DIGITS", .str "0123456789")], sub0, [0, 1, 2, 3, 4, 5, 6, 7, 8, 9, 10, 11, 12, 13, 14, 15, 16, 18]⟩
def ds : List Str := (["in_range", "common_divisor", "is_part", "below", "is_cell", "is_table", "is_side", "check_table", "check_square", "check_system", "are_unknowns", "check_unknowns"] : List Str) ++ (["check_index", "lies_in", "is_fit", "is_choice_of", "is_choice", "is_side_choice", "check_choice", "check_signs", "corner", "check_all", "solves_some", "solves_each_table"] : List Str) ++ (["solves_each_side", "solves_all", "choice_for", "is_full", "lost_unknowns", "check_two", "plus", "product", "widened", "is_inside", "overlap", "determinant"] : List Str) ++ (["determinant_span", "each_has_solution", "each_has_upward", "barring_choice", "barring_upward", "keeps_some", "keeps_all", "can_keep", "keeping", "can_keep_each", "keeping_all", "breaking_choice"] : List Str) ++ (["is_sure", "singular_choice", "open_cells", "check_told", "is_place", "check_cells", "fixed", "fewest_fixed", "end_choices_of", "naive_sure", "whole_solutions", "can_solve"] : List Str) ++ (["a_solution", "papers", "are_papers", "unknown_span", "reaching", "sure_signs", "inverse_span", "format_table", "format_side", "number_of", "cell_of", "row_of"] : List Str) ++ (["parse_table", "parse_side", "can_solve_upward", "an_upward_solution", "upward_paper", "is_upward_paper", "check_both", "are_within", "outside", "_law_cell", "_law_row", "_law_door_call"] : List Str) ++ (["_law_door_index", "_law_doors_a", "_law_doors_b", "_law_doors_c", "law"] : List Str)
def fnA : List He.DefD := ([dOf "in_range" (top 20), dOf "common_divisor" (top 21), dOf "is_part" (top 23), dOf "below" (top 28), dOf "is_cell" (top 52), dOf "is_table" (top 53), dOf "is_side" (top 54), dOf "check_table" (top 55), dOf "check_square" (top 56), dOf "check_system" (top 57), dOf "are_unknowns" (top 58), dOf "check_unknowns" (top 59)] : List He.DefD) ++ ([dOf "check_index" (top 60), dOf "lies_in" (top 61), dOf "is_fit" (top 63), dOf "is_choice_of" (top 62), dOf "is_choice" (top 64), dOf "is_side_choice" (top 65), dOf "check_choice" (top 66), dOf "check_signs" (top 67), dOf "corner" (top 69), dOf "check_all" (top 72), dOf "solves_some" (top 74), dOf "solves_each_table" (top 75)] : List He.DefD) ++ ([dOf "solves_each_side" (top 76), dOf "solves_all" (top 77), dOf "choice_for" (top 80), dOf "is_full" (top 84), dOf "lost_unknowns" (top 85), dOf "check_two" (top 87), dOf "plus" (top 88), dOf "product" (top 90), dOf "widened" (top 91), dOf "is_inside" (top 92), dOf "overlap" (top 93), dOf "determinant" (top 96)] : List He.DefD) ++ ([dOf "determinant_span" (top 98), dOf "each_has_solution" (top 109), dOf "each_has_upward" (top 110), dOf "barring_choice" (top 113), dOf "barring_upward" (top 114), dOf "keeps_some" (top 116), dOf "keeps_all" (top 117), dOf "can_keep" (top 119)] : List He.DefD)
def fnB : List He.DefD := ([dOf "keeping" (top 120), dOf "can_keep_each" (top 123), dOf "keeping_all" (top 124), dOf "breaking_choice" (top 125), dOf "is_sure" (top 130), dOf "singular_choice" (top 133), dOf "open_cells" (top 136), dOf "check_told" (top 138), dOf "is_place" (top 141), dOf "check_cells" (top 140), dOf "fixed" (top 142), dOf "fewest_fixed" (top 144)] : List He.DefD) ++ ([dOf "end_choices_of" (top 147), dOf "naive_sure" (top 148), dOf "whole_solutions" (top 149), dOf "can_solve" (top 152), dOf "a_solution" (top 153), dOf "papers" (top 155), dOf "are_papers" (top 157), dOf "unknown_span" (top 163), dOf "reaching" (top 164), dOf "sure_signs" (top 165), dOf "inverse_span" (top 167), dOf "format_table" (top 173)] : List He.DefD) ++ ([dOf "format_side" (top 174), dOf "number_of" (top 175), dOf "cell_of" (top 176), dOf "row_of" (top 177), dOf "parse_table" (top 178), dOf "parse_side" (top 179), dOf "can_solve_upward" (top 181), dOf "an_upward_solution" (top 182), dOf "upward_paper" (top 183), dOf "is_upward_paper" (top 184), dOf "check_both" (top 186), dOf "are_within" (top 190)] : List He.DefD) ++ ([dOf "outside" (top 191), dOf "_law_cell" (top 193), dOf "_law_row" (top 194), dOf "_law_door_call" (top 195), dOf "_law_door_index" (top 196), dOf "_law_doors_a" (top 197), dOf "_law_doors_b" (top 198), dOf "_law_doors_c" (top 199), dOf "law" (top 200)] : List He.DefD)
def fn : List He.DefD := fnA ++ fnB
def fo : List He.Fa := []
/-! .. in eight parts -/
def keyB (p : PySem.Program) : PySem.Str → Bool := fun k => startupNames.contains k || p.boundNames.contains k
section
open PySem PySem.W HandSHeadRun
theorem looks_ok {p : PySem.Program} {h0 : PySem.Heap} {s : PySem.Shared} {n : Nat} (hA : ((staticsOk (importedModules p.main.body) h0 s.heap && gensDone s && laidKept h0 s.heap) && (s.heap.isNs mainGlobals && ((s.heap.nsKeys mainGlobals).take n).all (keyB p))) = true) (hB : ((s.heap.nsKeys mainGlobals).drop n).all (keyB p) = true) : looksF p h0 s = true := by
  have hk : (s.heap.nsKeys mainGlobals).all (keyB p) = (((s.heap.nsKeys mainGlobals).take n).all (keyB p) && ((s.heap.nsKeys mainGlobals).drop n).all (keyB p)) := by rw [← List.all_append, List.take_append_drop]
  obtain ⟨h1, h2⟩ := Bool.and_eq_true_iff.mp hA
  obtain ⟨h3, h4⟩ := Bool.and_eq_true_iff.mp h1
  obtain ⟨h5, h6⟩ := Bool.and_eq_true_iff.mp h3
  obtain ⟨h7, h8⟩ := Bool.and_eq_true_iff.mp h2
  have hn : namesBound p s.heap = true := by
    unfold namesBound
    exact Bool.and_eq_true_iff.mpr ⟨h7, by rw [show (s.heap.nsKeys mainGlobals).all (fun k => startupNames.contains k || p.boundNames.contains k) = (s.heap.nsKeys mainGlobals).all (keyB p) from rfl, hk, h8, hB]; rfl⟩
  unfold looksF
  rw [h5, hn, h6, h4]; rfl
end
theorem run8 {α γ δ ε : Type} {o : Option α} {A B D E F H L : α → Bool} {C : α → γ} {c : γ} {G : α → δ} {g : δ} {ob : α → ε} {v : ε} (hA : o.map A = some true) (hB : o.map B = some true) (hC : o.map C = some c) (hD : o.map D = some true) (hE : o.map E = some true) (hF : o.map F = some true) (hG : o.map G = some g) (hH : o.map H = some true)
    (hL : ∀ s, A s = true → B s = true → L s = true) (hO : ∀ s, D s = true → E s = true → F s = true → G s = g → H s = true → ob s = v) : o.map (fun s => (L s, C s, ob s)) = some (true, c, v) := by
  cases o with
  | none => cases hA
  | some s =>
    have q := hL s (Option.some.inj hA) (Option.some.inj hB)
    have r := hO s (Option.some.inj hD) (Option.some.inj hE) (Option.some.inj hF) (Option.some.inj hG) (Option.some.inj hH)
    have z : C s = c := Option.some.inj hC
    show some (L s, C s, ob s) = some (true, c, v)
    rw [q, z, r]
/-! ### a hook over told addresses -/
def obsL (as : List PySem.Addr) (fa : List He.Fa) (fn : List He.DefD) (ex : PySem.W.Frag → Bool) (g : PySem.Addr → Option PySem.Obj) : He.AlX := (He.obsT fa fn [] (He.frT g as), ex (He.frT g as))
theorem saysL {as : List PySem.Addr} {fa : List He.Fa} {fn : List He.DefD} {ex : PySem.W.Frag → Bool} {w : PySem.World} {h : PySem.Heap} (e : obsL as fa fn ex h.get? = He.valX fn [] w) : He.SaysX fa fn [] [] ex w h (He.frT h.get? as) :=
  ⟨congrArg (fun z : He.AlX => z.1) e, congrArg (fun z : He.AlX => z.2) e, fun p hp => absurd hp List.not_mem_nil, fun p hp => absurd hp List.not_mem_nil, fun p hp => absurd hp List.not_mem_nil⟩
def hookL (as : List PySem.Addr) (fa : List He.Fa) (fn : List He.DefD) (ex : PySem.W.Frag → Bool) : PySem.W.Hook where
  α := He.AlX
  obs := fun s => obsL as fa fn ex s.heap.get?
  val := fun w => He.valX fn [] w
  says := fun w h => ∃ K : PySem.W.Frag, K.In h ∧ He.SaysX fa fn [] [] ex w h K
  of := fun _ _ e => ⟨_, He.frT_in, saysL e⟩
  keeps := fun _ _ _ ⟨K, hK, c⟩ k => ⟨K, PySem.W.Frag.In.keeps hK k, ⟨c.t, c.more, c.hd, c.out, fun p hp => k _ _ (c.empty p hp)⟩⟩
theorem obs_ok {as : List PySem.Addr} {fa : List He.Fa} {fA fB : List He.DefD} {ex : PySem.W.Frag → Bool} {g : PySem.Addr → Option PySem.Obj} {w : PySem.World} (hD : (fa.all fun f => f.ok (He.frT g as)) = true) (hE : (fA.all fun d => d.ok (He.frT g as)) = true) (hF : (fB.all fun d => d.ok (He.frT g as)) = true) (hG : ((fA ++ fB).map fun d => He.fnW (He.frT g as) d.at_) = (fA ++ fB).map He.DefD.val) (hH : ex (He.frT g as) = true) : obsL as fa (fA ++ fB) ex g = He.valX (fA ++ fB) [] w := by
  unfold obsL He.obsT He.obsD He.valX He.valT He.valD
  rw [hD, List.all_append, hE, hF, hG, hH]; rfl
theorem obsL_eq {as : List PySem.Addr} {fa : List He.Fa} {fn : List He.DefD} {ex : PySem.W.Frag → Bool} {g : PySem.Addr → Option PySem.Obj} {s : PySem.Shared} (h : ∀ a, g a = s.heap.get? a) : obsL as fa fn ex g = (hookL as fa fn ex).obs s := by
  have e : g = s.heap.get? := funext h
  rw [e] <;> rfl
abbrev R : PySem.W.OpenRow := PySem.W.OpenLaw.row PySem.Challenge.rw_unsuretables_k37_doors
def as0 : List PySem.Addr := ([3, 6, 4, 24, 37, 49, 61, 73, 85, 97, 109, 121, 133, 145, 157, 169, 181, 193, 205, 217, 229, 238, 245, 252, 257, 264, 271, 278, 285, 292, 299, 306, 311, 316, 373, 382, 387, 394, 401, 408] : List PySem.Addr) ++ ([415, 422, 427, 432, 437, 444, 449, 454, 461, 466, 471, 476, 483, 490, 497, 502, 509, 516, 523, 528, 535, 542, 547, 554, 559, 564, 571, 578, 585, 592, 599, 606, 613, 620, 627, 634, 641, 648, 655, 662] : List PySem.Addr) ++ ([669, 676, 681, 686, 691, 696, 701, 706, 711, 718, 723, 728, 733, 738, 743, 748, 753, 758, 763, 770, 777, 784, 791, 796, 801, 806, 811, 818, 825, 830, 837, 844, 849, 854, 861, 868, 873, 878, 885, 892] : List PySem.Addr) ++ ([899, 906, 913, 920, 927, 932, 937, 944, 949, 956, 963, 968, 975, 982, 987, 992, 999, 1006, 1013, 1018, 1025, 1030, 1037, 1044, 1051, 1058, 1065, 1072, 1079, 1086, 1093, 1098, 1105, 1110, 1115, 1122, 1129, 1134, 1139, 1144] : List PySem.Addr) ++ ([1149, 1156, 1163, 1170, 1177, 1184, 1191, 1196, 1201, 1208, 1215, 1222, 1229, 1236, 1243, 1250, 1257, 1264, 1271, 1278, 0, 23, 36, 48, 60, 72, 84, 96, 108, 120, 132, 144, 156, 168, 180, 192, 204, 216, 228, 237] : List PySem.Addr) ++ ([244, 251, 256, 263, 270, 277, 284, 291, 298, 305, 310, 315, 372, 381, 386, 393, 400, 407, 414, 421, 426, 431, 436, 443, 448, 453, 460, 465, 470, 475, 482, 489, 496, 501, 508, 515, 522, 527, 534, 541] : List PySem.Addr) ++ ([546, 553, 558, 563, 570, 577, 584, 591, 598, 605, 612, 619, 626, 633, 640, 647, 654, 661, 668, 675, 680, 685, 690, 695, 700, 705, 710, 717, 722, 727, 732, 737, 742, 747, 752, 757, 762, 769, 776, 783] : List PySem.Addr) ++ ([790, 795, 800, 805, 810, 817, 824, 829, 836, 843, 848, 853, 860, 867, 872, 877, 884, 891, 898, 905, 912, 919, 926, 931, 936, 943, 948, 955, 962, 967, 974, 981, 986, 991, 998, 1005, 1012, 1017, 1024, 1029] : List PySem.Addr) ++ ([1036, 1043, 1050, 1057, 1064, 1071, 1078, 1085, 1092, 1097, 1104, 1109, 1114, 1121, 1128, 1133, 1138, 1143, 1148, 1155, 1162, 1169, 1176, 1183, 1190, 1195, 1200, 1207, 1214, 1221, 1228, 1235, 1242, 1249, 1256, 1263, 1270, 1277, 25, 236] : List PySem.Addr) ++ ([243, 250, 255, 262, 269, 276, 283, 290, 297, 304, 309, 314, 330, 337, 344, 351, 358, 365, 370, 374, 375, 380, 385, 392, 399, 406, 413, 420, 425, 430, 435, 442, 447, 452, 459, 464, 469, 474, 481, 488] : List PySem.Addr) ++ ([495, 500, 507, 514, 521, 526, 533, 540, 545, 552, 557, 562, 569, 576, 583, 590, 597, 604, 611, 618, 625, 632, 639, 646, 653, 660, 667, 674, 679, 684, 689, 694, 699, 704, 709, 716, 721, 726, 731, 736] : List PySem.Addr) ++ ([741, 746, 751, 756, 761, 768, 775, 782, 789, 794, 799, 804, 809, 816, 823, 828, 835, 842, 847, 852, 859, 866, 871, 876, 883, 890, 897, 904, 911, 918, 925, 930, 935, 942, 947, 954, 961, 966, 973, 980] : List PySem.Addr) ++ ([985, 990, 997, 1004, 1011, 1016, 1023, 1028, 1035, 1042, 1049, 1056, 1063, 1070, 1077, 1084, 1091, 1096, 1103, 1108, 1113, 1120, 1127, 1132, 1137, 1142, 1147, 1154, 1161, 1168, 1175, 1182, 1189, 1194, 1199, 1206, 1213, 1220, 1227, 1234] : List PySem.Addr) ++ ([1241, 1248, 1255, 1262, 1269, 1276, 329, 336, 343, 350, 357, 364, 369] : List PySem.Addr)
abbrev hk : PySem.W.Hook := hookL as0 (faU T ds ++ fo) fn (exU T)
def ob (s : PySem.W.SharedT) : He.AlX := obsL as0 (faU T ds ++ fo) fn (exU T) (HandSHeadRun.getT s)
theorem ob_eq (s : PySem.W.SharedT) : ob s = hk.obs s.abs := obsL_eq (HandSHeadRun.getT_eq s)
def loose : List Str := (["BoundError", "InvalidTable", "InvalidSide", "InvalidUnknowns", "InvalidChoice", "InvalidSigns", "InvalidIndex", "InvalidNumber", "InvalidCell", "NotSquare", "NotSure", "NoExample"] : List Str) ++ (["NoPaper", "NoSolution", "Apart", "Unequal", "TooMany", "ParseError", "in_range", "common_divisor", "part", "is_part", "added", "taken"] : List Str) ++ (["multiplied", "shared", "below", "scalar", "all_signs", "cleared", "lean", "Program", "without", "started", "solved", "some_numbers"] : List Str) ++ (["with_slack", "cost_of", "cell_ends", "lows", "highs", "conditions", "amounts_for", "with_signs", "weights_against", "bars_at", "MOST", "is_cell"] : List Str) ++ (["is_table", "is_side", "check_table", "check_square", "check_system", "are_unknowns", "check_unknowns", "check_index", "lies_in", "is_choice_of", "is_fit", "is_choice"] : List Str) ++ (["is_side_choice", "check_choice", "check_signs", "corner_of", "corner", "ends", "check_all", "some_solve", "solves_some", "solves_each_table", "solves_each_side", "solves_all"] : List Str) ++ (["row_choice", "made_choice", "choice_for", "lost_in", "lost", "is_full", "lost_unknowns", "check_two", "plus", "cell_product", "product", "widened"] : List Str) ++ (["is_inside", "overlap", "determinant_of", "determinant", "end_choices", "determinant_span", "null_unknowns", "reduced", "first_ends", "last_ends", "side_ends", "opposite"] : List Str) ++ (["rows_for", "solution_at", "barred_signs", "each_has_solution", "each_has_upward", "free_weights", "column_between", "barring_choice", "barring_upward", "keeps_some", "keeps_all", "some_keeping"] : List Str) ++ (["can_keep", "keeping", "parted_rows", "all_keeping", "can_keep_each", "keeping_all", "breaking_choice", "sign_choices", "ends_of", "sure", "is_sure", "replaced"] : List Str) ++ (["singular_between", "singular_choice", "MOST_OPEN_measuring", "open_cells", "open_places", "check_told", "fixed_at", "check_cells", "is_place", "fixed", "chosen", "fewest_fixed"] : List Str) ++ (["MOST_OPEN_naive", "end_choices_of", "naive_sure", "whole_solutions", "some_unknowns", "can_solve", "a_solution", "bounds_of", "papers", "are_weights", "are_papers", "orthant_end"] : List Str) ++ (["reached", "is_beyond", "span_of", "unknown_span", "reaching", "sure_signs", "sign_of", "inverse_span", "DIGITS", "cell_text", "row_text", "table_text"] : List Str) ++ (["format_table", "format_side", "number_of", "cell_of", "row_of", "parse_table", "parse_side", "can_solve_upward", "an_upward_solution", "upward_paper", "is_upward_paper", "check_both"] : List Str) ++ (["broken_conditions", "breaking", "outside_of", "are_within", "outside", "_law_cell", "_law_row", "_law_door_call", "_law_door_index", "_law_doors_a", "_law_doors_b", "_law_doors_c"] : List Str)
section
open PySem.W HandSHeadRun
theorem run8A (w : World) (os : OsState) : (endF (stepQ (denQ tabQ) R.prog w) 20000 R.prog w os).map (fun s => (staticsOk (importedModules R.prog.main.body) (boot_heap w.params) s.abs.heap && gensDone s.abs && laidKept (boot_heap w.params) s.abs.heap) && (s.abs.heap.isNs mainGlobals && ((s.abs.heap.nsKeys mainGlobals).take 140).all (keyB R.prog))) = some (true) := by kernel_rfl
theorem run8B (w : World) (os : OsState) : (endF (stepQ (denQ tabQ) R.prog w) 20000 R.prog w os).map (fun s => ((s.abs.heap.nsKeys mainGlobals).drop 140).all (keyB R.prog)) = some (true) := by kernel_rfl
theorem run8C (w : World) (os : OsState) : (endF (stepQ (denQ tabQ) R.prog w) 20000 R.prog w os).map (fun s => seenQ (PySem.W.view R.prog [200]) loose (importedModules R.prog.main.body) (fun s => xlAt (PySem.W.view R.prog [200]) [] s && recOk R.toRowW.records s) s.abs) = some (openGood (PySem.W.view R.prog [200]) loose) := by kernel_rfl
theorem run8D (w : World) (os : OsState) : (endF (stepQ (denQ tabQ) R.prog w) 20000 R.prog w os).map (fun s => (faU T ds ++ fo).all fun f => f.ok (He.frT (HandSHeadRun.getT s) as0)) = some (true) := by kernel_rfl
theorem run8E (w : World) (os : OsState) : (endF (stepQ (denQ tabQ) R.prog w) 20000 R.prog w os).map (fun s => fnA.all fun d => d.ok (He.frT (HandSHeadRun.getT s) as0)) = some (true) := by kernel_rfl
theorem run8F (w : World) (os : OsState) : (endF (stepQ (denQ tabQ) R.prog w) 20000 R.prog w os).map (fun s => fnB.all fun d => d.ok (He.frT (HandSHeadRun.getT s) as0)) = some (true) := by kernel_rfl
theorem run8G (w : World) (os : OsState) : (endF (stepQ (denQ tabQ) R.prog w) 20000 R.prog w os).map (fun s => fn.map fun d => He.fnW (He.frT (HandSHeadRun.getT s) as0) d.at_) = some (fn.map He.DefD.val) := by kernel_rfl
theorem run8H (w : World) (os : OsState) : (endF (stepQ (denQ tabQ) R.prog w) 20000 R.prog w os).map (fun s => exU T (He.frT (HandSHeadRun.getT s) as0)) = some (true) := by kernel_rfl
theorem run (w : World) : RunEq R (PySem.W.view R.prog [200]) hk ob 20000 loose w := fun os => run8 (run8A w os) (run8B w os) (run8C w os) (run8D w os) (run8E w os) (run8F w os) (run8G w os) (run8H w os) (fun s a b => looks_ok a b) (fun s d e f g h => obs_ok d e f g h)
end
end U

set_option Elab.async false
set_option linter.all false
set_option maxRecDepth 100000
set_option maxHeartbeats 4000000
namespace U
open PySem L2
/-- what a local name holds: nothing, shared data, a list of its own that may be changed -/
inductive Fd where
  | fr (d : D)
  | ow (ds : List D)
/-- .. an object of its own with its fields, an object that is read alone -/
inductive Cell where
  | un
  | fr (d : D)
  | ow (ds : List D)
  | ob (k : Nat) (fs : List Fd)
  | ro (k : Nat) (fs : List D)
abbrev Rho := List Cell
/-- an expression's end: shared data, a new list that nobody else holds, an error of a class, or no word -/
inductive Res where
  | ok (d : D)
  | new (ds : List D)
  | exc (c : Nat)
  | bad
inductive ResL where
  | ok (ds : List D)
  | exc (c : Nat)
  | bad
abbrev Sm := Rho → Res
abbrev SmL := Rho → ResL
def Res.bind (r : Res) (k : D → Res) : Res := match r with
  | .ok d => k d
  | .new ds => k (.list ds)
  | .exc c => .exc c
  | .bad => .bad
def Res.bindL (r : Res) (k : D → ResL) : ResL := match r with
  | .ok d => k d
  | .new ds => k (.list ds)
  | .exc c => .exc c
  | .bad => .bad
def ResL.bind (r : ResL) (k : List D → Res) : Res := match r with
  | .ok d => k d
  | .exc c => .exc c
  | .bad => .bad
def ResL.bindL (r : ResL) (k : List D → ResL) : ResL := match r with
  | .ok d => k d
  | .exc c => .exc c
  | .bad => .bad
@[simp] theorem Res.bind_ok (d : D) (k : D → Res) : (Res.ok d).bind k = k d := rfl
@[simp] theorem Res.bind_new (d : List D) (k : D → Res) : (Res.new d).bind k = k (.list d) := rfl
@[simp] theorem Res.bind_exc (c : Nat) (k : D → Res) : (Res.exc c).bind k = .exc c := rfl
@[simp] theorem Res.bind_bad (k : D → Res) : Res.bad.bind k = .bad := rfl
@[simp] theorem Res.bindL_ok (d : D) (k : D → ResL) : (Res.ok d).bindL k = k d := rfl
@[simp] theorem Res.bindL_new (d : List D) (k : D → ResL) : (Res.new d).bindL k = k (.list d) := rfl
@[simp] theorem Res.bindL_exc (c : Nat) (k : D → ResL) : (Res.exc c).bindL k = .exc c := rfl
@[simp] theorem Res.bindL_bad (k : D → ResL) : Res.bad.bindL k = .bad := rfl
@[simp] theorem ResL.bind_ok (d : List D) (k : List D → Res) : (ResL.ok d).bind k = k d := rfl
@[simp] theorem ResL.bind_exc (c : Nat) (k : List D → Res) : (ResL.exc c).bind k = .exc c := rfl
@[simp] theorem ResL.bind_bad (k : List D → Res) : ResL.bad.bind k = .bad := rfl
@[simp] theorem ResL.bindL_ok (d : List D) (k : List D → ResL) : (ResL.ok d).bindL k = k d := rfl
@[simp] theorem ResL.bindL_exc (c : Nat) (k : List D → ResL) : (ResL.exc c).bindL k = .exc c := rfl
@[simp] theorem ResL.bindL_bad (k : List D → ResL) : ResL.bad.bindL k = .bad := rfl

/-! ### the heap: frozen part F below H -/
abbrev Ex := Evl.Ex
structure Evo (F H F' H' : Hp) : Prop where
  ex : Ex F F'
  hx : Ex H H'
  le : Ex F' H'
  new : ∀ a o, F' a = some o → F a = some o ∨ H a = none
theorem Evo.refl {F H : Hp} (le : Ex F H) : Evo F H F H := ⟨Evl.Ex.refl F, Evl.Ex.refl H, le, fun _ _ h => .inl h⟩
theorem none_back {H H' : Hp} {a : Addr} (e : Ex H H') (h : H' a = none) : H a = none := Evl.fresh_back e h
theorem Evo.trans {F H F1 H1 F2 H2 : Hp} (a : Evo F H F1 H1) (b : Evo F1 H1 F2 H2) : Evo F H F2 H2 :=
  ⟨a.ex.trans b.ex, a.hx.trans b.hx, b.le, fun x o h => by
    rcases b.new x o h with h | h
    · exact a.new x o h
    · exact .inr (none_back a.hx h)⟩
/-- a new object, shared at once -/
theorem Evo.put {F H F' H' : Hp} (e : Evo F H F' H') {p : Addr} {o : HO} (hp : H' p = none) : Evo F H (upd F' p o) (upd H' p o) := by
  have hF : F' p = none := none_back e.le hp
  refine ⟨e.ex.trans (Evl.Ex.new hF), e.hx.trans (Evl.Ex.new hp), fun a u h => ?_, fun a u h => ?_⟩
  · by_cases ha : a = p
    · subst ha; rw [upd_same] at h ⊢; exact h
    · rw [upd_ne ha] at h ⊢; exact e.le a u h
  · by_cases ha : a = p
    · subst ha; exact .inr (none_back e.hx hp)
    · rw [upd_ne ha] at h; exact e.new a u h
/-- a new object that is not shared -/
theorem Evo.own {F H F' H' : Hp} (e : Evo F H F' H') {p : Addr} {o : HO} (hp : H' p = none) : Evo F H F' (upd H' p o) := by
  refine ⟨e.ex, e.hx.trans (Evl.Ex.new hp), fun a u h => ?_, e.new⟩
  exact (Evl.Ex.new hp) a u (e.le a u h)
/-- an own new object is shared -/
theorem Evo.give {F H F' H' : Hp} (e : Evo F H F' H') {p : Addr} {o : HO} (hp : H' p = some o) (hH : H p = none) (hF : F' p = none) : Evo F H (upd F' p o) H' := by
  refine ⟨e.ex.trans (Evl.Ex.new hF), e.hx, fun a u h => ?_, fun a u h => ?_⟩
  · by_cases ha : a = p
    · subst ha; rw [upd_same] at h; cases h; exact hp
    · rw [upd_ne ha] at h; exact e.le a u h
  · by_cases ha : a = p
    · subst ha; exact .inr hH
    · rw [upd_ne ha] at h; exact e.new a u h

-- defs that stand as values: their names, their addresses, told as numbers
/-- such a def as data: its number in that list -/
def tokD (i : Nat) : D := .dict [(.int (i : Int), .none)]
mutual
inductive Dr (F : Hp) : V → D → Prop
  | non : Dr F .non .none
  | bl (b : Bool) : Dr F (.bl b) (.bool b)
  | int (i : Int) : Dr F (.int i) (.int i)
  | str (x : Str) : Dr F (.str x) (.str x)
  | lst {a : Addr} {xs : List V} {ds : List D} : Rd F a (.lst xs) → DrAll F xs ds → Dr F (.ref a) (.list ds)
  | tup {a : Addr} {xs : List V} {ds : List D} : F a = some (.tup xs) → DrAll F xs ds → Dr F (.ref a) (.tuple ds)
  | fnc {a : Addr} (i : Nat) : gmT[i]? = some a → Dr F (.ref a) (.dict [(.int (i : Int), .none)])
inductive DrAll (F : Hp) : List V → List D → Prop
  | nil : DrAll F [] []
  | cons {v : V} {vs : List V} {d : D} {ds : List D} : Dr F v d → DrAll F vs ds → DrAll F (v :: vs) (d :: ds)
end
mutual
/-- no def stands in it -/
def nt : D → Bool
  | .dict _ => false
  | .list xs => ntAll xs
  | .tuple xs => ntAll xs
  | _ => true
def ntAll : List D → Bool
  | [] => true
  | x :: xs => nt x && ntAll xs
end
mutual
theorem nt_lay : ∀ d : D, d.canLay0 = true → nt d = true
  | .none, _ => by simp [nt]
  | .bool _, _ => by simp [nt]
  | .int _, _ => by simp [nt]
  | .str _, _ => by simp [nt]
  | .list xs, h => by rw [nt]; exact ntAll_lay xs h
  | .tuple xs, h => by rw [nt]; exact ntAll_lay xs h
  | .dict _, h => by cases h
theorem ntAll_lay : ∀ ds : List D, PyData.canLayAll0 ds = true → ntAll ds = true
  | [], _ => by simp [ntAll]
  | x :: xs, h => by
    rw [PyData.canLayAll0, Bool.and_eq_true] at h
    rw [ntAll, nt_lay x h.1, ntAll_lay xs h.2]; rfl
end
mutual
theorem Dr.dp0 {K : PySem.W.Frag} {F : Hp} : ∀ {v : V} {d : D}, Dr F v d → nt d = true → Dp K F v d
  | _, _, .non, _ => .non
  | _, _, .bl b, _ => .bl b
  | _, _, .int i, _ => .int i
  | _, _, .str x, _ => .str x
  | _, _, .lst h hs, c => .lst (.inl h) (DrAll.dp0 hs (by rw [nt] at c; exact c))
  | _, _, .tup h hs, c => .tup (.inl (.inl h)) (DrAll.dp0 hs (by rw [nt] at c; exact c))
  | _, _, .fnc i h, c => by simp [nt] at c
theorem DrAll.dp0 {K : PySem.W.Frag} {F : Hp} : ∀ {vs : List V} {ds : List D}, DrAll F vs ds → ntAll ds = true → DpAll K F vs ds
  | _, _, .nil, _ => .nil
  | _, _, .cons h hs, c => by
    rw [ntAll, Bool.and_eq_true] at c
    exact .cons (h.dp0 c.1) (DrAll.dp0 hs c.2)
end
theorem Dr.dp {K : PySem.W.Frag} {F : Hp} {v : V} {d : D} (h : Dr F v d) (c : d.canLay0 = true) : Dp K F v d := h.dp0 (nt_lay d c)
theorem DrAll.dp {K : PySem.W.Frag} {F : Hp} {vs : List V} {ds : List D} (h : DrAll F vs ds) (c : PyData.canLayAll0 ds = true) : DpAll K F vs ds := h.dp0 (ntAll_lay ds c)
mutual
theorem dp_mono {F F' : Hp} (e : Ex F F') : ∀ {v : V} {d : D}, Dr F v d → Dr F' v d
  | _, _, .non => .non
  | _, _, .bl b => .bl b
  | _, _, .int i => .int i
  | _, _, .str x => .str x
  | _, _, .lst h hs => .lst (Evl.ex_rd e h) (dps_mono e hs)
  | _, _, .tup h hs => .tup (e _ _ h) (dps_mono e hs)
  | _, _, .fnc i h => .fnc i h
theorem dps_mono {F F' : Hp} (e : Ex F F') : ∀ {vs : List V} {ds : List D}, DrAll F vs ds → DrAll F' vs ds
  | _, _, .nil => .nil
  | _, _, .cons h hs => .cons (dp_mono e h) (dps_mono e hs)
end
theorem dps_len {F : Hp} : ∀ {vs : List V} {ds : List D}, DrAll F vs ds → vs.length = ds.length
  | _, _, .nil => rfl
  | _, _, .cons _ hs => by simp [dps_len hs]
theorem dps_get {F : Hp} : ∀ {vs : List V} {ds : List D} {i : Nat} {d : D}, DrAll F vs ds → ds[i]? = some d → ∃ v, vs[i]? = some v ∧ Dr F v d
  | _, _, _, _, .nil, h => by simp at h
  | _, _, 0, _, .cons h hs, e => by simp at e; subst e; exact ⟨_, rfl, h⟩
  | _, _, i + 1, _, .cons h hs, e => by
    obtain ⟨v, h1, h2⟩ := dps_get (i := i) hs (by simpa using e)
    exact ⟨v, by simpa using h1, h2⟩
theorem dps_app {F : Hp} : ∀ {vs ws : List V} {ds es : List D}, DrAll F vs ds → DrAll F ws es → DrAll F (vs ++ ws) (ds ++ es)
  | _, _, _, _, .nil, h => h
  | _, _, _, _, .cons h hs, h2 => .cons h (dps_app hs h2)
theorem dps_set {F : Hp} {v : V} {d : D} (h : Dr F v d) : ∀ {vs : List V} {ds : List D} (i : Nat), DrAll F vs ds → DrAll F (vs.set i v) (ds.set i d)
  | _, _, _, .nil => .nil
  | _, _, 0, .cons _ hs => .cons h hs
  | _, _, i + 1, .cons h' hs => .cons h' (dps_set h i hs)
theorem dps_take {F : Hp} : ∀ {vs : List V} {ds : List D} (n : Nat), DrAll F vs ds → DrAll F (vs.take n) (ds.take n)
  | _, _, 0, _ => .nil
  | _, _, _ + 1, .nil => .nil
  | _, _, n + 1, .cons h hs => .cons h (dps_take n hs)
theorem dps_drop {F : Hp} : ∀ {vs : List V} {ds : List D} (n : Nat), DrAll F vs ds → DrAll F (vs.drop n) (ds.drop n)
  | _, _, 0, h => h
  | _, _, _ + 1, .nil => .nil
  | _, _, n + 1, .cons _ hs => dps_drop n hs
theorem dps_rep {F : Hp} {vs : List V} {ds : List D} (h : DrAll F vs ds) : ∀ n : Nat, DrAll F (List.replicate n vs).flatten (List.replicate n ds).flatten
  | 0 => .nil
  | n + 1 => by
    rw [List.replicate_succ, List.replicate_succ, List.flatten_cons, List.flatten_cons]
    exact dps_app h (dps_rep h n)
/-- a list under construction that is read now, or shared data -/
def Wk (F H : Hp) (v : V) (d : D) : Prop :=
  Dr F v d ∨ ∃ p xs ds, v = .ref p ∧ d = .list ds ∧ H p = some (.lst xs) ∧ DrAll F xs ds
theorem Wk.dp {F H : Hp} {v : V} {d : D} (le : Ex F H) (w : Wk F H v d) : Dr H v d := by
  rcases w with h | ⟨p, xs, ds, rfl, rfl, h, hs⟩
  · exact dp_mono le h
  · exact .lst (Rd.of h) (dps_mono le hs)
theorem Wk.evo {F H F' H' : Hp} {v : V} {d : D} (e : Evo F H F' H') (w : Wk F H v d) : Wk F' H' v d := by
  rcases w with h | ⟨p, xs, ds, rfl, rfl, h, hs⟩
  · exact .inl (dp_mono e.ex h)
  · exact .inr ⟨p, xs, ds, rfl, rfl, e.hx _ _ h, dps_mono e.ex hs⟩
theorem Wk.list {F H : Hp} {v : V} {ds : List D} (le : Ex F H) (w : Wk F H v (.list ds)) : ∃ p xs, v = .ref p ∧ Rd H p (.lst xs) ∧ DrAll F xs ds := by
  rcases w with h | ⟨p, xs, ds', rfl, e, h, hs⟩
  · cases h with
    | lst a b => exact ⟨_, _, rfl, Evl.ex_rd le a, b⟩
  · cases e
    exact ⟨p, xs, rfl, Rd.of h, hs⟩
theorem Wk.tuple {F H : Hp} {v : V} {ds : List D} (le : Ex F H) (w : Wk F H v (.tuple ds)) : ∃ p xs, v = .ref p ∧ F p = some (.tup xs) ∧ H p = some (.tup xs) ∧ DrAll F xs ds := by
  rcases w with h | ⟨p, xs, ds', rfl, e, h, hs⟩
  · cases h with
    | tup a b => exact ⟨_, _, rfl, a, le _ _ a, b⟩
  · cases e
theorem Wk.int {F H : Hp} {v : V} {i : Int} (w : Wk F H v (.int i)) : v = .int i := by
  rcases w with h | ⟨p, xs, ds', rfl, e, h, hs⟩
  · cases h; rfl
  · cases e
theorem Wk.str {F H : Hp} {v : V} {i : Str} (w : Wk F H v (.str i)) : v = .str i := by
  rcases w with h | ⟨p, xs, ds', rfl, e, h, hs⟩
  · cases h; rfl
  · cases e
theorem Wk.bool {F H : Hp} {v : V} {i : Bool} (w : Wk F H v (.bool i)) : v = .bl i := by
  rcases w with h | ⟨p, xs, ds', rfl, e, h, hs⟩
  · cases h; rfl
  · cases e
theorem Wk.none {F H : Hp} {v : V} (w : Wk F H v .none) : v = .non := by
  rcases w with h | ⟨p, xs, ds', rfl, e, h, hs⟩
  · cases h; rfl
  · cases e

/-! ### the slots -/
/-! objects: their fields -/
def FdOk (F H : Hp) (v : V) : Fd → Prop
  | .fr d => Dr F v d
  | .ow ds => ∃ p xs, v = .ref p ∧ H p = some (.lst xs) ∧ F p = none ∧ DrAll F xs ds
inductive FdsOk (F H : Hp) : List V → List Fd → Prop
  | nil : FdsOk F H [] []
  | cons {v : V} {f : Fd} {vs : List V} {fs : List Fd} : FdOk F H v f → FdsOk F H vs fs → FdsOk F H (v :: vs) (f :: fs)
def ownV : List V → List Fd → List Addr
  | .ref p :: vs, .ow _ :: fs => p :: ownV vs fs
  | _ :: vs, _ :: fs => ownV vs fs
  | _, _ => []
/-- the fields of a class, by its code -/
def flN : Nat → List Str
  | 100 => ["rows", "own", "costs"]
  | 101 => ["cells", "ends", "before"]
  | _ => []
def CellOk (cv : Nat → Value) (F H : Hp) (ov : Option (Option V)) : Cell → Prop
  | .un => True
  | .fr d => ∃ v, ov = some (some v) ∧ Dr F v d
  | .ow ds => ∃ p xs, ov = some (some (.ref p)) ∧ H p = some (.lst xs) ∧ F p = none ∧ DrAll F xs ds
  | .ob k fs => ∃ a C dx vs, ov = some (some (.ref a)) ∧ cv k = .ref C ∧ H a = some (.ins C dx ((flN k).zip vs)) ∧ F a = none ∧ vs.length = (flN k).length ∧ FdsOk F H vs fs ∧ (ownV vs fs).Nodup
  | .ro k fs => ∃ a C dx vs, ov = some (some (.ref a)) ∧ cv k = .ref C ∧ F a = some (.ins C dx ((flN k).zip vs)) ∧ vs.length = (flN k).length ∧ DrAll F vs fs
/-- the addresses that a cell owns -/
def owL (H : Hp) (ov : Option (Option V)) (c : Cell) : List Addr := match c, ov with
  | .ow _, some (some (.ref p)) => [p]
  | .ob _ fs, some (some (.ref a)) => (match H a with
    | some (.ins _ _ us) => a :: ownV (us.map (·.2)) fs
    | _ => [])
  | _, _ => []
@[simp] theorem owL_un {H : Hp} {ov : Option (Option V)} : owL H ov .un = [] := rfl
@[simp] theorem owL_fr {H : Hp} {ov : Option (Option V)} {d : D} : owL H ov (.fr d) = [] := rfl
@[simp] theorem owL_ro {H : Hp} {ov : Option (Option V)} {k : Nat} {fs : List D} : owL H ov (.ro k fs) = [] := rfl
@[simp] theorem owL_ow {H : Hp} {p : Addr} {ds : List D} : owL H (some (some (.ref p))) (.ow ds) = [p] := rfl
theorem zip_snd : ∀ {ns : List Str} {vs : List V}, vs.length = ns.length → (ns.zip vs).map (·.2) = vs
  | [], [], _ => rfl
  | _ :: ns, _ :: vs, h => by
    rw [List.zip_cons_cons, List.map_cons, zip_snd (ns := ns) (vs := vs) (by simpa using h)]
theorem owL_ob {H : Hp} {a C dx : Addr} {vs : List V} {k : Nat} {fs : List Fd} (h : H a = some (.ins C dx ((flN k).zip vs))) (hl : vs.length = (flN k).length) : owL H (some (some (.ref a))) (.ob k fs) = a :: ownV vs fs := by
  simp only [owL, h, zip_snd hl]
theorem FdOk.evo {F H F' H' : Hp} {v : V} {f : Fd} (e : Evo F H F' H') (h : FdOk F H v f) : FdOk F' H' v f := by
  cases f with
  | fr d => exact dp_mono e.ex h
  | ow ds =>
    obtain ⟨p, xs, h1, h2, h3, h4⟩ := h
    refine ⟨p, xs, h1, e.hx _ _ h2, ?_, dps_mono e.ex h4⟩
    cases q : F' p with
    | none => rfl
    | some o =>
      rcases e.new p o q with z | z
      · rw [h3] at z; cases z
      · rw [h2] at z; cases z
theorem FdsOk.evo {F H F' H' : Hp} (e : Evo F H F' H') : ∀ {vs : List V} {fs : List Fd}, FdsOk F H vs fs → FdsOk F' H' vs fs
  | _, _, .nil => .nil
  | _, _, .cons h hs => .cons (h.evo e) (FdsOk.evo e hs)
/-- what an object's cell owns stands, as a list, and is not shared -/
theorem ownV_at {F H : Hp} : ∀ {vs : List V} {fs : List Fd}, FdsOk F H vs fs → ∀ p ∈ ownV vs fs, F p = none ∧ ∃ xs, H p = some (.lst xs)
  | _, _, .nil, p, h => by simp [ownV] at h
  | v :: vs, f :: fs, .cons h hs, p, hp => by
    cases f with
    | fr d =>
      cases v <;> exact ownV_at hs p (by simpa [ownV] using hp)
    | ow ds =>
      obtain ⟨q, xs, rfl, h2, h3, _⟩ := h
      rcases List.mem_cons.mp (show p ∈ q :: ownV vs fs from hp) with e | e
      · subst e; exact ⟨h3, xs, h2⟩
      · exact ownV_at hs p e
theorem owL_at {cv : Nat → Value} {F H : Hp} {ov : Option (Option V)} {c : Cell} (h : CellOk cv F H ov c) {p : Addr} (hp : p ∈ owL H ov c) : F p = none ∧ ∃ o, H p = some o := by
  cases c with
  | un => simp at hp
  | fr d => simp at hp
  | ro k fs => simp at hp
  | ow ds =>
    obtain ⟨q, xs, rfl, h2, h3, _⟩ := h
    rw [owL_ow] at hp
    rw [List.mem_singleton.mp hp]
    exact ⟨h3, _, h2⟩
  | ob k fs =>
    obtain ⟨a, C, dx, vs, rfl, h2, h3, h4, hl, h5, h6⟩ := h
    rw [owL_ob h3 hl] at hp
    rcases List.mem_cons.mp hp with e | e
    · rw [e]; exact ⟨h4, _, h3⟩
    · obtain ⟨z1, xs, z2⟩ := ownV_at h5 p e
      exact ⟨z1, _, z2⟩
theorem owL_ex {cv : Nat → Value} {F H H' : Hp} {ov : Option (Option V)} {c : Cell} (h : CellOk cv F H ov c) (e : Ex H H') : owL H' ov c = owL H ov c := by
  cases c with
  | ob k fs =>
    obtain ⟨a, C, dx, vs, rfl, h2, h3, h4, hl, h5, h6⟩ := h
    rw [owL_ob h3 hl, owL_ob (e _ _ h3) hl]
  | ow ds =>
    obtain ⟨p, xs, rfl, _⟩ := h
    rfl
  | _ => rfl
structure Rel (cv : Nat → Value) (ρ : Rho) (σ : L2.St) (F H : Hp) : Prop where
  len : ρ.length = σ.length
  le : Ex F H
  cell : ∀ (i : Nat) (c : Cell), ρ[i]? = some c → CellOk cv F H σ[i]? c
  apart : ∀ (i j : Nat) (c c' : Cell) (p : Addr), ρ[i]? = some c → ρ[j]? = some c' → p ∈ owL H σ[i]? c → p ∈ owL H σ[j]? c' → i = j
theorem CellOk.evo {cv : Nat → Value} {F H F' H' : Hp} {ov : Option (Option V)} {c : Cell} (e : Evo F H F' H') (h : CellOk cv F H ov c) : CellOk cv F' H' ov c := by
  cases c with
  | un => trivial
  | fr d => obtain ⟨v, h1, h2⟩ := h; exact ⟨v, h1, dp_mono e.ex h2⟩
  | ow ds =>
    obtain ⟨p, xs, h1, h2, h3, h4⟩ := h
    refine ⟨p, xs, h1, e.hx _ _ h2, ?_, dps_mono e.ex h4⟩
    cases q : F' p with
    | none => rfl
    | some o =>
      rcases e.new p o q with z | z
      · rw [h3] at z; cases z
      · rw [h2] at z; cases z
  | ob k fs =>
    obtain ⟨a, C, dx, vs, h1, h2, h3, h4, hl, h5, h6⟩ := h
    refine ⟨a, C, dx, vs, h1, h2, e.hx _ _ h3, ?_, hl, h5.evo e, h6⟩
    cases q : F' a with
    | none => rfl
    | some o =>
      rcases e.new a o q with z | z
      · rw [h4] at z; cases z
      · rw [h3] at z; cases z
  | ro k fs =>
    obtain ⟨a, C, dx, vs, h1, h2, h3, hl, h4⟩ := h
    exact ⟨a, C, dx, vs, h1, h2, e.ex _ _ h3, hl, dps_mono e.ex h4⟩
/-- more is shared, but nothing that the cell owns -/
theorem FdsOk.shr {F F' H : Hp} (ex : Ex F F') : ∀ {vs : List V} {fs : List Fd}, FdsOk F H vs fs → (∀ q ∈ ownV vs fs, F q = none → F' q = none) → FdsOk F' H vs fs
  | _, _, .nil, _ => .nil
  | v :: vs, .fr d :: fs, .cons h hs, k => .cons (dp_mono ex h) (FdsOk.shr ex hs fun q hq => k q (by cases v <;> exact hq))
  | v :: vs, .ow ds :: fs, .cons ⟨p, xs, e, h2, h3, h4⟩ hs, k => by
    subst e
    exact .cons ⟨p, xs, rfl, h2, k p List.mem_cons_self h3, dps_mono ex h4⟩ (FdsOk.shr ex hs fun q hq => k q (List.mem_cons_of_mem _ hq))
theorem CellOk.shr {cv : Nat → Value} {F F' H : Hp} {ov : Option (Option V)} {c : Cell} (h : CellOk cv F H ov c) (ex : Ex F F') (le : Ex F' H) (k : ∀ q ∈ owL H ov c, F q = none → F' q = none) : CellOk cv F' H ov c := by
  cases c with
  | un => trivial
  | fr d => obtain ⟨v, h1, h2⟩ := h; exact ⟨v, h1, dp_mono ex h2⟩
  | ow ds =>
    obtain ⟨p, xs, h1, h2, h3, h4⟩ := h
    exact ⟨p, xs, h1, h2, k p (by rw [h1]; simp) h3, dps_mono ex h4⟩
  | ob z fs =>
    obtain ⟨a, C, dx, vs, h1, h2, h3, h4, hl, h5, h6⟩ := h
    subst h1
    rw [owL_ob h3 hl] at k
    exact ⟨a, C, dx, vs, rfl, h2, h3, k a List.mem_cons_self h4, hl, h5.shr ex fun q hq => k q (List.mem_cons_of_mem _ hq), h6⟩
  | ro z fs =>
    obtain ⟨a, C, dx, vs, h1, h2, h3, hl, h4⟩ := h
    exact ⟨a, C, dx, vs, h1, h2, ex _ _ h3, hl, dps_mono ex h4⟩
theorem Rel.evo {cv : Nat → Value} {ρ : Rho} {σ : L2.St} {F H F' H' : Hp} (r : Rel cv ρ σ F H) (e : Evo F H F' H') : Rel cv ρ σ F' H' :=
  ⟨r.len, e.le, fun i c h => (r.cell i c h).evo e, fun i j c c' p h1 h2 h3 h4 => r.apart i j c c' p h1 h2 (by rw [← owL_ex (r.cell i c h1) e.hx]; exact h3) (by rw [← owL_ex (r.cell j c' h2) e.hx]; exact h4)⟩

/-! ### what an expression is to give -/
/-- what follows a shared value, a value read at once, a new list -/
def QD (F H : Hp) (d : D) (Q : VK) : Prop := ∀ v F' H', Evo F H F' H' → Dr F' v d → Q v H'
def QW (F H : Hp) (d : D) (Q : VK) : Prop := ∀ v F' H', Evo F H F' H' → Wk F' H' v d → Q v H'
def QN (F H : Hp) (ds : List D) (Q : VK) : Prop := ∀ p xs F' H', Evo F H F' H' → H p = none → F' p = none → H' p = some (.lst xs) → DrAll F' xs ds → Q (.ref p) H'
def QX (cv : Nat → Value) (W : WX) (F H : Hp) (σ : L2.St) (c : Nat) : Prop := ∀ F' H', Evo F H F' H' → W (cv c) none σ H'
def GotE (cv : Nat → Value) (W : WX) (F H : Hp) (σ : L2.St) (Q : VK) : Res → Prop
  | .ok d => QD F H d Q
  | .new ds => QN F H ds Q
  | .exc c => QX cv W F H σ c
  | .bad => False
def GotS (cv : Nat → Value) (W : WX) (F H : Hp) (σ : L2.St) (Q : VK) : Res → Prop
  | .ok d => QD F H d Q
  | .new ds => QD F H (.list ds) Q
  | .exc c => QX cv W F H σ c
  | .bad => False
def GotW (cv : Nat → Value) (W : WX) (F H : Hp) (σ : L2.St) (Q : VK) : Res → Prop
  | .ok d => QW F H d Q
  | .new ds => QW F H (.list ds) Q
  | .exc c => QX cv W F H σ c
  | .bad => False
theorem QD.n {F H : Hp} {ds : List D} {Q : VK} (h : QD F H (.list ds) Q) : QN F H ds Q := fun p xs F' H' ev hp hF hH hs =>
  h (.ref p) _ H' (ev.give hH hp hF) (.lst (Rd.of upd_same) (dps_mono (Evl.Ex.new hF) hs))
theorem QW.d {F H : Hp} {d : D} {Q : VK} (h : QW F H d Q) : QD F H d Q := fun v F' H' ev hd => h v F' H' ev (.inl hd)
theorem QW.n {F H : Hp} {ds : List D} {Q : VK} (h : QW F H (.list ds) Q) : QN F H ds Q := fun p xs F' H' ev hp hF hH hs => h (.ref p) F' H' ev (.inr ⟨p, xs, ds, rfl, rfl, hH, hs⟩)
theorem GotS.e {cv : Nat → Value} {W : WX} {F H : Hp} {σ : L2.St} {Q : VK} : ∀ {r : Res}, GotS cv W F H σ Q r → GotE cv W F H σ Q r
  | .ok _, h => h
  | .new _, h => QD.n h
  | .exc _, h => h
  | .bad, h => h
theorem GotW.e {cv : Nat → Value} {W : WX} {F H : Hp} {σ : L2.St} {Q : VK} : ∀ {r : Res}, GotW cv W F H σ Q r → GotE cv W F H σ Q r
  | .ok _, h => QW.d h
  | .new _, h => QW.n h
  | .exc _, h => h
  | .bad, h => h
theorem GotW.s {cv : Nat → Value} {W : WX} {F H : Hp} {σ : L2.St} {Q : VK} : ∀ {r : Res}, GotW cv W F H σ Q r → GotS cv W F H σ Q r
  | .ok _, h => QW.d h
  | .new _, h => QW.d h
  | .exc _, h => h
  | .bad, h => h
def rdE (cv : Nat → Value) (W : WX) (m : Sm) : TE := fun σ H Q => ∃ ρ F, Rel cv ρ σ F H ∧ GotE cv W F H σ Q (m ρ)
/-- .. read at once -/
def rdW (cv : Nat → Value) (W : WX) (m : Sm) : TE := fun σ H Q => ∃ ρ F, Rel cv ρ σ F H ∧ GotW cv W F H σ Q (m ρ)
/-- .. shared in any case -/
def rdS (cv : Nat → Value) (W : WX) (m : Sm) : TE := fun σ H Q => ∃ ρ F, Rel cv ρ σ F H ∧ GotS cv W F H σ Q (m ρ)
theorem PE.imp {X : Cx} {e : Expr} {t t' : TE} (h : PE X e t) (k : ∀ σ H Q, t' σ H Q → t σ H Q) : PE X e t' := ⟨fun pins s σ H Q I hw => h.run pins s σ H Q I (k σ H Q hw)⟩
/-- an expression gives what m says -/
def JE (X : Cx) (cv : Nat → Value) (W : WX) (e : Expr) (m : Sm) : Prop := PE X e (rdE cv W m)
def JW (X : Cx) (cv : Nat → Value) (W : WX) (e : Expr) (m : Sm) : Prop := PE X e (rdW cv W m)
def JS (X : Cx) (cv : Nat → Value) (W : WX) (e : Expr) (m : Sm) : Prop := PE X e (rdS cv W m)
section
variable {X : Cx} {cv : Nat → Value} {W : WX} {a b : Expr} {m ma mb : Sm} {pos : Pos}
theorem JE.s (h : JE X cv W a m) : JS X cv W a m := PE.imp h fun σ H Q ⟨ρ, F, r, q⟩ => ⟨ρ, F, r, q.e⟩
theorem JE.w (h : JE X cv W a m) : JW X cv W a m := PE.imp h fun σ H Q ⟨ρ, F, r, q⟩ => ⟨ρ, F, r, q.e⟩
end
theorem QD.evo {F H F' H' : Hp} {d : D} {Q : VK} (e : Evo F H F' H') (h : QD F H d Q) : QD F' H' d Q := fun v F2 H2 ev hd => h v F2 H2 (e.trans ev) hd
theorem QW.evo {F H F' H' : Hp} {d : D} {Q : VK} (e : Evo F H F' H') (h : QW F H d Q) : QW F' H' d Q := fun v F2 H2 ev hd => h v F2 H2 (e.trans ev) hd
theorem QN.evo {F H F' H' : Hp} {d : List D} {Q : VK} (e : Evo F H F' H') (h : QN F H d Q) : QN F' H' d Q := fun p xs F2 H2 ev hp hF hH hs => h p xs F2 H2 (e.trans ev) (none_back e.hx hp) hF hH hs
theorem QX.evo {cv : Nat → Value} {W : WX} {σ : L2.St} {F H F' H' : Hp} {c : Nat} (e : Evo F H F' H') (h : QX cv W F H σ c) : QX cv W F' H' σ c := fun F2 H2 ev => h F2 H2 (e.trans ev)
theorem GotE.evo {cv : Nat → Value} {W : WX} {σ : L2.St} {F H F' H' : Hp} {Q : VK} (e : Evo F H F' H') : ∀ {r : Res}, GotE cv W F H σ Q r → GotE cv W F' H' σ Q r
  | .ok _, h => QD.evo e h
  | .new _, h => QN.evo e h
  | .exc _, h => QX.evo e h
  | .bad, h => h

/-! ### operations on data -/
inductive Rp where
  | ok (d : D)
  | new (ds : List D)
  | bad
def Rp.up : Rp → Res
  | .ok d => .ok d
  | .new ds => .new ds
  | .bad => .bad
@[simp] theorem Rp.up_ok (d : D) : (Rp.ok d).up = .ok d := rfl
@[simp] theorem Rp.up_new (d : List D) : (Rp.new d).up = .new d := rfl
@[simp] theorem Rp.up_bad : Rp.bad.up = .bad := rfl
def GotP (F H : Hp) (Q : VK) : Rp → Prop
  | .ok d => QD F H d Q
  | .new ds => QN F H ds Q
  | .bad => False
theorem GotP.of {cv : Nat → Value} {W : WX} {σ : L2.St} {F H : Hp} {Q : VK} : ∀ {r : Rp}, GotE cv W F H σ Q r.up → GotP F H Q r
  | .ok _, h => h
  | .new _, h => h
  | .bad, h => h
def rG (g : D → D → Rp) : R2 := fun x y H Q => ∃ F dx dy, Ex F H ∧ Wk F H x dx ∧ Wk F H y dy ∧ GotP F H Q (g dx dy)
def rG1 (g : D → Rp) : V → Hp → VK → Prop := fun x H Q => ∃ F dx, Ex F H ∧ Wk F H x dx ∧ GotP F H Q (g dx)
inductive WkAll (F H : Hp) : List V → List D → Prop
  | nil : WkAll F H [] []
  | cons {v : V} {d : D} {vs : List V} {ds : List D} : Wk F H v d → WkAll F H vs ds → WkAll F H (v :: vs) (d :: ds)
theorem WkAll.evo {F H F' H' : Hp} (e : Evo F H F' H') : ∀ {vs : List V} {ds : List D}, WkAll F H vs ds → WkAll F' H' vs ds
  | _, _, .nil => .nil
  | _, _, .cons h hs => .cons (h.evo e) (WkAll.evo e hs)
theorem WkAll.of {F H : Hp} : ∀ {vs : List V} {ds : List D}, DrAll F vs ds → WkAll F H vs ds
  | _, _, .nil => .nil
  | _, _, .cons h hs => .cons (.inl h) (WkAll.of hs)
def rGL (g : List D → Rp) : List V → Hp → VK → Prop := fun xs H Q => ∃ F ds, Ex F H ∧ WkAll F H xs ds ∧ GotP F H Q (g ds)
/-! ### the forms of expressions -/
def eV (i : Nat) : Sm := fun ρ => match ρ[i]? with
  | some (.fr d) => .ok d
  | _ => .bad
/-- a name that is read at once -/
def eK (i : Nat) : Sm := fun ρ => match ρ[i]? with
  | some (.fr d) => .ok d
  | some (.ow ds) => .ok (.list ds)
  | _ => .bad
def eC (d : D) : Sm := fun _ => .ok d
def e1 (g : D → Rp) (ma : Sm) : Sm := fun ρ => (ma ρ).bind fun x => (g x).up
def e2 (g : D → D → Rp) (ma mb : Sm) : Sm := fun ρ => (ma ρ).bind fun x => (mb ρ).bind fun y => (g x y).up
def evs : List Sm → SmL
  | [], _ => .ok []
  | m :: ms, ρ => (m ρ).bindL fun d => (evs ms ρ).bindL fun ds => .ok (d :: ds)
def eL (g : List D → Rp) (ms : List Sm) : Sm := fun ρ => (evs ms ρ).bind fun ds => (g ds).up
/-- a call of an own def, worth f -/
def eF (f : List D → Res) (ms : List Sm) : Sm := fun ρ => (evs ms ρ).bind f
def truth : D → Option Bool
  | .none => some false
  | .bool b => some b
  | .int i => some (i != 0)
  | .str y => if y.length ≤ 100000 then some ((y.length : Int) != 0) else none
  | .list ds => some (!ds.isEmpty)
  | .tuple ds => some (!ds.isEmpty)
  | .dict _ => none
def ifT (o : Option Bool) (a b : Res) : Res := match o with
  | some true => a
  | some false => b
  | none => .bad
@[simp] theorem ifT_t (a b : Res) : ifT (some true) a b = a := rfl
@[simp] theorem ifT_f (a b : Res) : ifT (some false) a b = b := rfl
@[simp] theorem ifT_n (a b : Res) : ifT none a b = .bad := rfl
def eAnd (ma mb : Sm) : Sm := fun ρ => (ma ρ).bind fun x => ifT (truth x) (mb ρ) (.ok x)
def eOr (ma mb : Sm) : Sm := fun ρ => (ma ρ).bind fun x => ifT (truth x) (.ok x) (mb ρ)
def gNot (x : D) : Rp := match truth x with
  | some b => .ok (.bool (!b))
  | none => .bad
def eIf (mc ma mb : Sm) : Sm := fun ρ => (mc ρ).bind fun x => ifT (truth x) (ma ρ) (mb ρ)
section
variable {X : Cx} {cv : Nat → Value} {W : WX} {a b c : Expr} {m ma mb mc : Sm} {pos : Pos}
theorem j_var {i : Nat} {x : Str} (hN : X.N[i]? = some x) (hv : Vis X.env.scope x) (hd : (x == ("__debug__" : Str)) = false) (hcd : (x == ("__classdict__" : Str)) = false) : JE X cv W (.Name x pos) (eV i) :=
  PE.imp (pe_var hN hv hd hcd) fun σ H Q ⟨ρ, F, r, q⟩ => by
    unfold eV at q
    cases h : ρ[i]? with
    | none => rw [h] at q; exact q.elim
    | some c =>
      rw [h] at q
      cases c with
      | un => exact q.elim
      | ow ds => exact q.elim
      | ob k fs => exact q.elim
      | ro k fs => exact q.elim
      | fr d =>
        obtain ⟨v, e, hd⟩ := r.cell i _ h
        exact ⟨v, e, q v F H (Evo.refl r.le) hd⟩
theorem j_pk {i : Nat} {x : Str} (hN : X.N[i]? = some x) (hv : Vis X.env.scope x) (hd : (x == ("__debug__" : Str)) = false) (hcd : (x == ("__classdict__" : Str)) = false) : JW X cv W (.Name x pos) (eK i) :=
  PE.imp (pe_var hN hv hd hcd) fun σ H Q ⟨ρ, F, r, q⟩ => by
    unfold eK at q
    cases h : ρ[i]? with
    | none => rw [h] at q; exact q.elim
    | some c =>
      rw [h] at q
      cases c with
      | un => exact q.elim
      | ob k fs => exact q.elim
      | ro k fs => exact q.elim
      | ow ds =>
        obtain ⟨p, xs, e, h1, h2, h3⟩ := r.cell i _ h
        exact ⟨_, e, q _ F H (Evo.refl r.le) (.inr ⟨p, xs, ds, rfl, rfl, h1, h3⟩)⟩
      | fr d =>
        obtain ⟨v, e, hd⟩ := r.cell i _ h
        exact ⟨v, e, q v F H (Evo.refl r.le) (.inl hd)⟩
theorem j_c {v : V} {d : D} (h : PE X a (tC v)) (hd : ∀ F, Dr F v d) : JE X cv W a (eC d) :=
  PE.imp h fun σ H Q ⟨ρ, F, r, q⟩ => q v F H (Evo.refl r.le) (hd F)
theorem j_e1 {op : UnaryOp} {g : D → Rp} (ho : UnR X (unaryOp op) (rG1 g)) (ha : JW X cv W a ma) : JE X cv W (.UnaryOp op a pos) (e1 g ma) :=
  PE.imp (pe_un ho ha) fun σ H Q ⟨ρ, F, r, q⟩ => by
    refine ⟨ρ, F, r, ?_⟩
    unfold e1 at q
    cases h : ma ρ with
    | ok d => rw [h] at q; exact fun v F1 H1 ev wk => ⟨F1, d, ev.le, wk, GotP.of (GotE.evo ev q)⟩
    | new d => rw [h] at q; exact fun v F1 H1 ev wk => ⟨F1, _, ev.le, wk, GotP.of (GotE.evo ev q)⟩
    | exc c => rw [h] at q; exact q
    | bad => rw [h] at q; exact q
/-- two expressions in a row, read at once -/
theorem rd2 {g : D → D → Res} {σ : L2.St} {H : Hp} {Q : V → V → Hp → Prop} {ρ : Rho} {F : Hp} {R : Res → Hp → Hp → Prop} (r : Rel cv ρ σ F H) (hX : ∀ c F H, R (.exc c) F H → QX cv W F H σ c) (hB : ∀ F H, ¬ R .bad F H)
    (mono : ∀ z F H F' H', Evo F H F' H' → R z F H → R z F' H')
    (q : R ((ma ρ).bind fun x => (mb ρ).bind fun y => g x y) F H) (k : ∀ x y dx dy F H, Ex F H → Wk F H x dx → Wk F H y dy → R (g dx dy) F H → Q x y H) :
    rdW cv W ma σ H fun x H1 => rdW cv W mb σ H1 fun y H2 => Q x y H2 := by
  have go : ∀ d, R ((mb ρ).bind fun y => g d y) F H → ∀ v F1 H1, Evo F H F1 H1 → Wk F1 H1 v d → rdW cv W mb σ H1 fun y H2 => Q v y H2 := fun d q v F1 H1 ev wk => by
    refine ⟨ρ, F1, r.evo ev, ?_⟩
    have fin : ∀ d2, R (g d d2) F H → QW F1 H1 d2 fun y H2 => Q v y H2 := fun d2 q v2 F2 H2 ev2 wk2 => k v v2 d d2 F2 H2 ev2.le (wk.evo ev2) wk2 (mono _ _ _ _ _ (ev.trans ev2) q)
    cases h : mb ρ with
    | ok d2 => rw [h] at q; exact fin d2 q
    | new d2 => rw [h] at q; exact fin _ q
    | exc c => rw [h] at q; exact (hX _ _ _ q).evo ev
    | bad => rw [h] at q; exact (hB _ _ q).elim
  refine ⟨ρ, F, r, ?_⟩
  cases h : ma ρ with
  | ok d => rw [h] at q; exact go d q
  | new d => rw [h] at q; exact go _ q
  | exc c => rw [h] at q; exact hX _ _ _ q
  | bad => rw [h] at q; exact (hB _ _ q).elim
theorem j_op {op : Operator} {g : D → D → Rp} (ho : OpR X (binaryOp op) (rG g)) (ha : JW X cv W a ma) (hb : JW X cv W b mb) : JE X cv W (.BinOp a op b pos) (e2 g ma mb) :=
  PE.imp (pe_op ho ha hb) fun σ H Q ⟨ρ, F, r, q⟩ =>
    rd2 (g := fun x y => (g x y).up) (R := fun z F H => GotE cv W F H σ Q z) r (fun _ _ _ h => h) (fun _ _ h => h) (fun _ _ _ _ _ e h => GotE.evo e h) q
      fun x y dx dy F H le wx wy h => ⟨F, dx, dy, le, wx, wy, GotP.of h⟩
theorem j_cmp {op : CmpOp} {g : D → D → Rp} (ho : OpR X (compareOp op) (rG g)) (ha : JW X cv W a ma) (hb : JW X cv W b mb) (hm : behindInMarks op b = false) : JE X cv W (.Compare a [op] [b] pos) (e2 g ma mb) :=
  PE.imp (pe_cmpR ho ha hb hm) fun σ H Q ⟨ρ, F, r, q⟩ =>
    rd2 (g := fun x y => (g x y).up) (R := fun z F H => GotE cv W F H σ Q z) r (fun _ _ _ h => h) (fun _ _ h => h) (fun _ _ _ _ _ e h => GotE.evo e h) q
      fun x y dx dy F H le wx wy h => ⟨F, dx, dy, le, wx, wy, GotP.of h⟩
theorem j_ix {g : D → D → Rp} (ho : IxR X (rG g)) (ha : JW X cv W a ma) (hb : JW X cv W b mb) (hs : PlainIx b) : JE X cv W (.Subscript a b pos) (e2 g ma mb) :=
  PE.imp (pe_ix ho ha hb hs) fun σ H Q ⟨ρ, F, r, q⟩ =>
    rd2 (g := fun x y => (g x y).up) (R := fun z F H => GotE cv W F H σ Q z) r (fun _ _ _ h => h) (fun _ _ h => h) (fun _ _ _ _ _ e h => GotE.evo e h) q
      fun x y dx dy F H le wx wy h => ⟨F, dx, dy, le, wx, wy, GotP.of h⟩
end
end U
set_option Elab.async false
set_option linter.all false
set_option maxRecDepth 100000
set_option maxHeartbeats 4000000
namespace U
open PySem PySem.Spec PyProof.Rows L2
/-! ### tuple * int, any int -/
theorem tuple_mul1 (l : Addr) (items : Array Value) (n : Nat) (dd : Option Addr) (sl : Array (Option Value)) (x : Int) (u : Tok) (c0 : (decide (x < -(2 ^ 63)) || decide (x ≥ 2 ^ 63)) = false) (c1 : (items.isEmpty || x == 1) = true) :
    Meets (Builtin.«tuple.__mul__» ⟨[.ref l, .int x u], []⟩) (fun _ R s => s.heap.get? l = some { cls := .type "tuple", dict := dd, data := .seq items n, slots := sl } ∧ R (.ok (.ret (Value.ref l))) s) :=
  .of_wp fun prog w A R s h => by
    obtain ⟨hp, g, d, tk, os⟩ := s
    obtain ⟨hl, h⟩ := h
    have f1 := AutoSeq1.idx_int
    wp_walk using wpAny_loadPart' hl
    repeat (first
      | (refine wpAny_ite_false (decide_eq_false (by rw [c0]; exact Bool.false_ne_true)) ?_; wp_walk using wpAny_loadPart' hl)
      | (refine wpAny_ite_true (decide_eq_true c1) ?_; wp_walk using wpAny_loadPart' hl))
    exact ⟨_, rfl, h⟩
theorem tuple_mul0 (l : Addr) (items : Array Value) (n : Nat) (dd : Option Addr) (sl : Array (Option Value)) (x : Int) (u : Tok) (c0 : (decide (x < -(2 ^ 63)) || decide (x ≥ 2 ^ 63)) = false) (c1 : (items.isEmpty || x == 1) = false) (c2 : (decide (x ≤ 0) || items.isEmpty) = true) :
    Meets (Builtin.«tuple.__mul__» ⟨[.ref l, .int x u], []⟩) (fun _ R s => s.heap.get? l = some { cls := .type "tuple", dict := dd, data := .seq items n, slots := sl } ∧
      R (.ok (.ret (Value.ref s.heap.objs.size))) { s with heap := s.heap.push { cls := Value.type "tuple", data := Data.seq #[] }, toks := s.toks }) :=
  .of_wp fun prog w A R s h => by
    obtain ⟨hp, g, d, tk, os⟩ := s
    obtain ⟨hl, h⟩ := h
    have f1 := AutoSeq1.idx_int
    have hz : ¬ (#[] : Array Value).size > sizeLine := by decide
    wp_walk using wpAny_loadPart' hl
    repeat (first
      | (refine wpAny_ite_false (decide_eq_false (by rw [c0]; exact Bool.false_ne_true)) ?_; wp_walk using wpAny_loadPart' hl)
      | (refine wpAny_ite_false (decide_eq_false (by rw [c1]; exact Bool.false_ne_true)) ?_; wp_walk using wpAny_loadPart' hl)
      | (refine wpAny_ite_true (decide_eq_true c2) ?_; wp_walk using wpAny_loadPart' hl)
      | (refine wpAny_ite_false (decide_eq_false hz) ?_; wp_walk using wpAny_loadPart' hl))
    exact ⟨_, rfl, h⟩
/-- what is read as a list stands as one -/
theorem Inv.rdl {X : Cx} {pins : List (Addr × Obj)} {σ : L2.St} {H : Hp} {s : Shared} {p : Addr} {xs : List V} (I : Inv X pins σ H s) (h : Rd H p (.lst xs)) :
    xs.length ≤ sizeLine ∧ ∃ (its : List Value) (n : Nat), Vals xs its ∧ s.heap.get? p = some { cls := .type "list", data := .seq its.toArray n } := h.ok I.hok
def rRepA : R2 := fun x y H Q => ∃ l k xs, x = .ref l ∧ y = .int k ∧ H l = some (.tup xs) ∧ -1000 ≤ k ∧ k ≤ 1000 ∧ xs.length ≤ 1000 ∧ ((xs = [] ∨ k = 1) → Q (.ref l) H) ∧ (xs ≠ [] → k ≠ 1 → ∀ p, H p = none → Q (.ref p) (upd H p (.tup (List.replicate k.toNat xs).flatten)))
section
variable {X : Cx}
theorem op_repA : OpR X (binaryOp .Mult) rRepA := by
  intro pins s σ H x y v u Q I rx ry h
  obtain ⟨l, k, xs, rfl, rfl, hT, h1, h2, hz, q1, q2⟩ := h
  by_cases hk : 2 ≤ k ∧ xs ≠ []
  · exact op_repT pins s σ H _ _ v u Q I rx ry ⟨l, k, xs, rfl, rfl, .inl (.inl hT), hk.2, hk.1, h2, hz, q2 hk.2 (by omega)⟩
  cases rx
  obtain ⟨t, rfl⟩ := ry
  obtain ⟨its, r, ⟨⟨cls, dd, data, sl⟩, ho, hc, n, hd⟩, hs⟩ := I.tuple (.inl (.inl hT))
  simp only at hc hd
  subst hc hd
  have hle : its.length = xs.length := r.length.symm
  have c0 : (decide (k < -(2 ^ 63)) || decide (k ≥ 2 ^ 63)) = false := by
    rw [decide_eq_false (by omega), decide_eq_false (by omega)] <;> rfl
  by_cases e1 : xs = [] ∨ k = 1
  · have c1 : (its.toArray.isEmpty || k == 1) = true := by
      rcases e1 with e | e
      · have : its = [] := List.eq_nil_of_length_eq_zero (by rw [hle, e]; rfl)
        subst this; rfl
      · subst e; simp
    exact wpAny_binaryOp_repeat_ref (T := "tuple") (U := "int") (by decide) ⟨_, ho, rfl⟩ (fun s' => typeIs_int s' k t) noFill_tuple_mul F.fills_int_mul F.slot_int_rmul repeat_tuple F.slot_int_index.lookup
      (call_meets F.slot_int_rmul (typeIs_int s k t) F.entry_int_rmul (F.args_int_rmul_2 _ _) (int_rmul_tuple k t l its.toArray n dd sl)
        ⟨ho, rfl, ⟨_, ho, rfl⟩, call_meets F.slot_tuple_mul ⟨_, ho, rfl⟩ F.entry_tuple_mul (F.args_tuple_mul_2 _ _) (tuple_mul1 l its.toArray n dd sl k t c0 c1) ⟨ho, .ref l, H, I, rfl, q1 e1⟩⟩)
  · have hne : xs ≠ [] := fun e => e1 (.inl e)
    have hk1 : k ≠ 1 := fun e => e1 (.inr e)
    have hn : its ≠ [] := fun e => hne (by
      rw [e] at hle
      exact List.eq_nil_of_length_eq_zero hle.symm)
    have hi : its.toArray.isEmpty = false := by
      cases its with
      | nil => exact absurd rfl hn
      | cons a b => rfl
    have hk0 : k ≤ 0 := by
      have : ¬ 2 ≤ k := fun z => hk ⟨z, hne⟩
      omega
    have c1 : (its.toArray.isEmpty || k == 1) = false := by
      rw [hi, Bool.false_or]
      exact beq_eq_false_iff_ne.mpr hk1
    have c2 : (decide (k ≤ 0) || its.toArray.isEmpty) = true := by
      rw [decide_eq_true hk0]; rfl
    refine wpAny_binaryOp_repeat_ref (T := "tuple") (U := "int") (by decide) ⟨_, ho, rfl⟩ (fun s' => typeIs_int s' k t) noFill_tuple_mul F.fills_int_mul F.slot_int_rmul repeat_tuple F.slot_int_index.lookup
      (call_meets F.slot_int_rmul (typeIs_int s k t) F.entry_int_rmul (F.args_int_rmul_2 _ _) (int_rmul_tuple k t l its.toArray n dd sl)
        ⟨ho, rfl, ⟨_, ho, rfl⟩, call_meets F.slot_tuple_mul ⟨_, ho, rfl⟩ F.entry_tuple_mul (F.args_tuple_mul_2 _ _) (tuple_mul0 l its.toArray n dd sl k t c0 c1 c2) ⟨ho, ?_⟩⟩)
    have e0 : k.toNat = 0 := by omega
    have q := q2 hne hk1 _ (I.hok.fresh (Nat.le_refl _))
    rw [e0] at q
    refine ⟨.ref s.heap.objs.size, _, I.laid (t' := s.toks) (o := .tup []) (fun b ob q => Heap.get?_push_of_some _ q) (Nat.le_refl _) ?_, rfl, q⟩
    exact ⟨Nat.zero_le _, [], .nil, IsTup.new _ _⟩
/-! ### lists + lists, lists * ints -/
def rCatR : R2 := fun x y H Q => ∃ l b xs zs, x = .ref l ∧ y = .ref b ∧ Rd H l (.lst xs) ∧ Rd H b (.lst zs) ∧ xs.length + zs.length ≤ sizeLine ∧ ∀ p, H p = none → Q (.ref p) (upd H p (.lst (xs ++ zs)))
theorem op_catR : OpR X (binaryOp .Add) rCatR := by
  intro pins s σ H x y v u Q I rx ry h
  obtain ⟨l, b, xs, zs, rfl, rfl, hH, hB, hz, q⟩ := h
  cases rx
  cases ry
  obtain ⟨z, its, n, r, e⟩ := Inv.rdl I hH
  obtain ⟨z2, its2, n2, r2, e2⟩ := Inv.rdl I hB
  have hl := r.length
  have hl2 := r2.length
  refine PySem.P.add_list e e2 ?_ (by rw [List.size_toArray, List.size_toArray]; omega)
  have ea : its.toArray ++ its2.toArray = (its ++ its2).toArray := by simp
  rw [ea]
  exact ⟨.ref _, _, I.lnew (t' := s.toks) (r.append r2) (by rw [List.length_append]; omega), rfl, q _ I.fresh⟩
/-! ### // by any divisor but 0 -/
def CDivA (_ j : Int) : Prop := j ≠ 0 ∧ j.natAbs.log2 < 9000
theorem op_fdivA : OpR X (binaryOp .FloorDiv) (rI CDivA fun i j => .int (i.fdiv j)) := opI fun _ _ _ _ _ _ _ hc q => floordiv_int hc.1 q (.inl (PyProof.noPylong_of_log2 hc.2))
theorem op_mulA : OpR X (binaryOp .Mult) (rI IntMulOk fun i j => .int (i * j)) := opI fun _ _ _ _ _ _ _ hc q => mul_int q hc
end
end U
set_option Elab.async false
set_option linter.all false
set_option maxRecDepth 100000
set_option maxHeartbeats 4000000
namespace U
open PySem PySem.Spec PyProof.Rows L2
/-! ### operations on data -/
def MulOk (i j : Int) : Prop := i.natAbs < 2 ^ 64 ∨ j.natAbs < 2 ^ 64 ∨ (i.natAbs < 2 ^ 400000 ∧ j.natAbs < 2 ^ 400000)
instance (i j : Int) : Decidable (MulOk i j) := by unfold MulOk; infer_instance
theorem MulOk.ok {i j : Int} (h : MulOk i j) : IntMulOk i j := by
  rcases h with h | h | ⟨h, k⟩
  · exact CMul.ok (.inl (by omega))
  · exact CMul.ok (.inr (by omega))
  · exact CMulW.ok (wide_mul h k (by omega) (by omega) (by omega))
def DivOk (j : Int) : Prop := j ≠ 0 ∧ j.natAbs < 2 ^ 9000
instance (j : Int) : Decidable (DivOk j) := by unfold DivOk; infer_instance
def gAdd : D → D → Rp
  | .int i, .int j => .ok (.int (i + j))
  | .str x, .str y => if x.length + y.length ≤ 100000 then .ok (.str (x ++ y)) else .bad
  | .list xs, .list ys => if xs.length + ys.length ≤ 100000 then .new (xs ++ ys) else .bad
  | .tuple xs, .tuple ys => if xs.length + ys.length ≤ 100000 then .ok (.tuple (xs ++ ys)) else .bad
  | _, _ => .bad
def gSub : D → D → Rp
  | .int i, .int j => .ok (.int (i - j))
  | _, _ => .bad
def gMul : D → D → Rp
  | .int i, .int j => if MulOk i j then .ok (.int (i * j)) else .bad
  | .list xs, .int k => if -1000 ≤ k ∧ k ≤ 1000 ∧ xs.length ≤ 1000 then .new (List.replicate k.toNat xs).flatten else .bad
  | .tuple xs, .int k => if -1000 ≤ k ∧ k ≤ 1000 ∧ xs.length ≤ 1000 then .ok (.tuple (List.replicate k.toNat xs).flatten) else .bad
  | _, _ => .bad
def gFdiv : D → D → Rp
  | .int i, .int j => if DivOk j then .ok (.int (i.fdiv j)) else .bad
  | _, _ => .bad
def gMod : D → D → Rp
  | .int i, .int j => if j ≠ 0 then .ok (.int (i.fmod j)) else .bad
  | _, _ => .bad
def gPow : D → D → Rp
  | .int i, .int j => if 0 ≤ j ∧ j ≤ 1000000 ∧ i.natAbs < 2 ^ 64 then .ok (.int (i ^ j.toNat)) else .bad
  | _, _ => .bad
def gNeg : D → Rp
  | .int i => .ok (.int (-i))
  | _ => .bad
def gLt : D → D → Rp
  | .int i, .int j => .ok (.bool (decide (i < j)))
  | _, _ => .bad
def gLe : D → D → Rp
  | .int i, .int j => .ok (.bool (decide (i ≤ j)))
  | _, _ => .bad
def gGt : D → D → Rp
  | .int i, .int j => .ok (.bool (decide (j < i)))
  | _, _ => .bad
def gGe : D → D → Rp
  | .int i, .int j => .ok (.bool (decide (j ≤ i)))
  | _, _ => .bad
def gEq : D → D → Rp
  | .int i, .int j => .ok (.bool (decide (i = j)))
  | d, e => if SeqAt.shaped d = true ∧ SeqAt.shaped e = true then .ok (.bool (PyData.eqv d e)) else .bad
def gNe : D → D → Rp
  | .int i, .int j => .ok (.bool (!decide (i = j)))
  | d, e => if SeqAt.shaped d = true ∧ SeqAt.shaped e = true then .ok (.bool (!PyData.eqv d e)) else .bad
def isNone : D → Bool
  | .none => true
  | _ => false
def gIs : D → D → Rp
  | d, .none => .ok (.bool (isNone d))
  | .bool a, .bool b => .ok (.bool (decide (a = b)))
  | _, _ => .bad
def gIsNot : D → D → Rp
  | d, .none => .ok (.bool (!isNone d))
  | .bool a, .bool b => .ok (.bool (!decide (a = b)))
  | _, _ => .bad
def optR : Option D → Rp
  | some d => .ok d
  | none => .bad
@[simp] theorem optR_some (d : D) : optR (some d) = .ok d := rfl
@[simp] theorem optR_none : optR none = .bad := rfl
def gIx : D → D → Rp
  | .list xs, .int i => optR (atI xs i)
  | .tuple xs, .int i => optR (atI xs i)
  | .str z, .int i => if z.length ≤ 100000 then optR ((atI z.cps.toList i).map fun c => .str ⟨#[c]⟩) else .bad
  | _, _ => .bad
/-! ### their rules -/
theorem QD.int {F H : Hp} {i : Int} {Q : VK} (le : Ex F H) (h : QD F H (.int i) Q) : Q (.int i) H := h _ F H (Evo.refl le) (.int i)
theorem QD.bool {F H : Hp} {i : Bool} {Q : VK} (le : Ex F H) (h : QD F H (.bool i) Q) : Q (.bl i) H := h _ F H (Evo.refl le) (.bl i)
theorem QD.str {F H : Hp} {i : Str} {Q : VK} (le : Ex F H) (h : QD F H (.str i) Q) : Q (.str i) H := h _ F H (Evo.refl le) (.str i)
theorem QD.dr {F H : Hp} {d : D} {v : V} {Q : VK} (le : Ex F H) (h : QD F H d Q) (hd : Dr F v d) : Q v H := h _ F H (Evo.refl le) hd
/-- a new tuple -/
theorem QD.tup {F H : Hp} {ds : List D} {xs : List V} {Q : VK} (le : Ex F H) (h : QD F H (.tuple ds) Q) (hd : DrAll F xs ds) {p : Addr} (hp : H p = none) : Q (.ref p) (upd H p (.tup xs)) :=
  h _ _ _ ((Evo.refl le).put hp) (.tup upd_same (dps_mono (Evl.Ex.new (none_back le hp)) hd))
/-- a new list -/
theorem QN.lst {F H : Hp} {ds : List D} {xs : List V} {Q : VK} (le : Ex F H) (h : QN F H ds Q) (hd : DrAll F xs ds) {p : Addr} (hp : H p = none) : Q (.ref p) (upd H p (.lst xs)) :=
  h p xs F _ ((Evo.refl le).own hp) hp (none_back le hp) upd_same hd
theorem if_bad {P : Prop} [Decidable P] {F H : Hp} {Q : VK} {r : Rp} (h : GotP F H Q (if P then r else .bad)) : P ∧ GotP F H Q r := by
  by_cases p : P
  · rw [if_pos p] at h; exact ⟨p, h⟩
  · rw [if_neg p] at h; exact h.elim
theorem of_optR {F H : Hp} {Q : VK} {o : Option D} (h : GotP F H Q (optR o)) : ∃ d, o = some d ∧ QD F H d Q := by
  cases o with
  | none => exact h.elim
  | some d => exact ⟨d, rfl, h⟩
section
variable {X : Cx}
theorem o_add : OpR X (binaryOp .Add) (rG gAdd) := by
  intro pins s σ H x y v u Q I rx ry ⟨F, dx, dy, le, wx, wy, q⟩
  cases dx <;> cases dy <;> try exact q.elim
  · cases wx.int; cases wy.int
    exact op_add pins s σ H _ _ v u Q I rx ry ⟨_, _, rfl, rfl, QD.int le q⟩
  · cases wx.str; cases wy.str
    obtain ⟨hz, q⟩ := if_bad q
    exact op_add_str pins s σ H _ _ v u Q I rx ry ⟨_, _, rfl, rfl, Evl.sz_of hz, QD.str le q⟩
  · obtain ⟨p, xs, rfl, hp, hx⟩ := wx.list le
    obtain ⟨p2, ys, rfl, hp2, hy⟩ := wy.list le
    obtain ⟨hz, q⟩ := if_bad q
    rw [← dps_len hx, ← dps_len hy] at hz
    exact op_catR pins s σ H _ _ v u Q I rx ry ⟨_, _, _, _, rfl, rfl, hp, hp2, Evl.sz_of hz, fun l hl => QN.lst le q (dps_app hx hy) hl⟩
  · obtain ⟨p, xs, rfl, hpF, hp, hx⟩ := wx.tuple le
    obtain ⟨p2, ys, rfl, hp2F, hp2, hy⟩ := wy.tuple le
    obtain ⟨hz, q⟩ := if_bad q
    rw [← dps_len hx, ← dps_len hy] at hz
    refine op_catA pins s σ H _ _ v u Q I rx ry ⟨_, _, _, _, rfl, rfl, .inl (.inl hp), .inl (.inl hp2), Evl.sz_of hz, fun e => ?_, fun e1 e2 => ?_, fun _ _ l hl => QD.tup le q (dps_app hx hy) hl⟩
    · subst e
      cases hx
      exact q.dr le (.tup hp2F hy)
    · subst e2
      cases hy
      rw [List.append_nil] at q
      exact q.dr le (.tup hpF hx)
theorem o_sub : OpR X (binaryOp .Sub) (rG gSub) := by
  intro pins s σ H x y v u Q I rx ry ⟨F, dx, dy, le, wx, wy, q⟩
  cases dx <;> cases dy <;> try exact q.elim
  cases wx.int; cases wy.int
  exact op_sub pins s σ H _ _ v u Q I rx ry ⟨_, _, rfl, rfl, QD.int le q⟩
def rRepR : R2 := fun x y H Q => ∃ l k xs, x = .ref l ∧ y = .int k ∧ Rd H l (.lst xs) ∧ -1000 ≤ k ∧ k ≤ 1000 ∧ xs.length ≤ 1000 ∧ ∀ p, H p = none → Q (.ref p) (upd H p (.lst (List.replicate k.toNat xs).flatten))
theorem o_repR : OpR X (binaryOp .Mult) rRepR := by
  intro pins s σ H x y v u Q I rx ry ⟨l, k, xs, ex, ey, hH, h1, h2, h3, q⟩
  subst ex ey
  cases rx
  obtain ⟨t, rfl⟩ := ry
  obtain ⟨z, its, n, r, e⟩ := Inv.rdl I hH
  have hl : xs.length = its.length := r.length
  have hb : its.length * k.toNat ≤ 1000 * 1000 := Nat.mul_le_mul (by omega) (by omega)
  have hlen : its.toArray.size * k.toNat ≤ sizeLine := by rw [List.size_toArray, sizeLine_eq]; omega
  have A1 : ¬ its.toArray.size * k.toNat > (2 ^ 63 - 1) / 8 := by rw [List.size_toArray]; omega
  have A2 : ¬ (!Builtin.List.listFitsIndex k) = true := by rw [fitsIndex_both (by omega) (by omega)]; exact Bool.false_ne_true
  have A3 : ¬ Builtin.List.listTooLong (its.toArray.size * k.toNat) = true := by rw [notLongL hlen]; exact Bool.false_ne_true
  have A4 : List.foldl (fun x1 x2 => x1 ++ x2) #[] (List.replicate (if its.toArray.isEmpty = true then 0 else k.toNat) its.toArray) = (List.replicate k.toNat its).flatten.toArray := by
    rw [size_rep]
    cases its with
    | nil => simp
    | cons a r' => rw [if_neg (by simp)]
  refine wpAny_binaryOp_repeat_ref (T := "list") (U := "int") (by decide) ⟨_, e, rfl⟩ (fun s' => typeIs_int s' k t) noFill_list_mul F.fills_int_mul F.slot_int_rmul repeat_list F.slot_int_index.lookup
    (call_meets F.slot_int_rmul (typeIs_int s k t) F.entry_int_rmul (F.args_int_rmul_2 _ _) (int___rmul___int_list k t l its.toArray n) ⟨e, rfl, ⟨_, e, rfl⟩, call_meets F.slot_list_mul ⟨_, e, rfl⟩ F.entry_list_mul (F.args_list_mul_2 _ _) (AutoListH.list___mul___list_int_3 l its.toArray n k t A2 A1 A3) ⟨e, ?_⟩⟩)
  rw [A4]
  exact ⟨.ref _, _, I.lnew (t' := s.toks) (r.rep k.toNat) (by rw [PyProof.Rows.lm_len_rep_flat, Nat.mul_comm, hl]; simpa using hlen), rfl, q _ I.fresh⟩
theorem o_mul : OpR X (binaryOp .Mult) (rG gMul) := by
  intro pins s σ H x y v u Q I rx ry ⟨F, dx, dy, le, wx, wy, q⟩
  cases dx <;> cases dy <;> try exact q.elim
  · cases wx.int; cases wy.int
    obtain ⟨hz, q⟩ := if_bad q
    exact op_mulA pins s σ H _ _ v u Q I rx ry ⟨_, _, rfl, rfl, hz.ok, QD.int le q⟩
  · obtain ⟨p, xs, rfl, hp, hx⟩ := wx.list le
    cases wy.int
    obtain ⟨⟨h1, h2, h3⟩, q⟩ := if_bad q
    exact o_repR pins s σ H _ _ v u Q I rx ry ⟨_, _, _, rfl, rfl, hp, h1, h2, by rw [dps_len hx]; exact h3, fun l hl => QN.lst le q (dps_rep hx _) hl⟩
  · obtain ⟨p, xs, rfl, hpF, hp, hx⟩ := wx.tuple le
    cases wy.int
    obtain ⟨⟨h1, h2, h3⟩, q⟩ := if_bad q
    refine op_repA pins s σ H _ _ v u Q I rx ry ⟨_, _, _, rfl, rfl, hp, h1, h2, by rw [dps_len hx]; exact h3, fun e => ?_, fun _ _ l hl => QD.tup le q (dps_rep hx _) hl⟩
    rcases e with e | e
    · subst e; cases hx
      have : (List.replicate (Int.toNat ‹Int›) ([] : List D)).flatten = [] := by simp
      simp only [List.flatten_replicate_nil] at q
      exact q.dr le (.tup hpF .nil)
    · subst e
      have q' : QD F H (.tuple (List.replicate (Int.toNat 1) _).flatten) Q := q
      have e1 : Int.toNat 1 = 1 := rfl
      rw [e1, List.replicate_one, List.flatten_singleton] at q'
      exact q'.dr le (.tup hpF hx)
theorem o_fdiv : OpR X (binaryOp .FloorDiv) (rG gFdiv) := by
  intro pins s σ H x y v u Q I rx ry ⟨F, dx, dy, le, wx, wy, q⟩
  cases dx <;> cases dy <;> try exact q.elim
  cases wx.int; cases wy.int
  obtain ⟨hz, q⟩ := if_bad q
  exact op_fdivA pins s σ H _ _ v u Q I rx ry ⟨_, _, rfl, rfl, ⟨hz.1, PySem.Flt.log2_lt_of (by omega) hz.2⟩, QD.int le q⟩
theorem o_mod : OpR X (binaryOp .Mod) (rG gMod) := by
  intro pins s σ H x y v u Q I rx ry ⟨F, dx, dy, le, wx, wy, q⟩
  cases dx <;> cases dy <;> try exact q.elim
  cases wx.int; cases wy.int
  obtain ⟨hz, q⟩ := if_bad q
  exact op_modN pins s σ H _ _ v u Q I rx ry ⟨_, _, rfl, rfl, hz, QD.int le q⟩
theorem o_pow : OpR X (binaryOp .Pow) (rG gPow) := by
  intro pins s σ H x y v u Q I rx ry ⟨F, dx, dy, le, wx, wy, q⟩
  cases dx <;> cases dy <;> try exact q.elim
  cases wx.int; cases wy.int
  obtain ⟨hz, q⟩ := if_bad q
  exact op_pow pins s σ H _ _ v u Q I rx ry ⟨_, _, rfl, rfl, hz, QD.int le q⟩
theorem o_neg : UnR X (unaryOp .USub) (rG1 gNeg) := by
  intro pins s σ H x v Q I rx ⟨F, dx, le, wx, q⟩
  cases dx <;> try exact q.elim
  cases wx.int
  exact un_neg pins s σ H _ v Q I rx ⟨_, rfl, QD.int le q⟩
theorem o_lt : OpR X (compareOp .Lt) (rG gLt) := by
  intro pins s σ H x y v u Q I rx ry ⟨F, dx, dy, le, wx, wy, q⟩
  cases dx <;> cases dy <;> try exact q.elim
  cases wx.int; cases wy.int
  exact op_lt pins s σ H _ _ v u Q I rx ry ⟨_, _, rfl, rfl, QD.bool le q⟩
theorem o_le : OpR X (compareOp .LtE) (rG gLe) := by
  intro pins s σ H x y v u Q I rx ry ⟨F, dx, dy, le, wx, wy, q⟩
  cases dx <;> cases dy <;> try exact q.elim
  cases wx.int; cases wy.int
  exact op_le pins s σ H _ _ v u Q I rx ry ⟨_, _, rfl, rfl, QD.bool le q⟩
theorem o_gt : OpR X (compareOp .Gt) (rG gGt) := by
  intro pins s σ H x y v u Q I rx ry ⟨F, dx, dy, le, wx, wy, q⟩
  cases dx <;> cases dy <;> try exact q.elim
  cases wx.int; cases wy.int
  exact op_gt pins s σ H _ _ v u Q I rx ry ⟨_, _, rfl, rfl, QD.bool le q⟩
theorem o_ge : OpR X (compareOp .GtE) (rG gGe) := by
  intro pins s σ H x y v u Q I rx ry ⟨F, dx, dy, le, wx, wy, q⟩
  cases dx <;> cases dy <;> try exact q.elim
  cases wx.int; cases wy.int
  exact op_ge pins s σ H _ _ v u Q I rx ry ⟨_, _, rfl, rfl, QD.bool le q⟩
theorem o_eq (hu : X.A.units + 64 < cLine) : OpR X (compareOp .Eq) (rG gEq) := by
  intro pins s σ H x y v u Q I rx ry ⟨F, dx, dy, le, wx, wy, q⟩
  have deep : (SeqAt.shaped dx = true ∧ SeqAt.shaped dy = true) ∧ GotP F H Q (.ok (.bool (PyData.eqv dx dy))) → wpAny (model X.prog X.w) X.A (compareOp .Eq v u) (EP X pins σ Q) X.xe s := fun ⟨⟨h1, h2⟩, q⟩ =>
    op_eqD hu pins s σ H x y v u Q I rx ry ⟨dx, dy, (wx.dp le).dp (SeqAt.canLay_of_shaped h1), (wy.dp le).dp (SeqAt.canLay_of_shaped h2), h1, h2, QD.bool le q⟩
  cases dx <;> cases dy <;> exact deep (if_bad q)
theorem o_ne (hu : X.A.units + 64 < cLine) : OpR X (compareOp .NotEq) (rG gNe) := by
  intro pins s σ H x y v u Q I rx ry ⟨F, dx, dy, le, wx, wy, q⟩
  have deep : (SeqAt.shaped dx = true ∧ SeqAt.shaped dy = true) ∧ GotP F H Q (.ok (.bool (!PyData.eqv dx dy))) → wpAny (model X.prog X.w) X.A (compareOp .NotEq v u) (EP X pins σ Q) X.xe s := fun ⟨⟨h1, h2⟩, q⟩ =>
    op_neD hu pins s σ H x y v u Q I rx ry ⟨dx, dy, (wx.dp le).dp (SeqAt.canLay_of_shaped h1), (wy.dp le).dp (SeqAt.canLay_of_shaped h2), h1, h2, QD.bool le q⟩
  cases dx <;> cases dy <;> exact deep (if_bad q)
theorem isNone_v {F H : Hp} {x : V} {d : D} (wx : Wk F H x d) : decide (x = .non) = isNone d := by
  cases d
  · cases wx.none; rfl
  · cases wx.bool; rfl
  · cases wx.int; rfl
  · cases wx.str; rfl
  · rcases wx with h | ⟨p, xs, ds', rfl, e, h, hs⟩
    · cases h; rfl
    · rfl
  · rcases wx with h | ⟨p, xs, ds', rfl, e, h, hs⟩
    · cases h; rfl
    · rfl
  · rcases wx with h | ⟨p, xs, ds', rfl, e, h, hs⟩
    · cases h; rfl
    · cases e
theorem o_is : OpR X (compareOp .Is) (rG gIs) := by
  intro pins s σ H x y v u Q I rx ry ⟨F, dx, dy, le, wx, wy, q⟩
  have deep : dy = .none → GotP F H Q (.ok (.bool (isNone dx))) → wpAny (model X.prog X.w) X.A (compareOp .Is v u) (EP X pins σ Q) X.xe s := fun e q => by
    subst e
    cases wy.none
    exact op_isN pins s σ H _ _ v u Q I rx ry ⟨rfl, by rw [isNone_v wx]; exact QD.bool le q⟩
  cases dy
  · exact deep rfl (by cases dx <;> exact q)
  · cases dx <;> try exact q.elim
    cases wx.bool; cases wy.bool
    exact op_isBl pins s σ H _ _ v u Q I rx ry ⟨_, _, rfl, rfl, QD.bool le q⟩
  all_goals (cases dx <;> exact q.elim)
theorem o_isnot : OpR X (compareOp .IsNot) (rG gIsNot) := by
  intro pins s σ H x y v u Q I rx ry ⟨F, dx, dy, le, wx, wy, q⟩
  have deep : dy = .none → GotP F H Q (.ok (.bool (!isNone dx))) → wpAny (model X.prog X.w) X.A (compareOp .IsNot v u) (EP X pins σ Q) X.xe s := fun e q => by
    subst e
    cases wy.none
    exact op_notN pins s σ H _ _ v u Q I rx ry ⟨rfl, by rw [isNone_v wx]; exact QD.bool le q⟩
  cases dy
  · exact deep rfl (by cases dx <;> exact q)
  · cases dx <;> try exact q.elim
    cases wx.bool; cases wy.bool
    exact op_notBl pins s σ H _ _ v u Q I rx ry ⟨_, _, rfl, rfl, QD.bool le q⟩
  all_goals (cases dx <;> exact q.elim)
theorem dps_at {F : Hp} {vs : List V} {ds : List D} {i : Int} {d : D} (h : DrAll F vs ds) (e : atI ds i = some d) : ∃ v, atI vs i = some v ∧ Dr F v d := by
  unfold atI at e ⊢
  rw [dps_len h]
  cases hk : ixN ds.length i with
  | none => rw [hk] at e; cases e
  | some j =>
    rw [hk] at e
    obtain ⟨v, h1, h2⟩ := dps_get h (show ds[j]? = some d from e)
    exact ⟨v, h1, h2⟩
theorem o_ix : IxR X (rG gIx) := by
  intro va sl pins s σ H x y v u Q I rx ry ⟨F, dx, dy, le, wx, wy, q⟩ hs
  cases dx <;> cases dy <;> try exact q.elim
  · cases wx.str; cases wy.int
    obtain ⟨hz, q⟩ := if_bad q
    obtain ⟨d, hd, q⟩ := of_optR q
    obtain ⟨c, hc, rfl⟩ := Option.map_eq_some_iff.mp hd
    exact ix_str va sl pins s σ H _ _ v u Q I rx ry ⟨_, _, c, rfl, rfl, Evl.sz_of hz, hc, QD.str le q⟩ hs
  · obtain ⟨p, xs, rfl, hp, hx⟩ := wx.list le
    cases wy.int
    obtain ⟨d, hd, q⟩ := of_optR q
    obtain ⟨w, h1, h2⟩ := dps_at hx hd
    exact ix_list va sl pins s σ H _ _ v u Q I rx ry ⟨_, _, _, w, rfl, rfl, .inl hp, h1, q.dr le h2⟩ hs
  · obtain ⟨p, xs, rfl, hpF, hp, hx⟩ := wx.tuple le
    cases wy.int
    obtain ⟨d, hd, q⟩ := of_optR q
    obtain ⟨w, h1, h2⟩ := dps_at hx hd
    exact ix_tup va sl pins s σ H _ _ v u Q I rx ry ⟨_, _, _, w, rfl, rfl, .inl (.inl hp), h1, q.dr le h2⟩ hs
end
end U
set_option Elab.async false
set_option linter.all false
set_option maxRecDepth 100000
set_option maxHeartbeats 4000000
namespace U
open PySem PySem.Spec PyProof.Rows L2
/-! ### slices -/
def cutL {α : Type} (xs : List α) (lo hi : Option Int) : List α := (xs.drop (HT.sIx xs.length 0 lo)).take (HT.sIx xs.length xs.length hi - HT.sIx xs.length 0 lo)
theorem dps_cut {F : Hp} {vs : List V} {ds : List D} (h : DrAll F vs ds) (lo hi : Option Int) : DrAll F (cutV vs lo hi) (cutL ds lo hi) := by
  unfold cutV cutL
  rw [dps_len h]
  exact dps_take _ (dps_drop _ h)
theorem cut_whole {α : Type} {xs : List α} {lo hi : Option Int} (h : HT.sIx xs.length 0 lo = 0 ∧ HT.sIx xs.length xs.length hi = xs.length) : cutL xs lo hi = xs := by
  unfold cutL
  rw [h.1, h.2]; simp
def gSl : D → Option Int → Option Int → Rp
  | .list xs, lo, hi => .new (cutL xs lo hi)
  | .tuple xs, lo, hi => .ok (.tuple (cutL xs lo hi))
  | .str z, lo, hi => if z.length ≤ 100000 then .ok (.str (cutS z lo hi)) else .bad
  | _, _, _ => .bad
def rGS (g : D → Option Int → Option Int → Rp) : V → Option Int → Option Int → Hp → VK → Prop := fun x lo hi H Q => ∃ F dx, Ex F H ∧ Wk F H x dx ∧ GotP F H Q (g dx lo hi)
def bindO (o : Option Sm) (ρ : Rho) (k : Option Int → Res) : Res := match o with
  | none => k none
  | some m => (m ρ).bind fun d => match d with
    | .int i => k (some i)
    | _ => .bad
def eSl (ma : Sm) (lo hi : Option Sm) : Sm := fun ρ => (ma ρ).bind fun x => bindO lo ρ fun l => bindO hi ρ fun h => (gSl x l h).up
section
variable {X : Cx} {cv : Nat → Value} {W : WX} {a b c : Expr} {m ma mb mc : Sm} {pos : Pos}
theorem o_sl : SlR X (rGS gSl) := by
  intro pins s σ H x v vl vu lo hi sl Q I rx hs pl pu ⟨F, dx, le, wx, q⟩
  cases dx <;> try exact q.elim
  · cases wx.str
    obtain ⟨hz, q⟩ := if_bad q
    exact sl_str pins s σ H _ v vl vu lo hi sl Q I rx hs pl pu ⟨_, rfl, Evl.sz_of hz, QD.str le q⟩
  · obtain ⟨p, xs, rfl, hp, hx⟩ := wx.list le
    exact sl_list pins s σ H _ v vl vu lo hi sl Q I rx hs pl pu ⟨_, _, rfl, .inl hp, fun l hl => QN.lst le q (dps_cut hx lo hi) hl⟩
  · obtain ⟨p, xs, rfl, hpF, hp, hx⟩ := wx.tuple le
    refine sl_tupA pins s σ H _ v vl vu lo hi sl Q I rx hs pl pu ⟨_, _, rfl, .inl (.inl hp), fun e => ?_, fun _ l hl => QD.tup le q (dps_cut hx lo hi) hl⟩
    rw [dps_len hx] at e
    have q' : QD F H (.tuple (cutL _ lo hi)) Q := q
    rw [cut_whole e] at q'
    exact q'.dr le (.tup hpF hx)
inductive JO (X : Cx) (cv : Nat → Value) (W : WX) : Option Expr → Option Sm → Prop
  | none : JO X cv W none none
  | some {e : Expr} {m : Sm} : JW X cv W e m → JO X cv W (some e) (some m)
def rdO (cv : Nat → Value) (W : WX) (o : Option Sm) : TO := match o with
  | none => tNoPart
  | some m => tPart (rdW cv W m)
theorem JO.po {lo : Option Expr} {m : Option Sm} (h : JO X cv W lo m) : PO X lo (rdO cv W m) := by
  cases h with
  | none => exact po_none
  | some h => exact po_some h
theorem rd_part {o : Option Sm} {σ : L2.St} {H F : Hp} {ρ : Rho} {Q : VK} {k : Option Int → Res} (r : Rel cv ρ σ F H) (q : GotE cv W F H σ Q (bindO o ρ k)) {R : Option Int → Hp → Prop} (hk : ∀ i F' H', Evo F H F' H' → GotE cv W F' H' σ Q (k i) → R i H') : rdO cv W o σ H R := by
  cases o with
  | none => exact hk none F H (Evo.refl r.le) q
  | some m =>
    refine ⟨ρ, F, r, ?_⟩
    unfold bindO at q
    simp only at q
    have go : ∀ d, GotE cv W F H σ Q (match d with | .int i => k (some i) | _ => .bad) → QW F H d fun x H1 => ∃ i, x = .int i ∧ R (some i) H1 := fun d q v F1 H1 ev wk => by
      cases d <;> try exact q.elim
      exact ⟨_, wk.int, hk _ F1 H1 ev (GotE.evo ev q)⟩
    cases h : m ρ with
    | ok d => rw [h] at q; exact go d q
    | new d => rw [h] at q; exact q.elim
    | exc c => rw [h] at q; exact q
    | bad => rw [h] at q; exact q
theorem j_sl {lo hi : Option Expr} {ml mh : Option Sm} {p2 : Pos} (ha : JW X cv W a ma) (hl : JO X cv W lo ml) (hh : JO X cv W hi mh) : JE X cv W (.Subscript a (.Slice lo hi none p2) pos) (eSl ma ml mh) :=
  PE.imp (pe_slice o_sl ha hl.po hh.po) fun σ H Q ⟨ρ, F, r, q⟩ => by
    refine ⟨ρ, F, r, ?_⟩
    unfold eSl at q
    have go : ∀ d, GotE cv W F H σ Q (bindO ml ρ fun l => bindO mh ρ fun h => (gSl d l h).up) → QW F H d fun x H1 => rdO cv W ml σ H1 fun l H2 => rdO cv W mh σ H2 fun u H3 => rGS gSl x l u H3 Q := fun d q v F1 H1 ev wk => by
      refine rd_part (r.evo ev) (GotE.evo ev q) fun i F2 H2 ev2 q2 => ?_
      refine rd_part ((r.evo ev).evo ev2) q2 fun j F3 H3 ev3 q3 => ?_
      exact ⟨F3, d, ev3.le, (wk.evo ev2).evo ev3, GotP.of q3⟩
    cases h : ma ρ with
    | ok d => rw [h] at q; exact go d q
    | new d => rw [h] at q; exact go _ q
    | exc c => rw [h] at q; exact q
    | bad => rw [h] at q; exact q
/-! ### truth -/
theorem tru_of {F H : Hp} {x : V} {d : D} {k : Bool} {K : PySem.W.Frag} (le : Ex F H) (w : Wk F H x d) (h : truth d = some k) : TruV K x H k := by
  cases d
  · cases w.none; cases h; rfl
  · cases w.bool; cases h; rfl
  · cases w.int; cases h; rfl
  · cases w.str
    simp only [truth] at h
    split at h
    · rename_i hz; cases h; exact ⟨Evl.sz_of hz, rfl⟩
    · cases h
  · obtain ⟨p, xs, rfl, hp, hx⟩ := w.list le
    cases h
    refine .inl ⟨xs, .inl hp, ?_⟩
    cases hx <;> rfl
  · obtain ⟨p, xs, rfl, hpF, hp, hx⟩ := w.tuple le
    cases h
    refine .inr (.inl ⟨xs, .inl (.inl hp), ?_⟩)
    cases hx <;> rfl
  · cases h
theorem of_ifT {σ : L2.St} {H F : Hp} {Q : VK} {o : Option Bool} {x y : Res} (q : GotE cv W F H σ Q (ifT o x y)) : ∃ k, o = some k ∧ GotE cv W F H σ Q (if k = true then x else y) := by
  cases o with
  | none => exact q.elim
  | some k => cases k <;> exact ⟨_, rfl, q⟩
theorem j_and {rest : List Expr} (ha : JS X cv W a ma) (hb : JE X cv W (.BoolOp .And (b :: rest) pos) mb) : JE X cv W (.BoolOp .And (a :: b :: rest) pos) (eAnd ma mb) :=
  PE.imp (pe_andT ha hb) fun σ H Q ⟨ρ, F, r, q⟩ => by
    refine ⟨ρ, F, r, ?_⟩
    unfold eAnd at q
    have go : ∀ d, GotE cv W F H σ Q (ifT (truth d) (mb ρ) (.ok d)) → QD F H d fun x H1 => ∃ k, TruV X.K x H1 k ∧ if k = true then rdE cv W mb σ H1 Q else Q x H1 := fun d q v F1 H1 ev hd => by
      obtain ⟨k, hk, q⟩ := of_ifT q
      refine ⟨k, tru_of ev.le (.inl hd) hk, ?_⟩
      cases k with
      | true => exact ⟨ρ, F1, r.evo ev, GotE.evo ev q⟩
      | false => exact QD.dr ev.le (QD.evo ev q) hd
    cases h : ma ρ with
    | ok d => rw [h] at q; exact go d q
    | new d => rw [h] at q; exact go _ q
    | exc c => rw [h] at q; exact q
    | bad => rw [h] at q; exact q
theorem j_or {rest : List Expr} (ha : JS X cv W a ma) (hb : JE X cv W (.BoolOp .Or (b :: rest) pos) mb) : JE X cv W (.BoolOp .Or (a :: b :: rest) pos) (eOr ma mb) :=
  PE.imp (pe_orT ha hb) fun σ H Q ⟨ρ, F, r, q⟩ => by
    refine ⟨ρ, F, r, ?_⟩
    unfold eOr at q
    have go : ∀ d, GotE cv W F H σ Q (ifT (truth d) (.ok d) (mb ρ)) → QD F H d fun x H1 => ∃ k, TruV X.K x H1 k ∧ if k = true then Q x H1 else rdE cv W mb σ H1 Q := fun d q v F1 H1 ev hd => by
      obtain ⟨k, hk, q⟩ := of_ifT q
      refine ⟨k, tru_of ev.le (.inl hd) hk, ?_⟩
      cases k with
      | false => exact ⟨ρ, F1, r.evo ev, GotE.evo ev q⟩
      | true => exact QD.dr ev.le (QD.evo ev q) hd
    cases h : ma ρ with
    | ok d => rw [h] at q; exact go d q
    | new d => rw [h] at q; exact go _ q
    | exc c => rw [h] at q; exact q
    | bad => rw [h] at q; exact q
theorem j_one {op : BoolOp} (ha : JE X cv W a ma) : JE X cv W (.BoolOp op [a] pos) ma := pe_one ha
theorem j_not (ha : JW X cv W a ma) : JE X cv W (.UnaryOp .Not a pos) (e1 gNot ma) :=
  PE.imp (pe_notT ha) fun σ H Q ⟨ρ, F, r, q⟩ => by
    refine ⟨ρ, F, r, ?_⟩
    unfold e1 at q
    have go : ∀ d, GotE cv W F H σ Q (gNot d).up → QW F H d fun x H1 => ∃ k, TruV X.K x H1 k ∧ Q (.bl (!k)) H1 := fun d q v F1 H1 ev wk => by
      unfold gNot at q
      cases hk : truth d with
      | none => rw [hk] at q; exact q.elim
      | some k => rw [hk] at q; exact ⟨k, tru_of ev.le wk hk, QD.bool ev.le (QD.evo ev q)⟩
    cases h : ma ρ with
    | ok d => rw [h] at q; exact go d q
    | new d => rw [h] at q; exact go _ q
    | exc c => rw [h] at q; exact q
    | bad => rw [h] at q; exact q
/-! ### tests -/
def GotT (cv : Nat → Value) (W : WX) (F H : Hp) (σ : L2.St) (Q : Bool → Hp → Prop) : Res → Prop
  | .ok d => ∃ k, truth d = some k ∧ ∀ F' H', Evo F H F' H' → Q k H'
  | .new ds => ∀ F' H', Evo F H F' H' → Q (!ds.isEmpty) H'
  | .exc c => QX cv W F H σ c
  | .bad => False
theorem GotT.evo {σ : L2.St} {F H F' H' : Hp} {Q : Bool → Hp → Prop} (e : Evo F H F' H') : ∀ {r : Res}, GotT cv W F H σ Q r → GotT cv W F' H' σ Q r
  | .ok _, ⟨k, hk, h⟩ => ⟨k, hk, fun F2 H2 ev => h F2 H2 (e.trans ev)⟩
  | .new _, h => fun F2 H2 ev => h F2 H2 (e.trans ev)
  | .exc _, h => QX.evo e h
  | .bad, h => h
def rdT (cv : Nat → Value) (W : WX) (m : Sm) : TT := fun σ H Q => ∃ ρ F, Rel cv ρ σ F H ∧ GotT cv W F H σ Q (m ρ)
def JT (X : Cx) (cv : Nat → Value) (W : WX) (e : Expr) (m : Sm) : Prop := PT X e (rdT cv W m)
def JP (X : Cx) (cv : Nat → Value) (W : WX) (e : Expr) (m : Sm) : Prop := PW X e (rdT cv W m)
theorem PT.imp {e : Expr} {t t' : TT} (h : PT X e t) (k : ∀ σ H Q, t' σ H Q → t σ H Q) : PT X e t' := ⟨fun pins s σ H Q I hw => h.run pins s σ H Q I (k σ H Q hw)⟩
theorem PW.imp {e : Expr} {t t' : TT} (h : PW X e t) (k : ∀ σ H Q, t' σ H Q → t σ H Q) : PW X e t' := ⟨fun whole pins s σ H Q I hw => h.run whole pins s σ H Q I (k σ H Q hw)⟩
theorem JP.t (h : JP X cv W a ma) : JT X cv W a ma := PW.pt h
theorem jt_val (ha : JW X cv W a ma) (he : ∀ whole, isTrue a X.env whole = (do let v ← whole; standAt a.pos; holding [v] (truthy v))) : JT X cv W a ma :=
  PT.imp (pt_truth ha he) fun σ H Q ⟨ρ, F, r, q⟩ => by
    refine ⟨ρ, F, r, ?_⟩
    cases h : ma ρ with
    | ok d =>
      rw [h] at q
      obtain ⟨k, hk, q⟩ := q
      exact fun v F1 H1 ev wk => ⟨k, tru_of ev.le wk hk, q F1 H1 ev⟩
    | new d => rw [h] at q; exact fun v F1 H1 ev wk => ⟨_, tru_of ev.le wk rfl, q F1 H1 ev⟩
    | exc c => rw [h] at q; exact q
    | bad => rw [h] at q; exact q
theorem jt_not (ha : JT X cv W a ma) : JT X cv W (.UnaryOp .Not a pos) (e1 gNot ma) :=
  PT.imp (pt_not ha) fun σ H Q ⟨ρ, F, r, q⟩ => by
    refine ⟨ρ, F, r, ?_⟩
    unfold e1 at q
    cases h : ma ρ with
    | ok d =>
      rw [h] at q
      simp only [Res.bind_ok, gNot] at q
      cases hk : truth d with
      | none => rw [hk] at q; exact q.elim
      | some k =>
        rw [hk] at q
        obtain ⟨k2, e, q⟩ := q
        cases e
        exact ⟨k, hk, q⟩
    | new d =>
      rw [h] at q
      obtain ⟨k2, e, q⟩ := q
      cases e
      exact q
    | exc c => rw [h] at q; exact q
    | bad => rw [h] at q; exact q
theorem jp_one {op : BoolOp} (h : op = .And ∨ op = .Or) (ha : JT X cv W a ma) : JP X cv W (.BoolOp op [a] pos) ma := by
  rcases h with rfl | rfl
  · exact pw_and1 ha
  · exact pw_or1 ha
theorem rd_then {σ : L2.St} {H F : Hp} {ρ : Rho} {Q : Bool → Hp → Prop} {k : D → Res} (r : Rel cv ρ σ F H) (q : GotT cv W F H σ Q ((ma ρ).bind k)) {R : Bool → Hp → Prop} (hk : ∀ d b F' H', Evo F H F' H' → truth d = some b → GotT cv W F' H' σ Q (k d) → R b H')
    (hd : ∀ d, GotT cv W F H σ Q (k d) → ∃ b, truth d = some b) : rdT cv W ma σ H R := by
  refine ⟨ρ, F, r, ?_⟩
  cases h : ma ρ with
  | ok d =>
    rw [h] at q
    obtain ⟨b, hb⟩ := hd d q
    exact ⟨b, hb, fun F1 H1 ev => hk d b F1 H1 ev hb (GotT.evo ev q)⟩
  | new d => rw [h] at q; exact fun F1 H1 ev => hk _ _ F1 H1 ev rfl (GotT.evo ev q)
  | exc c => rw [h] at q; exact q
  | bad => rw [h] at q; exact q
theorem of_ifTT {σ : L2.St} {H F : Hp} {Q : Bool → Hp → Prop} {o : Option Bool} {x y : Res} (q : GotT cv W F H σ Q (ifT o x y)) : ∃ k, o = some k ∧ GotT cv W F H σ Q (if k = true then x else y) := by
  cases o with
  | none => exact q.elim
  | some k => cases k <;> exact ⟨_, rfl, q⟩
theorem jp_and {rest : List Expr} (ha : JT X cv W a ma) (hb : JP X cv W (.BoolOp .And (b :: rest) pos) mb) : JP X cv W (.BoolOp .And (a :: b :: rest) pos) (eAnd ma mb) :=
  PW.imp (pw_and ha hb) fun σ H Q ⟨ρ, F, r, q⟩ => by
    refine rd_then r q (fun d k F1 H1 ev hk q => ?_) fun d q => let ⟨k, hk, _⟩ := of_ifTT q; ⟨k, hk⟩
    obtain ⟨k', hk', q⟩ := of_ifTT q
    rw [hk] at hk'; cases hk'
    cases k with
    | true => exact ⟨ρ, F1, r.evo ev, q⟩
    | false =>
      obtain ⟨k2, e2, q2⟩ := q
      rw [hk] at e2; cases e2
      exact q2 F1 H1 (Evo.refl ev.le)
theorem jp_or {rest : List Expr} (ha : JT X cv W a ma) (hb : JP X cv W (.BoolOp .Or (b :: rest) pos) mb) : JP X cv W (.BoolOp .Or (a :: b :: rest) pos) (eOr ma mb) :=
  PW.imp (pw_or ha hb) fun σ H Q ⟨ρ, F, r, q⟩ => by
    refine rd_then r q (fun d k F1 H1 ev hk q => ?_) fun d q => let ⟨k, hk, _⟩ := of_ifTT q; ⟨k, hk⟩
    obtain ⟨k', hk', q⟩ := of_ifTT q
    rw [hk] at hk'; cases hk'
    cases k with
    | false => exact ⟨ρ, F1, r.evo ev, q⟩
    | true =>
      obtain ⟨k2, e2, q2⟩ := q
      rw [hk] at e2; cases e2
      exact q2 F1 H1 (Evo.refl ev.le)
theorem j_if (hc : JT X cv W c mc) (ha : JE X cv W a ma) (hb : JE X cv W b mb) : JE X cv W (.IfExp c a b pos) (eIf mc ma mb) :=
  PE.imp (pe_ifExp hc ha hb) fun σ H Q ⟨ρ, F, r, q⟩ => by
    refine ⟨ρ, F, r, ?_⟩
    unfold eIf at q
    have go : ∀ d, GotE cv W F H σ Q (ifT (truth d) (ma ρ) (mb ρ)) → ∃ k, truth d = some k ∧ ∀ F' H', Evo F H F' H' → if k = true then rdE cv W ma σ H' Q else rdE cv W mb σ H' Q := fun d q => by
      obtain ⟨k, hk, q⟩ := of_ifT q
      refine ⟨k, hk, fun F1 H1 ev => ?_⟩
      cases k with
      | true => exact ⟨ρ, F1, r.evo ev, GotE.evo ev q⟩
      | false => exact ⟨ρ, F1, r.evo ev, GotE.evo ev q⟩
    cases h : mc ρ with
    | ok d => rw [h] at q; exact go d q
    | new d =>
      rw [h] at q
      obtain ⟨k, hk, q⟩ := go _ q
      cases hk
      exact q
    | exc c => rw [h] at q; exact q
    | bad => rw [h] at q; exact q
end
end U
set_option Elab.async false
set_option linter.all false
set_option maxRecDepth 100000
set_option maxHeartbeats 4000000
namespace U
open PySem PySem.Spec PyProof.Rows L2
/-! ### argument lists -/
def GotA (cv : Nat → Value) (W : WX) (F H : Hp) (σ : L2.St) (Q : List V → Hp → Prop) : ResL → Prop
  | .ok ds => ∀ vs F' H', Evo F H F' H' → DrAll F' vs ds → Q vs H'
  | .exc c => QX cv W F H σ c
  | .bad => False
def GotB (cv : Nat → Value) (W : WX) (F H : Hp) (σ : L2.St) (Q : List V → Hp → Prop) : ResL → Prop
  | .ok ds => ∀ vs F' H', Evo F H F' H' → WkAll F' H' vs ds → Q vs H'
  | .exc c => QX cv W F H σ c
  | .bad => False
def rdA (cv : Nat → Value) (W : WX) (ms : List Sm) : TA := fun σ H Q => ∃ ρ F, Rel cv ρ σ F H ∧ GotA cv W F H σ Q (evs ms ρ)
def rdB (cv : Nat → Value) (W : WX) (ms : List Sm) : TA := fun σ H Q => ∃ ρ F, Rel cv ρ σ F H ∧ GotB cv W F H σ Q (evs ms ρ)
def JA (X : Cx) (cv : Nat → Value) (W : WX) (es : List Expr) (ms : List Sm) : Prop := PA X es (rdA cv W ms)
def JB (X : Cx) (cv : Nat → Value) (W : WX) (es : List Expr) (ms : List Sm) : Prop := PA X es (rdB cv W ms)
theorem evs_len : ∀ {ms : List Sm} {ρ : Rho} {ds : List D}, evs ms ρ = .ok ds → ds.length = ms.length
  | [], ρ, ds, h => by cases h; rfl
  | m :: ms, ρ, ds, h => by
    unfold evs at h
    cases h1 : m ρ <;> rw [h1] at h <;> try cases h
    all_goals
      cases h2 : evs ms ρ <;> rw [h2] at h <;> cases h
      simp [evs_len h2]
def notStar : Expr → Bool
  | .Starred .. => false
  | _ => true
theorem star_cons {e : Expr} {es : List Expr} {env : PySem.Env} (h : notStar e = true) : starEach (e :: es) env = (false, eval e env) :: starEach es env := by
  cases e <;> first | rfl | cases h
theorem star_any {pos : Pos} {env : PySem.Env} : ∀ {es : List Expr}, es.all notStar = true → (backTo pos (starEach es env)).any (·.1) = false
  | [], _ => rfl
  | e :: es, h => by
    have h' := Bool.and_eq_true_iff.mp (show (notStar e && es.all notStar) = true by simpa using h)
    rw [star_cons h'.1]
    have := star_any (pos := pos) (env := env) h'.2
    simpa [backTo] using this
section
variable {X : Cx} {cv : Nat → Value} {W : WX} {a b c : Expr} {es : List Expr} {ms : List Sm} {m ma mb mc : Sm} {pos : Pos}
theorem PA.imp {t t' : TA} (h : PA X es t) (k : ∀ σ H Q, t' σ H Q → t σ H Q) : PA X es t' := ⟨fun pos pins s σ H Q I hw => h.run pos pins s σ H Q I (k σ H Q hw)⟩
theorem ja_nil : JA X cv W [] [] := PA.imp pa_nil fun σ H Q ⟨ρ, F, r, q⟩ => q [] F H (Evo.refl r.le) .nil
theorem jb_nil : JB X cv W [] [] := PA.imp pa_nil fun σ H Q ⟨ρ, F, r, q⟩ => q [] F H (Evo.refl r.le) .nil
theorem ja_cons (ha : JS X cv W a ma) (hr : JA X cv W es ms) (hs : notStar a = true) : JA X cv W (a :: es) (ma :: ms) :=
  PA.imp (pa_cons ha hr (star_cons hs)) fun σ H Q ⟨ρ, F, r, q⟩ => by
    refine ⟨ρ, F, r, ?_⟩
    unfold evs at q
    have go : ∀ d, GotA cv W F H σ Q ((evs ms ρ).bindL fun ds => .ok (d :: ds)) → QD F H d fun x H1 => rdA cv W ms σ H1 fun xs H2 => Q (x :: xs) H2 := fun d q v F1 H1 ev hd => by
      refine ⟨ρ, F1, r.evo ev, ?_⟩
      cases h : evs ms ρ with
      | ok ds => rw [h] at q; exact fun vs F2 H2 ev2 hds => q (v :: vs) F2 H2 (ev.trans ev2) (.cons (dp_mono ev2.ex hd) hds)
      | exc c => rw [h] at q; exact QX.evo ev q
      | bad => rw [h] at q; exact q
    cases h : ma ρ with
    | ok d => rw [h] at q; exact go d q
    | new d => rw [h] at q; exact go _ q
    | exc c => rw [h] at q; exact q
    | bad => rw [h] at q; exact q
theorem jb_cons (ha : JW X cv W a ma) (hr : JB X cv W es ms) (hs : notStar a = true) : JB X cv W (a :: es) (ma :: ms) :=
  PA.imp (pa_cons ha hr (star_cons hs)) fun σ H Q ⟨ρ, F, r, q⟩ => by
    refine ⟨ρ, F, r, ?_⟩
    unfold evs at q
    have go : ∀ d, GotB cv W F H σ Q ((evs ms ρ).bindL fun ds => .ok (d :: ds)) → QW F H d fun x H1 => rdB cv W ms σ H1 fun xs H2 => Q (x :: xs) H2 := fun d q v F1 H1 ev hd => by
      refine ⟨ρ, F1, r.evo ev, ?_⟩
      cases h : evs ms ρ with
      | ok ds => rw [h] at q; exact fun vs F2 H2 ev2 hds => q (v :: vs) F2 H2 (ev.trans ev2) (.cons (hd.evo ev2) hds)
      | exc c => rw [h] at q; exact QX.evo ev q
      | bad => rw [h] at q; exact q
    cases h : ma ρ with
    | ok d => rw [h] at q; exact go d q
    | new d => rw [h] at q; exact go _ q
    | exc c => rw [h] at q; exact q
    | bad => rw [h] at q; exact q
/-! ### displays -/
def eTup (ms : List Sm) : Sm := fun ρ => (evs ms ρ).bind fun ds => .ok (.tuple ds)
def eLst (ms : List Sm) : Sm := fun ρ => (evs ms ρ).bind fun ds => .new ds
theorem j_tup {k : Nat} (h : JA X cv W es ms) (hz : ms.length ≤ 100000) : JE X cv W (.Tuple es k pos) (eTup ms) :=
  PE.imp (pe_tup h) fun σ H Q ⟨ρ, F, r, q⟩ => by
    refine ⟨ρ, F, r, ?_⟩
    unfold eTup at q
    cases h : evs ms ρ with
    | ok ds =>
      rw [h] at q
      exact fun vs F1 H1 ev hd => ⟨Evl.sz_of (by rw [dps_len hd, evs_len h]; exact hz), fun p hp => QD.tup ev.le (QD.evo ev q) hd hp⟩
    | exc c => rw [h] at q; exact q
    | bad => rw [h] at q; exact q
theorem j_lst (h : JA X cv W es ms) (hz : ms.length ≤ 100000) : JE X cv W (.List es pos) (eLst ms) :=
  PE.imp (pe_lst h) fun σ H Q ⟨ρ, F, r, q⟩ => by
    refine ⟨ρ, F, r, ?_⟩
    unfold eLst at q
    cases h : evs ms ρ with
    | ok ds =>
      rw [h] at q
      exact fun vs F1 H1 ev hd => ⟨Evl.sz_of (by rw [dps_len hd, evs_len h]; exact hz), fun p hp => QN.lst ev.le (QN.evo ev q) hd hp⟩
    | exc c => rw [h] at q; exact q
    | bad => rw [h] at q; exact q
/-! ### calls of own defs -/
/-- a def's promise: it gives what f says -/
def spOf (cv : Nat → Value) (n : Nat) (f : List D → Res) : Sp := fun vs H Q E => ∃ F ds, Ex F H ∧ DrAll F vs ds ∧ ds.length = n ∧ GotE cv (fun c d _ H' => E c d H') F H [] Q (f ds)
theorem spOf_len {n : Nat} {f : List D → Res} {vs : List V} {H : Hp} {Q : VK} {E : XK} (h : spOf cv n f vs H Q E) : vs.length = n := by
  obtain ⟨F, ds, _, hd, hl, _⟩ := h
  rw [dps_len hd, hl]
theorem rd_args {σ : L2.St} {H F : Hp} {ρ : Rho} {Q : VK} {k : List D → Res} (r : Rel cv ρ σ F H) (q : GotE cv W F H σ Q ((evs ms ρ).bind k)) {R : List V → Hp → Prop} (hk : ∀ ds vs F' H', evs ms ρ = .ok ds → Evo F H F' H' → DrAll F' vs ds → GotE cv W F' H' σ Q (k ds) → R vs H') : rdA cv W ms σ H R := by
  refine ⟨ρ, F, r, ?_⟩
  cases h : evs ms ρ with
  | ok ds => rw [h] at q; exact fun vs F1 H1 ev hd => hk ds vs F1 H1 h ev hd (GotE.evo ev q)
  | exc c => rw [h] at q; exact q
  | bad => rw [h] at q; exact q
theorem rd_argsB {σ : L2.St} {H F : Hp} {ρ : Rho} {Q : VK} {k : List D → Res} (r : Rel cv ρ σ F H) (q : GotE cv W F H σ Q ((evs ms ρ).bind k)) {R : List V → Hp → Prop} (hk : ∀ ds vs F' H', evs ms ρ = .ok ds → Evo F H F' H' → WkAll F' H' vs ds → GotE cv W F' H' σ Q (k ds) → R vs H') : rdB cv W ms σ H R := by
  refine ⟨ρ, F, r, ?_⟩
  cases h : evs ms ρ with
  | ok ds => rw [h] at q; exact fun vs F1 H1 ev hd => hk ds vs F1 H1 h ev hd (GotE.evo ev q)
  | exc c => rw [h] at q; exact q
  | bad => rw [h] at q; exact q
theorem GotE.slots {σ σ' : L2.St} {H F : Hp} {Q : VK} {W' : WX} (hW : ∀ c H', W (cv c) none σ H' → W' (cv c) none σ' H') : ∀ {r : Res}, GotE cv W F H σ Q r → GotE cv W' F H σ' Q r
  | .ok _, h => h
  | .new _, h => h
  | .exc _, h => fun F1 H1 ev => hW _ _ (h F1 H1 ev)
  | .bad, h => h
/-- what is known of a def that is called -/
structure Fn (X : Cx) (cv : Nat → Value) (k : Nat) (x : Str) (n : Nat) (f : List D → Res) : Prop where
  ok : ∃ (fa : Addr) (fd : FuncData) (ps : List Str), X.mg x = some (.ref fa) ∧ ps.length = n ∧ FnOk X.prog X.w X.K X.mg X.base (L2.CX X.prog X.w) k fa fd ps (spOf cv n f) ∧ PySem.W.keepIn X.K (.ref fa) = true ∧ Binds X.K fd ps []
theorem j_call {k n : Nat} {x : Str} {f : List D → Res} {p : Pos} (F : Fn X cv k x n f) (hr : Room k X.A) (tk : Takes X W) (hg : Gl X x) (hdb : (x == ("__debug__" : Str)) = false) (ha : JA X cv W (a :: es) ms) (hn : ms.length = n) (h1 : notStar a = true) (h2 : es.all notStar = true) :
    JE X cv W (.Call (.Name x p) (a :: es) [] pos) (eF f ms) := by
  obtain ⟨fa, fd, ps, hm, hl, F, kp, hb⟩ := F.ok
  refine PE.imp (pe_callSD F hr hg hm kp hb .nil (fun σ => passAt tk σ) ha hdb (star_cons h1) (star_any h2)) fun σ H Q ⟨ρ, F0, r, q⟩ => ?_
  refine rd_args r q fun ds vs F1 H1 he ev hd q => ⟨F1, ds, ev.le, by rw [List.append_nil]; exact hd, by rw [evs_len he]; exact hn, ?_⟩
  exact GotE.slots (fun c H' h => h) q
/-! ### calls of built-ins -/
theorem j_blt {x : Str} {id : String} {g : List D → Rp} {p : Pos} (hc : CallR X (.builtin id) (rGL g)) (hg : Gl X x) (hm : X.mg x = none) (hv : bootBuiltins x = some (.builtin id)) (ha : JB X cv W (a :: es) ms) (hn : x ≠ "__name__") (hdb : (x == ("__debug__" : Str)) = false) (h1 : notStar a = true) (h2 : es.all notStar = true) :
    JE X cv W (.Call (.Name x p) (a :: es) [] pos) (eL g ms) :=
  PE.imp (pe_callB hc hg hm hv ha hn hdb (star_cons h1) (star_any h2)) fun σ H Q ⟨ρ, F, r, q⟩ => rd_argsB r q fun ds vs F1 H1 he ev hd q => ⟨F1, ds, ev.le, hd, GotP.of q⟩
theorem j_ty {x : Str} {T : String} {g : List D → Rp} {p : Pos} (hc : CallR X (.type T) (rGL g)) (hg : Gl X x) (hm : X.mg x = none) (hv : bootBuiltins x = some (.type T)) (ha : JB X cv W (a :: es) ms) (hn : x ≠ "__name__") (hdb : (x == ("__debug__" : Str)) = false) (h1 : notStar a = true) (h2 : es.all notStar = true) :
    JE X cv W (.Call (.Name x p) (a :: es) [] pos) (eL g ms) :=
  PE.imp (pe_callTy hc hg hm hv ha hn hdb (star_cons h1) (star_any h2)) fun σ H Q ⟨ρ, F, r, q⟩ => rd_argsB r q fun ds vs F1 H1 he ev hd q => ⟨F1, ds, ev.le, hd, GotP.of q⟩
end
end U
set_option Elab.async false
set_option linter.all false
set_option maxRecDepth 100000
set_option maxHeartbeats 4000000
namespace U
open PySem PySem.Spec PyProof.Rows L2
/-! ### built-ins on data -/
def intsD : List D → Option (List Int)
  | [] => some []
  | .int i :: ds => (intsD ds).map (i :: ·)
  | _ :: _ => none
def maxI : Int → List Int → Int
  | a, [] => a
  | a, b :: r => maxI (if a < b then b else a) r
def minI : Int → List Int → Int
  | a, [] => a
  | a, b :: r => minI (if b < a then b else a) r
def bLen : List D → Rp
  | [.str x] => if x.length ≤ 100000 then .ok (.int x.length) else .bad
  | [.list ds] => .ok (.int ds.length)
  | [.tuple ds] => .ok (.int ds.length)
  | _ => .bad
def bAbs : List D → Rp
  | [.int i] => .ok (.int (if i < 0 then -i else i))
  | _ => .bad
def bMax : List D → Rp
  | [.int i, .int j] => .ok (.int (if j > i then j else i))
  | [.list ds] => match intsD ds with
    | some (a :: r) => .ok (.int (maxI a r))
    | _ => .bad
  | _ => .bad
def bMin : List D → Rp
  | [.int i, .int j] => .ok (.int (if j < i then j else i))
  | [.list ds] => match intsD ds with
    | some (a :: r) => .ok (.int (minI a r))
    | _ => .bad
  | _ => .bad
def bSum : List D → Rp
  | [.list ds] => match intsD ds with
    | some ns => .ok (.int ns.sum)
    | none => .bad
  | _ => .bad
def bInt : List D → Rp
  | [.int i] => .ok (.int i)
  | [.bool b] => .ok (.int (if b then 1 else 0))
  | [.str x] => if x.length ≤ 640 then (match PySem.intText? x with
    | some n => .ok (.int n)
    | none => .bad) else .bad
  | _ => .bad
def bStr : List D → Rp
  | [.int i] => if i.natAbs.log2 < 1920 then .ok (.str (toString i)) else .bad
  | _ => .bad
def bTuple : List D → Rp
  | [.list ds] => .ok (.tuple ds)
  | [.tuple ds] => .ok (.tuple ds)
  | _ => .bad
def bList : List D → Rp
  | [.list ds] => .new ds
  | [.tuple ds] => .new ds
  | _ => .bad
theorem wk1 {F H : Hp} {xs : List V} {d : D} (h : WkAll F H xs [d]) : ∃ x, xs = [x] ∧ Wk F H x d := by
  cases h with
  | cons h hs => cases hs; exact ⟨_, rfl, h⟩
theorem wk2 {F H : Hp} {xs : List V} {d e : D} (h : WkAll F H xs [d, e]) : ∃ x y, xs = [x, y] ∧ Wk F H x d ∧ Wk F H y e := by
  cases h with
  | cons h hs =>
    obtain ⟨y, rfl, hy⟩ := wk1 hs
    exact ⟨_, _, rfl, h, hy⟩
theorem dr_ints {F : Hp} : ∀ {ds : List D} {xs : List V} {ns : List Int}, DrAll F xs ds → intsD ds = some ns → xs = ns.map V.int
  | [], _, _, .nil, h => by cases h; rfl
  | d :: ds, _, ns, .cons h hs, e => by
    cases d <;> try cases e
    cases h
    simp only [intsD, Option.map_eq_some_iff] at e
    obtain ⟨r, hr, rfl⟩ := e
    rw [dr_ints hs hr]; rfl
theorem maxI_mem : ∀ (r : List Int) (a : Int), maxI a r ∈ a :: r
  | [], a => by simp [maxI]
  | b :: r, a => by
    have := maxI_mem r (if a < b then b else a)
    unfold maxI
    rcases List.mem_cons.mp this with h | h
    · rw [h]; split <;> simp
    · simp [h]
theorem maxI_ge : ∀ (r : List Int) (a y : Int), y ∈ a :: r → y ≤ maxI a r
  | [], a, y, h => by simp at h; simp [maxI, h]
  | b :: r, a, y, h => by
    unfold maxI
    have k := maxI_ge r (if a < b then b else a)
    have k0 := k _ (List.mem_cons_self)
    have ka : a ≤ (if a < b then b else a) ∧ b ≤ (if a < b then b else a) := by split <;> omega
    simp only [List.mem_cons] at h k
    rcases h with h | h | h
    · subst h; exact Int.le_trans ka.1 k0
    · subst h; exact Int.le_trans ka.2 k0
    · exact k y (.inr h)
theorem minI_mem : ∀ (r : List Int) (a : Int), minI a r ∈ a :: r
  | [], a => by simp [minI]
  | b :: r, a => by
    have := minI_mem r (if b < a then b else a)
    unfold minI
    rcases List.mem_cons.mp this with h | h
    · rw [h]; split <;> simp
    · simp [h]
theorem minI_le : ∀ (r : List Int) (a y : Int), y ∈ a :: r → minI a r ≤ y
  | [], a, y, h => by simp at h; simp [minI, h]
  | b :: r, a, y, h => by
    unfold minI
    have k := minI_le r (if b < a then b else a)
    have k0 := k _ (List.mem_cons_self)
    have ka : (if b < a then b else a) ≤ a ∧ (if b < a then b else a) ≤ b := by split <;> omega
    simp only [List.mem_cons] at h k
    rcases h with h | h | h
    · subst h; exact Int.le_trans k0 ka.1
    · subst h; exact Int.le_trans k0 ka.2
    · exact k y (.inr h)
section
variable {X : Cx}
theorem c_len : CallR X (.builtin "len") (rGL bLen) := by
  intro pins s σ H xs us Q I rv ⟨F, ds, le, hd, q⟩
  unfold bLen at q
  split at q
  · obtain ⟨v, rfl, w⟩ := wk1 hd
    cases w.str
    obtain ⟨hz, q⟩ := if_bad q
    exact call_len pins s σ H _ us Q I rv ⟨_, _, rfl, ⟨Evl.sz_of hz, rfl⟩, QD.int le q⟩
  · obtain ⟨v, rfl, w⟩ := wk1 hd
    obtain ⟨p, xs, rfl, hp, hx⟩ := w.list le
    exact call_len pins s σ H _ us Q I rv ⟨_, _, rfl, .inl ⟨xs, .inl hp, rfl⟩, by rw [dps_len hx]; exact QD.int le q⟩
  · obtain ⟨v, rfl, w⟩ := wk1 hd
    obtain ⟨p, xs, rfl, hpF, hp, hx⟩ := w.tuple le
    exact call_len pins s σ H _ us Q I rv ⟨_, _, rfl, .inr ⟨xs, .inl (.inl hp), rfl⟩, by rw [dps_len hx]; exact QD.int le q⟩
  · exact q.elim
theorem c_abs : CallR X (.builtin "abs") (rGL bAbs) := by
  intro pins s σ H xs us Q I rv ⟨F, ds, le, hd, q⟩
  unfold bAbs at q
  split at q
  · obtain ⟨v, rfl, w⟩ := wk1 hd
    cases w.int
    exact call_abs pins s σ H _ us Q I rv ⟨_, rfl, QD.int le q⟩
  · exact q.elim
theorem c_max (hc : X.calm = true) : CallR X (.builtin "max") (rGL bMax) := by
  intro pins s σ H xs us Q I rv ⟨F, ds, le, hd, q⟩
  unfold bMax at q
  split at q
  · obtain ⟨v, w, rfl, hv, hw⟩ := wk2 hd
    cases hv.int; cases hw.int
    exact call_max2 hc pins s σ H _ us Q I rv ⟨_, _, rfl, QD.int le q⟩
  · split at q
    · rename_i ns hs a r hn
      obtain ⟨v, rfl, w⟩ := wk1 hd
      obtain ⟨p, xs, rfl, hp, hx⟩ := w.list le
      have e := dr_ints hx hn
      subst e
      refine cr_max hc pins s σ H _ us Q I rv ⟨p, _, rfl, .inl hp, by simp, fun m hm hle => ?_⟩
      have e : m = maxI a r := Int.le_antisymm (maxI_ge r a m hm) (hle _ (maxI_mem r a))
      subst e
      exact QD.int le q
    · exact q.elim
  · exact q.elim
theorem c_min (hc : X.calm = true) : CallR X (.builtin "min") (rGL bMin) := by
  intro pins s σ H xs us Q I rv ⟨F, ds, le, hd, q⟩
  unfold bMin at q
  split at q
  · obtain ⟨v, w, rfl, hv, hw⟩ := wk2 hd
    cases hv.int; cases hw.int
    exact call_min2 hc pins s σ H _ us Q I rv ⟨_, _, rfl, QD.int le q⟩
  · split at q
    · rename_i ns hs a r hn
      obtain ⟨v, rfl, w⟩ := wk1 hd
      obtain ⟨p, xs, rfl, hp, hx⟩ := w.list le
      have e := dr_ints hx hn
      subst e
      refine cr_min hc pins s σ H _ us Q I rv ⟨p, _, rfl, .inl hp, by simp, fun m hm hle => ?_⟩
      have e : m = minI a r := Int.le_antisymm (hle _ (minI_mem r a)) (minI_le r a m hm)
      subst e
      exact QD.int le q
    · exact q.elim
  · exact q.elim
theorem c_sum (hc : X.calm = true) : CallR X (.builtin "sum") (rGL bSum) := by
  intro pins s σ H xs us Q I rv ⟨F, ds, le, hd, q⟩
  unfold bSum at q
  split at q
  · split at q
    · rename_i ns hn
      obtain ⟨v, rfl, w⟩ := wk1 hd
      obtain ⟨p, xs, rfl, hp, hx⟩ := w.list le
      have e := dr_ints hx hn
      subst e
      exact cr_sum hc pins s σ H _ us Q I rv ⟨p, _, rfl, .inl hp, QD.int le q⟩
    · exact q.elim
  · exact q.elim
theorem c_int : CallR X (.type "int") (rGL bInt) := by
  intro pins s σ H xs us Q I rv ⟨F, ds, le, hd, q⟩
  unfold bInt at q
  split at q
  · obtain ⟨v, rfl, w⟩ := wk1 hd
    cases w.int
    exact call_int1 pins s σ H _ us Q I rv (.inl ⟨_, rfl, QD.int le q⟩)
  · obtain ⟨v, rfl, w⟩ := wk1 hd
    cases w.bool
    exact call_int1 pins s σ H _ us Q I rv (.inr ⟨_, rfl, QD.int le q⟩)
  · obtain ⟨v, rfl, w⟩ := wk1 hd
    cases w.str
    obtain ⟨hz, q⟩ := if_bad q
    split at q
    · rename_i n hn
      exact call_int_str pins s σ H _ us Q I rv ⟨_, n, rfl, hn, hz, QD.int le q⟩
    · exact q.elim
  · exact q.elim
theorem c_str : CallR X (.type "str") (rGL bStr) := by
  intro pins s σ H xs us Q I rv ⟨F, ds, le, hd, q⟩
  unfold bStr at q
  split at q
  · obtain ⟨v, rfl, w⟩ := wk1 hd
    cases w.int
    obtain ⟨hz, q⟩ := if_bad q
    exact call_str_int pins s σ H _ us Q I rv ⟨_, rfl, hz, QD.str le q⟩
  · exact q.elim
theorem c_tuple : CallR X (.type "tuple") (rGL bTuple) := by
  intro pins s σ H xs us Q I rv ⟨F, ds, le, hd, q⟩
  unfold bTuple at q
  split at q
  · obtain ⟨v, rfl, w⟩ := wk1 hd
    obtain ⟨p, xs, rfl, hp, hx⟩ := w.list le
    exact call_tuple_of pins s σ H _ us Q I rv ⟨p, xs, rfl, .inl ⟨.inl hp, fun l hl => QD.tup le q hx hl⟩⟩
  · obtain ⟨v, rfl, w⟩ := wk1 hd
    obtain ⟨p, xs, rfl, hpF, hp, hx⟩ := w.tuple le
    exact call_tuple_of pins s σ H _ us Q I rv ⟨p, xs, rfl, .inr ⟨.inl (.inl hp), q.dr le (.tup hpF hx)⟩⟩
  · exact q.elim
theorem c_list : CallR X (.type "list") (rGL bList) := by
  intro pins s σ H xs us Q I rv ⟨F, ds, le, hd, q⟩
  unfold bList at q
  split at q
  · obtain ⟨v, rfl, w⟩ := wk1 hd
    obtain ⟨p, xs, rfl, hp, hx⟩ := w.list le
    exact call_list_of pins s σ H _ us Q I rv ⟨p, xs, rfl, .inl (.inl hp), fun l hl => QN.lst le q hx hl⟩
  · obtain ⟨v, rfl, w⟩ := wk1 hd
    obtain ⟨p, xs, rfl, hpF, hp, hx⟩ := w.tuple le
    exact call_list_of pins s σ H _ us Q I rv ⟨p, xs, rfl, .inr (.inl (.inl hp)), fun l hl => QN.lst le q hx hl⟩
  · exact q.elim
/-! ### isinstance -/
inductive Ty where
  | int | bool | str | tuple | list
def Ty.name : Ty → String
  | .int => "int"
  | .bool => "bool"
  | .str => "str"
  | .tuple => "tuple"
  | .list => "list"
def gIsi (t : Ty) : D → Rp
  | .none => .ok (.bool false)
  | .bool _ => .ok (.bool (match t with | .int => true | .bool => true | _ => false))
  | .int _ => .ok (.bool (match t with | .int => true | _ => false))
  | .str _ => .ok (.bool (match t with | .str => true | _ => false))
  | .list _ => .ok (.bool (match t with | .list => true | _ => false))
  | .tuple _ => .ok (.bool (match t with | .tuple => true | _ => false))
  | .dict _ => .bad
theorem kb (a : String) (t : Ty) (r : Bool) (h : (a = "NoneType" ∧ r = false) ∨ (a = "bool" ∧ r = (match t with | .int => true | .bool => true | _ => false)) ∨ (a = "int" ∧ r = (match t with | .int => true | _ => false)) ∨ (a = "str" ∧ r = (match t with | .str => true | _ => false)) ∨ (a = "list" ∧ r = (match t with | .list => true | _ => false)) ∨ (a = "tuple" ∧ r = (match t with | .tuple => true | _ => false))) : kitB a t.name = some r := by
  rcases h with ⟨rfl, rfl⟩ | ⟨rfl, rfl⟩ | ⟨rfl, rfl⟩ | ⟨rfl, rfl⟩ | ⟨rfl, rfl⟩ | ⟨rfl, rfl⟩ <;> cases t <;> decide +kernel
theorem j_isi {cv : Nat → Value} {W : WX} {a : Expr} {ma : Sm} {t : Ty} {x : Str} {p p2 pos : Pos} (ha : JW X cv W a ma) (hg : Gl X "isinstance") (hm : X.mg "isinstance" = none) (hx : x = (t.name : Str)) (hgT : Gl X x) (hmT : X.mg x = none) (h1 : notStar a = true) :
    JE X cv W (.Call (.Name "isinstance" p) [a, .Name x p2] [] pos) (e1 (gIsi t) ma) := by
  subst hx
  have hv : bootBuiltins (t.name : Str) = some (.type t.name) := by cases t <;> decide +kernel
  have hT : PE X (.Name (t.name : Str) p2) (tC (.ty t.name)) := pe_bltn hgT hmT hv rfl (by cases t <;> decide +kernel) (by cases t <;> decide +kernel)
  refine PE.imp (pe_callB call_isi hg hm (by decide +kernel) (pa_cons ha (pa_cons hT pa_nil) (star_cons h1)) (by decide) (by decide) (star_cons h1)) fun σ H Q ⟨ρ, F, r, q⟩ => ?_
  refine ⟨ρ, F, r, ?_⟩
  unfold e1 at q
  have go : ∀ d, GotE cv W F H σ Q (gIsi t d).up → QW F H d fun v H1 => tCons (tC (.ty t.name)) tNil σ H1 fun vs H2 => rIsi X.K (v :: vs) H2 Q := fun d q v F1 H1 ev wk => by
    cases d
    · cases wk.none
      exact ⟨_, _, _, _, _, rfl, .ty _, .base .non, kit_ty (kb _ t _ (.inl ⟨rfl, rfl⟩)), QD.bool ev.le (QD.evo ev q)⟩
    · cases wk.bool
      exact ⟨_, _, _, _, _, rfl, .ty _, .base (.bl _), kit_ty (kb _ t _ (.inr (.inl ⟨rfl, rfl⟩))), QD.bool ev.le (QD.evo ev q)⟩
    · cases wk.int
      exact ⟨_, _, _, _, _, rfl, .ty _, .base (.int _), kit_ty (kb _ t _ (.inr (.inr (.inl ⟨rfl, rfl⟩)))), QD.bool ev.le (QD.evo ev q)⟩
    · cases wk.str
      exact ⟨_, _, _, _, _, rfl, .ty _, .base (.str _), kit_ty (kb _ t _ (.inr (.inr (.inr (.inl ⟨rfl, rfl⟩))))), QD.bool ev.le (QD.evo ev q)⟩
    · obtain ⟨p, xs, rfl, hp, hx⟩ := wk.list ev.le
      refine ⟨_, _, _, _, _, rfl, .ty _, .base ?_, kit_ty (kb _ t _ (.inr (.inr (.inr (.inr (.inl ⟨rfl, rfl⟩)))))), QD.bool ev.le (QD.evo ev q)⟩
      rcases hp with hp | ⟨o, hp⟩
      · exact .lst hp
      · exact .frz hp
    · obtain ⟨p, xs, rfl, hpF, hp, hx⟩ := wk.tuple ev.le
      exact ⟨_, _, _, _, _, rfl, .ty _, .base (.tup hp), kit_ty (kb _ t _ (.inr (.inr (.inr (.inr (.inr ⟨rfl, rfl⟩)))))), QD.bool ev.le (QD.evo ev q)⟩
    · exact q.elim
  cases h : ma ρ with
  | ok d => rw [h] at q; exact go d q
  | new d => rw [h] at q; exact go _ q
  | exc c => rw [h] at q; exact q
  | bad => rw [h] at q; exact q
end
end U
set_option Elab.async false
set_option linter.all false
set_option maxRecDepth 100000
set_option maxHeartbeats 4000000
namespace U
open PySem PySem.Spec PyProof.Rows L2
/-! ### sources: a list or a tuple -/
def SqK (k : Bool) (H : Hp) (a : Addr) (xs : List V) : Prop := if k = true then Rd H a (.lst xs) else H a = some (.tup xs)
theorem SqK.inj {k : Bool} {H : Hp} {a : Addr} {xs ys : List V} (h : SqK k H a xs) (h' : SqK k H a ys) : xs = ys := by
  cases k with
  | true =>
    rcases h with h | ⟨o, h⟩ <;> rcases h' with h' | ⟨o', h'⟩ <;> rw [h] at h' <;> cases h' <;> rfl
  | false =>
    have h : H a = some (.tup xs) := h
    have h' : H a = some (.tup ys) := h'
    rw [h] at h'; cases h'; rfl
theorem SqK.mono {k : Bool} {F H : Hp} {a : Addr} {xs : List V} (e : Ex F H) (h : SqK k F a xs) : SqK k H a xs := by
  cases k with
  | true => exact Evl.ex_rd e h
  | false => exact e _ _ h
def IsSq (k : Bool) (h : Heap) (a : Addr) (its : List Value) : Prop := if k = true then h.IsList a its.toArray else h.IsTuple a its.toArray
def IsIt (k : Bool) (h : Heap) (it a : Addr) (i : Nat) : Prop := if k = true then h.IsListIter it a i else h.IsTupleIter it a i
def itObj (k : Bool) (a : Addr) : Obj := if k = true then { cls := .type "list_iterator", data := .fields #[.ref a, .int 0 0] } else { cls := .type "tuple_iterator", data := .fields #[.ref a, .int 0 0] }
theorem SqK.at {X : Cx} {pins : List (Addr × Obj)} {σ : L2.St} {H : Hp} {s : Shared} {k : Bool} {a : Addr} {xs : List V} (I : Inv X pins σ H s) (h : SqK k H a xs) : ∃ its, Vals xs its ∧ IsSq k s.heap a its := by
  cases k with
  | true =>
    obtain ⟨its, r, p, _⟩ := I.list (.inl h)
    exact ⟨its, r, p.isList⟩
  | false =>
    obtain ⟨its, r, p, _⟩ := I.tuple (.inl (.inl h))
    exact ⟨its, r, p⟩
theorem IsSq.lt {k : Bool} {h : Heap} {a : Addr} {its : List Value} (q : IsSq k h a its) : a < h.objs.size := by
  cases k with
  | true => obtain ⟨o, e, _⟩ : h.IsList a its.toArray := q; exact Heap.lt_size e
  | false => obtain ⟨o, e, _⟩ : h.IsTuple a its.toArray := q; exact Heap.lt_size e
theorem beginsK (k : Bool) (a : Addr) (its : List Value) : Begins (.ref a) (itObj k a) fun h => IsSq k h a its := by
  cases k with
  | true => exact begins_list a its.toArray
  | false => exact begins_tuple a its.toArray
theorem drawsK {prog : Program} {w : World} {A : Around} (k : Bool) (hh : A.handled = none) (it a : Addr) (hne : a ≠ it) (its : List Value) : Draws prog w A it [it, a] its.length (fun i v => its[i]? = some v) (fun i h => IsIt k h it a i ∧ IsSq k h a its) := by
  cases k with
  | true =>
    have := Draws.list (prog := prog) (w := w) hh it a hne its.toArray
    simpa [IsIt, IsSq] using this
  | false =>
    have := Draws.tuple (prog := prog) (w := w) hh it a hne its.toArray
    simpa [IsIt, IsSq] using this
theorem itObj_is {k : Bool} {h : Heap} {it a : Addr} (e : h.get? it = some (itObj k a)) : IsIt k h it a 0 := by
  cases k with
  | true => exact ⟨_, e, rfl, rfl⟩
  | false => exact ⟨_, e, rfl, rfl⟩
theorem IsIt.obj {k : Bool} {h : Heap} {it a : Addr} {i : Nat} (q : IsIt k h it a i) : ∃ o, h.get? it = some o ∧ ∀ v, o.data ≠ .cell v := by
  cases k with
  | true => obtain ⟨o, e, _, d⟩ : h.IsListIter it a i := q; exact ⟨o, e, fun v z => by rw [d] at z; cases z⟩
  | false => obtain ⟨o, e, _, d⟩ : h.IsTupleIter it a i := q; exact ⟨o, e, fun v z => by rw [d] at z; cases z⟩
theorem IsIt.at' {k : Bool} {h h' : Heap} {it a : Addr} {i : Nat} (q : IsIt k h it a i) (e : ∀ o, h.get? it = some o → h'.get? it = some o) : IsIt k h' it a i := by
  cases k with
  | true => exact Heap.IsListIter.at (show h.IsListIter it a i from q) e
  | false => exact Heap.IsTupleIter.at (show h.IsTupleIter it a i from q) e

/-! ### an iterator that gives out tuples, over sources -/
inductive SqAll (H : Hp) : List (Bool × Addr) → List (List V) → Prop
  | nil : SqAll H [] []
  | cons {k : Bool} {a : Addr} {xs : List V} {r : List (Bool × Addr)} {rs : List (List V)} : SqK k H a xs → SqAll H r rs → SqAll H ((k, a) :: r) (xs :: rs)
theorem SqAll.inj {H : Hp} : ∀ {src : List (Bool × Addr)} {xss yss : List (List V)}, SqAll H src xss → SqAll H src yss → xss = yss
  | _, _, _, .nil, .nil => rfl
  | _, _, _, .cons h hs, .cons h' hs' => by rw [h.inj h', SqAll.inj hs hs']
theorem SqAll.mono {F H : Hp} (e : Ex F H) : ∀ {src : List (Bool × Addr)} {xss : List (List V)}, SqAll F src xss → SqAll H src xss
  | _, _, .nil => .nil
  | _, _, .cons h hs => .cons (h.mono e) (SqAll.mono e hs)
def ItG (src : List (Bool × Addr)) (n : List (List V) → Nat) (f : Nat → List (List V) → List V) : It :=
  ⟨fun i H => ∃ xss, SqAll H src xss ∧ i < n xss, fun i H v H' => ∃ T xss, v = .ref T ∧ H T = none ∧ SqAll H src xss ∧ H' = upd H T (.tup (f i xss)), fun i H => ∃ xss, SqAll H src xss ∧ i = n xss⟩
/-- the library's walk of tuples as a turn of the layer -/
theorem turnG {P : Program} {w : World} {K : PySem.W.Frag} {elts : List Expr} {kk : Nat} {tpos : Pos} {src : List (Bool × Addr)} {n : List (List V) → Nat} {f : Nat → List (List V) → List V} {fp : List Addr} {it : Addr} {tn : Nat → Heap → Prop}
    (mem : it ∈ fp) (obj : ∀ i h, tn i h → ∀ b ∈ fp, ∃ o, h.get? b = some o ∧ ∀ v, o.data ≠ .cell v) (keep : ∀ i h h', tn i h → (∀ b ∈ fp, ∀ o, h.get? b = some o → h'.get? b = some o) → tn i h')
    (short : ∀ i xss, (f i xss).length ≤ 1000)
    (walk : ∀ (X : Cx) (pins : List (Addr × Obj)) (σ : L2.St) (H : Hp) (s : Shared) (xss : List (List V)), X.prog = P → X.w = w → X.A.handled = none → Inv X pins σ H s → SqAll H src xss →
      ∃ (fp' wr : List Addr) (Pt : Nat → Array Value → Prop) (Mid : Nat → Addr → Heap → Prop) (Src : Heap → Prop), (∀ b ∈ wr, b ∈ fp) ∧ Src s.heap ∧ WalksT P w X.A it fp' wr (n xss) Pt (fun i h => tn i h ∧ Src h) Mid ∧ ∀ i vals, Pt i vals → ∃ us, vals = us.toArray ∧ Vals (f i xss) us)
    (self : ∀ (A : Around) (i : Nat) (s : Shared) (Q : Value → Shared → Prop) (E : Value → Shared → Prop), tn i s.heap → Q (.ref it) s → wpAny (model P w) A (pyIter (.ref it)) Q E s) :
    Turn P w K (.Tuple elts kk tpos) (ItG src n f) fp it tn where
  mem := mem
  obj := obj
  keep := keep
  item := by
    intro X hP hw hK hc i pins s σ H E I hf st ⟨xss, hsq, hi⟩
    obtain ⟨fp', wr, Pt, Mid, Src, hwr, hsrc, W, hpt⟩ := walk X pins σ H s xss hP hw (I.ok.hd hc) I hsq
    subst hP hw hK
    refine W.item i s _ E hi ⟨st, hsrc⟩ fun T vals h1 tk hv hT ht mid k1 => ⟨_, rfl, ?_⟩
    refine W.go elts kk tpos i T { s with heap := h1, toks := tk } _ E mid fun h2 st2 k2 => ?_
    obtain ⟨us, rfl, hvs⟩ := hpt i vals hv
    have hT2 : h2.IsTuple T us.toArray := ht.at fun o e => k2 T o (W.apart i T _ mid) e
    have kk' : ∀ c o, c ∉ fp → s.heap.get? c = some o → h2.get? c = some o := fun c o hc e => k2 c o (fun z => hc (hwr c z)) (k1 c o (fun z => hc (hwr c z)) e)
    have new : ObjOk X.prog X.w (upd H T (.tup (f i xss))) h2 T (.tup (f i xss)) := ⟨Evl.sz_of (Nat.le_trans (short i xss) (by omega)), us, hvs, hT2⟩
    refine ⟨.ref T, _, I.turnedNew (t' := tk) (ch := fp) kk' hf hT new, rfl, ⟨T, xss, rfl, I.hok.fresh hT, hsq, rfl⟩, st2.1, fun c hcm => ?_⟩
    obtain ⟨o, ho, _⟩ := obj i _ st c hcm
    have hlt : c < s.heap.objs.size := Heap.lt_size ho
    rw [upd_ne (Nat.ne_of_lt (Nat.lt_of_lt_of_le hlt hT))]
    exact (hf c hcm).1
  done := by
    intro X hP hw hK hc i pins s σ H E I hf st ⟨xss, hsq, hi⟩
    obtain ⟨fp', wr, Pt, Mid, Src, hwr, hsrc, W, hpt⟩ := walk X pins σ H s xss hP hw (I.ok.hd hc) I hsq
    subst hP hw hK
    subst hi
    exact W.done s _ E ⟨st, hsrc⟩ fun h1 tk k1 => ⟨rfl, I.turnedL (t' := tk) (ch := fp) (fun c o hc e => k1 c o (fun z => hc (hwr c z)) e) hf⟩
  self := self
end U
set_option Elab.async false
set_option linter.all false
set_option maxRecDepth 100000
set_option maxHeartbeats 4000000
namespace U
open PySem PySem.Spec PyProof.Rows L2
open AutoSeq1 (wpAny_loadPart')
theorem WalksT.same {prog : Program} {w : World} {A : Around} {I : Addr} {fp wr : List Addr} {n n' : Nat} {Pt : Nat → Array Value → Prop} {St St' : Nat → Heap → Prop} {Mid : Nat → Addr → Heap → Prop} (h : WalksT prog w A I fp wr n Pt St Mid) (hn : n = n') (e : ∀ i x, St i x ↔ St' i x) : WalksT prog w A I fp wr n' Pt St' Mid := by
  have : St = St' := by funext i x; exact propext (e i x)
  subst this hn; exact h
/-! ### zip of two -/
def n2 : List (List V) → Nat
  | [xs, ys] => min xs.length ys.length
  | _ => 0
def f2 (i : Nat) : List (List V) → List V
  | [xs, ys] => [xs.getD i .non, ys.getD i .non]
  | _ => []
def tnZ2 (k1 k2 : Bool) (a b z TI TO i1 i2 : Addr) (i : Nat) (h : Heap) : Prop := IsZip h z TI TO .none ∧ IsTupOf2 h TI (.ref i1) (.ref i2) ∧ (∃ x y, IsTupOf2 h TO x y) ∧ IsIt k1 h i1 a i ∧ IsIt k2 h i2 b i
theorem Vals.getD {xs : List V} {us : List Value} {i : Nat} {u : Value} (r : Vals xs us) (h : us[i]? = some u) : RelV (xs.getD i .non) u := by
  have hl := r.length
  have hi : i < us.length := (List.getElem?_eq_some_iff.mp h).1
  have hx : xs[i]? = some (xs[i]'(by omega)) := List.getElem?_eq_getElem (by omega)
  obtain ⟨u', e, q⟩ := r.get hx
  rw [h] at e; cases e
  rw [List.getD_eq_getElem?_getD, hx]
  exact q
theorem turnZ2 {P : Program} {w : World} {K : PySem.W.Frag} {elts : List Expr} {kk : Nat} {tpos : Pos} {k1 k2 : Bool} {a b z TI TO i1 i2 : Addr} (ha : a ≠ i1) (hb : b ≠ i2) (S : ZipSep2 z TI TO i1 i2 [i1, a] [i2, b]) :
    Turn P w K (.Tuple elts kk tpos) (ItG [(k1, a), (k2, b)] n2 f2) [z, TI, TO, i1, i2] z (tnZ2 k1 k2 a b z TI TO i1 i2) := by
  refine turnG (by simp) (fun i h st c hc => ?_) (fun i h h' st k => ?_) (fun i xss => ?_) (fun X pins σ H s xss hP hw hh I sq => ?_) fun A i s Q E st h => wpAny_pyIter_zip st.1 h
  · obtain ⟨hz, hTI, ⟨x, y, hTO⟩, h1, h2⟩ := st
    have e' : c = z ∨ c = TI ∨ c = TO ∨ c = i1 ∨ c = i2 := by simpa using hc
    rcases e' with rfl | rfl | rfl | rfl | rfl
    · exact ⟨_, hz, fun v q => nomatch q⟩
    · exact ⟨_, hTI, fun v q => nomatch q⟩
    · exact ⟨_, hTO, fun v q => nomatch q⟩
    · exact h1.obj
    · exact h2.obj
  · obtain ⟨hz, hTI, ⟨x, y, hTO⟩, h1, h2⟩ := st
    exact ⟨k z (by simp) _ hz, k TI (by simp) _ hTI, ⟨x, y, k TO (by simp) _ hTO⟩, h1.at' fun o q => k i1 (by simp) o q, h2.at' fun o q => k i2 (by simp) o q⟩
  · unfold f2; split <;> simp
  · subst hP hw
    cases sq with
    | cons q1 sq =>
      cases sq with
      | cons q2 sq =>
        cases sq
        obtain ⟨its1, r1, s1⟩ := q1.at I
        obtain ⟨its2, r2, s2⟩ := q2.at I
        refine ⟨_, _, _, _, fun h => IsSq k1 h a its1 ∧ IsSq k2 h b its2, ?_, ⟨s1, s2⟩, WalksT.same (WalksT.zipD2 S (drawsK k1 (by exact hh) i1 a ha its1) (drawsK k2 (by exact hh) i2 b hb its2)) (by show _ = min _ _; rw [r1.length, r2.length]) fun i h => ?_, fun i vals hp => ?_⟩
        · intro c hc
          have e' : c = z ∨ c = TO ∨ c = i1 ∨ c = i2 := by simpa using hc
          rcases e' with rfl | rfl | rfl | rfl <;> simp
        · exact ⟨fun ⟨x1, x2, x3, ⟨x4, x5⟩, x6, x7⟩ => ⟨⟨x1, x2, x3, x4, x6⟩, x5, x7⟩, fun ⟨⟨x1, x2, x3, x4, x6⟩, x5, x7⟩ => ⟨x1, x2, x3, ⟨x4, x5⟩, x6, x7⟩⟩
        · obtain ⟨u1, u2, e1, e2, rfl⟩ := hp
          exact ⟨[u1, u2], rfl, .cons (Vals.getD r1 e1) (.cons (Vals.getD r2 e2) .nil)⟩
/-! ### zip of three -/
def n3 : List (List V) → Nat
  | [xs, ys, zs] => min (min xs.length ys.length) zs.length
  | _ => 0
def f3 (i : Nat) : List (List V) → List V
  | [xs, ys, zs] => [xs.getD i .non, ys.getD i .non, zs.getD i .non]
  | _ => []
def tnZ3 (k1 k2 k3 : Bool) (a b c z TI TO i1 i2 i3 : Addr) (i : Nat) (h : Heap) : Prop := IsZip h z TI TO .none ∧ IsTupOf3 h TI (.ref i1) (.ref i2) (.ref i3) ∧ (∃ x y u, IsTupOf3 h TO x y u) ∧ IsIt k1 h i1 a i ∧ IsIt k2 h i2 b i ∧ IsIt k3 h i3 c i
theorem turnZ3 {P : Program} {w : World} {K : PySem.W.Frag} {elts : List Expr} {kk : Nat} {tpos : Pos} {k1 k2 k3 : Bool} {a b d z TI TO i1 i2 i3 : Addr} (ha : a ≠ i1) (hb : b ≠ i2) (hd : d ≠ i3) (S : ZipSep3 z TI TO i1 i2 i3 [i1, a] [i2, b] [i3, d]) :
    Turn P w K (.Tuple elts kk tpos) (ItG [(k1, a), (k2, b), (k3, d)] n3 f3) [z, TI, TO, i1, i2, i3] z (tnZ3 k1 k2 k3 a b d z TI TO i1 i2 i3) := by
  refine turnG (by simp) (fun i h st c hc => ?_) (fun i h h' st k => ?_) (fun i xss => ?_) (fun X pins σ H s xss hP hw hh I sq => ?_) fun A i s Q E st h => wpAny_pyIter_zip st.1 h
  · obtain ⟨hz, hTI, ⟨x, y, u, hTO⟩, h1, h2, h3⟩ := st
    have e' : c = z ∨ c = TI ∨ c = TO ∨ c = i1 ∨ c = i2 ∨ c = i3 := by simpa using hc
    rcases e' with rfl | rfl | rfl | rfl | rfl | rfl
    · exact ⟨_, hz, fun v q => nomatch q⟩
    · exact ⟨_, hTI, fun v q => nomatch q⟩
    · exact ⟨_, hTO, fun v q => nomatch q⟩
    · exact h1.obj
    · exact h2.obj
    · exact h3.obj
  · obtain ⟨hz, hTI, ⟨x, y, u, hTO⟩, h1, h2, h3⟩ := st
    exact ⟨k z (by simp) _ hz, k TI (by simp) _ hTI, ⟨x, y, u, k TO (by simp) _ hTO⟩, h1.at' fun o q => k i1 (by simp) o q, h2.at' fun o q => k i2 (by simp) o q, h3.at' fun o q => k i3 (by simp) o q⟩
  · unfold f3; split <;> simp
  · subst hP hw
    cases sq with
    | cons q1 sq =>
      cases sq with
      | cons q2 sq =>
        cases sq with
        | cons q3 sq =>
          cases sq
          obtain ⟨its1, r1, s1⟩ := q1.at I
          obtain ⟨its2, r2, s2⟩ := q2.at I
          obtain ⟨its3, r3, s3⟩ := q3.at I
          refine ⟨_, _, _, _, fun h => IsSq k1 h a its1 ∧ IsSq k2 h b its2 ∧ IsSq k3 h d its3, ?_, ⟨s1, s2, s3⟩, WalksT.same (WalksT.zipD3 S (drawsK k1 (by exact hh) i1 a ha its1) (drawsK k2 (by exact hh) i2 b hb its2) (drawsK k3 (by exact hh) i3 d hd its3)) (by show _ = min (min _ _) _; rw [r1.length, r2.length, r3.length]) fun i h => ?_, fun i vals hp => ?_⟩
          · intro c hc
            have e' : c = z ∨ c = TO ∨ c = i1 ∨ c = i2 ∨ c = i3 := by simpa using hc
            rcases e' with rfl | rfl | rfl | rfl | rfl <;> simp
          · exact ⟨fun ⟨x1, x2, x3, ⟨x4, x5⟩, ⟨x6, x7⟩, x8, x9⟩ => ⟨⟨x1, x2, x3, x4, x6, x8⟩, x5, x7, x9⟩, fun ⟨⟨x1, x2, x3, x4, x6, x8⟩, x5, x7, x9⟩ => ⟨x1, x2, x3, ⟨x4, x5⟩, ⟨x6, x7⟩, x8, x9⟩⟩
          · obtain ⟨u1, u2, u3, e1, e2, e3, rfl⟩ := hp
            exact ⟨[u1, u2, u3], rfl, .cons (Vals.getD r1 e1) (.cons (Vals.getD r2 e2) (.cons (Vals.getD r3 e3) .nil))⟩
/-! ### enumerate -/
set_option maxHeartbeats 1000000 in
theorem meets_enum1 {v : Value} {o : Obj} {H : Heap → Prop} (B : Begins v o H) :
    Meets (Builtin.«enumerate.__new__» ⟨[.type "enumerate", v], []⟩) (fun _ R s => H s.heap ∧
      R (.ok (.ret (.ref (s.heap.push o).objs.size))) { s with heap := (s.heap.push o).push { cls := .type "enumerate", data := .fields #[.none, .bool false, .ref s.heap.objs.size, rawInt 0, .none, .none] } }) :=
  .of_wp fun prog w A R s h => by
    obtain ⟨hp, g, d, tk, os⟩ := s; obtain ⟨h1, h⟩ := h
    have hsub := sub_enumerate
    have q1 : ∀ {A' : Around} {E : Value → Shared → Prop} {Q : Value → Shared → Prop}, Q (.ref hp.objs.size) ⟨hp.push o, g, d, tk, os⟩ → wpAny (model prog w) A' (pyIter v) Q E ⟨hp, g, d, tk, os⟩ :=
      fun q => B.iter prog w _ _ ⟨hp, g, d, tk, os⟩ _ h1 q
    wp_walk using q1
    refine wpAny_stack_any fun st => wpAny_pure ?_
    split
    · rename_i c _ _ _ _ _
      cases (c == Value.type "enumerate")
      · wp_walk using q1
        exact ⟨_, rfl, h⟩
      · wp_walk using q1
        exact ⟨_, rfl, h⟩
    · wp_walk using q1
      exact ⟨_, rfl, h⟩
theorem enum1_begins {prog : Program} {w : World} {A : Around} {E : Value → Shared → Prop} {s : Shared} {v : Value} {o : Obj} {H : Heap → Prop} {Q : Value → Shared → Prop} (B : Begins v o H) (h1 : H s.heap)
    (h : ∀ h', IsEnum h' (s.heap.objs.size + 1) s.heap.objs.size 0 .none → h'.get? s.heap.objs.size = some o → (∀ b o, s.heap.get? b = some o → h'.get? b = some o) → Q (.ref (s.heap.objs.size + 1)) { s with heap := h' }) :
    wpAny (model prog w) A (call (.type "enumerate") [v]) Q E s := by
  refine callType_new F.called_enumerate (by decide) (F.typeCall_enumerate_1 _) (F.newCall_enumerate_1 _) (fun obj => F.args_object_init_2 obj _) F.entry_enumerate_new (meets_enum1 B) ⟨h1, ?_⟩
  have hz : (s.heap.push o).objs.size = s.heap.objs.size + 1 := Heap.size_push ..
  show _ ∧ _
  rw [hz]
  have he : IsEnum ((s.heap.push o).push { cls := .type "enumerate", data := .fields #[.none, .bool false, .ref s.heap.objs.size, rawInt 0, .none, .none] }) (s.heap.objs.size + 1) s.heap.objs.size 0 .none := by
    have := Heap.get?_push_size (s.heap.push o) (o := { cls := .type "enumerate", data := .fields #[.none, .bool false, .ref s.heap.objs.size, rawInt 0, .none, .none] }) rfl
    rw [hz] at this; exact this
  exact ⟨⟨_, he, rfl⟩, h _ he (Heap.get?_push_of_some _ (Heap.get?_push_size _ B.free)) fun b o x => Heap.get?_push_of_some _ (Heap.get?_push_of_some _ x)⟩
def nE : List (List V) → Nat
  | [xs] => xs.length
  | _ => 0
def fE (i : Nat) : List (List V) → List V
  | [xs] => [.int (i : Int), xs.getD i .non]
  | _ => []
def tnE (k : Bool) (a e it : Addr) (i : Nat) (h : Heap) : Prop := (∃ old, IsEnum h e it (0 + (i : Int)) old) ∧ IsIt k h it a i
theorem turnE {P : Program} {w : World} {K : PySem.W.Frag} {elts : List Expr} {kk : Nat} {tpos : Pos} {k : Bool} {a e it : Addr} (ha : a ≠ it) (he : e ≠ it) (hea : e ≠ a) :
    Turn P w K (.Tuple elts kk tpos) (ItG [(k, a)] nE fE) [e, it] e (tnE k a e it) := by
  refine turnG (by simp) (fun i h st c hc => ?_) (fun i h h' st k => ?_) (fun i xss => ?_) (fun X pins σ H s xss hP hw hh I sq => ?_) fun A i s Q E st h => let ⟨⟨_, z⟩, _⟩ := st; wpAny_pyIter_enum z h
  · obtain ⟨⟨old, hz⟩, h1⟩ := st
    have e' : c = e ∨ c = it := by simpa using hc
    rcases e' with rfl | rfl
    · exact ⟨_, hz, fun v q => nomatch q⟩
    · exact h1.obj
  · obtain ⟨⟨old, hz⟩, h1⟩ := st
    exact ⟨⟨old, k e (by simp) _ hz⟩, h1.at' fun o q => k it (by simp) o q⟩
  · unfold fE; split <;> simp
  · subst hP hw
    cases sq with
    | cons q1 sq =>
      cases sq
      obtain ⟨its1, r1, s1⟩ := q1.at I
      refine ⟨_, _, _, _, fun h => IsSq k h a its1, ?_, s1, WalksT.same (WalksT.enumFrom 0 (drawsK k (by exact hh) it a ha its1) e he (by simp [he, hea]) (by simp)) (by show _ = List.length _; rw [r1.length]) fun i h => ?_, fun i vals hp => ?_⟩
      · intro c hc; exact hc
      · exact ⟨fun ⟨x1, x2, x3⟩ => ⟨⟨x1, x2⟩, x3⟩, fun ⟨⟨x1, x2⟩, x3⟩ => ⟨x1, x2, x3⟩⟩
      · obtain ⟨t, u1, e1, rfl⟩ := hp
        exact ⟨[.int (0 + (i : Int)) t, u1], rfl, .cons ⟨t, by rw [Int.zero_add]⟩ (.cons (Vals.getD r1 e1) .nil)⟩
end U
set_option Elab.async false
set_option linter.all false
set_option maxRecDepth 100000
set_option maxHeartbeats 4000000
namespace U
open PySem PySem.Spec PyProof.Rows L2
/-- an iterator that gives the data ds, one by one -/
structure Wlk (J : It) (F : Hp) (ds : List D) : Prop where
  stop : ∀ H, Ex F H → J.stop ds.length H
  go : ∀ i H, Ex F H → i < ds.length → J.go i H
  yld : ∀ i H F', Ex F F' → Ex F' H → i < ds.length → ∀ x H', J.yld i H x H' → ∃ F'' d, ds[i]? = some d ∧ Evo F' H F'' H' ∧ Dr F'' x d
theorem wlk_list {K : PySem.W.Frag} {F : Hp} {a : Addr} {xs : List V} {ds : List D} (h : Rd F a (.lst xs)) (hd : DrAll F xs ds) : Wlk (Itl K a) F ds where
  stop := fun H e => ⟨xs, .inl (Evl.ex_rd e h), by rw [dps_len hd]; exact Nat.le_refl _⟩
  go := fun i H e hi => by
    obtain ⟨v, hv, _⟩ := dps_get hd (List.getElem?_eq_getElem hi)
    exact ⟨xs, v, .inl (Evl.ex_rd e h), hv⟩
  yld := fun i H F' e e' hi x H' ⟨eH, hx⟩ => by
    subst eH
    obtain ⟨v, hv, hd'⟩ := dps_get hd (List.getElem?_eq_getElem hi)
    have := hx xs (.inl (Evl.ex_rd (e.trans e') h))
    rw [hv] at this; cases this
    exact ⟨F', _, List.getElem?_eq_getElem hi, Evo.refl e', dp_mono e hd'⟩
theorem wlk_tup {K : PySem.W.Frag} {F : Hp} {a : Addr} {xs : List V} {ds : List D} (h : F a = some (.tup xs)) (hd : DrAll F xs ds) : Wlk (Itt K a) F ds where
  stop := fun H e => ⟨xs, .inl (.inl (e _ _ h)), by rw [dps_len hd]; exact Nat.le_refl _⟩
  go := fun i H e hi => by
    obtain ⟨v, hv, _⟩ := dps_get hd (List.getElem?_eq_getElem hi)
    exact ⟨xs, v, .inl (.inl (e _ _ h)), hv⟩
  yld := fun i H F' e e' hi x H' ⟨eH, hx⟩ => by
    subst eH
    obtain ⟨v, hv, hd'⟩ := dps_get hd (List.getElem?_eq_getElem hi)
    have := hx xs (.inl (.inl ((e.trans e') _ _ h)))
    rw [hv] at this; cases this
    exact ⟨F', _, List.getElem?_eq_getElem hi, Evo.refl e', dp_mono e hd'⟩
def rangeD (lo : Int) (n : Nat) : List D := (List.range n).map fun i => .int (lo + (i : Nat))
theorem rangeD_len (lo : Int) (n : Nat) : (rangeD lo n).length = n := by simp [rangeD]
theorem wlk_range {F : Hp} {lo : Int} {n : Nat} : Wlk (Itr lo n) F (rangeD lo n) where
  stop := fun H e => by rw [rangeD_len]; exact Nat.le_refl n
  go := fun i H e hi => by rw [rangeD_len] at hi; exact hi
  yld := fun i H F' e e' hi x H' ⟨eH, hx⟩ => by
    subst eH hx
    rw [rangeD_len] at hi
    exact ⟨F', _, by simp [rangeD, hi], Evo.refl e', .int _⟩
def textD (x : Str) : List D := x.cps.toList.map fun c => .str ⟨#[c]⟩
theorem wlk_str {F : Hp} {x : Str} : Wlk (Its x) F (textD x) where
  stop := fun H e => by
    show x.cps.size ≤ _
    simp [textD]
  go := fun i H e hi => by
    show i < x.cps.size
    simpa [textD] using hi
  yld := fun i H F' e e' hi y H' ⟨eH, c, hc, hy⟩ => by
    subst eH hy
    refine ⟨F', .str ⟨#[c]⟩, ?_, Evo.refl e', .str _⟩
    simp [textD, hc]
theorem wlk_G {F : Hp} {src : List (Bool × Addr)} {n : List (List V) → Nat} {f : Nat → List (List V) → List V} {xss : List (List V)} {ds : List D} (h : SqAll F src xss) (hn : ds.length = n xss) (hd : ∀ i, i < ds.length → ∃ es, ds[i]? = some (.tuple es) ∧ DrAll F (f i xss) es) : Wlk (ItG src n f) F ds where
  stop := fun H e => ⟨xss, h.mono e, hn⟩
  go := fun i H e hi => ⟨xss, h.mono e, by rw [← hn]; exact hi⟩
  yld := fun i H F' e e' hi x H' ⟨T, yss, ex, hT, hs, eH⟩ => by
    have : yss = xss := SqAll.inj hs (h.mono (e.trans e'))
    subst this ex eH
    obtain ⟨es, h1, h2⟩ := hd i hi
    have hTF : F' T = none := none_back e' hT
    exact ⟨_, _, h1, (Evo.refl e').put hT, .tup upd_same (dps_mono (e.trans (Evl.Ex.new hTF)) h2)⟩
def seqD : D → Option (List D)
  | .list ds => some ds
  | .tuple ds => some ds
  | _ => none
theorem seq_of {F : Hp} {v : V} {d : D} {ds : List D} (h : Dr F v d) (e : seqD d = some ds) : ∃ k a xs, v = .ref a ∧ SqK k F a xs ∧ DrAll F xs ds := by
  cases h with
  | lst h hs => cases e; exact ⟨true, _, _, rfl, h, hs⟩
  | tup h hs => cases e; exact ⟨false, _, _, rfl, h, hs⟩
  | _ => cases e
theorem dps_getD {F : Hp} {vs : List V} {ds : List D} {i : Nat} (h : DrAll F vs ds) (hi : i < ds.length) : Dr F (vs.getD i .non) (ds.getD i .none) := by
  obtain ⟨v, hv, hd⟩ := dps_get h (List.getElem?_eq_getElem hi)
  rw [List.getD_eq_getElem?_getD, hv, List.getD_eq_getElem?_getD, List.getElem?_eq_getElem hi]
  exact hd
def zip2D : List D → List D → List D
  | x :: xs, y :: ys => .tuple [x, y] :: zip2D xs ys
  | _, _ => []
def zip3D : List D → List D → List D → List D
  | x :: xs, y :: ys, z :: zs => .tuple [x, y, z] :: zip3D xs ys zs
  | _, _, _ => []
def enumD : Nat → List D → List D
  | _, [] => []
  | i, x :: xs => .tuple [.int (i : Int), x] :: enumD (i + 1) xs
theorem zip2D_len : ∀ xs ys : List D, (zip2D xs ys).length = min xs.length ys.length
  | [], _ => by simp [zip2D]
  | _ :: _, [] => by simp [zip2D]
  | x :: xs, y :: ys => by simp [zip2D, zip2D_len xs ys]
theorem zip2D_get : ∀ (xs ys : List D) (i : Nat), i < min xs.length ys.length → (zip2D xs ys)[i]? = some (.tuple [xs.getD i .none, ys.getD i .none])
  | [], _, i, h => by simp at h
  | _ :: _, [], i, h => by simp at h
  | x :: xs, y :: ys, 0, h => by simp [zip2D]
  | x :: xs, y :: ys, i + 1, h => by
    have := zip2D_get xs ys i (by simp at h; omega)
    simpa [zip2D] using this
theorem zip3D_len : ∀ xs ys zs : List D, (zip3D xs ys zs).length = min (min xs.length ys.length) zs.length
  | [], _, _ => by simp [zip3D]
  | _ :: _, [], _ => by simp [zip3D]
  | _ :: _, _ :: _, [] => by simp [zip3D]
  | x :: xs, y :: ys, z :: zs => by simp [zip3D, zip3D_len xs ys zs]
theorem zip3D_get : ∀ (xs ys zs : List D) (i : Nat), i < min (min xs.length ys.length) zs.length → (zip3D xs ys zs)[i]? = some (.tuple [xs.getD i .none, ys.getD i .none, zs.getD i .none])
  | [], _, _, i, h => by simp at h
  | _ :: _, [], _, i, h => by simp at h
  | _ :: _, _ :: _, [], i, h => by simp at h
  | x :: xs, y :: ys, z :: zs, 0, h => by simp [zip3D]
  | x :: xs, y :: ys, z :: zs, i + 1, h => by
    have := zip3D_get xs ys zs i (by simp at h; omega)
    simpa [zip3D] using this
theorem enumD_len : ∀ (xs : List D) (k : Nat), (enumD k xs).length = xs.length
  | [], _ => rfl
  | x :: xs, k => by simp [enumD, enumD_len xs (k + 1)]
theorem enumD_get : ∀ (xs : List D) (k i : Nat), i < xs.length → (enumD k xs)[i]? = some (.tuple [.int ((k + i : Nat) : Int), xs.getD i .none])
  | [], _, i, h => by simp at h
  | x :: xs, k, 0, h => by simp [enumD]
  | x :: xs, k, i + 1, h => by
    have := enumD_get xs (k + 1) i (by simp at h; omega)
    simp only [enumD, List.getElem?_cons_succ, this]
    simp; omega
/-! ### what is walked -/
def GotI (cv : Nat → Value) (W : WX) (F H : Hp) (σ : L2.St) (R : It → Hp → Prop) : ResL → Prop
  | .ok ds => ∀ J F' H', Evo F H F' H' → Wlk J F' ds → R J H'
  | .exc c => QX cv W F H σ c
  | .bad => False
def rdI (cv : Nat → Value) (W : WX) (mi : SmL) : TI := fun σ H R => ∃ ρ F, Rel cv ρ σ F H ∧ GotI cv W F H σ R (mi ρ)
def JI (X : Cx) (cv : Nat → Value) (W : WX) (tg iter : Expr) (mi : SmL) : Prop := PI X tg iter (rdI cv W mi)
def iterD : D → ResL
  | .list ds => .ok ds
  | .tuple ds => .ok ds
  | .str x => .ok (textD x)
  | _ => .bad
def iSeq (m : Sm) : SmL := fun ρ => (m ρ).bindL iterD
def iR1 (m : Sm) : SmL := fun ρ => (m ρ).bindL fun d => match d with
  | .int j => if -(2 ^ 62) ≤ j ∧ j < 2 ^ 62 then .ok (rangeD 0 j.toNat) else .bad
  | _ => .bad
def iR2 (ma mb : Sm) : SmL := fun ρ => (ma ρ).bindL fun x => (mb ρ).bindL fun y => match x, y with
  | .int i, .int j => if -(2 ^ 62) ≤ i ∧ i < 2 ^ 62 ∧ -(2 ^ 62) ≤ j ∧ j < 2 ^ 62 then .ok (rangeD i (j - i).toNat) else .bad
  | _, _ => .bad
def zipL : List D → ResL
  | [x, y] => match seqD x, seqD y with
    | some xs, some ys => .ok (zip2D xs ys)
    | _, _ => .bad
  | [x, y, z] => match seqD x, seqD y, seqD z with
    | some xs, some ys, some zs => .ok (zip3D xs ys zs)
    | _, _, _ => .bad
  | _ => .bad
def iZip (ms : List Sm) : SmL := fun ρ => (evs ms ρ).bindL zipL
def enumL : List D → ResL
  | [x] => match seqD x with
    | some xs => .ok (enumD 0 xs)
    | _ => .bad
  | _ => .bad
def iEnum (m : Sm) : SmL := fun ρ => (evs [m] ρ).bindL enumL
section
variable {X : Cx} {cv : Nat → Value} {W : WX} {a b c tg : Expr} {es : List Expr} {ms : List Sm} {m ma mb mc : Sm} {pos p tpos : Pos}
theorem PI.imp {e : Expr} {t t' : TI} (h : PI X tg e t) (k : ∀ σ H R, t' σ H R → t σ H R) : PI X tg e t' := ⟨fun pins s σ H R I hw => h.run pins s σ H R I (k σ H R hw)⟩
/-- a value that is walked, by its kind -/
theorem pi_any {l : Expr} {tl : TE} (hl : PE X l tl) : PI X tg l (fun σ H R => tl σ H fun x H1 => (∃ a, x = .ref a ∧ (∃ xs, SqL X.K H1 a xs) ∧ R (Itl X.K a) H1) ∨ (∃ a, x = .ref a ∧ (∃ xs, SqT X.K H1 a xs) ∧ R (Itt X.K a) H1) ∨ ∃ z, x = .str z ∧ R (Its z) H1) := by
  refine ⟨fun pins s σ H R I h => ?_⟩
  refine thn (hl.run pins s σ H _ I h) fun v s1 ⟨x, H1, I1, r1, q1⟩ => ?_
  rcases q1 with q1 | q1 | q1
  · obtain ⟨a, e, ⟨xs, hq⟩, q⟩ := q1
    subst e
    cases r1
    obtain ⟨its, rv, p, hz⟩ := I1.list hq
    exact wpAny_pyIter_list p.isList (pi_one (tk := s1.toks) I1 _ (turn_list a _) ⟨_, Heap.get?_push_size _ rfl, rfl, rfl⟩ q)
  · obtain ⟨a, e, ⟨xs, hq⟩, q⟩ := q1
    subst e
    cases r1
    obtain ⟨its, rv, p, hz⟩ := I1.tuple hq
    exact wpAny_pyIter_tuple (show s1.heap.IsTuple a its.toArray from p) (pi_one (tk := s1.toks) I1 _ (turn_tuple a _) ⟨_, Heap.get?_push_size _ rfl, rfl, rfl⟩ q)
  · obtain ⟨x, ex, q⟩ := q1
    subst ex
    obtain ⟨t, rfl⟩ := r1
    cases ha : x.cps.all (· < 128)
    · exact wpAny_pyIter_wide ha (pi_one (tk := s1.toks) I1 _ (turn_str _ x t "str_iterator" (.inr rfl)) ⟨_, Heap.get?_push_size _ rfl, rfl, rfl⟩ q)
    · exact wpAny_pyIter_ascii ha (pi_one (tk := s1.toks) I1 _ (turn_str _ x t "str_ascii_iterator" (.inl rfl)) ⟨_, Heap.get?_push_size _ rfl, rfl, rfl⟩ q)
theorem ji_seq (ha : JS X cv W a ma) : JI X cv W tg a (iSeq ma) :=
  PI.imp (pi_any ha) fun σ H R ⟨ρ, F, r, q⟩ => by
    refine ⟨ρ, F, r, ?_⟩
    unfold iSeq at q
    have go : ∀ d, GotI cv W F H σ R (iterD d) → QD F H d fun x H1 => (∃ a, x = .ref a ∧ (∃ xs, SqL X.K H1 a xs) ∧ R (Itl X.K a) H1) ∨ (∃ a, x = .ref a ∧ (∃ xs, SqT X.K H1 a xs) ∧ R (Itt X.K a) H1) ∨ ∃ z, x = .str z ∧ R (Its z) H1 := fun d q v F1 H1 ev hd => by
      cases hd with
      | lst h hs => exact .inl ⟨_, rfl, ⟨_, .inl (Evl.ex_rd ev.le h)⟩, q _ F1 H1 ev (wlk_list h hs)⟩
      | tup h hs => exact .inr (.inl ⟨_, rfl, ⟨_, .inl (.inl (ev.le _ _ h))⟩, q _ F1 H1 ev (wlk_tup h hs)⟩)
      | str x => exact .inr (.inr ⟨_, rfl, q _ F1 H1 ev wlk_str⟩)
      | _ => exact q.elim
    cases h : ma ρ with
    | ok d => rw [h] at q; exact go d q
    | new d => rw [h] at q; exact go _ q
    | exc c => rw [h] at q; exact q
    | bad => rw [h] at q; exact q
theorem ji_r1 (hg : Gl X "range") (hm : X.mg "range" = none) (ha : JW X cv W a ma) (h1 : notStar a = true) : JI X cv W tg (.Call (.Name "range" p) [a] [] pos) (iR1 ma) :=
  PI.imp (pi_range1 hg hm (pa_cons ha pa_nil (star_cons h1)) (star_cons h1)) fun σ H R ⟨ρ, F, r, q⟩ => by
    refine ⟨ρ, F, r, ?_⟩
    unfold iR1 at q
    cases h : ma ρ with
    | ok d =>
      rw [h] at q
      intro v F1 H1 ev wk
      simp only [Res.bindL_ok] at q
      cases d <;> try exact q.elim
      simp only at q
      split at q
      · rename_i hz
        exact ⟨_, by rw [wk.int], hz.1, hz.2, q _ F1 H1 ev wlk_range⟩
      · exact q.elim
    | new d => rw [h] at q; exact q.elim
    | exc c => rw [h] at q; exact q
    | bad => rw [h] at q; exact q
theorem ji_r2 (hg : Gl X "range") (hm : X.mg "range" = none) (ha : JW X cv W a ma) (hb : JW X cv W b mb) (h1 : notStar a = true) (h2 : notStar b = true) : JI X cv W tg (.Call (.Name "range" p) [a, b] [] pos) (iR2 ma mb) :=
  PI.imp (pi_range2 hg hm (pa_cons ha (pa_cons hb pa_nil (star_cons h2)) (star_cons h1)) (by rw [star_cons h1, star_cons h2]; rfl) (star_cons h2)) fun σ H R ⟨ρ, F, r, q⟩ => by
    refine ⟨ρ, F, r, ?_⟩
    unfold iR2 at q
    have go : ∀ d, GotI cv W F H σ R ((mb ρ).bindL fun y => match d, y with
      | .int i, .int j => if -(2 ^ 62) ≤ i ∧ i < 2 ^ 62 ∧ -(2 ^ 62) ≤ j ∧ j < 2 ^ 62 then .ok (rangeD i (j - i).toNat) else .bad
      | _, _ => .bad) → QW F H d fun x H1 => tCons (rdW cv W mb) tNil σ H1 fun xs H2 => ∃ i j : Int, x :: xs = [.int i, .int j] ∧ (-(2 ^ 62) ≤ i ∧ i < 2 ^ 62 ∧ -(2 ^ 62) ≤ j ∧ j < 2 ^ 62) ∧ R (Itr i (j - i).toNat) H2 := fun d q v F1 H1 ev wk => by
      refine ⟨ρ, F1, r.evo ev, ?_⟩
      cases h : mb ρ with
      | ok d2 =>
        rw [h] at q
        intro v2 F2 H2 ev2 wk2
        simp only [Res.bindL_ok] at q
        cases d <;> try exact q.elim
        cases d2 <;> try exact q.elim
        simp only at q
        split at q
        · rename_i hz
          exact ⟨_, _, by rw [wk.int, wk2.int], hz, q _ F2 H2 (ev.trans ev2) wlk_range⟩
        · exact q.elim
      | new d2 => rw [h] at q; cases d <;> exact q.elim
      | exc c => rw [h] at q; exact QX.evo ev q
      | bad => rw [h] at q; exact q
    cases h : ma ρ with
    | ok d => rw [h] at q; exact go d q
    | new d => rw [h] at q; exact go _ q
    | exc c => rw [h] at q; exact q
    | bad => rw [h] at q; exact q
theorem lt_new {s : Shared} {N : Nat} (h : N = s.heap.objs.size) {a : Addr} {k : Bool} {its : List Value} (q : IsSq k s.heap a its) (j : Nat) : a ≠ N + j := fun e => by
  have h' : (a : Nat) < s.heap.objs.size := q.lt
  have e' : (a : Nat) = N + j := e
  subst h
  rw [e'] at h'
  exact absurd h' (Nat.not_lt.mpr (Nat.le_add_right _ _))
theorem pi_zip2 {e e2 : Expr} {ta : TA} {elts : List Expr} {kk : Nat} (hg : Gl X "zip") (hm : X.mg "zip" = none) (ha : PA X [e, e2] ta) (h1 : notStar e = true) (h2 : notStar e2 = true) :
    PI X (.Tuple elts kk tpos) (.Call (.Name "zip" p) [e, e2] [] pos) (fun σ H R => ta σ H fun vs H1 => ∃ k1 k2 a b xs ys, vs = [.ref a, .ref b] ∧ SqK k1 H1 a xs ∧ SqK k2 H1 b ys ∧ R (ItG [(k1, a), (k2, b)] n2 f2) H1) := by
  refine ⟨fun pins s σ H R I h => ?_⟩
  refine Call_ (ld_blt I hg hm PyProof.Rows.boot_zip (PyProof.Rows.callWith_type1 (thn (ha.run pos pins s σ H _ I h) fun us s1 ⟨vs, H1, I1, r1, q1⟩ => ?_) (star_cons h1) (star_any (by simp [h2]))))
  obtain ⟨k1, k2, a, b, xs, ys, ex, hx, hy, q⟩ := q1
  subst ex
  obtain ⟨u1, u2, rfl, ru1, ru2⟩ := Vals.two r1
  cases ru1
  cases ru2
  obtain ⟨its1, rv1, p1⟩ := hx.at I1
  obtain ⟨its2, rv2, p2⟩ := hy.at I1
  refine zip_begins2 (beginsK k1 a its1) (beginsK k2 b its2) p1 p2 fun h' hz hTI hTO o1 o2 hsz hk => wpAny_pyIter_zip hz ?_
  have I2 : Inv X pins σ H1 { s1 with heap := h' } := I1.kept (t' := s1.toks) hk
  have S : ZipSep2 (s1.heap.objs.size + 4) (s1.heap.objs.size + 2) (s1.heap.objs.size + 3) s1.heap.objs.size (s1.heap.objs.size + 1) [s1.heap.objs.size, a] [s1.heap.objs.size + 1, b] := zip_sep2 (by simpa using p1.lt) (by simpa using p2.lt)
  refine ⟨s1.heap.objs.size + 4, [s1.heap.objs.size + 4, s1.heap.objs.size + 2, s1.heap.objs.size + 3, s1.heap.objs.size, s1.heap.objs.size + 1], _, _, H1, rfl, I2, turnZ2 (by simpa using lt_new rfl p1 0) (lt_new rfl p2 1) S, ⟨hz, hTI, ⟨_, _, hTO⟩, itObj_is o1, itObj_is o2⟩, fun c hcm => ?_, q⟩
  have hle : s1.heap.objs.size ≤ c := by
    have e' : c = s1.heap.objs.size + 4 ∨ c = s1.heap.objs.size + 2 ∨ c = s1.heap.objs.size + 3 ∨ c = s1.heap.objs.size ∨ c = s1.heap.objs.size + 1 := by simpa using hcm
    rcases e' with z | z | z | z | z <;> rw [z] <;> first | exact Nat.le_add_right _ _ | exact Nat.le_refl _
  exact I1.fpOk hle (I1.hok.fresh hle)
theorem pi_zip3 {e e2 e3 : Expr} {ta : TA} {elts : List Expr} {kk : Nat} (hg : Gl X "zip") (hm : X.mg "zip" = none) (ha : PA X [e, e2, e3] ta) (h1 : notStar e = true) (h2 : notStar e2 = true) (h3 : notStar e3 = true) :
    PI X (.Tuple elts kk tpos) (.Call (.Name "zip" p) [e, e2, e3] [] pos) (fun σ H R => ta σ H fun vs H1 => ∃ k1 k2 k3 a b d xs ys zs, vs = [.ref a, .ref b, .ref d] ∧ SqK k1 H1 a xs ∧ SqK k2 H1 b ys ∧ SqK k3 H1 d zs ∧ R (ItG [(k1, a), (k2, b), (k3, d)] n3 f3) H1) := by
  refine ⟨fun pins s σ H R I h => ?_⟩
  refine Call_ (ld_blt I hg hm PyProof.Rows.boot_zip (PyProof.Rows.callWith_type1 (thn (ha.run pos pins s σ H _ I h) fun us s1 ⟨vs, H1, I1, r1, q1⟩ => ?_) (star_cons h1) (star_any (by simp [h2, h3]))))
  obtain ⟨k1, k2, k3, a, b, d, xs, ys, zs, ex, hx, hy, hw, q⟩ := q1
  subst ex
  cases r1 with
  | cons ru1 r1 =>
    obtain ⟨u1, u2, rfl, ru2, ru3⟩ := Vals.two r1
    cases ru1
    cases ru2
    cases ru3
    obtain ⟨its1, rv1, p1⟩ := hx.at I1
    obtain ⟨its2, rv2, p2⟩ := hy.at I1
    obtain ⟨its3, rv3, p3⟩ := hw.at I1
    refine zip_begins3 (beginsK k1 a its1) (beginsK k2 b its2) (beginsK k3 d its3) p1 p2 p3 fun h' hz hTI hTO o1 o2 o3 hsz hk => wpAny_pyIter_zip hz ?_
    have I2 : Inv X pins σ H1 { s1 with heap := h' } := I1.kept (t' := s1.toks) hk
    have S : ZipSep3 (s1.heap.objs.size + 5) (s1.heap.objs.size + 3) (s1.heap.objs.size + 4) s1.heap.objs.size (s1.heap.objs.size + 1) (s1.heap.objs.size + 2) [s1.heap.objs.size, a] [s1.heap.objs.size + 1, b] [s1.heap.objs.size + 2, d] := zip_sep3 (by simpa using p1.lt) (by simpa using p2.lt) (by simpa using p3.lt)
    refine ⟨s1.heap.objs.size + 5, [s1.heap.objs.size + 5, s1.heap.objs.size + 3, s1.heap.objs.size + 4, s1.heap.objs.size, s1.heap.objs.size + 1, s1.heap.objs.size + 2], _, _, H1, rfl, I2, turnZ3 (by simpa using lt_new rfl p1 0) (lt_new rfl p2 1) (lt_new rfl p3 2) S, ⟨hz, hTI, ⟨_, _, _, hTO⟩, itObj_is o1, itObj_is o2, itObj_is o3⟩, fun c hcm => ?_, q⟩
    have hle : s1.heap.objs.size ≤ c := by
      have e' : c = s1.heap.objs.size + 5 ∨ c = s1.heap.objs.size + 3 ∨ c = s1.heap.objs.size + 4 ∨ c = s1.heap.objs.size ∨ c = s1.heap.objs.size + 1 ∨ c = s1.heap.objs.size + 2 := by simpa using hcm
      rcases e' with z | z | z | z | z | z <;> rw [z] <;> first | exact Nat.le_add_right _ _ | exact Nat.le_refl _
    exact I1.fpOk hle (I1.hok.fresh hle)
theorem pi_enum1 {e : Expr} {ta : TA} {elts : List Expr} {kk : Nat} (hg : Gl X "enumerate") (hm : X.mg "enumerate" = none) (ha : PA X [e] ta) (h1 : notStar e = true) :
    PI X (.Tuple elts kk tpos) (.Call (.Name "enumerate" p) [e] [] pos) (fun σ H R => ta σ H fun vs H1 => ∃ k a xs, vs = [.ref a] ∧ SqK k H1 a xs ∧ R (ItG [(k, a)] nE fE) H1) := by
  refine ⟨fun pins s σ H R I h => ?_⟩
  refine Call_ (ld_blt I hg hm boot_enumerate (PyProof.Rows.callWith_type1 (thn (ha.run pos pins s σ H _ I h) fun us s1 ⟨vs, H1, I1, r1, q1⟩ => ?_) (star_cons h1) rfl))
  obtain ⟨k, a, xs, ex, hx, q⟩ := q1
  subst ex
  obtain ⟨u1, rfl, ru1⟩ := Vals.one r1
  cases ru1
  obtain ⟨its1, rv1, p1⟩ := hx.at I1
  refine enum1_begins (beginsK k a its1) p1 fun h' hz o1 hk => wpAny_pyIter_enum hz ?_
  have I2 : Inv X pins σ H1 { s1 with heap := h' } := I1.kept (t' := s1.toks) hk
  refine ⟨s1.heap.objs.size + 1, [s1.heap.objs.size + 1, s1.heap.objs.size], _, _, H1, rfl, I2, turnE (by simpa using lt_new rfl p1 0) (Nat.succ_ne_self _) (fun z => lt_new rfl p1 1 z.symm), ⟨⟨.none, hz⟩, itObj_is o1⟩, fun c hcm => ?_, q⟩
  have hle : s1.heap.objs.size ≤ c := by
    have e' : c = s1.heap.objs.size + 1 ∨ c = s1.heap.objs.size := by simpa using hcm
    rcases e' with z | z <;> rw [z] <;> first | exact Nat.le_add_right _ _ | exact Nat.le_refl _
  exact I1.fpOk hle (I1.hok.fresh hle)
theorem rd_argsI {σ : L2.St} {H F : Hp} {ρ : Rho} {R0 : It → Hp → Prop} {k : List D → ResL} (r : Rel cv ρ σ F H) (q : GotI cv W F H σ R0 ((evs ms ρ).bindL k)) {R : List V → Hp → Prop} (hk : ∀ ds vs F' H', ds.length = ms.length → Evo F H F' H' → DrAll F' vs ds → GotI cv W F H σ R0 (k ds) → R vs H') : rdA cv W ms σ H R := by
  refine ⟨ρ, F, r, ?_⟩
  cases h : evs ms ρ with
  | ok ds => rw [h] at q; exact fun vs F1 H1 ev hd => hk ds vs F1 H1 (evs_len h) ev hd q
  | exc c => rw [h] at q; exact q
  | bad => rw [h] at q; exact q
theorem ji_zip2 {elts : List Expr} {kk : Nat} (hg : Gl X "zip") (hm : X.mg "zip" = none) (ha : JA X cv W [a, b] ms) (hn : ms.length = 2) (h1 : notStar a = true) (h2 : notStar b = true) : JI X cv W (.Tuple elts kk tpos) (.Call (.Name "zip" p) [a, b] [] pos) (iZip ms) :=
  PI.imp (pi_zip2 hg hm ha h1 h2) fun σ H R ⟨ρ, F, r, q⟩ => rd_argsI r q fun ds vs F1 H1 hl ev hd q => by
    rw [hn] at hl
    match ds, hl, hd, q with
    | [x, y], _, .cons hx (.cons hy .nil), q =>
      unfold zipL at q
      cases e1 : seqD x with
      | none => simp only [e1] at q; exact q.elim
      | some xs =>
        cases e2 : seqD y with
        | none => simp only [e1, e2] at q; exact q.elim
        | some ys =>
          simp only [e1, e2] at q
          obtain ⟨k1, a1, vs1, rfl, sq1, d1⟩ := seq_of hx e1
          obtain ⟨k2, a2, vs2, rfl, sq2, d2⟩ := seq_of hy e2
          refine ⟨k1, k2, a1, a2, vs1, vs2, rfl, sq1.mono ev.le, sq2.mono ev.le, q _ F1 H1 ev (wlk_G (.cons sq1 (.cons sq2 .nil)) ?_ fun i hi => ?_)⟩
          · rw [zip2D_len]; show _ = min _ _; rw [dps_len d1, dps_len d2]
          · rw [zip2D_len] at hi
            exact ⟨_, zip2D_get xs ys i hi, .cons (dps_getD d1 (by omega)) (.cons (dps_getD d2 (by omega)) .nil)⟩
theorem ji_zip3 {elts : List Expr} {kk : Nat} (hg : Gl X "zip") (hm : X.mg "zip" = none) (ha : JA X cv W [a, b, c] ms) (hn : ms.length = 3) (h1 : notStar a = true) (h2 : notStar b = true) (h3 : notStar c = true) : JI X cv W (.Tuple elts kk tpos) (.Call (.Name "zip" p) [a, b, c] [] pos) (iZip ms) :=
  PI.imp (pi_zip3 hg hm ha h1 h2 h3) fun σ H R ⟨ρ, F, r, q⟩ => rd_argsI r q fun ds vs F1 H1 hl ev hd q => by
    rw [hn] at hl
    match ds, hl, hd, q with
    | [x, y, z], _, .cons hx (.cons hy (.cons hz .nil)), q =>
      unfold zipL at q
      cases e1 : seqD x with
      | none => simp only [e1] at q; exact q.elim
      | some xs =>
        cases e2 : seqD y with
        | none => simp only [e1, e2] at q; exact q.elim
        | some ys =>
          cases e3 : seqD z with
          | none => simp only [e1, e2, e3] at q; exact q.elim
          | some zs =>
            simp only [e1, e2, e3] at q
            obtain ⟨k1, a1, vs1, rfl, sq1, d1⟩ := seq_of hx e1
            obtain ⟨k2, a2, vs2, rfl, sq2, d2⟩ := seq_of hy e2
            obtain ⟨k3, a3, vs3, rfl, sq3, d3⟩ := seq_of hz e3
            refine ⟨k1, k2, k3, a1, a2, a3, vs1, vs2, vs3, rfl, sq1.mono ev.le, sq2.mono ev.le, sq3.mono ev.le, q _ F1 H1 ev (wlk_G (.cons sq1 (.cons sq2 (.cons sq3 .nil))) ?_ fun i hi => ?_)⟩
            · rw [zip3D_len]; show _ = min (min _ _) _; rw [dps_len d1, dps_len d2, dps_len d3]
            · rw [zip3D_len] at hi
              exact ⟨_, zip3D_get xs ys zs i hi, .cons (dps_getD d1 (by omega)) (.cons (dps_getD d2 (by omega)) (.cons (dps_getD d3 (by omega)) .nil))⟩
theorem ji_enum {elts : List Expr} {kk : Nat} (hg : Gl X "enumerate") (hm : X.mg "enumerate" = none) (ha : JS X cv W a ma) (h1 : notStar a = true) : JI X cv W (.Tuple elts kk tpos) (.Call (.Name "enumerate" p) [a] [] pos) (iEnum ma) :=
  PI.imp (pi_enum1 hg hm (ja_cons ha ja_nil h1) h1) fun σ H R ⟨ρ, F, r, q⟩ => rd_argsI r q fun ds vs F1 H1 hl ev hd q => by
    match ds, hl, hd, q with
    | [x], _, .cons hx .nil, q =>
      unfold enumL at q
      cases e1 : seqD x with
      | none => simp only [e1] at q; exact q.elim
      | some xs =>
        simp only [e1] at q
        obtain ⟨k1, a1, vs1, rfl, sq1, d1⟩ := seq_of hx e1
        refine ⟨k1, a1, vs1, rfl, sq1.mono ev.le, q _ F1 H1 ev (wlk_G (.cons sq1 .nil) ?_ fun i hi => ?_)⟩
        · rw [enumD_len]; show _ = List.length _; rw [dps_len d1]
        · rw [enumD_len] at hi
          have := enumD_get xs 0 i hi
          rw [Nat.zero_add] at this
          exact ⟨_, this, .cons (.int _) (.cons (dps_getD d1 hi) .nil)⟩
end
end U
set_option Elab.async false
set_option linter.all false
set_option maxRecDepth 100000
set_option maxHeartbeats 4000000
namespace U
open PySem PySem.Spec PyProof.Rows L2
/-! ### targets -/
inductive Tg where
  | nm (i : Nat)
  | tp (is : List Nat)
def setAll : List Nat → List D → Rho → Rho
  | i :: is, d :: ds, ρ => setAll is ds (ρ.set i (.fr d))
  | _, _, ρ => ρ
def bindT : Tg → D → Rho → Option Rho
  | .nm i, d, ρ => some (ρ.set i (.fr d))
  | .tp is, .tuple ds, ρ => if ds.length = is.length then some (setAll is ds ρ) else none
  | .tp _, _, _ => none
def Tg.slots : Tg → List Nat
  | .nm i => [i]
  | .tp is => is
theorem set_get {α : Type} (l : List α) (i j : Nat) (a : α) : (l.set i a)[j]? = if i = j ∧ j < l.length then some a else l[j]? := by
  rw [List.getElem?_set]
  by_cases e : i = j
  · subst e
    by_cases h : i < l.length
    · simp [h]
    · simp [h, List.getElem?_eq_none (Nat.not_lt.mp h)]
  · simp [e]
theorem Rel.fr {cv : Nat → Value} {ρ : Rho} {σ : L2.St} {F H : Hp} {v : V} {d : D} (r : Rel cv ρ σ F H) (i : Nat) (h : Dr F v d) : Rel cv (ρ.set i (.fr d)) (σ.set i (some v)) F H := by
  refine ⟨by simp [r.len], r.le, fun j c e => ?_, fun j k ds es p e1 e2 e3 e4 => ?_⟩
  · rw [set_get] at e ⊢
    split at e
    · rename_i hz
      cases e
      rw [if_pos ⟨hz.1, by rw [← r.len]; exact hz.2⟩]
      exact ⟨v, rfl, h⟩
    · rename_i hz
      rw [if_neg (by rw [← r.len]; exact hz)]
      exact r.cell j c e
  · rw [set_get] at e1 e2 e3 e4
    split at e1
    · cases e1; simp at e3
    · rename_i hz
      split at e2
      · cases e2; simp at e4
      · rename_i hz2
        rw [if_neg (by rw [← r.len]; exact hz)] at e3
        rw [if_neg (by rw [← r.len]; exact hz2)] at e4
        exact r.apart j k ds es p e1 e2 e3 e4
theorem Rel.all {cv : Nat → Value} : ∀ {is : List Nat} {ds : List D} {vs : List V} {ρ : Rho} {σ : L2.St} {F H : Hp}, Rel cv ρ σ F H → DrAll F vs ds → ds.length = is.length → ∃ σ', Rel cv (setAll is ds ρ) σ' F H ∧ (∀ Q, gNil [] σ' H Q → True) ∧ σ' = (is.zip vs).foldl (fun s p => s.set p.1 (some p.2)) σ
  | [], [], _, ρ, σ, F, H, r, .nil, _ => ⟨σ, r, fun _ _ => trivial, rfl⟩
  | i :: is, d :: ds, _, ρ, σ, F, H, r, .cons h hs, e => by
    obtain ⟨σ', r', _, e'⟩ := Rel.all (is := is) (r.fr i h) hs (by simpa using e)
    exact ⟨σ', r', fun _ _ => trivial, e'⟩
theorem wipe_len (σ : L2.St) (vs : List Nat) : (wipe σ vs).length = σ.length := wipe_length σ vs
theorem wipe_get (σ : L2.St) : ∀ (vs : List Nat) (j : Nat), (wipe σ vs)[j]? = if j ∈ vs ∧ j < σ.length then some none else σ[j]?
  | [], j => by simp [wipe]
  | v :: vs, j => by
    show ((wipe σ vs).set v none)[j]? = _
    rw [set_get, wipe_get σ vs j, wipe_len]
    by_cases h1 : v = j
    · subst h1
      by_cases h2 : v < σ.length <;> simp [h2]
    · have h1' : ¬ j = v := fun z => h1 z.symm
      by_cases h2 : j ∈ vs <;> by_cases h3 : j < σ.length <;> simp [h1, h1', h2, h3]
theorem wipe_set {σ : L2.St} {i : Nat} {o : Option V} {vs : List Nat} (h : i ∈ vs) : wipe (σ.set i o) vs = wipe σ vs := by
  apply List.ext_getElem?
  intro j
  rw [wipe_get, wipe_get, set_get, List.length_set]
  by_cases h1 : j ∈ vs ∧ j < σ.length
  · rw [if_pos h1, if_pos h1]
  · rw [if_neg h1, if_neg h1]
    by_cases h2 : i = j ∧ j < σ.length
    · exact absurd ⟨h2.1 ▸ h, h2.2⟩ h1
    · rw [if_neg h2]
def wipeR (ρ : Rho) : List Nat → Rho
  | [] => ρ
  | v :: vs => (wipeR ρ vs).set v .un
theorem Rel.un {cv : Nat → Value} {ρ : Rho} {σ : L2.St} {F H : Hp} (r : Rel cv ρ σ F H) (i : Nat) (o : Option V) : Rel cv (ρ.set i .un) (σ.set i o) F H := by
  refine ⟨by simp [r.len], r.le, fun j c e => ?_, fun j k ds es p e1 e2 e3 e4 => ?_⟩
  · rw [set_get] at e
    split at e
    · cases e; trivial
    · rename_i hz
      rw [set_get, if_neg (by rw [← r.len]; exact hz)]
      exact r.cell j c e
  · rw [set_get] at e1 e2 e3 e4
    split at e1
    · cases e1; simp at e3
    · rename_i hz
      split at e2
      · cases e2; simp at e4
      · rename_i hz2
        rw [if_neg (by rw [← r.len]; exact hz)] at e3
        rw [if_neg (by rw [← r.len]; exact hz2)] at e4
        exact r.apart j k ds es p e1 e2 e3 e4
theorem Rel.wipe {cv : Nat → Value} {ρ : Rho} {σ : L2.St} {F H : Hp} (r : Rel cv ρ σ F H) : ∀ vs : List Nat, Rel cv (wipeR ρ vs) (wipe σ vs) F H
  | [] => r
  | v :: vs => (Rel.wipe r vs).un v none
def rdG (cv : Nat → Value) (T : Tg) : TG := fun v σ H Q => ∃ d ρ F, Rel cv ρ σ F H ∧ Dr F v d ∧ ∃ ρ', bindT T d ρ = some ρ' ∧ ∀ σ', Rel cv ρ' σ' F H → (∀ vs, (∀ i ∈ T.slots, i ∈ vs) → wipe σ' vs = wipe σ vs) → Q σ' H
def JG (X : Cx) (cv : Nat → Value) (tg : Expr) (T : Tg) : Prop := PG X tg (rdG cv T)
def gNames : List Nat → TGs
  | [] => gNil
  | i :: is => gCons (gName i) (gNames is)
inductive Nms (X : Cx) : List Expr → List Nat → Prop
  | nil : Nms X [] []
  | cons {x : Str} {i : Nat} {p : Pos} {es : List Expr} {is : List Nat} : X.N[i]? = some x → Loc X.env.scope x → (X.fn x = true ∨ X.env.scope.names.lookup x = some .local) → Nms X es is → Nms X (.Name x p :: es) (i :: is)
section
variable {X : Cx} {cv : Nat → Value} {W : WX} {a b c tg : Expr} {es : List Expr} {ms : List Sm} {m ma mb mc : Sm} {pos p tpos : Pos}
theorem PG.imp {t t' : TG} (h : PG X tg t) (k : ∀ v σ H Q, t' v σ H Q → t v σ H Q) : PG X tg t' := ⟨fun pins s σ H v u Q I r hw => h.run pins s σ H v u Q I r (k v σ H Q hw)⟩
theorem jg_name {i : Nat} {x : Str} (hN : X.N.Nodup) (hi : X.N[i]? = some x) (hx : Loc X.env.scope x) (hf : X.fn x = true ∨ X.env.scope.names.lookup x = some .local) : JG X cv (.Name x pos) (.nm i) :=
  PG.imp (pg_name hN hi hx hf) fun v σ H Q ⟨d, ρ, F, r, hd, ρ', e, q⟩ => by
    cases e
    exact q _ (r.fr i hd) fun vs h => wipe_set (h i (by simp [Tg.slots]))
theorem Nms.pgs (hN : X.N.Nodup) : ∀ {es : List Expr} {is : List Nat}, Nms X es is → PGs X es (gNames is)
  | _, _, .nil => pgs_nil
  | _, _, .cons h1 h2 h3 h4 => pgs_cons (pg_name hN h1 h2 h3) (Nms.pgs hN h4) rfl
theorem Nms.len {env : PySem.Env} : ∀ {es : List Expr} {is : List Nat}, Nms X es is → (assignEach es env).length = is.length ∧ (assignEach es env).findIdx? (·.1) = none
  | _, _, .nil => ⟨rfl, rfl⟩
  | _, _, .cons (x := x) (p := p) (es := es) h1 h2 h3 h4 => by
    obtain ⟨e1, e2⟩ := Nms.len (env := env) h4
    refine ⟨by show (assignEach es env).length + 1 = _; rw [e1]; rfl, ?_⟩
    show ((false, assign (.Name x p) env) :: assignEach es env).findIdx? (·.1) = none
    rw [List.findIdx?_cons]
    simp [e2]
theorem gNames_ok : ∀ {is : List Nat} {ds : List D} {vs : List V} {ρ : Rho} {σ : L2.St} {F H : Hp} {Q : L2.St → Hp → Prop}, Rel cv ρ σ F H → DrAll F vs ds → ds.length = is.length → (∀ σ', Rel cv (setAll is ds ρ) σ' F H → (∀ ws, (∀ i ∈ is, i ∈ ws) → wipe σ' ws = wipe σ ws) → Q σ' H) → gNames is vs σ H Q
  | [], [], _, ρ, σ, F, H, Q, r, .nil, _, q => ⟨rfl, q σ r fun _ _ => rfl⟩
  | i :: is, d :: ds, _, ρ, σ, F, H, Q, r, .cons h hs, e, q => by
    refine ⟨_, _, rfl, ?_⟩
    refine gNames_ok (r.fr i h) hs (by simpa using e) fun σ' r' hw => q σ' r' fun ws hi => ?_
    rw [hw ws fun j hj => hi j (by simp [hj])]
    exact wipe_set (hi i (by simp))
theorem jg_tup {is : List Nat} {k : Nat} (hc : X.calm = true) (hN : X.N.Nodup) (h : Nms X es is) : JG X cv (.Tuple es k pos) (.tp is) :=
  PG.imp (pg_tup hc (h.pgs hN) (h.len (env := X.env)).1 (h.len (env := X.env)).2) fun v σ H Q ⟨d, ρ, F, r, hd, ρ', e, q⟩ => by
    cases hd with
    | tup h hs =>
      unfold bindT at e
      simp only at e
      split at e
      · rename_i hl
        cases e
        exact ⟨_, _, rfl, .inl (.inl (r.le _ _ h)), by rw [dps_len hs, hl], gNames_ok r hs hl q⟩
      · cases e
    | _ => cases e
end
/-! ### comprehensions -/
def valR : Res → Option D
  | .ok d => some d
  | .new ds => some (.list ds)
  | _ => none
@[simp] theorem valR_ok (d : D) : valR (.ok d) = some d := rfl
@[simp] theorem valR_new (d : List D) : valR (.new d) = some (.list d) := rfl
@[simp] theorem valR_exc (c : Nat) : valR (.exc c) = none := rfl
@[simp] theorem valR_bad : valR .bad = none := rfl
/-- one turn: left out, or an item -/
def turnC (ρ0 : Rho) (T : Tg) (mc : Option Sm) (me : Sm) (d : D) : Option (Option D) :=
  (bindT T d ρ0).bind fun ρ => match mc with
    | none => (valR (me ρ)).map some
    | some mc => ((valR (mc ρ)).bind truth).bind fun t => if t = true then (valR (me ρ)).map some else some none
def compGo (f : D → Option (Option D)) : List D → Option (List D)
  | [] => some []
  | d :: ds => (f d).bind fun o => (compGo f ds).map fun r => match o with
    | some x => x :: r
    | none => r
def eComp (mi : SmL) (T : Tg) (own : List Nat) (mc : Option Sm) (me : Sm) : Sm := fun ρ => (mi ρ).bind fun ds =>
  if ds.length ≤ 100000 then (match compGo (turnC (wipeR ρ own) T mc me) ds with
    | some r => .new r
    | none => .bad) else .bad
def WF : WX := fun _ _ _ _ => False
/-- the parts of a comprehension's block, in any block of it -/
def BlkE (X : Cx) (cv : Nat → Value) (scope : Scope) (e : Expr) (m : Sm) : Prop := ∀ (s : Shared) (H : Hp) (C : Addr) (cl : List (Str × Addr)) (fp : List Addr), JE (X.blk s H scope (compEnvC scope cl C X.env) fp) cv WF e m
def BlkT (X : Cx) (cv : Nat → Value) (scope : Scope) (e : Expr) (m : Sm) : Prop := ∀ (s : Shared) (H : Hp) (C : Addr) (cl : List (Str × Addr)) (fp : List Addr), JT (X.blk s H scope (compEnvC scope cl C X.env) fp) cv WF e m
def BlkG (X : Cx) (cv : Nat → Value) (scope : Scope) (tg : Expr) (T : Tg) : Prop := ∀ (s : Shared) (H : Hp) (C : Addr) (cl : List (Str × Addr)) (fp : List Addr), JG (X.blk s H scope (compEnvC scope cl C X.env) fp) cv tg T
inductive BlkC (X : Cx) (cv : Nat → Value) (scope : Scope) : List Expr → Option Sm → Prop
  | none : BlkC X cv scope [] none
  | some {e : Expr} {m : Sm} : BlkT X cv scope e m → BlkC X cv scope [e] (some m)
def rdC (cv : Nat → Value) (o : Option Sm) : TT := match o with
  | none => tYes
  | some m => rdT cv WF m
section
variable {X : Cx} {cv : Nat → Value} {W : WX} {elt tg iter : Expr} {ifs : List Expr} {scope : Scope} {own : List (Str × Nat)} {mi : SmL} {me : Sm} {mc : Option Sm} {T : Tg} {pos : Pos}
theorem BlkC.pts (h : BlkC X cv scope ifs mc) (s : Shared) (H : Hp) (C : Addr) (cl : List (Str × Addr)) (fp : List Addr) : PTs (X.blk s H scope (compEnvC scope cl C X.env) fp) ifs (rdC cv mc) := by
  cases h with
  | none => exact pts_nil
  | some h => exact pts_one (h s H C cl fp)
theorem GotE.val {F H : Hp} {σ : L2.St} {Q : VK} {r : Res} {d : D} (h : valR r = some d) (q : QD F H d Q) : GotE cv WF F H σ Q r := by
  cases r with
  | ok e => cases h; exact q
  | new e => cases h; exact q.n
  | exc c => cases h
  | bad => cases h
theorem GotT.val {F H : Hp} {σ : L2.St} {Q : Bool → Hp → Prop} {r : Res} {k : Bool} (h : (valR r).bind truth = some k) (q : ∀ F' H', Evo F H F' H' → Q k H') : GotT cv WF F H σ Q r := by
  cases r with
  | ok e => exact ⟨k, h, q⟩
  | new e => cases h; exact q
  | exc c => cases h
  | bad => cases h
theorem own_not {F H F' H' : Hp} {p : Addr} {o : HO} (e : Evo F H F' H') (hF : F p = none) (hH : H p = some o) : F' p = none := by
  cases q : F' p with
  | none => rfl
  | some u =>
    rcases e.new p u q with z | z
    · rw [hF] at z; cases z
    · rw [hH] at z; cases z
/-- the loop of a comprehension -/
theorem comp_loop {σ : L2.St} {F H : Hp} {ρ : Rho} {Q : VK} {ds r : List D} (rel : Rel cv ρ σ F H) (hz : ds.length ≤ 100000) (hT : ∀ i ∈ T.slots, i ∈ own.map (·.2)) (hg : compGo (turnC (wipeR ρ (own.map (·.2))) T mc me) ds = some r) (q : QN F H r Q) {J : It} {F1 H1 : Hp} (ev : Evo F H F1 H1) (wk : Wlk J F1 ds) {D₀ : Addr} (hD : H1 D₀ = none) :
    ∃ Wv : Nat → Nat → Hp → Prop, (∃ m, Wv 0 m (upd H1 D₀ (.lst []))) ∧ ∀ i m H, Wv i m H → (J.stop i H ∧ Q (.ref D₀) H) ∨ (J.go i H ∧ ∃ Nx : Hp → Prop, (∀ H', Nx H' → ∃ m', m' < m ∧ Wv (i + 1) m' H') ∧ ∀ x H', J.yld i H x H' →
      rdG cv T x (wipe σ (own.map (·.2))) H' fun σ2 H2 => wipe σ2 (own.map (·.2)) = wipe σ (own.map (·.2)) ∧ rdC cv mc σ2 H2 fun b H3 => if b = true then rdE cv WF me σ2 H3 fun y H4 => ∃ acc, H4 D₀ = some (.lst acc) ∧ acc.length < sizeLine ∧ Nx (upd H4 D₀ (.lst (acc ++ [y]))) else Nx H3) := by
  have hDH : H D₀ = none := none_back ev.hx hD
  let f := turnC (wipeR ρ (own.map (·.2))) T mc me
  let St : Nat → Hp → Prop := fun i H' => ∃ F' acc pre rest, Evo F H F' H' ∧ Ex F1 F' ∧ F' D₀ = none ∧ H' D₀ = some (.lst acc) ∧ DrAll F' acc pre ∧ compGo f (ds.drop i) = some rest ∧ pre ++ rest = r ∧ pre.length ≤ i
  refine ⟨fun i m H' => i ≤ ds.length ∧ m = ds.length - i ∧ St i H', ⟨ds.length, Nat.zero_le _, rfl, F1, [], [], r, ev.own hD, Evl.Ex.refl _, none_back ev.le hD, upd_same, .nil, by simpa using hg, rfl, Nat.le_refl _⟩, fun i m H' ⟨hi, hm, F', acc, pre, rest, ev', ex', hF', hH', hacc, hrest, hr, hpre⟩ => ?_⟩
  by_cases he : i = ds.length
  · subst he
    left
    rw [List.drop_length] at hrest
    cases hrest
    rw [List.append_nil] at hr
    subst hr
    exact ⟨wk.stop H' (ex'.trans ev'.le), q D₀ acc F' H' ev' hDH hF' hH' hacc⟩
  · right
    have hlt : i < ds.length := by omega
    refine ⟨wk.go i H' (ex'.trans ev'.le) hlt, fun H'' => St (i + 1) H'', fun H'' hs => ⟨ds.length - (i + 1), by omega, by omega, rfl, hs⟩, fun x H2 hy => ?_⟩
    obtain ⟨F2, d, hd, ev2, hdr⟩ := wk.yld i H' F' ex' ev'.le hlt x H2 hy
    have hdrop : ds.drop i = d :: ds.drop (i + 1) := by
      rw [List.drop_eq_getElem_cons hlt]
      have : ds[i] = d := by rw [List.getElem?_eq_getElem hlt] at hd; exact Option.some.inj hd
      rw [this]
    rw [hdrop] at hrest
    unfold compGo at hrest
    cases hfd : f d with
    | none => rw [hfd] at hrest; cases hrest
    | some o =>
      rw [hfd] at hrest
      cases hgo : compGo f (ds.drop (i + 1)) with
      | none => rw [hgo] at hrest; cases hrest
      | some r2 =>
        rw [hgo] at hrest
        have hturn : f d = some o := hfd
        simp only [f, turnC] at hturn
        cases hb : bindT T d (wipeR ρ (own.map (·.2))) with
        | none => rw [hb] at hturn; cases hturn
        | some ρ2 =>
          rw [hb] at hturn
          simp only [Option.bind_some] at hturn
          have rel2 : Rel cv (wipeR ρ (own.map (·.2))) (wipe σ (own.map (·.2))) F2 H2 := ((rel.evo ev').evo ev2).wipe _
          refine ⟨d, _, F2, rel2, hdr, ρ2, hb, fun σ2 rel3 hw => ⟨?_, ?_⟩⟩
          · rw [hw _ hT]
            apply List.ext_getElem?
            intro j
            rw [wipe_get, wipe_get, wipe_len]
            split <;> rfl
          -- an item is appended
          have add : ∀ y F3 H3, valR (me ρ2) = some y → o = some y → Evo F2 H2 F3 H3 → rdE cv WF me σ2 H3 fun y H4 => ∃ acc, H4 D₀ = some (.lst acc) ∧ acc.length < sizeLine ∧ St (i + 1) (upd H4 D₀ (.lst (acc ++ [y]))) := fun y F3 H3 hv ho ev3 => by
            refine ⟨ρ2, F3, rel3.evo ev3, GotE.val hv fun v F4 H4 ev4 hv4 => ?_⟩
            have evA : Evo F' H' F4 H4 := (ev2.trans ev3).trans ev4
            have h4 : H4 D₀ = some (.lst acc) := evA.hx _ _ hH'
            have f4 : F4 D₀ = none := own_not evA hF' hH'
            refine ⟨acc, h4, ?_, F4, acc ++ [v], pre ++ [y], r2, ?_, ex'.trans evA.ex, f4, upd_same, dps_app (dps_mono evA.ex hacc) (.cons hv4 .nil), hgo, ?_, by simp; omega⟩
            · have := dps_len hacc
              exact Evl.sz_lt (by omega)
            · have evB := ev'.trans evA
              exact ⟨evB.ex, fun a u h => by rw [upd_ne (ne_of_none h hDH)]; exact evB.hx a u h, fun a u h => by rw [upd_ne (ne_of_none h f4)]; exact evB.le a u h, evB.new⟩
            · subst ho
              have hrr : y :: r2 = rest := Option.some.inj hrest
              rw [← hr, ← hrr]; simp
          have skip : ∀ F3 H3, o = none → Evo F2 H2 F3 H3 → St (i + 1) H3 := fun F3 H3 ho ev3 => by
            have evA : Evo F' H' F3 H3 := ev2.trans ev3
            subst ho
            have hrr : r2 = rest := Option.some.inj hrest
            exact ⟨F3, acc, pre, r2, ev'.trans evA, ex'.trans evA.ex, own_not evA hF' hH', evA.hx _ _ hH', dps_mono evA.ex hacc, hgo, by rw [hrr]; exact hr, by omega⟩
          cases mc with
          | none =>
            obtain ⟨y, hv, ho⟩ := Option.map_eq_some_iff.mp hturn
            simp only [rdC, tYes, if_true]
            exact add y F2 H2 hv ho.symm (Evo.refl ev2.le)
          | some mc =>
            simp only at hturn
            cases ht : (valR (mc ρ2)).bind truth with
            | none => rw [ht] at hturn; cases hturn
            | some t =>
              rw [ht] at hturn
              refine ⟨ρ2, F2, rel3, GotT.val ht fun F3 H3 ev3 => ?_⟩
              cases t with
              | true =>
                rw [if_pos rfl]
                simp only [Option.bind_some, if_true] at hturn
                obtain ⟨y, hv, ho⟩ := Option.map_eq_some_iff.mp hturn
                exact add y F3 H3 hv ho.symm ev3
              | false =>
                rw [if_neg (by simp)]
                cases hturn
                exact skip F3 H3 rfl ev3
theorem rd_comp {σ : L2.St} {H : Hp} {Q : VK} (hT : ∀ i ∈ T.slots, i ∈ own.map (·.2)) (h : rdE cv W (eComp mi T (own.map (·.2)) mc me) σ H Q) : tLc (rdI cv W mi) (rdG cv T) (rdC cv mc) (rdE cv WF me) (own.map (·.2)) σ H Q := by
  obtain ⟨ρ, F, r, q⟩ := h
  refine ⟨ρ, F, r, ?_⟩
  unfold eComp at q
  cases h : mi ρ with
  | ok ds =>
    rw [h] at q
    simp only [ResL.bind_ok] at q
    split at q
    · rename_i hz
      cases hg : compGo (turnC (wipeR ρ (own.map (·.2))) T mc me) ds with
      | none => rw [hg] at q; exact q.elim
      | some out =>
        rw [hg] at q
        exact fun J F1 H1 ev wk D₀ hD => comp_loop r hz hT hg q ev wk hD
    · exact q.elim
  | exc c => rw [h] at q; exact q
  | bad => rw [h] at q; exact q
theorem j_comp (hc : X.calm = true) (hN : X.N.Nodup) (hi : JI X cv W tg iter mi) (ok : BlkOk X.N X.env.scope scope own) (hg : BlkG X cv scope tg T) (ht : BlkC X cv scope ifs mc) (he : BlkE X cv scope elt me) (hT : ∀ i ∈ T.slots, i ∈ own.map (·.2)) (hs : ∀ x, foldedSetIterable iter X.env x = pure x) :
    JE X cv W (.ListComp elt [⟨tg, iter, ifs, 0⟩] scope pos) (eComp mi T (own.map (·.2)) mc me) :=
  PE.imp (pe_lc hc hN hi ok hg (fun s H C cl fp => ht.pts s H C cl fp) he hs) fun σ H Q h => rd_comp hT h
end
end U
set_option Elab.async false
set_option linter.all false
set_option maxRecDepth 100000
set_option maxHeartbeats 4000000
namespace U
open PySem PySem.Spec PyProof.Rows L2
/-! ### what a statement is to do -/
inductive Fl where
  | nx (ρ : Rho)
  | rt (d : D)
  | rn (ds : List D)
  | rm (d : D) (ρ : Rho)
  | rb (k : Nat) (fs : List Fd)
  | ex (c : Nat) (ρ : Rho)
  | bad
abbrev Ss := Rho → Fl
/-- the entry of the def: what was shared, what stood, whose method it is -/
structure Bb where
  f : Hp
  h : Hp
  s : Option Addr
structure RelB (cv : Nat → Value) (B : Bb) (ρ : Rho) (σ : L2.St) (F H : Hp) : Prop where
  rel : Rel cv ρ σ F H
  evo : Evo B.1 B.2 F H
  own : ∀ (i : Nat) (c : Cell) (p : Addr), ρ[i]? = some c → p ∈ owL H σ[i]? c → B.2 p = none
  slf : ∀ (a : Addr) (k : Nat) (fs : List Fd), B.3 = some a → ρ[0]? = some (.ob k fs) → σ[0]? = some (some (.ref a))
theorem RelB.step {cv : Nat → Value} {B : Bb} {ρ : Rho} {σ : L2.St} {F H F' H' : Hp} (r : RelB cv B ρ σ F H) (e : Evo F H F' H') : RelB cv B ρ σ F' H' := ⟨r.rel.evo e, r.evo.trans e, fun i c p h1 h2 => r.own i c p h1 (by rw [← owL_ex (r.rel.cell i c h1) e.hx]; exact h2), r.slf⟩
theorem RelB.fr {cv : Nat → Value} {B : Bb} {ρ : Rho} {σ : L2.St} {F H : Hp} {v : V} {d : D} (r : RelB cv B ρ σ F H) (i : Nat) (h : Dr F v d) : RelB cv B (ρ.set i (.fr d)) (σ.set i (some v)) F H := by
  refine ⟨r.rel.fr i h, r.evo, fun j c p e1 e2 => ?_, fun a k fs h3 e1 => ?_⟩
  case refine_2 =>
    rw [set_get] at e1 ⊢
    split at e1
    · cases e1
    · rename_i hz
      rw [if_neg (by rw [← r.rel.len]; exact hz)]
      exact r.slf a k fs h3 e1
  rw [set_get] at e1 e2
  split at e1
  · cases e1; simp at e2
  · rename_i hz
    rw [if_neg (by rw [← r.rel.len]; exact hz)] at e2
    exact r.own j c p e1 e2
/-- a cell of its own is put into a slot: what it owns is owned by nobody else -/
theorem RelB.put {cv : Nat → Value} {B : Bb} {ρ : Rho} {σ : L2.St} {F H : Hp} {v : V} {c0 : Cell} (r : RelB cv B ρ σ F H) (i : Nat) (hc : CellOk cv F H (some (some v)) c0) (hB : ∀ p ∈ owL H (some (some v)) c0, B.2 p = none) (hn : ∀ (j : Nat) c, ρ[j]? = some c → j ≠ i → ∀ p ∈ owL H (some (some v)) c0, p ∉ owL H σ[j]? c) (hz : i ≠ 0 ∨ ∀ k fs, c0 ≠ .ob k fs) : RelB cv B (ρ.set i c0) (σ.set i (some v)) F H := by
  refine ⟨⟨by simp [r.rel.len], r.rel.le, fun j c e => ?_, fun j k c c' q e1 e2 e3 e4 => ?_⟩, r.evo, fun j c p e1 e2 => ?_, fun a k fs h3 e1 => ?_⟩
  case refine_4 =>
    rw [set_get] at e1 ⊢
    split at e1
    · rename_i hy
      cases e1
      rcases hz with z | z
      · exact absurd hy.1 z
      · exact absurd rfl (z k fs)
    · rename_i hy
      rw [if_neg (by rw [← r.rel.len]; exact hy)]
      exact r.slf a k fs h3 e1
  · rw [set_get] at e ⊢
    split at e
    · rename_i hz
      cases e
      rw [if_pos ⟨hz.1, by rw [← r.rel.len]; exact hz.2⟩]
      exact hc
    · rename_i hz
      rw [if_neg (by rw [← r.rel.len]; exact hz)]
      exact r.rel.cell j c e
  · rw [set_get] at e1 e2 e3 e4
    split at e1
    · rename_i hz
      rw [if_pos ⟨hz.1, by rw [← r.rel.len]; exact hz.2⟩] at e3
      cases e1
      split at e2
      · rename_i hz2
        exact hz.1.symm.trans hz2.1
      · rename_i hz2
        rw [if_neg (by rw [← r.rel.len]; exact hz2)] at e4
        by_cases hk : k = i
        · rw [hk]; exact hz.1.symm
        · exact absurd e4 (hn k c' e2 hk q e3)
    · rename_i hz
      rw [if_neg (by rw [← r.rel.len]; exact hz)] at e3
      split at e2
      · rename_i hz2
        rw [if_pos ⟨hz2.1, by rw [← r.rel.len]; exact hz2.2⟩] at e4
        cases e2
        by_cases hk : j = i
        · rw [hk]; exact hz2.1
        · exact absurd e3 (hn j c e1 hk q e4)
      · rename_i hz2
        rw [if_neg (by rw [← r.rel.len]; exact hz2)] at e4
        exact r.rel.apart j k c c' q e1 e2 e3 e4
  · rw [set_get] at e1 e2
    split at e1
    · rename_i hz
      rw [if_pos ⟨hz.1, by rw [← r.rel.len]; exact hz.2⟩] at e2
      cases e1
      exact hB p e2
    · rename_i hz
      rw [if_neg (by rw [← r.rel.len]; exact hz)] at e2
      exact r.own j c p e1 e2
/-- a new list is put into a slot -/
theorem RelB.ow {cv : Nat → Value} {B : Bb} {ρ : Rho} {σ : L2.St} {F H : Hp} {p : Addr} {xs : List V} {ds : List D} (r : RelB cv B ρ σ F H) (i : Nat) (hF : F p = none) (hH : H p = some (.lst xs)) (hB : B.2 p = none) (hd : DrAll F xs ds) (hn : ∀ (j : Nat) c, ρ[j]? = some c → j ≠ i → p ∉ owL H σ[j]? c) : RelB cv B (ρ.set i (.ow ds)) (σ.set i (some (.ref p))) F H :=
  r.put i ⟨p, xs, rfl, hH, hF, hd⟩ (fun q hq => by rw [owL_ow] at hq; rw [List.mem_singleton.mp hq]; exact hB) (fun j c e hj q hq => by rw [owL_ow] at hq; rw [List.mem_singleton.mp hq]; exact hn j c e hj) (.inr fun _ _ e => by cases e)
/-- what was not there before is owned by nobody -/
theorem new_apart {cv : Nat → Value} {B : Bb} {ρ : Rho} {σ : L2.St} {F H F' H' : Hp} {p : Addr} (r : RelB cv B ρ σ F H) (hp : H p = none) (ev : Evo F H F' H') (j : Nat) (c : Cell) (h : ρ[j]? = some c) : p ∉ owL H' σ[j]? c := fun e => by
  rw [owL_ex (r.rel.cell j c h) ev.hx] at e
  obtain ⟨_, o, z⟩ := owL_at (r.rel.cell j c h) e
  rw [hp] at z; cases z
/-- a list that is given away is shared from now on -/
def frz1 (ρ : Rho) (i : Nat) : Rho := match ρ[i]? with
  | some (.ow ds) => ρ.set i (.fr (.list ds))
  | _ => ρ
def frz (ρ : Rho) (lk : List Nat) : Rho := lk.foldl frz1 ρ
theorem RelB.frz1 {cv : Nat → Value} {B : Bb} {ρ : Rho} {σ : L2.St} {F H : Hp} (r : RelB cv B ρ σ F H) (i : Nat) : ∃ F', RelB cv B (frz1 ρ i) σ F' H := by
  unfold U.frz1
  cases h : ρ[i]? with
  | none => exact ⟨F, r⟩
  | some c =>
    cases c with
    | un => exact ⟨F, r⟩
    | fr d => exact ⟨F, r⟩
    | ob k fs => exact ⟨F, r⟩
    | ro k fs => exact ⟨F, r⟩
    | ow ds =>
      obtain ⟨p, xs, e1, e2, e3, e4⟩ := r.rel.cell i _ h
      have hi : i < ρ.length := (List.getElem?_eq_some_iff.mp h).1
      have hpi : p ∈ owL H σ[i]? (.ow ds) := by rw [e1]; simp
      have hB := r.own i _ p h hpi
      have ex : Ex F (upd F p (.lst xs)) := Evl.Ex.new e3
      have le : Ex (upd F p (.lst xs)) H := fun a u q => by
        by_cases ha : a = p
        · subst ha; rw [upd_same] at q; cases q; exact e2
        · rw [upd_ne ha] at q; exact r.rel.le a u q
      refine ⟨upd F p (.lst xs), ⟨⟨by simp [r.rel.len], le, fun j c e => ?_, fun j k c c' q e1' e2' e3' e4' => ?_⟩, ⟨r.evo.ex.trans ex, r.evo.hx, le, fun a u q => ?_⟩, fun j c q e1' e2' => ?_, fun a k fs h3 e1' => ?_⟩⟩
      case refine_5 =>
        rw [set_get] at e1'
        split at e1'
        · cases e1'
        · exact r.slf a k fs h3 e1'
      · rw [set_get] at e
        split at e
        · rename_i hz
          cases e
          rw [← hz.1]
          exact ⟨.ref p, e1, .lst (Rd.of upd_same) (dps_mono ex e4)⟩
        · rename_i hz
          have hne : ¬ i = j := fun z => hz ⟨z, z ▸ hi⟩
          have hc := r.rel.cell j c e
          have np : p ∉ owL H σ[j]? c := fun z => hne (r.rel.apart i j _ c p h e hpi z)
          exact hc.shr ex le (fun q hq hF => by
            by_cases ha : q = p
            · subst ha; exact absurd hq np
            · rw [upd_ne ha]; exact hF)
      · rw [set_get] at e1' e2'
        split at e1'
        · cases e1'; simp at e3'
        · split at e2'
          · cases e2'; simp at e4'
          · exact r.rel.apart j k c c' q e1' e2' e3' e4'
      · by_cases ha : a = p
        · subst ha; exact .inr hB
        · rw [upd_ne ha] at q; exact r.evo.new a u q
      · rw [set_get] at e1'
        split at e1'
        · cases e1'; simp at e2'
        · exact r.own j c q e1' e2'
theorem RelB.frz {cv : Nat → Value} {B : Bb} {σ : L2.St} {H : Hp} : ∀ {lk : List Nat} {ρ : Rho} {F : Hp}, RelB cv B ρ σ F H → ∃ F', RelB cv B (frz ρ lk) σ F' H
  | [], ρ, F, r => ⟨F, r⟩
  | i :: lk, ρ, F, r => by
    obtain ⟨F1, r1⟩ := r.frz1 i
    exact RelB.frz (lk := lk) r1
def GotF (cv : Nat → Value) (W : WX) (B : Bb) (Dn : Ends) : Fl → Prop
  | .nx ρ => ∀ σ F H, RelB cv B ρ σ F H → Dn.nx σ H
  | .rt d => ∀ v F H, Evo B.1 B.2 F H → Dr F v d → Dn.rt v H
  | .rn ds => ∀ p xs F H, Evo B.1 B.2 F H → B.2 p = none → F p = none → H p = some (.lst xs) → DrAll F xs ds → Dn.rt (.ref p) H
  | .rm d ρ => ∀ v σ F H, RelB cv B ρ σ F H → Dr F v d → Dn.rt v H
  | .rb k fs => ∀ a C dx vs F H, cv k = .ref C → Evo B.1 B.2 F H → B.2 a = none → H a = some (.ins C dx ((flN k).zip vs)) → F a = none → vs.length = (flN k).length → FdsOk F H vs fs → (ownV vs fs).Nodup → (∀ p ∈ ownV vs fs, B.2 p = none) → Dn.rt (.ref a) H
  | .ex c ρ => ∀ σ F H, RelB cv B ρ σ F H → W (cv c) none σ H
  | .bad => False
def rdF (cv : Nat → Value) (W : WX) (B : Bb) (m : Ss) : TS := fun Dn σ H => ∃ ρ F, RelB cv B ρ σ F H ∧ GotF cv W B Dn (m ρ)
def JF (X : Cx) (cv : Nat → Value) (W : WX) (st : Stmt) (m : Ss) : Prop := ∀ B, PS X st (rdF cv W B m)
def JFs (X : Cx) (cv : Nat → Value) (W : WX) (st : List Stmt) (m : Ss) : Prop := ∀ B, PSs X st (rdF cv W B m)
/-- what an expression's end is for a statement that freezes lk first -/
def Res.fl (r : Res) (ρ : Rho) (k : D → Fl) (kn : List D → Fl) : Fl := match r with
  | .ok d => k d
  | .new ds => kn ds
  | .exc c => .ex c ρ
  | .bad => .bad
@[simp] theorem Res.fl_ok (d : D) (ρ : Rho) (k : D → Fl) (kn : List D → Fl) : (Res.ok d).fl ρ k kn = k d := rfl
@[simp] theorem Res.fl_new (d : List D) (ρ : Rho) (k : D → Fl) (kn : List D → Fl) : (Res.new d).fl ρ k kn = kn d := rfl
@[simp] theorem Res.fl_exc (c : Nat) (ρ : Rho) (k : D → Fl) (kn : List D → Fl) : (Res.exc c).fl ρ k kn = .ex c ρ := rfl
@[simp] theorem Res.fl_bad (ρ : Rho) (k : D → Fl) (kn : List D → Fl) : Res.bad.fl ρ k kn = .bad := rfl
def Fl.bind (f : Fl) (k : Ss) : Fl := match f with
  | .nx ρ => k ρ
  | f => f
@[simp] theorem Fl.bind_nx (ρ : Rho) (k : Ss) : (Fl.nx ρ).bind k = k ρ := rfl
@[simp] theorem Fl.bind_rt (d : D) (k : Ss) : (Fl.rt d).bind k = .rt d := rfl
@[simp] theorem Fl.bind_rn (d : List D) (k : Ss) : (Fl.rn d).bind k = .rn d := rfl
@[simp] theorem Fl.bind_rm (d : D) (ρ : Rho) (k : Ss) : (Fl.rm d ρ).bind k = .rm d ρ := rfl
@[simp] theorem Fl.bind_rb (n : Nat) (fs : List Fd) (k : Ss) : (Fl.rb n fs).bind k = .rb n fs := rfl
@[simp] theorem Fl.bind_ex (c : Nat) (ρ : Rho) (k : Ss) : (Fl.ex c ρ).bind k = .ex c ρ := rfl
@[simp] theorem Fl.bind_bad (k : Ss) : Fl.bad.bind k = .bad := rfl
def sSet (i : Nat) (lk : List Nat) (m : Sm) : Ss := fun ρ0 => let ρ := frz ρ0 lk
  (m ρ).fl ρ (fun d => .nx (ρ.set i (.fr d))) (fun ds => .nx (ρ.set i (.ow ds)))
def sTup (is : List Nat) (lk : List Nat) (m : Sm) : Ss := fun ρ0 => let ρ := frz ρ0 lk
  (m ρ).fl ρ (fun d => match bindT (.tp is) d ρ with | some ρ' => .nx ρ' | none => .bad) (fun _ => .bad)
def sRet (lk : List Nat) (m : Sm) : Ss := fun ρ0 => let ρ := frz ρ0 lk
  (m ρ).fl ρ .rt .rn
/-- return x, x a list of its own -/
def sRetV (i : Nat) : Ss := fun ρ => match ρ[i]? with
  | some (.fr d) => .rt d
  | some (.ow ds) => .rn ds
  | _ => .bad
def sExpr (lk : List Nat) (m : Sm) : Ss := fun ρ0 => let ρ := frz ρ0 lk
  (m ρ).fl ρ (fun _ => .nx ρ) (fun _ => .nx ρ)
def sSeq (a b : Ss) : Ss := fun ρ => (a ρ).bind b
def ifF (o : Option Bool) (a b : Fl) : Fl := match o with
  | some true => a
  | some false => b
  | none => .bad
@[simp] theorem ifF_t (a b : Fl) : ifF (some true) a b = a := rfl
@[simp] theorem ifF_f (a b : Fl) : ifF (some false) a b = b := rfl
@[simp] theorem ifF_n (a b : Fl) : ifF none a b = .bad := rfl
def sIf (lk : List Nat) (mc : Sm) (a b : Ss) : Ss := fun ρ0 => let ρ := frz ρ0 lk
  (mc ρ).fl ρ (fun d => ifF (truth d) (a ρ) (b ρ)) (fun ds => if ds.isEmpty then b ρ else a ρ)
section
variable {X : Cx} {cv : Nat → Value} {W : WX} {e c tg : Expr} {st : Stmt} {rest : List Stmt} {m mc : Sm} {a b : Ss} {lk : List Nat} {pos p : Pos}
theorem PS.imp {t t' : TS} (h : PS X st t) (k : ∀ D σ H, t' D σ H → t D σ H) : PS X st t' := ⟨fun pins s σ H D I hw => h.run pins s σ H D I (k D σ H hw)⟩
theorem PSs.imp {t t' : TS} (h : PSs X rest t) (k : ∀ D σ H, t' D σ H → t D σ H) : PSs X rest t' := ⟨fun pins s σ H D I hw => h.run pins s σ H D I (k D σ H hw)⟩
/-- an expression within a statement -/
theorem rd_st {B : Bb} {Dn : Ends} {ρ : Rho} {σ : L2.St} {F H : Hp} {k : D → Fl} {kn : List D → Fl} {Q : VK} (r : RelB cv B ρ σ F H) (q : GotF cv W B Dn ((m ρ).fl ρ k kn)) (hk : ∀ d v F' H', Evo F H F' H' → Dr F' v d → GotF cv W B Dn (k d) → Q v H')
    (hn : ∀ ds p xs F' H', Evo F H F' H' → H p = none → F' p = none → H' p = some (.lst xs) → DrAll F' xs ds → GotF cv W B Dn (kn ds) → Q (.ref p) H') : rdE cv W m σ H Q := by
  refine ⟨ρ, F, r.rel, ?_⟩
  cases h : m ρ with
  | ok d => rw [h] at q; exact fun v F1 H1 ev hd => hk d v F1 H1 ev hd q
  | new ds => rw [h] at q; exact fun p xs F1 H1 ev h1 h2 h3 h4 => hn ds p xs F1 H1 ev h1 h2 h3 h4 q
  | exc c => rw [h] at q; exact fun F1 H1 ev => q σ F1 H1 (r.step ev)
  | bad => rw [h] at q; exact q
theorem js_set {i : Nat} {x : Str} (hN : X.N.Nodup) (hi : X.N[i]? = some x) (hx : Loc X.env.scope x) (he : JE X cv W e m) (hs : swapsWith e (some (.Name x p)) pos.line X.env = pure false) (hf : X.fn x = true ∨ X.env.scope.names.lookup x = some .local) : JF X cv W (.Assign [.Name x p] e pos) (sSet i lk m) := fun B =>
  PS.imp (ps_set hN hi hx he hs hf) fun Dn σ H ⟨ρ0, F0, r0, q⟩ => by
    obtain ⟨F, r⟩ := RelB.frz (lk := lk) r0
    refine rd_st r q (fun d v F1 H1 ev hd q => q _ F1 H1 ((r.step ev).fr i hd)) fun ds p xs F1 H1 ev h1 h2 h3 h4 q => q _ F1 H1 ((r.step ev).ow i h2 h3 (none_back r.evo.hx h1) h4 fun j es e _ => new_apart r h1 ev j es e)
theorem js_tup {is : List Nat} {es : List Expr} {k : Nat} (hc : X.calm = true) (hN : X.N.Nodup) (hes : Nms X es is) (he : JE X cv W e m) (hs : swapsWithSole [.Tuple es k p] e pos.line X.env = pure false) (hw : swappedStores [.Tuple es k p] e X.env = pure none) : JF X cv W (.Assign [.Tuple es k p] e pos) (sTup is lk m) := fun B =>
  PS.imp (ps_asg he (pg_tup hc (hes.pgs hN) (hes.len (env := X.env)).1 (hes.len (env := X.env)).2) hs hw rfl) fun Dn σ H ⟨ρ0, F0, r0, q⟩ => by
    obtain ⟨F, r⟩ := RelB.frz (lk := lk) r0
    refine rd_st r q (fun d v F1 H1 ev hd q => ?_) fun ds p xs F1 H1 ev h1 h2 h3 h4 q => q.elim
    cases hd with
    | tup h hs =>
      unfold bindT at q
      simp only at q
      split at q
      · rename_i ρ' e
        split at e
        · rename_i hl
          cases e
          refine ⟨_, _, rfl, .inl (.inl (ev.le _ _ h)), by rw [dps_len hs, hl], ?_⟩
          -- one by one
          have go : ∀ (is : List Nat) (ds : List D) (vs : List V) (ρ : Rho) (σ : L2.St), RelB cv B ρ σ F1 H1 → DrAll F1 vs ds → ds.length = is.length → (∀ σ', RelB cv B (setAll is ds ρ) σ' F1 H1 → Dn.nx σ' H1) → gNames is vs σ H1 Dn.nx := by
            intro is
            induction is with
            | nil =>
              intro ds vs ρ σ r hd hl k
              cases hd with
              | nil => exact ⟨rfl, k σ r⟩
              | cons _ _ => simp at hl
            | cons i is ih =>
              intro ds vs ρ σ r hd hl k
              cases hd with
              | nil => simp at hl
              | cons h hs => exact ⟨_, _, rfl, ih _ _ _ _ (r.fr i h) hs (by simpa using hl) k⟩
          exact go _ _ _ _ _ (r.step ev) hs hl fun σ' r' => q σ' F1 H1 r'
        · cases e
      · exact q.elim
    | _ => exact q.elim
theorem js_ret (he : JE X cv W e m) : JF X cv W (.Return (some e) pos) (sRet lk m) := fun B =>
  PS.imp (ps_ret he) fun Dn σ H ⟨ρ0, F0, r0, q⟩ => by
    obtain ⟨F, r⟩ := RelB.frz (lk := lk) r0
    exact rd_st r q (fun d v F1 H1 ev hd q => q v F1 H1 (r.evo.trans ev) hd) fun ds p xs F1 H1 ev h1 h2 h3 h4 q => q p xs F1 H1 (r.evo.trans ev) (none_back r.evo.hx h1) h2 h3 h4
theorem js_retV {i : Nat} {x : Str} (hN : X.N[i]? = some x) (hv : Vis X.env.scope x) (hd : (x == ("__debug__" : Str)) = false) (hcd : (x == ("__classdict__" : Str)) = false) : JF X cv W (.Return (some (.Name x p)) pos) (sRetV i) := fun B =>
  PS.imp (ps_ret (pe_var hN hv hd hcd)) fun Dn σ H ⟨ρ, F, r, q⟩ => by
    unfold sRetV at q
    cases h : ρ[i]? with
    | none => rw [h] at q; exact q.elim
    | some c =>
      rw [h] at q
      cases c with
      | un => exact q.elim
      | fr d =>
        obtain ⟨v, e1, e2⟩ := r.rel.cell i _ h
        exact ⟨v, e1, q v F H r.evo e2⟩
      | ob k fs => exact q.elim
      | ro k fs => exact q.elim
      | ow ds =>
        obtain ⟨p, xs, e1, e2, e3, e4⟩ := r.rel.cell i _ h
        exact ⟨_, e1, q p xs F H r.evo (r.own i _ p h (by rw [e1]; simp)) e3 e2 e4⟩
theorem js_retN : JF X cv W (.Return none pos) (fun _ => .rt .none) := fun B =>
  PS.imp ps_retN fun Dn σ H ⟨ρ, F, r, q⟩ => q .non F H r.evo .non
theorem js_expr (he : JE X cv W e m) (hs : swapsWith e none pos.line X.env = pure false) : JF X cv W (.Expr e pos) (sExpr lk m) := fun B =>
  PS.imp (ps_expr he hs) fun Dn σ H ⟨ρ0, F0, r0, q⟩ => by
    obtain ⟨F, r⟩ := RelB.frz (lk := lk) r0
    exact rd_st r q (fun d v F1 H1 ev hd q => q σ F1 H1 (r.step ev)) fun ds p xs F1 H1 ev h1 h2 h3 h4 q => q σ F1 H1 (r.step ev)
theorem js_pass : JF X cv W (.Pass pos) .nx := fun B => PS.imp ps_pass fun Dn σ H ⟨ρ, F, r, q⟩ => q σ F H r
theorem jss_nil : JFs X cv W [] .nx := fun B => PSs.imp pss_nil fun Dn σ H ⟨ρ, F, r, q⟩ => q σ F H r
theorem jss_cons (ha : JF X cv W st a) (hb : JFs X cv W rest b) : JFs X cv W (st :: rest) (sSeq a b) := fun B =>
  PSs.imp (pss_cons (ha B) (hb B)) fun Dn σ H ⟨ρ, F, r, q⟩ => by
    refine ⟨ρ, F, r, ?_⟩
    unfold sSeq at q
    cases h : a ρ with
    | nx ρ' => rw [h] at q; exact fun σ' F' H' r' => ⟨ρ', F', r', q⟩
    | rt d => rw [h] at q; exact q
    | rn d => rw [h] at q; exact q
    | rm d ρ' => rw [h] at q; exact q
    | rb k fs => rw [h] at q; exact q
    | ex c ρ' => rw [h] at q; exact q
    | bad => rw [h] at q; exact q
theorem jss_one (ha : JF X cv W st a) : JFs X cv W [st] a := fun B => pss_one (ha B)
theorem js_if {sa sb : List Stmt} (hc : JT X cv W c mc) (ha : JFs X cv W sa a) (hb : JFs X cv W sb b) : JF X cv W (.If c sa sb pos) (sIf lk mc a b) := fun B =>
  PS.imp (ps_if hc (ha B) (hb B)) fun Dn σ H ⟨ρ0, F0, r0, q⟩ => by
    obtain ⟨F, r⟩ := RelB.frz (lk := lk) r0
    refine ⟨frz ρ0 lk, F, r.rel, ?_⟩
    unfold sIf at q
    simp only at q
    cases h : mc (frz ρ0 lk) with
    | ok d =>
      rw [h] at q
      simp only [Res.fl_ok] at q
      cases hk : truth d with
      | none => rw [hk] at q; exact q.elim
      | some k =>
        rw [hk] at q
        refine ⟨k, hk, fun F1 H1 ev => ?_⟩
        cases k with
        | true => exact ⟨_, F1, r.step ev, q⟩
        | false => exact ⟨_, F1, r.step ev, q⟩
    | new ds =>
      rw [h] at q
      simp only [Res.fl_new] at q
      intro F1 H1 ev
      cases he : ds.isEmpty with
      | true => rw [he] at q; exact ⟨_, F1, r.step ev, q⟩
      | false => rw [he] at q; exact ⟨_, F1, r.step ev, q⟩
    | exc c => rw [h] at q; exact fun F1 H1 ev => q σ F1 H1 (r.step ev)
    | bad => rw [h] at q; exact q
end
end U
set_option Elab.async false
set_option linter.all false
set_option maxRecDepth 100000
set_option maxHeartbeats 4000000
namespace U
open PySem PySem.Spec PyProof.Rows L2
/-! ### lists that are changed -/
def sApp (i : Nat) (lk : List Nat) (m : Sm) : Ss := fun ρ0 => let ρ := frz ρ0 lk
  match ρ[i]? with
  | some (.ow ds) => if ds.length < 100000 then (m ρ).fl ρ (fun d => .nx (ρ.set i (.ow (ds ++ [d])))) (fun es => .nx (ρ.set i (.ow (ds ++ [.list es])))) else .bad
  | _ => .bad
def sExt (i : Nat) (lk : List Nat) (m : Sm) : Ss := fun ρ0 => let ρ := frz ρ0 lk
  match ρ[i]? with
  | some (.ow ds) => (m ρ).fl ρ (fun _ => .bad) (fun es => if ds.length + es.length ≤ 100000 then .nx (ρ.set i (.ow (ds ++ es))) else .bad)
  | _ => .bad
/-- x[i] = e -/
def sItem (i : Nat) (lk : List Nat) (mi m : Sm) : Ss := fun ρ0 => let ρ := frz ρ0 lk
  match ρ[i]? with
  | some (.ow ds) => (m ρ).fl ρ (fun d => (mi ρ).fl ρ (fun k => match k with
      | .int k => (match ixN ds.length k with
        | some j => .nx (ρ.set i (.ow (ds.set j d)))
        | none => .bad)
      | _ => .bad) (fun _ => .bad)) (fun _ => .bad)
  | _ => .bad
/-- an owned list is changed: the other cells stand -/
theorem FdsOk.mut {F H : Hp} {p : Addr} {ys : List V} : ∀ {vs : List V} {fs : List Fd}, FdsOk F H vs fs → p ∉ ownV vs fs → FdsOk F (upd H p (.lst ys)) vs fs
  | _, _, .nil, _ => .nil
  | v :: vs, .fr d :: fs, .cons h hs, n => .cons h (FdsOk.mut hs fun z => n (by cases v <;> exact z))
  | v :: vs, .ow ds :: fs, .cons ⟨q, xs, e, h2, h3, h4⟩ hs, n => by
    subst e
    have hne : q ≠ p := fun z => n (by rw [← z]; exact List.mem_cons_self)
    exact .cons ⟨q, xs, rfl, by rw [upd_ne hne]; exact h2, h3, h4⟩ (FdsOk.mut hs fun z => n (List.mem_cons_of_mem _ z))
theorem CellOk.mut {cv : Nat → Value} {F H : Hp} {p : Addr} {ys xs : List V} {ov : Option (Option V)} {c : Cell} (h : CellOk cv F H ov c) (hl : H p = some (.lst xs)) (hF : F p = none) (n : p ∉ owL H ov c) : CellOk cv F (upd H p (.lst ys)) ov c := by
  cases c with
  | un => trivial
  | fr d => exact h
  | ow ds =>
    obtain ⟨q, zs, h1, h2, h3, h4⟩ := h
    have hne : q ≠ p := fun z => n (by rw [h1, ← z]; simp)
    exact ⟨q, zs, h1, by rw [upd_ne hne]; exact h2, h3, h4⟩
  | ob z fs =>
    obtain ⟨a, C, dx, vs, h1, h2, h3, h4, hl', h5, h6⟩ := h
    subst h1
    rw [owL_ob h3 hl'] at n
    have hne : a ≠ p := fun z => n (by rw [← z]; exact List.mem_cons_self)
    exact ⟨a, C, dx, vs, rfl, h2, by rw [upd_ne hne]; exact h3, h4, hl', h5.mut fun z => n (List.mem_cons_of_mem _ z), h6⟩
  | ro z fs => exact h
theorem owL_mut {cv : Nat → Value} {F H : Hp} {p : Addr} {ys xs : List V} {ov : Option (Option V)} {c : Cell} (h : CellOk cv F H ov c) (hl : H p = some (.lst xs)) : owL (upd H p (.lst ys)) ov c = owL H ov c := by
  cases c with
  | ob z fs =>
    obtain ⟨a, C, dx, vs, h1, h2, h3, h4, hl', h5, h6⟩ := h
    subst h1
    have hne : a ≠ p := fun z => by rw [z, hl] at h3; cases h3
    rw [owL_ob h3 hl', owL_ob (by rw [upd_ne hne]; exact h3) hl']
  | ow ds => obtain ⟨q, zs, rfl, _⟩ := h; rfl
  | _ => rfl
theorem RelB.mut {cv : Nat → Value} {B : Bb} {ρ : Rho} {σ : L2.St} {F H : Hp} {i : Nat} {p : Addr} {xs ys : List V} {ds es : List D} (r : RelB cv B ρ σ F H) (h : ρ[i]? = some (.ow ds)) (hp : σ[i]? = some (some (.ref p))) (hd : DrAll F ys es) : RelB cv B (ρ.set i (.ow es)) σ F (upd H p (.lst ys)) := by
  obtain ⟨p', xs', e1, e2, e3, e4⟩ := r.rel.cell i _ h
  rw [hp] at e1; cases e1
  have hpi : p ∈ owL H σ[i]? (.ow ds) := by rw [hp]; simp
  have hB := r.own i _ p h hpi
  have hi : i < ρ.length := (List.getElem?_eq_some_iff.mp h).1
  have neF : ∀ a u, F a = some u → a ≠ p := fun a u q z => by subst z; rw [e3] at q; cases q
  refine ⟨⟨by simp [r.rel.len], fun a u q => by rw [upd_ne (neF a u q)]; exact r.rel.le a u q, fun j c e => ?_, fun j k c c' q e1 e2b e3' e4' => ?_⟩, ⟨r.evo.ex, fun a u q => ?_, fun a u q => by rw [upd_ne (neF a u q)]; exact r.evo.le a u q, r.evo.new⟩, fun j c q e1 e2' => ?_, fun a k fs h3 e1 => ?_⟩
  case refine_5 =>
    rw [set_get] at e1
    split at e1
    · cases e1
    · exact r.slf a k fs h3 e1
  · rw [set_get] at e
    split at e
    · rename_i hz
      cases e
      rw [← hz.1]
      exact ⟨p, ys, hp, upd_same, e3, hd⟩
    · rename_i hz
      have hne : ¬ i = j := fun z => hz ⟨z, z ▸ hi⟩
      exact (r.rel.cell j c e).mut e2 e3 fun z => hne (r.rel.apart i j _ c p h e hpi z)
  · have back : ∀ j c q, (ρ.set i (.ow es))[j]? = some c → q ∈ owL (upd H p (.lst ys)) σ[j]? c → ∃ c0, ρ[j]? = some c0 ∧ q ∈ owL H σ[j]? c0 := fun j c q e m => by
      rw [set_get] at e
      split at e
      · rename_i hz
        cases e
        rw [← hz.1] at m ⊢
        exact ⟨_, h, by rw [hp] at m ⊢; exact m⟩
      · exact ⟨c, e, by rw [← owL_mut (ys := ys) (r.rel.cell j c e) e2]; exact m⟩
    obtain ⟨c1, f1, f2⟩ := back j c q e1 e3'
    obtain ⟨c2, g1, g2⟩ := back k c' q e2b e4'
    exact r.rel.apart j k c1 c2 q f1 g1 f2 g2
  · have : a ≠ p := fun z => by subst z; rw [hB] at q; cases q
    rw [upd_ne this]; exact r.evo.hx a u q
  · rw [set_get] at e1
    split at e1
    · rename_i hz
      cases e1
      rw [← hz.1, hp] at e2'
      simp at e2'
      subst e2'
      exact hB
    · exact r.own j c q e1 (by rw [← owL_mut (ys := ys) (r.rel.cell j c e1) e2]; exact e2')
theorem DrAll.off {F H : Hp} {p : Addr} {o : HO} : ∀ {xs : List V} {ds : List D}, DrAll F xs ds → Ex F H → F p = none → DrAll H xs ds := fun h e _ => dps_mono e h
section
variable {X : Cx} {cv : Nat → Value} {W : WX} {e c tg : Expr} {st : Stmt} {rest : List Stmt} {m mi mc : Sm} {a b : Ss} {lk : List Nat} {pos p apos cpos : Pos}
/-- the slot of an own list -/
theorem own_at {cv : Nat → Value} {B : Bb} {ρ : Rho} {σ : L2.St} {F H F' H' : Hp} {i : Nat} {ds : List D} (r : RelB cv B ρ σ F H) (h : ρ[i]? = some (.ow ds)) (ev : Evo F H F' H') : ∃ q xs, σ[i]? = some (some (.ref q)) ∧ H q = some (.lst xs) ∧ H' q = some (.lst xs) ∧ F' q = none ∧ DrAll F' xs ds := by
  obtain ⟨q, xs, e1, e2, e3, e4⟩ := r.rel.cell i _ h
  exact ⟨q, xs, e1, e2, ev.hx _ _ e2, own_not ev e3 e2, dps_mono ev.ex e4⟩
theorem hfew_one {cpos : Pos} {env : PySem.Env} {e : Expr} (h : notStar e = true) : ((backTo cpos (starEach [e] env)).all (fun x => !x.1) && (backToKw cpos (keywordEach [] env)).all (fun x => x.1.isSome)
      && decide ([e].length + ([] : List Keyword).length + (if ([] : List Keyword).isEmpty then 0 else 1) < 30)) = true := by
  rw [star_cons h]; rfl
theorem js_app {i : Nat} {x : Str} (hN : X.N[i]? = some x) (hv : Vis X.env.scope x) (hd : (x == ("__debug__" : Str)) = false) (hcd : (x == ("__classdict__" : Str)) = false) (he : JE X cv W e m) (h1 : notStar e = true) (hl : (apos.endLine == cpos.line) = true) :
    JF X cv W (.Expr (.Call (.Attribute (.Name x p) "append" apos) [e] [] cpos) pos) (sApp i lk m) := fun B =>
  PS.imp (ps_expr (pe_bm PySem.F.plainAttrs_list PySem.F.slot_list_append PySem.F.type_list_append mt_append (pe_var hN hv hd hcd) (pa_cons he.s pa_nil (star_cons h1)) rfl (hfew_one h1) hl (star_cons h1) rfl) rfl) fun Dn σ H ⟨ρ0, F0, r0, q⟩ => by
    obtain ⟨F, r⟩ := RelB.frz (lk := lk) r0
    unfold sApp at q
    simp only at q
    cases h : (frz ρ0 lk)[i]? with
    | none => rw [h] at q; exact q.elim
    | some c =>
      rw [h] at q
      cases c with
      | un => exact q.elim
      | fr d => exact q.elim
      | ob k fs => exact q.elim
      | ro k fs => exact q.elim
      | ow ds =>
        obtain ⟨q0, xs0, s0, s1, _, _, _⟩ := own_at r h (Evo.refl r.rel.le)
        simp only at q
        split at q
        · rename_i hz
          refine ⟨_, s0, .inl ⟨rfl, xs0, SqL.of s1⟩, frz ρ0 lk, F, r.rel, ?_⟩
          have go : ∀ d, GotF cv W B Dn (.nx ((frz ρ0 lk).set i (.ow (ds ++ [d])))) → QD F H d fun v H1 => rAppend (.ref q0) [v] H1 fun _ H2 => Dn.nx σ H2 := fun d q v F1 H1 ev hd => by
            obtain ⟨q1, xs1, t0, t1, t2, t3, t4⟩ := own_at r h ev
            rw [s0] at t0; cases t0
            refine ⟨q0, xs1, v, rfl, rfl, t2, Evl.sz_lt (by rw [dps_len t4]; exact hz), ?_⟩
            exact q σ F1 _ ((r.step ev).mut (xs := xs1) h s0 (dps_app t4 (.cons hd .nil)))
          cases hm : m (frz ρ0 lk) with
          | ok d => rw [hm] at q; exact go d q
          | new d => rw [hm] at q; exact go _ q
          | exc c => rw [hm] at q; exact fun F1 H1 ev => q σ F1 H1 (r.step ev)
          | bad => rw [hm] at q; exact q
        · exact q.elim
theorem js_ext {i : Nat} {x : Str} (hN : X.N[i]? = some x) (hv : Vis X.env.scope x) (hd : (x == ("__debug__" : Str)) = false) (hcd : (x == ("__classdict__" : Str)) = false) (he : JE X cv W e m) (h1 : notStar e = true) (hl : (apos.endLine == cpos.line) = true) :
    JF X cv W (.Expr (.Call (.Attribute (.Name x p) "extend" apos) [e] [] cpos) pos) (sExt i lk m) := fun B =>
  PS.imp (ps_expr (pe_bm PySem.F.plainAttrs_list PySem.F.slot_list_extend PySem.F.type_list_extend mt_extend (pe_var hN hv hd hcd) (pa_cons he pa_nil (star_cons h1)) rfl (hfew_one h1) hl (star_cons h1) rfl) rfl) fun Dn σ H ⟨ρ0, F0, r0, q⟩ => by
    obtain ⟨F, r⟩ := RelB.frz (lk := lk) r0
    unfold sExt at q
    simp only at q
    cases h : (frz ρ0 lk)[i]? with
    | none => rw [h] at q; exact q.elim
    | some c =>
      rw [h] at q
      cases c with
      | un => exact q.elim
      | fr d => exact q.elim
      | ob k fs => exact q.elim
      | ro k fs => exact q.elim
      | ow ds =>
        obtain ⟨q0, xs0, s0, s1, _, _, _⟩ := own_at r h (Evo.refl r.rel.le)
        simp only at q
        refine ⟨_, s0, .inl ⟨rfl, xs0, SqL.of s1⟩, ?_⟩
        refine rd_st r q (fun d v F1 H1 ev hd q => q.elim) fun es p xs F1 H1 ev h1 h2 h3 h4 q => ?_
        split at q
        · rename_i hz
          obtain ⟨q1, xs1, t0, t1, t2, t3, t4⟩ := own_at r h ev
          rw [s0] at t0; cases t0
          refine ⟨q0, p, xs1, xs, rfl, rfl, t2, h3, Evl.sz_of (by rw [dps_len t4, dps_len h4]; exact hz), ?_⟩
          exact q σ F1 _ ((r.step ev).mut (xs := xs1) h s0 (dps_app t4 h4))
        · exact q.elim
theorem js_item {i : Nat} {x : Str} {ix : Expr} {tpos : Pos} (hN : X.N[i]? = some x) (hv : Vis X.env.scope x) (hd : (x == ("__debug__" : Str)) = false) (hcd : (x == ("__classdict__" : Str)) = false) (he : JE X cv W e m) (hi : JE X cv W ix mi)
    (hs : swapsWithSole [.Subscript (.Name x p) ix tpos] e pos.line X.env = pure false) (ha : ∀ v, assign (.Subscript (.Name x p) ix tpos) X.env v = (do
      let ov ← holding [v] (eval (.Name x p) X.env)
      let iv ← holding [v, ov] (eval ix X.env)
      standAt tpos
      holding [v, ov, iv] (setItem ov iv v)
      release [v, ov, iv] [])) :
    JF X cv W (.Assign [.Subscript (.Name x p) ix tpos] e pos) (sItem i lk mi m) := fun B =>
  PS.imp (ps_asg he (pg_sub (pe_var hN hv hd hcd) hi set_list ha) hs (by cases e <;> rfl) rfl) fun Dn σ H ⟨ρ0, F0, r0, q⟩ => by
    obtain ⟨F, r⟩ := RelB.frz (lk := lk) r0
    unfold sItem at q
    simp only at q
    cases h : (frz ρ0 lk)[i]? with
    | none => rw [h] at q; exact q.elim
    | some c =>
      rw [h] at q
      cases c with
      | un => exact q.elim
      | fr d => exact q.elim
      | ob k fs => exact q.elim
      | ro k fs => exact q.elim
      | ow ds =>
        obtain ⟨q0, xs0, s0, s1, _, _, _⟩ := own_at r h (Evo.refl r.rel.le)
        simp only at q
        refine rd_st r q (fun d v F1 H1 ev hd q => ?_) fun es p xs F1 H1 ev h1 h2 h3 h4 q => q.elim
        refine ⟨_, s0, ?_⟩
        refine rd_st (r.step ev) q (fun k w F2 H2 ev2 hk q => ?_) fun es p xs F1 H1 ev h1 h2 h3 h4 q => q.elim
        cases hk <;> try exact q.elim
        rename_i k
        simp only at q
        cases hj : ixN ds.length k with
        | none => rw [hj] at q; exact q.elim
        | some j =>
          rw [hj] at q
          obtain ⟨q1, xs1, t0, t1, t2, t3, t4⟩ := own_at r h (ev.trans ev2)
          rw [s0] at t0; cases t0
          refine ⟨q0, xs1, k, j, rfl, rfl, t2, by rw [dps_len t4]; exact hj, ?_⟩
          exact q σ F2 _ ((r.step (ev.trans ev2)).mut (xs := xs1) h s0 (dps_set (dp_mono ev2.ex hd) j t4))
end
end U
set_option Elab.async false
set_option linter.all false
set_option maxRecDepth 100000
set_option maxHeartbeats 4000000
namespace U
open PySem PySem.Spec PyProof.Rows L2
/-! ### loops -/
def forGo (body : Ss) (T : Tg) : List D → Rho → Fl
  | [], ρ => .nx ρ
  | d :: ds, ρ => match bindT T d ρ with
    | some ρ' => (body ρ').bind (forGo body T ds)
    | none => .bad
def sFor (T : Tg) (lk : List Nat) (mi : SmL) (body : Ss) : Ss := fun ρ0 => let ρ := frz ρ0 lk
  match mi ρ with
  | .ok ds => forGo body T ds ρ
  | .exc c => .ex c ρ
  | .bad => .bad
def whGo (lk : List Nat) (mc : Sm) (body : Ss) : Nat → Rho → Fl
  | 0, _ => .bad
  | n + 1, ρ0 => (mc (frz ρ0 lk)).fl (frz ρ0 lk) (fun d => ifF (truth d) ((body (frz ρ0 lk)).bind (whGo lk mc body n)) (.nx (frz ρ0 lk))) (fun _ => .bad)
set_option exponentiation.threshold 30000 in
def fuel : Nat := 2 ^ 20000
def sWhile (lk : List Nat) (mc : Sm) (body : Ss) : Ss := fun ρ => whGo lk mc body fuel ρ
theorem RelB.base {Z : Option Addr} {F0 H0 F1 H1 F H : Hp} {ρ : Rho} {σ : L2.St} (e : Evo F0 H0 F1 H1) (r : RelB cv ⟨F1, H0, Z⟩ ρ σ F H) : RelB cv ⟨F0, H0, Z⟩ ρ σ F H := by
  refine ⟨r.rel, ⟨e.ex.trans r.evo.ex, r.evo.hx, r.evo.le, fun a o h => ?_⟩, r.own, r.slf⟩
  rcases r.evo.new a o h with z | z
  · exact e.new a o z
  · exact .inr z
theorem Evo.base {F0 H0 F1 H1 F H : Hp} (e : Evo F0 H0 F1 H1) (r : Evo F1 H0 F H) : Evo F0 H0 F H := by
  refine ⟨e.ex.trans r.ex, r.hx, r.le, fun a o h => ?_⟩
  rcases r.new a o h with z | z
  · exact e.new a o z
  · exact .inr z
theorem RelB.top {Z : Option Addr} {F0 H0 F1 F H : Hp} {ρ : Rho} {σ : L2.St} (r : RelB cv ⟨F0, H0, Z⟩ ρ σ F H) (e : Ex F0 F1) (ex : Ex F1 F) : RelB cv ⟨F1, H0, Z⟩ ρ σ F H := by
  refine ⟨r.rel, ⟨ex, r.evo.hx, r.evo.le, fun a o h => ?_⟩, r.own, r.slf⟩
  rcases r.evo.new a o h with z | z
  · exact .inl (e a o z)
  · exact .inr z
theorem GotF.base {Z : Option Addr} {cv : Nat → Value} {W : WX} {F0 H0 F1 H1 : Hp} {Dn : Ends} (e : Evo F0 H0 F1 H1) : ∀ {f : Fl}, GotF cv W ⟨F0, H0, Z⟩ Dn f → GotF cv W ⟨F1, H0, Z⟩ Dn f
  | .nx _, h => fun σ F H r => h σ F H (r.base e)
  | .rt _, h => fun v F H ev hd => h v F H (Evo.base e ev) hd
  | .rn _, h => fun p xs F H ev h1 h2 h3 h4 => h p xs F H (Evo.base e ev) h1 h2 h3 h4
  | .rm _ _, h => fun v σ F H r hd => h v σ F H (r.base e) hd
  | .rb _ _, h => fun a C dx vs F H h0 ev h1 h2 h3 h4 h5 h6 h7 => h a C dx vs F H h0 (Evo.base e ev) h1 h2 h3 h4 h5 h6 h7
  | .ex _ _, h => fun σ F H r => h σ F H (r.base e)
  | .bad, h => h
theorem GotF.ends {cv : Nat → Value} {W : WX} {B : Bb} {Dn Dn' : Ends} {k : Ss} (hn : ∀ ρ σ F H, RelB cv B ρ σ F H → GotF cv W B Dn (k ρ) → Dn'.nx σ H) (hr : Dn'.rt = Dn.rt) : ∀ {f : Fl}, GotF cv W B Dn (f.bind k) → GotF cv W B Dn' f
  | .nx ρ, h => fun σ F H r => hn ρ σ F H r h
  | .rt _, h => fun v F H ev hd => by rw [hr]; exact h v F H ev hd
  | .rn _, h => fun p xs F H ev h1 h2 h3 h4 => by rw [hr]; exact h p xs F H ev h1 h2 h3 h4
  | .rm _ _, h => fun v σ F H r hd => by rw [hr]; exact h v σ F H r hd
  | .rb _ _, h => fun a C dx vs F H h0 ev h1 h2 h3 h4 h5 h6 h7 => by rw [hr]; exact h a C dx vs F H h0 ev h1 h2 h3 h4 h5 h6 h7
  | .ex _ _, h => h
  | .bad, h => h
section
variable {X : Cx} {cv : Nat → Value} {W : WX} {e c tg iter : Expr} {st : Stmt} {rest body : List Stmt} {m mc : Sm} {mi : SmL} {a b mb : Ss} {lk : List Nat} {pos p apos cpos : Pos} {T : Tg}
/-- a target, with the entry's facts -/
def rdGB (cv : Nat → Value) (T : Tg) (B : Bb) : TG := fun v σ H Q => ∃ d ρ F, RelB cv B ρ σ F H ∧ Dr F v d ∧ ∃ ρ', bindT T d ρ = some ρ' ∧ ∀ σ', RelB cv B ρ' σ' F H → Q σ' H
def JGB (X : Cx) (cv : Nat → Value) (tg : Expr) (T : Tg) : Prop := ∀ B, PG X tg (rdGB cv T B)
theorem jgb_name {i : Nat} {x : Str} (hN : X.N.Nodup) (hi : X.N[i]? = some x) (hx : Loc X.env.scope x) (hf : X.fn x = true ∨ X.env.scope.names.lookup x = some .local) : JGB X cv (.Name x pos) (.nm i) := fun B =>
  PG.imp (pg_name hN hi hx hf) fun v σ H Q ⟨d, ρ, F, r, hd, ρ', e, q⟩ => by
    cases e
    exact q _ (r.fr i hd)
theorem gNames_okB {B : Bb} : ∀ {is : List Nat} {ds : List D} {vs : List V} {ρ : Rho} {σ : L2.St} {F H : Hp} {Q : L2.St → Hp → Prop}, RelB cv B ρ σ F H → DrAll F vs ds → ds.length = is.length → (∀ σ', RelB cv B (setAll is ds ρ) σ' F H → Q σ' H) → gNames is vs σ H Q
  | [], [], _, ρ, σ, F, H, Q, r, .nil, _, q => ⟨rfl, q σ r⟩
  | i :: is, d :: ds, _, ρ, σ, F, H, Q, r, .cons h hs, e, q => ⟨_, _, rfl, gNames_okB (r.fr i h) hs (by simpa using e) q⟩
theorem jgb_tup {is : List Nat} {es : List Expr} {k : Nat} (hc : X.calm = true) (hN : X.N.Nodup) (h : Nms X es is) : JGB X cv (.Tuple es k pos) (.tp is) := fun B =>
  PG.imp (pg_tup hc (h.pgs hN) (h.len (env := X.env)).1 (h.len (env := X.env)).2) fun v σ H Q ⟨d, ρ, F, r, hd, ρ', e, q⟩ => by
    cases hd with
    | tup h hs =>
      unfold bindT at e
      simp only at e
      split at e
      · rename_i hl
        cases e
        exact ⟨_, _, rfl, .inl (.inl (r.rel.le _ _ h)), by rw [dps_len hs, hl], gNames_okB r hs hl q⟩
      · cases e
    | _ => cases e
theorem js_for (hp : PassesOwn (model X.prog X.w) X.A X.env X.xe) (hc : X.calm = true) (hi : JI X cv W tg iter mi) (hg : JGB X cv tg T) (hb : JFs X cv W body mb) (hs : ∀ x, foldedSetIterable iter X.env x = pure x) : JF X cv W (.For tg iter body [] pos) (sFor T lk mi mb) := fun B => by
  refine ⟨fun pins s σ H Dn I hw => ?_⟩
  obtain ⟨ρ0, F0, r0, q⟩ := hw
  obtain ⟨F, r⟩ := RelB.frz (lk := lk) r0
  unfold sFor at q
  simp only at q
  -- the walk's start decides the base of the body
  have main : ∀ (Dn : Ends) (σ : L2.St) (H : Hp) (F : Hp) (ρ : Rho), RelB cv B ρ σ F H → GotF cv W B Dn (match mi ρ with | .ok ds => forGo mb T ds ρ | .exc c => .ex c ρ | .bad => .bad) → tFor (rdI cv W mi) (fun v σ H Q => ∃ F1, rdGB cv T ⟨F1, B.2, B.3⟩ v σ H Q) (fun Dn σ H => ∃ F1, rdF cv W ⟨F1, B.2, B.3⟩ mb Dn σ H) Dn σ H := fun Dn σ H F ρ r q => by
    refine ⟨ρ, F, r.rel, ?_⟩
    cases h : mi ρ with
    | exc c => rw [h] at q; exact fun F1 H1 ev => q σ F1 H1 (r.step ev)
    | bad => rw [h] at q; exact q
    | ok ds =>
      rw [h] at q
      intro J F1 H1 ev wk
      have r1 : RelB cv B ρ σ F1 H1 := r.step ev
      have r1' : RelB cv ⟨F1, B.2, B.3⟩ ρ σ F1 H1 := RelB.top (Z := B.3) (F0 := B.1) (H0 := B.2) r1 r1.evo.ex (Evl.Ex.refl _)
      refine ⟨fun i m σ' H' => i ≤ ds.length ∧ m = ds.length - i ∧ ∃ ρ' F', RelB cv ⟨F1, B.2, B.3⟩ ρ' σ' F' H' ∧ GotF cv W ⟨F1, B.2, B.3⟩ Dn (forGo mb T (ds.drop i) ρ'), ⟨ds.length, Nat.zero_le _, rfl, ρ, F1, r1', ?_⟩, fun i m σ' H' ⟨hi, hm, ρ', F', r', q'⟩ => ?_⟩
      · rw [List.drop_zero]
        exact GotF.base (F0 := B.1) (H0 := B.2) r1.evo q
      · by_cases he : i = ds.length
        · subst he
          rw [List.drop_length] at q'
          exact .inl ⟨wk.stop H' (r'.evo.ex.trans r'.evo.le), q' σ' F' H' r'⟩
        · right
          have hlt : i < ds.length := by omega
          refine ⟨wk.go i H' (r'.evo.ex.trans r'.evo.le) hlt, fun σ2 H2 => ∃ ρ2 F2, RelB cv ⟨F1, B.2, B.3⟩ ρ2 σ2 F2 H2 ∧ GotF cv W ⟨F1, B.2, B.3⟩ Dn (forGo mb T (ds.drop (i + 1)) ρ2), fun σ2 H2 hn => ⟨ds.length - (i + 1), by omega, by omega, rfl, hn⟩, fun x H2 hy => ?_⟩
          obtain ⟨F2, d, hd, ev2, hdr⟩ := wk.yld i H' F' r'.evo.ex r'.evo.le hlt x H2 hy
          have hdrop : ds.drop i = d :: ds.drop (i + 1) := by
            rw [List.drop_eq_getElem_cons hlt]
            have : ds[i] = d := by rw [List.getElem?_eq_getElem hlt] at hd; exact Option.some.inj hd
            rw [this]
          rw [hdrop] at q'
          unfold forGo at q'
          cases hb : bindT T d ρ' with
          | none => rw [hb] at q'; exact q'.elim
          | some ρ2 =>
            rw [hb] at q'
            refine ⟨F1, d, ρ', F2, r'.step ev2, hdr, ρ2, hb, fun σ2 r2 => ⟨F1, ρ2, F2, r2, ?_⟩⟩
            refine GotF.ends (k := forGo mb T (ds.drop (i + 1))) (Dn := Dn) ?_ ?_ q'
            case refine_2 => rfl
            exact fun ρ3 σ3 F3 H3 r3 q3 => ⟨ρ3, F3, r3, q3⟩
  refine (ps_for (tg := tg) hp hc hi (g := fun v σ H Q => ∃ F1, rdGB cv T ⟨F1, B.2, B.3⟩ v σ H Q) ⟨fun pins s σ H v u Q I r ⟨F1, hw⟩ => (hg ⟨F1, B.2, B.3⟩).run pins s σ H v u Q I r hw⟩ (tb := fun Dn σ H => ∃ F1, rdF cv W ⟨F1, B.2, B.3⟩ mb Dn σ H) ⟨fun pins s σ H D I ⟨F1, hw⟩ => (hb ⟨F1, B.2, B.3⟩).run pins s σ H D I hw⟩ hs).run pins s σ H Dn I ?_
  exact main Dn σ H F _ r q
set_option exponentiation.threshold 30000 in
theorem js_while (hp : PassesOwn (model X.prog X.w) X.A X.env X.xe) (hc : JT X cv W c mc) (hb : JFs X cv W body mb) : JF X cv W (.While c body [] pos) (sWhile lk mc mb) := fun B =>
  PS.imp (ps_while hp hc (hb B)) fun Dn σ H ⟨ρ0, F0, r0, q⟩ => by
    refine ⟨fun m σ' H' => ∃ ρ F, RelB cv B ρ σ' F H' ∧ GotF cv W B Dn (whGo lk mc mb m ρ), ⟨fuel, ρ0, F0, r0, q⟩, fun m σ' H' ⟨ρ, F, r, q⟩ => ?_⟩
    cases m with
    | zero => exact q.elim
    | succ m =>
      obtain ⟨F1, r1⟩ := RelB.frz (lk := lk) r
      refine ⟨frz ρ lk, F1, r1.rel, ?_⟩
      unfold whGo at q
      cases h : mc (frz ρ lk) with
      | ok d =>
        rw [h] at q
        simp only [Res.fl_ok] at q
        cases hk : truth d with
        | none => rw [hk] at q; exact q.elim
        | some k =>
          rw [hk] at q
          refine ⟨k, hk, fun F2 H2 ev => ?_⟩
          cases k with
          | true =>
            rw [if_pos rfl]
            refine ⟨fun σ3 H3 => ∃ ρ3 F3, RelB cv B ρ3 σ3 F3 H3 ∧ GotF cv W B Dn (whGo lk mc mb m ρ3), fun σ3 H3 hn => ⟨m, Nat.lt_succ_self m, hn⟩, frz ρ lk, F2, r1.step ev, ?_⟩
            refine GotF.ends (k := whGo lk mc mb m) (Dn := Dn) ?_ ?_ q
            case refine_2 => rfl
            exact fun ρ3 σ3 F3 H3 r3 q3 => ⟨ρ3, F3, r3, q3⟩
          | false =>
            rw [if_neg (by simp)]
            exact q σ' F2 H2 (r1.step ev)
      | new ds => rw [h] at q; exact q.elim
      | exc c => rw [h] at q; exact fun F2 H2 ev => q σ' F2 H2 (r1.step ev)
      | bad => rw [h] at q; exact q
/-! ### y = [..] on one line -/
theorem js_comp {i : Nat} {y : Str} {py spos : Pos} {elt : Expr} {ifs : List Expr} {scope : Scope} {own : List (Str × Nat)} {me : Sm} {oc : Option Sm} (hc : X.calm = true) (hN : X.N.Nodup) (hy : X.N[i]? = some y) (hyl : X.env.scope.names.lookup y = some .local)
    (hsw : swapsWith (.ListComp elt [⟨tg, iter, ifs, 0⟩] scope pos) (some (.Name y py)) spos.line X.env = pure true) (hi : JI X cv W tg iter mi) (ok : BlkOk X.N X.env.scope scope own) (hg : BlkG X cv scope tg T) (ht : BlkC X cv scope ifs oc) (he : BlkE X cv scope elt me) (hT : ∀ i ∈ T.slots, i ∈ own.map (·.2)) (hs : ∀ x, foldedSetIterable iter X.env x = pure x) :
    JF X cv W (.Assign [.Name y py] (.ListComp elt [⟨tg, iter, ifs, 0⟩] scope pos) spos) (sSet i lk (eComp mi T (own.map (·.2)) oc me)) := fun B =>
  PS.imp (ps_setLc hc hN hy hyl hsw hi ok hg (fun s H C cl fp => ht.pts s H C cl fp) he hs) fun Dn σ H ⟨ρ0, F0, r0, q⟩ => by
    obtain ⟨F, r⟩ := RelB.frz (lk := lk) r0
    exact rd_comp hT (rd_st r q (fun d v F1 H1 ev hd q => q _ F1 H1 ((r.step ev).fr i hd)) fun ds p xs F1 H1 ev h1 h2 h3 h4 q => q _ F1 H1 ((r.step ev).ow i h2 h3 (none_back r.evo.hx h1) h4 fun j es e _ => new_apart r h1 ev j es e))
end
end U
set_option Elab.async false
set_option linter.all false
set_option maxRecDepth 100000
set_option maxHeartbeats 4000000
namespace U
open PySem PySem.Spec PyProof.Rows L2
/-! ### raise -/
def sRaise (c : Nat) : Ss := fun ρ => .ex c ρ
/-- an own exception class over ValueError, without methods -/
structure ExC (K : PySem.W.Frag) (mg : Str → Option Value) (x : Str) (C : Addr) : Prop where
  gl : mg x = some (.ref C)
  ex : PySem.W.excIn K C [.type "ValueError", .type "Exception", .type "BaseException", .type "object"] "ValueError.__new__" = true
  kp : PySem.W.keepIn K (.ref C) = true
  sb : PySem.W.subIn K (.ref C) (.type "BaseException") = some true
  ty : PySem.W.typeIn K (.ref C) = some (.type "type")
section
variable {X : Cx} {cv : Nat → Value} {W : WX} {a b e tg iter : Expr} {st : Stmt} {rest body : List Stmt} {m ma mb mc : Sm} {lk : List Nat} {pos p p2 : Pos}
theorem js_raise {x t : Str} {C : Addr} {c j : Nat} {p3 : Pos} (hc : X.calm = true) (tk : Takes X W) (E : ExC X.K X.mg x C) (hcv : cv c = .ref C) (hg : Gl X x) (hdb : (x == ("__debug__" : Str)) = false) : JF X cv W (.Raise (some (.Call (.Name x p) [.Constant (.str t) j p2] [] p3)) none pos) (sRaise c) := fun B =>
  PS.imp (ps_raise hc tk (pmk_own PySem.F.excBase_ValueError E.ex E.gl E.kp (raises_own E.sb E.ty) hg hdb)) fun Dn σ H ⟨ρ, F, r, q⟩ => by
    have := q σ F H r
    rw [hcv] at this
    exact this
/-! ### a, b = e1, e2 -/
def sPar2 (i j : Nat) (lk : List Nat) (ma mb : Sm) : Ss := fun ρ0 => let ρ := frz ρ0 lk
  (ma ρ).fl ρ (fun x => (mb ρ).fl ρ (fun y => .nx ((ρ.set i (.fr x)).set j (.fr y))) (fun ys => .nx ((ρ.set i (.fr x)).set j (.ow ys))))
    (fun xs => (mb ρ).fl ρ (fun y => .nx ((ρ.set i (.ow xs)).set j (.fr y))) (fun ys => .nx ((ρ.set i (.ow xs)).set j (.ow ys))))
theorem js_par2 {i j : Nat} {x y : Str} {px py pt : Pos} {kt k2 : Nat} {pt2 : Pos} (hc : X.calm = true) (hN : X.N.Nodup) (hi : X.N[i]? = some x) (hj : X.N[j]? = some y) (hij : i ≠ j) (hx : X.env.scope.names.lookup x = some .local) (hy : X.env.scope.names.lookup y = some .local)
    (ha : JE X cv W a ma) (hb : JE X cv W b mb) (h1 : notStar a = true) (h2 : notStar b = true) (hw : swappedStores [.Tuple [.Name x px, .Name y py] kt pt] (.Tuple [a, b] k2 pt2) X.env = pure (some [x, y])) :
    JF X cv W (.Assign [.Tuple [.Name x px, .Name y py] kt pt] (.Tuple [a, b] k2 pt2) pos) (sPar2 i j lk ma mb) := fun B =>
  PS.imp (ps_par hc hN hi hj hij hx hy (pa_cons ha (pa_cons hb pa_nil (star_cons h2)) (star_cons h1)) hw rfl) fun Dn σ H ⟨ρ0, F0, r0, q⟩ => by
    obtain ⟨F, r⟩ := RelB.frz (lk := lk) r0
    unfold sPar2 at q
    simp only at q
    refine rd_st r q (fun d v F1 H1 ev hd q => ?_) fun ds p xs F1 H1 ev h1 h2 h3 h4 q => ?_
    · refine rd_st (r.step ev) q (fun d2 v2 F2 H2 ev2 hd2 q => ?_) fun ds p xs F2 H2 ev2 h1 h2 h3 h4 q => ?_
      · exact ⟨v, v2, rfl, q _ F2 H2 ((((r.step ev).step ev2).fr i (dp_mono ev2.ex hd)).fr j hd2)⟩
      · have r2 := (r.step ev).step ev2
        refine ⟨v, .ref p, rfl, q _ F2 H2 ((r2.fr i (dp_mono ev2.ex hd)).ow j h2 h3 (none_back (r.step ev).evo.hx h1) h4 fun k es e hk => ?_)⟩
        rw [set_get] at e ⊢
        split at e
        · cases e; simp
        · rename_i hz
          rw [if_neg (by rw [← r.rel.len]; exact hz)]
          exact new_apart (r.step ev) h1 ev2 k es e
    · refine rd_st (r.step ev) q (fun d2 v2 F2 H2 ev2 hd2 q => ?_) fun es p2 ys F2 H2 ev2 k1 k2 k3 k4 q => ?_
      · have r2 := (r.step ev).step ev2
        exact ⟨.ref p, v2, rfl, q _ F2 H2 ((r2.ow i (own_not ev2 h2 h3) (ev2.hx _ _ h3) (none_back r.evo.hx h1) (dps_mono ev2.ex h4) fun k es e _ => new_apart r h1 (ev.trans ev2) k es e).fr j hd2)⟩
      · have r2 := (r.step ev).step ev2
        have r3 := r2.ow i (own_not ev2 h2 h3) (ev2.hx _ _ h3) (none_back r.evo.hx h1) (dps_mono ev2.ex h4) fun k es e _ => new_apart r h1 (ev.trans ev2) k es e
        refine ⟨.ref p, .ref p2, rfl, q _ F2 H2 (r3.ow j k2 k3 (none_back (r.step ev).evo.hx k1) k4 fun k es' e hk => ?_)⟩
        rw [set_get] at e ⊢
        split at e
        · rename_i hz
          rw [if_pos ⟨hz.1, by rw [← r.rel.len]; exact hz.2⟩]
          cases e
          intro z
          have z' : p2 = p := by simpa using z
          subst z'
          rw [h3] at k1; cases k1
        · rename_i hz
          rw [if_neg (by rw [← r.rel.len]; exact hz)]
          exact new_apart (r.step ev) k1 ev2 k es' e
/-! ### a, b, c = e1, e2, e3 (shared data alone) -/
def sPar3 (i j l : Nat) (lk : List Nat) (ms : List Sm) : Ss := fun ρ0 => let ρ := frz ρ0 lk
  match evs ms ρ with
  | .ok [x, y, z] => .nx (((ρ.set i (.fr x)).set j (.fr y)).set l (.fr z))
  | .ok _ => .bad
  | .exc c => .ex c ρ
  | .bad => .bad
theorem js_par3 {i j l : Nat} {x y z : Str} {px py pz pt : Pos} {kt k2 : Nat} {pt2 : Pos} {c : Expr} {ms : List Sm} (hc : X.calm = true) (hN : X.N.Nodup) (hi : X.N[i]? = some x) (hj : X.N[j]? = some y) (hl : X.N[l]? = some z) (hij : i ≠ j) (hil : i ≠ l) (hjl : j ≠ l) (hx : X.env.scope.names.lookup x = some .local) (hy : X.env.scope.names.lookup y = some .local) (hz : X.env.scope.names.lookup z = some .local)
    (ha : JA X cv W [a, b, c] ms) (hw : swappedStores [.Tuple [.Name x px, .Name y py, .Name z pz] kt pt] (.Tuple [a, b, c] k2 pt2) X.env = pure (some [x, y, z])) :
    JF X cv W (.Assign [.Tuple [.Name x px, .Name y py, .Name z pz] kt pt] (.Tuple [a, b, c] k2 pt2) pos) (sPar3 i j l lk ms) := fun B =>
  PS.imp (ps_par3 hc hN hi hj hl hij hil hjl hx hy hz ha hw rfl) fun Dn σ H ⟨ρ0, F0, r0, q⟩ => by
    obtain ⟨F, r⟩ := RelB.frz (lk := lk) r0
    unfold sPar3 at q
    simp only at q
    refine ⟨_, F, r.rel, ?_⟩
    cases h : evs ms (frz ρ0 lk) with
    | ok ds =>
      rw [h] at q
      intro vs F1 H1 ev hd
      match ds, hd, q with
      | [d1, d2, d3], .cons h1 (.cons h2 (.cons h3 .nil)), q => exact ⟨_, _, _, rfl, q _ F1 H1 ((((r.step ev).fr i h1).fr j h2).fr l h3)⟩
      | [], _, q => exact q.elim
      | [_], _, q => exact q.elim
      | [_, _], _, q => exact q.elim
      | _ :: _ :: _ :: _ :: _, _, q => exact q.elim
    | exc c => rw [h] at q; exact fun F1 H1 ev => q σ F1 H1 (r.step ev)
    | bad => rw [h] at q; exact q
/-! ### x[i], x[j] = e1, e2 -/
/-! ### x += e on texts and ints -/
def sAug (i : Nat) (lk : List Nat) (m : Sm) : Ss := fun ρ0 => let ρ := frz ρ0 lk
  match ρ[i]? with
  | some (.fr d) => (m ρ).fl ρ (fun y => match d, y with
      | .int a, .int b => .nx (ρ.set i (.fr (.int (a + b))))
      | .str a, .str b => if a.length + b.length ≤ 100000 then .nx (ρ.set i (.fr (.str (a ++ b)))) else .bad
      | _, _ => .bad) (fun _ => .bad)
  | _ => .bad
theorem ip_any : PIp X .Add (fun x y H Q => (∃ i j, x = .int i ∧ y = .int j ∧ Q (.int (i + j)) H) ∨ ∃ i j, x = .str i ∧ y = .str j ∧ i.length + j.length ≤ sizeLine ∧ Q (.str (i ++ j)) H) := fun pins s σ H x y v u Q I rx ry h => by
  rcases h with h | h
  · exact iop_add pins s σ H x y v u Q I rx ry h
  · exact iop_add_str pins s σ H x y v u Q I rx ry h
theorem js_aug {i : Nat} {x : Str} (hN : X.N.Nodup) (hi : X.N[i]? = some x) (hx : Loc X.env.scope x) (he : JE X cv W e m) (hf : X.fn x = true ∨ X.env.scope.names.lookup x = some .local) : JF X cv W (.AugAssign (.Name x p) .Add e pos) (sAug i lk m) := fun B =>
  PS.imp (ps_aug hN hi hx he ip_any hf) fun Dn σ H ⟨ρ0, F0, r0, q⟩ => by
    obtain ⟨F, r⟩ := RelB.frz (lk := lk) r0
    unfold sAug at q
    simp only at q
    cases h : (frz ρ0 lk)[i]? with
    | none => rw [h] at q; exact q.elim
    | some c =>
      rw [h] at q
      cases c with
      | un => exact q.elim
      | ow d => exact q.elim
      | ob k fs => exact q.elim
      | ro k fs => exact q.elim
      | fr d =>
        obtain ⟨v, e1, e2⟩ := r.rel.cell i _ h
        refine ⟨v, e1, rd_st r q (fun d2 v2 F1 H1 ev hd q => ?_) fun ds p xs F1 H1 ev h1 h2 h3 h4 q => q.elim⟩
        cases e2 <;> try exact q.elim
        · cases hd <;> try exact q.elim
          exact .inl ⟨_, _, rfl, rfl, q _ F1 H1 ((r.step ev).fr i (.int _))⟩
        · cases hd <;> try exact q.elim
          simp only at q
          split at q
          · rename_i hz
            exact .inr ⟨_, _, rfl, rfl, Evl.sz_of hz, q _ F1 H1 ((r.step ev).fr i (.str _))⟩
          · exact q.elim
end
end U
set_option Elab.async false
set_option linter.all false
set_option maxRecDepth 100000
set_option maxHeartbeats 4000000
namespace U
open PySem PySem.Spec PyProof.Rows L2
/-! ### try .. except X as n (several clauses) -/
abbrev Hd := Value × Nat × (Addr → Value → Option Addr → TS)
def ends' (i : Nat) (D : Ends) : Ends := { nx := fun σ' H' => D.nx (σ'.set i none) H', rt := D.rt, bk := fun σ' H' => D.bk (σ'.set i none) H', ct := fun σ' H' => D.ct (σ'.set i none) H' }
def wAll (K : PySem.W.Frag) (Wout : WX) (D : Ends) : List Hd → WX
  | [] => Wout
  | (c, i, ts) :: r => fun cls d σ H => ∃ b, PySem.W.exmOne K cls c = some b ∧ (b = true → ∀ a, H a = none → ts a cls d (ends' i D) (σ.set i (some (.ref a))) H) ∧ (b = false → wAll K Wout D r cls d σ H)
inductive HdsAs (X : Cx) : List ExceptHandler → List Hd → Prop
  | nil : HdsAs X [] []
  | cons {x n : Str} {c : Value} {i : Nat} {ts : Addr → Value → Option Addr → TS} {b₀ : Stmt} {suite : List Stmt} {np pos' : Pos} {hds : List ExceptHandler} {l : List Hd} (hc : Names X x c) (hi : X.N[i]? = some n) (hln : X.env.kindOf n = some .local)
      (hsu : ∀ (a : Addr) (oe : Obj) (cls : Value) (d : Option Addr) (pn : List (Addr × Obj)), Zc cls d oe → (∃ vs, oe.data = .fields vs) → PSs (X.suite a ((a, oe) :: pn)) (b₀ :: suite) (ts a cls d)) (r : HdsAs X hds l) :
      HdsAs X (.ExceptHandler (some (.Name x np)) (some n) (b₀ :: suite) pos' :: hds) ((c, i, ts) :: l)
theorem ps_try_all {X : Cx} {body : List Stmt} {h₀ : ExceptHandler} {hds : List ExceptHandler} {l : List Hd} {pos : Pos} {tb : WX → TS} {Wout : WX} (hs : X.stack = X.env :: X.outer) (hf : X.env.frame = some X.env.locals) (hN : X.N.Nodup) (tk : Takes X Wout)
    (hb : ∀ (W : WX) (pn : List (Addr × Obj)) (xe : Value → Shared → Prop), Takes (X.tr pn xe) W → PassesOwn (model X.prog X.w) X.A X.env xe → PSs (X.tr pn xe) body (tb W)) (hh : HdsAs X (h₀ :: hds) l) : PS X (.Try body (h₀ :: hds) [] [] pos) (fun D σ H => tb (wAll X.K Wout D l) D σ H) := by
  refine ⟨fun pins s σ H D I h => ?_⟩
  have ok := I.ok
  have hfr : X.A.frames = some (X.env :: X.outer) := by rw [ok.frames, hs]
  refine wpAny_Try_except ?_
  refine wpAny_mono ((hb (wAll X.K Wout D l) (X.pn ++ pins) (fun e s₁ => wpAny (model X.prog X.w) X.A (noteFrame e X.env) (fun _ s₂ => wpAny (model X.prog X.w) X.A (setFlight e none) (fun _ s₃ =>
    wpAny (model X.prog X.w) X.A (handleBy e X.env (h₀ :: hds)) (SP X pins D) X.xe s₃) X.xe s₂) X.xe s₁) (fun u s' xx => ?_) PassesOwn.looking).run [] s σ H D (I.toTry _) h) (fun f s1 hsp => ?_) (fun e s1 he => he)
  · obtain ⟨a, B, sI, pins', σ', H', cls, d, rfl, J', nb, up, sky, na, os, ag, w⟩ := xx
    have J : Inv X pins σ' H' sI := J'.ofTry ok
    have sky' : Sky B (X.env :: X.outer) a (Zc cls d) X.env.locals s'.heap := by rw [← hs]; exact sky
    show wpAny (model X.prog X.w) X.A (noteFrame (.ref a) X.env) _ _ _
    refine Sky.land Zc.steady hfr hf sky' fun h3 fl3 up3 => ?_
    have J3 : Inv X pins σ' H' { s' with heap := h3 } := J.landed nb fl3.1 (up.trans up3) os ag
    obtain ⟨oe3, vs3, he3, hz3, hd3⟩ := fl3.there
    have nfr : a ∉ frs (X.env :: X.outer) := fun hm => by
      obtain ⟨_, o', e', hnf⟩ := fl3.2.2.1.mem hm
      rw [he3] at e'; cases e'
      exact hnf _ hd3
    have nL : a ≠ X.env.locals := fun z => nfr (List.mem_filterMap.mpr ⟨X.env, List.mem_cons_self, by rw [hf, z]⟩)
    have nF : a ∉ X.fs := fun hm => by
      obtain ⟨e, he, q⟩ := List.mem_filterMap.mp hm
      exact nfr (List.mem_filterMap.mpr ⟨e, List.mem_cons_of_mem _ he, q⟩)
    have S3 := J3.suite he3 hd3 na nL nF
    have go : ∀ {hds' : List ExceptHandler} {l' : List Hd}, HdsAs X hds' l' → wAll X.K Wout D l' cls d σ' H' → wpAny (model X.prog X.w) X.A (handleBy (.ref a) X.env hds') (SP X pins D) X.xe { s' with heap := h3 } := by
      intro hds' l' hk
      induction hk with
      | nil =>
        intro w
        refine wpAny_handleBy_nil ?_
        obtain ⟨k1, k2, k3, oe, vs, T, oT, ts', he, hz, hd, h1, hr⟩ := id fl3
        unfold PySem.passOn
        refine wpAny_bind (wpAny_field he hd h1 ?_)
        rw [if_neg (show ¬ ((Value.ref T == Value.none) = true) from by simp)]
        have fin : wpAny (model X.prog X.w) X.A (setFlight (.ref a) X.env.frame) (fun _ s4 => wpAny (model X.prog X.w) X.A (throw (.ref a) : Sem Flow) (SP X pins D) X.xe s4) X.xe { s' with heap := h3 } := by
          rw [hf]
          refine HandSPX.setFlight_upZ fl3 fun h4 hh4 up4 => wpAny_throw (tk _ _ ?_)
          exact ⟨a, B, sI, pins, σ', H', cls, d, rfl, J, nb, (up.trans up3).trans up4, .inr (.inr (by rw [hs]; exact hh4)), na, os, ag, w⟩
        first
          | exact wpAny_bind (wpAny_pure (wpAny_bind fin))
          | exact wpAny_bind fin
      | @cons x n c i ts b₀ suite np pos' hds2 l2 hc hi hln hsu r ih =>
        intro w
        obtain ⟨b, hb1, hyes, hno⟩ := w
        refine wpAny_handleBy_cons (codeAny_handlers_test ?_) (by intro q; cases q)
        have LT : PySem.W.Looks (model X.prog X.w) h3 (typeOf (.ref a)) cls := fun A Q E s k q => wpAny_typeOf_ref (k _ _ he3) (by rw [hz3.1]; exact q)
        have LM := PySem.W.exm_one (M := model X.prog X.w) (J3.kIn) LT hb1
        have test : ∀ {Q : Value → Shared → Prop} {E : Value → Shared → Prop}, Q c { s' with heap := h3 } → wpAny (model X.prog X.w) (X.A.mark (some (.ref a))) (eval (.Name x np) X.env) Q E { s' with heap := h3 } := fun {Q E} q => by
          obtain ⟨hg, hdbg, hm | ⟨hm, hv, hnn⟩⟩ := hc
          · exact ld_glob (X := X.suite a ((a, oe3) :: (X.pn ++ pins))) S3 hg hm q hdbg
          · exact ld_blt (X := X.suite a ((a, oe3) :: (X.pn ++ pins))) S3 hg hm hv q hnn hdbg
        refine test (LM.here ?_)
        cases b with
        | true =>
          refine codeAny_handlers_suite_as ?_
          refine HandSPX.lands_againZ fl3 fun h4 fl4 up4 => ?_
          have J4 : Inv X pins σ' H' { s' with heap := h4 } := J.landed nb fl4.1 ((up.trans up3).trans up4) os ag
          obtain ⟨oe4, vs4, he4, hz4, hd4⟩ := fl4.there
          have S4 := J4.suite he4 hd4 na nL nF
          refine store_ok (X := X.suite a ((a, oe4) :: (X.pn ++ pins))) (v := .ref a) S4 hN hi (.inl hln) rfl (fun s5 S5 => ?_) (.inr hln)
          refine wpAny_mono ((hsu a oe4 cls d (X.pn ++ pins) hz4 ⟨_, hd4⟩).run [] s5 _ H' _ S5 (hyes rfl a na)) (fun f s6 hsp => ?_) (fun _ _ z => False.elim z)
          have end_ : ∀ {σ6 : L2.St} {H6 : Hp} {Q : Shared → Prop}, Inv (X.suite a ((a, oe4) :: (X.pn ++ pins))) [] σ6 H6 s6 → (∀ s7, Inv X pins (σ6.set i none) H6 s7 → Q s7) →
              wpAny (model X.prog X.w) X.A (do bindName X.env n .none; unbindBehindTheSuite X.env n pos') (fun _ s7 => Q s7) X.xe s6 := fun {σ6 H6 Q} S6 hq => gone_ok (S6.unsuite ok) hN hi hln hq
          cases f with
          | next =>
            obtain ⟨σ6, H6, S6, q6⟩ := hsp
            exact end_ S6 fun s7 J7 => ⟨_, _, J7, q6⟩
          | brk =>
            obtain ⟨σ6, H6, S6, q6⟩ := hsp
            exact end_ S6 fun s7 J7 => ⟨_, _, J7, q6⟩
          | cont =>
            obtain ⟨σ6, H6, S6, q6⟩ := hsp
            exact end_ S6 fun s7 J7 => ⟨_, _, J7, q6⟩
          | ret u =>
            obtain ⟨v6, σ6, H6, S6, r6, q6⟩ := hsp
            exact end_ S6 fun s7 J7 => ⟨_, _, _, J7, r6, q6⟩
        | false =>
          show wpAny _ X.A (handleBy (.ref a) X.env hds2) _ _ _
          exact ih (hno rfl)
    exact go hh w
  · cases f with
    | next =>
      obtain ⟨σ', H', J', q⟩ := hsp
      exact wpAny_execs_nil ⟨σ', H', J'.ofTry ok, q⟩
    | brk =>
      obtain ⟨σ', H', J', q⟩ := hsp
      exact ⟨σ', H', J'.ofTry ok, q⟩
    | cont =>
      obtain ⟨σ', H', J', q⟩ := hsp
      exact ⟨σ', H', J'.ofTry ok, q⟩
    | ret u =>
      obtain ⟨v, σ', H', J', r, q⟩ := hsp
      exact ⟨v, σ', H', J'.ofTry ok, r, q⟩
/-! ### expressions of a suite: what they are worth for the class of the error -/
/-- the value of a suite's expression by the class of the error -/
abbrev Xm := Nat → Option V
def xC (v : V) : Xm := fun _ => some v
def xIs (sub : Nat → Nat → Bool) (k : Nat) : Xm := fun c => some (.bl (sub c k))
def xAnd (a b : Xm) : Xm := fun c => (a c).bind fun v => match v with
  | .bl true => b c
  | .bl false => some (.bl false)
  | _ => none
def xNot (a : Xm) : Xm := fun c => (a c).bind fun v => match v with
  | .bl b => some (.bl (!b))
  | _ => none
def xIf (t a b : Xm) : Xm := fun c => (t c).bind fun v => match v with
  | .bl true => a c
  | .bl false => b c
  | _ => none
/-- the classes of the text: their values, who is below whom -/
structure Clss (K : PySem.W.Frag) (cv : Nat → Value) (sub : Nat → Nat → Bool) (n : List Nat) : Prop where
  at_ : ∀ c, c ∈ n → ∃ C, cv c = .ref C ∧ ExcC K C
  is : ∀ c k, c ∈ n → k ∈ n → PySem.W.kitOne K (cv c) (cv k) = some (sub c k) ∧ PySem.W.exmOne K (cv c) (cv k) = some (sub c k)
def rdX (m : Xm) (c i : Nat) (a : Addr) : TE := fun σ H Q => σ[i]? = some (some (.ref a)) ∧ ∃ v, m c = some v ∧ Q v H
def rdXT (m : Xm) (c i : Nat) (a : Addr) : TT := fun σ H Q => σ[i]? = some (some (.ref a)) ∧ ∃ b, m c = some (.bl b) ∧ Q b H
/-- in the suite of an error of the class c at the address a, held by slot i -/
def JX (X : Cx) (cv : Nat → Value) (n : List Nat) (i : Nat) (e : Expr) (m : Xm) : Prop := ∀ (a : Addr) (oe : Obj) (c : Nat) (pn : List (Addr × Obj)), c ∈ n → Zc (cv c) none oe → (∃ vs, oe.data = .fields vs) → PE (X.suite a ((a, oe) :: pn)) e (rdX m c i a)
def JXT (X : Cx) (cv : Nat → Value) (n : List Nat) (i : Nat) (e : Expr) (m : Xm) : Prop := ∀ (a : Addr) (oe : Obj) (c : Nat) (pn : List (Addr × Obj)), c ∈ n → Zc (cv c) none oe → (∃ vs, oe.data = .fields vs) → PT (X.suite a ((a, oe) :: pn)) e (rdXT m c i a)
def JXP (X : Cx) (cv : Nat → Value) (n : List Nat) (i : Nat) (e : Expr) (m : Xm) : Prop := ∀ (a : Addr) (oe : Obj) (c : Nat) (pn : List (Addr × Obj)), c ∈ n → Zc (cv c) none oe → (∃ vs, oe.data = .fields vs) → PW (X.suite a ((a, oe) :: pn)) e (rdXT m c i a)
section
variable {X : Cx} {cv : Nat → Value} {sub : Nat → Nat → Bool} {n : List Nat} {i : Nat} {e a b t : Expr} {ma mb mt m : Xm} {pos p p2 : Pos}
theorem jx_c {v : V} (h : ∀ Y : Cx, PE Y e (tC v)) : JX X cv n i e (xC v) := fun a oe c pn hc hz hf => PE.imp (h _) fun σ H Q ⟨hs, w, hw, q⟩ => by cases hw; exact q
theorem jx_is {x y : Str} {k : Nat} {py : Pos} (C : Clss X.K cv sub n) (hk : k ∈ n) (hN : X.N[i]? = some x) (hv : Vis X.env.scope x) (hd : (x == ("__debug__" : Str)) = false) (hcd : (x == ("__classdict__" : Str)) = false) (hg : Gl X "isinstance") (hm : X.mg "isinstance" = none) (hgy : Gl X y) (hmy : X.mg y = some (cv k)) (hdy : (y == ("__debug__" : Str)) = false) :
    JX X cv n i (.Call (.Name "isinstance" p) [.Name x p2, .Name y py] [] pos) (xIs sub k) := fun a oe c pn hc hz hf => by
  obtain ⟨D, hD, hE⟩ := C.at_ c hc
  obtain ⟨K', hK, _⟩ := C.at_ k hk
  rw [hD] at hz
  have PX : PE (X.suite a ((a, oe) :: pn)) (.Name x p2) (tVar i) := pe_var (X := X.suite a ((a, oe) :: pn)) hN hv hd hcd
  have PY : PE (X.suite a ((a, oe) :: pn)) (.Name y py) (tC (.ref K')) := pe_glob (X := X.suite a ((a, oe) :: pn)) hgy (by rw [← hK]; exact hmy) rfl hdy
  refine PE.imp (pe_callB (X := X.suite a ((a, oe) :: pn)) (call_isE hE hz hf) hg hm (by decide +kernel) (pa_cons PX (pa_cons PY pa_nil)) (by decide) (by decide)) fun σ H Q ⟨hs, v, hv, q⟩ => ?_
  cases hv
  refine ⟨_, hs, _, .ref K', sub c k, rfl, fun u r => r, ?_, q⟩
  have := (C.is c k hc hk).1
  rw [hD, hK] at this
  exact this
theorem jxt_val (h : JX X cv n i e m) (he : ∀ env whole, isTrue e env whole = (do let v ← whole; standAt e.pos; holding [v] (truthy v))) : JXT X cv n i e m := fun a oe c pn hc hz hf =>
  PT.imp (pt_val (h a oe c pn hc hz hf) (he _)) fun σ H Q ⟨hs, b, hb, q⟩ => ⟨hs, .bl b, hb, b, rfl, q⟩
theorem jxt_not (h : JXT X cv n i e m) : JXT X cv n i (.UnaryOp .Not e pos) (xNot m) := fun a oe c pn hc hz hf =>
  PT.imp (pt_not (h a oe c pn hc hz hf)) fun σ H Q ⟨hs, b, hb, q⟩ => by
    unfold xNot at hb
    cases hm : m c with
    | none => rw [hm] at hb; cases hb
    | some v =>
      rw [hm] at hb
      cases v <;> cases hb
      exact ⟨hs, _, hm, q⟩
theorem jxp_one (h : JXT X cv n i e m) : JXP X cv n i (.BoolOp .And [e] pos) m := fun a oe c pn hc hz hf => pw_and1 (h a oe c pn hc hz hf)
theorem jxp_and {rest : List Expr} (ha : JXT X cv n i a ma) (hb : JXP X cv n i (.BoolOp .And (b :: rest) pos) mb) : JXP X cv n i (.BoolOp .And (a :: b :: rest) pos) (xAnd ma mb) := fun ad oe c pn hc hz hf =>
  PW.imp (pw_and (ha ad oe c pn hc hz hf) (hb ad oe c pn hc hz hf)) fun σ H Q ⟨hs, k, hk, q⟩ => by
    unfold xAnd at hk
    cases hm : ma c with
    | none => rw [hm] at hk; cases hk
    | some v =>
      rw [hm] at hk
      cases v with
      | bl z =>
        cases z with
        | true => exact ⟨hs, _, hm, hs, k, hk, q⟩
        | false => cases hk; exact ⟨hs, _, hm, q⟩
      | _ => cases hk
theorem jxp_t (h : JXP X cv n i e m) : JXT X cv n i e m := fun a oe c pn hc hz hf => PW.pt (h a oe c pn hc hz hf)
theorem jx_if (ht : JXT X cv n i t mt) (ha : JX X cv n i a ma) (hb : JX X cv n i b mb) : JX X cv n i (.IfExp t a b pos) (xIf mt ma mb) := fun ad oe c pn hc hz hf =>
  PE.imp (pe_ifExp (ht ad oe c pn hc hz hf) (ha ad oe c pn hc hz hf) (hb ad oe c pn hc hz hf)) fun σ H Q ⟨hs, v, hv, q⟩ => by
    unfold xIf at hv
    cases hm : mt c with
    | none => rw [hm] at hv; cases hv
    | some w =>
      rw [hm] at hv
      cases w with
      | bl z =>
        cases z with
        | true => exact ⟨hs, _, hm, hs, v, hv, q⟩
        | false => exact ⟨hs, _, hm, hs, v, hv, q⟩
      | _ => cases hv
end
def vD : V → Option D
  | .non => some .none
  | .bl b => some (.bool b)
  | .int i => some (.int i)
  | .str x => some (.str x)
  | _ => none
theorem vD_dr {v : V} {d : D} (h : vD v = some d) (F : Hp) : Dr F v d := by
  cases v <;> cases h <;> constructor
/-- the clauses: a class, and what its suite returns -/
def hdGo (sub : Nat → Nat → Bool) (n : List Nat) (c : Nat) (ρ : Rho) : List (Nat × Nat × Xm) → Fl
  | [] => .ex c ρ
  | (k, i, m) :: r => if sub c k = true then (match (m c).bind vD with
    | some d => if c ∈ n ∧ i < ρ.length then .rt d else .bad
    | none => .bad) else (if c ∈ n then hdGo sub n c ρ r else .bad)
def sTry (sub : Nat → Nat → Bool) (n : List Nat) (body : Ss) (hs : List (Nat × Nat × Xm)) : Ss := fun ρ => match body ρ with
  | .ex c ρ' => hdGo sub n c ρ' hs
  | f => f
inductive HdsJ (X : Cx) (cv : Nat → Value) (n : List Nat) : List ExceptHandler → List (Nat × Nat × Xm) → Prop
  | nil : HdsJ X cv n [] []
  | cons {x nm : Str} {k i : Nat} {e : Expr} {m : Xm} {np rp pos' : Pos} {hds : List ExceptHandler} {l : List (Nat × Nat × Xm)} (hk : k ∈ n) (hc : Names X x (cv k)) (hi : X.N[i]? = some nm) (hln : X.env.kindOf nm = some .local) (he : JX X cv n i e m) (r : HdsJ X cv n hds l) :
      HdsJ X cv n (.ExceptHandler (some (.Name x np)) (some nm) [.Return (some e) rp] pos' :: hds) ((k, i, m) :: l)
theorem js_try {X : Cx} {cv : Nat → Value} {W : WX} {sub : Nat → Nat → Bool} {n : List Nat} {body : List Stmt} {mb : Ss} {h₀ : ExceptHandler} {hds : List ExceptHandler} {l : List (Nat × Nat × Xm)} {pos : Pos} (hs : X.stack = X.env :: X.outer) (hf : X.env.frame = some X.env.locals) (hN : X.N.Nodup) (tk : Takes X W) (C : Clss X.K cv sub n)
    (hb : ∀ (W : WX) (pn : List (Addr × Obj)) (xe : Value → Shared → Prop), Takes (X.tr pn xe) W → PassesOwn (model X.prog X.w) X.A X.env xe → JFs (X.tr pn xe) cv W body mb) (hh : HdsJ X cv n (h₀ :: hds) l) : JF X cv W (.Try body (h₀ :: hds) [] [] pos) (sTry sub n mb l) := fun B => by
  -- the readings of the suites
  have mk : ∀ {hds : List ExceptHandler} {l : List (Nat × Nat × Xm)}, HdsJ X cv n hds l → ∃ L : List Hd, HdsAs X hds L ∧ ∀ (Dn : Ends) (c : Nat) (ρ : Rho) (σ : L2.St) (F H : Hp), RelB cv B ρ σ F H → c ∈ n → GotF cv W B Dn (hdGo sub n c ρ l) → wAll X.K W Dn L (cv c) none σ H := by
    intro hds l h
    induction h with
    | nil => exact ⟨[], .nil, fun Dn c ρ σ F H r hc q => q σ F H r⟩
    | @cons x nm k i e m np rp pos' hds l hk hc hi hln he _ ih =>
      obtain ⟨L, h1, h2⟩ := ih
      refine ⟨(cv k, i, fun a cls d Dn σ H => ∃ c v, cls = cv c ∧ d = none ∧ c ∈ n ∧ σ[i]? = some (some (.ref a)) ∧ m c = some v ∧ Dn.rt v H) :: L, .cons hc hi hln (fun a oe cls d pn hz hf => ?_) h1, fun Dn c ρ σ F H r hc q => ?_⟩
      · refine ⟨fun pins s σ H Dn I ⟨c, v, e1, e2, hcn, hs, hm, hq⟩ => ?_⟩
        subst e1 e2
        exact (pss_one (ps_ret (he a oe c pn hcn hz hf))).run pins s σ H Dn I ⟨hs, v, hm, hq⟩
      · refine ⟨sub c k, (C.is c k hc hk).2, fun hb a ha => ?_, fun hb => h2 Dn c ρ σ F H r hc ?_⟩
        · unfold hdGo at q
          rw [if_pos hb] at q
          cases hm : m c with
          | none => rw [hm] at q; exact q.elim
          | some v =>
            rw [hm] at q
            simp only [Option.bind_some] at q
            cases hv : vD v with
            | none => rw [hv] at q; exact q.elim
            | some d =>
              rw [hv] at q
              simp only at q
              split at q
              case isFalse => exact q.elim
              rename_i hz
              have hil : i < σ.length := by rw [← r.rel.len]; exact hz.2
              exact ⟨c, v, rfl, rfl, hc, by rw [set_get, if_pos ⟨rfl, hil⟩], hm, q v F H r.evo (vD_dr hv F)⟩
        · unfold hdGo at q
          rw [if_neg (by rw [hb]; simp), if_pos hc] at q
          exact q
  obtain ⟨L, h1, h2⟩ := mk hh
  refine PS.imp (ps_try_all (tb := fun W => rdF cv W B mb) hs hf hN tk (fun W pn xe t po => hb W pn xe t po B) h1) fun Dn σ H ⟨ρ, F, r, q⟩ => ⟨ρ, F, r, ?_⟩
  unfold sTry at q
  cases h : mb ρ with
  | nx ρ' => rw [h] at q; exact q
  | rt d => rw [h] at q; exact q
  | rn d => rw [h] at q; exact q
  | rm d ρ' => rw [h] at q; exact q
  | rb k fs => rw [h] at q; exact q
  | bad => rw [h] at q; exact q
  | ex c ρ' =>
    rw [h] at q
    intro σ' F' H' r'
    by_cases hc : c ∈ n
    · exact h2 Dn c ρ' σ' F' H' r' hc q
    · exfalso
      cases hh with
      | cons =>
        simp only [hdGo, if_neg hc, hc, false_and, if_false] at q
        split at q
        · split at q <;> exact q
        · exact q
end U
set_option Elab.async false
set_option linter.all false
set_option maxRecDepth 100000
set_option maxHeartbeats 4000000
namespace U
open PySem PySem.Spec PyProof.Rows L2
/-! ### the translation: each result carries its proof -/
structure S0 where
  N : List Str
  k : Nat
  fns : List (Str × Nat × (List D → Res))
  cls : List (Str × Nat)
  cst : List (Str × D)
  sub : Nat → Nat → Bool
  nc : List Nat
  ex : Program → World → PySem.W.Frag → (Str → Option Value) → Heap → (Nat → Value) → Prop
structure Gd (S : S0) (cv : Nat → Value) (X : Cx) (W : WX) : Prop where
  nN : X.N = S.N
  nd : X.N.Nodup
  calm : X.calm = true
  room : Room S.k X.A
  tk : Takes X W
  blt : ∀ b ∈ bltNames, X.mg b = none
  fn : ∀ p ∈ S.fns, Fn X cv S.k p.1 p.2.1 p.2.2
  cls : ∀ p ∈ S.cls, ∃ C, cv p.2 = .ref C ∧ ExC X.K X.mg p.1 C
  cst : ∀ p ∈ S.cst, ∃ u v, X.mg p.1 = some u ∧ RelV v u ∧ ∀ F, Dr F v p.2
  ext : S.ex X.prog X.w X.K X.mg X.base cv
variable {S : S0}
def visB (sc : Scope) (x : Str) : Bool := match sc.names.lookup x with
  | some .local => true
  | some .cell => true
  | some .free => true
  | _ => false
theorem vis_of {sc : Scope} {x : Str} (h : visB sc x = true) : Vis sc x := by
  unfold visB at h
  unfold Vis
  split at h <;> simp_all
def locB (sc : Scope) (x : Str) : Bool := match sc.names.lookup x with
  | some .local => true
  | some .cell => true
  | _ => false
theorem loc_of {sc : Scope} {x : Str} (h : locB sc x = true) : L2.Loc sc x := by
  unfold locB at h
  unfold L2.Loc
  split at h <;> simp_all
def isLocB (sc : Scope) (x : Str) : Bool := match sc.names.lookup x with
  | some .local => true
  | _ => false
theorem isLoc_of {sc : Scope} {x : Str} (h : isLocB sc x = true) : sc.names.lookup x = some .local := by
  unfold isLocB at h
  split at h <;> simp_all
def glB (sc : Scope) (x : Str) : Bool := (match sc.names.lookup x with
  | some .globalImplicit => true
  | _ => false) && !(x == ("__debug__" : Str))
theorem gl_of {sc : Scope} {x : Str} (h : glB sc x = true) : sc.names.lookup x = some .globalImplicit ∧ (x == ("__debug__" : Str)) = false := by
  unfold glB at h
  have h' := Bool.and_eq_true_iff.mp h
  refine ⟨?_, by simpa using h'.2⟩
  have := h'.1
  split at this <;> simp_all
def okName (x : Str) : Bool := !(x == ("__debug__" : Str)) && !(x == ("__classdict__" : Str))
theorem okName_of {x : Str} (h : okName x = true) : (x == ("__debug__" : Str)) = false ∧ (x == ("__classdict__" : Str)) = false := by
  have h' := Bool.and_eq_true_iff.mp h
  exact ⟨by simpa using h'.1, by simpa using h'.2⟩
structure OkE (S : S0) (sc : Scope) (e : Expr) where
  m : Sm
  lk : List Nat
  ok : ∀ cv X W, Gd S cv X W → X.env.scope = sc → JE X cv W e m
structure OkW (S : S0) (sc : Scope) (e : Expr) where
  m : Sm
  lk : List Nat
  ok : ∀ cv X W, Gd S cv X W → X.env.scope = sc → JW X cv W e m
structure OkT (S : S0) (sc : Scope) (e : Expr) where
  m : Sm
  lk : List Nat
  ok : ∀ cv X W, Gd S cv X W → X.env.scope = sc → JT X cv W e m
structure OkP (S : S0) (sc : Scope) (e : Expr) where
  m : Sm
  lk : List Nat
  ok : ∀ cv X W, Gd S cv X W → X.env.scope = sc → JP X cv W e m
structure OkA (S : S0) (sc : Scope) (es : List Expr) where
  ms : List Sm
  lk : List Nat
  n : ms.length = es.length
  st : es.all notStar = true
  ok : ∀ cv X W, Gd S cv X W → X.env.scope = sc → JA X cv W es ms
structure OkB (S : S0) (sc : Scope) (es : List Expr) where
  ms : List Sm
  lk : List Nat
  n : ms.length = es.length
  st : es.all notStar = true
  ok : ∀ cv X W, Gd S cv X W → X.env.scope = sc → JB X cv W es ms
structure OkI (S : S0) (sc : Scope) (tg e : Expr) where
  m : SmL
  lk : List Nat
  ok : ∀ cv X W, Gd S cv X W → X.env.scope = sc → JI X cv W tg e m
def OkE.w {sc : Scope} {e : Expr} (r : OkE S sc e) : OkW S sc e := ⟨r.m, r.lk, fun cv X W g h => (r.ok cv X W g h).w⟩
def slotOf (S : S0) (sc : Scope) (x : Str) : Option { i : Nat // S.N[i]? = some x ∧ Vis sc x ∧ (x == ("__debug__" : Str)) = false ∧ (x == ("__classdict__" : Str)) = false } :=
  let i := S.N.findIdx (· == x)
  if h : S.N[i]? = some x ∧ visB sc x = true ∧ okName x = true then some ⟨i, h.1, vis_of h.2.1, okName_of h.2.2⟩ else none
def cName (S : S0) (sc : Scope) (x : Str) (p : Pos) : Option (OkE S sc (.Name x p)) :=
  match slotOf S sc x with
  | some ⟨i, h⟩ => some ⟨eV i, [i], fun cv X W g e => j_var (by rw [g.nN]; exact h.1) (by rw [e]; exact h.2.1) h.2.2.1 h.2.2.2⟩
  | none => match hf : S.cst.find? (fun q => q.1 == x) with
    | some q => if hg : glB sc x = true then some ⟨eC q.2, [], fun cv X W g e => by
        obtain ⟨u, v, h1, h2, h3⟩ := g.cst q (List.mem_of_find?_eq_some hf)
        have hx : q.1 = x := by simpa using List.find?_some hf
        rw [hx] at h1
        exact j_c (pe_glob (by unfold Gl PySem.Env.kindOf; rw [e]; exact (gl_of hg).1) h1 h2 (gl_of hg).2) h3⟩ else none
    | none => none
def wName (S : S0) (sc : Scope) (x : Str) (p : Pos) : Option (OkW S sc (.Name x p)) :=
  match slotOf S sc x with
  | some ⟨i, h⟩ => some ⟨eK i, [], fun cv X W g e => j_pk (by rw [g.nN]; exact h.1) (by rw [e]; exact h.2.1) h.2.2.1 h.2.2.2⟩
  | none => (cName S sc x p).map OkE.w
def cConst (S : S0) (sc : Scope) (c : Const) (j : Nat) (p : Pos) : Option (OkE S sc (.Constant c j p)) := match c with
  | .int i => some ⟨eC (.int i), [], fun cv X W g e => j_c pe_int fun F => .int i⟩
  | .bool b => some ⟨eC (.bool b), [], fun cv X W g e => j_c pe_bl fun F => .bl b⟩
  | .none => some ⟨eC .none, [], fun cv X W g e => j_c pe_non fun F => .non⟩
  | .str x => some ⟨eC (.str x), [], fun cv X W g e => j_c pe_str fun F => .str x⟩
  | _ => none
structure OkOp (op : Operator) where
  g : D → D → Rp
  ok : ∀ X, OpR X (binaryOp op) (rG g)
def opOf : (op : Operator) → Option (OkOp op)
  | .Add => some ⟨gAdd, fun X => o_add⟩
  | .Sub => some ⟨gSub, fun X => o_sub⟩
  | .Mult => some ⟨gMul, fun X => o_mul⟩
  | .FloorDiv => some ⟨gFdiv, fun X => o_fdiv⟩
  | .Mod => some ⟨gMod, fun X => o_mod⟩
  | .Pow => some ⟨gPow, fun X => o_pow⟩
  | _ => none
def IsB (g : D → D → Rp) : Prop := ∀ x y, (∃ b, g x y = .ok (.bool b)) ∨ g x y = .bad
structure OkCmp (op : CmpOp) where
  g : D → D → Rp
  b : IsB g
  ok : ∀ X, X.A.units + 65 < cLine → OpR X (compareOp op) (rG g)
theorem b_lt : IsB gLt := fun x y => by cases x <;> cases y <;> first | exact .inr rfl | exact .inl ⟨_, rfl⟩
theorem b_le : IsB gLe := fun x y => by cases x <;> cases y <;> first | exact .inr rfl | exact .inl ⟨_, rfl⟩
theorem b_gt : IsB gGt := fun x y => by cases x <;> cases y <;> first | exact .inr rfl | exact .inl ⟨_, rfl⟩
theorem b_ge : IsB gGe := fun x y => by cases x <;> cases y <;> first | exact .inr rfl | exact .inl ⟨_, rfl⟩
theorem b_eq : IsB gEq := fun x y => by
  unfold gEq
  split
  · exact .inl ⟨_, rfl⟩
  · split
    · exact .inl ⟨_, rfl⟩
    · exact .inr rfl
theorem b_ne : IsB gNe := fun x y => by
  unfold gNe
  split
  · exact .inl ⟨_, rfl⟩
  · split
    · exact .inl ⟨_, rfl⟩
    · exact .inr rfl
theorem b_is : IsB gIs := fun x y => by cases x <;> cases y <;> first | exact .inr rfl | exact .inl ⟨_, rfl⟩
theorem b_isnot : IsB gIsNot := fun x y => by cases x <;> cases y <;> first | exact .inr rfl | exact .inl ⟨_, rfl⟩
/-! in, not in -/
def inAny (d : D) (ds : List D) : Bool := ds.any fun z => PyData.eqv z d
def gIn : D → D → Rp
  | d, .list ds => if SeqAt.shaped d = true ∧ SeqAt.shaped (.list ds) = true then .ok (.bool (inAny d ds)) else .bad
  | d, .tuple ds => if SeqAt.shaped d = true ∧ SeqAt.shaped (.tuple ds) = true then .ok (.bool (inAny d ds)) else .bad
  | .str x, .str y => .ok (.bool (!(Builtin.Str.occurrences y x 0 y.length 1).isEmpty))
  | _, _ => .bad
def gNotIn : D → D → Rp
  | d, .list ds => if SeqAt.shaped d = true ∧ SeqAt.shaped (.list ds) = true then .ok (.bool (!inAny d ds)) else .bad
  | .str x, .str y => .ok (.bool (!(!(Builtin.Str.occurrences y x 0 y.length 1).isEmpty)))
  | _, _ => .bad
theorem b_in : IsB gIn := fun x y => by
  unfold gIn
  split
  · split
    · exact .inl ⟨_, rfl⟩
    · exact .inr rfl
  · split
    · exact .inl ⟨_, rfl⟩
    · exact .inr rfl
  · exact .inl ⟨_, rfl⟩
  · exact .inr rfl
theorem b_notin : IsB gNotIn := fun x y => by
  unfold gNotIn
  split
  · split
    · exact .inl ⟨_, rfl⟩
    · exact .inr rfl
  · exact .inl ⟨_, rfl⟩
  · exact .inr rfl
theorem o_in {X : Cx} (hu : X.A.units + 65 < cLine) : OpR X (compareOp .In) (rG gIn) := by
  intro pins s σ H x y v u Q I rx ry ⟨F, dx, dy, le, wx, wy, q⟩
  have deep : ∀ ds, dy = .list ds → GotP F H Q (if SeqAt.shaped dx = true ∧ SeqAt.shaped (.list ds) = true then .ok (.bool (inAny dx ds)) else .bad) → wpAny (model X.prog X.w) X.A (compareOp .In v u) (EP X pins σ Q) X.xe s := fun ds e q => by
    subst e
    obtain ⟨⟨h1, h2⟩, q⟩ := if_bad q
    exact op_inD hu pins s σ H x y v u Q I rx ry ⟨dx, ds, (wx.dp le).dp (SeqAt.canLay_of_shaped h1), (wy.dp le).dp (SeqAt.canLay_of_shaped h2), h1, h2, QD.bool le q⟩
  have deepT : ∀ ds, dy = .tuple ds → GotP F H Q (if SeqAt.shaped dx = true ∧ SeqAt.shaped (.tuple ds) = true then .ok (.bool (inAny dx ds)) else .bad) → wpAny (model X.prog X.w) X.A (compareOp .In v u) (EP X pins σ Q) X.xe s := fun ds e q => by
    subst e
    obtain ⟨⟨h1, h2⟩, q⟩ := if_bad q
    obtain ⟨as, r1⟩ := Dp.reads I dx x v ((wx.dp le).dp (SeqAt.canLay_of_shaped h1)) rx
    obtain ⟨bs, r2⟩ := Dp.reads I (.tuple ds) y u ((wy.dp le).dp (SeqAt.canLay_of_shaped h2)) ry
    exact SeqAt.in_tuple_reads r2 r1 (SeqAt.canLay_of_shaped h2) (SeqAt.canLay_of_shaped h1) (room_in_shaped h1 hu) ⟨.bl _, H, I, rfl, QD.bool le q⟩
  cases dy <;> cases dx <;> try exact q.elim
  case str.str => 
    cases wx.str; cases wy.str
    exact op_in_str pins s σ H _ _ v u Q I rx ry ⟨_, _, rfl, rfl, QD.bool le q⟩
  all_goals first | exact deep _ rfl q | exact deepT _ rfl q
theorem o_notin {X : Cx} (hu : X.A.units + 65 < cLine) : OpR X (compareOp .NotIn) (rG gNotIn) := by
  intro pins s σ H x y v u Q I rx ry ⟨F, dx, dy, le, wx, wy, q⟩
  have deep : ∀ ds, dy = .list ds → GotP F H Q (if SeqAt.shaped dx = true ∧ SeqAt.shaped (.list ds) = true then .ok (.bool (!inAny dx ds)) else .bad) → wpAny (model X.prog X.w) X.A (compareOp .NotIn v u) (EP X pins σ Q) X.xe s := fun ds e q => by
    subst e
    obtain ⟨⟨h1, h2⟩, q⟩ := if_bad q
    exact op_notInD hu pins s σ H x y v u Q I rx ry ⟨dx, ds, (wx.dp le).dp (SeqAt.canLay_of_shaped h1), (wy.dp le).dp (SeqAt.canLay_of_shaped h2), h1, h2, QD.bool le q⟩
  cases dy <;> cases dx <;> try exact q.elim
  case str.str => 
    cases wx.str; cases wy.str
    exact op_notin_str pins s σ H _ _ v u Q I rx ry ⟨_, _, rfl, rfl, QD.bool le q⟩
  all_goals exact deep _ rfl q
def cmpOf : (op : CmpOp) → Option (OkCmp op)
  | .Lt => some ⟨gLt, b_lt, fun X _ => o_lt⟩
  | .LtE => some ⟨gLe, b_le, fun X _ => o_le⟩
  | .Gt => some ⟨gGt, b_gt, fun X _ => o_gt⟩
  | .GtE => some ⟨gGe, b_ge, fun X _ => o_ge⟩
  | .Eq => some ⟨gEq, b_eq, fun X hu => o_eq (by omega)⟩
  | .NotEq => some ⟨gNe, b_ne, fun X hu => o_ne (by omega)⟩
  | .Is => some ⟨gIs, b_is, fun X _ => o_is⟩
  | .IsNot => some ⟨gIsNot, b_isnot, fun X _ => o_isnot⟩
  | .In => some ⟨gIn, b_in, fun X hu => o_in hu⟩
  | .NotIn => some ⟨gNotIn, b_notin, fun X hu => o_notin hu⟩
theorem Gd.hu {cv : Nat → Value} {X : Cx} {W : WX} (g : Gd S cv X W) : X.A.units + 65 < cLine := by have := g.room.un; omega
section
variable {X : Cx} {cv : Nat → Value} {W : WX} {a b c : Expr} {ma mb mc : Sm} {pos : Pos}
theorem jt_cmp {op : CmpOp} {g : D → D → Rp} (ho : OpR X (compareOp op) (rG g)) (hb' : IsB g) (ha : JW X cv W a ma) (hb : JW X cv W b mb) (hm : behindInMarks op b = false) : JT X cv W (.Compare a [op] [b] pos) (e2 g ma mb) :=
  PT.imp (pt_cmpR ho ha hb hm) fun σ H Q ⟨ρ, F, r, q⟩ => by
    refine rd2 (g := fun x y => (g x y).up) (R := fun z F H => GotT cv W F H σ Q z) r (fun _ _ _ h => h) (fun _ _ h => h) (fun _ _ _ _ _ e h => GotT.evo e h) q fun x y dx dy F H le wx wy h => ⟨F, dx, dy, le, wx, wy, ?_⟩
    rcases hb' dx dy with ⟨k, hk⟩ | hk
    · rw [hk] at h ⊢
      obtain ⟨k', e, h⟩ := h
      cases e
      exact fun v F1 H1 ev hd => by cases hd; exact ⟨k, rfl, h F1 H1 ev⟩
    · rw [hk] at h
      exact h.elim
/-! a op b op c -/
def eChain (g g' : D → D → Rp) (ma mb mc : Sm) : Sm := fun ρ => (ma ρ).bind fun x => (mb ρ).bind fun y => match g x y with
  | .ok (.bool true) => (mc ρ).bind fun z => (g' y z).up
  | .ok (.bool false) => .ok (.bool false)
  | _ => .bad
theorem rd_chain {g g' : D → D → Rp} (hg : IsB g) {σ : L2.St} {H F : Hp} {ρ : Rho} {R : Res → Hp → Hp → Prop} (r : Rel cv ρ σ F H) (hX : ∀ c F H, R (.exc c) F H → QX cv W F H σ c) (hB : ∀ F H, ¬ R .bad F H) (mono : ∀ z F H F' H', Evo F H F' H' → R z F H → R z F' H')
    (q : R (eChain g g' ma mb mc ρ) F H) {Q : VK} (hP : ∀ z F H, Ex F H → R z.up F H → GotP F H Q z) (hF : ∀ F H, Ex F H → R (.ok (.bool false)) F H → Q (.bl false) H) : tChain (rG g) (rG g') (rdW cv W ma) (rdW cv W mb) (rdW cv W mc) σ H Q := by
  unfold tChain
  refine rd2 (g := fun x y => match g x y with
    | .ok (.bool true) => (mc ρ).bind fun z => (g' y z).up
    | .ok (.bool false) => .ok (.bool false)
    | _ => .bad) (R := fun z F H => Rel cv ρ σ F H ∧ R z F H) r (fun c F H h => hX c F H h.2) (fun F H h => hB F H h.2) (fun z F H F' H' e h => ⟨h.1.evo e, mono z F H F' H' e h.2⟩) ⟨r, q⟩ fun x y dx dy F H le wx wy h => ?_
  obtain ⟨r, h⟩ := h
  refine ⟨F, dx, dy, le, wx, wy, ?_⟩
  rcases hg dx dy with ⟨k, hk⟩ | hk
  · rw [hk] at h ⊢
    intro v F1 H1 ev hd
    cases hd
    refine ⟨k, rfl, ?_⟩
    cases k with
    | true =>
      rw [if_pos rfl]
      simp only at h
      refine ⟨ρ, F1, r.evo ev, ?_⟩
      have fin : ∀ d, R (g' dy d).up F H → QW F1 H1 d fun w H4 => rG g' y w H4 Q := fun d h v2 F2 H2 ev2 wk2 => ⟨F2, dy, d, ev2.le, (wy.evo ev).evo ev2, wk2, hP _ F2 H2 ev2.le (mono _ _ _ _ _ (ev.trans ev2) h)⟩
      cases hc : mc ρ with
      | ok d => rw [hc] at h; exact fin d h
      | new d => rw [hc] at h; exact fin _ h
      | exc c => rw [hc] at h; exact (hX _ _ _ h).evo ev
      | bad => rw [hc] at h; exact (hB _ _ h).elim
    | false =>
      rw [if_neg (by simp)]
      exact hF F1 H1 ev.le (mono _ _ _ _ _ ev h)
  · rw [hk] at h
    exact (hB _ _ h).elim
theorem j_chain {op op' : CmpOp} {g g' : D → D → Rp} (ho : OpR X (compareOp op) (rG g)) (ho' : OpR X (compareOp op') (rG g')) (hg : IsB g) (ha : JW X cv W a ma) (hb : JW X cv W b mb) (hc : JW X cv W c mc) (hm : lastMarks [op, op'] [b, c] = false) : JE X cv W (.Compare a [op, op'] [b, c] pos) (eChain g g' ma mb mc) :=
  PE.imp (pe_chain ho ho' ha hb hc hm) fun σ H Q ⟨ρ, F, r, q⟩ => rd_chain hg r (R := fun z F H => GotE cv W F H σ Q z) (fun _ _ _ h => h) (fun _ _ h => h) (fun _ _ _ _ _ e h => GotE.evo e h) q (fun z F H le h => GotP.of h) fun F H le h => QD.bool le h
theorem jt_chain {op op' : CmpOp} {g g' : D → D → Rp} (ho : OpR X (compareOp op) (rG g)) (ho' : OpR X (compareOp op') (rG g')) (hg : IsB g) (hg' : IsB g') (ha : JW X cv W a ma) (hb : JW X cv W b mb) (hc : JW X cv W c mc) (hm : lastMarks [op, op'] [b, c] = false) : JT X cv W (.Compare a [op, op'] [b, c] pos) (eChain g g' ma mb mc) :=
  PT.imp (pt_chain ho ho' ha hb hc hm) fun σ H Q ⟨ρ, F, r, q⟩ => by
    unfold tTest
    refine rd_chain hg r (R := fun z F H => GotT cv W F H σ Q z ∧ ((∃ b, z = .ok (.bool b)) ∨ z = .bad ∨ ∃ c, z = .exc c)) (fun _ _ _ h => h.1) (fun _ _ h => h.1) (fun _ _ _ _ _ e h => ⟨GotT.evo e h.1, h.2⟩) ⟨q, ?_⟩ (fun z F H le h => ?_) fun F H le h => ?_
    · unfold eChain
      cases ma ρ with
      | exc c => exact .inr (.inr ⟨c, rfl⟩)
      | bad => exact .inr (.inl rfl)
      | _ =>
        simp only [Res.bind_ok, Res.bind_new]
        cases mb ρ with
        | exc c => exact .inr (.inr ⟨c, rfl⟩)
        | bad => exact .inr (.inl rfl)
        | _ =>
          simp only [Res.bind_ok, Res.bind_new]
          split
          · cases mc ρ with
            | exc c => exact .inr (.inr ⟨c, rfl⟩)
            | bad => exact .inr (.inl rfl)
            | _ =>
              simp only [Res.bind_ok, Res.bind_new]
              rename_i y _ _ _ z
              first
                | (rcases hg' _ _ with ⟨k, hk⟩ | hk <;> rw [hk] <;> first | exact .inl ⟨_, rfl⟩ | exact .inr (.inl rfl))
          · exact .inl ⟨_, rfl⟩
          · exact .inr (.inl rfl)
    · obtain ⟨h, e⟩ := h
      rcases e with ⟨b, e⟩ | e | ⟨c, e⟩
      · cases z <;> cases e
        obtain ⟨k, e, h⟩ := h
        cases e
        exact fun v F1 H1 ev hd => by cases hd; exact ⟨_, rfl, h F1 H1 ev⟩
      · cases z <;> cases e
        exact h.elim
      · cases z <;> cases e
    · obtain ⟨k, e, h⟩ := h.1
      cases e
      exact ⟨false, rfl, h F H (Evo.refl le)⟩
end
end U
set_option Elab.async false
set_option linter.all false
set_option maxRecDepth 100000
set_option maxHeartbeats 4000000
namespace U
open PySem PySem.Spec PyProof.Rows L2
structure TR (S : S0) where
  e : (sc : Scope) → (e : Expr) → Option (OkE S sc e)
  t : (sc : Scope) → (e : Expr) → Option (OkT S sc e)
  w : (sc : Scope) → (e : Expr) → Option (OkW S sc e)
variable {S : S0}
def wOf (r : TR S) (sc : Scope) : (e : Expr) → Option (OkW S sc e)
  | .Name x p => wName S sc x p
  | .Attribute o f p => (match r.w sc (.Attribute o f p) with
    | some x => some x
    | none => (r.e sc (.Attribute o f p)).map OkE.w)
  | e => (r.e sc e).map OkE.w
def aOf (r : TR S) (sc : Scope) : (es : List Expr) → Option (OkA S sc es)
  | [] => some ⟨[], [], rfl, rfl, fun cv X W g h => ja_nil⟩
  | e :: es => (r.e sc e).bind fun a => (aOf r sc es).bind fun b => if hs : notStar e = true then some ⟨a.m :: b.ms, a.lk ++ b.lk, by simp [b.n], by simp [hs, b.st], fun cv X W g h => ja_cons (a.ok cv X W g h).s (b.ok cv X W g h) hs⟩ else none
def bOf (r : TR S) (sc : Scope) : (es : List Expr) → Option (OkB S sc es)
  | [] => some ⟨[], [], rfl, rfl, fun cv X W g h => jb_nil⟩
  | e :: es => (wOf r sc e).bind fun a => (bOf r sc es).bind fun b => if hs : notStar e = true then some ⟨a.m :: b.ms, a.lk ++ b.lk, by simp [b.n], by simp [hs, b.st], fun cv X W g h => jb_cons (a.ok cv X W g h) (b.ok cv X W g h) hs⟩ else none
theorem Gd.gl {cv : Nat → Value} {X : Cx} {W : WX} {sc : Scope} {x : Str} (e : X.env.scope = sc) (h : glB sc x = true) : Gl X x := by
  unfold Gl PySem.Env.kindOf; rw [e]; exact (gl_of h).1
/-- and, or as values -/
def vOf (r : TR S) (sc : Scope) (op : BoolOp) (pos : Pos) : (vs : List Expr) → Option (OkE S sc (.BoolOp op vs pos))
  | [] => none
  | [a] => (r.e sc a).map fun x => ⟨x.m, x.lk, fun cv X W g h => j_one (x.ok cv X W g h)⟩
  | a :: b :: rest => (r.e sc a).bind fun x => (vOf r sc op pos (b :: rest)).bind fun y => match op, y with
    | .And, y => some ⟨eAnd x.m y.m, x.lk ++ y.lk, fun cv X W g h => j_and (x.ok cv X W g h).s (y.ok cv X W g h)⟩
    | .Or, y => some ⟨eOr x.m y.m, x.lk ++ y.lk, fun cv X W g h => j_or (x.ok cv X W g h).s (y.ok cv X W g h)⟩
/-- .. as tests -/
def pOf (r : TR S) (sc : Scope) (op : BoolOp) (pos : Pos) : (vs : List Expr) → Option (OkP S sc (.BoolOp op vs pos))
  | [] => none
  | [a] => (r.t sc a).map fun x => ⟨x.m, x.lk, fun cv X W g h => jp_one (by cases op <;> simp) (x.ok cv X W g h)⟩
  | a :: b :: rest => (r.t sc a).bind fun x => (pOf r sc op pos (b :: rest)).bind fun y => match op, y with
    | .And, y => some ⟨eAnd x.m y.m, x.lk ++ y.lk, fun cv X W g h => jp_and (x.ok cv X W g h) (y.ok cv X W g h)⟩
    | .Or, y => some ⟨eOr x.m y.m, x.lk ++ y.lk, fun cv X W g h => jp_or (x.ok cv X W g h) (y.ok cv X W g h)⟩
/-- built-in functions -/
structure OkF (x : Str) where
  g : List D → Rp
  ok : ∀ X : Cx, X.calm = true → (∃ id, bootBuiltins x = some (.builtin id) ∧ CallR X (.builtin id) (rGL g)) ∨ ∃ T, bootBuiltins x = some (.type T) ∧ CallR X (.type T) (rGL g)
  nm : x ≠ "__name__"
  mem : x ∈ bltNames
def fnOf (x : Str) : Option (OkF x) :=
  if h : x = "len" then some ⟨bLen, fun X _ => .inl ⟨"len", by rw [h]; decide +kernel, c_len⟩, by rw [h]; decide +kernel, by rw [h]; decide +kernel⟩
  else if h : x = "tuple" then some ⟨bTuple, fun X _ => .inr ⟨"tuple", by rw [h]; decide +kernel, c_tuple⟩, by rw [h]; decide +kernel, by rw [h]; decide +kernel⟩
  else if h : x = "list" then some ⟨bList, fun X _ => .inr ⟨"list", by rw [h]; decide +kernel, c_list⟩, by rw [h]; decide +kernel, by rw [h]; decide +kernel⟩
  else if h : x = "int" then some ⟨bInt, fun X _ => .inr ⟨"int", by rw [h]; decide +kernel, c_int⟩, by rw [h]; decide +kernel, by rw [h]; decide +kernel⟩
  else if h : x = "str" then some ⟨bStr, fun X _ => .inr ⟨"str", by rw [h]; decide +kernel, c_str⟩, by rw [h]; decide +kernel, by rw [h]; decide +kernel⟩
  else if h : x = "abs" then some ⟨bAbs, fun X _ => .inl ⟨"abs", by rw [h]; decide +kernel, c_abs⟩, by rw [h]; decide +kernel, by rw [h]; decide +kernel⟩
  else if h : x = "max" then some ⟨bMax, fun X hc => .inl ⟨"max", by rw [h]; decide +kernel, c_max hc⟩, by rw [h]; decide +kernel, by rw [h]; decide +kernel⟩
  else if h : x = "min" then some ⟨bMin, fun X hc => .inl ⟨"min", by rw [h]; decide +kernel, c_min hc⟩, by rw [h]; decide +kernel, by rw [h]; decide +kernel⟩
  else if h : x = "sum" then some ⟨bSum, fun X hc => .inl ⟨"sum", by rw [h]; decide +kernel, c_sum hc⟩, by rw [h]; decide +kernel, by rw [h]; decide +kernel⟩
  else none
def tyOf (x : Str) : Option { t : Ty // x = (t.name : Str) } :=
  if h : x = "int" then some ⟨.int, h⟩ else if h : x = "bool" then some ⟨.bool, h⟩ else if h : x = "tuple" then some ⟨.tuple, h⟩ else if h : x = "str" then some ⟨.str, h⟩ else if h : x = "list" then some ⟨.list, h⟩ else none
theorem all_cons {e : Expr} {es : List Expr} (h : (e :: es).all notStar = true) : notStar e = true ∧ es.all notStar = true := by
  simpa using h
/-- f(..) -/
def callOf (r : TR S) (sc : Scope) (x : Str) (p : Pos) (pos : Pos) : (es : List Expr) → Option (OkE S sc (.Call (.Name x p) es [] pos))
  | [] => none
  | e :: es => if hg : glB sc x = true then
      match hf : S.fns.find? (fun q => q.1 == x) with
      | some q => (aOf r sc (e :: es)).bind fun a => if hn : (e :: es).length = q.2.1 then some ⟨eF q.2.2 a.ms, a.lk, fun cv X W g h => by
          have hx : q.1 = x := by simpa using List.find?_some hf
          have F := g.fn q (List.mem_of_find?_eq_some hf)
          rw [hx] at F
          exact j_call F g.room g.tk (Gd.gl (cv := cv) (W := W) h hg) (gl_of hg).2 (a.ok cv X W g h) (by rw [a.n]; exact hn) (all_cons a.st).1 (all_cons a.st).2⟩ else none
      | none => match fnOf x with
        | some f => (bOf r sc (e :: es)).map fun a => ⟨eL f.g a.ms, a.lk, fun cv X W g h => by
            rcases f.ok X g.calm with ⟨id, h1, h2⟩ | ⟨T, h1, h2⟩
            · exact j_blt h2 (Gd.gl (cv := cv) (W := W) h hg) (g.blt x f.mem) h1 (a.ok cv X W g h) f.nm (gl_of hg).2 (all_cons a.st).1 (all_cons a.st).2
            · exact j_ty h2 (Gd.gl (cv := cv) (W := W) h hg) (g.blt x f.mem) h1 (a.ok cv X W g h) f.nm (gl_of hg).2 (all_cons a.st).1 (all_cons a.st).2⟩
        | none => if hi : x = "isinstance" then (match e, es with
          | e, [.Name y p2] => (wOf r sc e).bind fun a => (tyOf y).bind fun t => if hz : notStar e = true ∧ glB sc y = true ∧ y ∈ bltNames then some ⟨e1 (gIsi t.1) a.m, a.lk, fun cv X W g h => by
              subst hi
              exact j_isi (a.ok cv X W g h) (Gd.gl (cv := cv) (W := W) h hg) (g.blt _ (by decide +kernel)) t.2 (Gd.gl (cv := cv) (W := W) h hz.2.1) (g.blt _ hz.2.2) hz.1⟩ else none
          | _, _ => none) else none
    else none
def plainIx : Expr → Bool
  | .Slice .. => false
  | _ => true
theorem plainIx_of {b : Expr} (h : plainIx b = true) : PlainIx b := fun o i => by
  cases b <;> first | rfl | cases h
def partOf (r : TR S) (sc : Scope) : (o : Option Expr) → Option { p : Option Sm × List Nat // ∀ cv X W, Gd S cv X W → X.env.scope = sc → JO X cv W o p.1 }
  | none => some ⟨(none, []), fun cv X W g h => .none⟩
  | some e => (wOf r sc e).map fun a => ⟨(some a.m, a.lk), fun cv X W g h => .some (a.ok cv X W g h)⟩
def subOf (r : TR S) (sc : Scope) (a : Expr) (pos : Pos) : (i : Expr) → Option (OkE S sc (.Subscript a i pos))
  | .Slice lo hi none p2 => (wOf r sc a).bind fun x => (partOf r sc lo).bind fun l => (partOf r sc hi).map fun u => ⟨eSl x.m l.1.1 u.1.1, x.lk ++ l.1.2 ++ u.1.2, fun cv X W g h => j_sl (x.ok cv X W g h) (l.2 cv X W g h) (u.2 cv X W g h)⟩
  | i => (wOf r sc a).bind fun x => (wOf r sc i).bind fun y => if hp : plainIx i = true then some ⟨e2 gIx x.m y.m, x.lk ++ y.lk, fun cv X W g h => j_ix o_ix (x.ok cv X W g h) (y.ok cv X W g h) (plainIx_of hp)⟩ else none
def cmpE (r : TR S) (sc : Scope) (a : Expr) (pos : Pos) : (ops : List CmpOp) → (bs : List Expr) → Option (OkE S sc (.Compare a ops bs pos))
  | [op], [b] => (cmpOf op).bind fun o => (wOf r sc a).bind fun x => (wOf r sc b).bind fun y => if hm : behindInMarks op b = false then some ⟨e2 o.g x.m y.m, x.lk ++ y.lk, fun cv X W g h => j_cmp (o.ok X g.hu) (x.ok cv X W g h) (y.ok cv X W g h) hm⟩ else none
  | [op, op'], [b, c] => (cmpOf op).bind fun o => (cmpOf op').bind fun o' => (wOf r sc a).bind fun x => (wOf r sc b).bind fun y => (wOf r sc c).bind fun z => if hm : lastMarks [op, op'] [b, c] = false then some ⟨eChain o.g o'.g x.m y.m z.m, x.lk ++ y.lk ++ z.lk, fun cv X W g h => j_chain (o.ok X g.hu) (o'.ok X g.hu) o.b (x.ok cv X W g h) (y.ok cv X W g h) (z.ok cv X W g h) hm⟩ else none
  | _, _ => none
def cmpT (r : TR S) (sc : Scope) (a : Expr) (pos : Pos) : (ops : List CmpOp) → (bs : List Expr) → Option (OkT S sc (.Compare a ops bs pos))
  | [op], [b] => (cmpOf op).bind fun o => (wOf r sc a).bind fun x => (wOf r sc b).bind fun y => if hm : behindInMarks op b = false then some ⟨e2 o.g x.m y.m, x.lk ++ y.lk, fun cv X W g h => jt_cmp (o.ok X g.hu) o.b (x.ok cv X W g h) (y.ok cv X W g h) hm⟩ else none
  | [op, op'], [b, c] => (cmpOf op).bind fun o => (cmpOf op').bind fun o' => (wOf r sc a).bind fun x => (wOf r sc b).bind fun y => (wOf r sc c).bind fun z => if hm : lastMarks [op, op'] [b, c] = false then some ⟨eChain o.g o'.g x.m y.m z.m, x.lk ++ y.lk ++ z.lk, fun cv X W g h => jt_chain (o.ok X g.hu) (o'.ok X g.hu) o.b o'.b (x.ok cv X W g h) (y.ok cv X W g h) (z.ok cv X W g h) hm⟩ else none
  | _, _ => none
def noSet : Expr → Bool
  | .Set .. => false
  | _ => true
theorem foldSet_of {e : Expr} {env : PySem.Env} (h : noSet e = true) (x : Value) : foldedSetIterable e env x = pure x := by
  cases e <;> first | rfl | cases h
def seqI (r : TR S) (sc : Scope) (tg e : Expr) : Option (OkI S sc tg e) := (r.e sc e).map fun a => ⟨iSeq a.m, a.lk, fun cv X W g h => ji_seq (a.ok cv X W g h).s⟩
def iOf (r : TR S) (sc : Scope) : (tg e : Expr) → Option (OkI S sc tg e)
  | tg, .Call (.Name x p) es [] pos => if hx : x = "range" then (if hg : glB sc x = true then (match es with
      | [a] => (wOf r sc a).bind fun u => if hs : notStar a = true then some ⟨iR1 u.m, u.lk, fun cv X W g h => by subst hx; exact ji_r1 (Gd.gl (cv := cv) (W := W) h hg) (g.blt _ (by decide +kernel)) (u.ok cv X W g h) hs⟩ else none
      | [a, b] => (wOf r sc a).bind fun u => (wOf r sc b).bind fun v => if hs : notStar a = true ∧ notStar b = true then some ⟨iR2 u.m v.m, u.lk ++ v.lk, fun cv X W g h => by subst hx; exact ji_r2 (Gd.gl (cv := cv) (W := W) h hg) (g.blt _ (by decide +kernel)) (u.ok cv X W g h) (v.ok cv X W g h) hs.1 hs.2⟩ else none
      | _ => none) else none)
    else if hx : x = "zip" then (if hg : glB sc x = true then (match tg, es with
      | .Tuple elts kk tpos, [a, b] => (aOf r sc [a, b]).bind fun u => some ⟨iZip u.ms, u.lk, fun cv X W g h => by subst hx; exact ji_zip2 (Gd.gl (cv := cv) (W := W) h hg) (g.blt _ (by decide +kernel)) (u.ok cv X W g h) u.n (all_cons u.st).1 (all_cons (all_cons u.st).2).1⟩
      | .Tuple elts kk tpos, [a, b, c] => (aOf r sc [a, b, c]).bind fun u => some ⟨iZip u.ms, u.lk, fun cv X W g h => by subst hx; exact ji_zip3 (Gd.gl (cv := cv) (W := W) h hg) (g.blt _ (by decide +kernel)) (u.ok cv X W g h) u.n (all_cons u.st).1 (all_cons (all_cons u.st).2).1 (all_cons (all_cons (all_cons u.st).2).2).1⟩
      | _, _ => none) else none)
    else if hx : x = "enumerate" then (if hg : glB sc x = true then (match tg, es with
      | .Tuple elts kk tpos, [a] => (r.e sc a).bind fun u => if hs : notStar a = true then some ⟨iEnum u.m, u.lk, fun cv X W g h => by subst hx; exact ji_enum (Gd.gl (cv := cv) (W := W) h hg) (g.blt _ (by decide +kernel)) (u.ok cv X W g h).s hs⟩ else none
      | _, _ => none) else none)
    else seqI r sc tg (.Call (.Name x p) es [] pos)
  | tg, e => seqI r sc tg e
/-- targets: slots whose stores are let -/
structure OkG (S : S0) (sc : Scope) (fnB : Str → Bool) (tg : Expr) where
  T : Tg
  ok : ∀ (cv : Nat → Value) (X : Cx), X.N = S.N → X.N.Nodup → X.calm = true → X.env.scope = sc → (∀ x, fnB x = true → X.fn x = true) → JG X cv tg T ∧ JGB X cv tg T
def storeOf (S : S0) (sc : Scope) (fnB : Str → Bool) (x : Str) : Option { i : Nat // ∀ X : Cx, X.N = S.N → X.env.scope = sc → (∀ x, fnB x = true → X.fn x = true) → X.N[i]? = some x ∧ L2.Loc X.env.scope x ∧ (X.fn x = true ∨ X.env.scope.names.lookup x = some .local) } :=
  let i := S.N.findIdx (· == x)
  if h : S.N[i]? = some x ∧ locB sc x = true ∧ (fnB x = true ∨ isLocB sc x = true) then some ⟨i, fun X hN he hf => ⟨by rw [hN]; exact h.1, by rw [he]; exact loc_of h.2.1, by
    rcases h.2.2 with z | z
    · exact .inl (hf x z)
    · exact .inr (by rw [he]; exact isLoc_of z)⟩⟩ else none
def namesOf (S : S0) (sc : Scope) (fnB : Str → Bool) : (es : List Expr) → Option { is : List Nat // ∀ X : Cx, X.N = S.N → X.env.scope = sc → (∀ x, fnB x = true → X.fn x = true) → Nms X es is }
  | [] => some ⟨[], fun X hN he hf => .nil⟩
  | .Name x p :: es => (storeOf S sc fnB x).bind fun i => (namesOf S sc fnB es).map fun is => ⟨i.1 :: is.1, fun X hN he hf => .cons (i.2 X hN he hf).1 (i.2 X hN he hf).2.1 (i.2 X hN he hf).2.2 (is.2 X hN he hf)⟩
  | _ :: _ => none
def tgOf (S : S0) (sc : Scope) (fnB : Str → Bool) : (tg : Expr) → Option (OkG S sc fnB tg)
  | .Name x p => (storeOf S sc fnB x).map fun i => ⟨.nm i.1, fun cv X hN hd hc he hf => ⟨jg_name hd (i.2 X hN he hf).1 (i.2 X hN he hf).2.1 (i.2 X hN he hf).2.2, jgb_name hd (i.2 X hN he hf).1 (i.2 X hN he hf).2.1 (i.2 X hN he hf).2.2⟩⟩
  | .Tuple es k p => (namesOf S sc fnB es).map fun is => ⟨.tp is.1, fun cv X hN hd hc he hf => ⟨jg_tup hc hd (is.2 X hN he hf), jgb_tup hc hd (is.2 X hN he hf)⟩⟩
  | _ => none
/-! comprehensions -/
theorem Gd.blk {cv : Nat → Value} {X : Cx} {W : WX} (g : Gd S cv X W) (s : Shared) (H : Hp) (scope : Scope) (cenv : PySem.Env) (fp : List Addr) : Gd S cv (X.blk s H scope cenv fp) WF :=
  ⟨g.nN, g.nd, g.calm, g.room, takes_none5, g.blt, fun p hp => ⟨(g.fn p hp).ok⟩, g.cls, g.cst, g.ext⟩
def ownOf (N : List Str) (scope : Scope) : List (Str × Nat) := scope.names.filterMap fun y => match y.2 with
  | .local => if N.contains y.1 then some (y.1, N.findIdx (· == y.1)) else none
  | .cell => if N.contains y.1 then some (y.1, N.findIdx (· == y.1)) else none
  | _ => none
def condOf (r : TR S) (scope sc : Scope) : (ifs : List Expr) → Option { m : Option Sm × List Nat // ∀ cv X W, Gd S cv X W → X.env.scope = sc → BlkC X cv scope ifs m.1 }
  | [] => some ⟨(none, []), fun cv X W g h => .none⟩
  | [e] => (r.t (relS scope sc) e).map fun t => ⟨(some t.m, t.lk), fun cv X W g h => .some fun s H C cl fp => t.ok cv _ WF (g.blk s H scope _ fp) (by show relS scope X.env.scope = _; rw [h])⟩
  | _ => none
def cellB (scope : Scope) (x : Str) : Bool := scope.names.lookup x == some .cell
structure OkC (S : S0) (sc : Scope) (elt tg iter : Expr) (ifs : List Expr) (scope : Scope) where
  mi : SmL
  T : Tg
  own : List (Str × Nat)
  mc : Option Sm
  me : Sm
  lk : List Nat
  hT : ∀ i ∈ T.slots, i ∈ own.map (·.2)
  bk : ∀ cv X W, Gd S cv X W → X.env.scope = sc → JI X cv W tg iter mi ∧ BlkOk X.N X.env.scope scope own ∧ BlkG X cv scope tg T ∧ BlkC X cv scope ifs mc ∧ BlkE X cv scope elt me
  fs : ∀ env x, foldedSetIterable iter env x = pure x
def compOf (r : TR S) (sc : Scope) (elt tg iter : Expr) (ifs : List Expr) (scope : Scope) : Option (OkC S sc elt tg iter ifs scope) :=
  (iOf r sc tg iter).bind fun mi => (tgOf S (relS scope sc) (cellB scope) tg).bind fun T => (condOf r scope sc ifs).bind fun mc => (r.e (relS scope sc) elt).bind fun me =>
    let own := ownOf S.N scope
    if h : blkC S.N sc scope own = true ∧ (∀ i ∈ T.T.slots, i ∈ own.map (·.2)) ∧ noSet iter = true then
      some ⟨mi.m, T.T, own, mc.1.1, me.m, mi.lk ++ mc.1.2 ++ me.lk, h.2.1, fun cv X W g e => ⟨mi.ok cv X W g e, by rw [g.nN, e]; exact blkOk_by h.1, fun s H C cl fp => (T.ok cv (X.blk s H scope (compEnvC scope cl C X.env) fp) g.nN g.nd g.calm (by show relS scope X.env.scope = _; rw [e]) fun x hx => hx).1, mc.2 cv X W g e,
        fun s H C cl fp => me.ok cv _ WF (g.blk s H scope _ fp) (by show relS scope X.env.scope = _; rw [e])⟩, fun env x => foldSet_of h.2.2 x⟩
    else none
def lcOf (r : TR S) (sc : Scope) (elt : Expr) (scope : Scope) (pos : Pos) : (gs : List Comprehension) → Option (OkE S sc (.ListComp elt gs scope pos))
  | [⟨tg, iter, ifs, 0⟩] => (compOf r sc elt tg iter ifs scope).map fun c => ⟨eComp c.mi c.T (c.own.map (·.2)) c.mc c.me, c.lk, fun cv X W g e => by
      obtain ⟨h1, h2, h3, h4, h5⟩ := c.bk cv X W g e
      exact j_comp g.calm g.nd h1 h2 h3 h4 h5 c.hT (c.fs _)⟩
  | _ => none
def valTest : Expr → Bool
  | .UnaryOp .Not _ _ => false
  | .BoolOp .. => false
  | .IfExp .. => false
  | .Compare .. => false
  | _ => true
theorem valTest_of {e : Expr} {env : PySem.Env} (h : valTest e = true) (whole : Sem Value) : isTrue e env whole = (do let v ← whole; standAt e.pos; holding [v] (truthy v)) := by
  cases e <;> first | rfl | cases h | skip
  rename_i op a p
  cases op <;> first | rfl | cases h
def stepE (r : TR S) (sc : Scope) : (e : Expr) → Option (OkE S sc e)
  | .Name x p => cName S sc x p
  | .Constant c j p => cConst S sc c j p
  | .BinOp a op b pos => (opOf op).bind fun o => (wOf r sc a).bind fun x => (wOf r sc b).map fun y => ⟨e2 o.g x.m y.m, x.lk ++ y.lk, fun cv X W g h => j_op (o.ok X) (x.ok cv X W g h) (y.ok cv X W g h)⟩
  | .UnaryOp .Not a pos => (wOf r sc a).map fun x => ⟨e1 gNot x.m, x.lk, fun cv X W g h => j_not (x.ok cv X W g h)⟩
  | .UnaryOp .USub a pos => (wOf r sc a).map fun x => ⟨e1 gNeg x.m, x.lk, fun cv X W g h => j_e1 o_neg (x.ok cv X W g h)⟩
  | .BoolOp op vs pos => vOf r sc op pos vs
  | .Compare a ops bs pos => cmpE r sc a pos ops bs
  | .IfExp c a b pos => (r.t sc c).bind fun x => (r.e sc a).bind fun y => (r.e sc b).map fun z => ⟨eIf x.m y.m z.m, x.lk ++ y.lk ++ z.lk, fun cv X W g h => j_if (x.ok cv X W g h) (y.ok cv X W g h) (z.ok cv X W g h)⟩
  | .Tuple es k pos => (aOf r sc es).bind fun a => if hz : a.ms.length ≤ 100000 then some ⟨eTup a.ms, a.lk, fun cv X W g h => j_tup (a.ok cv X W g h) hz⟩ else none
  | .List es pos => (aOf r sc es).bind fun a => if hz : a.ms.length ≤ 100000 then some ⟨eLst a.ms, a.lk, fun cv X W g h => j_lst (a.ok cv X W g h) hz⟩ else none
  | .Subscript a i pos => subOf r sc a pos i
  | .Call (.Name x p) es [] pos => callOf r sc x p pos es
  | .ListComp elt gs scope pos => lcOf r sc elt scope pos gs
  | _ => none
def stepT (r : TR S) (sc : Scope) : (e : Expr) → Option (OkT S sc e)
  | .UnaryOp .Not a pos => (r.t sc a).map fun x => ⟨e1 gNot x.m, x.lk, fun cv X W g h => jt_not (x.ok cv X W g h)⟩
  | .BoolOp op vs pos => (pOf r sc op pos vs).map fun x => ⟨x.m, x.lk, fun cv X W g h => (x.ok cv X W g h).t⟩
  | .Compare a ops bs pos => cmpT r sc a pos ops bs
  | e => (wOf r sc e).bind fun x => if hv : valTest e = true then some ⟨x.m, x.lk, fun cv X W g h => jt_val (x.ok cv X W g h) (valTest_of hv)⟩ else none
def tr (S : S0) : Nat → TR S
  | 0 => ⟨fun _ _ => none, fun _ _ => none, fun _ _ => none⟩
  | n + 1 => ⟨stepE (tr S n), stepT (tr S n), fun _ _ => none⟩
end U
set_option Elab.async false
set_option linter.all false
set_option maxRecDepth 100000
set_option maxHeartbeats 4000000
namespace U
open PySem PySem.Spec PyProof.Rows L2
/-- what statements want of the context besides -/
structure Gx (S : S0) (cv : Nat → Value) (X : Cx) : Prop where
  fnT : ∀ x, X.fn x = true
  po : PassesOwn (model X.prog X.w) X.A X.env X.xe
  stk : X.stack = X.env :: X.outer
  fr : X.env.frame = some X.env.locals
  cl : Clss X.K cv S.sub S.nc
variable {S : S0}
structure OkS (S : S0) (sc : Scope) (st : Stmt) where
  m : Ss
  ok : ∀ cv X W, Gd S cv X W → Gx S cv X → X.env.scope = sc → JF X cv W st m
structure OkSs (S : S0) (sc : Scope) (st : List Stmt) where
  m : Ss
  ok : ∀ cv X W, Gd S cv X W → Gx S cv X → X.env.scope = sc → JFs X cv W st m
def blkKind (sc : Scope) : ScopeKind := if sc.kind.isAnnotationScope then .function else sc.kind
def swB (sc scope : Scope) (t : Str) (p vp : Pos) : Bool := blkKind sc == .function && sc.names.lookup t == some .local && p.line == vp.line && !(scope.names.any fun (n, k) => n == t && (k == .local || k == .cell))
theorem sw_name {elt : Expr} {gs : List Comprehension} {scope : Scope} {vp p : Pos} {t : Str} {l : Nat} {env : PySem.Env} : swapsWith (.ListComp elt gs scope vp) (some (.Name t p)) l env = pure (swB env.scope scope t p vp) := rfl
def noComp : Expr → Bool
  | .ListComp .. => false
  | .SetComp .. => false
  | .DictComp .. => false
  | _ => true
theorem sw_no {e : Expr} {tg : Option Expr} {l : Nat} {env : PySem.Env} (h : noComp e = true) : swapsWith e tg l env = pure false := by
  cases e <;> first | rfl | cases h
theorem sw_other {e : Expr} {ts : List Expr} {k : Nat} {p : Pos} {l : Nat} {env : PySem.Env} : swapsWithSole [.Tuple ts k p] e l env = pure false := by
  cases e <;> rfl
theorem sw_sub {e o i : Expr} {p : Pos} {l : Nat} {env : PySem.Env} : swapsWithSole [.Subscript o i p] e l env = pure false := by
  cases e <;> rfl
def notTup : Expr → Bool
  | .Tuple .. => false
  | _ => true
theorem stores_no {e : Expr} {ts : List Expr} {k : Nat} {p : Pos} {env : PySem.Env} (h : notTup e = true) : swappedStores [.Tuple ts k p] e env = pure none := by
  cases e <;> first | rfl | cases h
def swNames (sc : Scope) (ts : List Expr) : List Str := ts.filterMap fun
  | .Name id pos => if sc.names.lookup id == some .local && pos.line == (ts.head?.map (·.pos.line)).getD 0 then some id else none
  | _ => none
def swMode (sc : Scope) (ts vs : List Expr) : Option (Option (List Str)) :=
  if (!(ts.length == 2 || ts.length == 3) || vs.length != ts.length || blkKind sc != .function) = true then some none else
  if (vs.any fun | .Starred .. => true | _ => false) = true then some none else
  if ((swNames sc ts).length != ts.length || (swNames sc ts).eraseDups.length != (swNames sc ts).length) = true then some none else
  if vs.all (foldedForSure 8) = true then some none else if vs.all (constantsAlone 8) = true then none else some (some (swNames sc ts))
theorem swMode_ok {env : PySem.Env} {ts vs : List Expr} {k k2 : Nat} {p p2 : Pos} {r : Option (List Str)} (h : swMode env.scope ts vs = some r) : swappedStores [.Tuple ts k p] (.Tuple vs k2 p2) env = pure r := by
  unfold swMode at h
  have e0 : env.blockKind = blkKind env.scope := rfl
  have e1 : ∀ x, env.kindOf x = env.scope.names.lookup x := fun _ => rfl
  unfold swappedStores
  split at h
  · rename_i h1
    cases h
    exact if_pos h1
  · rename_i h1
    refine (if_neg h1).trans ?_
    split at h
    · rename_i h2
      cases h
      exact if_pos h2
    · rename_i h2
      refine (if_neg h2).trans ?_
      split at h
      · rename_i h3
        cases h
        exact if_pos h3
      · rename_i h3
        refine (if_neg h3).trans ?_
        split at h
        · rename_i h4
          cases h
          exact if_pos h4
        · rename_i h4
          refine (if_neg h4).trans ?_
          split at h
          · cases h
          · rename_i h5
            cases h
            exact if_neg h5

def tbF : Str → Bool := fun _ => true
/-- x = e -/
def setOf (r : TR S) (sc : Scope) (x : Str) (p pos : Pos) : (e : Expr) → Option (OkS S sc (.Assign [.Name x p] e pos))
  | .ListComp elt [⟨tg, iter, ifs, 0⟩] scope vp => (storeOf S sc tbF x).bind fun i =>
      if hs : swB sc scope x p vp = true then (compOf r sc elt tg iter ifs scope).bind fun c => if hl : isLocB sc x = true then
        some ⟨sSet i.1 c.lk (eComp c.mi c.T (c.own.map (·.2)) c.mc c.me), fun cv X W g gx h => by
          obtain ⟨h1, h2, h3, h4, h5⟩ := c.bk cv X W g h
          exact js_comp g.calm g.nd (i.2 X g.nN h fun y _ => gx.fnT y).1 (by rw [h]; exact isLoc_of hl) (by rw [sw_name, h, hs]) h1 h2 h3 h4 h5 c.hT (c.fs _)⟩ else none
      else (r.e sc (.ListComp elt [⟨tg, iter, ifs, 0⟩] scope vp)).map fun a => ⟨sSet i.1 a.lk a.m, fun cv X W g gx h => by
        obtain ⟨h1, h2, h3⟩ := i.2 X g.nN h fun y _ => gx.fnT y
        exact js_set g.nd h1 h2 (a.ok cv X W g h) (by rw [sw_name, h]; have : swB sc scope x p vp = false := by simpa using hs
                                                      rw [this]) h3⟩
  | e => (storeOf S sc tbF x).bind fun i => (r.e sc e).bind fun a => if hn : noComp e = true then some ⟨sSet i.1 a.lk a.m, fun cv X W g gx h => by
      obtain ⟨h1, h2, h3⟩ := i.2 X g.nN h fun y _ => gx.fnT y
      exact js_set g.nd h1 h2 (a.ok cv X W g h) (sw_no hn) h3⟩ else none
def parOf (r : TR S) (sc : Scope) (k kk : Nat) (p pp pos : Pos) : (es vs : List Expr) → Option (OkS S sc (.Assign [.Tuple es k p] (.Tuple vs kk pp) pos))
  | [.Name x px, .Name y py], [a, b] => (storeOf S sc tbF x).bind fun i => (storeOf S sc tbF y).bind fun j => (r.e sc a).bind fun u => (r.e sc b).bind fun v =>
      if hz : swMode sc [.Name x px, .Name y py] [a, b] = some (some [x, y]) ∧ i.1 ≠ j.1 ∧ isLocB sc x = true ∧ isLocB sc y = true ∧ notStar a = true ∧ notStar b = true then some ⟨sPar2 i.1 j.1 (u.lk ++ v.lk) u.m v.m, fun cv X W g gx h => by
        obtain ⟨z1, z2, z3, z4, z5, z6⟩ := hz
        exact js_par2 g.calm g.nd (i.2 X g.nN h fun y _ => gx.fnT y).1 (j.2 X g.nN h fun y _ => gx.fnT y).1 z2 (by rw [h]; exact isLoc_of z3) (by rw [h]; exact isLoc_of z4) (u.ok cv X W g h) (v.ok cv X W g h) z5 z6 (swMode_ok (by rw [h]; exact z1))⟩ else none
  | [.Name x px, .Name y py, .Name z pz], [a, b, c] => (storeOf S sc tbF x).bind fun i => (storeOf S sc tbF y).bind fun j => (storeOf S sc tbF z).bind fun l => (aOf r sc [a, b, c]).bind fun u =>
      if hz : swMode sc [.Name x px, .Name y py, .Name z pz] [a, b, c] = some (some [x, y, z]) ∧ (i.1 ≠ j.1 ∧ i.1 ≠ l.1 ∧ j.1 ≠ l.1) ∧ isLocB sc x = true ∧ isLocB sc y = true ∧ isLocB sc z = true then some ⟨sPar3 i.1 j.1 l.1 u.lk u.ms, fun cv X W g gx h => by
        obtain ⟨z1, ⟨z2, z3, z4⟩, z5, z6, z7⟩ := hz
        exact js_par3 g.calm g.nd (i.2 X g.nN h fun y _ => gx.fnT y).1 (j.2 X g.nN h fun y _ => gx.fnT y).1 (l.2 X g.nN h fun y _ => gx.fnT y).1 z2 z3 z4 (by rw [h]; exact isLoc_of z5) (by rw [h]; exact isLoc_of z6) (by rw [h]; exact isLoc_of z7) (u.ok cv X W g h) (swMode_ok (by rw [h]; exact z1))⟩ else none
  | _, _ => none
/-- a, b = e, the tuple made and taken apart -/
def tupOf (r : TR S) (sc : Scope) (es : List Expr) (k : Nat) (p pos : Pos) (e : Expr) : Option (OkS S sc (.Assign [.Tuple es k p] e pos)) :=
  (namesOf S sc tbF es).bind fun is => (r.e sc e).bind fun a => if hw : notTup e = true ∨ (match e with | .Tuple vs _ _ => swMode sc es vs | _ => none) = some none then some ⟨sTup is.1 a.lk a.m, fun cv X W g gx h =>
    js_tup g.calm g.nd (is.2 X g.nN h fun y _ => gx.fnT y) (a.ok cv X W g h) sw_other (by
      rcases hw with z | z
      · exact stores_no z
      · cases e <;> first | exact swMode_ok (by rw [h]; exact z) | cases z)⟩ else none
theorem item_asg {o i : Expr} {p : Pos} {env : PySem.Env} (h : plainIx i = true) : ∀ v, assign (.Subscript o i p) env v = (do
      let ov ← holding [v] (eval o env)
      let iv ← holding [v, ov] (eval i env)
      standAt p
      holding [v, ov, iv] (setItem ov iv v)
      release [v, ov, iv] []) := fun v => by
  cases i <;> first | rfl | cases h
def asgOf (r : TR S) (sc : Scope) (e : Expr) (pos : Pos) : (tg : Expr) → Option (OkS S sc (.Assign [tg] e pos))
  | .Name x p => setOf r sc x p pos e
  | .Tuple es k p => match e with
    | .Tuple vs kk pp => match parOf r sc k kk p pp pos es vs with
      | some s => some s
      | none => tupOf r sc es k p pos (.Tuple vs kk pp)
    | e => tupOf r sc es k p pos e
  | .Subscript (.Name x p) ix tpos => (slotOf S sc x).bind fun i => (r.e sc e).bind fun a => (r.e sc ix).bind fun b => if hp : plainIx ix = true then some ⟨sItem i.1 (a.lk ++ b.lk) b.m a.m, fun cv X W g gx h =>
      js_item (by rw [g.nN]; exact i.2.1) (by rw [h]; exact i.2.2.1) i.2.2.2.1 i.2.2.2.2 (a.ok cv X W g h) (b.ok cv X W g h) sw_sub (item_asg hp)⟩ else none
  | _ => none
def exprOf (r : TR S) (sc : Scope) (pos : Pos) : (e : Expr) → Option (OkS S sc (.Expr e pos))
  | .Call (.Attribute (.Name x p) m apos) [e] [] cpos => (slotOf S sc x).bind fun i => (r.e sc e).bind fun a =>
      if hm : m = "append" ∧ notStar e = true ∧ (apos.endLine == cpos.line) = true then some ⟨sApp i.1 a.lk a.m, fun cv X W g gx h => by
        obtain ⟨z1, z2, z3⟩ := hm
        subst z1
        exact js_app (by rw [g.nN]; exact i.2.1) (by rw [h]; exact i.2.2.1) i.2.2.2.1 i.2.2.2.2 (a.ok cv X W g h) z2 z3⟩
      else if hm : m = "extend" ∧ notStar e = true ∧ (apos.endLine == cpos.line) = true then some ⟨sExt i.1 a.lk a.m, fun cv X W g gx h => by
        obtain ⟨z1, z2, z3⟩ := hm
        subst z1
        exact js_ext (by rw [g.nN]; exact i.2.1) (by rw [h]; exact i.2.2.1) i.2.2.2.1 i.2.2.2.2 (a.ok cv X W g h) z2 z3⟩
      else none
  | e => (r.e sc e).bind fun a => if hn : noComp e = true then some ⟨sExpr a.lk a.m, fun cv X W g gx h => js_expr (a.ok cv X W g h) (sw_no hn)⟩ else none
def retOf (r : TR S) (sc : Scope) (pos : Pos) : (o : Option Expr) → Option (OkS S sc (.Return o pos))
  | none => some ⟨fun _ => .rt .none, fun cv X W g gx h => js_retN⟩
  | some (.Name x p) => match slotOf S sc x with
    | some i => some ⟨sRetV i.1, fun cv X W g gx h => js_retV (by rw [g.nN]; exact i.2.1) (by rw [h]; exact i.2.2.1) i.2.2.2.1 i.2.2.2.2⟩
    | none => (cName S sc x p).map fun a => ⟨sRet a.lk a.m, fun cv X W g gx h => js_ret (a.ok cv X W g h)⟩
  | some e => (r.e sc e).map fun a => ⟨sRet a.lk a.m, fun cv X W g gx h => js_ret (a.ok cv X W g h)⟩
def raiseOf (S : S0) (sc : Scope) (pos : Pos) : (e : Option Expr) → (c : Option Expr) → Option (OkS S sc (.Raise e c pos))
  | some (.Call (.Name x p) [.Constant (.str t) j p2] [] p3), none => match hf : S.cls.find? (fun q => q.1 == x) with
    | some q => if hz : glB sc x = true then some ⟨sRaise q.2, fun cv X W g gx h => by
        obtain ⟨C, h1, h2⟩ := g.cls q (List.mem_of_find?_eq_some hf)
        have hx : q.1 = x := by simpa using List.find?_some hf
        rw [hx] at h2
        exact js_raise g.calm g.tk h2 h1 (Gd.gl (cv := cv) (W := W) h hz) (gl_of hz).2⟩ else none
    | none => none
  | _, _ => none
/-! the suites of a try -/
structure OkX (S : S0) (sc : Scope) (i : Nat) (e : Expr) where
  m : Xm
  ok : ∀ cv X W, Gd S cv X W → Gx S cv X → X.env.scope = sc → JX X cv S.nc i e m
structure OkXT (S : S0) (sc : Scope) (i : Nat) (e : Expr) where
  m : Xm
  ok : ∀ cv X W, Gd S cv X W → Gx S cv X → X.env.scope = sc → JXT X cv S.nc i e m
structure OkXP (S : S0) (sc : Scope) (i : Nat) (e : Expr) where
  m : Xm
  ok : ∀ cv X W, Gd S cv X W → Gx S cv X → X.env.scope = sc → JXP X cv S.nc i e m
def xIsOf (S : S0) (sc : Scope) (i : Nat) (p pos : Pos) : (es : List Expr) → Option (OkX S sc i (.Call (.Name "isinstance" p) es [] pos))
  | [.Name x p2, .Name y py] => (slotOf S sc x).bind fun j => match hf : S.cls.find? (fun q => q.1 == y) with
    | none => none
    | some q => if hz : j.1 = i ∧ q.2 ∈ S.nc ∧ glB sc y = true ∧ glB sc "isinstance" = true then some ⟨xIs S.sub q.2, fun cv X W g gx h => by
        obtain ⟨z1, z3, z4, z5⟩ := hz
        obtain ⟨C, h1, h2⟩ := g.cls q (List.mem_of_find?_eq_some hf)
        have hx : q.1 = y := by simpa using List.find?_some hf
        rw [hx] at h2
        exact jx_is gx.cl z3 (by rw [g.nN, ← z1]; exact j.2.1) (by rw [h]; exact j.2.2.1) j.2.2.2.1 j.2.2.2.2 (Gd.gl (cv := cv) (W := W) h z5) (g.blt _ (by decide +kernel)) (Gd.gl (cv := cv) (W := W) h z4) (by rw [h1]; exact h2.gl) (gl_of z4).2⟩ else none
  | _ => none
def xCallOf (S : S0) (sc : Scope) (i : Nat) (p pos : Pos) (f : Str) (es : List Expr) : Option (OkX S sc i (.Call (.Name f p) es [] pos)) :=
  if h : f = "isinstance" then (by subst h; exact xIsOf S sc i p pos es) else none
mutual
def xOf (S : S0) (sc : Scope) (i : Nat) : Nat → (e : Expr) → Option (OkX S sc i e)
  | 0, _ => none
  | n + 1, .Constant (.str x) j p => some ⟨xC (.str x), fun cv X W g gx h => jx_c fun Y => pe_str⟩
  | n + 1, .Call (.Name f p) es [] pos => xCallOf S sc i p pos f es
  | n + 1, .IfExp t a b pos => (xtOf S sc i n t).bind fun x => (xOf S sc i n a).bind fun y => (xOf S sc i n b).map fun z => ⟨xIf x.m y.m z.m, fun cv X W g gx h => jx_if (x.ok cv X W g gx h) (y.ok cv X W g gx h) (z.ok cv X W g gx h)⟩
  | n + 1, _ => none
def xtOf (S : S0) (sc : Scope) (i : Nat) : Nat → (e : Expr) → Option (OkXT S sc i e)
  | 0, _ => none
  | n + 1, .UnaryOp .Not a pos => (xtOf S sc i n a).map fun x => ⟨xNot x.m, fun cv X W g gx h => jxt_not (x.ok cv X W g gx h)⟩
  | n + 1, .BoolOp .And vs pos => (xpOf S sc i n pos vs).map fun x => ⟨x.m, fun cv X W g gx h => jxp_t (x.ok cv X W g gx h)⟩
  | n + 1, .Call (.Name f p) es [] pos => (xCallOf S sc i p pos f es).map fun x => ⟨x.m, fun cv X W g gx h => jxt_val (x.ok cv X W g gx h) fun env whole => rfl⟩
  | n + 1, _ => none
def xpOf (S : S0) (sc : Scope) (i : Nat) : Nat → (pos : Pos) → (vs : List Expr) → Option (OkXP S sc i (.BoolOp .And vs pos))
  | 0, _, _ => none
  | n + 1, pos, [a] => (xtOf S sc i n a).map fun x => ⟨x.m, fun cv X W g gx h => jxp_one (x.ok cv X W g gx h)⟩
  | n + 1, pos, a :: b :: rest => (xtOf S sc i n a).bind fun x => (xpOf S sc i n pos (b :: rest)).map fun y => ⟨xAnd x.m y.m, fun cv X W g gx h => jxp_and (x.ok cv X W g gx h) (y.ok cv X W g gx h)⟩
  | n + 1, _, [] => none
end
def hdsOf (S : S0) (sc : Scope) : (hds : List ExceptHandler) → Option { l : List (Nat × Nat × Xm) // ∀ cv X W, Gd S cv X W → Gx S cv X → X.env.scope = sc → HdsJ X cv S.nc hds l }
  | [] => some ⟨[], fun cv X W g gx h => .nil⟩
  | .ExceptHandler (some (.Name x np)) (some nm) [.Return (some e) rp] pos' :: hds =>
      let i := S.N.findIdx (· == nm)
      match hf : S.cls.find? (fun q => q.1 == x) with
      | none => none
      | some q => (xOf S sc i 12 e).bind fun m => (hdsOf S sc hds).bind fun l => if hz : q.2 ∈ S.nc ∧ glB sc x = true ∧ S.N[i]? = some nm ∧ isLocB sc nm = true then some ⟨(q.2, i, m.m) :: l.1, fun cv X W g gx h => by
        obtain ⟨z2, z3, z4, z5⟩ := hz
        obtain ⟨C, h1, h2⟩ := g.cls q (List.mem_of_find?_eq_some hf)
        have hx : q.1 = x := by simpa using List.find?_some hf
        rw [hx] at h2
        exact .cons z2 ⟨Gd.gl (cv := cv) (W := W) h z3, (gl_of z3).2, .inl (by rw [h1]; exact h2.gl)⟩ (by rw [g.nN]; exact z4) (by unfold PySem.Env.kindOf; rw [h]; exact isLoc_of z5) (m.ok cv X W g gx h) (l.2 cv X W g gx h)⟩ else none
  | _ => none
structure TS0 (S : S0) where
  s : (sc : Scope) → (st : Stmt) → Option (OkS S sc st)
def ssOf (t : TS0 S) (sc : Scope) : (sts : List Stmt) → Option (OkSs S sc sts)
  | [] => some ⟨.nx, fun cv X W g gx h => jss_nil⟩
  | [a] => (t.s sc a).map fun x => ⟨x.m, fun cv X W g gx h => jss_one (x.ok cv X W g gx h)⟩
  | a :: b :: rest => (t.s sc a).bind fun x => (ssOf t sc (b :: rest)).map fun y => ⟨sSeq x.m y.m, fun cv X W g gx h => jss_cons (x.ok cv X W g gx h) (y.ok cv X W g gx h)⟩
theorem Gd.tr {cv : Nat → Value} {X : Cx} {W W' : WX} (g : Gd S cv X W) (pn : List (Addr × Obj)) (xe : Value → Shared → Prop) (tk : Takes (X.tr pn xe) W') : Gd S cv (X.tr pn xe) W' :=
  ⟨g.nN, g.nd, g.calm, g.room, tk, g.blt, fun p hp => ⟨(g.fn p hp).ok⟩, g.cls, g.cst, g.ext⟩
def stepS (r : TR S) (t : TS0 S) (sc : Scope) : (st : Stmt) → Option (OkS S sc st)
  | .Assign [tg] e pos => asgOf r sc e pos tg
  | .AugAssign (.Name x p) .Add e pos => (storeOf S sc tbF x).bind fun i => (r.e sc e).map fun a => ⟨sAug i.1 a.lk a.m, fun cv X W g gx h => by
      obtain ⟨h1, h2, h3⟩ := i.2 X g.nN h fun y _ => gx.fnT y
      exact js_aug g.nd h1 h2 (a.ok cv X W g h) h3⟩
  | .Expr e pos => exprOf r sc pos e
  | .Return o pos => retOf r sc pos o
  | .Raise e c pos => raiseOf S sc pos e c
  | .Pass pos => some ⟨.nx, fun cv X W g gx h => js_pass⟩
  | .If c a b pos => (r.t sc c).bind fun x => (ssOf t sc a).bind fun y => (ssOf t sc b).map fun z => ⟨sIf x.lk x.m y.m z.m, fun cv X W g gx h => js_if (x.ok cv X W g h) (y.ok cv X W g gx h) (z.ok cv X W g gx h)⟩
  | .For tg iter body [] pos => (iOf r sc tg iter).bind fun x => (tgOf S sc tbF tg).bind fun T => (ssOf t sc body).bind fun y => if hn : noSet iter = true then some ⟨sFor T.T x.lk x.m y.m, fun cv X W g gx h =>
      js_for gx.po g.calm (x.ok cv X W g h) (T.ok cv X g.nN g.nd g.calm h fun y _ => gx.fnT y).2 (y.ok cv X W g gx h) fun v => foldSet_of hn v⟩ else none
  | .While c body [] pos => (r.t sc c).bind fun x => (ssOf t sc body).map fun y => ⟨sWhile x.lk x.m y.m, fun cv X W g gx h => js_while gx.po (x.ok cv X W g h) (y.ok cv X W g gx h)⟩
  | .Try body (h₀ :: hds) [] [] pos => (ssOf t sc body).bind fun y => (hdsOf S sc (h₀ :: hds)).map fun l => ⟨sTry S.sub S.nc y.m l.1, fun cv X W g gx h =>
      js_try gx.stk gx.fr g.nd g.tk gx.cl (fun W' pn xe tk po => y.ok cv _ W' (g.tr pn xe tk) ⟨gx.fnT, po, gx.stk, gx.fr, gx.cl⟩ h) (l.2 cv X W g gx h)⟩
  | _ => none
/-- what a def is worth: its body's end -/
def runF (nv : Nat) (m : Ss) (ds : List D) : Res := match m (ds.map .fr ++ List.replicate (nv - ds.length) .un) with
  | .nx _ => .ok .none
  | .rt d => .ok d
  | .rn ds => .new ds
  | .rm d _ => .ok d
  | .rb _ _ => .bad
  | .ex c _ => .exc c
  | .bad => .bad
end U
set_option Elab.async false
set_option linter.all false
set_option maxRecDepth 100000
set_option maxHeartbeats 4000000
namespace U
open PySem PySem.Spec PyProof.Rows L2
/-- the text's tables: its error classes, its constants, who is below whom -/
def Tb.s (T : Tb) (N : List Str) (k : Nat) (fns : List (Str × Nat × (List D → Res))) : S0 := ⟨N, k, fns, T.cls, T.cst, T.sub, T.nc, fun _ _ _ _ _ _ => True⟩
/-- the facts of the module that all defs share -/
structure Bs (T : Tb) (cv : Nat → Value) (K : PySem.W.Frag) (mg : Str → Option Value) : Prop where
  blt : ∀ b ∈ bltNames, mg b = none
  cls : ∀ p ∈ T.cls, ∃ C, cv p.2 = .ref C ∧ ExC K mg p.1 C
  cst : ∀ p ∈ T.cst, ∃ u v, mg p.1 = some u ∧ RelV v u ∧ ∀ F, Dr F v p.2
  cl : Clss K cv T.sub T.nc
/-- a def that keeps its promise, by its name -/
structure Kp (P : Program) (w : World) (K : PySem.W.Frag) (mg : Str → Option Value) (base : Heap) (cv : Nat → Value) (k : Nat) (x : Str) (n : Nat) (f : List D → Res) : Prop where
  ok : ∃ (fa : Addr) (fd : FuncData) (ps : List Str), mg x = some (.ref fa) ∧ ps.length = n ∧ FnOk P w K mg base (L2.CX P w) k fa fd ps (spOf cv n f) ∧ PySem.W.keepIn K (.ref fa) = true ∧ Binds K fd ps []
theorem Kp.mono {P : Program} {w : World} {K : PySem.W.Frag} {mg : Str → Option Value} {base : Heap} {cv : Nat → Value} {j k : Nat} {x : Str} {n : Nat} {f : List D → Res} (h : Kp P w K mg base cv j x n f) (le : j ≤ k) : Kp P w K mg base cv k x n f := by
  obtain ⟨fa, fd, ps, h1, h2, h3, h4⟩ := h.ok
  exact ⟨fa, fd, ps, h1, h2, h3.mono le, h4⟩
def AllKp (P : Program) (w : World) (K : PySem.W.Frag) (mg : Str → Option Value) (base : Heap) (cv : Nat → Value) (k : Nat) : List (Str × Nat × (List D → Res)) → Prop
  | [] => True
  | p :: r => Kp P w K mg base cv k p.1 p.2.1 p.2.2 ∧ AllKp P w K mg base cv k r
theorem AllKp.at {P : Program} {w : World} {K : PySem.W.Frag} {mg : Str → Option Value} {base : Heap} {cv : Nat → Value} {k : Nat} : ∀ {l : List (Str × Nat × (List D → Res))}, AllKp P w K mg base cv k l → ∀ p ∈ l, Kp P w K mg base cv k p.1 p.2.1 p.2.2
  | [], _, p, h => by cases h
  | q :: r, ⟨h1, h2⟩, p, h => by
    rcases List.mem_cons.mp h with e | h
    · rw [e]; exact h1
    · exact AllKp.at h2 p h
theorem start_get (N : List Str) (vs : List V) (i : Nat) : (start N vs)[i]? = if h : i < vs.length then some (some vs[i]) else if i < vs.length + (N.length - vs.length) then some none else none := by
  unfold L2.start
  by_cases h : i < vs.length
  · rw [List.getElem?_append_left (by simpa using h)]
    simp [h]
  · rw [List.getElem?_append_right (by simpa using h)]
    simp only [List.length_map, List.getElem?_replicate, dif_neg h]
    by_cases h2 : i < vs.length + (N.length - vs.length)
    · rw [if_pos h2, if_pos (by omega)]
    · rw [if_neg h2, if_neg (by omega)]
theorem rel_start {cv : Nat → Value} {N : List Str} {F H : Hp} {vs : List V} {ds : List D} (le : Ex F H) (hd : DrAll F vs ds) : RelB cv ⟨F, H, none⟩ (ds.map .fr ++ List.replicate (N.length - ds.length) .un) (start N vs) F H := by
  have hl := dps_len hd
  have key : ∀ (i : Nat) (c : Cell), (ds.map Cell.fr ++ List.replicate (N.length - ds.length) .un)[i]? = some c → c = .un ∨ ∃ d v, c = .fr d ∧ (start N vs)[i]? = some (some v) ∧ Dr F v d := fun i c e => by
    by_cases h : i < ds.length
    · rw [List.getElem?_append_left (by simpa using h)] at e
      rw [List.getElem?_map, List.getElem?_eq_getElem h] at e
      cases e
      obtain ⟨v, hv, hdr⟩ := dps_get hd (List.getElem?_eq_getElem h)
      refine .inr ⟨_, v, rfl, ?_, hdr⟩
      rw [start_get, dif_pos (by omega)]
      rw [List.getElem?_eq_getElem (by omega)] at hv
      cases hv; rfl
    · rw [List.getElem?_append_right (by simpa using h), List.getElem?_replicate] at e
      split at e
      · cases e; exact .inl rfl
      · cases e
  refine ⟨⟨by simp [L2.start, hl], le, fun i c e => ?_, fun i j es ds' p e1 _ e3 _ => ?_⟩, Evo.refl le, fun i es p e1 e3 => ?_, fun a k fs h => by cases h⟩
  · rcases key i c e with rfl | ⟨d, v, rfl, h1, h2⟩
    · trivial
    · exact ⟨v, h1, h2⟩
  · rcases key i _ e1 with h | ⟨d, v, h, _⟩ <;> (subst h; simp at e3)
  · rcases key i _ e1 with h | ⟨d, v, h, _⟩ <;> (subst h; simp at e3)
/-! ### the end of a law -/
theorem walkU {l : PySem.W.OpenLaw} {n k : Nat} {q : Program} {loose : List Str} {XP : (Str → Option Value) → Heap → Prop} {YP : World → Heap → Prop} {d : DefRec} {x : Str} {fm : List D → Res}
    (hn : l.most = some n) (hn2 : n ≤ sizeLine) (hdf : d.params.defaults = []) (hr : Room k callerA) (holds : ∀ ns : List Int, ns.length ≤ n → fm [.list (ns.map .int)] = .ok (.bool true))
    (F : ∀ (w : World) (mg : Str → Option Value) (fa : Addr) (h : Heap), YP w h → h.Ns mainGlobals mg → mg d.name = some (.ref fa) →
      ∃ (K : PySem.W.Frag) (fd : FuncData) (cv : Nat → Value), K.In h ∧ (∀ a o, K.lookup a = some o → o.cls ≠ .type "list") ∧ (∀ (s : Shared) (u : Value), BindsTo s fd ⟨[u], []⟩ [(x, u)]) ∧
        ∀ base : Heap, K.In base → base.Ns mainGlobals mg → FnOk l.prog w K mg base (L2.CX l.prog w) k fa fd [x] (spOf cv 1 fm)) :
    PySem.W.WalkO q loose XP YP l.row.toRowW d [] (fun f vs => PySem.call f vs) := by
  refine Att.attach_call hn hdf fun w s₀ s₁ mg mb fa o pm cd doc a vs ns G Y ho hd hcd hmg hobj hints hlen hg => ?_
  obtain ⟨K, fd, cv, KX, hnl, hb, hF⟩ := F w mg fa _ Y G.T.g hmg
  refine law_call KX G.T.g G.T.b G.T.builtins G.T.nolimit hg hobj hints (Nat.le_trans hlen hn2) hr hF hb (fun H hO hS => ?_) fun H e s' => ?_
  · have hR : Rd H a (.lst (ns.map V.int)) := by
      rcases hS with h | ⟨o, its, n, h1, h2, _⟩
      · exact h
      · exact absurd h2 (hnl a o h1)
    have hI : ∀ ns : List Int, DrAll H (ns.map V.int) (ns.map PyData.int) := fun ns => by
      induction ns with
      | nil => exact .nil
      | cons i r ih => exact .cons (.int i) ih
    refine ⟨H, [.list (ns.map .int)], Evl.Ex.refl H, .cons (.lst hR (hI ns)) .nil, rfl, ?_⟩
    rw [holds ns hlen]
    exact fun v F1 H1 ev hv => by cases hv; rfl
  · rintro ⟨_, _, _, _, _, _, _, _, _, _, _, _, z⟩
    exact z
end U
set_option Elab.async false
set_option linter.all false
set_option maxRecDepth 100000
set_option maxHeartbeats 4000000
namespace U
open PySem PySem.Spec PyProof.Rows L2
/-! ### what the head's Hook is to tell -/
def Tb.fine (T : Tb) : Bool := T.cls.all fun p => decide (T.cn p.2 = p.1)
theorem excB_ok {K : PySem.W.Frag} {D : Addr} (h : excB K D = true) : ExcC K D := by
  obtain ⟨h1, h⟩ := He.ba h
  obtain ⟨h2, h⟩ := He.ba h
  obtain ⟨h3, h⟩ := He.ba h
  obtain ⟨h4, h⟩ := He.ba h
  obtain ⟨h5, h⟩ := He.ba h
  obtain ⟨h6, h⟩ := He.ba h
  obtain ⟨h7, h8⟩ := He.ba h
  exact ⟨He.eqO_ok h1, He.eqO_ok h2, of_decide_eq_true h3, h4, He.eqO_ok h5, He.eqO_ok h6, of_decide_eq_true h7, of_decide_eq_true h8⟩
theorem noLst_ok {K : PySem.W.Frag} (h : noLst K = true) (a : Addr) (o : Obj) (e : K.lookup a = some o) : o.cls ≠ .type "list" := fun z => by
  have := List.all_eq_true.mp h _ (He.lookup_mem e)
  rw [z] at this
  exact absurd this (by decide)
-- the defs that stand as values lie where it was told
-- classes whose own __eq__, __len__, __str__ are asked: their names, what is to be seen of them
def cstB (l : List (Str × D)) : Bool := l.all fun p => match p.2 with
  | .int _ => true
  | .str _ => true
  | _ => false
theorem cst_mem {x : Str} : ∀ {l : List (Str × D)} {i : Int}, (x, .int i) ∈ l → He.Fa.int x i ∈ cstF l
  | (y, d) :: r, i, h => by
    rcases List.mem_cons.mp h with e | h
    · cases e; exact List.mem_cons_self
    · have := cst_mem h
      cases d <;> first | exact this | exact List.mem_cons_of_mem _ this
theorem cst_memS {x : Str} : ∀ {l : List (Str × D)} {z : Str}, (x, .str z) ∈ l → He.Fa.str x z ∈ cstF l
  | (y, d) :: r, i, h => by
    rcases List.mem_cons.mp h with e | h
    · cases e; exact List.mem_cons_self
    · have := cst_memS h
      cases d <;> first | exact this | exact List.mem_cons_of_mem _ this
theorem bs_of {fo : List He.Fa} {T : Tb} {ds : List Str} {fn : List He.DefD} {w : World} {h : Heap} {K : PySem.W.Frag} {mg : Str → Option Value} (hf : T.fine = true) (hc : cstB T.cst = true) (X : K.In h) (G : h.Ns mainGlobals mg) (c : He.SaysX (faU T ds ++ fo) fn [] [] (exU T) w h K) : Bs T (T.cv K) K mg := by
  have facts : ∀ f ∈ faU T ds, f.ok K = true := fun f hf => c.t.d.facts (List.mem_append_left _ hf)
  have cn_ : ∀ p ∈ T.cls, T.cn p.2 = p.1 := fun p hp => of_decide_eq_true (List.all_eq_true.mp hf p hp)
  refine ⟨fun b hb => He.free_ok X G (facts _ ?_), fun p hp => ⟨_, rfl, ?_⟩, fun p hp => ?_, ?_⟩
  · exact List.mem_append_right _ (List.mem_append_left _ (List.mem_map_of_mem hb))
  · have h1 := He.glo_ok X G (facts (.glo p.1) (List.mem_append_right _ (List.mem_append_right _ (List.mem_append_left _ (List.mem_map.mpr ⟨p, hp, rfl⟩)))))
    have h2 := He.exc_ok (facts (.exc p.1) (List.mem_append_right _ (List.mem_append_right _ (List.mem_append_right _ (List.mem_append_left _ (List.mem_map.mpr ⟨p, hp, rfl⟩))))))
    rw [cn_ p hp]
    exact ⟨h1, h2.1, h2.2.1, h2.2.2.1, h2.2.2.2⟩
  · obtain ⟨x, d⟩ := p
    have hb := List.all_eq_true.mp hc _ hp
    cases d <;> first | cases hb | skip
    · obtain ⟨t, ht⟩ := He.int_ok X G (facts _ (List.mem_append_right _ (List.mem_append_right _ (List.mem_append_right _ (List.mem_append_right _ (cst_mem hp))))))
      exact ⟨_, .int _, ht, ⟨t, rfl⟩, fun F => .int _⟩
    · obtain ⟨t, ht⟩ := He.str_ok X G (facts _ (List.mem_append_right _ (List.mem_append_right _ (List.mem_append_right _ (List.mem_append_right _ (cst_memS hp))))))
      exact ⟨_, .str _, ht, ⟨t, rfl⟩, fun F => .str _⟩
  · obtain ⟨_, hm⟩ := He.ba c.more
    refine ⟨fun k hk => ⟨_, rfl, excB_ok (He.ba (List.all_eq_true.mp hm k hk)).1⟩, fun k j hk hj => ?_⟩
    obtain ⟨h1, h2⟩ := He.ba (List.all_eq_true.mp (He.ba (List.all_eq_true.mp hm k hk)).2 j hj)
    exact ⟨of_decide_eq_true h1, of_decide_eq_true h2⟩
theorem glo_of {fo : List He.Fa} {T : Tb} {ds : List Str} {fn : List He.DefD} {w : World} {h : Heap} {K : PySem.W.Frag} {mg : Str → Option Value} (X : K.In h) (G : h.Ns mainGlobals mg) (c : He.SaysX (faU T ds ++ fo) fn [] [] (exU T) w h K) {x : Str} (hx : x ∈ ds) : mg x = some (.ref (He.ga K x)) :=
  He.glo_ok X G (c.t.d.facts (List.mem_append_left _ (List.mem_append_left _ (List.mem_map_of_mem hx))))
theorem nol_of {fo : List He.Fa} {T : Tb} {ds : List Str} {fn : List He.DefD} {w : World} {h : Heap} {K : PySem.W.Frag} (c : He.SaysX (faU T ds ++ fo) fn [] [] (exU T) w h K) : ∀ a o, K.lookup a = some o → o.cls ≠ .type "list" := noLst_ok (He.ba (He.ba (He.ba c.more).1).1).1
theorem gm_of {fo : List He.Fa} {T : Tb} {ds : List Str} {fn : List He.DefD} {w : World} {h : Heap} {K : PySem.W.Frag} (c : He.SaysX (faU T ds ++ fo) fn [] [] (exU T) w h K) : gmN.map (He.ga K) = gmT := of_decide_eq_true (He.ba (He.ba (He.ba c.more).1).1).2
/-- a def of the text, by its statement -/
theorem def_of {fo : List He.Fa} {T : Tb} {ds : List Str} {fn : List He.DefD} {w : World} {h : Heap} {K : PySem.W.Frag} (c : He.SaysX (faU T ds ++ fo) fn [] [] (exU T) w h K) {x : Str} {st : Stmt} (hx : dOf x st ∈ fn) : ∃ fd, FunD K x x (defArgs st) (defBody st) (defScope st) [] [] (He.ga K x) fd := c.t.d.defs hx
end U
set_option Elab.async false
set_option linter.all false
set_option maxRecDepth 100000
set_option maxHeartbeats 4000000
namespace U
open PySem PySem.Spec PyProof.Rows L2
/-! ### rows that the walk never reaches: no word about them -/
def sBad : Ss := fun _ => .bad
theorem js_bad {X : Cx} {cv : Nat → Value} {W : WX} {st : Stmt} : JF X cv W st sBad := fun B => ⟨fun pins s σ H D _ h => by
  obtain ⟨ρ, F, _, q⟩ := h
  exact False.elim q⟩
/-- the rule, whatever way the body was read -/
theorem def_okO {P : Program} {w : World} {K : PySem.W.Frag} {mg : Str → Option Value} {base : Heap} {cv : Nat → Value} {T : Tb} {k : Nat} {x qual : Str} {params : Arguments} {body : List Stmt} {scope : Scope} {f : Addr} {fd : FuncData} {N ps : List Str} {fns : List (Str × Nat × (List D → Res))} {m : Ss}
    (F : FunD K x qual params body scope [] [] f fd) (B : Bs T cv K mg) (S : FnScope N ps scope) (o : Option (OkSs (T.s N k fns) scope body)) (ht : o.map (·.m) = some m) (A : AllKp P w K mg base cv k fns) : FnOk P w K mg base (L2.CX P w) (k + 1) f fd ps (spOf cv ps.length (runF N.length m)) := by
  obtain ⟨r, hr, rfl⟩ := Option.map_eq_some_iff.mp ht
  refine FunD.ok F S (fun vs H Q E h => spOf_len h) fun cdv Ar outer s H vs Q E room hsp => ?_
  obtain ⟨F0, ds, le, hd, hl, q⟩ := hsp
  let X := cxOf (L2.CX P w) P w K mg base N qual scope f cdv Ar outer s H E
  let W : WX := fun c d _ H' => E c d H'
  have tk : Takes X W := takes_of rfl rfl rfl rfl
  have g : Gd (T.s N k fns) cv X W := ⟨rfl, S.nd, rfl, room, tk, B.blt, fun p hp => ⟨(A.at p hp).ok⟩, B.cls, B.cst, trivial⟩
  have gx : Gx (T.s N k fns) cv X := ⟨fun _ => rfl, passes_of rfl, rfl, rfl, B.cl⟩
  refine ⟨rdF cv W ⟨F0, H, none⟩ r.m, r.ok cv X W g gx rfl ⟨F0, H, none⟩, ⟨_, F0, rel_start (N := N) le hd, ?_⟩⟩
  have q' : GotE cv W F0 H [] Q (runF N.length r.m ds) := q
  unfold runF at q'
  cases h : r.m (ds.map .fr ++ List.replicate (N.length - ds.length) .un) with
  | nx ρ => rw [h] at q'; exact fun σ F1 H1 r1 => q' .non F1 H1 r1.evo .non
  | rt d => rw [h] at q'; exact fun v F1 H1 ev hv => q' v F1 H1 ev hv
  | rn d => rw [h] at q'; exact fun p xs F1 H1 ev h1 h2 h3 h4 => q' p xs F1 H1 ev h1 h2 h3 h4
  | rm d ρ => rw [h] at q'; exact fun v σ F1 H1 r1 hv => q' v F1 H1 r1.evo hv
  | rb k fs => rw [h] at q'; exact q'.elim
  | ex c ρ => rw [h] at q'; exact fun σ F1 H1 r1 => q' F1 H1 r1.evo
  | bad => rw [h] at q'; exact q'
theorem kp_ofO {P : Program} {w : World} {K : PySem.W.Frag} {mg : Str → Option Value} {base : Heap} {cv : Nat → Value} {T : Tb} {k n : Nat} {x qual : Str} {params : Arguments} {body : List Stmt} {scope : Scope} {f : Addr} {fd : FuncData} {N ps : List Str} {fns : List (Str × Nat × (List D → Res))} {m : Ss} {fm : List D → Res}
    (F : FunD K x qual params body scope [] [] f fd) (hg : mg x = some (.ref f)) (B : Bs T cv K mg) (S : FnScope N ps scope) (hn : ps.length = n) (hb : ∀ (kV doc pm : Value) (an : Option Addr) (cdv ct : Value) (us : List Value), us.length = ps.length → bindArgs (PySem.W.fnOf x qual params body scope .none kV doc pm an cdv ct) ⟨us, []⟩ = pure (ps.zip us))
    (o : Option (OkSs (T.s N k fns) scope body)) (ht : o.map (·.m) = some m) (hf : fm = runF N.length m) (A : AllKp P w K mg base cv k fns) : Kp P w K mg base cv (k + 1) x n fm := by
  subst hf hn
  exact ⟨f, fd, ps, hg, rfl, def_okO F B S o ht A, F.kp, F.bindsN hb⟩
end U
set_option Elab.async false
set_option linter.all false
set_option maxRecDepth 100000
set_option maxHeartbeats 4000000
namespace U
open PySem PySem.Spec PyProof.Rows L2
/-! ### long chains of comparisons -/
def tLinks : List (R2 × TE) → V → TE
  | [], _ => fun _ _ _ => False
  | [(r, t)], y => fun σ H Q => t σ H fun w H1 => r y w H1 Q
  | (r, t) :: p :: rest, y => fun σ H Q => t σ H fun w H1 => r y w H1 fun z H2 => ∃ k, z = .bl k ∧ (if k = true then tLinks (p :: rest) w σ H2 Q else Q (.bl false) H2)
inductive LkOk (X : Cx) : List CmpOp → List Expr → List (R2 × TE) → Prop
  | one {op : CmpOp} {e : Expr} {r : R2} {t : TE} : OpR X (compareOp op) r → PE X e t → LkOk X [op] [e] [(r, t)]
  | cons {op op' : CmpOp} {e e' : Expr} {r : R2} {t : TE} {p : R2 × TE} {ops : List CmpOp} {es : List Expr} {l : List (R2 × TE)} : OpR X (compareOp op) r → PE X e t → LkOk X (op' :: ops) (e' :: es) (p :: l) → LkOk X (op :: op' :: ops) (e :: e' :: es) ((r, t) :: p :: l)
theorem links_run {X : Cx} {ops : List CmpOp} {es : List Expr} {l : List (R2 × TE)} (h : LkOk X ops es l) : ∀ (pos : Pos) (pins : List (Addr × Obj)) (s : Shared) (σ : L2.St) (H : Hp) (y : V) (v : Value) (Q : VK), Inv X pins σ H s → RelV y v → tLinks l y σ H Q → wpAny (model X.prog X.w) X.A (compareChain pos v ops (evalEach es X.env)) (EP X pins σ Q) X.xe s := by
  induction h with
  | one ho he =>
    intro pos pins s σ H y v Q I rv h
    exact chain_last (thn (he.run pins s σ H _ I h) fun w' s4 ⟨z', H4, I4, r4, q4⟩ => ho pins s4 σ H4 y z' v w' Q I4 rv r4 q4)
  | cons ho he hl ih =>
    intro pos pins s σ H y v Q I rv h
    refine chain_link (thn (he.run pins s σ H _ I h) fun u s2 ⟨y2, H2, I2, r2, q2⟩ => thn (ho pins s2 σ H2 y y2 v u _ I2 rv r2 q2) fun d s3 ⟨z, H3, I3, r3, k, e, q3⟩ => ?_)
    subst e
    cases r3
    refine wpAny_truthy_bool ?_
    cases k with
    | false => exact ite_ff ⟨.bl false, H3, I3, rfl, q3⟩
    | true => exact ite_tt (ih pos pins s3 σ H3 y2 u Q I3 r2 q3)
theorem pe_links {X : Cx} {a : Expr} {ta : TE} {op op' : CmpOp} {ops : List CmpOp} {e e' : Expr} {es : List Expr} {l : List (R2 × TE)} {pos : Pos} (ha : PE X a ta) (h : LkOk X (op :: op' :: ops) (e :: e' :: es) l) (hm : lastMarks (op :: op' :: ops) (e :: e' :: es) = false) : PE X (.Compare a (op :: op' :: ops) (e :: e' :: es) pos) (fun σ H Q => ta σ H fun x H1 => tLinks l x σ H1 Q) :=
  ⟨fun pins s σ H Q I hq => Compare_chain (thn (ha.run pins s σ H _ I hq) fun v s1 ⟨x, H1, I1, r1, q1⟩ => links_run h pos pins s1 σ H1 x v Q I1 r1 q1) hm⟩
def eLinks : List ((D → D → Rp) × Sm) → D → Sm
  | [], _ => fun _ => .bad
  | [p], y => fun ρ => (p.2 ρ).bind fun z => (p.1 y z).up
  | p :: q :: rest, y => fun ρ => (p.2 ρ).bind fun z => match p.1 y z with
    | .ok (.bool true) => eLinks (q :: rest) z ρ
    | .ok (.bool false) => .ok (.bool false)
    | _ => .bad
def eChN (ma : Sm) (l : List ((D → D → Rp) × Sm)) : Sm := fun ρ => (ma ρ).bind fun x => eLinks l x ρ
theorem rd_links {cv : Nat → Value} {W : WX} {σ : L2.St} {ρ : Rho} {Q : VK} : ∀ (l : List ((D → D → Rp) × Sm)), (∀ p ∈ l, IsB p.1) → ∀ (y : V) (dy : D) (F H : Hp), Rel cv ρ σ F H → Wk F H y dy → GotE cv W F H σ Q (eLinks l dy ρ) → tLinks (l.map fun p => (rG p.1, rdW cv W p.2)) y σ H Q
  | [], _, _, _, _, _, _, _, h => False.elim h
  | [p], _, y, dy, F, H, r, wy, h => by
    refine ⟨ρ, F, r, ?_⟩
    have fin : ∀ d, GotE cv W F H σ Q (p.1 dy d).up → QW F H d fun w H1 => rG p.1 y w H1 Q := fun d h v F2 H2 ev wk => ⟨F2, dy, d, ev.le, wy.evo ev, wk, GotP.of (GotE.evo ev h)⟩
    unfold eLinks at h
    cases hm : p.2 ρ with
    | ok d => rw [hm] at h; exact fin d h
    | new d => rw [hm] at h; exact fin _ h
    | exc c => rw [hm] at h; exact h
    | bad => rw [hm] at h; exact h
  | p :: q :: rest, hb, y, dy, F, H, r, wy, h => by
    refine ⟨ρ, F, r, ?_⟩
    have fin : ∀ d, GotE cv W F H σ Q (match p.1 dy d with
      | .ok (.bool true) => eLinks (q :: rest) d ρ
      | .ok (.bool false) => .ok (.bool false)
      | _ => .bad) → QW F H d fun w H1 => rG p.1 y w H1 fun z H2 => ∃ k, z = .bl k ∧ (if k = true then tLinks ((q :: rest).map fun p => (rG p.1, rdW cv W p.2)) w σ H2 Q else Q (.bl false) H2) := fun d h v F2 H2 ev wk => by
      refine ⟨F2, dy, d, ev.le, wy.evo ev, wk, ?_⟩
      rcases hb p List.mem_cons_self dy d with ⟨k, hk⟩ | hk
      · rw [hk] at h ⊢
        intro v3 F3 H3 ev3 hd
        cases hd
        refine ⟨k, rfl, ?_⟩
        cases k with
        | true =>
          rw [if_pos rfl]
          exact rd_links (q :: rest) (fun p hp => hb p (List.mem_cons_of_mem _ hp)) v d F3 H3 ((r.evo ev).evo ev3) (wk.evo ev3) (GotE.evo (ev.trans ev3) h)
        | false =>
          rw [if_neg (by simp)]
          exact QD.bool ev3.le (GotE.evo (ev.trans ev3) h)
      · rw [hk] at h
        exact False.elim h
    unfold eLinks at h
    cases hm : p.2 ρ with
    | ok d => rw [hm] at h; exact fin d h
    | new d => rw [hm] at h; exact fin _ h
    | exc c => rw [hm] at h; exact h
    | bad => rw [hm] at h; exact h
theorem j_links {X : Cx} {cv : Nat → Value} {W : WX} {a : Expr} {ma : Sm} {op op' : CmpOp} {ops : List CmpOp} {e e' : Expr} {es : List Expr} {l : List ((D → D → Rp) × Sm)} {pos : Pos} (ha : JW X cv W a ma) (hb : ∀ p ∈ l, IsB p.1) (h : LkOk X (op :: op' :: ops) (e :: e' :: es) (l.map fun p => (rG p.1, rdW cv W p.2))) (hm : lastMarks (op :: op' :: ops) (e :: e' :: es) = false) : JE X cv W (.Compare a (op :: op' :: ops) (e :: e' :: es) pos) (eChN ma l) :=
  PE.imp (pe_links ha h hm) fun σ H Q ⟨ρ, F, r, q⟩ => by
    refine ⟨ρ, F, r, ?_⟩
    have fin : ∀ d, GotE cv W F H σ Q (eLinks l d ρ) → QW F H d fun x H1 => tLinks (l.map fun p => (rG p.1, rdW cv W p.2)) x σ H1 Q := fun d h v F2 H2 ev wk => rd_links l hb v d F2 H2 (r.evo ev) wk (GotE.evo ev h)
    unfold eChN at q
    cases hma : ma ρ with
    | ok d => rw [hma] at q; exact fin d q
    | new d => rw [hma] at q; exact fin _ q
    | exc c => rw [hma] at q; exact q
    | bad => rw [hma] at q; exact q
variable {S : S0}
structure OkL (S : S0) (sc : Scope) (ops : List CmpOp) (es : List Expr) where
  l : List ((D → D → Rp) × Sm)
  lk : List Nat
  b : ∀ p ∈ l, IsB p.1
  ne : ∃ p r, l = p :: r
  ok : ∀ cv X W, Gd S cv X W → X.env.scope = sc → LkOk X ops es (l.map fun p => (rG p.1, rdW cv W p.2))
def linksOf (r : TR S) (sc : Scope) : (ops : List CmpOp) → (es : List Expr) → Option (OkL S sc ops es)
  | [op], [e] => (cmpOf op).bind fun o => (wOf r sc e).map fun x => ⟨[(o.g, x.m)], x.lk, fun p hp => by cases List.mem_singleton.mp hp; exact o.b, ⟨_, _, rfl⟩, fun cv X W g h => .one (o.ok X g.hu) (x.ok cv X W g h)⟩
  | op :: op' :: ops, e :: e' :: es => (cmpOf op).bind fun o => (wOf r sc e).bind fun x => (linksOf r sc (op' :: ops) (e' :: es)).map fun z => ⟨(o.g, x.m) :: z.l, x.lk ++ z.lk, fun p hp => by
      rcases List.mem_cons.mp hp with rfl | hp
      · exact o.b
      · exact z.b p hp, ⟨_, _, rfl⟩, fun cv X W g h => by
      have k := z.ok cv X W g h
      obtain ⟨p, q, e⟩ := z.ne
      rw [e] at k
      show LkOk X _ _ ((rG o.g, rdW cv W x.m) :: z.l.map fun p => (rG p.1, rdW cv W p.2))
      rw [e]
      exact .cons (o.ok X g.hu) (x.ok cv X W g h) k⟩
  | _, _ => none
def chainOf (r : TR S) (sc : Scope) (a : Expr) (pos : Pos) : (ops : List CmpOp) → (bs : List Expr) → Option (OkE S sc (.Compare a ops bs pos))
  | op :: op' :: ops, e :: e' :: es => (wOf r sc a).bind fun x => (linksOf r sc (op :: op' :: ops) (e :: e' :: es)).bind fun z => if hm : lastMarks (op :: op' :: ops) (e :: e' :: es) = false then some ⟨eChN x.m z.l, x.lk ++ z.lk, fun cv X W g h => j_links (x.ok cv X W g h) z.b (z.ok cv X W g h) hm⟩ else none
  | _, _ => none
/-! ### the wider translator -/
end U
set_option Elab.async false
set_option linter.all false
set_option maxRecDepth 100000
set_option maxHeartbeats 1000000
namespace U
open PySem PySem.Spec PyProof.Rows L2 HT
section
variable {prog : Program} {w : World} {A : Around} {E : Value → Shared → Prop} {s : Shared}
theorem adjust_rev (n : Nat) : Builtin.Slice.sliceAdjust none none (-1) (n : Int) = ((n : Int) - 1, -1) := by
  unfold Builtin.Slice.sliceAdjust
  rfl
theorem places_rev (n : Nat) : Builtin.Slice.slicePlaces ((n : Int) - 1) (-1) (-1) = n := by
  unfold Builtin.Slice.slicePlaces
  have h1 : ¬ ((-1 : Int) > 0) := by omega
  simp only [h1, if_false]
  have e : -(-1 : Int) = 1 := by decide
  rw [e, Int.ediv_one]
  split <;> omega
theorem sliceApplied_rev {sl : Addr} {vl vu vs : Value} {n : Nat} {Q : Int × Int × Nat → Shared → Prop} (hs : s.heap.IsSliceOf sl vl vu vs) (pl : IsPart vl none) (pu : IsPart vu none) (ps : IsPart vs (some (-1)))
    (h : Q ((n : Int) - 1, -1, n) s) : wpAny (model prog w) A (Builtin.Slice.sliceApplied (.ref sl) (pure (n : Int))) Q E s := by
  obtain ⟨os, hos, hcs, hds⟩ := id hs
  unfold Builtin.Slice.sliceApplied Builtin.Slice.sliceFields
  refine wpAny_bind (wpAny_bind (wpAny_field hos hds (x := vl) rfl (wpAny_bind (wpAny_field hos hds (x := vu) rfl (wpAny_bind (wpAny_field hos hds (x := vs) rfl (wpAny_pure ?_)))))))
  refine wpAny_bind (slicePart_ ps ?_)
  show wpAny _ _ (if ((-1 : Int) == 0) = true then _ else _) _ _ s
  rw [if_neg (by decide)]
  refine wpAny_bind (slicePart_ pl (wpAny_bind (slicePart_ pu (wpAny_bind (wpAny_pure ?_)))))
  show wpAny _ _ (match Builtin.Slice.sliceAdjust none none (-1) (n : Int) with | (lo, hi) => pure (lo, (-1 : Int), Builtin.Slice.slicePlaces lo hi (-1))) _ _ s
  rw [adjust_rev n]
  show wpAny _ _ (pure ((n : Int) - 1, (-1 : Int), Builtin.Slice.slicePlaces ((n : Int) - 1) (-1) (-1))) _ _ s
  rw [places_rev]
  exact wpAny_pure h
theorem pick_rev (xs : Array Value) : ((List.range xs.size).filterMap fun (m : Nat) => xs[((xs.size : Int) - 1 + (m : Int) * (-1)).toNat]?).toArray = xs.toList.reverse.toArray := by
  have e : (fun (m : Nat) => xs[((xs.size : Int) - 1 + (m : Int) * (-1)).toNat]?) = (fun x => xs[x]?) ∘ fun m => xs.size - 1 - m := by
    funext m
    have : ((xs.size : Int) - 1 + (m : Int) * (-1)).toNat = xs.size - 1 - m := by omega
    show _ = xs[xs.size - 1 - m]?
    rw [this]
  rw [e, ← List.filterMap_map, PySem.W.krv_range, List.filterMap_reverse, PySem.W.krv_all]
theorem getItem_tuple_rev {t sl : Addr} {items : Array Value} {vl vu vs : Value} {Q : Value → Shared → Prop} (ht : IsTup s.heap t items) (hs : s.heap.IsSliceOf sl vl vu vs) (pl : IsPart vl none) (pu : IsPart vu none) (ps : IsPart vs (some (-1)))
    (h : Q (.ref s.heap.objs.size) { s with heap := s.heap.push { cls := .type "tuple", data := .seq items.toList.reverse.toArray } })
    (hsz : items.size ≤ sizeLine) : wpAny (model prog w) A (getItem (.ref t) (.ref sl)) Q E s := by
  have htake : sizeOk (.seq items.toList.reverse.toArray) := by
    show items.toList.reverse.toArray.size ≤ sizeLine
    rw [List.size_toArray, List.length_reverse, Array.length_toList]
    exact hsz
  obtain ⟨os, hos, hcs, hds⟩ := id hs
  have hTs : s.TypeIs (.ref sl) "slice" := ⟨os, hos, hcs⟩
  unfold getItem
  try with_reducible refine wpAny_holding ?_
  first | refine wpAny_bind (wpAny_pure ?_) | skip
  refine wpAny_bind (wpAny_sequenceKey ht.typeIs (by decide) ?_)
  refine wpAny_bind (wpAny_callSpecial?_slot (name := Str.ofString "__getitem__") ht.typeIs PyProof.Rows.slot_tuple_getitem
    (wpAny_call_entry PyProof.Rows.slot_tuple_getitem ht.typeIs entry_tuple_getitem ?_ (args_tuple_getitem _ _)))
  show wpAny _ _ (Builtin.Tuple.tupleItemsOf (.ref t) >>= _) _ _ s
  refine wpAny_bind (tupleItemsOf_ ht ?_)
  refine wpAny_bind (wpAny_typeOf hTs ?_)
  rw [if_pos (by decide)]
  refine wpAny_bind (sliceApplied_rev hs pl pu ps ?_)
  have hno : ¬ ((((items.size : Int) - 1) == 0 && (-1 : Int) == 1 && items.size == items.size) = true) := by
    intro q
    rw [Bool.and_eq_true, Bool.and_eq_true] at q
    exact absurd q.1.2 (by decide)
  show wpAny _ _ (if ((((items.size : Int) - 1) == 0 && (-1 : Int) == 1 && items.size == items.size) = true) then _ else _) _ _ s
  rw [if_neg hno, pick_rev]
  first
    | exact wpAny_bind (m := Builtin.Tuple.tupleExact _) (wpAny_newObj_type (wpAny_pure ⟨_, rfl, wpAny_pure h⟩) htake)
    | exact wpAny_bind (m := Builtin.Tuple.tupleExact _) (wpAny_newObj_type (wpAny_bind (wpAny_pure (wpAny_pure ⟨_, rfl, wpAny_pure h⟩))) htake)
    | exact wpAny_bind (wpAny_bind (m := Builtin.Tuple.tupleExact _) (wpAny_newObj_type (wpAny_pure (wpAny_pure ⟨_, rfl, wpAny_pure h⟩)) htake))
    | exact wpAny_bind (wpAny_bind (m := Builtin.Tuple.tupleExact _) (wpAny_newObj_type (wpAny_pure ⟨_, rfl, wpAny_pure h⟩) htake))
end
section
variable {X : Cx}
def tRevT (K : PySem.W.Frag) (te : TE) : TE := fun σ H Q => te σ H fun x H1 => ∃ a xs, x = .ref a ∧ SqT K H1 a xs ∧ ∀ p, H1 p = none → Q (.ref p) (upd H1 p (.tup xs.reverse))
theorem pe_revT {e : Expr} {te : TE} {k : Nat} {p1 p2 p3 pos : Pos} (he : PE X e te) : PE X (.Subscript e (.Slice none none (some (.UnaryOp .USub (.Constant (.int 1) k p1) p2)) p3) pos) (tRevT X.K te) := by
  refine ⟨fun pins s σ H Q I h => ?_⟩
  refine Subscript_ (thn (he.run pins s σ H _ I h) fun v s1 ⟨x, H1, I1, r1, q1⟩ => ?_)
  obtain ⟨a, xs, ex, hx, q⟩ := q1
  subst ex
  cases r1
  have hst : PO X (some (.UnaryOp .USub (.Constant (.int 1) k p1) p2)) (tPart (tUn (rU fun i => .int (-i)) (tC (.int 1)))) := po_some (pe_un un_neg pe_int)
  refine wpAny_Slice (thn (po_none.run pins s1 σ H1 (fun o H2 => o = none ∧ H2 = H1) I1 ⟨rfl, rfl⟩) fun vl s2 ⟨l, H2, I2, pl, el, e2⟩ => ?_)
  subst el e2
  refine thn (po_none.run pins s2 σ H2 (fun o H3 => o = none ∧ H3 = H2) I2 ⟨rfl, rfl⟩) fun vu s3 ⟨u, H3, I3, pu, eu, e3⟩ => ?_
  subst eu e3
  refine thn (hst.run pins s3 σ H3 (fun o H4 => o = some (-1) ∧ H4 = H3) I3 ⟨1, rfl, -1, rfl, rfl, rfl⟩) fun vs s4 ⟨o, H4, I4, ps, eo, e4⟩ => ?_
  subst eo e4
  have I5 : Inv X pins σ H4 { s4 with heap := s4.heap.push { cls := .type "slice", data := .fields #[vl, vu, vs] } } := I4.kept (t' := s4.toks) fun b ob q => Heap.get?_push_of_some _ q
  obtain ⟨its, r, ht, hz⟩ := I5.tuple hx
  have hlen := r.length
  show wpAny (model X.prog X.w) X.A (subscriptTail e (.Slice none none (some (.UnaryOp .USub (.Constant (.int 1) k p1) p2)) p3) (.ref a) (.ref s4.heap.objs.size)) (EP X pins σ Q) X.xe { s4 with heap := s4.heap.push { cls := .type "slice", data := .fields #[vl, vu, vs] } }
  refine tail_any (ops := [.ref a, .ref s4.heap.objs.size]) ht.typeIs (PyProof.Rows.slot_tuple_getitem.lookup) ?_ (by with_unfolding_all rfl)
  refine getItem_tuple_rev ht (Heap.IsSliceOf.new _ vl vu vs) pl pu ps ?_ (by rw [List.size_toArray]; omega)
  refine ⟨.ref _, _, I5.laid (t' := s4.toks) (o := .tup xs.reverse) (fun b ob q => Heap.get?_push_of_some _ q) (Nat.le_refl _) ?_, rfl, q _ (I5.hok.fresh (Nat.le_refl _))⟩
  exact ⟨by rw [List.length_reverse]; exact hz, _, r.reverse, IsTup.new _ _⟩
end
/-! ### the layer's forms -/
theorem dps_ap2 {F : Hp} : ∀ {xs ys : List V} {ds es : List D}, DrAll F xs ds → DrAll F ys es → DrAll F (xs ++ ys) (ds ++ es)
  | _, _, _, _, .nil, h => h
  | _, _, _, _, .cons h hs, k => .cons h (dps_ap2 hs k)
theorem dps_rev {F : Hp} : ∀ {xs : List V} {ds : List D}, DrAll F xs ds → DrAll F xs.reverse ds.reverse
  | _, _, .nil => .nil
  | _, _, .cons h hs => by
    rw [List.reverse_cons, List.reverse_cons]
    exact dps_ap2 (dps_rev hs) (.cons h .nil)
def rvD : D → Res
  | .tuple xs => .ok (.tuple xs.reverse)
  | _ => .bad
def eRev (ma : Sm) : Sm := fun ρ => (ma ρ).bind rvD
def eBad : Sm := fun _ => .bad
section
variable {X : Cx} {cv : Nat → Value} {W : WX} {a : Expr} {ma : Sm} {pos : Pos}
theorem j_rev {k : Nat} {p1 p2 p3 : Pos} (ha : JW X cv W a ma) : JE X cv W (.Subscript a (.Slice none none (some (.UnaryOp .USub (.Constant (.int 1) k p1) p2)) p3) pos) (eRev ma) :=
  PE.imp (pe_revT ha) fun σ H Q ⟨ρ, F, r, q⟩ => by
    refine ⟨ρ, F, r, ?_⟩
    unfold eRev at q
    have go : ∀ d, GotE cv W F H σ Q (rvD d) → QW F H d fun x H1 => ∃ a xs, x = .ref a ∧ SqT X.K H1 a xs ∧ ∀ p, H1 p = none → Q (.ref p) (upd H1 p (.tup xs.reverse)) := fun d q v F1 H1 ev wk => by
      cases d <;> try exact q.elim
      obtain ⟨p, xs, rfl, hpF, hp, hx⟩ := wk.tuple ev.le
      exact ⟨p, xs, rfl, .inl (.inl hp), fun l hl => QD.tup ev.le (QD.evo ev q) (dps_rev hx) hl⟩
    cases h : ma ρ with
    | ok d => rw [h] at q; exact go d q
    | new d => rw [h] at q; exact go _ q
    | exc c => rw [h] at q; exact q
    | bad => rw [h] at q; exact q
theorem j_bad {e : Expr} : JE X cv W e eBad := ⟨fun pins s σ H Q I h => by
  obtain ⟨ρ, F, _, q⟩ := h
  exact False.elim q⟩
end
variable {S : S0}
def revOf (r : TR S) (sc : Scope) (a : Expr) (pos : Pos) : (i : Expr) → Option (OkE S sc (.Subscript a i pos))
  | .Slice none none (some (.UnaryOp .USub (.Constant (.int 1) k p1) p2)) p3 => (wOf r sc a).map fun x => ⟨eRev x.m, x.lk, fun cv X W g h => j_rev (x.ok cv X W g h)⟩
  | _ => none
def moreD (r : TR S) (sc : Scope) : (e : Expr) → Option (OkE S sc e)
  | .Compare a ops bs pos => chainOf r sc a pos ops bs
  | .Subscript a i pos => revOf r sc a pos i
  | _ => none
end U
set_option Elab.async false
set_option linter.all false
set_option maxRecDepth 100000
set_option maxHeartbeats 1000000
namespace U
open PySem PySem.Spec PyProof.Rows L2
/-! ### sorted(set(t)), t a tuple of ints -/
def rSetTI (K : PySem.W.Frag) (w : World) : List V → Hp → VK → Prop := fun xs H Q => ∃ (p : Addr) (ns : List Int), xs = [.ref p] ∧ SqT K H p (ns.map V.int) ∧ ns.length < 60 ∧ ∀ a c, H a = none → c ≤ ns.length → Q (.ref a) (upd H a (SetO w a (fun j => decide (j ∈ ns)) c))
section
variable {X : Cx}
theorem cr_setTI (hc : X.calm = true) : CallR X (.type "set") (rSetTI X.K X.w) := by
  intro pins s σ H xs us Q I r h
  obtain ⟨p, ns, rfl, hp, hl, q⟩ := h
  rw [Vals.ref1 r]
  obtain ⟨its, rv, pt, hz⟩ := I.tuple hp
  have hi : IntsAre its.toArray.toList ns := ints_of_vals rv
  refine call_set_tupI ns (I.ok.hd hc) (show s.heap.IsTuple p its.toArray from pt) hi (by unfold scanBound; omega) fun h' tk c R1 hcn k => ?_
  exact ⟨.ref _, upd H s.heap.objs.size (SetO X.w s.heap.objs.size (fun j => decide (j ∈ ns)) c), I.laid (t' := tk) k (Nat.le_refl _) (setO_new R1), rfl, q _ c (I.hok.fresh (Nat.le_refl _)) hcn⟩
theorem pe_srt {e : Expr} {te : TE} {p p2 q2 pos : Pos} (hc : X.calm = true) (hg : Gl X "sorted") (hm : X.mg "sorted" = none) (hg2 : Gl X "set") (hm2 : X.mg "set" = none) (he : PE X e te) (hs : notStar e = true) :
    PE X (.Call (.Name "sorted" p) [.Call (.Name "set" p2) [e] [] q2] [] pos) (fun σ H Q => te σ H fun x H1 => rSetTI X.K X.w [x] H1 fun y H2 => rSortedSet X.w [y] H2 Q) := by
  have i1 : PE X (.Call (.Name "set" p2) [e] [] q2) _ := pe_callTy (cr_setTI hc) hg2 hm2 PyProof.Rows.boot_set (pa_cons he pa_nil (star_cons hs)) (by decide) (by decide) (star_cons hs) rfl
  have i2 : PE X (.Call (.Name "sorted" p) [.Call (.Name "set" p2) [e] [] q2] [] pos) _ := pe_callB (cr_sortedSet hc) hg hm PyProof.Rows.boot_sorted (pa_cons i1 pa_nil rfl) (by decide) (by decide) rfl rfl
  exact i2
end
/-! the ascending list without repeats -/
def insU (k : Int) : List Int → List Int
  | [] => [k]
  | x :: xs => if k < x then k :: x :: xs else if k = x then x :: xs else x :: insU k xs
def srt : List Int → List Int
  | [] => []
  | k :: ks => insU k (srt ks)
theorem mem_insU (k j : Int) : ∀ l : List Int, j ∈ insU k l ↔ j = k ∨ j ∈ l
  | [] => by simp [insU]
  | x :: xs => by
    unfold insU
    split
    · simp
    · split
      · rename_i h; subst h; simp
      · simp only [List.mem_cons, mem_insU k j xs]
        constructor
        · rintro (h | h | h)
          · exact .inr (.inl h)
          · exact .inl h
          · exact .inr (.inr h)
        · rintro (h | h | h)
          · exact .inr (.inl h)
          · exact .inl h
          · exact .inr (.inr h)
theorem pw_insU (k : Int) : ∀ l : List Int, l.Pairwise (· < ·) → (insU k l).Pairwise (· < ·)
  | [], _ => by simp [insU]
  | x :: xs, h => by
    rw [List.pairwise_cons] at h
    unfold insU
    split
    · rename_i h1
      rw [List.pairwise_cons, List.pairwise_cons]
      refine ⟨fun y hy => ?_, h⟩
      rcases List.mem_cons.mp hy with rfl | hy
      · exact h1
      · have := h.1 y hy; omega
    · split
      · rw [List.pairwise_cons]; exact h
      · rw [List.pairwise_cons]
        refine ⟨fun y hy => ?_, pw_insU k xs h.2⟩
        rcases (mem_insU k y xs).mp hy with rfl | hy
        · omega
        · exact h.1 y hy
theorem mem_srt (j : Int) : ∀ l : List Int, j ∈ srt l ↔ j ∈ l
  | [] => by simp [srt]
  | k :: ks => by rw [srt, mem_insU, mem_srt j ks, List.mem_cons]
theorem pw_srt : ∀ l : List Int, (srt l).Pairwise (· < ·)
  | [] => by simp [srt]
  | k :: ks => pw_insU k _ (pw_srt ks)
theorem pw_uniq : ∀ {a b : List Int}, a.Pairwise (· < ·) → b.Pairwise (· < ·) → (∀ k, k ∈ a ↔ k ∈ b) → a = b
  | [], [], _, _, _ => rfl
  | [], y :: ys, _, _, h => absurd ((h y).mpr List.mem_cons_self) (by simp)
  | x :: xs, [], _, _, h => absurd ((h x).mp List.mem_cons_self) (by simp)
  | x :: xs, y :: ys, ha, hb, h => by
    rw [List.pairwise_cons] at ha hb
    have e : x = y := by
      rcases List.mem_cons.mp ((h x).mp List.mem_cons_self) with e | h1
      · exact e
      · rcases List.mem_cons.mp ((h y).mpr List.mem_cons_self) with e | h2
        · exact e.symm
        · have := hb.1 x h1; have := ha.1 y h2; omega
    subst e
    have : xs = ys := pw_uniq ha.2 hb.2 fun k => by
      constructor
      · intro hk
        rcases List.mem_cons.mp ((h k).mp (List.mem_cons_of_mem _ hk)) with e | h1
        · subst e; have := ha.1 k hk; omega
        · exact h1
      · intro hk
        rcases List.mem_cons.mp ((h k).mpr (List.mem_cons_of_mem _ hk)) with e | h1
        · subst e; have := hb.1 k hk; omega
        · exact h1
    rw [this]
def intsOf : List D → Option (List Int)
  | [] => some []
  | .int i :: ds => (intsOf ds).map (i :: ·)
  | _ => none
theorem dps_ints {F : Hp} : ∀ {ds : List D} {xs : List V} {ns : List Int}, intsOf ds = some ns → DrAll F xs ds → xs = ns.map V.int
  | [], _, ns, h, hd => by cases h; cases hd; rfl
  | d :: ds, _, ns, h, hd => by
    cases d <;> try cases h
    rename_i i
    simp only [intsOf] at h
    cases hi : intsOf ds with
    | none => rw [hi] at h; cases h
    | some ms =>
      rw [hi] at h; cases h
      cases hd with
      | cons h1 h2 =>
        cases h1
        rw [dps_ints hi h2] <;> rfl
theorem dps_ofInts {F : Hp} : ∀ ns : List Int, DrAll F (ns.map V.int) (ns.map PyData.int)
  | [] => .nil
  | i :: r => .cons (.int i) (dps_ofInts r)
def srtD : D → Res
  | .tuple ds => match intsOf ds with
    | some ns => if ns.length < 60 then .new ((srt ns).map .int) else .bad
    | none => .bad
  | _ => .bad
def eSrt (ma : Sm) : Sm := fun ρ => (ma ρ).bind srtD
theorem j_srt {X : Cx} {cv : Nat → Value} {W : WX} {a : Expr} {ma : Sm} {p p2 q2 pos : Pos} (hc : X.calm = true) (hg : Gl X "sorted") (hm : X.mg "sorted" = none) (hg2 : Gl X "set") (hm2 : X.mg "set" = none) (ha : JW X cv W a ma) (hs : notStar a = true) : JE X cv W (.Call (.Name "sorted" p) [.Call (.Name "set" p2) [a] [] q2] [] pos) (eSrt ma) :=
  PE.imp (pe_srt hc hg hm hg2 hm2 ha hs) fun σ H Q ⟨ρ, F, r, q⟩ => by
    refine ⟨ρ, F, r, ?_⟩
    unfold eSrt at q
    have go : ∀ d, GotE cv W F H σ Q (srtD d) → QW F H d fun x H1 => rSetTI X.K X.w [x] H1 fun y H2 => rSortedSet X.w [y] H2 Q := fun d q v F1 H1 ev wk => by
      cases d <;> try exact q.elim
      rename_i ds
      unfold srtD at q
      simp only at q
      cases hi : intsOf ds with
      | none => rw [hi] at q; exact q.elim
      | some ns =>
        rw [hi] at q
        simp only at q
        split at q
        case isFalse => exact q.elim
        rename_i hl
        obtain ⟨p, xs, rfl, hpF, hp, hx⟩ := wk.tuple ev.le
        have ex := dps_ints hi hx
        subst ex
        refine ⟨p, ns, rfl, .inl (.inl hp), hl, fun a c ha hc => ⟨a, _, c, rfl, upd_same, by omega, fun out p' pw mem len hp' => ?_⟩⟩
        have eo : out = srt ns := pw_uniq pw (pw_srt ns) fun k => by rw [mem k, mem_srt, decide_eq_true_eq]
        subst eo
        have q' : QN F1 H1 ((srt ns).map .int) Q := QN.evo ev q
        have f1 : H1 p' = none := none_back (Evl.Ex.new ha) hp'
        exact q' p' _ F1 _ (((Evo.refl ev.le).own ha).own hp') f1 (none_back ev.le f1) upd_same (dps_ofInts _)
    cases h : ma ρ with
    | ok d => rw [h] at q; exact go d q
    | new d => rw [h] at q; exact go _ q
    | exc c => rw [h] at q; exact q
    | bad => rw [h] at q; exact q
variable {S : S0}
def srtOf (r : TR S) (sc : Scope) : (e : Expr) → Option (OkE S sc e)
  | .Call (.Name x p) [.Call (.Name y p2) [a] [] q2] [] pos => if h : x = "sorted" ∧ y = "set" ∧ glB sc x = true ∧ glB sc y = true ∧ notStar a = true then (wOf r sc a).map fun u => ⟨eSrt u.m, u.lk, fun cv X W g e => by
      obtain ⟨h1, h2, h3, h4, h5⟩ := h
      subst h1 h2
      exact j_srt g.calm (Gd.gl (cv := cv) (W := W) e h3) (g.blt _ (by decide +kernel)) (Gd.gl (cv := cv) (W := W) e h4) (g.blt _ (by decide +kernel)) (u.ok cv X W g e) h5⟩ else none
  | _ => none
end U
set_option Elab.async false
set_option linter.all false
set_option maxRecDepth 100000
set_option maxHeartbeats 1000000
namespace U
open PySem PySem.Spec PyProof.Rows L2
/-! ### a suite that gathers answers about the error: x = [..]; x = x + [..]; .. -/
def evX (c : Nat) : List Xm → Option (List Bool)
  | [] => some []
  | m :: ms => match m c with
    | some (.bl b) => (evX c ms).map (b :: ·)
    | _ => none
def rdXs (ms : List Xm) (c i : Nat) (a : Addr) : TA := fun σ H Q => σ[i]? = some (some (.ref a)) ∧ ∃ bs, evX c ms = some bs ∧ Q (bs.map V.bl) H
def JXs (X : Cx) (cv : Nat → Value) (n : List Nat) (i : Nat) (es : List Expr) (ms : List Xm) : Prop := ∀ (a : Addr) (oe : Obj) (c : Nat) (pn : List (Addr × Obj)), c ∈ n → Zc (cv c) none oe → (∃ vs, oe.data = .fields vs) → PA (X.suite a ((a, oe) :: pn)) es (rdXs ms c i a)
section
variable {X : Cx} {cv : Nat → Value} {n : List Nat} {i j : Nat}
theorem jxs_nil : JXs X cv n i [] [] := fun a oe c pn hc hz hf => PA.imp pa_nil fun σ H Q ⟨_, bs, h, q⟩ => by cases h; exact q
theorem jxs_cons {e : Expr} {es : List Expr} {m : Xm} {ms : List Xm} (he : JX X cv n i e m) (hs : notStar e = true) (hr : JXs X cv n i es ms) : JXs X cv n i (e :: es) (m :: ms) := fun a oe c pn hc hz hf =>
  PA.imp (pa_cons (he a oe c pn hc hz hf) (hr a oe c pn hc hz hf) (star_cons hs)) fun σ H Q ⟨hi, bs, h, q⟩ => by
    unfold evX at h
    cases hm : m c with
    | none => rw [hm] at h; cases h
    | some v =>
      rw [hm] at h
      cases v <;> try cases h
      rename_i b
      cases hb : evX c ms with
      | none => rw [hb] at h; cases h
      | some bs' =>
        rw [hb] at h; cases h
        exact ⟨hi, _, hm, hi, bs', hb, q⟩
/-- the rows of the suite -/
inductive SuJ (X : Cx) (cv : Nat → Value) (n : List Nat) (i j : Nat) (x : Str) : List Stmt → List (List Xm) → Prop
  | nil : SuJ X cv n i j x [] []
  | cons {es : List Expr} {ms : List Xm} {p p2 lp bp pos : Pos} {rest : List Stmt} {mr : List (List Xm)} (h : JXs X cv n i es ms) (hl : ms.length ≤ 100) (r : SuJ X cv n i j x rest mr) : SuJ X cv n i j x (.Assign [.Name x p] (.BinOp (.Name x p2) .Add (.List es lp) bp) pos :: rest) (ms :: mr)
/-- where the list stands -/
structure Sst (j : Nat) (F H0 : Hp) (σ0 : L2.St) (bs : List Bool) (σ : L2.St) (H : Hp) : Prop where
  ok : ∃ p F1 xs, σ = σ0.set j (some (.ref p)) ∧ Evo F H0 F1 H ∧ H0 p = none ∧ F1 p = none ∧ H p = some (.lst xs) ∧ DrAll F1 xs (bs.map PyData.bool)
theorem dps_bools {F : Hp} : ∀ bs : List Bool, DrAll F (bs.map V.bl) (bs.map PyData.bool)
  | [] => .nil
  | b :: r => .cons (.bl b) (dps_bools r)
theorem evX_app {c : Nat} : ∀ {ms ns : List Xm} {bs : List Bool}, evX c (ms ++ ns) = some bs → ∃ b1 b2, evX c ms = some b1 ∧ evX c ns = some b2 ∧ bs = b1 ++ b2
  | [], ns, bs, h => ⟨[], bs, rfl, h, rfl⟩
  | m :: ms, ns, bs, h => by
    simp only [List.cons_append] at h
    rw [evX] at h
    cases hm : m c with
    | none => rw [hm] at h; cases h
    | some v =>
      rw [hm] at h
      cases v <;> try cases h
      rename_i b
      cases hb : evX c (ms ++ ns) with
      | none => rw [hb] at h; cases h
      | some bs' =>
        rw [hb] at h; cases h
        obtain ⟨b1, b2, h1, h2, rfl⟩ := evX_app hb
        exact ⟨b :: b1, b2, by rw [evX, hm]; simp only [h1]; rfl, h2, rfl⟩
section
variable {x : Str} (hN : X.N.Nodup) (hj : X.N[j]? = some x) (hx : Loc X.env.scope x) (hfn : X.env.scope.names.lookup x = some .local) (hv : Vis X.env.scope x) (hdb : (x == ("__debug__" : Str)) = false) (hcd : (x == ("__classdict__" : Str)) = false) (hij : i ≠ j) (a : Addr) (oe : Obj) (c : Nat) (pn : List (Addr × Obj)) (hc : c ∈ n) (hz : Zc (cv c) none oe) (hf : ∃ vs, oe.data = .fields vs) (F H0 : Hp) (σ0 : L2.St) (le0 : Ex F H0) (hi0 : σ0[i]? = some (some (.ref a))) (hlen : j < σ0.length)
include hN hj hx hfn hv hdb hcd hij hc hz hf le0 hi0 hlen
theorem su_run {sts : List Stmt} {mss : List (List Xm)} (hsu : SuJ X cv n i j x sts mss) : PSs (X.suite a ((a, oe) :: pn)) sts (fun Dn σ H => ∃ bs, Sst j F H0 σ0 bs σ H ∧ ∃ bs', evX c mss.flatten = some bs' ∧ bs.length + bs'.length ≤ 1000 ∧ ∀ σ' H', Sst j F H0 σ0 (bs ++ bs') σ' H' → Dn.nx σ' H') := by
  induction hsu with
  | nil =>
    refine PSs.imp pss_nil fun Dn σ H hh => ?_
    obtain ⟨bs, S, bs', h, _, q⟩ := hh
    cases h
    rw [List.append_nil] at q
    exact q σ H S
  | @cons es ms p p2 lp bp pos rest mr h hl r ih =>
    refine PSs.imp (pss_cons (ps_set (X := X.suite a ((a, oe) :: pn)) hN hj hx (pe_op (X := X.suite a ((a, oe) :: pn)) o_add (pe_var (X := X.suite a ((a, oe) :: pn)) hj hv hdb hcd) (pe_lst (h a oe c pn hc hz hf))) (sw_no rfl) (.inr hfn)) ih) fun Dn σ H hh => ?_
    obtain ⟨bs, ⟨q0, F1, xs, rfl, ev, h0, hF1, hH, hd⟩, bs', he, hn, q⟩ := hh
    rw [List.flatten_cons] at he
    obtain ⟨b1, b2, e1, e2, rfl⟩ := evX_app he
    refine ⟨.ref q0, by rw [List.getElem?_set_self hlen], ?_⟩
    refine ⟨by rw [List.getElem?_set_ne (Ne.symm hij)]; exact hi0, b1, e1, by rw [List.length_map, sizeLine_eq]; simp only [List.length_append] at hn; omega, fun q1 hq1 => ?_⟩
    have evo1 : Evo F1 H F1 (upd H q1 (.lst (b1.map V.bl))) := (Evo.refl ev.le).own hq1
    have w1 : Wk F1 (upd H q1 (.lst (b1.map V.bl))) (.ref q0) (.list (bs.map .bool)) := Wk.evo evo1 (.inr ⟨q0, xs, _, rfl, rfl, hH, hd⟩)
    have w2 : Wk F1 (upd H q1 (.lst (b1.map V.bl))) (.ref q1) (.list (b1.map .bool)) := .inr ⟨q1, _, _, rfl, rfl, upd_same, dps_bools b1⟩
    refine ⟨F1, _, _, evo1.le, w1, w2, ?_⟩
    show GotP F1 _ _ (if (bs.map PyData.bool).length + (b1.map PyData.bool).length ≤ 100000 then Rp.new (bs.map PyData.bool ++ b1.map PyData.bool) else .bad)
    rw [if_pos (by simp only [List.length_map, List.length_append] at hn ⊢; omega)]
    intro p3 xs3 F3 H3 ev3 g1 g2 g3 g4
    have evA : Evo F H0 F3 H3 := (ev.trans evo1).trans ev3
    refine ⟨bs ++ b1, ⟨p3, F3, xs3, by rw [List.set_set], evA, none_back (ev.trans evo1).hx g1, g2, g3, by rw [List.map_append]; exact g4⟩, b2, e2, by simp only [List.length_append] at hn ⊢; omega, fun σ' H' S => q σ' H' (by rw [← List.append_assoc]; exact S)⟩
theorem su_first {es : List Expr} {ms : List Xm} {p lp pos : Pos} {sts : List Stmt} {mss : List (List Xm)} (h : JXs X cv n i es ms) (hsu : SuJ X cv n i j x sts mss) : PSs (X.suite a ((a, oe) :: pn)) (.Assign [.Name x p] (.List es lp) pos :: sts) (fun Dn σ H => σ = σ0 ∧ H = H0 ∧ ∃ bs, evX c (ms ++ mss.flatten) = some bs ∧ bs.length ≤ 1000 ∧ ∀ σ' H', Sst j F H0 σ0 bs σ' H' → Dn.nx σ' H') := by
  refine PSs.imp (pss_cons (ps_set (X := X.suite a ((a, oe) :: pn)) hN hj hx (pe_lst (h a oe c pn hc hz hf)) (sw_no rfl) (.inr hfn)) (su_run hN hj hx hfn hv hdb hcd hij a oe c pn hc hz hf F H0 σ0 le0 hi0 hlen hsu)) fun Dn σ H hh => ?_
  obtain ⟨rfl, rfl, bs, he, hn, q⟩ := hh
  obtain ⟨b1, b2, e1, e2, rfl⟩ := evX_app he
  refine ⟨hi0, b1, e1, by rw [List.length_map, sizeLine_eq]; simp only [List.length_append] at hn; omega, fun q1 hq1 => ?_⟩
  exact ⟨b1, ⟨q1, F, _, rfl, (Evo.refl le0).own hq1, hq1, none_back le0 hq1, upd_same, dps_bools b1⟩, b2, e2, by simp only [List.length_append] at hn; omega, q⟩
end
end
theorem RelB.un {cv : Nat → Value} {B : Bb} {ρ : Rho} {σ : L2.St} {F H : Hp} (r : RelB cv B ρ σ F H) (i : Nat) (o : Option V) : RelB cv B (ρ.set i .un) (σ.set i o) F H := by
  refine ⟨r.rel.un i o, r.evo, fun j ds p e1 e2 => ?_, fun a k fs h3 e1 => ?_⟩
  case refine_2 =>
    rw [set_get] at e1 ⊢
    split at e1
    · cases e1
    · rename_i hz
      rw [if_neg (by rw [← r.rel.len]; exact hz)]
      exact r.slf a k fs h3 e1
  rw [set_get] at e1 e2
  split at e1
  · cases e1; simp at e2
  · rename_i hz
    rw [if_neg (by rw [← r.rel.len]; exact hz)] at e2
    exact r.own j ds p e1 e2
def sTryF (sub : Nat → Nat → Bool) (n : List Nat) (body : Ss) (k i j : Nat) (ms : List Xm) : Ss := fun ρ => match body ρ with
  | .ex c ρ' => if sub c k = true then (match evX c ms with
    | some bs => if c ∈ n ∧ i < ρ'.length ∧ j < ρ'.length ∧ bs.length ≤ 1000 then .nx ((ρ'.set i .un).set j (.ow (bs.map .bool))) else .bad
    | none => .bad) else .bad
  | f => f
theorem js_tryF {X : Cx} {cv : Nat → Value} {W : WX} {sub : Nat → Nat → Bool} {n : List Nat} {body : List Stmt} {mb : Ss} {pos np pos' p lp apos : Pos} {y nm x : Str} {k i j : Nat} {es : List Expr} {ms : List Xm} {sts : List Stmt} {mss : List (List Xm)} (hs : X.stack = X.env :: X.outer) (hf : X.env.frame = some X.env.locals) (hN : X.N.Nodup) (tk : Takes X W) (C : Clss X.K cv sub n)
    (hb : ∀ (W : WX) (pn : List (Addr × Obj)) (xe : Value → Shared → Prop), Takes (X.tr pn xe) W → PassesOwn (model X.prog X.w) X.A X.env xe → JFs (X.tr pn xe) cv W body mb) (hk : k ∈ n) (hc : Names X y (cv k)) (hi : X.N[i]? = some nm) (hln : X.env.kindOf nm = some .local)
    (hj : X.N[j]? = some x) (hx : Loc X.env.scope x) (hfn : X.env.scope.names.lookup x = some .local) (hv : Vis X.env.scope x) (hdb : (x == ("__debug__" : Str)) = false) (hcd : (x == ("__classdict__" : Str)) = false) (hij : i ≠ j) (h1 : JXs X cv n i es ms) (h2 : SuJ X cv n i j x sts mss) :
    JF X cv W (.Try body [.ExceptHandler (some (.Name y np)) (some nm) (.Assign [.Name x p] (.List es lp) apos :: sts) pos'] [] [] pos) (sTryF sub n mb k i j (ms ++ mss.flatten)) := fun B => by
  let ts : Addr → Value → Option Addr → TS := fun a cls d Dn σ H => ∃ c F bs, cls = cv c ∧ d = none ∧ c ∈ n ∧ Ex F H ∧ σ[i]? = some (some (.ref a)) ∧ j < σ.length ∧ evX c (ms ++ mss.flatten) = some bs ∧ bs.length ≤ 1000 ∧ ∀ σ' H', Sst j F H σ bs σ' H' → Dn.nx σ' H'
  have L : HdsAs X [.ExceptHandler (some (.Name y np)) (some nm) (.Assign [.Name x p] (.List es lp) apos :: sts) pos'] [(cv k, i, ts)] := by
    refine .cons hc hi hln (fun a oe cls d pn hz hfl => ⟨fun pins s σ H Dn I hh => ?_⟩) .nil
    obtain ⟨c, F, bs, rfl, rfl, hcn, le, hia, hjl, he, hn, q⟩ := hh
    exact (su_first hN hj hx hfn hv hdb hcd hij a oe c pn hcn hz hfl F H σ le hia hjl h1 h2).run pins s σ H Dn I ⟨rfl, rfl, bs, he, hn, q⟩
  refine PS.imp (ps_try_all (tb := fun W => rdF cv W B mb) hs hf hN tk (fun W pn xe t po => hb W pn xe t po B) L) fun Dn σ H ⟨ρ, F, r, q⟩ => ⟨ρ, F, r, ?_⟩
  unfold sTryF at q
  cases h : mb ρ with
  | nx ρ' => rw [h] at q; exact q
  | rt d => rw [h] at q; exact q
  | rn d => rw [h] at q; exact q
  | rm d ρ' => rw [h] at q; exact q
  | rb k fs => rw [h] at q; exact q
  | bad => rw [h] at q; exact q
  | ex c ρ' =>
    rw [h] at q
    simp only at q
    intro σ' F' H' r'
    split at q
    case isFalse => exact q.elim
    rename_i hsub
    cases he : evX c (ms ++ mss.flatten) with
    | none => rw [he] at q; exact q.elim
    | some bs =>
      rw [he] at q
      simp only at q
      split at q
      case isFalse => exact q.elim
      rename_i hz
      obtain ⟨hcn, hil, hjl, hbl⟩ := hz
      refine ⟨sub c k, (C.is c k hcn hk).2, fun _ a ha => ?_, fun hb => by rw [hsub] at hb; cases hb⟩
      have hil' : i < σ'.length := by rw [← r'.rel.len]; exact hil
      have hjl' : j < σ'.length := by rw [← r'.rel.len]; exact hjl
      refine ⟨c, F', bs, rfl, rfl, hcn, r'.rel.le, by rw [List.getElem?_set_self hil'], by simpa using hjl', he, hbl, fun σ2 H2 S => ?_⟩
      obtain ⟨p, F1, xs, rfl, ev, g0, g1, g2, g3⟩ := S
      show Dn.nx (((σ'.set i (some (.ref a))).set j (some (.ref p))).set i none) H2
      rw [List.set_comm _ _ (Ne.symm hij), List.set_set]
      have rr := (r'.step ev).un i none
      refine q _ F1 H2 (rr.ow j g1 g2 (none_back r'.evo.hx g0) g3 fun j' es' e ne => ?_)
      rw [set_get] at e
      split at e
      · cases e; simp
      · rename_i hz2
        rw [set_get, if_neg (by rw [← r'.rel.len]; exact hz2)]
        exact new_apart r' g0 ev j' es' e
variable {S : S0}
def xsOf (S : S0) (sc : Scope) (i : Nat) : (es : List Expr) → Option { ms : List Xm // ∀ cv X W, Gd S cv X W → Gx S cv X → X.env.scope = sc → JXs X cv S.nc i es ms }
  | [] => some ⟨[], fun cv X W g gx h => jxs_nil⟩
  | e :: es => (xOf S sc i 12 e).bind fun m => (xsOf S sc i es).bind fun ms => if hs : notStar e = true then some ⟨m.m :: ms.1, fun cv X W g gx h => jxs_cons (m.ok cv X W g gx h) hs (ms.2 cv X W g gx h)⟩ else none
def suOf (S : S0) (sc : Scope) (i j : Nat) (x : Str) : (sts : List Stmt) → Option { mss : List (List Xm) // ∀ cv X W, Gd S cv X W → Gx S cv X → X.env.scope = sc → SuJ X cv S.nc i j x sts mss }
  | [] => some ⟨[], fun cv X W g gx h => .nil⟩
  | .Assign [.Name x1 p] (.BinOp (.Name x2 p2) .Add (.List es lp) bp) pos :: rest => (xsOf S sc i es).bind fun ms => (suOf S sc i j x rest).bind fun mr => if hz : x1 = x ∧ x2 = x ∧ ms.1.length ≤ 100 then some ⟨ms.1 :: mr.1, fun cv X W g gx h => by
      obtain ⟨z1, z2, z3⟩ := hz
      subst z1 z2
      exact .cons (ms.2 cv X W g gx h) z3 (mr.2 cv X W g gx h)⟩ else none
  | _ => none
def tryOf (t : TS0 S) (sc : Scope) : (st : Stmt) → Option (OkS S sc st)
  | .Try body [.ExceptHandler (some (.Name y np)) (some nm) (.Assign [.Name x p] (.List es lp) apos :: sts) pos'] [] [] pos =>
      let i := S.N.findIdx (· == nm)
      (ssOf t sc body).bind fun b => (slotOf S sc x).bind fun j => (xsOf S sc i es).bind fun ms => (suOf S sc i j.1 x sts).bind fun mr =>
        match hf : S.cls.find? (fun q => q.1 == y) with
        | none => none
        | some q => if hz : q.2 ∈ S.nc ∧ glB sc y = true ∧ S.N[i]? = some nm ∧ isLocB sc nm = true ∧ isLocB sc x = true ∧ locB sc x = true ∧ i ≠ j.1 then some ⟨sTryF S.sub S.nc b.m q.2 i j.1 (ms.1 ++ mr.1.flatten), fun cv X W g gx h => by
            obtain ⟨z1, z2, z3, z4, z5, z6, z7⟩ := hz
            obtain ⟨C, h1, h2⟩ := g.cls q (List.mem_of_find?_eq_some hf)
            have hx : q.1 = y := by simpa using List.find?_some hf
            rw [hx] at h2
            exact js_tryF gx.stk gx.fr g.nd g.tk gx.cl (fun W' pn xe tk po => b.ok cv _ W' (g.tr pn xe tk) ⟨gx.fnT, po, gx.stk, gx.fr, gx.cl⟩ h) z1 ⟨Gd.gl (cv := cv) (W := W) h z2, (gl_of z2).2, .inl (by rw [h1]; exact h2.gl)⟩ (by rw [g.nN]; exact z3) (by unfold PySem.Env.kindOf; rw [h]; exact isLoc_of z4)
              (by rw [g.nN]; exact j.2.1) (by rw [h]; exact loc_of z6) (by rw [h]; exact isLoc_of z5) (by rw [h]; exact j.2.2.1) j.2.2.2.1 j.2.2.2.2 z7 (ms.2 cv X W g gx h) (mr.2 cv X W g gx h)⟩ else none
  | _ => none
end U
set_option Elab.async false
set_option linter.all false
set_option maxRecDepth 100000
set_option maxHeartbeats 4000000
namespace U
open PySem PySem.Spec PyProof.Rows L2
/-! ### x[i], x[j] = a pair -/
def sSwp (i : Nat) (lk : List Nat) (m1 m2 m : Sm) : Ss := fun ρ0 => let ρ := frz ρ0 lk
  match ρ[i]? with
  | some (.ow ds) => (m ρ).fl ρ (fun d => match d with
      | .tuple [d1, d2] => (m1 ρ).fl ρ (fun k => match k with
          | .int k => (match ixN ds.length k with
            | some j => (m2 (ρ.set i (.ow (ds.set j d1)))).fl (ρ.set i (.ow (ds.set j d1))) (fun k2 => match k2 with
                | .int k2 => (match ixN (ds.set j d1).length k2 with
                  | some j2 => .nx ((ρ.set i (.ow (ds.set j d1))).set i (.ow ((ds.set j d1).set j2 d2)))
                  | none => .bad)
                | _ => .bad) (fun _ => .bad)
            | none => .bad)
          | _ => .bad) (fun _ => .bad)
      | _ => .bad) (fun _ => .bad)
  | _ => .bad
section
variable {X : Cx} {cv : Nat → Value} {W : WX} {e : Expr} {m m1 m2 : Sm} {lk : List Nat} {pos p : Pos}
theorem js_swp {i : Nat} {x : Str} {ix1 ix2 : Expr} {p1 p2 tp1 tp2 : Pos} {k : Nat} (hc : X.calm = true) (hN : X.N[i]? = some x) (hv : Vis X.env.scope x) (hd : (x == ("__debug__" : Str)) = false) (hcd : (x == ("__classdict__" : Str)) = false) (he : JE X cv W e m) (hi1 : JE X cv W ix1 m1) (hi2 : JE X cv W ix2 m2) (h1 : plainIx ix1 = true) (h2 : plainIx ix2 = true)
    (hw : swappedStores [.Tuple [.Subscript (.Name x p1) ix1 tp1, .Subscript (.Name x p2) ix2 tp2] k p] e X.env = pure none) :
    JF X cv W (.Assign [.Tuple [.Subscript (.Name x p1) ix1 tp1, .Subscript (.Name x p2) ix2 tp2] k p] e pos) (sSwp i lk m1 m2 m) := fun B =>
  PS.imp (ps_asg he (pg_tup (n := 2) hc (pgs_cons (pg_sub (pe_var hN hv hd hcd) hi1 set_list (item_asg h1)) (pgs_cons (pg_sub (pe_var hN hv hd hcd) hi2 set_list (item_asg h2)) pgs_nil)) rfl rfl) sw_other hw rfl) fun Dn σ H ⟨ρ0, F0, r0, q⟩ => by
    obtain ⟨F, r⟩ := RelB.frz (lk := lk) r0
    unfold sSwp at q
    simp only at q
    cases h : (frz ρ0 lk)[i]? with
    | none => rw [h] at q; exact q.elim
    | some c =>
      rw [h] at q
      cases c with
      | un => exact q.elim
      | fr d => exact q.elim
      | ob k fs => exact q.elim
      | ro k fs => exact q.elim
      | ow ds =>
        obtain ⟨q0, xs0, s0, s1, _, _, _⟩ := own_at r h (Evo.refl r.rel.le)
        simp only at q
        refine rd_st r q (fun d v F1 H1 ev hd q => ?_) fun es p xs F1 H1 ev h1 h2 h3 h4 q => q.elim
        cases hd with
        | tup ht hs =>
          rename_i a ys dz
          cases hs with
          | nil => exact q.elim
          | cons g1 hs =>
            cases hs with
            | nil => exact q.elim
            | cons g2 hs =>
              cases hs with
              | cons g3 hs => exact q.elim
              | nil =>
                rename_i v1 d1 v2 d2
                refine ⟨_, _, rfl, .inl (.inl (ev.le _ _ ht)), rfl, ?_⟩
                refine ⟨_, _, rfl, _, s0, ?_⟩
                refine rd_st (r.step ev) q (fun k w F2 H2 ev2 hk q => ?_) fun es p xs F1 H1 ev h1 h2 h3 h4 q => q.elim
                cases hk <;> try exact q.elim
                rename_i k
                simp only at q
                cases hj : ixN ds.length k with
                | none => rw [hj] at q; exact q.elim
                | some j =>
                  rw [hj] at q
                  obtain ⟨q1, xs1, t0, t1, t2, t3, t4⟩ := own_at r h (ev.trans ev2)
                  rw [s0] at t0; cases t0
                  refine ⟨q0, xs1, k, j, rfl, rfl, t2, by rw [dps_len t4]; exact hj, ?_⟩
                  have r2 := (r.step (ev.trans ev2)).mut (xs := xs1) h s0 (dps_set (dp_mono ev2.ex g1) j t4)
                  have hi : i < (frz ρ0 lk).length := (List.getElem?_eq_some_iff.mp h).1
                  have h' : ((frz ρ0 lk).set i (.ow (ds.set j d1)))[i]? = some (.ow (ds.set j d1)) := by rw [List.getElem?_set_self hi]
                  refine ⟨_, _, rfl, _, s0, ?_⟩
                  refine rd_st r2 q (fun k2 w2 F3 H3 ev3 hk2 q => ?_) fun es p xs F1 H1 ev h1 h2 h3 h4 q => q.elim
                  cases hk2 <;> try exact q.elim
                  rename_i k2
                  simp only at q
                  cases hj2 : ixN (ds.set j d1).length k2 with
                  | none => rw [hj2] at q; exact q.elim
                  | some j2 =>
                    rw [hj2] at q
                    obtain ⟨q2, xs2, t0', t1', t2', t3', t4'⟩ := own_at r2 h' ev3
                    rw [s0] at t0'; cases t0'
                    refine ⟨q0, xs2, k2, j2, rfl, rfl, t2', by rw [dps_len t4']; exact hj2, rfl, ?_⟩
                    exact q σ F3 _ ((r2.step ev3).mut (xs := xs2) h' s0 (dps_set (dp_mono ev3.ex (dp_mono ev2.ex g2)) j2 t4'))
        | _ => exact q.elim
/-! ### x, y, z = a new list, data, a new list -/
def sTri (i j l : Nat) (lk : List Nat) (m1 m2 m3 : Sm) : Ss := fun ρ0 => let ρ := frz ρ0 lk
  (m1 ρ).fl ρ (fun _ => .bad) (fun xs => (m2 ρ).fl ρ (fun d => (m3 ρ).fl ρ (fun _ => .bad) (fun zs => .nx (((ρ.set i (.ow xs)).set j (.fr d)).set l (.ow zs)))) (fun _ => .bad))
theorem js_tri {i j l : Nat} {x y z : Str} {a b c : Expr} {px py pz pt pt2 : Pos} {k k2 : Nat} {m3 : Sm} (hc : X.calm = true) (hN : X.N.Nodup) (hes : Nms X [.Name x px, .Name y py, .Name z pz] [i, j, l]) (hil : i ≠ l) (hij : i ≠ j) (hjl : j ≠ l)
    (ha : JE X cv W a m1) (hb : JE X cv W b m2) (hcc : JE X cv W c m3) (h1 : notStar a = true) (h2 : notStar b = true) (h3 : notStar c = true) (hw : swappedStores [.Tuple [.Name x px, .Name y py, .Name z pz] k pt] (.Tuple [a, b, c] k2 pt2) X.env = pure none) :
    JF X cv W (.Assign [.Tuple [.Name x px, .Name y py, .Name z pz] k pt] (.Tuple [a, b, c] k2 pt2) pos) (sTri i j l lk m1 m2 m3) := fun B =>
  PS.imp (ps_asg (pe_tup (pa_cons ha (pa_cons hb (pa_cons hcc pa_nil (star_cons h3)) (star_cons h2)) (star_cons h1))) (pg_tup hc (hes.pgs hN) (hes.len (env := X.env)).1 (hes.len (env := X.env)).2) sw_other hw rfl) fun Dn σ H ⟨ρ0, F0, r0, q⟩ => by
    obtain ⟨F, r⟩ := RelB.frz (lk := lk) r0
    unfold sTri at q
    simp only at q
    refine rd_st r q (fun d v F1 H1 ev hd q => q.elim) fun xs p1 ys1 F1 H1 ev1 a1 a2 a3 a4 q => ?_
    refine rd_st (r.step ev1) q (fun d v F2 H2 ev2 hd q => ?_) fun ds p xs F2 H2 ev2 h1 h2 h3 h4 q => q.elim
    refine rd_st ((r.step ev1).step ev2) q (fun d v F1 H1 ev hd q => q.elim) fun zs p3 ys3 F3 H3 ev3 b1 b2 b3 b4 q => ?_
    refine ⟨Evl.sz_of (by simp), fun p hp => ⟨p, _, rfl, .inl (.inl upd_same), rfl, ?_⟩⟩
    have r3 := ((r.step ev1).step ev2).step ev3
    have e4 : Evo F3 H3 F3 (upd H3 p (.tup [.ref p1, v, .ref p3])) := (Evo.refl r3.rel.le).own hp
    have r4 := r3.step e4
    have ev14 := (ev2.trans ev3).trans e4
    have f1 : F3 p1 = none := own_not (ev2.trans ev3) a2 a3
    have g1 : (upd H3 p (.tup [.ref p1, v, .ref p3])) p1 = some (.lst ys1) := ev14.hx _ _ a3
    have g3 : (upd H3 p (.tup [.ref p1, v, .ref p3])) p3 = some (.lst ys3) := e4.hx _ _ b3
    have r5 := r4.ow i f1 g1 (none_back r.evo.hx a1) (dps_mono (ev2.trans ev3).ex a4) fun k es e _ => new_apart r a1 (ev1.trans ev14) k es e
    have r6 := r5.fr j (dp_mono ev3.ex hd)
    refine ⟨_, _, rfl, _, _, rfl, _, _, rfl, rfl, q _ F3 _ (r6.ow l b2 g3 (none_back ((r.step ev1).step ev2).evo.hx b1) b4 fun k es' e hk => ?_)⟩
    have lenE := r.rel.len
    rw [set_get] at e ⊢
    split at e
    · cases e; simp
    · rename_i hz
      rw [if_neg (by rw [List.length_set] at hz ⊢; rw [← lenE]; exact hz)]
      rw [set_get] at e ⊢
      split at e
      · rename_i hz2
        rw [if_pos ⟨hz2.1, by rw [← lenE]; exact hz2.2⟩]
        cases e
        intro zz
        have z' : p3 = p1 := by simpa using zz
        subst z'
        have : H2 p3 = some (.lst ys1) := ev2.hx _ _ a3
        rw [this] at b1; cases b1
      · rename_i hz2
        rw [if_neg (by rw [← lenE]; exact hz2)]
        exact new_apart ((r.step ev1).step ev2) b1 (ev3.trans e4) k es' e
end
/-! ### text.index(sign), text.join(texts) -/
def sixD (a : Str) : D → Res
  | .str b => (match Builtin.Str.occurrences a b 0 a.length 1 with
    | i :: _ => .ok (.int (i : Nat))
    | [] => .bad)
  | _ => .bad
def eSix (mo m : Sm) : Sm := fun ρ => (mo ρ).bind fun x => match x with
  | .str a => (m ρ).bind (sixD a)
  | _ => .bad
def strsOf : List D → Option (List Str)
  | [] => some []
  | .str x :: r => (strsOf r).map (x :: ·)
  | _ => none
theorem dps_strs {F : Hp} : ∀ {ds : List D} {xs : List V} {ys : List Str}, strsOf ds = some ys → DrAll F xs ds → xs = ys.map V.str
  | [], xs, ys, h, hd => by
    cases hd
    cases h; rfl
  | d :: ds, xs, ys, h, hd => by
    cases hd with
    | cons h1 h2 =>
      cases d <;> try (cases h)
      rename_i x
      unfold strsOf at h
      cases hs : strsOf ds with
      | none => rw [hs] at h; cases h
      | some zs =>
        rw [hs] at h
        cases h
        cases h1
        rw [dps_strs hs h2]; rfl
def joinD (a : Str) : D → Res
  | .list ds => (match strsOf ds with
    | some ys => if (ys.map (·.length)).sum + ys.length * a.length ≤ 16777216 then .ok (.str (Txt.join a ys)) else .bad
    | none => .bad)
  | _ => .bad
def eJn (mo m : Sm) : Sm := fun ρ => (mo ρ).bind fun x => match x with
  | .str a => (m ρ).bind (joinD a)
  | _ => .bad
section
variable {X : Cx} {cv : Nat → Value} {W : WX} {o e : Expr} {mo m : Sm} {apos pos : Pos}
theorem j_six (ho : JW X cv W o mo) (he : JW X cv W e m) (hs : notStar e = true) (hb : attributeBase o "index" X.env (eval o X.env) = eval o X.env) (hl : (apos.endLine == pos.line) = true) : JE X cv W (.Call (.Attribute o "index" apos) [e] [] pos) (eSix mo m) :=
  PE.imp (pe_m1 PySem.F.slot_str_index PySem.F.type_str_index mt_sindex ho he (star_cons hs) hb hl) fun σ H Q ⟨ρ, F, r, q⟩ => by
    refine ⟨ρ, F, r, ?_⟩
    unfold eSix at q
    have go : ∀ d, GotE cv W F H σ Q (match d with | .str a => (m ρ).bind (sixD a) | _ => .bad) → QW F H d fun x H1 => (∃ a, x = .str a) ∧ rdW cv W m σ H1 fun y H2 => ∃ a b i rest, x = .str a ∧ [y] = [.str b] ∧ Builtin.Str.occurrences a b 0 a.length 1 = i :: rest ∧ Q (.int (i : Nat)) H2 := fun d q v F1 H1 ev wk => by
      cases d <;> try exact q.elim
      rename_i a
      cases wk.str
      refine ⟨⟨_, rfl⟩, ρ, F1, r.evo ev, ?_⟩
      have q := GotE.evo ev q
      simp only at q
      have g2 : ∀ d2, GotE cv W F1 H1 σ Q (sixD a d2) → QW F1 H1 d2 fun y H2 => ∃ a' b i rest, V.str a = .str a' ∧ [y] = [.str b] ∧ Builtin.Str.occurrences a' b 0 a'.length 1 = i :: rest ∧ Q (.int (i : Nat)) H2 := fun d2 q w F2 H2 ev2 wk2 => by
        cases d2 <;> try exact q.elim
        rename_i b
        cases wk2.str
        unfold sixD at q
        simp only at q
        cases ho : Builtin.Str.occurrences a b 0 a.length 1 with
        | nil => rw [ho] at q; exact q.elim
        | cons i rest =>
          rw [ho] at q
          exact ⟨a, b, i, rest, rfl, rfl, ho, q _ F2 H2 ev2 (.int _)⟩
      cases hm : m ρ with
      | ok y => rw [hm] at q; exact g2 y q
      | new y => rw [hm] at q; exact g2 _ q
      | exc c => rw [hm] at q; exact q
      | bad => rw [hm] at q; exact q
    cases h : mo ρ with
    | ok d => rw [h] at q; exact go d q
    | new d => rw [h] at q; exact go _ q
    | exc c => rw [h] at q; exact q
    | bad => rw [h] at q; exact q
theorem j_jn (ho : JW X cv W o mo) (he : JW X cv W e m) (hs : notStar e = true) (hb : attributeBase o "join" X.env (eval o X.env) = eval o X.env) (hl : (apos.endLine == pos.line) = true) : JE X cv W (.Call (.Attribute o "join" apos) [e] [] pos) (eJn mo m) :=
  PE.imp (pe_join ho he (star_cons hs) hb hl) fun σ H Q ⟨ρ, F, r, q⟩ => by
    refine ⟨ρ, F, r, ?_⟩
    unfold eJn at q
    have go : ∀ d, GotE cv W F H σ Q (match d with | .str a => (m ρ).bind (joinD a) | _ => .bad) → QW F H d fun x H1 => (∃ a, x = .str a) ∧ rdW cv W m σ H1 fun y H2 => ∃ a p, ∃ ys : List Str, x = .str a ∧ [y] = [.ref p] ∧ (SqL X.K H2 p (ys.map V.str) ∨ SqT X.K H2 p (ys.map V.str)) ∧ (ys.map (·.length)).sum + ys.length * a.length ≤ 16777216 ∧ Q (.str (Txt.join a ys)) H2 := fun d q v F1 H1 ev wk => by
      cases d <;> try exact q.elim
      rename_i a
      cases wk.str
      refine ⟨⟨_, rfl⟩, ρ, F1, r.evo ev, ?_⟩
      have q := GotE.evo ev q
      simp only at q
      have g2 : ∀ d2, GotE cv W F1 H1 σ Q (joinD a d2) → QW F1 H1 d2 fun y H2 => ∃ a' p, ∃ ys : List Str, V.str a = .str a' ∧ [y] = [.ref p] ∧ (SqL X.K H2 p (ys.map V.str) ∨ SqT X.K H2 p (ys.map V.str)) ∧ (ys.map (·.length)).sum + ys.length * a'.length ≤ 16777216 ∧ Q (.str (Txt.join a' ys)) H2 := fun d2 q w F2 H2 ev2 wk2 => by
        cases d2 <;> try exact q.elim
        rename_i ds
        unfold joinD at q
        simp only at q
        cases hy : strsOf ds with
        | none => rw [hy] at q; exact q.elim
        | some ys =>
          rw [hy] at q
          simp only at q
          split at q
          case isFalse => exact q.elim
          rename_i hz
          obtain ⟨p, xs, rfl, hp, hx⟩ := wk2.list ev2.le
          have ex := dps_strs hy hx
          subst ex
          exact ⟨a, p, ys, rfl, rfl, .inl (.inl hp), hz, q _ F2 H2 ev2 (.str _)⟩
      cases hm : m ρ with
      | ok y => rw [hm] at q; exact g2 y q
      | new y => rw [hm] at q; exact g2 _ q
      | exc c => rw [hm] at q; exact q
      | bad => rw [hm] at q; exact q
    cases h : mo ρ with
    | ok d => rw [h] at q; exact go d q
    | new d => rw [h] at q; exact go _ q
    | exc c => rw [h] at q; exact q
    | bad => rw [h] at q; exact q
end
/-! ### a, b = e, e a tuple or a list -/
def sqD : D → Option (List D)
  | .tuple ds => some ds
  | .list ds => some ds
  | _ => none
def sTuL (is : List Nat) (lk : List Nat) (m : Sm) : Ss := fun ρ0 => let ρ := frz ρ0 lk
  (m ρ).fl ρ (fun d => match sqD d with
    | some ds => if ds.length = is.length then .nx (setAll is ds ρ) else .bad
    | none => .bad) (fun _ => .bad)
section
variable {X : Cx} {cv : Nat → Value} {W : WX} {e : Expr} {m : Sm} {lk : List Nat} {pos p : Pos}
theorem pg_or {t1 t2 : TG} {tg : Expr} (h1 : PG X tg t1) (h2 : PG X tg t2) : PG X tg fun v σ H Q => t1 v σ H Q ∨ t2 v σ H Q := by
  refine ⟨fun pins s σ H v u Q I r hw => ?_⟩
  rcases hw with h | h
  · exact h1.run pins s σ H v u Q I r h
  · exact h2.run pins s σ H v u Q I r h
theorem js_tuL {is : List Nat} {es : List Expr} {k : Nat} (hc : X.calm = true) (hN : X.N.Nodup) (hes : Nms X es is) (he : JE X cv W e m) (hs : swapsWithSole [.Tuple es k p] e pos.line X.env = pure false) (hw : swappedStores [.Tuple es k p] e X.env = pure none) : JF X cv W (.Assign [.Tuple es k p] e pos) (sTuL is lk m) := fun B =>
  PS.imp (ps_asg he (pg_or (pg_tup hc (hes.pgs hN) (hes.len (env := X.env)).1 (hes.len (env := X.env)).2) (pg_unl hc (hes.pgs hN) (hes.len (env := X.env)).1 (hes.len (env := X.env)).2)) hs hw rfl) fun Dn σ H ⟨ρ0, F0, r0, q⟩ => by
    obtain ⟨F, r⟩ := RelB.frz (lk := lk) r0
    refine rd_st r q (fun d v F1 H1 ev hd q => ?_) fun ds p xs F1 H1 ev h1 h2 h3 h4 q => q.elim
    have go : ∀ (is : List Nat) (ds : List D) (vs : List V) (ρ : Rho) (σ : L2.St), RelB cv B ρ σ F1 H1 → DrAll F1 vs ds → ds.length = is.length → (∀ σ', RelB cv B (setAll is ds ρ) σ' F1 H1 → Dn.nx σ' H1) → gNames is vs σ H1 Dn.nx := by
      intro is
      induction is with
      | nil =>
        intro ds vs ρ σ r hd hl k
        cases hd with
        | nil => exact ⟨rfl, k σ r⟩
        | cons _ _ => simp at hl
      | cons i is ih =>
        intro ds vs ρ σ r hd hl k
        cases hd with
        | nil => simp at hl
        | cons h hs => exact ⟨_, _, rfl, ih _ _ _ _ (r.fr i h) hs (by simpa using hl) k⟩
    cases hd with
    | tup h hs =>
      unfold sqD at q
      simp only at q
      split at q
      · rename_i hl
        exact .inl ⟨_, _, rfl, .inl (.inl (ev.le _ _ h)), by rw [dps_len hs, hl], go _ _ _ _ _ (r.step ev) hs hl fun σ' r' => q σ' F1 H1 r'⟩
      · exact q.elim
    | lst h hs =>
      unfold sqD at q
      simp only at q
      split at q
      · rename_i hl
        exact .inr ⟨_, _, rfl, .inl (Evl.ex_rd ev.le h), by rw [dps_len hs, hl], go _ _ _ _ _ (r.step ev) hs hl fun σ' r' => q σ' F1 H1 r'⟩
      · exact q.elim
    | _ => exact q.elim
end
variable {S : S0}
def meOf (r : TR S) (sc : Scope) : (e : Expr) → Option (OkE S sc e)
  | .Call (.Attribute (.Constant (.str t) j p) name apos) [a] [] pos => (wOf r sc (.Constant (.str t) j p)).bind fun u => (wOf r sc a).bind fun w =>
      if h : name = "index" ∧ notStar a = true ∧ (apos.endLine == pos.line) = true then some ⟨eSix u.m w.m, u.lk ++ w.lk, fun cv X W g e => by
        obtain ⟨h1, h2, h3⟩ := h
        subst h1
        exact j_six (u.ok cv X W g e) (w.ok cv X W g e) h2 rfl h3⟩
      else if h : name = "join" ∧ notStar a = true ∧ (apos.endLine == pos.line) = true then some ⟨eJn u.m w.m, u.lk ++ w.lk, fun cv X W g e => by
        obtain ⟨h1, h2, h3⟩ := h
        subst h1
        exact j_jn (u.ok cv X W g e) (w.ok cv X W g e) h2 rfl h3⟩
      else none
  | _ => none
def stepEW (r : TR S) (sc : Scope) (e : Expr) : Option (OkE S sc e) := match stepE r sc e with
  | some x => some x
  | none => match moreD r sc e with
    | some x => some x
    | none => match srtOf r sc e with
      | some x => some x
      | none => match meOf r sc e with
        | some x => some x
        | none => some ⟨eBad, [], fun cv X W g h => j_bad⟩
def swpOf (r : TR S) (sc : Scope) : (st : Stmt) → Option (OkS S sc st)
  | .Assign [.Tuple [.Subscript (.Name x p1) ix1 tp1, .Subscript (.Name y p2) ix2 tp2] k p] (.Tuple vs kk pp) pos => (slotOf S sc x).bind fun i => (r.e sc (.Tuple vs kk pp)).bind fun a => (r.e sc ix1).bind fun b => (r.e sc ix2).bind fun c =>
      if hp : x = y ∧ plainIx ix1 = true ∧ plainIx ix2 = true ∧ swMode sc [.Subscript (.Name x p1) ix1 tp1, .Subscript (.Name y p2) ix2 tp2] vs = some none then some ⟨sSwp i.1 (a.lk ++ b.lk ++ c.lk) b.m c.m a.m, fun cv X W g gx h => by
        obtain ⟨z1, z2, z3, z4⟩ := hp
        subst z1
        exact js_swp g.calm (by rw [g.nN]; exact i.2.1) (by rw [h]; exact i.2.2.1) i.2.2.2.1 i.2.2.2.2 (a.ok cv X W g h) (b.ok cv X W g h) (c.ok cv X W g h) z2 z3 (swMode_ok (by rw [h]; exact z4))⟩ else none
  | _ => none
def isNil : Expr → Bool
  | .List [] _ => true
  | _ => false
def isLC : Expr → Bool
  | .ListComp .. => true
  | _ => false
def triOf (r : TR S) (sc : Scope) : (st : Stmt) → Option (OkS S sc st)
  | .Assign [.Tuple [.Name x px, .Name y py, .Name z pz] k p] (.Tuple [a, b, c] kk pp) pos => (storeOf S sc tbF x).bind fun i => (storeOf S sc tbF y).bind fun j => (storeOf S sc tbF z).bind fun l => (r.e sc a).bind fun u => (r.e sc b).bind fun v => (r.e sc c).bind fun w =>
      if hz : swMode sc [.Name x px, .Name y py, .Name z pz] [a, b, c] = some none ∧ (i.1 ≠ j.1 ∧ i.1 ≠ l.1 ∧ j.1 ≠ l.1) ∧ notStar a = true ∧ notStar b = true ∧ notStar c = true ∧ isLC a = true ∧ isNil c = true then some ⟨sTri i.1 j.1 l.1 (u.lk ++ v.lk ++ w.lk) u.m v.m w.m, fun cv X W g gx h => by
        obtain ⟨z1, ⟨z2, z3, z4⟩, z5, z6, z7, _⟩ := hz
        have s1 := i.2 X g.nN h fun y _ => gx.fnT y
        have s2 := j.2 X g.nN h fun y _ => gx.fnT y
        have s3 := l.2 X g.nN h fun y _ => gx.fnT y
        exact js_tri g.calm g.nd (.cons s1.1 s1.2.1 s1.2.2 (.cons s2.1 s2.2.1 s2.2.2 (.cons s3.1 s3.2.1 s3.2.2 .nil))) z3 z2 z4 (u.ok cv X W g h) (v.ok cv X W g h) (w.ok cv X W g h) z5 z6 z7 (swMode_ok (by rw [h]; exact z1))⟩ else none
  | _ => none
def tuLOf (r : TR S) (sc : Scope) : (st : Stmt) → Option (OkS S sc st)
  | .Assign [.Tuple es k p] (.Name x px) pos => if hx : x = "both" then (namesOf S sc tbF es).bind fun is => (r.e sc (.Name x px)).map fun a => ⟨sTuL is.1 a.lk a.m, fun cv X W g gx h =>
      js_tuL g.calm g.nd (is.2 X g.nN h fun y _ => gx.fnT y) (a.ok cv X W g h) sw_other (stores_no rfl)⟩ else none
  | _ => none
def stepW (r : TR S) (t : TS0 S) (sc : Scope) (st : Stmt) : Option (OkS S sc st) := match triOf r sc st with
  | some x => some x
  | none => match tuLOf r sc st with
  | some x => some x
  | none => match stepS r t sc st with
  | some x => some x
  | none => match swpOf r sc st with
    | some x => some x
    | none => match tryOf t sc st with
      | some x => some x
      | none => some ⟨sBad, fun cv X W g gx h => js_bad⟩
end U
set_option Elab.async false
set_option linter.all false
set_option maxRecDepth 100000
set_option maxHeartbeats 800000
/-! list(zip(xs, ys)), xs and ys tuples: the pairs given out stay alive in the list -/
namespace RZ
open PySem PySem.Spec PyProof.Rows L2
section
variable {prog : Program} {w : World} {A : Around} {E : Value → Shared → Prop} {s : Shared}
theorem zipTh_item {z TI TO T i1 i2 l1 l2 : Addr} {f : Bool} {oT : Obj} {k1 k2 : Nat} {xs ys : Array Value} {x y : Value} {Q : Value → Shared → Prop} (D : ZipApart z TI TO i1 i2 l1 l2)
    (hz : IsZipHeld s.heap z TI TO T f) (hT : s.heap.get? T = some oT) (hTI : IsPair s.heap TI (.ref i1) (.ref i2))
    (h1 : s.heap.IsTupleIter i1 l1 k1) (h2 : s.heap.IsTupleIter i2 l2 k2) (hl1 : s.heap.IsTuple l1 xs) (hl2 : s.heap.IsTuple l2 ys) (hx : xs[k1]? = some x) (hy : ys[k2]? = some y)
    (hQ : ∀ h', IsZipHeld h' z TI TO T true → h'.IsTupleIter i1 l1 (k1 + 1) → h'.IsTupleIter i2 l2 (k2 + 1) → IsPair h' s.heap.objs.size x y → h'.objs.size = s.heap.objs.size + 1 →
      (∀ c o, c ≠ z → c ≠ i1 → c ≠ i2 → s.heap.get? c = some o → h'.get? c = some o) → Q (.ref s.heap.objs.size) { s with heap := h' }) :
    wpAny (model prog w) A (Builtin.«zip.__next__» ⟨[.ref z], []⟩) (fun fin s' => ∃ v, fin = .done (.ret v) ∧ Q v s') E s := by
  show wpAny _ _ (field (.ref z) 2 >>= _) _ _ _
  refine wpAny_bind (wpAny_field hz rfl (x := .bool false) rfl ?_)
  show wpAny _ _ (field (.ref z) 3 >>= _) _ _ _
  refine wpAny_bind (wpAny_field hz rfl (x := .ref TI) rfl ?_)
  refine wpAny_bind (wpAny_seqItems hTI rfl ?_)
  show wpAny _ _ (Builtin.SmallTypes.ownedTupleIsFree (.ref z) >>= _) _ _ _
  refine wpAny_bind (wpAny_tupleHeld_zip hz hT fun h₁ hz₁ hs₁ => ?_)
  simp only [Bool.false_eq_true, if_false]
  refine wpAny_bind ?_
  rw [← Array.forIn_toList]
  simp only [List.forIn_cons, List.forIn_nil]
  refine wpAny_bind (wpAny_bind (wpAny_holding ?_))
  show wpAny _ _ (Builtin.SmallTypes.nextOf (.ref i1) >>= _) _ _ _
  refine wpAny_bind (nextOf_tuple_item (s := { s with heap := h₁ }) (h1.extBut hs₁.extBut D.i1z) (hl1.extBut hs₁.extBut D.l1z) hx fun h₂ h1₂ hs₂ => wpAny_pure ?_)
  refine wpAny_pure ?_
  refine wpAny_bind (wpAny_bind (wpAny_holding ?_))
  show wpAny _ _ (Builtin.SmallTypes.nextOf (.ref i2) >>= _) _ _ _
  refine wpAny_bind (nextOf_tuple_item (s := { s with heap := h₂ }) ((h2.extBut hs₁.extBut D.i2z).extBut hs₂.extBut D.i12.symm) ((hl2.extBut hs₁.extBut D.l2z).extBut hs₂.extBut D.l2i1) hy fun h₃ h2₃ hs₃ => wpAny_pure ?_)
  refine wpAny_pure (wpAny_pure ?_)
  show wpAny _ _ (newTuple [x, y] >>= _) _ _ _
  refine wpAny_bind (wpAny_newTuple ?_)
  have hsz : h₃.objs.size = s.heap.objs.size := by rw [hs₃.1, hs₂.1, hs₁.1]
  have hz₃ : IsZipHeld h₃ z TI TO T true := hs₃.extBut _ _ D.i2z.symm (hs₂.extBut _ _ D.i1z.symm hz₁)
  have hk : ∀ c o, c ≠ z → c ≠ i1 → c ≠ i2 → s.heap.get? c = some o → h₃.get? c = some o := fun c o c1 c2 c3 e => hs₃.extBut _ _ c3 (hs₂.extBut _ _ c2 (hs₁.extBut _ _ c1 e))
  have h1₃ : h₃.IsTupleIter i1 l1 (k1 + 1) := h1₂.extBut hs₃.extBut D.i12
  refine wpAny_pure ⟨_, rfl, ?_⟩
  show Q (.ref h₃.objs.size) _
  have hp : IsPair (h₃.push { cls := .type "tuple", data := .seq #[x, y] }) h₃.objs.size x y := Heap.get?_push_size _ rfl
  have hz4 : (h₃.push { cls := .type "tuple", data := .seq #[x, y] }).objs.size = h₃.objs.size + 1 := Heap.size_push ..
  rw [hsz] at hp hz4 ⊢
  exact hQ _ (Heap.get?_push_of_some _ hz₃) (h1₃.at fun o e => Heap.get?_push_of_some _ e) (h2₃.at fun o e => Heap.get?_push_of_some _ e) hp hz4 fun c o c1 c2 c3 e => Heap.get?_push_of_some _ (hk c o c1 c2 c3 e)
theorem zipTh_end {z TI TO T i1 i2 l1 l2 : Addr} {f : Bool} {oT : Obj} {k1 k2 : Nat} {xs ys : Array Value} {Q : Fin → Shared → Prop} (hh : A.handled = none) (D : ZipApart z TI TO i1 i2 l1 l2)
    (hz : IsZipHeld s.heap z TI TO T f) (hT : s.heap.get? T = some oT) (hTI : IsPair s.heap TI (.ref i1) (.ref i2))
    (h1 : s.heap.IsTupleIter i1 l1 k1) (h2 : s.heap.IsTupleIter i2 l2 k2) (hl1 : s.heap.IsTuple l1 xs) (hl2 : s.heap.IsTuple l2 ys) (hend : xs[k1]? = none ∨ ys[k2]? = none)
    (hE : ∀ h' e, (∀ c o, c ≠ z → c ≠ i1 → c ≠ i2 → s.heap.get? c = some o → h'.get? c = some o) → (∃ o, h'.get? e = some o ∧ o.cls = .type "StopIteration") → E (.ref e) { s with heap := h' }) :
    wpAny (model prog w) A (Builtin.«zip.__next__» ⟨[.ref z], []⟩) Q E s := by
  show wpAny _ _ (field (.ref z) 2 >>= _) _ _ _
  refine wpAny_bind (wpAny_field hz rfl (x := .bool false) rfl ?_)
  show wpAny _ _ (field (.ref z) 3 >>= _) _ _ _
  refine wpAny_bind (wpAny_field hz rfl (x := .ref TI) rfl ?_)
  refine wpAny_bind (wpAny_seqItems hTI rfl ?_)
  show wpAny _ _ (Builtin.SmallTypes.ownedTupleIsFree (.ref z) >>= _) _ _ _
  refine wpAny_bind (wpAny_tupleHeld_zip hz hT fun h₁ hz₁ hs₁ => ?_)
  simp only [Bool.false_eq_true, if_false]
  refine wpAny_bind ?_
  rw [← Array.forIn_toList]
  simp only [List.forIn_cons, List.forIn_nil]
  refine wpAny_bind (wpAny_bind (wpAny_holding ?_))
  show wpAny _ _ (Builtin.SmallTypes.nextOf (.ref i1) >>= _) _ _ _
  cases hx : xs[k1]? with
  | none =>
    refine wpAny_bind (nextOf_tuple_end (s := { s with heap := h₁ }) hh (h1.extBut hs₁.extBut D.i1z) (hl1.extBut hs₁.extBut D.l1z) hx fun h₂ e hs₂ he => ?_)
    exact hE h₂ e (fun c o c1 c2 _ x => hs₂ _ _ c2 (hs₁.extBut _ _ c1 x)) he
  | some x =>
    have hy : ys[k2]? = none := by rcases hend with h | h; rw [hx] at h; cases h; exact h
    refine wpAny_bind (nextOf_tuple_item (s := { s with heap := h₁ }) (h1.extBut hs₁.extBut D.i1z) (hl1.extBut hs₁.extBut D.l1z) hx fun h₂ h1₂ hs₂ => wpAny_pure ?_)
    refine wpAny_pure ?_
    refine wpAny_bind (wpAny_bind (wpAny_holding ?_))
    show wpAny _ _ (Builtin.SmallTypes.nextOf (.ref i2) >>= _) _ _ _
    refine wpAny_bind (nextOf_tuple_end (s := { s with heap := h₂ }) hh ((h2.extBut hs₁.extBut D.i2z).extBut hs₂.extBut D.i12.symm) ((hl2.extBut hs₁.extBut D.l2z).extBut hs₂.extBut D.l2i1) hy fun h₃ e hs₃ he => ?_)
    exact hE h₃ e (fun c o c1 c2 c3 x => hs₃ _ _ c3 (hs₂.extBut _ _ c2 (hs₁.extBut _ _ c1 x))) he
/-- before the first pair, or with a pair out -/
def ZHd (h : Heap) (S z TI TO i1 i2 : Addr) : Prop := (IsZip h z TI TO .none ∧ ∃ a b, IsPair h TO a b) ∨ ∃ T f oT, IsZipHeld h z TI TO T f ∧ h.get? T = some oT ∧ T ≠ S ∧ T ≠ z ∧ T ≠ TO ∧ T ≠ i1 ∧ T ≠ i2
theorem ZHd.keep {h h' : Heap} {S z TI TO i1 i2 : Addr} (x : ZHd h S z TI TO i1 i2) (hk : ∀ b o, b ≠ S → h.get? b = some o → h'.get? b = some o) (hzS : z ≠ S) (hTS : TO ≠ S) : ZHd h' S z TI TO i1 i2 := by
  rcases x with ⟨a, b, c, d⟩ | ⟨T, f, oT, a, b, c, d⟩
  · exact .inl ⟨hk _ _ hzS a, b, c, hk _ _ hTS d⟩
  · exact .inr ⟨T, f, oT, hk _ _ hzS a, hk _ _ c b, c, d⟩
theorem zipT_some {S z TI TO i1 i2 l1 l2 : Addr} {k : Nat} {xs ys : Array Value} {x y : Value} {Q : Option Value → Shared → Prop} (D : ZipApart z TI TO i1 i2 l1 l2)
    (hz : ZHd s.heap S z TI TO i1 i2) (hS : S < s.heap.objs.size) (hTI : IsPair s.heap TI (.ref i1) (.ref i2)) (hTz : TI ≠ z) (hTT : TI ≠ TO) (hT1 : TI ≠ i1) (hT2 : TI ≠ i2)
    (h1 : s.heap.IsTupleIter i1 l1 k) (h2 : s.heap.IsTupleIter i2 l2 k) (hl1 : s.heap.IsTuple l1 xs) (hl2 : s.heap.IsTuple l2 ys) (hx : xs[k]? = some x) (hy : ys[k]? = some y)
    (hQ : ∀ h', ZHd h' S z TI TO i1 i2 → h'.IsTupleIter i1 l1 (k + 1) → h'.IsTupleIter i2 l2 (k + 1) → IsPair h' s.heap.objs.size x y → h'.objs.size = s.heap.objs.size + 1 →
      (∀ c o, c ≠ z → c ≠ TO → c ≠ i1 → c ≠ i2 → s.heap.get? c = some o → h'.get? c = some o) → Q (some (.ref s.heap.objs.size)) { s with heap := h' }) :
    wpAny (model prog w) A (pyNext (.ref z)) Q E s := by
  rcases hz with ⟨hz, a, b, hTO⟩ | ⟨T, f, oT, hz, hT, t1, t2, t3, t4, t5⟩
  · have zl := Heap.lt_size hz
    have tl := Heap.lt_size hTO
    have il1 : i1 < s.heap.objs.size := by obtain ⟨_, e, _⟩ := h1; exact Heap.lt_size e
    have il2 : i2 < s.heap.objs.size := by obtain ⟨_, e, _⟩ := h2; exact Heap.lt_size e
    exact pyNext_zipT_item D hz hTI hTO h1 h2 hl1 hl2 hx hy fun h' a1 a2 a3 a4 a5 a6 a7 => hQ h' (.inr ⟨_, false, _, a1, a5, Nat.ne_of_gt hS, Nat.ne_of_gt zl, Nat.ne_of_gt tl, Nat.ne_of_gt il1, Nat.ne_of_gt il2⟩) a3 a4 a5 a6 a7
  · have hTy : s.TypeIs (.ref z) "zip" := ⟨_, hz, rfl⟩
    unfold pyNext
    exact wpAny_bind (wpAny_attempt (wpAny_callSpecial?_slot (name := Str.ofString "__next__") hTy PySem.F.slot_zip_next
      (wpAny_call_entry PySem.F.slot_zip_next hTy PySem.F.entry_zip_next
        (zipTh_item D hz hT hTI h1 h2 hl1 hl2 hx hy fun h' a1 a3 a4 a5 a6 a7 => wpAny_pure (hQ h' (.inr ⟨T, true, oT, a1, a7 T _ t2 t4 t5 hT, t1, t2, t3, t4, t5⟩) a3 a4 a5 a6 fun c o c1 _ c3 c4 e => a7 c o c1 c3 c4 e)) (PySem.F.args_zip_next_1 _))))
theorem zipT_none {S z TI TO i1 i2 l1 l2 : Addr} {k : Nat} {xs ys : Array Value} {Q : Option Value → Shared → Prop} (hh : A.handled = none) (D : ZipApart z TI TO i1 i2 l1 l2)
    (hz : ZHd s.heap S z TI TO i1 i2) (hTI : IsPair s.heap TI (.ref i1) (.ref i2))
    (h1 : s.heap.IsTupleIter i1 l1 k) (h2 : s.heap.IsTupleIter i2 l2 k) (hl1 : s.heap.IsTuple l1 xs) (hl2 : s.heap.IsTuple l2 ys) (hend : xs[k]? = none ∨ ys[k]? = none)
    (hQ : ∀ h', (∀ c o, c ≠ z → c ≠ TO → c ≠ i1 → c ≠ i2 → s.heap.get? c = some o → h'.get? c = some o) → Q none { s with heap := h' }) : wpAny (model prog w) A (pyNext (.ref z)) Q E s := by
  rcases hz with ⟨hz, a, b, hTO⟩ | ⟨T, f, oT, hz, hT, t1, t2, t3, t4, t5⟩
  · exact pyNext_zipT_end hh D hz hTI hTO h1 h2 hl1 hl2 hend hQ
  · have hTy : s.TypeIs (.ref z) "zip" := ⟨_, hz, rfl⟩
    unfold pyNext
    refine wpAny_bind (wpAny_attempt (wpAny_callSpecial?_slot (name := Str.ofString "__next__") hTy PySem.F.slot_zip_next
      (wpAny_call_entry PySem.F.slot_zip_next hTy PySem.F.entry_zip_next (zipTh_end hh D hz hT hTI h1 h2 hl1 hl2 hend fun h' e hk he => ?_) (PySem.F.args_zip_next_1 _))))
    obtain ⟨o, ho, hc⟩ := he
    refine wpAny_bind (wpAny_isInstance (T := "StopIteration") (b := true) ⟨o, ho, hc⟩ isSubtype_stop ?_)
    exact wpAny_pure (hQ _ fun c o c1 _ c3 c4 e => hk c o c1 c3 c4 e)
end

structure ZG (xs ys : Array Value) (lo : Addr) (h : Heap) (as : List Addr) : Prop where
  rise : as.Pairwise (· < ·)
  above : ∀ a ∈ as, lo < a
  pairs : ∀ (j : Nat) (a : Addr), as[j]? = some a → ∃ x y, xs[j]? = some x ∧ ys[j]? = some y ∧ IsPair h a x y
theorem ZG.there {xs ys : Array Value} {lo : Addr} {h : Heap} {as : List Addr} (g : ZG xs ys lo h as) {a : Addr} (ha : a ∈ as) : a < h.objs.size := by
  obtain ⟨j, hj⟩ := List.mem_iff_getElem?.mp ha
  obtain ⟨_, _, _, _, e⟩ := g.pairs j a hj
  exact Heap.lt_size e
theorem tupAt {h h' : Heap} {l : Addr} {xs : Array Value} (x : h.IsTuple l xs) (k : ∀ o, h.get? l = some o → h'.get? l = some o) : h'.IsTuple l xs := by
  obtain ⟨o, ho, r⟩ := x
  exact ⟨o, k o ho, r⟩
structure ZLow (S z TI TO i1 i2 l1 l2 : Addr) : Prop where
  z : z < S
  TI : TI < S
  TO : TO < S
  i1 : i1 < S
  i2 : i2 < S
  l1 : l1 < S
  l2 : l2 < S
section
variable {prog : Program} {w : World} {A : Around} {s : Shared} {R : Result → Shared → Prop} {xs ys : Array Value} {S z TI TO i1 i2 l1 l2 : Addr}
theorem zip_loop (hh : A.handled = none) (D : ZipApart z TI TO i1 i2 l1 l2) (B : ZLow S z TI TO i1 i2 l1 l2) {N : Nat} (hN : min xs.size ys.size = N) (hn : N ≤ sizeLine) (res : Value) {h₁ : Heap}
    (hR : ∀ h' tk acc c as, (∀ b o, b ≠ S → b ≠ z → b ≠ TO → b ≠ i1 → b ≠ i2 → h₁.get? b = some o → h'.get? b = some o) → h'.get? S = some { cls := .type "list", dict := none, data := .seq acc c, slots := #[] } → as.length = N → ZG xs ys S h' as →
      acc.toList = as.map Value.ref → R (.ok (.ret res)) { s with heap := h', toks := tk }) :
    ∀ (k i : Nat) (h : Heap) (tk c : Nat) (acc : Array Value) (as : List Addr), N - i = k → i ≤ N → ZHd h S z TI TO i1 i2 → IsPair h TI (.ref i1) (.ref i2) → h.IsTupleIter i1 l1 i → h.IsTupleIter i2 l2 i → h.IsTuple l1 xs → h.IsTuple l2 ys →
      (∀ b o, b ≠ S → b ≠ z → b ≠ TO → b ≠ i1 → b ≠ i2 → h₁.get? b = some o → h.get? b = some o) →
      h.get? S = some { cls := .type "list", dict := none, data := .seq acc c, slots := #[] } → acc.toList = as.map Value.ref → as.length = i → ZG xs ys S h as →
      codeAny (model prog w) A (.builtin "list.extend.loop" ⟨[.ref S, .ref z, res], []⟩) R { s with heap := h, toks := tk } := by
  have Sz : S ≠ z := Nat.ne_of_gt B.z
  have ST : S ≠ TO := Nat.ne_of_gt B.TO
  have S1 : S ≠ i1 := Nat.ne_of_gt B.i1
  have S2 : S ≠ i2 := Nat.ne_of_gt B.i2
  intro k
  induction k with
  | zero =>
    intro i h tk c acc as hk hi hst hTI h1 h2 hl1 hl2 hkeep hS hacc hal hG
    refine codeAny_builtin PySem.F.entry_extend_loop ?_
    rw [Around.under_plainId PySem.F.plain_extend_loop _]
    show wpAny _ A.in1 (pyNext (.ref z) >>= _) _ _ _
    refine wpAny_bind (zipT_none (s := { s with heap := h, toks := tk }) (A := A.in1) (S := S) (k := i) hh D hst hTI h1 h2 hl1 hl2 ?_ fun h' he => ?_)
    · rcases Nat.lt_or_ge i xs.size with q | q
      · exact .inr (Array.getElem?_eq_none (by omega))
      · exact .inl (Array.getElem?_eq_none q)
    · refine wpAny_pure (hR h' tk acc c as (fun b o b0 b1 b2 b3 b4 e => he b o b1 b2 b3 b4 (hkeep b o b0 b1 b2 b3 b4 e)) (he S _ Sz ST S1 S2 hS) (by omega) ⟨hG.rise, hG.above, fun j a hj => ?_⟩ hacc)
      obtain ⟨x, y, e1, e2, e3⟩ := hG.pairs j a hj
      have la := hG.above a (List.mem_of_getElem? hj)
      exact ⟨x, y, e1, e2, he a _ (Nat.ne_of_gt (Nat.lt_trans B.z la)) (Nat.ne_of_gt (Nat.lt_trans B.TO la)) (Nat.ne_of_gt (Nat.lt_trans B.i1 la)) (Nat.ne_of_gt (Nat.lt_trans B.i2 la)) e3⟩
  | succ k ih =>
    intro i h tk c acc as hk hi hst hTI h1 h2 hl1 hl2 hkeep hS hacc hal hG
    have hlt : i < N := by omega
    obtain ⟨x, hx⟩ : ∃ x, xs[i]? = some x := ⟨xs[i]'(by omega), Array.getElem?_eq_getElem (by omega)⟩
    obtain ⟨y, hy⟩ : ∃ y, ys[i]? = some y := ⟨ys[i]'(by omega), Array.getElem?_eq_getElem (by omega)⟩
    have hsz : acc.size = i := by rw [← Array.length_toList, hacc, List.length_map, hal]
    have hSl : S < h.objs.size := Heap.lt_size hS
    refine codeAny_builtin PySem.F.entry_extend_loop ?_
    rw [Around.under_plainId PySem.F.plain_extend_loop _]
    show wpAny _ A.in1 (pyNext (.ref z) >>= _) _ _ _
    refine wpAny_bind (zipT_some (s := { s with heap := h, toks := tk }) (S := S) (k := i) D hst hSl hTI D.TIz D.TITO D.TIi1 D.TIi2 h1 h2 hl1 hl2 hx hy fun h' hst' h1' h2' ht hz hkp => ?_)
    dsimp only at ht hz hkp ⊢
    have hS' := hkp S _ Sz ST S1 S2 hS
    have up : ∀ b o, b ≠ S → h'.get? b = some o → (h'.update S (Obj.mapSeq (·.push (Value.ref h.objs.size)))).get? b = some o := fun b o hb e => (Heap.get?_update_other _ _ (Ne.symm hb)).trans e
    have hTI' := hkp TI _ D.TIz D.TITO D.TIi1 D.TIi2 hTI
    have hl1' : h'.IsTuple l1 xs := tupAt hl1 fun o e => hkp l1 o D.l1z D.l1TO D.l1i1 D.l1i2 e
    have hl2' : h'.IsTuple l2 ys := tupAt hl2 fun o e => hkp l2 o D.l2z D.l2TO D.l2i1 D.l2i2 e
    show wpAny _ A.in1 (updateSeq S (·.push (Value.ref h.objs.size)) >>= _) _ _ _
    refine wpAny_bind ?_
    refine wpAny_updateSeq hS' rfl (wpAny_pure ⟨plainId_quiet PySem.F.plain_extend_loop _, ih (i + 1) _ tk _ (acc.push (Value.ref h.objs.size)) (as ++ [h.objs.size]) (by omega) hlt (hst'.keep up (Ne.symm Sz) (Ne.symm ST)) (up TI _ (Nat.ne_of_lt B.TI) hTI')
      (h1'.at fun o e => up i1 o (Ne.symm S1) e) (h2'.at fun o e => up i2 o (Ne.symm S2) e) (tupAt hl1' fun o e => up l1 o (Nat.ne_of_lt B.l1) e) (tupAt hl2' fun o e => up l2 o (Nat.ne_of_lt B.l2) e)
      (fun b o b0 b1 b2 b3 b4 e => up b o b0 (hkp b o b1 b2 b3 b4 (hkeep b o b0 b1 b2 b3 b4 e))) (Heap.get?_update_self _ hS' rfl) (by rw [Array.toList_push, hacc, List.map_append]; rfl) (by rw [List.length_append, hal]; rfl) ⟨?_, ?_, ?_⟩⟩) (by rw [hsz]; omega) (by show (acc.push (Value.ref h.objs.size)).size ≤ sizeLine + 1; rw [Array.size_push, hsz]; omega)
    · refine List.pairwise_append.mpr ⟨hG.rise, List.pairwise_singleton _ _, fun a ha b hb => ?_⟩
      rw [List.mem_singleton.mp hb]
      exact hG.there ha
    · intro a ha
      rcases List.mem_append.mp ha with ha | ha
      · exact hG.above a ha
      · rw [List.mem_singleton.mp ha]; exact hSl
    · intro j b hj
      rcases Nat.lt_trichotomy j as.length with q1 | q1 | q1
      · rw [List.getElem?_append_left q1] at hj
        obtain ⟨x', y', e1, e2, e3⟩ := hG.pairs j b hj
        have hb := hG.above b (List.mem_of_getElem? hj)
        exact ⟨x', y', e1, e2, up b _ (Nat.ne_of_gt hb) (hkp b _ (Nat.ne_of_gt (Nat.lt_trans B.z hb)) (Nat.ne_of_gt (Nat.lt_trans B.TO hb)) (Nat.ne_of_gt (Nat.lt_trans B.i1 hb)) (Nat.ne_of_gt (Nat.lt_trans B.i2 hb)) e3)⟩
      · subst q1
        have hb : h.objs.size = b := by simpa using hj
        subst hb
        exact ⟨x, y, by rw [hal]; exact hx, by rw [hal]; exact hy, up _ _ (Nat.ne_of_gt hSl) ht⟩
      · have hnone : (as ++ [h.objs.size])[j]? = none := List.getElem?_eq_none (by rw [List.length_append, List.length_singleton]; omega)
        rw [hnone] at hj; cases hj
end

theorem zip_no_len : typeLookup (.type "zip") "__len__" = pure none := am_miss_of_fast (by decide +kernel)
theorem zip_no_hint : typeLookup (.type "zip") "__length_hint__" = pure none := am_miss_of_fast (by decide +kernel)
section
variable {prog : Program} {w : World} {A : Around} {s : Shared} {R : Result → Shared → Prop} {xs ys : Array Value} {S z TI TO i1 i2 l1 l2 : Addr}
theorem zip_extend (hh : A.handled = none) (D : ZipApart z TI TO i1 i2 l1 l2) (B : ZLow S z TI TO i1 i2 l1 l2) {N : Nat} (hN : min xs.size ys.size = N) (hn : N ≤ sizeLine) (res : Value) (c₀ : Nat)
    (hz : IsZip s.heap z TI TO .none) (hTI : IsPair s.heap TI (.ref i1) (.ref i2)) {a b : Value} (hTO : IsPair s.heap TO a b) (h1 : s.heap.IsTupleIter i1 l1 0) (h2 : s.heap.IsTupleIter i2 l2 0) (hl1 : s.heap.IsTuple l1 xs) (hl2 : s.heap.IsTuple l2 ys)
    (hS : s.heap.get? S = some { cls := .type "list", data := .seq #[] c₀ })
    (hR : ∀ h' tk acc c as, (∀ b o, b ≠ S → b ≠ z → b ≠ TO → b ≠ i1 → b ≠ i2 → s.heap.get? b = some o → h'.get? b = some o) → h'.get? S = some { cls := .type "list", dict := none, data := .seq acc c, slots := #[] } → as.length = N → ZG xs ys S h' as →
      acc.toList = as.map Value.ref → R (.ok (.ret res)) { s with heap := h', toks := tk }) :
    wpAny (model prog w) A.in1 (Builtin.List.listExtendWith (.ref S) (.ref z) res)
      (fun fin s' => match fin with | .done f => R (.ok f) s' | .again c' => c'.quiet = true ∧ codeAny (model prog w) A c' R s') (fun e s' => R (.error e) s') s := by
  have hT : s.TypeIs (.ref z) "zip" := ⟨_, hz, rfl⟩
  have hSz : S ≠ z := Nat.ne_of_gt B.z
  unfold Builtin.List.listExtendWith
  refine wpAny_bind (wpAny_typeOf hT ?_)
  have q1 : Builtin.List.listSameRef (.ref S) (.ref z) = false := by simp [Builtin.List.listSameRef, hSz]
  have q2 : (Value.type "zip" == Value.type "list") = false := by decide
  have q3 : (Value.type "zip" == Value.type "tuple") = false := by decide
  simp only [q1, q2, q3, Bool.or_false, Bool.false_eq_true, if_false]
  refine wpAny_bind (wpAny_pyIter_zip hz ?_)
  refine wpAny_bind (wpAny_holding ?_)
  unfold Builtin.List.listLengthHint
  refine wpAny_bind (wpAny_specialOf hT zip_no_len ?_)
  show wpAny _ A.in1 (specialOf (Value.ref z) (Str.ofString "__length_hint__") >>= _) _ _ _
  refine wpAny_bind (wpAny_specialOf hT zip_no_hint ?_)
  refine wpAny_pure ?_
  show wpAny _ A.in1 (rule "list.extend.makes-room" >>= fun _ => Builtin.List.listTouch (.ref S) >>= fun _ =>
    again (.builtin "list.extend.loop" ⟨[.ref S, .ref z, res], []⟩)) _ _ _
  refine wpAny_bind (wpAny_rule ?_)
  refine wpAny_bind ?_
  show wpAny _ A.in1 (updateSeq S (·.push .none) >>= fun _ => updateSeq S (·.pop)) _ _ _
  refine wpAny_bind (wpAny_updateSeq hS rfl ?_)
  have hS₂ := Heap.get?_update_self (Obj.mapSeq (·.push Value.none)) hS rfl
  refine wpAny_updateSeq (hz := by seq_fits) hS₂ rfl ?_
  have hS₃ := Heap.get?_update_self (Obj.mapSeq (·.pop)) hS₂ rfl
  have oth : ∀ b o, b ≠ S → s.heap.get? b = some o → ((s.heap.update S (Obj.mapSeq (·.push Value.none))).update S (Obj.mapSeq (·.pop))).get? b = some o :=
    fun b o hb e => (Heap.get?_update_other _ _ (Ne.symm hb)).trans ((Heap.get?_update_other _ _ (Ne.symm hb)).trans e)
  refine wpAny_pure ⟨plainId_quiet PySem.F.plain_extend_loop _, zip_loop hh D B hN hn res (h₁ := s.heap) hR N 0 _ _ _ #[] [] (Nat.sub_zero _) (Nat.zero_le _) (.inl ⟨oth z _ (Ne.symm hSz) hz, a, b, oth TO _ (Nat.ne_of_lt B.TO) hTO⟩) (oth TI _ (Nat.ne_of_lt B.TI) hTI)
    (h1.at fun o e => oth i1 o (Nat.ne_of_lt B.i1) e) (h2.at fun o e => oth i2 o (Nat.ne_of_lt B.i2) e) (tupAt hl1 fun o e => oth l1 o (Nat.ne_of_lt B.l1) e) (tupAt hl2 fun o e => oth l2 o (Nat.ne_of_lt B.l2) e)
    (fun b o b0 _ _ _ _ e => oth b o b0 e) hS₃ rfl rfl ⟨List.Pairwise.nil, (fun _ ha => nomatch ha), (fun j a hj => by simp at hj)⟩⟩
theorem zip_init (hh : A.handled = none) (D : ZipApart z TI TO i1 i2 l1 l2) (B : ZLow S z TI TO i1 i2 l1 l2) {N : Nat} (hN : min xs.size ys.size = N) (hn : N ≤ sizeLine)
    (hz : IsZip s.heap z TI TO .none) (hTI : IsPair s.heap TI (.ref i1) (.ref i2)) {a b : Value} (hTO : IsPair s.heap TO a b) (h1 : s.heap.IsTupleIter i1 l1 0) (h2 : s.heap.IsTupleIter i2 l2 0) (hl1 : s.heap.IsTuple l1 xs) (hl2 : s.heap.IsTuple l2 ys)
    (hS : s.heap.get? S = some { cls := .type "list", data := .seq #[] })
    (hR : ∀ h' tk acc c as, (∀ b o, b ≠ S → b ≠ z → b ≠ TO → b ≠ i1 → b ≠ i2 → s.heap.get? b = some o → h'.get? b = some o) → h'.get? S = some { cls := .type "list", dict := none, data := .seq acc c, slots := #[] } → as.length = N → ZG xs ys S h' as →
      acc.toList = as.map Value.ref → R (.ok (.ret .none)) { s with heap := h', toks := tk }) :
    wpAny (model prog w) A.in1 (Builtin.«list.__init__» ⟨[.ref S, .ref z], []⟩)
      (fun fin s' => match fin with | .done f => R (.ok f) s' | .again c' => c'.quiet = true ∧ codeAny (model prog w) A c' R s') (fun e s' => R (.error e) s') s := by
  have hSz : S ≠ z := Nat.ne_of_gt B.z
  show wpAny _ A.in1 (do let old ← Builtin.List.listItems (.ref S); Builtin.List.listUpdate (.ref S) (fun _ => #[]); letGo old.toList.reverse; Builtin.List.listExtendWith (.ref S) (.ref z) .none) _ _ s
  refine wpAny_bind ?_
  unfold Builtin.List.listItems
  refine wpAny_bind (wpAny_seqItems hS rfl (wpAny_pure ?_))
  show wpAny _ A.in1 (updateSeq S (fun _ => #[]) >>= fun _ => letGo (#[] : Array Value).toList.reverse >>= fun _ => Builtin.List.listExtendWith (.ref S) (.ref z) .none) _ _ s
  refine wpAny_bind (wpAny_updateSeq hS rfl ?_)
  have hS₂ := Heap.get?_update_self (Obj.mapSeq (fun _ => (#[] : Array Value))) hS rfl
  have oth : ∀ b o, b ≠ S → s.heap.get? b = some o → (s.heap.update S (Obj.mapSeq (fun _ => (#[] : Array Value)))).get? b = some o :=
    fun b o hb e => (Heap.get?_update_other _ _ (Ne.symm hb)).trans e
  refine wpAny_bind (wpAny_letGo ?_)
  refine zip_extend hh D B hN hn .none _ (oth z _ (Ne.symm hSz) hz) (oth TI _ (Nat.ne_of_lt B.TI) hTI) (oth TO _ (Nat.ne_of_lt B.TO) hTO) (h1.at fun o e => oth i1 o (Nat.ne_of_lt B.i1) e) (h2.at fun o e => oth i2 o (Nat.ne_of_lt B.i2) e) (tupAt hl1 fun o e => oth l1 o (Nat.ne_of_lt B.l1) e) (tupAt hl2 fun o e => oth l2 o (Nat.ne_of_lt B.l2) e) hS₂ fun h' tk acc c as hk hS' hl hG hacc => ?_
  exact hR h' tk acc c as (fun b o b0 b1 b2 b3 b4 e => hk b o b0 b1 b2 b3 b4 (oth b o b0 e)) hS' hl hG hacc
theorem call_list_zip {E : Value → Shared → Prop} {Q : Value → Shared → Prop} (hh : A.handled = none) (D : ZipApart z TI TO i1 i2 l1 l2) {N : Nat} (hN : min xs.size ys.size = N) (hn : N ≤ sizeLine)
    (hz : IsZip s.heap z TI TO .none) (hTI : IsPair s.heap TI (.ref i1) (.ref i2)) {a b : Value} (hTO : IsPair s.heap TO a b) (h1 : s.heap.IsTupleIter i1 l1 0) (h2 : s.heap.IsTupleIter i2 l2 0) (hl1 : s.heap.IsTuple l1 xs) (hl2 : s.heap.IsTuple l2 ys)
    (hQ : ∀ h' tk acc c as, (∀ b o, b ≠ z → b ≠ TO → b ≠ i1 → b ≠ i2 → s.heap.get? b = some o → h'.get? b = some o) → h'.get? s.heap.objs.size = some { cls := .type "list", dict := none, data := .seq acc c, slots := #[] } → as.length = N → ZG xs ys s.heap.objs.size h' as →
      acc.toList = as.map Value.ref → Q (.ref s.heap.objs.size) { s with heap := h', toks := tk }) :
    wpAny (model prog w) A (call (.type "list") [.ref z]) Q E s := by
  refine callType_codes (Q₁ := fun obj s₁ => obj = .ref s.heap.objs.size ∧ s₁ = { s with heap := s.heap.push { cls := .type "list", data := .seq #[] } }) PySem.F.called_list (PySem.F.typeCall_list_1 _) PySem.F.entry_list_init
    (code_list_new _ ⟨rfl, rfl⟩) fun obj s₁ h₁ => ?_
  obtain ⟨rfl, rfl⟩ := h₁
  have hS : (s.heap.push { cls := .type "list", data := .seq #[] }).get? s.heap.objs.size = some { cls := .type "list", data := .seq #[] } := Heap.get?_push_size _ rfl
  have up : ∀ b o, s.heap.get? b = some o → (s.heap.push { cls := .type "list", data := .seq #[] }).get? b = some o := fun b o e => Heap.get?_push_of_some _ e
  have B : ZLow s.heap.objs.size z TI TO i1 i2 l1 l2 := ⟨Heap.lt_size hz, Heap.lt_size hTI, Heap.lt_size hTO, (let ⟨_, e, _⟩ := h1; Heap.lt_size e), (let ⟨_, e, _⟩ := h2; Heap.lt_size e), (let ⟨_, e, _⟩ := hl1; Heap.lt_size e), (let ⟨_, e, _⟩ := hl2; Heap.lt_size e)⟩
  refine ⟨⟨_, hS, rfl⟩, PySem.F.args_list_init_2 _ _, zip_init (A := A.in1) hh D B hN hn (up _ _ hz) (up _ _ hTI) (up _ _ hTO) (h1.at fun o e => up i1 o e) (h2.at fun o e => up i2 o e) (tupAt hl1 fun o e => up l1 o e) (tupAt hl2 fun o e => up l2 o e) hS fun h' tk acc c as hk hS' hl hG hacc => ?_⟩
  exact ⟨rfl, hQ h' tk acc c as (fun b o b1 b2 b3 b4 e => hk b o (Nat.ne_of_lt (Heap.lt_size e)) b1 b2 b3 b4 (up b o e)) hS' hl hG hacc⟩
end
end RZ
set_option Elab.async false
set_option linter.all false
set_option maxRecDepth 100000
set_option maxHeartbeats 800000
/-! list(zip(a, b)): the rule -/
namespace RZ
open PySem PySem.Spec PyProof.Rows L2
def putP : Hp → List Addr → List (V × V) → Hp
  | H, a :: as, p :: ps => putP (upd H a (.tup [p.1, p.2])) as ps
  | H, _, _ => H
theorem putP_off {b : Addr} : ∀ (as : List Addr) (ps : List (V × V)) (H : Hp), b ∉ as → putP H as ps b = H b
  | [], _, _, _ => rfl
  | _ :: _, [], _, _ => rfl
  | a :: as, p :: ps, H, h => by
    show putP (upd H a (.tup [p.1, p.2])) as ps b = H b
    rw [putP_off as ps _ (fun z => h (List.mem_cons_of_mem _ z)), upd_ne (fun z => h (by rw [z]; exact List.mem_cons_self))]
theorem putP_at : ∀ (as : List Addr) (ps : List (V × V)) (H : Hp), as.length = ps.length → as.Nodup → Paired (fun (t : Addr) (p : V × V) => putP H as ps t = some (.tup [p.1, p.2])) as ps
  | [], [], _, _, _ => .nil
  | [], _ :: _, _, h, _ => by cases h
  | _ :: _, [], _, h, _ => by cases h
  | a :: as, p :: ps, H, h, hn => by
    have hn' := List.nodup_cons.mp hn
    have ih := putP_at as ps (upd H a (.tup [p.1, p.2])) (Nat.succ.inj h) hn'.2
    refine .cons ?_ ih
    show putP (upd H a (.tup [p.1, p.2])) as ps a = some (.tup [p.1, p.2])
    rw [putP_off as ps _ hn'.1, upd_same]
section
variable {X : Cx}
/-- the list and its pairs tracked -/
theorem zip_laid {pins : List (Addr × Obj)} {σ : L2.St} {H : Hp} {s : Shared} {h' : Heap} {tk : Nat} {xs ys : List V} {us vs : List Value} {acc : Array Value} {c : Nat} {as : List Addr} {S : Addr} (hLe : s.heap.objs.size ≤ S) (I : Inv X pins σ H s) (hz : xs.length ≤ sizeLine) (he : xs.length = ys.length) (rx : Vals xs us) (ry : Vals ys vs)
    (hk : ∀ b o, s.heap.get? b = some o → h'.get? b = some o) (hS : h'.get? S = some { cls := .type "list", dict := none, data := .seq acc c, slots := #[] }) (hl : as.length = xs.length) (hG : ZG us.toArray vs.toArray S h' as) (hacc : acc.toList = as.map Value.ref) :
    ∃ H' : Hp, (∀ b o, H b = some o → H' b = some o) ∧ H S = none ∧ (∀ t ∈ as, H t = none) ∧ S ∉ as ∧ H' S = some (.lst (as.map V.ref)) ∧ Paired (fun (t : Addr) (q : V × V) => H' t = some (.tup [q.1, q.2])) as (xs.zip ys) ∧ Inv X pins σ H' { s with heap := h', toks := tk } := by
  have lz : as.length = (xs.zip ys).length := by rw [List.length_zip]; omega
  have hSn : S ∉ as := fun z => Nat.lt_irrefl _ (hG.above _ z)
  have nd : as.Nodup := List.Pairwise.imp (fun {a b} (h : a < b) => Nat.ne_of_lt h) hG.rise
  have new : ∀ t ∈ as, H t = none := fun t ht => I.hok.fresh (Nat.le_trans hLe (Nat.le_of_lt (hG.above t ht)))
  have newS : H S = none := I.hok.fresh hLe
  have atP := putP_at as (xs.zip ys) (upd H S (.lst (as.map V.ref))) lz nd
  have off : ∀ b, b ∉ as → b ≠ S → putP (upd H S (.lst (as.map V.ref))) as (xs.zip ys) b = H b := fun b h1 h2 => by rw [putP_off as _ _ h1, upd_ne h2]
  have low : ∀ b o, s.heap.get? b = some o → b ∉ as ∧ b ≠ S := fun b o e => ⟨fun z => absurd (Heap.lt_size e) (Nat.not_lt.mpr (Nat.le_trans hLe (Nat.le_of_lt (hG.above b z)))), Nat.ne_of_lt (Nat.lt_of_lt_of_le (Heap.lt_size e) hLe)⟩
  have kp : ∀ b u, H b = some u → (putP (upd H S (.lst (as.map V.ref))) as (xs.zip ys)) b = some u := fun b u e => by
    rw [off b (fun z => by rw [new b z] at e; cases e) (fun z => by rw [z, newS] at e; cases e)]
    exact e
  have eS : putP (upd H S (.lst (as.map V.ref))) as (xs.zip ys) S = some (.lst (as.map V.ref)) := by rw [putP_off as _ _ hSn, upd_same]
  refine ⟨putP (upd H S (.lst (as.map V.ref))) as (xs.zip ys), kp, newS, new, hSn, eS, atP, ?_⟩
  refine I.call' (ch := []) rfl ⟨fun b o q _ _ _ => hk b o q, fun b o q _ _ _ => ⟨o.slots, hk b o q⟩, fun b o q n _ => ?_, fun b o q _ => ⟨o, hk b o q⟩, fun b xs q => kp b _ q, fun b o u q => kp b _ q, fun b ps q => ⟨#[], by rw [kp b _ q]; simp⟩⟩ (fun b u q => ?_) I.bare fun b z => by simp at z
  · obtain ⟨z1, z2⟩ := low b o q
    rw [off b z1 z2]
    exact n
  · by_cases hb : b ∈ as
    · obtain ⟨j, pk, e1, e2, e3⟩ := LiI.paired_ix atP hb
      rw [e3] at q
      cases q
      obtain ⟨x, y, f1, f2, f3⟩ := hG.pairs j b e1
      rw [List.getElem?_toArray] at f1 f2
      obtain ⟨g1, g2⟩ := List.getElem?_zip_eq_some.mp e2
      obtain ⟨x', k1, r1⟩ := LiI.paired_get rx g1
      obtain ⟨y', k2, r2⟩ := LiI.paired_get ry g2
      rw [f1] at k1; cases k1
      rw [f2] at k2; cases k2
      exact ⟨by show 2 ≤ sizeLine; decide, [x, y], .cons r1 (.cons r2 .nil), ⟨_, f3, rfl, _, rfl⟩⟩
    · by_cases hb2 : b = S
      · rw [hb2] at q ⊢
        rw [eS] at q
        cases q
        refine ⟨by rw [List.length_map]; omega, acc.toList, c, by rw [hacc]; exact LiI.vals_refs as, ?_⟩
        rw [Array.toArray_toList]
        exact hS
      · rw [off b hb hb2] at q
        exact (I.hok b u q).stay (fun d v _ y => hk d v y) (fun d y => kp d _ y) fun d xs y => kp d _ y

def rZipL (K : PySem.W.Frag) (vs : List V) (H : Hp) (Q : VK) : Prop := ∃ a b xs ys, vs = [.ref a, .ref b] ∧ SqT K H a xs ∧ SqT K H b ys ∧ xs.length = ys.length ∧
  ∀ (H' : Hp) (p : Addr) (ts : List Addr), (∀ b o, H b = some o → H' b = some o) → H p = none → (∀ t ∈ ts, H t = none) → p ∉ ts → H' p = some (.lst (ts.map V.ref)) → Paired (fun (t : Addr) (q : V × V) => H' t = some (.tup [q.1, q.2])) ts (xs.zip ys) → Q (.ref p) H'
def tListZip (K : PySem.W.Frag) (ta : TA) : TE := fun σ H Q => ta σ H fun vs H1 => rZipL K vs H1 Q
theorem pe_listZip {e e2 : Expr} {ta : TA} {p zp cpos pos : Pos} (hc : X.calm = true) (hgl : Gl X "list") (hml : X.mg "list" = none) (hg : Gl X "zip") (hm : X.mg "zip" = none) (ha : PA X [e, e2] ta)
    (hs : starEach [e, e2] X.env = (false, eval e X.env) :: starEach [e2] X.env := by rfl) (hpl : (backTo cpos (starEach [e2] X.env)).any (·.1) = false := by rfl)
    (na : starEach [.Call (.Name "zip" zp) [e, e2] [] cpos] X.env = (false, eval (.Call (.Name "zip" zp) [e, e2] [] cpos) X.env) :: starEach [] X.env := by rfl) :
    PE X (.Call (.Name "list" p) [.Call (.Name "zip" zp) [e, e2] [] cpos] [] pos) (tListZip X.K ta) := by
  refine ⟨fun pins s σ H Q I h => ?_⟩
  refine Call_ (ld_blt I hgl hml boot_list (PyProof.Rows.callWith_type1 (args_cons (Call_ (ld_blt I hg hm PyProof.Rows.boot_zip (PyProof.Rows.callWith_type1 (thn (ha.run cpos pins s σ H _ I h) fun us s1 ⟨vs, H1, I1, r1, q1⟩ => ?_) hs hpl))) na) na))
  obtain ⟨a, b, xs, ys, ex, hqx, hqy, he, q⟩ := q1
  subst ex
  cases r1 with
  | cons r rr =>
    cases rr with
    | cons r' rr =>
      cases rr
      cases r
      cases r'
      obtain ⟨its, rv, p1, z1⟩ := I1.tuple hqx
      obtain ⟨its2, rv2, p2, z2⟩ := I1.tuple hqy
      obtain ⟨o1, ho1, _⟩ := id p1
      obtain ⟨o2, ho2, _⟩ := id p2
      refine call_zipT (show s1.heap.IsTuple a its.toArray from p1) (show s1.heap.IsTuple b its2.toArray from p2) fun h' hz hTI hTO h1 h2 hsz hk => ?_
      have I2 : Inv X pins σ H1 { s1 with heap := h' } := I1.kept (t' := s1.toks) hk
      refine args_nil ?_
      have l1 := rv.length
      have l2 := rv2.length
      refine call_list_zip (s := { s1 with heap := h' }) (N := xs.length) (I2.ok.hd hc) (PySem.W.ktu_apart s1.heap.objs.size a b (Heap.lt_size ho1) (Heap.lt_size ho2)) (by simp; omega) ?_ hz hTI hTO h1 h2 (tupAt p1 fun o e => hk a o e) (tupAt p2 fun o e => hk b o e) fun h2' tk acc c as hk2 hS hl hG hacc => ?_
      · exact z1
      · have hk3 : ∀ b o, s1.heap.get? b = some o → h2'.get? b = some o := fun b o e => by
          have lb : b < s1.heap.objs.size := Heap.lt_size e
          exact hk2 b o (Nat.ne_of_lt (Nat.lt_of_lt_of_le lb (Nat.le_add_right _ _))) (Nat.ne_of_lt (Nat.lt_of_lt_of_le lb (Nat.le_add_right _ _))) (Nat.ne_of_lt lb) (Nat.ne_of_lt (Nat.lt_of_lt_of_le lb (Nat.le_add_right _ _))) (hk b o e)
        have hLe : s1.heap.objs.size ≤ h'.objs.size := by omega
        obtain ⟨H', k1, k2, k3, k4, k5, k6, J⟩ := zip_laid (tk := tk) hLe I1 z1 he rv rv2 hk3 hS hl hG hacc
        exact ⟨.ref _, H', J, rfl, q H' _ as k1 k2 k3 k4 k5 k6⟩
end
end RZ
set_option Elab.async false
set_option linter.all false
set_option maxRecDepth 100000
set_option maxHeartbeats 800000
/-! the layer's rule for list(zip(a, b)) -/
namespace U
open PySem PySem.Spec PyProof.Rows L2
def zipN (xs ys : List D) : List D := List.zipWith (fun x y => PyData.tuple [x, y]) xs ys
def lzK : List D → Res
  | [.tuple xs, .tuple ys] => if xs.length = ys.length then .new (zipN xs ys) else .bad
  | _ => .bad
def eLz (ms : List Sm) : Sm := fun ρ => (evs ms ρ).bind lzK
section
variable {X : Cx} {cv : Nat → Value} {W : WX} {a b : Expr} {ms : List Sm} {p zp cpos pos : Pos}
theorem drs_zip {F F' : Hp} (le : Ex F F') : ∀ {ts : List Addr} {vs ws : List V} {xs ys : List D}, Paired (fun (t : Addr) (q : V × V) => F' t = some (.tup [q.1, q.2])) ts (vs.zip ws) → DrAll F vs xs → DrAll F ws ys → xs.length = ys.length → DrAll F' (ts.map V.ref) (zipN xs ys)
  | ts, _, _, _, _, hp, .nil, .nil, _ => by
    cases hp
    exact .nil
  | ts, _, _, _, _, hp, .cons h1 t1, .cons h2 t2, hl => by
    cases hp with
    | cons e r => exact .cons (.tup e (.cons (dp_mono le h1) (.cons (dp_mono le h2) .nil))) (drs_zip le r t1 t2 (by simpa using hl))
  | _, _, _, _, _, _, .nil, .cons _ _, hl => by simp at hl
  | _, _, _, _, _, _, .cons _ _, .nil, hl => by simp at hl
theorem paired_on {α β : Type} {P Q : α → β → Prop} : ∀ {ts : List α} {qs : List β}, (∀ t ∈ ts, ∀ q, P t q → Q t q) → Paired P ts qs → Paired Q ts qs
  | _, _, _, .nil => .nil
  | _, _, h, .cons e r => .cons (h _ List.mem_cons_self _ e) (paired_on (fun t ht q k => h t (List.mem_cons_of_mem _ ht) q k) r)
theorem j_lz (hc : X.calm = true) (hgl : Gl X "list") (hml : X.mg "list" = none) (hg : Gl X "zip") (hm : X.mg "zip" = none) (ha : JA X cv W [a, b] ms) (h1 : notStar a = true) (h2 : notStar b = true) : JE X cv W (.Call (.Name "list" p) [.Call (.Name "zip" zp) [a, b] [] cpos] [] pos) (eLz ms) :=
  PE.imp (RZ.pe_listZip hc hgl hml hg hm ha (star_cons h1) (star_any (by simp [h2])) rfl) fun σ H Q ⟨ρ, F, r, q⟩ => rd_args r q fun ds vs F1 H1 hl ev hd q => by
    unfold lzK at q
    split at q
    · rename_i xs ys
      split at q
      · rename_i hxy
        cases hd with
        | cons hx hd =>
          cases hd with
          | cons hy hd =>
            cases hd
            cases hx with
            | tup e1 d1 =>
              cases hy with
              | tup e2 d2 =>
                refine ⟨_, _, _, _, rfl, .inl (.inl (ev.le _ _ e1)), .inl (.inl (ev.le _ _ e2)), by rw [dps_len d1, dps_len d2, hxy], fun H' p ts k1 k2 k3 k4 k5 k6 => ?_⟩
                have evo : Evo F1 H1 (fun t => if t ∈ ts then H' t else F1 t) H' := by
                  refine ⟨fun t o e => ?_, fun t o e => k1 t o e, fun t o e => ?_, fun t o e => ?_⟩
                  · have nt : t ∉ ts := fun z => by have := ev.le t o e; rw [k3 t z] at this; cases this
                    simp only [nt, if_false]; exact e
                  · by_cases z : t ∈ ts
                    · simp only [z, if_true] at e; exact e
                    · simp only [z, if_false] at e; exact k1 t o (ev.le t o e)
                  · by_cases z : t ∈ ts
                    · exact .inr (k3 t z)
                    · simp only [z, if_false] at e; exact .inl e
                refine q p (ts.map V.ref) _ H' evo k2 ?_ k5 (drs_zip evo.ex ?_ d1 d2 hxy)
                · simp only [k4, if_false]; exact none_back ev.le k2
                · exact paired_on (fun t ht q k => by simp only [ht, if_true]; exact k) k6
      · exact q.elim
    · exact q.elim

/-! list(range(a, b)) -/
def eLr (ma mb : Sm) : Sm := fun ρ => (ma ρ).bind fun x => (mb ρ).bind fun y => match x, y with
  | .int i, .int j => if -1000 ≤ i ∧ i ≤ 1000 ∧ -1000 ≤ j ∧ j ≤ 1000 then .new (rangeD i (j - i).toNat) else .bad
  | _, _ => .bad
theorem drs_rg (F : Hp) (i j : Int) : DrAll F (rgV i j) (rangeD i (j - i).toNat) := by
  unfold rgV rangeD
  generalize List.range (j - i).toNat = l
  induction l with
  | nil => exact .nil
  | cons k l ih => exact .cons (.int _) ih
theorem j_lr {ma mb : Sm} (hc : X.calm = true) (hgl : Gl X "list") (hml : X.mg "list" = none) (hg : Gl X "range") (hm : X.mg "range" = none) (ha : JW X cv W a ma) (hb : JW X cv W b mb) (h1 : notStar a = true) (h2 : notStar b = true) : JE X cv W (.Call (.Name "list" p) [.Call (.Name "range" zp) [a, b] [] cpos] [] pos) (eLr ma mb) :=
  PE.imp (pe_listRg hc hgl hml (prg_2 hg hm ha hb (star_cons h1) (star_cons h2) (star_any (by simp [h2]))) rfl) fun σ H Q ⟨ρ, F, r, q⟩ => by
    refine ⟨ρ, F, r, ?_⟩
    unfold eLr at q
    have go : ∀ d, GotE cv W F H σ Q ((mb ρ).bind fun y => match d, y with
      | .int i, .int j => if -1000 ≤ i ∧ i ≤ 1000 ∧ -1000 ≤ j ∧ j ≤ 1000 then .new (rangeD i (j - i).toNat) else .bad
      | _, _ => .bad) → QW F H d fun x H1 => rdW cv W mb σ H1 fun y H2 => ∃ i j, x = .int i ∧ y = .int j ∧ RgOk i j ∧ ∀ q, H2 q = none → Q (.ref q) (upd H2 q (.lst (rgV i j))) := fun d q v F1 H1 ev wk => by
      refine ⟨ρ, F1, r.evo ev, ?_⟩
      cases h : mb ρ with
      | ok d2 =>
        rw [h] at q
        intro v2 F2 H2 ev2 wk2
        simp only [Res.bind] at q
        cases d <;> try exact q.elim
        cases d2 <;> try exact q.elim
        simp only at q
        split at q
        · rename_i hz
          refine ⟨_, _, wk.int, wk2.int, ⟨by omega, by omega, by omega, by omega, by omega⟩, fun z hz' => ?_⟩
          have e3 := ev.trans ev2
          exact q z _ F2 _ ⟨e3.ex, e3.hx.trans (Evl.Ex.new hz'), e3.le.trans (Evl.Ex.new hz'), e3.new⟩ (none_back e3.hx hz') (none_back e3.le hz') upd_same (drs_rg F2 _ _)
        · exact q.elim
      | new d2 => rw [h] at q; cases d <;> exact q.elim
      | exc c => rw [h] at q; exact QX.evo ev q
      | bad => rw [h] at q; exact q
    cases h : ma ρ with
    | ok d => rw [h] at q; exact go d q
    | new d => rw [h] at q; exact go _ q
    | exc c => rw [h] at q; exact q
    | bad => rw [h] at q; exact q
end

variable {S : S0}
def lstOf (r : TR S) (sc : Scope) : (e : Expr) → Option (OkE S sc e)
  | .Call (.Name x p) [.Call (.Name y zp) [a, b] [] cpos] [] pos =>
      if hx : x = "list" then (if hg : glB sc x = true then (if hy : y = "zip" then (if hz : glB sc y = true then (aOf r sc [a, b]).bind fun u => some ⟨eLz u.ms, u.lk, fun cv X W g h => by
        subst hx hy
        exact j_lz g.calm (Gd.gl (cv := cv) (W := W) h hg) (g.blt _ (by decide +kernel)) (Gd.gl (cv := cv) (W := W) h hz) (g.blt _ (by decide +kernel)) (u.ok cv X W g h) (all_cons u.st).1 (all_cons (all_cons u.st).2).1⟩ else none)
      else if hy : y = "range" then (if hz : glB sc y = true then (wOf r sc a).bind fun u => (wOf r sc b).bind fun v => if hs : notStar a = true ∧ notStar b = true then some ⟨eLr u.m v.m, u.lk ++ v.lk, fun cv X W g h => by
        subst hx hy
        exact j_lr g.calm (Gd.gl (cv := cv) (W := W) h hg) (g.blt _ (by decide +kernel)) (Gd.gl (cv := cv) (W := W) h hz) (g.blt _ (by decide +kernel)) (u.ok cv X W g h) (v.ok cv X W g h) hs.1 hs.2⟩ else none else none)
      else none) else none) else none
  | _ => none
def stepEZ (r : TR S) (sc : Scope) (e : Expr) : Option (OkE S sc e) := match lstOf r sc e with
  | some x => some x
  | none => stepEW r sc e
/-! x, y, z = a new list, data, data (names that a comprehension reads) -/
section
variable {X : Cx} {cv : Nat → Value} {W : WX} {m1 m2 m3 : Sm} {lk : List Nat} {pos : Pos}
def sTrj (i j l : Nat) (lk : List Nat) (m1 m2 m3 : Sm) : Ss := fun ρ0 => let ρ := frz ρ0 lk
  (m1 ρ).fl ρ (fun _ => .bad) (fun xs => (m2 ρ).fl ρ (fun d => (m3 ρ).fl ρ (fun d3 => .nx (((ρ.set i (.ow xs)).set j (.fr d)).set l (.fr d3))) (fun _ => .bad)) (fun _ => .bad))
theorem js_trj {i j l : Nat} {x y z : Str} {a b c : Expr} {px py pz pt pt2 : Pos} {k k2 : Nat} (hc : X.calm = true) (hN : X.N.Nodup) (hes : Nms X [.Name x px, .Name y py, .Name z pz] [i, j, l])
    (ha : JE X cv W a m1) (hb : JE X cv W b m2) (hcc : JE X cv W c m3) (h1 : notStar a = true) (h2 : notStar b = true) (h3 : notStar c = true) (hw : swappedStores [.Tuple [.Name x px, .Name y py, .Name z pz] k pt] (.Tuple [a, b, c] k2 pt2) X.env = pure none) :
    JF X cv W (.Assign [.Tuple [.Name x px, .Name y py, .Name z pz] k pt] (.Tuple [a, b, c] k2 pt2) pos) (sTrj i j l lk m1 m2 m3) := fun B =>
  PS.imp (ps_asg (pe_tup (pa_cons ha (pa_cons hb (pa_cons hcc pa_nil (star_cons h3)) (star_cons h2)) (star_cons h1))) (pg_tup hc (hes.pgs hN) (hes.len (env := X.env)).1 (hes.len (env := X.env)).2) sw_other hw rfl) fun Dn σ H ⟨ρ0, F0, r0, q⟩ => by
    obtain ⟨F, r⟩ := RelB.frz (lk := lk) r0
    unfold sTrj at q
    simp only at q
    refine rd_st r q (fun d v F1 H1 ev hd q => q.elim) fun xs p1 ys1 F1 H1 ev1 a1 a2 a3 a4 q => ?_
    refine rd_st (r.step ev1) q (fun d v F2 H2 ev2 hd q => ?_) fun ds p xs F2 H2 ev2 h1 h2 h3 h4 q => q.elim
    refine rd_st ((r.step ev1).step ev2) q (fun d3 v3 F3 H3 ev3 hd3 q => ?_) fun zs p3 ys3 F3 H3 ev3 b1 b2 b3 b4 q => q.elim
    refine ⟨Evl.sz_of (by simp), fun p hp => ⟨p, _, rfl, .inl (.inl upd_same), rfl, ?_⟩⟩
    have r3 := ((r.step ev1).step ev2).step ev3
    have e4 : Evo F3 H3 F3 (upd H3 p (.tup [.ref p1, v, v3])) := (Evo.refl r3.rel.le).own hp
    have r4 := r3.step e4
    have ev14 := (ev2.trans ev3).trans e4
    have f1 : F3 p1 = none := own_not (ev2.trans ev3) a2 a3
    have g1 : (upd H3 p (.tup [.ref p1, v, v3])) p1 = some (.lst ys1) := ev14.hx _ _ a3
    have r5 := r4.ow i f1 g1 (none_back r.evo.hx a1) (dps_mono (ev2.trans ev3).ex a4) fun k es e _ => new_apart r a1 (ev1.trans ev14) k es e
    have r6 := r5.fr j (dp_mono ev3.ex hd)
    exact ⟨_, _, rfl, _, _, rfl, _, _, rfl, rfl, q _ F3 _ (r6.fr l hd3)⟩
end
def trjOf (r : TR S) (sc : Scope) : (st : Stmt) → Option (OkS S sc st)
  | .Assign [.Tuple [.Name x px, .Name y py, .Name z pz] k p] (.Tuple [a, b, c] kk pp) pos => (storeOf S sc tbF x).bind fun i => (storeOf S sc tbF y).bind fun j => (storeOf S sc tbF z).bind fun l => (r.e sc a).bind fun u => (r.e sc b).bind fun v => (r.e sc c).bind fun w =>
      if hz : swMode sc [.Name x px, .Name y py, .Name z pz] [a, b, c] = some none ∧ notStar a = true ∧ notStar b = true ∧ notStar c = true ∧ isNil a = true then some ⟨sTrj i.1 j.1 l.1 (u.lk ++ v.lk ++ w.lk) u.m v.m w.m, fun cv X W g gx h => by
        obtain ⟨z1, z5, z6, z7, _⟩ := hz
        have s1 := i.2 X g.nN h fun y _ => gx.fnT y
        have s2 := j.2 X g.nN h fun y _ => gx.fnT y
        have s3 := l.2 X g.nN h fun y _ => gx.fnT y
        exact js_trj g.calm g.nd (.cons s1.1 s1.2.1 s1.2.2 (.cons s2.1 s2.2.1 s2.2.2 (.cons s3.1 s3.2.1 s3.2.2 .nil))) (u.ok cv X W g h) (v.ok cv X W g h) (w.ok cv X W g h) z5 z6 z7 (swMode_ok (by rw [h]; exact z1))⟩ else none
  | _ => none
def stepZ (r : TR S) (t : TS0 S) (sc : Scope) (st : Stmt) : Option (OkS S sc st) := match trjOf r sc st with
  | some x => some x
  | none => stepW r t sc st
end U
set_option Elab.async false
set_option linter.all false
set_option maxRecDepth 100000
set_option maxHeartbeats 1000000
/-! a call without arguments; except (A, B) as e with a suite that reads a name -/
namespace U
open PySem PySem.Spec PyProof.Rows L2
def eF0 (f : List D → Res) : Sm := fun _ => match f [] with
  | .exc _ => .bad
  | r => r
section
variable {X : Cx} {cv : Nat → Value} {W : WX} {pos : Pos}
theorem j_callZ {k : Nat} {x : Str} {f : List D → Res} {p : Pos} (F : Fn X cv k x 0 f) (hr : Room k X.A) (hg : Gl X x) (hdb : (x == ("__debug__" : Str)) = false) :
    JE X cv W (.Call (.Name x p) [] [] pos) (eF0 f) := by
  obtain ⟨fa, fd, ps, hm, hl, F, kp, hb⟩ := F.ok
  refine PE.imp (pe_call0 (E := fun _ _ _ => False) F hr hg hm kp hb .nil (fun pins σ H s e s' I c => ?_) hdb) fun σ H Q ⟨ρ, F0, r, q⟩ => ?_
  · obtain ⟨_, _, _, _, _, _, _, _, _, _, _, _, z⟩ := c
    exact z.elim
  · refine ⟨F0, [], r.le, .nil, rfl, ?_⟩
    unfold eF0 at q
    cases h : f [] with
    | ok d => rw [h] at q; exact q
    | new d => rw [h] at q; exact q
    | exc c => rw [h] at q; exact q.elim
    | bad => rw [h] at q; exact q
end
/-! ### except (A, B) as e -/
theorem fly_push {B : Heap} {l : List PySem.Env} {e : Addr} {Z : Obj → Prop} {h : Heap} (o : Obj) (f : HandSPX.FlyingZ B l e Z h) : HandSPX.FlyingZ B l e Z (h.push o) := by
  obtain ⟨f1, f2, f3, oe, vs, T, oT, ts, a1, a2, a3, a4, a5, a6, a7, a8, a9⟩ := f
  exact ⟨fun b u e => Heap.get?_push_of_some _ (f1 b u e), f2, f3.of_keeps fun b u e _ => ⟨u, Heap.get?_push_of_some _ e, rfl⟩, oe, vs, T, oT, ts, Heap.get?_push_of_some _ a1, a2, a3, a4, a5, a6, Heap.get?_push_of_some _ a7, a8, a9⟩
def wTup (K : PySem.W.Frag) (c1 c2 : Value) (i : Nat) (ts : Addr → Value → Option Addr → TS) (D : Ends) : WX := fun cls d σ H => PySem.W.exmAny K cls [c1, c2] = some true ∧ ∀ a, H a = none → ts a cls d (ends' i D) (σ.set i (some (.ref a))) H
theorem ps_try_tup {X : Cx} {body : List Stmt} {n x1 x2 : Str} {c1 c2 : Value} {i : Nat} {ts : Addr → Value → Option Addr → TS} {b₀ : Stmt} {suite : List Stmt} {np1 np2 tpos pos' pos : Pos} {kk : Nat} {tb : WX → TS} (hs : X.stack = X.env :: X.outer) (hf : X.env.frame = some X.env.locals) (hN : X.N.Nodup)
    (hb : ∀ (W : WX) (pn : List (Addr × Obj)) (xe : Value → Shared → Prop), Takes (X.tr pn xe) W → PassesOwn (model X.prog X.w) X.A X.env xe → PSs (X.tr pn xe) body (tb W)) (hc1 : Names X x1 c1) (hc2 : Names X x2 c2) (hi : X.N[i]? = some n) (hln : X.env.kindOf n = some .local)
    (hsu : ∀ (a : Addr) (oe : Obj) (cls : Value) (d : Option Addr) (pn : List (Addr × Obj)), Zc cls d oe → (∃ vs, oe.data = .fields vs) → PSs (X.suite a ((a, oe) :: pn)) (b₀ :: suite) (ts a cls d)) :
    PS X (.Try body [.ExceptHandler (some (.Tuple [.Name x1 np1, .Name x2 np2] kk tpos)) (some n) (b₀ :: suite) pos'] [] [] pos) (fun D σ H => tb (wTup X.K c1 c2 i ts D) D σ H) := by
  refine ⟨fun pins s σ H D I h => ?_⟩
  have ok := I.ok
  have hfr : X.A.frames = some (X.env :: X.outer) := by rw [ok.frames, hs]
  refine wpAny_Try_except ?_
  refine wpAny_mono ((hb (wTup X.K c1 c2 i ts D) (X.pn ++ pins) (fun e s₁ => wpAny (model X.prog X.w) X.A (noteFrame e X.env) (fun _ s₂ => wpAny (model X.prog X.w) X.A (setFlight e none) (fun _ s₃ =>
    wpAny (model X.prog X.w) X.A (handleBy e X.env [.ExceptHandler (some (.Tuple [.Name x1 np1, .Name x2 np2] kk tpos)) (some n) (b₀ :: suite) pos']) (SP X pins D) X.xe s₃) X.xe s₂) X.xe s₁) (fun u s' xx => ?_) PassesOwn.looking).run [] s σ H D (I.toTry _) h) (fun f s1 hsp => ?_) (fun e s1 he => he)
  · obtain ⟨a, B, sI, pins', σ', H', cls, d, rfl, J', nb, up, sky, na, os, ag, w⟩ := xx
    have J : Inv X pins σ' H' sI := J'.ofTry ok
    have sky' : Sky B (X.env :: X.outer) a (Zc cls d) X.env.locals s'.heap := by rw [← hs]; exact sky
    show wpAny (model X.prog X.w) X.A (noteFrame (.ref a) X.env) _ _ _
    refine Sky.land Zc.steady hfr hf sky' fun h3 fl3 up3 => ?_
    have J3 : Inv X pins σ' H' { s' with heap := h3 } := J.landed nb fl3.1 (up.trans up3) os ag
    obtain ⟨oe3, vs3, he3, hz3, hd3⟩ := fl3.there
    have nfr : a ∉ frs (X.env :: X.outer) := fun hm => by
      obtain ⟨_, o', e', hnf⟩ := fl3.2.2.1.mem hm
      rw [he3] at e'; cases e'
      exact hnf _ hd3
    have nL : a ≠ X.env.locals := fun z => nfr (List.mem_filterMap.mpr ⟨X.env, List.mem_cons_self, by rw [hf, z]⟩)
    have nF : a ∉ X.fs := fun hm => by
      obtain ⟨e, he, q⟩ := List.mem_filterMap.mp hm
      exact nfr (List.mem_filterMap.mpr ⟨e, List.mem_cons_of_mem _ he, q⟩)
    have S3 := J3.suite he3 hd3 na nL nF
    obtain ⟨hb1, hyes⟩ := w
    refine wpAny_handleBy_cons (codeAny_handlers_test ?_) (by intro q; cases q)
    have test : ∀ {x : Str} {np : Pos} {c : Value} (hc : Names X x c) {Q : Value → Shared → Prop} {E : Value → Shared → Prop}, Q c { s' with heap := h3 } → wpAny (model X.prog X.w) (X.A.mark (some (.ref a))) (eval (.Name x np) X.env) Q E { s' with heap := h3 } := fun {x np c} hc {Q E} q => by
      obtain ⟨hg, hdbg, hm | ⟨hm, hv, hnn⟩⟩ := hc
      · exact ld_glob (X := X.suite a ((a, oe3) :: (X.pn ++ pins))) S3 hg hm q hdbg
      · exact ld_blt (X := X.suite a ((a, oe3) :: (X.pn ++ pins))) S3 hg hm hv q hnn hdbg
    refine Tuple_ (spliced_more (test hc1 (spliced_more (test hc2 (spliced_none ?_)))))
    refine wpAny_newObj_type ?_
    generalize hh3 : h3.push { cls := .type "tuple", data := .seq [c1, c2].toArray } = h3'
    have he3' : h3'.get? a = some oe3 := by rw [← hh3]; exact Heap.get?_push_of_some _ he3
    have LT : PySem.W.Looks (model X.prog X.w) h3' (typeOf (.ref a)) cls := fun A Q E s k q => wpAny_typeOf_ref (k _ _ he3') (by rw [hz3.1]; exact q)
    have fl3' : HandSPX.FlyingZ B (X.env :: X.outer) a (Zc cls d) h3' := by rw [← hh3]; exact fly_push _ fl3
    have up3' : h3.UpToSlots h3' := by rw [← hh3]; exact Heap.UpToSlots.of_keeps fun b o e => Heap.get?_push_of_some _ e
    have J3' : Inv X pins σ' H' { s' with heap := h3' } := J.landed nb fl3'.1 ((up.trans up3).trans up3') os ag
    have LM := PySem.W.exm_tup2 (M := model X.prog X.w) (tp := h3.objs.size) (J3'.kIn) LT (by rw [← hh3]; exact Heap.get?_push_size _ rfl) hb1
    refine LM.here ?_
    refine codeAny_handlers_suite_as ?_
    refine HandSPX.lands_againZ fl3' fun h4 fl4 up4 => ?_
    have J4 : Inv X pins σ' H' { s' with heap := h4 } := J.landed nb fl4.1 (((up.trans up3).trans up3').trans up4) os ag
    obtain ⟨oe4, vs4, he4, hz4, hd4⟩ := fl4.there
    have S4 := J4.suite he4 hd4 na nL nF
    refine store_ok (X := X.suite a ((a, oe4) :: (X.pn ++ pins))) (v := .ref a) S4 hN hi (.inl hln) rfl (fun s5 S5 => ?_) (.inr hln)
    refine wpAny_mono ((hsu a oe4 cls d (X.pn ++ pins) hz4 ⟨_, hd4⟩).run [] s5 _ H' _ S5 (hyes a na)) (fun f s6 hsp => ?_) (fun _ _ z => False.elim z)
    have end_ : ∀ {σ6 : L2.St} {H6 : Hp} {Q : Shared → Prop}, Inv (X.suite a ((a, oe4) :: (X.pn ++ pins))) [] σ6 H6 s6 → (∀ s7, Inv X pins (σ6.set i none) H6 s7 → Q s7) →
        wpAny (model X.prog X.w) X.A (do bindName X.env n .none; unbindBehindTheSuite X.env n pos') (fun _ s7 => Q s7) X.xe s6 := fun {σ6 H6 Q} S6 hq => gone_ok (S6.unsuite ok) hN hi hln hq
    cases f with
    | next =>
      obtain ⟨σ6, H6, S6, q6⟩ := hsp
      exact end_ S6 fun s7 J7 => ⟨_, _, J7, q6⟩
    | brk =>
      obtain ⟨σ6, H6, S6, q6⟩ := hsp
      exact end_ S6 fun s7 J7 => ⟨_, _, J7, q6⟩
    | cont =>
      obtain ⟨σ6, H6, S6, q6⟩ := hsp
      exact end_ S6 fun s7 J7 => ⟨_, _, J7, q6⟩
    | ret u =>
      obtain ⟨v6, σ6, H6, S6, r6, q6⟩ := hsp
      exact end_ S6 fun s7 J7 => ⟨_, _, _, J7, r6, q6⟩
  · cases f with
    | next =>
      obtain ⟨σ', H', J', q⟩ := hsp
      exact wpAny_execs_nil ⟨σ', H', J'.ofTry ok, q⟩
    | brk =>
      obtain ⟨σ', H', J', q⟩ := hsp
      exact ⟨σ', H', J'.ofTry ok, q⟩
    | cont =>
      obtain ⟨σ', H', J', q⟩ := hsp
      exact ⟨σ', H', J'.ofTry ok, q⟩
    | ret u =>
      obtain ⟨v, σ', H', J', r, q⟩ := hsp
      exact ⟨v, σ', H', J'.ofTry ok, r, q⟩
/-! ### a suite that reads a name besides -/
abbrev XmR := Nat → Rho → Option V
def rdXR (cv : Nat → Value) (m : XmR) (c i : Nat) (a : Addr) : TE := fun σ H Q => σ[i]? = some (some (.ref a)) ∧ ∃ ρ F, Rel cv ρ σ F H ∧ ∃ v, m c ρ = some v ∧ ∀ F' H', Evo F H F' H' → Q v H'
def rdXTR (cv : Nat → Value) (m : XmR) (c i : Nat) (a : Addr) : TT := fun σ H Q => σ[i]? = some (some (.ref a)) ∧ ∃ ρ F, Rel cv ρ σ F H ∧ ∃ b, m c ρ = some (.bl b) ∧ ∀ F' H', Evo F H F' H' → Q b H'
def JXR (X : Cx) (cv : Nat → Value) (n : List Nat) (i : Nat) (e : Expr) (m : XmR) : Prop := ∀ (a : Addr) (oe : Obj) (c : Nat) (pn : List (Addr × Obj)), c ∈ n → Zc (cv c) none oe → (∃ vs, oe.data = .fields vs) → PE (X.suite a ((a, oe) :: pn)) e (rdXR cv m c i a)
def JXTR (X : Cx) (cv : Nat → Value) (n : List Nat) (i : Nat) (e : Expr) (m : XmR) : Prop := ∀ (a : Addr) (oe : Obj) (c : Nat) (pn : List (Addr × Obj)), c ∈ n → Zc (cv c) none oe → (∃ vs, oe.data = .fields vs) → PT (X.suite a ((a, oe) :: pn)) e (rdXTR cv m c i a)
def rC (m : Xm) : XmR := fun c _ => m c
def rNm (j : Nat) (t : Str) : XmR := fun _ ρ => match ρ[j]? with
  | some (.fr d) => (match gEq d (.str t) with
    | .ok (.bool b) => some (.bl b)
    | _ => none)
  | _ => none
def rEq (ma mb : XmR) : XmR := fun c ρ => match ma c ρ, mb c ρ with
  | some (.bl p), some (.bl q) => some (.bl (p == q))
  | _, _ => none
def rAnd (ma mb : XmR) : XmR := fun c ρ => match ma c ρ with
  | some (.bl true) => mb c ρ
  | some (.bl false) => some (.bl false)
  | _ => none
def rIf (mt ma mb : XmR) : XmR := fun c ρ => match mt c ρ with
  | some (.bl true) => ma c ρ
  | some (.bl false) => mb c ρ
  | _ => none
section
variable {X : Cx} {cv : Nat → Value} {n : List Nat} {i : Nat} {e a b t : Expr} {ma mb mt : XmR} {m : Xm} {pos p px : Pos}
theorem jr_of (h : JX X cv n i e m) : JXR X cv n i e (rC m) := fun a oe c pn hc hz hf => PE.imp (h a oe c pn hc hz hf) fun σ H Q ⟨hs, ρ, F, r, v, hv, q⟩ => ⟨hs, v, hv, q F H (Evo.refl r.le)⟩
theorem jrt_of (h : JXT X cv n i e m) : JXTR X cv n i e (rC m) := fun a oe c pn hc hz hf => PT.imp (h a oe c pn hc hz hf) fun σ H Q ⟨hs, ρ, F, r, v, hv, q⟩ => ⟨hs, v, hv, q F H (Evo.refl r.le)⟩
theorem jr_nm {j k : Nat} {x s : Str} (hu : X.A.units + 64 < cLine) (hN : X.N[j]? = some x) (hv : Vis X.env.scope x) (hd : (x == ("__debug__" : Str)) = false) (hcd : (x == ("__classdict__" : Str)) = false) :
    JXR X cv n i (.Compare (.Name x px) [.Eq] [.Constant (.str s) k p] pos) (rNm j s) := fun a oe c pn hc hz hf =>
  PE.imp (pe_cmpR (X := X.suite a ((a, oe) :: pn)) (o_eq (X := X.suite a ((a, oe) :: pn)) hu) (pe_var (X := X.suite a ((a, oe) :: pn)) hN hv hd hcd) pe_str rfl) fun σ H Q ⟨hs, ρ, F, r, v, hm, q⟩ => by
    unfold rNm at hm
    split at hm
    · rename_i d hj
      split at hm
      · rename_i b hg
        cases hm
        obtain ⟨v, h1, h2⟩ := r.cell _ _ hj
        refine ⟨v, h1, F, d, .str s, r.le, .inl h2, .inl (.str s), ?_⟩
        rw [hg]
        exact fun v' F' H' ev hd' => by cases hd'; exact q F' H' ev
      · cases hm
    · cases hm
theorem eq_bl (p q : Bool) : gEq (.bool p) (.bool q) = .ok (.bool (p == q)) := by cases p <;> cases q <;> rfl
theorem jrt_eq (hu : X.A.units + 64 < cLine) (ha : JXR X cv n i a ma) (hb : JXR X cv n i b mb) (hm : behindInMarks .Eq b = false) : JXTR X cv n i (.Compare a [.Eq] [b] pos) (rEq ma mb) := fun ad oe c pn hc hz hf =>
  PT.imp (pt_cmpR (X := X.suite ad ((ad, oe) :: pn)) (o_eq (X := X.suite ad ((ad, oe) :: pn)) hu) (ha ad oe c pn hc hz hf) (hb ad oe c pn hc hz hf) hm) fun σ H Q ⟨hs, ρ, F, r, k, hk, q⟩ => by
    unfold rEq at hk
    split at hk
    · rename_i x y h1 h2
      cases hk
      refine ⟨hs, ρ, F, r, _, h1, fun F1 H1 ev1 => ⟨hs, ρ, F1, r.evo ev1, _, h2, fun F2 H2 ev2 => ⟨F2, .bool x, .bool y, ev2.le, .inl (.bl x), .inl (.bl y), ?_⟩⟩⟩
      rw [eq_bl]
      exact fun v' F' H' ev hd' => by cases hd'; exact ⟨_, rfl, q F' H' ((ev1.trans ev2).trans ev)⟩
    · cases hk
theorem jrt_and (ha : JXTR X cv n i a ma) (hb : JXTR X cv n i b mb) : JXTR X cv n i (.BoolOp .And [a, b] pos) (rAnd ma mb) := fun ad oe c pn hc hz hf => by
  have h : PW (X.suite ad ((ad, oe) :: pn)) (.BoolOp .And [a, b] pos) _ := pw_and (ha ad oe c pn hc hz hf) (pw_and1 (hb ad oe c pn hc hz hf))
  refine PT.imp (PW.pt h) fun σ H Q ⟨hs, ρ, F, r, k, hk, q⟩ => ?_
  unfold rAnd at hk
  split at hk
  · rename_i h1
    exact ⟨hs, ρ, F, r, true, h1, fun F1 H1 ev1 => ⟨hs, ρ, F1, r.evo ev1, k, hk, fun F2 H2 ev2 => q F2 H2 (ev1.trans ev2)⟩⟩
  · rename_i h1
    cases hk
    exact ⟨hs, ρ, F, r, false, h1, fun F1 H1 ev1 => q F1 H1 ev1⟩
  · cases hk
theorem jr_if (ht : JXTR X cv n i t mt) (ha : JXR X cv n i a ma) (hb : JXR X cv n i b mb) : JXR X cv n i (.IfExp t a b pos) (rIf mt ma mb) := fun ad oe c pn hc hz hf =>
  PE.imp (pe_ifExp (ht ad oe c pn hc hz hf) (ha ad oe c pn hc hz hf) (hb ad oe c pn hc hz hf)) fun σ H Q ⟨hs, ρ, F, r, v, hv, q⟩ => by
    unfold rIf at hv
    split at hv
    · rename_i h1
      exact ⟨hs, ρ, F, r, true, h1, fun F1 H1 ev1 => ⟨hs, ρ, F1, r.evo ev1, v, hv, fun F2 H2 ev2 => q F2 H2 (ev1.trans ev2)⟩⟩
    · rename_i h1
      exact ⟨hs, ρ, F, r, false, h1, fun F1 H1 ev1 => ⟨hs, ρ, F1, r.evo ev1, v, hv, fun F2 H2 ev2 => q F2 H2 (ev1.trans ev2)⟩⟩
    · cases hv
end
def sTryN (sub : Nat → Nat → Bool) (n : List Nat) (body : Ss) (k1 k2 i : Nat) (m : XmR) : Ss := fun ρ => match body ρ with
  | .ex c ρ' => if (sub c k1 || sub c k2) = true then (match (m c (ρ'.set i .un)).bind vD with
    | some d => if c ∈ n ∧ i < ρ'.length then .rt d else .bad
    | none => .bad) else .bad
  | f => f
theorem js_tryN {X : Cx} {cv : Nat → Value} {W : WX} {sub : Nat → Nat → Bool} {n : List Nat} {body : List Stmt} {mb : Ss} {k1 k2 i kk : Nat} {x1 x2 nm : Str} {e : Expr} {m : XmR} {np1 np2 tpos rp pos' pos : Pos} (hs : X.stack = X.env :: X.outer) (hf : X.env.frame = some X.env.locals) (hN : X.N.Nodup) (C : Clss X.K cv sub n)
    (hb : ∀ (W : WX) (pn : List (Addr × Obj)) (xe : Value → Shared → Prop), Takes (X.tr pn xe) W → PassesOwn (model X.prog X.w) X.A X.env xe → JFs (X.tr pn xe) cv W body mb) (hk1 : k1 ∈ n) (hk2 : k2 ∈ n) (hc1 : Names X x1 (cv k1)) (hc2 : Names X x2 (cv k2)) (hi : X.N[i]? = some nm) (hln : X.env.kindOf nm = some .local) (he : JXR X cv n i e m) :
    JF X cv W (.Try body [.ExceptHandler (some (.Tuple [.Name x1 np1, .Name x2 np2] kk tpos)) (some nm) [.Return (some e) rp] pos'] [] [] pos) (sTryN sub n mb k1 k2 i m) := fun B => by
  let ts : Addr → Value → Option Addr → TS := fun a cls d Dn σ H => ∃ c v ρ F, cls = cv c ∧ d = none ∧ c ∈ n ∧ σ[i]? = some (some (.ref a)) ∧ Rel cv ρ σ F H ∧ m c ρ = some v ∧ ∀ F' H', Evo F H F' H' → Dn.rt v H'
  refine PS.imp (ps_try_tup (ts := ts) (tb := fun W => rdF cv W B mb) hs hf hN (fun W pn xe t po => hb W pn xe t po B) hc1 hc2 hi hln fun a oe cls d pn hz hfl => ⟨fun pins s σ H Dn I ⟨c, v, ρ, F, e1, e2, hcn, hs, r, hm, hq⟩ => ?_⟩) fun Dn σ H ⟨ρ, F, r, q⟩ => ⟨ρ, F, r, ?_⟩
  · subst e1 e2
    exact (pss_one (ps_ret (he a oe c pn hcn hz hfl))).run pins s σ H Dn I ⟨hs, ρ, F, r, v, hm, hq⟩
  unfold sTryN at q
  cases h : mb ρ with
  | nx ρ' => rw [h] at q; exact q
  | rt d => rw [h] at q; exact q
  | rn d => rw [h] at q; exact q
  | rm d ρ' => rw [h] at q; exact q
  | rb k fs => rw [h] at q; exact q
  | bad => rw [h] at q; exact q
  | ex c ρ' =>
    rw [h] at q
    simp only at q
    intro σ' F' H' r'
    split at q
    case isFalse => exact q.elim
    rename_i hsub
    cases hm : m c (ρ'.set i .un) with
    | none => rw [hm] at q; exact q.elim
    | some v =>
      rw [hm] at q
      simp only [Option.bind_some] at q
      cases hv : vD v with
      | none => rw [hv] at q; exact q.elim
      | some d =>
        rw [hv] at q
        simp only at q
        split at q
        case isFalse => exact q.elim
        rename_i hz
        obtain ⟨hcn, hil⟩ := hz
        have hil' : i < σ'.length := by rw [← r'.rel.len]; exact hil
        refine ⟨?_, fun a ha => ⟨c, v, ρ'.set i .un, F', rfl, rfl, hcn, by rw [set_get, if_pos ⟨rfl, hil'⟩], (r'.un i _).rel, hm, fun F2 H2 ev => q v F2 H2 (r'.evo.trans ev) (vD_dr hv F2)⟩⟩
        have z1 := (C.is c k1 hcn hk1).2
        have z2 := (C.is c k2 hcn hk2).2
        simp only [PySem.W.exmAny, z1, z2, Bool.or_false, hsub]
/-! ### the translator -/
variable {S : S0}
def call0Of (sc : Scope) : (e : Expr) → Option (OkE S sc e)
  | .Call (.Name x p) [] [] pos => if hg : glB sc x = true then
      match hf : S.fns.find? (fun q => q.1 == x) with
      | some q => if hn : q.2.1 = 0 then some ⟨eF0 q.2.2, [], fun cv X W g h => by
          have hx : q.1 = x := by simpa using List.find?_some hf
          have F := g.fn q (List.mem_of_find?_eq_some hf)
          rw [hx, hn] at F
          exact j_callZ F g.room (Gd.gl (cv := cv) (W := W) h hg) (gl_of hg).2⟩ else none
      | none => none
    else none
  | _ => none
def stepEY (r : TR S) (sc : Scope) (e : Expr) : Option (OkE S sc e) := match call0Of sc e with
  | some x => some x
  | none => stepEZ r sc e
def clsOf (S : S0) (sc : Scope) (x : Str) : Option { k : Nat // k ∈ S.nc ∧ ∀ cv X W, Gd S cv X W → X.env.scope = sc → Names X x (cv k) } := match hf : S.cls.find? (fun q => q.1 == x) with
  | none => none
  | some q => if hz : q.2 ∈ S.nc ∧ glB sc x = true then some ⟨q.2, hz.1, fun cv X W g h => by
      obtain ⟨C, h1, h2⟩ := g.cls q (List.mem_of_find?_eq_some hf)
      have hx : q.1 = x := by simpa using List.find?_some hf
      rw [hx] at h2
      exact ⟨Gd.gl (cv := cv) (W := W) h hz.2, (gl_of hz.2).2, .inl (by rw [h1]; exact h2.gl)⟩⟩ else none
def tryNOf (t : TS0 S) (sc : Scope) : (st : Stmt) → Option (OkS S sc st)
  | .Try body [.ExceptHandler (some (.Tuple [.Name x1 np1, .Name x2 np2] kk tpos)) (some nm) [.Return (some (.IfExp (.BoolOp .And [e1, .Compare e2 [.Eq] [.Compare (.Name y py) [.Eq] [.Constant (.str s) k p2] p3] p4] p5) ea eb p6)) rp] pos'] [] [] pos =>
      let i := S.N.findIdx (· == nm)
      (ssOf t sc body).bind fun b => (clsOf S sc x1).bind fun c1 => (clsOf S sc x2).bind fun c2 => (xtOf S sc i 12 e1).bind fun m1 => (xOf S sc i 12 e2).bind fun m2 => (slotOf S sc y).bind fun j => (xOf S sc i 12 ea).bind fun ma => (xOf S sc i 12 eb).bind fun mb =>
        if hz : S.N[i]? = some nm ∧ isLocB sc nm = true then some ⟨sTryN S.sub S.nc b.m c1.1 c2.1 i (rIf (rAnd (rC m1.m) (rEq (rC m2.m) (rNm j.1 s))) (rC ma.m) (rC mb.m)), fun cv X W g gx h => by
          refine js_tryN gx.stk gx.fr g.nd gx.cl (fun W' pn xe tk po => b.ok cv _ W' (g.tr pn xe tk) ⟨gx.fnT, po, gx.stk, gx.fr, gx.cl⟩ h) c1.2.1 c2.2.1 (c1.2.2 cv X W g h) (c2.2.2 cv X W g h) (by rw [g.nN]; exact hz.1) (by unfold PySem.Env.kindOf; rw [h]; exact isLoc_of hz.2) ?_
          exact jr_if (jrt_and (jrt_of (m1.ok cv X W g gx h)) (jrt_eq (by have := g.hu; omega) (jr_of (m2.ok cv X W g gx h)) (jr_nm (by have := g.hu; omega) (by rw [g.nN]; exact j.2.1) (by rw [h]; exact j.2.2.1) j.2.2.2.1 j.2.2.2.2) rfl)) (jr_of (ma.ok cv X W g gx h)) (jr_of (mb.ok cv X W g gx h))⟩ else none
  | _ => none
def stepY (r : TR S) (t : TS0 S) (sc : Scope) (st : Stmt) : Option (OkS S sc st) := match tryNOf t sc st with
  | some x => some x
  | none => stepZ r t sc st
def trSY (S : S0) (r : TR S) : Nat → TS0 S
  | 0 => ⟨fun _ _ => none⟩
  | n + 1 => ⟨stepY r (trSY S r n)⟩
end U
set_option Elab.async false
set_option linter.all false
set_option maxRecDepth 100000
set_option maxHeartbeats 4000000
namespace U
open PySem PySem.Spec PyProof.Rows L2
/-! ### fields of objects -/
def ow1 : V → Fd → List Addr
  | .ref p, .ow _ => [p]
  | _, _ => []
theorem ownV_cons (v : V) (f : Fd) (vs : List V) (fs : List Fd) : ownV (v :: vs) (f :: fs) = ow1 v f ++ ownV vs fs := by
  cases f <;> cases v <;> rfl
/-- the list of one field is changed -/
theorem fds_item {F H : Hp} {p : Addr} {ys : List V} {es : List D} (hd : DrAll F ys es) : ∀ {vs : List V} {fs : List Fd} {j : Nat} {ds : List D}, FdsOk F H vs fs → (ownV vs fs).Nodup → fs[j]? = some (.ow ds) → vs[j]? = some (.ref p) → FdsOk F (upd H p (.lst ys)) vs (fs.set j (.ow es)) ∧ ownV vs (fs.set j (.ow es)) = ownV vs fs ∧ p ∈ ownV vs fs
  | _, _, _, _, .nil, _, h, _ => by simp at h
  | v :: vs, f :: fs, 0, ds, .cons h hs, nd, e1, e2 => by
    simp at e1 e2
    subst e1 e2
    obtain ⟨q, xs, e, h2, h3, h4⟩ := h
    cases e
    have nd' : (p :: ownV vs fs).Nodup := nd
    exact ⟨.cons ⟨p, ys, rfl, upd_same, h3, hd⟩ (hs.mut (List.nodup_cons.mp nd').1), rfl, List.mem_cons_self⟩
  | v :: vs, f :: fs, j + 1, ds, .cons h hs, nd, e1, e2 => by
    rw [ownV_cons] at nd
    obtain ⟨n1, n2, n3⟩ := List.nodup_append.mp nd
    obtain ⟨a1, a2, a3⟩ := fds_item hd (j := j) hs n2 (by simpa using e1) (by simpa using e2)
    have hv : FdOk F (upd H p (.lst ys)) v f := by
      cases f with
      | fr d => exact h
      | ow d =>
        obtain ⟨q, xs, e, h2, h3, h4⟩ := h
        subst e
        have : q ≠ p := fun z => n3 q (by simp [ow1]) p a3 z
        exact ⟨q, xs, rfl, by rw [upd_ne this]; exact h2, h3, h4⟩
    refine ⟨.cons hv a1, ?_, ?_⟩
    · rw [List.set_cons_succ, ownV_cons, ownV_cons, a2]
    · rw [ownV_cons]; exact List.mem_append_right _ a3
/-! ### the heap without some addresses -/
def wo (H : Hp) (l : List Addr) : Hp := fun b => if b ∈ l then none else H b
theorem wo_in {H : Hp} {l : List Addr} {b : Addr} (h : b ∈ l) : wo H l b = none := by unfold wo; rw [if_pos h]
theorem wo_out {H : Hp} {l : List Addr} {b : Addr} (h : b ∉ l) : wo H l b = H b := by unfold wo; rw [if_neg h]
theorem wo_some {H : Hp} {l : List Addr} {b : Addr} {o : HO} (h : wo H l b = some o) : b ∉ l ∧ H b = some o := by
  unfold wo at h
  split at h
  · cases h
  · rename_i z; exact ⟨z, h⟩
theorem wo_none {H : Hp} {l : List Addr} {b : Addr} (h : wo H l b = none) : b ∈ l ∨ H b = none := by
  unfold wo at h
  split at h
  · rename_i z; exact .inl z
  · exact .inr h
theorem FdsOk.evoW {F H F' H' : Hp} {l : List Addr} (e : Evo F (wo H l) F' H') : ∀ {vs : List V} {fs : List Fd}, FdsOk F H vs fs → (∀ p ∈ ownV vs fs, p ∉ l) → FdsOk F' H' vs fs
  | _, _, .nil, _ => .nil
  | v :: vs, .fr d :: fs, .cons h hs, n => .cons (dp_mono e.ex h) (FdsOk.evoW e hs fun p hp => n p (by cases v <;> exact hp))
  | v :: vs, .ow ds :: fs, .cons ⟨p, xs, e1, h2, h3, h4⟩ hs, n => by
    subst e1
    have np : p ∉ l := n p List.mem_cons_self
    have hw : wo H l p = some (.lst xs) := by rw [wo_out np]; exact h2
    refine .cons ⟨p, xs, rfl, e.hx _ _ hw, own_not e h3 hw, dps_mono e.ex h4⟩ (FdsOk.evoW e hs fun p hp => n p (List.mem_cons_of_mem _ hp))
theorem CellOk.evoW {cv : Nat → Value} {F H F' H' : Hp} {l : List Addr} {ov : Option (Option V)} {c : Cell} (e : Evo F (wo H l) F' H') (h : CellOk cv F H ov c) (n : ∀ p ∈ owL H ov c, p ∉ l) : CellOk cv F' H' ov c ∧ owL H' ov c = owL H ov c := by
  cases c with
  | un => exact ⟨trivial, rfl⟩
  | fr d => obtain ⟨v, h1, h2⟩ := h; exact ⟨⟨v, h1, dp_mono e.ex h2⟩, rfl⟩
  | ow ds =>
    obtain ⟨p, xs, h1, h2, h3, h4⟩ := h
    subst h1
    have np : p ∉ l := n p (by simp)
    have hw : wo H l p = some (.lst xs) := by rw [wo_out np]; exact h2
    exact ⟨⟨p, xs, rfl, e.hx _ _ hw, own_not e h3 hw, dps_mono e.ex h4⟩, rfl⟩
  | ob k fs =>
    obtain ⟨a, C, dx, vs, h1, h2, h3, h4, hl, h5, h6⟩ := h
    subst h1
    rw [owL_ob h3 hl] at n
    have na : a ∉ l := n a List.mem_cons_self
    have hw : wo H l a = some (.ins C dx ((flN k).zip vs)) := by rw [wo_out na]; exact h3
    have h3' := e.hx _ _ hw
    refine ⟨⟨a, C, dx, vs, rfl, h2, h3', own_not e h4 hw, hl, h5.evoW e fun p hp => n p (List.mem_cons_of_mem _ hp), h6⟩, ?_⟩
    rw [owL_ob h3 hl, owL_ob h3' hl]
  | ro k fs =>
    obtain ⟨a, C, dx, vs, h1, h2, h3, hl, h4⟩ := h
    exact ⟨⟨a, C, dx, vs, h1, h2, e.ex _ _ h3, hl, dps_mono e.ex h4⟩, rfl⟩
/-- the object of a slot has changed, and nothing else that was there -/
theorem RelB.obj {cv : Nat → Value} {B : Bb} {ρ : Rho} {σ : L2.St} {F H F' H' : Hp} {i k : Nat} {fs fs' : List Fd} {a C dx dx' : Addr} {vs vs' : List V} (r : RelB cv B ρ σ F H) (h : ρ[i]? = some (.ob k fs)) (hs : σ[i]? = some (some (.ref a))) (hC : cv k = .ref C) (hH : H a = some (.ins C dx ((flN k).zip vs))) (hl : vs.length = (flN k).length)
    (ev : Evo F (wo H (a :: ownV vs fs)) F' H') (hH' : H' a = some (.ins C dx' ((flN k).zip vs'))) (hF' : F' a = none) (hl' : vs'.length = (flN k).length) (hf : FdsOk F' H' vs' fs') (hn : (ownV vs' fs').Nodup) (hp : ∀ p ∈ ownV vs' fs', wo H (a :: ownV vs fs) p = none) : RelB cv B (ρ.set i (.ob k fs')) σ F' H' := by
  have ol : owL H σ[i]? (.ob k fs) = a :: ownV vs fs := by rw [hs]; exact owL_ob hH hl
  have ol' : owL H' σ[i]? (.ob k fs') = a :: ownV vs' fs' := by rw [hs]; exact owL_ob hH' hl'
  have hi : i < ρ.length := (List.getElem?_eq_some_iff.mp h).1
  have nw : ∀ p ∈ a :: ownV vs' fs', wo H (a :: ownV vs fs) p = none := fun p q => by
    rcases List.mem_cons.mp q with e | e
    · rw [e]; exact wo_in List.mem_cons_self
    · exact hp p e
  have oth : ∀ j c, ρ[j]? = some c → j ≠ i → CellOk cv F' H' σ[j]? c ∧ owL H' σ[j]? c = owL H σ[j]? c := fun j c e ne =>
    (r.rel.cell j c e).evoW ev fun p hp z => ne (r.rel.apart j i c _ p e h hp (by rw [ol]; exact z))
  have bB : ∀ p, wo H (a :: ownV vs fs) p = none → B.2 p = none := fun p z => by
    rcases wo_none z with z | z
    · exact r.own i _ p h (by rw [ol]; exact z)
    · exact none_back r.evo.hx z
  have cut : ∀ j c, (ρ.set i (.ob k fs'))[j]? = some c → (j = i ∧ c = .ob k fs') ∨ (j ≠ i ∧ ρ[j]? = some c) := fun j c e => by
    rw [set_get] at e
    split at e
    · rename_i hz; cases e; exact .inl ⟨hz.1.symm, rfl⟩
    · rename_i hz
      exact .inr ⟨fun z => hz ⟨z.symm, by rw [z]; exact hi⟩, e⟩
  have oneW : ∀ j c p, ρ[j]? = some c → j ≠ i → p ∈ owL H' σ[j]? c → wo H (a :: ownV vs fs) p ≠ none := fun j c p e ne m z => by
    rw [(oth j c e ne).2] at m
    rcases wo_none z with z | z
    · exact ne (r.rel.apart j i c _ p e h m (by rw [ol]; exact z))
    · obtain ⟨_, o, q⟩ := owL_at (r.rel.cell j c e) m
      rw [z] at q; cases q
  refine ⟨⟨by simp [r.rel.len], ev.le, fun j c e => ?_, fun j j' c c' p e1 e2 e3 e4 => ?_⟩, ⟨r.evo.ex.trans ev.ex, fun b o q => ?_, ev.le, fun b o q => ?_⟩, fun j c p e1 e2 => ?_, fun a' k' fs0 h3 e => ?_⟩
  · rcases cut j c e with ⟨rfl, rfl⟩ | ⟨ne, e⟩
    · exact ⟨a, C, dx', vs', hs, hC, hH', hF', hl', hf, hn⟩
    · exact (oth j c e ne).1
  · rcases cut j c e1 with ⟨z1, z2⟩ | ⟨ne, f1⟩ <;> rcases cut j' c' e2 with ⟨z3, z4⟩ | ⟨ne', f2⟩
    · rw [z1, z3]
    · rw [z1, z2] at e3
      exact absurd (nw p (by rw [← ol']; exact e3)) (oneW j' c' p f2 ne' e4)
    · rw [z3, z4] at e4
      exact absurd (nw p (by rw [← ol']; exact e4)) (oneW j c p f1 ne e3)
    · rw [(oth j c f1 ne).2] at e3
      rw [(oth j' c' f2 ne').2] at e4
      exact r.rel.apart j j' c c' p f1 f2 e3 e4
  · refine ev.hx b o ?_
    have : b ∉ a :: ownV vs fs := fun z => by
      have := r.own i _ b h (by rw [ol]; exact z)
      rw [this] at q; cases q
    rw [wo_out this]
    exact r.evo.hx b o q
  · rcases ev.new b o q with z | z
    · exact r.evo.new b o z
    · exact .inr (bB b z)
  · rcases cut j c e1 with ⟨rfl, rfl⟩ | ⟨ne, e1⟩
    · exact bB p (nw p (by rw [← ol']; exact e2))
    · rw [(oth j c e1 ne).2] at e2
      exact r.own j c p e1 e2
  · rcases cut 0 _ e with ⟨e0, _⟩ | ⟨_, e⟩
    · subst e0
      exact r.slf a' k fs h3 h
    · exact r.slf a' k' fs0 h3 e
end U
set_option Elab.async false
set_option linter.all false
set_option maxRecDepth 100000
set_option maxHeartbeats 4000000
namespace U
open PySem PySem.Spec PyProof.Rows L2
/-! ### reading fields -/
def fdD : Fd → D
  | .fr d => d
  | .ow ds => .list ds
theorem FdOk.wk {F H : Hp} {v : V} {f : Fd} (h : FdOk F H v f) : Wk F H v (fdD f) := by
  cases f with
  | fr d => exact .inl h
  | ow ds => obtain ⟨p, xs, e, h2, h3, h4⟩ := h; exact .inr ⟨p, xs, ds, e, rfl, h2, h4⟩
/-- what is known of a class -/
structure ClF (K : PySem.W.Frag) (cv : Nat → Value) (k : Nat) : Prop where
  ok : ∃ C, cv k = .ref C ∧ Cls K C ∧ ∀ f ∈ flN k, NoAttr K C f
section
variable {X : Cx} {cv : Nat → Value} {W : WX} {a b e : Expr} {es : List Expr} {ms : List Sm} {m : Sm} {pos p : Pos}
end
/-! ### what methods promise -/
def sV : D → Option V
  | .none => some .non
  | .bool b => some (.bl b)
  | .int i => some (.int i)
  | .str x => some (.str x)
  | _ => none
inductive MRes where
  | ok (fs : List Fd) (d : D)
  | bad
def spPu (cv : Nat → Value) (k n : Nat) (f : List D → List D → Res) : Sp := fun vs H Q E => ∃ F a C dx us fs args ds, vs = .ref a :: args ∧ Ex F H ∧ cv k = .ref C ∧ F a = some (.ins C dx ((flN k).zip us)) ∧ us.length = (flN k).length ∧ DrAll F us fs ∧ DrAll F args ds ∧ ds.length = n ∧
  ∃ d v, f fs ds = .ok d ∧ sV d = some v ∧ ∀ H', Ex H H' → Q v H'
def spMu (cv : Nat → Value) (k n : Nat) (f : List Fd → List D → MRes) : Sp := fun vs H Q E => ∃ F a C dx us fs args ds, vs = .ref a :: args ∧ Ex F H ∧ cv k = .ref C ∧ H a = some (.ins C dx ((flN k).zip us)) ∧ F a = none ∧ us.length = (flN k).length ∧ FdsOk F H us fs ∧ (ownV us fs).Nodup ∧ DrAll F args ds ∧ ds.length = n ∧
  ∃ fs' d v, f fs ds = .ok fs' d ∧ sV d = some v ∧ ∀ F' H' dx' us', Evo F (wo H (a :: ownV us fs)) F' H' → H' a = some (.ins C dx' ((flN k).zip us')) → F' a = none → us'.length = (flN k).length → FdsOk F' H' us' fs' → (ownV us' fs').Nodup → (∀ p ∈ ownV us' fs', wo H (a :: ownV us fs) p = none) → Q v H'
def spNw (cv : Nat → Value) (k n : Nat) (f : List D → Option (List Fd)) : Sp := fun vs H Q E => ∃ F ds, Ex F H ∧ DrAll F vs ds ∧ ds.length = n ∧
  ∃ fs, f ds = some fs ∧ ∀ a C dx us F' H', cv k = .ref C → Evo F H F' H' → H a = none → H' a = some (.ins C dx ((flN k).zip us)) → F' a = none → us.length = (flN k).length → FdsOk F' H' us fs → (ownV us fs).Nodup → (∀ p ∈ ownV us fs, H p = none) → Q (.ref a) H'
/-! ### a method that only reads, as an expression -/
section
variable {X : Cx} {cv : Nat → Value} {W : WX} {a b e c : Expr} {es : List Expr} {ms : List Sm} {m : Sm} {pos p apos : Pos} {lk : List Nat}
end
end U
set_option Elab.async false
set_option linter.all false
set_option maxRecDepth 100000
set_option maxHeartbeats 4000000
namespace U
open PySem PySem.Spec PyProof.Rows L2
/-! ### x.f = e -/
section
variable {X : Cx} {cv : Nat → Value} {W : WX} {e c : Expr} {es : List Expr} {st : Stmt} {m mi : Sm} {ms : List Sm} {a b : Ss} {lk : List Nat} {pos p apos tpos cpos : Pos}
/-! ### x.f[i] = e, e shared -/
theorem RelB.item {B : Bb} {ρ : Rho} {σ : L2.St} {F H : Hp} {i j k : Nat} {fs : List Fd} {a C dx q : Addr} {vs : List V} {ys : List V} {ds es : List D} (r : RelB cv B ρ σ F H) (h : ρ[i]? = some (.ob k fs)) (hs : σ[i]? = some (some (.ref a))) (hC : cv k = .ref C) (hH : H a = some (.ins C dx ((flN k).zip vs))) (hFa : F a = none) (hl : vs.length = (flN k).length) (hf : FdsOk F H vs fs) (hn : (ownV vs fs).Nodup)
    (h1 : fs[j]? = some (.ow ds)) (h2 : vs[j]? = some (.ref q)) (hd : DrAll F ys es) : RelB cv B (ρ.set i (.ob k (fs.set j (.ow es)))) σ F (upd H q (.lst ys)) := by
  obtain ⟨a1, a2, a3⟩ := fds_item hd hf hn h1 h2
  obtain ⟨hFq, xs, hHq⟩ := ownV_at hf q a3
  have ne : a ≠ q := fun z => by rw [z, hHq] at hH; cases hH
  refine r.obj (dx' := dx) (vs' := vs) h hs hC hH hl ⟨Evl.Ex.refl F, fun b o z => ?_, fun b o z => ?_, fun _ _ z => .inl z⟩ (by rw [upd_ne ne]; exact hH) hFa hl a1 (by rw [a2]; exact hn) fun p hp => ?_
  · obtain ⟨n1, n2⟩ := wo_some z
    rw [upd_ne (fun z => n1 (by rw [z]; exact List.mem_cons_of_mem _ a3))]
    exact n2
  · rw [upd_ne (fun e => by rw [e, hFq] at z; cases z)]
    exact r.rel.le b o z
  · rw [a2] at hp; exact wo_in (List.mem_cons_of_mem _ hp)
end
end U
set_option Elab.async false
set_option linter.all false
set_option maxRecDepth 100000
set_option maxHeartbeats 4000000
namespace U
open PySem PySem.Spec PyProof.Rows L2
/-! ### a method that changes its object -/
section
variable {X : Cx} {cv : Nat → Value} {W : WX} {e c : Expr} {es : List Expr} {st : Stmt} {m mi : Sm} {ms : List Sm} {a b : Ss} {lk : List Nat} {pos p apos tpos cpos : Pos}
/-! ### return e, of a method that changes its object -/
/-! ### x = f(..), f gives a new object -/
end
/-! ### a field's list is shared from now on -/
end U
set_option Elab.async false
set_option linter.all false
set_option maxRecDepth 100000
set_option maxHeartbeats 4000000
namespace U
open PySem PySem.Spec PyProof.Rows L2
/-! ### return C(x, e, y): a new object of own lists -/
def spIn (cv : Nat → Value) (k : Nat) : Sp := fun vs H Q E => ∃ a C dx us, vs = .ref a :: us ∧ cv k = .ref C ∧ H a = some (.ins C dx []) ∧ us.length = (flN k).length ∧ Q .non (upd H a (.ins C dx ((flN k).zip us)))
section
variable {X : Cx} {cv : Nat → Value} {W : WX} {e c : Expr} {es : List Expr} {st : Stmt} {m mi : Sm} {ms : List Sm} {a b : Ss} {lk : List Nat} {pos p p1 p2 apos tpos cpos : Pos}
end
end U
set_option Elab.async false
set_option linter.all false
set_option maxRecDepth 100000
set_option maxHeartbeats 4000000
namespace U
open PySem PySem.Spec PyProof.Rows L2
/-- the object tables: which classes, which methods -/
inductive Mt where
  | pu (f : List D → List D → Res)
  | mu (f : List Fd → List D → MRes)
  | nw (f : List D → Option (List Fd))
  | mk
/-- name, class, arguments, worth -/
abbrev MtT := Str × Nat × Nat × Mt
def MtOk (P : Program) (w : World) (K : PySem.W.Frag) (mg : Str → Option Value) (base : Heap) (cv : Nat → Value) (lv : Nat) (t : MtT) : Prop := match t with
  | (m, k, n, .pu f) => ∃ (C fa : Addr) (fd : FuncData) (ps : List Str), cv k = .ref C ∧ Cls K C ∧ Meth K C m fa ∧ m ∉ flN k ∧ FnOk P w K mg base (L2.CX P w) lv fa fd ps (spPu cv k n f) ∧ Binds K fd ps []
  | (m, k, n, .mu f) => ∃ (C fa : Addr) (fd : FuncData) (ps : List Str), cv k = .ref C ∧ Cls K C ∧ Meth K C m fa ∧ m ∉ flN k ∧ FnOk P w K mg base (L2.CX P w) lv fa fd ps (spMu cv k n f) ∧ Binds K fd ps []
  | (x, k, n, .nw f) => ∃ (fa : Addr) (fd : FuncData) (ps : List Str), mg x = some (.ref fa) ∧ ps.length = n ∧ FnOk P w K mg base (L2.CX P w) lv fa fd ps (spNw cv k n f) ∧ PySem.W.keepIn K (.ref fa) = true ∧ Binds K fd ps []
  | (x, k, _, .mk) => ∃ (C fi : Addr) (fd : FuncData) (ps : List Str) (l : Nat), l + 1 ≤ lv ∧ cv k = .ref C ∧ mg x = some (.ref C) ∧ Mk K C fi ∧ FnOk P w K mg base (L2.CX P w) l fi fd ps (spIn cv k) ∧ Binds K fd ps []
theorem MtOk.mono {P : Program} {w : World} {K : PySem.W.Frag} {mg : Str → Option Value} {base : Heap} {cv : Nat → Value} {l l' : Nat} {t : MtT} (h : MtOk P w K mg base cv l t) (le : l ≤ l') : MtOk P w K mg base cv l' t := by
  obtain ⟨m, k, n, z⟩ := t
  cases z with
  | pu f => obtain ⟨C, fa, fd, ps, h1, h2, h3, h4, h5, h6⟩ := h; exact ⟨C, fa, fd, ps, h1, h2, h3, h4, h5.mono le, h6⟩
  | mu f => obtain ⟨C, fa, fd, ps, h1, h2, h3, h4, h5, h6⟩ := h; exact ⟨C, fa, fd, ps, h1, h2, h3, h4, h5.mono le, h6⟩
  | nw f => obtain ⟨fa, fd, ps, h1, h2, h3, h4, h5⟩ := h; exact ⟨fa, fd, ps, h1, h2, h3.mono le, h4, h5⟩
  | mk => obtain ⟨C, fi, fd, ps, l, h1, h2⟩ := h; exact ⟨C, fi, fd, ps, l, by omega, h2⟩
/-- what the table of a def tells of objects -/
def exO (ks : List Nat) (mts : List MtT) (lv : Nat) : Program → World → PySem.W.Frag → (Str → Option Value) → Heap → (Nat → Value) → Prop := fun P w K mg base cv => (∀ k ∈ ks, ClF K cv k) ∧ ∀ t ∈ mts, MtOk P w K mg base cv lv t
def Tb.so (T : Tb) (N : List Str) (k : Nat) (fns : List (Str × Nat × (List D → Res))) (ks : List Nat) (mts : List MtT) : S0 := ⟨N, k, fns, T.cls, T.cst, T.sub, T.nc, exO ks mts k⟩
/-! ### the start of a method -/
/-! ### what a method is worth -/
section
variable {P : Program} {w : World} {K : PySem.W.Frag} {mg : Str → Option Value} {base : Heap} {cv : Nat → Value} {T : Tb} {k n lv : Nat} {x qual : Str} {params : Arguments} {body : List Stmt} {scope : Scope} {f : Addr} {fd : FuncData} {N ps : List Str} {fns : List (Str × Nat × (List D → Res))} {ks : List Nat} {mts : List MtT} {m : Ss}
end
end U
set_option Elab.async false
set_option linter.all false
set_option maxRecDepth 100000
set_option maxHeartbeats 4000000
namespace U
open PySem PySem.Spec PyProof.Rows L2
/-! ### list(range(a, b)) -/
/-! ### a comprehension over an own list, whose items are scalars: the list stays its own -/
/-! ### the translation, with objects -/
section
variable {T : Tb} {N : List Str} {lv : Nat} {fns : List (Str × Nat × (List D → Res))} {ks : List Nat} {mts : List MtT}
/-! statements -/
end
end U
set_option Elab.async false
set_option linter.all false
set_option maxRecDepth 100000
set_option maxHeartbeats 4000000
namespace U
open PySem PySem.Spec PyProof.Rows L2
/-! ### the text's classes -/
section
variable {P : Program} {w : World} {h : Heap} {K : PySem.W.Frag} {mg : Str → Option Value} {base : Heap} {cv : Nat → Value} {T : Tb} {ds : List Str} {fn : List He.DefD} {fo : List He.Fa}
end
end U
set_option Elab.async false
set_option linter.all false
set_option maxRecDepth 100000
set_option maxHeartbeats 4000000
namespace U
open PySem PySem.Spec PyProof.Rows L2
def fin : Fl → Res
  | .nx _ => .ok .none
  | .rt d => .ok d
  | .rn ds => .new ds
  | .rm d _ => .ok d
  | .rb _ _ => .bad
  | .ex c _ => .exc c
  | .bad => .bad
theorem runF_eq {nv : Nat} {m : Ss} {ds : List D} {ρ : Rho} (h : ds.map .fr ++ List.replicate (nv - ds.length) .un = ρ) : runF nv m ds = fin (m ρ) := by
  unfold runF fin
  rw [h]
  try (cases m ρ <;> rfl)
def b_in_range : Ss := sRet [] (eAnd (e1 (gIsi .int) (eK 0)) (eAnd (e1 gNot (e1 (gIsi .bool) (eK 0))) (eChain gLe gLe (eK 1) (eK 0) (eK 2))))
def f_in_range : List D → Res := runF 3 b_in_range
theorem r_in_range (x0 x1 x2 : D) : f_in_range [x0, x1, x2] = fin (b_in_range [.fr x0, .fr x1, .fr x2]) := runF_eq rfl
def L1_common_divisor : Ss := sPar2 0 1 [1] (eV 1) (e2 gMod (eK 0) (eK 1))
def W1_common_divisor : Ss := sWhile [] (eK 1) L1_common_divisor
def b_common_divisor : Ss := sSeq (sPar2 0 1 [] (eL bAbs [eK 0]) (eL bAbs [eK 1]))
 (sSeq (W1_common_divisor)
 (sRetV 0))
def f_common_divisor : List D → Res := runF 2 b_common_divisor
theorem r_common_divisor (x0 x1 : D) : f_common_divisor [x0, x1] = fin (b_common_divisor [.fr x0, .fr x1]) := runF_eq rfl
def b_part : Ss := sSeq (sSet 2 [0, 1] (eF f_common_divisor [eV 0, eV 1]))
 (sSeq (sIf [] (e2 gLt (eK 1) (eC (.int 0)))
 (sSet 2 [] (e2 gSub (eC (.int 0)) (eK 2)))
 (.nx))
 (sRet [] (eTup [e2 gFdiv (eK 0) (eK 2), e2 gFdiv (eK 1) (eK 2)])))
def f_part : List D → Res := runF 3 b_part
theorem r_part (x0 x1 : D) : f_part [x0, x1] = fin (b_part [.fr x0, .fr x1, .un]) := runF_eq rfl
def C1_is_part : Sm := eComp (iSeq (eV 0)) (.nm 1) [1] (some (eOr (e1 gNot (e1 (gIsi .int) (eK 1))) (e1 (gIsi .bool) (eK 1)))) (eV 1)
def b_is_part : Ss := sSeq (sIf [] (eOr (e1 gNot (e1 (gIsi .tuple) (eK 0))) (e2 gNe (eL bLen [eK 0]) (eC (.int 2))))
 (sRet [] (eC (.bool false)))
 (.nx))
 (sSeq (sIf [0, 1] (C1_is_part)
 (sRet [] (eC (.bool false)))
 (.nx))
 (sRet [] (eAnd (e2 gGt (e2 gIx (eK 0) (eC (.int 1))) (eC (.int 0))) (e2 gEq (eF f_common_divisor [e2 gIx (eK 0) (eC (.int 0)), e2 gIx (eK 0) (eC (.int 1))]) (eC (.int 1))))))
def f_is_part : List D → Res := runF 2 b_is_part
theorem r_is_part (x0 : D) : f_is_part [x0] = fin (b_is_part [.fr x0, .un]) := runF_eq rfl
def b_added : Ss := sRet [] (eF f_part [e2 gAdd (e2 gMul (e2 gIx (eK 0) (eC (.int 0))) (e2 gIx (eK 1) (eC (.int 1)))) (e2 gMul (e2 gIx (eK 1) (eC (.int 0))) (e2 gIx (eK 0) (eC (.int 1)))), e2 gMul (e2 gIx (eK 0) (eC (.int 1))) (e2 gIx (eK 1) (eC (.int 1)))])
def f_added : List D → Res := runF 2 b_added
theorem r_added (x0 x1 : D) : f_added [x0, x1] = fin (b_added [.fr x0, .fr x1]) := runF_eq rfl
def b_multiplied : Ss := sRet [] (eF f_part [e2 gMul (e2 gIx (eK 0) (eC (.int 0))) (e2 gIx (eK 1) (eC (.int 0))), e2 gMul (e2 gIx (eK 0) (eC (.int 1))) (e2 gIx (eK 1) (eC (.int 1)))])
def f_multiplied : List D → Res := runF 2 b_multiplied
theorem r_multiplied (x0 x1 : D) : f_multiplied [x0, x1] = fin (b_multiplied [.fr x0, .fr x1]) := runF_eq rfl
def C1_is_cell : Sm := eComp (iSeq (eV 0)) (.nm 2) [2] (some (e1 gNot (eF f_in_range [eV 2, e2 gSub (eC (.int 0)) (eK 1), eV 1]))) (eV 2)
def b_is_cell : Ss := sSeq (sIf [] (eOr (e1 gNot (e1 (gIsi .tuple) (eK 0))) (e2 gNe (eL bLen [eK 0]) (eC (.int 2))))
 (sRet [] (eC (.bool false)))
 (.nx))
 (sSeq (sIf [0, 2, 1, 2] (C1_is_cell)
 (sRet [] (eC (.bool false)))
 (.nx))
 (sRet [] (e2 gLe (e2 gIx (eK 0) (eC (.int 0))) (e2 gIx (eK 0) (eC (.int 1))))))
def f_is_cell : List D → Res := runF 3 b_is_cell
theorem r_is_cell (x0 x1 : D) : f_is_cell [x0, x1] = fin (b_is_cell [.fr x0, .fr x1, .un]) := runF_eq rfl
def C1_is_table : Sm := eComp (iSeq (eV 1)) (.nm 2) [2] (some (e1 gNot (eF f_is_cell [eV 2, eC (.int 20)]))) (eV 2)
def L1_is_table : Ss := sSeq (sIf [] (eOr (e1 gNot (e1 (gIsi .tuple) (eK 1))) (eOr (e1 gNot (eChain gLe gLe (eC (.int 1)) (eL bLen [eK 1]) (eC (.int 3)))) (e2 gNe (eL bLen [eK 1]) (eL bLen [e2 gIx (eK 0) (eC (.int 0))]))))
 (sRet [] (eC (.bool false)))
 (.nx))
 (sIf [1, 2, 2] (C1_is_table)
 (sRet [] (eC (.bool false)))
 (.nx))
def F1_is_table : Ss := sFor (.nm 1) [0] (iSeq (eV 0)) L1_is_table
def b_is_table : Ss := sSeq (sIf [] (eOr (e1 gNot (e1 (gIsi .tuple) (eK 0))) (e1 gNot (eChain gLe gLe (eC (.int 1)) (eL bLen [eK 0]) (eC (.int 3)))))
 (sRet [] (eC (.bool false)))
 (.nx))
 (sSeq (F1_is_table)
 (sRet [] (eC (.bool true))))
def f_is_table : List D → Res := runF 3 b_is_table
theorem r_is_table (x0 : D) : f_is_table [x0] = fin (b_is_table [.fr x0, .un, .un]) := runF_eq rfl
def C1_is_side : Sm := eComp (iSeq (eV 0)) (.nm 1) [1] (some (e1 gNot (eF f_is_cell [eV 1, eC (.int 50)]))) (eV 1)
def b_is_side : Ss := sSeq (sIf [] (eOr (e1 gNot (e1 (gIsi .tuple) (eK 0))) (e1 gNot (eChain gLe gLe (eC (.int 1)) (eL bLen [eK 0]) (eC (.int 3)))))
 (sRet [] (eC (.bool false)))
 (.nx))
 (sRet [0, 1, 1] (e1 gNot (C1_is_side)))
def f_is_side : List D → Res := runF 2 b_is_side
theorem r_is_side (x0 : D) : f_is_side [x0] = fin (b_is_side [.fr x0, .un]) := runF_eq rfl
def b_check_table : Ss := sIf [0] (e1 gNot (eF f_is_table [eV 0]))
 (sRaise 1)
 (.nx)
def f_check_table : List D → Res := runF 1 b_check_table
theorem r_check_table (x0 : D) : f_check_table [x0] = fin (b_check_table [.fr x0]) := runF_eq rfl
def b_check_system : Ss := sSeq (sExpr [0] (eF f_check_table [eV 0]))
 (sIf [1] (eOr (e1 gNot (eF f_is_side [eV 1])) (e2 gNe (eL bLen [eK 1]) (eL bLen [eK 0])))
 (sRaise 2)
 (.nx))
def f_check_system : List D → Res := runF 2 b_check_system
theorem r_check_system (x0 x1 : D) : f_check_system [x0, x1] = fin (b_check_system [.fr x0, .fr x1]) := runF_eq rfl
def C1_are_unknowns : Sm := eComp (iSeq (eV 1)) (.nm 2) [2] (some (e1 gNot (eF f_is_part [eV 2]))) (eV 2)
def b_are_unknowns : Ss := sSeq (sIf [] (eOr (e1 gNot (e1 (gIsi .tuple) (eK 1))) (e2 gNe (eL bLen [eK 1]) (eL bLen [e2 gIx (eK 0) (eC (.int 0))])))
 (sRet [] (eC (.bool false)))
 (.nx))
 (sRet [1, 2, 2] (e1 gNot (C1_are_unknowns)))
def f_are_unknowns : List D → Res := runF 3 b_are_unknowns
theorem r_are_unknowns (x0 x1 : D) : f_are_unknowns [x0, x1] = fin (b_are_unknowns [.fr x0, .fr x1, .un]) := runF_eq rfl
def b_check_unknowns : Ss := sIf [0, 1] (e1 gNot (eF f_are_unknowns [eV 0, eV 1]))
 (sRaise 3)
 (.nx)
def f_check_unknowns : List D → Res := runF 2 b_check_unknowns
theorem r_check_unknowns (x0 x1 : D) : f_check_unknowns [x0, x1] = fin (b_check_unknowns [.fr x0, .fr x1]) := runF_eq rfl
def L1_ends : Ss := sSeq (sPar2 6 7 [5, 5] (eF f_multiplied [eTup [e2 gIx (eK 4) (eC (.int 0)), eC (.int 1)], eV 5]) (eF f_multiplied [eTup [e2 gIx (eK 4) (eC (.int 1)), eC (.int 1)], eV 5]))
 (sSeq (sIf [] (e2 gLt (e2 gIx (eK 5) (eC (.int 0))) (eC (.int 0)))
 (sPar2 6 7 [7, 6] (eV 7) (eV 6))
 (.nx))
 (sPar2 2 3 [2, 6, 3, 7] (eF f_added [eV 2, eV 6]) (eF f_added [eV 3, eV 7])))
def F1_ends : Ss := sFor (.tp [4, 5]) [0, 1] (iZip [eV 0, eV 1]) L1_ends
def b_ends : Ss := sSeq (sTup [2, 3] [] (eTup [eTup [eC (.int 0), eC (.int 1)], eTup [eC (.int 0), eC (.int 1)]]))
 (sSeq (F1_ends)
 (sRet [2, 3] (eTup [eV 2, eV 3])))
def f_ends : List D → Res := runF 8 b_ends
theorem r_ends (x0 x1 : D) : f_ends [x0, x1] = fin (b_ends [.fr x0, .fr x1, .un, .un, .un, .un, .un, .un]) := runF_eq rfl
def b_check_all : Ss := sSeq (sExpr [0, 1] (eF f_check_system [eV 0, eV 1]))
 (sExpr [0, 2] (eF f_check_unknowns [eV 0, eV 2]))
def f_check_all : List D → Res := runF 3 b_check_all
theorem r_check_all (x0 x1 x2 : D) : f_check_all [x0, x1, x2] = fin (b_check_all [.fr x0, .fr x1, .fr x2]) := runF_eq rfl
def N_law_cell : List Str := ["script", "k"]
def b_law_cell : Ss := sSeq (sIf [] (e2 gLt (eK 1) (eL bLen [eK 0]))
 (sRet [] (e2 gIx (eK 0) (eK 1)))
 (.nx))
 (sRet [] (eC (.int 0)))
def f_law_cell : List D → Res := runF 2 b_law_cell
theorem r_law_cell (x0 x1 : D) : f_law_cell [x0, x1] = fin (b_law_cell [.fr x0, .fr x1]) := runF_eq rfl
def N_law_row : List Str := ["script", "at", "cell", "found", "time"]
def L1_law_row : Ss := sIf [0, 1] (e2 gLt (eF f_law_cell [eV 0, eV 1]) (e2 gPow (eC (.int 10)) (eC (.int 18))))
 (sSeq (sSet 2 [0] (e2 gMod (e2 gAdd (e2 gAdd (e2 gAdd (e2 gMul (eK 2) (eC (.int 48271))) (e2 gMul (eC (.int 131)) (eK 4))) (eC (.int 7))) (eF f_law_cell [eV 0, e2 gMod (e2 gAdd (e2 gAdd (eK 1) (eC (.int 1))) (eK 4)) (eC (.int 20))])) (eC (.int 2147483647))))
 (sApp 3 [] (e2 gMod (e2 gFdiv (eK 2) (eC (.int 11))) (eC (.int 1000)))))
 (sSeq (sApp 3 [] (e2 gMod (eK 2) (eC (.int 1000))))
 (sSet 2 [] (e2 gFdiv (eK 2) (eC (.int 1000)))))
def F1_law_row : Ss := sFor (.nm 4) [] (iR1 (eC (.int 60))) L1_law_row
def b_law_row : Ss := sSeq (sSet 2 [0, 1] (eF f_law_cell [eV 0, eV 1]))
 (sSeq (sSet 3 [] (eLst []))
 (sSeq (F1_law_row)
 (sRetV 3)))
def f_law_row : List D → Res := runF 5 b_law_row
theorem r_law_row (x0 x1 : D) : f_law_row [x0, x1] = fin (b_law_row [.fr x0, .fr x1, .un, .un, .un]) := runF_eq rfl
def L1_law_part : Ss := sPar2 2 3 [3] (eV 3) (e2 gMod (eL bInt [eK 2]) (eK 3))
def W1_law_part : Ss := sWhile [] (e2 gGt (eK 3) (eC (.int 0))) L1_law_part
def b_law_part : Ss := sSeq (sPar2 2 3 [1] (eL bAbs [eK 0]) (eV 1))
 (sSeq (W1_law_part)
 (sRet [] (eTup [e2 gFdiv (eK 0) (eK 2), e2 gFdiv (eK 1) (eK 2)])))
def f_law_part : List D → Res := runF 4 b_law_part
theorem r_law_part (x0 x1 : D) : f_law_part [x0, x1] = fin (b_law_part [.fr x0, .fr x1, .un, .un]) := runF_eq rfl
def b_law_add : Ss := sRet [] (eF f_law_part [e2 gAdd (e2 gMul (e2 gIx (eK 0) (eC (.int 0))) (e2 gIx (eK 1) (eC (.int 1)))) (e2 gMul (e2 gIx (eK 1) (eC (.int 0))) (e2 gIx (eK 0) (eC (.int 1)))), e2 gMul (e2 gIx (eK 0) (eC (.int 1))) (e2 gIx (eK 1) (eC (.int 1)))])
def f_law_add : List D → Res := runF 2 b_law_add
theorem r_law_add (x0 x1 : D) : f_law_add [x0, x1] = fin (b_law_add [.fr x0, .fr x1]) := runF_eq rfl
def b_law_mul : Ss := sRet [] (eF f_law_part [e2 gMul (e2 gIx (eK 0) (eC (.int 0))) (e2 gIx (eK 1) (eC (.int 0))), e2 gMul (e2 gIx (eK 0) (eC (.int 1))) (e2 gIx (eK 1) (eC (.int 1)))])
def f_law_mul : List D → Res := runF 2 b_law_mul
theorem r_law_mul (x0 x1 : D) : f_law_mul [x0, x1] = fin (b_law_mul [.fr x0, .fr x1]) := runF_eq rfl
def b_law_under : Ss := sRet [] (e2 gLt (e2 gMul (e2 gIx (eK 0) (eC (.int 0))) (e2 gIx (eK 1) (eC (.int 1)))) (e2 gMul (e2 gIx (eK 1) (eC (.int 0))) (e2 gIx (eK 0) (eC (.int 1)))))
def f_law_under : List D → Res := runF 2 b_law_under
theorem r_law_under (x0 x1 : D) : f_law_under [x0, x1] = fin (b_law_under [.fr x0, .fr x1]) := runF_eq rfl
def L1_law_span : Ss := sSeq (sPar2 6 7 [5, 5] (eF f_law_mul [eTup [e2 gIx (eK 4) (eC (.int 0)), eC (.int 1)], eV 5]) (eF f_law_mul [eTup [e2 gIx (eK 4) (eC (.int 1)), eC (.int 1)], eV 5]))
 (sSeq (sSet 2 [2, 7, 6, 7, 6] (eF f_law_add [eV 2, eIf (eF f_law_under [eV 7, eV 6]) (eV 7) (eV 6)]))
 (sSet 3 [3, 7, 6, 6, 7] (eF f_law_add [eV 3, eIf (eF f_law_under [eV 7, eV 6]) (eV 6) (eV 7)])))
def F1_law_span : Ss := sFor (.tp [4, 5]) [0, 1] (iZip [eV 0, eV 1]) L1_law_span
def b_law_span : Ss := sSeq (sTup [2, 3] [] (eTup [eTup [eC (.int 0), eC (.int 1)], eTup [eC (.int 0), eC (.int 1)]]))
 (sSeq (F1_law_span)
 (sRet [2, 3] (eTup [eV 2, eV 3])))
def f_law_span : List D → Res := runF 8 b_law_span
theorem r_law_span (x0 x1 : D) : f_law_span [x0, x1] = fin (b_law_span [.fr x0, .fr x1, .un, .un, .un, .un, .un, .un]) := runF_eq rfl
end U
set_option Elab.async false
set_option linter.all false
set_option maxRecDepth 100000
set_option maxHeartbeats 4000000
/-! set(t), t a tuple of tuples of ints; sorted(set(..)) of pairs -/
namespace RT
open PySem PySem.Spec PyProof.Rows L2
section
variable {P : Program} {w : World} {A : Around} {E : Value → Shared → Prop} {s : Shared}
/-- the set while it is empty -/
abbrev emS (w : World) : Obj := ⟨.type "set", none, .set #[] 0 (.fresh 0 0 (!w.params.followText "set-order")), #[]⟩
theorem fresh_none {h : Heap} {b : Addr} (hb : h.objs.size ≤ b) : h.get? b = none := by
  cases q : h.get? b with
  | none => rfl
  | some o => exact absurd (Nat.lt_of_lt_of_le (Heap.lt_size q) hb) (Nat.lt_irrefl _)
theorem item_ref {items : Array Value} {ks : List (Addr × List Int)} (hit : items.toList = ks.map fun p => Value.ref p.1) (i : Nat) (v : Value) (hv : items[i]? = some v) : ∃ p, ks[i]? = some p ∧ v = .ref p.1 := by
  have q : items.toList[i]? = some v := by rw [Array.getElem?_toList, hv]
  rw [hit, List.getElem?_map] at q
  obtain ⟨p, h1, h2⟩ := Option.map_eq_some_iff.mp q
  exact ⟨p, h1, h2.symm⟩
theorem call_set_tupleT {l : Addr} {items : Array Value} (ks : List (Addr × List Int)) {Q : Value → Shared → Prop} (hh : A.handled = none) (hl : s.heap.IsTuple l items) (hit : items.toList = ks.map fun p => Value.ref p.1)
    (hk : ∀ p ∈ ks, IsT P w s.heap p.2 p.1) (hfew : ks.length < 64) (hu : A.units + 3 < cLine)
    (fin : ∀ (h' : Heap) (tk : Nat) L es ep t, SetTR P w h' s.heap.objs.size L es ep t → Got ks ks.length L → (∀ b o, s.heap.get? b = some o → h'.get? b = some o) → Q (.ref s.heap.objs.size) { s with heap := h', toks := tk }) :
    wpAny (model P w) A (call (.type "set") [.ref l]) Q E s := by
  have n0 : items.size = ks.length := by have q := congrArg List.length hit; simpa using q
  obtain ⟨c, tl, hmro⟩ := F.called_set.mro
  have z1 := F.called_set.made; have z2 := F.called_set.sub
  refine wpAny_call (codeAny_of_tree ?_); show wpAny _ _ (callAny (.type "set") _) _ _ _
  refine wpAny_pure ⟨Code.quiet_builtin _ (by decide +kernel), codeAny_builtin F.entry_type_call ?_⟩; rw [Around.under_plain (weight_type_call_type "set" [.ref l] []) rfl]
  have z3 := F.called_set.notType; have z4 := F.called_set.canCreate; have z5 := F.typeCall_set_1 (.ref l)
  repeat (any_goals (first | assumption | wp_step))
  refine codeAny_mono (code_set_led1 (.ref l) (E := E) (Q₁ := fun obj s₁ => obj = .ref s.heap.objs.size ∧ s₁ = { s with heap := s.heap.push (emS w) }) ⟨rfl, rfl⟩) fun r s₁ hr => ?_
  cases r with
  | error e => exact hr
  | ok fl =>
    cases fl with
    | ret obj =>
      obtain ⟨rfl, rfl⟩ := hr
      have g0 : (s.heap.push (emS w)).get? s.heap.objs.size = some (emS w) := Heap.get?_push_size _ rfl
      have tS : Shared.TypeIs { s with heap := s.heap.push (emS w) } (.ref s.heap.objs.size) "set" := ⟨_, g0, rfl⟩
      have z6 := F.called_set.init.lookup; have z7 := F.called_set.init.bind (.ref s.heap.objs.size)
      repeat (any_goals (first | assumption | wp_step))
      refine codeAny_mono (codeAny_call_builtin (R := wants (fun r s₂ => r = .none ∧ ∃ h' tk L es ep t, s₂ = { s with heap := h', toks := tk } ∧ SetTR P w h' s.heap.objs.size L es ep t ∧ Got ks ks.length L ∧ (∀ b o, s.heap.get? b = some o → h'.get? b = some o)) E) F.called_set.init.plain F.entry_set_init (check_set_init_1 tS ?_)) fun r₂ s₂ hr₂ => ?_
      · obtain ⟨⟨oc, od, odt, osl⟩, ho, hc, n, hd⟩ := hl
        simp only at hc hd; subst hc; subst hd
        have y0 : (s.heap.push (emS w)).get? l = some { cls := .type "tuple", dict := od, data := .seq items n, slots := osl } := Heap.get?_push_of_some _ ho
        have y1 := F.sub_tuple_set; have y2 := F.sub_tuple_frozenset
        have y3 : (Value.type "tuple" == Value.type "dict") = false := by decide
        have y4 : (s.heap.push (emS w)).IsTuple l items := ⟨_, y0, rfl, n, rfl⟩
        unfold Builtin.«set.__init__» noKeywords Builtin.Frozenset.updateFrom
        generalize hPI : pyIter = PI
        wp_walk
        subst hPI
        refine wpAny_pyIter_tuple y4 ?_
        refine wpAny_bind (wpAny_runValue ?_)
        have lt0 : l < s.heap.objs.size := Heap.lt_size ho
        have hd0 : A.in1.in1.in1.handled = none := by simp [hh]
        have sz1 : (s.heap.push (emS w)).objs.size = s.heap.objs.size + 1 := Heap.size_push ..
        have ne1 : l ≠ (s.heap.push (emS w)).objs.size := by rw [sz1]; exact Nat.ne_of_lt (Nat.lt_succ_of_lt lt0)
        have ne2 : s.heap.objs.size ∉ [(s.heap.push (emS w)).objs.size, l] := by
          rw [sz1]; simp only [List.mem_cons, List.not_mem_nil, or_false, not_or]; exact ⟨Nat.ne_of_lt (Nat.lt_succ_self _), Nat.ne_of_gt lt0⟩
        refine set_update_tups ((Walks.tuple hd0 _ l ne1 items).toS) s.heap.objs.size ne2 ks n0 hfew (item_ref hit) s.heap hk (fresh_none (Nat.le_refl _)) (fun b hb => fresh_none (by rw [List.mem_singleton.mp hb, sz1]; exact Nat.le_succ _)) hu (items.size - 0) 0 _ (by omega) (Nat.zero_le _)
          ⟨⟨_, Heap.get?_push_size _ rfl, rfl, rfl⟩, (y4.push _)⟩ (fun b o e => Heap.get?_push_of_some _ (Heap.get?_push_of_some _ e)) ?k0 ?kR
        case k0 => exact ⟨[], #[], 0, _, setTR_fresh (Heap.get?_push_of_some _ g0), Got.zero ks⟩
        case kR =>
          intro s' L es ep t hm hS' g' hkp
          obtain ⟨h', g2, d', tk', os'⟩ := s'
          obtain rfl : g2 = s.gens := hm.gens
          obtain rfl : d' = s.drawn := hm.drawn
          obtain rfl : os' = s.os := hm.os
          show wpAny _ _ _ _ _ _
          refine wpAny_pure ?_
          show wpAny _ _ (ret Value.none) _ _ _
          rw [n0] at g'
          exact wpAny_pure ⟨rfl, h', tk', L, es, ep, t, rfl, hS', g', hkp⟩
      · cases r₂ with
        | error e => exact hr₂
        | ok fl₂ =>
          cases fl₂ with
          | ret r =>
            obtain ⟨rfl, h', tk, L, es, ep, t, rfl, q1, q2, q3⟩ := hr₂
            repeat (any_goals (first | assumption | wp_step))
            exact fin _ _ _ _ _ _ q1 q2 q3
          | _ => exact hr₂.elim
    | _ => exact hr.elim
end
end RT
namespace U
open PySem PySem.Spec PyProof.Rows L2
def rSetTT (K : PySem.W.Frag) (P : Program) (w : World) : List V → Hp → VK → Prop := fun xs H Q => ∃ (l : Addr) (ks : List (Addr × List Int)), xs = [V.ref l] ∧ (SqL K H l (ks.map fun p => V.ref p.1) ∨ SqT K H l (ks.map fun p => V.ref p.1)) ∧ (∀ p ∈ ks, SqT K H p.1 (p.2.map V.int)) ∧ ks.length < 64 ∧
  ∀ a L, H a = none → (∀ p ∈ L, p ∈ ks) → (∀ p ∈ ks, p.2 ∈ L.map (·.2)) → Q (.ref a) (upd H a (SetTO P w a L))
theorem cr_setTT {X : Cx} (hc : X.calm = true) (hu : X.A.units + 64 < cLine) : CallR X (.type "set") (rSetTT X.K X.prog X.w) := by
  intro pins s σ H xs us Q I r h
  obtain ⟨l, ks, rfl, hl | hl, hk, hf, q⟩ := h
  · exact cr_setOfT hc hu pins s σ H _ us Q I r ⟨l, ks, rfl, hl, hk, hf, q⟩
  · rw [Vals.ref1 r]
    obtain ⟨its, rv, pl, hz⟩ := I.tuple hl
    have hn : H s.heap.objs.size = none := I.hok.fresh (Nat.le_refl _)
    refine RT.call_set_tupleT (P := X.prog) (w := X.w) ks (I.ok.hd hc) pl (by simpa using refs_of_vals rv) (fun p hp => I.isT (hk p hp)) hf (by omega) fun h' tk L es ep t R g k => ?_
    exact ⟨.ref s.heap.objs.size, upd H s.heap.objs.size (SetTO X.prog X.w s.heap.objs.size L), I.laid (t' := tk) k (Nat.le_refl _) (setTO_new R.t0), rfl, q _ L hn (fun p hp => List.mem_of_mem_take (g.sub p hp)) (fun p hp => g.all p (by rw [List.take_length]; exact hp))⟩
theorem pe_srtT {X : Cx} {e : Expr} {te : TE} {p p2 q2 pos : Pos} (hc : X.calm = true) (hu : X.A.units + 64 < cLine) (hg : Gl X "sorted") (hm : X.mg "sorted" = none) (hg2 : Gl X "set") (hm2 : X.mg "set" = none) (he : PE X e te) (hs : notStar e = true) :
    PE X (.Call (.Name "sorted" p) [.Call (.Name "set" p2) [e] [] q2] [] pos) (fun σ H Q => te σ H fun x H1 => rSetTT X.K X.prog X.w [x] H1 fun y H2 => rSortedT X.K X.prog X.w [y] H2 Q) := by
  have i1 : PE X (.Call (.Name "set" p2) [e] [] q2) _ := pe_callTy (cr_setTT hc hu) hg2 hm2 PyProof.Rows.boot_set (pa_cons he pa_nil (star_cons hs)) (by decide) (by decide) (star_cons hs) rfl
  have i2 : PE X (.Call (.Name "sorted" p) [.Call (.Name "set" p2) [e] [] q2] [] pos) _ := pe_callB (cr_sortedT hc) hg hm PyProof.Rows.boot_sorted (pa_cons i1 pa_nil rfl) (by decide) (by decide) rfl rfl
  exact i2
end U
set_option Elab.async false
set_option linter.all false
set_option maxRecDepth 100000
set_option maxHeartbeats 1000000
/-! sorted(set(x)), x a list or a tuple of pairs of small ints -/
namespace U
open PySem PySem.Spec PyProof.Rows L2
def prsOf : List D → Option (List (Int × Int))
  | [] => some []
  | .tuple [.int a, .int b] :: ds => (prsOf ds).map ((a, b) :: ·)
  | _ => none
def cdP (p : Int × Int) : Int := p.1 * 64 + p.2
def dcdP (c : Int) : D := .tuple [.int (c / 64), .int (c % 64)]
def bdP (p : Int × Int) : Prop := 0 ≤ p.1 ∧ p.1 < 64 ∧ 0 ≤ p.2 ∧ p.2 < 64
instance (p : Int × Int) : Decidable (bdP p) := inferInstanceAs (Decidable (_ ∧ _ ∧ _ ∧ _))
def srpK (ds : List D) : Res := match prsOf ds with
  | some ps => if ps.length < 64 ∧ ∀ p ∈ ps, bdP p then .new ((srt (ps.map cdP)).map dcdP) else .bad
  | none => .bad
def srpD : D → Res
  | .list ds => srpK ds
  | .tuple ds => srpK ds
  | _ => .bad
def eSrp (ma : Sm) : Sm := fun ρ => (ma ρ).bind srpD
theorem dps_prs {F : Hp} : ∀ {ds : List D} {xs : List V} {ps : List (Int × Int)}, prsOf ds = some ps → DrAll F xs ds → ∃ ks : List (Addr × List Int), xs = ks.map (fun p => V.ref p.1) ∧ ks.map (·.2) = ps.map (fun p => [p.1, p.2]) ∧ ∀ p ∈ ks, F p.1 = some (.tup (p.2.map V.int))
  | [], _, ps, h, hd => by cases h; cases hd; exact ⟨[], rfl, rfl, by simp⟩
  | d :: ds, _, ps, h, hd => by
    unfold prsOf at h
    split at h
    · rename_i h0; cases h0
    · rename_i a b r h0
      cases h0
      cases hr : prsOf ds with
      | none => rw [hr] at h; cases h
      | some qs =>
        rw [hr] at h; cases h
        cases hd with
        | cons h1 h2 =>
          obtain ⟨ks, e1, e2, e3⟩ := dps_prs hr h2
          cases h1 with
          | tup g1 g2 =>
            cases g2 with
            | cons i1 g2 =>
              cases g2 with
              | cons i2 g2 =>
                cases g2; cases i1; cases i2
                refine ⟨(_, [a, b]) :: ks, by rw [e1]; rfl, by rw [List.map_cons, e2]; rfl, fun p hp => ?_⟩
                rcases List.mem_cons.mp hp with rfl | hp
                · exact g1
                · exact e3 p hp
    · cases h
theorem cd_inj {a b : Int × Int} (ha : bdP a) (hb : bdP b) (h : cdP a = cdP b) : a = b := by
  unfold bdP at ha hb; unfold cdP at h
  have h1 : a.1 = b.1 := by omega
  have h2 : a.2 = b.2 := by omega
  cases a; cases b; simp at h1 h2; rw [h1, h2]
theorem dcd_cd {a : Int × Int} (ha : bdP a) : dcdP (cdP a) = .tuple [.int a.1, .int a.2] := by
  unfold bdP at ha; unfold cdP dcdP
  have h1 : (a.1 * 64 + a.2) / 64 = a.1 := by omega
  have h2 : (a.1 * 64 + a.2) % 64 = a.2 := by omega
  rw [h1, h2]
theorem pw_lt_of : ∀ {l : List Int}, l.Nodup → l.Pairwise (· ≤ ·) → l.Pairwise (· < ·)
  | [], _, _ => .nil
  | a :: l, h1, h2 => by
    rw [List.nodup_cons] at h1
    rw [List.pairwise_cons] at h2 ⊢
    refine ⟨fun b hb => ?_, pw_lt_of h1.2 h2.2⟩
    have := h2.1 b hb
    have : a ≠ b := fun e => h1.1 (e ▸ hb)
    omega
theorem j_srp {X : Cx} {cv : Nat → Value} {W : WX} {a : Expr} {ma : Sm} {p p2 q2 pos : Pos} (hc : X.calm = true) (hu : X.A.units + 64 < cLine) (hg : Gl X "sorted") (hm : X.mg "sorted" = none) (hg2 : Gl X "set") (hm2 : X.mg "set" = none) (ha : JW X cv W a ma) (hs : notStar a = true) : JE X cv W (.Call (.Name "sorted" p) [.Call (.Name "set" p2) [a] [] q2] [] pos) (eSrp ma) :=
  PE.imp (pe_srtT hc hu hg hm hg2 hm2 ha hs) fun σ H Q ⟨ρ, F, r, q⟩ => by
    refine ⟨ρ, F, r, ?_⟩
    unfold eSrp at q
    have go : ∀ d, GotE cv W F H σ Q (srpD d) → QW F H d fun x H1 => rSetTT X.K X.prog X.w [x] H1 fun y H2 => rSortedT X.K X.prog X.w [y] H2 Q := fun d q v F1 H1 ev wk => by
      have main : ∀ (ds : List D) (xs : List V) (p : Addr), v = .ref p → GotE cv W F H σ Q (srpK ds) → (SqL X.K H1 p xs ∨ SqT X.K H1 p xs) → DrAll F1 xs ds → rSetTT X.K X.prog X.w [v] H1 fun y H2 => rSortedT X.K X.prog X.w [y] H2 Q := fun ds xs p e q hp hx => by
        subst e
        unfold srpK at q
        cases hi : prsOf ds with
        | none => rw [hi] at q; exact q.elim
        | some ps =>
          rw [hi] at q
          simp only at q
          split at q
          case isFalse => exact q.elim
          rename_i hl
          obtain ⟨ks, e1, e2, e3⟩ := dps_prs hi hx
          subst e1
          have kl : ks.length = ps.length := by have := congrArg List.length e2; simpa using this
          have kb : ∀ k ∈ ks, ∃ q ∈ ps, k.2 = [q.1, q.2] := fun k hk => by
            have : k.2 ∈ ks.map (·.2) := List.mem_map_of_mem hk
            rw [e2] at this
            obtain ⟨q, h1, h2⟩ := List.mem_map.mp this
            exact ⟨q, h1, h2.symm⟩
          refine ⟨p, ks, rfl, hp, fun k hk => .inl (.inl (ev.le _ _ (e3 k hk))), by omega, fun a L ha hL hL2 => ⟨a, L, 2, 64, rfl, upd_same, fun k hk => .inl (.inl ?_), by decide, fun k hk => ?_, fun L' p' pm nd len pw hp' => ?_⟩⟩
          · have hF := ev.le _ _ (e3 k (hL k hk))
            have : k.1 ≠ a := fun z => by rw [z, ha] at hF; cases hF
            rw [upd_ne this]; exact hF
          · obtain ⟨q, h1, h2⟩ := kb k (hL k hk)
            have hb := hl.2 q h1
            unfold bdP at hb
            rw [h2]
            refine ⟨rfl, ?_⟩
            intro z hz
            simp only [List.mem_cons, List.not_mem_nil, or_false] at hz
            rcases hz with rfl | rfl <;> omega
          · have hL' : ∀ k ∈ L', ∃ q ∈ ps, k.2 = [q.1, q.2] ∧ F1 k.1 = some (.tup (k.2.map V.int)) := fun k hk => by
              have h0 := hL k (pm.mem_iff.mp hk)
              obtain ⟨q, h1, h2⟩ := kb k h0
              exact ⟨q, h1, h2, e3 k h0⟩
            have ecode : L'.map (fun k => TS.code 64 k.2) = srt (ps.map cdP) := by
              refine pw_uniq (pw_lt_of ?_ ?_) (pw_srt _) fun c => ?_
              · have inj : ∀ x ∈ L'.map (·.2), ∀ y ∈ L'.map (·.2), TS.code 64 x = TS.code 64 y → x = y := fun x hx y hy e => by
                  obtain ⟨k1, h1, rfl⟩ := List.mem_map.mp hx
                  obtain ⟨k2, h2, rfl⟩ := List.mem_map.mp hy
                  obtain ⟨q1, i1, j1, _⟩ := hL' k1 h1
                  obtain ⟨q2, i2, j2, _⟩ := hL' k2 h2
                  rw [j1, j2, code_pair, code_pair] at e
                  rw [j1, j2, cd_inj (hl.2 q1 i1) (hl.2 q2 i2) e]
                have nd' : (L'.map (·.2)).Pairwise (fun x y => TS.code 64 x ≠ TS.code 64 y) := List.Pairwise.imp_of_mem (fun {x y} hx hy h e => h (inj x hx y hy e)) nd
                have := List.pairwise_map.mpr nd'
                rw [List.map_map] at this
                exact this
              · exact List.pairwise_map.mpr pw
              · rw [mem_srt]
                constructor
                · intro h
                  obtain ⟨k, h1, rfl⟩ := List.mem_map.mp h
                  obtain ⟨q, i1, j1, _⟩ := hL' k h1
                  rw [j1, code_pair]
                  exact List.mem_map.mpr ⟨q, i1, rfl⟩
                · intro h
                  obtain ⟨q, h1, rfl⟩ := List.mem_map.mp h
                  have : [q.1, q.2] ∈ ks.map (·.2) := by rw [e2]; exact List.mem_map.mpr ⟨q, h1, rfl⟩
                  obtain ⟨k, h2, h3⟩ := List.mem_map.mp this
                  have h4 := hL2 k h2
                  obtain ⟨k2, h5, h6⟩ := List.mem_map.mp h4
                  refine List.mem_map.mpr ⟨k2, pm.mem_iff.mpr h5, ?_⟩
                  rw [h6, h3, code_pair]; rfl
            have hq := q
            rw [← ecode, List.map_map] at q
            have hdr : ∀ (M : List (Addr × List Int)), (∀ k ∈ M, ∃ q ∈ ps, k.2 = [q.1, q.2] ∧ F1 k.1 = some (.tup (k.2.map V.int))) → DrAll F1 (M.map fun k => V.ref k.1) (M.map (dcdP ∘ fun k => TS.code 64 k.2)) := by
              intro M
              induction M with
              | nil => intro _; exact .nil
              | cons k M ih =>
                intro hM
                refine .cons ?_ (ih fun k' h' => hM k' (List.mem_cons_of_mem _ h'))
                obtain ⟨q, h1, h2, h3⟩ := hM k List.mem_cons_self
                have : (dcdP ∘ fun k : Addr × List Int => TS.code 64 k.2) k = .tuple [.int q.1, .int q.2] := by
                  simp only [Function.comp]
                  rw [h2, code_pair]
                  exact dcd_cd (hl.2 q h1)
                rw [this]
                rw [h2] at h3
                exact .tup h3 (.cons (.int _) (.cons (.int _) .nil))
            have hn1 : H1 p' = none := none_back (Evl.Ex.new ha) hp'
            have ev2 : Evo F1 H1 F1 (upd (upd H1 a (SetTO X.prog X.w a L)) p' (.lst (L'.map fun q => V.ref q.1))) := ((Evo.refl ev.le).own ha).own hp'
            exact q p' _ F1 _ (ev.trans ev2) (none_back ev.hx hn1) (none_back ev.le hn1) upd_same (hdr L' hL')
      cases d <;> try exact q.elim
      · rename_i ds
        obtain ⟨p, xs, e, hp, hx⟩ := wk.list ev.le
        exact main ds xs p e q (.inl (.inl hp)) hx
      · rename_i ds
        obtain ⟨p, xs, e, hpF, hp, hx⟩ := wk.tuple ev.le
        exact main ds xs p e q (.inr (.inl (.inl hp))) hx
    cases h : ma ρ with
    | ok d => rw [h] at q; exact go d q
    | new d => rw [h] at q; exact go _ q
    | exc c => rw [h] at q; exact q
    | bad => rw [h] at q; exact q
end U
set_option Elab.async false
set_option linter.all false
set_option maxRecDepth 100000
set_option maxHeartbeats 1000000
/-! sorted(list), min(list) of data that are alike; list.index of data -/
namespace U
open PySem PySem.Spec PyProof.Rows L2
open PySem.W (minD min_list_data reads_keeps)
def alkB (ds : List D) : Bool := ds.all fun d => ds.all fun e => PySem.W.alike d e
def tupB (ds : List D) : Bool := ds.all fun d => match d with
  | .tuple (_ :: _) => true
  | _ => false
def depB (ds : List D) : Bool := ds.all fun d => decide (d.depth ≤ 50)
theorem each_dr {F : Hp} : ∀ {xs : List V} {ds : List D} {us : List Value}, DrAll F xs ds → Vals xs us → PySem.W.EachIs (fun u d => ∃ v, RelV v u ∧ Dr F v d) us ds
  | _, _, _, .nil, .nil => .nil
  | _, _, _, .cons h t, .cons r rs => .cons ⟨_, r, h⟩ (each_dr t rs)
theorem each_out {F : Hp} : ∀ {us : List Value} {ds : List D}, PySem.W.EachIs (fun u d => ∃ v, RelV v u ∧ Dr F v d) us ds → ∃ xs, Vals xs us ∧ DrAll F xs ds
  | _, _, .nil => ⟨[], .nil, .nil⟩
  | _, _, .cons ⟨v, r, h⟩ t => by
    obtain ⟨xs, h1, h2⟩ := each_out t
    exact ⟨v :: xs, .cons r h1, .cons h h2⟩
mutual
theorem nt_alike : ∀ d : D, PySem.W.alike d d = true → nt d = true
  | .none, _ => by simp [nt]
  | .bool _, _ => by simp [nt]
  | .int _, _ => by simp [nt]
  | .str _, _ => by simp [nt]
  | .list xs, h => by rw [nt]; rw [PySem.W.alike] at h; exact ntAll_alike xs h
  | .tuple xs, h => by rw [nt]; rw [PySem.W.alike] at h; exact ntAll_alike xs h
  | .dict _, h => by simp [PySem.W.alike] at h
theorem ntAll_alike : ∀ ds : List D, PySem.W.alikeAll ds ds = true → ntAll ds = true
  | [], _ => by simp [ntAll]
  | x :: xs, h => by
    rw [PySem.W.alikeAll, Bool.and_eq_true] at h
    rw [ntAll, nt_alike x h.1, ntAll_alike xs h.2]; rfl
end
theorem alk_nt {ds : List D} (h : alkB ds = true) : ntAll ds = true := by
  have h' : ∀ d ∈ ds, nt d = true := fun d hd => nt_alike d (List.all_eq_true.mp (List.all_eq_true.mp h d hd) d hd)
  clear h
  induction ds with
  | nil => simp [ntAll]
  | cons x xs ih => rw [ntAll, h' x List.mem_cons_self, ih fun d hd => h' d (List.mem_cons_of_mem _ hd)]; rfl
theorem each_reads {X : Cx} {pins : List (Addr × Obj)} {σ : L2.St} {H F : Hp} {s : Shared} (I : Inv X pins σ H s) (le : Ex F H) : ∀ {xs : List V} {ds : List D} {us : List Value}, DrAll F xs ds → ntAll ds = true → Vals xs us → PySem.W.EachIs (fun u d => ∃ as, Reads s.heap u (id d) as) us ds
  | _, _, _, .nil, _, .nil => .nil
  | _, _, _, .cons h t, c, .cons r rs => by
    rw [ntAll, Bool.and_eq_true] at c
    exact .cons (Dp.reads I _ _ _ ((dp_mono le h).dp0 c.1) r) (each_reads I le t c.2 rs)
def srtL (ds : List D) : List D := ds.mergeSort (PySem.W.dataLe false id)
def rSortedDr (K : PySem.W.Frag) : List V → Hp → VK → Prop := fun vs H Q => ∃ (a : Addr) (xs : List V) (F : Hp) (ds : List D), vs = [.ref a] ∧ SqL K H a xs ∧ Ex F H ∧ DrAll F xs ds ∧ alkB ds = true ∧ tupB ds = true ∧ depB ds = true ∧ ds.length ≤ 100000 ∧
  ∀ xs' p, DrAll F xs' (srtL ds) → H p = none → Q (.ref p) (upd H p (.lst xs'))
theorem cr_sortedDr {X : Cx} (hu : X.A.units + 64 < cLine) : CallR X (.builtin "sorted") (rSortedDr X.K) := by
  intro pins s σ H vs us Q I r h
  obtain ⟨a, xs, F, ds, rfl, hs, le, hd, ha, ht, hp, hn, q⟩ := h
  obtain ⟨its, rv, hl, _⟩ := I.list hs
  rw [Vals.ref1 r]
  have alk : PySem.W.AllAlike (ds.map id) := by
    rw [List.map_id]
    intro d h1 d' h2
    exact List.all_eq_true.mp (List.all_eq_true.mp ha d h1) d' h2
  have srtb : PySem.W.Sortable (ds.map id) := by
    rw [List.map_id]
    refine .inl fun d h1 => ?_
    have := List.all_eq_true.mp ht d h1
    split at this
    · exact ⟨_, _, rfl⟩
    · cases this
  refine PySem.W.sorted_data (enc := id) (R := fun u d => ∃ v, RelV v u ∧ Dr F v d) hl.isList (each_dr hd rv) (each_reads I le hd (alk_nt ha) rv) alk srtb (by rw [sizeLine_eq]; omega) (fun d h1 => ?_) fun out hlo ho => ?_
  · have := of_decide_eq_true (List.all_eq_true.mp hp d h1)
    show _ + d.depth < _
    omega
  · obtain ⟨xs', r', d'⟩ := each_out ho
    obtain ⟨ep, he'⟩ := PyProof.Rows.sortedAll_at s.heap its out.toArray
    have hlen : xs'.length ≤ sizeLine := by rw [dps_len d', List.length_mergeSort, sizeLine_eq]; omega
    exact ⟨.ref _, upd H (s.heap.objs.size + 1) (.lst xs'), I.laid (t' := s.toks) (fun _ _ => PyProof.Rows.sortedAll_old) (Nat.le_succ _) ⟨hlen, out, ep, r', he'⟩, rfl, q xs' _ d' (I.hok.fresh (Nat.le_succ _))⟩
def srtDD : D → Res
  | .list ds => if alkB ds = true ∧ tupB ds = true ∧ depB ds = true ∧ ds.length ≤ 100000 then .new (srtL ds) else .bad
  | _ => .bad
def eSrtL (ma : Sm) : Sm := fun ρ => (ma ρ).bind srtDD
theorem j_srtL {X : Cx} {cv : Nat → Value} {W : WX} {a : Expr} {ma : Sm} {p pos : Pos} (hu : X.A.units + 64 < cLine) (hg : Gl X "sorted") (hm : X.mg "sorted" = none) (ha : JW X cv W a ma) (hs : notStar a = true) : JE X cv W (.Call (.Name "sorted" p) [a] [] pos) (eSrtL ma) :=
  PE.imp (pe_callB (cr_sortedDr hu) hg hm PyProof.Rows.boot_sorted (pa_cons ha pa_nil (star_cons hs)) (by decide) (by decide) (star_cons hs) rfl) fun σ H Q ⟨ρ, F, r, q⟩ => by
    refine ⟨ρ, F, r, ?_⟩
    unfold eSrtL at q
    have go : ∀ d, GotE cv W F H σ Q (srtDD d) → QW F H d fun x H1 => rSortedDr X.K [x] H1 Q := fun d q v F1 H1 ev wk => by
      cases d <;> try exact q.elim
      rename_i ds
      unfold srtDD at q
      simp only at q
      split at q
      case isFalse => exact q.elim
      rename_i hz
      obtain ⟨p, xs, e, hp, hx⟩ := wk.list ev.le
      subst e
      refine ⟨p, xs, F1, ds, rfl, .inl hp, ev.le, hx, hz.1, hz.2.1, hz.2.2.1, hz.2.2.2, fun xs' p' hd hp' => ?_⟩
      exact q p' _ F1 _ (ev.trans ((Evo.refl ev.le).own hp')) (none_back ev.hx hp') (none_back ev.le hp') upd_same hd
    cases h : ma ρ with
    | ok d => rw [h] at q; exact go d q
    | new d => rw [h] at q; exact go _ q
    | exc c => rw [h] at q; exact q
    | bad => rw [h] at q; exact q
/-! ### min of a list of data -/
theorem minD_mem (d : D) : ∀ ds : List D, minD d ds ∈ d :: ds := by
  intro ds
  unfold minD
  induction ds generalizing d with
  | nil => simp
  | cons e ds ih =>
    rw [List.foldl_cons]
    have := ih (if PySem.W.dataLt e d = true then e else d)
    rcases List.mem_cons.mp this with h | h
    · rw [h]; split <;> simp
    · exact List.mem_cons_of_mem _ (List.mem_cons_of_mem _ h)
def rMinDr (K : PySem.W.Frag) : List V → Hp → VK → Prop := fun vs H Q => ∃ (a : Addr) (xs : List V) (F : Hp) (d : D) (ds : List D), vs = [.ref a] ∧ SqL K H a xs ∧ Ex F H ∧ DrAll F xs (d :: ds) ∧ alkB (d :: ds) = true ∧ tupB (d :: ds) = true ∧ PyData.depthAll (d :: ds) ≤ 50 ∧ PyData.canLayAll0 (d :: ds) = true ∧
  ∀ v, Dr F v (minD d ds) → Q v H
theorem cr_minDr {X : Cx} (hc : X.calm = true) (hu : X.A.units + 64 < cLine) : CallR X (.builtin "min") (rMinDr X.K) := by
  intro pins s σ H vs us Q I r h
  obtain ⟨a, xs, F, d, ds, rfl, hs, le, hd, ha, ht, hp, hn, q⟩ := h
  obtain ⟨its, rv, hl, _⟩ := I.list hs
  rw [Vals.ref1 r]
  obtain ⟨as, hr⟩ := Dp.readsAll I (d :: ds) xs its ((dps_mono le hd).dp hn) rv
  refine min_list_data (I.ok.hd hc) hl.isList (show ReadsAll s.heap its.toArray.toList (d :: ds) as from hr) ⟨fun x h1 y h2 => List.all_eq_true.mp (List.all_eq_true.mp ha x h1) y h2, fun x h1 e => ?_⟩ (by omega) fun i u h' tk bs hi hm hk => ?_
  · have := List.all_eq_true.mp ht x h1
    rw [e] at this; cases this
  · have hi' : its[i]? = some u := by simpa using hi
    have key : ∀ (es : List D) (ys : List V) (us : List Value), DrAll F ys es → Vals ys us → us[i]? = some u → ∃ e v, e ∈ es ∧ Dr F v e ∧ RelV v u := by
      generalize i = i
      intro es ys us h1 h2 h4
      induction h2 generalizing es i with
      | nil => cases h4
      | cons r rs ih =>
        cases h1 with
        | cons e1 e2 =>
          cases i with
          | zero => cases h4; exact ⟨_, _, List.mem_cons_self, e1, r⟩
          | succ i =>
            obtain ⟨e, v, k1, k2, k3⟩ := ih _ _ e2 h4
            exact ⟨e, v, List.mem_cons_of_mem _ k1, k2, k3⟩
    obtain ⟨e, v, k1, k2, k3⟩ := key _ _ _ hd rv hi'
    have lay : ∀ x ∈ d :: ds, x.canLay0 = true := by
      have : ∀ l : List D, PyData.canLayAll0 l = true → ∀ x ∈ l, x.canLay0 = true := by
        intro l
        induction l with
        | nil => intro _ x hx; cases hx
        | cons y l ih =>
          intro h x hx
          rw [PyData.canLayAll0, Bool.and_eq_true] at h
          rcases List.mem_cons.mp hx with rfl | hx
          · exact h.1
          · exact ih h.2 x hx
      exact this _ hn
    obtain ⟨cs, r1⟩ := Dp.reads I e v u ((dp_mono le k2).dp (lay _ k1)) k3
    have r2 : Reads h' u e cs := reads_keeps hk r1
    have e1 := SeqAt.readOf_eq (lay _ k1) r2
    have e2 := SeqAt.readOf_eq (lay _ (minD_mem d ds)) hm
    have : e = minD d ds := e1.symm.trans e2
    rw [this] at k2
    exact ⟨v, H, I.kept hk, k3, q v k2⟩
def minDD : D → Res
  | .list (d :: ds) => if alkB (d :: ds) = true ∧ tupB (d :: ds) = true ∧ PyData.depthAll (d :: ds) ≤ 50 ∧ PyData.canLayAll0 (d :: ds) = true then .ok (minD d ds) else .bad
  | _ => .bad
def eMinD (ma : Sm) : Sm := fun ρ => (ma ρ).bind minDD
theorem j_minD {X : Cx} {cv : Nat → Value} {W : WX} {a : Expr} {ma : Sm} {p pos : Pos} (hc : X.calm = true) (hu : X.A.units + 64 < cLine) (hg : Gl X "min") (hm : X.mg "min" = none) (ha : JW X cv W a ma) (hs : notStar a = true) : JE X cv W (.Call (.Name "min" p) [a] [] pos) (eMinD ma) :=
  PE.imp (pe_callB (cr_minDr hc hu) hg hm PyProof.Rows.boot_min (pa_cons ha pa_nil (star_cons hs)) (by decide) (by decide) (star_cons hs) rfl) fun σ H Q ⟨ρ, F, r, q⟩ => by
    refine ⟨ρ, F, r, ?_⟩
    unfold eMinD at q
    have go : ∀ d, GotE cv W F H σ Q (minDD d) → QW F H d fun x H1 => rMinDr X.K [x] H1 Q := fun d q v F1 H1 ev wk => by
      cases d <;> try exact q.elim
      rename_i ds
      cases ds with
      | nil => exact q.elim
      | cons d ds =>
        unfold minDD at q
        simp only at q
        split at q
        case isFalse => exact q.elim
        rename_i hz
        obtain ⟨p, xs, e, hp, hx⟩ := wk.list ev.le
        subst e
        exact ⟨p, xs, F1, d, ds, rfl, .inl hp, ev.le, hx, hz.1, hz.2.1, hz.2.2.1, hz.2.2.2, fun v hv => q v F1 H1 ev hv⟩
    cases h : ma ρ with
    | ok d => rw [h] at q; exact go d q
    | new d => rw [h] at q; exact go _ q
    | exc c => rw [h] at q; exact q
    | bad => rw [h] at q; exact q
/-! ### list.index of data -/
def ixP (d : D) : List D → Option Nat
  | [] => none
  | e :: es => if PyData.eqv e d = true then some 0 else (ixP d es).map (· + 1)
theorem ixP_spec (d : D) : ∀ {es : List D} {j : Nat}, ixP d es = some j → (∃ z, es[j]? = some z ∧ PyData.eqv z d = true) ∧ ∀ (m : Nat) (z' : D), m < j → es[m]? = some z' → PyData.eqv z' d = false
  | [], _, h => by cases h
  | e :: es, j, h => by
    unfold ixP at h
    split at h
    · rename_i he
      cases h
      exact ⟨⟨e, rfl, he⟩, fun m z' hm => absurd hm (Nat.not_lt_zero _)⟩
    · rename_i he
      obtain ⟨k, hk, rfl⟩ := Option.map_eq_some_iff.mp h
      obtain ⟨⟨z, h1, h2⟩, h3⟩ := ixP_spec d hk
      refine ⟨⟨z, h1, h2⟩, fun m z' hm hz => ?_⟩
      cases m with
      | zero => cases hz; simpa using he
      | succ m => exact h3 m z' (by omega) hz
def ixDD (a d : D) : Res := match a with
  | .list es => if SeqAt.shaped (.list es) = true ∧ SeqAt.shaped d = true then (match ixP d es with
    | some j => .ok (.int (j : Nat))
    | none => .bad) else .bad
  | _ => .bad
def eIxL (mo m : Sm) : Sm := fun ρ => (mo ρ).bind fun x => match x with
  | .list es => (m ρ).bind (ixDD (.list es))
  | _ => .bad
theorem j_ixL {X : Cx} {cv : Nat → Value} {W : WX} {o e : Expr} {mo m : Sm} {apos pos : Pos} (hu : X.A.units + 65 < cLine) (ho : JW X cv W o mo) (he : JW X cv W e m) (hs : notStar e = true) (hb : attributeBase o "index" X.env (eval o X.env) = eval o X.env) (hl : (apos.endLine == pos.line) = true) : JE X cv W (.Call (.Attribute o "index" apos) [e] [] pos) (eIxL mo m) :=
  PE.imp (pe_bm PySem.F.plainAttrs_list PySem.F.slot_list_index PySem.F.type_list_index (mt_indexD hu) ho (pa_cons he pa_nil (star_cons hs)) hb (by rw [star_cons hs]; rfl) hl (star_cons hs) rfl) fun σ H Q ⟨ρ, F, r, q⟩ => by
    refine ⟨ρ, F, r, ?_⟩
    unfold eIxL at q
    have go : ∀ d, GotE cv W F H σ Q (match d with
      | .list es => (m ρ).bind (ixDD (.list es))
      | _ => .bad) → QW F H d fun x H1 => tyV X.K "list" x H1 ∧ rdW cv W m σ H1 fun y H2 => rIndexD X.K x [y] H2 Q := fun d q v F1 H1 ev wk => by
      cases d <;> try exact q.elim
      rename_i es
      simp only at q
      obtain ⟨p, xs, e, hp, hx⟩ := wk.list ev.le
      subst e
      refine ⟨.inl ⟨rfl, xs, .inl hp⟩, ρ, F1, r.evo ev, ?_⟩
      have go2 : ∀ d2, GotE cv W F H σ Q (ixDD (.list es) d2) → QW F1 H1 d2 fun y H2 => rIndexD X.K (.ref p) [y] H2 Q := fun d2 q w F2 H2 ev2 wk2 => by
        unfold ixDD at q
        simp only at q
        split at q
        case isFalse => exact q.elim
        rename_i hz
        cases hj : ixP d2 es with
        | none => rw [hj] at q; exact q.elim
        | some j =>
          rw [hj] at q
          obtain ⟨⟨z, z1, z2⟩, z3⟩ := ixP_spec d2 hj
          refine ⟨p, w, d2, es, j, z, rfl, rfl, (Wk.dp ev2.le (wk.evo ev2)).dp (SeqAt.canLay_of_shaped hz.1), (Wk.dp ev2.le wk2).dp (SeqAt.canLay_of_shaped hz.2), hz.1, hz.2, z1, z2, z3, q _ F2 H2 (ev.trans ev2) (.int _)⟩
      cases hm : m ρ with
      | ok d2 => rw [hm] at q; exact go2 d2 q
      | new d2 => rw [hm] at q; exact go2 _ q
      | exc c => rw [hm] at q; exact QX.evo ev q
      | bad => rw [hm] at q; exact q.elim
    cases h : mo ρ with
    | ok d => rw [h] at q; exact go d q
    | new d => rw [h] at q; exact go _ q
    | exc c => rw [h] at q; exact q
    | bad => rw [h] at q; exact q
end U
set_option Elab.async false
set_option linter.all false
set_option maxRecDepth 100000
set_option maxHeartbeats 1000000
/-! the translator with sorted, min, index of data (ext 8) -/
namespace U
open PySem PySem.Spec PyProof.Rows L2
variable {S : S0}
def isPrs : Expr → Bool
  | .Name x _ => x == "cells"
  | .BinOp .. => true
  | _ => false
def isGood : Expr → Bool
  | .Name x _ => x == "good"
  | _ => false
def srpOf (r : TR S) (sc : Scope) : (e : Expr) → Option (OkE S sc e)
  | .Call (.Name x p) [.Call (.Name y p2) [a] [] q2] [] pos => (wOf r sc a).bind fun u =>
      if h : x = "sorted" ∧ y = "set" ∧ glB sc x = true ∧ glB sc y = true ∧ notStar a = true ∧ isPrs a = true then some ⟨eSrp u.m, u.lk, fun cv X W g e => by
        obtain ⟨h1, h2, h3, h4, h5, _⟩ := h
        subst h1 h2
        exact j_srp g.calm (by have := g.hu; omega) (Gd.gl (cv := cv) (W := W) e h3) (g.blt _ (by decide +kernel)) (Gd.gl (cv := cv) (W := W) e h4) (g.blt _ (by decide +kernel)) (u.ok cv X W g e) h5⟩ else none
  | _ => none
def srtLOf (r : TR S) (sc : Scope) : (e : Expr) → Option (OkE S sc e)
  | .Call (.Name x p) [.Call (.Name y p2) as ks q2] [] pos => (wOf r sc (.Call (.Name y p2) as ks q2)).bind fun u =>
      if h : x = "sorted" ∧ ¬ y = "set" ∧ glB sc x = true then some ⟨eSrtL u.m, u.lk, fun cv X W g e => by
        obtain ⟨h1, h2, h3⟩ := h
        subst h1
        exact j_srtL (by have := g.hu; omega) (Gd.gl (cv := cv) (W := W) e h3) (g.blt _ (by decide +kernel)) (u.ok cv X W g e) rfl⟩ else none
  | _ => none
def minOf (r : TR S) (sc : Scope) : (e : Expr) → Option (OkE S sc e)
  | .Call (.Name x p) [a] [] pos => (wOf r sc a).bind fun u =>
      if h : x = "min" ∧ isGood a = true ∧ notStar a = true ∧ glB sc x = true then some ⟨eMinD u.m, u.lk, fun cv X W g e => by
        obtain ⟨h1, h2, h3, h4⟩ := h
        subst h1
        exact j_minD g.calm (by have := g.hu; omega) (Gd.gl (cv := cv) (W := W) e h4) (g.blt _ (by decide +kernel)) (u.ok cv X W g e) h3⟩ else none
  | _ => none
def ixLOf (r : TR S) (sc : Scope) : (e : Expr) → Option (OkE S sc e)
  | .Call (.Attribute (.Name x p) name apos) [a] [] pos => (wOf r sc (.Name x p)).bind fun u => (wOf r sc a).bind fun w =>
      if h : x = "items" ∧ name = "index" ∧ notStar a = true ∧ (apos.endLine == pos.line) = true then some ⟨eIxL u.m w.m, u.lk ++ w.lk, fun cv X W g e => by
        obtain ⟨h1, h2, h3, h4⟩ := h
        subst h2
        exact j_ixL (by have := g.hu; omega) (u.ok cv X W g e) (w.ok cv X W g e) h3 rfl h4⟩ else none
  | _ => none
def stepE9 (r : TR S) (sc : Scope) (e : Expr) : Option (OkE S sc e) := match srpOf r sc e with
  | some x => some x
  | none => match srtLOf r sc e with
    | some x => some x
    | none => match minOf r sc e with
      | some x => some x
      | none => match ixLOf r sc e with
        | some x => some x
        | none => stepEY r sc e
end U
set_option Elab.async false
set_option linter.all false
set_option maxRecDepth 100000
set_option maxHeartbeats 1000000
/-! text.split(sep), text * int (ext 9) -/
namespace U
open PySem PySem.Spec PyProof.Rows L2
def splD (a : Str) : D → Res
  | .str b => if (b.length == 0) = false ∧ a.length ≤ 100000 then .new ((Txt.split a b).map .str) else .bad
  | _ => .bad
def eSpl (mo m : Sm) : Sm := fun ρ => (mo ρ).bind fun x => match x with
  | .str a => (m ρ).bind (splD a)
  | _ => .bad
theorem dps_ofStrs {F : Hp} : ∀ ys : List Str, DrAll F (ys.map V.str) (ys.map PyData.str)
  | [] => .nil
  | y :: r => .cons (.str y) (dps_ofStrs r)
section
variable {X : Cx} {cv : Nat → Value} {W : WX} {o e : Expr} {mo m : Sm} {apos pos : Pos}
theorem j_spl (ho : JW X cv W o mo) (he : JW X cv W e m) (hs : notStar e = true) (hb : attributeBase o "split" X.env (eval o X.env) = eval o X.env) (hl : (apos.endLine == pos.line) = true) : JE X cv W (.Call (.Attribute o "split" apos) [e] [] pos) (eSpl mo m) :=
  PE.imp (pe_split ho he (star_cons hs) hb hl) fun σ H Q ⟨ρ, F, r, q⟩ => by
    refine ⟨ρ, F, r, ?_⟩
    unfold eSpl at q
    have go : ∀ d, GotE cv W F H σ Q (match d with | .str a => (m ρ).bind (splD a) | _ => .bad) → QW F H d fun x H1 => (∃ a, x = .str a) ∧ rdW cv W m σ H1 fun y H2 => ∃ a b, x = .str a ∧ [y] = [.str b] ∧ (b.length == 0) = false ∧ a.length + 2 ≤ sizeLine ∧ rNewStrs (Txt.split a b) H2 Q := fun d q v F1 H1 ev wk => by
      cases d <;> try exact q.elim
      rename_i a
      cases wk.str
      refine ⟨⟨_, rfl⟩, ρ, F1, r.evo ev, ?_⟩
      have q := GotE.evo ev q
      simp only at q
      have g2 : ∀ d2, GotE cv W F1 H1 σ Q (splD a d2) → QW F1 H1 d2 fun y H2 => ∃ a' b, V.str a = .str a' ∧ [y] = [.str b] ∧ (b.length == 0) = false ∧ a'.length + 2 ≤ sizeLine ∧ rNewStrs (Txt.split a' b) H2 Q := fun d2 q w F2 H2 ev2 wk2 => by
        cases d2 <;> try exact q.elim
        rename_i b
        cases wk2.str
        unfold splD at q
        simp only at q
        split at q
        case isFalse => exact q.elim
        rename_i hz
        refine ⟨a, b, rfl, rfl, hz.1, by rw [sizeLine_eq]; omega, fun p hp => ?_⟩
        exact q p _ F2 _ (ev2.trans ((Evo.refl ev2.le).own hp)) (none_back ev2.hx hp) (none_back ev2.le hp) upd_same (dps_ofStrs _)
      cases hm : m ρ with
      | ok y => rw [hm] at q; exact g2 y q
      | new y => rw [hm] at q; exact g2 _ q
      | exc c => rw [hm] at q; exact q
      | bad => rw [hm] at q; exact q
    cases h : mo ρ with
    | ok d => rw [h] at q; exact go d q
    | new d => rw [h] at q; exact go _ q
    | exc c => rw [h] at q; exact q
    | bad => rw [h] at q; exact q
end
def gMulS : D → D → Rp
  | .str x, .int k => if x.length ≤ 16 ∧ 0 ≤ k ∧ k ≤ 10000 then .ok (.str (Txt.mul x k)) else .bad
  | _, _ => .bad
theorem o_mulS {X : Cx} : OpR X (binaryOp .Mult) (rG gMulS) := by
  intro pins s σ H x y v u Q I rx ry ⟨F, dx, dy, le, wx, wy, q⟩
  cases dx <;> cases dy <;> try exact q.elim
  cases wx.str; cases wy.int
  obtain ⟨⟨h1, h2, h3⟩, q⟩ := if_bad q
  obtain ⟨t, rfl⟩ := rx
  obtain ⟨t', rfl⟩ := ry
  exact SB.mul (mulOk_of 16 1048576 (by omega) (by omega) (by omega) (by decide) (by decide)) fun t' k => ⟨.str _, H, I.tok _, ⟨_, rfl⟩, QD.str le q⟩
variable {S : S0}
def splOf (r : TR S) (sc : Scope) : (e : Expr) → Option (OkE S sc e)
  | .Call (.Attribute (.Name x p) name apos) [a] [] pos => (wOf r sc (.Name x p)).bind fun u => (wOf r sc a).bind fun w =>
      if h : name = "split" ∧ notStar a = true ∧ (apos.endLine == pos.line) = true then some ⟨eSpl u.m w.m, u.lk ++ w.lk, fun cv X W g e => by
        obtain ⟨h2, h3, h4⟩ := h
        subst h2
        exact j_spl (u.ok cv X W g e) (w.ok cv X W g e) h3 rfl h4⟩ else none
  | .BinOp (.Constant (.str t) j p) .Mult b pos => (wOf r sc (.Constant (.str t) j p)).bind fun u => (wOf r sc b).bind fun w => some ⟨e2 gMulS u.m w.m, u.lk ++ w.lk, fun cv X W g e => j_op o_mulS (u.ok cv X W g e) (w.ok cv X W g e)⟩
  | _ => none
def stepE10 (r : TR S) (sc : Scope) (e : Expr) : Option (OkE S sc e) := match splOf r sc e with
  | some x => some x
  | none => stepE9 r sc e
def trE10 (S : S0) : Nat → TR S
  | 0 => ⟨fun _ _ => none, fun _ _ => none, fun _ _ => none⟩
  | n + 1 => ⟨stepE10 (trE10 S n), stepT (trE10 S n), fun _ _ => none⟩
def tr10 (S : S0) (sc : Scope) (body : List Stmt) : Option (OkSs S sc body) := ssOf (trSY S (trE10 S 40) 12) sc body
end U
set_option Elab.async false
set_option linter.all false
set_option maxRecDepth 100000
set_option maxHeartbeats 4000000
/-! defs as values; a suite that gathers answers and returns an index (ext 10) -/
namespace U
open PySem PySem.Spec PyProof.Rows L2
/-! ### f(e, ..), f a local name that holds a def -/
def tCallVS (i : Nat) (f : Addr) (sp : Sp) (E : L2.St → XK) (t : TA) : TE := fun σ H Q => σ[i]? = some (some (.ref f)) ∧ t σ H fun vs H1 => sp (vs ++ []) H1 Q (E σ)
theorem pe_callVS {X : Cx} {CX : CXT} {k i : Nat} {f : Addr} {fd : FuncData} {ps : List Str} {sp : Sp} {E : L2.St → XK} {x : Str} {e : Expr} {es : List Expr} {t : TA} {p pos : Pos}
    (F : FnOk X.prog X.w X.K X.mg X.base CX k f fd ps sp) (hr : Room k X.A) (hk : PySem.W.keepIn X.K (.ref f) = true) (hb : Binds X.K fd ps []) (hx : ∀ σ, PassesAt CX X σ (E σ)) (hN : X.N[i]? = some x) (hv : Vis X.env.scope x) (ha : PA X (e :: es) t)
    (hd : (x == ("__debug__" : Str)) = false) (hcd : (x == ("__classdict__" : Str)) = false)
    (he : starEach (e :: es) X.env = (false, eval e X.env) :: starEach es X.env) (hpl : (backTo pos (starEach es X.env)).any (·.1) = false) : PE X (.Call (.Name x p) (e :: es) [] pos) (tCallVS i f sp E t) := by
  refine ⟨fun pins s σ H Q I h => ?_⟩
  obtain ⟨hs, h⟩ := h
  refine wpAny_Call_Name_kw (thn ((pe_var (pos := p) (i := i) hN hv hd hcd).run pins s σ H (fun v H1 => v = .ref f ∧ H1 = H) I ⟨.ref f, hs, rfl, rfl⟩) fun u s1 ⟨v, H1, I1, r1, ev, eH⟩ => ?_)
  subst ev
  rw [eH] at I1
  cases r1
  refine PySem.W.callWith_K (h₀ := X.base) I.ok.mod.kin hk (thn (ha.run pos pins s1 σ H _ I1 h) fun us s2 ⟨vs, H2, I2, r, q⟩ => ⟨I2.kIn, ?_⟩) he hpl
  exact run_fnSD F hr hb .nil (hx σ) I2 r q
/-- the def that a token stands for -/
def fnAt (fv : List (Str × Nat × (List D → Res))) (n : Nat) : D → Option (List D → Res)
  | .dict [(.int i, .none)] => match fv[i.toNat]? with
    | some p => if p.2.1 = n then some p.2.2 else none
    | none => none
  | _ => none
theorem fnAt_some {fv : List (Str × Nat × (List D → Res))} {n : Nat} {d : D} {f : List D → Res} (h : fnAt fv n d = some f) : ∃ (i : Int) (p : Str × Nat × (List D → Res)), d = .dict [(.int i, .none)] ∧ fv[i.toNat]? = some p ∧ p.2.1 = n ∧ p.2.2 = f := by
  unfold fnAt at h
  split at h
  · split at h
    · rename_i i p hp
      split at h
      · rename_i hn
        cases h
        exact ⟨_, p, rfl, hp, hn, rfl⟩
      · cases h
    · cases h
  · cases h
def eCV (fv : List (Str × Nat × (List D → Res))) (i : Nat) (ms : List Sm) : Sm := fun ρ => match ρ[i]? with
  | some (.fr d) => match fnAt fv ms.length d with
    | some f => (evs ms ρ).bind f
    | none => .bad
  | _ => .bad
/-- what is known of the defs that stand as values -/
def exV (fv : List (Str × Nat × (List D → Res))) (k : Nat) (P : Program) (w : World) (K : PySem.W.Frag) (mg : Str → Option Value) (base : Heap) (cv : Nat → Value) : Prop :=
  ∀ (i : Nat) (p : Str × Nat × (List D → Res)), fv[i]? = some p → (∃ a, gmT[i]? = some a ∧ mg p.1 = some (.ref a)) ∧ Kp P w K mg base cv k p.1 p.2.1 p.2.2
def Tb.sv (T : Tb) (N : List Str) (k : Nat) (fns : List (Str × Nat × (List D → Res))) (fv : List (Str × Nat × (List D → Res))) : S0 := ⟨N, k, fns, T.cls, T.cst, T.sub, T.nc, exV fv k⟩
section
variable {X : Cx} {cv : Nat → Value} {W : WX} {a : Expr} {es : List Expr} {ms : List Sm} {pos : Pos}
theorem j_callV {fv : List (Str × Nat × (List D → Res))} {k i : Nat} {x : Str} {p : Pos} (ex : exV fv k X.prog X.w X.K X.mg X.base cv) (hr : Room k X.A) (tk : Takes X W) (hN : X.N[i]? = some x) (hv : Vis X.env.scope x) (hd : (x == ("__debug__" : Str)) = false) (hcd : (x == ("__classdict__" : Str)) = false)
    (ha : JA X cv W (a :: es) ms) (h1 : notStar a = true) (h2 : es.all notStar = true) : JE X cv W (.Call (.Name x p) (a :: es) [] pos) (eCV fv i ms) := by
  refine ⟨fun pins s σ H Q I hh => ?_⟩
  obtain ⟨ρ, F0, r, q⟩ := hh
  unfold eCV at q
  cases hc : ρ[i]? with
  | none => rw [hc] at q; exact q.elim
  | some c =>
    rw [hc] at q
    cases c with
    | un => exact q.elim
    | ow ds => exact q.elim
    | ob k fs => exact q.elim
    | ro k fs => exact q.elim
    | fr d =>
      simp only at q
      cases hf : fnAt fv ms.length d with
      | none => rw [hf] at q; exact q.elim
      | some f =>
        rw [hf] at q
        simp only at q
        obtain ⟨z, p', rfl, hp, hn, rfl⟩ := fnAt_some hf
        obtain ⟨v, hσ, hdr⟩ := r.cell i _ hc
        cases hdr with
        | @fnc ad j hj =>
          obtain ⟨⟨a', g1, g2⟩, kp⟩ := ex j p' (by simpa using hp)
          rw [hj] at g1; cases g1
          obtain ⟨fa, fd, ps, hm, hl, F, kk, hb⟩ := kp.ok
          rw [g2] at hm; cases hm
          refine (pe_callVS F hr kk hb (fun σ => passAt tk σ) hN hv ha hd hcd (star_cons h1) (star_any h2)).run pins s σ H Q I ⟨hσ, ?_⟩
          refine rd_args r q fun ds vs F1 H1 he ev hd q => ⟨F1, ds, ev.le, by rw [List.append_nil]; exact hd, by rw [evs_len he]; exact hn.symm, ?_⟩
          exact GotE.slots (fun c H' h => h) q
end
/-! ### try .. except X as e: found = [..]; ..; return (found + [..]).index(True) -/
section
variable {X : Cx} {cv : Nat → Value} {n : List Nat} {i j : Nat}
theorem jx_bl {b : Bool} {k : Nat} {p : Pos} : JX X cv n i (.Constant (.bool b) k p) (xC (.bl b)) := jx_c fun Y => pe_bl
inductive SuR (X : Cx) (cv : Nat → Value) (n : List Nat) (i j : Nat) (x : Str) : List Stmt → List (List Xm) → Prop
  | ret {es : List Expr} {ms : List Xm} {p2 lp bp apos tp cpos rp : Pos} {k : Nat} (h : JXs X cv n i es ms) (hl : ms.length ≤ 100) (ha : (apos.endLine == cpos.line) = true) : SuR X cv n i j x [.Return (some (.Call (.Attribute (.BinOp (.Name x p2) .Add (.List es lp) bp) "index" apos) [.Constant (.bool true) k tp] [] cpos)) rp] [ms]
  | cons {es : List Expr} {ms : List Xm} {p p2 lp bp pos : Pos} {rest : List Stmt} {mr : List (List Xm)} (h : JXs X cv n i es ms) (hl : ms.length ≤ 100) (r : SuR X cv n i j x rest mr) : SuR X cv n i j x (.Assign [.Name x p] (.BinOp (.Name x p2) .Add (.List es lp) bp) pos :: rest) (ms :: mr)
section
variable {x : Str} (hN : X.N.Nodup) (hj : X.N[j]? = some x) (hx : Loc X.env.scope x) (hfn : X.env.scope.names.lookup x = some .local) (hv : Vis X.env.scope x) (hdb : (x == ("__debug__" : Str)) = false) (hcd : (x == ("__classdict__" : Str)) = false) (hij : i ≠ j) (a : Addr) (oe : Obj) (c : Nat) (pn : List (Addr × Obj)) (hc : c ∈ n) (hz : Zc (cv c) none oe) (hf : ∃ vs, oe.data = .fields vs) (F H0 : Hp) (σ0 : L2.St) (le0 : Ex F H0) (hi0 : σ0[i]? = some (some (.ref a))) (hlen : j < σ0.length)
include hN hj hx hfn hv hdb hcd hij hc hz hf le0 hi0 hlen
theorem su_ret (hu : X.A.units + 65 < cLine) {sts : List Stmt} {mss : List (List Xm)} (hsu : SuR X cv n i j x sts mss) : PSs (X.suite a ((a, oe) :: pn)) sts (fun Dn σ H => ∃ bs, Sst j F H0 σ0 bs σ H ∧ ∃ bs', evX c mss.flatten = some bs' ∧ bs.length + bs'.length ≤ 1000 ∧ SeqAt.shaped (.list ((bs ++ bs').map .bool)) = true ∧ ∃ k, ixP (.bool true) ((bs ++ bs').map .bool) = some k ∧ ∀ F1 H1, Evo F H0 F1 H1 → Dn.rt (.int (k : Nat)) H1) := by
  induction hsu with
  | @ret es ms p2 lp bp apos tp cpos rp k h hl ha =>
    refine PSs.imp (pss_one (ps_ret (X := X.suite a ((a, oe) :: pn)) (pe_bm (X := X.suite a ((a, oe) :: pn)) PySem.F.plainAttrs_list PySem.F.slot_list_index PySem.F.type_list_index (mt_indexD (X := X.suite a ((a, oe) :: pn)) hu) (pe_op (X := X.suite a ((a, oe) :: pn)) o_add (pe_var (X := X.suite a ((a, oe) :: pn)) hj hv hdb hcd) (pe_lst (h a oe c pn hc hz hf))) (pa_cons pe_bl pa_nil) rfl rfl ha rfl rfl))) fun Dn σ H hh => ?_
    obtain ⟨bs, ⟨q0, F1, xs, rfl, ev, h0, hF1, hH, hd⟩, bs', he, hn, hsh, kx, hk, q⟩ := hh
    simp only [List.flatten_cons, List.flatten_nil, List.append_nil] at he
    refine ⟨.ref q0, by rw [List.getElem?_set_self hlen], ?_⟩
    refine ⟨by rw [List.getElem?_set_ne (Ne.symm hij)]; exact hi0, bs', he, by rw [List.length_map, sizeLine_eq]; omega, fun q1 hq1 => ?_⟩
    have evo1 : Evo F1 H F1 (upd H q1 (.lst (bs'.map V.bl))) := (Evo.refl ev.le).own hq1
    have w1 : Wk F1 (upd H q1 (.lst (bs'.map V.bl))) (.ref q0) (.list (bs.map .bool)) := Wk.evo evo1 (.inr ⟨q0, xs, _, rfl, rfl, hH, hd⟩)
    have w2 : Wk F1 (upd H q1 (.lst (bs'.map V.bl))) (.ref q1) (.list (bs'.map .bool)) := .inr ⟨q1, _, _, rfl, rfl, upd_same, dps_bools bs'⟩
    refine ⟨F1, _, _, evo1.le, w1, w2, ?_⟩
    show GotP F1 _ _ (if (bs.map PyData.bool).length + (bs'.map PyData.bool).length ≤ 100000 then Rp.new (bs.map PyData.bool ++ bs'.map PyData.bool) else .bad)
    rw [if_pos (by simp only [List.length_map] at hn ⊢; omega)]
    intro p3 xs3 F3 H3 ev3 g1 g2 g3 g4
    have wk3 : Wk F3 H3 (.ref p3) (.list ((bs ++ bs').map .bool)) := .inr ⟨p3, xs3, _, rfl, rfl, g3, by rw [List.map_append]; exact g4⟩
    obtain ⟨p, ys, e, hp, hy⟩ := wk3.list ev3.le
    cases e
    refine ⟨.inl ⟨rfl, ys, .inl hp⟩, ?_⟩
    obtain ⟨⟨z, z1, z2⟩, z3⟩ := ixP_spec (.bool true) hk
    exact ⟨p3, .bl true, .bool true, _, kx, z, rfl, rfl, (Wk.dp ev3.le wk3).dp (SeqAt.canLay_of_shaped hsh), .bl true, hsh, rfl, z1, z2, z3, q F3 H3 ((ev.trans evo1).trans ev3)⟩
  | @cons es ms p p2 lp bp pos rest mr h hl r ih =>
    refine PSs.imp (pss_cons (ps_set (X := X.suite a ((a, oe) :: pn)) hN hj hx (pe_op (X := X.suite a ((a, oe) :: pn)) o_add (pe_var (X := X.suite a ((a, oe) :: pn)) hj hv hdb hcd) (pe_lst (h a oe c pn hc hz hf))) (sw_no rfl) (.inr hfn)) ih) fun Dn σ H hh => ?_
    obtain ⟨bs, ⟨q0, F1, xs, rfl, ev, h0, hF1, hH, hd⟩, bs', he, hn, hsh, kx, hk, q⟩ := hh
    rw [List.flatten_cons] at he
    obtain ⟨b1, b2, e1, e2, rfl⟩ := evX_app he
    refine ⟨.ref q0, by rw [List.getElem?_set_self hlen], ?_⟩
    refine ⟨by rw [List.getElem?_set_ne (Ne.symm hij)]; exact hi0, b1, e1, by rw [List.length_map, sizeLine_eq]; simp only [List.length_append] at hn; omega, fun q1 hq1 => ?_⟩
    have evo1 : Evo F1 H F1 (upd H q1 (.lst (b1.map V.bl))) := (Evo.refl ev.le).own hq1
    have w1 : Wk F1 (upd H q1 (.lst (b1.map V.bl))) (.ref q0) (.list (bs.map .bool)) := Wk.evo evo1 (.inr ⟨q0, xs, _, rfl, rfl, hH, hd⟩)
    have w2 : Wk F1 (upd H q1 (.lst (b1.map V.bl))) (.ref q1) (.list (b1.map .bool)) := .inr ⟨q1, _, _, rfl, rfl, upd_same, dps_bools b1⟩
    refine ⟨F1, _, _, evo1.le, w1, w2, ?_⟩
    show GotP F1 _ _ (if (bs.map PyData.bool).length + (b1.map PyData.bool).length ≤ 100000 then Rp.new (bs.map PyData.bool ++ b1.map PyData.bool) else .bad)
    rw [if_pos (by simp only [List.length_map, List.length_append] at hn ⊢; omega)]
    intro p3 xs3 F3 H3 ev3 g1 g2 g3 g4
    have evA : Evo F H0 F3 H3 := (ev.trans evo1).trans ev3
    refine ⟨bs ++ b1, ⟨p3, F3, xs3, by rw [List.set_set], evA, none_back (ev.trans evo1).hx g1, g2, g3, by rw [List.map_append]; exact g4⟩, b2, e2, by simp only [List.length_append] at hn ⊢; omega, by rw [List.append_assoc]; exact hsh, kx, by rw [List.append_assoc]; exact hk, q⟩
theorem su_firstR (hu : X.A.units + 65 < cLine) {es : List Expr} {ms : List Xm} {p lp pos : Pos} {sts : List Stmt} {mss : List (List Xm)} (h : JXs X cv n i es ms) (hsu : SuR X cv n i j x sts mss) : PSs (X.suite a ((a, oe) :: pn)) (.Assign [.Name x p] (.List es lp) pos :: sts) (fun Dn σ H => σ = σ0 ∧ H = H0 ∧ ∃ bs, evX c (ms ++ mss.flatten) = some bs ∧ bs.length ≤ 1000 ∧ SeqAt.shaped (.list (bs.map .bool)) = true ∧ ∃ k, ixP (.bool true) (bs.map .bool) = some k ∧ ∀ F1 H1, Evo F H0 F1 H1 → Dn.rt (.int (k : Nat)) H1) := by
  refine PSs.imp (pss_cons (ps_set (X := X.suite a ((a, oe) :: pn)) hN hj hx (pe_lst (h a oe c pn hc hz hf)) (sw_no rfl) (.inr hfn)) (su_ret hN hj hx hfn hv hdb hcd hij a oe c pn hc hz hf F H0 σ0 le0 hi0 hlen hu hsu)) fun Dn σ H hh => ?_
  obtain ⟨rfl, rfl, bs, he, hn, hsh, kx, hk, q⟩ := hh
  obtain ⟨b1, b2, e1, e2, rfl⟩ := evX_app he
  refine ⟨hi0, b1, e1, by rw [List.length_map, sizeLine_eq]; simp only [List.length_append] at hn; omega, fun q1 hq1 => ?_⟩
  exact ⟨b1, ⟨q1, F, _, rfl, (Evo.refl le0).own hq1, hq1, none_back le0 hq1, upd_same, dps_bools b1⟩, b2, e2, by simp only [List.length_append] at hn; omega, hsh, kx, hk, q⟩
end
end
def sTryI (sub : Nat → Nat → Bool) (n : List Nat) (body : Ss) (k i j : Nat) (ms : List Xm) : Ss := fun ρ => match body ρ with
  | .ex c ρ' => if sub c k = true then (match evX c ms with
    | some bs => if c ∈ n ∧ i < ρ'.length ∧ j < ρ'.length ∧ bs.length ≤ 1000 ∧ SeqAt.shaped (.list (bs.map .bool)) = true then (match ixP (.bool true) (bs.map .bool) with
      | some q => .rt (.int (q : Nat))
      | none => .bad) else .bad
    | none => .bad) else .bad
  | f => f
theorem js_tryI {X : Cx} {cv : Nat → Value} {W : WX} {sub : Nat → Nat → Bool} {n : List Nat} {body : List Stmt} {mb : Ss} {pos np pos' p lp apos : Pos} {y nm x : Str} {k i j : Nat} {es : List Expr} {ms : List Xm} {sts : List Stmt} {mss : List (List Xm)} (hu : X.A.units + 65 < cLine) (hs : X.stack = X.env :: X.outer) (hf : X.env.frame = some X.env.locals) (hN : X.N.Nodup) (tk : Takes X W) (C : Clss X.K cv sub n)
    (hb : ∀ (W : WX) (pn : List (Addr × Obj)) (xe : Value → Shared → Prop), Takes (X.tr pn xe) W → PassesOwn (model X.prog X.w) X.A X.env xe → JFs (X.tr pn xe) cv W body mb) (hk : k ∈ n) (hc : Names X y (cv k)) (hi : X.N[i]? = some nm) (hln : X.env.kindOf nm = some .local)
    (hj : X.N[j]? = some x) (hx : Loc X.env.scope x) (hfn : X.env.scope.names.lookup x = some .local) (hv : Vis X.env.scope x) (hdb : (x == ("__debug__" : Str)) = false) (hcd : (x == ("__classdict__" : Str)) = false) (hij : i ≠ j) (h1 : JXs X cv n i es ms) (h2 : SuR X cv n i j x sts mss) :
    JF X cv W (.Try body [.ExceptHandler (some (.Name y np)) (some nm) (.Assign [.Name x p] (.List es lp) apos :: sts) pos'] [] [] pos) (sTryI sub n mb k i j (ms ++ mss.flatten)) := fun B => by
  let ts : Addr → Value → Option Addr → TS := fun a cls d Dn σ H => ∃ c F bs, cls = cv c ∧ d = none ∧ c ∈ n ∧ Ex F H ∧ σ[i]? = some (some (.ref a)) ∧ j < σ.length ∧ evX c (ms ++ mss.flatten) = some bs ∧ bs.length ≤ 1000 ∧ SeqAt.shaped (.list (bs.map .bool)) = true ∧ ∃ k, ixP (.bool true) (bs.map .bool) = some k ∧ ∀ F1 H1, Evo F H F1 H1 → Dn.rt (.int (k : Nat)) H1
  have L : HdsAs X [.ExceptHandler (some (.Name y np)) (some nm) (.Assign [.Name x p] (.List es lp) apos :: sts) pos'] [(cv k, i, ts)] := by
    refine .cons hc hi hln (fun a oe cls d pn hz hfl => ⟨fun pins s σ H Dn I hh => ?_⟩) .nil
    obtain ⟨c, F, bs, rfl, rfl, hcn, le, hia, hjl, he, hn, hsh, kx, hk, q⟩ := hh
    exact (su_firstR hN hj hx hfn hv hdb hcd hij a oe c pn hcn hz hfl F H σ le hia hjl hu h1 h2).run pins s σ H Dn I ⟨rfl, rfl, bs, he, hn, hsh, kx, hk, q⟩
  refine PS.imp (ps_try_all (tb := fun W => rdF cv W B mb) hs hf hN tk (fun W pn xe t po => hb W pn xe t po B) L) fun Dn σ H ⟨ρ, F, r, q⟩ => ⟨ρ, F, r, ?_⟩
  unfold sTryI at q
  cases h : mb ρ with
  | nx ρ' => rw [h] at q; exact q
  | rt d => rw [h] at q; exact q
  | rn d => rw [h] at q; exact q
  | rm d ρ' => rw [h] at q; exact q
  | rb k fs => rw [h] at q; exact q
  | bad => rw [h] at q; exact q
  | ex c ρ' =>
    rw [h] at q
    simp only at q
    intro σ' F' H' r'
    split at q
    case isFalse => exact q.elim
    rename_i hsub
    cases he : evX c (ms ++ mss.flatten) with
    | none => rw [he] at q; exact q.elim
    | some bs =>
      rw [he] at q
      simp only at q
      split at q
      case isFalse => exact q.elim
      rename_i hz
      obtain ⟨hcn, hil, hjl, hbl, hsh⟩ := hz
      cases hix : ixP (.bool true) (bs.map .bool) with
      | none => rw [hix] at q; exact q.elim
      | some kx =>
        rw [hix] at q
        refine ⟨sub c k, (C.is c k hcn hk).2, fun _ a ha => ?_, fun hb => by rw [hsub] at hb; cases hb⟩
        have hil' : i < σ'.length := by rw [← r'.rel.len]; exact hil
        have hjl' : j < σ'.length := by rw [← r'.rel.len]; exact hjl
        exact ⟨c, F', bs, rfl, rfl, hcn, r'.rel.le, by rw [List.getElem?_set_self hil'], by simpa using hjl', he, hbl, hsh, kx, hix, fun F1 H1 ev => q (.int (kx : Nat)) F1 H1 (r'.evo.trans ev) (.int _)⟩
/-! ### the translation -/
section
variable {S : S0}
def xOfI (S : S0) (sc : Scope) (i : Nat) : (e : Expr) → Option (OkX S sc i e)
  | .Constant (.bool b) k p => some ⟨xC (.bl b), fun cv X W g gx h => jx_bl⟩
  | e => xOf S sc i 12 e
def xsOfI (S : S0) (sc : Scope) (i : Nat) : (es : List Expr) → Option { ms : List Xm // ∀ cv X W, Gd S cv X W → Gx S cv X → X.env.scope = sc → JXs X cv S.nc i es ms }
  | [] => some ⟨[], fun cv X W g gx h => jxs_nil⟩
  | e :: es => (xOfI S sc i e).bind fun m => (xsOfI S sc i es).bind fun ms => if hs : notStar e = true then some ⟨m.m :: ms.1, fun cv X W g gx h => jxs_cons (m.ok cv X W g gx h) hs (ms.2 cv X W g gx h)⟩ else none
def srOf (S : S0) (sc : Scope) (i j : Nat) (x : Str) : (sts : List Stmt) → Option { mss : List (List Xm) // ∀ cv X W, Gd S cv X W → Gx S cv X → X.env.scope = sc → SuR X cv S.nc i j x sts mss }
  | [.Return (some (.Call (.Attribute (.BinOp (.Name x2 p2) .Add (.List es lp) bp) at_ apos) [.Constant (.bool true) k tp] [] cpos)) rp] => (xsOfI S sc i es).bind fun ms => if hz : x2 = x ∧ at_ = "index" ∧ ms.1.length ≤ 100 ∧ (apos.endLine == cpos.line) = true then some ⟨[ms.1], fun cv X W g gx h => by
      obtain ⟨z1, z2, z3, z4⟩ := hz
      subst z1 z2
      exact .ret (ms.2 cv X W g gx h) z3 z4⟩ else none
  | .Assign [.Name x1 p] (.BinOp (.Name x2 p2) .Add (.List es lp) bp) pos :: rest => (xsOfI S sc i es).bind fun ms => (srOf S sc i j x rest).bind fun mr => if hz : x1 = x ∧ x2 = x ∧ ms.1.length ≤ 100 then some ⟨ms.1 :: mr.1, fun cv X W g gx h => by
      obtain ⟨z1, z2, z3⟩ := hz
      subst z1 z2
      exact .cons (ms.2 cv X W g gx h) z3 (mr.2 cv X W g gx h)⟩ else none
  | _ => none
def tryIOf (t : TS0 S) (sc : Scope) : (st : Stmt) → Option (OkS S sc st)
  | .Try body [.ExceptHandler (some (.Name y np)) (some nm) (.Assign [.Name x p] (.List es lp) apos :: sts) pos'] [] [] pos =>
      let i := S.N.findIdx (· == nm)
      (ssOf t sc body).bind fun b => (slotOf S sc x).bind fun j => (xsOfI S sc i es).bind fun ms => (srOf S sc i j.1 x sts).bind fun mr =>
        match hf : S.cls.find? (fun q => q.1 == y) with
        | none => none
        | some q => if hz : q.2 ∈ S.nc ∧ glB sc y = true ∧ S.N[i]? = some nm ∧ isLocB sc nm = true ∧ isLocB sc x = true ∧ locB sc x = true ∧ i ≠ j.1 then some ⟨sTryI S.sub S.nc b.m q.2 i j.1 (ms.1 ++ mr.1.flatten), fun cv X W g gx h => by
            obtain ⟨z1, z2, z3, z4, z5, z6, z7⟩ := hz
            obtain ⟨C, h1, h2⟩ := g.cls q (List.mem_of_find?_eq_some hf)
            have hx : q.1 = y := by simpa using List.find?_some hf
            rw [hx] at h2
            exact js_tryI (by have := g.hu; omega) gx.stk gx.fr g.nd g.tk gx.cl (fun W' pn xe tk po => b.ok cv _ W' (g.tr pn xe tk) ⟨gx.fnT, po, gx.stk, gx.fr, gx.cl⟩ h) z1 ⟨Gd.gl (cv := cv) (W := W) h z2, (gl_of z2).2, .inl (by rw [h1]; exact h2.gl)⟩ (by rw [g.nN]; exact z3) (by unfold PySem.Env.kindOf; rw [h]; exact isLoc_of z4)
              (by rw [g.nN]; exact j.2.1) (by rw [h]; exact loc_of z6) (by rw [h]; exact isLoc_of z5) (by rw [h]; exact j.2.2.1) j.2.2.2.1 j.2.2.2.2 z7 (ms.2 cv X W g gx h) (mr.2 cv X W g gx h)⟩ else none
  | _ => none
end
section
variable {T : Tb} {N : List Str} {lv : Nat} {fns fv : List (Str × Nat × (List D → Res))}
def fIx (fv : List (Str × Nat × (List D → Res))) (x : Str) : Option { i : Nat // ∃ p, fv[i]? = some p ∧ p.1 = x } :=
  let i := fv.findIdx (·.1 == x)
  match hf : fv[i]? with
  | some p => if hp : p.1 = x then some ⟨i, p, hf, hp⟩ else none
  | none => none
def fnvOf (sc : Scope) : (e : Expr) → Option (OkE (Tb.sv T N lv fns fv) sc e)
  | .Name x p => if hg : glB sc x = true then (fIx fv x).map fun i => ⟨eC (tokD i.1), [], fun cv X W g e => by
      obtain ⟨q, h1, h2⟩ := i.2
      obtain ⟨⟨a, g1, g2⟩, _⟩ := g.ext i.1 q h1
      rw [h2] at g2
      exact j_c (v := .ref a) (pe_glob (Gd.gl (cv := cv) (W := W) e hg) g2 rfl (gl_of hg).2) fun F => .fnc _ g1⟩ else none
  | _ => none
def callVOf (r : TR (Tb.sv T N lv fns fv)) (sc : Scope) : (e : Expr) → Option (OkE (Tb.sv T N lv fns fv) sc e)
  | .Call (.Name x p) (e :: es) [] pos => (slotOf (Tb.sv T N lv fns fv) sc x).bind fun i => (aOf r sc (e :: es)).map fun a => ⟨eCV fv i.1 a.ms, a.lk, fun cv X W g h =>
      j_callV (k := lv) g.ext g.room g.tk (by rw [g.nN]; exact i.2.1) (by rw [h]; exact i.2.2.1) i.2.2.2.1 i.2.2.2.2 (a.ok cv X W g h) (all_cons a.st).1 (all_cons a.st).2⟩
  | _ => none
def stepE11 (r : TR (Tb.sv T N lv fns fv)) (sc : Scope) (e : Expr) : Option (OkE (Tb.sv T N lv fns fv) sc e) := match fnvOf sc e with
  | some x => some x
  | none => match callVOf r sc e with
    | some x => some x
    | none => stepE10 r sc e
def trE11 (T : Tb) (N : List Str) (lv : Nat) (fns fv : List (Str × Nat × (List D → Res))) : Nat → TR (Tb.sv T N lv fns fv)
  | 0 => ⟨fun _ _ => none, fun _ _ => none, fun _ _ => none⟩
  | n + 1 => ⟨stepE11 (trE11 T N lv fns fv n), stepT (trE11 T N lv fns fv n), fun _ _ => none⟩
def stepS11 (r : TR (Tb.sv T N lv fns fv)) (t : TS0 (Tb.sv T N lv fns fv)) (sc : Scope) (st : Stmt) : Option (OkS (Tb.sv T N lv fns fv) sc st) := match tryIOf t sc st with
  | some x => some x
  | none => stepY r t sc st
def trS11 (r : TR (Tb.sv T N lv fns fv)) : Nat → TS0 (Tb.sv T N lv fns fv)
  | 0 => ⟨fun _ _ => none⟩
  | n + 1 => ⟨stepS11 r (trS11 r n)⟩
end
def tr11 (T : Tb) (N : List Str) (lv : Nat) (fns fv : List (Str × Nat × (List D → Res))) (sc : Scope) (body : List Stmt) : Option (OkSs (Tb.sv T N lv fns fv) sc body) := ssOf (trS11 (trE11 T N lv fns fv 40) 12) sc body
/-! ### the rule for a def -/
theorem def_okV {P : Program} {w : World} {K : PySem.W.Frag} {mg : Str → Option Value} {base : Heap} {cv : Nat → Value} {T : Tb} {k : Nat} {x qual : Str} {params : Arguments} {body : List Stmt} {scope : Scope} {f : Addr} {fd : FuncData} {N ps : List Str} {fns fv : List (Str × Nat × (List D → Res))} {m : Ss}
    (F : FunD K x qual params body scope [] [] f fd) (B : Bs T cv K mg) (S : FnScope N ps scope) (o : Option (OkSs (T.sv N k fns fv) scope body)) (ht : o.map (·.m) = some m) (A : AllKp P w K mg base cv k fns) (ex : exV fv k P w K mg base cv) : FnOk P w K mg base (L2.CX P w) (k + 1) f fd ps (spOf cv ps.length (runF N.length m)) := by
  obtain ⟨r, hr, rfl⟩ := Option.map_eq_some_iff.mp ht
  refine FunD.ok F S (fun vs H Q E h => spOf_len h) fun cdv Ar outer s H vs Q E room hsp => ?_
  obtain ⟨F0, ds, le, hd, hl, q⟩ := hsp
  let X := cxOf (L2.CX P w) P w K mg base N qual scope f cdv Ar outer s H E
  let W : WX := fun c d _ H' => E c d H'
  have tk : Takes X W := takes_of rfl rfl rfl rfl
  have g : Gd (T.sv N k fns fv) cv X W := ⟨rfl, S.nd, rfl, room, tk, B.blt, fun p hp => ⟨(A.at p hp).ok⟩, B.cls, B.cst, ex⟩
  have gx : Gx (T.sv N k fns fv) cv X := ⟨fun _ => rfl, passes_of rfl, rfl, rfl, B.cl⟩
  refine ⟨rdF cv W ⟨F0, H, none⟩ r.m, r.ok cv X W g gx rfl ⟨F0, H, none⟩, ⟨_, F0, rel_start (N := N) le hd, ?_⟩⟩
  have q' : GotE cv W F0 H [] Q (runF N.length r.m ds) := q
  unfold runF at q'
  cases h : r.m (ds.map .fr ++ List.replicate (N.length - ds.length) .un) with
  | nx ρ => rw [h] at q'; exact fun σ F1 H1 r1 => q' .non F1 H1 r1.evo .non
  | rt d => rw [h] at q'; exact fun v F1 H1 ev hv => q' v F1 H1 ev hv
  | rn d => rw [h] at q'; exact fun p xs F1 H1 ev h1 h2 h3 h4 => q' p xs F1 H1 ev h1 h2 h3 h4
  | rm d ρ => rw [h] at q'; exact fun v σ F1 H1 r1 hv => q' v F1 H1 r1.evo hv
  | rb k fs => rw [h] at q'; exact q'.elim
  | ex c ρ => rw [h] at q'; exact fun σ F1 H1 r1 => q' F1 H1 r1.evo
  | bad => rw [h] at q'; exact q'
theorem kp_ofV {P : Program} {w : World} {K : PySem.W.Frag} {mg : Str → Option Value} {base : Heap} {cv : Nat → Value} {T : Tb} {k n : Nat} {x qual : Str} {params : Arguments} {body : List Stmt} {scope : Scope} {f : Addr} {fd : FuncData} {N ps : List Str} {fns fv : List (Str × Nat × (List D → Res))} {m : Ss} {fm : List D → Res}
    (F : FunD K x qual params body scope [] [] f fd) (hg : mg x = some (.ref f)) (B : Bs T cv K mg) (S : FnScope N ps scope) (hn : ps.length = n) (hb : ∀ (kV doc pm : Value) (an : Option Addr) (cdv ct : Value) (us : List Value), us.length = ps.length → bindArgs (PySem.W.fnOf x qual params body scope .none kV doc pm an cdv ct) ⟨us, []⟩ = pure (ps.zip us))
    (o : Option (OkSs (T.sv N k fns fv) scope body)) (ht : o.map (·.m) = some m) (hf : fm = runF N.length m) (A : AllKp P w K mg base cv k fns) (ex : exV fv k P w K mg base cv) : Kp P w K mg base cv (k + 1) x n fm := by
  subst hf hn
  exact ⟨f, fd, ps, hg, rfl, def_okV F B S o ht A ex, F.kp, F.bindsN hb⟩
theorem ex_of {P : Program} {w : World} {K : PySem.W.Frag} {mg : Str → Option Value} {base : Heap} {cv : Nat → Value} {k : Nat} {fv : List (Str × Nat × (List D → Res))} (hg : ∀ x ∈ gmN, mg x = some (.ref (He.ga K x))) (hm : gmN.map (He.ga K) = gmT) (hn : fv.map (·.1) = gmN) (A : AllKp P w K mg base cv k fv) : exV fv k P w K mg base cv := fun i p hp => by
  have h1 : gmN[i]? = some p.1 := by rw [← hn, List.getElem?_map, hp]; rfl
  refine ⟨⟨He.ga K p.1, ?_, hg p.1 (List.mem_of_getElem? h1)⟩, A.at p (List.mem_of_getElem? hp)⟩
  rw [← hm, List.getElem?_map, h1]; rfl
end U
set_option Elab.async false
set_option linter.all false
set_option maxRecDepth 100000
set_option maxHeartbeats 4000000
namespace U
open PySem PySem.Spec PyProof.Rows L2
/-! ### the layer's forms, reckoned: plain equations (nr keeps simp from taking them as conversions, which the kernel would have to run) -/
theorem nr {α : Sort _} {a b : α} (h : a = b) : a = b := h
def cV : Option Cell → Res
  | some (.fr d) => .ok d
  | _ => .bad
def cK : Option Cell → Res
  | some (.fr d) => .ok d
  | some (.ow ds) => .ok (.list ds)
  | _ => .bad
theorem cV_fr (d : D) : cV (some (.fr d)) = .ok d := nr rfl
theorem cK_fr (d : D) : cK (some (.fr d)) = .ok d := nr rfl
theorem cK_ow (d : List D) : cK (some (.ow d)) = .ok (.list d) := nr rfl
theorem eV_q (i : Nat) (ρ : Rho) : eV i ρ = cV ρ[i]? := by
  unfold eV cV
  cases ρ[i]? with
  | none => rfl
  | some c => cases c <;> rfl
theorem eK_q (i : Nat) (ρ : Rho) : eK i ρ = cK ρ[i]? := by
  unfold eK cK
  cases ρ[i]? with
  | none => rfl
  | some c => cases c <;> rfl
theorem eC_q (d : D) (ρ : Rho) : eC d ρ = .ok d := nr rfl
theorem e1_q (g : D → Rp) (a : Sm) (ρ : Rho) : e1 g a ρ = (a ρ).bind fun x => (g x).up := nr rfl
theorem e2_q (g : D → D → Rp) (a b : Sm) (ρ : Rho) : e2 g a b ρ = (a ρ).bind fun x => (b ρ).bind fun y => (g x y).up := nr rfl
theorem eL_q (g : List D → Rp) (ms : List Sm) (ρ : Rho) : eL g ms ρ = (evs ms ρ).bind fun ds => (g ds).up := nr rfl
theorem eF_q (f : List D → Res) (ms : List Sm) (ρ : Rho) : eF f ms ρ = (evs ms ρ).bind f := nr rfl
theorem eAnd_q (a b : Sm) (ρ : Rho) : eAnd a b ρ = (a ρ).bind fun x => ifT (truth x) (b ρ) (.ok x) := nr rfl
theorem eOr_q (a b : Sm) (ρ : Rho) : eOr a b ρ = (a ρ).bind fun x => ifT (truth x) (.ok x) (b ρ) := nr rfl
theorem eIf_q (c a b : Sm) (ρ : Rho) : eIf c a b ρ = (c ρ).bind fun x => ifT (truth x) (a ρ) (b ρ) := nr rfl
theorem eTup_q (ms : List Sm) (ρ : Rho) : eTup ms ρ = (evs ms ρ).bind fun ds => .ok (.tuple ds) := nr rfl
theorem eLst_q (ms : List Sm) (ρ : Rho) : eLst ms ρ = (evs ms ρ).bind fun ds => .new ds := nr rfl
def chK (r : Rp) (k : D → Rp) (z : Res) : Res := match r with
  | .ok (.bool true) => z.bind fun z => (k z).up
  | .ok (.bool false) => .ok (.bool false)
  | _ => .bad
theorem chK_t (k : D → Rp) (z : Res) : chK (.ok (.bool true)) k z = z.bind fun z => (k z).up := nr rfl
theorem chK_f (k : D → Rp) (z : Res) : chK (.ok (.bool false)) k z = .ok (.bool false) := nr rfl
theorem eChain_q (g g' : D → D → Rp) (a b c : Sm) (ρ : Rho) : eChain g g' a b c ρ = (a ρ).bind fun x => (b ρ).bind fun y => chK (g x y) (g' y) (c ρ) := by
  unfold eChain chK
  rfl
def boK (k : Option Int → Res) : D → Res
  | .int i => k (some i)
  | _ => .bad
theorem boK_i (k : Option Int → Res) (i : Int) : boK k (.int i) = k (some i) := nr rfl
theorem bindO_n (ρ : Rho) (k : Option Int → Res) : bindO none ρ k = k none := nr rfl
theorem bindO_s (m : Sm) (ρ : Rho) (k : Option Int → Res) : bindO (some m) ρ k = (m ρ).bind (boK k) := by
  unfold bindO boK
  rfl
theorem eSl_q (ma : Sm) (lo hi : Option Sm) (ρ : Rho) : eSl ma lo hi ρ = (ma ρ).bind fun x => bindO lo ρ fun l => bindO hi ρ fun h => (gSl x l h).up := nr rfl
def fzK (ρ : Rho) (i : Nat) : Option Cell → Rho
  | some (.ow ds) => ρ.set i (.fr (.list ds))
  | _ => ρ
theorem fzK_ow (ρ : Rho) (i : Nat) (ds : List D) : fzK ρ i (some (.ow ds)) = ρ.set i (.fr (.list ds)) := nr rfl
theorem fzK_fr (ρ : Rho) (i : Nat) (d : D) : fzK ρ i (some (.fr d)) = ρ := nr rfl
theorem fzK_un (ρ : Rho) (i : Nat) : fzK ρ i (some .un) = ρ := nr rfl
theorem frz1_q (ρ : Rho) (i : Nat) : frz1 ρ i = fzK ρ i ρ[i]? := by
  unfold frz1 fzK
  rfl
theorem sSeq_q (a b : Ss) (ρ : Rho) : sSeq a b ρ = (a ρ).bind b := nr rfl
theorem sSet_q (i : Nat) (lk : List Nat) (m : Sm) (ρ : Rho) : sSet i lk m ρ = (m (frz ρ lk)).fl (frz ρ lk) (fun d => .nx ((frz ρ lk).set i (.fr d))) (fun ds => .nx ((frz ρ lk).set i (.ow ds))) := nr rfl
def tpK : Option Rho → Fl
  | some ρ => .nx ρ
  | none => .bad
theorem tpK_s (ρ : Rho) : tpK (some ρ) = .nx ρ := nr rfl
theorem sTup_q (is lk : List Nat) (m : Sm) (ρ : Rho) : sTup is lk m ρ = (m (frz ρ lk)).fl (frz ρ lk) (fun d => tpK (bindT (.tp is) d (frz ρ lk))) (fun _ => .bad) := by
  unfold sTup tpK
  rfl
theorem sRet_q (lk : List Nat) (m : Sm) (ρ : Rho) : sRet lk m ρ = (m (frz ρ lk)).fl (frz ρ lk) .rt .rn := nr rfl
def rvK : Option Cell → Fl
  | some (.fr d) => .rt d
  | some (.ow ds) => .rn ds
  | _ => .bad
theorem rvK_fr (d : D) : rvK (some (.fr d)) = .rt d := nr rfl
theorem rvK_ow (d : List D) : rvK (some (.ow d)) = .rn d := nr rfl
theorem sRetV_q (i : Nat) (ρ : Rho) : sRetV i ρ = rvK ρ[i]? := by
  unfold sRetV rvK
  rfl
theorem sExpr_q (lk : List Nat) (m : Sm) (ρ : Rho) : sExpr lk m ρ = (m (frz ρ lk)).fl (frz ρ lk) (fun _ => .nx (frz ρ lk)) (fun _ => .nx (frz ρ lk)) := nr rfl
def ifE (b : Bool) (x y : Fl) : Fl := match b with
  | true => x
  | false => y
theorem ifE_t (x y : Fl) : ifE true x y = x := nr rfl
theorem ifE_f (x y : Fl) : ifE false x y = y := nr rfl
theorem sIf_q (lk : List Nat) (mc : Sm) (a b : Ss) (ρ : Rho) : sIf lk mc a b ρ = (mc (frz ρ lk)).fl (frz ρ lk) (fun d => ifF (truth d) (a (frz ρ lk)) (b (frz ρ lk))) (fun ds => ifE ds.isEmpty (b (frz ρ lk)) (a (frz ρ lk))) := by
  unfold sIf ifE
  simp only
  congr 1
  funext ds
  cases ds.isEmpty <;> rfl
def apK (i : Nat) (m : Sm) (ρ : Rho) : Option Cell → Fl
  | some (.ow ds) => if ds.length < 100000 then (m ρ).fl ρ (fun d => .nx (ρ.set i (.ow (ds ++ [d])))) (fun es => .nx (ρ.set i (.ow (ds ++ [.list es])))) else .bad
  | _ => .bad
theorem apK_ow {ds : List D} (i : Nat) (m : Sm) (ρ : Rho) (h : ds.length < 100000) : apK i m ρ (some (.ow ds)) = (m ρ).fl ρ (fun d => .nx (ρ.set i (.ow (ds ++ [d])))) (fun es => .nx (ρ.set i (.ow (ds ++ [.list es])))) := if_pos h
theorem sApp_q (i : Nat) (lk : List Nat) (m : Sm) (ρ : Rho) : sApp i lk m ρ = apK i m (frz ρ lk) (frz ρ lk)[i]? := by
  unfold sApp apK
  rfl
def xtK (i : Nat) (m : Sm) (ρ : Rho) : Option Cell → Fl
  | some (.ow ds) => (m ρ).fl ρ (fun _ => .bad) (fun es => if ds.length + es.length ≤ 100000 then .nx (ρ.set i (.ow (ds ++ es))) else .bad)
  | _ => .bad
theorem xtK_ow {ds es : List D} (i : Nat) (m : Sm) (ρ : Rho) (hm : m ρ = .new es) (h : ds.length + es.length ≤ 100000) : xtK i m ρ (some (.ow ds)) = .nx (ρ.set i (.ow (ds ++ es))) := by
  unfold xtK
  simp only [hm, Res.fl_new, h, if_true]
theorem sExt_q (i : Nat) (lk : List Nat) (m : Sm) (ρ : Rho) : sExt i lk m ρ = xtK i m (frz ρ lk) (frz ρ lk)[i]? := by
  unfold sExt xtK
  rfl
theorem sRaise_q (c : Nat) (ρ : Rho) : sRaise c ρ = .ex c ρ := nr rfl
theorem sPar2_q (i j : Nat) (lk : List Nat) (ma mb : Sm) (ρ : Rho) : sPar2 i j lk ma mb ρ = (ma (frz ρ lk)).fl (frz ρ lk) (fun x => (mb (frz ρ lk)).fl (frz ρ lk) (fun y => .nx (((frz ρ lk).set i (.fr x)).set j (.fr y))) (fun ys => .nx (((frz ρ lk).set i (.fr x)).set j (.ow ys))))
    (fun xs => (mb (frz ρ lk)).fl (frz ρ lk) (fun y => .nx (((frz ρ lk).set i (.ow xs)).set j (.fr y))) (fun ys => .nx (((frz ρ lk).set i (.ow xs)).set j (.ow ys)))) := nr rfl
def p3K (i j l : Nat) (ρ : Rho) : ResL → Fl
  | .ok [x, y, z] => .nx (((ρ.set i (.fr x)).set j (.fr y)).set l (.fr z))
  | .ok _ => .bad
  | .exc c => .ex c ρ
  | .bad => .bad
theorem p3K_ok (i j l : Nat) (ρ : Rho) (x y z : D) : p3K i j l ρ (.ok [x, y, z]) = .nx (((ρ.set i (.fr x)).set j (.fr y)).set l (.fr z)) := nr rfl
theorem sPar3_q (i j l : Nat) (lk : List Nat) (ms : List Sm) (ρ : Rho) : sPar3 i j l lk ms ρ = p3K i j l (frz ρ lk) (evs ms (frz ρ lk)) := by
  unfold sPar3 p3K
  rfl
theorem iSeq_q (m : Sm) (ρ : Rho) : iSeq m ρ = (m ρ).bindL iterD := nr rfl
theorem iZip_q (ms : List Sm) (ρ : Rho) : iZip ms ρ = (evs ms ρ).bindL zipL := nr rfl
theorem iEnum_q (m : Sm) (ρ : Rho) : iEnum m ρ = (evs [m] ρ).bindL enumL := nr rfl
theorem bo (d : D) (k : D → Res) : (Res.ok d).bind k = k d := nr rfl
theorem bn (d : List D) (k : D → Res) : (Res.new d).bind k = k (.list d) := nr rfl
theorem bx (c : Nat) (k : D → Res) : (Res.exc c).bind k = .exc c := nr rfl
theorem blo (d : D) (k : D → ResL) : (Res.ok d).bindL k = k d := nr rfl
theorem bln (d : List D) (k : D → ResL) : (Res.new d).bindL k = k (.list d) := nr rfl
theorem blx (c : Nat) (k : D → ResL) : (Res.exc c).bindL k = .exc c := nr rfl
theorem lbo (d : List D) (k : List D → Res) : (ResL.ok d).bind k = k d := nr rfl
theorem lbx (c : Nat) (k : List D → Res) : (ResL.exc c).bind k = .exc c := nr rfl
theorem llo (d : List D) (k : List D → ResL) : (ResL.ok d).bindL k = k d := nr rfl
theorem llx (c : Nat) (k : List D → ResL) : (ResL.exc c).bindL k = .exc c := nr rfl
theorem flo (d : D) (ρ : Rho) (k : D → Fl) (kn : List D → Fl) : (Res.ok d).fl ρ k kn = k d := nr rfl
theorem fln (d : List D) (ρ : Rho) (k : D → Fl) (kn : List D → Fl) : (Res.new d).fl ρ k kn = kn d := nr rfl
theorem flx (c : Nat) (ρ : Rho) (k : D → Fl) (kn : List D → Fl) : (Res.exc c).fl ρ k kn = .ex c ρ := nr rfl
theorem fbn (ρ : Rho) (k : Ss) : (Fl.nx ρ).bind k = k ρ := nr rfl
theorem fbr (d : D) (k : Ss) : (Fl.rt d).bind k = .rt d := nr rfl
theorem fbm (d : List D) (k : Ss) : (Fl.rn d).bind k = .rn d := nr rfl
theorem fbx (c : Nat) (ρ : Rho) (k : Ss) : (Fl.ex c ρ).bind k = .ex c ρ := nr rfl
theorem upo (d : D) : (Rp.ok d).up = .ok d := nr rfl
theorem upn (d : List D) : (Rp.new d).up = .new d := nr rfl
theorem iTt (a b : Res) : ifT (some true) a b = a := nr rfl
theorem iTf (a b : Res) : ifT (some false) a b = b := nr rfl
theorem iFt (a b : Fl) : ifF (some true) a b = a := nr rfl
theorem iFf (a b : Fl) : ifF (some false) a b = b := nr rfl
theorem oRs (d : D) : optR (some d) = .ok d := nr rfl
theorem vRo (d : D) : valR (.ok d) = some d := nr rfl
theorem vRn (d : List D) : valR (.new d) = some (.list d) := nr rfl
theorem fin_nx (ρ : Rho) : fin (.nx ρ) = .ok .none := nr rfl
theorem fin_rt (d : D) : fin (.rt d) = .ok d := nr rfl
theorem fin_rn (d : List D) : fin (.rn d) = .new d := nr rfl
theorem fin_ex (c : Nat) (ρ : Rho) : fin (.ex c ρ) = .exc c := nr rfl
theorem frz_nil (ρ : Rho) : frz ρ [] = ρ := nr rfl
theorem frz_cons (ρ : Rho) (i : Nat) (l : List Nat) : frz ρ (i :: l) = frz (frz1 ρ i) l := nr rfl
theorem evs_nil (ρ : Rho) : evs [] ρ = .ok [] := nr rfl
theorem evs_cons (m : Sm) (ms : List Sm) (ρ : Rho) : evs (m :: ms) ρ = (m ρ).bindL fun d => (evs ms ρ).bindL fun ds => .ok (d :: ds) := nr rfl
theorem truth_none : truth .none = some false := nr rfl
theorem truth_bool (b : Bool) : truth (.bool b) = some b := nr rfl
theorem truth_int (i : Int) : truth (.int i) = some (i != 0) := nr rfl
theorem truth_list (l : List D) : truth (.list l) = some (!l.isEmpty) := nr rfl
theorem truth_tuple (l : List D) : truth (.tuple l) = some (!l.isEmpty) := nr rfl
theorem gNot_b (b : Bool) : gNot (.bool b) = .ok (.bool (!b)) := nr rfl
theorem gNot_l (l : List D) : gNot (.list l) = .ok (.bool (!!l.isEmpty)) := nr rfl
theorem gNot_t (l : List D) : gNot (.tuple l) = .ok (.bool (!!l.isEmpty)) := nr rfl
theorem gNot_n : gNot .none = .ok (.bool true) := nr rfl
theorem gAdd_i (i j : Int) : gAdd (.int i) (.int j) = .ok (.int (i + j)) := nr rfl
theorem gSub_i (i j : Int) : gSub (.int i) (.int j) = .ok (.int (i - j)) := nr rfl
theorem gMul_i {i j : Int} (h : MulOk i j) : gMul (.int i) (.int j) = .ok (.int (i * j)) := if_pos h
theorem gFdiv_i {i j : Int} (h : DivOk j) : gFdiv (.int i) (.int j) = .ok (.int (i.fdiv j)) := if_pos h
theorem gMod_i {i j : Int} (h : j ≠ 0) : gMod (.int i) (.int j) = .ok (.int (i.fmod j)) := if_pos h
theorem gNeg_i (i : Int) : gNeg (.int i) = .ok (.int (-i)) := nr rfl
theorem gLt_i (i j : Int) : gLt (.int i) (.int j) = .ok (.bool (decide (i < j))) := nr rfl
theorem gLe_i (i j : Int) : gLe (.int i) (.int j) = .ok (.bool (decide (i ≤ j))) := nr rfl
theorem gGt_i (i j : Int) : gGt (.int i) (.int j) = .ok (.bool (decide (j < i))) := nr rfl
theorem gGe_i (i j : Int) : gGe (.int i) (.int j) = .ok (.bool (decide (j ≤ i))) := nr rfl
theorem gEq_i (i j : Int) : gEq (.int i) (.int j) = .ok (.bool (decide (i = j))) := nr rfl
theorem gNe_i (i j : Int) : gNe (.int i) (.int j) = .ok (.bool (!decide (i = j))) := nr rfl
theorem gIx_l (xs : List D) (i : Int) : gIx (.list xs) (.int i) = optR (atI xs i) := nr rfl
theorem gIx_t (xs : List D) (i : Int) : gIx (.tuple xs) (.int i) = optR (atI xs i) := nr rfl
theorem bLen_l (xs : List D) : bLen [.list xs] = .ok (.int xs.length) := nr rfl
theorem bLen_t (xs : List D) : bLen [.tuple xs] = .ok (.int xs.length) := nr rfl
theorem bAbs_i (i : Int) : bAbs [.int i] = .ok (.int (if i < 0 then -i else i)) := nr rfl
theorem bInt_i (i : Int) : bInt [.int i] = .ok (.int i) := nr rfl
theorem bInt_b (b : Bool) : bInt [.bool b] = .ok (.int (if b then 1 else 0)) := nr rfl
theorem bTuple_l (xs : List D) : bTuple [.list xs] = .ok (.tuple xs) := nr rfl
theorem bTuple_t (xs : List D) : bTuple [.tuple xs] = .ok (.tuple xs) := nr rfl
theorem bList_l (xs : List D) : bList [.list xs] = .new xs := nr rfl
theorem bList_t (xs : List D) : bList [.tuple xs] = .new xs := nr rfl
theorem gIsi_it (xs : List D) : gIsi .tuple (.tuple xs) = .ok (.bool true) := nr rfl
theorem gIsi_ii (i : Int) : gIsi .int (.int i) = .ok (.bool true) := nr rfl
theorem gIsi_bi (i : Int) : gIsi .bool (.int i) = .ok (.bool false) := nr rfl
theorem iterD_l (xs : List D) : iterD (.list xs) = .ok xs := nr rfl
theorem iterD_t (xs : List D) : iterD (.tuple xs) = .ok xs := nr rfl
theorem zipL_tt (xs ys : List D) : zipL [.tuple xs, .tuple ys] = .ok (zip2D xs ys) := nr rfl
theorem zipL_lt (xs ys : List D) : zipL [.list xs, .tuple ys] = .ok (zip2D xs ys) := nr rfl
theorem zipL_tl (xs ys : List D) : zipL [.tuple xs, .list ys] = .ok (zip2D xs ys) := nr rfl
theorem zipL_ll (xs ys : List D) : zipL [.list xs, .list ys] = .ok (zip2D xs ys) := nr rfl
theorem enumL_t (xs : List D) : enumL [.tuple xs] = .ok (enumD 0 xs) := nr rfl
theorem enumL_l (xs : List D) : enumL [.list xs] = .ok (enumD 0 xs) := nr rfl
theorem rangeD_zero (n : Nat) : rangeD 0 n = (List.range n).map fun i : Nat => PyData.int (i : Int) := by simp [rangeD]
def rng1 (d : D) : ResL := match d with
  | .int j => if -(2 ^ 62) ≤ j ∧ j < 2 ^ 62 then .ok (rangeD 0 j.toNat) else .bad
  | _ => .bad
theorem iR1_eq (m : Sm) (ρ : Rho) : iR1 m ρ = (m ρ).bindL rng1 := nr rfl
theorem rng1_i {j : Int} (h : -(2 ^ 62) ≤ j ∧ j < 2 ^ 62) : rng1 (.int j) = .ok (rangeD 0 j.toNat) := if_pos h
theorem rng1_n {n : Nat} (h : n ≤ 1000) : rng1 (.int (n : Int)) = .ok ((List.range n).map fun i : Nat => PyData.int (i : Int)) := by
  rw [rng1_i (by constructor <;> omega), ← rangeD_zero]; rfl
theorem iR1_n {m : Sm} {ρ : Rho} {n : Nat} (h : m ρ = .ok (.int (n : Int))) (hn : n ≤ 1000) : iR1 m ρ = .ok ((List.range n).map fun i : Nat => PyData.int (i : Int)) :=
  (iR1_eq m ρ).trans ((congrArg (fun r => Res.bindL r rng1) h).trans ((Res.bindL_ok _ _).trans (rng1_n hn)))
theorem bindT_nm (i : Nat) (d : D) (ρ : Rho) : bindT (.nm i) d ρ = some (ρ.set i (.fr d)) := nr rfl
theorem bindT_2 (i j : Nat) (d d' : D) (ρ : Rho) : bindT (.tp [i, j]) (.tuple [d, d']) ρ = some ((ρ.set i (.fr d)).set j (.fr d')) := nr rfl
theorem bindT_3 (i j l : Nat) (d d' d2 : D) (ρ : Rho) : bindT (.tp [i, j, l]) (.tuple [d, d', d2]) ρ = some (((ρ.set i (.fr d)).set j (.fr d')).set l (.fr d2)) := nr rfl
theorem wipe_nil (ρ : Rho) : wipeR ρ [] = ρ := nr rfl
theorem wipe_cons (ρ : Rho) (i : Nat) (l : List Nat) : wipeR ρ (i :: l) = (wipeR ρ l).set i .un := nr rfl
theorem turnC_n (ρ : Rho) (T : Tg) (me : Sm) (d : D) : turnC ρ T none me d = (bindT T d ρ).bind fun ρ => (valR (me ρ)).map some := nr rfl
theorem turnC_s (ρ : Rho) (T : Tg) (mc me : Sm) (d : D) : turnC ρ T (some mc) me d = (bindT T d ρ).bind fun ρ => ((valR (mc ρ)).bind truth).bind fun t => if t = true then (valR (me ρ)).map some else some none := nr rfl
end U
set_option Elab.async false
set_option linter.all false
set_option maxRecDepth 100000
set_option maxHeartbeats 4000000
namespace U
open PySem PySem.Spec PyProof.Rows L2
/-! ### typed data -/
def dP (c : Int × Int) : D := .tuple [.int c.1, .int c.2]
def dR (r : List (Int × Int)) : D := .tuple (r.map dP)
def dT (t : List (List (Int × Int))) : D := .tuple (t.map dR)
def dQ (q : Rat) : D := .tuple [.int q.num, .int q.den]
inductive All2 {α β : Type} (P : α → β → Prop) : List α → List β → Prop
  | nil : All2 P [] []
  | cons {x : α} {y : β} {xs : List α} {ys : List β} : P x y → All2 P xs ys → All2 P (x :: xs) (y :: ys)
theorem All2.len {α β : Type} {P : α → β → Prop} : ∀ {xs : List α} {ys : List β}, All2 P xs ys → ys.length = xs.length
  | _, _, .nil => rfl
  | _, _, .cons _ h => by simp [h.len]
theorem All2.right {α β : Type} {P : α → β → Prop} {Q : β → Prop} (k : ∀ x y, P x y → Q y) : ∀ {xs : List α} {ys : List β}, All2 P xs ys → ∀ y ∈ ys, Q y
  | _, _, .nil, y, h => by cases h
  | _, _, .cons h hs, y, hy => by
    rcases List.mem_cons.mp hy with e | hy
    · rw [e]; exact k _ _ h
    · exact hs.right k y hy
/-! ### comprehensions and loops over typed lists -/
theorem compGo_fil {α : Type} {f : D → Option (Option D)} {e g : α → D} {p : α → Bool} : ∀ (xs : List α), (∀ x ∈ xs, f (e x) = (if p x = true then some (some (g x)) else some none)) → compGo f (xs.map e) = some ((xs.filter p).map g)
  | [], _ => rfl
  | x :: xs, h => by
    simp only [List.map_cons, compGo, h x List.mem_cons_self, compGo_fil xs fun y hy => h y (List.mem_cons_of_mem _ hy)]
    cases hp : p x <;> simp [hp]
theorem comp_fil {α : Type} {mi : SmL} {T : Tg} {own : List Nat} {mc : Option Sm} {me : Sm} {ρ : Rho} {e g : α → D} {p : α → Bool} {xs : List α} (hi : mi ρ = .ok (xs.map e)) (hl : xs.length ≤ 100000) (h : ∀ x ∈ xs, turnC (wipeR ρ own) T mc me (e x) = (if p x = true then some (some (g x)) else some none)) : eComp mi T own mc me ρ = .new ((xs.filter p).map g) := by
  unfold eComp
  rw [hi]
  simp only [ResL.bind, List.length_map, hl, if_true, compGo_fil xs h]
/-- .. a loop that goes on under an invariant of what was walked -/
theorem forGo_ex {α : Type} {body : Ss} {T : Tg} {e : α → D} {all : List α} {I : List α → Rho → Prop} : ∀ (xs done : List α) (ρ : Rho), all = done ++ xs → (∀ done ρ x rest, all = done ++ x :: rest → I done ρ → ∃ ρ1 ρ2, bindT T (e x) ρ = some ρ1 ∧ body ρ1 = .nx ρ2 ∧ I (done ++ [x]) ρ2) → I done ρ → ∃ ρ', forGo body T (xs.map e) ρ = .nx ρ' ∧ I all ρ'
  | [], done, ρ, ha, _, h => ⟨ρ, rfl, by rw [ha]; simpa using h⟩
  | x :: xs, done, ρ, ha, hs, h => by
    obtain ⟨ρ1, ρ2, h1, h2, h3⟩ := hs done ρ x xs ha h
    obtain ⟨ρ', h4, h5⟩ := forGo_ex xs (done ++ [x]) ρ2 (by simpa using ha) hs h3
    refine ⟨ρ', ?_, h5⟩
    simp only [List.map_cons, forGo, h1, h2, Fl.bind_nx]
    exact h4
theorem for_ex {α : Type} {T : Tg} {lk : List Nat} {mi : SmL} {body : Ss} {ρ0 : Rho} {e : α → D} {xs : List α} (I : List α → Rho → Prop) (hi : mi (frz ρ0 lk) = .ok (xs.map e)) (h0 : I [] (frz ρ0 lk)) (hs : ∀ done ρ x rest, xs = done ++ x :: rest → I done ρ → ∃ ρ1 ρ2, bindT T (e x) ρ = some ρ1 ∧ body ρ1 = .nx ρ2 ∧ I (done ++ [x]) ρ2) : ∃ ρ', sFor T lk mi body ρ0 = .nx ρ' ∧ I xs ρ' := by
  obtain ⟨ρ', h1, h2⟩ := forGo_ex (T := T) (e := e) (body := body) (I := I) xs [] (frz ρ0 lk) rfl hs h0
  refine ⟨ρ', ?_, h2⟩
  unfold sFor
  simp only [hi]
  exact h1
def turnF (T : Tg) (body : Ss) (d : D) (ρ : Rho) : Fl := match bindT T d ρ with
  | some ρ' => body ρ'
  | none => .bad
theorem turnF_nm (i : Nat) (body : Ss) (d : D) (ρ : Rho) : turnF (.nm i) body d ρ = body (ρ.set i (.fr d)) := rfl
theorem turnF_tp2 (i j : Nat) (body : Ss) (d d' : D) (ρ : Rho) : turnF (.tp [i, j]) body (.tuple [d, d']) ρ = body ((ρ.set i (.fr d)).set j (.fr d')) := rfl
theorem turnF_tp3 (i j l : Nat) (body : Ss) (d d' d2 : D) (ρ : Rho) : turnF (.tp [i, j, l]) body (.tuple [d, d', d2]) ρ = body (((ρ.set i (.fr d)).set j (.fr d')).set l (.fr d2)) := rfl
/-- a loop whose store has a form -/
theorem for_st {α σ : Type} {T : Tg} {lk : List Nat} {mi : SmL} {body : Ss} {ρ0 : Rho} {e : α → D} {xs : List α} (st : σ → Rho) (I : List α → σ → Prop) (s0 : σ) (hi : mi (frz ρ0 lk) = .ok (xs.map e)) (h0 : frz ρ0 lk = st s0) (i0 : I [] s0)
    (hs : ∀ done s x rest, xs = done ++ x :: rest → I done s → ∃ s', turnF T body (e x) (st s) = .nx (st s') ∧ I (done ++ [x]) s') : ∃ s', sFor T lk mi body ρ0 = .nx (st s') ∧ I xs s' := by
  obtain ⟨ρ', h1, s, rfl, h2⟩ := for_ex (T := T) (e := e) (body := body) (lk := lk) (ρ0 := ρ0) (mi := mi) (xs := xs) (fun done ρ => ∃ s, ρ = st s ∧ I done s) hi ⟨s0, h0, i0⟩ (fun done ρ x rest hx ⟨s, e1, h⟩ => by
    subst e1
    obtain ⟨s', h1, h2⟩ := hs done s x rest hx h
    unfold turnF at h1
    cases hb : bindT T (e x) (st s) with
    | none => rw [hb] at h1; cases h1
    | some ρ1 => rw [hb] at h1; exact ⟨ρ1, _, rfl, h1, s', rfl, h2⟩)
  exact ⟨s, h1, h2⟩
theorem mid_len {α : Type} {xs done rest : List α} {x : α} (h : xs = done ++ x :: rest) : done.length < xs.length := by rw [h]; simp
theorem mid_mem {α : Type} {xs done rest : List α} {x : α} (h : xs = done ++ x :: rest) : x ∈ xs := by rw [h]; simp
theorem map_snoc {α β : Type} (f : α → β) (l : List α) (a : α) : l.map f ++ [f a] = (l ++ [a]).map f := by simp
theorem zip2D_map {α β : Type} (e : α → D) (g : β → D) : ∀ (l : List α) (m : List β), zip2D (l.map e) (m.map g) = (l.zip m).map fun p => .tuple [e p.1, g p.2]
  | [], _ => by simp [zip2D]
  | _ :: _, [] => by simp [zip2D]
  | x :: l, y :: m => by simp only [List.map_cons, zip2D, List.zip_cons_cons, zip2D_map e g l m]
/-! ### places -/
theorem atI_nat {α : Type} (xs : List α) (n : Nat) : atI xs (n : Int) = xs[n]? := by
  unfold atI ixN
  by_cases h : n < xs.length
  · simp [h]
  · simp [h]
theorem atI_pos {α : Type} (xs : List α) (i : Int) (h : 0 ≤ i) : atI xs i = xs[i.toNat]? := by
  obtain ⟨n, rfl⟩ := Int.eq_ofNat_of_zero_le h
  rw [atI_nat]; rfl
theorem atI_zero {α : Type} (x : α) (xs : List α) : atI (x :: xs) 0 = some x := by rw [atI_pos _ _ (by decide)]; rfl
theorem atI_one {α : Type} (x y : α) (xs : List α) : atI (x :: y :: xs) 1 = some y := by rw [atI_pos _ _ (by decide)]; rfl
/-! ### equality of typed data -/
/-! ### fractions -/
theorem mulOk_l {i j : Int} (h : i.natAbs < 2 ^ 64) : MulOk i j := .inl h
theorem mulOk_r {i j : Int} (h : j.natAbs < 2 ^ 64) : MulOk i j := .inr (.inl h)
/-- law_part's loop -/
theorem law_gcd (t b : D) : ∀ (n : Nat) (x y : Nat), y < n → whGo [] (e2 gGt (eK 3) (eC (.int 0))) L1_law_part n [.fr t, .fr b, .fr (.int x), .fr (.int y)] = .nx [.fr t, .fr b, .fr (.int (Nat.gcd x y)), .fr (.int 0)]
  | 0, x, y, h => by omega
  | n + 1, x, y, h => by
    by_cases hy : y = 0
    · subst hy
      simp [whGo, fin_nx, fin_rt, fin_rn, fin_ex, frz_nil, frz_cons, frz1_q, fzK_ow, fzK_fr, fzK_un, evs_nil, evs_cons, sSeq_q, sIf_q, ifE_t, ifE_f, sRet_q, sRetV_q, rvK_fr, rvK_ow, sSet_q, sTup_q, tpK_s, sExpr_q, sApp_q, apK_ow, sExt_q, xtK_ow, sRaise_q, sPar2_q, sPar3_q, p3K_ok, eV_q, eK_q, cV_fr, cK_fr, cK_ow, eC_q, e1_q, e2_q, eL_q, eF_q, eAnd_q, eOr_q, eIf_q, eTup_q, eLst_q, eChain_q, chK_t, chK_f, eSl_q, bindO_n, bindO_s, boK_i, truth_none, truth_bool, truth_int, truth_list, truth_tuple, gNot_b, gNot_l, gNot_t, gNot_n, gAdd_i, gSub_i, gNeg_i, gLt_i, gLe_i, gGt_i, gGe_i, gEq_i, gNe_i, gIx_l, gIx_t, bLen_l, bLen_t, bAbs_i, bInt_i, bInt_b, bTuple_l, bTuple_t, bList_l, bList_t, gIsi_it, gIsi_ii, gIsi_bi, iSeq_q, iterD_l, iterD_t, iZip_q, zipL_tt, zipL_lt, zipL_tl, zipL_ll, iEnum_q, enumL_t, enumL_l, bindT_nm, bindT_2, bindT_3, wipe_nil, wipe_cons, turnC_n, turnC_s, atI_zero, atI_one, bo, bn, bx, blo, bln, blx, lbo, lbx, llo, llx, flo, fln, flx, fbn, fbr, fbm, fbx, upo, upn, iTt, iTf, iFt, iFf, oRs, vRo, vRn, List.getElem?_cons_zero, List.getElem?_cons_succ, List.set_cons_zero, List.set_cons_succ, List.length_nil, List.length_cons, List.length_map, Option.bind_some, Option.map_some, if_true, if_false, decide_true, decide_false, Bool.not_true, Bool.not_false, Bool.false_eq_true, ite_true, ite_false]
    · have h1 : (0 : Int) < y := by omega
      have e : Int.fmod (x : Int) (y : Int) = ((x % y : Nat) : Int) := by rw [Int.fmod_eq_emod_of_nonneg _ (by omega)]; simp
      have h2 : (y : Int) ≠ 0 := by omega
      have ih := law_gcd t b n y (x % y) (by have := Nat.mod_lt x (Nat.pos_of_ne_zero hy); omega)
      rw [show Nat.gcd x y = Nat.gcd y (x % y) by rw [Nat.gcd_comm, Nat.gcd_rec, Nat.gcd_comm]]
      rw [← ih]
      simp [whGo, L1_law_part, fin_nx, fin_rt, fin_rn, fin_ex, frz_nil, frz_cons, frz1_q, fzK_ow, fzK_fr, fzK_un, evs_nil, evs_cons, sSeq_q, sIf_q, ifE_t, ifE_f, sRet_q, sRetV_q, rvK_fr, rvK_ow, sSet_q, sTup_q, tpK_s, sExpr_q, sApp_q, apK_ow, sExt_q, xtK_ow, sRaise_q, sPar2_q, sPar3_q, p3K_ok, eV_q, eK_q, cV_fr, cK_fr, cK_ow, eC_q, e1_q, e2_q, eL_q, eF_q, eAnd_q, eOr_q, eIf_q, eTup_q, eLst_q, eChain_q, chK_t, chK_f, eSl_q, bindO_n, bindO_s, boK_i, truth_none, truth_bool, truth_int, truth_list, truth_tuple, gNot_b, gNot_l, gNot_t, gNot_n, gAdd_i, gSub_i, gNeg_i, gLt_i, gLe_i, gGt_i, gGe_i, gEq_i, gNe_i, gIx_l, gIx_t, bLen_l, bLen_t, bAbs_i, bInt_i, bInt_b, bTuple_l, bTuple_t, bList_l, bList_t, gIsi_it, gIsi_ii, gIsi_bi, iSeq_q, iterD_l, iterD_t, iZip_q, zipL_tt, zipL_lt, zipL_tl, zipL_ll, iEnum_q, enumL_t, enumL_l, bindT_nm, bindT_2, bindT_3, wipe_nil, wipe_cons, turnC_n, turnC_s, atI_zero, atI_one, bo, bn, bx, blo, bln, blx, lbo, lbx, llo, llx, flo, fln, flx, fbn, fbr, fbm, fbx, upo, upn, iTt, iTf, iFt, iFf, oRs, vRo, vRn, List.getElem?_cons_zero, List.getElem?_cons_succ, List.set_cons_zero, List.set_cons_succ, List.length_nil, List.length_cons, List.length_map, Option.bind_some, Option.map_some, if_true, if_false, decide_true, decide_false, Bool.not_true, Bool.not_false, Bool.false_eq_true, ite_true, ite_false, gMod_i, hy, h2, h1, e, Nat.pos_of_ne_zero hy]
set_option exponentiation.threshold 30000 in
theorem fuel_big {y : Nat} (h : y < 2 ^ 9000) : y < fuel := Nat.lt_of_lt_of_le h (Nat.pow_le_pow_right (by decide) (by decide))
theorem law_part_ok (t : Int) (b : Nat) (hb : b ≠ 0) (hs : b < 2 ^ 9000) : f_law_part [.int t, .int b] = .ok (dQ (mkRat t b)) := by
  have g := law_gcd (.int t) (.int b) fuel t.natAbs b (fuel_big hs)
  have hg : 0 < Nat.gcd t.natAbs b := Nat.gcd_pos_of_pos_right _ (Nat.pos_of_ne_zero hb)
  have hle : Nat.gcd t.natAbs b ≤ b := Nat.gcd_le_right _ (Nat.pos_of_ne_zero hb)
  have hd : DivOk (Nat.gcd t.natAbs b : Int) := ⟨by omega, by simp; omega⟩
  have q1 : Int.fdiv t (Nat.gcd t.natAbs b : Int) = (mkRat t b).num := by
    rw [Rat.num_mkRat, if_neg hb, Int.fdiv_eq_ediv_of_nonneg _ (by omega), Nat.gcd_comm]
  have q2 : Int.fdiv (b : Int) (Nat.gcd t.natAbs b : Int) = (mkRat t b).den := by
    rw [Rat.den_mkRat, if_neg hb, Int.fdiv_eq_ediv_of_nonneg _ (by omega), Nat.gcd_comm]
    simp
  have q0 : (if t < 0 then -t else t) = (t.natAbs : Int) := by omega
  have key : b_law_part [.fr (.int t), .fr (.int b), .un, .un] = .rt (dQ (mkRat t b)) := by
    unfold b_law_part
    simp [fin_nx, fin_rt, fin_rn, fin_ex, frz_nil, frz_cons, frz1_q, fzK_ow, fzK_fr, fzK_un, evs_nil, evs_cons, sSeq_q, sIf_q, ifE_t, ifE_f, sRet_q, sRetV_q, rvK_fr, rvK_ow, sSet_q, sTup_q, tpK_s, sExpr_q, sApp_q, apK_ow, sExt_q, xtK_ow, sRaise_q, sPar2_q, sPar3_q, p3K_ok, eV_q, eK_q, cV_fr, cK_fr, cK_ow, eC_q, e1_q, e2_q, eL_q, eF_q, eAnd_q, eOr_q, eIf_q, eTup_q, eLst_q, eChain_q, chK_t, chK_f, eSl_q, bindO_n, bindO_s, boK_i, truth_none, truth_bool, truth_int, truth_list, truth_tuple, gNot_b, gNot_l, gNot_t, gNot_n, gAdd_i, gSub_i, gNeg_i, gLt_i, gLe_i, gGt_i, gGe_i, gEq_i, gNe_i, gIx_l, gIx_t, bLen_l, bLen_t, bAbs_i, bInt_i, bInt_b, bTuple_l, bTuple_t, bList_l, bList_t, gIsi_it, gIsi_ii, gIsi_bi, iSeq_q, iterD_l, iterD_t, iZip_q, zipL_tt, zipL_lt, zipL_tl, zipL_ll, iEnum_q, enumL_t, enumL_l, bindT_nm, bindT_2, bindT_3, wipe_nil, wipe_cons, turnC_n, turnC_s, atI_zero, atI_one, bo, bn, bx, blo, bln, blx, lbo, lbx, llo, llx, flo, fln, flx, fbn, fbr, fbm, fbx, upo, upn, iTt, iTf, iFt, iFf, oRs, vRo, vRn, List.getElem?_cons_zero, List.getElem?_cons_succ, List.set_cons_zero, List.set_cons_succ, List.length_nil, List.length_cons, List.length_map, Option.bind_some, Option.map_some, if_true, if_false, decide_true, decide_false, Bool.not_true, Bool.not_false, Bool.false_eq_true, ite_true, ite_false, q0, W1_law_part, sWhile, g, gFdiv_i, hd, q1, q2, dQ]
  rw [r_law_part, key]; rfl
end U
local macro_rules
  | `(tactic| simp only [EV0, $ts,*] $[$l:location]?) => `(tactic| simp only [U.fin_nx, U.fin_rt, U.fin_rn, U.fin_ex, U.frz_nil, U.frz_cons, U.frz1_q, U.fzK_ow, U.fzK_fr, U.fzK_un, U.evs_nil, U.evs_cons, U.sSeq_q, U.sIf_q, U.ifE_t, U.ifE_f, U.sRet_q, U.sRetV_q, U.rvK_fr, U.rvK_ow, U.sSet_q, U.sTup_q, U.tpK_s, U.sExpr_q, U.sApp_q, U.apK_ow, U.sExt_q, U.xtK_ow, U.sRaise_q, U.sPar2_q, U.sPar3_q, U.p3K_ok, U.eV_q, U.eK_q, U.cV_fr, U.cK_fr, U.cK_ow, U.eC_q, U.e1_q, U.e2_q, U.eL_q, U.eF_q, U.eAnd_q, U.eOr_q, U.eIf_q, U.eTup_q, U.eLst_q, U.eChain_q, U.chK_t, U.chK_f, U.eSl_q, U.bindO_n, U.bindO_s, U.boK_i, U.truth_none, U.truth_bool, U.truth_int, U.truth_list, U.truth_tuple, U.gNot_b, U.gNot_l, U.gNot_t, U.gNot_n, U.gAdd_i, U.gSub_i, U.gNeg_i, U.gLt_i, U.gLe_i, U.gGt_i, U.gGe_i, U.gEq_i, U.gNe_i, U.gIx_l, U.gIx_t, U.bLen_l, U.bLen_t, U.bAbs_i, U.bInt_i, U.bInt_b, U.bTuple_l, U.bTuple_t, U.bList_l, U.bList_t, U.gIsi_it, U.gIsi_ii, U.gIsi_bi, U.iSeq_q, U.iterD_l, U.iterD_t, U.iZip_q, U.zipL_tt, U.zipL_lt, U.zipL_tl, U.zipL_ll, U.iEnum_q, U.enumL_t, U.enumL_l, U.bindT_nm, U.bindT_2, U.bindT_3, U.wipe_nil, U.wipe_cons, U.turnC_n, U.turnC_s, U.atI_zero, U.atI_one, U.bo, U.bn, U.bx, U.blo, U.bln, U.blx, U.lbo, U.lbx, U.llo, U.llx, U.flo, U.fln, U.flx, U.fbn, U.fbr, U.fbm, U.fbx, U.upo, U.upn, U.iTt, U.iTf, U.iFt, U.iFf, U.oRs, U.vRo, U.vRn, List.getElem?_cons_zero, List.getElem?_cons_succ, List.set_cons_zero, List.set_cons_succ, List.length_nil, List.length_cons, List.length_map, Option.bind_some, Option.map_some, if_true, if_false, decide_true, decide_false, Bool.not_true, Bool.not_false, Bool.false_eq_true, ite_true, ite_false, $ts,*] $[$l:location]?)
  | `(tactic| simp only [EV0] $[$l:location]?) => `(tactic| simp only [U.fin_nx, U.fin_rt, U.fin_rn, U.fin_ex, U.frz_nil, U.frz_cons, U.frz1_q, U.fzK_ow, U.fzK_fr, U.fzK_un, U.evs_nil, U.evs_cons, U.sSeq_q, U.sIf_q, U.ifE_t, U.ifE_f, U.sRet_q, U.sRetV_q, U.rvK_fr, U.rvK_ow, U.sSet_q, U.sTup_q, U.tpK_s, U.sExpr_q, U.sApp_q, U.apK_ow, U.sExt_q, U.xtK_ow, U.sRaise_q, U.sPar2_q, U.sPar3_q, U.p3K_ok, U.eV_q, U.eK_q, U.cV_fr, U.cK_fr, U.cK_ow, U.eC_q, U.e1_q, U.e2_q, U.eL_q, U.eF_q, U.eAnd_q, U.eOr_q, U.eIf_q, U.eTup_q, U.eLst_q, U.eChain_q, U.chK_t, U.chK_f, U.eSl_q, U.bindO_n, U.bindO_s, U.boK_i, U.truth_none, U.truth_bool, U.truth_int, U.truth_list, U.truth_tuple, U.gNot_b, U.gNot_l, U.gNot_t, U.gNot_n, U.gAdd_i, U.gSub_i, U.gNeg_i, U.gLt_i, U.gLe_i, U.gGt_i, U.gGe_i, U.gEq_i, U.gNe_i, U.gIx_l, U.gIx_t, U.bLen_l, U.bLen_t, U.bAbs_i, U.bInt_i, U.bInt_b, U.bTuple_l, U.bTuple_t, U.bList_l, U.bList_t, U.gIsi_it, U.gIsi_ii, U.gIsi_bi, U.iSeq_q, U.iterD_l, U.iterD_t, U.iZip_q, U.zipL_tt, U.zipL_lt, U.zipL_tl, U.zipL_ll, U.iEnum_q, U.enumL_t, U.enumL_l, U.bindT_nm, U.bindT_2, U.bindT_3, U.wipe_nil, U.wipe_cons, U.turnC_n, U.turnC_s, U.atI_zero, U.atI_one, U.bo, U.bn, U.bx, U.blo, U.bln, U.blx, U.lbo, U.lbx, U.llo, U.llx, U.flo, U.fln, U.flx, U.fbn, U.fbr, U.fbm, U.fbx, U.upo, U.upn, U.iTt, U.iTf, U.iFt, U.iFf, U.oRs, U.vRo, U.vRn, List.getElem?_cons_zero, List.getElem?_cons_succ, List.set_cons_zero, List.set_cons_succ, List.length_nil, List.length_cons, List.length_map, Option.bind_some, Option.map_some, if_true, if_false, decide_true, decide_false, Bool.not_true, Bool.not_false, Bool.false_eq_true, ite_true, ite_false] $[$l:location]?)

set_option Elab.async false
set_option linter.all false
set_option maxRecDepth 100000
set_option maxHeartbeats 4000000
set_option exponentiation.threshold 500000
namespace U
open PySem PySem.Spec PyProof.Rows L2
/-! ### the size of a fraction -/
def Sz (n : Nat) (q : Rat) : Prop := q.num.natAbs < 2 ^ n ∧ q.den < 2 ^ n
theorem Sz.mono {n m : Nat} {q : Rat} (h : Sz n q) (le : n ≤ m) : Sz m q := ⟨Nat.lt_of_lt_of_le h.1 (Nat.pow_le_pow_right (by decide) le), Nat.lt_of_lt_of_le h.2 (Nat.pow_le_pow_right (by decide) le)⟩
theorem Sz.mk {n : Nat} {t : Int} {b : Nat} (h0 : b ≠ 0) (ht : t.natAbs < 2 ^ n) (hb : b < 2 ^ n) : Sz n (mkRat t b) := by
  refine ⟨?_, ?_⟩
  · rw [Rat.num_mkRat, if_neg h0]
    exact Nat.lt_of_le_of_lt (Int.natAbs_ediv_le_natAbs _ _) ht
  · rw [Rat.den_mkRat, if_neg h0]
    exact Nat.lt_of_le_of_lt (Nat.div_le_self _ _) hb
theorem lt_mul {a b n m : Nat} (h : a < 2 ^ n) (k : b < 2 ^ m) : a * b < 2 ^ (n + m) := by
  rw [Nat.pow_add]; exact Nat.mul_lt_mul'' h k
theorem Sz.mul {n m : Nat} {x y : Rat} (hx : Sz n x) (hy : Sz m y) : Sz (n + m) (x * y) := by
  rw [Rat.mul_def']
  exact Sz.mk (Nat.mul_ne_zero x.den_nz y.den_nz) (by rw [Int.natAbs_mul]; exact lt_mul hx.1 hy.1) (lt_mul hx.2 hy.2)
theorem Sz.add {n m : Nat} {x y : Rat} (hx : Sz n x) (hy : Sz m y) : Sz (n + m + 1) (x + y) := by
  rw [Rat.add_def']
  have h1 := lt_mul hx.1 hy.2
  have h2 := lt_mul hy.1 hx.2
  have h3 := lt_mul hx.2 hy.2
  have e : m + n = n + m := Nat.add_comm _ _
  rw [e] at h2
  refine Sz.mk (Nat.mul_ne_zero x.den_nz y.den_nz) ?_ ?_
  · refine Nat.lt_of_le_of_lt (Int.natAbs_add_le _ _) ?_
    rw [Int.natAbs_mul, Int.natAbs_mul, Nat.pow_succ]
    simp only [Int.natAbs_natCast]
    omega
  · rw [Nat.pow_succ]; omega
theorem Sz.neg {n : Nat} {x : Rat} (hx : Sz n x) : Sz n (-x) := ⟨by simpa using hx.1, by simpa using hx.2⟩
theorem Sz.sub {n m : Nat} {x y : Rat} (hx : Sz n x) (hy : Sz m y) : Sz (n + m + 1) (x - y) := by
  rw [Rat.sub_eq_add_neg]; exact hx.add hy.neg
theorem Sz.int {n : Nat} {i : Int} (h : i.natAbs < 2 ^ n) (hn : 0 < n := by decide) : Sz n (i : Rat) := ⟨by simpa using h, by
  simp
  omega⟩
theorem mulOk {i j : Int} {n m : Nat} (h : i.natAbs < 2 ^ n) (k : j.natAbs < 2 ^ m) (hn : n ≤ 9000 := by omega) (hm : m ≤ 9000 := by omega) : MulOk i j := by
  refine .inr (.inr ⟨Nat.lt_of_lt_of_le h (Nat.pow_le_pow_right (by decide) ?_), Nat.lt_of_lt_of_le k (Nat.pow_le_pow_right (by decide) ?_)⟩) <;> omega
theorem nat9 {b n : Nat} (h : b < 2 ^ n) (hn : n ≤ 9000) : b < 2 ^ 9000 := Nat.lt_of_lt_of_le h (Nat.pow_le_pow_right (by decide) hn)
/-! ### the laws' own fractions -/
theorem law_mul_ok {x y : Rat} {n m : Nat} (hx : Sz n x) (hy : Sz m y) (h : n + m ≤ 9000) : f_law_mul [dQ x, dQ y] = .ok (dQ (x * y)) := by
  have k1 : MulOk x.num y.num := mulOk hx.1 hy.1
  have k2 : MulOk (x.den : Int) (y.den : Int) := mulOk (n := n) (m := m) (by simpa using hx.2) (by simpa using hy.2)
  have h0 : x.den * y.den ≠ 0 := Nat.mul_ne_zero x.den_nz y.den_nz
  have e := law_part_ok (x.num * y.num) (x.den * y.den) h0 (nat9 (lt_mul hx.2 hy.2) h)
  rw [← Rat.mul_def'] at e
  simp only [Int.natCast_mul] at e
  simp only [EV0, r_law_mul, b_law_mul, dQ, gMul_i k1, gMul_i k2, e]
theorem law_add_ok {x y : Rat} {n m : Nat} (hx : Sz n x) (hy : Sz m y) (h : n + m ≤ 9000) : f_law_add [dQ x, dQ y] = .ok (dQ (x + y)) := by
  have k1 : MulOk x.num (y.den : Int) := mulOk (n := n) (m := m) hx.1 (by simpa using hy.2)
  have k3 : MulOk y.num (x.den : Int) := mulOk (n := m) (m := n) hy.1 (by simpa using hx.2)
  have k2 : MulOk (x.den : Int) (y.den : Int) := mulOk (n := n) (m := m) (by simpa using hx.2) (by simpa using hy.2)
  have h0 : x.den * y.den ≠ 0 := Nat.mul_ne_zero x.den_nz y.den_nz
  have e := law_part_ok (x.num * y.den + y.num * x.den) (x.den * y.den) h0 (nat9 (lt_mul hx.2 hy.2) h)
  rw [← Rat.add_def'] at e
  simp only [Int.natCast_mul] at e
  simp only [EV0, r_law_add, b_law_add, dQ, gMul_i k1, gMul_i k2, gMul_i k3, e]
theorem law_under_ok {x y : Rat} {n m : Nat} (hx : Sz n x) (hy : Sz m y) (h : n + m ≤ 9000) : f_law_under [dQ x, dQ y] = .ok (.bool (decide (x < y))) := by
  have k1 : MulOk x.num (y.den : Int) := mulOk (n := n) (m := m) hx.1 (by simpa using hy.2)
  have k3 : MulOk y.num (x.den : Int) := mulOk (n := m) (m := n) hy.1 (by simpa using hx.2)
  simp only [EV0, r_law_under, b_law_under, dQ, gMul_i k1, gMul_i k3, Rat.lt_iff]
end U
set_option Elab.async false
set_option linter.all false
set_option maxRecDepth 100000
set_option maxHeartbeats 4000000
set_option exponentiation.threshold 500000
namespace U
open PySem PySem.Spec PyProof.Rows L2
/-! ### the draws -/
theorem divOk {j : Int} (h : j ≠ 0) (k : j.natAbs < 2 ^ 64) : DivOk j := ⟨h, Nat.lt_trans k (Nat.pow_lt_pow_right (by decide) (by decide))⟩
def cellAt (ns : List Int) (k : Nat) : Int := ns.getD k 0
theorem law_cell_ok (ns : List Int) (k : Nat) : f_law_cell [.list (ns.map .int), .int k] = .ok (.int (cellAt ns k)) := by
  by_cases h : k < ns.length
  · have e : atI (ns.map PyData.int) (k : Int) = some (.int (cellAt ns k)) := by
      rw [atI_nat]; simp [cellAt, h]
    simp [r_law_cell, b_law_cell, fin_nx, fin_rt, fin_rn, fin_ex, frz_nil, frz_cons, frz1_q, fzK_ow, fzK_fr, fzK_un, evs_nil, evs_cons, sSeq_q, sIf_q, ifE_t, ifE_f, sRet_q, sRetV_q, rvK_fr, rvK_ow, sSet_q, sTup_q, tpK_s, sExpr_q, sApp_q, apK_ow, sExt_q, xtK_ow, sRaise_q, sPar2_q, sPar3_q, p3K_ok, eV_q, eK_q, cV_fr, cK_fr, cK_ow, eC_q, e1_q, e2_q, eL_q, eF_q, eAnd_q, eOr_q, eIf_q, eTup_q, eLst_q, eChain_q, chK_t, chK_f, eSl_q, bindO_n, bindO_s, boK_i, truth_none, truth_bool, truth_int, truth_list, truth_tuple, gNot_b, gNot_l, gNot_t, gNot_n, gAdd_i, gSub_i, gNeg_i, gLt_i, gLe_i, gGt_i, gGe_i, gEq_i, gNe_i, gIx_l, gIx_t, bLen_l, bLen_t, bAbs_i, bInt_i, bInt_b, bTuple_l, bTuple_t, bList_l, bList_t, gIsi_it, gIsi_ii, gIsi_bi, iSeq_q, iterD_l, iterD_t, iZip_q, zipL_tt, zipL_lt, zipL_tl, zipL_ll, iEnum_q, enumL_t, enumL_l, bindT_nm, bindT_2, bindT_3, wipe_nil, wipe_cons, turnC_n, turnC_s, atI_zero, atI_one, bo, bn, bx, blo, bln, blx, lbo, lbx, llo, llx, flo, fln, flx, fbn, fbr, fbm, fbx, upo, upn, iTt, iTf, iFt, iFf, oRs, vRo, vRn, List.getElem?_cons_zero, List.getElem?_cons_succ, List.set_cons_zero, List.set_cons_succ, List.length_nil, List.length_cons, List.length_map, Option.bind_some, Option.map_some, if_true, if_false, decide_true, decide_false, Bool.not_true, Bool.not_false, Bool.false_eq_true, ite_true, ite_false, h, e]
  · have e : cellAt ns k = 0 := by
      unfold cellAt; rw [List.getD_eq_getElem?_getD, List.getElem?_eq_none (by omega)]; rfl
    simp [r_law_cell, b_law_cell, fin_nx, fin_rt, fin_rn, fin_ex, frz_nil, frz_cons, frz1_q, fzK_ow, fzK_fr, fzK_un, evs_nil, evs_cons, sSeq_q, sIf_q, ifE_t, ifE_f, sRet_q, sRetV_q, rvK_fr, rvK_ow, sSet_q, sTup_q, tpK_s, sExpr_q, sApp_q, apK_ow, sExt_q, xtK_ow, sRaise_q, sPar2_q, sPar3_q, p3K_ok, eV_q, eK_q, cV_fr, cK_fr, cK_ow, eC_q, e1_q, e2_q, eL_q, eF_q, eAnd_q, eOr_q, eIf_q, eTup_q, eLst_q, eChain_q, chK_t, chK_f, eSl_q, bindO_n, bindO_s, boK_i, truth_none, truth_bool, truth_int, truth_list, truth_tuple, gNot_b, gNot_l, gNot_t, gNot_n, gAdd_i, gSub_i, gNeg_i, gLt_i, gLe_i, gGt_i, gGe_i, gEq_i, gNe_i, gIx_l, gIx_t, bLen_l, bLen_t, bAbs_i, bInt_i, bInt_b, bTuple_l, bTuple_t, bList_l, bList_t, gIsi_it, gIsi_ii, gIsi_bi, iSeq_q, iterD_l, iterD_t, iZip_q, zipL_tt, zipL_lt, zipL_tl, zipL_ll, iEnum_q, enumL_t, enumL_l, bindT_nm, bindT_2, bindT_3, wipe_nil, wipe_cons, turnC_n, turnC_s, atI_zero, atI_one, bo, bn, bx, blo, bln, blx, lbo, lbx, llo, llx, flo, fln, flx, fbn, fbr, fbm, fbx, upo, upn, iTt, iTf, iFt, iFf, oRs, vRo, vRn, List.getElem?_cons_zero, List.getElem?_cons_succ, List.set_cons_zero, List.set_cons_succ, List.length_nil, List.length_cons, List.length_map, Option.bind_some, Option.map_some, if_true, if_false, decide_true, decide_false, Bool.not_true, Bool.not_false, Bool.false_eq_true, ite_true, ite_false, h, e]
structure Dw (ds : List Int) : Prop where
  len : ds.length = 60
  rng : ∀ d ∈ ds, 0 ≤ d ∧ d < 1000
theorem fmod_rng (i : Int) {k : Int} (h : 0 < k) : 0 ≤ i.fmod k ∧ i.fmod k < k := ⟨Int.fmod_nonneg_of_pos _ h, Int.fmod_lt_of_pos _ h⟩
theorem gPow_i {i j : Int} (h : 0 ≤ j ∧ j ≤ 1000000 ∧ i.natAbs < 2 ^ 64) : gPow (.int i) (.int j) = .ok (.int (i ^ j.toNat)) := if_pos h
theorem pow18 : gPow (.int 10) (.int 18) = .ok (.int 1000000000000000000) := by
  rw [gPow_i (by decide)]
  have : (10 : Int) ^ (18 : Int).toNat = 1000000000000000000 := by decide
  rw [this]
theorem law_row_ok (ns : List Int) (at_ : Nat) : ∃ ds, f_law_row [.list (ns.map .int), .int at_] = .new (ds.map .int) ∧ Dw ds := by
  have hF : ∀ c : Int, ∃ s : Int × List Int × Cell, F1_law_row [.fr (.list (ns.map .int)), .fr (.int at_), .fr (.int c), .ow [], .un] = .nx [.fr (.list (ns.map .int)), .fr (.int at_), .fr (.int s.1), .ow (s.2.1.map .int), s.2.2] ∧ s.2.1.length = (List.range 60).length ∧ ∀ d ∈ s.2.1, 0 ≤ d ∧ d < 1000 := fun c => by
    unfold F1_law_row
    refine for_st (e := fun i : Nat => PyData.int (i : Int)) (xs := List.range 60) (fun s : Int × List Int × Cell => [.fr (.list (ns.map .int)), .fr (.int at_), .fr (.int s.1), .ow (s.2.1.map .int), s.2.2]) (fun done s => s.2.1.length = done.length ∧ (∀ d ∈ s.2.1, 0 ≤ d ∧ d < 1000)) (c, [], .un) ?_ ?_ ?_ ?_
    · exact iR1_n (n := 60) (by simp only [EV0]; rfl) (by decide)
    · simp only [EV0, List.map_nil]
    · simp
    · rintro done ⟨c, l, t⟩ x rest hx ⟨hl, hr⟩
      have h1 := mid_len hx
      have hl2 : l.length < 100000 := by simp at hl h1; omega
      have hx := List.mem_range.mp (mid_mem hx)
      rw [turnF_nm]
      have grow : ∀ v : Int, 0 ≤ v ∧ v < 1000 → (l ++ [v]).length = (done ++ [x]).length ∧ ∀ d ∈ l ++ [v], 0 ≤ d ∧ d < 1000 := fun v hv => ⟨by simp at hl ⊢; omega, fun d hd => by
        rcases List.mem_append.mp hd with hd | hd
        · exact hr d hd
        · rw [List.mem_singleton.mp hd]; exact hv⟩
      have k3 : DivOk 11 := divOk (by decide) (by decide)
      have k4 : DivOk 1000 := divOk (by decide) (by decide)
      by_cases h : cellAt ns at_ < 1000000000000000000
      · refine ⟨((c * 48271 + 131 * x + 7 + cellAt ns ((at_ + 1 + x) % 20)).fmod 2147483647, l ++ [(((c * 48271 + 131 * x + 7 + cellAt ns ((at_ + 1 + x) % 20)).fmod 2147483647).fdiv 11).fmod 1000], .fr (.int x)), ?_, grow _ (fmod_rng _ (by decide))⟩
        have e : Int.fmod ((at_ : Int) + 1 + x) 20 = (((at_ + 1 + x) % 20 : Nat) : Int) := by
          rw [Int.fmod_eq_emod_of_nonneg _ (by omega)]; simp
        have k1 : MulOk c 48271 := mulOk_r (by decide)
        have k2 : MulOk 131 (x : Int) := mulOk_l (by decide)
        have k5 := law_cell_ok ns ((at_ + 1 + x) % 20)
        have k6 : (2147483647 : Int) ≠ 0 := by decide
        have k7 : (20 : Int) ≠ 0 := by decide
        have k8 : (1000 : Int) ≠ 0 := by decide
        simp only [EV0, L1_law_row, law_cell_ok, pow18, gMul_i k1, gMul_i k2, gMod_i k6, gMod_i k7, gMod_i k8, gFdiv_i k3, h, e, k5, hl2, map_snoc]
      · refine ⟨(c.fdiv 1000, l ++ [c.fmod 1000], .fr (.int x)), ?_, grow _ (fmod_rng _ (by decide))⟩
        have k8 : (1000 : Int) ≠ 0 := by decide
        simp only [EV0, L1_law_row, law_cell_ok, pow18, gMod_i k8, gFdiv_i k4, h, hl2, map_snoc]
  obtain ⟨s, h1, h2, h3⟩ := hF (cellAt ns at_)
  refine ⟨s.2.1, ?_, by simpa using h2, h3⟩
  simp only [EV0, r_law_row, b_law_row, law_cell_ok, h1]
end U
set_option Elab.async false
set_option linter.all false
set_option maxRecDepth 100000
set_option maxHeartbeats 4000000
set_option exponentiation.threshold 500000
namespace U
open PySem PySem.Spec PyProof.Rows L2
def dw (ds : List Int) (i : Int) : Int := ds.getD (i.fmod 60).toNat 0
theorem dw_at {ds : List Int} (h : Dw ds) (i : Int) : atI (ds.map PyData.int) (i.fmod 60) = some (.int (dw ds i)) := by
  have r := fmod_rng i (k := 60) (by decide)
  rw [atI_pos _ _ r.1]
  have : (i.fmod 60).toNat < ds.length := by rw [h.len]; omega
  simp [dw, this]
theorem dw_lit {ds : List Int} (h : Dw ds) {i : Int} (h0 : 0 ≤ i) (h1 : i < 60) : atI (ds.map PyData.int) i = some (.int (dw ds i)) := by
  have e : i.fmod 60 = i := by rw [Int.fmod_eq_emod_of_nonneg _ (by decide)]; exact Int.emod_eq_of_lt h0 h1
  have := dw_at h i
  rw [e] at this
  exact this
end U
set_option Elab.async false
set_option linter.all false
set_option maxRecDepth 100000
set_option maxHeartbeats 4000000
set_option exponentiation.threshold 500000
namespace U
open PySem PySem.Spec PyProof.Rows L2
/-! ### numbers within cells, choices -/
def dQs (us : List Rat) : D := .tuple (us.map dQ)
def inC (c : Int × Int) (q : Rat) : Prop := (c.1 : Rat) ≤ q ∧ q ≤ (c.2 : Rat)
theorem dP_i (a : Int) : PyData.tuple [.int a, .int 1] = dQ (a : Rat) := rfl
theorem All2.imp {α β : Type} {P Q : α → β → Prop} (k : ∀ x y, P x y → Q x y) : ∀ {xs : List α} {ys : List β}, All2 P xs ys → All2 Q xs ys
  | _, _, .nil => .nil
  | _, _, .cons h hs => .cons (k _ _ h) (hs.imp k)
/-! ### sums of products -/
def dot (xs ys : List Rat) : Rat := (xs.zip ys).foldl (fun s p => s + p.1 * p.2) 0
/-! ### bounds of a sum of products -/
end U
set_option Elab.async false
set_option linter.all false
set_option maxRecDepth 100000
set_option maxHeartbeats 4000000
set_option exponentiation.threshold 500000
namespace U
open PySem PySem.Spec PyProof.Rows L2
end U
set_option Elab.async false
set_option linter.all false
set_option maxRecDepth 100000
set_option maxHeartbeats 4000000
set_option exponentiation.threshold 500000
namespace U
open PySem PySem.Spec PyProof.Rows L2
/-! ### the program: tables -/
theorem in_range_ok (v lo hi : Int) : f_in_range [.int v, .int lo, .int hi] = .ok (.bool (decide (lo ≤ v ∧ v ≤ hi))) := by
  by_cases h1 : lo ≤ v <;> by_cases h2 : v ≤ hi <;> simp only [EV0, r_in_range, b_in_range, h1, h2, and_self, and_true, and_false, true_and, false_and]
def cellIn (l : Int) (c : Int × Int) : Prop := -l ≤ c.1 ∧ c.1 ≤ c.2 ∧ c.2 ≤ l
theorem is_cell_ok {c : Int × Int} {l : Int} (h : cellIn l c) : f_is_cell [dP c, .int l] = .ok (.bool true) := by
  have hC : C1_is_cell [.fr (dP c), .fr (.int l), .un] = .new (([c.1, c.2].filter fun v => !decide (0 - l ≤ v ∧ v ≤ l)).map PyData.int) := by
    unfold C1_is_cell
    refine comp_fil (e := PyData.int) (xs := [c.1, c.2]) ?_ (by simp) fun v hv => ?_
    · simp only [EV0, dP, List.map_cons, List.map_nil]
    · simp only [EV0, in_range_ok]
  have e : ([c.1, c.2].filter fun v => !decide (0 - l ≤ v ∧ v ≤ l)) = [] := by
    obtain ⟨h1, h2, h3⟩ := h
    rw [List.filter_eq_nil_iff]
    intro v hv
    simp at hv ⊢
    omega
  rw [e] at hC
  have h2 : c.1 ≤ c.2 := h.2.1
  simp only [dP] at hC
  simp [r_is_cell, b_is_cell, fin_nx, fin_rt, fin_rn, fin_ex, frz_nil, frz_cons, frz1_q, fzK_ow, fzK_fr, fzK_un, evs_nil, evs_cons, sSeq_q, sIf_q, ifE_t, ifE_f, sRet_q, sRetV_q, rvK_fr, rvK_ow, sSet_q, sTup_q, tpK_s, sExpr_q, sApp_q, apK_ow, sExt_q, xtK_ow, sRaise_q, sPar2_q, sPar3_q, p3K_ok, eV_q, eK_q, cV_fr, cK_fr, cK_ow, eC_q, e1_q, e2_q, eL_q, eF_q, eAnd_q, eOr_q, eIf_q, eTup_q, eLst_q, eChain_q, chK_t, chK_f, eSl_q, bindO_n, bindO_s, boK_i, truth_none, truth_bool, truth_int, truth_list, truth_tuple, gNot_b, gNot_l, gNot_t, gNot_n, gAdd_i, gSub_i, gNeg_i, gLt_i, gLe_i, gGt_i, gGe_i, gEq_i, gNe_i, gIx_l, gIx_t, bLen_l, bLen_t, bAbs_i, bInt_i, bInt_b, bTuple_l, bTuple_t, bList_l, bList_t, gIsi_it, gIsi_ii, gIsi_bi, iSeq_q, iterD_l, iterD_t, iZip_q, zipL_tt, zipL_lt, zipL_tl, zipL_ll, iEnum_q, enumL_t, enumL_l, bindT_nm, bindT_2, bindT_3, wipe_nil, wipe_cons, turnC_n, turnC_s, atI_zero, atI_one, bo, bn, bx, blo, bln, blx, lbo, lbx, llo, llx, flo, fln, flx, fbn, fbr, fbm, fbx, upo, upn, iTt, iTf, iFt, iFf, oRs, vRo, vRn, List.getElem?_cons_zero, List.getElem?_cons_succ, List.set_cons_zero, List.set_cons_succ, List.length_nil, List.length_cons, List.length_map, Option.bind_some, Option.map_some, if_true, if_false, decide_true, decide_false, Bool.not_true, Bool.not_false, Bool.false_eq_true, ite_true, ite_false, dP, hC, h2]
structure TabOk (t : List (List (Int × Int))) (m n : Nat) : Prop where
  rows : t.length = m
  cols : ∀ r ∈ t, r.length = n
  cell : ∀ r ∈ t, ∀ c ∈ r, cellIn 20 c
  m1 : 1 ≤ m
  m3 : m ≤ 3
  n1 : 1 ≤ n
  n3 : n ≤ 3
theorem TabOk.ne {t : List (List (Int × Int))} {m n : Nat} (h : TabOk t m n) : ∃ r rest, t = r :: rest := by
  cases t with
  | nil => have := h.rows; have := h.m1; simp at *; omega
  | cons r rest => exact ⟨r, rest, rfl⟩
theorem is_table_ok {t : List (List (Int × Int))} {m n : Nat} (h : TabOk t m n) : f_is_table [dT t] = .ok (.bool true) := by
  obtain ⟨r0, rest, e0⟩ := h.ne
  have at0 : atI (t.map dR) 0 = some (dR r0) := by rw [e0]; exact atI_zero _ _
  have l0 : r0.length = n := h.cols r0 (by rw [e0]; exact List.mem_cons_self)
  have hF : ∃ s : Cell, F1_is_table [.fr (dT t), .un, .un] = .nx [.fr (dT t), s, .un] ∧ True := by
    unfold F1_is_table
    refine for_st (e := dR) (xs := t) (fun s : Cell => [.fr (dT t), s, .un]) (fun _ _ => True) .un ?_ ?_ trivial ?_
    · simp only [EV0, dT]
    · simp only [EV0]
    · intro done s r rest' hx _
      have hr := mid_mem hx
      refine ⟨.fr (dR r), ?_, trivial⟩
      have hC : C1_is_table [.fr (dT t), .fr (dR r), .un] = .new ((r.filter fun c => false).map dP) := by
        unfold C1_is_table
        refine comp_fil (e := dP) (xs := r) ?_ (by rw [h.cols r hr]; have := h.n3; omega) fun c hc => ?_
        · simp only [EV0, dR]
        · simp only [EV0, is_cell_ok (h.cell r hr c hc)]
      have e : (r.filter fun c => false) = [] := by simp
      rw [e] at hC
      have lr := h.cols r hr
      have n1 := h.n1; have n3 := h.n3
      have q1 : (1 : Int) ≤ (r0.length : Int) := by omega
      have q2 : (r0.length : Int) ≤ 3 := by omega
      have q3 : (r.length : Int) = (r0.length : Int) := by omega
      rw [turnF_nm]
      simp only [dT, dR] at hC
      simp only [EV0, L1_is_table, dT, dR, at0, q1, q2, q3, hC, List.map_nil, List.isEmpty_nil]
  obtain ⟨s, h1, _⟩ := hF
  have q1 : (1 : Int) ≤ (t.length : Int) := by have := h.rows; have := h.m1; omega
  have q2 : (t.length : Int) ≤ 3 := by have := h.rows; have := h.m3; omega
  simp only [dT] at h1
  simp only [EV0, r_is_table, b_is_table, dT, q1, q2, h1]
theorem check_table_ok {t : List (List (Int × Int))} {m n : Nat} (h : TabOk t m n) : f_check_table [dT t] = .ok .none := by
  simp only [EV0, r_check_table, b_check_table, is_table_ok h]
end U
set_option Elab.async false
set_option linter.all false
set_option maxRecDepth 100000
set_option maxHeartbeats 4000000
set_option exponentiation.threshold 500000
namespace U
open PySem PySem.Spec PyProof.Rows L2
/-! ### tables by places -/
def row (n : Nat) (f : Nat → Int × Int) : List (Int × Int) := (List.range n).map f
def tab (m n : Nat) (f : Nat → Nat → Int × Int) : List (List (Int × Int)) := (List.range m).map fun i => row n (f i)
theorem row_len (n : Nat) (f : Nat → Int × Int) : (row n f).length = n := by simp [row]
theorem tab_len (m n : Nat) (f : Nat → Nat → Int × Int) : (tab m n f).length = m := by simp [tab]
theorem mem_tab {m n : Nat} {f : Nat → Nat → Int × Int} {P : Int × Int → Prop} (h : ∀ i j, i < m → j < n → P (f i j)) : ∀ r ∈ tab m n f, ∀ c ∈ r, P c := by
  intro r hr c hc
  unfold tab at hr
  obtain ⟨i, hi, rfl⟩ := List.mem_map.mp hr
  obtain ⟨j, hj, rfl⟩ := List.mem_map.mp hc
  exact h i j (List.mem_range.mp hi) (List.mem_range.mp hj)
theorem tab_cols {m n : Nat} {f : Nat → Nat → Int × Int} : ∀ r ∈ tab m n f, r.length = n := by
  intro r hr
  unfold tab at hr
  obtain ⟨i, hi, rfl⟩ := List.mem_map.mp hr
  exact row_len _ _
theorem TabOk.of {m n : Nat} {f : Nat → Nat → Int × Int} (hm : 1 ≤ m ∧ m ≤ 3) (hn : 1 ≤ n ∧ n ≤ 3) (h : ∀ i j, i < m → j < n → cellIn 20 (f i j)) : TabOk (tab m n f) m n :=
  ⟨tab_len _ _ _, tab_cols, mem_tab h, hm.1, hm.2, hn.1, hn.2⟩
theorem TabOk.at {m n : Nat} {f : Nat → Nat → Int × Int} (h : TabOk (tab m n f) m n) {i j : Nat} (hi : i < m) (hj : j < n) : cellIn 20 (f i j) := by
  refine h.cell (row n (f i)) ?_ (f i j) ?_
  · exact List.mem_map.mpr ⟨i, List.mem_range.mpr hi, rfl⟩
  · exact List.mem_map.mpr ⟨j, List.mem_range.mpr hj, rfl⟩
/-! ### check_two, plus -/
end U
set_option Elab.async false
set_option linter.all false
set_option maxRecDepth 100000
set_option maxHeartbeats 4000000
set_option exponentiation.threshold 500000
namespace U
open PySem PySem.Spec PyProof.Rows L2
/-! ### widened -/
/-! ### product -/
section
variable {m k n : Nat} {f g : Nat → Nat → Int × Int}
end
end U
set_option Elab.async false
set_option linter.all false
set_option maxRecDepth 100000
set_option maxHeartbeats 4000000
set_option exponentiation.threshold 500000
namespace U
open PySem PySem.Spec PyProof.Rows L2
/-! ### told numbers, open cells, cells made exact -/
def told (ds : List Int) (at_ : Int) (f : Nat → Nat → Int × Int) (i j : Nat) : Int := (f i j).1 + (dw ds (at_ + 4 * i + j)).fmod ((f i j).2 - (f i j).1 + 1)
section
variable {m n : Nat} {f : Nat → Nat → Int × Int} {ds : List Int} {at_ : Int}
/-! open cells -/
/-! cells made exact -/
end
/-! ### the span of one cell times one number -/
end U
set_option Elab.async false
set_option linter.all false
set_option maxRecDepth 100000
set_option maxHeartbeats 4000000
set_option exponentiation.threshold 500000
namespace U
open PySem PySem.Spec PyProof.Rows L2
/-! ### tables of fractions by places -/
theorem All2.range {α : Type} [Inhabited α] {P : Nat → α → Prop} : ∀ {n : Nat} {k : Nat} {ys : List α}, All2 P (List.range' k n) ys → ∃ v : Nat → α, ys = (List.range' k n).map v ∧ ∀ i, k ≤ i → i < k + n → P i (v i)
  | 0, k, ys, h => by
    simp only [List.range'_zero] at h
    cases h
    exact ⟨fun _ => default, rfl, fun i h1 h2 => by omega⟩
  | n + 1, k, ys, h => by
    rw [List.range'_succ] at h
    cases h with
    | @cons _ y _ ys hp hs =>
      obtain ⟨v, e, hv⟩ := All2.range hs
      refine ⟨fun i => if i = k then y else v i, ?_, fun i h1 h2 => ?_⟩
      · rw [List.range'_succ, List.map_cons, if_pos rfl, e]
        congr 1
        refine List.map_congr_left fun i hi => ?_
        have := List.mem_range'_1.mp hi
        rw [if_neg (by omega)]
      · by_cases hi : i = k
        · subst hi; simpa using hp
        · simp only [hi, if_false]; exact hv i (by omega) (by omega)
/-! ### law_fits -/
/-! ### check_two and product refuse -/
end U
set_option Elab.async false
set_option linter.all false
set_option maxRecDepth 100000
set_option maxHeartbeats 4000000
set_option exponentiation.threshold 500000
namespace U
open PySem PySem.Spec PyProof.Rows L2
/-! ### a try -/
/-! ### comparing -/
/-! ### products of numbers within cells -/
end U
set_option Elab.async false
set_option linter.all false
set_option maxRecDepth 100000
set_option maxHeartbeats 4000000
set_option exponentiation.threshold 500000
namespace U
open PySem PySem.Spec PyProof.Rows L2
/-! ### the program's fractions -/
theorem cd_loop : ∀ (n : Nat) (x y : Nat), y < n → whGo [] (eK 1) L1_common_divisor n [.fr (.int x), .fr (.int y)] = .nx [.fr (.int (Nat.gcd x y)), .fr (.int 0)]
  | 0, x, y, h => by omega
  | n + 1, x, y, h => by
    by_cases hy : y = 0
    · subst hy
      simp [whGo, fin_nx, fin_rt, fin_rn, fin_ex, frz_nil, frz_cons, frz1_q, fzK_ow, fzK_fr, fzK_un, evs_nil, evs_cons, sSeq_q, sIf_q, ifE_t, ifE_f, sRet_q, sRetV_q, rvK_fr, rvK_ow, sSet_q, sTup_q, tpK_s, sExpr_q, sApp_q, apK_ow, sExt_q, xtK_ow, sRaise_q, sPar2_q, sPar3_q, p3K_ok, eV_q, eK_q, cV_fr, cK_fr, cK_ow, eC_q, e1_q, e2_q, eL_q, eF_q, eAnd_q, eOr_q, eIf_q, eTup_q, eLst_q, eChain_q, chK_t, chK_f, eSl_q, bindO_n, bindO_s, boK_i, truth_none, truth_bool, truth_int, truth_list, truth_tuple, gNot_b, gNot_l, gNot_t, gNot_n, gAdd_i, gSub_i, gNeg_i, gLt_i, gLe_i, gGt_i, gGe_i, gEq_i, gNe_i, gIx_l, gIx_t, bLen_l, bLen_t, bAbs_i, bInt_i, bInt_b, bTuple_l, bTuple_t, bList_l, bList_t, gIsi_it, gIsi_ii, gIsi_bi, iSeq_q, iterD_l, iterD_t, iZip_q, zipL_tt, zipL_lt, zipL_tl, zipL_ll, iEnum_q, enumL_t, enumL_l, bindT_nm, bindT_2, bindT_3, wipe_nil, wipe_cons, turnC_n, turnC_s, atI_zero, atI_one, bo, bn, bx, blo, bln, blx, lbo, lbx, llo, llx, flo, fln, flx, fbn, fbr, fbm, fbx, upo, upn, iTt, iTf, iFt, iFf, oRs, vRo, vRn, List.getElem?_cons_zero, List.getElem?_cons_succ, List.set_cons_zero, List.set_cons_succ, List.length_nil, List.length_cons, List.length_map, Option.bind_some, Option.map_some, if_true, if_false, decide_true, decide_false, Bool.not_true, Bool.not_false, Bool.false_eq_true, ite_true, ite_false]
    · have h2 : (y : Int) ≠ 0 := by omega
      have e : Int.fmod (x : Int) (y : Int) = ((x % y : Nat) : Int) := by rw [Int.fmod_eq_emod_of_nonneg _ (by omega)]; simp
      have ih := cd_loop n y (x % y) (by have := Nat.mod_lt x (Nat.pos_of_ne_zero hy); omega)
      have hb : ((y : Int) != 0) = true := by simp [hy]
      rw [show Nat.gcd x y = Nat.gcd y (x % y) by rw [Nat.gcd_comm, Nat.gcd_rec, Nat.gcd_comm]]
      rw [← ih]
      simp only [EV0, whGo, L1_common_divisor, gMod_i h2, hb, e]
theorem common_divisor_ok (a b : Int) (hs : b.natAbs < 2 ^ 9000) : f_common_divisor [.int a, .int b] = .ok (.int (Nat.gcd a.natAbs b.natAbs)) := by
  have g := cd_loop fuel a.natAbs b.natAbs (fuel_big hs)
  have qa : (if a < 0 then -a else a) = (a.natAbs : Int) := by omega
  have qb : (if b < 0 then -b else b) = (b.natAbs : Int) := by omega
  have w : W1_common_divisor [.fr (.int a.natAbs), .fr (.int b.natAbs)] = .nx [.fr (.int (Nat.gcd a.natAbs b.natAbs)), .fr (.int 0)] := by
    unfold W1_common_divisor sWhile
    exact g
  simp only [EV0, r_common_divisor, b_common_divisor, qa, qb, w]
theorem part_ok (t : Int) (b : Nat) (hb : b ≠ 0) (hs : b < 2 ^ 9000) : f_part [.int t, .int b] = .ok (dQ (mkRat t b)) := by
  have cd := common_divisor_ok t b (by simpa using hs)
  have hg : 0 < Nat.gcd t.natAbs b := Nat.gcd_pos_of_pos_right _ (Nat.pos_of_ne_zero hb)
  have hle : Nat.gcd t.natAbs b ≤ b := Nat.gcd_le_right _ (Nat.pos_of_ne_zero hb)
  have hd : DivOk (Nat.gcd t.natAbs b : Int) := ⟨by omega, by simp; omega⟩
  have q1 : Int.fdiv t (Nat.gcd t.natAbs b : Int) = (mkRat t b).num := by
    rw [Rat.num_mkRat, if_neg hb, Int.fdiv_eq_ediv_of_nonneg _ (by omega), Nat.gcd_comm]
  have q2 : Int.fdiv (b : Int) (Nat.gcd t.natAbs b : Int) = (mkRat t b).den := by
    rw [Rat.den_mkRat, if_neg hb, Int.fdiv_eq_ediv_of_nonneg _ (by omega), Nat.gcd_comm]
    simp
  have hn : ¬ ((b : Int) < 0) := by omega
  rw [Int.natAbs_natCast] at cd
  simp only [EV0, r_part, b_part, cd, hn, gFdiv_i hd, q1, q2, dQ]
theorem multiplied_ok {x y : Rat} {n m : Nat} (hx : Sz n x) (hy : Sz m y) (h : n + m ≤ 9000) : f_multiplied [dQ x, dQ y] = .ok (dQ (x * y)) := by
  have k1 : MulOk x.num y.num := mulOk hx.1 hy.1
  have k2 : MulOk (x.den : Int) (y.den : Int) := mulOk (n := n) (m := m) (by simpa using hx.2) (by simpa using hy.2)
  have h0 : x.den * y.den ≠ 0 := Nat.mul_ne_zero x.den_nz y.den_nz
  have e := part_ok (x.num * y.num) (x.den * y.den) h0 (nat9 (lt_mul hx.2 hy.2) h)
  rw [← Rat.mul_def'] at e
  simp only [Int.natCast_mul] at e
  simp only [EV0, r_multiplied, b_multiplied, dQ, gMul_i k1, gMul_i k2, e]
theorem added_ok {x y : Rat} {n m : Nat} (hx : Sz n x) (hy : Sz m y) (h : n + m ≤ 9000) : f_added [dQ x, dQ y] = .ok (dQ (x + y)) := by
  have k1 : MulOk x.num (y.den : Int) := mulOk (n := n) (m := m) hx.1 (by simpa using hy.2)
  have k3 : MulOk y.num (x.den : Int) := mulOk (n := m) (m := n) hy.1 (by simpa using hx.2)
  have k2 : MulOk (x.den : Int) (y.den : Int) := mulOk (n := n) (m := m) (by simpa using hx.2) (by simpa using hy.2)
  have h0 : x.den * y.den ≠ 0 := Nat.mul_ne_zero x.den_nz y.den_nz
  have e := part_ok (x.num * y.den + y.num * x.den) (x.den * y.den) h0 (nat9 (lt_mul hx.2 hy.2) h)
  rw [← Rat.add_def'] at e
  simp only [Int.natCast_mul] at e
  simp only [EV0, r_added, b_added, dQ, gMul_i k1, gMul_i k2, gMul_i k3, e]
theorem is_part_ok {q : Rat} (h : q.den < 2 ^ 9000) : f_is_part [dQ q] = .ok (.bool true) := by
  have hC : C1_is_part [.fr (dQ q), .un] = .new (([q.num, (q.den : Int)].filter fun v => false).map PyData.int) := by
    unfold C1_is_part
    refine comp_fil (e := PyData.int) (xs := [q.num, (q.den : Int)]) ?_ (by simp) fun v hv => ?_
    · simp only [EV0, dQ, List.map_cons, List.map_nil]
    · simp only [EV0]
  have e : ([q.num, (q.den : Int)].filter fun v => false) = [] := by simp
  rw [e] at hC
  have cd := common_divisor_ok q.num q.den (by simpa using h)
  rw [Int.natAbs_natCast, q.reduced] at cd
  have hp : (0 : Int) < q.den := by have := q.den_pos; omega
  have l2 : (((0 + 1 + 1 : Nat) : Int) = 2) = True := by simp
  have one : (((1 : Nat) : Int) = 1) = True := by simp
  simp only [dQ, List.map_nil] at hC
  simp only [EV0, r_is_part, b_is_part, dQ, l2, hC, List.isEmpty_nil, hp, cd, one]
end U
set_option Elab.async false
set_option linter.all false
set_option maxRecDepth 100000
set_option maxHeartbeats 4000000
set_option exponentiation.threshold 500000
namespace U
open PySem PySem.Spec PyProof.Rows L2
/-! ### systems and unknowns -/
structure SideOk (s : List (Int × Int)) (m : Nat) : Prop where
  rows : s.length = m
  cell : ∀ c ∈ s, cellIn 50 c
theorem is_side_ok {s : List (Int × Int)} {m : Nat} (h : SideOk s m) (m1 : 1 ≤ m) (m3 : m ≤ 3) : f_is_side [dR s] = .ok (.bool true) := by
  have hC : C1_is_side [.fr (dR s), .un] = .new ((s.filter fun c => false).map dP) := by
    unfold C1_is_side
    refine comp_fil (e := dP) (xs := s) ?_ (by rw [h.rows]; omega) fun c hc => ?_
    · simp only [EV0, dR]
    · simp only [EV0, is_cell_ok (h.cell c hc)]
  have e : (s.filter fun c => false) = [] := by simp
  rw [e] at hC
  have q1 : (1 : Int) ≤ (s.length : Int) := by have := h.rows; omega
  have q2 : (s.length : Int) ≤ 3 := by have := h.rows; omega
  simp only [dR, List.map_nil] at hC
  simp only [EV0, r_is_side, b_is_side, dR, q1, q2, hC, List.isEmpty_nil]
theorem check_system_ok {t : List (List (Int × Int))} {s : List (Int × Int)} {m n : Nat} (ht : TabOk t m n) (hs : SideOk s m) : f_check_system [dT t, dR s] = .ok .none := by
  have c := check_table_ok ht
  have d := is_side_ok hs ht.m1 ht.m3
  have q : (s.length : Int) = (t.length : Int) := by have := ht.rows; have := hs.rows; omega
  simp only [dT] at c
  simp only [dR] at d
  simp only [EV0, r_check_system, b_check_system, dT, dR, c, d, q]
theorem are_unknowns_ok {t : List (List (Int × Int))} {m n : Nat} (ht : TabOk t m n) {us : List Rat} (hl : us.length = n) (hu : ∀ u ∈ us, u.den < 2 ^ 9000) : f_are_unknowns [dT t, dQs us] = .ok (.bool true) := by
  obtain ⟨r0, rest, e0⟩ := ht.ne
  have at0 : atI (t.map dR) 0 = some (dR r0) := by rw [e0]; exact atI_zero _ _
  have l0 : r0.length = n := ht.cols r0 (by rw [e0]; exact List.mem_cons_self)
  have hC : C1_are_unknowns [.fr (dT t), .fr (dQs us), .un] = .new ((us.filter fun c => false).map dQ) := by
    unfold C1_are_unknowns
    refine comp_fil (e := dQ) (xs := us) ?_ (by have := ht.n3; omega) fun c hc => ?_
    · simp only [EV0, dQs]
    · simp only [EV0, is_part_ok (hu c hc)]
  have e : (us.filter fun c => false) = [] := by simp
  rw [e] at hC
  have q : (us.length : Int) = (r0.length : Int) := by omega
  simp only [dT, dQs, List.map_nil] at hC
  simp only [EV0, r_are_unknowns, b_are_unknowns, dT, dQs, at0, dR, q, hC, List.isEmpty_nil]
theorem check_all_ok {t : List (List (Int × Int))} {s : List (Int × Int)} {m n : Nat} (ht : TabOk t m n) (hs : SideOk s m) {us : List Rat} (hl : us.length = n) (hu : ∀ u ∈ us, u.den < 2 ^ 9000) : f_check_all [dT t, dR s, dQs us] = .ok .none := by
  have c := check_system_ok ht hs
  have d := are_unknowns_ok ht hl hu
  have d2 : f_check_unknowns [dT t, dQs us] = .ok .none := by simp only [EV0, r_check_unknowns, b_check_unknowns, d]
  simp only [EV0, r_check_all, b_check_all, c, d2]
/-! ### the least and the greatest sum of a row -/
def loT (c : Int × Int) (u : Rat) : Rat := if u < 0 then (c.2 : Rat) * u else (c.1 : Rat) * u
def hiT (c : Int × Int) (u : Rat) : Rat := if u < 0 then (c.1 : Rat) * u else (c.2 : Rat) * u
def loS (r : List (Int × Int)) (us : List Rat) : Rat := (r.zip us).foldl (fun s p => s + loT p.1 p.2) 0
def hiS (r : List (Int × Int)) (us : List Rat) : Rat := (r.zip us).foldl (fun s p => s + hiT p.1 p.2) 0
theorem num_neg (u : Rat) : (u.num < 0) ↔ u < 0 := by
  rw [Rat.lt_iff]; simp
theorem ends_ok {r : List (Int × Int)} {us : List Rat} {a : Nat} (hr : ∀ c ∈ r, cellIn 20 c) (hu : ∀ u ∈ us, Sz a u) (hn : (a + 6) * (r.zip us).length + 2 ≤ 4000) : f_ends [dR r, dQs us] = .ok (.tuple [dQ (loS r us), dQ (hiS r us)]) ∧ Sz ((a + 6) * (r.zip us).length + 2) (loS r us) ∧ Sz ((a + 6) * (r.zip us).length + 2) (hiS r us) := by
  have hF : ∃ s : (Rat × Rat) × Cell × Cell × Cell × Cell, F1_ends [.fr (dR r), .fr (dQs us), .fr (dQ 0), .fr (dQ 0), .un, .un, .un, .un] = .nx [.fr (dR r), .fr (dQs us), .fr (dQ s.1.1), .fr (dQ s.1.2), s.2.1, s.2.2.1, s.2.2.2.1, s.2.2.2.2] ∧ s.1.1 = (r.zip us).foldl (fun s p => s + loT p.1 p.2) 0 ∧ s.1.2 = (r.zip us).foldl (fun s p => s + hiT p.1 p.2) 0 ∧ Sz ((a + 6) * (r.zip us).length + 2) s.1.1 ∧ Sz ((a + 6) * (r.zip us).length + 2) s.1.2 := by
    unfold F1_ends
    refine for_st (e := fun p : (Int × Int) × Rat => PyData.tuple [dP p.1, dQ p.2]) (xs := r.zip us) (fun s : (Rat × Rat) × Cell × Cell × Cell × Cell => [.fr (dR r), .fr (dQs us), .fr (dQ s.1.1), .fr (dQ s.1.2), s.2.1, s.2.2.1, s.2.2.2.1, s.2.2.2.2]) (fun done s => s.1.1 = done.foldl (fun s p => s + loT p.1 p.2) 0 ∧ s.1.2 = done.foldl (fun s p => s + hiT p.1 p.2) 0 ∧ Sz ((a + 6) * done.length + 2) s.1.1 ∧ Sz ((a + 6) * done.length + 2) s.1.2) ((0, 0), .un, .un, .un, .un) ?_ ?_ ?_ ?_
    · simp only [EV0, dR, dQs, zip2D_map]
    · simp only [EV0, dR, dQs]
    · exact ⟨rfl, rfl, Sz.mono (n := 2) (q := 0) ⟨by decide +kernel, by decide +kernel⟩ (by simp), Sz.mono (n := 2) (q := 0) ⟨by decide +kernel, by decide +kernel⟩ (by simp)⟩
    · rintro done ⟨⟨lo, hi⟩, c4, c5, c6, c7⟩ p rest hp ⟨h1, h2, h3, h4⟩
      have hm := mid_mem hp
      have hl := mid_len hp
      obtain ⟨y1, y2, y3⟩ := hr p.1 (List.of_mem_zip hm).1
      have su := hu p.2 (List.of_mem_zip hm).2
      have s1 : Sz 5 (p.1.1 : Rat) := Sz.int (by omega)
      have s2 : Sz 5 (p.1.2 : Rat) := Sz.int (by omega)
      have le : (a + 6) * (done.length + 1) ≤ (a + 6) * (r.zip us).length := Nat.mul_le_mul_left _ hl
      rw [Nat.mul_add] at le
      have m1 := multiplied_ok s1 su (by omega)
      have m2 := multiplied_ok s2 su (by omega)
      have sl : Sz (5 + a) (loT p.1 p.2) := by
        unfold loT; split
        · exact s2.mul su
        · exact s1.mul su
      have sh : Sz (5 + a) (hiT p.1 p.2) := by
        unfold hiT; split
        · exact s1.mul su
        · exact s2.mul su
      have a1 := added_ok h3 sl (by omega)
      have a2 := added_ok h4 sh (by omega)
      simp only at a1 a2
      have nn := num_neg p.2
      have z1 : Sz ((a + 6) * (done ++ [p]).length + 2) (lo + loT p.1 p.2) := (h3.add sl).mono (by simp only [List.length_append, List.length_cons, List.length_nil]; rw [Nat.mul_add]; omega)
      have z2 : Sz ((a + 6) * (done ++ [p]).length + 2) (hi + hiT p.1 p.2) := (h4.add sh).mono (by simp only [List.length_append, List.length_cons, List.length_nil]; rw [Nat.mul_add]; omega)
      have f1 : lo + loT p.1 p.2 = (done ++ [p]).foldl (fun s p => s + loT p.1 p.2) 0 := by
        simp only [List.foldl_append, List.foldl_cons, List.foldl_nil]; rw [← h1]
      have f2 : hi + hiT p.1 p.2 = (done ++ [p]).foldl (fun s p => s + hiT p.1 p.2) 0 := by
        simp only [List.foldl_append, List.foldl_cons, List.foldl_nil]; rw [← h2]
      have gQ0 : ∀ q : Rat, gIx (dQ q) (.int 0) = .ok (.int q.num) := fun q => by rw [dQ, gIx_t, atI_zero]; rfl
      by_cases h : p.2 < 0
      · have hn' := nn.mpr h
        have el : loT p.1 p.2 = (p.1.2 : Rat) * p.2 := if_pos h
        have eh : hiT p.1 p.2 = (p.1.1 : Rat) * p.2 := if_pos h
        refine ⟨((lo + loT p.1 p.2, hi + hiT p.1 p.2), .fr (dP p.1), .fr (dQ p.2), .fr (dQ (loT p.1 p.2)), .fr (dQ (hiT p.1 p.2))), ?_, f1, f2, z1, z2⟩
        rw [turnF_tp2]
        rw [el] at a1
        rw [eh] at a2
        rw [el, eh]
        simp only [EV0, L1_ends, dP, dP_i, m1, m2, gQ0, hn', a1, a2]
      · have hn' : ¬ p.2.num < 0 := fun z => h (nn.mp z)
        have el : loT p.1 p.2 = (p.1.1 : Rat) * p.2 := if_neg h
        have eh : hiT p.1 p.2 = (p.1.2 : Rat) * p.2 := if_neg h
        refine ⟨((lo + loT p.1 p.2, hi + hiT p.1 p.2), .fr (dP p.1), .fr (dQ p.2), .fr (dQ (loT p.1 p.2)), .fr (dQ (hiT p.1 p.2))), ?_, f1, f2, z1, z2⟩
        rw [turnF_tp2]
        rw [el] at a1
        rw [eh] at a2
        rw [el, eh]
        simp only [EV0, L1_ends, dP, dP_i, m1, m2, gQ0, hn', a1, a2]
  obtain ⟨s, h1, h2, h3, h4, h5⟩ := hF
  have e0 : PyData.tuple [.int 0, .int 1] = dQ 0 := rfl
  have h2 : s.1.1 = loS r us := h2
  have h3 : s.1.2 = hiS r us := h3
  rw [h2] at h1 h4
  rw [h3] at h1 h5
  refine ⟨?_, h4, h5⟩
  simp only [EV0, r_ends, b_ends, e0, h1]
end U
set_option Elab.async false
set_option linter.all false
set_option maxRecDepth 100000
set_option maxHeartbeats 4000000
set_option exponentiation.threshold 500000
namespace U
open PySem PySem.Spec PyProof.Rows L2
/-! ### loops that return at the first item that fails -/
theorem forGo_all {α σ : Type} {body : Ss} {T : Tg} {e : α → D} (st : σ → Rho) (p : α → Bool) (r : D) : ∀ (xs : List α) (s : σ), (∀ s x, x ∈ xs → (p x = true ∧ ∃ s', turnF T body (e x) (st s) = .nx (st s')) ∨ (p x = false ∧ turnF T body (e x) (st s) = .rt r)) → (xs.all p = true ∧ ∃ s', forGo body T (xs.map e) (st s) = .nx (st s')) ∨ (xs.all p = false ∧ forGo body T (xs.map e) (st s) = .rt r)
  | [], s, _ => .inl ⟨rfl, s, rfl⟩
  | x :: xs, s, h => by
    have go : ∀ f, turnF T body (e x) (st s) = f → f ≠ .bad → forGo body T ((x :: xs).map e) (st s) = f.bind (forGo body T (xs.map e)) := fun f hf nb => by
      unfold turnF at hf
      simp only [List.map_cons, forGo]
      cases hb : bindT T (e x) (st s) with
      | none => rw [hb] at hf; exact absurd hf.symm nb
      | some ρ1 => rw [hb] at hf; simp only at hf ⊢; rw [hf]
    rcases h s x List.mem_cons_self with ⟨h1, s', h2⟩ | ⟨h1, h2⟩
    · rw [go _ h2 (by intro z; cases z), Fl.bind_nx]
      rcases forGo_all st p r xs s' fun s x hx => h s x (List.mem_cons_of_mem _ hx) with ⟨k1, k2⟩ | ⟨k1, k2⟩
      · exact .inl ⟨by simp only [List.all_cons, h1, k1, Bool.and_self], k2⟩
      · exact .inr ⟨by simp only [List.all_cons, h1, k1, Bool.and_false], k2⟩
    · rw [go _ h2 (by intro z; cases z), Fl.bind_rt]
      exact .inr ⟨by simp only [List.all_cons, h1, Bool.false_and], rfl⟩
theorem for_all {α σ : Type} {T : Tg} {lk : List Nat} {mi : SmL} {body : Ss} {ρ0 : Rho} {e : α → D} {xs : List α} (st : σ → Rho) (p : α → Bool) (r : D) (s0 : σ) (hi : mi (frz ρ0 lk) = .ok (xs.map e)) (h0 : frz ρ0 lk = st s0) (hs : ∀ s x, x ∈ xs → (p x = true ∧ ∃ s', turnF T body (e x) (st s) = .nx (st s')) ∨ (p x = false ∧ turnF T body (e x) (st s) = .rt r)) : (xs.all p = true ∧ ∃ s', sFor T lk mi body ρ0 = .nx (st s')) ∨ (xs.all p = false ∧ sFor T lk mi body ρ0 = .rt r) := by
  have h := forGo_all (T := T) (e := e) (body := body) st p r xs s0 hs
  unfold sFor
  simp only [hi, h0]
  rw [h0] at hi
  simp only [hi]
  exact h
/-! ### the kinds of solving -/
structure AllOk (t : List (List (Int × Int))) (s : List (Int × Int)) (us : List Rat) (m n a : Nat) : Prop where
  tab : TabOk t m n
  side : SideOk s m
  len : us.length = n
  sz : ∀ u ∈ us, Sz a u
  le : a ≤ 1000
theorem AllOk.chk {t s us m n a} (h : AllOk t s us m n a) : f_check_all [dT t, dR s, dQs us] = .ok .none :=
  check_all_ok h.tab h.side h.len fun u hu => nat9 (h.sz u hu).2 (by have := h.le; omega)
theorem AllOk.ends {t s us m n a} (h : AllOk t s us m n a) {r : List (Int × Int)} (hr : r ∈ t) : f_ends [dR r, dQs us] = .ok (.tuple [dQ (loS r us), dQ (hiS r us)]) ∧ Sz 4000 (loS r us) ∧ Sz 4000 (hiS r us) := by
  have l : (r.zip us).length ≤ 3 := by have := h.tab.n3; have := h.len; simp only [List.length_zip]; omega
  have l2 : (a + 6) * (r.zip us).length ≤ (1000 + 6) * 3 := Nat.mul_le_mul (by have := h.le; omega) l
  have E := ends_ok (h.tab.cell r hr) h.sz (by omega)
  exact ⟨E.1, E.2.1.mono (by omega), E.2.2.mono (by omega)⟩
theorem SideOk.sz {s : List (Int × Int)} {m : Nat} (h : SideOk s m) {c : Int × Int} (hc : c ∈ s) : Sz 6 (c.1 : Rat) ∧ Sz 6 (c.2 : Rat) := by
  obtain ⟨h1, h2, h3⟩ := h.cell c hc
  exact ⟨Sz.int (by omega), Sz.int (by omega)⟩
theorem gQ0 (q : Rat) : gIx (dQ q) (.int 0) = .ok (.int q.num) := by rw [dQ, gIx_t, atI_zero]; rfl
def pSome (us : List Rat) (p : List (Int × Int) × (Int × Int)) : Bool := decide (¬ ((p.2.2 : Rat) < loS p.1 us) ∧ ¬ (hiS p.1 us < (p.2.1 : Rat)))
end U
set_option Elab.async false
set_option linter.all false
set_option maxRecDepth 100000
set_option maxHeartbeats 4000000
set_option exponentiation.threshold 500000
namespace U
open PySem PySem.Spec PyProof.Rows L2
/-! ### slices -/
/-! ### the spans of rows, as the laws find them -/
theorem lo_if {c : Int × Int} (h : c.1 ≤ c.2) (u : Rat) : (if (c.2 : Rat) * u < (c.1 : Rat) * u then (c.2 : Rat) * u else (c.1 : Rat) * u) = loT c u := by
  have hc : (c.1 : Rat) ≤ (c.2 : Rat) := Rat.intCast_le_intCast.mpr h
  unfold loT
  by_cases hu : u < 0
  · have := Rat.mul_nonneg (show 0 ≤ (c.2 : Rat) - c.1 by grind) (show 0 ≤ -u by grind)
    (repeat' split) <;> grind
  · have := Rat.mul_nonneg (show 0 ≤ (c.2 : Rat) - c.1 by grind) (show 0 ≤ u by grind)
    (repeat' split) <;> grind
theorem hi_if {c : Int × Int} (h : c.1 ≤ c.2) (u : Rat) : (if (c.2 : Rat) * u < (c.1 : Rat) * u then (c.1 : Rat) * u else (c.2 : Rat) * u) = hiT c u := by
  have hc : (c.1 : Rat) ≤ (c.2 : Rat) := Rat.intCast_le_intCast.mpr h
  unfold hiT
  by_cases hu : u < 0
  · have := Rat.mul_nonneg (show 0 ≤ (c.2 : Rat) - c.1 by grind) (show 0 ≤ -u by grind)
    (repeat' split) <;> grind
  · have := Rat.mul_nonneg (show 0 ≤ (c.2 : Rat) - c.1 by grind) (show 0 ≤ u by grind)
    (repeat' split) <;> grind
theorem law_span_ok {r : List (Int × Int)} {us : List Rat} {a : Nat} (hr : ∀ c ∈ r, cellIn 20 c) (hu : ∀ u ∈ us, Sz a u) (hn : (a + 6) * (r.zip us).length + 2 ≤ 4000) : f_law_span [dR r, dQs us] = .ok (.tuple [dQ (loS r us), dQ (hiS r us)]) ∧ Sz ((a + 6) * (r.zip us).length + 2) (loS r us) ∧ Sz ((a + 6) * (r.zip us).length + 2) (hiS r us) := by
  have hF : ∃ s : (Rat × Rat) × Cell × Cell × Cell × Cell, F1_law_span [.fr (dR r), .fr (dQs us), .fr (dQ 0), .fr (dQ 0), .un, .un, .un, .un] = .nx [.fr (dR r), .fr (dQs us), .fr (dQ s.1.1), .fr (dQ s.1.2), s.2.1, s.2.2.1, s.2.2.2.1, s.2.2.2.2] ∧ s.1.1 = (r.zip us).foldl (fun s p => s + loT p.1 p.2) 0 ∧ s.1.2 = (r.zip us).foldl (fun s p => s + hiT p.1 p.2) 0 ∧ Sz ((a + 6) * (r.zip us).length + 2) s.1.1 ∧ Sz ((a + 6) * (r.zip us).length + 2) s.1.2 := by
    unfold F1_law_span
    refine for_st (e := fun p : (Int × Int) × Rat => PyData.tuple [dP p.1, dQ p.2]) (xs := r.zip us) (fun s : (Rat × Rat) × Cell × Cell × Cell × Cell => [.fr (dR r), .fr (dQs us), .fr (dQ s.1.1), .fr (dQ s.1.2), s.2.1, s.2.2.1, s.2.2.2.1, s.2.2.2.2]) (fun done s => s.1.1 = done.foldl (fun s p => s + loT p.1 p.2) 0 ∧ s.1.2 = done.foldl (fun s p => s + hiT p.1 p.2) 0 ∧ Sz ((a + 6) * done.length + 2) s.1.1 ∧ Sz ((a + 6) * done.length + 2) s.1.2) ((0, 0), .un, .un, .un, .un) ?_ ?_ ?_ ?_
    · simp only [EV0, dR, dQs, zip2D_map]
    · simp only [EV0, dR, dQs]
    · exact ⟨rfl, rfl, Sz.mono (n := 2) (q := 0) ⟨by decide +kernel, by decide +kernel⟩ (by simp), Sz.mono (n := 2) (q := 0) ⟨by decide +kernel, by decide +kernel⟩ (by simp)⟩
    · rintro done ⟨⟨lo, hi⟩, c4, c5, c6, c7⟩ p rest hp ⟨h1, h2, h3, h4⟩
      have hm := mid_mem hp
      have hl := mid_len hp
      obtain ⟨y1, y2, y3⟩ := hr p.1 (List.of_mem_zip hm).1
      have su := hu p.2 (List.of_mem_zip hm).2
      have s1 : Sz 5 (p.1.1 : Rat) := Sz.int (by omega)
      have s2 : Sz 5 (p.1.2 : Rat) := Sz.int (by omega)
      have le : (a + 6) * (done.length + 1) ≤ (a + 6) * (r.zip us).length := Nat.mul_le_mul_left _ hl
      rw [Nat.mul_add] at le
      have m1 := law_mul_ok s1 su (by omega)
      have m2 := law_mul_ok s2 su (by omega)
      have ud := law_under_ok (s2.mul su) (s1.mul su) (by omega)
      have sl : Sz (5 + a) (loT p.1 p.2) := by
        unfold loT; split
        · exact s2.mul su
        · exact s1.mul su
      have sh : Sz (5 + a) (hiT p.1 p.2) := by
        unfold hiT; split
        · exact s1.mul su
        · exact s2.mul su
      have a1 := law_add_ok h3 sl (by omega)
      have a2 := law_add_ok h4 sh (by omega)
      simp only at a1 a2
      have z1 : Sz ((a + 6) * (done ++ [p]).length + 2) (lo + loT p.1 p.2) := (h3.add sl).mono (by simp only [List.length_append, List.length_cons, List.length_nil]; rw [Nat.mul_add]; omega)
      have z2 : Sz ((a + 6) * (done ++ [p]).length + 2) (hi + hiT p.1 p.2) := (h4.add sh).mono (by simp only [List.length_append, List.length_cons, List.length_nil]; rw [Nat.mul_add]; omega)
      have f1 : lo + loT p.1 p.2 = (done ++ [p]).foldl (fun s p => s + loT p.1 p.2) 0 := by
        simp only [List.foldl_append, List.foldl_cons, List.foldl_nil]; rw [← h1]
      have f2 : hi + hiT p.1 p.2 = (done ++ [p]).foldl (fun s p => s + hiT p.1 p.2) 0 := by
        simp only [List.foldl_append, List.foldl_cons, List.foldl_nil]; rw [← h2]
      have el := lo_if y2 p.2
      have eh := hi_if y2 p.2
      refine ⟨((lo + loT p.1 p.2, hi + hiT p.1 p.2), .fr (dP p.1), .fr (dQ p.2), .fr (dQ ((p.1.1 : Rat) * p.2)), .fr (dQ ((p.1.2 : Rat) * p.2))), ?_, f1, f2, z1, z2⟩
      rw [turnF_tp2]
      by_cases h : (p.1.2 : Rat) * p.2 < (p.1.1 : Rat) * p.2
      · rw [if_pos h] at el eh
        rw [decide_eq_true h] at ud
        rw [← el] at a1 ⊢
        rw [← eh] at a2 ⊢
        simp only [EV0, L1_law_span, dP, dP_i, m1, m2, ud, a1, a2]
      · rw [if_neg h] at el eh
        rw [decide_eq_false h] at ud
        rw [← el] at a1 ⊢
        rw [← eh] at a2 ⊢
        simp only [EV0, L1_law_span, dP, dP_i, m1, m2, ud, a1, a2]
  obtain ⟨s, h1, h2, h3, h4, h5⟩ := hF
  have e0 : PyData.tuple [.int 0, .int 1] = dQ 0 := rfl
  have h2 : s.1.1 = loS r us := h2
  have h3 : s.1.2 = hiS r us := h3
  rw [h2] at h1 h4
  rw [h3] at h1 h5
  refine ⟨?_, h4, h5⟩
  simp only [EV0, r_law_span, b_law_span, e0, h1]
theorem AllOk.span {t s us m n a} (h : AllOk t s us m n a) {r : List (Int × Int)} (hr : r ∈ t) : f_law_span [dR r, dQs us] = .ok (.tuple [dQ (loS r us), dQ (hiS r us)]) ∧ Sz 4000 (loS r us) ∧ Sz 4000 (hiS r us) := by
  have l : (r.zip us).length ≤ 3 := by have := h.tab.n3; have := h.len; simp only [List.length_zip]; omega
  have l2 : (a + 6) * (r.zip us).length ≤ (1000 + 6) * 3 := Nat.mul_le_mul (by have := h.le; omega) l
  have E := law_span_ok (h.tab.cell r hr) h.sz (by omega)
  exact ⟨E.1, E.2.1.mono (by omega), E.2.2.mono (by omega)⟩
/-! ### values that are no unknowns -/
end U
set_option Elab.async false
set_option linter.all false
set_option maxRecDepth 100000
set_option maxHeartbeats 4000000
set_option exponentiation.threshold 500000
namespace U
open PySem PySem.Spec PyProof.Rows L2
/-! ### fits -/
/-! ### choices -/
/-! ### signs -/
def sgn (v : Int) : Prop := v = 1 ∨ v = -1
instance (v : Int) : Decidable (sgn v) := inferInstanceAs (Decidable (v = 1 ∨ v = -1))
/-! ### corners -/
section
variable {m n : Nat} {f : Nat → Nat → Int × Int} {R C : Nat → Int}
def sg (n : Nat) (R : Nat → Int) : List Int := (List.range n).map R
end
end U
set_option Elab.async false
set_option linter.all false
set_option maxRecDepth 100000
set_option maxHeartbeats 4000000
set_option exponentiation.threshold 500000
namespace U
open PySem PySem.Spec PyProof.Rows L2
/-! ### rows and choices with one place apart -/
/-! ### choices of a side -/
end U
set_option Elab.async false
set_option linter.all false
set_option maxRecDepth 100000
set_option maxHeartbeats 4000000
namespace U
open PySem PySem.Spec PyProof.Rows L2
end U
set_option Elab.async false
set_option linter.all false
set_option maxRecDepth 100000
set_option maxHeartbeats 4000000
set_option exponentiation.threshold 500000
namespace U
open PySem PySem.Spec PyProof.Rows L2
/-! ### the forms of objects, reckoned -/
/-! ### rows of ints -/
def dJ (l : List Int) : List D := l.map .int
def dLI (l : List Int) : D := .list (dJ l)
def gcdL (l : List Int) : Nat := l.foldl (fun g v => Nat.gcd g v.natAbs) 0
def leanL (l : List Int) : List Int := if gcdL l = 0 then l else l.map fun v => v / (gcdL l : Int)
def SzL (n : Nat) (l : List Int) : Prop := ∀ v ∈ l, v.natAbs < 2 ^ n
end U
set_option Elab.async false
set_option linter.all false
set_option maxRecDepth 100000
set_option maxHeartbeats 4000000
set_option exponentiation.threshold 500000
namespace U
open PySem PySem.Spec PyProof.Rows L2
/-! ### places of rows -/
def aL (l : List Int) (j : Nat) : Int := l.getD j 0
theorem aL_get {l : List Int} {j : Nat} (h : j < l.length) : l[j]? = some (aL l j) := by
  rw [List.getElem?_eq_getElem h, aL, List.getD_eq_getElem?_getD, List.getElem?_eq_getElem h]; rfl
theorem SzL.at {n : Nat} {l : List Int} (h : SzL n l) {j : Nat} : (aL l j).natAbs < 2 ^ n := by
  by_cases z : j < l.length
  · exact h _ (List.mem_of_getElem? (aL_get z))
  · rw [aL, List.getD_eq_getElem?_getD, List.getElem?_eq_none (by omega)]
    exact Nat.two_pow_pos n
theorem SzL.mono {n m : Nat} {l : List Int} (h : SzL n l) (hm : n ≤ m) : SzL m l := fun v hv => Nat.lt_of_lt_of_le (h v hv) (Nat.pow_le_pow_right (by decide) hm)
/-! ### without -/
def combL (row piv : List Int) (c : Nat) : List Int := (row.zip piv).map fun q => q.1 * aL piv c - q.2 * aL row c
def withL (row piv : List Int) (c : Nat) : List Int := if aL row c = 0 then row else leanL (combL row piv c)
/-! ### the state -/
structure Tb3 where
  rows : List (List Int)
  own : List Nat
  costs : List Int
def dNs (l : List Nat) : List D := l.map fun n : Nat => PyData.int (n : Int)
def Tb3.fo (S : Tb3) : List Fd := [.ow (S.rows.map dLI), .ow (dNs S.own), .fr (dLI S.costs)]
def Tb3.fr (S : Tb3) : List D := [.list (S.rows.map dLI), .list (dNs S.own), dLI S.costs]
/-- m rows of n columns and their right numbers, all of at most z figures -/
structure Tb3.Ok (S : Tb3) (m n z : Nat) : Prop where
  hm : S.rows.length = m
  ho : S.own.length = m
  hr : ∀ r ∈ S.rows, r.length = n + 1
  hc : S.costs.length = n + 1
  zr : ∀ r ∈ S.rows, SzL z r
  zc : SzL z S.costs
def Tb3.row (S : Tb3) (i : Nat) : List Int := S.rows.getD i []
def Tb3.R (S : Tb3) (i j : Nat) : Int := aL (S.row i) j
def Tb3.o (S : Tb3) (i : Nat) : Nat := S.own.getD i 0
def Tb3.c (S : Tb3) (j : Nat) : Int := aL S.costs j
section
variable {S : Tb3} {m n z : Nat}
theorem Tb3.row_get {i : Nat} (h : i < S.rows.length) : S.rows[i]? = some (S.row i) := by
  rw [List.getElem?_eq_getElem h, Tb3.row, List.getD_eq_getElem?_getD, List.getElem?_eq_getElem h]; rfl
theorem Tb3.Ok.row (h : S.Ok m n z) {i : Nat} (hi : i < m) : S.row i ∈ S.rows := List.mem_of_getElem? (S.row_get (by rw [h.hm]; exact hi))
end
end U
set_option Elab.async false
set_option linter.all false
set_option maxRecDepth 100000
set_option maxHeartbeats 4000000
set_option exponentiation.threshold 500000
namespace U
open PySem PySem.Spec PyProof.Rows L2
section
variable {S : Tb3} {m n z : Nat}
/-! ### the first column with costs below 0 -/
def Tb3.next (S : Tb3) (w : Nat) : Option Nat := (List.range w).find? fun j => decide (S.c j < 0)
/-! ### the row that bounds a column -/
end
end U
set_option Elab.async false
set_option linter.all false
set_option maxRecDepth 100000
set_option maxHeartbeats 4000000
set_option exponentiation.threshold 500000
namespace U
open PySem PySem.Spec PyProof.Rows L2
section
variable {S : Tb3} {m n z : Nat}
/-! ### a column becomes a row's own -/
end
end U
set_option Elab.async false
set_option linter.all false
set_option maxRecDepth 100000
set_option maxHeartbeats 4000000
namespace MA
/-! ### sums -/
def sm (f : Nat → Rat) : Nat → Rat
  | 0 => 0
  | n + 1 => sm f n + f n
theorem sm_congr {f g : Nat → Rat} : ∀ {n : Nat}, (∀ j, j < n → f j = g j) → sm f n = sm g n
  | 0, _ => rfl
  | n + 1, h => by rw [sm, sm, sm_congr fun j hj => h j (by omega), h n (by omega)]
theorem sm_add (f g : Nat → Rat) : ∀ n : Nat, sm (fun j => f j + g j) n = sm f n + sm g n
  | 0 => by simp [sm]; grind
  | n + 1 => by rw [sm, sm, sm, sm_add f g n]; grind
theorem sm_mul (c : Rat) (f : Nat → Rat) : ∀ n : Nat, sm (fun j => c * f j) n = c * sm f n
  | 0 => by simp [sm]
  | n + 1 => by rw [sm, sm, sm_mul c f n]; grind
theorem sm_zero {f : Nat → Rat} {n : Nat} (h : ∀ j, j < n → f j = 0) : sm f n = 0 := by
  induction n with
  | zero => rfl
  | succ n ih => rw [sm, ih fun j hj => h j (by omega), h n (by omega)]; grind
theorem sm_nonneg {f : Nat → Rat} {n : Nat} (h : ∀ j, j < n → 0 ≤ f j) : 0 ≤ sm f n := by
  induction n with
  | zero => simp [sm]
  | succ n ih =>
    have h1 := ih fun j hj => h j (by omega)
    have h2 := h n (by omega)
    rw [sm]; grind
theorem sm_one {f : Nat → Rat} {k : Nat} : ∀ {n : Nat}, k < n → (∀ j, j < n → j ≠ k → f j = 0) → sm f n = f k
  | 0, h, _ => by omega
  | n + 1, h, h0 => by
    rw [sm]
    by_cases e : k = n
    · subst e
      rw [sm_zero fun j hj => h0 j (by omega) (by omega)]
      grind
    · rw [sm_one (n := n) (by omega) fun j hj hn => h0 j (by omega) hn, h0 n (by omega) (by omega)]
      grind
theorem sm_neg_ex {f : Nat → Rat} {n : Nat} (h : sm f n < 0) : ∃ j, j < n ∧ f j < 0 := by
  apply Classical.byContradiction
  intro hn
  have : 0 ≤ sm f n := sm_nonneg fun j hj => by
    apply Rat.not_lt.mp
    intro hl
    exact hn ⟨j, hj, hl⟩
  grind
theorem inv_pos {g : Rat} (h : 0 < g) : 0 < g⁻¹ := by
  apply Classical.byContradiction
  intro hn
  have hle : g⁻¹ ≤ 0 := Rat.not_lt.mp hn
  have h1 : g * g⁻¹ = 1 := Rat.mul_inv_cancel g (by grind)
  have h2 := Rat.mul_le_mul_of_nonneg_right hle (Rat.le_of_lt h)
  grind
theorem div_pos {a b : Rat} (ha : 0 < a) (hb : 0 < b) : 0 < a / b := by
  rw [Rat.div_def]; exact Rat.mul_pos ha (inv_pos hb)
def dot (n : Nat) (u x : Nat → Rat) : Rat := sm (fun j => u j * x j) n
/-- u = (a v - b w) / g -/
theorem dot_comb {n : Nat} {u v w x : Nat → Rat} {g a b : Rat} (h : ∀ j, j < n → u j * g = v j * a - w j * b) : dot n u x * g = dot n v x * a - dot n w x * b := by
  have e : sm (fun j => g * (u j * x j)) n = sm (fun j => a * (v j * x j) + (-b) * (w j * x j)) n := sm_congr fun j hj => by
    have := h j hj
    grind
  rw [sm_mul, sm_add, sm_mul, sm_mul] at e
  unfold dot
  grind
/-! ### the table and its steps -/
structure TS where
  G : Nat → Nat → Rat
  o : Nat → Nat
  c : Nat → Rat
variable {m N w : Nat}
structure Pat (m N : Nat) (T : TS) : Prop where
  ho : ∀ i, i < m → T.o i < N
  hp : ∀ i, i < m → 0 < T.G i (T.o i)
  hz : ∀ i k, i < m → k < m → i ≠ k → T.G i (T.o k) = 0
  hc : ∀ k, k < m → T.c (T.o k) = 0
theorem Pat.inj {T : TS} (h : Pat m N T) {i k : Nat} (hi : i < m) (hk : k < m) (e : T.o i = T.o k) : i = k := by
  apply Classical.byContradiction
  intro ne
  have h1 := h.hz i k hi hk ne
  have h2 := h.hp i hi
  rw [e] at h2
  grind
structure Piv (m N : Nat) (T : TS) (p s : Nat) (T' : TS) : Prop where
  hp : p < m
  hs : s < N
  ps : 0 < T.G p s
  rw : ∀ i, i < m → i ≠ p → ∃ g : Rat, 0 < g ∧ ∀ j, j < N + 1 → T'.G i j * g = T.G i j * T.G p s - T.G p j * T.G i s
  rp : ∀ j, j < N + 1 → T'.G p j = T.G p j
  rc : ∃ g : Rat, 0 < g ∧ ∀ j, j < N + 1 → T'.c j * g = T.c j * T.G p s - T.G p j * T.c s
  own : ∀ i, T'.o i = if i = p then s else T.o i
def Null (m N : Nat) (T : TS) (x : Nat → Rat) : Prop := ∀ i, i < m → dot (N + 1) (T.G i) x = 0
theorem pos_ne {a : Rat} (h : 0 < a) : a ≠ 0 := by grind
theorem mul_zero_of {a b : Rat} (h : 0 < b) (e : a * b = 0) : a = 0 := by
  rcases Rat.mul_eq_zero.mp e with h1 | h1
  · exact h1
  · grind
theorem Piv.null {T T' : TS} {p s : Nat} (P : Piv m N T p s T') {x : Nat → Rat} : Null m N T x ↔ Null m N T' x := by
  have hpp : dot (N + 1) (T'.G p) x = dot (N + 1) (T.G p) x := by
    unfold dot
    exact sm_congr fun j hj => by rw [P.rp j hj]
  constructor
  · intro h i hi
    by_cases e : i = p
    · rw [e, hpp]; exact h p P.hp
    · obtain ⟨g, g0, hg⟩ := P.rw i hi e
      have := dot_comb (x := x) hg
      rw [h i hi, h p P.hp] at this
      exact mul_zero_of g0 (by grind)
  · intro h i hi
    have h0 : dot (N + 1) (T.G p) x = 0 := by rw [← hpp]; exact h p P.hp
    by_cases e : i = p
    · rw [e]; exact h0
    · obtain ⟨g, g0, hg⟩ := P.rw i hi e
      have := dot_comb (x := x) hg
      rw [h i hi, h0] at this
      exact mul_zero_of P.ps (by grind)
def val (N : Nat) (T : TS) (x : Nat → Rat) : Rat := dot (N + 1) T.c x
theorem Piv.val {T T' : TS} {p s : Nat} (P : Piv m N T p s T') : ∃ l : Rat, 0 < l ∧ ∀ x, Null m N T x → val N T' x = l * val N T x := by
  obtain ⟨g, g0, hg⟩ := P.rc
  refine ⟨T.G p s / g, div_pos P.ps g0, fun x hx => ?_⟩
  have := dot_comb (x := x) hg
  rw [hx p P.hp] at this
  unfold MA.val
  rw [Rat.div_def]
  have gg : g * g⁻¹ = 1 := Rat.mul_inv_cancel g (pos_ne g0)
  have h2 : dot (N + 1) T'.c x * g * g⁻¹ = dot (N + 1) T.c x * T.G p s * g⁻¹ := by rw [this]; grind
  have h3 : dot (N + 1) T'.c x * g * g⁻¹ = dot (N + 1) T'.c x := by rw [Rat.mul_assoc, gg, Rat.mul_one]
  rw [← h3, h2]; grind
theorem Piv.pat {T T' : TS} {p s : Nat} (P : Piv m N T p s T') (h : Pat m N T) : Pat m N T' := by
  refine ⟨fun i hi => ?_, fun i hi => ?_, fun i k hi hk ne => ?_, fun k hk => ?_⟩
  · rw [P.own]; split
    · exact P.hs
    · exact h.ho i hi
  · rw [P.own]
    by_cases e : i = p
    · rw [if_pos e, e, P.rp s (by have := P.hs; omega)]; exact P.ps
    · rw [if_neg e]
      obtain ⟨g, g0, hg⟩ := P.rw i hi e
      have := hg (T.o i) (by have := h.ho i hi; omega)
      rw [h.hz p i P.hp hi (fun z => e z.symm)] at this
      have h1 := Rat.mul_pos (h.hp i hi) P.ps
      have h2 : 0 < T'.G i (T.o i) * g := by grind
      apply Classical.byContradiction
      intro hn
      have hle : T'.G i (T.o i) ≤ 0 := Rat.not_lt.mp hn
      have := Rat.mul_le_mul_of_nonneg_right hle (Rat.le_of_lt g0)
      grind
  · rw [P.own]
    by_cases e : k = p
    · rw [if_pos e]
      have ip : i ≠ p := fun z => ne (z.trans e.symm)
      obtain ⟨g, g0, hg⟩ := P.rw i hi ip
      have := hg s (by have := P.hs; omega)
      exact mul_zero_of g0 (by grind)
    · rw [if_neg e]
      have hok := h.ho k hk
      by_cases e2 : i = p
      · rw [e2, P.rp _ (by omega)]; exact h.hz p k P.hp hk (fun z => e z.symm)
      · obtain ⟨g, g0, hg⟩ := P.rw i hi e2
        have := hg (T.o k) (by omega)
        rw [h.hz i k hi hk ne, h.hz p k P.hp hk (fun z => e z.symm)] at this
        exact mul_zero_of g0 (by grind)
  · obtain ⟨g, g0, hg⟩ := P.rc
    rw [P.own]
    by_cases e : k = p
    · rw [if_pos e]
      have := hg s (by have := P.hs; omega)
      exact mul_zero_of g0 (by grind)
    · rw [if_neg e]
      have hok := h.ho k hk
      have := hg (T.o k) (by omega)
      rw [h.hc k hk, h.hz p k P.hp hk (fun z => e z.symm)] at this
      exact mul_zero_of g0 (by grind)
/-! ### the basic solution -/
def Bas (m : Nat) (T : TS) (j : Nat) : Prop := ∃ i, i < m ∧ T.o i = j
/-- numbers that depend on the row whose own column it is -/
def pick (m : Nat) (T : TS) (f : Nat → Rat) (j : Nat) : Rat := sm (fun i => if T.o i = j then f i else 0) m
theorem pick_in {T : TS} (h : Pat m N T) {f : Nat → Rat} {i : Nat} (hi : i < m) : pick m T f (T.o i) = f i := by
  unfold pick
  rw [sm_one hi fun k hk ne => if_neg fun e => ne (h.inj hk hi e)]
  simp
theorem pick_out {T : TS} {f : Nat → Rat} {j : Nat} (h : ¬ Bas m T j) : pick m T f j = 0 := by
  unfold pick
  exact sm_zero fun i hi => if_neg fun e => h ⟨i, hi, e⟩
def bsol (m N : Nat) (T : TS) (j : Nat) : Rat := if j = N then -1 else pick m T (fun i => T.G i N / T.G i (T.o i)) j
theorem bsol_N {T : TS} : bsol m N T N = -1 := if_pos rfl
theorem bsol_in {T : TS} (h : Pat m N T) {i : Nat} (hi : i < m) : bsol m N T (T.o i) = T.G i N / T.G i (T.o i) := by
  unfold bsol
  rw [if_neg (by have := h.ho i hi; omega), pick_in h hi]
theorem bsol_out {T : TS} {j : Nat} (hj : j < N) (h : ¬ Bas m T j) : bsol m N T j = 0 := by
  unfold bsol
  rw [if_neg (by omega), pick_out h]
/-- a row times numbers that are 0 outside the own columns -/
theorem dot_bas {T : TS} (h : Pat m N T) {x : Nat → Rat} {i : Nat} (hi : i < m) (hx : ∀ j, j < N → ¬ Bas m T j → x j = 0) : dot (N + 1) (T.G i) x = T.G i (T.o i) * x (T.o i) + T.G i N * x N := by
  unfold dot
  rw [sm, sm_one (k := T.o i) (h.ho i hi)]
  intro j hj ne
  by_cases b : Bas m T j
  · obtain ⟨k, hk, rfl⟩ := b
    rw [h.hz i k hi hk (fun z => ne (by rw [z]))]
    grind
  · rw [hx j hj b]; grind
theorem div_mul {a b : Rat} (h : 0 < b) : b * (a / b) = a := by
  rw [Rat.div_def, Rat.mul_comm a, ← Rat.mul_assoc, Rat.mul_inv_cancel b (pos_ne h), Rat.one_mul]
theorem bsol_null {T : TS} (h : Pat m N T) : Null m N T (bsol m N T) := fun i hi => by
  rw [dot_bas h hi fun j hj b => bsol_out hj b, bsol_in h hi, bsol_N, div_mul (h.hp i hi)]
  grind
theorem bsol_uniq {T : TS} (h : Pat m N T) {x : Nat → Rat} (hn : Null m N T x) (hN : x N = -1) (hx : ∀ j, j < N → ¬ Bas m T j → x j = 0) : ∀ j, j < N + 1 → x j = bsol m N T j := fun j hj => by
  by_cases e : j = N
  · rw [e, hN, bsol_N]
  · by_cases b : Bas m T j
    · obtain ⟨i, hi, rfl⟩ := b
      have := hn i hi
      rw [dot_bas h hi hx, hN] at this
      rw [bsol_in h hi]
      have hp := h.hp i hi
      have e2 : T.G i (T.o i) * x (T.o i) = T.G i N := by grind
      rw [← e2, Rat.div_def, Rat.mul_comm (T.G i (T.o i)), Rat.mul_assoc, Rat.mul_inv_cancel _ (pos_ne hp), Rat.mul_one]
    · rw [hx j (by omega) b, bsol_out (by omega) b]
theorem val_bas {T : TS} (h : Pat m N T) : val N T (bsol m N T) = - T.c N := by
  unfold val dot
  rw [sm, sm_zero, bsol_N]
  · grind
  · intro j hj
    by_cases b : Bas m T j
    · obtain ⟨k, hk, rfl⟩ := b
      rw [h.hc k hk]; grind
    · rw [bsol_out hj b]; grind
end MA
set_option Elab.async false
set_option linter.all false
set_option maxRecDepth 100000
set_option maxHeartbeats 4000000
namespace MA
variable {m N w : Nat}
/-- a step by Bland's rule: the first column below 0, the first row that bounds it, by its own column where several do -/
structure Stp (m N w : Nat) (T : TS) (p s : Nat) (T' : TS) : Prop where
  pv : Piv m N T p s T'
  sw : s < w
  neg : T.c s < 0
  fst : ∀ j, j < s → 0 ≤ T.c j
  min : ∀ i, i < m → i ≠ p → 0 < T.G i s → T.G p N * T.G i s < T.G i N * T.G p s ∨ (T.G p N * T.G i s = T.G i N * T.G p s ∧ T.o p < T.o i)
structure Inv (m N : Nat) (T : TS) : Prop where
  pat : Pat m N T
  fea : ∀ i, i < m → 0 ≤ T.G i N
theorem nonneg_of_mul {a g : Rat} (hg : 0 < g) (h : 0 ≤ a * g) : 0 ≤ a := by
  apply Rat.not_lt.mp
  intro hl
  have h1 := Rat.mul_pos (show 0 < -a by grind) hg
  grind
theorem Stp.inv {T T' : TS} {p s : Nat} (S : Stp m N w T p s T') (h : Inv m N T) : Inv m N T' := by
  refine ⟨S.pv.pat h.pat, fun i hi => ?_⟩
  by_cases e : i = p
  · rw [e, S.pv.rp N (by omega)]; exact h.fea p S.pv.hp
  · obtain ⟨g, g0, hg⟩ := S.pv.rw i hi e
    have := hg N (by omega)
    refine nonneg_of_mul g0 ?_
    rw [this]
    have hp := S.pv.ps
    by_cases z : 0 < T.G i s
    · have := S.min i hi e z
      grind
    · have z' : T.G i s ≤ 0 := Rat.not_lt.mp z
      have h1 := Rat.mul_nonneg (h.fea i hi) (Rat.le_of_lt hp)
      have h2 := Rat.mul_nonneg (h.fea p S.pv.hp) (show 0 ≤ - T.G i s by grind)
      grind
/-- s is no own column -/
theorem Stp.out {T T' : TS} {p s : Nat} (S : Stp m N w T p s T') (h : Inv m N T) : ¬ Bas m T s := by
  rintro ⟨i, hi, e⟩
  have := h.pat.hc i hi
  rw [e] at this
  have := S.neg
  grind
theorem Stp.bas {T T' : TS} {p s : Nat} (S : Stp m N w T p s T') (h : Inv m N T) (j : Nat) : Bas m T' j ↔ j = s ∨ (Bas m T j ∧ j ≠ T.o p) := by
  constructor
  · rintro ⟨i, hi, e⟩
    rw [S.pv.own] at e
    by_cases z : i = p
    · rw [if_pos z] at e; exact .inl e.symm
    · rw [if_neg z] at e
      refine .inr ⟨⟨i, hi, e⟩, fun q => z (h.pat.inj hi S.pv.hp (by rw [e, q]))⟩
  · rintro (e | ⟨⟨i, hi, e⟩, ne⟩)
    · exact ⟨p, S.pv.hp, by rw [S.pv.own, if_pos rfl, e]⟩
    · have : i ≠ p := fun z => ne (by rw [← e, z])
      exact ⟨i, hi, by rw [S.pv.own, if_neg this, e]⟩
theorem val_congr {T : TS} {x y : Nat → Rat} (h : ∀ j, j < N + 1 → x j = y j) : val N T x = val N T y := by
  unfold val dot
  exact sm_congr fun j hj => by rw [h j hj]
/-- a step makes the sum of costs no greater, and not less only if the row's right number is 0 -/
theorem Stp.down {T T' : TS} {p s : Nat} (S : Stp m N w T p s T') (h : Inv m N T) : val N T (bsol m N T') = val N T (bsol m N T) + T.c s * (T.G p N / T.G p s) := by
  have h' := S.inv h
  have os : T'.o p = s := by rw [S.pv.own, if_pos rfl]
  have e : bsol m N T' s = T.G p N / T.G p s := by
    have := bsol_in h'.pat S.pv.hp
    rw [os, S.pv.rp N (by omega), S.pv.rp s (by have := S.pv.hs; omega)] at this
    exact this
  rw [val_bas h.pat]
  unfold val dot
  rw [sm, bsol_N, sm_one (k := s) S.pv.hs, e]
  · grind
  · intro j hj ne
    by_cases b : Bas m T' j
    · rcases (S.bas h j).mp b with z | ⟨⟨i, hi, rfl⟩, _⟩
      · exact absurd z ne
      · rw [h.pat.hc i hi]; grind
    · rw [bsol_out hj b]; grind
theorem Stp.same {T T' : TS} {p s : Nat} (S : Stp m N w T p s T') (h : Inv m N T) (hz : T.G p N = 0) : ∀ j, j < N + 1 → bsol m N T j = bsol m N T' j := by
  refine bsol_uniq (S.inv h).pat (S.pv.null.mp (bsol_null h.pat)) bsol_N fun j hj nb => ?_
  by_cases b : Bas m T j
  · have : j = T.o p := Classical.byContradiction fun ne => nb ((S.bas h j).mpr (.inr ⟨b, ne⟩))
    rw [this, bsol_in h.pat S.pv.hp, hz, Rat.div_def, Rat.zero_mul]
  · exact bsol_out hj b
/-! ### a walk of steps -/
structure Wk (m N w K : Nat) (T : Nat → TS) (p s : Nat → Nat) : Prop where
  i0 : Inv m N (T 0)
  st : ∀ k, k < K → Stp m N w (T k) (p k) (s k) (T (k + 1))
variable {K : Nat} {T : Nat → TS} {p s : Nat → Nat}
theorem Wk.inv (W : Wk m N w K T p s) : ∀ k, k ≤ K → Inv m N (T k)
  | 0, _ => W.i0
  | k + 1, h => (W.st k (by omega)).inv (W.inv k (by omega))
theorem Wk.null (W : Wk m N w K T p s) {x : Nat → Rat} : ∀ k, k ≤ K → (Null m N (T 0) x ↔ Null m N (T k) x)
  | 0, _ => Iff.rfl
  | k + 1, h => (W.null k (by omega)).trans (W.st k (by omega)).pv.null
theorem Wk.vl (W : Wk m N w K T p s) : ∀ k, k ≤ K → ∃ l : Rat, 0 < l ∧ ∀ x, Null m N (T 0) x → val N (T k) x = l * val N (T 0) x
  | 0, _ => ⟨1, by decide, fun x _ => by rw [Rat.one_mul]⟩
  | k + 1, h => by
    obtain ⟨l, l0, hl⟩ := W.vl k (by omega)
    obtain ⟨g, g0, hg⟩ := (W.st k (by omega)).pv.val
    refine ⟨g * l, Rat.mul_pos g0 l0, fun x hx => ?_⟩
    rw [hg x ((W.null k (by omega)).mp hx), hl x hx, Rat.mul_assoc]
theorem Wk.desc (W : Wk m N w K T p s) {k : Nat} (hk : k < K) : val N (T 0) (bsol m N (T (k + 1))) ≤ val N (T 0) (bsol m N (T k)) ∧ (val N (T 0) (bsol m N (T (k + 1))) = val N (T 0) (bsol m N (T k)) → (T k).G (p k) N = 0) := by
  have I := W.inv k (by omega)
  have S := W.st k hk
  obtain ⟨l, l0, hl⟩ := W.vl k (by omega)
  have n1 : Null m N (T 0) (bsol m N (T k)) := (W.null k (by omega)).mpr (bsol_null I.pat)
  have n2 : Null m N (T 0) (bsol m N (T (k + 1))) := (W.null (k + 1) (by omega)).mpr (bsol_null (S.inv I).pat)
  have d := S.down I
  rw [hl _ n1, hl _ n2] at d
  have q0 : 0 ≤ (T k).G (p k) N := I.fea _ S.pv.hp
  have r0 : 0 ≤ (T k).G (p k) N / (T k).G (p k) (s k) := by
    rw [Rat.div_def]; exact Rat.mul_nonneg q0 (Rat.le_of_lt (inv_pos S.pv.ps))
  have c0 := S.neg
  have e0 : (T k).c (s k) * ((T k).G (p k) N / (T k).G (p k) (s k)) ≤ 0 := by
    have := Rat.mul_nonneg (show 0 ≤ - (T k).c (s k) by grind) r0
    grind
  constructor
  · have h1 : l * val N (T 0) (bsol m N (T (k + 1))) ≤ l * val N (T 0) (bsol m N (T k)) := by grind
    apply Rat.not_lt.mp
    intro hlt
    have := Rat.mul_lt_mul_of_pos_left hlt l0
    grind
  · intro e
    rw [e] at d
    have z : (T k).c (s k) * ((T k).G (p k) N / (T k).G (p k) (s k)) = 0 := by grind
    rcases Rat.mul_eq_zero.mp z with h1 | h1
    · grind
    · have := div_mul (a := (T k).G (p k) N) S.pv.ps
      rw [h1] at this
      grind
theorem mono_le {f : Nat → Rat} {a : Nat} : ∀ {b : Nat}, a ≤ b → (∀ k, a ≤ k → k < b → f (k + 1) ≤ f k) → f b ≤ f a
  | 0, h, _ => by
    have : a = 0 := by omega
    rw [this]; exact Rat.le_refl
  | b + 1, h, hk => by
    by_cases e : a = b + 1
    · rw [e]; exact Rat.le_refl
    · have h1 := mono_le (b := b) (by omega) fun k h1 h2 => hk k h1 (by omega)
      have h2 := hk b (by omega) (by omega)
      grind
/-- between two tables with the same own columns all steps are of no length -/
theorem Wk.flat (W : Wk m N w K T p s) {a b : Nat} (hab : a ≤ b) (hb : b ≤ K) (hs : ∀ j, j < N → (Bas m (T a) j ↔ Bas m (T b) j)) : ∀ k, a ≤ k → k < b → (T k).G (p k) N = 0 := fun k h1 h2 => by
  have Ia := W.inv a (by omega)
  have Ib := W.inv b hb
  have e : ∀ j, j < N + 1 → bsol m N (T a) j = bsol m N (T b) j := by
    refine bsol_uniq Ib.pat ((W.null b hb).mp ((W.null a (by omega)).mpr (bsol_null Ia.pat))) bsol_N fun j hj nb => ?_
    exact bsol_out hj fun z => nb ((hs j hj).mp z)
  have v1 := mono_le (f := fun k => val N (T 0) (bsol m N (T k))) (a := a) (b := k) h1 fun i hi1 hi2 => (W.desc (by omega)).1
  have v2 := mono_le (f := fun k => val N (T 0) (bsol m N (T k))) (a := k + 1) (b := b) (by omega) fun i hi1 hi2 => (W.desc (by omega)).1
  have v3 := val_congr (T := T 0) e
  have d := W.desc (k := k) (by omega)
  refine d.2 ?_
  have := d.1
  grind
theorem Wk.const (W : Wk m N w K T p s) {a b : Nat} (hb : b ≤ K) (hz : ∀ k, a ≤ k → k < b → (T k).G (p k) N = 0) : ∀ k, a ≤ k → k ≤ b → ∀ j, j < N + 1 → bsol m N (T a) j = bsol m N (T k) j := by
  intro k
  induction k with
  | zero => intro h1 h2 j hj; have : a = 0 := by omega
            rw [this]
  | succ k ih =>
    intro h1 h2 j hj
    by_cases e : a = k + 1
    · rw [e]
    · rw [ih (by omega) (by omega) j hj]
      exact (W.st k (by omega)).same (W.inv k (by omega)) (hz k (by omega) (by omega)) j hj
/-! ### what changes must come back -/
theorem flip {P : Nat → Prop} {a : Nat} : ∀ {b : Nat}, a ≤ b → P a → ¬ P b → ∃ k, a ≤ k ∧ k < b ∧ P k ∧ ¬ P (k + 1)
  | 0, h, h1, h2 => by
    have : a = 0 := by omega
    rw [this] at h1; exact absurd h1 h2
  | b + 1, h, h1, h2 => by
    by_cases e : a = b + 1
    · rw [e] at h1; exact absurd h1 h2
    · by_cases q : P b
      · exact ⟨b, by omega, by omega, q, h2⟩
      · obtain ⟨k, k1, k2, k3, k4⟩ := flip (b := b) (by omega) h1 q
        exact ⟨k, k1, by omega, k3, k4⟩
theorem max_of {F : Nat → Prop} : ∀ {n : Nat}, (∃ j, j < n ∧ F j) → ∃ t, t < n ∧ F t ∧ ∀ j, j < n → F j → j ≤ t
  | 0, ⟨j, h, _⟩ => by omega
  | n + 1, ⟨j, h, hF⟩ => by
    by_cases q : F n
    · exact ⟨n, by omega, q, fun j hj _ => by omega⟩
    · have jn : j < n := by
        by_cases e : j = n
        · rw [e] at hF; exact absurd hF q
        · omega
      obtain ⟨t, t1, t2, t3⟩ := max_of (n := n) ⟨j, jn, hF⟩
      refine ⟨t, by omega, t2, fun i hi hFi => ?_⟩
      by_cases e : i = n
      · rw [e] at hFi; exact absurd hFi q
      · exact t3 i (by omega) hFi
/-- the direction along which a column grows -/
def dir (m N : Nat) (T : TS) (s : Nat) (j : Nat) : Rat := if j = N then 0 else if j = s then 1 else - pick m T (fun i => T.G i s / T.G i (T.o i)) j
theorem dir_null {T : TS} (h : Pat m N T) {s : Nat} (hs : s < N) (ns : ¬ Bas m T s) : Null m N T (dir m N T s) := fun i hi => by
  have oi := h.ho i hi
  have ne : T.o i ≠ s := fun e => ns ⟨i, hi, e⟩
  have split : ∀ j, j < N → T.G i j * dir m N T s j = (if j = s then T.G i s else 0) + (if j = T.o i then - T.G i s else 0) := fun j hj => by
    unfold dir
    rw [if_neg (by omega)]
    by_cases e1 : j = s
    · rw [if_pos e1, if_pos e1, if_neg (by rw [e1]; exact fun z => ne z.symm), e1]; grind
    · rw [if_neg e1, if_neg e1]
      by_cases e2 : j = T.o i
      · rw [if_pos e2, e2, pick_in h hi]
        have := div_mul (a := T.G i s) (h.hp i hi)
        grind
      · rw [if_neg e2]
        by_cases b : Bas m T j
        · obtain ⟨k, hk, rfl⟩ := b
          rw [h.hz i k hi hk fun z => e2 (by rw [z])]; grind
        · rw [pick_out b]; grind
  unfold dot
  rw [sm, sm_congr split, sm_add, sm_one (k := s) hs fun j _ z => if_neg z, sm_one (k := T.o i) oi fun j _ z => if_neg z, if_pos rfl, if_pos rfl]
  unfold dir
  rw [if_pos rfl]
  grind
theorem dir_val {T : TS} (h : Pat m N T) {s : Nat} (hs : s < N) : val N T (dir m N T s) = T.c s := by
  unfold val dot
  rw [sm, sm_one (k := s) hs]
  · unfold dir
    rw [if_neg (by omega), if_pos rfl, if_pos rfl]; grind
  · intro j hj ne
    unfold dir
    rw [if_neg (by omega), if_neg ne]
    by_cases b : Bas m T j
    · obtain ⟨k, hk, rfl⟩ := b
      rw [h.hc k hk]; grind
    · rw [pick_out b]; grind
/-- Bland: no own columns come back -/
theorem Wk.bland (W : Wk m N w K T p s) (hw : w ≤ N) {a b : Nat} (hab : a < b) (hb : b ≤ K) (hs : ∀ j, j < N → (Bas m (T a) j ↔ Bas m (T b) j)) : False := by
  have flat := W.flat (by omega) hb hs
  have cst := W.const hb flat
  let F : Nat → Prop := fun j => ∃ u v, a ≤ u ∧ u ≤ b ∧ a ≤ v ∧ v ≤ b ∧ Bas m (T u) j ∧ ¬ Bas m (T v) j
  have S0 := W.st a (by omega)
  have I0 := W.inv a (by omega)
  have F0 : F (s a) := ⟨a + 1, a, by omega, by omega, by omega, by omega, (S0.bas I0 _).mpr (.inl rfl), S0.out I0⟩
  obtain ⟨t, tN, ⟨u, v, u1, u2, v1, v2, hu, hv⟩, tmax⟩ := max_of (F := F) (n := N) ⟨s a, S0.pv.hs, F0⟩
  -- t leaves, and t enters
  have both : (∃ k, a ≤ k ∧ k < b ∧ Bas m (T k) t ∧ ¬ Bas m (T (k + 1)) t) ∧ (∃ k, a ≤ k ∧ k < b ∧ ¬ Bas m (T k) t ∧ Bas m (T (k + 1)) t) := by
    by_cases q : Bas m (T a) t
    · have qb := (hs t tN).mp q
      obtain ⟨k, k1, k2, k3, k4⟩ := flip (P := fun k => Bas m (T k) t) (a := a) (b := v) v1 q hv
      obtain ⟨l, l1, l2, l3, l4⟩ := flip (P := fun k => ¬ Bas m (T k) t) (a := v) (b := b) v2 hv (fun z => z qb)
      exact ⟨⟨k, k1, by omega, k3, k4⟩, ⟨l, by omega, l2, l3, Classical.not_not.mp l4⟩⟩
    · have qb : ¬ Bas m (T b) t := fun z => q ((hs t tN).mpr z)
      obtain ⟨k, k1, k2, k3, k4⟩ := flip (P := fun k => ¬ Bas m (T k) t) (a := a) (b := u) u1 q (fun z => z hu)
      obtain ⟨l, l1, l2, l3, l4⟩ := flip (P := fun k => Bas m (T k) t) (a := u) (b := b) u2 hu qb
      exact ⟨⟨l, by omega, l2, l3, l4⟩, ⟨k, k1, by omega, k3, Classical.not_not.mp k4⟩⟩
  obtain ⟨⟨k, k1, k2, kin, kout⟩, ⟨l, l1, l2, lout, lin⟩⟩ := both
  have Sk := W.st k (by omega)
  have Ik := W.inv k (by omega)
  have Sl := W.st l (by omega)
  have Il := W.inv l (by omega)
  have tk : t = (T k).o (p k) := Classical.byContradiction fun ne => kout ((Sk.bas Ik t).mpr (.inr ⟨kin, ne⟩))
  have tl : t = s l := by
    rcases (Sl.bas Il t).mp lin with z | ⟨z, _⟩
    · exact z
    · exact absurd z lout
  -- the direction of the step k
  have dn := dir_null Ik.pat Sk.pv.hs (Sk.out Ik)
  have dv := dir_val Ik.pat Sk.pv.hs
  have n0 := (W.null k (by omega)).mpr dn
  obtain ⟨x, x0, hx⟩ := W.vl k (by omega)
  obtain ⟨y, y0, hy⟩ := W.vl l (by omega)
  have e1 := hx _ n0
  have e2 := hy _ n0
  have neg0 : val N (T 0) (dir m N (T k) (s k)) < 0 := by
    apply Classical.byContradiction
    intro hn
    have hge := Rat.not_lt.mp hn
    have := Rat.mul_nonneg (Rat.le_of_lt x0) hge
    have := Sk.neg
    grind
  have negl : val N (T l) (dir m N (T k) (s k)) < 0 := by
    have := Rat.mul_pos y0 (show 0 < - val N (T 0) (dir m N (T k) (s k)) by grind)
    grind
  obtain ⟨j, jN, hj⟩ := sm_neg_ex negl
  have jne : j ≠ N := fun z => by
    rw [z] at hj
    unfold dir at hj
    rw [if_pos rfl] at hj
    grind
  have jlt : j < N := by omega
  have nbl : ¬ Bas m (T l) j := by
    rintro ⟨i, hi, e⟩
    have := Il.pat.hc i hi
    rw [e] at this
    rw [this] at hj
    grind
  have jk : j = s k ∨ Bas m (T k) j := by
    by_cases z1 : j = s k
    · exact .inl z1
    · by_cases z2 : Bas m (T k) j
      · exact .inr z2
      · exfalso
        unfold dir at hj
        rw [if_neg jne, if_neg z1, pick_out z2] at hj
        grind
  have jF : F j := by
    rcases jk with z | z
    · exact ⟨k + 1, l, by omega, by omega, by omega, by omega, (Sk.bas Ik j).mpr (.inl z), nbl⟩
    · exact ⟨k, l, by omega, by omega, by omega, by omega, z, nbl⟩
  have jt := tmax j jlt jF
  by_cases ejt : j = t
  · -- both factors are below 0
    have c1 : (T l).c j < 0 := by rw [ejt, tl]; exact Sl.neg
    have d1 : dir m N (T k) (s k) j < 0 := by
      have js : j ≠ s k := fun z => by
        have := Sk.out Ik
        rw [← z, ejt] at this
        exact this kin
      unfold dir
      rw [if_neg jne, if_neg js, ejt, tk, pick_in Ik.pat Sk.pv.hp]
      have := div_pos Sk.pv.ps (Ik.pat.hp _ Sk.pv.hp)
      grind
    have := Rat.mul_pos (show 0 < - (T l).c j by grind) (show 0 < - dir m N (T k) (s k) j by grind)
    grind
  · have c0 : 0 ≤ (T l).c j := Sl.fst j (by omega)
    have dneg : dir m N (T k) (s k) j < 0 := by
      apply Classical.byContradiction
      intro hn
      have := Rat.mul_nonneg c0 (Rat.not_lt.mp hn)
      grind
    have js : j ≠ s k := fun z => by
      unfold dir at dneg
      rw [if_neg jne, if_pos z] at dneg
      grind
    obtain ⟨i, hi, ei⟩ : Bas m (T k) j := by
      rcases jk with z | z
      · exact absurd z js
      · exact z
    unfold dir at dneg
    rw [if_neg jne, if_neg js, ← ei, pick_in Ik.pat hi] at dneg
    have op := Ik.pat.hp i hi
    have gpos : 0 < (T k).G i (s k) := by
      have h1 := div_mul (a := (T k).G i (s k)) op
      have h2 := Rat.mul_pos op (show 0 < (T k).G i (s k) / (T k).G i ((T k).o i) by grind)
      grind
    have ip : i ≠ p k := fun z => ejt (by rw [← ei, z, ← tk])
    -- the row of j has the right number 0
    have xj : bsol m N (T k) j = 0 := by
      have h1 := cst k (by omega) (by omega) j jN
      have h2 := cst l (by omega) (by omega) j jN
      rw [← h1, h2, bsol_out jlt nbl]
    rw [← ei, bsol_in Ik.pat hi] at xj
    have gN : (T k).G i N = 0 := by
      have h1 := div_mul (a := (T k).G i N) op
      rw [xj] at h1
      grind
    have pN := flat k k1 k2
    rcases Sk.min i hi ip gpos with z | ⟨_, z⟩
    · rw [gN, pN] at z
      grind
    · rw [← tk, ei] at z
      omega
end MA
set_option Elab.async false
set_option linter.all false
set_option maxRecDepth 100000
set_option maxHeartbeats 4000000
namespace MA
variable {m N w K : Nat} {T : Nat → TS} {p s : Nat → Nat}
theorem pigeon : ∀ (B : Nat) (f : Nat → Nat), (∀ k, k ≤ B → f k < B) → ∃ i j, i < j ∧ j ≤ B ∧ f i = f j
  | 0, f, h => by have := h 0 (by omega); omega
  | B + 1, f, h => by
    by_cases q : ∃ i, i ≤ B ∧ f i = f (B + 1)
    · obtain ⟨i, hi, e⟩ := q
      exact ⟨i, B + 1, by omega, by omega, e⟩
    · have hv := h (B + 1) (by omega)
      have q' : ∀ i, i ≤ B → f i ≠ f (B + 1) := fun i hi e => q ⟨i, hi, e⟩
      obtain ⟨i, j, hij, hj, e⟩ := pigeon B (fun k => if f k = B then f (B + 1) else f k) (fun k hk => by
        have h1 := h k (by omega)
        have h2 := q' k hk
        show (if f k = B then f (B + 1) else f k) < B
        split <;> omega)
      refine ⟨i, j, hij, by omega, ?_⟩
      have h1 := q' i (by omega)
      have h2 := q' j hj
      have e : (if f i = B then f (B + 1) else f i) = (if f j = B then f (B + 1) else f j) := e
      split at e <;> split at e <;> omega
def bc (f : Nat → Bool) : Nat → Nat
  | 0 => 0
  | n + 1 => bc f n + (if f n = true then 2 ^ n else 0)
theorem bc_lt (f : Nat → Bool) : ∀ n, bc f n < 2 ^ n
  | 0 => by simp [bc]
  | n + 1 => by
    have := bc_lt f n
    rw [bc, Nat.pow_succ]
    split <;> omega
theorem bc_inj {f g : Nat → Bool} : ∀ {n : Nat}, bc f n = bc g n → ∀ j, j < n → f j = g j
  | 0, _, j, h => by omega
  | n + 1, e, j, h => by
    have h1 := bc_lt f n
    have h2 := bc_lt g n
    rw [bc, bc] at e
    have fg : f n = g n := by
      cases hf : f n <;> cases hg : g n <;> simp [hf, hg] at e ⊢ <;> omega
    by_cases z : j = n
    · rw [z]; exact fg
    · rw [fg] at e
      exact bc_inj (n := n) (by omega) j (by omega)
open Classical in
theorem Wk.short (W : Wk m N w K T p s) (hw : w ≤ N) : K < 2 ^ N := by
  apply Classical.byContradiction
  intro hn
  have hK : 2 ^ N ≤ K := by omega
  obtain ⟨i, j, hij, hj, e⟩ := pigeon (2 ^ N) (fun k => bc (fun j => decide (Bas m (T k) j)) N) (fun k _ => bc_lt _ N)
  refine W.bland hw hij (by omega) fun t ht => ?_
  have := bc_inj e t ht
  simpa using this
/-! ### ends -/
end MA
set_option Elab.async false
set_option linter.all false
set_option maxRecDepth 100000
set_option maxHeartbeats 4000000
namespace MA
/-! ### sums of ints -/
def si (f : Nat → Int) : Nat → Int
  | 0 => 0
  | n + 1 => si f n + f n
theorem si_congr {f g : Nat → Int} : ∀ {n : Nat}, (∀ j, j < n → f j = g j) → si f n = si g n
  | 0, _ => rfl
  | n + 1, h => by rw [si, si, si_congr fun j hj => h j (by omega), h n (by omega)]
theorem si_add (f g : Nat → Int) : ∀ n : Nat, si (fun j => f j + g j) n = si f n + si g n
  | 0 => rfl
  | n + 1 => by rw [si, si, si, si_add f g n]; omega
theorem si_mul (c : Int) (f : Nat → Int) : ∀ n : Nat, si (fun j => c * f j) n = c * si f n
  | 0 => by simp [si]
  | n + 1 => by rw [si, si, si_mul c f n, Int.mul_add]
theorem si_zero {f : Nat → Int} {n : Nat} (h : ∀ j, j < n → f j = 0) : si f n = 0 := by
  induction n with
  | zero => rfl
  | succ n ih => rw [si, ih fun j hj => h j (by omega), h n (by omega)]; rfl
theorem si_one {f : Nat → Int} {k : Nat} : ∀ {n : Nat}, k < n → (∀ j, j < n → j ≠ k → f j = 0) → si f n = f k
  | 0, h, _ => by omega
  | n + 1, h, h0 => by
    rw [si]
    by_cases e : k = n
    · subst e
      rw [si_zero fun j hj => h0 j (by omega) (by omega)]
      omega
    · rw [si_one (n := n) (by omega) fun j hj hn => h0 j (by omega) hn, h0 n (by omega) (by omega)]
      omega
theorem si_abs {f : Nat → Int} {B : Nat} : ∀ {n : Nat}, (∀ j, j < n → (f j).natAbs ≤ B) → (si f n).natAbs ≤ n * B
  | 0, _ => by simp [si]
  | n + 1, h => by
    have h1 := si_abs (n := n) fun j hj => h j (by omega)
    have h2 := h n (by omega)
    rw [si, Nat.succ_mul]
    have := Int.natAbs_add_le (si f n) (f n)
    omega
theorem si_cast (f : Nat → Int) : ∀ n : Nat, ((si f n : Int) : Rat) = sm (fun j => ((f j : Int) : Rat)) n
  | 0 => by simp [si, sm]
  | n + 1 => by rw [si, sm, ← si_cast f n, Rat.intCast_add]
/-! ### small solutions -/
def fb (k M U : Nat) : Nat := (2 * M * U) ^ k
theorem abs_mul_le {a b : Int} {A B : Nat} (ha : a.natAbs ≤ A) (hb : b.natAbs ≤ B) : (a * b).natAbs ≤ A * B := by
  rw [Int.natAbs_mul]; exact Nat.mul_le_mul ha hb
theorem pigeon2 : ∀ (m n : Nat) (f : Nat → Nat), m < n → (∀ i, i < n → f i < m) → ∃ i j, i < j ∧ j < n ∧ f i = f j
  | 0, n, f, h, hf => absurd (hf 0 h) (by omega)
  | m + 1, 0, f, h, _ => by omega
  | m + 1, n + 1, f, h, hf => by
    by_cases q : ∃ i, i < n ∧ f i = f n
    · obtain ⟨i, hi, e⟩ := q
      exact ⟨i, n, hi, by omega, e⟩
    · have q : ∀ i, i < n → f i ≠ f n := fun i hi e => q ⟨i, hi, e⟩
      have fn := hf n (by omega)
      obtain ⟨i, j, h1, h2, e⟩ := pigeon2 m n (fun i => if f i = m then f n else f i) (by omega) (fun i hi => by
        have a := hf i (by omega)
        have b := q i hi
        show (if f i = m then f n else f i) < m
        split <;> omega)
      refine ⟨i, j, h1, by omega, ?_⟩
      have a := q i (by omega)
      have b := q j h2
      split at e <;> split at e <;> omega
def dig (B l i : Nat) : Nat := i / B ^ l % B
theorem dig_inj {B : Nat} : ∀ (M i j : Nat), i < B ^ M → j < B ^ M → (∀ l, l < M → dig B l i = dig B l j) → i = j
  | 0, i, j, hi, hj, _ => by simp at hi hj; omega
  | M + 1, i, j, hi, hj, h => by
    have h0 := h 0 (by omega)
    simp only [dig, Nat.pow_zero, Nat.div_one] at h0
    have e : ∀ i l, dig B (l + 1) i = dig B l (i / B) := fun i l => by
      unfold dig
      rw [Nat.div_div_eq_div_mul, Nat.pow_succ, Nat.mul_comm]
    rw [Nat.pow_succ] at hi hj
    have := dig_inj M (i / B) (j / B) (Nat.div_lt_of_lt_mul (by rw [Nat.mul_comm]; exact hi)) (Nat.div_lt_of_lt_mul (by rw [Nat.mul_comm]; exact hj)) fun l hl => by
      rw [← e, ← e]; exact h (l + 1) (by omega)
    rw [← Nat.div_add_mod i B, ← Nat.div_add_mod j B, this, h0]
def cod (W : Nat) (f : Nat → Nat) : Nat → Nat
  | 0 => 0
  | k + 1 => cod W f k * W + f k
theorem cod_lt {W : Nat} {f : Nat → Nat} : ∀ {k : Nat}, (∀ e, e < k → f e < W) → cod W f k < W ^ k
  | 0, _ => by simp [cod]
  | k + 1, h => by
    have a := cod_lt (k := k) fun e he => h e (by omega)
    have b := h k (by omega)
    rw [cod, Nat.pow_succ]
    have : (cod W f k + 1) * W ≤ W ^ k * W := Nat.mul_le_mul_right _ a
    rw [Nat.add_mul] at this
    omega
theorem cod_inj {W : Nat} {f g : Nat → Nat} : ∀ {k : Nat}, (∀ e, e < k → f e < W) → (∀ e, e < k → g e < W) → cod W f k = cod W g k → ∀ e, e < k → f e = g e
  | 0, _, _, _, e, he => by omega
  | k + 1, hf, hg, h, e, he => by
    have a := hf k (by omega)
    have b := hg k (by omega)
    have W0 : 0 < W := by omega
    rw [cod, cod] at h
    have m1 := congrArg (· % W) h
    have d1 := congrArg (· / W) h
    rw [Nat.mul_comm (cod W f k), Nat.mul_comm (cod W g k), Nat.mul_add_mod, Nat.mul_add_mod, Nat.mod_eq_of_lt a, Nat.mod_eq_of_lt b] at m1
    have z1 : (cod W f k * W + f k) / W = cod W f k := by
      rw [Nat.mul_comm, Nat.mul_add_div W0, Nat.div_eq_of_lt a, Nat.add_zero]
    have z2 : (cod W g k * W + g k) / W = cod W g k := by
      rw [Nat.mul_comm, Nat.mul_add_div W0, Nat.div_eq_of_lt b, Nat.add_zero]
    rw [z1, z2] at d1
    by_cases q : e = k
    · rw [q]; exact m1
    · exact cod_inj (fun e he => hf e (by omega)) (fun e he => hg e (by omega)) d1 e (by omega)
theorem siegel (M k : Nat) (E : Nat → Nat → Int) (U : Nat) (hE : ∀ e l, e < k → l < M → (E e l).natAbs ≤ U) (hU : 1 ≤ U) (hk : k < M) :
    ∃ y : Nat → Int, (∃ l, l < M ∧ y l ≠ 0) ∧ (∀ e, e < k → si (fun l => E e l * y l) M = 0) ∧ ∀ l, (y l).natAbs ≤ fb k M U := by
  obtain ⟨B, hB⟩ : ∃ B, B = (2 * M * U) ^ k := ⟨_, rfl⟩
  have d0 : 0 < 2 * M * U := Nat.mul_pos (by omega) (by omega)
  have digB : ∀ l i, dig (B + 1) l i ≤ B := fun l i => by
    have := Nat.mod_lt (i / (B + 1) ^ l) (y := B + 1) (by omega)
    unfold dig; omega
  have sB : ∀ e i, e < k → (si (fun l => E e l * (dig (B + 1) l i : Int)) M).natAbs ≤ M * (U * B) := fun e i he =>
    si_abs fun l hl => abs_mul_le (hE e l he hl) (by rw [Int.natAbs_natCast]; exact digB l i)
  obtain ⟨val, hval⟩ : ∃ val : Nat → Nat → Nat, ∀ i e, val i e = (si (fun l => E e l * (dig (B + 1) l i : Int)) M + ((M * (U * B) : Nat) : Int)).toNat := ⟨_, fun _ _ => rfl⟩
  have vlt : ∀ i e, e < k → val i e < 2 * M * U * B + 1 := fun i e he => by
    have := sB e i he
    have e2 : 2 * M * U * B = 2 * (M * (U * B)) := by rw [Nat.mul_assoc, Nat.mul_assoc]
    rw [hval, e2]
    omega
  have big : (2 * M * U * B + 1) ^ k < (B + 1) ^ M := by
    have a1 : 2 * M * U * B + 1 ≤ 2 * M * U * (B + 1) := by rw [Nat.mul_add]; omega
    have a2 : (2 * M * U * B + 1) ^ k ≤ (2 * M * U) ^ k * (B + 1) ^ k := by
      rw [← Nat.mul_pow]; exact Nat.pow_le_pow_left a1 k
    rw [← hB] at a2
    have a3 : B * (B + 1) ^ k < (B + 1) * (B + 1) ^ k := Nat.mul_lt_mul_of_pos_right (by omega) (Nat.pow_pos (by omega))
    have a4 : (B + 1) * (B + 1) ^ k ≤ (B + 1) ^ M := by
      rw [Nat.mul_comm, ← Nat.pow_succ]; exact Nat.pow_le_pow_right (by omega) hk
    omega
  obtain ⟨i, j, ij, hj, ec⟩ := pigeon2 _ _ (fun i => cod (2 * M * U * B + 1) (val i) k) big fun i _ => cod_lt (vlt i)
  have ev := cod_inj (vlt i) (vlt j) ec
  refine ⟨fun l => if l < M then (dig (B + 1) l j : Int) - (dig (B + 1) l i : Int) else 0, ?_, fun e he => ?_, fun l => ?_⟩
  · apply Classical.byContradiction
    intro z
    have : i = j := dig_inj M i j (by omega) hj fun l hl => by
      apply Classical.byContradiction
      intro ne
      exact z ⟨l, hl, by show (if l < M then (dig (B + 1) l j : Int) - (dig (B + 1) l i : Int) else 0) ≠ 0; rw [if_pos hl]; omega⟩
    omega
  · have e1 := ev e he
    rw [hval, hval] at e1
    have b1 := sB e i he
    have b2 := sB e j he
    have e3 : si (fun l => E e l * (if l < M then (dig (B + 1) l j : Int) - (dig (B + 1) l i : Int) else 0)) M = si (fun l => E e l * (dig (B + 1) l j : Int) + (-1) * (E e l * (dig (B + 1) l i : Int))) M := si_congr fun l hl => by
      rw [if_pos hl]; grind
    rw [e3, si_add, si_mul]
    omega
  · show (if l < M then (dig (B + 1) l j : Int) - (dig (B + 1) l i : Int) else 0).natAbs ≤ (2 * M * U) ^ k
    rw [← hB]
    have := digB l i
    have := digB l j
    split <;> omega
/-! ### what rows of a table can be -/
structure Gho (m NF : Nat) (A : Nat → Nat → Int) (c0 : Nat → Int) (T : TS) : Prop where
  sp : ∀ l, l < m → ∃ a : Nat → Rat, ∀ j, j < NF → ((A l j : Int) : Rat) = sm (fun k => a k * T.G k j) m
  pn : ∀ i, i < m → T.G i (T.o i) ≠ 0
  pz : ∀ i k, i < m → k < m → i ≠ k → T.G i (T.o k) = 0
  ob : ∀ i, i < m → T.o i < NF
  cs : ∃ al : Rat, al ≠ 0 ∧ ∃ mu : Nat → Rat, ∀ j, j < NF → T.c j = al * ((c0 j : Int) : Rat) + sm (fun k => mu k * T.G k j) m
  cz : ∀ k, k < m → T.c (T.o k) = 0
structure Unt (m NF : Nat) (A : Nat → Nat → Int) (h : Nat → Nat) : Prop where
  lt : ∀ l, l < m → h l < NF
  at_ : ∀ l k, l < m → k < m → A l (h k) = if l = k then 1 else 0
variable {m NF : Nat} {A : Nat → Nat → Int} {c0 : Nat → Int} {T : TS} {hh : Nat → Nat} {U : Nat}
theorem sm_comm (f : Nat → Nat → Rat) (n : Nat) : ∀ m : Nat, sm (fun l => sm (fun k => f l k) n) m = sm (fun k => sm (fun l => f l k) m) n
  | 0 => by
    rw [sm]
    exact (sm_zero fun j _ => rfl).symm
  | m + 1 => by
    rw [sm, sm_comm f n m, ← sm_add]
    exact sm_congr fun j hj => by rw [sm]
/-- sums of the rows are sums of the table's rows -/
theorem Gho.span (g : Gho m NF A c0 T) (y : Nat → Int) : ∃ b : Nat → Rat, ∀ j, j < NF → ((si (fun l => y l * A l j) m : Int) : Rat) = sm (fun k => b k * T.G k j) m := by
  have ch : ∃ a : Nat → Nat → Rat, ∀ l, l < m → ∀ j, j < NF → ((A l j : Int) : Rat) = sm (fun k => a l k * T.G k j) m := by
    refine ⟨fun l => if h : l < m then (Classical.choose (g.sp l h)) else fun _ => 0, fun l hl j hj => ?_⟩
    have e := Classical.choose_spec (g.sp l hl) j hj
    simp only [dif_pos hl]
    exact e
  obtain ⟨a, ha⟩ := ch
  refine ⟨fun k => sm (fun l => ((y l : Int) : Rat) * a l k) m, fun j hj => ?_⟩
  rw [si_cast]
  have e1 : sm (fun l => ((y l * A l j : Int) : Rat)) m = sm (fun l => sm (fun k => ((y l : Int) : Rat) * a l k * T.G k j) m) m := sm_congr fun l hl => by
    rw [Rat.intCast_mul, ha l hl j hj, ← sm_mul]
    exact sm_congr fun k _ => by grind
  rw [e1, sm_comm]
  exact sm_congr fun k _ => by
    rw [Rat.mul_comm, ← sm_mul]
    exact sm_congr fun l _ => by grind
/-- a sum of the table's rows, at an own column -/
theorem Gho.at_own (g : Gho m NF A c0 T) (b : Nat → Rat) {k : Nat} (hk : k < m) : sm (fun i => b i * T.G i (T.o k)) m = b k * T.G k (T.o k) :=
  sm_one hk fun i hi ne => by rw [g.pz i k hi hk ne]; grind
theorem Gho.zero_of (g : Gho m NF A c0 T) {b : Nat → Rat} {k : Nat} (hk : k < m) (h : sm (fun i => b i * T.G i (T.o k)) m = 0) : b k = 0 := by
  rw [g.at_own b hk] at h
  rcases Rat.mul_eq_zero.mp h with z | z
  · exact z
  · exact absurd z (g.pn k hk)
theorem unt_at (u : Unt m NF A hh) (y : Nat → Int) {k : Nat} (hk : k < m) : si (fun l => y l * A l (hh k)) m = y k := by
  rw [si_one hk fun l hl ne => by rw [u.at_ l k hl hk, if_neg ne, Int.mul_zero], u.at_ k k hk hk, if_pos rfl, Int.mul_one]
theorem row_bd (g : Gho m NF A c0 T) (u : Unt m NF A hh) (hU : ∀ l j, l < m → j < NF → (A l j).natAbs ≤ U) (U1 : 1 ≤ U) {i : Nat} (hi : i < m) :
    ∃ v : Nat → Int, (∀ j, j < NF → (v j).natAbs ≤ m * (fb (m - 1) m U * U)) ∧ ∃ z : Rat, z ≠ 0 ∧ ∀ j, j < NF → ((v j : Int) : Rat) = z * T.G i j := by
  -- the equations: the own columns of the others
  let f : Nat → Nat := fun e => if e < i then e else e + 1
  have fm : ∀ e, e < m - 1 → f e < m ∧ f e ≠ i := fun e he => by
    show (if e < i then e else e + 1) < m ∧ (if e < i then e else e + 1) ≠ i
    split <;> omega
  have fs : ∀ k, k < m → k ≠ i → ∃ e, e < m - 1 ∧ f e = k := fun k hk ne => by
    by_cases z : k < i
    · exact ⟨k, by omega, if_pos z⟩
    · exact ⟨k - 1, by omega, by show (if k - 1 < i then k - 1 else k - 1 + 1) = k; rw [if_neg (by omega)]; omega⟩
  obtain ⟨y, ⟨l0, l0m, ne0⟩, y3, y4⟩ := siegel m (m - 1) (fun e l => A l (T.o (f e))) U (fun e l he hl => hU l _ hl (g.ob _ (fm e he).1)) U1 (by omega)
  obtain ⟨b, hb⟩ := g.span y
  refine ⟨fun j => si (fun l => y l * A l j) m, fun j hj => ?_, b i, ?_, fun j hj => ?_⟩
  · exact si_abs fun l hl => abs_mul_le (y4 l) (hU l j hl hj)
  all_goals
    have bz : ∀ k, k < m → k ≠ i → b k = 0 := fun k hk ne => by
      obtain ⟨e, he, fe⟩ := fs k hk ne
      refine g.zero_of hk ?_
      rw [← hb _ (g.ob k hk)]
      have := y3 e he
      rw [fe] at this
      have e2 : si (fun l => y l * A l (T.o k)) m = si (fun l => A l (T.o k) * y l) m := si_congr fun l _ => Int.mul_comm _ _
      rw [e2, this]; rfl
    have all : ∀ j, j < NF → ((si (fun l => y l * A l j) m : Int) : Rat) = b i * T.G i j := fun j hj => by
      rw [hb j hj, sm_one hi fun k hk ne => by rw [bz k hk ne]; grind]
  · intro z
    have h1 := all (hh l0) (u.lt l0 l0m)
    rw [unt_at u y l0m, z, Rat.zero_mul] at h1
    exact ne0 (by exact_mod_cast h1)
  · exact all j hj
theorem cost_bd (g : Gho m NF A c0 T) (u : Unt m NF A hh) (hU : ∀ l j, l < m → j < NF → (A l j).natAbs ≤ U) (hc : ∀ j, j < NF → (c0 j).natAbs ≤ U) (U1 : 1 ≤ U) :
    ∃ v : Nat → Int, (∀ j, j < NF → (v j).natAbs ≤ (m + 1) * (fb m (m + 1) U * U)) ∧ ∃ z : Rat, z ≠ 0 ∧ ∀ j, j < NF → ((v j : Int) : Rat) = z * T.c j := by
  let A' : Nat → Nat → Int := fun l j => if l < m then A l j else c0 j
  have hA : ∀ l j, l < m + 1 → j < NF → (A' l j).natAbs ≤ U := fun l j hl hj => by
    show (if l < m then A l j else c0 j).natAbs ≤ U
    split
    · exact hU l j (by omega) hj
    · exact hc j hj
  obtain ⟨y, ⟨l0, l0m, ne0⟩, y3, y4⟩ := siegel (m + 1) m (fun e l => A' l (T.o e)) U (fun e l he hl => hA l _ hl (g.ob _ he)) U1 (by omega)
  have split : ∀ j, si (fun l => y l * A' l j) (m + 1) = si (fun l => y l * A l j) m + y m * c0 j := fun j => by
    rw [si]
    have e1 : si (fun l => y l * A' l j) m = si (fun l => y l * A l j) m := si_congr fun l hl => by
      show y l * (if l < m then A l j else c0 j) = _
      rw [if_pos hl]
    rw [e1]
    show _ + y m * (if m < m then A m j else c0 j) = _
    rw [if_neg (Nat.lt_irrefl m)]
  obtain ⟨b, hb⟩ := g.span y
  have kill : ∀ k, k < m → si (fun l => y l * A l (T.o k)) m + y m * c0 (T.o k) = 0 := fun k hk => by
    rw [← split]
    have := y3 k hk
    rw [← this]
    exact si_congr fun l _ => Int.mul_comm _ _
  have ym : y m ≠ 0 := fun z => by
    have bz : ∀ k, k < m → b k = 0 := fun k hk => by
      refine g.zero_of hk ?_
      rw [← hb _ (g.ob k hk)]
      have := kill k hk
      rw [z, Int.zero_mul, Int.add_zero] at this
      rw [this]; rfl
    have lt : l0 < m := by
      by_cases e : l0 = m
      · rw [e] at ne0; exact absurd z ne0
      · omega
    have h1 := hb (hh l0) (u.lt l0 lt)
    rw [unt_at u y lt, sm_zero fun k hk => by rw [bz k hk]; grind] at h1
    exact ne0 (by exact_mod_cast h1)
  obtain ⟨al, al0, mu, hmu⟩ := g.cs
  have alinv : al * al⁻¹ = 1 := Rat.mul_inv_cancel al al0
  have ymr : ((y m : Int) : Rat) ≠ 0 := fun z => ym (by exact_mod_cast z)
  -- the rest is a sum of rows that is 0 at all own columns
  have bz : ∀ k, k < m → b k - ((y m : Int) : Rat) * al⁻¹ * mu k = 0 := fun k hk => by
    refine g.zero_of (b := fun k => b k - ((y m : Int) : Rat) * al⁻¹ * mu k) hk ?_
    have e1 : sm (fun i => (b i - ((y m : Int) : Rat) * al⁻¹ * mu i) * T.G i (T.o k)) m = sm (fun i => b i * T.G i (T.o k)) m + (-(((y m : Int) : Rat) * al⁻¹)) * sm (fun i => mu i * T.G i (T.o k)) m := by
      rw [← sm_mul, ← sm_add]
      exact sm_congr fun i _ => by grind
    rw [e1, ← hb _ (g.ob k hk)]
    have h2 := hmu _ (g.ob k hk)
    rw [g.cz k hk] at h2
    have h3 := kill k hk
    have h4 : ((si (fun l => y l * A l (T.o k)) m : Int) : Rat) = - (((y m : Int) : Rat) * ((c0 (T.o k) : Int) : Rat)) := by
      have : si (fun l => y l * A l (T.o k)) m = -(y m * c0 (T.o k)) := by omega
      rw [this, Rat.intCast_neg, Rat.intCast_mul]
    rw [h4]
    have h5 : sm (fun i => mu i * T.G i (T.o k)) m = - (al * ((c0 (T.o k) : Int) : Rat)) := by grind
    rw [h5]
    grind
  refine ⟨fun j => si (fun l => y l * A' l j) (m + 1), fun j hj => si_abs fun l hl => abs_mul_le (y4 l) (hA l j hl hj), ((y m : Int) : Rat) * al⁻¹, ?_, fun j hj => ?_⟩
  · intro z
    rcases Rat.mul_eq_zero.mp z with z | z
    · exact ymr z
    · rw [z, Rat.mul_zero] at alinv; exact absurd alinv (by decide)
  · show ((si (fun l => y l * A' l j) (m + 1) : Int) : Rat) = _
    rw [split, Rat.intCast_add, Rat.intCast_mul, hb j hj, hmu j hj]
    have e1 : sm (fun k => b k * T.G k j) m = sm (fun k => ((y m : Int) : Rat) * al⁻¹ * (mu k * T.G k j)) m := sm_congr fun k hk => by
      have := bz k hk
      have h2 : b k = ((y m : Int) : Rat) * al⁻¹ * mu k := by grind
      rw [h2]; grind
    rw [e1, sm_mul]
    grind
end MA
set_option Elab.async false
set_option linter.all false
set_option maxRecDepth 100000
set_option maxHeartbeats 4000000
namespace MA
variable {m NF : Nat} {A : Nat → Nat → Int} {c0 : Nat → Int} {T T' : TS}
/-- sums of rows, written by changed rows -/
theorem span_tr {p : Nat} (hp : p < m) {al e : Nat → Rat} {G G' : Nat → Nat → Rat} (h : ∀ k j, k < m → j < NF → G k j = al k * G' k j + e k * G' p j) (a : Nat → Rat) : ∃ a' : Nat → Rat, ∀ j, j < NF → sm (fun k => a k * G k j) m = sm (fun k => a' k * G' k j) m := by
  refine ⟨fun k => a k * al k + (if k = p then sm (fun k => a k * e k) m else 0), fun j hj => ?_⟩
  have e1 : sm (fun k => a k * G k j) m = sm (fun k => a k * al k * G' k j + G' p j * (a k * e k)) m := sm_congr fun k hk => by rw [h k j hk hj]; grind
  have e2 : sm (fun k => (a k * al k + (if k = p then sm (fun k => a k * e k) m else 0)) * G' k j) m = sm (fun k => a k * al k * G' k j + (if k = p then sm (fun k => a k * e k) m * G' p j else 0)) m := sm_congr fun k hk => by
    by_cases z : k = p
    · rw [if_pos z, if_pos z, z]; grind
    · rw [if_neg z, if_neg z]; grind
  rw [e1, e2, sm_add, sm_add, sm_mul, sm_one hp fun k _ z => if_neg z, if_pos rfl]
  grind
theorem Gho.pivot (g : Gho m NF A c0 T) {p s : Nat} {sg gc : Rat} {gk : Nat → Rat} (hp : p < m) (hs : s < NF) (ps : T.G p s ≠ 0) (sg0 : sg ≠ 0) (gk0 : ∀ k, k < m → gk k ≠ 0) (gc0 : gc ≠ 0)
    (rp : ∀ j, j < NF → T'.G p j = sg * T.G p j) (rk : ∀ k j, k < m → k ≠ p → j < NF → T'.G k j * gk k = T.G k j * T.G p s - T.G p j * T.G k s)
    (rc : ∀ j, j < NF → T'.c j * gc = T.c j * T.G p s - T.G p j * T.c s) (ow : ∀ k, T'.o k = if k = p then s else T.o k) : Gho m NF A c0 T' := by
  have pi : T.G p s * (T.G p s)⁻¹ = 1 := Rat.mul_inv_cancel _ ps
  have si_ : sg * sg⁻¹ = 1 := Rat.mul_inv_cancel _ sg0
  have ci : gc * gc⁻¹ = 1 := Rat.mul_inv_cancel _ gc0
  have rows : ∀ k j, k < m → j < NF → T.G k j = (if k = p then sg⁻¹ else gk k * (T.G p s)⁻¹) * T'.G k j + (if k = p then 0 else T.G k s * (T.G p s)⁻¹ * sg⁻¹) * T'.G p j := fun k j hk hj => by
    rw [rp j hj]
    by_cases z : k = p
    · rw [if_pos z, if_pos z, z, rp j hj]; grind
    · rw [if_neg z, if_neg z]
      have := rk k j hk z hj
      grind
  have ne0 : ∀ k, k < m → k ≠ p → T'.G k s = 0 := fun k hk z => by
    have := rk k s hk z hs
    have h2 : T'.G k s * gk k = 0 := by grind
    rcases Rat.mul_eq_zero.mp h2 with q | q
    · exact q
    · exact absurd q (gk0 k hk)
  refine ⟨fun l hl => ?_, fun i hi => ?_, fun i k hi hk ne => ?_, fun i hi => ?_, ?_, fun k hk => ?_⟩
  · obtain ⟨a, ha⟩ := g.sp l hl
    obtain ⟨a', ha'⟩ := span_tr (NF := NF) hp rows a
    exact ⟨a', fun j hj => by rw [ha j hj, ha' j hj]⟩
  · rw [ow]
    by_cases z : i = p
    · rw [if_pos z, z, rp s hs]
      intro q
      rcases Rat.mul_eq_zero.mp q with q | q
      · exact sg0 q
      · exact ps q
    · rw [if_neg z]
      intro q
      have := rk i (T.o i) hi z (g.ob i hi)
      rw [q, g.pz p i hp hi (fun w => z w.symm)] at this
      have h2 : T.G i (T.o i) * T.G p s = 0 := by grind
      rcases Rat.mul_eq_zero.mp h2 with q | q
      · exact g.pn i hi q
      · exact ps q
  · rw [ow]
    by_cases z : k = p
    · rw [if_pos z]
      exact ne0 i hi fun w => ne (w.trans z.symm)
    · rw [if_neg z]
      by_cases z2 : i = p
      · rw [z2, rp _ (g.ob k hk), g.pz p k hp hk (fun w => z w.symm)]; grind
      · have := rk i (T.o k) hi z2 (g.ob k hk)
        rw [g.pz i k hi hk ne, g.pz p k hp hk (fun w => z w.symm)] at this
        have h2 : T'.G i (T.o k) * gk i = 0 := by grind
        rcases Rat.mul_eq_zero.mp h2 with q | q
        · exact q
        · exact absurd q (gk0 i hi)
  · rw [ow]; split
    · exact hs
    · exact g.ob i hi
  · obtain ⟨al, al0, mu, hmu⟩ := g.cs
    obtain ⟨mu', hmu'⟩ := span_tr (NF := NF) hp rows mu
    refine ⟨al * T.G p s * gc⁻¹, ?_, fun k => T.G p s * gc⁻¹ * mu' k + (if k = p then - (T.c s * gc⁻¹ * sg⁻¹) else 0), fun j hj => ?_⟩
    · intro q
      rcases Rat.mul_eq_zero.mp q with q | q
      · rcases Rat.mul_eq_zero.mp q with q | q
        · exact al0 q
        · exact ps q
      · rw [q, Rat.mul_zero] at ci; exact absurd ci (by decide)
    · have e1 : sm (fun k => (T.G p s * gc⁻¹ * mu' k + (if k = p then - (T.c s * gc⁻¹ * sg⁻¹) else 0)) * T'.G k j) m = sm (fun k => T.G p s * gc⁻¹ * (mu' k * T'.G k j) + (if k = p then - (T.c s * gc⁻¹ * sg⁻¹) * T'.G p j else 0)) m := sm_congr fun k hk => by
        by_cases z : k = p
        · rw [if_pos z, if_pos z, z]; grind
        · rw [if_neg z, if_neg z]; grind
      rw [e1, sm_add, sm_mul, sm_one hp fun k _ z => if_neg z, if_pos rfl, ← hmu' j hj, rp j hj]
      have h1 := rc j hj
      have h2 := hmu j hj
      have h3 : T'.c j = (T.c j * T.G p s - T.G p j * T.c s) * gc⁻¹ := by
        rw [← h1, Rat.mul_assoc, ci, Rat.mul_one]
      rw [h3, h2]
      grind
  · rw [ow]
    by_cases z : k = p
    · rw [if_pos z]
      have := rc s hs
      have h2 : T'.c s * gc = 0 := by grind
      rcases Rat.mul_eq_zero.mp h2 with q | q
      · exact q
      · exact absurd q gc0
    · rw [if_neg z]
      have := rc _ (g.ob k hk)
      rw [g.cz k hk, g.pz p k hp hk (fun w => z w.symm)] at this
      have h2 : T'.c (T.o k) * gc = 0 := by grind
      rcases Rat.mul_eq_zero.mp h2 with q | q
      · exact q
      · exact absurd q gc0
end MA
set_option Elab.async false
set_option linter.all false
set_option maxRecDepth 100000
set_option maxHeartbeats 4000000
set_option exponentiation.threshold 500000
namespace U
open PySem PySem.Spec PyProof.Rows L2
/-! ### greatest common divisors of rows -/
theorem gcdF_dvd : ∀ (l : List Int) (g : Nat), l.foldl (fun g v => Nat.gcd g v.natAbs) g ∣ g ∧ ∀ v ∈ l, l.foldl (fun g v => Nat.gcd g v.natAbs) g ∣ v.natAbs
  | [], g => ⟨Nat.dvd_refl g, fun v h => by cases h⟩
  | v :: l, g => by
    obtain ⟨h1, h2⟩ := gcdF_dvd l (Nat.gcd g v.natAbs)
    refine ⟨Nat.dvd_trans h1 (Nat.gcd_dvd_left _ _), fun w hw => ?_⟩
    rcases List.mem_cons.mp hw with e | e
    · rw [e]; exact Nat.dvd_trans h1 (Nat.gcd_dvd_right _ _)
    · exact h2 w e
theorem gcdL_dvd {l : List Int} {v : Int} (h : v ∈ l) : gcdL l ∣ v.natAbs := (gcdF_dvd l 0).2 v h
theorem dvd_gcdF {d : Nat} : ∀ (l : List Int) (g : Nat), d ∣ g → (∀ v ∈ l, d ∣ v.natAbs) → d ∣ l.foldl (fun g v => Nat.gcd g v.natAbs) g
  | [], g, h, _ => h
  | v :: l, g, h, hv => dvd_gcdF l _ (Nat.dvd_gcd h (hv v List.mem_cons_self)) fun w hw => hv w (List.mem_cons_of_mem _ hw)
theorem dvd_gcdL {d : Nat} {l : List Int} (h : ∀ v ∈ l, d ∣ v.natAbs) : d ∣ gcdL l := dvd_gcdF l 0 (Nat.dvd_zero d) h
theorem gcd0_zero {l : List Int} (h : gcdL l = 0) : ∀ v ∈ l, v = 0 := fun v hv => by
  have := gcdL_dvd hv
  rw [h] at this
  have := Nat.eq_zero_of_zero_dvd this
  omega
theorem aL_mem {l : List Int} {j : Nat} (h : j < l.length) : aL l j ∈ l := List.mem_of_getElem? (aL_get h)
theorem num_den_mul {u a : Int} {z : Rat} (h : ((u : Int) : Rat) = z * ((a : Int) : Rat)) : u * z.den = z.num * a := by
  rw [Rat.mul_def', Rat.num_intCast, Rat.den_intCast, Nat.mul_one] at h
  have h2 : ((u : Int) : Rat) = mkRat u 1 := by rw [← Rat.mkRat_self (u : Rat), Rat.num_intCast, Rat.den_intCast]
  rw [h2] at h
  have := (Rat.mkRat_eq_iff (by decide) z.den_nz).mp h
  simpa using this
/-- a row without a common divisor is no greater than any whole multiple of it -/
theorem prim_bd {l : List Int} (h : gcdL l = 1) {u : Nat → Int} {z : Rat} (z0 : z ≠ 0) (hu : ∀ j, j < l.length → ((u j : Int) : Rat) = z * ((aL l j : Int) : Rat)) : ∀ j, j < l.length → (aL l j).natAbs ≤ (u j).natAbs := by
  have key : ∀ j, j < l.length → u j * z.den = z.num * aL l j := fun j hj => num_den_mul (hu j hj)
  have dv : z.den ∣ gcdL l := dvd_gcdL fun v hv => by
    obtain ⟨j, hj, e⟩ := List.getElem_of_mem hv
    have ev : aL l j = v := by
      have := aL_get hj
      rw [List.getElem?_eq_getElem hj, e] at this
      exact (Option.some.inj this).symm
    have := key j hj
    rw [ev] at this
    have h2 : z.den ∣ z.num.natAbs * v.natAbs := by
      rw [← Int.natAbs_mul, ← this, Int.natAbs_mul, Int.natAbs_natCast]
      exact Nat.dvd_mul_left _ _
    exact Nat.Coprime.dvd_of_dvd_mul_left (Nat.Coprime.symm z.reduced) h2
  rw [h] at dv
  have d1 : z.den = 1 := Nat.dvd_one.mp dv
  intro j hj
  have := key j hj
  rw [d1] at this
  have h1 : u j = z.num * aL l j := by simpa using this
  rw [h1, Int.natAbs_mul]
  have n0 : z.num ≠ 0 := fun e => z0 (Rat.num_eq_zero.mp e)
  have : 1 ≤ z.num.natAbs := by omega
  have := Nat.mul_le_mul_right (aL l j).natAbs this
  omega
/-- without a common divisor, or small -/
def PL (z : Nat) (l : List Int) : Prop := gcdL l ≤ 1 ∨ SzL z l
theorem szL_at {z : Nat} {l : List Int} (h : ∀ j, j < l.length → (aL l j).natAbs < 2 ^ z) : SzL z l := fun v hv => by
  obtain ⟨j, hj, e⟩ := List.getElem_of_mem hv
  have ev : aL l j = v := by
    have := aL_get hj
    rw [List.getElem?_eq_getElem hj, e] at this
    exact (Option.some.inj this).symm
  rw [← ev]; exact h j hj
theorem pl_sz {z : Nat} {l : List Int} (h : PL z l) {u : Nat → Int} {q : Rat} (q0 : q ≠ 0) (hu : ∀ j, j < l.length → ((u j : Int) : Rat) = q * ((aL l j : Int) : Rat)) (hb : ∀ j, j < l.length → (u j).natAbs < 2 ^ z) : SzL z l := by
  rcases h with h | h
  · by_cases e : gcdL l = 0
    · intro v hv
      rw [gcd0_zero e v hv]
      exact Nat.two_pow_pos z
    · have := prim_bd (by omega) q0 hu
      exact szL_at fun j hj => Nat.lt_of_le_of_lt (this j hj) (hb j hj)
  · exact h
/-! ### a change, by numbers -/
def Tb3.toT (S : Tb3) : MA.TS := ⟨fun i j => ((S.R i j : Int) : Rat), S.o, fun j => ((S.c j : Int) : Rat)⟩
section
variable {S : Tb3} {m n z : Nat}
/-- the lengths alone -/
structure Tb3.Ln (S : Tb3) (m n : Nat) : Prop where
  hm : S.rows.length = m
  ho : S.own.length = m
  hr : ∀ r ∈ S.rows, r.length = n + 1
  hc : S.costs.length = n + 1
theorem Tb3.Ln.row (h : S.Ln m n) {i : Nat} (hi : i < m) : S.row i ∈ S.rows := List.mem_of_getElem? (S.row_get (by rw [h.hm]; exact hi))
theorem Tb3.Ln.len (h : S.Ln m n) {i : Nat} (hi : i < m) : (S.row i).length = n + 1 := h.hr _ (h.row hi)
theorem Tb3.Ok.ln (h : S.Ok m n z) : S.Ln m n := ⟨h.hm, h.ho, h.hr, h.hc⟩
theorem cast_eq {a b c d e g : Int} (h : a * g = b * c - d * e) : ((a : Int) : Rat) * ((g : Int) : Rat) = ((b : Int) : Rat) * ((c : Int) : Rat) - ((d : Int) : Rat) * ((e : Int) : Rat) := by
  have := congrArg (fun z : Int => (z : Rat)) h
  simp only [Rat.intCast_mul, Rat.intCast_sub] at this
  exact this
end
end U
set_option Elab.async false
set_option linter.all false
set_option maxRecDepth 100000
set_option maxHeartbeats 4000000
set_option exponentiation.threshold 500000
namespace U
open PySem PySem.Spec PyProof.Rows L2
/-! ### the table as a view of the full one: its numbers stay small -/
structure Frm (mF NF : Nat) (A : Nat → Nat → Int) (c0 : Nat → Int) : Prop where
  m7 : mF ≤ 7
  hU : ∀ l j, l < mF → j < NF → (A l j).natAbs ≤ 50
  hc : ∀ j, j < NF → (c0 j).natAbs ≤ 400
  un : ∃ hh, MA.Unt mF NF A hh
structure Vis (m n mF NF : Nat) (A : Nat → Nat → Int) (c0 : Nat → Int) (e v : Nat → Nat) (S : Tb3) (Tg : MA.TS) : Prop where
  gh : MA.Gho mF NF A c0 Tg
  em : ∀ i, i < m → e i < mF
  ei : ∀ i k, i < m → k < m → e i = e k → i = k
  vm : ∀ j, j < n + 1 → v j < NF
  hG : ∀ i j, i < m → j < n + 1 → Tg.G (e i) (v j) = ((S.R i j : Int) : Rat)
  hz : ∀ d, d < mF → (∀ i, i < m → e i ≠ d) → ∀ j, j < n + 1 → Tg.G d (v j) = 0
  ho : ∀ i, i < m → Tg.o (e i) = v (S.o i)
  hc : ∀ j, j < n + 1 → Tg.c (v j) = ((S.c j : Int) : Rat)
theorem bd1 {m : Nat} (h : m ≤ 7) : m * (MA.fb (m - 1) m 50 * 50) < 2 ^ 66 := by
  have : m = 0 ∨ m = 1 ∨ m = 2 ∨ m = 3 ∨ m = 4 ∨ m = 5 ∨ m = 6 ∨ m = 7 := by omega
  rcases this with rfl | rfl | rfl | rfl | rfl | rfl | rfl | rfl <;> decide +kernel
theorem bd2 {m : Nat} (h : m ≤ 7) : (m + 1) * (MA.fb m (m + 1) 400 * 400) < 2 ^ 3300 := by
  have : m = 0 ∨ m = 1 ∨ m = 2 ∨ m = 3 ∨ m = 4 ∨ m = 5 ∨ m = 6 ∨ m = 7 := by omega
  rcases this with rfl | rfl | rfl | rfl | rfl | rfl | rfl | rfl <;> decide +kernel
section
variable {m n mF NF : Nat} {A : Nat → Nat → Int} {c0 : Nat → Int} {e v : Nat → Nat} {S S' : Tb3} {Tg : MA.TS} {w : Nat}
theorem Vis.szr (V : Vis m n mF NF A c0 e v S Tg) (F : Frm mF NF A c0) (ln : S.Ln m n) {i : Nat} (hi : i < m) (pl : PL 66 (S.row i)) : SzL 66 (S.row i) := by
  obtain ⟨hh, un⟩ := F.un
  obtain ⟨u, hu, q, q0, hq⟩ := MA.row_bd V.gh un F.hU (by decide) (V.em i hi)
  refine pl_sz pl (u := fun j => u (v j)) q0 (fun j hj => ?_) fun j hj => ?_
  · rw [ln.len hi] at hj
    rw [hq _ (V.vm j hj), V.hG i j hi hj]; rfl
  · rw [ln.len hi] at hj
    exact Nat.lt_of_le_of_lt (hu _ (V.vm j hj)) (bd1 F.m7)
theorem Vis.szc (V : Vis m n mF NF A c0 e v S Tg) (F : Frm mF NF A c0) (ln : S.Ln m n) (pl : PL 3300 S.costs) : SzL 3300 S.costs := by
  obtain ⟨hh, un⟩ := F.un
  obtain ⟨u, hu, q, q0, hq⟩ := MA.cost_bd V.gh un (fun l j hl hj => Nat.le_trans (F.hU l j hl hj) (by decide)) F.hc (by decide)
  refine pl_sz pl (u := fun j => u (v j)) q0 (fun j hj => ?_) fun j hj => ?_
  · rw [ln.hc] at hj
    rw [hq _ (V.vm j hj), V.hc j hj]; rfl
  · rw [ln.hc] at hj
    exact Nat.lt_of_le_of_lt (hu _ (V.vm j hj)) (bd2 F.m7)
theorem row_of_mem (ln : S.Ln m n) {r : List Int} (hr : r ∈ S.rows) : ∃ i, i < m ∧ S.row i = r := by
  obtain ⟨i, hi, e⟩ := List.getElem_of_mem hr
  refine ⟨i, by rw [← ln.hm]; exact hi, ?_⟩
  have := S.row_get hi
  rw [List.getElem?_eq_getElem hi, e] at this
  exact (Option.some.inj this).symm
theorem Vis.ok (V : Vis m n mF NF A c0 e v S Tg) (F : Frm mF NF A c0) (ln : S.Ln m n) (plr : ∀ r ∈ S.rows, PL 66 r) (plc : PL 3300 S.costs) : S.Ok m n 3300 := by
  refine ⟨ln.hm, ln.ho, ln.hr, ln.hc, fun r hr => ?_, V.szc F ln plc⟩
  obtain ⟨i, hi, rfl⟩ := row_of_mem ln hr
  exact (V.szr F ln hi (plr _ hr)).mono (by decide)
theorem div_eq {a b g : Rat} (g0 : g ≠ 0) (h : a * g = b) : b / g = a := by
  rw [← h, Rat.div_def, Rat.mul_assoc, Rat.mul_inv_cancel g g0, Rat.mul_one]
theorem div_back {b g : Rat} (g0 : g ≠ 0) : b / g * g = b := by
  rw [Rat.div_def, Rat.mul_assoc, Rat.inv_mul_cancel g g0, Rat.mul_one]
theorem cast_ne {g : Int} (h : g ≠ 0) : ((g : Int) : Rat) ≠ 0 := fun z => h (by exact_mod_cast z)
/-- a change of the view is one of the full table -/
theorem Vis.step (V : Vis m n mF NF A c0 e v S Tg) {p s : Nat} {sg : Int} (hp : p < m) (hs : s < n) (ps : S.R p s ≠ 0) (sg0 : sg ≠ 0) (rp : ∀ j, j < n + 1 → S'.R p j = sg * S.R p j)
    (rk : ∀ i, i < m → i ≠ p → ∃ g : Int, g ≠ 0 ∧ ∀ j, j < n + 1 → S'.R i j * g = S.R i j * S.R p s - S.R p j * S.R i s) (rc : ∃ g : Int, g ≠ 0 ∧ ∀ j, j < n + 1 → S'.c j * g = S.c j * S.R p s - S.R p j * S.c s)
    (ow : ∀ i, i < m → S'.o i = if i = p then s else S.o i) : ∃ Tg', Vis m n mF NF A c0 e v S' Tg' := by
  obtain ⟨gI, hI⟩ : ∃ gI : Nat → Int, ∀ i, i < m → i ≠ p → gI i ≠ 0 ∧ ∀ j, j < n + 1 → S'.R i j * gI i = S.R i j * S.R p s - S.R p j * S.R i s := by
    refine ⟨fun i => if h : i < m ∧ i ≠ p then Classical.choose (rk i h.1 h.2) else 0, fun i hi ne => ?_⟩
    have := Classical.choose_spec (rk i hi ne)
    simp only [dif_pos (show i < m ∧ i ≠ p from ⟨hi, ne⟩)]
    exact this
  obtain ⟨gc, gc0, hgc⟩ := rc
  let P : Rat := Tg.G (e p) (v s)
  have eP : P = ((S.R p s : Int) : Rat) := V.hG p s hp (by omega)
  have P0 : P ≠ 0 := by rw [eP]; exact cast_ne ps
  let gk : Nat → Rat := fun k => match (List.range m).find? (fun i => decide (e i = k ∧ i ≠ p)) with
    | some i => ((gI i : Int) : Rat)
    | none => P
  have gk_in : ∀ i, i < m → i ≠ p → gk (e i) = ((gI i : Int) : Rat) := fun i hi ne => by
    show (match (List.range m).find? (fun k => decide (e k = e i ∧ k ≠ p)) with
      | some i => ((gI i : Int) : Rat)
      | none => P) = _
    cases hf : (List.range m).find? (fun k => decide (e k = e i ∧ k ≠ p)) with
    | none =>
      have := List.find?_eq_none.mp hf i (List.mem_range.mpr hi)
      simp [ne] at this
    | some k =>
      have h1 := List.find?_some hf
      have h2 := List.mem_range.mp (List.mem_of_find?_eq_some hf)
      simp at h1
      rw [V.ei k i h2 hi h1.1]
  have gk0 : ∀ k, k < mF → gk k ≠ 0 := fun k _ => by
    show (match (List.range m).find? (fun i => decide (e i = k ∧ i ≠ p)) with
      | some i => ((gI i : Int) : Rat)
      | none => P) ≠ 0
    cases hf : (List.range m).find? (fun i => decide (e i = k ∧ i ≠ p)) with
    | none => exact P0
    | some i =>
      have h1 := List.find?_some hf
      have h2 := List.mem_range.mp (List.mem_of_find?_eq_some hf)
      simp at h1
      exact cast_ne (hI i h2 h1.2).1
  have hgc0 := cast_ne gc0
  let Tg' : MA.TS := ⟨fun k j => if k = e p then ((sg : Int) : Rat) * Tg.G k j else (Tg.G k j * P - Tg.G (e p) j * Tg.G k (v s)) / gk k, fun k => if k = e p then v s else Tg.o k, fun j => (Tg.c j * P - Tg.G (e p) j * Tg.c (v s)) / ((gc : Int) : Rat)⟩
  have gh' : MA.Gho mF NF A c0 Tg' := V.gh.pivot (V.em p hp) (V.vm s (by omega)) P0 (cast_ne sg0) gk0 hgc0 (fun j _ => if_pos rfl) (fun k j hk ne _ => by
      show (if k = e p then ((sg : Int) : Rat) * Tg.G k j else (Tg.G k j * P - Tg.G (e p) j * Tg.G k (v s)) / gk k) * gk k = _
      rw [if_neg ne, div_back (gk0 k hk)]) (fun j _ => div_back hgc0) fun k => rfl
  refine ⟨Tg', gh', V.em, V.ei, V.vm, fun i j hi hj => ?_, fun d hd nd j hj => ?_, fun i hi => ?_, fun j hj => ?_⟩
  · show (if e i = e p then ((sg : Int) : Rat) * Tg.G (e i) (v j) else (Tg.G (e i) (v j) * P - Tg.G (e p) (v j) * Tg.G (e i) (v s)) / gk (e i)) = _
    by_cases z : i = p
    · rw [z, if_pos rfl, V.hG p j hp hj, rp j hj, Rat.intCast_mul]
    · rw [if_neg fun q => z (V.ei i p hi hp q), gk_in i hi z, V.hG i j hi hj, V.hG p j hp hj, V.hG i s hi (by omega), eP]
      exact div_eq (cast_ne (hI i hi z).1) (cast_eq ((hI i hi z).2 j hj))
  · show (if d = e p then ((sg : Int) : Rat) * Tg.G d (v j) else (Tg.G d (v j) * P - Tg.G (e p) (v j) * Tg.G d (v s)) / gk d) = 0
    rw [if_neg fun q => nd p hp q.symm, V.hz d hd nd j hj, V.hz d hd nd s (by omega), Rat.div_def]
    grind
  · show (if e i = e p then v s else Tg.o (e i)) = v (S'.o i)
    by_cases z : i = p
    · rw [z, if_pos rfl, ow p hp, if_pos rfl]
    · rw [if_neg fun q => z (V.ei i p hi hp q), V.ho i hi, ow i hi, if_neg z]
  · show (Tg.c (v j) * P - Tg.G (e p) (v j) * Tg.c (v s)) / ((gc : Int) : Rat) = _
    rw [V.hc j hj, V.hc s (by omega), V.hG p j hp hj, eP]
    exact div_eq hgc0 (cast_eq (hgc j hj))
/-! ### a table in order -/
structure TIv (m n mF NF : Nat) (A : Nat → Nat → Int) (c0 : Nat → Int) (e v : Nat → Nat) (S : Tb3) : Prop where
  ln : S.Ln m n
  inv : MA.Inv m n S.toT
  plr : ∀ r ∈ S.rows, PL 66 r
  plc : PL 3300 S.costs
  vis : ∃ Tg, Vis m n mF NF A c0 e v S Tg
theorem TIv.ok (h : TIv m n mF NF A c0 e v S) (F : Frm mF NF A c0) : S.Ok m n 3300 := by
  obtain ⟨Tg, V⟩ := h.vis
  exact V.ok F h.ln h.plr h.plc
end
end U
set_option Elab.async false
set_option linter.all false
set_option maxRecDepth 100000
set_option maxHeartbeats 4000000
set_option exponentiation.threshold 500000
namespace U
open PySem PySem.Spec PyProof.Rows L2
section
variable {m n mF NF : Nat} {A : Nat → Nat → Int} {c0 : Nat → Int} {e v : Nat → Nat} {S S' : Tb3} {w : Nat}
/-! ### the loop -/
/-- a walk from one table to another -/
def Way (m n w K : Nat) (S S' : Tb3) : Prop := ∃ T p s, MA.Wk m n w K T p s ∧ T 0 = S.toT ∧ T K = S'.toT
theorem Way.refl (h : MA.Inv m n S.toT) : Way m n w 0 S S := ⟨fun _ => S.toT, fun _ => 0, fun _ => 0, ⟨h, fun k hk => by omega⟩, rfl, rfl⟩
end
end U
set_option Elab.async false
set_option linter.all false
set_option maxRecDepth 100000
set_option maxHeartbeats 4000000
namespace MA
variable {m N : Nat}
end MA
set_option Elab.async false
set_option linter.all false
set_option maxRecDepth 100000
set_option maxHeartbeats 4000000
set_option exponentiation.threshold 500000
namespace U
open PySem PySem.Spec PyProof.Rows L2
/-! ### helping columns are dropped -/
def negL (l : List Int) : List Int := l.map fun v => 0 - v
def Tb3.neg (S : Tb3) (p : Nat) : Tb3 := ⟨S.rows.set p (negL (S.row p)), S.own, S.costs⟩
section
variable {m n mF NF : Nat} {A : Nat → Nat → Int} {c0 : Nat → Int} {e v : Nat → Nat} {S S' : Tb3} {w : Nat}
def Tb3.cols (S : Tb3) (w p : Nat) : List Nat := (List.range w).filter fun j => decide (S.R p j ≠ 0)
def Tb3.sgn (S : Tb3) (p c : Nat) : Tb3 := if S.R p c < 0 then S.neg p else S
/-- the first k rows are in order -/
structure DIv (m n w : Nat) (A : Nat → Nat → Int) (c0 : Nat → Int) (S0 : Tb3) (k : Nat) (S : Tb3) : Prop where
  ln : S.Ln m n
  inv : MA.Inv m n S.toT
  plr : ∀ r ∈ S.rows, PL 66 r
  plc : PL 3300 S.costs
  vis : ∃ Tg, Vis m n m (n + 1) A c0 id id S Tg
  nul : ∀ x, MA.Null m n S0.toT x ↔ MA.Null m n S.toT x
  rz : ∀ i, i < m → w ≤ S.o i → S.R i n = 0
  dn : ∀ i, i < k → S.o i < w ∨ ∀ j, j < w → S.R i j = 0
end
end U
set_option Elab.async false
set_option linter.all false
set_option maxRecDepth 100000
set_option maxHeartbeats 4000000
set_option exponentiation.threshold 500000
namespace U
open PySem PySem.Spec PyProof.Rows L2
section
variable {m n : Nat} {A : Nat → Nat → Int} {c0 : Nat → Int} {S S' S0 : Tb3} {w : Nat}
/-- the rows that are kept so far -/
def keptOf (S : Tb3) (w k : Nat) : List Nat := (List.range k).filter fun i => decide (S.o i < w)
theorem DIv.ok {k : Nat} (h : DIv m n w A c0 S0 k S) (F : Frm m (n + 1) A c0) : S.Ok m n 3300 := by
  obtain ⟨Tg, V⟩ := h.vis
  exact V.ok F h.ln h.plr h.plc
end
end U
set_option Elab.async false
set_option linter.all false
set_option maxRecDepth 100000
set_option maxHeartbeats 4000000
set_option exponentiation.threshold 500000
namespace U
open PySem PySem.Spec PyProof.Rows L2
section
variable {m n : Nat} {A : Nat → Nat → Int} {c0 : Nat → Int} {S S' S0 : Tb3} {w : Nat}
/-- the table of the kept rows and columns -/
def Tb3.cut (S : Tb3) (w n m : Nat) : Tb3 := ⟨(keptOf S w m).map fun i => (S.row i).take w ++ [S.R i n], (keptOf S w m).map S.o, S.costs⟩
end
/-! ### rows of whole fractions -/
end U
set_option Elab.async false
set_option linter.all false
set_option maxRecDepth 100000
set_option maxHeartbeats 4000000
set_option exponentiation.threshold 500000
namespace U
open PySem PySem.Spec PyProof.Rows L2
/-! ### a program is started -/
structure ZOk (Z : List (List Int)) (b : List Int) (w : Nat) : Prop where
  hr : ∀ r ∈ Z, r.length = w
  hb : b.length = Z.length
  hw : w ≤ 200
  hm : Z.length ≤ 200
  hz : ∀ r ∈ Z, SzL 100 r
  hbz : SzL 100 b
end U
set_option Elab.async false
set_option linter.all false
set_option maxRecDepth 100000
set_option maxHeartbeats 4000000
set_option exponentiation.threshold 500000
namespace U
open PySem PySem.Spec PyProof.Rows L2
section
variable {Z : List (List Int)} {b : List Int} {w : Nat}
end
end U
set_option Elab.async false
set_option linter.all false
set_option maxRecDepth 100000
set_option maxHeartbeats 4000000
set_option exponentiation.threshold 500000
namespace U
open PySem PySem.Spec PyProof.Rows L2
/-! ### equations, and numbers of at least 0 that meet them -/
def zA (Z : List (List Int)) (i j : Nat) : Int := aL (Z.getD i []) j
/-- bounds of what is asked -/
structure ZB (Z : List (List Int)) (b : List Int) (w : Nat) : Prop where
  hr : ∀ r ∈ Z, r.length = w
  hb : b.length = Z.length
  hw : w ≤ 100
  hm : Z.length ≤ 7
  hz : ∀ r ∈ Z, ∀ v ∈ r, v.natAbs ≤ 50
  hbz : ∀ v ∈ b, v.natAbs ≤ 50
theorem sz_of_le {l : List Int} (h : ∀ v ∈ l, v.natAbs ≤ 50) : SzL 100 l := fun v hv => Nat.lt_of_le_of_lt (h v hv) (by decide)
theorem ZB.ok {Z : List (List Int)} {b : List Int} {w : Nat} (h : ZB Z b w) : ZOk Z b w := ⟨h.hr, h.hb, by have := h.hw; omega, by have := h.hm; omega, fun r hr => sz_of_le (h.hz r hr), sz_of_le h.hbz⟩
section
variable {Z : List (List Int)} {b : List Int} {w : Nat}
/-- the row of a program without the helping columns -/
def base (Z : List (List Int)) (b : List Int) (i : Nat) : List Int := Z.getD i [] ++ [b.getD i 0]
theorem getD_mem {α : Type} {l : List α} {i : Nat} {d : α} (h : i < l.length) : l.getD i d ∈ l := by
  rw [List.getD_eq_getElem?_getD, List.getElem?_eq_getElem h]; exact List.getElem_mem h
end
end U
set_option Elab.async false
set_option linter.all false
set_option maxRecDepth 100000
set_option maxHeartbeats 4000000
set_option exponentiation.threshold 500000
namespace U
open PySem PySem.Spec PyProof.Rows L2
section
variable {Z : List (List Int)} {b : List Int} {w : Nat}
/-- numbers with nothing in the helping columns -/
def hat (w n : Nat) (x : Nat → Rat) (j : Nat) : Rat := if j < w then x j else if j = n then -1 else 0
end
end U
set_option Elab.async false
set_option linter.all false
set_option maxRecDepth 100000
set_option maxHeartbeats 4000000
set_option exponentiation.threshold 500000
namespace U
open PySem PySem.Spec PyProof.Rows L2
section
variable {m n w : Nat} {A : Nat → Nat → Int} {c0 : Nat → Int} {S S0 : Tb3}
/-! ### the cut table -/
/-! ### the costs are cleared of the own columns -/
def cLoop (S2 : Tb3) (c : List Int) : Nat → List Int
  | 0 => c
  | k + 1 => withL (cLoop S2 c k) (S2.row k) (S2.o k)
end
end U
set_option Elab.async false
set_option linter.all false
set_option maxRecDepth 100000
set_option maxHeartbeats 4000000
set_option exponentiation.threshold 500000
namespace U
open PySem PySem.Spec PyProof.Rows L2
section
variable {m n w : Nat} {A : Nat → Nat → Int} {c0 : Nat → Int} {S S0 : Tb3}
/-- the second table -/
def two (S : Tb3) (w n m : Nat) (c : List Int) : Tb3 := ⟨(S.cut w n m).rows, (S.cut w n m).own, cLoop (S.cut w n m) c (keptOf S w m).length⟩
section
variable (F : Frm m (n + 1) A c0) (D : DIv m n w A c0 S0 m S) (hw : w ≤ n)
include F D hw
end
end
end U
set_option Elab.async false
set_option linter.all false
set_option maxRecDepth 100000
set_option maxHeartbeats 4000000
set_option exponentiation.threshold 500000
namespace U
open PySem PySem.Spec PyProof.Rows L2
section
variable {Z : List (List Int)} {b C : List Int} {w : Nat}
/-! ### the costs of the second table -/
/-! ### the numbers -/
end
end U
set_option Elab.async false
set_option linter.all false
set_option maxRecDepth 100000
set_option maxHeartbeats 4000000
set_option exponentiation.threshold 500000
namespace U
open PySem PySem.Spec PyProof.Rows L2
section
variable {Z : List (List Int)} {b C : List Int} {w : Nat}
/-- what stands in the numbers after k rows -/
structure NumI (S : Tb3) (w k : Nat) (xs : List Rat) : Prop where
  ln : xs.length = w
  on : ∀ i, i < k → xs[S.o i]? = some (((S.R i w : Int) : Rat) / ((S.R i (S.o i) : Int) : Rat))
  of : ∀ j, j < w → (∀ i, i < k → S.o i ≠ j) → xs[j]? = some 0
theorem NumI.bsol {S : Tb3} {m2 : Nat} (inv : MA.Inv m2 w S.toT) {xs : List Rat} (h : NumI S w m2 xs) : ∀ j, j < w → xs[j]? = some (MA.bsol m2 w S.toT j) := fun j hj => by
  by_cases q : MA.Bas m2 S.toT j
  · obtain ⟨i, hi, rfl⟩ := q
    rw [MA.bsol_in inv.pat hi]
    exact h.on i hi
  · rw [MA.bsol_out hj q]
    exact h.of j hj fun i hi e => q ⟨i, hi, e⟩
/-! ### solutions of the started table -/
end
end U
set_option Elab.async false
set_option linter.all false
set_option maxRecDepth 100000
set_option maxHeartbeats 4000000
set_option exponentiation.threshold 500000
namespace U
open PySem PySem.Spec PyProof.Rows L2
section
variable {Z : List (List Int)} {b C : List Int} {w : Nat}
/-- all costs: of numbers y -/
def cst (C : List Int) (w : Nat) (y : Nat → Rat) : Rat := MA.sm (fun j => ((aL C j : Int) : Rat) * y j) w
/-- a fraction of few figures -/
def QSz (q : Rat) : Prop := q.num.natAbs < 2 ^ 66 ∧ q.den < 2 ^ 66
end
end U
set_option Elab.async false
set_option linter.all false
set_option maxRecDepth 100000
set_option maxHeartbeats 4000000
set_option exponentiation.threshold 500000
namespace U
open PySem PySem.Spec PyProof.Rows L2
section
variable {Z : List (List Int)} {b C : List Int} {w : Nat}
end
end U
set_option Elab.async false
set_option linter.all false
set_option maxRecDepth 100000
set_option maxHeartbeats 4000000
set_option exponentiation.threshold 500000
namespace U
open PySem PySem.Spec PyProof.Rows L2
section
variable {Z : List (List Int)} {b C : List Int} {w : Nat}
end
end U
set_option Elab.async false
set_option linter.all false
set_option maxRecDepth 100000
set_option maxHeartbeats 4000000
set_option exponentiation.threshold 500000
namespace U
open PySem PySem.Spec PyProof.Rows L2
/-! ### the ends of cells for signs -/
def endsI (c : Int × Int) (s : Int) : Int × Int := if s = 1 then c else (0 - c.2, 0 - c.1)

def lowL (t : List (List (Int × Int))) (σ : List Int) : List (List Int) := t.map fun r => (r.zip σ).map fun p => (endsI p.1 p.2).1
def highL (t : List (List (Int × Int))) (σ : List Int) : List (List Int) := t.map fun r => (r.zip σ).map fun p => (endsI p.1 p.2).2
/-! ### slack -/
/-! ### the conditions -/
def rightL (s : List (Int × Int)) : List Int := s.map Prod.snd ++ s.map Prod.fst
end U
set_option Elab.async false
set_option linter.all false
set_option maxRecDepth 100000
set_option maxHeartbeats 4000000
set_option exponentiation.threshold 500000
namespace U
open PySem PySem.Spec PyProof.Rows L2
/-! ### rows with slack: what they ask -/
/-- numbers of at least 0 that keep all rows: at most the right number with the sign 1, at least with -1 -/
structure Cnd (Z : List (List Int)) (b σ : List Int) (n : Nat) (x : Nat → Rat) : Prop where
  nn : ∀ j, j < n → 0 ≤ x j
  le : ∀ i, i < Z.length → 0 ≤ ((aL σ i : Int) : Rat) * (((aL b i : Int) : Rat) - MA.sm (fun j => ((zA Z i j : Int) : Rat) * x j) n)
section
variable {Z : List (List Int)} {b σ : List Int} {n : Nat}
end
/-! ### amounts of unknowns -/
section
variable {t : List (List (Int × Int))} {s : List (Int × Int)} {σ : List Int} {m n : Nat}
def sides (m : Nat) : List Int := List.replicate m 1 ++ List.replicate m (-1)
def both (t : List (List (Int × Int))) (σ : List Int) : List (List Int) := lowL t σ ++ highL t σ
/-- amounts that solve some choice -/
def Amt (t : List (List (Int × Int))) (s : List (Int × Int)) (σ : List Int) (n : Nat) (x : Nat → Rat) : Prop := Cnd (both t σ) (rightL s) (sides t.length) n x
end
end U
set_option Elab.async false
set_option linter.all false
set_option maxRecDepth 100000
set_option maxHeartbeats 4000000
namespace U
open PySem PySem.Spec PyProof.Rows L2
end U
set_option Elab.async false
set_option linter.all false
set_option maxRecDepth 100000
set_option maxHeartbeats 1000000
set_option exponentiation.threshold 500000
namespace U
open PySem PySem.Spec PyProof.Rows L2
/-! ### determinants -/
theorem l1 : (((0 + 1 : Nat) : Int) = 1) = True := by simp
end U
set_option Elab.async false
set_option linter.all false
set_option maxRecDepth 100000
set_option maxHeartbeats 1000000
set_option exponentiation.threshold 500000
namespace U
open PySem PySem.Spec PyProof.Rows L2
/-! ### squares of up to three rows -/
/-! ### the laws' determinant -/
/-! ### checks -/
end U
set_option Elab.async false
set_option linter.all false
set_option maxRecDepth 100000
set_option maxHeartbeats 1000000
set_option exponentiation.threshold 500000
namespace U
open PySem PySem.Spec PyProof.Rows L2
/-! ### square tables of the laws -/
/-! ### all signs -/
section
variable {n : Nat} {f : Nat → Nat → Int × Int}
/-! ### sure tables: an answer comes -/
end
end U
set_option Elab.async false
set_option linter.all false
set_option maxRecDepth 100000
set_option maxHeartbeats 4000000
set_option exponentiation.threshold 500000
namespace U
open PySem PySem.Spec PyProof.Rows L2
/-! ### unknowns of amounts and signs -/
theorem sg_num {v : Int} (h : sgn v) (q : Rat) : (((v : Int) : Rat) * q).num = v * q.num ∧ (((v : Int) : Rat) * q).den = q.den := by
  rcases h with e | e
  · subst e
    have : ((1 : Int) : Rat) * q = q := by show (1 : Rat) * q = q; exact Rat.one_mul q
    rw [this]; exact ⟨by omega, rfl⟩
  · subst e
    have : ((-1 : Int) : Rat) * q = -q := by
      have e : ((-1 : Int) : Rat) = -1 := rfl
      rw [e]; grind
    rw [this]
    exact ⟨by rw [Rat.neg_num]; omega, Rat.neg_den q⟩
section
variable {t : List (List (Int × Int))} {s : List (Int × Int)} {m n : Nat}
end
end U
set_option Elab.async false
set_option linter.all false
set_option maxRecDepth 100000
set_option maxHeartbeats 4000000
set_option exponentiation.threshold 500000
namespace U
open PySem PySem.Spec PyProof.Rows L2
section
variable {Z : List (List Int)} {b : List Int} {w : Nat}
end
end U
set_option Elab.async false
set_option linter.all false
set_option maxRecDepth 100000
set_option maxHeartbeats 4000000
set_option exponentiation.threshold 500000
namespace U
open PySem PySem.Spec PyProof.Rows L2
/-! ### cleared: fractions as integers -/
end U
set_option Elab.async false
set_option linter.all false
set_option maxRecDepth 100000
set_option maxHeartbeats 4000000
set_option exponentiation.threshold 500000
namespace U
open PySem PySem.Spec PyProof.Rows L2
/-! ### weights against conditions: what they are -/
section
variable {Z : List (List Int)} {b σ : List Int} {n : Nat}
end
end U
set_option Elab.async false
set_option linter.all false
set_option maxRecDepth 100000
set_option maxHeartbeats 4000000
set_option exponentiation.threshold 500000
namespace U
open PySem PySem.Spec PyProof.Rows L2
/-! ### the table of the weights -/
section
variable {Z : List (List Int)} {b σ : List Int} {n : Nat}
end
end U
set_option Elab.async false
set_option linter.all false
set_option maxRecDepth 100000
set_option maxHeartbeats 4000000
set_option exponentiation.threshold 500000
namespace U
open PySem PySem.Spec PyProof.Rows L2
section
variable {Z : List (List Int)} {b σ : List Int} {n : Nat}
/-- bounds of what is asked -/
structure WOk (Z : List (List Int)) (b σ : List Int) (n : Nat) : Prop where
  hr : ∀ r ∈ Z, r.length = n
  hb : b.length = Z.length
  hn : n ≤ 6
  hm : Z.length ≤ 7
  m1 : 1 ≤ Z.length
  hz : ∀ r ∈ Z, ∀ v ∈ r, v.natAbs ≤ 50
  hbz : ∀ v ∈ b, v.natAbs ≤ 50
  sl : σ.length = Z.length
  hs : ∀ i, i < Z.length → sgn (aL σ i)
theorem WOk.z (h : WOk Z b σ n) {p c : Nat} (hp : p < Z.length) (hc : c < n) : (zA Z p c).natAbs ≤ 50 := by
  have hm : Z.getD p [] ∈ Z := getD_mem hp
  exact h.hz _ hm _ (aL_mem (by rw [h.hr _ hm]; exact hc))
theorem WOk.s (h : WOk Z b σ n) {p : Nat} (hp : p < Z.length) : (aL σ p).natAbs ≤ 50 := by
  rcases h.hs p hp with z | z <;> rw [z] <;> decide
theorem WOk.rb (h : WOk Z b σ n) {p : Nat} (hp : p < Z.length) : (aL b p).natAbs ≤ 50 := h.hbz _ (aL_mem (by rw [h.hb]; exact hp))
end
end U
set_option Elab.async false
set_option linter.all false
set_option maxRecDepth 100000
set_option maxHeartbeats 4000000
set_option exponentiation.threshold 500000
namespace U
open PySem PySem.Spec PyProof.Rows L2
section
variable {Z : List (List Int)} {b σ : List Int} {n : Nat}
end
end U
set_option Elab.async false
set_option linter.all false
set_option maxRecDepth 100000
set_option maxHeartbeats 4000000
set_option exponentiation.threshold 500000
namespace U
open PySem PySem.Spec PyProof.Rows L2
section
variable {Z : List (List Int)} {b σ : List Int} {n : Nat}
end
end U
set_option Elab.async false
set_option linter.all false
set_option maxRecDepth 100000
set_option maxHeartbeats 4000000
set_option exponentiation.threshold 500000
namespace U
open PySem PySem.Spec PyProof.Rows L2
section
variable {t : List (List (Int × Int))} {s : List (Int × Int)} {σ : List Int} {m n : Nat}
end
end U
set_option Elab.async false
set_option linter.all false
set_option maxRecDepth 100000
set_option maxHeartbeats 4000000
set_option exponentiation.threshold 500000
namespace U
open PySem PySem.Spec PyProof.Rows L2
section
variable {t : List (List (Int × Int))} {s : List (Int × Int)} {m n : Nat}
end
end U
set_option Elab.async false
set_option linter.all false
set_option maxRecDepth 100000
set_option maxHeartbeats 1000000
set_option exponentiation.threshold 500000
namespace U
open PySem PySem.Spec PyProof.Rows L2
/-! ### sums of rows -/
theorem pf_add {α : Type} (f : α → Rat) : ∀ (l : List α) (a : Rat), l.foldl (fun s p => s + f p) a = a + l.foldl (fun s p => s + f p) 0
  | [], a => by simp only [List.foldl_nil]; grind
  | x :: l, a => by
    simp only [List.foldl_cons]
    rw [pf_add f l (a + f x), pf_add f l (0 + f x)]
    grind
theorem p_loS (c : Int × Int) (r : List (Int × Int)) (u : Rat) (us : List Rat) : loS (c :: r) (u :: us) = loT c u + loS r us := by
  unfold loS
  simp only [List.zip_cons_cons, List.foldl_cons]
  rw [pf_add (fun p : (Int × Int) × Rat => loT p.1 p.2)]
  grind
theorem p_hiS (c : Int × Int) (r : List (Int × Int)) (u : Rat) (us : List Rat) : hiS (c :: r) (u :: us) = hiT c u + hiS r us := by
  unfold hiS
  simp only [List.zip_cons_cons, List.foldl_cons]
  rw [pf_add (fun p : (Int × Int) × Rat => hiT p.1 p.2)]
  grind
/-! ### a row that leads unknowns to a goal -/
def stt (c : Int × Int) (u : Rat) : Rat := if u < 0 then (c.2 : Rat) else (c.1 : Rat)
def lst (c : Int × Int) (u : Rat) : Rat := if u < 0 then (c.1 : Rat) else (c.2 : Rat)
def shr (lo hi g : Rat) : Rat := if lo = hi then 0 else (g - lo) / (hi - lo)
theorem div_mul_self {x y : Rat} (h : y ≠ 0) : x / y * y = x := Rat.div_mul_cancel h
/-! ### made choices -/
end U
set_option Elab.async false
set_option linter.all false
set_option maxRecDepth 100000
set_option maxHeartbeats 4000000
set_option exponentiation.threshold 500000
namespace U
open PySem PySem.Spec PyProof.Rows L2
/-! ### amounts and unknowns -/
theorem sm_front (f : Nat → Rat) : ∀ n, MA.sm f (n + 1) = f 0 + MA.sm (fun j => f (j + 1)) n
  | 0 => by simp only [MA.sm]; grind
  | n + 1 => by rw [MA.sm, sm_front f n, MA.sm]; grind
section
variable {t : List (List (Int × Int))} {s : List (Int × Int)} {σ : List Int} {m n : Nat}
theorem Amt.congr {x y : Nat → Rat} (h : Amt t s σ n x) (e : ∀ j, j < n → x j = y j) : Amt t s σ n y := by
  refine ⟨fun j hj => by rw [← e j hj]; exact h.nn j hj, fun i hi => ?_⟩
  have := h.le i hi
  rw [MA.sm_congr (g := fun j => ((zA (both t σ) i j : Int) : Rat) * y j) fun j hj => by rw [e j hj]] at this
  exact this
theorem zip_get {α β : Type} {xs : List α} {ys : List β} (a : α) (b : β) (hl : xs.length = ys.length) {p : α × β} : p ∈ xs.zip ys ↔ ∃ i, i < xs.length ∧ p = (xs.getD i a, ys.getD i b) := by
  constructor
  · intro h
    obtain ⟨i, hi, e⟩ := List.getElem_of_mem h
    have h1 : i < xs.length := by simp at hi; omega
    refine ⟨i, h1, ?_⟩
    rw [← e, List.getElem_zip, List.getD_eq_getElem?_getD, List.getElem?_eq_getElem h1, List.getD_eq_getElem?_getD, List.getElem?_eq_getElem (by omega)]; rfl
  · rintro ⟨i, hi, rfl⟩
    have : (xs.zip ys)[i]'(by simp; omega) = (xs.getD i a, ys.getD i b) := by
      rw [List.getElem_zip, List.getD_eq_getElem?_getD, List.getElem?_eq_getElem hi, List.getD_eq_getElem?_getD, List.getElem?_eq_getElem (by omega)]; rfl
    rw [← this]; exact List.getElem_mem _
/-- unknowns that solve some choice -/
def Slv (t : List (List (Int × Int))) (s : List (Int × Int)) (n : Nat) (us : List Rat) : Prop := us.length = n ∧ (t.zip s).all (pSome us) = true
theorem QSz.sg {q : Rat} (h : QSz q) {v : Int} (hv : sgn v) : Sz 66 (((v : Int) : Rat) * q) := by
  obtain ⟨h1, h2⟩ := sg_num hv q
  unfold Sz
  rw [h1, h2]
  refine ⟨?_, h.2⟩
  rw [Int.natAbs_mul]
  have : v.natAbs = 1 := by rcases hv with rfl | rfl <;> rfl
  rw [this, Nat.one_mul]; exact h.1
end
end U
set_option Elab.async false
set_option linter.all false
set_option maxRecDepth 100000
set_option maxHeartbeats 4000000
set_option exponentiation.threshold 500000
namespace U
open PySem PySem.Spec PyProof.Rows L2
/-! ### weights that bar -/
section
variable {Z : List (List Int)} {b σ c : List Int} {n : Nat}
end
end U
set_option Elab.async false
set_option linter.all false
set_option maxRecDepth 100000
set_option maxHeartbeats 4000000
set_option exponentiation.threshold 500000
namespace U
open PySem PySem.Spec PyProof.Rows L2
/-! ### are_weights, are_papers -/
section
variable {t : List (List (Int × Int))} {s : List (Int × Int)} {σ : List Int} {m n : Nat}
end
end U
set_option Elab.async false
set_option linter.all false
set_option maxRecDepth 100000
set_option maxHeartbeats 4000000
set_option exponentiation.threshold 500000
namespace U
open PySem PySem.Spec PyProof.Rows L2
/-! ### the law's papers -/
section
variable {t : List (List (Int × Int))} {s : List (Int × Int)} {σ c : List Int} {m n : Nat}
def cellT (t : List (List (Int × Int))) (i j : Nat) : Int × Int := (t.getD i []).getD j (0, 0)
theorem cellT_in (ht : TabOk t m n) {i j : Nat} (hi : i < m) (hj : j < n) : cellIn 20 (cellT t i j) := by
  have hr : t.getD i [] ∈ t := getD_mem (by have := ht.rows; omega)
  exact ht.cell _ hr _ (getD_mem (by have := ht.cols _ hr; omega))
end
end U
set_option Elab.async false
set_option linter.all false
set_option maxRecDepth 100000
set_option maxHeartbeats 4000000
set_option exponentiation.threshold 500000
namespace U
open PySem PySem.Spec PyProof.Rows L2
/-! ### planted systems -/
theorem TabOk.at0 {t : List (List (Int × Int))} {m n : Nat} (ht : TabOk t m n) : ∃ r0, gIx (dT t) (.int 0) = .ok (dR r0) ∧ bLen [dR r0] = .ok (.int n) := by
  obtain ⟨r, rest, et⟩ := ht.ne
  have rl : r.length = n := ht.cols r (by rw [et]; exact List.mem_cons_self)
  exact ⟨r, by rw [dT, gIx_t, et, List.map_cons, atI_zero]; rfl, by rw [dR, bLen_t, List.length_map, rl]⟩
theorem TabOk.bl {t : List (List (Int × Int))} {m n : Nat} (ht : TabOk t m n) : bLen [dT t] = .ok (.int m) := by rw [dT, bLen_t, List.length_map, ht.rows]
section
variable {a0 a1 : Cell}
end
theorem All2.pair {α β γ : Type} {P : α → γ → Prop} {Q : β → γ → Prop} : ∀ {xs : List α} {ys : List β} {zs : List γ}, xs.length = ys.length → All2 (fun p z => P p.1 z) (xs.zip ys) zs → All2 P xs zs
  | [], [], _, _, .nil => .nil
  | x :: xs, y :: ys, _, hl, .cons h hs => .cons h (All2.pair (Q := Q) (by simpa using hl) hs)
end U
set_option Elab.async false
set_option linter.all false
set_option maxRecDepth 100000
set_option maxHeartbeats 4000000
set_option exponentiation.threshold 500000
namespace U
open PySem PySem.Spec PyProof.Rows L2
/-! ### tuples of weights -/
section
variable {t : List (List (Int × Int))} {s : List (Int × Int)} {m n : Nat}
end
end U
set_option Elab.async false
set_option linter.all false
set_option maxRecDepth 100000
set_option maxHeartbeats 4000000
set_option exponentiation.threshold 500000
namespace U
open PySem PySem.Spec PyProof.Rows L2
/-! ### upward solutions -/
section
variable {t : List (List (Int × Int))} {s : List (Int × Int)} {m n : Nat}
end
end U
set_option Elab.async false
set_option linter.all false
set_option maxRecDepth 100000
set_option maxHeartbeats 4000000
set_option exponentiation.threshold 500000
namespace U
open PySem PySem.Spec PyProof.Rows L2
/-! ### loops that return at the first item that serves -/
/-! ### unknowns that keep limits for some choice -/
section
variable {t : List (List (Int × Int))} {s : List (Int × Int)} {σ : List Int} {m n : Nat}
theorem Cnd.congr {Z : List (List Int)} {b σ : List Int} {n : Nat} {x y : Nat → Rat} (h : Cnd Z b σ n x) (e : ∀ j, j < n → x j = y j) : Cnd Z b σ n y := by
  refine ⟨fun j hj => by rw [← e j hj]; exact h.nn j hj, fun i hi => ?_⟩
  have := h.le i hi
  rw [MA.sm_congr (g := fun j => ((zA Z i j : Int) : Rat) * y j) fun j hj => by rw [e j hj]] at this
  exact this
end
end U
set_option Elab.async false
set_option linter.all false
set_option maxRecDepth 100000
set_option maxHeartbeats 4000000
set_option exponentiation.threshold 500000
namespace U
open PySem PySem.Spec PyProof.Rows L2
/-! ### unknowns that keep limits for all choices -/
theorem hiS_sm : ∀ (r : List (Int × Int)) (us : List Rat), us.length = r.length → hiS r us = MA.sm (fun j => hiT (r.getD j (0, 0)) (us.getD j 0)) r.length
  | [], _, _ => by simp [hiS, MA.sm]
  | c :: r, [], h => by simp at h
  | c :: r, u :: us, h => by
    rw [p_hiS, List.length_cons, sm_front, hiS_sm r us (by simpa using h)]
    rfl
theorem loS_sm : ∀ (r : List (Int × Int)) (us : List Rat), us.length = r.length → loS r us = MA.sm (fun j => loT (r.getD j (0, 0)) (us.getD j 0)) r.length
  | [], _, _ => by simp [loS, MA.sm]
  | c :: r, [], h => by simp at h
  | c :: r, u :: us, h => by
    rw [p_loS, List.length_cons, sm_front, loS_sm r us (by simpa using h)]
    rfl
section
variable {t : List (List (Int × Int))} {s : List (Int × Int)} {m n : Nat}
end
end U
set_option Elab.async false
set_option linter.all false
set_option maxRecDepth 100000
set_option maxHeartbeats 4000000
set_option exponentiation.threshold 500000
namespace U
open PySem PySem.Spec PyProof.Rows L2
/-! ### sums of products, of tuples and lists -/
/-! ### quotients of any sign -/
/-! ### by places -/
/-- a share between two sums on both sides of 0 -/
def shz (A B : Rat) : Rat := if A = B then 0 else A / (A - B)
theorem shz_ok {A B : Rat} (hA : A ≤ 0) (hB : 0 ≤ B) : 0 ≤ shz A B ∧ shz A B ≤ 1 ∧ A + shz A B * (B - A) = 0 := by
  unfold shz
  by_cases h : A = B
  · rw [if_pos h]
    have : A = 0 := by grind
    refine ⟨by decide, by decide, by grind⟩
  · rw [if_neg h]
    have hne : A - B ≠ 0 := by grind
    have hp : 0 < B - A := by grind
    have e := div_mul_self (x := A) hne
    refine ⟨?_, ?_, ?_⟩
    · by_cases k : 0 ≤ A / (A - B)
      · exact k
      · exfalso
        have := Rat.mul_pos (show 0 < -(A / (A - B)) by grind) hp
        grind
    · by_cases k : A / (A - B) ≤ 1
      · exact k
      · exfalso
        have := Rat.mul_pos (show 0 < A / (A - B) - 1 by grind) hp
        grind
    · grind
end U
set_option Elab.async false
set_option linter.all false
set_option maxRecDepth 100000
set_option maxHeartbeats 4000000
namespace MA
/-! ### either a solution, or weights that bar it -/
end MA
set_option Elab.async false
set_option linter.all false
set_option maxRecDepth 100000
set_option maxHeartbeats 4000000
set_option exponentiation.threshold 500000
namespace U
open PySem PySem.Spec PyProof.Rows L2
/-! ### the laws' elimination -/
/-! ### what the elimination keeps -/
end U
set_option Elab.async false
set_option linter.all false
set_option maxRecDepth 100000
set_option maxHeartbeats 4000000
set_option exponentiation.threshold 500000
namespace U
open PySem PySem.Spec PyProof.Rows L2
/-! ### places in lists -/
/-! ### the walk -/
section
variable {X Y : D} {T B : List (List Rat)} {a n m c : Nat}
end
end U
set_option Elab.async false
set_option linter.all false
set_option maxRecDepth 100000
set_option maxHeartbeats 4000000
set_option exponentiation.threshold 500000
namespace U
open PySem PySem.Spec PyProof.Rows L2
/-! ### ends for signs of the rows -/
section
variable {t : List (List (Int × Int))} {s : List (Int × Int)} {σ : List Int} {m n : Nat}
end
end U
set_option Elab.async false
set_option linter.all false
set_option maxRecDepth 100000
set_option maxHeartbeats 4000000
set_option exponentiation.threshold 500000
namespace U
open PySem PySem.Spec PyProof.Rows L2
/-! ### each choice has a solution: what it means -/
section
variable {t : List (List (Int × Int))} {s : List (Int × Int)} {σ : List Int} {m n : Nat}
/-- a choice of a table and of a side -/
structure Chz (t : List (List (Int × Int))) (s : List (Int × Int)) (m n : Nat) (v : Nat → Nat → Rat) (g : Nat → Rat) : Prop where
  cell : ∀ i j, i < m → j < n → inC (cellT t i j) (v i j)
  side : ∀ i, i < m → inC (s.getD i (0, 0)) (g i)
def Solx (m n : Nat) (v : Nat → Nat → Rat) (g x : Nat → Rat) : Prop := ∀ i, i < m → MA.sm (fun j => v i j * x j) n = g i
def Each (t : List (List (Int × Int))) (s : List (Int × Int)) (m n : Nat) : Prop := ∀ v g, Chz t s m n v g → ∃ x, Solx m n v g x
/-- columns between both ends whose weighed sum is 0 -/
theorem between {P Q : Rat} (hP : 0 ≤ P) (hQ : Q ≤ 0) : ∃ q : Rat, 0 ≤ q ∧ q ≤ 1 ∧ P + q * (Q - P) = 0 := by
  obtain ⟨h1, h2, h3⟩ := shz_ok (A := -P) (B := -Q) (by grind) (by grind)
  exact ⟨_, h1, h2, by grind⟩
end
end U
set_option Elab.async false
set_option linter.all false
set_option maxRecDepth 100000
set_option maxHeartbeats 4000000
set_option exponentiation.threshold 500000
namespace U
open PySem PySem.Spec PyProof.Rows L2
/-! ### weights of any sign -/
section
variable {Z : List (List Int)} {b : List Int} {w : Nat}
/-! the program's walk -/
end
end U
set_option Elab.async false
set_option linter.all false
set_option maxRecDepth 100000
set_option maxHeartbeats 4000000
set_option exponentiation.threshold 500000
namespace U
open PySem PySem.Spec PyProof.Rows L2
/-! ### common bottoms -/
def Dv (Δ k : Nat) (q : Rat) : Prop := ∃ z : Int, z.natAbs < 2 ^ k ∧ q * ((Δ : Nat) : Rat) = (z : Rat)
theorem Dv.mono {Δ k l : Nat} {q : Rat} (h : Dv Δ k q) (le : k ≤ l) : Dv Δ l q := by
  obtain ⟨z, h1, h2⟩ := h
  exact ⟨z, Nat.lt_of_lt_of_le h1 (Nat.pow_le_pow_right (by decide) le), h2⟩
theorem Dv.add {Δ k : Nat} {q r : Rat} (h : Dv Δ k q) (h' : Dv Δ k r) : Dv Δ (k + 1) (q + r) := by
  obtain ⟨z, h1, h2⟩ := h
  obtain ⟨y, k1, k2⟩ := h'
  refine ⟨z + y, ?_, by rw [Rat.intCast_add, ← h2, ← k2]; grind⟩
  have := Int.natAbs_add_le z y
  rw [Nat.pow_succ]; omega
theorem Dv.sub {Δ k : Nat} {q r : Rat} (h : Dv Δ k q) (h' : Dv Δ k r) : Dv Δ (k + 1) (q - r) := by
  obtain ⟨z, h1, h2⟩ := h
  obtain ⟨y, k1, k2⟩ := h'
  refine ⟨z - y, ?_, by rw [Rat.intCast_sub, ← h2, ← k2]; grind⟩
  have := Int.natAbs_sub_le z y
  rw [Nat.pow_succ]; omega
theorem Dv.mul {Δ k : Nat} {q : Rat} (h : Dv Δ k q) {c : Int} (hc : c.natAbs ≤ 50) : Dv Δ (k + 6) (q * (c : Rat)) := by
  obtain ⟨z, h1, h2⟩ := h
  refine ⟨z * c, ?_, by rw [Rat.intCast_mul, ← h2]; grind⟩
  rw [Int.natAbs_mul, Nat.pow_add]
  exact Nat.mul_lt_mul_of_lt_of_le h1 (Nat.le_trans hc (by decide)) (by decide)
theorem Dv.sum {Δ k : Nat} {f : Nat → Rat} : ∀ {m : Nat}, (∀ i, i < m → Dv Δ k (f i)) → Dv Δ (k + m) (MA.sm f m)
  | 0, _ => ⟨0, by simp [Nat.two_pow_pos], by simp [MA.sm]⟩
  | m + 1, h => by
    have a := Dv.sum (m := m) fun i hi => h i (by omega)
    exact a.add ((h m (by omega)).mono (by omega))
/-! ### the column between -/
end U
set_option Elab.async false
set_option linter.all false
set_option maxRecDepth 100000
set_option maxHeartbeats 4000000
set_option exponentiation.threshold 500000
namespace U
open PySem PySem.Spec PyProof.Rows L2
/-! ### a choice without a solution -/
section
variable {t : List (List (Int × Int))} {s : List (Int × Int)} {σ : List Int} {xs : List Rat} {m n : Nat}
/-- what a barring choice is -/
structure Barr (t : List (List (Int × Int))) (s : List (Int × Int)) (m n : Nat) (v : Nat → Nat → Rat) (g p : Nat → Rat) : Prop where
  ch : Chz t s m n v g
  col : ∀ j, j < n → MA.sm (fun i => p i * v i j) m = 0
  one : MA.sm (fun i => p i * g i) m = -1
  sv : ∀ i j, i < m → j < n → Sz 431 (v i j)
  sg : ∀ i, i < m → Sz 10 (g i)
  sp : ∀ i, i < m → Sz 133 (p i)
theorem Barr.no {v : Nat → Nat → Rat} {g p : Nat → Rat} (h : Barr t s m n v g p) : ¬ ∃ x, Solx m n v g x := by
  rintro ⟨x, hx⟩
  have h1 := h.one
  have e1' : MA.sm (fun i => p i * g i) m = MA.sm (fun i => MA.sm (fun j => p i * (v i j * x j)) n) m := MA.sm_congr fun i hi => by rw [← hx i hi, ← MA.sm_mul]
  rw [e1', MA.sm_comm] at h1
  rw [MA.sm_zero fun j hj => by
    have e2' : MA.sm (fun i => p i * (v i j * x j)) m = x j * MA.sm (fun i => p i * v i j) m := by
      rw [← MA.sm_mul]; exact MA.sm_congr fun i _ => by grind
    rw [e2', h.col j hj]; grind] at h1
  exact absurd h1 (by decide)
end
end U
set_option Elab.async false
set_option linter.all false
set_option maxRecDepth 100000
set_option maxHeartbeats 4000000
set_option exponentiation.threshold 500000
namespace U
open PySem PySem.Spec PyProof.Rows L2
/-! ### a choice without an upward solution -/
section
variable {t : List (List (Int × Int))} {s : List (Int × Int)} {m n : Nat}
structure BarU (t : List (List (Int × Int))) (s : List (Int × Int)) (m n : Nat) (v : Nat → Nat → Rat) (g p : Nat → Rat) : Prop where
  ch : Chz t s m n v g
  col : ∀ j, j < n → 0 ≤ MA.sm (fun i => p i * v i j) m
  one : MA.sm (fun i => p i * g i) m = -1
  sv : ∀ i j, i < m → j < n → Sz 10 (v i j)
  sg : ∀ i, i < m → Sz 10 (g i)
  sp : ∀ i, i < m → Sz 133 (p i)
theorem BarU.no {v : Nat → Nat → Rat} {g p : Nat → Rat} (h : BarU t s m n v g p) : ¬ ∃ x, (∀ j, j < n → 0 ≤ x j) ∧ Solx m n v g x := by
  rintro ⟨x, x0, hx⟩
  have h1 := h.one
  have e1' : MA.sm (fun i => p i * g i) m = MA.sm (fun i => MA.sm (fun j => p i * (v i j * x j)) n) m := MA.sm_congr fun i hi => by rw [← hx i hi, ← MA.sm_mul]
  rw [e1', MA.sm_comm] at h1
  have h2 : 0 ≤ MA.sm (fun k => MA.sm (fun l => p l * (v l k * x k)) m) n := MA.sm_nonneg fun j hj => by
    have e2' : MA.sm (fun i => p i * (v i j * x j)) m = x j * MA.sm (fun i => p i * v i j) m := by
      rw [← MA.sm_mul]; exact MA.sm_congr fun i _ => by grind
    rw [e2']; exact Rat.mul_nonneg (x0 j hj) (h.col j hj)
  rw [h1] at h2
  exact absurd h2 (by decide)
end
end U
set_option Elab.async false
set_option linter.all false
set_option maxRecDepth 100000
set_option maxHeartbeats 4000000
set_option exponentiation.threshold 500000
namespace U
open PySem PySem.Spec PyProof.Rows L2
/-! ### the laws' elimination, whole -/
section
variable {v : Nat → Nat → Rat} {g : Nat → Rat} {a n m : Nat}
end
end U
set_option Elab.async false
set_option linter.all false
set_option maxRecDepth 100000
set_option maxHeartbeats 4000000
set_option exponentiation.threshold 500000
namespace U
open PySem PySem.Spec PyProof.Rows L2
/-! ### choices by places, as the laws look at them -/
section
variable {t : List (List (Int × Int))} {s : List (Int × Int)} {v : Nat → Nat → Rat} {g p : Nat → Rat} {a m n : Nat}
end
end U
set_option Elab.async false
set_option linter.all false
set_option maxRecDepth 100000
set_option maxHeartbeats 4000000
set_option exponentiation.threshold 500000
namespace U
open PySem PySem.Spec PyProof.Rows L2
/-! ### the ends of unknowns with told signs -/
section
variable {t : List (List (Int × Int))} {s : List (Int × Int)} {σ : List Int} {m n i : Nat} {g : Int}
end
end U
set_option Elab.async false
set_option linter.all false
set_option maxRecDepth 100000
set_option maxHeartbeats 4000000
set_option exponentiation.threshold 500000
namespace U
open PySem PySem.Spec PyProof.Rows L2
/-! ### a loop that may stop -/
/-! ### words and rows of fractions -/
section
variable {t : List (List (Int × Int))} {s : List (Int × Int)} {σ : List Int} {m n i : Nat} {g : Int}
/-! ### reached -/
end
end U
set_option Elab.async false
set_option linter.all false
set_option maxRecDepth 100000
set_option maxHeartbeats 4000000
set_option exponentiation.threshold 500000
namespace U
open PySem PySem.Spec PyProof.Rows L2
/-! ### spans -/
section
variable {t : List (List (Int × Int))} {s : List (Int × Int)} {m n i : Nat} {g : Int}
end
end U
set_option Elab.async false
set_option linter.all false
set_option maxRecDepth 100000
set_option maxHeartbeats 4000000
set_option exponentiation.threshold 500000
namespace U
open PySem PySem.Spec PyProof.Rows L2
/-! ### one more row, for an unknown alone -/
section
variable {t : List (List (Int × Int))} {s : List (Int × Int)} {m n i : Nat} {g : Int}
/-! ### sure signs -/
end
end U
set_option Elab.async false
set_option linter.all false
set_option maxRecDepth 100000
set_option maxHeartbeats 4000000
set_option exponentiation.threshold 500000
namespace U
open PySem PySem.Spec PyProof.Rows L2
/-! ### one more equation -/
section
variable {t : List (List (Int × Int))} {s : List (Int × Int)} {σ : List Int} {m n : Nat}
end
end U
set_option Elab.async false
set_option linter.all false
set_option maxRecDepth 100000
set_option maxHeartbeats 4000000
set_option exponentiation.threshold 500000
namespace U
open PySem PySem.Spec PyProof.Rows L2
section
variable {t : List (List (Int × Int))} {s : List (Int × Int)} {σ : List Int} {m n : Nat}
end
end U
set_option Elab.async false
set_option linter.all false
set_option maxRecDepth 100000
set_option maxHeartbeats 4000000
set_option exponentiation.threshold 500000
namespace U
open PySem PySem.Spec PyProof.Rows L2
/-! ### one more number -/
section
variable {t : List (List (Int × Int))} {s : List (Int × Int)} {σ r : List Int} {m n : Nat} {c : Int}
end
end U
set_option Elab.async false
set_option linter.all false
set_option maxRecDepth 100000
set_option maxHeartbeats 4000000
set_option exponentiation.threshold 500000
namespace U
open PySem PySem.Spec PyProof.Rows L2
/-! ### the conditions of another system, one by one -/
section
variable {t t' : List (List (Int × Int))} {s s' : List (Int × Int)} {σ : List Int} {m m' n : Nat}
/-! ### outside -/
end
end U
set_option Elab.async false
set_option linter.all false
set_option maxRecDepth 100000
set_option maxHeartbeats 4000000
set_option exponentiation.threshold 500000
namespace U
open PySem PySem.Spec PyProof.Rows L2
/-! ### papers of narrower, longer and scaled -/
section
variable {t t' : List (List (Int × Int))} {s s' : List (Int × Int)} {σ c : List Int} {m n : Nat}
end
end U
set_option Elab.async false
set_option linter.all false
set_option maxRecDepth 100000
set_option maxHeartbeats 4000000
set_option exponentiation.threshold 500000
namespace U
open PySem PySem.Spec PyProof.Rows L2
/-! ### solutions of narrower systems -/
section
variable {t t' : List (List (Int × Int))} {s s' : List (Int × Int)} {m n : Nat}
/-- solving some choice, by rows -/
theorem slv_rows (ht : TabOk t m n) (hs : SideOk s m) {us : List Rat} : Slv t s n us ↔ us.length = n ∧ ∀ i, i < m → loS (t.getD i []) us ≤ (((s.getD i (0, 0)).2 : Int) : Rat) ∧ (((s.getD i (0, 0)).1 : Int) : Rat) ≤ hiS (t.getD i []) us := by
  have tl := ht.rows; have sl := hs.rows
  unfold Slv
  rw [List.all_eq_true]
  constructor
  · rintro ⟨hu, h⟩
    refine ⟨hu, fun i hi => ?_⟩
    have := h _ ((zip_get [] (0, 0) (by omega)).mpr ⟨i, by omega, rfl⟩)
    unfold pSome at this
    rw [decide_eq_true_iff] at this
    exact ⟨Rat.not_lt.mp this.1, Rat.not_lt.mp this.2⟩
  · rintro ⟨hu, h⟩
    refine ⟨hu, fun p hp => ?_⟩
    obtain ⟨i, hi, rfl⟩ := (zip_get [] (0, 0) (by omega)).mp hp
    unfold pSome
    rw [decide_eq_true_iff]
    have := h i (by omega)
    exact ⟨Rat.not_lt.mpr this.1, Rat.not_lt.mpr this.2⟩
end
end U
set_option Elab.async false
set_option linter.all false
set_option maxRecDepth 100000
set_option maxHeartbeats 4000000
set_option exponentiation.threshold 500000
namespace U
open PySem PySem.Spec PyProof.Rows L2
/-! ### slices and sums of tables and sides -/
section
variable {t t' : List (List (Int × Int))} {s s' : List (Int × Int)} {m m' n : Nat}
theorem TabOk.mk' (h : TabOk t m n) (hl : t'.length = m') (m1 : 1 ≤ m') (m3 : m' ≤ 3) (hr : ∀ r ∈ t', r.length = n ∧ ∀ c ∈ r, cellIn 20 c) : TabOk t' m' n :=
  ⟨hl, fun r q => (hr r q).1, fun r q => (hr r q).2, m1, m3, h.n1, h.n3⟩
theorem TabOk.row' (h : TabOk t m n) : ∀ r ∈ t, r.length = n ∧ ∀ c ∈ r, cellIn 20 c := fun r hr => ⟨h.cols r hr, h.cell r hr⟩
theorem mem_td {α : Type} {l : List α} {k : Nat} {x : α} : (x ∈ l.take k → x ∈ l) ∧ (x ∈ l.drop k → x ∈ l) := ⟨List.mem_of_mem_take, List.mem_of_mem_drop⟩
end
end U
set_option Elab.async false
set_option linter.all false
set_option maxHeartbeats 4000000
/-! ### determinants of up to three rows, null vectors, and tables no choice of which is singular -/
namespace MH
open MA
def det : Nat → (Nat → Nat → Rat) → Rat
  | 1, v => v 0 0
  | 2, v => v 0 0 * v 1 1 - v 0 1 * v 1 0
  | 3, v => v 0 0 * (v 1 1 * v 2 2 - v 1 2 * v 2 1) - v 0 1 * (v 1 0 * v 2 2 - v 1 2 * v 2 0) + v 0 2 * (v 1 0 * v 2 1 - v 1 1 * v 2 0)
  | _, _ => 0
def Nul (n : Nat) (v : Nat → Nat → Rat) (x : Nat → Rat) : Prop := (∃ j, j < n ∧ x j ≠ 0) ∧ ∀ i, i < n → sm (fun j => v i j * x j) n = 0
theorem sm1 (f : Nat → Rat) : sm f 1 = f 0 := by simp [sm, Rat.zero_add]
theorem sm2 (f : Nat → Rat) : sm f 2 = f 0 + f 1 := by simp [sm, Rat.zero_add]
theorem sm3 (f : Nat → Rat) : sm f 3 = f 0 + f 1 + f 2 := by simp [sm, Rat.zero_add]
theorem mz {a b : Rat} (h : a * b = 0) (hb : b ≠ 0) : a = 0 := by
  rcases Rat.mul_eq_zero.mp h with h | h
  · exact h
  · exact absurd h hb
def xv (a b c : Rat) (j : Nat) : Rat := if j = 0 then a else if j = 1 then b else c
theorem perp {a b c : Rat} : ∃ x y z : Rat, (x ≠ 0 ∨ y ≠ 0 ∨ z ≠ 0) ∧ a * x + b * y + c * z = 0 ∧ ∀ d e f : Rat, (a ≠ 0 ∨ b ≠ 0 ∨ c ≠ 0) → a * e - b * d = 0 → a * f - c * d = 0 → b * f - c * e = 0 → d * x + e * y + f * z = 0 := by
  by_cases h : a = 0 ∧ b = 0
  · refine ⟨1, 0, 0, .inl (by decide), by rw [h.1]; grind, fun d e f hn h1 h2 h3 => ?_⟩
    have hc : c ≠ 0 := by rcases hn with q | q | q; exact absurd h.1 q; exact absurd h.2 q; exact q
    have : d * c = 0 := by rw [h.1] at h2; grind
    have := mz this hc
    grind
  · refine ⟨b, -a, 0, ?_, by grind, fun d e f _ h1 h2 h3 => by grind⟩
    by_cases ha : a = 0
    · exact .inl fun q => h ⟨ha, q⟩
    · exact .inr (.inl fun q => ha (by grind))
theorem nul3 {a b c d e f g h i : Rat} (hd : a * (e * i - f * h) - b * (d * i - f * g) + c * (d * h - e * g) = 0) : ∃ x y z : Rat, (x ≠ 0 ∨ y ≠ 0 ∨ z ≠ 0) ∧ a * x + b * y + c * z = 0 ∧ d * x + e * y + f * z = 0 ∧ g * x + h * y + i * z = 0 := by
  by_cases p1 : e * i - f * h = 0 ∧ f * g - d * i = 0 ∧ d * h - e * g = 0
  · by_cases p2 : b * f - c * e = 0 ∧ c * d - a * f = 0 ∧ a * e - b * d = 0
    · by_cases p3 : b * i - c * h = 0 ∧ c * g - a * i = 0 ∧ a * h - b * g = 0
      · obtain ⟨q1, q2, q3⟩ := p1; obtain ⟨q4, q5, q6⟩ := p2; obtain ⟨q7, q8, q9⟩ := p3
        by_cases ha : a ≠ 0 ∨ b ≠ 0 ∨ c ≠ 0
        · obtain ⟨x, y, z, n0, e1, hh⟩ := perp (a := a) (b := b) (c := c)
          exact ⟨x, y, z, n0, e1, hh d e f ha q6 (by grind) q4, hh g h i ha q9 (by grind) q7⟩
        · have a0 : a = 0 := Classical.not_not.mp fun q => ha (.inl q)
          have b0 : b = 0 := Classical.not_not.mp fun q => ha (.inr (.inl q))
          have c0 : c = 0 := Classical.not_not.mp fun q => ha (.inr (.inr q))
          subst a0 b0 c0
          by_cases hb : d ≠ 0 ∨ e ≠ 0 ∨ f ≠ 0
          · obtain ⟨x, y, z, n0, e1, hh⟩ := perp (a := d) (b := e) (c := f)
            exact ⟨x, y, z, n0, by grind, e1, hh g h i hb q3 (by grind) q1⟩
          · have a0 : d = 0 := Classical.not_not.mp fun q => hb (.inl q)
            have b0 : e = 0 := Classical.not_not.mp fun q => hb (.inr (.inl q))
            have c0 : f = 0 := Classical.not_not.mp fun q => hb (.inr (.inr q))
            subst a0 b0 c0
            obtain ⟨x, y, z, n0, e1, _⟩ := perp (a := g) (b := h) (c := i)
            exact ⟨x, y, z, n0, by grind, by grind, e1⟩
      · refine ⟨b * i - c * h, c * g - a * i, a * h - b * g, ?_, by grind, by grind, by grind⟩
        by_cases z1 : b * i - c * h = 0
        · by_cases z2 : c * g - a * i = 0
          · exact .inr (.inr fun z3 => p3 ⟨z1, z2, z3⟩)
          · exact .inr (.inl z2)
        · exact .inl z1
    · refine ⟨b * f - c * e, c * d - a * f, a * e - b * d, ?_, by grind, by grind, by grind⟩
      by_cases z1 : b * f - c * e = 0
      · by_cases z2 : c * d - a * f = 0
        · exact .inr (.inr fun z3 => p2 ⟨z1, z2, z3⟩)
        · exact .inr (.inl z2)
      · exact .inl z1
  · refine ⟨e * i - f * h, f * g - d * i, d * h - e * g, ?_, by grind, by grind, by grind⟩
    by_cases z1 : e * i - f * h = 0
    · by_cases z2 : f * g - d * i = 0
      · exact .inr (.inr fun z3 => p1 ⟨z1, z2, z3⟩)
      · exact .inr (.inl z2)
    · exact .inl z1
theorem nul2 {a b c d : Rat} (hd : a * d - b * c = 0) : ∃ x y : Rat, (x ≠ 0 ∨ y ≠ 0) ∧ a * x + b * y = 0 ∧ c * x + d * y = 0 := by
  by_cases p : a = 0 ∧ b = 0
  · by_cases q : c = 0 ∧ d = 0
    · exact ⟨1, 0, .inl (by decide), by rw [p.1]; grind, by rw [q.1]; grind⟩
    · refine ⟨d, -c, ?_, by rw [p.1, p.2]; grind, by grind⟩
      by_cases z : d = 0
      · exact .inr fun k => q ⟨by grind, z⟩
      · exact .inl z
  · refine ⟨b, -a, ?_, by grind, by grind⟩
    by_cases z : b = 0
    · exact .inr fun k => p ⟨by grind, z⟩
    · exact .inl z
theorem nul_of {n : Nat} (n1 : 1 ≤ n) (n3 : n ≤ 3) {v : Nat → Nat → Rat} (h : det n v = 0) : ∃ x, Nul n v x := by
  have : n = 1 ∨ n = 2 ∨ n = 3 := by omega
  rcases this with rfl | rfl | rfl
  · refine ⟨fun _ => 1, ⟨0, by decide, by decide⟩, fun i hi => ?_⟩
    obtain rfl : i = 0 := by omega
    rw [sm1]; show v 0 0 * 1 = 0
    have h : v 0 0 = 0 := h
    rw [h]; grind
  · obtain ⟨x, y, n0, e1, e2⟩ := nul2 (show v 0 0 * v 1 1 - v 0 1 * v 1 0 = 0 from h)
    refine ⟨xv x y 0, ?_, fun i hi => ?_⟩
    · rcases n0 with q | q
      · exact ⟨0, by decide, q⟩
      · exact ⟨1, by decide, q⟩
    · rw [sm2]
      have : i = 0 ∨ i = 1 := by omega
      rcases this with rfl | rfl
      · exact e1
      · exact e2
  · obtain ⟨x, y, z, n0, e1, e2, e3⟩ := nul3 (show v 0 0 * (v 1 1 * v 2 2 - v 1 2 * v 2 1) - v 0 1 * (v 1 0 * v 2 2 - v 1 2 * v 2 0) + v 0 2 * (v 1 0 * v 2 1 - v 1 1 * v 2 0) = 0 from h)
    refine ⟨xv x y z, ?_, fun i hi => ?_⟩
    · rcases n0 with q | q | q
      · exact ⟨0, by decide, q⟩
      · exact ⟨1, by decide, q⟩
      · exact ⟨2, by decide, q⟩
    · rw [sm3]
      have : i = 0 ∨ i = 1 ∨ i = 2 := by omega
      rcases this with rfl | rfl | rfl
      · exact e1
      · exact e2
      · exact e3
theorem det_of_nul {n : Nat} (n1 : 1 ≤ n) (n3 : n ≤ 3) {v : Nat → Nat → Rat} {x : Nat → Rat} (h : Nul n v x) : det n v = 0 := by
  obtain ⟨⟨j, hj, hx⟩, hr⟩ := h
  refine mz (b := x j) ?_ hx
  have : n = 1 ∨ n = 2 ∨ n = 3 := by omega
  rcases this with rfl | rfl | rfl
  · obtain rfl : j = 0 := by omega
    have := hr 0 (by decide)
    rw [sm1] at this; exact this
  · have r0 := hr 0 (by decide); have r1 := hr 1 (by decide)
    rw [sm2] at r0 r1
    show (v 0 0 * v 1 1 - v 0 1 * v 1 0) * x j = 0
    have : j = 0 ∨ j = 1 := by omega
    rcases this with rfl | rfl <;> grind
  · have r0 := hr 0 (by decide); have r1 := hr 1 (by decide); have r2 := hr 2 (by decide)
    rw [sm3] at r0 r1 r2
    show (v 0 0 * (v 1 1 * v 2 2 - v 1 2 * v 2 1) - v 0 1 * (v 1 0 * v 2 2 - v 1 2 * v 2 0) + v 0 2 * (v 1 0 * v 2 1 - v 1 1 * v 2 0)) * x j = 0
    have : j = 0 ∨ j = 1 ∨ j = 2 := by omega
    rcases this with rfl | rfl | rfl
    · have : (v 0 0 * (v 1 1 * v 2 2 - v 1 2 * v 2 1) - v 0 1 * (v 1 0 * v 2 2 - v 1 2 * v 2 0) + v 0 2 * (v 1 0 * v 2 1 - v 1 1 * v 2 0)) * x 0 = (v 1 1 * v 2 2 - v 1 2 * v 2 1) * (v 0 0 * x 0 + v 0 1 * x 1 + v 0 2 * x 2) - (v 0 1 * v 2 2 - v 0 2 * v 2 1) * (v 1 0 * x 0 + v 1 1 * x 1 + v 1 2 * x 2) + (v 0 1 * v 1 2 - v 0 2 * v 1 1) * (v 2 0 * x 0 + v 2 1 * x 1 + v 2 2 * x 2) := by grind
      rw [this, r0, r1, r2]; grind
    · have : (v 0 0 * (v 1 1 * v 2 2 - v 1 2 * v 2 1) - v 0 1 * (v 1 0 * v 2 2 - v 1 2 * v 2 0) + v 0 2 * (v 1 0 * v 2 1 - v 1 1 * v 2 0)) * x 1 = -(v 1 0 * v 2 2 - v 1 2 * v 2 0) * (v 0 0 * x 0 + v 0 1 * x 1 + v 0 2 * x 2) + (v 0 0 * v 2 2 - v 0 2 * v 2 0) * (v 1 0 * x 0 + v 1 1 * x 1 + v 1 2 * x 2) - (v 0 0 * v 1 2 - v 0 2 * v 1 0) * (v 2 0 * x 0 + v 2 1 * x 1 + v 2 2 * x 2) := by grind
      rw [this, r0, r1, r2]; grind
    · have : (v 0 0 * (v 1 1 * v 2 2 - v 1 2 * v 2 1) - v 0 1 * (v 1 0 * v 2 2 - v 1 2 * v 2 0) + v 0 2 * (v 1 0 * v 2 1 - v 1 1 * v 2 0)) * x 2 = (v 1 0 * v 2 1 - v 1 1 * v 2 0) * (v 0 0 * x 0 + v 0 1 * x 1 + v 0 2 * x 2) - (v 0 0 * v 2 1 - v 0 1 * v 2 0) * (v 1 0 * x 0 + v 1 1 * x 1 + v 1 2 * x 2) + (v 0 0 * v 1 1 - v 0 1 * v 1 0) * (v 2 0 * x 0 + v 2 1 * x 1 + v 2 2 * x 2) := by grind
      rw [this, r0, r1, r2]; grind
/-! rows that are mixed -/
def upd (α : Nat → Rat) (k : Nat) (t : Rat) (i : Nat) : Rat := if i = k then t else α i
/-! corners -/
def In (n : Nat) (lo hi v : Nat → Nat → Rat) : Prop := ∀ i j, i < n → j < n → lo i j ≤ v i j ∧ v i j ≤ hi i j
theorem sm_mono {f g : Nat → Rat} : ∀ {n : Nat}, (∀ j, j < n → f j ≤ g j) → sm f n ≤ sm g n
  | 0, _ => by simp only [sm]; grind
  | n + 1, h => by
    have := sm_mono (n := n) fun j hj => h j (by omega)
    have := h n (by omega)
    simp only [sm]; grind
theorem sm_mix (f g : Nat → Rat) (t : Rat) : ∀ n, sm (fun j => f j + t * (g j - f j)) n = sm f n + t * (sm g n - sm f n)
  | 0 => by simp only [sm]; grind
  | n + 1 => by simp only [sm]; rw [sm_mix f g t n]; grind
def shq (u w : Rat) : Rat := if u = w then 0 else -u / (w - u)
theorem shq_ok {u w : Rat} (p : u ≤ 0) (q : 0 ≤ w) : 0 ≤ shq u w ∧ shq u w ≤ 1 ∧ u + shq u w * (w - u) = 0 := by
  unfold shq
  by_cases k : u = w
  · rw [if_pos k]; grind
  · rw [if_neg k]
    have d0 : 0 < w - u := by grind
    have e : -u / (w - u) * (w - u) = -u := Rat.div_mul_cancel (by grind)
    refine ⟨?_, ?_, by grind⟩
    · refine Rat.not_lt.mp fun k => ?_
      have := Rat.mul_pos (a := - (-u / (w - u))) (b := w - u) (by grind) d0
      grind
    · refine Rat.not_lt.mp fun k => ?_
      have := Rat.mul_pos (a := -u / (w - u) - 1) (b := w - u) (by grind) d0
      grind
end MH
set_option Elab.async false
set_option linter.all false
set_option maxRecDepth 100000
set_option maxHeartbeats 4000000
set_option exponentiation.threshold 500000
namespace U
open PySem PySem.Spec PyProof.Rows L2
/-! ### sure tables -/
section
variable {t t' : List (List (Int × Int))} {m n : Nat}
def loF (t : List (List (Int × Int))) (i j : Nat) : Rat := (((cellT t i j).1 : Int) : Rat)
def hiF (t : List (List (Int × Int))) (i j : Nat) : Rat := (((cellT t i j).2 : Int) : Rat)
def Sure (t : List (List (Int × Int))) (n : Nat) : Prop := ∀ v, MH.In n (loF t) (hiF t) v → MH.det n v ≠ 0
end
end U
set_option Elab.async false
set_option linter.all false
set_option maxRecDepth 100000
set_option maxHeartbeats 4000000
set_option exponentiation.threshold 500000
namespace U
open PySem PySem.Spec PyProof.Rows L2
/-! ### solving, by rows and choices -/
section
variable {t t' : List (List (Int × Int))} {s s' : List (Int × Int)} {m m' n n' : Nat}
def uF (us : List Rat) (j : Nat) : Rat := us.getD j 0
theorem uF_rng {x : Nat → Rat} {j : Nat} (hj : j < n) : uF ((List.range n).map x) j = x j := by
  unfold uF
  rw [List.getD_eq_getElem?_getD, List.getElem?_map, List.getElem?_range hj]; rfl
theorem in_lohi {c : Int × Int} {v u : Rat} (h : inC c v) : loT c u ≤ v * u ∧ v * u ≤ hiT c u := by
  unfold inC at h
  unfold loT hiT
  split
  · have q1 := Rat.mul_nonneg (a := ((c.2 : Int) : Rat) - v) (b := -u) (by grind) (by grind)
    have q2 := Rat.mul_nonneg (a := v - ((c.1 : Int) : Rat)) (b := -u) (by grind) (by grind)
    constructor <;> grind
  · have q1 := Rat.mul_nonneg (a := ((c.2 : Int) : Rat) - v) (b := u) (by grind) (by grind)
    have q2 := Rat.mul_nonneg (a := v - ((c.1 : Int) : Rat)) (b := u) (by grind) (by grind)
    constructor <;> grind
/-- a sum between the ends is that of numbers within the cells -/
theorem row_mid {c : Nat → Int × Int} {x : Nat → Rat} {q : Rat} (hc : ∀ j, j < n → (c j).1 ≤ (c j).2) (h1 : MA.sm (fun j => loT (c j) (x j)) n ≤ q) (h2 : q ≤ MA.sm (fun j => hiT (c j) (x j)) n) : ∃ v : Nat → Rat, (∀ j, j < n → inC (c j) (v j)) ∧ MA.sm (fun j => v j * x j) n = q := by
  obtain ⟨k0, k1, k2⟩ := MH.shq_ok (u := MA.sm (fun j => loT (c j) (x j)) n - q) (w := MA.sm (fun j => hiT (c j) (x j)) n - q) (by grind) (by grind)
  generalize MH.shq (MA.sm (fun j => loT (c j) (x j)) n - q) (MA.sm (fun j => hiT (c j) (x j)) n - q) = k at *
  refine ⟨fun j => stt (c j) (x j) + k * (lst (c j) (x j) - stt (c j) (x j)), fun j hj => ?_, ?_⟩
  · have := hc j hj
    have a : ((c j).1 : Rat) ≤ ((c j).2 : Rat) := Rat.intCast_le_intCast.mpr this
    unfold inC stt lst
    dsimp only
    have q1 := Rat.mul_nonneg (a := k) (b := ((c j).2 : Rat) - ((c j).1 : Rat)) k0 (by grind)
    have q2 := Rat.mul_nonneg (a := 1 - k) (b := ((c j).2 : Rat) - ((c j).1 : Rat)) (by grind) (by grind)
    split <;> constructor <;> grind
  · have e : ∀ j, j < n → (stt (c j) (x j) + k * (lst (c j) (x j) - stt (c j) (x j))) * x j = loT (c j) (x j) + k * (hiT (c j) (x j) - loT (c j) (x j)) := fun j _ => by
      unfold stt lst loT hiT; split <;> grind
    rw [MA.sm_congr e, MH.sm_mix]
    grind
def SolR (t : List (List (Int × Int))) (s : List (Int × Int)) (m n : Nat) (x : Nat → Rat) : Prop := ∀ i, i < m → ∃ (v : Nat → Rat) (g : Rat), (∀ j, j < n → inC (cellT t i j) (v j)) ∧ inC (s.getD i (0, 0)) g ∧ MA.sm (fun j => v j * x j) n = g
theorem loS_x (ht : TabOk t m n) {us : List Rat} (hu : us.length = n) {i : Nat} (hi : i < m) : loS (t.getD i []) us = MA.sm (fun j => loT (cellT t i j) (uF us j)) n ∧ hiS (t.getD i []) us = MA.sm (fun j => hiT (cellT t i j) (uF us j)) n := by
  have tl := ht.rows
  have r1 : (t.getD i []).length = n := ht.cols _ (getD_mem (by omega))
  have a := loS_sm (t.getD i []) us (by omega)
  have b := hiS_sm (t.getD i []) us (by omega)
  rw [r1] at a b
  exact ⟨a, b⟩
theorem side_le (hs : SideOk s m) {i : Nat} (hi : i < m) : (s.getD i (0, 0)).1 ≤ (s.getD i (0, 0)).2 := by
  have := hs.rows
  have := hs.cell (s.getD i (0, 0)) (getD_mem (by omega))
  unfold cellIn at this
  exact this.2.1
theorem slv_R (ht : TabOk t m n) (hs : SideOk s m) {us : List Rat} : Slv t s n us ↔ us.length = n ∧ SolR t s m n (uF us) := by
  rw [slv_rows ht hs]
  refine and_congr_right fun hu => ?_
  constructor
  · intro h i hi
    obtain ⟨h1, h2⟩ := h i hi
    obtain ⟨e1', e2'⟩ := loS_x ht hu hi
    rw [e1'] at h1; rw [e2'] at h2
    have sl : (((s.getD i (0, 0)).1 : Int) : Rat) ≤ (((s.getD i (0, 0)).2 : Int) : Rat) := Rat.intCast_le_intCast.mpr (side_le hs hi)
    have cc : ∀ j, j < n → (cellT t i j).1 ≤ (cellT t i j).2 := fun j hj => by
      have := cellT_in ht hi hj
      unfold cellIn at this; exact this.2.1
    have lh : MA.sm (fun j => loT (cellT t i j) (uF us j)) n ≤ MA.sm (fun j => hiT (cellT t i j) (uF us j)) n := MH.sm_mono fun j hj => by
      have := in_lohi (u := uF us j) (c := cellT t i j) (v := (((cellT t i j).1 : Int) : Rat)) ⟨by grind, Rat.intCast_le_intCast.mpr (cc j hj)⟩
      grind
    by_cases q : MA.sm (fun j => loT (cellT t i j) (uF us j)) n ≤ (((s.getD i (0, 0)).1 : Int) : Rat)
    · obtain ⟨v, v1, v2⟩ := row_mid cc q h2
      exact ⟨v, _, v1, ⟨by grind, sl⟩, v2⟩
    · obtain ⟨v, v1, v2⟩ := row_mid cc (q := MA.sm (fun j => loT (cellT t i j) (uF us j)) n) (by grind) lh
      exact ⟨v, _, v1, ⟨by grind, h1⟩, v2⟩
  · intro h i hi
    obtain ⟨v, g, h1, h2, h3⟩ := h i hi
    obtain ⟨e1', e2'⟩ := loS_x ht hu hi
    rw [e1', e2']
    have a := MH.sm_mono (f := fun j => loT (cellT t i j) (uF us j)) (g := fun j => v j * uF us j) (n := n) fun j hj => (in_lohi (h1 j hj)).1
    have b := MH.sm_mono (g := fun j => hiT (cellT t i j) (uF us j)) (f := fun j => v j * uF us j) (n := n) fun j hj => (in_lohi (h1 j hj)).2
    rw [h3] at a b
    unfold inC at h2
    constructor <;> grind
theorem SolR.congr {x y : Nat → Rat} (h : SolR t s m n x) (e : ∀ j, j < n → x j = y j) : SolR t s m n y := fun i hi => by
  obtain ⟨v, g, h1, h2, h3⟩ := h i hi
  exact ⟨v, g, h1, h2, by rw [← h3]; exact MA.sm_congr fun j hj => by rw [e j hj]⟩
theorem slv_of (ht : TabOk t m n) (hs : SideOk s m) {x : Nat → Rat} (h : SolR t s m n x) : Slv t s n ((List.range n).map x) :=
  (slv_R ht hs).mpr ⟨by simp, h.congr fun j hj => (uF_rng hj).symm⟩
/-! limits -/
def KeaR (t : List (List (Int × Int))) (s : List (Int × Int)) (m n : Nat) (x : Nat → Rat) : Prop := ∀ i, i < m → ∀ v : Nat → Rat, (∀ j, j < n → inC (cellT t i j) (v j)) → MA.sm (fun j => v j * x j) n ≤ (((s.getD i (0, 0)).1 : Int) : Rat)
def KepR (t : List (List (Int × Int))) (s : List (Int × Int)) (m n : Nat) (x : Nat → Rat) : Prop := ∀ i, i < m → ∃ v : Nat → Rat, (∀ j, j < n → inC (cellT t i j) (v j)) ∧ MA.sm (fun j => v j * x j) n ≤ (((s.getD i (0, 0)).2 : Int) : Rat)
theorem KeaR.congr {x y : Nat → Rat} (h : KeaR t s m n x) (e : ∀ j, j < n → x j = y j) : KeaR t s m n y := fun i hi v hv => by
  rw [← MA.sm_congr (f := fun j => v j * x j) fun j hj => by rw [e j hj]]
  exact h i hi v hv
theorem KepR.congr {x y : Nat → Rat} (h : KepR t s m n x) (e : ∀ j, j < n → x j = y j) : KepR t s m n y := fun i hi => by
  obtain ⟨v, h1, h2⟩ := h i hi
  exact ⟨v, h1, by rw [← MA.sm_congr (f := fun j => v j * x j) fun j hj => by rw [e j hj]]; exact h2⟩
/-! lost unknowns -/
def NulR (t : List (List (Int × Int))) (m n : Nat) (x : Nat → Rat) : Prop := (∃ j, j < n ∧ x j ≠ 0) ∧ ∀ i, i < m → ∃ v : Nat → Rat, (∀ j, j < n → inC (cellT t i j) (v j)) ∧ MA.sm (fun j => v j * x j) n = 0
/-- a square table is full exactly if it is sure -/
theorem sure_nul (ht : TabOk t n n) : Sure t n ↔ ¬ ∃ x, NulR t n n x := by
  have n1 := ht.n1; have n3 := ht.n3
  constructor
  · rintro h ⟨x, nz, hr⟩
    have hr' : ∀ i, ∃ v : Nat → Rat, i < n → (∀ j, j < n → inC (cellT t i j) (v j)) ∧ MA.sm (fun j => v j * x j) n = 0 := fun i => by
      by_cases q : i < n
      · obtain ⟨v, hv⟩ := hr i q
        exact ⟨v, fun _ => hv⟩
      · exact ⟨fun _ => 0, fun z => absurd z q⟩
    obtain ⟨w, hw⟩ := Classical.axiomOfChoice hr'
    exact h w (fun i j hi hj => (hw i hi).1 j hj) (MH.det_of_nul n1 n3 ⟨nz, fun i hi => (hw i hi).2⟩)
  · intro h v hv h0
    obtain ⟨x, nz, hx⟩ := MH.nul_of n1 n3 h0
    exact h ⟨x, nz, fun i hi => ⟨v i, fun j hj => hv i j hi hj, hx i hi⟩⟩
/-! upward -/
def UpR (t : List (List (Int × Int))) (s : List (Int × Int)) (m n : Nat) (x : Nat → Rat) : Prop := SolR t s m n x ∧ ∀ j, j < n → 0 ≤ x j
end
end U
set_option Elab.async false
set_option linter.all false
set_option maxRecDepth 100000
set_option maxHeartbeats 4000000
set_option exponentiation.threshold 500000
namespace U
open PySem PySem.Spec PyProof.Rows L2
/-! ### spans of narrower systems; rows left out and rows doubled -/
section
variable {t t' : List (List (Int × Int))} {s s' : List (Int × Int)} {m m' n i : Nat}
/-! a row left out -/
theorem TabOk.less (ht : TabOk t m n) {k : Nat} (hk : k < m) : TabOk (t.drop k) (m - k) n :=
  ht.mk' (by rw [List.length_drop, ht.rows]) (by omega) (by have := ht.m3; omega) fun r hr => ht.row' r (mem_td.2 hr)
theorem SideOk.less (hs : SideOk s m) {k : Nat} : SideOk (s.drop k) (m - k) :=
  ⟨by rw [List.length_drop, hs.rows], fun c hc => hs.cell c (mem_td.2 hc)⟩
def gCons (c : Rat) (g : Nat → Rat) : Nat → Rat
  | 0 => c
  | i + 1 => g i
/-! the first row twice -/
end
end U
set_option Elab.async false
set_option linter.all false
set_option maxRecDepth 100000
set_option maxHeartbeats 4000000
set_option exponentiation.threshold 500000
namespace U
open PySem PySem.Spec PyProof.Rows L2
/-! ### spans by the values of an unknown -/
section
variable {t t' : List (List (Int × Int))} {s s' : List (Int × Int)} {m m' n n' i i' : Nat}
def Val (t : List (List (Int × Int))) (s : List (Int × Int)) (n i : Nat) (q : Rat) : Prop := ∃ us, Slv t s n us ∧ us.getD i 0 = q
theorem val_R (ht : TabOk t m n) (hs : SideOk s m) (hi : i < n) {q : Rat} : Val t s n i q ↔ ∃ x, SolR t s m n x ∧ x i = q := by
  constructor
  · rintro ⟨us, h, e⟩
    exact ⟨uF us, ((slv_R ht hs).mp h).2, e⟩
  · rintro ⟨x, h, e⟩
    exact ⟨_, slv_of ht hs h, by rw [← e]; exact uF_rng hi⟩
/-! comparing spans -/
end
end U
set_option Elab.async false
set_option linter.all false
set_option maxRecDepth 100000
set_option maxHeartbeats 4000000
set_option exponentiation.threshold 500000
namespace U
open PySem PySem.Spec PyProof.Rows L2
/-! ### steps from one system to another one -/
section
variable {t t' : List (List (Int × Int))} {s s' : List (Int × Int)} {m m' n : Nat} {π τ τ' : Nat → Nat} {ρ κ : Nat → Rat}
/-- each row of the second is one of the first, times a number; its columns are those of the first, times numbers -/
structure Mor (t : List (List (Int × Int))) (s : List (Int × Int)) (m n : Nat) (t' : List (List (Int × Int))) (s' : List (Int × Int)) (m' : Nat) (π τ τ' : Nat → Nat) (ρ κ : Nat → Rat) : Prop where
  pi : ∀ i, i < m' → π i < m
  ta : ∀ j, j < n → τ j < n
  ta' : ∀ j, j < n → τ' j < n
  inv : ∀ j, j < n → τ (τ' j) = j
  inv' : ∀ j, j < n → τ' (τ j) = j
  k0 : ∀ j, j < n → κ j ≠ 0
  sum : ∀ f : Nat → Rat, MA.sm (fun j => f (τ j)) n = MA.sm f n
  cell : ∀ i j, i < m' → j < n → ∀ v, inC (cellT t (π i) (τ j)) v → inC (cellT t' i j) (ρ i * κ j * v)
  side : ∀ i, i < m' → ∀ g, inC (s.getD (π i) (0, 0)) g → inC (s'.getD i (0, 0)) (ρ i * g)
theorem Mor.row (M : Mor t s m n t' s' m' π τ τ' ρ κ) (i : Nat) (v x : Nat → Rat) : MA.sm (fun j => ρ i * κ j * v (τ j) * (x (τ j) / κ j)) n = ρ i * MA.sm (fun j => v j * x j) n := by
  rw [← M.sum (fun j => v j * x j), ← MA.sm_mul]
  refine MA.sm_congr fun j hj => ?_
  have e : x (τ j) / κ j * κ j = x (τ j) := Rat.div_mul_cancel (M.k0 j hj)
  have : ρ i * κ j * v (τ j) * (x (τ j) / κ j) = ρ i * (v (τ j) * (x (τ j) / κ j * κ j)) := by grind
  rw [this, e]
theorem Mor.sol (M : Mor t s m n t' s' m' π τ τ' ρ κ) {x : Nat → Rat} (h : SolR t s m n x) : SolR t' s' m' n fun j => x (τ j) / κ j := fun i hi => by
  obtain ⟨v, g, h1, h2, h3⟩ := h (π i) (M.pi i hi)
  exact ⟨fun j => ρ i * κ j * v (τ j), ρ i * g, fun j hj => M.cell i j hi hj _ (h1 _ (M.ta j hj)), M.side i hi _ h2, by rw [M.row, h3]⟩
theorem Mor.nul (M : Mor t s m n t' s' m' π τ τ' ρ κ) {x : Nat → Rat} (h : NulR t m n x) : NulR t' m' n fun j => x (τ j) / κ j := by
  obtain ⟨⟨j, hj, hx⟩, h⟩ := h
  refine ⟨⟨τ' j, M.ta' j hj, fun z => hx ?_⟩, fun i hi => ?_⟩
  · have z : x (τ (τ' j)) / κ (τ' j) = 0 := z
    rw [M.inv j hj] at z
    have e : x j / κ (τ' j) * κ (τ' j) = x j := Rat.div_mul_cancel (M.k0 _ (M.ta' j hj))
    rw [← e, z, Rat.zero_mul]
  · obtain ⟨v, h1, h2⟩ := h (π i) (M.pi i hi)
    exact ⟨fun j => ρ i * κ j * v (τ j), fun j hj => M.cell i j hi hj _ (h1 _ (M.ta j hj)), by rw [M.row, h2, Rat.mul_zero]⟩
theorem Mor.row' (M : Mor t s m n t' s' m' π τ τ' ρ κ) (i : Nat) (v y : Nat → Rat) : MA.sm (fun j => ρ i * κ j * v (τ j) * y j) n = ρ i * MA.sm (fun j => v j * (κ (τ' j) * y (τ' j))) n := by
  rw [← M.sum (fun j => v j * (κ (τ' j) * y (τ' j))), ← MA.sm_mul]
  refine MA.sm_congr fun j hj => ?_
  rw [M.inv' j hj]; grind
theorem Mor.each (M : Mor t s m n t' s' m' π τ τ' ρ κ) (cov : ∀ i, i < m → ∃ i', i' < m' ∧ π i' = i ∧ ρ i' ≠ 0) (h : Each t' s' m' n) : Each t s m n := fun v g ch => by
  obtain ⟨y, hy⟩ := h (fun i j => ρ i * κ j * v (π i) (τ j)) (fun i => ρ i * g (π i)) ⟨fun i j hi hj => M.cell i j hi hj _ (ch.cell _ _ (M.pi i hi) (M.ta j hj)), fun i hi => M.side i hi _ (ch.side _ (M.pi i hi))⟩
  refine ⟨fun j => κ (τ' j) * y (τ' j), fun i hi => ?_⟩
  obtain ⟨i', hi', rfl, r0⟩ := cov i hi
  have := hy i' hi'
  dsimp only at this
  rw [M.row'] at this
  have e : ρ i' * (MA.sm (fun j => v (π i') j * (κ (τ' j) * y (τ' j))) n - g (π i')) = 0 := by grind
  rcases Rat.mul_eq_zero.mp e with q | q
  · exact absurd q r0
  · grind
theorem div_nn {a b : Rat} (ha : 0 ≤ a) (hb : 0 < b) : 0 ≤ a / b := by
  refine Rat.not_lt.mp fun q => ?_
  have e : a / b * b = a := Rat.div_mul_cancel (by grind)
  have := Rat.mul_pos (a := -(a / b)) (b := b) (by grind) hb
  grind
theorem Mor.up (M : Mor t s m n t' s' m' π τ τ' ρ κ) (pos : ∀ j, j < n → 0 < κ j) {x : Nat → Rat} (h : UpR t s m n x) : UpR t' s' m' n fun j => x (τ j) / κ j :=
  ⟨M.sol h.1, fun j hj => div_nn (h.2 _ (M.ta j hj)) (pos j hj)⟩
theorem Mor.val (M : Mor t s m n t' s' m' π τ τ' ρ κ) (ht : TabOk t m n) (hs : SideOk s m) (ht' : TabOk t' m' n) (hs' : SideOk s' m') {i : Nat} (hi : i < n) {q : Rat} (h : Val t s n i q) : Val t' s' n (τ' i) (q / κ (τ' i)) := by
  obtain ⟨x, hx, e⟩ := (val_R ht hs hi).mp h
  exact (val_R ht' hs' (M.ta' i hi)).mpr ⟨_, M.sol hx, by show x (τ (τ' i)) / κ (τ' i) = _; rw [M.inv i hi, e]⟩
theorem Mor.sure (M : Mor t s n n t' s' n π τ τ' ρ κ) (ht : TabOk t n n) (ht' : TabOk t' n n) (h : Sure t' n) : Sure t n := by
  rw [sure_nul ht]
  rw [sure_nul ht'] at h
  exact fun ⟨x, k⟩ => h ⟨_, M.nul k⟩
/-! narrower systems -/
end
/-! drawn sides are small -/
end U
set_option Elab.async false
set_option linter.all false
set_option maxRecDepth 100000
set_option maxHeartbeats 4000000
set_option exponentiation.threshold 500000
namespace U
open PySem PySem.Spec PyProof.Rows L2
/-! ### a choice whose limits nothing keeps -/
section
variable {t : List (List (Int × Int))} {s : List (Int × Int)} {c : List Int} {m n : Nat}
end
end U
set_option Elab.async false
set_option linter.all false
set_option maxRecDepth 100000
set_option maxHeartbeats 4000000
set_option exponentiation.threshold 500000
namespace U
open PySem PySem.Spec PyProof.Rows L2
/-! ### one row or cell exchanged -/
section
variable {t t' : List (List (Int × Int))} {s s' : List (Int × Int)} {m m' n : Nat}
theorem mem_setl {α : Type} {l : List α} {p : Nat} {x y : α} (h : y ∈ l.set p x) : y ∈ l ∨ y = x := List.mem_or_eq_of_mem_set h
theorem TabOk.set (ht : TabOk t m n) {p : Nat} {r : List (Int × Int)} (hr : r.length = n ∧ ∀ c ∈ r, cellIn 20 c) : TabOk (t.set p r) m n :=
  ht.mk' (by rw [List.length_set, ht.rows]) ht.m1 ht.m3 fun x hx => by
    rcases mem_setl hx with h | rfl
    · exact ht.row' x h
    · exact hr
theorem SideOk.set (hs : SideOk s m) {p : Nat} {c : Int × Int} (hc : cellIn 50 c) : SideOk (s.set p c) m :=
  ⟨by rw [List.length_set, hs.rows], fun x hx => by
    rcases mem_setl hx with h | rfl
    · exact hs.cell x h
    · exact hc⟩
/-! rows and columns times numbers -/
structure Scl (t : List (List (Int × Int))) (s : List (Int × Int)) (m n : Nat) (t' : List (List (Int × Int))) (s' : List (Int × Int)) (a b : Nat → Int) : Prop where
  ap : ∀ i, i < m → 0 < a i
  bp : ∀ j, j < n → 0 < b j
  cell : ∀ i j, i < m → j < n → cellT t' i j = (a i * b j * (cellT t i j).1, a i * b j * (cellT t i j).2)
  side : ∀ i, i < m → s'.getD i (0, 0) = (a i * (s.getD i (0, 0)).1, a i * (s.getD i (0, 0)).2)
variable {a b : Nat → Int}
theorem cpos {k : Int} (h : 0 < k) : (0 : Rat) < ((k : Int) : Rat) := Rat.intCast_lt_intCast.mpr h
theorem inC_mulk {c : Int × Int} {v : Rat} {k : Int} (hk : 0 < k) (h : inC c v) : inC (k * c.1, k * c.2) (((k : Int) : Rat) * v) := by
  unfold inC at h ⊢
  have k0 := cpos hk
  have q1 := Rat.mul_nonneg (a := ((k : Int) : Rat)) (b := v - ((c.1 : Int) : Rat)) (by grind) (by grind)
  have q2 := Rat.mul_nonneg (a := ((k : Int) : Rat)) (b := ((c.2 : Int) : Rat) - v) (by grind) (by grind)
  dsimp only
  rw [Rat.intCast_mul, Rat.intCast_mul]
  constructor <;> grind
theorem inC_divk {c : Int × Int} {v : Rat} {k : Int} (hk : 0 < k) (h : inC (k * c.1, k * c.2) v) : inC c (1 / ((k : Int) : Rat) * v) := by
  unfold inC at h ⊢
  have k0 := cpos hk
  dsimp only at h
  rw [Rat.intCast_mul, Rat.intCast_mul] at h
  have e : 1 / ((k : Int) : Rat) * ((k : Int) : Rat) = 1 := Rat.div_mul_cancel (by grind)
  have p0 : 0 ≤ 1 / ((k : Int) : Rat) := div_nn (by decide) k0
  have q1 := Rat.mul_nonneg (a := 1 / ((k : Int) : Rat)) (b := v - ((k : Int) : Rat) * ((c.1 : Int) : Rat)) p0 (by grind)
  have q2 := Rat.mul_nonneg (a := 1 / ((k : Int) : Rat)) (b := ((k : Int) : Rat) * ((c.2 : Int) : Rat) - v) p0 (by grind)
  have f1 : 1 / ((k : Int) : Rat) * (((k : Int) : Rat) * ((c.1 : Int) : Rat)) = ((c.1 : Int) : Rat) := by rw [← Rat.mul_assoc, e, Rat.one_mul]
  have f2 : 1 / ((k : Int) : Rat) * (((k : Int) : Rat) * ((c.2 : Int) : Rat)) = ((c.2 : Int) : Rat) := by rw [← Rat.mul_assoc, e, Rat.one_mul]
  constructor <;> grind
theorem Scl.to (S : Scl t s m n t' s' a b) : Mor t s m n t' s' m id id id (fun i => ((a i : Int) : Rat)) (fun j => ((b j : Int) : Rat)) where
  pi := fun _ h => h
  ta := fun _ h => h
  ta' := fun _ h => h
  inv := fun _ _ => rfl
  inv' := fun _ _ => rfl
  k0 := fun j hj z => by have := cpos (S.bp j hj); grind
  sum := fun _ => rfl
  cell := fun i j hi hj v hv => by
    have hv : inC (cellT t i j) v := hv
    rw [S.cell i j hi hj, ← Rat.intCast_mul]
    exact inC_mulk (Int.mul_pos (S.ap i hi) (S.bp j hj)) hv
  side := fun i hi g hg => by
    have hg : inC (s.getD i (0, 0)) g := hg
    rw [S.side i hi]
    exact inC_mulk (S.ap i hi) hg
theorem Scl.fro (S : Scl t s m n t' s' a b) : Mor t' s' m n t s m id id id (fun i => 1 / ((a i : Int) : Rat)) (fun j => 1 / ((b j : Int) : Rat)) where
  pi := fun _ h => h
  ta := fun _ h => h
  ta' := fun _ h => h
  inv := fun _ _ => rfl
  inv' := fun _ _ => rfl
  k0 := fun j hj z => by
    have k0 := cpos (S.bp j hj)
    have e : 1 / ((b j : Int) : Rat) * ((b j : Int) : Rat) = 1 := Rat.div_mul_cancel (by grind)
    rw [z] at e; grind
  sum := fun _ => rfl
  cell := fun i j hi hj v hv => by
    have hv : inC (cellT t' i j) v := hv
    rw [S.cell i j hi hj] at hv
    have := inC_divk (Int.mul_pos (S.ap i hi) (S.bp j hj)) hv
    have k0 := cpos (S.ap i hi)
    have k1 := cpos (S.bp j hj)
    have e : 1 / ((a i * b j : Int) : Rat) = 1 / ((a i : Int) : Rat) * (1 / ((b j : Int) : Rat)) := by
      rw [Rat.intCast_mul, Rat.div_def, Rat.div_def, Rat.div_def, Rat.inv_mul_rev]; grind
    rw [e] at this
    exact this
  side := fun i hi g hg => by
    have hg : inC (s'.getD i (0, 0)) g := hg
    rw [S.side i hi] at hg
    exact inC_divk (S.ap i hi) hg
theorem one_div_pos {k : Int} (h : 0 < k) : 0 < 1 / ((k : Int) : Rat) := MA.div_pos (by decide) (cpos h)
theorem Scl.val (S : Scl t s m n t' s' a b) (ht : TabOk t m n) (hs : SideOk s m) (ht' : TabOk t' m n) (hs' : SideOk s' m) {i : Nat} (hi : i < n) (q : Rat) : Val t' s' n i q ↔ Val t s n i (((b i : Int) : Rat) * q) := by
  have k0 := cpos (S.bp i hi)
  constructor
  · intro h
    have := S.fro.val ht' hs' ht hs hi h
    have e : q / (1 / ((b i : Int) : Rat)) = ((b i : Int) : Rat) * q := by
      have e1' : 1 / ((b i : Int) : Rat) * ((b i : Int) : Rat) = 1 := Rat.div_mul_cancel (by grind)
      have e2' : q / (1 / ((b i : Int) : Rat)) * (1 / ((b i : Int) : Rat)) = q := Rat.div_mul_cancel (by have := one_div_pos (S.bp i hi); grind)
      have : q / (1 / ((b i : Int) : Rat)) * (1 / ((b i : Int) : Rat)) * ((b i : Int) : Rat) = q * ((b i : Int) : Rat) := by rw [e2']
      rw [Rat.mul_assoc, e1', Rat.mul_one] at this
      rw [this, Rat.mul_comm]
    have this : Val t s n i (q / (1 / ((b i : Int) : Rat))) := this
    rw [e] at this; exact this
  · intro h
    have := S.to.val ht hs ht' hs' hi h
    have this : Val t' s' n i (((b i : Int) : Rat) * q / ((b i : Int) : Rat)) := this
    rw [Rat.mul_comm, Rat.mul_div_cancel (by grind)] at this
    exact this
end
end U
set_option Elab.async false
set_option linter.all false
set_option maxRecDepth 100000
set_option maxHeartbeats 4000000
set_option exponentiation.threshold 500000
namespace U
open PySem PySem.Spec PyProof.Rows L2
/-! ### rows and columns in another order, a row turned over -/
section
variable {t t' : List (List (Int × Int))} {s s' : List (Int × Int)} {m m' n k : Nat} {π τ τ' π' σ σ' : Nat → Nat} {ρ κ ρ' κ' : Nat → Rat}
theorem rot_len {α : Type} {l : List α} (hl : l.length = m) (hk : k ≤ m) : (l.drop k ++ l.take k).length = m := by
  rw [List.length_append, List.length_drop, List.length_take]; omega
theorem rot_mem {α : Type} {l : List α} {x : α} (h : x ∈ l.drop k ++ l.take k) : x ∈ l := by
  rcases List.mem_append.mp h with h | h
  · exact mem_td.2 h
  · exact mem_td.1 h
theorem one1 (v : Rat) : (1 : Rat) * 1 * v = v := by grind
/-- rows by another number -/
theorem Mor.rows (hp : ∀ i, i < m' → π i < m) (hc : ∀ i j, i < m' → j < n → cellT t' i j = cellT t (π i) j) (hs : ∀ i, i < m' → s'.getD i (0, 0) = s.getD (π i) (0, 0)) : Mor t s m n t' s' m' π id id (fun _ => 1) (fun _ => 1) where
  pi := hp
  ta := fun _ h => h
  ta' := fun _ h => h
  inv := fun _ _ => rfl
  inv' := fun _ _ => rfl
  k0 := fun _ _ => by decide
  sum := fun _ => rfl
  cell := fun i j hi hj v hv => by rw [one1, hc i j hi hj]; exact hv
  side := fun i hi g hg => by rw [Rat.one_mul, hs i hi]; exact hg
def ctT (t : List (List (Int × Int))) (k : Nat) : List (List (Int × Int)) := t.map fun r => r.drop k ++ r.take k
theorem TabOk.ct (ht : TabOk t m n) (hk : k ≤ n) : TabOk (ctT t k) m n := ht.mk' (by rw [ctT, List.length_map]; exact ht.rows) ht.m1 ht.m3 fun r hr => by
  obtain ⟨r', hr', rfl⟩ := List.mem_map.mp hr
  exact ⟨rot_len (ht.cols r' hr') hk, fun c hc => ht.cell r' hr' c (rot_mem hc)⟩
/-- columns by another number -/
theorem Mor.cols (h1 : ∀ j, j < n → τ j < n) (h2 : ∀ j, j < n → τ' j < n) (h3 : ∀ j, j < n → τ (τ' j) = j) (h4 : ∀ j, j < n → τ' (τ j) = j) (hs : ∀ f : Nat → Rat, MA.sm (fun j => f (τ j)) n = MA.sm f n) (hc : ∀ i j, i < m → j < n → cellT t' i j = cellT t i (τ j)) : Mor t s m n t' s m id τ τ' (fun _ => 1) (fun _ => 1) where
  pi := fun _ h => h
  ta := h1
  ta' := h2
  inv := h3
  inv' := h4
  k0 := fun _ _ => by decide
  sum := hs
  cell := fun i j hi hj v hv => by rw [one1, hc i j hi hj]; exact hv
  side := fun i hi g hg => by rw [Rat.one_mul]; exact hg
/-! the first row turned over -/
def ngC (c : Int × Int) : Int × Int := (0 - c.2, 0 - c.1)
def flT : List (List (Int × Int)) → List (List (Int × Int))
  | [] => []
  | r :: t => r.map ngC :: t
def flS : List (Int × Int) → List (Int × Int)
  | [] => []
  | c :: s => ngC c :: s
def sg0 (i : Nat) : Rat := if i = 0 then -1 else 1
theorem ng_in {l : Int} {c : Int × Int} (h : cellIn l c) : cellIn l (ngC c) := by unfold cellIn ngC at *; dsimp only; omega
theorem TabOk.fl (ht : TabOk t m n) : TabOk (flT t) m n := by
  obtain ⟨r, rest, e⟩ := ht.ne
  subst e
  refine ht.mk' ht.rows ht.m1 ht.m3 fun x hx => ?_
  rcases List.mem_cons.mp hx with rfl | hx
  · refine ⟨by rw [List.length_map]; exact ht.cols r List.mem_cons_self, fun c hc => ?_⟩
    obtain ⟨c', hc', rfl⟩ := List.mem_map.mp hc
    exact ng_in (ht.cell r List.mem_cons_self c' hc')
  · exact ht.row' x (List.mem_cons_of_mem _ hx)
theorem SideOk.fl (hs : SideOk s m) : SideOk (flS s) m := by
  cases s with
  | nil => exact hs
  | cons c s =>
    refine ⟨hs.rows, fun x hx => ?_⟩
    rcases List.mem_cons.mp hx with rfl | hx
    · exact ng_in (hs.cell c List.mem_cons_self)
    · exact hs.cell x (List.mem_cons_of_mem _ hx)
/-! the answers -/
/-! sure tables stay sure -/
def trT (t : List (List (Int × Int))) (n : Nat) : List (List (Int × Int)) := (List.range n).map fun j => t.map fun r => r.getD j (0, 0)
theorem TabOk.tr (ht : TabOk t n n) : TabOk (trT t n) n n := by
  have tl := ht.rows
  refine ht.mk' (by simp [trT]) ht.m1 ht.m3 fun r hr => ?_
  obtain ⟨j, hj, rfl⟩ := List.mem_map.mp hr
  have hj := List.mem_range.mp hj
  refine ⟨by rw [List.length_map]; exact tl, fun c hc => ?_⟩
  obtain ⟨r', hr', rfl⟩ := List.mem_map.mp hc
  exact ht.cell r' hr' _ (getD_mem (by rw [ht.cols r' hr']; omega))
end
end U
set_option Elab.async false
set_option linter.all false
set_option maxRecDepth 100000
set_option maxHeartbeats 4000000
set_option exponentiation.threshold 500000
namespace U
open PySem PySem.Spec PyProof.Rows L2
section
variable {m n : Nat} {f g : Nat → Nat → Int × Int}
end
end U
set_option Elab.async false
set_option linter.all false
set_option maxRecDepth 100000
set_option maxHeartbeats 4000000
set_option exponentiation.threshold 500000
namespace U
open PySem PySem.Spec PyProof.Rows L2
/-! ### determinants of lists of rows, and numbers of the inverse, as the laws find them -/
section
variable {n z : Nat} {v : Nat → Nat → Rat}
end
end U
set_option Elab.async false
set_option linter.all false
set_option maxRecDepth 100000
set_option maxHeartbeats 4000000
set_option exponentiation.threshold 500000
namespace U
open PySem PySem.Spec PyProof.Rows L2
/-! ### systems of exact cells -/
section
variable {m n i : Nat} {a : Nat → Nat → Int} {g : Nat → Int} {us : List Rat}
/-! the four kinds of solving are one -/
end
end U
set_option Elab.async false
set_option linter.all false
set_option maxRecDepth 100000
set_option maxHeartbeats 4000000
namespace U
open PySem PySem.Spec PyProof.Rows L2
end U
set_option Elab.async false
set_option linter.all false
set_option maxRecDepth 100000
set_option maxHeartbeats 4000000
set_option exponentiation.threshold 500000
namespace U
open PySem PySem.Spec PyProof.Rows L2
/-! ### numbers of the inverses -/
section
variable {t : List (List (Int × Int))} {s : List (Int × Int)} {m n r c i : Nat}
/-! the numbers are those of the inverses of all choices -/
end
end U
set_option Elab.async false
set_option linter.all false
set_option maxRecDepth 100000
set_option maxHeartbeats 4000000
set_option exponentiation.threshold 500000
namespace U
open PySem PySem.Spec PyProof.Rows L2
/-! ### lost unknowns -/
section
variable {t t' : List (List (Int × Int))} {m n : Nat} {us : List Rat}
end
end U
set_option Elab.async false
set_option linter.all false
set_option maxHeartbeats 4000000
/-! ### numbers of the inverses are least and greatest at ends -/
namespace MI
open MA MH
end MI
set_option Elab.async false
set_option linter.all false
set_option maxRecDepth 100000
set_option maxHeartbeats 4000000
namespace U
open PySem PySem.Spec PyProof.Rows L2
end U
set_option Elab.async false
set_option linter.all false
set_option maxRecDepth 100000
set_option maxHeartbeats 1000000
set_option exponentiation.threshold 500000
namespace U
open PySem PySem.Spec PyProof.Rows L2
/-! ### all choices of ends, plainly -/
def ndC (c : Int × Int) : List Rat := (srt [c.1, c.2]).map fun e : Int => (e : Rat)
theorem mem_ndC (c : Int × Int) (x : Rat) : x ∈ ndC c ↔ x = (c.1 : Rat) ∨ x = (c.2 : Rat) := by
  unfold ndC
  rw [List.mem_map]
  constructor
  · rintro ⟨e, he, rfl⟩
    rw [mem_srt] at he
    simp only [List.mem_cons, List.not_mem_nil, or_false] at he
    rcases he with rfl | rfl
    · exact .inl rfl
    · exact .inr rfl
  · rintro (rfl | rfl)
    · exact ⟨c.1, by rw [mem_srt]; simp, rfl⟩
    · exact ⟨c.2, by rw [mem_srt]; simp, rfl⟩
/-! ### the least and the greatest determinant are reached at ends -/
theorem ext_le {lo x hi A B : Rat} (h1 : lo ≤ x) (h2 : x ≤ hi) : ∃ e, (e = lo ∨ e = hi) ∧ e * A + B ≤ x * A + B := by
  by_cases hA : 0 ≤ A
  · have := Rat.mul_nonneg (show 0 ≤ x - lo by grind) hA
    exact ⟨lo, .inl rfl, by grind⟩
  · have := Rat.mul_nonneg (show 0 ≤ hi - x by grind) (show 0 ≤ -A by grind)
    exact ⟨hi, .inr rfl, by grind⟩
def Aff (f : Rat → Rat) : Prop := ∃ A B, ∀ x, f x = x * A + B
theorem Aff.le {f : Rat → Rat} (h : Aff f) {c : Int × Int} {x : Rat} (hx : inC c x) : ∃ e, e ∈ ndC c ∧ f e ≤ f x := by
  obtain ⟨A, B, h⟩ := h
  obtain ⟨e, h1, h2⟩ := ext_le (A := A) (B := B) hx.1 hx.2
  exact ⟨e, (mem_ndC c e).mpr h1, by rw [h, h]; exact h2⟩
end U
set_option Elab.async false
set_option linter.all false
set_option maxRecDepth 100000
set_option maxHeartbeats 1000000
set_option exponentiation.threshold 500000
namespace U
open PySem PySem.Spec PyProof.Rows L2
/-! ### end_choices -/
section
variable {a0 a1 a2 a3 a4 a5 a6 a7 a8 : Cell}
end
end U
set_option Elab.async false
set_option linter.all false
set_option maxRecDepth 100000
set_option maxHeartbeats 1000000
set_option exponentiation.threshold 500000
namespace U
open PySem PySem.Spec PyProof.Rows L2
/-! ### the laws' ends -/
section
variable {a0 a1 a2 a3 a4 a5 a6 a7 : Cell}
end
/-! ### the span of determinants -/
end U
set_option Elab.async false
set_option linter.all false
set_option maxRecDepth 100000
set_option maxHeartbeats 4000000
set_option exponentiation.threshold 500000
namespace U
open PySem PySem.Spec PyProof.Rows L2
/-! ### spans of the numbers of the inverses are told by choices of ends -/
section
variable {t : List (List (Int × Int))} {m n r c : Nat} {v : Nat → Nat → Rat}
end
end U
set_option Elab.async false
set_option linter.all false
set_option maxRecDepth 100000
set_option maxHeartbeats 4000000
namespace U
open PySem PySem.Spec PyProof.Rows L2
def N_x_in_range : List Str := ["value", "low", "high"]
def b_x_in_range : Ss := sRet [] (eAnd (e1 (gIsi .int) (eK 0)) (eAnd (e1 gNot (e1 (gIsi .bool) (eK 0))) (eChain gLe gLe (eK 1) (eK 0) (eK 2))))
def f_x_in_range : List D → Res := runF 3 b_x_in_range
def N_x_common_divisor : List Str := ["one", "other"]
def L1_x_common_divisor : Ss := sPar2 0 1 [1] (eV 1) (e2 gMod (eK 0) (eK 1))
def W1_x_common_divisor : Ss := sWhile [] (eK 1) L1_x_common_divisor
def b_x_common_divisor : Ss := sSeq (sPar2 0 1 [] (eL bAbs [eK 0]) (eL bAbs [eK 1]))
 (sSeq (W1_x_common_divisor)
 (sRetV 0))
def f_x_common_divisor : List D → Res := runF 2 b_x_common_divisor
def N_x_is_part : List Str := ["value", "number"]
def C1_x_is_part : Sm := eComp (iSeq (eV 0)) (.nm 1) [1] (some (eOr (e1 gNot (e1 (gIsi .int) (eK 1))) (e1 (gIsi .bool) (eK 1)))) (eV 1)
def b_x_is_part : Ss := sSeq (sIf [] (eOr (e1 gNot (e1 (gIsi .tuple) (eK 0))) (e2 gNe (eL bLen [eK 0]) (eC (.int 2))))
 (sRet [] (eC (.bool false)))
 (.nx))
 (sSeq (sIf [0, 1] (C1_x_is_part)
 (sRet [] (eC (.bool false)))
 (.nx))
 (sRet [] (eAnd (e2 gGt (e2 gIx (eK 0) (eC (.int 1))) (eC (.int 0))) (e2 gEq (eF f_x_common_divisor [e2 gIx (eK 0) (eC (.int 0)), e2 gIx (eK 0) (eC (.int 1))]) (eC (.int 1))))))
def f_x_is_part : List D → Res := runF 2 b_x_is_part
def N_x_below : List Str := ["one", "other"]
def b_x_below : Ss := sRet [] (e2 gLt (e2 gMul (e2 gIx (eK 0) (eC (.int 0))) (e2 gIx (eK 1) (eC (.int 1)))) (e2 gMul (e2 gIx (eK 1) (eC (.int 0))) (e2 gIx (eK 0) (eC (.int 1)))))
def f_x_below : List D → Res := runF 2 b_x_below
def N_x_is_cell : List Str := ["value", "limit", "number"]
def C1_x_is_cell : Sm := eComp (iSeq (eV 0)) (.nm 2) [2] (some (e1 gNot (eF f_x_in_range [eV 2, e2 gSub (eC (.int 0)) (eK 1), eV 1]))) (eV 2)
def b_x_is_cell : Ss := sSeq (sIf [] (eOr (e1 gNot (e1 (gIsi .tuple) (eK 0))) (e2 gNe (eL bLen [eK 0]) (eC (.int 2))))
 (sRet [] (eC (.bool false)))
 (.nx))
 (sSeq (sIf [0, 2, 1, 2] (C1_x_is_cell)
 (sRet [] (eC (.bool false)))
 (.nx))
 (sRet [] (e2 gLe (e2 gIx (eK 0) (eC (.int 0))) (e2 gIx (eK 0) (eC (.int 1))))))
def f_x_is_cell : List D → Res := runF 3 b_x_is_cell
def N_x_is_table : List Str := ["value", "row", "cell"]
def C1_x_is_table : Sm := eComp (iSeq (eV 1)) (.nm 2) [2] (some (e1 gNot (eF f_x_is_cell [eV 2, eC (.int 20)]))) (eV 2)
def L1_x_is_table : Ss := sSeq (sIf [] (eOr (e1 gNot (e1 (gIsi .tuple) (eK 1))) (eOr (e1 gNot (eChain gLe gLe (eC (.int 1)) (eL bLen [eK 1]) (eC (.int 3)))) (e2 gNe (eL bLen [eK 1]) (eL bLen [e2 gIx (eK 0) (eC (.int 0))]))))
 (sRet [] (eC (.bool false)))
 (.nx))
 (sIf [1, 2, 2] (C1_x_is_table)
 (sRet [] (eC (.bool false)))
 (.nx))
def F1_x_is_table : Ss := sFor (.nm 1) [0] (iSeq (eV 0)) L1_x_is_table
def b_x_is_table : Ss := sSeq (sIf [] (eOr (e1 gNot (e1 (gIsi .tuple) (eK 0))) (e1 gNot (eChain gLe gLe (eC (.int 1)) (eL bLen [eK 0]) (eC (.int 3)))))
 (sRet [] (eC (.bool false)))
 (.nx))
 (sSeq (F1_x_is_table)
 (sRet [] (eC (.bool true))))
def f_x_is_table : List D → Res := runF 3 b_x_is_table
def N_x_is_side : List Str := ["value", "cell"]
def C1_x_is_side : Sm := eComp (iSeq (eV 0)) (.nm 1) [1] (some (e1 gNot (eF f_x_is_cell [eV 1, eC (.int 50)]))) (eV 1)
def b_x_is_side : Ss := sSeq (sIf [] (eOr (e1 gNot (e1 (gIsi .tuple) (eK 0))) (e1 gNot (eChain gLe gLe (eC (.int 1)) (eL bLen [eK 0]) (eC (.int 3)))))
 (sRet [] (eC (.bool false)))
 (.nx))
 (sRet [0, 1, 1] (e1 gNot (C1_x_is_side)))
def f_x_is_side : List D → Res := runF 2 b_x_is_side
def N_x_check_table : List Str := ["table"]
def b_x_check_table : Ss := sIf [0] (e1 gNot (eF f_x_is_table [eV 0]))
 (sRaise 1)
 (.nx)
def f_x_check_table : List D → Res := runF 1 b_x_check_table
def N_x_check_square : List Str := ["table"]
def b_x_check_square : Ss := sSeq (sExpr [0] (eF f_x_check_table [eV 0]))
 (sIf [] (e2 gNe (eL bLen [eK 0]) (eL bLen [e2 gIx (eK 0) (eC (.int 0))]))
 (sRaise 9)
 (.nx))
def f_x_check_square : List D → Res := runF 1 b_x_check_square
def N_x_check_system : List Str := ["table", "side"]
def b_x_check_system : Ss := sSeq (sExpr [0] (eF f_x_check_table [eV 0]))
 (sIf [1] (eOr (e1 gNot (eF f_x_is_side [eV 1])) (e2 gNe (eL bLen [eK 1]) (eL bLen [eK 0])))
 (sRaise 2)
 (.nx))
def f_x_check_system : List D → Res := runF 2 b_x_check_system
def N_x_are_unknowns : List Str := ["table", "value", "one"]
def C1_x_are_unknowns : Sm := eComp (iSeq (eV 1)) (.nm 2) [2] (some (e1 gNot (eF f_x_is_part [eV 2]))) (eV 2)
def b_x_are_unknowns : Ss := sSeq (sIf [] (eOr (e1 gNot (e1 (gIsi .tuple) (eK 1))) (e2 gNe (eL bLen [eK 1]) (eL bLen [e2 gIx (eK 0) (eC (.int 0))])))
 (sRet [] (eC (.bool false)))
 (.nx))
 (sRet [1, 2, 2] (e1 gNot (C1_x_are_unknowns)))
def f_x_are_unknowns : List D → Res := runF 3 b_x_are_unknowns
def N_x_check_unknowns : List Str := ["table", "unknowns"]
def b_x_check_unknowns : Ss := sIf [0, 1] (e1 gNot (eF f_x_are_unknowns [eV 0, eV 1]))
 (sRaise 3)
 (.nx)
def f_x_check_unknowns : List D → Res := runF 2 b_x_check_unknowns
def N_x_check_index : List Str := ["table", "index"]
def b_x_check_index : Ss := sIf [1] (e1 gNot (eF f_x_in_range [eV 1, eC (.int 0), e2 gSub (eL bLen [e2 gIx (eK 0) (eC (.int 0))]) (eC (.int 1))]))
 (sRaise 6)
 (.nx)
def f_x_check_index : List D → Res := runF 2 b_x_check_index
def N_x_lies_in : List Str := ["number", "cell"]
def b_x_lies_in : Ss := sRet [0, 0] (eAnd (e1 gNot (eF f_x_below [eV 0, eTup [e2 gIx (eK 1) (eC (.int 0)), eC (.int 1)]])) (e1 gNot (eF f_x_below [eTup [e2 gIx (eK 1) (eC (.int 1)), eC (.int 1)], eV 0])))
def f_x_lies_in : List D → Res := runF 2 b_x_lies_in
def N_x_is_fit : List Str := ["number", "cell"]
def b_x_is_fit : Ss := sRet [0, 0, 1] (eAnd (eF f_x_is_part [eV 0]) (eF f_x_lies_in [eV 0, eV 1]))
def f_x_is_fit : List D → Res := runF 2 b_x_is_fit
def N_x_is_choice_of : List Str := ["table", "value", "row", "numbers", "cell", "number"]
def C1_x_is_choice_of : Sm := eComp (iZip [eV 2, eV 3]) (.tp [4, 5]) [4, 5] (some (e1 gNot (eF f_x_is_fit [eV 5, eV 4]))) (eC (.int 1))
def L1_x_is_choice_of : Ss := sSeq (sIf [] (eOr (e1 gNot (e1 (gIsi .tuple) (eK 3))) (e2 gNe (eL bLen [eK 3]) (eL bLen [eK 2])))
 (sRet [] (eC (.bool false)))
 (.nx))
 (sIf [2, 3, 5, 4] (C1_x_is_choice_of)
 (sRet [] (eC (.bool false)))
 (.nx))
def F1_x_is_choice_of : Ss := sFor (.tp [2, 3]) [0, 1] (iZip [eV 0, eV 1]) L1_x_is_choice_of
def b_x_is_choice_of : Ss := sSeq (sIf [] (eOr (e1 gNot (e1 (gIsi .tuple) (eK 1))) (e2 gNe (eL bLen [eK 1]) (eL bLen [eK 0])))
 (sRet [] (eC (.bool false)))
 (.nx))
 (sSeq (F1_x_is_choice_of)
 (sRet [] (eC (.bool true))))
def f_x_is_choice_of : List D → Res := runF 6 b_x_is_choice_of
def N_x_is_choice : List Str := ["table", "value"]
def b_x_is_choice : Ss := sSeq (sExpr [0] (eF f_x_check_table [eV 0]))
 (sRet [0, 1] (eF f_x_is_choice_of [eV 0, eV 1]))
def f_x_is_choice : List D → Res := runF 2 b_x_is_choice
def N_x_is_side_choice : List Str := ["side", "value", "cell", "number"]
def C1_x_is_side_choice : Sm := eComp (iZip [eV 0, eV 1]) (.tp [2, 3]) [2, 3] (some (e1 gNot (eF f_x_is_fit [eV 3, eV 2]))) (eC (.int 1))
def b_x_is_side_choice : Ss := sSeq (sIf [0] (e1 gNot (eF f_x_is_side [eV 0]))
 (sRaise 2)
 (.nx))
 (sSeq (sIf [] (eOr (e1 gNot (e1 (gIsi .tuple) (eK 1))) (e2 gNe (eL bLen [eK 1]) (eL bLen [eK 0])))
 (sRet [] (eC (.bool false)))
 (.nx))
 (sRet [0, 1, 3, 2] (e1 gNot (C1_x_is_side_choice))))
def f_x_is_side_choice : List D → Res := runF 4 b_x_is_side_choice
def N_x_check_choice : List Str := ["table", "value"]
def b_x_check_choice : Ss := sIf [0, 1] (e1 gNot (eF f_x_is_choice_of [eV 0, eV 1]))
 (sRaise 4)
 (.nx)
def f_x_check_choice : List D → Res := runF 2 b_x_check_choice
def N_x_check_signs : List Str := ["signs", "count", "sign"]
def C1_x_check_signs : Sm := eComp (iSeq (eV 0)) (.nm 2) [2] (some (eOr (e1 gNot (eF f_x_in_range [eV 2, e1 gNeg (eC (.int 1)), eC (.int 1)])) (e2 gEq (eK 2) (eC (.int 0))))) (eV 2)
def b_x_check_signs : Ss := sSeq (sIf [] (eOr (e1 gNot (e1 (gIsi .tuple) (eK 0))) (e2 gNe (eL bLen [eK 0]) (eK 1)))
 (sRaise 5)
 (.nx))
 (sIf [0, 2, 2] (C1_x_check_signs)
 (sRaise 5)
 (.nx))
def f_x_check_signs : List D → Res := runF 3 b_x_check_signs
def N_x_corner : List Str := ["table", "rows", "columns"]
def b_x_corner : Ss := sSeq (sExpr [0] (eF f_x_check_table [eV 0]))
 (sSeq (sExpr [1] (eF f_x_check_signs [eV 1, eL bLen [eK 0]]))
 (sSeq (sExpr [2] (eF f_x_check_signs [eV 2, eL bLen [e2 gIx (eK 0) (eC (.int 0))]]))
 (sRet [] (eBad))))
def f_x_corner : List D → Res := runF 3 b_x_corner
def N_x_check_all : List Str := ["table", "side", "unknowns"]
def b_x_check_all : Ss := sSeq (sExpr [0, 1] (eF f_x_check_system [eV 0, eV 1]))
 (sExpr [0, 2] (eF f_x_check_unknowns [eV 0, eV 2]))
def f_x_check_all : List D → Res := runF 3 b_x_check_all
def N_x_solves_some : List Str := ["table", "side", "unknowns"]
def b_x_solves_some : Ss := sSeq (sExpr [0, 1, 2] (eF f_x_check_all [eV 0, eV 1, eV 2]))
 (sRet [] (eBad))
def f_x_solves_some : List D → Res := runF 3 b_x_solves_some
def N_x_solves_each_table : List Str := ["table", "side", "unknowns", "row", "cell", "low", "high"]
def L1_x_solves_each_table : Ss := sSeq (sTup [5, 6] [] (eBad))
 (sIf [5, 6] (eOr (eF f_x_below [eV 5, eTup [e2 gIx (eK 4) (eC (.int 0)), eC (.int 1)]]) (eF f_x_below [eTup [e2 gIx (eK 4) (eC (.int 1)), eC (.int 1)], eV 6]))
 (sRet [] (eC (.bool false)))
 (.nx))
def F1_x_solves_each_table : Ss := sFor (.tp [3, 4]) [0, 1] (iZip [eV 0, eV 1]) L1_x_solves_each_table
def b_x_solves_each_table : Ss := sSeq (sExpr [0, 1, 2] (eF f_x_check_all [eV 0, eV 1, eV 2]))
 (sSeq (F1_x_solves_each_table)
 (sRet [] (eC (.bool true))))
def f_x_solves_each_table : List D → Res := runF 7 b_x_solves_each_table
def N_x_solves_each_side : List Str := ["table", "side", "unknowns", "row", "cell", "low", "high"]
def L1_x_solves_each_side : Ss := sSeq (sTup [5, 6] [] (eBad))
 (sIf [5, 6] (eOr (eF f_x_below [eTup [e2 gIx (eK 4) (eC (.int 0)), eC (.int 1)], eV 5]) (eF f_x_below [eV 6, eTup [e2 gIx (eK 4) (eC (.int 1)), eC (.int 1)]]))
 (sRet [] (eC (.bool false)))
 (.nx))
def F1_x_solves_each_side : Ss := sFor (.tp [3, 4]) [0, 1] (iZip [eV 0, eV 1]) L1_x_solves_each_side
def b_x_solves_each_side : Ss := sSeq (sExpr [0, 1, 2] (eF f_x_check_all [eV 0, eV 1, eV 2]))
 (sSeq (F1_x_solves_each_side)
 (sRet [] (eC (.bool true))))
def f_x_solves_each_side : List D → Res := runF 7 b_x_solves_each_side
def N_x_solves_all : List Str := ["table", "side", "unknowns", "row", "cell", "low", "high"]
def L1_x_solves_all : Ss := sSeq (sTup [5, 6] [] (eBad))
 (sIf [] (eOr (e2 gNe (eK 5) (eK 6)) (eOr (e2 gNe (eK 5) (eTup [e2 gIx (eK 4) (eC (.int 0)), eC (.int 1)])) (e2 gNe (e2 gIx (eK 4) (eC (.int 0))) (e2 gIx (eK 4) (eC (.int 1))))))
 (sRet [] (eC (.bool false)))
 (.nx))
def F1_x_solves_all : Ss := sFor (.tp [3, 4]) [0, 1] (iZip [eV 0, eV 1]) L1_x_solves_all
def b_x_solves_all : Ss := sSeq (sExpr [0, 1, 2] (eF f_x_check_all [eV 0, eV 1, eV 2]))
 (sSeq (F1_x_solves_all)
 (sRet [] (eC (.bool true))))
def f_x_solves_all : List D → Res := runF 7 b_x_solves_all
def N_x_choice_for : List Str := ["table", "side", "unknowns"]
def b_x_choice_for : Ss := sSeq (sExpr [0, 1, 2] (eF f_x_check_all [eV 0, eV 1, eV 2]))
 (sSeq (sIf [] (e1 gNot (eBad))
 (sRaise 11)
 (.nx))
 (sRet [] (eBad)))
def f_x_choice_for : List D → Res := runF 3 b_x_choice_for
def N_x_is_full : List Str := ["table"]
def b_x_is_full : Ss := sSeq (sExpr [0] (eF f_x_check_table [eV 0]))
 (sRet [] (e2 gIs (eBad) (eC .none)))
def f_x_is_full : List D → Res := runF 1 b_x_is_full
def N_x_lost_unknowns : List Str := ["table", "unknowns"]
def b_x_lost_unknowns : Ss := sSeq (sExpr [0] (eF f_x_check_table [eV 0]))
 (sSeq (sSet 1 [] (eBad))
 (sSeq (sIf [] (e2 gIs (eK 1) (eC .none))
 (sRaise 11)
 (.nx))
 (sRet [1] (eTup [e2 gIx (eBad) (eC (.int 0)), eV 1]))))
def f_x_lost_unknowns : List D → Res := runF 2 b_x_lost_unknowns
def N_x_check_two : List Str := ["one", "other"]
def b_x_check_two : Ss := sSeq (sExpr [0] (eF f_x_check_table [eV 0]))
 (sSeq (sExpr [1] (eF f_x_check_table [eV 1]))
 (sIf [] (eOr (e2 gNe (eL bLen [eK 0]) (eL bLen [eK 1])) (e2 gNe (eL bLen [e2 gIx (eK 0) (eC (.int 0))]) (eL bLen [e2 gIx (eK 1) (eC (.int 0))])))
 (sRaise 15)
 (.nx)))
def f_x_check_two : List D → Res := runF 2 b_x_check_two
def N_x_plus : List Str := ["one", "other", "rows", "left", "right", "first", "second"]
def C1_x_plus : Sm := eComp (iZip [eV 3, eV 4]) (.tp [5, 6]) [5, 6] none (eTup [e2 gAdd (e2 gIx (eK 5) (eC (.int 0))) (e2 gIx (eK 6) (eC (.int 0))), e2 gAdd (e2 gIx (eK 5) (eC (.int 1))) (e2 gIx (eK 6) (eC (.int 1)))])
def L1_x_plus : Ss := sApp 2 [3, 4] (eL bTuple [C1_x_plus])
def F1_x_plus : Ss := sFor (.tp [3, 4]) [0, 1] (iZip [eV 0, eV 1]) L1_x_plus
def b_x_plus : Ss := sSeq (sExpr [0, 1] (eF f_x_check_two [eV 0, eV 1]))
 (sSeq (sSet 2 [] (eLst []))
 (sSeq (F1_x_plus)
 (sRet [] (eL bTuple [eK 2]))))
def f_x_plus : List D → Res := runF 7 b_x_plus
def N_x_product : List Str := ["one", "other", "rows", "row", "line", "column", "cells", "place", "cell"]
def C1_x_product : Sm := eComp (iEnum (eV 3)) (.tp [7, 8]) [7, 8] none (eBad)
def C2_x_product : Sm := eComp (iSeq (eV 6)) (.nm 8) [8] none (e2 gIx (eK 8) (eC (.int 0)))
def C3_x_product : Sm := eComp (iSeq (eV 6)) (.nm 8) [8] none (e2 gIx (eK 8) (eC (.int 1)))
def L1_x_product : Ss := sSeq (sSet 6 [3] (C1_x_product))
 (sApp 4 [6, 6] (eTup [eL bSum [C2_x_product], eL bSum [C3_x_product]]))
def F1_x_product : Ss := sFor (.nm 5) [] (iR1 (eL bLen [e2 gIx (eK 1) (eC (.int 0))])) L1_x_product
def L2_x_product : Ss := sSeq (sSet 4 [] (eLst []))
 (sSeq (F1_x_product)
 (sApp 2 [] (eL bTuple [eK 4])))
def F2_x_product : Ss := sFor (.nm 3) [0] (iSeq (eV 0)) L2_x_product
def b_x_product : Ss := sSeq (sExpr [0] (eF f_x_check_table [eV 0]))
 (sSeq (sExpr [1] (eF f_x_check_table [eV 1]))
 (sSeq (sIf [] (e2 gNe (eL bLen [e2 gIx (eK 0) (eC (.int 0))]) (eL bLen [eK 1]))
 (sRaise 15)
 (.nx))
 (sSeq (sSet 2 [] (eLst []))
 (sSeq (F2_x_product)
 (sRet [] (eL bTuple [eK 2]))))))
def f_x_product : List D → Res := runF 9 b_x_product
def N_x_widened : List Str := ["table", "amount", "row", "cell"]
def C1_x_widened : Sm := eComp (iSeq (eV 2)) (.nm 3) [3] none (eTup [e2 gSub (e2 gIx (eK 3) (eC (.int 0))) (eK 1), e2 gAdd (e2 gIx (eK 3) (eC (.int 1))) (eK 1)])
def C2_x_widened : Sm := eComp (iSeq (eV 0)) (.nm 2) [2] none (eL bTuple [C1_x_widened])
def b_x_widened : Ss := sSeq (sExpr [0] (eF f_x_check_table [eV 0]))
 (sSeq (sIf [1] (e1 gNot (eF f_x_in_range [eV 1, eC (.int 0), eC (.int 20)]))
 (sRaise 7)
 (.nx))
 (sRet [0, 2] (eL bTuple [C2_x_widened])))
def f_x_widened : List D → Res := runF 4 b_x_widened
def N_x_is_inside : List Str := ["one", "other", "left", "right", "first", "second"]
def C1_x_is_inside : Sm := eComp (iZip [eV 2, eV 3]) (.tp [4, 5]) [4, 5] (some (eOr (e2 gLt (e2 gIx (eK 4) (eC (.int 0))) (e2 gIx (eK 5) (eC (.int 0)))) (e2 gLt (e2 gIx (eK 5) (eC (.int 1))) (e2 gIx (eK 4) (eC (.int 1)))))) (eC (.int 1))
def L1_x_is_inside : Ss := sIf [2, 3] (C1_x_is_inside)
 (sRet [] (eC (.bool false)))
 (.nx)
def F1_x_is_inside : Ss := sFor (.tp [2, 3]) [0, 1] (iZip [eV 0, eV 1]) L1_x_is_inside
def b_x_is_inside : Ss := sSeq (sExpr [0, 1] (eF f_x_check_two [eV 0, eV 1]))
 (sSeq (F1_x_is_inside)
 (sRet [] (eC (.bool true))))
def f_x_is_inside : List D → Res := runF 6 b_x_is_inside
def N_x_overlap : List Str := ["one", "other", "rows", "left", "right", "row", "first", "second", "cell"]
def C1_x_overlap : Sm := eComp (iZip [eV 3, eV 4]) (.tp [6, 7]) [6, 7] none (eTup [eL bMax [e2 gIx (eK 6) (eC (.int 0)), e2 gIx (eK 7) (eC (.int 0))], eL bMin [e2 gIx (eK 6) (eC (.int 1)), e2 gIx (eK 7) (eC (.int 1))]])
def C2_x_overlap : Sm := eComp (iSeq (eV 5)) (.nm 8) [8] (some (e2 gGt (e2 gIx (eK 8) (eC (.int 0))) (e2 gIx (eK 8) (eC (.int 1))))) (eV 8)
def L1_x_overlap : Ss := sSeq (sSet 5 [3, 4] (C1_x_overlap))
 (sSeq (sIf [5, 8] (C2_x_overlap)
 (sRaise 14)
 (.nx))
 (sApp 2 [] (eL bTuple [eK 5])))
def F1_x_overlap : Ss := sFor (.tp [3, 4]) [0, 1] (iZip [eV 0, eV 1]) L1_x_overlap
def b_x_overlap : Ss := sSeq (sExpr [0, 1] (eF f_x_check_two [eV 0, eV 1]))
 (sSeq (sSet 2 [] (eLst []))
 (sSeq (F1_x_overlap)
 (sRet [] (eL bTuple [eK 2]))))
def f_x_overlap : List D → Res := runF 9 b_x_overlap
def N_x_determinant : List Str := ["table", "choice"]
def b_x_determinant : Ss := sSeq (sExpr [0] (eF f_x_check_square [eV 0]))
 (sSeq (sExpr [0, 1] (eF f_x_check_choice [eV 0, eV 1]))
 (sRet [] (eBad)))
def f_x_determinant : List D → Res := runF 2 b_x_determinant
def N_x_determinant_span : List Str := ["table", "values", "low", "high", "value", "choice"]
def C1_x_determinant_span : Sm := eComp (iSeq (eBad)) (.nm 5) [5] none (eBad)
def L1_x_determinant_span : Ss := sSeq (sSet 2 [4, 2, 4, 2] (eIf (eF f_x_below [eV 4, eV 2]) (eV 4) (eV 2)))
 (sSet 3 [3, 4, 4, 3] (eIf (eF f_x_below [eV 3, eV 4]) (eV 4) (eV 3)))
def F1_x_determinant_span : Ss := sFor (.nm 4) [1] (iSeq (eV 1)) L1_x_determinant_span
def b_x_determinant_span : Ss := sSeq (sExpr [0] (eF f_x_check_square [eV 0]))
 (sSeq (sSet 1 [] (C1_x_determinant_span))
 (sSeq (sPar2 2 3 [] (e2 gIx (eK 1) (eC (.int 0))) (e2 gIx (eK 1) (eC (.int 0))))
 (sSeq (F1_x_determinant_span)
 (sRet [2, 3] (eTup [eV 2, eV 3])))))
def f_x_determinant_span : List D → Res := runF 6 b_x_determinant_span
def N_x_each_has_solution : List Str := ["table", "side"]
def b_x_each_has_solution : Ss := sSeq (sExpr [0, 1] (eF f_x_check_system [eV 0, eV 1]))
 (sRet [] (e2 gIs (eBad) (eC .none)))
def f_x_each_has_solution : List D → Res := runF 2 b_x_each_has_solution
def N_x_each_has_upward : List Str := ["table", "side"]
def b_x_each_has_upward : Ss := sSeq (sExpr [0, 1] (eF f_x_check_system [eV 0, eV 1]))
 (sRet [] (e2 gIs (eBad) (eC .none)))
def f_x_each_has_upward : List D → Res := runF 2 b_x_each_has_upward
def N_x_barring_choice : List Str := ["table", "side", "signs", "numbers", "weights", "first", "last", "columns", "column", "low", "high", "rows", "row", "place"]
def C1_x_barring_choice : Sm := eComp (iSeq (eV 5)) (.nm 12) [12] none (e2 gIx (eK 12) (eK 8))
def C2_x_barring_choice : Sm := eComp (iSeq (eV 6)) (.nm 12) [12] none (e2 gIx (eK 12) (eK 8))
def L1_x_barring_choice : Ss := sSeq (sPar2 9 10 [5, 6] (C1_x_barring_choice) (C2_x_barring_choice))
 (sApp 7 [] (eBad))
def F1_x_barring_choice : Ss := sFor (.nm 8) [] (iR1 (eL bLen [e2 gIx (eK 0) (eC (.int 0))])) L1_x_barring_choice
def C3_x_barring_choice : Sm := eComp (iSeq (eV 7)) (.nm 8) [8] none (e2 gIx (eK 8) (eK 13))
def C4_x_barring_choice : Sm := eComp (iR1 (eL bLen [eK 0])) (.nm 13) [13] none (eL bTuple [C3_x_barring_choice])
def b_x_barring_choice : Ss := sSeq (sExpr [0, 1] (eF f_x_check_system [eV 0, eV 1]))
 (sSeq (sSet 2 [] (eBad))
 (sSeq (sIf [] (e2 gIs (eK 2) (eC .none))
 (sRaise 11)
 (.nx))
 (sSeq (sSet 3 [] (eBad))
 (sSeq (sSet 4 [] (eBad))
 (sSeq (sPar2 5 6 [] (eBad) (eBad))
 (sSeq (sSet 7 [] (eLst []))
 (sSeq (F1_x_barring_choice)
 (sSeq (sSet 11 [7] (C4_x_barring_choice))
 (sRet [4] (eTup [eL bTuple [eK 11], eL bTuple [eK 3], eV 4]))))))))))
def f_x_barring_choice : List D → Res := runF 14 b_x_barring_choice
def N_x_barring_upward : List Str := ["table", "side", "signs", "numbers", "rows", "row"]
def C1_x_barring_upward : Sm := eComp (iSeq (eV 4)) (.nm 5) [5] none (eL bTuple [eK 5])
def b_x_barring_upward : Ss := sSeq (sExpr [0, 1] (eF f_x_check_system [eV 0, eV 1]))
 (sSeq (sSet 2 [] (eBad))
 (sSeq (sIf [] (e2 gIs (eK 2) (eC .none))
 (sRaise 11)
 (.nx))
 (sSeq (sSet 3 [] (eBad))
 (sSeq (sSet 4 [] (eBad))
 (sRet [4] (eTup [eL bTuple [C1_x_barring_upward], eL bTuple [eK 3], eBad]))))))
def f_x_barring_upward : List D → Res := runF 6 b_x_barring_upward
def N_x_keeps_some : List Str := ["table", "side", "unknowns", "row", "cell"]
def L1_x_keeps_some : Ss := sIf [] (eF f_x_below [eTup [e2 gIx (eK 4) (eC (.int 1)), eC (.int 1)], e2 gIx (eBad) (eC (.int 0))])
 (sRet [] (eC (.bool false)))
 (.nx)
def F1_x_keeps_some : Ss := sFor (.tp [3, 4]) [0, 1] (iZip [eV 0, eV 1]) L1_x_keeps_some
def b_x_keeps_some : Ss := sSeq (sExpr [0, 1, 2] (eF f_x_check_all [eV 0, eV 1, eV 2]))
 (sSeq (F1_x_keeps_some)
 (sRet [] (eC (.bool true))))
def f_x_keeps_some : List D → Res := runF 5 b_x_keeps_some
def N_x_keeps_all : List Str := ["table", "side", "unknowns", "row", "cell"]
def L1_x_keeps_all : Ss := sIf [] (eF f_x_below [eTup [e2 gIx (eK 4) (eC (.int 0)), eC (.int 1)], e2 gIx (eBad) (eC (.int 1))])
 (sRet [] (eC (.bool false)))
 (.nx)
def F1_x_keeps_all : Ss := sFor (.tp [3, 4]) [0, 1] (iZip [eV 0, eV 1]) L1_x_keeps_all
def b_x_keeps_all : Ss := sSeq (sExpr [0, 1, 2] (eF f_x_check_all [eV 0, eV 1, eV 2]))
 (sSeq (F1_x_keeps_all)
 (sRet [] (eC (.bool true))))
def f_x_keeps_all : List D → Res := runF 5 b_x_keeps_all
def N_x_can_keep : List Str := ["table", "side"]
def b_x_can_keep : Ss := sSeq (sExpr [0, 1] (eF f_x_check_system [eV 0, eV 1]))
 (sRet [] (e2 gIsNot (eBad) (eC .none)))
def f_x_can_keep : List D → Res := runF 2 b_x_can_keep
def N_x_keeping : List Str := ["table", "side", "unknowns"]
def b_x_keeping : Ss := sSeq (sExpr [0, 1] (eF f_x_check_system [eV 0, eV 1]))
 (sSeq (sSet 2 [] (eBad))
 (sSeq (sIf [] (e2 gIs (eK 2) (eC .none))
 (sRaise 13)
 (.nx))
 (sRetV 2)))
def f_x_keeping : List D → Res := runF 3 b_x_keeping
def N_x_can_keep_each : List Str := ["table", "side"]
def b_x_can_keep_each : Ss := sSeq (sExpr [0, 1] (eF f_x_check_system [eV 0, eV 1]))
 (sRet [] (e2 gIsNot (eBad) (eC .none)))
def f_x_can_keep_each : List D → Res := runF 2 b_x_can_keep_each
def N_x_keeping_all : List Str := ["table", "side", "unknowns"]
def b_x_keeping_all : Ss := sSeq (sExpr [0, 1] (eF f_x_check_system [eV 0, eV 1]))
 (sSeq (sSet 2 [] (eBad))
 (sSeq (sIf [] (e2 gIs (eK 2) (eC .none))
 (sRaise 13)
 (.nx))
 (sRetV 2)))
def f_x_keeping_all : List D → Res := runF 3 b_x_keeping_all
def N_x_breaking_choice : List Str := ["table", "side", "right", "weights", "factors", "columns", "column", "low", "high", "one", "other", "share", "rows", "cell", "weight", "row", "first", "last", "place"]
def C1_x_breaking_choice : Sm := eComp (iSeq (eV 1)) (.nm 13) [13] none (eTup [e2 gIx (eK 13) (eC (.int 0)), eC (.int 1)])
def C2_x_breaking_choice : Sm := eComp (iSeq (eV 3)) (.nm 14) [14] none (eTup [eV 14, eC (.int 1)])
def C3_x_breaking_choice : Sm := eComp (iSeq (eV 0)) (.nm 15) [15] none (eTup [e2 gIx (e2 gIx (eK 15) (eK 6)) (eC (.int 0)), eC (.int 1)])
def C4_x_breaking_choice : Sm := eComp (iSeq (eV 0)) (.nm 15) [15] none (eTup [e2 gIx (e2 gIx (eK 15) (eK 6)) (eC (.int 1)), eC (.int 1)])
def C5_x_breaking_choice : Sm := eComp (iZip [eV 7, eV 8]) (.tp [16, 17]) [16, 17] none (eBad)
def L1_x_breaking_choice : Ss := sSeq (sPar2 7 8 [0, 0] (C3_x_breaking_choice) (C4_x_breaking_choice))
 (sSeq (sPar2 9 10 [] (eBad) (eBad))
 (sSeq (sSet 11 [] (eIf (e2 gEq (eK 9) (eK 10)) (eTup [eC (.int 0), eC (.int 1)]) (eBad)))
 (sApp 5 [7, 8] (C5_x_breaking_choice))))
def F1_x_breaking_choice : Ss := sFor (.nm 6) [] (iR1 (eL bLen [e2 gIx (eK 0) (eC (.int 0))])) L1_x_breaking_choice
def C6_x_breaking_choice : Sm := eComp (iSeq (eV 5)) (.nm 6) [6] none (e2 gIx (eK 6) (eK 18))
def C7_x_breaking_choice : Sm := eComp (iR1 (eL bLen [eK 0])) (.nm 18) [18] none (eL bTuple [C6_x_breaking_choice])
def b_x_breaking_choice : Ss := sSeq (sExpr [0, 1] (eF f_x_check_system [eV 0, eV 1]))
 (sSeq (sSet 2 [1] (C1_x_breaking_choice))
 (sSeq (sSet 3 [] (eBad))
 (sSeq (sIf [] (e2 gIs (eK 3) (eC .none))
 (sRaise 11)
 (.nx))
 (sSeq (sSet 4 [3, 14] (C2_x_breaking_choice))
 (sSeq (sSet 5 [] (eLst []))
 (sSeq (F1_x_breaking_choice)
 (sSeq (sSet 12 [5] (C7_x_breaking_choice))
 (sRet [3] (eTup [eL bTuple [eK 12], eL bTuple [eK 2], eV 3])))))))))
def f_x_breaking_choice : List D → Res := runF 19 b_x_breaking_choice
def N_x_is_sure : List Str := ["table"]
def b_x_is_sure : Ss := sSeq (sExpr [0] (eF f_x_check_square [eV 0]))
 (sRet [] (eBad))
def f_x_is_sure : List D → Res := runF 1 b_x_is_sure
def N_x_singular_choice : List Str := ["table", "ends", "choice"]
def b_x_singular_choice : Ss := sSeq (sExpr [0] (eF f_x_check_square [eV 0]))
 (sSeq (sSet 1 [] (eBad))
 (sSeq (sIf [] (e2 gIs (eK 1) (eC .none))
 (sRaise 11)
 (.nx))
 (sSeq (sSet 2 [] (eBad))
 (sRet [2] (eTup [eV 2, eBad])))))
def f_x_singular_choice : List D → Res := runF 3 b_x_singular_choice
def N_x_open_cells : List Str := ["table"]
def b_x_open_cells : Ss := sSeq (sExpr [0] (eF f_x_check_table [eV 0]))
 (sRet [] (eBad))
def f_x_open_cells : List D → Res := runF 1 b_x_open_cells
def N_x_check_told : List Str := ["table", "told", "row", "numbers", "cell", "number"]
def C1_x_check_told : Sm := eComp (iZip [eV 2, eV 3]) (.tp [4, 5]) [4, 5] (some (e1 gNot (eF f_x_in_range [eV 5, e2 gIx (eK 4) (eC (.int 0)), e2 gIx (eK 4) (eC (.int 1))]))) (eC (.int 1))
def L1_x_check_told : Ss := sSeq (sIf [] (eOr (e1 gNot (e1 (gIsi .tuple) (eK 3))) (e2 gNe (eL bLen [eK 3]) (eL bLen [eK 2])))
 (sRaise 4)
 (.nx))
 (sIf [2, 3, 5] (C1_x_check_told)
 (sRaise 4)
 (.nx))
def F1_x_check_told : Ss := sFor (.tp [2, 3]) [0, 1] (iZip [eV 0, eV 1]) L1_x_check_told
def b_x_check_told : Ss := sSeq (sIf [] (eOr (e1 gNot (e1 (gIsi .tuple) (eK 1))) (e2 gNe (eL bLen [eK 1]) (eL bLen [eK 0])))
 (sRaise 4)
 (.nx))
 (F1_x_check_told)
def f_x_check_told : List D → Res := runF 6 b_x_check_told
def N_x_is_place : List Str := ["table", "value"]
def b_x_is_place : Ss := sSeq (sIf [] (eOr (e1 gNot (e1 (gIsi .tuple) (eK 1))) (e2 gNe (eL bLen [eK 1]) (eC (.int 2))))
 (sRet [] (eC (.bool false)))
 (.nx))
 (sRet [] (eAnd (eF f_x_in_range [e2 gIx (eK 1) (eC (.int 0)), eC (.int 0), e2 gSub (eL bLen [eK 0]) (eC (.int 1))]) (eF f_x_in_range [e2 gIx (eK 1) (eC (.int 1)), eC (.int 0), e2 gSub (eL bLen [e2 gIx (eK 0) (eC (.int 0))]) (eC (.int 1))])))
def f_x_is_place : List D → Res := runF 2 b_x_is_place
def N_x_check_cells : List Str := ["table", "cells", "cell"]
def C1_x_check_cells : Sm := eComp (iSeq (eV 1)) (.nm 2) [2] (some (e1 gNot (eF f_x_is_place [eV 0, eV 2]))) (eV 2)
def b_x_check_cells : Ss := sSeq (sIf [1, 0, 2, 2] (eOr (e1 gNot (e1 (gIsi .tuple) (eK 1))) (C1_x_check_cells))
 (sRaise 8)
 (.nx))
 (sIf [] (e2 gNe (eL bList [eK 1]) (eSrp (eK 1)))
 (sRaise 8)
 (.nx))
def f_x_check_cells : List D → Res := runF 3 b_x_check_cells
def N_x_fixed : List Str := ["table", "told", "cells"]
def b_x_fixed : Ss := sSeq (sExpr [0] (eF f_x_check_table [eV 0]))
 (sSeq (sExpr [0, 1] (eF f_x_check_told [eV 0, eV 1]))
 (sSeq (sExpr [0, 2] (eF f_x_check_cells [eV 0, eV 2]))
 (sRet [] (eBad))))
def f_x_fixed : List D → Res := runF 3 b_x_fixed
def N_x_fewest_fixed : List Str := ["table", "told", "places", "size", "cells"]
def L1_x_fewest_fixed : Ss := sIf [] (eBad)
 (sRetV 4)
 (.nx)
def F1_x_fewest_fixed : Ss := sFor (.nm 4) [] (iSeq (eBad)) L1_x_fewest_fixed
def L2_x_fewest_fixed : Ss := F1_x_fewest_fixed
def F2_x_fewest_fixed : Ss := sFor (.nm 3) [] (iR1 (e2 gAdd (eL bLen [eK 2]) (eC (.int 1)))) L2_x_fewest_fixed
def b_x_fewest_fixed : Ss := sSeq (sExpr [0] (eF f_x_check_square [eV 0]))
 (sSeq (sExpr [0, 1] (eF f_x_check_told [eV 0, eV 1]))
 (sSeq (sSet 2 [] (eBad))
 (sSeq (sIf [] (e2 gGt (eL bLen [eK 2]) (eC (.int 6)))
 (sRaise 16)
 (.nx))
 (sSeq (F2_x_fewest_fixed)
 (sRet [] (eC .none))))))
def f_x_fewest_fixed : List D → Res := runF 5 b_x_fewest_fixed
def N_x_end_choices_of : List Str := ["table"]
def b_x_end_choices_of : Ss := sSeq (sExpr [0] (eF f_x_check_table [eV 0]))
 (sSeq (sIf [] (e2 gGt (eL bLen [eBad]) (eC (.int 8)))
 (sRaise 16)
 (.nx))
 (sRet [] (eSrtL (eBad))))
def f_x_end_choices_of : List D → Res := runF 1 b_x_end_choices_of
def N_x_naive_sure : List Str := ["table", "values", "choice"]
def C1_x_naive_sure : Sm := eComp (iSeq (eBad)) (.nm 2) [2] none (e2 gIx (eBad) (eC (.int 0)))
def b_x_naive_sure : Ss := sSeq (sExpr [0] (eF f_x_check_square [eV 0]))
 (sSeq (sIf [] (e2 gGt (eL bLen [eBad]) (eC (.int 8)))
 (sRaise 16)
 (.nx))
 (sSeq (sSet 1 [] (C1_x_naive_sure))
 (sRet [] (eOr (e2 gGt (eL bMin [eK 1]) (eC (.int 0))) (e2 gLt (eL bMax [eK 1]) (eC (.int 0)))))))
def f_x_naive_sure : List D → Res := runF 3 b_x_naive_sure
def N_x_whole_solutions : List Str := ["table", "side", "most", "found", "column", "longer", "unknowns", "number"]
def C1_x_whole_solutions : Sm := eComp (iR2 (e2 gSub (eC (.int 0)) (eK 2)) (e2 gAdd (eK 2) (eC (.int 1)))) (.nm 7) [7] none (e2 gAdd (eK 6) (eTup [eTup [eV 7, eC (.int 1)]]))
def L1_x_whole_solutions : Ss := sExt 5 [7] (C1_x_whole_solutions)
def F1_x_whole_solutions : Ss := sFor (.nm 6) [3] (iSeq (eV 3)) L1_x_whole_solutions
def L2_x_whole_solutions : Ss := sSeq (sSet 5 [] (eLst []))
 (sSeq (F1_x_whole_solutions)
 (sSet 3 [5] (eV 5)))
def F2_x_whole_solutions : Ss := sFor (.nm 4) [] (iR1 (eL bLen [e2 gIx (eK 0) (eC (.int 0))])) L2_x_whole_solutions
def C2_x_whole_solutions : Sm := eComp (iSeq (eV 3)) (.nm 6) [6] (some (eBad)) (eV 6)
def b_x_whole_solutions : Ss := sSeq (sExpr [0, 1] (eF f_x_check_system [eV 0, eV 1]))
 (sSeq (sIf [2] (e1 gNot (eF f_x_in_range [eV 2, eC (.int 0), eC (.int 3)]))
 (sRaise 7)
 (.nx))
 (sSeq (sSet 3 [] (eLst [eTup []]))
 (sSeq (F2_x_whole_solutions)
 (sRet [3, 6] (C2_x_whole_solutions)))))
def f_x_whole_solutions : List D → Res := runF 8 b_x_whole_solutions
def N_x_can_solve : List Str := ["table", "side"]
def b_x_can_solve : Ss := sSeq (sExpr [0, 1] (eF f_x_check_system [eV 0, eV 1]))
 (sRet [] (e2 gIsNot (eBad) (eC .none)))
def f_x_can_solve : List D → Res := runF 2 b_x_can_solve
def N_x_a_solution : List Str := ["table", "side", "unknowns"]
def b_x_a_solution : Ss := sSeq (sExpr [0, 1] (eF f_x_check_system [eV 0, eV 1]))
 (sSeq (sSet 2 [] (eBad))
 (sSeq (sIf [] (e2 gIs (eK 2) (eC .none))
 (sRaise 13)
 (.nx))
 (sRet [2] (e2 gAdd (eTup [eV 2]) (eBad)))))
def f_x_a_solution : List D → Res := runF 3 b_x_a_solution
def N_x_papers : List Str := ["table", "side", "found", "signs", "rows", "right", "sides", "weights"]
def L1_x_papers : Ss := sSeq (sTup [4, 5, 6] [] (eBad))
 (sSeq (sSet 7 [] (eBad))
 (sSeq (sIf [] (e2 gIs (eK 7) (eC .none))
 (sRaise 12)
 (.nx))
 (sApp 2 [7] (eV 7))))
def F1_x_papers : Ss := sFor (.nm 3) [] (iSeq (eBad)) L1_x_papers
def b_x_papers : Ss := sSeq (sExpr [0, 1] (eF f_x_check_system [eV 0, eV 1]))
 (sSeq (sSet 2 [] (eLst []))
 (sSeq (F1_x_papers)
 (sRet [] (eL bTuple [eK 2]))))
def f_x_papers : List D → Res := runF 8 b_x_papers
def N_x_are_papers : List Str := ["table", "side", "value", "orthants", "signs", "weights", "rows", "right", "sides"]
def L1_x_are_papers : Ss := sSeq (sTup [6, 7, 8] [] (eBad))
 (sIf [] (eOr (e1 gNot (eBad)) (e1 gNot (eBad)))
 (sRet [] (eC (.bool false)))
 (.nx))
def F1_x_are_papers : Ss := sFor (.tp [4, 5]) [3, 2] (iZip [eV 3, eV 2]) L1_x_are_papers
def b_x_are_papers : Ss := sSeq (sExpr [0, 1] (eF f_x_check_system [eV 0, eV 1]))
 (sSeq (sSet 3 [] (eBad))
 (sSeq (sIf [] (eOr (e1 gNot (e1 (gIsi .tuple) (eK 2))) (e2 gNe (eL bLen [eK 2]) (eL bLen [eK 3])))
 (sRet [] (eC (.bool false)))
 (.nx))
 (sSeq (F1_x_are_papers)
 (sRet [] (eC (.bool true))))))
def f_x_are_papers : List D → Res := runF 9 b_x_are_papers
def N_x_unknown_span : List Str := ["table", "side", "index", "found"]
def b_x_unknown_span : Ss := sSeq (sExpr [0, 1] (eF f_x_check_system [eV 0, eV 1]))
 (sSeq (sExpr [0, 2] (eF f_x_check_index [eV 0, eV 2]))
 (sSeq (sSet 3 [] (eBad))
 (sSeq (sIf [] (e2 gIs (eK 3) (eC .none))
 (sRaise 13)
 (.nx))
 (sRetV 3))))
def f_x_unknown_span : List D → Res := runF 4 b_x_unknown_span
def N_x_reaching : List Str := ["table", "side", "index", "goal", "found"]
def b_x_reaching : Ss := sSeq (sExpr [0, 1] (eF f_x_check_system [eV 0, eV 1]))
 (sSeq (sExpr [0, 2] (eF f_x_check_index [eV 0, eV 2]))
 (sSeq (sIf [3] (eOr (e1 gNot (eF f_x_in_range [eV 3, e1 gNeg (eC (.int 1)), eC (.int 1)])) (e2 gEq (eK 3) (eC (.int 0))))
 (sRaise 7)
 (.nx))
 (sSeq (sSet 4 [] (eBad))
 (sSeq (sIf [] (e2 gEq (eK 4) (eC (.str "none")))
 (sRaise 13)
 (.nx))
 (sSeq (sIf [] (e2 gIs (eK 4) (eC .none))
 (sRaise 11)
 (.nx))
 (sRetV 4))))))
def f_x_reaching : List D → Res := runF 5 b_x_reaching
def N_x_sure_signs : List Str := ["table", "side", "signs", "index", "found"]
def L1_x_sure_signs : Ss := sSeq (sSet 4 [] (eBad))
 (sSeq (sIf [] (e2 gIs (eK 4) (eC .none))
 (sRaise 13)
 (.nx))
 (sAug 2 [] (eBad)))
def F1_x_sure_signs : Ss := sFor (.nm 3) [] (iR1 (eL bLen [e2 gIx (eK 0) (eC (.int 0))])) L1_x_sure_signs
def b_x_sure_signs : Ss := sSeq (sExpr [0, 1] (eF f_x_check_system [eV 0, eV 1]))
 (sSeq (sSet 2 [] (eC (.str "")))
 (sSeq (F1_x_sure_signs)
 (sRetV 2)))
def f_x_sure_signs : List D → Res := runF 5 b_x_sure_signs
def N_x_inverse_span : List Str := ["table", "row", "column", "index", "side", "place"]
def L1_x_inverse_span : Ss := sIf [3] (e1 gNot (eF f_x_in_range [eV 3, eC (.int 0), e2 gSub (eL bLen [eK 0]) (eC (.int 1))]))
 (sRaise 6)
 (.nx)
def F1_x_inverse_span : Ss := sFor (.nm 3) [1, 2] (iSeq (eTup [eV 1, eV 2])) L1_x_inverse_span
def C1_x_inverse_span : Sm := eComp (iR1 (eL bLen [eK 0])) (.nm 5) [5] none (eTup [eL bInt [e2 gEq (eK 5) (eK 2)], eL bInt [e2 gEq (eK 5) (eK 2)]])
def b_x_inverse_span : Ss := sSeq (sExpr [0] (eF f_x_check_square [eV 0]))
 (sSeq (F1_x_inverse_span)
 (sSeq (sIf [] (e1 gNot (eBad))
 (sRaise 10)
 (.nx))
 (sSeq (sSet 4 [] (eL bTuple [C1_x_inverse_span]))
 (sRet [] (eBad)))))
def f_x_inverse_span : List D → Res := runF 6 b_x_inverse_span
def N_x_format_table : List Str := ["table"]
def b_x_format_table : Ss := sSeq (sExpr [0] (eF f_x_check_table [eV 0]))
 (sRet [] (eBad))
def f_x_format_table : List D → Res := runF 1 b_x_format_table
def N_x_format_side : List Str := ["side"]
def b_x_format_side : Ss := sSeq (sIf [0] (e1 gNot (eF f_x_is_side [eV 0]))
 (sRaise 2)
 (.nx))
 (sRet [] (eBad))
def f_x_format_side : List D → Res := runF 1 b_x_format_side
def N_x_number_of : List Str := ["word", "digits", "sign"]
def C1_x_number_of : Sm := eComp (iSeq (eV 1)) (.nm 2) [2] (some (e2 gNotIn (eK 2) (eC (.str "0123456789")))) (eV 2)
def b_x_number_of : Ss := sSeq (sSet 1 [0] (eIf (e2 gEq (eSl (eK 0) none (some (eC (.int 1)))) (eC (.str "-"))) (eSl (eK 0) (some (eC (.int 1))) none) (eV 0)))
 (sSeq (sIf [1, 2] (eOr (e1 gNot (eK 1)) (eOr (e2 gGt (eL bLen [eK 0]) (eC (.int 3))) (C1_x_number_of)))
 (sRet [] (eC .none))
 (.nx))
 (sRet [] (eL bInt [eK 0])))
def f_x_number_of : List D → Res := runF 3 b_x_number_of
def N_x_cell_of : List Str := ["word", "numbers", "piece"]
def C1_x_cell_of : Sm := eComp (iSeq (eSpl (eK 0) (eC (.str "..")))) (.nm 2) [2] none (eF f_x_number_of [eV 2])
def b_x_cell_of : Ss := sSeq (sSet 1 [2] (C1_x_cell_of))
 (sSeq (sIf [] (eOr (e2 gGt (eL bLen [eK 1]) (eC (.int 2))) (e2 gIn (eC .none) (eK 1)))
 (sRet [] (eC .none))
 (.nx))
 (sRet [] (eTup [e2 gIx (eK 1) (eC (.int 0)), e2 gIx (eK 1) (e1 gNeg (eC (.int 1)))])))
def f_x_cell_of : List D → Res := runF 3 b_x_cell_of
def N_x_row_of : List Str := ["text", "cells", "word"]
def C1_x_row_of : Sm := eComp (iSeq (eSpl (eK 0) (eC (.str " ")))) (.nm 2) [2] none (eF f_x_cell_of [eV 2])
def b_x_row_of : Ss := sSeq (sSet 1 [2] (C1_x_row_of))
 (sRet [] (eIf (e2 gIn (eC .none) (eK 1)) (eC .none) (eL bTuple [eK 1])))
def f_x_row_of : List D → Res := runF 3 b_x_row_of
def N_x_parse_table : List Str := ["text", "rows", "line"]
def C1_x_parse_table : Sm := eComp (iSeq (eSpl (eK 0) (eC (.str "; ")))) (.nm 2) [2] none (eF f_x_row_of [eV 2])
def b_x_parse_table : Ss := sSeq (sSet 1 [2] (eIf (eAnd (e1 (gIsi .str) (eK 0)) (e2 gLt (eL bLen [eK 0]) (eC (.int 200)))) (C1_x_parse_table) (eLst [eC .none])))
 (sSeq (sIf [] (eOr (e2 gIn (eC .none) (eK 1)) (eOr (e1 gNot (eF f_x_is_table [eL bTuple [eK 1]])) (e2 gNe (eBad) (eK 0))))
 (sRaise 18)
 (.nx))
 (sRet [] (eL bTuple [eK 1])))
def f_x_parse_table : List D → Res := runF 3 b_x_parse_table
def N_x_parse_side : List Str := ["text", "side"]
def b_x_parse_side : Ss := sSeq (sSet 1 [0] (eIf (eAnd (e1 (gIsi .str) (eK 0)) (e2 gLt (eL bLen [eK 0]) (eC (.int 200)))) (eF f_x_row_of [eV 0]) (eC .none)))
 (sSeq (sIf [1] (eOr (e2 gIs (eK 1) (eC .none)) (eOr (e1 gNot (eF f_x_is_side [eV 1])) (e2 gNe (eBad) (eK 0))))
 (sRaise 18)
 (.nx))
 (sRetV 1))
def f_x_parse_side : List D → Res := runF 2 b_x_parse_side
def N_x_can_solve_upward : List Str := ["table", "side"]
def b_x_can_solve_upward : Ss := sSeq (sExpr [0, 1] (eF f_x_check_system [eV 0, eV 1]))
 (sRet [] (e2 gIsNot (eBad) (eC .none)))
def f_x_can_solve_upward : List D → Res := runF 2 b_x_can_solve_upward
def N_x_an_upward_solution : List Str := ["table", "side", "unknowns"]
def b_x_an_upward_solution : Ss := sSeq (sExpr [0, 1] (eF f_x_check_system [eV 0, eV 1]))
 (sSeq (sSet 2 [] (eBad))
 (sSeq (sIf [] (e2 gIs (eK 2) (eC .none))
 (sRaise 13)
 (.nx))
 (sRet [] (e2 gAdd (eTup [eL bTuple [eK 2]]) (eBad)))))
def f_x_an_upward_solution : List D → Res := runF 3 b_x_an_upward_solution
def N_x_upward_paper : List Str := ["table", "side", "rows", "right", "signs", "weights"]
def b_x_upward_paper : Ss := sSeq (sExpr [0, 1] (eF f_x_check_system [eV 0, eV 1]))
 (sSeq (sTup [2, 3, 4] [] (eBad))
 (sSeq (sSet 5 [] (eBad))
 (sSeq (sIf [] (e2 gIs (eK 5) (eC .none))
 (sRaise 12)
 (.nx))
 (sRetV 5))))
def f_x_upward_paper : List D → Res := runF 6 b_x_upward_paper
def N_x_is_upward_paper : List Str := ["table", "side", "value", "rows", "right", "signs"]
def b_x_is_upward_paper : Ss := sSeq (sExpr [0, 1] (eF f_x_check_system [eV 0, eV 1]))
 (sSeq (sTup [3, 4, 5] [] (eBad))
 (sRet [] (eAnd (eBad) (eBad))))
def f_x_is_upward_paper : List D → Res := runF 6 b_x_is_upward_paper
def N_x_check_both : List Str := ["table", "side", "other_table", "other_side"]
def b_x_check_both : Ss := sSeq (sExpr [0, 1] (eF f_x_check_system [eV 0, eV 1]))
 (sSeq (sExpr [2, 3] (eF f_x_check_system [eV 2, eV 3]))
 (sIf [] (e2 gNe (eL bLen [e2 gIx (eK 0) (eC (.int 0))]) (eL bLen [e2 gIx (eK 2) (eC (.int 0))]))
 (sRaise 15)
 (.nx)))
def f_x_check_both : List D → Res := runF 4 b_x_check_both
def N_x_are_within : List Str := ["table", "side", "other_table", "other_side"]
def b_x_are_within : Ss := sSeq (sExpr [0, 1, 2, 3] (eF f_x_check_both [eV 0, eV 1, eV 2, eV 3]))
 (sRet [] (e2 gIs (eBad) (eC .none)))
def f_x_are_within : List D → Res := runF 4 b_x_are_within
def N_x_outside : List Str := ["table", "side", "other_table", "other_side", "unknowns"]
def b_x_outside : Ss := sSeq (sExpr [0, 1, 2, 3] (eF f_x_check_both [eV 0, eV 1, eV 2, eV 3]))
 (sSeq (sSet 4 [] (eBad))
 (sSeq (sIf [] (e2 gIs (eK 4) (eC .none))
 (sRaise 11)
 (.nx))
 (sRetV 4)))
def f_x_outside : List D → Res := runF 5 b_x_outside
def fvT : List (Str × Nat × (List D → Res)) := ([("is_choice", 2, f_x_is_choice), ("is_side_choice", 2, f_x_is_side_choice), ("corner", 3, f_x_corner), ("determinant", 2, f_x_determinant), ("determinant_span", 1, f_x_determinant_span), ("is_sure", 1, f_x_is_sure), ("singular_choice", 1, f_x_singular_choice), ("is_full", 1, f_x_is_full), ("lost_unknowns", 1, f_x_lost_unknowns), ("solves_some", 3, f_x_solves_some), ("solves_each_table", 3, f_x_solves_each_table), ("solves_each_side", 3, f_x_solves_each_side)] : List (Str × Nat × (List D → Res))) ++ ([("solves_all", 3, f_x_solves_all), ("choice_for", 3, f_x_choice_for), ("can_solve", 2, f_x_can_solve), ("a_solution", 2, f_x_a_solution), ("papers", 2, f_x_papers), ("are_papers", 3, f_x_are_papers), ("each_has_solution", 2, f_x_each_has_solution), ("barring_choice", 2, f_x_barring_choice), ("each_has_upward", 2, f_x_each_has_upward), ("barring_upward", 2, f_x_barring_upward), ("can_solve_upward", 2, f_x_can_solve_upward), ("an_upward_solution", 2, f_x_an_upward_solution)] : List (Str × Nat × (List D → Res))) ++ ([("upward_paper", 2, f_x_upward_paper), ("is_upward_paper", 3, f_x_is_upward_paper), ("keeps_some", 3, f_x_keeps_some), ("keeps_all", 3, f_x_keeps_all), ("can_keep", 2, f_x_can_keep), ("keeping", 2, f_x_keeping), ("can_keep_each", 2, f_x_can_keep_each), ("keeping_all", 2, f_x_keeping_all), ("breaking_choice", 2, f_x_breaking_choice), ("unknown_span", 3, f_x_unknown_span), ("reaching", 4, f_x_reaching), ("sure_signs", 2, f_x_sure_signs)] : List (Str × Nat × (List D → Res))) ++ ([("inverse_span", 3, f_x_inverse_span), ("are_within", 4, f_x_are_within), ("outside", 4, f_x_outside), ("plus", 2, f_x_plus), ("product", 2, f_x_product), ("widened", 2, f_x_widened), ("is_inside", 2, f_x_is_inside), ("overlap", 2, f_x_overlap), ("open_cells", 1, f_x_open_cells), ("fixed", 3, f_x_fixed), ("fewest_fixed", 2, f_x_fewest_fixed), ("format_table", 1, f_x_format_table)] : List (Str × Nat × (List D → Res))) ++ ([("format_side", 1, f_x_format_side), ("parse_table", 1, f_x_parse_table), ("parse_side", 1, f_x_parse_side), ("end_choices_of", 1, f_x_end_choices_of), ("naive_sure", 1, f_x_naive_sure), ("whole_solutions", 3, f_x_whole_solutions)] : List (Str × Nat × (List D → Res)))
def N_x_law_door_call : List Str := ["work", "one", "many"]
def b_x_law_door_call : Ss := sSeq (sIf [] (e2 gEq (eK 2) (eC (.int 1)))
 (sRet [1] (eCV fvT 0 [eV 1]))
 (.nx))
 (sSeq (sIf [] (e2 gEq (eK 2) (eC (.int 2)))
 (sRet [1, 1] (eCV fvT 0 [eV 1, eV 1]))
 (.nx))
 (sSeq (sIf [] (e2 gEq (eK 2) (eC (.int 3)))
 (sRet [1, 1, 1] (eCV fvT 0 [eV 1, eV 1, eV 1]))
 (.nx))
 (sRet [1, 1, 1, 1] (eCV fvT 0 [eV 1, eV 1, eV 1, eV 1]))))
def f_x_law_door_call : List D → Res := runF 3 b_x_law_door_call
def N_x_law_door_index : List Str := ["work", "one", "many", "e", "found"]
def b_x_law_door_index : Ss := sSeq (sTryI sub0 [0, 1, 2, 3, 4, 5, 6, 7, 8, 9, 10, 11, 12, 13, 14, 15, 16, 18] (sExpr [0, 1, 2] (eF f_x_law_door_call [eV 0, eV 1, eV 2])) 0 3 4 [(xIs sub0 1), (xIs sub0 2), (xIs sub0 18), (xC (.bl true))])
 (sRet [] (eC .none))
def f_x_law_door_index : List D → Res := runF 5 b_x_law_door_index
def N_x_law_doors_a : List Str := ["found"]
def b_x_law_doors_a : Ss := sSeq (sSet 0 [] (eLst [eTup [eC (tokD 0), eC (.int 2), eC (.int 0)], eTup [eC (tokD 1), eC (.int 2), eC (.int 1)], eTup [eC (tokD 2), eC (.int 3), eC (.int 0)], eTup [eC (tokD 3), eC (.int 2), eC (.int 0)]]))
 (sSeq (sSet 0 [] (e2 gAdd (eK 0) (eLst [eTup [eC (tokD 4), eC (.int 1), eC (.int 0)], eTup [eC (tokD 5), eC (.int 1), eC (.int 0)], eTup [eC (tokD 6), eC (.int 1), eC (.int 0)], eTup [eC (tokD 7), eC (.int 1), eC (.int 0)]])))
 (sSeq (sSet 0 [] (e2 gAdd (eK 0) (eLst [eTup [eC (tokD 8), eC (.int 1), eC (.int 0)], eTup [eC (tokD 9), eC (.int 3), eC (.int 0)], eTup [eC (tokD 10), eC (.int 3), eC (.int 0)]])))
 (sSeq (sSet 0 [] (e2 gAdd (eK 0) (eLst [eTup [eC (tokD 11), eC (.int 3), eC (.int 0)], eTup [eC (tokD 12), eC (.int 3), eC (.int 0)], eTup [eC (tokD 13), eC (.int 3), eC (.int 0)], eTup [eC (tokD 14), eC (.int 2), eC (.int 0)]])))
 (sSeq (sSet 0 [] (e2 gAdd (eK 0) (eLst [eTup [eC (tokD 15), eC (.int 2), eC (.int 0)], eTup [eC (tokD 16), eC (.int 2), eC (.int 0)], eTup [eC (tokD 17), eC (.int 3), eC (.int 0)], eTup [eC (tokD 18), eC (.int 2), eC (.int 0)]])))
 (sSeq (sSet 0 [] (e2 gAdd (eK 0) (eLst [eTup [eC (tokD 19), eC (.int 2), eC (.int 0)], eTup [eC (tokD 20), eC (.int 2), eC (.int 0)], eTup [eC (tokD 21), eC (.int 2), eC (.int 0)]])))
 (sSeq (sSet 0 [] (e2 gAdd (eK 0) (eLst [eTup [eC (tokD 22), eC (.int 2), eC (.int 0)], eTup [eC (tokD 23), eC (.int 2), eC (.int 0)]])))
 (sRetV 0)))))))
def f_x_law_doors_a : List D → Res := runF 1 b_x_law_doors_a
def N_x_law_doors_b : List Str := ["found"]
def b_x_law_doors_b : Ss := sSeq (sSet 0 [] (eLst [eTup [eC (tokD 24), eC (.int 2), eC (.int 0)], eTup [eC (tokD 25), eC (.int 3), eC (.int 0)], eTup [eC (tokD 26), eC (.int 3), eC (.int 0)], eTup [eC (tokD 27), eC (.int 3), eC (.int 0)]]))
 (sSeq (sSet 0 [] (e2 gAdd (eK 0) (eLst [eTup [eC (tokD 28), eC (.int 2), eC (.int 0)], eTup [eC (tokD 29), eC (.int 2), eC (.int 0)], eTup [eC (tokD 30), eC (.int 2), eC (.int 0)], eTup [eC (tokD 31), eC (.int 2), eC (.int 0)]])))
 (sSeq (sSet 0 [] (e2 gAdd (eK 0) (eLst [eTup [eC (tokD 32), eC (.int 2), eC (.int 0)], eTup [eC (tokD 33), eC (.int 3), eC (.int 0)], eTup [eC (tokD 34), eC (.int 4), eC (.int 0)], eTup [eC (tokD 35), eC (.int 2), eC (.int 0)]])))
 (sSeq (sSet 0 [] (e2 gAdd (eK 0) (eLst [eTup [eC (tokD 36), eC (.int 3), eC (.int 0)], eTup [eC (tokD 37), eC (.int 4), eC (.int 0)], eTup [eC (tokD 38), eC (.int 4), eC (.int 0)], eTup [eC (tokD 39), eC (.int 2), eC (.int 0)], eTup [eC (tokD 40), eC (.int 2), eC (.int 0)]])))
 (sSeq (sSet 0 [] (e2 gAdd (eK 0) (eLst [eTup [eC (tokD 41), eC (.int 2), eC (.int 0)], eTup [eC (tokD 42), eC (.int 2), eC (.int 0)], eTup [eC (tokD 43), eC (.int 2), eC (.int 0)], eTup [eC (tokD 44), eC (.int 1), eC (.int 0)], eTup [eC (tokD 45), eC (.int 3), eC (.int 0)]])))
 (sSeq (sSet 0 [] (e2 gAdd (eK 0) (eLst [eTup [eC (tokD 46), eC (.int 2), eC (.int 0)], eTup [eC (tokD 47), eC (.int 1), eC (.int 0)]])))
 (sRetV 0))))))
def f_x_law_doors_b : List D → Res := runF 1 b_x_law_doors_b
def N_x_law_doors_c : List Str := ["found"]
def b_x_law_doors_c : Ss := sSeq (sSet 0 [] (eLst [eTup [eC (tokD 48), eC (.int 1), eC (.int 1)], eTup [eC (tokD 49), eC (.int 1), eC (.int 2)], eTup [eC (tokD 50), eC (.int 1), eC (.int 2)], eTup [eC (tokD 51), eC (.int 1), eC (.int 0)]]))
 (sSeq (sSet 0 [] (e2 gAdd (eK 0) (eLst [eTup [eC (tokD 52), eC (.int 1), eC (.int 0)], eTup [eC (tokD 53), eC (.int 3), eC (.int 0)]])))
 (sRetV 0))
def f_x_law_doors_c : List D → Res := runF 1 b_x_law_doors_c
def N_law : List Str := ["script", "draws", "odd", "rows", "work", "many", "place"]
def L1_law : Ss := sIf [4, 5] (e2 gNe (eF f_x_law_door_index [eV 4, e2 gIx (eK 2) (e2 gMod (e2 gIx (eK 1) (eC (.int 0))) (eL bLen [eK 2])), eV 5]) (eK 6))
 (sRet [] (eC (.bool false)))
 (.nx)
def F1_law : Ss := sFor (.tp [4, 5, 6]) [3] (iSeq (eV 3)) L1_law
def R4_law : Ss := sRet [] (eC (.bool true))
def R3_law : Ss := sSeq (F1_law)
 (R4_law)
def R2_law : Ss := sSeq (sSet 3 [] (e2 gAdd (e2 gAdd (eF0 f_x_law_doors_a) (eF0 f_x_law_doors_b)) (eF0 f_x_law_doors_c)))
 (R3_law)
def R1_law : Ss := sSeq (sSet 2 [] (eLst [eC .none, e1 gNeg (eC (.int 7)), eLst [eC (.str "a")], eC (.str "x"), eTup [eC .none], eC (.bool true), eTup [eTup [eTup [eC (.int 2), eC (.int 1)]]], eTup [eTup [eC (.int 1), eC (.int 2), eC (.int 3)]]]))
 (R2_law)
def b_law : Ss := sSeq (sSet 1 [0] (eF f_law_row [eV 0, eC (.int 4)]))
 (R1_law)
def f_law : List D → Res := runF 7 b_law
theorem r_law (x0 : D) : f_law [x0] = fin (b_law [.fr x0, .un, .un, .un, .un, .un, .un]) := runF_eq rfl
end U
set_option Elab.async false
set_option linter.all false
set_option maxRecDepth 100000
set_option maxHeartbeats 4000000
namespace U
open PySem PySem.Spec PyProof.Rows L2
def odds : List D := [.none, .int (-7), .list [.str "a"], .str "x", .tuple [.none], .bool true, .tuple [.tuple [.tuple [.int 2, .int 1]]], .tuple [.tuple [.int 1, .int 2, .int 3]]]
def rA : List (Nat × Int × Int) := [(0, 2, 0), (1, 2, 1), (2, 3, 0), (3, 2, 0), (4, 1, 0), (5, 1, 0), (6, 1, 0), (7, 1, 0), (8, 1, 0), (9, 3, 0), (10, 3, 0), (11, 3, 0), (12, 3, 0), (13, 3, 0), (14, 2, 0), (15, 2, 0), (16, 2, 0), (17, 3, 0), (18, 2, 0), (19, 2, 0), (20, 2, 0), (21, 2, 0), (22, 2, 0), (23, 2, 0)]
def rB : List (Nat × Int × Int) := [(24, 2, 0), (25, 3, 0), (26, 3, 0), (27, 3, 0), (28, 2, 0), (29, 2, 0), (30, 2, 0), (31, 2, 0), (32, 2, 0), (33, 3, 0), (34, 4, 0), (35, 2, 0), (36, 3, 0), (37, 4, 0), (38, 4, 0), (39, 2, 0), (40, 2, 0), (41, 2, 0), (42, 2, 0), (43, 2, 0), (44, 1, 0), (45, 3, 0), (46, 2, 0), (47, 1, 0)]
def rCc : List (Nat × Int × Int) := [(48, 1, 1), (49, 1, 2), (50, 1, 2), (51, 1, 0), (52, 1, 0), (53, 3, 0)]
def eD (x : Nat × Int × Int) : D := .tuple [tokD x.1, .int x.2.1, .int x.2.2]
def chk (O : D) (x : Nat × Int × Int) : Bool := match f_x_law_door_index [tokD x.1, O, .int x.2.1] with
  | .ok (.int p) => decide (p = x.2.2)
  | _ => false
theorem chk_of {O : D} {x : Nat × Int × Int} (h : chk O x = true) : f_x_law_door_index [tokD x.1, O, .int x.2.1] = .ok (.int x.2.2) := by
  unfold chk at h
  split at h
  · rename_i p hp
    rw [hp, of_decide_eq_true h]
  · cases h
theorem rows_a : f_x_law_doors_a [] = .new (rA.map eD) := by kernel_rfl
theorem rows_b : f_x_law_doors_b [] = .new (rB.map eD) := by kernel_rfl
theorem rows_c : f_x_law_doors_c [] = .new (rCc.map eD) := by kernel_rfl
def rAll : List (Nat × Int × Int) := (rA ++ rB) ++ rCc
theorem chk_0 : rAll.all (chk (.none)) = true := by kernel_rfl
theorem chk_1 : rAll.all (chk (.int (-7))) = true := by kernel_rfl
theorem chk_2 : rAll.all (chk (.list [.str "a"])) = true := by kernel_rfl
theorem chk_3 : rAll.all (chk (.str "x")) = true := by kernel_rfl
theorem chk_4 : rAll.all (chk (.tuple [.none])) = true := by kernel_rfl
theorem chk_5 : rAll.all (chk (.bool true)) = true := by kernel_rfl
theorem chk_6 : rAll.all (chk (.tuple [.tuple [.tuple [.int 2, .int 1]]])) = true := by kernel_rfl
theorem chk_7 : rAll.all (chk (.tuple [.tuple [.int 1, .int 2, .int 3]])) = true := by kernel_rfl
theorem chks (O : D) (h : O ∈ odds) : ∀ x ∈ rAll, f_x_law_door_index [tokD x.1, O, .int x.2.1] = .ok (.int x.2.2) := fun x hx => chk_of (List.all_eq_true.mp (by
  simp only [odds, List.mem_cons, List.not_mem_nil, or_false] at h
  rcases h with rfl | rfl | rfl | rfl | rfl | rfl | rfl | rfl
  · exact chk_0
  · exact chk_1
  · exact chk_2
  · exact chk_3
  · exact chk_4
  · exact chk_5
  · exact chk_6
  · exact chk_7) x hx)
theorem odd_at (j : Int) (h0 : 0 ≤ j) (h1 : j < 8) : ∃ O, O ∈ odds ∧ atI odds j = some O := by
  have : j = 0 ∨ j = 1 ∨ j = 2 ∨ j = 3 ∨ j = 4 ∨ j = 5 ∨ j = 6 ∨ j = 7 := by omega
  rcases this with rfl | rfl | rfl | rfl | rfl | rfl | rfl | rfl
  · exact ⟨_, List.mem_of_getElem? (i := 0) rfl, rfl⟩
  · exact ⟨_, List.mem_of_getElem? (i := 1) rfl, rfl⟩
  · exact ⟨_, List.mem_of_getElem? (i := 2) rfl, rfl⟩
  · exact ⟨_, List.mem_of_getElem? (i := 3) rfl, rfl⟩
  · exact ⟨_, List.mem_of_getElem? (i := 4) rfl, rfl⟩
  · exact ⟨_, List.mem_of_getElem? (i := 5) rfl, rfl⟩
  · exact ⟨_, List.mem_of_getElem? (i := 6) rfl, rfl⟩
  · exact ⟨_, List.mem_of_getElem? (i := 7) rfl, rfl⟩
theorem add_l {a b : List D} (h : a.length + b.length ≤ 100000) : gAdd (.list a) (.list b) = .new (a ++ b) := if_pos h
theorem holds : ∀ ns : List Int, ns.length ≤ 63 → f_law [.list (ns.map .int)] = .ok (.bool true) := by
  intro ns _
  obtain ⟨ds, er, hd⟩ := law_row_ok ns 4
  have er : f_law_row [.list (ns.map .int), .int 4] = .new (ds.map .int) := er
  have w0 := dw_lit hd (i := 0) (by decide) (by decide)
  have gI : gIx (.list (ds.map .int)) (.int 0) = optR (atI (ds.map .int) 0) := rfl
  have gO : ∀ i : Int, gIx (.list odds) (.int i) = optR (atI odds i) := fun _ => rfl
  have nz : ((odds.length : Nat) : Int) ≠ 0 := by decide
  have lo : ((odds.length : Nat) : Int) = 8 := rfl
  have rg := fmod_rng (dw ds 0) (k := 8) (by decide)
  obtain ⟨O, hO, hat⟩ := odd_at _ rg.1 rg.2
  have C := chks O hO
  have F : (rAll.all (fun _ => true) = true ∧ ∃ s' : Cell × Cell × Cell, F1_law [.fr (.list (ns.map .int)), .ow (ds.map .int), .ow odds, .ow (rAll.map eD), .un, .un, .un] = .nx [.fr (.list (ns.map .int)), .ow (ds.map .int), .ow odds, .fr (.list (rAll.map eD)), s'.1, s'.2.1, s'.2.2]) ∨ (rAll.all (fun _ => true) = false ∧ F1_law [.fr (.list (ns.map .int)), .ow (ds.map .int), .ow odds, .ow (rAll.map eD), .un, .un, .un] = .rt (.bool false)) := by
    unfold F1_law
    refine for_all (e := eD) (xs := rAll) (fun s : Cell × Cell × Cell => [.fr (.list (ns.map .int)), .ow (ds.map .int), .ow odds, .fr (.list (rAll.map eD)), s.1, s.2.1, s.2.2]) (fun _ => true) (.bool false) (.un, .un, .un) ?_ ?_ ?_
    · simp only [EV0]
    · simp only [EV0]
    · rintro ⟨c0, c1, c2⟩ x hx
      refine .inl ⟨rfl, (.fr (tokD x.1), .fr (.int x.2.1), .fr (.int x.2.2)), ?_⟩
      have q := C x hx
      unfold eD
      rw [turnF_tp3]
      simp only [EV0, L1_law, gI, w0, lo, gMod_i (show (8 : Int) ≠ 0 by decide), gO, hat, q]
  rcases F with ⟨_, s', e⟩ | ⟨h, _⟩
  case inr => simp at h
  have e1 : gAdd (.list (rA.map eD)) (.list (rB.map eD)) = .new (rA.map eD ++ rB.map eD) := add_l (by decide +kernel)
  have e2' : gAdd (.list (rA.map eD ++ rB.map eD)) (.list (rCc.map eD)) = .new (rA.map eD ++ rB.map eD ++ rCc.map eD) := add_l (by decide +kernel)
  have e3 : rA.map eD ++ rB.map eD ++ rCc.map eD = rAll.map eD := by unfold rAll; rw [List.map_append, List.map_append]
  have z1 : ∀ ρ, eF0 f_x_law_doors_a ρ = .new (rA.map eD) := fun ρ => by unfold eF0; rw [rows_a]
  have z2 : ∀ ρ, eF0 f_x_law_doors_b ρ = .new (rB.map eD) := fun ρ => by unfold eF0; rw [rows_b]
  have z3 : ∀ ρ, eF0 f_x_law_doors_c ρ = .new (rCc.map eD) := fun ρ => by unfold eF0; rw [rows_c]
  have od : [PyData.none, PyData.int (-7), PyData.list [.str "a"], PyData.str "x", PyData.tuple [.none], PyData.bool true, PyData.tuple [.tuple [.tuple [.int 2, .int 1]]], PyData.tuple [.tuple [.int 1, .int 2, .int 3]]] = odds := rfl
  simp only [EV0, r_law, b_law, R1_law, er]
  simp only [EV0, od, R2_law, z1, z2, z3, e1, e2', e3]
  simp only [EV0, R3_law, R4_law, e]
end U
set_option Elab.async false
set_option linter.all false
set_option maxRecDepth 100000
set_option maxHeartbeats 4000000
namespace U
open PySem PySem.Spec PyProof.Rows L2
section
variable {P : Program} {w : World} {h : Heap} {K : PySem.W.Frag} {mg : Str → Option Value} {base : Heap}
theorem s_x_in_range : FnScope N_x_in_range ["value", "low", "high"] (defScope (top 20)) := ⟨rfl, rfl, rfl, by decide +kernel, rfl, by decide +kernel, by decide +kernel⟩
theorem t_x_in_range : (tr10 (T.s N_x_in_range 0 []) (defScope (top 20)) (defBody (top 20))).map (·.m) = some b_x_in_range := by kernel_rfl
theorem k_x_in_range (X : K.In h) (G : h.Ns mainGlobals mg) (c : He.SaysX (faU T ds ++ fo) fn [] [] (exU T) w h K) : Kp P w K mg base (T.cv K) 1 "in_range" 3 f_x_in_range := by
  obtain ⟨fd, F⟩ := def_of c (x := "in_range") (st := top 20) (List.mem_of_getElem? (i := 0) rfl)
  exact kp_ofO F (glo_of X G c (List.mem_of_getElem? (i := 0) rfl)) (bs_of rfl rfl X G c) s_x_in_range rfl (fun _ _ _ _ _ _ us hl => match us, hl with | [_, _, _], _ => rfl) _ t_x_in_range rfl trivial
theorem s_x_common_divisor : FnScope N_x_common_divisor ["one", "other"] (defScope (top 21)) := ⟨rfl, rfl, rfl, by decide +kernel, rfl, by decide +kernel, by decide +kernel⟩
theorem t_x_common_divisor : (tr10 (T.s N_x_common_divisor 0 []) (defScope (top 21)) (defBody (top 21))).map (·.m) = some b_x_common_divisor := by kernel_rfl
theorem k_x_common_divisor (X : K.In h) (G : h.Ns mainGlobals mg) (c : He.SaysX (faU T ds ++ fo) fn [] [] (exU T) w h K) : Kp P w K mg base (T.cv K) 1 "common_divisor" 2 f_x_common_divisor := by
  obtain ⟨fd, F⟩ := def_of c (x := "common_divisor") (st := top 21) (List.mem_of_getElem? (i := 1) rfl)
  exact kp_ofO F (glo_of X G c (List.mem_of_getElem? (i := 1) rfl)) (bs_of rfl rfl X G c) s_x_common_divisor rfl (fun _ _ _ _ _ _ us hl => match us, hl with | [_, _], _ => rfl) _ t_x_common_divisor rfl trivial
theorem s_x_is_part : FnScope N_x_is_part ["value"] (defScope (top 23)) := ⟨rfl, rfl, rfl, by decide +kernel, rfl, by decide +kernel, by decide +kernel⟩
theorem t_x_is_part : (tr10 (T.s N_x_is_part 1 [("common_divisor", 2, f_x_common_divisor)]) (defScope (top 23)) (defBody (top 23))).map (·.m) = some b_x_is_part := by kernel_rfl
theorem k_x_is_part (X : K.In h) (G : h.Ns mainGlobals mg) (c : He.SaysX (faU T ds ++ fo) fn [] [] (exU T) w h K) : Kp P w K mg base (T.cv K) 2 "is_part" 1 f_x_is_part := by
  obtain ⟨fd, F⟩ := def_of c (x := "is_part") (st := top 23) (List.mem_of_getElem? (i := 2) rfl)
  exact kp_ofO F (glo_of X G c (List.mem_of_getElem? (i := 2) rfl)) (bs_of rfl rfl X G c) s_x_is_part rfl (fun _ _ _ _ _ _ us hl => match us, hl with | [_], _ => rfl) _ t_x_is_part rfl ⟨(k_x_common_divisor X G c).mono (by decide), trivial⟩
theorem s_x_below : FnScope N_x_below ["one", "other"] (defScope (top 28)) := ⟨rfl, rfl, rfl, by decide +kernel, rfl, by decide +kernel, by decide +kernel⟩
theorem t_x_below : (tr10 (T.s N_x_below 0 []) (defScope (top 28)) (defBody (top 28))).map (·.m) = some b_x_below := by kernel_rfl
theorem k_x_below (X : K.In h) (G : h.Ns mainGlobals mg) (c : He.SaysX (faU T ds ++ fo) fn [] [] (exU T) w h K) : Kp P w K mg base (T.cv K) 1 "below" 2 f_x_below := by
  obtain ⟨fd, F⟩ := def_of c (x := "below") (st := top 28) (List.mem_of_getElem? (i := 3) rfl)
  exact kp_ofO F (glo_of X G c (List.mem_of_getElem? (i := 3) rfl)) (bs_of rfl rfl X G c) s_x_below rfl (fun _ _ _ _ _ _ us hl => match us, hl with | [_, _], _ => rfl) _ t_x_below rfl trivial
theorem s_x_is_cell : FnScope N_x_is_cell ["value", "limit"] (defScope (top 52)) := ⟨rfl, rfl, rfl, by decide +kernel, rfl, by decide +kernel, by decide +kernel⟩
theorem t_x_is_cell : (tr10 (T.s N_x_is_cell 1 [("in_range", 3, f_x_in_range)]) (defScope (top 52)) (defBody (top 52))).map (·.m) = some b_x_is_cell := by kernel_rfl
theorem k_x_is_cell (X : K.In h) (G : h.Ns mainGlobals mg) (c : He.SaysX (faU T ds ++ fo) fn [] [] (exU T) w h K) : Kp P w K mg base (T.cv K) 2 "is_cell" 2 f_x_is_cell := by
  obtain ⟨fd, F⟩ := def_of c (x := "is_cell") (st := top 52) (List.mem_of_getElem? (i := 4) rfl)
  exact kp_ofO F (glo_of X G c (List.mem_of_getElem? (i := 4) rfl)) (bs_of rfl rfl X G c) s_x_is_cell rfl (fun _ _ _ _ _ _ us hl => match us, hl with | [_, _], _ => rfl) _ t_x_is_cell rfl ⟨(k_x_in_range X G c).mono (by decide), trivial⟩
theorem s_x_is_table : FnScope N_x_is_table ["value"] (defScope (top 53)) := ⟨rfl, rfl, rfl, by decide +kernel, rfl, by decide +kernel, by decide +kernel⟩
theorem t_x_is_table : (tr10 (T.s N_x_is_table 2 [("is_cell", 2, f_x_is_cell)]) (defScope (top 53)) (defBody (top 53))).map (·.m) = some b_x_is_table := by kernel_rfl
theorem k_x_is_table (X : K.In h) (G : h.Ns mainGlobals mg) (c : He.SaysX (faU T ds ++ fo) fn [] [] (exU T) w h K) : Kp P w K mg base (T.cv K) 3 "is_table" 1 f_x_is_table := by
  obtain ⟨fd, F⟩ := def_of c (x := "is_table") (st := top 53) (List.mem_of_getElem? (i := 5) rfl)
  exact kp_ofO F (glo_of X G c (List.mem_of_getElem? (i := 5) rfl)) (bs_of rfl rfl X G c) s_x_is_table rfl (fun _ _ _ _ _ _ us hl => match us, hl with | [_], _ => rfl) _ t_x_is_table rfl ⟨(k_x_is_cell X G c).mono (by decide), trivial⟩
theorem s_x_is_side : FnScope N_x_is_side ["value"] (defScope (top 54)) := ⟨rfl, rfl, rfl, by decide +kernel, rfl, by decide +kernel, by decide +kernel⟩
theorem t_x_is_side : (tr10 (T.s N_x_is_side 2 [("is_cell", 2, f_x_is_cell)]) (defScope (top 54)) (defBody (top 54))).map (·.m) = some b_x_is_side := by kernel_rfl
theorem k_x_is_side (X : K.In h) (G : h.Ns mainGlobals mg) (c : He.SaysX (faU T ds ++ fo) fn [] [] (exU T) w h K) : Kp P w K mg base (T.cv K) 3 "is_side" 1 f_x_is_side := by
  obtain ⟨fd, F⟩ := def_of c (x := "is_side") (st := top 54) (List.mem_of_getElem? (i := 6) rfl)
  exact kp_ofO F (glo_of X G c (List.mem_of_getElem? (i := 6) rfl)) (bs_of rfl rfl X G c) s_x_is_side rfl (fun _ _ _ _ _ _ us hl => match us, hl with | [_], _ => rfl) _ t_x_is_side rfl ⟨(k_x_is_cell X G c).mono (by decide), trivial⟩
theorem s_x_check_table : FnScope N_x_check_table ["table"] (defScope (top 55)) := ⟨rfl, rfl, rfl, by decide +kernel, rfl, by decide +kernel, by decide +kernel⟩
theorem t_x_check_table : (tr10 (T.s N_x_check_table 3 [("is_table", 1, f_x_is_table)]) (defScope (top 55)) (defBody (top 55))).map (·.m) = some b_x_check_table := by kernel_rfl
theorem k_x_check_table (X : K.In h) (G : h.Ns mainGlobals mg) (c : He.SaysX (faU T ds ++ fo) fn [] [] (exU T) w h K) : Kp P w K mg base (T.cv K) 4 "check_table" 1 f_x_check_table := by
  obtain ⟨fd, F⟩ := def_of c (x := "check_table") (st := top 55) (List.mem_of_getElem? (i := 7) rfl)
  exact kp_ofO F (glo_of X G c (List.mem_of_getElem? (i := 7) rfl)) (bs_of rfl rfl X G c) s_x_check_table rfl (fun _ _ _ _ _ _ us hl => match us, hl with | [_], _ => rfl) _ t_x_check_table rfl ⟨(k_x_is_table X G c).mono (by decide), trivial⟩
theorem s_x_check_square : FnScope N_x_check_square ["table"] (defScope (top 56)) := ⟨rfl, rfl, rfl, by decide +kernel, rfl, by decide +kernel, by decide +kernel⟩
theorem t_x_check_square : (tr10 (T.s N_x_check_square 4 [("check_table", 1, f_x_check_table)]) (defScope (top 56)) (defBody (top 56))).map (·.m) = some b_x_check_square := by kernel_rfl
theorem k_x_check_square (X : K.In h) (G : h.Ns mainGlobals mg) (c : He.SaysX (faU T ds ++ fo) fn [] [] (exU T) w h K) : Kp P w K mg base (T.cv K) 5 "check_square" 1 f_x_check_square := by
  obtain ⟨fd, F⟩ := def_of c (x := "check_square") (st := top 56) (List.mem_of_getElem? (i := 8) rfl)
  exact kp_ofO F (glo_of X G c (List.mem_of_getElem? (i := 8) rfl)) (bs_of rfl rfl X G c) s_x_check_square rfl (fun _ _ _ _ _ _ us hl => match us, hl with | [_], _ => rfl) _ t_x_check_square rfl ⟨(k_x_check_table X G c).mono (by decide), trivial⟩
theorem s_x_check_system : FnScope N_x_check_system ["table", "side"] (defScope (top 57)) := ⟨rfl, rfl, rfl, by decide +kernel, rfl, by decide +kernel, by decide +kernel⟩
theorem t_x_check_system : (tr10 (T.s N_x_check_system 4 [("check_table", 1, f_x_check_table), ("is_side", 1, f_x_is_side)]) (defScope (top 57)) (defBody (top 57))).map (·.m) = some b_x_check_system := by kernel_rfl
theorem k_x_check_system (X : K.In h) (G : h.Ns mainGlobals mg) (c : He.SaysX (faU T ds ++ fo) fn [] [] (exU T) w h K) : Kp P w K mg base (T.cv K) 5 "check_system" 2 f_x_check_system := by
  obtain ⟨fd, F⟩ := def_of c (x := "check_system") (st := top 57) (List.mem_of_getElem? (i := 9) rfl)
  exact kp_ofO F (glo_of X G c (List.mem_of_getElem? (i := 9) rfl)) (bs_of rfl rfl X G c) s_x_check_system rfl (fun _ _ _ _ _ _ us hl => match us, hl with | [_, _], _ => rfl) _ t_x_check_system rfl ⟨(k_x_check_table X G c).mono (by decide), (k_x_is_side X G c).mono (by decide), trivial⟩
theorem s_x_are_unknowns : FnScope N_x_are_unknowns ["table", "value"] (defScope (top 58)) := ⟨rfl, rfl, rfl, by decide +kernel, rfl, by decide +kernel, by decide +kernel⟩
theorem t_x_are_unknowns : (tr10 (T.s N_x_are_unknowns 2 [("is_part", 1, f_x_is_part)]) (defScope (top 58)) (defBody (top 58))).map (·.m) = some b_x_are_unknowns := by kernel_rfl
theorem k_x_are_unknowns (X : K.In h) (G : h.Ns mainGlobals mg) (c : He.SaysX (faU T ds ++ fo) fn [] [] (exU T) w h K) : Kp P w K mg base (T.cv K) 3 "are_unknowns" 2 f_x_are_unknowns := by
  obtain ⟨fd, F⟩ := def_of c (x := "are_unknowns") (st := top 58) (List.mem_of_getElem? (i := 10) rfl)
  exact kp_ofO F (glo_of X G c (List.mem_of_getElem? (i := 10) rfl)) (bs_of rfl rfl X G c) s_x_are_unknowns rfl (fun _ _ _ _ _ _ us hl => match us, hl with | [_, _], _ => rfl) _ t_x_are_unknowns rfl ⟨(k_x_is_part X G c).mono (by decide), trivial⟩
theorem s_x_check_unknowns : FnScope N_x_check_unknowns ["table", "unknowns"] (defScope (top 59)) := ⟨rfl, rfl, rfl, by decide +kernel, rfl, by decide +kernel, by decide +kernel⟩
theorem t_x_check_unknowns : (tr10 (T.s N_x_check_unknowns 3 [("are_unknowns", 2, f_x_are_unknowns)]) (defScope (top 59)) (defBody (top 59))).map (·.m) = some b_x_check_unknowns := by kernel_rfl
theorem k_x_check_unknowns (X : K.In h) (G : h.Ns mainGlobals mg) (c : He.SaysX (faU T ds ++ fo) fn [] [] (exU T) w h K) : Kp P w K mg base (T.cv K) 4 "check_unknowns" 2 f_x_check_unknowns := by
  obtain ⟨fd, F⟩ := def_of c (x := "check_unknowns") (st := top 59) (List.mem_of_getElem? (i := 11) rfl)
  exact kp_ofO F (glo_of X G c (List.mem_of_getElem? (i := 11) rfl)) (bs_of rfl rfl X G c) s_x_check_unknowns rfl (fun _ _ _ _ _ _ us hl => match us, hl with | [_, _], _ => rfl) _ t_x_check_unknowns rfl ⟨(k_x_are_unknowns X G c).mono (by decide), trivial⟩
theorem s_x_check_index : FnScope N_x_check_index ["table", "index"] (defScope (top 60)) := ⟨rfl, rfl, rfl, by decide +kernel, rfl, by decide +kernel, by decide +kernel⟩
theorem t_x_check_index : (tr10 (T.s N_x_check_index 1 [("in_range", 3, f_x_in_range)]) (defScope (top 60)) (defBody (top 60))).map (·.m) = some b_x_check_index := by kernel_rfl
theorem k_x_check_index (X : K.In h) (G : h.Ns mainGlobals mg) (c : He.SaysX (faU T ds ++ fo) fn [] [] (exU T) w h K) : Kp P w K mg base (T.cv K) 2 "check_index" 2 f_x_check_index := by
  obtain ⟨fd, F⟩ := def_of c (x := "check_index") (st := top 60) (List.mem_of_getElem? (i := 12) rfl)
  exact kp_ofO F (glo_of X G c (List.mem_of_getElem? (i := 12) rfl)) (bs_of rfl rfl X G c) s_x_check_index rfl (fun _ _ _ _ _ _ us hl => match us, hl with | [_, _], _ => rfl) _ t_x_check_index rfl ⟨(k_x_in_range X G c).mono (by decide), trivial⟩
theorem s_x_lies_in : FnScope N_x_lies_in ["number", "cell"] (defScope (top 61)) := ⟨rfl, rfl, rfl, by decide +kernel, rfl, by decide +kernel, by decide +kernel⟩
theorem t_x_lies_in : (tr10 (T.s N_x_lies_in 1 [("below", 2, f_x_below)]) (defScope (top 61)) (defBody (top 61))).map (·.m) = some b_x_lies_in := by kernel_rfl
theorem k_x_lies_in (X : K.In h) (G : h.Ns mainGlobals mg) (c : He.SaysX (faU T ds ++ fo) fn [] [] (exU T) w h K) : Kp P w K mg base (T.cv K) 2 "lies_in" 2 f_x_lies_in := by
  obtain ⟨fd, F⟩ := def_of c (x := "lies_in") (st := top 61) (List.mem_of_getElem? (i := 13) rfl)
  exact kp_ofO F (glo_of X G c (List.mem_of_getElem? (i := 13) rfl)) (bs_of rfl rfl X G c) s_x_lies_in rfl (fun _ _ _ _ _ _ us hl => match us, hl with | [_, _], _ => rfl) _ t_x_lies_in rfl ⟨(k_x_below X G c).mono (by decide), trivial⟩
theorem s_x_is_fit : FnScope N_x_is_fit ["number", "cell"] (defScope (top 63)) := ⟨rfl, rfl, rfl, by decide +kernel, rfl, by decide +kernel, by decide +kernel⟩
theorem t_x_is_fit : (tr10 (T.s N_x_is_fit 2 [("is_part", 1, f_x_is_part), ("lies_in", 2, f_x_lies_in)]) (defScope (top 63)) (defBody (top 63))).map (·.m) = some b_x_is_fit := by kernel_rfl
theorem k_x_is_fit (X : K.In h) (G : h.Ns mainGlobals mg) (c : He.SaysX (faU T ds ++ fo) fn [] [] (exU T) w h K) : Kp P w K mg base (T.cv K) 3 "is_fit" 2 f_x_is_fit := by
  obtain ⟨fd, F⟩ := def_of c (x := "is_fit") (st := top 63) (List.mem_of_getElem? (i := 14) rfl)
  exact kp_ofO F (glo_of X G c (List.mem_of_getElem? (i := 14) rfl)) (bs_of rfl rfl X G c) s_x_is_fit rfl (fun _ _ _ _ _ _ us hl => match us, hl with | [_, _], _ => rfl) _ t_x_is_fit rfl ⟨(k_x_is_part X G c).mono (by decide), (k_x_lies_in X G c).mono (by decide), trivial⟩
theorem s_x_is_choice_of : FnScope N_x_is_choice_of ["table", "value"] (defScope (top 62)) := ⟨rfl, rfl, rfl, by decide +kernel, rfl, by decide +kernel, by decide +kernel⟩
theorem t_x_is_choice_of : (tr10 (T.s N_x_is_choice_of 3 [("is_fit", 2, f_x_is_fit)]) (defScope (top 62)) (defBody (top 62))).map (·.m) = some b_x_is_choice_of := by kernel_rfl
theorem k_x_is_choice_of (X : K.In h) (G : h.Ns mainGlobals mg) (c : He.SaysX (faU T ds ++ fo) fn [] [] (exU T) w h K) : Kp P w K mg base (T.cv K) 4 "is_choice_of" 2 f_x_is_choice_of := by
  obtain ⟨fd, F⟩ := def_of c (x := "is_choice_of") (st := top 62) (List.mem_of_getElem? (i := 15) rfl)
  exact kp_ofO F (glo_of X G c (List.mem_of_getElem? (i := 15) rfl)) (bs_of rfl rfl X G c) s_x_is_choice_of rfl (fun _ _ _ _ _ _ us hl => match us, hl with | [_, _], _ => rfl) _ t_x_is_choice_of rfl ⟨(k_x_is_fit X G c).mono (by decide), trivial⟩
theorem s_x_is_choice : FnScope N_x_is_choice ["table", "value"] (defScope (top 64)) := ⟨rfl, rfl, rfl, by decide +kernel, rfl, by decide +kernel, by decide +kernel⟩
theorem t_x_is_choice : (tr10 (T.s N_x_is_choice 4 [("check_table", 1, f_x_check_table), ("is_choice_of", 2, f_x_is_choice_of)]) (defScope (top 64)) (defBody (top 64))).map (·.m) = some b_x_is_choice := by kernel_rfl
theorem k_x_is_choice (X : K.In h) (G : h.Ns mainGlobals mg) (c : He.SaysX (faU T ds ++ fo) fn [] [] (exU T) w h K) : Kp P w K mg base (T.cv K) 5 "is_choice" 2 f_x_is_choice := by
  obtain ⟨fd, F⟩ := def_of c (x := "is_choice") (st := top 64) (List.mem_of_getElem? (i := 16) rfl)
  exact kp_ofO F (glo_of X G c (List.mem_of_getElem? (i := 16) rfl)) (bs_of rfl rfl X G c) s_x_is_choice rfl (fun _ _ _ _ _ _ us hl => match us, hl with | [_, _], _ => rfl) _ t_x_is_choice rfl ⟨(k_x_check_table X G c).mono (by decide), (k_x_is_choice_of X G c).mono (by decide), trivial⟩
theorem s_x_is_side_choice : FnScope N_x_is_side_choice ["side", "value"] (defScope (top 65)) := ⟨rfl, rfl, rfl, by decide +kernel, rfl, by decide +kernel, by decide +kernel⟩
theorem t_x_is_side_choice : (tr10 (T.s N_x_is_side_choice 3 [("is_side", 1, f_x_is_side), ("is_fit", 2, f_x_is_fit)]) (defScope (top 65)) (defBody (top 65))).map (·.m) = some b_x_is_side_choice := by kernel_rfl
theorem k_x_is_side_choice (X : K.In h) (G : h.Ns mainGlobals mg) (c : He.SaysX (faU T ds ++ fo) fn [] [] (exU T) w h K) : Kp P w K mg base (T.cv K) 4 "is_side_choice" 2 f_x_is_side_choice := by
  obtain ⟨fd, F⟩ := def_of c (x := "is_side_choice") (st := top 65) (List.mem_of_getElem? (i := 17) rfl)
  exact kp_ofO F (glo_of X G c (List.mem_of_getElem? (i := 17) rfl)) (bs_of rfl rfl X G c) s_x_is_side_choice rfl (fun _ _ _ _ _ _ us hl => match us, hl with | [_, _], _ => rfl) _ t_x_is_side_choice rfl ⟨(k_x_is_side X G c).mono (by decide), (k_x_is_fit X G c).mono (by decide), trivial⟩
theorem s_x_check_choice : FnScope N_x_check_choice ["table", "value"] (defScope (top 66)) := ⟨rfl, rfl, rfl, by decide +kernel, rfl, by decide +kernel, by decide +kernel⟩
theorem t_x_check_choice : (tr10 (T.s N_x_check_choice 4 [("is_choice_of", 2, f_x_is_choice_of)]) (defScope (top 66)) (defBody (top 66))).map (·.m) = some b_x_check_choice := by kernel_rfl
theorem k_x_check_choice (X : K.In h) (G : h.Ns mainGlobals mg) (c : He.SaysX (faU T ds ++ fo) fn [] [] (exU T) w h K) : Kp P w K mg base (T.cv K) 5 "check_choice" 2 f_x_check_choice := by
  obtain ⟨fd, F⟩ := def_of c (x := "check_choice") (st := top 66) (List.mem_of_getElem? (i := 18) rfl)
  exact kp_ofO F (glo_of X G c (List.mem_of_getElem? (i := 18) rfl)) (bs_of rfl rfl X G c) s_x_check_choice rfl (fun _ _ _ _ _ _ us hl => match us, hl with | [_, _], _ => rfl) _ t_x_check_choice rfl ⟨(k_x_is_choice_of X G c).mono (by decide), trivial⟩
theorem s_x_check_signs : FnScope N_x_check_signs ["signs", "count"] (defScope (top 67)) := ⟨rfl, rfl, rfl, by decide +kernel, rfl, by decide +kernel, by decide +kernel⟩
theorem t_x_check_signs : (tr10 (T.s N_x_check_signs 1 [("in_range", 3, f_x_in_range)]) (defScope (top 67)) (defBody (top 67))).map (·.m) = some b_x_check_signs := by kernel_rfl
theorem k_x_check_signs (X : K.In h) (G : h.Ns mainGlobals mg) (c : He.SaysX (faU T ds ++ fo) fn [] [] (exU T) w h K) : Kp P w K mg base (T.cv K) 2 "check_signs" 2 f_x_check_signs := by
  obtain ⟨fd, F⟩ := def_of c (x := "check_signs") (st := top 67) (List.mem_of_getElem? (i := 19) rfl)
  exact kp_ofO F (glo_of X G c (List.mem_of_getElem? (i := 19) rfl)) (bs_of rfl rfl X G c) s_x_check_signs rfl (fun _ _ _ _ _ _ us hl => match us, hl with | [_, _], _ => rfl) _ t_x_check_signs rfl ⟨(k_x_in_range X G c).mono (by decide), trivial⟩
theorem s_x_corner : FnScope N_x_corner ["table", "rows", "columns"] (defScope (top 69)) := ⟨rfl, rfl, rfl, by decide +kernel, rfl, by decide +kernel, by decide +kernel⟩
theorem t_x_corner : (tr10 (T.s N_x_corner 4 [("check_table", 1, f_x_check_table), ("check_signs", 2, f_x_check_signs)]) (defScope (top 69)) (defBody (top 69))).map (·.m) = some b_x_corner := by kernel_rfl
theorem k_x_corner (X : K.In h) (G : h.Ns mainGlobals mg) (c : He.SaysX (faU T ds ++ fo) fn [] [] (exU T) w h K) : Kp P w K mg base (T.cv K) 5 "corner" 3 f_x_corner := by
  obtain ⟨fd, F⟩ := def_of c (x := "corner") (st := top 69) (List.mem_of_getElem? (i := 20) rfl)
  exact kp_ofO F (glo_of X G c (List.mem_of_getElem? (i := 20) rfl)) (bs_of rfl rfl X G c) s_x_corner rfl (fun _ _ _ _ _ _ us hl => match us, hl with | [_, _, _], _ => rfl) _ t_x_corner rfl ⟨(k_x_check_table X G c).mono (by decide), (k_x_check_signs X G c).mono (by decide), trivial⟩
theorem s_x_check_all : FnScope N_x_check_all ["table", "side", "unknowns"] (defScope (top 72)) := ⟨rfl, rfl, rfl, by decide +kernel, rfl, by decide +kernel, by decide +kernel⟩
theorem t_x_check_all : (tr10 (T.s N_x_check_all 5 [("check_system", 2, f_x_check_system), ("check_unknowns", 2, f_x_check_unknowns)]) (defScope (top 72)) (defBody (top 72))).map (·.m) = some b_x_check_all := by kernel_rfl
theorem k_x_check_all (X : K.In h) (G : h.Ns mainGlobals mg) (c : He.SaysX (faU T ds ++ fo) fn [] [] (exU T) w h K) : Kp P w K mg base (T.cv K) 6 "check_all" 3 f_x_check_all := by
  obtain ⟨fd, F⟩ := def_of c (x := "check_all") (st := top 72) (List.mem_of_getElem? (i := 21) rfl)
  exact kp_ofO F (glo_of X G c (List.mem_of_getElem? (i := 21) rfl)) (bs_of rfl rfl X G c) s_x_check_all rfl (fun _ _ _ _ _ _ us hl => match us, hl with | [_, _, _], _ => rfl) _ t_x_check_all rfl ⟨(k_x_check_system X G c).mono (by decide), (k_x_check_unknowns X G c).mono (by decide), trivial⟩
theorem s_x_solves_some : FnScope N_x_solves_some ["table", "side", "unknowns"] (defScope (top 74)) := ⟨rfl, rfl, rfl, by decide +kernel, rfl, by decide +kernel, by decide +kernel⟩
theorem t_x_solves_some : (tr10 (T.s N_x_solves_some 6 [("check_all", 3, f_x_check_all)]) (defScope (top 74)) (defBody (top 74))).map (·.m) = some b_x_solves_some := by kernel_rfl
theorem k_x_solves_some (X : K.In h) (G : h.Ns mainGlobals mg) (c : He.SaysX (faU T ds ++ fo) fn [] [] (exU T) w h K) : Kp P w K mg base (T.cv K) 7 "solves_some" 3 f_x_solves_some := by
  obtain ⟨fd, F⟩ := def_of c (x := "solves_some") (st := top 74) (List.mem_of_getElem? (i := 22) rfl)
  exact kp_ofO F (glo_of X G c (List.mem_of_getElem? (i := 22) rfl)) (bs_of rfl rfl X G c) s_x_solves_some rfl (fun _ _ _ _ _ _ us hl => match us, hl with | [_, _, _], _ => rfl) _ t_x_solves_some rfl ⟨(k_x_check_all X G c).mono (by decide), trivial⟩
theorem s_x_solves_each_table : FnScope N_x_solves_each_table ["table", "side", "unknowns"] (defScope (top 75)) := ⟨rfl, rfl, rfl, by decide +kernel, rfl, by decide +kernel, by decide +kernel⟩
theorem t_x_solves_each_table : (tr10 (T.s N_x_solves_each_table 6 [("check_all", 3, f_x_check_all), ("below", 2, f_x_below)]) (defScope (top 75)) (defBody (top 75))).map (·.m) = some b_x_solves_each_table := by kernel_rfl
theorem k_x_solves_each_table (X : K.In h) (G : h.Ns mainGlobals mg) (c : He.SaysX (faU T ds ++ fo) fn [] [] (exU T) w h K) : Kp P w K mg base (T.cv K) 7 "solves_each_table" 3 f_x_solves_each_table := by
  obtain ⟨fd, F⟩ := def_of c (x := "solves_each_table") (st := top 75) (List.mem_of_getElem? (i := 23) rfl)
  exact kp_ofO F (glo_of X G c (List.mem_of_getElem? (i := 23) rfl)) (bs_of rfl rfl X G c) s_x_solves_each_table rfl (fun _ _ _ _ _ _ us hl => match us, hl with | [_, _, _], _ => rfl) _ t_x_solves_each_table rfl ⟨(k_x_check_all X G c).mono (by decide), (k_x_below X G c).mono (by decide), trivial⟩
theorem s_x_solves_each_side : FnScope N_x_solves_each_side ["table", "side", "unknowns"] (defScope (top 76)) := ⟨rfl, rfl, rfl, by decide +kernel, rfl, by decide +kernel, by decide +kernel⟩
theorem t_x_solves_each_side : (tr10 (T.s N_x_solves_each_side 6 [("check_all", 3, f_x_check_all), ("below", 2, f_x_below)]) (defScope (top 76)) (defBody (top 76))).map (·.m) = some b_x_solves_each_side := by kernel_rfl
theorem k_x_solves_each_side (X : K.In h) (G : h.Ns mainGlobals mg) (c : He.SaysX (faU T ds ++ fo) fn [] [] (exU T) w h K) : Kp P w K mg base (T.cv K) 7 "solves_each_side" 3 f_x_solves_each_side := by
  obtain ⟨fd, F⟩ := def_of c (x := "solves_each_side") (st := top 76) (List.mem_of_getElem? (i := 24) rfl)
  exact kp_ofO F (glo_of X G c (List.mem_of_getElem? (i := 24) rfl)) (bs_of rfl rfl X G c) s_x_solves_each_side rfl (fun _ _ _ _ _ _ us hl => match us, hl with | [_, _, _], _ => rfl) _ t_x_solves_each_side rfl ⟨(k_x_check_all X G c).mono (by decide), (k_x_below X G c).mono (by decide), trivial⟩
theorem s_x_solves_all : FnScope N_x_solves_all ["table", "side", "unknowns"] (defScope (top 77)) := ⟨rfl, rfl, rfl, by decide +kernel, rfl, by decide +kernel, by decide +kernel⟩
theorem t_x_solves_all : (tr10 (T.s N_x_solves_all 6 [("check_all", 3, f_x_check_all)]) (defScope (top 77)) (defBody (top 77))).map (·.m) = some b_x_solves_all := by kernel_rfl
theorem k_x_solves_all (X : K.In h) (G : h.Ns mainGlobals mg) (c : He.SaysX (faU T ds ++ fo) fn [] [] (exU T) w h K) : Kp P w K mg base (T.cv K) 7 "solves_all" 3 f_x_solves_all := by
  obtain ⟨fd, F⟩ := def_of c (x := "solves_all") (st := top 77) (List.mem_of_getElem? (i := 25) rfl)
  exact kp_ofO F (glo_of X G c (List.mem_of_getElem? (i := 25) rfl)) (bs_of rfl rfl X G c) s_x_solves_all rfl (fun _ _ _ _ _ _ us hl => match us, hl with | [_, _, _], _ => rfl) _ t_x_solves_all rfl ⟨(k_x_check_all X G c).mono (by decide), trivial⟩
theorem s_x_choice_for : FnScope N_x_choice_for ["table", "side", "unknowns"] (defScope (top 80)) := ⟨rfl, rfl, rfl, by decide +kernel, rfl, by decide +kernel, by decide +kernel⟩
theorem t_x_choice_for : (tr10 (T.s N_x_choice_for 6 [("check_all", 3, f_x_check_all)]) (defScope (top 80)) (defBody (top 80))).map (·.m) = some b_x_choice_for := by kernel_rfl
theorem k_x_choice_for (X : K.In h) (G : h.Ns mainGlobals mg) (c : He.SaysX (faU T ds ++ fo) fn [] [] (exU T) w h K) : Kp P w K mg base (T.cv K) 7 "choice_for" 3 f_x_choice_for := by
  obtain ⟨fd, F⟩ := def_of c (x := "choice_for") (st := top 80) (List.mem_of_getElem? (i := 26) rfl)
  exact kp_ofO F (glo_of X G c (List.mem_of_getElem? (i := 26) rfl)) (bs_of rfl rfl X G c) s_x_choice_for rfl (fun _ _ _ _ _ _ us hl => match us, hl with | [_, _, _], _ => rfl) _ t_x_choice_for rfl ⟨(k_x_check_all X G c).mono (by decide), trivial⟩
theorem s_x_is_full : FnScope N_x_is_full ["table"] (defScope (top 84)) := ⟨rfl, rfl, rfl, by decide +kernel, rfl, by decide +kernel, by decide +kernel⟩
theorem t_x_is_full : (tr10 (T.s N_x_is_full 4 [("check_table", 1, f_x_check_table)]) (defScope (top 84)) (defBody (top 84))).map (·.m) = some b_x_is_full := by kernel_rfl
theorem k_x_is_full (X : K.In h) (G : h.Ns mainGlobals mg) (c : He.SaysX (faU T ds ++ fo) fn [] [] (exU T) w h K) : Kp P w K mg base (T.cv K) 5 "is_full" 1 f_x_is_full := by
  obtain ⟨fd, F⟩ := def_of c (x := "is_full") (st := top 84) (List.mem_of_getElem? (i := 27) rfl)
  exact kp_ofO F (glo_of X G c (List.mem_of_getElem? (i := 27) rfl)) (bs_of rfl rfl X G c) s_x_is_full rfl (fun _ _ _ _ _ _ us hl => match us, hl with | [_], _ => rfl) _ t_x_is_full rfl ⟨(k_x_check_table X G c).mono (by decide), trivial⟩
theorem s_x_lost_unknowns : FnScope N_x_lost_unknowns ["table"] (defScope (top 85)) := ⟨rfl, rfl, rfl, by decide +kernel, rfl, by decide +kernel, by decide +kernel⟩
theorem t_x_lost_unknowns : (tr10 (T.s N_x_lost_unknowns 4 [("check_table", 1, f_x_check_table)]) (defScope (top 85)) (defBody (top 85))).map (·.m) = some b_x_lost_unknowns := by kernel_rfl
theorem k_x_lost_unknowns (X : K.In h) (G : h.Ns mainGlobals mg) (c : He.SaysX (faU T ds ++ fo) fn [] [] (exU T) w h K) : Kp P w K mg base (T.cv K) 5 "lost_unknowns" 1 f_x_lost_unknowns := by
  obtain ⟨fd, F⟩ := def_of c (x := "lost_unknowns") (st := top 85) (List.mem_of_getElem? (i := 28) rfl)
  exact kp_ofO F (glo_of X G c (List.mem_of_getElem? (i := 28) rfl)) (bs_of rfl rfl X G c) s_x_lost_unknowns rfl (fun _ _ _ _ _ _ us hl => match us, hl with | [_], _ => rfl) _ t_x_lost_unknowns rfl ⟨(k_x_check_table X G c).mono (by decide), trivial⟩
theorem s_x_check_two : FnScope N_x_check_two ["one", "other"] (defScope (top 87)) := ⟨rfl, rfl, rfl, by decide +kernel, rfl, by decide +kernel, by decide +kernel⟩
theorem t_x_check_two : (tr10 (T.s N_x_check_two 4 [("check_table", 1, f_x_check_table)]) (defScope (top 87)) (defBody (top 87))).map (·.m) = some b_x_check_two := by kernel_rfl
theorem k_x_check_two (X : K.In h) (G : h.Ns mainGlobals mg) (c : He.SaysX (faU T ds ++ fo) fn [] [] (exU T) w h K) : Kp P w K mg base (T.cv K) 5 "check_two" 2 f_x_check_two := by
  obtain ⟨fd, F⟩ := def_of c (x := "check_two") (st := top 87) (List.mem_of_getElem? (i := 29) rfl)
  exact kp_ofO F (glo_of X G c (List.mem_of_getElem? (i := 29) rfl)) (bs_of rfl rfl X G c) s_x_check_two rfl (fun _ _ _ _ _ _ us hl => match us, hl with | [_, _], _ => rfl) _ t_x_check_two rfl ⟨(k_x_check_table X G c).mono (by decide), trivial⟩
theorem s_x_plus : FnScope N_x_plus ["one", "other"] (defScope (top 88)) := ⟨rfl, rfl, rfl, by decide +kernel, rfl, by decide +kernel, by decide +kernel⟩
theorem t_x_plus : (tr10 (T.s N_x_plus 5 [("check_two", 2, f_x_check_two)]) (defScope (top 88)) (defBody (top 88))).map (·.m) = some b_x_plus := by kernel_rfl
theorem k_x_plus (X : K.In h) (G : h.Ns mainGlobals mg) (c : He.SaysX (faU T ds ++ fo) fn [] [] (exU T) w h K) : Kp P w K mg base (T.cv K) 6 "plus" 2 f_x_plus := by
  obtain ⟨fd, F⟩ := def_of c (x := "plus") (st := top 88) (List.mem_of_getElem? (i := 30) rfl)
  exact kp_ofO F (glo_of X G c (List.mem_of_getElem? (i := 30) rfl)) (bs_of rfl rfl X G c) s_x_plus rfl (fun _ _ _ _ _ _ us hl => match us, hl with | [_, _], _ => rfl) _ t_x_plus rfl ⟨(k_x_check_two X G c).mono (by decide), trivial⟩
theorem s_x_product : FnScope N_x_product ["one", "other"] (defScope (top 90)) := ⟨rfl, rfl, rfl, by decide +kernel, rfl, by decide +kernel, by decide +kernel⟩
theorem t_x_product : (tr10 (T.s N_x_product 4 [("check_table", 1, f_x_check_table)]) (defScope (top 90)) (defBody (top 90))).map (·.m) = some b_x_product := by kernel_rfl
theorem k_x_product (X : K.In h) (G : h.Ns mainGlobals mg) (c : He.SaysX (faU T ds ++ fo) fn [] [] (exU T) w h K) : Kp P w K mg base (T.cv K) 5 "product" 2 f_x_product := by
  obtain ⟨fd, F⟩ := def_of c (x := "product") (st := top 90) (List.mem_of_getElem? (i := 31) rfl)
  exact kp_ofO F (glo_of X G c (List.mem_of_getElem? (i := 31) rfl)) (bs_of rfl rfl X G c) s_x_product rfl (fun _ _ _ _ _ _ us hl => match us, hl with | [_, _], _ => rfl) _ t_x_product rfl ⟨(k_x_check_table X G c).mono (by decide), trivial⟩
theorem s_x_widened : FnScope N_x_widened ["table", "amount"] (defScope (top 91)) := ⟨rfl, rfl, rfl, by decide +kernel, rfl, by decide +kernel, by decide +kernel⟩
theorem t_x_widened : (tr10 (T.s N_x_widened 4 [("check_table", 1, f_x_check_table), ("in_range", 3, f_x_in_range)]) (defScope (top 91)) (defBody (top 91))).map (·.m) = some b_x_widened := by kernel_rfl
theorem k_x_widened (X : K.In h) (G : h.Ns mainGlobals mg) (c : He.SaysX (faU T ds ++ fo) fn [] [] (exU T) w h K) : Kp P w K mg base (T.cv K) 5 "widened" 2 f_x_widened := by
  obtain ⟨fd, F⟩ := def_of c (x := "widened") (st := top 91) (List.mem_of_getElem? (i := 32) rfl)
  exact kp_ofO F (glo_of X G c (List.mem_of_getElem? (i := 32) rfl)) (bs_of rfl rfl X G c) s_x_widened rfl (fun _ _ _ _ _ _ us hl => match us, hl with | [_, _], _ => rfl) _ t_x_widened rfl ⟨(k_x_check_table X G c).mono (by decide), (k_x_in_range X G c).mono (by decide), trivial⟩
theorem s_x_is_inside : FnScope N_x_is_inside ["one", "other"] (defScope (top 92)) := ⟨rfl, rfl, rfl, by decide +kernel, rfl, by decide +kernel, by decide +kernel⟩
theorem t_x_is_inside : (tr10 (T.s N_x_is_inside 5 [("check_two", 2, f_x_check_two)]) (defScope (top 92)) (defBody (top 92))).map (·.m) = some b_x_is_inside := by kernel_rfl
theorem k_x_is_inside (X : K.In h) (G : h.Ns mainGlobals mg) (c : He.SaysX (faU T ds ++ fo) fn [] [] (exU T) w h K) : Kp P w K mg base (T.cv K) 6 "is_inside" 2 f_x_is_inside := by
  obtain ⟨fd, F⟩ := def_of c (x := "is_inside") (st := top 92) (List.mem_of_getElem? (i := 33) rfl)
  exact kp_ofO F (glo_of X G c (List.mem_of_getElem? (i := 33) rfl)) (bs_of rfl rfl X G c) s_x_is_inside rfl (fun _ _ _ _ _ _ us hl => match us, hl with | [_, _], _ => rfl) _ t_x_is_inside rfl ⟨(k_x_check_two X G c).mono (by decide), trivial⟩
theorem s_x_overlap : FnScope N_x_overlap ["one", "other"] (defScope (top 93)) := ⟨rfl, rfl, rfl, by decide +kernel, rfl, by decide +kernel, by decide +kernel⟩
theorem t_x_overlap : (tr10 (T.s N_x_overlap 5 [("check_two", 2, f_x_check_two)]) (defScope (top 93)) (defBody (top 93))).map (·.m) = some b_x_overlap := by kernel_rfl
theorem k_x_overlap (X : K.In h) (G : h.Ns mainGlobals mg) (c : He.SaysX (faU T ds ++ fo) fn [] [] (exU T) w h K) : Kp P w K mg base (T.cv K) 6 "overlap" 2 f_x_overlap := by
  obtain ⟨fd, F⟩ := def_of c (x := "overlap") (st := top 93) (List.mem_of_getElem? (i := 34) rfl)
  exact kp_ofO F (glo_of X G c (List.mem_of_getElem? (i := 34) rfl)) (bs_of rfl rfl X G c) s_x_overlap rfl (fun _ _ _ _ _ _ us hl => match us, hl with | [_, _], _ => rfl) _ t_x_overlap rfl ⟨(k_x_check_two X G c).mono (by decide), trivial⟩
theorem s_x_determinant : FnScope N_x_determinant ["table", "choice"] (defScope (top 96)) := ⟨rfl, rfl, rfl, by decide +kernel, rfl, by decide +kernel, by decide +kernel⟩
theorem t_x_determinant : (tr10 (T.s N_x_determinant 5 [("check_square", 1, f_x_check_square), ("check_choice", 2, f_x_check_choice)]) (defScope (top 96)) (defBody (top 96))).map (·.m) = some b_x_determinant := by kernel_rfl
theorem k_x_determinant (X : K.In h) (G : h.Ns mainGlobals mg) (c : He.SaysX (faU T ds ++ fo) fn [] [] (exU T) w h K) : Kp P w K mg base (T.cv K) 6 "determinant" 2 f_x_determinant := by
  obtain ⟨fd, F⟩ := def_of c (x := "determinant") (st := top 96) (List.mem_of_getElem? (i := 35) rfl)
  exact kp_ofO F (glo_of X G c (List.mem_of_getElem? (i := 35) rfl)) (bs_of rfl rfl X G c) s_x_determinant rfl (fun _ _ _ _ _ _ us hl => match us, hl with | [_, _], _ => rfl) _ t_x_determinant rfl ⟨(k_x_check_square X G c).mono (by decide), (k_x_check_choice X G c).mono (by decide), trivial⟩
theorem s_x_determinant_span : FnScope N_x_determinant_span ["table"] (defScope (top 98)) := ⟨rfl, rfl, rfl, by decide +kernel, rfl, by decide +kernel, by decide +kernel⟩
theorem t_x_determinant_span : (tr10 (T.s N_x_determinant_span 5 [("check_square", 1, f_x_check_square), ("below", 2, f_x_below)]) (defScope (top 98)) (defBody (top 98))).map (·.m) = some b_x_determinant_span := by kernel_rfl
theorem k_x_determinant_span (X : K.In h) (G : h.Ns mainGlobals mg) (c : He.SaysX (faU T ds ++ fo) fn [] [] (exU T) w h K) : Kp P w K mg base (T.cv K) 6 "determinant_span" 1 f_x_determinant_span := by
  obtain ⟨fd, F⟩ := def_of c (x := "determinant_span") (st := top 98) (List.mem_of_getElem? (i := 36) rfl)
  exact kp_ofO F (glo_of X G c (List.mem_of_getElem? (i := 36) rfl)) (bs_of rfl rfl X G c) s_x_determinant_span rfl (fun _ _ _ _ _ _ us hl => match us, hl with | [_], _ => rfl) _ t_x_determinant_span rfl ⟨(k_x_check_square X G c).mono (by decide), (k_x_below X G c).mono (by decide), trivial⟩
theorem s_x_each_has_solution : FnScope N_x_each_has_solution ["table", "side"] (defScope (top 109)) := ⟨rfl, rfl, rfl, by decide +kernel, rfl, by decide +kernel, by decide +kernel⟩
theorem t_x_each_has_solution : (tr10 (T.s N_x_each_has_solution 5 [("check_system", 2, f_x_check_system)]) (defScope (top 109)) (defBody (top 109))).map (·.m) = some b_x_each_has_solution := by kernel_rfl
theorem k_x_each_has_solution (X : K.In h) (G : h.Ns mainGlobals mg) (c : He.SaysX (faU T ds ++ fo) fn [] [] (exU T) w h K) : Kp P w K mg base (T.cv K) 6 "each_has_solution" 2 f_x_each_has_solution := by
  obtain ⟨fd, F⟩ := def_of c (x := "each_has_solution") (st := top 109) (List.mem_of_getElem? (i := 37) rfl)
  exact kp_ofO F (glo_of X G c (List.mem_of_getElem? (i := 37) rfl)) (bs_of rfl rfl X G c) s_x_each_has_solution rfl (fun _ _ _ _ _ _ us hl => match us, hl with | [_, _], _ => rfl) _ t_x_each_has_solution rfl ⟨(k_x_check_system X G c).mono (by decide), trivial⟩
theorem s_x_each_has_upward : FnScope N_x_each_has_upward ["table", "side"] (defScope (top 110)) := ⟨rfl, rfl, rfl, by decide +kernel, rfl, by decide +kernel, by decide +kernel⟩
theorem t_x_each_has_upward : (tr10 (T.s N_x_each_has_upward 5 [("check_system", 2, f_x_check_system)]) (defScope (top 110)) (defBody (top 110))).map (·.m) = some b_x_each_has_upward := by kernel_rfl
theorem k_x_each_has_upward (X : K.In h) (G : h.Ns mainGlobals mg) (c : He.SaysX (faU T ds ++ fo) fn [] [] (exU T) w h K) : Kp P w K mg base (T.cv K) 6 "each_has_upward" 2 f_x_each_has_upward := by
  obtain ⟨fd, F⟩ := def_of c (x := "each_has_upward") (st := top 110) (List.mem_of_getElem? (i := 38) rfl)
  exact kp_ofO F (glo_of X G c (List.mem_of_getElem? (i := 38) rfl)) (bs_of rfl rfl X G c) s_x_each_has_upward rfl (fun _ _ _ _ _ _ us hl => match us, hl with | [_, _], _ => rfl) _ t_x_each_has_upward rfl ⟨(k_x_check_system X G c).mono (by decide), trivial⟩
theorem s_x_barring_choice : FnScope N_x_barring_choice ["table", "side"] (defScope (top 113)) := ⟨rfl, rfl, rfl, by decide +kernel, rfl, by decide +kernel, by decide +kernel⟩
theorem t_x_barring_choice : (tr10 (T.s N_x_barring_choice 5 [("check_system", 2, f_x_check_system)]) (defScope (top 113)) (defBody (top 113))).map (·.m) = some b_x_barring_choice := by kernel_rfl
theorem k_x_barring_choice (X : K.In h) (G : h.Ns mainGlobals mg) (c : He.SaysX (faU T ds ++ fo) fn [] [] (exU T) w h K) : Kp P w K mg base (T.cv K) 6 "barring_choice" 2 f_x_barring_choice := by
  obtain ⟨fd, F⟩ := def_of c (x := "barring_choice") (st := top 113) (List.mem_of_getElem? (i := 39) rfl)
  exact kp_ofO F (glo_of X G c (List.mem_of_getElem? (i := 39) rfl)) (bs_of rfl rfl X G c) s_x_barring_choice rfl (fun _ _ _ _ _ _ us hl => match us, hl with | [_, _], _ => rfl) _ t_x_barring_choice rfl ⟨(k_x_check_system X G c).mono (by decide), trivial⟩
theorem s_x_barring_upward : FnScope N_x_barring_upward ["table", "side"] (defScope (top 114)) := ⟨rfl, rfl, rfl, by decide +kernel, rfl, by decide +kernel, by decide +kernel⟩
theorem t_x_barring_upward : (tr10 (T.s N_x_barring_upward 5 [("check_system", 2, f_x_check_system)]) (defScope (top 114)) (defBody (top 114))).map (·.m) = some b_x_barring_upward := by kernel_rfl
theorem k_x_barring_upward (X : K.In h) (G : h.Ns mainGlobals mg) (c : He.SaysX (faU T ds ++ fo) fn [] [] (exU T) w h K) : Kp P w K mg base (T.cv K) 6 "barring_upward" 2 f_x_barring_upward := by
  obtain ⟨fd, F⟩ := def_of c (x := "barring_upward") (st := top 114) (List.mem_of_getElem? (i := 40) rfl)
  exact kp_ofO F (glo_of X G c (List.mem_of_getElem? (i := 40) rfl)) (bs_of rfl rfl X G c) s_x_barring_upward rfl (fun _ _ _ _ _ _ us hl => match us, hl with | [_, _], _ => rfl) _ t_x_barring_upward rfl ⟨(k_x_check_system X G c).mono (by decide), trivial⟩
theorem s_x_keeps_some : FnScope N_x_keeps_some ["table", "side", "unknowns"] (defScope (top 116)) := ⟨rfl, rfl, rfl, by decide +kernel, rfl, by decide +kernel, by decide +kernel⟩
theorem t_x_keeps_some : (tr10 (T.s N_x_keeps_some 6 [("check_all", 3, f_x_check_all), ("below", 2, f_x_below)]) (defScope (top 116)) (defBody (top 116))).map (·.m) = some b_x_keeps_some := by kernel_rfl
theorem k_x_keeps_some (X : K.In h) (G : h.Ns mainGlobals mg) (c : He.SaysX (faU T ds ++ fo) fn [] [] (exU T) w h K) : Kp P w K mg base (T.cv K) 7 "keeps_some" 3 f_x_keeps_some := by
  obtain ⟨fd, F⟩ := def_of c (x := "keeps_some") (st := top 116) (List.mem_of_getElem? (i := 41) rfl)
  exact kp_ofO F (glo_of X G c (List.mem_of_getElem? (i := 41) rfl)) (bs_of rfl rfl X G c) s_x_keeps_some rfl (fun _ _ _ _ _ _ us hl => match us, hl with | [_, _, _], _ => rfl) _ t_x_keeps_some rfl ⟨(k_x_check_all X G c).mono (by decide), (k_x_below X G c).mono (by decide), trivial⟩
theorem s_x_keeps_all : FnScope N_x_keeps_all ["table", "side", "unknowns"] (defScope (top 117)) := ⟨rfl, rfl, rfl, by decide +kernel, rfl, by decide +kernel, by decide +kernel⟩
theorem t_x_keeps_all : (tr10 (T.s N_x_keeps_all 6 [("check_all", 3, f_x_check_all), ("below", 2, f_x_below)]) (defScope (top 117)) (defBody (top 117))).map (·.m) = some b_x_keeps_all := by kernel_rfl
theorem k_x_keeps_all (X : K.In h) (G : h.Ns mainGlobals mg) (c : He.SaysX (faU T ds ++ fo) fn [] [] (exU T) w h K) : Kp P w K mg base (T.cv K) 7 "keeps_all" 3 f_x_keeps_all := by
  obtain ⟨fd, F⟩ := def_of c (x := "keeps_all") (st := top 117) (List.mem_of_getElem? (i := 42) rfl)
  exact kp_ofO F (glo_of X G c (List.mem_of_getElem? (i := 42) rfl)) (bs_of rfl rfl X G c) s_x_keeps_all rfl (fun _ _ _ _ _ _ us hl => match us, hl with | [_, _, _], _ => rfl) _ t_x_keeps_all rfl ⟨(k_x_check_all X G c).mono (by decide), (k_x_below X G c).mono (by decide), trivial⟩
theorem s_x_can_keep : FnScope N_x_can_keep ["table", "side"] (defScope (top 119)) := ⟨rfl, rfl, rfl, by decide +kernel, rfl, by decide +kernel, by decide +kernel⟩
theorem t_x_can_keep : (tr10 (T.s N_x_can_keep 5 [("check_system", 2, f_x_check_system)]) (defScope (top 119)) (defBody (top 119))).map (·.m) = some b_x_can_keep := by kernel_rfl
theorem k_x_can_keep (X : K.In h) (G : h.Ns mainGlobals mg) (c : He.SaysX (faU T ds ++ fo) fn [] [] (exU T) w h K) : Kp P w K mg base (T.cv K) 6 "can_keep" 2 f_x_can_keep := by
  obtain ⟨fd, F⟩ := def_of c (x := "can_keep") (st := top 119) (List.mem_of_getElem? (i := 43) rfl)
  exact kp_ofO F (glo_of X G c (List.mem_of_getElem? (i := 43) rfl)) (bs_of rfl rfl X G c) s_x_can_keep rfl (fun _ _ _ _ _ _ us hl => match us, hl with | [_, _], _ => rfl) _ t_x_can_keep rfl ⟨(k_x_check_system X G c).mono (by decide), trivial⟩
theorem s_x_keeping : FnScope N_x_keeping ["table", "side"] (defScope (top 120)) := ⟨rfl, rfl, rfl, by decide +kernel, rfl, by decide +kernel, by decide +kernel⟩
theorem t_x_keeping : (tr10 (T.s N_x_keeping 5 [("check_system", 2, f_x_check_system)]) (defScope (top 120)) (defBody (top 120))).map (·.m) = some b_x_keeping := by kernel_rfl
theorem k_x_keeping (X : K.In h) (G : h.Ns mainGlobals mg) (c : He.SaysX (faU T ds ++ fo) fn [] [] (exU T) w h K) : Kp P w K mg base (T.cv K) 6 "keeping" 2 f_x_keeping := by
  obtain ⟨fd, F⟩ := def_of c (x := "keeping") (st := top 120) (List.mem_of_getElem? (i := 44) rfl)
  exact kp_ofO F (glo_of X G c (List.mem_of_getElem? (i := 44) rfl)) (bs_of rfl rfl X G c) s_x_keeping rfl (fun _ _ _ _ _ _ us hl => match us, hl with | [_, _], _ => rfl) _ t_x_keeping rfl ⟨(k_x_check_system X G c).mono (by decide), trivial⟩
theorem s_x_can_keep_each : FnScope N_x_can_keep_each ["table", "side"] (defScope (top 123)) := ⟨rfl, rfl, rfl, by decide +kernel, rfl, by decide +kernel, by decide +kernel⟩
theorem t_x_can_keep_each : (tr10 (T.s N_x_can_keep_each 5 [("check_system", 2, f_x_check_system)]) (defScope (top 123)) (defBody (top 123))).map (·.m) = some b_x_can_keep_each := by kernel_rfl
theorem k_x_can_keep_each (X : K.In h) (G : h.Ns mainGlobals mg) (c : He.SaysX (faU T ds ++ fo) fn [] [] (exU T) w h K) : Kp P w K mg base (T.cv K) 6 "can_keep_each" 2 f_x_can_keep_each := by
  obtain ⟨fd, F⟩ := def_of c (x := "can_keep_each") (st := top 123) (List.mem_of_getElem? (i := 45) rfl)
  exact kp_ofO F (glo_of X G c (List.mem_of_getElem? (i := 45) rfl)) (bs_of rfl rfl X G c) s_x_can_keep_each rfl (fun _ _ _ _ _ _ us hl => match us, hl with | [_, _], _ => rfl) _ t_x_can_keep_each rfl ⟨(k_x_check_system X G c).mono (by decide), trivial⟩
theorem s_x_keeping_all : FnScope N_x_keeping_all ["table", "side"] (defScope (top 124)) := ⟨rfl, rfl, rfl, by decide +kernel, rfl, by decide +kernel, by decide +kernel⟩
theorem t_x_keeping_all : (tr10 (T.s N_x_keeping_all 5 [("check_system", 2, f_x_check_system)]) (defScope (top 124)) (defBody (top 124))).map (·.m) = some b_x_keeping_all := by kernel_rfl
theorem k_x_keeping_all (X : K.In h) (G : h.Ns mainGlobals mg) (c : He.SaysX (faU T ds ++ fo) fn [] [] (exU T) w h K) : Kp P w K mg base (T.cv K) 6 "keeping_all" 2 f_x_keeping_all := by
  obtain ⟨fd, F⟩ := def_of c (x := "keeping_all") (st := top 124) (List.mem_of_getElem? (i := 46) rfl)
  exact kp_ofO F (glo_of X G c (List.mem_of_getElem? (i := 46) rfl)) (bs_of rfl rfl X G c) s_x_keeping_all rfl (fun _ _ _ _ _ _ us hl => match us, hl with | [_, _], _ => rfl) _ t_x_keeping_all rfl ⟨(k_x_check_system X G c).mono (by decide), trivial⟩
theorem s_x_breaking_choice : FnScope N_x_breaking_choice ["table", "side"] (defScope (top 125)) := ⟨rfl, rfl, rfl, by decide +kernel, rfl, by decide +kernel, by decide +kernel⟩
theorem t_x_breaking_choice : (tr10 (T.s N_x_breaking_choice 5 [("check_system", 2, f_x_check_system)]) (defScope (top 125)) (defBody (top 125))).map (·.m) = some b_x_breaking_choice := by kernel_rfl
theorem k_x_breaking_choice (X : K.In h) (G : h.Ns mainGlobals mg) (c : He.SaysX (faU T ds ++ fo) fn [] [] (exU T) w h K) : Kp P w K mg base (T.cv K) 6 "breaking_choice" 2 f_x_breaking_choice := by
  obtain ⟨fd, F⟩ := def_of c (x := "breaking_choice") (st := top 125) (List.mem_of_getElem? (i := 47) rfl)
  exact kp_ofO F (glo_of X G c (List.mem_of_getElem? (i := 47) rfl)) (bs_of rfl rfl X G c) s_x_breaking_choice rfl (fun _ _ _ _ _ _ us hl => match us, hl with | [_, _], _ => rfl) _ t_x_breaking_choice rfl ⟨(k_x_check_system X G c).mono (by decide), trivial⟩
theorem s_x_is_sure : FnScope N_x_is_sure ["table"] (defScope (top 130)) := ⟨rfl, rfl, rfl, by decide +kernel, rfl, by decide +kernel, by decide +kernel⟩
theorem t_x_is_sure : (tr10 (T.s N_x_is_sure 5 [("check_square", 1, f_x_check_square)]) (defScope (top 130)) (defBody (top 130))).map (·.m) = some b_x_is_sure := by kernel_rfl
theorem k_x_is_sure (X : K.In h) (G : h.Ns mainGlobals mg) (c : He.SaysX (faU T ds ++ fo) fn [] [] (exU T) w h K) : Kp P w K mg base (T.cv K) 6 "is_sure" 1 f_x_is_sure := by
  obtain ⟨fd, F⟩ := def_of c (x := "is_sure") (st := top 130) (List.mem_of_getElem? (i := 48) rfl)
  exact kp_ofO F (glo_of X G c (List.mem_of_getElem? (i := 48) rfl)) (bs_of rfl rfl X G c) s_x_is_sure rfl (fun _ _ _ _ _ _ us hl => match us, hl with | [_], _ => rfl) _ t_x_is_sure rfl ⟨(k_x_check_square X G c).mono (by decide), trivial⟩
theorem s_x_singular_choice : FnScope N_x_singular_choice ["table"] (defScope (top 133)) := ⟨rfl, rfl, rfl, by decide +kernel, rfl, by decide +kernel, by decide +kernel⟩
theorem t_x_singular_choice : (tr10 (T.s N_x_singular_choice 5 [("check_square", 1, f_x_check_square)]) (defScope (top 133)) (defBody (top 133))).map (·.m) = some b_x_singular_choice := by kernel_rfl
theorem k_x_singular_choice (X : K.In h) (G : h.Ns mainGlobals mg) (c : He.SaysX (faU T ds ++ fo) fn [] [] (exU T) w h K) : Kp P w K mg base (T.cv K) 6 "singular_choice" 1 f_x_singular_choice := by
  obtain ⟨fd, F⟩ := def_of c (x := "singular_choice") (st := top 133) (List.mem_of_getElem? (i := 49) rfl)
  exact kp_ofO F (glo_of X G c (List.mem_of_getElem? (i := 49) rfl)) (bs_of rfl rfl X G c) s_x_singular_choice rfl (fun _ _ _ _ _ _ us hl => match us, hl with | [_], _ => rfl) _ t_x_singular_choice rfl ⟨(k_x_check_square X G c).mono (by decide), trivial⟩
theorem s_x_open_cells : FnScope N_x_open_cells ["table"] (defScope (top 136)) := ⟨rfl, rfl, rfl, by decide +kernel, rfl, by decide +kernel, by decide +kernel⟩
theorem t_x_open_cells : (tr10 (T.s N_x_open_cells 4 [("check_table", 1, f_x_check_table)]) (defScope (top 136)) (defBody (top 136))).map (·.m) = some b_x_open_cells := by kernel_rfl
theorem k_x_open_cells (X : K.In h) (G : h.Ns mainGlobals mg) (c : He.SaysX (faU T ds ++ fo) fn [] [] (exU T) w h K) : Kp P w K mg base (T.cv K) 5 "open_cells" 1 f_x_open_cells := by
  obtain ⟨fd, F⟩ := def_of c (x := "open_cells") (st := top 136) (List.mem_of_getElem? (i := 50) rfl)
  exact kp_ofO F (glo_of X G c (List.mem_of_getElem? (i := 50) rfl)) (bs_of rfl rfl X G c) s_x_open_cells rfl (fun _ _ _ _ _ _ us hl => match us, hl with | [_], _ => rfl) _ t_x_open_cells rfl ⟨(k_x_check_table X G c).mono (by decide), trivial⟩
theorem s_x_check_told : FnScope N_x_check_told ["table", "told"] (defScope (top 138)) := ⟨rfl, rfl, rfl, by decide +kernel, rfl, by decide +kernel, by decide +kernel⟩
theorem t_x_check_told : (tr10 (T.s N_x_check_told 1 [("in_range", 3, f_x_in_range)]) (defScope (top 138)) (defBody (top 138))).map (·.m) = some b_x_check_told := by kernel_rfl
theorem k_x_check_told (X : K.In h) (G : h.Ns mainGlobals mg) (c : He.SaysX (faU T ds ++ fo) fn [] [] (exU T) w h K) : Kp P w K mg base (T.cv K) 2 "check_told" 2 f_x_check_told := by
  obtain ⟨fd, F⟩ := def_of c (x := "check_told") (st := top 138) (List.mem_of_getElem? (i := 51) rfl)
  exact kp_ofO F (glo_of X G c (List.mem_of_getElem? (i := 51) rfl)) (bs_of rfl rfl X G c) s_x_check_told rfl (fun _ _ _ _ _ _ us hl => match us, hl with | [_, _], _ => rfl) _ t_x_check_told rfl ⟨(k_x_in_range X G c).mono (by decide), trivial⟩
theorem s_x_is_place : FnScope N_x_is_place ["table", "value"] (defScope (top 141)) := ⟨rfl, rfl, rfl, by decide +kernel, rfl, by decide +kernel, by decide +kernel⟩
theorem t_x_is_place : (tr10 (T.s N_x_is_place 1 [("in_range", 3, f_x_in_range)]) (defScope (top 141)) (defBody (top 141))).map (·.m) = some b_x_is_place := by kernel_rfl
theorem k_x_is_place (X : K.In h) (G : h.Ns mainGlobals mg) (c : He.SaysX (faU T ds ++ fo) fn [] [] (exU T) w h K) : Kp P w K mg base (T.cv K) 2 "is_place" 2 f_x_is_place := by
  obtain ⟨fd, F⟩ := def_of c (x := "is_place") (st := top 141) (List.mem_of_getElem? (i := 52) rfl)
  exact kp_ofO F (glo_of X G c (List.mem_of_getElem? (i := 52) rfl)) (bs_of rfl rfl X G c) s_x_is_place rfl (fun _ _ _ _ _ _ us hl => match us, hl with | [_, _], _ => rfl) _ t_x_is_place rfl ⟨(k_x_in_range X G c).mono (by decide), trivial⟩
theorem s_x_check_cells : FnScope N_x_check_cells ["table", "cells"] (defScope (top 140)) := ⟨rfl, rfl, rfl, by decide +kernel, rfl, by decide +kernel, by decide +kernel⟩
theorem t_x_check_cells : (tr10 (T.s N_x_check_cells 2 [("is_place", 2, f_x_is_place)]) (defScope (top 140)) (defBody (top 140))).map (·.m) = some b_x_check_cells := by kernel_rfl
theorem k_x_check_cells (X : K.In h) (G : h.Ns mainGlobals mg) (c : He.SaysX (faU T ds ++ fo) fn [] [] (exU T) w h K) : Kp P w K mg base (T.cv K) 3 "check_cells" 2 f_x_check_cells := by
  obtain ⟨fd, F⟩ := def_of c (x := "check_cells") (st := top 140) (List.mem_of_getElem? (i := 53) rfl)
  exact kp_ofO F (glo_of X G c (List.mem_of_getElem? (i := 53) rfl)) (bs_of rfl rfl X G c) s_x_check_cells rfl (fun _ _ _ _ _ _ us hl => match us, hl with | [_, _], _ => rfl) _ t_x_check_cells rfl ⟨(k_x_is_place X G c).mono (by decide), trivial⟩
theorem s_x_fixed : FnScope N_x_fixed ["table", "told", "cells"] (defScope (top 142)) := ⟨rfl, rfl, rfl, by decide +kernel, rfl, by decide +kernel, by decide +kernel⟩
theorem t_x_fixed : (tr10 (T.s N_x_fixed 4 [("check_table", 1, f_x_check_table), ("check_told", 2, f_x_check_told), ("check_cells", 2, f_x_check_cells)]) (defScope (top 142)) (defBody (top 142))).map (·.m) = some b_x_fixed := by kernel_rfl
theorem k_x_fixed (X : K.In h) (G : h.Ns mainGlobals mg) (c : He.SaysX (faU T ds ++ fo) fn [] [] (exU T) w h K) : Kp P w K mg base (T.cv K) 5 "fixed" 3 f_x_fixed := by
  obtain ⟨fd, F⟩ := def_of c (x := "fixed") (st := top 142) (List.mem_of_getElem? (i := 54) rfl)
  exact kp_ofO F (glo_of X G c (List.mem_of_getElem? (i := 54) rfl)) (bs_of rfl rfl X G c) s_x_fixed rfl (fun _ _ _ _ _ _ us hl => match us, hl with | [_, _, _], _ => rfl) _ t_x_fixed rfl ⟨(k_x_check_table X G c).mono (by decide), (k_x_check_told X G c).mono (by decide), (k_x_check_cells X G c).mono (by decide), trivial⟩
theorem s_x_fewest_fixed : FnScope N_x_fewest_fixed ["table", "told"] (defScope (top 144)) := ⟨rfl, rfl, rfl, by decide +kernel, rfl, by decide +kernel, by decide +kernel⟩
theorem t_x_fewest_fixed : (tr10 (T.s N_x_fewest_fixed 5 [("check_square", 1, f_x_check_square), ("check_told", 2, f_x_check_told)]) (defScope (top 144)) (defBody (top 144))).map (·.m) = some b_x_fewest_fixed := by kernel_rfl
theorem k_x_fewest_fixed (X : K.In h) (G : h.Ns mainGlobals mg) (c : He.SaysX (faU T ds ++ fo) fn [] [] (exU T) w h K) : Kp P w K mg base (T.cv K) 6 "fewest_fixed" 2 f_x_fewest_fixed := by
  obtain ⟨fd, F⟩ := def_of c (x := "fewest_fixed") (st := top 144) (List.mem_of_getElem? (i := 55) rfl)
  exact kp_ofO F (glo_of X G c (List.mem_of_getElem? (i := 55) rfl)) (bs_of rfl rfl X G c) s_x_fewest_fixed rfl (fun _ _ _ _ _ _ us hl => match us, hl with | [_, _], _ => rfl) _ t_x_fewest_fixed rfl ⟨(k_x_check_square X G c).mono (by decide), (k_x_check_told X G c).mono (by decide), trivial⟩
theorem s_x_end_choices_of : FnScope N_x_end_choices_of ["table"] (defScope (top 147)) := ⟨rfl, rfl, rfl, by decide +kernel, rfl, by decide +kernel, by decide +kernel⟩
theorem t_x_end_choices_of : (tr10 (T.s N_x_end_choices_of 4 [("check_table", 1, f_x_check_table)]) (defScope (top 147)) (defBody (top 147))).map (·.m) = some b_x_end_choices_of := by kernel_rfl
theorem k_x_end_choices_of (X : K.In h) (G : h.Ns mainGlobals mg) (c : He.SaysX (faU T ds ++ fo) fn [] [] (exU T) w h K) : Kp P w K mg base (T.cv K) 5 "end_choices_of" 1 f_x_end_choices_of := by
  obtain ⟨fd, F⟩ := def_of c (x := "end_choices_of") (st := top 147) (List.mem_of_getElem? (i := 56) rfl)
  exact kp_ofO F (glo_of X G c (List.mem_of_getElem? (i := 56) rfl)) (bs_of rfl rfl X G c) s_x_end_choices_of rfl (fun _ _ _ _ _ _ us hl => match us, hl with | [_], _ => rfl) _ t_x_end_choices_of rfl ⟨(k_x_check_table X G c).mono (by decide), trivial⟩
theorem s_x_naive_sure : FnScope N_x_naive_sure ["table"] (defScope (top 148)) := ⟨rfl, rfl, rfl, by decide +kernel, rfl, by decide +kernel, by decide +kernel⟩
theorem t_x_naive_sure : (tr10 (T.s N_x_naive_sure 5 [("check_square", 1, f_x_check_square)]) (defScope (top 148)) (defBody (top 148))).map (·.m) = some b_x_naive_sure := by kernel_rfl
theorem k_x_naive_sure (X : K.In h) (G : h.Ns mainGlobals mg) (c : He.SaysX (faU T ds ++ fo) fn [] [] (exU T) w h K) : Kp P w K mg base (T.cv K) 6 "naive_sure" 1 f_x_naive_sure := by
  obtain ⟨fd, F⟩ := def_of c (x := "naive_sure") (st := top 148) (List.mem_of_getElem? (i := 57) rfl)
  exact kp_ofO F (glo_of X G c (List.mem_of_getElem? (i := 57) rfl)) (bs_of rfl rfl X G c) s_x_naive_sure rfl (fun _ _ _ _ _ _ us hl => match us, hl with | [_], _ => rfl) _ t_x_naive_sure rfl ⟨(k_x_check_square X G c).mono (by decide), trivial⟩
theorem s_x_whole_solutions : FnScope N_x_whole_solutions ["table", "side", "most"] (defScope (top 149)) := ⟨rfl, rfl, rfl, by decide +kernel, rfl, by decide +kernel, by decide +kernel⟩
theorem t_x_whole_solutions : (tr10 (T.s N_x_whole_solutions 5 [("check_system", 2, f_x_check_system), ("in_range", 3, f_x_in_range)]) (defScope (top 149)) (defBody (top 149))).map (·.m) = some b_x_whole_solutions := by kernel_rfl
theorem k_x_whole_solutions (X : K.In h) (G : h.Ns mainGlobals mg) (c : He.SaysX (faU T ds ++ fo) fn [] [] (exU T) w h K) : Kp P w K mg base (T.cv K) 6 "whole_solutions" 3 f_x_whole_solutions := by
  obtain ⟨fd, F⟩ := def_of c (x := "whole_solutions") (st := top 149) (List.mem_of_getElem? (i := 58) rfl)
  exact kp_ofO F (glo_of X G c (List.mem_of_getElem? (i := 58) rfl)) (bs_of rfl rfl X G c) s_x_whole_solutions rfl (fun _ _ _ _ _ _ us hl => match us, hl with | [_, _, _], _ => rfl) _ t_x_whole_solutions rfl ⟨(k_x_check_system X G c).mono (by decide), (k_x_in_range X G c).mono (by decide), trivial⟩
theorem s_x_can_solve : FnScope N_x_can_solve ["table", "side"] (defScope (top 152)) := ⟨rfl, rfl, rfl, by decide +kernel, rfl, by decide +kernel, by decide +kernel⟩
theorem t_x_can_solve : (tr10 (T.s N_x_can_solve 5 [("check_system", 2, f_x_check_system)]) (defScope (top 152)) (defBody (top 152))).map (·.m) = some b_x_can_solve := by kernel_rfl
theorem k_x_can_solve (X : K.In h) (G : h.Ns mainGlobals mg) (c : He.SaysX (faU T ds ++ fo) fn [] [] (exU T) w h K) : Kp P w K mg base (T.cv K) 6 "can_solve" 2 f_x_can_solve := by
  obtain ⟨fd, F⟩ := def_of c (x := "can_solve") (st := top 152) (List.mem_of_getElem? (i := 59) rfl)
  exact kp_ofO F (glo_of X G c (List.mem_of_getElem? (i := 59) rfl)) (bs_of rfl rfl X G c) s_x_can_solve rfl (fun _ _ _ _ _ _ us hl => match us, hl with | [_, _], _ => rfl) _ t_x_can_solve rfl ⟨(k_x_check_system X G c).mono (by decide), trivial⟩
theorem s_x_a_solution : FnScope N_x_a_solution ["table", "side"] (defScope (top 153)) := ⟨rfl, rfl, rfl, by decide +kernel, rfl, by decide +kernel, by decide +kernel⟩
theorem t_x_a_solution : (tr10 (T.s N_x_a_solution 5 [("check_system", 2, f_x_check_system)]) (defScope (top 153)) (defBody (top 153))).map (·.m) = some b_x_a_solution := by kernel_rfl
theorem k_x_a_solution (X : K.In h) (G : h.Ns mainGlobals mg) (c : He.SaysX (faU T ds ++ fo) fn [] [] (exU T) w h K) : Kp P w K mg base (T.cv K) 6 "a_solution" 2 f_x_a_solution := by
  obtain ⟨fd, F⟩ := def_of c (x := "a_solution") (st := top 153) (List.mem_of_getElem? (i := 60) rfl)
  exact kp_ofO F (glo_of X G c (List.mem_of_getElem? (i := 60) rfl)) (bs_of rfl rfl X G c) s_x_a_solution rfl (fun _ _ _ _ _ _ us hl => match us, hl with | [_, _], _ => rfl) _ t_x_a_solution rfl ⟨(k_x_check_system X G c).mono (by decide), trivial⟩
theorem s_x_papers : FnScope N_x_papers ["table", "side"] (defScope (top 155)) := ⟨rfl, rfl, rfl, by decide +kernel, rfl, by decide +kernel, by decide +kernel⟩
theorem t_x_papers : (tr10 (T.s N_x_papers 5 [("check_system", 2, f_x_check_system)]) (defScope (top 155)) (defBody (top 155))).map (·.m) = some b_x_papers := by kernel_rfl
theorem k_x_papers (X : K.In h) (G : h.Ns mainGlobals mg) (c : He.SaysX (faU T ds ++ fo) fn [] [] (exU T) w h K) : Kp P w K mg base (T.cv K) 6 "papers" 2 f_x_papers := by
  obtain ⟨fd, F⟩ := def_of c (x := "papers") (st := top 155) (List.mem_of_getElem? (i := 61) rfl)
  exact kp_ofO F (glo_of X G c (List.mem_of_getElem? (i := 61) rfl)) (bs_of rfl rfl X G c) s_x_papers rfl (fun _ _ _ _ _ _ us hl => match us, hl with | [_, _], _ => rfl) _ t_x_papers rfl ⟨(k_x_check_system X G c).mono (by decide), trivial⟩
theorem s_x_are_papers : FnScope N_x_are_papers ["table", "side", "value"] (defScope (top 157)) := ⟨rfl, rfl, rfl, by decide +kernel, rfl, by decide +kernel, by decide +kernel⟩
theorem t_x_are_papers : (tr10 (T.s N_x_are_papers 5 [("check_system", 2, f_x_check_system)]) (defScope (top 157)) (defBody (top 157))).map (·.m) = some b_x_are_papers := by kernel_rfl
theorem k_x_are_papers (X : K.In h) (G : h.Ns mainGlobals mg) (c : He.SaysX (faU T ds ++ fo) fn [] [] (exU T) w h K) : Kp P w K mg base (T.cv K) 6 "are_papers" 3 f_x_are_papers := by
  obtain ⟨fd, F⟩ := def_of c (x := "are_papers") (st := top 157) (List.mem_of_getElem? (i := 62) rfl)
  exact kp_ofO F (glo_of X G c (List.mem_of_getElem? (i := 62) rfl)) (bs_of rfl rfl X G c) s_x_are_papers rfl (fun _ _ _ _ _ _ us hl => match us, hl with | [_, _, _], _ => rfl) _ t_x_are_papers rfl ⟨(k_x_check_system X G c).mono (by decide), trivial⟩
theorem s_x_unknown_span : FnScope N_x_unknown_span ["table", "side", "index"] (defScope (top 163)) := ⟨rfl, rfl, rfl, by decide +kernel, rfl, by decide +kernel, by decide +kernel⟩
theorem t_x_unknown_span : (tr10 (T.s N_x_unknown_span 5 [("check_system", 2, f_x_check_system), ("check_index", 2, f_x_check_index)]) (defScope (top 163)) (defBody (top 163))).map (·.m) = some b_x_unknown_span := by kernel_rfl
theorem k_x_unknown_span (X : K.In h) (G : h.Ns mainGlobals mg) (c : He.SaysX (faU T ds ++ fo) fn [] [] (exU T) w h K) : Kp P w K mg base (T.cv K) 6 "unknown_span" 3 f_x_unknown_span := by
  obtain ⟨fd, F⟩ := def_of c (x := "unknown_span") (st := top 163) (List.mem_of_getElem? (i := 63) rfl)
  exact kp_ofO F (glo_of X G c (List.mem_of_getElem? (i := 63) rfl)) (bs_of rfl rfl X G c) s_x_unknown_span rfl (fun _ _ _ _ _ _ us hl => match us, hl with | [_, _, _], _ => rfl) _ t_x_unknown_span rfl ⟨(k_x_check_system X G c).mono (by decide), (k_x_check_index X G c).mono (by decide), trivial⟩
theorem s_x_reaching : FnScope N_x_reaching ["table", "side", "index", "goal"] (defScope (top 164)) := ⟨rfl, rfl, rfl, by decide +kernel, rfl, by decide +kernel, by decide +kernel⟩
theorem t_x_reaching : (tr10 (T.s N_x_reaching 5 [("check_system", 2, f_x_check_system), ("check_index", 2, f_x_check_index), ("in_range", 3, f_x_in_range)]) (defScope (top 164)) (defBody (top 164))).map (·.m) = some b_x_reaching := by kernel_rfl
theorem k_x_reaching (X : K.In h) (G : h.Ns mainGlobals mg) (c : He.SaysX (faU T ds ++ fo) fn [] [] (exU T) w h K) : Kp P w K mg base (T.cv K) 6 "reaching" 4 f_x_reaching := by
  obtain ⟨fd, F⟩ := def_of c (x := "reaching") (st := top 164) (List.mem_of_getElem? (i := 64) rfl)
  exact kp_ofO F (glo_of X G c (List.mem_of_getElem? (i := 64) rfl)) (bs_of rfl rfl X G c) s_x_reaching rfl (fun _ _ _ _ _ _ us hl => match us, hl with | [_, _, _, _], _ => rfl) _ t_x_reaching rfl ⟨(k_x_check_system X G c).mono (by decide), (k_x_check_index X G c).mono (by decide), (k_x_in_range X G c).mono (by decide), trivial⟩
theorem s_x_sure_signs : FnScope N_x_sure_signs ["table", "side"] (defScope (top 165)) := ⟨rfl, rfl, rfl, by decide +kernel, rfl, by decide +kernel, by decide +kernel⟩
theorem t_x_sure_signs : (tr10 (T.s N_x_sure_signs 5 [("check_system", 2, f_x_check_system)]) (defScope (top 165)) (defBody (top 165))).map (·.m) = some b_x_sure_signs := by kernel_rfl
theorem k_x_sure_signs (X : K.In h) (G : h.Ns mainGlobals mg) (c : He.SaysX (faU T ds ++ fo) fn [] [] (exU T) w h K) : Kp P w K mg base (T.cv K) 6 "sure_signs" 2 f_x_sure_signs := by
  obtain ⟨fd, F⟩ := def_of c (x := "sure_signs") (st := top 165) (List.mem_of_getElem? (i := 65) rfl)
  exact kp_ofO F (glo_of X G c (List.mem_of_getElem? (i := 65) rfl)) (bs_of rfl rfl X G c) s_x_sure_signs rfl (fun _ _ _ _ _ _ us hl => match us, hl with | [_, _], _ => rfl) _ t_x_sure_signs rfl ⟨(k_x_check_system X G c).mono (by decide), trivial⟩
theorem s_x_inverse_span : FnScope N_x_inverse_span ["table", "row", "column"] (defScope (top 167)) := ⟨rfl, rfl, rfl, by decide +kernel, rfl, by decide +kernel, by decide +kernel⟩
theorem t_x_inverse_span : (tr10 (T.s N_x_inverse_span 5 [("check_square", 1, f_x_check_square), ("in_range", 3, f_x_in_range)]) (defScope (top 167)) (defBody (top 167))).map (·.m) = some b_x_inverse_span := by kernel_rfl
theorem k_x_inverse_span (X : K.In h) (G : h.Ns mainGlobals mg) (c : He.SaysX (faU T ds ++ fo) fn [] [] (exU T) w h K) : Kp P w K mg base (T.cv K) 6 "inverse_span" 3 f_x_inverse_span := by
  obtain ⟨fd, F⟩ := def_of c (x := "inverse_span") (st := top 167) (List.mem_of_getElem? (i := 66) rfl)
  exact kp_ofO F (glo_of X G c (List.mem_of_getElem? (i := 66) rfl)) (bs_of rfl rfl X G c) s_x_inverse_span rfl (fun _ _ _ _ _ _ us hl => match us, hl with | [_, _, _], _ => rfl) _ t_x_inverse_span rfl ⟨(k_x_check_square X G c).mono (by decide), (k_x_in_range X G c).mono (by decide), trivial⟩
theorem s_x_format_table : FnScope N_x_format_table ["table"] (defScope (top 173)) := ⟨rfl, rfl, rfl, by decide +kernel, rfl, by decide +kernel, by decide +kernel⟩
theorem t_x_format_table : (tr10 (T.s N_x_format_table 4 [("check_table", 1, f_x_check_table)]) (defScope (top 173)) (defBody (top 173))).map (·.m) = some b_x_format_table := by kernel_rfl
theorem k_x_format_table (X : K.In h) (G : h.Ns mainGlobals mg) (c : He.SaysX (faU T ds ++ fo) fn [] [] (exU T) w h K) : Kp P w K mg base (T.cv K) 5 "format_table" 1 f_x_format_table := by
  obtain ⟨fd, F⟩ := def_of c (x := "format_table") (st := top 173) (List.mem_of_getElem? (i := 67) rfl)
  exact kp_ofO F (glo_of X G c (List.mem_of_getElem? (i := 67) rfl)) (bs_of rfl rfl X G c) s_x_format_table rfl (fun _ _ _ _ _ _ us hl => match us, hl with | [_], _ => rfl) _ t_x_format_table rfl ⟨(k_x_check_table X G c).mono (by decide), trivial⟩
theorem s_x_format_side : FnScope N_x_format_side ["side"] (defScope (top 174)) := ⟨rfl, rfl, rfl, by decide +kernel, rfl, by decide +kernel, by decide +kernel⟩
theorem t_x_format_side : (tr10 (T.s N_x_format_side 3 [("is_side", 1, f_x_is_side)]) (defScope (top 174)) (defBody (top 174))).map (·.m) = some b_x_format_side := by kernel_rfl
theorem k_x_format_side (X : K.In h) (G : h.Ns mainGlobals mg) (c : He.SaysX (faU T ds ++ fo) fn [] [] (exU T) w h K) : Kp P w K mg base (T.cv K) 4 "format_side" 1 f_x_format_side := by
  obtain ⟨fd, F⟩ := def_of c (x := "format_side") (st := top 174) (List.mem_of_getElem? (i := 68) rfl)
  exact kp_ofO F (glo_of X G c (List.mem_of_getElem? (i := 68) rfl)) (bs_of rfl rfl X G c) s_x_format_side rfl (fun _ _ _ _ _ _ us hl => match us, hl with | [_], _ => rfl) _ t_x_format_side rfl ⟨(k_x_is_side X G c).mono (by decide), trivial⟩
theorem s_x_number_of : FnScope N_x_number_of ["word"] (defScope (top 175)) := ⟨rfl, rfl, rfl, by decide +kernel, rfl, by decide +kernel, by decide +kernel⟩
theorem t_x_number_of : (tr10 (T.s N_x_number_of 0 []) (defScope (top 175)) (defBody (top 175))).map (·.m) = some b_x_number_of := by kernel_rfl
theorem k_x_number_of (X : K.In h) (G : h.Ns mainGlobals mg) (c : He.SaysX (faU T ds ++ fo) fn [] [] (exU T) w h K) : Kp P w K mg base (T.cv K) 1 "number_of" 1 f_x_number_of := by
  obtain ⟨fd, F⟩ := def_of c (x := "number_of") (st := top 175) (List.mem_of_getElem? (i := 69) rfl)
  exact kp_ofO F (glo_of X G c (List.mem_of_getElem? (i := 69) rfl)) (bs_of rfl rfl X G c) s_x_number_of rfl (fun _ _ _ _ _ _ us hl => match us, hl with | [_], _ => rfl) _ t_x_number_of rfl trivial
theorem s_x_cell_of : FnScope N_x_cell_of ["word"] (defScope (top 176)) := ⟨rfl, rfl, rfl, by decide +kernel, rfl, by decide +kernel, by decide +kernel⟩
theorem t_x_cell_of : (tr10 (T.s N_x_cell_of 1 [("number_of", 1, f_x_number_of)]) (defScope (top 176)) (defBody (top 176))).map (·.m) = some b_x_cell_of := by kernel_rfl
theorem k_x_cell_of (X : K.In h) (G : h.Ns mainGlobals mg) (c : He.SaysX (faU T ds ++ fo) fn [] [] (exU T) w h K) : Kp P w K mg base (T.cv K) 2 "cell_of" 1 f_x_cell_of := by
  obtain ⟨fd, F⟩ := def_of c (x := "cell_of") (st := top 176) (List.mem_of_getElem? (i := 70) rfl)
  exact kp_ofO F (glo_of X G c (List.mem_of_getElem? (i := 70) rfl)) (bs_of rfl rfl X G c) s_x_cell_of rfl (fun _ _ _ _ _ _ us hl => match us, hl with | [_], _ => rfl) _ t_x_cell_of rfl ⟨(k_x_number_of X G c).mono (by decide), trivial⟩
theorem s_x_row_of : FnScope N_x_row_of ["text"] (defScope (top 177)) := ⟨rfl, rfl, rfl, by decide +kernel, rfl, by decide +kernel, by decide +kernel⟩
theorem t_x_row_of : (tr10 (T.s N_x_row_of 2 [("cell_of", 1, f_x_cell_of)]) (defScope (top 177)) (defBody (top 177))).map (·.m) = some b_x_row_of := by kernel_rfl
theorem k_x_row_of (X : K.In h) (G : h.Ns mainGlobals mg) (c : He.SaysX (faU T ds ++ fo) fn [] [] (exU T) w h K) : Kp P w K mg base (T.cv K) 3 "row_of" 1 f_x_row_of := by
  obtain ⟨fd, F⟩ := def_of c (x := "row_of") (st := top 177) (List.mem_of_getElem? (i := 71) rfl)
  exact kp_ofO F (glo_of X G c (List.mem_of_getElem? (i := 71) rfl)) (bs_of rfl rfl X G c) s_x_row_of rfl (fun _ _ _ _ _ _ us hl => match us, hl with | [_], _ => rfl) _ t_x_row_of rfl ⟨(k_x_cell_of X G c).mono (by decide), trivial⟩
theorem s_x_parse_table : FnScope N_x_parse_table ["text"] (defScope (top 178)) := ⟨rfl, rfl, rfl, by decide +kernel, rfl, by decide +kernel, by decide +kernel⟩
theorem t_x_parse_table : (tr10 (T.s N_x_parse_table 3 [("row_of", 1, f_x_row_of), ("is_table", 1, f_x_is_table)]) (defScope (top 178)) (defBody (top 178))).map (·.m) = some b_x_parse_table := by kernel_rfl
theorem k_x_parse_table (X : K.In h) (G : h.Ns mainGlobals mg) (c : He.SaysX (faU T ds ++ fo) fn [] [] (exU T) w h K) : Kp P w K mg base (T.cv K) 4 "parse_table" 1 f_x_parse_table := by
  obtain ⟨fd, F⟩ := def_of c (x := "parse_table") (st := top 178) (List.mem_of_getElem? (i := 72) rfl)
  exact kp_ofO F (glo_of X G c (List.mem_of_getElem? (i := 72) rfl)) (bs_of rfl rfl X G c) s_x_parse_table rfl (fun _ _ _ _ _ _ us hl => match us, hl with | [_], _ => rfl) _ t_x_parse_table rfl ⟨(k_x_row_of X G c).mono (by decide), (k_x_is_table X G c).mono (by decide), trivial⟩
theorem s_x_parse_side : FnScope N_x_parse_side ["text"] (defScope (top 179)) := ⟨rfl, rfl, rfl, by decide +kernel, rfl, by decide +kernel, by decide +kernel⟩
theorem t_x_parse_side : (tr10 (T.s N_x_parse_side 3 [("row_of", 1, f_x_row_of), ("is_side", 1, f_x_is_side)]) (defScope (top 179)) (defBody (top 179))).map (·.m) = some b_x_parse_side := by kernel_rfl
theorem k_x_parse_side (X : K.In h) (G : h.Ns mainGlobals mg) (c : He.SaysX (faU T ds ++ fo) fn [] [] (exU T) w h K) : Kp P w K mg base (T.cv K) 4 "parse_side" 1 f_x_parse_side := by
  obtain ⟨fd, F⟩ := def_of c (x := "parse_side") (st := top 179) (List.mem_of_getElem? (i := 73) rfl)
  exact kp_ofO F (glo_of X G c (List.mem_of_getElem? (i := 73) rfl)) (bs_of rfl rfl X G c) s_x_parse_side rfl (fun _ _ _ _ _ _ us hl => match us, hl with | [_], _ => rfl) _ t_x_parse_side rfl ⟨(k_x_row_of X G c).mono (by decide), (k_x_is_side X G c).mono (by decide), trivial⟩
theorem s_x_can_solve_upward : FnScope N_x_can_solve_upward ["table", "side"] (defScope (top 181)) := ⟨rfl, rfl, rfl, by decide +kernel, rfl, by decide +kernel, by decide +kernel⟩
theorem t_x_can_solve_upward : (tr10 (T.s N_x_can_solve_upward 5 [("check_system", 2, f_x_check_system)]) (defScope (top 181)) (defBody (top 181))).map (·.m) = some b_x_can_solve_upward := by kernel_rfl
theorem k_x_can_solve_upward (X : K.In h) (G : h.Ns mainGlobals mg) (c : He.SaysX (faU T ds ++ fo) fn [] [] (exU T) w h K) : Kp P w K mg base (T.cv K) 6 "can_solve_upward" 2 f_x_can_solve_upward := by
  obtain ⟨fd, F⟩ := def_of c (x := "can_solve_upward") (st := top 181) (List.mem_of_getElem? (i := 74) rfl)
  exact kp_ofO F (glo_of X G c (List.mem_of_getElem? (i := 74) rfl)) (bs_of rfl rfl X G c) s_x_can_solve_upward rfl (fun _ _ _ _ _ _ us hl => match us, hl with | [_, _], _ => rfl) _ t_x_can_solve_upward rfl ⟨(k_x_check_system X G c).mono (by decide), trivial⟩
theorem s_x_an_upward_solution : FnScope N_x_an_upward_solution ["table", "side"] (defScope (top 182)) := ⟨rfl, rfl, rfl, by decide +kernel, rfl, by decide +kernel, by decide +kernel⟩
theorem t_x_an_upward_solution : (tr10 (T.s N_x_an_upward_solution 5 [("check_system", 2, f_x_check_system)]) (defScope (top 182)) (defBody (top 182))).map (·.m) = some b_x_an_upward_solution := by kernel_rfl
theorem k_x_an_upward_solution (X : K.In h) (G : h.Ns mainGlobals mg) (c : He.SaysX (faU T ds ++ fo) fn [] [] (exU T) w h K) : Kp P w K mg base (T.cv K) 6 "an_upward_solution" 2 f_x_an_upward_solution := by
  obtain ⟨fd, F⟩ := def_of c (x := "an_upward_solution") (st := top 182) (List.mem_of_getElem? (i := 75) rfl)
  exact kp_ofO F (glo_of X G c (List.mem_of_getElem? (i := 75) rfl)) (bs_of rfl rfl X G c) s_x_an_upward_solution rfl (fun _ _ _ _ _ _ us hl => match us, hl with | [_, _], _ => rfl) _ t_x_an_upward_solution rfl ⟨(k_x_check_system X G c).mono (by decide), trivial⟩
theorem s_x_upward_paper : FnScope N_x_upward_paper ["table", "side"] (defScope (top 183)) := ⟨rfl, rfl, rfl, by decide +kernel, rfl, by decide +kernel, by decide +kernel⟩
theorem t_x_upward_paper : (tr10 (T.s N_x_upward_paper 5 [("check_system", 2, f_x_check_system)]) (defScope (top 183)) (defBody (top 183))).map (·.m) = some b_x_upward_paper := by kernel_rfl
theorem k_x_upward_paper (X : K.In h) (G : h.Ns mainGlobals mg) (c : He.SaysX (faU T ds ++ fo) fn [] [] (exU T) w h K) : Kp P w K mg base (T.cv K) 6 "upward_paper" 2 f_x_upward_paper := by
  obtain ⟨fd, F⟩ := def_of c (x := "upward_paper") (st := top 183) (List.mem_of_getElem? (i := 76) rfl)
  exact kp_ofO F (glo_of X G c (List.mem_of_getElem? (i := 76) rfl)) (bs_of rfl rfl X G c) s_x_upward_paper rfl (fun _ _ _ _ _ _ us hl => match us, hl with | [_, _], _ => rfl) _ t_x_upward_paper rfl ⟨(k_x_check_system X G c).mono (by decide), trivial⟩
theorem s_x_is_upward_paper : FnScope N_x_is_upward_paper ["table", "side", "value"] (defScope (top 184)) := ⟨rfl, rfl, rfl, by decide +kernel, rfl, by decide +kernel, by decide +kernel⟩
theorem t_x_is_upward_paper : (tr10 (T.s N_x_is_upward_paper 5 [("check_system", 2, f_x_check_system)]) (defScope (top 184)) (defBody (top 184))).map (·.m) = some b_x_is_upward_paper := by kernel_rfl
theorem k_x_is_upward_paper (X : K.In h) (G : h.Ns mainGlobals mg) (c : He.SaysX (faU T ds ++ fo) fn [] [] (exU T) w h K) : Kp P w K mg base (T.cv K) 6 "is_upward_paper" 3 f_x_is_upward_paper := by
  obtain ⟨fd, F⟩ := def_of c (x := "is_upward_paper") (st := top 184) (List.mem_of_getElem? (i := 77) rfl)
  exact kp_ofO F (glo_of X G c (List.mem_of_getElem? (i := 77) rfl)) (bs_of rfl rfl X G c) s_x_is_upward_paper rfl (fun _ _ _ _ _ _ us hl => match us, hl with | [_, _, _], _ => rfl) _ t_x_is_upward_paper rfl ⟨(k_x_check_system X G c).mono (by decide), trivial⟩
theorem s_x_check_both : FnScope N_x_check_both ["table", "side", "other_table", "other_side"] (defScope (top 186)) := ⟨rfl, rfl, rfl, by decide +kernel, rfl, by decide +kernel, by decide +kernel⟩
theorem t_x_check_both : (tr10 (T.s N_x_check_both 5 [("check_system", 2, f_x_check_system)]) (defScope (top 186)) (defBody (top 186))).map (·.m) = some b_x_check_both := by kernel_rfl
theorem k_x_check_both (X : K.In h) (G : h.Ns mainGlobals mg) (c : He.SaysX (faU T ds ++ fo) fn [] [] (exU T) w h K) : Kp P w K mg base (T.cv K) 6 "check_both" 4 f_x_check_both := by
  obtain ⟨fd, F⟩ := def_of c (x := "check_both") (st := top 186) (List.mem_of_getElem? (i := 78) rfl)
  exact kp_ofO F (glo_of X G c (List.mem_of_getElem? (i := 78) rfl)) (bs_of rfl rfl X G c) s_x_check_both rfl (fun _ _ _ _ _ _ us hl => match us, hl with | [_, _, _, _], _ => rfl) _ t_x_check_both rfl ⟨(k_x_check_system X G c).mono (by decide), trivial⟩
theorem s_x_are_within : FnScope N_x_are_within ["table", "side", "other_table", "other_side"] (defScope (top 190)) := ⟨rfl, rfl, rfl, by decide +kernel, rfl, by decide +kernel, by decide +kernel⟩
theorem t_x_are_within : (tr10 (T.s N_x_are_within 6 [("check_both", 4, f_x_check_both)]) (defScope (top 190)) (defBody (top 190))).map (·.m) = some b_x_are_within := by kernel_rfl
theorem k_x_are_within (X : K.In h) (G : h.Ns mainGlobals mg) (c : He.SaysX (faU T ds ++ fo) fn [] [] (exU T) w h K) : Kp P w K mg base (T.cv K) 7 "are_within" 4 f_x_are_within := by
  obtain ⟨fd, F⟩ := def_of c (x := "are_within") (st := top 190) (List.mem_of_getElem? (i := 79) rfl)
  exact kp_ofO F (glo_of X G c (List.mem_of_getElem? (i := 79) rfl)) (bs_of rfl rfl X G c) s_x_are_within rfl (fun _ _ _ _ _ _ us hl => match us, hl with | [_, _, _, _], _ => rfl) _ t_x_are_within rfl ⟨(k_x_check_both X G c).mono (by decide), trivial⟩
theorem s_x_outside : FnScope N_x_outside ["table", "side", "other_table", "other_side"] (defScope (top 191)) := ⟨rfl, rfl, rfl, by decide +kernel, rfl, by decide +kernel, by decide +kernel⟩
theorem t_x_outside : (tr10 (T.s N_x_outside 6 [("check_both", 4, f_x_check_both)]) (defScope (top 191)) (defBody (top 191))).map (·.m) = some b_x_outside := by kernel_rfl
theorem k_x_outside (X : K.In h) (G : h.Ns mainGlobals mg) (c : He.SaysX (faU T ds ++ fo) fn [] [] (exU T) w h K) : Kp P w K mg base (T.cv K) 7 "outside" 4 f_x_outside := by
  obtain ⟨fd, F⟩ := def_of c (x := "outside") (st := top 191) (List.mem_of_getElem? (i := 80) rfl)
  exact kp_ofO F (glo_of X G c (List.mem_of_getElem? (i := 80) rfl)) (bs_of rfl rfl X G c) s_x_outside rfl (fun _ _ _ _ _ _ us hl => match us, hl with | [_, _, _, _], _ => rfl) _ t_x_outside rfl ⟨(k_x_check_both X G c).mono (by decide), trivial⟩
theorem s_law_cell : FnScope N_law_cell ["script", "k"] (defScope (top 193)) := ⟨rfl, rfl, rfl, by decide +kernel, rfl, by decide +kernel, by decide +kernel⟩
theorem t_law_cell : (tr10 (T.s N_law_cell 0 []) (defScope (top 193)) (defBody (top 193))).map (·.m) = some b_law_cell := by kernel_rfl
theorem k_law_cell (X : K.In h) (G : h.Ns mainGlobals mg) (c : He.SaysX (faU T ds ++ fo) fn [] [] (exU T) w h K) : Kp P w K mg base (T.cv K) 1 "_law_cell" 2 f_law_cell := by
  obtain ⟨fd, F⟩ := def_of c (x := "_law_cell") (st := top 193) (List.mem_of_getElem? (i := 81) rfl)
  exact kp_ofO F (glo_of X G c (List.mem_of_getElem? (i := 81) rfl)) (bs_of rfl rfl X G c) s_law_cell rfl (fun _ _ _ _ _ _ us hl => match us, hl with | [_, _], _ => rfl) _ t_law_cell rfl trivial
theorem s_law_row : FnScope N_law_row ["script", "at"] (defScope (top 194)) := ⟨rfl, rfl, rfl, by decide +kernel, rfl, by decide +kernel, by decide +kernel⟩
theorem t_law_row : (tr10 (T.s N_law_row 1 [("_law_cell", 2, f_law_cell)]) (defScope (top 194)) (defBody (top 194))).map (·.m) = some b_law_row := by kernel_rfl
theorem k_law_row (X : K.In h) (G : h.Ns mainGlobals mg) (c : He.SaysX (faU T ds ++ fo) fn [] [] (exU T) w h K) : Kp P w K mg base (T.cv K) 2 "_law_row" 2 f_law_row := by
  obtain ⟨fd, F⟩ := def_of c (x := "_law_row") (st := top 194) (List.mem_of_getElem? (i := 82) rfl)
  exact kp_ofO F (glo_of X G c (List.mem_of_getElem? (i := 82) rfl)) (bs_of rfl rfl X G c) s_law_row rfl (fun _ _ _ _ _ _ us hl => match us, hl with | [_, _], _ => rfl) _ t_law_row rfl ⟨(k_law_cell X G c).mono (by decide), trivial⟩
theorem gm_sub : ∀ x ∈ gmN, x ∈ ds := by decide +kernel
theorem k_ex {kk : Nat} (hk : 7 ≤ kk) (X : K.In h) (G : h.Ns mainGlobals mg) (c : He.SaysX (faU T ds ++ fo) fn [] [] (exU T) w h K) : exV fvT kk P w K mg base (T.cv K) := ex_of (fun x hx => glo_of X G c (gm_sub x hx)) (gm_of c) rfl ⟨(k_x_is_choice X G c).mono (Nat.le_trans (by decide) hk), (k_x_is_side_choice X G c).mono (Nat.le_trans (by decide) hk), (k_x_corner X G c).mono (Nat.le_trans (by decide) hk), (k_x_determinant X G c).mono (Nat.le_trans (by decide) hk), (k_x_determinant_span X G c).mono (Nat.le_trans (by decide) hk), (k_x_is_sure X G c).mono (Nat.le_trans (by decide) hk), (k_x_singular_choice X G c).mono (Nat.le_trans (by decide) hk), (k_x_is_full X G c).mono (Nat.le_trans (by decide) hk), (k_x_lost_unknowns X G c).mono (Nat.le_trans (by decide) hk), (k_x_solves_some X G c).mono (Nat.le_trans (by decide) hk), (k_x_solves_each_table X G c).mono (Nat.le_trans (by decide) hk), (k_x_solves_each_side X G c).mono (Nat.le_trans (by decide) hk), (k_x_solves_all X G c).mono (Nat.le_trans (by decide) hk), (k_x_choice_for X G c).mono (Nat.le_trans (by decide) hk), (k_x_can_solve X G c).mono (Nat.le_trans (by decide) hk), (k_x_a_solution X G c).mono (Nat.le_trans (by decide) hk), (k_x_papers X G c).mono (Nat.le_trans (by decide) hk), (k_x_are_papers X G c).mono (Nat.le_trans (by decide) hk), (k_x_each_has_solution X G c).mono (Nat.le_trans (by decide) hk), (k_x_barring_choice X G c).mono (Nat.le_trans (by decide) hk), (k_x_each_has_upward X G c).mono (Nat.le_trans (by decide) hk), (k_x_barring_upward X G c).mono (Nat.le_trans (by decide) hk), (k_x_can_solve_upward X G c).mono (Nat.le_trans (by decide) hk), (k_x_an_upward_solution X G c).mono (Nat.le_trans (by decide) hk), (k_x_upward_paper X G c).mono (Nat.le_trans (by decide) hk), (k_x_is_upward_paper X G c).mono (Nat.le_trans (by decide) hk), (k_x_keeps_some X G c).mono (Nat.le_trans (by decide) hk), (k_x_keeps_all X G c).mono (Nat.le_trans (by decide) hk), (k_x_can_keep X G c).mono (Nat.le_trans (by decide) hk), (k_x_keeping X G c).mono (Nat.le_trans (by decide) hk), (k_x_can_keep_each X G c).mono (Nat.le_trans (by decide) hk), (k_x_keeping_all X G c).mono (Nat.le_trans (by decide) hk), (k_x_breaking_choice X G c).mono (Nat.le_trans (by decide) hk), (k_x_unknown_span X G c).mono (Nat.le_trans (by decide) hk), (k_x_reaching X G c).mono (Nat.le_trans (by decide) hk), (k_x_sure_signs X G c).mono (Nat.le_trans (by decide) hk), (k_x_inverse_span X G c).mono (Nat.le_trans (by decide) hk), (k_x_are_within X G c).mono (Nat.le_trans (by decide) hk), (k_x_outside X G c).mono (Nat.le_trans (by decide) hk), (k_x_plus X G c).mono (Nat.le_trans (by decide) hk), (k_x_product X G c).mono (Nat.le_trans (by decide) hk), (k_x_widened X G c).mono (Nat.le_trans (by decide) hk), (k_x_is_inside X G c).mono (Nat.le_trans (by decide) hk), (k_x_overlap X G c).mono (Nat.le_trans (by decide) hk), (k_x_open_cells X G c).mono (Nat.le_trans (by decide) hk), (k_x_fixed X G c).mono (Nat.le_trans (by decide) hk), (k_x_fewest_fixed X G c).mono (Nat.le_trans (by decide) hk), (k_x_format_table X G c).mono (Nat.le_trans (by decide) hk), (k_x_format_side X G c).mono (Nat.le_trans (by decide) hk), (k_x_parse_table X G c).mono (Nat.le_trans (by decide) hk), (k_x_parse_side X G c).mono (Nat.le_trans (by decide) hk), (k_x_end_choices_of X G c).mono (Nat.le_trans (by decide) hk), (k_x_naive_sure X G c).mono (Nat.le_trans (by decide) hk), (k_x_whole_solutions X G c).mono (Nat.le_trans (by decide) hk), trivial⟩
theorem s_x_law_door_call : FnScope N_x_law_door_call ["work", "one", "many"] (defScope (top 195)) := ⟨rfl, rfl, rfl, by decide +kernel, rfl, by decide +kernel, by decide +kernel⟩
theorem t_x_law_door_call : (tr11 T N_x_law_door_call 7 [] fvT (defScope (top 195)) (defBody (top 195))).map (·.m) = some b_x_law_door_call := by kernel_rfl
theorem k_x_law_door_call (X : K.In h) (G : h.Ns mainGlobals mg) (c : He.SaysX (faU T ds ++ fo) fn [] [] (exU T) w h K) : Kp P w K mg base (T.cv K) 8 "_law_door_call" 3 f_x_law_door_call := by
  obtain ⟨fd, F⟩ := def_of c (x := "_law_door_call") (st := top 195) (List.mem_of_getElem? (i := 83) rfl)
  exact kp_ofV F (glo_of X G c (List.mem_of_getElem? (i := 83) rfl)) (bs_of rfl rfl X G c) s_x_law_door_call rfl (fun _ _ _ _ _ _ us hl => match us, hl with | [_, _, _], _ => rfl) _ t_x_law_door_call rfl trivial (k_ex (by decide) X G c)
theorem s_x_law_door_index : FnScope N_x_law_door_index ["work", "one", "many"] (defScope (top 196)) := ⟨rfl, rfl, rfl, by decide +kernel, rfl, by decide +kernel, by decide +kernel⟩
theorem t_x_law_door_index : (tr11 T N_x_law_door_index 8 [("_law_door_call", 3, f_x_law_door_call)] fvT (defScope (top 196)) (defBody (top 196))).map (·.m) = some b_x_law_door_index := by kernel_rfl
theorem k_x_law_door_index (X : K.In h) (G : h.Ns mainGlobals mg) (c : He.SaysX (faU T ds ++ fo) fn [] [] (exU T) w h K) : Kp P w K mg base (T.cv K) 9 "_law_door_index" 3 f_x_law_door_index := by
  obtain ⟨fd, F⟩ := def_of c (x := "_law_door_index") (st := top 196) (List.mem_of_getElem? (i := 84) rfl)
  exact kp_ofV F (glo_of X G c (List.mem_of_getElem? (i := 84) rfl)) (bs_of rfl rfl X G c) s_x_law_door_index rfl (fun _ _ _ _ _ _ us hl => match us, hl with | [_, _, _], _ => rfl) _ t_x_law_door_index rfl ⟨(k_x_law_door_call X G c).mono (by decide), trivial⟩ (k_ex (by decide) X G c)
theorem s_x_law_doors_a : FnScope N_x_law_doors_a [] (defScope (top 197)) := ⟨rfl, rfl, rfl, by decide +kernel, rfl, by decide +kernel, by decide +kernel⟩
theorem t_x_law_doors_a : (tr11 T N_x_law_doors_a 7 [] fvT (defScope (top 197)) (defBody (top 197))).map (·.m) = some b_x_law_doors_a := by kernel_rfl
theorem k_x_law_doors_a (X : K.In h) (G : h.Ns mainGlobals mg) (c : He.SaysX (faU T ds ++ fo) fn [] [] (exU T) w h K) : Kp P w K mg base (T.cv K) 8 "_law_doors_a" 0 f_x_law_doors_a := by
  obtain ⟨fd, F⟩ := def_of c (x := "_law_doors_a") (st := top 197) (List.mem_of_getElem? (i := 85) rfl)
  exact kp_ofV F (glo_of X G c (List.mem_of_getElem? (i := 85) rfl)) (bs_of rfl rfl X G c) s_x_law_doors_a rfl (fun _ _ _ _ _ _ us hl => match us, hl with | [], _ => rfl) _ t_x_law_doors_a rfl trivial (k_ex (by decide) X G c)
theorem s_x_law_doors_b : FnScope N_x_law_doors_b [] (defScope (top 198)) := ⟨rfl, rfl, rfl, by decide +kernel, rfl, by decide +kernel, by decide +kernel⟩
theorem t_x_law_doors_b : (tr11 T N_x_law_doors_b 7 [] fvT (defScope (top 198)) (defBody (top 198))).map (·.m) = some b_x_law_doors_b := by kernel_rfl
theorem k_x_law_doors_b (X : K.In h) (G : h.Ns mainGlobals mg) (c : He.SaysX (faU T ds ++ fo) fn [] [] (exU T) w h K) : Kp P w K mg base (T.cv K) 8 "_law_doors_b" 0 f_x_law_doors_b := by
  obtain ⟨fd, F⟩ := def_of c (x := "_law_doors_b") (st := top 198) (List.mem_of_getElem? (i := 86) rfl)
  exact kp_ofV F (glo_of X G c (List.mem_of_getElem? (i := 86) rfl)) (bs_of rfl rfl X G c) s_x_law_doors_b rfl (fun _ _ _ _ _ _ us hl => match us, hl with | [], _ => rfl) _ t_x_law_doors_b rfl trivial (k_ex (by decide) X G c)
theorem s_x_law_doors_c : FnScope N_x_law_doors_c [] (defScope (top 199)) := ⟨rfl, rfl, rfl, by decide +kernel, rfl, by decide +kernel, by decide +kernel⟩
theorem t_x_law_doors_c : (tr11 T N_x_law_doors_c 7 [] fvT (defScope (top 199)) (defBody (top 199))).map (·.m) = some b_x_law_doors_c := by kernel_rfl
theorem k_x_law_doors_c (X : K.In h) (G : h.Ns mainGlobals mg) (c : He.SaysX (faU T ds ++ fo) fn [] [] (exU T) w h K) : Kp P w K mg base (T.cv K) 8 "_law_doors_c" 0 f_x_law_doors_c := by
  obtain ⟨fd, F⟩ := def_of c (x := "_law_doors_c") (st := top 199) (List.mem_of_getElem? (i := 87) rfl)
  exact kp_ofV F (glo_of X G c (List.mem_of_getElem? (i := 87) rfl)) (bs_of rfl rfl X G c) s_x_law_doors_c rfl (fun _ _ _ _ _ _ us hl => match us, hl with | [], _ => rfl) _ t_x_law_doors_c rfl trivial (k_ex (by decide) X G c)
theorem s_law : FnScope N_law ["script"] (defScope (top 200)) := ⟨rfl, rfl, rfl, by decide +kernel, rfl, by decide +kernel, by decide +kernel⟩
theorem t_law : (tr10 (T.s N_law 9 [("_law_row", 2, f_law_row), ("_law_doors_c", 0, f_x_law_doors_c), ("_law_doors_a", 0, f_x_law_doors_a), ("_law_doors_b", 0, f_x_law_doors_b), ("_law_door_index", 3, f_x_law_door_index)]) (defScope (top 200)) (defBody (top 200))).map (·.m) = some b_law := by kernel_rfl
end

end U
open PySem PySem.W PySem.Calls PyProof.Rows
theorem PySem.Challenge.cw_unsuretables_k37_doors_holds : PySem.Challenge.rw_unsuretables_k37_doors.Holds := by
  w_on; o_law
  refine HandSHeadRun.head_any (r := OpenLaw.row PySem.Challenge.rw_unsuretables_k37_doors) (q := view (OpenLaw.row PySem.Challenge.rw_unsuretables_k37_doors).prog [200]) (H := U.hk) (ob := U.ob) (M := 20000) (loose := U.loose) (d := HandSHeadRun.topDef (OpenLaw.row PySem.Challenge.rw_unsuretables_k37_doors).prog 200) (kwd := []) U.ob_eq
    (by kernel_rfl) (fun s => by kernel_rfl) U.run (by kernel_rfl) (by kernel_rfl) (by kernel_rfl) (by rfl) (by first | assumption | decide +kernel) (by decide +kernel) ⟨rfl, rfl, rfl, rfl, rfl, by decide +kernel⟩ ?hw ?hc
  case hw => w_witness2
  case hc =>
    refine U.walkU (l := PySem.Challenge.rw_unsuretables_k37_doors) (n := 63) (k := 10) (x := "script") (fm := U.f_law) rfl (by decide) (by kernel_rfl) ⟨rfl, by decide, by decide⟩ (fun ns h => U.holds ns h) ?F
    intro w mg fa h Y G hmg0
    obtain ⟨K, KX, c⟩ := Y
    have hmg : mg ("law" : PySem.Str) = some (.ref fa) := by
      have e : (HandSHeadRun.topDef (OpenLaw.row PySem.Challenge.rw_unsuretables_k37_doors).prog 200).name = ("law" : PySem.Str) := by kernel_rfl
      rw [← e]
      exact hmg0
    have e1 : mg ("law" : PySem.Str) = some (.ref (He.ga K "law")) := U.glo_of KX G c (List.mem_of_getElem? (i := 88) rfl)
    have e2 := hmg.symm.trans e1
    cases e2
    obtain ⟨fd, F⟩ := U.def_of c (x := "law") (st := U.top 200) (List.mem_of_getElem? (i := 88) rfl)
    have b := L2.FunD.bindsA (ps := ["script"]) F fun _ _ _ _ _ _ us hl => match us, hl with | [_], _ => rfl
    refine ⟨K, fd, U.T.cv K, KX, U.nol_of c, fun s v => b s [v] rfl, fun base hb hn => ?_⟩
    exact U.def_okO F (U.bs_of rfl rfl KX G c) U.s_law _ U.t_law ⟨(U.k_law_row KX G c).mono (by decide), (U.k_x_law_doors_c KX G c).mono (by decide), (U.k_x_law_doors_a KX G c).mono (by decide), (U.k_x_law_doors_b KX G c).mono (by decide), (U.k_x_law_door_index KX G c).mono (by decide), trivial⟩
