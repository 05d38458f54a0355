import PyProof.Rows.All
import Wide.All
import OpenK.AllK
import Wide.FinOn
import HandS.ForMost
import HandS.ForExc
import HandS.Evl
import HandS.Flow
import HandS.Wide
import HandS.CallSlots
import HandS.TupAny
import HandS.Zip
import HandS.TupMul
import HandS.Deep
import HandS.Style
import HandS.IsInst
import HandS.RaiseMore
import KE.GoesEnum
import KE.GoesMore
import KE.GoesZip
import HandS.TryMany
import HandS.ExcIs
import HandS.Defaults
import HandS.Head0
import HandS.Head1
import HandS.Head2
import HandS.HeadEnd
import HandS.HeadHook1
import HandS.HeadHook2
import HandS.HeadHook3
import HandS.HeadHook4
import HandS.List
import KE.KRevSl
import HandS.SetFor
import HandS.Strs
import HandS.Replace
import HandS.Text
import HandS.NoneIn
import HandS.ListItems
import KE.KDictZip
import HandS.Conv
import KE.KTryMore
import HandS.TupSets
import KE.SortData
import KE.DataMinMax
import HandS.IterVal
import PySem.Challenge.RW_unsuretables_k34_exceptions
set_option Elab.async false
set_option linter.all false
set_option maxRecDepth 100000
set_option maxHeartbeats 4000000
namespace U
open PySem PySem.Spec PyProof.Rows L2
abbrev D := PyData
def gmN : List Str := []
def gmT : List Addr := []
def bltNames : List Str := ["len", "abs", "max", "min", "sum", "int", "str", "tuple", "list", "isinstance", "range", "zip", "enumerate", "sorted", "set", "bool", "ValueError"]
structure Tb where
  cls : List (Str × Nat)
  cst : List (Str × D)
  sub : Nat → Nat → Bool
  nc : List Nat
def Tb.cn (T : Tb) (c : Nat) : Str := match T.cls.find? (fun p => p.2 == c) with
  | some p => p.1
  | none => if c = 100 then "Program" else if c = 101 then "Workbook" else ""
def Tb.cv (T : Tb) (K : PySem.W.Frag) (c : Nat) : Value := .ref (He.ga K (T.cn c))
def excB (K : PySem.W.Frag) (D : Addr) : Bool :=
  He.eqO (PySem.W.findIn K (.ref D) "__getattribute__") (some (some (.builtin "BaseException.__getattribute__"))) && (He.eqO (PySem.W.findIn K (.ref D) "__getattr__") (some none) &&
  (decide (PySem.W.subIn K (.ref D) (.type "BaseException") = some true) && (PySem.W.hasDictIn K D && (He.eqO (PySem.W.findIn K (.ref D) "__class__") (some (some (.builtin "object.__class__"))) &&
  (He.eqO (PySem.W.specialIn K (.builtin "object.__class__") "__get__") (some (some (.builtin "getset_descriptor.__get__"))) && (decide (PySem.W.takesIn K (.builtin "object.__class__") = some true) && decide (PySem.W.mroIn K D (.type "object") = some true)))))))
def noLst (K : PySem.W.Frag) : Bool := K.all fun q => match q.2.cls with
  | .type n => !(n == "list")
  | _ => true
def gmOk (K : PySem.W.Frag) : Bool := decide (gmN.map (He.ga K) = gmT)
def exU (T : Tb) (K : PySem.W.Frag) : Bool := (noLst K && gmOk K) && T.nc.all fun c => excB K (He.ga K (T.cn c)) && T.nc.all fun k => decide (PySem.W.kitOne K (T.cv K c) (T.cv K k) = some (T.sub c k)) && decide (PySem.W.exmOne K (T.cv K c) (T.cv K k) = some (T.sub c k))
def cstF : List (Str × D) → List He.Fa
  | [] => []
  | (x, .int i) :: r => .int x i :: cstF r
  | (x, .str z) :: r => .str x z :: cstF r
  | _ :: r => cstF r
def faU (T : Tb) (ds : List Str) : List He.Fa := ds.map .glo ++ (bltNames.map .free ++ (T.cls.map (fun p => .glo p.1) ++ (T.cls.map (fun p => .exc p.1) ++ cstF T.cst)))
def dOf (x : Str) (st : Stmt) : He.DefD := ⟨(x, none), x, x, defArgs st, defBody st, defScope st, [], []⟩
def sub0 (c k : Nat) : Bool := c == k || k == 0
def flN : Nat → List Str
  | 100 => ["rows", "own", "costs"]
  | 101 => ["cells", "ends", "before"]
  | _ => []
def clsBody : Stmt → List Stmt
  | .ClassDef _ _ _ body _ _ _ _ _ _ _ => body
  | _ => []
def dOfM (c m : Str) (st : Stmt) : He.DefD := ⟨(c, some m), m, c ++ "." ++ m, defArgs st, defBody st, defScope st, [], []⟩
def faO (c : Str) (fl ms : List Str) : List He.Fa := .glo c :: .cls c :: .mkr c :: (fl.map (.noat c) ++ ms.map (.meth c))
def top (i : Nat) : Stmt := PySem.Challenge.pw_unsuretables_k34_exceptions.main.body.getD i (.Pass ⟨0, 0, 0, 0⟩)
def mth (i j : Nat) : Stmt := (clsBody (top i)).getD j (.Pass ⟨0, 0, 0, 0⟩)
def T : Tb := ⟨[("BoundError", 0), ("InvalidTable", 1), ("InvalidSide", 2), ("InvalidUnknowns", 3), ("InvalidChoice", 4), ("InvalidSigns", 5), ("InvalidIndex", 6), ("InvalidNumber", 7), ("InvalidCell", 8), ("NotSquare", 9), ("NotSure", 10), ("NoExample", 11), ("NoPaper", 12), ("NoSolution", 13), ("Apart", 14), ("Unequal", 15), ("TooMany", 16), ("NothingToUndo", 17), ("ParseError", 18)], [("MOST", .int 3), ("DIGITS", .str "0123456789"), ("MOST_OPEN", .int 8)], sub0, [0, 1, 2, 3, 4, 5, 6, 7, 8, 9, 10, 11, 12, 13, 14, 15, 16, 17, 18]⟩
def ds : List Str := (["in_range", "common_divisor", "part", "is_part", "added", "taken", "multiplied", "shared", "below", "all_signs", "is_cell", "is_table"] : List Str) ++ (["is_side", "check_table", "check_square", "check_system", "are_unknowns", "check_unknowns", "check_index", "lies_in", "is_fit", "is_choice_of", "check_choice", "check_signs"] : List Str) ++ (["corner_of", "corner", "determinant_of", "determinant", "end_choices", "reduced", "null_unknowns", "sign_choices", "ends_of", "sure", "is_sure", "replaced"] : List Str) ++ (["singular_between", "singular_choice", "open_places", "check_told", "fixed_at", "is_place", "check_cells", "fixed", "lean", "cleared", "without", "started"] : List Str) ++ (["solved", "some_numbers", "with_slack", "cell_ends", "lows", "highs", "conditions", "amounts_for", "with_signs", "weights_against", "ends", "check_all"] : List Str) ++ (["some_solve", "solves_some", "row_choice", "made_choice", "some_unknowns", "can_solve", "a_solution", "bounds_of", "papers", "cell_text", "row_text", "table_text"] : List Str) ++ (["number_of", "cell_of", "row_of", "parse_table", "check_two", "plus", "widened", "overlap", "end_choices_of", "orthant_end", "is_beyond", "reached"] : List Str) ++ (["span_of", "unknown_span", "inverse_span", "_law_cell", "_law_raise_more", "_law_raise", "law"] : List Str)
def fnA : List He.DefD := ([dOf "in_range" (top 22), dOf "common_divisor" (top 23), dOf "part" (top 24), dOf "is_part" (top 25), dOf "added" (top 26), dOf "taken" (top 27), dOf "multiplied" (top 28), dOf "shared" (top 29), dOf "below" (top 30), dOf "all_signs" (top 31), dOf "is_cell" (top 34), dOf "is_table" (top 35)] : List He.DefD) ++ ([dOf "is_side" (top 36), dOf "check_table" (top 37), dOf "check_square" (top 38), dOf "check_system" (top 39), dOf "are_unknowns" (top 40), dOf "check_unknowns" (top 41), dOf "check_index" (top 42), dOf "lies_in" (top 43), dOf "is_fit" (top 45), dOf "is_choice_of" (top 44), dOf "check_choice" (top 46), dOf "check_signs" (top 47)] : List He.DefD) ++ ([dOf "corner_of" (top 48), dOf "corner" (top 49), dOf "determinant_of" (top 51), dOf "determinant" (top 52), dOf "end_choices" (top 53), dOf "reduced" (top 55), dOf "null_unknowns" (top 54), dOf "sign_choices" (top 57), dOf "ends_of" (top 58), dOf "sure" (top 59), dOf "is_sure" (top 60), dOf "replaced" (top 61)] : List He.DefD) ++ ([dOf "singular_between" (top 62), dOf "singular_choice" (top 63), dOf "open_places" (top 65), dOf "check_told" (top 66), dOf "fixed_at" (top 67), dOf "is_place" (top 69), dOf "check_cells" (top 68), dOf "fixed" (top 70), dOf "lean" (top 73), dOf "cleared" (top 72), dOf "without" (top 75), dOf "started" (top 76)] : List He.DefD) ++ ([dOf "solved" (top 77), dOf "some_numbers" (top 78)] : List He.DefD)
def fnB : List He.DefD := ([dOf "with_slack" (top 79), dOf "cell_ends" (top 81), dOf "lows" (top 82), dOf "highs" (top 83), dOf "conditions" (top 84), dOf "amounts_for" (top 85), dOf "with_signs" (top 86), dOf "weights_against" (top 87), dOf "ends" (top 89), dOf "check_all" (top 90), dOf "some_solve" (top 91), dOf "solves_some" (top 92)] : List He.DefD) ++ ([dOf "row_choice" (top 93), dOf "made_choice" (top 94), dOf "some_unknowns" (top 96), dOf "can_solve" (top 97), dOf "a_solution" (top 98), dOf "bounds_of" (top 99), dOf "papers" (top 100), dOf "cell_text" (top 103), dOf "row_text" (top 104), dOf "table_text" (top 105), dOf "number_of" (top 106), dOf "cell_of" (top 107)] : List He.DefD) ++ ([dOf "row_of" (top 108), dOf "parse_table" (top 109), dOf "check_two" (top 113), dOf "plus" (top 114), dOf "widened" (top 115), dOf "overlap" (top 116), dOf "end_choices_of" (top 119), dOf "orthant_end" (top 121), dOf "is_beyond" (top 123), dOf "reached" (top 122), dOf "span_of" (top 124), dOf "unknown_span" (top 125)] : List He.DefD) ++ ([dOf "inverse_span" (top 126), dOf "_law_cell" (top 128), dOf "_law_raise_more" (top 130), dOf "_law_raise" (top 129), dOf "law" (top 131), dOfM "Program" "__init__" (mth 74 0), dOfM "Program" "change" (mth 74 1), dOfM "Program" "drop_helpers" (mth 74 6), dOfM "Program" "bounds_before" (mth 74 3), dOfM "Program" "bound" (mth 74 2), dOfM "Program" "next_column" (mth 74 5), dOfM "Program" "lower" (mth 74 4)] : List He.DefD) ++ ([dOfM "Workbook" "__init__" (mth 111 0), dOfM "Workbook" "undo" (mth 111 8)] : List He.DefD)
def fn : List He.DefD := fnA ++ fnB
def fo : List He.Fa := faO "Program" (flN 100) ["change", "drop_helpers", "bounds_before", "bound", "next_column", "lower"] ++ faO "Workbook" (flN 101) ["undo"]
theorem map12 {α β γ δ : Type} {o : Option α} {f : α → β} {g : α → γ} {h : α → δ} {a : β} {b : γ} {c : δ} (h1 : o.map (fun s => (f s, g s)) = some (a, b)) (h3 : o.map h = some c) : o.map (fun s => (f s, g s, h s)) = some (a, b, c) := by
  cases o with
  | none => cases h1
  | some x => cases h1; cases h3; rfl
/-! ### a hook over told addresses -/
def obsL (as : List PySem.Addr) (fa : List He.Fa) (fn : List He.DefD) (ex : PySem.W.Frag → Bool) (g : PySem.Addr → Option PySem.Obj) : He.AlX := (He.obsT fa fn [] (He.frT g as), ex (He.frT g as))
theorem saysL {as : List PySem.Addr} {fa : List He.Fa} {fn : List He.DefD} {ex : PySem.W.Frag → Bool} {w : PySem.World} {h : PySem.Heap} (e : obsL as fa fn ex h.get? = He.valX fn [] w) : He.SaysX fa fn [] [] ex w h (He.frT h.get? as) :=
  ⟨congrArg (fun z : He.AlX => z.1) e, congrArg (fun z : He.AlX => z.2) e, fun p hp => absurd hp List.not_mem_nil, fun p hp => absurd hp List.not_mem_nil, fun p hp => absurd hp List.not_mem_nil⟩
def hookL (as : List PySem.Addr) (fa : List He.Fa) (fn : List He.DefD) (ex : PySem.W.Frag → Bool) : PySem.W.Hook where
  α := He.AlX
  obs := fun s => obsL as fa fn ex s.heap.get?
  val := fun w => He.valX fn [] w
  says := fun w h => ∃ K : PySem.W.Frag, K.In h ∧ He.SaysX fa fn [] [] ex w h K
  of := fun _ _ e => ⟨_, He.frT_in, saysL e⟩
  keeps := fun _ _ _ ⟨K, hK, c⟩ k => ⟨K, PySem.W.Frag.In.keeps hK k, ⟨c.t, c.more, c.hd, c.out, fun p hp => k _ _ (c.empty p hp)⟩⟩
theorem obsL_eq {as : List PySem.Addr} {fa : List He.Fa} {fn : List He.DefD} {ex : PySem.W.Frag → Bool} {g : PySem.Addr → Option PySem.Obj} {s : PySem.Shared} (h : ∀ a, g a = s.heap.get? a) : obsL as fa fn ex g = (hookL as fa fn ex).obs s := by
  have e : g = s.heap.get? := funext h
  rw [e] <;> rfl
abbrev R : PySem.W.OpenRow := PySem.W.OpenLaw.row PySem.Challenge.rw_unsuretables_k34_exceptions
def as0 : List PySem.Addr := ([3, 6, 4, 21, 31, 44, 56, 68, 80, 92, 104, 116, 128, 140, 152, 164, 176, 188, 200, 212, 224, 236, 248, 257, 264, 271, 276, 283, 290, 297, 304, 311, 318, 323, 328, 333, 340, 347, 354, 359] : List PySem.Addr) ++ ([366, 373, 380, 385, 392, 399, 404, 409, 416, 421, 428, 433, 438, 443, 448, 455, 462, 469, 476, 483, 490, 495, 500, 507, 512, 519, 526, 531, 536, 593, 602, 607, 614, 621, 628, 635, 640, 645, 650, 657] : List PySem.Addr) ++ ([662, 667, 674, 681, 688, 695, 702, 709, 716, 723, 730, 735, 742, 749, 754, 759, 764, 769, 774, 779, 857, 868, 873, 878, 883, 890, 897, 904, 911, 918, 925, 930, 937, 944, 951, 956, 0, 20, 30, 43] : List PySem.Addr) ++ ([55, 67, 79, 91, 103, 115, 127, 139, 151, 163, 175, 187, 199, 211, 223, 235, 247, 256, 263, 270, 275, 282, 289, 296, 303, 310, 317, 322, 327, 332, 339, 346, 353, 358, 365, 372, 379, 384, 391, 398] : List PySem.Addr) ++ ([403, 408, 415, 420, 427, 432, 437, 442, 447, 454, 461, 468, 475, 482, 489, 494, 499, 506, 511, 518, 525, 530, 535, 592, 601, 606, 613, 620, 627, 634, 639, 644, 649, 656, 661, 666, 673, 680, 687, 694] : List PySem.Addr) ++ ([701, 708, 715, 722, 729, 734, 741, 748, 753, 758, 763, 768, 773, 778, 856, 867, 872, 877, 882, 889, 896, 903, 910, 917, 924, 929, 936, 943, 950, 955, 15, 16, 17, 18, 19, 29, 32, 42, 54, 66] : List PySem.Addr) ++ ([78, 90, 102, 114, 126, 138, 150, 162, 174, 186, 198, 210, 222, 234, 246, 251, 252, 253, 254, 255, 258, 259, 260, 261, 262, 265, 266, 267, 268, 269, 272, 273, 274, 277, 278, 279, 280, 281, 284, 285] : List PySem.Addr) ++ ([286, 287, 288, 291, 292, 293, 294, 295, 298, 299, 300, 301, 302, 305, 306, 307, 308, 309, 312, 313, 314, 315, 316, 319, 320, 321, 324, 325, 326, 329, 330, 331, 334, 335, 336, 337, 338, 341, 342, 343] : List PySem.Addr) ++ ([344, 345, 348, 349, 350, 351, 352, 355, 356, 357, 360, 361, 362, 363, 364, 367, 368, 369, 370, 371, 374, 375, 376, 377, 378, 381, 382, 383, 386, 387, 388, 389, 390, 393, 394, 395, 396, 397, 400, 401] : List PySem.Addr) ++ ([402, 405, 406, 407, 410, 411, 412, 413, 414, 417, 418, 419, 422, 423, 424, 425, 426, 429, 430, 431, 434, 435, 436, 439, 440, 441, 444, 445, 446, 449, 450, 451, 452, 453, 456, 457, 458, 459, 460, 463] : List PySem.Addr) ++ ([464, 465, 466, 467, 470, 471, 472, 473, 474, 477, 478, 479, 480, 481, 484, 485, 486, 487, 488, 491, 492, 493, 496, 497, 498, 501, 502, 503, 504, 505, 508, 509, 510, 513, 514, 515, 516, 517, 520, 521] : List PySem.Addr) ++ ([522, 523, 524, 527, 528, 529, 532, 533, 534, 550, 557, 564, 571, 578, 585, 590, 591, 594, 595, 598, 599, 600, 603, 604, 605, 608, 609, 610, 611, 612, 615, 616, 617, 618, 619, 622, 623, 624, 625, 626] : List PySem.Addr) ++ ([629, 630, 631, 632, 633, 636, 637, 638, 641, 642, 643, 646, 647, 648, 651, 652, 653, 654, 655, 658, 659, 660, 663, 664, 665, 668, 669, 670, 671, 672, 675, 676, 677, 678, 679, 682, 683, 684, 685, 686] : List PySem.Addr) ++ ([689, 690, 691, 692, 693, 696, 697, 698, 699, 700, 703, 704, 705, 706, 707, 710, 711, 712, 713, 714, 717, 718, 719, 720, 721, 724, 725, 726, 727, 728, 731, 732, 733, 736, 737, 738, 739, 740, 743, 744] : List PySem.Addr) ++ ([745, 746, 747, 750, 751, 752, 755, 756, 757, 760, 761, 762, 765, 766, 767, 770, 771, 772, 775, 776, 777, 793, 800, 805, 812, 819, 826, 833, 840, 847, 854, 855, 858, 859, 862, 863, 864, 865, 866, 869] : List PySem.Addr) ++ ([870, 871, 874, 875, 876, 879, 880, 881, 884, 885, 886, 887, 888, 891, 892, 893, 894, 895, 898, 899, 900, 901, 902, 905, 906, 907, 908, 909, 912, 913, 914, 915, 916, 919, 920, 921, 922, 923, 926, 927] : List PySem.Addr) ++ ([928, 931, 932, 933, 934, 935, 938, 939, 940, 941, 942, 945, 946, 947, 948, 949, 952, 953, 954, 549, 556, 563, 570, 577, 584, 589, 792, 799, 804, 811, 818, 825, 832, 839, 846, 853] : List PySem.Addr)
abbrev hk : PySem.W.Hook := hookL as0 (faU T ds ++ fo) fn (exU T)
def ob (s : PySem.W.SharedT) : He.AlX := obsL as0 (faU T ds ++ fo) fn (exU T) (HandSHeadRun.getT s)
theorem ob_eq (s : PySem.W.SharedT) : ob s = hk.obs s.abs := obsL_eq (HandSHeadRun.getT_eq s)
def loose : List Str := (["_wall", "BoundError", "InvalidTable", "InvalidSide", "InvalidUnknowns", "InvalidChoice", "InvalidSigns", "InvalidIndex", "InvalidNumber", "InvalidCell", "NotSquare", "NotSure"] : List Str) ++ (["NoExample", "NoPaper", "NoSolution", "Apart", "Unequal", "TooMany", "NothingToUndo", "ParseError", "in_range", "common_divisor", "part", "is_part"] : List Str) ++ (["added", "taken", "multiplied", "shared", "below", "all_signs", "MOST", "is_cell", "is_table", "is_side", "check_table", "check_square"] : List Str) ++ (["check_system", "are_unknowns", "check_unknowns", "check_index", "lies_in", "is_choice_of", "is_fit", "check_choice", "check_signs", "corner_of", "corner", "determinant_of"] : List Str) ++ (["determinant", "end_choices", "null_unknowns", "reduced", "sign_choices", "ends_of", "sure", "is_sure", "replaced", "singular_between", "singular_choice", "open_places"] : List Str) ++ (["check_told", "fixed_at", "check_cells", "is_place", "fixed", "cleared", "lean", "Program", "without", "started", "solved", "some_numbers"] : List Str) ++ (["with_slack", "cell_ends", "lows", "highs", "conditions", "amounts_for", "with_signs", "weights_against", "ends", "check_all", "some_solve", "solves_some"] : List Str) ++ (["row_choice", "made_choice", "some_unknowns", "can_solve", "a_solution", "bounds_of", "papers", "DIGITS", "cell_text", "row_text", "table_text", "number_of"] : List Str) ++ (["cell_of", "row_of", "parse_table", "Workbook", "check_two", "plus", "widened", "overlap", "MOST_OPEN", "end_choices_of", "orthant_end", "reached"] : List Str) ++ (["is_beyond", "span_of", "unknown_span", "inverse_span", "_law_cell", "_law_raise", "_law_raise_more"] : List Str)
section
open PySem.W HandSHeadRun
theorem run1 (w : World) (os : OsState) : (endF (stepQ (denQ tabQ) R.prog w) 20000 R.prog w os).map (fun s => (looksF R.prog (boot_heap w.params) s.abs, seenQ (PySem.W.view R.prog [131]) loose (importedModules R.prog.main.body) (fun s => xlAt (PySem.W.view R.prog [131]) [] s && recOk R.toRowW.records s) s.abs)) = some (true, openGood (PySem.W.view R.prog [131]) loose) := by kernel_rfl
theorem run3 (w : World) (os : OsState) : (endF (stepQ (denQ tabQ) R.prog w) 20000 R.prog w os).map (fun s => ob s) = some (He.valX fn [] w) := by kernel_rfl
theorem run (w : World) : RunEq R (PySem.W.view R.prog [131]) hk ob 20000 loose w := fun os => map12 (run1 w os) (run3 w os)
end
end U

set_option Elab.async false
set_option linter.all false
set_option maxRecDepth 100000
set_option maxHeartbeats 4000000
namespace U
open PySem L2
/-- what a local name holds: nothing, shared data, a list of its own that may be changed -/
inductive Fd where
  | fr (d : D)
  | ow (ds : List D)
/-- .. an object of its own with its fields, an object that is read alone -/
inductive Cell where
  | un
  | fr (d : D)
  | ow (ds : List D)
  | ob (k : Nat) (fs : List Fd)
  | ro (k : Nat) (fs : List D)
abbrev Rho := List Cell
/-- an expression's end: shared data, a new list that nobody else holds, an error of a class, or no word -/
inductive Res where
  | ok (d : D)
  | new (ds : List D)
  | exc (c : Nat)
  | bad
inductive ResL where
  | ok (ds : List D)
  | exc (c : Nat)
  | bad
abbrev Sm := Rho → Res
abbrev SmL := Rho → ResL
def Res.bind (r : Res) (k : D → Res) : Res := match r with
  | .ok d => k d
  | .new ds => k (.list ds)
  | .exc c => .exc c
  | .bad => .bad
def Res.bindL (r : Res) (k : D → ResL) : ResL := match r with
  | .ok d => k d
  | .new ds => k (.list ds)
  | .exc c => .exc c
  | .bad => .bad
def ResL.bind (r : ResL) (k : List D → Res) : Res := match r with
  | .ok d => k d
  | .exc c => .exc c
  | .bad => .bad
def ResL.bindL (r : ResL) (k : List D → ResL) : ResL := match r with
  | .ok d => k d
  | .exc c => .exc c
  | .bad => .bad
@[simp] theorem Res.bind_ok (d : D) (k : D → Res) : (Res.ok d).bind k = k d := rfl
@[simp] theorem Res.bind_new (d : List D) (k : D → Res) : (Res.new d).bind k = k (.list d) := rfl
@[simp] theorem Res.bind_exc (c : Nat) (k : D → Res) : (Res.exc c).bind k = .exc c := rfl
@[simp] theorem Res.bind_bad (k : D → Res) : Res.bad.bind k = .bad := rfl
@[simp] theorem Res.bindL_ok (d : D) (k : D → ResL) : (Res.ok d).bindL k = k d := rfl
@[simp] theorem Res.bindL_new (d : List D) (k : D → ResL) : (Res.new d).bindL k = k (.list d) := rfl
@[simp] theorem Res.bindL_exc (c : Nat) (k : D → ResL) : (Res.exc c).bindL k = .exc c := rfl
@[simp] theorem Res.bindL_bad (k : D → ResL) : Res.bad.bindL k = .bad := rfl
@[simp] theorem ResL.bind_ok (d : List D) (k : List D → Res) : (ResL.ok d).bind k = k d := rfl
@[simp] theorem ResL.bind_exc (c : Nat) (k : List D → Res) : (ResL.exc c).bind k = .exc c := rfl
@[simp] theorem ResL.bind_bad (k : List D → Res) : ResL.bad.bind k = .bad := rfl
@[simp] theorem ResL.bindL_ok (d : List D) (k : List D → ResL) : (ResL.ok d).bindL k = k d := rfl
@[simp] theorem ResL.bindL_exc (c : Nat) (k : List D → ResL) : (ResL.exc c).bindL k = .exc c := rfl
@[simp] theorem ResL.bindL_bad (k : List D → ResL) : ResL.bad.bindL k = .bad := rfl

/-! ### the heap: frozen part F below H -/
abbrev Ex := Evl.Ex
structure Evo (F H F' H' : Hp) : Prop where
  ex : Ex F F'
  hx : Ex H H'
  le : Ex F' H'
  new : ∀ a o, F' a = some o → F a = some o ∨ H a = none
theorem Evo.refl {F H : Hp} (le : Ex F H) : Evo F H F H := ⟨Evl.Ex.refl F, Evl.Ex.refl H, le, fun _ _ h => .inl h⟩
theorem none_back {H H' : Hp} {a : Addr} (e : Ex H H') (h : H' a = none) : H a = none := Evl.fresh_back e h
theorem Evo.trans {F H F1 H1 F2 H2 : Hp} (a : Evo F H F1 H1) (b : Evo F1 H1 F2 H2) : Evo F H F2 H2 :=
  ⟨a.ex.trans b.ex, a.hx.trans b.hx, b.le, fun x o h => by
    rcases b.new x o h with h | h
    · exact a.new x o h
    · exact .inr (none_back a.hx h)⟩
/-- a new object, shared at once -/
theorem Evo.put {F H F' H' : Hp} (e : Evo F H F' H') {p : Addr} {o : HO} (hp : H' p = none) : Evo F H (upd F' p o) (upd H' p o) := by
  have hF : F' p = none := none_back e.le hp
  refine ⟨e.ex.trans (Evl.Ex.new hF), e.hx.trans (Evl.Ex.new hp), fun a u h => ?_, fun a u h => ?_⟩
  · by_cases ha : a = p
    · subst ha; rw [upd_same] at h ⊢; exact h
    · rw [upd_ne ha] at h ⊢; exact e.le a u h
  · by_cases ha : a = p
    · subst ha; exact .inr (none_back e.hx hp)
    · rw [upd_ne ha] at h; exact e.new a u h
/-- a new object that is not shared -/
theorem Evo.own {F H F' H' : Hp} (e : Evo F H F' H') {p : Addr} {o : HO} (hp : H' p = none) : Evo F H F' (upd H' p o) := by
  refine ⟨e.ex, e.hx.trans (Evl.Ex.new hp), fun a u h => ?_, e.new⟩
  exact (Evl.Ex.new hp) a u (e.le a u h)
/-- an own new object is shared -/
theorem Evo.give {F H F' H' : Hp} (e : Evo F H F' H') {p : Addr} {o : HO} (hp : H' p = some o) (hH : H p = none) (hF : F' p = none) : Evo F H (upd F' p o) H' := by
  refine ⟨e.ex.trans (Evl.Ex.new hF), e.hx, fun a u h => ?_, fun a u h => ?_⟩
  · by_cases ha : a = p
    · subst ha; rw [upd_same] at h; cases h; exact hp
    · rw [upd_ne ha] at h; exact e.le a u h
  · by_cases ha : a = p
    · subst ha; exact .inr hH
    · rw [upd_ne ha] at h; exact e.new a u h

-- defs that stand as values: their names, their addresses, told as numbers
mutual
inductive Dr (F : Hp) : V → D → Prop
  | non : Dr F .non .none
  | bl (b : Bool) : Dr F (.bl b) (.bool b)
  | int (i : Int) : Dr F (.int i) (.int i)
  | str (x : Str) : Dr F (.str x) (.str x)
  | lst {a : Addr} {xs : List V} {ds : List D} : Rd F a (.lst xs) → DrAll F xs ds → Dr F (.ref a) (.list ds)
  | tup {a : Addr} {xs : List V} {ds : List D} : F a = some (.tup xs) → DrAll F xs ds → Dr F (.ref a) (.tuple ds)
  | fnc {a : Addr} (i : Nat) : gmT[i]? = some a → Dr F (.ref a) (.dict [(.int (i : Int), .none)])
inductive DrAll (F : Hp) : List V → List D → Prop
  | nil : DrAll F [] []
  | cons {v : V} {vs : List V} {d : D} {ds : List D} : Dr F v d → DrAll F vs ds → DrAll F (v :: vs) (d :: ds)
end
mutual
/-- no def stands in it -/
def nt : D → Bool
  | .dict _ => false
  | .list xs => ntAll xs
  | .tuple xs => ntAll xs
  | _ => true
def ntAll : List D → Bool
  | [] => true
  | x :: xs => nt x && ntAll xs
end
mutual
theorem nt_lay : ∀ d : D, d.canLay0 = true → nt d = true
  | .none, _ => by simp [nt]
  | .bool _, _ => by simp [nt]
  | .int _, _ => by simp [nt]
  | .str _, _ => by simp [nt]
  | .list xs, h => by rw [nt]; exact ntAll_lay xs h
  | .tuple xs, h => by rw [nt]; exact ntAll_lay xs h
  | .dict _, h => by cases h
theorem ntAll_lay : ∀ ds : List D, PyData.canLayAll0 ds = true → ntAll ds = true
  | [], _ => by simp [ntAll]
  | x :: xs, h => by
    rw [PyData.canLayAll0, Bool.and_eq_true] at h
    rw [ntAll, nt_lay x h.1, ntAll_lay xs h.2]; rfl
end
mutual
theorem Dr.dp0 {K : PySem.W.Frag} {F : Hp} : ∀ {v : V} {d : D}, Dr F v d → nt d = true → Dp K F v d
  | _, _, .non, _ => .non
  | _, _, .bl b, _ => .bl b
  | _, _, .int i, _ => .int i
  | _, _, .str x, _ => .str x
  | _, _, .lst h hs, c => .lst (.inl h) (DrAll.dp0 hs (by rw [nt] at c; exact c))
  | _, _, .tup h hs, c => .tup (.inl (.inl h)) (DrAll.dp0 hs (by rw [nt] at c; exact c))
  | _, _, .fnc i h, c => by simp [nt] at c
theorem DrAll.dp0 {K : PySem.W.Frag} {F : Hp} : ∀ {vs : List V} {ds : List D}, DrAll F vs ds → ntAll ds = true → DpAll K F vs ds
  | _, _, .nil, _ => .nil
  | _, _, .cons h hs, c => by
    rw [ntAll, Bool.and_eq_true] at c
    exact .cons (h.dp0 c.1) (DrAll.dp0 hs c.2)
end
theorem Dr.dp {K : PySem.W.Frag} {F : Hp} {v : V} {d : D} (h : Dr F v d) (c : d.canLay0 = true) : Dp K F v d := h.dp0 (nt_lay d c)
theorem DrAll.dp {K : PySem.W.Frag} {F : Hp} {vs : List V} {ds : List D} (h : DrAll F vs ds) (c : PyData.canLayAll0 ds = true) : DpAll K F vs ds := h.dp0 (ntAll_lay ds c)
mutual
theorem dp_mono {F F' : Hp} (e : Ex F F') : ∀ {v : V} {d : D}, Dr F v d → Dr F' v d
  | _, _, .non => .non
  | _, _, .bl b => .bl b
  | _, _, .int i => .int i
  | _, _, .str x => .str x
  | _, _, .lst h hs => .lst (Evl.ex_rd e h) (dps_mono e hs)
  | _, _, .tup h hs => .tup (e _ _ h) (dps_mono e hs)
  | _, _, .fnc i h => .fnc i h
theorem dps_mono {F F' : Hp} (e : Ex F F') : ∀ {vs : List V} {ds : List D}, DrAll F vs ds → DrAll F' vs ds
  | _, _, .nil => .nil
  | _, _, .cons h hs => .cons (dp_mono e h) (dps_mono e hs)
end
theorem dps_len {F : Hp} : ∀ {vs : List V} {ds : List D}, DrAll F vs ds → vs.length = ds.length
  | _, _, .nil => rfl
  | _, _, .cons _ hs => by simp [dps_len hs]
theorem dps_get {F : Hp} : ∀ {vs : List V} {ds : List D} {i : Nat} {d : D}, DrAll F vs ds → ds[i]? = some d → ∃ v, vs[i]? = some v ∧ Dr F v d
  | _, _, _, _, .nil, h => by simp at h
  | _, _, 0, _, .cons h hs, e => by simp at e; subst e; exact ⟨_, rfl, h⟩
  | _, _, i + 1, _, .cons h hs, e => by
    obtain ⟨v, h1, h2⟩ := dps_get (i := i) hs (by simpa using e)
    exact ⟨v, by simpa using h1, h2⟩
theorem dps_app {F : Hp} : ∀ {vs ws : List V} {ds es : List D}, DrAll F vs ds → DrAll F ws es → DrAll F (vs ++ ws) (ds ++ es)
  | _, _, _, _, .nil, h => h
  | _, _, _, _, .cons h hs, h2 => .cons h (dps_app hs h2)
theorem dps_set {F : Hp} {v : V} {d : D} (h : Dr F v d) : ∀ {vs : List V} {ds : List D} (i : Nat), DrAll F vs ds → DrAll F (vs.set i v) (ds.set i d)
  | _, _, _, .nil => .nil
  | _, _, 0, .cons _ hs => .cons h hs
  | _, _, i + 1, .cons h' hs => .cons h' (dps_set h i hs)
theorem dps_take {F : Hp} : ∀ {vs : List V} {ds : List D} (n : Nat), DrAll F vs ds → DrAll F (vs.take n) (ds.take n)
  | _, _, 0, _ => .nil
  | _, _, _ + 1, .nil => .nil
  | _, _, n + 1, .cons h hs => .cons h (dps_take n hs)
theorem dps_drop {F : Hp} : ∀ {vs : List V} {ds : List D} (n : Nat), DrAll F vs ds → DrAll F (vs.drop n) (ds.drop n)
  | _, _, 0, h => h
  | _, _, _ + 1, .nil => .nil
  | _, _, n + 1, .cons _ hs => dps_drop n hs
theorem dps_rep {F : Hp} {vs : List V} {ds : List D} (h : DrAll F vs ds) : ∀ n : Nat, DrAll F (List.replicate n vs).flatten (List.replicate n ds).flatten
  | 0 => .nil
  | n + 1 => by
    rw [List.replicate_succ, List.replicate_succ, List.flatten_cons, List.flatten_cons]
    exact dps_app h (dps_rep h n)
/-- a list under construction that is read now, or shared data -/
def Wk (F H : Hp) (v : V) (d : D) : Prop :=
  Dr F v d ∨ ∃ p xs ds, v = .ref p ∧ d = .list ds ∧ H p = some (.lst xs) ∧ DrAll F xs ds
theorem Wk.dp {F H : Hp} {v : V} {d : D} (le : Ex F H) (w : Wk F H v d) : Dr H v d := by
  rcases w with h | ⟨p, xs, ds, rfl, rfl, h, hs⟩
  · exact dp_mono le h
  · exact .lst (Rd.of h) (dps_mono le hs)
theorem Wk.evo {F H F' H' : Hp} {v : V} {d : D} (e : Evo F H F' H') (w : Wk F H v d) : Wk F' H' v d := by
  rcases w with h | ⟨p, xs, ds, rfl, rfl, h, hs⟩
  · exact .inl (dp_mono e.ex h)
  · exact .inr ⟨p, xs, ds, rfl, rfl, e.hx _ _ h, dps_mono e.ex hs⟩
theorem Wk.list {F H : Hp} {v : V} {ds : List D} (le : Ex F H) (w : Wk F H v (.list ds)) : ∃ p xs, v = .ref p ∧ Rd H p (.lst xs) ∧ DrAll F xs ds := by
  rcases w with h | ⟨p, xs, ds', rfl, e, h, hs⟩
  · cases h with
    | lst a b => exact ⟨_, _, rfl, Evl.ex_rd le a, b⟩
  · cases e
    exact ⟨p, xs, rfl, Rd.of h, hs⟩
theorem Wk.tuple {F H : Hp} {v : V} {ds : List D} (le : Ex F H) (w : Wk F H v (.tuple ds)) : ∃ p xs, v = .ref p ∧ F p = some (.tup xs) ∧ H p = some (.tup xs) ∧ DrAll F xs ds := by
  rcases w with h | ⟨p, xs, ds', rfl, e, h, hs⟩
  · cases h with
    | tup a b => exact ⟨_, _, rfl, a, le _ _ a, b⟩
  · cases e
theorem Wk.int {F H : Hp} {v : V} {i : Int} (w : Wk F H v (.int i)) : v = .int i := by
  rcases w with h | ⟨p, xs, ds', rfl, e, h, hs⟩
  · cases h; rfl
  · cases e
theorem Wk.str {F H : Hp} {v : V} {i : Str} (w : Wk F H v (.str i)) : v = .str i := by
  rcases w with h | ⟨p, xs, ds', rfl, e, h, hs⟩
  · cases h; rfl
  · cases e
theorem Wk.bool {F H : Hp} {v : V} {i : Bool} (w : Wk F H v (.bool i)) : v = .bl i := by
  rcases w with h | ⟨p, xs, ds', rfl, e, h, hs⟩
  · cases h; rfl
  · cases e
theorem Wk.none {F H : Hp} {v : V} (w : Wk F H v .none) : v = .non := by
  rcases w with h | ⟨p, xs, ds', rfl, e, h, hs⟩
  · cases h; rfl
  · cases e

/-! ### the slots -/
/-! objects: their fields -/
def FdOk (F H : Hp) (v : V) : Fd → Prop
  | .fr d => Dr F v d
  | .ow ds => ∃ p xs, v = .ref p ∧ H p = some (.lst xs) ∧ F p = none ∧ DrAll F xs ds
inductive FdsOk (F H : Hp) : List V → List Fd → Prop
  | nil : FdsOk F H [] []
  | cons {v : V} {f : Fd} {vs : List V} {fs : List Fd} : FdOk F H v f → FdsOk F H vs fs → FdsOk F H (v :: vs) (f :: fs)
def ownV : List V → List Fd → List Addr
  | .ref p :: vs, .ow _ :: fs => p :: ownV vs fs
  | _ :: vs, _ :: fs => ownV vs fs
  | _, _ => []
/-- the fields of a class, by its code -/
def CellOk (cv : Nat → Value) (F H : Hp) (ov : Option (Option V)) : Cell → Prop
  | .un => True
  | .fr d => ∃ v, ov = some (some v) ∧ Dr F v d
  | .ow ds => ∃ p xs, ov = some (some (.ref p)) ∧ H p = some (.lst xs) ∧ F p = none ∧ DrAll F xs ds
  | .ob k fs => ∃ a C dx vs, ov = some (some (.ref a)) ∧ cv k = .ref C ∧ H a = some (.ins C dx ((flN k).zip vs)) ∧ F a = none ∧ vs.length = (flN k).length ∧ FdsOk F H vs fs ∧ (ownV vs fs).Nodup
  | .ro k fs => ∃ a C dx vs, ov = some (some (.ref a)) ∧ cv k = .ref C ∧ F a = some (.ins C dx ((flN k).zip vs)) ∧ vs.length = (flN k).length ∧ DrAll F vs fs
/-- the addresses that a cell owns -/
def owL (H : Hp) (ov : Option (Option V)) (c : Cell) : List Addr := match c, ov with
  | .ow _, some (some (.ref p)) => [p]
  | .ob _ fs, some (some (.ref a)) => (match H a with
    | some (.ins _ _ us) => a :: ownV (us.map (·.2)) fs
    | _ => [])
  | _, _ => []
@[simp] theorem owL_un {H : Hp} {ov : Option (Option V)} : owL H ov .un = [] := rfl
@[simp] theorem owL_fr {H : Hp} {ov : Option (Option V)} {d : D} : owL H ov (.fr d) = [] := rfl
@[simp] theorem owL_ro {H : Hp} {ov : Option (Option V)} {k : Nat} {fs : List D} : owL H ov (.ro k fs) = [] := rfl
@[simp] theorem owL_ow {H : Hp} {p : Addr} {ds : List D} : owL H (some (some (.ref p))) (.ow ds) = [p] := rfl
theorem zip_snd : ∀ {ns : List Str} {vs : List V}, vs.length = ns.length → (ns.zip vs).map (·.2) = vs
  | [], [], _ => rfl
  | _ :: ns, _ :: vs, h => by
    rw [List.zip_cons_cons, List.map_cons, zip_snd (ns := ns) (vs := vs) (by simpa using h)]
theorem owL_ob {H : Hp} {a C dx : Addr} {vs : List V} {k : Nat} {fs : List Fd} (h : H a = some (.ins C dx ((flN k).zip vs))) (hl : vs.length = (flN k).length) : owL H (some (some (.ref a))) (.ob k fs) = a :: ownV vs fs := by
  simp only [owL, h, zip_snd hl]
theorem FdOk.evo {F H F' H' : Hp} {v : V} {f : Fd} (e : Evo F H F' H') (h : FdOk F H v f) : FdOk F' H' v f := by
  cases f with
  | fr d => exact dp_mono e.ex h
  | ow ds =>
    obtain ⟨p, xs, h1, h2, h3, h4⟩ := h
    refine ⟨p, xs, h1, e.hx _ _ h2, ?_, dps_mono e.ex h4⟩
    cases q : F' p with
    | none => rfl
    | some o =>
      rcases e.new p o q with z | z
      · rw [h3] at z; cases z
      · rw [h2] at z; cases z
theorem FdsOk.evo {F H F' H' : Hp} (e : Evo F H F' H') : ∀ {vs : List V} {fs : List Fd}, FdsOk F H vs fs → FdsOk F' H' vs fs
  | _, _, .nil => .nil
  | _, _, .cons h hs => .cons (h.evo e) (FdsOk.evo e hs)
/-- what an object's cell owns stands, as a list, and is not shared -/
theorem ownV_at {F H : Hp} : ∀ {vs : List V} {fs : List Fd}, FdsOk F H vs fs → ∀ p ∈ ownV vs fs, F p = none ∧ ∃ xs, H p = some (.lst xs)
  | _, _, .nil, p, h => by simp [ownV] at h
  | v :: vs, f :: fs, .cons h hs, p, hp => by
    cases f with
    | fr d =>
      cases v <;> exact ownV_at hs p (by simpa [ownV] using hp)
    | ow ds =>
      obtain ⟨q, xs, rfl, h2, h3, _⟩ := h
      rcases List.mem_cons.mp (show p ∈ q :: ownV vs fs from hp) with e | e
      · subst e; exact ⟨h3, xs, h2⟩
      · exact ownV_at hs p e
theorem owL_at {cv : Nat → Value} {F H : Hp} {ov : Option (Option V)} {c : Cell} (h : CellOk cv F H ov c) {p : Addr} (hp : p ∈ owL H ov c) : F p = none ∧ ∃ o, H p = some o := by
  cases c with
  | un => simp at hp
  | fr d => simp at hp
  | ro k fs => simp at hp
  | ow ds =>
    obtain ⟨q, xs, rfl, h2, h3, _⟩ := h
    rw [owL_ow] at hp
    rw [List.mem_singleton.mp hp]
    exact ⟨h3, _, h2⟩
  | ob k fs =>
    obtain ⟨a, C, dx, vs, rfl, h2, h3, h4, hl, h5, h6⟩ := h
    rw [owL_ob h3 hl] at hp
    rcases List.mem_cons.mp hp with e | e
    · rw [e]; exact ⟨h4, _, h3⟩
    · obtain ⟨z1, xs, z2⟩ := ownV_at h5 p e
      exact ⟨z1, _, z2⟩
theorem owL_ex {cv : Nat → Value} {F H H' : Hp} {ov : Option (Option V)} {c : Cell} (h : CellOk cv F H ov c) (e : Ex H H') : owL H' ov c = owL H ov c := by
  cases c with
  | ob k fs =>
    obtain ⟨a, C, dx, vs, rfl, h2, h3, h4, hl, h5, h6⟩ := h
    rw [owL_ob h3 hl, owL_ob (e _ _ h3) hl]
  | ow ds =>
    obtain ⟨p, xs, rfl, _⟩ := h
    rfl
  | _ => rfl
structure Rel (cv : Nat → Value) (ρ : Rho) (σ : L2.St) (F H : Hp) : Prop where
  len : ρ.length = σ.length
  le : Ex F H
  cell : ∀ (i : Nat) (c : Cell), ρ[i]? = some c → CellOk cv F H σ[i]? c
  apart : ∀ (i j : Nat) (c c' : Cell) (p : Addr), ρ[i]? = some c → ρ[j]? = some c' → p ∈ owL H σ[i]? c → p ∈ owL H σ[j]? c' → i = j
theorem CellOk.evo {cv : Nat → Value} {F H F' H' : Hp} {ov : Option (Option V)} {c : Cell} (e : Evo F H F' H') (h : CellOk cv F H ov c) : CellOk cv F' H' ov c := by
  cases c with
  | un => trivial
  | fr d => obtain ⟨v, h1, h2⟩ := h; exact ⟨v, h1, dp_mono e.ex h2⟩
  | ow ds =>
    obtain ⟨p, xs, h1, h2, h3, h4⟩ := h
    refine ⟨p, xs, h1, e.hx _ _ h2, ?_, dps_mono e.ex h4⟩
    cases q : F' p with
    | none => rfl
    | some o =>
      rcases e.new p o q with z | z
      · rw [h3] at z; cases z
      · rw [h2] at z; cases z
  | ob k fs =>
    obtain ⟨a, C, dx, vs, h1, h2, h3, h4, hl, h5, h6⟩ := h
    refine ⟨a, C, dx, vs, h1, h2, e.hx _ _ h3, ?_, hl, h5.evo e, h6⟩
    cases q : F' a with
    | none => rfl
    | some o =>
      rcases e.new a o q with z | z
      · rw [h4] at z; cases z
      · rw [h3] at z; cases z
  | ro k fs =>
    obtain ⟨a, C, dx, vs, h1, h2, h3, hl, h4⟩ := h
    exact ⟨a, C, dx, vs, h1, h2, e.ex _ _ h3, hl, dps_mono e.ex h4⟩
/-- more is shared, but nothing that the cell owns -/
theorem FdsOk.shr {F F' H : Hp} (ex : Ex F F') : ∀ {vs : List V} {fs : List Fd}, FdsOk F H vs fs → (∀ q ∈ ownV vs fs, F q = none → F' q = none) → FdsOk F' H vs fs
  | _, _, .nil, _ => .nil
  | v :: vs, .fr d :: fs, .cons h hs, k => .cons (dp_mono ex h) (FdsOk.shr ex hs fun q hq => k q (by cases v <;> exact hq))
  | v :: vs, .ow ds :: fs, .cons ⟨p, xs, e, h2, h3, h4⟩ hs, k => by
    subst e
    exact .cons ⟨p, xs, rfl, h2, k p List.mem_cons_self h3, dps_mono ex h4⟩ (FdsOk.shr ex hs fun q hq => k q (List.mem_cons_of_mem _ hq))
theorem CellOk.shr {cv : Nat → Value} {F F' H : Hp} {ov : Option (Option V)} {c : Cell} (h : CellOk cv F H ov c) (ex : Ex F F') (le : Ex F' H) (k : ∀ q ∈ owL H ov c, F q = none → F' q = none) : CellOk cv F' H ov c := by
  cases c with
  | un => trivial
  | fr d => obtain ⟨v, h1, h2⟩ := h; exact ⟨v, h1, dp_mono ex h2⟩
  | ow ds =>
    obtain ⟨p, xs, h1, h2, h3, h4⟩ := h
    exact ⟨p, xs, h1, h2, k p (by rw [h1]; simp) h3, dps_mono ex h4⟩
  | ob z fs =>
    obtain ⟨a, C, dx, vs, h1, h2, h3, h4, hl, h5, h6⟩ := h
    subst h1
    rw [owL_ob h3 hl] at k
    exact ⟨a, C, dx, vs, rfl, h2, h3, k a List.mem_cons_self h4, hl, h5.shr ex fun q hq => k q (List.mem_cons_of_mem _ hq), h6⟩
  | ro z fs =>
    obtain ⟨a, C, dx, vs, h1, h2, h3, hl, h4⟩ := h
    exact ⟨a, C, dx, vs, h1, h2, ex _ _ h3, hl, dps_mono ex h4⟩
theorem Rel.evo {cv : Nat → Value} {ρ : Rho} {σ : L2.St} {F H F' H' : Hp} (r : Rel cv ρ σ F H) (e : Evo F H F' H') : Rel cv ρ σ F' H' :=
  ⟨r.len, e.le, fun i c h => (r.cell i c h).evo e, fun i j c c' p h1 h2 h3 h4 => r.apart i j c c' p h1 h2 (by rw [← owL_ex (r.cell i c h1) e.hx]; exact h3) (by rw [← owL_ex (r.cell j c' h2) e.hx]; exact h4)⟩

/-! ### what an expression is to give -/
/-- what follows a shared value, a value read at once, a new list -/
def QD (F H : Hp) (d : D) (Q : VK) : Prop := ∀ v F' H', Evo F H F' H' → Dr F' v d → Q v H'
def QW (F H : Hp) (d : D) (Q : VK) : Prop := ∀ v F' H', Evo F H F' H' → Wk F' H' v d → Q v H'
def QN (F H : Hp) (ds : List D) (Q : VK) : Prop := ∀ p xs F' H', Evo F H F' H' → H p = none → F' p = none → H' p = some (.lst xs) → DrAll F' xs ds → Q (.ref p) H'
def QX (cv : Nat → Value) (W : WX) (F H : Hp) (σ : L2.St) (c : Nat) : Prop := ∀ F' H', Evo F H F' H' → W (cv c) none σ H'
def GotE (cv : Nat → Value) (W : WX) (F H : Hp) (σ : L2.St) (Q : VK) : Res → Prop
  | .ok d => QD F H d Q
  | .new ds => QN F H ds Q
  | .exc c => QX cv W F H σ c
  | .bad => False
def GotS (cv : Nat → Value) (W : WX) (F H : Hp) (σ : L2.St) (Q : VK) : Res → Prop
  | .ok d => QD F H d Q
  | .new ds => QD F H (.list ds) Q
  | .exc c => QX cv W F H σ c
  | .bad => False
def GotW (cv : Nat → Value) (W : WX) (F H : Hp) (σ : L2.St) (Q : VK) : Res → Prop
  | .ok d => QW F H d Q
  | .new ds => QW F H (.list ds) Q
  | .exc c => QX cv W F H σ c
  | .bad => False
theorem QD.n {F H : Hp} {ds : List D} {Q : VK} (h : QD F H (.list ds) Q) : QN F H ds Q := fun p xs F' H' ev hp hF hH hs =>
  h (.ref p) _ H' (ev.give hH hp hF) (.lst (Rd.of upd_same) (dps_mono (Evl.Ex.new hF) hs))
theorem QW.d {F H : Hp} {d : D} {Q : VK} (h : QW F H d Q) : QD F H d Q := fun v F' H' ev hd => h v F' H' ev (.inl hd)
theorem QW.n {F H : Hp} {ds : List D} {Q : VK} (h : QW F H (.list ds) Q) : QN F H ds Q := fun p xs F' H' ev hp hF hH hs => h (.ref p) F' H' ev (.inr ⟨p, xs, ds, rfl, rfl, hH, hs⟩)
theorem GotS.e {cv : Nat → Value} {W : WX} {F H : Hp} {σ : L2.St} {Q : VK} : ∀ {r : Res}, GotS cv W F H σ Q r → GotE cv W F H σ Q r
  | .ok _, h => h
  | .new _, h => QD.n h
  | .exc _, h => h
  | .bad, h => h
theorem GotW.e {cv : Nat → Value} {W : WX} {F H : Hp} {σ : L2.St} {Q : VK} : ∀ {r : Res}, GotW cv W F H σ Q r → GotE cv W F H σ Q r
  | .ok _, h => QW.d h
  | .new _, h => QW.n h
  | .exc _, h => h
  | .bad, h => h
theorem GotW.s {cv : Nat → Value} {W : WX} {F H : Hp} {σ : L2.St} {Q : VK} : ∀ {r : Res}, GotW cv W F H σ Q r → GotS cv W F H σ Q r
  | .ok _, h => QW.d h
  | .new _, h => QW.d h
  | .exc _, h => h
  | .bad, h => h
def rdE (cv : Nat → Value) (W : WX) (m : Sm) : TE := fun σ H Q => ∃ ρ F, Rel cv ρ σ F H ∧ GotE cv W F H σ Q (m ρ)
/-- .. read at once -/
def rdW (cv : Nat → Value) (W : WX) (m : Sm) : TE := fun σ H Q => ∃ ρ F, Rel cv ρ σ F H ∧ GotW cv W F H σ Q (m ρ)
/-- .. shared in any case -/
def rdS (cv : Nat → Value) (W : WX) (m : Sm) : TE := fun σ H Q => ∃ ρ F, Rel cv ρ σ F H ∧ GotS cv W F H σ Q (m ρ)
theorem PE.imp {X : Cx} {e : Expr} {t t' : TE} (h : PE X e t) (k : ∀ σ H Q, t' σ H Q → t σ H Q) : PE X e t' := ⟨fun pins s σ H Q I hw => h.run pins s σ H Q I (k σ H Q hw)⟩
/-- an expression gives what m says -/
def JE (X : Cx) (cv : Nat → Value) (W : WX) (e : Expr) (m : Sm) : Prop := PE X e (rdE cv W m)
def JW (X : Cx) (cv : Nat → Value) (W : WX) (e : Expr) (m : Sm) : Prop := PE X e (rdW cv W m)
def JS (X : Cx) (cv : Nat → Value) (W : WX) (e : Expr) (m : Sm) : Prop := PE X e (rdS cv W m)
section
variable {X : Cx} {cv : Nat → Value} {W : WX} {a b : Expr} {m ma mb : Sm} {pos : Pos}
theorem JE.s (h : JE X cv W a m) : JS X cv W a m := PE.imp h fun σ H Q ⟨ρ, F, r, q⟩ => ⟨ρ, F, r, q.e⟩
theorem JE.w (h : JE X cv W a m) : JW X cv W a m := PE.imp h fun σ H Q ⟨ρ, F, r, q⟩ => ⟨ρ, F, r, q.e⟩
end
theorem QD.evo {F H F' H' : Hp} {d : D} {Q : VK} (e : Evo F H F' H') (h : QD F H d Q) : QD F' H' d Q := fun v F2 H2 ev hd => h v F2 H2 (e.trans ev) hd
theorem QW.evo {F H F' H' : Hp} {d : D} {Q : VK} (e : Evo F H F' H') (h : QW F H d Q) : QW F' H' d Q := fun v F2 H2 ev hd => h v F2 H2 (e.trans ev) hd
theorem QN.evo {F H F' H' : Hp} {d : List D} {Q : VK} (e : Evo F H F' H') (h : QN F H d Q) : QN F' H' d Q := fun p xs F2 H2 ev hp hF hH hs => h p xs F2 H2 (e.trans ev) (none_back e.hx hp) hF hH hs
theorem QX.evo {cv : Nat → Value} {W : WX} {σ : L2.St} {F H F' H' : Hp} {c : Nat} (e : Evo F H F' H') (h : QX cv W F H σ c) : QX cv W F' H' σ c := fun F2 H2 ev => h F2 H2 (e.trans ev)
theorem GotE.evo {cv : Nat → Value} {W : WX} {σ : L2.St} {F H F' H' : Hp} {Q : VK} (e : Evo F H F' H') : ∀ {r : Res}, GotE cv W F H σ Q r → GotE cv W F' H' σ Q r
  | .ok _, h => QD.evo e h
  | .new _, h => QN.evo e h
  | .exc _, h => QX.evo e h
  | .bad, h => h

/-! ### operations on data -/
inductive Rp where
  | ok (d : D)
  | new (ds : List D)
  | bad
def Rp.up : Rp → Res
  | .ok d => .ok d
  | .new ds => .new ds
  | .bad => .bad
@[simp] theorem Rp.up_ok (d : D) : (Rp.ok d).up = .ok d := rfl
@[simp] theorem Rp.up_new (d : List D) : (Rp.new d).up = .new d := rfl
@[simp] theorem Rp.up_bad : Rp.bad.up = .bad := rfl
def GotP (F H : Hp) (Q : VK) : Rp → Prop
  | .ok d => QD F H d Q
  | .new ds => QN F H ds Q
  | .bad => False
theorem GotP.of {cv : Nat → Value} {W : WX} {σ : L2.St} {F H : Hp} {Q : VK} : ∀ {r : Rp}, GotE cv W F H σ Q r.up → GotP F H Q r
  | .ok _, h => h
  | .new _, h => h
  | .bad, h => h
def rG (g : D → D → Rp) : R2 := fun x y H Q => ∃ F dx dy, Ex F H ∧ Wk F H x dx ∧ Wk F H y dy ∧ GotP F H Q (g dx dy)
def rG1 (g : D → Rp) : V → Hp → VK → Prop := fun x H Q => ∃ F dx, Ex F H ∧ Wk F H x dx ∧ GotP F H Q (g dx)
inductive WkAll (F H : Hp) : List V → List D → Prop
  | nil : WkAll F H [] []
  | cons {v : V} {d : D} {vs : List V} {ds : List D} : Wk F H v d → WkAll F H vs ds → WkAll F H (v :: vs) (d :: ds)
theorem WkAll.evo {F H F' H' : Hp} (e : Evo F H F' H') : ∀ {vs : List V} {ds : List D}, WkAll F H vs ds → WkAll F' H' vs ds
  | _, _, .nil => .nil
  | _, _, .cons h hs => .cons (h.evo e) (WkAll.evo e hs)
theorem WkAll.of {F H : Hp} : ∀ {vs : List V} {ds : List D}, DrAll F vs ds → WkAll F H vs ds
  | _, _, .nil => .nil
  | _, _, .cons h hs => .cons (.inl h) (WkAll.of hs)
def rGL (g : List D → Rp) : List V → Hp → VK → Prop := fun xs H Q => ∃ F ds, Ex F H ∧ WkAll F H xs ds ∧ GotP F H Q (g ds)
/-! ### the forms of expressions -/
def eV (i : Nat) : Sm := fun ρ => match ρ[i]? with
  | some (.fr d) => .ok d
  | _ => .bad
/-- a name that is read at once -/
def eK (i : Nat) : Sm := fun ρ => match ρ[i]? with
  | some (.fr d) => .ok d
  | some (.ow ds) => .ok (.list ds)
  | _ => .bad
def eC (d : D) : Sm := fun _ => .ok d
def e1 (g : D → Rp) (ma : Sm) : Sm := fun ρ => (ma ρ).bind fun x => (g x).up
def e2 (g : D → D → Rp) (ma mb : Sm) : Sm := fun ρ => (ma ρ).bind fun x => (mb ρ).bind fun y => (g x y).up
def evs : List Sm → SmL
  | [], _ => .ok []
  | m :: ms, ρ => (m ρ).bindL fun d => (evs ms ρ).bindL fun ds => .ok (d :: ds)
def eL (g : List D → Rp) (ms : List Sm) : Sm := fun ρ => (evs ms ρ).bind fun ds => (g ds).up
/-- a call of an own def, worth f -/
def eF (f : List D → Res) (ms : List Sm) : Sm := fun ρ => (evs ms ρ).bind f
def truth : D → Option Bool
  | .none => some false
  | .bool b => some b
  | .int i => some (i != 0)
  | .str y => if y.length ≤ 100000 then some ((y.length : Int) != 0) else none
  | .list ds => some (!ds.isEmpty)
  | .tuple ds => some (!ds.isEmpty)
  | .dict _ => none
def ifT (o : Option Bool) (a b : Res) : Res := match o with
  | some true => a
  | some false => b
  | none => .bad
@[simp] theorem ifT_t (a b : Res) : ifT (some true) a b = a := rfl
@[simp] theorem ifT_f (a b : Res) : ifT (some false) a b = b := rfl
@[simp] theorem ifT_n (a b : Res) : ifT none a b = .bad := rfl
def eAnd (ma mb : Sm) : Sm := fun ρ => (ma ρ).bind fun x => ifT (truth x) (mb ρ) (.ok x)
def eOr (ma mb : Sm) : Sm := fun ρ => (ma ρ).bind fun x => ifT (truth x) (.ok x) (mb ρ)
def gNot (x : D) : Rp := match truth x with
  | some b => .ok (.bool (!b))
  | none => .bad
def eIf (mc ma mb : Sm) : Sm := fun ρ => (mc ρ).bind fun x => ifT (truth x) (ma ρ) (mb ρ)
section
variable {X : Cx} {cv : Nat → Value} {W : WX} {a b c : Expr} {m ma mb mc : Sm} {pos : Pos}
theorem j_var {i : Nat} {x : Str} (hN : X.N[i]? = some x) (hv : Vis X.env.scope x) (hd : (x == ("__debug__" : Str)) = false) (hcd : (x == ("__classdict__" : Str)) = false) : JE X cv W (.Name x pos) (eV i) :=
  PE.imp (pe_var hN hv hd hcd) fun σ H Q ⟨ρ, F, r, q⟩ => by
    unfold eV at q
    cases h : ρ[i]? with
    | none => rw [h] at q; exact q.elim
    | some c =>
      rw [h] at q
      cases c with
      | un => exact q.elim
      | ow ds => exact q.elim
      | ob k fs => exact q.elim
      | ro k fs => exact q.elim
      | fr d =>
        obtain ⟨v, e, hd⟩ := r.cell i _ h
        exact ⟨v, e, q v F H (Evo.refl r.le) hd⟩
theorem j_pk {i : Nat} {x : Str} (hN : X.N[i]? = some x) (hv : Vis X.env.scope x) (hd : (x == ("__debug__" : Str)) = false) (hcd : (x == ("__classdict__" : Str)) = false) : JW X cv W (.Name x pos) (eK i) :=
  PE.imp (pe_var hN hv hd hcd) fun σ H Q ⟨ρ, F, r, q⟩ => by
    unfold eK at q
    cases h : ρ[i]? with
    | none => rw [h] at q; exact q.elim
    | some c =>
      rw [h] at q
      cases c with
      | un => exact q.elim
      | ob k fs => exact q.elim
      | ro k fs => exact q.elim
      | ow ds =>
        obtain ⟨p, xs, e, h1, h2, h3⟩ := r.cell i _ h
        exact ⟨_, e, q _ F H (Evo.refl r.le) (.inr ⟨p, xs, ds, rfl, rfl, h1, h3⟩)⟩
      | fr d =>
        obtain ⟨v, e, hd⟩ := r.cell i _ h
        exact ⟨v, e, q v F H (Evo.refl r.le) (.inl hd)⟩
theorem j_c {v : V} {d : D} (h : PE X a (tC v)) (hd : ∀ F, Dr F v d) : JE X cv W a (eC d) :=
  PE.imp h fun σ H Q ⟨ρ, F, r, q⟩ => q v F H (Evo.refl r.le) (hd F)
theorem j_e1 {op : UnaryOp} {g : D → Rp} (ho : UnR X (unaryOp op) (rG1 g)) (ha : JW X cv W a ma) : JE X cv W (.UnaryOp op a pos) (e1 g ma) :=
  PE.imp (pe_un ho ha) fun σ H Q ⟨ρ, F, r, q⟩ => by
    refine ⟨ρ, F, r, ?_⟩
    unfold e1 at q
    cases h : ma ρ with
    | ok d => rw [h] at q; exact fun v F1 H1 ev wk => ⟨F1, d, ev.le, wk, GotP.of (GotE.evo ev q)⟩
    | new d => rw [h] at q; exact fun v F1 H1 ev wk => ⟨F1, _, ev.le, wk, GotP.of (GotE.evo ev q)⟩
    | exc c => rw [h] at q; exact q
    | bad => rw [h] at q; exact q
/-- two expressions in a row, read at once -/
theorem rd2 {g : D → D → Res} {σ : L2.St} {H : Hp} {Q : V → V → Hp → Prop} {ρ : Rho} {F : Hp} {R : Res → Hp → Hp → Prop} (r : Rel cv ρ σ F H) (hX : ∀ c F H, R (.exc c) F H → QX cv W F H σ c) (hB : ∀ F H, ¬ R .bad F H)
    (mono : ∀ z F H F' H', Evo F H F' H' → R z F H → R z F' H')
    (q : R ((ma ρ).bind fun x => (mb ρ).bind fun y => g x y) F H) (k : ∀ x y dx dy F H, Ex F H → Wk F H x dx → Wk F H y dy → R (g dx dy) F H → Q x y H) :
    rdW cv W ma σ H fun x H1 => rdW cv W mb σ H1 fun y H2 => Q x y H2 := by
  have go : ∀ d, R ((mb ρ).bind fun y => g d y) F H → ∀ v F1 H1, Evo F H F1 H1 → Wk F1 H1 v d → rdW cv W mb σ H1 fun y H2 => Q v y H2 := fun d q v F1 H1 ev wk => by
    refine ⟨ρ, F1, r.evo ev, ?_⟩
    have fin : ∀ d2, R (g d d2) F H → QW F1 H1 d2 fun y H2 => Q v y H2 := fun d2 q v2 F2 H2 ev2 wk2 => k v v2 d d2 F2 H2 ev2.le (wk.evo ev2) wk2 (mono _ _ _ _ _ (ev.trans ev2) q)
    cases h : mb ρ with
    | ok d2 => rw [h] at q; exact fin d2 q
    | new d2 => rw [h] at q; exact fin _ q
    | exc c => rw [h] at q; exact (hX _ _ _ q).evo ev
    | bad => rw [h] at q; exact (hB _ _ q).elim
  refine ⟨ρ, F, r, ?_⟩
  cases h : ma ρ with
  | ok d => rw [h] at q; exact go d q
  | new d => rw [h] at q; exact go _ q
  | exc c => rw [h] at q; exact hX _ _ _ q
  | bad => rw [h] at q; exact (hB _ _ q).elim
theorem j_op {op : Operator} {g : D → D → Rp} (ho : OpR X (binaryOp op) (rG g)) (ha : JW X cv W a ma) (hb : JW X cv W b mb) : JE X cv W (.BinOp a op b pos) (e2 g ma mb) :=
  PE.imp (pe_op ho ha hb) fun σ H Q ⟨ρ, F, r, q⟩ =>
    rd2 (g := fun x y => (g x y).up) (R := fun z F H => GotE cv W F H σ Q z) r (fun _ _ _ h => h) (fun _ _ h => h) (fun _ _ _ _ _ e h => GotE.evo e h) q
      fun x y dx dy F H le wx wy h => ⟨F, dx, dy, le, wx, wy, GotP.of h⟩
theorem j_cmp {op : CmpOp} {g : D → D → Rp} (ho : OpR X (compareOp op) (rG g)) (ha : JW X cv W a ma) (hb : JW X cv W b mb) (hm : behindInMarks op b = false) : JE X cv W (.Compare a [op] [b] pos) (e2 g ma mb) :=
  PE.imp (pe_cmpR ho ha hb hm) fun σ H Q ⟨ρ, F, r, q⟩ =>
    rd2 (g := fun x y => (g x y).up) (R := fun z F H => GotE cv W F H σ Q z) r (fun _ _ _ h => h) (fun _ _ h => h) (fun _ _ _ _ _ e h => GotE.evo e h) q
      fun x y dx dy F H le wx wy h => ⟨F, dx, dy, le, wx, wy, GotP.of h⟩
theorem j_ix {g : D → D → Rp} (ho : IxR X (rG g)) (ha : JW X cv W a ma) (hb : JW X cv W b mb) (hs : PlainIx b) : JE X cv W (.Subscript a b pos) (e2 g ma mb) :=
  PE.imp (pe_ix ho ha hb hs) fun σ H Q ⟨ρ, F, r, q⟩ =>
    rd2 (g := fun x y => (g x y).up) (R := fun z F H => GotE cv W F H σ Q z) r (fun _ _ _ h => h) (fun _ _ h => h) (fun _ _ _ _ _ e h => GotE.evo e h) q
      fun x y dx dy F H le wx wy h => ⟨F, dx, dy, le, wx, wy, GotP.of h⟩
end
end U
set_option Elab.async false
set_option linter.all false
set_option maxRecDepth 100000
set_option maxHeartbeats 4000000
namespace U
open PySem PySem.Spec PyProof.Rows L2
/-! ### tuple * int, any int -/
theorem tuple_mul1 (l : Addr) (items : Array Value) (n : Nat) (dd : Option Addr) (sl : Array (Option Value)) (x : Int) (u : Tok) (c0 : (decide (x < -(2 ^ 63)) || decide (x ≥ 2 ^ 63)) = false) (c1 : (items.isEmpty || x == 1) = true) :
    Meets (Builtin.«tuple.__mul__» ⟨[.ref l, .int x u], []⟩) (fun _ R s => s.heap.get? l = some { cls := .type "tuple", dict := dd, data := .seq items n, slots := sl } ∧ R (.ok (.ret (Value.ref l))) s) :=
  .of_wp fun prog w A R s h => by
    obtain ⟨hp, g, d, tk, os⟩ := s
    obtain ⟨hl, h⟩ := h
    have f1 := AutoSeq1.idx_int
    wp_walk using wpAny_loadPart' hl
    repeat (first
      | (refine wpAny_ite_false (decide_eq_false (by rw [c0]; exact Bool.false_ne_true)) ?_; wp_walk using wpAny_loadPart' hl)
      | (refine wpAny_ite_true (decide_eq_true c1) ?_; wp_walk using wpAny_loadPart' hl))
    exact ⟨_, rfl, h⟩
theorem tuple_mul0 (l : Addr) (items : Array Value) (n : Nat) (dd : Option Addr) (sl : Array (Option Value)) (x : Int) (u : Tok) (c0 : (decide (x < -(2 ^ 63)) || decide (x ≥ 2 ^ 63)) = false) (c1 : (items.isEmpty || x == 1) = false) (c2 : (decide (x ≤ 0) || items.isEmpty) = true) :
    Meets (Builtin.«tuple.__mul__» ⟨[.ref l, .int x u], []⟩) (fun _ R s => s.heap.get? l = some { cls := .type "tuple", dict := dd, data := .seq items n, slots := sl } ∧
      R (.ok (.ret (Value.ref s.heap.objs.size))) { s with heap := s.heap.push { cls := Value.type "tuple", data := Data.seq #[] }, toks := s.toks }) :=
  .of_wp fun prog w A R s h => by
    obtain ⟨hp, g, d, tk, os⟩ := s
    obtain ⟨hl, h⟩ := h
    have f1 := AutoSeq1.idx_int
    have hz : ¬ (#[] : Array Value).size > sizeLine := by decide
    wp_walk using wpAny_loadPart' hl
    repeat (first
      | (refine wpAny_ite_false (decide_eq_false (by rw [c0]; exact Bool.false_ne_true)) ?_; wp_walk using wpAny_loadPart' hl)
      | (refine wpAny_ite_false (decide_eq_false (by rw [c1]; exact Bool.false_ne_true)) ?_; wp_walk using wpAny_loadPart' hl)
      | (refine wpAny_ite_true (decide_eq_true c2) ?_; wp_walk using wpAny_loadPart' hl)
      | (refine wpAny_ite_false (decide_eq_false hz) ?_; wp_walk using wpAny_loadPart' hl))
    exact ⟨_, rfl, h⟩
/-- what is read as a list stands as one -/
theorem Inv.rdl {X : Cx} {pins : List (Addr × Obj)} {σ : L2.St} {H : Hp} {s : Shared} {p : Addr} {xs : List V} (I : Inv X pins σ H s) (h : Rd H p (.lst xs)) :
    xs.length ≤ sizeLine ∧ ∃ (its : List Value) (n : Nat), Vals xs its ∧ s.heap.get? p = some { cls := .type "list", data := .seq its.toArray n } := h.ok I.hok
def rRepA : R2 := fun x y H Q => ∃ l k xs, x = .ref l ∧ y = .int k ∧ H l = some (.tup xs) ∧ -1000 ≤ k ∧ k ≤ 1000 ∧ xs.length ≤ 1000 ∧ ((xs = [] ∨ k = 1) → Q (.ref l) H) ∧ (xs ≠ [] → k ≠ 1 → ∀ p, H p = none → Q (.ref p) (upd H p (.tup (List.replicate k.toNat xs).flatten)))
section
variable {X : Cx}
theorem op_repA : OpR X (binaryOp .Mult) rRepA := by
  intro pins s σ H x y v u Q I rx ry h
  obtain ⟨l, k, xs, rfl, rfl, hT, h1, h2, hz, q1, q2⟩ := h
  by_cases hk : 2 ≤ k ∧ xs ≠ []
  · exact op_repT pins s σ H _ _ v u Q I rx ry ⟨l, k, xs, rfl, rfl, .inl (.inl hT), hk.2, hk.1, h2, hz, q2 hk.2 (by omega)⟩
  cases rx
  obtain ⟨t, rfl⟩ := ry
  obtain ⟨its, r, ⟨⟨cls, dd, data, sl⟩, ho, hc, n, hd⟩, hs⟩ := I.tuple (.inl (.inl hT))
  simp only at hc hd
  subst hc hd
  have hle : its.length = xs.length := r.length.symm
  have c0 : (decide (k < -(2 ^ 63)) || decide (k ≥ 2 ^ 63)) = false := by
    rw [decide_eq_false (by omega), decide_eq_false (by omega)] <;> rfl
  by_cases e1 : xs = [] ∨ k = 1
  · have c1 : (its.toArray.isEmpty || k == 1) = true := by
      rcases e1 with e | e
      · have : its = [] := List.eq_nil_of_length_eq_zero (by rw [hle, e]; rfl)
        subst this; rfl
      · subst e; simp
    exact wpAny_binaryOp_repeat_ref (T := "tuple") (U := "int") (by decide) ⟨_, ho, rfl⟩ (fun s' => typeIs_int s' k t) noFill_tuple_mul F.fills_int_mul F.slot_int_rmul repeat_tuple F.slot_int_index.lookup
      (call_meets F.slot_int_rmul (typeIs_int s k t) F.entry_int_rmul (F.args_int_rmul_2 _ _) (int_rmul_tuple k t l its.toArray n dd sl)
        ⟨ho, rfl, ⟨_, ho, rfl⟩, call_meets F.slot_tuple_mul ⟨_, ho, rfl⟩ F.entry_tuple_mul (F.args_tuple_mul_2 _ _) (tuple_mul1 l its.toArray n dd sl k t c0 c1) ⟨ho, .ref l, H, I, rfl, q1 e1⟩⟩)
  · have hne : xs ≠ [] := fun e => e1 (.inl e)
    have hk1 : k ≠ 1 := fun e => e1 (.inr e)
    have hn : its ≠ [] := fun e => hne (by
      rw [e] at hle
      exact List.eq_nil_of_length_eq_zero hle.symm)
    have hi : its.toArray.isEmpty = false := by
      cases its with
      | nil => exact absurd rfl hn
      | cons a b => rfl
    have hk0 : k ≤ 0 := by
      have : ¬ 2 ≤ k := fun z => hk ⟨z, hne⟩
      omega
    have c1 : (its.toArray.isEmpty || k == 1) = false := by
      rw [hi, Bool.false_or]
      exact beq_eq_false_iff_ne.mpr hk1
    have c2 : (decide (k ≤ 0) || its.toArray.isEmpty) = true := by
      rw [decide_eq_true hk0]; rfl
    refine wpAny_binaryOp_repeat_ref (T := "tuple") (U := "int") (by decide) ⟨_, ho, rfl⟩ (fun s' => typeIs_int s' k t) noFill_tuple_mul F.fills_int_mul F.slot_int_rmul repeat_tuple F.slot_int_index.lookup
      (call_meets F.slot_int_rmul (typeIs_int s k t) F.entry_int_rmul (F.args_int_rmul_2 _ _) (int_rmul_tuple k t l its.toArray n dd sl)
        ⟨ho, rfl, ⟨_, ho, rfl⟩, call_meets F.slot_tuple_mul ⟨_, ho, rfl⟩ F.entry_tuple_mul (F.args_tuple_mul_2 _ _) (tuple_mul0 l its.toArray n dd sl k t c0 c1 c2) ⟨ho, ?_⟩⟩)
    have e0 : k.toNat = 0 := by omega
    have q := q2 hne hk1 _ (I.hok.fresh (Nat.le_refl _))
    rw [e0] at q
    refine ⟨.ref s.heap.objs.size, _, I.laid (t' := s.toks) (o := .tup []) (fun b ob q => Heap.get?_push_of_some _ q) (Nat.le_refl _) ?_, rfl, q⟩
    exact ⟨Nat.zero_le _, [], .nil, IsTup.new _ _⟩
/-! ### lists + lists, lists * ints -/
def rCatR : R2 := fun x y H Q => ∃ l b xs zs, x = .ref l ∧ y = .ref b ∧ Rd H l (.lst xs) ∧ Rd H b (.lst zs) ∧ xs.length + zs.length ≤ sizeLine ∧ ∀ p, H p = none → Q (.ref p) (upd H p (.lst (xs ++ zs)))
theorem op_catR : OpR X (binaryOp .Add) rCatR := by
  intro pins s σ H x y v u Q I rx ry h
  obtain ⟨l, b, xs, zs, rfl, rfl, hH, hB, hz, q⟩ := h
  cases rx
  cases ry
  obtain ⟨z, its, n, r, e⟩ := Inv.rdl I hH
  obtain ⟨z2, its2, n2, r2, e2⟩ := Inv.rdl I hB
  have hl := r.length
  have hl2 := r2.length
  refine PySem.P.add_list e e2 ?_ (by rw [List.size_toArray, List.size_toArray]; omega)
  have ea : its.toArray ++ its2.toArray = (its ++ its2).toArray := by simp
  rw [ea]
  exact ⟨.ref _, _, I.lnew (t' := s.toks) (r.append r2) (by rw [List.length_append]; omega), rfl, q _ I.fresh⟩
/-! ### // by any divisor but 0 -/
def CDivA (_ j : Int) : Prop := j ≠ 0 ∧ j.natAbs.log2 < 9000
theorem op_fdivA : OpR X (binaryOp .FloorDiv) (rI CDivA fun i j => .int (i.fdiv j)) := opI fun _ _ _ _ _ _ _ hc q => floordiv_int hc.1 q (.inl (PyProof.noPylong_of_log2 hc.2))
theorem op_mulA : OpR X (binaryOp .Mult) (rI IntMulOk fun i j => .int (i * j)) := opI fun _ _ _ _ _ _ _ hc q => mul_int q hc
end
end U
set_option Elab.async false
set_option linter.all false
set_option maxRecDepth 100000
set_option maxHeartbeats 4000000
namespace U
open PySem PySem.Spec PyProof.Rows L2
/-! ### operations on data -/
def MulOk (i j : Int) : Prop := i.natAbs < 2 ^ 64 ∨ j.natAbs < 2 ^ 64 ∨ (i.natAbs < 2 ^ 400000 ∧ j.natAbs < 2 ^ 400000)
instance (i j : Int) : Decidable (MulOk i j) := by unfold MulOk; infer_instance
theorem MulOk.ok {i j : Int} (h : MulOk i j) : IntMulOk i j := by
  rcases h with h | h | ⟨h, k⟩
  · exact CMul.ok (.inl (by omega))
  · exact CMul.ok (.inr (by omega))
  · exact CMulW.ok (wide_mul h k (by omega) (by omega) (by omega))
def DivOk (j : Int) : Prop := j ≠ 0 ∧ j.natAbs < 2 ^ 9000
instance (j : Int) : Decidable (DivOk j) := by unfold DivOk; infer_instance
def gAdd : D → D → Rp
  | .int i, .int j => .ok (.int (i + j))
  | .str x, .str y => if x.length + y.length ≤ 100000 then .ok (.str (x ++ y)) else .bad
  | .list xs, .list ys => if xs.length + ys.length ≤ 100000 then .new (xs ++ ys) else .bad
  | .tuple xs, .tuple ys => if xs.length + ys.length ≤ 100000 then .ok (.tuple (xs ++ ys)) else .bad
  | _, _ => .bad
def gSub : D → D → Rp
  | .int i, .int j => .ok (.int (i - j))
  | _, _ => .bad
def gMul : D → D → Rp
  | .int i, .int j => if MulOk i j then .ok (.int (i * j)) else .bad
  | .list xs, .int k => if -1000 ≤ k ∧ k ≤ 1000 ∧ xs.length ≤ 1000 then .new (List.replicate k.toNat xs).flatten else .bad
  | .tuple xs, .int k => if -1000 ≤ k ∧ k ≤ 1000 ∧ xs.length ≤ 1000 then .ok (.tuple (List.replicate k.toNat xs).flatten) else .bad
  | _, _ => .bad
def gFdiv : D → D → Rp
  | .int i, .int j => if DivOk j then .ok (.int (i.fdiv j)) else .bad
  | _, _ => .bad
def gMod : D → D → Rp
  | .int i, .int j => if j ≠ 0 then .ok (.int (i.fmod j)) else .bad
  | _, _ => .bad
def gPow : D → D → Rp
  | .int i, .int j => if 0 ≤ j ∧ j ≤ 1000000 ∧ i.natAbs < 2 ^ 64 then .ok (.int (i ^ j.toNat)) else .bad
  | _, _ => .bad
def gNeg : D → Rp
  | .int i => .ok (.int (-i))
  | _ => .bad
def gLt : D → D → Rp
  | .int i, .int j => .ok (.bool (decide (i < j)))
  | _, _ => .bad
def gLe : D → D → Rp
  | .int i, .int j => .ok (.bool (decide (i ≤ j)))
  | _, _ => .bad
def gGt : D → D → Rp
  | .int i, .int j => .ok (.bool (decide (j < i)))
  | _, _ => .bad
def gGe : D → D → Rp
  | .int i, .int j => .ok (.bool (decide (j ≤ i)))
  | _, _ => .bad
def gEq : D → D → Rp
  | .int i, .int j => .ok (.bool (decide (i = j)))
  | d, e => if SeqAt.shaped d = true ∧ SeqAt.shaped e = true then .ok (.bool (PyData.eqv d e)) else .bad
def gNe : D → D → Rp
  | .int i, .int j => .ok (.bool (!decide (i = j)))
  | d, e => if SeqAt.shaped d = true ∧ SeqAt.shaped e = true then .ok (.bool (!PyData.eqv d e)) else .bad
def isNone : D → Bool
  | .none => true
  | _ => false
def gIs : D → D → Rp
  | d, .none => .ok (.bool (isNone d))
  | .bool a, .bool b => .ok (.bool (decide (a = b)))
  | _, _ => .bad
def gIsNot : D → D → Rp
  | d, .none => .ok (.bool (!isNone d))
  | .bool a, .bool b => .ok (.bool (!decide (a = b)))
  | _, _ => .bad
def optR : Option D → Rp
  | some d => .ok d
  | none => .bad
@[simp] theorem optR_some (d : D) : optR (some d) = .ok d := rfl
@[simp] theorem optR_none : optR none = .bad := rfl
def gIx : D → D → Rp
  | .list xs, .int i => optR (atI xs i)
  | .tuple xs, .int i => optR (atI xs i)
  | .str z, .int i => if z.length ≤ 100000 then optR ((atI z.cps.toList i).map fun c => .str ⟨#[c]⟩) else .bad
  | _, _ => .bad
/-! ### their rules -/
theorem QD.int {F H : Hp} {i : Int} {Q : VK} (le : Ex F H) (h : QD F H (.int i) Q) : Q (.int i) H := h _ F H (Evo.refl le) (.int i)
theorem QD.bool {F H : Hp} {i : Bool} {Q : VK} (le : Ex F H) (h : QD F H (.bool i) Q) : Q (.bl i) H := h _ F H (Evo.refl le) (.bl i)
theorem QD.str {F H : Hp} {i : Str} {Q : VK} (le : Ex F H) (h : QD F H (.str i) Q) : Q (.str i) H := h _ F H (Evo.refl le) (.str i)
theorem QD.dr {F H : Hp} {d : D} {v : V} {Q : VK} (le : Ex F H) (h : QD F H d Q) (hd : Dr F v d) : Q v H := h _ F H (Evo.refl le) hd
/-- a new tuple -/
theorem QD.tup {F H : Hp} {ds : List D} {xs : List V} {Q : VK} (le : Ex F H) (h : QD F H (.tuple ds) Q) (hd : DrAll F xs ds) {p : Addr} (hp : H p = none) : Q (.ref p) (upd H p (.tup xs)) :=
  h _ _ _ ((Evo.refl le).put hp) (.tup upd_same (dps_mono (Evl.Ex.new (none_back le hp)) hd))
/-- a new list -/
theorem QN.lst {F H : Hp} {ds : List D} {xs : List V} {Q : VK} (le : Ex F H) (h : QN F H ds Q) (hd : DrAll F xs ds) {p : Addr} (hp : H p = none) : Q (.ref p) (upd H p (.lst xs)) :=
  h p xs F _ ((Evo.refl le).own hp) hp (none_back le hp) upd_same hd
theorem if_bad {P : Prop} [Decidable P] {F H : Hp} {Q : VK} {r : Rp} (h : GotP F H Q (if P then r else .bad)) : P ∧ GotP F H Q r := by
  by_cases p : P
  · rw [if_pos p] at h; exact ⟨p, h⟩
  · rw [if_neg p] at h; exact h.elim
theorem of_optR {F H : Hp} {Q : VK} {o : Option D} (h : GotP F H Q (optR o)) : ∃ d, o = some d ∧ QD F H d Q := by
  cases o with
  | none => exact h.elim
  | some d => exact ⟨d, rfl, h⟩
section
variable {X : Cx}
theorem o_add : OpR X (binaryOp .Add) (rG gAdd) := by
  intro pins s σ H x y v u Q I rx ry ⟨F, dx, dy, le, wx, wy, q⟩
  cases dx <;> cases dy <;> try exact q.elim
  · cases wx.int; cases wy.int
    exact op_add pins s σ H _ _ v u Q I rx ry ⟨_, _, rfl, rfl, QD.int le q⟩
  · cases wx.str; cases wy.str
    obtain ⟨hz, q⟩ := if_bad q
    exact op_add_str pins s σ H _ _ v u Q I rx ry ⟨_, _, rfl, rfl, Evl.sz_of hz, QD.str le q⟩
  · obtain ⟨p, xs, rfl, hp, hx⟩ := wx.list le
    obtain ⟨p2, ys, rfl, hp2, hy⟩ := wy.list le
    obtain ⟨hz, q⟩ := if_bad q
    rw [← dps_len hx, ← dps_len hy] at hz
    exact op_catR pins s σ H _ _ v u Q I rx ry ⟨_, _, _, _, rfl, rfl, hp, hp2, Evl.sz_of hz, fun l hl => QN.lst le q (dps_app hx hy) hl⟩
  · obtain ⟨p, xs, rfl, hpF, hp, hx⟩ := wx.tuple le
    obtain ⟨p2, ys, rfl, hp2F, hp2, hy⟩ := wy.tuple le
    obtain ⟨hz, q⟩ := if_bad q
    rw [← dps_len hx, ← dps_len hy] at hz
    refine op_catA pins s σ H _ _ v u Q I rx ry ⟨_, _, _, _, rfl, rfl, .inl (.inl hp), .inl (.inl hp2), Evl.sz_of hz, fun e => ?_, fun e1 e2 => ?_, fun _ _ l hl => QD.tup le q (dps_app hx hy) hl⟩
    · subst e
      cases hx
      exact q.dr le (.tup hp2F hy)
    · subst e2
      cases hy
      rw [List.append_nil] at q
      exact q.dr le (.tup hpF hx)
theorem o_sub : OpR X (binaryOp .Sub) (rG gSub) := by
  intro pins s σ H x y v u Q I rx ry ⟨F, dx, dy, le, wx, wy, q⟩
  cases dx <;> cases dy <;> try exact q.elim
  cases wx.int; cases wy.int
  exact op_sub pins s σ H _ _ v u Q I rx ry ⟨_, _, rfl, rfl, QD.int le q⟩
def rRepR : R2 := fun x y H Q => ∃ l k xs, x = .ref l ∧ y = .int k ∧ Rd H l (.lst xs) ∧ -1000 ≤ k ∧ k ≤ 1000 ∧ xs.length ≤ 1000 ∧ ∀ p, H p = none → Q (.ref p) (upd H p (.lst (List.replicate k.toNat xs).flatten))
theorem o_repR : OpR X (binaryOp .Mult) rRepR := by
  intro pins s σ H x y v u Q I rx ry ⟨l, k, xs, ex, ey, hH, h1, h2, h3, q⟩
  subst ex ey
  cases rx
  obtain ⟨t, rfl⟩ := ry
  obtain ⟨z, its, n, r, e⟩ := Inv.rdl I hH
  have hl : xs.length = its.length := r.length
  have hb : its.length * k.toNat ≤ 1000 * 1000 := Nat.mul_le_mul (by omega) (by omega)
  have hlen : its.toArray.size * k.toNat ≤ sizeLine := by rw [List.size_toArray, sizeLine_eq]; omega
  have A1 : ¬ its.toArray.size * k.toNat > (2 ^ 63 - 1) / 8 := by rw [List.size_toArray]; omega
  have A2 : ¬ (!Builtin.List.listFitsIndex k) = true := by rw [fitsIndex_both (by omega) (by omega)]; exact Bool.false_ne_true
  have A3 : ¬ Builtin.List.listTooLong (its.toArray.size * k.toNat) = true := by rw [notLongL hlen]; exact Bool.false_ne_true
  have A4 : List.foldl (fun x1 x2 => x1 ++ x2) #[] (List.replicate (if its.toArray.isEmpty = true then 0 else k.toNat) its.toArray) = (List.replicate k.toNat its).flatten.toArray := by
    rw [size_rep]
    cases its with
    | nil => simp
    | cons a r' => rw [if_neg (by simp)]
  refine wpAny_binaryOp_repeat_ref (T := "list") (U := "int") (by decide) ⟨_, e, rfl⟩ (fun s' => typeIs_int s' k t) noFill_list_mul F.fills_int_mul F.slot_int_rmul repeat_list F.slot_int_index.lookup
    (call_meets F.slot_int_rmul (typeIs_int s k t) F.entry_int_rmul (F.args_int_rmul_2 _ _) (int___rmul___int_list k t l its.toArray n) ⟨e, rfl, ⟨_, e, rfl⟩, call_meets F.slot_list_mul ⟨_, e, rfl⟩ F.entry_list_mul (F.args_list_mul_2 _ _) (AutoListH.list___mul___list_int_3 l its.toArray n k t A2 A1 A3) ⟨e, ?_⟩⟩)
  rw [A4]
  exact ⟨.ref _, _, I.lnew (t' := s.toks) (r.rep k.toNat) (by rw [PyProof.Rows.lm_len_rep_flat, Nat.mul_comm, hl]; simpa using hlen), rfl, q _ I.fresh⟩
theorem o_mul : OpR X (binaryOp .Mult) (rG gMul) := by
  intro pins s σ H x y v u Q I rx ry ⟨F, dx, dy, le, wx, wy, q⟩
  cases dx <;> cases dy <;> try exact q.elim
  · cases wx.int; cases wy.int
    obtain ⟨hz, q⟩ := if_bad q
    exact op_mulA pins s σ H _ _ v u Q I rx ry ⟨_, _, rfl, rfl, hz.ok, QD.int le q⟩
  · obtain ⟨p, xs, rfl, hp, hx⟩ := wx.list le
    cases wy.int
    obtain ⟨⟨h1, h2, h3⟩, q⟩ := if_bad q
    exact o_repR pins s σ H _ _ v u Q I rx ry ⟨_, _, _, rfl, rfl, hp, h1, h2, by rw [dps_len hx]; exact h3, fun l hl => QN.lst le q (dps_rep hx _) hl⟩
  · obtain ⟨p, xs, rfl, hpF, hp, hx⟩ := wx.tuple le
    cases wy.int
    obtain ⟨⟨h1, h2, h3⟩, q⟩ := if_bad q
    refine op_repA pins s σ H _ _ v u Q I rx ry ⟨_, _, _, rfl, rfl, hp, h1, h2, by rw [dps_len hx]; exact h3, fun e => ?_, fun _ _ l hl => QD.tup le q (dps_rep hx _) hl⟩
    rcases e with e | e
    · subst e; cases hx
      have : (List.replicate (Int.toNat ‹Int›) ([] : List D)).flatten = [] := by simp
      simp only [List.flatten_replicate_nil] at q
      exact q.dr le (.tup hpF .nil)
    · subst e
      have q' : QD F H (.tuple (List.replicate (Int.toNat 1) _).flatten) Q := q
      have e1 : Int.toNat 1 = 1 := rfl
      rw [e1, List.replicate_one, List.flatten_singleton] at q'
      exact q'.dr le (.tup hpF hx)
theorem o_fdiv : OpR X (binaryOp .FloorDiv) (rG gFdiv) := by
  intro pins s σ H x y v u Q I rx ry ⟨F, dx, dy, le, wx, wy, q⟩
  cases dx <;> cases dy <;> try exact q.elim
  cases wx.int; cases wy.int
  obtain ⟨hz, q⟩ := if_bad q
  exact op_fdivA pins s σ H _ _ v u Q I rx ry ⟨_, _, rfl, rfl, ⟨hz.1, PySem.Flt.log2_lt_of (by omega) hz.2⟩, QD.int le q⟩
theorem o_mod : OpR X (binaryOp .Mod) (rG gMod) := by
  intro pins s σ H x y v u Q I rx ry ⟨F, dx, dy, le, wx, wy, q⟩
  cases dx <;> cases dy <;> try exact q.elim
  cases wx.int; cases wy.int
  obtain ⟨hz, q⟩ := if_bad q
  exact op_modN pins s σ H _ _ v u Q I rx ry ⟨_, _, rfl, rfl, hz, QD.int le q⟩
theorem o_pow : OpR X (binaryOp .Pow) (rG gPow) := by
  intro pins s σ H x y v u Q I rx ry ⟨F, dx, dy, le, wx, wy, q⟩
  cases dx <;> cases dy <;> try exact q.elim
  cases wx.int; cases wy.int
  obtain ⟨hz, q⟩ := if_bad q
  exact op_pow pins s σ H _ _ v u Q I rx ry ⟨_, _, rfl, rfl, hz, QD.int le q⟩
theorem o_neg : UnR X (unaryOp .USub) (rG1 gNeg) := by
  intro pins s σ H x v Q I rx ⟨F, dx, le, wx, q⟩
  cases dx <;> try exact q.elim
  cases wx.int
  exact un_neg pins s σ H _ v Q I rx ⟨_, rfl, QD.int le q⟩
theorem o_lt : OpR X (compareOp .Lt) (rG gLt) := by
  intro pins s σ H x y v u Q I rx ry ⟨F, dx, dy, le, wx, wy, q⟩
  cases dx <;> cases dy <;> try exact q.elim
  cases wx.int; cases wy.int
  exact op_lt pins s σ H _ _ v u Q I rx ry ⟨_, _, rfl, rfl, QD.bool le q⟩
theorem o_le : OpR X (compareOp .LtE) (rG gLe) := by
  intro pins s σ H x y v u Q I rx ry ⟨F, dx, dy, le, wx, wy, q⟩
  cases dx <;> cases dy <;> try exact q.elim
  cases wx.int; cases wy.int
  exact op_le pins s σ H _ _ v u Q I rx ry ⟨_, _, rfl, rfl, QD.bool le q⟩
theorem o_gt : OpR X (compareOp .Gt) (rG gGt) := by
  intro pins s σ H x y v u Q I rx ry ⟨F, dx, dy, le, wx, wy, q⟩
  cases dx <;> cases dy <;> try exact q.elim
  cases wx.int; cases wy.int
  exact op_gt pins s σ H _ _ v u Q I rx ry ⟨_, _, rfl, rfl, QD.bool le q⟩
theorem o_ge : OpR X (compareOp .GtE) (rG gGe) := by
  intro pins s σ H x y v u Q I rx ry ⟨F, dx, dy, le, wx, wy, q⟩
  cases dx <;> cases dy <;> try exact q.elim
  cases wx.int; cases wy.int
  exact op_ge pins s σ H _ _ v u Q I rx ry ⟨_, _, rfl, rfl, QD.bool le q⟩
theorem o_eq (hu : X.A.units + 64 < cLine) : OpR X (compareOp .Eq) (rG gEq) := by
  intro pins s σ H x y v u Q I rx ry ⟨F, dx, dy, le, wx, wy, q⟩
  have deep : (SeqAt.shaped dx = true ∧ SeqAt.shaped dy = true) ∧ GotP F H Q (.ok (.bool (PyData.eqv dx dy))) → wpAny (model X.prog X.w) X.A (compareOp .Eq v u) (EP X pins σ Q) X.xe s := fun ⟨⟨h1, h2⟩, q⟩ =>
    op_eqD hu pins s σ H x y v u Q I rx ry ⟨dx, dy, (wx.dp le).dp (SeqAt.canLay_of_shaped h1), (wy.dp le).dp (SeqAt.canLay_of_shaped h2), h1, h2, QD.bool le q⟩
  cases dx <;> cases dy <;> exact deep (if_bad q)
theorem o_ne (hu : X.A.units + 64 < cLine) : OpR X (compareOp .NotEq) (rG gNe) := by
  intro pins s σ H x y v u Q I rx ry ⟨F, dx, dy, le, wx, wy, q⟩
  have deep : (SeqAt.shaped dx = true ∧ SeqAt.shaped dy = true) ∧ GotP F H Q (.ok (.bool (!PyData.eqv dx dy))) → wpAny (model X.prog X.w) X.A (compareOp .NotEq v u) (EP X pins σ Q) X.xe s := fun ⟨⟨h1, h2⟩, q⟩ =>
    op_neD hu pins s σ H x y v u Q I rx ry ⟨dx, dy, (wx.dp le).dp (SeqAt.canLay_of_shaped h1), (wy.dp le).dp (SeqAt.canLay_of_shaped h2), h1, h2, QD.bool le q⟩
  cases dx <;> cases dy <;> exact deep (if_bad q)
theorem isNone_v {F H : Hp} {x : V} {d : D} (wx : Wk F H x d) : decide (x = .non) = isNone d := by
  cases d
  · cases wx.none; rfl
  · cases wx.bool; rfl
  · cases wx.int; rfl
  · cases wx.str; rfl
  · rcases wx with h | ⟨p, xs, ds', rfl, e, h, hs⟩
    · cases h; rfl
    · rfl
  · rcases wx with h | ⟨p, xs, ds', rfl, e, h, hs⟩
    · cases h; rfl
    · rfl
  · rcases wx with h | ⟨p, xs, ds', rfl, e, h, hs⟩
    · cases h; rfl
    · cases e
theorem o_is : OpR X (compareOp .Is) (rG gIs) := by
  intro pins s σ H x y v u Q I rx ry ⟨F, dx, dy, le, wx, wy, q⟩
  have deep : dy = .none → GotP F H Q (.ok (.bool (isNone dx))) → wpAny (model X.prog X.w) X.A (compareOp .Is v u) (EP X pins σ Q) X.xe s := fun e q => by
    subst e
    cases wy.none
    exact op_isN pins s σ H _ _ v u Q I rx ry ⟨rfl, by rw [isNone_v wx]; exact QD.bool le q⟩
  cases dy
  · exact deep rfl (by cases dx <;> exact q)
  · cases dx <;> try exact q.elim
    cases wx.bool; cases wy.bool
    exact op_isBl pins s σ H _ _ v u Q I rx ry ⟨_, _, rfl, rfl, QD.bool le q⟩
  all_goals (cases dx <;> exact q.elim)
theorem o_isnot : OpR X (compareOp .IsNot) (rG gIsNot) := by
  intro pins s σ H x y v u Q I rx ry ⟨F, dx, dy, le, wx, wy, q⟩
  have deep : dy = .none → GotP F H Q (.ok (.bool (!isNone dx))) → wpAny (model X.prog X.w) X.A (compareOp .IsNot v u) (EP X pins σ Q) X.xe s := fun e q => by
    subst e
    cases wy.none
    exact op_notN pins s σ H _ _ v u Q I rx ry ⟨rfl, by rw [isNone_v wx]; exact QD.bool le q⟩
  cases dy
  · exact deep rfl (by cases dx <;> exact q)
  · cases dx <;> try exact q.elim
    cases wx.bool; cases wy.bool
    exact op_notBl pins s σ H _ _ v u Q I rx ry ⟨_, _, rfl, rfl, QD.bool le q⟩
  all_goals (cases dx <;> exact q.elim)
theorem dps_at {F : Hp} {vs : List V} {ds : List D} {i : Int} {d : D} (h : DrAll F vs ds) (e : atI ds i = some d) : ∃ v, atI vs i = some v ∧ Dr F v d := by
  unfold atI at e ⊢
  rw [dps_len h]
  cases hk : ixN ds.length i with
  | none => rw [hk] at e; cases e
  | some j =>
    rw [hk] at e
    obtain ⟨v, h1, h2⟩ := dps_get h (show ds[j]? = some d from e)
    exact ⟨v, h1, h2⟩
theorem o_ix : IxR X (rG gIx) := by
  intro va sl pins s σ H x y v u Q I rx ry ⟨F, dx, dy, le, wx, wy, q⟩ hs
  cases dx <;> cases dy <;> try exact q.elim
  · cases wx.str; cases wy.int
    obtain ⟨hz, q⟩ := if_bad q
    obtain ⟨d, hd, q⟩ := of_optR q
    obtain ⟨c, hc, rfl⟩ := Option.map_eq_some_iff.mp hd
    exact ix_str va sl pins s σ H _ _ v u Q I rx ry ⟨_, _, c, rfl, rfl, Evl.sz_of hz, hc, QD.str le q⟩ hs
  · obtain ⟨p, xs, rfl, hp, hx⟩ := wx.list le
    cases wy.int
    obtain ⟨d, hd, q⟩ := of_optR q
    obtain ⟨w, h1, h2⟩ := dps_at hx hd
    exact ix_list va sl pins s σ H _ _ v u Q I rx ry ⟨_, _, _, w, rfl, rfl, .inl hp, h1, q.dr le h2⟩ hs
  · obtain ⟨p, xs, rfl, hpF, hp, hx⟩ := wx.tuple le
    cases wy.int
    obtain ⟨d, hd, q⟩ := of_optR q
    obtain ⟨w, h1, h2⟩ := dps_at hx hd
    exact ix_tup va sl pins s σ H _ _ v u Q I rx ry ⟨_, _, _, w, rfl, rfl, .inl (.inl hp), h1, q.dr le h2⟩ hs
end
end U
set_option Elab.async false
set_option linter.all false
set_option maxRecDepth 100000
set_option maxHeartbeats 4000000
namespace U
open PySem PySem.Spec PyProof.Rows L2
/-! ### slices -/
def cutL {α : Type} (xs : List α) (lo hi : Option Int) : List α := (xs.drop (HT.sIx xs.length 0 lo)).take (HT.sIx xs.length xs.length hi - HT.sIx xs.length 0 lo)
theorem dps_cut {F : Hp} {vs : List V} {ds : List D} (h : DrAll F vs ds) (lo hi : Option Int) : DrAll F (cutV vs lo hi) (cutL ds lo hi) := by
  unfold cutV cutL
  rw [dps_len h]
  exact dps_take _ (dps_drop _ h)
theorem cut_whole {α : Type} {xs : List α} {lo hi : Option Int} (h : HT.sIx xs.length 0 lo = 0 ∧ HT.sIx xs.length xs.length hi = xs.length) : cutL xs lo hi = xs := by
  unfold cutL
  rw [h.1, h.2]; simp
def gSl : D → Option Int → Option Int → Rp
  | .list xs, lo, hi => .new (cutL xs lo hi)
  | .tuple xs, lo, hi => .ok (.tuple (cutL xs lo hi))
  | .str z, lo, hi => if z.length ≤ 100000 then .ok (.str (cutS z lo hi)) else .bad
  | _, _, _ => .bad
def rGS (g : D → Option Int → Option Int → Rp) : V → Option Int → Option Int → Hp → VK → Prop := fun x lo hi H Q => ∃ F dx, Ex F H ∧ Wk F H x dx ∧ GotP F H Q (g dx lo hi)
def bindO (o : Option Sm) (ρ : Rho) (k : Option Int → Res) : Res := match o with
  | none => k none
  | some m => (m ρ).bind fun d => match d with
    | .int i => k (some i)
    | _ => .bad
def eSl (ma : Sm) (lo hi : Option Sm) : Sm := fun ρ => (ma ρ).bind fun x => bindO lo ρ fun l => bindO hi ρ fun h => (gSl x l h).up
section
variable {X : Cx} {cv : Nat → Value} {W : WX} {a b c : Expr} {m ma mb mc : Sm} {pos : Pos}
theorem o_sl : SlR X (rGS gSl) := by
  intro pins s σ H x v vl vu lo hi sl Q I rx hs pl pu ⟨F, dx, le, wx, q⟩
  cases dx <;> try exact q.elim
  · cases wx.str
    obtain ⟨hz, q⟩ := if_bad q
    exact sl_str pins s σ H _ v vl vu lo hi sl Q I rx hs pl pu ⟨_, rfl, Evl.sz_of hz, QD.str le q⟩
  · obtain ⟨p, xs, rfl, hp, hx⟩ := wx.list le
    exact sl_list pins s σ H _ v vl vu lo hi sl Q I rx hs pl pu ⟨_, _, rfl, .inl hp, fun l hl => QN.lst le q (dps_cut hx lo hi) hl⟩
  · obtain ⟨p, xs, rfl, hpF, hp, hx⟩ := wx.tuple le
    refine sl_tupA pins s σ H _ v vl vu lo hi sl Q I rx hs pl pu ⟨_, _, rfl, .inl (.inl hp), fun e => ?_, fun _ l hl => QD.tup le q (dps_cut hx lo hi) hl⟩
    rw [dps_len hx] at e
    have q' : QD F H (.tuple (cutL _ lo hi)) Q := q
    rw [cut_whole e] at q'
    exact q'.dr le (.tup hpF hx)
inductive JO (X : Cx) (cv : Nat → Value) (W : WX) : Option Expr → Option Sm → Prop
  | none : JO X cv W none none
  | some {e : Expr} {m : Sm} : JW X cv W e m → JO X cv W (some e) (some m)
def rdO (cv : Nat → Value) (W : WX) (o : Option Sm) : TO := match o with
  | none => tNoPart
  | some m => tPart (rdW cv W m)
theorem JO.po {lo : Option Expr} {m : Option Sm} (h : JO X cv W lo m) : PO X lo (rdO cv W m) := by
  cases h with
  | none => exact po_none
  | some h => exact po_some h
theorem rd_part {o : Option Sm} {σ : L2.St} {H F : Hp} {ρ : Rho} {Q : VK} {k : Option Int → Res} (r : Rel cv ρ σ F H) (q : GotE cv W F H σ Q (bindO o ρ k)) {R : Option Int → Hp → Prop} (hk : ∀ i F' H', Evo F H F' H' → GotE cv W F' H' σ Q (k i) → R i H') : rdO cv W o σ H R := by
  cases o with
  | none => exact hk none F H (Evo.refl r.le) q
  | some m =>
    refine ⟨ρ, F, r, ?_⟩
    unfold bindO at q
    simp only at q
    have go : ∀ d, GotE cv W F H σ Q (match d with | .int i => k (some i) | _ => .bad) → QW F H d fun x H1 => ∃ i, x = .int i ∧ R (some i) H1 := fun d q v F1 H1 ev wk => by
      cases d <;> try exact q.elim
      exact ⟨_, wk.int, hk _ F1 H1 ev (GotE.evo ev q)⟩
    cases h : m ρ with
    | ok d => rw [h] at q; exact go d q
    | new d => rw [h] at q; exact q.elim
    | exc c => rw [h] at q; exact q
    | bad => rw [h] at q; exact q
theorem j_sl {lo hi : Option Expr} {ml mh : Option Sm} {p2 : Pos} (ha : JW X cv W a ma) (hl : JO X cv W lo ml) (hh : JO X cv W hi mh) : JE X cv W (.Subscript a (.Slice lo hi none p2) pos) (eSl ma ml mh) :=
  PE.imp (pe_slice o_sl ha hl.po hh.po) fun σ H Q ⟨ρ, F, r, q⟩ => by
    refine ⟨ρ, F, r, ?_⟩
    unfold eSl at q
    have go : ∀ d, GotE cv W F H σ Q (bindO ml ρ fun l => bindO mh ρ fun h => (gSl d l h).up) → QW F H d fun x H1 => rdO cv W ml σ H1 fun l H2 => rdO cv W mh σ H2 fun u H3 => rGS gSl x l u H3 Q := fun d q v F1 H1 ev wk => by
      refine rd_part (r.evo ev) (GotE.evo ev q) fun i F2 H2 ev2 q2 => ?_
      refine rd_part ((r.evo ev).evo ev2) q2 fun j F3 H3 ev3 q3 => ?_
      exact ⟨F3, d, ev3.le, (wk.evo ev2).evo ev3, GotP.of q3⟩
    cases h : ma ρ with
    | ok d => rw [h] at q; exact go d q
    | new d => rw [h] at q; exact go _ q
    | exc c => rw [h] at q; exact q
    | bad => rw [h] at q; exact q
/-! ### truth -/
theorem tru_of {F H : Hp} {x : V} {d : D} {k : Bool} {K : PySem.W.Frag} (le : Ex F H) (w : Wk F H x d) (h : truth d = some k) : TruV K x H k := by
  cases d
  · cases w.none; cases h; rfl
  · cases w.bool; cases h; rfl
  · cases w.int; cases h; rfl
  · cases w.str
    simp only [truth] at h
    split at h
    · rename_i hz; cases h; exact ⟨Evl.sz_of hz, rfl⟩
    · cases h
  · obtain ⟨p, xs, rfl, hp, hx⟩ := w.list le
    cases h
    refine .inl ⟨xs, .inl hp, ?_⟩
    cases hx <;> rfl
  · obtain ⟨p, xs, rfl, hpF, hp, hx⟩ := w.tuple le
    cases h
    refine .inr (.inl ⟨xs, .inl (.inl hp), ?_⟩)
    cases hx <;> rfl
  · cases h
theorem of_ifT {σ : L2.St} {H F : Hp} {Q : VK} {o : Option Bool} {x y : Res} (q : GotE cv W F H σ Q (ifT o x y)) : ∃ k, o = some k ∧ GotE cv W F H σ Q (if k = true then x else y) := by
  cases o with
  | none => exact q.elim
  | some k => cases k <;> exact ⟨_, rfl, q⟩
theorem j_and {rest : List Expr} (ha : JS X cv W a ma) (hb : JE X cv W (.BoolOp .And (b :: rest) pos) mb) : JE X cv W (.BoolOp .And (a :: b :: rest) pos) (eAnd ma mb) :=
  PE.imp (pe_andT ha hb) fun σ H Q ⟨ρ, F, r, q⟩ => by
    refine ⟨ρ, F, r, ?_⟩
    unfold eAnd at q
    have go : ∀ d, GotE cv W F H σ Q (ifT (truth d) (mb ρ) (.ok d)) → QD F H d fun x H1 => ∃ k, TruV X.K x H1 k ∧ if k = true then rdE cv W mb σ H1 Q else Q x H1 := fun d q v F1 H1 ev hd => by
      obtain ⟨k, hk, q⟩ := of_ifT q
      refine ⟨k, tru_of ev.le (.inl hd) hk, ?_⟩
      cases k with
      | true => exact ⟨ρ, F1, r.evo ev, GotE.evo ev q⟩
      | false => exact QD.dr ev.le (QD.evo ev q) hd
    cases h : ma ρ with
    | ok d => rw [h] at q; exact go d q
    | new d => rw [h] at q; exact go _ q
    | exc c => rw [h] at q; exact q
    | bad => rw [h] at q; exact q
theorem j_or {rest : List Expr} (ha : JS X cv W a ma) (hb : JE X cv W (.BoolOp .Or (b :: rest) pos) mb) : JE X cv W (.BoolOp .Or (a :: b :: rest) pos) (eOr ma mb) :=
  PE.imp (pe_orT ha hb) fun σ H Q ⟨ρ, F, r, q⟩ => by
    refine ⟨ρ, F, r, ?_⟩
    unfold eOr at q
    have go : ∀ d, GotE cv W F H σ Q (ifT (truth d) (.ok d) (mb ρ)) → QD F H d fun x H1 => ∃ k, TruV X.K x H1 k ∧ if k = true then Q x H1 else rdE cv W mb σ H1 Q := fun d q v F1 H1 ev hd => by
      obtain ⟨k, hk, q⟩ := of_ifT q
      refine ⟨k, tru_of ev.le (.inl hd) hk, ?_⟩
      cases k with
      | false => exact ⟨ρ, F1, r.evo ev, GotE.evo ev q⟩
      | true => exact QD.dr ev.le (QD.evo ev q) hd
    cases h : ma ρ with
    | ok d => rw [h] at q; exact go d q
    | new d => rw [h] at q; exact go _ q
    | exc c => rw [h] at q; exact q
    | bad => rw [h] at q; exact q
theorem j_one {op : BoolOp} (ha : JE X cv W a ma) : JE X cv W (.BoolOp op [a] pos) ma := pe_one ha
theorem j_not (ha : JW X cv W a ma) : JE X cv W (.UnaryOp .Not a pos) (e1 gNot ma) :=
  PE.imp (pe_notT ha) fun σ H Q ⟨ρ, F, r, q⟩ => by
    refine ⟨ρ, F, r, ?_⟩
    unfold e1 at q
    have go : ∀ d, GotE cv W F H σ Q (gNot d).up → QW F H d fun x H1 => ∃ k, TruV X.K x H1 k ∧ Q (.bl (!k)) H1 := fun d q v F1 H1 ev wk => by
      unfold gNot at q
      cases hk : truth d with
      | none => rw [hk] at q; exact q.elim
      | some k => rw [hk] at q; exact ⟨k, tru_of ev.le wk hk, QD.bool ev.le (QD.evo ev q)⟩
    cases h : ma ρ with
    | ok d => rw [h] at q; exact go d q
    | new d => rw [h] at q; exact go _ q
    | exc c => rw [h] at q; exact q
    | bad => rw [h] at q; exact q
/-! ### tests -/
def GotT (cv : Nat → Value) (W : WX) (F H : Hp) (σ : L2.St) (Q : Bool → Hp → Prop) : Res → Prop
  | .ok d => ∃ k, truth d = some k ∧ ∀ F' H', Evo F H F' H' → Q k H'
  | .new ds => ∀ F' H', Evo F H F' H' → Q (!ds.isEmpty) H'
  | .exc c => QX cv W F H σ c
  | .bad => False
theorem GotT.evo {σ : L2.St} {F H F' H' : Hp} {Q : Bool → Hp → Prop} (e : Evo F H F' H') : ∀ {r : Res}, GotT cv W F H σ Q r → GotT cv W F' H' σ Q r
  | .ok _, ⟨k, hk, h⟩ => ⟨k, hk, fun F2 H2 ev => h F2 H2 (e.trans ev)⟩
  | .new _, h => fun F2 H2 ev => h F2 H2 (e.trans ev)
  | .exc _, h => QX.evo e h
  | .bad, h => h
def rdT (cv : Nat → Value) (W : WX) (m : Sm) : TT := fun σ H Q => ∃ ρ F, Rel cv ρ σ F H ∧ GotT cv W F H σ Q (m ρ)
def JT (X : Cx) (cv : Nat → Value) (W : WX) (e : Expr) (m : Sm) : Prop := PT X e (rdT cv W m)
def JP (X : Cx) (cv : Nat → Value) (W : WX) (e : Expr) (m : Sm) : Prop := PW X e (rdT cv W m)
theorem PT.imp {e : Expr} {t t' : TT} (h : PT X e t) (k : ∀ σ H Q, t' σ H Q → t σ H Q) : PT X e t' := ⟨fun pins s σ H Q I hw => h.run pins s σ H Q I (k σ H Q hw)⟩
theorem PW.imp {e : Expr} {t t' : TT} (h : PW X e t) (k : ∀ σ H Q, t' σ H Q → t σ H Q) : PW X e t' := ⟨fun whole pins s σ H Q I hw => h.run whole pins s σ H Q I (k σ H Q hw)⟩
theorem JP.t (h : JP X cv W a ma) : JT X cv W a ma := PW.pt h
theorem jt_val (ha : JW X cv W a ma) (he : ∀ whole, isTrue a X.env whole = (do let v ← whole; standAt a.pos; holding [v] (truthy v))) : JT X cv W a ma :=
  PT.imp (pt_truth ha he) fun σ H Q ⟨ρ, F, r, q⟩ => by
    refine ⟨ρ, F, r, ?_⟩
    cases h : ma ρ with
    | ok d =>
      rw [h] at q
      obtain ⟨k, hk, q⟩ := q
      exact fun v F1 H1 ev wk => ⟨k, tru_of ev.le wk hk, q F1 H1 ev⟩
    | new d => rw [h] at q; exact fun v F1 H1 ev wk => ⟨_, tru_of ev.le wk rfl, q F1 H1 ev⟩
    | exc c => rw [h] at q; exact q
    | bad => rw [h] at q; exact q
theorem jt_not (ha : JT X cv W a ma) : JT X cv W (.UnaryOp .Not a pos) (e1 gNot ma) :=
  PT.imp (pt_not ha) fun σ H Q ⟨ρ, F, r, q⟩ => by
    refine ⟨ρ, F, r, ?_⟩
    unfold e1 at q
    cases h : ma ρ with
    | ok d =>
      rw [h] at q
      simp only [Res.bind_ok, gNot] at q
      cases hk : truth d with
      | none => rw [hk] at q; exact q.elim
      | some k =>
        rw [hk] at q
        obtain ⟨k2, e, q⟩ := q
        cases e
        exact ⟨k, hk, q⟩
    | new d =>
      rw [h] at q
      obtain ⟨k2, e, q⟩ := q
      cases e
      exact q
    | exc c => rw [h] at q; exact q
    | bad => rw [h] at q; exact q
theorem jp_one {op : BoolOp} (h : op = .And ∨ op = .Or) (ha : JT X cv W a ma) : JP X cv W (.BoolOp op [a] pos) ma := by
  rcases h with rfl | rfl
  · exact pw_and1 ha
  · exact pw_or1 ha
theorem rd_then {σ : L2.St} {H F : Hp} {ρ : Rho} {Q : Bool → Hp → Prop} {k : D → Res} (r : Rel cv ρ σ F H) (q : GotT cv W F H σ Q ((ma ρ).bind k)) {R : Bool → Hp → Prop} (hk : ∀ d b F' H', Evo F H F' H' → truth d = some b → GotT cv W F' H' σ Q (k d) → R b H')
    (hd : ∀ d, GotT cv W F H σ Q (k d) → ∃ b, truth d = some b) : rdT cv W ma σ H R := by
  refine ⟨ρ, F, r, ?_⟩
  cases h : ma ρ with
  | ok d =>
    rw [h] at q
    obtain ⟨b, hb⟩ := hd d q
    exact ⟨b, hb, fun F1 H1 ev => hk d b F1 H1 ev hb (GotT.evo ev q)⟩
  | new d => rw [h] at q; exact fun F1 H1 ev => hk _ _ F1 H1 ev rfl (GotT.evo ev q)
  | exc c => rw [h] at q; exact q
  | bad => rw [h] at q; exact q
theorem of_ifTT {σ : L2.St} {H F : Hp} {Q : Bool → Hp → Prop} {o : Option Bool} {x y : Res} (q : GotT cv W F H σ Q (ifT o x y)) : ∃ k, o = some k ∧ GotT cv W F H σ Q (if k = true then x else y) := by
  cases o with
  | none => exact q.elim
  | some k => cases k <;> exact ⟨_, rfl, q⟩
theorem jp_and {rest : List Expr} (ha : JT X cv W a ma) (hb : JP X cv W (.BoolOp .And (b :: rest) pos) mb) : JP X cv W (.BoolOp .And (a :: b :: rest) pos) (eAnd ma mb) :=
  PW.imp (pw_and ha hb) fun σ H Q ⟨ρ, F, r, q⟩ => by
    refine rd_then r q (fun d k F1 H1 ev hk q => ?_) fun d q => let ⟨k, hk, _⟩ := of_ifTT q; ⟨k, hk⟩
    obtain ⟨k', hk', q⟩ := of_ifTT q
    rw [hk] at hk'; cases hk'
    cases k with
    | true => exact ⟨ρ, F1, r.evo ev, q⟩
    | false =>
      obtain ⟨k2, e2, q2⟩ := q
      rw [hk] at e2; cases e2
      exact q2 F1 H1 (Evo.refl ev.le)
theorem jp_or {rest : List Expr} (ha : JT X cv W a ma) (hb : JP X cv W (.BoolOp .Or (b :: rest) pos) mb) : JP X cv W (.BoolOp .Or (a :: b :: rest) pos) (eOr ma mb) :=
  PW.imp (pw_or ha hb) fun σ H Q ⟨ρ, F, r, q⟩ => by
    refine rd_then r q (fun d k F1 H1 ev hk q => ?_) fun d q => let ⟨k, hk, _⟩ := of_ifTT q; ⟨k, hk⟩
    obtain ⟨k', hk', q⟩ := of_ifTT q
    rw [hk] at hk'; cases hk'
    cases k with
    | false => exact ⟨ρ, F1, r.evo ev, q⟩
    | true =>
      obtain ⟨k2, e2, q2⟩ := q
      rw [hk] at e2; cases e2
      exact q2 F1 H1 (Evo.refl ev.le)
theorem j_if (hc : JT X cv W c mc) (ha : JE X cv W a ma) (hb : JE X cv W b mb) : JE X cv W (.IfExp c a b pos) (eIf mc ma mb) :=
  PE.imp (pe_ifExp hc ha hb) fun σ H Q ⟨ρ, F, r, q⟩ => by
    refine ⟨ρ, F, r, ?_⟩
    unfold eIf at q
    have go : ∀ d, GotE cv W F H σ Q (ifT (truth d) (ma ρ) (mb ρ)) → ∃ k, truth d = some k ∧ ∀ F' H', Evo F H F' H' → if k = true then rdE cv W ma σ H' Q else rdE cv W mb σ H' Q := fun d q => by
      obtain ⟨k, hk, q⟩ := of_ifT q
      refine ⟨k, hk, fun F1 H1 ev => ?_⟩
      cases k with
      | true => exact ⟨ρ, F1, r.evo ev, GotE.evo ev q⟩
      | false => exact ⟨ρ, F1, r.evo ev, GotE.evo ev q⟩
    cases h : mc ρ with
    | ok d => rw [h] at q; exact go d q
    | new d =>
      rw [h] at q
      obtain ⟨k, hk, q⟩ := go _ q
      cases hk
      exact q
    | exc c => rw [h] at q; exact q
    | bad => rw [h] at q; exact q
end
end U
set_option Elab.async false
set_option linter.all false
set_option maxRecDepth 100000
set_option maxHeartbeats 4000000
namespace U
open PySem PySem.Spec PyProof.Rows L2
/-! ### argument lists -/
def GotA (cv : Nat → Value) (W : WX) (F H : Hp) (σ : L2.St) (Q : List V → Hp → Prop) : ResL → Prop
  | .ok ds => ∀ vs F' H', Evo F H F' H' → DrAll F' vs ds → Q vs H'
  | .exc c => QX cv W F H σ c
  | .bad => False
def GotB (cv : Nat → Value) (W : WX) (F H : Hp) (σ : L2.St) (Q : List V → Hp → Prop) : ResL → Prop
  | .ok ds => ∀ vs F' H', Evo F H F' H' → WkAll F' H' vs ds → Q vs H'
  | .exc c => QX cv W F H σ c
  | .bad => False
def rdA (cv : Nat → Value) (W : WX) (ms : List Sm) : TA := fun σ H Q => ∃ ρ F, Rel cv ρ σ F H ∧ GotA cv W F H σ Q (evs ms ρ)
def rdB (cv : Nat → Value) (W : WX) (ms : List Sm) : TA := fun σ H Q => ∃ ρ F, Rel cv ρ σ F H ∧ GotB cv W F H σ Q (evs ms ρ)
def JA (X : Cx) (cv : Nat → Value) (W : WX) (es : List Expr) (ms : List Sm) : Prop := PA X es (rdA cv W ms)
def JB (X : Cx) (cv : Nat → Value) (W : WX) (es : List Expr) (ms : List Sm) : Prop := PA X es (rdB cv W ms)
theorem evs_len : ∀ {ms : List Sm} {ρ : Rho} {ds : List D}, evs ms ρ = .ok ds → ds.length = ms.length
  | [], ρ, ds, h => by cases h; rfl
  | m :: ms, ρ, ds, h => by
    unfold evs at h
    cases h1 : m ρ <;> rw [h1] at h <;> try cases h
    all_goals
      cases h2 : evs ms ρ <;> rw [h2] at h <;> cases h
      simp [evs_len h2]
def notStar : Expr → Bool
  | .Starred .. => false
  | _ => true
theorem star_cons {e : Expr} {es : List Expr} {env : PySem.Env} (h : notStar e = true) : starEach (e :: es) env = (false, eval e env) :: starEach es env := by
  cases e <;> first | rfl | cases h
theorem star_any {pos : Pos} {env : PySem.Env} : ∀ {es : List Expr}, es.all notStar = true → (backTo pos (starEach es env)).any (·.1) = false
  | [], _ => rfl
  | e :: es, h => by
    have h' := Bool.and_eq_true_iff.mp (show (notStar e && es.all notStar) = true by simpa using h)
    rw [star_cons h'.1]
    have := star_any (pos := pos) (env := env) h'.2
    simpa [backTo] using this
section
variable {X : Cx} {cv : Nat → Value} {W : WX} {a b c : Expr} {es : List Expr} {ms : List Sm} {m ma mb mc : Sm} {pos : Pos}
theorem PA.imp {t t' : TA} (h : PA X es t) (k : ∀ σ H Q, t' σ H Q → t σ H Q) : PA X es t' := ⟨fun pos pins s σ H Q I hw => h.run pos pins s σ H Q I (k σ H Q hw)⟩
theorem ja_nil : JA X cv W [] [] := PA.imp pa_nil fun σ H Q ⟨ρ, F, r, q⟩ => q [] F H (Evo.refl r.le) .nil
theorem jb_nil : JB X cv W [] [] := PA.imp pa_nil fun σ H Q ⟨ρ, F, r, q⟩ => q [] F H (Evo.refl r.le) .nil
theorem ja_cons (ha : JS X cv W a ma) (hr : JA X cv W es ms) (hs : notStar a = true) : JA X cv W (a :: es) (ma :: ms) :=
  PA.imp (pa_cons ha hr (star_cons hs)) fun σ H Q ⟨ρ, F, r, q⟩ => by
    refine ⟨ρ, F, r, ?_⟩
    unfold evs at q
    have go : ∀ d, GotA cv W F H σ Q ((evs ms ρ).bindL fun ds => .ok (d :: ds)) → QD F H d fun x H1 => rdA cv W ms σ H1 fun xs H2 => Q (x :: xs) H2 := fun d q v F1 H1 ev hd => by
      refine ⟨ρ, F1, r.evo ev, ?_⟩
      cases h : evs ms ρ with
      | ok ds => rw [h] at q; exact fun vs F2 H2 ev2 hds => q (v :: vs) F2 H2 (ev.trans ev2) (.cons (dp_mono ev2.ex hd) hds)
      | exc c => rw [h] at q; exact QX.evo ev q
      | bad => rw [h] at q; exact q
    cases h : ma ρ with
    | ok d => rw [h] at q; exact go d q
    | new d => rw [h] at q; exact go _ q
    | exc c => rw [h] at q; exact q
    | bad => rw [h] at q; exact q
theorem jb_cons (ha : JW X cv W a ma) (hr : JB X cv W es ms) (hs : notStar a = true) : JB X cv W (a :: es) (ma :: ms) :=
  PA.imp (pa_cons ha hr (star_cons hs)) fun σ H Q ⟨ρ, F, r, q⟩ => by
    refine ⟨ρ, F, r, ?_⟩
    unfold evs at q
    have go : ∀ d, GotB cv W F H σ Q ((evs ms ρ).bindL fun ds => .ok (d :: ds)) → QW F H d fun x H1 => rdB cv W ms σ H1 fun xs H2 => Q (x :: xs) H2 := fun d q v F1 H1 ev hd => by
      refine ⟨ρ, F1, r.evo ev, ?_⟩
      cases h : evs ms ρ with
      | ok ds => rw [h] at q; exact fun vs F2 H2 ev2 hds => q (v :: vs) F2 H2 (ev.trans ev2) (.cons (hd.evo ev2) hds)
      | exc c => rw [h] at q; exact QX.evo ev q
      | bad => rw [h] at q; exact q
    cases h : ma ρ with
    | ok d => rw [h] at q; exact go d q
    | new d => rw [h] at q; exact go _ q
    | exc c => rw [h] at q; exact q
    | bad => rw [h] at q; exact q
/-! ### displays -/
def eTup (ms : List Sm) : Sm := fun ρ => (evs ms ρ).bind fun ds => .ok (.tuple ds)
def eLst (ms : List Sm) : Sm := fun ρ => (evs ms ρ).bind fun ds => .new ds
theorem j_tup {k : Nat} (h : JA X cv W es ms) (hz : ms.length ≤ 100000) : JE X cv W (.Tuple es k pos) (eTup ms) :=
  PE.imp (pe_tup h) fun σ H Q ⟨ρ, F, r, q⟩ => by
    refine ⟨ρ, F, r, ?_⟩
    unfold eTup at q
    cases h : evs ms ρ with
    | ok ds =>
      rw [h] at q
      exact fun vs F1 H1 ev hd => ⟨Evl.sz_of (by rw [dps_len hd, evs_len h]; exact hz), fun p hp => QD.tup ev.le (QD.evo ev q) hd hp⟩
    | exc c => rw [h] at q; exact q
    | bad => rw [h] at q; exact q
theorem j_lst (h : JA X cv W es ms) (hz : ms.length ≤ 100000) : JE X cv W (.List es pos) (eLst ms) :=
  PE.imp (pe_lst h) fun σ H Q ⟨ρ, F, r, q⟩ => by
    refine ⟨ρ, F, r, ?_⟩
    unfold eLst at q
    cases h : evs ms ρ with
    | ok ds =>
      rw [h] at q
      exact fun vs F1 H1 ev hd => ⟨Evl.sz_of (by rw [dps_len hd, evs_len h]; exact hz), fun p hp => QN.lst ev.le (QN.evo ev q) hd hp⟩
    | exc c => rw [h] at q; exact q
    | bad => rw [h] at q; exact q
/-! ### calls of own defs -/
/-- a def's promise: it gives what f says -/
def spOf (cv : Nat → Value) (n : Nat) (f : List D → Res) : Sp := fun vs H Q E => ∃ F ds, Ex F H ∧ DrAll F vs ds ∧ ds.length = n ∧ GotE cv (fun c d _ H' => E c d H') F H [] Q (f ds)
theorem spOf_len {n : Nat} {f : List D → Res} {vs : List V} {H : Hp} {Q : VK} {E : XK} (h : spOf cv n f vs H Q E) : vs.length = n := by
  obtain ⟨F, ds, _, hd, hl, _⟩ := h
  rw [dps_len hd, hl]
theorem rd_args {σ : L2.St} {H F : Hp} {ρ : Rho} {Q : VK} {k : List D → Res} (r : Rel cv ρ σ F H) (q : GotE cv W F H σ Q ((evs ms ρ).bind k)) {R : List V → Hp → Prop} (hk : ∀ ds vs F' H', evs ms ρ = .ok ds → Evo F H F' H' → DrAll F' vs ds → GotE cv W F' H' σ Q (k ds) → R vs H') : rdA cv W ms σ H R := by
  refine ⟨ρ, F, r, ?_⟩
  cases h : evs ms ρ with
  | ok ds => rw [h] at q; exact fun vs F1 H1 ev hd => hk ds vs F1 H1 h ev hd (GotE.evo ev q)
  | exc c => rw [h] at q; exact q
  | bad => rw [h] at q; exact q
theorem rd_argsB {σ : L2.St} {H F : Hp} {ρ : Rho} {Q : VK} {k : List D → Res} (r : Rel cv ρ σ F H) (q : GotE cv W F H σ Q ((evs ms ρ).bind k)) {R : List V → Hp → Prop} (hk : ∀ ds vs F' H', evs ms ρ = .ok ds → Evo F H F' H' → WkAll F' H' vs ds → GotE cv W F' H' σ Q (k ds) → R vs H') : rdB cv W ms σ H R := by
  refine ⟨ρ, F, r, ?_⟩
  cases h : evs ms ρ with
  | ok ds => rw [h] at q; exact fun vs F1 H1 ev hd => hk ds vs F1 H1 h ev hd (GotE.evo ev q)
  | exc c => rw [h] at q; exact q
  | bad => rw [h] at q; exact q
theorem GotE.slots {σ σ' : L2.St} {H F : Hp} {Q : VK} {W' : WX} (hW : ∀ c H', W (cv c) none σ H' → W' (cv c) none σ' H') : ∀ {r : Res}, GotE cv W F H σ Q r → GotE cv W' F H σ' Q r
  | .ok _, h => h
  | .new _, h => h
  | .exc _, h => fun F1 H1 ev => hW _ _ (h F1 H1 ev)
  | .bad, h => h
/-- what is known of a def that is called -/
structure Fn (X : Cx) (cv : Nat → Value) (k : Nat) (x : Str) (n : Nat) (f : List D → Res) : Prop where
  ok : ∃ (fa : Addr) (fd : FuncData) (ps : List Str), X.mg x = some (.ref fa) ∧ ps.length = n ∧ FnOk X.prog X.w X.K X.mg X.base (L2.CX X.prog X.w) k fa fd ps (spOf cv n f) ∧ PySem.W.keepIn X.K (.ref fa) = true ∧ Binds X.K fd ps []
theorem j_call {k n : Nat} {x : Str} {f : List D → Res} {p : Pos} (F : Fn X cv k x n f) (hr : Room k X.A) (tk : Takes X W) (hg : Gl X x) (hdb : (x == ("__debug__" : Str)) = false) (ha : JA X cv W (a :: es) ms) (hn : ms.length = n) (h1 : notStar a = true) (h2 : es.all notStar = true) :
    JE X cv W (.Call (.Name x p) (a :: es) [] pos) (eF f ms) := by
  obtain ⟨fa, fd, ps, hm, hl, F, kp, hb⟩ := F.ok
  refine PE.imp (pe_callSD F hr hg hm kp hb .nil (fun σ => passAt tk σ) ha hdb (star_cons h1) (star_any h2)) fun σ H Q ⟨ρ, F0, r, q⟩ => ?_
  refine rd_args r q fun ds vs F1 H1 he ev hd q => ⟨F1, ds, ev.le, by rw [List.append_nil]; exact hd, by rw [evs_len he]; exact hn, ?_⟩
  exact GotE.slots (fun c H' h => h) q
/-! ### calls of built-ins -/
theorem j_blt {x : Str} {id : String} {g : List D → Rp} {p : Pos} (hc : CallR X (.builtin id) (rGL g)) (hg : Gl X x) (hm : X.mg x = none) (hv : bootBuiltins x = some (.builtin id)) (ha : JB X cv W (a :: es) ms) (hn : x ≠ "__name__") (hdb : (x == ("__debug__" : Str)) = false) (h1 : notStar a = true) (h2 : es.all notStar = true) :
    JE X cv W (.Call (.Name x p) (a :: es) [] pos) (eL g ms) :=
  PE.imp (pe_callB hc hg hm hv ha hn hdb (star_cons h1) (star_any h2)) fun σ H Q ⟨ρ, F, r, q⟩ => rd_argsB r q fun ds vs F1 H1 he ev hd q => ⟨F1, ds, ev.le, hd, GotP.of q⟩
theorem j_ty {x : Str} {T : String} {g : List D → Rp} {p : Pos} (hc : CallR X (.type T) (rGL g)) (hg : Gl X x) (hm : X.mg x = none) (hv : bootBuiltins x = some (.type T)) (ha : JB X cv W (a :: es) ms) (hn : x ≠ "__name__") (hdb : (x == ("__debug__" : Str)) = false) (h1 : notStar a = true) (h2 : es.all notStar = true) :
    JE X cv W (.Call (.Name x p) (a :: es) [] pos) (eL g ms) :=
  PE.imp (pe_callTy hc hg hm hv ha hn hdb (star_cons h1) (star_any h2)) fun σ H Q ⟨ρ, F, r, q⟩ => rd_argsB r q fun ds vs F1 H1 he ev hd q => ⟨F1, ds, ev.le, hd, GotP.of q⟩
end
end U
set_option Elab.async false
set_option linter.all false
set_option maxRecDepth 100000
set_option maxHeartbeats 4000000
namespace U
open PySem PySem.Spec PyProof.Rows L2
/-! ### built-ins on data -/
def intsD : List D → Option (List Int)
  | [] => some []
  | .int i :: ds => (intsD ds).map (i :: ·)
  | _ :: _ => none
def maxI : Int → List Int → Int
  | a, [] => a
  | a, b :: r => maxI (if a < b then b else a) r
def minI : Int → List Int → Int
  | a, [] => a
  | a, b :: r => minI (if b < a then b else a) r
def bLen : List D → Rp
  | [.str x] => if x.length ≤ 100000 then .ok (.int x.length) else .bad
  | [.list ds] => .ok (.int ds.length)
  | [.tuple ds] => .ok (.int ds.length)
  | _ => .bad
def bAbs : List D → Rp
  | [.int i] => .ok (.int (if i < 0 then -i else i))
  | _ => .bad
def bMax : List D → Rp
  | [.int i, .int j] => .ok (.int (if j > i then j else i))
  | [.list ds] => match intsD ds with
    | some (a :: r) => .ok (.int (maxI a r))
    | _ => .bad
  | _ => .bad
def bMin : List D → Rp
  | [.int i, .int j] => .ok (.int (if j < i then j else i))
  | [.list ds] => match intsD ds with
    | some (a :: r) => .ok (.int (minI a r))
    | _ => .bad
  | _ => .bad
def bSum : List D → Rp
  | [.list ds] => match intsD ds with
    | some ns => .ok (.int ns.sum)
    | none => .bad
  | _ => .bad
def bInt : List D → Rp
  | [.int i] => .ok (.int i)
  | [.bool b] => .ok (.int (if b then 1 else 0))
  | [.str x] => if x.length ≤ 640 then (match PySem.intText? x with
    | some n => .ok (.int n)
    | none => .bad) else .bad
  | _ => .bad
def bStr : List D → Rp
  | [.int i] => if i.natAbs.log2 < 1920 then .ok (.str (toString i)) else .bad
  | _ => .bad
def bTuple : List D → Rp
  | [.list ds] => .ok (.tuple ds)
  | [.tuple ds] => .ok (.tuple ds)
  | _ => .bad
def bList : List D → Rp
  | [.list ds] => .new ds
  | [.tuple ds] => .new ds
  | _ => .bad
theorem wk1 {F H : Hp} {xs : List V} {d : D} (h : WkAll F H xs [d]) : ∃ x, xs = [x] ∧ Wk F H x d := by
  cases h with
  | cons h hs => cases hs; exact ⟨_, rfl, h⟩
theorem wk2 {F H : Hp} {xs : List V} {d e : D} (h : WkAll F H xs [d, e]) : ∃ x y, xs = [x, y] ∧ Wk F H x d ∧ Wk F H y e := by
  cases h with
  | cons h hs =>
    obtain ⟨y, rfl, hy⟩ := wk1 hs
    exact ⟨_, _, rfl, h, hy⟩
theorem dr_ints {F : Hp} : ∀ {ds : List D} {xs : List V} {ns : List Int}, DrAll F xs ds → intsD ds = some ns → xs = ns.map V.int
  | [], _, _, .nil, h => by cases h; rfl
  | d :: ds, _, ns, .cons h hs, e => by
    cases d <;> try cases e
    cases h
    simp only [intsD, Option.map_eq_some_iff] at e
    obtain ⟨r, hr, rfl⟩ := e
    rw [dr_ints hs hr]; rfl
theorem maxI_mem : ∀ (r : List Int) (a : Int), maxI a r ∈ a :: r
  | [], a => by simp [maxI]
  | b :: r, a => by
    have := maxI_mem r (if a < b then b else a)
    unfold maxI
    rcases List.mem_cons.mp this with h | h
    · rw [h]; split <;> simp
    · simp [h]
theorem maxI_ge : ∀ (r : List Int) (a y : Int), y ∈ a :: r → y ≤ maxI a r
  | [], a, y, h => by simp at h; simp [maxI, h]
  | b :: r, a, y, h => by
    unfold maxI
    have k := maxI_ge r (if a < b then b else a)
    have k0 := k _ (List.mem_cons_self)
    have ka : a ≤ (if a < b then b else a) ∧ b ≤ (if a < b then b else a) := by split <;> omega
    simp only [List.mem_cons] at h k
    rcases h with h | h | h
    · subst h; exact Int.le_trans ka.1 k0
    · subst h; exact Int.le_trans ka.2 k0
    · exact k y (.inr h)
theorem minI_mem : ∀ (r : List Int) (a : Int), minI a r ∈ a :: r
  | [], a => by simp [minI]
  | b :: r, a => by
    have := minI_mem r (if b < a then b else a)
    unfold minI
    rcases List.mem_cons.mp this with h | h
    · rw [h]; split <;> simp
    · simp [h]
theorem minI_le : ∀ (r : List Int) (a y : Int), y ∈ a :: r → minI a r ≤ y
  | [], a, y, h => by simp at h; simp [minI, h]
  | b :: r, a, y, h => by
    unfold minI
    have k := minI_le r (if b < a then b else a)
    have k0 := k _ (List.mem_cons_self)
    have ka : (if b < a then b else a) ≤ a ∧ (if b < a then b else a) ≤ b := by split <;> omega
    simp only [List.mem_cons] at h k
    rcases h with h | h | h
    · subst h; exact Int.le_trans k0 ka.1
    · subst h; exact Int.le_trans k0 ka.2
    · exact k y (.inr h)
section
variable {X : Cx}
theorem c_len : CallR X (.builtin "len") (rGL bLen) := by
  intro pins s σ H xs us Q I rv ⟨F, ds, le, hd, q⟩
  unfold bLen at q
  split at q
  · obtain ⟨v, rfl, w⟩ := wk1 hd
    cases w.str
    obtain ⟨hz, q⟩ := if_bad q
    exact call_len pins s σ H _ us Q I rv ⟨_, _, rfl, ⟨Evl.sz_of hz, rfl⟩, QD.int le q⟩
  · obtain ⟨v, rfl, w⟩ := wk1 hd
    obtain ⟨p, xs, rfl, hp, hx⟩ := w.list le
    exact call_len pins s σ H _ us Q I rv ⟨_, _, rfl, .inl ⟨xs, .inl hp, rfl⟩, by rw [dps_len hx]; exact QD.int le q⟩
  · obtain ⟨v, rfl, w⟩ := wk1 hd
    obtain ⟨p, xs, rfl, hpF, hp, hx⟩ := w.tuple le
    exact call_len pins s σ H _ us Q I rv ⟨_, _, rfl, .inr ⟨xs, .inl (.inl hp), rfl⟩, by rw [dps_len hx]; exact QD.int le q⟩
  · exact q.elim
theorem c_abs : CallR X (.builtin "abs") (rGL bAbs) := by
  intro pins s σ H xs us Q I rv ⟨F, ds, le, hd, q⟩
  unfold bAbs at q
  split at q
  · obtain ⟨v, rfl, w⟩ := wk1 hd
    cases w.int
    exact call_abs pins s σ H _ us Q I rv ⟨_, rfl, QD.int le q⟩
  · exact q.elim
theorem c_max (hc : X.calm = true) : CallR X (.builtin "max") (rGL bMax) := by
  intro pins s σ H xs us Q I rv ⟨F, ds, le, hd, q⟩
  unfold bMax at q
  split at q
  · obtain ⟨v, w, rfl, hv, hw⟩ := wk2 hd
    cases hv.int; cases hw.int
    exact call_max2 hc pins s σ H _ us Q I rv ⟨_, _, rfl, QD.int le q⟩
  · split at q
    · rename_i ns hs a r hn
      obtain ⟨v, rfl, w⟩ := wk1 hd
      obtain ⟨p, xs, rfl, hp, hx⟩ := w.list le
      have e := dr_ints hx hn
      subst e
      refine cr_max hc pins s σ H _ us Q I rv ⟨p, _, rfl, .inl hp, by simp, fun m hm hle => ?_⟩
      have e : m = maxI a r := Int.le_antisymm (maxI_ge r a m hm) (hle _ (maxI_mem r a))
      subst e
      exact QD.int le q
    · exact q.elim
  · exact q.elim
theorem c_min (hc : X.calm = true) : CallR X (.builtin "min") (rGL bMin) := by
  intro pins s σ H xs us Q I rv ⟨F, ds, le, hd, q⟩
  unfold bMin at q
  split at q
  · obtain ⟨v, w, rfl, hv, hw⟩ := wk2 hd
    cases hv.int; cases hw.int
    exact call_min2 hc pins s σ H _ us Q I rv ⟨_, _, rfl, QD.int le q⟩
  · split at q
    · rename_i ns hs a r hn
      obtain ⟨v, rfl, w⟩ := wk1 hd
      obtain ⟨p, xs, rfl, hp, hx⟩ := w.list le
      have e := dr_ints hx hn
      subst e
      refine cr_min hc pins s σ H _ us Q I rv ⟨p, _, rfl, .inl hp, by simp, fun m hm hle => ?_⟩
      have e : m = minI a r := Int.le_antisymm (hle _ (minI_mem r a)) (minI_le r a m hm)
      subst e
      exact QD.int le q
    · exact q.elim
  · exact q.elim
theorem c_sum (hc : X.calm = true) : CallR X (.builtin "sum") (rGL bSum) := by
  intro pins s σ H xs us Q I rv ⟨F, ds, le, hd, q⟩
  unfold bSum at q
  split at q
  · split at q
    · rename_i ns hn
      obtain ⟨v, rfl, w⟩ := wk1 hd
      obtain ⟨p, xs, rfl, hp, hx⟩ := w.list le
      have e := dr_ints hx hn
      subst e
      exact cr_sum hc pins s σ H _ us Q I rv ⟨p, _, rfl, .inl hp, QD.int le q⟩
    · exact q.elim
  · exact q.elim
theorem c_int : CallR X (.type "int") (rGL bInt) := by
  intro pins s σ H xs us Q I rv ⟨F, ds, le, hd, q⟩
  unfold bInt at q
  split at q
  · obtain ⟨v, rfl, w⟩ := wk1 hd
    cases w.int
    exact call_int1 pins s σ H _ us Q I rv (.inl ⟨_, rfl, QD.int le q⟩)
  · obtain ⟨v, rfl, w⟩ := wk1 hd
    cases w.bool
    exact call_int1 pins s σ H _ us Q I rv (.inr ⟨_, rfl, QD.int le q⟩)
  · obtain ⟨v, rfl, w⟩ := wk1 hd
    cases w.str
    obtain ⟨hz, q⟩ := if_bad q
    split at q
    · rename_i n hn
      exact call_int_str pins s σ H _ us Q I rv ⟨_, n, rfl, hn, hz, QD.int le q⟩
    · exact q.elim
  · exact q.elim
theorem c_str : CallR X (.type "str") (rGL bStr) := by
  intro pins s σ H xs us Q I rv ⟨F, ds, le, hd, q⟩
  unfold bStr at q
  split at q
  · obtain ⟨v, rfl, w⟩ := wk1 hd
    cases w.int
    obtain ⟨hz, q⟩ := if_bad q
    exact call_str_int pins s σ H _ us Q I rv ⟨_, rfl, hz, QD.str le q⟩
  · exact q.elim
theorem c_tuple : CallR X (.type "tuple") (rGL bTuple) := by
  intro pins s σ H xs us Q I rv ⟨F, ds, le, hd, q⟩
  unfold bTuple at q
  split at q
  · obtain ⟨v, rfl, w⟩ := wk1 hd
    obtain ⟨p, xs, rfl, hp, hx⟩ := w.list le
    exact call_tuple_of pins s σ H _ us Q I rv ⟨p, xs, rfl, .inl ⟨.inl hp, fun l hl => QD.tup le q hx hl⟩⟩
  · obtain ⟨v, rfl, w⟩ := wk1 hd
    obtain ⟨p, xs, rfl, hpF, hp, hx⟩ := w.tuple le
    exact call_tuple_of pins s σ H _ us Q I rv ⟨p, xs, rfl, .inr ⟨.inl (.inl hp), q.dr le (.tup hpF hx)⟩⟩
  · exact q.elim
theorem c_list : CallR X (.type "list") (rGL bList) := by
  intro pins s σ H xs us Q I rv ⟨F, ds, le, hd, q⟩
  unfold bList at q
  split at q
  · obtain ⟨v, rfl, w⟩ := wk1 hd
    obtain ⟨p, xs, rfl, hp, hx⟩ := w.list le
    exact call_list_of pins s σ H _ us Q I rv ⟨p, xs, rfl, .inl (.inl hp), fun l hl => QN.lst le q hx hl⟩
  · obtain ⟨v, rfl, w⟩ := wk1 hd
    obtain ⟨p, xs, rfl, hpF, hp, hx⟩ := w.tuple le
    exact call_list_of pins s σ H _ us Q I rv ⟨p, xs, rfl, .inr (.inl (.inl hp)), fun l hl => QN.lst le q hx hl⟩
  · exact q.elim
/-! ### isinstance -/
inductive Ty where
  | int | bool | str | tuple | list
def Ty.name : Ty → String
  | .int => "int"
  | .bool => "bool"
  | .str => "str"
  | .tuple => "tuple"
  | .list => "list"
def gIsi (t : Ty) : D → Rp
  | .none => .ok (.bool false)
  | .bool _ => .ok (.bool (match t with | .int => true | .bool => true | _ => false))
  | .int _ => .ok (.bool (match t with | .int => true | _ => false))
  | .str _ => .ok (.bool (match t with | .str => true | _ => false))
  | .list _ => .ok (.bool (match t with | .list => true | _ => false))
  | .tuple _ => .ok (.bool (match t with | .tuple => true | _ => false))
  | .dict _ => .bad
theorem kb (a : String) (t : Ty) (r : Bool) (h : (a = "NoneType" ∧ r = false) ∨ (a = "bool" ∧ r = (match t with | .int => true | .bool => true | _ => false)) ∨ (a = "int" ∧ r = (match t with | .int => true | _ => false)) ∨ (a = "str" ∧ r = (match t with | .str => true | _ => false)) ∨ (a = "list" ∧ r = (match t with | .list => true | _ => false)) ∨ (a = "tuple" ∧ r = (match t with | .tuple => true | _ => false))) : kitB a t.name = some r := by
  rcases h with ⟨rfl, rfl⟩ | ⟨rfl, rfl⟩ | ⟨rfl, rfl⟩ | ⟨rfl, rfl⟩ | ⟨rfl, rfl⟩ | ⟨rfl, rfl⟩ <;> cases t <;> decide +kernel
theorem j_isi {cv : Nat → Value} {W : WX} {a : Expr} {ma : Sm} {t : Ty} {x : Str} {p p2 pos : Pos} (ha : JW X cv W a ma) (hg : Gl X "isinstance") (hm : X.mg "isinstance" = none) (hx : x = (t.name : Str)) (hgT : Gl X x) (hmT : X.mg x = none) (h1 : notStar a = true) :
    JE X cv W (.Call (.Name "isinstance" p) [a, .Name x p2] [] pos) (e1 (gIsi t) ma) := by
  subst hx
  have hv : bootBuiltins (t.name : Str) = some (.type t.name) := by cases t <;> decide +kernel
  have hT : PE X (.Name (t.name : Str) p2) (tC (.ty t.name)) := pe_bltn hgT hmT hv rfl (by cases t <;> decide +kernel) (by cases t <;> decide +kernel)
  refine PE.imp (pe_callB call_isi hg hm (by decide +kernel) (pa_cons ha (pa_cons hT pa_nil) (star_cons h1)) (by decide) (by decide) (star_cons h1)) fun σ H Q ⟨ρ, F, r, q⟩ => ?_
  refine ⟨ρ, F, r, ?_⟩
  unfold e1 at q
  have go : ∀ d, GotE cv W F H σ Q (gIsi t d).up → QW F H d fun v H1 => tCons (tC (.ty t.name)) tNil σ H1 fun vs H2 => rIsi X.K (v :: vs) H2 Q := fun d q v F1 H1 ev wk => by
    cases d
    · cases wk.none
      exact ⟨_, _, _, _, _, rfl, .ty _, .base .non, kit_ty (kb _ t _ (.inl ⟨rfl, rfl⟩)), QD.bool ev.le (QD.evo ev q)⟩
    · cases wk.bool
      exact ⟨_, _, _, _, _, rfl, .ty _, .base (.bl _), kit_ty (kb _ t _ (.inr (.inl ⟨rfl, rfl⟩))), QD.bool ev.le (QD.evo ev q)⟩
    · cases wk.int
      exact ⟨_, _, _, _, _, rfl, .ty _, .base (.int _), kit_ty (kb _ t _ (.inr (.inr (.inl ⟨rfl, rfl⟩)))), QD.bool ev.le (QD.evo ev q)⟩
    · cases wk.str
      exact ⟨_, _, _, _, _, rfl, .ty _, .base (.str _), kit_ty (kb _ t _ (.inr (.inr (.inr (.inl ⟨rfl, rfl⟩))))), QD.bool ev.le (QD.evo ev q)⟩
    · obtain ⟨p, xs, rfl, hp, hx⟩ := wk.list ev.le
      refine ⟨_, _, _, _, _, rfl, .ty _, .base ?_, kit_ty (kb _ t _ (.inr (.inr (.inr (.inr (.inl ⟨rfl, rfl⟩)))))), QD.bool ev.le (QD.evo ev q)⟩
      rcases hp with hp | ⟨o, hp⟩
      · exact .lst hp
      · exact .frz hp
    · obtain ⟨p, xs, rfl, hpF, hp, hx⟩ := wk.tuple ev.le
      exact ⟨_, _, _, _, _, rfl, .ty _, .base (.tup hp), kit_ty (kb _ t _ (.inr (.inr (.inr (.inr (.inr ⟨rfl, rfl⟩)))))), QD.bool ev.le (QD.evo ev q)⟩
    · exact q.elim
  cases h : ma ρ with
  | ok d => rw [h] at q; exact go d q
  | new d => rw [h] at q; exact go _ q
  | exc c => rw [h] at q; exact q
  | bad => rw [h] at q; exact q
end
end U
set_option Elab.async false
set_option linter.all false
set_option maxRecDepth 100000
set_option maxHeartbeats 4000000
namespace U
open PySem PySem.Spec PyProof.Rows L2
/-! ### sources: a list or a tuple -/
def SqK (k : Bool) (H : Hp) (a : Addr) (xs : List V) : Prop := if k = true then Rd H a (.lst xs) else H a = some (.tup xs)
theorem SqK.inj {k : Bool} {H : Hp} {a : Addr} {xs ys : List V} (h : SqK k H a xs) (h' : SqK k H a ys) : xs = ys := by
  cases k with
  | true =>
    rcases h with h | ⟨o, h⟩ <;> rcases h' with h' | ⟨o', h'⟩ <;> rw [h] at h' <;> cases h' <;> rfl
  | false =>
    have h : H a = some (.tup xs) := h
    have h' : H a = some (.tup ys) := h'
    rw [h] at h'; cases h'; rfl
theorem SqK.mono {k : Bool} {F H : Hp} {a : Addr} {xs : List V} (e : Ex F H) (h : SqK k F a xs) : SqK k H a xs := by
  cases k with
  | true => exact Evl.ex_rd e h
  | false => exact e _ _ h
def IsSq (k : Bool) (h : Heap) (a : Addr) (its : List Value) : Prop := if k = true then h.IsList a its.toArray else h.IsTuple a its.toArray
def IsIt (k : Bool) (h : Heap) (it a : Addr) (i : Nat) : Prop := if k = true then h.IsListIter it a i else h.IsTupleIter it a i
def itObj (k : Bool) (a : Addr) : Obj := if k = true then { cls := .type "list_iterator", data := .fields #[.ref a, .int 0 0] } else { cls := .type "tuple_iterator", data := .fields #[.ref a, .int 0 0] }
theorem SqK.at {X : Cx} {pins : List (Addr × Obj)} {σ : L2.St} {H : Hp} {s : Shared} {k : Bool} {a : Addr} {xs : List V} (I : Inv X pins σ H s) (h : SqK k H a xs) : ∃ its, Vals xs its ∧ IsSq k s.heap a its := by
  cases k with
  | true =>
    obtain ⟨its, r, p, _⟩ := I.list (.inl h)
    exact ⟨its, r, p.isList⟩
  | false =>
    obtain ⟨its, r, p, _⟩ := I.tuple (.inl (.inl h))
    exact ⟨its, r, p⟩
theorem IsSq.lt {k : Bool} {h : Heap} {a : Addr} {its : List Value} (q : IsSq k h a its) : a < h.objs.size := by
  cases k with
  | true => obtain ⟨o, e, _⟩ : h.IsList a its.toArray := q; exact Heap.lt_size e
  | false => obtain ⟨o, e, _⟩ : h.IsTuple a its.toArray := q; exact Heap.lt_size e
theorem beginsK (k : Bool) (a : Addr) (its : List Value) : Begins (.ref a) (itObj k a) fun h => IsSq k h a its := by
  cases k with
  | true => exact begins_list a its.toArray
  | false => exact begins_tuple a its.toArray
theorem drawsK {prog : Program} {w : World} {A : Around} (k : Bool) (hh : A.handled = none) (it a : Addr) (hne : a ≠ it) (its : List Value) : Draws prog w A it [it, a] its.length (fun i v => its[i]? = some v) (fun i h => IsIt k h it a i ∧ IsSq k h a its) := by
  cases k with
  | true =>
    have := Draws.list (prog := prog) (w := w) hh it a hne its.toArray
    simpa [IsIt, IsSq] using this
  | false =>
    have := Draws.tuple (prog := prog) (w := w) hh it a hne its.toArray
    simpa [IsIt, IsSq] using this
theorem itObj_is {k : Bool} {h : Heap} {it a : Addr} (e : h.get? it = some (itObj k a)) : IsIt k h it a 0 := by
  cases k with
  | true => exact ⟨_, e, rfl, rfl⟩
  | false => exact ⟨_, e, rfl, rfl⟩
theorem IsIt.obj {k : Bool} {h : Heap} {it a : Addr} {i : Nat} (q : IsIt k h it a i) : ∃ o, h.get? it = some o ∧ ∀ v, o.data ≠ .cell v := by
  cases k with
  | true => obtain ⟨o, e, _, d⟩ : h.IsListIter it a i := q; exact ⟨o, e, fun v z => by rw [d] at z; cases z⟩
  | false => obtain ⟨o, e, _, d⟩ : h.IsTupleIter it a i := q; exact ⟨o, e, fun v z => by rw [d] at z; cases z⟩
theorem IsIt.at' {k : Bool} {h h' : Heap} {it a : Addr} {i : Nat} (q : IsIt k h it a i) (e : ∀ o, h.get? it = some o → h'.get? it = some o) : IsIt k h' it a i := by
  cases k with
  | true => exact Heap.IsListIter.at (show h.IsListIter it a i from q) e
  | false => exact Heap.IsTupleIter.at (show h.IsTupleIter it a i from q) e

/-! ### an iterator that gives out tuples, over sources -/
inductive SqAll (H : Hp) : List (Bool × Addr) → List (List V) → Prop
  | nil : SqAll H [] []
  | cons {k : Bool} {a : Addr} {xs : List V} {r : List (Bool × Addr)} {rs : List (List V)} : SqK k H a xs → SqAll H r rs → SqAll H ((k, a) :: r) (xs :: rs)
theorem SqAll.inj {H : Hp} : ∀ {src : List (Bool × Addr)} {xss yss : List (List V)}, SqAll H src xss → SqAll H src yss → xss = yss
  | _, _, _, .nil, .nil => rfl
  | _, _, _, .cons h hs, .cons h' hs' => by rw [h.inj h', SqAll.inj hs hs']
theorem SqAll.mono {F H : Hp} (e : Ex F H) : ∀ {src : List (Bool × Addr)} {xss : List (List V)}, SqAll F src xss → SqAll H src xss
  | _, _, .nil => .nil
  | _, _, .cons h hs => .cons (h.mono e) (SqAll.mono e hs)
def ItG (src : List (Bool × Addr)) (n : List (List V) → Nat) (f : Nat → List (List V) → List V) : It :=
  ⟨fun i H => ∃ xss, SqAll H src xss ∧ i < n xss, fun i H v H' => ∃ T xss, v = .ref T ∧ H T = none ∧ SqAll H src xss ∧ H' = upd H T (.tup (f i xss)), fun i H => ∃ xss, SqAll H src xss ∧ i = n xss⟩
/-- the library's walk of tuples as a turn of the layer -/
theorem turnG {P : Program} {w : World} {K : PySem.W.Frag} {elts : List Expr} {kk : Nat} {tpos : Pos} {src : List (Bool × Addr)} {n : List (List V) → Nat} {f : Nat → List (List V) → List V} {fp : List Addr} {it : Addr} {tn : Nat → Heap → Prop}
    (mem : it ∈ fp) (obj : ∀ i h, tn i h → ∀ b ∈ fp, ∃ o, h.get? b = some o ∧ ∀ v, o.data ≠ .cell v) (keep : ∀ i h h', tn i h → (∀ b ∈ fp, ∀ o, h.get? b = some o → h'.get? b = some o) → tn i h')
    (short : ∀ i xss, (f i xss).length ≤ 1000)
    (walk : ∀ (X : Cx) (pins : List (Addr × Obj)) (σ : L2.St) (H : Hp) (s : Shared) (xss : List (List V)), X.prog = P → X.w = w → X.A.handled = none → Inv X pins σ H s → SqAll H src xss →
      ∃ (fp' wr : List Addr) (Pt : Nat → Array Value → Prop) (Mid : Nat → Addr → Heap → Prop) (Src : Heap → Prop), (∀ b ∈ wr, b ∈ fp) ∧ Src s.heap ∧ WalksT P w X.A it fp' wr (n xss) Pt (fun i h => tn i h ∧ Src h) Mid ∧ ∀ i vals, Pt i vals → ∃ us, vals = us.toArray ∧ Vals (f i xss) us)
    (self : ∀ (A : Around) (i : Nat) (s : Shared) (Q : Value → Shared → Prop) (E : Value → Shared → Prop), tn i s.heap → Q (.ref it) s → wpAny (model P w) A (pyIter (.ref it)) Q E s) :
    Turn P w K (.Tuple elts kk tpos) (ItG src n f) fp it tn where
  mem := mem
  obj := obj
  keep := keep
  item := by
    intro X hP hw hK hc i pins s σ H E I hf st ⟨xss, hsq, hi⟩
    obtain ⟨fp', wr, Pt, Mid, Src, hwr, hsrc, W, hpt⟩ := walk X pins σ H s xss hP hw (I.ok.hd hc) I hsq
    subst hP hw hK
    refine W.item i s _ E hi ⟨st, hsrc⟩ fun T vals h1 tk hv hT ht mid k1 => ⟨_, rfl, ?_⟩
    refine W.go elts kk tpos i T { s with heap := h1, toks := tk } _ E mid fun h2 st2 k2 => ?_
    obtain ⟨us, rfl, hvs⟩ := hpt i vals hv
    have hT2 : h2.IsTuple T us.toArray := ht.at fun o e => k2 T o (W.apart i T _ mid) e
    have kk' : ∀ c o, c ∉ fp → s.heap.get? c = some o → h2.get? c = some o := fun c o hc e => k2 c o (fun z => hc (hwr c z)) (k1 c o (fun z => hc (hwr c z)) e)
    have new : ObjOk X.prog X.w (upd H T (.tup (f i xss))) h2 T (.tup (f i xss)) := ⟨Evl.sz_of (Nat.le_trans (short i xss) (by omega)), us, hvs, hT2⟩
    refine ⟨.ref T, _, I.turnedNew (t' := tk) (ch := fp) kk' hf hT new, rfl, ⟨T, xss, rfl, I.hok.fresh hT, hsq, rfl⟩, st2.1, fun c hcm => ?_⟩
    obtain ⟨o, ho, _⟩ := obj i _ st c hcm
    have hlt : c < s.heap.objs.size := Heap.lt_size ho
    rw [upd_ne (Nat.ne_of_lt (Nat.lt_of_lt_of_le hlt hT))]
    exact (hf c hcm).1
  done := by
    intro X hP hw hK hc i pins s σ H E I hf st ⟨xss, hsq, hi⟩
    obtain ⟨fp', wr, Pt, Mid, Src, hwr, hsrc, W, hpt⟩ := walk X pins σ H s xss hP hw (I.ok.hd hc) I hsq
    subst hP hw hK
    subst hi
    exact W.done s _ E ⟨st, hsrc⟩ fun h1 tk k1 => ⟨rfl, I.turnedL (t' := tk) (ch := fp) (fun c o hc e => k1 c o (fun z => hc (hwr c z)) e) hf⟩
  self := self
end U
set_option Elab.async false
set_option linter.all false
set_option maxRecDepth 100000
set_option maxHeartbeats 4000000
namespace U
open PySem PySem.Spec PyProof.Rows L2
open AutoSeq1 (wpAny_loadPart')
theorem WalksT.same {prog : Program} {w : World} {A : Around} {I : Addr} {fp wr : List Addr} {n n' : Nat} {Pt : Nat → Array Value → Prop} {St St' : Nat → Heap → Prop} {Mid : Nat → Addr → Heap → Prop} (h : WalksT prog w A I fp wr n Pt St Mid) (hn : n = n') (e : ∀ i x, St i x ↔ St' i x) : WalksT prog w A I fp wr n' Pt St' Mid := by
  have : St = St' := by funext i x; exact propext (e i x)
  subst this hn; exact h
/-! ### zip of two -/
def n2 : List (List V) → Nat
  | [xs, ys] => min xs.length ys.length
  | _ => 0
def f2 (i : Nat) : List (List V) → List V
  | [xs, ys] => [xs.getD i .non, ys.getD i .non]
  | _ => []
def tnZ2 (k1 k2 : Bool) (a b z TI TO i1 i2 : Addr) (i : Nat) (h : Heap) : Prop := IsZip h z TI TO .none ∧ IsTupOf2 h TI (.ref i1) (.ref i2) ∧ (∃ x y, IsTupOf2 h TO x y) ∧ IsIt k1 h i1 a i ∧ IsIt k2 h i2 b i
theorem Vals.getD {xs : List V} {us : List Value} {i : Nat} {u : Value} (r : Vals xs us) (h : us[i]? = some u) : RelV (xs.getD i .non) u := by
  have hl := r.length
  have hi : i < us.length := (List.getElem?_eq_some_iff.mp h).1
  have hx : xs[i]? = some (xs[i]'(by omega)) := List.getElem?_eq_getElem (by omega)
  obtain ⟨u', e, q⟩ := r.get hx
  rw [h] at e; cases e
  rw [List.getD_eq_getElem?_getD, hx]
  exact q
theorem turnZ2 {P : Program} {w : World} {K : PySem.W.Frag} {elts : List Expr} {kk : Nat} {tpos : Pos} {k1 k2 : Bool} {a b z TI TO i1 i2 : Addr} (ha : a ≠ i1) (hb : b ≠ i2) (S : ZipSep2 z TI TO i1 i2 [i1, a] [i2, b]) :
    Turn P w K (.Tuple elts kk tpos) (ItG [(k1, a), (k2, b)] n2 f2) [z, TI, TO, i1, i2] z (tnZ2 k1 k2 a b z TI TO i1 i2) := by
  refine turnG (by simp) (fun i h st c hc => ?_) (fun i h h' st k => ?_) (fun i xss => ?_) (fun X pins σ H s xss hP hw hh I sq => ?_) fun A i s Q E st h => wpAny_pyIter_zip st.1 h
  · obtain ⟨hz, hTI, ⟨x, y, hTO⟩, h1, h2⟩ := st
    have e' : c = z ∨ c = TI ∨ c = TO ∨ c = i1 ∨ c = i2 := by simpa using hc
    rcases e' with rfl | rfl | rfl | rfl | rfl
    · exact ⟨_, hz, fun v q => nomatch q⟩
    · exact ⟨_, hTI, fun v q => nomatch q⟩
    · exact ⟨_, hTO, fun v q => nomatch q⟩
    · exact h1.obj
    · exact h2.obj
  · obtain ⟨hz, hTI, ⟨x, y, hTO⟩, h1, h2⟩ := st
    exact ⟨k z (by simp) _ hz, k TI (by simp) _ hTI, ⟨x, y, k TO (by simp) _ hTO⟩, h1.at' fun o q => k i1 (by simp) o q, h2.at' fun o q => k i2 (by simp) o q⟩
  · unfold f2; split <;> simp
  · subst hP hw
    cases sq with
    | cons q1 sq =>
      cases sq with
      | cons q2 sq =>
        cases sq
        obtain ⟨its1, r1, s1⟩ := q1.at I
        obtain ⟨its2, r2, s2⟩ := q2.at I
        refine ⟨_, _, _, _, fun h => IsSq k1 h a its1 ∧ IsSq k2 h b its2, ?_, ⟨s1, s2⟩, WalksT.same (WalksT.zipD2 S (drawsK k1 (by exact hh) i1 a ha its1) (drawsK k2 (by exact hh) i2 b hb its2)) (by show _ = min _ _; rw [r1.length, r2.length]) fun i h => ?_, fun i vals hp => ?_⟩
        · intro c hc
          have e' : c = z ∨ c = TO ∨ c = i1 ∨ c = i2 := by simpa using hc
          rcases e' with rfl | rfl | rfl | rfl <;> simp
        · exact ⟨fun ⟨x1, x2, x3, ⟨x4, x5⟩, x6, x7⟩ => ⟨⟨x1, x2, x3, x4, x6⟩, x5, x7⟩, fun ⟨⟨x1, x2, x3, x4, x6⟩, x5, x7⟩ => ⟨x1, x2, x3, ⟨x4, x5⟩, x6, x7⟩⟩
        · obtain ⟨u1, u2, e1, e2, rfl⟩ := hp
          exact ⟨[u1, u2], rfl, .cons (Vals.getD r1 e1) (.cons (Vals.getD r2 e2) .nil)⟩
/-! ### zip of three -/
def n3 : List (List V) → Nat
  | [xs, ys, zs] => min (min xs.length ys.length) zs.length
  | _ => 0
def f3 (i : Nat) : List (List V) → List V
  | [xs, ys, zs] => [xs.getD i .non, ys.getD i .non, zs.getD i .non]
  | _ => []
def tnZ3 (k1 k2 k3 : Bool) (a b c z TI TO i1 i2 i3 : Addr) (i : Nat) (h : Heap) : Prop := IsZip h z TI TO .none ∧ IsTupOf3 h TI (.ref i1) (.ref i2) (.ref i3) ∧ (∃ x y u, IsTupOf3 h TO x y u) ∧ IsIt k1 h i1 a i ∧ IsIt k2 h i2 b i ∧ IsIt k3 h i3 c i
theorem turnZ3 {P : Program} {w : World} {K : PySem.W.Frag} {elts : List Expr} {kk : Nat} {tpos : Pos} {k1 k2 k3 : Bool} {a b d z TI TO i1 i2 i3 : Addr} (ha : a ≠ i1) (hb : b ≠ i2) (hd : d ≠ i3) (S : ZipSep3 z TI TO i1 i2 i3 [i1, a] [i2, b] [i3, d]) :
    Turn P w K (.Tuple elts kk tpos) (ItG [(k1, a), (k2, b), (k3, d)] n3 f3) [z, TI, TO, i1, i2, i3] z (tnZ3 k1 k2 k3 a b d z TI TO i1 i2 i3) := by
  refine turnG (by simp) (fun i h st c hc => ?_) (fun i h h' st k => ?_) (fun i xss => ?_) (fun X pins σ H s xss hP hw hh I sq => ?_) fun A i s Q E st h => wpAny_pyIter_zip st.1 h
  · obtain ⟨hz, hTI, ⟨x, y, u, hTO⟩, h1, h2, h3⟩ := st
    have e' : c = z ∨ c = TI ∨ c = TO ∨ c = i1 ∨ c = i2 ∨ c = i3 := by simpa using hc
    rcases e' with rfl | rfl | rfl | rfl | rfl | rfl
    · exact ⟨_, hz, fun v q => nomatch q⟩
    · exact ⟨_, hTI, fun v q => nomatch q⟩
    · exact ⟨_, hTO, fun v q => nomatch q⟩
    · exact h1.obj
    · exact h2.obj
    · exact h3.obj
  · obtain ⟨hz, hTI, ⟨x, y, u, hTO⟩, h1, h2, h3⟩ := st
    exact ⟨k z (by simp) _ hz, k TI (by simp) _ hTI, ⟨x, y, u, k TO (by simp) _ hTO⟩, h1.at' fun o q => k i1 (by simp) o q, h2.at' fun o q => k i2 (by simp) o q, h3.at' fun o q => k i3 (by simp) o q⟩
  · unfold f3; split <;> simp
  · subst hP hw
    cases sq with
    | cons q1 sq =>
      cases sq with
      | cons q2 sq =>
        cases sq with
        | cons q3 sq =>
          cases sq
          obtain ⟨its1, r1, s1⟩ := q1.at I
          obtain ⟨its2, r2, s2⟩ := q2.at I
          obtain ⟨its3, r3, s3⟩ := q3.at I
          refine ⟨_, _, _, _, fun h => IsSq k1 h a its1 ∧ IsSq k2 h b its2 ∧ IsSq k3 h d its3, ?_, ⟨s1, s2, s3⟩, WalksT.same (WalksT.zipD3 S (drawsK k1 (by exact hh) i1 a ha its1) (drawsK k2 (by exact hh) i2 b hb its2) (drawsK k3 (by exact hh) i3 d hd its3)) (by show _ = min (min _ _) _; rw [r1.length, r2.length, r3.length]) fun i h => ?_, fun i vals hp => ?_⟩
          · intro c hc
            have e' : c = z ∨ c = TO ∨ c = i1 ∨ c = i2 ∨ c = i3 := by simpa using hc
            rcases e' with rfl | rfl | rfl | rfl | rfl <;> simp
          · exact ⟨fun ⟨x1, x2, x3, ⟨x4, x5⟩, ⟨x6, x7⟩, x8, x9⟩ => ⟨⟨x1, x2, x3, x4, x6, x8⟩, x5, x7, x9⟩, fun ⟨⟨x1, x2, x3, x4, x6, x8⟩, x5, x7, x9⟩ => ⟨x1, x2, x3, ⟨x4, x5⟩, ⟨x6, x7⟩, x8, x9⟩⟩
          · obtain ⟨u1, u2, u3, e1, e2, e3, rfl⟩ := hp
            exact ⟨[u1, u2, u3], rfl, .cons (Vals.getD r1 e1) (.cons (Vals.getD r2 e2) (.cons (Vals.getD r3 e3) .nil))⟩
/-! ### enumerate -/
set_option maxHeartbeats 1000000 in
theorem meets_enum1 {v : Value} {o : Obj} {H : Heap → Prop} (B : Begins v o H) :
    Meets (Builtin.«enumerate.__new__» ⟨[.type "enumerate", v], []⟩) (fun _ R s => H s.heap ∧
      R (.ok (.ret (.ref (s.heap.push o).objs.size))) { s with heap := (s.heap.push o).push { cls := .type "enumerate", data := .fields #[.none, .bool false, .ref s.heap.objs.size, rawInt 0, .none, .none] } }) :=
  .of_wp fun prog w A R s h => by
    obtain ⟨hp, g, d, tk, os⟩ := s; obtain ⟨h1, h⟩ := h
    have hsub := sub_enumerate
    have q1 : ∀ {A' : Around} {E : Value → Shared → Prop} {Q : Value → Shared → Prop}, Q (.ref hp.objs.size) ⟨hp.push o, g, d, tk, os⟩ → wpAny (model prog w) A' (pyIter v) Q E ⟨hp, g, d, tk, os⟩ :=
      fun q => B.iter prog w _ _ ⟨hp, g, d, tk, os⟩ _ h1 q
    wp_walk using q1
    refine wpAny_stack_any fun st => wpAny_pure ?_
    split
    · rename_i c _ _ _ _ _
      cases (c == Value.type "enumerate")
      · wp_walk using q1
        exact ⟨_, rfl, h⟩
      · wp_walk using q1
        exact ⟨_, rfl, h⟩
    · wp_walk using q1
      exact ⟨_, rfl, h⟩
theorem enum1_begins {prog : Program} {w : World} {A : Around} {E : Value → Shared → Prop} {s : Shared} {v : Value} {o : Obj} {H : Heap → Prop} {Q : Value → Shared → Prop} (B : Begins v o H) (h1 : H s.heap)
    (h : ∀ h', IsEnum h' (s.heap.objs.size + 1) s.heap.objs.size 0 .none → h'.get? s.heap.objs.size = some o → (∀ b o, s.heap.get? b = some o → h'.get? b = some o) → Q (.ref (s.heap.objs.size + 1)) { s with heap := h' }) :
    wpAny (model prog w) A (call (.type "enumerate") [v]) Q E s := by
  refine callType_new F.called_enumerate (by decide) (F.typeCall_enumerate_1 _) (F.newCall_enumerate_1 _) (fun obj => F.args_object_init_2 obj _) F.entry_enumerate_new (meets_enum1 B) ⟨h1, ?_⟩
  have hz : (s.heap.push o).objs.size = s.heap.objs.size + 1 := Heap.size_push ..
  show _ ∧ _
  rw [hz]
  have he : IsEnum ((s.heap.push o).push { cls := .type "enumerate", data := .fields #[.none, .bool false, .ref s.heap.objs.size, rawInt 0, .none, .none] }) (s.heap.objs.size + 1) s.heap.objs.size 0 .none := by
    have := Heap.get?_push_size (s.heap.push o) (o := { cls := .type "enumerate", data := .fields #[.none, .bool false, .ref s.heap.objs.size, rawInt 0, .none, .none] }) rfl
    rw [hz] at this; exact this
  exact ⟨⟨_, he, rfl⟩, h _ he (Heap.get?_push_of_some _ (Heap.get?_push_size _ B.free)) fun b o x => Heap.get?_push_of_some _ (Heap.get?_push_of_some _ x)⟩
def nE : List (List V) → Nat
  | [xs] => xs.length
  | _ => 0
def fE (i : Nat) : List (List V) → List V
  | [xs] => [.int (i : Int), xs.getD i .non]
  | _ => []
def tnE (k : Bool) (a e it : Addr) (i : Nat) (h : Heap) : Prop := (∃ old, IsEnum h e it (0 + (i : Int)) old) ∧ IsIt k h it a i
theorem turnE {P : Program} {w : World} {K : PySem.W.Frag} {elts : List Expr} {kk : Nat} {tpos : Pos} {k : Bool} {a e it : Addr} (ha : a ≠ it) (he : e ≠ it) (hea : e ≠ a) :
    Turn P w K (.Tuple elts kk tpos) (ItG [(k, a)] nE fE) [e, it] e (tnE k a e it) := by
  refine turnG (by simp) (fun i h st c hc => ?_) (fun i h h' st k => ?_) (fun i xss => ?_) (fun X pins σ H s xss hP hw hh I sq => ?_) fun A i s Q E st h => let ⟨⟨_, z⟩, _⟩ := st; wpAny_pyIter_enum z h
  · obtain ⟨⟨old, hz⟩, h1⟩ := st
    have e' : c = e ∨ c = it := by simpa using hc
    rcases e' with rfl | rfl
    · exact ⟨_, hz, fun v q => nomatch q⟩
    · exact h1.obj
  · obtain ⟨⟨old, hz⟩, h1⟩ := st
    exact ⟨⟨old, k e (by simp) _ hz⟩, h1.at' fun o q => k it (by simp) o q⟩
  · unfold fE; split <;> simp
  · subst hP hw
    cases sq with
    | cons q1 sq =>
      cases sq
      obtain ⟨its1, r1, s1⟩ := q1.at I
      refine ⟨_, _, _, _, fun h => IsSq k h a its1, ?_, s1, WalksT.same (WalksT.enumFrom 0 (drawsK k (by exact hh) it a ha its1) e he (by simp [he, hea]) (by simp)) (by show _ = List.length _; rw [r1.length]) fun i h => ?_, fun i vals hp => ?_⟩
      · intro c hc; exact hc
      · exact ⟨fun ⟨x1, x2, x3⟩ => ⟨⟨x1, x2⟩, x3⟩, fun ⟨⟨x1, x2⟩, x3⟩ => ⟨x1, x2, x3⟩⟩
      · obtain ⟨t, u1, e1, rfl⟩ := hp
        exact ⟨[.int (0 + (i : Int)) t, u1], rfl, .cons ⟨t, by rw [Int.zero_add]⟩ (.cons (Vals.getD r1 e1) .nil)⟩
end U
set_option Elab.async false
set_option linter.all false
set_option maxRecDepth 100000
set_option maxHeartbeats 4000000
namespace U
open PySem PySem.Spec PyProof.Rows L2
/-- an iterator that gives the data ds, one by one -/
structure Wlk (J : It) (F : Hp) (ds : List D) : Prop where
  stop : ∀ H, Ex F H → J.stop ds.length H
  go : ∀ i H, Ex F H → i < ds.length → J.go i H
  yld : ∀ i H F', Ex F F' → Ex F' H → i < ds.length → ∀ x H', J.yld i H x H' → ∃ F'' d, ds[i]? = some d ∧ Evo F' H F'' H' ∧ Dr F'' x d
theorem wlk_list {K : PySem.W.Frag} {F : Hp} {a : Addr} {xs : List V} {ds : List D} (h : Rd F a (.lst xs)) (hd : DrAll F xs ds) : Wlk (Itl K a) F ds where
  stop := fun H e => ⟨xs, .inl (Evl.ex_rd e h), by rw [dps_len hd]; exact Nat.le_refl _⟩
  go := fun i H e hi => by
    obtain ⟨v, hv, _⟩ := dps_get hd (List.getElem?_eq_getElem hi)
    exact ⟨xs, v, .inl (Evl.ex_rd e h), hv⟩
  yld := fun i H F' e e' hi x H' ⟨eH, hx⟩ => by
    subst eH
    obtain ⟨v, hv, hd'⟩ := dps_get hd (List.getElem?_eq_getElem hi)
    have := hx xs (.inl (Evl.ex_rd (e.trans e') h))
    rw [hv] at this; cases this
    exact ⟨F', _, List.getElem?_eq_getElem hi, Evo.refl e', dp_mono e hd'⟩
theorem wlk_tup {K : PySem.W.Frag} {F : Hp} {a : Addr} {xs : List V} {ds : List D} (h : F a = some (.tup xs)) (hd : DrAll F xs ds) : Wlk (Itt K a) F ds where
  stop := fun H e => ⟨xs, .inl (.inl (e _ _ h)), by rw [dps_len hd]; exact Nat.le_refl _⟩
  go := fun i H e hi => by
    obtain ⟨v, hv, _⟩ := dps_get hd (List.getElem?_eq_getElem hi)
    exact ⟨xs, v, .inl (.inl (e _ _ h)), hv⟩
  yld := fun i H F' e e' hi x H' ⟨eH, hx⟩ => by
    subst eH
    obtain ⟨v, hv, hd'⟩ := dps_get hd (List.getElem?_eq_getElem hi)
    have := hx xs (.inl (.inl ((e.trans e') _ _ h)))
    rw [hv] at this; cases this
    exact ⟨F', _, List.getElem?_eq_getElem hi, Evo.refl e', dp_mono e hd'⟩
def rangeD (lo : Int) (n : Nat) : List D := (List.range n).map fun i => .int (lo + (i : Nat))
theorem rangeD_len (lo : Int) (n : Nat) : (rangeD lo n).length = n := by simp [rangeD]
theorem wlk_range {F : Hp} {lo : Int} {n : Nat} : Wlk (Itr lo n) F (rangeD lo n) where
  stop := fun H e => by rw [rangeD_len]; exact Nat.le_refl n
  go := fun i H e hi => by rw [rangeD_len] at hi; exact hi
  yld := fun i H F' e e' hi x H' ⟨eH, hx⟩ => by
    subst eH hx
    rw [rangeD_len] at hi
    exact ⟨F', _, by simp [rangeD, hi], Evo.refl e', .int _⟩
def textD (x : Str) : List D := x.cps.toList.map fun c => .str ⟨#[c]⟩
theorem wlk_str {F : Hp} {x : Str} : Wlk (Its x) F (textD x) where
  stop := fun H e => by
    show x.cps.size ≤ _
    simp [textD]
  go := fun i H e hi => by
    show i < x.cps.size
    simpa [textD] using hi
  yld := fun i H F' e e' hi y H' ⟨eH, c, hc, hy⟩ => by
    subst eH hy
    refine ⟨F', .str ⟨#[c]⟩, ?_, Evo.refl e', .str _⟩
    simp [textD, hc]
theorem wlk_G {F : Hp} {src : List (Bool × Addr)} {n : List (List V) → Nat} {f : Nat → List (List V) → List V} {xss : List (List V)} {ds : List D} (h : SqAll F src xss) (hn : ds.length = n xss) (hd : ∀ i, i < ds.length → ∃ es, ds[i]? = some (.tuple es) ∧ DrAll F (f i xss) es) : Wlk (ItG src n f) F ds where
  stop := fun H e => ⟨xss, h.mono e, hn⟩
  go := fun i H e hi => ⟨xss, h.mono e, by rw [← hn]; exact hi⟩
  yld := fun i H F' e e' hi x H' ⟨T, yss, ex, hT, hs, eH⟩ => by
    have : yss = xss := SqAll.inj hs (h.mono (e.trans e'))
    subst this ex eH
    obtain ⟨es, h1, h2⟩ := hd i hi
    have hTF : F' T = none := none_back e' hT
    exact ⟨_, _, h1, (Evo.refl e').put hT, .tup upd_same (dps_mono (e.trans (Evl.Ex.new hTF)) h2)⟩
def seqD : D → Option (List D)
  | .list ds => some ds
  | .tuple ds => some ds
  | _ => none
theorem seq_of {F : Hp} {v : V} {d : D} {ds : List D} (h : Dr F v d) (e : seqD d = some ds) : ∃ k a xs, v = .ref a ∧ SqK k F a xs ∧ DrAll F xs ds := by
  cases h with
  | lst h hs => cases e; exact ⟨true, _, _, rfl, h, hs⟩
  | tup h hs => cases e; exact ⟨false, _, _, rfl, h, hs⟩
  | _ => cases e
theorem dps_getD {F : Hp} {vs : List V} {ds : List D} {i : Nat} (h : DrAll F vs ds) (hi : i < ds.length) : Dr F (vs.getD i .non) (ds.getD i .none) := by
  obtain ⟨v, hv, hd⟩ := dps_get h (List.getElem?_eq_getElem hi)
  rw [List.getD_eq_getElem?_getD, hv, List.getD_eq_getElem?_getD, List.getElem?_eq_getElem hi]
  exact hd
def zip2D : List D → List D → List D
  | x :: xs, y :: ys => .tuple [x, y] :: zip2D xs ys
  | _, _ => []
def zip3D : List D → List D → List D → List D
  | x :: xs, y :: ys, z :: zs => .tuple [x, y, z] :: zip3D xs ys zs
  | _, _, _ => []
def enumD : Nat → List D → List D
  | _, [] => []
  | i, x :: xs => .tuple [.int (i : Int), x] :: enumD (i + 1) xs
theorem zip2D_len : ∀ xs ys : List D, (zip2D xs ys).length = min xs.length ys.length
  | [], _ => by simp [zip2D]
  | _ :: _, [] => by simp [zip2D]
  | x :: xs, y :: ys => by simp [zip2D, zip2D_len xs ys]
theorem zip2D_get : ∀ (xs ys : List D) (i : Nat), i < min xs.length ys.length → (zip2D xs ys)[i]? = some (.tuple [xs.getD i .none, ys.getD i .none])
  | [], _, i, h => by simp at h
  | _ :: _, [], i, h => by simp at h
  | x :: xs, y :: ys, 0, h => by simp [zip2D]
  | x :: xs, y :: ys, i + 1, h => by
    have := zip2D_get xs ys i (by simp at h; omega)
    simpa [zip2D] using this
theorem zip3D_len : ∀ xs ys zs : List D, (zip3D xs ys zs).length = min (min xs.length ys.length) zs.length
  | [], _, _ => by simp [zip3D]
  | _ :: _, [], _ => by simp [zip3D]
  | _ :: _, _ :: _, [] => by simp [zip3D]
  | x :: xs, y :: ys, z :: zs => by simp [zip3D, zip3D_len xs ys zs]
theorem zip3D_get : ∀ (xs ys zs : List D) (i : Nat), i < min (min xs.length ys.length) zs.length → (zip3D xs ys zs)[i]? = some (.tuple [xs.getD i .none, ys.getD i .none, zs.getD i .none])
  | [], _, _, i, h => by simp at h
  | _ :: _, [], _, i, h => by simp at h
  | _ :: _, _ :: _, [], i, h => by simp at h
  | x :: xs, y :: ys, z :: zs, 0, h => by simp [zip3D]
  | x :: xs, y :: ys, z :: zs, i + 1, h => by
    have := zip3D_get xs ys zs i (by simp at h; omega)
    simpa [zip3D] using this
theorem enumD_len : ∀ (xs : List D) (k : Nat), (enumD k xs).length = xs.length
  | [], _ => rfl
  | x :: xs, k => by simp [enumD, enumD_len xs (k + 1)]
theorem enumD_get : ∀ (xs : List D) (k i : Nat), i < xs.length → (enumD k xs)[i]? = some (.tuple [.int ((k + i : Nat) : Int), xs.getD i .none])
  | [], _, i, h => by simp at h
  | x :: xs, k, 0, h => by simp [enumD]
  | x :: xs, k, i + 1, h => by
    have := enumD_get xs (k + 1) i (by simp at h; omega)
    simp only [enumD, List.getElem?_cons_succ, this]
    simp; omega
/-! ### what is walked -/
def GotI (cv : Nat → Value) (W : WX) (F H : Hp) (σ : L2.St) (R : It → Hp → Prop) : ResL → Prop
  | .ok ds => ∀ J F' H', Evo F H F' H' → Wlk J F' ds → R J H'
  | .exc c => QX cv W F H σ c
  | .bad => False
def rdI (cv : Nat → Value) (W : WX) (mi : SmL) : TI := fun σ H R => ∃ ρ F, Rel cv ρ σ F H ∧ GotI cv W F H σ R (mi ρ)
def JI (X : Cx) (cv : Nat → Value) (W : WX) (tg iter : Expr) (mi : SmL) : Prop := PI X tg iter (rdI cv W mi)
def iterD : D → ResL
  | .list ds => .ok ds
  | .tuple ds => .ok ds
  | .str x => .ok (textD x)
  | _ => .bad
def iSeq (m : Sm) : SmL := fun ρ => (m ρ).bindL iterD
def iR1 (m : Sm) : SmL := fun ρ => (m ρ).bindL fun d => match d with
  | .int j => if -(2 ^ 62) ≤ j ∧ j < 2 ^ 62 then .ok (rangeD 0 j.toNat) else .bad
  | _ => .bad
def iR2 (ma mb : Sm) : SmL := fun ρ => (ma ρ).bindL fun x => (mb ρ).bindL fun y => match x, y with
  | .int i, .int j => if -(2 ^ 62) ≤ i ∧ i < 2 ^ 62 ∧ -(2 ^ 62) ≤ j ∧ j < 2 ^ 62 then .ok (rangeD i (j - i).toNat) else .bad
  | _, _ => .bad
def zipL : List D → ResL
  | [x, y] => match seqD x, seqD y with
    | some xs, some ys => .ok (zip2D xs ys)
    | _, _ => .bad
  | [x, y, z] => match seqD x, seqD y, seqD z with
    | some xs, some ys, some zs => .ok (zip3D xs ys zs)
    | _, _, _ => .bad
  | _ => .bad
def iZip (ms : List Sm) : SmL := fun ρ => (evs ms ρ).bindL zipL
def enumL : List D → ResL
  | [x] => match seqD x with
    | some xs => .ok (enumD 0 xs)
    | _ => .bad
  | _ => .bad
def iEnum (m : Sm) : SmL := fun ρ => (evs [m] ρ).bindL enumL
section
variable {X : Cx} {cv : Nat → Value} {W : WX} {a b c tg : Expr} {es : List Expr} {ms : List Sm} {m ma mb mc : Sm} {pos p tpos : Pos}
theorem PI.imp {e : Expr} {t t' : TI} (h : PI X tg e t) (k : ∀ σ H R, t' σ H R → t σ H R) : PI X tg e t' := ⟨fun pins s σ H R I hw => h.run pins s σ H R I (k σ H R hw)⟩
/-- a value that is walked, by its kind -/
theorem pi_any {l : Expr} {tl : TE} (hl : PE X l tl) : PI X tg l (fun σ H R => tl σ H fun x H1 => (∃ a, x = .ref a ∧ (∃ xs, SqL X.K H1 a xs) ∧ R (Itl X.K a) H1) ∨ (∃ a, x = .ref a ∧ (∃ xs, SqT X.K H1 a xs) ∧ R (Itt X.K a) H1) ∨ ∃ z, x = .str z ∧ R (Its z) H1) := by
  refine ⟨fun pins s σ H R I h => ?_⟩
  refine thn (hl.run pins s σ H _ I h) fun v s1 ⟨x, H1, I1, r1, q1⟩ => ?_
  rcases q1 with q1 | q1 | q1
  · obtain ⟨a, e, ⟨xs, hq⟩, q⟩ := q1
    subst e
    cases r1
    obtain ⟨its, rv, p, hz⟩ := I1.list hq
    exact wpAny_pyIter_list p.isList (pi_one (tk := s1.toks) I1 _ (turn_list a _) ⟨_, Heap.get?_push_size _ rfl, rfl, rfl⟩ q)
  · obtain ⟨a, e, ⟨xs, hq⟩, q⟩ := q1
    subst e
    cases r1
    obtain ⟨its, rv, p, hz⟩ := I1.tuple hq
    exact wpAny_pyIter_tuple (show s1.heap.IsTuple a its.toArray from p) (pi_one (tk := s1.toks) I1 _ (turn_tuple a _) ⟨_, Heap.get?_push_size _ rfl, rfl, rfl⟩ q)
  · obtain ⟨x, ex, q⟩ := q1
    subst ex
    obtain ⟨t, rfl⟩ := r1
    cases ha : x.cps.all (· < 128)
    · exact wpAny_pyIter_wide ha (pi_one (tk := s1.toks) I1 _ (turn_str _ x t "str_iterator" (.inr rfl)) ⟨_, Heap.get?_push_size _ rfl, rfl, rfl⟩ q)
    · exact wpAny_pyIter_ascii ha (pi_one (tk := s1.toks) I1 _ (turn_str _ x t "str_ascii_iterator" (.inl rfl)) ⟨_, Heap.get?_push_size _ rfl, rfl, rfl⟩ q)
theorem ji_seq (ha : JS X cv W a ma) : JI X cv W tg a (iSeq ma) :=
  PI.imp (pi_any ha) fun σ H R ⟨ρ, F, r, q⟩ => by
    refine ⟨ρ, F, r, ?_⟩
    unfold iSeq at q
    have go : ∀ d, GotI cv W F H σ R (iterD d) → QD F H d fun x H1 => (∃ a, x = .ref a ∧ (∃ xs, SqL X.K H1 a xs) ∧ R (Itl X.K a) H1) ∨ (∃ a, x = .ref a ∧ (∃ xs, SqT X.K H1 a xs) ∧ R (Itt X.K a) H1) ∨ ∃ z, x = .str z ∧ R (Its z) H1 := fun d q v F1 H1 ev hd => by
      cases hd with
      | lst h hs => exact .inl ⟨_, rfl, ⟨_, .inl (Evl.ex_rd ev.le h)⟩, q _ F1 H1 ev (wlk_list h hs)⟩
      | tup h hs => exact .inr (.inl ⟨_, rfl, ⟨_, .inl (.inl (ev.le _ _ h))⟩, q _ F1 H1 ev (wlk_tup h hs)⟩)
      | str x => exact .inr (.inr ⟨_, rfl, q _ F1 H1 ev wlk_str⟩)
      | _ => exact q.elim
    cases h : ma ρ with
    | ok d => rw [h] at q; exact go d q
    | new d => rw [h] at q; exact go _ q
    | exc c => rw [h] at q; exact q
    | bad => rw [h] at q; exact q
theorem ji_r1 (hg : Gl X "range") (hm : X.mg "range" = none) (ha : JW X cv W a ma) (h1 : notStar a = true) : JI X cv W tg (.Call (.Name "range" p) [a] [] pos) (iR1 ma) :=
  PI.imp (pi_range1 hg hm (pa_cons ha pa_nil (star_cons h1)) (star_cons h1)) fun σ H R ⟨ρ, F, r, q⟩ => by
    refine ⟨ρ, F, r, ?_⟩
    unfold iR1 at q
    cases h : ma ρ with
    | ok d =>
      rw [h] at q
      intro v F1 H1 ev wk
      simp only [Res.bindL_ok] at q
      cases d <;> try exact q.elim
      simp only at q
      split at q
      · rename_i hz
        exact ⟨_, by rw [wk.int], hz.1, hz.2, q _ F1 H1 ev wlk_range⟩
      · exact q.elim
    | new d => rw [h] at q; exact q.elim
    | exc c => rw [h] at q; exact q
    | bad => rw [h] at q; exact q
theorem ji_r2 (hg : Gl X "range") (hm : X.mg "range" = none) (ha : JW X cv W a ma) (hb : JW X cv W b mb) (h1 : notStar a = true) (h2 : notStar b = true) : JI X cv W tg (.Call (.Name "range" p) [a, b] [] pos) (iR2 ma mb) :=
  PI.imp (pi_range2 hg hm (pa_cons ha (pa_cons hb pa_nil (star_cons h2)) (star_cons h1)) (by rw [star_cons h1, star_cons h2]; rfl) (star_cons h2)) fun σ H R ⟨ρ, F, r, q⟩ => by
    refine ⟨ρ, F, r, ?_⟩
    unfold iR2 at q
    have go : ∀ d, GotI cv W F H σ R ((mb ρ).bindL fun y => match d, y with
      | .int i, .int j => if -(2 ^ 62) ≤ i ∧ i < 2 ^ 62 ∧ -(2 ^ 62) ≤ j ∧ j < 2 ^ 62 then .ok (rangeD i (j - i).toNat) else .bad
      | _, _ => .bad) → QW F H d fun x H1 => tCons (rdW cv W mb) tNil σ H1 fun xs H2 => ∃ i j : Int, x :: xs = [.int i, .int j] ∧ (-(2 ^ 62) ≤ i ∧ i < 2 ^ 62 ∧ -(2 ^ 62) ≤ j ∧ j < 2 ^ 62) ∧ R (Itr i (j - i).toNat) H2 := fun d q v F1 H1 ev wk => by
      refine ⟨ρ, F1, r.evo ev, ?_⟩
      cases h : mb ρ with
      | ok d2 =>
        rw [h] at q
        intro v2 F2 H2 ev2 wk2
        simp only [Res.bindL_ok] at q
        cases d <;> try exact q.elim
        cases d2 <;> try exact q.elim
        simp only at q
        split at q
        · rename_i hz
          exact ⟨_, _, by rw [wk.int, wk2.int], hz, q _ F2 H2 (ev.trans ev2) wlk_range⟩
        · exact q.elim
      | new d2 => rw [h] at q; cases d <;> exact q.elim
      | exc c => rw [h] at q; exact QX.evo ev q
      | bad => rw [h] at q; exact q
    cases h : ma ρ with
    | ok d => rw [h] at q; exact go d q
    | new d => rw [h] at q; exact go _ q
    | exc c => rw [h] at q; exact q
    | bad => rw [h] at q; exact q
theorem lt_new {s : Shared} {N : Nat} (h : N = s.heap.objs.size) {a : Addr} {k : Bool} {its : List Value} (q : IsSq k s.heap a its) (j : Nat) : a ≠ N + j := fun e => by
  have h' : (a : Nat) < s.heap.objs.size := q.lt
  have e' : (a : Nat) = N + j := e
  subst h
  rw [e'] at h'
  exact absurd h' (Nat.not_lt.mpr (Nat.le_add_right _ _))
theorem pi_zip2 {e e2 : Expr} {ta : TA} {elts : List Expr} {kk : Nat} (hg : Gl X "zip") (hm : X.mg "zip" = none) (ha : PA X [e, e2] ta) (h1 : notStar e = true) (h2 : notStar e2 = true) :
    PI X (.Tuple elts kk tpos) (.Call (.Name "zip" p) [e, e2] [] pos) (fun σ H R => ta σ H fun vs H1 => ∃ k1 k2 a b xs ys, vs = [.ref a, .ref b] ∧ SqK k1 H1 a xs ∧ SqK k2 H1 b ys ∧ R (ItG [(k1, a), (k2, b)] n2 f2) H1) := by
  refine ⟨fun pins s σ H R I h => ?_⟩
  refine Call_ (ld_blt I hg hm PyProof.Rows.boot_zip (PyProof.Rows.callWith_type1 (thn (ha.run pos pins s σ H _ I h) fun us s1 ⟨vs, H1, I1, r1, q1⟩ => ?_) (star_cons h1) (star_any (by simp [h2]))))
  obtain ⟨k1, k2, a, b, xs, ys, ex, hx, hy, q⟩ := q1
  subst ex
  obtain ⟨u1, u2, rfl, ru1, ru2⟩ := Vals.two r1
  cases ru1
  cases ru2
  obtain ⟨its1, rv1, p1⟩ := hx.at I1
  obtain ⟨its2, rv2, p2⟩ := hy.at I1
  refine zip_begins2 (beginsK k1 a its1) (beginsK k2 b its2) p1 p2 fun h' hz hTI hTO o1 o2 hsz hk => wpAny_pyIter_zip hz ?_
  have I2 : Inv X pins σ H1 { s1 with heap := h' } := I1.kept (t' := s1.toks) hk
  have S : ZipSep2 (s1.heap.objs.size + 4) (s1.heap.objs.size + 2) (s1.heap.objs.size + 3) s1.heap.objs.size (s1.heap.objs.size + 1) [s1.heap.objs.size, a] [s1.heap.objs.size + 1, b] := zip_sep2 (by simpa using p1.lt) (by simpa using p2.lt)
  refine ⟨s1.heap.objs.size + 4, [s1.heap.objs.size + 4, s1.heap.objs.size + 2, s1.heap.objs.size + 3, s1.heap.objs.size, s1.heap.objs.size + 1], _, _, H1, rfl, I2, turnZ2 (by simpa using lt_new rfl p1 0) (lt_new rfl p2 1) S, ⟨hz, hTI, ⟨_, _, hTO⟩, itObj_is o1, itObj_is o2⟩, fun c hcm => ?_, q⟩
  have hle : s1.heap.objs.size ≤ c := by
    have e' : c = s1.heap.objs.size + 4 ∨ c = s1.heap.objs.size + 2 ∨ c = s1.heap.objs.size + 3 ∨ c = s1.heap.objs.size ∨ c = s1.heap.objs.size + 1 := by simpa using hcm
    rcases e' with z | z | z | z | z <;> rw [z] <;> first | exact Nat.le_add_right _ _ | exact Nat.le_refl _
  exact I1.fpOk hle (I1.hok.fresh hle)
theorem pi_zip3 {e e2 e3 : Expr} {ta : TA} {elts : List Expr} {kk : Nat} (hg : Gl X "zip") (hm : X.mg "zip" = none) (ha : PA X [e, e2, e3] ta) (h1 : notStar e = true) (h2 : notStar e2 = true) (h3 : notStar e3 = true) :
    PI X (.Tuple elts kk tpos) (.Call (.Name "zip" p) [e, e2, e3] [] pos) (fun σ H R => ta σ H fun vs H1 => ∃ k1 k2 k3 a b d xs ys zs, vs = [.ref a, .ref b, .ref d] ∧ SqK k1 H1 a xs ∧ SqK k2 H1 b ys ∧ SqK k3 H1 d zs ∧ R (ItG [(k1, a), (k2, b), (k3, d)] n3 f3) H1) := by
  refine ⟨fun pins s σ H R I h => ?_⟩
  refine Call_ (ld_blt I hg hm PyProof.Rows.boot_zip (PyProof.Rows.callWith_type1 (thn (ha.run pos pins s σ H _ I h) fun us s1 ⟨vs, H1, I1, r1, q1⟩ => ?_) (star_cons h1) (star_any (by simp [h2, h3]))))
  obtain ⟨k1, k2, k3, a, b, d, xs, ys, zs, ex, hx, hy, hw, q⟩ := q1
  subst ex
  cases r1 with
  | cons ru1 r1 =>
    obtain ⟨u1, u2, rfl, ru2, ru3⟩ := Vals.two r1
    cases ru1
    cases ru2
    cases ru3
    obtain ⟨its1, rv1, p1⟩ := hx.at I1
    obtain ⟨its2, rv2, p2⟩ := hy.at I1
    obtain ⟨its3, rv3, p3⟩ := hw.at I1
    refine zip_begins3 (beginsK k1 a its1) (beginsK k2 b its2) (beginsK k3 d its3) p1 p2 p3 fun h' hz hTI hTO o1 o2 o3 hsz hk => wpAny_pyIter_zip hz ?_
    have I2 : Inv X pins σ H1 { s1 with heap := h' } := I1.kept (t' := s1.toks) hk
    have S : ZipSep3 (s1.heap.objs.size + 5) (s1.heap.objs.size + 3) (s1.heap.objs.size + 4) s1.heap.objs.size (s1.heap.objs.size + 1) (s1.heap.objs.size + 2) [s1.heap.objs.size, a] [s1.heap.objs.size + 1, b] [s1.heap.objs.size + 2, d] := zip_sep3 (by simpa using p1.lt) (by simpa using p2.lt) (by simpa using p3.lt)
    refine ⟨s1.heap.objs.size + 5, [s1.heap.objs.size + 5, s1.heap.objs.size + 3, s1.heap.objs.size + 4, s1.heap.objs.size, s1.heap.objs.size + 1, s1.heap.objs.size + 2], _, _, H1, rfl, I2, turnZ3 (by simpa using lt_new rfl p1 0) (lt_new rfl p2 1) (lt_new rfl p3 2) S, ⟨hz, hTI, ⟨_, _, _, hTO⟩, itObj_is o1, itObj_is o2, itObj_is o3⟩, fun c hcm => ?_, q⟩
    have hle : s1.heap.objs.size ≤ c := by
      have e' : c = s1.heap.objs.size + 5 ∨ c = s1.heap.objs.size + 3 ∨ c = s1.heap.objs.size + 4 ∨ c = s1.heap.objs.size ∨ c = s1.heap.objs.size + 1 ∨ c = s1.heap.objs.size + 2 := by simpa using hcm
      rcases e' with z | z | z | z | z | z <;> rw [z] <;> first | exact Nat.le_add_right _ _ | exact Nat.le_refl _
    exact I1.fpOk hle (I1.hok.fresh hle)
theorem pi_enum1 {e : Expr} {ta : TA} {elts : List Expr} {kk : Nat} (hg : Gl X "enumerate") (hm : X.mg "enumerate" = none) (ha : PA X [e] ta) (h1 : notStar e = true) :
    PI X (.Tuple elts kk tpos) (.Call (.Name "enumerate" p) [e] [] pos) (fun σ H R => ta σ H fun vs H1 => ∃ k a xs, vs = [.ref a] ∧ SqK k H1 a xs ∧ R (ItG [(k, a)] nE fE) H1) := by
  refine ⟨fun pins s σ H R I h => ?_⟩
  refine Call_ (ld_blt I hg hm boot_enumerate (PyProof.Rows.callWith_type1 (thn (ha.run pos pins s σ H _ I h) fun us s1 ⟨vs, H1, I1, r1, q1⟩ => ?_) (star_cons h1) rfl))
  obtain ⟨k, a, xs, ex, hx, q⟩ := q1
  subst ex
  obtain ⟨u1, rfl, ru1⟩ := Vals.one r1
  cases ru1
  obtain ⟨its1, rv1, p1⟩ := hx.at I1
  refine enum1_begins (beginsK k a its1) p1 fun h' hz o1 hk => wpAny_pyIter_enum hz ?_
  have I2 : Inv X pins σ H1 { s1 with heap := h' } := I1.kept (t' := s1.toks) hk
  refine ⟨s1.heap.objs.size + 1, [s1.heap.objs.size + 1, s1.heap.objs.size], _, _, H1, rfl, I2, turnE (by simpa using lt_new rfl p1 0) (Nat.succ_ne_self _) (fun z => lt_new rfl p1 1 z.symm), ⟨⟨.none, hz⟩, itObj_is o1⟩, fun c hcm => ?_, q⟩
  have hle : s1.heap.objs.size ≤ c := by
    have e' : c = s1.heap.objs.size + 1 ∨ c = s1.heap.objs.size := by simpa using hcm
    rcases e' with z | z <;> rw [z] <;> first | exact Nat.le_add_right _ _ | exact Nat.le_refl _
  exact I1.fpOk hle (I1.hok.fresh hle)
theorem rd_argsI {σ : L2.St} {H F : Hp} {ρ : Rho} {R0 : It → Hp → Prop} {k : List D → ResL} (r : Rel cv ρ σ F H) (q : GotI cv W F H σ R0 ((evs ms ρ).bindL k)) {R : List V → Hp → Prop} (hk : ∀ ds vs F' H', ds.length = ms.length → Evo F H F' H' → DrAll F' vs ds → GotI cv W F H σ R0 (k ds) → R vs H') : rdA cv W ms σ H R := by
  refine ⟨ρ, F, r, ?_⟩
  cases h : evs ms ρ with
  | ok ds => rw [h] at q; exact fun vs F1 H1 ev hd => hk ds vs F1 H1 (evs_len h) ev hd q
  | exc c => rw [h] at q; exact q
  | bad => rw [h] at q; exact q
theorem ji_zip2 {elts : List Expr} {kk : Nat} (hg : Gl X "zip") (hm : X.mg "zip" = none) (ha : JA X cv W [a, b] ms) (hn : ms.length = 2) (h1 : notStar a = true) (h2 : notStar b = true) : JI X cv W (.Tuple elts kk tpos) (.Call (.Name "zip" p) [a, b] [] pos) (iZip ms) :=
  PI.imp (pi_zip2 hg hm ha h1 h2) fun σ H R ⟨ρ, F, r, q⟩ => rd_argsI r q fun ds vs F1 H1 hl ev hd q => by
    rw [hn] at hl
    match ds, hl, hd, q with
    | [x, y], _, .cons hx (.cons hy .nil), q =>
      unfold zipL at q
      cases e1 : seqD x with
      | none => simp only [e1] at q; exact q.elim
      | some xs =>
        cases e2 : seqD y with
        | none => simp only [e1, e2] at q; exact q.elim
        | some ys =>
          simp only [e1, e2] at q
          obtain ⟨k1, a1, vs1, rfl, sq1, d1⟩ := seq_of hx e1
          obtain ⟨k2, a2, vs2, rfl, sq2, d2⟩ := seq_of hy e2
          refine ⟨k1, k2, a1, a2, vs1, vs2, rfl, sq1.mono ev.le, sq2.mono ev.le, q _ F1 H1 ev (wlk_G (.cons sq1 (.cons sq2 .nil)) ?_ fun i hi => ?_)⟩
          · rw [zip2D_len]; show _ = min _ _; rw [dps_len d1, dps_len d2]
          · rw [zip2D_len] at hi
            exact ⟨_, zip2D_get xs ys i hi, .cons (dps_getD d1 (by omega)) (.cons (dps_getD d2 (by omega)) .nil)⟩
theorem ji_zip3 {elts : List Expr} {kk : Nat} (hg : Gl X "zip") (hm : X.mg "zip" = none) (ha : JA X cv W [a, b, c] ms) (hn : ms.length = 3) (h1 : notStar a = true) (h2 : notStar b = true) (h3 : notStar c = true) : JI X cv W (.Tuple elts kk tpos) (.Call (.Name "zip" p) [a, b, c] [] pos) (iZip ms) :=
  PI.imp (pi_zip3 hg hm ha h1 h2 h3) fun σ H R ⟨ρ, F, r, q⟩ => rd_argsI r q fun ds vs F1 H1 hl ev hd q => by
    rw [hn] at hl
    match ds, hl, hd, q with
    | [x, y, z], _, .cons hx (.cons hy (.cons hz .nil)), q =>
      unfold zipL at q
      cases e1 : seqD x with
      | none => simp only [e1] at q; exact q.elim
      | some xs =>
        cases e2 : seqD y with
        | none => simp only [e1, e2] at q; exact q.elim
        | some ys =>
          cases e3 : seqD z with
          | none => simp only [e1, e2, e3] at q; exact q.elim
          | some zs =>
            simp only [e1, e2, e3] at q
            obtain ⟨k1, a1, vs1, rfl, sq1, d1⟩ := seq_of hx e1
            obtain ⟨k2, a2, vs2, rfl, sq2, d2⟩ := seq_of hy e2
            obtain ⟨k3, a3, vs3, rfl, sq3, d3⟩ := seq_of hz e3
            refine ⟨k1, k2, k3, a1, a2, a3, vs1, vs2, vs3, rfl, sq1.mono ev.le, sq2.mono ev.le, sq3.mono ev.le, q _ F1 H1 ev (wlk_G (.cons sq1 (.cons sq2 (.cons sq3 .nil))) ?_ fun i hi => ?_)⟩
            · rw [zip3D_len]; show _ = min (min _ _) _; rw [dps_len d1, dps_len d2, dps_len d3]
            · rw [zip3D_len] at hi
              exact ⟨_, zip3D_get xs ys zs i hi, .cons (dps_getD d1 (by omega)) (.cons (dps_getD d2 (by omega)) (.cons (dps_getD d3 (by omega)) .nil))⟩
theorem ji_enum {elts : List Expr} {kk : Nat} (hg : Gl X "enumerate") (hm : X.mg "enumerate" = none) (ha : JS X cv W a ma) (h1 : notStar a = true) : JI X cv W (.Tuple elts kk tpos) (.Call (.Name "enumerate" p) [a] [] pos) (iEnum ma) :=
  PI.imp (pi_enum1 hg hm (ja_cons ha ja_nil h1) h1) fun σ H R ⟨ρ, F, r, q⟩ => rd_argsI r q fun ds vs F1 H1 hl ev hd q => by
    match ds, hl, hd, q with
    | [x], _, .cons hx .nil, q =>
      unfold enumL at q
      cases e1 : seqD x with
      | none => simp only [e1] at q; exact q.elim
      | some xs =>
        simp only [e1] at q
        obtain ⟨k1, a1, vs1, rfl, sq1, d1⟩ := seq_of hx e1
        refine ⟨k1, a1, vs1, rfl, sq1.mono ev.le, q _ F1 H1 ev (wlk_G (.cons sq1 .nil) ?_ fun i hi => ?_)⟩
        · rw [enumD_len]; show _ = List.length _; rw [dps_len d1]
        · rw [enumD_len] at hi
          have := enumD_get xs 0 i hi
          rw [Nat.zero_add] at this
          exact ⟨_, this, .cons (.int _) (.cons (dps_getD d1 hi) .nil)⟩
end
end U
set_option Elab.async false
set_option linter.all false
set_option maxRecDepth 100000
set_option maxHeartbeats 4000000
namespace U
open PySem PySem.Spec PyProof.Rows L2
/-! ### targets -/
inductive Tg where
  | nm (i : Nat)
  | tp (is : List Nat)
def setAll : List Nat → List D → Rho → Rho
  | i :: is, d :: ds, ρ => setAll is ds (ρ.set i (.fr d))
  | _, _, ρ => ρ
def bindT : Tg → D → Rho → Option Rho
  | .nm i, d, ρ => some (ρ.set i (.fr d))
  | .tp is, .tuple ds, ρ => if ds.length = is.length then some (setAll is ds ρ) else none
  | .tp _, _, _ => none
def Tg.slots : Tg → List Nat
  | .nm i => [i]
  | .tp is => is
theorem set_get {α : Type} (l : List α) (i j : Nat) (a : α) : (l.set i a)[j]? = if i = j ∧ j < l.length then some a else l[j]? := by
  rw [List.getElem?_set]
  by_cases e : i = j
  · subst e
    by_cases h : i < l.length
    · simp [h]
    · simp [h, List.getElem?_eq_none (Nat.not_lt.mp h)]
  · simp [e]
theorem Rel.fr {cv : Nat → Value} {ρ : Rho} {σ : L2.St} {F H : Hp} {v : V} {d : D} (r : Rel cv ρ σ F H) (i : Nat) (h : Dr F v d) : Rel cv (ρ.set i (.fr d)) (σ.set i (some v)) F H := by
  refine ⟨by simp [r.len], r.le, fun j c e => ?_, fun j k ds es p e1 e2 e3 e4 => ?_⟩
  · rw [set_get] at e ⊢
    split at e
    · rename_i hz
      cases e
      rw [if_pos ⟨hz.1, by rw [← r.len]; exact hz.2⟩]
      exact ⟨v, rfl, h⟩
    · rename_i hz
      rw [if_neg (by rw [← r.len]; exact hz)]
      exact r.cell j c e
  · rw [set_get] at e1 e2 e3 e4
    split at e1
    · cases e1; simp at e3
    · rename_i hz
      split at e2
      · cases e2; simp at e4
      · rename_i hz2
        rw [if_neg (by rw [← r.len]; exact hz)] at e3
        rw [if_neg (by rw [← r.len]; exact hz2)] at e4
        exact r.apart j k ds es p e1 e2 e3 e4
theorem Rel.all {cv : Nat → Value} : ∀ {is : List Nat} {ds : List D} {vs : List V} {ρ : Rho} {σ : L2.St} {F H : Hp}, Rel cv ρ σ F H → DrAll F vs ds → ds.length = is.length → ∃ σ', Rel cv (setAll is ds ρ) σ' F H ∧ (∀ Q, gNil [] σ' H Q → True) ∧ σ' = (is.zip vs).foldl (fun s p => s.set p.1 (some p.2)) σ
  | [], [], _, ρ, σ, F, H, r, .nil, _ => ⟨σ, r, fun _ _ => trivial, rfl⟩
  | i :: is, d :: ds, _, ρ, σ, F, H, r, .cons h hs, e => by
    obtain ⟨σ', r', _, e'⟩ := Rel.all (is := is) (r.fr i h) hs (by simpa using e)
    exact ⟨σ', r', fun _ _ => trivial, e'⟩
theorem wipe_len (σ : L2.St) (vs : List Nat) : (wipe σ vs).length = σ.length := wipe_length σ vs
theorem wipe_get (σ : L2.St) : ∀ (vs : List Nat) (j : Nat), (wipe σ vs)[j]? = if j ∈ vs ∧ j < σ.length then some none else σ[j]?
  | [], j => by simp [wipe]
  | v :: vs, j => by
    show ((wipe σ vs).set v none)[j]? = _
    rw [set_get, wipe_get σ vs j, wipe_len]
    by_cases h1 : v = j
    · subst h1
      by_cases h2 : v < σ.length <;> simp [h2]
    · have h1' : ¬ j = v := fun z => h1 z.symm
      by_cases h2 : j ∈ vs <;> by_cases h3 : j < σ.length <;> simp [h1, h1', h2, h3]
theorem wipe_set {σ : L2.St} {i : Nat} {o : Option V} {vs : List Nat} (h : i ∈ vs) : wipe (σ.set i o) vs = wipe σ vs := by
  apply List.ext_getElem?
  intro j
  rw [wipe_get, wipe_get, set_get, List.length_set]
  by_cases h1 : j ∈ vs ∧ j < σ.length
  · rw [if_pos h1, if_pos h1]
  · rw [if_neg h1, if_neg h1]
    by_cases h2 : i = j ∧ j < σ.length
    · exact absurd ⟨h2.1 ▸ h, h2.2⟩ h1
    · rw [if_neg h2]
def wipeR (ρ : Rho) : List Nat → Rho
  | [] => ρ
  | v :: vs => (wipeR ρ vs).set v .un
theorem Rel.un {cv : Nat → Value} {ρ : Rho} {σ : L2.St} {F H : Hp} (r : Rel cv ρ σ F H) (i : Nat) (o : Option V) : Rel cv (ρ.set i .un) (σ.set i o) F H := by
  refine ⟨by simp [r.len], r.le, fun j c e => ?_, fun j k ds es p e1 e2 e3 e4 => ?_⟩
  · rw [set_get] at e
    split at e
    · cases e; trivial
    · rename_i hz
      rw [set_get, if_neg (by rw [← r.len]; exact hz)]
      exact r.cell j c e
  · rw [set_get] at e1 e2 e3 e4
    split at e1
    · cases e1; simp at e3
    · rename_i hz
      split at e2
      · cases e2; simp at e4
      · rename_i hz2
        rw [if_neg (by rw [← r.len]; exact hz)] at e3
        rw [if_neg (by rw [← r.len]; exact hz2)] at e4
        exact r.apart j k ds es p e1 e2 e3 e4
theorem Rel.wipe {cv : Nat → Value} {ρ : Rho} {σ : L2.St} {F H : Hp} (r : Rel cv ρ σ F H) : ∀ vs : List Nat, Rel cv (wipeR ρ vs) (wipe σ vs) F H
  | [] => r
  | v :: vs => (Rel.wipe r vs).un v none
def rdG (cv : Nat → Value) (T : Tg) : TG := fun v σ H Q => ∃ d ρ F, Rel cv ρ σ F H ∧ Dr F v d ∧ ∃ ρ', bindT T d ρ = some ρ' ∧ ∀ σ', Rel cv ρ' σ' F H → (∀ vs, (∀ i ∈ T.slots, i ∈ vs) → wipe σ' vs = wipe σ vs) → Q σ' H
def JG (X : Cx) (cv : Nat → Value) (tg : Expr) (T : Tg) : Prop := PG X tg (rdG cv T)
def gNames : List Nat → TGs
  | [] => gNil
  | i :: is => gCons (gName i) (gNames is)
inductive Nms (X : Cx) : List Expr → List Nat → Prop
  | nil : Nms X [] []
  | cons {x : Str} {i : Nat} {p : Pos} {es : List Expr} {is : List Nat} : X.N[i]? = some x → Loc X.env.scope x → (X.fn x = true ∨ X.env.scope.names.lookup x = some .local) → Nms X es is → Nms X (.Name x p :: es) (i :: is)
section
variable {X : Cx} {cv : Nat → Value} {W : WX} {a b c tg : Expr} {es : List Expr} {ms : List Sm} {m ma mb mc : Sm} {pos p tpos : Pos}
theorem PG.imp {t t' : TG} (h : PG X tg t) (k : ∀ v σ H Q, t' v σ H Q → t v σ H Q) : PG X tg t' := ⟨fun pins s σ H v u Q I r hw => h.run pins s σ H v u Q I r (k v σ H Q hw)⟩
theorem jg_name {i : Nat} {x : Str} (hN : X.N.Nodup) (hi : X.N[i]? = some x) (hx : Loc X.env.scope x) (hf : X.fn x = true ∨ X.env.scope.names.lookup x = some .local) : JG X cv (.Name x pos) (.nm i) :=
  PG.imp (pg_name hN hi hx hf) fun v σ H Q ⟨d, ρ, F, r, hd, ρ', e, q⟩ => by
    cases e
    exact q _ (r.fr i hd) fun vs h => wipe_set (h i (by simp [Tg.slots]))
theorem Nms.pgs (hN : X.N.Nodup) : ∀ {es : List Expr} {is : List Nat}, Nms X es is → PGs X es (gNames is)
  | _, _, .nil => pgs_nil
  | _, _, .cons h1 h2 h3 h4 => pgs_cons (pg_name hN h1 h2 h3) (Nms.pgs hN h4) rfl
theorem Nms.len {env : PySem.Env} : ∀ {es : List Expr} {is : List Nat}, Nms X es is → (assignEach es env).length = is.length ∧ (assignEach es env).findIdx? (·.1) = none
  | _, _, .nil => ⟨rfl, rfl⟩
  | _, _, .cons (x := x) (p := p) (es := es) h1 h2 h3 h4 => by
    obtain ⟨e1, e2⟩ := Nms.len (env := env) h4
    refine ⟨by show (assignEach es env).length + 1 = _; rw [e1]; rfl, ?_⟩
    show ((false, assign (.Name x p) env) :: assignEach es env).findIdx? (·.1) = none
    rw [List.findIdx?_cons]
    simp [e2]
theorem gNames_ok : ∀ {is : List Nat} {ds : List D} {vs : List V} {ρ : Rho} {σ : L2.St} {F H : Hp} {Q : L2.St → Hp → Prop}, Rel cv ρ σ F H → DrAll F vs ds → ds.length = is.length → (∀ σ', Rel cv (setAll is ds ρ) σ' F H → (∀ ws, (∀ i ∈ is, i ∈ ws) → wipe σ' ws = wipe σ ws) → Q σ' H) → gNames is vs σ H Q
  | [], [], _, ρ, σ, F, H, Q, r, .nil, _, q => ⟨rfl, q σ r fun _ _ => rfl⟩
  | i :: is, d :: ds, _, ρ, σ, F, H, Q, r, .cons h hs, e, q => by
    refine ⟨_, _, rfl, ?_⟩
    refine gNames_ok (r.fr i h) hs (by simpa using e) fun σ' r' hw => q σ' r' fun ws hi => ?_
    rw [hw ws fun j hj => hi j (by simp [hj])]
    exact wipe_set (hi i (by simp))
theorem jg_tup {is : List Nat} {k : Nat} (hc : X.calm = true) (hN : X.N.Nodup) (h : Nms X es is) : JG X cv (.Tuple es k pos) (.tp is) :=
  PG.imp (pg_tup hc (h.pgs hN) (h.len (env := X.env)).1 (h.len (env := X.env)).2) fun v σ H Q ⟨d, ρ, F, r, hd, ρ', e, q⟩ => by
    cases hd with
    | tup h hs =>
      unfold bindT at e
      simp only at e
      split at e
      · rename_i hl
        cases e
        exact ⟨_, _, rfl, .inl (.inl (r.le _ _ h)), by rw [dps_len hs, hl], gNames_ok r hs hl q⟩
      · cases e
    | _ => cases e
end
/-! ### comprehensions -/
def valR : Res → Option D
  | .ok d => some d
  | .new ds => some (.list ds)
  | _ => none
@[simp] theorem valR_ok (d : D) : valR (.ok d) = some d := rfl
@[simp] theorem valR_new (d : List D) : valR (.new d) = some (.list d) := rfl
@[simp] theorem valR_exc (c : Nat) : valR (.exc c) = none := rfl
@[simp] theorem valR_bad : valR .bad = none := rfl
/-- one turn: left out, or an item -/
def turnC (ρ0 : Rho) (T : Tg) (mc : Option Sm) (me : Sm) (d : D) : Option (Option D) :=
  (bindT T d ρ0).bind fun ρ => match mc with
    | none => (valR (me ρ)).map some
    | some mc => ((valR (mc ρ)).bind truth).bind fun t => if t = true then (valR (me ρ)).map some else some none
def compGo (f : D → Option (Option D)) : List D → Option (List D)
  | [] => some []
  | d :: ds => (f d).bind fun o => (compGo f ds).map fun r => match o with
    | some x => x :: r
    | none => r
def eComp (mi : SmL) (T : Tg) (own : List Nat) (mc : Option Sm) (me : Sm) : Sm := fun ρ => (mi ρ).bind fun ds =>
  if ds.length ≤ 100000 then (match compGo (turnC (wipeR ρ own) T mc me) ds with
    | some r => .new r
    | none => .bad) else .bad
def WF : WX := fun _ _ _ _ => False
/-- the parts of a comprehension's block, in any block of it -/
def BlkE (X : Cx) (cv : Nat → Value) (scope : Scope) (e : Expr) (m : Sm) : Prop := ∀ (s : Shared) (H : Hp) (C : Addr) (cl : List (Str × Addr)) (fp : List Addr), JE (X.blk s H scope (compEnvC scope cl C X.env) fp) cv WF e m
def BlkT (X : Cx) (cv : Nat → Value) (scope : Scope) (e : Expr) (m : Sm) : Prop := ∀ (s : Shared) (H : Hp) (C : Addr) (cl : List (Str × Addr)) (fp : List Addr), JT (X.blk s H scope (compEnvC scope cl C X.env) fp) cv WF e m
def BlkG (X : Cx) (cv : Nat → Value) (scope : Scope) (tg : Expr) (T : Tg) : Prop := ∀ (s : Shared) (H : Hp) (C : Addr) (cl : List (Str × Addr)) (fp : List Addr), JG (X.blk s H scope (compEnvC scope cl C X.env) fp) cv tg T
inductive BlkC (X : Cx) (cv : Nat → Value) (scope : Scope) : List Expr → Option Sm → Prop
  | none : BlkC X cv scope [] none
  | some {e : Expr} {m : Sm} : BlkT X cv scope e m → BlkC X cv scope [e] (some m)
def rdC (cv : Nat → Value) (o : Option Sm) : TT := match o with
  | none => tYes
  | some m => rdT cv WF m
section
variable {X : Cx} {cv : Nat → Value} {W : WX} {elt tg iter : Expr} {ifs : List Expr} {scope : Scope} {own : List (Str × Nat)} {mi : SmL} {me : Sm} {mc : Option Sm} {T : Tg} {pos : Pos}
theorem BlkC.pts (h : BlkC X cv scope ifs mc) (s : Shared) (H : Hp) (C : Addr) (cl : List (Str × Addr)) (fp : List Addr) : PTs (X.blk s H scope (compEnvC scope cl C X.env) fp) ifs (rdC cv mc) := by
  cases h with
  | none => exact pts_nil
  | some h => exact pts_one (h s H C cl fp)
theorem GotE.val {F H : Hp} {σ : L2.St} {Q : VK} {r : Res} {d : D} (h : valR r = some d) (q : QD F H d Q) : GotE cv WF F H σ Q r := by
  cases r with
  | ok e => cases h; exact q
  | new e => cases h; exact q.n
  | exc c => cases h
  | bad => cases h
theorem GotT.val {F H : Hp} {σ : L2.St} {Q : Bool → Hp → Prop} {r : Res} {k : Bool} (h : (valR r).bind truth = some k) (q : ∀ F' H', Evo F H F' H' → Q k H') : GotT cv WF F H σ Q r := by
  cases r with
  | ok e => exact ⟨k, h, q⟩
  | new e => cases h; exact q
  | exc c => cases h
  | bad => cases h
theorem own_not {F H F' H' : Hp} {p : Addr} {o : HO} (e : Evo F H F' H') (hF : F p = none) (hH : H p = some o) : F' p = none := by
  cases q : F' p with
  | none => rfl
  | some u =>
    rcases e.new p u q with z | z
    · rw [hF] at z; cases z
    · rw [hH] at z; cases z
/-- the loop of a comprehension -/
theorem comp_loop {σ : L2.St} {F H : Hp} {ρ : Rho} {Q : VK} {ds r : List D} (rel : Rel cv ρ σ F H) (hz : ds.length ≤ 100000) (hT : ∀ i ∈ T.slots, i ∈ own.map (·.2)) (hg : compGo (turnC (wipeR ρ (own.map (·.2))) T mc me) ds = some r) (q : QN F H r Q) {J : It} {F1 H1 : Hp} (ev : Evo F H F1 H1) (wk : Wlk J F1 ds) {D₀ : Addr} (hD : H1 D₀ = none) :
    ∃ Wv : Nat → Nat → Hp → Prop, (∃ m, Wv 0 m (upd H1 D₀ (.lst []))) ∧ ∀ i m H, Wv i m H → (J.stop i H ∧ Q (.ref D₀) H) ∨ (J.go i H ∧ ∃ Nx : Hp → Prop, (∀ H', Nx H' → ∃ m', m' < m ∧ Wv (i + 1) m' H') ∧ ∀ x H', J.yld i H x H' →
      rdG cv T x (wipe σ (own.map (·.2))) H' fun σ2 H2 => wipe σ2 (own.map (·.2)) = wipe σ (own.map (·.2)) ∧ rdC cv mc σ2 H2 fun b H3 => if b = true then rdE cv WF me σ2 H3 fun y H4 => ∃ acc, H4 D₀ = some (.lst acc) ∧ acc.length < sizeLine ∧ Nx (upd H4 D₀ (.lst (acc ++ [y]))) else Nx H3) := by
  have hDH : H D₀ = none := none_back ev.hx hD
  let f := turnC (wipeR ρ (own.map (·.2))) T mc me
  let St : Nat → Hp → Prop := fun i H' => ∃ F' acc pre rest, Evo F H F' H' ∧ Ex F1 F' ∧ F' D₀ = none ∧ H' D₀ = some (.lst acc) ∧ DrAll F' acc pre ∧ compGo f (ds.drop i) = some rest ∧ pre ++ rest = r ∧ pre.length ≤ i
  refine ⟨fun i m H' => i ≤ ds.length ∧ m = ds.length - i ∧ St i H', ⟨ds.length, Nat.zero_le _, rfl, F1, [], [], r, ev.own hD, Evl.Ex.refl _, none_back ev.le hD, upd_same, .nil, by simpa using hg, rfl, Nat.le_refl _⟩, fun i m H' ⟨hi, hm, F', acc, pre, rest, ev', ex', hF', hH', hacc, hrest, hr, hpre⟩ => ?_⟩
  by_cases he : i = ds.length
  · subst he
    left
    rw [List.drop_length] at hrest
    cases hrest
    rw [List.append_nil] at hr
    subst hr
    exact ⟨wk.stop H' (ex'.trans ev'.le), q D₀ acc F' H' ev' hDH hF' hH' hacc⟩
  · right
    have hlt : i < ds.length := by omega
    refine ⟨wk.go i H' (ex'.trans ev'.le) hlt, fun H'' => St (i + 1) H'', fun H'' hs => ⟨ds.length - (i + 1), by omega, by omega, rfl, hs⟩, fun x H2 hy => ?_⟩
    obtain ⟨F2, d, hd, ev2, hdr⟩ := wk.yld i H' F' ex' ev'.le hlt x H2 hy
    have hdrop : ds.drop i = d :: ds.drop (i + 1) := by
      rw [List.drop_eq_getElem_cons hlt]
      have : ds[i] = d := by rw [List.getElem?_eq_getElem hlt] at hd; exact Option.some.inj hd
      rw [this]
    rw [hdrop] at hrest
    unfold compGo at hrest
    cases hfd : f d with
    | none => rw [hfd] at hrest; cases hrest
    | some o =>
      rw [hfd] at hrest
      cases hgo : compGo f (ds.drop (i + 1)) with
      | none => rw [hgo] at hrest; cases hrest
      | some r2 =>
        rw [hgo] at hrest
        have hturn : f d = some o := hfd
        simp only [f, turnC] at hturn
        cases hb : bindT T d (wipeR ρ (own.map (·.2))) with
        | none => rw [hb] at hturn; cases hturn
        | some ρ2 =>
          rw [hb] at hturn
          simp only [Option.bind_some] at hturn
          have rel2 : Rel cv (wipeR ρ (own.map (·.2))) (wipe σ (own.map (·.2))) F2 H2 := ((rel.evo ev').evo ev2).wipe _
          refine ⟨d, _, F2, rel2, hdr, ρ2, hb, fun σ2 rel3 hw => ⟨?_, ?_⟩⟩
          · rw [hw _ hT]
            apply List.ext_getElem?
            intro j
            rw [wipe_get, wipe_get, wipe_len]
            split <;> rfl
          -- an item is appended
          have add : ∀ y F3 H3, valR (me ρ2) = some y → o = some y → Evo F2 H2 F3 H3 → rdE cv WF me σ2 H3 fun y H4 => ∃ acc, H4 D₀ = some (.lst acc) ∧ acc.length < sizeLine ∧ St (i + 1) (upd H4 D₀ (.lst (acc ++ [y]))) := fun y F3 H3 hv ho ev3 => by
            refine ⟨ρ2, F3, rel3.evo ev3, GotE.val hv fun v F4 H4 ev4 hv4 => ?_⟩
            have evA : Evo F' H' F4 H4 := (ev2.trans ev3).trans ev4
            have h4 : H4 D₀ = some (.lst acc) := evA.hx _ _ hH'
            have f4 : F4 D₀ = none := own_not evA hF' hH'
            refine ⟨acc, h4, ?_, F4, acc ++ [v], pre ++ [y], r2, ?_, ex'.trans evA.ex, f4, upd_same, dps_app (dps_mono evA.ex hacc) (.cons hv4 .nil), hgo, ?_, by simp; omega⟩
            · have := dps_len hacc
              exact Evl.sz_lt (by omega)
            · have evB := ev'.trans evA
              exact ⟨evB.ex, fun a u h => by rw [upd_ne (ne_of_none h hDH)]; exact evB.hx a u h, fun a u h => by rw [upd_ne (ne_of_none h f4)]; exact evB.le a u h, evB.new⟩
            · subst ho
              have hrr : y :: r2 = rest := Option.some.inj hrest
              rw [← hr, ← hrr]; simp
          have skip : ∀ F3 H3, o = none → Evo F2 H2 F3 H3 → St (i + 1) H3 := fun F3 H3 ho ev3 => by
            have evA : Evo F' H' F3 H3 := ev2.trans ev3
            subst ho
            have hrr : r2 = rest := Option.some.inj hrest
            exact ⟨F3, acc, pre, r2, ev'.trans evA, ex'.trans evA.ex, own_not evA hF' hH', evA.hx _ _ hH', dps_mono evA.ex hacc, hgo, by rw [hrr]; exact hr, by omega⟩
          cases mc with
          | none =>
            obtain ⟨y, hv, ho⟩ := Option.map_eq_some_iff.mp hturn
            simp only [rdC, tYes, if_true]
            exact add y F2 H2 hv ho.symm (Evo.refl ev2.le)
          | some mc =>
            simp only at hturn
            cases ht : (valR (mc ρ2)).bind truth with
            | none => rw [ht] at hturn; cases hturn
            | some t =>
              rw [ht] at hturn
              refine ⟨ρ2, F2, rel3, GotT.val ht fun F3 H3 ev3 => ?_⟩
              cases t with
              | true =>
                rw [if_pos rfl]
                simp only [Option.bind_some, if_true] at hturn
                obtain ⟨y, hv, ho⟩ := Option.map_eq_some_iff.mp hturn
                exact add y F3 H3 hv ho.symm ev3
              | false =>
                rw [if_neg (by simp)]
                cases hturn
                exact skip F3 H3 rfl ev3
theorem rd_comp {σ : L2.St} {H : Hp} {Q : VK} (hT : ∀ i ∈ T.slots, i ∈ own.map (·.2)) (h : rdE cv W (eComp mi T (own.map (·.2)) mc me) σ H Q) : tLc (rdI cv W mi) (rdG cv T) (rdC cv mc) (rdE cv WF me) (own.map (·.2)) σ H Q := by
  obtain ⟨ρ, F, r, q⟩ := h
  refine ⟨ρ, F, r, ?_⟩
  unfold eComp at q
  cases h : mi ρ with
  | ok ds =>
    rw [h] at q
    simp only [ResL.bind_ok] at q
    split at q
    · rename_i hz
      cases hg : compGo (turnC (wipeR ρ (own.map (·.2))) T mc me) ds with
      | none => rw [hg] at q; exact q.elim
      | some out =>
        rw [hg] at q
        exact fun J F1 H1 ev wk D₀ hD => comp_loop r hz hT hg q ev wk hD
    · exact q.elim
  | exc c => rw [h] at q; exact q
  | bad => rw [h] at q; exact q
theorem j_comp (hc : X.calm = true) (hN : X.N.Nodup) (hi : JI X cv W tg iter mi) (ok : BlkOk X.N X.env.scope scope own) (hg : BlkG X cv scope tg T) (ht : BlkC X cv scope ifs mc) (he : BlkE X cv scope elt me) (hT : ∀ i ∈ T.slots, i ∈ own.map (·.2)) (hs : ∀ x, foldedSetIterable iter X.env x = pure x) :
    JE X cv W (.ListComp elt [⟨tg, iter, ifs, 0⟩] scope pos) (eComp mi T (own.map (·.2)) mc me) :=
  PE.imp (pe_lc hc hN hi ok hg (fun s H C cl fp => ht.pts s H C cl fp) he hs) fun σ H Q h => rd_comp hT h
end
end U
set_option Elab.async false
set_option linter.all false
set_option maxRecDepth 100000
set_option maxHeartbeats 4000000
namespace U
open PySem PySem.Spec PyProof.Rows L2
/-! ### what a statement is to do -/
inductive Fl where
  | nx (ρ : Rho)
  | rt (d : D)
  | rn (ds : List D)
  | rm (d : D) (ρ : Rho)
  | rb (k : Nat) (fs : List Fd)
  | ex (c : Nat) (ρ : Rho)
  | bad
abbrev Ss := Rho → Fl
/-- the entry of the def: what was shared, what stood, whose method it is -/
structure Bb where
  f : Hp
  h : Hp
  s : Option Addr
structure RelB (cv : Nat → Value) (B : Bb) (ρ : Rho) (σ : L2.St) (F H : Hp) : Prop where
  rel : Rel cv ρ σ F H
  evo : Evo B.1 B.2 F H
  own : ∀ (i : Nat) (c : Cell) (p : Addr), ρ[i]? = some c → p ∈ owL H σ[i]? c → B.2 p = none
  slf : ∀ (a : Addr) (k : Nat) (fs : List Fd), B.3 = some a → ρ[0]? = some (.ob k fs) → σ[0]? = some (some (.ref a))
theorem RelB.step {cv : Nat → Value} {B : Bb} {ρ : Rho} {σ : L2.St} {F H F' H' : Hp} (r : RelB cv B ρ σ F H) (e : Evo F H F' H') : RelB cv B ρ σ F' H' := ⟨r.rel.evo e, r.evo.trans e, fun i c p h1 h2 => r.own i c p h1 (by rw [← owL_ex (r.rel.cell i c h1) e.hx]; exact h2), r.slf⟩
theorem RelB.fr {cv : Nat → Value} {B : Bb} {ρ : Rho} {σ : L2.St} {F H : Hp} {v : V} {d : D} (r : RelB cv B ρ σ F H) (i : Nat) (h : Dr F v d) : RelB cv B (ρ.set i (.fr d)) (σ.set i (some v)) F H := by
  refine ⟨r.rel.fr i h, r.evo, fun j c p e1 e2 => ?_, fun a k fs h3 e1 => ?_⟩
  case refine_2 =>
    rw [set_get] at e1 ⊢
    split at e1
    · cases e1
    · rename_i hz
      rw [if_neg (by rw [← r.rel.len]; exact hz)]
      exact r.slf a k fs h3 e1
  rw [set_get] at e1 e2
  split at e1
  · cases e1; simp at e2
  · rename_i hz
    rw [if_neg (by rw [← r.rel.len]; exact hz)] at e2
    exact r.own j c p e1 e2
/-- a cell of its own is put into a slot: what it owns is owned by nobody else -/
theorem RelB.put {cv : Nat → Value} {B : Bb} {ρ : Rho} {σ : L2.St} {F H : Hp} {v : V} {c0 : Cell} (r : RelB cv B ρ σ F H) (i : Nat) (hc : CellOk cv F H (some (some v)) c0) (hB : ∀ p ∈ owL H (some (some v)) c0, B.2 p = none) (hn : ∀ (j : Nat) c, ρ[j]? = some c → j ≠ i → ∀ p ∈ owL H (some (some v)) c0, p ∉ owL H σ[j]? c) (hz : i ≠ 0 ∨ ∀ k fs, c0 ≠ .ob k fs) : RelB cv B (ρ.set i c0) (σ.set i (some v)) F H := by
  refine ⟨⟨by simp [r.rel.len], r.rel.le, fun j c e => ?_, fun j k c c' q e1 e2 e3 e4 => ?_⟩, r.evo, fun j c p e1 e2 => ?_, fun a k fs h3 e1 => ?_⟩
  case refine_4 =>
    rw [set_get] at e1 ⊢
    split at e1
    · rename_i hy
      cases e1
      rcases hz with z | z
      · exact absurd hy.1 z
      · exact absurd rfl (z k fs)
    · rename_i hy
      rw [if_neg (by rw [← r.rel.len]; exact hy)]
      exact r.slf a k fs h3 e1
  · rw [set_get] at e ⊢
    split at e
    · rename_i hz
      cases e
      rw [if_pos ⟨hz.1, by rw [← r.rel.len]; exact hz.2⟩]
      exact hc
    · rename_i hz
      rw [if_neg (by rw [← r.rel.len]; exact hz)]
      exact r.rel.cell j c e
  · rw [set_get] at e1 e2 e3 e4
    split at e1
    · rename_i hz
      rw [if_pos ⟨hz.1, by rw [← r.rel.len]; exact hz.2⟩] at e3
      cases e1
      split at e2
      · rename_i hz2
        exact hz.1.symm.trans hz2.1
      · rename_i hz2
        rw [if_neg (by rw [← r.rel.len]; exact hz2)] at e4
        by_cases hk : k = i
        · rw [hk]; exact hz.1.symm
        · exact absurd e4 (hn k c' e2 hk q e3)
    · rename_i hz
      rw [if_neg (by rw [← r.rel.len]; exact hz)] at e3
      split at e2
      · rename_i hz2
        rw [if_pos ⟨hz2.1, by rw [← r.rel.len]; exact hz2.2⟩] at e4
        cases e2
        by_cases hk : j = i
        · rw [hk]; exact hz2.1
        · exact absurd e3 (hn j c e1 hk q e4)
      · rename_i hz2
        rw [if_neg (by rw [← r.rel.len]; exact hz2)] at e4
        exact r.rel.apart j k c c' q e1 e2 e3 e4
  · rw [set_get] at e1 e2
    split at e1
    · rename_i hz
      rw [if_pos ⟨hz.1, by rw [← r.rel.len]; exact hz.2⟩] at e2
      cases e1
      exact hB p e2
    · rename_i hz
      rw [if_neg (by rw [← r.rel.len]; exact hz)] at e2
      exact r.own j c p e1 e2
/-- a new list is put into a slot -/
theorem RelB.ow {cv : Nat → Value} {B : Bb} {ρ : Rho} {σ : L2.St} {F H : Hp} {p : Addr} {xs : List V} {ds : List D} (r : RelB cv B ρ σ F H) (i : Nat) (hF : F p = none) (hH : H p = some (.lst xs)) (hB : B.2 p = none) (hd : DrAll F xs ds) (hn : ∀ (j : Nat) c, ρ[j]? = some c → j ≠ i → p ∉ owL H σ[j]? c) : RelB cv B (ρ.set i (.ow ds)) (σ.set i (some (.ref p))) F H :=
  r.put i ⟨p, xs, rfl, hH, hF, hd⟩ (fun q hq => by rw [owL_ow] at hq; rw [List.mem_singleton.mp hq]; exact hB) (fun j c e hj q hq => by rw [owL_ow] at hq; rw [List.mem_singleton.mp hq]; exact hn j c e hj) (.inr fun _ _ e => by cases e)
/-- what was not there before is owned by nobody -/
theorem new_apart {cv : Nat → Value} {B : Bb} {ρ : Rho} {σ : L2.St} {F H F' H' : Hp} {p : Addr} (r : RelB cv B ρ σ F H) (hp : H p = none) (ev : Evo F H F' H') (j : Nat) (c : Cell) (h : ρ[j]? = some c) : p ∉ owL H' σ[j]? c := fun e => by
  rw [owL_ex (r.rel.cell j c h) ev.hx] at e
  obtain ⟨_, o, z⟩ := owL_at (r.rel.cell j c h) e
  rw [hp] at z; cases z
/-- a list that is given away is shared from now on -/
def frz1 (ρ : Rho) (i : Nat) : Rho := match ρ[i]? with
  | some (.ow ds) => ρ.set i (.fr (.list ds))
  | _ => ρ
def frz (ρ : Rho) (lk : List Nat) : Rho := lk.foldl frz1 ρ
theorem RelB.frz1 {cv : Nat → Value} {B : Bb} {ρ : Rho} {σ : L2.St} {F H : Hp} (r : RelB cv B ρ σ F H) (i : Nat) : ∃ F', RelB cv B (frz1 ρ i) σ F' H := by
  unfold U.frz1
  cases h : ρ[i]? with
  | none => exact ⟨F, r⟩
  | some c =>
    cases c with
    | un => exact ⟨F, r⟩
    | fr d => exact ⟨F, r⟩
    | ob k fs => exact ⟨F, r⟩
    | ro k fs => exact ⟨F, r⟩
    | ow ds =>
      obtain ⟨p, xs, e1, e2, e3, e4⟩ := r.rel.cell i _ h
      have hi : i < ρ.length := (List.getElem?_eq_some_iff.mp h).1
      have hpi : p ∈ owL H σ[i]? (.ow ds) := by rw [e1]; simp
      have hB := r.own i _ p h hpi
      have ex : Ex F (upd F p (.lst xs)) := Evl.Ex.new e3
      have le : Ex (upd F p (.lst xs)) H := fun a u q => by
        by_cases ha : a = p
        · subst ha; rw [upd_same] at q; cases q; exact e2
        · rw [upd_ne ha] at q; exact r.rel.le a u q
      refine ⟨upd F p (.lst xs), ⟨⟨by simp [r.rel.len], le, fun j c e => ?_, fun j k c c' q e1' e2' e3' e4' => ?_⟩, ⟨r.evo.ex.trans ex, r.evo.hx, le, fun a u q => ?_⟩, fun j c q e1' e2' => ?_, fun a k fs h3 e1' => ?_⟩⟩
      case refine_5 =>
        rw [set_get] at e1'
        split at e1'
        · cases e1'
        · exact r.slf a k fs h3 e1'
      · rw [set_get] at e
        split at e
        · rename_i hz
          cases e
          rw [← hz.1]
          exact ⟨.ref p, e1, .lst (Rd.of upd_same) (dps_mono ex e4)⟩
        · rename_i hz
          have hne : ¬ i = j := fun z => hz ⟨z, z ▸ hi⟩
          have hc := r.rel.cell j c e
          have np : p ∉ owL H σ[j]? c := fun z => hne (r.rel.apart i j _ c p h e hpi z)
          exact hc.shr ex le (fun q hq hF => by
            by_cases ha : q = p
            · subst ha; exact absurd hq np
            · rw [upd_ne ha]; exact hF)
      · rw [set_get] at e1' e2'
        split at e1'
        · cases e1'; simp at e3'
        · split at e2'
          · cases e2'; simp at e4'
          · exact r.rel.apart j k c c' q e1' e2' e3' e4'
      · by_cases ha : a = p
        · subst ha; exact .inr hB
        · rw [upd_ne ha] at q; exact r.evo.new a u q
      · rw [set_get] at e1'
        split at e1'
        · cases e1'; simp at e2'
        · exact r.own j c q e1' e2'
theorem RelB.frz {cv : Nat → Value} {B : Bb} {σ : L2.St} {H : Hp} : ∀ {lk : List Nat} {ρ : Rho} {F : Hp}, RelB cv B ρ σ F H → ∃ F', RelB cv B (frz ρ lk) σ F' H
  | [], ρ, F, r => ⟨F, r⟩
  | i :: lk, ρ, F, r => by
    obtain ⟨F1, r1⟩ := r.frz1 i
    exact RelB.frz (lk := lk) r1
def GotF (cv : Nat → Value) (W : WX) (B : Bb) (Dn : Ends) : Fl → Prop
  | .nx ρ => ∀ σ F H, RelB cv B ρ σ F H → Dn.nx σ H
  | .rt d => ∀ v F H, Evo B.1 B.2 F H → Dr F v d → Dn.rt v H
  | .rn ds => ∀ p xs F H, Evo B.1 B.2 F H → B.2 p = none → F p = none → H p = some (.lst xs) → DrAll F xs ds → Dn.rt (.ref p) H
  | .rm d ρ => ∀ v σ F H, RelB cv B ρ σ F H → Dr F v d → Dn.rt v H
  | .rb k fs => ∀ a C dx vs F H, cv k = .ref C → Evo B.1 B.2 F H → B.2 a = none → H a = some (.ins C dx ((flN k).zip vs)) → F a = none → vs.length = (flN k).length → FdsOk F H vs fs → (ownV vs fs).Nodup → (∀ p ∈ ownV vs fs, B.2 p = none) → Dn.rt (.ref a) H
  | .ex c ρ => ∀ σ F H, RelB cv B ρ σ F H → W (cv c) none σ H
  | .bad => False
def rdF (cv : Nat → Value) (W : WX) (B : Bb) (m : Ss) : TS := fun Dn σ H => ∃ ρ F, RelB cv B ρ σ F H ∧ GotF cv W B Dn (m ρ)
def JF (X : Cx) (cv : Nat → Value) (W : WX) (st : Stmt) (m : Ss) : Prop := ∀ B, PS X st (rdF cv W B m)
def JFs (X : Cx) (cv : Nat → Value) (W : WX) (st : List Stmt) (m : Ss) : Prop := ∀ B, PSs X st (rdF cv W B m)
/-- what an expression's end is for a statement that freezes lk first -/
def Res.fl (r : Res) (ρ : Rho) (k : D → Fl) (kn : List D → Fl) : Fl := match r with
  | .ok d => k d
  | .new ds => kn ds
  | .exc c => .ex c ρ
  | .bad => .bad
@[simp] theorem Res.fl_ok (d : D) (ρ : Rho) (k : D → Fl) (kn : List D → Fl) : (Res.ok d).fl ρ k kn = k d := rfl
@[simp] theorem Res.fl_new (d : List D) (ρ : Rho) (k : D → Fl) (kn : List D → Fl) : (Res.new d).fl ρ k kn = kn d := rfl
@[simp] theorem Res.fl_exc (c : Nat) (ρ : Rho) (k : D → Fl) (kn : List D → Fl) : (Res.exc c).fl ρ k kn = .ex c ρ := rfl
@[simp] theorem Res.fl_bad (ρ : Rho) (k : D → Fl) (kn : List D → Fl) : Res.bad.fl ρ k kn = .bad := rfl
def Fl.bind (f : Fl) (k : Ss) : Fl := match f with
  | .nx ρ => k ρ
  | f => f
@[simp] theorem Fl.bind_nx (ρ : Rho) (k : Ss) : (Fl.nx ρ).bind k = k ρ := rfl
@[simp] theorem Fl.bind_rt (d : D) (k : Ss) : (Fl.rt d).bind k = .rt d := rfl
@[simp] theorem Fl.bind_rn (d : List D) (k : Ss) : (Fl.rn d).bind k = .rn d := rfl
@[simp] theorem Fl.bind_rm (d : D) (ρ : Rho) (k : Ss) : (Fl.rm d ρ).bind k = .rm d ρ := rfl
@[simp] theorem Fl.bind_rb (n : Nat) (fs : List Fd) (k : Ss) : (Fl.rb n fs).bind k = .rb n fs := rfl
@[simp] theorem Fl.bind_ex (c : Nat) (ρ : Rho) (k : Ss) : (Fl.ex c ρ).bind k = .ex c ρ := rfl
@[simp] theorem Fl.bind_bad (k : Ss) : Fl.bad.bind k = .bad := rfl
def sSet (i : Nat) (lk : List Nat) (m : Sm) : Ss := fun ρ0 => let ρ := frz ρ0 lk
  (m ρ).fl ρ (fun d => .nx (ρ.set i (.fr d))) (fun ds => .nx (ρ.set i (.ow ds)))
def sTup (is : List Nat) (lk : List Nat) (m : Sm) : Ss := fun ρ0 => let ρ := frz ρ0 lk
  (m ρ).fl ρ (fun d => match bindT (.tp is) d ρ with | some ρ' => .nx ρ' | none => .bad) (fun _ => .bad)
def sRet (lk : List Nat) (m : Sm) : Ss := fun ρ0 => let ρ := frz ρ0 lk
  (m ρ).fl ρ .rt .rn
/-- return x, x a list of its own -/
def sRetV (i : Nat) : Ss := fun ρ => match ρ[i]? with
  | some (.fr d) => .rt d
  | some (.ow ds) => .rn ds
  | _ => .bad
def sExpr (lk : List Nat) (m : Sm) : Ss := fun ρ0 => let ρ := frz ρ0 lk
  (m ρ).fl ρ (fun _ => .nx ρ) (fun _ => .nx ρ)
def sSeq (a b : Ss) : Ss := fun ρ => (a ρ).bind b
def ifF (o : Option Bool) (a b : Fl) : Fl := match o with
  | some true => a
  | some false => b
  | none => .bad
@[simp] theorem ifF_t (a b : Fl) : ifF (some true) a b = a := rfl
@[simp] theorem ifF_f (a b : Fl) : ifF (some false) a b = b := rfl
@[simp] theorem ifF_n (a b : Fl) : ifF none a b = .bad := rfl
def sIf (lk : List Nat) (mc : Sm) (a b : Ss) : Ss := fun ρ0 => let ρ := frz ρ0 lk
  (mc ρ).fl ρ (fun d => ifF (truth d) (a ρ) (b ρ)) (fun ds => if ds.isEmpty then b ρ else a ρ)
section
variable {X : Cx} {cv : Nat → Value} {W : WX} {e c tg : Expr} {st : Stmt} {rest : List Stmt} {m mc : Sm} {a b : Ss} {lk : List Nat} {pos p : Pos}
theorem PS.imp {t t' : TS} (h : PS X st t) (k : ∀ D σ H, t' D σ H → t D σ H) : PS X st t' := ⟨fun pins s σ H D I hw => h.run pins s σ H D I (k D σ H hw)⟩
theorem PSs.imp {t t' : TS} (h : PSs X rest t) (k : ∀ D σ H, t' D σ H → t D σ H) : PSs X rest t' := ⟨fun pins s σ H D I hw => h.run pins s σ H D I (k D σ H hw)⟩
/-- an expression within a statement -/
theorem rd_st {B : Bb} {Dn : Ends} {ρ : Rho} {σ : L2.St} {F H : Hp} {k : D → Fl} {kn : List D → Fl} {Q : VK} (r : RelB cv B ρ σ F H) (q : GotF cv W B Dn ((m ρ).fl ρ k kn)) (hk : ∀ d v F' H', Evo F H F' H' → Dr F' v d → GotF cv W B Dn (k d) → Q v H')
    (hn : ∀ ds p xs F' H', Evo F H F' H' → H p = none → F' p = none → H' p = some (.lst xs) → DrAll F' xs ds → GotF cv W B Dn (kn ds) → Q (.ref p) H') : rdE cv W m σ H Q := by
  refine ⟨ρ, F, r.rel, ?_⟩
  cases h : m ρ with
  | ok d => rw [h] at q; exact fun v F1 H1 ev hd => hk d v F1 H1 ev hd q
  | new ds => rw [h] at q; exact fun p xs F1 H1 ev h1 h2 h3 h4 => hn ds p xs F1 H1 ev h1 h2 h3 h4 q
  | exc c => rw [h] at q; exact fun F1 H1 ev => q σ F1 H1 (r.step ev)
  | bad => rw [h] at q; exact q
theorem js_set {i : Nat} {x : Str} (hN : X.N.Nodup) (hi : X.N[i]? = some x) (hx : Loc X.env.scope x) (he : JE X cv W e m) (hs : swapsWith e (some (.Name x p)) pos.line X.env = pure false) (hf : X.fn x = true ∨ X.env.scope.names.lookup x = some .local) : JF X cv W (.Assign [.Name x p] e pos) (sSet i lk m) := fun B =>
  PS.imp (ps_set hN hi hx he hs hf) fun Dn σ H ⟨ρ0, F0, r0, q⟩ => by
    obtain ⟨F, r⟩ := RelB.frz (lk := lk) r0
    refine rd_st r q (fun d v F1 H1 ev hd q => q _ F1 H1 ((r.step ev).fr i hd)) fun ds p xs F1 H1 ev h1 h2 h3 h4 q => q _ F1 H1 ((r.step ev).ow i h2 h3 (none_back r.evo.hx h1) h4 fun j es e _ => new_apart r h1 ev j es e)
theorem js_tup {is : List Nat} {es : List Expr} {k : Nat} (hc : X.calm = true) (hN : X.N.Nodup) (hes : Nms X es is) (he : JE X cv W e m) (hs : swapsWithSole [.Tuple es k p] e pos.line X.env = pure false) (hw : swappedStores [.Tuple es k p] e X.env = pure none) : JF X cv W (.Assign [.Tuple es k p] e pos) (sTup is lk m) := fun B =>
  PS.imp (ps_asg he (pg_tup hc (hes.pgs hN) (hes.len (env := X.env)).1 (hes.len (env := X.env)).2) hs hw rfl) fun Dn σ H ⟨ρ0, F0, r0, q⟩ => by
    obtain ⟨F, r⟩ := RelB.frz (lk := lk) r0
    refine rd_st r q (fun d v F1 H1 ev hd q => ?_) fun ds p xs F1 H1 ev h1 h2 h3 h4 q => q.elim
    cases hd with
    | tup h hs =>
      unfold bindT at q
      simp only at q
      split at q
      · rename_i ρ' e
        split at e
        · rename_i hl
          cases e
          refine ⟨_, _, rfl, .inl (.inl (ev.le _ _ h)), by rw [dps_len hs, hl], ?_⟩
          -- one by one
          have go : ∀ (is : List Nat) (ds : List D) (vs : List V) (ρ : Rho) (σ : L2.St), RelB cv B ρ σ F1 H1 → DrAll F1 vs ds → ds.length = is.length → (∀ σ', RelB cv B (setAll is ds ρ) σ' F1 H1 → Dn.nx σ' H1) → gNames is vs σ H1 Dn.nx := by
            intro is
            induction is with
            | nil =>
              intro ds vs ρ σ r hd hl k
              cases hd with
              | nil => exact ⟨rfl, k σ r⟩
              | cons _ _ => simp at hl
            | cons i is ih =>
              intro ds vs ρ σ r hd hl k
              cases hd with
              | nil => simp at hl
              | cons h hs => exact ⟨_, _, rfl, ih _ _ _ _ (r.fr i h) hs (by simpa using hl) k⟩
          exact go _ _ _ _ _ (r.step ev) hs hl fun σ' r' => q σ' F1 H1 r'
        · cases e
      · exact q.elim
    | _ => exact q.elim
theorem js_ret (he : JE X cv W e m) : JF X cv W (.Return (some e) pos) (sRet lk m) := fun B =>
  PS.imp (ps_ret he) fun Dn σ H ⟨ρ0, F0, r0, q⟩ => by
    obtain ⟨F, r⟩ := RelB.frz (lk := lk) r0
    exact rd_st r q (fun d v F1 H1 ev hd q => q v F1 H1 (r.evo.trans ev) hd) fun ds p xs F1 H1 ev h1 h2 h3 h4 q => q p xs F1 H1 (r.evo.trans ev) (none_back r.evo.hx h1) h2 h3 h4
theorem js_retV {i : Nat} {x : Str} (hN : X.N[i]? = some x) (hv : Vis X.env.scope x) (hd : (x == ("__debug__" : Str)) = false) (hcd : (x == ("__classdict__" : Str)) = false) : JF X cv W (.Return (some (.Name x p)) pos) (sRetV i) := fun B =>
  PS.imp (ps_ret (pe_var hN hv hd hcd)) fun Dn σ H ⟨ρ, F, r, q⟩ => by
    unfold sRetV at q
    cases h : ρ[i]? with
    | none => rw [h] at q; exact q.elim
    | some c =>
      rw [h] at q
      cases c with
      | un => exact q.elim
      | fr d =>
        obtain ⟨v, e1, e2⟩ := r.rel.cell i _ h
        exact ⟨v, e1, q v F H r.evo e2⟩
      | ob k fs => exact q.elim
      | ro k fs => exact q.elim
      | ow ds =>
        obtain ⟨p, xs, e1, e2, e3, e4⟩ := r.rel.cell i _ h
        exact ⟨_, e1, q p xs F H r.evo (r.own i _ p h (by rw [e1]; simp)) e3 e2 e4⟩
theorem js_retN : JF X cv W (.Return none pos) (fun _ => .rt .none) := fun B =>
  PS.imp ps_retN fun Dn σ H ⟨ρ, F, r, q⟩ => q .non F H r.evo .non
theorem js_expr (he : JE X cv W e m) (hs : swapsWith e none pos.line X.env = pure false) : JF X cv W (.Expr e pos) (sExpr lk m) := fun B =>
  PS.imp (ps_expr he hs) fun Dn σ H ⟨ρ0, F0, r0, q⟩ => by
    obtain ⟨F, r⟩ := RelB.frz (lk := lk) r0
    exact rd_st r q (fun d v F1 H1 ev hd q => q σ F1 H1 (r.step ev)) fun ds p xs F1 H1 ev h1 h2 h3 h4 q => q σ F1 H1 (r.step ev)
theorem js_pass : JF X cv W (.Pass pos) .nx := fun B => PS.imp ps_pass fun Dn σ H ⟨ρ, F, r, q⟩ => q σ F H r
theorem jss_nil : JFs X cv W [] .nx := fun B => PSs.imp pss_nil fun Dn σ H ⟨ρ, F, r, q⟩ => q σ F H r
theorem jss_cons (ha : JF X cv W st a) (hb : JFs X cv W rest b) : JFs X cv W (st :: rest) (sSeq a b) := fun B =>
  PSs.imp (pss_cons (ha B) (hb B)) fun Dn σ H ⟨ρ, F, r, q⟩ => by
    refine ⟨ρ, F, r, ?_⟩
    unfold sSeq at q
    cases h : a ρ with
    | nx ρ' => rw [h] at q; exact fun σ' F' H' r' => ⟨ρ', F', r', q⟩
    | rt d => rw [h] at q; exact q
    | rn d => rw [h] at q; exact q
    | rm d ρ' => rw [h] at q; exact q
    | rb k fs => rw [h] at q; exact q
    | ex c ρ' => rw [h] at q; exact q
    | bad => rw [h] at q; exact q
theorem jss_one (ha : JF X cv W st a) : JFs X cv W [st] a := fun B => pss_one (ha B)
theorem js_if {sa sb : List Stmt} (hc : JT X cv W c mc) (ha : JFs X cv W sa a) (hb : JFs X cv W sb b) : JF X cv W (.If c sa sb pos) (sIf lk mc a b) := fun B =>
  PS.imp (ps_if hc (ha B) (hb B)) fun Dn σ H ⟨ρ0, F0, r0, q⟩ => by
    obtain ⟨F, r⟩ := RelB.frz (lk := lk) r0
    refine ⟨frz ρ0 lk, F, r.rel, ?_⟩
    unfold sIf at q
    simp only at q
    cases h : mc (frz ρ0 lk) with
    | ok d =>
      rw [h] at q
      simp only [Res.fl_ok] at q
      cases hk : truth d with
      | none => rw [hk] at q; exact q.elim
      | some k =>
        rw [hk] at q
        refine ⟨k, hk, fun F1 H1 ev => ?_⟩
        cases k with
        | true => exact ⟨_, F1, r.step ev, q⟩
        | false => exact ⟨_, F1, r.step ev, q⟩
    | new ds =>
      rw [h] at q
      simp only [Res.fl_new] at q
      intro F1 H1 ev
      cases he : ds.isEmpty with
      | true => rw [he] at q; exact ⟨_, F1, r.step ev, q⟩
      | false => rw [he] at q; exact ⟨_, F1, r.step ev, q⟩
    | exc c => rw [h] at q; exact fun F1 H1 ev => q σ F1 H1 (r.step ev)
    | bad => rw [h] at q; exact q
end
end U
set_option Elab.async false
set_option linter.all false
set_option maxRecDepth 100000
set_option maxHeartbeats 4000000
namespace U
open PySem PySem.Spec PyProof.Rows L2
/-! ### lists that are changed -/
def sApp (i : Nat) (lk : List Nat) (m : Sm) : Ss := fun ρ0 => let ρ := frz ρ0 lk
  match ρ[i]? with
  | some (.ow ds) => if ds.length < 100000 then (m ρ).fl ρ (fun d => .nx (ρ.set i (.ow (ds ++ [d])))) (fun es => .nx (ρ.set i (.ow (ds ++ [.list es])))) else .bad
  | _ => .bad
def sExt (i : Nat) (lk : List Nat) (m : Sm) : Ss := fun ρ0 => let ρ := frz ρ0 lk
  match ρ[i]? with
  | some (.ow ds) => (m ρ).fl ρ (fun _ => .bad) (fun es => if ds.length + es.length ≤ 100000 then .nx (ρ.set i (.ow (ds ++ es))) else .bad)
  | _ => .bad
/-- x[i] = e -/
def sItem (i : Nat) (lk : List Nat) (mi m : Sm) : Ss := fun ρ0 => let ρ := frz ρ0 lk
  match ρ[i]? with
  | some (.ow ds) => (m ρ).fl ρ (fun d => (mi ρ).fl ρ (fun k => match k with
      | .int k => (match ixN ds.length k with
        | some j => .nx (ρ.set i (.ow (ds.set j d)))
        | none => .bad)
      | _ => .bad) (fun _ => .bad)) (fun _ => .bad)
  | _ => .bad
/-- an owned list is changed: the other cells stand -/
theorem FdsOk.mut {F H : Hp} {p : Addr} {ys : List V} : ∀ {vs : List V} {fs : List Fd}, FdsOk F H vs fs → p ∉ ownV vs fs → FdsOk F (upd H p (.lst ys)) vs fs
  | _, _, .nil, _ => .nil
  | v :: vs, .fr d :: fs, .cons h hs, n => .cons h (FdsOk.mut hs fun z => n (by cases v <;> exact z))
  | v :: vs, .ow ds :: fs, .cons ⟨q, xs, e, h2, h3, h4⟩ hs, n => by
    subst e
    have hne : q ≠ p := fun z => n (by rw [← z]; exact List.mem_cons_self)
    exact .cons ⟨q, xs, rfl, by rw [upd_ne hne]; exact h2, h3, h4⟩ (FdsOk.mut hs fun z => n (List.mem_cons_of_mem _ z))
theorem CellOk.mut {cv : Nat → Value} {F H : Hp} {p : Addr} {ys xs : List V} {ov : Option (Option V)} {c : Cell} (h : CellOk cv F H ov c) (hl : H p = some (.lst xs)) (hF : F p = none) (n : p ∉ owL H ov c) : CellOk cv F (upd H p (.lst ys)) ov c := by
  cases c with
  | un => trivial
  | fr d => exact h
  | ow ds =>
    obtain ⟨q, zs, h1, h2, h3, h4⟩ := h
    have hne : q ≠ p := fun z => n (by rw [h1, ← z]; simp)
    exact ⟨q, zs, h1, by rw [upd_ne hne]; exact h2, h3, h4⟩
  | ob z fs =>
    obtain ⟨a, C, dx, vs, h1, h2, h3, h4, hl', h5, h6⟩ := h
    subst h1
    rw [owL_ob h3 hl'] at n
    have hne : a ≠ p := fun z => n (by rw [← z]; exact List.mem_cons_self)
    exact ⟨a, C, dx, vs, rfl, h2, by rw [upd_ne hne]; exact h3, h4, hl', h5.mut fun z => n (List.mem_cons_of_mem _ z), h6⟩
  | ro z fs => exact h
theorem owL_mut {cv : Nat → Value} {F H : Hp} {p : Addr} {ys xs : List V} {ov : Option (Option V)} {c : Cell} (h : CellOk cv F H ov c) (hl : H p = some (.lst xs)) : owL (upd H p (.lst ys)) ov c = owL H ov c := by
  cases c with
  | ob z fs =>
    obtain ⟨a, C, dx, vs, h1, h2, h3, h4, hl', h5, h6⟩ := h
    subst h1
    have hne : a ≠ p := fun z => by rw [z, hl] at h3; cases h3
    rw [owL_ob h3 hl', owL_ob (by rw [upd_ne hne]; exact h3) hl']
  | ow ds => obtain ⟨q, zs, rfl, _⟩ := h; rfl
  | _ => rfl
theorem RelB.mut {cv : Nat → Value} {B : Bb} {ρ : Rho} {σ : L2.St} {F H : Hp} {i : Nat} {p : Addr} {xs ys : List V} {ds es : List D} (r : RelB cv B ρ σ F H) (h : ρ[i]? = some (.ow ds)) (hp : σ[i]? = some (some (.ref p))) (hd : DrAll F ys es) : RelB cv B (ρ.set i (.ow es)) σ F (upd H p (.lst ys)) := by
  obtain ⟨p', xs', e1, e2, e3, e4⟩ := r.rel.cell i _ h
  rw [hp] at e1; cases e1
  have hpi : p ∈ owL H σ[i]? (.ow ds) := by rw [hp]; simp
  have hB := r.own i _ p h hpi
  have hi : i < ρ.length := (List.getElem?_eq_some_iff.mp h).1
  have neF : ∀ a u, F a = some u → a ≠ p := fun a u q z => by subst z; rw [e3] at q; cases q
  refine ⟨⟨by simp [r.rel.len], fun a u q => by rw [upd_ne (neF a u q)]; exact r.rel.le a u q, fun j c e => ?_, fun j k c c' q e1 e2b e3' e4' => ?_⟩, ⟨r.evo.ex, fun a u q => ?_, fun a u q => by rw [upd_ne (neF a u q)]; exact r.evo.le a u q, r.evo.new⟩, fun j c q e1 e2' => ?_, fun a k fs h3 e1 => ?_⟩
  case refine_5 =>
    rw [set_get] at e1
    split at e1
    · cases e1
    · exact r.slf a k fs h3 e1
  · rw [set_get] at e
    split at e
    · rename_i hz
      cases e
      rw [← hz.1]
      exact ⟨p, ys, hp, upd_same, e3, hd⟩
    · rename_i hz
      have hne : ¬ i = j := fun z => hz ⟨z, z ▸ hi⟩
      exact (r.rel.cell j c e).mut e2 e3 fun z => hne (r.rel.apart i j _ c p h e hpi z)
  · have back : ∀ j c q, (ρ.set i (.ow es))[j]? = some c → q ∈ owL (upd H p (.lst ys)) σ[j]? c → ∃ c0, ρ[j]? = some c0 ∧ q ∈ owL H σ[j]? c0 := fun j c q e m => by
      rw [set_get] at e
      split at e
      · rename_i hz
        cases e
        rw [← hz.1] at m ⊢
        exact ⟨_, h, by rw [hp] at m ⊢; exact m⟩
      · exact ⟨c, e, by rw [← owL_mut (ys := ys) (r.rel.cell j c e) e2]; exact m⟩
    obtain ⟨c1, f1, f2⟩ := back j c q e1 e3'
    obtain ⟨c2, g1, g2⟩ := back k c' q e2b e4'
    exact r.rel.apart j k c1 c2 q f1 g1 f2 g2
  · have : a ≠ p := fun z => by subst z; rw [hB] at q; cases q
    rw [upd_ne this]; exact r.evo.hx a u q
  · rw [set_get] at e1
    split at e1
    · rename_i hz
      cases e1
      rw [← hz.1, hp] at e2'
      simp at e2'
      subst e2'
      exact hB
    · exact r.own j c q e1 (by rw [← owL_mut (ys := ys) (r.rel.cell j c e1) e2]; exact e2')
theorem DrAll.off {F H : Hp} {p : Addr} {o : HO} : ∀ {xs : List V} {ds : List D}, DrAll F xs ds → Ex F H → F p = none → DrAll H xs ds := fun h e _ => dps_mono e h
section
variable {X : Cx} {cv : Nat → Value} {W : WX} {e c tg : Expr} {st : Stmt} {rest : List Stmt} {m mi mc : Sm} {a b : Ss} {lk : List Nat} {pos p apos cpos : Pos}
/-- the slot of an own list -/
theorem own_at {cv : Nat → Value} {B : Bb} {ρ : Rho} {σ : L2.St} {F H F' H' : Hp} {i : Nat} {ds : List D} (r : RelB cv B ρ σ F H) (h : ρ[i]? = some (.ow ds)) (ev : Evo F H F' H') : ∃ q xs, σ[i]? = some (some (.ref q)) ∧ H q = some (.lst xs) ∧ H' q = some (.lst xs) ∧ F' q = none ∧ DrAll F' xs ds := by
  obtain ⟨q, xs, e1, e2, e3, e4⟩ := r.rel.cell i _ h
  exact ⟨q, xs, e1, e2, ev.hx _ _ e2, own_not ev e3 e2, dps_mono ev.ex e4⟩
theorem hfew_one {cpos : Pos} {env : PySem.Env} {e : Expr} (h : notStar e = true) : ((backTo cpos (starEach [e] env)).all (fun x => !x.1) && (backToKw cpos (keywordEach [] env)).all (fun x => x.1.isSome)
      && decide ([e].length + ([] : List Keyword).length + (if ([] : List Keyword).isEmpty then 0 else 1) < 30)) = true := by
  rw [star_cons h]; rfl
theorem js_app {i : Nat} {x : Str} (hN : X.N[i]? = some x) (hv : Vis X.env.scope x) (hd : (x == ("__debug__" : Str)) = false) (hcd : (x == ("__classdict__" : Str)) = false) (he : JE X cv W e m) (h1 : notStar e = true) (hl : (apos.endLine == cpos.line) = true) :
    JF X cv W (.Expr (.Call (.Attribute (.Name x p) "append" apos) [e] [] cpos) pos) (sApp i lk m) := fun B =>
  PS.imp (ps_expr (pe_bm PySem.F.plainAttrs_list PySem.F.slot_list_append PySem.F.type_list_append mt_append (pe_var hN hv hd hcd) (pa_cons he.s pa_nil (star_cons h1)) rfl (hfew_one h1) hl (star_cons h1) rfl) rfl) fun Dn σ H ⟨ρ0, F0, r0, q⟩ => by
    obtain ⟨F, r⟩ := RelB.frz (lk := lk) r0
    unfold sApp at q
    simp only at q
    cases h : (frz ρ0 lk)[i]? with
    | none => rw [h] at q; exact q.elim
    | some c =>
      rw [h] at q
      cases c with
      | un => exact q.elim
      | fr d => exact q.elim
      | ob k fs => exact q.elim
      | ro k fs => exact q.elim
      | ow ds =>
        obtain ⟨q0, xs0, s0, s1, _, _, _⟩ := own_at r h (Evo.refl r.rel.le)
        simp only at q
        split at q
        · rename_i hz
          refine ⟨_, s0, .inl ⟨rfl, xs0, SqL.of s1⟩, frz ρ0 lk, F, r.rel, ?_⟩
          have go : ∀ d, GotF cv W B Dn (.nx ((frz ρ0 lk).set i (.ow (ds ++ [d])))) → QD F H d fun v H1 => rAppend (.ref q0) [v] H1 fun _ H2 => Dn.nx σ H2 := fun d q v F1 H1 ev hd => by
            obtain ⟨q1, xs1, t0, t1, t2, t3, t4⟩ := own_at r h ev
            rw [s0] at t0; cases t0
            refine ⟨q0, xs1, v, rfl, rfl, t2, Evl.sz_lt (by rw [dps_len t4]; exact hz), ?_⟩
            exact q σ F1 _ ((r.step ev).mut (xs := xs1) h s0 (dps_app t4 (.cons hd .nil)))
          cases hm : m (frz ρ0 lk) with
          | ok d => rw [hm] at q; exact go d q
          | new d => rw [hm] at q; exact go _ q
          | exc c => rw [hm] at q; exact fun F1 H1 ev => q σ F1 H1 (r.step ev)
          | bad => rw [hm] at q; exact q
        · exact q.elim
theorem js_ext {i : Nat} {x : Str} (hN : X.N[i]? = some x) (hv : Vis X.env.scope x) (hd : (x == ("__debug__" : Str)) = false) (hcd : (x == ("__classdict__" : Str)) = false) (he : JE X cv W e m) (h1 : notStar e = true) (hl : (apos.endLine == cpos.line) = true) :
    JF X cv W (.Expr (.Call (.Attribute (.Name x p) "extend" apos) [e] [] cpos) pos) (sExt i lk m) := fun B =>
  PS.imp (ps_expr (pe_bm PySem.F.plainAttrs_list PySem.F.slot_list_extend PySem.F.type_list_extend mt_extend (pe_var hN hv hd hcd) (pa_cons he pa_nil (star_cons h1)) rfl (hfew_one h1) hl (star_cons h1) rfl) rfl) fun Dn σ H ⟨ρ0, F0, r0, q⟩ => by
    obtain ⟨F, r⟩ := RelB.frz (lk := lk) r0
    unfold sExt at q
    simp only at q
    cases h : (frz ρ0 lk)[i]? with
    | none => rw [h] at q; exact q.elim
    | some c =>
      rw [h] at q
      cases c with
      | un => exact q.elim
      | fr d => exact q.elim
      | ob k fs => exact q.elim
      | ro k fs => exact q.elim
      | ow ds =>
        obtain ⟨q0, xs0, s0, s1, _, _, _⟩ := own_at r h (Evo.refl r.rel.le)
        simp only at q
        refine ⟨_, s0, .inl ⟨rfl, xs0, SqL.of s1⟩, ?_⟩
        refine rd_st r q (fun d v F1 H1 ev hd q => q.elim) fun es p xs F1 H1 ev h1 h2 h3 h4 q => ?_
        split at q
        · rename_i hz
          obtain ⟨q1, xs1, t0, t1, t2, t3, t4⟩ := own_at r h ev
          rw [s0] at t0; cases t0
          refine ⟨q0, p, xs1, xs, rfl, rfl, t2, h3, Evl.sz_of (by rw [dps_len t4, dps_len h4]; exact hz), ?_⟩
          exact q σ F1 _ ((r.step ev).mut (xs := xs1) h s0 (dps_app t4 h4))
        · exact q.elim
theorem js_item {i : Nat} {x : Str} {ix : Expr} {tpos : Pos} (hN : X.N[i]? = some x) (hv : Vis X.env.scope x) (hd : (x == ("__debug__" : Str)) = false) (hcd : (x == ("__classdict__" : Str)) = false) (he : JE X cv W e m) (hi : JE X cv W ix mi)
    (hs : swapsWithSole [.Subscript (.Name x p) ix tpos] e pos.line X.env = pure false) (ha : ∀ v, assign (.Subscript (.Name x p) ix tpos) X.env v = (do
      let ov ← holding [v] (eval (.Name x p) X.env)
      let iv ← holding [v, ov] (eval ix X.env)
      standAt tpos
      holding [v, ov, iv] (setItem ov iv v)
      release [v, ov, iv] [])) :
    JF X cv W (.Assign [.Subscript (.Name x p) ix tpos] e pos) (sItem i lk mi m) := fun B =>
  PS.imp (ps_asg he (pg_sub (pe_var hN hv hd hcd) hi set_list ha) hs (by cases e <;> rfl) rfl) fun Dn σ H ⟨ρ0, F0, r0, q⟩ => by
    obtain ⟨F, r⟩ := RelB.frz (lk := lk) r0
    unfold sItem at q
    simp only at q
    cases h : (frz ρ0 lk)[i]? with
    | none => rw [h] at q; exact q.elim
    | some c =>
      rw [h] at q
      cases c with
      | un => exact q.elim
      | fr d => exact q.elim
      | ob k fs => exact q.elim
      | ro k fs => exact q.elim
      | ow ds =>
        obtain ⟨q0, xs0, s0, s1, _, _, _⟩ := own_at r h (Evo.refl r.rel.le)
        simp only at q
        refine rd_st r q (fun d v F1 H1 ev hd q => ?_) fun es p xs F1 H1 ev h1 h2 h3 h4 q => q.elim
        refine ⟨_, s0, ?_⟩
        refine rd_st (r.step ev) q (fun k w F2 H2 ev2 hk q => ?_) fun es p xs F1 H1 ev h1 h2 h3 h4 q => q.elim
        cases hk <;> try exact q.elim
        rename_i k
        simp only at q
        cases hj : ixN ds.length k with
        | none => rw [hj] at q; exact q.elim
        | some j =>
          rw [hj] at q
          obtain ⟨q1, xs1, t0, t1, t2, t3, t4⟩ := own_at r h (ev.trans ev2)
          rw [s0] at t0; cases t0
          refine ⟨q0, xs1, k, j, rfl, rfl, t2, by rw [dps_len t4]; exact hj, ?_⟩
          exact q σ F2 _ ((r.step (ev.trans ev2)).mut (xs := xs1) h s0 (dps_set (dp_mono ev2.ex hd) j t4))
end
end U
set_option Elab.async false
set_option linter.all false
set_option maxRecDepth 100000
set_option maxHeartbeats 4000000
namespace U
open PySem PySem.Spec PyProof.Rows L2
/-! ### loops -/
def forGo (body : Ss) (T : Tg) : List D → Rho → Fl
  | [], ρ => .nx ρ
  | d :: ds, ρ => match bindT T d ρ with
    | some ρ' => (body ρ').bind (forGo body T ds)
    | none => .bad
def sFor (T : Tg) (lk : List Nat) (mi : SmL) (body : Ss) : Ss := fun ρ0 => let ρ := frz ρ0 lk
  match mi ρ with
  | .ok ds => forGo body T ds ρ
  | .exc c => .ex c ρ
  | .bad => .bad
def whGo (lk : List Nat) (mc : Sm) (body : Ss) : Nat → Rho → Fl
  | 0, _ => .bad
  | n + 1, ρ0 => (mc (frz ρ0 lk)).fl (frz ρ0 lk) (fun d => ifF (truth d) ((body (frz ρ0 lk)).bind (whGo lk mc body n)) (.nx (frz ρ0 lk))) (fun _ => .bad)
set_option exponentiation.threshold 30000 in
def fuel : Nat := 2 ^ 20000
def sWhile (lk : List Nat) (mc : Sm) (body : Ss) : Ss := fun ρ => whGo lk mc body fuel ρ
theorem RelB.base {Z : Option Addr} {F0 H0 F1 H1 F H : Hp} {ρ : Rho} {σ : L2.St} (e : Evo F0 H0 F1 H1) (r : RelB cv ⟨F1, H0, Z⟩ ρ σ F H) : RelB cv ⟨F0, H0, Z⟩ ρ σ F H := by
  refine ⟨r.rel, ⟨e.ex.trans r.evo.ex, r.evo.hx, r.evo.le, fun a o h => ?_⟩, r.own, r.slf⟩
  rcases r.evo.new a o h with z | z
  · exact e.new a o z
  · exact .inr z
theorem Evo.base {F0 H0 F1 H1 F H : Hp} (e : Evo F0 H0 F1 H1) (r : Evo F1 H0 F H) : Evo F0 H0 F H := by
  refine ⟨e.ex.trans r.ex, r.hx, r.le, fun a o h => ?_⟩
  rcases r.new a o h with z | z
  · exact e.new a o z
  · exact .inr z
theorem RelB.top {Z : Option Addr} {F0 H0 F1 F H : Hp} {ρ : Rho} {σ : L2.St} (r : RelB cv ⟨F0, H0, Z⟩ ρ σ F H) (e : Ex F0 F1) (ex : Ex F1 F) : RelB cv ⟨F1, H0, Z⟩ ρ σ F H := by
  refine ⟨r.rel, ⟨ex, r.evo.hx, r.evo.le, fun a o h => ?_⟩, r.own, r.slf⟩
  rcases r.evo.new a o h with z | z
  · exact .inl (e a o z)
  · exact .inr z
theorem GotF.base {Z : Option Addr} {cv : Nat → Value} {W : WX} {F0 H0 F1 H1 : Hp} {Dn : Ends} (e : Evo F0 H0 F1 H1) : ∀ {f : Fl}, GotF cv W ⟨F0, H0, Z⟩ Dn f → GotF cv W ⟨F1, H0, Z⟩ Dn f
  | .nx _, h => fun σ F H r => h σ F H (r.base e)
  | .rt _, h => fun v F H ev hd => h v F H (Evo.base e ev) hd
  | .rn _, h => fun p xs F H ev h1 h2 h3 h4 => h p xs F H (Evo.base e ev) h1 h2 h3 h4
  | .rm _ _, h => fun v σ F H r hd => h v σ F H (r.base e) hd
  | .rb _ _, h => fun a C dx vs F H h0 ev h1 h2 h3 h4 h5 h6 h7 => h a C dx vs F H h0 (Evo.base e ev) h1 h2 h3 h4 h5 h6 h7
  | .ex _ _, h => fun σ F H r => h σ F H (r.base e)
  | .bad, h => h
theorem GotF.ends {cv : Nat → Value} {W : WX} {B : Bb} {Dn Dn' : Ends} {k : Ss} (hn : ∀ ρ σ F H, RelB cv B ρ σ F H → GotF cv W B Dn (k ρ) → Dn'.nx σ H) (hr : Dn'.rt = Dn.rt) : ∀ {f : Fl}, GotF cv W B Dn (f.bind k) → GotF cv W B Dn' f
  | .nx ρ, h => fun σ F H r => hn ρ σ F H r h
  | .rt _, h => fun v F H ev hd => by rw [hr]; exact h v F H ev hd
  | .rn _, h => fun p xs F H ev h1 h2 h3 h4 => by rw [hr]; exact h p xs F H ev h1 h2 h3 h4
  | .rm _ _, h => fun v σ F H r hd => by rw [hr]; exact h v σ F H r hd
  | .rb _ _, h => fun a C dx vs F H h0 ev h1 h2 h3 h4 h5 h6 h7 => by rw [hr]; exact h a C dx vs F H h0 ev h1 h2 h3 h4 h5 h6 h7
  | .ex _ _, h => h
  | .bad, h => h
section
variable {X : Cx} {cv : Nat → Value} {W : WX} {e c tg iter : Expr} {st : Stmt} {rest body : List Stmt} {m mc : Sm} {mi : SmL} {a b mb : Ss} {lk : List Nat} {pos p apos cpos : Pos} {T : Tg}
/-- a target, with the entry's facts -/
def rdGB (cv : Nat → Value) (T : Tg) (B : Bb) : TG := fun v σ H Q => ∃ d ρ F, RelB cv B ρ σ F H ∧ Dr F v d ∧ ∃ ρ', bindT T d ρ = some ρ' ∧ ∀ σ', RelB cv B ρ' σ' F H → Q σ' H
def JGB (X : Cx) (cv : Nat → Value) (tg : Expr) (T : Tg) : Prop := ∀ B, PG X tg (rdGB cv T B)
theorem jgb_name {i : Nat} {x : Str} (hN : X.N.Nodup) (hi : X.N[i]? = some x) (hx : Loc X.env.scope x) (hf : X.fn x = true ∨ X.env.scope.names.lookup x = some .local) : JGB X cv (.Name x pos) (.nm i) := fun B =>
  PG.imp (pg_name hN hi hx hf) fun v σ H Q ⟨d, ρ, F, r, hd, ρ', e, q⟩ => by
    cases e
    exact q _ (r.fr i hd)
theorem gNames_okB {B : Bb} : ∀ {is : List Nat} {ds : List D} {vs : List V} {ρ : Rho} {σ : L2.St} {F H : Hp} {Q : L2.St → Hp → Prop}, RelB cv B ρ σ F H → DrAll F vs ds → ds.length = is.length → (∀ σ', RelB cv B (setAll is ds ρ) σ' F H → Q σ' H) → gNames is vs σ H Q
  | [], [], _, ρ, σ, F, H, Q, r, .nil, _, q => ⟨rfl, q σ r⟩
  | i :: is, d :: ds, _, ρ, σ, F, H, Q, r, .cons h hs, e, q => ⟨_, _, rfl, gNames_okB (r.fr i h) hs (by simpa using e) q⟩
theorem jgb_tup {is : List Nat} {es : List Expr} {k : Nat} (hc : X.calm = true) (hN : X.N.Nodup) (h : Nms X es is) : JGB X cv (.Tuple es k pos) (.tp is) := fun B =>
  PG.imp (pg_tup hc (h.pgs hN) (h.len (env := X.env)).1 (h.len (env := X.env)).2) fun v σ H Q ⟨d, ρ, F, r, hd, ρ', e, q⟩ => by
    cases hd with
    | tup h hs =>
      unfold bindT at e
      simp only at e
      split at e
      · rename_i hl
        cases e
        exact ⟨_, _, rfl, .inl (.inl (r.rel.le _ _ h)), by rw [dps_len hs, hl], gNames_okB r hs hl q⟩
      · cases e
    | _ => cases e
theorem js_for (hp : PassesOwn (model X.prog X.w) X.A X.env X.xe) (hc : X.calm = true) (hi : JI X cv W tg iter mi) (hg : JGB X cv tg T) (hb : JFs X cv W body mb) (hs : ∀ x, foldedSetIterable iter X.env x = pure x) : JF X cv W (.For tg iter body [] pos) (sFor T lk mi mb) := fun B => by
  refine ⟨fun pins s σ H Dn I hw => ?_⟩
  obtain ⟨ρ0, F0, r0, q⟩ := hw
  obtain ⟨F, r⟩ := RelB.frz (lk := lk) r0
  unfold sFor at q
  simp only at q
  -- the walk's start decides the base of the body
  have main : ∀ (Dn : Ends) (σ : L2.St) (H : Hp) (F : Hp) (ρ : Rho), RelB cv B ρ σ F H → GotF cv W B Dn (match mi ρ with | .ok ds => forGo mb T ds ρ | .exc c => .ex c ρ | .bad => .bad) → tFor (rdI cv W mi) (fun v σ H Q => ∃ F1, rdGB cv T ⟨F1, B.2, B.3⟩ v σ H Q) (fun Dn σ H => ∃ F1, rdF cv W ⟨F1, B.2, B.3⟩ mb Dn σ H) Dn σ H := fun Dn σ H F ρ r q => by
    refine ⟨ρ, F, r.rel, ?_⟩
    cases h : mi ρ with
    | exc c => rw [h] at q; exact fun F1 H1 ev => q σ F1 H1 (r.step ev)
    | bad => rw [h] at q; exact q
    | ok ds =>
      rw [h] at q
      intro J F1 H1 ev wk
      have r1 : RelB cv B ρ σ F1 H1 := r.step ev
      have r1' : RelB cv ⟨F1, B.2, B.3⟩ ρ σ F1 H1 := RelB.top (Z := B.3) (F0 := B.1) (H0 := B.2) r1 r1.evo.ex (Evl.Ex.refl _)
      refine ⟨fun i m σ' H' => i ≤ ds.length ∧ m = ds.length - i ∧ ∃ ρ' F', RelB cv ⟨F1, B.2, B.3⟩ ρ' σ' F' H' ∧ GotF cv W ⟨F1, B.2, B.3⟩ Dn (forGo mb T (ds.drop i) ρ'), ⟨ds.length, Nat.zero_le _, rfl, ρ, F1, r1', ?_⟩, fun i m σ' H' ⟨hi, hm, ρ', F', r', q'⟩ => ?_⟩
      · rw [List.drop_zero]
        exact GotF.base (F0 := B.1) (H0 := B.2) r1.evo q
      · by_cases he : i = ds.length
        · subst he
          rw [List.drop_length] at q'
          exact .inl ⟨wk.stop H' (r'.evo.ex.trans r'.evo.le), q' σ' F' H' r'⟩
        · right
          have hlt : i < ds.length := by omega
          refine ⟨wk.go i H' (r'.evo.ex.trans r'.evo.le) hlt, fun σ2 H2 => ∃ ρ2 F2, RelB cv ⟨F1, B.2, B.3⟩ ρ2 σ2 F2 H2 ∧ GotF cv W ⟨F1, B.2, B.3⟩ Dn (forGo mb T (ds.drop (i + 1)) ρ2), fun σ2 H2 hn => ⟨ds.length - (i + 1), by omega, by omega, rfl, hn⟩, fun x H2 hy => ?_⟩
          obtain ⟨F2, d, hd, ev2, hdr⟩ := wk.yld i H' F' r'.evo.ex r'.evo.le hlt x H2 hy
          have hdrop : ds.drop i = d :: ds.drop (i + 1) := by
            rw [List.drop_eq_getElem_cons hlt]
            have : ds[i] = d := by rw [List.getElem?_eq_getElem hlt] at hd; exact Option.some.inj hd
            rw [this]
          rw [hdrop] at q'
          unfold forGo at q'
          cases hb : bindT T d ρ' with
          | none => rw [hb] at q'; exact q'.elim
          | some ρ2 =>
            rw [hb] at q'
            refine ⟨F1, d, ρ', F2, r'.step ev2, hdr, ρ2, hb, fun σ2 r2 => ⟨F1, ρ2, F2, r2, ?_⟩⟩
            refine GotF.ends (k := forGo mb T (ds.drop (i + 1))) (Dn := Dn) ?_ ?_ q'
            case refine_2 => rfl
            exact fun ρ3 σ3 F3 H3 r3 q3 => ⟨ρ3, F3, r3, q3⟩
  refine (ps_for (tg := tg) hp hc hi (g := fun v σ H Q => ∃ F1, rdGB cv T ⟨F1, B.2, B.3⟩ v σ H Q) ⟨fun pins s σ H v u Q I r ⟨F1, hw⟩ => (hg ⟨F1, B.2, B.3⟩).run pins s σ H v u Q I r hw⟩ (tb := fun Dn σ H => ∃ F1, rdF cv W ⟨F1, B.2, B.3⟩ mb Dn σ H) ⟨fun pins s σ H D I ⟨F1, hw⟩ => (hb ⟨F1, B.2, B.3⟩).run pins s σ H D I hw⟩ hs).run pins s σ H Dn I ?_
  exact main Dn σ H F _ r q
set_option exponentiation.threshold 30000 in
theorem js_while (hp : PassesOwn (model X.prog X.w) X.A X.env X.xe) (hc : JT X cv W c mc) (hb : JFs X cv W body mb) : JF X cv W (.While c body [] pos) (sWhile lk mc mb) := fun B =>
  PS.imp (ps_while hp hc (hb B)) fun Dn σ H ⟨ρ0, F0, r0, q⟩ => by
    refine ⟨fun m σ' H' => ∃ ρ F, RelB cv B ρ σ' F H' ∧ GotF cv W B Dn (whGo lk mc mb m ρ), ⟨fuel, ρ0, F0, r0, q⟩, fun m σ' H' ⟨ρ, F, r, q⟩ => ?_⟩
    cases m with
    | zero => exact q.elim
    | succ m =>
      obtain ⟨F1, r1⟩ := RelB.frz (lk := lk) r
      refine ⟨frz ρ lk, F1, r1.rel, ?_⟩
      unfold whGo at q
      cases h : mc (frz ρ lk) with
      | ok d =>
        rw [h] at q
        simp only [Res.fl_ok] at q
        cases hk : truth d with
        | none => rw [hk] at q; exact q.elim
        | some k =>
          rw [hk] at q
          refine ⟨k, hk, fun F2 H2 ev => ?_⟩
          cases k with
          | true =>
            rw [if_pos rfl]
            refine ⟨fun σ3 H3 => ∃ ρ3 F3, RelB cv B ρ3 σ3 F3 H3 ∧ GotF cv W B Dn (whGo lk mc mb m ρ3), fun σ3 H3 hn => ⟨m, Nat.lt_succ_self m, hn⟩, frz ρ lk, F2, r1.step ev, ?_⟩
            refine GotF.ends (k := whGo lk mc mb m) (Dn := Dn) ?_ ?_ q
            case refine_2 => rfl
            exact fun ρ3 σ3 F3 H3 r3 q3 => ⟨ρ3, F3, r3, q3⟩
          | false =>
            rw [if_neg (by simp)]
            exact q σ' F2 H2 (r1.step ev)
      | new ds => rw [h] at q; exact q.elim
      | exc c => rw [h] at q; exact fun F2 H2 ev => q σ' F2 H2 (r1.step ev)
      | bad => rw [h] at q; exact q
/-! ### y = [..] on one line -/
theorem js_comp {i : Nat} {y : Str} {py spos : Pos} {elt : Expr} {ifs : List Expr} {scope : Scope} {own : List (Str × Nat)} {me : Sm} {oc : Option Sm} (hc : X.calm = true) (hN : X.N.Nodup) (hy : X.N[i]? = some y) (hyl : X.env.scope.names.lookup y = some .local)
    (hsw : swapsWith (.ListComp elt [⟨tg, iter, ifs, 0⟩] scope pos) (some (.Name y py)) spos.line X.env = pure true) (hi : JI X cv W tg iter mi) (ok : BlkOk X.N X.env.scope scope own) (hg : BlkG X cv scope tg T) (ht : BlkC X cv scope ifs oc) (he : BlkE X cv scope elt me) (hT : ∀ i ∈ T.slots, i ∈ own.map (·.2)) (hs : ∀ x, foldedSetIterable iter X.env x = pure x) :
    JF X cv W (.Assign [.Name y py] (.ListComp elt [⟨tg, iter, ifs, 0⟩] scope pos) spos) (sSet i lk (eComp mi T (own.map (·.2)) oc me)) := fun B =>
  PS.imp (ps_setLc hc hN hy hyl hsw hi ok hg (fun s H C cl fp => ht.pts s H C cl fp) he hs) fun Dn σ H ⟨ρ0, F0, r0, q⟩ => by
    obtain ⟨F, r⟩ := RelB.frz (lk := lk) r0
    exact rd_comp hT (rd_st r q (fun d v F1 H1 ev hd q => q _ F1 H1 ((r.step ev).fr i hd)) fun ds p xs F1 H1 ev h1 h2 h3 h4 q => q _ F1 H1 ((r.step ev).ow i h2 h3 (none_back r.evo.hx h1) h4 fun j es e _ => new_apart r h1 ev j es e))
end
end U
set_option Elab.async false
set_option linter.all false
set_option maxRecDepth 100000
set_option maxHeartbeats 4000000
namespace U
open PySem PySem.Spec PyProof.Rows L2
/-! ### raise -/
def sRaise (c : Nat) : Ss := fun ρ => .ex c ρ
/-- an own exception class over ValueError, without methods -/
structure ExC (K : PySem.W.Frag) (mg : Str → Option Value) (x : Str) (C : Addr) : Prop where
  gl : mg x = some (.ref C)
  ex : PySem.W.excIn K C [.type "ValueError", .type "Exception", .type "BaseException", .type "object"] "ValueError.__new__" = true
  kp : PySem.W.keepIn K (.ref C) = true
  sb : PySem.W.subIn K (.ref C) (.type "BaseException") = some true
  ty : PySem.W.typeIn K (.ref C) = some (.type "type")
section
variable {X : Cx} {cv : Nat → Value} {W : WX} {a b e tg iter : Expr} {st : Stmt} {rest body : List Stmt} {m ma mb mc : Sm} {lk : List Nat} {pos p p2 : Pos}
theorem js_raise {x t : Str} {C : Addr} {c j : Nat} {p3 : Pos} (hc : X.calm = true) (tk : Takes X W) (E : ExC X.K X.mg x C) (hcv : cv c = .ref C) (hg : Gl X x) (hdb : (x == ("__debug__" : Str)) = false) : JF X cv W (.Raise (some (.Call (.Name x p) [.Constant (.str t) j p2] [] p3)) none pos) (sRaise c) := fun B =>
  PS.imp (ps_raise hc tk (pmk_own PySem.F.excBase_ValueError E.ex E.gl E.kp (raises_own E.sb E.ty) hg hdb)) fun Dn σ H ⟨ρ, F, r, q⟩ => by
    have := q σ F H r
    rw [hcv] at this
    exact this
/-! ### a, b = e1, e2 -/
def sPar2 (i j : Nat) (lk : List Nat) (ma mb : Sm) : Ss := fun ρ0 => let ρ := frz ρ0 lk
  (ma ρ).fl ρ (fun x => (mb ρ).fl ρ (fun y => .nx ((ρ.set i (.fr x)).set j (.fr y))) (fun ys => .nx ((ρ.set i (.fr x)).set j (.ow ys))))
    (fun xs => (mb ρ).fl ρ (fun y => .nx ((ρ.set i (.ow xs)).set j (.fr y))) (fun ys => .nx ((ρ.set i (.ow xs)).set j (.ow ys))))
theorem js_par2 {i j : Nat} {x y : Str} {px py pt : Pos} {kt k2 : Nat} {pt2 : Pos} (hc : X.calm = true) (hN : X.N.Nodup) (hi : X.N[i]? = some x) (hj : X.N[j]? = some y) (hij : i ≠ j) (hx : X.env.scope.names.lookup x = some .local) (hy : X.env.scope.names.lookup y = some .local)
    (ha : JE X cv W a ma) (hb : JE X cv W b mb) (h1 : notStar a = true) (h2 : notStar b = true) (hw : swappedStores [.Tuple [.Name x px, .Name y py] kt pt] (.Tuple [a, b] k2 pt2) X.env = pure (some [x, y])) :
    JF X cv W (.Assign [.Tuple [.Name x px, .Name y py] kt pt] (.Tuple [a, b] k2 pt2) pos) (sPar2 i j lk ma mb) := fun B =>
  PS.imp (ps_par hc hN hi hj hij hx hy (pa_cons ha (pa_cons hb pa_nil (star_cons h2)) (star_cons h1)) hw rfl) fun Dn σ H ⟨ρ0, F0, r0, q⟩ => by
    obtain ⟨F, r⟩ := RelB.frz (lk := lk) r0
    unfold sPar2 at q
    simp only at q
    refine rd_st r q (fun d v F1 H1 ev hd q => ?_) fun ds p xs F1 H1 ev h1 h2 h3 h4 q => ?_
    · refine rd_st (r.step ev) q (fun d2 v2 F2 H2 ev2 hd2 q => ?_) fun ds p xs F2 H2 ev2 h1 h2 h3 h4 q => ?_
      · exact ⟨v, v2, rfl, q _ F2 H2 ((((r.step ev).step ev2).fr i (dp_mono ev2.ex hd)).fr j hd2)⟩
      · have r2 := (r.step ev).step ev2
        refine ⟨v, .ref p, rfl, q _ F2 H2 ((r2.fr i (dp_mono ev2.ex hd)).ow j h2 h3 (none_back (r.step ev).evo.hx h1) h4 fun k es e hk => ?_)⟩
        rw [set_get] at e ⊢
        split at e
        · cases e; simp
        · rename_i hz
          rw [if_neg (by rw [← r.rel.len]; exact hz)]
          exact new_apart (r.step ev) h1 ev2 k es e
    · refine rd_st (r.step ev) q (fun d2 v2 F2 H2 ev2 hd2 q => ?_) fun es p2 ys F2 H2 ev2 k1 k2 k3 k4 q => ?_
      · have r2 := (r.step ev).step ev2
        exact ⟨.ref p, v2, rfl, q _ F2 H2 ((r2.ow i (own_not ev2 h2 h3) (ev2.hx _ _ h3) (none_back r.evo.hx h1) (dps_mono ev2.ex h4) fun k es e _ => new_apart r h1 (ev.trans ev2) k es e).fr j hd2)⟩
      · have r2 := (r.step ev).step ev2
        have r3 := r2.ow i (own_not ev2 h2 h3) (ev2.hx _ _ h3) (none_back r.evo.hx h1) (dps_mono ev2.ex h4) fun k es e _ => new_apart r h1 (ev.trans ev2) k es e
        refine ⟨.ref p, .ref p2, rfl, q _ F2 H2 (r3.ow j k2 k3 (none_back (r.step ev).evo.hx k1) k4 fun k es' e hk => ?_)⟩
        rw [set_get] at e ⊢
        split at e
        · rename_i hz
          rw [if_pos ⟨hz.1, by rw [← r.rel.len]; exact hz.2⟩]
          cases e
          intro z
          have z' : p2 = p := by simpa using z
          subst z'
          rw [h3] at k1; cases k1
        · rename_i hz
          rw [if_neg (by rw [← r.rel.len]; exact hz)]
          exact new_apart (r.step ev) k1 ev2 k es' e
/-! ### a, b, c = e1, e2, e3 (shared data alone) -/
def sPar3 (i j l : Nat) (lk : List Nat) (ms : List Sm) : Ss := fun ρ0 => let ρ := frz ρ0 lk
  match evs ms ρ with
  | .ok [x, y, z] => .nx (((ρ.set i (.fr x)).set j (.fr y)).set l (.fr z))
  | .ok _ => .bad
  | .exc c => .ex c ρ
  | .bad => .bad
theorem js_par3 {i j l : Nat} {x y z : Str} {px py pz pt : Pos} {kt k2 : Nat} {pt2 : Pos} {c : Expr} {ms : List Sm} (hc : X.calm = true) (hN : X.N.Nodup) (hi : X.N[i]? = some x) (hj : X.N[j]? = some y) (hl : X.N[l]? = some z) (hij : i ≠ j) (hil : i ≠ l) (hjl : j ≠ l) (hx : X.env.scope.names.lookup x = some .local) (hy : X.env.scope.names.lookup y = some .local) (hz : X.env.scope.names.lookup z = some .local)
    (ha : JA X cv W [a, b, c] ms) (hw : swappedStores [.Tuple [.Name x px, .Name y py, .Name z pz] kt pt] (.Tuple [a, b, c] k2 pt2) X.env = pure (some [x, y, z])) :
    JF X cv W (.Assign [.Tuple [.Name x px, .Name y py, .Name z pz] kt pt] (.Tuple [a, b, c] k2 pt2) pos) (sPar3 i j l lk ms) := fun B =>
  PS.imp (ps_par3 hc hN hi hj hl hij hil hjl hx hy hz ha hw rfl) fun Dn σ H ⟨ρ0, F0, r0, q⟩ => by
    obtain ⟨F, r⟩ := RelB.frz (lk := lk) r0
    unfold sPar3 at q
    simp only at q
    refine ⟨_, F, r.rel, ?_⟩
    cases h : evs ms (frz ρ0 lk) with
    | ok ds =>
      rw [h] at q
      intro vs F1 H1 ev hd
      match ds, hd, q with
      | [d1, d2, d3], .cons h1 (.cons h2 (.cons h3 .nil)), q => exact ⟨_, _, _, rfl, q _ F1 H1 ((((r.step ev).fr i h1).fr j h2).fr l h3)⟩
      | [], _, q => exact q.elim
      | [_], _, q => exact q.elim
      | [_, _], _, q => exact q.elim
      | _ :: _ :: _ :: _ :: _, _, q => exact q.elim
    | exc c => rw [h] at q; exact fun F1 H1 ev => q σ F1 H1 (r.step ev)
    | bad => rw [h] at q; exact q
/-! ### x[i], x[j] = e1, e2 -/
/-! ### x += e on texts and ints -/
def sAug (i : Nat) (lk : List Nat) (m : Sm) : Ss := fun ρ0 => let ρ := frz ρ0 lk
  match ρ[i]? with
  | some (.fr d) => (m ρ).fl ρ (fun y => match d, y with
      | .int a, .int b => .nx (ρ.set i (.fr (.int (a + b))))
      | .str a, .str b => if a.length + b.length ≤ 100000 then .nx (ρ.set i (.fr (.str (a ++ b)))) else .bad
      | _, _ => .bad) (fun _ => .bad)
  | _ => .bad
theorem ip_any : PIp X .Add (fun x y H Q => (∃ i j, x = .int i ∧ y = .int j ∧ Q (.int (i + j)) H) ∨ ∃ i j, x = .str i ∧ y = .str j ∧ i.length + j.length ≤ sizeLine ∧ Q (.str (i ++ j)) H) := fun pins s σ H x y v u Q I rx ry h => by
  rcases h with h | h
  · exact iop_add pins s σ H x y v u Q I rx ry h
  · exact iop_add_str pins s σ H x y v u Q I rx ry h
theorem js_aug {i : Nat} {x : Str} (hN : X.N.Nodup) (hi : X.N[i]? = some x) (hx : Loc X.env.scope x) (he : JE X cv W e m) (hf : X.fn x = true ∨ X.env.scope.names.lookup x = some .local) : JF X cv W (.AugAssign (.Name x p) .Add e pos) (sAug i lk m) := fun B =>
  PS.imp (ps_aug hN hi hx he ip_any hf) fun Dn σ H ⟨ρ0, F0, r0, q⟩ => by
    obtain ⟨F, r⟩ := RelB.frz (lk := lk) r0
    unfold sAug at q
    simp only at q
    cases h : (frz ρ0 lk)[i]? with
    | none => rw [h] at q; exact q.elim
    | some c =>
      rw [h] at q
      cases c with
      | un => exact q.elim
      | ow d => exact q.elim
      | ob k fs => exact q.elim
      | ro k fs => exact q.elim
      | fr d =>
        obtain ⟨v, e1, e2⟩ := r.rel.cell i _ h
        refine ⟨v, e1, rd_st r q (fun d2 v2 F1 H1 ev hd q => ?_) fun ds p xs F1 H1 ev h1 h2 h3 h4 q => q.elim⟩
        cases e2 <;> try exact q.elim
        · cases hd <;> try exact q.elim
          exact .inl ⟨_, _, rfl, rfl, q _ F1 H1 ((r.step ev).fr i (.int _))⟩
        · cases hd <;> try exact q.elim
          simp only at q
          split at q
          · rename_i hz
            exact .inr ⟨_, _, rfl, rfl, Evl.sz_of hz, q _ F1 H1 ((r.step ev).fr i (.str _))⟩
          · exact q.elim
end
end U
set_option Elab.async false
set_option linter.all false
set_option maxRecDepth 100000
set_option maxHeartbeats 4000000
namespace U
open PySem PySem.Spec PyProof.Rows L2
/-! ### try .. except X as n (several clauses) -/
abbrev Hd := Value × Nat × (Addr → Value → Option Addr → TS)
def ends' (i : Nat) (D : Ends) : Ends := { nx := fun σ' H' => D.nx (σ'.set i none) H', rt := D.rt, bk := fun σ' H' => D.bk (σ'.set i none) H', ct := fun σ' H' => D.ct (σ'.set i none) H' }
def wAll (K : PySem.W.Frag) (Wout : WX) (D : Ends) : List Hd → WX
  | [] => Wout
  | (c, i, ts) :: r => fun cls d σ H => ∃ b, PySem.W.exmOne K cls c = some b ∧ (b = true → ∀ a, H a = none → ts a cls d (ends' i D) (σ.set i (some (.ref a))) H) ∧ (b = false → wAll K Wout D r cls d σ H)
inductive HdsAs (X : Cx) : List ExceptHandler → List Hd → Prop
  | nil : HdsAs X [] []
  | cons {x n : Str} {c : Value} {i : Nat} {ts : Addr → Value → Option Addr → TS} {b₀ : Stmt} {suite : List Stmt} {np pos' : Pos} {hds : List ExceptHandler} {l : List Hd} (hc : Names X x c) (hi : X.N[i]? = some n) (hln : X.env.kindOf n = some .local)
      (hsu : ∀ (a : Addr) (oe : Obj) (cls : Value) (d : Option Addr) (pn : List (Addr × Obj)), Zc cls d oe → (∃ vs, oe.data = .fields vs) → PSs (X.suite a ((a, oe) :: pn)) (b₀ :: suite) (ts a cls d)) (r : HdsAs X hds l) :
      HdsAs X (.ExceptHandler (some (.Name x np)) (some n) (b₀ :: suite) pos' :: hds) ((c, i, ts) :: l)
theorem ps_try_all {X : Cx} {body : List Stmt} {h₀ : ExceptHandler} {hds : List ExceptHandler} {l : List Hd} {pos : Pos} {tb : WX → TS} {Wout : WX} (hs : X.stack = X.env :: X.outer) (hf : X.env.frame = some X.env.locals) (hN : X.N.Nodup) (tk : Takes X Wout)
    (hb : ∀ (W : WX) (pn : List (Addr × Obj)) (xe : Value → Shared → Prop), Takes (X.tr pn xe) W → PassesOwn (model X.prog X.w) X.A X.env xe → PSs (X.tr pn xe) body (tb W)) (hh : HdsAs X (h₀ :: hds) l) : PS X (.Try body (h₀ :: hds) [] [] pos) (fun D σ H => tb (wAll X.K Wout D l) D σ H) := by
  refine ⟨fun pins s σ H D I h => ?_⟩
  have ok := I.ok
  have hfr : X.A.frames = some (X.env :: X.outer) := by rw [ok.frames, hs]
  refine wpAny_Try_except ?_
  refine wpAny_mono ((hb (wAll X.K Wout D l) (X.pn ++ pins) (fun e s₁ => wpAny (model X.prog X.w) X.A (noteFrame e X.env) (fun _ s₂ => wpAny (model X.prog X.w) X.A (setFlight e none) (fun _ s₃ =>
    wpAny (model X.prog X.w) X.A (handleBy e X.env (h₀ :: hds)) (SP X pins D) X.xe s₃) X.xe s₂) X.xe s₁) (fun u s' xx => ?_) PassesOwn.looking).run [] s σ H D (I.toTry _) h) (fun f s1 hsp => ?_) (fun e s1 he => he)
  · obtain ⟨a, B, sI, pins', σ', H', cls, d, rfl, J', nb, up, sky, na, os, ag, w⟩ := xx
    have J : Inv X pins σ' H' sI := J'.ofTry ok
    have sky' : Sky B (X.env :: X.outer) a (Zc cls d) X.env.locals s'.heap := by rw [← hs]; exact sky
    show wpAny (model X.prog X.w) X.A (noteFrame (.ref a) X.env) _ _ _
    refine Sky.land Zc.steady hfr hf sky' fun h3 fl3 up3 => ?_
    have J3 : Inv X pins σ' H' { s' with heap := h3 } := J.landed nb fl3.1 (up.trans up3) os ag
    obtain ⟨oe3, vs3, he3, hz3, hd3⟩ := fl3.there
    have nfr : a ∉ frs (X.env :: X.outer) := fun hm => by
      obtain ⟨_, o', e', hnf⟩ := fl3.2.2.1.mem hm
      rw [he3] at e'; cases e'
      exact hnf _ hd3
    have nL : a ≠ X.env.locals := fun z => nfr (List.mem_filterMap.mpr ⟨X.env, List.mem_cons_self, by rw [hf, z]⟩)
    have nF : a ∉ X.fs := fun hm => by
      obtain ⟨e, he, q⟩ := List.mem_filterMap.mp hm
      exact nfr (List.mem_filterMap.mpr ⟨e, List.mem_cons_of_mem _ he, q⟩)
    have S3 := J3.suite he3 hd3 na nL nF
    have go : ∀ {hds' : List ExceptHandler} {l' : List Hd}, HdsAs X hds' l' → wAll X.K Wout D l' cls d σ' H' → wpAny (model X.prog X.w) X.A (handleBy (.ref a) X.env hds') (SP X pins D) X.xe { s' with heap := h3 } := by
      intro hds' l' hk
      induction hk with
      | nil =>
        intro w
        refine wpAny_handleBy_nil ?_
        obtain ⟨k1, k2, k3, oe, vs, T, oT, ts', he, hz, hd, h1, hr⟩ := id fl3
        unfold PySem.passOn
        refine wpAny_bind (wpAny_field he hd h1 ?_)
        rw [if_neg (show ¬ ((Value.ref T == Value.none) = true) from by simp)]
        have fin : wpAny (model X.prog X.w) X.A (setFlight (.ref a) X.env.frame) (fun _ s4 => wpAny (model X.prog X.w) X.A (throw (.ref a) : Sem Flow) (SP X pins D) X.xe s4) X.xe { s' with heap := h3 } := by
          rw [hf]
          refine HandSPX.setFlight_upZ fl3 fun h4 hh4 up4 => wpAny_throw (tk _ _ ?_)
          exact ⟨a, B, sI, pins, σ', H', cls, d, rfl, J, nb, (up.trans up3).trans up4, .inr (.inr (by rw [hs]; exact hh4)), na, os, ag, w⟩
        first
          | exact wpAny_bind (wpAny_pure (wpAny_bind fin))
          | exact wpAny_bind fin
      | @cons x n c i ts b₀ suite np pos' hds2 l2 hc hi hln hsu r ih =>
        intro w
        obtain ⟨b, hb1, hyes, hno⟩ := w
        refine wpAny_handleBy_cons (codeAny_handlers_test ?_) (by intro q; cases q)
        have LT : PySem.W.Looks (model X.prog X.w) h3 (typeOf (.ref a)) cls := fun A Q E s k q => wpAny_typeOf_ref (k _ _ he3) (by rw [hz3.1]; exact q)
        have LM := PySem.W.exm_one (M := model X.prog X.w) (J3.kIn) LT hb1
        have test : ∀ {Q : Value → Shared → Prop} {E : Value → Shared → Prop}, Q c { s' with heap := h3 } → wpAny (model X.prog X.w) (X.A.mark (some (.ref a))) (eval (.Name x np) X.env) Q E { s' with heap := h3 } := fun {Q E} q => by
          obtain ⟨hg, hdbg, hm | ⟨hm, hv, hnn⟩⟩ := hc
          · exact ld_glob (X := X.suite a ((a, oe3) :: (X.pn ++ pins))) S3 hg hm q hdbg
          · exact ld_blt (X := X.suite a ((a, oe3) :: (X.pn ++ pins))) S3 hg hm hv q hnn hdbg
        refine test (LM.here ?_)
        cases b with
        | true =>
          refine codeAny_handlers_suite_as ?_
          refine HandSPX.lands_againZ fl3 fun h4 fl4 up4 => ?_
          have J4 : Inv X pins σ' H' { s' with heap := h4 } := J.landed nb fl4.1 ((up.trans up3).trans up4) os ag
          obtain ⟨oe4, vs4, he4, hz4, hd4⟩ := fl4.there
          have S4 := J4.suite he4 hd4 na nL nF
          refine store_ok (X := X.suite a ((a, oe4) :: (X.pn ++ pins))) (v := .ref a) S4 hN hi (.inl hln) rfl (fun s5 S5 => ?_) (.inr hln)
          refine wpAny_mono ((hsu a oe4 cls d (X.pn ++ pins) hz4 ⟨_, hd4⟩).run [] s5 _ H' _ S5 (hyes rfl a na)) (fun f s6 hsp => ?_) (fun _ _ z => False.elim z)
          have end_ : ∀ {σ6 : L2.St} {H6 : Hp} {Q : Shared → Prop}, Inv (X.suite a ((a, oe4) :: (X.pn ++ pins))) [] σ6 H6 s6 → (∀ s7, Inv X pins (σ6.set i none) H6 s7 → Q s7) →
              wpAny (model X.prog X.w) X.A (do bindName X.env n .none; unbindBehindTheSuite X.env n pos') (fun _ s7 => Q s7) X.xe s6 := fun {σ6 H6 Q} S6 hq => gone_ok (S6.unsuite ok) hN hi hln hq
          cases f with
          | next =>
            obtain ⟨σ6, H6, S6, q6⟩ := hsp
            exact end_ S6 fun s7 J7 => ⟨_, _, J7, q6⟩
          | brk =>
            obtain ⟨σ6, H6, S6, q6⟩ := hsp
            exact end_ S6 fun s7 J7 => ⟨_, _, J7, q6⟩
          | cont =>
            obtain ⟨σ6, H6, S6, q6⟩ := hsp
            exact end_ S6 fun s7 J7 => ⟨_, _, J7, q6⟩
          | ret u =>
            obtain ⟨v6, σ6, H6, S6, r6, q6⟩ := hsp
            exact end_ S6 fun s7 J7 => ⟨_, _, _, J7, r6, q6⟩
        | false =>
          show wpAny _ X.A (handleBy (.ref a) X.env hds2) _ _ _
          exact ih (hno rfl)
    exact go hh w
  · cases f with
    | next =>
      obtain ⟨σ', H', J', q⟩ := hsp
      exact wpAny_execs_nil ⟨σ', H', J'.ofTry ok, q⟩
    | brk =>
      obtain ⟨σ', H', J', q⟩ := hsp
      exact ⟨σ', H', J'.ofTry ok, q⟩
    | cont =>
      obtain ⟨σ', H', J', q⟩ := hsp
      exact ⟨σ', H', J'.ofTry ok, q⟩
    | ret u =>
      obtain ⟨v, σ', H', J', r, q⟩ := hsp
      exact ⟨v, σ', H', J'.ofTry ok, r, q⟩
/-! ### expressions of a suite: what they are worth for the class of the error -/
/-- the value of a suite's expression by the class of the error -/
abbrev Xm := Nat → Option V
def xC (v : V) : Xm := fun _ => some v
def xIs (sub : Nat → Nat → Bool) (k : Nat) : Xm := fun c => some (.bl (sub c k))
def xAnd (a b : Xm) : Xm := fun c => (a c).bind fun v => match v with
  | .bl true => b c
  | .bl false => some (.bl false)
  | _ => none
def xNot (a : Xm) : Xm := fun c => (a c).bind fun v => match v with
  | .bl b => some (.bl (!b))
  | _ => none
def xIf (t a b : Xm) : Xm := fun c => (t c).bind fun v => match v with
  | .bl true => a c
  | .bl false => b c
  | _ => none
/-- the classes of the text: their values, who is below whom -/
structure Clss (K : PySem.W.Frag) (cv : Nat → Value) (sub : Nat → Nat → Bool) (n : List Nat) : Prop where
  at_ : ∀ c, c ∈ n → ∃ C, cv c = .ref C ∧ ExcC K C
  is : ∀ c k, c ∈ n → k ∈ n → PySem.W.kitOne K (cv c) (cv k) = some (sub c k) ∧ PySem.W.exmOne K (cv c) (cv k) = some (sub c k)
def rdX (m : Xm) (c i : Nat) (a : Addr) : TE := fun σ H Q => σ[i]? = some (some (.ref a)) ∧ ∃ v, m c = some v ∧ Q v H
def rdXT (m : Xm) (c i : Nat) (a : Addr) : TT := fun σ H Q => σ[i]? = some (some (.ref a)) ∧ ∃ b, m c = some (.bl b) ∧ Q b H
/-- in the suite of an error of the class c at the address a, held by slot i -/
def JX (X : Cx) (cv : Nat → Value) (n : List Nat) (i : Nat) (e : Expr) (m : Xm) : Prop := ∀ (a : Addr) (oe : Obj) (c : Nat) (pn : List (Addr × Obj)), c ∈ n → Zc (cv c) none oe → (∃ vs, oe.data = .fields vs) → PE (X.suite a ((a, oe) :: pn)) e (rdX m c i a)
def JXT (X : Cx) (cv : Nat → Value) (n : List Nat) (i : Nat) (e : Expr) (m : Xm) : Prop := ∀ (a : Addr) (oe : Obj) (c : Nat) (pn : List (Addr × Obj)), c ∈ n → Zc (cv c) none oe → (∃ vs, oe.data = .fields vs) → PT (X.suite a ((a, oe) :: pn)) e (rdXT m c i a)
def JXP (X : Cx) (cv : Nat → Value) (n : List Nat) (i : Nat) (e : Expr) (m : Xm) : Prop := ∀ (a : Addr) (oe : Obj) (c : Nat) (pn : List (Addr × Obj)), c ∈ n → Zc (cv c) none oe → (∃ vs, oe.data = .fields vs) → PW (X.suite a ((a, oe) :: pn)) e (rdXT m c i a)
section
variable {X : Cx} {cv : Nat → Value} {sub : Nat → Nat → Bool} {n : List Nat} {i : Nat} {e a b t : Expr} {ma mb mt m : Xm} {pos p p2 : Pos}
theorem jx_c {v : V} (h : ∀ Y : Cx, PE Y e (tC v)) : JX X cv n i e (xC v) := fun a oe c pn hc hz hf => PE.imp (h _) fun σ H Q ⟨hs, w, hw, q⟩ => by cases hw; exact q
theorem jx_is {x y : Str} {k : Nat} {py : Pos} (C : Clss X.K cv sub n) (hk : k ∈ n) (hN : X.N[i]? = some x) (hv : Vis X.env.scope x) (hd : (x == ("__debug__" : Str)) = false) (hcd : (x == ("__classdict__" : Str)) = false) (hg : Gl X "isinstance") (hm : X.mg "isinstance" = none) (hgy : Gl X y) (hmy : X.mg y = some (cv k)) (hdy : (y == ("__debug__" : Str)) = false) :
    JX X cv n i (.Call (.Name "isinstance" p) [.Name x p2, .Name y py] [] pos) (xIs sub k) := fun a oe c pn hc hz hf => by
  obtain ⟨D, hD, hE⟩ := C.at_ c hc
  obtain ⟨K', hK, _⟩ := C.at_ k hk
  rw [hD] at hz
  have PX : PE (X.suite a ((a, oe) :: pn)) (.Name x p2) (tVar i) := pe_var (X := X.suite a ((a, oe) :: pn)) hN hv hd hcd
  have PY : PE (X.suite a ((a, oe) :: pn)) (.Name y py) (tC (.ref K')) := pe_glob (X := X.suite a ((a, oe) :: pn)) hgy (by rw [← hK]; exact hmy) rfl hdy
  refine PE.imp (pe_callB (X := X.suite a ((a, oe) :: pn)) (call_isE hE hz hf) hg hm (by decide +kernel) (pa_cons PX (pa_cons PY pa_nil)) (by decide) (by decide)) fun σ H Q ⟨hs, v, hv, q⟩ => ?_
  cases hv
  refine ⟨_, hs, _, .ref K', sub c k, rfl, fun u r => r, ?_, q⟩
  have := (C.is c k hc hk).1
  rw [hD, hK] at this
  exact this
theorem jxt_val (h : JX X cv n i e m) (he : ∀ env whole, isTrue e env whole = (do let v ← whole; standAt e.pos; holding [v] (truthy v))) : JXT X cv n i e m := fun a oe c pn hc hz hf =>
  PT.imp (pt_val (h a oe c pn hc hz hf) (he _)) fun σ H Q ⟨hs, b, hb, q⟩ => ⟨hs, .bl b, hb, b, rfl, q⟩
theorem jxt_not (h : JXT X cv n i e m) : JXT X cv n i (.UnaryOp .Not e pos) (xNot m) := fun a oe c pn hc hz hf =>
  PT.imp (pt_not (h a oe c pn hc hz hf)) fun σ H Q ⟨hs, b, hb, q⟩ => by
    unfold xNot at hb
    cases hm : m c with
    | none => rw [hm] at hb; cases hb
    | some v =>
      rw [hm] at hb
      cases v <;> cases hb
      exact ⟨hs, _, hm, q⟩
theorem jxp_one (h : JXT X cv n i e m) : JXP X cv n i (.BoolOp .And [e] pos) m := fun a oe c pn hc hz hf => pw_and1 (h a oe c pn hc hz hf)
theorem jxp_and {rest : List Expr} (ha : JXT X cv n i a ma) (hb : JXP X cv n i (.BoolOp .And (b :: rest) pos) mb) : JXP X cv n i (.BoolOp .And (a :: b :: rest) pos) (xAnd ma mb) := fun ad oe c pn hc hz hf =>
  PW.imp (pw_and (ha ad oe c pn hc hz hf) (hb ad oe c pn hc hz hf)) fun σ H Q ⟨hs, k, hk, q⟩ => by
    unfold xAnd at hk
    cases hm : ma c with
    | none => rw [hm] at hk; cases hk
    | some v =>
      rw [hm] at hk
      cases v with
      | bl z =>
        cases z with
        | true => exact ⟨hs, _, hm, hs, k, hk, q⟩
        | false => cases hk; exact ⟨hs, _, hm, q⟩
      | _ => cases hk
theorem jxp_t (h : JXP X cv n i e m) : JXT X cv n i e m := fun a oe c pn hc hz hf => PW.pt (h a oe c pn hc hz hf)
theorem jx_if (ht : JXT X cv n i t mt) (ha : JX X cv n i a ma) (hb : JX X cv n i b mb) : JX X cv n i (.IfExp t a b pos) (xIf mt ma mb) := fun ad oe c pn hc hz hf =>
  PE.imp (pe_ifExp (ht ad oe c pn hc hz hf) (ha ad oe c pn hc hz hf) (hb ad oe c pn hc hz hf)) fun σ H Q ⟨hs, v, hv, q⟩ => by
    unfold xIf at hv
    cases hm : mt c with
    | none => rw [hm] at hv; cases hv
    | some w =>
      rw [hm] at hv
      cases w with
      | bl z =>
        cases z with
        | true => exact ⟨hs, _, hm, hs, v, hv, q⟩
        | false => exact ⟨hs, _, hm, hs, v, hv, q⟩
      | _ => cases hv
end
def vD : V → Option D
  | .non => some .none
  | .bl b => some (.bool b)
  | .int i => some (.int i)
  | .str x => some (.str x)
  | _ => none
theorem vD_dr {v : V} {d : D} (h : vD v = some d) (F : Hp) : Dr F v d := by
  cases v <;> cases h <;> constructor
/-- the clauses: a class, and what its suite returns -/
def hdGo (sub : Nat → Nat → Bool) (n : List Nat) (c : Nat) (ρ : Rho) : List (Nat × Nat × Xm) → Fl
  | [] => .ex c ρ
  | (k, i, m) :: r => if sub c k = true then (match (m c).bind vD with
    | some d => if c ∈ n ∧ i < ρ.length then .rt d else .bad
    | none => .bad) else (if c ∈ n then hdGo sub n c ρ r else .bad)
def sTry (sub : Nat → Nat → Bool) (n : List Nat) (body : Ss) (hs : List (Nat × Nat × Xm)) : Ss := fun ρ => match body ρ with
  | .ex c ρ' => hdGo sub n c ρ' hs
  | f => f
inductive HdsJ (X : Cx) (cv : Nat → Value) (n : List Nat) : List ExceptHandler → List (Nat × Nat × Xm) → Prop
  | nil : HdsJ X cv n [] []
  | cons {x nm : Str} {k i : Nat} {e : Expr} {m : Xm} {np rp pos' : Pos} {hds : List ExceptHandler} {l : List (Nat × Nat × Xm)} (hk : k ∈ n) (hc : Names X x (cv k)) (hi : X.N[i]? = some nm) (hln : X.env.kindOf nm = some .local) (he : JX X cv n i e m) (r : HdsJ X cv n hds l) :
      HdsJ X cv n (.ExceptHandler (some (.Name x np)) (some nm) [.Return (some e) rp] pos' :: hds) ((k, i, m) :: l)
theorem js_try {X : Cx} {cv : Nat → Value} {W : WX} {sub : Nat → Nat → Bool} {n : List Nat} {body : List Stmt} {mb : Ss} {h₀ : ExceptHandler} {hds : List ExceptHandler} {l : List (Nat × Nat × Xm)} {pos : Pos} (hs : X.stack = X.env :: X.outer) (hf : X.env.frame = some X.env.locals) (hN : X.N.Nodup) (tk : Takes X W) (C : Clss X.K cv sub n)
    (hb : ∀ (W : WX) (pn : List (Addr × Obj)) (xe : Value → Shared → Prop), Takes (X.tr pn xe) W → PassesOwn (model X.prog X.w) X.A X.env xe → JFs (X.tr pn xe) cv W body mb) (hh : HdsJ X cv n (h₀ :: hds) l) : JF X cv W (.Try body (h₀ :: hds) [] [] pos) (sTry sub n mb l) := fun B => by
  -- the readings of the suites
  have mk : ∀ {hds : List ExceptHandler} {l : List (Nat × Nat × Xm)}, HdsJ X cv n hds l → ∃ L : List Hd, HdsAs X hds L ∧ ∀ (Dn : Ends) (c : Nat) (ρ : Rho) (σ : L2.St) (F H : Hp), RelB cv B ρ σ F H → c ∈ n → GotF cv W B Dn (hdGo sub n c ρ l) → wAll X.K W Dn L (cv c) none σ H := by
    intro hds l h
    induction h with
    | nil => exact ⟨[], .nil, fun Dn c ρ σ F H r hc q => q σ F H r⟩
    | @cons x nm k i e m np rp pos' hds l hk hc hi hln he _ ih =>
      obtain ⟨L, h1, h2⟩ := ih
      refine ⟨(cv k, i, fun a cls d Dn σ H => ∃ c v, cls = cv c ∧ d = none ∧ c ∈ n ∧ σ[i]? = some (some (.ref a)) ∧ m c = some v ∧ Dn.rt v H) :: L, .cons hc hi hln (fun a oe cls d pn hz hf => ?_) h1, fun Dn c ρ σ F H r hc q => ?_⟩
      · refine ⟨fun pins s σ H Dn I ⟨c, v, e1, e2, hcn, hs, hm, hq⟩ => ?_⟩
        subst e1 e2
        exact (pss_one (ps_ret (he a oe c pn hcn hz hf))).run pins s σ H Dn I ⟨hs, v, hm, hq⟩
      · refine ⟨sub c k, (C.is c k hc hk).2, fun hb a ha => ?_, fun hb => h2 Dn c ρ σ F H r hc ?_⟩
        · unfold hdGo at q
          rw [if_pos hb] at q
          cases hm : m c with
          | none => rw [hm] at q; exact q.elim
          | some v =>
            rw [hm] at q
            simp only [Option.bind_some] at q
            cases hv : vD v with
            | none => rw [hv] at q; exact q.elim
            | some d =>
              rw [hv] at q
              simp only at q
              split at q
              case isFalse => exact q.elim
              rename_i hz
              have hil : i < σ.length := by rw [← r.rel.len]; exact hz.2
              exact ⟨c, v, rfl, rfl, hc, by rw [set_get, if_pos ⟨rfl, hil⟩], hm, q v F H r.evo (vD_dr hv F)⟩
        · unfold hdGo at q
          rw [if_neg (by rw [hb]; simp), if_pos hc] at q
          exact q
  obtain ⟨L, h1, h2⟩ := mk hh
  refine PS.imp (ps_try_all (tb := fun W => rdF cv W B mb) hs hf hN tk (fun W pn xe t po => hb W pn xe t po B) h1) fun Dn σ H ⟨ρ, F, r, q⟩ => ⟨ρ, F, r, ?_⟩
  unfold sTry at q
  cases h : mb ρ with
  | nx ρ' => rw [h] at q; exact q
  | rt d => rw [h] at q; exact q
  | rn d => rw [h] at q; exact q
  | rm d ρ' => rw [h] at q; exact q
  | rb k fs => rw [h] at q; exact q
  | bad => rw [h] at q; exact q
  | ex c ρ' =>
    rw [h] at q
    intro σ' F' H' r'
    by_cases hc : c ∈ n
    · exact h2 Dn c ρ' σ' F' H' r' hc q
    · exfalso
      cases hh with
      | cons =>
        simp only [hdGo, if_neg hc, hc, false_and, if_false] at q
        split at q
        · split at q <;> exact q
        · exact q
end U
set_option Elab.async false
set_option linter.all false
set_option maxRecDepth 100000
set_option maxHeartbeats 4000000
namespace U
open PySem PySem.Spec PyProof.Rows L2
/-! ### the translation: each result carries its proof -/
structure S0 where
  N : List Str
  k : Nat
  fns : List (Str × Nat × (List D → Res))
  cls : List (Str × Nat)
  cst : List (Str × D)
  sub : Nat → Nat → Bool
  nc : List Nat
  ex : Program → World → PySem.W.Frag → (Str → Option Value) → Heap → (Nat → Value) → Prop
structure Gd (S : S0) (cv : Nat → Value) (X : Cx) (W : WX) : Prop where
  nN : X.N = S.N
  nd : X.N.Nodup
  calm : X.calm = true
  room : Room S.k X.A
  tk : Takes X W
  blt : ∀ b ∈ bltNames, X.mg b = none
  fn : ∀ p ∈ S.fns, Fn X cv S.k p.1 p.2.1 p.2.2
  cls : ∀ p ∈ S.cls, ∃ C, cv p.2 = .ref C ∧ ExC X.K X.mg p.1 C
  cst : ∀ p ∈ S.cst, ∃ u v, X.mg p.1 = some u ∧ RelV v u ∧ ∀ F, Dr F v p.2
  ext : S.ex X.prog X.w X.K X.mg X.base cv
variable {S : S0}
def visB (sc : Scope) (x : Str) : Bool := match sc.names.lookup x with
  | some .local => true
  | some .cell => true
  | some .free => true
  | _ => false
theorem vis_of {sc : Scope} {x : Str} (h : visB sc x = true) : Vis sc x := by
  unfold visB at h
  unfold Vis
  split at h <;> simp_all
def locB (sc : Scope) (x : Str) : Bool := match sc.names.lookup x with
  | some .local => true
  | some .cell => true
  | _ => false
theorem loc_of {sc : Scope} {x : Str} (h : locB sc x = true) : L2.Loc sc x := by
  unfold locB at h
  unfold L2.Loc
  split at h <;> simp_all
def isLocB (sc : Scope) (x : Str) : Bool := match sc.names.lookup x with
  | some .local => true
  | _ => false
theorem isLoc_of {sc : Scope} {x : Str} (h : isLocB sc x = true) : sc.names.lookup x = some .local := by
  unfold isLocB at h
  split at h <;> simp_all
def glB (sc : Scope) (x : Str) : Bool := (match sc.names.lookup x with
  | some .globalImplicit => true
  | _ => false) && !(x == ("__debug__" : Str))
theorem gl_of {sc : Scope} {x : Str} (h : glB sc x = true) : sc.names.lookup x = some .globalImplicit ∧ (x == ("__debug__" : Str)) = false := by
  unfold glB at h
  have h' := Bool.and_eq_true_iff.mp h
  refine ⟨?_, by simpa using h'.2⟩
  have := h'.1
  split at this <;> simp_all
def okName (x : Str) : Bool := !(x == ("__debug__" : Str)) && !(x == ("__classdict__" : Str))
theorem okName_of {x : Str} (h : okName x = true) : (x == ("__debug__" : Str)) = false ∧ (x == ("__classdict__" : Str)) = false := by
  have h' := Bool.and_eq_true_iff.mp h
  exact ⟨by simpa using h'.1, by simpa using h'.2⟩
structure OkE (S : S0) (sc : Scope) (e : Expr) where
  m : Sm
  lk : List Nat
  ok : ∀ cv X W, Gd S cv X W → X.env.scope = sc → JE X cv W e m
structure OkW (S : S0) (sc : Scope) (e : Expr) where
  m : Sm
  lk : List Nat
  ok : ∀ cv X W, Gd S cv X W → X.env.scope = sc → JW X cv W e m
structure OkT (S : S0) (sc : Scope) (e : Expr) where
  m : Sm
  lk : List Nat
  ok : ∀ cv X W, Gd S cv X W → X.env.scope = sc → JT X cv W e m
structure OkP (S : S0) (sc : Scope) (e : Expr) where
  m : Sm
  lk : List Nat
  ok : ∀ cv X W, Gd S cv X W → X.env.scope = sc → JP X cv W e m
structure OkA (S : S0) (sc : Scope) (es : List Expr) where
  ms : List Sm
  lk : List Nat
  n : ms.length = es.length
  st : es.all notStar = true
  ok : ∀ cv X W, Gd S cv X W → X.env.scope = sc → JA X cv W es ms
structure OkB (S : S0) (sc : Scope) (es : List Expr) where
  ms : List Sm
  lk : List Nat
  n : ms.length = es.length
  st : es.all notStar = true
  ok : ∀ cv X W, Gd S cv X W → X.env.scope = sc → JB X cv W es ms
structure OkI (S : S0) (sc : Scope) (tg e : Expr) where
  m : SmL
  lk : List Nat
  ok : ∀ cv X W, Gd S cv X W → X.env.scope = sc → JI X cv W tg e m
def OkE.w {sc : Scope} {e : Expr} (r : OkE S sc e) : OkW S sc e := ⟨r.m, r.lk, fun cv X W g h => (r.ok cv X W g h).w⟩
def slotOf (S : S0) (sc : Scope) (x : Str) : Option { i : Nat // S.N[i]? = some x ∧ Vis sc x ∧ (x == ("__debug__" : Str)) = false ∧ (x == ("__classdict__" : Str)) = false } :=
  let i := S.N.findIdx (· == x)
  if h : S.N[i]? = some x ∧ visB sc x = true ∧ okName x = true then some ⟨i, h.1, vis_of h.2.1, okName_of h.2.2⟩ else none
def cName (S : S0) (sc : Scope) (x : Str) (p : Pos) : Option (OkE S sc (.Name x p)) :=
  match slotOf S sc x with
  | some ⟨i, h⟩ => some ⟨eV i, [i], fun cv X W g e => j_var (by rw [g.nN]; exact h.1) (by rw [e]; exact h.2.1) h.2.2.1 h.2.2.2⟩
  | none => match hf : S.cst.find? (fun q => q.1 == x) with
    | some q => if hg : glB sc x = true then some ⟨eC q.2, [], fun cv X W g e => by
        obtain ⟨u, v, h1, h2, h3⟩ := g.cst q (List.mem_of_find?_eq_some hf)
        have hx : q.1 = x := by simpa using List.find?_some hf
        rw [hx] at h1
        exact j_c (pe_glob (by unfold Gl PySem.Env.kindOf; rw [e]; exact (gl_of hg).1) h1 h2 (gl_of hg).2) h3⟩ else none
    | none => none
def wName (S : S0) (sc : Scope) (x : Str) (p : Pos) : Option (OkW S sc (.Name x p)) :=
  match slotOf S sc x with
  | some ⟨i, h⟩ => some ⟨eK i, [], fun cv X W g e => j_pk (by rw [g.nN]; exact h.1) (by rw [e]; exact h.2.1) h.2.2.1 h.2.2.2⟩
  | none => (cName S sc x p).map OkE.w
def cConst (S : S0) (sc : Scope) (c : Const) (j : Nat) (p : Pos) : Option (OkE S sc (.Constant c j p)) := match c with
  | .int i => some ⟨eC (.int i), [], fun cv X W g e => j_c pe_int fun F => .int i⟩
  | .bool b => some ⟨eC (.bool b), [], fun cv X W g e => j_c pe_bl fun F => .bl b⟩
  | .none => some ⟨eC .none, [], fun cv X W g e => j_c pe_non fun F => .non⟩
  | .str x => some ⟨eC (.str x), [], fun cv X W g e => j_c pe_str fun F => .str x⟩
  | _ => none
structure OkOp (op : Operator) where
  g : D → D → Rp
  ok : ∀ X, OpR X (binaryOp op) (rG g)
def opOf : (op : Operator) → Option (OkOp op)
  | .Add => some ⟨gAdd, fun X => o_add⟩
  | .Sub => some ⟨gSub, fun X => o_sub⟩
  | .Mult => some ⟨gMul, fun X => o_mul⟩
  | .FloorDiv => some ⟨gFdiv, fun X => o_fdiv⟩
  | .Mod => some ⟨gMod, fun X => o_mod⟩
  | .Pow => some ⟨gPow, fun X => o_pow⟩
  | _ => none
def IsB (g : D → D → Rp) : Prop := ∀ x y, (∃ b, g x y = .ok (.bool b)) ∨ g x y = .bad
structure OkCmp (op : CmpOp) where
  g : D → D → Rp
  b : IsB g
  ok : ∀ X, X.A.units + 65 < cLine → OpR X (compareOp op) (rG g)
theorem b_lt : IsB gLt := fun x y => by cases x <;> cases y <;> first | exact .inr rfl | exact .inl ⟨_, rfl⟩
theorem b_le : IsB gLe := fun x y => by cases x <;> cases y <;> first | exact .inr rfl | exact .inl ⟨_, rfl⟩
theorem b_gt : IsB gGt := fun x y => by cases x <;> cases y <;> first | exact .inr rfl | exact .inl ⟨_, rfl⟩
theorem b_ge : IsB gGe := fun x y => by cases x <;> cases y <;> first | exact .inr rfl | exact .inl ⟨_, rfl⟩
theorem b_eq : IsB gEq := fun x y => by
  unfold gEq
  split
  · exact .inl ⟨_, rfl⟩
  · split
    · exact .inl ⟨_, rfl⟩
    · exact .inr rfl
theorem b_ne : IsB gNe := fun x y => by
  unfold gNe
  split
  · exact .inl ⟨_, rfl⟩
  · split
    · exact .inl ⟨_, rfl⟩
    · exact .inr rfl
theorem b_is : IsB gIs := fun x y => by cases x <;> cases y <;> first | exact .inr rfl | exact .inl ⟨_, rfl⟩
theorem b_isnot : IsB gIsNot := fun x y => by cases x <;> cases y <;> first | exact .inr rfl | exact .inl ⟨_, rfl⟩
/-! in, not in -/
def inAny (d : D) (ds : List D) : Bool := ds.any fun z => PyData.eqv z d
def gIn : D → D → Rp
  | d, .list ds => if SeqAt.shaped d = true ∧ SeqAt.shaped (.list ds) = true then .ok (.bool (inAny d ds)) else .bad
  | d, .tuple ds => if SeqAt.shaped d = true ∧ SeqAt.shaped (.tuple ds) = true then .ok (.bool (inAny d ds)) else .bad
  | .str x, .str y => .ok (.bool (!(Builtin.Str.occurrences y x 0 y.length 1).isEmpty))
  | _, _ => .bad
def gNotIn : D → D → Rp
  | d, .list ds => if SeqAt.shaped d = true ∧ SeqAt.shaped (.list ds) = true then .ok (.bool (!inAny d ds)) else .bad
  | .str x, .str y => .ok (.bool (!(!(Builtin.Str.occurrences y x 0 y.length 1).isEmpty)))
  | _, _ => .bad
theorem b_in : IsB gIn := fun x y => by
  unfold gIn
  split
  · split
    · exact .inl ⟨_, rfl⟩
    · exact .inr rfl
  · split
    · exact .inl ⟨_, rfl⟩
    · exact .inr rfl
  · exact .inl ⟨_, rfl⟩
  · exact .inr rfl
theorem b_notin : IsB gNotIn := fun x y => by
  unfold gNotIn
  split
  · split
    · exact .inl ⟨_, rfl⟩
    · exact .inr rfl
  · exact .inl ⟨_, rfl⟩
  · exact .inr rfl
theorem o_in {X : Cx} (hu : X.A.units + 65 < cLine) : OpR X (compareOp .In) (rG gIn) := by
  intro pins s σ H x y v u Q I rx ry ⟨F, dx, dy, le, wx, wy, q⟩
  have deep : ∀ ds, dy = .list ds → GotP F H Q (if SeqAt.shaped dx = true ∧ SeqAt.shaped (.list ds) = true then .ok (.bool (inAny dx ds)) else .bad) → wpAny (model X.prog X.w) X.A (compareOp .In v u) (EP X pins σ Q) X.xe s := fun ds e q => by
    subst e
    obtain ⟨⟨h1, h2⟩, q⟩ := if_bad q
    exact op_inD hu pins s σ H x y v u Q I rx ry ⟨dx, ds, (wx.dp le).dp (SeqAt.canLay_of_shaped h1), (wy.dp le).dp (SeqAt.canLay_of_shaped h2), h1, h2, QD.bool le q⟩
  have deepT : ∀ ds, dy = .tuple ds → GotP F H Q (if SeqAt.shaped dx = true ∧ SeqAt.shaped (.tuple ds) = true then .ok (.bool (inAny dx ds)) else .bad) → wpAny (model X.prog X.w) X.A (compareOp .In v u) (EP X pins σ Q) X.xe s := fun ds e q => by
    subst e
    obtain ⟨⟨h1, h2⟩, q⟩ := if_bad q
    obtain ⟨as, r1⟩ := Dp.reads I dx x v ((wx.dp le).dp (SeqAt.canLay_of_shaped h1)) rx
    obtain ⟨bs, r2⟩ := Dp.reads I (.tuple ds) y u ((wy.dp le).dp (SeqAt.canLay_of_shaped h2)) ry
    exact SeqAt.in_tuple_reads r2 r1 (SeqAt.canLay_of_shaped h2) (SeqAt.canLay_of_shaped h1) (room_in_shaped h1 hu) ⟨.bl _, H, I, rfl, QD.bool le q⟩
  cases dy <;> cases dx <;> try exact q.elim
  case str.str => 
    cases wx.str; cases wy.str
    exact op_in_str pins s σ H _ _ v u Q I rx ry ⟨_, _, rfl, rfl, QD.bool le q⟩
  all_goals first | exact deep _ rfl q | exact deepT _ rfl q
theorem o_notin {X : Cx} (hu : X.A.units + 65 < cLine) : OpR X (compareOp .NotIn) (rG gNotIn) := by
  intro pins s σ H x y v u Q I rx ry ⟨F, dx, dy, le, wx, wy, q⟩
  have deep : ∀ ds, dy = .list ds → GotP F H Q (if SeqAt.shaped dx = true ∧ SeqAt.shaped (.list ds) = true then .ok (.bool (!inAny dx ds)) else .bad) → wpAny (model X.prog X.w) X.A (compareOp .NotIn v u) (EP X pins σ Q) X.xe s := fun ds e q => by
    subst e
    obtain ⟨⟨h1, h2⟩, q⟩ := if_bad q
    exact op_notInD hu pins s σ H x y v u Q I rx ry ⟨dx, ds, (wx.dp le).dp (SeqAt.canLay_of_shaped h1), (wy.dp le).dp (SeqAt.canLay_of_shaped h2), h1, h2, QD.bool le q⟩
  cases dy <;> cases dx <;> try exact q.elim
  case str.str => 
    cases wx.str; cases wy.str
    exact op_notin_str pins s σ H _ _ v u Q I rx ry ⟨_, _, rfl, rfl, QD.bool le q⟩
  all_goals exact deep _ rfl q
def cmpOf : (op : CmpOp) → Option (OkCmp op)
  | .Lt => some ⟨gLt, b_lt, fun X _ => o_lt⟩
  | .LtE => some ⟨gLe, b_le, fun X _ => o_le⟩
  | .Gt => some ⟨gGt, b_gt, fun X _ => o_gt⟩
  | .GtE => some ⟨gGe, b_ge, fun X _ => o_ge⟩
  | .Eq => some ⟨gEq, b_eq, fun X hu => o_eq (by omega)⟩
  | .NotEq => some ⟨gNe, b_ne, fun X hu => o_ne (by omega)⟩
  | .Is => some ⟨gIs, b_is, fun X _ => o_is⟩
  | .IsNot => some ⟨gIsNot, b_isnot, fun X _ => o_isnot⟩
  | .In => some ⟨gIn, b_in, fun X hu => o_in hu⟩
  | .NotIn => some ⟨gNotIn, b_notin, fun X hu => o_notin hu⟩
theorem Gd.hu {cv : Nat → Value} {X : Cx} {W : WX} (g : Gd S cv X W) : X.A.units + 65 < cLine := by have := g.room.un; omega
section
variable {X : Cx} {cv : Nat → Value} {W : WX} {a b c : Expr} {ma mb mc : Sm} {pos : Pos}
theorem jt_cmp {op : CmpOp} {g : D → D → Rp} (ho : OpR X (compareOp op) (rG g)) (hb' : IsB g) (ha : JW X cv W a ma) (hb : JW X cv W b mb) (hm : behindInMarks op b = false) : JT X cv W (.Compare a [op] [b] pos) (e2 g ma mb) :=
  PT.imp (pt_cmpR ho ha hb hm) fun σ H Q ⟨ρ, F, r, q⟩ => by
    refine rd2 (g := fun x y => (g x y).up) (R := fun z F H => GotT cv W F H σ Q z) r (fun _ _ _ h => h) (fun _ _ h => h) (fun _ _ _ _ _ e h => GotT.evo e h) q fun x y dx dy F H le wx wy h => ⟨F, dx, dy, le, wx, wy, ?_⟩
    rcases hb' dx dy with ⟨k, hk⟩ | hk
    · rw [hk] at h ⊢
      obtain ⟨k', e, h⟩ := h
      cases e
      exact fun v F1 H1 ev hd => by cases hd; exact ⟨k, rfl, h F1 H1 ev⟩
    · rw [hk] at h
      exact h.elim
/-! a op b op c -/
def eChain (g g' : D → D → Rp) (ma mb mc : Sm) : Sm := fun ρ => (ma ρ).bind fun x => (mb ρ).bind fun y => match g x y with
  | .ok (.bool true) => (mc ρ).bind fun z => (g' y z).up
  | .ok (.bool false) => .ok (.bool false)
  | _ => .bad
theorem rd_chain {g g' : D → D → Rp} (hg : IsB g) {σ : L2.St} {H F : Hp} {ρ : Rho} {R : Res → Hp → Hp → Prop} (r : Rel cv ρ σ F H) (hX : ∀ c F H, R (.exc c) F H → QX cv W F H σ c) (hB : ∀ F H, ¬ R .bad F H) (mono : ∀ z F H F' H', Evo F H F' H' → R z F H → R z F' H')
    (q : R (eChain g g' ma mb mc ρ) F H) {Q : VK} (hP : ∀ z F H, Ex F H → R z.up F H → GotP F H Q z) (hF : ∀ F H, Ex F H → R (.ok (.bool false)) F H → Q (.bl false) H) : tChain (rG g) (rG g') (rdW cv W ma) (rdW cv W mb) (rdW cv W mc) σ H Q := by
  unfold tChain
  refine rd2 (g := fun x y => match g x y with
    | .ok (.bool true) => (mc ρ).bind fun z => (g' y z).up
    | .ok (.bool false) => .ok (.bool false)
    | _ => .bad) (R := fun z F H => Rel cv ρ σ F H ∧ R z F H) r (fun c F H h => hX c F H h.2) (fun F H h => hB F H h.2) (fun z F H F' H' e h => ⟨h.1.evo e, mono z F H F' H' e h.2⟩) ⟨r, q⟩ fun x y dx dy F H le wx wy h => ?_
  obtain ⟨r, h⟩ := h
  refine ⟨F, dx, dy, le, wx, wy, ?_⟩
  rcases hg dx dy with ⟨k, hk⟩ | hk
  · rw [hk] at h ⊢
    intro v F1 H1 ev hd
    cases hd
    refine ⟨k, rfl, ?_⟩
    cases k with
    | true =>
      rw [if_pos rfl]
      simp only at h
      refine ⟨ρ, F1, r.evo ev, ?_⟩
      have fin : ∀ d, R (g' dy d).up F H → QW F1 H1 d fun w H4 => rG g' y w H4 Q := fun d h v2 F2 H2 ev2 wk2 => ⟨F2, dy, d, ev2.le, (wy.evo ev).evo ev2, wk2, hP _ F2 H2 ev2.le (mono _ _ _ _ _ (ev.trans ev2) h)⟩
      cases hc : mc ρ with
      | ok d => rw [hc] at h; exact fin d h
      | new d => rw [hc] at h; exact fin _ h
      | exc c => rw [hc] at h; exact (hX _ _ _ h).evo ev
      | bad => rw [hc] at h; exact (hB _ _ h).elim
    | false =>
      rw [if_neg (by simp)]
      exact hF F1 H1 ev.le (mono _ _ _ _ _ ev h)
  · rw [hk] at h
    exact (hB _ _ h).elim
theorem j_chain {op op' : CmpOp} {g g' : D → D → Rp} (ho : OpR X (compareOp op) (rG g)) (ho' : OpR X (compareOp op') (rG g')) (hg : IsB g) (ha : JW X cv W a ma) (hb : JW X cv W b mb) (hc : JW X cv W c mc) (hm : lastMarks [op, op'] [b, c] = false) : JE X cv W (.Compare a [op, op'] [b, c] pos) (eChain g g' ma mb mc) :=
  PE.imp (pe_chain ho ho' ha hb hc hm) fun σ H Q ⟨ρ, F, r, q⟩ => rd_chain hg r (R := fun z F H => GotE cv W F H σ Q z) (fun _ _ _ h => h) (fun _ _ h => h) (fun _ _ _ _ _ e h => GotE.evo e h) q (fun z F H le h => GotP.of h) fun F H le h => QD.bool le h
theorem jt_chain {op op' : CmpOp} {g g' : D → D → Rp} (ho : OpR X (compareOp op) (rG g)) (ho' : OpR X (compareOp op') (rG g')) (hg : IsB g) (hg' : IsB g') (ha : JW X cv W a ma) (hb : JW X cv W b mb) (hc : JW X cv W c mc) (hm : lastMarks [op, op'] [b, c] = false) : JT X cv W (.Compare a [op, op'] [b, c] pos) (eChain g g' ma mb mc) :=
  PT.imp (pt_chain ho ho' ha hb hc hm) fun σ H Q ⟨ρ, F, r, q⟩ => by
    unfold tTest
    refine rd_chain hg r (R := fun z F H => GotT cv W F H σ Q z ∧ ((∃ b, z = .ok (.bool b)) ∨ z = .bad ∨ ∃ c, z = .exc c)) (fun _ _ _ h => h.1) (fun _ _ h => h.1) (fun _ _ _ _ _ e h => ⟨GotT.evo e h.1, h.2⟩) ⟨q, ?_⟩ (fun z F H le h => ?_) fun F H le h => ?_
    · unfold eChain
      cases ma ρ with
      | exc c => exact .inr (.inr ⟨c, rfl⟩)
      | bad => exact .inr (.inl rfl)
      | _ =>
        simp only [Res.bind_ok, Res.bind_new]
        cases mb ρ with
        | exc c => exact .inr (.inr ⟨c, rfl⟩)
        | bad => exact .inr (.inl rfl)
        | _ =>
          simp only [Res.bind_ok, Res.bind_new]
          split
          · cases mc ρ with
            | exc c => exact .inr (.inr ⟨c, rfl⟩)
            | bad => exact .inr (.inl rfl)
            | _ =>
              simp only [Res.bind_ok, Res.bind_new]
              rename_i y _ _ _ z
              first
                | (rcases hg' _ _ with ⟨k, hk⟩ | hk <;> rw [hk] <;> first | exact .inl ⟨_, rfl⟩ | exact .inr (.inl rfl))
          · exact .inl ⟨_, rfl⟩
          · exact .inr (.inl rfl)
    · obtain ⟨h, e⟩ := h
      rcases e with ⟨b, e⟩ | e | ⟨c, e⟩
      · cases z <;> cases e
        obtain ⟨k, e, h⟩ := h
        cases e
        exact fun v F1 H1 ev hd => by cases hd; exact ⟨_, rfl, h F1 H1 ev⟩
      · cases z <;> cases e
        exact h.elim
      · cases z <;> cases e
    · obtain ⟨k, e, h⟩ := h.1
      cases e
      exact ⟨false, rfl, h F H (Evo.refl le)⟩
end
end U
set_option Elab.async false
set_option linter.all false
set_option maxRecDepth 100000
set_option maxHeartbeats 4000000
namespace U
open PySem PySem.Spec PyProof.Rows L2
structure TR (S : S0) where
  e : (sc : Scope) → (e : Expr) → Option (OkE S sc e)
  t : (sc : Scope) → (e : Expr) → Option (OkT S sc e)
  w : (sc : Scope) → (e : Expr) → Option (OkW S sc e)
variable {S : S0}
def wOf (r : TR S) (sc : Scope) : (e : Expr) → Option (OkW S sc e)
  | .Name x p => wName S sc x p
  | .Attribute o f p => (match r.w sc (.Attribute o f p) with
    | some x => some x
    | none => (r.e sc (.Attribute o f p)).map OkE.w)
  | e => (r.e sc e).map OkE.w
def aOf (r : TR S) (sc : Scope) : (es : List Expr) → Option (OkA S sc es)
  | [] => some ⟨[], [], rfl, rfl, fun cv X W g h => ja_nil⟩
  | e :: es => (r.e sc e).bind fun a => (aOf r sc es).bind fun b => if hs : notStar e = true then some ⟨a.m :: b.ms, a.lk ++ b.lk, by simp [b.n], by simp [hs, b.st], fun cv X W g h => ja_cons (a.ok cv X W g h).s (b.ok cv X W g h) hs⟩ else none
def bOf (r : TR S) (sc : Scope) : (es : List Expr) → Option (OkB S sc es)
  | [] => some ⟨[], [], rfl, rfl, fun cv X W g h => jb_nil⟩
  | e :: es => (wOf r sc e).bind fun a => (bOf r sc es).bind fun b => if hs : notStar e = true then some ⟨a.m :: b.ms, a.lk ++ b.lk, by simp [b.n], by simp [hs, b.st], fun cv X W g h => jb_cons (a.ok cv X W g h) (b.ok cv X W g h) hs⟩ else none
theorem Gd.gl {cv : Nat → Value} {X : Cx} {W : WX} {sc : Scope} {x : Str} (e : X.env.scope = sc) (h : glB sc x = true) : Gl X x := by
  unfold Gl PySem.Env.kindOf; rw [e]; exact (gl_of h).1
/-- and, or as values -/
def vOf (r : TR S) (sc : Scope) (op : BoolOp) (pos : Pos) : (vs : List Expr) → Option (OkE S sc (.BoolOp op vs pos))
  | [] => none
  | [a] => (r.e sc a).map fun x => ⟨x.m, x.lk, fun cv X W g h => j_one (x.ok cv X W g h)⟩
  | a :: b :: rest => (r.e sc a).bind fun x => (vOf r sc op pos (b :: rest)).bind fun y => match op, y with
    | .And, y => some ⟨eAnd x.m y.m, x.lk ++ y.lk, fun cv X W g h => j_and (x.ok cv X W g h).s (y.ok cv X W g h)⟩
    | .Or, y => some ⟨eOr x.m y.m, x.lk ++ y.lk, fun cv X W g h => j_or (x.ok cv X W g h).s (y.ok cv X W g h)⟩
/-- .. as tests -/
def pOf (r : TR S) (sc : Scope) (op : BoolOp) (pos : Pos) : (vs : List Expr) → Option (OkP S sc (.BoolOp op vs pos))
  | [] => none
  | [a] => (r.t sc a).map fun x => ⟨x.m, x.lk, fun cv X W g h => jp_one (by cases op <;> simp) (x.ok cv X W g h)⟩
  | a :: b :: rest => (r.t sc a).bind fun x => (pOf r sc op pos (b :: rest)).bind fun y => match op, y with
    | .And, y => some ⟨eAnd x.m y.m, x.lk ++ y.lk, fun cv X W g h => jp_and (x.ok cv X W g h) (y.ok cv X W g h)⟩
    | .Or, y => some ⟨eOr x.m y.m, x.lk ++ y.lk, fun cv X W g h => jp_or (x.ok cv X W g h) (y.ok cv X W g h)⟩
/-- built-in functions -/
structure OkF (x : Str) where
  g : List D → Rp
  ok : ∀ X : Cx, X.calm = true → (∃ id, bootBuiltins x = some (.builtin id) ∧ CallR X (.builtin id) (rGL g)) ∨ ∃ T, bootBuiltins x = some (.type T) ∧ CallR X (.type T) (rGL g)
  nm : x ≠ "__name__"
  mem : x ∈ bltNames
def fnOf (x : Str) : Option (OkF x) :=
  if h : x = "len" then some ⟨bLen, fun X _ => .inl ⟨"len", by rw [h]; decide +kernel, c_len⟩, by rw [h]; decide +kernel, by rw [h]; decide +kernel⟩
  else if h : x = "tuple" then some ⟨bTuple, fun X _ => .inr ⟨"tuple", by rw [h]; decide +kernel, c_tuple⟩, by rw [h]; decide +kernel, by rw [h]; decide +kernel⟩
  else if h : x = "list" then some ⟨bList, fun X _ => .inr ⟨"list", by rw [h]; decide +kernel, c_list⟩, by rw [h]; decide +kernel, by rw [h]; decide +kernel⟩
  else if h : x = "int" then some ⟨bInt, fun X _ => .inr ⟨"int", by rw [h]; decide +kernel, c_int⟩, by rw [h]; decide +kernel, by rw [h]; decide +kernel⟩
  else if h : x = "str" then some ⟨bStr, fun X _ => .inr ⟨"str", by rw [h]; decide +kernel, c_str⟩, by rw [h]; decide +kernel, by rw [h]; decide +kernel⟩
  else if h : x = "abs" then some ⟨bAbs, fun X _ => .inl ⟨"abs", by rw [h]; decide +kernel, c_abs⟩, by rw [h]; decide +kernel, by rw [h]; decide +kernel⟩
  else if h : x = "max" then some ⟨bMax, fun X hc => .inl ⟨"max", by rw [h]; decide +kernel, c_max hc⟩, by rw [h]; decide +kernel, by rw [h]; decide +kernel⟩
  else if h : x = "min" then some ⟨bMin, fun X hc => .inl ⟨"min", by rw [h]; decide +kernel, c_min hc⟩, by rw [h]; decide +kernel, by rw [h]; decide +kernel⟩
  else if h : x = "sum" then some ⟨bSum, fun X hc => .inl ⟨"sum", by rw [h]; decide +kernel, c_sum hc⟩, by rw [h]; decide +kernel, by rw [h]; decide +kernel⟩
  else none
def tyOf (x : Str) : Option { t : Ty // x = (t.name : Str) } :=
  if h : x = "int" then some ⟨.int, h⟩ else if h : x = "bool" then some ⟨.bool, h⟩ else if h : x = "tuple" then some ⟨.tuple, h⟩ else if h : x = "str" then some ⟨.str, h⟩ else if h : x = "list" then some ⟨.list, h⟩ else none
theorem all_cons {e : Expr} {es : List Expr} (h : (e :: es).all notStar = true) : notStar e = true ∧ es.all notStar = true := by
  simpa using h
/-- f(..) -/
def callOf (r : TR S) (sc : Scope) (x : Str) (p : Pos) (pos : Pos) : (es : List Expr) → Option (OkE S sc (.Call (.Name x p) es [] pos))
  | [] => none
  | e :: es => if hg : glB sc x = true then
      match hf : S.fns.find? (fun q => q.1 == x) with
      | some q => (aOf r sc (e :: es)).bind fun a => if hn : (e :: es).length = q.2.1 then some ⟨eF q.2.2 a.ms, a.lk, fun cv X W g h => by
          have hx : q.1 = x := by simpa using List.find?_some hf
          have F := g.fn q (List.mem_of_find?_eq_some hf)
          rw [hx] at F
          exact j_call F g.room g.tk (Gd.gl (cv := cv) (W := W) h hg) (gl_of hg).2 (a.ok cv X W g h) (by rw [a.n]; exact hn) (all_cons a.st).1 (all_cons a.st).2⟩ else none
      | none => match fnOf x with
        | some f => (bOf r sc (e :: es)).map fun a => ⟨eL f.g a.ms, a.lk, fun cv X W g h => by
            rcases f.ok X g.calm with ⟨id, h1, h2⟩ | ⟨T, h1, h2⟩
            · exact j_blt h2 (Gd.gl (cv := cv) (W := W) h hg) (g.blt x f.mem) h1 (a.ok cv X W g h) f.nm (gl_of hg).2 (all_cons a.st).1 (all_cons a.st).2
            · exact j_ty h2 (Gd.gl (cv := cv) (W := W) h hg) (g.blt x f.mem) h1 (a.ok cv X W g h) f.nm (gl_of hg).2 (all_cons a.st).1 (all_cons a.st).2⟩
        | none => if hi : x = "isinstance" then (match e, es with
          | e, [.Name y p2] => (wOf r sc e).bind fun a => (tyOf y).bind fun t => if hz : notStar e = true ∧ glB sc y = true ∧ y ∈ bltNames then some ⟨e1 (gIsi t.1) a.m, a.lk, fun cv X W g h => by
              subst hi
              exact j_isi (a.ok cv X W g h) (Gd.gl (cv := cv) (W := W) h hg) (g.blt _ (by decide +kernel)) t.2 (Gd.gl (cv := cv) (W := W) h hz.2.1) (g.blt _ hz.2.2) hz.1⟩ else none
          | _, _ => none) else none
    else none
def plainIx : Expr → Bool
  | .Slice .. => false
  | _ => true
theorem plainIx_of {b : Expr} (h : plainIx b = true) : PlainIx b := fun o i => by
  cases b <;> first | rfl | cases h
def partOf (r : TR S) (sc : Scope) : (o : Option Expr) → Option { p : Option Sm × List Nat // ∀ cv X W, Gd S cv X W → X.env.scope = sc → JO X cv W o p.1 }
  | none => some ⟨(none, []), fun cv X W g h => .none⟩
  | some e => (wOf r sc e).map fun a => ⟨(some a.m, a.lk), fun cv X W g h => .some (a.ok cv X W g h)⟩
def subOf (r : TR S) (sc : Scope) (a : Expr) (pos : Pos) : (i : Expr) → Option (OkE S sc (.Subscript a i pos))
  | .Slice lo hi none p2 => (wOf r sc a).bind fun x => (partOf r sc lo).bind fun l => (partOf r sc hi).map fun u => ⟨eSl x.m l.1.1 u.1.1, x.lk ++ l.1.2 ++ u.1.2, fun cv X W g h => j_sl (x.ok cv X W g h) (l.2 cv X W g h) (u.2 cv X W g h)⟩
  | i => (wOf r sc a).bind fun x => (wOf r sc i).bind fun y => if hp : plainIx i = true then some ⟨e2 gIx x.m y.m, x.lk ++ y.lk, fun cv X W g h => j_ix o_ix (x.ok cv X W g h) (y.ok cv X W g h) (plainIx_of hp)⟩ else none
def cmpE (r : TR S) (sc : Scope) (a : Expr) (pos : Pos) : (ops : List CmpOp) → (bs : List Expr) → Option (OkE S sc (.Compare a ops bs pos))
  | [op], [b] => (cmpOf op).bind fun o => (wOf r sc a).bind fun x => (wOf r sc b).bind fun y => if hm : behindInMarks op b = false then some ⟨e2 o.g x.m y.m, x.lk ++ y.lk, fun cv X W g h => j_cmp (o.ok X g.hu) (x.ok cv X W g h) (y.ok cv X W g h) hm⟩ else none
  | [op, op'], [b, c] => (cmpOf op).bind fun o => (cmpOf op').bind fun o' => (wOf r sc a).bind fun x => (wOf r sc b).bind fun y => (wOf r sc c).bind fun z => if hm : lastMarks [op, op'] [b, c] = false then some ⟨eChain o.g o'.g x.m y.m z.m, x.lk ++ y.lk ++ z.lk, fun cv X W g h => j_chain (o.ok X g.hu) (o'.ok X g.hu) o.b (x.ok cv X W g h) (y.ok cv X W g h) (z.ok cv X W g h) hm⟩ else none
  | _, _ => none
def cmpT (r : TR S) (sc : Scope) (a : Expr) (pos : Pos) : (ops : List CmpOp) → (bs : List Expr) → Option (OkT S sc (.Compare a ops bs pos))
  | [op], [b] => (cmpOf op).bind fun o => (wOf r sc a).bind fun x => (wOf r sc b).bind fun y => if hm : behindInMarks op b = false then some ⟨e2 o.g x.m y.m, x.lk ++ y.lk, fun cv X W g h => jt_cmp (o.ok X g.hu) o.b (x.ok cv X W g h) (y.ok cv X W g h) hm⟩ else none
  | [op, op'], [b, c] => (cmpOf op).bind fun o => (cmpOf op').bind fun o' => (wOf r sc a).bind fun x => (wOf r sc b).bind fun y => (wOf r sc c).bind fun z => if hm : lastMarks [op, op'] [b, c] = false then some ⟨eChain o.g o'.g x.m y.m z.m, x.lk ++ y.lk ++ z.lk, fun cv X W g h => jt_chain (o.ok X g.hu) (o'.ok X g.hu) o.b o'.b (x.ok cv X W g h) (y.ok cv X W g h) (z.ok cv X W g h) hm⟩ else none
  | _, _ => none
def noSet : Expr → Bool
  | .Set .. => false
  | _ => true
theorem foldSet_of {e : Expr} {env : PySem.Env} (h : noSet e = true) (x : Value) : foldedSetIterable e env x = pure x := by
  cases e <;> first | rfl | cases h
def seqI (r : TR S) (sc : Scope) (tg e : Expr) : Option (OkI S sc tg e) := (r.e sc e).map fun a => ⟨iSeq a.m, a.lk, fun cv X W g h => ji_seq (a.ok cv X W g h).s⟩
def iOf (r : TR S) (sc : Scope) : (tg e : Expr) → Option (OkI S sc tg e)
  | tg, .Call (.Name x p) es [] pos => if hx : x = "range" then (if hg : glB sc x = true then (match es with
      | [a] => (wOf r sc a).bind fun u => if hs : notStar a = true then some ⟨iR1 u.m, u.lk, fun cv X W g h => by subst hx; exact ji_r1 (Gd.gl (cv := cv) (W := W) h hg) (g.blt _ (by decide +kernel)) (u.ok cv X W g h) hs⟩ else none
      | [a, b] => (wOf r sc a).bind fun u => (wOf r sc b).bind fun v => if hs : notStar a = true ∧ notStar b = true then some ⟨iR2 u.m v.m, u.lk ++ v.lk, fun cv X W g h => by subst hx; exact ji_r2 (Gd.gl (cv := cv) (W := W) h hg) (g.blt _ (by decide +kernel)) (u.ok cv X W g h) (v.ok cv X W g h) hs.1 hs.2⟩ else none
      | _ => none) else none)
    else if hx : x = "zip" then (if hg : glB sc x = true then (match tg, es with
      | .Tuple elts kk tpos, [a, b] => (aOf r sc [a, b]).bind fun u => some ⟨iZip u.ms, u.lk, fun cv X W g h => by subst hx; exact ji_zip2 (Gd.gl (cv := cv) (W := W) h hg) (g.blt _ (by decide +kernel)) (u.ok cv X W g h) u.n (all_cons u.st).1 (all_cons (all_cons u.st).2).1⟩
      | .Tuple elts kk tpos, [a, b, c] => (aOf r sc [a, b, c]).bind fun u => some ⟨iZip u.ms, u.lk, fun cv X W g h => by subst hx; exact ji_zip3 (Gd.gl (cv := cv) (W := W) h hg) (g.blt _ (by decide +kernel)) (u.ok cv X W g h) u.n (all_cons u.st).1 (all_cons (all_cons u.st).2).1 (all_cons (all_cons (all_cons u.st).2).2).1⟩
      | _, _ => none) else none)
    else if hx : x = "enumerate" then (if hg : glB sc x = true then (match tg, es with
      | .Tuple elts kk tpos, [a] => (r.e sc a).bind fun u => if hs : notStar a = true then some ⟨iEnum u.m, u.lk, fun cv X W g h => by subst hx; exact ji_enum (Gd.gl (cv := cv) (W := W) h hg) (g.blt _ (by decide +kernel)) (u.ok cv X W g h).s hs⟩ else none
      | _, _ => none) else none)
    else seqI r sc tg (.Call (.Name x p) es [] pos)
  | tg, e => seqI r sc tg e
/-- targets: slots whose stores are let -/
structure OkG (S : S0) (sc : Scope) (fnB : Str → Bool) (tg : Expr) where
  T : Tg
  ok : ∀ (cv : Nat → Value) (X : Cx), X.N = S.N → X.N.Nodup → X.calm = true → X.env.scope = sc → (∀ x, fnB x = true → X.fn x = true) → JG X cv tg T ∧ JGB X cv tg T
def storeOf (S : S0) (sc : Scope) (fnB : Str → Bool) (x : Str) : Option { i : Nat // ∀ X : Cx, X.N = S.N → X.env.scope = sc → (∀ x, fnB x = true → X.fn x = true) → X.N[i]? = some x ∧ L2.Loc X.env.scope x ∧ (X.fn x = true ∨ X.env.scope.names.lookup x = some .local) } :=
  let i := S.N.findIdx (· == x)
  if h : S.N[i]? = some x ∧ locB sc x = true ∧ (fnB x = true ∨ isLocB sc x = true) then some ⟨i, fun X hN he hf => ⟨by rw [hN]; exact h.1, by rw [he]; exact loc_of h.2.1, by
    rcases h.2.2 with z | z
    · exact .inl (hf x z)
    · exact .inr (by rw [he]; exact isLoc_of z)⟩⟩ else none
def namesOf (S : S0) (sc : Scope) (fnB : Str → Bool) : (es : List Expr) → Option { is : List Nat // ∀ X : Cx, X.N = S.N → X.env.scope = sc → (∀ x, fnB x = true → X.fn x = true) → Nms X es is }
  | [] => some ⟨[], fun X hN he hf => .nil⟩
  | .Name x p :: es => (storeOf S sc fnB x).bind fun i => (namesOf S sc fnB es).map fun is => ⟨i.1 :: is.1, fun X hN he hf => .cons (i.2 X hN he hf).1 (i.2 X hN he hf).2.1 (i.2 X hN he hf).2.2 (is.2 X hN he hf)⟩
  | _ :: _ => none
def tgOf (S : S0) (sc : Scope) (fnB : Str → Bool) : (tg : Expr) → Option (OkG S sc fnB tg)
  | .Name x p => (storeOf S sc fnB x).map fun i => ⟨.nm i.1, fun cv X hN hd hc he hf => ⟨jg_name hd (i.2 X hN he hf).1 (i.2 X hN he hf).2.1 (i.2 X hN he hf).2.2, jgb_name hd (i.2 X hN he hf).1 (i.2 X hN he hf).2.1 (i.2 X hN he hf).2.2⟩⟩
  | .Tuple es k p => (namesOf S sc fnB es).map fun is => ⟨.tp is.1, fun cv X hN hd hc he hf => ⟨jg_tup hc hd (is.2 X hN he hf), jgb_tup hc hd (is.2 X hN he hf)⟩⟩
  | _ => none
/-! comprehensions -/
theorem Gd.blk {cv : Nat → Value} {X : Cx} {W : WX} (g : Gd S cv X W) (s : Shared) (H : Hp) (scope : Scope) (cenv : PySem.Env) (fp : List Addr) : Gd S cv (X.blk s H scope cenv fp) WF :=
  ⟨g.nN, g.nd, g.calm, g.room, takes_none5, g.blt, fun p hp => ⟨(g.fn p hp).ok⟩, g.cls, g.cst, g.ext⟩
def ownOf (N : List Str) (scope : Scope) : List (Str × Nat) := scope.names.filterMap fun y => match y.2 with
  | .local => if N.contains y.1 then some (y.1, N.findIdx (· == y.1)) else none
  | .cell => if N.contains y.1 then some (y.1, N.findIdx (· == y.1)) else none
  | _ => none
def condOf (r : TR S) (scope sc : Scope) : (ifs : List Expr) → Option { m : Option Sm × List Nat // ∀ cv X W, Gd S cv X W → X.env.scope = sc → BlkC X cv scope ifs m.1 }
  | [] => some ⟨(none, []), fun cv X W g h => .none⟩
  | [e] => (r.t (relS scope sc) e).map fun t => ⟨(some t.m, t.lk), fun cv X W g h => .some fun s H C cl fp => t.ok cv _ WF (g.blk s H scope _ fp) (by show relS scope X.env.scope = _; rw [h])⟩
  | _ => none
def cellB (scope : Scope) (x : Str) : Bool := scope.names.lookup x == some .cell
structure OkC (S : S0) (sc : Scope) (elt tg iter : Expr) (ifs : List Expr) (scope : Scope) where
  mi : SmL
  T : Tg
  own : List (Str × Nat)
  mc : Option Sm
  me : Sm
  lk : List Nat
  hT : ∀ i ∈ T.slots, i ∈ own.map (·.2)
  bk : ∀ cv X W, Gd S cv X W → X.env.scope = sc → JI X cv W tg iter mi ∧ BlkOk X.N X.env.scope scope own ∧ BlkG X cv scope tg T ∧ BlkC X cv scope ifs mc ∧ BlkE X cv scope elt me
  fs : ∀ env x, foldedSetIterable iter env x = pure x
def compOf (r : TR S) (sc : Scope) (elt tg iter : Expr) (ifs : List Expr) (scope : Scope) : Option (OkC S sc elt tg iter ifs scope) :=
  (iOf r sc tg iter).bind fun mi => (tgOf S (relS scope sc) (cellB scope) tg).bind fun T => (condOf r scope sc ifs).bind fun mc => (r.e (relS scope sc) elt).bind fun me =>
    let own := ownOf S.N scope
    if h : blkC S.N sc scope own = true ∧ (∀ i ∈ T.T.slots, i ∈ own.map (·.2)) ∧ noSet iter = true then
      some ⟨mi.m, T.T, own, mc.1.1, me.m, mi.lk ++ mc.1.2 ++ me.lk, h.2.1, fun cv X W g e => ⟨mi.ok cv X W g e, by rw [g.nN, e]; exact blkOk_by h.1, fun s H C cl fp => (T.ok cv (X.blk s H scope (compEnvC scope cl C X.env) fp) g.nN g.nd g.calm (by show relS scope X.env.scope = _; rw [e]) fun x hx => hx).1, mc.2 cv X W g e,
        fun s H C cl fp => me.ok cv _ WF (g.blk s H scope _ fp) (by show relS scope X.env.scope = _; rw [e])⟩, fun env x => foldSet_of h.2.2 x⟩
    else none
def lcOf (r : TR S) (sc : Scope) (elt : Expr) (scope : Scope) (pos : Pos) : (gs : List Comprehension) → Option (OkE S sc (.ListComp elt gs scope pos))
  | [⟨tg, iter, ifs, 0⟩] => (compOf r sc elt tg iter ifs scope).map fun c => ⟨eComp c.mi c.T (c.own.map (·.2)) c.mc c.me, c.lk, fun cv X W g e => by
      obtain ⟨h1, h2, h3, h4, h5⟩ := c.bk cv X W g e
      exact j_comp g.calm g.nd h1 h2 h3 h4 h5 c.hT (c.fs _)⟩
  | _ => none
def valTest : Expr → Bool
  | .UnaryOp .Not _ _ => false
  | .BoolOp .. => false
  | .IfExp .. => false
  | .Compare .. => false
  | _ => true
theorem valTest_of {e : Expr} {env : PySem.Env} (h : valTest e = true) (whole : Sem Value) : isTrue e env whole = (do let v ← whole; standAt e.pos; holding [v] (truthy v)) := by
  cases e <;> first | rfl | cases h | skip
  rename_i op a p
  cases op <;> first | rfl | cases h
def stepE (r : TR S) (sc : Scope) : (e : Expr) → Option (OkE S sc e)
  | .Name x p => cName S sc x p
  | .Constant c j p => cConst S sc c j p
  | .BinOp a op b pos => (opOf op).bind fun o => (wOf r sc a).bind fun x => (wOf r sc b).map fun y => ⟨e2 o.g x.m y.m, x.lk ++ y.lk, fun cv X W g h => j_op (o.ok X) (x.ok cv X W g h) (y.ok cv X W g h)⟩
  | .UnaryOp .Not a pos => (wOf r sc a).map fun x => ⟨e1 gNot x.m, x.lk, fun cv X W g h => j_not (x.ok cv X W g h)⟩
  | .UnaryOp .USub a pos => (wOf r sc a).map fun x => ⟨e1 gNeg x.m, x.lk, fun cv X W g h => j_e1 o_neg (x.ok cv X W g h)⟩
  | .BoolOp op vs pos => vOf r sc op pos vs
  | .Compare a ops bs pos => cmpE r sc a pos ops bs
  | .IfExp c a b pos => (r.t sc c).bind fun x => (r.e sc a).bind fun y => (r.e sc b).map fun z => ⟨eIf x.m y.m z.m, x.lk ++ y.lk ++ z.lk, fun cv X W g h => j_if (x.ok cv X W g h) (y.ok cv X W g h) (z.ok cv X W g h)⟩
  | .Tuple es k pos => (aOf r sc es).bind fun a => if hz : a.ms.length ≤ 100000 then some ⟨eTup a.ms, a.lk, fun cv X W g h => j_tup (a.ok cv X W g h) hz⟩ else none
  | .List es pos => (aOf r sc es).bind fun a => if hz : a.ms.length ≤ 100000 then some ⟨eLst a.ms, a.lk, fun cv X W g h => j_lst (a.ok cv X W g h) hz⟩ else none
  | .Subscript a i pos => subOf r sc a pos i
  | .Call (.Name x p) es [] pos => callOf r sc x p pos es
  | .ListComp elt gs scope pos => lcOf r sc elt scope pos gs
  | _ => none
def stepT (r : TR S) (sc : Scope) : (e : Expr) → Option (OkT S sc e)
  | .UnaryOp .Not a pos => (r.t sc a).map fun x => ⟨e1 gNot x.m, x.lk, fun cv X W g h => jt_not (x.ok cv X W g h)⟩
  | .BoolOp op vs pos => (pOf r sc op pos vs).map fun x => ⟨x.m, x.lk, fun cv X W g h => (x.ok cv X W g h).t⟩
  | .Compare a ops bs pos => cmpT r sc a pos ops bs
  | e => (wOf r sc e).bind fun x => if hv : valTest e = true then some ⟨x.m, x.lk, fun cv X W g h => jt_val (x.ok cv X W g h) (valTest_of hv)⟩ else none
def tr (S : S0) : Nat → TR S
  | 0 => ⟨fun _ _ => none, fun _ _ => none, fun _ _ => none⟩
  | n + 1 => ⟨stepE (tr S n), stepT (tr S n), fun _ _ => none⟩
end U
set_option Elab.async false
set_option linter.all false
set_option maxRecDepth 100000
set_option maxHeartbeats 4000000
namespace U
open PySem PySem.Spec PyProof.Rows L2
/-- what statements want of the context besides -/
structure Gx (S : S0) (cv : Nat → Value) (X : Cx) : Prop where
  fnT : ∀ x, X.fn x = true
  po : PassesOwn (model X.prog X.w) X.A X.env X.xe
  stk : X.stack = X.env :: X.outer
  fr : X.env.frame = some X.env.locals
  cl : Clss X.K cv S.sub S.nc
variable {S : S0}
structure OkS (S : S0) (sc : Scope) (st : Stmt) where
  m : Ss
  ok : ∀ cv X W, Gd S cv X W → Gx S cv X → X.env.scope = sc → JF X cv W st m
structure OkSs (S : S0) (sc : Scope) (st : List Stmt) where
  m : Ss
  ok : ∀ cv X W, Gd S cv X W → Gx S cv X → X.env.scope = sc → JFs X cv W st m
def blkKind (sc : Scope) : ScopeKind := if sc.kind.isAnnotationScope then .function else sc.kind
def swB (sc scope : Scope) (t : Str) (p vp : Pos) : Bool := blkKind sc == .function && sc.names.lookup t == some .local && p.line == vp.line && !(scope.names.any fun (n, k) => n == t && (k == .local || k == .cell))
theorem sw_name {elt : Expr} {gs : List Comprehension} {scope : Scope} {vp p : Pos} {t : Str} {l : Nat} {env : PySem.Env} : swapsWith (.ListComp elt gs scope vp) (some (.Name t p)) l env = pure (swB env.scope scope t p vp) := rfl
def noComp : Expr → Bool
  | .ListComp .. => false
  | .SetComp .. => false
  | .DictComp .. => false
  | _ => true
theorem sw_no {e : Expr} {tg : Option Expr} {l : Nat} {env : PySem.Env} (h : noComp e = true) : swapsWith e tg l env = pure false := by
  cases e <;> first | rfl | cases h
theorem sw_other {e : Expr} {ts : List Expr} {k : Nat} {p : Pos} {l : Nat} {env : PySem.Env} : swapsWithSole [.Tuple ts k p] e l env = pure false := by
  cases e <;> rfl
theorem sw_sub {e o i : Expr} {p : Pos} {l : Nat} {env : PySem.Env} : swapsWithSole [.Subscript o i p] e l env = pure false := by
  cases e <;> rfl
def notTup : Expr → Bool
  | .Tuple .. => false
  | _ => true
theorem stores_no {e : Expr} {ts : List Expr} {k : Nat} {p : Pos} {env : PySem.Env} (h : notTup e = true) : swappedStores [.Tuple ts k p] e env = pure none := by
  cases e <;> first | rfl | cases h
def swNames (sc : Scope) (ts : List Expr) : List Str := ts.filterMap fun
  | .Name id pos => if sc.names.lookup id == some .local && pos.line == (ts.head?.map (·.pos.line)).getD 0 then some id else none
  | _ => none
def swMode (sc : Scope) (ts vs : List Expr) : Option (Option (List Str)) :=
  if (!(ts.length == 2 || ts.length == 3) || vs.length != ts.length || blkKind sc != .function) = true then some none else
  if (vs.any fun | .Starred .. => true | _ => false) = true then some none else
  if ((swNames sc ts).length != ts.length || (swNames sc ts).eraseDups.length != (swNames sc ts).length) = true then some none else
  if vs.all (foldedForSure 8) = true then some none else if vs.all (constantsAlone 8) = true then none else some (some (swNames sc ts))
theorem swMode_ok {env : PySem.Env} {ts vs : List Expr} {k k2 : Nat} {p p2 : Pos} {r : Option (List Str)} (h : swMode env.scope ts vs = some r) : swappedStores [.Tuple ts k p] (.Tuple vs k2 p2) env = pure r := by
  unfold swMode at h
  have e0 : env.blockKind = blkKind env.scope := rfl
  have e1 : ∀ x, env.kindOf x = env.scope.names.lookup x := fun _ => rfl
  unfold swappedStores
  split at h
  · rename_i h1
    cases h
    exact if_pos h1
  · rename_i h1
    refine (if_neg h1).trans ?_
    split at h
    · rename_i h2
      cases h
      exact if_pos h2
    · rename_i h2
      refine (if_neg h2).trans ?_
      split at h
      · rename_i h3
        cases h
        exact if_pos h3
      · rename_i h3
        refine (if_neg h3).trans ?_
        split at h
        · rename_i h4
          cases h
          exact if_pos h4
        · rename_i h4
          refine (if_neg h4).trans ?_
          split at h
          · cases h
          · rename_i h5
            cases h
            exact if_neg h5

def tbF : Str → Bool := fun _ => true
/-- x = e -/
def setOf (r : TR S) (sc : Scope) (x : Str) (p pos : Pos) : (e : Expr) → Option (OkS S sc (.Assign [.Name x p] e pos))
  | .ListComp elt [⟨tg, iter, ifs, 0⟩] scope vp => (storeOf S sc tbF x).bind fun i =>
      if hs : swB sc scope x p vp = true then (compOf r sc elt tg iter ifs scope).bind fun c => if hl : isLocB sc x = true then
        some ⟨sSet i.1 c.lk (eComp c.mi c.T (c.own.map (·.2)) c.mc c.me), fun cv X W g gx h => by
          obtain ⟨h1, h2, h3, h4, h5⟩ := c.bk cv X W g h
          exact js_comp g.calm g.nd (i.2 X g.nN h fun y _ => gx.fnT y).1 (by rw [h]; exact isLoc_of hl) (by rw [sw_name, h, hs]) h1 h2 h3 h4 h5 c.hT (c.fs _)⟩ else none
      else (r.e sc (.ListComp elt [⟨tg, iter, ifs, 0⟩] scope vp)).map fun a => ⟨sSet i.1 a.lk a.m, fun cv X W g gx h => by
        obtain ⟨h1, h2, h3⟩ := i.2 X g.nN h fun y _ => gx.fnT y
        exact js_set g.nd h1 h2 (a.ok cv X W g h) (by rw [sw_name, h]; have : swB sc scope x p vp = false := by simpa using hs
                                                      rw [this]) h3⟩
  | e => (storeOf S sc tbF x).bind fun i => (r.e sc e).bind fun a => if hn : noComp e = true then some ⟨sSet i.1 a.lk a.m, fun cv X W g gx h => by
      obtain ⟨h1, h2, h3⟩ := i.2 X g.nN h fun y _ => gx.fnT y
      exact js_set g.nd h1 h2 (a.ok cv X W g h) (sw_no hn) h3⟩ else none
def parOf (r : TR S) (sc : Scope) (k kk : Nat) (p pp pos : Pos) : (es vs : List Expr) → Option (OkS S sc (.Assign [.Tuple es k p] (.Tuple vs kk pp) pos))
  | [.Name x px, .Name y py], [a, b] => (storeOf S sc tbF x).bind fun i => (storeOf S sc tbF y).bind fun j => (r.e sc a).bind fun u => (r.e sc b).bind fun v =>
      if hz : swMode sc [.Name x px, .Name y py] [a, b] = some (some [x, y]) ∧ i.1 ≠ j.1 ∧ isLocB sc x = true ∧ isLocB sc y = true ∧ notStar a = true ∧ notStar b = true then some ⟨sPar2 i.1 j.1 (u.lk ++ v.lk) u.m v.m, fun cv X W g gx h => by
        obtain ⟨z1, z2, z3, z4, z5, z6⟩ := hz
        exact js_par2 g.calm g.nd (i.2 X g.nN h fun y _ => gx.fnT y).1 (j.2 X g.nN h fun y _ => gx.fnT y).1 z2 (by rw [h]; exact isLoc_of z3) (by rw [h]; exact isLoc_of z4) (u.ok cv X W g h) (v.ok cv X W g h) z5 z6 (swMode_ok (by rw [h]; exact z1))⟩ else none
  | [.Name x px, .Name y py, .Name z pz], [a, b, c] => (storeOf S sc tbF x).bind fun i => (storeOf S sc tbF y).bind fun j => (storeOf S sc tbF z).bind fun l => (aOf r sc [a, b, c]).bind fun u =>
      if hz : swMode sc [.Name x px, .Name y py, .Name z pz] [a, b, c] = some (some [x, y, z]) ∧ (i.1 ≠ j.1 ∧ i.1 ≠ l.1 ∧ j.1 ≠ l.1) ∧ isLocB sc x = true ∧ isLocB sc y = true ∧ isLocB sc z = true then some ⟨sPar3 i.1 j.1 l.1 u.lk u.ms, fun cv X W g gx h => by
        obtain ⟨z1, ⟨z2, z3, z4⟩, z5, z6, z7⟩ := hz
        exact js_par3 g.calm g.nd (i.2 X g.nN h fun y _ => gx.fnT y).1 (j.2 X g.nN h fun y _ => gx.fnT y).1 (l.2 X g.nN h fun y _ => gx.fnT y).1 z2 z3 z4 (by rw [h]; exact isLoc_of z5) (by rw [h]; exact isLoc_of z6) (by rw [h]; exact isLoc_of z7) (u.ok cv X W g h) (swMode_ok (by rw [h]; exact z1))⟩ else none
  | _, _ => none
/-- a, b = e, the tuple made and taken apart -/
def tupOf (r : TR S) (sc : Scope) (es : List Expr) (k : Nat) (p pos : Pos) (e : Expr) : Option (OkS S sc (.Assign [.Tuple es k p] e pos)) :=
  (namesOf S sc tbF es).bind fun is => (r.e sc e).bind fun a => if hw : notTup e = true ∨ (match e with | .Tuple vs _ _ => swMode sc es vs | _ => none) = some none then some ⟨sTup is.1 a.lk a.m, fun cv X W g gx h =>
    js_tup g.calm g.nd (is.2 X g.nN h fun y _ => gx.fnT y) (a.ok cv X W g h) sw_other (by
      rcases hw with z | z
      · exact stores_no z
      · cases e <;> first | exact swMode_ok (by rw [h]; exact z) | cases z)⟩ else none
theorem item_asg {o i : Expr} {p : Pos} {env : PySem.Env} (h : plainIx i = true) : ∀ v, assign (.Subscript o i p) env v = (do
      let ov ← holding [v] (eval o env)
      let iv ← holding [v, ov] (eval i env)
      standAt p
      holding [v, ov, iv] (setItem ov iv v)
      release [v, ov, iv] []) := fun v => by
  cases i <;> first | rfl | cases h
def asgOf (r : TR S) (sc : Scope) (e : Expr) (pos : Pos) : (tg : Expr) → Option (OkS S sc (.Assign [tg] e pos))
  | .Name x p => setOf r sc x p pos e
  | .Tuple es k p => match e with
    | .Tuple vs kk pp => match parOf r sc k kk p pp pos es vs with
      | some s => some s
      | none => tupOf r sc es k p pos (.Tuple vs kk pp)
    | e => tupOf r sc es k p pos e
  | .Subscript (.Name x p) ix tpos => (slotOf S sc x).bind fun i => (r.e sc e).bind fun a => (r.e sc ix).bind fun b => if hp : plainIx ix = true then some ⟨sItem i.1 (a.lk ++ b.lk) b.m a.m, fun cv X W g gx h =>
      js_item (by rw [g.nN]; exact i.2.1) (by rw [h]; exact i.2.2.1) i.2.2.2.1 i.2.2.2.2 (a.ok cv X W g h) (b.ok cv X W g h) sw_sub (item_asg hp)⟩ else none
  | _ => none
def exprOf (r : TR S) (sc : Scope) (pos : Pos) : (e : Expr) → Option (OkS S sc (.Expr e pos))
  | .Call (.Attribute (.Name x p) m apos) [e] [] cpos => (slotOf S sc x).bind fun i => (r.e sc e).bind fun a =>
      if hm : m = "append" ∧ notStar e = true ∧ (apos.endLine == cpos.line) = true then some ⟨sApp i.1 a.lk a.m, fun cv X W g gx h => by
        obtain ⟨z1, z2, z3⟩ := hm
        subst z1
        exact js_app (by rw [g.nN]; exact i.2.1) (by rw [h]; exact i.2.2.1) i.2.2.2.1 i.2.2.2.2 (a.ok cv X W g h) z2 z3⟩
      else if hm : m = "extend" ∧ notStar e = true ∧ (apos.endLine == cpos.line) = true then some ⟨sExt i.1 a.lk a.m, fun cv X W g gx h => by
        obtain ⟨z1, z2, z3⟩ := hm
        subst z1
        exact js_ext (by rw [g.nN]; exact i.2.1) (by rw [h]; exact i.2.2.1) i.2.2.2.1 i.2.2.2.2 (a.ok cv X W g h) z2 z3⟩
      else none
  | e => (r.e sc e).bind fun a => if hn : noComp e = true then some ⟨sExpr a.lk a.m, fun cv X W g gx h => js_expr (a.ok cv X W g h) (sw_no hn)⟩ else none
def retOf (r : TR S) (sc : Scope) (pos : Pos) : (o : Option Expr) → Option (OkS S sc (.Return o pos))
  | none => some ⟨fun _ => .rt .none, fun cv X W g gx h => js_retN⟩
  | some (.Name x p) => match slotOf S sc x with
    | some i => some ⟨sRetV i.1, fun cv X W g gx h => js_retV (by rw [g.nN]; exact i.2.1) (by rw [h]; exact i.2.2.1) i.2.2.2.1 i.2.2.2.2⟩
    | none => (cName S sc x p).map fun a => ⟨sRet a.lk a.m, fun cv X W g gx h => js_ret (a.ok cv X W g h)⟩
  | some e => (r.e sc e).map fun a => ⟨sRet a.lk a.m, fun cv X W g gx h => js_ret (a.ok cv X W g h)⟩
def raiseOf (S : S0) (sc : Scope) (pos : Pos) : (e : Option Expr) → (c : Option Expr) → Option (OkS S sc (.Raise e c pos))
  | some (.Call (.Name x p) [.Constant (.str t) j p2] [] p3), none => match hf : S.cls.find? (fun q => q.1 == x) with
    | some q => if hz : glB sc x = true then some ⟨sRaise q.2, fun cv X W g gx h => by
        obtain ⟨C, h1, h2⟩ := g.cls q (List.mem_of_find?_eq_some hf)
        have hx : q.1 = x := by simpa using List.find?_some hf
        rw [hx] at h2
        exact js_raise g.calm g.tk h2 h1 (Gd.gl (cv := cv) (W := W) h hz) (gl_of hz).2⟩ else none
    | none => none
  | _, _ => none
/-! the suites of a try -/
structure OkX (S : S0) (sc : Scope) (i : Nat) (e : Expr) where
  m : Xm
  ok : ∀ cv X W, Gd S cv X W → Gx S cv X → X.env.scope = sc → JX X cv S.nc i e m
structure OkXT (S : S0) (sc : Scope) (i : Nat) (e : Expr) where
  m : Xm
  ok : ∀ cv X W, Gd S cv X W → Gx S cv X → X.env.scope = sc → JXT X cv S.nc i e m
structure OkXP (S : S0) (sc : Scope) (i : Nat) (e : Expr) where
  m : Xm
  ok : ∀ cv X W, Gd S cv X W → Gx S cv X → X.env.scope = sc → JXP X cv S.nc i e m
def xIsOf (S : S0) (sc : Scope) (i : Nat) (p pos : Pos) : (es : List Expr) → Option (OkX S sc i (.Call (.Name "isinstance" p) es [] pos))
  | [.Name x p2, .Name y py] => (slotOf S sc x).bind fun j => match hf : S.cls.find? (fun q => q.1 == y) with
    | none => none
    | some q => if hz : j.1 = i ∧ q.2 ∈ S.nc ∧ glB sc y = true ∧ glB sc "isinstance" = true then some ⟨xIs S.sub q.2, fun cv X W g gx h => by
        obtain ⟨z1, z3, z4, z5⟩ := hz
        obtain ⟨C, h1, h2⟩ := g.cls q (List.mem_of_find?_eq_some hf)
        have hx : q.1 = y := by simpa using List.find?_some hf
        rw [hx] at h2
        exact jx_is gx.cl z3 (by rw [g.nN, ← z1]; exact j.2.1) (by rw [h]; exact j.2.2.1) j.2.2.2.1 j.2.2.2.2 (Gd.gl (cv := cv) (W := W) h z5) (g.blt _ (by decide +kernel)) (Gd.gl (cv := cv) (W := W) h z4) (by rw [h1]; exact h2.gl) (gl_of z4).2⟩ else none
  | _ => none
def xCallOf (S : S0) (sc : Scope) (i : Nat) (p pos : Pos) (f : Str) (es : List Expr) : Option (OkX S sc i (.Call (.Name f p) es [] pos)) :=
  if h : f = "isinstance" then (by subst h; exact xIsOf S sc i p pos es) else none
mutual
def xOf (S : S0) (sc : Scope) (i : Nat) : Nat → (e : Expr) → Option (OkX S sc i e)
  | 0, _ => none
  | n + 1, .Constant (.str x) j p => some ⟨xC (.str x), fun cv X W g gx h => jx_c fun Y => pe_str⟩
  | n + 1, .Call (.Name f p) es [] pos => xCallOf S sc i p pos f es
  | n + 1, .IfExp t a b pos => (xtOf S sc i n t).bind fun x => (xOf S sc i n a).bind fun y => (xOf S sc i n b).map fun z => ⟨xIf x.m y.m z.m, fun cv X W g gx h => jx_if (x.ok cv X W g gx h) (y.ok cv X W g gx h) (z.ok cv X W g gx h)⟩
  | n + 1, _ => none
def xtOf (S : S0) (sc : Scope) (i : Nat) : Nat → (e : Expr) → Option (OkXT S sc i e)
  | 0, _ => none
  | n + 1, .UnaryOp .Not a pos => (xtOf S sc i n a).map fun x => ⟨xNot x.m, fun cv X W g gx h => jxt_not (x.ok cv X W g gx h)⟩
  | n + 1, .BoolOp .And vs pos => (xpOf S sc i n pos vs).map fun x => ⟨x.m, fun cv X W g gx h => jxp_t (x.ok cv X W g gx h)⟩
  | n + 1, .Call (.Name f p) es [] pos => (xCallOf S sc i p pos f es).map fun x => ⟨x.m, fun cv X W g gx h => jxt_val (x.ok cv X W g gx h) fun env whole => rfl⟩
  | n + 1, _ => none
def xpOf (S : S0) (sc : Scope) (i : Nat) : Nat → (pos : Pos) → (vs : List Expr) → Option (OkXP S sc i (.BoolOp .And vs pos))
  | 0, _, _ => none
  | n + 1, pos, [a] => (xtOf S sc i n a).map fun x => ⟨x.m, fun cv X W g gx h => jxp_one (x.ok cv X W g gx h)⟩
  | n + 1, pos, a :: b :: rest => (xtOf S sc i n a).bind fun x => (xpOf S sc i n pos (b :: rest)).map fun y => ⟨xAnd x.m y.m, fun cv X W g gx h => jxp_and (x.ok cv X W g gx h) (y.ok cv X W g gx h)⟩
  | n + 1, _, [] => none
end
def hdsOf (S : S0) (sc : Scope) : (hds : List ExceptHandler) → Option { l : List (Nat × Nat × Xm) // ∀ cv X W, Gd S cv X W → Gx S cv X → X.env.scope = sc → HdsJ X cv S.nc hds l }
  | [] => some ⟨[], fun cv X W g gx h => .nil⟩
  | .ExceptHandler (some (.Name x np)) (some nm) [.Return (some e) rp] pos' :: hds =>
      let i := S.N.findIdx (· == nm)
      match hf : S.cls.find? (fun q => q.1 == x) with
      | none => none
      | some q => (xOf S sc i 12 e).bind fun m => (hdsOf S sc hds).bind fun l => if hz : q.2 ∈ S.nc ∧ glB sc x = true ∧ S.N[i]? = some nm ∧ isLocB sc nm = true then some ⟨(q.2, i, m.m) :: l.1, fun cv X W g gx h => by
        obtain ⟨z2, z3, z4, z5⟩ := hz
        obtain ⟨C, h1, h2⟩ := g.cls q (List.mem_of_find?_eq_some hf)
        have hx : q.1 = x := by simpa using List.find?_some hf
        rw [hx] at h2
        exact .cons z2 ⟨Gd.gl (cv := cv) (W := W) h z3, (gl_of z3).2, .inl (by rw [h1]; exact h2.gl)⟩ (by rw [g.nN]; exact z4) (by unfold PySem.Env.kindOf; rw [h]; exact isLoc_of z5) (m.ok cv X W g gx h) (l.2 cv X W g gx h)⟩ else none
  | _ => none
structure TS0 (S : S0) where
  s : (sc : Scope) → (st : Stmt) → Option (OkS S sc st)
def ssOf (t : TS0 S) (sc : Scope) : (sts : List Stmt) → Option (OkSs S sc sts)
  | [] => some ⟨.nx, fun cv X W g gx h => jss_nil⟩
  | [a] => (t.s sc a).map fun x => ⟨x.m, fun cv X W g gx h => jss_one (x.ok cv X W g gx h)⟩
  | a :: b :: rest => (t.s sc a).bind fun x => (ssOf t sc (b :: rest)).map fun y => ⟨sSeq x.m y.m, fun cv X W g gx h => jss_cons (x.ok cv X W g gx h) (y.ok cv X W g gx h)⟩
theorem Gd.tr {cv : Nat → Value} {X : Cx} {W W' : WX} (g : Gd S cv X W) (pn : List (Addr × Obj)) (xe : Value → Shared → Prop) (tk : Takes (X.tr pn xe) W') : Gd S cv (X.tr pn xe) W' :=
  ⟨g.nN, g.nd, g.calm, g.room, tk, g.blt, fun p hp => ⟨(g.fn p hp).ok⟩, g.cls, g.cst, g.ext⟩
def stepS (r : TR S) (t : TS0 S) (sc : Scope) : (st : Stmt) → Option (OkS S sc st)
  | .Assign [tg] e pos => asgOf r sc e pos tg
  | .AugAssign (.Name x p) .Add e pos => (storeOf S sc tbF x).bind fun i => (r.e sc e).map fun a => ⟨sAug i.1 a.lk a.m, fun cv X W g gx h => by
      obtain ⟨h1, h2, h3⟩ := i.2 X g.nN h fun y _ => gx.fnT y
      exact js_aug g.nd h1 h2 (a.ok cv X W g h) h3⟩
  | .Expr e pos => exprOf r sc pos e
  | .Return o pos => retOf r sc pos o
  | .Raise e c pos => raiseOf S sc pos e c
  | .Pass pos => some ⟨.nx, fun cv X W g gx h => js_pass⟩
  | .If c a b pos => (r.t sc c).bind fun x => (ssOf t sc a).bind fun y => (ssOf t sc b).map fun z => ⟨sIf x.lk x.m y.m z.m, fun cv X W g gx h => js_if (x.ok cv X W g h) (y.ok cv X W g gx h) (z.ok cv X W g gx h)⟩
  | .For tg iter body [] pos => (iOf r sc tg iter).bind fun x => (tgOf S sc tbF tg).bind fun T => (ssOf t sc body).bind fun y => if hn : noSet iter = true then some ⟨sFor T.T x.lk x.m y.m, fun cv X W g gx h =>
      js_for gx.po g.calm (x.ok cv X W g h) (T.ok cv X g.nN g.nd g.calm h fun y _ => gx.fnT y).2 (y.ok cv X W g gx h) fun v => foldSet_of hn v⟩ else none
  | .While c body [] pos => (r.t sc c).bind fun x => (ssOf t sc body).map fun y => ⟨sWhile x.lk x.m y.m, fun cv X W g gx h => js_while gx.po (x.ok cv X W g h) (y.ok cv X W g gx h)⟩
  | .Try body (h₀ :: hds) [] [] pos => (ssOf t sc body).bind fun y => (hdsOf S sc (h₀ :: hds)).map fun l => ⟨sTry S.sub S.nc y.m l.1, fun cv X W g gx h =>
      js_try gx.stk gx.fr g.nd g.tk gx.cl (fun W' pn xe tk po => y.ok cv _ W' (g.tr pn xe tk) ⟨gx.fnT, po, gx.stk, gx.fr, gx.cl⟩ h) (l.2 cv X W g gx h)⟩
  | _ => none
/-- what a def is worth: its body's end -/
def runF (nv : Nat) (m : Ss) (ds : List D) : Res := match m (ds.map .fr ++ List.replicate (nv - ds.length) .un) with
  | .nx _ => .ok .none
  | .rt d => .ok d
  | .rn ds => .new ds
  | .rm d _ => .ok d
  | .rb _ _ => .bad
  | .ex c _ => .exc c
  | .bad => .bad
end U
set_option Elab.async false
set_option linter.all false
set_option maxRecDepth 100000
set_option maxHeartbeats 4000000
namespace U
open PySem PySem.Spec PyProof.Rows L2
/-- the text's tables: its error classes, its constants, who is below whom -/
def Tb.s (T : Tb) (N : List Str) (k : Nat) (fns : List (Str × Nat × (List D → Res))) : S0 := ⟨N, k, fns, T.cls, T.cst, T.sub, T.nc, fun _ _ _ _ _ _ => True⟩
/-- the facts of the module that all defs share -/
structure Bs (T : Tb) (cv : Nat → Value) (K : PySem.W.Frag) (mg : Str → Option Value) : Prop where
  blt : ∀ b ∈ bltNames, mg b = none
  cls : ∀ p ∈ T.cls, ∃ C, cv p.2 = .ref C ∧ ExC K mg p.1 C
  cst : ∀ p ∈ T.cst, ∃ u v, mg p.1 = some u ∧ RelV v u ∧ ∀ F, Dr F v p.2
  cl : Clss K cv T.sub T.nc
/-- a def that keeps its promise, by its name -/
structure Kp (P : Program) (w : World) (K : PySem.W.Frag) (mg : Str → Option Value) (base : Heap) (cv : Nat → Value) (k : Nat) (x : Str) (n : Nat) (f : List D → Res) : Prop where
  ok : ∃ (fa : Addr) (fd : FuncData) (ps : List Str), mg x = some (.ref fa) ∧ ps.length = n ∧ FnOk P w K mg base (L2.CX P w) k fa fd ps (spOf cv n f) ∧ PySem.W.keepIn K (.ref fa) = true ∧ Binds K fd ps []
theorem Kp.mono {P : Program} {w : World} {K : PySem.W.Frag} {mg : Str → Option Value} {base : Heap} {cv : Nat → Value} {j k : Nat} {x : Str} {n : Nat} {f : List D → Res} (h : Kp P w K mg base cv j x n f) (le : j ≤ k) : Kp P w K mg base cv k x n f := by
  obtain ⟨fa, fd, ps, h1, h2, h3, h4⟩ := h.ok
  exact ⟨fa, fd, ps, h1, h2, h3.mono le, h4⟩
def AllKp (P : Program) (w : World) (K : PySem.W.Frag) (mg : Str → Option Value) (base : Heap) (cv : Nat → Value) (k : Nat) : List (Str × Nat × (List D → Res)) → Prop
  | [] => True
  | p :: r => Kp P w K mg base cv k p.1 p.2.1 p.2.2 ∧ AllKp P w K mg base cv k r
theorem AllKp.at {P : Program} {w : World} {K : PySem.W.Frag} {mg : Str → Option Value} {base : Heap} {cv : Nat → Value} {k : Nat} : ∀ {l : List (Str × Nat × (List D → Res))}, AllKp P w K mg base cv k l → ∀ p ∈ l, Kp P w K mg base cv k p.1 p.2.1 p.2.2
  | [], _, p, h => by cases h
  | q :: r, ⟨h1, h2⟩, p, h => by
    rcases List.mem_cons.mp h with e | h
    · rw [e]; exact h1
    · exact AllKp.at h2 p h
theorem start_get (N : List Str) (vs : List V) (i : Nat) : (start N vs)[i]? = if h : i < vs.length then some (some vs[i]) else if i < vs.length + (N.length - vs.length) then some none else none := by
  unfold L2.start
  by_cases h : i < vs.length
  · rw [List.getElem?_append_left (by simpa using h)]
    simp [h]
  · rw [List.getElem?_append_right (by simpa using h)]
    simp only [List.length_map, List.getElem?_replicate, dif_neg h]
    by_cases h2 : i < vs.length + (N.length - vs.length)
    · rw [if_pos h2, if_pos (by omega)]
    · rw [if_neg h2, if_neg (by omega)]
theorem rel_start {cv : Nat → Value} {N : List Str} {F H : Hp} {vs : List V} {ds : List D} (le : Ex F H) (hd : DrAll F vs ds) : RelB cv ⟨F, H, none⟩ (ds.map .fr ++ List.replicate (N.length - ds.length) .un) (start N vs) F H := by
  have hl := dps_len hd
  have key : ∀ (i : Nat) (c : Cell), (ds.map Cell.fr ++ List.replicate (N.length - ds.length) .un)[i]? = some c → c = .un ∨ ∃ d v, c = .fr d ∧ (start N vs)[i]? = some (some v) ∧ Dr F v d := fun i c e => by
    by_cases h : i < ds.length
    · rw [List.getElem?_append_left (by simpa using h)] at e
      rw [List.getElem?_map, List.getElem?_eq_getElem h] at e
      cases e
      obtain ⟨v, hv, hdr⟩ := dps_get hd (List.getElem?_eq_getElem h)
      refine .inr ⟨_, v, rfl, ?_, hdr⟩
      rw [start_get, dif_pos (by omega)]
      rw [List.getElem?_eq_getElem (by omega)] at hv
      cases hv; rfl
    · rw [List.getElem?_append_right (by simpa using h), List.getElem?_replicate] at e
      split at e
      · cases e; exact .inl rfl
      · cases e
  refine ⟨⟨by simp [L2.start, hl], le, fun i c e => ?_, fun i j es ds' p e1 _ e3 _ => ?_⟩, Evo.refl le, fun i es p e1 e3 => ?_, fun a k fs h => by cases h⟩
  · rcases key i c e with rfl | ⟨d, v, rfl, h1, h2⟩
    · trivial
    · exact ⟨v, h1, h2⟩
  · rcases key i _ e1 with h | ⟨d, v, h, _⟩ <;> (subst h; simp at e3)
  · rcases key i _ e1 with h | ⟨d, v, h, _⟩ <;> (subst h; simp at e3)
/-! ### the end of a law -/
theorem walkU {l : PySem.W.OpenLaw} {n k : Nat} {q : Program} {loose : List Str} {XP : (Str → Option Value) → Heap → Prop} {YP : World → Heap → Prop} {d : DefRec} {x : Str} {fm : List D → Res}
    (hn : l.most = some n) (hn2 : n ≤ sizeLine) (hdf : d.params.defaults = []) (hr : Room k callerA) (holds : ∀ ns : List Int, ns.length ≤ n → fm [.list (ns.map .int)] = .ok (.bool true))
    (F : ∀ (w : World) (mg : Str → Option Value) (fa : Addr) (h : Heap), YP w h → h.Ns mainGlobals mg → mg d.name = some (.ref fa) →
      ∃ (K : PySem.W.Frag) (fd : FuncData) (cv : Nat → Value), K.In h ∧ (∀ a o, K.lookup a = some o → o.cls ≠ .type "list") ∧ (∀ (s : Shared) (u : Value), BindsTo s fd ⟨[u], []⟩ [(x, u)]) ∧
        ∀ base : Heap, K.In base → base.Ns mainGlobals mg → FnOk l.prog w K mg base (L2.CX l.prog w) k fa fd [x] (spOf cv 1 fm)) :
    PySem.W.WalkO q loose XP YP l.row.toRowW d [] (fun f vs => PySem.call f vs) := by
  refine Att.attach_call hn hdf fun w s₀ s₁ mg mb fa o pm cd doc a vs ns G Y ho hd hcd hmg hobj hints hlen hg => ?_
  obtain ⟨K, fd, cv, KX, hnl, hb, hF⟩ := F w mg fa _ Y G.T.g hmg
  refine law_call KX G.T.g G.T.b G.T.builtins G.T.nolimit hg hobj hints (Nat.le_trans hlen hn2) hr hF hb (fun H hO hS => ?_) fun H e s' => ?_
  · have hR : Rd H a (.lst (ns.map V.int)) := by
      rcases hS with h | ⟨o, its, n, h1, h2, _⟩
      · exact h
      · exact absurd h2 (hnl a o h1)
    have hI : ∀ ns : List Int, DrAll H (ns.map V.int) (ns.map PyData.int) := fun ns => by
      induction ns with
      | nil => exact .nil
      | cons i r ih => exact .cons (.int i) ih
    refine ⟨H, [.list (ns.map .int)], Evl.Ex.refl H, .cons (.lst hR (hI ns)) .nil, rfl, ?_⟩
    rw [holds ns hlen]
    exact fun v F1 H1 ev hv => by cases hv; rfl
  · rintro ⟨_, _, _, _, _, _, _, _, _, _, _, _, z⟩
    exact z
end U
set_option Elab.async false
set_option linter.all false
set_option maxRecDepth 100000
set_option maxHeartbeats 4000000
namespace U
open PySem PySem.Spec PyProof.Rows L2
/-! ### what the head's Hook is to tell -/
def Tb.fine (T : Tb) : Bool := T.cls.all fun p => decide (T.cn p.2 = p.1)
theorem excB_ok {K : PySem.W.Frag} {D : Addr} (h : excB K D = true) : ExcC K D := by
  obtain ⟨h1, h⟩ := He.ba h
  obtain ⟨h2, h⟩ := He.ba h
  obtain ⟨h3, h⟩ := He.ba h
  obtain ⟨h4, h⟩ := He.ba h
  obtain ⟨h5, h⟩ := He.ba h
  obtain ⟨h6, h⟩ := He.ba h
  obtain ⟨h7, h8⟩ := He.ba h
  exact ⟨He.eqO_ok h1, He.eqO_ok h2, of_decide_eq_true h3, h4, He.eqO_ok h5, He.eqO_ok h6, of_decide_eq_true h7, of_decide_eq_true h8⟩
theorem noLst_ok {K : PySem.W.Frag} (h : noLst K = true) (a : Addr) (o : Obj) (e : K.lookup a = some o) : o.cls ≠ .type "list" := fun z => by
  have := List.all_eq_true.mp h _ (He.lookup_mem e)
  rw [z] at this
  exact absurd this (by decide)
-- the defs that stand as values lie where it was told
def cstB (l : List (Str × D)) : Bool := l.all fun p => match p.2 with
  | .int _ => true
  | .str _ => true
  | _ => false
theorem cst_mem {x : Str} : ∀ {l : List (Str × D)} {i : Int}, (x, .int i) ∈ l → He.Fa.int x i ∈ cstF l
  | (y, d) :: r, i, h => by
    rcases List.mem_cons.mp h with e | h
    · cases e; exact List.mem_cons_self
    · have := cst_mem h
      cases d <;> first | exact this | exact List.mem_cons_of_mem _ this
theorem cst_memS {x : Str} : ∀ {l : List (Str × D)} {z : Str}, (x, .str z) ∈ l → He.Fa.str x z ∈ cstF l
  | (y, d) :: r, i, h => by
    rcases List.mem_cons.mp h with e | h
    · cases e; exact List.mem_cons_self
    · have := cst_memS h
      cases d <;> first | exact this | exact List.mem_cons_of_mem _ this
theorem bs_of {fo : List He.Fa} {T : Tb} {ds : List Str} {fn : List He.DefD} {w : World} {h : Heap} {K : PySem.W.Frag} {mg : Str → Option Value} (hf : T.fine = true) (hc : cstB T.cst = true) (X : K.In h) (G : h.Ns mainGlobals mg) (c : He.SaysX (faU T ds ++ fo) fn [] [] (exU T) w h K) : Bs T (T.cv K) K mg := by
  have facts : ∀ f ∈ faU T ds, f.ok K = true := fun f hf => c.t.d.facts (List.mem_append_left _ hf)
  have cn_ : ∀ p ∈ T.cls, T.cn p.2 = p.1 := fun p hp => of_decide_eq_true (List.all_eq_true.mp hf p hp)
  refine ⟨fun b hb => He.free_ok X G (facts _ ?_), fun p hp => ⟨_, rfl, ?_⟩, fun p hp => ?_, ?_⟩
  · exact List.mem_append_right _ (List.mem_append_left _ (List.mem_map_of_mem hb))
  · have h1 := He.glo_ok X G (facts (.glo p.1) (List.mem_append_right _ (List.mem_append_right _ (List.mem_append_left _ (List.mem_map.mpr ⟨p, hp, rfl⟩)))))
    have h2 := He.exc_ok (facts (.exc p.1) (List.mem_append_right _ (List.mem_append_right _ (List.mem_append_right _ (List.mem_append_left _ (List.mem_map.mpr ⟨p, hp, rfl⟩))))))
    rw [cn_ p hp]
    exact ⟨h1, h2.1, h2.2.1, h2.2.2.1, h2.2.2.2⟩
  · obtain ⟨x, d⟩ := p
    have hb := List.all_eq_true.mp hc _ hp
    cases d <;> first | cases hb | skip
    · obtain ⟨t, ht⟩ := He.int_ok X G (facts _ (List.mem_append_right _ (List.mem_append_right _ (List.mem_append_right _ (List.mem_append_right _ (cst_mem hp))))))
      exact ⟨_, .int _, ht, ⟨t, rfl⟩, fun F => .int _⟩
    · obtain ⟨t, ht⟩ := He.str_ok X G (facts _ (List.mem_append_right _ (List.mem_append_right _ (List.mem_append_right _ (List.mem_append_right _ (cst_memS hp))))))
      exact ⟨_, .str _, ht, ⟨t, rfl⟩, fun F => .str _⟩
  · obtain ⟨_, hm⟩ := He.ba c.more
    refine ⟨fun k hk => ⟨_, rfl, excB_ok (He.ba (List.all_eq_true.mp hm k hk)).1⟩, fun k j hk hj => ?_⟩
    obtain ⟨h1, h2⟩ := He.ba (List.all_eq_true.mp (He.ba (List.all_eq_true.mp hm k hk)).2 j hj)
    exact ⟨of_decide_eq_true h1, of_decide_eq_true h2⟩
theorem glo_of {fo : List He.Fa} {T : Tb} {ds : List Str} {fn : List He.DefD} {w : World} {h : Heap} {K : PySem.W.Frag} {mg : Str → Option Value} (X : K.In h) (G : h.Ns mainGlobals mg) (c : He.SaysX (faU T ds ++ fo) fn [] [] (exU T) w h K) {x : Str} (hx : x ∈ ds) : mg x = some (.ref (He.ga K x)) :=
  He.glo_ok X G (c.t.d.facts (List.mem_append_left _ (List.mem_append_left _ (List.mem_map_of_mem hx))))
theorem nol_of {fo : List He.Fa} {T : Tb} {ds : List Str} {fn : List He.DefD} {w : World} {h : Heap} {K : PySem.W.Frag} (c : He.SaysX (faU T ds ++ fo) fn [] [] (exU T) w h K) : ∀ a o, K.lookup a = some o → o.cls ≠ .type "list" := noLst_ok (He.ba (He.ba c.more).1).1
/-- a def of the text, by its statement -/
theorem def_of {fo : List He.Fa} {T : Tb} {ds : List Str} {fn : List He.DefD} {w : World} {h : Heap} {K : PySem.W.Frag} (c : He.SaysX (faU T ds ++ fo) fn [] [] (exU T) w h K) {x : Str} {st : Stmt} (hx : dOf x st ∈ fn) : ∃ fd, FunD K x x (defArgs st) (defBody st) (defScope st) [] [] (He.ga K x) fd := c.t.d.defs hx
end U
set_option Elab.async false
set_option linter.all false
set_option maxRecDepth 100000
set_option maxHeartbeats 4000000
namespace U
open PySem PySem.Spec PyProof.Rows L2
/-! ### rows that the walk never reaches: no word about them -/
def sBad : Ss := fun _ => .bad
theorem js_bad {X : Cx} {cv : Nat → Value} {W : WX} {st : Stmt} : JF X cv W st sBad := fun B => ⟨fun pins s σ H D _ h => by
  obtain ⟨ρ, F, _, q⟩ := h
  exact False.elim q⟩
/-- the rule, whatever way the body was read -/
theorem def_okO {P : Program} {w : World} {K : PySem.W.Frag} {mg : Str → Option Value} {base : Heap} {cv : Nat → Value} {T : Tb} {k : Nat} {x qual : Str} {params : Arguments} {body : List Stmt} {scope : Scope} {f : Addr} {fd : FuncData} {N ps : List Str} {fns : List (Str × Nat × (List D → Res))} {m : Ss}
    (F : FunD K x qual params body scope [] [] f fd) (B : Bs T cv K mg) (S : FnScope N ps scope) (o : Option (OkSs (T.s N k fns) scope body)) (ht : o.map (·.m) = some m) (A : AllKp P w K mg base cv k fns) : FnOk P w K mg base (L2.CX P w) (k + 1) f fd ps (spOf cv ps.length (runF N.length m)) := by
  obtain ⟨r, hr, rfl⟩ := Option.map_eq_some_iff.mp ht
  refine FunD.ok F S (fun vs H Q E h => spOf_len h) fun cdv Ar outer s H vs Q E room hsp => ?_
  obtain ⟨F0, ds, le, hd, hl, q⟩ := hsp
  let X := cxOf (L2.CX P w) P w K mg base N qual scope f cdv Ar outer s H E
  let W : WX := fun c d _ H' => E c d H'
  have tk : Takes X W := takes_of rfl rfl rfl rfl
  have g : Gd (T.s N k fns) cv X W := ⟨rfl, S.nd, rfl, room, tk, B.blt, fun p hp => ⟨(A.at p hp).ok⟩, B.cls, B.cst, trivial⟩
  have gx : Gx (T.s N k fns) cv X := ⟨fun _ => rfl, passes_of rfl, rfl, rfl, B.cl⟩
  refine ⟨rdF cv W ⟨F0, H, none⟩ r.m, r.ok cv X W g gx rfl ⟨F0, H, none⟩, ⟨_, F0, rel_start (N := N) le hd, ?_⟩⟩
  have q' : GotE cv W F0 H [] Q (runF N.length r.m ds) := q
  unfold runF at q'
  cases h : r.m (ds.map .fr ++ List.replicate (N.length - ds.length) .un) with
  | nx ρ => rw [h] at q'; exact fun σ F1 H1 r1 => q' .non F1 H1 r1.evo .non
  | rt d => rw [h] at q'; exact fun v F1 H1 ev hv => q' v F1 H1 ev hv
  | rn d => rw [h] at q'; exact fun p xs F1 H1 ev h1 h2 h3 h4 => q' p xs F1 H1 ev h1 h2 h3 h4
  | rm d ρ => rw [h] at q'; exact fun v σ F1 H1 r1 hv => q' v F1 H1 r1.evo hv
  | rb k fs => rw [h] at q'; exact q'.elim
  | ex c ρ => rw [h] at q'; exact fun σ F1 H1 r1 => q' F1 H1 r1.evo
  | bad => rw [h] at q'; exact q'
theorem kp_ofO {P : Program} {w : World} {K : PySem.W.Frag} {mg : Str → Option Value} {base : Heap} {cv : Nat → Value} {T : Tb} {k n : Nat} {x qual : Str} {params : Arguments} {body : List Stmt} {scope : Scope} {f : Addr} {fd : FuncData} {N ps : List Str} {fns : List (Str × Nat × (List D → Res))} {m : Ss} {fm : List D → Res}
    (F : FunD K x qual params body scope [] [] f fd) (hg : mg x = some (.ref f)) (B : Bs T cv K mg) (S : FnScope N ps scope) (hn : ps.length = n) (hb : ∀ (kV doc pm : Value) (an : Option Addr) (cdv ct : Value) (us : List Value), us.length = ps.length → bindArgs (PySem.W.fnOf x qual params body scope .none kV doc pm an cdv ct) ⟨us, []⟩ = pure (ps.zip us))
    (o : Option (OkSs (T.s N k fns) scope body)) (ht : o.map (·.m) = some m) (hf : fm = runF N.length m) (A : AllKp P w K mg base cv k fns) : Kp P w K mg base cv (k + 1) x n fm := by
  subst hf hn
  exact ⟨f, fd, ps, hg, rfl, def_okO F B S o ht A, F.kp, F.bindsN hb⟩
end U
set_option Elab.async false
set_option linter.all false
set_option maxRecDepth 100000
set_option maxHeartbeats 4000000
namespace U
open PySem PySem.Spec PyProof.Rows L2
/-! ### long chains of comparisons -/
def tLinks : List (R2 × TE) → V → TE
  | [], _ => fun _ _ _ => False
  | [(r, t)], y => fun σ H Q => t σ H fun w H1 => r y w H1 Q
  | (r, t) :: p :: rest, y => fun σ H Q => t σ H fun w H1 => r y w H1 fun z H2 => ∃ k, z = .bl k ∧ (if k = true then tLinks (p :: rest) w σ H2 Q else Q (.bl false) H2)
inductive LkOk (X : Cx) : List CmpOp → List Expr → List (R2 × TE) → Prop
  | one {op : CmpOp} {e : Expr} {r : R2} {t : TE} : OpR X (compareOp op) r → PE X e t → LkOk X [op] [e] [(r, t)]
  | cons {op op' : CmpOp} {e e' : Expr} {r : R2} {t : TE} {p : R2 × TE} {ops : List CmpOp} {es : List Expr} {l : List (R2 × TE)} : OpR X (compareOp op) r → PE X e t → LkOk X (op' :: ops) (e' :: es) (p :: l) → LkOk X (op :: op' :: ops) (e :: e' :: es) ((r, t) :: p :: l)
theorem links_run {X : Cx} {ops : List CmpOp} {es : List Expr} {l : List (R2 × TE)} (h : LkOk X ops es l) : ∀ (pos : Pos) (pins : List (Addr × Obj)) (s : Shared) (σ : L2.St) (H : Hp) (y : V) (v : Value) (Q : VK), Inv X pins σ H s → RelV y v → tLinks l y σ H Q → wpAny (model X.prog X.w) X.A (compareChain pos v ops (evalEach es X.env)) (EP X pins σ Q) X.xe s := by
  induction h with
  | one ho he =>
    intro pos pins s σ H y v Q I rv h
    exact chain_last (thn (he.run pins s σ H _ I h) fun w' s4 ⟨z', H4, I4, r4, q4⟩ => ho pins s4 σ H4 y z' v w' Q I4 rv r4 q4)
  | cons ho he hl ih =>
    intro pos pins s σ H y v Q I rv h
    refine chain_link (thn (he.run pins s σ H _ I h) fun u s2 ⟨y2, H2, I2, r2, q2⟩ => thn (ho pins s2 σ H2 y y2 v u _ I2 rv r2 q2) fun d s3 ⟨z, H3, I3, r3, k, e, q3⟩ => ?_)
    subst e
    cases r3
    refine wpAny_truthy_bool ?_
    cases k with
    | false => exact ite_ff ⟨.bl false, H3, I3, rfl, q3⟩
    | true => exact ite_tt (ih pos pins s3 σ H3 y2 u Q I3 r2 q3)
theorem pe_links {X : Cx} {a : Expr} {ta : TE} {op op' : CmpOp} {ops : List CmpOp} {e e' : Expr} {es : List Expr} {l : List (R2 × TE)} {pos : Pos} (ha : PE X a ta) (h : LkOk X (op :: op' :: ops) (e :: e' :: es) l) (hm : lastMarks (op :: op' :: ops) (e :: e' :: es) = false) : PE X (.Compare a (op :: op' :: ops) (e :: e' :: es) pos) (fun σ H Q => ta σ H fun x H1 => tLinks l x σ H1 Q) :=
  ⟨fun pins s σ H Q I hq => Compare_chain (thn (ha.run pins s σ H _ I hq) fun v s1 ⟨x, H1, I1, r1, q1⟩ => links_run h pos pins s1 σ H1 x v Q I1 r1 q1) hm⟩
def eLinks : List ((D → D → Rp) × Sm) → D → Sm
  | [], _ => fun _ => .bad
  | [p], y => fun ρ => (p.2 ρ).bind fun z => (p.1 y z).up
  | p :: q :: rest, y => fun ρ => (p.2 ρ).bind fun z => match p.1 y z with
    | .ok (.bool true) => eLinks (q :: rest) z ρ
    | .ok (.bool false) => .ok (.bool false)
    | _ => .bad
def eChN (ma : Sm) (l : List ((D → D → Rp) × Sm)) : Sm := fun ρ => (ma ρ).bind fun x => eLinks l x ρ
theorem rd_links {cv : Nat → Value} {W : WX} {σ : L2.St} {ρ : Rho} {Q : VK} : ∀ (l : List ((D → D → Rp) × Sm)), (∀ p ∈ l, IsB p.1) → ∀ (y : V) (dy : D) (F H : Hp), Rel cv ρ σ F H → Wk F H y dy → GotE cv W F H σ Q (eLinks l dy ρ) → tLinks (l.map fun p => (rG p.1, rdW cv W p.2)) y σ H Q
  | [], _, _, _, _, _, _, _, h => False.elim h
  | [p], _, y, dy, F, H, r, wy, h => by
    refine ⟨ρ, F, r, ?_⟩
    have fin : ∀ d, GotE cv W F H σ Q (p.1 dy d).up → QW F H d fun w H1 => rG p.1 y w H1 Q := fun d h v F2 H2 ev wk => ⟨F2, dy, d, ev.le, wy.evo ev, wk, GotP.of (GotE.evo ev h)⟩
    unfold eLinks at h
    cases hm : p.2 ρ with
    | ok d => rw [hm] at h; exact fin d h
    | new d => rw [hm] at h; exact fin _ h
    | exc c => rw [hm] at h; exact h
    | bad => rw [hm] at h; exact h
  | p :: q :: rest, hb, y, dy, F, H, r, wy, h => by
    refine ⟨ρ, F, r, ?_⟩
    have fin : ∀ d, GotE cv W F H σ Q (match p.1 dy d with
      | .ok (.bool true) => eLinks (q :: rest) d ρ
      | .ok (.bool false) => .ok (.bool false)
      | _ => .bad) → QW F H d fun w H1 => rG p.1 y w H1 fun z H2 => ∃ k, z = .bl k ∧ (if k = true then tLinks ((q :: rest).map fun p => (rG p.1, rdW cv W p.2)) w σ H2 Q else Q (.bl false) H2) := fun d h v F2 H2 ev wk => by
      refine ⟨F2, dy, d, ev.le, wy.evo ev, wk, ?_⟩
      rcases hb p List.mem_cons_self dy d with ⟨k, hk⟩ | hk
      · rw [hk] at h ⊢
        intro v3 F3 H3 ev3 hd
        cases hd
        refine ⟨k, rfl, ?_⟩
        cases k with
        | true =>
          rw [if_pos rfl]
          exact rd_links (q :: rest) (fun p hp => hb p (List.mem_cons_of_mem _ hp)) v d F3 H3 ((r.evo ev).evo ev3) (wk.evo ev3) (GotE.evo (ev.trans ev3) h)
        | false =>
          rw [if_neg (by simp)]
          exact QD.bool ev3.le (GotE.evo (ev.trans ev3) h)
      · rw [hk] at h
        exact False.elim h
    unfold eLinks at h
    cases hm : p.2 ρ with
    | ok d => rw [hm] at h; exact fin d h
    | new d => rw [hm] at h; exact fin _ h
    | exc c => rw [hm] at h; exact h
    | bad => rw [hm] at h; exact h
theorem j_links {X : Cx} {cv : Nat → Value} {W : WX} {a : Expr} {ma : Sm} {op op' : CmpOp} {ops : List CmpOp} {e e' : Expr} {es : List Expr} {l : List ((D → D → Rp) × Sm)} {pos : Pos} (ha : JW X cv W a ma) (hb : ∀ p ∈ l, IsB p.1) (h : LkOk X (op :: op' :: ops) (e :: e' :: es) (l.map fun p => (rG p.1, rdW cv W p.2))) (hm : lastMarks (op :: op' :: ops) (e :: e' :: es) = false) : JE X cv W (.Compare a (op :: op' :: ops) (e :: e' :: es) pos) (eChN ma l) :=
  PE.imp (pe_links ha h hm) fun σ H Q ⟨ρ, F, r, q⟩ => by
    refine ⟨ρ, F, r, ?_⟩
    have fin : ∀ d, GotE cv W F H σ Q (eLinks l d ρ) → QW F H d fun x H1 => tLinks (l.map fun p => (rG p.1, rdW cv W p.2)) x σ H1 Q := fun d h v F2 H2 ev wk => rd_links l hb v d F2 H2 (r.evo ev) wk (GotE.evo ev h)
    unfold eChN at q
    cases hma : ma ρ with
    | ok d => rw [hma] at q; exact fin d q
    | new d => rw [hma] at q; exact fin _ q
    | exc c => rw [hma] at q; exact q
    | bad => rw [hma] at q; exact q
variable {S : S0}
structure OkL (S : S0) (sc : Scope) (ops : List CmpOp) (es : List Expr) where
  l : List ((D → D → Rp) × Sm)
  lk : List Nat
  b : ∀ p ∈ l, IsB p.1
  ne : ∃ p r, l = p :: r
  ok : ∀ cv X W, Gd S cv X W → X.env.scope = sc → LkOk X ops es (l.map fun p => (rG p.1, rdW cv W p.2))
def linksOf (r : TR S) (sc : Scope) : (ops : List CmpOp) → (es : List Expr) → Option (OkL S sc ops es)
  | [op], [e] => (cmpOf op).bind fun o => (wOf r sc e).map fun x => ⟨[(o.g, x.m)], x.lk, fun p hp => by cases List.mem_singleton.mp hp; exact o.b, ⟨_, _, rfl⟩, fun cv X W g h => .one (o.ok X g.hu) (x.ok cv X W g h)⟩
  | op :: op' :: ops, e :: e' :: es => (cmpOf op).bind fun o => (wOf r sc e).bind fun x => (linksOf r sc (op' :: ops) (e' :: es)).map fun z => ⟨(o.g, x.m) :: z.l, x.lk ++ z.lk, fun p hp => by
      rcases List.mem_cons.mp hp with rfl | hp
      · exact o.b
      · exact z.b p hp, ⟨_, _, rfl⟩, fun cv X W g h => by
      have k := z.ok cv X W g h
      obtain ⟨p, q, e⟩ := z.ne
      rw [e] at k
      show LkOk X _ _ ((rG o.g, rdW cv W x.m) :: z.l.map fun p => (rG p.1, rdW cv W p.2))
      rw [e]
      exact .cons (o.ok X g.hu) (x.ok cv X W g h) k⟩
  | _, _ => none
def chainOf (r : TR S) (sc : Scope) (a : Expr) (pos : Pos) : (ops : List CmpOp) → (bs : List Expr) → Option (OkE S sc (.Compare a ops bs pos))
  | op :: op' :: ops, e :: e' :: es => (wOf r sc a).bind fun x => (linksOf r sc (op :: op' :: ops) (e :: e' :: es)).bind fun z => if hm : lastMarks (op :: op' :: ops) (e :: e' :: es) = false then some ⟨eChN x.m z.l, x.lk ++ z.lk, fun cv X W g h => j_links (x.ok cv X W g h) z.b (z.ok cv X W g h) hm⟩ else none
  | _, _ => none
/-! ### the wider translator -/
end U
set_option Elab.async false
set_option linter.all false
set_option maxRecDepth 100000
set_option maxHeartbeats 1000000
namespace U
open PySem PySem.Spec PyProof.Rows L2 HT
section
variable {prog : Program} {w : World} {A : Around} {E : Value → Shared → Prop} {s : Shared}
theorem adjust_rev (n : Nat) : Builtin.Slice.sliceAdjust none none (-1) (n : Int) = ((n : Int) - 1, -1) := by
  unfold Builtin.Slice.sliceAdjust
  rfl
theorem places_rev (n : Nat) : Builtin.Slice.slicePlaces ((n : Int) - 1) (-1) (-1) = n := by
  unfold Builtin.Slice.slicePlaces
  have h1 : ¬ ((-1 : Int) > 0) := by omega
  simp only [h1, if_false]
  have e : -(-1 : Int) = 1 := by decide
  rw [e, Int.ediv_one]
  split <;> omega
theorem sliceApplied_rev {sl : Addr} {vl vu vs : Value} {n : Nat} {Q : Int × Int × Nat → Shared → Prop} (hs : s.heap.IsSliceOf sl vl vu vs) (pl : IsPart vl none) (pu : IsPart vu none) (ps : IsPart vs (some (-1)))
    (h : Q ((n : Int) - 1, -1, n) s) : wpAny (model prog w) A (Builtin.Slice.sliceApplied (.ref sl) (pure (n : Int))) Q E s := by
  obtain ⟨os, hos, hcs, hds⟩ := id hs
  unfold Builtin.Slice.sliceApplied Builtin.Slice.sliceFields
  refine wpAny_bind (wpAny_bind (wpAny_field hos hds (x := vl) rfl (wpAny_bind (wpAny_field hos hds (x := vu) rfl (wpAny_bind (wpAny_field hos hds (x := vs) rfl (wpAny_pure ?_)))))))
  refine wpAny_bind (slicePart_ ps ?_)
  show wpAny _ _ (if ((-1 : Int) == 0) = true then _ else _) _ _ s
  rw [if_neg (by decide)]
  refine wpAny_bind (slicePart_ pl (wpAny_bind (slicePart_ pu (wpAny_bind (wpAny_pure ?_)))))
  show wpAny _ _ (match Builtin.Slice.sliceAdjust none none (-1) (n : Int) with | (lo, hi) => pure (lo, (-1 : Int), Builtin.Slice.slicePlaces lo hi (-1))) _ _ s
  rw [adjust_rev n]
  show wpAny _ _ (pure ((n : Int) - 1, (-1 : Int), Builtin.Slice.slicePlaces ((n : Int) - 1) (-1) (-1))) _ _ s
  rw [places_rev]
  exact wpAny_pure h
theorem pick_rev (xs : Array Value) : ((List.range xs.size).filterMap fun (m : Nat) => xs[((xs.size : Int) - 1 + (m : Int) * (-1)).toNat]?).toArray = xs.toList.reverse.toArray := by
  have e : (fun (m : Nat) => xs[((xs.size : Int) - 1 + (m : Int) * (-1)).toNat]?) = (fun x => xs[x]?) ∘ fun m => xs.size - 1 - m := by
    funext m
    have : ((xs.size : Int) - 1 + (m : Int) * (-1)).toNat = xs.size - 1 - m := by omega
    show _ = xs[xs.size - 1 - m]?
    rw [this]
  rw [e, ← List.filterMap_map, PySem.W.krv_range, List.filterMap_reverse, PySem.W.krv_all]
theorem getItem_tuple_rev {t sl : Addr} {items : Array Value} {vl vu vs : Value} {Q : Value → Shared → Prop} (ht : IsTup s.heap t items) (hs : s.heap.IsSliceOf sl vl vu vs) (pl : IsPart vl none) (pu : IsPart vu none) (ps : IsPart vs (some (-1)))
    (h : Q (.ref s.heap.objs.size) { s with heap := s.heap.push { cls := .type "tuple", data := .seq items.toList.reverse.toArray } })
    (hsz : items.size ≤ sizeLine) : wpAny (model prog w) A (getItem (.ref t) (.ref sl)) Q E s := by
  have htake : sizeOk (.seq items.toList.reverse.toArray) := by
    show items.toList.reverse.toArray.size ≤ sizeLine
    rw [List.size_toArray, List.length_reverse, Array.length_toList]
    exact hsz
  obtain ⟨os, hos, hcs, hds⟩ := id hs
  have hTs : s.TypeIs (.ref sl) "slice" := ⟨os, hos, hcs⟩
  unfold getItem
  try with_reducible refine wpAny_holding ?_
  first | refine wpAny_bind (wpAny_pure ?_) | skip
  refine wpAny_bind (wpAny_sequenceKey ht.typeIs (by decide) ?_)
  refine wpAny_bind (wpAny_callSpecial?_slot (name := Str.ofString "__getitem__") ht.typeIs PyProof.Rows.slot_tuple_getitem
    (wpAny_call_entry PyProof.Rows.slot_tuple_getitem ht.typeIs entry_tuple_getitem ?_ (args_tuple_getitem _ _)))
  show wpAny _ _ (Builtin.Tuple.tupleItemsOf (.ref t) >>= _) _ _ s
  refine wpAny_bind (tupleItemsOf_ ht ?_)
  refine wpAny_bind (wpAny_typeOf hTs ?_)
  rw [if_pos (by decide)]
  refine wpAny_bind (sliceApplied_rev hs pl pu ps ?_)
  have hno : ¬ ((((items.size : Int) - 1) == 0 && (-1 : Int) == 1 && items.size == items.size) = true) := by
    intro q
    rw [Bool.and_eq_true, Bool.and_eq_true] at q
    exact absurd q.1.2 (by decide)
  show wpAny _ _ (if ((((items.size : Int) - 1) == 0 && (-1 : Int) == 1 && items.size == items.size) = true) then _ else _) _ _ s
  rw [if_neg hno, pick_rev]
  first
    | exact wpAny_bind (m := Builtin.Tuple.tupleExact _) (wpAny_newObj_type (wpAny_pure ⟨_, rfl, wpAny_pure h⟩) htake)
    | exact wpAny_bind (m := Builtin.Tuple.tupleExact _) (wpAny_newObj_type (wpAny_bind (wpAny_pure (wpAny_pure ⟨_, rfl, wpAny_pure h⟩))) htake)
    | exact wpAny_bind (wpAny_bind (m := Builtin.Tuple.tupleExact _) (wpAny_newObj_type (wpAny_pure (wpAny_pure ⟨_, rfl, wpAny_pure h⟩)) htake))
    | exact wpAny_bind (wpAny_bind (m := Builtin.Tuple.tupleExact _) (wpAny_newObj_type (wpAny_pure ⟨_, rfl, wpAny_pure h⟩) htake))
end
section
variable {X : Cx}
def tRevT (K : PySem.W.Frag) (te : TE) : TE := fun σ H Q => te σ H fun x H1 => ∃ a xs, x = .ref a ∧ SqT K H1 a xs ∧ ∀ p, H1 p = none → Q (.ref p) (upd H1 p (.tup xs.reverse))
theorem pe_revT {e : Expr} {te : TE} {k : Nat} {p1 p2 p3 pos : Pos} (he : PE X e te) : PE X (.Subscript e (.Slice none none (some (.UnaryOp .USub (.Constant (.int 1) k p1) p2)) p3) pos) (tRevT X.K te) := by
  refine ⟨fun pins s σ H Q I h => ?_⟩
  refine Subscript_ (thn (he.run pins s σ H _ I h) fun v s1 ⟨x, H1, I1, r1, q1⟩ => ?_)
  obtain ⟨a, xs, ex, hx, q⟩ := q1
  subst ex
  cases r1
  have hst : PO X (some (.UnaryOp .USub (.Constant (.int 1) k p1) p2)) (tPart (tUn (rU fun i => .int (-i)) (tC (.int 1)))) := po_some (pe_un un_neg pe_int)
  refine wpAny_Slice (thn (po_none.run pins s1 σ H1 (fun o H2 => o = none ∧ H2 = H1) I1 ⟨rfl, rfl⟩) fun vl s2 ⟨l, H2, I2, pl, el, e2⟩ => ?_)
  subst el e2
  refine thn (po_none.run pins s2 σ H2 (fun o H3 => o = none ∧ H3 = H2) I2 ⟨rfl, rfl⟩) fun vu s3 ⟨u, H3, I3, pu, eu, e3⟩ => ?_
  subst eu e3
  refine thn (hst.run pins s3 σ H3 (fun o H4 => o = some (-1) ∧ H4 = H3) I3 ⟨1, rfl, -1, rfl, rfl, rfl⟩) fun vs s4 ⟨o, H4, I4, ps, eo, e4⟩ => ?_
  subst eo e4
  have I5 : Inv X pins σ H4 { s4 with heap := s4.heap.push { cls := .type "slice", data := .fields #[vl, vu, vs] } } := I4.kept (t' := s4.toks) fun b ob q => Heap.get?_push_of_some _ q
  obtain ⟨its, r, ht, hz⟩ := I5.tuple hx
  have hlen := r.length
  show wpAny (model X.prog X.w) X.A (subscriptTail e (.Slice none none (some (.UnaryOp .USub (.Constant (.int 1) k p1) p2)) p3) (.ref a) (.ref s4.heap.objs.size)) (EP X pins σ Q) X.xe { s4 with heap := s4.heap.push { cls := .type "slice", data := .fields #[vl, vu, vs] } }
  refine tail_any (ops := [.ref a, .ref s4.heap.objs.size]) ht.typeIs (PyProof.Rows.slot_tuple_getitem.lookup) ?_ (by with_unfolding_all rfl)
  refine getItem_tuple_rev ht (Heap.IsSliceOf.new _ vl vu vs) pl pu ps ?_ (by rw [List.size_toArray]; omega)
  refine ⟨.ref _, _, I5.laid (t' := s4.toks) (o := .tup xs.reverse) (fun b ob q => Heap.get?_push_of_some _ q) (Nat.le_refl _) ?_, rfl, q _ (I5.hok.fresh (Nat.le_refl _))⟩
  exact ⟨by rw [List.length_reverse]; exact hz, _, r.reverse, IsTup.new _ _⟩
end
/-! ### the layer's forms -/
theorem dps_ap2 {F : Hp} : ∀ {xs ys : List V} {ds es : List D}, DrAll F xs ds → DrAll F ys es → DrAll F (xs ++ ys) (ds ++ es)
  | _, _, _, _, .nil, h => h
  | _, _, _, _, .cons h hs, k => .cons h (dps_ap2 hs k)
theorem dps_rev {F : Hp} : ∀ {xs : List V} {ds : List D}, DrAll F xs ds → DrAll F xs.reverse ds.reverse
  | _, _, .nil => .nil
  | _, _, .cons h hs => by
    rw [List.reverse_cons, List.reverse_cons]
    exact dps_ap2 (dps_rev hs) (.cons h .nil)
def rvD : D → Res
  | .tuple xs => .ok (.tuple xs.reverse)
  | _ => .bad
def eRev (ma : Sm) : Sm := fun ρ => (ma ρ).bind rvD
def eBad : Sm := fun _ => .bad
section
variable {X : Cx} {cv : Nat → Value} {W : WX} {a : Expr} {ma : Sm} {pos : Pos}
theorem j_rev {k : Nat} {p1 p2 p3 : Pos} (ha : JW X cv W a ma) : JE X cv W (.Subscript a (.Slice none none (some (.UnaryOp .USub (.Constant (.int 1) k p1) p2)) p3) pos) (eRev ma) :=
  PE.imp (pe_revT ha) fun σ H Q ⟨ρ, F, r, q⟩ => by
    refine ⟨ρ, F, r, ?_⟩
    unfold eRev at q
    have go : ∀ d, GotE cv W F H σ Q (rvD d) → QW F H d fun x H1 => ∃ a xs, x = .ref a ∧ SqT X.K H1 a xs ∧ ∀ p, H1 p = none → Q (.ref p) (upd H1 p (.tup xs.reverse)) := fun d q v F1 H1 ev wk => by
      cases d <;> try exact q.elim
      obtain ⟨p, xs, rfl, hpF, hp, hx⟩ := wk.tuple ev.le
      exact ⟨p, xs, rfl, .inl (.inl hp), fun l hl => QD.tup ev.le (QD.evo ev q) (dps_rev hx) hl⟩
    cases h : ma ρ with
    | ok d => rw [h] at q; exact go d q
    | new d => rw [h] at q; exact go _ q
    | exc c => rw [h] at q; exact q
    | bad => rw [h] at q; exact q
theorem j_bad {e : Expr} : JE X cv W e eBad := ⟨fun pins s σ H Q I h => by
  obtain ⟨ρ, F, _, q⟩ := h
  exact False.elim q⟩
end
variable {S : S0}
def revOf (r : TR S) (sc : Scope) (a : Expr) (pos : Pos) : (i : Expr) → Option (OkE S sc (.Subscript a i pos))
  | .Slice none none (some (.UnaryOp .USub (.Constant (.int 1) k p1) p2)) p3 => (wOf r sc a).map fun x => ⟨eRev x.m, x.lk, fun cv X W g h => j_rev (x.ok cv X W g h)⟩
  | _ => none
def moreD (r : TR S) (sc : Scope) : (e : Expr) → Option (OkE S sc e)
  | .Compare a ops bs pos => chainOf r sc a pos ops bs
  | .Subscript a i pos => revOf r sc a pos i
  | _ => none
/-- no word about a whole body: where a recursion is cut -/
def badB (S : S0) (sc : Scope) (body : List Stmt) : Option (OkSs S sc body) := some ⟨sBad, fun cv X W g gx h B => ⟨fun pins s σ H D _ h => by
  obtain ⟨ρ, F, _, q⟩ := h
  exact False.elim q⟩⟩
end U
set_option Elab.async false
set_option linter.all false
set_option maxRecDepth 100000
set_option maxHeartbeats 1000000
namespace U
open PySem PySem.Spec PyProof.Rows L2
/-! ### sorted(set(t)), t a tuple of ints -/
def rSetTI (K : PySem.W.Frag) (w : World) : List V → Hp → VK → Prop := fun xs H Q => ∃ (p : Addr) (ns : List Int), xs = [.ref p] ∧ SqT K H p (ns.map V.int) ∧ ns.length < 60 ∧ ∀ a c, H a = none → c ≤ ns.length → Q (.ref a) (upd H a (SetO w a (fun j => decide (j ∈ ns)) c))
section
variable {X : Cx}
theorem cr_setTI (hc : X.calm = true) : CallR X (.type "set") (rSetTI X.K X.w) := by
  intro pins s σ H xs us Q I r h
  obtain ⟨p, ns, rfl, hp, hl, q⟩ := h
  rw [Vals.ref1 r]
  obtain ⟨its, rv, pt, hz⟩ := I.tuple hp
  have hi : IntsAre its.toArray.toList ns := ints_of_vals rv
  refine call_set_tupI ns (I.ok.hd hc) (show s.heap.IsTuple p its.toArray from pt) hi (by unfold scanBound; omega) fun h' tk c R1 hcn k => ?_
  exact ⟨.ref _, upd H s.heap.objs.size (SetO X.w s.heap.objs.size (fun j => decide (j ∈ ns)) c), I.laid (t' := tk) k (Nat.le_refl _) (setO_new R1), rfl, q _ c (I.hok.fresh (Nat.le_refl _)) hcn⟩
theorem pe_srt {e : Expr} {te : TE} {p p2 q2 pos : Pos} (hc : X.calm = true) (hg : Gl X "sorted") (hm : X.mg "sorted" = none) (hg2 : Gl X "set") (hm2 : X.mg "set" = none) (he : PE X e te) (hs : notStar e = true) :
    PE X (.Call (.Name "sorted" p) [.Call (.Name "set" p2) [e] [] q2] [] pos) (fun σ H Q => te σ H fun x H1 => rSetTI X.K X.w [x] H1 fun y H2 => rSortedSet X.w [y] H2 Q) := by
  have i1 : PE X (.Call (.Name "set" p2) [e] [] q2) _ := pe_callTy (cr_setTI hc) hg2 hm2 PyProof.Rows.boot_set (pa_cons he pa_nil (star_cons hs)) (by decide) (by decide) (star_cons hs) rfl
  have i2 : PE X (.Call (.Name "sorted" p) [.Call (.Name "set" p2) [e] [] q2] [] pos) _ := pe_callB (cr_sortedSet hc) hg hm PyProof.Rows.boot_sorted (pa_cons i1 pa_nil rfl) (by decide) (by decide) rfl rfl
  exact i2
end
/-! the ascending list without repeats -/
def insU (k : Int) : List Int → List Int
  | [] => [k]
  | x :: xs => if k < x then k :: x :: xs else if k = x then x :: xs else x :: insU k xs
def srt : List Int → List Int
  | [] => []
  | k :: ks => insU k (srt ks)
theorem mem_insU (k j : Int) : ∀ l : List Int, j ∈ insU k l ↔ j = k ∨ j ∈ l
  | [] => by simp [insU]
  | x :: xs => by
    unfold insU
    split
    · simp
    · split
      · rename_i h; subst h; simp
      · simp only [List.mem_cons, mem_insU k j xs]
        constructor
        · rintro (h | h | h)
          · exact .inr (.inl h)
          · exact .inl h
          · exact .inr (.inr h)
        · rintro (h | h | h)
          · exact .inr (.inl h)
          · exact .inl h
          · exact .inr (.inr h)
theorem pw_insU (k : Int) : ∀ l : List Int, l.Pairwise (· < ·) → (insU k l).Pairwise (· < ·)
  | [], _ => by simp [insU]
  | x :: xs, h => by
    rw [List.pairwise_cons] at h
    unfold insU
    split
    · rename_i h1
      rw [List.pairwise_cons, List.pairwise_cons]
      refine ⟨fun y hy => ?_, h⟩
      rcases List.mem_cons.mp hy with rfl | hy
      · exact h1
      · have := h.1 y hy; omega
    · split
      · rw [List.pairwise_cons]; exact h
      · rw [List.pairwise_cons]
        refine ⟨fun y hy => ?_, pw_insU k xs h.2⟩
        rcases (mem_insU k y xs).mp hy with rfl | hy
        · omega
        · exact h.1 y hy
theorem mem_srt (j : Int) : ∀ l : List Int, j ∈ srt l ↔ j ∈ l
  | [] => by simp [srt]
  | k :: ks => by rw [srt, mem_insU, mem_srt j ks, List.mem_cons]
theorem pw_srt : ∀ l : List Int, (srt l).Pairwise (· < ·)
  | [] => by simp [srt]
  | k :: ks => pw_insU k _ (pw_srt ks)
theorem pw_uniq : ∀ {a b : List Int}, a.Pairwise (· < ·) → b.Pairwise (· < ·) → (∀ k, k ∈ a ↔ k ∈ b) → a = b
  | [], [], _, _, _ => rfl
  | [], y :: ys, _, _, h => absurd ((h y).mpr List.mem_cons_self) (by simp)
  | x :: xs, [], _, _, h => absurd ((h x).mp List.mem_cons_self) (by simp)
  | x :: xs, y :: ys, ha, hb, h => by
    rw [List.pairwise_cons] at ha hb
    have e : x = y := by
      rcases List.mem_cons.mp ((h x).mp List.mem_cons_self) with e | h1
      · exact e
      · rcases List.mem_cons.mp ((h y).mpr List.mem_cons_self) with e | h2
        · exact e.symm
        · have := hb.1 x h1; have := ha.1 y h2; omega
    subst e
    have : xs = ys := pw_uniq ha.2 hb.2 fun k => by
      constructor
      · intro hk
        rcases List.mem_cons.mp ((h k).mp (List.mem_cons_of_mem _ hk)) with e | h1
        · subst e; have := ha.1 k hk; omega
        · exact h1
      · intro hk
        rcases List.mem_cons.mp ((h k).mpr (List.mem_cons_of_mem _ hk)) with e | h1
        · subst e; have := hb.1 k hk; omega
        · exact h1
    rw [this]
def intsOf : List D → Option (List Int)
  | [] => some []
  | .int i :: ds => (intsOf ds).map (i :: ·)
  | _ => none
theorem dps_ints {F : Hp} : ∀ {ds : List D} {xs : List V} {ns : List Int}, intsOf ds = some ns → DrAll F xs ds → xs = ns.map V.int
  | [], _, ns, h, hd => by cases h; cases hd; rfl
  | d :: ds, _, ns, h, hd => by
    cases d <;> try cases h
    rename_i i
    simp only [intsOf] at h
    cases hi : intsOf ds with
    | none => rw [hi] at h; cases h
    | some ms =>
      rw [hi] at h; cases h
      cases hd with
      | cons h1 h2 =>
        cases h1
        rw [dps_ints hi h2] <;> rfl
theorem dps_ofInts {F : Hp} : ∀ ns : List Int, DrAll F (ns.map V.int) (ns.map PyData.int)
  | [] => .nil
  | i :: r => .cons (.int i) (dps_ofInts r)
def srtD : D → Res
  | .tuple ds => match intsOf ds with
    | some ns => if ns.length < 60 then .new ((srt ns).map .int) else .bad
    | none => .bad
  | _ => .bad
def eSrt (ma : Sm) : Sm := fun ρ => (ma ρ).bind srtD
theorem j_srt {X : Cx} {cv : Nat → Value} {W : WX} {a : Expr} {ma : Sm} {p p2 q2 pos : Pos} (hc : X.calm = true) (hg : Gl X "sorted") (hm : X.mg "sorted" = none) (hg2 : Gl X "set") (hm2 : X.mg "set" = none) (ha : JW X cv W a ma) (hs : notStar a = true) : JE X cv W (.Call (.Name "sorted" p) [.Call (.Name "set" p2) [a] [] q2] [] pos) (eSrt ma) :=
  PE.imp (pe_srt hc hg hm hg2 hm2 ha hs) fun σ H Q ⟨ρ, F, r, q⟩ => by
    refine ⟨ρ, F, r, ?_⟩
    unfold eSrt at q
    have go : ∀ d, GotE cv W F H σ Q (srtD d) → QW F H d fun x H1 => rSetTI X.K X.w [x] H1 fun y H2 => rSortedSet X.w [y] H2 Q := fun d q v F1 H1 ev wk => by
      cases d <;> try exact q.elim
      rename_i ds
      unfold srtD at q
      simp only at q
      cases hi : intsOf ds with
      | none => rw [hi] at q; exact q.elim
      | some ns =>
        rw [hi] at q
        simp only at q
        split at q
        case isFalse => exact q.elim
        rename_i hl
        obtain ⟨p, xs, rfl, hpF, hp, hx⟩ := wk.tuple ev.le
        have ex := dps_ints hi hx
        subst ex
        refine ⟨p, ns, rfl, .inl (.inl hp), hl, fun a c ha hc => ⟨a, _, c, rfl, upd_same, by omega, fun out p' pw mem len hp' => ?_⟩⟩
        have eo : out = srt ns := pw_uniq pw (pw_srt ns) fun k => by rw [mem k, mem_srt, decide_eq_true_eq]
        subst eo
        have q' : QN F1 H1 ((srt ns).map .int) Q := QN.evo ev q
        have f1 : H1 p' = none := none_back (Evl.Ex.new ha) hp'
        exact q' p' _ F1 _ (((Evo.refl ev.le).own ha).own hp') f1 (none_back ev.le f1) upd_same (dps_ofInts _)
    cases h : ma ρ with
    | ok d => rw [h] at q; exact go d q
    | new d => rw [h] at q; exact go _ q
    | exc c => rw [h] at q; exact q
    | bad => rw [h] at q; exact q
variable {S : S0}
def srtOf (r : TR S) (sc : Scope) : (e : Expr) → Option (OkE S sc e)
  | .Call (.Name x p) [.Call (.Name y p2) [a] [] q2] [] pos => if h : x = "sorted" ∧ y = "set" ∧ glB sc x = true ∧ glB sc y = true ∧ notStar a = true then (wOf r sc a).map fun u => ⟨eSrt u.m, u.lk, fun cv X W g e => by
      obtain ⟨h1, h2, h3, h4, h5⟩ := h
      subst h1 h2
      exact j_srt g.calm (Gd.gl (cv := cv) (W := W) e h3) (g.blt _ (by decide +kernel)) (Gd.gl (cv := cv) (W := W) e h4) (g.blt _ (by decide +kernel)) (u.ok cv X W g e) h5⟩ else none
  | _ => none
end U
set_option Elab.async false
set_option linter.all false
set_option maxRecDepth 100000
set_option maxHeartbeats 1000000
namespace U
open PySem PySem.Spec PyProof.Rows L2
/-! ### a suite that gathers answers about the error: x = [..]; x = x + [..]; .. -/
def evX (c : Nat) : List Xm → Option (List Bool)
  | [] => some []
  | m :: ms => match m c with
    | some (.bl b) => (evX c ms).map (b :: ·)
    | _ => none
def rdXs (ms : List Xm) (c i : Nat) (a : Addr) : TA := fun σ H Q => σ[i]? = some (some (.ref a)) ∧ ∃ bs, evX c ms = some bs ∧ Q (bs.map V.bl) H
def JXs (X : Cx) (cv : Nat → Value) (n : List Nat) (i : Nat) (es : List Expr) (ms : List Xm) : Prop := ∀ (a : Addr) (oe : Obj) (c : Nat) (pn : List (Addr × Obj)), c ∈ n → Zc (cv c) none oe → (∃ vs, oe.data = .fields vs) → PA (X.suite a ((a, oe) :: pn)) es (rdXs ms c i a)
section
variable {X : Cx} {cv : Nat → Value} {n : List Nat} {i j : Nat}
theorem jxs_nil : JXs X cv n i [] [] := fun a oe c pn hc hz hf => PA.imp pa_nil fun σ H Q ⟨_, bs, h, q⟩ => by cases h; exact q
theorem jxs_cons {e : Expr} {es : List Expr} {m : Xm} {ms : List Xm} (he : JX X cv n i e m) (hs : notStar e = true) (hr : JXs X cv n i es ms) : JXs X cv n i (e :: es) (m :: ms) := fun a oe c pn hc hz hf =>
  PA.imp (pa_cons (he a oe c pn hc hz hf) (hr a oe c pn hc hz hf) (star_cons hs)) fun σ H Q ⟨hi, bs, h, q⟩ => by
    unfold evX at h
    cases hm : m c with
    | none => rw [hm] at h; cases h
    | some v =>
      rw [hm] at h
      cases v <;> try cases h
      rename_i b
      cases hb : evX c ms with
      | none => rw [hb] at h; cases h
      | some bs' =>
        rw [hb] at h; cases h
        exact ⟨hi, _, hm, hi, bs', hb, q⟩
/-- the rows of the suite -/
inductive SuJ (X : Cx) (cv : Nat → Value) (n : List Nat) (i j : Nat) (x : Str) : List Stmt → List (List Xm) → Prop
  | nil : SuJ X cv n i j x [] []
  | cons {es : List Expr} {ms : List Xm} {p p2 lp bp pos : Pos} {rest : List Stmt} {mr : List (List Xm)} (h : JXs X cv n i es ms) (hl : ms.length ≤ 100) (r : SuJ X cv n i j x rest mr) : SuJ X cv n i j x (.Assign [.Name x p] (.BinOp (.Name x p2) .Add (.List es lp) bp) pos :: rest) (ms :: mr)
/-- where the list stands -/
structure Sst (j : Nat) (F H0 : Hp) (σ0 : L2.St) (bs : List Bool) (σ : L2.St) (H : Hp) : Prop where
  ok : ∃ p F1 xs, σ = σ0.set j (some (.ref p)) ∧ Evo F H0 F1 H ∧ H0 p = none ∧ F1 p = none ∧ H p = some (.lst xs) ∧ DrAll F1 xs (bs.map PyData.bool)
theorem dps_bools {F : Hp} : ∀ bs : List Bool, DrAll F (bs.map V.bl) (bs.map PyData.bool)
  | [] => .nil
  | b :: r => .cons (.bl b) (dps_bools r)
theorem evX_app {c : Nat} : ∀ {ms ns : List Xm} {bs : List Bool}, evX c (ms ++ ns) = some bs → ∃ b1 b2, evX c ms = some b1 ∧ evX c ns = some b2 ∧ bs = b1 ++ b2
  | [], ns, bs, h => ⟨[], bs, rfl, h, rfl⟩
  | m :: ms, ns, bs, h => by
    simp only [List.cons_append] at h
    rw [evX] at h
    cases hm : m c with
    | none => rw [hm] at h; cases h
    | some v =>
      rw [hm] at h
      cases v <;> try cases h
      rename_i b
      cases hb : evX c (ms ++ ns) with
      | none => rw [hb] at h; cases h
      | some bs' =>
        rw [hb] at h; cases h
        obtain ⟨b1, b2, h1, h2, rfl⟩ := evX_app hb
        exact ⟨b :: b1, b2, by rw [evX, hm]; simp only [h1]; rfl, h2, rfl⟩
section
variable {x : Str} (hN : X.N.Nodup) (hj : X.N[j]? = some x) (hx : Loc X.env.scope x) (hfn : X.env.scope.names.lookup x = some .local) (hv : Vis X.env.scope x) (hdb : (x == ("__debug__" : Str)) = false) (hcd : (x == ("__classdict__" : Str)) = false) (hij : i ≠ j) (a : Addr) (oe : Obj) (c : Nat) (pn : List (Addr × Obj)) (hc : c ∈ n) (hz : Zc (cv c) none oe) (hf : ∃ vs, oe.data = .fields vs) (F H0 : Hp) (σ0 : L2.St) (le0 : Ex F H0) (hi0 : σ0[i]? = some (some (.ref a))) (hlen : j < σ0.length)
include hN hj hx hfn hv hdb hcd hij hc hz hf le0 hi0 hlen
theorem su_run {sts : List Stmt} {mss : List (List Xm)} (hsu : SuJ X cv n i j x sts mss) : PSs (X.suite a ((a, oe) :: pn)) sts (fun Dn σ H => ∃ bs, Sst j F H0 σ0 bs σ H ∧ ∃ bs', evX c mss.flatten = some bs' ∧ bs.length + bs'.length ≤ 1000 ∧ ∀ σ' H', Sst j F H0 σ0 (bs ++ bs') σ' H' → Dn.nx σ' H') := by
  induction hsu with
  | nil =>
    refine PSs.imp pss_nil fun Dn σ H hh => ?_
    obtain ⟨bs, S, bs', h, _, q⟩ := hh
    cases h
    rw [List.append_nil] at q
    exact q σ H S
  | @cons es ms p p2 lp bp pos rest mr h hl r ih =>
    refine PSs.imp (pss_cons (ps_set (X := X.suite a ((a, oe) :: pn)) hN hj hx (pe_op (X := X.suite a ((a, oe) :: pn)) o_add (pe_var (X := X.suite a ((a, oe) :: pn)) hj hv hdb hcd) (pe_lst (h a oe c pn hc hz hf))) (sw_no rfl) (.inr hfn)) ih) fun Dn σ H hh => ?_
    obtain ⟨bs, ⟨q0, F1, xs, rfl, ev, h0, hF1, hH, hd⟩, bs', he, hn, q⟩ := hh
    rw [List.flatten_cons] at he
    obtain ⟨b1, b2, e1, e2, rfl⟩ := evX_app he
    refine ⟨.ref q0, by rw [List.getElem?_set_self hlen], ?_⟩
    refine ⟨by rw [List.getElem?_set_ne (Ne.symm hij)]; exact hi0, b1, e1, by rw [List.length_map, sizeLine_eq]; simp only [List.length_append] at hn; omega, fun q1 hq1 => ?_⟩
    have evo1 : Evo F1 H F1 (upd H q1 (.lst (b1.map V.bl))) := (Evo.refl ev.le).own hq1
    have w1 : Wk F1 (upd H q1 (.lst (b1.map V.bl))) (.ref q0) (.list (bs.map .bool)) := Wk.evo evo1 (.inr ⟨q0, xs, _, rfl, rfl, hH, hd⟩)
    have w2 : Wk F1 (upd H q1 (.lst (b1.map V.bl))) (.ref q1) (.list (b1.map .bool)) := .inr ⟨q1, _, _, rfl, rfl, upd_same, dps_bools b1⟩
    refine ⟨F1, _, _, evo1.le, w1, w2, ?_⟩
    show GotP F1 _ _ (if (bs.map PyData.bool).length + (b1.map PyData.bool).length ≤ 100000 then Rp.new (bs.map PyData.bool ++ b1.map PyData.bool) else .bad)
    rw [if_pos (by simp only [List.length_map, List.length_append] at hn ⊢; omega)]
    intro p3 xs3 F3 H3 ev3 g1 g2 g3 g4
    have evA : Evo F H0 F3 H3 := (ev.trans evo1).trans ev3
    refine ⟨bs ++ b1, ⟨p3, F3, xs3, by rw [List.set_set], evA, none_back (ev.trans evo1).hx g1, g2, g3, by rw [List.map_append]; exact g4⟩, b2, e2, by simp only [List.length_append] at hn ⊢; omega, fun σ' H' S => q σ' H' (by rw [← List.append_assoc]; exact S)⟩
theorem su_first {es : List Expr} {ms : List Xm} {p lp pos : Pos} {sts : List Stmt} {mss : List (List Xm)} (h : JXs X cv n i es ms) (hsu : SuJ X cv n i j x sts mss) : PSs (X.suite a ((a, oe) :: pn)) (.Assign [.Name x p] (.List es lp) pos :: sts) (fun Dn σ H => σ = σ0 ∧ H = H0 ∧ ∃ bs, evX c (ms ++ mss.flatten) = some bs ∧ bs.length ≤ 1000 ∧ ∀ σ' H', Sst j F H0 σ0 bs σ' H' → Dn.nx σ' H') := by
  refine PSs.imp (pss_cons (ps_set (X := X.suite a ((a, oe) :: pn)) hN hj hx (pe_lst (h a oe c pn hc hz hf)) (sw_no rfl) (.inr hfn)) (su_run hN hj hx hfn hv hdb hcd hij a oe c pn hc hz hf F H0 σ0 le0 hi0 hlen hsu)) fun Dn σ H hh => ?_
  obtain ⟨rfl, rfl, bs, he, hn, q⟩ := hh
  obtain ⟨b1, b2, e1, e2, rfl⟩ := evX_app he
  refine ⟨hi0, b1, e1, by rw [List.length_map, sizeLine_eq]; simp only [List.length_append] at hn; omega, fun q1 hq1 => ?_⟩
  exact ⟨b1, ⟨q1, F, _, rfl, (Evo.refl le0).own hq1, hq1, none_back le0 hq1, upd_same, dps_bools b1⟩, b2, e2, by simp only [List.length_append] at hn; omega, q⟩
end
end
theorem RelB.un {cv : Nat → Value} {B : Bb} {ρ : Rho} {σ : L2.St} {F H : Hp} (r : RelB cv B ρ σ F H) (i : Nat) (o : Option V) : RelB cv B (ρ.set i .un) (σ.set i o) F H := by
  refine ⟨r.rel.un i o, r.evo, fun j ds p e1 e2 => ?_, fun a k fs h3 e1 => ?_⟩
  case refine_2 =>
    rw [set_get] at e1 ⊢
    split at e1
    · cases e1
    · rename_i hz
      rw [if_neg (by rw [← r.rel.len]; exact hz)]
      exact r.slf a k fs h3 e1
  rw [set_get] at e1 e2
  split at e1
  · cases e1; simp at e2
  · rename_i hz
    rw [if_neg (by rw [← r.rel.len]; exact hz)] at e2
    exact r.own j ds p e1 e2
def sTryF (sub : Nat → Nat → Bool) (n : List Nat) (body : Ss) (k i j : Nat) (ms : List Xm) : Ss := fun ρ => match body ρ with
  | .ex c ρ' => if sub c k = true then (match evX c ms with
    | some bs => if c ∈ n ∧ i < ρ'.length ∧ j < ρ'.length ∧ bs.length ≤ 1000 then .nx ((ρ'.set i .un).set j (.ow (bs.map .bool))) else .bad
    | none => .bad) else .bad
  | f => f
theorem js_tryF {X : Cx} {cv : Nat → Value} {W : WX} {sub : Nat → Nat → Bool} {n : List Nat} {body : List Stmt} {mb : Ss} {pos np pos' p lp apos : Pos} {y nm x : Str} {k i j : Nat} {es : List Expr} {ms : List Xm} {sts : List Stmt} {mss : List (List Xm)} (hs : X.stack = X.env :: X.outer) (hf : X.env.frame = some X.env.locals) (hN : X.N.Nodup) (tk : Takes X W) (C : Clss X.K cv sub n)
    (hb : ∀ (W : WX) (pn : List (Addr × Obj)) (xe : Value → Shared → Prop), Takes (X.tr pn xe) W → PassesOwn (model X.prog X.w) X.A X.env xe → JFs (X.tr pn xe) cv W body mb) (hk : k ∈ n) (hc : Names X y (cv k)) (hi : X.N[i]? = some nm) (hln : X.env.kindOf nm = some .local)
    (hj : X.N[j]? = some x) (hx : Loc X.env.scope x) (hfn : X.env.scope.names.lookup x = some .local) (hv : Vis X.env.scope x) (hdb : (x == ("__debug__" : Str)) = false) (hcd : (x == ("__classdict__" : Str)) = false) (hij : i ≠ j) (h1 : JXs X cv n i es ms) (h2 : SuJ X cv n i j x sts mss) :
    JF X cv W (.Try body [.ExceptHandler (some (.Name y np)) (some nm) (.Assign [.Name x p] (.List es lp) apos :: sts) pos'] [] [] pos) (sTryF sub n mb k i j (ms ++ mss.flatten)) := fun B => by
  let ts : Addr → Value → Option Addr → TS := fun a cls d Dn σ H => ∃ c F bs, cls = cv c ∧ d = none ∧ c ∈ n ∧ Ex F H ∧ σ[i]? = some (some (.ref a)) ∧ j < σ.length ∧ evX c (ms ++ mss.flatten) = some bs ∧ bs.length ≤ 1000 ∧ ∀ σ' H', Sst j F H σ bs σ' H' → Dn.nx σ' H'
  have L : HdsAs X [.ExceptHandler (some (.Name y np)) (some nm) (.Assign [.Name x p] (.List es lp) apos :: sts) pos'] [(cv k, i, ts)] := by
    refine .cons hc hi hln (fun a oe cls d pn hz hfl => ⟨fun pins s σ H Dn I hh => ?_⟩) .nil
    obtain ⟨c, F, bs, rfl, rfl, hcn, le, hia, hjl, he, hn, q⟩ := hh
    exact (su_first hN hj hx hfn hv hdb hcd hij a oe c pn hcn hz hfl F H σ le hia hjl h1 h2).run pins s σ H Dn I ⟨rfl, rfl, bs, he, hn, q⟩
  refine PS.imp (ps_try_all (tb := fun W => rdF cv W B mb) hs hf hN tk (fun W pn xe t po => hb W pn xe t po B) L) fun Dn σ H ⟨ρ, F, r, q⟩ => ⟨ρ, F, r, ?_⟩
  unfold sTryF at q
  cases h : mb ρ with
  | nx ρ' => rw [h] at q; exact q
  | rt d => rw [h] at q; exact q
  | rn d => rw [h] at q; exact q
  | rm d ρ' => rw [h] at q; exact q
  | rb k fs => rw [h] at q; exact q
  | bad => rw [h] at q; exact q
  | ex c ρ' =>
    rw [h] at q
    simp only at q
    intro σ' F' H' r'
    split at q
    case isFalse => exact q.elim
    rename_i hsub
    cases he : evX c (ms ++ mss.flatten) with
    | none => rw [he] at q; exact q.elim
    | some bs =>
      rw [he] at q
      simp only at q
      split at q
      case isFalse => exact q.elim
      rename_i hz
      obtain ⟨hcn, hil, hjl, hbl⟩ := hz
      refine ⟨sub c k, (C.is c k hcn hk).2, fun _ a ha => ?_, fun hb => by rw [hsub] at hb; cases hb⟩
      have hil' : i < σ'.length := by rw [← r'.rel.len]; exact hil
      have hjl' : j < σ'.length := by rw [← r'.rel.len]; exact hjl
      refine ⟨c, F', bs, rfl, rfl, hcn, r'.rel.le, by rw [List.getElem?_set_self hil'], by simpa using hjl', he, hbl, fun σ2 H2 S => ?_⟩
      obtain ⟨p, F1, xs, rfl, ev, g0, g1, g2, g3⟩ := S
      show Dn.nx (((σ'.set i (some (.ref a))).set j (some (.ref p))).set i none) H2
      rw [List.set_comm _ _ (Ne.symm hij), List.set_set]
      have rr := (r'.step ev).un i none
      refine q _ F1 H2 (rr.ow j g1 g2 (none_back r'.evo.hx g0) g3 fun j' es' e ne => ?_)
      rw [set_get] at e
      split at e
      · cases e; simp
      · rename_i hz2
        rw [set_get, if_neg (by rw [← r'.rel.len]; exact hz2)]
        exact new_apart r' g0 ev j' es' e
variable {S : S0}
def xsOf (S : S0) (sc : Scope) (i : Nat) : (es : List Expr) → Option { ms : List Xm // ∀ cv X W, Gd S cv X W → Gx S cv X → X.env.scope = sc → JXs X cv S.nc i es ms }
  | [] => some ⟨[], fun cv X W g gx h => jxs_nil⟩
  | e :: es => (xOf S sc i 12 e).bind fun m => (xsOf S sc i es).bind fun ms => if hs : notStar e = true then some ⟨m.m :: ms.1, fun cv X W g gx h => jxs_cons (m.ok cv X W g gx h) hs (ms.2 cv X W g gx h)⟩ else none
def suOf (S : S0) (sc : Scope) (i j : Nat) (x : Str) : (sts : List Stmt) → Option { mss : List (List Xm) // ∀ cv X W, Gd S cv X W → Gx S cv X → X.env.scope = sc → SuJ X cv S.nc i j x sts mss }
  | [] => some ⟨[], fun cv X W g gx h => .nil⟩
  | .Assign [.Name x1 p] (.BinOp (.Name x2 p2) .Add (.List es lp) bp) pos :: rest => (xsOf S sc i es).bind fun ms => (suOf S sc i j x rest).bind fun mr => if hz : x1 = x ∧ x2 = x ∧ ms.1.length ≤ 100 then some ⟨ms.1 :: mr.1, fun cv X W g gx h => by
      obtain ⟨z1, z2, z3⟩ := hz
      subst z1 z2
      exact .cons (ms.2 cv X W g gx h) z3 (mr.2 cv X W g gx h)⟩ else none
  | _ => none
def tryOf (t : TS0 S) (sc : Scope) : (st : Stmt) → Option (OkS S sc st)
  | .Try body [.ExceptHandler (some (.Name y np)) (some nm) (.Assign [.Name x p] (.List es lp) apos :: sts) pos'] [] [] pos =>
      let i := S.N.findIdx (· == nm)
      (ssOf t sc body).bind fun b => (slotOf S sc x).bind fun j => (xsOf S sc i es).bind fun ms => (suOf S sc i j.1 x sts).bind fun mr =>
        match hf : S.cls.find? (fun q => q.1 == y) with
        | none => none
        | some q => if hz : q.2 ∈ S.nc ∧ glB sc y = true ∧ S.N[i]? = some nm ∧ isLocB sc nm = true ∧ isLocB sc x = true ∧ locB sc x = true ∧ i ≠ j.1 then some ⟨sTryF S.sub S.nc b.m q.2 i j.1 (ms.1 ++ mr.1.flatten), fun cv X W g gx h => by
            obtain ⟨z1, z2, z3, z4, z5, z6, z7⟩ := hz
            obtain ⟨C, h1, h2⟩ := g.cls q (List.mem_of_find?_eq_some hf)
            have hx : q.1 = y := by simpa using List.find?_some hf
            rw [hx] at h2
            exact js_tryF gx.stk gx.fr g.nd g.tk gx.cl (fun W' pn xe tk po => b.ok cv _ W' (g.tr pn xe tk) ⟨gx.fnT, po, gx.stk, gx.fr, gx.cl⟩ h) z1 ⟨Gd.gl (cv := cv) (W := W) h z2, (gl_of z2).2, .inl (by rw [h1]; exact h2.gl)⟩ (by rw [g.nN]; exact z3) (by unfold PySem.Env.kindOf; rw [h]; exact isLoc_of z4)
              (by rw [g.nN]; exact j.2.1) (by rw [h]; exact loc_of z6) (by rw [h]; exact isLoc_of z5) (by rw [h]; exact j.2.2.1) j.2.2.2.1 j.2.2.2.2 z7 (ms.2 cv X W g gx h) (mr.2 cv X W g gx h)⟩ else none
  | _ => none
end U
set_option Elab.async false
set_option linter.all false
set_option maxRecDepth 100000
set_option maxHeartbeats 4000000
namespace U
open PySem PySem.Spec PyProof.Rows L2
/-! ### x[i], x[j] = a pair -/
def sSwp (i : Nat) (lk : List Nat) (m1 m2 m : Sm) : Ss := fun ρ0 => let ρ := frz ρ0 lk
  match ρ[i]? with
  | some (.ow ds) => (m ρ).fl ρ (fun d => match d with
      | .tuple [d1, d2] => (m1 ρ).fl ρ (fun k => match k with
          | .int k => (match ixN ds.length k with
            | some j => (m2 (ρ.set i (.ow (ds.set j d1)))).fl (ρ.set i (.ow (ds.set j d1))) (fun k2 => match k2 with
                | .int k2 => (match ixN (ds.set j d1).length k2 with
                  | some j2 => .nx ((ρ.set i (.ow (ds.set j d1))).set i (.ow ((ds.set j d1).set j2 d2)))
                  | none => .bad)
                | _ => .bad) (fun _ => .bad)
            | none => .bad)
          | _ => .bad) (fun _ => .bad)
      | _ => .bad) (fun _ => .bad)
  | _ => .bad
section
variable {X : Cx} {cv : Nat → Value} {W : WX} {e : Expr} {m m1 m2 : Sm} {lk : List Nat} {pos p : Pos}
theorem js_swp {i : Nat} {x : Str} {ix1 ix2 : Expr} {p1 p2 tp1 tp2 : Pos} {k : Nat} (hc : X.calm = true) (hN : X.N[i]? = some x) (hv : Vis X.env.scope x) (hd : (x == ("__debug__" : Str)) = false) (hcd : (x == ("__classdict__" : Str)) = false) (he : JE X cv W e m) (hi1 : JE X cv W ix1 m1) (hi2 : JE X cv W ix2 m2) (h1 : plainIx ix1 = true) (h2 : plainIx ix2 = true)
    (hw : swappedStores [.Tuple [.Subscript (.Name x p1) ix1 tp1, .Subscript (.Name x p2) ix2 tp2] k p] e X.env = pure none) :
    JF X cv W (.Assign [.Tuple [.Subscript (.Name x p1) ix1 tp1, .Subscript (.Name x p2) ix2 tp2] k p] e pos) (sSwp i lk m1 m2 m) := fun B =>
  PS.imp (ps_asg he (pg_tup (n := 2) hc (pgs_cons (pg_sub (pe_var hN hv hd hcd) hi1 set_list (item_asg h1)) (pgs_cons (pg_sub (pe_var hN hv hd hcd) hi2 set_list (item_asg h2)) pgs_nil)) rfl rfl) sw_other hw rfl) fun Dn σ H ⟨ρ0, F0, r0, q⟩ => by
    obtain ⟨F, r⟩ := RelB.frz (lk := lk) r0
    unfold sSwp at q
    simp only at q
    cases h : (frz ρ0 lk)[i]? with
    | none => rw [h] at q; exact q.elim
    | some c =>
      rw [h] at q
      cases c with
      | un => exact q.elim
      | fr d => exact q.elim
      | ob k fs => exact q.elim
      | ro k fs => exact q.elim
      | ow ds =>
        obtain ⟨q0, xs0, s0, s1, _, _, _⟩ := own_at r h (Evo.refl r.rel.le)
        simp only at q
        refine rd_st r q (fun d v F1 H1 ev hd q => ?_) fun es p xs F1 H1 ev h1 h2 h3 h4 q => q.elim
        cases hd with
        | tup ht hs =>
          rename_i a ys dz
          cases hs with
          | nil => exact q.elim
          | cons g1 hs =>
            cases hs with
            | nil => exact q.elim
            | cons g2 hs =>
              cases hs with
              | cons g3 hs => exact q.elim
              | nil =>
                rename_i v1 d1 v2 d2
                refine ⟨_, _, rfl, .inl (.inl (ev.le _ _ ht)), rfl, ?_⟩
                refine ⟨_, _, rfl, _, s0, ?_⟩
                refine rd_st (r.step ev) q (fun k w F2 H2 ev2 hk q => ?_) fun es p xs F1 H1 ev h1 h2 h3 h4 q => q.elim
                cases hk <;> try exact q.elim
                rename_i k
                simp only at q
                cases hj : ixN ds.length k with
                | none => rw [hj] at q; exact q.elim
                | some j =>
                  rw [hj] at q
                  obtain ⟨q1, xs1, t0, t1, t2, t3, t4⟩ := own_at r h (ev.trans ev2)
                  rw [s0] at t0; cases t0
                  refine ⟨q0, xs1, k, j, rfl, rfl, t2, by rw [dps_len t4]; exact hj, ?_⟩
                  have r2 := (r.step (ev.trans ev2)).mut (xs := xs1) h s0 (dps_set (dp_mono ev2.ex g1) j t4)
                  have hi : i < (frz ρ0 lk).length := (List.getElem?_eq_some_iff.mp h).1
                  have h' : ((frz ρ0 lk).set i (.ow (ds.set j d1)))[i]? = some (.ow (ds.set j d1)) := by rw [List.getElem?_set_self hi]
                  refine ⟨_, _, rfl, _, s0, ?_⟩
                  refine rd_st r2 q (fun k2 w2 F3 H3 ev3 hk2 q => ?_) fun es p xs F1 H1 ev h1 h2 h3 h4 q => q.elim
                  cases hk2 <;> try exact q.elim
                  rename_i k2
                  simp only at q
                  cases hj2 : ixN (ds.set j d1).length k2 with
                  | none => rw [hj2] at q; exact q.elim
                  | some j2 =>
                    rw [hj2] at q
                    obtain ⟨q2, xs2, t0', t1', t2', t3', t4'⟩ := own_at r2 h' ev3
                    rw [s0] at t0'; cases t0'
                    refine ⟨q0, xs2, k2, j2, rfl, rfl, t2', by rw [dps_len t4']; exact hj2, rfl, ?_⟩
                    exact q σ F3 _ ((r2.step ev3).mut (xs := xs2) h' s0 (dps_set (dp_mono ev3.ex (dp_mono ev2.ex g2)) j2 t4'))
        | _ => exact q.elim
/-! ### x, y, z = a new list, data, a new list -/
def sTri (i j l : Nat) (lk : List Nat) (m1 m2 m3 : Sm) : Ss := fun ρ0 => let ρ := frz ρ0 lk
  (m1 ρ).fl ρ (fun _ => .bad) (fun xs => (m2 ρ).fl ρ (fun d => (m3 ρ).fl ρ (fun _ => .bad) (fun zs => .nx (((ρ.set i (.ow xs)).set j (.fr d)).set l (.ow zs)))) (fun _ => .bad))
theorem js_tri {i j l : Nat} {x y z : Str} {a b c : Expr} {px py pz pt pt2 : Pos} {k k2 : Nat} {m3 : Sm} (hc : X.calm = true) (hN : X.N.Nodup) (hes : Nms X [.Name x px, .Name y py, .Name z pz] [i, j, l]) (hil : i ≠ l) (hij : i ≠ j) (hjl : j ≠ l)
    (ha : JE X cv W a m1) (hb : JE X cv W b m2) (hcc : JE X cv W c m3) (h1 : notStar a = true) (h2 : notStar b = true) (h3 : notStar c = true) (hw : swappedStores [.Tuple [.Name x px, .Name y py, .Name z pz] k pt] (.Tuple [a, b, c] k2 pt2) X.env = pure none) :
    JF X cv W (.Assign [.Tuple [.Name x px, .Name y py, .Name z pz] k pt] (.Tuple [a, b, c] k2 pt2) pos) (sTri i j l lk m1 m2 m3) := fun B =>
  PS.imp (ps_asg (pe_tup (pa_cons ha (pa_cons hb (pa_cons hcc pa_nil (star_cons h3)) (star_cons h2)) (star_cons h1))) (pg_tup hc (hes.pgs hN) (hes.len (env := X.env)).1 (hes.len (env := X.env)).2) sw_other hw rfl) fun Dn σ H ⟨ρ0, F0, r0, q⟩ => by
    obtain ⟨F, r⟩ := RelB.frz (lk := lk) r0
    unfold sTri at q
    simp only at q
    refine rd_st r q (fun d v F1 H1 ev hd q => q.elim) fun xs p1 ys1 F1 H1 ev1 a1 a2 a3 a4 q => ?_
    refine rd_st (r.step ev1) q (fun d v F2 H2 ev2 hd q => ?_) fun ds p xs F2 H2 ev2 h1 h2 h3 h4 q => q.elim
    refine rd_st ((r.step ev1).step ev2) q (fun d v F1 H1 ev hd q => q.elim) fun zs p3 ys3 F3 H3 ev3 b1 b2 b3 b4 q => ?_
    refine ⟨Evl.sz_of (by simp), fun p hp => ⟨p, _, rfl, .inl (.inl upd_same), rfl, ?_⟩⟩
    have r3 := ((r.step ev1).step ev2).step ev3
    have e4 : Evo F3 H3 F3 (upd H3 p (.tup [.ref p1, v, .ref p3])) := (Evo.refl r3.rel.le).own hp
    have r4 := r3.step e4
    have ev14 := (ev2.trans ev3).trans e4
    have f1 : F3 p1 = none := own_not (ev2.trans ev3) a2 a3
    have g1 : (upd H3 p (.tup [.ref p1, v, .ref p3])) p1 = some (.lst ys1) := ev14.hx _ _ a3
    have g3 : (upd H3 p (.tup [.ref p1, v, .ref p3])) p3 = some (.lst ys3) := e4.hx _ _ b3
    have r5 := r4.ow i f1 g1 (none_back r.evo.hx a1) (dps_mono (ev2.trans ev3).ex a4) fun k es e _ => new_apart r a1 (ev1.trans ev14) k es e
    have r6 := r5.fr j (dp_mono ev3.ex hd)
    refine ⟨_, _, rfl, _, _, rfl, _, _, rfl, rfl, q _ F3 _ (r6.ow l b2 g3 (none_back ((r.step ev1).step ev2).evo.hx b1) b4 fun k es' e hk => ?_)⟩
    have lenE := r.rel.len
    rw [set_get] at e ⊢
    split at e
    · cases e; simp
    · rename_i hz
      rw [if_neg (by rw [List.length_set] at hz ⊢; rw [← lenE]; exact hz)]
      rw [set_get] at e ⊢
      split at e
      · rename_i hz2
        rw [if_pos ⟨hz2.1, by rw [← lenE]; exact hz2.2⟩]
        cases e
        intro zz
        have z' : p3 = p1 := by simpa using zz
        subst z'
        have : H2 p3 = some (.lst ys1) := ev2.hx _ _ a3
        rw [this] at b1; cases b1
      · rename_i hz2
        rw [if_neg (by rw [← lenE]; exact hz2)]
        exact new_apart ((r.step ev1).step ev2) b1 (ev3.trans e4) k es' e
end
/-! ### text.index(sign), text.join(texts) -/
def sixD (a : Str) : D → Res
  | .str b => (match Builtin.Str.occurrences a b 0 a.length 1 with
    | i :: _ => .ok (.int (i : Nat))
    | [] => .bad)
  | _ => .bad
def eSix (mo m : Sm) : Sm := fun ρ => (mo ρ).bind fun x => match x with
  | .str a => (m ρ).bind (sixD a)
  | _ => .bad
def strsOf : List D → Option (List Str)
  | [] => some []
  | .str x :: r => (strsOf r).map (x :: ·)
  | _ => none
theorem dps_strs {F : Hp} : ∀ {ds : List D} {xs : List V} {ys : List Str}, strsOf ds = some ys → DrAll F xs ds → xs = ys.map V.str
  | [], xs, ys, h, hd => by
    cases hd
    cases h; rfl
  | d :: ds, xs, ys, h, hd => by
    cases hd with
    | cons h1 h2 =>
      cases d <;> try (cases h)
      rename_i x
      unfold strsOf at h
      cases hs : strsOf ds with
      | none => rw [hs] at h; cases h
      | some zs =>
        rw [hs] at h
        cases h
        cases h1
        rw [dps_strs hs h2]; rfl
def joinD (a : Str) : D → Res
  | .list ds => (match strsOf ds with
    | some ys => if (ys.map (·.length)).sum + ys.length * a.length ≤ 16777216 then .ok (.str (Txt.join a ys)) else .bad
    | none => .bad)
  | _ => .bad
def eJn (mo m : Sm) : Sm := fun ρ => (mo ρ).bind fun x => match x with
  | .str a => (m ρ).bind (joinD a)
  | _ => .bad
section
variable {X : Cx} {cv : Nat → Value} {W : WX} {o e : Expr} {mo m : Sm} {apos pos : Pos}
theorem j_six (ho : JW X cv W o mo) (he : JW X cv W e m) (hs : notStar e = true) (hb : attributeBase o "index" X.env (eval o X.env) = eval o X.env) (hl : (apos.endLine == pos.line) = true) : JE X cv W (.Call (.Attribute o "index" apos) [e] [] pos) (eSix mo m) :=
  PE.imp (pe_m1 PySem.F.slot_str_index PySem.F.type_str_index mt_sindex ho he (star_cons hs) hb hl) fun σ H Q ⟨ρ, F, r, q⟩ => by
    refine ⟨ρ, F, r, ?_⟩
    unfold eSix at q
    have go : ∀ d, GotE cv W F H σ Q (match d with | .str a => (m ρ).bind (sixD a) | _ => .bad) → QW F H d fun x H1 => (∃ a, x = .str a) ∧ rdW cv W m σ H1 fun y H2 => ∃ a b i rest, x = .str a ∧ [y] = [.str b] ∧ Builtin.Str.occurrences a b 0 a.length 1 = i :: rest ∧ Q (.int (i : Nat)) H2 := fun d q v F1 H1 ev wk => by
      cases d <;> try exact q.elim
      rename_i a
      cases wk.str
      refine ⟨⟨_, rfl⟩, ρ, F1, r.evo ev, ?_⟩
      have q := GotE.evo ev q
      simp only at q
      have g2 : ∀ d2, GotE cv W F1 H1 σ Q (sixD a d2) → QW F1 H1 d2 fun y H2 => ∃ a' b i rest, V.str a = .str a' ∧ [y] = [.str b] ∧ Builtin.Str.occurrences a' b 0 a'.length 1 = i :: rest ∧ Q (.int (i : Nat)) H2 := fun d2 q w F2 H2 ev2 wk2 => by
        cases d2 <;> try exact q.elim
        rename_i b
        cases wk2.str
        unfold sixD at q
        simp only at q
        cases ho : Builtin.Str.occurrences a b 0 a.length 1 with
        | nil => rw [ho] at q; exact q.elim
        | cons i rest =>
          rw [ho] at q
          exact ⟨a, b, i, rest, rfl, rfl, ho, q _ F2 H2 ev2 (.int _)⟩
      cases hm : m ρ with
      | ok y => rw [hm] at q; exact g2 y q
      | new y => rw [hm] at q; exact g2 _ q
      | exc c => rw [hm] at q; exact q
      | bad => rw [hm] at q; exact q
    cases h : mo ρ with
    | ok d => rw [h] at q; exact go d q
    | new d => rw [h] at q; exact go _ q
    | exc c => rw [h] at q; exact q
    | bad => rw [h] at q; exact q
theorem j_jn (ho : JW X cv W o mo) (he : JW X cv W e m) (hs : notStar e = true) (hb : attributeBase o "join" X.env (eval o X.env) = eval o X.env) (hl : (apos.endLine == pos.line) = true) : JE X cv W (.Call (.Attribute o "join" apos) [e] [] pos) (eJn mo m) :=
  PE.imp (pe_join ho he (star_cons hs) hb hl) fun σ H Q ⟨ρ, F, r, q⟩ => by
    refine ⟨ρ, F, r, ?_⟩
    unfold eJn at q
    have go : ∀ d, GotE cv W F H σ Q (match d with | .str a => (m ρ).bind (joinD a) | _ => .bad) → QW F H d fun x H1 => (∃ a, x = .str a) ∧ rdW cv W m σ H1 fun y H2 => ∃ a p, ∃ ys : List Str, x = .str a ∧ [y] = [.ref p] ∧ (SqL X.K H2 p (ys.map V.str) ∨ SqT X.K H2 p (ys.map V.str)) ∧ (ys.map (·.length)).sum + ys.length * a.length ≤ 16777216 ∧ Q (.str (Txt.join a ys)) H2 := fun d q v F1 H1 ev wk => by
      cases d <;> try exact q.elim
      rename_i a
      cases wk.str
      refine ⟨⟨_, rfl⟩, ρ, F1, r.evo ev, ?_⟩
      have q := GotE.evo ev q
      simp only at q
      have g2 : ∀ d2, GotE cv W F1 H1 σ Q (joinD a d2) → QW F1 H1 d2 fun y H2 => ∃ a' p, ∃ ys : List Str, V.str a = .str a' ∧ [y] = [.ref p] ∧ (SqL X.K H2 p (ys.map V.str) ∨ SqT X.K H2 p (ys.map V.str)) ∧ (ys.map (·.length)).sum + ys.length * a'.length ≤ 16777216 ∧ Q (.str (Txt.join a' ys)) H2 := fun d2 q w F2 H2 ev2 wk2 => by
        cases d2 <;> try exact q.elim
        rename_i ds
        unfold joinD at q
        simp only at q
        cases hy : strsOf ds with
        | none => rw [hy] at q; exact q.elim
        | some ys =>
          rw [hy] at q
          simp only at q
          split at q
          case isFalse => exact q.elim
          rename_i hz
          obtain ⟨p, xs, rfl, hp, hx⟩ := wk2.list ev2.le
          have ex := dps_strs hy hx
          subst ex
          exact ⟨a, p, ys, rfl, rfl, .inl (.inl hp), hz, q _ F2 H2 ev2 (.str _)⟩
      cases hm : m ρ with
      | ok y => rw [hm] at q; exact g2 y q
      | new y => rw [hm] at q; exact g2 _ q
      | exc c => rw [hm] at q; exact q
      | bad => rw [hm] at q; exact q
    cases h : mo ρ with
    | ok d => rw [h] at q; exact go d q
    | new d => rw [h] at q; exact go _ q
    | exc c => rw [h] at q; exact q
    | bad => rw [h] at q; exact q
end
/-! ### a, b = e, e a tuple or a list -/
def sqD : D → Option (List D)
  | .tuple ds => some ds
  | .list ds => some ds
  | _ => none
def sTuL (is : List Nat) (lk : List Nat) (m : Sm) : Ss := fun ρ0 => let ρ := frz ρ0 lk
  (m ρ).fl ρ (fun d => match sqD d with
    | some ds => if ds.length = is.length then .nx (setAll is ds ρ) else .bad
    | none => .bad) (fun _ => .bad)
section
variable {X : Cx} {cv : Nat → Value} {W : WX} {e : Expr} {m : Sm} {lk : List Nat} {pos p : Pos}
theorem pg_or {t1 t2 : TG} {tg : Expr} (h1 : PG X tg t1) (h2 : PG X tg t2) : PG X tg fun v σ H Q => t1 v σ H Q ∨ t2 v σ H Q := by
  refine ⟨fun pins s σ H v u Q I r hw => ?_⟩
  rcases hw with h | h
  · exact h1.run pins s σ H v u Q I r h
  · exact h2.run pins s σ H v u Q I r h
theorem js_tuL {is : List Nat} {es : List Expr} {k : Nat} (hc : X.calm = true) (hN : X.N.Nodup) (hes : Nms X es is) (he : JE X cv W e m) (hs : swapsWithSole [.Tuple es k p] e pos.line X.env = pure false) (hw : swappedStores [.Tuple es k p] e X.env = pure none) : JF X cv W (.Assign [.Tuple es k p] e pos) (sTuL is lk m) := fun B =>
  PS.imp (ps_asg he (pg_or (pg_tup hc (hes.pgs hN) (hes.len (env := X.env)).1 (hes.len (env := X.env)).2) (pg_unl hc (hes.pgs hN) (hes.len (env := X.env)).1 (hes.len (env := X.env)).2)) hs hw rfl) fun Dn σ H ⟨ρ0, F0, r0, q⟩ => by
    obtain ⟨F, r⟩ := RelB.frz (lk := lk) r0
    refine rd_st r q (fun d v F1 H1 ev hd q => ?_) fun ds p xs F1 H1 ev h1 h2 h3 h4 q => q.elim
    have go : ∀ (is : List Nat) (ds : List D) (vs : List V) (ρ : Rho) (σ : L2.St), RelB cv B ρ σ F1 H1 → DrAll F1 vs ds → ds.length = is.length → (∀ σ', RelB cv B (setAll is ds ρ) σ' F1 H1 → Dn.nx σ' H1) → gNames is vs σ H1 Dn.nx := by
      intro is
      induction is with
      | nil =>
        intro ds vs ρ σ r hd hl k
        cases hd with
        | nil => exact ⟨rfl, k σ r⟩
        | cons _ _ => simp at hl
      | cons i is ih =>
        intro ds vs ρ σ r hd hl k
        cases hd with
        | nil => simp at hl
        | cons h hs => exact ⟨_, _, rfl, ih _ _ _ _ (r.fr i h) hs (by simpa using hl) k⟩
    cases hd with
    | tup h hs =>
      unfold sqD at q
      simp only at q
      split at q
      · rename_i hl
        exact .inl ⟨_, _, rfl, .inl (.inl (ev.le _ _ h)), by rw [dps_len hs, hl], go _ _ _ _ _ (r.step ev) hs hl fun σ' r' => q σ' F1 H1 r'⟩
      · exact q.elim
    | lst h hs =>
      unfold sqD at q
      simp only at q
      split at q
      · rename_i hl
        exact .inr ⟨_, _, rfl, .inl (Evl.ex_rd ev.le h), by rw [dps_len hs, hl], go _ _ _ _ _ (r.step ev) hs hl fun σ' r' => q σ' F1 H1 r'⟩
      · exact q.elim
    | _ => exact q.elim
end
variable {S : S0}
def meOf (r : TR S) (sc : Scope) : (e : Expr) → Option (OkE S sc e)
  | .Call (.Attribute (.Constant (.str t) j p) name apos) [a] [] pos => (wOf r sc (.Constant (.str t) j p)).bind fun u => (wOf r sc a).bind fun w =>
      if h : name = "index" ∧ notStar a = true ∧ (apos.endLine == pos.line) = true then some ⟨eSix u.m w.m, u.lk ++ w.lk, fun cv X W g e => by
        obtain ⟨h1, h2, h3⟩ := h
        subst h1
        exact j_six (u.ok cv X W g e) (w.ok cv X W g e) h2 rfl h3⟩
      else if h : name = "join" ∧ notStar a = true ∧ (apos.endLine == pos.line) = true then some ⟨eJn u.m w.m, u.lk ++ w.lk, fun cv X W g e => by
        obtain ⟨h1, h2, h3⟩ := h
        subst h1
        exact j_jn (u.ok cv X W g e) (w.ok cv X W g e) h2 rfl h3⟩
      else none
  | _ => none
def stepEW (r : TR S) (sc : Scope) (e : Expr) : Option (OkE S sc e) := match stepE r sc e with
  | some x => some x
  | none => match moreD r sc e with
    | some x => some x
    | none => match srtOf r sc e with
      | some x => some x
      | none => match meOf r sc e with
        | some x => some x
        | none => some ⟨eBad, [], fun cv X W g h => j_bad⟩
def swpOf (r : TR S) (sc : Scope) : (st : Stmt) → Option (OkS S sc st)
  | .Assign [.Tuple [.Subscript (.Name x p1) ix1 tp1, .Subscript (.Name y p2) ix2 tp2] k p] (.Tuple vs kk pp) pos => (slotOf S sc x).bind fun i => (r.e sc (.Tuple vs kk pp)).bind fun a => (r.e sc ix1).bind fun b => (r.e sc ix2).bind fun c =>
      if hp : x = y ∧ plainIx ix1 = true ∧ plainIx ix2 = true ∧ swMode sc [.Subscript (.Name x p1) ix1 tp1, .Subscript (.Name y p2) ix2 tp2] vs = some none then some ⟨sSwp i.1 (a.lk ++ b.lk ++ c.lk) b.m c.m a.m, fun cv X W g gx h => by
        obtain ⟨z1, z2, z3, z4⟩ := hp
        subst z1
        exact js_swp g.calm (by rw [g.nN]; exact i.2.1) (by rw [h]; exact i.2.2.1) i.2.2.2.1 i.2.2.2.2 (a.ok cv X W g h) (b.ok cv X W g h) (c.ok cv X W g h) z2 z3 (swMode_ok (by rw [h]; exact z4))⟩ else none
  | _ => none
def isNil : Expr → Bool
  | .List [] _ => true
  | _ => false
def isLC : Expr → Bool
  | .ListComp .. => true
  | _ => false
def triOf (r : TR S) (sc : Scope) : (st : Stmt) → Option (OkS S sc st)
  | .Assign [.Tuple [.Name x px, .Name y py, .Name z pz] k p] (.Tuple [a, b, c] kk pp) pos => (storeOf S sc tbF x).bind fun i => (storeOf S sc tbF y).bind fun j => (storeOf S sc tbF z).bind fun l => (r.e sc a).bind fun u => (r.e sc b).bind fun v => (r.e sc c).bind fun w =>
      if hz : swMode sc [.Name x px, .Name y py, .Name z pz] [a, b, c] = some none ∧ (i.1 ≠ j.1 ∧ i.1 ≠ l.1 ∧ j.1 ≠ l.1) ∧ notStar a = true ∧ notStar b = true ∧ notStar c = true ∧ isLC a = true ∧ isNil c = true then some ⟨sTri i.1 j.1 l.1 (u.lk ++ v.lk ++ w.lk) u.m v.m w.m, fun cv X W g gx h => by
        obtain ⟨z1, ⟨z2, z3, z4⟩, z5, z6, z7, _⟩ := hz
        have s1 := i.2 X g.nN h fun y _ => gx.fnT y
        have s2 := j.2 X g.nN h fun y _ => gx.fnT y
        have s3 := l.2 X g.nN h fun y _ => gx.fnT y
        exact js_tri g.calm g.nd (.cons s1.1 s1.2.1 s1.2.2 (.cons s2.1 s2.2.1 s2.2.2 (.cons s3.1 s3.2.1 s3.2.2 .nil))) z3 z2 z4 (u.ok cv X W g h) (v.ok cv X W g h) (w.ok cv X W g h) z5 z6 z7 (swMode_ok (by rw [h]; exact z1))⟩ else none
  | _ => none
def tuLOf (r : TR S) (sc : Scope) : (st : Stmt) → Option (OkS S sc st)
  | .Assign [.Tuple es k p] (.Name x px) pos => if hx : x = "both" then (namesOf S sc tbF es).bind fun is => (r.e sc (.Name x px)).map fun a => ⟨sTuL is.1 a.lk a.m, fun cv X W g gx h =>
      js_tuL g.calm g.nd (is.2 X g.nN h fun y _ => gx.fnT y) (a.ok cv X W g h) sw_other (stores_no rfl)⟩ else none
  | _ => none
def stepW (r : TR S) (t : TS0 S) (sc : Scope) (st : Stmt) : Option (OkS S sc st) := match triOf r sc st with
  | some x => some x
  | none => match tuLOf r sc st with
  | some x => some x
  | none => match stepS r t sc st with
  | some x => some x
  | none => match swpOf r sc st with
    | some x => some x
    | none => match tryOf t sc st with
      | some x => some x
      | none => some ⟨sBad, fun cv X W g gx h => js_bad⟩
end U
set_option Elab.async false
set_option linter.all false
set_option maxRecDepth 100000
set_option maxHeartbeats 800000
/-! list(zip(xs, ys)), xs and ys tuples: the pairs given out stay alive in the list -/
namespace RZ
open PySem PySem.Spec PyProof.Rows L2
section
variable {prog : Program} {w : World} {A : Around} {E : Value → Shared → Prop} {s : Shared}
theorem zipTh_item {z TI TO T i1 i2 l1 l2 : Addr} {f : Bool} {oT : Obj} {k1 k2 : Nat} {xs ys : Array Value} {x y : Value} {Q : Value → Shared → Prop} (D : ZipApart z TI TO i1 i2 l1 l2)
    (hz : IsZipHeld s.heap z TI TO T f) (hT : s.heap.get? T = some oT) (hTI : IsPair s.heap TI (.ref i1) (.ref i2))
    (h1 : s.heap.IsTupleIter i1 l1 k1) (h2 : s.heap.IsTupleIter i2 l2 k2) (hl1 : s.heap.IsTuple l1 xs) (hl2 : s.heap.IsTuple l2 ys) (hx : xs[k1]? = some x) (hy : ys[k2]? = some y)
    (hQ : ∀ h', IsZipHeld h' z TI TO T true → h'.IsTupleIter i1 l1 (k1 + 1) → h'.IsTupleIter i2 l2 (k2 + 1) → IsPair h' s.heap.objs.size x y → h'.objs.size = s.heap.objs.size + 1 →
      (∀ c o, c ≠ z → c ≠ i1 → c ≠ i2 → s.heap.get? c = some o → h'.get? c = some o) → Q (.ref s.heap.objs.size) { s with heap := h' }) :
    wpAny (model prog w) A (Builtin.«zip.__next__» ⟨[.ref z], []⟩) (fun fin s' => ∃ v, fin = .done (.ret v) ∧ Q v s') E s := by
  show wpAny _ _ (field (.ref z) 2 >>= _) _ _ _
  refine wpAny_bind (wpAny_field hz rfl (x := .bool false) rfl ?_)
  show wpAny _ _ (field (.ref z) 3 >>= _) _ _ _
  refine wpAny_bind (wpAny_field hz rfl (x := .ref TI) rfl ?_)
  refine wpAny_bind (wpAny_seqItems hTI rfl ?_)
  show wpAny _ _ (Builtin.SmallTypes.ownedTupleIsFree (.ref z) >>= _) _ _ _
  refine wpAny_bind (wpAny_tupleHeld_zip hz hT fun h₁ hz₁ hs₁ => ?_)
  simp only [Bool.false_eq_true, if_false]
  refine wpAny_bind ?_
  rw [← Array.forIn_toList]
  simp only [List.forIn_cons, List.forIn_nil]
  refine wpAny_bind (wpAny_bind (wpAny_holding ?_))
  show wpAny _ _ (Builtin.SmallTypes.nextOf (.ref i1) >>= _) _ _ _
  refine wpAny_bind (nextOf_tuple_item (s := { s with heap := h₁ }) (h1.extBut hs₁.extBut D.i1z) (hl1.extBut hs₁.extBut D.l1z) hx fun h₂ h1₂ hs₂ => wpAny_pure ?_)
  refine wpAny_pure ?_
  refine wpAny_bind (wpAny_bind (wpAny_holding ?_))
  show wpAny _ _ (Builtin.SmallTypes.nextOf (.ref i2) >>= _) _ _ _
  refine wpAny_bind (nextOf_tuple_item (s := { s with heap := h₂ }) ((h2.extBut hs₁.extBut D.i2z).extBut hs₂.extBut D.i12.symm) ((hl2.extBut hs₁.extBut D.l2z).extBut hs₂.extBut D.l2i1) hy fun h₃ h2₃ hs₃ => wpAny_pure ?_)
  refine wpAny_pure (wpAny_pure ?_)
  show wpAny _ _ (newTuple [x, y] >>= _) _ _ _
  refine wpAny_bind (wpAny_newTuple ?_)
  have hsz : h₃.objs.size = s.heap.objs.size := by rw [hs₃.1, hs₂.1, hs₁.1]
  have hz₃ : IsZipHeld h₃ z TI TO T true := hs₃.extBut _ _ D.i2z.symm (hs₂.extBut _ _ D.i1z.symm hz₁)
  have hk : ∀ c o, c ≠ z → c ≠ i1 → c ≠ i2 → s.heap.get? c = some o → h₃.get? c = some o := fun c o c1 c2 c3 e => hs₃.extBut _ _ c3 (hs₂.extBut _ _ c2 (hs₁.extBut _ _ c1 e))
  have h1₃ : h₃.IsTupleIter i1 l1 (k1 + 1) := h1₂.extBut hs₃.extBut D.i12
  refine wpAny_pure ⟨_, rfl, ?_⟩
  show Q (.ref h₃.objs.size) _
  have hp : IsPair (h₃.push { cls := .type "tuple", data := .seq #[x, y] }) h₃.objs.size x y := Heap.get?_push_size _ rfl
  have hz4 : (h₃.push { cls := .type "tuple", data := .seq #[x, y] }).objs.size = h₃.objs.size + 1 := Heap.size_push ..
  rw [hsz] at hp hz4 ⊢
  exact hQ _ (Heap.get?_push_of_some _ hz₃) (h1₃.at fun o e => Heap.get?_push_of_some _ e) (h2₃.at fun o e => Heap.get?_push_of_some _ e) hp hz4 fun c o c1 c2 c3 e => Heap.get?_push_of_some _ (hk c o c1 c2 c3 e)
theorem zipTh_end {z TI TO T i1 i2 l1 l2 : Addr} {f : Bool} {oT : Obj} {k1 k2 : Nat} {xs ys : Array Value} {Q : Fin → Shared → Prop} (hh : A.handled = none) (D : ZipApart z TI TO i1 i2 l1 l2)
    (hz : IsZipHeld s.heap z TI TO T f) (hT : s.heap.get? T = some oT) (hTI : IsPair s.heap TI (.ref i1) (.ref i2))
    (h1 : s.heap.IsTupleIter i1 l1 k1) (h2 : s.heap.IsTupleIter i2 l2 k2) (hl1 : s.heap.IsTuple l1 xs) (hl2 : s.heap.IsTuple l2 ys) (hend : xs[k1]? = none ∨ ys[k2]? = none)
    (hE : ∀ h' e, (∀ c o, c ≠ z → c ≠ i1 → c ≠ i2 → s.heap.get? c = some o → h'.get? c = some o) → (∃ o, h'.get? e = some o ∧ o.cls = .type "StopIteration") → E (.ref e) { s with heap := h' }) :
    wpAny (model prog w) A (Builtin.«zip.__next__» ⟨[.ref z], []⟩) Q E s := by
  show wpAny _ _ (field (.ref z) 2 >>= _) _ _ _
  refine wpAny_bind (wpAny_field hz rfl (x := .bool false) rfl ?_)
  show wpAny _ _ (field (.ref z) 3 >>= _) _ _ _
  refine wpAny_bind (wpAny_field hz rfl (x := .ref TI) rfl ?_)
  refine wpAny_bind (wpAny_seqItems hTI rfl ?_)
  show wpAny _ _ (Builtin.SmallTypes.ownedTupleIsFree (.ref z) >>= _) _ _ _
  refine wpAny_bind (wpAny_tupleHeld_zip hz hT fun h₁ hz₁ hs₁ => ?_)
  simp only [Bool.false_eq_true, if_false]
  refine wpAny_bind ?_
  rw [← Array.forIn_toList]
  simp only [List.forIn_cons, List.forIn_nil]
  refine wpAny_bind (wpAny_bind (wpAny_holding ?_))
  show wpAny _ _ (Builtin.SmallTypes.nextOf (.ref i1) >>= _) _ _ _
  cases hx : xs[k1]? with
  | none =>
    refine wpAny_bind (nextOf_tuple_end (s := { s with heap := h₁ }) hh (h1.extBut hs₁.extBut D.i1z) (hl1.extBut hs₁.extBut D.l1z) hx fun h₂ e hs₂ he => ?_)
    exact hE h₂ e (fun c o c1 c2 _ x => hs₂ _ _ c2 (hs₁.extBut _ _ c1 x)) he
  | some x =>
    have hy : ys[k2]? = none := by rcases hend with h | h; rw [hx] at h; cases h; exact h
    refine wpAny_bind (nextOf_tuple_item (s := { s with heap := h₁ }) (h1.extBut hs₁.extBut D.i1z) (hl1.extBut hs₁.extBut D.l1z) hx fun h₂ h1₂ hs₂ => wpAny_pure ?_)
    refine wpAny_pure ?_
    refine wpAny_bind (wpAny_bind (wpAny_holding ?_))
    show wpAny _ _ (Builtin.SmallTypes.nextOf (.ref i2) >>= _) _ _ _
    refine wpAny_bind (nextOf_tuple_end (s := { s with heap := h₂ }) hh ((h2.extBut hs₁.extBut D.i2z).extBut hs₂.extBut D.i12.symm) ((hl2.extBut hs₁.extBut D.l2z).extBut hs₂.extBut D.l2i1) hy fun h₃ e hs₃ he => ?_)
    exact hE h₃ e (fun c o c1 c2 c3 x => hs₃ _ _ c3 (hs₂.extBut _ _ c2 (hs₁.extBut _ _ c1 x))) he
/-- before the first pair, or with a pair out -/
def ZHd (h : Heap) (S z TI TO i1 i2 : Addr) : Prop := (IsZip h z TI TO .none ∧ ∃ a b, IsPair h TO a b) ∨ ∃ T f oT, IsZipHeld h z TI TO T f ∧ h.get? T = some oT ∧ T ≠ S ∧ T ≠ z ∧ T ≠ TO ∧ T ≠ i1 ∧ T ≠ i2
theorem ZHd.keep {h h' : Heap} {S z TI TO i1 i2 : Addr} (x : ZHd h S z TI TO i1 i2) (hk : ∀ b o, b ≠ S → h.get? b = some o → h'.get? b = some o) (hzS : z ≠ S) (hTS : TO ≠ S) : ZHd h' S z TI TO i1 i2 := by
  rcases x with ⟨a, b, c, d⟩ | ⟨T, f, oT, a, b, c, d⟩
  · exact .inl ⟨hk _ _ hzS a, b, c, hk _ _ hTS d⟩
  · exact .inr ⟨T, f, oT, hk _ _ hzS a, hk _ _ c b, c, d⟩
theorem zipT_some {S z TI TO i1 i2 l1 l2 : Addr} {k : Nat} {xs ys : Array Value} {x y : Value} {Q : Option Value → Shared → Prop} (D : ZipApart z TI TO i1 i2 l1 l2)
    (hz : ZHd s.heap S z TI TO i1 i2) (hS : S < s.heap.objs.size) (hTI : IsPair s.heap TI (.ref i1) (.ref i2)) (hTz : TI ≠ z) (hTT : TI ≠ TO) (hT1 : TI ≠ i1) (hT2 : TI ≠ i2)
    (h1 : s.heap.IsTupleIter i1 l1 k) (h2 : s.heap.IsTupleIter i2 l2 k) (hl1 : s.heap.IsTuple l1 xs) (hl2 : s.heap.IsTuple l2 ys) (hx : xs[k]? = some x) (hy : ys[k]? = some y)
    (hQ : ∀ h', ZHd h' S z TI TO i1 i2 → h'.IsTupleIter i1 l1 (k + 1) → h'.IsTupleIter i2 l2 (k + 1) → IsPair h' s.heap.objs.size x y → h'.objs.size = s.heap.objs.size + 1 →
      (∀ c o, c ≠ z → c ≠ TO → c ≠ i1 → c ≠ i2 → s.heap.get? c = some o → h'.get? c = some o) → Q (some (.ref s.heap.objs.size)) { s with heap := h' }) :
    wpAny (model prog w) A (pyNext (.ref z)) Q E s := by
  rcases hz with ⟨hz, a, b, hTO⟩ | ⟨T, f, oT, hz, hT, t1, t2, t3, t4, t5⟩
  · have zl := Heap.lt_size hz
    have tl := Heap.lt_size hTO
    have il1 : i1 < s.heap.objs.size := by obtain ⟨_, e, _⟩ := h1; exact Heap.lt_size e
    have il2 : i2 < s.heap.objs.size := by obtain ⟨_, e, _⟩ := h2; exact Heap.lt_size e
    exact pyNext_zipT_item D hz hTI hTO h1 h2 hl1 hl2 hx hy fun h' a1 a2 a3 a4 a5 a6 a7 => hQ h' (.inr ⟨_, false, _, a1, a5, Nat.ne_of_gt hS, Nat.ne_of_gt zl, Nat.ne_of_gt tl, Nat.ne_of_gt il1, Nat.ne_of_gt il2⟩) a3 a4 a5 a6 a7
  · have hTy : s.TypeIs (.ref z) "zip" := ⟨_, hz, rfl⟩
    unfold pyNext
    exact wpAny_bind (wpAny_attempt (wpAny_callSpecial?_slot (name := Str.ofString "__next__") hTy PySem.F.slot_zip_next
      (wpAny_call_entry PySem.F.slot_zip_next hTy PySem.F.entry_zip_next
        (zipTh_item D hz hT hTI h1 h2 hl1 hl2 hx hy fun h' a1 a3 a4 a5 a6 a7 => wpAny_pure (hQ h' (.inr ⟨T, true, oT, a1, a7 T _ t2 t4 t5 hT, t1, t2, t3, t4, t5⟩) a3 a4 a5 a6 fun c o c1 _ c3 c4 e => a7 c o c1 c3 c4 e)) (PySem.F.args_zip_next_1 _))))
theorem zipT_none {S z TI TO i1 i2 l1 l2 : Addr} {k : Nat} {xs ys : Array Value} {Q : Option Value → Shared → Prop} (hh : A.handled = none) (D : ZipApart z TI TO i1 i2 l1 l2)
    (hz : ZHd s.heap S z TI TO i1 i2) (hTI : IsPair s.heap TI (.ref i1) (.ref i2))
    (h1 : s.heap.IsTupleIter i1 l1 k) (h2 : s.heap.IsTupleIter i2 l2 k) (hl1 : s.heap.IsTuple l1 xs) (hl2 : s.heap.IsTuple l2 ys) (hend : xs[k]? = none ∨ ys[k]? = none)
    (hQ : ∀ h', (∀ c o, c ≠ z → c ≠ TO → c ≠ i1 → c ≠ i2 → s.heap.get? c = some o → h'.get? c = some o) → Q none { s with heap := h' }) : wpAny (model prog w) A (pyNext (.ref z)) Q E s := by
  rcases hz with ⟨hz, a, b, hTO⟩ | ⟨T, f, oT, hz, hT, t1, t2, t3, t4, t5⟩
  · exact pyNext_zipT_end hh D hz hTI hTO h1 h2 hl1 hl2 hend hQ
  · have hTy : s.TypeIs (.ref z) "zip" := ⟨_, hz, rfl⟩
    unfold pyNext
    refine wpAny_bind (wpAny_attempt (wpAny_callSpecial?_slot (name := Str.ofString "__next__") hTy PySem.F.slot_zip_next
      (wpAny_call_entry PySem.F.slot_zip_next hTy PySem.F.entry_zip_next (zipTh_end hh D hz hT hTI h1 h2 hl1 hl2 hend fun h' e hk he => ?_) (PySem.F.args_zip_next_1 _))))
    obtain ⟨o, ho, hc⟩ := he
    refine wpAny_bind (wpAny_isInstance (T := "StopIteration") (b := true) ⟨o, ho, hc⟩ isSubtype_stop ?_)
    exact wpAny_pure (hQ _ fun c o c1 _ c3 c4 e => hk c o c1 c3 c4 e)
end

structure ZG (xs ys : Array Value) (lo : Addr) (h : Heap) (as : List Addr) : Prop where
  rise : as.Pairwise (· < ·)
  above : ∀ a ∈ as, lo < a
  pairs : ∀ (j : Nat) (a : Addr), as[j]? = some a → ∃ x y, xs[j]? = some x ∧ ys[j]? = some y ∧ IsPair h a x y
theorem ZG.there {xs ys : Array Value} {lo : Addr} {h : Heap} {as : List Addr} (g : ZG xs ys lo h as) {a : Addr} (ha : a ∈ as) : a < h.objs.size := by
  obtain ⟨j, hj⟩ := List.mem_iff_getElem?.mp ha
  obtain ⟨_, _, _, _, e⟩ := g.pairs j a hj
  exact Heap.lt_size e
theorem tupAt {h h' : Heap} {l : Addr} {xs : Array Value} (x : h.IsTuple l xs) (k : ∀ o, h.get? l = some o → h'.get? l = some o) : h'.IsTuple l xs := by
  obtain ⟨o, ho, r⟩ := x
  exact ⟨o, k o ho, r⟩
structure ZLow (S z TI TO i1 i2 l1 l2 : Addr) : Prop where
  z : z < S
  TI : TI < S
  TO : TO < S
  i1 : i1 < S
  i2 : i2 < S
  l1 : l1 < S
  l2 : l2 < S
section
variable {prog : Program} {w : World} {A : Around} {s : Shared} {R : Result → Shared → Prop} {xs ys : Array Value} {S z TI TO i1 i2 l1 l2 : Addr}
theorem zip_loop (hh : A.handled = none) (D : ZipApart z TI TO i1 i2 l1 l2) (B : ZLow S z TI TO i1 i2 l1 l2) {N : Nat} (hN : min xs.size ys.size = N) (hn : N ≤ sizeLine) (res : Value) {h₁ : Heap}
    (hR : ∀ h' tk acc c as, (∀ b o, b ≠ S → b ≠ z → b ≠ TO → b ≠ i1 → b ≠ i2 → h₁.get? b = some o → h'.get? b = some o) → h'.get? S = some { cls := .type "list", dict := none, data := .seq acc c, slots := #[] } → as.length = N → ZG xs ys S h' as →
      acc.toList = as.map Value.ref → R (.ok (.ret res)) { s with heap := h', toks := tk }) :
    ∀ (k i : Nat) (h : Heap) (tk c : Nat) (acc : Array Value) (as : List Addr), N - i = k → i ≤ N → ZHd h S z TI TO i1 i2 → IsPair h TI (.ref i1) (.ref i2) → h.IsTupleIter i1 l1 i → h.IsTupleIter i2 l2 i → h.IsTuple l1 xs → h.IsTuple l2 ys →
      (∀ b o, b ≠ S → b ≠ z → b ≠ TO → b ≠ i1 → b ≠ i2 → h₁.get? b = some o → h.get? b = some o) →
      h.get? S = some { cls := .type "list", dict := none, data := .seq acc c, slots := #[] } → acc.toList = as.map Value.ref → as.length = i → ZG xs ys S h as →
      codeAny (model prog w) A (.builtin "list.extend.loop" ⟨[.ref S, .ref z, res], []⟩) R { s with heap := h, toks := tk } := by
  have Sz : S ≠ z := Nat.ne_of_gt B.z
  have ST : S ≠ TO := Nat.ne_of_gt B.TO
  have S1 : S ≠ i1 := Nat.ne_of_gt B.i1
  have S2 : S ≠ i2 := Nat.ne_of_gt B.i2
  intro k
  induction k with
  | zero =>
    intro i h tk c acc as hk hi hst hTI h1 h2 hl1 hl2 hkeep hS hacc hal hG
    refine codeAny_builtin PySem.F.entry_extend_loop ?_
    rw [Around.under_plainId PySem.F.plain_extend_loop _]
    show wpAny _ A.in1 (pyNext (.ref z) >>= _) _ _ _
    refine wpAny_bind (zipT_none (s := { s with heap := h, toks := tk }) (A := A.in1) (S := S) (k := i) hh D hst hTI h1 h2 hl1 hl2 ?_ fun h' he => ?_)
    · rcases Nat.lt_or_ge i xs.size with q | q
      · exact .inr (Array.getElem?_eq_none (by omega))
      · exact .inl (Array.getElem?_eq_none q)
    · refine wpAny_pure (hR h' tk acc c as (fun b o b0 b1 b2 b3 b4 e => he b o b1 b2 b3 b4 (hkeep b o b0 b1 b2 b3 b4 e)) (he S _ Sz ST S1 S2 hS) (by omega) ⟨hG.rise, hG.above, fun j a hj => ?_⟩ hacc)
      obtain ⟨x, y, e1, e2, e3⟩ := hG.pairs j a hj
      have la := hG.above a (List.mem_of_getElem? hj)
      exact ⟨x, y, e1, e2, he a _ (Nat.ne_of_gt (Nat.lt_trans B.z la)) (Nat.ne_of_gt (Nat.lt_trans B.TO la)) (Nat.ne_of_gt (Nat.lt_trans B.i1 la)) (Nat.ne_of_gt (Nat.lt_trans B.i2 la)) e3⟩
  | succ k ih =>
    intro i h tk c acc as hk hi hst hTI h1 h2 hl1 hl2 hkeep hS hacc hal hG
    have hlt : i < N := by omega
    obtain ⟨x, hx⟩ : ∃ x, xs[i]? = some x := ⟨xs[i]'(by omega), Array.getElem?_eq_getElem (by omega)⟩
    obtain ⟨y, hy⟩ : ∃ y, ys[i]? = some y := ⟨ys[i]'(by omega), Array.getElem?_eq_getElem (by omega)⟩
    have hsz : acc.size = i := by rw [← Array.length_toList, hacc, List.length_map, hal]
    have hSl : S < h.objs.size := Heap.lt_size hS
    refine codeAny_builtin PySem.F.entry_extend_loop ?_
    rw [Around.under_plainId PySem.F.plain_extend_loop _]
    show wpAny _ A.in1 (pyNext (.ref z) >>= _) _ _ _
    refine wpAny_bind (zipT_some (s := { s with heap := h, toks := tk }) (S := S) (k := i) D hst hSl hTI D.TIz D.TITO D.TIi1 D.TIi2 h1 h2 hl1 hl2 hx hy fun h' hst' h1' h2' ht hz hkp => ?_)
    dsimp only at ht hz hkp ⊢
    have hS' := hkp S _ Sz ST S1 S2 hS
    have up : ∀ b o, b ≠ S → h'.get? b = some o → (h'.update S (Obj.mapSeq (·.push (Value.ref h.objs.size)))).get? b = some o := fun b o hb e => (Heap.get?_update_other _ _ (Ne.symm hb)).trans e
    have hTI' := hkp TI _ D.TIz D.TITO D.TIi1 D.TIi2 hTI
    have hl1' : h'.IsTuple l1 xs := tupAt hl1 fun o e => hkp l1 o D.l1z D.l1TO D.l1i1 D.l1i2 e
    have hl2' : h'.IsTuple l2 ys := tupAt hl2 fun o e => hkp l2 o D.l2z D.l2TO D.l2i1 D.l2i2 e
    show wpAny _ A.in1 (updateSeq S (·.push (Value.ref h.objs.size)) >>= _) _ _ _
    refine wpAny_bind ?_
    refine wpAny_updateSeq hS' rfl (wpAny_pure ⟨plainId_quiet PySem.F.plain_extend_loop _, ih (i + 1) _ tk _ (acc.push (Value.ref h.objs.size)) (as ++ [h.objs.size]) (by omega) hlt (hst'.keep up (Ne.symm Sz) (Ne.symm ST)) (up TI _ (Nat.ne_of_lt B.TI) hTI')
      (h1'.at fun o e => up i1 o (Ne.symm S1) e) (h2'.at fun o e => up i2 o (Ne.symm S2) e) (tupAt hl1' fun o e => up l1 o (Nat.ne_of_lt B.l1) e) (tupAt hl2' fun o e => up l2 o (Nat.ne_of_lt B.l2) e)
      (fun b o b0 b1 b2 b3 b4 e => up b o b0 (hkp b o b1 b2 b3 b4 (hkeep b o b0 b1 b2 b3 b4 e))) (Heap.get?_update_self _ hS' rfl) (by rw [Array.toList_push, hacc, List.map_append]; rfl) (by rw [List.length_append, hal]; rfl) ⟨?_, ?_, ?_⟩⟩) (by rw [hsz]; omega) (by show (acc.push (Value.ref h.objs.size)).size ≤ sizeLine + 1; rw [Array.size_push, hsz]; omega)
    · refine List.pairwise_append.mpr ⟨hG.rise, List.pairwise_singleton _ _, fun a ha b hb => ?_⟩
      rw [List.mem_singleton.mp hb]
      exact hG.there ha
    · intro a ha
      rcases List.mem_append.mp ha with ha | ha
      · exact hG.above a ha
      · rw [List.mem_singleton.mp ha]; exact hSl
    · intro j b hj
      rcases Nat.lt_trichotomy j as.length with q1 | q1 | q1
      · rw [List.getElem?_append_left q1] at hj
        obtain ⟨x', y', e1, e2, e3⟩ := hG.pairs j b hj
        have hb := hG.above b (List.mem_of_getElem? hj)
        exact ⟨x', y', e1, e2, up b _ (Nat.ne_of_gt hb) (hkp b _ (Nat.ne_of_gt (Nat.lt_trans B.z hb)) (Nat.ne_of_gt (Nat.lt_trans B.TO hb)) (Nat.ne_of_gt (Nat.lt_trans B.i1 hb)) (Nat.ne_of_gt (Nat.lt_trans B.i2 hb)) e3)⟩
      · subst q1
        have hb : h.objs.size = b := by simpa using hj
        subst hb
        exact ⟨x, y, by rw [hal]; exact hx, by rw [hal]; exact hy, up _ _ (Nat.ne_of_gt hSl) ht⟩
      · have hnone : (as ++ [h.objs.size])[j]? = none := List.getElem?_eq_none (by rw [List.length_append, List.length_singleton]; omega)
        rw [hnone] at hj; cases hj
end

theorem zip_no_len : typeLookup (.type "zip") "__len__" = pure none := am_miss_of_fast (by decide +kernel)
theorem zip_no_hint : typeLookup (.type "zip") "__length_hint__" = pure none := am_miss_of_fast (by decide +kernel)
section
variable {prog : Program} {w : World} {A : Around} {s : Shared} {R : Result → Shared → Prop} {xs ys : Array Value} {S z TI TO i1 i2 l1 l2 : Addr}
theorem zip_extend (hh : A.handled = none) (D : ZipApart z TI TO i1 i2 l1 l2) (B : ZLow S z TI TO i1 i2 l1 l2) {N : Nat} (hN : min xs.size ys.size = N) (hn : N ≤ sizeLine) (res : Value) (c₀ : Nat)
    (hz : IsZip s.heap z TI TO .none) (hTI : IsPair s.heap TI (.ref i1) (.ref i2)) {a b : Value} (hTO : IsPair s.heap TO a b) (h1 : s.heap.IsTupleIter i1 l1 0) (h2 : s.heap.IsTupleIter i2 l2 0) (hl1 : s.heap.IsTuple l1 xs) (hl2 : s.heap.IsTuple l2 ys)
    (hS : s.heap.get? S = some { cls := .type "list", data := .seq #[] c₀ })
    (hR : ∀ h' tk acc c as, (∀ b o, b ≠ S → b ≠ z → b ≠ TO → b ≠ i1 → b ≠ i2 → s.heap.get? b = some o → h'.get? b = some o) → h'.get? S = some { cls := .type "list", dict := none, data := .seq acc c, slots := #[] } → as.length = N → ZG xs ys S h' as →
      acc.toList = as.map Value.ref → R (.ok (.ret res)) { s with heap := h', toks := tk }) :
    wpAny (model prog w) A.in1 (Builtin.List.listExtendWith (.ref S) (.ref z) res)
      (fun fin s' => match fin with | .done f => R (.ok f) s' | .again c' => c'.quiet = true ∧ codeAny (model prog w) A c' R s') (fun e s' => R (.error e) s') s := by
  have hT : s.TypeIs (.ref z) "zip" := ⟨_, hz, rfl⟩
  have hSz : S ≠ z := Nat.ne_of_gt B.z
  unfold Builtin.List.listExtendWith
  refine wpAny_bind (wpAny_typeOf hT ?_)
  have q1 : Builtin.List.listSameRef (.ref S) (.ref z) = false := by simp [Builtin.List.listSameRef, hSz]
  have q2 : (Value.type "zip" == Value.type "list") = false := by decide
  have q3 : (Value.type "zip" == Value.type "tuple") = false := by decide
  simp only [q1, q2, q3, Bool.or_false, Bool.false_eq_true, if_false]
  refine wpAny_bind (wpAny_pyIter_zip hz ?_)
  refine wpAny_bind (wpAny_holding ?_)
  unfold Builtin.List.listLengthHint
  refine wpAny_bind (wpAny_specialOf hT zip_no_len ?_)
  show wpAny _ A.in1 (specialOf (Value.ref z) (Str.ofString "__length_hint__") >>= _) _ _ _
  refine wpAny_bind (wpAny_specialOf hT zip_no_hint ?_)
  refine wpAny_pure ?_
  show wpAny _ A.in1 (rule "list.extend.makes-room" >>= fun _ => Builtin.List.listTouch (.ref S) >>= fun _ =>
    again (.builtin "list.extend.loop" ⟨[.ref S, .ref z, res], []⟩)) _ _ _
  refine wpAny_bind (wpAny_rule ?_)
  refine wpAny_bind ?_
  show wpAny _ A.in1 (updateSeq S (·.push .none) >>= fun _ => updateSeq S (·.pop)) _ _ _
  refine wpAny_bind (wpAny_updateSeq hS rfl ?_)
  have hS₂ := Heap.get?_update_self (Obj.mapSeq (·.push Value.none)) hS rfl
  refine wpAny_updateSeq (hz := by seq_fits) hS₂ rfl ?_
  have hS₃ := Heap.get?_update_self (Obj.mapSeq (·.pop)) hS₂ rfl
  have oth : ∀ b o, b ≠ S → s.heap.get? b = some o → ((s.heap.update S (Obj.mapSeq (·.push Value.none))).update S (Obj.mapSeq (·.pop))).get? b = some o :=
    fun b o hb e => (Heap.get?_update_other _ _ (Ne.symm hb)).trans ((Heap.get?_update_other _ _ (Ne.symm hb)).trans e)
  refine wpAny_pure ⟨plainId_quiet PySem.F.plain_extend_loop _, zip_loop hh D B hN hn res (h₁ := s.heap) hR N 0 _ _ _ #[] [] (Nat.sub_zero _) (Nat.zero_le _) (.inl ⟨oth z _ (Ne.symm hSz) hz, a, b, oth TO _ (Nat.ne_of_lt B.TO) hTO⟩) (oth TI _ (Nat.ne_of_lt B.TI) hTI)
    (h1.at fun o e => oth i1 o (Nat.ne_of_lt B.i1) e) (h2.at fun o e => oth i2 o (Nat.ne_of_lt B.i2) e) (tupAt hl1 fun o e => oth l1 o (Nat.ne_of_lt B.l1) e) (tupAt hl2 fun o e => oth l2 o (Nat.ne_of_lt B.l2) e)
    (fun b o b0 _ _ _ _ e => oth b o b0 e) hS₃ rfl rfl ⟨List.Pairwise.nil, (fun _ ha => nomatch ha), (fun j a hj => by simp at hj)⟩⟩
theorem zip_init (hh : A.handled = none) (D : ZipApart z TI TO i1 i2 l1 l2) (B : ZLow S z TI TO i1 i2 l1 l2) {N : Nat} (hN : min xs.size ys.size = N) (hn : N ≤ sizeLine)
    (hz : IsZip s.heap z TI TO .none) (hTI : IsPair s.heap TI (.ref i1) (.ref i2)) {a b : Value} (hTO : IsPair s.heap TO a b) (h1 : s.heap.IsTupleIter i1 l1 0) (h2 : s.heap.IsTupleIter i2 l2 0) (hl1 : s.heap.IsTuple l1 xs) (hl2 : s.heap.IsTuple l2 ys)
    (hS : s.heap.get? S = some { cls := .type "list", data := .seq #[] })
    (hR : ∀ h' tk acc c as, (∀ b o, b ≠ S → b ≠ z → b ≠ TO → b ≠ i1 → b ≠ i2 → s.heap.get? b = some o → h'.get? b = some o) → h'.get? S = some { cls := .type "list", dict := none, data := .seq acc c, slots := #[] } → as.length = N → ZG xs ys S h' as →
      acc.toList = as.map Value.ref → R (.ok (.ret .none)) { s with heap := h', toks := tk }) :
    wpAny (model prog w) A.in1 (Builtin.«list.__init__» ⟨[.ref S, .ref z], []⟩)
      (fun fin s' => match fin with | .done f => R (.ok f) s' | .again c' => c'.quiet = true ∧ codeAny (model prog w) A c' R s') (fun e s' => R (.error e) s') s := by
  have hSz : S ≠ z := Nat.ne_of_gt B.z
  show wpAny _ A.in1 (do let old ← Builtin.List.listItems (.ref S); Builtin.List.listUpdate (.ref S) (fun _ => #[]); letGo old.toList.reverse; Builtin.List.listExtendWith (.ref S) (.ref z) .none) _ _ s
  refine wpAny_bind ?_
  unfold Builtin.List.listItems
  refine wpAny_bind (wpAny_seqItems hS rfl (wpAny_pure ?_))
  show wpAny _ A.in1 (updateSeq S (fun _ => #[]) >>= fun _ => letGo (#[] : Array Value).toList.reverse >>= fun _ => Builtin.List.listExtendWith (.ref S) (.ref z) .none) _ _ s
  refine wpAny_bind (wpAny_updateSeq hS rfl ?_)
  have hS₂ := Heap.get?_update_self (Obj.mapSeq (fun _ => (#[] : Array Value))) hS rfl
  have oth : ∀ b o, b ≠ S → s.heap.get? b = some o → (s.heap.update S (Obj.mapSeq (fun _ => (#[] : Array Value)))).get? b = some o :=
    fun b o hb e => (Heap.get?_update_other _ _ (Ne.symm hb)).trans e
  refine wpAny_bind (wpAny_letGo ?_)
  refine zip_extend hh D B hN hn .none _ (oth z _ (Ne.symm hSz) hz) (oth TI _ (Nat.ne_of_lt B.TI) hTI) (oth TO _ (Nat.ne_of_lt B.TO) hTO) (h1.at fun o e => oth i1 o (Nat.ne_of_lt B.i1) e) (h2.at fun o e => oth i2 o (Nat.ne_of_lt B.i2) e) (tupAt hl1 fun o e => oth l1 o (Nat.ne_of_lt B.l1) e) (tupAt hl2 fun o e => oth l2 o (Nat.ne_of_lt B.l2) e) hS₂ fun h' tk acc c as hk hS' hl hG hacc => ?_
  exact hR h' tk acc c as (fun b o b0 b1 b2 b3 b4 e => hk b o b0 b1 b2 b3 b4 (oth b o b0 e)) hS' hl hG hacc
theorem call_list_zip {E : Value → Shared → Prop} {Q : Value → Shared → Prop} (hh : A.handled = none) (D : ZipApart z TI TO i1 i2 l1 l2) {N : Nat} (hN : min xs.size ys.size = N) (hn : N ≤ sizeLine)
    (hz : IsZip s.heap z TI TO .none) (hTI : IsPair s.heap TI (.ref i1) (.ref i2)) {a b : Value} (hTO : IsPair s.heap TO a b) (h1 : s.heap.IsTupleIter i1 l1 0) (h2 : s.heap.IsTupleIter i2 l2 0) (hl1 : s.heap.IsTuple l1 xs) (hl2 : s.heap.IsTuple l2 ys)
    (hQ : ∀ h' tk acc c as, (∀ b o, b ≠ z → b ≠ TO → b ≠ i1 → b ≠ i2 → s.heap.get? b = some o → h'.get? b = some o) → h'.get? s.heap.objs.size = some { cls := .type "list", dict := none, data := .seq acc c, slots := #[] } → as.length = N → ZG xs ys s.heap.objs.size h' as →
      acc.toList = as.map Value.ref → Q (.ref s.heap.objs.size) { s with heap := h', toks := tk }) :
    wpAny (model prog w) A (call (.type "list") [.ref z]) Q E s := by
  refine callType_codes (Q₁ := fun obj s₁ => obj = .ref s.heap.objs.size ∧ s₁ = { s with heap := s.heap.push { cls := .type "list", data := .seq #[] } }) PySem.F.called_list (PySem.F.typeCall_list_1 _) PySem.F.entry_list_init
    (code_list_new _ ⟨rfl, rfl⟩) fun obj s₁ h₁ => ?_
  obtain ⟨rfl, rfl⟩ := h₁
  have hS : (s.heap.push { cls := .type "list", data := .seq #[] }).get? s.heap.objs.size = some { cls := .type "list", data := .seq #[] } := Heap.get?_push_size _ rfl
  have up : ∀ b o, s.heap.get? b = some o → (s.heap.push { cls := .type "list", data := .seq #[] }).get? b = some o := fun b o e => Heap.get?_push_of_some _ e
  have B : ZLow s.heap.objs.size z TI TO i1 i2 l1 l2 := ⟨Heap.lt_size hz, Heap.lt_size hTI, Heap.lt_size hTO, (let ⟨_, e, _⟩ := h1; Heap.lt_size e), (let ⟨_, e, _⟩ := h2; Heap.lt_size e), (let ⟨_, e, _⟩ := hl1; Heap.lt_size e), (let ⟨_, e, _⟩ := hl2; Heap.lt_size e)⟩
  refine ⟨⟨_, hS, rfl⟩, PySem.F.args_list_init_2 _ _, zip_init (A := A.in1) hh D B hN hn (up _ _ hz) (up _ _ hTI) (up _ _ hTO) (h1.at fun o e => up i1 o e) (h2.at fun o e => up i2 o e) (tupAt hl1 fun o e => up l1 o e) (tupAt hl2 fun o e => up l2 o e) hS fun h' tk acc c as hk hS' hl hG hacc => ?_⟩
  exact ⟨rfl, hQ h' tk acc c as (fun b o b1 b2 b3 b4 e => hk b o (Nat.ne_of_lt (Heap.lt_size e)) b1 b2 b3 b4 (up b o e)) hS' hl hG hacc⟩
end
end RZ
set_option Elab.async false
set_option linter.all false
set_option maxRecDepth 100000
set_option maxHeartbeats 800000
/-! list(zip(a, b)): the rule -/
namespace RZ
open PySem PySem.Spec PyProof.Rows L2
def putP : Hp → List Addr → List (V × V) → Hp
  | H, a :: as, p :: ps => putP (upd H a (.tup [p.1, p.2])) as ps
  | H, _, _ => H
theorem putP_off {b : Addr} : ∀ (as : List Addr) (ps : List (V × V)) (H : Hp), b ∉ as → putP H as ps b = H b
  | [], _, _, _ => rfl
  | _ :: _, [], _, _ => rfl
  | a :: as, p :: ps, H, h => by
    show putP (upd H a (.tup [p.1, p.2])) as ps b = H b
    rw [putP_off as ps _ (fun z => h (List.mem_cons_of_mem _ z)), upd_ne (fun z => h (by rw [z]; exact List.mem_cons_self))]
theorem putP_at : ∀ (as : List Addr) (ps : List (V × V)) (H : Hp), as.length = ps.length → as.Nodup → Paired (fun (t : Addr) (p : V × V) => putP H as ps t = some (.tup [p.1, p.2])) as ps
  | [], [], _, _, _ => .nil
  | [], _ :: _, _, h, _ => by cases h
  | _ :: _, [], _, h, _ => by cases h
  | a :: as, p :: ps, H, h, hn => by
    have hn' := List.nodup_cons.mp hn
    have ih := putP_at as ps (upd H a (.tup [p.1, p.2])) (Nat.succ.inj h) hn'.2
    refine .cons ?_ ih
    show putP (upd H a (.tup [p.1, p.2])) as ps a = some (.tup [p.1, p.2])
    rw [putP_off as ps _ hn'.1, upd_same]
section
variable {X : Cx}
/-- the list and its pairs tracked -/
theorem zip_laid {pins : List (Addr × Obj)} {σ : L2.St} {H : Hp} {s : Shared} {h' : Heap} {tk : Nat} {xs ys : List V} {us vs : List Value} {acc : Array Value} {c : Nat} {as : List Addr} {S : Addr} (hLe : s.heap.objs.size ≤ S) (I : Inv X pins σ H s) (hz : xs.length ≤ sizeLine) (he : xs.length = ys.length) (rx : Vals xs us) (ry : Vals ys vs)
    (hk : ∀ b o, s.heap.get? b = some o → h'.get? b = some o) (hS : h'.get? S = some { cls := .type "list", dict := none, data := .seq acc c, slots := #[] }) (hl : as.length = xs.length) (hG : ZG us.toArray vs.toArray S h' as) (hacc : acc.toList = as.map Value.ref) :
    ∃ H' : Hp, (∀ b o, H b = some o → H' b = some o) ∧ H S = none ∧ (∀ t ∈ as, H t = none) ∧ S ∉ as ∧ H' S = some (.lst (as.map V.ref)) ∧ Paired (fun (t : Addr) (q : V × V) => H' t = some (.tup [q.1, q.2])) as (xs.zip ys) ∧ Inv X pins σ H' { s with heap := h', toks := tk } := by
  have lz : as.length = (xs.zip ys).length := by rw [List.length_zip]; omega
  have hSn : S ∉ as := fun z => Nat.lt_irrefl _ (hG.above _ z)
  have nd : as.Nodup := List.Pairwise.imp (fun {a b} (h : a < b) => Nat.ne_of_lt h) hG.rise
  have new : ∀ t ∈ as, H t = none := fun t ht => I.hok.fresh (Nat.le_trans hLe (Nat.le_of_lt (hG.above t ht)))
  have newS : H S = none := I.hok.fresh hLe
  have atP := putP_at as (xs.zip ys) (upd H S (.lst (as.map V.ref))) lz nd
  have off : ∀ b, b ∉ as → b ≠ S → putP (upd H S (.lst (as.map V.ref))) as (xs.zip ys) b = H b := fun b h1 h2 => by rw [putP_off as _ _ h1, upd_ne h2]
  have low : ∀ b o, s.heap.get? b = some o → b ∉ as ∧ b ≠ S := fun b o e => ⟨fun z => absurd (Heap.lt_size e) (Nat.not_lt.mpr (Nat.le_trans hLe (Nat.le_of_lt (hG.above b z)))), Nat.ne_of_lt (Nat.lt_of_lt_of_le (Heap.lt_size e) hLe)⟩
  have kp : ∀ b u, H b = some u → (putP (upd H S (.lst (as.map V.ref))) as (xs.zip ys)) b = some u := fun b u e => by
    rw [off b (fun z => by rw [new b z] at e; cases e) (fun z => by rw [z, newS] at e; cases e)]
    exact e
  have eS : putP (upd H S (.lst (as.map V.ref))) as (xs.zip ys) S = some (.lst (as.map V.ref)) := by rw [putP_off as _ _ hSn, upd_same]
  refine ⟨putP (upd H S (.lst (as.map V.ref))) as (xs.zip ys), kp, newS, new, hSn, eS, atP, ?_⟩
  refine I.call' (ch := []) rfl ⟨fun b o q _ _ _ => hk b o q, fun b o q _ _ _ => ⟨o.slots, hk b o q⟩, fun b o q n _ => ?_, fun b o q _ => ⟨o, hk b o q⟩, fun b xs q => kp b _ q, fun b o u q => kp b _ q, fun b ps q => ⟨#[], by rw [kp b _ q]; simp⟩⟩ (fun b u q => ?_) I.bare fun b z => by simp at z
  · obtain ⟨z1, z2⟩ := low b o q
    rw [off b z1 z2]
    exact n
  · by_cases hb : b ∈ as
    · obtain ⟨j, pk, e1, e2, e3⟩ := LiI.paired_ix atP hb
      rw [e3] at q
      cases q
      obtain ⟨x, y, f1, f2, f3⟩ := hG.pairs j b e1
      rw [List.getElem?_toArray] at f1 f2
      obtain ⟨g1, g2⟩ := List.getElem?_zip_eq_some.mp e2
      obtain ⟨x', k1, r1⟩ := LiI.paired_get rx g1
      obtain ⟨y', k2, r2⟩ := LiI.paired_get ry g2
      rw [f1] at k1; cases k1
      rw [f2] at k2; cases k2
      exact ⟨by show 2 ≤ sizeLine; decide, [x, y], .cons r1 (.cons r2 .nil), ⟨_, f3, rfl, _, rfl⟩⟩
    · by_cases hb2 : b = S
      · rw [hb2] at q ⊢
        rw [eS] at q
        cases q
        refine ⟨by rw [List.length_map]; omega, acc.toList, c, by rw [hacc]; exact LiI.vals_refs as, ?_⟩
        rw [Array.toArray_toList]
        exact hS
      · rw [off b hb hb2] at q
        exact (I.hok b u q).stay (fun d v _ y => hk d v y) (fun d y => kp d _ y) fun d xs y => kp d _ y

def rZipL (K : PySem.W.Frag) (vs : List V) (H : Hp) (Q : VK) : Prop := ∃ a b xs ys, vs = [.ref a, .ref b] ∧ SqT K H a xs ∧ SqT K H b ys ∧ xs.length = ys.length ∧
  ∀ (H' : Hp) (p : Addr) (ts : List Addr), (∀ b o, H b = some o → H' b = some o) → H p = none → (∀ t ∈ ts, H t = none) → p ∉ ts → H' p = some (.lst (ts.map V.ref)) → Paired (fun (t : Addr) (q : V × V) => H' t = some (.tup [q.1, q.2])) ts (xs.zip ys) → Q (.ref p) H'
def tListZip (K : PySem.W.Frag) (ta : TA) : TE := fun σ H Q => ta σ H fun vs H1 => rZipL K vs H1 Q
theorem pe_listZip {e e2 : Expr} {ta : TA} {p zp cpos pos : Pos} (hc : X.calm = true) (hgl : Gl X "list") (hml : X.mg "list" = none) (hg : Gl X "zip") (hm : X.mg "zip" = none) (ha : PA X [e, e2] ta)
    (hs : starEach [e, e2] X.env = (false, eval e X.env) :: starEach [e2] X.env := by rfl) (hpl : (backTo cpos (starEach [e2] X.env)).any (·.1) = false := by rfl)
    (na : starEach [.Call (.Name "zip" zp) [e, e2] [] cpos] X.env = (false, eval (.Call (.Name "zip" zp) [e, e2] [] cpos) X.env) :: starEach [] X.env := by rfl) :
    PE X (.Call (.Name "list" p) [.Call (.Name "zip" zp) [e, e2] [] cpos] [] pos) (tListZip X.K ta) := by
  refine ⟨fun pins s σ H Q I h => ?_⟩
  refine Call_ (ld_blt I hgl hml boot_list (PyProof.Rows.callWith_type1 (args_cons (Call_ (ld_blt I hg hm PyProof.Rows.boot_zip (PyProof.Rows.callWith_type1 (thn (ha.run cpos pins s σ H _ I h) fun us s1 ⟨vs, H1, I1, r1, q1⟩ => ?_) hs hpl))) na) na))
  obtain ⟨a, b, xs, ys, ex, hqx, hqy, he, q⟩ := q1
  subst ex
  cases r1 with
  | cons r rr =>
    cases rr with
    | cons r' rr =>
      cases rr
      cases r
      cases r'
      obtain ⟨its, rv, p1, z1⟩ := I1.tuple hqx
      obtain ⟨its2, rv2, p2, z2⟩ := I1.tuple hqy
      obtain ⟨o1, ho1, _⟩ := id p1
      obtain ⟨o2, ho2, _⟩ := id p2
      refine call_zipT (show s1.heap.IsTuple a its.toArray from p1) (show s1.heap.IsTuple b its2.toArray from p2) fun h' hz hTI hTO h1 h2 hsz hk => ?_
      have I2 : Inv X pins σ H1 { s1 with heap := h' } := I1.kept (t' := s1.toks) hk
      refine args_nil ?_
      have l1 := rv.length
      have l2 := rv2.length
      refine call_list_zip (s := { s1 with heap := h' }) (N := xs.length) (I2.ok.hd hc) (PySem.W.ktu_apart s1.heap.objs.size a b (Heap.lt_size ho1) (Heap.lt_size ho2)) (by simp; omega) ?_ hz hTI hTO h1 h2 (tupAt p1 fun o e => hk a o e) (tupAt p2 fun o e => hk b o e) fun h2' tk acc c as hk2 hS hl hG hacc => ?_
      · exact z1
      · have hk3 : ∀ b o, s1.heap.get? b = some o → h2'.get? b = some o := fun b o e => by
          have lb : b < s1.heap.objs.size := Heap.lt_size e
          exact hk2 b o (Nat.ne_of_lt (Nat.lt_of_lt_of_le lb (Nat.le_add_right _ _))) (Nat.ne_of_lt (Nat.lt_of_lt_of_le lb (Nat.le_add_right _ _))) (Nat.ne_of_lt lb) (Nat.ne_of_lt (Nat.lt_of_lt_of_le lb (Nat.le_add_right _ _))) (hk b o e)
        have hLe : s1.heap.objs.size ≤ h'.objs.size := by omega
        obtain ⟨H', k1, k2, k3, k4, k5, k6, J⟩ := zip_laid (tk := tk) hLe I1 z1 he rv rv2 hk3 hS hl hG hacc
        exact ⟨.ref _, H', J, rfl, q H' _ as k1 k2 k3 k4 k5 k6⟩
end
end RZ
set_option Elab.async false
set_option linter.all false
set_option maxRecDepth 100000
set_option maxHeartbeats 800000
/-! the layer's rule for list(zip(a, b)) -/
namespace U
open PySem PySem.Spec PyProof.Rows L2
def zipN (xs ys : List D) : List D := List.zipWith (fun x y => PyData.tuple [x, y]) xs ys
def lzK : List D → Res
  | [.tuple xs, .tuple ys] => if xs.length = ys.length then .new (zipN xs ys) else .bad
  | _ => .bad
def eLz (ms : List Sm) : Sm := fun ρ => (evs ms ρ).bind lzK
section
variable {X : Cx} {cv : Nat → Value} {W : WX} {a b : Expr} {ms : List Sm} {p zp cpos pos : Pos}
theorem drs_zip {F F' : Hp} (le : Ex F F') : ∀ {ts : List Addr} {vs ws : List V} {xs ys : List D}, Paired (fun (t : Addr) (q : V × V) => F' t = some (.tup [q.1, q.2])) ts (vs.zip ws) → DrAll F vs xs → DrAll F ws ys → xs.length = ys.length → DrAll F' (ts.map V.ref) (zipN xs ys)
  | ts, _, _, _, _, hp, .nil, .nil, _ => by
    cases hp
    exact .nil
  | ts, _, _, _, _, hp, .cons h1 t1, .cons h2 t2, hl => by
    cases hp with
    | cons e r => exact .cons (.tup e (.cons (dp_mono le h1) (.cons (dp_mono le h2) .nil))) (drs_zip le r t1 t2 (by simpa using hl))
  | _, _, _, _, _, _, .nil, .cons _ _, hl => by simp at hl
  | _, _, _, _, _, _, .cons _ _, .nil, hl => by simp at hl
theorem paired_on {α β : Type} {P Q : α → β → Prop} : ∀ {ts : List α} {qs : List β}, (∀ t ∈ ts, ∀ q, P t q → Q t q) → Paired P ts qs → Paired Q ts qs
  | _, _, _, .nil => .nil
  | _, _, h, .cons e r => .cons (h _ List.mem_cons_self _ e) (paired_on (fun t ht q k => h t (List.mem_cons_of_mem _ ht) q k) r)
theorem j_lz (hc : X.calm = true) (hgl : Gl X "list") (hml : X.mg "list" = none) (hg : Gl X "zip") (hm : X.mg "zip" = none) (ha : JA X cv W [a, b] ms) (h1 : notStar a = true) (h2 : notStar b = true) : JE X cv W (.Call (.Name "list" p) [.Call (.Name "zip" zp) [a, b] [] cpos] [] pos) (eLz ms) :=
  PE.imp (RZ.pe_listZip hc hgl hml hg hm ha (star_cons h1) (star_any (by simp [h2])) rfl) fun σ H Q ⟨ρ, F, r, q⟩ => rd_args r q fun ds vs F1 H1 hl ev hd q => by
    unfold lzK at q
    split at q
    · rename_i xs ys
      split at q
      · rename_i hxy
        cases hd with
        | cons hx hd =>
          cases hd with
          | cons hy hd =>
            cases hd
            cases hx with
            | tup e1 d1 =>
              cases hy with
              | tup e2 d2 =>
                refine ⟨_, _, _, _, rfl, .inl (.inl (ev.le _ _ e1)), .inl (.inl (ev.le _ _ e2)), by rw [dps_len d1, dps_len d2, hxy], fun H' p ts k1 k2 k3 k4 k5 k6 => ?_⟩
                have evo : Evo F1 H1 (fun t => if t ∈ ts then H' t else F1 t) H' := by
                  refine ⟨fun t o e => ?_, fun t o e => k1 t o e, fun t o e => ?_, fun t o e => ?_⟩
                  · have nt : t ∉ ts := fun z => by have := ev.le t o e; rw [k3 t z] at this; cases this
                    simp only [nt, if_false]; exact e
                  · by_cases z : t ∈ ts
                    · simp only [z, if_true] at e; exact e
                    · simp only [z, if_false] at e; exact k1 t o (ev.le t o e)
                  · by_cases z : t ∈ ts
                    · exact .inr (k3 t z)
                    · simp only [z, if_false] at e; exact .inl e
                refine q p (ts.map V.ref) _ H' evo k2 ?_ k5 (drs_zip evo.ex ?_ d1 d2 hxy)
                · simp only [k4, if_false]; exact none_back ev.le k2
                · exact paired_on (fun t ht q k => by simp only [ht, if_true]; exact k) k6
      · exact q.elim
    · exact q.elim

/-! list(range(a, b)) -/
def eLr (ma mb : Sm) : Sm := fun ρ => (ma ρ).bind fun x => (mb ρ).bind fun y => match x, y with
  | .int i, .int j => if -1000 ≤ i ∧ i ≤ 1000 ∧ -1000 ≤ j ∧ j ≤ 1000 then .new (rangeD i (j - i).toNat) else .bad
  | _, _ => .bad
theorem drs_rg (F : Hp) (i j : Int) : DrAll F (rgV i j) (rangeD i (j - i).toNat) := by
  unfold rgV rangeD
  generalize List.range (j - i).toNat = l
  induction l with
  | nil => exact .nil
  | cons k l ih => exact .cons (.int _) ih
theorem j_lr {ma mb : Sm} (hc : X.calm = true) (hgl : Gl X "list") (hml : X.mg "list" = none) (hg : Gl X "range") (hm : X.mg "range" = none) (ha : JW X cv W a ma) (hb : JW X cv W b mb) (h1 : notStar a = true) (h2 : notStar b = true) : JE X cv W (.Call (.Name "list" p) [.Call (.Name "range" zp) [a, b] [] cpos] [] pos) (eLr ma mb) :=
  PE.imp (pe_listRg hc hgl hml (prg_2 hg hm ha hb (star_cons h1) (star_cons h2) (star_any (by simp [h2]))) rfl) fun σ H Q ⟨ρ, F, r, q⟩ => by
    refine ⟨ρ, F, r, ?_⟩
    unfold eLr at q
    have go : ∀ d, GotE cv W F H σ Q ((mb ρ).bind fun y => match d, y with
      | .int i, .int j => if -1000 ≤ i ∧ i ≤ 1000 ∧ -1000 ≤ j ∧ j ≤ 1000 then .new (rangeD i (j - i).toNat) else .bad
      | _, _ => .bad) → QW F H d fun x H1 => rdW cv W mb σ H1 fun y H2 => ∃ i j, x = .int i ∧ y = .int j ∧ RgOk i j ∧ ∀ q, H2 q = none → Q (.ref q) (upd H2 q (.lst (rgV i j))) := fun d q v F1 H1 ev wk => by
      refine ⟨ρ, F1, r.evo ev, ?_⟩
      cases h : mb ρ with
      | ok d2 =>
        rw [h] at q
        intro v2 F2 H2 ev2 wk2
        simp only [Res.bind] at q
        cases d <;> try exact q.elim
        cases d2 <;> try exact q.elim
        simp only at q
        split at q
        · rename_i hz
          refine ⟨_, _, wk.int, wk2.int, ⟨by omega, by omega, by omega, by omega, by omega⟩, fun z hz' => ?_⟩
          have e3 := ev.trans ev2
          exact q z _ F2 _ ⟨e3.ex, e3.hx.trans (Evl.Ex.new hz'), e3.le.trans (Evl.Ex.new hz'), e3.new⟩ (none_back e3.hx hz') (none_back e3.le hz') upd_same (drs_rg F2 _ _)
        · exact q.elim
      | new d2 => rw [h] at q; cases d <;> exact q.elim
      | exc c => rw [h] at q; exact QX.evo ev q
      | bad => rw [h] at q; exact q
    cases h : ma ρ with
    | ok d => rw [h] at q; exact go d q
    | new d => rw [h] at q; exact go _ q
    | exc c => rw [h] at q; exact q
    | bad => rw [h] at q; exact q
end

variable {S : S0}
def lstOf (r : TR S) (sc : Scope) : (e : Expr) → Option (OkE S sc e)
  | .Call (.Name x p) [.Call (.Name y zp) [a, b] [] cpos] [] pos =>
      if hx : x = "list" then (if hg : glB sc x = true then (if hy : y = "zip" then (if hz : glB sc y = true then (aOf r sc [a, b]).bind fun u => some ⟨eLz u.ms, u.lk, fun cv X W g h => by
        subst hx hy
        exact j_lz g.calm (Gd.gl (cv := cv) (W := W) h hg) (g.blt _ (by decide +kernel)) (Gd.gl (cv := cv) (W := W) h hz) (g.blt _ (by decide +kernel)) (u.ok cv X W g h) (all_cons u.st).1 (all_cons (all_cons u.st).2).1⟩ else none)
      else if hy : y = "range" then (if hz : glB sc y = true then (wOf r sc a).bind fun u => (wOf r sc b).bind fun v => if hs : notStar a = true ∧ notStar b = true then some ⟨eLr u.m v.m, u.lk ++ v.lk, fun cv X W g h => by
        subst hx hy
        exact j_lr g.calm (Gd.gl (cv := cv) (W := W) h hg) (g.blt _ (by decide +kernel)) (Gd.gl (cv := cv) (W := W) h hz) (g.blt _ (by decide +kernel)) (u.ok cv X W g h) (v.ok cv X W g h) hs.1 hs.2⟩ else none else none)
      else none) else none) else none
  | _ => none
def stepEZ (r : TR S) (sc : Scope) (e : Expr) : Option (OkE S sc e) := match lstOf r sc e with
  | some x => some x
  | none => stepEW r sc e
/-! x, y, z = a new list, data, data (names that a comprehension reads) -/
section
variable {X : Cx} {cv : Nat → Value} {W : WX} {m1 m2 m3 : Sm} {lk : List Nat} {pos : Pos}
def sTrj (i j l : Nat) (lk : List Nat) (m1 m2 m3 : Sm) : Ss := fun ρ0 => let ρ := frz ρ0 lk
  (m1 ρ).fl ρ (fun _ => .bad) (fun xs => (m2 ρ).fl ρ (fun d => (m3 ρ).fl ρ (fun d3 => .nx (((ρ.set i (.ow xs)).set j (.fr d)).set l (.fr d3))) (fun _ => .bad)) (fun _ => .bad))
theorem js_trj {i j l : Nat} {x y z : Str} {a b c : Expr} {px py pz pt pt2 : Pos} {k k2 : Nat} (hc : X.calm = true) (hN : X.N.Nodup) (hes : Nms X [.Name x px, .Name y py, .Name z pz] [i, j, l])
    (ha : JE X cv W a m1) (hb : JE X cv W b m2) (hcc : JE X cv W c m3) (h1 : notStar a = true) (h2 : notStar b = true) (h3 : notStar c = true) (hw : swappedStores [.Tuple [.Name x px, .Name y py, .Name z pz] k pt] (.Tuple [a, b, c] k2 pt2) X.env = pure none) :
    JF X cv W (.Assign [.Tuple [.Name x px, .Name y py, .Name z pz] k pt] (.Tuple [a, b, c] k2 pt2) pos) (sTrj i j l lk m1 m2 m3) := fun B =>
  PS.imp (ps_asg (pe_tup (pa_cons ha (pa_cons hb (pa_cons hcc pa_nil (star_cons h3)) (star_cons h2)) (star_cons h1))) (pg_tup hc (hes.pgs hN) (hes.len (env := X.env)).1 (hes.len (env := X.env)).2) sw_other hw rfl) fun Dn σ H ⟨ρ0, F0, r0, q⟩ => by
    obtain ⟨F, r⟩ := RelB.frz (lk := lk) r0
    unfold sTrj at q
    simp only at q
    refine rd_st r q (fun d v F1 H1 ev hd q => q.elim) fun xs p1 ys1 F1 H1 ev1 a1 a2 a3 a4 q => ?_
    refine rd_st (r.step ev1) q (fun d v F2 H2 ev2 hd q => ?_) fun ds p xs F2 H2 ev2 h1 h2 h3 h4 q => q.elim
    refine rd_st ((r.step ev1).step ev2) q (fun d3 v3 F3 H3 ev3 hd3 q => ?_) fun zs p3 ys3 F3 H3 ev3 b1 b2 b3 b4 q => q.elim
    refine ⟨Evl.sz_of (by simp), fun p hp => ⟨p, _, rfl, .inl (.inl upd_same), rfl, ?_⟩⟩
    have r3 := ((r.step ev1).step ev2).step ev3
    have e4 : Evo F3 H3 F3 (upd H3 p (.tup [.ref p1, v, v3])) := (Evo.refl r3.rel.le).own hp
    have r4 := r3.step e4
    have ev14 := (ev2.trans ev3).trans e4
    have f1 : F3 p1 = none := own_not (ev2.trans ev3) a2 a3
    have g1 : (upd H3 p (.tup [.ref p1, v, v3])) p1 = some (.lst ys1) := ev14.hx _ _ a3
    have r5 := r4.ow i f1 g1 (none_back r.evo.hx a1) (dps_mono (ev2.trans ev3).ex a4) fun k es e _ => new_apart r a1 (ev1.trans ev14) k es e
    have r6 := r5.fr j (dp_mono ev3.ex hd)
    exact ⟨_, _, rfl, _, _, rfl, _, _, rfl, rfl, q _ F3 _ (r6.fr l hd3)⟩
end
def trjOf (r : TR S) (sc : Scope) : (st : Stmt) → Option (OkS S sc st)
  | .Assign [.Tuple [.Name x px, .Name y py, .Name z pz] k p] (.Tuple [a, b, c] kk pp) pos => (storeOf S sc tbF x).bind fun i => (storeOf S sc tbF y).bind fun j => (storeOf S sc tbF z).bind fun l => (r.e sc a).bind fun u => (r.e sc b).bind fun v => (r.e sc c).bind fun w =>
      if hz : swMode sc [.Name x px, .Name y py, .Name z pz] [a, b, c] = some none ∧ notStar a = true ∧ notStar b = true ∧ notStar c = true ∧ isNil a = true then some ⟨sTrj i.1 j.1 l.1 (u.lk ++ v.lk ++ w.lk) u.m v.m w.m, fun cv X W g gx h => by
        obtain ⟨z1, z5, z6, z7, _⟩ := hz
        have s1 := i.2 X g.nN h fun y _ => gx.fnT y
        have s2 := j.2 X g.nN h fun y _ => gx.fnT y
        have s3 := l.2 X g.nN h fun y _ => gx.fnT y
        exact js_trj g.calm g.nd (.cons s1.1 s1.2.1 s1.2.2 (.cons s2.1 s2.2.1 s2.2.2 (.cons s3.1 s3.2.1 s3.2.2 .nil))) (u.ok cv X W g h) (v.ok cv X W g h) (w.ok cv X W g h) z5 z6 z7 (swMode_ok (by rw [h]; exact z1))⟩ else none
  | _ => none
def stepZ (r : TR S) (t : TS0 S) (sc : Scope) (st : Stmt) : Option (OkS S sc st) := match trjOf r sc st with
  | some x => some x
  | none => stepW r t sc st
end U
set_option Elab.async false
set_option linter.all false
set_option maxRecDepth 100000
set_option maxHeartbeats 1000000
/-! a call without arguments; except (A, B) as e with a suite that reads a name -/
namespace U
open PySem PySem.Spec PyProof.Rows L2
def eF0 (f : List D → Res) : Sm := fun _ => match f [] with
  | .exc _ => .bad
  | r => r
section
variable {X : Cx} {cv : Nat → Value} {W : WX} {pos : Pos}
theorem j_callZ {k : Nat} {x : Str} {f : List D → Res} {p : Pos} (F : Fn X cv k x 0 f) (hr : Room k X.A) (hg : Gl X x) (hdb : (x == ("__debug__" : Str)) = false) :
    JE X cv W (.Call (.Name x p) [] [] pos) (eF0 f) := by
  obtain ⟨fa, fd, ps, hm, hl, F, kp, hb⟩ := F.ok
  refine PE.imp (pe_call0 (E := fun _ _ _ => False) F hr hg hm kp hb .nil (fun pins σ H s e s' I c => ?_) hdb) fun σ H Q ⟨ρ, F0, r, q⟩ => ?_
  · obtain ⟨_, _, _, _, _, _, _, _, _, _, _, _, z⟩ := c
    exact z.elim
  · refine ⟨F0, [], r.le, .nil, rfl, ?_⟩
    unfold eF0 at q
    cases h : f [] with
    | ok d => rw [h] at q; exact q
    | new d => rw [h] at q; exact q
    | exc c => rw [h] at q; exact q.elim
    | bad => rw [h] at q; exact q
end
/-! ### except (A, B) as e -/
theorem fly_push {B : Heap} {l : List PySem.Env} {e : Addr} {Z : Obj → Prop} {h : Heap} (o : Obj) (f : HandSPX.FlyingZ B l e Z h) : HandSPX.FlyingZ B l e Z (h.push o) := by
  obtain ⟨f1, f2, f3, oe, vs, T, oT, ts, a1, a2, a3, a4, a5, a6, a7, a8, a9⟩ := f
  exact ⟨fun b u e => Heap.get?_push_of_some _ (f1 b u e), f2, f3.of_keeps fun b u e _ => ⟨u, Heap.get?_push_of_some _ e, rfl⟩, oe, vs, T, oT, ts, Heap.get?_push_of_some _ a1, a2, a3, a4, a5, a6, Heap.get?_push_of_some _ a7, a8, a9⟩
def wTup (K : PySem.W.Frag) (c1 c2 : Value) (i : Nat) (ts : Addr → Value → Option Addr → TS) (D : Ends) : WX := fun cls d σ H => PySem.W.exmAny K cls [c1, c2] = some true ∧ ∀ a, H a = none → ts a cls d (ends' i D) (σ.set i (some (.ref a))) H
theorem ps_try_tup {X : Cx} {body : List Stmt} {n x1 x2 : Str} {c1 c2 : Value} {i : Nat} {ts : Addr → Value → Option Addr → TS} {b₀ : Stmt} {suite : List Stmt} {np1 np2 tpos pos' pos : Pos} {kk : Nat} {tb : WX → TS} (hs : X.stack = X.env :: X.outer) (hf : X.env.frame = some X.env.locals) (hN : X.N.Nodup)
    (hb : ∀ (W : WX) (pn : List (Addr × Obj)) (xe : Value → Shared → Prop), Takes (X.tr pn xe) W → PassesOwn (model X.prog X.w) X.A X.env xe → PSs (X.tr pn xe) body (tb W)) (hc1 : Names X x1 c1) (hc2 : Names X x2 c2) (hi : X.N[i]? = some n) (hln : X.env.kindOf n = some .local)
    (hsu : ∀ (a : Addr) (oe : Obj) (cls : Value) (d : Option Addr) (pn : List (Addr × Obj)), Zc cls d oe → (∃ vs, oe.data = .fields vs) → PSs (X.suite a ((a, oe) :: pn)) (b₀ :: suite) (ts a cls d)) :
    PS X (.Try body [.ExceptHandler (some (.Tuple [.Name x1 np1, .Name x2 np2] kk tpos)) (some n) (b₀ :: suite) pos'] [] [] pos) (fun D σ H => tb (wTup X.K c1 c2 i ts D) D σ H) := by
  refine ⟨fun pins s σ H D I h => ?_⟩
  have ok := I.ok
  have hfr : X.A.frames = some (X.env :: X.outer) := by rw [ok.frames, hs]
  refine wpAny_Try_except ?_
  refine wpAny_mono ((hb (wTup X.K c1 c2 i ts D) (X.pn ++ pins) (fun e s₁ => wpAny (model X.prog X.w) X.A (noteFrame e X.env) (fun _ s₂ => wpAny (model X.prog X.w) X.A (setFlight e none) (fun _ s₃ =>
    wpAny (model X.prog X.w) X.A (handleBy e X.env [.ExceptHandler (some (.Tuple [.Name x1 np1, .Name x2 np2] kk tpos)) (some n) (b₀ :: suite) pos']) (SP X pins D) X.xe s₃) X.xe s₂) X.xe s₁) (fun u s' xx => ?_) PassesOwn.looking).run [] s σ H D (I.toTry _) h) (fun f s1 hsp => ?_) (fun e s1 he => he)
  · obtain ⟨a, B, sI, pins', σ', H', cls, d, rfl, J', nb, up, sky, na, os, ag, w⟩ := xx
    have J : Inv X pins σ' H' sI := J'.ofTry ok
    have sky' : Sky B (X.env :: X.outer) a (Zc cls d) X.env.locals s'.heap := by rw [← hs]; exact sky
    show wpAny (model X.prog X.w) X.A (noteFrame (.ref a) X.env) _ _ _
    refine Sky.land Zc.steady hfr hf sky' fun h3 fl3 up3 => ?_
    have J3 : Inv X pins σ' H' { s' with heap := h3 } := J.landed nb fl3.1 (up.trans up3) os ag
    obtain ⟨oe3, vs3, he3, hz3, hd3⟩ := fl3.there
    have nfr : a ∉ frs (X.env :: X.outer) := fun hm => by
      obtain ⟨_, o', e', hnf⟩ := fl3.2.2.1.mem hm
      rw [he3] at e'; cases e'
      exact hnf _ hd3
    have nL : a ≠ X.env.locals := fun z => nfr (List.mem_filterMap.mpr ⟨X.env, List.mem_cons_self, by rw [hf, z]⟩)
    have nF : a ∉ X.fs := fun hm => by
      obtain ⟨e, he, q⟩ := List.mem_filterMap.mp hm
      exact nfr (List.mem_filterMap.mpr ⟨e, List.mem_cons_of_mem _ he, q⟩)
    have S3 := J3.suite he3 hd3 na nL nF
    obtain ⟨hb1, hyes⟩ := w
    refine wpAny_handleBy_cons (codeAny_handlers_test ?_) (by intro q; cases q)
    have test : ∀ {x : Str} {np : Pos} {c : Value} (hc : Names X x c) {Q : Value → Shared → Prop} {E : Value → Shared → Prop}, Q c { s' with heap := h3 } → wpAny (model X.prog X.w) (X.A.mark (some (.ref a))) (eval (.Name x np) X.env) Q E { s' with heap := h3 } := fun {x np c} hc {Q E} q => by
      obtain ⟨hg, hdbg, hm | ⟨hm, hv, hnn⟩⟩ := hc
      · exact ld_glob (X := X.suite a ((a, oe3) :: (X.pn ++ pins))) S3 hg hm q hdbg
      · exact ld_blt (X := X.suite a ((a, oe3) :: (X.pn ++ pins))) S3 hg hm hv q hnn hdbg
    refine Tuple_ (spliced_more (test hc1 (spliced_more (test hc2 (spliced_none ?_)))))
    refine wpAny_newObj_type ?_
    generalize hh3 : h3.push { cls := .type "tuple", data := .seq [c1, c2].toArray } = h3'
    have he3' : h3'.get? a = some oe3 := by rw [← hh3]; exact Heap.get?_push_of_some _ he3
    have LT : PySem.W.Looks (model X.prog X.w) h3' (typeOf (.ref a)) cls := fun A Q E s k q => wpAny_typeOf_ref (k _ _ he3') (by rw [hz3.1]; exact q)
    have fl3' : HandSPX.FlyingZ B (X.env :: X.outer) a (Zc cls d) h3' := by rw [← hh3]; exact fly_push _ fl3
    have up3' : h3.UpToSlots h3' := by rw [← hh3]; exact Heap.UpToSlots.of_keeps fun b o e => Heap.get?_push_of_some _ e
    have J3' : Inv X pins σ' H' { s' with heap := h3' } := J.landed nb fl3'.1 ((up.trans up3).trans up3') os ag
    have LM := PySem.W.exm_tup2 (M := model X.prog X.w) (tp := h3.objs.size) (J3'.kIn) LT (by rw [← hh3]; exact Heap.get?_push_size _ rfl) hb1
    refine LM.here ?_
    refine codeAny_handlers_suite_as ?_
    refine HandSPX.lands_againZ fl3' fun h4 fl4 up4 => ?_
    have J4 : Inv X pins σ' H' { s' with heap := h4 } := J.landed nb fl4.1 (((up.trans up3).trans up3').trans up4) os ag
    obtain ⟨oe4, vs4, he4, hz4, hd4⟩ := fl4.there
    have S4 := J4.suite he4 hd4 na nL nF
    refine store_ok (X := X.suite a ((a, oe4) :: (X.pn ++ pins))) (v := .ref a) S4 hN hi (.inl hln) rfl (fun s5 S5 => ?_) (.inr hln)
    refine wpAny_mono ((hsu a oe4 cls d (X.pn ++ pins) hz4 ⟨_, hd4⟩).run [] s5 _ H' _ S5 (hyes a na)) (fun f s6 hsp => ?_) (fun _ _ z => False.elim z)
    have end_ : ∀ {σ6 : L2.St} {H6 : Hp} {Q : Shared → Prop}, Inv (X.suite a ((a, oe4) :: (X.pn ++ pins))) [] σ6 H6 s6 → (∀ s7, Inv X pins (σ6.set i none) H6 s7 → Q s7) →
        wpAny (model X.prog X.w) X.A (do bindName X.env n .none; unbindBehindTheSuite X.env n pos') (fun _ s7 => Q s7) X.xe s6 := fun {σ6 H6 Q} S6 hq => gone_ok (S6.unsuite ok) hN hi hln hq
    cases f with
    | next =>
      obtain ⟨σ6, H6, S6, q6⟩ := hsp
      exact end_ S6 fun s7 J7 => ⟨_, _, J7, q6⟩
    | brk =>
      obtain ⟨σ6, H6, S6, q6⟩ := hsp
      exact end_ S6 fun s7 J7 => ⟨_, _, J7, q6⟩
    | cont =>
      obtain ⟨σ6, H6, S6, q6⟩ := hsp
      exact end_ S6 fun s7 J7 => ⟨_, _, J7, q6⟩
    | ret u =>
      obtain ⟨v6, σ6, H6, S6, r6, q6⟩ := hsp
      exact end_ S6 fun s7 J7 => ⟨_, _, _, J7, r6, q6⟩
  · cases f with
    | next =>
      obtain ⟨σ', H', J', q⟩ := hsp
      exact wpAny_execs_nil ⟨σ', H', J'.ofTry ok, q⟩
    | brk =>
      obtain ⟨σ', H', J', q⟩ := hsp
      exact ⟨σ', H', J'.ofTry ok, q⟩
    | cont =>
      obtain ⟨σ', H', J', q⟩ := hsp
      exact ⟨σ', H', J'.ofTry ok, q⟩
    | ret u =>
      obtain ⟨v, σ', H', J', r, q⟩ := hsp
      exact ⟨v, σ', H', J'.ofTry ok, r, q⟩
/-! ### a suite that reads a name besides -/
abbrev XmR := Nat → Rho → Option V
def rdXR (cv : Nat → Value) (m : XmR) (c i : Nat) (a : Addr) : TE := fun σ H Q => σ[i]? = some (some (.ref a)) ∧ ∃ ρ F, Rel cv ρ σ F H ∧ ∃ v, m c ρ = some v ∧ ∀ F' H', Evo F H F' H' → Q v H'
def rdXTR (cv : Nat → Value) (m : XmR) (c i : Nat) (a : Addr) : TT := fun σ H Q => σ[i]? = some (some (.ref a)) ∧ ∃ ρ F, Rel cv ρ σ F H ∧ ∃ b, m c ρ = some (.bl b) ∧ ∀ F' H', Evo F H F' H' → Q b H'
def JXR (X : Cx) (cv : Nat → Value) (n : List Nat) (i : Nat) (e : Expr) (m : XmR) : Prop := ∀ (a : Addr) (oe : Obj) (c : Nat) (pn : List (Addr × Obj)), c ∈ n → Zc (cv c) none oe → (∃ vs, oe.data = .fields vs) → PE (X.suite a ((a, oe) :: pn)) e (rdXR cv m c i a)
def JXTR (X : Cx) (cv : Nat → Value) (n : List Nat) (i : Nat) (e : Expr) (m : XmR) : Prop := ∀ (a : Addr) (oe : Obj) (c : Nat) (pn : List (Addr × Obj)), c ∈ n → Zc (cv c) none oe → (∃ vs, oe.data = .fields vs) → PT (X.suite a ((a, oe) :: pn)) e (rdXTR cv m c i a)
def rC (m : Xm) : XmR := fun c _ => m c
def rNm (j : Nat) (t : Str) : XmR := fun _ ρ => match ρ[j]? with
  | some (.fr d) => (match gEq d (.str t) with
    | .ok (.bool b) => some (.bl b)
    | _ => none)
  | _ => none
def rEq (ma mb : XmR) : XmR := fun c ρ => match ma c ρ, mb c ρ with
  | some (.bl p), some (.bl q) => some (.bl (p == q))
  | _, _ => none
def rAnd (ma mb : XmR) : XmR := fun c ρ => match ma c ρ with
  | some (.bl true) => mb c ρ
  | some (.bl false) => some (.bl false)
  | _ => none
def rIf (mt ma mb : XmR) : XmR := fun c ρ => match mt c ρ with
  | some (.bl true) => ma c ρ
  | some (.bl false) => mb c ρ
  | _ => none
section
variable {X : Cx} {cv : Nat → Value} {n : List Nat} {i : Nat} {e a b t : Expr} {ma mb mt : XmR} {m : Xm} {pos p px : Pos}
theorem jr_of (h : JX X cv n i e m) : JXR X cv n i e (rC m) := fun a oe c pn hc hz hf => PE.imp (h a oe c pn hc hz hf) fun σ H Q ⟨hs, ρ, F, r, v, hv, q⟩ => ⟨hs, v, hv, q F H (Evo.refl r.le)⟩
theorem jrt_of (h : JXT X cv n i e m) : JXTR X cv n i e (rC m) := fun a oe c pn hc hz hf => PT.imp (h a oe c pn hc hz hf) fun σ H Q ⟨hs, ρ, F, r, v, hv, q⟩ => ⟨hs, v, hv, q F H (Evo.refl r.le)⟩
theorem jr_nm {j k : Nat} {x s : Str} (hu : X.A.units + 64 < cLine) (hN : X.N[j]? = some x) (hv : Vis X.env.scope x) (hd : (x == ("__debug__" : Str)) = false) (hcd : (x == ("__classdict__" : Str)) = false) :
    JXR X cv n i (.Compare (.Name x px) [.Eq] [.Constant (.str s) k p] pos) (rNm j s) := fun a oe c pn hc hz hf =>
  PE.imp (pe_cmpR (X := X.suite a ((a, oe) :: pn)) (o_eq (X := X.suite a ((a, oe) :: pn)) hu) (pe_var (X := X.suite a ((a, oe) :: pn)) hN hv hd hcd) pe_str rfl) fun σ H Q ⟨hs, ρ, F, r, v, hm, q⟩ => by
    unfold rNm at hm
    split at hm
    · rename_i d hj
      split at hm
      · rename_i b hg
        cases hm
        obtain ⟨v, h1, h2⟩ := r.cell _ _ hj
        refine ⟨v, h1, F, d, .str s, r.le, .inl h2, .inl (.str s), ?_⟩
        rw [hg]
        exact fun v' F' H' ev hd' => by cases hd'; exact q F' H' ev
      · cases hm
    · cases hm
theorem eq_bl (p q : Bool) : gEq (.bool p) (.bool q) = .ok (.bool (p == q)) := by cases p <;> cases q <;> rfl
theorem jrt_eq (hu : X.A.units + 64 < cLine) (ha : JXR X cv n i a ma) (hb : JXR X cv n i b mb) (hm : behindInMarks .Eq b = false) : JXTR X cv n i (.Compare a [.Eq] [b] pos) (rEq ma mb) := fun ad oe c pn hc hz hf =>
  PT.imp (pt_cmpR (X := X.suite ad ((ad, oe) :: pn)) (o_eq (X := X.suite ad ((ad, oe) :: pn)) hu) (ha ad oe c pn hc hz hf) (hb ad oe c pn hc hz hf) hm) fun σ H Q ⟨hs, ρ, F, r, k, hk, q⟩ => by
    unfold rEq at hk
    split at hk
    · rename_i x y h1 h2
      cases hk
      refine ⟨hs, ρ, F, r, _, h1, fun F1 H1 ev1 => ⟨hs, ρ, F1, r.evo ev1, _, h2, fun F2 H2 ev2 => ⟨F2, .bool x, .bool y, ev2.le, .inl (.bl x), .inl (.bl y), ?_⟩⟩⟩
      rw [eq_bl]
      exact fun v' F' H' ev hd' => by cases hd'; exact ⟨_, rfl, q F' H' ((ev1.trans ev2).trans ev)⟩
    · cases hk
theorem jrt_and (ha : JXTR X cv n i a ma) (hb : JXTR X cv n i b mb) : JXTR X cv n i (.BoolOp .And [a, b] pos) (rAnd ma mb) := fun ad oe c pn hc hz hf => by
  have h : PW (X.suite ad ((ad, oe) :: pn)) (.BoolOp .And [a, b] pos) _ := pw_and (ha ad oe c pn hc hz hf) (pw_and1 (hb ad oe c pn hc hz hf))
  refine PT.imp (PW.pt h) fun σ H Q ⟨hs, ρ, F, r, k, hk, q⟩ => ?_
  unfold rAnd at hk
  split at hk
  · rename_i h1
    exact ⟨hs, ρ, F, r, true, h1, fun F1 H1 ev1 => ⟨hs, ρ, F1, r.evo ev1, k, hk, fun F2 H2 ev2 => q F2 H2 (ev1.trans ev2)⟩⟩
  · rename_i h1
    cases hk
    exact ⟨hs, ρ, F, r, false, h1, fun F1 H1 ev1 => q F1 H1 ev1⟩
  · cases hk
theorem jr_if (ht : JXTR X cv n i t mt) (ha : JXR X cv n i a ma) (hb : JXR X cv n i b mb) : JXR X cv n i (.IfExp t a b pos) (rIf mt ma mb) := fun ad oe c pn hc hz hf =>
  PE.imp (pe_ifExp (ht ad oe c pn hc hz hf) (ha ad oe c pn hc hz hf) (hb ad oe c pn hc hz hf)) fun σ H Q ⟨hs, ρ, F, r, v, hv, q⟩ => by
    unfold rIf at hv
    split at hv
    · rename_i h1
      exact ⟨hs, ρ, F, r, true, h1, fun F1 H1 ev1 => ⟨hs, ρ, F1, r.evo ev1, v, hv, fun F2 H2 ev2 => q F2 H2 (ev1.trans ev2)⟩⟩
    · rename_i h1
      exact ⟨hs, ρ, F, r, false, h1, fun F1 H1 ev1 => ⟨hs, ρ, F1, r.evo ev1, v, hv, fun F2 H2 ev2 => q F2 H2 (ev1.trans ev2)⟩⟩
    · cases hv
end
def sTryN (sub : Nat → Nat → Bool) (n : List Nat) (body : Ss) (k1 k2 i : Nat) (m : XmR) : Ss := fun ρ => match body ρ with
  | .ex c ρ' => if (sub c k1 || sub c k2) = true then (match (m c (ρ'.set i .un)).bind vD with
    | some d => if c ∈ n ∧ i < ρ'.length then .rt d else .bad
    | none => .bad) else .bad
  | f => f
theorem js_tryN {X : Cx} {cv : Nat → Value} {W : WX} {sub : Nat → Nat → Bool} {n : List Nat} {body : List Stmt} {mb : Ss} {k1 k2 i kk : Nat} {x1 x2 nm : Str} {e : Expr} {m : XmR} {np1 np2 tpos rp pos' pos : Pos} (hs : X.stack = X.env :: X.outer) (hf : X.env.frame = some X.env.locals) (hN : X.N.Nodup) (C : Clss X.K cv sub n)
    (hb : ∀ (W : WX) (pn : List (Addr × Obj)) (xe : Value → Shared → Prop), Takes (X.tr pn xe) W → PassesOwn (model X.prog X.w) X.A X.env xe → JFs (X.tr pn xe) cv W body mb) (hk1 : k1 ∈ n) (hk2 : k2 ∈ n) (hc1 : Names X x1 (cv k1)) (hc2 : Names X x2 (cv k2)) (hi : X.N[i]? = some nm) (hln : X.env.kindOf nm = some .local) (he : JXR X cv n i e m) :
    JF X cv W (.Try body [.ExceptHandler (some (.Tuple [.Name x1 np1, .Name x2 np2] kk tpos)) (some nm) [.Return (some e) rp] pos'] [] [] pos) (sTryN sub n mb k1 k2 i m) := fun B => by
  let ts : Addr → Value → Option Addr → TS := fun a cls d Dn σ H => ∃ c v ρ F, cls = cv c ∧ d = none ∧ c ∈ n ∧ σ[i]? = some (some (.ref a)) ∧ Rel cv ρ σ F H ∧ m c ρ = some v ∧ ∀ F' H', Evo F H F' H' → Dn.rt v H'
  refine PS.imp (ps_try_tup (ts := ts) (tb := fun W => rdF cv W B mb) hs hf hN (fun W pn xe t po => hb W pn xe t po B) hc1 hc2 hi hln fun a oe cls d pn hz hfl => ⟨fun pins s σ H Dn I ⟨c, v, ρ, F, e1, e2, hcn, hs, r, hm, hq⟩ => ?_⟩) fun Dn σ H ⟨ρ, F, r, q⟩ => ⟨ρ, F, r, ?_⟩
  · subst e1 e2
    exact (pss_one (ps_ret (he a oe c pn hcn hz hfl))).run pins s σ H Dn I ⟨hs, ρ, F, r, v, hm, hq⟩
  unfold sTryN at q
  cases h : mb ρ with
  | nx ρ' => rw [h] at q; exact q
  | rt d => rw [h] at q; exact q
  | rn d => rw [h] at q; exact q
  | rm d ρ' => rw [h] at q; exact q
  | rb k fs => rw [h] at q; exact q
  | bad => rw [h] at q; exact q
  | ex c ρ' =>
    rw [h] at q
    simp only at q
    intro σ' F' H' r'
    split at q
    case isFalse => exact q.elim
    rename_i hsub
    cases hm : m c (ρ'.set i .un) with
    | none => rw [hm] at q; exact q.elim
    | some v =>
      rw [hm] at q
      simp only [Option.bind_some] at q
      cases hv : vD v with
      | none => rw [hv] at q; exact q.elim
      | some d =>
        rw [hv] at q
        simp only at q
        split at q
        case isFalse => exact q.elim
        rename_i hz
        obtain ⟨hcn, hil⟩ := hz
        have hil' : i < σ'.length := by rw [← r'.rel.len]; exact hil
        refine ⟨?_, fun a ha => ⟨c, v, ρ'.set i .un, F', rfl, rfl, hcn, by rw [set_get, if_pos ⟨rfl, hil'⟩], (r'.un i _).rel, hm, fun F2 H2 ev => q v F2 H2 (r'.evo.trans ev) (vD_dr hv F2)⟩⟩
        have z1 := (C.is c k1 hcn hk1).2
        have z2 := (C.is c k2 hcn hk2).2
        simp only [PySem.W.exmAny, z1, z2, Bool.or_false, hsub]
/-! ### the translator -/
variable {S : S0}
def call0Of (sc : Scope) : (e : Expr) → Option (OkE S sc e)
  | .Call (.Name x p) [] [] pos => if hg : glB sc x = true then
      match hf : S.fns.find? (fun q => q.1 == x) with
      | some q => if hn : q.2.1 = 0 then some ⟨eF0 q.2.2, [], fun cv X W g h => by
          have hx : q.1 = x := by simpa using List.find?_some hf
          have F := g.fn q (List.mem_of_find?_eq_some hf)
          rw [hx, hn] at F
          exact j_callZ F g.room (Gd.gl (cv := cv) (W := W) h hg) (gl_of hg).2⟩ else none
      | none => none
    else none
  | _ => none
def stepEY (r : TR S) (sc : Scope) (e : Expr) : Option (OkE S sc e) := match call0Of sc e with
  | some x => some x
  | none => stepEZ r sc e
def clsOf (S : S0) (sc : Scope) (x : Str) : Option { k : Nat // k ∈ S.nc ∧ ∀ cv X W, Gd S cv X W → X.env.scope = sc → Names X x (cv k) } := match hf : S.cls.find? (fun q => q.1 == x) with
  | none => none
  | some q => if hz : q.2 ∈ S.nc ∧ glB sc x = true then some ⟨q.2, hz.1, fun cv X W g h => by
      obtain ⟨C, h1, h2⟩ := g.cls q (List.mem_of_find?_eq_some hf)
      have hx : q.1 = x := by simpa using List.find?_some hf
      rw [hx] at h2
      exact ⟨Gd.gl (cv := cv) (W := W) h hz.2, (gl_of hz.2).2, .inl (by rw [h1]; exact h2.gl)⟩⟩ else none
def tryNOf (t : TS0 S) (sc : Scope) : (st : Stmt) → Option (OkS S sc st)
  | .Try body [.ExceptHandler (some (.Tuple [.Name x1 np1, .Name x2 np2] kk tpos)) (some nm) [.Return (some (.IfExp (.BoolOp .And [e1, .Compare e2 [.Eq] [.Compare (.Name y py) [.Eq] [.Constant (.str s) k p2] p3] p4] p5) ea eb p6)) rp] pos'] [] [] pos =>
      let i := S.N.findIdx (· == nm)
      (ssOf t sc body).bind fun b => (clsOf S sc x1).bind fun c1 => (clsOf S sc x2).bind fun c2 => (xtOf S sc i 12 e1).bind fun m1 => (xOf S sc i 12 e2).bind fun m2 => (slotOf S sc y).bind fun j => (xOf S sc i 12 ea).bind fun ma => (xOf S sc i 12 eb).bind fun mb =>
        if hz : S.N[i]? = some nm ∧ isLocB sc nm = true then some ⟨sTryN S.sub S.nc b.m c1.1 c2.1 i (rIf (rAnd (rC m1.m) (rEq (rC m2.m) (rNm j.1 s))) (rC ma.m) (rC mb.m)), fun cv X W g gx h => by
          refine js_tryN gx.stk gx.fr g.nd gx.cl (fun W' pn xe tk po => b.ok cv _ W' (g.tr pn xe tk) ⟨gx.fnT, po, gx.stk, gx.fr, gx.cl⟩ h) c1.2.1 c2.2.1 (c1.2.2 cv X W g h) (c2.2.2 cv X W g h) (by rw [g.nN]; exact hz.1) (by unfold PySem.Env.kindOf; rw [h]; exact isLoc_of hz.2) ?_
          exact jr_if (jrt_and (jrt_of (m1.ok cv X W g gx h)) (jrt_eq (by have := g.hu; omega) (jr_of (m2.ok cv X W g gx h)) (jr_nm (by have := g.hu; omega) (by rw [g.nN]; exact j.2.1) (by rw [h]; exact j.2.2.1) j.2.2.2.1 j.2.2.2.2) rfl)) (jr_of (ma.ok cv X W g gx h)) (jr_of (mb.ok cv X W g gx h))⟩ else none
  | _ => none
def stepY (r : TR S) (t : TS0 S) (sc : Scope) (st : Stmt) : Option (OkS S sc st) := match tryNOf t sc st with
  | some x => some x
  | none => stepZ r t sc st
end U
set_option Elab.async false
set_option linter.all false
set_option maxRecDepth 100000
set_option maxHeartbeats 4000000
namespace U
open PySem PySem.Spec PyProof.Rows L2
/-! ### fields of objects -/
theorem zip_look : ∀ {ns : List Str} {vs : List V} {j : Nat} {f : Str}, ns.findIdx (· == f) = j → ns[j]? = some f → vs.length = ns.length → (ns.zip vs).lookup f = vs[j]?
  | [], [], _, _, _, h, _ => by simp at h
  | n :: ns, v :: vs, j, f, h1, h2, hl => by
    rw [List.zip_cons_cons, List.lookup_cons]
    rw [List.findIdx_cons] at h1
    by_cases e : n = f
    · subst e
      simp at h1 ⊢
      subst h1
      rfl
    · have e1 : (n == f) = false := by simpa using e
      have e2 : (f == n) = false := by simpa using fun z => e z.symm
      rw [e1] at h1
      rw [e2]
      simp only [cond_false] at h1
      subst h1
      simp only
      exact zip_look rfl (by simpa using h2) (by simpa using hl)
theorem zip_put : ∀ {ns : List Str} {vs : List V} {j : Nat} {f : Str} {y : V}, ns.findIdx (· == f) = j → ns[j]? = some f → vs.length = ns.length → putF f y (ns.zip vs) = ns.zip (vs.set j y)
  | [], [], _, _, _, _, h, _ => by simp at h
  | n :: ns, v :: vs, j, f, y, h1, h2, hl => by
    rw [List.zip_cons_cons]
    rw [List.findIdx_cons] at h1
    by_cases e : n = f
    · subst e
      simp at h1
      subst h1
      simp [putF]
    · have e1 : (n == f) = false := by simpa using e
      rw [e1] at h1
      simp only [cond_false] at h1
      subst h1
      simp only [putF, if_neg e, List.set_cons_succ, List.zip_cons_cons]
      rw [zip_put rfl (by simpa using h2) (by simpa using hl)]
theorem zip_none : ∀ {ns : List Str} {vs : List V} {f : Str}, f ∉ ns → (ns.zip vs).lookup f = none
  | [], _, _, _ => by simp
  | _ :: _, [], _, _ => by simp
  | n :: ns, v :: vs, f, h => by
    rw [List.zip_cons_cons, List.lookup_cons]
    have e2 : (f == n) = false := by simpa using fun z => h (by simp [z])
    rw [e2]
    exact zip_none fun z => h (List.mem_cons_of_mem _ z)
theorem fds_get {F H : Hp} : ∀ {vs : List V} {fs : List Fd} {j : Nat} {f : Fd}, FdsOk F H vs fs → fs[j]? = some f → ∃ v, vs[j]? = some v ∧ FdOk F H v f
  | _, _, _, _, .nil, h => by simp at h
  | _, _, 0, _, .cons h hs, e => by simp at e; subst e; exact ⟨_, rfl, h⟩
  | _, _, j + 1, _, .cons h hs, e => by
    obtain ⟨v, h1, h2⟩ := fds_get (j := j) hs (by simpa using e)
    exact ⟨v, by simpa using h1, h2⟩
theorem fds_set {F H : Hp} {y : V} {g : Fd} (h : FdOk F H y g) : ∀ {vs : List V} {fs : List Fd} (j : Nat), FdsOk F H vs fs → FdsOk F H (vs.set j y) (fs.set j g)
  | _, _, _, .nil => .nil
  | _, _, 0, .cons _ hs => .cons h hs
  | _, _, j + 1, .cons h' hs => .cons h' (fds_set h j hs)
def ow1 : V → Fd → List Addr
  | .ref p, .ow _ => [p]
  | _, _ => []
theorem ownV_cons (v : V) (f : Fd) (vs : List V) (fs : List Fd) : ownV (v :: vs) (f :: fs) = ow1 v f ++ ownV vs fs := by
  cases f <;> cases v <;> rfl
theorem own_set_mem {y : V} {g : Fd} : ∀ {vs : List V} {fs : List Fd} {j : Nat} {p : Addr}, p ∈ ownV (vs.set j y) (fs.set j g) → p ∈ ownV vs fs ∨ p ∈ ow1 y g
  | [], _, _, _, h => by simp [ownV] at h
  | _ :: _, [], _, _, h => by
    rename_i j p
    cases j <;> simp [ownV] at h
  | v :: vs, f :: fs, 0, p, h => by
    simp only [List.set_cons_zero, ownV_cons, List.mem_append] at h ⊢
    rcases h with h | h
    · exact .inr h
    · exact .inl (.inr h)
  | v :: vs, f :: fs, j + 1, p, h => by
    simp only [List.set_cons_succ, ownV_cons, List.mem_append] at h ⊢
    rcases h with h | h
    · exact .inl (.inl h)
    · rcases own_set_mem h with h | h
      · exact .inl (.inr h)
      · exact .inr h
theorem ow1_nodup (y : V) (g : Fd) : (ow1 y g).Nodup := by
  cases g <;> cases y <;> simp [ow1]
theorem own_set_nodup {y : V} {g : Fd} : ∀ {vs : List V} {fs : List Fd} {j : Nat}, (ownV vs fs).Nodup → (∀ p ∈ ow1 y g, p ∉ ownV vs fs) → (ownV (vs.set j y) (fs.set j g)).Nodup
  | [], _, _, _, _ => by simp [ownV]
  | _ :: _, [], j, _, _ => by cases j <;> simp [ownV]
  | v :: vs, f :: fs, 0, h, k => by
    simp only [List.set_cons_zero, ownV_cons] at h k ⊢
    refine List.nodup_append.mpr ⟨ow1_nodup y g, (List.nodup_append.mp h).2.1, fun p hp q hq e => ?_⟩
    subst e
    exact k p hp (List.mem_append_right _ hq)
  | v :: vs, f :: fs, j + 1, h, k => by
    simp only [List.set_cons_succ, ownV_cons] at h k ⊢
    obtain ⟨h1, h2, h3⟩ := List.nodup_append.mp h
    refine List.nodup_append.mpr ⟨h1, own_set_nodup h2 fun p hp hq => k p hp (List.mem_append_right _ hq), fun p hp q hq e => ?_⟩
    subst e
    rcases own_set_mem hq with z | z
    · exact h3 p hp p z rfl
    · exact k p z (List.mem_append_left _ hp)
/-- the list of one field is changed -/
theorem fds_item {F H : Hp} {p : Addr} {ys : List V} {es : List D} (hd : DrAll F ys es) : ∀ {vs : List V} {fs : List Fd} {j : Nat} {ds : List D}, FdsOk F H vs fs → (ownV vs fs).Nodup → fs[j]? = some (.ow ds) → vs[j]? = some (.ref p) → FdsOk F (upd H p (.lst ys)) vs (fs.set j (.ow es)) ∧ ownV vs (fs.set j (.ow es)) = ownV vs fs ∧ p ∈ ownV vs fs
  | _, _, _, _, .nil, _, h, _ => by simp at h
  | v :: vs, f :: fs, 0, ds, .cons h hs, nd, e1, e2 => by
    simp at e1 e2
    subst e1 e2
    obtain ⟨q, xs, e, h2, h3, h4⟩ := h
    cases e
    have nd' : (p :: ownV vs fs).Nodup := nd
    exact ⟨.cons ⟨p, ys, rfl, upd_same, h3, hd⟩ (hs.mut (List.nodup_cons.mp nd').1), rfl, List.mem_cons_self⟩
  | v :: vs, f :: fs, j + 1, ds, .cons h hs, nd, e1, e2 => by
    rw [ownV_cons] at nd
    obtain ⟨n1, n2, n3⟩ := List.nodup_append.mp nd
    obtain ⟨a1, a2, a3⟩ := fds_item hd (j := j) hs n2 (by simpa using e1) (by simpa using e2)
    have hv : FdOk F (upd H p (.lst ys)) v f := by
      cases f with
      | fr d => exact h
      | ow d =>
        obtain ⟨q, xs, e, h2, h3, h4⟩ := h
        subst e
        have : q ≠ p := fun z => n3 q (by simp [ow1]) p a3 z
        exact ⟨q, xs, rfl, by rw [upd_ne this]; exact h2, h3, h4⟩
    refine ⟨.cons hv a1, ?_, ?_⟩
    · rw [List.set_cons_succ, ownV_cons, ownV_cons, a2]
    · rw [ownV_cons]; exact List.mem_append_right _ a3
/-! ### the heap without some addresses -/
def wo (H : Hp) (l : List Addr) : Hp := fun b => if b ∈ l then none else H b
theorem wo_in {H : Hp} {l : List Addr} {b : Addr} (h : b ∈ l) : wo H l b = none := by unfold wo; rw [if_pos h]
theorem wo_out {H : Hp} {l : List Addr} {b : Addr} (h : b ∉ l) : wo H l b = H b := by unfold wo; rw [if_neg h]
theorem wo_some {H : Hp} {l : List Addr} {b : Addr} {o : HO} (h : wo H l b = some o) : b ∉ l ∧ H b = some o := by
  unfold wo at h
  split at h
  · cases h
  · rename_i z; exact ⟨z, h⟩
theorem wo_none {H : Hp} {l : List Addr} {b : Addr} (h : wo H l b = none) : b ∈ l ∨ H b = none := by
  unfold wo at h
  split at h
  · rename_i z; exact .inl z
  · exact .inr h
theorem FdsOk.evoW {F H F' H' : Hp} {l : List Addr} (e : Evo F (wo H l) F' H') : ∀ {vs : List V} {fs : List Fd}, FdsOk F H vs fs → (∀ p ∈ ownV vs fs, p ∉ l) → FdsOk F' H' vs fs
  | _, _, .nil, _ => .nil
  | v :: vs, .fr d :: fs, .cons h hs, n => .cons (dp_mono e.ex h) (FdsOk.evoW e hs fun p hp => n p (by cases v <;> exact hp))
  | v :: vs, .ow ds :: fs, .cons ⟨p, xs, e1, h2, h3, h4⟩ hs, n => by
    subst e1
    have np : p ∉ l := n p List.mem_cons_self
    have hw : wo H l p = some (.lst xs) := by rw [wo_out np]; exact h2
    refine .cons ⟨p, xs, rfl, e.hx _ _ hw, own_not e h3 hw, dps_mono e.ex h4⟩ (FdsOk.evoW e hs fun p hp => n p (List.mem_cons_of_mem _ hp))
theorem CellOk.evoW {cv : Nat → Value} {F H F' H' : Hp} {l : List Addr} {ov : Option (Option V)} {c : Cell} (e : Evo F (wo H l) F' H') (h : CellOk cv F H ov c) (n : ∀ p ∈ owL H ov c, p ∉ l) : CellOk cv F' H' ov c ∧ owL H' ov c = owL H ov c := by
  cases c with
  | un => exact ⟨trivial, rfl⟩
  | fr d => obtain ⟨v, h1, h2⟩ := h; exact ⟨⟨v, h1, dp_mono e.ex h2⟩, rfl⟩
  | ow ds =>
    obtain ⟨p, xs, h1, h2, h3, h4⟩ := h
    subst h1
    have np : p ∉ l := n p (by simp)
    have hw : wo H l p = some (.lst xs) := by rw [wo_out np]; exact h2
    exact ⟨⟨p, xs, rfl, e.hx _ _ hw, own_not e h3 hw, dps_mono e.ex h4⟩, rfl⟩
  | ob k fs =>
    obtain ⟨a, C, dx, vs, h1, h2, h3, h4, hl, h5, h6⟩ := h
    subst h1
    rw [owL_ob h3 hl] at n
    have na : a ∉ l := n a List.mem_cons_self
    have hw : wo H l a = some (.ins C dx ((flN k).zip vs)) := by rw [wo_out na]; exact h3
    have h3' := e.hx _ _ hw
    refine ⟨⟨a, C, dx, vs, rfl, h2, h3', own_not e h4 hw, hl, h5.evoW e fun p hp => n p (List.mem_cons_of_mem _ hp), h6⟩, ?_⟩
    rw [owL_ob h3 hl, owL_ob h3' hl]
  | ro k fs =>
    obtain ⟨a, C, dx, vs, h1, h2, h3, hl, h4⟩ := h
    exact ⟨⟨a, C, dx, vs, h1, h2, e.ex _ _ h3, hl, dps_mono e.ex h4⟩, rfl⟩
/-- the object of a slot has changed, and nothing else that was there -/
theorem RelB.obj {cv : Nat → Value} {B : Bb} {ρ : Rho} {σ : L2.St} {F H F' H' : Hp} {i k : Nat} {fs fs' : List Fd} {a C dx dx' : Addr} {vs vs' : List V} (r : RelB cv B ρ σ F H) (h : ρ[i]? = some (.ob k fs)) (hs : σ[i]? = some (some (.ref a))) (hC : cv k = .ref C) (hH : H a = some (.ins C dx ((flN k).zip vs))) (hl : vs.length = (flN k).length)
    (ev : Evo F (wo H (a :: ownV vs fs)) F' H') (hH' : H' a = some (.ins C dx' ((flN k).zip vs'))) (hF' : F' a = none) (hl' : vs'.length = (flN k).length) (hf : FdsOk F' H' vs' fs') (hn : (ownV vs' fs').Nodup) (hp : ∀ p ∈ ownV vs' fs', wo H (a :: ownV vs fs) p = none) : RelB cv B (ρ.set i (.ob k fs')) σ F' H' := by
  have ol : owL H σ[i]? (.ob k fs) = a :: ownV vs fs := by rw [hs]; exact owL_ob hH hl
  have ol' : owL H' σ[i]? (.ob k fs') = a :: ownV vs' fs' := by rw [hs]; exact owL_ob hH' hl'
  have hi : i < ρ.length := (List.getElem?_eq_some_iff.mp h).1
  have nw : ∀ p ∈ a :: ownV vs' fs', wo H (a :: ownV vs fs) p = none := fun p q => by
    rcases List.mem_cons.mp q with e | e
    · rw [e]; exact wo_in List.mem_cons_self
    · exact hp p e
  have oth : ∀ j c, ρ[j]? = some c → j ≠ i → CellOk cv F' H' σ[j]? c ∧ owL H' σ[j]? c = owL H σ[j]? c := fun j c e ne =>
    (r.rel.cell j c e).evoW ev fun p hp z => ne (r.rel.apart j i c _ p e h hp (by rw [ol]; exact z))
  have bB : ∀ p, wo H (a :: ownV vs fs) p = none → B.2 p = none := fun p z => by
    rcases wo_none z with z | z
    · exact r.own i _ p h (by rw [ol]; exact z)
    · exact none_back r.evo.hx z
  have cut : ∀ j c, (ρ.set i (.ob k fs'))[j]? = some c → (j = i ∧ c = .ob k fs') ∨ (j ≠ i ∧ ρ[j]? = some c) := fun j c e => by
    rw [set_get] at e
    split at e
    · rename_i hz; cases e; exact .inl ⟨hz.1.symm, rfl⟩
    · rename_i hz
      exact .inr ⟨fun z => hz ⟨z.symm, by rw [z]; exact hi⟩, e⟩
  have oneW : ∀ j c p, ρ[j]? = some c → j ≠ i → p ∈ owL H' σ[j]? c → wo H (a :: ownV vs fs) p ≠ none := fun j c p e ne m z => by
    rw [(oth j c e ne).2] at m
    rcases wo_none z with z | z
    · exact ne (r.rel.apart j i c _ p e h m (by rw [ol]; exact z))
    · obtain ⟨_, o, q⟩ := owL_at (r.rel.cell j c e) m
      rw [z] at q; cases q
  refine ⟨⟨by simp [r.rel.len], ev.le, fun j c e => ?_, fun j j' c c' p e1 e2 e3 e4 => ?_⟩, ⟨r.evo.ex.trans ev.ex, fun b o q => ?_, ev.le, fun b o q => ?_⟩, fun j c p e1 e2 => ?_, fun a' k' fs0 h3 e => ?_⟩
  · rcases cut j c e with ⟨rfl, rfl⟩ | ⟨ne, e⟩
    · exact ⟨a, C, dx', vs', hs, hC, hH', hF', hl', hf, hn⟩
    · exact (oth j c e ne).1
  · rcases cut j c e1 with ⟨z1, z2⟩ | ⟨ne, f1⟩ <;> rcases cut j' c' e2 with ⟨z3, z4⟩ | ⟨ne', f2⟩
    · rw [z1, z3]
    · rw [z1, z2] at e3
      exact absurd (nw p (by rw [← ol']; exact e3)) (oneW j' c' p f2 ne' e4)
    · rw [z3, z4] at e4
      exact absurd (nw p (by rw [← ol']; exact e4)) (oneW j c p f1 ne e3)
    · rw [(oth j c f1 ne).2] at e3
      rw [(oth j' c' f2 ne').2] at e4
      exact r.rel.apart j j' c c' p f1 f2 e3 e4
  · refine ev.hx b o ?_
    have : b ∉ a :: ownV vs fs := fun z => by
      have := r.own i _ b h (by rw [ol]; exact z)
      rw [this] at q; cases q
    rw [wo_out this]
    exact r.evo.hx b o q
  · rcases ev.new b o q with z | z
    · exact r.evo.new b o z
    · exact .inr (bB b z)
  · rcases cut j c e1 with ⟨rfl, rfl⟩ | ⟨ne, e1⟩
    · exact bB p (nw p (by rw [← ol']; exact e2))
    · rw [(oth j c e1 ne).2] at e2
      exact r.own j c p e1 e2
  · rcases cut 0 _ e with ⟨e0, _⟩ | ⟨_, e⟩
    · subst e0
      exact r.slf a' k fs h3 h
    · exact r.slf a' k' fs0 h3 e
end U
set_option Elab.async false
set_option linter.all false
set_option maxRecDepth 100000
set_option maxHeartbeats 4000000
namespace U
open PySem PySem.Spec PyProof.Rows L2
/-! ### reading fields -/
def fdD : Fd → D
  | .fr d => d
  | .ow ds => .list ds
theorem FdOk.wk {F H : Hp} {v : V} {f : Fd} (h : FdOk F H v f) : Wk F H v (fdD f) := by
  cases f with
  | fr d => exact .inl h
  | ow ds => obtain ⟨p, xs, e, h2, h3, h4⟩ := h; exact .inr ⟨p, xs, ds, e, rfl, h2, h4⟩
def cFK (k j : Nat) : Option Cell → Res
  | some (.ob k' fs) => if k' = k then (match fs[j]? with
    | some f => .ok (fdD f)
    | none => .bad) else .bad
  | some (.ro k' fs) => if k' = k then (match fs[j]? with
    | some d => .ok d
    | none => .bad) else .bad
  | _ => .bad
def cFV (k j : Nat) : Option Cell → Res
  | some (.ob k' fs) => if k' = k then (match fs[j]? with
    | some (.fr d) => .ok d
    | _ => .bad) else .bad
  | some (.ro k' fs) => if k' = k then (match fs[j]? with
    | some d => .ok d
    | none => .bad) else .bad
  | _ => .bad
/-- x.f, read at once -/
def eFK (k i j : Nat) : Sm := fun ρ => cFK k j ρ[i]?
/-- x.f, shared -/
def eFV (k i j : Nat) : Sm := fun ρ => cFV k j ρ[i]?
/-- what is known of a class -/
structure ClF (K : PySem.W.Frag) (cv : Nat → Value) (k : Nat) : Prop where
  ok : ∃ C, cv k = .ref C ∧ Cls K C ∧ ∀ f ∈ flN k, NoAttr K C f
section
variable {X : Cx} {cv : Nat → Value} {W : WX} {a b e : Expr} {es : List Expr} {ms : List Sm} {m : Sm} {pos p : Pos}
theorem if_badR {P : Prop} [Decidable P] {r : Res} {R : Res → Prop} (hB : ¬ R .bad) (h : R (if P then r else .bad)) : P ∧ R r := by
  by_cases z : P
  · rw [if_pos z] at h; exact ⟨z, h⟩
  · rw [if_neg z] at h; exact (hB h).elim
theorem j_fk {i j k : Nat} {x f : Str} (c : ClF X.K cv k) (hN : X.N[i]? = some x) (hv : Vis X.env.scope x) (hd : (x == ("__debug__" : Str)) = false) (hcd : (x == ("__classdict__" : Str)) = false) (hf : (flN k)[j]? = some f) (hj : (flN k).findIdx (· == f) = j) : JW X cv W (.Attribute (.Name x p) f pos) (eFK k i j) :=
  PE.imp (pe_fld (pe_var hN hv hd hcd) rfl) fun σ H Q ⟨ρ, F, r, q⟩ => by
    obtain ⟨C, hC, cC, nC⟩ := c.ok
    unfold eFK at q
    cases h : ρ[i]? with
    | none => rw [h] at q; exact q.elim
    | some cl =>
      rw [h] at q
      cases cl with
      | un => exact q.elim
      | fr d => exact q.elim
      | ow d => exact q.elim
      | ob k' fs =>
        obtain ⟨e, q2⟩ := if_badR (R := GotW cv W F H σ Q) (fun z => z) q
        clear q
        subst e
        have q := q2
        clear q2
        obtain ⟨a, C', dx, vs, e1, e2, e3, e4, hl, e5, e6⟩ := r.cell i _ h
        rw [hC] at e2; cases e2
        cases hj' : fs[j]? with
        | none => rw [hj'] at q; exact q.elim
        | some fd =>
          rw [hj'] at q
          obtain ⟨v, hv1, hv2⟩ := fds_get e5 hj'
          exact ⟨_, e1, a, C, dx, _, v, rfl, e3, cC, nC f (List.mem_of_getElem? hf), by rw [zip_look hj hf hl]; exact hv1, q v F H (Evo.refl r.le) hv2.wk⟩
      | ro k' fs =>
        obtain ⟨e, q2⟩ := if_badR (R := GotW cv W F H σ Q) (fun z => z) q
        clear q
        subst e
        have q := q2
        clear q2
        obtain ⟨a, C', dx, vs, e1, e2, e3, hl, e4⟩ := r.cell i _ h
        rw [hC] at e2; cases e2
        cases hj' : fs[j]? with
        | none => rw [hj'] at q; exact q.elim
        | some fd =>
          rw [hj'] at q
          obtain ⟨v, hv1, hv2⟩ := dps_get e4 hj'
          exact ⟨_, e1, a, C, dx, _, v, rfl, r.le _ _ e3, cC, nC f (List.mem_of_getElem? hf), by rw [zip_look hj hf hl]; exact hv1, q v F H (Evo.refl r.le) (.inl hv2)⟩
theorem j_fv {i j k : Nat} {x f : Str} (c : ClF X.K cv k) (hN : X.N[i]? = some x) (hv : Vis X.env.scope x) (hd : (x == ("__debug__" : Str)) = false) (hcd : (x == ("__classdict__" : Str)) = false) (hf : (flN k)[j]? = some f) (hj : (flN k).findIdx (· == f) = j) : JE X cv W (.Attribute (.Name x p) f pos) (eFV k i j) :=
  PE.imp (pe_fld (pe_var hN hv hd hcd) rfl) fun σ H Q ⟨ρ, F, r, q⟩ => by
    obtain ⟨C, hC, cC, nC⟩ := c.ok
    unfold eFV at q
    cases h : ρ[i]? with
    | none => rw [h] at q; exact q.elim
    | some cl =>
      rw [h] at q
      cases cl with
      | un => exact q.elim
      | fr d => exact q.elim
      | ow d => exact q.elim
      | ob k' fs =>
        obtain ⟨e, q2⟩ := if_badR (R := GotE cv W F H σ Q) (fun z => z) q
        clear q
        subst e
        have q := q2
        clear q2
        obtain ⟨a, C', dx, vs, e1, e2, e3, e4, hl, e5, e6⟩ := r.cell i _ h
        rw [hC] at e2; cases e2
        cases hj' : fs[j]? with
        | none => rw [hj'] at q; exact q.elim
        | some fd =>
          rw [hj'] at q
          obtain ⟨v, hv1, hv2⟩ := fds_get e5 hj'
          cases fd with
          | ow ds => exact q.elim
          | fr d => exact ⟨_, e1, a, C, dx, _, v, rfl, e3, cC, nC f (List.mem_of_getElem? hf), by rw [zip_look hj hf hl]; exact hv1, q v F H (Evo.refl r.le) hv2⟩
      | ro k' fs =>
        obtain ⟨e, q2⟩ := if_badR (R := GotE cv W F H σ Q) (fun z => z) q
        clear q
        subst e
        have q := q2
        clear q2
        obtain ⟨a, C', dx, vs, e1, e2, e3, hl, e4⟩ := r.cell i _ h
        rw [hC] at e2; cases e2
        cases hj' : fs[j]? with
        | none => rw [hj'] at q; exact q.elim
        | some fd =>
          rw [hj'] at q
          obtain ⟨v, hv1, hv2⟩ := dps_get e4 hj'
          exact ⟨_, e1, a, C, dx, _, v, rfl, r.le _ _ e3, cC, nC f (List.mem_of_getElem? hf), by rw [zip_look hj hf hl]; exact hv1, q v F H (Evo.refl r.le) hv2⟩
end
/-! ### what methods promise -/
def sV : D → Option V
  | .none => some .non
  | .bool b => some (.bl b)
  | .int i => some (.int i)
  | .str x => some (.str x)
  | _ => none
theorem sV_eq {F : Hp} {v w : V} {d : D} (h : Dr F v d) (e : sV d = some w) : v = w := by
  cases h <;> cases e <;> rfl
theorem sV_dr {v : V} {d : D} (e : sV d = some v) (F : Hp) : Dr F v d := by
  cases d <;> cases e <;> constructor
inductive MRes where
  | ok (fs : List Fd) (d : D)
  | bad
def spPu (cv : Nat → Value) (k n : Nat) (f : List D → List D → Res) : Sp := fun vs H Q E => ∃ F a C dx us fs args ds, vs = .ref a :: args ∧ Ex F H ∧ cv k = .ref C ∧ F a = some (.ins C dx ((flN k).zip us)) ∧ us.length = (flN k).length ∧ DrAll F us fs ∧ DrAll F args ds ∧ ds.length = n ∧
  ∃ d v, f fs ds = .ok d ∧ sV d = some v ∧ ∀ H', Ex H H' → Q v H'
def spMu (cv : Nat → Value) (k n : Nat) (f : List Fd → List D → MRes) : Sp := fun vs H Q E => ∃ F a C dx us fs args ds, vs = .ref a :: args ∧ Ex F H ∧ cv k = .ref C ∧ H a = some (.ins C dx ((flN k).zip us)) ∧ F a = none ∧ us.length = (flN k).length ∧ FdsOk F H us fs ∧ (ownV us fs).Nodup ∧ DrAll F args ds ∧ ds.length = n ∧
  ∃ fs' d v, f fs ds = .ok fs' d ∧ sV d = some v ∧ ∀ F' H' dx' us', Evo F (wo H (a :: ownV us fs)) F' H' → H' a = some (.ins C dx' ((flN k).zip us')) → F' a = none → us'.length = (flN k).length → FdsOk F' H' us' fs' → (ownV us' fs').Nodup → (∀ p ∈ ownV us' fs', wo H (a :: ownV us fs) p = none) → Q v H'
def spNw (cv : Nat → Value) (k n : Nat) (f : List D → Option (List Fd)) : Sp := fun vs H Q E => ∃ F ds, Ex F H ∧ DrAll F vs ds ∧ ds.length = n ∧
  ∃ fs, f ds = some fs ∧ ∀ a C dx us F' H', cv k = .ref C → Evo F H F' H' → H a = none → H' a = some (.ins C dx ((flN k).zip us)) → F' a = none → us.length = (flN k).length → FdsOk F' H' us fs → (ownV us fs).Nodup → (∀ p ∈ ownV us fs, H p = none) → Q (.ref a) H'
structure MtO (X : Cx) (cv : Nat → Value) (lv k : Nat) (m : Str) (n : Nat) (sp : Sp) : Prop where
  ok : ∃ (C fa : Addr) (fd : FuncData) (ps : List Str), cv k = .ref C ∧ Cls X.K C ∧ Meth X.K C m fa ∧ m ∉ flN k ∧ FnOk X.prog X.w X.K X.mg X.base (L2.CX X.prog X.w) lv fa fd ps sp ∧ Binds X.K fd ps []
structure FnO (X : Cx) (cv : Nat → Value) (lv : Nat) (x : Str) (n : Nat) (sp : Sp) : Prop where
  ok : ∃ (fa : Addr) (fd : FuncData) (ps : List Str), X.mg x = some (.ref fa) ∧ ps.length = n ∧ FnOk X.prog X.w X.K X.mg X.base (L2.CX X.prog X.w) lv fa fd ps sp ∧ PySem.W.keepIn X.K (.ref fa) = true ∧ Binds X.K fd ps []
/-! ### a method that only reads, as an expression -/
def roF (k : Nat) : Option Cell → Option (List D)
  | some (.ob k' fs) => if k' = k then some (fs.map fdD) else none
  | some (.ro k' fs) => if k' = k then some fs else none
  | _ => none
def scR : Res → Res
  | .ok d => if (sV d).isSome then .ok d else .bad
  | _ => .bad
def eMP (k i : Nat) (f : List D → List D → Res) (ms : List Sm) : Sm := fun ρ => match roF k ρ[i]? with
  | some fs => (evs ms ρ).bind fun ds => scR (f fs ds)
  | none => .bad
theorem fds_frz {F H F2 : Hp} (ex : Ex F F2) : ∀ {vs : List V} {fs : List Fd}, FdsOk F H vs fs → (∀ p ∈ ownV vs fs, F2 p = H p) → DrAll F2 vs (fs.map fdD)
  | _, _, .nil, _ => .nil
  | v :: vs, .fr d :: fs, .cons h hs, n => .cons (dp_mono ex h) (fds_frz ex hs fun p hp => n p (by cases v <;> exact hp))
  | v :: vs, .ow ds :: fs, .cons ⟨p, xs, e1, h2, h3, h4⟩ hs, n => by
    subst e1
    exact .cons (.lst (Rd.of (by rw [n p List.mem_cons_self]; exact h2)) (dps_mono ex h4)) (fds_frz ex hs fun p hp => n p (List.mem_cons_of_mem _ hp))
/-- an object is looked at as shared for a while -/
theorem look_ro {cv : Nat → Value} {F H : Hp} {ov : Option (Option V)} {c : Cell} {k : Nat} {fs : List D} (h : CellOk cv F H ov c) (le : Ex F H) (e : roF k (some c) = some fs) : ∃ F2 a C dx us, ov = some (some (.ref a)) ∧ Ex F F2 ∧ Ex F2 H ∧ cv k = .ref C ∧ F2 a = some (.ins C dx ((flN k).zip us)) ∧ us.length = (flN k).length ∧ DrAll F2 us fs := by
  cases c with
  | un => cases e
  | fr d => cases e
  | ow d => cases e
  | ob k' gs =>
    simp only [roF] at e
    split at e
    case isFalse => cases e
    rename_i hk
    subst hk
    cases e
    obtain ⟨a, C, dx, vs, e1, e2, e3, e4, hl, e5, e6⟩ := h
    let F2 : Hp := fun b => if b ∈ a :: ownV vs gs then H b else F b
    have none_ : ∀ p ∈ a :: ownV vs gs, F p = none := fun p hp => by
      rcases List.mem_cons.mp hp with z | z
      · rw [z]; exact e4
      · exact (ownV_at e5 p z).1
    have i2 : ∀ p ∈ a :: ownV vs gs, F2 p = H p := fun p hp => if_pos hp
    have ex : Ex F F2 := fun b o q => by
      have : b ∉ a :: ownV vs gs := fun z => by rw [none_ b z] at q; cases q
      show (if b ∈ a :: ownV vs gs then H b else F b) = some o
      rw [if_neg this]; exact q
    have le2 : Ex F2 H := fun b o q => by
      by_cases z : b ∈ a :: ownV vs gs
      · rw [i2 b z] at q; exact q
      · exact le b o (by have : F2 b = F b := if_neg z
                         rw [← this]; exact q)
    exact ⟨F2, a, C, dx, vs, e1, ex, le2, e2, by rw [i2 a List.mem_cons_self]; exact e3, hl, fds_frz ex e5 fun p hp => i2 p (List.mem_cons_of_mem _ hp)⟩
  | ro k' gs =>
    simp only [roF] at e
    split at e
    case isFalse => cases e
    rename_i hk
    subst hk
    cases e
    obtain ⟨a, C, dx, vs, e1, e2, e3, hl, e4⟩ := h
    exact ⟨F, a, C, dx, vs, e1, Evl.Ex.refl F, le, e2, e3, hl, e4⟩
theorem cell_ins {cv : Nat → Value} {F H : Hp} {ov : Option (Option V)} {c : Cell} {k : Nat} {fs : List D} (h : CellOk cv F H ov c) (le : Ex F H) (e : roF k (some c) = some fs) : ∃ a C dx us, ov = some (some (.ref a)) ∧ cv k = .ref C ∧ H a = some (.ins C dx ((flN k).zip us)) := by
  obtain ⟨F2, a, C, dx, us, h1, h2, h3, h4, h5, _⟩ := look_ro h le e
  exact ⟨a, C, dx, us, h1, h4, h3 _ _ h5⟩
section
variable {X : Cx} {cv : Nat → Value} {W : WX} {a b e c : Expr} {es : List Expr} {ms : List Sm} {m : Sm} {pos p apos : Pos} {lk : List Nat}
/-- o.m(e, ..), o a name -/
theorem pe_methL {CX : CXT} {k : Nat} {f C : Addr} {fd : FuncData} {ps : List Str} {sp : Sp} {dvs : List V} {ds : List Value} {E : XK} {mn : Str} {o : Expr} {ta : TE} {t : TA} (he : PE X o ta) (c : Cls X.K C) (hm : Meth X.K C mn f) (F : FnOk X.prog X.w X.K X.mg X.base CX k f fd ps sp) (hr : Room k X.A) (hb : Binds X.K fd ps ds) (hd : Vals dvs ds) (hx : Passes CX X E) (ha : PA X (e :: es) t)
    (hst : starEach (e :: es) X.env = (false, eval e X.env) :: starEach es X.env) (hpl : (backTo pos (starEach es X.env)).any (·.1) = false) (hbase : attributeBase o mn X.env (eval o X.env) = eval o X.env)
    (hfew : ((backTo pos (starEach (e :: es) X.env)).all (fun x => !x.1) && (backToKw pos (keywordEach [] X.env)).all (fun x => x.1.isSome)
      && decide ((e :: es).length + ([] : List Keyword).length + (if ([] : List Keyword).isEmpty then 0 else 1) < 30)) = true) (hline : (apos.endLine == pos.line) = true) :
    PE X (.Call (.Attribute o mn apos) (e :: es) [] pos) (tMeth C mn sp dvs E ta t) := by
  refine ⟨fun pins s σ H Q I h => ?_⟩
  rw [arm_eval_Call, hbase]
  refine wpAny_bind (wpAny_mono (he.run pins s σ H _ I h) (fun u s1 ⟨x, H1, I1, rx, a, dx, fs, ex, ea, l, q⟩ => ?_) fun _ _ e => e)
  subst ex
  obtain rfl : u = Value.ref a := rx
  refine wpAny_bind (wpAny_standAt ?_)
  have hform : methodCallForm ((e :: es).length + ([] : List Keyword).length) (backTo pos (starEach (e :: es) X.env)) (backToKw pos (keywordEach [] X.env)) = true := hfew
  have hpos : methodCallPos true o X.env apos pos = pure pos := by unfold methodCallPos; simp [hline]
  unfold methodCall
  rw [hform]
  refine wpAny_bind (wpAny_holding (getmeth_ok I1 ea c hm l ?_))
  refine wpAny_bind (wpAny_of_eq hpos ?_)
  refine PySem.W.callWith_K (first := [.ref a]) (h₀ := X.base) I.ok.mod.kin hm.kp (thn (ha.run pos pins s1 σ H1 _ I1 q) fun us s2 ⟨vs, H2, I2, r, q2⟩ => ⟨I2.kIn, ?_⟩) hst hpl
  exact run_fn (us := .ref a :: us) (vs := .ref a :: vs) F hr hb hd hx I2 (.cons rfl r) q2
theorem few_of {args : List Expr} {env : PySem.Env} (h : args.all notStar = true) (hn : args.length < 29) : ((backTo pos (starEach args env)).all (fun x => !x.1) && (backToKw pos (keywordEach [] env)).all (fun x => x.1.isSome)
      && decide (args.length + ([] : List Keyword).length + (if ([] : List Keyword).isEmpty then 0 else 1) < 30)) = true := by
  have key : ∀ args : List Expr, args.all notStar = true → (backTo pos (starEach args env)).all (fun x => !x.1) = true := by
    intro args
    induction args with
    | nil => intro _; rfl
    | cons a r ih =>
      intro h
      obtain ⟨h1, h2⟩ := all_cons h
      rw [star_cons h1]
      show (!false && (backTo pos (starEach r env)).all (fun x => !x.1)) = true
      rw [ih h2]
      rfl
  rw [key args h]
  simp [keywordEach, backToKw]
  omega
theorem no_pass {k n : Nat} : Passes (L2.CX X.prog X.w) X (fun _ _ _ => False) := fun pins σ H s e s' I c => by
  obtain ⟨_, _, _, _, _, _, _, _, _, _, _, _, z⟩ := c
  exact z.elim
theorem j_mp {i k n lv : Nat} {x mn : Str} {f : List D → List D → Res} (M : MtO X cv lv k mn n (spPu cv k n f)) (hr : Room lv X.A) (hN : X.N[i]? = some x) (hv : Vis X.env.scope x) (hd : (x == ("__debug__" : Str)) = false) (hcd : (x == ("__classdict__" : Str)) = false) (ha : JA X cv W (e :: es) ms) (hn : ms.length = n) (h1 : notStar e = true) (h2 : es.all notStar = true) (h3 : es.length < 28) (hln : (apos.endLine == pos.line) = true) :
    JE X cv W (.Call (.Attribute (.Name x p) mn apos) (e :: es) [] pos) (eMP k i f ms) := by
  obtain ⟨C, fa, fd, ps, hC, cC, hm, nm, Fk, hb⟩ := M.ok
  refine PE.imp (pe_methL (pe_var hN hv hd hcd) cC hm Fk hr hb .nil (no_pass (k := 0) (n := 0)) ha (star_cons h1) (star_any h2) rfl (few_of (by simp [h1, h2]) (by simp; omega)) hln) fun σ H Q ⟨ρ, F, r, q⟩ => ?_
  unfold eMP at q
  cases hρ : ρ[i]? with
  | none => rw [hρ] at q; exact q.elim
  | some cl =>
    rw [hρ] at q
    cases hro : roF k (some cl) with
    | none => rw [hro] at q; exact q.elim
    | some fs =>
      rw [hro] at q
      obtain ⟨a, C', dx, us, s0, hC', hH⟩ := cell_ins (r.cell i _ hρ) r.le hro
      rw [hC] at hC'; cases hC'
      refine ⟨_, s0, a, dx, _, rfl, hH, zip_none nm, ?_⟩
      refine rd_args r q fun ds vs F1 H1 he ev hd q => ?_
      obtain ⟨F2, a2, C2, dx2, us2, t0, t1, t2, t3, t4, t5, t6⟩ := look_ro ((r.evo ev).cell i _ hρ) ev.le hro
      rw [s0] at t0; cases t0
      cases hf : f fs ds with
      | new d => rw [hf] at q; exact q.elim
      | exc d => rw [hf] at q; exact q.elim
      | bad => rw [hf] at q; exact q.elim
      | ok d =>
        rw [hf] at q
        simp only [scR] at q
        obtain ⟨hz, q⟩ := if_badR (R := GotE cv W F1 H1 σ Q) (fun z => z) q
        obtain ⟨v, hv⟩ := Option.isSome_iff_exists.mp hz
        refine ⟨F2, a, C2, dx2, us2, fs, vs, ds, by rw [List.append_nil], t2, t3, t4, t5, t6, dps_mono t1 hd, by rw [evs_len he]; exact hn, d, v, hf, hv, fun H' ex => ?_⟩
        exact q v F1 H' ⟨Evl.Ex.refl F1, ex, ev.le.trans ex, fun _ _ z => .inl z⟩ (sV_dr hv F1)
end
end U
set_option Elab.async false
set_option linter.all false
set_option maxRecDepth 100000
set_option maxHeartbeats 4000000
namespace U
open PySem PySem.Spec PyProof.Rows L2
/-! ### x.f = e -/
def setF (ρ : Rho) (k i j : Nat) (f : Fd) : Fl := match ρ[i]? with
  | some (.ob k' fs) => if k' = k ∧ j < fs.length then .nx (ρ.set i (.ob k (fs.set j f))) else .bad
  | _ => .bad
/-- .. a new list is the object's own -/
def sFSet (k i j : Nat) (lk : List Nat) (m : Sm) : Ss := fun ρ0 => let ρ := frz ρ0 lk
  (m ρ).fl ρ (fun d => setF ρ k i j (.fr d)) (fun ds => setF ρ k i j (.ow ds))
/-- .. a new list is shared -/
def sFSetF (k i j : Nat) (lk : List Nat) (m : Sm) : Ss := fun ρ0 => let ρ := frz ρ0 lk
  (m ρ).fl ρ (fun d => setF ρ k i j (.fr d)) (fun ds => setF ρ k i j (.fr (.list ds)))
theorem wo_ex {H : Hp} {l : List Addr} : Ex (wo H l) H := fun b o h => (wo_some h).2
/-- a field is set, behind an expression that gave y -/
theorem RelB.fld {cv : Nat → Value} {B : Bb} {ρ : Rho} {σ : L2.St} {F H F1 H1 : Hp} {i j k : Nat} {fs : List Fd} {a C dx : Addr} {vs : List V} {y : V} {g : Fd} (r : RelB cv B ρ σ F H) (h : ρ[i]? = some (.ob k fs)) (hs : σ[i]? = some (some (.ref a))) (hC : cv k = .ref C) (hH : H a = some (.ins C dx ((flN k).zip vs))) (hFa : F a = none) (hl : vs.length = (flN k).length) (hf : FdsOk F H vs fs) (hn : (ownV vs fs).Nodup)
    (ev : Evo F H F1 H1) (hy : FdOk F1 H1 y g) (hg : ∀ p ∈ ow1 y g, H p = none) : RelB cv B (ρ.set i (.ob k (fs.set j g))) σ F1 (upd H1 a (.ins C dx ((flN k).zip (vs.set j y)))) := by
  have hFa1 : F1 a = none := own_not ev hFa hH
  have neF : ∀ b u, F1 b = some u → b ≠ a := fun b u q z => by rw [z, hFa1] at q; cases q
  have up : ∀ (w : V) (f : Fd), FdOk F1 H1 w f → FdOk F1 (upd H1 a (.ins C dx ((flN k).zip (vs.set j y)))) w f := fun w f q => by
    cases f with
    | fr d => exact q
    | ow ds =>
      obtain ⟨p, xs, e1, e2, e3, e4⟩ := q
      have : p ≠ a := fun z => by rw [z, ev.hx _ _ hH] at e2; cases e2
      exact ⟨p, xs, e1, by rw [upd_ne this]; exact e2, e3, e4⟩
  have ups : ∀ {ws : List V} {gs : List Fd}, FdsOk F1 H1 ws gs → FdsOk F1 (upd H1 a (.ins C dx ((flN k).zip (vs.set j y)))) ws gs := fun q => by
    induction q with
    | nil => exact .nil
    | cons q _ ih => exact .cons (up _ _ q) ih
  refine r.obj (dx' := dx) (vs' := vs.set j y) h hs hC hH hl ⟨ev.ex, fun b o q => ?_, fun b o q => ?_, fun b o q => ?_⟩ upd_same hFa1 (by simp [hl]) (ups (fds_set hy j (hf.evo ev))) (own_set_nodup hn fun p hp hq => ?_) fun p hp => ?_
  · obtain ⟨n1, n2⟩ := wo_some q
    rw [upd_ne (fun z => n1 (by rw [z]; exact List.mem_cons_self))]
    exact ev.hx b o n2
  · rw [upd_ne (neF b o q)]; exact ev.le b o q
  · rcases ev.new b o q with z | z
    · exact .inl z
    · refine .inr ?_
      unfold wo
      split
      · rfl
      · exact z
  · obtain ⟨_, xs, z⟩ := ownV_at hf p hq
    rw [hg p hp] at z; cases z
  · rcases own_set_mem hp with z | z
    · exact wo_in (List.mem_cons_of_mem _ z)
    · unfold wo
      split
      · rfl
      · exact hg p z
section
variable {X : Cx} {cv : Nat → Value} {W : WX} {e c : Expr} {es : List Expr} {st : Stmt} {m mi : Sm} {ms : List Sm} {a b : Ss} {lk : List Nat} {pos p apos tpos cpos : Pos}
theorem of_setF {B : Bb} {Dn : Ends} {ρ : Rho} {k i j : Nat} {f : Fd} (q : GotF cv W B Dn (setF ρ k i j f)) : ∃ fs, ρ[i]? = some (.ob k fs) ∧ GotF cv W B Dn (.nx (ρ.set i (.ob k (fs.set j f)))) := by
  unfold setF at q
  cases h : ρ[i]? with
  | none => rw [h] at q; exact q.elim
  | some cl =>
    rw [h] at q
    cases cl with
    | ob k' fs =>
      simp only at q
      split at q
      · rename_i hz
        obtain ⟨z1, z2⟩ := hz
        subst z1
        exact ⟨fs, rfl, q⟩
      · exact q.elim
    | _ => exact q.elim
theorem js_fset {i j k : Nat} {x f : Str} (cl : ClF X.K cv k) (hN : X.N[i]? = some x) (hv : Vis X.env.scope x) (hd : (x == ("__debug__" : Str)) = false) (hcd : (x == ("__classdict__" : Str)) = false) (hf : (flN k)[j]? = some f) (hj : (flN k).findIdx (· == f) = j) (hk : (flN k).length < 1000) (he : JE X cv W e m) (hs : swapsWith e (some (.Attribute (.Name x p) f apos)) pos.line X.env = pure false) :
    JF X cv W (.Assign [.Attribute (.Name x p) f apos] e pos) (sFSet k i j lk m) := fun B =>
  PS.imp (ps_fld (pe_var hN hv hd hcd) he hs) fun Dn σ H ⟨ρ0, F0, r0, q⟩ => by
    obtain ⟨C, hC, cC, nC⟩ := cl.ok
    obtain ⟨F, r⟩ := RelB.frz (lk := lk) r0
    refine rd_st r q (fun d v F1 H1 ev hd q => ?_) fun ds p xs F1 H1 ev h1 h2 h3 h4 q => ?_
    · obtain ⟨fs, hρ, q⟩ := of_setF q
      obtain ⟨a, C', dx, vs, e1, e2, e3, e4, hl, e5, e6⟩ := r.rel.cell i _ hρ
      rw [hC] at e2; cases e2
      refine ⟨_, e1, a, C, dx, _, rfl, ev.hx _ _ e3, cC, nC f (List.mem_of_getElem? hf), by rw [List.length_zip, hl]; omega, ?_⟩
      rw [zip_put hj hf hl]
      exact q σ F1 _ (r.fld hρ e1 hC e3 e4 hl e5 e6 ev hd fun p hp => by cases v <;> simp [ow1] at hp)
    · obtain ⟨fs, hρ, q⟩ := of_setF q
      obtain ⟨a, C', dx, vs, e1, e2, e3, e4, hl, e5, e6⟩ := r.rel.cell i _ hρ
      rw [hC] at e2; cases e2
      refine ⟨_, e1, a, C, dx, _, rfl, ev.hx _ _ e3, cC, nC f (List.mem_of_getElem? hf), by rw [List.length_zip, hl]; omega, ?_⟩
      rw [zip_put hj hf hl]
      exact q σ F1 _ (r.fld hρ e1 hC e3 e4 hl e5 e6 ev (g := .ow ds) ⟨p, xs, rfl, h3, h2, h4⟩ fun p' hp => by simp [ow1] at hp; rw [hp]; exact h1)
theorem js_fsetF {i j k : Nat} {x f : Str} (cl : ClF X.K cv k) (hN : X.N[i]? = some x) (hv : Vis X.env.scope x) (hd : (x == ("__debug__" : Str)) = false) (hcd : (x == ("__classdict__" : Str)) = false) (hf : (flN k)[j]? = some f) (hj : (flN k).findIdx (· == f) = j) (hk : (flN k).length < 1000) (he : JE X cv W e m) (hs : swapsWith e (some (.Attribute (.Name x p) f apos)) pos.line X.env = pure false) :
    JF X cv W (.Assign [.Attribute (.Name x p) f apos] e pos) (sFSetF k i j lk m) := fun B =>
  PS.imp (ps_fld (pe_var hN hv hd hcd) he hs) fun Dn σ H ⟨ρ0, F0, r0, q⟩ => by
    obtain ⟨C, hC, cC, nC⟩ := cl.ok
    obtain ⟨F, r⟩ := RelB.frz (lk := lk) r0
    have go : ∀ d v F1 H1, Evo F H F1 H1 → Dr F1 v d → GotF cv W B Dn (setF (frz ρ0 lk) k i j (.fr d)) → tVar i σ H1 fun x H2 => ∃ a C dx fs, x = .ref a ∧ H2 a = some (.ins C dx fs) ∧ Cls X.K C ∧ NoAttr X.K C f ∧ fs.length < 1000 ∧ Dn.nx σ (upd H2 a (.ins C dx (putF f v fs))) := fun d v F1 H1 ev hd q => by
      obtain ⟨fs, hρ, q⟩ := of_setF q
      obtain ⟨a, C', dx, vs, e1, e2, e3, e4, hl, e5, e6⟩ := r.rel.cell i _ hρ
      rw [hC] at e2; cases e2
      refine ⟨_, e1, a, C, dx, _, rfl, ev.hx _ _ e3, cC, nC f (List.mem_of_getElem? hf), by rw [List.length_zip, hl]; omega, ?_⟩
      rw [zip_put hj hf hl]
      exact q σ F1 _ (r.fld hρ e1 hC e3 e4 hl e5 e6 ev (g := .fr d) hd fun p hp => by cases v <;> simp [ow1] at hp)
    refine rd_st r q go fun ds p xs F1 H1 ev h1 h2 h3 h4 q => ?_
    exact go (.list ds) (.ref p) _ H1 (ev.give h3 h1 h2) (.lst (Rd.of upd_same) (dps_mono (Evl.Ex.new h2) h4)) q
/-! ### x.f[i] = e, e shared -/
def vRes : Res → Res
  | .new ds => .ok (.list ds)
  | r => r
def sFItem (k i j : Nat) (lk : List Nat) (mi m : Sm) : Ss := fun ρ0 => let ρ := frz ρ0 lk
  match ρ[i]? with
  | some (.ob k' fs) => if k' = k then (match fs[j]? with
    | some (.ow ds) => (vRes (m ρ)).fl ρ (fun d => (mi ρ).fl ρ (fun z => match z with
      | .int z => (match ixN ds.length z with
        | some n => .nx (ρ.set i (.ob k (fs.set j (.ow (ds.set n d)))))
        | none => .bad)
      | _ => .bad) (fun _ => .bad)) (fun _ => .bad)
    | _ => .bad) else .bad
  | _ => .bad
theorem RelB.item {B : Bb} {ρ : Rho} {σ : L2.St} {F H : Hp} {i j k : Nat} {fs : List Fd} {a C dx q : Addr} {vs : List V} {ys : List V} {ds es : List D} (r : RelB cv B ρ σ F H) (h : ρ[i]? = some (.ob k fs)) (hs : σ[i]? = some (some (.ref a))) (hC : cv k = .ref C) (hH : H a = some (.ins C dx ((flN k).zip vs))) (hFa : F a = none) (hl : vs.length = (flN k).length) (hf : FdsOk F H vs fs) (hn : (ownV vs fs).Nodup)
    (h1 : fs[j]? = some (.ow ds)) (h2 : vs[j]? = some (.ref q)) (hd : DrAll F ys es) : RelB cv B (ρ.set i (.ob k (fs.set j (.ow es)))) σ F (upd H q (.lst ys)) := by
  obtain ⟨a1, a2, a3⟩ := fds_item hd hf hn h1 h2
  obtain ⟨hFq, xs, hHq⟩ := ownV_at hf q a3
  have ne : a ≠ q := fun z => by rw [z, hHq] at hH; cases hH
  refine r.obj (dx' := dx) (vs' := vs) h hs hC hH hl ⟨Evl.Ex.refl F, fun b o z => ?_, fun b o z => ?_, fun _ _ z => .inl z⟩ (by rw [upd_ne ne]; exact hH) hFa hl a1 (by rw [a2]; exact hn) fun p hp => ?_
  · obtain ⟨n1, n2⟩ := wo_some z
    rw [upd_ne (fun z => n1 (by rw [z]; exact List.mem_cons_of_mem _ a3))]
    exact n2
  · rw [upd_ne (fun e => by rw [e, hFq] at z; cases z)]
    exact r.rel.le b o z
  · rw [a2] at hp; exact wo_in (List.mem_cons_of_mem _ hp)
theorem js_fitem {i j k : Nat} {x f : Str} {ix : Expr} (cl : ClF X.K cv k) (hN : X.N[i]? = some x) (hv : Vis X.env.scope x) (hd : (x == ("__debug__" : Str)) = false) (hcd : (x == ("__classdict__" : Str)) = false) (hf : (flN k)[j]? = some f) (hj : (flN k).findIdx (· == f) = j) (he : JE X cv W e m) (hi : JE X cv W ix mi)
    (hs : swapsWithSole [.Subscript (.Attribute (.Name x p) f apos) ix tpos] e pos.line X.env = pure false) (ha : ∀ v, assign (.Subscript (.Attribute (.Name x p) f apos) ix tpos) X.env v = (do
      let ov ← holding [v] (eval (.Attribute (.Name x p) f apos) X.env)
      let iv ← holding [v, ov] (eval ix X.env)
      standAt tpos
      holding [v, ov, iv] (setItem ov iv v)
      release [v, ov, iv] [])) :
    JF X cv W (.Assign [.Subscript (.Attribute (.Name x p) f apos) ix tpos] e pos) (sFItem k i j lk mi m) := fun B =>
  PS.imp (ps_asg he.s (pg_sub (pe_fld (pe_var hN hv hd hcd) rfl) hi set_list ha) hs (by cases e <;> rfl) rfl) fun Dn σ H ⟨ρ0, F0, r0, q⟩ => by
    obtain ⟨C, hC, cC, nC⟩ := cl.ok
    obtain ⟨F, r⟩ := RelB.frz (lk := lk) r0
    unfold sFItem at q
    simp only at q
    cases hρ : (frz ρ0 lk)[i]? with
    | none => rw [hρ] at q; exact q.elim
    | some c =>
      rw [hρ] at q
      cases c with
      | ob k' fs =>
        simp only at q
        split at q
        case isFalse => exact q.elim
        rename_i hk
        subst hk
        obtain ⟨a, C', dx, vs, e1, e2, e3, e4, hl, e5, e6⟩ := r.rel.cell i _ hρ
        rw [hC] at e2; cases e2
        cases hfj : fs[j]? with
        | none => rw [hfj] at q; exact q.elim
        | some fd =>
          rw [hfj] at q
          cases fd with
          | fr d => exact q.elim
          | ow ds =>
            simp only at q
            obtain ⟨w, hw, q0, xs0, rfl, w2, w3, w4⟩ := fds_get e5 hfj
            have go : ∀ d, GotF cv W B Dn ((mi (frz ρ0 lk)).fl (frz ρ0 lk) (fun z => match z with
                | .int z => (match ixN ds.length z with
                  | some n => .nx ((frz ρ0 lk).set i (.ob k' (fs.set j (.ow (ds.set n d)))))
                  | none => .bad)
                | _ => .bad) (fun _ => .bad)) → QD F H d fun y H1 => tFld X.K (tVar i) f σ H1 fun o H2 => rdE cv W mi σ H2 fun z H3 => ∃ l xs n t, o = .ref l ∧ z = .int n ∧ H3 l = some (.lst xs) ∧ ixN xs.length n = some t ∧ Dn.nx σ (upd H3 l (.lst (xs.set t y))) := fun d q v F1 H1 ev hd => by
              refine ⟨_, e1, a, C, dx, _, .ref q0, rfl, ev.hx _ _ e3, cC, nC f (List.mem_of_getElem? hf), by rw [zip_look hj hf hl]; exact hw, ?_⟩
              refine rd_st (r.step ev) q (fun z w F2 H2 ev2 hz q => ?_) fun es p xs F1 H1 ev h1 h2 h3 h4 q => q.elim
              cases hz <;> try exact q.elim
              rename_i n
              simp only at q
              cases hn : ixN ds.length n with
              | none => rw [hn] at q; exact q.elim
              | some t =>
                rw [hn] at q
                have ee := ev.trans ev2
                refine ⟨q0, xs0, n, t, rfl, rfl, ee.hx _ _ w2, by rw [dps_len w4]; exact hn, ?_⟩
                exact q σ F2 _ ((r.step ee).item hρ e1 hC (ee.hx _ _ e3) (own_not ee e4 e3) hl (e5.evo ee) e6 hfj hw (dps_set (dp_mono ev2.ex hd) t (dps_mono ee.ex w4)))
            refine ⟨_, F, r.rel, ?_⟩
            cases hm : m (frz ρ0 lk) with
            | ok d => rw [hm] at q; exact go d q
            | new d => rw [hm] at q; exact go _ q
            | exc c => rw [hm] at q; exact fun F1 H1 ev => q σ F1 H1 (r.step ev)
            | bad => rw [hm] at q; exact q
      | _ => exact q.elim
end
end U
set_option Elab.async false
set_option linter.all false
set_option maxRecDepth 100000
set_option maxHeartbeats 4000000
namespace U
open PySem PySem.Spec PyProof.Rows L2
/-! ### a method that changes its object -/
/-- the fields and the answer behind a call -/
def muR (k i : Nat) (f : List Fd → List D → MRes) (ms : List Sm) (ρ : Rho) (kk : List Fd → D → Fl) : Fl := match ρ[i]?, evs ms ρ with
  | some (.ob k' fs), .ok ds => if k' = k then (match f fs ds with
    | .ok fs' d => if (sV d).isSome then kk fs' d else .bad
    | .bad => .bad) else .bad
  | _, _ => .bad
def sMut (k i : Nat) (f : List Fd → List D → MRes) (lk : List Nat) (ms : List Sm) : Ss := fun ρ0 => let ρ := frz ρ0 lk
  muR k i f ms ρ fun fs' _ => .nx (ρ.set i (.ob k fs'))
/-- if not x.m(..) -/
def sIfM (k i : Nat) (f : List Fd → List D → MRes) (lk : List Nat) (ms : List Sm) (a b : Ss) : Ss := fun ρ0 => let ρ := frz ρ0 lk
  muR k i f ms ρ fun fs' d => ifF ((truth d).map not) (a (ρ.set i (.ob k fs'))) (b (ρ.set i (.ob k fs')))
section
variable {X : Cx} {cv : Nat → Value} {W : WX} {e c : Expr} {es : List Expr} {st : Stmt} {m mi : Sm} {ms : List Sm} {a b : Ss} {lk : List Nat} {pos p apos tpos cpos : Pos}
theorem rd_mu {B : Bb} {Dn : Ends} {ρ : Rho} {σ : L2.St} {F H : Hp} {k i n : Nat} {x mn : Str} {C : Addr} {f : List Fd → List D → MRes} {kk : List Fd → D → Fl} {Q : VK} (r : RelB cv B ρ σ F H) (hC : cv k = .ref C) (nm : mn ∉ flN k) (hn : ms.length = n) (q : GotF cv W B Dn (muR k i f ms ρ kk))
    (hk : ∀ fs' d v F' H', sV d = some v → GotF cv W B Dn (kk fs' d) → RelB cv B (ρ.set i (.ob k fs')) σ F' H' → Q v H') :
    tMeth C mn (spMu cv k n f) [] (fun _ _ _ => False) (tVar i) (rdA cv W ms) σ H Q := by
  unfold muR at q
  cases hρ : ρ[i]? with
  | none => rw [hρ] at q; exact q.elim
  | some cl =>
    rw [hρ] at q
    cases cl with
    | ob k' fs =>
      obtain ⟨a, C', dx, vs, e1, e2, e3, e4, hl, e5, e6⟩ := r.rel.cell i _ hρ
      cases he : evs ms ρ with
      | exc c => rw [he] at q; exact q.elim
      | bad => rw [he] at q; exact q.elim
      | ok ds =>
        rw [he] at q
        simp only at q
        split at q
        case isFalse => exact q.elim
        rename_i hk'
        subst hk'
        rw [hC] at e2; cases e2
        cases hf : f fs ds with
        | bad => rw [hf] at q; exact q.elim
        | ok fs' d =>
          rw [hf] at q
          simp only at q
          split at q
          case isFalse => exact q.elim
          rename_i hz
          obtain ⟨v, hv⟩ := Option.isSome_iff_exists.mp hz
          refine ⟨_, e1, a, dx, _, rfl, e3, zip_none nm, ρ, F, r.rel, ?_⟩
          rw [he]
          intro us F1 H1 ev hd
          have r1 := r.step ev
          refine ⟨F1, a, C, dx, vs, fs, us, ds, by rw [List.append_nil], ev.le, hC, ev.hx _ _ e3, own_not ev e4 e3, hl, e5.evo ev, e6, hd, by rw [evs_len he]; exact hn, fs', d, v, hf, hv, fun F' H' dx' us' ev' g1 g2 g3 g4 g5 g6 => ?_⟩
          exact hk fs' d v F' H' hv q (r1.obj hρ e1 hC (ev.hx _ _ e3) hl ev' g1 g2 g3 g4 g5 g6)
    | _ => exact q.elim
theorem js_mut {i k n lv : Nat} {x mn : Str} {f : List Fd → List D → MRes} (M : MtO X cv lv k mn n (spMu cv k n f)) (hr : Room lv X.A) (hN : X.N[i]? = some x) (hv : Vis X.env.scope x) (hd : (x == ("__debug__" : Str)) = false) (hcd : (x == ("__classdict__" : Str)) = false) (ha : JA X cv W (e :: es) ms) (hn : ms.length = n) (h1 : notStar e = true) (h2 : es.all notStar = true) (h3 : es.length < 28) (hln : (apos.endLine == cpos.line) = true) :
    JF X cv W (.Expr (.Call (.Attribute (.Name x p) mn apos) (e :: es) [] cpos) pos) (sMut k i f lk ms) := fun B => by
  obtain ⟨C, fa, fd, ps, hC, cC, hm, nm, Fk, hb⟩ := M.ok
  refine PS.imp (ps_expr (pe_methL (pe_var hN hv hd hcd) cC hm Fk hr hb .nil (no_pass (k := 0) (n := 0)) ha (star_cons h1) (star_any h2) rfl (few_of (by simp [h1, h2]) (by simp; omega)) hln) rfl) fun Dn σ H ⟨ρ0, F0, r0, q⟩ => ?_
  obtain ⟨F, r⟩ := RelB.frz (lk := lk) r0
  exact rd_mu (x := x) r hC nm hn q fun fs' d v F' H' _ q r' => q σ F' H' r'
theorem js_ifM {i k n lv : Nat} {x mn : Str} {f : List Fd → List D → MRes} {sa sb : List Stmt} {npos : Pos} (M : MtO X cv lv k mn n (spMu cv k n f)) (hr : Room lv X.A) (hN : X.N[i]? = some x) (hv : Vis X.env.scope x) (hd : (x == ("__debug__" : Str)) = false) (hcd : (x == ("__classdict__" : Str)) = false) (ha : JA X cv W (e :: es) ms) (hn : ms.length = n) (h1 : notStar e = true) (h2 : es.all notStar = true) (h3 : es.length < 28) (hln : (apos.endLine == cpos.line) = true) (hA : JFs X cv W sa a) (hB : JFs X cv W sb b) :
    JF X cv W (.If (.UnaryOp .Not (.Call (.Attribute (.Name x p) mn apos) (e :: es) [] cpos) npos) sa sb pos) (sIfM k i f lk ms a b) := fun B => by
  obtain ⟨C, fa, fd, ps, hC, cC, hm, nm, Fk, hb⟩ := M.ok
  refine PS.imp (ps_if (pt_not (pt_truth (pe_methL (pe_var hN hv hd hcd) cC hm Fk hr hb .nil (no_pass (k := 0) (n := 0)) ha (star_cons h1) (star_any h2) rfl (few_of (by simp [h1, h2]) (by simp; omega)) hln) fun whole => rfl)) (hA B) (hB B)) fun Dn σ H ⟨ρ0, F0, r0, q⟩ => ?_
  obtain ⟨F, r⟩ := RelB.frz (lk := lk) r0
  refine rd_mu (x := x) r hC nm hn q fun fs' d v F' H' hsv q r' => ?_
  cases ht : truth d with
  | none => rw [ht] at q; exact q.elim
  | some t =>
    rw [ht] at q
    refine ⟨t, tru_of r'.rel.le (.inl (sV_dr hsv F')) ht, ?_⟩
    cases t with
    | true => exact ⟨_, F', r', q⟩
    | false => exact ⟨_, F', r', q⟩
/-! ### return e, of a method that changes its object -/
def sRetM (lk : List Nat) (m : Sm) : Ss := fun ρ0 => let ρ := frz ρ0 lk
  (m ρ).fl ρ (fun d => .rm d ρ) (fun _ => .bad)
theorem js_retM (he : JE X cv W e m) : JF X cv W (.Return (some e) pos) (sRetM lk m) := fun B =>
  PS.imp (ps_ret he) fun Dn σ H ⟨ρ0, F0, r0, q⟩ => by
    obtain ⟨F, r⟩ := RelB.frz (lk := lk) r0
    exact rd_st r q (fun d v F1 H1 ev hd q => q v σ F1 H1 (r.step ev) hd) fun ds p xs F1 H1 ev h1 h2 h3 h4 q => q.elim
/-! ### x = f(..), f gives a new object -/
def sNew (k i : Nat) (f : List D → Option (List Fd)) (lk : List Nat) (ms : List Sm) : Ss := fun ρ0 => let ρ := frz ρ0 lk
  match evs ms ρ with
  | .ok ds => (match f ds with
    | some fs => if i ≠ 0 then .nx (ρ.set i (.ob k fs)) else .bad
    | none => .bad)
  | _ => .bad
theorem js_new {i k n lv : Nat} {x y : Str} {f : List D → Option (List Fd)} {yp : Pos} (M : FnO X cv lv y n (spNw cv k n f)) (hr : Room lv X.A) (hNd : X.N.Nodup) (hi : X.N[i]? = some x) (hx : Loc X.env.scope x) (hfn : X.fn x = true ∨ X.env.scope.names.lookup x = some .local) (hg : Gl X y) (hdb : (y == ("__debug__" : Str)) = false) (ha : JA X cv W (e :: es) ms) (hn : ms.length = n) (h1 : notStar e = true) (h2 : es.all notStar = true) :
    JF X cv W (.Assign [.Name x p] (.Call (.Name y yp) (e :: es) [] cpos) pos) (sNew k i f lk ms) := fun B => by
  obtain ⟨fa, fd, ps, hm, hl, Fk, kp, hb⟩ := M.ok
  refine PS.imp (ps_set hNd hi hx (pe_call Fk hr hg hm kp hb .nil (no_pass (k := 0) (n := 0)) ha hdb (star_cons h1) (star_any h2)) (sw_no rfl) hfn) fun Dn σ H ⟨ρ0, F0, r0, q⟩ => ?_
  obtain ⟨F, r⟩ := RelB.frz (lk := lk) r0
  unfold sNew at q
  simp only at q
  refine ⟨_, F, r.rel, ?_⟩
  cases he : evs ms (frz ρ0 lk) with
  | exc c => rw [he] at q; exact q.elim
  | bad => rw [he] at q; exact q.elim
  | ok ds =>
    rw [he] at q
    intro us F1 H1 ev hd
    simp only at q
    cases hf : f ds with
    | none => rw [hf] at q; exact q.elim
    | some fs =>
      rw [hf] at q
      simp only at q
      split at q
      case isFalse => exact q.elim
      rename_i hz
      refine ⟨F1, ds, ev.le, by rw [List.append_nil]; exact hd, by rw [evs_len he]; exact hn, fs, hf, fun a C dx vs F' H' g0 ev' g1 g2 g3 g4 g5 g6 g7 => ?_⟩
      have r1 := r.step ev
      have fresh : ∀ q ∈ a :: ownV vs fs, H1 q = none := fun q hq => by
        rcases List.mem_cons.mp hq with z | z
        · rw [z]; exact g1
        · exact g7 q z
      have ol : owL H' (some (some (.ref a))) (.ob k fs) = a :: ownV vs fs := owL_ob g2 g4
      refine q _ F' H' ((r1.step ev').put i ⟨a, C, dx, vs, rfl, g0, g2, g3, g4, g5, g6⟩ (fun q hq => ?_) (fun j c hj _ q hq => ?_) (.inl hz))
      · rw [ol] at hq; exact none_back r1.evo.hx (fresh q hq)
      · rw [ol] at hq; exact new_apart r1 (fresh q hq) ev' j c hj
end
/-! ### a field's list is shared from now on -/
def frzF (ρ : Rho) (i j : Nat) : Rho := match ρ[i]? with
  | some (.ob k fs) => (match fs[j]? with
    | some (.ow ds) => ρ.set i (.ob k (fs.set j (.fr (.list ds))))
    | _ => ρ)
  | _ => ρ
end U
set_option Elab.async false
set_option linter.all false
set_option maxRecDepth 100000
set_option maxHeartbeats 4000000
namespace U
open PySem PySem.Spec PyProof.Rows L2
theorem fds_frz1 {F H : Hp} {p : Addr} {xs : List V} (hF : F p = none) : ∀ {vs : List V} {fs : List Fd} {j : Nat} {ds : List D}, FdsOk F H vs fs → (ownV vs fs).Nodup → fs[j]? = some (.ow ds) → vs[j]? = some (.ref p) → H p = some (.lst xs) → FdsOk (upd F p (.lst xs)) H vs (fs.set j (.fr (.list ds))) ∧ (∀ q ∈ ownV vs (fs.set j (.fr (.list ds))), q ∈ ownV vs fs ∧ q ≠ p) ∧ (ownV vs (fs.set j (.fr (.list ds)))).Nodup ∧ p ∈ ownV vs fs
  | _, _, _, _, .nil, _, h, _, _ => by simp at h
  | v :: vs, f :: fs, 0, ds, .cons h hs, nd, e1, e2, hp => by
    simp at e1 e2
    subst e1 e2
    obtain ⟨q, ys, e, h2, h3, h4⟩ := h
    cases e
    rw [hp] at h2; cases h2
    have nd' : (p :: ownV vs fs).Nodup := nd
    obtain ⟨n1, n2⟩ := List.nodup_cons.mp nd'
    refine ⟨.cons (.lst (Rd.of upd_same) (dps_mono (Evl.Ex.new hF) h4)) (hs.shr (Evl.Ex.new hF) fun q hq z => ?_), fun q hq => ⟨List.mem_cons_of_mem _ hq, fun z => n1 (by rw [← z]; exact hq)⟩, n2, List.mem_cons_self⟩
    rw [upd_ne (fun z => n1 (by rw [← z]; exact hq))]; exact z
  | v :: vs, f :: fs, j + 1, ds, .cons h hs, nd, e1, e2, hp => by
    rw [ownV_cons] at nd
    obtain ⟨n1, n2, n3⟩ := List.nodup_append.mp nd
    obtain ⟨a1, a2, a3, a4⟩ := fds_frz1 hF (j := j) hs n2 (by simpa using e1) (by simpa using e2) hp
    have hv : FdOk (upd F p (.lst xs)) H v f := by
      cases f with
      | fr d => exact dp_mono (Evl.Ex.new hF) h
      | ow d =>
        obtain ⟨q, ys, e, h2, h3, h4⟩ := h
        subst e
        have : q ≠ p := fun z => n3 q (by simp [ow1]) p a4 z
        exact ⟨q, ys, rfl, h2, by rw [upd_ne this]; exact h3, dps_mono (Evl.Ex.new hF) h4⟩
    refine ⟨.cons hv a1, fun q hq => ?_, ?_, ?_⟩
    · rw [List.set_cons_succ, ownV_cons] at hq
      rw [ownV_cons]
      rcases List.mem_append.mp hq with z | z
      · exact ⟨List.mem_append_left _ z, fun w => n3 q z p a4 w⟩
      · exact ⟨List.mem_append_right _ (a2 q z).1, (a2 q z).2⟩
    · rw [List.set_cons_succ, ownV_cons]
      exact List.nodup_append.mpr ⟨n1, a3, fun p hp q hq e => n3 p hp q (a2 q hq).1 e⟩
    · rw [ownV_cons]; exact List.mem_append_right _ a4
theorem RelB.frzF {cv : Nat → Value} {B : Bb} {ρ : Rho} {σ : L2.St} {F H : Hp} (r : RelB cv B ρ σ F H) (i j : Nat) : ∃ F', RelB cv B (frzF ρ i j) σ F' H := by
  unfold U.frzF
  cases h : ρ[i]? with
  | none => exact ⟨F, r⟩
  | some c =>
    cases c with
    | ob k fs =>
      simp only
      cases hj : fs[j]? with
      | none => exact ⟨F, r⟩
      | some f =>
        cases f with
        | fr d => exact ⟨F, r⟩
        | ow ds =>
          simp only
          obtain ⟨a, C, dx, vs, e1, e2, e3, e4, hl, e5, e6⟩ := r.rel.cell i _ h
          obtain ⟨v, hv, p, xs, rfl, h2, h3, h4⟩ := fds_get e5 hj
          obtain ⟨a1, a2, a3, a4⟩ := fds_frz1 h3 e5 e6 hj hv h2
          have nea : a ≠ p := fun z => by rw [z, h2] at e3; cases e3
          refine ⟨upd F p (.lst xs), r.obj (dx' := dx) (vs' := vs) h e1 e2 e3 hl ⟨Evl.Ex.new h3, wo_ex, fun b o q => ?_, fun b o q => ?_⟩ e3 (by rw [upd_ne nea]; exact e4) hl a1 a3 fun q hq => wo_in (List.mem_cons_of_mem _ (a2 q hq).1)⟩
          · by_cases z : b = p
            · subst z; rw [upd_same] at q; cases q; exact h2
            · rw [upd_ne z] at q; exact r.rel.le b o q
          · by_cases z : b = p
            · subst z; exact .inr (wo_in (List.mem_cons_of_mem _ a4))
            · rw [upd_ne z] at q; exact .inl q
    | _ => exact ⟨F, r⟩
def sFz (i j : Nat) (m : Ss) : Ss := fun ρ => m (frzF ρ i j)
theorem js_fz {X : Cx} {cv : Nat → Value} {W : WX} {st : Stmt} {m : Ss} {i j : Nat} (h : JF X cv W st m) : JF X cv W st (sFz i j m) := fun B =>
  PS.imp (h B) fun Dn σ H ⟨ρ, F, r, q⟩ => by
    obtain ⟨F', r'⟩ := r.frzF i j
    exact ⟨_, F', r', q⟩
/-! ### return C(x, e, y): a new object of own lists -/
def spIn (cv : Nat → Value) (k : Nat) : Sp := fun vs H Q E => ∃ a C dx us, vs = .ref a :: us ∧ cv k = .ref C ∧ H a = some (.ins C dx []) ∧ us.length = (flN k).length ∧ Q .non (upd H a (.ins C dx ((flN k).zip us)))
structure MkO (X : Cx) (cv : Nat → Value) (lv k : Nat) (x : Str) : Prop where
  ok : ∃ (C fi : Addr) (fd : FuncData) (ps : List Str), cv k = .ref C ∧ X.mg x = some (.ref C) ∧ Mk X.K C fi ∧ FnOk X.prog X.w X.K X.mg X.base (L2.CX X.prog X.w) lv fi fd ps (spIn cv k) ∧ Binds X.K fd ps []
def sRetP (k i j : Nat) (lk : List Nat) (m : Sm) : Ss := fun ρ0 => let ρ := frz ρ0 lk
  match ρ[i]?, ρ[j]? with
  | some (.ow xs), some (.ow ys) => if i ≠ j then (m ρ).fl ρ (fun _ => .bad) (fun es => .rb k [.ow xs, .ow es, .fr (.list ys)]) else .bad
  | _, _ => .bad
section
variable {X : Cx} {cv : Nat → Value} {W : WX} {e c : Expr} {es : List Expr} {st : Stmt} {m mi : Sm} {ms : List Sm} {a b : Ss} {lk : List Nat} {pos p p1 p2 apos tpos cpos : Pos}
theorem js_retP {i j k lv : Nat} {x y z : Str} (M : MkO X cv lv k z) (hr : Room (lv + 1) X.A) (hk : (flN k).length = 3) (hi : X.N[i]? = some x) (hvx : Vis X.env.scope x) (hdx : (x == ("__debug__" : Str)) = false) (hcx : (x == ("__classdict__" : Str)) = false) (hj : X.N[j]? = some y) (hvy : Vis X.env.scope y) (hdy : (y == ("__debug__" : Str)) = false) (hcy : (y == ("__classdict__" : Str)) = false)
    (hg : Gl X z) (hdb : (z == ("__debug__" : Str)) = false) (he : JE X cv W e m) (hs : notStar e = true) : JF X cv W (.Return (some (.Call (.Name z p) [.Name x p1, e, .Name y p2] [] cpos)) pos) (sRetP k i j lk m) := fun B => by
  obtain ⟨C, fi, fd, ps, hC, hm, Mk, Fk, hb⟩ := M.ok
  refine PS.imp (ps_ret (pe_make Mk Fk hr hg hm hb .nil (no_pass (k := 0) (n := 0)) (pa_cons (pe_var hi hvx hdx hcx) (pa_cons he (pa_cons (pe_var hj hvy hdy hcy) pa_nil) (star_cons hs))) hdb rfl (star_any (by simp [hs]; rfl)))) fun Dn σ H ⟨ρ0, F0, r0, q⟩ => ?_
  obtain ⟨F, r⟩ := RelB.frz (lk := lk) r0
  unfold sRetP at q
  simp only at q
  cases h1 : (frz ρ0 lk)[i]? with
  | none => rw [h1] at q; exact q.elim
  | some c1 =>
    cases h2 : (frz ρ0 lk)[j]? with
    | none => rw [h1, h2] at q; cases c1 <;> exact q.elim
    | some c2 =>
      rw [h1, h2] at q
      cases c1 <;> try exact q.elim
      cases c2 <;> try exact q.elim
      rename_i xs ys
      simp only at q
      split at q
      case isFalse => exact q.elim
      rename_i nij
      obtain ⟨q1, l1, a1, a2, a3, a4⟩ := r.rel.cell i _ h1
      obtain ⟨q3, l3, b1, b2, b3, b4⟩ := r.rel.cell j _ h2
      have n13 : q1 ≠ q3 := fun e => nij (r.rel.apart i j _ _ q1 h1 h2 (by rw [a1]; simp) (by rw [b1, e]; simp))
      refine ⟨_, a1, ?_⟩
      refine rd_st r q (fun d v F1 H1 ev hd q => q.elim) fun es q2 l2 F1 H1 ev g1 g2 g3 g4 q => ?_
      refine ⟨_, b1, fun x dx hx hdx' hne => ?_⟩
      have t1 := ev.hx _ _ a2
      have t3 := ev.hx _ _ b2
      have f3 : F1 q3 = none := own_not ev b3 b2
      have f1 : F1 q1 = none := own_not ev a3 a2
      have nx : ∀ b o, H1 b = some o → b ≠ x ∧ b ≠ dx := fun b o q => ⟨fun z => by (rw [z, hx] at q; cases q), fun z => by (rw [z, hdx'] at q; cases q)⟩
      refine ⟨x, C, dx, [.ref q1, .ref q2, .ref q3], rfl, hC, upd_same, hk.symm, rfl, ?_⟩
      have out : ∀ b o, H1 b = some o → upd (upd (upd H1 dx (.own x)) x (.ins C dx [])) x (.ins C dx ((flN k).zip [.ref q1, .ref q2, .ref q3])) b = some o := fun b o q => by
        obtain ⟨z1, z2⟩ := nx b o q
        rw [upd_ne z1, upd_ne z1, upd_ne z2]; exact q
      have exF : Ex F1 (upd F1 q3 (.lst l3)) := Evl.Ex.new f3
      have fx : F1 x = none := none_back ev.le hx
      have x3 : x ≠ q3 := fun z => (nx q3 _ t3).1 z.symm
      have n23 : q2 ≠ q3 := fun z => by rw [z, b2] at g1; cases g1
      have n12 : q1 ≠ q2 := fun z => by rw [← z, a2] at g1; cases g1
      refine q x C dx [.ref q1, .ref q2, .ref q3] (upd F1 q3 (.lst l3)) _ hC ⟨(r.evo.trans ev).ex.trans exF, fun b o q => out b o ((r.evo.trans ev).hx b o q), fun b o q => ?_, fun b o q => ?_⟩ (none_back (r.evo.trans ev).hx hx) upd_same (by rw [upd_ne x3]; exact fx) hk.symm ?_ ?_ ?_
      · by_cases z : b = q3
        · subst z; rw [upd_same] at q; cases q; exact out _ _ t3
        · rw [upd_ne z] at q; exact out b o (ev.le b o q)
      · by_cases z : b = q3
        · subst z; exact .inr (r.own j _ _ h2 (by rw [b1]; simp))
        · rw [upd_ne z] at q; exact (r.evo.trans ev).new b o q
      · refine .cons ⟨q1, l1, rfl, out _ _ t1, by rw [upd_ne n13]; exact f1, dps_mono (ev.ex.trans exF) a4⟩ (.cons ⟨q2, l2, rfl, out _ _ g3, by rw [upd_ne n23]; exact g2, dps_mono exF g4⟩ (.cons (.lst (Rd.of upd_same) (dps_mono (ev.ex.trans exF) b4)) .nil))
      · show [q1, q2].Nodup
        simp [n12]
      · intro q hq
        rcases List.mem_cons.mp (show q ∈ [q1, q2] from hq) with z | z
        · rw [z]; exact r.own i _ _ h1 (by rw [a1]; simp)
        · rw [List.mem_singleton.mp z]; exact none_back r.evo.hx g1
end
end U
set_option Elab.async false
set_option linter.all false
set_option maxRecDepth 100000
set_option maxHeartbeats 4000000
namespace U
open PySem PySem.Spec PyProof.Rows L2
/-- the object tables: which classes, which methods -/
inductive Mt where
  | pu (f : List D → List D → Res)
  | mu (f : List Fd → List D → MRes)
  | nw (f : List D → Option (List Fd))
  | mk
/-- name, class, arguments, worth -/
abbrev MtT := Str × Nat × Nat × Mt
def MtOk (P : Program) (w : World) (K : PySem.W.Frag) (mg : Str → Option Value) (base : Heap) (cv : Nat → Value) (lv : Nat) (t : MtT) : Prop := match t with
  | (m, k, n, .pu f) => ∃ (C fa : Addr) (fd : FuncData) (ps : List Str), cv k = .ref C ∧ Cls K C ∧ Meth K C m fa ∧ m ∉ flN k ∧ FnOk P w K mg base (L2.CX P w) lv fa fd ps (spPu cv k n f) ∧ Binds K fd ps []
  | (m, k, n, .mu f) => ∃ (C fa : Addr) (fd : FuncData) (ps : List Str), cv k = .ref C ∧ Cls K C ∧ Meth K C m fa ∧ m ∉ flN k ∧ FnOk P w K mg base (L2.CX P w) lv fa fd ps (spMu cv k n f) ∧ Binds K fd ps []
  | (x, k, n, .nw f) => ∃ (fa : Addr) (fd : FuncData) (ps : List Str), mg x = some (.ref fa) ∧ ps.length = n ∧ FnOk P w K mg base (L2.CX P w) lv fa fd ps (spNw cv k n f) ∧ PySem.W.keepIn K (.ref fa) = true ∧ Binds K fd ps []
  | (x, k, _, .mk) => ∃ (C fi : Addr) (fd : FuncData) (ps : List Str) (l : Nat), l + 1 ≤ lv ∧ cv k = .ref C ∧ mg x = some (.ref C) ∧ Mk K C fi ∧ FnOk P w K mg base (L2.CX P w) l fi fd ps (spIn cv k) ∧ Binds K fd ps []
theorem MtOk.mono {P : Program} {w : World} {K : PySem.W.Frag} {mg : Str → Option Value} {base : Heap} {cv : Nat → Value} {l l' : Nat} {t : MtT} (h : MtOk P w K mg base cv l t) (le : l ≤ l') : MtOk P w K mg base cv l' t := by
  obtain ⟨m, k, n, z⟩ := t
  cases z with
  | pu f => obtain ⟨C, fa, fd, ps, h1, h2, h3, h4, h5, h6⟩ := h; exact ⟨C, fa, fd, ps, h1, h2, h3, h4, h5.mono le, h6⟩
  | mu f => obtain ⟨C, fa, fd, ps, h1, h2, h3, h4, h5, h6⟩ := h; exact ⟨C, fa, fd, ps, h1, h2, h3, h4, h5.mono le, h6⟩
  | nw f => obtain ⟨fa, fd, ps, h1, h2, h3, h4, h5⟩ := h; exact ⟨fa, fd, ps, h1, h2, h3.mono le, h4, h5⟩
  | mk => obtain ⟨C, fi, fd, ps, l, h1, h2⟩ := h; exact ⟨C, fi, fd, ps, l, by omega, h2⟩
/-- what the table of a def tells of objects -/
def exO (ks : List Nat) (mts : List MtT) (lv : Nat) : Program → World → PySem.W.Frag → (Str → Option Value) → Heap → (Nat → Value) → Prop := fun P w K mg base cv => (∀ k ∈ ks, ClF K cv k) ∧ ∀ t ∈ mts, MtOk P w K mg base cv lv t
def Tb.so (T : Tb) (N : List Str) (k : Nat) (fns : List (Str × Nat × (List D → Res))) (ks : List Nat) (mts : List MtT) : S0 := ⟨N, k, fns, T.cls, T.cst, T.sub, T.nc, exO ks mts k⟩
/-! ### the start of a method -/
theorem rel_startO {cv : Nat → Value} {B : Bb} {N : List Str} {F H : Hp} {c0 : Cell} {v0 : V} {vs : List V} {ds : List D} (le : Ex F H) (h0 : CellOk cv F H (some (some v0)) c0) (hd : DrAll F vs ds) (evo : Evo B.1 B.2 F H) (hB : ∀ p ∈ owL H (some (some v0)) c0, B.2 p = none) (hs : ∀ a k fs, B.3 = some a → c0 = .ob k fs → v0 = .ref a) (hN : 1 ≤ N.length) :
    RelB cv B (c0 :: (ds.map .fr ++ List.replicate (N.length - 1 - ds.length) .un)) (start N (v0 :: vs)) F H := by
  have hl := dps_len hd
  have z0 : (start N (v0 :: vs))[0]? = some (some v0) := by
    rw [start_get, dif_pos (by simp)]; rfl
  have key : ∀ (i : Nat) (c : Cell), (c0 :: (ds.map Cell.fr ++ List.replicate (N.length - 1 - ds.length) .un))[i]? = some c → (i = 0 ∧ c = c0) ∨ c = .un ∨ ∃ d v, c = .fr d ∧ (start N (v0 :: vs))[i]? = some (some v) ∧ Dr F v d := fun i c e => by
    cases i with
    | zero => simp at e; exact .inl ⟨rfl, e.symm⟩
    | succ i =>
      right
      rw [List.getElem?_cons_succ] at e
      by_cases h : i < ds.length
      · rw [List.getElem?_append_left (by simpa using h)] at e
        rw [List.getElem?_map, List.getElem?_eq_getElem h] at e
        cases e
        obtain ⟨v, hv, hdr⟩ := dps_get hd (List.getElem?_eq_getElem h)
        refine .inr ⟨_, v, rfl, ?_, hdr⟩
        rw [start_get, dif_pos (by simp; omega)]
        rw [List.getElem?_eq_getElem (by omega)] at hv
        cases hv; rfl
      · rw [List.getElem?_append_right (by simpa using h), List.getElem?_replicate] at e
        split at e
        · cases e; exact .inl rfl
        · cases e
  refine ⟨⟨by simp [L2.start, hl]; omega, le, fun i c e => ?_, fun i j c c' p e1 e2 e3 e4 => ?_⟩, evo, fun i c p e1 e2 => ?_, fun a k fs h e => ?_⟩
  · rcases key i c e with ⟨rfl, rfl⟩ | rfl | ⟨d, v, rfl, h1, h2⟩
    · rw [z0]; exact h0
    · trivial
    · exact ⟨v, h1, h2⟩
  · rcases key i c e1 with ⟨i0, _⟩ | rfl | ⟨d, v, rfl, _⟩
    · rcases key j c' e2 with ⟨j0, _⟩ | rfl | ⟨d, v, rfl, _⟩
      · rw [i0, j0]
      · simp at e4
      · simp at e4
    · simp at e3
    · simp at e3
  · rcases key i c e1 with ⟨rfl, rfl⟩ | rfl | ⟨d, v, rfl, _⟩
    · rw [z0] at e2; exact hB p e2
    · simp at e2
    · simp at e2
  · simp at e
    rw [z0, hs a k fs h e]
/-! ### what a method is worth -/
def runP (nv k : Nat) (m : Ss) (fs ds : List D) : Res := match m (.ro k fs :: (ds.map .fr ++ List.replicate (nv - 1 - ds.length) .un)) with
  | .nx _ => .ok .none
  | .rt d => .ok d
  | .rm d _ => .ok d
  | _ => .bad
def obM (k : Nat) (ρ : Rho) (d : D) : MRes := match (ρ[0]? : Option Cell) with
  | some (.ob k' fs) => if k' = k then .ok fs d else .bad
  | _ => .bad
def runM (nv k : Nat) (m : Ss) (fs : List Fd) (ds : List D) : MRes := match m (.ob k fs :: (ds.map .fr ++ List.replicate (nv - 1 - ds.length) .un)) with
  | .nx ρ => obM k ρ .none
  | .rm d ρ => obM k ρ d
  | _ => .bad
def runN (nv k : Nat) (m : Ss) (ds : List D) : Option (List Fd) := match m (ds.map .fr ++ List.replicate (nv - ds.length) .un) with
  | .rb k' fs => if k' = k then some fs else none
  | _ => none
section
variable {P : Program} {w : World} {K : PySem.W.Frag} {mg : Str → Option Value} {base : Heap} {cv : Nat → Value} {T : Tb} {k n lv : Nat} {x qual : Str} {params : Arguments} {body : List Stmt} {scope : Scope} {f : Addr} {fd : FuncData} {N ps : List Str} {fns : List (Str × Nat × (List D → Res))} {ks : List Nat} {mts : List MtT} {m : Ss}
theorem gd_of {W : WX} {A0 : List (Str × Nat)} {cdv : Value} {Ar : Around} {outer : List PySem.Env} {s : Shared} {H : Hp} {E : XK} (B : Bs T cv K mg) (S : FnScope N ps scope) (A : AllKp P w K mg base cv lv fns) (ex : exO ks mts lv P w K mg base cv) (room : Room lv (cxOf (L2.CX P w) P w K mg base N qual scope f cdv Ar outer s H E).A) (tk : Takes (cxOf (L2.CX P w) P w K mg base N qual scope f cdv Ar outer s H E) W) :
    Gd (T.so N lv fns ks mts) cv (cxOf (L2.CX P w) P w K mg base N qual scope f cdv Ar outer s H E) W :=
  ⟨rfl, S.nd, rfl, room, tk, B.blt, fun p hp => ⟨(A.at p hp).ok⟩, B.cls, B.cst, ex⟩
theorem pu_ok (F : FunD K x qual params body scope [] [] f fd) (B : Bs T cv K mg) (S : FnScope N ps scope) (o : Option (OkSs (T.so N lv fns ks mts) scope body)) (ht : o.map (·.m) = some m) (A : AllKp P w K mg base cv lv fns) (ex : exO ks mts lv P w K mg base cv) (hn : ps.length = n + 1) (hN : 1 ≤ N.length) :
    FnOk P w K mg base (L2.CX P w) (lv + 1) f fd ps (spPu cv k n (runP N.length k m)) := by
  obtain ⟨r, hr, rfl⟩ := Option.map_eq_some_iff.mp ht
  refine FunD.ok F S (fun vs H Q E h => ?_) fun cdv Ar outer s H vs Q E room hsp => ?_
  · obtain ⟨_, _, _, _, _, _, args, ds, rfl, _, _, _, _, _, hd, hl, _⟩ := h
    rw [List.length_cons, dps_len hd, hl, hn]
  obtain ⟨F0, a, C, dx, us, fs, args, ds, rfl, le, hC, hF, hlu, hu, hd, hl, d, v, hf, hv, q⟩ := hsp
  let X := cxOf (L2.CX P w) P w K mg base N qual scope f cdv Ar outer s H E
  let W : WX := fun c d _ H' => E c d H'
  have tk : Takes X W := takes_of rfl rfl rfl rfl
  have g : Gd (T.so N lv fns ks mts) cv X W := gd_of (A0 := []) B S A ex room tk
  have gx : Gx (T.so N lv fns ks mts) cv X := ⟨fun _ => rfl, passes_of rfl, rfl, rfl, B.cl⟩
  refine ⟨rdF cv W ⟨F0, H, none⟩ r.m, r.ok cv X W g gx rfl ⟨F0, H, none⟩, ⟨_, F0, rel_startO (N := N) (c0 := .ro k fs) le ⟨a, C, dx, us, rfl, hC, hF, hlu, hu⟩ hd (Evo.refl le) (fun p hp => by simp at hp) (fun _ _ _ h => by cases h) hN, ?_⟩⟩
  unfold runP at hf
  cases h : r.m (.ro k fs :: (ds.map .fr ++ List.replicate (N.length - 1 - ds.length) .un)) with
  | nx ρ => rw [h] at hf; cases hf; cases hv; exact fun σ F1 H1 r1 => q H1 r1.evo.hx
  | rt d' => rw [h] at hf; cases hf; exact fun v' F1 H1 ev hv' => by cases sV_eq hv' hv; exact q H1 ev.hx
  | rm d' ρ => rw [h] at hf; cases hf; exact fun v' σ F1 H1 r1 hv' => by cases sV_eq hv' hv; exact q H1 r1.evo.hx
  | rn d' => rw [h] at hf; cases hf
  | rb k' d' => rw [h] at hf; cases hf
  | ex c ρ => rw [h] at hf; cases hf
  | bad => rw [h] at hf; cases hf
theorem mu_ok (F : FunD K x qual params body scope [] [] f fd) (B : Bs T cv K mg) (S : FnScope N ps scope) (o : Option (OkSs (T.so N lv fns ks mts) scope body)) (ht : o.map (·.m) = some m) (A : AllKp P w K mg base cv lv fns) (ex : exO ks mts lv P w K mg base cv) (hn : ps.length = n + 1) (hN : 1 ≤ N.length) :
    FnOk P w K mg base (L2.CX P w) (lv + 1) f fd ps (spMu cv k n (runM N.length k m)) := by
  obtain ⟨r, hr, rfl⟩ := Option.map_eq_some_iff.mp ht
  refine FunD.ok F S (fun vs H Q E h => ?_) fun cdv Ar outer s H vs Q E room hsp => ?_
  · obtain ⟨_, _, _, _, _, _, args, ds, rfl, _, _, _, _, _, _, _, hd, hl, _⟩ := h
    rw [List.length_cons, dps_len hd, hl, hn]
  obtain ⟨F0, a, C, dx, us, fs, args, ds, rfl, le, hC, hH, hF, hlu, hu, hnd, hd, hl, fs', d, v, hf, hv, q⟩ := hsp
  let X := cxOf (L2.CX P w) P w K mg base N qual scope f cdv Ar outer s H E
  let W : WX := fun c d _ H' => E c d H'
  have tk : Takes X W := takes_of rfl rfl rfl rfl
  have g : Gd (T.so N lv fns ks mts) cv X W := gd_of (A0 := []) B S A ex room tk
  have gx : Gx (T.so N lv fns ks mts) cv X := ⟨fun _ => rfl, passes_of rfl, rfl, rfl, B.cl⟩
  let B0 : Bb := ⟨F0, wo H (a :: ownV us fs), some a⟩
  have ol : owL H (some (some (.ref a))) (.ob k fs) = a :: ownV us fs := owL_ob hH hlu
  refine ⟨rdF cv W B0 r.m, r.ok cv X W g gx rfl B0, ⟨_, F0, rel_startO (B := B0) (N := N) (c0 := .ob k fs) le ⟨a, C, dx, us, rfl, hC, hH, hF, hlu, hu, hnd⟩ hd ⟨Evl.Ex.refl F0, wo_ex, le, fun _ _ z => .inl z⟩ (fun p hp => by rw [ol] at hp; exact wo_in hp) (fun a' _ _ h _ => by cases h; rfl) hN, ?_⟩⟩
  have fin : ∀ ρ d', obM k ρ d' = .ok fs' d → ∀ σ F1 H1, RelB cv B0 ρ σ F1 H1 → d' = d ∧ Q v H1 := fun ρ d' e σ F1 H1 r1 => by
    unfold obM at e
    cases h0 : ρ[0]? with
    | none => rw [h0] at e; cases e
    | some c =>
      rw [h0] at e
      cases c with
      | ob k' gs =>
        simp only at e
        split at e
        case isFalse => cases e
        rename_i hk
        subst hk
        cases e
        have s0 := r1.slf a k' _ rfl h0
        obtain ⟨a', C', dx', us', e1, e2, e3, e4, e5, e6, e7⟩ := r1.rel.cell 0 _ h0
        rw [s0] at e1; cases e1
        rw [hC] at e2; cases e2
        refine ⟨rfl, q F1 H1 dx' us' r1.evo e3 e4 e5 e6 e7 fun p hp => r1.own 0 _ p h0 ?_⟩
        rw [s0, owL_ob e3 e5]
        exact List.mem_cons_of_mem _ hp
      | _ => cases e
  unfold runM at hf
  cases h : r.m (.ob k fs :: (ds.map .fr ++ List.replicate (N.length - 1 - ds.length) .un)) with
  | nx ρ =>
    rw [h] at hf
    intro σ F1 H1 r1
    obtain ⟨e, z⟩ := fin ρ _ hf σ F1 H1 r1
    subst e; cases hv
    exact z
  | rm d' ρ =>
    rw [h] at hf
    intro v' σ F1 H1 r1 hv'
    obtain ⟨e, z⟩ := fin ρ _ hf σ F1 H1 r1
    subst e
    cases sV_eq hv' hv
    exact z
  | rt d' => rw [h] at hf; cases hf
  | rn d' => rw [h] at hf; cases hf
  | rb k' d' => rw [h] at hf; cases hf
  | ex c ρ => rw [h] at hf; cases hf
  | bad => rw [h] at hf; cases hf
theorem nw_ok (F : FunD K x qual params body scope [] [] f fd) (B : Bs T cv K mg) (S : FnScope N ps scope) (o : Option (OkSs (T.so N lv fns ks mts) scope body)) (ht : o.map (·.m) = some m) (A : AllKp P w K mg base cv lv fns) (ex : exO ks mts lv P w K mg base cv) (hn : ps.length = n) :
    FnOk P w K mg base (L2.CX P w) (lv + 1) f fd ps (spNw cv k n (runN N.length k m)) := by
  obtain ⟨r, hr, rfl⟩ := Option.map_eq_some_iff.mp ht
  refine FunD.ok F S (fun vs H Q E h => ?_) fun cdv Ar outer s H vs Q E room hsp => ?_
  · obtain ⟨_, ds, _, hd, hl, _⟩ := h
    rw [dps_len hd, hl, hn]
  obtain ⟨F0, ds, le, hd, hl, fs, hf, q⟩ := hsp
  let X := cxOf (L2.CX P w) P w K mg base N qual scope f cdv Ar outer s H E
  let W : WX := fun c d _ H' => E c d H'
  have tk : Takes X W := takes_of rfl rfl rfl rfl
  have g : Gd (T.so N lv fns ks mts) cv X W := gd_of (A0 := []) B S A ex room tk
  have gx : Gx (T.so N lv fns ks mts) cv X := ⟨fun _ => rfl, passes_of rfl, rfl, rfl, B.cl⟩
  refine ⟨rdF cv W ⟨F0, H, none⟩ r.m, r.ok cv X W g gx rfl ⟨F0, H, none⟩, ⟨_, F0, rel_start (N := N) le hd, ?_⟩⟩
  unfold runN at hf
  cases h : r.m (ds.map .fr ++ List.replicate (N.length - ds.length) .un) with
  | rb k' gs =>
    rw [h] at hf
    simp only at hf
    split at hf
    case isFalse => cases hf
    rename_i hk
    subst hk; cases hf
    exact fun a C dx vs F1 H1 g0 ev g1 g2 g3 g4 g5 g6 g7 => q a C dx vs F1 H1 g0 ev g1 g2 g3 g4 g5 g6 g7
  | nx ρ => rw [h] at hf; cases hf
  | rm d' ρ => rw [h] at hf; cases hf
  | rt d' => rw [h] at hf; cases hf
  | rn d' => rw [h] at hf; cases hf
  | ex c ρ => rw [h] at hf; cases hf
  | bad => rw [h] at hf; cases hf
/-- an ordinary def, read with objects -/
theorem def_okB (F : FunD K x qual params body scope [] [] f fd) (B : Bs T cv K mg) (S : FnScope N ps scope) (o : Option (OkSs (T.so N lv fns ks mts) scope body)) (ht : o.map (·.m) = some m) (A : AllKp P w K mg base cv lv fns) (ex : exO ks mts lv P w K mg base cv) : FnOk P w K mg base (L2.CX P w) (lv + 1) f fd ps (spOf cv ps.length (runF N.length m)) := by
  obtain ⟨r, hr, rfl⟩ := Option.map_eq_some_iff.mp ht
  refine FunD.ok F S (fun vs H Q E h => spOf_len h) fun cdv Ar outer s H vs Q E room hsp => ?_
  obtain ⟨F0, ds, le, hd, hl, q⟩ := hsp
  let X := cxOf (L2.CX P w) P w K mg base N qual scope f cdv Ar outer s H E
  let W : WX := fun c d _ H' => E c d H'
  have tk : Takes X W := takes_of rfl rfl rfl rfl
  have g : Gd (T.so N lv fns ks mts) cv X W := gd_of (A0 := []) B S A ex room tk
  have gx : Gx (T.so N lv fns ks mts) cv X := ⟨fun _ => rfl, passes_of rfl, rfl, rfl, B.cl⟩
  refine ⟨rdF cv W ⟨F0, H, none⟩ r.m, r.ok cv X W g gx rfl ⟨F0, H, none⟩, ⟨_, F0, rel_start (N := N) le hd, ?_⟩⟩
  have q' : GotE cv W F0 H [] Q (runF N.length r.m ds) := q
  unfold runF at q'
  cases h : r.m (ds.map .fr ++ List.replicate (N.length - ds.length) .un) with
  | nx ρ => rw [h] at q'; exact fun σ F1 H1 r1 => q' .non F1 H1 r1.evo .non
  | rt d => rw [h] at q'; exact fun v F1 H1 ev hv => q' v F1 H1 ev hv
  | rn d => rw [h] at q'; exact fun p xs F1 H1 ev h1 h2 h3 h4 => q' p xs F1 H1 ev h1 h2 h3 h4
  | rm d ρ => rw [h] at q'; exact fun v σ F1 H1 r1 hv => q' v F1 H1 r1.evo hv
  | rb k fs => rw [h] at q'; exact q'.elim
  | ex c ρ => rw [h] at q'; exact fun σ F1 H1 r1 => q' F1 H1 r1.evo
  | bad => rw [h] at q'; exact q'
end
end U
set_option Elab.async false
set_option linter.all false
set_option maxRecDepth 100000
set_option maxHeartbeats 4000000
namespace U
open PySem PySem.Spec PyProof.Rows L2
/-! ### list(range(a, b)) -/
def rgD (a b : Int) : List D := (List.range (b - a).toNat).map fun i => .int (a + (i : Nat))
def gLRg : D → D → Rp
  | .int a, .int b => if -1000000 ≤ a ∧ a ≤ 1000000 ∧ -1000000 ≤ b ∧ b ≤ 1000000 then .new (rgD a b) else .bad
  | _, _ => .bad
theorem dr_rg (F : Hp) (a b : Int) : DrAll F (rgV a b) (rgD a b) := by
  unfold rgV rgD
  generalize List.range (b - a).toNat = l
  induction l with
  | nil => exact .nil
  | cons i r ih => exact .cons (.int _) ih
theorem j_lrg {X : Cx} {cv : Nat → Value} {W : WX} {a b : Expr} {ma mb : Sm} {p p2 p3 pos : Pos} (hc : X.calm = true) (hg : Gl X "list") (hm : X.mg "list" = none) (hg2 : Gl X "range") (hm2 : X.mg "range" = none) (ha : JW X cv W a ma) (hb : JW X cv W b mb) (h1 : notStar a = true) (h2 : notStar b = true) : JE X cv W (.Call (.Name "list" p) [.Call (.Name "range" p2) [a, b] [] p3] [] pos) (e2 gLRg ma mb) :=
  PE.imp (pe_listRg hc hg hm (prg_2 hg2 hm2 ha hb (star_cons h1) (star_cons h2) (star_any (by simp [h2])))) fun σ H Q ⟨ρ, F, r, q⟩ =>
    rd2 (g := fun x y => (gLRg x y).up) (R := fun z F H => GotE cv W F H σ Q z) r (fun _ _ _ h => h) (fun _ _ h => h) (fun _ _ _ _ _ e h => GotE.evo e h) q
      fun x y dx dy F H le wx wy h => by
        have h := GotP.of h
        cases dx <;> cases dy <;> try exact h.elim
        cases wx.int; cases wy.int
        obtain ⟨hz, h⟩ := if_bad h
        exact ⟨_, _, rfl, rfl, ⟨by omega, by omega, by omega, by omega, by omega⟩, fun l hl => QN.lst le h (dr_rg F _ _) hl⟩
/-! ### a comprehension over an own list, whose items are scalars: the list stays its own -/
def scL (ds : List D) : Bool := ds.all fun d => (sV d).isSome
def eCompK (i : Nat) (T : Tg) (own : List Nat) (mc : Option Sm) (me : Sm) : Sm := fun ρ => match ρ[i]? with
  | some (.ow ds) => (match eComp (iSeq (eV i)) T own mc me (ρ.set i (.fr (.list ds))) with
    | .new rs => if scL rs = true then .new rs else .bad
    | _ => .bad)
  | _ => .bad
theorem dr_sc {F : Hp} : ∀ {vs : List V} {ds : List D}, DrAll F vs ds → scL ds = true → ∀ F', DrAll F' vs ds
  | _, _, .nil, _, _ => .nil
  | _, _, .cons h hs, e, F' => by
    obtain ⟨e1, e2⟩ := Bool.and_eq_true_iff.mp (show ((sV _).isSome && scL _) = true from e)
    obtain ⟨w, hw⟩ := Option.isSome_iff_exists.mp e1
    rw [sV_eq h hw]
    exact .cons (sV_dr hw F') (dr_sc hs e2 F')
theorem rel_frz1 {cv : Nat → Value} {ρ : Rho} {σ : L2.St} {F H : Hp} {i : Nat} {ds : List D} (r : Rel cv ρ σ F H) (h : ρ[i]? = some (.ow ds)) : ∃ F', Rel cv (ρ.set i (.fr (.list ds))) σ F' H ∧ Ex F F' := by
  have rB : RelB cv ⟨F, fun _ => none, none⟩ ρ σ F H := ⟨r, ⟨Evl.Ex.refl F, (fun a u q => by cases q), r.le, fun _ _ z => .inl z⟩, (fun _ _ _ _ _ => rfl), (fun _ _ _ z => by cases z)⟩
  obtain ⟨F', r'⟩ := rB.frz1 i
  have e : frz1 ρ i = ρ.set i (.fr (.list ds)) := by unfold U.frz1; rw [h]
  rw [e] at r'
  exact ⟨F', r'.rel, r'.evo.ex⟩
theorem je_K {X : Cx} {cv : Nat → Value} {W : WX} {e : Expr} {i : Nat} {T : Tg} {own : List Nat} {mc : Option Sm} {me : Sm} (h : JE X cv W e (eComp (iSeq (eV i)) T own mc me)) : JE X cv W e (eCompK i T own mc me) :=
  PE.imp h fun σ H Q ⟨ρ, F, r, q⟩ => by
    unfold eCompK at q
    cases hi : ρ[i]? with
    | none => rw [hi] at q; exact q.elim
    | some c =>
      rw [hi] at q
      cases c with
      | ow ds =>
        simp only at q
        obtain ⟨F2, r2, ex⟩ := rel_frz1 r hi
        refine ⟨_, F2, r2, ?_⟩
        cases hc : eComp (iSeq (eV i)) T own mc me (ρ.set i (.fr (.list ds))) with
        | ok d => rw [hc] at q; exact q.elim
        | exc d => rw [hc] at q; exact q.elim
        | bad => rw [hc] at q; exact q.elim
        | new rs =>
          rw [hc] at q
          simp only at q
          split at q
          case isFalse => exact q.elim
          rename_i hs
          intro p xs F' H' ev h1 h2 h3 h4
          have le' : Ex F H' := r.le.trans ev.hx
          exact q p xs F H' ⟨Evl.Ex.refl F, ev.hx, le', fun _ _ z => .inl z⟩ h1 (none_back r.le h1) h3 (dr_sc h4 hs F)
      | _ => exact q.elim
/-! ### the translation, with objects -/
section
variable {T : Tb} {N : List Str} {lv : Nat} {fns : List (Str × Nat × (List D → Res))} {ks : List Nat} {mts : List MtT}
def fldOf (ov : List (Str × Nat)) (x f : Str) : Option { q : Nat × Nat // q.1 ∈ ks ∧ (flN q.1)[q.2]? = some f ∧ (flN q.1).findIdx (· == f) = q.2 } :=
  match ov.lookup x with
  | none => none
  | some k => if h : k ∈ ks ∧ (flN k)[(flN k).findIdx (· == f)]? = some f then some ⟨(k, (flN k).findIdx (· == f)), h.1, h.2, rfl⟩ else none
def attE (ov : List (Str × Nat)) (sc : Scope) : (e : Expr) → Option (OkE (Tb.so T N lv fns ks mts) sc e)
  | .Attribute (.Name x p) f pos => (slotOf (Tb.so T N lv fns ks mts) sc x).bind fun i => (fldOf (ks := ks) ov x f).map fun q => ⟨eFV q.1.1 i.1 q.1.2, [], fun cv X W g h => j_fv (g.ext.1 _ q.2.1) (by rw [g.nN]; exact i.2.1) (by rw [h]; exact i.2.2.1) i.2.2.2.1 i.2.2.2.2 q.2.2.1 q.2.2.2⟩
  | _ => none
def attW (ov : List (Str × Nat)) (sc : Scope) : (e : Expr) → Option (OkW (Tb.so T N lv fns ks mts) sc e)
  | .Attribute (.Name x p) f pos => (slotOf (Tb.so T N lv fns ks mts) sc x).bind fun i => (fldOf (ks := ks) ov x f).map fun q => ⟨eFK q.1.1 i.1 q.1.2, [], fun cv X W g h => j_fk (g.ext.1 _ q.2.1) (by rw [g.nN]; exact i.2.1) (by rw [h]; exact i.2.2.1) i.2.2.2.1 i.2.2.2.2 q.2.2.1 q.2.2.2⟩
  | _ => none
def puOf : (m : Str) → Option { q : Nat × Nat × (List D → List D → Res) // (m, q.1, q.2.1, Mt.pu q.2.2) ∈ mts } := fun m =>
  match hf : mts.find? (fun q => q.1 == m) with
  | some (y, k, n, .pu f) => some ⟨(k, n, f), by
      have h1 := List.mem_of_find?_eq_some hf
      have h2 : y = m := by simpa using List.find?_some hf
      rw [← h2]; exact h1⟩
  | _ => none
def muOf : (m : Str) → Option { q : Nat × Nat × (List Fd → List D → MRes) // (m, q.1, q.2.1, Mt.mu q.2.2) ∈ mts } := fun m =>
  match hf : mts.find? (fun q => q.1 == m) with
  | some (y, k, n, .mu f) => some ⟨(k, n, f), by
      have h1 := List.mem_of_find?_eq_some hf
      have h2 : y = m := by simpa using List.find?_some hf
      rw [← h2]; exact h1⟩
  | _ => none
def nwOf : (m : Str) → Option { q : Nat × Nat × (List D → Option (List Fd)) // (m, q.1, q.2.1, Mt.nw q.2.2) ∈ mts } := fun m =>
  match hf : mts.find? (fun q => q.1 == m) with
  | some (y, k, n, .nw f) => some ⟨(k, n, f), by
      have h1 := List.mem_of_find?_eq_some hf
      have h2 : y = m := by simpa using List.find?_some hf
      rw [← h2]; exact h1⟩
  | _ => none
def mkOf : (m : Str) → Option { q : Nat × Nat // (m, q.1, q.2, Mt.mk) ∈ mts } := fun m =>
  match hf : mts.find? (fun q => q.1 == m) with
  | some (y, k, n, .mk) => some ⟨(k, n), by
      have h1 := List.mem_of_find?_eq_some hf
      have h2 : y = m := by simpa using List.find?_some hf
      rw [← h2]; exact h1⟩
  | _ => none
def mpE (r : TR (Tb.so T N lv fns ks mts)) (sc : Scope) : (e : Expr) → Option (OkE (Tb.so T N lv fns ks mts) sc e)
  | .Call (.Attribute (.Name x p) m apos) (e :: es) [] pos => (slotOf (Tb.so T N lv fns ks mts) sc x).bind fun i => (puOf (mts := mts) m).bind fun q => (aOf r sc (e :: es)).bind fun a =>
      if hz : (e :: es).length = q.1.2.1 ∧ es.length < 28 ∧ (apos.endLine == pos.line) = true then some ⟨eMP q.1.1 i.1 q.1.2.2 a.ms, a.lk, fun cv X W g h => by
        exact j_mp (n := q.1.2.1) (lv := lv) ⟨g.ext.2 _ q.2⟩ g.room (by rw [g.nN]; exact i.2.1) (by rw [h]; exact i.2.2.1) i.2.2.2.1 i.2.2.2.2 (a.ok cv X W g h) (by rw [a.n]; exact hz.1) (all_cons a.st).1 (all_cons a.st).2 hz.2.1 hz.2.2⟩ else none
  | _ => none
def lrE (r : TR (Tb.so T N lv fns ks mts)) (sc : Scope) : (e : Expr) → Option (OkE (Tb.so T N lv fns ks mts) sc e)
  | .Call (.Name x p) [.Call (.Name y p2) [a, b] [] p3] [] pos => if hz : x = "list" ∧ y = "range" ∧ glB sc x = true ∧ glB sc y = true ∧ notStar a = true ∧ notStar b = true then (wOf r sc a).bind fun u => (wOf r sc b).map fun v => ⟨e2 gLRg u.m v.m, u.lk ++ v.lk, fun cv X W g h => by
      obtain ⟨z1, z2, z3, z4, z5, z6⟩ := hz
      subst z1 z2
      exact j_lrg g.calm (Gd.gl (cv := cv) (W := W) h z3) (g.blt _ (by decide +kernel)) (Gd.gl (cv := cv) (W := W) h z4) (g.blt _ (by decide +kernel)) (u.ok cv X W g h) (v.ok cv X W g h) z5 z6⟩ else none
  | _ => none
/-- [.. for .. in x], x a name of kv -/
def kcE (kv : List Str) (r : TR (Tb.so T N lv fns ks mts)) (sc : Scope) : (e : Expr) → Option (OkE (Tb.so T N lv fns ks mts) sc e)
  | .ListComp elt [⟨tg, .Name x p, ifs, 0⟩] scope pos => if kv.contains x then (slotOf (Tb.so T N lv fns ks mts) sc x).bind fun i => (tgOf (Tb.so T N lv fns ks mts) (relS scope sc) (cellB scope) tg).bind fun TT => (condOf r scope sc ifs).bind fun mc => (r.e (relS scope sc) elt).bind fun me =>
      if h : blkC (Tb.so T N lv fns ks mts).N sc scope (ownOf (Tb.so T N lv fns ks mts).N scope) = true ∧ (∀ i ∈ TT.T.slots, i ∈ (ownOf (Tb.so T N lv fns ks mts).N scope).map (·.2)) then
        some ⟨eCompK i.1 TT.T ((ownOf (Tb.so T N lv fns ks mts).N scope).map (·.2)) mc.1.1 me.m, mc.1.2 ++ me.lk, fun cv X W g e => by
          have hi : JI X cv W tg (.Name x p) (iSeq (eV i.1)) := ji_seq (JE.s (j_var (by rw [g.nN]; exact i.2.1) (by rw [e]; exact i.2.2.1) i.2.2.2.1 i.2.2.2.2))
          exact je_K (j_comp g.calm g.nd hi (by rw [g.nN, e]; exact blkOk_by h.1) (fun s H C cl fp => (TT.ok cv (X.blk s H scope (compEnvC scope cl C X.env) fp) g.nN g.nd g.calm (by show relS scope X.env.scope = _; rw [e]) fun x hx => hx).1) (mc.2 cv X W g e)
            (fun s H C cl fp => me.ok cv _ WF (g.blk s H scope _ fp) (by show relS scope X.env.scope = _; rw [e])) h.2 (fun v => foldSet_of rfl v))⟩ else none
    else none
  | _ => none
def stepEG (kv : List Str) (ov : List (Str × Nat)) (r : TR (Tb.so T N lv fns ks mts)) (sc : Scope) (e : Expr) : Option (OkE (Tb.so T N lv fns ks mts) sc e) := match kcE kv r sc e with
  | some x => some x
  | none => match stepE r sc e with
  | some x => some x
  | none => match attE ov sc e with
    | some x => some x
    | none => match mpE r sc e with
      | some x => some x
      | none => lrE r sc e
def trG (kv : List Str) (ov : List (Str × Nat)) : Nat → TR (Tb.so T N lv fns ks mts)
  | 0 => ⟨fun _ _ => none, fun _ _ => none, fun _ _ => none⟩
  | n + 1 => ⟨stepEG kv ov (trG kv ov n), stepT (trG kv ov n), attW ov⟩
/-! statements -/
def asgG (ov : List (Str × Nat)) (fz : List Str) (r : TR (Tb.so T N lv fns ks mts)) (sc : Scope) (e : Expr) (pos : Pos) : (tg : Expr) → Option (OkS (Tb.so T N lv fns ks mts) sc (.Assign [tg] e pos))
  | .Attribute (.Name x p) f apos => (slotOf (Tb.so T N lv fns ks mts) sc x).bind fun i => (fldOf (ks := ks) ov x f).bind fun q => (r.e sc e).bind fun a => if hk : (flN q.1.1).length < 1000 then
      (if fz.contains f then some ⟨sFSetF q.1.1 i.1 q.1.2 a.lk a.m, fun cv X W g gx h => js_fsetF (g.ext.1 _ q.2.1) (by rw [g.nN]; exact i.2.1) (by rw [h]; exact i.2.2.1) i.2.2.2.1 i.2.2.2.2 q.2.2.1 q.2.2.2 hk (a.ok cv X W g h) (by cases e <;> rfl)⟩
      else some ⟨sFSet q.1.1 i.1 q.1.2 a.lk a.m, fun cv X W g gx h => js_fset (g.ext.1 _ q.2.1) (by rw [g.nN]; exact i.2.1) (by rw [h]; exact i.2.2.1) i.2.2.2.1 i.2.2.2.2 q.2.2.1 q.2.2.2 hk (a.ok cv X W g h) (by cases e <;> rfl)⟩) else none
  | .Subscript (.Attribute (.Name x p) f apos) ix tpos => (slotOf (Tb.so T N lv fns ks mts) sc x).bind fun i => (fldOf (ks := ks) ov x f).bind fun q => (r.e sc e).bind fun a => (r.e sc ix).bind fun b => if hp : plainIx ix = true then
      some ⟨sFItem q.1.1 i.1 q.1.2 (a.lk ++ b.lk) b.m a.m, fun cv X W g gx h => js_fitem (g.ext.1 _ q.2.1) (by rw [g.nN]; exact i.2.1) (by rw [h]; exact i.2.2.1) i.2.2.2.1 i.2.2.2.2 q.2.2.1 q.2.2.2 (a.ok cv X W g h) (b.ok cv X W g h) sw_sub (item_asg hp)⟩ else none
  | .Name x p => match e with
    | .Call (.Name y yp) (a0 :: es) [] cpos => (storeOf (Tb.so T N lv fns ks mts) sc tbF x).bind fun i => (nwOf (mts := mts) y).bind fun q => (aOf r sc (a0 :: es)).bind fun a => if hz : (a0 :: es).length = q.1.2.1 ∧ glB sc y = true then
        some ⟨sNew q.1.1 i.1 q.1.2.2 a.lk a.ms, fun cv X W g gx h => by
          obtain ⟨h1, h2, h3⟩ := i.2 X g.nN h fun y _ => gx.fnT y
          exact js_new (n := q.1.2.1) (lv := lv) ⟨g.ext.2 _ q.2⟩ g.room g.nd h1 h2 h3 (Gd.gl (cv := cv) (W := W) h hz.2) (gl_of hz.2).2 (a.ok cv X W g h) (by rw [a.n]; exact hz.1) (all_cons a.st).1 (all_cons a.st).2⟩ else none
    | _ => none
  | _ => none
def expG (r : TR (Tb.so T N lv fns ks mts)) (sc : Scope) (pos : Pos) : (e : Expr) → Option (OkS (Tb.so T N lv fns ks mts) sc (.Expr e pos))
  | .Call (.Attribute (.Name x p) m apos) (e :: es) [] cpos => (slotOf (Tb.so T N lv fns ks mts) sc x).bind fun i => (muOf (mts := mts) m).bind fun q => (aOf r sc (e :: es)).bind fun a =>
      if hz : (e :: es).length = q.1.2.1 ∧ es.length < 28 ∧ (apos.endLine == cpos.line) = true then some ⟨sMut q.1.1 i.1 q.1.2.2 a.lk a.ms, fun cv X W g gx h => by
        exact js_mut (n := q.1.2.1) (lv := lv) ⟨g.ext.2 _ q.2⟩ g.room (by rw [g.nN]; exact i.2.1) (by rw [h]; exact i.2.2.1) i.2.2.2.1 i.2.2.2.2 (a.ok cv X W g h) (by rw [a.n]; exact hz.1) (all_cons a.st).1 (all_cons a.st).2 hz.2.1 hz.2.2⟩ else none
  | _ => none
def ifG (r : TR (Tb.so T N lv fns ks mts)) (t : TS0 (Tb.so T N lv fns ks mts)) (sc : Scope) (sa sb : List Stmt) (pos : Pos) : (c : Expr) → Option (OkS (Tb.so T N lv fns ks mts) sc (.If c sa sb pos))
  | .UnaryOp .Not (.Call (.Attribute (.Name x p) m apos) (e :: es) [] cpos) npos => (slotOf (Tb.so T N lv fns ks mts) sc x).bind fun i => (muOf (mts := mts) m).bind fun q => (aOf r sc (e :: es)).bind fun a => (ssOf t sc sa).bind fun y => (ssOf t sc sb).bind fun z =>
      if hz : (e :: es).length = q.1.2.1 ∧ es.length < 28 ∧ (apos.endLine == cpos.line) = true then some ⟨sIfM q.1.1 i.1 q.1.2.2 a.lk a.ms y.m z.m, fun cv X W g gx h => by
        exact js_ifM (n := q.1.2.1) (lv := lv) ⟨g.ext.2 _ q.2⟩ g.room (by rw [g.nN]; exact i.2.1) (by rw [h]; exact i.2.2.1) i.2.2.2.1 i.2.2.2.2 (a.ok cv X W g h) (by rw [a.n]; exact hz.1) (all_cons a.st).1 (all_cons a.st).2 hz.2.1 hz.2.2 (y.ok cv X W g gx h) (z.ok cv X W g gx h)⟩ else none
  | _ => none
def retG (rm : Bool) (r : TR (Tb.so T N lv fns ks mts)) (sc : Scope) (pos : Pos) : (o : Option Expr) → Option (OkS (Tb.so T N lv fns ks mts) sc (.Return o pos))
  | some (.Call (.Name z p) [.Name x p1, e, .Name y p2] [] cpos) => (mkOf (mts := mts) z).bind fun q => (slotOf (Tb.so T N lv fns ks mts) sc x).bind fun i => (slotOf (Tb.so T N lv fns ks mts) sc y).bind fun j => (r.e sc e).bind fun a =>
      if hz : (flN q.1.1).length = 3 ∧ glB sc z = true ∧ notStar e = true then some ⟨sRetP q.1.1 i.1 j.1 a.lk a.m, fun cv X W g gx h => by
        obtain ⟨C, fi, fd, ps, l, hl, hM⟩ := g.ext.2 _ q.2
        exact js_retP (lv := l) ⟨C, fi, fd, ps, hM⟩ (g.room.mono hl) hz.1 (by rw [g.nN]; exact i.2.1) (by rw [h]; exact i.2.2.1) i.2.2.2.1 i.2.2.2.2 (by rw [g.nN]; exact j.2.1) (by rw [h]; exact j.2.2.1) j.2.2.2.1 j.2.2.2.2 (Gd.gl (cv := cv) (W := W) h hz.2.1) (gl_of hz.2.1).2 (a.ok cv X W g h) hz.2.2⟩ else none
  | some e => if rm = true then (r.e sc e).map fun a => ⟨sRetM a.lk a.m, fun cv X W g gx h => js_retM (a.ok cv X W g h)⟩ else none
  | none => none
def objS (ov : List (Str × Nat)) (fz : List Str) (rm : Bool) (r : TR (Tb.so T N lv fns ks mts)) (t : TS0 (Tb.so T N lv fns ks mts)) (sc : Scope) : (st : Stmt) → Option (OkS (Tb.so T N lv fns ks mts) sc st)
  | .Assign [tg] e pos => asgG ov fz r sc e pos tg
  | .Expr e pos => expG r sc pos e
  | .If c sa sb pos => ifG r t sc sa sb pos c
  | .Return o pos => retG rm r sc pos o
  | _ => none
/-- for .. in enumerate(x.f): the field is shared from now on -/
def fzS (ov : List (Str × Nat)) (fv : List Str) (r : TR (Tb.so T N lv fns ks mts)) (t : TS0 (Tb.so T N lv fns ks mts)) (sc : Scope) : (st : Stmt) → Option (OkS (Tb.so T N lv fns ks mts) sc st)
  | .For tg (.Call (.Name n np) [.Attribute (.Name x p) f ap] [] cp) body [] pos => if fv.contains x then (slotOf (Tb.so T N lv fns ks mts) sc x).bind fun i => (fldOf (ks := ks) ov x f).bind fun q => (stepS r t sc (.For tg (.Call (.Name n np) [.Attribute (.Name x p) f ap] [] cp) body [] pos)).map fun y => ⟨sFz i.1 q.1.2 y.m, fun cv X W g gx h => js_fz (y.ok cv X W g gx h)⟩ else none
  | _ => none
def stepG (ov : List (Str × Nat)) (fz fv : List Str) (rm : Bool) (r : TR (Tb.so T N lv fns ks mts)) (t : TS0 (Tb.so T N lv fns ks mts)) (sc : Scope) (st : Stmt) : Option (OkS (Tb.so T N lv fns ks mts) sc st) := match objS ov fz rm r t sc st with
  | some x => some x
  | none => match fzS ov fv r t sc st with
    | some x => some x
    | none => stepS r t sc st
def trSG (ov : List (Str × Nat)) (fz fv : List Str) (rm : Bool) (r : TR (Tb.so T N lv fns ks mts)) : Nat → TS0 (Tb.so T N lv fns ks mts)
  | 0 => ⟨fun _ _ => none⟩
  | n + 1 => ⟨stepG ov fz fv rm r (trSG ov fz fv rm r n)⟩
end
/-- a body with objects -/
def trO (T : Tb) (N : List Str) (lv : Nat) (fns : List (Str × Nat × (List D → Res))) (ks : List Nat) (mts : List MtT) (ov : List (Str × Nat)) (fz fv kv : List Str) (rm : Bool) (sc : Scope) (body : List Stmt) : Option (OkSs (T.so N lv fns ks mts) sc body) :=
  ssOf (trSG ov fz fv rm (trG kv ov 40) 12) sc body
end U
set_option Elab.async false
set_option linter.all false
set_option maxRecDepth 100000
set_option maxHeartbeats 4000000
namespace U
open PySem PySem.Spec PyProof.Rows L2
/-! ### the text's classes -/
section
variable {P : Program} {w : World} {h : Heap} {K : PySem.W.Frag} {mg : Str → Option Value} {base : Heap} {cv : Nat → Value} {T : Tb} {ds : List Str} {fn : List He.DefD} {fo : List He.Fa}
theorem defM_of {c m : Str} {st : Stmt} (s : He.SaysX (faU T ds ++ fo) fn [] [] (exU T) w h K) (hx : dOfM c m st ∈ fn) : ∃ fd, FunD K m (c ++ "." ++ m) (defArgs st) (defBody st) (defScope st) [] [] (He.ma K (He.ga K c) m) fd := s.t.d.defs hx
theorem kp_ofB {k n : Nat} {x qual : Str} {params : Arguments} {body : List Stmt} {scope : Scope} {f : Addr} {fd : FuncData} {N ps : List Str} {fns : List (Str × Nat × (List D → Res))} {ks : List Nat} {mts : List MtT} {m : Ss} {fm : List D → Res}
    (F : FunD K x qual params body scope [] [] f fd) (hg : mg x = some (.ref f)) (B : Bs T cv K mg) (S : FnScope N ps scope) (hn : ps.length = n) (hb : ∀ (kV doc pm : Value) (an : Option Addr) (cdv ct : Value) (us : List Value), us.length = ps.length → bindArgs (PySem.W.fnOf x qual params body scope .none kV doc pm an cdv ct) ⟨us, []⟩ = pure (ps.zip us))
    (o : Option (OkSs (T.so N k fns ks mts) scope body)) (ht : o.map (·.m) = some m) (hf : fm = runF N.length m) (A : AllKp P w K mg base cv k fns) (ex : exO ks mts k P w K mg base cv) : Kp P w K mg base cv (k + 1) x n fm := by
  subst hf hn
  exact ⟨f, fd, ps, hg, rfl, def_okB F B S o ht A ex, F.kp, F.bindsN hb⟩
/-- __init__ of three fields -/
theorem in_ok {k : Nat} {x qual : Str} {params : Arguments} {body : List Stmt} {scope : Scope} {f : Addr} {fd : FuncData} {s0 a1 a2 a3 f1 f2 f3 : Str} {q1 q2 q3 q4 q5 q6 q7 q8 q9 q10 q11 q12 : Pos}
    (F : FunD K x qual params body scope [] [] f fd) (S : FnScope [s0, a1, a2, a3] [s0, a1, a2, a3] scope) (hk : flN k = [f1, f2, f3]) (C : ClF K cv k)
    (hb : body = [.Assign [.Attribute (.Name s0 q1) f1 q2] (.Name a1 q3) q4, .Assign [.Attribute (.Name s0 q5) f2 q6] (.Name a2 q7) q8, .Assign [.Attribute (.Name s0 q9) f3 q10] (.Name a3 q11) q12])
    (hv : visB scope s0 = true ∧ visB scope a1 = true ∧ visB scope a2 = true ∧ visB scope a3 = true ∧ okName s0 = true ∧ okName a1 = true ∧ okName a2 = true ∧ okName a3 = true) (hd : f1 ≠ f2 ∧ f1 ≠ f3 ∧ f2 ≠ f3) : FnOk P w K mg base (L2.CX P w) 1 f fd [s0, a1, a2, a3] (spIn cv k) := by
  subst hb
  obtain ⟨v0, v1, v2, v3, o0, o1, o2, o3⟩ := hv
  refine FunD.ok F S (fun vs H Q E h => ?_) fun cdv Ar outer s H vs Q E room hsp => ?_
  · obtain ⟨a, C, dx, us, rfl, _, _, hl, _⟩ := h
    rw [List.length_cons, hl, hk]; rfl
  obtain ⟨a, Ca, dx, us, rfl, hC, hH, hl, q⟩ := hsp
  obtain ⟨C', hC', cC, nC⟩ := C.ok
  rw [hC] at hC'; cases hC'
  rw [hk] at nC hl q
  obtain ⟨u1, u2, u3, rfl⟩ : ∃ u1 u2 u3, us = [u1, u2, u3] := by
    match us, hl with
    | [u1, u2, u3], _ => exact ⟨u1, u2, u3, rfl⟩
  let X := cxOf (L2.CX P w) P w K mg base [s0, a1, a2, a3] qual scope f cdv Ar outer s H E
  have ps : ∀ {p : Pos}, PE X (.Name s0 p) (tVar 0) := fun {p} => pe_var rfl (vis_of v0) (okName_of o0).1 (okName_of o0).2
  refine ⟨_, pss_cons (ps_fld ps (pe_var (i := 1) rfl (vis_of v1) (okName_of o1).1 (okName_of o1).2) rfl) (pss_cons (ps_fld ps (pe_var (i := 2) rfl (vis_of v2) (okName_of o2).1 (okName_of o2).2) rfl) (pss_one (ps_fld ps (pe_var (i := 3) rfl (vis_of v3) (okName_of o3).1 (okName_of o3).2) rfl))), ?_⟩
  refine ⟨u1, rfl, .ref a, rfl, a, Ca, dx, [], rfl, hH, cC, nC f1 (by simp), by decide, ?_⟩
  refine ⟨u2, rfl, .ref a, rfl, a, Ca, dx, _, rfl, upd_same, cC, nC f2 (by simp), by simp [putF], ?_⟩
  refine ⟨u3, rfl, .ref a, rfl, a, Ca, dx, _, rfl, upd_same, cC, nC f3 (by simp), by simp [putF, hd.1], ?_⟩
  show Q .non _
  rw [upd_upd, upd_upd]
  simp only [putF, if_neg hd.1, if_neg hd.2.1, if_neg hd.2.2]
  exact q
end
end U
set_option Elab.async false
set_option linter.all false
set_option maxRecDepth 100000
set_option maxHeartbeats 4000000
namespace U
open PySem PySem.Spec PyProof.Rows L2
def fin : Fl → Res
  | .nx _ => .ok .none
  | .rt d => .ok d
  | .rn ds => .new ds
  | .rm d _ => .ok d
  | .rb _ _ => .bad
  | .ex c _ => .exc c
  | .bad => .bad
theorem runF_eq {nv : Nat} {m : Ss} {ds : List D} {ρ : Rho} (h : ds.map .fr ++ List.replicate (nv - ds.length) .un = ρ) : runF nv m ds = fin (m ρ) := by
  unfold runF fin
  rw [h]
  try (cases m ρ <;> rfl)
def N_in_range : List Str := ["value", "low", "high"]
def b_in_range : Ss := sRet [] (eAnd (e1 (gIsi .int) (eK 0)) (eAnd (e1 gNot (e1 (gIsi .bool) (eK 0))) (eChain gLe gLe (eK 1) (eK 0) (eK 2))))
def f_in_range : List D → Res := runF 3 b_in_range
def N_common_divisor : List Str := ["one", "other"]
def L1_common_divisor : Ss := sPar2 0 1 [1] (eV 1) (e2 gMod (eK 0) (eK 1))
def W1_common_divisor : Ss := sWhile [] (eK 1) L1_common_divisor
def b_common_divisor : Ss := sSeq (sPar2 0 1 [] (eL bAbs [eK 0]) (eL bAbs [eK 1]))
 (sSeq (W1_common_divisor)
 (sRetV 0))
def f_common_divisor : List D → Res := runF 2 b_common_divisor
def N_part : List Str := ["top", "bottom", "divisor"]
def b_part : Ss := sSeq (sSet 2 [0, 1] (eF f_common_divisor [eV 0, eV 1]))
 (sSeq (sIf [] (e2 gLt (eK 1) (eC (.int 0)))
 (sSet 2 [] (e2 gSub (eC (.int 0)) (eK 2)))
 (.nx))
 (sRet [] (eTup [e2 gFdiv (eK 0) (eK 2), e2 gFdiv (eK 1) (eK 2)])))
def f_part : List D → Res := runF 3 b_part
def N_is_part : List Str := ["value", "number"]
def C1_is_part : Sm := eComp (iSeq (eV 0)) (.nm 1) [1] (some (eOr (e1 gNot (e1 (gIsi .int) (eK 1))) (e1 (gIsi .bool) (eK 1)))) (eV 1)
def b_is_part : Ss := sSeq (sIf [] (eOr (e1 gNot (e1 (gIsi .tuple) (eK 0))) (e2 gNe (eL bLen [eK 0]) (eC (.int 2))))
 (sRet [] (eC (.bool false)))
 (.nx))
 (sSeq (sIf [0, 1] (C1_is_part)
 (sRet [] (eC (.bool false)))
 (.nx))
 (sRet [] (eAnd (e2 gGt (e2 gIx (eK 0) (eC (.int 1))) (eC (.int 0))) (e2 gEq (eF f_common_divisor [e2 gIx (eK 0) (eC (.int 0)), e2 gIx (eK 0) (eC (.int 1))]) (eC (.int 1))))))
def f_is_part : List D → Res := runF 2 b_is_part
def N_added : List Str := ["one", "other"]
def b_added : Ss := sRet [] (eF f_part [e2 gAdd (e2 gMul (e2 gIx (eK 0) (eC (.int 0))) (e2 gIx (eK 1) (eC (.int 1)))) (e2 gMul (e2 gIx (eK 1) (eC (.int 0))) (e2 gIx (eK 0) (eC (.int 1)))), e2 gMul (e2 gIx (eK 0) (eC (.int 1))) (e2 gIx (eK 1) (eC (.int 1)))])
def f_added : List D → Res := runF 2 b_added
def N_taken : List Str := ["one", "other"]
def b_taken : Ss := sRet [] (eF f_part [e2 gSub (e2 gMul (e2 gIx (eK 0) (eC (.int 0))) (e2 gIx (eK 1) (eC (.int 1)))) (e2 gMul (e2 gIx (eK 1) (eC (.int 0))) (e2 gIx (eK 0) (eC (.int 1)))), e2 gMul (e2 gIx (eK 0) (eC (.int 1))) (e2 gIx (eK 1) (eC (.int 1)))])
def f_taken : List D → Res := runF 2 b_taken
def N_multiplied : List Str := ["one", "other"]
def b_multiplied : Ss := sRet [] (eF f_part [e2 gMul (e2 gIx (eK 0) (eC (.int 0))) (e2 gIx (eK 1) (eC (.int 0))), e2 gMul (e2 gIx (eK 0) (eC (.int 1))) (e2 gIx (eK 1) (eC (.int 1)))])
def f_multiplied : List D → Res := runF 2 b_multiplied
def N_below : List Str := ["one", "other"]
def b_below : Ss := sRet [] (e2 gLt (e2 gMul (e2 gIx (eK 0) (eC (.int 0))) (e2 gIx (eK 1) (eC (.int 1)))) (e2 gMul (e2 gIx (eK 1) (eC (.int 0))) (e2 gIx (eK 0) (eC (.int 1)))))
def f_below : List D → Res := runF 2 b_below
def N_all_signs : List Str := ["count", "found", "step", "longer", "signs"]
def L1_all_signs : Ss := sExt 3 [] (eLst [e2 gAdd (eK 4) (eTup [e1 gNeg (eC (.int 1))]), e2 gAdd (eK 4) (eTup [eC (.int 1)])])
def F1_all_signs : Ss := sFor (.nm 4) [1] (iSeq (eV 1)) L1_all_signs
def L2_all_signs : Ss := sSeq (sSet 3 [] (eLst []))
 (sSeq (F1_all_signs)
 (sSet 1 [3] (eV 3)))
def F2_all_signs : Ss := sFor (.nm 2) [] (iR1 (eK 0)) L2_all_signs
def b_all_signs : Ss := sSeq (sSet 1 [] (eLst [eTup []]))
 (sSeq (F2_all_signs)
 (sRetV 1))
def f_all_signs : List D → Res := runF 5 b_all_signs
def N_is_cell : List Str := ["value", "limit", "number"]
def C1_is_cell : Sm := eComp (iSeq (eV 0)) (.nm 2) [2] (some (e1 gNot (eF f_in_range [eV 2, e2 gSub (eC (.int 0)) (eK 1), eV 1]))) (eV 2)
def b_is_cell : Ss := sSeq (sIf [] (eOr (e1 gNot (e1 (gIsi .tuple) (eK 0))) (e2 gNe (eL bLen [eK 0]) (eC (.int 2))))
 (sRet [] (eC (.bool false)))
 (.nx))
 (sSeq (sIf [0, 2, 1, 2] (C1_is_cell)
 (sRet [] (eC (.bool false)))
 (.nx))
 (sRet [] (e2 gLe (e2 gIx (eK 0) (eC (.int 0))) (e2 gIx (eK 0) (eC (.int 1))))))
def f_is_cell : List D → Res := runF 3 b_is_cell
def N_is_table : List Str := ["value", "row", "cell"]
def C1_is_table : Sm := eComp (iSeq (eV 1)) (.nm 2) [2] (some (e1 gNot (eF f_is_cell [eV 2, eC (.int 20)]))) (eV 2)
def L1_is_table : Ss := sSeq (sIf [] (eOr (e1 gNot (e1 (gIsi .tuple) (eK 1))) (eOr (e1 gNot (eChain gLe gLe (eC (.int 1)) (eL bLen [eK 1]) (eC (.int 3)))) (e2 gNe (eL bLen [eK 1]) (eL bLen [e2 gIx (eK 0) (eC (.int 0))]))))
 (sRet [] (eC (.bool false)))
 (.nx))
 (sIf [1, 2, 2] (C1_is_table)
 (sRet [] (eC (.bool false)))
 (.nx))
def F1_is_table : Ss := sFor (.nm 1) [0] (iSeq (eV 0)) L1_is_table
def b_is_table : Ss := sSeq (sIf [] (eOr (e1 gNot (e1 (gIsi .tuple) (eK 0))) (e1 gNot (eChain gLe gLe (eC (.int 1)) (eL bLen [eK 0]) (eC (.int 3)))))
 (sRet [] (eC (.bool false)))
 (.nx))
 (sSeq (F1_is_table)
 (sRet [] (eC (.bool true))))
def f_is_table : List D → Res := runF 3 b_is_table
def N_is_side : List Str := ["value", "cell"]
def C1_is_side : Sm := eComp (iSeq (eV 0)) (.nm 1) [1] (some (e1 gNot (eF f_is_cell [eV 1, eC (.int 50)]))) (eV 1)
def b_is_side : Ss := sSeq (sIf [] (eOr (e1 gNot (e1 (gIsi .tuple) (eK 0))) (e1 gNot (eChain gLe gLe (eC (.int 1)) (eL bLen [eK 0]) (eC (.int 3)))))
 (sRet [] (eC (.bool false)))
 (.nx))
 (sRet [0, 1, 1] (e1 gNot (C1_is_side)))
def f_is_side : List D → Res := runF 2 b_is_side
def N_check_table : List Str := ["table"]
def b_check_table : Ss := sIf [0] (e1 gNot (eF f_is_table [eV 0]))
 (sRaise 1)
 (.nx)
def f_check_table : List D → Res := runF 1 b_check_table
def N_check_square : List Str := ["table"]
def b_check_square : Ss := sSeq (sExpr [0] (eF f_check_table [eV 0]))
 (sIf [] (e2 gNe (eL bLen [eK 0]) (eL bLen [e2 gIx (eK 0) (eC (.int 0))]))
 (sRaise 9)
 (.nx))
def f_check_square : List D → Res := runF 1 b_check_square
def N_check_system : List Str := ["table", "side"]
def b_check_system : Ss := sSeq (sExpr [0] (eF f_check_table [eV 0]))
 (sIf [1] (eOr (e1 gNot (eF f_is_side [eV 1])) (e2 gNe (eL bLen [eK 1]) (eL bLen [eK 0])))
 (sRaise 2)
 (.nx))
def f_check_system : List D → Res := runF 2 b_check_system
def N_are_unknowns : List Str := ["table", "value", "one"]
def C1_are_unknowns : Sm := eComp (iSeq (eV 1)) (.nm 2) [2] (some (e1 gNot (eF f_is_part [eV 2]))) (eV 2)
def b_are_unknowns : Ss := sSeq (sIf [] (eOr (e1 gNot (e1 (gIsi .tuple) (eK 1))) (e2 gNe (eL bLen [eK 1]) (eL bLen [e2 gIx (eK 0) (eC (.int 0))])))
 (sRet [] (eC (.bool false)))
 (.nx))
 (sRet [1, 2, 2] (e1 gNot (C1_are_unknowns)))
def f_are_unknowns : List D → Res := runF 3 b_are_unknowns
def N_check_unknowns : List Str := ["table", "unknowns"]
def b_check_unknowns : Ss := sIf [0, 1] (e1 gNot (eF f_are_unknowns [eV 0, eV 1]))
 (sRaise 3)
 (.nx)
def f_check_unknowns : List D → Res := runF 2 b_check_unknowns
def N_corner_of : List Str := ["table", "rows", "columns", "result", "row", "one", "cell", "other"]
def C1_corner_of : Sm := eComp (iZip [eV 4, eV 2]) (.tp [6, 7]) [6, 7] none (eTup [eIf (e2 gEq (eK 5) (eK 7)) (e2 gIx (eK 6) (eC (.int 0))) (e2 gIx (eK 6) (eC (.int 1))), eC (.int 1)])
def L1_corner_of : Ss := sApp 3 [4, 2] (eL bTuple [C1_corner_of])
def F1_corner_of : Ss := sFor (.tp [4, 5]) [0, 1] (iZip [eV 0, eV 1]) L1_corner_of
def b_corner_of : Ss := sSeq (sSet 3 [] (eLst []))
 (sSeq (F1_corner_of)
 (sRet [] (eL bTuple [eK 3])))
def f_corner_of : List D → Res := runF 8 b_corner_of
def N_lean : List Str := ["row", "divisor", "value"]
def L1_lean : Ss := sSeq (sSet 1 [1, 2] (eF f_common_divisor [eV 1, eV 2]))
 (sIf [] (e2 gEq (eK 1) (eC (.int 1)))
 (sRetV 0)
 (.nx))
def F1_lean : Ss := sFor (.nm 2) [0] (iSeq (eV 0)) L1_lean
def C1_lean : Sm := eComp (iSeq (eV 0)) (.nm 2) [2] none (e2 gFdiv (eK 2) (eK 1))
def b_lean : Ss := sSeq (sSet 1 [] (eC (.int 0)))
 (sSeq (F1_lean)
 (sRet [0, 0] (eIf (eK 1) (C1_lean) (eV 0))))
def f_lean : List D → Res := runF 3 b_lean
def N_cleared : List Str := ["row", "factor", "top", "bottom"]
def L1_cleared : Ss := sSet 1 [1, 3] (e2 gFdiv (e2 gMul (eK 1) (eK 3)) (eF f_common_divisor [eV 1, eV 3]))
def F1_cleared : Ss := sFor (.tp [2, 3]) [0] (iSeq (eV 0)) L1_cleared
def C1_cleared : Sm := eComp (iSeq (eV 0)) (.tp [2, 3]) [2, 3] none (e2 gMul (eK 2) (e2 gFdiv (eK 1) (eK 3)))
def b_cleared : Ss := sSeq (sSet 1 [] (eC (.int 1)))
 (sSeq (F1_cleared)
 (sRet [0] (eF f_lean [C1_cleared])))
def f_cleared : List D → Res := runF 4 b_cleared
def N_without : List Str := ["row", "pivot", "column", "factor", "value", "one", "other"]
def C1_without : Sm := eComp (iZip [eV 0, eV 1]) (.tp [5, 6]) [5, 6] none (e2 gSub (e2 gMul (eK 5) (eK 3)) (e2 gMul (eK 6) (eK 4)))
def b_without : Ss := sSeq (sIf [] (e2 gEq (e2 gIx (eK 0) (eK 2)) (eC (.int 0)))
 (sRetV 0)
 (.nx))
 (sSeq (sTup [3, 4] [] (eTup [e2 gIx (eK 1) (eK 2), e2 gIx (eK 0) (eK 2)]))
 (sRet [0, 1] (eF f_lean [C1_without])))
def f_without : List D → Res := runF 7 b_without
def N_with_slack : List Str := ["rows", "signs", "result", "place", "row", "slack"]
def L1_with_slack : Ss := sSeq (sSet 5 [] (e2 gMul (eLst [eTup [eC (.int 0), eC (.int 1)]]) (eL bLen [eK 0])))
 (sSeq (sItem 5 [3] (eV 3) (eTup [e2 gIx (eK 1) (eK 3), eC (.int 1)]))
 (sApp 2 [] (e2 gAdd (eL bList [eK 4]) (eK 5))))
def F1_with_slack : Ss := sFor (.tp [3, 4]) [0] (iEnum (eV 0)) L1_with_slack
def b_with_slack : Ss := sSeq (sSet 2 [] (eLst []))
 (sSeq (F1_with_slack)
 (sRetV 2))
def f_with_slack : List D → Res := runF 6 b_with_slack
def N_cell_ends : List Str := ["cell", "sign"]
def b_cell_ends : Ss := sRet [0] (eIf (e2 gEq (eK 1) (eC (.int 1))) (eV 0) (eTup [e2 gSub (eC (.int 0)) (e2 gIx (eK 0) (eC (.int 1))), e2 gSub (eC (.int 0)) (e2 gIx (eK 0) (eC (.int 0)))]))
def f_cell_ends : List D → Res := runF 2 b_cell_ends
def N_lows : List Str := ["table", "signs", "row", "cell", "sign"]
def C1_lows : Sm := eComp (iZip [eV 2, eV 1]) (.tp [3, 4]) [3, 4] none (eTup [e2 gIx (eF f_cell_ends [eV 3, eV 4]) (eC (.int 0)), eC (.int 1)])
def C2_lows : Sm := eComp (iSeq (eV 0)) (.nm 2) [2] none (C1_lows)
def b_lows : Ss := sRet [0, 2, 1, 3, 4] (C2_lows)
def f_lows : List D → Res := runF 5 b_lows
def N_highs : List Str := ["table", "signs", "row", "cell", "sign"]
def C1_highs : Sm := eComp (iZip [eV 2, eV 1]) (.tp [3, 4]) [3, 4] none (eTup [e2 gIx (eF f_cell_ends [eV 3, eV 4]) (eC (.int 1)), eC (.int 1)])
def C2_highs : Sm := eComp (iSeq (eV 0)) (.nm 2) [2] none (C1_highs)
def b_highs : Ss := sRet [0, 2, 1, 3, 4] (C2_highs)
def f_highs : List D → Res := runF 5 b_highs
def N_conditions : List Str := ["table", "side", "signs", "rows", "cell"]
def C1_conditions : Sm := eComp (iSeq (eV 1)) (.nm 4) [4] none (eTup [e2 gIx (eK 4) (eC (.int 1)), eC (.int 1)])
def C2_conditions : Sm := eComp (iSeq (eV 1)) (.nm 4) [4] none (eTup [e2 gIx (eK 4) (eC (.int 0)), eC (.int 1)])
def b_conditions : Ss := sSeq (sSet 3 [0, 2, 0, 2] (eF f_with_slack [e2 gAdd (eF f_lows [eV 0, eV 2]) (eF f_highs [eV 0, eV 2]), e2 gAdd (e2 gMul (eLst [eC (.int 1)]) (eL bLen [eK 0])) (e2 gMul (eLst [e1 gNeg (eC (.int 1))]) (eL bLen [eK 0]))]))
 (sRet [3, 1, 1] (eTup [eV 3, e2 gAdd (C1_conditions) (C2_conditions)]))
def f_conditions : List D → Res := runF 5 b_conditions
def N_with_signs : List Str := ["amounts", "signs", "amount", "sign"]
def C1_with_signs : Sm := eComp (iZip [eV 0, eV 1]) (.tp [2, 3]) [2, 3] none (eTup [e2 gMul (eK 3) (e2 gIx (eK 2) (eC (.int 0))), e2 gIx (eK 2) (eC (.int 1))])
def b_with_signs : Ss := sRet [0, 1] (eL bTuple [C1_with_signs])
def f_with_signs : List D → Res := runF 4 b_with_signs
def N_ends : List Str := ["row", "unknowns", "low", "high", "cell", "number", "one", "other"]
def L1_ends : Ss := sSeq (sPar2 6 7 [5, 5] (eF f_multiplied [eTup [e2 gIx (eK 4) (eC (.int 0)), eC (.int 1)], eV 5]) (eF f_multiplied [eTup [e2 gIx (eK 4) (eC (.int 1)), eC (.int 1)], eV 5]))
 (sSeq (sIf [] (e2 gLt (e2 gIx (eK 5) (eC (.int 0))) (eC (.int 0)))
 (sPar2 6 7 [7, 6] (eV 7) (eV 6))
 (.nx))
 (sPar2 2 3 [2, 6, 3, 7] (eF f_added [eV 2, eV 6]) (eF f_added [eV 3, eV 7])))
def F1_ends : Ss := sFor (.tp [4, 5]) [0, 1] (iZip [eV 0, eV 1]) L1_ends
def b_ends : Ss := sSeq (sTup [2, 3] [] (eTup [eTup [eC (.int 0), eC (.int 1)], eTup [eC (.int 0), eC (.int 1)]]))
 (sSeq (F1_ends)
 (sRet [2, 3] (eTup [eV 2, eV 3])))
def f_ends : List D → Res := runF 8 b_ends
def N_check_all : List Str := ["table", "side", "unknowns"]
def b_check_all : Ss := sSeq (sExpr [0, 1] (eF f_check_system [eV 0, eV 1]))
 (sExpr [0, 2] (eF f_check_unknowns [eV 0, eV 2]))
def f_check_all : List D → Res := runF 3 b_check_all
def N_some_solve : List Str := ["table", "side", "unknowns", "row", "cell", "low", "high"]
def L1_some_solve : Ss := sSeq (sTup [5, 6] [3, 2] (eF f_ends [eV 3, eV 2]))
 (sIf [5, 6] (eOr (eF f_below [eTup [e2 gIx (eK 4) (eC (.int 1)), eC (.int 1)], eV 5]) (eF f_below [eV 6, eTup [e2 gIx (eK 4) (eC (.int 0)), eC (.int 1)]]))
 (sRet [] (eC (.bool false)))
 (.nx))
def F1_some_solve : Ss := sFor (.tp [3, 4]) [0, 1] (iZip [eV 0, eV 1]) L1_some_solve
def b_some_solve : Ss := sSeq (F1_some_solve)
 (sRet [] (eC (.bool true)))
def f_some_solve : List D → Res := runF 7 b_some_solve
def N_solves_some : List Str := ["table", "side", "unknowns"]
def b_solves_some : Ss := sSeq (sExpr [0, 1, 2] (eF f_check_all [eV 0, eV 1, eV 2]))
 (sRet [0, 1, 2] (eF f_some_solve [eV 0, eV 1, eV 2]))
def f_solves_some : List D → Res := runF 3 b_solves_some
def N_sign_choices : List Str := ["table", "found", "rows", "columns"]
def C1_sign_choices : Sm := eComp (iSeq (eF f_all_signs [eL bLen [eK 0]])) (.nm 3) [3] none (eF f_corner_of [eV 0, eV 2, eV 3])
def L1_sign_choices : Ss := sExt 1 [0, 2, 3] (C1_sign_choices)
def F1_sign_choices : Ss := sFor (.nm 2) [] (iSeq (eF f_all_signs [eL bLen [eK 0]])) L1_sign_choices
def b_sign_choices : Ss := sSeq (sSet 1 [] (eLst []))
 (sSeq (F1_sign_choices)
 (sRetV 1))
def f_sign_choices : List D → Res := runF 4 b_sign_choices
def N_law_cell : List Str := ["script", "k"]
def b_law_cell : Ss := sSeq (sIf [] (e2 gLt (eK 1) (eL bLen [eK 0]))
 (sRet [] (e2 gIx (eK 0) (eK 1)))
 (.nx))
 (sRet [] (eC (.int 0)))
def f_law_cell : List D → Res := runF 2 b_law_cell
theorem r_law_cell (x0 x1 : D) : f_law_cell [x0, x1] = fin (b_law_cell [.fr x0, .fr x1]) := runF_eq rfl
def N_lies_in : List Str := ["number", "cell"]
def b_lies_in : Ss := sRet [0, 0] (eAnd (e1 gNot (eF f_below [eV 0, eTup [e2 gIx (eK 1) (eC (.int 0)), eC (.int 1)]])) (e1 gNot (eF f_below [eTup [e2 gIx (eK 1) (eC (.int 1)), eC (.int 1)], eV 0])))
def f_lies_in : List D → Res := runF 2 b_lies_in
def N_is_fit : List Str := ["number", "cell"]
def b_is_fit : Ss := sRet [0, 0, 1] (eAnd (eF f_is_part [eV 0]) (eF f_lies_in [eV 0, eV 1]))
def f_is_fit : List D → Res := runF 2 b_is_fit
def N_is_choice_of : List Str := ["table", "value", "row", "numbers", "cell", "number"]
def C1_is_choice_of : Sm := eComp (iZip [eV 2, eV 3]) (.tp [4, 5]) [4, 5] (some (e1 gNot (eF f_is_fit [eV 5, eV 4]))) (eC (.int 1))
def L1_is_choice_of : Ss := sSeq (sIf [] (eOr (e1 gNot (e1 (gIsi .tuple) (eK 3))) (e2 gNe (eL bLen [eK 3]) (eL bLen [eK 2])))
 (sRet [] (eC (.bool false)))
 (.nx))
 (sIf [2, 3, 5, 4] (C1_is_choice_of)
 (sRet [] (eC (.bool false)))
 (.nx))
def F1_is_choice_of : Ss := sFor (.tp [2, 3]) [0, 1] (iZip [eV 0, eV 1]) L1_is_choice_of
def b_is_choice_of : Ss := sSeq (sIf [] (eOr (e1 gNot (e1 (gIsi .tuple) (eK 1))) (e2 gNe (eL bLen [eK 1]) (eL bLen [eK 0])))
 (sRet [] (eC (.bool false)))
 (.nx))
 (sSeq (F1_is_choice_of)
 (sRet [] (eC (.bool true))))
def f_is_choice_of : List D → Res := runF 6 b_is_choice_of
def N_check_signs : List Str := ["signs", "count", "sign"]
def C1_check_signs : Sm := eComp (iSeq (eV 0)) (.nm 2) [2] (some (eOr (e1 gNot (eF f_in_range [eV 2, e1 gNeg (eC (.int 1)), eC (.int 1)])) (e2 gEq (eK 2) (eC (.int 0))))) (eV 2)
def b_check_signs : Ss := sSeq (sIf [] (eOr (e1 gNot (e1 (gIsi .tuple) (eK 0))) (e2 gNe (eL bLen [eK 0]) (eK 1)))
 (sRaise 5)
 (.nx))
 (sIf [0, 2, 2] (C1_check_signs)
 (sRaise 5)
 (.nx))
def f_check_signs : List D → Res := runF 3 b_check_signs
def N_corner : List Str := ["table", "rows", "columns"]
def b_corner : Ss := sSeq (sExpr [0] (eF f_check_table [eV 0]))
 (sSeq (sExpr [1] (eF f_check_signs [eV 1, eL bLen [eK 0]]))
 (sSeq (sExpr [2] (eF f_check_signs [eV 2, eL bLen [e2 gIx (eK 0) (eC (.int 0))]]))
 (sRet [0, 1, 2] (eF f_corner_of [eV 0, eV 1, eV 2]))))
def f_corner : List D → Res := runF 3 b_corner
def N_check_choice : List Str := ["table", "value"]
def b_check_choice : Ss := sIf [0, 1] (e1 gNot (eF f_is_choice_of [eV 0, eV 1]))
 (sRaise 4)
 (.nx)
def f_check_choice : List D → Res := runF 2 b_check_choice
def N_shared : List Str := ["one", "other"]
def b_shared : Ss := sRet [] (eF f_part [e2 gMul (e2 gIx (eK 0) (eC (.int 0))) (e2 gIx (eK 1) (eC (.int 1))), e2 gMul (e2 gIx (eK 0) (eC (.int 1))) (e2 gIx (eK 1) (eC (.int 0)))])
def f_shared : List D → Res := runF 2 b_shared
def N_reduced : List Str := ["work", "here", "column", "lead", "pivot", "result", "place", "row", "value", "other"]
def C1_reduced : Sm := eComp (iSeq (e2 gIx (eK 0) (eK 1))) (.nm 8) [8] none (eF f_shared [eV 8, eV 3])
def C2_reduced : Sm := eComp (iZip [eV 7, eV 4]) (.tp [8, 9]) [8, 9] none (eF f_taken [eV 8, eF f_multiplied [e2 gIx (eK 7) (eK 2), eV 9]])
def L1_reduced : Ss := sIf [] (e2 gEq (eK 6) (eK 1))
 (sApp 5 [4] (eV 4))
 (sApp 5 [7, 4, 8, 9] (C2_reduced))
def F1_reduced : Ss := sFor (.tp [6, 7]) [0] (iEnum (eV 0)) L1_reduced
def b_reduced : Ss := sSeq (sSet 3 [] (e2 gIx (e2 gIx (eK 0) (eK 1)) (eK 2)))
 (sSeq (sSet 4 [8, 3] (C1_reduced))
 (sSeq (sSet 5 [] (eLst []))
 (sSeq (F1_reduced)
 (sRetV 5))))
def f_reduced : List D → Res := runF 10 b_reduced
def N_replaced : List Str := ["choice", "row", "column", "number", "line"]
def b_replaced : Ss := sSeq (sSet 4 [3] (e2 gAdd (e2 gAdd (eSl (e2 gIx (eK 0) (eK 1)) none (some (eK 2))) (eTup [eV 3])) (eSl (e2 gIx (eK 0) (eK 1)) (some (e2 gAdd (eK 2) (eC (.int 1)))) none)))
 (sRet [4] (e2 gAdd (e2 gAdd (eSl (eK 0) none (some (eK 1))) (eTup [eV 4])) (eSl (eK 0) (some (e2 gAdd (eK 1) (eC (.int 1)))) none)))
def f_replaced : List D → Res := runF 5 b_replaced
def N_row_choice : List Str := ["row", "unknowns", "goal", "low", "high", "share", "found", "cell", "number", "start", "last"]
def L1_row_choice : Ss := sSeq (sPar2 9 10 [] (eTup [e2 gIx (eK 7) (eC (.int 0)), eC (.int 1)]) (eTup [e2 gIx (eK 7) (eC (.int 1)), eC (.int 1)]))
 (sSeq (sIf [] (e2 gLt (e2 gIx (eK 8) (eC (.int 0))) (eC (.int 0)))
 (sPar2 9 10 [10, 9] (eV 10) (eV 9))
 (.nx))
 (sApp 6 [9, 5, 10, 9] (eF f_added [eV 9, eF f_multiplied [eV 5, eF f_taken [eV 10, eV 9]]])))
def F1_row_choice : Ss := sFor (.tp [7, 8]) [0, 1] (iZip [eV 0, eV 1]) L1_row_choice
def b_row_choice : Ss := sSeq (sTup [3, 4] [0, 1] (eF f_ends [eV 0, eV 1]))
 (sSeq (sSet 5 [2, 3, 4, 3] (eIf (e2 gEq (eK 3) (eK 4)) (eTup [eC (.int 0), eC (.int 1)]) (eF f_shared [eF f_taken [eV 2, eV 3], eF f_taken [eV 4, eV 3]])))
 (sSeq (sSet 6 [] (eLst []))
 (sSeq (F1_row_choice)
 (sRet [] (eL bTuple [eK 6])))))
def f_row_choice : List D → Res := runF 11 b_row_choice
def N_made_choice : List Str := ["table", "side", "unknowns", "rows", "numbers", "row", "cell", "low", "high", "goal"]
def L1_made_choice : Ss := sSeq (sTup [7, 8] [5, 2] (eF f_ends [eV 5, eV 2]))
 (sSeq (sSet 9 [7, 7] (eIf (eF f_below [eTup [e2 gIx (eK 6) (eC (.int 0)), eC (.int 1)], eV 7]) (eV 7) (eTup [e2 gIx (eK 6) (eC (.int 0)), eC (.int 1)])))
 (sSeq (sApp 3 [5, 2, 9] (eF f_row_choice [eV 5, eV 2, eV 9]))
 (sApp 4 [9] (eV 9))))
def F1_made_choice : Ss := sFor (.tp [5, 6]) [0, 1] (iZip [eV 0, eV 1]) L1_made_choice
def b_made_choice : Ss := sSeq (sPar2 3 4 [] (eLst []) (eLst []))
 (sSeq (F1_made_choice)
 (sRet [] (eTup [eL bTuple [eK 3], eL bTuple [eK 4]])))
def f_made_choice : List D → Res := runF 10 b_made_choice
def N_bounds_of : List Str := ["table", "side", "signs", "rows", "right", "cell"]
def C1_bounds_of : Sm := eComp (iSeq (eV 1)) (.nm 5) [5] none (eTup [e2 gIx (eK 5) (eC (.int 1)), eC (.int 1)])
def C2_bounds_of : Sm := eComp (iSeq (eV 1)) (.nm 5) [5] none (eTup [e2 gIx (eK 5) (eC (.int 0)), eC (.int 1)])
def b_bounds_of : Ss := sSeq (sSet 3 [0, 2, 0, 2] (e2 gAdd (eF f_lows [eV 0, eV 2]) (eF f_highs [eV 0, eV 2])))
 (sSeq (sSet 4 [1, 1] (e2 gAdd (C1_bounds_of) (C2_bounds_of)))
 (sRet [3, 4] (eTup [eV 3, eV 4, e2 gAdd (e2 gMul (eLst [eC (.int 1)]) (eL bLen [eK 0])) (e2 gMul (eLst [e1 gNeg (eC (.int 1))]) (eL bLen [eK 0]))])))
def f_bounds_of : List D → Res := runF 6 b_bounds_of
def N_check_index : List Str := ["table", "index"]
def b_check_index : Ss := sIf [1] (e1 gNot (eF f_in_range [eV 1, eC (.int 0), e2 gSub (eL bLen [e2 gIx (eK 0) (eC (.int 0))]) (eC (.int 1))]))
 (sRaise 6)
 (.nx)
def f_check_index : List D → Res := runF 2 b_check_index
def N_is_beyond : List Str := ["one", "other", "goal"]
def b_is_beyond : Ss := sRet [1, 0, 0, 1] (eIf (e2 gEq (eK 2) (eC (.int 1))) (eF f_below [eV 1, eV 0]) (eF f_below [eV 0, eV 1]))
def f_is_beyond : List D → Res := runF 3 b_is_beyond
def N_check_two : List Str := ["one", "other"]
def b_check_two : Ss := sSeq (sExpr [0] (eF f_check_table [eV 0]))
 (sSeq (sExpr [1] (eF f_check_table [eV 1]))
 (sIf [] (eOr (e2 gNe (eL bLen [eK 0]) (eL bLen [eK 1])) (e2 gNe (eL bLen [e2 gIx (eK 0) (eC (.int 0))]) (eL bLen [e2 gIx (eK 1) (eC (.int 0))])))
 (sRaise 15)
 (.nx)))
def f_check_two : List D → Res := runF 2 b_check_two
def N_plus : List Str := ["one", "other", "rows", "left", "right", "first", "second"]
def C1_plus : Sm := eComp (iZip [eV 3, eV 4]) (.tp [5, 6]) [5, 6] none (eTup [e2 gAdd (e2 gIx (eK 5) (eC (.int 0))) (e2 gIx (eK 6) (eC (.int 0))), e2 gAdd (e2 gIx (eK 5) (eC (.int 1))) (e2 gIx (eK 6) (eC (.int 1)))])
def L1_plus : Ss := sApp 2 [3, 4] (eL bTuple [C1_plus])
def F1_plus : Ss := sFor (.tp [3, 4]) [0, 1] (iZip [eV 0, eV 1]) L1_plus
def b_plus : Ss := sSeq (sExpr [0, 1] (eF f_check_two [eV 0, eV 1]))
 (sSeq (sSet 2 [] (eLst []))
 (sSeq (F1_plus)
 (sRet [] (eL bTuple [eK 2]))))
def f_plus : List D → Res := runF 7 b_plus
def N_widened : List Str := ["table", "amount", "row", "cell"]
def C1_widened : Sm := eComp (iSeq (eV 2)) (.nm 3) [3] none (eTup [e2 gSub (e2 gIx (eK 3) (eC (.int 0))) (eK 1), e2 gAdd (e2 gIx (eK 3) (eC (.int 1))) (eK 1)])
def C2_widened : Sm := eComp (iSeq (eV 0)) (.nm 2) [2] none (eL bTuple [C1_widened])
def b_widened : Ss := sSeq (sExpr [0] (eF f_check_table [eV 0]))
 (sSeq (sIf [1] (e1 gNot (eF f_in_range [eV 1, eC (.int 0), eC (.int 20)]))
 (sRaise 7)
 (.nx))
 (sRet [0, 2] (eL bTuple [C2_widened])))
def f_widened : List D → Res := runF 4 b_widened
def N_overlap : List Str := ["one", "other", "rows", "left", "right", "row", "first", "second", "cell"]
def C1_overlap : Sm := eComp (iZip [eV 3, eV 4]) (.tp [6, 7]) [6, 7] none (eTup [eL bMax [e2 gIx (eK 6) (eC (.int 0)), e2 gIx (eK 7) (eC (.int 0))], eL bMin [e2 gIx (eK 6) (eC (.int 1)), e2 gIx (eK 7) (eC (.int 1))]])
def C2_overlap : Sm := eComp (iSeq (eV 5)) (.nm 8) [8] (some (e2 gGt (e2 gIx (eK 8) (eC (.int 0))) (e2 gIx (eK 8) (eC (.int 1))))) (eV 8)
def L1_overlap : Ss := sSeq (sSet 5 [3, 4] (C1_overlap))
 (sSeq (sIf [5, 8] (C2_overlap)
 (sRaise 14)
 (.nx))
 (sApp 2 [] (eL bTuple [eK 5])))
def F1_overlap : Ss := sFor (.tp [3, 4]) [0, 1] (iZip [eV 0, eV 1]) L1_overlap
def b_overlap : Ss := sSeq (sExpr [0, 1] (eF f_check_two [eV 0, eV 1]))
 (sSeq (sSet 2 [] (eLst []))
 (sSeq (F1_overlap)
 (sRet [] (eL bTuple [eK 2]))))
def f_overlap : List D → Res := runF 9 b_overlap
def N_open_places : List Str := ["table", "found", "place", "row", "column", "cell"]
def C1_open_places : Sm := eComp (iEnum (eV 3)) (.tp [4, 5]) [4, 5] (some (e2 gNe (e2 gIx (eK 5) (eC (.int 0))) (e2 gIx (eK 5) (eC (.int 1))))) (eTup [eV 2, eV 4])
def L1_open_places : Ss := sExt 1 [3, 2, 4] (C1_open_places)
def F1_open_places : Ss := sFor (.tp [2, 3]) [0] (iEnum (eV 0)) L1_open_places
def b_open_places : Ss := sSeq (sSet 1 [] (eLst []))
 (sSeq (F1_open_places)
 (sRetV 1))
def f_open_places : List D → Res := runF 6 b_open_places
def N_check_told : List Str := ["table", "told", "row", "numbers", "cell", "number"]
def C1_check_told : Sm := eComp (iZip [eV 2, eV 3]) (.tp [4, 5]) [4, 5] (some (e1 gNot (eF f_in_range [eV 5, e2 gIx (eK 4) (eC (.int 0)), e2 gIx (eK 4) (eC (.int 1))]))) (eC (.int 1))
def L1_check_told : Ss := sSeq (sIf [] (eOr (e1 gNot (e1 (gIsi .tuple) (eK 3))) (e2 gNe (eL bLen [eK 3]) (eL bLen [eK 2])))
 (sRaise 4)
 (.nx))
 (sIf [2, 3, 5] (C1_check_told)
 (sRaise 4)
 (.nx))
def F1_check_told : Ss := sFor (.tp [2, 3]) [0, 1] (iZip [eV 0, eV 1]) L1_check_told
def b_check_told : Ss := sSeq (sIf [] (eOr (e1 gNot (e1 (gIsi .tuple) (eK 1))) (e2 gNe (eL bLen [eK 1]) (eL bLen [eK 0])))
 (sRaise 4)
 (.nx))
 (F1_check_told)
def f_check_told : List D → Res := runF 6 b_check_told
def N_fixed_at : List Str := ["table", "told", "cells", "rows", "place", "row", "line", "column", "cell", "number"]
def L1_fixed_at : Ss := sSeq (sSet 9 [] (e2 gIx (e2 gIx (eK 1) (eK 4)) (eK 7)))
 (sApp 6 [4, 7, 9, 9, 8] (eIf (e2 gIn (eTup [eV 4, eV 7]) (eK 2)) (eTup [eV 9, eV 9]) (eV 8)))
def F1_fixed_at : Ss := sFor (.tp [7, 8]) [5] (iEnum (eV 5)) L1_fixed_at
def L2_fixed_at : Ss := sSeq (sSet 6 [] (eLst []))
 (sSeq (F1_fixed_at)
 (sApp 3 [] (eL bTuple [eK 6])))
def F2_fixed_at : Ss := sFor (.tp [4, 5]) [0] (iEnum (eV 0)) L2_fixed_at
def b_fixed_at : Ss := sSeq (sSet 3 [] (eLst []))
 (sSeq (F2_fixed_at)
 (sRet [] (eL bTuple [eK 3])))
def f_fixed_at : List D → Res := runF 10 b_fixed_at
def N_is_place : List Str := ["table", "value"]
def b_is_place : Ss := sSeq (sIf [] (eOr (e1 gNot (e1 (gIsi .tuple) (eK 1))) (e2 gNe (eL bLen [eK 1]) (eC (.int 2))))
 (sRet [] (eC (.bool false)))
 (.nx))
 (sRet [] (eAnd (eF f_in_range [e2 gIx (eK 1) (eC (.int 0)), eC (.int 0), e2 gSub (eL bLen [eK 0]) (eC (.int 1))]) (eF f_in_range [e2 gIx (eK 1) (eC (.int 1)), eC (.int 0), e2 gSub (eL bLen [e2 gIx (eK 0) (eC (.int 0))]) (eC (.int 1))])))
def f_is_place : List D → Res := runF 2 b_is_place
def N_cell_text : List Str := ["cell"]
def b_cell_text : Ss := sRet [] (eIf (e2 gEq (e2 gIx (eK 0) (eC (.int 0))) (e2 gIx (eK 0) (eC (.int 1)))) (eL bStr [e2 gIx (eK 0) (eC (.int 0))]) (e2 gAdd (e2 gAdd (eL bStr [e2 gIx (eK 0) (eC (.int 0))]) (eC (.str ".."))) (eL bStr [e2 gIx (eK 0) (eC (.int 1))])))
def f_cell_text : List D → Res := runF 1 b_cell_text
def N_number_of : List Str := ["word", "digits", "sign"]
def C1_number_of : Sm := eComp (iSeq (eV 1)) (.nm 2) [2] (some (e2 gNotIn (eK 2) (eC (.str "0123456789")))) (eV 2)
def b_number_of : Ss := sSeq (sSet 1 [0] (eIf (e2 gEq (eSl (eK 0) none (some (eC (.int 1)))) (eC (.str "-"))) (eSl (eK 0) (some (eC (.int 1))) none) (eV 0)))
 (sSeq (sIf [1, 2] (eOr (e1 gNot (eK 1)) (eOr (e2 gGt (eL bLen [eK 0]) (eC (.int 3))) (C1_number_of)))
 (sRet [] (eC .none))
 (.nx))
 (sRet [] (eL bInt [eK 0])))
def f_number_of : List D → Res := runF 3 b_number_of
end U
set_option Elab.async false
set_option linter.all false
set_option maxRecDepth 100000
set_option maxHeartbeats 4000000
namespace U
open PySem PySem.Spec PyProof.Rows L2
def N_determinant_of : List Str := ["rows", "result", "column", "number", "rest", "product", "row"]
def C1_determinant_of (g : List D → Res) : Sm := eComp (iSeq (eSl (eK 0) (some (eC (.int 1))) none)) (.nm 6) [6] none (e2 gAdd (eSl (eK 6) none (some (eK 2))) (eSl (eK 6) (some (e2 gAdd (eK 2) (eC (.int 1)))) none))
def L1_determinant_of (g : List D → Res) : Ss := sSeq (sSet 4 [] ((C1_determinant_of g)))
 (sSeq (sSet 5 [3, 4] (eF f_multiplied [eV 3, eF g [eV 4]]))
 (sSet 1 [1, 5, 1, 5] (eIf (e2 gMod (eK 2) (eC (.int 2))) (eF f_taken [eV 1, eV 5]) (eF f_added [eV 1, eV 5]))))
def F1_determinant_of (g : List D → Res) : Ss := sFor (.tp [2, 3]) [] (iEnum (e2 gIx (eK 0) (eC (.int 0)))) (L1_determinant_of g)
def b_determinant_of (g : List D → Res) : Ss := sSeq (sIf [] (e2 gEq (eL bLen [eK 0]) (eC (.int 1)))
 (sRet [] (e2 gIx (e2 gIx (eK 0) (eC (.int 0))) (eC (.int 0))))
 (.nx))
 (sSeq (sSet 1 [] (eTup [eC (.int 0), eC (.int 1)]))
 (sSeq ((F1_determinant_of g))
 (sRetV 1)))
def f_determinant_of_0 : List D → Res := runF 7 sBad
def f_determinant_of_1 : List D → Res := runF 7 (b_determinant_of f_determinant_of_0)
def f_determinant_of_2 : List D → Res := runF 7 (b_determinant_of f_determinant_of_1)
def f_determinant_of_3 : List D → Res := runF 7 (b_determinant_of f_determinant_of_2)
def f_determinant_of : List D → Res := runF 7 (b_determinant_of f_determinant_of_3)
def N_determinant : List Str := ["table", "choice"]
def b_determinant : Ss := sSeq (sExpr [0] (eF f_check_square [eV 0]))
 (sSeq (sExpr [0, 1] (eF f_check_choice [eV 0, eV 1]))
 (sRet [1] (eF f_determinant_of [eV 1])))
def f_determinant : List D → Res := runF 2 b_determinant
def N_ends_of : List Str := ["table", "low", "high", "choice", "value"]
def L1_ends_of : Ss := sSeq (sSet 4 [3] (e2 gIx (eF f_determinant_of [eV 3]) (eC (.int 0))))
 (sSeq (sSet 1 [3, 1] (eIf (e2 gLe (eK 4) (eC (.int 0))) (eV 3) (eV 1)))
 (sSeq (sSet 2 [3, 2] (eIf (e2 gGe (eK 4) (eC (.int 0))) (eV 3) (eV 2)))
 (sIf [] (eAnd (e2 gIsNot (eK 1) (eC .none)) (e2 gIsNot (eK 2) (eC .none)))
 (sRet [1, 2] (eTup [eV 1, eV 2]))
 (.nx))))
def F1_ends_of : Ss := sFor (.nm 3) [0] (iSeq (eF f_sign_choices [eV 0])) L1_ends_of
def b_ends_of : Ss := sSeq (sTup [1, 2] [] (eTup [eC .none, eC .none]))
 (sSeq (F1_ends_of)
 (sRet [] (eC .none)))
def f_ends_of : List D → Res := runF 5 b_ends_of
def N_sure : List Str := ["table"]
def b_sure : Ss := sRet [0] (e2 gIs (eF f_ends_of [eV 0]) (eC .none))
def f_sure : List D → Res := runF 1 b_sure
def N_is_sure : List Str := ["table"]
def b_is_sure : Ss := sSeq (sExpr [0] (eF f_check_square [eV 0]))
 (sRet [0] (eF f_sure [eV 0]))
def f_is_sure : List D → Res := runF 1 b_is_sure
end U
set_option Elab.async false
set_option linter.all false
set_option maxRecDepth 100000
set_option maxHeartbeats 4000000
namespace U
open PySem PySem.Spec PyProof.Rows L2
def N_Program_bounds_before : List Str := ["self", "place", "best", "column", "left", "right"]
def b_Program_bounds_before : Ss := sSeq (sSet 4 [] (e2 gMul (e2 gIx (e2 gIx (eFK 100 0 0) (eK 1)) (e1 gNeg (eC (.int 1)))) (e2 gIx (e2 gIx (eFK 100 0 0) (eK 2)) (eK 3))))
 (sSeq (sSet 5 [] (e2 gMul (e2 gIx (e2 gIx (eFK 100 0 0) (eK 2)) (e1 gNeg (eC (.int 1)))) (e2 gIx (e2 gIx (eFK 100 0 0) (eK 1)) (eK 3))))
 (sSeq (sIf [] (e2 gEq (eK 4) (eK 5))
 (sRet [] (e2 gLt (e2 gIx (eFK 100 0 1) (eK 1)) (e2 gIx (eFK 100 0 1) (eK 2))))
 (.nx))
 (sRet [] (e2 gLt (eK 4) (eK 5)))))
def p_bounds_before : List D → List D → Res := runP 6 100 b_Program_bounds_before
def N_Program_bound : List Str := ["self", "column", "best", "place", "row"]
def L1_Program_bound : Ss := sIf [] (e2 gGt (e2 gIx (eK 4) (eK 1)) (eC (.int 0)))
 (sIf [3, 2, 1] (eOr (e2 gIs (eK 2) (eC .none)) (eMP 100 0 p_bounds_before [eV 3, eV 2, eV 1]))
 (sSet 2 [3] (eV 3))
 (.nx))
 (.nx)
def F1_Program_bound : Ss := sFor (.tp [3, 4]) [] (iEnum (eFV 100 0 0)) L1_Program_bound
def b_Program_bound : Ss := sSeq (sSet 2 [] (eC .none))
 (sSeq (F1_Program_bound)
 (sRetV 2))
def p_bound : List D → List D → Res := runP 5 100 b_Program_bound
def N_Program_next_column : List Str := ["self", "width", "column"]
def L1_Program_next_column : Ss := sIf [] (e2 gLt (e2 gIx (eFK 100 0 2) (eK 2)) (eC (.int 0)))
 (sRetV 2)
 (.nx)
def F1_Program_next_column : Ss := sFor (.nm 2) [] (iR1 (eK 1)) L1_Program_next_column
def b_Program_next_column : Ss := sSeq (F1_Program_next_column)
 (sRet [] (eC .none))
def p_next_column : List D → List D → Res := runP 3 100 b_Program_next_column
def N_Program_change : List Str := ["self", "place", "column", "pivot", "number"]
def L1_Program_change : Ss := sIf [] (e2 gNe (eK 4) (eK 1))
 (sFItem 100 0 0 [3, 2, 4] (eV 4) (eF f_without [e2 gIx (eFK 100 0 0) (eK 4), eV 3, eV 2]))
 (.nx)
def F1_Program_change : Ss := sFor (.nm 4) [] (iR1 (eL bLen [eFK 100 0 0])) L1_Program_change
def b_Program_change : Ss := sSeq (sSet 3 [] (e2 gIx (eFK 100 0 0) (eK 1)))
 (sSeq (sFItem 100 0 1 [2, 1] (eV 1) (eV 2))
 (sSeq (F1_Program_change)
 (sFSetF 100 0 2 [3, 2] (eF f_without [eFV 100 0 2, eV 3, eV 2]))))
def u_change : List Fd → List D → MRes := runM 5 100 b_Program_change
def N_Program_lower : List Str := ["self", "width", "column", "place"]
def L1_Program_lower : Ss := sSeq (sSet 3 [2] (eMP 100 0 p_bound [eV 2]))
 (sSeq (sIf [] (e2 gIs (eK 3) (eC .none))
 (sRetM [] (eC (.bool false)))
 (.nx))
 (sSeq (sMut 100 0 u_change [3, 2] [eV 3, eV 2])
 (sSet 2 [1] (eMP 100 0 p_next_column [eV 1]))))
def W1_Program_lower : Ss := sWhile [] (e2 gIsNot (eK 2) (eC .none)) L1_Program_lower
def b_Program_lower : Ss := sSeq (sSet 2 [1] (eMP 100 0 p_next_column [eV 1]))
 (sSeq (W1_Program_lower)
 (sRetM [] (eC (.bool true))))
def u_lower : List Fd → List D → MRes := runM 4 100 b_Program_lower
def N_Program_drop_helpers : List Str := ["self", "width", "kept", "place", "columns", "column", "value"]
def C1_Program_drop_helpers : Sm := eComp (iR1 (eK 1)) (.nm 5) [5] (some (e2 gNe (e2 gIx (e2 gIx (eFK 100 0 0) (eK 3)) (eK 5)) (eC (.int 0)))) (eV 5)
def C2_Program_drop_helpers : Sm := eComp (iSeq (e2 gIx (eFK 100 0 0) (eK 3))) (.nm 6) [6] none (e2 gSub (eC (.int 0)) (eK 6))
def L1_Program_drop_helpers : Ss := sSeq (sIf [] (e2 gGe (e2 gIx (eFK 100 0 1) (eK 3)) (eK 1))
 (sSeq (sSet 4 [5] (C1_Program_drop_helpers))
 (sIf [] (eK 4)
 (sSeq (sIf [] (e2 gLt (e2 gIx (e2 gIx (eFK 100 0 0) (eK 3)) (e2 gIx (eK 4) (eC (.int 0)))) (eC (.int 0)))
 (sFItem 100 0 0 [3] (eV 3) (C2_Program_drop_helpers))
 (.nx))
 (sMut 100 0 u_change [3] [eV 3, e2 gIx (eK 4) (eC (.int 0))]))
 (.nx)))
 (.nx))
 (sIf [] (e2 gLt (e2 gIx (eFK 100 0 1) (eK 3)) (eK 1))
 (sApp 2 [3] (eV 3))
 (.nx))
def F1_Program_drop_helpers : Ss := sFor (.nm 3) [] (iR1 (eL bLen [eFK 100 0 0])) L1_Program_drop_helpers
def C3_Program_drop_helpers : Sm := eComp (iSeq (eV 2)) (.nm 3) [3] none (e2 gAdd (eSl (e2 gIx (eFK 100 0 0) (eK 3)) none (some (eK 1))) (eSl (e2 gIx (eFK 100 0 0) (eK 3)) (some (e1 gNeg (eC (.int 1)))) none))
def C4_Program_drop_helpers : Sm := eComp (iSeq (eV 2)) (.nm 3) [3] none (e2 gIx (eFK 100 0 1) (eK 3))
def b_Program_drop_helpers : Ss := sSeq (sSet 2 [] (eLst []))
 (sSeq (F1_Program_drop_helpers)
 (sSeq (sFSet 100 0 0 [2] (C3_Program_drop_helpers))
 (sFSet 100 0 1 [2] (C4_Program_drop_helpers))))
def u_drop_helpers : List Fd → List D → MRes := runM 7 100 b_Program_drop_helpers
def N_started : List Str := ["rows", "right", "width", "table", "place", "row", "values", "helpers", "costs", "value", "column"]
def C1_started : Sm := eComp (iSeq (eV 6)) (.nm 9) [9] none (e2 gSub (eC (.int 0)) (eK 9))
def L1_started : Ss := sSeq (sSet 6 [] (eF f_cleared [e2 gAdd (eL bList [eK 5]) (eLst [e2 gIx (eK 1) (eK 4)])]))
 (sSeq (sIf [] (e2 gLt (e2 gIx (eK 6) (e1 gNeg (eC (.int 1)))) (eC (.int 0)))
 (sSet 6 [6] (C1_started))
 (.nx))
 (sSeq (sSet 7 [] (e2 gMul (eLst [eC (.int 0)]) (eL bLen [eK 0])))
 (sSeq (sItem 7 [4] (eV 4) (eC (.int 1)))
 (sApp 3 [] (e2 gAdd (e2 gAdd (eSl (eK 6) none (some (e1 gNeg (eC (.int 1))))) (eK 7)) (eSl (eK 6) (some (e1 gNeg (eC (.int 1)))) none))))))
def F1_started : Ss := sFor (.tp [4, 5]) [0] (iEnum (eV 0)) L1_started
def C2_started : Sm := eCompK 3 (.nm 5) [5] none (e2 gIx (eK 5) (eK 10))
def C3_started : Sm := eComp (iR1 (eK 2)) (.nm 10) [10] none (e2 gSub (eC (.int 0)) (eL bSum [C2_started]))
def C4_started : Sm := eCompK 3 (.nm 5) [5] none (e2 gIx (eK 5) (e1 gNeg (eC (.int 1))))
def b_started : Ss := sSeq (sSet 3 [] (eLst []))
 (sSeq (F1_started)
 (sSeq (sSet 8 [] (C3_started))
 (sSeq (sSet 8 [] (e2 gAdd (e2 gAdd (eK 8) (e2 gMul (eLst [eC (.int 0)]) (eL bLen [eK 0]))) (eLst [e2 gSub (eC (.int 0)) (eL bSum [C4_started])])))
 (sRetP 100 3 8 [] (e2 gLRg (eK 2) (e2 gAdd (eK 2) (eL bLen [eK 0])))))))
def n_started : List D → Option (List Fd) := runN 11 100 b_started
def N_solved : List Str := ["rows", "right", "costs", "width", "program", "place", "numbers", "row"]
def L1_solved : Ss := sFSetF 100 4 2 [] (eF f_without [eFV 100 4 2, e2 gIx (eFK 100 4 0) (eK 5), e2 gIx (eFK 100 4 1) (eK 5)])
def F1_solved : Ss := sFor (.nm 5) [] (iR1 (eL bLen [eFK 100 4 0])) L1_solved
def L2_solved : Ss := sItem 6 [] (e2 gIx (eFK 100 4 1) (eK 5)) (eF f_part [e2 gIx (eK 7) (e1 gNeg (eC (.int 1))), e2 gIx (eK 7) (e2 gIx (eFK 100 4 1) (eK 5))])
def F2_solved : Ss := sFz 4 0 (sFor (.tp [5, 7]) [] (iEnum (eFV 100 4 0)) L2_solved)
def b_solved : Ss := sSeq (sSet 3 [] (eL bLen [eK 2]))
 (sSeq (sNew 100 4 n_started [0, 1, 3] [eV 0, eV 1, eV 3])
 (sSeq (sMut 100 4 u_lower [3] [eV 3])
 (sSeq (sIf [] (e2 gNe (e2 gIx (eFK 100 4 2) (e1 gNeg (eC (.int 1)))) (eC (.int 0)))
 (sRet [] (eTup [eC (.str "none"), eC .none]))
 (.nx))
 (sSeq (sMut 100 4 u_drop_helpers [3] [eV 3])
 (sSeq (sFSetF 100 4 2 [] (eF f_cleared [e2 gAdd (eL bList [eK 2]) (eLst [eTup [eC (.int 0), eC (.int 1)]])]))
 (sSeq (F1_solved)
 (sSeq (sIfM 100 4 u_lower [3] [eV 3]
 (sRet [] (eTup [eC (.str "endless"), eC .none]))
 (.nx))
 (sSeq (sSet 6 [] (e2 gMul (eLst [eTup [eC (.int 0), eC (.int 1)]]) (eK 3)))
 (sSeq (F2_solved)
 (sRet [] (eTup [eC (.str "least"), eL bTuple [eK 6]])))))))))))
def f_solved : List D → Res := runF 8 b_solved
def N_some_numbers : List Str := ["rows", "right", "width"]
def b_some_numbers : Ss := sRet [0, 1] (e2 gIx (eF f_solved [eV 0, eV 1, e2 gMul (eLst [eTup [eC (.int 0), eC (.int 1)]]) (eK 2)]) (eC (.int 1)))
def f_some_numbers : List D → Res := runF 3 b_some_numbers
def N_amounts_for : List Str := ["table", "side", "signs", "rows", "right", "found"]
def b_amounts_for : Ss := sSeq (sTup [3, 4] [0, 1, 2] (eF f_conditions [eV 0, eV 1, eV 2]))
 (sSeq (sSet 5 [3, 4] (eF f_some_numbers [eV 3, eV 4, e2 gAdd (eL bLen [eK 2]) (e2 gMul (eC (.int 2)) (eL bLen [eK 0]))]))
 (sRet [] (eIf (e2 gIs (eK 5) (eC .none)) (eC .none) (eSl (eK 5) none (some (eL bLen [eK 2]))))))
def f_amounts_for : List D → Res := runF 6 b_amounts_for
def N_some_unknowns : List Str := ["table", "side", "signs", "amounts"]
def L1_some_unknowns : Ss := sSeq (sSet 3 [0, 1, 2] (eF f_amounts_for [eV 0, eV 1, eV 2]))
 (sIf [] (e2 gIsNot (eK 3) (eC .none))
 (sRet [3, 2] (eF f_with_signs [eV 3, eV 2]))
 (.nx))
def F1_some_unknowns : Ss := sFor (.nm 2) [] (iSeq (eF f_all_signs [eL bLen [e2 gIx (eK 0) (eC (.int 0))]])) L1_some_unknowns
def b_some_unknowns : Ss := sSeq (F1_some_unknowns)
 (sRet [] (eC .none))
def f_some_unknowns : List D → Res := runF 4 b_some_unknowns
def N_can_solve : List Str := ["table", "side"]
def b_can_solve : Ss := sSeq (sExpr [0, 1] (eF f_check_system [eV 0, eV 1]))
 (sRet [0, 1] (e2 gIsNot (eF f_some_unknowns [eV 0, eV 1]) (eC .none)))
def f_can_solve : List D → Res := runF 2 b_can_solve
def N_weights_against : List Str := ["rows", "right", "signs", "count", "width", "table", "ends", "column", "slack", "sums", "found", "place"]
def C1_weights_against : Sm := eComp (iR1 (eK 3)) (.nm 11) [11] none (eF f_multiplied [eTup [e2 gIx (eK 2) (eK 11), eC (.int 1)], e2 gIx (e2 gIx (eK 0) (eK 11)) (eK 7)])
def L1_weights_against : Ss := sSeq (sSet 8 [] (e2 gMul (eLst [eTup [eC (.int 0), eC (.int 1)]]) (eK 4)))
 (sSeq (sItem 8 [7] (eV 7) (eTup [e1 gNeg (eC (.int 1)), eC (.int 1)]))
 (sSeq (sApp 5 [] (e2 gAdd (C1_weights_against) (eK 8)))
 (sApp 6 [] (eTup [eC (.int 0), eC (.int 1)]))))
def F1_weights_against : Ss := sFor (.nm 7) [] (iR1 (eK 4)) L1_weights_against
def C2_weights_against : Sm := eComp (iR1 (eK 3)) (.nm 11) [11] none (eF f_multiplied [eTup [e2 gIx (eK 2) (eK 11), eC (.int 1)], e2 gIx (eK 1) (eK 11)])
def b_weights_against : Ss := sSeq (sPar2 3 4 [] (eL bLen [eK 0]) (eL bLen [e2 gIx (eK 0) (eC (.int 0))]))
 (sSeq (sPar2 5 6 [] (eLst []) (eLst []))
 (sSeq (F1_weights_against)
 (sSeq (sSet 9 [] (C2_weights_against))
 (sSeq (sApp 5 [] (e2 gAdd (eK 9) (e2 gMul (eLst [eTup [eC (.int 0), eC (.int 1)]]) (eK 4))))
 (sSeq (sApp 6 [] (eTup [e1 gNeg (eC (.int 1)), eC (.int 1)]))
 (sSeq (sSet 10 [5, 6] (eF f_some_numbers [eV 5, eV 6, e2 gAdd (eK 3) (eK 4)]))
 (sRet [] (eIf (e2 gIs (eK 10) (eC .none)) (eC .none) (eL bTuple [eF f_cleared [eL bList [eSl (eK 10) none (some (eK 3))]]])))))))))
def f_weights_against : List D → Res := runF 12 b_weights_against
def N_a_solution : List Str := ["table", "side", "unknowns"]
def b_a_solution : Ss := sSeq (sExpr [0, 1] (eF f_check_system [eV 0, eV 1]))
 (sSeq (sSet 2 [0, 1] (eF f_some_unknowns [eV 0, eV 1]))
 (sSeq (sIf [] (e2 gIs (eK 2) (eC .none))
 (sRaise 13)
 (.nx))
 (sRet [2, 0, 1, 2] (e2 gAdd (eTup [eV 2]) (eF f_made_choice [eV 0, eV 1, eV 2])))))
def f_a_solution : List D → Res := runF 3 b_a_solution
def N_papers : List Str := ["table", "side", "found", "signs", "rows", "right", "sides", "weights"]
def L1_papers : Ss := sSeq (sTup [4, 5, 6] [0, 1, 3] (eF f_bounds_of [eV 0, eV 1, eV 3]))
 (sSeq (sSet 7 [4, 5, 6] (eF f_weights_against [eV 4, eV 5, eV 6]))
 (sSeq (sIf [] (e2 gIs (eK 7) (eC .none))
 (sRaise 12)
 (.nx))
 (sApp 2 [7] (eV 7))))
def F1_papers : Ss := sFor (.nm 3) [] (iSeq (eF f_all_signs [eL bLen [e2 gIx (eK 0) (eC (.int 0))]])) L1_papers
def b_papers : Ss := sSeq (sExpr [0, 1] (eF f_check_system [eV 0, eV 1]))
 (sSeq (sSet 2 [] (eLst []))
 (sSeq (F1_papers)
 (sRet [] (eL bTuple [eK 2]))))
def f_papers : List D → Res := runF 8 b_papers
def N_orthant_end : List Str := ["table", "side", "signs", "index", "goal", "rows", "right", "costs", "kind", "numbers"]
def b_orthant_end : Ss := sSeq (sTup [5, 6] [0, 1, 2] (eF f_conditions [eV 0, eV 1, eV 2]))
 (sSeq (sSet 7 [] (e2 gMul (eLst [eTup [eC (.int 0), eC (.int 1)]]) (eL bLen [e2 gIx (eK 5) (eC (.int 0))])))
 (sSeq (sItem 7 [3] (eV 3) (eTup [e2 gSub (eC (.int 0)) (e2 gMul (eK 4) (e2 gIx (eK 2) (eK 3))), eC (.int 1)]))
 (sSeq (sTup [8, 9] [5, 6, 7] (eF f_solved [eV 5, eV 6, eV 7]))
 (sRet [2, 8] (eIf (e2 gEq (eK 8) (eC (.str "least"))) (eF f_with_signs [eSl (eK 9) none (some (eL bLen [eK 2])), eV 2]) (eV 8))))))
def f_orthant_end : List D → Res := runF 10 b_orthant_end
def N_reached : List Str := ["table", "side", "index", "goal", "best", "signs", "found"]
def L1_reached : Ss := sSeq (sSet 6 [0, 1, 5, 2, 3] (eF f_orthant_end [eV 0, eV 1, eV 5, eV 2, eV 3]))
 (sSeq (sIf [] (e2 gEq (eK 6) (eC (.str "endless")))
 (sRet [] (eC .none))
 (.nx))
 (sIf [] (e2 gNe (eK 6) (eC (.str "none")))
 (sIf [3] (eOr (e2 gEq (eK 4) (eC (.str "none"))) (eF f_is_beyond [e2 gIx (eK 6) (eK 2), e2 gIx (eK 4) (eK 2), eV 3]))
 (sSet 4 [6] (eV 6))
 (.nx))
 (.nx)))
def F1_reached : Ss := sFor (.nm 5) [] (iSeq (eF f_all_signs [eL bLen [e2 gIx (eK 0) (eC (.int 0))]])) L1_reached
def b_reached : Ss := sSeq (sSet 4 [] (eC (.str "none")))
 (sSeq (F1_reached)
 (sRetV 4))
def f_reached : List D → Res := runF 7 b_reached
def N_span_of : List Str := ["table", "side", "index", "found", "goal", "unknowns"]
def L1_span_of : Ss := sSeq (sSet 5 [0, 1, 2, 4] (eF f_reached [eV 0, eV 1, eV 2, eV 4]))
 (sSeq (sIf [] (e2 gEq (eK 5) (eC (.str "none")))
 (sRet [] (eC .none))
 (.nx))
 (sApp 3 [] (eIf (e2 gIs (eK 5) (eC .none)) (eC .none) (e2 gIx (eK 5) (eK 2)))))
def F1_span_of : Ss := sFor (.nm 4) [] (iSeq (eTup [e1 gNeg (eC (.int 1)), eC (.int 1)])) L1_span_of
def b_span_of : Ss := sSeq (sSet 3 [] (eLst []))
 (sSeq (F1_span_of)
 (sRet [] (eL bTuple [eK 3])))
def f_span_of : List D → Res := runF 6 b_span_of
def N_unknown_span : List Str := ["table", "side", "index", "found"]
def b_unknown_span : Ss := sSeq (sExpr [0, 1] (eF f_check_system [eV 0, eV 1]))
 (sSeq (sExpr [0, 2] (eF f_check_index [eV 0, eV 2]))
 (sSeq (sSet 3 [0, 1, 2] (eF f_span_of [eV 0, eV 1, eV 2]))
 (sSeq (sIf [] (e2 gIs (eK 3) (eC .none))
 (sRaise 13)
 (.nx))
 (sRetV 3))))
def f_unknown_span : List D → Res := runF 4 b_unknown_span
end U
set_option Elab.async false
set_option linter.all false
set_option maxRecDepth 100000
set_option maxHeartbeats 4000000
namespace U
open PySem PySem.Spec PyProof.Rows L2
def N_inverse_span : List Str := ["table", "row", "column", "index", "side", "place"]
def L1_inverse_span : Ss := sIf [3] (e1 gNot (eF f_in_range [eV 3, eC (.int 0), e2 gSub (eL bLen [eK 0]) (eC (.int 1))]))
 (sRaise 6)
 (.nx)
def F1_inverse_span : Ss := sFor (.nm 3) [1, 2] (iSeq (eTup [eV 1, eV 2])) L1_inverse_span
def C1_inverse_span : Sm := eComp (iR1 (eL bLen [eK 0])) (.nm 5) [5] none (eTup [eL bInt [e2 gEq (eK 5) (eK 2)], eL bInt [e2 gEq (eK 5) (eK 2)]])
def b_inverse_span : Ss := sSeq (sExpr [0] (eF f_check_square [eV 0]))
 (sSeq (F1_inverse_span)
 (sSeq (sIf [0] (e1 gNot (eF f_sure [eV 0]))
 (sRaise 10)
 (.nx))
 (sSeq (sSet 4 [] (eL bTuple [C1_inverse_span]))
 (sRet [0, 4, 1] (eF f_span_of [eV 0, eV 4, eV 1])))))
def f_inverse_span : List D → Res := runF 6 b_inverse_span
def N_singular_between : List Str := ["low", "high", "here", "value", "row", "column", "following", "later", "share", "step"]
def L1_singular_between : Ss := sSeq (sIf [] (e2 gEq (e2 gIx (eK 3) (eC (.int 0))) (eC (.int 0)))
 (sRetV 2)
 (.nx))
 (sSeq (sSet 6 [2, 4, 5] (eF f_replaced [eV 2, eV 4, eV 5, e2 gIx (e2 gIx (eK 1) (eK 4)) (eK 5)]))
 (sSeq (sSet 7 [6] (eF f_determinant_of [eV 6]))
 (sSeq (sIf [] (e2 gGe (e2 gIx (eK 7) (eC (.int 0))) (eC (.int 0)))
 (sSeq (sSet 8 [3, 3, 7] (eF f_shared [eV 3, eF f_taken [eV 3, eV 7]]))
 (sSeq (sSet 9 [8] (eF f_multiplied [eV 8, eF f_taken [e2 gIx (e2 gIx (eK 1) (eK 4)) (eK 5), e2 gIx (e2 gIx (eK 2) (eK 4)) (eK 5)]]))
 (sRet [2, 4, 5, 9] (eF f_replaced [eV 2, eV 4, eV 5, eF f_added [e2 gIx (e2 gIx (eK 2) (eK 4)) (eK 5), eV 9]]))))
 (.nx))
 (sPar2 2 3 [6, 7] (eV 6) (eV 7)))))
def F1_singular_between : Ss := sFor (.nm 5) [] (iR1 (eL bLen [eK 0])) L1_singular_between
def L2_singular_between : Ss := F1_singular_between
def F2_singular_between : Ss := sFor (.nm 4) [] (iR1 (eL bLen [eK 0])) L2_singular_between
def b_singular_between : Ss := sSeq (sPar2 2 3 [0, 0] (eV 0) (eF f_determinant_of [eV 0]))
 (sSeq (F2_singular_between)
 (sRetV 2))
def f_singular_between : List D → Res := runF 10 b_singular_between
end U
set_option Elab.async false
set_option linter.all false
set_option maxRecDepth 100000
set_option maxHeartbeats 4000000
namespace U
open PySem PySem.Spec PyProof.Rows L2
def N_null_unknowns : List Str := ["rows", "work", "width", "pivots", "column", "places", "here", "free", "result", "place", "row"]
def C1_null_unknowns : Sm := eComp (iSeq (eV 0)) (.nm 10) [10] none (eL bList [eK 10])
def C2_null_unknowns : Sm := eComp (iR2 (eL bLen [eK 3]) (eK 2)) (.nm 9) [9] (some (e2 gNe (e2 gIx (e2 gIx (e2 gIx (eK 1) (eK 9)) (eK 4)) (eC (.int 0))) (eC (.int 0)))) (eV 9)
def L1_null_unknowns : Ss := sSeq (sSet 5 [9] (C2_null_unknowns))
 (sIf [] (eK 5)
 (sSeq (sSet 6 [] (eL bLen [eK 3]))
 (sSeq (sSwp 1 [6] (eV 6) (e2 gIx (eK 5) (eC (.int 0))) (eTup [e2 gIx (eK 1) (e2 gIx (eK 5) (eC (.int 0))), e2 gIx (eK 1) (eK 6)]))
 (sSeq (sSet 1 [1, 6, 4] (eF f_reduced [eV 1, eV 6, eV 4]))
 (sApp 3 [4] (eV 4)))))
 (.nx))
def F1_null_unknowns : Ss := sFor (.nm 4) [] (iR1 (eK 2)) L1_null_unknowns
def C3_null_unknowns : Sm := eComp (iR1 (eK 2)) (.nm 4) [4] (some (e2 gNotIn (eK 4) (eK 3))) (eV 4)
def L2_null_unknowns : Ss := sItem 8 [4] (eV 4) (eF f_taken [eTup [eC (.int 0), eC (.int 1)], e2 gIx (e2 gIx (eK 1) (eK 9)) (eK 7)])
def F2_null_unknowns : Ss := sFor (.tp [9, 4]) [3] (iEnum (eV 3)) L2_null_unknowns
def b_null_unknowns : Ss := sSeq (sTri 1 2 3 [0] (C1_null_unknowns) (eL bLen [eK 0]) (eLst []))
 (sSeq (F1_null_unknowns)
 (sSeq (sSet 7 [4] (e2 gIx (C3_null_unknowns) (eC (.int 0))))
 (sSeq (sSet 8 [] (e2 gMul (eLst [eTup [eC (.int 0), eC (.int 1)]]) (eK 2)))
 (sSeq (sItem 8 [7] (eV 7) (eTup [eC (.int 1), eC (.int 1)]))
 (sSeq (F2_null_unknowns)
 (sRet [] (eL bTuple [eK 8])))))))
def f_null_unknowns : List D → Res := runF 11 b_null_unknowns
def N_singular_choice : List Str := ["table", "ends", "choice"]
def b_singular_choice : Ss := sSeq (sExpr [0] (eF f_check_square [eV 0]))
 (sSeq (sSet 1 [0] (eF f_ends_of [eV 0]))
 (sSeq (sIf [] (e2 gIs (eK 1) (eC .none))
 (sRaise 11)
 (.nx))
 (sSeq (sSet 2 [] (eF f_singular_between [e2 gIx (eK 1) (eC (.int 0)), e2 gIx (eK 1) (eC (.int 1))]))
 (sRet [2, 2] (eTup [eV 2, eF f_null_unknowns [eV 2]])))))
def f_singular_choice : List D → Res := runF 3 b_singular_choice
end U
set_option Elab.async false
set_option linter.all false
set_option maxRecDepth 100000
set_option maxHeartbeats 4000000
namespace U
open PySem PySem.Spec PyProof.Rows L2
def N_end_choices : List Str := ["table", "found", "row", "lines", "cell", "ends", "longer", "line", "choice", "end"]
def C1_end_choices : Sm := eComp (iSeq (eV 5)) (.nm 9) [9] none (e2 gAdd (eK 7) (eTup [eTup [eV 9, eC (.int 1)]]))
def L1_end_choices : Ss := sExt 6 [5, 9] (C1_end_choices)
def F1_end_choices : Ss := sFor (.nm 7) [3] (iSeq (eV 3)) L1_end_choices
def L2_end_choices : Ss := sSeq (sSet 5 [] (eSrt (eK 4)))
 (sSeq (sSet 6 [] (eLst []))
 (sSeq (F1_end_choices)
 (sSet 3 [6] (eV 6))))
def F2_end_choices : Ss := sFor (.nm 4) [2] (iSeq (eV 2)) L2_end_choices
def C2_end_choices : Sm := eComp (iSeq (eV 3)) (.nm 7) [7] none (e2 gAdd (eK 8) (eTup [eV 7]))
def L3_end_choices : Ss := sExt 6 [3, 7] (C2_end_choices)
def F3_end_choices : Ss := sFor (.nm 8) [1] (iSeq (eV 1)) L3_end_choices
def L4_end_choices : Ss := sSeq (sSet 3 [] (eLst [eTup []]))
 (sSeq (F2_end_choices)
 (sSeq (sSet 6 [] (eLst []))
 (sSeq (F3_end_choices)
 (sSet 1 [6] (eV 6)))))
def F4_end_choices : Ss := sFor (.nm 2) [0] (iSeq (eV 0)) L4_end_choices
def b_end_choices : Ss := sSeq (sSet 1 [] (eLst [eTup []]))
 (sSeq (F4_end_choices)
 (sRetV 1))
def f_end_choices : List D → Res := runF 10 b_end_choices
end U
set_option Elab.async false
set_option linter.all false
set_option maxRecDepth 100000
set_option maxHeartbeats 4000000
/-! set(t), t a tuple of tuples of ints; sorted(set(..)) of pairs -/
namespace RT
open PySem PySem.Spec PyProof.Rows L2
section
variable {P : Program} {w : World} {A : Around} {E : Value → Shared → Prop} {s : Shared}
/-- the set while it is empty -/
abbrev emS (w : World) : Obj := ⟨.type "set", none, .set #[] 0 (.fresh 0 0 (!w.params.followText "set-order")), #[]⟩
theorem fresh_none {h : Heap} {b : Addr} (hb : h.objs.size ≤ b) : h.get? b = none := by
  cases q : h.get? b with
  | none => rfl
  | some o => exact absurd (Nat.lt_of_lt_of_le (Heap.lt_size q) hb) (Nat.lt_irrefl _)
theorem item_ref {items : Array Value} {ks : List (Addr × List Int)} (hit : items.toList = ks.map fun p => Value.ref p.1) (i : Nat) (v : Value) (hv : items[i]? = some v) : ∃ p, ks[i]? = some p ∧ v = .ref p.1 := by
  have q : items.toList[i]? = some v := by rw [Array.getElem?_toList, hv]
  rw [hit, List.getElem?_map] at q
  obtain ⟨p, h1, h2⟩ := Option.map_eq_some_iff.mp q
  exact ⟨p, h1, h2.symm⟩
theorem call_set_tupleT {l : Addr} {items : Array Value} (ks : List (Addr × List Int)) {Q : Value → Shared → Prop} (hh : A.handled = none) (hl : s.heap.IsTuple l items) (hit : items.toList = ks.map fun p => Value.ref p.1)
    (hk : ∀ p ∈ ks, IsT P w s.heap p.2 p.1) (hfew : ks.length < 64) (hu : A.units + 3 < cLine)
    (fin : ∀ (h' : Heap) (tk : Nat) L es ep t, SetTR P w h' s.heap.objs.size L es ep t → Got ks ks.length L → (∀ b o, s.heap.get? b = some o → h'.get? b = some o) → Q (.ref s.heap.objs.size) { s with heap := h', toks := tk }) :
    wpAny (model P w) A (call (.type "set") [.ref l]) Q E s := by
  have n0 : items.size = ks.length := by have q := congrArg List.length hit; simpa using q
  obtain ⟨c, tl, hmro⟩ := F.called_set.mro
  have z1 := F.called_set.made; have z2 := F.called_set.sub
  refine wpAny_call (codeAny_of_tree ?_); show wpAny _ _ (callAny (.type "set") _) _ _ _
  refine wpAny_pure ⟨Code.quiet_builtin _ (by decide +kernel), codeAny_builtin F.entry_type_call ?_⟩; rw [Around.under_plain (weight_type_call_type "set" [.ref l] []) rfl]
  have z3 := F.called_set.notType; have z4 := F.called_set.canCreate; have z5 := F.typeCall_set_1 (.ref l)
  repeat (any_goals (first | assumption | wp_step))
  refine codeAny_mono (code_set_led1 (.ref l) (E := E) (Q₁ := fun obj s₁ => obj = .ref s.heap.objs.size ∧ s₁ = { s with heap := s.heap.push (emS w) }) ⟨rfl, rfl⟩) fun r s₁ hr => ?_
  cases r with
  | error e => exact hr
  | ok fl =>
    cases fl with
    | ret obj =>
      obtain ⟨rfl, rfl⟩ := hr
      have g0 : (s.heap.push (emS w)).get? s.heap.objs.size = some (emS w) := Heap.get?_push_size _ rfl
      have tS : Shared.TypeIs { s with heap := s.heap.push (emS w) } (.ref s.heap.objs.size) "set" := ⟨_, g0, rfl⟩
      have z6 := F.called_set.init.lookup; have z7 := F.called_set.init.bind (.ref s.heap.objs.size)
      repeat (any_goals (first | assumption | wp_step))
      refine codeAny_mono (codeAny_call_builtin (R := wants (fun r s₂ => r = .none ∧ ∃ h' tk L es ep t, s₂ = { s with heap := h', toks := tk } ∧ SetTR P w h' s.heap.objs.size L es ep t ∧ Got ks ks.length L ∧ (∀ b o, s.heap.get? b = some o → h'.get? b = some o)) E) F.called_set.init.plain F.entry_set_init (check_set_init_1 tS ?_)) fun r₂ s₂ hr₂ => ?_
      · obtain ⟨⟨oc, od, odt, osl⟩, ho, hc, n, hd⟩ := hl
        simp only at hc hd; subst hc; subst hd
        have y0 : (s.heap.push (emS w)).get? l = some { cls := .type "tuple", dict := od, data := .seq items n, slots := osl } := Heap.get?_push_of_some _ ho
        have y1 := F.sub_tuple_set; have y2 := F.sub_tuple_frozenset
        have y3 : (Value.type "tuple" == Value.type "dict") = false := by decide
        have y4 : (s.heap.push (emS w)).IsTuple l items := ⟨_, y0, rfl, n, rfl⟩
        unfold Builtin.«set.__init__» noKeywords Builtin.Frozenset.updateFrom
        generalize hPI : pyIter = PI
        wp_walk
        subst hPI
        refine wpAny_pyIter_tuple y4 ?_
        refine wpAny_bind (wpAny_runValue ?_)
        have lt0 : l < s.heap.objs.size := Heap.lt_size ho
        have hd0 : A.in1.in1.in1.handled = none := by simp [hh]
        have sz1 : (s.heap.push (emS w)).objs.size = s.heap.objs.size + 1 := Heap.size_push ..
        have ne1 : l ≠ (s.heap.push (emS w)).objs.size := by rw [sz1]; exact Nat.ne_of_lt (Nat.lt_succ_of_lt lt0)
        have ne2 : s.heap.objs.size ∉ [(s.heap.push (emS w)).objs.size, l] := by
          rw [sz1]; simp only [List.mem_cons, List.not_mem_nil, or_false, not_or]; exact ⟨Nat.ne_of_lt (Nat.lt_succ_self _), Nat.ne_of_gt lt0⟩
        refine set_update_tups ((Walks.tuple hd0 _ l ne1 items).toS) s.heap.objs.size ne2 ks n0 hfew (item_ref hit) s.heap hk (fresh_none (Nat.le_refl _)) (fun b hb => fresh_none (by rw [List.mem_singleton.mp hb, sz1]; exact Nat.le_succ _)) hu (items.size - 0) 0 _ (by omega) (Nat.zero_le _)
          ⟨⟨_, Heap.get?_push_size _ rfl, rfl, rfl⟩, (y4.push _)⟩ (fun b o e => Heap.get?_push_of_some _ (Heap.get?_push_of_some _ e)) ?k0 ?kR
        case k0 => exact ⟨[], #[], 0, _, setTR_fresh (Heap.get?_push_of_some _ g0), Got.zero ks⟩
        case kR =>
          intro s' L es ep t hm hS' g' hkp
          obtain ⟨h', g2, d', tk', os'⟩ := s'
          obtain rfl : g2 = s.gens := hm.gens
          obtain rfl : d' = s.drawn := hm.drawn
          obtain rfl : os' = s.os := hm.os
          show wpAny _ _ _ _ _ _
          refine wpAny_pure ?_
          show wpAny _ _ (ret Value.none) _ _ _
          rw [n0] at g'
          exact wpAny_pure ⟨rfl, h', tk', L, es, ep, t, rfl, hS', g', hkp⟩
      · cases r₂ with
        | error e => exact hr₂
        | ok fl₂ =>
          cases fl₂ with
          | ret r =>
            obtain ⟨rfl, h', tk, L, es, ep, t, rfl, q1, q2, q3⟩ := hr₂
            repeat (any_goals (first | assumption | wp_step))
            exact fin _ _ _ _ _ _ q1 q2 q3
          | _ => exact hr₂.elim
    | _ => exact hr.elim
end
end RT
namespace U
open PySem PySem.Spec PyProof.Rows L2
def rSetTT (K : PySem.W.Frag) (P : Program) (w : World) : List V → Hp → VK → Prop := fun xs H Q => ∃ (l : Addr) (ks : List (Addr × List Int)), xs = [V.ref l] ∧ (SqL K H l (ks.map fun p => V.ref p.1) ∨ SqT K H l (ks.map fun p => V.ref p.1)) ∧ (∀ p ∈ ks, SqT K H p.1 (p.2.map V.int)) ∧ ks.length < 64 ∧
  ∀ a L, H a = none → (∀ p ∈ L, p ∈ ks) → (∀ p ∈ ks, p.2 ∈ L.map (·.2)) → Q (.ref a) (upd H a (SetTO P w a L))
theorem cr_setTT {X : Cx} (hc : X.calm = true) (hu : X.A.units + 64 < cLine) : CallR X (.type "set") (rSetTT X.K X.prog X.w) := by
  intro pins s σ H xs us Q I r h
  obtain ⟨l, ks, rfl, hl | hl, hk, hf, q⟩ := h
  · exact cr_setOfT hc hu pins s σ H _ us Q I r ⟨l, ks, rfl, hl, hk, hf, q⟩
  · rw [Vals.ref1 r]
    obtain ⟨its, rv, pl, hz⟩ := I.tuple hl
    have hn : H s.heap.objs.size = none := I.hok.fresh (Nat.le_refl _)
    refine RT.call_set_tupleT (P := X.prog) (w := X.w) ks (I.ok.hd hc) pl (by simpa using refs_of_vals rv) (fun p hp => I.isT (hk p hp)) hf (by omega) fun h' tk L es ep t R g k => ?_
    exact ⟨.ref s.heap.objs.size, upd H s.heap.objs.size (SetTO X.prog X.w s.heap.objs.size L), I.laid (t' := tk) k (Nat.le_refl _) (setTO_new R.t0), rfl, q _ L hn (fun p hp => List.mem_of_mem_take (g.sub p hp)) (fun p hp => g.all p (by rw [List.take_length]; exact hp))⟩
theorem pe_srtT {X : Cx} {e : Expr} {te : TE} {p p2 q2 pos : Pos} (hc : X.calm = true) (hu : X.A.units + 64 < cLine) (hg : Gl X "sorted") (hm : X.mg "sorted" = none) (hg2 : Gl X "set") (hm2 : X.mg "set" = none) (he : PE X e te) (hs : notStar e = true) :
    PE X (.Call (.Name "sorted" p) [.Call (.Name "set" p2) [e] [] q2] [] pos) (fun σ H Q => te σ H fun x H1 => rSetTT X.K X.prog X.w [x] H1 fun y H2 => rSortedT X.K X.prog X.w [y] H2 Q) := by
  have i1 : PE X (.Call (.Name "set" p2) [e] [] q2) _ := pe_callTy (cr_setTT hc hu) hg2 hm2 PyProof.Rows.boot_set (pa_cons he pa_nil (star_cons hs)) (by decide) (by decide) (star_cons hs) rfl
  have i2 : PE X (.Call (.Name "sorted" p) [.Call (.Name "set" p2) [e] [] q2] [] pos) _ := pe_callB (cr_sortedT hc) hg hm PyProof.Rows.boot_sorted (pa_cons i1 pa_nil rfl) (by decide) (by decide) rfl rfl
  exact i2
end U
set_option Elab.async false
set_option linter.all false
set_option maxRecDepth 100000
set_option maxHeartbeats 1000000
/-! sorted(set(x)), x a list or a tuple of pairs of small ints -/
namespace U
open PySem PySem.Spec PyProof.Rows L2
def prsOf : List D → Option (List (Int × Int))
  | [] => some []
  | .tuple [.int a, .int b] :: ds => (prsOf ds).map ((a, b) :: ·)
  | _ => none
def cdP (p : Int × Int) : Int := p.1 * 64 + p.2
def dcdP (c : Int) : D := .tuple [.int (c / 64), .int (c % 64)]
def bdP (p : Int × Int) : Prop := 0 ≤ p.1 ∧ p.1 < 64 ∧ 0 ≤ p.2 ∧ p.2 < 64
instance (p : Int × Int) : Decidable (bdP p) := inferInstanceAs (Decidable (_ ∧ _ ∧ _ ∧ _))
def srpK (ds : List D) : Res := match prsOf ds with
  | some ps => if ps.length < 64 ∧ ∀ p ∈ ps, bdP p then .new ((srt (ps.map cdP)).map dcdP) else .bad
  | none => .bad
def srpD : D → Res
  | .list ds => srpK ds
  | .tuple ds => srpK ds
  | _ => .bad
def eSrp (ma : Sm) : Sm := fun ρ => (ma ρ).bind srpD
theorem dps_prs {F : Hp} : ∀ {ds : List D} {xs : List V} {ps : List (Int × Int)}, prsOf ds = some ps → DrAll F xs ds → ∃ ks : List (Addr × List Int), xs = ks.map (fun p => V.ref p.1) ∧ ks.map (·.2) = ps.map (fun p => [p.1, p.2]) ∧ ∀ p ∈ ks, F p.1 = some (.tup (p.2.map V.int))
  | [], _, ps, h, hd => by cases h; cases hd; exact ⟨[], rfl, rfl, by simp⟩
  | d :: ds, _, ps, h, hd => by
    unfold prsOf at h
    split at h
    · rename_i h0; cases h0
    · rename_i a b r h0
      cases h0
      cases hr : prsOf ds with
      | none => rw [hr] at h; cases h
      | some qs =>
        rw [hr] at h; cases h
        cases hd with
        | cons h1 h2 =>
          obtain ⟨ks, e1, e2, e3⟩ := dps_prs hr h2
          cases h1 with
          | tup g1 g2 =>
            cases g2 with
            | cons i1 g2 =>
              cases g2 with
              | cons i2 g2 =>
                cases g2; cases i1; cases i2
                refine ⟨(_, [a, b]) :: ks, by rw [e1]; rfl, by rw [List.map_cons, e2]; rfl, fun p hp => ?_⟩
                rcases List.mem_cons.mp hp with rfl | hp
                · exact g1
                · exact e3 p hp
    · cases h
theorem cd_inj {a b : Int × Int} (ha : bdP a) (hb : bdP b) (h : cdP a = cdP b) : a = b := by
  unfold bdP at ha hb; unfold cdP at h
  have h1 : a.1 = b.1 := by omega
  have h2 : a.2 = b.2 := by omega
  cases a; cases b; simp at h1 h2; rw [h1, h2]
theorem dcd_cd {a : Int × Int} (ha : bdP a) : dcdP (cdP a) = .tuple [.int a.1, .int a.2] := by
  unfold bdP at ha; unfold cdP dcdP
  have h1 : (a.1 * 64 + a.2) / 64 = a.1 := by omega
  have h2 : (a.1 * 64 + a.2) % 64 = a.2 := by omega
  rw [h1, h2]
theorem pw_lt_of : ∀ {l : List Int}, l.Nodup → l.Pairwise (· ≤ ·) → l.Pairwise (· < ·)
  | [], _, _ => .nil
  | a :: l, h1, h2 => by
    rw [List.nodup_cons] at h1
    rw [List.pairwise_cons] at h2 ⊢
    refine ⟨fun b hb => ?_, pw_lt_of h1.2 h2.2⟩
    have := h2.1 b hb
    have : a ≠ b := fun e => h1.1 (e ▸ hb)
    omega
theorem j_srp {X : Cx} {cv : Nat → Value} {W : WX} {a : Expr} {ma : Sm} {p p2 q2 pos : Pos} (hc : X.calm = true) (hu : X.A.units + 64 < cLine) (hg : Gl X "sorted") (hm : X.mg "sorted" = none) (hg2 : Gl X "set") (hm2 : X.mg "set" = none) (ha : JW X cv W a ma) (hs : notStar a = true) : JE X cv W (.Call (.Name "sorted" p) [.Call (.Name "set" p2) [a] [] q2] [] pos) (eSrp ma) :=
  PE.imp (pe_srtT hc hu hg hm hg2 hm2 ha hs) fun σ H Q ⟨ρ, F, r, q⟩ => by
    refine ⟨ρ, F, r, ?_⟩
    unfold eSrp at q
    have go : ∀ d, GotE cv W F H σ Q (srpD d) → QW F H d fun x H1 => rSetTT X.K X.prog X.w [x] H1 fun y H2 => rSortedT X.K X.prog X.w [y] H2 Q := fun d q v F1 H1 ev wk => by
      have main : ∀ (ds : List D) (xs : List V) (p : Addr), v = .ref p → GotE cv W F H σ Q (srpK ds) → (SqL X.K H1 p xs ∨ SqT X.K H1 p xs) → DrAll F1 xs ds → rSetTT X.K X.prog X.w [v] H1 fun y H2 => rSortedT X.K X.prog X.w [y] H2 Q := fun ds xs p e q hp hx => by
        subst e
        unfold srpK at q
        cases hi : prsOf ds with
        | none => rw [hi] at q; exact q.elim
        | some ps =>
          rw [hi] at q
          simp only at q
          split at q
          case isFalse => exact q.elim
          rename_i hl
          obtain ⟨ks, e1, e2, e3⟩ := dps_prs hi hx
          subst e1
          have kl : ks.length = ps.length := by have := congrArg List.length e2; simpa using this
          have kb : ∀ k ∈ ks, ∃ q ∈ ps, k.2 = [q.1, q.2] := fun k hk => by
            have : k.2 ∈ ks.map (·.2) := List.mem_map_of_mem hk
            rw [e2] at this
            obtain ⟨q, h1, h2⟩ := List.mem_map.mp this
            exact ⟨q, h1, h2.symm⟩
          refine ⟨p, ks, rfl, hp, fun k hk => .inl (.inl (ev.le _ _ (e3 k hk))), by omega, fun a L ha hL hL2 => ⟨a, L, 2, 64, rfl, upd_same, fun k hk => .inl (.inl ?_), by decide, fun k hk => ?_, fun L' p' pm nd len pw hp' => ?_⟩⟩
          · have hF := ev.le _ _ (e3 k (hL k hk))
            have : k.1 ≠ a := fun z => by rw [z, ha] at hF; cases hF
            rw [upd_ne this]; exact hF
          · obtain ⟨q, h1, h2⟩ := kb k (hL k hk)
            have hb := hl.2 q h1
            unfold bdP at hb
            rw [h2]
            refine ⟨rfl, ?_⟩
            intro z hz
            simp only [List.mem_cons, List.not_mem_nil, or_false] at hz
            rcases hz with rfl | rfl <;> omega
          · have hL' : ∀ k ∈ L', ∃ q ∈ ps, k.2 = [q.1, q.2] ∧ F1 k.1 = some (.tup (k.2.map V.int)) := fun k hk => by
              have h0 := hL k (pm.mem_iff.mp hk)
              obtain ⟨q, h1, h2⟩ := kb k h0
              exact ⟨q, h1, h2, e3 k h0⟩
            have ecode : L'.map (fun k => TS.code 64 k.2) = srt (ps.map cdP) := by
              refine pw_uniq (pw_lt_of ?_ ?_) (pw_srt _) fun c => ?_
              · have inj : ∀ x ∈ L'.map (·.2), ∀ y ∈ L'.map (·.2), TS.code 64 x = TS.code 64 y → x = y := fun x hx y hy e => by
                  obtain ⟨k1, h1, rfl⟩ := List.mem_map.mp hx
                  obtain ⟨k2, h2, rfl⟩ := List.mem_map.mp hy
                  obtain ⟨q1, i1, j1, _⟩ := hL' k1 h1
                  obtain ⟨q2, i2, j2, _⟩ := hL' k2 h2
                  rw [j1, j2, code_pair, code_pair] at e
                  rw [j1, j2, cd_inj (hl.2 q1 i1) (hl.2 q2 i2) e]
                have nd' : (L'.map (·.2)).Pairwise (fun x y => TS.code 64 x ≠ TS.code 64 y) := List.Pairwise.imp_of_mem (fun {x y} hx hy h e => h (inj x hx y hy e)) nd
                have := List.pairwise_map.mpr nd'
                rw [List.map_map] at this
                exact this
              · exact List.pairwise_map.mpr pw
              · rw [mem_srt]
                constructor
                · intro h
                  obtain ⟨k, h1, rfl⟩ := List.mem_map.mp h
                  obtain ⟨q, i1, j1, _⟩ := hL' k h1
                  rw [j1, code_pair]
                  exact List.mem_map.mpr ⟨q, i1, rfl⟩
                · intro h
                  obtain ⟨q, h1, rfl⟩ := List.mem_map.mp h
                  have : [q.1, q.2] ∈ ks.map (·.2) := by rw [e2]; exact List.mem_map.mpr ⟨q, h1, rfl⟩
                  obtain ⟨k, h2, h3⟩ := List.mem_map.mp this
                  have h4 := hL2 k h2
                  obtain ⟨k2, h5, h6⟩ := List.mem_map.mp h4
                  refine List.mem_map.mpr ⟨k2, pm.mem_iff.mpr h5, ?_⟩
                  rw [h6, h3, code_pair]; rfl
            have hq := q
            rw [← ecode, List.map_map] at q
            have hdr : ∀ (M : List (Addr × List Int)), (∀ k ∈ M, ∃ q ∈ ps, k.2 = [q.1, q.2] ∧ F1 k.1 = some (.tup (k.2.map V.int))) → DrAll F1 (M.map fun k => V.ref k.1) (M.map (dcdP ∘ fun k => TS.code 64 k.2)) := by
              intro M
              induction M with
              | nil => intro _; exact .nil
              | cons k M ih =>
                intro hM
                refine .cons ?_ (ih fun k' h' => hM k' (List.mem_cons_of_mem _ h'))
                obtain ⟨q, h1, h2, h3⟩ := hM k List.mem_cons_self
                have : (dcdP ∘ fun k : Addr × List Int => TS.code 64 k.2) k = .tuple [.int q.1, .int q.2] := by
                  simp only [Function.comp]
                  rw [h2, code_pair]
                  exact dcd_cd (hl.2 q h1)
                rw [this]
                rw [h2] at h3
                exact .tup h3 (.cons (.int _) (.cons (.int _) .nil))
            have hn1 : H1 p' = none := none_back (Evl.Ex.new ha) hp'
            have ev2 : Evo F1 H1 F1 (upd (upd H1 a (SetTO X.prog X.w a L)) p' (.lst (L'.map fun q => V.ref q.1))) := ((Evo.refl ev.le).own ha).own hp'
            exact q p' _ F1 _ (ev.trans ev2) (none_back ev.hx hn1) (none_back ev.le hn1) upd_same (hdr L' hL')
      cases d <;> try exact q.elim
      · rename_i ds
        obtain ⟨p, xs, e, hp, hx⟩ := wk.list ev.le
        exact main ds xs p e q (.inl (.inl hp)) hx
      · rename_i ds
        obtain ⟨p, xs, e, hpF, hp, hx⟩ := wk.tuple ev.le
        exact main ds xs p e q (.inr (.inl (.inl hp))) hx
    cases h : ma ρ with
    | ok d => rw [h] at q; exact go d q
    | new d => rw [h] at q; exact go _ q
    | exc c => rw [h] at q; exact q
    | bad => rw [h] at q; exact q
end U
set_option Elab.async false
set_option linter.all false
set_option maxRecDepth 100000
set_option maxHeartbeats 1000000
/-! sorted(list), min(list) of data that are alike; list.index of data -/
namespace U
open PySem PySem.Spec PyProof.Rows L2
open PySem.W (minD min_list_data reads_keeps)
def alkB (ds : List D) : Bool := ds.all fun d => ds.all fun e => PySem.W.alike d e
def tupB (ds : List D) : Bool := ds.all fun d => match d with
  | .tuple (_ :: _) => true
  | _ => false
def depB (ds : List D) : Bool := ds.all fun d => decide (d.depth ≤ 50)
theorem each_dr {F : Hp} : ∀ {xs : List V} {ds : List D} {us : List Value}, DrAll F xs ds → Vals xs us → PySem.W.EachIs (fun u d => ∃ v, RelV v u ∧ Dr F v d) us ds
  | _, _, _, .nil, .nil => .nil
  | _, _, _, .cons h t, .cons r rs => .cons ⟨_, r, h⟩ (each_dr t rs)
theorem each_out {F : Hp} : ∀ {us : List Value} {ds : List D}, PySem.W.EachIs (fun u d => ∃ v, RelV v u ∧ Dr F v d) us ds → ∃ xs, Vals xs us ∧ DrAll F xs ds
  | _, _, .nil => ⟨[], .nil, .nil⟩
  | _, _, .cons ⟨v, r, h⟩ t => by
    obtain ⟨xs, h1, h2⟩ := each_out t
    exact ⟨v :: xs, .cons r h1, .cons h h2⟩
mutual
theorem nt_alike : ∀ d : D, PySem.W.alike d d = true → nt d = true
  | .none, _ => by simp [nt]
  | .bool _, _ => by simp [nt]
  | .int _, _ => by simp [nt]
  | .str _, _ => by simp [nt]
  | .list xs, h => by rw [nt]; rw [PySem.W.alike] at h; exact ntAll_alike xs h
  | .tuple xs, h => by rw [nt]; rw [PySem.W.alike] at h; exact ntAll_alike xs h
  | .dict _, h => by simp [PySem.W.alike] at h
theorem ntAll_alike : ∀ ds : List D, PySem.W.alikeAll ds ds = true → ntAll ds = true
  | [], _ => by simp [ntAll]
  | x :: xs, h => by
    rw [PySem.W.alikeAll, Bool.and_eq_true] at h
    rw [ntAll, nt_alike x h.1, ntAll_alike xs h.2]; rfl
end
theorem alk_nt {ds : List D} (h : alkB ds = true) : ntAll ds = true := by
  have h' : ∀ d ∈ ds, nt d = true := fun d hd => nt_alike d (List.all_eq_true.mp (List.all_eq_true.mp h d hd) d hd)
  clear h
  induction ds with
  | nil => simp [ntAll]
  | cons x xs ih => rw [ntAll, h' x List.mem_cons_self, ih fun d hd => h' d (List.mem_cons_of_mem _ hd)]; rfl
theorem each_reads {X : Cx} {pins : List (Addr × Obj)} {σ : L2.St} {H F : Hp} {s : Shared} (I : Inv X pins σ H s) (le : Ex F H) : ∀ {xs : List V} {ds : List D} {us : List Value}, DrAll F xs ds → ntAll ds = true → Vals xs us → PySem.W.EachIs (fun u d => ∃ as, Reads s.heap u (id d) as) us ds
  | _, _, _, .nil, _, .nil => .nil
  | _, _, _, .cons h t, c, .cons r rs => by
    rw [ntAll, Bool.and_eq_true] at c
    exact .cons (Dp.reads I _ _ _ ((dp_mono le h).dp0 c.1) r) (each_reads I le t c.2 rs)
def srtL (ds : List D) : List D := ds.mergeSort (PySem.W.dataLe false id)
def rSortedDr (K : PySem.W.Frag) : List V → Hp → VK → Prop := fun vs H Q => ∃ (a : Addr) (xs : List V) (F : Hp) (ds : List D), vs = [.ref a] ∧ SqL K H a xs ∧ Ex F H ∧ DrAll F xs ds ∧ alkB ds = true ∧ tupB ds = true ∧ depB ds = true ∧ ds.length ≤ 100000 ∧
  ∀ xs' p, DrAll F xs' (srtL ds) → H p = none → Q (.ref p) (upd H p (.lst xs'))
theorem cr_sortedDr {X : Cx} (hu : X.A.units + 64 < cLine) : CallR X (.builtin "sorted") (rSortedDr X.K) := by
  intro pins s σ H vs us Q I r h
  obtain ⟨a, xs, F, ds, rfl, hs, le, hd, ha, ht, hp, hn, q⟩ := h
  obtain ⟨its, rv, hl, _⟩ := I.list hs
  rw [Vals.ref1 r]
  have alk : PySem.W.AllAlike (ds.map id) := by
    rw [List.map_id]
    intro d h1 d' h2
    exact List.all_eq_true.mp (List.all_eq_true.mp ha d h1) d' h2
  have srtb : PySem.W.Sortable (ds.map id) := by
    rw [List.map_id]
    refine .inl fun d h1 => ?_
    have := List.all_eq_true.mp ht d h1
    split at this
    · exact ⟨_, _, rfl⟩
    · cases this
  refine PySem.W.sorted_data (enc := id) (R := fun u d => ∃ v, RelV v u ∧ Dr F v d) hl.isList (each_dr hd rv) (each_reads I le hd (alk_nt ha) rv) alk srtb (by rw [sizeLine_eq]; omega) (fun d h1 => ?_) fun out hlo ho => ?_
  · have := of_decide_eq_true (List.all_eq_true.mp hp d h1)
    show _ + d.depth < _
    omega
  · obtain ⟨xs', r', d'⟩ := each_out ho
    obtain ⟨ep, he'⟩ := PyProof.Rows.sortedAll_at s.heap its out.toArray
    have hlen : xs'.length ≤ sizeLine := by rw [dps_len d', List.length_mergeSort, sizeLine_eq]; omega
    exact ⟨.ref _, upd H (s.heap.objs.size + 1) (.lst xs'), I.laid (t' := s.toks) (fun _ _ => PyProof.Rows.sortedAll_old) (Nat.le_succ _) ⟨hlen, out, ep, r', he'⟩, rfl, q xs' _ d' (I.hok.fresh (Nat.le_succ _))⟩
def srtDD : D → Res
  | .list ds => if alkB ds = true ∧ tupB ds = true ∧ depB ds = true ∧ ds.length ≤ 100000 then .new (srtL ds) else .bad
  | _ => .bad
def eSrtL (ma : Sm) : Sm := fun ρ => (ma ρ).bind srtDD
theorem j_srtL {X : Cx} {cv : Nat → Value} {W : WX} {a : Expr} {ma : Sm} {p pos : Pos} (hu : X.A.units + 64 < cLine) (hg : Gl X "sorted") (hm : X.mg "sorted" = none) (ha : JW X cv W a ma) (hs : notStar a = true) : JE X cv W (.Call (.Name "sorted" p) [a] [] pos) (eSrtL ma) :=
  PE.imp (pe_callB (cr_sortedDr hu) hg hm PyProof.Rows.boot_sorted (pa_cons ha pa_nil (star_cons hs)) (by decide) (by decide) (star_cons hs) rfl) fun σ H Q ⟨ρ, F, r, q⟩ => by
    refine ⟨ρ, F, r, ?_⟩
    unfold eSrtL at q
    have go : ∀ d, GotE cv W F H σ Q (srtDD d) → QW F H d fun x H1 => rSortedDr X.K [x] H1 Q := fun d q v F1 H1 ev wk => by
      cases d <;> try exact q.elim
      rename_i ds
      unfold srtDD at q
      simp only at q
      split at q
      case isFalse => exact q.elim
      rename_i hz
      obtain ⟨p, xs, e, hp, hx⟩ := wk.list ev.le
      subst e
      refine ⟨p, xs, F1, ds, rfl, .inl hp, ev.le, hx, hz.1, hz.2.1, hz.2.2.1, hz.2.2.2, fun xs' p' hd hp' => ?_⟩
      exact q p' _ F1 _ (ev.trans ((Evo.refl ev.le).own hp')) (none_back ev.hx hp') (none_back ev.le hp') upd_same hd
    cases h : ma ρ with
    | ok d => rw [h] at q; exact go d q
    | new d => rw [h] at q; exact go _ q
    | exc c => rw [h] at q; exact q
    | bad => rw [h] at q; exact q
/-! ### min of a list of data -/
theorem minD_mem (d : D) : ∀ ds : List D, minD d ds ∈ d :: ds := by
  intro ds
  unfold minD
  induction ds generalizing d with
  | nil => simp
  | cons e ds ih =>
    rw [List.foldl_cons]
    have := ih (if PySem.W.dataLt e d = true then e else d)
    rcases List.mem_cons.mp this with h | h
    · rw [h]; split <;> simp
    · exact List.mem_cons_of_mem _ (List.mem_cons_of_mem _ h)
def rMinDr (K : PySem.W.Frag) : List V → Hp → VK → Prop := fun vs H Q => ∃ (a : Addr) (xs : List V) (F : Hp) (d : D) (ds : List D), vs = [.ref a] ∧ SqL K H a xs ∧ Ex F H ∧ DrAll F xs (d :: ds) ∧ alkB (d :: ds) = true ∧ tupB (d :: ds) = true ∧ PyData.depthAll (d :: ds) ≤ 50 ∧ PyData.canLayAll0 (d :: ds) = true ∧
  ∀ v, Dr F v (minD d ds) → Q v H
theorem cr_minDr {X : Cx} (hc : X.calm = true) (hu : X.A.units + 64 < cLine) : CallR X (.builtin "min") (rMinDr X.K) := by
  intro pins s σ H vs us Q I r h
  obtain ⟨a, xs, F, d, ds, rfl, hs, le, hd, ha, ht, hp, hn, q⟩ := h
  obtain ⟨its, rv, hl, _⟩ := I.list hs
  rw [Vals.ref1 r]
  obtain ⟨as, hr⟩ := Dp.readsAll I (d :: ds) xs its ((dps_mono le hd).dp hn) rv
  refine min_list_data (I.ok.hd hc) hl.isList (show ReadsAll s.heap its.toArray.toList (d :: ds) as from hr) ⟨fun x h1 y h2 => List.all_eq_true.mp (List.all_eq_true.mp ha x h1) y h2, fun x h1 e => ?_⟩ (by omega) fun i u h' tk bs hi hm hk => ?_
  · have := List.all_eq_true.mp ht x h1
    rw [e] at this; cases this
  · have hi' : its[i]? = some u := by simpa using hi
    have key : ∀ (es : List D) (ys : List V) (us : List Value), DrAll F ys es → Vals ys us → us[i]? = some u → ∃ e v, e ∈ es ∧ Dr F v e ∧ RelV v u := by
      generalize i = i
      intro es ys us h1 h2 h4
      induction h2 generalizing es i with
      | nil => cases h4
      | cons r rs ih =>
        cases h1 with
        | cons e1 e2 =>
          cases i with
          | zero => cases h4; exact ⟨_, _, List.mem_cons_self, e1, r⟩
          | succ i =>
            obtain ⟨e, v, k1, k2, k3⟩ := ih _ _ e2 h4
            exact ⟨e, v, List.mem_cons_of_mem _ k1, k2, k3⟩
    obtain ⟨e, v, k1, k2, k3⟩ := key _ _ _ hd rv hi'
    have lay : ∀ x ∈ d :: ds, x.canLay0 = true := by
      have : ∀ l : List D, PyData.canLayAll0 l = true → ∀ x ∈ l, x.canLay0 = true := by
        intro l
        induction l with
        | nil => intro _ x hx; cases hx
        | cons y l ih =>
          intro h x hx
          rw [PyData.canLayAll0, Bool.and_eq_true] at h
          rcases List.mem_cons.mp hx with rfl | hx
          · exact h.1
          · exact ih h.2 x hx
      exact this _ hn
    obtain ⟨cs, r1⟩ := Dp.reads I e v u ((dp_mono le k2).dp (lay _ k1)) k3
    have r2 : Reads h' u e cs := reads_keeps hk r1
    have e1 := SeqAt.readOf_eq (lay _ k1) r2
    have e2 := SeqAt.readOf_eq (lay _ (minD_mem d ds)) hm
    have : e = minD d ds := e1.symm.trans e2
    rw [this] at k2
    exact ⟨v, H, I.kept hk, k3, q v k2⟩
def minDD : D → Res
  | .list (d :: ds) => if alkB (d :: ds) = true ∧ tupB (d :: ds) = true ∧ PyData.depthAll (d :: ds) ≤ 50 ∧ PyData.canLayAll0 (d :: ds) = true then .ok (minD d ds) else .bad
  | _ => .bad
def eMinD (ma : Sm) : Sm := fun ρ => (ma ρ).bind minDD
theorem j_minD {X : Cx} {cv : Nat → Value} {W : WX} {a : Expr} {ma : Sm} {p pos : Pos} (hc : X.calm = true) (hu : X.A.units + 64 < cLine) (hg : Gl X "min") (hm : X.mg "min" = none) (ha : JW X cv W a ma) (hs : notStar a = true) : JE X cv W (.Call (.Name "min" p) [a] [] pos) (eMinD ma) :=
  PE.imp (pe_callB (cr_minDr hc hu) hg hm PyProof.Rows.boot_min (pa_cons ha pa_nil (star_cons hs)) (by decide) (by decide) (star_cons hs) rfl) fun σ H Q ⟨ρ, F, r, q⟩ => by
    refine ⟨ρ, F, r, ?_⟩
    unfold eMinD at q
    have go : ∀ d, GotE cv W F H σ Q (minDD d) → QW F H d fun x H1 => rMinDr X.K [x] H1 Q := fun d q v F1 H1 ev wk => by
      cases d <;> try exact q.elim
      rename_i ds
      cases ds with
      | nil => exact q.elim
      | cons d ds =>
        unfold minDD at q
        simp only at q
        split at q
        case isFalse => exact q.elim
        rename_i hz
        obtain ⟨p, xs, e, hp, hx⟩ := wk.list ev.le
        subst e
        exact ⟨p, xs, F1, d, ds, rfl, .inl hp, ev.le, hx, hz.1, hz.2.1, hz.2.2.1, hz.2.2.2, fun v hv => q v F1 H1 ev hv⟩
    cases h : ma ρ with
    | ok d => rw [h] at q; exact go d q
    | new d => rw [h] at q; exact go _ q
    | exc c => rw [h] at q; exact q
    | bad => rw [h] at q; exact q
/-! ### list.index of data -/
def ixP (d : D) : List D → Option Nat
  | [] => none
  | e :: es => if PyData.eqv e d = true then some 0 else (ixP d es).map (· + 1)
theorem ixP_spec (d : D) : ∀ {es : List D} {j : Nat}, ixP d es = some j → (∃ z, es[j]? = some z ∧ PyData.eqv z d = true) ∧ ∀ (m : Nat) (z' : D), m < j → es[m]? = some z' → PyData.eqv z' d = false
  | [], _, h => by cases h
  | e :: es, j, h => by
    unfold ixP at h
    split at h
    · rename_i he
      cases h
      exact ⟨⟨e, rfl, he⟩, fun m z' hm => absurd hm (Nat.not_lt_zero _)⟩
    · rename_i he
      obtain ⟨k, hk, rfl⟩ := Option.map_eq_some_iff.mp h
      obtain ⟨⟨z, h1, h2⟩, h3⟩ := ixP_spec d hk
      refine ⟨⟨z, h1, h2⟩, fun m z' hm hz => ?_⟩
      cases m with
      | zero => cases hz; simpa using he
      | succ m => exact h3 m z' (by omega) hz
def ixDD (a d : D) : Res := match a with
  | .list es => if SeqAt.shaped (.list es) = true ∧ SeqAt.shaped d = true then (match ixP d es with
    | some j => .ok (.int (j : Nat))
    | none => .bad) else .bad
  | _ => .bad
def eIxL (mo m : Sm) : Sm := fun ρ => (mo ρ).bind fun x => match x with
  | .list es => (m ρ).bind (ixDD (.list es))
  | _ => .bad
theorem j_ixL {X : Cx} {cv : Nat → Value} {W : WX} {o e : Expr} {mo m : Sm} {apos pos : Pos} (hu : X.A.units + 65 < cLine) (ho : JW X cv W o mo) (he : JW X cv W e m) (hs : notStar e = true) (hb : attributeBase o "index" X.env (eval o X.env) = eval o X.env) (hl : (apos.endLine == pos.line) = true) : JE X cv W (.Call (.Attribute o "index" apos) [e] [] pos) (eIxL mo m) :=
  PE.imp (pe_bm PySem.F.plainAttrs_list PySem.F.slot_list_index PySem.F.type_list_index (mt_indexD hu) ho (pa_cons he pa_nil (star_cons hs)) hb (by rw [star_cons hs]; rfl) hl (star_cons hs) rfl) fun σ H Q ⟨ρ, F, r, q⟩ => by
    refine ⟨ρ, F, r, ?_⟩
    unfold eIxL at q
    have go : ∀ d, GotE cv W F H σ Q (match d with
      | .list es => (m ρ).bind (ixDD (.list es))
      | _ => .bad) → QW F H d fun x H1 => tyV X.K "list" x H1 ∧ rdW cv W m σ H1 fun y H2 => rIndexD X.K x [y] H2 Q := fun d q v F1 H1 ev wk => by
      cases d <;> try exact q.elim
      rename_i es
      simp only at q
      obtain ⟨p, xs, e, hp, hx⟩ := wk.list ev.le
      subst e
      refine ⟨.inl ⟨rfl, xs, .inl hp⟩, ρ, F1, r.evo ev, ?_⟩
      have go2 : ∀ d2, GotE cv W F H σ Q (ixDD (.list es) d2) → QW F1 H1 d2 fun y H2 => rIndexD X.K (.ref p) [y] H2 Q := fun d2 q w F2 H2 ev2 wk2 => by
        unfold ixDD at q
        simp only at q
        split at q
        case isFalse => exact q.elim
        rename_i hz
        cases hj : ixP d2 es with
        | none => rw [hj] at q; exact q.elim
        | some j =>
          rw [hj] at q
          obtain ⟨⟨z, z1, z2⟩, z3⟩ := ixP_spec d2 hj
          refine ⟨p, w, d2, es, j, z, rfl, rfl, (Wk.dp ev2.le (wk.evo ev2)).dp (SeqAt.canLay_of_shaped hz.1), (Wk.dp ev2.le wk2).dp (SeqAt.canLay_of_shaped hz.2), hz.1, hz.2, z1, z2, z3, q _ F2 H2 (ev.trans ev2) (.int _)⟩
      cases hm : m ρ with
      | ok d2 => rw [hm] at q; exact go2 d2 q
      | new d2 => rw [hm] at q; exact go2 _ q
      | exc c => rw [hm] at q; exact QX.evo ev q
      | bad => rw [hm] at q; exact q.elim
    cases h : mo ρ with
    | ok d => rw [h] at q; exact go d q
    | new d => rw [h] at q; exact go _ q
    | exc c => rw [h] at q; exact q
    | bad => rw [h] at q; exact q
end U
set_option Elab.async false
set_option linter.all false
set_option maxRecDepth 100000
set_option maxHeartbeats 1000000
/-! the translator with sorted, min, index of data (ext 8) -/
namespace U
open PySem PySem.Spec PyProof.Rows L2
variable {S : S0}
def isPrs : Expr → Bool
  | .Name x _ => x == "cells"
  | .BinOp .. => true
  | _ => false
def isGood : Expr → Bool
  | .Name x _ => x == "good"
  | _ => false
def srpOf (r : TR S) (sc : Scope) : (e : Expr) → Option (OkE S sc e)
  | .Call (.Name x p) [.Call (.Name y p2) [a] [] q2] [] pos => (wOf r sc a).bind fun u =>
      if h : x = "sorted" ∧ y = "set" ∧ glB sc x = true ∧ glB sc y = true ∧ notStar a = true ∧ isPrs a = true then some ⟨eSrp u.m, u.lk, fun cv X W g e => by
        obtain ⟨h1, h2, h3, h4, h5, _⟩ := h
        subst h1 h2
        exact j_srp g.calm (by have := g.hu; omega) (Gd.gl (cv := cv) (W := W) e h3) (g.blt _ (by decide +kernel)) (Gd.gl (cv := cv) (W := W) e h4) (g.blt _ (by decide +kernel)) (u.ok cv X W g e) h5⟩ else none
  | _ => none
def srtLOf (r : TR S) (sc : Scope) : (e : Expr) → Option (OkE S sc e)
  | .Call (.Name x p) [.Call (.Name y p2) as ks q2] [] pos => (wOf r sc (.Call (.Name y p2) as ks q2)).bind fun u =>
      if h : x = "sorted" ∧ ¬ y = "set" ∧ glB sc x = true then some ⟨eSrtL u.m, u.lk, fun cv X W g e => by
        obtain ⟨h1, h2, h3⟩ := h
        subst h1
        exact j_srtL (by have := g.hu; omega) (Gd.gl (cv := cv) (W := W) e h3) (g.blt _ (by decide +kernel)) (u.ok cv X W g e) rfl⟩ else none
  | _ => none
def minOf (r : TR S) (sc : Scope) : (e : Expr) → Option (OkE S sc e)
  | .Call (.Name x p) [a] [] pos => (wOf r sc a).bind fun u =>
      if h : x = "min" ∧ isGood a = true ∧ notStar a = true ∧ glB sc x = true then some ⟨eMinD u.m, u.lk, fun cv X W g e => by
        obtain ⟨h1, h2, h3, h4⟩ := h
        subst h1
        exact j_minD g.calm (by have := g.hu; omega) (Gd.gl (cv := cv) (W := W) e h4) (g.blt _ (by decide +kernel)) (u.ok cv X W g e) h3⟩ else none
  | _ => none
def ixLOf (r : TR S) (sc : Scope) : (e : Expr) → Option (OkE S sc e)
  | .Call (.Attribute (.Name x p) name apos) [a] [] pos => (wOf r sc (.Name x p)).bind fun u => (wOf r sc a).bind fun w =>
      if h : x = "items" ∧ name = "index" ∧ notStar a = true ∧ (apos.endLine == pos.line) = true then some ⟨eIxL u.m w.m, u.lk ++ w.lk, fun cv X W g e => by
        obtain ⟨h1, h2, h3, h4⟩ := h
        subst h2
        exact j_ixL (by have := g.hu; omega) (u.ok cv X W g e) (w.ok cv X W g e) h3 rfl h4⟩ else none
  | _ => none
def stepE9 (r : TR S) (sc : Scope) (e : Expr) : Option (OkE S sc e) := match srpOf r sc e with
  | some x => some x
  | none => match srtLOf r sc e with
    | some x => some x
    | none => match minOf r sc e with
      | some x => some x
      | none => match ixLOf r sc e with
        | some x => some x
        | none => stepEY r sc e
end U
set_option Elab.async false
set_option linter.all false
set_option maxRecDepth 100000
set_option maxHeartbeats 1000000
/-! text.split(sep), text * int (ext 9) -/
namespace U
open PySem PySem.Spec PyProof.Rows L2
def splD (a : Str) : D → Res
  | .str b => if (b.length == 0) = false ∧ a.length ≤ 100000 then .new ((Txt.split a b).map .str) else .bad
  | _ => .bad
def eSpl (mo m : Sm) : Sm := fun ρ => (mo ρ).bind fun x => match x with
  | .str a => (m ρ).bind (splD a)
  | _ => .bad
theorem dps_ofStrs {F : Hp} : ∀ ys : List Str, DrAll F (ys.map V.str) (ys.map PyData.str)
  | [] => .nil
  | y :: r => .cons (.str y) (dps_ofStrs r)
section
variable {X : Cx} {cv : Nat → Value} {W : WX} {o e : Expr} {mo m : Sm} {apos pos : Pos}
theorem j_spl (ho : JW X cv W o mo) (he : JW X cv W e m) (hs : notStar e = true) (hb : attributeBase o "split" X.env (eval o X.env) = eval o X.env) (hl : (apos.endLine == pos.line) = true) : JE X cv W (.Call (.Attribute o "split" apos) [e] [] pos) (eSpl mo m) :=
  PE.imp (pe_split ho he (star_cons hs) hb hl) fun σ H Q ⟨ρ, F, r, q⟩ => by
    refine ⟨ρ, F, r, ?_⟩
    unfold eSpl at q
    have go : ∀ d, GotE cv W F H σ Q (match d with | .str a => (m ρ).bind (splD a) | _ => .bad) → QW F H d fun x H1 => (∃ a, x = .str a) ∧ rdW cv W m σ H1 fun y H2 => ∃ a b, x = .str a ∧ [y] = [.str b] ∧ (b.length == 0) = false ∧ a.length + 2 ≤ sizeLine ∧ rNewStrs (Txt.split a b) H2 Q := fun d q v F1 H1 ev wk => by
      cases d <;> try exact q.elim
      rename_i a
      cases wk.str
      refine ⟨⟨_, rfl⟩, ρ, F1, r.evo ev, ?_⟩
      have q := GotE.evo ev q
      simp only at q
      have g2 : ∀ d2, GotE cv W F1 H1 σ Q (splD a d2) → QW F1 H1 d2 fun y H2 => ∃ a' b, V.str a = .str a' ∧ [y] = [.str b] ∧ (b.length == 0) = false ∧ a'.length + 2 ≤ sizeLine ∧ rNewStrs (Txt.split a' b) H2 Q := fun d2 q w F2 H2 ev2 wk2 => by
        cases d2 <;> try exact q.elim
        rename_i b
        cases wk2.str
        unfold splD at q
        simp only at q
        split at q
        case isFalse => exact q.elim
        rename_i hz
        refine ⟨a, b, rfl, rfl, hz.1, by rw [sizeLine_eq]; omega, fun p hp => ?_⟩
        exact q p _ F2 _ (ev2.trans ((Evo.refl ev2.le).own hp)) (none_back ev2.hx hp) (none_back ev2.le hp) upd_same (dps_ofStrs _)
      cases hm : m ρ with
      | ok y => rw [hm] at q; exact g2 y q
      | new y => rw [hm] at q; exact g2 _ q
      | exc c => rw [hm] at q; exact q
      | bad => rw [hm] at q; exact q
    cases h : mo ρ with
    | ok d => rw [h] at q; exact go d q
    | new d => rw [h] at q; exact go _ q
    | exc c => rw [h] at q; exact q
    | bad => rw [h] at q; exact q
end
def gMulS : D → D → Rp
  | .str x, .int k => if x.length ≤ 16 ∧ 0 ≤ k ∧ k ≤ 10000 then .ok (.str (Txt.mul x k)) else .bad
  | _, _ => .bad
theorem o_mulS {X : Cx} : OpR X (binaryOp .Mult) (rG gMulS) := by
  intro pins s σ H x y v u Q I rx ry ⟨F, dx, dy, le, wx, wy, q⟩
  cases dx <;> cases dy <;> try exact q.elim
  cases wx.str; cases wy.int
  obtain ⟨⟨h1, h2, h3⟩, q⟩ := if_bad q
  obtain ⟨t, rfl⟩ := rx
  obtain ⟨t', rfl⟩ := ry
  exact SB.mul (mulOk_of 16 1048576 (by omega) (by omega) (by omega) (by decide) (by decide)) fun t' k => ⟨.str _, H, I.tok _, ⟨_, rfl⟩, QD.str le q⟩
variable {S : S0}
def splOf (r : TR S) (sc : Scope) : (e : Expr) → Option (OkE S sc e)
  | .Call (.Attribute (.Name x p) name apos) [a] [] pos => (wOf r sc (.Name x p)).bind fun u => (wOf r sc a).bind fun w =>
      if h : name = "split" ∧ notStar a = true ∧ (apos.endLine == pos.line) = true then some ⟨eSpl u.m w.m, u.lk ++ w.lk, fun cv X W g e => by
        obtain ⟨h2, h3, h4⟩ := h
        subst h2
        exact j_spl (u.ok cv X W g e) (w.ok cv X W g e) h3 rfl h4⟩ else none
  | .BinOp (.Constant (.str t) j p) .Mult b pos => (wOf r sc (.Constant (.str t) j p)).bind fun u => (wOf r sc b).bind fun w => some ⟨e2 gMulS u.m w.m, u.lk ++ w.lk, fun cv X W g e => j_op o_mulS (u.ok cv X W g e) (w.ok cv X W g e)⟩
  | _ => none
def stepE10 (r : TR S) (sc : Scope) (e : Expr) : Option (OkE S sc e) := match splOf r sc e with
  | some x => some x
  | none => stepE9 r sc e
def trE10 (S : S0) : Nat → TR S
  | 0 => ⟨fun _ _ => none, fun _ _ => none, fun _ _ => none⟩
  | n + 1 => ⟨stepE10 (trE10 S n), stepT (trE10 S n), fun _ _ => none⟩
end U
set_option Elab.async false
set_option linter.all false
set_option maxRecDepth 100000
set_option maxHeartbeats 4000000
/-! defs as values; a suite that gathers answers and returns an index (ext 10) -/
namespace U
open PySem PySem.Spec PyProof.Rows L2
/-! ### f(e, ..), f a local name that holds a def -/
section
variable {X : Cx} {cv : Nat → Value} {W : WX} {a : Expr} {es : List Expr} {ms : List Sm} {pos : Pos}
end
/-! ### try .. except X as e: found = [..]; ..; return (found + [..]).index(True) -/
section
variable {X : Cx} {cv : Nat → Value} {n : List Nat} {i j : Nat}
section
variable {x : Str} (hN : X.N.Nodup) (hj : X.N[j]? = some x) (hx : Loc X.env.scope x) (hfn : X.env.scope.names.lookup x = some .local) (hv : Vis X.env.scope x) (hdb : (x == ("__debug__" : Str)) = false) (hcd : (x == ("__classdict__" : Str)) = false) (hij : i ≠ j) (a : Addr) (oe : Obj) (c : Nat) (pn : List (Addr × Obj)) (hc : c ∈ n) (hz : Zc (cv c) none oe) (hf : ∃ vs, oe.data = .fields vs) (F H0 : Hp) (σ0 : L2.St) (le0 : Ex F H0) (hi0 : σ0[i]? = some (some (.ref a))) (hlen : j < σ0.length)
include hN hj hx hfn hv hdb hcd hij hc hz hf le0 hi0 hlen
end
end
/-! ### the translation -/
section
variable {S : S0}
end
section
variable {T : Tb} {N : List Str} {lv : Nat} {fns fv : List (Str × Nat × (List D → Res))}
end
/-! ### the rule for a def -/
end U
set_option Elab.async false
set_option linter.all false
set_option maxRecDepth 100000
set_option maxHeartbeats 4000000
/-! Workbook: a method that only reads and may raise; __init__ with a check; Workbook(a, b).m() that raises -/
namespace U
open PySem PySem.Spec PyProof.Rows L2
theorem ex_upd {F H : Hp} (e : Ex F H) (a : Addr) (o : HO) : Ex (upd F a o) (upd H a o) := fun b u h => by
  by_cases z : b = a
  · subst z; rw [upd_same] at h ⊢; exact h
  · rw [upd_ne z] at h ⊢; exact e b u h
theorem upd_comm {H : Hp} {a b : Addr} {o u : HO} (n : a ≠ b) : upd (upd H a o) b u = upd (upd H b u) a o := by
  funext c
  by_cases h1 : c = b
  · subst h1; rw [upd_same, upd_ne (Ne.symm n), upd_same]
  · by_cases h2 : c = a
    · subst h2; rw [upd_ne h1, upd_same, upd_same]
    · rw [upd_ne h1, upd_ne h2, upd_ne h2, upd_ne h1]
/-- a method that reads the object and may raise -/
def spPx (cv : Nat → Value) (k n : Nat) (f : List D → List D → Res) : Sp := fun vs H Q E => ∃ F a C dx us fs args ds, vs = .ref a :: args ∧ Ex F H ∧ cv k = .ref C ∧ F a = some (.ins C dx ((flN k).zip us)) ∧ us.length = (flN k).length ∧ DrAll F us fs ∧ DrAll F args ds ∧ ds.length = n ∧
  ((∃ d v, f fs ds = .ok d ∧ sV d = some v ∧ ∀ H', Ex H H' → Q v H') ∨ ∃ c, f fs ds = .exc c ∧ ∀ H', Ex H H' → E (cv c) none H')
def runPX (nv k : Nat) (m : Ss) (fs ds : List D) : Res := match m (.ro k fs :: (ds.map .fr ++ List.replicate (nv - 1 - ds.length) .un)) with
  | .nx _ => .ok .none
  | .rt d => .ok d
  | .rm d _ => .ok d
  | .ex c _ => .exc c
  | _ => .bad
/-- __init__(self, x, y): chk(x, y); self.f1 = x; self.f2 = y; self.f3 = [] -/
def spIw (cv : Nat → Value) (k : Nat) (f : List D → Res) : Sp := fun vs H Q E => ∃ F a C dx v1 v2 d1 d2, vs = [.ref a, v1, v2] ∧ Ex F H ∧ cv k = .ref C ∧ H a = some (.ins C dx []) ∧ Dr F v1 d1 ∧ Dr F v2 d2 ∧
  ((f [d1, d2] = .ok .none ∧ ∀ F1 H1 p, Evo F H F1 H1 → H1 p = none → Q .non (upd (upd H1 p (.lst [])) a (.ins C dx ((flN k).zip [v1, v2, .ref p])))) ∨ ∃ c, f [d1, d2] = .exc c ∧ ∀ F1 H1, Evo F H F1 H1 → E (cv c) none H1)
section
variable {P : Program} {w : World} {K : PySem.W.Frag} {mg : Str → Option Value} {base : Heap} {cv : Nat → Value} {T : Tb} {lv k n : Nat} {x qual : Str} {params : Arguments} {body : List Stmt} {scope : Scope} {f : Addr} {fd : FuncData} {N ps : List Str} {fns : List (Str × Nat × (List D → Res))} {ks : List Nat} {mts : List MtT} {m : Ss}
theorem px_ok (F : FunD K x qual params body scope [] [] f fd) (B : Bs T cv K mg) (S : FnScope N ps scope) (o : Option (OkSs (T.so N lv fns ks mts) scope body)) (ht : o.map (·.m) = some m) (A : AllKp P w K mg base cv lv fns) (ex : exO ks mts lv P w K mg base cv) (hn : ps.length = n + 1) (hN : 1 ≤ N.length) :
    FnOk P w K mg base (L2.CX P w) (lv + 1) f fd ps (spPx cv k n (runPX N.length k m)) := by
  obtain ⟨r, hr, rfl⟩ := Option.map_eq_some_iff.mp ht
  refine FunD.ok F S (fun vs H Q E h => ?_) fun cdv Ar outer s H vs Q E room hsp => ?_
  · obtain ⟨_, _, _, _, _, _, args, ds, rfl, _, _, _, _, _, hd, hl, _⟩ := h
    rw [List.length_cons, dps_len hd, hl, hn]
  obtain ⟨F0, a, C, dx, us, fs, args, ds, rfl, le, hC, hF, hlu, hu, hd, hl, hq⟩ := hsp
  let X := cxOf (L2.CX P w) P w K mg base N qual scope f cdv Ar outer s H E
  let W : WX := fun c d _ H' => E c d H'
  have tk : Takes X W := takes_of rfl rfl rfl rfl
  have g : Gd (T.so N lv fns ks mts) cv X W := gd_of (A0 := []) B S A ex room tk
  have gx : Gx (T.so N lv fns ks mts) cv X := ⟨fun _ => rfl, passes_of rfl, rfl, rfl, B.cl⟩
  refine ⟨rdF cv W ⟨F0, H, none⟩ r.m, r.ok cv X W g gx rfl ⟨F0, H, none⟩, ⟨_, F0, rel_startO (N := N) (c0 := .ro k fs) le ⟨a, C, dx, us, rfl, hC, hF, hlu, hu⟩ hd (Evo.refl le) (fun p hp => by simp at hp) (fun _ _ _ h => by cases h) hN, ?_⟩⟩
  unfold runPX at hq
  cases h : r.m (.ro k fs :: (ds.map .fr ++ List.replicate (N.length - 1 - ds.length) .un)) with
  | nx ρ =>
    rw [h] at hq
    rcases hq with ⟨d, v, hf, hv, q⟩ | ⟨c, hf, q⟩
    · cases hf; cases hv; exact fun σ F1 H1 r1 => q H1 r1.evo.hx
    · cases hf
  | rt d' =>
    rw [h] at hq
    rcases hq with ⟨d, v, hf, hv, q⟩ | ⟨c, hf, q⟩
    · cases hf; exact fun v' F1 H1 ev hv' => by cases sV_eq hv' hv; exact q H1 ev.hx
    · cases hf
  | rm d' ρ =>
    rw [h] at hq
    rcases hq with ⟨d, v, hf, hv, q⟩ | ⟨c, hf, q⟩
    · cases hf; exact fun v' σ F1 H1 r1 hv' => by cases sV_eq hv' hv; exact q H1 r1.evo.hx
    · cases hf
  | ex c' ρ =>
    rw [h] at hq
    rcases hq with ⟨d, v, hf, hv, q⟩ | ⟨c, hf, q⟩
    · cases hf
    · cases hf; exact fun σ F1 H1 r1 => q H1 r1.evo.hx
  | rn d' => rw [h] at hq; rcases hq with ⟨d, v, hf, _⟩ | ⟨c, hf, _⟩ <;> cases hf
  | rb k' d' => rw [h] at hq; rcases hq with ⟨d, v, hf, _⟩ | ⟨c, hf, _⟩ <;> cases hf
  | bad => rw [h] at hq; rcases hq with ⟨d, v, hf, _⟩ | ⟨c, hf, _⟩ <;> cases hf
theorem iw_ok {s0 a1 a2 f1 f2 f3 chk : Str} {g : List D → Res} {q1 q2 q3 q4 q5 q6 q7 q8 q9 q10 q11 q12 r1 r2 r3 r4 r5 : Pos}
    (F : FunD K x qual params body scope [] [] f fd) (S : FnScope [s0, a1, a2] [s0, a1, a2] scope) (hk : flN k = [f1, f2, f3]) (C : ClF K cv k) (B : Bs T cv K mg) (A : Kp P w K mg base cv lv chk 2 g)
    (hb : body = [.Expr (.Call (.Name chk r1) [.Name a1 r2, .Name a2 r3] [] r4) r5, .Assign [.Attribute (.Name s0 q1) f1 q2] (.Name a1 q3) q4, .Assign [.Attribute (.Name s0 q5) f2 q6] (.Name a2 q7) q8, .Assign [.Attribute (.Name s0 q9) f3 q10] (.List [] q11) q12])
    (hv : visB scope s0 = true ∧ visB scope a1 = true ∧ visB scope a2 = true ∧ okName s0 = true ∧ okName a1 = true ∧ okName a2 = true ∧ glB scope chk = true) (hd : f1 ≠ f2 ∧ f1 ≠ f3 ∧ f2 ≠ f3) : FnOk P w K mg base (L2.CX P w) (lv + 1) f fd [s0, a1, a2] (spIw cv k g) := by
  subst hb
  obtain ⟨v0, v1, v2, o0, o1, o2, gc⟩ := hv
  refine FunD.ok F S (fun vs H Q E h => ?_) fun cdv Ar outer s H vs Q E room hsp => ?_
  · obtain ⟨_, _, _, _, _, _, _, _, rfl, _⟩ := h; rfl
  obtain ⟨F0, a, Ca, dx, u1, u2, d1, d2, rfl, le, hC, hH, h1, h2, hq⟩ := hsp
  obtain ⟨C', hC', cC, nC⟩ := C.ok
  rw [hC] at hC'; cases hC'
  rw [hk] at nC
  let X := cxOf (L2.CX P w) P w K mg base [s0, a1, a2] qual scope f cdv Ar outer s H E
  let W : WX := fun c d _ H' => E c d H'
  have tk : Takes X W := takes_of rfl rfl rfl rfl
  have ps : ∀ {p : Pos}, PE X (.Name s0 p) (tVar 0) := fun {p} => pe_var rfl (vis_of v0) (okName_of o0).1 (okName_of o0).2
  have jc : JE X cv W (.Call (.Name chk r1) [.Name a1 r2, .Name a2 r3] [] r4) (eF g [eV 1, eV 2]) :=
    j_call (X := X) (W := W) ⟨A.ok⟩ room tk (gl_of gc).1 (gl_of gc).2 (ja_cons (JE.s (j_var (i := 1) rfl (vis_of v1) (okName_of o1).1 (okName_of o1).2)) (ja_cons (JE.s (j_var (i := 2) rfl (vis_of v2) (okName_of o2).1 (okName_of o2).2)) ja_nil rfl) rfl) rfl rfl rfl
  refine ⟨_, pss_cons (ps_expr jc) (pss_cons (ps_fld ps (pe_var (i := 1) rfl (vis_of v1) (okName_of o1).1 (okName_of o1).2) rfl) (pss_cons (ps_fld ps (pe_var (i := 2) rfl (vis_of v2) (okName_of o2).1 (okName_of o2).2) rfl) (pss_one (ps_fld ps (pe_lst pa_nil) rfl)))), ?_⟩
  have r0 := (rel_startO (cv := cv) (B := ⟨F0, H, none⟩) (N := [s0, a1, a2]) (c0 := .un) (v0 := .ref a) le trivial (.cons h1 (.cons h2 .nil)) (Evo.refl le) (fun p hp => by simp at hp) (fun _ _ _ h => by cases h) (by simp)).rel
  refine ⟨_, F0, r0, ?_⟩
  show GotE cv W F0 H _ _ (g [d1, d2])
  rcases hq with ⟨hg, q⟩ | ⟨c, hg, q⟩
  · rw [hg]
    intro v F1 H1 ev _
    have hH1 := ev.hx _ _ hH
    refine ⟨u1, rfl, .ref a, rfl, a, Ca, dx, [], rfl, hH1, cC, nC f1 (by simp), by decide, ?_⟩
    refine ⟨u2, rfl, .ref a, rfl, a, Ca, dx, _, rfl, upd_same, cC, nC f2 (by simp), by simp [putF], ?_⟩
    refine ⟨by simp [sizeLine_eq], fun p hp => ?_⟩
    have hpa : p ≠ a := fun z => by rw [z, upd_same] at hp; cases hp
    have hp1 : H1 p = none := by
      rw [upd_ne hpa, upd_ne hpa] at hp; exact hp
    refine ⟨.ref a, rfl, a, Ca, dx, _, rfl, by rw [upd_ne (Ne.symm hpa), upd_same], cC, nC f3 (by simp), by simp [putF, hd.1], ?_⟩
    show Q .non _
    rw [upd_upd, upd_comm (Ne.symm hpa), upd_upd]
    simp only [putF, if_neg hd.1, if_neg hd.2.1, if_neg hd.2.2]
    have := q F1 H1 p ev hp1
    rw [hk] at this
    exact this
  · rw [hg]
    exact fun F1 H1 ev => q F1 H1 ev
end
/-! ### Workbook(a, b).m(), the m of which raises -/
theorem run_makeS {X : Cx} {CX : CXT} {k : Nat} {C f : Addr} {fd : FuncData} {ps : List Str} {sp : Sp} {E : XK} {pins : List (Addr × Obj)} {σ : L2.St} {H : Hp} {s : Shared} {Q : VK} {us : List Value} {vs : List V} (M : Mk X.K C f) (F : FnOk X.prog X.w X.K X.mg X.base CX k f fd ps sp) (hr : Room (k + 1) X.A) (hb : Binds X.K fd ps [])
    (hx : PassesAt CX X σ E) (I : Inv X pins σ H s) (r : Vals vs us)
    (h : ∀ x dx, H x = none → H dx = none → dx ≠ x → sp (.ref x :: vs) (upd (upd H dx (.own x)) x (.ins C dx [])) (fun v H2 => v = .non ∧ Q (.ref x) H2) E) :
    wpAny (model X.prog X.w) X.A (call (.ref C) us) (EP X pins σ Q) X.xe s := by
  have hq := h (s.heap.objs.size + 1) s.heap.objs.size (I.hok.fresh (Nat.le_succ _)) (I.hok.fresh (Nat.le_refl _)) (Nat.ne_of_lt (Nat.lt_succ_self _))
  have I2 := Inv.made (C := C) I
  have r2 : Vals (V.ref (s.heap.objs.size + 1) :: vs) (Value.ref (s.heap.objs.size + 1) :: us) := .cons rfl r
  have hl : (Value.ref (s.heap.objs.size + 1) :: us).length = ps.length := by
    have e := r2.length
    rw [F.len _ _ _ _ hq] at e
    exact e.symm
  have b := hb _ (Value.ref (s.heap.objs.size + 1) :: us) I2.kIn (by rw [List.append_nil]; exact hl)
  rw [List.append_nil] at b
  refine wpAny_call (make_map (f := f) I.kIn M.makes M.init (beq_iff_eq.mp M.fn) (codeAny_mono (F.run _ X.stack _ _ ⟨Value.ref (s.heap.objs.size + 1) :: us, []⟩ (Value.ref (s.heap.objs.size + 1) :: us) _ _ E (hr.make C us [])
    (I2.env0.make C us []) b r2 hq) fun r s' hq' => ?_))
  cases r with
  | error e => exact hx pins _ _ e s' I2 hq'
  | ok fl =>
    cases fl with
    | ret u =>
      obtain ⟨v, H', I3, rv, ev, q3⟩ := I2.after hq'
      subst ev
      exact ⟨rv, ⟨V.ref (s.heap.objs.size + 1), H', I3, rfl, q3⟩⟩
    | next => exact False.elim hq'
    | brk => exact False.elim hq'
    | cont => exact False.elim hq'
def tMakeS (C : Addr) (sp : Sp) (E : L2.St → XK) (t : TA) : TE := fun σ H Q => t σ H fun vs H1 => ∀ x dx, H1 x = none → H1 dx = none → dx ≠ x →
  sp (.ref x :: vs) (upd (upd H1 dx (.own x)) x (.ins C dx [])) (fun v H2 => v = .non ∧ Q (.ref x) H2) (E σ)
theorem pe_makeS {X : Cx} {CX : CXT} {k : Nat} {C f : Addr} {fd : FuncData} {ps : List Str} {sp : Sp} {E : L2.St → XK} {x : Str} {e : Expr} {es : List Expr} {t : TA} {p pos : Pos} (M : Mk X.K C f) (F : FnOk X.prog X.w X.K X.mg X.base CX k f fd ps sp) (hr : Room (k + 1) X.A) (hg : Gl X x) (hm : X.mg x = some (.ref C)) (hb : Binds X.K fd ps []) (hx : ∀ σ, PassesAt CX X σ (E σ))
    (ha : PA X (e :: es) t) (hdb : (x == ("__debug__" : Str)) = false) (he : starEach (e :: es) X.env = (false, eval e X.env) :: starEach es X.env) (hpl : (backTo pos (starEach es X.env)).any (·.1) = false) :
    PE X (.Call (.Name x p) (e :: es) [] pos) (tMakeS C sp E t) := by
  refine ⟨fun pins s σ H Q I h => ?_⟩
  refine wpAny_Call_Name_kw (ld_glob I hg hm ?_ hdb)
  refine PySem.W.callWith_K (h₀ := X.base) I.ok.mod.kin M.kp (thn (ha.run pos pins s σ H _ I h) fun us s1 ⟨vs, H1, I1, r, q⟩ => ⟨I1.kIn, ?_⟩) he hpl
  exact run_makeS M F hr hb (hx σ) I1 r q
def tMeth0S (C : Addr) (m : Str) (sp : Sp) (E : L2.St → XK) (ta : TE) : TE := fun σ H Q => ta σ H fun x H1 => ∃ a dx fs, x = .ref a ∧ H1 a = some (.ins C dx fs) ∧ fs.lookup m = none ∧ sp [x] H1 Q (E σ)
theorem pe_meth0S {X : Cx} {CX : CXT} {k : Nat} {C f : Addr} {fd : FuncData} {ps : List Str} {sp : Sp} {E : L2.St → XK} {m : Str} {o : Expr} {ta : TE} {apos pos : Pos} (he : PE X o ta) (c : Cls X.K C) (hm : Meth X.K C m f) (F : FnOk X.prog X.w X.K X.mg X.base CX k f fd ps sp) (hr : Room k X.A) (hb : Binds X.K fd ps []) (hx : ∀ σ, PassesAt CX X σ (E σ))
    (hbase : attributeBase o m X.env (eval o X.env) = eval o X.env) (hline : (apos.endLine == pos.line) = true) :
    PE X (.Call (.Attribute o m apos) [] [] pos) (tMeth0S C m sp E ta) := by
  refine ⟨fun pins s σ H Q I h => ?_⟩
  rw [arm_eval_Call, hbase]
  refine wpAny_bind (wpAny_mono (he.run pins s σ H _ I h) (fun u s1 ⟨x, H1, I1, rx, a, dx, fs, ex, ea, l, q⟩ => ?_) fun _ _ e => e)
  subst ex
  obtain rfl : u = Value.ref a := rx
  refine wpAny_bind (wpAny_standAt ?_)
  have hform : methodCallForm (([] : List Expr).length + ([] : List Keyword).length) (backTo pos (starEach [] X.env)) (backToKw pos (keywordEach [] X.env)) = true := rfl
  have hpos : methodCallPos true o X.env apos pos = pure pos := by unfold methodCallPos; simp [hline]
  unfold methodCall
  rw [hform]
  refine wpAny_bind (wpAny_holding (getmeth_ok I1 ea c hm l ?_))
  refine wpAny_bind (wpAny_of_eq hpos ?_)
  exact PySem.W.callWith_K0 (first := [.ref a]) I1.kIn hm.kp (run_fnSD (us := [.ref a]) (vs := [.ref a]) F hr hb .nil (hx σ) I1 (.cons rfl .nil) q)
/-- what is known of the class: it is made by a check, its method m reads and may raise -/
structure WbO (P : Program) (w : World) (K : PySem.W.Frag) (mg : Str → Option Value) (base : Heap) (cv : Nat → Value) (lv k : Nat) (z mn : Str) (f : List D → Res) (g : List D → List D → Res) : Prop where
  ok : ∃ (C fi : Addr) (fdi : FuncData) (psi : List Str), cv k = .ref C ∧ mg z = some (.ref C) ∧ Mk K C fi ∧ FnOk P w K mg base (L2.CX P w) lv fi fdi psi (spIw cv k f) ∧ Binds K fdi psi [] ∧ Cls K C ∧
    ∃ (fu : Addr) (fdu : FuncData) (psu : List Str), Meth K C mn fu ∧ mn ∉ flN k ∧ FnOk P w K mg base (L2.CX P w) lv fu fdu psu (spPx cv k 0 g) ∧ Binds K fdu psu []
def wuK (f : List D → Res) (g : List D → List D → Res) : List D → Res
  | [d1, d2] => match f [d1, d2] with
    | .ok .none => (match g [d1, d2, .list []] [] with
      | .exc c => .exc c
      | _ => .bad)
    | .exc c => .exc c
    | _ => .bad
  | _ => .bad
def eWU (f : List D → Res) (g : List D → List D → Res) (ms : List Sm) : Sm := fun ρ => (evs ms ρ).bind (wuK f g)
theorem j_wu {X : Cx} {cv : Nat → Value} {W : WX} {lv k : Nat} {z mn : Str} {f : List D → Res} {g : List D → List D → Res} {a : Expr} {es : List Expr} {ms : List Sm} {p cp ap pos : Pos} (M : WbO X.prog X.w X.K X.mg X.base cv lv k z mn f g) (hk : (flN k).length = 3) (hr : Room (lv + 1) X.A) (tk : Takes X W) (hg : Gl X z) (hdb : (z == ("__debug__" : Str)) = false)
    (ha : JA X cv W (a :: es) ms) (h1 : notStar a = true) (h2 : es.all notStar = true) (hl : (ap.endLine == pos.line) = true) :
    JE X cv W (.Call (.Attribute (.Call (.Name z p) (a :: es) [] cp) mn ap) [] [] pos) (eWU f g ms) := by
  obtain ⟨C, fi, fdi, psi, hC, hm, mk, Fi, bi, cC, fu, fdu, psu, hu, nu, Fu, bu⟩ := M.ok
  refine PE.imp (pe_meth0S (E := WE W) (pe_makeS (E := WE W) mk Fi hr hg hm bi (fun σ => passAt tk σ) ha hdb (star_cons h1) (star_any h2)) cC hu Fu (hr.mono (Nat.le_succ _)) bu (fun σ => passAt tk σ) rfl hl) fun σ H Q ⟨ρ, F, r, q⟩ => ?_
  refine rd_args r q fun ds vs F1 H1 he ev hd q x dx hx hdx hne => ?_
  match ds, vs, hd, q with
  | [d1, d2], [v1, v2], .cons hd1 (.cons hd2 .nil), q =>
    have nx : ∀ b o, H1 b = some o → b ≠ x ∧ b ≠ dx := fun b o q => ⟨fun z => by (rw [z, hx] at q; cases q), fun z => by (rw [z, hdx] at q; cases q)⟩
    have exN : Ex H1 (upd (upd H1 dx (.own x)) x (.ins C dx [])) := fun b o q => by
      obtain ⟨z1, z2⟩ := nx b o q
      rw [upd_ne z1, upd_ne z2]; exact q
    refine ⟨F1, x, C, dx, v1, v2, d1, d2, rfl, fun b o q => exN b o (ev.le b o q), hC, upd_same, hd1, hd2, ?_⟩
    simp only [wuK] at q
    cases hf : f [d1, d2] with
    | new l => rw [hf] at q; exact q.elim
    | bad => rw [hf] at q; exact q.elim
    | exc c =>
      rw [hf] at q
      exact .inr ⟨c, rfl, fun F2 H2 ev2 => q F1 H2 ⟨Evl.Ex.refl F1, exN.trans ev2.hx, fun b o q => ev2.hx b o (exN b o (ev.le b o q)), fun _ _ z => .inl z⟩⟩
    | ok d0 =>
      rw [hf] at q
      cases d0 <;> try exact q.elim
      refine .inl ⟨rfl, fun F2 H2 pl ev2 hp => ⟨rfl, x, dx, _, rfl, upd_same, zip_none nu, ?_⟩⟩
      simp only at q
      cases hgx : g [d1, d2, .list []] [] with
      | ok d => rw [hgx] at q; exact q.elim
      | new d => rw [hgx] at q; exact q.elim
      | bad => rw [hgx] at q; exact q.elim
      | exc c =>
        rw [hgx] at q
        have h2x : H2 x = some (.ins C dx []) := ev2.hx _ _ upd_same
        have px : pl ≠ x := fun z => by rw [z, h2x] at hp; cases hp
        have f1x : F1 x = none := none_back ev.le hx
        have f2x : F2 x = none := by
          cases hz : F2 x with
          | none => rfl
          | some o =>
            rcases ev2.new x o hz with h | h
            · rw [f1x] at h; cases h
            · rw [upd_same] at h; cases h
        have f2p : F2 pl = none := none_back ev2.le hp
        have e1 : Ex F1 (upd (upd F2 pl (.lst [])) x (.ins C dx ((flN k).zip [v1, v2, .ref pl]))) := (ev2.ex.trans (Evl.Ex.new f2p)).trans (Evl.Ex.new (by rw [upd_ne (Ne.symm px)]; exact f2x))
        refine ⟨upd (upd F2 pl (.lst [])) x (.ins C dx ((flN k).zip [v1, v2, .ref pl])), x, C, dx, [v1, v2, .ref pl], [d1, d2, .list []], [], [], rfl, ex_upd (ex_upd ev2.le _ _) _ _, hC, upd_same, hk.symm, .cons (dp_mono e1 hd1) (.cons (dp_mono e1 hd2) (.cons (.lst (Rd.of (by rw [upd_ne px, upd_same])) .nil) .nil)), .nil, rfl, .inr ⟨c, hgx, fun H' ex' => ?_⟩⟩
        have e2 : Ex H1 H' := fun b o hb => ex' b o (by
          obtain ⟨z1, z2⟩ := nx b o hb
          have h3 := ev2.hx _ _ (exN b o hb)
          have z3 : b ≠ pl := fun z => by rw [z, hp] at h3; cases h3
          rw [upd_ne z1, upd_ne z3]; exact h3)
        exact q F1 H' ⟨Evl.Ex.refl F1, e2, ev.le.trans e2, fun _ _ z => .inl z⟩
end U
set_option Elab.async false
set_option linter.all false
set_option maxRecDepth 100000
set_option maxHeartbeats 4000000
/-! isinstance(e, ValueError); a suite that gathers answers and sets one more name; the translator with both (ext 11) -/
namespace U
open PySem PySem.Spec PyProof.Rows L2
theorem tail_ve {K : PySem.W.Frag} : ∀ {l : List Value}, PySem.W.tailIn K [.type "ValueError", .type "Exception", .type "BaseException", .type "object"] l = true → Value.type "ValueError" ∈ l
  | [], h => by simp [PySem.W.tailIn] at h
  | v :: r, h => by
    unfold PySem.W.tailIn at h
    rcases Bool.or_eq_true_iff.mp h with h | h
    · rw [beq_iff_eq.mp h]; simp
    · split at h
      · split at h
        · exact List.mem_cons_of_mem _ (tail_ve (Bool.and_eq_true_iff.mp h).2)
        · cases h
      · cases h
theorem exc_ve {K : PySem.W.Frag} {C : Addr} (h : PySem.W.excIn K C [.type "ValueError", .type "Exception", .type "BaseException", .type "object"] "ValueError.__new__" = true) : PySem.W.kitOne K (.ref C) (.type "ValueError") = some true := by
  unfold PySem.W.excIn at h
  split at h
  · rename_i dd cd sl ho
    split at h
    · rename_i C' bm k0 k1 k2 k3 n k5 hm hs
      simp only [Bool.and_eq_true] at h
      have hv := tail_ve h.1.1.2
      have e : PySem.W.mroIn K C (.type "ValueError") = some true := by
        unfold PySem.W.mroIn PySem.W.clsIn
        rw [ho]
        simp only [Option.bind_some, hm, List.isEmpty_cons]
        rw [if_neg (by simp)]
        congr 1
        simp [hv]
      unfold PySem.W.kitOne
      rw [if_neg (by simp)]
      unfold PySem.W.kitCls
      simp only
      rw [if_pos (by decide +kernel)]
      exact e
    · cases h
  · cases h
section
variable {X : Cx} {cv : Nat → Value} {n : List Nat} {i j : Nat}
theorem jx_ve {sub : Nat → Nat → Bool} {x : Str} {p p2 py pos : Pos} (C : Clss X.K cv sub n) (hv : ∀ c ∈ n, PySem.W.kitOne X.K (cv c) (.type "ValueError") = some true) (hN : X.N[i]? = some x) (hvis : Vis X.env.scope x) (hd : (x == ("__debug__" : Str)) = false) (hcd : (x == ("__classdict__" : Str)) = false) (hg : Gl X "isinstance") (hm : X.mg "isinstance" = none) (hgy : Gl X "ValueError") (hmy : X.mg "ValueError" = none) :
    JX X cv n i (.Call (.Name "isinstance" p) [.Name x p2, .Name "ValueError" py] [] pos) (xC (.bl true)) := fun a oe c pn hc hz hf => by
  obtain ⟨D, hD, hE⟩ := C.at_ c hc
  have hk := hv c hc
  rw [hD] at hz hk
  have PX : PE (X.suite a ((a, oe) :: pn)) (.Name x p2) (tVar i) := pe_var (X := X.suite a ((a, oe) :: pn)) hN hvis hd hcd
  have PY : PE (X.suite a ((a, oe) :: pn)) (.Name "ValueError" py) (tC (.ty "ValueError")) := pe_bltn (X := X.suite a ((a, oe) :: pn)) hgy hmy (u := .type "ValueError") (by decide +kernel) rfl
  refine PE.imp (pe_callB (X := X.suite a ((a, oe) :: pn)) (call_isE hE hz hf) hg hm (by decide +kernel) (pa_cons PX (pa_cons PY pa_nil)) (by decide) (by decide)) fun σ H Q ⟨hs, v, hv, q⟩ => ?_
  cases hv
  exact ⟨_, hs, _, .type "ValueError", true, rfl, fun u r => r, hk, q⟩
/-- the rows of the suite, behind them one more name is set -/
inductive SuV (X : Cx) (cv : Nat → Value) (n : List Nat) (i j : Nat) (x y : Str) (m : Xm) : List Stmt → List (List Xm) → Prop
  | last {ev : Expr} {pu pos : Pos} (h : JX X cv n i ev m) (hs : noComp ev = true) : SuV X cv n i j x y m [.Assign [.Name y pu] ev pos] []
  | cons {es : List Expr} {ms : List Xm} {p p2 lp bp pos : Pos} {rest : List Stmt} {mr : List (List Xm)} (h : JXs X cv n i es ms) (hl : ms.length ≤ 100) (r : SuV X cv n i j x y m rest mr) : SuV X cv n i j x y m (.Assign [.Name x p] (.BinOp (.Name x p2) .Add (.List es lp) bp) pos :: rest) (ms :: mr)
section
variable {x y : Str} {l : Nat} {m : Xm} (hN : X.N.Nodup) (hj : X.N[j]? = some x) (hx : Loc X.env.scope x) (hfn : X.env.scope.names.lookup x = some .local) (hv : Vis X.env.scope x) (hdb : (x == ("__debug__" : Str)) = false) (hcd : (x == ("__classdict__" : Str)) = false) (hij : i ≠ j) (hl : X.N[l]? = some y) (hy : Loc X.env.scope y) (hfy : X.env.scope.names.lookup y = some .local) (a : Addr) (oe : Obj) (c : Nat) (pn : List (Addr × Obj)) (hc : c ∈ n) (hz : Zc (cv c) none oe) (hf : ∃ vs, oe.data = .fields vs) (F H0 : Hp) (σ0 : L2.St) (le0 : Ex F H0) (hi0 : σ0[i]? = some (some (.ref a))) (hlen : j < σ0.length)
include hN hj hx hfn hv hdb hcd hij hl hy hfy hc hz hf le0 hi0 hlen
theorem su_v {sts : List Stmt} {mss : List (List Xm)} (hsu : SuV X cv n i j x y m sts mss) : PSs (X.suite a ((a, oe) :: pn)) sts (fun Dn σ H => ∃ bs, Sst j F H0 σ0 bs σ H ∧ ∃ bs', evX c mss.flatten = some bs' ∧ bs.length + bs'.length ≤ 1000 ∧ ∃ b, m c = some (.bl b) ∧ ∀ σ' H', Sst j F H0 σ0 (bs ++ bs') σ' H' → Dn.nx (σ'.set l (some (.bl b))) H') := by
  induction hsu with
  | @last ev pu pos h hs =>
    refine PSs.imp (pss_one (ps_set (X := X.suite a ((a, oe) :: pn)) hN hl hy (h a oe c pn hc hz hf) (sw_no hs) (.inr hfy))) fun Dn σ H hh => ?_
    obtain ⟨bs, S, bs', he, hn, b, hm, q⟩ := hh
    cases he
    rw [List.append_nil] at q
    obtain ⟨q0, F1, xs, e, ev, h0, hF1, hH, hd⟩ := S
    have S' : Sst j F H0 σ0 bs σ H := ⟨q0, F1, xs, e, ev, h0, hF1, hH, hd⟩
    exact ⟨by rw [e, List.getElem?_set_ne (Ne.symm hij)]; exact hi0, _, hm, q σ H S'⟩
  | @cons es ms p p2 lp bp pos rest mr h hl' r ih =>
    refine PSs.imp (pss_cons (ps_set (X := X.suite a ((a, oe) :: pn)) hN hj hx (pe_op (X := X.suite a ((a, oe) :: pn)) o_add (pe_var (X := X.suite a ((a, oe) :: pn)) hj hv hdb hcd) (pe_lst (h a oe c pn hc hz hf))) (sw_no rfl) (.inr hfn)) ih) fun Dn σ H hh => ?_
    obtain ⟨bs, ⟨q0, F1, xs, rfl, ev, h0, hF1, hH, hd⟩, bs', he, hn, b, hm, q⟩ := hh
    rw [List.flatten_cons] at he
    obtain ⟨b1, b2, e1, e2, rfl⟩ := evX_app he
    refine ⟨.ref q0, by rw [List.getElem?_set_self hlen], ?_⟩
    refine ⟨by rw [List.getElem?_set_ne (Ne.symm hij)]; exact hi0, b1, e1, by rw [List.length_map, sizeLine_eq]; simp only [List.length_append] at hn; omega, fun q1 hq1 => ?_⟩
    have evo1 : Evo F1 H F1 (upd H q1 (.lst (b1.map V.bl))) := (Evo.refl ev.le).own hq1
    have w1 : Wk F1 (upd H q1 (.lst (b1.map V.bl))) (.ref q0) (.list (bs.map .bool)) := Wk.evo evo1 (.inr ⟨q0, xs, _, rfl, rfl, hH, hd⟩)
    have w2 : Wk F1 (upd H q1 (.lst (b1.map V.bl))) (.ref q1) (.list (b1.map .bool)) := .inr ⟨q1, _, _, rfl, rfl, upd_same, dps_bools b1⟩
    refine ⟨F1, _, _, evo1.le, w1, w2, ?_⟩
    show GotP F1 _ _ (if (bs.map PyData.bool).length + (b1.map PyData.bool).length ≤ 100000 then Rp.new (bs.map PyData.bool ++ b1.map PyData.bool) else .bad)
    rw [if_pos (by simp only [List.length_map, List.length_append] at hn ⊢; omega)]
    intro p3 xs3 F3 H3 ev3 g1 g2 g3 g4
    have evA : Evo F H0 F3 H3 := (ev.trans evo1).trans ev3
    refine ⟨bs ++ b1, ⟨p3, F3, xs3, by rw [List.set_set], evA, none_back (ev.trans evo1).hx g1, g2, g3, by rw [List.map_append]; exact g4⟩, b2, e2, by simp only [List.length_append] at hn ⊢; omega, b, hm, fun σ' H' S => q σ' H' (by rw [← List.append_assoc]; exact S)⟩
theorem su_firstV {es : List Expr} {ms : List Xm} {p lp pos : Pos} {sts : List Stmt} {mss : List (List Xm)} (h : JXs X cv n i es ms) (hsu : SuV X cv n i j x y m sts mss) : PSs (X.suite a ((a, oe) :: pn)) (.Assign [.Name x p] (.List es lp) pos :: sts) (fun Dn σ H => σ = σ0 ∧ H = H0 ∧ ∃ bs, evX c (ms ++ mss.flatten) = some bs ∧ bs.length ≤ 1000 ∧ ∃ b, m c = some (.bl b) ∧ ∀ σ' H', Sst j F H0 σ0 bs σ' H' → Dn.nx (σ'.set l (some (.bl b))) H') := by
  refine PSs.imp (pss_cons (ps_set (X := X.suite a ((a, oe) :: pn)) hN hj hx (pe_lst (h a oe c pn hc hz hf)) (sw_no rfl) (.inr hfn)) (su_v hN hj hx hfn hv hdb hcd hij hl hy hfy a oe c pn hc hz hf F H0 σ0 le0 hi0 hlen hsu)) fun Dn σ H hh => ?_
  obtain ⟨rfl, rfl, bs, he, hn, b, hm, q⟩ := hh
  obtain ⟨b1, b2, e1, e2, rfl⟩ := evX_app he
  refine ⟨hi0, b1, e1, by rw [List.length_map, sizeLine_eq]; simp only [List.length_append] at hn; omega, fun q1 hq1 => ?_⟩
  exact ⟨b1, ⟨q1, F, _, rfl, (Evo.refl le0).own hq1, hq1, none_back le0 hq1, upd_same, dps_bools b1⟩, b2, e2, by simp only [List.length_append] at hn; omega, b, hm, q⟩
end
end
def sTryU (sub : Nat → Nat → Bool) (n : List Nat) (body : Ss) (k i j l : Nat) (ms : List Xm) (m : Xm) : Ss := fun ρ => match body ρ with
  | .ex c ρ' => if sub c k = true then (match evX c ms, m c with
    | some bs, some (.bl b) => if c ∈ n ∧ i < ρ'.length ∧ j < ρ'.length ∧ bs.length ≤ 1000 then .nx (((ρ'.set i .un).set j (.ow (bs.map .bool))).set l (.fr (.bool b))) else .bad
    | _, _ => .bad) else .bad
  | f => f
theorem js_tryU {X : Cx} {cv : Nat → Value} {W : WX} {sub : Nat → Nat → Bool} {n : List Nat} {body : List Stmt} {mb : Ss} {pos np pos' p lp apos : Pos} {yk nm x y : Str} {k i j l : Nat} {es : List Expr} {ms : List Xm} {m : Xm} {sts : List Stmt} {mss : List (List Xm)} (hs : X.stack = X.env :: X.outer) (hf : X.env.frame = some X.env.locals) (hN : X.N.Nodup) (tk : Takes X W) (C : Clss X.K cv sub n)
    (hb : ∀ (W : WX) (pn : List (Addr × Obj)) (xe : Value → Shared → Prop), Takes (X.tr pn xe) W → PassesOwn (model X.prog X.w) X.A X.env xe → JFs (X.tr pn xe) cv W body mb) (hk : k ∈ n) (hc : Names X yk (cv k)) (hi : X.N[i]? = some nm) (hln : X.env.kindOf nm = some .local)
    (hj : X.N[j]? = some x) (hx : Loc X.env.scope x) (hfn : X.env.scope.names.lookup x = some .local) (hv : Vis X.env.scope x) (hdb : (x == ("__debug__" : Str)) = false) (hcd : (x == ("__classdict__" : Str)) = false) (hij : i ≠ j) (hl : X.N[l]? = some y) (hy : Loc X.env.scope y) (hfy : X.env.scope.names.lookup y = some .local) (hil : i ≠ l) (h1 : JXs X cv n i es ms) (h2 : SuV X cv n i j x y m sts mss) :
    JF X cv W (.Try body [.ExceptHandler (some (.Name yk np)) (some nm) (.Assign [.Name x p] (.List es lp) apos :: sts) pos'] [] [] pos) (sTryU sub n mb k i j l (ms ++ mss.flatten) m) := fun B => by
  let ts : Addr → Value → Option Addr → TS := fun a cls d Dn σ H => ∃ c F bs, cls = cv c ∧ d = none ∧ c ∈ n ∧ Ex F H ∧ σ[i]? = some (some (.ref a)) ∧ j < σ.length ∧ evX c (ms ++ mss.flatten) = some bs ∧ bs.length ≤ 1000 ∧ ∃ b, m c = some (.bl b) ∧ ∀ σ' H', Sst j F H σ bs σ' H' → Dn.nx (σ'.set l (some (.bl b))) H'
  have L : HdsAs X [.ExceptHandler (some (.Name yk np)) (some nm) (.Assign [.Name x p] (.List es lp) apos :: sts) pos'] [(cv k, i, ts)] := by
    refine .cons hc hi hln (fun a oe cls d pn hz hfl => ⟨fun pins s σ H Dn I hh => ?_⟩) .nil
    obtain ⟨c, F, bs, rfl, rfl, hcn, le, hia, hjl, he, hn, b, hm, q⟩ := hh
    exact (su_firstV hN hj hx hfn hv hdb hcd hij hl hy hfy a oe c pn hcn hz hfl F H σ le hia hjl h1 h2).run pins s σ H Dn I ⟨rfl, rfl, bs, he, hn, b, hm, q⟩
  refine PS.imp (ps_try_all (tb := fun W => rdF cv W B mb) hs hf hN tk (fun W pn xe t po => hb W pn xe t po B) L) fun Dn σ H ⟨ρ, F, r, q⟩ => ⟨ρ, F, r, ?_⟩
  unfold sTryU at q
  cases h : mb ρ with
  | nx ρ' => rw [h] at q; exact q
  | rt d => rw [h] at q; exact q
  | rn d => rw [h] at q; exact q
  | rm d ρ' => rw [h] at q; exact q
  | rb k fs => rw [h] at q; exact q
  | bad => rw [h] at q; exact q
  | ex c ρ' =>
    rw [h] at q
    simp only at q
    intro σ' F' H' r'
    split at q
    case isFalse => exact q.elim
    rename_i hsub
    split at q
    case h_2 => exact q.elim
    rename_i bs b he hm
    split at q
    case isFalse => exact q.elim
    rename_i hz
    obtain ⟨hcn, hil', hjl', hbl⟩ := hz
    refine ⟨sub c k, (C.is c k hcn hk).2, fun _ a ha => ?_, fun hb => by rw [hsub] at hb; cases hb⟩
    have hi2 : i < σ'.length := by rw [← r'.rel.len]; exact hil'
    have hj2 : j < σ'.length := by rw [← r'.rel.len]; exact hjl'
    refine ⟨c, F', bs, rfl, rfl, hcn, r'.rel.le, by rw [List.getElem?_set_self hi2], by simpa using hj2, he, hbl, b, hm, fun σ2 H2 S => ?_⟩
    obtain ⟨p, F1, xs, rfl, ev, g0, g1, g2, g3⟩ := S
    show Dn.nx ((((σ'.set i (some (.ref a))).set j (some (.ref p))).set l (some (.bl b))).set i none) H2
    rw [List.set_comm _ _ (Ne.symm hil), List.set_comm _ _ (Ne.symm hij), List.set_set]
    have rr := (r'.step ev).un i none
    have r3 := rr.ow j g1 g2 (none_back r'.evo.hx g0) g3 fun j' es' e ne => by
      rw [set_get] at e
      split at e
      · cases e; simp
      · rename_i hz2
        rw [set_get, if_neg (by rw [← r'.rel.len]; exact hz2)]
        exact new_apart r' g0 ev j' es' e
    exact q _ F1 H2 (r3.fr l (.bl b))
/-! ### the translation -/
section
variable {S : S0}
theorem ve_of {cv : Nat → Value} {X : Cx} {W : WX} (g : Gd S cv X W) (h : (S.nc.all fun c => S.cls.any fun q => q.2 == c) = true) : ∀ c ∈ S.nc, PySem.W.kitOne X.K (cv c) (.type "ValueError") = some true := fun c hc => by
  obtain ⟨q, hq, e⟩ := List.any_eq_true.mp (List.all_eq_true.mp h c hc)
  obtain ⟨C, h1, h2⟩ := g.cls q hq
  rw [← beq_iff_eq.mp e, h1]
  exact exc_ve h2.ex
def xOfV (S : S0) (sc : Scope) (i : Nat) : (e : Expr) → Option (OkX S sc i e)
  | .Call (.Name f p) [.Name x p2, .Name v py] [] pos => if hz : f = "isinstance" ∧ v = "ValueError" ∧ S.N[i]? = some x ∧ visB sc x = true ∧ okName x = true ∧ glB sc "isinstance" = true ∧ glB sc "ValueError" = true ∧ (S.nc.all fun c => S.cls.any fun q => q.2 == c) = true then
      some ⟨xC (.bl true), fun cv X W g gx h => by
        obtain ⟨z1, z2, z3, z4, z5, z6, z7, z8⟩ := hz
        subst z1 z2
        exact jx_ve gx.cl (ve_of g z8) (by rw [g.nN]; exact z3) (by rw [h]; exact vis_of z4) (okName_of z5).1 (okName_of z5).2 (Gd.gl (cv := cv) (W := W) h z6) (g.blt _ (by decide +kernel)) (Gd.gl (cv := cv) (W := W) h z7) (g.blt _ (by decide +kernel))⟩ else xOf S sc i 12 (.Call (.Name f p) [.Name x p2, .Name v py] [] pos)
  | e => xOf S sc i 12 e
def svOf (S : S0) (sc : Scope) (i j : Nat) (x : Str) : (sts : List Stmt) → Option ((q : Str × Xm) × { mss : List (List Xm) // ∀ cv X W, Gd S cv X W → Gx S cv X → X.env.scope = sc → SuV X cv S.nc i j x q.1 q.2 sts mss })
  | [.Assign [.Name y pu] ev pos] => (xOfV S sc i ev).bind fun m => if hs : noComp ev = true then some ⟨(y, m.m), [], fun cv X W g gx h => .last (m.ok cv X W g gx h) hs⟩ else none
  | .Assign [.Name x1 p] (.BinOp (.Name x2 p2) .Add (.List es lp) bp) pos :: rest => (xsOf S sc i es).bind fun ms => (svOf S sc i j x rest).bind fun mr => if hz : x1 = x ∧ x2 = x ∧ ms.1.length ≤ 100 then some ⟨mr.1, ms.1 :: mr.2.1, fun cv X W g gx h => by
      obtain ⟨z1, z2, z3⟩ := hz
      subst z1 z2
      exact .cons (ms.2 cv X W g gx h) z3 (mr.2.2 cv X W g gx h)⟩ else none
  | _ => none
def tryUOf (t : TS0 S) (sc : Scope) : (st : Stmt) → Option (OkS S sc st)
  | .Try body [.ExceptHandler (some (.Name y np)) (some nm) (.Assign [.Name x p] (.List es lp) apos :: sts) pos'] [] [] pos =>
      let i := S.N.findIdx (· == nm)
      (ssOf t sc body).bind fun b => (slotOf S sc x).bind fun j => (xsOf S sc i es).bind fun ms => (svOf S sc i j.1 x sts).bind fun mr => (slotOf S sc mr.1.1).bind fun l =>
        match hf : S.cls.find? (fun q => q.1 == y) with
        | none => none
        | some q => if hz : q.2 ∈ S.nc ∧ glB sc y = true ∧ S.N[i]? = some nm ∧ isLocB sc nm = true ∧ isLocB sc x = true ∧ locB sc x = true ∧ i ≠ j.1 ∧ isLocB sc mr.1.1 = true ∧ locB sc mr.1.1 = true ∧ i ≠ l.1 then some ⟨sTryU S.sub S.nc b.m q.2 i j.1 l.1 (ms.1 ++ mr.2.1.flatten) mr.1.2, fun cv X W g gx h => by
            obtain ⟨z1, z2, z3, z4, z5, z6, z7, z8, z9, z10⟩ := hz
            obtain ⟨C, h1, h2⟩ := g.cls q (List.mem_of_find?_eq_some hf)
            have hx : q.1 = y := by simpa using List.find?_some hf
            rw [hx] at h2
            exact js_tryU gx.stk gx.fr g.nd g.tk gx.cl (fun W' pn xe tk po => b.ok cv _ W' (g.tr pn xe tk) ⟨gx.fnT, po, gx.stk, gx.fr, gx.cl⟩ h) z1 ⟨Gd.gl (cv := cv) (W := W) h z2, (gl_of z2).2, .inl (by rw [h1]; exact h2.gl)⟩ (by rw [g.nN]; exact z3) (by unfold PySem.Env.kindOf; rw [h]; exact isLoc_of z4)
              (by rw [g.nN]; exact j.2.1) (by rw [h]; exact loc_of z6) (by rw [h]; exact isLoc_of z5) (by rw [h]; exact j.2.2.1) j.2.2.2.1 j.2.2.2.2 z7 (by rw [g.nN]; exact l.2.1) (by rw [h]; exact loc_of z9) (by rw [h]; exact isLoc_of z8) z10 (ms.2 cv X W g gx h) (mr.2.2 cv X W g gx h)⟩ else none
  | _ => none
def stepS12 (r : TR S) (t : TS0 S) (sc : Scope) (st : Stmt) : Option (OkS S sc st) := match tryUOf t sc st with
  | some x => some x
  | none => stepY r t sc st
def trS12 (r : TR S) : Nat → TS0 S
  | 0 => ⟨fun _ _ => none⟩
  | n + 1 => ⟨stepS12 r (trS12 r n)⟩
def tr12 (S : S0) (sc : Scope) (body : List Stmt) : Option (OkSs S sc body) := ssOf (trS12 (trE10 S 40) 12) sc body
end
/-! ### Workbook(a, b).undo() as an expression -/
def exW (f : List D → Res) (g : List D → List D → Res) (k : Nat) (P : Program) (w : World) (K : PySem.W.Frag) (mg : Str → Option Value) (base : Heap) (cv : Nat → Value) : Prop := ∃ l, l + 1 ≤ k ∧ WbO P w K mg base cv l 101 "Workbook" "undo" f g
def Tb.sw (T : Tb) (N : List Str) (k : Nat) (fns : List (Str × Nat × (List D → Res))) (f : List D → Res) (g : List D → List D → Res) : S0 := ⟨N, k, fns, T.cls, T.cst, T.sub, T.nc, exW f g k⟩
section
variable {T : Tb} {N : List Str} {lv : Nat} {fns : List (Str × Nat × (List D → Res))} {f : List D → Res} {g' : List D → List D → Res}
def wuOf (r : TR (Tb.sw T N lv fns f g')) (sc : Scope) : (e : Expr) → Option (OkE (Tb.sw T N lv fns f g') sc e)
  | .Call (.Attribute (.Call (.Name z p) (a :: es) [] cp) mn ap) [] [] pos => (aOf r sc (a :: es)).bind fun as => if hz : z = "Workbook" ∧ mn = "undo" ∧ glB sc z = true ∧ (ap.endLine == pos.line) = true then some ⟨eWU f g' as.ms, as.lk, fun cv X W g h => by
      obtain ⟨z1, z2, z3, z4⟩ := hz
      obtain ⟨l, hl, M⟩ := g.ext
      subst z1 z2
      exact j_wu M (by decide) (g.room.mono hl) g.tk (Gd.gl (cv := cv) (W := W) h z3) (gl_of z3).2 (as.ok cv X W g h) (all_cons as.st).1 (all_cons as.st).2 z4⟩ else none
  | _ => none
def stepE12 (r : TR (Tb.sw T N lv fns f g')) (sc : Scope) (e : Expr) : Option (OkE (Tb.sw T N lv fns f g') sc e) := match wuOf r sc e with
  | some x => some x
  | none => stepE10 r sc e
def trE12 (T : Tb) (N : List Str) (lv : Nat) (fns : List (Str × Nat × (List D → Res))) (f : List D → Res) (g' : List D → List D → Res) : Nat → TR (Tb.sw T N lv fns f g')
  | 0 => ⟨fun _ _ => none, fun _ _ => none, fun _ _ => none⟩
  | n + 1 => ⟨stepE12 (trE12 T N lv fns f g' n), stepT (trE12 T N lv fns f g' n), fun _ _ => none⟩
end
def tr12w (T : Tb) (N : List Str) (lv : Nat) (fns : List (Str × Nat × (List D → Res))) (f : List D → Res) (g' : List D → List D → Res) (sc : Scope) (body : List Stmt) : Option (OkSs (Tb.sw T N lv fns f g') sc body) := ssOf (trS12 (trE12 T N lv fns f g' 40) 12) sc body
theorem kp_ofW {P : Program} {w : World} {K : PySem.W.Frag} {mg : Str → Option Value} {base : Heap} {cv : Nat → Value} {T : Tb} {k n : Nat} {x qual : Str} {params : Arguments} {body : List Stmt} {scope : Scope} {f : Addr} {fd : FuncData} {N ps : List Str} {fns : List (Str × Nat × (List D → Res))} {wf : List D → Res} {wg : List D → List D → Res} {m : Ss} {fm : List D → Res}
    (F : FunD K x qual params body scope [] [] f fd) (hg : mg x = some (.ref f)) (B : Bs T cv K mg) (S : FnScope N ps scope) (hn : ps.length = n) (hb : ∀ (kV doc pm : Value) (an : Option Addr) (cdv ct : Value) (us : List Value), us.length = ps.length → bindArgs (PySem.W.fnOf x qual params body scope .none kV doc pm an cdv ct) ⟨us, []⟩ = pure (ps.zip us))
    (o : Option (OkSs (T.sw N k fns wf wg) scope body)) (ht : o.map (·.m) = some m) (hf : fm = runF N.length m) (A : AllKp P w K mg base cv k fns) (ex : exW wf wg k P w K mg base cv) : Kp P w K mg base cv (k + 1) x n fm := by
  subst hf hn
  refine ⟨f, fd, ps, hg, rfl, ?_, F.kp, F.bindsN hb⟩
  obtain ⟨r, hr, rfl⟩ := Option.map_eq_some_iff.mp ht
  refine FunD.ok F S (fun vs H Q E h => spOf_len h) fun cdv Ar outer s H vs Q E room hsp => ?_
  obtain ⟨F0, ds, le, hd, hl, q⟩ := hsp
  let X := cxOf (L2.CX P w) P w K mg base N qual scope f cdv Ar outer s H E
  let W : WX := fun c d _ H' => E c d H'
  have tk : Takes X W := takes_of rfl rfl rfl rfl
  have g : Gd (T.sw N k fns wf wg) cv X W := ⟨rfl, S.nd, rfl, room, tk, B.blt, fun p hp => ⟨(A.at p hp).ok⟩, B.cls, B.cst, ex⟩
  have gx : Gx (T.sw N k fns wf wg) cv X := ⟨fun _ => rfl, passes_of rfl, rfl, rfl, B.cl⟩
  refine ⟨rdF cv W ⟨F0, H, none⟩ r.m, r.ok cv X W g gx rfl ⟨F0, H, none⟩, ⟨_, F0, rel_start (N := N) le hd, ?_⟩⟩
  have q' : GotE cv W F0 H [] Q (runF N.length r.m ds) := q
  unfold runF at q'
  cases h : r.m (ds.map .fr ++ List.replicate (N.length - ds.length) .un) with
  | nx ρ => rw [h] at q'; exact fun σ F1 H1 r1 => q' .non F1 H1 r1.evo .non
  | rt d => rw [h] at q'; exact fun v F1 H1 ev hv => q' v F1 H1 ev hv
  | rn d => rw [h] at q'; exact fun p xs F1 H1 ev h1 h2 h3 h4 => q' p xs F1 H1 ev h1 h2 h3 h4
  | rm d ρ => rw [h] at q'; exact fun v σ F1 H1 r1 hv => q' v F1 H1 r1.evo hv
  | rb k fs => rw [h] at q'; exact q'.elim
  | ex c ρ => rw [h] at q'; exact fun σ F1 H1 r1 => q' F1 H1 r1.evo
  | bad => rw [h] at q'; exact q'
/-! ### a method's body with holes -/
section
variable {T : Tb} {N : List Str} {lv : Nat} {fns : List (Str × Nat × (List D → Res))} {ks : List Nat} {mts : List MtT}
def stepGB (ov : List (Str × Nat)) (r : TR (Tb.so T N lv fns ks mts)) (t : TS0 (Tb.so T N lv fns ks mts)) (sc : Scope) (st : Stmt) : Option (OkS (Tb.so T N lv fns ks mts) sc st) := match stepG ov [] [] false r t sc st with
  | some x => some x
  | none => some ⟨sBad, fun cv X W g gx h => js_bad⟩
def trSGB (ov : List (Str × Nat)) (r : TR (Tb.so T N lv fns ks mts)) : Nat → TS0 (Tb.so T N lv fns ks mts)
  | 0 => ⟨fun _ _ => none⟩
  | n + 1 => ⟨stepGB ov r (trSGB ov r n)⟩
end
def trOB (T : Tb) (N : List Str) (lv : Nat) (fns : List (Str × Nat × (List D → Res))) (ks : List Nat) (mts : List MtT) (ov : List (Str × Nat)) (sc : Scope) (body : List Stmt) : Option (OkSs (T.so N lv fns ks mts) sc body) :=
  ssOf (trSGB ov (trG [] ov 40) 12) sc body
end U
set_option Elab.async false
set_option linter.all false
set_option maxRecDepth 100000
set_option maxHeartbeats 4000000
/-! several classes in one head -/
namespace U
open PySem PySem.Spec PyProof.Rows L2
section
variable {P : Program} {w : World} {h : Heap} {K : PySem.W.Frag} {mg : Str → Option Value} {base : Heap} {cv : Nat → Value} {T : Tb} {ds : List Str} {fn : List He.DefD} {fo : List He.Fa}
theorem clf_of2 {k : Nat} {c : Str} {ms : List Str} (hs : ∀ f ∈ faO c (flN k) ms, f ∈ fo) (hc : cv k = .ref (He.ga K c)) (s : He.SaysX (faU T ds ++ fo) fn [] [] (exU T) w h K) : ClF K cv k := by
  have facts : ∀ f ∈ faO c (flN k) ms, f.ok K = true := fun f hf => s.t.d.facts (List.mem_append_right _ (hs f hf))
  refine ⟨⟨_, hc, He.cls_ok (facts (.cls c) (by simp [faO])), fun f hf => He.noat_ok (facts (.noat c f) ?_)⟩⟩
  simp [faO, hf]
theorem meth_of2 {k : Nat} {c m : Str} {ms : List Str} (hs : ∀ f ∈ faO c (flN k) ms, f ∈ fo) (s : He.SaysX (faU T ds ++ fo) fn [] [] (exU T) w h K) (hm : m ∈ ms) : Cls K (He.ga K c) ∧ Meth K (He.ga K c) m (He.ma K (He.ga K c) m) := by
  have facts : ∀ f ∈ faO c (flN k) ms, f.ok K = true := fun f hf => s.t.d.facts (List.mem_append_right _ (hs f hf))
  exact ⟨He.cls_ok (facts (.cls c) (by simp [faO])), He.meth_ok (facts (.meth c m) (by simp [faO, hm]))⟩
theorem mkr_of2 {k : Nat} {c : Str} {ms : List Str} (hs : ∀ f ∈ faO c (flN k) ms, f ∈ fo) (X : K.In h) (G : h.Ns mainGlobals mg) (s : He.SaysX (faU T ds ++ fo) fn [] [] (exU T) w h K) : mg c = some (.ref (He.ga K c)) ∧ Mk K (He.ga K c) (He.ma K (He.ga K c) "__init__") := by
  have facts : ∀ f ∈ faO c (flN k) ms, f.ok K = true := fun f hf => s.t.d.facts (List.mem_append_right _ (hs f hf))
  exact ⟨He.glo_ok X G (facts (.glo c) (by simp [faO])), He.mkr_ok (facts (.mkr c) (by simp [faO]))⟩
end
end U
set_option Elab.async false
set_option linter.all false
set_option maxRecDepth 100000
set_option maxHeartbeats 4000000
namespace U
open PySem PySem.Spec PyProof.Rows L2
/-! ### the layer's forms, reckoned: plain equations (nr keeps simp from taking them as conversions, which the kernel would have to run) -/
theorem nr {α : Sort _} {a b : α} (h : a = b) : a = b := h
def cV : Option Cell → Res
  | some (.fr d) => .ok d
  | _ => .bad
def cK : Option Cell → Res
  | some (.fr d) => .ok d
  | some (.ow ds) => .ok (.list ds)
  | _ => .bad
theorem cV_fr (d : D) : cV (some (.fr d)) = .ok d := nr rfl
theorem cK_fr (d : D) : cK (some (.fr d)) = .ok d := nr rfl
theorem cK_ow (d : List D) : cK (some (.ow d)) = .ok (.list d) := nr rfl
theorem eV_q (i : Nat) (ρ : Rho) : eV i ρ = cV ρ[i]? := by
  unfold eV cV
  cases ρ[i]? with
  | none => rfl
  | some c => cases c <;> rfl
theorem eK_q (i : Nat) (ρ : Rho) : eK i ρ = cK ρ[i]? := by
  unfold eK cK
  cases ρ[i]? with
  | none => rfl
  | some c => cases c <;> rfl
theorem eC_q (d : D) (ρ : Rho) : eC d ρ = .ok d := nr rfl
theorem e1_q (g : D → Rp) (a : Sm) (ρ : Rho) : e1 g a ρ = (a ρ).bind fun x => (g x).up := nr rfl
theorem e2_q (g : D → D → Rp) (a b : Sm) (ρ : Rho) : e2 g a b ρ = (a ρ).bind fun x => (b ρ).bind fun y => (g x y).up := nr rfl
theorem eL_q (g : List D → Rp) (ms : List Sm) (ρ : Rho) : eL g ms ρ = (evs ms ρ).bind fun ds => (g ds).up := nr rfl
theorem eF_q (f : List D → Res) (ms : List Sm) (ρ : Rho) : eF f ms ρ = (evs ms ρ).bind f := nr rfl
theorem eAnd_q (a b : Sm) (ρ : Rho) : eAnd a b ρ = (a ρ).bind fun x => ifT (truth x) (b ρ) (.ok x) := nr rfl
theorem eOr_q (a b : Sm) (ρ : Rho) : eOr a b ρ = (a ρ).bind fun x => ifT (truth x) (.ok x) (b ρ) := nr rfl
theorem eIf_q (c a b : Sm) (ρ : Rho) : eIf c a b ρ = (c ρ).bind fun x => ifT (truth x) (a ρ) (b ρ) := nr rfl
theorem eTup_q (ms : List Sm) (ρ : Rho) : eTup ms ρ = (evs ms ρ).bind fun ds => .ok (.tuple ds) := nr rfl
theorem eLst_q (ms : List Sm) (ρ : Rho) : eLst ms ρ = (evs ms ρ).bind fun ds => .new ds := nr rfl
def chK (r : Rp) (k : D → Rp) (z : Res) : Res := match r with
  | .ok (.bool true) => z.bind fun z => (k z).up
  | .ok (.bool false) => .ok (.bool false)
  | _ => .bad
theorem chK_t (k : D → Rp) (z : Res) : chK (.ok (.bool true)) k z = z.bind fun z => (k z).up := nr rfl
theorem chK_f (k : D → Rp) (z : Res) : chK (.ok (.bool false)) k z = .ok (.bool false) := nr rfl
theorem eChain_q (g g' : D → D → Rp) (a b c : Sm) (ρ : Rho) : eChain g g' a b c ρ = (a ρ).bind fun x => (b ρ).bind fun y => chK (g x y) (g' y) (c ρ) := by
  unfold eChain chK
  rfl
def boK (k : Option Int → Res) : D → Res
  | .int i => k (some i)
  | _ => .bad
theorem boK_i (k : Option Int → Res) (i : Int) : boK k (.int i) = k (some i) := nr rfl
theorem bindO_n (ρ : Rho) (k : Option Int → Res) : bindO none ρ k = k none := nr rfl
theorem bindO_s (m : Sm) (ρ : Rho) (k : Option Int → Res) : bindO (some m) ρ k = (m ρ).bind (boK k) := by
  unfold bindO boK
  rfl
theorem eSl_q (ma : Sm) (lo hi : Option Sm) (ρ : Rho) : eSl ma lo hi ρ = (ma ρ).bind fun x => bindO lo ρ fun l => bindO hi ρ fun h => (gSl x l h).up := nr rfl
def fzK (ρ : Rho) (i : Nat) : Option Cell → Rho
  | some (.ow ds) => ρ.set i (.fr (.list ds))
  | _ => ρ
theorem fzK_ow (ρ : Rho) (i : Nat) (ds : List D) : fzK ρ i (some (.ow ds)) = ρ.set i (.fr (.list ds)) := nr rfl
theorem fzK_fr (ρ : Rho) (i : Nat) (d : D) : fzK ρ i (some (.fr d)) = ρ := nr rfl
theorem fzK_un (ρ : Rho) (i : Nat) : fzK ρ i (some .un) = ρ := nr rfl
theorem frz1_q (ρ : Rho) (i : Nat) : frz1 ρ i = fzK ρ i ρ[i]? := by
  unfold frz1 fzK
  rfl
theorem sSeq_q (a b : Ss) (ρ : Rho) : sSeq a b ρ = (a ρ).bind b := nr rfl
theorem sSet_q (i : Nat) (lk : List Nat) (m : Sm) (ρ : Rho) : sSet i lk m ρ = (m (frz ρ lk)).fl (frz ρ lk) (fun d => .nx ((frz ρ lk).set i (.fr d))) (fun ds => .nx ((frz ρ lk).set i (.ow ds))) := nr rfl
def tpK : Option Rho → Fl
  | some ρ => .nx ρ
  | none => .bad
theorem tpK_s (ρ : Rho) : tpK (some ρ) = .nx ρ := nr rfl
theorem sTup_q (is lk : List Nat) (m : Sm) (ρ : Rho) : sTup is lk m ρ = (m (frz ρ lk)).fl (frz ρ lk) (fun d => tpK (bindT (.tp is) d (frz ρ lk))) (fun _ => .bad) := by
  unfold sTup tpK
  rfl
theorem sRet_q (lk : List Nat) (m : Sm) (ρ : Rho) : sRet lk m ρ = (m (frz ρ lk)).fl (frz ρ lk) .rt .rn := nr rfl
def rvK : Option Cell → Fl
  | some (.fr d) => .rt d
  | some (.ow ds) => .rn ds
  | _ => .bad
theorem rvK_fr (d : D) : rvK (some (.fr d)) = .rt d := nr rfl
theorem rvK_ow (d : List D) : rvK (some (.ow d)) = .rn d := nr rfl
theorem sRetV_q (i : Nat) (ρ : Rho) : sRetV i ρ = rvK ρ[i]? := by
  unfold sRetV rvK
  rfl
theorem sExpr_q (lk : List Nat) (m : Sm) (ρ : Rho) : sExpr lk m ρ = (m (frz ρ lk)).fl (frz ρ lk) (fun _ => .nx (frz ρ lk)) (fun _ => .nx (frz ρ lk)) := nr rfl
def ifE (b : Bool) (x y : Fl) : Fl := match b with
  | true => x
  | false => y
theorem ifE_t (x y : Fl) : ifE true x y = x := nr rfl
theorem ifE_f (x y : Fl) : ifE false x y = y := nr rfl
theorem sIf_q (lk : List Nat) (mc : Sm) (a b : Ss) (ρ : Rho) : sIf lk mc a b ρ = (mc (frz ρ lk)).fl (frz ρ lk) (fun d => ifF (truth d) (a (frz ρ lk)) (b (frz ρ lk))) (fun ds => ifE ds.isEmpty (b (frz ρ lk)) (a (frz ρ lk))) := by
  unfold sIf ifE
  simp only
  congr 1
  funext ds
  cases ds.isEmpty <;> rfl
def apK (i : Nat) (m : Sm) (ρ : Rho) : Option Cell → Fl
  | some (.ow ds) => if ds.length < 100000 then (m ρ).fl ρ (fun d => .nx (ρ.set i (.ow (ds ++ [d])))) (fun es => .nx (ρ.set i (.ow (ds ++ [.list es])))) else .bad
  | _ => .bad
theorem apK_ow {ds : List D} (i : Nat) (m : Sm) (ρ : Rho) (h : ds.length < 100000) : apK i m ρ (some (.ow ds)) = (m ρ).fl ρ (fun d => .nx (ρ.set i (.ow (ds ++ [d])))) (fun es => .nx (ρ.set i (.ow (ds ++ [.list es])))) := if_pos h
theorem sApp_q (i : Nat) (lk : List Nat) (m : Sm) (ρ : Rho) : sApp i lk m ρ = apK i m (frz ρ lk) (frz ρ lk)[i]? := by
  unfold sApp apK
  rfl
def xtK (i : Nat) (m : Sm) (ρ : Rho) : Option Cell → Fl
  | some (.ow ds) => (m ρ).fl ρ (fun _ => .bad) (fun es => if ds.length + es.length ≤ 100000 then .nx (ρ.set i (.ow (ds ++ es))) else .bad)
  | _ => .bad
theorem xtK_ow {ds es : List D} (i : Nat) (m : Sm) (ρ : Rho) (hm : m ρ = .new es) (h : ds.length + es.length ≤ 100000) : xtK i m ρ (some (.ow ds)) = .nx (ρ.set i (.ow (ds ++ es))) := by
  unfold xtK
  simp only [hm, Res.fl_new, h, if_true]
theorem sExt_q (i : Nat) (lk : List Nat) (m : Sm) (ρ : Rho) : sExt i lk m ρ = xtK i m (frz ρ lk) (frz ρ lk)[i]? := by
  unfold sExt xtK
  rfl
theorem sRaise_q (c : Nat) (ρ : Rho) : sRaise c ρ = .ex c ρ := nr rfl
theorem sPar2_q (i j : Nat) (lk : List Nat) (ma mb : Sm) (ρ : Rho) : sPar2 i j lk ma mb ρ = (ma (frz ρ lk)).fl (frz ρ lk) (fun x => (mb (frz ρ lk)).fl (frz ρ lk) (fun y => .nx (((frz ρ lk).set i (.fr x)).set j (.fr y))) (fun ys => .nx (((frz ρ lk).set i (.fr x)).set j (.ow ys))))
    (fun xs => (mb (frz ρ lk)).fl (frz ρ lk) (fun y => .nx (((frz ρ lk).set i (.ow xs)).set j (.fr y))) (fun ys => .nx (((frz ρ lk).set i (.ow xs)).set j (.ow ys)))) := nr rfl
def p3K (i j l : Nat) (ρ : Rho) : ResL → Fl
  | .ok [x, y, z] => .nx (((ρ.set i (.fr x)).set j (.fr y)).set l (.fr z))
  | .ok _ => .bad
  | .exc c => .ex c ρ
  | .bad => .bad
theorem p3K_ok (i j l : Nat) (ρ : Rho) (x y z : D) : p3K i j l ρ (.ok [x, y, z]) = .nx (((ρ.set i (.fr x)).set j (.fr y)).set l (.fr z)) := nr rfl
theorem sPar3_q (i j l : Nat) (lk : List Nat) (ms : List Sm) (ρ : Rho) : sPar3 i j l lk ms ρ = p3K i j l (frz ρ lk) (evs ms (frz ρ lk)) := by
  unfold sPar3 p3K
  rfl
theorem iSeq_q (m : Sm) (ρ : Rho) : iSeq m ρ = (m ρ).bindL iterD := nr rfl
theorem iZip_q (ms : List Sm) (ρ : Rho) : iZip ms ρ = (evs ms ρ).bindL zipL := nr rfl
theorem iEnum_q (m : Sm) (ρ : Rho) : iEnum m ρ = (evs [m] ρ).bindL enumL := nr rfl
theorem bo (d : D) (k : D → Res) : (Res.ok d).bind k = k d := nr rfl
theorem bn (d : List D) (k : D → Res) : (Res.new d).bind k = k (.list d) := nr rfl
theorem bx (c : Nat) (k : D → Res) : (Res.exc c).bind k = .exc c := nr rfl
theorem blo (d : D) (k : D → ResL) : (Res.ok d).bindL k = k d := nr rfl
theorem bln (d : List D) (k : D → ResL) : (Res.new d).bindL k = k (.list d) := nr rfl
theorem blx (c : Nat) (k : D → ResL) : (Res.exc c).bindL k = .exc c := nr rfl
theorem lbo (d : List D) (k : List D → Res) : (ResL.ok d).bind k = k d := nr rfl
theorem lbx (c : Nat) (k : List D → Res) : (ResL.exc c).bind k = .exc c := nr rfl
theorem llo (d : List D) (k : List D → ResL) : (ResL.ok d).bindL k = k d := nr rfl
theorem llx (c : Nat) (k : List D → ResL) : (ResL.exc c).bindL k = .exc c := nr rfl
theorem flo (d : D) (ρ : Rho) (k : D → Fl) (kn : List D → Fl) : (Res.ok d).fl ρ k kn = k d := nr rfl
theorem fln (d : List D) (ρ : Rho) (k : D → Fl) (kn : List D → Fl) : (Res.new d).fl ρ k kn = kn d := nr rfl
theorem flx (c : Nat) (ρ : Rho) (k : D → Fl) (kn : List D → Fl) : (Res.exc c).fl ρ k kn = .ex c ρ := nr rfl
theorem fbn (ρ : Rho) (k : Ss) : (Fl.nx ρ).bind k = k ρ := nr rfl
theorem fbr (d : D) (k : Ss) : (Fl.rt d).bind k = .rt d := nr rfl
theorem fbm (d : List D) (k : Ss) : (Fl.rn d).bind k = .rn d := nr rfl
theorem fbx (c : Nat) (ρ : Rho) (k : Ss) : (Fl.ex c ρ).bind k = .ex c ρ := nr rfl
theorem upo (d : D) : (Rp.ok d).up = .ok d := nr rfl
theorem upn (d : List D) : (Rp.new d).up = .new d := nr rfl
theorem iTt (a b : Res) : ifT (some true) a b = a := nr rfl
theorem iTf (a b : Res) : ifT (some false) a b = b := nr rfl
theorem iFt (a b : Fl) : ifF (some true) a b = a := nr rfl
theorem iFf (a b : Fl) : ifF (some false) a b = b := nr rfl
theorem oRs (d : D) : optR (some d) = .ok d := nr rfl
theorem vRo (d : D) : valR (.ok d) = some d := nr rfl
theorem vRn (d : List D) : valR (.new d) = some (.list d) := nr rfl
theorem fin_nx (ρ : Rho) : fin (.nx ρ) = .ok .none := nr rfl
theorem fin_rt (d : D) : fin (.rt d) = .ok d := nr rfl
theorem fin_rn (d : List D) : fin (.rn d) = .new d := nr rfl
theorem fin_ex (c : Nat) (ρ : Rho) : fin (.ex c ρ) = .exc c := nr rfl
theorem frz_nil (ρ : Rho) : frz ρ [] = ρ := nr rfl
theorem frz_cons (ρ : Rho) (i : Nat) (l : List Nat) : frz ρ (i :: l) = frz (frz1 ρ i) l := nr rfl
theorem evs_nil (ρ : Rho) : evs [] ρ = .ok [] := nr rfl
theorem evs_cons (m : Sm) (ms : List Sm) (ρ : Rho) : evs (m :: ms) ρ = (m ρ).bindL fun d => (evs ms ρ).bindL fun ds => .ok (d :: ds) := nr rfl
theorem truth_none : truth .none = some false := nr rfl
theorem truth_bool (b : Bool) : truth (.bool b) = some b := nr rfl
theorem truth_int (i : Int) : truth (.int i) = some (i != 0) := nr rfl
theorem truth_list (l : List D) : truth (.list l) = some (!l.isEmpty) := nr rfl
theorem truth_tuple (l : List D) : truth (.tuple l) = some (!l.isEmpty) := nr rfl
theorem gNot_b (b : Bool) : gNot (.bool b) = .ok (.bool (!b)) := nr rfl
theorem gNot_l (l : List D) : gNot (.list l) = .ok (.bool (!!l.isEmpty)) := nr rfl
theorem gNot_t (l : List D) : gNot (.tuple l) = .ok (.bool (!!l.isEmpty)) := nr rfl
theorem gNot_n : gNot .none = .ok (.bool true) := nr rfl
theorem gAdd_i (i j : Int) : gAdd (.int i) (.int j) = .ok (.int (i + j)) := nr rfl
theorem gSub_i (i j : Int) : gSub (.int i) (.int j) = .ok (.int (i - j)) := nr rfl
theorem gMod_i {i j : Int} (h : j ≠ 0) : gMod (.int i) (.int j) = .ok (.int (i.fmod j)) := if_pos h
theorem gNeg_i (i : Int) : gNeg (.int i) = .ok (.int (-i)) := nr rfl
theorem gLt_i (i j : Int) : gLt (.int i) (.int j) = .ok (.bool (decide (i < j))) := nr rfl
theorem gLe_i (i j : Int) : gLe (.int i) (.int j) = .ok (.bool (decide (i ≤ j))) := nr rfl
theorem gGt_i (i j : Int) : gGt (.int i) (.int j) = .ok (.bool (decide (j < i))) := nr rfl
theorem gGe_i (i j : Int) : gGe (.int i) (.int j) = .ok (.bool (decide (j ≤ i))) := nr rfl
theorem gEq_i (i j : Int) : gEq (.int i) (.int j) = .ok (.bool (decide (i = j))) := nr rfl
theorem gNe_i (i j : Int) : gNe (.int i) (.int j) = .ok (.bool (!decide (i = j))) := nr rfl
theorem gIx_l (xs : List D) (i : Int) : gIx (.list xs) (.int i) = optR (atI xs i) := nr rfl
theorem gIx_t (xs : List D) (i : Int) : gIx (.tuple xs) (.int i) = optR (atI xs i) := nr rfl
theorem bLen_l (xs : List D) : bLen [.list xs] = .ok (.int xs.length) := nr rfl
theorem bLen_t (xs : List D) : bLen [.tuple xs] = .ok (.int xs.length) := nr rfl
theorem bAbs_i (i : Int) : bAbs [.int i] = .ok (.int (if i < 0 then -i else i)) := nr rfl
theorem bInt_i (i : Int) : bInt [.int i] = .ok (.int i) := nr rfl
theorem bInt_b (b : Bool) : bInt [.bool b] = .ok (.int (if b then 1 else 0)) := nr rfl
theorem bTuple_l (xs : List D) : bTuple [.list xs] = .ok (.tuple xs) := nr rfl
theorem bTuple_t (xs : List D) : bTuple [.tuple xs] = .ok (.tuple xs) := nr rfl
theorem bList_l (xs : List D) : bList [.list xs] = .new xs := nr rfl
theorem bList_t (xs : List D) : bList [.tuple xs] = .new xs := nr rfl
theorem gIsi_it (xs : List D) : gIsi .tuple (.tuple xs) = .ok (.bool true) := nr rfl
theorem gIsi_ii (i : Int) : gIsi .int (.int i) = .ok (.bool true) := nr rfl
theorem gIsi_bi (i : Int) : gIsi .bool (.int i) = .ok (.bool false) := nr rfl
theorem iterD_l (xs : List D) : iterD (.list xs) = .ok xs := nr rfl
theorem iterD_t (xs : List D) : iterD (.tuple xs) = .ok xs := nr rfl
theorem zipL_tt (xs ys : List D) : zipL [.tuple xs, .tuple ys] = .ok (zip2D xs ys) := nr rfl
theorem zipL_lt (xs ys : List D) : zipL [.list xs, .tuple ys] = .ok (zip2D xs ys) := nr rfl
theorem zipL_tl (xs ys : List D) : zipL [.tuple xs, .list ys] = .ok (zip2D xs ys) := nr rfl
theorem zipL_ll (xs ys : List D) : zipL [.list xs, .list ys] = .ok (zip2D xs ys) := nr rfl
theorem enumL_t (xs : List D) : enumL [.tuple xs] = .ok (enumD 0 xs) := nr rfl
theorem enumL_l (xs : List D) : enumL [.list xs] = .ok (enumD 0 xs) := nr rfl
theorem bindT_nm (i : Nat) (d : D) (ρ : Rho) : bindT (.nm i) d ρ = some (ρ.set i (.fr d)) := nr rfl
theorem bindT_2 (i j : Nat) (d d' : D) (ρ : Rho) : bindT (.tp [i, j]) (.tuple [d, d']) ρ = some ((ρ.set i (.fr d)).set j (.fr d')) := nr rfl
theorem bindT_3 (i j l : Nat) (d d' d2 : D) (ρ : Rho) : bindT (.tp [i, j, l]) (.tuple [d, d', d2]) ρ = some (((ρ.set i (.fr d)).set j (.fr d')).set l (.fr d2)) := nr rfl
theorem wipe_nil (ρ : Rho) : wipeR ρ [] = ρ := nr rfl
theorem wipe_cons (ρ : Rho) (i : Nat) (l : List Nat) : wipeR ρ (i :: l) = (wipeR ρ l).set i .un := nr rfl
theorem turnC_n (ρ : Rho) (T : Tg) (me : Sm) (d : D) : turnC ρ T none me d = (bindT T d ρ).bind fun ρ => (valR (me ρ)).map some := nr rfl
theorem turnC_s (ρ : Rho) (T : Tg) (mc me : Sm) (d : D) : turnC ρ T (some mc) me d = (bindT T d ρ).bind fun ρ => ((valR (mc ρ)).bind truth).bind fun t => if t = true then (valR (me ρ)).map some else some none := nr rfl
end U
set_option Elab.async false
set_option linter.all false
set_option maxRecDepth 100000
set_option maxHeartbeats 4000000
namespace U
open PySem PySem.Spec PyProof.Rows L2
/-! ### typed data -/
inductive All2 {α β : Type} (P : α → β → Prop) : List α → List β → Prop
  | nil : All2 P [] []
  | cons {x : α} {y : β} {xs : List α} {ys : List β} : P x y → All2 P xs ys → All2 P (x :: xs) (y :: ys)
theorem All2.len {α β : Type} {P : α → β → Prop} : ∀ {xs : List α} {ys : List β}, All2 P xs ys → ys.length = xs.length
  | _, _, .nil => rfl
  | _, _, .cons _ h => by simp [h.len]
theorem All2.right {α β : Type} {P : α → β → Prop} {Q : β → Prop} (k : ∀ x y, P x y → Q y) : ∀ {xs : List α} {ys : List β}, All2 P xs ys → ∀ y ∈ ys, Q y
  | _, _, .nil, y, h => by cases h
  | _, _, .cons h hs, y, hy => by
    rcases List.mem_cons.mp hy with e | hy
    · rw [e]; exact k _ _ h
    · exact hs.right k y hy
/-! ### comprehensions and loops over typed lists -/
/-! ### places -/
theorem atI_nat {α : Type} (xs : List α) (n : Nat) : atI xs (n : Int) = xs[n]? := by
  unfold atI ixN
  by_cases h : n < xs.length
  · simp [h]
  · simp [h]
theorem atI_pos {α : Type} (xs : List α) (i : Int) (h : 0 ≤ i) : atI xs i = xs[i.toNat]? := by
  obtain ⟨n, rfl⟩ := Int.eq_ofNat_of_zero_le h
  rw [atI_nat]; rfl
theorem atI_zero {α : Type} (x : α) (xs : List α) : atI (x :: xs) 0 = some x := by rw [atI_pos _ _ (by decide)]; rfl
theorem atI_one {α : Type} (x y : α) (xs : List α) : atI (x :: y :: xs) 1 = some y := by rw [atI_pos _ _ (by decide)]; rfl
/-! ### equality of typed data -/
/-! ### fractions -/
end U
local macro_rules
  | `(tactic| simp only [EV0, $ts,*] $[$l:location]?) => `(tactic| simp only [U.fin_nx, U.fin_rt, U.fin_rn, U.fin_ex, U.frz_nil, U.frz_cons, U.frz1_q, U.fzK_ow, U.fzK_fr, U.fzK_un, U.evs_nil, U.evs_cons, U.sSeq_q, U.sIf_q, U.ifE_t, U.ifE_f, U.sRet_q, U.sRetV_q, U.rvK_fr, U.rvK_ow, U.sSet_q, U.sTup_q, U.tpK_s, U.sExpr_q, U.sApp_q, U.apK_ow, U.sExt_q, U.xtK_ow, U.sRaise_q, U.sPar2_q, U.sPar3_q, U.p3K_ok, U.eV_q, U.eK_q, U.cV_fr, U.cK_fr, U.cK_ow, U.eC_q, U.e1_q, U.e2_q, U.eL_q, U.eF_q, U.eAnd_q, U.eOr_q, U.eIf_q, U.eTup_q, U.eLst_q, U.eChain_q, U.chK_t, U.chK_f, U.eSl_q, U.bindO_n, U.bindO_s, U.boK_i, U.truth_none, U.truth_bool, U.truth_int, U.truth_list, U.truth_tuple, U.gNot_b, U.gNot_l, U.gNot_t, U.gNot_n, U.gAdd_i, U.gSub_i, U.gNeg_i, U.gLt_i, U.gLe_i, U.gGt_i, U.gGe_i, U.gEq_i, U.gNe_i, U.gIx_l, U.gIx_t, U.bLen_l, U.bLen_t, U.bAbs_i, U.bInt_i, U.bInt_b, U.bTuple_l, U.bTuple_t, U.bList_l, U.bList_t, U.gIsi_it, U.gIsi_ii, U.gIsi_bi, U.iSeq_q, U.iterD_l, U.iterD_t, U.iZip_q, U.zipL_tt, U.zipL_lt, U.zipL_tl, U.zipL_ll, U.iEnum_q, U.enumL_t, U.enumL_l, U.bindT_nm, U.bindT_2, U.bindT_3, U.wipe_nil, U.wipe_cons, U.turnC_n, U.turnC_s, U.atI_zero, U.atI_one, U.bo, U.bn, U.bx, U.blo, U.bln, U.blx, U.lbo, U.lbx, U.llo, U.llx, U.flo, U.fln, U.flx, U.fbn, U.fbr, U.fbm, U.fbx, U.upo, U.upn, U.iTt, U.iTf, U.iFt, U.iFf, U.oRs, U.vRo, U.vRn, List.getElem?_cons_zero, List.getElem?_cons_succ, List.set_cons_zero, List.set_cons_succ, List.length_nil, List.length_cons, List.length_map, Option.bind_some, Option.map_some, if_true, if_false, decide_true, decide_false, Bool.not_true, Bool.not_false, Bool.false_eq_true, ite_true, ite_false, $ts,*] $[$l:location]?)
  | `(tactic| simp only [EV0] $[$l:location]?) => `(tactic| simp only [U.fin_nx, U.fin_rt, U.fin_rn, U.fin_ex, U.frz_nil, U.frz_cons, U.frz1_q, U.fzK_ow, U.fzK_fr, U.fzK_un, U.evs_nil, U.evs_cons, U.sSeq_q, U.sIf_q, U.ifE_t, U.ifE_f, U.sRet_q, U.sRetV_q, U.rvK_fr, U.rvK_ow, U.sSet_q, U.sTup_q, U.tpK_s, U.sExpr_q, U.sApp_q, U.apK_ow, U.sExt_q, U.xtK_ow, U.sRaise_q, U.sPar2_q, U.sPar3_q, U.p3K_ok, U.eV_q, U.eK_q, U.cV_fr, U.cK_fr, U.cK_ow, U.eC_q, U.e1_q, U.e2_q, U.eL_q, U.eF_q, U.eAnd_q, U.eOr_q, U.eIf_q, U.eTup_q, U.eLst_q, U.eChain_q, U.chK_t, U.chK_f, U.eSl_q, U.bindO_n, U.bindO_s, U.boK_i, U.truth_none, U.truth_bool, U.truth_int, U.truth_list, U.truth_tuple, U.gNot_b, U.gNot_l, U.gNot_t, U.gNot_n, U.gAdd_i, U.gSub_i, U.gNeg_i, U.gLt_i, U.gLe_i, U.gGt_i, U.gGe_i, U.gEq_i, U.gNe_i, U.gIx_l, U.gIx_t, U.bLen_l, U.bLen_t, U.bAbs_i, U.bInt_i, U.bInt_b, U.bTuple_l, U.bTuple_t, U.bList_l, U.bList_t, U.gIsi_it, U.gIsi_ii, U.gIsi_bi, U.iSeq_q, U.iterD_l, U.iterD_t, U.iZip_q, U.zipL_tt, U.zipL_lt, U.zipL_tl, U.zipL_ll, U.iEnum_q, U.enumL_t, U.enumL_l, U.bindT_nm, U.bindT_2, U.bindT_3, U.wipe_nil, U.wipe_cons, U.turnC_n, U.turnC_s, U.atI_zero, U.atI_one, U.bo, U.bn, U.bx, U.blo, U.bln, U.blx, U.lbo, U.lbx, U.llo, U.llx, U.flo, U.fln, U.flx, U.fbn, U.fbr, U.fbm, U.fbx, U.upo, U.upn, U.iTt, U.iTf, U.iFt, U.iFf, U.oRs, U.vRo, U.vRn, List.getElem?_cons_zero, List.getElem?_cons_succ, List.set_cons_zero, List.set_cons_succ, List.length_nil, List.length_cons, List.length_map, Option.bind_some, Option.map_some, if_true, if_false, decide_true, decide_false, Bool.not_true, Bool.not_false, Bool.false_eq_true, ite_true, ite_false] $[$l:location]?)

set_option Elab.async false
set_option linter.all false
set_option maxRecDepth 100000
set_option maxHeartbeats 4000000
set_option exponentiation.threshold 500000
namespace U
open PySem PySem.Spec PyProof.Rows L2
/-! ### the size of a fraction -/
def Sz (n : Nat) (q : Rat) : Prop := q.num.natAbs < 2 ^ n ∧ q.den < 2 ^ n
theorem Sz.mono {n m : Nat} {q : Rat} (h : Sz n q) (le : n ≤ m) : Sz m q := ⟨Nat.lt_of_lt_of_le h.1 (Nat.pow_le_pow_right (by decide) le), Nat.lt_of_lt_of_le h.2 (Nat.pow_le_pow_right (by decide) le)⟩
theorem Sz.mk {n : Nat} {t : Int} {b : Nat} (h0 : b ≠ 0) (ht : t.natAbs < 2 ^ n) (hb : b < 2 ^ n) : Sz n (mkRat t b) := by
  refine ⟨?_, ?_⟩
  · rw [Rat.num_mkRat, if_neg h0]
    exact Nat.lt_of_le_of_lt (Int.natAbs_ediv_le_natAbs _ _) ht
  · rw [Rat.den_mkRat, if_neg h0]
    exact Nat.lt_of_le_of_lt (Nat.div_le_self _ _) hb
theorem lt_mul {a b n m : Nat} (h : a < 2 ^ n) (k : b < 2 ^ m) : a * b < 2 ^ (n + m) := by
  rw [Nat.pow_add]; exact Nat.mul_lt_mul'' h k
theorem Sz.mul {n m : Nat} {x y : Rat} (hx : Sz n x) (hy : Sz m y) : Sz (n + m) (x * y) := by
  rw [Rat.mul_def']
  exact Sz.mk (Nat.mul_ne_zero x.den_nz y.den_nz) (by rw [Int.natAbs_mul]; exact lt_mul hx.1 hy.1) (lt_mul hx.2 hy.2)
theorem Sz.add {n m : Nat} {x y : Rat} (hx : Sz n x) (hy : Sz m y) : Sz (n + m + 1) (x + y) := by
  rw [Rat.add_def']
  have h1 := lt_mul hx.1 hy.2
  have h2 := lt_mul hy.1 hx.2
  have h3 := lt_mul hx.2 hy.2
  have e : m + n = n + m := Nat.add_comm _ _
  rw [e] at h2
  refine Sz.mk (Nat.mul_ne_zero x.den_nz y.den_nz) ?_ ?_
  · refine Nat.lt_of_le_of_lt (Int.natAbs_add_le _ _) ?_
    rw [Int.natAbs_mul, Int.natAbs_mul, Nat.pow_succ]
    simp only [Int.natAbs_natCast]
    omega
  · rw [Nat.pow_succ]; omega
theorem Sz.neg {n : Nat} {x : Rat} (hx : Sz n x) : Sz n (-x) := ⟨by simpa using hx.1, by simpa using hx.2⟩
theorem Sz.sub {n m : Nat} {x y : Rat} (hx : Sz n x) (hy : Sz m y) : Sz (n + m + 1) (x - y) := by
  rw [Rat.sub_eq_add_neg]; exact hx.add hy.neg
theorem Sz.int {n : Nat} {i : Int} (h : i.natAbs < 2 ^ n) (hn : 0 < n := by decide) : Sz n (i : Rat) := ⟨by simpa using h, by
  simp
  omega⟩
/-! ### the laws' own fractions -/
end U
set_option Elab.async false
set_option linter.all false
set_option maxRecDepth 100000
set_option maxHeartbeats 4000000
set_option exponentiation.threshold 500000
namespace U
open PySem PySem.Spec PyProof.Rows L2
/-! ### the draws -/
def cellAt (ns : List Int) (k : Nat) : Int := ns.getD k 0
theorem law_cell_ok (ns : List Int) (k : Nat) : f_law_cell [.list (ns.map .int), .int k] = .ok (.int (cellAt ns k)) := by
  by_cases h : k < ns.length
  · have e : atI (ns.map PyData.int) (k : Int) = some (.int (cellAt ns k)) := by
      rw [atI_nat]; simp [cellAt, h]
    simp [r_law_cell, b_law_cell, fin_nx, fin_rt, fin_rn, fin_ex, frz_nil, frz_cons, frz1_q, fzK_ow, fzK_fr, fzK_un, evs_nil, evs_cons, sSeq_q, sIf_q, ifE_t, ifE_f, sRet_q, sRetV_q, rvK_fr, rvK_ow, sSet_q, sTup_q, tpK_s, sExpr_q, sApp_q, apK_ow, sExt_q, xtK_ow, sRaise_q, sPar2_q, sPar3_q, p3K_ok, eV_q, eK_q, cV_fr, cK_fr, cK_ow, eC_q, e1_q, e2_q, eL_q, eF_q, eAnd_q, eOr_q, eIf_q, eTup_q, eLst_q, eChain_q, chK_t, chK_f, eSl_q, bindO_n, bindO_s, boK_i, truth_none, truth_bool, truth_int, truth_list, truth_tuple, gNot_b, gNot_l, gNot_t, gNot_n, gAdd_i, gSub_i, gNeg_i, gLt_i, gLe_i, gGt_i, gGe_i, gEq_i, gNe_i, gIx_l, gIx_t, bLen_l, bLen_t, bAbs_i, bInt_i, bInt_b, bTuple_l, bTuple_t, bList_l, bList_t, gIsi_it, gIsi_ii, gIsi_bi, iSeq_q, iterD_l, iterD_t, iZip_q, zipL_tt, zipL_lt, zipL_tl, zipL_ll, iEnum_q, enumL_t, enumL_l, bindT_nm, bindT_2, bindT_3, wipe_nil, wipe_cons, turnC_n, turnC_s, atI_zero, atI_one, bo, bn, bx, blo, bln, blx, lbo, lbx, llo, llx, flo, fln, flx, fbn, fbr, fbm, fbx, upo, upn, iTt, iTf, iFt, iFf, oRs, vRo, vRn, List.getElem?_cons_zero, List.getElem?_cons_succ, List.set_cons_zero, List.set_cons_succ, List.length_nil, List.length_cons, List.length_map, Option.bind_some, Option.map_some, if_true, if_false, decide_true, decide_false, Bool.not_true, Bool.not_false, Bool.false_eq_true, ite_true, ite_false, h, e]
  · have e : cellAt ns k = 0 := by
      unfold cellAt; rw [List.getD_eq_getElem?_getD, List.getElem?_eq_none (by omega)]; rfl
    simp [r_law_cell, b_law_cell, fin_nx, fin_rt, fin_rn, fin_ex, frz_nil, frz_cons, frz1_q, fzK_ow, fzK_fr, fzK_un, evs_nil, evs_cons, sSeq_q, sIf_q, ifE_t, ifE_f, sRet_q, sRetV_q, rvK_fr, rvK_ow, sSet_q, sTup_q, tpK_s, sExpr_q, sApp_q, apK_ow, sExt_q, xtK_ow, sRaise_q, sPar2_q, sPar3_q, p3K_ok, eV_q, eK_q, cV_fr, cK_fr, cK_ow, eC_q, e1_q, e2_q, eL_q, eF_q, eAnd_q, eOr_q, eIf_q, eTup_q, eLst_q, eChain_q, chK_t, chK_f, eSl_q, bindO_n, bindO_s, boK_i, truth_none, truth_bool, truth_int, truth_list, truth_tuple, gNot_b, gNot_l, gNot_t, gNot_n, gAdd_i, gSub_i, gNeg_i, gLt_i, gLe_i, gGt_i, gGe_i, gEq_i, gNe_i, gIx_l, gIx_t, bLen_l, bLen_t, bAbs_i, bInt_i, bInt_b, bTuple_l, bTuple_t, bList_l, bList_t, gIsi_it, gIsi_ii, gIsi_bi, iSeq_q, iterD_l, iterD_t, iZip_q, zipL_tt, zipL_lt, zipL_tl, zipL_ll, iEnum_q, enumL_t, enumL_l, bindT_nm, bindT_2, bindT_3, wipe_nil, wipe_cons, turnC_n, turnC_s, atI_zero, atI_one, bo, bn, bx, blo, bln, blx, lbo, lbx, llo, llx, flo, fln, flx, fbn, fbr, fbm, fbx, upo, upn, iTt, iTf, iFt, iFf, oRs, vRo, vRn, List.getElem?_cons_zero, List.getElem?_cons_succ, List.set_cons_zero, List.set_cons_succ, List.length_nil, List.length_cons, List.length_map, Option.bind_some, Option.map_some, if_true, if_false, decide_true, decide_false, Bool.not_true, Bool.not_false, Bool.false_eq_true, ite_true, ite_false, h, e]
theorem fmod_rng (i : Int) {k : Int} (h : 0 < k) : 0 ≤ i.fmod k ∧ i.fmod k < k := ⟨Int.fmod_nonneg_of_pos _ h, Int.fmod_lt_of_pos _ h⟩
end U
set_option Elab.async false
set_option linter.all false
set_option maxRecDepth 100000
set_option maxHeartbeats 4000000
set_option exponentiation.threshold 500000
namespace U
open PySem PySem.Spec PyProof.Rows L2
end U
set_option Elab.async false
set_option linter.all false
set_option maxRecDepth 100000
set_option maxHeartbeats 4000000
namespace U
open PySem PySem.Spec PyProof.Rows L2
def N_check_cells : List Str := ["table", "cells", "cell"]
def C1_check_cells : Sm := eComp (iSeq (eV 1)) (.nm 2) [2] (some (e1 gNot (eF f_is_place [eV 0, eV 2]))) (eV 2)
def b_check_cells : Ss := sSeq (sIf [1, 0, 2, 2] (eOr (e1 gNot (e1 (gIsi .tuple) (eK 1))) (C1_check_cells))
 (sRaise 8)
 (.nx))
 (sIf [] (e2 gNe (eL bList [eK 1]) (eSrp (eK 1)))
 (sRaise 8)
 (.nx))
def f_check_cells : List D → Res := runF 3 b_check_cells
def N_fixed : List Str := ["table", "told", "cells"]
def b_fixed : Ss := sSeq (sExpr [0] (eF f_check_table [eV 0]))
 (sSeq (sExpr [0, 1] (eF f_check_told [eV 0, eV 1]))
 (sSeq (sExpr [0, 2] (eF f_check_cells [eV 0, eV 2]))
 (sRet [0, 1, 2] (eF f_fixed_at [eV 0, eV 1, eV 2]))))
def f_fixed : List D → Res := runF 3 b_fixed
def N_row_text : List Str := ["row", "cell"]
def C1_row_text : Sm := eComp (iSeq (eV 0)) (.nm 1) [1] none (eF f_cell_text [eV 1])
def b_row_text : Ss := sRet [0, 1] (eJn (eC (.str " ")) (C1_row_text))
def f_row_text : List D → Res := runF 2 b_row_text
def N_table_text : List Str := ["table", "row"]
def C1_table_text : Sm := eComp (iSeq (eV 0)) (.nm 1) [1] none (eF f_row_text [eV 1])
def b_table_text : Ss := sRet [0, 1] (eJn (eC (.str "; ")) (C1_table_text))
def f_table_text : List D → Res := runF 2 b_table_text
def N_cell_of : List Str := ["word", "numbers", "piece"]
def C1_cell_of : Sm := eComp (iSeq (eSpl (eK 0) (eC (.str "..")))) (.nm 2) [2] none (eF f_number_of [eV 2])
def b_cell_of : Ss := sSeq (sSet 1 [2] (C1_cell_of))
 (sSeq (sIf [] (eOr (e2 gGt (eL bLen [eK 1]) (eC (.int 2))) (e2 gIn (eC .none) (eK 1)))
 (sRet [] (eC .none))
 (.nx))
 (sRet [] (eTup [e2 gIx (eK 1) (eC (.int 0)), e2 gIx (eK 1) (e1 gNeg (eC (.int 1)))])))
def f_cell_of : List D → Res := runF 3 b_cell_of
def N_row_of : List Str := ["text", "cells", "word"]
def C1_row_of : Sm := eComp (iSeq (eSpl (eK 0) (eC (.str " ")))) (.nm 2) [2] none (eF f_cell_of [eV 2])
def b_row_of : Ss := sSeq (sSet 1 [2] (C1_row_of))
 (sRet [] (eIf (e2 gIn (eC .none) (eK 1)) (eC .none) (eL bTuple [eK 1])))
def f_row_of : List D → Res := runF 3 b_row_of
def N_parse_table : List Str := ["text", "rows", "line"]
def C1_parse_table : Sm := eComp (iSeq (eSpl (eK 0) (eC (.str "; ")))) (.nm 2) [2] none (eF f_row_of [eV 2])
def b_parse_table : Ss := sSeq (sSet 1 [2] (eIf (eAnd (e1 (gIsi .str) (eK 0)) (e2 gLt (eL bLen [eK 0]) (eC (.int 200)))) (C1_parse_table) (eLst [eC .none])))
 (sSeq (sIf [1] (eOr (e2 gIn (eC .none) (eK 1)) (eOr (e1 gNot (eF f_is_table [eL bTuple [eK 1]])) (e2 gNe (eF f_table_text [eV 1]) (eK 0))))
 (sRaise 18)
 (.nx))
 (sRet [] (eL bTuple [eK 1])))
def f_parse_table : List D → Res := runF 3 b_parse_table
def N_end_choices_of : List Str := ["table"]
def b_end_choices_of : Ss := sSeq (sExpr [0] (eF f_check_table [eV 0]))
 (sSeq (sIf [0] (e2 gGt (eL bLen [eF f_open_places [eV 0]]) (eC (.int 8)))
 (sRaise 16)
 (.nx))
 (sRet [0] (eSrtL (eF f_end_choices [eV 0]))))
def f_end_choices_of : List D → Res := runF 1 b_end_choices_of
def N_Workbook_undo : List Str := ["self"]
def b_Workbook_undo : Ss := sSeq (sIf [] (e1 gNot (eFK 101 0 2))
 (sRaise 17)
 (.nx))
 (sSeq (sBad)
 (sBad))
def p_undoW : List D → List D → Res := runPX 1 101 b_Workbook_undo
def N_law_raise_more : List Str := ["mode", "table", "side"]
def b_law_raise_more : Ss := sSeq (sIf [] (e2 gEq (eK 0) (eC (.int 9)))
 (sRet [] (eF f_inverse_span [eTup [eTup [eTup [eC (.int 0), eC (.int 1)]]], eC (.int 0), eC (.int 0)]))
 (.nx))
 (sSeq (sIf [] (e2 gEq (eK 0) (eC (.int 10)))
 (sRet [1] (eF f_singular_choice [eV 1]))
 (.nx))
 (sSeq (sIf [] (e2 gEq (eK 0) (eC (.int 11)))
 (sRet [1, 2] (eF f_papers [eV 1, eV 2]))
 (.nx))
 (sSeq (sIf [] (e2 gEq (eK 0) (eC (.int 12)))
 (sRet [] (eF f_a_solution [eTup [eTup [eTup [eC (.int 0), eC (.int 0)]]], eTup [eTup [eC (.int 1), eC (.int 1)]]]))
 (.nx))
 (sSeq (sIf [] (e2 gEq (eK 0) (eC (.int 13)))
 (sRet [] (eF f_overlap [eTup [eTup [eTup [eC (.int 0), eC (.int 1)]]], eTup [eTup [eTup [eC (.int 2), eC (.int 3)]]]]))
 (.nx))
 (sSeq (sIf [] (e2 gEq (eK 0) (eC (.int 14)))
 (sRet [1] (eF f_plus [eV 1, eSl (eK 1) none (some (eC (.int 1)))]))
 (.nx))
 (sSeq (sIf [] (e2 gEq (eK 0) (eC (.int 15)))
 (sRet [] (eF f_end_choices_of [e2 gMul (eTup [e2 gMul (eTup [eTup [eC (.int 0), eC (.int 1)]]) (eC (.int 3))]) (eC (.int 3))]))
 (.nx))
 (sRet [1, 2] (eIf (e2 gEq (eK 0) (eC (.int 16))) (eWU f_check_system p_undoW [eV 1, eV 2]) (eF f_parse_table [eC (.str "")])))))))))
def f_law_raise_more : List D → Res := runF 3 b_law_raise_more
def N_law_raise : List Str := ["mode", "table", "side"]
def b_law_raise : Ss := sSeq (sTup [1, 2] [] (eTup [eTup [eTup [eTup [eC (.int 1), eC (.int 2)], eTup [eC (.int 0), eC (.int 1)]], eTup [eTup [eC (.int 0), eC (.int 0)], eTup [eC (.int 1), eC (.int 1)]]], eTup [eTup [eC (.int 0), eC (.int 1)], eTup [eC (.int 2), eC (.int 2)]]]))
 (sSeq (sIf [] (e2 gEq (eK 0) (eC (.int 0)))
 (sRet [] (eF f_is_sure [eC .none]))
 (.nx))
 (sSeq (sIf [] (e2 gEq (eK 0) (eC (.int 1)))
 (sRet [1] (eF f_can_solve [eV 1, eC .none]))
 (.nx))
 (sSeq (sIf [] (e2 gEq (eK 0) (eC (.int 2)))
 (sRet [1, 2] (eF f_solves_some [eV 1, eV 2, eC .none]))
 (.nx))
 (sSeq (sIf [] (e2 gEq (eK 0) (eC (.int 3)))
 (sRet [1] (eF f_determinant [eV 1, eC .none]))
 (.nx))
 (sSeq (sIf [] (e2 gEq (eK 0) (eC (.int 4)))
 (sRet [1] (eF f_corner [eV 1, eC .none, eC .none]))
 (.nx))
 (sSeq (sIf [] (e2 gEq (eK 0) (eC (.int 5)))
 (sRet [1, 2] (eF f_unknown_span [eV 1, eV 2, eC (.int 2)]))
 (.nx))
 (sSeq (sIf [] (e2 gEq (eK 0) (eC (.int 6)))
 (sRet [1] (eF f_widened [eV 1, eC (.int 21)]))
 (.nx))
 (sSeq (sIf [] (e2 gEq (eK 0) (eC (.int 7)))
 (sRet [1] (eF f_fixed [eV 1, eTup [eTup [eC (.int 1), eC (.int 0)], eTup [eC (.int 0), eC (.int 1)]], eC .none]))
 (.nx))
 (sSeq (sIf [] (e2 gEq (eK 0) (eC (.int 8)))
 (sRet [] (eF f_is_sure [eSl (eK 1) none (some (eC (.int 1)))]))
 (.nx))
 (sRet [0, 1, 2] (eF f_law_raise_more [eV 0, eV 1, eV 2])))))))))))
def f_law_raise : List D → Res := runF 3 b_law_raise
def N_law : List Str := ["script", "mode", "found", "is_under", "e", "at"]
def C1_law : Sm := eComp (iR1 (eC (.int 18))) (.nm 5) [5] none (e2 gEq (eK 5) (eK 1))
def R4_law : Ss := sRet [3] (eAnd (eV 3) (e2 gEq (eK 2) (C1_law)))
def R3_law : Ss := sSeq (sTryU sub0 [0, 1, 2, 3, 4, 5, 6, 7, 8, 9, 10, 11, 12, 13, 14, 15, 16, 17, 18] (sExpr [1] (eF f_law_raise [eV 1])) 0 4 2 3 [(xIs sub0 1), (xIs sub0 2), (xIs sub0 3), (xIs sub0 4), (xIs sub0 5), (xIs sub0 6), (xIs sub0 7), (xIs sub0 8), (xIs sub0 9), (xIs sub0 10), (xIs sub0 11), (xIs sub0 12), (xIs sub0 13), (xIs sub0 14), (xIs sub0 15), (xIs sub0 16), (xIs sub0 17), (xIs sub0 18)] (xC (.bl true)))
 (R4_law)
def R2_law : Ss := sSeq (sSet 3 [] (eC (.bool false)))
 (R3_law)
def R1_law : Ss := sSeq (sSet 2 [] (eLst []))
 (R2_law)
def b_law : Ss := sSeq (sSet 1 [0] (e2 gMod (eF f_law_cell [eV 0, eC (.int 0)]) (eC (.int 18))))
 (R1_law)
def f_law : List D → Res := runF 6 b_law
theorem r_law (x0 : D) : f_law [x0] = fin (b_law [.fr x0, .un, .un, .un, .un, .un]) := runF_eq rfl
end U
set_option Elab.async false
set_option linter.all false
set_option maxRecDepth 100000
set_option maxHeartbeats 4000000
namespace U
open PySem PySem.Spec PyProof.Rows L2
theorem run_0 (S : D) : R1_law [.fr S, .fr (.int 0), .un, .un, .un, .un] = .rt (.bool true) := by kernel_rfl
theorem run_1 (S : D) : R1_law [.fr S, .fr (.int 1), .un, .un, .un, .un] = .rt (.bool true) := by kernel_rfl
theorem run_2 (S : D) : R1_law [.fr S, .fr (.int 2), .un, .un, .un, .un] = .rt (.bool true) := by kernel_rfl
theorem run_3 (S : D) : R1_law [.fr S, .fr (.int 3), .un, .un, .un, .un] = .rt (.bool true) := by kernel_rfl
theorem run_4 (S : D) : R1_law [.fr S, .fr (.int 4), .un, .un, .un, .un] = .rt (.bool true) := by kernel_rfl
theorem run_5 (S : D) : R1_law [.fr S, .fr (.int 5), .un, .un, .un, .un] = .rt (.bool true) := by kernel_rfl
theorem run_6 (S : D) : R1_law [.fr S, .fr (.int 6), .un, .un, .un, .un] = .rt (.bool true) := by kernel_rfl
theorem run_7 (S : D) : R1_law [.fr S, .fr (.int 7), .un, .un, .un, .un] = .rt (.bool true) := by kernel_rfl
theorem run_8 (S : D) : R1_law [.fr S, .fr (.int 8), .un, .un, .un, .un] = .rt (.bool true) := by kernel_rfl
theorem run_9 (S : D) : R1_law [.fr S, .fr (.int 9), .un, .un, .un, .un] = .rt (.bool true) := by kernel_rfl
theorem run_10 (S : D) : R1_law [.fr S, .fr (.int 10), .un, .un, .un, .un] = .rt (.bool true) := by kernel_rfl
theorem run_11 (S : D) : R1_law [.fr S, .fr (.int 11), .un, .un, .un, .un] = .rt (.bool true) := by kernel_rfl
theorem run_12 (S : D) : R1_law [.fr S, .fr (.int 12), .un, .un, .un, .un] = .rt (.bool true) := by kernel_rfl
theorem run_13 (S : D) : R1_law [.fr S, .fr (.int 13), .un, .un, .un, .un] = .rt (.bool true) := by kernel_rfl
theorem run_14 (S : D) : R1_law [.fr S, .fr (.int 14), .un, .un, .un, .un] = .rt (.bool true) := by kernel_rfl
theorem run_15 (S : D) : R1_law [.fr S, .fr (.int 15), .un, .un, .un, .un] = .rt (.bool true) := by kernel_rfl
theorem run_16 (S : D) : R1_law [.fr S, .fr (.int 16), .un, .un, .un, .un] = .rt (.bool true) := by kernel_rfl
theorem run_17 (S : D) : R1_law [.fr S, .fr (.int 17), .un, .un, .un, .un] = .rt (.bool true) := by kernel_rfl
theorem holds : ∀ ns : List Int, ns.length ≤ 63 → f_law [.list (ns.map .int)] = .ok (.bool true) := by
  intro ns _
  obtain ⟨c, hc⟩ : ∃ c, f_law_cell [.list (ns.map .int), .int ((0 : Nat) : Int)] = .ok (.int c) := ⟨_, law_cell_ok ns 0⟩
  have hc : f_law_cell [.list (ns.map .int), .int 0] = .ok (.int c) := hc
  have rg := fmod_rng c (k := 18) (by decide)
  have key : ∀ j : Int, 0 ≤ j → j < 18 → ∀ S, R1_law [.fr S, .fr (.int j), .un, .un, .un, .un] = .rt (.bool true) := fun j h0 h1 S => by
    have : j = 0 ∨ j = 1 ∨ j = 2 ∨ j = 3 ∨ j = 4 ∨ j = 5 ∨ j = 6 ∨ j = 7 ∨ j = 8 ∨ j = 9 ∨ j = 10 ∨ j = 11 ∨ j = 12 ∨ j = 13 ∨ j = 14 ∨ j = 15 ∨ j = 16 ∨ j = 17 := by omega
    rcases this with rfl | rfl | rfl | rfl | rfl | rfl | rfl | rfl | rfl | rfl | rfl | rfl | rfl | rfl | rfl | rfl | rfl | rfl
    · exact run_0 S
    · exact run_1 S
    · exact run_2 S
    · exact run_3 S
    · exact run_4 S
    · exact run_5 S
    · exact run_6 S
    · exact run_7 S
    · exact run_8 S
    · exact run_9 S
    · exact run_10 S
    · exact run_11 S
    · exact run_12 S
    · exact run_13 S
    · exact run_14 S
    · exact run_15 S
    · exact run_16 S
    · exact run_17 S
  have k := key _ rg.1 rg.2 (.list (ns.map .int))
  simp only [EV0, r_law, b_law, hc, gMod_i (show (18 : Int) ≠ 0 by decide), k]
end U
set_option Elab.async false
set_option linter.all false
set_option maxRecDepth 100000
set_option maxHeartbeats 4000000
namespace U
open PySem PySem.Spec PyProof.Rows L2
theorem foP : ∀ f ∈ faO "Program" (flN 100) ["change", "drop_helpers", "bounds_before", "bound", "next_column", "lower"], f ∈ fo := fun f h => List.mem_append_left _ h
theorem foW : ∀ f ∈ faO "Workbook" (flN 101) ["undo"], f ∈ fo := fun f h => List.mem_append_right _ h
def msP : List Str := ["change", "drop_helpers", "bounds_before", "bound", "next_column", "lower"]
section
variable {P : Program} {w : World} {h : Heap} {K : PySem.W.Frag} {mg : Str → Option Value} {base : Heap}
theorem k_clf (X : K.In h) (c : He.SaysX (faU T ds ++ fo) fn [] [] (exU T) w h K) : ClF K (T.cv K) 100 := clf_of2 (ms := msP) foP rfl c
theorem s_Program_init : FnScope ["self", "rows", "own", "costs"] ["self", "rows", "own", "costs"] (defScope (mth 74 0)) := ⟨rfl, rfl, rfl, by decide +kernel, rfl, by decide +kernel, by decide +kernel⟩
theorem k_Program (X : K.In h) (G : h.Ns mainGlobals mg) (c : He.SaysX (faU T ds ++ fo) fn [] [] (exU T) w h K) : MtOk P w K mg base (T.cv K) 2 ("Program", 100, 0, .mk) := by
  obtain ⟨fd, F⟩ := defM_of c (c := "Program") (m := "__init__") (st := mth 74 0) (List.mem_of_getElem? (i := 91) rfl)
  obtain ⟨c1, c2⟩ := mkr_of2 (k := 100) (ms := msP) foP X G c
  exact ⟨_, _, fd, _, 1, by decide, rfl, c1, c2, in_ok F s_Program_init rfl (k_clf X c) rfl (by decide +kernel) (by decide +kernel), F.bindsN (fun _ _ _ _ _ _ us hl => match us, hl with | [_, _, _, _], _ => rfl)⟩
theorem s_in_range : FnScope N_in_range ["value", "low", "high"] (defScope (top 22)) := ⟨rfl, rfl, rfl, by decide +kernel, rfl, by decide +kernel, by decide +kernel⟩
theorem t_in_range : (tr12 (T.s N_in_range 0 []) (defScope (top 22)) (defBody (top 22))).map (·.m) = some b_in_range := by kernel_rfl
theorem k_in_range (X : K.In h) (G : h.Ns mainGlobals mg) (c : He.SaysX (faU T ds ++ fo) fn [] [] (exU T) w h K) : Kp P w K mg base (T.cv K) 1 "in_range" 3 f_in_range := by
  obtain ⟨fd, F⟩ := def_of c (x := "in_range") (st := top 22) (List.mem_of_getElem? (i := 0) rfl)
  exact kp_ofO F (glo_of X G c (List.mem_of_getElem? (i := 0) rfl)) (bs_of rfl rfl X G c) s_in_range rfl (fun _ _ _ _ _ _ us hl => match us, hl with | [_, _, _], _ => rfl) _ t_in_range rfl trivial
theorem s_common_divisor : FnScope N_common_divisor ["one", "other"] (defScope (top 23)) := ⟨rfl, rfl, rfl, by decide +kernel, rfl, by decide +kernel, by decide +kernel⟩
theorem t_common_divisor : (tr12 (T.s N_common_divisor 0 []) (defScope (top 23)) (defBody (top 23))).map (·.m) = some b_common_divisor := by kernel_rfl
theorem k_common_divisor (X : K.In h) (G : h.Ns mainGlobals mg) (c : He.SaysX (faU T ds ++ fo) fn [] [] (exU T) w h K) : Kp P w K mg base (T.cv K) 1 "common_divisor" 2 f_common_divisor := by
  obtain ⟨fd, F⟩ := def_of c (x := "common_divisor") (st := top 23) (List.mem_of_getElem? (i := 1) rfl)
  exact kp_ofO F (glo_of X G c (List.mem_of_getElem? (i := 1) rfl)) (bs_of rfl rfl X G c) s_common_divisor rfl (fun _ _ _ _ _ _ us hl => match us, hl with | [_, _], _ => rfl) _ t_common_divisor rfl trivial
theorem s_part : FnScope N_part ["top", "bottom"] (defScope (top 24)) := ⟨rfl, rfl, rfl, by decide +kernel, rfl, by decide +kernel, by decide +kernel⟩
theorem t_part : (tr12 (T.s N_part 1 [("common_divisor", 2, f_common_divisor)]) (defScope (top 24)) (defBody (top 24))).map (·.m) = some b_part := by kernel_rfl
theorem k_part (X : K.In h) (G : h.Ns mainGlobals mg) (c : He.SaysX (faU T ds ++ fo) fn [] [] (exU T) w h K) : Kp P w K mg base (T.cv K) 2 "part" 2 f_part := by
  obtain ⟨fd, F⟩ := def_of c (x := "part") (st := top 24) (List.mem_of_getElem? (i := 2) rfl)
  exact kp_ofO F (glo_of X G c (List.mem_of_getElem? (i := 2) rfl)) (bs_of rfl rfl X G c) s_part rfl (fun _ _ _ _ _ _ us hl => match us, hl with | [_, _], _ => rfl) _ t_part rfl ⟨(k_common_divisor X G c).mono (by decide), trivial⟩
theorem s_is_part : FnScope N_is_part ["value"] (defScope (top 25)) := ⟨rfl, rfl, rfl, by decide +kernel, rfl, by decide +kernel, by decide +kernel⟩
theorem t_is_part : (tr12 (T.s N_is_part 1 [("common_divisor", 2, f_common_divisor)]) (defScope (top 25)) (defBody (top 25))).map (·.m) = some b_is_part := by kernel_rfl
theorem k_is_part (X : K.In h) (G : h.Ns mainGlobals mg) (c : He.SaysX (faU T ds ++ fo) fn [] [] (exU T) w h K) : Kp P w K mg base (T.cv K) 2 "is_part" 1 f_is_part := by
  obtain ⟨fd, F⟩ := def_of c (x := "is_part") (st := top 25) (List.mem_of_getElem? (i := 3) rfl)
  exact kp_ofO F (glo_of X G c (List.mem_of_getElem? (i := 3) rfl)) (bs_of rfl rfl X G c) s_is_part rfl (fun _ _ _ _ _ _ us hl => match us, hl with | [_], _ => rfl) _ t_is_part rfl ⟨(k_common_divisor X G c).mono (by decide), trivial⟩
theorem s_added : FnScope N_added ["one", "other"] (defScope (top 26)) := ⟨rfl, rfl, rfl, by decide +kernel, rfl, by decide +kernel, by decide +kernel⟩
theorem t_added : (tr12 (T.s N_added 2 [("part", 2, f_part)]) (defScope (top 26)) (defBody (top 26))).map (·.m) = some b_added := by kernel_rfl
theorem k_added (X : K.In h) (G : h.Ns mainGlobals mg) (c : He.SaysX (faU T ds ++ fo) fn [] [] (exU T) w h K) : Kp P w K mg base (T.cv K) 3 "added" 2 f_added := by
  obtain ⟨fd, F⟩ := def_of c (x := "added") (st := top 26) (List.mem_of_getElem? (i := 4) rfl)
  exact kp_ofO F (glo_of X G c (List.mem_of_getElem? (i := 4) rfl)) (bs_of rfl rfl X G c) s_added rfl (fun _ _ _ _ _ _ us hl => match us, hl with | [_, _], _ => rfl) _ t_added rfl ⟨(k_part X G c).mono (by decide), trivial⟩
theorem s_taken : FnScope N_taken ["one", "other"] (defScope (top 27)) := ⟨rfl, rfl, rfl, by decide +kernel, rfl, by decide +kernel, by decide +kernel⟩
theorem t_taken : (tr12 (T.s N_taken 2 [("part", 2, f_part)]) (defScope (top 27)) (defBody (top 27))).map (·.m) = some b_taken := by kernel_rfl
theorem k_taken (X : K.In h) (G : h.Ns mainGlobals mg) (c : He.SaysX (faU T ds ++ fo) fn [] [] (exU T) w h K) : Kp P w K mg base (T.cv K) 3 "taken" 2 f_taken := by
  obtain ⟨fd, F⟩ := def_of c (x := "taken") (st := top 27) (List.mem_of_getElem? (i := 5) rfl)
  exact kp_ofO F (glo_of X G c (List.mem_of_getElem? (i := 5) rfl)) (bs_of rfl rfl X G c) s_taken rfl (fun _ _ _ _ _ _ us hl => match us, hl with | [_, _], _ => rfl) _ t_taken rfl ⟨(k_part X G c).mono (by decide), trivial⟩
theorem s_multiplied : FnScope N_multiplied ["one", "other"] (defScope (top 28)) := ⟨rfl, rfl, rfl, by decide +kernel, rfl, by decide +kernel, by decide +kernel⟩
theorem t_multiplied : (tr12 (T.s N_multiplied 2 [("part", 2, f_part)]) (defScope (top 28)) (defBody (top 28))).map (·.m) = some b_multiplied := by kernel_rfl
theorem k_multiplied (X : K.In h) (G : h.Ns mainGlobals mg) (c : He.SaysX (faU T ds ++ fo) fn [] [] (exU T) w h K) : Kp P w K mg base (T.cv K) 3 "multiplied" 2 f_multiplied := by
  obtain ⟨fd, F⟩ := def_of c (x := "multiplied") (st := top 28) (List.mem_of_getElem? (i := 6) rfl)
  exact kp_ofO F (glo_of X G c (List.mem_of_getElem? (i := 6) rfl)) (bs_of rfl rfl X G c) s_multiplied rfl (fun _ _ _ _ _ _ us hl => match us, hl with | [_, _], _ => rfl) _ t_multiplied rfl ⟨(k_part X G c).mono (by decide), trivial⟩
theorem s_shared : FnScope N_shared ["one", "other"] (defScope (top 29)) := ⟨rfl, rfl, rfl, by decide +kernel, rfl, by decide +kernel, by decide +kernel⟩
theorem t_shared : (tr12 (T.s N_shared 2 [("part", 2, f_part)]) (defScope (top 29)) (defBody (top 29))).map (·.m) = some b_shared := by kernel_rfl
theorem k_shared (X : K.In h) (G : h.Ns mainGlobals mg) (c : He.SaysX (faU T ds ++ fo) fn [] [] (exU T) w h K) : Kp P w K mg base (T.cv K) 3 "shared" 2 f_shared := by
  obtain ⟨fd, F⟩ := def_of c (x := "shared") (st := top 29) (List.mem_of_getElem? (i := 7) rfl)
  exact kp_ofO F (glo_of X G c (List.mem_of_getElem? (i := 7) rfl)) (bs_of rfl rfl X G c) s_shared rfl (fun _ _ _ _ _ _ us hl => match us, hl with | [_, _], _ => rfl) _ t_shared rfl ⟨(k_part X G c).mono (by decide), trivial⟩
theorem s_below : FnScope N_below ["one", "other"] (defScope (top 30)) := ⟨rfl, rfl, rfl, by decide +kernel, rfl, by decide +kernel, by decide +kernel⟩
theorem t_below : (tr12 (T.s N_below 0 []) (defScope (top 30)) (defBody (top 30))).map (·.m) = some b_below := by kernel_rfl
theorem k_below (X : K.In h) (G : h.Ns mainGlobals mg) (c : He.SaysX (faU T ds ++ fo) fn [] [] (exU T) w h K) : Kp P w K mg base (T.cv K) 1 "below" 2 f_below := by
  obtain ⟨fd, F⟩ := def_of c (x := "below") (st := top 30) (List.mem_of_getElem? (i := 8) rfl)
  exact kp_ofO F (glo_of X G c (List.mem_of_getElem? (i := 8) rfl)) (bs_of rfl rfl X G c) s_below rfl (fun _ _ _ _ _ _ us hl => match us, hl with | [_, _], _ => rfl) _ t_below rfl trivial
theorem s_all_signs : FnScope N_all_signs ["count"] (defScope (top 31)) := ⟨rfl, rfl, rfl, by decide +kernel, rfl, by decide +kernel, by decide +kernel⟩
theorem t_all_signs : (tr12 (T.s N_all_signs 0 []) (defScope (top 31)) (defBody (top 31))).map (·.m) = some b_all_signs := by kernel_rfl
theorem k_all_signs (X : K.In h) (G : h.Ns mainGlobals mg) (c : He.SaysX (faU T ds ++ fo) fn [] [] (exU T) w h K) : Kp P w K mg base (T.cv K) 1 "all_signs" 1 f_all_signs := by
  obtain ⟨fd, F⟩ := def_of c (x := "all_signs") (st := top 31) (List.mem_of_getElem? (i := 9) rfl)
  exact kp_ofO F (glo_of X G c (List.mem_of_getElem? (i := 9) rfl)) (bs_of rfl rfl X G c) s_all_signs rfl (fun _ _ _ _ _ _ us hl => match us, hl with | [_], _ => rfl) _ t_all_signs rfl trivial
theorem s_is_cell : FnScope N_is_cell ["value", "limit"] (defScope (top 34)) := ⟨rfl, rfl, rfl, by decide +kernel, rfl, by decide +kernel, by decide +kernel⟩
theorem t_is_cell : (tr12 (T.s N_is_cell 1 [("in_range", 3, f_in_range)]) (defScope (top 34)) (defBody (top 34))).map (·.m) = some b_is_cell := by kernel_rfl
theorem k_is_cell (X : K.In h) (G : h.Ns mainGlobals mg) (c : He.SaysX (faU T ds ++ fo) fn [] [] (exU T) w h K) : Kp P w K mg base (T.cv K) 2 "is_cell" 2 f_is_cell := by
  obtain ⟨fd, F⟩ := def_of c (x := "is_cell") (st := top 34) (List.mem_of_getElem? (i := 10) rfl)
  exact kp_ofO F (glo_of X G c (List.mem_of_getElem? (i := 10) rfl)) (bs_of rfl rfl X G c) s_is_cell rfl (fun _ _ _ _ _ _ us hl => match us, hl with | [_, _], _ => rfl) _ t_is_cell rfl ⟨(k_in_range X G c).mono (by decide), trivial⟩
theorem s_is_table : FnScope N_is_table ["value"] (defScope (top 35)) := ⟨rfl, rfl, rfl, by decide +kernel, rfl, by decide +kernel, by decide +kernel⟩
theorem t_is_table : (tr12 (T.s N_is_table 2 [("is_cell", 2, f_is_cell)]) (defScope (top 35)) (defBody (top 35))).map (·.m) = some b_is_table := by kernel_rfl
theorem k_is_table (X : K.In h) (G : h.Ns mainGlobals mg) (c : He.SaysX (faU T ds ++ fo) fn [] [] (exU T) w h K) : Kp P w K mg base (T.cv K) 3 "is_table" 1 f_is_table := by
  obtain ⟨fd, F⟩ := def_of c (x := "is_table") (st := top 35) (List.mem_of_getElem? (i := 11) rfl)
  exact kp_ofO F (glo_of X G c (List.mem_of_getElem? (i := 11) rfl)) (bs_of rfl rfl X G c) s_is_table rfl (fun _ _ _ _ _ _ us hl => match us, hl with | [_], _ => rfl) _ t_is_table rfl ⟨(k_is_cell X G c).mono (by decide), trivial⟩
theorem s_is_side : FnScope N_is_side ["value"] (defScope (top 36)) := ⟨rfl, rfl, rfl, by decide +kernel, rfl, by decide +kernel, by decide +kernel⟩
theorem t_is_side : (tr12 (T.s N_is_side 2 [("is_cell", 2, f_is_cell)]) (defScope (top 36)) (defBody (top 36))).map (·.m) = some b_is_side := by kernel_rfl
theorem k_is_side (X : K.In h) (G : h.Ns mainGlobals mg) (c : He.SaysX (faU T ds ++ fo) fn [] [] (exU T) w h K) : Kp P w K mg base (T.cv K) 3 "is_side" 1 f_is_side := by
  obtain ⟨fd, F⟩ := def_of c (x := "is_side") (st := top 36) (List.mem_of_getElem? (i := 12) rfl)
  exact kp_ofO F (glo_of X G c (List.mem_of_getElem? (i := 12) rfl)) (bs_of rfl rfl X G c) s_is_side rfl (fun _ _ _ _ _ _ us hl => match us, hl with | [_], _ => rfl) _ t_is_side rfl ⟨(k_is_cell X G c).mono (by decide), trivial⟩
theorem s_check_table : FnScope N_check_table ["table"] (defScope (top 37)) := ⟨rfl, rfl, rfl, by decide +kernel, rfl, by decide +kernel, by decide +kernel⟩
theorem t_check_table : (tr12 (T.s N_check_table 3 [("is_table", 1, f_is_table)]) (defScope (top 37)) (defBody (top 37))).map (·.m) = some b_check_table := by kernel_rfl
theorem k_check_table (X : K.In h) (G : h.Ns mainGlobals mg) (c : He.SaysX (faU T ds ++ fo) fn [] [] (exU T) w h K) : Kp P w K mg base (T.cv K) 4 "check_table" 1 f_check_table := by
  obtain ⟨fd, F⟩ := def_of c (x := "check_table") (st := top 37) (List.mem_of_getElem? (i := 13) rfl)
  exact kp_ofO F (glo_of X G c (List.mem_of_getElem? (i := 13) rfl)) (bs_of rfl rfl X G c) s_check_table rfl (fun _ _ _ _ _ _ us hl => match us, hl with | [_], _ => rfl) _ t_check_table rfl ⟨(k_is_table X G c).mono (by decide), trivial⟩
theorem s_check_square : FnScope N_check_square ["table"] (defScope (top 38)) := ⟨rfl, rfl, rfl, by decide +kernel, rfl, by decide +kernel, by decide +kernel⟩
theorem t_check_square : (tr12 (T.s N_check_square 4 [("check_table", 1, f_check_table)]) (defScope (top 38)) (defBody (top 38))).map (·.m) = some b_check_square := by kernel_rfl
theorem k_check_square (X : K.In h) (G : h.Ns mainGlobals mg) (c : He.SaysX (faU T ds ++ fo) fn [] [] (exU T) w h K) : Kp P w K mg base (T.cv K) 5 "check_square" 1 f_check_square := by
  obtain ⟨fd, F⟩ := def_of c (x := "check_square") (st := top 38) (List.mem_of_getElem? (i := 14) rfl)
  exact kp_ofO F (glo_of X G c (List.mem_of_getElem? (i := 14) rfl)) (bs_of rfl rfl X G c) s_check_square rfl (fun _ _ _ _ _ _ us hl => match us, hl with | [_], _ => rfl) _ t_check_square rfl ⟨(k_check_table X G c).mono (by decide), trivial⟩
theorem s_check_system : FnScope N_check_system ["table", "side"] (defScope (top 39)) := ⟨rfl, rfl, rfl, by decide +kernel, rfl, by decide +kernel, by decide +kernel⟩
theorem t_check_system : (tr12 (T.s N_check_system 4 [("check_table", 1, f_check_table), ("is_side", 1, f_is_side)]) (defScope (top 39)) (defBody (top 39))).map (·.m) = some b_check_system := by kernel_rfl
theorem k_check_system (X : K.In h) (G : h.Ns mainGlobals mg) (c : He.SaysX (faU T ds ++ fo) fn [] [] (exU T) w h K) : Kp P w K mg base (T.cv K) 5 "check_system" 2 f_check_system := by
  obtain ⟨fd, F⟩ := def_of c (x := "check_system") (st := top 39) (List.mem_of_getElem? (i := 15) rfl)
  exact kp_ofO F (glo_of X G c (List.mem_of_getElem? (i := 15) rfl)) (bs_of rfl rfl X G c) s_check_system rfl (fun _ _ _ _ _ _ us hl => match us, hl with | [_, _], _ => rfl) _ t_check_system rfl ⟨(k_check_table X G c).mono (by decide), (k_is_side X G c).mono (by decide), trivial⟩
theorem s_are_unknowns : FnScope N_are_unknowns ["table", "value"] (defScope (top 40)) := ⟨rfl, rfl, rfl, by decide +kernel, rfl, by decide +kernel, by decide +kernel⟩
theorem t_are_unknowns : (tr12 (T.s N_are_unknowns 2 [("is_part", 1, f_is_part)]) (defScope (top 40)) (defBody (top 40))).map (·.m) = some b_are_unknowns := by kernel_rfl
theorem k_are_unknowns (X : K.In h) (G : h.Ns mainGlobals mg) (c : He.SaysX (faU T ds ++ fo) fn [] [] (exU T) w h K) : Kp P w K mg base (T.cv K) 3 "are_unknowns" 2 f_are_unknowns := by
  obtain ⟨fd, F⟩ := def_of c (x := "are_unknowns") (st := top 40) (List.mem_of_getElem? (i := 16) rfl)
  exact kp_ofO F (glo_of X G c (List.mem_of_getElem? (i := 16) rfl)) (bs_of rfl rfl X G c) s_are_unknowns rfl (fun _ _ _ _ _ _ us hl => match us, hl with | [_, _], _ => rfl) _ t_are_unknowns rfl ⟨(k_is_part X G c).mono (by decide), trivial⟩
theorem s_check_unknowns : FnScope N_check_unknowns ["table", "unknowns"] (defScope (top 41)) := ⟨rfl, rfl, rfl, by decide +kernel, rfl, by decide +kernel, by decide +kernel⟩
theorem t_check_unknowns : (tr12 (T.s N_check_unknowns 3 [("are_unknowns", 2, f_are_unknowns)]) (defScope (top 41)) (defBody (top 41))).map (·.m) = some b_check_unknowns := by kernel_rfl
theorem k_check_unknowns (X : K.In h) (G : h.Ns mainGlobals mg) (c : He.SaysX (faU T ds ++ fo) fn [] [] (exU T) w h K) : Kp P w K mg base (T.cv K) 4 "check_unknowns" 2 f_check_unknowns := by
  obtain ⟨fd, F⟩ := def_of c (x := "check_unknowns") (st := top 41) (List.mem_of_getElem? (i := 17) rfl)
  exact kp_ofO F (glo_of X G c (List.mem_of_getElem? (i := 17) rfl)) (bs_of rfl rfl X G c) s_check_unknowns rfl (fun _ _ _ _ _ _ us hl => match us, hl with | [_, _], _ => rfl) _ t_check_unknowns rfl ⟨(k_are_unknowns X G c).mono (by decide), trivial⟩
theorem s_check_index : FnScope N_check_index ["table", "index"] (defScope (top 42)) := ⟨rfl, rfl, rfl, by decide +kernel, rfl, by decide +kernel, by decide +kernel⟩
theorem t_check_index : (tr12 (T.s N_check_index 1 [("in_range", 3, f_in_range)]) (defScope (top 42)) (defBody (top 42))).map (·.m) = some b_check_index := by kernel_rfl
theorem k_check_index (X : K.In h) (G : h.Ns mainGlobals mg) (c : He.SaysX (faU T ds ++ fo) fn [] [] (exU T) w h K) : Kp P w K mg base (T.cv K) 2 "check_index" 2 f_check_index := by
  obtain ⟨fd, F⟩ := def_of c (x := "check_index") (st := top 42) (List.mem_of_getElem? (i := 18) rfl)
  exact kp_ofO F (glo_of X G c (List.mem_of_getElem? (i := 18) rfl)) (bs_of rfl rfl X G c) s_check_index rfl (fun _ _ _ _ _ _ us hl => match us, hl with | [_, _], _ => rfl) _ t_check_index rfl ⟨(k_in_range X G c).mono (by decide), trivial⟩
theorem s_lies_in : FnScope N_lies_in ["number", "cell"] (defScope (top 43)) := ⟨rfl, rfl, rfl, by decide +kernel, rfl, by decide +kernel, by decide +kernel⟩
theorem t_lies_in : (tr12 (T.s N_lies_in 1 [("below", 2, f_below)]) (defScope (top 43)) (defBody (top 43))).map (·.m) = some b_lies_in := by kernel_rfl
theorem k_lies_in (X : K.In h) (G : h.Ns mainGlobals mg) (c : He.SaysX (faU T ds ++ fo) fn [] [] (exU T) w h K) : Kp P w K mg base (T.cv K) 2 "lies_in" 2 f_lies_in := by
  obtain ⟨fd, F⟩ := def_of c (x := "lies_in") (st := top 43) (List.mem_of_getElem? (i := 19) rfl)
  exact kp_ofO F (glo_of X G c (List.mem_of_getElem? (i := 19) rfl)) (bs_of rfl rfl X G c) s_lies_in rfl (fun _ _ _ _ _ _ us hl => match us, hl with | [_, _], _ => rfl) _ t_lies_in rfl ⟨(k_below X G c).mono (by decide), trivial⟩
theorem s_is_fit : FnScope N_is_fit ["number", "cell"] (defScope (top 45)) := ⟨rfl, rfl, rfl, by decide +kernel, rfl, by decide +kernel, by decide +kernel⟩
theorem t_is_fit : (tr12 (T.s N_is_fit 2 [("is_part", 1, f_is_part), ("lies_in", 2, f_lies_in)]) (defScope (top 45)) (defBody (top 45))).map (·.m) = some b_is_fit := by kernel_rfl
theorem k_is_fit (X : K.In h) (G : h.Ns mainGlobals mg) (c : He.SaysX (faU T ds ++ fo) fn [] [] (exU T) w h K) : Kp P w K mg base (T.cv K) 3 "is_fit" 2 f_is_fit := by
  obtain ⟨fd, F⟩ := def_of c (x := "is_fit") (st := top 45) (List.mem_of_getElem? (i := 20) rfl)
  exact kp_ofO F (glo_of X G c (List.mem_of_getElem? (i := 20) rfl)) (bs_of rfl rfl X G c) s_is_fit rfl (fun _ _ _ _ _ _ us hl => match us, hl with | [_, _], _ => rfl) _ t_is_fit rfl ⟨(k_is_part X G c).mono (by decide), (k_lies_in X G c).mono (by decide), trivial⟩
theorem s_is_choice_of : FnScope N_is_choice_of ["table", "value"] (defScope (top 44)) := ⟨rfl, rfl, rfl, by decide +kernel, rfl, by decide +kernel, by decide +kernel⟩
theorem t_is_choice_of : (tr12 (T.s N_is_choice_of 3 [("is_fit", 2, f_is_fit)]) (defScope (top 44)) (defBody (top 44))).map (·.m) = some b_is_choice_of := by kernel_rfl
theorem k_is_choice_of (X : K.In h) (G : h.Ns mainGlobals mg) (c : He.SaysX (faU T ds ++ fo) fn [] [] (exU T) w h K) : Kp P w K mg base (T.cv K) 4 "is_choice_of" 2 f_is_choice_of := by
  obtain ⟨fd, F⟩ := def_of c (x := "is_choice_of") (st := top 44) (List.mem_of_getElem? (i := 21) rfl)
  exact kp_ofO F (glo_of X G c (List.mem_of_getElem? (i := 21) rfl)) (bs_of rfl rfl X G c) s_is_choice_of rfl (fun _ _ _ _ _ _ us hl => match us, hl with | [_, _], _ => rfl) _ t_is_choice_of rfl ⟨(k_is_fit X G c).mono (by decide), trivial⟩
theorem s_check_choice : FnScope N_check_choice ["table", "value"] (defScope (top 46)) := ⟨rfl, rfl, rfl, by decide +kernel, rfl, by decide +kernel, by decide +kernel⟩
theorem t_check_choice : (tr12 (T.s N_check_choice 4 [("is_choice_of", 2, f_is_choice_of)]) (defScope (top 46)) (defBody (top 46))).map (·.m) = some b_check_choice := by kernel_rfl
theorem k_check_choice (X : K.In h) (G : h.Ns mainGlobals mg) (c : He.SaysX (faU T ds ++ fo) fn [] [] (exU T) w h K) : Kp P w K mg base (T.cv K) 5 "check_choice" 2 f_check_choice := by
  obtain ⟨fd, F⟩ := def_of c (x := "check_choice") (st := top 46) (List.mem_of_getElem? (i := 22) rfl)
  exact kp_ofO F (glo_of X G c (List.mem_of_getElem? (i := 22) rfl)) (bs_of rfl rfl X G c) s_check_choice rfl (fun _ _ _ _ _ _ us hl => match us, hl with | [_, _], _ => rfl) _ t_check_choice rfl ⟨(k_is_choice_of X G c).mono (by decide), trivial⟩
theorem s_check_signs : FnScope N_check_signs ["signs", "count"] (defScope (top 47)) := ⟨rfl, rfl, rfl, by decide +kernel, rfl, by decide +kernel, by decide +kernel⟩
theorem t_check_signs : (tr12 (T.s N_check_signs 1 [("in_range", 3, f_in_range)]) (defScope (top 47)) (defBody (top 47))).map (·.m) = some b_check_signs := by kernel_rfl
theorem k_check_signs (X : K.In h) (G : h.Ns mainGlobals mg) (c : He.SaysX (faU T ds ++ fo) fn [] [] (exU T) w h K) : Kp P w K mg base (T.cv K) 2 "check_signs" 2 f_check_signs := by
  obtain ⟨fd, F⟩ := def_of c (x := "check_signs") (st := top 47) (List.mem_of_getElem? (i := 23) rfl)
  exact kp_ofO F (glo_of X G c (List.mem_of_getElem? (i := 23) rfl)) (bs_of rfl rfl X G c) s_check_signs rfl (fun _ _ _ _ _ _ us hl => match us, hl with | [_, _], _ => rfl) _ t_check_signs rfl ⟨(k_in_range X G c).mono (by decide), trivial⟩
theorem s_corner_of : FnScope N_corner_of ["table", "rows", "columns"] (defScope (top 48)) := ⟨rfl, rfl, rfl, by decide +kernel, rfl, by decide +kernel, by decide +kernel⟩
theorem t_corner_of : (tr12 (T.s N_corner_of 0 []) (defScope (top 48)) (defBody (top 48))).map (·.m) = some b_corner_of := by kernel_rfl
theorem k_corner_of (X : K.In h) (G : h.Ns mainGlobals mg) (c : He.SaysX (faU T ds ++ fo) fn [] [] (exU T) w h K) : Kp P w K mg base (T.cv K) 1 "corner_of" 3 f_corner_of := by
  obtain ⟨fd, F⟩ := def_of c (x := "corner_of") (st := top 48) (List.mem_of_getElem? (i := 24) rfl)
  exact kp_ofO F (glo_of X G c (List.mem_of_getElem? (i := 24) rfl)) (bs_of rfl rfl X G c) s_corner_of rfl (fun _ _ _ _ _ _ us hl => match us, hl with | [_, _, _], _ => rfl) _ t_corner_of rfl trivial
theorem s_corner : FnScope N_corner ["table", "rows", "columns"] (defScope (top 49)) := ⟨rfl, rfl, rfl, by decide +kernel, rfl, by decide +kernel, by decide +kernel⟩
theorem t_corner : (tr12 (T.s N_corner 4 [("check_table", 1, f_check_table), ("check_signs", 2, f_check_signs), ("corner_of", 3, f_corner_of)]) (defScope (top 49)) (defBody (top 49))).map (·.m) = some b_corner := by kernel_rfl
theorem k_corner (X : K.In h) (G : h.Ns mainGlobals mg) (c : He.SaysX (faU T ds ++ fo) fn [] [] (exU T) w h K) : Kp P w K mg base (T.cv K) 5 "corner" 3 f_corner := by
  obtain ⟨fd, F⟩ := def_of c (x := "corner") (st := top 49) (List.mem_of_getElem? (i := 25) rfl)
  exact kp_ofO F (glo_of X G c (List.mem_of_getElem? (i := 25) rfl)) (bs_of rfl rfl X G c) s_corner rfl (fun _ _ _ _ _ _ us hl => match us, hl with | [_, _, _], _ => rfl) _ t_corner rfl ⟨(k_check_table X G c).mono (by decide), (k_check_signs X G c).mono (by decide), (k_corner_of X G c).mono (by decide), trivial⟩
theorem s_determinant_of : FnScope N_determinant_of ["rows"] (defScope (top 51)) := ⟨rfl, rfl, rfl, by decide +kernel, rfl, by decide +kernel, by decide +kernel⟩
theorem k_determinant_of_0 (X : K.In h) (G : h.Ns mainGlobals mg) (c : He.SaysX (faU T ds ++ fo) fn [] [] (exU T) w h K) : Kp P w K mg base (T.cv K) 4 "determinant_of" 1 f_determinant_of_0 := by
  obtain ⟨fd, F⟩ := def_of c (x := "determinant_of") (st := top 51) (List.mem_of_getElem? (i := 26) rfl)
  exact kp_ofO F (glo_of X G c (List.mem_of_getElem? (i := 26) rfl)) (bs_of rfl rfl X G c) s_determinant_of rfl (fun _ _ _ _ _ _ us hl => match us, hl with | [_], _ => rfl) (badB (T.s N_determinant_of 3 []) (defScope (top 51)) (defBody (top 51))) rfl rfl trivial
theorem t_determinant_of_1 : (tr12 (T.s N_determinant_of 4 [("multiplied", 2, f_multiplied), ("taken", 2, f_taken), ("added", 2, f_added), ("determinant_of", 1, f_determinant_of_0)]) (defScope (top 51)) (defBody (top 51))).map (·.m) = some (b_determinant_of f_determinant_of_0) := by kernel_rfl
theorem k_determinant_of_1 (X : K.In h) (G : h.Ns mainGlobals mg) (c : He.SaysX (faU T ds ++ fo) fn [] [] (exU T) w h K) : Kp P w K mg base (T.cv K) 5 "determinant_of" 1 f_determinant_of_1 := by
  obtain ⟨fd, F⟩ := def_of c (x := "determinant_of") (st := top 51) (List.mem_of_getElem? (i := 26) rfl)
  exact kp_ofO F (glo_of X G c (List.mem_of_getElem? (i := 26) rfl)) (bs_of rfl rfl X G c) s_determinant_of rfl (fun _ _ _ _ _ _ us hl => match us, hl with | [_], _ => rfl) _ t_determinant_of_1 rfl ⟨(k_multiplied X G c).mono (by decide), (k_taken X G c).mono (by decide), (k_added X G c).mono (by decide), (k_determinant_of_0 X G c).mono (by decide), trivial⟩
theorem t_determinant_of_2 : (tr12 (T.s N_determinant_of 5 [("multiplied", 2, f_multiplied), ("taken", 2, f_taken), ("added", 2, f_added), ("determinant_of", 1, f_determinant_of_1)]) (defScope (top 51)) (defBody (top 51))).map (·.m) = some (b_determinant_of f_determinant_of_1) := by kernel_rfl
theorem k_determinant_of_2 (X : K.In h) (G : h.Ns mainGlobals mg) (c : He.SaysX (faU T ds ++ fo) fn [] [] (exU T) w h K) : Kp P w K mg base (T.cv K) 6 "determinant_of" 1 f_determinant_of_2 := by
  obtain ⟨fd, F⟩ := def_of c (x := "determinant_of") (st := top 51) (List.mem_of_getElem? (i := 26) rfl)
  exact kp_ofO F (glo_of X G c (List.mem_of_getElem? (i := 26) rfl)) (bs_of rfl rfl X G c) s_determinant_of rfl (fun _ _ _ _ _ _ us hl => match us, hl with | [_], _ => rfl) _ t_determinant_of_2 rfl ⟨(k_multiplied X G c).mono (by decide), (k_taken X G c).mono (by decide), (k_added X G c).mono (by decide), (k_determinant_of_1 X G c).mono (by decide), trivial⟩
theorem t_determinant_of_3 : (tr12 (T.s N_determinant_of 6 [("multiplied", 2, f_multiplied), ("taken", 2, f_taken), ("added", 2, f_added), ("determinant_of", 1, f_determinant_of_2)]) (defScope (top 51)) (defBody (top 51))).map (·.m) = some (b_determinant_of f_determinant_of_2) := by kernel_rfl
theorem k_determinant_of_3 (X : K.In h) (G : h.Ns mainGlobals mg) (c : He.SaysX (faU T ds ++ fo) fn [] [] (exU T) w h K) : Kp P w K mg base (T.cv K) 7 "determinant_of" 1 f_determinant_of_3 := by
  obtain ⟨fd, F⟩ := def_of c (x := "determinant_of") (st := top 51) (List.mem_of_getElem? (i := 26) rfl)
  exact kp_ofO F (glo_of X G c (List.mem_of_getElem? (i := 26) rfl)) (bs_of rfl rfl X G c) s_determinant_of rfl (fun _ _ _ _ _ _ us hl => match us, hl with | [_], _ => rfl) _ t_determinant_of_3 rfl ⟨(k_multiplied X G c).mono (by decide), (k_taken X G c).mono (by decide), (k_added X G c).mono (by decide), (k_determinant_of_2 X G c).mono (by decide), trivial⟩
theorem t_determinant_of : (tr12 (T.s N_determinant_of 7 [("multiplied", 2, f_multiplied), ("taken", 2, f_taken), ("added", 2, f_added), ("determinant_of", 1, f_determinant_of_3)]) (defScope (top 51)) (defBody (top 51))).map (·.m) = some (b_determinant_of f_determinant_of_3) := by kernel_rfl
theorem k_determinant_of (X : K.In h) (G : h.Ns mainGlobals mg) (c : He.SaysX (faU T ds ++ fo) fn [] [] (exU T) w h K) : Kp P w K mg base (T.cv K) 8 "determinant_of" 1 f_determinant_of := by
  obtain ⟨fd, F⟩ := def_of c (x := "determinant_of") (st := top 51) (List.mem_of_getElem? (i := 26) rfl)
  exact kp_ofO F (glo_of X G c (List.mem_of_getElem? (i := 26) rfl)) (bs_of rfl rfl X G c) s_determinant_of rfl (fun _ _ _ _ _ _ us hl => match us, hl with | [_], _ => rfl) _ t_determinant_of rfl ⟨(k_multiplied X G c).mono (by decide), (k_taken X G c).mono (by decide), (k_added X G c).mono (by decide), (k_determinant_of_3 X G c).mono (by decide), trivial⟩
theorem s_determinant : FnScope N_determinant ["table", "choice"] (defScope (top 52)) := ⟨rfl, rfl, rfl, by decide +kernel, rfl, by decide +kernel, by decide +kernel⟩
theorem t_determinant : (tr12 (T.s N_determinant 8 [("check_square", 1, f_check_square), ("check_choice", 2, f_check_choice), ("determinant_of", 1, f_determinant_of)]) (defScope (top 52)) (defBody (top 52))).map (·.m) = some b_determinant := by kernel_rfl
theorem k_determinant (X : K.In h) (G : h.Ns mainGlobals mg) (c : He.SaysX (faU T ds ++ fo) fn [] [] (exU T) w h K) : Kp P w K mg base (T.cv K) 9 "determinant" 2 f_determinant := by
  obtain ⟨fd, F⟩ := def_of c (x := "determinant") (st := top 52) (List.mem_of_getElem? (i := 27) rfl)
  exact kp_ofO F (glo_of X G c (List.mem_of_getElem? (i := 27) rfl)) (bs_of rfl rfl X G c) s_determinant rfl (fun _ _ _ _ _ _ us hl => match us, hl with | [_, _], _ => rfl) _ t_determinant rfl ⟨(k_check_square X G c).mono (by decide), (k_check_choice X G c).mono (by decide), (k_determinant_of X G c).mono (by decide), trivial⟩
theorem s_end_choices : FnScope N_end_choices ["table"] (defScope (top 53)) := ⟨rfl, rfl, rfl, by decide +kernel, rfl, by decide +kernel, by decide +kernel⟩
theorem t_end_choices : (tr12 (T.s N_end_choices 0 []) (defScope (top 53)) (defBody (top 53))).map (·.m) = some b_end_choices := by kernel_rfl
theorem k_end_choices (X : K.In h) (G : h.Ns mainGlobals mg) (c : He.SaysX (faU T ds ++ fo) fn [] [] (exU T) w h K) : Kp P w K mg base (T.cv K) 1 "end_choices" 1 f_end_choices := by
  obtain ⟨fd, F⟩ := def_of c (x := "end_choices") (st := top 53) (List.mem_of_getElem? (i := 28) rfl)
  exact kp_ofO F (glo_of X G c (List.mem_of_getElem? (i := 28) rfl)) (bs_of rfl rfl X G c) s_end_choices rfl (fun _ _ _ _ _ _ us hl => match us, hl with | [_], _ => rfl) _ t_end_choices rfl trivial
theorem s_reduced : FnScope N_reduced ["work", "here", "column"] (defScope (top 55)) := ⟨rfl, rfl, rfl, by decide +kernel, rfl, by decide +kernel, by decide +kernel⟩
theorem t_reduced : (tr12 (T.s N_reduced 3 [("shared", 2, f_shared), ("taken", 2, f_taken), ("multiplied", 2, f_multiplied)]) (defScope (top 55)) (defBody (top 55))).map (·.m) = some b_reduced := by kernel_rfl
theorem k_reduced (X : K.In h) (G : h.Ns mainGlobals mg) (c : He.SaysX (faU T ds ++ fo) fn [] [] (exU T) w h K) : Kp P w K mg base (T.cv K) 4 "reduced" 3 f_reduced := by
  obtain ⟨fd, F⟩ := def_of c (x := "reduced") (st := top 55) (List.mem_of_getElem? (i := 29) rfl)
  exact kp_ofO F (glo_of X G c (List.mem_of_getElem? (i := 29) rfl)) (bs_of rfl rfl X G c) s_reduced rfl (fun _ _ _ _ _ _ us hl => match us, hl with | [_, _, _], _ => rfl) _ t_reduced rfl ⟨(k_shared X G c).mono (by decide), (k_taken X G c).mono (by decide), (k_multiplied X G c).mono (by decide), trivial⟩
theorem s_null_unknowns : FnScope N_null_unknowns ["rows"] (defScope (top 54)) := ⟨rfl, rfl, rfl, by decide +kernel, rfl, by decide +kernel, by decide +kernel⟩
theorem t_null_unknowns : (tr12 (T.s N_null_unknowns 4 [("taken", 2, f_taken), ("reduced", 3, f_reduced)]) (defScope (top 54)) (defBody (top 54))).map (·.m) = some b_null_unknowns := by kernel_rfl
theorem k_null_unknowns (X : K.In h) (G : h.Ns mainGlobals mg) (c : He.SaysX (faU T ds ++ fo) fn [] [] (exU T) w h K) : Kp P w K mg base (T.cv K) 5 "null_unknowns" 1 f_null_unknowns := by
  obtain ⟨fd, F⟩ := def_of c (x := "null_unknowns") (st := top 54) (List.mem_of_getElem? (i := 30) rfl)
  exact kp_ofO F (glo_of X G c (List.mem_of_getElem? (i := 30) rfl)) (bs_of rfl rfl X G c) s_null_unknowns rfl (fun _ _ _ _ _ _ us hl => match us, hl with | [_], _ => rfl) _ t_null_unknowns rfl ⟨(k_taken X G c).mono (by decide), (k_reduced X G c).mono (by decide), trivial⟩
theorem s_sign_choices : FnScope N_sign_choices ["table"] (defScope (top 57)) := ⟨rfl, rfl, rfl, by decide +kernel, rfl, by decide +kernel, by decide +kernel⟩
theorem t_sign_choices : (tr12 (T.s N_sign_choices 1 [("all_signs", 1, f_all_signs), ("corner_of", 3, f_corner_of)]) (defScope (top 57)) (defBody (top 57))).map (·.m) = some b_sign_choices := by kernel_rfl
theorem k_sign_choices (X : K.In h) (G : h.Ns mainGlobals mg) (c : He.SaysX (faU T ds ++ fo) fn [] [] (exU T) w h K) : Kp P w K mg base (T.cv K) 2 "sign_choices" 1 f_sign_choices := by
  obtain ⟨fd, F⟩ := def_of c (x := "sign_choices") (st := top 57) (List.mem_of_getElem? (i := 31) rfl)
  exact kp_ofO F (glo_of X G c (List.mem_of_getElem? (i := 31) rfl)) (bs_of rfl rfl X G c) s_sign_choices rfl (fun _ _ _ _ _ _ us hl => match us, hl with | [_], _ => rfl) _ t_sign_choices rfl ⟨(k_all_signs X G c).mono (by decide), (k_corner_of X G c).mono (by decide), trivial⟩
theorem s_ends_of : FnScope N_ends_of ["table"] (defScope (top 58)) := ⟨rfl, rfl, rfl, by decide +kernel, rfl, by decide +kernel, by decide +kernel⟩
theorem t_ends_of : (tr12 (T.s N_ends_of 8 [("sign_choices", 1, f_sign_choices), ("determinant_of", 1, f_determinant_of)]) (defScope (top 58)) (defBody (top 58))).map (·.m) = some b_ends_of := by kernel_rfl
theorem k_ends_of (X : K.In h) (G : h.Ns mainGlobals mg) (c : He.SaysX (faU T ds ++ fo) fn [] [] (exU T) w h K) : Kp P w K mg base (T.cv K) 9 "ends_of" 1 f_ends_of := by
  obtain ⟨fd, F⟩ := def_of c (x := "ends_of") (st := top 58) (List.mem_of_getElem? (i := 32) rfl)
  exact kp_ofO F (glo_of X G c (List.mem_of_getElem? (i := 32) rfl)) (bs_of rfl rfl X G c) s_ends_of rfl (fun _ _ _ _ _ _ us hl => match us, hl with | [_], _ => rfl) _ t_ends_of rfl ⟨(k_sign_choices X G c).mono (by decide), (k_determinant_of X G c).mono (by decide), trivial⟩
theorem s_sure : FnScope N_sure ["table"] (defScope (top 59)) := ⟨rfl, rfl, rfl, by decide +kernel, rfl, by decide +kernel, by decide +kernel⟩
theorem t_sure : (tr12 (T.s N_sure 9 [("ends_of", 1, f_ends_of)]) (defScope (top 59)) (defBody (top 59))).map (·.m) = some b_sure := by kernel_rfl
theorem k_sure (X : K.In h) (G : h.Ns mainGlobals mg) (c : He.SaysX (faU T ds ++ fo) fn [] [] (exU T) w h K) : Kp P w K mg base (T.cv K) 10 "sure" 1 f_sure := by
  obtain ⟨fd, F⟩ := def_of c (x := "sure") (st := top 59) (List.mem_of_getElem? (i := 33) rfl)
  exact kp_ofO F (glo_of X G c (List.mem_of_getElem? (i := 33) rfl)) (bs_of rfl rfl X G c) s_sure rfl (fun _ _ _ _ _ _ us hl => match us, hl with | [_], _ => rfl) _ t_sure rfl ⟨(k_ends_of X G c).mono (by decide), trivial⟩
theorem s_is_sure : FnScope N_is_sure ["table"] (defScope (top 60)) := ⟨rfl, rfl, rfl, by decide +kernel, rfl, by decide +kernel, by decide +kernel⟩
theorem t_is_sure : (tr12 (T.s N_is_sure 10 [("check_square", 1, f_check_square), ("sure", 1, f_sure)]) (defScope (top 60)) (defBody (top 60))).map (·.m) = some b_is_sure := by kernel_rfl
theorem k_is_sure (X : K.In h) (G : h.Ns mainGlobals mg) (c : He.SaysX (faU T ds ++ fo) fn [] [] (exU T) w h K) : Kp P w K mg base (T.cv K) 11 "is_sure" 1 f_is_sure := by
  obtain ⟨fd, F⟩ := def_of c (x := "is_sure") (st := top 60) (List.mem_of_getElem? (i := 34) rfl)
  exact kp_ofO F (glo_of X G c (List.mem_of_getElem? (i := 34) rfl)) (bs_of rfl rfl X G c) s_is_sure rfl (fun _ _ _ _ _ _ us hl => match us, hl with | [_], _ => rfl) _ t_is_sure rfl ⟨(k_check_square X G c).mono (by decide), (k_sure X G c).mono (by decide), trivial⟩
theorem s_replaced : FnScope N_replaced ["choice", "row", "column", "number"] (defScope (top 61)) := ⟨rfl, rfl, rfl, by decide +kernel, rfl, by decide +kernel, by decide +kernel⟩
theorem t_replaced : (tr12 (T.s N_replaced 0 []) (defScope (top 61)) (defBody (top 61))).map (·.m) = some b_replaced := by kernel_rfl
theorem k_replaced (X : K.In h) (G : h.Ns mainGlobals mg) (c : He.SaysX (faU T ds ++ fo) fn [] [] (exU T) w h K) : Kp P w K mg base (T.cv K) 1 "replaced" 4 f_replaced := by
  obtain ⟨fd, F⟩ := def_of c (x := "replaced") (st := top 61) (List.mem_of_getElem? (i := 35) rfl)
  exact kp_ofO F (glo_of X G c (List.mem_of_getElem? (i := 35) rfl)) (bs_of rfl rfl X G c) s_replaced rfl (fun _ _ _ _ _ _ us hl => match us, hl with | [_, _, _, _], _ => rfl) _ t_replaced rfl trivial
theorem s_singular_between : FnScope N_singular_between ["low", "high"] (defScope (top 62)) := ⟨rfl, rfl, rfl, by decide +kernel, rfl, by decide +kernel, by decide +kernel⟩
theorem t_singular_between : (tr12 (T.s N_singular_between 8 [("determinant_of", 1, f_determinant_of), ("replaced", 4, f_replaced), ("shared", 2, f_shared), ("multiplied", 2, f_multiplied), ("taken", 2, f_taken), ("added", 2, f_added)]) (defScope (top 62)) (defBody (top 62))).map (·.m) = some b_singular_between := by kernel_rfl
theorem k_singular_between (X : K.In h) (G : h.Ns mainGlobals mg) (c : He.SaysX (faU T ds ++ fo) fn [] [] (exU T) w h K) : Kp P w K mg base (T.cv K) 9 "singular_between" 2 f_singular_between := by
  obtain ⟨fd, F⟩ := def_of c (x := "singular_between") (st := top 62) (List.mem_of_getElem? (i := 36) rfl)
  exact kp_ofO F (glo_of X G c (List.mem_of_getElem? (i := 36) rfl)) (bs_of rfl rfl X G c) s_singular_between rfl (fun _ _ _ _ _ _ us hl => match us, hl with | [_, _], _ => rfl) _ t_singular_between rfl ⟨(k_determinant_of X G c).mono (by decide), (k_replaced X G c).mono (by decide), (k_shared X G c).mono (by decide), (k_multiplied X G c).mono (by decide), (k_taken X G c).mono (by decide), (k_added X G c).mono (by decide), trivial⟩
theorem s_singular_choice : FnScope N_singular_choice ["table"] (defScope (top 63)) := ⟨rfl, rfl, rfl, by decide +kernel, rfl, by decide +kernel, by decide +kernel⟩
theorem t_singular_choice : (tr12 (T.s N_singular_choice 9 [("check_square", 1, f_check_square), ("ends_of", 1, f_ends_of), ("singular_between", 2, f_singular_between), ("null_unknowns", 1, f_null_unknowns)]) (defScope (top 63)) (defBody (top 63))).map (·.m) = some b_singular_choice := by kernel_rfl
theorem k_singular_choice (X : K.In h) (G : h.Ns mainGlobals mg) (c : He.SaysX (faU T ds ++ fo) fn [] [] (exU T) w h K) : Kp P w K mg base (T.cv K) 10 "singular_choice" 1 f_singular_choice := by
  obtain ⟨fd, F⟩ := def_of c (x := "singular_choice") (st := top 63) (List.mem_of_getElem? (i := 37) rfl)
  exact kp_ofO F (glo_of X G c (List.mem_of_getElem? (i := 37) rfl)) (bs_of rfl rfl X G c) s_singular_choice rfl (fun _ _ _ _ _ _ us hl => match us, hl with | [_], _ => rfl) _ t_singular_choice rfl ⟨(k_check_square X G c).mono (by decide), (k_ends_of X G c).mono (by decide), (k_singular_between X G c).mono (by decide), (k_null_unknowns X G c).mono (by decide), trivial⟩
theorem s_open_places : FnScope N_open_places ["table"] (defScope (top 65)) := ⟨rfl, rfl, rfl, by decide +kernel, rfl, by decide +kernel, by decide +kernel⟩
theorem t_open_places : (tr12 (T.s N_open_places 0 []) (defScope (top 65)) (defBody (top 65))).map (·.m) = some b_open_places := by kernel_rfl
theorem k_open_places (X : K.In h) (G : h.Ns mainGlobals mg) (c : He.SaysX (faU T ds ++ fo) fn [] [] (exU T) w h K) : Kp P w K mg base (T.cv K) 1 "open_places" 1 f_open_places := by
  obtain ⟨fd, F⟩ := def_of c (x := "open_places") (st := top 65) (List.mem_of_getElem? (i := 38) rfl)
  exact kp_ofO F (glo_of X G c (List.mem_of_getElem? (i := 38) rfl)) (bs_of rfl rfl X G c) s_open_places rfl (fun _ _ _ _ _ _ us hl => match us, hl with | [_], _ => rfl) _ t_open_places rfl trivial
theorem s_check_told : FnScope N_check_told ["table", "told"] (defScope (top 66)) := ⟨rfl, rfl, rfl, by decide +kernel, rfl, by decide +kernel, by decide +kernel⟩
theorem t_check_told : (tr12 (T.s N_check_told 1 [("in_range", 3, f_in_range)]) (defScope (top 66)) (defBody (top 66))).map (·.m) = some b_check_told := by kernel_rfl
theorem k_check_told (X : K.In h) (G : h.Ns mainGlobals mg) (c : He.SaysX (faU T ds ++ fo) fn [] [] (exU T) w h K) : Kp P w K mg base (T.cv K) 2 "check_told" 2 f_check_told := by
  obtain ⟨fd, F⟩ := def_of c (x := "check_told") (st := top 66) (List.mem_of_getElem? (i := 39) rfl)
  exact kp_ofO F (glo_of X G c (List.mem_of_getElem? (i := 39) rfl)) (bs_of rfl rfl X G c) s_check_told rfl (fun _ _ _ _ _ _ us hl => match us, hl with | [_, _], _ => rfl) _ t_check_told rfl ⟨(k_in_range X G c).mono (by decide), trivial⟩
theorem s_fixed_at : FnScope N_fixed_at ["table", "told", "cells"] (defScope (top 67)) := ⟨rfl, rfl, rfl, by decide +kernel, rfl, by decide +kernel, by decide +kernel⟩
theorem t_fixed_at : (tr12 (T.s N_fixed_at 0 []) (defScope (top 67)) (defBody (top 67))).map (·.m) = some b_fixed_at := by kernel_rfl
theorem k_fixed_at (X : K.In h) (G : h.Ns mainGlobals mg) (c : He.SaysX (faU T ds ++ fo) fn [] [] (exU T) w h K) : Kp P w K mg base (T.cv K) 1 "fixed_at" 3 f_fixed_at := by
  obtain ⟨fd, F⟩ := def_of c (x := "fixed_at") (st := top 67) (List.mem_of_getElem? (i := 40) rfl)
  exact kp_ofO F (glo_of X G c (List.mem_of_getElem? (i := 40) rfl)) (bs_of rfl rfl X G c) s_fixed_at rfl (fun _ _ _ _ _ _ us hl => match us, hl with | [_, _, _], _ => rfl) _ t_fixed_at rfl trivial
theorem s_is_place : FnScope N_is_place ["table", "value"] (defScope (top 69)) := ⟨rfl, rfl, rfl, by decide +kernel, rfl, by decide +kernel, by decide +kernel⟩
theorem t_is_place : (tr12 (T.s N_is_place 1 [("in_range", 3, f_in_range)]) (defScope (top 69)) (defBody (top 69))).map (·.m) = some b_is_place := by kernel_rfl
theorem k_is_place (X : K.In h) (G : h.Ns mainGlobals mg) (c : He.SaysX (faU T ds ++ fo) fn [] [] (exU T) w h K) : Kp P w K mg base (T.cv K) 2 "is_place" 2 f_is_place := by
  obtain ⟨fd, F⟩ := def_of c (x := "is_place") (st := top 69) (List.mem_of_getElem? (i := 41) rfl)
  exact kp_ofO F (glo_of X G c (List.mem_of_getElem? (i := 41) rfl)) (bs_of rfl rfl X G c) s_is_place rfl (fun _ _ _ _ _ _ us hl => match us, hl with | [_, _], _ => rfl) _ t_is_place rfl ⟨(k_in_range X G c).mono (by decide), trivial⟩
theorem s_check_cells : FnScope N_check_cells ["table", "cells"] (defScope (top 68)) := ⟨rfl, rfl, rfl, by decide +kernel, rfl, by decide +kernel, by decide +kernel⟩
theorem t_check_cells : (tr12 (T.s N_check_cells 2 [("is_place", 2, f_is_place)]) (defScope (top 68)) (defBody (top 68))).map (·.m) = some b_check_cells := by kernel_rfl
theorem k_check_cells (X : K.In h) (G : h.Ns mainGlobals mg) (c : He.SaysX (faU T ds ++ fo) fn [] [] (exU T) w h K) : Kp P w K mg base (T.cv K) 3 "check_cells" 2 f_check_cells := by
  obtain ⟨fd, F⟩ := def_of c (x := "check_cells") (st := top 68) (List.mem_of_getElem? (i := 42) rfl)
  exact kp_ofO F (glo_of X G c (List.mem_of_getElem? (i := 42) rfl)) (bs_of rfl rfl X G c) s_check_cells rfl (fun _ _ _ _ _ _ us hl => match us, hl with | [_, _], _ => rfl) _ t_check_cells rfl ⟨(k_is_place X G c).mono (by decide), trivial⟩
theorem s_fixed : FnScope N_fixed ["table", "told", "cells"] (defScope (top 70)) := ⟨rfl, rfl, rfl, by decide +kernel, rfl, by decide +kernel, by decide +kernel⟩
theorem t_fixed : (tr12 (T.s N_fixed 4 [("check_table", 1, f_check_table), ("check_told", 2, f_check_told), ("check_cells", 2, f_check_cells), ("fixed_at", 3, f_fixed_at)]) (defScope (top 70)) (defBody (top 70))).map (·.m) = some b_fixed := by kernel_rfl
theorem k_fixed (X : K.In h) (G : h.Ns mainGlobals mg) (c : He.SaysX (faU T ds ++ fo) fn [] [] (exU T) w h K) : Kp P w K mg base (T.cv K) 5 "fixed" 3 f_fixed := by
  obtain ⟨fd, F⟩ := def_of c (x := "fixed") (st := top 70) (List.mem_of_getElem? (i := 43) rfl)
  exact kp_ofO F (glo_of X G c (List.mem_of_getElem? (i := 43) rfl)) (bs_of rfl rfl X G c) s_fixed rfl (fun _ _ _ _ _ _ us hl => match us, hl with | [_, _, _], _ => rfl) _ t_fixed rfl ⟨(k_check_table X G c).mono (by decide), (k_check_told X G c).mono (by decide), (k_check_cells X G c).mono (by decide), (k_fixed_at X G c).mono (by decide), trivial⟩
theorem s_lean : FnScope N_lean ["row"] (defScope (top 73)) := ⟨rfl, rfl, rfl, by decide +kernel, rfl, by decide +kernel, by decide +kernel⟩
theorem t_lean : (tr12 (T.s N_lean 1 [("common_divisor", 2, f_common_divisor)]) (defScope (top 73)) (defBody (top 73))).map (·.m) = some b_lean := by kernel_rfl
theorem k_lean (X : K.In h) (G : h.Ns mainGlobals mg) (c : He.SaysX (faU T ds ++ fo) fn [] [] (exU T) w h K) : Kp P w K mg base (T.cv K) 2 "lean" 1 f_lean := by
  obtain ⟨fd, F⟩ := def_of c (x := "lean") (st := top 73) (List.mem_of_getElem? (i := 44) rfl)
  exact kp_ofO F (glo_of X G c (List.mem_of_getElem? (i := 44) rfl)) (bs_of rfl rfl X G c) s_lean rfl (fun _ _ _ _ _ _ us hl => match us, hl with | [_], _ => rfl) _ t_lean rfl ⟨(k_common_divisor X G c).mono (by decide), trivial⟩
theorem s_cleared : FnScope N_cleared ["row"] (defScope (top 72)) := ⟨rfl, rfl, rfl, by decide +kernel, rfl, by decide +kernel, by decide +kernel⟩
theorem t_cleared : (tr12 (T.s N_cleared 2 [("lean", 1, f_lean), ("common_divisor", 2, f_common_divisor)]) (defScope (top 72)) (defBody (top 72))).map (·.m) = some b_cleared := by kernel_rfl
theorem k_cleared (X : K.In h) (G : h.Ns mainGlobals mg) (c : He.SaysX (faU T ds ++ fo) fn [] [] (exU T) w h K) : Kp P w K mg base (T.cv K) 3 "cleared" 1 f_cleared := by
  obtain ⟨fd, F⟩ := def_of c (x := "cleared") (st := top 72) (List.mem_of_getElem? (i := 45) rfl)
  exact kp_ofO F (glo_of X G c (List.mem_of_getElem? (i := 45) rfl)) (bs_of rfl rfl X G c) s_cleared rfl (fun _ _ _ _ _ _ us hl => match us, hl with | [_], _ => rfl) _ t_cleared rfl ⟨(k_lean X G c).mono (by decide), (k_common_divisor X G c).mono (by decide), trivial⟩
theorem s_without : FnScope N_without ["row", "pivot", "column"] (defScope (top 75)) := ⟨rfl, rfl, rfl, by decide +kernel, rfl, by decide +kernel, by decide +kernel⟩
theorem t_without : (tr12 (T.s N_without 2 [("lean", 1, f_lean)]) (defScope (top 75)) (defBody (top 75))).map (·.m) = some b_without := by kernel_rfl
theorem k_without (X : K.In h) (G : h.Ns mainGlobals mg) (c : He.SaysX (faU T ds ++ fo) fn [] [] (exU T) w h K) : Kp P w K mg base (T.cv K) 3 "without" 3 f_without := by
  obtain ⟨fd, F⟩ := def_of c (x := "without") (st := top 75) (List.mem_of_getElem? (i := 46) rfl)
  exact kp_ofO F (glo_of X G c (List.mem_of_getElem? (i := 46) rfl)) (bs_of rfl rfl X G c) s_without rfl (fun _ _ _ _ _ _ us hl => match us, hl with | [_, _, _], _ => rfl) _ t_without rfl ⟨(k_lean X G c).mono (by decide), trivial⟩
theorem s_started : FnScope N_started ["rows", "right", "width"] (defScope (top 76)) := ⟨rfl, rfl, rfl, by decide +kernel, rfl, by decide +kernel, by decide +kernel⟩
theorem t_started : (trO T N_started 3 [("cleared", 1, f_cleared)] [100] [("Program", 100, 0, .mk)] [] ["costs"] [] ["table"] false (defScope (top 76)) (defBody (top 76))).map (·.m) = some b_started := by kernel_rfl
theorem k_started (X : K.In h) (G : h.Ns mainGlobals mg) (c : He.SaysX (faU T ds ++ fo) fn [] [] (exU T) w h K) : MtOk P w K mg base (T.cv K) 4 ("started", 100, 3, .nw n_started) := by
  obtain ⟨fd, F⟩ := def_of c (x := "started") (st := top 76) (List.mem_of_getElem? (i := 47) rfl)
  exact ⟨_, fd, _, glo_of X G c (List.mem_of_getElem? (i := 47) rfl), rfl, nw_ok F (bs_of rfl rfl X G c) s_started _ t_started ⟨(k_cleared X G c).mono (by decide), trivial⟩ ⟨fun k hk => by rw [List.mem_singleton.mp hk]; exact k_clf X c, fun t ht => by
    rcases List.mem_cons.mp ht with e | ht
    · rw [e]; exact (k_Program X G c).mono (by decide)
    cases ht⟩ rfl, F.kp, F.bindsN (fun _ _ _ _ _ _ us hl => match us, hl with | [_, _, _], _ => rfl)⟩
theorem s_Program_change : FnScope N_Program_change ["self", "place", "column"] (defScope (mth 74 1)) := ⟨rfl, rfl, rfl, by decide +kernel, rfl, by decide +kernel, by decide +kernel⟩
theorem t_Program_change : (trO T N_Program_change 3 [("without", 3, f_without)] [100] [] [("self", 100)] ["costs"] [] [] true (defScope (mth 74 1)) (defBody (mth 74 1))).map (·.m) = some b_Program_change := by kernel_rfl
theorem k_Program_change (X : K.In h) (G : h.Ns mainGlobals mg) (c : He.SaysX (faU T ds ++ fo) fn [] [] (exU T) w h K) : MtOk P w K mg base (T.cv K) 4 ("change", 100, 2, .mu u_change) := by
  obtain ⟨fd, F⟩ := defM_of c (c := "Program") (m := "change") (st := mth 74 1) (List.mem_of_getElem? (i := 92) rfl)
  obtain ⟨c1, c2⟩ := meth_of2 (k := 100) (ms := msP) (m := "change") foP c (List.mem_of_getElem? (i := 0) rfl)
  exact ⟨_, _, fd, _, rfl, c1, c2, by decide +kernel, mu_ok F (bs_of rfl rfl X G c) s_Program_change _ t_Program_change ⟨(k_without X G c).mono (by decide), trivial⟩ ⟨fun k hk => by rw [List.mem_singleton.mp hk]; exact k_clf X c, fun t ht => by
    cases ht⟩ rfl (by decide), F.bindsN (fun _ _ _ _ _ _ us hl => match us, hl with | [_, _, _], _ => rfl)⟩
theorem s_Program_drop_helpers : FnScope N_Program_drop_helpers ["self", "width"] (defScope (mth 74 6)) := ⟨rfl, rfl, rfl, by decide +kernel, rfl, by decide +kernel, by decide +kernel⟩
theorem t_Program_drop_helpers : (trO T N_Program_drop_helpers 4 [] [100] [("change", 100, 2, .mu u_change)] [("self", 100)] ["costs"] [] [] true (defScope (mth 74 6)) (defBody (mth 74 6))).map (·.m) = some b_Program_drop_helpers := by kernel_rfl
theorem k_Program_drop_helpers (X : K.In h) (G : h.Ns mainGlobals mg) (c : He.SaysX (faU T ds ++ fo) fn [] [] (exU T) w h K) : MtOk P w K mg base (T.cv K) 5 ("drop_helpers", 100, 1, .mu u_drop_helpers) := by
  obtain ⟨fd, F⟩ := defM_of c (c := "Program") (m := "drop_helpers") (st := mth 74 6) (List.mem_of_getElem? (i := 93) rfl)
  obtain ⟨c1, c2⟩ := meth_of2 (k := 100) (ms := msP) (m := "drop_helpers") foP c (List.mem_of_getElem? (i := 1) rfl)
  exact ⟨_, _, fd, _, rfl, c1, c2, by decide +kernel, mu_ok F (bs_of rfl rfl X G c) s_Program_drop_helpers _ t_Program_drop_helpers trivial ⟨fun k hk => by rw [List.mem_singleton.mp hk]; exact k_clf X c, fun t ht => by
    rcases List.mem_cons.mp ht with e | ht
    · rw [e]; exact (k_Program_change X G c).mono (by decide)
    cases ht⟩ rfl (by decide), F.bindsN (fun _ _ _ _ _ _ us hl => match us, hl with | [_, _], _ => rfl)⟩
theorem s_Program_bounds_before : FnScope N_Program_bounds_before ["self", "place", "best", "column"] (defScope (mth 74 3)) := ⟨rfl, rfl, rfl, by decide +kernel, rfl, by decide +kernel, by decide +kernel⟩
theorem t_Program_bounds_before : (trO T N_Program_bounds_before 0 [] [100] [] [("self", 100)] ["costs"] [] [] false (defScope (mth 74 3)) (defBody (mth 74 3))).map (·.m) = some b_Program_bounds_before := by kernel_rfl
theorem k_Program_bounds_before (X : K.In h) (G : h.Ns mainGlobals mg) (c : He.SaysX (faU T ds ++ fo) fn [] [] (exU T) w h K) : MtOk P w K mg base (T.cv K) 1 ("bounds_before", 100, 3, .pu p_bounds_before) := by
  obtain ⟨fd, F⟩ := defM_of c (c := "Program") (m := "bounds_before") (st := mth 74 3) (List.mem_of_getElem? (i := 94) rfl)
  obtain ⟨c1, c2⟩ := meth_of2 (k := 100) (ms := msP) (m := "bounds_before") foP c (List.mem_of_getElem? (i := 2) rfl)
  exact ⟨_, _, fd, _, rfl, c1, c2, by decide +kernel, pu_ok F (bs_of rfl rfl X G c) s_Program_bounds_before _ t_Program_bounds_before trivial ⟨fun k hk => by rw [List.mem_singleton.mp hk]; exact k_clf X c, fun t ht => by
    cases ht⟩ rfl (by decide), F.bindsN (fun _ _ _ _ _ _ us hl => match us, hl with | [_, _, _, _], _ => rfl)⟩
theorem s_Program_bound : FnScope N_Program_bound ["self", "column"] (defScope (mth 74 2)) := ⟨rfl, rfl, rfl, by decide +kernel, rfl, by decide +kernel, by decide +kernel⟩
theorem t_Program_bound : (trO T N_Program_bound 1 [] [100] [("bounds_before", 100, 3, .pu p_bounds_before)] [("self", 100)] ["costs"] [] [] false (defScope (mth 74 2)) (defBody (mth 74 2))).map (·.m) = some b_Program_bound := by kernel_rfl
theorem k_Program_bound (X : K.In h) (G : h.Ns mainGlobals mg) (c : He.SaysX (faU T ds ++ fo) fn [] [] (exU T) w h K) : MtOk P w K mg base (T.cv K) 2 ("bound", 100, 1, .pu p_bound) := by
  obtain ⟨fd, F⟩ := defM_of c (c := "Program") (m := "bound") (st := mth 74 2) (List.mem_of_getElem? (i := 95) rfl)
  obtain ⟨c1, c2⟩ := meth_of2 (k := 100) (ms := msP) (m := "bound") foP c (List.mem_of_getElem? (i := 3) rfl)
  exact ⟨_, _, fd, _, rfl, c1, c2, by decide +kernel, pu_ok F (bs_of rfl rfl X G c) s_Program_bound _ t_Program_bound trivial ⟨fun k hk => by rw [List.mem_singleton.mp hk]; exact k_clf X c, fun t ht => by
    rcases List.mem_cons.mp ht with e | ht
    · rw [e]; exact (k_Program_bounds_before X G c).mono (by decide)
    cases ht⟩ rfl (by decide), F.bindsN (fun _ _ _ _ _ _ us hl => match us, hl with | [_, _], _ => rfl)⟩
theorem s_Program_next_column : FnScope N_Program_next_column ["self", "width"] (defScope (mth 74 5)) := ⟨rfl, rfl, rfl, by decide +kernel, rfl, by decide +kernel, by decide +kernel⟩
theorem t_Program_next_column : (trO T N_Program_next_column 0 [] [100] [] [("self", 100)] ["costs"] [] [] false (defScope (mth 74 5)) (defBody (mth 74 5))).map (·.m) = some b_Program_next_column := by kernel_rfl
theorem k_Program_next_column (X : K.In h) (G : h.Ns mainGlobals mg) (c : He.SaysX (faU T ds ++ fo) fn [] [] (exU T) w h K) : MtOk P w K mg base (T.cv K) 1 ("next_column", 100, 1, .pu p_next_column) := by
  obtain ⟨fd, F⟩ := defM_of c (c := "Program") (m := "next_column") (st := mth 74 5) (List.mem_of_getElem? (i := 96) rfl)
  obtain ⟨c1, c2⟩ := meth_of2 (k := 100) (ms := msP) (m := "next_column") foP c (List.mem_of_getElem? (i := 4) rfl)
  exact ⟨_, _, fd, _, rfl, c1, c2, by decide +kernel, pu_ok F (bs_of rfl rfl X G c) s_Program_next_column _ t_Program_next_column trivial ⟨fun k hk => by rw [List.mem_singleton.mp hk]; exact k_clf X c, fun t ht => by
    cases ht⟩ rfl (by decide), F.bindsN (fun _ _ _ _ _ _ us hl => match us, hl with | [_, _], _ => rfl)⟩
theorem s_Program_lower : FnScope N_Program_lower ["self", "width"] (defScope (mth 74 4)) := ⟨rfl, rfl, rfl, by decide +kernel, rfl, by decide +kernel, by decide +kernel⟩
theorem t_Program_lower : (trO T N_Program_lower 4 [] [100] [("bound", 100, 1, .pu p_bound), ("change", 100, 2, .mu u_change), ("next_column", 100, 1, .pu p_next_column)] [("self", 100)] ["costs"] [] [] true (defScope (mth 74 4)) (defBody (mth 74 4))).map (·.m) = some b_Program_lower := by kernel_rfl
theorem k_Program_lower (X : K.In h) (G : h.Ns mainGlobals mg) (c : He.SaysX (faU T ds ++ fo) fn [] [] (exU T) w h K) : MtOk P w K mg base (T.cv K) 5 ("lower", 100, 1, .mu u_lower) := by
  obtain ⟨fd, F⟩ := defM_of c (c := "Program") (m := "lower") (st := mth 74 4) (List.mem_of_getElem? (i := 97) rfl)
  obtain ⟨c1, c2⟩ := meth_of2 (k := 100) (ms := msP) (m := "lower") foP c (List.mem_of_getElem? (i := 5) rfl)
  exact ⟨_, _, fd, _, rfl, c1, c2, by decide +kernel, mu_ok F (bs_of rfl rfl X G c) s_Program_lower _ t_Program_lower trivial ⟨fun k hk => by rw [List.mem_singleton.mp hk]; exact k_clf X c, fun t ht => by
    rcases List.mem_cons.mp ht with e | ht
    · rw [e]; exact (k_Program_bound X G c).mono (by decide)
    rcases List.mem_cons.mp ht with e | ht
    · rw [e]; exact (k_Program_change X G c).mono (by decide)
    rcases List.mem_cons.mp ht with e | ht
    · rw [e]; exact (k_Program_next_column X G c).mono (by decide)
    cases ht⟩ rfl (by decide), F.bindsN (fun _ _ _ _ _ _ us hl => match us, hl with | [_, _], _ => rfl)⟩
theorem s_solved : FnScope N_solved ["rows", "right", "costs"] (defScope (top 77)) := ⟨rfl, rfl, rfl, by decide +kernel, rfl, by decide +kernel, by decide +kernel⟩
theorem t_solved : (trO T N_solved 5 [("cleared", 1, f_cleared), ("without", 3, f_without), ("part", 2, f_part)] [100] [("drop_helpers", 100, 1, .mu u_drop_helpers), ("lower", 100, 1, .mu u_lower), ("started", 100, 3, .nw n_started)] [("program", 100)] ["costs"] ["program"] [] false (defScope (top 77)) (defBody (top 77))).map (·.m) = some b_solved := by kernel_rfl
theorem k_solved (X : K.In h) (G : h.Ns mainGlobals mg) (c : He.SaysX (faU T ds ++ fo) fn [] [] (exU T) w h K) : Kp P w K mg base (T.cv K) 6 "solved" 3 f_solved := by
  obtain ⟨fd, F⟩ := def_of c (x := "solved") (st := top 77) (List.mem_of_getElem? (i := 48) rfl)
  exact kp_ofB F (glo_of X G c (List.mem_of_getElem? (i := 48) rfl)) (bs_of rfl rfl X G c) s_solved rfl (fun _ _ _ _ _ _ us hl => match us, hl with | [_, _, _], _ => rfl) _ t_solved rfl ⟨(k_cleared X G c).mono (by decide), (k_without X G c).mono (by decide), (k_part X G c).mono (by decide), trivial⟩ ⟨fun k hk => by rw [List.mem_singleton.mp hk]; exact k_clf X c, fun t ht => by
    rcases List.mem_cons.mp ht with e | ht
    · rw [e]; exact (k_Program_drop_helpers X G c).mono (by decide)
    rcases List.mem_cons.mp ht with e | ht
    · rw [e]; exact (k_Program_lower X G c).mono (by decide)
    rcases List.mem_cons.mp ht with e | ht
    · rw [e]; exact (k_started X G c).mono (by decide)
    cases ht⟩
theorem s_some_numbers : FnScope N_some_numbers ["rows", "right", "width"] (defScope (top 78)) := ⟨rfl, rfl, rfl, by decide +kernel, rfl, by decide +kernel, by decide +kernel⟩
theorem t_some_numbers : (tr12 (T.s N_some_numbers 6 [("solved", 3, f_solved)]) (defScope (top 78)) (defBody (top 78))).map (·.m) = some b_some_numbers := by kernel_rfl
theorem k_some_numbers (X : K.In h) (G : h.Ns mainGlobals mg) (c : He.SaysX (faU T ds ++ fo) fn [] [] (exU T) w h K) : Kp P w K mg base (T.cv K) 7 "some_numbers" 3 f_some_numbers := by
  obtain ⟨fd, F⟩ := def_of c (x := "some_numbers") (st := top 78) (List.mem_of_getElem? (i := 49) rfl)
  exact kp_ofO F (glo_of X G c (List.mem_of_getElem? (i := 49) rfl)) (bs_of rfl rfl X G c) s_some_numbers rfl (fun _ _ _ _ _ _ us hl => match us, hl with | [_, _, _], _ => rfl) _ t_some_numbers rfl ⟨(k_solved X G c).mono (by decide), trivial⟩
theorem s_with_slack : FnScope N_with_slack ["rows", "signs"] (defScope (top 79)) := ⟨rfl, rfl, rfl, by decide +kernel, rfl, by decide +kernel, by decide +kernel⟩
theorem t_with_slack : (tr12 (T.s N_with_slack 0 []) (defScope (top 79)) (defBody (top 79))).map (·.m) = some b_with_slack := by kernel_rfl
theorem k_with_slack (X : K.In h) (G : h.Ns mainGlobals mg) (c : He.SaysX (faU T ds ++ fo) fn [] [] (exU T) w h K) : Kp P w K mg base (T.cv K) 1 "with_slack" 2 f_with_slack := by
  obtain ⟨fd, F⟩ := def_of c (x := "with_slack") (st := top 79) (List.mem_of_getElem? (i := 50) rfl)
  exact kp_ofO F (glo_of X G c (List.mem_of_getElem? (i := 50) rfl)) (bs_of rfl rfl X G c) s_with_slack rfl (fun _ _ _ _ _ _ us hl => match us, hl with | [_, _], _ => rfl) _ t_with_slack rfl trivial
theorem s_cell_ends : FnScope N_cell_ends ["cell", "sign"] (defScope (top 81)) := ⟨rfl, rfl, rfl, by decide +kernel, rfl, by decide +kernel, by decide +kernel⟩
theorem t_cell_ends : (tr12 (T.s N_cell_ends 0 []) (defScope (top 81)) (defBody (top 81))).map (·.m) = some b_cell_ends := by kernel_rfl
theorem k_cell_ends (X : K.In h) (G : h.Ns mainGlobals mg) (c : He.SaysX (faU T ds ++ fo) fn [] [] (exU T) w h K) : Kp P w K mg base (T.cv K) 1 "cell_ends" 2 f_cell_ends := by
  obtain ⟨fd, F⟩ := def_of c (x := "cell_ends") (st := top 81) (List.mem_of_getElem? (i := 51) rfl)
  exact kp_ofO F (glo_of X G c (List.mem_of_getElem? (i := 51) rfl)) (bs_of rfl rfl X G c) s_cell_ends rfl (fun _ _ _ _ _ _ us hl => match us, hl with | [_, _], _ => rfl) _ t_cell_ends rfl trivial
theorem s_lows : FnScope N_lows ["table", "signs"] (defScope (top 82)) := ⟨rfl, rfl, rfl, by decide +kernel, rfl, by decide +kernel, by decide +kernel⟩
theorem t_lows : (tr12 (T.s N_lows 1 [("cell_ends", 2, f_cell_ends)]) (defScope (top 82)) (defBody (top 82))).map (·.m) = some b_lows := by kernel_rfl
theorem k_lows (X : K.In h) (G : h.Ns mainGlobals mg) (c : He.SaysX (faU T ds ++ fo) fn [] [] (exU T) w h K) : Kp P w K mg base (T.cv K) 2 "lows" 2 f_lows := by
  obtain ⟨fd, F⟩ := def_of c (x := "lows") (st := top 82) (List.mem_of_getElem? (i := 52) rfl)
  exact kp_ofO F (glo_of X G c (List.mem_of_getElem? (i := 52) rfl)) (bs_of rfl rfl X G c) s_lows rfl (fun _ _ _ _ _ _ us hl => match us, hl with | [_, _], _ => rfl) _ t_lows rfl ⟨(k_cell_ends X G c).mono (by decide), trivial⟩
theorem s_highs : FnScope N_highs ["table", "signs"] (defScope (top 83)) := ⟨rfl, rfl, rfl, by decide +kernel, rfl, by decide +kernel, by decide +kernel⟩
theorem t_highs : (tr12 (T.s N_highs 1 [("cell_ends", 2, f_cell_ends)]) (defScope (top 83)) (defBody (top 83))).map (·.m) = some b_highs := by kernel_rfl
theorem k_highs (X : K.In h) (G : h.Ns mainGlobals mg) (c : He.SaysX (faU T ds ++ fo) fn [] [] (exU T) w h K) : Kp P w K mg base (T.cv K) 2 "highs" 2 f_highs := by
  obtain ⟨fd, F⟩ := def_of c (x := "highs") (st := top 83) (List.mem_of_getElem? (i := 53) rfl)
  exact kp_ofO F (glo_of X G c (List.mem_of_getElem? (i := 53) rfl)) (bs_of rfl rfl X G c) s_highs rfl (fun _ _ _ _ _ _ us hl => match us, hl with | [_, _], _ => rfl) _ t_highs rfl ⟨(k_cell_ends X G c).mono (by decide), trivial⟩
theorem s_conditions : FnScope N_conditions ["table", "side", "signs"] (defScope (top 84)) := ⟨rfl, rfl, rfl, by decide +kernel, rfl, by decide +kernel, by decide +kernel⟩
theorem t_conditions : (tr12 (T.s N_conditions 2 [("with_slack", 2, f_with_slack), ("lows", 2, f_lows), ("highs", 2, f_highs)]) (defScope (top 84)) (defBody (top 84))).map (·.m) = some b_conditions := by kernel_rfl
theorem k_conditions (X : K.In h) (G : h.Ns mainGlobals mg) (c : He.SaysX (faU T ds ++ fo) fn [] [] (exU T) w h K) : Kp P w K mg base (T.cv K) 3 "conditions" 3 f_conditions := by
  obtain ⟨fd, F⟩ := def_of c (x := "conditions") (st := top 84) (List.mem_of_getElem? (i := 54) rfl)
  exact kp_ofO F (glo_of X G c (List.mem_of_getElem? (i := 54) rfl)) (bs_of rfl rfl X G c) s_conditions rfl (fun _ _ _ _ _ _ us hl => match us, hl with | [_, _, _], _ => rfl) _ t_conditions rfl ⟨(k_with_slack X G c).mono (by decide), (k_lows X G c).mono (by decide), (k_highs X G c).mono (by decide), trivial⟩
theorem s_amounts_for : FnScope N_amounts_for ["table", "side", "signs"] (defScope (top 85)) := ⟨rfl, rfl, rfl, by decide +kernel, rfl, by decide +kernel, by decide +kernel⟩
theorem t_amounts_for : (tr12 (T.s N_amounts_for 7 [("conditions", 3, f_conditions), ("some_numbers", 3, f_some_numbers)]) (defScope (top 85)) (defBody (top 85))).map (·.m) = some b_amounts_for := by kernel_rfl
theorem k_amounts_for (X : K.In h) (G : h.Ns mainGlobals mg) (c : He.SaysX (faU T ds ++ fo) fn [] [] (exU T) w h K) : Kp P w K mg base (T.cv K) 8 "amounts_for" 3 f_amounts_for := by
  obtain ⟨fd, F⟩ := def_of c (x := "amounts_for") (st := top 85) (List.mem_of_getElem? (i := 55) rfl)
  exact kp_ofO F (glo_of X G c (List.mem_of_getElem? (i := 55) rfl)) (bs_of rfl rfl X G c) s_amounts_for rfl (fun _ _ _ _ _ _ us hl => match us, hl with | [_, _, _], _ => rfl) _ t_amounts_for rfl ⟨(k_conditions X G c).mono (by decide), (k_some_numbers X G c).mono (by decide), trivial⟩
theorem s_with_signs : FnScope N_with_signs ["amounts", "signs"] (defScope (top 86)) := ⟨rfl, rfl, rfl, by decide +kernel, rfl, by decide +kernel, by decide +kernel⟩
theorem t_with_signs : (tr12 (T.s N_with_signs 0 []) (defScope (top 86)) (defBody (top 86))).map (·.m) = some b_with_signs := by kernel_rfl
theorem k_with_signs (X : K.In h) (G : h.Ns mainGlobals mg) (c : He.SaysX (faU T ds ++ fo) fn [] [] (exU T) w h K) : Kp P w K mg base (T.cv K) 1 "with_signs" 2 f_with_signs := by
  obtain ⟨fd, F⟩ := def_of c (x := "with_signs") (st := top 86) (List.mem_of_getElem? (i := 56) rfl)
  exact kp_ofO F (glo_of X G c (List.mem_of_getElem? (i := 56) rfl)) (bs_of rfl rfl X G c) s_with_signs rfl (fun _ _ _ _ _ _ us hl => match us, hl with | [_, _], _ => rfl) _ t_with_signs rfl trivial
theorem s_weights_against : FnScope N_weights_against ["rows", "right", "signs"] (defScope (top 87)) := ⟨rfl, rfl, rfl, by decide +kernel, rfl, by decide +kernel, by decide +kernel⟩
theorem t_weights_against : (tr12 (T.s N_weights_against 7 [("some_numbers", 3, f_some_numbers), ("multiplied", 2, f_multiplied), ("cleared", 1, f_cleared)]) (defScope (top 87)) (defBody (top 87))).map (·.m) = some b_weights_against := by kernel_rfl
theorem k_weights_against (X : K.In h) (G : h.Ns mainGlobals mg) (c : He.SaysX (faU T ds ++ fo) fn [] [] (exU T) w h K) : Kp P w K mg base (T.cv K) 8 "weights_against" 3 f_weights_against := by
  obtain ⟨fd, F⟩ := def_of c (x := "weights_against") (st := top 87) (List.mem_of_getElem? (i := 57) rfl)
  exact kp_ofO F (glo_of X G c (List.mem_of_getElem? (i := 57) rfl)) (bs_of rfl rfl X G c) s_weights_against rfl (fun _ _ _ _ _ _ us hl => match us, hl with | [_, _, _], _ => rfl) _ t_weights_against rfl ⟨(k_some_numbers X G c).mono (by decide), (k_multiplied X G c).mono (by decide), (k_cleared X G c).mono (by decide), trivial⟩
theorem s_ends : FnScope N_ends ["row", "unknowns"] (defScope (top 89)) := ⟨rfl, rfl, rfl, by decide +kernel, rfl, by decide +kernel, by decide +kernel⟩
theorem t_ends : (tr12 (T.s N_ends 3 [("multiplied", 2, f_multiplied), ("added", 2, f_added)]) (defScope (top 89)) (defBody (top 89))).map (·.m) = some b_ends := by kernel_rfl
theorem k_ends (X : K.In h) (G : h.Ns mainGlobals mg) (c : He.SaysX (faU T ds ++ fo) fn [] [] (exU T) w h K) : Kp P w K mg base (T.cv K) 4 "ends" 2 f_ends := by
  obtain ⟨fd, F⟩ := def_of c (x := "ends") (st := top 89) (List.mem_of_getElem? (i := 58) rfl)
  exact kp_ofO F (glo_of X G c (List.mem_of_getElem? (i := 58) rfl)) (bs_of rfl rfl X G c) s_ends rfl (fun _ _ _ _ _ _ us hl => match us, hl with | [_, _], _ => rfl) _ t_ends rfl ⟨(k_multiplied X G c).mono (by decide), (k_added X G c).mono (by decide), trivial⟩
theorem s_check_all : FnScope N_check_all ["table", "side", "unknowns"] (defScope (top 90)) := ⟨rfl, rfl, rfl, by decide +kernel, rfl, by decide +kernel, by decide +kernel⟩
theorem t_check_all : (tr12 (T.s N_check_all 5 [("check_system", 2, f_check_system), ("check_unknowns", 2, f_check_unknowns)]) (defScope (top 90)) (defBody (top 90))).map (·.m) = some b_check_all := by kernel_rfl
theorem k_check_all (X : K.In h) (G : h.Ns mainGlobals mg) (c : He.SaysX (faU T ds ++ fo) fn [] [] (exU T) w h K) : Kp P w K mg base (T.cv K) 6 "check_all" 3 f_check_all := by
  obtain ⟨fd, F⟩ := def_of c (x := "check_all") (st := top 90) (List.mem_of_getElem? (i := 59) rfl)
  exact kp_ofO F (glo_of X G c (List.mem_of_getElem? (i := 59) rfl)) (bs_of rfl rfl X G c) s_check_all rfl (fun _ _ _ _ _ _ us hl => match us, hl with | [_, _, _], _ => rfl) _ t_check_all rfl ⟨(k_check_system X G c).mono (by decide), (k_check_unknowns X G c).mono (by decide), trivial⟩
theorem s_some_solve : FnScope N_some_solve ["table", "side", "unknowns"] (defScope (top 91)) := ⟨rfl, rfl, rfl, by decide +kernel, rfl, by decide +kernel, by decide +kernel⟩
theorem t_some_solve : (tr12 (T.s N_some_solve 4 [("ends", 2, f_ends), ("below", 2, f_below)]) (defScope (top 91)) (defBody (top 91))).map (·.m) = some b_some_solve := by kernel_rfl
theorem k_some_solve (X : K.In h) (G : h.Ns mainGlobals mg) (c : He.SaysX (faU T ds ++ fo) fn [] [] (exU T) w h K) : Kp P w K mg base (T.cv K) 5 "some_solve" 3 f_some_solve := by
  obtain ⟨fd, F⟩ := def_of c (x := "some_solve") (st := top 91) (List.mem_of_getElem? (i := 60) rfl)
  exact kp_ofO F (glo_of X G c (List.mem_of_getElem? (i := 60) rfl)) (bs_of rfl rfl X G c) s_some_solve rfl (fun _ _ _ _ _ _ us hl => match us, hl with | [_, _, _], _ => rfl) _ t_some_solve rfl ⟨(k_ends X G c).mono (by decide), (k_below X G c).mono (by decide), trivial⟩
theorem s_solves_some : FnScope N_solves_some ["table", "side", "unknowns"] (defScope (top 92)) := ⟨rfl, rfl, rfl, by decide +kernel, rfl, by decide +kernel, by decide +kernel⟩
theorem t_solves_some : (tr12 (T.s N_solves_some 6 [("check_all", 3, f_check_all), ("some_solve", 3, f_some_solve)]) (defScope (top 92)) (defBody (top 92))).map (·.m) = some b_solves_some := by kernel_rfl
theorem k_solves_some (X : K.In h) (G : h.Ns mainGlobals mg) (c : He.SaysX (faU T ds ++ fo) fn [] [] (exU T) w h K) : Kp P w K mg base (T.cv K) 7 "solves_some" 3 f_solves_some := by
  obtain ⟨fd, F⟩ := def_of c (x := "solves_some") (st := top 92) (List.mem_of_getElem? (i := 61) rfl)
  exact kp_ofO F (glo_of X G c (List.mem_of_getElem? (i := 61) rfl)) (bs_of rfl rfl X G c) s_solves_some rfl (fun _ _ _ _ _ _ us hl => match us, hl with | [_, _, _], _ => rfl) _ t_solves_some rfl ⟨(k_check_all X G c).mono (by decide), (k_some_solve X G c).mono (by decide), trivial⟩
theorem s_row_choice : FnScope N_row_choice ["row", "unknowns", "goal"] (defScope (top 93)) := ⟨rfl, rfl, rfl, by decide +kernel, rfl, by decide +kernel, by decide +kernel⟩
theorem t_row_choice : (tr12 (T.s N_row_choice 4 [("ends", 2, f_ends), ("shared", 2, f_shared), ("taken", 2, f_taken), ("added", 2, f_added), ("multiplied", 2, f_multiplied)]) (defScope (top 93)) (defBody (top 93))).map (·.m) = some b_row_choice := by kernel_rfl
theorem k_row_choice (X : K.In h) (G : h.Ns mainGlobals mg) (c : He.SaysX (faU T ds ++ fo) fn [] [] (exU T) w h K) : Kp P w K mg base (T.cv K) 5 "row_choice" 3 f_row_choice := by
  obtain ⟨fd, F⟩ := def_of c (x := "row_choice") (st := top 93) (List.mem_of_getElem? (i := 62) rfl)
  exact kp_ofO F (glo_of X G c (List.mem_of_getElem? (i := 62) rfl)) (bs_of rfl rfl X G c) s_row_choice rfl (fun _ _ _ _ _ _ us hl => match us, hl with | [_, _, _], _ => rfl) _ t_row_choice rfl ⟨(k_ends X G c).mono (by decide), (k_shared X G c).mono (by decide), (k_taken X G c).mono (by decide), (k_added X G c).mono (by decide), (k_multiplied X G c).mono (by decide), trivial⟩
theorem s_made_choice : FnScope N_made_choice ["table", "side", "unknowns"] (defScope (top 94)) := ⟨rfl, rfl, rfl, by decide +kernel, rfl, by decide +kernel, by decide +kernel⟩
theorem t_made_choice : (tr12 (T.s N_made_choice 5 [("ends", 2, f_ends), ("below", 2, f_below), ("row_choice", 3, f_row_choice)]) (defScope (top 94)) (defBody (top 94))).map (·.m) = some b_made_choice := by kernel_rfl
theorem k_made_choice (X : K.In h) (G : h.Ns mainGlobals mg) (c : He.SaysX (faU T ds ++ fo) fn [] [] (exU T) w h K) : Kp P w K mg base (T.cv K) 6 "made_choice" 3 f_made_choice := by
  obtain ⟨fd, F⟩ := def_of c (x := "made_choice") (st := top 94) (List.mem_of_getElem? (i := 63) rfl)
  exact kp_ofO F (glo_of X G c (List.mem_of_getElem? (i := 63) rfl)) (bs_of rfl rfl X G c) s_made_choice rfl (fun _ _ _ _ _ _ us hl => match us, hl with | [_, _, _], _ => rfl) _ t_made_choice rfl ⟨(k_ends X G c).mono (by decide), (k_below X G c).mono (by decide), (k_row_choice X G c).mono (by decide), trivial⟩
theorem s_some_unknowns : FnScope N_some_unknowns ["table", "side"] (defScope (top 96)) := ⟨rfl, rfl, rfl, by decide +kernel, rfl, by decide +kernel, by decide +kernel⟩
theorem t_some_unknowns : (tr12 (T.s N_some_unknowns 8 [("all_signs", 1, f_all_signs), ("amounts_for", 3, f_amounts_for), ("with_signs", 2, f_with_signs)]) (defScope (top 96)) (defBody (top 96))).map (·.m) = some b_some_unknowns := by kernel_rfl
theorem k_some_unknowns (X : K.In h) (G : h.Ns mainGlobals mg) (c : He.SaysX (faU T ds ++ fo) fn [] [] (exU T) w h K) : Kp P w K mg base (T.cv K) 9 "some_unknowns" 2 f_some_unknowns := by
  obtain ⟨fd, F⟩ := def_of c (x := "some_unknowns") (st := top 96) (List.mem_of_getElem? (i := 64) rfl)
  exact kp_ofO F (glo_of X G c (List.mem_of_getElem? (i := 64) rfl)) (bs_of rfl rfl X G c) s_some_unknowns rfl (fun _ _ _ _ _ _ us hl => match us, hl with | [_, _], _ => rfl) _ t_some_unknowns rfl ⟨(k_all_signs X G c).mono (by decide), (k_amounts_for X G c).mono (by decide), (k_with_signs X G c).mono (by decide), trivial⟩
theorem s_can_solve : FnScope N_can_solve ["table", "side"] (defScope (top 97)) := ⟨rfl, rfl, rfl, by decide +kernel, rfl, by decide +kernel, by decide +kernel⟩
theorem t_can_solve : (tr12 (T.s N_can_solve 9 [("check_system", 2, f_check_system), ("some_unknowns", 2, f_some_unknowns)]) (defScope (top 97)) (defBody (top 97))).map (·.m) = some b_can_solve := by kernel_rfl
theorem k_can_solve (X : K.In h) (G : h.Ns mainGlobals mg) (c : He.SaysX (faU T ds ++ fo) fn [] [] (exU T) w h K) : Kp P w K mg base (T.cv K) 10 "can_solve" 2 f_can_solve := by
  obtain ⟨fd, F⟩ := def_of c (x := "can_solve") (st := top 97) (List.mem_of_getElem? (i := 65) rfl)
  exact kp_ofO F (glo_of X G c (List.mem_of_getElem? (i := 65) rfl)) (bs_of rfl rfl X G c) s_can_solve rfl (fun _ _ _ _ _ _ us hl => match us, hl with | [_, _], _ => rfl) _ t_can_solve rfl ⟨(k_check_system X G c).mono (by decide), (k_some_unknowns X G c).mono (by decide), trivial⟩
theorem s_a_solution : FnScope N_a_solution ["table", "side"] (defScope (top 98)) := ⟨rfl, rfl, rfl, by decide +kernel, rfl, by decide +kernel, by decide +kernel⟩
theorem t_a_solution : (tr12 (T.s N_a_solution 9 [("check_system", 2, f_check_system), ("some_unknowns", 2, f_some_unknowns), ("made_choice", 3, f_made_choice)]) (defScope (top 98)) (defBody (top 98))).map (·.m) = some b_a_solution := by kernel_rfl
theorem k_a_solution (X : K.In h) (G : h.Ns mainGlobals mg) (c : He.SaysX (faU T ds ++ fo) fn [] [] (exU T) w h K) : Kp P w K mg base (T.cv K) 10 "a_solution" 2 f_a_solution := by
  obtain ⟨fd, F⟩ := def_of c (x := "a_solution") (st := top 98) (List.mem_of_getElem? (i := 66) rfl)
  exact kp_ofO F (glo_of X G c (List.mem_of_getElem? (i := 66) rfl)) (bs_of rfl rfl X G c) s_a_solution rfl (fun _ _ _ _ _ _ us hl => match us, hl with | [_, _], _ => rfl) _ t_a_solution rfl ⟨(k_check_system X G c).mono (by decide), (k_some_unknowns X G c).mono (by decide), (k_made_choice X G c).mono (by decide), trivial⟩
theorem s_bounds_of : FnScope N_bounds_of ["table", "side", "signs"] (defScope (top 99)) := ⟨rfl, rfl, rfl, by decide +kernel, rfl, by decide +kernel, by decide +kernel⟩
theorem t_bounds_of : (tr12 (T.s N_bounds_of 2 [("lows", 2, f_lows), ("highs", 2, f_highs)]) (defScope (top 99)) (defBody (top 99))).map (·.m) = some b_bounds_of := by kernel_rfl
theorem k_bounds_of (X : K.In h) (G : h.Ns mainGlobals mg) (c : He.SaysX (faU T ds ++ fo) fn [] [] (exU T) w h K) : Kp P w K mg base (T.cv K) 3 "bounds_of" 3 f_bounds_of := by
  obtain ⟨fd, F⟩ := def_of c (x := "bounds_of") (st := top 99) (List.mem_of_getElem? (i := 67) rfl)
  exact kp_ofO F (glo_of X G c (List.mem_of_getElem? (i := 67) rfl)) (bs_of rfl rfl X G c) s_bounds_of rfl (fun _ _ _ _ _ _ us hl => match us, hl with | [_, _, _], _ => rfl) _ t_bounds_of rfl ⟨(k_lows X G c).mono (by decide), (k_highs X G c).mono (by decide), trivial⟩
theorem s_papers : FnScope N_papers ["table", "side"] (defScope (top 100)) := ⟨rfl, rfl, rfl, by decide +kernel, rfl, by decide +kernel, by decide +kernel⟩
theorem t_papers : (tr12 (T.s N_papers 8 [("check_system", 2, f_check_system), ("all_signs", 1, f_all_signs), ("bounds_of", 3, f_bounds_of), ("weights_against", 3, f_weights_against)]) (defScope (top 100)) (defBody (top 100))).map (·.m) = some b_papers := by kernel_rfl
theorem k_papers (X : K.In h) (G : h.Ns mainGlobals mg) (c : He.SaysX (faU T ds ++ fo) fn [] [] (exU T) w h K) : Kp P w K mg base (T.cv K) 9 "papers" 2 f_papers := by
  obtain ⟨fd, F⟩ := def_of c (x := "papers") (st := top 100) (List.mem_of_getElem? (i := 68) rfl)
  exact kp_ofO F (glo_of X G c (List.mem_of_getElem? (i := 68) rfl)) (bs_of rfl rfl X G c) s_papers rfl (fun _ _ _ _ _ _ us hl => match us, hl with | [_, _], _ => rfl) _ t_papers rfl ⟨(k_check_system X G c).mono (by decide), (k_all_signs X G c).mono (by decide), (k_bounds_of X G c).mono (by decide), (k_weights_against X G c).mono (by decide), trivial⟩
theorem s_cell_text : FnScope N_cell_text ["cell"] (defScope (top 103)) := ⟨rfl, rfl, rfl, by decide +kernel, rfl, by decide +kernel, by decide +kernel⟩
theorem t_cell_text : (tr12 (T.s N_cell_text 0 []) (defScope (top 103)) (defBody (top 103))).map (·.m) = some b_cell_text := by kernel_rfl
theorem k_cell_text (X : K.In h) (G : h.Ns mainGlobals mg) (c : He.SaysX (faU T ds ++ fo) fn [] [] (exU T) w h K) : Kp P w K mg base (T.cv K) 1 "cell_text" 1 f_cell_text := by
  obtain ⟨fd, F⟩ := def_of c (x := "cell_text") (st := top 103) (List.mem_of_getElem? (i := 69) rfl)
  exact kp_ofO F (glo_of X G c (List.mem_of_getElem? (i := 69) rfl)) (bs_of rfl rfl X G c) s_cell_text rfl (fun _ _ _ _ _ _ us hl => match us, hl with | [_], _ => rfl) _ t_cell_text rfl trivial
theorem s_row_text : FnScope N_row_text ["row"] (defScope (top 104)) := ⟨rfl, rfl, rfl, by decide +kernel, rfl, by decide +kernel, by decide +kernel⟩
theorem t_row_text : (tr12 (T.s N_row_text 1 [("cell_text", 1, f_cell_text)]) (defScope (top 104)) (defBody (top 104))).map (·.m) = some b_row_text := by kernel_rfl
theorem k_row_text (X : K.In h) (G : h.Ns mainGlobals mg) (c : He.SaysX (faU T ds ++ fo) fn [] [] (exU T) w h K) : Kp P w K mg base (T.cv K) 2 "row_text" 1 f_row_text := by
  obtain ⟨fd, F⟩ := def_of c (x := "row_text") (st := top 104) (List.mem_of_getElem? (i := 70) rfl)
  exact kp_ofO F (glo_of X G c (List.mem_of_getElem? (i := 70) rfl)) (bs_of rfl rfl X G c) s_row_text rfl (fun _ _ _ _ _ _ us hl => match us, hl with | [_], _ => rfl) _ t_row_text rfl ⟨(k_cell_text X G c).mono (by decide), trivial⟩
theorem s_table_text : FnScope N_table_text ["table"] (defScope (top 105)) := ⟨rfl, rfl, rfl, by decide +kernel, rfl, by decide +kernel, by decide +kernel⟩
theorem t_table_text : (tr12 (T.s N_table_text 2 [("row_text", 1, f_row_text)]) (defScope (top 105)) (defBody (top 105))).map (·.m) = some b_table_text := by kernel_rfl
theorem k_table_text (X : K.In h) (G : h.Ns mainGlobals mg) (c : He.SaysX (faU T ds ++ fo) fn [] [] (exU T) w h K) : Kp P w K mg base (T.cv K) 3 "table_text" 1 f_table_text := by
  obtain ⟨fd, F⟩ := def_of c (x := "table_text") (st := top 105) (List.mem_of_getElem? (i := 71) rfl)
  exact kp_ofO F (glo_of X G c (List.mem_of_getElem? (i := 71) rfl)) (bs_of rfl rfl X G c) s_table_text rfl (fun _ _ _ _ _ _ us hl => match us, hl with | [_], _ => rfl) _ t_table_text rfl ⟨(k_row_text X G c).mono (by decide), trivial⟩
theorem s_number_of : FnScope N_number_of ["word"] (defScope (top 106)) := ⟨rfl, rfl, rfl, by decide +kernel, rfl, by decide +kernel, by decide +kernel⟩
theorem t_number_of : (tr12 (T.s N_number_of 0 []) (defScope (top 106)) (defBody (top 106))).map (·.m) = some b_number_of := by kernel_rfl
theorem k_number_of (X : K.In h) (G : h.Ns mainGlobals mg) (c : He.SaysX (faU T ds ++ fo) fn [] [] (exU T) w h K) : Kp P w K mg base (T.cv K) 1 "number_of" 1 f_number_of := by
  obtain ⟨fd, F⟩ := def_of c (x := "number_of") (st := top 106) (List.mem_of_getElem? (i := 72) rfl)
  exact kp_ofO F (glo_of X G c (List.mem_of_getElem? (i := 72) rfl)) (bs_of rfl rfl X G c) s_number_of rfl (fun _ _ _ _ _ _ us hl => match us, hl with | [_], _ => rfl) _ t_number_of rfl trivial
theorem s_cell_of : FnScope N_cell_of ["word"] (defScope (top 107)) := ⟨rfl, rfl, rfl, by decide +kernel, rfl, by decide +kernel, by decide +kernel⟩
theorem t_cell_of : (tr12 (T.s N_cell_of 1 [("number_of", 1, f_number_of)]) (defScope (top 107)) (defBody (top 107))).map (·.m) = some b_cell_of := by kernel_rfl
theorem k_cell_of (X : K.In h) (G : h.Ns mainGlobals mg) (c : He.SaysX (faU T ds ++ fo) fn [] [] (exU T) w h K) : Kp P w K mg base (T.cv K) 2 "cell_of" 1 f_cell_of := by
  obtain ⟨fd, F⟩ := def_of c (x := "cell_of") (st := top 107) (List.mem_of_getElem? (i := 73) rfl)
  exact kp_ofO F (glo_of X G c (List.mem_of_getElem? (i := 73) rfl)) (bs_of rfl rfl X G c) s_cell_of rfl (fun _ _ _ _ _ _ us hl => match us, hl with | [_], _ => rfl) _ t_cell_of rfl ⟨(k_number_of X G c).mono (by decide), trivial⟩
theorem s_row_of : FnScope N_row_of ["text"] (defScope (top 108)) := ⟨rfl, rfl, rfl, by decide +kernel, rfl, by decide +kernel, by decide +kernel⟩
theorem t_row_of : (tr12 (T.s N_row_of 2 [("cell_of", 1, f_cell_of)]) (defScope (top 108)) (defBody (top 108))).map (·.m) = some b_row_of := by kernel_rfl
theorem k_row_of (X : K.In h) (G : h.Ns mainGlobals mg) (c : He.SaysX (faU T ds ++ fo) fn [] [] (exU T) w h K) : Kp P w K mg base (T.cv K) 3 "row_of" 1 f_row_of := by
  obtain ⟨fd, F⟩ := def_of c (x := "row_of") (st := top 108) (List.mem_of_getElem? (i := 74) rfl)
  exact kp_ofO F (glo_of X G c (List.mem_of_getElem? (i := 74) rfl)) (bs_of rfl rfl X G c) s_row_of rfl (fun _ _ _ _ _ _ us hl => match us, hl with | [_], _ => rfl) _ t_row_of rfl ⟨(k_cell_of X G c).mono (by decide), trivial⟩
theorem s_parse_table : FnScope N_parse_table ["text"] (defScope (top 109)) := ⟨rfl, rfl, rfl, by decide +kernel, rfl, by decide +kernel, by decide +kernel⟩
theorem t_parse_table : (tr12 (T.s N_parse_table 3 [("row_of", 1, f_row_of), ("is_table", 1, f_is_table), ("table_text", 1, f_table_text)]) (defScope (top 109)) (defBody (top 109))).map (·.m) = some b_parse_table := by kernel_rfl
theorem k_parse_table (X : K.In h) (G : h.Ns mainGlobals mg) (c : He.SaysX (faU T ds ++ fo) fn [] [] (exU T) w h K) : Kp P w K mg base (T.cv K) 4 "parse_table" 1 f_parse_table := by
  obtain ⟨fd, F⟩ := def_of c (x := "parse_table") (st := top 109) (List.mem_of_getElem? (i := 75) rfl)
  exact kp_ofO F (glo_of X G c (List.mem_of_getElem? (i := 75) rfl)) (bs_of rfl rfl X G c) s_parse_table rfl (fun _ _ _ _ _ _ us hl => match us, hl with | [_], _ => rfl) _ t_parse_table rfl ⟨(k_row_of X G c).mono (by decide), (k_is_table X G c).mono (by decide), (k_table_text X G c).mono (by decide), trivial⟩
theorem s_check_two : FnScope N_check_two ["one", "other"] (defScope (top 113)) := ⟨rfl, rfl, rfl, by decide +kernel, rfl, by decide +kernel, by decide +kernel⟩
theorem t_check_two : (tr12 (T.s N_check_two 4 [("check_table", 1, f_check_table)]) (defScope (top 113)) (defBody (top 113))).map (·.m) = some b_check_two := by kernel_rfl
theorem k_check_two (X : K.In h) (G : h.Ns mainGlobals mg) (c : He.SaysX (faU T ds ++ fo) fn [] [] (exU T) w h K) : Kp P w K mg base (T.cv K) 5 "check_two" 2 f_check_two := by
  obtain ⟨fd, F⟩ := def_of c (x := "check_two") (st := top 113) (List.mem_of_getElem? (i := 76) rfl)
  exact kp_ofO F (glo_of X G c (List.mem_of_getElem? (i := 76) rfl)) (bs_of rfl rfl X G c) s_check_two rfl (fun _ _ _ _ _ _ us hl => match us, hl with | [_, _], _ => rfl) _ t_check_two rfl ⟨(k_check_table X G c).mono (by decide), trivial⟩
theorem s_plus : FnScope N_plus ["one", "other"] (defScope (top 114)) := ⟨rfl, rfl, rfl, by decide +kernel, rfl, by decide +kernel, by decide +kernel⟩
theorem t_plus : (tr12 (T.s N_plus 5 [("check_two", 2, f_check_two)]) (defScope (top 114)) (defBody (top 114))).map (·.m) = some b_plus := by kernel_rfl
theorem k_plus (X : K.In h) (G : h.Ns mainGlobals mg) (c : He.SaysX (faU T ds ++ fo) fn [] [] (exU T) w h K) : Kp P w K mg base (T.cv K) 6 "plus" 2 f_plus := by
  obtain ⟨fd, F⟩ := def_of c (x := "plus") (st := top 114) (List.mem_of_getElem? (i := 77) rfl)
  exact kp_ofO F (glo_of X G c (List.mem_of_getElem? (i := 77) rfl)) (bs_of rfl rfl X G c) s_plus rfl (fun _ _ _ _ _ _ us hl => match us, hl with | [_, _], _ => rfl) _ t_plus rfl ⟨(k_check_two X G c).mono (by decide), trivial⟩
theorem s_widened : FnScope N_widened ["table", "amount"] (defScope (top 115)) := ⟨rfl, rfl, rfl, by decide +kernel, rfl, by decide +kernel, by decide +kernel⟩
theorem t_widened : (tr12 (T.s N_widened 4 [("check_table", 1, f_check_table), ("in_range", 3, f_in_range)]) (defScope (top 115)) (defBody (top 115))).map (·.m) = some b_widened := by kernel_rfl
theorem k_widened (X : K.In h) (G : h.Ns mainGlobals mg) (c : He.SaysX (faU T ds ++ fo) fn [] [] (exU T) w h K) : Kp P w K mg base (T.cv K) 5 "widened" 2 f_widened := by
  obtain ⟨fd, F⟩ := def_of c (x := "widened") (st := top 115) (List.mem_of_getElem? (i := 78) rfl)
  exact kp_ofO F (glo_of X G c (List.mem_of_getElem? (i := 78) rfl)) (bs_of rfl rfl X G c) s_widened rfl (fun _ _ _ _ _ _ us hl => match us, hl with | [_, _], _ => rfl) _ t_widened rfl ⟨(k_check_table X G c).mono (by decide), (k_in_range X G c).mono (by decide), trivial⟩
theorem s_overlap : FnScope N_overlap ["one", "other"] (defScope (top 116)) := ⟨rfl, rfl, rfl, by decide +kernel, rfl, by decide +kernel, by decide +kernel⟩
theorem t_overlap : (tr12 (T.s N_overlap 5 [("check_two", 2, f_check_two)]) (defScope (top 116)) (defBody (top 116))).map (·.m) = some b_overlap := by kernel_rfl
theorem k_overlap (X : K.In h) (G : h.Ns mainGlobals mg) (c : He.SaysX (faU T ds ++ fo) fn [] [] (exU T) w h K) : Kp P w K mg base (T.cv K) 6 "overlap" 2 f_overlap := by
  obtain ⟨fd, F⟩ := def_of c (x := "overlap") (st := top 116) (List.mem_of_getElem? (i := 79) rfl)
  exact kp_ofO F (glo_of X G c (List.mem_of_getElem? (i := 79) rfl)) (bs_of rfl rfl X G c) s_overlap rfl (fun _ _ _ _ _ _ us hl => match us, hl with | [_, _], _ => rfl) _ t_overlap rfl ⟨(k_check_two X G c).mono (by decide), trivial⟩
theorem s_end_choices_of : FnScope N_end_choices_of ["table"] (defScope (top 119)) := ⟨rfl, rfl, rfl, by decide +kernel, rfl, by decide +kernel, by decide +kernel⟩
theorem t_end_choices_of : (tr12 (T.s N_end_choices_of 4 [("check_table", 1, f_check_table), ("end_choices", 1, f_end_choices), ("open_places", 1, f_open_places)]) (defScope (top 119)) (defBody (top 119))).map (·.m) = some b_end_choices_of := by kernel_rfl
theorem k_end_choices_of (X : K.In h) (G : h.Ns mainGlobals mg) (c : He.SaysX (faU T ds ++ fo) fn [] [] (exU T) w h K) : Kp P w K mg base (T.cv K) 5 "end_choices_of" 1 f_end_choices_of := by
  obtain ⟨fd, F⟩ := def_of c (x := "end_choices_of") (st := top 119) (List.mem_of_getElem? (i := 80) rfl)
  exact kp_ofO F (glo_of X G c (List.mem_of_getElem? (i := 80) rfl)) (bs_of rfl rfl X G c) s_end_choices_of rfl (fun _ _ _ _ _ _ us hl => match us, hl with | [_], _ => rfl) _ t_end_choices_of rfl ⟨(k_check_table X G c).mono (by decide), (k_end_choices X G c).mono (by decide), (k_open_places X G c).mono (by decide), trivial⟩
theorem s_orthant_end : FnScope N_orthant_end ["table", "side", "signs", "index", "goal"] (defScope (top 121)) := ⟨rfl, rfl, rfl, by decide +kernel, rfl, by decide +kernel, by decide +kernel⟩
theorem t_orthant_end : (tr12 (T.s N_orthant_end 6 [("conditions", 3, f_conditions), ("solved", 3, f_solved), ("with_signs", 2, f_with_signs)]) (defScope (top 121)) (defBody (top 121))).map (·.m) = some b_orthant_end := by kernel_rfl
theorem k_orthant_end (X : K.In h) (G : h.Ns mainGlobals mg) (c : He.SaysX (faU T ds ++ fo) fn [] [] (exU T) w h K) : Kp P w K mg base (T.cv K) 7 "orthant_end" 5 f_orthant_end := by
  obtain ⟨fd, F⟩ := def_of c (x := "orthant_end") (st := top 121) (List.mem_of_getElem? (i := 81) rfl)
  exact kp_ofO F (glo_of X G c (List.mem_of_getElem? (i := 81) rfl)) (bs_of rfl rfl X G c) s_orthant_end rfl (fun _ _ _ _ _ _ us hl => match us, hl with | [_, _, _, _, _], _ => rfl) _ t_orthant_end rfl ⟨(k_conditions X G c).mono (by decide), (k_solved X G c).mono (by decide), (k_with_signs X G c).mono (by decide), trivial⟩
theorem s_is_beyond : FnScope N_is_beyond ["one", "other", "goal"] (defScope (top 123)) := ⟨rfl, rfl, rfl, by decide +kernel, rfl, by decide +kernel, by decide +kernel⟩
theorem t_is_beyond : (tr12 (T.s N_is_beyond 1 [("below", 2, f_below)]) (defScope (top 123)) (defBody (top 123))).map (·.m) = some b_is_beyond := by kernel_rfl
theorem k_is_beyond (X : K.In h) (G : h.Ns mainGlobals mg) (c : He.SaysX (faU T ds ++ fo) fn [] [] (exU T) w h K) : Kp P w K mg base (T.cv K) 2 "is_beyond" 3 f_is_beyond := by
  obtain ⟨fd, F⟩ := def_of c (x := "is_beyond") (st := top 123) (List.mem_of_getElem? (i := 82) rfl)
  exact kp_ofO F (glo_of X G c (List.mem_of_getElem? (i := 82) rfl)) (bs_of rfl rfl X G c) s_is_beyond rfl (fun _ _ _ _ _ _ us hl => match us, hl with | [_, _, _], _ => rfl) _ t_is_beyond rfl ⟨(k_below X G c).mono (by decide), trivial⟩
theorem s_reached : FnScope N_reached ["table", "side", "index", "goal"] (defScope (top 122)) := ⟨rfl, rfl, rfl, by decide +kernel, rfl, by decide +kernel, by decide +kernel⟩
theorem t_reached : (tr12 (T.s N_reached 7 [("all_signs", 1, f_all_signs), ("orthant_end", 5, f_orthant_end), ("is_beyond", 3, f_is_beyond)]) (defScope (top 122)) (defBody (top 122))).map (·.m) = some b_reached := by kernel_rfl
theorem k_reached (X : K.In h) (G : h.Ns mainGlobals mg) (c : He.SaysX (faU T ds ++ fo) fn [] [] (exU T) w h K) : Kp P w K mg base (T.cv K) 8 "reached" 4 f_reached := by
  obtain ⟨fd, F⟩ := def_of c (x := "reached") (st := top 122) (List.mem_of_getElem? (i := 83) rfl)
  exact kp_ofO F (glo_of X G c (List.mem_of_getElem? (i := 83) rfl)) (bs_of rfl rfl X G c) s_reached rfl (fun _ _ _ _ _ _ us hl => match us, hl with | [_, _, _, _], _ => rfl) _ t_reached rfl ⟨(k_all_signs X G c).mono (by decide), (k_orthant_end X G c).mono (by decide), (k_is_beyond X G c).mono (by decide), trivial⟩
theorem s_span_of : FnScope N_span_of ["table", "side", "index"] (defScope (top 124)) := ⟨rfl, rfl, rfl, by decide +kernel, rfl, by decide +kernel, by decide +kernel⟩
theorem t_span_of : (tr12 (T.s N_span_of 8 [("reached", 4, f_reached)]) (defScope (top 124)) (defBody (top 124))).map (·.m) = some b_span_of := by kernel_rfl
theorem k_span_of (X : K.In h) (G : h.Ns mainGlobals mg) (c : He.SaysX (faU T ds ++ fo) fn [] [] (exU T) w h K) : Kp P w K mg base (T.cv K) 9 "span_of" 3 f_span_of := by
  obtain ⟨fd, F⟩ := def_of c (x := "span_of") (st := top 124) (List.mem_of_getElem? (i := 84) rfl)
  exact kp_ofO F (glo_of X G c (List.mem_of_getElem? (i := 84) rfl)) (bs_of rfl rfl X G c) s_span_of rfl (fun _ _ _ _ _ _ us hl => match us, hl with | [_, _, _], _ => rfl) _ t_span_of rfl ⟨(k_reached X G c).mono (by decide), trivial⟩
theorem s_unknown_span : FnScope N_unknown_span ["table", "side", "index"] (defScope (top 125)) := ⟨rfl, rfl, rfl, by decide +kernel, rfl, by decide +kernel, by decide +kernel⟩
theorem t_unknown_span : (tr12 (T.s N_unknown_span 9 [("check_system", 2, f_check_system), ("check_index", 2, f_check_index), ("span_of", 3, f_span_of)]) (defScope (top 125)) (defBody (top 125))).map (·.m) = some b_unknown_span := by kernel_rfl
theorem k_unknown_span (X : K.In h) (G : h.Ns mainGlobals mg) (c : He.SaysX (faU T ds ++ fo) fn [] [] (exU T) w h K) : Kp P w K mg base (T.cv K) 10 "unknown_span" 3 f_unknown_span := by
  obtain ⟨fd, F⟩ := def_of c (x := "unknown_span") (st := top 125) (List.mem_of_getElem? (i := 85) rfl)
  exact kp_ofO F (glo_of X G c (List.mem_of_getElem? (i := 85) rfl)) (bs_of rfl rfl X G c) s_unknown_span rfl (fun _ _ _ _ _ _ us hl => match us, hl with | [_, _, _], _ => rfl) _ t_unknown_span rfl ⟨(k_check_system X G c).mono (by decide), (k_check_index X G c).mono (by decide), (k_span_of X G c).mono (by decide), trivial⟩
theorem s_inverse_span : FnScope N_inverse_span ["table", "row", "column"] (defScope (top 126)) := ⟨rfl, rfl, rfl, by decide +kernel, rfl, by decide +kernel, by decide +kernel⟩
theorem t_inverse_span : (tr12 (T.s N_inverse_span 10 [("check_square", 1, f_check_square), ("span_of", 3, f_span_of), ("sure", 1, f_sure), ("in_range", 3, f_in_range)]) (defScope (top 126)) (defBody (top 126))).map (·.m) = some b_inverse_span := by kernel_rfl
theorem k_inverse_span (X : K.In h) (G : h.Ns mainGlobals mg) (c : He.SaysX (faU T ds ++ fo) fn [] [] (exU T) w h K) : Kp P w K mg base (T.cv K) 11 "inverse_span" 3 f_inverse_span := by
  obtain ⟨fd, F⟩ := def_of c (x := "inverse_span") (st := top 126) (List.mem_of_getElem? (i := 86) rfl)
  exact kp_ofO F (glo_of X G c (List.mem_of_getElem? (i := 86) rfl)) (bs_of rfl rfl X G c) s_inverse_span rfl (fun _ _ _ _ _ _ us hl => match us, hl with | [_, _, _], _ => rfl) _ t_inverse_span rfl ⟨(k_check_square X G c).mono (by decide), (k_span_of X G c).mono (by decide), (k_sure X G c).mono (by decide), (k_in_range X G c).mono (by decide), trivial⟩
theorem s_law_cell : FnScope N_law_cell ["script", "k"] (defScope (top 128)) := ⟨rfl, rfl, rfl, by decide +kernel, rfl, by decide +kernel, by decide +kernel⟩
theorem t_law_cell : (tr12 (T.s N_law_cell 0 []) (defScope (top 128)) (defBody (top 128))).map (·.m) = some b_law_cell := by kernel_rfl
theorem k_law_cell (X : K.In h) (G : h.Ns mainGlobals mg) (c : He.SaysX (faU T ds ++ fo) fn [] [] (exU T) w h K) : Kp P w K mg base (T.cv K) 1 "_law_cell" 2 f_law_cell := by
  obtain ⟨fd, F⟩ := def_of c (x := "_law_cell") (st := top 128) (List.mem_of_getElem? (i := 87) rfl)
  exact kp_ofO F (glo_of X G c (List.mem_of_getElem? (i := 87) rfl)) (bs_of rfl rfl X G c) s_law_cell rfl (fun _ _ _ _ _ _ us hl => match us, hl with | [_, _], _ => rfl) _ t_law_cell rfl trivial
theorem k_clw (X : K.In h) (c : He.SaysX (faU T ds ++ fo) fn [] [] (exU T) w h K) : ClF K (T.cv K) 101 := clf_of2 (ms := ["undo"]) foW rfl c
theorem s_Workbook_init : FnScope ["self", "table", "side"] ["self", "table", "side"] (defScope (mth 111 0)) := ⟨rfl, rfl, rfl, by decide +kernel, rfl, by decide +kernel, by decide +kernel⟩
theorem s_Workbook_undo : FnScope N_Workbook_undo ["self"] (defScope (mth 111 8)) := ⟨rfl, rfl, rfl, by decide +kernel, rfl, by decide +kernel, by decide +kernel⟩
theorem t_Workbook_undo : (trOB T N_Workbook_undo 0 [] [101] [] [("self", 101)] (defScope (mth 111 8)) (defBody (mth 111 8))).map (·.m) = some b_Workbook_undo := by kernel_rfl
theorem k_wu {kk : Nat} (hk : 7 ≤ kk) (X : K.In h) (G : h.Ns mainGlobals mg) (c : He.SaysX (faU T ds ++ fo) fn [] [] (exU T) w h K) : exW f_check_system p_undoW kk P w K mg base (T.cv K) := by
  obtain ⟨fdi, Fi⟩ := defM_of c (c := "Workbook") (m := "__init__") (st := mth 111 0) (List.mem_of_getElem? (i := 98) rfl)
  obtain ⟨fdu, Fu⟩ := defM_of c (c := "Workbook") (m := "undo") (st := mth 111 8) (List.mem_of_getElem? (i := 99) rfl)
  obtain ⟨c1, c2⟩ := mkr_of2 (k := 101) (ms := ["undo"]) foW X G c
  obtain ⟨c3, c4⟩ := meth_of2 (k := 101) (ms := ["undo"]) (m := "undo") foW c (by simp)
  exact ⟨6, hk, ⟨_, _, fdi, _, rfl, c1, c2, iw_ok (lv := 5) Fi s_Workbook_init rfl (k_clw X c) (bs_of rfl rfl X G c) (k_check_system X G c) rfl (by decide +kernel) (by decide +kernel), Fi.bindsN (fun _ _ _ _ _ _ us hl => match us, hl with | [_, _, _], _ => rfl), c3, _, fdu, _, c4, by decide +kernel, (px_ok (lv := 0) Fu (bs_of rfl rfl X G c) s_Workbook_undo _ t_Workbook_undo trivial ⟨fun k hk => by rw [List.mem_singleton.mp hk]; exact k_clw X c, fun t ht => by cases ht⟩ rfl (by decide)).mono (by decide), Fu.bindsN (fun _ _ _ _ _ _ us hl => match us, hl with | [_], _ => rfl)⟩⟩
theorem s_law_raise_more : FnScope N_law_raise_more ["mode", "table", "side"] (defScope (top 130)) := ⟨rfl, rfl, rfl, by decide +kernel, rfl, by decide +kernel, by decide +kernel⟩
theorem t_law_raise_more : (tr12w T N_law_raise_more 11 [("inverse_span", 3, f_inverse_span), ("singular_choice", 1, f_singular_choice), ("papers", 2, f_papers), ("a_solution", 2, f_a_solution), ("overlap", 2, f_overlap), ("plus", 2, f_plus), ("end_choices_of", 1, f_end_choices_of), ("parse_table", 1, f_parse_table)] f_check_system p_undoW (defScope (top 130)) (defBody (top 130))).map (·.m) = some b_law_raise_more := by kernel_rfl
theorem k_law_raise_more (X : K.In h) (G : h.Ns mainGlobals mg) (c : He.SaysX (faU T ds ++ fo) fn [] [] (exU T) w h K) : Kp P w K mg base (T.cv K) 12 "_law_raise_more" 3 f_law_raise_more := by
  obtain ⟨fd, F⟩ := def_of c (x := "_law_raise_more") (st := top 130) (List.mem_of_getElem? (i := 88) rfl)
  exact kp_ofW F (glo_of X G c (List.mem_of_getElem? (i := 88) rfl)) (bs_of rfl rfl X G c) s_law_raise_more rfl (fun _ _ _ _ _ _ us hl => match us, hl with | [_, _, _], _ => rfl) _ t_law_raise_more rfl ⟨(k_inverse_span X G c).mono (by decide), (k_singular_choice X G c).mono (by decide), (k_papers X G c).mono (by decide), (k_a_solution X G c).mono (by decide), (k_overlap X G c).mono (by decide), (k_plus X G c).mono (by decide), (k_end_choices_of X G c).mono (by decide), (k_parse_table X G c).mono (by decide), trivial⟩ (k_wu (by decide) X G c)
theorem s_law_raise : FnScope N_law_raise ["mode"] (defScope (top 129)) := ⟨rfl, rfl, rfl, by decide +kernel, rfl, by decide +kernel, by decide +kernel⟩
theorem t_law_raise : (tr12 (T.s N_law_raise 12 [("_law_raise_more", 3, f_law_raise_more), ("is_sure", 1, f_is_sure), ("can_solve", 2, f_can_solve), ("solves_some", 3, f_solves_some), ("determinant", 2, f_determinant), ("corner", 3, f_corner), ("unknown_span", 3, f_unknown_span), ("widened", 2, f_widened), ("fixed", 3, f_fixed)]) (defScope (top 129)) (defBody (top 129))).map (·.m) = some b_law_raise := by kernel_rfl
theorem k_law_raise (X : K.In h) (G : h.Ns mainGlobals mg) (c : He.SaysX (faU T ds ++ fo) fn [] [] (exU T) w h K) : Kp P w K mg base (T.cv K) 13 "_law_raise" 1 f_law_raise := by
  obtain ⟨fd, F⟩ := def_of c (x := "_law_raise") (st := top 129) (List.mem_of_getElem? (i := 89) rfl)
  exact kp_ofO F (glo_of X G c (List.mem_of_getElem? (i := 89) rfl)) (bs_of rfl rfl X G c) s_law_raise rfl (fun _ _ _ _ _ _ us hl => match us, hl with | [_], _ => rfl) _ t_law_raise rfl ⟨(k_law_raise_more X G c).mono (by decide), (k_is_sure X G c).mono (by decide), (k_can_solve X G c).mono (by decide), (k_solves_some X G c).mono (by decide), (k_determinant X G c).mono (by decide), (k_corner X G c).mono (by decide), (k_unknown_span X G c).mono (by decide), (k_widened X G c).mono (by decide), (k_fixed X G c).mono (by decide), trivial⟩
theorem s_law : FnScope N_law ["script"] (defScope (top 131)) := ⟨rfl, rfl, rfl, by decide +kernel, rfl, by decide +kernel, by decide +kernel⟩
theorem t_law : (tr12 (T.s N_law 13 [("_law_cell", 2, f_law_cell), ("_law_raise", 1, f_law_raise)]) (defScope (top 131)) (defBody (top 131))).map (·.m) = some b_law := by kernel_rfl
end

end U
open PySem PySem.W PySem.Calls PyProof.Rows
theorem PySem.Challenge.cw_unsuretables_k34_exceptions_holds : PySem.Challenge.rw_unsuretables_k34_exceptions.Holds := by
  w_on; o_law
  refine HandSHeadRun.head_any (r := OpenLaw.row PySem.Challenge.rw_unsuretables_k34_exceptions) (q := view (OpenLaw.row PySem.Challenge.rw_unsuretables_k34_exceptions).prog [131]) (H := U.hk) (ob := U.ob) (M := 20000) (loose := U.loose) (d := HandSHeadRun.topDef (OpenLaw.row PySem.Challenge.rw_unsuretables_k34_exceptions).prog 131) (kwd := []) U.ob_eq
    (by kernel_rfl) (fun s => by kernel_rfl) U.run (by kernel_rfl) (by kernel_rfl) (by kernel_rfl) (by rfl) (by first | assumption | decide +kernel) (by decide +kernel) ⟨rfl, rfl, rfl, rfl, rfl, by decide +kernel⟩ ?hw ?hc
  case hw => w_witness2
  case hc =>
    refine U.walkU (l := PySem.Challenge.rw_unsuretables_k34_exceptions) (n := 63) (k := 14) (x := "script") (fm := U.f_law) rfl (by decide) (by kernel_rfl) ⟨rfl, by decide, by decide⟩ (fun ns h => U.holds ns h) ?F
    intro w mg fa h Y G hmg0
    obtain ⟨K, KX, c⟩ := Y
    have hmg : mg ("law" : PySem.Str) = some (.ref fa) := by
      have e : (HandSHeadRun.topDef (OpenLaw.row PySem.Challenge.rw_unsuretables_k34_exceptions).prog 131).name = ("law" : PySem.Str) := by kernel_rfl
      rw [← e]
      exact hmg0
    have e1 : mg ("law" : PySem.Str) = some (.ref (He.ga K "law")) := U.glo_of KX G c (List.mem_of_getElem? (i := 90) rfl)
    have e2 := hmg.symm.trans e1
    cases e2
    obtain ⟨fd, F⟩ := U.def_of c (x := "law") (st := U.top 131) (List.mem_of_getElem? (i := 90) rfl)
    have b := L2.FunD.bindsA (ps := ["script"]) F fun _ _ _ _ _ _ us hl => match us, hl with | [_], _ => rfl
    refine ⟨K, fd, U.T.cv K, KX, U.nol_of c, fun s v => b s [v] rfl, fun base hb hn => ?_⟩
    exact U.def_okO F (U.bs_of rfl rfl KX G c) U.s_law _ U.t_law ⟨(U.k_law_cell KX G c).mono (by decide), (U.k_law_raise KX G c).mono (by decide), trivial⟩
