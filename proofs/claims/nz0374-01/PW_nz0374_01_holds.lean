import PyProof.Rows.All
import Wide.All
import OpenK.AllK
import Wide.FinOn
import PySem.Challenge.RW_nz0374_01
set_option Elab.async false
set_option linter.all false
section
set_option Elab.async false
open PySem PySem.W PyProof.Rows
set_option maxRecDepth 100000
namespace Mine
noncomputable abbrev LL : OpenLaw := PySem.Challenge.rw_nz0374_01
theorem and_tt {a b : Bool} (x : a = true) (y : b = true) : (a && b) = true := by rw [x, y]; rfl
theorem said_1 : namesResolve LL.prog = true := (congrFun PySem.W.Fast.te8377067652309620493 _).trans (show PySem.W.Fast.tw8377067652309620493 LL.prog = true by kernel_rfl)
theorem said_2 : noRoadLSs { strict := false, foot := none, bare := [] } LL.prog.main.body = true := (congrFun (congrFun PySem.W.Fast.te8326940854005059898 _) _).trans (show PySem.W.Fast.tw8326940854005059898 { strict := false, foot := none, bare := [] } LL.prog.main.body = true by kernel_rfl)
theorem said_3 : (["vars", "dir", "locals"] : List Str).filter (PySem.W.Fast.tw13343964577679436407 LL.prog LL.prog.main.body) = [] := by kernel_rfl
theorem said_4 : (["vars", "dir", "locals"] : List Str).filter (readsOut LL.prog LL.prog.main.body) = [] := by rw [PySem.W.Fast.te13343964577679436407]; exact said_3
theorem said_5 : noRoadLSs { strict := !(importedModules LL.prog.main.body).all cThrough.contains, foot := none, bare := (["vars", "dir", "locals"] : List Str).filter (readsOut LL.prog LL.prog.main.body) } LL.prog.main.body = true := by
  rw [said_4, show (!(importedModules LL.prog.main.body).all cThrough.contains) = false by kernel_rfl]; exact said_2
theorem said_6 : (namesMeet LL.prog LL.prog.main.body fun ζ n => attrL n) = true := (congrFun (congrFun (congrFun PySem.W.Fast.te17119622794617984870 _) _) _).trans (show (PySem.W.Fast.tw17119622794617984870 LL.prog LL.prog.main.body fun ζ n => attrL n) = true by kernel_rfl)
theorem said_7 : looksOpen LL.prog = true := and_tt (and_tt (and_tt (and_tt (and_tt (by kernel_rfl) (by kernel_rfl)) said_1) (by kernel_rfl)) said_5) said_6
theorem said_8 : (OpenLaw.row LL).partSaid = true := and_tt (and_tt (and_tt (and_tt (and_tt (and_tt (and_tt (and_tt (and_tt (and_tt (and_tt (and_tt (and_tt said_7 (by kernel_rfl)) (by kernel_rfl)) (by kernel_rfl)) (by kernel_rfl)) (by kernel_rfl)) (by kernel_rfl)) (by kernel_rfl)) (by kernel_rfl)) (by kernel_rfl)) (by kernel_rfl)) (by kernel_rfl)) (by kernel_rfl)) (by kernel_rfl)
theorem said_9 : (OpenLaw.row LL).wellSaid = true := and_tt (and_tt said_8 (by kernel_rfl)) (by kernel_rfl)
theorem said_10 : LL.bound'.all (fun n => !PySem.W.Fast.qNamed n || LL.about == [n] || !PySem.W.Fast.tw6984425678791042302 LL n) = true := by kernel_rfl
theorem said_11 : LL.bound'.all (fun n => !builtinNamed n || LL.about == [n] || !LL.reads n) = true := by
  rw [PySem.W.Fast.named_eq, PySem.W.Fast.te6984425678791042302]; exact said_10
theorem said_12 : (namesMeet LL.prog LL.above (fun ζ n => !LL.own.contains n)) = true := (congrFun (congrFun (congrFun PySem.W.Fast.te17119622794617984870 _) _) _).trans (show (PySem.W.Fast.tw17119622794617984870 LL.prog LL.above (fun ζ n => !LL.own.contains n)) = true by kernel_rfl)
theorem said_ok : OpenLaw.wellSaid PySem.Challenge.rw_nz0374_01 = true :=
  and_tt (and_tt (and_tt (and_tt (and_tt (and_tt (and_tt (and_tt (and_tt (and_tt (and_tt (and_tt (and_tt (and_tt (and_tt (and_tt (and_tt (and_tt said_9 (by kernel_rfl)) (by kernel_rfl)) (by kernel_rfl)) (by kernel_rfl)) (by kernel_rfl)) (by kernel_rfl)) (by kernel_rfl)) (by kernel_rfl)) (by kernel_rfl)) said_11) (by kernel_rfl)) (by kernel_rfl)) (by kernel_rfl)) (by kernel_rfl)) (by kernel_rfl)) (by kernel_rfl)) said_12) (by kernel_rfl)
end Mine
end
section
open PySem PySem.W PyProof.Rows
set_option Elab.async false
namespace Mine
local macro_rules | `(tactic| o_head $_) => `(tactic| assumption)
set_option maxRecDepth 100000 in
set_option maxHeartbeats 0 in
theorem kk (h : (OpenLaw.row PySem.Challenge.rw_nz0374_01).Holds) : (OpenLaw.row PySem.Challenge.rw_nz0374_01).Holds := by
  k_head
end Mine
end
section
open PySem PySem.W PySem.Calls PyProof.Rows
set_option Elab.async false
set_option maxRecDepth 1000000
set_option maxHeartbeats 0
namespace Mine
noncomputable def hEnv : Env := { scope := PySem.Challenge.pw_nz0374_01.main.scope, locals := mainNs, globals := mainNs, cells := [], code := .ref 13, frame := some 14 }
noncomputable def hC : Code := .body (behindTheImports PySem.Challenge.pw_nz0374_01) hEnv
noncomputable def hP : Pos := ⟨0, 0, 0, 0⟩
noncomputable def hE : Pos := ⟨689, 0, 742, 38⟩
noncomputable def hO_11 : Obj := { cls := .type "tuple", data := .seq #[] 0 }
noncomputable def hO_12 : Obj := { cls := .none, data := .fields #[] }
noncomputable def hO_13 : Obj := { cls := .type "code", data := .fields #[.str "<module>" 182, .str "<module>" 183, .str "/claim/cut.py" 184, .int 1 0, .int 0 0, .int 0 0, .int 0 0, .int 0 0, .ref 11, .bool false, .int 181 0, .ref 12, .none, .none, .none, .none, .int 185 0, .int 1 0, .str "/claim/cut.py" 186] }
noncomputable def hO_14 : Obj := { cls := .type "frame", slots := #[some (.ref 13), some (.ref 3), some (.ref 3), none, some (.str "__main__" 164), none, some (.ref 0)] }
noncomputable def hT (P : Params) : BT := (.node (boot_o_0 P) (.node (boot_o_1 P) (.node (boot_o_3 P) (.node (boot_o_7 P) .nil .nil) (.node (hO_11) .nil .nil)) (.node (boot_o_5 P) (.node (boot_o_9 P) .nil .nil) (.node (hO_13) .nil .nil))) (.node (boot_o_2 P) (.node (boot_o_4 P) (.node (boot_o_8 P) .nil .nil) (.node (hO_12) .nil .nil)) (.node (boot_o_6 P) (.node (boot_o_10 P) .nil .nil) (.node (hO_14) .nil .nil))))
noncomputable def hS (w : World) (os : OsState) : SharedT := ⟨hT w.params, 15, {}, #[], {}, 187, os⟩
noncomputable def hQ : Program := view PySem.Challenge.pw_nz0374_01 [85]
noncomputable def hL : List Str := [⟨#[95, 119, 97, 108, 108]⟩, ⟨#[75, 101, 101, 112, 69, 114, 114, 111, 114]⟩, ⟨#[83, 116, 111, 114, 101, 69, 114, 114, 111, 114]⟩, ⟨#[67, 111, 114, 114, 117, 112, 116]⟩, ⟨#[83, 104, 111, 114, 116, 79, 99, 116, 101, 116, 115]⟩, ⟨#[66, 97, 100, 79, 112, 116, 105, 111, 110]⟩, ⟨#[66, 97, 116, 99, 104, 82, 101, 102, 117, 115, 101, 100]⟩, ⟨#[83, 101, 114, 118, 101, 69, 114, 114, 111, 114]⟩, ⟨#[66, 97, 100, 67, 111, 109, 109, 97, 110, 100]⟩, ⟨#[65, 112, 112, 108, 105, 101, 100, 71, 97, 112]⟩, ⟨#[77, 65, 88, 95, 51, 50]⟩, ⟨#[77, 65, 88, 95, 54, 52]⟩, ⟨#[119, 114, 105, 116, 101, 95, 103, 114, 111, 117, 112, 115]⟩, ⟨#[114, 101, 97, 100, 95, 103, 114, 111, 117, 112, 115]⟩, ⟨#[112, 117, 116, 95, 118, 97, 114, 105, 110, 116]⟩, ⟨#[114, 101, 97, 100, 95, 118, 97, 114, 105, 110, 116]⟩, ⟨#[112, 117, 116, 95, 118, 97, 114, 105, 110, 116, 51, 50]⟩, ⟨#[114, 101, 97, 100, 95, 118, 97, 114, 105, 110, 116, 51, 50]⟩, ⟨#[118, 97, 114, 105, 110, 116, 95, 108, 101, 110, 103, 116, 104]⟩, ⟨#[112, 117, 116, 95, 102, 105, 120, 101, 100, 51, 50]⟩, ⟨#[112, 117, 116, 95, 102, 105, 120, 101, 100, 54, 52]⟩, ⟨#[114, 101, 97, 100, 95, 102, 105, 120, 101, 100, 51, 50]⟩, ⟨#[114, 101, 97, 100, 95, 102, 105, 120, 101, 100, 54, 52]⟩, ⟨#[114, 101, 97, 100, 95, 108, 101, 110, 103, 116, 104, 101, 100]⟩, ⟨#[67, 117, 114, 115, 111, 114]⟩, ⟨#[83, 105, 110, 107]⟩, ⟨#[75, 73, 78, 68, 95, 68, 69, 76, 69, 84, 69]⟩, ⟨#[75, 73, 78, 68, 95, 86, 65, 76, 85, 69]⟩, ⟨#[77, 65, 88, 95, 83, 69, 81]⟩, ⟨#[66, 65, 84, 67, 72, 95, 72, 69, 65, 68]⟩, ⟨#[87, 114, 105, 116, 101, 66, 97, 116, 99, 104]⟩, ⟨#[99, 104, 101, 99, 107, 95, 115, 112, 97, 110]⟩, ⟨#[69, 78, 84, 82, 89, 95, 67, 79, 78, 70]⟩, ⟨#[114, 105, 115, 105, 110, 103]⟩, ⟨#[116, 97, 107, 101, 95, 99, 111, 117, 110, 116]⟩, ⟨#[69, 110, 116, 114, 121]⟩, ⟨#[67, 111, 110, 102, 83, 116, 97, 116, 101]⟩, ⟨#[112, 117, 116, 95, 105, 100, 115]⟩, ⟨#[116, 97, 107, 101, 95, 105, 100, 115]⟩, ⟨#[101, 110, 99, 111, 100, 101, 95, 99, 111, 110, 102]⟩, ⟨#[100, 101, 99, 111, 100, 101, 95, 99, 111, 110, 102]⟩, ⟨#[67, 77, 68, 95, 78, 79, 78, 69]⟩, ⟨#[67, 77, 68, 95, 80, 85, 84]⟩, ⟨#[67, 77, 68, 95, 68, 69, 76, 69, 84, 69]⟩, ⟨#[67, 77, 68, 95, 67, 65, 83]⟩, ⟨#[67, 77, 68, 95, 79, 80, 69, 78]⟩, ⟨#[67, 77, 68, 95, 67, 76, 79, 83, 69]⟩, ⟨#[82, 69, 80, 76, 89, 95, 79, 75]⟩, ⟨#[82, 69, 80, 76, 89, 95, 78, 79]⟩, ⟨#[82, 69, 80, 76, 89, 95, 85, 78, 75, 78, 79, 87, 78]⟩, ⟨#[82, 69, 80, 76, 89, 95, 83, 84, 65, 76, 69]⟩, ⟨#[65, 80, 80, 76, 73, 69, 68, 95, 75, 69, 89]⟩, ⟨#[68, 65, 84, 65, 95, 72, 69, 65, 68]⟩, ⟨#[68, 65, 84, 65, 95, 69, 78, 68]⟩, ⟨#[83, 69, 83, 83, 73, 79, 78, 95, 72, 69, 65, 68]⟩, ⟨#[83, 69, 83, 83, 73, 79, 78, 95, 69, 78, 68]⟩, ⟨#[67, 111, 109, 109, 97, 110, 100]⟩, ⟨#[112, 117, 116, 95, 109, 97, 121, 98, 101]⟩, ⟨#[116, 97, 107, 101, 95, 109, 97, 121, 98, 101]⟩, ⟨#[100, 101, 99, 111, 100, 101, 95, 99, 111, 109, 109, 97, 110, 100]⟩, ⟨#[109, 97, 107, 101, 95, 114, 101, 112, 108, 121]⟩, ⟨#[100, 97, 116, 97, 95, 107, 101, 121]⟩, ⟨#[115, 101, 115, 115, 105, 111, 110, 95, 107, 101, 121]⟩, ⟨#[99, 108, 105, 101, 110, 116, 95, 111, 102]⟩, ⟨#[101, 110, 99, 111, 100, 101, 95, 115, 101, 115, 115, 105, 111, 110]⟩, ⟨#[100, 101, 99, 111, 100, 101, 95, 115, 101, 115, 115, 105, 111, 110]⟩, ⟨#[77, 97, 99, 104, 105, 110, 101]⟩, ⟨#[115, 97, 109, 101, 95, 109, 97, 121, 98, 101]⟩, ⟨#[77, 101, 109, 83, 116, 111, 114, 101]⟩, ⟨#[95, 108, 97, 119, 95, 99, 108, 105, 101, 110, 116, 115]⟩, ⟨#[95, 108, 97, 119, 95, 107, 101, 121, 115]⟩, ⟨#[95, 108, 97, 119, 95, 107, 105, 110, 100, 115]⟩, ⟨#[95, 108, 97, 119, 95, 115, 116, 101, 112, 115]⟩, ⟨#[95, 108, 97, 119, 95, 119, 97, 110, 116, 115]⟩, ⟨#[95, 108, 97, 119, 95, 100, 114, 97, 119]⟩, ⟨#[95, 108, 97, 119, 95, 109, 97, 121, 98, 101]⟩, ⟨#[95, 108, 97, 119, 95, 106, 117, 100, 103, 101]⟩, ⟨#[95, 108, 97, 119, 95, 102, 111, 108, 100]⟩, ⟨#[95, 108, 97, 119, 95, 102, 114, 101, 101]⟩]
theorem hd_pre : ∀ (w : World) (os : OsState), topGo treeTable PySem.Challenge.pw_nz0374_01 w 11 (some (.ref 6)) 12 ⟨boot_heap w.params, #[], boot_drawn, boot_toks, os⟩ (topStub PySem.Challenge.pw_nz0374_01) = some ((hS w os).abs, ⟨denote treeTable hC, hC, hP, [topFrame hP]⟩) := by
  intro w os
  kernel_rfl
theorem hd_block : ∀ (w : World) (os : OsState), segRun treeTable PySem.Challenge.pw_nz0374_01 w 11 (some (.ref 6)) 1 1 (hS w os).abs (blockOf (behindTheImports PySem.Challenge.pw_nz0374_01) hEnv hC hP [topFrame hP]) = some (.next, (hS w os).abs, hC, hP) := by
  intro w os
  kernel_rfl
end Mine
end
section
open PySem PySem.W PySem.Calls PyProof.Rows
set_option Elab.async false
set_option maxRecDepth 1000000
set_option maxHeartbeats 0
namespace Mine
noncomputable def kAs : List Addr := [2, 3, 15, 17, 18, 20, 21, 22, 29, 30, 31, 32, 35, 42, 43, 44, 47, 54, 55, 56, 59, 66, 67, 68, 71, 78, 79, 80, 83, 90, 91, 92, 95, 102, 103, 104, 107, 114, 115, 116, 119, 126, 127, 128, 131, 133, 134, 136, 137, 138, 140, 141, 143, 144, 145, 147, 148, 150, 151, 152, 154, 155, 157, 158, 159, 161, 162, 164, 165, 166, 168, 169, 171, 172, 173, 175, 176, 178, 179, 180, 182, 183, 185, 186, 187, 189, 190, 192, 193, 194, 196, 197, 199, 200, 201, 203, 204, 206, 207, 208, 210, 211, 213, 214, 222, 223, 225, 226, 228, 229, 230, 232, 233, 235, 236, 237, 239, 240, 242, 243, 244, 246, 247, 249, 250, 251, 253, 254, 256, 257, 258, 260, 261, 263, 264, 265, 267, 268, 270, 271, 272, 274, 275, 277, 278, 279, 281, 282, 284, 285, 286, 288, 289, 291, 292, 293, 294, 295, 296, 297, 307, 309, 310, 312, 313, 314, 316, 317, 319, 320, 321, 323, 324, 326, 327, 328, 330, 331, 333, 334, 335, 337, 338, 340, 341, 342, 344, 345, 347, 348, 349, 351, 352, 354, 355, 356, 358, 359, 361, 362, 363, 365, 366, 368, 369, 370, 371, 372, 373, 374, 384, 386, 387, 389, 390, 391, 393, 394, 396, 397, 398, 400, 401, 403, 404, 405, 407, 408, 410, 411, 412, 414, 415, 417, 418, 419, 421, 422, 424, 425, 426, 428, 429, 431, 432, 433, 435, 436, 438, 439, 440, 442, 443, 445, 446, 447, 449, 450, 452, 453, 454, 455, 456, 457, 458, 461, 463, 464, 466, 467, 468, 470, 471, 473, 474, 475, 477, 478, 480, 481, 489, 491, 492, 494, 495, 496, 498, 499, 501, 502, 503, 505, 506, 508, 509, 510, 512, 513, 515, 516, 517, 519, 520, 522, 523, 524, 525, 526, 527, 528, 538, 540, 541, 543, 544, 545, 547, 548, 550, 551, 552, 554, 555, 557, 558, 559, 560, 561, 562, 563, 566, 568, 569, 571, 572, 573, 575, 576, 578, 579, 580, 582, 583, 585, 586, 587, 589, 590, 592, 593, 601, 603, 604, 606, 607, 608, 610, 611, 613, 614, 615, 617, 618, 620, 621, 622, 623, 624, 625, 626, 629, 631, 632, 634, 635, 636, 638, 639, 641, 642, 643, 645, 646, 648, 649, 650, 652, 653, 655, 656, 657, 659, 660, 662, 663, 664, 666, 667, 669, 670, 671, 673, 674, 676, 677, 678, 680, 681, 683, 684, 685, 687, 688, 690, 691, 699, 701, 702, 704, 705, 706, 708, 709, 711, 712, 713, 715, 716, 718, 719, 720, 722, 723, 725, 726, 727, 729, 730, 732, 733, 734, 736, 737, 739, 740, 741, 743, 744, 746, 747, 748, 750, 751, 753, 754, 755, 757, 758, 760, 761, 762, 764, 765, 767, 768, 769, 771, 772, 774, 775, 776, 778, 779, 781, 782, 783, 785, 786, 788, 789, 790, 792, 793, 795, 796, 797, 799, 800, 802, 803, 804, 805, 806, 807, 808, 811, 813, 814, 816, 817, 825, 827, 828, 830, 831, 832, 834, 835, 837, 838, 839, 841, 842, 844, 845, 846, 848, 849, 851, 852, 853, 855, 856, 858, 859, 860, 862, 863, 865, 866, 867, 869, 870, 872, 873, 874, 876, 877, 879, 880, 881, 882, 883, 884, 885, 888, 890, 891, 893, 894, 895, 897, 898, 900, 901, 902, 904, 905, 907, 908, 909, 911, 912, 914, 915, 916, 918, 919, 921, 922, 923, 925, 926, 928, 929, 930, 932, 933, 935, 936, 937, 939, 940, 942, 943, 944, 946, 947, 949, 950, 951, 953, 954, 956, 957, 958, 961, 962]
noncomputable def hXt (s : Shared) : Bool := xlAt hQ [] s && recOk [] s
noncomputable def hYf (s : Shared) : List (Option Obj) × Bool := (kAs.map s.heap.get?, (s.heap.get? sysModules).isSome)
noncomputable def hYa (w : World) : List (Option Obj) × Bool := ((kk.heap_1 w.params).map fun p => some p.2, true)
theorem hd_fin : ∀ (w : World) (s : Shared), topRun treeTable PySem.Challenge.pw_nz0374_01 w 11 (some (.ref 6)) 2 s ⟨doneF .next, hC, hE, [topFrame hP]⟩ = some s := by
  intro w s
  kernel_rfl
theorem hd_all : ∀ (w : World) (os : OsState), (PySem.W.Fast.tw10110043849684766642 PySem.W.Fast.tw14364793385576792824 PySem.Challenge.pw_nz0374_01 w 11 (some (.ref 6)) 1 7123 (hS w os) ⟨(PySem.W.Fast.tw12563942051412417395 (behindTheImports PySem.Challenge.pw_nz0374_01) hEnv).wrap doneF deadEnd id id, hC, hP, [topFrame hP]⟩).map (fun r => (r.1, r.2.2.1, r.2.2.2, ((staticsOk (PySem.W.Fast.tw5923862056798008813 PySem.Challenge.pw_nz0374_01.main.body) (boot_heap w.params) r.2.1.abs.heap && namesBound PySem.Challenge.pw_nz0374_01 r.2.1.abs.heap && gensDone r.2.1.abs && laidKept (boot_heap w.params) r.2.1.abs.heap), PySem.W.Fast.tw4187177175401517315 hQ hL (PySem.W.Fast.tw5923862056798008813 PySem.Challenge.pw_nz0374_01.main.body) hXt true r.2.1.abs, (r.2.1.n, kAs.map (fun a => (r.2.1.tree.get a).bind alive), ((r.2.1.tree.get 1).bind alive).isSome)))) = some (.next, hC, hE, (true, openGood hQ hL, (963, (kk.heap_1 w.params).map (fun p => some p.2), true))) := by
  intro w os
  kernel_rfl
end Mine
end
section
open PySem PySem.W PySem.Calls PyProof.Rows PySem.Spec
set_option Elab.async false
set_option linter.unusedVariables false
set_option maxRecDepth 10000
namespace Mine
inductive AV where
  | none
  | bool (b : Bool)
  | int (i : Int)
  | bytes (b : List UInt8)
  | con (v : Value)
  | any
noncomputable def VR : AV → Value → Prop
  | .none, v => v = .none
  | .bool b, v => v = .bool b
  | .int i, v => ∃ t, v = .int i t
  | .bytes b, v => ∃ t, v = .bytes b.toArray t
  | .con c, v => v = c
  | .any, _ => True
inductive VRs : List AV → List Value → Prop
  | nil : VRs [] []
  | cons {a as v vs} : VR a v → VRs as vs → VRs (a :: as) (v :: vs)
theorem VRs.length : ∀ {as vs}, VRs as vs → as.length = vs.length
  | _, _, .nil => rfl
  | _, _, .cons _ h => by simp [h.length]
theorem VRs.get {as : List AV} {vs : List Value} (h : VRs as vs) : ∀ {i : Nat} {a : AV}, as[i]? = some a → ∃ v, vs[i]? = some v ∧ VR a v := by
  induction h with
  | nil => intro i a e; simp at e
  | cons hv _ ih =>
    intro i a e
    cases i with
    | zero => simp at e; subst e; exact ⟨_, rfl, hv⟩
    | succ i => simpa using ih (by simpa using e)
theorem VRs.append {as as' : List AV} {vs vs' : List Value} (h : VRs as vs) (h' : VRs as' vs') : VRs (as ++ as') (vs ++ vs') := by
  induction h with
  | nil => exact h'
  | cons hv _ ih => exact .cons hv ih
inductive AObj where
  | ns (sc : Scope) (kvs : List (Str × Option AV))
  | inst (C : Addr) (fs : List (Str × AV))
  | list (xs : List AV)
  | tuple (xs : List AV)
  | barr (b : List UInt8)
  | bd (es : List (List UInt8 × AV))
  | idict (es : List (Int × AV))
  | range (a b : Int)
  | liter (l : Addr) (i : Nat)
  | biter (b : List UInt8) (i : Nat)
  | riter (x left : Int)
  | cell (v : Option AV)
noncomputable abbrev Led := List (Addr × AObj)
inductive FR : List (Str × AV) → List DictEntry → Prop
  | nil : FR [] []
  | cons {x a fs e es} : (∃ t, e.key = .str x t) → VR a e.val → FR fs es → FR ((x, a) :: fs) (e :: es)
inductive PR {κ : Type} : List (κ × AV) → List (κ × Value) → Prop
  | nil : PR [] []
  | cons {k a v es kvs} : VR a v → PR es kvs → PR ((k, a) :: es) ((k, v) :: kvs)
noncomputable def OR (P : Program) (w : World) (h : Heap) (a d : Addr) : AObj → Prop
  | .ns sc kvs => (kvs.map (·.1)).Nodup ∧ (∀ p ∈ kvs, sc.names.lookup p.1 = some .local) ∧ ∃ m, h.Ns a m ∧ ∀ p ∈ kvs, ∀ v, p.2 = some v → ∃ c, m p.1 = some c ∧ VR v c
  | .inst C fs => (fs.map (·.1)).Nodup ∧ h.get? a = some (instObj C d) ∧ ∃ es n, h.get? d = some (PySem.W.dictOf es n) ∧ FR fs es ∧ es.length ≤ 900
  | .list xs => ∃ vs n, h.get? a = some (PySem.W.listOf vs n) ∧ VRs xs vs.toList
  | .tuple xs => ∃ vs, h.get? a = some { cls := .type "tuple", data := .seq vs 0 } ∧ VRs xs vs.toList
  | .barr b => h.get? a = some { cls := .type "bytearray", data := .bytearray b.toArray }
  | .bd es => ∃ kvs, h.DictOf (bytesKind P w) a kvs ∧ PR es kvs
  | .idict es => ∃ kvs, h.DictOf (intKind P w) a kvs ∧ PR es kvs
  | .range x y => ∃ t u v, IsRange h a x y 1 t u v
  | .liter l i => h.IsListIter a l i
  | .biter b i => ∃ t, KBw.IsBytesIter h a b.toArray t i
  | .riter x left => IsRangeIter h a x left 1
  | .cell v => ∃ x, h.IsCell a x ∧ ∀ y, v = some y → ∃ c, x = some c ∧ VR y c
noncomputable def AObj.two : AObj → Bool
  | .inst .. => true
  | _ => false
theorem OR.keeps {P : Program} {w : World} {h h' : Heap} {a d : Addr} {o : AObj} (x : OR P w h a d o) (k : ∀ b, (b = a ∨ (o.two = true ∧ b = d)) → ∀ ob, h.get? b = some ob → h'.get? b = some ob) : OR P w h' a d o := by
  cases o with
  | ns sc kvs =>
    obtain ⟨x0, x1, m, ⟨ob, es, ep, ho, r⟩, hm⟩ := x
    exact ⟨x0, x1, m, ⟨ob, es, ep, k a (.inl rfl) _ ho, r⟩, hm⟩
  | inst C fs =>
    obtain ⟨x0, x1, es, n, x2, x3⟩ := x
    exact ⟨x0, k a (.inl rfl) _ x1, es, n, k d (.inr ⟨rfl, rfl⟩) _ x2, x3⟩
  | list xs => obtain ⟨vs, n, x1, x2⟩ := x; exact ⟨vs, n, k a (.inl rfl) _ x1, x2⟩
  | tuple xs => obtain ⟨vs, x1, x2⟩ := x; exact ⟨vs, k a (.inl rfl) _ x1, x2⟩
  | barr b => exact k a (.inl rfl) _ x
  | bd es => obtain ⟨kvs, ⟨ob, es', ep, ho, r⟩, x2⟩ := x; exact ⟨kvs, ⟨ob, es', ep, k a (.inl rfl) _ ho, r⟩, x2⟩
  | idict es => obtain ⟨kvs, ⟨ob, es', ep, ho, r⟩, x2⟩ := x; exact ⟨kvs, ⟨ob, es', ep, k a (.inl rfl) _ ho, r⟩, x2⟩
  | range _ _ => obtain ⟨t, u, v, ho⟩ := x; exact ⟨t, u, v, k a (.inl rfl) _ ho⟩
  | liter _ _ => obtain ⟨ob, ho, r⟩ := x; exact ⟨ob, k a (.inl rfl) _ ho, r⟩
  | biter _ _ => obtain ⟨t, ob, ho, r⟩ := x; exact ⟨t, ob, k a (.inl rfl) _ ho, r⟩
  | riter _ _ => exact k a (.inl rfl) _ x
  | cell _ => obtain ⟨c, ⟨ob, ho, r⟩, q⟩ := x; exact ⟨c, ⟨ob, k a (.inl rfl) _ ho, r⟩, q⟩
theorem OR.there {P : Program} {w : World} {h : Heap} {a d : Addr} {o : AObj} (x : OR P w h a d o) : ∃ ob, h.get? a = some ob := by
  cases o with
  | ns sc kvs => obtain ⟨_, _, m, ⟨ob, es, ep, ho, r⟩, hm⟩ := x; exact ⟨_, ho⟩
  | inst C fs => exact ⟨_, x.2.1⟩
  | list xs => obtain ⟨vs, n, x1, x2⟩ := x; exact ⟨_, x1⟩
  | tuple xs => obtain ⟨vs, x1, x2⟩ := x; exact ⟨_, x1⟩
  | barr b => exact ⟨_, x⟩
  | bd es => obtain ⟨kvs, ⟨ob, es', ep, ho, r⟩, x2⟩ := x; exact ⟨_, ho⟩
  | idict es => obtain ⟨kvs, ⟨ob, es', ep, ho, r⟩, x2⟩ := x; exact ⟨_, ho⟩
  | range _ _ => obtain ⟨t, u, v, ho⟩ := x; exact ⟨_, ho⟩
  | liter _ _ => obtain ⟨ob, ho, r⟩ := x; exact ⟨_, ho⟩
  | biter _ _ => obtain ⟨t, ob, ho, r⟩ := x; exact ⟨_, ho⟩
  | riter _ _ => exact ⟨_, x⟩
  | cell _ => obtain ⟨c, ⟨ob, ho, r⟩, q⟩ := x; exact ⟨_, ho⟩
theorem OR.there2 {P : Program} {w : World} {h : Heap} {a d : Addr} {o : AObj} (x : OR P w h a d o) (t : o.two = true) : ∃ ob, h.get? d = some ob := by
  cases o with
  | inst C fs => obtain ⟨x0, x1, es, n, x2, x3⟩ := x; exact ⟨_, x2⟩
  | _ => cases t
noncomputable def own (δ : Addr → Addr) (p : Addr × AObj) : List Addr := if p.2.two then [p.1, δ p.1] else [p.1]
noncomputable def addrs (δ : Addr → Addr) (L : Led) : List Addr := L.flatMap (own δ)
theorem mem_own {δ : Addr → Addr} {p : Addr × AObj} {b : Addr} : b ∈ own δ p ↔ b = p.1 ∨ (p.2.two = true ∧ b = δ p.1) := by
  unfold own
  cases p.2.two <;> simp
structure Gr where
  prog : Program
  w : World
  h₀ : Heap
  gs : Array GenState
  os : OsState
  X : (kk.heap_1 w.params).In h₀
  lim : h₀.NoLimit
  mg : Str → Option Value
  hmg : h₀.Ns mainGlobals mg
  mb : Str → Option Value
  hmb : h₀.Ns builtinsNs mb
  hbv : ∀ x : Str, x ≠ "__name__" → mb x = bootBuiltins x
  sm : ∃ o, h₀.get? sysModules = some o
structure St (G : Gr) (L : Led) (s : Shared) : Prop where
  gens : s.gens = G.gs
  os : s.os = G.os
  kept : ∀ b o, G.h₀.get? b = some o → s.heap.get? b = some o
  led : ∃ δ, (addrs δ L).Nodup ∧ (∀ a ∈ addrs δ L, G.h₀.get? a = none) ∧ ∀ p ∈ L, OR G.prog G.w s.heap p.1 (δ p.1) p.2
variable {G : Gr} {L L' : Led} {s s' : Shared}
theorem St.X (S : St G L s) : (kk.heap_1 G.w.params).In s.heap := G.X.keeps S.kept
theorem own_there {P : Program} {w : World} {δ : Addr → Addr} {h : Heap} (H : ∀ p ∈ L, OR P w h p.1 (δ p.1) p.2) : ∀ b ∈ addrs δ L, ∃ o, h.get? b = some o := by
  intro b hb
  obtain ⟨p, hp, hb⟩ := List.mem_flatMap.mp hb
  rcases mem_own.mp hb with rfl | ⟨t, rfl⟩
  · exact (H p hp).there
  · exact (H p hp).there2 t
theorem OR.keepsAll {P : Program} {w : World} {h h' : Heap} {a d : Addr} {o : AObj} (x : OR P w h a d o) (k : ∀ b ob, h.get? b = some ob → h'.get? b = some ob) : OR P w h' a d o := x.keeps fun b ζ ob e => k b ob e
theorem St.ext (S : St G L s) (hg : s'.gens = s.gens) (ho : s'.os = s.os) (k : ∀ b ob, s.heap.get? b = some ob → s'.heap.get? b = some ob) : St G L s' := by
  obtain ⟨a, b, c, δ, d1, d2, d3⟩ := S
  exact ⟨hg.trans a, ho.trans b, fun x o e => k _ _ (c x o e), δ, d1, d2, fun p hp => (d3 p hp).keepsAll k⟩
theorem St.toks (S : St G L s) (n : Nat) : St G L { s with toks := n } := S.ext rfl rfl fun ζ ζ e => e
theorem fresh_size (S : St G L s) : G.h₀.get? s.heap.objs.size = none := by
  cases q : G.h₀.get? s.heap.objs.size with
  | none => rfl
  | some o => exact absurd (Heap.lt_size (S.kept _ _ q)) (Nat.lt_irrefl _)
theorem addrs_cons {δ : Addr → Addr} {p : Addr × AObj} : addrs δ (p :: L) = own δ p ++ addrs δ L := rfl
theorem addrs_congr {δ δ' : Addr → Addr} (h : ∀ p ∈ L, δ p.1 = δ' p.1) : addrs δ L = addrs δ' L := by
  induction L with
  | nil => rfl
  | cons p L ih =>
    rw [addrs_cons, addrs_cons, ih fun q hq => h q (.tail _ hq)]
    unfold own
    rw [h p (.head _)]
theorem size_ge {h : Heap} {b : Addr} (hb : h.objs.size ≤ b) : h.get? b = none := by
  cases q : h.get? b with
  | none => rfl
  | some o => exact absurd (Nat.lt_of_lt_of_le (Heap.lt_size q) hb) (Nat.lt_irrefl _)
theorem size_no {h : Heap} : h.get? h.objs.size = none := by
  cases q : h.get? h.objs.size with
  | none => rfl
  | some o => exact absurd (Heap.lt_size q) (Nat.lt_irrefl _)
theorem St.newAt {s s' : Shared} {D : Addr} {ao : AObj} (S : St G L s) (hD : s.heap.get? D = none) (k : ∀ b o, s.heap.get? b = some o → s'.heap.get? b = some o) (ht : ao.two = false) (h : ∀ d, OR G.prog G.w s'.heap D d ao)
    (hg : s'.gens = s.gens := by rfl) (ho : s'.os = s.os := by rfl) : St G ((D, ao) :: L) s' := by
  have fz : G.h₀.get? D = none := by
    cases q : G.h₀.get? D with
    | none => rfl
    | some o => rw [S.kept _ _ q] at hD; cases hD
  obtain ⟨a, b, c, δ, d1, d2, d3⟩ := S
  have hn : D ∉ addrs δ L := fun hm => by
    obtain ⟨ob, e⟩ := own_there d3 _ hm
    rw [hD] at e; cases e
  have eo : own δ (D, ao) = [D] := by unfold own; simp [ht]
  refine ⟨hg.trans a, ho.trans b, fun x ob e => k _ _ (c x ob e), δ, ?_, ?_, ?_⟩
  · rw [addrs_cons, eo]; exact List.nodup_cons.mpr ⟨hn, d1⟩
  · rw [addrs_cons, eo]
    intro y hy
    rcases List.mem_cons.mp hy with rfl | hy
    · exact fz
    · exact d2 y hy
  · intro p hp
    rcases List.mem_cons.mp hp with rfl | hp
    · exact h _
    · exact (d3 p hp).keepsAll k
theorem St.newAt2 {s s' : Shared} {D D' : Addr} {ao ao' : AObj} (S : St G L s) (hD : s.heap.get? D = none) (hD' : s.heap.get? D' = none) (hne : D ≠ D') (k : ∀ b o, s.heap.get? b = some o → s'.heap.get? b = some o) (ht : ao.two = false) (ht' : ao'.two = false) (h : ∀ d, OR G.prog G.w s'.heap D d ao) (h' : ∀ d, OR G.prog G.w s'.heap D' d ao')
    (hg : s'.gens = s.gens := by rfl) (ho : s'.os = s.os := by rfl) : St G ((D, ao) :: (D', ao') :: L) s' := by
  have fz : ∀ b, s.heap.get? b = none → G.h₀.get? b = none := fun b hb => by
    cases q : G.h₀.get? b with
    | none => rfl
    | some o => rw [S.kept _ _ q] at hb; cases hb
  have f1 := fz _ hD
  have f2 := fz _ hD'
  clear fz
  obtain ⟨a, b, c, δ, d1, d2, d3⟩ := S
  have hn : ∀ b, s.heap.get? b = none → b ∉ addrs δ L := fun b hb hm => by
    obtain ⟨ob, e⟩ := own_there d3 _ hm
    rw [hb] at e; cases e
  have eo : ∀ (D : Addr) (ao : AObj), ao.two = false → own δ (D, ao) = [D] := fun D ao ht => by unfold own; simp [ht]
  have ea : addrs δ ((D, ao) :: (D', ao') :: L) = D :: D' :: addrs δ L := by rw [addrs_cons, addrs_cons, eo _ _ ht, eo _ _ ht']; rfl
  refine ⟨hg.trans a, ho.trans b, fun x ob e => k _ _ (c x ob e), δ, ?_, ?_, ?_⟩
  · rw [ea]
    refine List.nodup_cons.mpr ⟨fun hm => ?_, List.nodup_cons.mpr ⟨hn _ hD', d1⟩⟩
    rcases List.mem_cons.mp hm with e | hm
    · exact hne e
    · exact hn _ hD hm
  · rw [ea]
    intro y hy
    rcases List.mem_cons.mp hy with rfl | hy
    · exact f1
    · rcases List.mem_cons.mp hy with rfl | hy
      · exact f2
      · exact d2 y hy
  · intro p hp
    rcases List.mem_cons.mp hp with rfl | hp
    · exact h _
    · rcases List.mem_cons.mp hp with rfl | hp
      · exact h' _
      · exact (d3 p hp).keepsAll k
theorem St.alloc1 (S : St G L s) {o : Obj} {ao : AObj} (ht : ao.two = false) (hf : o.isFreed = false) (h : ∀ d, OR G.prog G.w (s.heap.push o) s.heap.objs.size d ao) :
    St G ((s.heap.objs.size, ao) :: L) { s with heap := s.heap.push o } := S.newAt size_no (fun ζ ζ e => Heap.get?_push_of_some _ e) ht h
inductive Up (a : Addr) (o o' : AObj) : Led → Led → Prop
  | head {R} : Up a o o' ((a, o) :: R) ((a, o') :: R)
  | tail {p R R'} : Up a o o' R R' → Up a o o' (p :: R) (p :: R')
theorem Up.split {a : Addr} {o o' : AObj} (U : Up a o o' L L') : ∃ pre post, L = pre ++ (a, o) :: post ∧ L' = pre ++ (a, o') :: post := by
  induction U with
  | head => exact ⟨[], _, rfl, rfl⟩
  | tail _ ih => obtain ⟨pre, post, rfl, rfl⟩ := ih; exact ⟨_ :: pre, post, rfl, rfl⟩
theorem Up.mem {a : Addr} {o o' : AObj} (U : Up a o o' L L') : (a, o) ∈ L := by
  obtain ⟨pre, post, rfl, rfl⟩ := U.split; simp
theorem addrs_append {δ : Addr → Addr} {M : Led} : addrs δ (L ++ M) = addrs δ L ++ addrs δ M := by unfold addrs; rw [List.flatMap_append]
theorem St.upd {a b : Addr} {o o' : AObj} (S : St G L s) (U : Up a o o' L L') (ht : o'.two = o.two) (hg : s'.gens = s.gens) (ho : s'.os = s.os)
    (k : ∀ c ob, c ≠ b → s.heap.get? c = some ob → s'.heap.get? c = some ob)
    (h : ∀ d, OR G.prog G.w s.heap a d o → (d = b ∨ a = b) ∧ (b ≠ a → o.two = true) ∧ ((o.two = true → a ≠ d) → OR G.prog G.w s'.heap a d o')) : St G L' s' := by
  obtain ⟨g1, g2, c, δ, d1, d2, d3⟩ := S
  obtain ⟨pre, post, rfl, rfl⟩ := U.split
  obtain ⟨hb, hb2, hor⟩ := h (δ a) (d3 (a, o) (by simp))
  have bo : b ∈ own δ (a, o) := by
    rw [mem_own]
    rcases hb with e | e
    · by_cases q : b = a
      · exact .inl q
      · exact .inr ⟨hb2 q, e.symm⟩
    · exact .inl e.symm
  have e1 : own δ (a, o') = own δ (a, o) := by unfold own; simp [ht]
  have ea : addrs δ (pre ++ (a, o') :: post) = addrs δ (pre ++ (a, o) :: post) := by rw [addrs_append, addrs_append, addrs_cons, addrs_cons, e1]
  have nd := d1
  rw [addrs_append, addrs_cons] at nd
  obtain ⟨n1, n2, n3⟩ := List.nodup_append.mp nd
  obtain ⟨n4, n5, n6⟩ := List.nodup_append.mp n2
  have off : ∀ p, p ∈ pre ∨ p ∈ post → b ∉ own δ p := by
    rintro p (hp | hp) hm
    · exact n3 b (List.mem_flatMap.mpr ⟨p, hp, hm⟩) b (List.mem_append_left _ bo) rfl
    · exact n6 b bo b (List.mem_flatMap.mpr ⟨p, hp, hm⟩) rfl
  refine ⟨hg.trans g1, ho.trans g2, fun x ob e => k x ob (fun q => ?_) (c x ob e), δ, ea ▸ d1, fun x hx => d2 x (ea ▸ hx), fun p hp => ?_⟩
  · have := d2 b (by rw [addrs_append, addrs_cons]; exact List.mem_append_right _ (List.mem_append_left _ bo))
    rw [← q, e] at this; cases this
  · rcases List.mem_append.mp hp with hp | hp
    · exact (d3 p (List.mem_append_left _ hp)).keeps fun x hx ob e => k x ob (fun q => off p (.inl hp) (mem_own.mpr (q ▸ hx))) e
    · rcases List.mem_cons.mp hp with rfl | hp
      · refine hor fun t q => ?_
        have : own δ (a, o) = [a, δ a] := by unfold own; simp [t]
        rw [this] at n4
        exact (List.nodup_cons.mp n4).1 (by rw [← q]; simp)
      · exact (d3 p (List.mem_append_right _ (.tail _ hp))).keeps fun x hx ob e => k x ob (fun q => off p (.inr hp) (mem_own.mpr (q ▸ hx))) e
theorem St.drop (S : St G L s) (h : L'.Sublist L) : St G L' s := by
  obtain ⟨g1, g2, c, δ, d1, d2, d3⟩ := S
  have sub : (addrs δ L').Sublist (addrs δ L) := by
    clear d1 d2 d3
    induction h with
    | slnil => exact .slnil
    | cons a _ ih => rw [addrs_cons]; exact ih.trans (List.sublist_append_right _ _)
    | cons_cons a _ ih => rw [addrs_cons, addrs_cons]; exact ih.append_left _
  exact ⟨g1, g2, c, δ, d1.sublist sub, fun x hx => d2 x (sub.subset hx), fun p hp => d3 p (h.subset hp)⟩
inductive Rem (p : Addr × AObj) : Led → Led → Prop
  | head {L : Led} : Rem p (p :: L) L
  | tail {q : Addr × AObj} {L L' : Led} : Rem p L L' → Rem p (q :: L) (q :: L')
inductive Pick : Led → Led → Prop
  | refl {L : Led} : Pick L L
  | skip {q : Addr × AObj} {L' L : Led} : Pick L' L → Pick L' (q :: L)
  | cons {p : Addr × AObj} {L L1 L' : Led} : Rem p L L1 → Pick L' L1 → Pick (p :: L') L
theorem Rem.perm {p : Addr × AObj} (h : Rem p L L') : L.Perm (p :: L') := by
  induction h with
  | head => exact .refl _
  | tail _ ih => exact (List.Perm.cons _ ih).trans (List.Perm.swap ..)
theorem St.perm (S : St G L s) (h : L.Perm L') : St G L' s := by
  obtain ⟨g1, g2, c, δ, d1, d2, d3⟩ := S
  have hp : (addrs δ L).Perm (addrs δ L') := h.flatMap_right _
  exact ⟨g1, g2, c, δ, hp.nodup_iff.mp d1, fun x hx => d2 x (hp.mem_iff.mpr hx), fun p hp' => d3 p (h.mem_iff.mpr hp')⟩
theorem Pick.sub (h : Pick L' L) : ∃ M, L'.Sublist M ∧ M.Perm L := by
  induction h with
  | refl => exact ⟨_, .refl _, .refl _⟩
  | skip _ ih => obtain ⟨M, a, b⟩ := ih; exact ⟨_ :: M, .cons _ a, b.cons _⟩
  | cons r _ ih => obtain ⟨M, a, b⟩ := ih; exact ⟨_ :: M, a.cons_cons _, (b.cons _).trans r.perm.symm⟩
theorem St.pick (S : St G L s) (h : Pick L' L) : St G L' s := by
  obtain ⟨M, a, b⟩ := h.sub
  exact (S.perm b.symm).drop a
theorem Pick.app {R : Led} : ∀ pre : Led, Pick R (pre ++ R)
  | [] => .refl
  | _ :: r => .skip (Pick.app r)
end Mine
end
section
open PySem PySem.W PySem.Calls PyProof.Rows PySem.Spec
set_option Elab.async false
set_option linter.unusedVariables false
set_option maxRecDepth 10000
namespace Mine
noncomputable def holders : List String := ["bytearray.__contains__", "bytearray.__mod__", "bytearray.__rmod__", "_struct.pack_into.held", "bytearray.find.held"] ++ Builtin.Bytes.decodersThatHold
noncomputable def clean : Code → Bool
  | .builtin id _ => !holders.contains id
  | _ => true
noncomputable def Clean (Γ : PySem.Ctx) : Prop := clean Γ.code = true ∧ ∀ x ∈ Γ.below, clean x.1 = true
noncomputable def wpX {α : Type} (M : Model) (A : Around) (t : Sem α) (Q : α → Shared → Prop) (E : Value → Shared → Prop) (s : Shared) : Prop :=
  ∀ Γ p, Γ.In A → Clean Γ → Sem.wp M Γ t (fun a ζ s' => Q a s') (fun e ζ s' => E e s') p s
noncomputable def codeX (M : Model) (A : Around) (c : Code) (R : Result → Shared → Prop) (s : Shared) : Prop :=
  ∀ Γ p, Γ.code = c → Γ.Below A → (∀ x ∈ Γ.below, clean x.1 = true) → wpCode M Γ R p s
section
variable {α β : Type} {M : Model} {A : Around} {E : Value → Shared → Prop} {s : Shared} {c : Code} {R : Result → Shared → Prop}
theorem wpX_of {t : Sem α} {Q : α → Shared → Prop} (h : wpAny M A t Q E s) : wpX M A t Q E s := fun Γ p hΓ ζ => h Γ p hΓ
theorem codeX_of (h : codeAny M A c R s) : codeX M A c R s := fun Γ p hc hΓ ζ => h Γ p hc hΓ
theorem wpX_mono {t : Sem α} {Q Q' : α → Shared → Prop} {E' : Value → Shared → Prop} (h : wpX M A t Q E s) (hQ : ∀ a s, Q a s → Q' a s) (hE : ∀ e s, E e s → E' e s) : wpX M A t Q' E' s :=
  fun Γ p hΓ hc => Sem.wp_mono M Γ t (fun a ζ s => hQ a s) (fun e ζ s => hE e s) p s (h Γ p hΓ hc)
theorem wpX_pure {a : α} {Q : α → Shared → Prop} (h : Q a s) : wpX M A (pure a) Q E s := wpX_of (wpAny_pure h)
theorem wpX_bind {m : Sem α} {f : α → Sem β} {Q : β → Shared → Prop} (h : wpX M A m (fun a s' => wpX M A (f a) Q E s') E s) : wpX M A (m >>= f) Q E s := fun Γ p hΓ hc => by
  rw [Sem.wp_bind']
  exact Sem.wp_mono M Γ m (fun a p' s' h' => h' Γ p' hΓ hc) (fun ζ ζ ζ h' => h') p s (h Γ p hΓ hc)
theorem wpX_holding {vs : List Value} {m : Sem α} {Q : α → Shared → Prop} (h : wpX M A m Q E s) : wpX M A (holding vs m) Q E s :=
  fun Γ p hΓ hc => by rw [Sem.wp_holding]; exact h Γ p hΓ hc
theorem wpX_keep {vs : List Value} {m : Sem α} {Q : α → Shared → Prop} (h : wpX M A m Q E s) : wpX M A (m.keep vs) Q E s :=
  fun Γ p hΓ hc => by rw [Sem.wp_keep]; exact h Γ p hΓ hc
theorem wpX_tryCatch {m : Sem α} {k : Value → Sem α} {Q : α → Shared → Prop} (h : wpX M A m Q (fun e s' => wpX M A (k e) Q E s') s) : wpX M A (tryCatch m k) Q E s := fun Γ p hΓ hc => by
  rw [Sem.wp_tryCatch']
  exact Sem.wp_mono M Γ m (fun ζ ζ ζ h' => h') (fun e p' s' h' => h' Γ p' hΓ hc) p s (h Γ p hΓ hc)
theorem wpX_onRaise {m : Sem α} {k : Value → Sem Unit} {Q : α → Shared → Prop} (h : wpX M A m Q (fun e s' => wpX M A (k e) (fun ζ s'' => E e s'') E s') s) : wpX M A (m.onRaise k) Q E s := fun Γ p hΓ hc => by
  rw [Sem.wp_onRaise]
  exact Sem.wp_mono M Γ m (fun ζ ζ ζ h' => h') (fun e p' s' h' => h' Γ p' hΓ hc) p s (h Γ p hΓ hc)
theorem Clean.enter {Γ : PySem.Ctx} (h : Clean Γ) (c : Code) (hd : Option Value) (p : Pos) : ∀ x ∈ (Γ.enter c hd p).below, clean x.1 = true := by
  intro x hx
  rcases List.mem_cons.mp hx with rfl | hx
  · exact h.1
  · exact h.2 x hx
theorem wpX_run {c : Code} {h : Option Value} {Q : Flow → Shared → Prop} (hc : codeX M (A.mark h) c (fun r s' => match r with | .ok f => Q f s' | .error e => E e s') s) (hnb : h ≠ some byPass := by intro x; cases x) : wpX M A (run c h) Q E s :=
  fun Γ p hΓ hcl => by rw [Sem.wp_run]; exact hc _ p rfl (hΓ.enter c h p hnb) (hcl.enter c h p)
theorem wpX_runValue {c : Code} {Q : Value → Shared → Prop} (hc : codeX M A c (fun r s' => match r with | .ok (.ret v) => Q v s' | .ok _ => False | .error e => E e s') s) : wpX M A (runValue c) Q E s :=
  fun Γ p hΓ hcl => by rw [Sem.wp_runValue]; exact hc _ p rfl (hΓ.enter c none p (by intro x; cases x)) (hcl.enter c none p)
theorem wpX_call {f : Value} {pos : List Value} {kw : List (Str × Value)} {Q : Value → Shared → Prop} (hc : codeX M A (.call f ⟨pos, kw⟩) (fun r s' => match r with | .ok (.ret v) => Q v s' | .ok _ => False | .error e => E e s') s) : wpX M A (call f pos kw) Q E s := wpX_runValue hc
theorem codeX_mono {R' : Result → Shared → Prop} (h : codeX M A c R s) (k : ∀ r s', R r s' → R' r s') : codeX M A c R' s := fun Γ p hc hΓ hb => by
  obtain ⟨r, s', a, b⟩ := h Γ p hc hΓ hb
  exact ⟨r, s', a, k _ _ b⟩
theorem codeX_of_tree (hc : clean c = true) (h : wpX M (A.under c) (M.den c) (fun fin s' => match fin with | .done f => R (.ok f) s' | .again c' => c'.quiet = true ∧ codeX M A c' R s') (fun e s' => R (.error e) s') s) : codeX M A c R s := fun Γ p hcode hΓ hb => by
  rw [wpCode_iff_wp, hcode]
  refine Sem.wp_mono M Γ _ (fun fin p' s' h' => ?_) (fun ζ ζ ζ h' => h') p s (h Γ p (hcode ▸ hΓ.in) ⟨hcode ▸ hc, hb⟩)
  cases fin with
  | done f => exact h'
  | again c' => exact ⟨h'.1, h'.2 (Γ.goto c') p' rfl (hΓ.goto c') hb⟩
end
section
variable {prog : Program} {w : World} {A : Around} {E : Value → Shared → Prop} {s : Shared} {R : Result → Shared → Prop} {env : Env}
theorem codeX_func {body : List Stmt} (h : wpX (model prog w) (A.deeper env) (execs body env) (fun f s' => R (.ok (.ret (match f with | .ret v => v | _ => .none))) s')
      (fun e s' => wpX (model prog w) (A.deeper env) (leaving env e) (fun ζ s'' => R (.error e) s'') (fun e' s'' => R (.error e') s'') s') s) : codeX (model prog w) A (.func body env) R s := by
  refine codeX_of_tree rfl ?_
  show wpX _ (A.deeper env) (do point; match ← (execs body env).onRaise (leaving env) with | .ret v => ret v | _ => ret .none) _ _ s
  refine wpX_bind (wpX_of (wpAny_point (wpX_bind (wpX_onRaise (wpX_mono h (fun f s' h' => ?_) fun ζ ζ h' => h')))))
  cases f <;> exact wpX_pure h'
theorem codeX_def {a : Addr} {o : Obj} {fd : FuncData} {body : List Stmt} {args : Args} {binds : List (Str × Value)}
    (hroom : A.depth < recursionLimit) (ho : s.heap.get? a = some o) (hdata : o.data = .func fd) (hlim : s.heap.NoLimit) (hcd : s.heap.CodeRec fd.code fd.qualname)
    (hbody : fd.body = .stmts body) (hbind : BindsTo s fd args binds)
    (hcell : ∀ x ∈ fd.scope.names, x.2 ≠ .cell) (hloc : ∀ x ∈ binds, fd.scope.names.lookup x.1 = some .local)
    (h : ∀ h₀, h₀.Ns s.heap.objs.size (fun x => binds.reverse.lookup x) → (∀ b o, s.heap.get? b = some o → h₀.get? b = some o) →
      wpX (model prog w) (A.deeper (callEnv fd s.heap.objs.size a)) (execs body (callEnv fd s.heap.objs.size a)) (fun f s' => R (.ok (.ret (match f with | .ret v => v | _ => .none))) s') (fun ζ ζ => False) { s with heap := h₀, toks := s.toks + binds.length })
    (hco : fd.scope.isCoroutine = false) (hgen : fd.scope.isGenerator = false) (hk : fd.scope.kind = .function) : codeX (model prog w) A (.call (.ref a) args) R s := by
  refine codeX_of_tree rfl ?_
  show wpX _ A.in1 (callAny (.ref a) args) _ _ s
  simp only [callAny]
  refine wpX_bind (wpX_of (wpAny_load ho ?_))
  obtain ⟨c, oc, vs, tq, hc, hoc, hdc, hq⟩ := hcd
  simp only [hdata, callFunction, hco, hgen, hbody, hc]
  refine wpX_bind (wpX_of (wpAny_field hoc hdc hq ?_))
  refine wpX_bind (wpX_pure ?_)
  refine wpX_bind (wpX_of (hbind _ _ _ _ ?_))
  refine wpX_bind (wpX_of (wpAny_newFunctionEnv hcell hloc (fun h₀ hns₀ hsb₀ => ?_) hk))
  have kp : ∀ b o, s.heap.get? b = some o → h₀.get? b = some o := fun b o e => hsb₀.extBut b o (Nat.ne_of_lt (Heap.lt_size e)) (Heap.get?_push_of_some _ e)
  refine wpX_bind (wpX_of (wpAny_enterFrame (hlim.keeps kp) hroom ?_))
  refine wpX_pure (And.intro rfl ?_)
  have z := h h₀ hns₀ kp
  unfold callEnv at z
  rw [hc] at z
  exact codeX_func (wpX_mono z (fun ζ ζ x => x) fun ζ ζ x => x.elim)
end
end Mine
end
section
open PySem PySem.W PySem.Calls PyProof.Rows PySem.Spec
set_option Elab.async false
set_option linter.unusedVariables false
set_option maxRecDepth 10000
namespace Mine
noncomputable def Rm (n : Nat) (A : Around) : Prop := A.handled = none ∧ A.depth + 3 * n + 10 < 1000 ∧ A.units + 16 * n + 60 < 9900
noncomputable def C {α β : Type} (R : β → α → Prop) (G : Gr) (n : Nat) (L : Led) (t : Sem α) (K : β → Led → Prop) : Prop :=
  ∀ A s, Rm n A → St G L s → wpX (model G.prog G.w) A t (fun x s' => ∃ y L', R y x ∧ St G L' s' ∧ K y L') (fun ζ ζ => False) s
noncomputable abbrev Cv := @C Value AV VR
noncomputable abbrev Cvs := @C (List Value) (List AV) VRs
noncomputable abbrev Cb := @C Bool Bool (fun a b => a = b)
noncomputable abbrev Cu := @C Unit Unit (fun ζ ζ => True)
inductive Fl where
  | next | brk | cont
  | ret (a : AV)
noncomputable def FlR : Fl → Flow → Prop
  | .next, f => f = .next
  | .brk, f => f = .brk
  | .cont, f => f = .cont
  | .ret a, f => ∃ v, f = .ret v ∧ VR a v
noncomputable abbrev Cf := @C Flow Fl FlR
section
variable {α β γ δ : Type} {R : β → α → Prop} {R' : δ → γ → Prop} {G : Gr} {n : Nat} {L L' : Led} {t : Sem α} {K K' : β → Led → Prop} {A : Around} {s : Shared}
theorem C.use {Q : α → Shared → Prop} (h : C R G n L t K) (hA : Rm n A) (hS : St G L s) (k : ∀ x s' y L', R y x → St G L' s' → K y L' → Q x s') :
    wpX (model G.prog G.w) A t Q (fun ζ ζ => False) s := wpX_mono (h A s hA hS) (fun x s' ⟨y, L', a, b, c⟩ => k x s' y L' a b c) fun ζ ζ e => e
theorem C.useE {Q : α → Shared → Prop} {E : Value → Shared → Prop} (h : C R G n L t K) (hA : Rm n A) (hS : St G L s) (k : ∀ x s' y L', R y x → St G L' s' → K y L' → Q x s') :
    wpX (model G.prog G.w) A t Q E s := wpX_mono (h A s hA hS) (fun x s' ⟨y, L', a, b, c⟩ => k x s' y L' a b c) fun ζ ζ e => e.elim
theorem C.leaf (h : ∀ A s, Rm n A → St G L s → wpAny (model G.prog G.w) A t (fun x s' => ∃ y L', R y x ∧ St G L' s' ∧ K y L') (fun ζ ζ => False) s) : C R G n L t K := fun A s hA hS => wpX_of (h A s hA hS)
theorem C.mono (h : C R G n L t K) (k : ∀ y L', K y L' → K' y L') : C R G n L t K' := fun A s hA hS => h.use hA hS fun ζ ζ y L' a b c => ⟨y, L', a, b, k y L' c⟩
theorem C.bind {f : α → Sem γ} {K' : δ → Led → Prop} (h : C R G n L t (fun y L' => ∀ x, R y x → C R' G n L' (f x) K')) : C R' G n L (t >>= f) K' :=
  fun A s hA hS => wpX_bind (h.use hA hS fun x s' y L' a b c => c x a A s' hA b)
theorem C.pure {x : α} {y : β} (h : R y x) (k : K y L) : C R G n L (pure x) K := fun ζ ζ ζ hS => wpX_pure ⟨y, L, h, hS, k⟩
theorem C.drop (hs : L'.Sublist L) (h : C R G n L' t K) : C R G n L t K := fun A s hA hS => h A s hA (hS.drop hs)
theorem C.of {t' : Sem α} (e : t = t') (h : C R G n L t' K) : C R G n L t K := e ▸ h
theorem C.hold {vs : List Value} (h : C R G n L t K) : C R G n L (holding vs t) K := fun A s hA hS => wpX_holding (h A s hA hS)
theorem C.at {pos : Pos} {f : Unit → Sem α} (h : C R G n L (f ()) K) : C R G n L (standAt pos >>= f) K := fun A s hA hS => wpX_bind (wpX_of (wpAny_standAt (h A s hA hS)))
theorem C.rel {vs ks : List Value} {f : Unit → Sem α} (h : C R G n L (f ()) K) : C R G n L (release vs ks >>= f) K := fun A s hA hS => wpX_bind (wpX_of (wpAny_release (h A s hA hS)))
theorem C.then {f : α → Sem γ} {K' : δ → Led → Prop} (h : C R G n L t K) (k : ∀ y L', K y L' → ∀ x, R y x → C R' G n L' (f x) K') : C R' G n L (t >>= f) K' := C.bind (h.mono k)
end
theorem C.op {G : Gr} {n : Nat} {L : Led} {ops : List Value} {m : Sem Value} {K : AV → Led → Prop} (h : Cv G n L m K) : Cv G n L (operate ops m) K :=
  C.bind (C.hold (h.mono fun y L' k x hx => C.rel (C.pure hx k)))
section
variable {G : Gr} {n : Nat} {L L' : Led} {E : Env} {pos p1 p2 : Pos}
theorem Name_ {x : Str} {a : AV} {sc : Scope} {kvs : List (Str × Option AV)} {Lf : Addr} {K : AV → Led → Prop} (hl : (Lf, AObj.ns sc kvs) ∈ L) (hx : (x, some a) ∈ kvs) (h : K a L)
    (e1 : E.locals = Lf := by rfl) (e2 : E.scope = sc := by rfl) (hk : sc.kind = .function := by rfl) (hd : (x == ("__debug__" : Str)) = false := by decide +kernel) : Cv G n L (eval (.Name x pos) E) K := by
  refine Mine.C.leaf ?_
  intro A s hA hS
  obtain ⟨δ, d1, d2, d3⟩ := hS.led
  obtain ⟨y1, y2, m, hn, hm⟩ := d3 _ hl
  obtain ⟨c, hc, hv⟩ := hm _ hx a rfl
  subst e1 e2
  exact wpAny_Name (wpAny_loadName_local hk (y2 _ hx) hn hc ⟨a, L, hv, hS, h⟩) hd
theorem GName_ {x : Str} {v : Value} {K : AV → Led → Prop} (hx : nsIn (kk.heap_1 G.w.params) mainGlobals x = some (some v)) (h : K (.con v) L) (hi : E.kindOf x = some .globalImplicit)
    (e1 : E.globals = mainGlobals := by rfl) (hk : E.scope.kind = .function := by rfl) (hd : (x == ("__debug__" : Str)) = false := by decide +kernel) : Cv G n L (eval (.Name x pos) E) K := by
  refine Mine.C.leaf ?_
  intro A s hA hS
  have e := mg_of G.X G.hmg hx
  have hns : s.heap.Ns mainGlobals G.mg := by
    obtain ⟨o, es, ep, ho, r⟩ := G.hmg
    exact ⟨o, es, ep, hS.kept _ _ ho, r⟩
  exact Name_function_global hk hi (loadGlobal_global (by rw [e1]; exact hns) e ⟨AV.con v, L, rfl, hS, h⟩) hd
theorem BName_ {x : Str} {v : Value} {K : AV → Led → Prop} (hx : nsIn (kk.heap_1 G.w.params) mainGlobals x = some none) (hb : bootBuiltins x = some v) (h : K (.con v) L) (hi : E.kindOf x = some .globalImplicit)
    (e1 : E.globals = mainGlobals := by rfl) (e2 : E.builtins = builtinsNs := by rfl) (hk : E.scope.kind = .function := by rfl) (hd : (x == ("__debug__" : Str)) = false := by decide +kernel) (hne : (x == ("__name__" : Str)) = false := by decide +kernel) :
    Cv G n L (eval (.Name x pos) E) K := by
  refine Mine.C.leaf ?_
  intro A s hA hS
  have hns : s.heap.Ns mainGlobals G.mg := by
    obtain ⟨o, es, ep, ho, r⟩ := G.hmg
    exact ⟨o, es, ep, hS.kept _ _ ho, r⟩
  have hnb : s.heap.Ns builtinsNs G.mb := by
    obtain ⟨o, es, ep, ho, r⟩ := G.hmb
    exact ⟨o, es, ep, hS.kept _ _ ho, r⟩
  have e : G.mg x = none := by
    obtain ⟨o, es, ep, ho, hd, _, hf⟩ := G.hmg
    unfold nsIn at hx
    split at hx
    · rename_i c d es' n' sl q
      have := G.X _ _ q
      rw [ho] at this
      cases this
      cases hd
      split at hx
      · cases hx
      · rename_i z
        rw [← hf x]
        unfold nsFind findBy
        rw [← Array.find?_toList, z]; rfl
    · cases hx
  have hb' : G.mb x = some v := (G.hbv x (by simpa using hne)).trans hb
  exact Name_function_global hk hi (loadGlobal_builtin (by rw [e1]; exact hns) e (by rw [e2]; exact hnb) hb' ⟨AV.con v, L, rfl, hS, h⟩) hd
theorem Int_ {i : Int} {k : Nat} {K : AV → Led → Prop} (h : K (.int i) L) : Cv G n L (eval (.Constant (.int i) k pos) E) K :=
  C.leaf fun ζ s ζ hS => wpAny_Constant_int ⟨AV.int i, L, ⟨_, rfl⟩, hS.toks _, h⟩
theorem BinOp_ {l r : Expr} {op : Operator} {K : AV → Led → Prop} (h : Cv G n L (eval l E) fun a L1 => Cv G n L1 (eval r E) fun b L2 => ∀ v w, VR a v → VR b w → Cv G n L2 (binaryOp op v w) K) :
    Cv G n L (eval (.BinOp l op r pos) E) K :=
  C.of (eval_BinOp ..) (C.then h fun a L1 k v hv => C.then (C.hold k) fun b L2 k2 w hw => C.at (C.op (k2 v w hv hw)))
theorem Compare_ {l r : Expr} {op : CmpOp} {K : AV → Led → Prop} (h : Cv G n L (eval l E) fun a L1 => Cv G n L1 (eval r E) fun b L2 => ∀ v w, VR a v → VR b w → Cv G n L2 (compareOp op v w) K)
    (hm : behindInMarks op r = false := by with_unfolding_all rfl) : Cv G n L (eval (.Compare l [op] [r] pos) E) K := by
  refine C.of (eval_Compare1 ..) ?_
  rw [markedBehindIn_of_false hm]
  exact C.then h fun a L1 k v hv => C.then (C.hold k) fun b L2 k2 w hw => C.at (C.op (k2 v w hv hw))
theorem None_ {k : Nat} {K : AV → Led → Prop} (h : K .none L) : Cv G n L (eval (.Constant .none k pos) E) K := C.leaf fun ζ ζ ζ hS => wpAny_Constant_none ⟨AV.none, L, rfl, hS, h⟩
theorem Bool_ {b : Bool} {k : Nat} {K : AV → Led → Prop} (h : K (.bool b) L) : Cv G n L (eval (.Constant (.bool b) k pos) E) K := C.leaf fun ζ ζ ζ hS => wpAny_Constant_bool ⟨AV.bool b, L, rfl, hS, h⟩
theorem Bytes_ {b : List UInt8} {k : Nat} {K : AV → Led → Prop} (h : K (.bytes b) L) : Cv G n L (eval (.Constant (.bytes b) k pos) E) K := by
  refine Mine.C.leaf ?_
  intro A s hA hS
  exact Constant_bytes ⟨AV.bytes b, L, ⟨s.toks, rfl⟩, hS.toks _, h⟩
theorem Unary_ {x : Expr} {op : UnaryOp} {K : AV → Led → Prop} (h : Cv G n L (eval x E) fun a L1 => ∀ v, VR a v → Cv G n L1 (unaryOp op v) K) : Cv G n L (eval (.UnaryOp op x pos) E) K :=
  C.of (arm_eval_UnaryOp ..) (C.then h fun a L1 k v hv => C.at (C.hold (k v hv)))
noncomputable abbrev Tt (G : Gr) (n : Nat) (E : Env) (L : Led) (e : Expr) (K : Bool → Led → Prop) : Prop := Cb G n L (isTrue e E (eval e E)) K
theorem TtNot_ {x : Expr} {K : Bool → Led → Prop} (h : Tt G n E L x fun b L1 => K (!b) L1) : Tt G n E L (.UnaryOp .Not x pos) K :=
  C.of (arm_isTrue_UnaryOp ..) (C.then h fun b L1 k v hv => C.pure (by rw [hv]) k)
theorem TtCmp_ {l r : Expr} {op : CmpOp} {K : Bool → Led → Prop} (h : Cv G n L (eval l E) fun a L1 => Cv G n L1 (eval r E) fun b L2 => ∀ v w, VR a v → VR b w → Cv G n L2 (compareOp op v w) fun c L3 => ∀ u, VR c u → Cb G n L3 (truthy u) K)
    (hm : behindInMarks op r = false := by with_unfolding_all rfl) : Tt G n E L (.Compare l [op] [r] pos) K := by
  refine C.of (isTrue_Compare1 ..) ?_
  rw [markedBehindIn_of_false hm]
  exact C.then h fun a L1 k v hv => C.then (C.hold k) fun b L2 k2 w hw => C.at (C.then (C.op (k2 v w hv hw)) fun c L3 k3 u hu => C.hold (k3 u hu))
theorem TtVal_ {x : Expr} {K : Bool → Led → Prop} (h : Cv G n L (eval x E) fun a L1 => ∀ v, VR a v → Cb G n L1 (truthy v) K)
    (he : isTrue x E (eval x E) = (do let v ← eval x E; standAt x.pos; PySem.holding [v] (truthy v)) := by rfl) : Tt G n E L x K :=
  C.of he (C.then h fun a L1 k v hv => C.at (C.hold (k v hv)))
theorem TtBool_ {op : BoolOp} {xs : List Expr} {K : Bool → Led → Prop} (h : Cb G n L (allTrue op xs E) K) : Tt G n E L (.BoolOp op xs pos) K := C.of (arm_isTrue_BoolOp ..) h
theorem AndNil_ {K : Bool → Led → Prop} (h : K true L) : Cb G n L (allTrue .And [] E) K := C.leaf fun ζ ζ ζ hS => wpAny_allTrue_And_nil ⟨true, L, rfl, hS, h⟩
theorem OrNil_ {K : Bool → Led → Prop} (h : K false L) : Cb G n L (allTrue .Or [] E) K := C.leaf fun ζ ζ ζ hS => wpAny_allTrue_Or_nil ⟨false, L, rfl, hS, h⟩
theorem AndCons_ {x : Expr} {xs : List Expr} {K : Bool → Led → Prop} (h : Tt G n E L x fun b L1 => match b with | true => Cb G n L1 (allTrue .And xs E) K | false => K false L1) : Cb G n L (allTrue .And (x :: xs) E) K := by
  refine C.of (t' := do match BoolOp.And, ← isTrue x E (eval x E) with | .And, false => pure false | .Or, true => pure true | _, _ => allTrue .And xs E) rfl (C.then h fun b L1 k v hv => ?_)
  subst hv
  cases b with
  | true => exact k
  | false => exact C.pure rfl k
theorem OrCons_ {x : Expr} {xs : List Expr} {K : Bool → Led → Prop} (h : Tt G n E L x fun b L1 => match b with | true => K true L1 | false => Cb G n L1 (allTrue .Or xs E) K) : Cb G n L (allTrue .Or (x :: xs) E) K := by
  refine C.of (t' := do match BoolOp.Or, ← isTrue x E (eval x E) with | .And, false => pure false | .Or, true => pure true | _, _ => allTrue .Or xs E) rfl (C.then h fun b L1 k v hv => ?_)
  subst hv
  cases b with
  | true => exact C.pure rfl k
  | false => exact k
theorem truthyB_ {b : Bool} {v : Value} {K : Bool → Led → Prop} (hv : VR (.bool b) v) (h : K b L) : Cb G n L (truthy v) K := by
  refine Mine.C.leaf ?_
  intro A s hA hS
  obtain rfl : v = .bool b := hv
  exact wpAny_truthy_bool ⟨b, L, rfl, hS, h⟩
theorem negI_ {i : Int} {v : Value} {K : AV → Led → Prop} (hv : VR (.int i) v) (h : K (.int (-i)) L) : Cv G n L (unaryOp .USub v) K := by
  refine Mine.C.leaf ?_
  intro A s hA hS
  obtain ⟨t, rfl⟩ := hv
  with_reducible refine neg_int ?_
  exact ⟨AV.int (-i), L, ⟨_, rfl⟩, hS.toks _, h⟩
section sInts
variable {a b : Int} {v w : Value} {K : AV → Led → Prop} (hv : VR (.int a) v) (hw : VR (.int b) w)
include hv hw
theorem addI_ (h : K (.int (a + b)) L) : Cv G n L (binaryOp .Add v w) K := by
  refine Mine.C.leaf ?_
  intro A s hA hS; obtain ⟨t, rfl⟩ := hv; obtain ⟨u, rfl⟩ := hw
  with_reducible refine add_int ?_
  exact ⟨AV.int _, L, ⟨_, rfl⟩, hS.toks _, h⟩
theorem subI_ (h : K (.int (a - b)) L) : Cv G n L (binaryOp .Sub v w) K := by
  refine Mine.C.leaf ?_
  intro A s hA hS; obtain ⟨t, rfl⟩ := hv; obtain ⟨u, rfl⟩ := hw
  with_reducible refine sub_int ?_
  exact ⟨AV.int _, L, ⟨_, rfl⟩, hS.toks _, h⟩
theorem mulI_ (hm : IntMulOk a b) (h : K (.int (a * b)) L) : Cv G n L (binaryOp .Mult v w) K := by
  refine Mine.C.leaf ?_
  intro A s hA hS; obtain ⟨t, rfl⟩ := hv; obtain ⟨u, rfl⟩ := hw
  with_reducible refine mul_int ?_ hm
  exact ⟨AV.int _, L, ⟨_, rfl⟩, hS.toks _, h⟩
theorem modI_ (hb : b ≠ 0) (h : K (.int (a.fmod b)) L) : Cv G n L (binaryOp .Mod v w) K := by
  refine Mine.C.leaf ?_
  intro A s hA hS; obtain ⟨t, rfl⟩ := hv; obtain ⟨u, rfl⟩ := hw
  with_reducible refine mod_int hb ?_
  exact ⟨AV.int _, L, ⟨_, rfl⟩, hS.toks _, h⟩
theorem divI_ (hb : b ≠ 0) (hp : Builtin.divisionGoesByPylong a b = false) (h : K (.int (a.fdiv b)) L) : Cv G n L (binaryOp .FloorDiv v w) K := by
  refine Mine.C.leaf ?_
  intro A s hA hS; obtain ⟨t, rfl⟩ := hv; obtain ⟨u, rfl⟩ := hw
  with_reducible refine floordiv_int hb ?_ (.inl hp)
  exact ⟨AV.int _, L, ⟨_, rfl⟩, hS.toks _, h⟩
theorem andI_ (h : K (.int (Builtin.bitAnd a b)) L) : Cv G n L (binaryOp .BitAnd v w) K := by
  refine Mine.C.leaf ?_
  intro A s hA hS; obtain ⟨t, rfl⟩ := hv; obtain ⟨u, rfl⟩ := hw
  with_reducible refine and_int ?_
  exact ⟨AV.int _, L, ⟨_, rfl⟩, hS.toks _, h⟩
theorem orI_ (h : K (.int (Builtin.bitOr a b)) L) : Cv G n L (binaryOp .BitOr v w) K := by
  refine Mine.C.leaf ?_
  intro A s hA hS; obtain ⟨t, rfl⟩ := hv; obtain ⟨u, rfl⟩ := hw
  with_reducible refine or_int ?_
  exact ⟨AV.int _, L, ⟨_, rfl⟩, hS.toks _, h⟩
theorem shrI_ (hb : 0 ≤ b) (h : K (.int (a.fdiv (2 ^ b.toNat))) L) : Cv G n L (binaryOp .RShift v w) K := by
  refine Mine.C.leaf ?_
  intro A s hA hS; obtain ⟨t, rfl⟩ := hv; obtain ⟨u, rfl⟩ := hw
  with_reducible refine rshift_int hb ?_
  exact ⟨AV.int _, L, ⟨_, rfl⟩, hS.toks _, h⟩
theorem shlI_ (hb : 0 ≤ b) (hb2 : b ≤ 1000000) (ha : a.natAbs < 2 ^ 64) (h : K (.int (a * 2 ^ b.toNat)) L) : Cv G n L (binaryOp .LShift v w) K := by
  refine Mine.C.leaf ?_
  intro A s hA hS; obtain ⟨t, rfl⟩ := hv; obtain ⟨u, rfl⟩ := hw
  with_reducible refine lshift_int_small hb hb2 ha ?_
  exact ⟨AV.int _, L, ⟨_, rfl⟩, hS.toks _, h⟩
theorem ltI_ (h : K (.bool (decide (a < b))) L) : Cv G n L (compareOp .Lt v w) K := by
  refine Mine.C.leaf ?_
  intro A s hA hS; obtain ⟨t, rfl⟩ := hv; obtain ⟨u, rfl⟩ := hw
  with_reducible refine lt_int ?_
  exact ⟨AV.bool _, L, rfl, hS, h⟩
theorem gtI_ (h : K (.bool (decide (a > b))) L) : Cv G n L (compareOp .Gt v w) K := by
  refine Mine.C.leaf ?_
  intro A s hA hS; obtain ⟨t, rfl⟩ := hv; obtain ⟨u, rfl⟩ := hw
  with_reducible refine gt_int ?_
  exact ⟨AV.bool _, L, rfl, hS, h⟩
theorem geI_ (h : K (.bool (decide (a ≥ b))) L) : Cv G n L (compareOp .GtE v w) K := by
  refine Mine.C.leaf ?_
  intro A s hA hS; obtain ⟨t, rfl⟩ := hv; obtain ⟨u, rfl⟩ := hw
  with_reducible refine ge_int ?_
  exact ⟨AV.bool _, L, rfl, hS, h⟩
theorem eqI_ (h : K (.bool (a == b)) L) : Cv G n L (compareOp .Eq v w) K := by
  refine Mine.C.leaf ?_
  intro A s hA hS; obtain ⟨t, rfl⟩ := hv; obtain ⟨u, rfl⟩ := hw
  with_reducible refine eq_int ?_
  exact ⟨AV.bool _, L, rfl, hS, h⟩
theorem neI_ (h : K (.bool (a != b)) L) : Cv G n L (compareOp .NotEq v w) K := by
  refine Mine.C.leaf ?_
  intro A s hA hS; obtain ⟨t, rfl⟩ := hv; obtain ⟨u, rfl⟩ := hw
  with_reducible refine ne_int ?_
  exact ⟨AV.bool _, L, rfl, hS, h⟩
theorem iaddI_ (h : K (.int (a + b)) L) : Cv G n L (inplaceOp .Add v w) K := by
  refine Mine.C.leaf ?_
  intro A s hA hS; obtain ⟨t, rfl⟩ := hv; obtain ⟨u, rfl⟩ := hw
  with_reducible refine iadd_int ?_
  exact ⟨AV.int _, L, ⟨_, rfl⟩, hS.toks _, h⟩
end sInts
theorem isNone_ {a : AV} {b : Bool} {v w : Value} {K : AV → Led → Prop} (hv : VR a v) (hw : VR .none w) (hb : (match a with | .none => some true | .any => none | .con c => some (c == .none) | _ => some false) = some b) (h : K (.bool b) L) : Cv G n L (compareOp .Is v w) K := by
  refine Mine.C.leaf ?_
  intro A s hA hS
  obtain rfl : w = .none := hw
  refine is_none ⟨AV.bool b, L, ?_, hS, h⟩
  show Value.bool (v == .none) = Value.bool b
  congr 1
  cases a <;> simp only [VR] at hv <;> first | (cases hb) | skip
  all_goals first | (subst hv; rfl) | (obtain ⟨t, rfl⟩ := hv; rfl) | (subst hv; simpa using hb)
theorem isnot_none' {M : Model} {A : Around} {s : Shared} {F : Value → Shared → Prop} {v : Value} {Q : Value → Shared → Prop} (h : Q (.bool (!(v == .none))) s) : wpAny M A (compareOp .IsNot v .none) Q F s := by
  show wpAny M A (do return .bool (!(← isSame v .none))) Q F s
  rw [isSame_none]; exact wpAny_bind (wpAny_pure (wpAny_pure h))
theorem isNotNone_ {a : AV} {b : Bool} {v w : Value} {K : AV → Led → Prop} (hv : VR a v) (hw : VR .none w) (hb : (match a with | .none => some true | .any => none | .con c => some (c == .none) | _ => some false) = some b) (h : K (.bool (!b)) L) : Cv G n L (compareOp .IsNot v w) K := by
  refine Mine.C.leaf ?_
  intro A s hA hS
  obtain rfl : w = .none := hw
  refine isnot_none' ⟨AV.bool (!b), L, ?_, hS, h⟩
  show Value.bool (!(v == .none)) = Value.bool (!b)
  congr 2
  cases a <;> simp only [VR] at hv <;> first | (cases hb) | skip
  all_goals first | (subst hv; rfl) | (obtain ⟨t, rfl⟩ := hv; rfl) | (subst hv; simpa using hb)
end
end Mine
end
section
open PySem PySem.W PySem.Calls PyProof.Rows PySem.Spec
set_option Elab.async false
set_option linter.unusedVariables false
set_option maxRecDepth 10000
namespace Mine
section
variable {G : Gr} {n : Nat} {L L' : Led} {E : Env} {pos p1 p2 : Pos}
theorem FR.keysStr {fs : List (Str × AV)} {es : List DictEntry} (h : FR fs es) : (es.any (·.refKey)) = false := by
  induction h with
  | nil => rfl
  | cons hk _ _ ih => obtain ⟨t, e⟩ := hk; rw [List.any_cons, ih]; simp [DictEntry.refKey, e]
theorem isStr_key {x y : Str} {t : Tok} {e : DictEntry} (h : e.key = .str y t) : e.key.isStr x = (y == x) := by rw [h]; rfl
theorem FR.get {fs : List (Str × AV)} {es : List DictEntry} {x : Str} {a : AV} (h : FR fs es) (hn : (fs.map (·.1)).Nodup) (hm : (x, a) ∈ fs) : ∃ v, getL x es = some (some v) ∧ VR a v := by
  induction h with
  | nil => cases hm
  | @cons y b fs e es hk hv _ ih =>
    obtain ⟨t, ek⟩ := hk
    rw [List.map_cons, List.nodup_cons] at hn
    unfold getL
    rcases List.mem_cons.mp hm with q | q
    · cases q
      refine ⟨e.val, ?_, hv⟩
      rw [List.find?_cons_of_pos (by rw [isStr_key ek]; simp)]
    · have ne : (y == x) = false := by
        rw [beq_eq_false_iff_ne]
        rintro rfl
        exact hn.1 (List.mem_map_of_mem (f := (·.1)) q)
      obtain ⟨v, h1, h2⟩ := ih hn.2 q
      refine ⟨v, ?_, h2⟩
      rw [List.find?_cons_of_neg (by rw [isStr_key ek, ne]; simp)]
      unfold getL at h1
      split at h1
      · exact h1
      · split at h1 <;> cases h1
theorem FR.no {fs : List (Str × AV)} {es : List DictEntry} {x : Str} (h : FR fs es) (hm : (fs.all fun p => !(p.1 == x)) = true) : getL x es = some none := by
  have hs := h.keysStr
  unfold getL
  have : es.find? (·.key.isStr x) = none := by
    rw [List.find?_eq_none]
    clear hs
    induction h with
    | nil => intro ζ h; cases h
    | cons hk _ _ ih =>
      obtain ⟨t, ek⟩ := hk
      rw [List.all_cons, Bool.and_eq_true] at hm
      intro e he
      rcases List.mem_cons.mp he with rfl | he
      · rw [isStr_key ek]; simpa using hm.1
      · exact ih hm.2 e he
  rw [this, hs]; rfl
theorem getA_ {x C : Addr} {name : Str} {a : AV} {fs : List (Str × AV)} {attr : Option Value} {ex : Bool} {v : Value} {K : AV → Led → Prop} (hv : VR (.con (.ref x)) v) (hl : (x, AObj.inst C fs) ∈ L) (hx : (name, a) ∈ fs)
    (hc : ∀ P, (plainGet (kk.heap_1 P) C name && hasDictIn (kk.heap_1 P) C) = true ∧ findIn (kk.heap_1 P) (.ref C) name = some attr ∧ noGet (kk.heap_1 P) attr = true)
    (ha : ∀ v, VR a v → handedIn v = true) (h : K a L) : Cv G n L (getAttr v name ex) K := by
  refine Mine.C.leaf ?_
  intro A s hA hS
  obtain rfl : v = .ref x := hv
  obtain ⟨δ, d1, d2, d3⟩ := hS.led
  obtain ⟨x0, x1, es, m, x2, x3, x4⟩ := d3 _ hl
  obtain ⟨v, g1, g2⟩ := x3.get x0 hx
  obtain ⟨c1, c2, c3⟩ := hc G.w.params
  obtain ⟨c4, c5⟩ := Bool.and_eq_true_iff.mp c1
  have I : InstAt s.heap x (instObj C (δ x)) C (some (PySem.W.dictOf es m)) := ⟨x1, rfl, rfl, x2⟩
  exact get_value hS.X I (plainGet_of c4).1 (findObj_own c5 c2 c3 (by rw [lookIn_dict]; exact g1)) (ha v g2) ⟨a, L, g2, hS.toks _, h⟩
theorem letGo_ {base : Expr} {o r : Value} {K : Unit → Led → Prop} (h : K () L) : Cu G n L (letTemporaryGo base o r) K := C.leaf fun ζ ζ ζ hS => wpAny_letTemporaryGo ⟨(), L, trivial, hS, h⟩
theorem Attr_ {o : Expr} {name : Str} {K : AV → Led → Prop} (h : Cv G n L (eval o E) fun a L1 => ∀ v, VR a v → Cv G n L1 (getAttr v name true) K)
    (he : eval (.Attribute o name pos) E = (do
      let o' ← eval o E
      standAt pos.atName
      let r ← PySem.holding [o'] (getAttr o' name true)
      letTemporaryGo o o' r
      pure r) := by rfl) : Cv G n L (eval (.Attribute o name pos) E) K :=
  C.of he (C.then h fun a L1 k v hv => C.at (C.then (C.hold (k v hv)) fun b L2 k2 r hr => C.bind (letGo_ fun ζ ζ => C.pure (y := b) hr k2)))
inductive RepF (x : Str) (a : AV) : List (Str × AV) → List (Str × AV) → Prop
  | head {b r} : RepF x a ((x, b) :: r) ((x, a) :: r)
  | tail {p r r'} : RepF x a r r' → RepF x a (p :: r) (p :: r')
theorem RepF.keys {x : Str} {a : AV} {fs fs' : List (Str × AV)} (h : RepF x a fs fs') : fs'.map (·.1) = fs.map (·.1) := by
  induction h with
  | head => rfl
  | tail _ ih => rw [List.map_cons, List.map_cons, ih]
theorem RepF.mem {x : Str} {a : AV} {fs fs' : List (Str × AV)} (h : RepF x a fs fs') : x ∈ fs.map (·.1) := by
  induction h with
  | head => simp
  | tail _ ih => exact List.mem_cons_of_mem _ ih
theorem FR.put {x : Str} {a : AV} {v : Value} {hs : Int} {tk : Tok} {fs fs' : List (Str × AV)} {es : List DictEntry} (h : FR fs es) (hn : (fs.map (·.1)).Nodup) (r : RepF x a fs fs') (hv : VR a v) :
    FR fs' (putL x hs (.str x tk) v es) ∧ (putL x hs (.str x tk) v es).length = es.length := by
  induction h generalizing fs' with
  | nil => cases r
  | @cons y b fs e es hk hvb hr ih =>
    obtain ⟨t, ek⟩ := hk
    rw [List.map_cons, List.nodup_cons] at hn
    cases r with
    | head =>
      unfold putL
      rw [if_pos (by rw [isStr_key ek]; simp)]
      exact ⟨.cons ⟨t, ek⟩ hv hr, rfl⟩
    | tail r =>
      have ne : (y == x) = false := by
        rw [beq_eq_false_iff_ne]
        rintro rfl
        exact hn.1 r.mem
      unfold putL
      rw [if_neg (by rw [isStr_key ek, ne]; simp)]
      obtain ⟨i1, i2⟩ := ih hn.2 r
      exact ⟨.cons ⟨t, ek⟩ hvb i1, by simp [i2]⟩
theorem FR.push {x : Str} {a : AV} {v : Value} {hs : Int} {tk : Tok} {fs : List (Str × AV)} {es : List DictEntry} (h : FR fs es) (hm : (fs.all fun p => !(p.1 == x)) = true) (hv : VR a v) :
    FR (fs ++ [(x, a)]) (putL x hs (.str x tk) v es) ∧ (putL x hs (.str x tk) v es).length = es.length + 1 := by
  induction h with
  | nil => exact ⟨.cons ⟨tk, rfl⟩ hv .nil, rfl⟩
  | @cons y b fs e es hk hvb hr ih =>
    obtain ⟨t, ek⟩ := hk
    rw [List.all_cons, Bool.and_eq_true] at hm
    unfold putL
    rw [if_neg (by rw [isStr_key ek]; simpa using hm.1)]
    obtain ⟨i1, i2⟩ := ih hm.2
    exact ⟨.cons ⟨t, ek⟩ hvb i1, by simp [i2]⟩
theorem getL_some {fs : List (Str × AV)} {es : List DictEntry} {x : Str} (h : FR fs es) : (getL x es).isSome = true := by
  unfold getL
  split
  · rfl
  · rw [h.keysStr]; rfl
theorem set_core {x C dx : Addr} {es : List DictEntry} {m : Nat} {name : Str} {v : Value} {A : Around} {s : Shared} {Q : Unit → Shared → Prop} {F : Value → Shared → Prop} {prog : Program} {w : World} {Kf : Frag} (X : Kf.In s.heap)
    (hx : s.heap.get? x = some (instObj C dx)) (hd : s.heap.get? dx = some (PySem.W.dictOf es m)) (hl : (getL name es).isSome = true) (hz : (putL name (PyData.keyHash w.params name) (.str name (s.toks + 1)) v es).length ≤ 1000)
    (hs : findIn Kf (.ref C) "__setattr__" = some (some (.builtin "object.__setattr__"))) (hp : plainOver Kf C = true) (ht : takerIn Kf C name = some none) (hh : hasDictIn Kf C = true)
    (h : ∀ h', (∀ c ob, c ≠ dx → s.heap.get? c = some ob → h'.get? c = some ob) → h'.get? dx = some (PySem.W.dictOf (putL name (PyData.keyHash w.params name) (.str name (s.toks + 1)) v es) (putN name es m)) → Q () { s with heap := h', toks := s.toks + 2 }) :
    wpAny (model prog w) A (setAttr (.ref x) name v) Q F s := by
  have I : InstAt s.heap x (instObj C dx) C (some (PySem.W.dictOf es m)) := ⟨hx, rfl, rfl, hd⟩
  refine set_plain X I hs (osa_open (s := { s with toks := s.toks + 1 }) X I hp ht fun b => ?_)
  obtain ⟨cd, hc, hd'⟩ := any_some hh
  refine wpAny_bind (wpAny_pure (wpAny_bind (wpAny_bind (wpAny_loadPart hx (wpAny_bind (Looks.here (s := { s with toks := s.toks + 1 }) (looks_clsIn X hc) ?_))))))
  rw [hd']
  refine wpAny_pure (a := some dx) (wpAny_bind (wpAny_pure (wpAny_bind ?_)))
  unfold nsSet
  refine wpAny_bind (wpAny_bind (wpAny_askSetting (wpAny_pure (wpAny_bind (wpAny_mkText (wpAny_bind (wpAny_loadPart hd ?_)))))))
  have c : (!(es.toArray.any (·.key.isStr name)) && es.toArray.any (·.refKey)) = false := by
    unfold getL at hl
    rw [List.any_toArray, List.any_toArray]
    split at hl
    · rename_i en he
      rw [List.any_eq_true.mpr ⟨en, List.mem_of_find?_eq_some he, List.find?_some he⟩]; rfl
    · split at hl
      · cases hl
      · rename_i z; rw [Bool.not_eq_true] at z; rw [z, Bool.and_false]
  dsimp only
  rw [aRefKeyMayBeTheName_at, c]
  refine wpAny_updatePart hd ?_
  have e := putName_dict name (PyData.keyHash w.params name) (.str name (s.toks + 1)) v es m
  have D' : (s.heap.update dx (Obj.putName name (PyData.keyHash w.params name) (.str name (s.toks + 1)) v)).get? dx = some (PySem.W.dictOf (putL name (PyData.keyHash w.params name) (.str name (s.toks + 1)) v es) (putN name es m)) := by
    rw [Heap.get?_update_self _ hd (by rw [e]; rfl), e]
  refine wpAny_bind (wpAny_lookBehind D' (pastItsLine_dict (by rw [List.size_toArray, sizeLine_eq]; lia)) ?_)
  exact wpAny_pure (h _ (fun c ob hc e => (Heap.get?_update_other _ _ (Ne.symm hc)).trans e) D')
end
end Mine
end
section
open PySem PySem.W PySem.Calls PyProof.Rows PySem.Spec
set_option Elab.async false
set_option linter.unusedVariables false
set_option maxRecDepth 10000
namespace Mine
section
variable {G : Gr} {n : Nat} {L L' : Led} {E : Env} {pos p1 p2 : Pos}
theorem FR.length {fs : List (Str × AV)} {es : List DictEntry} (h : FR fs es) : fs.length = es.length := by
  induction h with
  | nil => rfl
  | cons _ _ _ ih => simp [ih]
noncomputable def stOk (P : Params) (C : Addr) (name : Str) : Prop :=
  findIn (kk.heap_1 P) (.ref C) "__setattr__" = some (some (.builtin "object.__setattr__")) ∧ plainOver (kk.heap_1 P) C = true ∧ takerIn (kk.heap_1 P) C name = some none ∧ hasDictIn (kk.heap_1 P) C = true
theorem setA_ {x C : Addr} {name : Str} {a : AV} {fs fs' : List (Str × AV)} {v w : Value} {K : Unit → Led → Prop} (hv : VR (.con (.ref x)) v) (hw : VR a w) (U : Up x (.inst C fs) (.inst C fs') L L') (r : RepF name a fs fs')
    (hc : ∀ P, stOk P C name) (h : K () L') : Cu G n L (setAttr v name w) K := by
  refine Mine.C.leaf ?_
  intro A s hA hS
  obtain rfl : v = .ref x := hv
  obtain ⟨δ, d1, d2, d3⟩ := hS.led
  obtain ⟨x0, x1, es, m, x2, x3, x4⟩ := d3 _ U.mem
  obtain ⟨c1, c2, c3, c4⟩ := hc G.w.params
  obtain ⟨p1, p2⟩ := x3.put (hs := PyData.keyHash G.w.params name) (tk := s.toks + 1) x0 r hw
  refine set_core hS.X x1 x2 (getL_some x3) (by rw [p2]; lia) c1 c2 c3 c4 fun h' k hd => ⟨(), L', trivial, ?_, h⟩
  refine hS.upd (b := δ x) U rfl rfl rfl k fun d hd' => ?_
  obtain ⟨_, y1, _⟩ := hd'
  have : d = δ x := by rw [x1] at y1; simpa [instObj] using y1.symm
  subst this
  refine ⟨.inl rfl, fun ζ => rfl, fun hne => ⟨r.keys ▸ x0, k _ _ (hne rfl) x1, _, _, hd, p1, by rw [p2]; exact x4⟩⟩
theorem setNew_ {x C : Addr} {name : Str} {a : AV} {fs : List (Str × AV)} {v w : Value} {K : Unit → Led → Prop} (hv : VR (.con (.ref x)) v) (hw : VR a w) (U : Up x (.inst C fs) (.inst C (fs ++ [(name, a)])) L L')
    (hn : (fs.all fun p => !(p.1 == name)) = true) (hz : fs.length ≤ 50) (hc : ∀ P, stOk P C name) (h : K () L') : Cu G n L (setAttr v name w) K := by
  refine Mine.C.leaf ?_
  intro A s hA hS
  obtain rfl : v = .ref x := hv
  obtain ⟨δ, d1, d2, d3⟩ := hS.led
  obtain ⟨x0, x1, es, m, x2, x3, x4⟩ := d3 _ U.mem
  obtain ⟨c1, c2, c3, c4⟩ := hc G.w.params
  obtain ⟨p1, p2⟩ := x3.push (hs := PyData.keyHash G.w.params name) (tk := s.toks + 1) hn hw
  have el : fs.length = es.length := x3.length
  refine set_core hS.X x1 x2 (getL_some x3) (by rw [p2]; lia) c1 c2 c3 c4 fun h' k hd => ⟨(), L', trivial, ?_, h⟩
  refine hS.upd (b := δ x) U rfl rfl rfl k fun d hd' => ?_
  obtain ⟨_, y1, _⟩ := hd'
  have : d = δ x := by rw [x1] at y1; simpa [instObj] using y1.symm
  subst this
  refine ⟨.inl rfl, fun ζ => rfl, fun hne => ⟨?_, k _ _ (hne rfl) x1, _, _, hd, p1, by rw [p2]; lia⟩⟩
  rw [List.map_append, List.nodup_append]
  refine ⟨x0, by simp, fun b hb c hc' => ?_⟩
  obtain rfl : c = name := by simpa using hc'
  rintro rfl
  obtain ⟨q, hq, rfl⟩ := List.mem_map.mp hb
  have := List.all_eq_true.mp hn q hq
  simp at this
theorem AssignA_ {o value : Expr} {name : Str} {K : Fl → Led → Prop}
    (h : Cv G n L (eval value E) fun a L1 => Cv G n L1 (eval o E) fun b L2 => ∀ v w, VR a v → VR b w → Cu G n L2 (setAttr w name v) fun ζ L3 => K .next L3)
    (hs : swapsWith value (some (.Attribute o name p1)) pos.line E = pure false := by rfl) : Cf G n L (exec (.Assign [.Attribute o name p1] value pos) E) K := by
  refine C.of (plainObj_exec_Assign_Attribute o name p1 value pos hs) (C.at (C.then h fun a L1 k v hv => ?_))
  rw [assign_Attribute]
  refine C.bind (R := fun (_ : Unit) (_ : Unit) => True) (C.then (C.hold k) fun b L2 k2 w hw => C.at (C.then (C.hold (k2 v w hv hw)) fun ζ L3 k3 ζ ζ => ?_))
  exact C.leaf fun A s hA hS => wpAny_release ⟨(), L3, trivial, hS, fun ζ ζ => C.pure (y := Fl.next) rfl k3⟩
inductive Rep (x : Str) (a : Option AV) : List (Str × Option AV) → List (Str × Option AV) → Prop
  | head {b r} : Rep x a ((x, b) :: r) ((x, a) :: r)
  | tail {p r r'} : Rep x a r r' → Rep x a (p :: r) (p :: r')
theorem Rep.keys {x : Str} {a : Option AV} {fs fs' : List (Str × Option AV)} (h : Rep x a fs fs') : fs'.map (·.1) = fs.map (·.1) := by
  induction h with
  | head => rfl
  | tail _ ih => rw [List.map_cons, List.map_cons, ih]
theorem Rep.memK {x : Str} {a : Option AV} {fs fs' : List (Str × Option AV)} (h : Rep x a fs fs') : x ∈ fs.map (·.1) := by
  induction h with
  | head => simp
  | tail _ ih => exact List.mem_cons_of_mem _ ih
theorem Rep.cases {x : Str} {a : Option AV} {fs fs' : List (Str × Option AV)} (h : Rep x a fs fs') (hn : (fs.map (·.1)).Nodup) : ∀ p ∈ fs', (p.1 = x ∧ p.2 = a) ∨ (p.1 ≠ x ∧ p ∈ fs) := by
  induction h with
  | @head b r =>
    intro p hp
    rw [List.map_cons, List.nodup_cons] at hn
    rcases List.mem_cons.mp hp with rfl | hq
    · exact .inl ⟨rfl, rfl⟩
    · refine .inr ⟨fun e => ?_, .tail _ hq⟩
      exact hn.1 (e ▸ List.mem_map_of_mem (f := (·.1)) hq)
  | @tail q r r' hr ih =>
    intro p hp
    rw [List.map_cons, List.nodup_cons] at hn
    rcases List.mem_cons.mp hp with rfl | hp
    · refine .inr ⟨?_, .head _⟩
      rintro rfl
      exact hn.1 hr.memK
    · rcases ih hn.2 p hp with q | q
      · exact .inl q
      · exact .inr ⟨q.1, .tail _ q.2⟩
theorem store_ {x : Str} {a : AV} {sc : Scope} {kvs kvs' : List (Str × Option AV)} {Lf : Addr} {v : Value} {K : Unit → Led → Prop} (hv : VR a v) (U : Up Lf (.ns sc kvs) (.ns sc kvs') L L') (r : Rep x (some a) kvs kvs') (h : K () L')
    (e1 : E.locals = Lf := by rfl) (e2 : E.scope = sc := by rfl) (hk : sc.kind = .function := by rfl) : Cu G n L (storeName E x v) K := by
  refine Mine.C.leaf ?_
  intro A s hA hS
  obtain ⟨δ, d1, d2, d3⟩ := hS.led
  obtain ⟨y1, y2, m, hn, hm⟩ := d3 _ U.mem
  subst e1 e2
  have hx : E.kindOf x = some .local := by
    obtain ⟨p, hp, rfl⟩ := List.mem_map.mp r.memK
    exact y2 p hp
  refine wpAny_storeName_local hx hn (fun h' hns hsame => ⟨(), L', trivial, ?_, h⟩) (by rw [hk]; rfl)
  refine hS.upd (b := E.locals) U rfl rfl rfl (fun c ob hc e => (hsame.2 c hc).trans e) fun d ζ => ⟨.inr rfl, fun q => absurd rfl q, fun ζ => ⟨r.keys ▸ y1, ?_, _, hns, ?_⟩⟩
  · intro p hp
    rcases r.cases y1 p hp with ⟨q, _⟩ | ⟨_, q⟩
    · rw [q]; exact hx
    · exact y2 p q
  · intro p hp w hw
    rcases r.cases y1 p hp with ⟨q, q2⟩ | ⟨q, q2⟩
    · rw [q, if_pos rfl]
      refine ⟨v, rfl, ?_⟩
      rw [q2] at hw
      cases hw
      exact hv
    · rw [if_neg q]
      exact hm p q2 w hw
theorem bind_ {x : Str} {v : Value} {K : Unit → Led → Prop} (h : Cu G n L (storeName E x v) K) : Cu G n L (bindName E x v) K := by
  unfold bindName
  refine C.bind (R := fun (_ : Unit) (_ : Unit) => True) (C.hold (C.leaf fun A s hA hS => wpAny_point ⟨(), L, trivial, hS, fun ζ ζ => C.then h fun y L1 k u hu => ?_⟩))
  exact C.leaf fun A s hA hS => wpAny_point ⟨y, L1, trivial, hS, k⟩
theorem AssignN_ {x : Str} {value : Expr} {K : Fl → Led → Prop} (h : Cv G n L (eval value E) fun a L1 => ∀ v, VR a v → Cu G n L1 (storeName E x v) fun ζ L2 => K .next L2)
    (hs : swapsWith value (some (.Name x p1)) pos.line E = pure false := by rfl) : Cf G n L (exec (.Assign [.Name x p1] value pos) E) K :=
  C.of (exec_Assign_Name E x p1 value pos hs) (C.at (C.then h fun a L1 k v hv => C.at (C.then (bind_ (k v hv)) fun ζ L2 k2 ζ ζ => C.pure (y := Fl.next) rfl k2)))
theorem Nil_ {K : Fl → Led → Prop} (h : K .next L) : Cf G n L (execs [] E) K := C.leaf fun ζ ζ ζ hS => wpAny_execs_nil ⟨.next, L, rfl, hS, h⟩
theorem Cons_ {st : Stmt} {rest : List Stmt} {K : Fl → Led → Prop} (h : Cf G n L (exec st E) fun fl L1 => match fl with | .next => Cf G n L1 (execs rest E) K | f => K f L1) : Cf G n L (execs (st :: rest) E) K := by
  refine C.of (execs_cons E st rest) (C.then h fun fl L1 k f hf => ?_)
  cases fl with
  | next => obtain rfl : f = .next := hf; exact k
  | brk => obtain rfl : f = .brk := hf; exact C.pure (y := Fl.brk) rfl k
  | cont => obtain rfl : f = .cont := hf; exact C.pure (y := Fl.cont) rfl k
  | ret a => obtain ⟨v, rfl, hv⟩ := hf; exact C.pure (y := Fl.ret a) ⟨v, rfl, hv⟩ k
theorem If_ {test : Expr} {body orelse : List Stmt} {K : Fl → Led → Prop} (h : Tt G n E L test fun b L1 => match b with | true => Cf G n L1 (execs body E) K | false => Cf G n L1 (execs orelse E) K) :
    Cf G n L (exec (.If test body orelse pos) E) K := by
  refine C.of (exec_If E test body orelse pos) (C.at (C.then h fun b L1 k v hv => ?_))
  subst hv
  cases b with
  | true => exact k
  | false => exact k
theorem Ret_ {e : Expr} {K : Fl → Led → Prop} (h : Cv G n L (eval e E) fun a L1 => K (.ret a) L1) : Cf G n L (exec (.Return (some e) pos) E) K :=
  C.of (exec_Return_some E e pos) (C.at (C.then h fun a L1 k v hv => C.pure (y := Fl.ret a) ⟨v, rfl, hv⟩ k))
theorem Cont_ {K : Fl → Led → Prop} (h : K .cont L) : Cf G n L (exec (.Continue pos) E) K := C.leaf fun ζ ζ ζ hS => wpAny_Continue ⟨.cont, L, rfl, hS, h⟩
theorem ExprS_ {e : Expr} {K : Fl → Led → Prop} (h : Cv G n L (eval e E) fun ζ L1 => K .next L1) (hi : interactive E = false := by rfl) (hs : swapsWith e none pos.line E = pure false := by rfl) : Cf G n L (exec (.Expr e pos) E) K :=
  C.of (exec_Expr E e pos hi hs) (C.at (C.then h fun a L1 k v hv => C.leaf fun A s hA hS => wpAny_dropValue ⟨.next, L1, rfl, hS, k⟩))
theorem AugN_ {x : Str} {op : Operator} {value : Expr} {K : Fl → Led → Prop}
    (h : Cv G n L (loadName E x) fun a L1 => Cv G n L1 (eval value E) fun b L2 => ∀ v w, VR a v → VR b w → Cv G n L2 (inplaceOp op v w) fun c L3 => ∀ u, VR c u → Cu G n L3 (storeName E x u) fun ζ L4 => K .next L4) :
    Cf G n L (exec (.AugAssign (.Name x p1) op value pos) E) K :=
  C.of (exec_AugAssign_Name E x p1 op value pos) (C.at (C.then h fun a L1 k v hv => C.then (C.hold k) fun b L2 k2 w hw => C.at (C.then (C.op (k2 v w hv hw)) fun c L3 k3 u hu => C.at (C.then (bind_ (k3 u hu)) fun ζ L4 k4 ζ ζ => C.pure (y := Fl.next) rfl k4))))
theorem load_ {x : Str} {a : AV} {sc : Scope} {kvs : List (Str × Option AV)} {Lf : Addr} {K : AV → Led → Prop} (hl : (Lf, AObj.ns sc kvs) ∈ L) (hx : (x, some a) ∈ kvs) (h : K a L)
    (e1 : E.locals = Lf := by rfl) (e2 : E.scope = sc := by rfl) (hk : sc.kind = .function := by rfl) : Cv G n L (loadName E x) K := by
  refine Mine.C.leaf ?_
  intro A s hA hS
  obtain ⟨δ, d1, d2, d3⟩ := hS.led
  obtain ⟨y1, y2, m, hn, hm⟩ := d3 _ hl
  obtain ⟨c, hc, hv⟩ := hm _ hx a rfl
  subst e1 e2
  exact wpAny_loadName_local hk (y2 _ hx) hn hc ⟨a, L, hv, hS, h⟩
theorem AugA_ {o value : Expr} {name : Str} {op : Operator} {K : Fl → Led → Prop}
    (h : Cv G n L (eval o E) fun b L1 => ∀ w, VR b w → Cv G n L1 (getAttr w name true) fun a L2 => Cv G n L2 (eval value E) fun c L3 => ∀ v u, VR a v → VR c u → Cv G n L3 (inplaceOp op v u) fun d L4 => ∀ x, VR d x → Cu G n L4 (setAttr w name x) fun ζ L5 => K .next L5) :
    Cf G n L (exec (.AugAssign (.Attribute o name p1) op value pos) E) K := by
  refine C.of (t' := do
      standAt pos
      let ov ← eval o E
      let new ← PySem.holding [ov] do
        standAt p1.atName
        let old ← getAttr ov name true
        let v ← PySem.holding [old] (eval value E)
        standAt pos
        operate [old, v] (inplaceOp op old v)
      standAt p1.atName
      PySem.holding [new, ov] (setAttr ov name new)
      release [new, ov] []
      pure .next) rfl ?_
  exact C.at (C.then h fun b L1 k w hw => C.then (C.hold (C.at (C.then (k w hw) fun a L2 k2 v hv => C.then (C.hold k2) fun c L3 k3 u hu => C.at (C.op (k3 v u hv hu))))) fun d L4 k4 x hx =>
    C.at (C.then (C.hold (k4 x hx)) fun ζ L5 k5 ζ ζ => C.rel (C.pure (y := Fl.next) rfl k5)))
end
end Mine
end
section
open PySem PySem.W PySem.Calls PyProof.Rows PySem.Spec
set_option Elab.async false
set_option linter.unusedVariables false
set_option maxRecDepth 10000
namespace Mine
noncomputable def Fl.val : Fl → AV
  | .ret a => a
  | _ => .none
section
variable {G : Gr} {n : Nat} {L L' : Led} {E : Env} {pos p1 p2 np : Pos}
noncomputable abbrev Args (G : Gr) (n : Nat) (E : Env) (pos : Pos) (L : Led) (args : List Expr) (K : List AV → Led → Prop) : Prop := Cvs G n L (spliced (backTo pos (starEach args E))) K
theorem ArgsNil_ {K : List AV → Led → Prop} (h : K [] L) : Args G n E pos L [] K := C.leaf fun ζ ζ ζ hS => spliced_nil ⟨[], L, .nil, hS, h⟩
theorem ArgsCons_ {e : Expr} {rest : List Expr} {K : List AV → Led → Prop} (h : Cv G n L (eval e E) fun a L1 => Args G n E pos L1 rest fun as L2 => K (a :: as) L2)
    (he : starEach (e :: rest) E = (false, eval e E) :: starEach rest E := by rfl) : Args G n E pos L (e :: rest) K := by
  intro A s hA hS
  rw [he]
  show wpX _ A (spliced ((false, eval e E) :: backTo pos (starEach rest E))) _ _ s
  rw [spliced]
  refine wpX_bind (h.use hA hS fun v s1 a L1 hv S1 k1 => ?_)
  simp only [Bool.false_eq_true, if_false]
  exact wpX_bind (wpX_pure (wpX_bind (wpX_holding (k1.use hA S1 fun vs s2 as L2 hvs S2 k2 => wpX_pure ⟨a :: as, L2, .cons hv hvs, S2, k2⟩))))
theorem evalArgsX {M : Model} {A : Around} {s : Shared} {Ee : Value → Shared → Prop} {f : Value} {args : List (Bool × Sem Value)} {Q : PySem.Args → Shared → Prop} (hplain : args.any (·.1) = false)
    (h : wpX M A (spliced args) (fun vs s' => Q ⟨vs, []⟩ s') Ee s) : wpX M A (evalArgs f true args []) Q Ee s := by
  cases args with
  | nil =>
    unfold evalArgs
    show wpX M A (spliced [] >>= _) Q Ee s
    refine wpX_bind (wpX_mono h (fun vs s' h' => ?_) fun ζ ζ x => x)
    refine wpX_bind (wpX_pure ?_)
    refine wpX_holding ?_
    exact wpX_bind (wpX_pure (wpX_bind (wpX_pure (wpX_pure h'))))
  | cons x r =>
    obtain ⟨b, x⟩ := x
    rw [List.any_cons, Bool.or_eq_false_iff] at hplain
    obtain rfl : b = false := hplain.1
    unfold evalArgs
    show wpX M A (spliced ((false, x) :: r) >>= _) Q Ee s
    refine wpX_bind (wpX_mono h (fun vs s' h' => ?_) fun ζ ζ x => x)
    refine wpX_bind (wpX_pure ?_)
    refine wpX_holding ?_
    exact wpX_bind (wpX_pure (wpX_bind (wpX_pure (wpX_pure h'))))
theorem callWithX {M : Model} {A : Around} {s : Shared} {Ee : Value → Shared → Prop} {P : Heap → Prop} {f : Value} {first : List Value} {args : List (Bool × Sem Value)} {Q : Value → Shared → Prop} (hplain : args.any (·.1) = false)
    (hk : ∀ h, P h → ∃ k, (k = Keeper.frame ∨ k = Keeper.machine ∨ k = Keeper.boundFrame) ∧ Looks M h (keeperOf f) k)
    (h : wpX M A (spliced args) (fun vs s₁ => P s₁.heap ∧ wpX M A (call f (first ++ vs) []) Q Ee s₁) Ee s) : wpX M A (callWith pos f first args []) Q Ee s := by
  unfold callWith
  refine wpX_bind (wpX_holding (evalArgsX hplain (wpX_mono h (fun vs s₁ h₁ => wpX_bind (wpX_of (wpAny_standAt ?_))) fun ζ ζ x => x)))
  obtain ⟨k, hk', Lk⟩ := hk _ h₁.1
  have tail : ∀ {t : Sem Value}, wpX M A t Q Ee s₁ → wpX M A (t >>= fun r => PySem.holding [r] point >>= fun ζ => pure r) Q Ee s₁ :=
    fun ht => wpX_bind (wpX_mono ht (fun r s₂ hr => wpX_bind (wpX_of (wpAny_holding (wpAny_point (wpX_pure hr))))) fun ζ ζ x => x)
  have marked (mk : Value) : wpX M A (callMarked mk f (first ++ vs) []) Q Ee s₁ := by unfold callMarked; exact wpX_keep h₁.2
  simp only [hplain, List.any_nil, Bool.or_false]
  refine wpX_bind (wpX_of (Lk.here ?_))
  rcases hk' with rfl | rfl | rfl <;> dsimp only <;> first | exact tail h₁.2 | (split <;> first | exact tail h₁.2 | exact tail (marked _))
theorem CallW_ {f : Value} {first : List Value} {args : List Expr} {K : AV → Led → Prop} (hk : ∀ P, keepIn (kk.heap_1 P) f = true)
    (h : Args G n E pos L args fun as L1 => ∀ vs, VRs as vs → Cv G n L1 (call f (first ++ vs)) K) (hplain : (backTo pos (starEach args E)).any (·.1) = false := by rfl) :
    Cv G n L (callWith pos f first (backTo pos (starEach args E)) []) K := by
  intro A s hA hS
  refine callWithX hplain (keeps_K (hk G.w.params)) ?_
  exact h.use hA hS fun vs s1 as L1 hvs S1 k1 => ⟨S1.X, k1 vs hvs A s1 hA S1⟩
theorem CallB_ {id : String} {first : List Value} {args : List Expr} {K : AV → Led → Prop}
    (h : Args G n E pos L args fun as L1 => ∀ vs, VRs as vs → Cv G n L1 (call (.builtin id) (first ++ vs)) K) (hplain : (backTo pos (starEach args E)).any (·.1) = false := by rfl) :
    Cv G n L (callWith pos (.builtin id) first (backTo pos (starEach args E)) []) K := by
  intro A s hA hS
  refine callWithX (P := fun ζ => True) hplain (fun ζ ζ => ⟨.machine, .inr (.inl rfl), .now⟩) ?_
  exact h.use hA hS fun vs s1 as L1 hvs S1 k1 => ⟨trivial, k1 vs hvs A s1 hA S1⟩
theorem CallT_ {T : String} {first : List Value} {args : List Expr} {K : AV → Led → Prop}
    (h : Args G n E pos L args fun as L1 => ∀ vs, VRs as vs → Cv G n L1 (call (.type T) (first ++ vs)) K) (hplain : (backTo pos (starEach args E)).any (·.1) = false := by rfl) :
    Cv G n L (callWith pos (.type T) first (backTo pos (starEach args E)) []) K := by
  intro A s hA hS
  refine callWithX (P := fun ζ => True) hplain (fun ζ ζ => ⟨.machine, .inr (.inl rfl), .now⟩) ?_
  exact h.use hA hS fun vs s1 as L1 hvs S1 k1 => ⟨trivial, k1 vs hvs A s1 hA S1⟩
theorem CallN_ {x : Str} {args : List Expr} {K : AV → Led → Prop} (h : Cv G n L (eval (.Name x np) E) fun a L1 => ∀ f, VR a f → Cv G n L1 (callWith pos f [] (backTo pos (starEach args E)) []) K) :
    Cv G n L (eval (.Call (.Name x np) args [] pos) E) K :=
  C.of (t' := do callWith pos (← eval (.Name x np) E) [] (backTo pos (starEach args E)) []) rfl (C.bind h)
noncomputable def GM (G : Gr) (n : Nat) (L : Led) (v : Value) (name : Str) (K : Value → List Value → Led → Prop) : Prop :=
  ∀ pl A s, Rm n A → St G L s → wpX (model G.prog G.w) A (getMethod v name pl) (fun fx s' => ∃ L', St G L' s' ∧ K fx.1 fx.2 L') (fun ζ ζ => False) s
theorem MCall_ {o : Expr} {name : Str} {args : List Expr} {pl : Sem Bool} {K : AV → Led → Prop}
    (h : Cv G n L (eval o E) fun a L1 => ∀ v, VR a v → GM G n L1 v name fun f first L2 => Cv G n L2 (callWith pos f first (backTo pos (starEach args E)) []) K)
    (he : eval (.Call (.Attribute o name p1) args [] pos) E = (do
      let ov ← eval o E
      standAt p1.atName
      let (f, first) ← PySem.holding [ov] (getMethod ov name pl)
      callWith pos f first (backTo pos (starEach args E)) []) := by rfl) :
    Cv G n L (eval (.Call (.Attribute o name p1) args [] pos) E) K := by
  refine C.of he (C.then h fun a L1 k v hv => C.at ?_)
  exact fun A s hA hS => wpX_bind (wpX_holding (wpX_mono (k v hv pl A s hA hS) (fun fx s2 ⟨L2, S2, k2⟩ => k2 A s2 hA S2) fun ζ ζ e => e))
theorem methI_ {x C f : Addr} {name : Str} {fs : List (Str × AV)} {v : Value} {K : Value → List Value → Led → Prop} (hv : VR (.con (.ref x)) v) (hl : (x, AObj.inst C fs) ∈ L) (hn : (fs.all fun p => !(p.1 == name)) = true)
    (hc : ∀ P, plainGet (kk.heap_1 P) C name = true ∧ findIn (kk.heap_1 P) (.ref C) name = some (some (.ref f)) ∧ isFn (kk.heap_1 P) (.ref f) = true)
    (h : K (.ref f) [.ref x] L) : GM G n L v name K := by
  intro pl A s hA hS
  refine wpX_of ?_
  obtain rfl : v = .ref x := hv
  obtain ⟨δ, d1, d2, d3⟩ := hS.led
  obtain ⟨x0, x1, es, m, x2, x3, x4⟩ := d3 _ hl
  obtain ⟨c1, c2, c3⟩ := hc G.w.params
  have I : InstAt s.heap x (instObj C (δ x)) C (some (PySem.W.dictOf es m)) := ⟨x1, rfl, rfl, x2⟩
  exact method_fn hS.X I (plainGet_of c1).1 (plainGet_of c1).2 c2 (beq_iff_eq.mp c3) (by show (lookIn name (PySem.W.dictOf es m)).map _ = _; rw [lookIn_dict, x3.no hn]; rfl) ⟨L, hS, h⟩
theorem Rm.deeper {A : Around} {e : Env} (h : Rm (n + 1) A) : Rm n (A.deeper e) := ⟨h.1, by have := h.2.1; show A.depth + 1 + _ + _ < _; lia, by have := h.2.2; show A.units + 3 + _ + _ < _; lia⟩
theorem Rm.make {A : Around} {C : Addr} {vs : List Value} (h : Rm (n + 1) A) : Rm n (A.under (.builtin "type.__call__" ⟨.ref C :: vs, []⟩)) :=
  ⟨h.1, by have := h.2.1; rw [depth_under_make]; lia, by have := h.2.2; rw [units_under_make]; lia⟩
theorem Rm.in1 {A : Around} (h : Rm (n + 1) A) : Rm n A.in1 := ⟨h.1, by have := h.2.1; show A.depth + _ + _ < _; lia, by have := h.2.2; show A.units + 1 + _ + _ < _; lia⟩
theorem Rm.le {A : Around} {m : Nat} (h : Rm n A) (hm : m ≤ n) : Rm m A := ⟨h.1, by have := h.2.1; lia, by have := h.2.2; lia⟩
noncomputable def kvsOf (names : List Str) (as : List AV) (rest : List Str) : List (Str × Option AV) := names.zip (as.map some) ++ rest.map fun x => (x, none)
theorem zip_lookup {names : List Str} {as : List AV} {vs : List Value} (hv : VRs as vs) (hl : names.length = as.length) (hn : names.Nodup) : ∀ p ∈ names.zip (as.map some), ∀ a, p.2 = some a → ∃ c, (names.zip vs).reverse.lookup p.1 = some c ∧ VR a c := by
  intro p hp a ha
  obtain ⟨i, hi, e⟩ := List.getElem_of_mem hp
  rw [List.length_zip, List.length_map] at hi
  rw [List.getElem_zip] at e
  subst e
  simp only [List.getElem_map, Option.some.injEq] at ha
  have hvl := hv.length
  obtain ⟨c, hc, hr⟩ := hv.get (i := i) (a := as[i]'(by lia)) (List.getElem?_eq_getElem (by lia))
  refine ⟨c, ?_, ha ▸ hr⟩
  have nd : ((names.zip vs).map (·.1)).Nodup := by rw [List.map_fst_zip (by lia)]; exact hn
  have mem : (names[i]'(by lia), c) ∈ names.zip vs := by
    rw [List.mem_iff_getElem]
    refine ⟨i, by rw [List.length_zip]; lia, ?_⟩
    rw [List.getElem_zip]
    have := (List.getElem?_eq_some_iff.mp hc).2
    rw [this]
  have key : ∀ (l : List (Str × Value)), (l.map (·.1)).Nodup → ∀ x c, (x, c) ∈ l → l.lookup x = some c := by
    intro l
    induction l with
    | nil => intro ζ ζ ζ h; cases h
    | cons q r ih =>
      intro nd x c hm
      rw [List.map_cons, List.nodup_cons] at nd
      obtain ⟨y, d⟩ := q
      rcases List.mem_cons.mp hm with e | hq
      · cases e; simp [List.lookup]
      · have : (x == y) = false := by
          rw [beq_eq_false_iff_ne]
          exact fun e => nd.1 (e ▸ List.mem_map_of_mem (f := (·.1)) hq)
        simp only [List.lookup, this]
        exact ih nd.2 x c hq
  exact key _ (by rw [List.map_reverse]; exact List.pairwise_reverse.mpr (nd.imp fun h => Ne.symm h)) _ _ (List.mem_reverse.mpr mem)
noncomputable def Cc (G : Gr) (n : Nat) (L : Led) (f : Value) (vs : List Value) (K : AV → Led → Prop) : Prop :=
  ∀ A s, Rm n A → St G L s → codeX (model G.prog G.w) A (.call f ⟨vs, []⟩) (fun r s' => match r with | .ok (.ret v) => ∃ a L', VR a v ∧ St G L' s' ∧ K a L' | .ok _ => False | .error _ => False) s
theorem ofCc {f : Value} {vs : List Value} {K : AV → Led → Prop} (h : Cc G n L f vs K) : Cv G n L (call f vs) K := fun A s hA hS => wpX_call (h A s hA hS)
theorem Cc.mono {f : Value} {vs : List Value} {K K' : AV → Led → Prop} (h : Cc G n L f vs K) (k : ∀ a L', K a L' → K' a L') : Cc G n L f vs K' := fun A s hA hS => codeX_mono (h A s hA hS) fun r s' q => by
  rcases r with e | (v | _ | _ | _)
  · exact q
  all_goals first | exact q | (obtain ⟨a, L', h1, h2, h3⟩ := q; exact ⟨a, L', h1, h2, k _ _ h3⟩)
theorem CallG {f : Addr} {fd : FuncData} {body : List Stmt} {names rest : List Str} {as as' : List AV} {vs : List Value} {K : AV → Led → Prop} (hvs : VRs as vs)
    (hf : ∀ P, ∃ oc od osl, (kk.heap_1 P).lookup f = some ⟨oc, od, .func fd, osl⟩) (hbody : fd.body = .stmts body) (hcd : ∀ P, codeIn (kk.heap_1 P) fd.code fd.qualname = true)
    (hbind : ∀ s, St G L s → ∃ ws, BindsTo s fd ⟨vs, []⟩ (names.zip ws) ∧ VRs as' ws) (hlen : names.length = as'.length)
    (hloc : ((names ++ rest).all fun x => fd.scope.names.lookup x == some .local) = true) (hnd : (names ++ rest).Nodup) (hcell : (fd.scope.names.all fun x => x.2 != .cell) = true)
    (hco : (!fd.scope.isCoroutine && !fd.scope.isGenerator && fd.scope.kind == .function) = true)
    (h : ∀ p, Cf G n ((p, .ns fd.scope (kvsOf names as' rest)) :: L) (execs body (callEnv fd p f)) fun fl L1 => ∃ L2, Pick L2 L1 ∧ K fl.val L2) : Cc G (n + 1) L (.ref f) vs K := by
  intro A s hA hS
  obtain ⟨oc, od, osl, hf⟩ := hf G.w.params
  simp only [Bool.and_eq_true, Bool.not_eq_true', beq_iff_eq] at hco
  have hl : ∀ x ∈ names ++ rest, fd.scope.names.lookup x = some .local := fun x hx => by simpa using List.all_eq_true.mp hloc x hx
  obtain ⟨ws, hbs, hws⟩ := hbind s hS
  have hvl := hws.length
  refine codeX_def (by have := hA.2.1; show _ < 1000; lia) (hS.X _ _ hf) rfl (G.lim.keeps hS.kept) (codeRec_of hS.X (hcd _)) hbody hbs
    (fun x hx => by simpa using List.all_eq_true.mp hcell x hx) (fun x hx => hl _ (List.mem_append_left _ (List.of_mem_zip hx).1)) (fun h' hns k => ?_) hco.1.1 hco.1.2 hco.2
  have S' : St G ((s.heap.objs.size, .ns fd.scope (kvsOf names as' rest)) :: L) { s with heap := h', toks := s.toks + (names.zip ws).length } := by
    have ek : (kvsOf names as' rest).map (·.1) = names ++ rest := by
      unfold kvsOf
      rw [List.map_append, List.map_fst_zip (by rw [List.length_map]; lia), List.map_map]
      congr 1
      exact List.map_id _
    refine hS.newAt size_no k rfl fun ζ => ⟨ek ▸ hnd, fun p hp => hl _ (ek ▸ List.mem_map_of_mem (f := (·.1)) hp), _, hns, fun p hp v hv => ?_⟩
    rcases List.mem_append.mp hp with hp | hp
    · exact zip_lookup hws hlen (List.nodup_append.mp hnd).1 p hp v hv
    · obtain ⟨x, _, rfl⟩ := List.mem_map.mp hp
      cases hv
  refine (h s.heap.objs.size).use hA.deeper S' fun fl s1 y L1 hf S1 ⟨L2, sub, k2⟩ => ⟨y.val, L2, ?_, S1.pick sub, k2⟩
  cases y with
  | ret a => obtain ⟨v, rfl, hv⟩ := hf; exact hv
  | next => obtain rfl : fl = .next := hf; rfl
  | brk => obtain rfl : fl = .brk := hf; rfl
  | cont => obtain rfl : fl = .cont := hf; rfl
theorem Call_ {f : Addr} {fd : FuncData} {body : List Stmt} {names rest : List Str} {as : List AV} {vs : List Value} {K : AV → Led → Prop} (hvs : VRs as vs)
    (hf : ∀ P, ∃ oc od osl, (kk.heap_1 P).lookup f = some ⟨oc, od, .func fd, osl⟩) (hbody : fd.body = .stmts body) (hcd : ∀ P, codeIn (kk.heap_1 P) fd.code fd.qualname = true)
    (hbind : ∀ s vs, VRs as vs → BindsTo s fd ⟨vs, []⟩ (names.zip vs)) (hlen : names.length = as.length)
    (hloc : ((names ++ rest).all fun x => fd.scope.names.lookup x == some .local) = true) (hnd : (names ++ rest).Nodup) (hcell : (fd.scope.names.all fun x => x.2 != .cell) = true)
    (hco : (!fd.scope.isCoroutine && !fd.scope.isGenerator && fd.scope.kind == .function) = true)
    (h : ∀ p, Cf G n ((p, .ns fd.scope (kvsOf names as rest)) :: L) (execs body (callEnv fd p f)) fun fl L1 => ∃ L2, Pick L2 L1 ∧ K fl.val L2) : Cc G (n + 1) L (.ref f) vs K :=
  CallG hvs hf hbody hcd (fun s ζ => ⟨vs, hbind s vs hvs, hvs⟩) hlen hloc hnd hcell hco h
theorem ltA {h : Heap} {a : Addr} {o : Obj} (e : h.get? a = some o) : Nat.lt a h.objs.size := Heap.lt_size e
theorem St.make {s : Shared} {C : Addr} (S : St G L s) : St G ((s.heap.objs.size + 1, .inst C []) :: L) { s with heap := (s.heap.push emptyDict).push (instObj C s.heap.objs.size) } := by
  have fz := fresh_size S
  have h1 : (s.heap.push emptyDict).objs.size = s.heap.objs.size + 1 := Heap.size_push _ _
  have k : ∀ b ob, s.heap.get? b = some ob → ((s.heap.push emptyDict).push (instObj C s.heap.objs.size)).get? b = some ob := fun b ob e => Heap.get?_push_of_some _ (Heap.get?_push_of_some _ e)
  have g1 : ((s.heap.push emptyDict).push (instObj C s.heap.objs.size)).get? s.heap.objs.size = some emptyDict := Heap.get?_push_of_some _ (Heap.get?_push_size _ rfl)
  have g2 : ((s.heap.push emptyDict).push (instObj C s.heap.objs.size)).get? (s.heap.objs.size + 1) = some (instObj C s.heap.objs.size) := by
    have := Heap.get?_push_size (s.heap.push emptyDict) (o := instObj C s.heap.objs.size) rfl
    rwa [h1] at this
  have f2 : G.h₀.get? (s.heap.objs.size + 1) = none := by
    cases q : G.h₀.get? (s.heap.objs.size + 1) with
    | none => rfl
    | some o => exact absurd (ltA (S.kept _ _ q)) (Nat.not_succ_lt_self)
  obtain ⟨a, b, c, δ, d1, d2, d3⟩ := S
  have lt : ∀ x ∈ addrs δ L, Nat.lt x s.heap.objs.size := fun x hm => by
    obtain ⟨ob, e⟩ := own_there d3 _ hm
    exact ltA e
  let δ' : Addr → Addr := fun x => if x = s.heap.objs.size + 1 then s.heap.objs.size else δ x
  have hd : ∀ p ∈ L, δ p.1 = δ' p.1 := fun p hp => by
    have : Nat.lt p.1 s.heap.objs.size := lt _ (List.mem_flatMap.mpr ⟨p, hp, mem_own.mpr (.inl rfl)⟩)
    show δ p.1 = if p.1 = s.heap.objs.size + 1 then _ else _
    rw [if_neg (fun e => absurd (e ▸ this) Nat.not_succ_lt_self)]
  have ea : addrs δ' L = addrs δ L := (addrs_congr hd).symm
  have eo : own δ' (s.heap.objs.size + 1, AObj.inst C []) = [s.heap.objs.size + 1, s.heap.objs.size] := by
    show [s.heap.objs.size + 1, if s.heap.objs.size + 1 = s.heap.objs.size + 1 then s.heap.objs.size else _] = _
    rw [if_pos rfl]
  refine ⟨a, b, fun x ob e => k _ _ (c x ob e), δ', ?_, ?_, ?_⟩
  · rw [addrs_cons, eo, ea]
    refine List.nodup_cons.mpr ⟨fun hm => ?_, List.nodup_cons.mpr ⟨fun hm => ?_, d1⟩⟩
    · rcases List.mem_cons.mp hm with e | hm
      · exact absurd e (Nat.succ_ne_self _)
      · exact absurd (lt _ hm) Nat.not_succ_lt_self
    · exact absurd (lt _ hm) (Nat.lt_irrefl _)
  · rw [addrs_cons, eo, ea]
    intro x hx
    rcases List.mem_cons.mp hx with rfl | hx
    · exact f2
    · rcases List.mem_cons.mp hx with rfl | hx
      · exact fz
      · exact d2 x hx
  · intro p hp
    rcases List.mem_cons.mp hp with rfl | hp
    · show OR _ _ _ _ (if s.heap.objs.size + 1 = s.heap.objs.size + 1 then s.heap.objs.size else _) _
      rw [if_pos rfl]
      exact ⟨List.nodup_nil, g2, [], 0, g1, .nil, Nat.zero_le _⟩
    · rw [← hd p hp]; exact (d3 p hp).keepsAll k
theorem codeX_call_builtin_at {prog : Program} {w : World} {A : Around} {R : Result → Shared → Prop} {s : Shared} {id : String} {args : PySem.Args} {b : Builtin} (hc : clean (.builtin id args) = true) (hq : (Code.builtin id args).quiet = true) (hb : entryFor table id = some b)
    (h : wpAny (model prog w) A.in1 (checkBuiltinCall id args) (fun ζ s₁ => wpX (model prog w) (A.under (.builtin id args)) (b args)
      (fun fin s' => match fin with | .done f => R (.ok f) s' | .again c' => c'.quiet = true ∧ codeX (model prog w) A c' R s') (fun e s' => R (.error e) s') s₁)
      (fun e s' => R (.error e) s') s) : codeX (model prog w) A (.call (.builtin id) args) R s := by
  refine codeX_of_tree rfl ?_
  show wpX _ A.in1 (do checkBuiltinCall id args; again (.builtin id args)) _ _ s
  refine wpX_bind (wpX_of (wpAny_mono h (fun ζ s₁ h₁ => wpX_pure (And.intro hq (codeX_of_tree hc ?_))) fun ζ ζ h' => h'))
  show wpX _ _ (match entryFor table id with | some b => b args | none => unsupported ((withoutEnding? id "#data").getD id)) _ _ s₁
  rw [hb]; exact h₁
noncomputable def InitX (x : Addr) (R : Result → Shared → Prop) (r : Result) (s' : Shared) : Prop := match r with
  | .ok (.ret v) => v = .none ∧ R (.ok (.ret (.ref x))) s'
  | .ok _ => False
  | .error e => R (.error e) s'
theorem make_coreX {prog : Program} {w : World} {A : Around} {C : Addr} {R : Result → Shared → Prop} {h : Heap} {g : Array GenState} {d : Drawn} {t : Nat} {os : OsState} {rest : List Value} {init : Value} (Y : Makes (model prog w) h C) (hi : Looks (model prog w) h (typeLookup (.ref C) "__init__") (some init))
    (hb : ∀ self, Looks (model prog w) h (bindSpecial init self) (init, [self])) (hne : (some init != some (Value.builtin "object.__init__")) = true ∨ (rest = [] ∧ ([] : List (Str × Value)) = []))
    (hq : codeX (model prog w) (A.under (.builtin "type.__call__" ⟨.ref C :: rest, []⟩)) (.call init ⟨.ref (h.objs.size + 1) :: rest, []⟩) (InitX (h.objs.size + 1) R) ⟨(h.push emptyDict).push (instObj C h.objs.size), g, d, t, os⟩) :
    codeX (model prog w) A (.call (.ref C) ⟨rest, []⟩) R ⟨h, g, d, t, os⟩ := by
  have Y' := Y
  obtain ⟨⟨oc, od, cd, sl, hC, e1, e2, e4⟩, made, base, self, top, call, typ⟩ := Y
  refine codeX_of_tree rfl ?_
  show wpX _ _ (callAny (.ref C) _) _ _ _
  simp only [callAny]
  refine wpX_bind (wpX_of (wpAny_load hC ?_))
  show wpX _ _ (callAny.viaDunder (.ref C) _) _ _ _
  unfold callAny.viaDunder
  refine wpX_bind (wpX_of (call.at ?_))
  dsimp only
  rw [tc_bind]
  refine wpX_bind (wpX_pure (wpX_bind (wpX_pure ?_)))
  refine wpX_pure (a := Fin.again (.call (.builtin "type.__call__") ⟨.ref C :: rest, []⟩)) (And.intro rfl ?_)
  refine codeX_call_builtin_at (show (!holders.contains "type.__call__") = true by decide +kernel) (Code.quiet_builtin _ (by decide +kernel)) entry_typeCall (check_slot tc_kind tc_split typ (tc_args _ _ _) ?_)
  unfold Builtin.«type.__call__»
  have hm : Looks (model prog w) h (mroOf (.ref C)) cd.mro := ((Looks.ld (part := none) hC).andThen .now).andThen .now
  have k : ∀ b o, h.get? b = some o → ((h.push emptyDict).push (instObj C h.objs.size)).get? b = some o := fun b o e => Heap.get?_push_of_some _ (Heap.get?_push_of_some _ e)
  have hx : ((h.push emptyDict).push (instObj C h.objs.size)).get? (h.objs.size + 1) = some (instObj C h.objs.size) := by heap_get
  have t1 : Looks (model prog w) ((h.push emptyDict).push (instObj C h.objs.size)) (typeOf (.ref (h.objs.size + 1))) (.ref C) := (Looks.ld hx).andThen .now
  have s1 := self.keeps k
  have i1 := hi.keeps k
  have b1 := (hb (.ref (h.objs.size + 1))).keeps k
  have ii : Looks (model prog w) ((h.push emptyDict).push (instObj C h.objs.size)) (isInstance (.ref (h.objs.size + 1)) (.ref C)) true := t1.andThen s1
  have sp : Looks (model prog w) ((h.push emptyDict).push (instObj C h.objs.size)) (specialOf (.ref (h.objs.size + 1)) "__init__") (some init) := t1.andThen i1
  repeat (first | simp only [e4, Bool.false_eq_true, if_false, beq_iff_eq, reduceCtorEq] | with_reducible refine wpX_bind ?_ | with_reducible refine wpX_of (Looks.at (by assumption) ?_) | with_reducible refine wpX_pure ?_ | with_reducible refine wpX_holding ?_ | with_reducible refine wpX_call ?_)
  refine codeX_of (new_K Y' hi hne ?_)
  show wpX _ _ _ _ _ _
  refine wpX_bind (wpX_of (Looks.at ii ?_))
  simp only [Bool.not_true, Bool.false_eq_true, if_false]
  refine wpX_bind (wpX_holding ?_)
  unfold callSpecial?
  refine wpX_bind (wpX_of (Looks.at sp ?_))
  dsimp only
  refine wpX_holding (wpX_bind (wpX_of (Looks.at b1 ?_)))
  refine wpX_bind (wpX_call ?_)
  refine codeX_mono hq fun r s' z => ?_
  rcases r with e | (v | _ | _ | _) <;> first | exact z | exact z.elim | skip
  obtain ⟨rfl, z⟩ := z
  exact wpX_pure (wpX_pure z)
theorem Make_ {C fI : Addr} {vs : List Value} {K : AV → Led → Prop} (hm : ∀ P, makesIn (kk.heap_1 P) C = true) (hi : ∀ P, findIn (kk.heap_1 P) (.ref C) "__init__" = some (some (.ref fI))) (hf : ∀ P, typeIn (kk.heap_1 P) (.ref fI) = some (.type "function"))
    (h : ∀ x, Cc G n ((x, .inst C []) :: L) (.ref fI) (.ref x :: vs) fun a L1 => a = .none ∧ K (.con (.ref x)) L1) : Cc G (n + 1) L (.ref C) vs K := by
  intro A s hA hS
  have S' := hS.make (C := C)
  obtain ⟨hh, g, d, t, os⟩ := s
  refine make_coreX (makes_of hS.X (hm _)) (looks_findIn hS.X (hi _)) (fun self => bind_fn hS.X self (hf _)) (.inl rfl) ?_
  refine codeX_mono (h _ _ _ (hA.make (C := C) (vs := vs)) S') fun r s' q => ?_
  rcases r with e | (v | _ | _ | _)
  · exact q
  all_goals first | exact q | skip
  obtain ⟨a, L', h1, h2, rfl, h3⟩ := q
  exact ⟨h1, AV.con _, L', rfl, h2, h3⟩
end
end Mine
end
section
open PySem PySem.W PySem.Calls PyProof.Rows PySem.Spec
set_option Elab.async false
set_option linter.unusedVariables false
set_option maxRecDepth 10000
namespace Mine
theorem VRs.one {a : AV} {vs : List Value} (h : VRs [a] vs) : ∃ v, vs = [v] ∧ VR a v := by cases h with | cons h t => cases t; exact ⟨_, rfl, h⟩
theorem VRs.two {a b : AV} {vs : List Value} (h : VRs [a, b] vs) : ∃ v w, vs = [v, w] ∧ VR a v ∧ VR b w := by cases h with | cons h t => cases t with | cons h' t => cases t; exact ⟨_, _, rfl, h, h'⟩
section
variable {G : Gr} {n : Nat} {L L' : Led} {E : Env} {pos p1 p2 np : Pos}
theorem CallBN_ {x : Str} {id : String} {args : List Expr} {K : AV → Led → Prop} (hx : nsIn (kk.heap_1 G.w.params) mainGlobals x = some none) (hb : bootBuiltins x = some (.builtin id))
    (h : Args G n E pos L args fun as L1 => ∀ vs, VRs as vs → Cv G n L1 (call (.builtin id) ([] ++ vs)) K) (hi : E.kindOf x = some .globalImplicit) (hplain : (backTo pos (starEach args E)).any (·.1) = false := by rfl)
    (e1 : E.globals = mainGlobals := by rfl) (e2 : E.builtins = builtinsNs := by rfl) (hk : E.scope.kind = .function := by rfl) (hd : (x == ("__debug__" : Str)) = false := by decide +kernel) (hne : (x == ("__name__" : Str)) = false := by decide +kernel) :
    Cv G n L (eval (.Call (.Name x np) args [] pos) E) K :=
  CallN_ (BName_ hx hb (fun f hf => by obtain rfl : f = .builtin id := hf; exact CallB_ h hplain) hi e1 e2 hk hd hne)
theorem CallTN_ {x : Str} {T : String} {args : List Expr} {K : AV → Led → Prop} (hx : nsIn (kk.heap_1 G.w.params) mainGlobals x = some none) (hb : bootBuiltins x = some (.type T))
    (h : Args G n E pos L args fun as L1 => ∀ vs, VRs as vs → Cv G n L1 (call (.type T) ([] ++ vs)) K) (hi : E.kindOf x = some .globalImplicit) (hplain : (backTo pos (starEach args E)).any (·.1) = false := by rfl)
    (e1 : E.globals = mainGlobals := by rfl) (e2 : E.builtins = builtinsNs := by rfl) (hk : E.scope.kind = .function := by rfl) (hd : (x == ("__debug__" : Str)) = false := by decide +kernel) (hne : (x == ("__name__" : Str)) = false := by decide +kernel) :
    Cv G n L (eval (.Call (.Name x np) args [] pos) E) K :=
  CallN_ (BName_ hx hb (fun f hf => by obtain rfl : f = .type T := hf; exact CallT_ h hplain) hi e1 e2 hk hd hne)
theorem CallGN_ {x : Str} {f : Addr} {args : List Expr} {K : AV → Led → Prop} (hx : nsIn (kk.heap_1 G.w.params) mainGlobals x = some (some (.ref f))) (hkp : ∀ P, keepIn (kk.heap_1 P) (.ref f) = true)
    (h : Args G n E pos L args fun as L1 => ∀ vs, VRs as vs → Cv G n L1 (call (.ref f) ([] ++ vs)) K) (hi : E.kindOf x = some .globalImplicit) (hplain : (backTo pos (starEach args E)).any (·.1) = false := by rfl)
    (e1 : E.globals = mainGlobals := by rfl) (hk : E.scope.kind = .function := by rfl) (hd : (x == ("__debug__" : Str)) = false := by decide +kernel) :
    Cv G n L (eval (.Call (.Name x np) args [] pos) E) K :=
  CallN_ (GName_ hx (fun v hv => by obtain rfl : v = .ref f := hv; exact CallW_ hkp h hplain) hi e1 hk hd)
theorem lenB_ {b : List UInt8} {vs : List Value} {K : AV → Led → Prop} (hv : VRs [.bytes b] vs) (hz : b.length ≤ 1000000) (h : K (.int b.length) L) : Cv G n L (call (.builtin "len") ([] ++ vs)) K := by
  refine Mine.C.leaf ?_
  intro A s hA hS
  obtain ⟨v, rfl, t, rfl⟩ := hv.one
  refine len_bytes (by rw [List.size_toArray]; lia) ⟨.int b.length, L, ⟨_, by rw [List.size_toArray]⟩, hS.toks _, h⟩
theorem eqB_ {a b : List UInt8} {v w : Value} {K : AV → Led → Prop} (hv : VR (.bytes a) v) (hw : VR (.bytes b) w) (h : K (.bool (a == b)) L) : Cv G n L (compareOp .Eq v w) K := by
  refine Mine.C.leaf ?_
  intro A s hA hS; obtain ⟨t, rfl⟩ := hv; obtain ⟨u, rfl⟩ := hw
  exact eq_bytes ⟨.bool (a == b), L, rfl, hS, h⟩
theorem neB_ {a b : List UInt8} {v w : Value} {K : AV → Led → Prop} (hv : VR (.bytes a) v) (hw : VR (.bytes b) w) (h : K (.bool (a != b)) L) : Cv G n L (compareOp .NotEq v w) K := by
  refine Mine.C.leaf ?_
  intro A s hA hS; obtain ⟨t, rfl⟩ := hv; obtain ⟨u, rfl⟩ := hw
  exact ne_bytes ⟨.bool (a != b), L, rfl, hS, h⟩
theorem addB_ {a b : List UInt8} {v w : Value} {K : AV → Led → Prop} (hv : VR (.bytes a) v) (hw : VR (.bytes b) w) (hz : a.length + b.length ≤ 1000000) (h : K (.bytes (a ++ b)) L) : Cv G n L (binaryOp .Add v w) K := by
  refine Mine.C.leaf ?_
  intro A s hA hS; obtain ⟨t, rfl⟩ := hv; obtain ⟨u, rfl⟩ := hw
  refine KBy.add_bytes (by simp only [List.size_toArray]; lia) fun t' k => ⟨.bytes (a ++ b), L, ⟨t', by simp⟩, hS.toks _, h⟩
noncomputable abbrev Cs (G : Gr) (n : Nat) (L : Led) (value slice : Expr) (o i : Value) (K : AV → Led → Prop) : Prop := Cv G n L (subscriptTail value slice o i) K
theorem Sub_ {value slice : Expr} {K : AV → Led → Prop} (h : Cv G n L (eval value E) fun a L1 => Cv G n L1 (eval slice E) fun b L2 => ∀ v w, VR a v → VR b w → Cs G n L2 value slice v w K) : Cv G n L (eval (.Subscript value slice pos) E) K := by
  refine C.of (eval_Subscript ..) (C.then h fun a L1 k v hv => C.then (C.hold k) fun b L2 k2 w hw => C.at ?_)
  have := k2 v w hv hw
  unfold Cs subscriptTail at this
  exact this
theorem tail_ {M : Program × World} {A : Around} {s : Shared} {Ee : Value → Shared → Prop} {value slice : Expr} {o i : Value} {ops : List Value} {T id : String} {Q : Value → Shared → Prop} (hl : typeLookup (.type T) "__getitem__" = pure (some (.builtin id))) (hT : s.TypeIs o T)
    (h : wpAny (model M.1 M.2) A (getItem o i) Q Ee s) (hs : subscripted slice false o i = operate ops (getItem o i)) : wpAny (model M.1 M.2) A (subscriptTail value slice o i) Q Ee s := by
  unfold subscriptTail
  refine wpAny_bind ?_
  rw [getitemInPython_of_ne hT.not_modules]
  refine wpAny_bind (wpAny_specialOf hT hl ?_)
  have fin : wpAny (model M.1 M.2) A (subscripted slice false o i) (fun r s₃ => wpAny (model M.1 M.2) A (letTemporaryGo value o r >>= fun ζ => pure r) Q Ee s₃) Ee s := by
    rw [hs]
    exact wpAny_operating (wpAny_mono h (fun r s₃ h₃ => wpAny_bind (wpAny_letTemporaryGo (wpAny_pure h₃))) fun ζ ζ x => x)
  first
    | exact wpAny_pure (wpAny_bind fin)
    | exact wpAny_bind (wpAny_pure (wpAny_bind fin))
    | exact wpAny_bind fin
theorem itemB_ {b : List UInt8} {i : Int} {value slice : Expr} {v w : Value} {K : AV → Led → Prop} (hv : VR (.bytes b) v) (hw : VR (.int i) w) (h0 : 0 ≤ i) (h1 : i < b.length) (hz : b.length ≤ 1000000) (h : K (.int (b.getD i.toNat 0).toNat) L)
    (hs : ∀ o i, subscripted slice false o i = operate [o, i] (getItem o i) := by intro ζ ζ; rfl) : Cs G n L value slice v w K := by
  refine Mine.C.leaf ?_
  intro A s hA hS; obtain ⟨t, rfl⟩ := hv; obtain ⟨u, rfl⟩ := hw
  exact tail_ (M := (G.prog, G.w)) FB.slot_bytes_getitem.lookup (typeIs_bytes _ _ _) (getItem_bytes (by lia) h0 h1 ⟨.int _, L, ⟨_, rfl⟩, hS.toks _, h⟩) (hs _ _)
noncomputable def PartR : Option Int → AV → Prop
  | none, a => a = .none
  | some i, a => a = .int i
theorem PartR.is {lo : Option Int} {a : AV} {v : Value} (h : PartR lo a) (hv : VR a v) : IsPart v lo := by
  cases lo with
  | none => obtain rfl : a = .none := h; obtain rfl : v = .none := hv; exact .none
  | some i => obtain rfl : a = .int i := h; obtain ⟨t, rfl⟩ := hv; exact .int i t
noncomputable def Ev (G : Gr) (n : Nat) (L : Led) (e : Option Expr) (E : Env) (K : AV → Led → Prop) : Prop := Cv G n L (evalPart e E) K
theorem EvN_ {K : AV → Led → Prop} (h : K .none L) : Ev G n L none E K := C.leaf fun ζ ζ ζ hS => wpAny_pure ⟨AV.none, L, rfl, hS, h⟩
theorem EvS_ {e : Expr} {K : AV → Led → Prop} (h : Cv G n L (eval e E) K) : Ev G n L (some e) E K := h
theorem SubSlice_ {value : Expr} {lower upper : Option Expr} {K : AV → Led → Prop} (h : Cv G n L (eval value E) fun a L1 => Ev G n L1 lower E fun l L2 => Ev G n L2 upper E fun u L3 => ∀ v lv uv, VR a v → VR l lv → VR u uv →
      ∀ A s, Rm n A → St G L3 s → wpAny (model G.prog G.w) A (subscriptTail value (.Slice lower upper none p1) v (.ref s.heap.objs.size)) (fun x s' => ∃ y L', VR y x ∧ St G L' s' ∧ K y L') (fun ζ ζ => False) { s with heap := s.heap.push { cls := .type "slice", data := .fields #[lv, uv, .none] } }) :
    Cv G n L (eval (.Subscript value (.Slice lower upper none p1) pos) E) K := by
  refine C.of (eval_Subscript ..) (C.then h fun a L1 k v hv => ?_)
  intro A s hA hS
  have key : wpX (model G.prog G.w) A (eval (.Slice lower upper none p1) E) (fun i s' => wpX (model G.prog G.w) A (subscriptTail value (.Slice lower upper none p1) v i) (fun x s' => ∃ y L', VR y x ∧ St G L' s' ∧ K y L') (fun ζ ζ => False) s') (fun ζ ζ => False) s := by
    rw [arm_eval_Slice]
    refine wpX_bind (k.use hA hS fun lv s1 l L2 hl S1 k1 => wpX_bind (wpX_holding (k1.use hA S1 fun uv s2 u L3 hu S2 k2 => wpX_bind (wpX_holding (wpX_pure ?_)))))
    exact wpX_of (wpAny_newObj_type (wpX_of (k2 v lv uv hv hl hu A s2 hA S2)))
  exact wpX_bind (wpX_holding (wpX_mono key (fun i s' h' => wpX_bind (wpX_of (wpAny_standAt h'))) fun ζ ζ e => e))
theorem sliceB_ {b : List UInt8} {lo hi : Option Int} {l u : AV} {value lower upper : Expr} {lower upper : Option Expr} {v lv uv : Value} {K : AV → Led → Prop} (hv : VR (.bytes b) v) (hl : VR l lv) (hu : VR u uv) (pl : PartR lo l) (pu : PartR hi u) (hz : b.length ≤ 1000000)
    (h : K (.bytes ((b.drop (lo.elim 0 (clipAt b.length))).take (hi.elim b.length (clipAt b.length) - lo.elim 0 (clipAt b.length)))) L) :
    ∀ A s, Rm n A → St G L s → wpAny (model G.prog G.w) A (subscriptTail value (.Slice lower upper none p1) v (.ref s.heap.objs.size)) (fun x s' => ∃ y L', VR y x ∧ St G L' s' ∧ K y L') (fun ζ ζ => False) { s with heap := s.heap.push { cls := .type "slice", data := .fields #[lv, uv, .none] } } := by
  intro A s hA hS
  obtain ⟨t, rfl⟩ := hv
  have e := KBc.picked_eq b.toArray lo hi
  have sz := KBc.size_picked_le b.toArray lo hi
  have hz' := sizeLine_eq
  refine tail_ (M := (G.prog, G.w)) FB.slot_bytes_getitem.lookup (typeIs_bytes _ _ _) (getItem_meets (typeIs_bytes _ _ _) (by decide) FB.slot_bytes_getitem FB.entry_bytes_getitem (FB.args_bytes_getitem_2 _ _) (KBc.meets_slice2 b.toArray t _ (pl.is hl) (pu.is hu))
    ⟨Heap.IsSliceOf.new _ _ _ _, by rw [hz']; exact Nat.le_trans sz (by rw [List.size_toArray]; lia), fun t' k => ⟨.bytes _, L, ⟨t', ?_⟩, ?_, h⟩⟩) rfl
  · rw [e]; simp only [List.size_toArray]
  · exact (hS.ext (s' := { s with heap := s.heap.push { cls := .type "slice", data := .fields #[lv, uv, .none] }, toks := k }) rfl rfl fun b ob e => Heap.get?_push_of_some _ e)
end
end Mine
end
section
open PySem PySem.W PySem.Calls PyProof.Rows PySem.Spec
set_option Elab.async false
set_option linter.unusedVariables false
set_option maxRecDepth 100000
namespace Mine
section facts
open Builtin
theorem ba_slot_append : Slot "bytearray" "append" "bytearray.append" :=
  .of (owner := "bytearray") (n := "append") (by rw [typeLookup_type, builtinLookup_eq_fast]; kernel_rfl) (by decide +kernel) (by decide +kernel) (by decide +kernel)
    (by first | exact .inl (by decide +kernel) | exact .inr (by decide +kernel)) (by rw [isSubtype_type]; kernel_rfl)
theorem ba_slot_extend : Slot "bytearray" "extend" "bytearray.extend" :=
  .of (owner := "bytearray") (n := "extend") (by rw [typeLookup_type, builtinLookup_eq_fast]; kernel_rfl) (by decide +kernel) (by decide +kernel) (by decide +kernel)
    (by first | exact .inl (by decide +kernel) | exact .inr (by decide +kernel)) (by rw [isSubtype_type]; kernel_rfl)
theorem ba_slot_init : Slot "bytearray" "__init__" "bytearray.__init__" :=
  .of (owner := "bytearray") (n := "__init__") (by rw [typeLookup_type, builtinLookup_eq_fast]; kernel_rfl) (by decide +kernel) (by decide +kernel) (by decide +kernel)
    (by first | exact .inl (by decide +kernel) | exact .inr (by decide +kernel)) (by rw [isSubtype_type]; kernel_rfl)
theorem ba_entry_append : entryFor table "bytearray.append" = some Builtin.«bytearray.append» := entryFor_of_tree (by kernel_rfl)
theorem ba_entry_extend : entryFor table "bytearray.extend" = some Builtin.«bytearray.extend» := entryFor_of_tree (by kernel_rfl)
theorem ba_entry_init : entryFor table "bytearray.__init__" = some Builtin.«bytearray.__init__» := entryFor_of_tree (by kernel_rfl)
theorem ba_entry_new : entryFor table "bytearray.__new__" = some Builtin.«list.__new__» := entryFor_alias (id' := "list.__new__") (by kernel_rfl) rfl (by decide +kernel) (by kernel_rfl)
theorem ba_args_append (a b : Value) : argsOk "bytearray.append" ⟨[a, b], []⟩ := by unfold argsOk; kernel_rfl
theorem ba_args_extend (a b : Value) : argsOk "bytearray.extend" ⟨[a, b], []⟩ := by unfold argsOk; kernel_rfl
theorem ba_args_init (a : Value) : argsOk "bytearray.__init__" ⟨[a], []⟩ := by unfold argsOk; kernel_rfl
theorem ba_plainAttrs : PlainAttrs "bytearray" :=
  ⟨⟨"bytearray.__getattribute__", by rw [typeLookup_type, builtinLookup_eq_fast]; kernel_rfl, by decide +kernel⟩, by rw [typeLookup_type, builtinLookup_eq_fast]; kernel_rfl⟩
theorem ba_mro : mroOf (.type "bytearray") = pure [.type "bytearray", .type "object"] := by rw [mroOf_type]; kernel_rfl
theorem ba_lookup_new : typeLookup (.type "bytearray") "__new__" = pure (some (.builtin "bytearray.__new__")) := by rw [typeLookup_type, builtinLookup_eq_fast]; kernel_rfl
theorem ba_called : TypeCalled "bytearray" "bytearray.__new__" "bytearray.__init__" :=
  ⟨by decide +kernel, by decide +kernel, ⟨_, _, ba_mro⟩, madeBy_type ba_mro ba_lookup_new (by decide +kernel), by decide +kernel, by rw [isSubtype_type]; kernel_rfl, ba_slot_init⟩
theorem ba_typeCall : checkTypeCall "bytearray" ⟨[], []⟩ = pure () := by kernel_rfl
theorem ba_newCall : checkBuiltinCall "bytearray.__new__" ⟨[.type "bytearray"], []⟩ = pure () := by kernel_rfl
theorem ba_no_release : typeLookup (.type "bytearray") "__release_buffer__" = pure (some (.builtin "bytearray.__release_buffer__")) := by rw [typeLookup_type, builtinLookup_eq_fast]; kernel_rfl
set_option maxHeartbeats 4000000 in
theorem ba_owner : ("bytearray.__new__".splitOn ".__new__").headD "" = "bytearray" := by simp +decide [String.splitOn, String.splitOnAux]
theorem ba_sub : isSubtype (.type "bytearray") (.type "bytearray") = pure true := by rw [isSubtype_type]; kernel_rfl
end facts
end Mine
end
section
open PySem PySem.W PySem.Calls PyProof.Rows PySem.Spec
set_option Elab.async false
set_option linter.unusedVariables false
set_option maxRecDepth 100000
namespace Mine
theorem not_dec {id : String} (h2 : (!holders.contains id) = true) : Builtin.Bytes.decodersThatHold.contains id = false := by
  cases q : Builtin.Bytes.decodersThatHold.contains id with
  | false => rfl
  | true =>
    rw [List.contains_iff_mem] at q
    have : holders.contains id = true := by rw [List.contains_iff_mem]; unfold holders; exact List.mem_append_right _ q
    rw [this] at h2; cases h2
theorem pass_ {α : Type} {c : Prop} [Decidable c] {a : c → α} {b : ¬c → α} {r : α} (hc : ¬c) (h : b hc = r) : dite c a b = r := by rw [dif_neg hc]; exact h
theorem not_held {id w : String} (h2 : (!holders.contains id) = true) (hw : holders.contains w = true) : ¬ id = w := fun e => by subst e; rw [hw] at h2; cases h2
section
variable {M : Model} {A : Around} {s : Shared} {Ee : Value → Shared → Prop}
theorem wpX_exported {self : Value} {Q : Bool → Shared → Prop} (h : Q false s) : wpX M A (Builtin.Bytes.exported self) Q Ee s := by
  intro Γ p hΓ hc
  have key : ∀ (f : Code × Pos → Bool), (∀ x, clean x.1 = true → f x = false) → ((Γ.code, p) :: Γ.below).any f = false := fun f hf => by
    rw [List.any_eq_false]
    intro x hx
    rw [hf x]
    · exact Bool.false_ne_true
    · rcases List.mem_cons.mp hx with rfl | hx
      · exact hc.1
      · exact hc.2 x hx
  unfold Builtin.Bytes.exported stack
  show Sem.wp M Γ (Sem.bind (.stack .pure) _) _ _ p s
  rw [Sem.wp_bind, Sem.wp_stack]
  show Q (((Γ.code, p) :: Γ.below).any _) s
  rw [key]
  · exact h
  · rintro ⟨c, q⟩ hcl
    dsimp only at hcl
    cases c with
    | builtin id args =>
      delta Builtin.Bytes.exported.match_1
      refine pass_ (c := id = "bytearray.__contains__") (not_held hcl rfl) ?_
      refine pass_ (c := id = "bytearray.__mod__") (not_held hcl rfl) ?_
      refine pass_ (c := id = "bytearray.__rmod__") (not_held hcl rfl) ?_
      refine pass_ (c := id = "_struct.pack_into.held") (not_held hcl rfl) ?_
      refine pass_ (c := id = "bytearray.find.held") (not_held hcl rfl) ?_
      obtain ⟨ps, kw⟩ := args
      cases ps with
      | nil => rfl
      | cons v t => exact (congrArg (_ && ·) (not_dec hcl)).trans (Bool.and_false _)
    | _ => rfl
theorem wpAny_payload_ba {a : Addr} {b : Array UInt8} {Q : Array UInt8 → Shared → Prop} (ho : s.heap.get? a = some { cls := .type "bytearray", data := .bytearray b }) (h : Q b s) : wpAny M A (Builtin.Bytes.payload (.ref a)) Q Ee s := by
  unfold Builtin.Bytes.payload Builtin.Bytes.payload?
  exact wpAny_bind (wpAny_bind (wpAny_load ho (wpAny_pure (wpAny_pure h))))
theorem take_eq {id : String} {b : Array UInt8} {t : Tok} : Builtin.Bytes.takeBufferQuiet? id (.bytes b t) 0 = pure (some (b, none)) := by
  unfold Builtin.Bytes.takeBufferQuiet? Builtin.Bytes.takeBuffer?
  rw [KBy.special_eq KBy.look_buffer, KBy.own_buffer, show ((0 : Int) == Builtin.Bytes.fullReadOnly) = false by decide, KBy.buffer_eq]
  rfl
theorem wpX_ifF {α : Type} {c : Bool} {a b : Sem α} {Q : α → Shared → Prop} (hc : c = false) (h : wpX M A b Q Ee s) : wpX M A (if c = true then a else b) Q Ee s := by subst hc; exact h
theorem wpX_ifT {α : Type} {c : Bool} {a b : Sem α} {Q : α → Shared → Prop} (hc : c = true) (h : wpX M A a Q Ee s) : wpX M A (if c = true then a else b) Q Ee s := by subst hc; exact h
theorem wpX_exports {a : Addr} {b : Array UInt8} {Q : Nat → Shared → Prop} (ho : s.heap.get? a = some { cls := .type "bytearray", data := .bytearray b }) (h : Q 0 s) : wpX M A (Builtin.Bytes.exportsOf (.ref a)) Q Ee s := by
  unfold Builtin.Bytes.exportsOf
  exact wpX_bind (wpX_of (wpAny_load ho (wpX_pure h)))
theorem wpX_checkResize {a : Addr} {b : Array UInt8} {Q : Unit → Shared → Prop} (ho : s.heap.get? a = some { cls := .type "bytearray", data := .bytearray b }) (h : Q () s) : wpX M A (Builtin.Bytes.checkResize (.ref a)) Q Ee s := by
  unfold Builtin.Bytes.checkResize
  refine wpX_bind ?_
  show wpX _ _ (Builtin.Bytes.exported (.ref a) >>= _) _ _ _
  refine wpX_bind (wpX_exported ?_)
  show wpX _ _ (Builtin.Bytes.exportsOf (.ref a) >>= _) _ _ _
  exact wpX_bind (wpX_exports ho (wpX_pure (wpX_pure h)))
theorem wpAny_ba_write {a : Addr} {b : Array UInt8} {f : Array UInt8 → Array UInt8} {Q : Unit → Shared → Prop} (ho : s.heap.get? a = some { cls := .type "bytearray", data := .bytearray b }) (hz : (f b).size ≤ sizeLine)
    (h : ∀ h', (∀ c ob, c ≠ a → s.heap.get? c = some ob → h'.get? c = some ob) → h'.get? a = some { cls := .type "bytearray", data := .bytearray (f b) } → Q () { s with heap := h' }) : wpAny M A (Builtin.Bytes.write (.ref a) f) Q Ee s := by
  show wpAny _ _ (updateBytearray a f) _ _ _
  unfold updateBytearray
  refine wpAny_bind (wpAny_load ho ?_)
  show wpAny _ _ (update a (Obj.mapBytearray f) >>= fun ζ => lookBehind a) _ _ _
  refine wpAny_bind (wpAny_update ho ?_)
  have h2 : (s.heap.update a (Obj.mapBytearray f)).get? a = some { cls := .type "bytearray", data := .bytearray (f b) } := Heap.get?_update_self (Obj.mapBytearray f) ho rfl
  refine wpAny_lookBehind h2 ?_ (h _ (fun c ob hc e => (Heap.get?_update_other _ _ (Ne.symm hc)).trans e) h2)
  show (if (f b).size > sizeLine then some "bytearray:memory" else none) = none
  rw [if_neg (by lia)]
end
section
variable {G : Gr} {n : Nat} {L L' : Led} {E : Env} {pos p1 p2 np : Pos}
theorem wpX_call_entry {prog : Program} {w : World} {A : Around} {E : Value → Shared → Prop} {s : Shared} {T : String} {name : Str}
    {id : String} {b : Builtin} {self : Value} {rest : List Value} {Q : Value → Shared → Prop} (hcl : (!holders.contains id) = true) (h : Slot T name id) (hT : s.TypeIs self T)
    (hb : entryFor table id = some b) (ha : argsOk id ⟨self :: rest, []⟩)
    (hc : wpX (model prog w) A.in1 (b ⟨self :: rest, []⟩) (fun fin s' => ∃ v, fin = .done (.ret v) ∧ Q v s') E s) :
    wpX (model prog w) A (call (.builtin id) (self :: rest)) Q E s := by
  refine wpX_call (codeX_call_builtin_at hcl (plainId_quiet h.plain _) hb (h.check _ _ _ _ _ _ _ _ hT ha ?_))
  rw [Around.under_plainId h.plain _]
  refine wpX_mono hc (fun fin s' h' => ?_) fun ζ ζ h' => h'
  obtain ⟨v, rfl, hv⟩ := h'; exact hv
theorem methBa_ {x : Addr} {name : Str} {id : String} {b : List UInt8} {v : Value} {K : Value → List Value → Led → Prop} (slot : Slot "bytearray" name id) (hty : typeOf (.builtin id) = pure (.type "method_descriptor")) (hv : VR (.con (.ref x)) v) (hl : (x, AObj.barr b) ∈ L)
    (h : K (.builtin id) [.ref x] L) : GM G n L v name K := by
  intro pl A s hA hS
  refine wpX_of ?_
  obtain rfl : v = .ref x := hv
  obtain ⟨δ, d1, d2, d3⟩ := hS.led
  have o : s.heap.get? x = some { cls := .type "bytearray", data := .bytearray b.toArray } := d3 _ hl
  exact getMethod_builtin ⟨_, o, rfl⟩ ba_plainAttrs slot hty (fun a e => by cases e; exact ⟨_, o, rfl⟩) ⟨L, hS, h⟩
theorem appendBa_ {x : Addr} {i : Int} {b : List UInt8} {vs : List Value} {K : AV → Led → Prop} (hv : VRs [.int i] vs) (U : Up x (.barr b) (.barr (b ++ [i.toNat.toUInt8])) L L') (h0 : 0 ≤ i) (h1 : i < 256) (hz : b.length ≤ 1000000)
    (h : K .none L') : Cv G n L (call (.builtin "bytearray.append") ([.ref x] ++ vs)) K := by
  intro A s hA hS
  obtain ⟨w, rfl, t, rfl⟩ := hv.one
  obtain ⟨δ, d1, d2, d3⟩ := hS.led
  have o : s.heap.get? x = some { cls := .type "bytearray", data := .bytearray b.toArray } := d3 _ U.mem
  refine wpX_call_entry (by decide +kernel) ba_slot_append ⟨_, o, rfl⟩ ba_entry_append (ba_args_append _ _) ?_
  unfold Builtin.«bytearray.append»
  refine wpX_bind (wpX_of (wpAny_of_eq (a := (.ref x, .int i t)) rfl ?_))
  refine wpX_bind ?_
  unfold Builtin.Bytes.byteValue
  refine wpX_bind (wpX_of (wpAny_of_eq (rfl : asIndex (.int i t) = pure i) ?_))
  refine wpX_ifF (by simp only [Bool.or_eq_false_iff, decide_eq_false_iff_not]; lia) ?_
  refine wpX_pure (wpX_bind (wpX_checkResize o ?_))
  refine wpX_bind (wpX_of (wpAny_ba_write o (by rw [sizeLine_eq, Array.size_push, List.size_toArray]; lia) fun h' k hx => ?_))
  refine wpX_pure ⟨.none, rfl, .none, L', rfl, ?_, h⟩
  refine hS.upd (b := x) U rfl rfl rfl k fun d ζ => ⟨.inr rfl, fun q => absurd rfl q, fun ζ => ?_⟩
  show h'.get? x = _
  rw [hx]; simp
theorem extendBa_ {x : Addr} {c : List UInt8} {b : List UInt8} {vs : List Value} {K : AV → Led → Prop} (hv : VRs [.bytes c] vs) (U : Up x (.barr b) (.barr (b ++ c)) L L') (hz : b.length + c.length ≤ 1000000)
    (h : K .none L') : Cv G n L (call (.builtin "bytearray.extend") ([.ref x] ++ vs)) K := by
  intro A s hA hS
  obtain ⟨w, rfl, t, rfl⟩ := hv.one
  obtain ⟨δ, d1, d2, d3⟩ := hS.led
  have o : s.heap.get? x = some { cls := .type "bytearray", data := .bytearray b.toArray } := d3 _ U.mem
  refine wpX_call_entry (by decide +kernel) ba_slot_extend ⟨_, o, rfl⟩ ba_entry_extend (ba_args_extend _ _) ?_
  unfold Builtin.«bytearray.extend»
  refine wpX_bind (wpX_of (wpAny_of_eq (a := (.ref x, .bytes c.toArray t)) rfl ?_))
  refine wpX_bind (wpX_of (wpAny_of_eq (KBy.special_eq KBy.look_buffer) ?_))
  refine wpX_ifT rfl ?_
  refine wpX_bind (wpX_of (wpAny_rule ?_))
  refine wpX_bind ?_
  refine wpX_of (wpAny_payload_ba o ?_)
  refine wpX_bind (wpX_of (wpAny_of_eq take_eq ?_))
  refine wpX_ifT rfl ?_
  have fin : wpX (model G.prog G.w) A.in1 (Builtin.Bytes.write (.ref x) (· ++ c.toArray) >>= fun ζ => (ret .none : Sem PySem.Fin)) (fun fin s' => ∃ v, fin = Fin.done (Flow.ret v) ∧ ∃ y L', VR y v ∧ St G L' s' ∧ K y L') (fun ζ ζ => False) s := by
    refine wpX_bind (wpX_of (wpAny_ba_write o (by rw [sizeLine_eq, Array.size_append, List.size_toArray, List.size_toArray]; lia) fun h' k hx => ?_))
    refine wpX_pure ⟨.none, rfl, .none, L', rfl, ?_, h⟩
    refine hS.upd (b := x) U rfl rfl rfl k fun d ζ => ⟨.inr rfl, fun q => absurd rfl q, fun ζ => ?_⟩
    show h'.get? x = _
    rw [hx]; simp
  refine (show wpX _ _ (if (!c.toArray.isEmpty) = true then (Builtin.Bytes.checkResize (.ref x) >>= fun ζ => (Builtin.Bytes.write (.ref x) (· ++ c.toArray) >>= fun ζ => (ret .none : Sem PySem.Fin))) else (Builtin.Bytes.write (.ref x) (· ++ c.toArray) >>= fun ζ => (ret .none : Sem PySem.Fin))) _ _ _ from ?_)
  split
  · exact wpX_bind (wpX_checkResize o fin)
  · exact fin
theorem code_ba_new {prog : Program} {w : World} {A : Around} {Ee : Value → Shared → Prop} {s : Shared} {Q₁ : Value → Shared → Prop}
    (h : Q₁ (.ref s.heap.objs.size) { s with heap := s.heap.push { cls := .type "bytearray", data := .bytearray #[] } }) :
    codeAny (model prog w) A (.call (.builtin "bytearray.__new__") ⟨[.type "bytearray"], []⟩) (wants Q₁ Ee) s := by
  refine codeAny_of_tree ?_
  show wpAny _ A.in1 (do checkBuiltinCall "bytearray.__new__" ⟨[.type "bytearray"], []⟩; again (.builtin "bytearray.__new__" ⟨[.type "bytearray"], []⟩)) _ _ s
  refine wpAny_bind (wpAny_of_eq ba_newCall (wpAny_pure ⟨plainId_quiet ba_called.plain _, codeAny_builtin_stack ba_entry_new rfl fun p st => ?_⟩))
  rw [Around.under_plainId ba_called.plain _]
  have hsub := ba_sub
  have hown := ba_owner
  obtain ⟨hp, g, d, tk, os⟩ := s
  simp only [hown]
  wp_walk
  exact h
theorem rel_dot : (!("bytearray.__release_buffer__".endsWith ("." ++ "__release_buffer__"))) = false := by decide +kernel
theorem rel_drop : "bytearray.__release_buffer__".dropRight ("__release_buffer__".length + 1) = "bytearray" := by decide +kernel
theorem wpAny_ownRelease {M : Model} {A : Around} {Ee : Value → Shared → Prop} {s : Shared} {v : Value} {Q : Bool → Shared → Prop} (hT : s.TypeIs v "bytearray") (h : Q false s) : wpAny M A (Builtin.Bytes.ownRelease v) Q Ee s := by
  unfold Builtin.Bytes.ownRelease Builtin.Bytes.slotIsOwn
  refine wpAny_bind (wpAny_bind (wpAny_specialOf hT ba_no_release ?_))
  refine bm_if_false rel_dot ?_
  rw [rel_drop]
  exact wpAny_isInstance hT ba_sub (wpAny_pure h)
theorem ba_bind0 : Builtin.Bytes.bindOptional "bytearray.__init__" "bytearray" ["source", "encoding", "errors"] [] [] = pure [none, none, none] := by kernel_rfl
theorem wpX_ba_init {prog : Program} {w : World} {A : Around} {Ee : Value → Shared → Prop} {s : Shared} {a : Addr} {Q : PySem.Fin → Shared → Prop} (ho : s.heap.get? a = some { cls := .type "bytearray", data := .bytearray #[] })
    (h : ∀ h', (∀ c ob, c ≠ a → s.heap.get? c = some ob → h'.get? c = some ob) → h'.get? a = some { cls := .type "bytearray", data := .bytearray #[] } → Q (.done (.ret .none)) { s with heap := h' }) :
    wpX (model prog w) A (Builtin.«bytearray.__init__» ⟨[.ref a], []⟩) Q Ee s := by
  unfold Builtin.«bytearray.__init__»
  have hT : s.TypeIs (.ref a) "bytearray" := ⟨_, ho, rfl⟩
  refine wpX_bind (wpX_of (wpAny_ownRelease hT ?_))
  refine wpX_ifF rfl ?_
  refine wpX_bind (wpX_of (wpAny_of_eq ba_bind0 ?_))
  refine wpX_bind (wpX_of (wpAny_of_eq (a := ()) rfl ?_))
  refine wpX_bind (wpX_of (wpAny_of_eq (a := ()) rfl ?_))
  refine wpX_bind ?_
  show wpX _ _ (Builtin.Bytes.exported (.ref a) >>= _) _ _ _
  refine wpX_bind (wpX_exported ?_)
  show wpX _ _ (Builtin.Bytes.exportsOf (.ref a) >>= _) _ _ _
  refine wpX_bind (wpX_exports ho (wpX_pure ?_))
  refine wpX_ifF rfl ?_
  refine wpX_bind (wpX_of (wpAny_ba_write ho (Nat.zero_le _) fun h' k hx => ?_))
  exact wpX_bind (wpX_pure (wpX_pure (h h' k hx)))
theorem codeX_builtin {prog : Program} {w : World} {A : Around} {R : Result → Shared → Prop} {s : Shared} {id : String} {args : PySem.Args} {b : Builtin} (hc : clean (.builtin id args) = true) (hb : entryFor table id = some b)
    (h : wpX (model prog w) (A.under (.builtin id args)) (b args) (fun fin s' => match fin with | .done f => R (.ok f) s' | .again c' => c'.quiet = true ∧ codeX (model prog w) A c' R s') (fun e s' => R (.error e) s') s) :
    codeX (model prog w) A (.builtin id args) R s := by
  refine codeX_of_tree hc ?_
  show wpX _ _ (match entryFor table id with | some b => b args | none => unsupported ((withoutEnding? id "#data").getD id)) _ _ s
  rw [hb]; exact h
theorem callType_codesX {prog : Program} {w : World} {A : Around} {E : Value → Shared → Prop} {s : Shared} {T newId initId : String} {Bi : Builtin} {args : List Value} {Q Q₁ : Value → Shared → Prop} (ft : TypeCalled T newId initId) (hci : (!holders.contains initId) = true)
    (hct : checkTypeCall T ⟨args, []⟩ = pure ()) (entryI : entryFor table initId = some Bi)
    (hnew : codeAny (model prog w) A.in1 (.call (.builtin newId) ⟨.type T :: args, []⟩) (wants Q₁ E) s)
    (hnext : ∀ obj s₁, Q₁ obj s₁ → s₁.TypeIs obj T ∧ argsOk initId ⟨obj :: args, []⟩ ∧
      wpX (model prog w) A.in1.in1 (Bi ⟨obj :: args, []⟩) (fun fin s' => fin = .done (.ret .none) ∧ Q obj s') E s₁) :
    wpX (model prog w) A (call (.type T) args) Q E s := by
  obtain ⟨c, tl, hmro⟩ := ft.mro
  have hmade := ft.made
  have hsub := ft.sub
  refine wpX_call (codeX_of_tree rfl ?_)
  show wpX _ _ (callAny (.type T) _) _ _ _
  refine wpX_pure (And.intro (Code.quiet_builtin _ (by decide +kernel)) (codeX_builtin (show (!holders.contains "type.__call__") = true by decide +kernel) F.entry_type_call ?_))
  rw [Around.under_plain (weight_type_call_type T args []) rfl]
  have h1 := ft.notType
  have h2 := ft.canCreate
  unfold Builtin.«type.__call__»
  dsimp only
  simp only [h1, Bool.false_eq_true, if_false]
  simp only [h2, Bool.false_eq_true, if_false]
  rw [hct]
  refine wpX_bind (wpX_pure ?_)
  rw [hmro]
  refine wpX_bind (wpX_pure ?_)
  refine wpX_ifF rfl ?_
  rw [hmade]
  refine wpX_bind (wpX_pure (wpX_bind (wpX_pure ?_)))
  refine wpX_bind (wpX_holding (wpX_call (codeX_of ?_)))
  refine codeAny_mono hnew fun r s₁ hr => ?_
  rcases r with e | (obj | _ | _ | _) <;> first | exact hr | exact hr.elim | skip
  obtain ⟨hT, hok, hsi⟩ := hnext _ _ hr
  refine wpX_bind (wpX_of (wpAny_isInstance hT hsub ?_))
  refine wpX_ifF rfl ?_
  refine wpX_bind (wpX_holding ?_)
  unfold callSpecial?
  refine wpX_bind (wpX_of (wpAny_specialOf hT ft.init.lookup ?_))
  dsimp only
  refine wpX_holding ?_
  rw [ft.init.bind]
  refine wpX_bind (wpX_pure (wpX_bind (wpX_call ?_)))
  refine codeX_call_builtin_at hci (plainId_quiet ft.init.plain _) entryI (ft.init.check _ _ _ _ _ _ _ _ hT hok ?_)
  rw [Around.under_plainId ft.init.plain _]
  refine wpX_mono hsi (fun fin s' h' => ?_) fun ζ ζ h' => h'
  obtain ⟨rfl, hq⟩ := h'
  refine wpX_pure ?_
  refine wpX_ifF rfl ?_
  exact wpX_pure hq
theorem makeBa_ {K : AV → Led → Prop} (h : ∀ p, K (.con (.ref p)) ((p, .barr []) :: L)) {vs : List Value} (hvs : VRs [] vs) : Cv G n L (call (.type "bytearray") ([] ++ vs)) K := by
  intro A s hA hS
  cases hvs
  refine callType_codesX (Q₁ := fun obj s₁ => obj = .ref s.heap.objs.size ∧ s₁ = { s with heap := s.heap.push { cls := .type "bytearray", data := .bytearray #[] } }) ba_called (by decide +kernel) ba_typeCall ba_entry_init (code_ba_new ⟨rfl, rfl⟩) ?_
  rintro obj s₁ ⟨rfl, rfl⟩
  have o : (s.heap.push { cls := .type "bytearray", data := .bytearray #[] }).get? s.heap.objs.size = some { cls := .type "bytearray", data := .bytearray #[] } := Heap.get?_push_size _ rfl
  refine ⟨⟨_, o, rfl⟩, ba_args_init _, wpX_ba_init o fun h' k hx => ⟨rfl, .con (.ref s.heap.objs.size), (s.heap.objs.size, .barr []) :: L, rfl, ?_, h _⟩⟩
  have S1 : St G ((s.heap.objs.size, .barr []) :: L) { s with heap := s.heap.push { cls := .type "bytearray", data := .bytearray #[] } } := hS.alloc1 rfl rfl fun d => o
  exact S1.upd (b := s.heap.objs.size) (a := s.heap.objs.size) .head rfl rfl rfl k fun d ζ => ⟨.inr rfl, fun q => absurd rfl q, fun ζ => hx⟩
end
end Mine
end
section
open PySem PySem.W PySem.Calls PyProof.Rows PySem.Spec
set_option Elab.async false
set_option linter.unusedVariables false
set_option maxRecDepth 100000
namespace Mine
theorem by_look_bytes : typeLookup (.type "bytes") "__bytes__" = pure (some (.builtin "bytes.__bytes__")) := by rw [typeLookup_type, builtinLookup_eq_fast]; kernel_rfl
theorem ba_no_bytes : typeLookup (.type "bytearray") "__bytes__" = pure none := by rw [typeLookup_type, builtinLookup_eq_fast]; kernel_rfl
theorem ba_no_index : typeLookup (.type "bytearray") "__index__" = pure none := by rw [typeLookup_type, builtinLookup_eq_fast]; kernel_rfl
theorem ba_look_buffer : typeLookup (.type "bytearray") "__buffer__" = pure (some (.builtin "bytearray.__buffer__")) := by rw [typeLookup_type, builtinLookup_eq_fast]; kernel_rfl
section
variable {prog : Program} {w : World} {A : Around} {E : Value → Shared → Prop} {s : Shared}
theorem by_new {b : Array UInt8} {t : Tok} {Q : Value → Shared → Prop} (h : Q (.bytes b t) s) :
    codeAny (model prog w) A (.call (.builtin "bytes.__new__") ⟨[.type "bytes", .bytes b t], []⟩) (wants Q E) s := by
  refine codeAny_of_tree ?_
  show wpAny _ A.in1 (do checkBuiltinCall "bytes.__new__" ⟨[.type "bytes", .bytes b t], []⟩; again (.builtin "bytes.__new__" ⟨[.type "bytes", .bytes b t], []⟩)) _ _ s
  refine wpAny_bind (wpAny_of_eq (F.bm_newCall _) (wpAny_pure ⟨plainId_quiet F.bm_plain _, codeAny_builtin F.bm_entry ?_⟩))
  rw [Around.under_plainId F.bm_plain _]
  have hT : s.TypeIs (.bytes b t) "bytes" := typeIs_bytes _ _ _
  unfold Builtin.«bytes.__new__»
  refine wpAny_bind (wpAny_of_eq (a := true) rfl ?_)
  refine bm_if_false rfl ?_
  refine wpAny_bind (wpAny_of_eq F.bm_sub ?_)
  refine bm_if_false rfl ?_
  refine wpAny_bind (wpAny_of_eq (F.bm_bind _) ?_)
  refine wpAny_bind (wpAny_of_eq (a := ()) rfl ?_)
  refine wpAny_bind (wpAny_of_eq (a := ()) rfl ?_)
  refine bm_if_false rfl ?_
  refine wpAny_bind (wpAny_specialOf hT by_look_bytes ?_)
  refine wpAny_bind (wpAny_rule ?_)
  refine wpAny_bind (wpAny_typeOf hT ?_)
  refine bm_if_true (by decide) ?_
  show wpAny _ _ (if (Value.type "bytes" == Value.type "bytes") = true then _ else _) _ _ _
  refine bm_if_true (by decide) ?_
  first
    | exact wpAny_pure h
    | exact wpAny_bind (wpAny_pure (wpAny_pure h))
theorem call_bytes_bytes {b : Array UInt8} {t : Tok} {Q : Value → Shared → Prop} (h : Q (.bytes b t) s) : wpAny (model prog w) A (call (.type "bytes") [.bytes b t]) Q E s := by
  refine callType_codes (Q₁ := fun obj s₁ => s₁.TypeIs obj "bytes" ∧ Q obj s₁) F.bm_called (F.bm_typeCall _) F.entry_object_init (by_new ⟨typeIs_bytes _ _ _, h⟩) fun obj s₁ h₁ => ?_
  exact ⟨h₁.1, F.args_object_init_2 obj _, object_init_meets F.bm_called.init.lookup F.bm_called.made (by decide) prog w A.in1 _ s₁ ⟨h₁.1, rfl, h₁.2⟩⟩
theorem ba_own {a : Addr} {Q : Bool → Shared → Prop} (hT : s.TypeIs (.ref a) "bytearray") (h : Q true s) : wpAny (model prog w) A (Builtin.Bytes.slotIsOwn (.ref a) "__buffer__") Q E s := by
  unfold Builtin.Bytes.slotIsOwn
  refine wpAny_bind (wpAny_specialOf hT ba_look_buffer ?_)
  refine bm_if_false (show (!("bytearray.__buffer__".endsWith ("." ++ "__buffer__"))) = false by decide +kernel) ?_
  rw [show "bytearray.__buffer__".dropRight ("__buffer__".length + 1) = "bytearray" by decide +kernel]
  exact wpAny_isInstance hT ba_sub h
theorem bb_new {a : Addr} {b : Array UInt8} {Q : Value → Shared → Prop} (ho : s.heap.get? a = some { cls := .type "bytearray", data := .bytearray b }) (hz : b.size ≤ sizeLine) (h : Q (.bytes b s.toks) { s with toks := s.toks + 1 }) :
    codeAny (model prog w) A (.call (.builtin "bytes.__new__") ⟨[.type "bytes", .ref a], []⟩) (wants Q E) s := by
  refine codeAny_of_tree ?_
  show wpAny _ A.in1 (do checkBuiltinCall "bytes.__new__" ⟨[.type "bytes", .ref a], []⟩; again (.builtin "bytes.__new__" ⟨[.type "bytes", .ref a], []⟩)) _ _ s
  refine wpAny_bind (wpAny_of_eq (F.bm_newCall _) (wpAny_pure ⟨plainId_quiet F.bm_plain _, codeAny_builtin F.bm_entry ?_⟩))
  rw [Around.under_plainId F.bm_plain _]
  have hT : s.TypeIs (.ref a) "bytearray" := ⟨_, ho, rfl⟩
  unfold Builtin.«bytes.__new__»
  refine wpAny_bind (wpAny_of_eq (a := true) rfl ?_)
  refine bm_if_false rfl ?_
  refine wpAny_bind (wpAny_of_eq F.bm_sub ?_)
  refine bm_if_false rfl ?_
  refine wpAny_bind (wpAny_of_eq (F.bm_bind _) ?_)
  refine wpAny_bind (wpAny_of_eq (a := ()) rfl ?_)
  refine wpAny_bind (wpAny_of_eq (a := ()) rfl ?_)
  refine bm_if_false rfl ?_
  refine wpAny_bind (wpAny_specialOf hT ba_no_bytes ?_)
  refine wpAny_bind (wpAny_bind ?_)
  show wpAny _ _ (load a >>= _) _ _ _
  refine wpAny_bind (wpAny_load ho ?_)
  refine wpAny_pure (wpAny_pure ?_)
  refine bm_if_false rfl ?_
  refine wpAny_bind (wpAny_specialOf hT ba_no_index ?_)
  refine bm_if_true rfl ?_
  first
    | show wpAny _ _ (Builtin.Bytes.buffer? "bytes.__new__" (.ref a) true >>= _) _ _ _
    | (refine wpAny_bind ?_; show wpAny _ _ (Builtin.Bytes.buffer? "bytes.__new__" (.ref a) true >>= _) _ _ _)
  refine wpAny_bind ?_
  unfold Builtin.Bytes.buffer?
  refine wpAny_bind (wpAny_specialOf hT ba_look_buffer ?_)
  refine wpAny_bind (ba_own hT ?_)
  refine bm_if_false rfl ?_
  refine wpAny_bind (wpAny_specialOf hT ba_look_buffer ?_)
  refine wpAny_bind (wpAny_ownRelease hT ?_)
  refine bm_if_false rfl ?_
  refine wpAny_bind (wpAny_payload_ba ho (wpAny_pure ?_))
  refine wpAny_bind (wpAny_rule (wpAny_bind (wpAny_mkBytes ?_ hz)))
  show wpAny _ _ (if (Value.type "bytes" == Value.type "bytes") = true then _ else _) _ _ _
  refine bm_if_true (by decide) ?_
  first
    | exact wpAny_pure h
    | exact wpAny_bind (wpAny_pure (wpAny_pure h))
theorem call_bytes_ba {a : Addr} {b : Array UInt8} {Q : Value → Shared → Prop} (ho : s.heap.get? a = some { cls := .type "bytearray", data := .bytearray b }) (hz : b.size ≤ sizeLine) (h : Q (.bytes b s.toks) { s with toks := s.toks + 1 }) : wpAny (model prog w) A (call (.type "bytes") [.ref a]) Q E s := by
  refine callType_codes (Q₁ := fun obj s₁ => s₁.TypeIs obj "bytes" ∧ Q obj s₁) F.bm_called (F.bm_typeCall _) F.entry_object_init (bb_new ho hz ⟨typeIs_bytes _ _ _, h⟩) fun obj s₁ h₁ => ?_
  exact ⟨h₁.1, F.args_object_init_2 obj _, object_init_meets F.bm_called.init.lookup F.bm_called.made (by decide) prog w A.in1 _ s₁ ⟨h₁.1, rfl, h₁.2⟩⟩
end
section
variable {G : Gr} {n : Nat} {L L' : Led} {E : Env} {pos p1 p2 np : Pos}
theorem VRs.ints {ns : List Int} {vs : List Value} (h : VRs (ns.map .int) vs) : IntsAre vs ns := by
  induction ns generalizing vs with
  | nil => cases h; exact .nil
  | cons k ns ih => cases h with | cons h t => obtain ⟨u, rfl⟩ := h; exact .cons k u (ih t)
theorem bytesB_ {b : List UInt8} {vs : List Value} {K : AV → Led → Prop} (hv : VRs [.bytes b] vs) (h : K (.bytes b) L) : Cv G n L (call (.type "bytes") ([] ++ vs)) K := by
  refine Mine.C.leaf ?_
  intro A s hA hS
  obtain ⟨v, rfl, t, rfl⟩ := hv.one
  exact call_bytes_bytes ⟨.bytes b, L, ⟨t, rfl⟩, hS, h⟩
theorem bytesBa_ {a : Addr} {b : List UInt8} {vs : List Value} {K : AV → Led → Prop} (hv : VRs [.con (.ref a)] vs) (hl : (a, AObj.barr b) ∈ L) (hz : b.length ≤ 1000000) (h : K (.bytes b) L) : Cv G n L (call (.type "bytes") ([] ++ vs)) K := by
  refine Mine.C.leaf ?_
  intro A s hA hS
  obtain ⟨v, rfl, rfl⟩ := hv.one
  obtain ⟨δ, d1, d2, d3⟩ := hS.led
  exact call_bytes_ba (d3 _ hl) (by rw [sizeLine_eq, List.size_toArray]; lia) ⟨.bytes b, L, ⟨_, rfl⟩, hS.toks _, h⟩
theorem bytesL_ {a : Addr} {ns : List Int} {vs : List Value} {K : AV → Led → Prop} (hv : VRs [.con (.ref a)] vs) (hl : (a, AObj.list (ns.map .int)) ∈ L) (hr : ∀ k ∈ ns, 0 ≤ k ∧ k < 256) (hz : ns.length ≤ 1000000) (h : K (.bytes (ns.map fun k => k.toNat.toUInt8)) L) : Cv G n L (call (.type "bytes") ([] ++ vs)) K := by
  refine Mine.C.leaf ?_
  intro A s hA hS
  obtain ⟨v, rfl, rfl⟩ := hv.one
  obtain ⟨δ, d1, d2, d3⟩ := hS.led
  obtain ⟨xs, m, o, hx⟩ := d3 _ hl
  have hi := hx.ints
  have hl2 : s.heap.IsList a xs.toList.toArray := ⟨_, o, rfl, m, by simp⟩
  exact call_bytes_ints hl2 hi hr (by rw [sizeLine_eq, hi.length]; lia) hA.1 fun h' t k hk => ⟨.bytes (ns.map fun k => k.toNat.toUInt8), L, ⟨t, rfl⟩, hS.ext rfl rfl hk, h⟩
theorem List_ {elts : List Expr} {K : AV → Led → Prop} (hz : elts.length ≤ 1000000) (h : Args G n E pos L elts fun as L1 => as.length = elts.length ∧ ∀ p, K (.con (.ref p)) ((p, .list as) :: L1)) : Cv G n L (eval (.List elts pos) E) K := by
  refine C.of (arm_eval_List ..) (C.at (C.then h fun as L1 ⟨hl, k⟩ vs hvs => C.leaf fun A s hA hS => ?_))
  have e := hvs.length
  exact wpAny_newObj_type ⟨.con (.ref s.heap.objs.size), _, rfl, hS.alloc1 (ao := .list as) rfl rfl fun d => ⟨vs.toArray, 0, Heap.get?_push_size _ rfl, by simpa using hvs⟩, k _⟩ (by show vs.toArray.size ≤ sizeLine; rw [List.size_toArray, sizeLine_eq]; lia)
theorem Tuple_ {elts : List Expr} {k : Nat} {K : AV → Led → Prop} (hz : elts.length ≤ 1000000) (h : Args G n E pos L elts fun as L1 => as.length = elts.length ∧ ∀ p, K (.con (.ref p)) ((p, .tuple as) :: L1)) : Cv G n L (eval (.Tuple elts k pos) E) K := by
  refine C.of (arm_eval_Tuple ..) (C.at (C.then h fun as L1 ⟨hl, k⟩ vs hvs => C.leaf fun A s hA hS => ?_))
  have e := hvs.length
  exact wpAny_newObj_type ⟨.con (.ref s.heap.objs.size), _, rfl, hS.alloc1 (ao := .tuple as) rfl rfl fun d => ⟨vs.toArray, Heap.get?_push_size _ rfl, by simpa using hvs⟩, k _⟩ (by show vs.toArray.size ≤ sizeLine; rw [List.size_toArray, sizeLine_eq]; lia)
theorem St.list {a : Addr} {xs : List AV} {s : Shared} (S : St G L s) (hl : (a, AObj.list xs) ∈ L) : ∃ vs m, s.heap.get? a = some (PySem.W.listOf vs m) ∧ VRs xs vs.toList := by
  obtain ⟨δ, d1, d2, d3⟩ := S.led
  exact d3 _ hl
theorem St.tuple {a : Addr} {xs : List AV} {s : Shared} (S : St G L s) (hl : (a, AObj.tuple xs) ∈ L) : ∃ vs, s.heap.get? a = some { cls := .type "tuple", data := .seq vs 0 } ∧ VRs xs vs.toList := by
  obtain ⟨δ, d1, d2, d3⟩ := S.led
  exact d3 _ hl
theorem methL_ {x : Addr} {xs : List AV} {v : Value} {K : Value → List Value → Led → Prop} (hv : VR (.con (.ref x)) v) (hl : (x, AObj.list xs) ∈ L)
    (h : K (.builtin "list.append") [.ref x] L) : GM G n L v "append" K := by
  intro pl A s hA hS
  refine wpX_of ?_
  obtain rfl : v = .ref x := hv
  obtain ⟨vs, m, o, hx⟩ := hS.list hl
  exact Calls.getMethod_list_append o rfl rfl ⟨L, hS, h⟩
theorem appendL_ {x : Addr} {a : AV} {xs : List AV} {vs : List Value} {K : AV → Led → Prop} (hv : VRs [a] vs) (U : Up x (.list xs) (.list (xs ++ [a])) L L') (hz : xs.length ≤ 1000000)
    (h : K .none L') : Cv G n L (call (.builtin "list.append") ([.ref x] ++ vs)) K := by
  refine Mine.C.leaf ?_
  intro A s hA hS
  obtain ⟨w, rfl, hw⟩ := hv.one
  obtain ⟨vs, m, o, hx⟩ := hS.list U.mem
  have e := hx.length
  refine append_at o (fun h' hs ho => ⟨.none, L', rfl, ?_, h⟩) (by rw [sizeLine_eq, ← Array.length_toList]; lia)
  refine hS.upd (b := x) U rfl rfl rfl (fun c ob hc e => (hs.2 c hc).trans e) fun d ζ => ⟨.inr rfl, fun q => absurd rfl q, fun ζ => ⟨_, _, ho, ?_⟩⟩
  rw [Array.toList_push]; exact hx.append (.cons hw .nil)
theorem lenL_ {x : Addr} {xs : List AV} {vs : List Value} {K : AV → Led → Prop} (hv : VRs [.con (.ref x)] vs) (hl : (x, AObj.list xs) ∈ L) (hz : xs.length ≤ 1000000) (h : K (.int xs.length) L) : Cv G n L (call (.builtin "len") ([] ++ vs)) K := by
  refine Mine.C.leaf ?_
  intro A s hA hS
  obtain ⟨v, rfl, rfl⟩ := hv.one
  obtain ⟨vs, m, o, hx⟩ := hS.list hl
  have e : xs.length = vs.size := hx.length.trans (by simp)
  exact Calls.call_len_list ⟨_, o, rfl, m, rfl⟩ (by lia) ⟨.int xs.length, L, ⟨_, by rw [e]⟩, hS.toks _, h⟩
theorem VRs.getA {as : List AV} {vs : Array Value} (h : VRs as vs.toList) {i : Nat} {a : AV} (e : as[i]? = some a) : ∃ v, vs[i]? = some v ∧ VR a v := by
  obtain ⟨v, hv, r⟩ := h.get e
  exact ⟨v, by rwa [Array.getElem?_toList] at hv, r⟩
theorem itemL_ {x : Addr} {xs : List AV} {a : AV} {i : Int} {value slice : Expr} {v w : Value} {K : AV → Led → Prop} (hv : VR (.con (.ref x)) v) (hw : VR (.int i) w) (hl : (x, AObj.list xs) ∈ L) (h0 : 0 ≤ i) (hz : i < 1000000) (hx : xs[i.toNat]? = some a) (h : K a L)
    (hs : ∀ o i, subscripted slice false o i = operate [o, i] (getItem o i) := by intro ζ ζ; rfl) : Cs G n L value slice v w K := by
  refine Mine.C.leaf ?_
  intro A s hA hS; obtain rfl : v = .ref x := hv; obtain ⟨u, rfl⟩ := hw
  obtain ⟨vs, m, o, hvs⟩ := hS.list hl
  obtain ⟨y, hy, hr⟩ := hvs.getA hx
  have hL : s.heap.IsList x vs := ⟨_, o, rfl, m, rfl⟩
  exact tail_ (M := (G.prog, G.w)) list_getitem_lookup hL.typeIs (wpAny_getItem_list hL h0 (by lia) hy ⟨a, L, hr, hS, h⟩) (hs _ _)
theorem itemT_ {x : Addr} {xs : List AV} {a : AV} {i : Int} {value slice : Expr} {v w : Value} {K : AV → Led → Prop} (hv : VR (.con (.ref x)) v) (hw : VR (.int i) w) (hl : (x, AObj.tuple xs) ∈ L) (h0 : 0 ≤ i) (hz : i < 1000000) (hx : xs[i.toNat]? = some a) (h : K a L)
    (hs : ∀ o i, subscripted slice false o i = operate [o, i] (getItem o i) := by intro ζ ζ; rfl) : Cs G n L value slice v w K := by
  refine Mine.C.leaf ?_
  intro A s hA hS; obtain rfl : v = .ref x := hv; obtain ⟨u, rfl⟩ := hw
  obtain ⟨vs, o, hvs⟩ := hS.tuple hl
  obtain ⟨y, hy, hr⟩ := hvs.getA hx
  have hL : IsTup s.heap x vs := ⟨_, o, rfl, 0, rfl⟩
  have hlt : i.toNat < vs.size := by
    have := (Array.getElem?_eq_some_iff.mp hy).1
    exact this
  have hj : seqIndex? i vs.size = some i.toNat := by
    have hn : ¬ i < 0 := by lia
    have h2 : i < (vs.size : Int) := by lia
    simp [seqIndex?, hn, h0, h2]
  exact tail_ (M := (G.prog, G.w)) slot_tuple_getitem.lookup hL.typeIs (PyProof.Rows.getItem_tuple hL (by lia) (by lia) hj hy ⟨a, L, hr, hS, h⟩) (hs _ _)
end
end Mine
end
section
open PySem PySem.W PySem.Calls PyProof.Rows PySem.Spec
set_option Elab.async false
set_option linter.unusedVariables false
set_option maxRecDepth 100000
namespace Mine
section
variable {κ : Type} [DecidableEq κ]
noncomputable def lookA (es : List (κ × AV)) (k : κ) : Option AV := (es.find? fun p => p.1 = k).map (·.2)
noncomputable def putA (es : List (κ × AV)) (k : κ) (a : AV) : List (κ × AV) := if es.any (fun p => p.1 = k) then es.map (fun p => if p.1 = k then (p.1, a) else p) else es ++ [(k, a)]
noncomputable def delA (es : List (κ × AV)) (k : κ) : List (κ × AV) := es.filter fun p => decide (p.1 ≠ k)
theorem PR.len {es : List (κ × AV)} {kvs : List (κ × Value)} (h : PR es kvs) : es.length = kvs.length := by
  induction h with
  | nil => rfl
  | cons _ _ ih => simp [ih]
theorem PR.keys {es : List (κ × AV)} {kvs : List (κ × Value)} (h : PR es kvs) : kvs.map (·.1) = es.map (·.1) := by
  induction h with
  | nil => rfl
  | cons _ _ ih => simp [ih]
theorem PR.look {es : List (κ × AV)} {kvs : List (κ × Value)} (h : PR es kvs) (k : κ) : match lookA es k with | none => valueAt kvs k = none | some a => ∃ v, valueAt kvs k = some v ∧ VR a v := by
  induction h with
  | nil => rfl
  | @cons q a v es kvs hv _ ih =>
    unfold lookA valueAt at ih ⊢
    simp only [List.find?_cons]
    by_cases e : q = k
    · simp only [e, decide_true, Option.map_some]; exact ⟨v, rfl, hv⟩
    · simp only [e, decide_false]; exact ih
theorem PR.any {es : List (κ × AV)} {kvs : List (κ × Value)} (h : PR es kvs) (k : κ) : (kvs.any fun p => decide (p.1 = k)) = es.any fun p => decide (p.1 = k) := by
  induction h with
  | nil => rfl
  | cons _ _ ih => simp only [List.any_cons, ih]
theorem PR.map {es : List (κ × AV)} {kvs : List (κ × Value)} (h : PR es kvs) (k : κ) {a : AV} {v : Value} (hv : VR a v) : PR (es.map fun p => if p.1 = k then (p.1, a) else p) (kvs.map fun p => if p.1 = k then (p.1, v) else p) := by
  induction h with
  | nil => exact .nil
  | @cons q b u es kvs hb _ ih =>
    simp only [List.map_cons]
    by_cases e : q = k
    · simp only [e, if_true]; exact .cons hv ih
    · simp only [e, if_false]; exact .cons hb ih
theorem PR.app {es es' : List (κ × AV)} {kvs kvs' : List (κ × Value)} (h : PR es kvs) (h' : PR es' kvs') : PR (es ++ es') (kvs ++ kvs') := by
  induction h with
  | nil => exact h'
  | cons hv _ ih => exact .cons hv ih
theorem PR.put {es : List (κ × AV)} {kvs : List (κ × Value)} (h : PR es kvs) (k : κ) {a : AV} {v : Value} (hv : VR a v) : PR (putA es k a) (stored kvs k v) := by
  unfold putA stored
  rw [h.any k]
  split
  · exact h.map k hv
  · exact h.app (.cons hv .nil)
theorem PR.del {es : List (κ × AV)} {kvs : List (κ × Value)} (h : PR es kvs) (k : κ) : PR (delA es k) (without kvs k) := by
  unfold delA without
  induction h with
  | nil => exact .nil
  | @cons q b u es kvs hb _ ih =>
    simp only [List.filter_cons]
    by_cases e : q = k
    · simpa [e] using ih
    · simp only [ne_eq, e, not_false_eq_true, decide_true, if_true]; exact .cons hb ih
end
theorem ne_sys {G : Gr} {L : Led} {s : Shared} (S : St G L s) {p : Addr × AObj} (h : p ∈ L) : (p.1 == sysModules) = false := by
  obtain ⟨δ, d1, d2, d3⟩ := S.led
  obtain ⟨o, ho⟩ := G.sm
  have := d2 p.1 (List.mem_flatMap.mpr ⟨p, h, mem_own.mpr (.inl rfl)⟩)
  rw [beq_eq_false_iff_ne]
  intro e
  rw [e, ho] at this
  cases this
section
variable {G : Gr} {n : Nat} {L L' : Led} {E : Env} {pos p1 p2 np : Pos}
theorem St.bd {d : Addr} {es : List (List UInt8 × AV)} {s : Shared} (S : St G L s) (hl : (d, AObj.bd es) ∈ L) : ∃ kvs, s.heap.DictOf (bytesKind G.prog G.w) d kvs ∧ PR es kvs := by
  obtain ⟨δ, d1, d2, d3⟩ := S.led
  exact d3 _ hl
theorem St.idict {d : Addr} {es : List (Int × AV)} {s : Shared} (S : St G L s) (hl : (d, AObj.idict es) ∈ L) : ∃ kvs, s.heap.DictOf (intKind G.prog G.w) d kvs ∧ PR es kvs := by
  obtain ⟨δ, d1, d2, d3⟩ := S.led
  exact d3 _ hl
theorem isB {P : Program} {w : World} {k : List UInt8} {v : Value} (h : VR (.bytes k) v) : (bytesKind P w).is k v = true := by obtain ⟨t, rfl⟩ := h; exact bytesKind_is ..
theorem isI {P : Program} {w : World} {k : Int} {v : Value} (h : VR (.int k) v) : (intKind P w).is k v = true := by obtain ⟨t, rfl⟩ := h; exact intKind_is ..
theorem methDget_ {x : Addr} {es : List (List UInt8 × AV)} {v : Value} {K : Value → List Value → Led → Prop} (hv : VR (.con (.ref x)) v) (hl : (x, AObj.bd es) ∈ L)
    (h : K (.builtin "dict.get") [.ref x] L) : GM G n L v "get" K := by
  intro pl A s hA hS
  refine wpX_of ?_
  obtain rfl : v = .ref x := hv
  obtain ⟨kvs, hm, hp⟩ := hS.bd hl
  exact getMethod_builtin hm.typeIs PySem.F.plainAttrs_dict PySem.F.slot_dict_get PySem.F.type_dict_get hm.mapOf.noDict ⟨L, hS, h⟩
theorem dget_ {x : Addr} {es : List (List UInt8 × AV)} {k : List UInt8} {vs : List Value} {K : AV → Led → Prop} (hv : VRs [.bytes k] vs) (hl : (x, AObj.bd es) ∈ L)
    (h : K ((lookA es k).getD .none) L) : Cv G n L (call (.builtin "dict.get") ([.ref x] ++ vs)) K := by
  refine Mine.C.leaf ?_
  intro A s hA hS
  obtain ⟨w, rfl, hw⟩ := hv.one
  obtain ⟨kvs, hm, hp⟩ := hS.bd hl
  refine call_meetsIn PySem.F.slot_dict_get hm.typeIs PySem.F.entry_dict_get (PySem.F.args_dict_get_2 _ _) (meets_dict_get (bytesKind G.prog G.w) x (isB hw) (ne_sys hS hl)) ⟨_, hm.mapOf, ?_⟩
  refine ⟨(lookA es k).getD .none, L, ?_, hS.toks _, h⟩
  have := hp.look k
  revert this
  cases lookA es k with
  | none => intro e; rw [e]; rfl
  | some a => rintro ⟨v, e, hv⟩; rw [e]; exact hv
theorem ditem_ {x : Addr} {es : List (List UInt8 × AV)} {k : List UInt8} {a : AV} {value slice : Expr} {v w : Value} {K : AV → Led → Prop} (hv : VR (.con (.ref x)) v) (hw : VR (.bytes k) w) (hl : (x, AObj.bd es) ∈ L) (hx : lookA es k = some a) (h : K a L)
    (hs : ∀ o i, subscripted slice false o i = operate [o, i] (getItem o i) := by intro ζ ζ; rfl) : Cs G n L value slice v w K := by
  refine Mine.C.leaf ?_
  intro A s hA hS; obtain rfl : v = .ref x := hv
  obtain ⟨kvs, hm, hp⟩ := hS.bd hl
  have := hp.look k
  rw [hx] at this
  obtain ⟨y, e, hy⟩ := this
  exact tail_ (M := (G.prog, G.w)) PySem.slot_dict_getitem.lookup hm.typeIs (wpAny_getItem_of (isB hw) hm.mapOf e ⟨a, L, hy, hS.toks _, h⟩) (hs _ _)
theorem iitem_ {x : Addr} {es : List (Int × AV)} {k : Int} {a : AV} {value slice : Expr} {v w : Value} {K : AV → Led → Prop} (hv : VR (.con (.ref x)) v) (hw : VR (.int k) w) (hl : (x, AObj.idict es) ∈ L) (hx : lookA es k = some a) (h : K a L)
    (hs : ∀ o i, subscripted slice false o i = operate [o, i] (getItem o i) := by intro ζ ζ; rfl) : Cs G n L value slice v w K := by
  refine Mine.C.leaf ?_
  intro A s hA hS; obtain rfl : v = .ref x := hv
  obtain ⟨kvs, hm, hp⟩ := hS.idict hl
  have := hp.look k
  rw [hx] at this
  obtain ⟨y, e, hy⟩ := this
  exact tail_ (M := (G.prog, G.w)) PySem.slot_dict_getitem.lookup hm.typeIs (wpAny_getItem_of (isI hw) hm.mapOf e ⟨a, L, hy, hS.toks _, h⟩) (hs _ _)
theorem dset_ {x : Addr} {es : List (List UInt8 × AV)} {k : List UInt8} {a : AV} {o i v : Value} {K : Unit → Led → Prop} (ho : VR (.con (.ref x)) o) (hi : VR (.bytes k) i) (hv : VR a v) (U : Up x (.bd es) (.bd (putA es k a)) L L') (hz : es.length ≤ 1000000)
    (h : K () L') : Cu G n L (setItem o i v) K := by
  refine Mine.C.leaf ?_
  intro A s hA hS; obtain rfl : o = .ref x := ho
  obtain ⟨kvs, hm, hp⟩ := hS.bd U.mem
  refine wpAny_setItem_pairs (isB hi) hm (fun h' hm' hs => ⟨(), L', trivial, ?_, h⟩) (by rw [sizeLine_eq, ← hp.len]; lia)
  exact hS.upd (b := x) U rfl rfl rfl (fun c ob hc e => (hs.2 c hc).trans e) fun d ζ => ⟨.inr rfl, fun q => absurd rfl q, fun ζ => ⟨_, hm', hp.put k hv⟩⟩
theorem iset_ {x : Addr} {es : List (Int × AV)} {k : Int} {a : AV} {o i v : Value} {K : Unit → Led → Prop} (ho : VR (.con (.ref x)) o) (hi : VR (.int k) i) (hv : VR a v) (U : Up x (.idict es) (.idict (putA es k a)) L L') (hz : es.length ≤ 1000000)
    (h : K () L') : Cu G n L (setItem o i v) K := by
  refine Mine.C.leaf ?_
  intro A s hA hS; obtain rfl : o = .ref x := ho
  obtain ⟨kvs, hm, hp⟩ := hS.idict U.mem
  refine wpAny_setItem_pairs (isI hi) hm (fun h' hm' hs => ⟨(), L', trivial, ?_, h⟩) (by rw [sizeLine_eq, ← hp.len]; lia)
  exact hS.upd (b := x) U rfl rfl rfl (fun c ob hc e => (hs.2 c hc).trans e) fun d ζ => ⟨.inr rfl, fun q => absurd rfl q, fun ζ => ⟨_, hm', hp.put k hv⟩⟩
theorem din_ {x : Addr} {es : List (List UInt8 × AV)} {k : List UInt8} {v w : Value} {K : AV → Led → Prop} (hv : VR (.bytes k) v) (hw : VR (.con (.ref x)) w) (hl : (x, AObj.bd es) ∈ L) (h : K (.bool (lookA es k).isSome) L) : Cv G n L (compareOp .In v w) K := by
  refine Mine.C.leaf ?_
  intro A s hA hS; obtain rfl : w = .ref x := hw
  obtain ⟨kvs, hm, hp⟩ := hS.bd hl
  have := hp.look k
  refine wpAny_in_of (isB hv) (ne_sys hS hl) hm.mapOf ⟨.bool (lookA es k).isSome, L, ?_, hS.toks _, h⟩
  revert this
  cases lookA es k with
  | none => intro e; rw [e]; rfl
  | some a => rintro ⟨v, e, hv⟩; rw [e]; rfl
theorem ddel_ {x : Addr} {es : List (List UInt8 × AV)} {k : List UInt8} {o i : Value} {K : Unit → Led → Prop} (ho : VR (.con (.ref x)) o) (hi : VR (.bytes k) i) (hx : (lookA es k).isSome = true) (U : Up x (.bd es) (.bd (delA es k)) L L') (hz : es.length ≤ 1000000)
    (h : K () L') : Cu G n L (delItem o i) K := by
  refine Mine.C.leaf ?_
  intro A s hA hS; obtain rfl : o = .ref x := ho
  obtain ⟨kvs, hm, hp⟩ := hS.bd U.mem
  have := hp.look k
  obtain ⟨a, ha⟩ := Option.isSome_iff_exists.mp hx
  rw [ha] at this
  obtain ⟨y, e, hy⟩ := this
  unfold delItem
  try with_reducible refine wpAny_holding ?_
  refine wpAny_bind (wpAny_sequenceKey hm.typeIs (by decide) ?_)
  refine wpAny_bind (wpAny_callSpecial?_slot (name := Str.ofString "__delitem__") hm.typeIs PySem.F.slot_dict_delitem
    (call_meetsIn PySem.F.slot_dict_delitem hm.typeIs PySem.F.entry_dict_delitem (PySem.F.args_dict_delitem_2 _ _) (meets_dict_delitem_pairs (bytesKind G.prog G.w) x (isB hi)) ⟨kvs, hm, (by rw [sizeLine_eq, ← hp.len]; lia), by rw [e]; rfl, fun h' hm' hs => ?_⟩))
  refine wpAny_pure ⟨(), L', trivial, ?_, h⟩
  exact hS.upd (b := x) U rfl rfl rfl (fun c ob hc e => (hs.2 c hc).trans e) fun d ζ => ⟨.inr rfl, fun q => absurd rfl q, fun ζ => ⟨_, hm', hp.del k⟩⟩
theorem DictB_ {K : AV → Led → Prop} (h : ∀ p, K (.con (.ref p)) ((p, .bd []) :: L)) : Cv G n L (eval (.Dict [] [] pos) E) K := by
  refine Mine.C.leaf ?_
  intro A s hA hS
  exact wpAny_Dict_empty ⟨.con (.ref s.heap.objs.size), _, rfl, hS.alloc1 (ao := .bd []) rfl rfl fun d => ⟨[], Heap.DictOf.new _, .nil⟩, h _⟩
end
end Mine
end
section
open PySem PySem.W PySem.Calls PyProof.Rows PySem.Spec
set_option Elab.async false
set_option linter.unusedVariables false
set_option maxRecDepth 100000
namespace Mine
noncomputable def OptR : Option AV → Option Value → Prop
  | none, v => v = none
  | some a, v => ∃ w, v = some w ∧ VR a w
noncomputable def Cl (G : Gr) (n : Nat) (L : Led) (c : Code) (K : Fl → Led → Prop) : Prop :=
  ∀ A s, Rm n A → St G L s → codeX (model G.prog G.w) A c (fun r s' => match r with | .ok f => ∃ y L', FlR y f ∧ St G L' s' ∧ K y L' | .error _ => False) s
section
variable {α β : Type} {R : β → α → Prop} {G : Gr} {n : Nat} {L L' : Led} {E : Env} {pos p1 p2 np : Pos} {t : Sem α} {K : β → Led → Prop}
theorem C.pick (hs : Pick L' L) (h : C R G n L' t K) : C R G n L t K := fun A s hA hS => h A s hA (hS.pick hs)
theorem C.onR {k : Value → Sem Unit} (h : C R G n L t K) : C R G n L (t.onRaise k) K := fun A s hA hS => wpX_onRaise (h.useE hA hS fun x s' y L' a b c => ⟨y, L', a, b, c⟩)
theorem Cl.block {stmts : List Stmt} {K : Fl → Led → Prop} (h : Cf G n L (execs stmts E) K) : Cl G n L (.block stmts E) K := by
  intro A s hA hS
  refine codeX_of_tree rfl ?_
  show wpX _ A (do return Fin.done (← (execs stmts E).onRaise (fun x => do noteFrame x E; theTreesLotGoes x))) _ _ s
  exact wpX_bind (h.onR.useE hA hS fun f s' y L' a b c => wpX_pure ⟨y, L', a, b, c⟩)
theorem For_ {target iter : Expr} {body orelse : List Stmt} {K : Fl → Led → Prop}
    (h : Cv G n L (eval iter E) fun a L1 => ∀ v, VR a v → C (fun (y : Addr) x => x = .ref y) G n L1 (pyIter v) fun it L2 => Cl G n L2 (.forLoop target (.ref it) body orelse E) K)
    (hs : ∀ x, foldedSetIterable iter E x = Pure.pure x := by intro ζ; rfl) : Cf G n L (exec (.For target iter body orelse pos) E) K := by
  refine C.of (exec_For ..) (C.at (C.then h fun a L1 k v hv => ?_))
  rw [hs]
  refine C.bind (R := fun (y : Value) (x : Value) => x = y) (C.pure (y := v) rfl ?_)
  intro x hx
  obtain rfl : x = v := hx
  refine C.at (C.then (C.hold (k x hv)) fun it L2 k2 y hy => ?_)
  obtain rfl : y = .ref it := hy
  intro A s hA hS
  unfold runOwn
  exact wpX_onRaise (wpX_run (codeX_mono (k2 A s hA hS) fun r s' q => by cases r with | ok f => exact q | error e => exact q.elim) (by intro x; cases x))
theorem pyIterL_ {l : Addr} {xs : List AV} {v : Value} {K : Addr → Led → Prop} (hv : VR (.con (.ref l)) v) (hl : (l, AObj.list xs) ∈ L) (h : ∀ p, K p ((p, .liter l 0) :: L)) : C (fun (y : Addr) x => x = .ref y) G n L (pyIter v) K := by
  refine Mine.C.leaf ?_
  intro A s hA hS
  obtain rfl : v = .ref l := hv
  obtain ⟨vs, m, o, hvs⟩ := hS.list hl
  exact wpAny_pyIter_list ⟨_, o, rfl, m, rfl⟩ ⟨s.heap.objs.size, _, rfl, hS.alloc1 (ao := .liter l 0) rfl rfl fun d => ⟨_, Heap.get?_push_size _ rfl, rfl, rfl⟩, h _⟩
theorem pyIterB_ {b : List UInt8} {v : Value} {K : Addr → Led → Prop} (hv : VR (.bytes b) v) (h : ∀ p, K p ((p, .biter b 0) :: L)) : C (fun (y : Addr) x => x = .ref y) G n L (pyIter v) K := by
  refine Mine.C.leaf ?_
  intro A s hA hS
  obtain ⟨t, rfl⟩ := hv
  exact KBw.pyIter_bytes ⟨s.heap.objs.size, _, rfl, hS.alloc1 (ao := .biter b 0) rfl rfl fun d => ⟨t, _, Heap.get?_push_size _ rfl, rfl, rfl⟩, h _⟩
theorem rangeN_ {k : Int} {vs : List Value} {K : AV → Led → Prop} (hv : VRs [.int k] vs) (h : ∀ p, K (.con (.ref p)) ((p, .range 0 k) :: L)) : Cv G n L (call (.type "range") ([] ++ vs)) K := by
  refine Mine.C.leaf ?_
  intro A s hA hS
  obtain ⟨w, rfl, t, rfl⟩ := hv.one
  refine call_range_1 ⟨.con (.ref s.heap.objs.size), (s.heap.objs.size, .range 0 k) :: L, rfl, (hS.alloc1 (ao := .range 0 k) rfl rfl fun d => ?_).toks _, h _⟩
  exact ⟨_, _, _, Heap.get?_push_size _ rfl⟩
theorem pyIterR_ {r : Addr} {k : Int} {v : Value} {K : Addr → Led → Prop} (hv : VR (.con (.ref r)) v) (hl : (r, AObj.range 0 k) ∈ L) (h0 : 0 ≤ k) (h1 : k ≤ 1000000) (h : ∀ p, K p ((p, .riter 0 k) :: L)) : C (fun (y : Addr) x => x = .ref y) G n L (pyIter v) K := by
  refine Mine.C.leaf ?_
  intro A s hA hS
  obtain rfl : v = .ref r := hv
  obtain ⟨δ, d1, d2, d3⟩ := hS.led
  obtain ⟨t, u, w, o⟩ := d3 _ hl
  have e : Builtin.Range.rangeSize 0 k 1 = k := by rw [rangeSize_one]; split <;> lia
  refine wpAny_pyIter_range o (small_one (by lia) (by lia) (by lia) (by lia)) ?_
  rw [e]
  exact ⟨s.heap.objs.size, (s.heap.objs.size, .riter 0 k) :: L, rfl, hS.alloc1 (ao := .riter 0 k) rfl rfl fun d => Heap.get?_push_size _ rfl, h _⟩
theorem St.at {p : Addr × AObj} {s : Shared} (S : St G L s) (h : p ∈ L) : ∃ d, OR G.prog G.w s.heap p.1 d p.2 := by
  obtain ⟨δ, d1, d2, d3⟩ := S.led
  exact ⟨_, d3 p h⟩
theorem St.ne {a b : Addr} {x y : AObj} {s : Shared} {R : Led} (S : St G ((a, x) :: R) s) (h : (b, y) ∈ R) : b ≠ a := by
  obtain ⟨δ, d1, d2, d3⟩ := S.led
  rw [addrs_cons] at d1
  intro e
  obtain ⟨_, _, n3⟩ := List.nodup_append.mp d1
  exact n3 a (mem_own.mpr (.inl rfl)) b (List.mem_flatMap.mpr ⟨_, h, mem_own.mpr (.inl rfl)⟩) e.symm
theorem St.ext1 {a : Addr} {x : AObj} {s s' : Shared} {R : Led} (S : St G ((a, x) :: R) s) (ht : x.two = false) (hg : s'.gens = s.gens) (ho : s'.os = s.os) (k : ∀ c ob, c ≠ a → s.heap.get? c = some ob → s'.heap.get? c = some ob) : St G R s' := by
  obtain ⟨g1, g2, c, δ, d1, d2, d3⟩ := S
  rw [addrs_cons] at d1 d2
  have eo : own δ (a, x) = [a] := by unfold own; simp [ht]
  rw [eo] at d1 d2
  obtain ⟨n1, n2, n3⟩ := List.nodup_append.mp d1
  refine ⟨hg.trans g1, ho.trans g2, fun b o e => k b o ?_ (c b o e), δ, n2, fun y hy => d2 y (List.mem_append_right _ hy), fun p hp => (d3 p (.tail _ hp)).keeps fun b hb ob e => k b ob ?_ e⟩
  · rintro rfl
    have := d2 b (List.mem_append_left _ (by simp))
    rw [e] at this; cases this
  · rintro rfl
    exact n3 b (by simp) b (List.mem_flatMap.mpr ⟨p, hp, mem_own.mpr hb⟩) rfl
theorem nextL_ {it l : Addr} {xs : List AV} {i : Nat} {Li : Led} (hl : (l, AObj.list xs) ∈ Li) : match xs[i]? with
    | some a => C OptR G n ((it, .liter l i) :: Li) (pyNext (.ref it)) fun y L' => y = some a ∧ L' = (it, .liter l (i + 1)) :: Li
    | none => C OptR G n ((it, .liter l i) :: Li) (pyNext (.ref it)) fun y L' => y = none ∧ L' = Li := by
  cases hx : xs[i]? with
  | some a =>
    refine Mine.C.leaf ?_
    intro A s hA hS
    obtain ⟨vs, m, o, hvs⟩ := hS.list (.tail _ hl)
    obtain ⟨d, hit⟩ := hS.at (.head _)
    obtain ⟨v, hv, hr⟩ := hvs.getA hx
    exact wpAny_pyNext_list_item hit ⟨_, o, rfl, m, rfl⟩ hv fun h' hit' hs => ⟨some a, (it, .liter l (i + 1)) :: Li, ⟨v, rfl, hr⟩, hS.upd (b := it) .head rfl rfl rfl (fun c ob hc e => (hs.2 c hc).trans e) fun d ζ => ⟨.inr rfl, fun q => absurd rfl q, fun ζ => hit'⟩, rfl, rfl⟩
  | none =>
    refine Mine.C.leaf ?_
    intro A s hA hS
    obtain ⟨vs, m, o, hvs⟩ := hS.list (.tail _ hl)
    obtain ⟨d, hit⟩ := hS.at (.head _)
    have hn : vs[i]? = none := by
      have e := hvs.length
      rw [List.getElem?_eq_none_iff] at hx
      rw [Array.getElem?_eq_none_iff, ← Array.length_toList]
      lia
    exact wpAny_pyNext_list_end hA.1 hit ⟨_, o, rfl, m, rfl⟩ hn fun h' hs => ⟨none, Li, rfl, hS.ext1 rfl rfl rfl fun c ob hc e => hs c ob hc e, rfl, rfl⟩
theorem nextB_ {it : Addr} {b : List UInt8} {i : Nat} {Li : Led} : match (b.map fun c => AV.int (c.toNat : Int))[i]? with
    | some a => C OptR G n ((it, .biter b i) :: Li) (pyNext (.ref it)) fun y L' => y = some a ∧ L' = (it, .biter b (i + 1)) :: Li
    | none => C OptR G n ((it, .biter b i) :: Li) (pyNext (.ref it)) fun y L' => y = none ∧ L' = Li := by
  rw [List.getElem?_map]
  cases hx : b[i]? with
  | some c =>
    refine Mine.C.leaf ?_
    intro A s hA hS
    obtain ⟨d, t, hit⟩ := hS.at (.head _)
    exact KBw.next_item hit (c := c) (by simpa using hx) fun h' hit' hs => ⟨some (.int c.toNat), (it, .biter b (i + 1)) :: Li, ⟨_, rfl, _, rfl⟩, (hS.upd (s' := { s with heap := h' }) (b := it) (o' := .biter b (i + 1)) .head rfl rfl rfl (fun c ob hc e => (hs.2 c hc).trans e) fun d ζ => ⟨.inr rfl, fun q => absurd rfl q, fun ζ => ⟨t, hit'⟩⟩).toks _, rfl, rfl⟩
  | none =>
    refine Mine.C.leaf ?_
    intro A s hA hS
    obtain ⟨d, t, hit⟩ := hS.at (.head _)
    exact KBw.next_end hA.1 hit (by simpa using hx) fun h' hs => ⟨none, Li, rfl, hS.ext1 rfl rfl rfl fun c ob hc e => hs c ob hc e, rfl, rfl⟩
end
end Mine
end
section
open PySem PySem.W PySem.Calls PyProof.Rows PySem.Spec
set_option Elab.async false
set_option linter.unusedVariables false
set_option maxRecDepth 100000
namespace Mine
section
variable {G : Gr} {n : Nat} {L L' : Led} {E : Env} {pos p1 p2 np : Pos}
theorem Fstep_ {target : Expr} {body orelse : List Stmt} {it : Addr} {K : Fl → Led → Prop}
    (h : C OptR G n L (pyNext (.ref it)) fun y L1 => match y with
      | none => Cf G n L1 (execs orelse E) K
      | some a => ∀ v, VR a v → Cu G n L1 (letOwnedTupleGo target (.ref it) v) fun ζ L2 => Cu G n L2 (assign target E v) fun ζ L3 => Cf G n L3 (execs body E) fun fl L4 => match fl with
        | .next | .cont => Cl G n L4 (.forLoop target (.ref it) body orelse E) K
        | .brk => K .next L4
        | .ret a => K (.ret a) L4) : Cl G n L (.forLoop target (.ref it) body orelse E) K := by
  intro A s hA hS
  refine codeX_of_tree rfl ?_
  show wpX _ A ((forTurn target (.ref it) body orelse E).onRaise (fun x => do noteFrame x E; theTreesLotGoes x)) _ _ s
  refine wpX_onRaise ?_
  unfold forTurn
  refine wpX_bind (wpX_of (wpAny_standAt ?_))
  refine wpX_bind (wpX_onRaise (h.useE hA hS fun r s1 y L1 hr S1 hy => ?_))
  cases y with
  | none => obtain rfl : r = none := hr; exact wpX_pure ⟨rfl, Cl.block hy A s1 hA S1⟩
  | some a =>
    obtain ⟨w, rfl, hw⟩ := hr
    refine wpX_bind ((hy w hw).useE hA S1 fun ζ s2 ζ L2 ζ S2 k2 => ?_)
    refine wpX_bind (k2.useE hA S2 fun ζ s3 ζ L3 ζ S3 k3 => ?_)
    refine wpX_bind (k3.useE hA S3 fun f s4 y L4 hf S4 k4 => ?_)
    cases y with
    | next => obtain rfl : f = .next := hf; exact wpX_pure ⟨rfl, k4 A s4 hA S4⟩
    | cont => obtain rfl : f = .cont := hf; exact wpX_pure ⟨rfl, k4 A s4 hA S4⟩
    | brk => obtain rfl : f = .brk := hf; exact wpX_pure ⟨.next, L4, rfl, S4, k4⟩
    | ret a => obtain ⟨v, rfl, hv⟩ := hf; exact wpX_pure ⟨.ret a, L4, ⟨v, rfl, hv⟩, S4, k4⟩
theorem Wstep_ {test : Expr} {body orelse : List Stmt} {K : Fl → Led → Prop}
    (h : Tt G n E L test fun b L1 => match b with
      | true => Cf G n L1 (execs body E) fun fl L2 => match fl with
        | .next | .cont => Cl G n L2 (.whileLoop test body orelse E) K
        | .brk => K .next L2
        | .ret a => K (.ret a) L2
      | false => Cf G n L1 (execs orelse E) K) : Cl G n L (.whileLoop test body orelse E) K := by
  intro A s hA hS
  refine codeX_of_tree rfl ?_
  show wpX _ A ((whileTurn test body orelse E).onRaise (fun x => do noteFrame x E; theTreesLotGoes x)) _ _ s
  refine wpX_onRaise ?_
  unfold whileTurn
  refine wpX_bind (C.useE h hA hS fun r s1 y L1 hr S1 hy => ?_)
  subst hr
  cases y with
  | false => exact wpX_bind (C.useE hy hA S1 fun f s2 y L2 hf S2 k2 => wpX_pure ⟨y, L2, hf, S2, k2⟩)
  | true =>
    refine wpX_bind (C.useE hy hA S1 fun f s4 y L4 hf S4 k4 => ?_)
    cases y with
    | next => obtain rfl : f = .next := hf; exact wpX_pure ⟨rfl, k4 A s4 hA S4⟩
    | cont => obtain rfl : f = .cont := hf; exact wpX_pure ⟨rfl, k4 A s4 hA S4⟩
    | brk => obtain rfl : f = .brk := hf; exact wpX_pure ⟨.next, L4, rfl, S4, k4⟩
    | ret a => obtain ⟨v, rfl, hv⟩ := hf; exact wpX_pure ⟨.ret a, L4, ⟨v, rfl, hv⟩, S4, k4⟩
theorem While_ {test : Expr} {body orelse : List Stmt} {K : Fl → Led → Prop} (h : Cl G n L (.whileLoop test body orelse E) K) : Cf G n L (exec (.While test body orelse pos) E) K := by
  refine C.of (exec_While ..) (C.at ?_)
  intro A s hA hS
  unfold runOwn
  exact wpX_onRaise (wpX_run (codeX_mono (h A s hA hS) fun r s' q => by cases r with | ok f => exact q | error e => exact q.elim) (by intro x; cases x))
theorem Try_ {body orelse : List Stmt} {handlers : List ExceptHandler} {K : Fl → Led → Prop} (h : Cf G n L (execs body E) fun fl L1 => match fl with | .next => Cf G n L1 (execs orelse E) K | f => K f L1) : Cf G n L (exec (.Try body handlers orelse [] pos) E) K := by
  refine C.of (arm_exec_Try ..) (C.at ?_)
  intro A s hA hS
  unfold tryStmt
  simp only [List.isEmpty_nil, if_true]
  refine wpX_bind ?_
  unfold Sem.attempt
  have h1 := h.useE (E := fun ζ ζ => False) hA hS fun f s1 y L1 hf S1 k1 => (show (fun (r : Flow) s' => ∃ y L1, FlR y r ∧ St G L1 s' ∧ (match y with | .next => Cf G n L1 (execs orelse E) K | f => K f L1)) f s1 from ⟨y, L1, hf, S1, k1⟩)
  refine wpX_tryCatch ?_
  show wpX _ _ (execs body E >>= fun a => Pure.pure (Except.ok a)) _ _ s
  refine wpX_bind (wpX_mono h1 (fun f s1 q => wpX_pure ?_) fun ζ ζ e => e.elim)
  obtain ⟨y, L1, hf, S1, k1⟩ := q
  cases y with
  | next => obtain rfl : f = .next := hf; exact k1 A s1 hA S1
  | brk => obtain rfl : f = .brk := hf; exact wpX_pure ⟨.brk, L1, rfl, S1, k1⟩
  | cont => obtain rfl : f = .cont := hf; exact wpX_pure ⟨.cont, L1, rfl, S1, k1⟩
  | ret a => obtain ⟨v, rfl, hv⟩ := hf; exact wpX_pure ⟨.ret a, L1, ⟨v, rfl, hv⟩, S1, k1⟩
theorem AsgN_ {x : Str} {v : Value} {K : Unit → Led → Prop} (h : Cu G n L (storeName E x v) K) : Cu G n L (assign (.Name x p1) E v) K := C.of (assign_Name ..) (C.at (bind_ h))
theorem goN_ {x : Str} {it v : Value} {K : Unit → Led → Prop} (h : K () L) : Cu G n L (letOwnedTupleGo (.Name x p1) it v) K := C.leaf fun ζ ζ ζ hS => wpAny_pure ⟨(), L, trivial, hS, h⟩
theorem goL_ {elts : List Expr} {k : Nat} {it l t : Addr} {i : Nat} {v : Value} {K : Unit → Led → Prop} (hv : VR (.con (.ref t)) v) (hl : (it, AObj.liter l i) ∈ L) (h : K () L) : Cu G n L (letOwnedTupleGo (.Tuple elts k p1) (.ref it) v) K := by
  refine Mine.C.leaf ?_
  intro A s hA hS
  obtain rfl : v = .ref t := hv
  obtain ⟨d, hit⟩ := hS.at hl
  exact wpAny_letOwnedTupleGo_listiter hit ⟨(), L, trivial, hS, h⟩
noncomputable abbrev Ai (G : Gr) (n : Nat) (E : Env) (L : Led) (elts : List Expr) (vs : List Value) (K : Unit → Led → Prop) : Prop := Cu G n L (assignInOrder ((assignEach elts E).map (·.2)) vs) K
theorem AiNil_ {vs : List Value} {K : Unit → Led → Prop} (h : K () L) : Ai G n E L [] vs K := by
  cases vs <;> exact C.leaf fun ζ ζ ζ hS => wpAny_pure ⟨(), L, trivial, hS, h⟩
theorem AiCons_ {e : Expr} {rest : List Expr} {v : Value} {vs : List Value} {K : Unit → Led → Prop} (h : Cu G n L (assign e E v) fun ζ L1 => Ai G n E L1 rest vs K) (he : assignEach (e :: rest) E = (false, assign e E) :: assignEach rest E := by rfl) : Ai G n E L (e :: rest) (v :: vs) K := by
  unfold Ai
  rw [he]
  refine C.of (t' := do PySem.holding vs (assign e E v); assignInOrder ((assignEach rest E).map (·.2)) vs) rfl ?_
  exact C.then (C.hold h) fun ζ L1 k ζ ζ => k
theorem AsgT_ {t : Addr} {elts : List Expr} {k : Nat} {as : List AV} {v : Value} {K : Unit → Led → Prop} (hv : VR (.con (.ref t)) v) (hl : (t, AObj.tuple as) ∈ L) (hn : (assignEach elts E).length = as.length) (h : ∀ vs, VRs as vs → Ai G n E L elts vs K)
    (hstar : (assignEach elts E).findIdx? (·.1) = none := by rfl) : Cu G n L (assign (.Tuple elts k p1) E v) K := by
  obtain rfl : v = .ref t := hv
  refine C.of (assign_Tuple ..) (C.at ?_)
  intro A s hA hS
  obtain ⟨vs, o, hvs⟩ := hS.tuple hl
  have e := hvs.length
  have ht : IsTup s.heap t vs := ⟨_, o, rfl, 0, rfl⟩
  unfold unpack
  have hn' : (assignEach elts E).length = vs.size := by rw [hn, e, Array.length_toList]
  rw [hn', hstar]
  refine wpX_bind (wpX_holding (wpX_of (unpackItems_tuple hA.1 ht fun h' he => ?_)))
  exact h vs.toList hvs A _ hA (hS.ext (s' := { s with heap := h' }) rfl rfl fun b ob q => he b ob (Nat.ne_of_lt (Heap.lt_size q)) q)
theorem Assign1_ {t value : Expr} {K : Fl → Led → Prop} (h : Cv G n L (eval value E) fun a L1 => ∀ v, VR a v → Cu G n L1 (assign t E v) fun ζ L2 => K .next L2)
    (hs : swapsWithSole [t] value pos.line E = Pure.pure false := by rfl) (hw : swappedStores [t] value E = Pure.pure none := by rfl) (he : assignEach [t] E = [(false, assign t E)] := by rfl) : Cf G n L (exec (.Assign [t] value pos) E) K := by
  refine C.of (exec_Assign_arm ..) (C.at ?_)
  rw [hs]
  refine C.bind (R := fun (y : Bool) (x : Bool) => x = y) (C.pure (y := false) rfl ?_)
  rintro x rfl
  refine C.then h fun a L1 k v hv => ?_
  rw [hw, he]
  refine C.bind (R := fun (y : Option (List Str)) x => x = y) (C.pure (y := none) rfl ?_)
  rintro x rfl
  exact C.then (k v hv) fun ζ L2 k2 ζ ζ => C.pure (y := Fl.next) rfl k2
theorem AsgS_ {o i : Expr} {v : Value} {K : Unit → Led → Prop} (h : Cv G n L (eval o E) fun b L1 => Cv G n L1 (eval i E) fun c L2 => ∀ ov iv, VR b ov → VR c iv → Cu G n L2 (setItem ov iv v) K) : Cu G n L (assign (.Subscript o i p1) E v) K := by
  refine C.of (assign_Subscript ..) (C.then (C.hold h) fun b L1 k ov ho => C.then (C.hold k) fun c L2 k2 iv hi => C.at (C.then (C.hold (k2 ov iv ho hi)) fun ζ L3 k3 ζ ζ => ?_))
  exact C.leaf fun A s hA hS => wpAny_release ⟨(), L3, trivial, hS, k3⟩
theorem DelS_ {o i : Expr} {K : Fl → Led → Prop} (h : Cv G n L (eval o E) fun b L1 => Cv G n L1 (eval i E) fun c L2 => ∀ ov iv, VR b ov → VR c iv → Cu G n L2 (delItem ov iv) fun ζ L3 => K .next L3) : Cf G n L (exec (.Delete [.Subscript o i p1] pos) E) K := by
  refine C.of (arm_exec_Delete ..) (C.at (C.bind (R := fun (_ : Unit) (_ : Unit) => True) (C.of (arm_deleteEach_cons ..) (C.bind (R := fun (_ : Unit) (_ : Unit) => True) ?_))))
  refine C.of (t' := do
        let ov ← eval o E
        let iv ← PySem.holding [ov] (eval i E)
        standAt p1
        PySem.holding [ov, iv] (delItem ov iv)
        release [ov, iv] []) rfl ?_
  refine C.then h fun b L1 k ov ho => C.then (C.hold k) fun c L2 k2 iv hi => C.at (C.then (C.hold (k2 ov iv ho hi)) fun ζ L3 k3 ζ ζ => ?_)
  exact C.leaf fun A s hA hS => wpAny_release ⟨(), L3, trivial, hS, fun ζ ζ => C.pure (y := ()) trivial fun ζ ζ => C.pure (y := Fl.next) rfl k3⟩
theorem setL_ {x : Addr} {xs : List AV} {a : AV} {k : Int} {o i v : Value} {K : Unit → Led → Prop} (ho : VR (.con (.ref x)) o) (hi : VR (.int k) i) (hv : VR a v) (h0 : 0 ≤ k) (hk : k < xs.length) (hz : xs.length ≤ 1000000) (U : Up x (.list xs) (.list (xs.set k.toNat a)) L L') (h : K () L') : Cu G n L (setItem o i v) K := by
  refine Mine.C.leaf ?_
  intro A s hA hS; obtain rfl : o = .ref x := ho; obtain ⟨t, rfl⟩ := hi
  obtain ⟨vs, m, ob, hvs⟩ := hS.list U.mem
  have e : xs.length = vs.size := hvs.length.trans (by simp)
  have hl : s.heap.IsList x vs := ⟨_, ob, rfl, m, rfl⟩
  unfold setItem
  try with_reducible refine wpAny_holding ?_
  first | refine wpAny_bind (wpAny_pure ?_) | skip
  refine wpAny_bind (wpAny_sequenceKey hl.typeIs (by decide) ?_)
  refine wpAny_bind (wpAny_callSpecial?_slot (name := Str.ofString "__setitem__") hl.typeIs slot_list_setitem
    (wpAny_call_entry slot_list_setitem hl.typeIs entry_list_setitem ?_ (args_list_setitem _ _ _)))
  show wpAny _ _ (Builtin.List.listSubscript? (.int k t) >>= _) _ _ s
  refine wpAny_bind (wpAny_listSubscript_int (fitsIndex_of h0 (by lia)) ?_)
  obtain ⟨j, rfl⟩ := Int.eq_ofNat_of_zero_le h0
  have hj : j < vs.size := by lia
  have hx' : vs[j]? = some vs[j] := Array.getElem?_eq_getElem hj
  show wpAny _ _ ((seqItemAt x j >>= fun r => Pure.pure (r.map (j, ·))) >>= _) _ _ s
  refine wpAny_bind (wpAny_bind (wpAny_seqItemAt ob rfl (wpAny_pure ?_)))
  rw [hx']
  show wpAny _ _ (setSeqItemAt x j v >>= _) _ _ s
  have es : Obj.mapSeq (·.setIfInBounds j v) (PySem.W.listOf vs m) = PySem.W.listOf (vs.setIfInBounds j v) m := by simp [Obj.mapSeq]
  have hq : ∃ y L', True ∧ St G L' { s with heap := s.heap.update x (Obj.mapSeq (·.setIfInBounds j v)) } ∧ K y L' := by
    refine ⟨(), L', trivial, ?_, h⟩
    refine hS.upd (b := x) U rfl rfl rfl (fun c ob hc e => (Heap.get?_update_other _ _ (Ne.symm hc)).trans e) fun d ζ => ⟨.inr rfl, fun q => absurd rfl q, fun ζ => ⟨vs.setIfInBounds j v, m, ?_, ?_⟩⟩
    · exact (Heap.get?_update_self _ ob (by rw [es]; rfl)).trans (by rw [es])
    · rw [Array.toList_setIfInBounds]
      clear U h es
      generalize vs.toList = ws at hvs
      have hgen : ∀ {as : List AV} {ws : List Value}, VRs as ws → ∀ j, VRs (as.set j a) (ws.set j v) := by
        intro as ws h
        induction h with
        | nil => intro j; exact .nil
        | cons hv' _ ih => intro j; cases j with | zero => exact .cons hv (by assumption) | succ j => exact .cons hv' (ih j)
      exact hgen hvs j
  refine wpAny_bind (wpAny_setSeqItemAt ob rfl ?_)
  first
    | exact wpAny_bind (wpAny_pure (wpAny_pure ⟨.none, rfl, wpAny_pure hq⟩))
    | exact wpAny_pure ⟨.none, rfl, wpAny_pure hq⟩
end
end Mine
end
section
open PySem PySem.W PySem.Calls PyProof.Rows PySem.Spec
set_option Elab.async false
set_option linter.unusedVariables false
set_option maxRecDepth 100000
namespace Mine
theorem fillK0 (h : (OpenLaw.row PySem.Challenge.rw_nz0374_01).Holds) (e : kk.heap_1 = kk.heap_1) : (OpenLaw.row PySem.Challenge.rw_nz0374_01).Holds ∧ kk.heap_1 = kk.heap_1 := by
  k_fill
  exact ⟨h, e⟩
noncomputable def FnAt (f : Addr) (fd : FuncData) : Prop := ∀ P, ∃ oc od osl, (kk.heap_1 P).lookup f = some ⟨oc, od, .func fd, osl⟩
noncomputable def fo_137 : { fd : FuncData // FnAt 137 fd } := ⟨_, fun P => ⟨_, _, _, by k_is⟩⟩
theorem c_137 (P : Params) : codeIn (kk.heap_1 P) (.ref 136) (Str.ofString "write_groups") = true := by k_is
noncomputable def fo_144 : { fd : FuncData // FnAt 144 fd } := ⟨_, fun P => ⟨_, _, _, by k_is⟩⟩
theorem c_144 (P : Params) : codeIn (kk.heap_1 P) (.ref 143) (Str.ofString "read_groups") = true := by k_is
noncomputable def fo_151 : { fd : FuncData // FnAt 151 fd } := ⟨_, fun P => ⟨_, _, _, by k_is⟩⟩
theorem c_151 (P : Params) : codeIn (kk.heap_1 P) (.ref 150) (Str.ofString "put_varint") = true := by k_is
noncomputable def fo_158 : { fd : FuncData // FnAt 158 fd } := ⟨_, fun P => ⟨_, _, _, by k_is⟩⟩
theorem c_158 (P : Params) : codeIn (kk.heap_1 P) (.ref 157) (Str.ofString "read_varint") = true := by k_is
noncomputable def fo_165 : { fd : FuncData // FnAt 165 fd } := ⟨_, fun P => ⟨_, _, _, by k_is⟩⟩
theorem c_165 (P : Params) : codeIn (kk.heap_1 P) (.ref 164) (Str.ofString "put_varint32") = true := by k_is
noncomputable def fo_172 : { fd : FuncData // FnAt 172 fd } := ⟨_, fun P => ⟨_, _, _, by k_is⟩⟩
theorem c_172 (P : Params) : codeIn (kk.heap_1 P) (.ref 171) (Str.ofString "read_varint32") = true := by k_is
noncomputable def fo_179 : { fd : FuncData // FnAt 179 fd } := ⟨_, fun P => ⟨_, _, _, by k_is⟩⟩
theorem c_179 (P : Params) : codeIn (kk.heap_1 P) (.ref 178) (Str.ofString "varint_length") = true := by k_is
noncomputable def fo_186 : { fd : FuncData // FnAt 186 fd } := ⟨_, fun P => ⟨_, _, _, by k_is⟩⟩
theorem c_186 (P : Params) : codeIn (kk.heap_1 P) (.ref 185) (Str.ofString "put_fixed32") = true := by k_is
noncomputable def fo_193 : { fd : FuncData // FnAt 193 fd } := ⟨_, fun P => ⟨_, _, _, by k_is⟩⟩
theorem c_193 (P : Params) : codeIn (kk.heap_1 P) (.ref 192) (Str.ofString "put_fixed64") = true := by k_is
noncomputable def fo_214 : { fd : FuncData // FnAt 214 fd } := ⟨_, fun P => ⟨_, _, _, by k_is⟩⟩
theorem c_214 (P : Params) : codeIn (kk.heap_1 P) (.ref 213) (Str.ofString "read_lengthed") = true := by k_is
noncomputable def fo_229 : { fd : FuncData // FnAt 229 fd } := ⟨_, fun P => ⟨_, _, _, by k_is⟩⟩
theorem c_229 (P : Params) : codeIn (kk.heap_1 P) (.ref 228) (Str.ofString "Cursor.__init__") = true := by k_is
noncomputable def fo_243 : { fd : FuncData // FnAt 243 fd } := ⟨_, fun P => ⟨_, _, _, by k_is⟩⟩
theorem c_243 (P : Params) : codeIn (kk.heap_1 P) (.ref 242) (Str.ofString "Cursor.varint") = true := by k_is
noncomputable def fo_264 : { fd : FuncData // FnAt 264 fd } := ⟨_, fun P => ⟨_, _, _, by k_is⟩⟩
theorem c_264 (P : Params) : codeIn (kk.heap_1 P) (.ref 263) (Str.ofString "Cursor.lengthed") = true := by k_is
noncomputable def fo_278 : { fd : FuncData // FnAt 278 fd } := ⟨_, fun P => ⟨_, _, _, by k_is⟩⟩
theorem c_278 (P : Params) : codeIn (kk.heap_1 P) (.ref 277) (Str.ofString "Cursor.flag") = true := by k_is
noncomputable def fo_292 : { fd : FuncData // FnAt 292 fd } := ⟨_, fun P => ⟨_, _, _, by k_is⟩⟩
theorem c_292 (P : Params) : codeIn (kk.heap_1 P) (.ref 291) (Str.ofString "Cursor.done") = true := by k_is
noncomputable def fo_313 : { fd : FuncData // FnAt 313 fd } := ⟨_, fun P => ⟨_, _, _, by k_is⟩⟩
theorem c_313 (P : Params) : codeIn (kk.heap_1 P) (.ref 312) (Str.ofString "Sink.__init__") = true := by k_is
noncomputable def fo_320 : { fd : FuncData // FnAt 320 fd } := ⟨_, fun P => ⟨_, _, _, by k_is⟩⟩
theorem c_320 (P : Params) : codeIn (kk.heap_1 P) (.ref 319) (Str.ofString "Sink.varint") = true := by k_is
noncomputable def fo_341 : { fd : FuncData // FnAt 341 fd } := ⟨_, fun P => ⟨_, _, _, by k_is⟩⟩
theorem c_341 (P : Params) : codeIn (kk.heap_1 P) (.ref 340) (Str.ofString "Sink.lengthed") = true := by k_is
noncomputable def fo_348 : { fd : FuncData // FnAt 348 fd } := ⟨_, fun P => ⟨_, _, _, by k_is⟩⟩
theorem c_348 (P : Params) : codeIn (kk.heap_1 P) (.ref 347) (Str.ofString "Sink.octet") = true := by k_is
noncomputable def fo_355 : { fd : FuncData // FnAt 355 fd } := ⟨_, fun P => ⟨_, _, _, by k_is⟩⟩
theorem c_355 (P : Params) : codeIn (kk.heap_1 P) (.ref 354) (Str.ofString "Sink.flag") = true := by k_is
noncomputable def fo_369 : { fd : FuncData // FnAt 369 fd } := ⟨_, fun P => ⟨_, _, _, by k_is⟩⟩
theorem c_369 (P : Params) : codeIn (kk.heap_1 P) (.ref 368) (Str.ofString "Sink.done") = true := by k_is
noncomputable def fo_390 : { fd : FuncData // FnAt 390 fd } := ⟨_, fun P => ⟨_, _, _, by k_is⟩⟩
theorem c_390 (P : Params) : codeIn (kk.heap_1 P) (.ref 389) (Str.ofString "WriteBatch.__init__") = true := by k_is
noncomputable def fo_397 : { fd : FuncData // FnAt 397 fd } := ⟨_, fun P => ⟨_, _, _, by k_is⟩⟩
theorem c_397 (P : Params) : codeIn (kk.heap_1 P) (.ref 396) (Str.ofString "WriteBatch.put") = true := by k_is
noncomputable def fo_404 : { fd : FuncData // FnAt 404 fd } := ⟨_, fun P => ⟨_, _, _, by k_is⟩⟩
theorem c_404 (P : Params) : codeIn (kk.heap_1 P) (.ref 403) (Str.ofString "WriteBatch.delete") = true := by k_is
noncomputable def fo_411 : { fd : FuncData // FnAt 411 fd } := ⟨_, fun P => ⟨_, _, _, by k_is⟩⟩
theorem c_411 (P : Params) : codeIn (kk.heap_1 P) (.ref 410) (Str.ofString "WriteBatch.take_op") = true := by k_is
noncomputable def fo_425 : { fd : FuncData // FnAt 425 fd } := ⟨_, fun P => ⟨_, _, _, by k_is⟩⟩
theorem c_425 (P : Params) : codeIn (kk.heap_1 P) (.ref 424) (Str.ofString "WriteBatch.count") = true := by k_is
noncomputable def fo_446 : { fd : FuncData // FnAt 446 fd } := ⟨_, fun P => ⟨_, _, _, by k_is⟩⟩
theorem c_446 (P : Params) : codeIn (kk.heap_1 P) (.ref 445) (Str.ofString "WriteBatch.ops") = true := by k_is
noncomputable def fo_495 : { fd : FuncData // FnAt 495 fd } := ⟨_, fun P => ⟨_, _, _, by k_is⟩⟩
theorem c_495 (P : Params) : codeIn (kk.heap_1 P) (.ref 494) (Str.ofString "Entry.__init__") = true := by k_is
noncomputable def fo_607 : { fd : FuncData // FnAt 607 fd } := ⟨_, fun P => ⟨_, _, _, by k_is⟩⟩
theorem c_607 (P : Params) : codeIn (kk.heap_1 P) (.ref 606) (Str.ofString "Command.__init__") = true := by k_is
noncomputable def fo_621 : { fd : FuncData // FnAt 621 fd } := ⟨_, fun P => ⟨_, _, _, by k_is⟩⟩
theorem c_621 (P : Params) : codeIn (kk.heap_1 P) (.ref 620) (Str.ofString "Command.encode") = true := by k_is
noncomputable def fo_635 : { fd : FuncData // FnAt 635 fd } := ⟨_, fun P => ⟨_, _, _, by k_is⟩⟩
theorem c_635 (P : Params) : codeIn (kk.heap_1 P) (.ref 634) (Str.ofString "put_maybe") = true := by k_is
noncomputable def fo_642 : { fd : FuncData // FnAt 642 fd } := ⟨_, fun P => ⟨_, _, _, by k_is⟩⟩
theorem c_642 (P : Params) : codeIn (kk.heap_1 P) (.ref 641) (Str.ofString "take_maybe") = true := by k_is
noncomputable def fo_649 : { fd : FuncData // FnAt 649 fd } := ⟨_, fun P => ⟨_, _, _, by k_is⟩⟩
theorem c_649 (P : Params) : codeIn (kk.heap_1 P) (.ref 648) (Str.ofString "decode_command") = true := by k_is
noncomputable def fo_656 : { fd : FuncData // FnAt 656 fd } := ⟨_, fun P => ⟨_, _, _, by k_is⟩⟩
theorem c_656 (P : Params) : codeIn (kk.heap_1 P) (.ref 655) (Str.ofString "make_reply") = true := by k_is
noncomputable def fo_663 : { fd : FuncData // FnAt 663 fd } := ⟨_, fun P => ⟨_, _, _, by k_is⟩⟩
theorem c_663 (P : Params) : codeIn (kk.heap_1 P) (.ref 662) (Str.ofString "data_key") = true := by k_is
noncomputable def fo_670 : { fd : FuncData // FnAt 670 fd } := ⟨_, fun P => ⟨_, _, _, by k_is⟩⟩
theorem c_670 (P : Params) : codeIn (kk.heap_1 P) (.ref 669) (Str.ofString "session_key") = true := by k_is
noncomputable def fo_677 : { fd : FuncData // FnAt 677 fd } := ⟨_, fun P => ⟨_, _, _, by k_is⟩⟩
theorem c_677 (P : Params) : codeIn (kk.heap_1 P) (.ref 676) (Str.ofString "client_of") = true := by k_is
noncomputable def fo_684 : { fd : FuncData // FnAt 684 fd } := ⟨_, fun P => ⟨_, _, _, by k_is⟩⟩
theorem c_684 (P : Params) : codeIn (kk.heap_1 P) (.ref 683) (Str.ofString "encode_session") = true := by k_is
noncomputable def fo_691 : { fd : FuncData // FnAt 691 fd } := ⟨_, fun P => ⟨_, _, _, by k_is⟩⟩
theorem c_691 (P : Params) : codeIn (kk.heap_1 P) (.ref 690) (Str.ofString "decode_session") = true := by k_is
noncomputable def fo_705 : { fd : FuncData // FnAt 705 fd } := ⟨_, fun P => ⟨_, _, _, by k_is⟩⟩
theorem c_705 (P : Params) : codeIn (kk.heap_1 P) (.ref 704) (Str.ofString "Machine.__init__") = true := by k_is
noncomputable def fo_712 : { fd : FuncData // FnAt 712 fd } := ⟨_, fun P => ⟨_, _, _, by k_is⟩⟩
theorem c_712 (P : Params) : codeIn (kk.heap_1 P) (.ref 711) (Str.ofString "Machine.load") = true := by k_is
noncomputable def fo_719 : { fd : FuncData // FnAt 719 fd } := ⟨_, fun P => ⟨_, _, _, by k_is⟩⟩
theorem c_719 (P : Params) : codeIn (kk.heap_1 P) (.ref 718) (Str.ofString "Machine.mark_durable") = true := by k_is
noncomputable def fo_726 : { fd : FuncData // FnAt 726 fd } := ⟨_, fun P => ⟨_, _, _, by k_is⟩⟩
theorem c_726 (P : Params) : codeIn (kk.heap_1 P) (.ref 725) (Str.ofString "Machine.put_applied") = true := by k_is
noncomputable def fo_740 : { fd : FuncData // FnAt 740 fd } := ⟨_, fun P => ⟨_, _, _, by k_is⟩⟩
theorem c_740 (P : Params) : codeIn (kk.heap_1 P) (.ref 739) (Str.ofString "Machine.apply") = true := by k_is
noncomputable def fo_747 : { fd : FuncData // FnAt 747 fd } := ⟨_, fun P => ⟨_, _, _, by k_is⟩⟩
theorem c_747 (P : Params) : codeIn (kk.heap_1 P) (.ref 746) (Str.ofString "Machine.command_of") = true := by k_is
noncomputable def fo_754 : { fd : FuncData // FnAt 754 fd } := ⟨_, fun P => ⟨_, _, _, by k_is⟩⟩
theorem c_754 (P : Params) : codeIn (kk.heap_1 P) (.ref 753) (Str.ofString "Machine.do_command") = true := by k_is
noncomputable def fo_761 : { fd : FuncData // FnAt 761 fd } := ⟨_, fun P => ⟨_, _, _, by k_is⟩⟩
theorem c_761 (P : Params) : codeIn (kk.heap_1 P) (.ref 760) (Str.ofString "Machine.do_effect") = true := by k_is
noncomputable def fo_775 : { fd : FuncData // FnAt 775 fd } := ⟨_, fun P => ⟨_, _, _, by k_is⟩⟩
theorem c_775 (P : Params) : codeIn (kk.heap_1 P) (.ref 774) (Str.ofString "Machine.session_row") = true := by k_is
noncomputable def fo_789 : { fd : FuncData // FnAt 789 fd } := ⟨_, fun P => ⟨_, _, _, by k_is⟩⟩
theorem c_789 (P : Params) : codeIn (kk.heap_1 P) (.ref 788) (Str.ofString "Machine.rows") = true := by k_is
noncomputable def fo_796 : { fd : FuncData // FnAt 796 fd } := ⟨_, fun P => ⟨_, _, _, by k_is⟩⟩
theorem c_796 (P : Params) : codeIn (kk.heap_1 P) (.ref 795) (Str.ofString "Machine.sessions") = true := by k_is
noncomputable def fo_803 : { fd : FuncData // FnAt 803 fd } := ⟨_, fun P => ⟨_, _, _, by k_is⟩⟩
theorem c_803 (P : Params) : codeIn (kk.heap_1 P) (.ref 802) (Str.ofString "Machine.row") = true := by k_is
noncomputable def fo_817 : { fd : FuncData // FnAt 817 fd } := ⟨_, fun P => ⟨_, _, _, by k_is⟩⟩
theorem c_817 (P : Params) : codeIn (kk.heap_1 P) (.ref 816) (Str.ofString "same_maybe") = true := by k_is
noncomputable def fo_831 : { fd : FuncData // FnAt 831 fd } := ⟨_, fun P => ⟨_, _, _, by k_is⟩⟩
theorem c_831 (P : Params) : codeIn (kk.heap_1 P) (.ref 830) (Str.ofString "MemStore.__init__") = true := by k_is
noncomputable def fo_838 : { fd : FuncData // FnAt 838 fd } := ⟨_, fun P => ⟨_, _, _, by k_is⟩⟩
theorem c_838 (P : Params) : codeIn (kk.heap_1 P) (.ref 837) (Str.ofString "MemStore.write") = true := by k_is
noncomputable def fo_845 : { fd : FuncData // FnAt 845 fd } := ⟨_, fun P => ⟨_, _, _, by k_is⟩⟩
theorem c_845 (P : Params) : codeIn (kk.heap_1 P) (.ref 844) (Str.ofString "MemStore.take") = true := by k_is
noncomputable def fo_852 : { fd : FuncData // FnAt 852 fd } := ⟨_, fun P => ⟨_, _, _, by k_is⟩⟩
theorem c_852 (P : Params) : codeIn (kk.heap_1 P) (.ref 851) (Str.ofString "MemStore.sync") = true := by k_is
noncomputable def fo_859 : { fd : FuncData // FnAt 859 fd } := ⟨_, fun P => ⟨_, _, _, by k_is⟩⟩
theorem c_859 (P : Params) : codeIn (kk.heap_1 P) (.ref 858) (Str.ofString "MemStore.is_durable") = true := by k_is
noncomputable def fo_866 : { fd : FuncData // FnAt 866 fd } := ⟨_, fun P => ⟨_, _, _, by k_is⟩⟩
theorem c_866 (P : Params) : codeIn (kk.heap_1 P) (.ref 865) (Str.ofString "MemStore.get") = true := by k_is
noncomputable def fo_873 : { fd : FuncData // FnAt 873 fd } := ⟨_, fun P => ⟨_, _, _, by k_is⟩⟩
theorem c_873 (P : Params) : codeIn (kk.heap_1 P) (.ref 872) (Str.ofString "MemStore.scan") = true := by k_is
noncomputable def fo_880 : { fd : FuncData // FnAt 880 fd } := ⟨_, fun P => ⟨_, _, _, by k_is⟩⟩
theorem c_880 (P : Params) : codeIn (kk.heap_1 P) (.ref 879) (Str.ofString "MemStore.cut") = true := by k_is
noncomputable def fo_894 : { fd : FuncData // FnAt 894 fd } := ⟨_, fun P => ⟨_, _, _, by k_is⟩⟩
theorem c_894 (P : Params) : codeIn (kk.heap_1 P) (.ref 893) (Str.ofString "_law_clients") = true := by k_is
noncomputable def fo_901 : { fd : FuncData // FnAt 901 fd } := ⟨_, fun P => ⟨_, _, _, by k_is⟩⟩
theorem c_901 (P : Params) : codeIn (kk.heap_1 P) (.ref 900) (Str.ofString "_law_keys") = true := by k_is
noncomputable def fo_908 : { fd : FuncData // FnAt 908 fd } := ⟨_, fun P => ⟨_, _, _, by k_is⟩⟩
theorem c_908 (P : Params) : codeIn (kk.heap_1 P) (.ref 907) (Str.ofString "_law_kinds") = true := by k_is
noncomputable def fo_915 : { fd : FuncData // FnAt 915 fd } := ⟨_, fun P => ⟨_, _, _, by k_is⟩⟩
theorem c_915 (P : Params) : codeIn (kk.heap_1 P) (.ref 914) (Str.ofString "_law_steps") = true := by k_is
noncomputable def fo_922 : { fd : FuncData // FnAt 922 fd } := ⟨_, fun P => ⟨_, _, _, by k_is⟩⟩
theorem c_922 (P : Params) : codeIn (kk.heap_1 P) (.ref 921) (Str.ofString "_law_wants") = true := by k_is
noncomputable def fo_929 : { fd : FuncData // FnAt 929 fd } := ⟨_, fun P => ⟨_, _, _, by k_is⟩⟩
theorem c_929 (P : Params) : codeIn (kk.heap_1 P) (.ref 928) (Str.ofString "_law_draw") = true := by k_is
noncomputable def fo_936 : { fd : FuncData // FnAt 936 fd } := ⟨_, fun P => ⟨_, _, _, by k_is⟩⟩
theorem c_936 (P : Params) : codeIn (kk.heap_1 P) (.ref 935) (Str.ofString "_law_maybe") = true := by k_is
noncomputable def fo_943 : { fd : FuncData // FnAt 943 fd } := ⟨_, fun P => ⟨_, _, _, by k_is⟩⟩
theorem c_943 (P : Params) : codeIn (kk.heap_1 P) (.ref 942) (Str.ofString "_law_judge") = true := by k_is
noncomputable def fo_950 : { fd : FuncData // FnAt 950 fd } := ⟨_, fun P => ⟨_, _, _, by k_is⟩⟩
theorem c_950 (P : Params) : codeIn (kk.heap_1 P) (.ref 949) (Str.ofString "_law_fold") = true := by k_is
noncomputable def fo_957 : { fd : FuncData // FnAt 957 fd } := ⟨_, fun P => ⟨_, _, _, by k_is⟩⟩
theorem c_957 (P : Params) : codeIn (kk.heap_1 P) (.ref 956) (Str.ofString "_law_free") = true := by k_is
noncomputable def fo_962 : { fd : FuncData // FnAt 962 fd } := ⟨_, fun P => ⟨_, _, _, by k_is⟩⟩
theorem c_962 (P : Params) : codeIn (kk.heap_1 P) (.ref 961) (Str.ofString "law") = true := by k_is
end Mine
end
section
open PySem PySem.W PySem.Calls PyProof.Rows PySem.Spec
set_option Elab.async false
set_option linter.unusedVariables false
set_option maxRecDepth 100000
namespace Mine
theorem VRs.inv {a : AV} {as : List AV} {vs : List Value} (h : VRs (a :: as) vs) : ∃ v ws, vs = v :: ws ∧ VR a v ∧ VRs as ws := by cases h with | cons h t => exact ⟨_, _, rfl, h, t⟩
theorem VRs.inv0 {vs : List Value} (h : VRs [] vs) : vs = [] := by cases h; rfl
theorem bt0 {fd : FuncData} {names : List Str}  (H : bindArgs fd ⟨[], []⟩ = pure (names.zip [])) : ∀ s vs, VRs [] vs → BindsTo s fd ⟨vs, []⟩ (names.zip vs) := by intro s vs h; obtain rfl := VRs.inv0 h; exact BindsTo.of_eq (H )
theorem bt1 {fd : FuncData} {names : List Str} {a0 : AV} (H : ∀ v0, bindArgs fd ⟨[v0], []⟩ = pure (names.zip [v0])) : ∀ s vs, VRs [a0] vs → BindsTo s fd ⟨vs, []⟩ (names.zip vs) := by intro s vs h; obtain ⟨v0, ws, rfl, _, h⟩ := VRs.inv h; obtain rfl := VRs.inv0 h; exact BindsTo.of_eq (H v0)
theorem bt2 {fd : FuncData} {names : List Str} {a0 a1 : AV} (H : ∀ v0 v1, bindArgs fd ⟨[v0, v1], []⟩ = pure (names.zip [v0, v1])) : ∀ s vs, VRs [a0, a1] vs → BindsTo s fd ⟨vs, []⟩ (names.zip vs) := by intro s vs h; obtain ⟨v0, ws, rfl, _, h⟩ := VRs.inv h; obtain ⟨v1, ws, rfl, _, h⟩ := VRs.inv h; obtain rfl := VRs.inv0 h; exact BindsTo.of_eq (H v0 v1)
theorem bt3 {fd : FuncData} {names : List Str} {a0 a1 a2 : AV} (H : ∀ v0 v1 v2, bindArgs fd ⟨[v0, v1, v2], []⟩ = pure (names.zip [v0, v1, v2])) : ∀ s vs, VRs [a0, a1, a2] vs → BindsTo s fd ⟨vs, []⟩ (names.zip vs) := by intro s vs h; obtain ⟨v0, ws, rfl, _, h⟩ := VRs.inv h; obtain ⟨v1, ws, rfl, _, h⟩ := VRs.inv h; obtain ⟨v2, ws, rfl, _, h⟩ := VRs.inv h; obtain rfl := VRs.inv0 h; exact BindsTo.of_eq (H v0 v1 v2)
theorem bt4 {fd : FuncData} {names : List Str} {a0 a1 a2 a3 : AV} (H : ∀ v0 v1 v2 v3, bindArgs fd ⟨[v0, v1, v2, v3], []⟩ = pure (names.zip [v0, v1, v2, v3])) : ∀ s vs, VRs [a0, a1, a2, a3] vs → BindsTo s fd ⟨vs, []⟩ (names.zip vs) := by intro s vs h; obtain ⟨v0, ws, rfl, _, h⟩ := VRs.inv h; obtain ⟨v1, ws, rfl, _, h⟩ := VRs.inv h; obtain ⟨v2, ws, rfl, _, h⟩ := VRs.inv h; obtain ⟨v3, ws, rfl, _, h⟩ := VRs.inv h; obtain rfl := VRs.inv0 h; exact BindsTo.of_eq (H v0 v1 v2 v3)
theorem bt5 {fd : FuncData} {names : List Str} {a0 a1 a2 a3 a4 : AV} (H : ∀ v0 v1 v2 v3 v4, bindArgs fd ⟨[v0, v1, v2, v3, v4], []⟩ = pure (names.zip [v0, v1, v2, v3, v4])) : ∀ s vs, VRs [a0, a1, a2, a3, a4] vs → BindsTo s fd ⟨vs, []⟩ (names.zip vs) := by intro s vs h; obtain ⟨v0, ws, rfl, _, h⟩ := VRs.inv h; obtain ⟨v1, ws, rfl, _, h⟩ := VRs.inv h; obtain ⟨v2, ws, rfl, _, h⟩ := VRs.inv h; obtain ⟨v3, ws, rfl, _, h⟩ := VRs.inv h; obtain ⟨v4, ws, rfl, _, h⟩ := VRs.inv h; obtain rfl := VRs.inv0 h; exact BindsTo.of_eq (H v0 v1 v2 v3 v4)
theorem bt7 {fd : FuncData} {names : List Str} {a0 a1 a2 a3 a4 a5 a6 : AV} (H : ∀ v0 v1 v2 v3 v4 v5 v6, bindArgs fd ⟨[v0, v1, v2, v3, v4, v5, v6], []⟩ = pure (names.zip [v0, v1, v2, v3, v4, v5, v6])) : ∀ s vs, VRs [a0, a1, a2, a3, a4, a5, a6] vs → BindsTo s fd ⟨vs, []⟩ (names.zip vs) := by intro s vs h; obtain ⟨v0, ws, rfl, _, h⟩ := VRs.inv h; obtain ⟨v1, ws, rfl, _, h⟩ := VRs.inv h; obtain ⟨v2, ws, rfl, _, h⟩ := VRs.inv h; obtain ⟨v3, ws, rfl, _, h⟩ := VRs.inv h; obtain ⟨v4, ws, rfl, _, h⟩ := VRs.inv h; obtain ⟨v5, ws, rfl, _, h⟩ := VRs.inv h; obtain ⟨v6, ws, rfl, _, h⟩ := VRs.inv h; obtain rfl := VRs.inv0 h; exact BindsTo.of_eq (H v0 v1 v2 v3 v4 v5 v6)
noncomputable def onN (fl : Fl) (p q : Prop) : Prop := match fl with | .next => p | _ => q
noncomputable def onB (b : Bool) (p q : Prop) : Prop := match b with | true => p | false => q
noncomputable def onL (fl : Fl) (p q : Prop) (r : AV → Prop) : Prop := match fl with | .next => p | .cont => p | .brk => q | .ret a => r a
section
variable {p q : Prop} {b : Bool} {a : AV} {r : AV → Prop}
theorem onN_n (h : p) : onN .next p q := h
theorem onN_r (h : q) : onN (.ret a) p q := h
theorem onN_c (h : q) : onN .cont p q := h
theorem onL_n (h : p) : onL .next p q r := h
theorem onL_c (h : p) : onL .cont p q r := h
theorem onL_r (h : r a) : onL (.ret a) p q r := h
theorem onB_t (e : b = true) (h : p) : onB b p q := e ▸ h
theorem onB_f (e : b = false) (h : q) : onB b p q := e ▸ h
theorem onB_s (h : b = true → p) (h' : b = false → q) : onB b p q := by cases b with | true => exact h rfl | false => exact h' rfl
end
section
variable {G : Gr} {n : Nat} {L L' : Led} {E : Env} {pos p1 p2 np : Pos}
theorem Cons' {st : Stmt} {rest : List Stmt} {K : Fl → Led → Prop} (h : Cf G n L (exec st E) fun fl L1 => onN fl (Cf G n L1 (execs rest E) K) (K fl L1)) : Cf G n L (execs (st :: rest) E) K := Cons_ (h.mono fun fl L1 k => by cases fl <;> exact k)
theorem If' {test : Expr} {body orelse : List Stmt} {K : Fl → Led → Prop} (h : Tt G n E L test fun b L1 => onB b (Cf G n L1 (execs body E) K) (Cf G n L1 (execs orelse E) K)) :
    Cf G n L (exec (.If test body orelse pos) E) K := If_ (h.mono fun b L1 k => by cases b <;> exact k)
theorem AndCons' {x : Expr} {xs : List Expr} {K : Bool → Led → Prop} (h : Tt G n E L x fun b L1 => onB b (Cb G n L1 (allTrue .And xs E) K) (K false L1)) : Cb G n L (allTrue .And (x :: xs) E) K := AndCons_ (h.mono fun b L1 k => by cases b <;> exact k)
theorem OrCons' {x : Expr} {xs : List Expr} {K : Bool → Led → Prop} (h : Tt G n E L x fun b L1 => onB b (K true L1) (Cb G n L1 (allTrue .Or xs E) K)) : Cb G n L (allTrue .Or (x :: xs) E) K := OrCons_ (h.mono fun b L1 k => by cases b <;> exact k)
theorem Try' {body orelse : List Stmt} {handlers : List ExceptHandler} {K : Fl → Led → Prop} (h : Cf G n L (execs body E) fun fl L1 => onN fl (Cf G n L1 (execs orelse E) K) (K fl L1)) : Cf G n L (exec (.Try body handlers orelse [] pos) E) K := Try_ (h.mono fun fl L1 k => by cases fl <;> exact k)
theorem Fstep' {target : Expr} {body orelse : List Stmt} {it : Addr} {K : Fl → Led → Prop} {a : AV} {L1 : Led}
    (hn : C OptR G n L (pyNext (.ref it)) fun y L' => y = some a ∧ L' = L1)
    (h : ∀ v, VR a v → Cu G n L1 (letOwnedTupleGo target (.ref it) v) fun ζ L2 => Cu G n L2 (assign target E v) fun ζ L3 => Cf G n L3 (execs body E) fun fl L4 => onL fl (Cl G n L4 (.forLoop target (.ref it) body orelse E) K) (K .next L4) fun a => K (.ret a) L4) :
    Cl G n L (.forLoop target (.ref it) body orelse E) K := by
  refine Fstep_ (hn.mono fun y L' e => ?_)
  obtain ⟨rfl, rfl⟩ := e
  exact fun v hv => (h v hv).mono fun ζ L2 k => k.mono fun ζ L3 k => k.mono fun fl L4 k => by cases fl <;> exact k
theorem Fend' {target : Expr} {body orelse : List Stmt} {it : Addr} {K : Fl → Led → Prop} {L1 : Led}
    (hn : C OptR G n L (pyNext (.ref it)) fun y L' => y = none ∧ L' = L1) (h : Cf G n L1 (execs orelse E) K) :
    Cl G n L (.forLoop target (.ref it) body orelse E) K := by
  refine Fstep_ (hn.mono fun y L' e => ?_)
  obtain ⟨rfl, rfl⟩ := e
  exact h
theorem Wstep' {test : Expr} {body orelse : List Stmt} {K : Fl → Led → Prop}
    (h : Tt G n E L test fun b L1 => onB b (Cf G n L1 (execs body E) fun fl L2 => onL fl (Cl G n L2 (.whileLoop test body orelse E) K) (K .next L2) fun a => K (.ret a) L2) (Cf G n L1 (execs orelse E) K)) :
    Cl G n L (.whileLoop test body orelse E) K := by
  refine Wstep_ (h.mono fun b L1 k => ?_)
  cases b with
  | true => exact k.mono fun fl L2 k => by cases fl <;> exact k
  | false => exact k
inductive IntsOf : List AV → List Int → Prop
  | nil : IntsOf [] []
  | cons {k xs ns} : IntsOf xs ns → IntsOf (.int k :: xs) (k :: ns)
theorem IntsOf.eq {xs ns} (h : IntsOf xs ns) : xs = ns.map .int := by induction h with | nil => rfl | cons _ ih => simp [ih]
theorem bytesL' {a : Addr} {xs : List AV} {ns : List Int} {vs : List Value} {K : AV → Led → Prop} (hv : VRs [.con (.ref a)] vs) (hl : (a, AObj.list xs) ∈ L) (hx : IntsOf xs ns) (hr : ∀ k ∈ ns, 0 ≤ k ∧ k < 256) (hz : ns.length ≤ 1000000) (h : K (.bytes (ns.map fun k => k.toNat.toUInt8)) L) : Cv G n L (call (.type "bytes") ([] ++ vs)) K := by
  obtain rfl := hx.eq
  exact bytesL_ hv hl hr hz h
theorem List' {elts : List Expr} {K : AV → Led → Prop} (h : Args G n E pos L elts fun as L1 => as.length = elts.length ∧ ∀ p, K (.con (.ref p)) ((p, .list as) :: L1)) (hz : elts.length ≤ 1000000) : Cv G n L (eval (.List elts pos) E) K := List_ hz h
theorem Tuple' {elts : List Expr} {k : Nat} {K : AV → Led → Prop} (h : Args G n E pos L elts fun as L1 => as.length = elts.length ∧ ∀ p, K (.con (.ref p)) ((p, .tuple as) :: L1)) (hz : elts.length ≤ 1000000) : Cv G n L (eval (.Tuple elts k pos) E) K := Tuple_ hz h
theorem GInt_ {x : Str} {i : Int} {K : AV → Led → Prop} (hx : ∃ t, nsIn (kk.heap_1 G.w.params) mainGlobals x = some (some (.int i t))) (h : K (.int i) L) (hi : E.kindOf x = some .globalImplicit)
    (e1 : E.globals = mainGlobals := by rfl) (hk : E.scope.kind = .function := by rfl) (hd : (x == ("__debug__" : Str)) = false := by decide +kernel) : Cv G n L (eval (.Name x pos) E) K := by
  obtain ⟨t, hx⟩ := hx
  refine Mine.C.leaf ?_
  intro A s hA hS
  have e := mg_of G.X G.hmg hx
  have hns : s.heap.Ns mainGlobals G.mg := by
    obtain ⟨o, es, ep, ho, r⟩ := G.hmg
    exact ⟨o, es, ep, hS.kept _ _ ho, r⟩
  exact Name_function_global hk hi (loadGlobal_global (by rw [e1]; exact hns) e ⟨AV.int i, L, ⟨t, rfl⟩, hS, h⟩) hd
theorem GBytes_ {x : Str} {b : List UInt8} {K : AV → Led → Prop} (hx : ∃ t, nsIn (kk.heap_1 G.w.params) mainGlobals x = some (some (.bytes b.toArray t))) (h : K (.bytes b) L) (hi : E.kindOf x = some .globalImplicit)
    (e1 : E.globals = mainGlobals := by rfl) (hk : E.scope.kind = .function := by rfl) (hd : (x == ("__debug__" : Str)) = false := by decide +kernel) : Cv G n L (eval (.Name x pos) E) K := by
  obtain ⟨t, hx⟩ := hx
  refine Mine.C.leaf ?_
  intro A s hA hS
  have e := mg_of G.X G.hmg hx
  have hns : s.heap.Ns mainGlobals G.mg := by
    obtain ⟨o, es, ep, ho, r⟩ := G.hmg
    exact ⟨o, es, ep, hS.kept _ _ ho, r⟩
  exact Name_function_global hk hi (loadGlobal_global (by rw [e1]; exact hns) e ⟨AV.bytes b, L, ⟨t, rfl⟩, hS, h⟩) hd
theorem Cc.pick {f : Value} {vs : List Value} {K : AV → Led → Prop} (hs : Pick L' L) (h : Cc G n L' f vs K) : Cc G n L f vs K := fun A s hA hS => h A s hA (hS.pick hs)
theorem Cc.up {m : Nat} {f : Value} {vs : List Value} {K : AV → Led → Prop} (h : Cc G m L f vs K) (hm : m ≤ n) : Cc G n L f vs K := fun A s hA hS => h A s (hA.le hm) hS
theorem Call' {f : Addr} {fd : FuncData} {body : List Stmt} {names rest : List Str} {as : List AV} {vs : List Value} {K : AV → Led → Prop} (hn : 1 ≤ n) (hvs : VRs as vs)
    (hf : FnAt f fd) (hbody : fd.body = .stmts body) (hcd : ∀ P, codeIn (kk.heap_1 P) fd.code fd.qualname = true)
    (hbind : ∀ s vs, VRs as vs → BindsTo s fd ⟨vs, []⟩ (names.zip vs)) (hlen : names.length = as.length)
    (hloc : ((names ++ rest).all fun x => fd.scope.names.lookup x == some .local) = true) (hnd : (names ++ rest).Nodup) (hcell : (fd.scope.names.all fun x => x.2 != .cell) = true)
    (hco : (!fd.scope.isCoroutine && !fd.scope.isGenerator && fd.scope.kind == .function) = true)
    (h : ∀ p, Cf G (n - 1) ((p, .ns fd.scope (kvsOf names as rest)) :: L) (execs body (callEnv fd p f)) fun fl L1 => ∃ L2, Pick L2 L1 ∧ K fl.val L2) : Cc G n L (.ref f) vs K := by
  obtain ⟨m, rfl⟩ : ∃ m, n = m + 1 := ⟨n - 1, by lia⟩
  exact Call_ hvs hf hbody hcd hbind hlen hloc hnd hcell hco h
theorem Make' {C fI : Addr} {vs : List Value} {K : AV → Led → Prop} (hn : 1 ≤ n) (hm : ∀ P, makesIn (kk.heap_1 P) C = true) (hi : ∀ P, findIn (kk.heap_1 P) (.ref C) "__init__" = some (some (.ref fI))) (hf : ∀ P, typeIn (kk.heap_1 P) (.ref fI) = some (.type "function"))
    (h : ∀ x, Cc G (n - 1) ((x, .inst C []) :: L) (.ref fI) (.ref x :: vs) fun a L1 => a = .none ∧ K (.con (.ref x)) L1) : Cc G n L (.ref C) vs K := by
  obtain ⟨m, rfl⟩ : ∃ m, n = m + 1 := ⟨n - 1, by lia⟩
  exact Make_ hm hi hf h
end
end Mine
end
section
open PySem PySem.W PySem.Calls PyProof.Rows PySem.Spec
set_option Elab.async false
set_option linter.unusedVariables false
set_option maxRecDepth 100000
namespace Mine
theorem VR_ref (x : Addr) : VR (.con (.ref x)) (.ref x) := rfl
theorem hand_r {a : Addr} : ∀ v, VR (.con (.ref a)) v → handedIn v = true := by rintro v rfl; rfl
theorem hand_i {i : Int} : ∀ v, VR (.int i) v → handedIn v = true := by rintro v ⟨t, rfl⟩; rfl
theorem hand_b {b : List UInt8} : ∀ v, VR (.bytes b) v → handedIn v = true := by rintro v ⟨t, rfl⟩; rfl
theorem hand_t {b : Bool} : ∀ v, VR (.bool b) v → handedIn v = true := by rintro v rfl; rfl
theorem hand_n : ∀ v, VR .none v → handedIn v = true := by rintro v rfl; rfl
noncomputable def fb : Bool → UInt8
  | true => (Int.toNat 1).toUInt8
  | false => (Int.toNat 0).toUInt8
noncomputable def mb : Option (List UInt8) → List UInt8
  | none => [fb false]
  | some b => [fb true] ++ [b.length.toUInt8] ++ b
theorem mb_len_n : (mb none).length = 1 := rfl
theorem mb_len_s {o : List UInt8} : (mb (some o)).length = o.length + 2 := by simp [mb]
noncomputable def rep (code : Int) (old : Option (List UInt8)) : List UInt8 := [code.toNat.toUInt8] ++ mb old
noncomputable def ses (last : Int) (op : Bool) (reply : List UInt8) : List UInt8 := [last.toNat.toUInt8] ++ [fb op] ++ [reply.length.toUInt8] ++ reply
noncomputable def skey (c : Int) : List UInt8 := if c = 5 then [115, 0, 0, 0, 0, 0, 0, 0, 5] else [115, 0, 0, 0, 0, 0, 0, 1, 44]
noncomputable def cvb (c : Int) : List UInt8 := if c = 5 then [5] else [172, 2]
theorem skey_len (c : Int) : (skey c).length = 9 := by unfold skey; split <;> rfl
theorem rep_len_n {c : Int} : (rep c none).length = 2 := rfl
theorem rep_len_s {c : Int} {o : List UInt8} : (rep c (some o)).length = o.length + 3 := by simp [rep, mb]
theorem ses_len {l : Int} {op : Bool} {r : List UInt8} : (ses l op r).length = r.length + 3 := by simp [ses]
noncomputable abbrev opt : Option (List UInt8) → AV
  | none => .none
  | some b => .bytes b
theorem hand_o {b : Option (List UInt8)} : ∀ v, VR (opt b) v → handedIn v = true := by
  cases b with
  | none => exact hand_n
  | some b => exact hand_b
section
variable {G : Gr} {n : Nat} {L L' : Led} {E : Env} {pos p1 p2 np : Pos}
section sInts
variable {a b : Int} {v w : Value} {K : AV → Led → Prop} (hv : VR (.int a) v) (hw : VR (.int b) w)
include hv hw
theorem iorI_ (h : K (.int (Builtin.bitOr a b)) L) : Cv G n L (inplaceOp .BitOr v w) K := by
  refine Mine.C.leaf ?_
  intro A s hA hS; obtain ⟨t, rfl⟩ := hv; obtain ⟨u, rfl⟩ := hw
  with_reducible refine ior_int ?_
  exact ⟨AV.int _, L, ⟨_, rfl⟩, hS.toks _, h⟩
theorem ishrI_ (hb : 0 ≤ b) (h : K (.int (a.fdiv (2 ^ b.toNat))) L) : Cv G n L (inplaceOp .RShift v w) K := by
  refine Mine.C.leaf ?_
  intro A s hA hS; obtain ⟨t, rfl⟩ := hv; obtain ⟨u, rfl⟩ := hw
  with_reducible refine irshift_int hb ?_
  exact ⟨AV.int _, L, ⟨_, rfl⟩, hS.toks _, h⟩
end sInts
inductive Snoc {α : Type} (p : α) : List α → List α → Prop
  | nil : Snoc p [] [p]
  | cons {q : α} {r r' : List α} : Snoc p r r' → Snoc p (q :: r) (q :: r')
theorem Snoc.eq {α : Type} {p : α} {r r' : List α} (h : Snoc p r r') : r' = r ++ [p] := by
  induction h with
  | nil => rfl
  | cons _ ih => rw [ih]; rfl
theorem setNew' {x C : Addr} {name : Str} {a : AV} {fs fs' : List (Str × AV)} {v w : Value} {K : Unit → Led → Prop} (hv : VR (.con (.ref x)) v) (hw : VR a w) (hl : (x, AObj.inst C fs) ∈ L) (hs : Snoc (name, a) fs fs') (U : Up x (.inst C fs) (.inst C fs') L L')
    (hn : (fs.all fun p => !(p.1 == name)) = true) (hz : fs.length ≤ 50) (hc : ∀ P, stOk P C name) (h : K () L') : Cu G n L (setAttr v name w) K := by
  obtain rfl := hs.eq
  exact setNew_ hv hw U hn hz hc h
theorem copyL_ {x : Addr} {xs : List AV} {vs : List Value} {K : AV → Led → Prop} (hv : VRs [.con (.ref x)] vs) (hl : (x, AObj.list xs) ∈ L) (hz : xs.length ≤ 1000000) (h : ∀ p, K (.con (.ref p)) ((p, .list xs) :: L)) : Cv G n L (call (.type "list") ([] ++ vs)) K := by
  refine Mine.C.leaf ?_
  intro A s hA hS
  obtain ⟨v, rfl, rfl⟩ := hv.one
  obtain ⟨vs, m, o, hvs⟩ := hS.list hl
  have e := hvs.length
  exact call_list_seq (hsz := by rw [sizeLine_eq, ← Array.length_toList]; lia) x (.inl rfl) o rfl rfl fun h' c' hk hD => ⟨.con (.ref s.heap.objs.size), _, rfl, hS.newAt (ao := .list xs) size_no hk rfl fun ζ => ⟨vs, c', hD, hvs⟩, h _⟩
theorem isNotNoneO_ {b : Option (List UInt8)} {v w : Value} {K : AV → Led → Prop} (hv : VR (opt b) v) (hw : VR .none w) (h : K (.bool b.isSome) L) : Cv G n L (compareOp .IsNot v w) K := by
  cases b with
  | none => exact isNotNone_ (b := true) hv hw rfl h
  | some b => exact isNotNone_ (b := false) hv hw rfl h
theorem CallG' {f : Addr} {fd : FuncData} {body : List Stmt} {names rest : List Str} {as as' : List AV} {vs : List Value} {K : AV → Led → Prop} (hn : 1 ≤ n) (hvs : VRs as vs)
    (hf : FnAt f fd) (hbody : fd.body = .stmts body) (hcd : ∀ P, codeIn (kk.heap_1 P) fd.code fd.qualname = true)
    (hbind : ∀ s, St G L s → ∃ ws, BindsTo s fd ⟨vs, []⟩ (names.zip ws) ∧ VRs as' ws) (hlen : names.length = as'.length)
    (hloc : ((names ++ rest).all fun x => fd.scope.names.lookup x == some .local) = true) (hnd : (names ++ rest).Nodup) (hcell : (fd.scope.names.all fun x => x.2 != .cell) = true)
    (hco : (!fd.scope.isCoroutine && !fd.scope.isGenerator && fd.scope.kind == .function) = true)
    (h : ∀ p, Cf G (n - 1) ((p, .ns fd.scope (kvsOf names as' rest)) :: L) (execs body (callEnv fd p f)) fun fl L1 => ∃ L2, Pick L2 L1 ∧ K fl.val L2) : Cc G n L (.ref f) vs K := by
  obtain ⟨m, rfl⟩ : ∃ m, n = m + 1 := ⟨n - 1, by lia⟩
  exact CallG hvs hf hbody hcd hbind hlen hloc hnd hcell hco h
theorem lt_of_get {α : Type} {b : List α} {a : Int} {c : α} (h0 : 0 ≤ a) (hx : b[a.toNat]? = some c) : a < b.length := by
  have := (List.getElem?_eq_some_iff.mp hx).1
  lia
theorem itemB' {b : List UInt8} {i : Int} {c : UInt8} {value slice : Expr} {v w : Value} {K : AV → Led → Prop} (hv : VR (.bytes b) v) (hw : VR (.int i) w) (h0 : 0 ≤ i) (hx : b[i.toNat]? = some c) (hz : b.length ≤ 1000000) (h : K (.int c.toNat) L)
    (hs : ∀ o i, subscripted slice false o i = operate [o, i] (getItem o i) := by intro ζ ζ; rfl) : Cs G n L value slice v w K := by
  refine itemB_ hv hw h0 (lt_of_get h0 hx) hz ?_ hs
  have e : b.getD i.toNat 0 = c := by rw [List.getD_eq_getElem?_getD, hx]; rfl
  rw [e]; exact h
theorem clip_in {len : Nat} {i : Int} (h0 : 0 ≤ i) (h1 : i ≤ len) : clipAt len i = i.toNat := by
  unfold clipAt
  rw [if_neg (by lia)]
  lia
theorem sliceB' {b out : List UInt8} {lo hi : Int} {value : Expr} {lower upper : Option Expr} {v lv uv : Value} {K : AV → Led → Prop} (hv : VR (.bytes b) v) (hl : VR (.int lo) lv) (hu : VR (.int hi) uv) (h0 : 0 ≤ lo) (h1 : lo ≤ hi) (h2 : hi ≤ b.length)
    (hz : b.length ≤ 1000000) (ho : (b.drop lo.toNat).take (hi.toNat - lo.toNat) = out) (h : K (.bytes out) L) :
    ∀ A s, Rm n A → St G L s → wpAny (model G.prog G.w) A (subscriptTail value (.Slice lower upper none p1) v (.ref s.heap.objs.size)) (fun x s' => ∃ y L', VR y x ∧ St G L' s' ∧ K y L') (fun ζ ζ => False) { s with heap := s.heap.push { cls := .type "slice", data := .fields #[lv, uv, .none] } } := by
  refine @sliceB_ G n L p1 b (some lo) (some hi) _ _ value (.Name "x" p1) (.Name "x" p1) lower upper v lv uv K hv hl hu rfl rfl hz ?_
  simp only [Option.elim]
  rw [clip_in h0 (by lia), clip_in (by lia) h2, ho]
  exact h
theorem sliceBf {b out : List UInt8} {lo : Int} {value : Expr} {lower upper : Option Expr} {v lv uv : Value} {K : AV → Led → Prop} (hv : VR (.bytes b) v) (hl : VR (.int lo) lv) (hu : VR .none uv) (h0 : 0 ≤ lo) (h1 : lo ≤ b.length)
    (hz : b.length ≤ 1000000) (ho : b.drop lo.toNat = out) (h : K (.bytes out) L) :
    ∀ A s, Rm n A → St G L s → wpAny (model G.prog G.w) A (subscriptTail value (.Slice lower upper none p1) v (.ref s.heap.objs.size)) (fun x s' => ∃ y L', VR y x ∧ St G L' s' ∧ K y L') (fun ζ ζ => False) { s with heap := s.heap.push { cls := .type "slice", data := .fields #[lv, uv, .none] } } := by
  refine @sliceB_ G n L p1 b (some lo) none _ _ value (.Name "x" p1) (.Name "x" p1) lower upper v lv uv K hv hl hu rfl rfl hz ?_
  simp only [Option.elim]
  rw [clip_in h0 h1, List.take_of_length_le (by simp), ho]
  exact h
theorem nextRi {it : Addr} {x left : Int} {Li : Led} (hl : 0 < left) : C OptR G n ((it, .riter x left) :: Li) (pyNext (.ref it)) fun y L' => y = some (.int x) ∧ L' = (it, .riter (x + 1) (left - 1)) :: Li := by
  refine Mine.C.leaf ?_
  intro A s hA hS
  obtain ⟨d, hit⟩ := hS.at (.head _)
  exact wpAny_pyNext_range_item hit (by lia) fun h' hit' hs => ⟨some (.int x), (it, .riter (x + 1) (left - 1)) :: Li, ⟨_, rfl, _, rfl⟩, (hS.upd (s' := { s with heap := h' }) (b := it) (o' := .riter (x + 1) (left - 1)) .head rfl rfl rfl (fun c ob hc e => (hs.2 c hc).trans e) fun d ζ => ⟨.inr rfl, fun q => absurd rfl q, fun ζ => hit'⟩).toks _, rfl, rfl⟩
theorem nextRe {it : Addr} {x left : Int} {Li : Led} (hl : left ≤ 0) : C OptR G n ((it, .riter x left) :: Li) (pyNext (.ref it)) fun y L' => y = none ∧ L' = Li := by
  refine Mine.C.leaf ?_
  intro A s hA hS
  obtain ⟨d, hit⟩ := hS.at (.head _)
  exact wpAny_pyNext_range_end hA.1 hit (by lia) fun h' hs => ⟨none, Li, rfl, hS.ext1 rfl rfl rfl fun c ob hc e => hs c ob hc e, rfl, rfl⟩
noncomputable abbrev Turn (G : Gr) (n : Nat) (E : Env) (target : Expr) (it : Addr) (body orelse : List Stmt) (a : AV) (L1 : Led) (K : Fl → Led → Prop) : Prop :=
  ∀ v, VR a v → Cu G n L1 (letOwnedTupleGo target (.ref it) v) fun ζ L2 => Cu G n L2 (assign target E v) fun ζ L3 => Cf G n L3 (execs body E) fun fl L4 => onL fl (Cl G n L4 (.forLoop target (.ref it) body orelse E) K) (K .next L4) fun a => K (.ret a) L4
theorem Cl.pick {c : Code} {K : Fl → Led → Prop} (hs : Pick L' L) (h : Cl G n L' c K) : Cl G n L c K := fun A s hA hS => h A s hA (hS.pick hs)
theorem FstepR {target : Expr} {body orelse : List Stmt} {it : Addr} {x left : Int} {Li : Led} {K : Fl → Led → Prop} (hs : Pick ((it, .riter x left) :: Li) L) (hl : 0 < left)
    (h : Turn G n E target it body orelse (.int x) ((it, .riter (x + 1) (left - 1)) :: Li) K) : Cl G n L (.forLoop target (.ref it) body orelse E) K := Cl.pick hs (Fstep' (nextRi hl) h)
theorem FendR {target : Expr} {body orelse : List Stmt} {it : Addr} {x left : Int} {Li : Led} {K : Fl → Led → Prop} (hs : Pick ((it, .riter x left) :: Li) L) (hl : left ≤ 0)
    (h : Cf G n Li (execs orelse E) K) : Cl G n L (.forLoop target (.ref it) body orelse E) K := Cl.pick hs (Fend' (nextRe hl) h)
theorem FstepL {target : Expr} {body orelse : List Stmt} {it l : Addr} {xs : List AV} {i : Nat} {a : AV} {Li : Led} {K : Fl → Led → Prop} (hs : Pick ((it, .liter l i) :: Li) L) (hl : (l, AObj.list xs) ∈ Li) (hx : xs[i]? = some a)
    (h : Turn G n E target it body orelse a ((it, .liter l (i + 1)) :: Li) K) : Cl G n L (.forLoop target (.ref it) body orelse E) K := by
  have := nextL_ (G := G) (n := n) (it := it) (i := i) hl
  rw [hx] at this
  exact Cl.pick hs (Fstep' this h)
theorem FendL {target : Expr} {body orelse : List Stmt} {it l : Addr} {xs : List AV} {i : Nat} {Li : Led} {K : Fl → Led → Prop} (hs : Pick ((it, .liter l i) :: Li) L) (hl : (l, AObj.list xs) ∈ Li) (hx : xs.length ≤ i)
    (h : Cf G n Li (execs orelse E) K) : Cl G n L (.forLoop target (.ref it) body orelse E) K := by
  have := nextL_ (G := G) (n := n) (it := it) (i := i) hl
  rw [List.getElem?_eq_none hx] at this
  exact Cl.pick hs (Fend' this h)
theorem FstepB {target : Expr} {body orelse : List Stmt} {it : Addr} {b : List UInt8} {i : Nat} {c : UInt8} {Li : Led} {K : Fl → Led → Prop} (hs : Pick ((it, .biter b i) :: Li) L) (hx : b[i]? = some c)
    (h : Turn G n E target it body orelse (.int c.toNat) ((it, .biter b (i + 1)) :: Li) K) : Cl G n L (.forLoop target (.ref it) body orelse E) K := by
  have := nextB_ (G := G) (n := n) (it := it) (b := b) (i := i) (Li := Li)
  rw [List.getElem?_map, hx] at this
  exact Cl.pick hs (Fstep' this h)
theorem FendB {target : Expr} {body orelse : List Stmt} {it : Addr} {b : List UInt8} {i : Nat} {Li : Led} {K : Fl → Led → Prop} (hs : Pick ((it, .biter b i) :: Li) L) (hx : b.length ≤ i)
    (h : Cf G n Li (execs orelse E) K) : Cl G n L (.forLoop target (.ref it) body orelse E) K := by
  have := nextB_ (G := G) (n := n) (it := it) (b := b) (i := i) (Li := Li)
  rw [List.getElem?_map, List.getElem?_eq_none hx] at this
  exact Cl.pick hs (Fend' this h)
theorem AsgT2 {t : Addr} {elts : List Expr} {k : Nat} {a0 a1 : AV} {v : Value} {K : Unit → Led → Prop} (hv : VR (.con (.ref t)) v) (hl : (t, AObj.tuple [a0, a1]) ∈ L) (hn : (assignEach elts E).length = 2) (h : ∀ v0 v1, VR a0 v0 → VR a1 v1 → Ai G n E L elts [v0, v1] K)
    (hstar : (assignEach elts E).findIdx? (·.1) = none := by rfl) : Cu G n L (assign (.Tuple elts k p1) E v) K := by
  refine AsgT_ hv hl hn (fun vs hvs => ?_) hstar
  obtain ⟨v0, ws, rfl, h0, hvs⟩ := VRs.inv hvs
  obtain ⟨v1, ws, rfl, h1, hvs⟩ := VRs.inv hvs
  obtain rfl := VRs.inv0 hvs
  exact h _ _ h0 h1
theorem AsgT3 {t : Addr} {elts : List Expr} {k : Nat} {a0 a1 a2 : AV} {v : Value} {K : Unit → Led → Prop} (hv : VR (.con (.ref t)) v) (hl : (t, AObj.tuple [a0, a1, a2]) ∈ L) (hn : (assignEach elts E).length = 3) (h : ∀ v0 v1 v2, VR a0 v0 → VR a1 v1 → VR a2 v2 → Ai G n E L elts [v0, v1, v2] K)
    (hstar : (assignEach elts E).findIdx? (·.1) = none := by rfl) : Cu G n L (assign (.Tuple elts k p1) E v) K := by
  refine AsgT_ hv hl hn (fun vs hvs => ?_) hstar
  obtain ⟨v0, ws, rfl, h0, hvs⟩ := VRs.inv hvs
  obtain ⟨v1, ws, rfl, h1, hvs⟩ := VRs.inv hvs
  obtain ⟨v2, ws, rfl, h2, hvs⟩ := VRs.inv hvs
  obtain rfl := VRs.inv0 hvs
  exact h _ _ _ h0 h1 h2
theorem AsgT4 {t : Addr} {elts : List Expr} {k : Nat} {a0 a1 a2 a3 : AV} {v : Value} {K : Unit → Led → Prop} (hv : VR (.con (.ref t)) v) (hl : (t, AObj.tuple [a0, a1, a2, a3]) ∈ L) (hn : (assignEach elts E).length = 4) (h : ∀ v0 v1 v2 v3, VR a0 v0 → VR a1 v1 → VR a2 v2 → VR a3 v3 → Ai G n E L elts [v0, v1, v2, v3] K)
    (hstar : (assignEach elts E).findIdx? (·.1) = none := by rfl) : Cu G n L (assign (.Tuple elts k p1) E v) K := by
  refine AsgT_ hv hl hn (fun vs hvs => ?_) hstar
  obtain ⟨v0, ws, rfl, h0, hvs⟩ := VRs.inv hvs
  obtain ⟨v1, ws, rfl, h1, hvs⟩ := VRs.inv hvs
  obtain ⟨v2, ws, rfl, h2, hvs⟩ := VRs.inv hvs
  obtain ⟨v3, ws, rfl, h3, hvs⟩ := VRs.inv hvs
  obtain rfl := VRs.inv0 hvs
  exact h _ _ _ _ h0 h1 h2 h3
theorem AsgT6 {t : Addr} {elts : List Expr} {k : Nat} {a0 a1 a2 a3 a4 a5 : AV} {v : Value} {K : Unit → Led → Prop} (hv : VR (.con (.ref t)) v) (hl : (t, AObj.tuple [a0, a1, a2, a3, a4, a5]) ∈ L) (hn : (assignEach elts E).length = 6) (h : ∀ v0 v1 v2 v3 v4 v5, VR a0 v0 → VR a1 v1 → VR a2 v2 → VR a3 v3 → VR a4 v4 → VR a5 v5 → Ai G n E L elts [v0, v1, v2, v3, v4, v5] K)
    (hstar : (assignEach elts E).findIdx? (·.1) = none := by rfl) : Cu G n L (assign (.Tuple elts k p1) E v) K := by
  refine AsgT_ hv hl hn (fun vs hvs => ?_) hstar
  obtain ⟨v0, ws, rfl, h0, hvs⟩ := VRs.inv hvs
  obtain ⟨v1, ws, rfl, h1, hvs⟩ := VRs.inv hvs
  obtain ⟨v2, ws, rfl, h2, hvs⟩ := VRs.inv hvs
  obtain ⟨v3, ws, rfl, h3, hvs⟩ := VRs.inv hvs
  obtain ⟨v4, ws, rfl, h4, hvs⟩ := VRs.inv hvs
  obtain ⟨v5, ws, rfl, h5, hvs⟩ := VRs.inv hvs
  obtain rfl := VRs.inv0 hvs
  exact h _ _ _ _ _ _ h0 h1 h2 h3 h4 h5
end
end Mine
end
section
open PySem PySem.W PySem.Calls PyProof.Rows PySem.Spec
set_option Elab.async false
set_option linter.unusedVariables false
set_option maxRecDepth 100000
set_option maxHeartbeats 4000000
namespace Mine
theorem by_slot_lt : Slot "bytes" (cmpInfo .Lt).2.1 "bytes.__lt__" :=
  .of (owner := "bytes") (n := "__lt__") (by rw [typeLookup_type, builtinLookup_eq_fast]; kernel_rfl) (by decide +kernel) (by decide +kernel) (by decide +kernel)
    (by first | exact .inl (by decide +kernel) | exact .inr (by decide +kernel)) (by rw [isSubtype_type]; kernel_rfl)
theorem by_entry_lt : entryFor table "bytes.__lt__" = some Builtin.«bytes.__lt__» := entryFor_of_fast (by kernel_rfl)
theorem by_args_lt (a b : Value) : argsOk "bytes.__lt__" ⟨[a, b], []⟩ := by unfold argsOk; kernel_rfl
theorem by_slot_ge : Slot "bytes" (cmpInfo .GtE).2.1 "bytes.__ge__" :=
  .of (owner := "bytes") (n := "__ge__") (by rw [typeLookup_type, builtinLookup_eq_fast]; kernel_rfl) (by decide +kernel) (by decide +kernel) (by decide +kernel)
    (by first | exact .inl (by decide +kernel) | exact .inr (by decide +kernel)) (by rw [isSubtype_type]; kernel_rfl)
theorem by_entry_ge : entryFor table "bytes.__ge__" = some Builtin.«bytes.__ge__» := entryFor_of_fast (by kernel_rfl)
theorem by_args_ge (a b : Value) : argsOk "bytes.__ge__" ⟨[a, b], []⟩ := by unfold argsOk; kernel_rfl
noncomputable def nat8 (b : List UInt8) : List Nat := b.map UInt8.toNat
noncomputable def lt8 (a b : List UInt8) : Bool := decide (nat8 a < nat8 b)
theorem order_lt : ∀ a b : List UInt8, (Builtin.Bytes.order a b == .lt) = lt8 a b
  | [], [] => by simp [Builtin.Bytes.order, lt8, nat8]
  | [], _ :: _ => by simp [Builtin.Bytes.order, lt8, nat8]
  | _ :: _, [] => by simp [Builtin.Bytes.order, lt8, nat8]
  | x :: a, y :: b => by
    have ih := order_lt a b
    simp only [Builtin.Bytes.order, lt8, nat8, List.map_cons, List.cons_lt_cons_iff] at ih ⊢
    by_cases h1 : x < y
    · have : x.toNat < y.toNat := UInt8.lt_iff_toNat_lt.mp h1
      simp [h1, this]
    · have n1 : ¬ x.toNat < y.toNat := fun h => h1 (UInt8.lt_iff_toNat_lt.mpr h)
      by_cases h2 : x > y
      · have : y.toNat < x.toNat := UInt8.lt_iff_toNat_lt.mp h2
        have ne : x.toNat ≠ y.toNat := by lia
        simp [h1, h2, n1, ne]
      · have : x = y := UInt8.le_antisymm (UInt8.not_lt.mp h2) (UInt8.not_lt.mp h1)
        subst this
        apply Bool.eq_iff_iff.mpr
        have e := Bool.eq_iff_iff.mp ih
        simp only [Bool.not_eq_true, beq_iff_eq, UInt8.lt_irrefl, gt_iff_lt, if_false, Nat.lt_irrefl, false_or, true_and] at e ⊢
        exact ⟨fun h => decide_eq_true (of_decide_eq_true (e.mp h)), fun h => e.mpr (decide_eq_true (of_decide_eq_true h))⟩
section
open Builtin
theorem gives_bytes_lt (b c : Array UInt8) (t u : Tok) : Gives («bytes.__lt__» ⟨[.bytes b t, .bytes c u], []⟩) (.val (.bool (lt8 b.toList c.toList))) := by
  refine .of_wp fun M A E s Q hq => ?_
  show wpAny M A (isInstance (.bytes c u) (.type "bytes") >>= fun r => _) _ E s
  refine wpAny_bind (wpAny_isInstance (typeIs_bytes s c u) F.sub_bytes_bytes ?_)
  exact wpAny_pure ⟨_, rfl, by rw [← order_lt] at hq; exact hq⟩
theorem gives_bytes_ge (b c : Array UInt8) (t u : Tok) : Gives («bytes.__ge__» ⟨[.bytes b t, .bytes c u], []⟩) (.val (.bool (!lt8 b.toList c.toList))) := by
  refine .of_wp fun M A E s Q hq => ?_
  show wpAny M A (isInstance (.bytes c u) (.type "bytes") >>= fun r => _) _ E s
  refine wpAny_bind (wpAny_isInstance (typeIs_bytes s c u) F.sub_bytes_bytes ?_)
  exact wpAny_pure ⟨_, rfl, by rw [← order_lt] at hq; exact hq⟩
end
@[reducible] noncomputable def byKind : KeyKind where
  α := List Nat
  blt a b := decide (a < b)
  irrefl a := by simp
  trans a b c h1 h2 := by simp only [decide_eq_true_eq] at *; exact List.lt_trans h1 h2
  negTrans a b c h := by
    simp only [decide_eq_true_eq] at *
    by_cases hab : a < b
    · exact .inl hab
    · exact .inr (List.lt_of_le_of_lt (List.not_lt.mp hab) h)
  total a b h1 h2 := by simp only [decide_eq_false_iff_not] at *; exact List.le_antisymm (List.not_lt.mp h2) (List.not_lt.mp h1)
  keyOf v := match v with | .bytes x _ => some (nat8 x.toList) | _ => none
  dflt := []
section
variable {prog : Program} {w : World} {A : Around} {E : Value → Shared → Prop} {s : Shared}
theorem call_bytes_lt {a b : Array UInt8} {t u : Tok} {Q : Value → Shared → Prop} (h : Q (.bool (lt8 a.toList b.toList)) s) : wpAny (model prog w) A (call (.builtin "bytes.__lt__") [.bytes a t, .bytes b u]) Q E s := by
  refine wpAny_call_entry by_slot_lt (typeIs_bytes s a t) by_entry_lt ?_ (by_args_lt _ _)
  unfold Builtin.«bytes.__lt__»
  show wpAny _ _ (isInstance (.bytes b u) (.type "bytes") >>= fun r => _) _ _ s
  refine wpAny_bind (wpAny_isInstance (typeIs_bytes s b u) F.sub_bytes_bytes ?_)
  exact wpAny_pure ⟨_, rfl, by rw [← order_lt] at h; exact h⟩
theorem oneLt_bytes {a b : Array UInt8} {t u : Tok} {Q : Bool → Shared → Prop} (h : Q (lt8 a.toList b.toList) s) : wpAny (model prog w) A (oneLt' true (.bytes a t) (.bytes b u)) Q E s := by
  rw [oneLt'_eq]
  simp only [if_true]
  refine wpAny_bind (wpAny_cRoomFor_byValue rfl ?_)
  refine wpAny_bind (wpAny_callSpecialIfBound?_slot (typeIs_bytes s a t) by_slot_lt (call_bytes_lt ?_))
  exact wpAny_truthy_bool h
end
theorem byKind_oneLt : byKind.OneLt := by
  intro prog w A E s x y a b Q ha hb h
  cases x <;> simp only [byKind, reduceCtorEq, Option.some.injEq] at ha
  cases y <;> simp only [byKind, reduceCtorEq, Option.some.injEq] at hb
  cases ha; cases hb
  exact oneLt_bytes h
inductive BysAre : List Value → List (List UInt8) → Prop
  | nil : BysAre [] []
  | cons {vs bs} (b : List UInt8) (t : Tok) : BysAre vs bs → BysAre (.bytes b.toArray t :: vs) (b :: bs)
noncomputable def byOf : Value → List UInt8
  | .bytes x _ => x.toList
  | _ => []
theorem BysAre.all : ∀ {vs : List Value} {bs : List (List UInt8)}, BysAre vs bs → ∀ v, v ∈ vs → ∃ x t, v = .bytes x t
  | _, _, .nil, v, hv => by simp at hv
  | _, _, .cons x t h, v, hv => by
    rcases List.mem_cons.mp hv with rfl | hv
    · exact ⟨_, t, rfl⟩
    · exact h.all v hv
theorem BysAre.bys : ∀ {vs : List Value} {bs : List (List UInt8)}, BysAre vs bs → vs.map byOf = bs
  | _, _, .nil => rfl
  | _, _, .cons x t h => by rw [List.map_cons, h.bys]; simp [byOf]
theorem BysAre.vrs : ∀ {vs : List Value} {bs : List (List UInt8)}, BysAre vs bs → VRs (bs.map .bytes) vs
  | _, _, .nil => .nil
  | _, _, .cons x t h => .cons ⟨t, rfl⟩ h.vrs
theorem bysAre_map : ∀ (vs : List Value), (∀ v, v ∈ vs → ∃ x t, v = .bytes x t) → BysAre vs (vs.map byOf)
  | [], _ => .nil
  | v :: vs, h => by
    obtain ⟨x, t, rfl⟩ := h v (List.mem_cons_self ..)
    exact .cons x.toList t (bysAre_map vs fun u hu => h u (List.mem_cons_of_mem _ hu))
theorem mapM_first_bys : ∀ {vs : List Value} {bs : List (List UInt8)}, BysAre vs bs → vs.mapM firstOfTuple' = pure (vs.map fun ζ => none)
  | _, _, .nil => by simp
  | _, _, .cons x t h => by rw [List.mapM_cons, show firstOfTuple' (.bytes x.toArray t) = pure none from rfl, mapM_first_bys h]; simp
theorem mapM_typeOf_bys : ∀ {vs : List Value} {bs : List (List UInt8)}, BysAre vs bs → vs.mapM typeOf = pure (vs.map fun ζ => Value.type "bytes")
  | _, _, .nil => by simp
  | _, _, .cons x t h => by
    rw [List.mapM_cons, mapM_typeOf_bys h]
    show (pure (Value.type "bytes") >>= fun b => pure _ >>= fun bs => pure (b :: bs)) = _
    simp
theorem keyKind_bys {v₁ v₂ : Value} {vs : List Value} {bs : List (List UInt8)} (hS : BysAre (v₁ :: v₂ :: vs) bs) : keyKind' (v₁ :: v₂ :: vs).toArray = pure oneType' := by
  rw [keyKind'_eq, List.mapM_toArray, mapM_first_bys hS]
  simp only [map_pure, pure_bind]
  rw [if_neg (by simp), if_neg (by simp)]
  rw [oneTypeOnly'_eq, List.mapM_toArray, mapM_typeOf_bys hS]
  simp only [map_pure, pure_bind]
  have hall : ((List.map (fun ζ => Value.type "bytes") (v₁ :: v₂ :: vs)).toArray.all fun x => x == Value.type "bytes") = true := by
    simp only [List.all_toArray, List.all_map, List.all_eq_true]
    intro ζ ζ
    rfl
  have h0 : (List.map (fun ζ => Value.type "bytes") (v₁ :: v₂ :: vs)).toArray[0]? = some (Value.type "bytes") := by simp
  rw [h0]
  simp only [hall, if_true, pure_bind, Option.isSome_some]
theorem KK_by {xs : Array Keyed} {i : Nat} (hi : i < xs.size) {x : Array UInt8} {t : Tok} {q : Value} (hx : xs[i] = (.bytes x t, q)) : KK byKind xs i = nat8 x.toList := by
  unfold KK; rw [getElem?_pos xs i hi, hx]; rfl
theorem sorted_out_by {vs : List Value} {bs : List (List UInt8)} (hS : BysAre vs bs) {xs : Array Keyed} (hp : xs.Perm (pairsOf vs)) (hs : SortedToK byKind xs (pairsOf vs).size) :
    ∃ bs', BysAre (xs.map (·.2)).toList bs' ∧ bs'.Perm bs ∧ bs'.Pairwise (fun a b => lt8 b a = false) := by
  have hl : xs.toList.Perm (vs.zip vs) := by rw [← pairsOf_toList]; exact Array.perm_iff_toList_perm.mp hp
  have hmem : ∀ p, p ∈ xs.toList → p.1 = p.2 ∧ p.1 ∈ vs := fun p hp' => mem_zip_self (hl.mem_iff.mp hp')
  refine ⟨xs.toList.map (fun p => byOf p.1), ?_, ?_, ?_⟩
  · have e : (xs.map (·.2)).toList = xs.toList.map (·.1) := by
      rw [Array.toList_map]; exact List.map_congr_left fun p hp' => (hmem p hp').1.symm
    rw [e]
    have h1 := bysAre_map (xs.toList.map (·.1)) (by
      intro v hv
      obtain ⟨p, hp', rfl⟩ := List.mem_map.mp hv
      exact hS.all _ (hmem p hp').2)
    rwa [List.map_map] at h1
  · have h1 := hl.map (fun p => byOf p.1)
    have e2 : (vs.zip vs).map (fun p => byOf p.1) = bs := by
      have : (vs.zip vs).map (fun p => byOf p.1) = ((vs.zip vs).map Prod.fst).map byOf := by rw [List.map_map]; rfl
      rw [this, List.map_fst_zip (Nat.le_refl _), hS.bys]
    rwa [e2] at h1
  · rw [List.pairwise_iff_getElem]
    intro i j hi hj hij
    have hi' : i < xs.size := by simpa using hi
    have hj' : j < xs.size := by simpa using hj
    have h1 := hs i j (Nat.le_of_lt hij) (by rw [← hp.size_eq]; exact hj')
    obtain ⟨x, t, ex⟩ := hS.all _ (hmem xs[i] (by simp)).2
    obtain ⟨y, u, ey⟩ := hS.all _ (hmem xs[j] (by simp)).2
    rw [KK_by hi' (x := x) (t := t) (q := xs[i].2) (Prod.ext ex rfl), KK_by hj' (x := y) (t := u) (q := xs[j].2) (Prod.ext ey rfl)] at h1
    change decide (nat8 y.toList < nat8 x.toList) = false at h1
    simp only [List.getElem_map, Array.getElem_toList]
    rw [show byOf xs[i].1 = x.toList by rw [ex]; rfl, show byOf xs[j].1 = y.toList by rw [ey]; rfl]
    exact h1
section
variable {G : Gr} {n : Nat} {L L' : Led} {E : Env} {pos p1 p2 np : Pos}
theorem ltB_ {a b : List UInt8} {v w : Value} {K : AV → Led → Prop} (hv : VR (.bytes a) v) (hw : VR (.bytes b) w) (h : K (.bool (lt8 a b)) L) : Cv G n L (compareOp .Lt v w) K := by
  refine Mine.C.leaf ?_
  intro A s hA hS; obtain ⟨t, rfl⟩ := hv; obtain ⟨u, rfl⟩ := hw
  exact compareOp_gives (op := .Lt) (typeIs_bytes s _ t) (typeIs_bytes s _ u) by_slot_lt by_entry_lt (by_args_lt _ _) (gives_bytes_lt _ _ t u) (fun e => nomatch e) ⟨.bool (lt8 a b), L, rfl, hS, h⟩
theorem geB_ {a b : List UInt8} {v w : Value} {K : AV → Led → Prop} (hv : VR (.bytes a) v) (hw : VR (.bytes b) w) (h : K (.bool (!lt8 a b)) L) : Cv G n L (compareOp .GtE v w) K := by
  refine Mine.C.leaf ?_
  intro A s hA hS; obtain ⟨t, rfl⟩ := hv; obtain ⟨u, rfl⟩ := hw
  exact compareOp_gives (op := .GtE) (typeIs_bytes s _ t) (typeIs_bytes s _ u) by_slot_ge by_entry_ge (by_args_ge _ _) (gives_bytes_ge _ _ t u) (fun e => nomatch e) ⟨.bool (!lt8 a b), L, rfl, hS, h⟩
theorem sortedD_ {x : Addr} {es : List (List UInt8 × AV)} {vs : List Value} {K : AV → Led → Prop} (hv : VRs [.con (.ref x)] vs) (hl : (x, AObj.bd es) ∈ L) (hz : es.length < 64)
    (h : ∀ (p : Addr) (ks : List (List UInt8)), ks.Perm (es.map (·.1)) → ks.Pairwise (fun a b => lt8 b a = false) → K (.con (.ref p)) ((p, .list (ks.map .bytes)) :: L)) : Cv G n L (call (.builtin "sorted") ([] ++ vs)) K := by
  refine Mine.C.leaf ?_
  intro A s hA hS
  obtain ⟨v, rfl, rfl⟩ := hv.one
  obtain ⟨kvs, hm, hp⟩ := hS.bd hl
  obtain ⟨ep, hat⟩ := hm.dictAt
  refine call_function_entry kind_sorted plain_sorted entry_sorted (args_sorted1 _) ?_
  unfold Builtin.«sorted»
  refine wpAny_bind (m := checkCount "sorted" 1 1 _) (wpAny_pure ?_)
  refine wpAny_bind (kdu_collect (A := A.in1) (kdl_dict (knd := bytesKind G.prog G.w) (kvs := kvs) (ep := ep) (ne_sys hS hl)) hA.1 hat (by rw [sizeLine_eq, ← hp.len]; lia) fun h' tk acc hk hacc => ?_)
  have hlen : acc.toList.length = kvs.length := by rw [Array.length_toList]; exact hacc.1
  have hB : BysAre acc.toList (kvs.map (·.1)) := by
    have hget : ∀ j v, acc.toList[j]? = some v → ∃ k x, kvs[j]? = some (k, x) ∧ (bytesKind G.prog G.w).is k v = true := fun j v e => hacc.2 j v (by rw [← Array.getElem?_toList]; exact e)
    clear hacc hk hm hp hat
    generalize acc.toList = ws at hlen hget
    induction ws generalizing kvs with
    | nil =>
      cases kvs with
      | nil => exact .nil
      | cons q r => cases hlen
    | cons w ws ih =>
      cases kvs with
      | nil => cases hlen
      | cons q r =>
        obtain ⟨k, x, e1, e2⟩ := hget 0 w rfl
        cases e1
        obtain ⟨t, rfl⟩ : ∃ t, w = .bytes k.toArray t := isBytes_shape e2
        exact .cons k t (ih r (by simpa using hlen) fun j v e => hget (j + 1) v e)
  have h64 : acc.toList.length < 64 := by rw [hlen, ← hp.len]; exact hz
  refine wpAny_bind (wpAny_newList ?_ (by rw [hlen, sizeLine_eq, ← hp.len]; lia))
  have hoL : (h'.push (seqObj "list" acc.toList.toArray 0)).get? h'.objs.size = some (seqObj "list" acc.toList.toArray 0) := Heap.get?_push_size _ rfl
  have hsz : s.heap.get? h'.objs.size = none := by
    cases q : s.heap.get? h'.objs.size with
    | none => rfl
    | some o => exact absurd (Heap.lt_size (hk _ _ q)) (Nat.lt_irrefl _)
  have keysOf : KeysOf byKind (pairsOf acc.toList) := by
    intro p hp
    rw [pairsOf_toList] at hp
    obtain ⟨x, t, e⟩ := hB.all _ (mem_zip_self hp).2
    exact ⟨nat8 x.toList, by rw [e]⟩
  refine wpAny_bind (wpAny_holding (wpAny_call_entry slot_list_sort ⟨_, hoL, rfl⟩ entry_list_sort (list_sort_treeK byKind_oneLt hoL keysOf (fun v₁ v₂ rest e => keyKind_bys (by rw [← e]; exact hB)) h64 fun st' a1 a2 => ⟨_, rfl, ?_⟩) (args_list_sort _)))
  obtain ⟨bs', b1, b2, b3⟩ := sorted_out_by hB a1 a2
  obtain ⟨e, he⟩ := sortedHeap_at (out := (arrOf st').map (·.2)) hoL
  refine wpAny_pure ⟨_, rfl, .con (.ref h'.objs.size), _, rfl, ?_, h _ bs' (by rw [← hp.keys]; exact b2) b3⟩
  refine hS.newAt hsz (fun b o e => ?_) rfl fun d => ⟨_, _, he, b1.vrs⟩
  have hb' : h'.get? b = some o := hk b o e
  have hlt : b < h'.objs.size := Heap.lt_size hb'
  have e0 := sortedHeap_old (h := h'.push (seqObj "list" acc.toList.toArray 0)) (vs := acc.toList) (out := (arrOf st').map (·.2)) (Nat.ne_of_lt hlt) (by rw [size_push']; exact Nat.lt_succ_of_lt hlt)
  exact e0.trans ((Heap.get?_push_ne _ _ _ (Nat.ne_of_lt hlt)).trans hb')
end
end Mine
end
section
open PySem PySem.W PySem.Calls PyProof.Rows PySem.Spec
set_option Elab.async false
set_option linter.unusedVariables false
set_option maxRecDepth 100000
set_option maxHeartbeats 4000000
namespace Mine
section
variable {G : Gr} {n : Nat} {L L' : Led} {E : Env} {pos p1 p2 np : Pos}
theorem AndV_ {x y : Expr} {K : AV → Led → Prop} (h : Cv G n L (eval x E) fun a L1 => ∃ b, a = .bool b ∧ onB b (Cv G n L1 (eval y E) K) (K (.bool false) L1)) : Cv G n L (eval (.BoolOp .And [x, y] pos) E) K := by
  refine C.of (t' := do
    let v ← eval x E
    standAt pos
    let c ← PySem.holding [v] (truthy v)
    match BoolOp.And, c with
    | .And, false | .Or, true => Pure.pure v
    | _, _ => eval y E) rfl ?_
  refine C.then h fun a L1 ⟨b, e, k⟩ v hv => C.at ?_
  subst e
  refine C.then (C.hold (truthyB_ (K := fun c L2 => c = b ∧ L2 = L1) hv ⟨rfl, rfl⟩)) fun c L2 ⟨e1, e2⟩ d hd => ?_
  subst e1 e2 hd
  cases c with
  | true => exact k
  | false => exact C.pure hv k
theorem ltV_int {a b : Int} {t u : Tok} : PySem.Flt.ltV (.int a t) (.int b u) = decide (a < b) := rfl
theorem minI_ {a b : Int} {vs : List Value} {K : AV → Led → Prop} (hv : VRs [.int a, .int b] vs) (h : K (.int (if b < a then b else a)) L) : Cv G n L (call (.builtin "min") ([] ++ vs)) K := by
  refine Mine.C.leaf ?_
  intro A s hA hS
  obtain ⟨v, w, rfl, ⟨t, rfl⟩, ⟨u, rfl⟩⟩ := hv.two
  refine PySem.Flt.min_two_num hA.1 (.int a t) (.int b u) fun h' tk kp => ⟨.int (if b < a then b else a), L, ?_, hS.ext (s' := { s with heap := h', toks := tk }) rfl rfl kp, h⟩
  rw [ltV_int]
  by_cases q : b < a
  · simp only [q, decide_true, if_true]; exact ⟨_, rfl⟩
  · simp only [q, decide_false, if_false, Bool.false_eq_true]; exact ⟨_, rfl⟩
theorem maxI_ {a b : Int} {vs : List Value} {K : AV → Led → Prop} (hv : VRs [.int a, .int b] vs) (h : K (.int (if a < b then b else a)) L) : Cv G n L (call (.builtin "max") ([] ++ vs)) K := by
  refine Mine.C.leaf ?_
  intro A s hA hS
  obtain ⟨v, w, rfl, ⟨t, rfl⟩, ⟨u, rfl⟩⟩ := hv.two
  refine PySem.Flt.max_two_num hA.1 (.int a t) (.int b u) fun h' tk kp => ⟨.int (if a < b then b else a), L, ?_, hS.ext (s' := { s with heap := h', toks := tk }) rfl rfl kp, h⟩
  rw [ltV_int]
  by_cases q : a < b
  · simp only [q, decide_true, if_true]; exact ⟨_, rfl⟩
  · simp only [q, decide_false, if_false, Bool.false_eq_true]; exact ⟨_, rfl⟩
theorem tupleL_ {x : Addr} {xs : List AV} {vs : List Value} {K : AV → Led → Prop} (hv : VRs [.con (.ref x)] vs) (hl : (x, AObj.list xs) ∈ L) (hz : xs.length ≤ 1000000) (h : ∀ p, K (.con (.ref p)) ((p, .tuple xs) :: L)) : Cv G n L (call (.type "tuple") ([] ++ vs)) K := by
  refine Mine.C.leaf ?_
  intro A s hA hS
  obtain ⟨v, rfl, rfl⟩ := hv.one
  obtain ⟨vs, m, o, hvs⟩ := hS.list hl
  have e := hvs.length
  refine call_tuple_list ⟨_, o, rfl, m, rfl⟩ (fun h' kp => ?_) (by rw [sizeLine_eq, ← Array.length_toList]; lia)
  have S1 : St G L { s with heap := h' } := hS.ext rfl rfl kp
  exact ⟨.con (.ref h'.objs.size), (h'.objs.size, .tuple xs) :: L, rfl, S1.alloc1 (ao := .tuple xs) rfl rfl fun d => ⟨vs, Heap.get?_push_size _ rfl, hvs⟩, h _⟩
theorem VRs.drop {as : List AV} {vs : List Value} (h : VRs as vs) : ∀ k : Nat, VRs (as.drop k) (vs.drop k) := by
  induction h with
  | nil => intro k; simp; exact .nil
  | cons hv _ ih => intro k; cases k with | zero => exact .cons hv (by assumption) | succ k => exact ih k
theorem VRs.take {as : List AV} {vs : List Value} (h : VRs as vs) : ∀ k : Nat, VRs (as.take k) (vs.take k) := by
  induction h with
  | nil => intro k; simp; exact .nil
  | cons hv _ ih => intro k; cases k with | zero => exact .nil | succ k => exact .cons hv (ih k)
theorem sliceL_ {x : Addr} {xs : List AV} {lo hi : Option Int} {l u : AV} {value : Expr} {lower upper : Option Expr} {v lv uv : Value} {K : AV → Led → Prop} (hv : VR (.con (.ref x)) v) (hl : VR l lv) (hu : VR u uv) (pl : PartR lo l) (pu : PartR hi u) (hx : (x, AObj.list xs) ∈ L) (hz : xs.length ≤ 1000000)
    (h : ∀ p, K (.con (.ref p)) ((p, .list ((xs.drop (lo.elim 0 (clipAt xs.length))).take (hi.elim xs.length (clipAt xs.length) - lo.elim 0 (clipAt xs.length)))) :: L)) :
    ∀ A s, Rm n A → St G L s → wpAny (model G.prog G.w) A (subscriptTail value (.Slice lower upper none p1) v (.ref s.heap.objs.size)) (fun x s' => ∃ y L', VR y x ∧ St G L' s' ∧ K y L') (fun ζ ζ => False) { s with heap := s.heap.push { cls := .type "slice", data := .fields #[lv, uv, .none] } } := by
  intro A s hA hS
  obtain rfl : v = .ref x := hv
  obtain ⟨vs, m, o, hvs⟩ := hS.list hx
  have e : xs.length = vs.size := hvs.length.trans (by simp)
  have hL : s.heap.IsList x vs := ⟨_, o, rfl, m, rfl⟩
  refine tail_ (M := (G.prog, G.w)) list_getitem_lookup (Heap.IsList.typeIs (s := { s with heap := s.heap.push { cls := .type "slice", data := .fields #[lv, uv, .none] } }) (hL.push _))
    (wpAny_getItem_list_slice (hL.push _) (Heap.IsSliceOf.new ..) (pl.is hl) (pu.is hu) .none (by simp) ?_ (by rw [sizeLine_eq]; lia)) rfl
  have S1 : St G L { s with heap := s.heap.push { cls := .type "slice", data := .fields #[lv, uv, .none] } } := hS.ext rfl rfl fun b ob e => Heap.get?_push_of_some _ e
  refine ⟨.con (.ref (s.heap.push { cls := .type "slice", data := .fields #[lv, uv, .none] }).objs.size), _, rfl, S1.alloc1 (ao := .list ((xs.drop (lo.elim 0 (clipAt xs.length))).take (hi.elim xs.length (clipAt xs.length) - lo.elim 0 (clipAt xs.length)))) rfl rfl fun d => ⟨_, 0, Heap.get?_push_size _ rfl, ?_⟩, h _⟩
  rw [slicePick_plain, ← e]
  simpa using (hvs.drop _).take _
theorem addL_ {x y : Addr} {xs ys : List AV} {v w : Value} {K : AV → Led → Prop} (hv : VR (.con (.ref x)) v) (hw : VR (.con (.ref y)) w) (hx : (x, AObj.list xs) ∈ L) (hy : (y, AObj.list ys) ∈ L) (hz : xs.length + ys.length ≤ 1000000)
    (h : ∀ p, K (.con (.ref p)) ((p, .list (xs ++ ys)) :: L)) : Cv G n L (binaryOp .Add v w) K := by
  refine Mine.C.leaf ?_
  intro A s hA hS
  obtain rfl : v = .ref x := hv
  obtain rfl : w = .ref y := hw
  obtain ⟨vs, m, o, hvs⟩ := hS.list hx
  obtain ⟨ws, m2, o2, hws⟩ := hS.list hy
  have e1 : xs.length = vs.size := hvs.length.trans (by simp)
  have e2 : ys.length = ws.size := hws.length.trans (by simp)
  refine concat_meets ⟨_, o, rfl⟩ ⟨_, o2, rfl⟩ noFill_list_add seq_list_add PySem.F.slot_list_add PySem.F.entry_list_add (PySem.F.args_list_add_2 _ _) (list_addW x y vs ws m m2 none none #[] #[] (by rw [sizeLine_eq]; lia)) ⟨o, o2, ?_⟩
  exact ⟨.con (.ref s.heap.objs.size), _, rfl, hS.alloc1 (ao := .list (xs ++ ys)) rfl rfl fun d => ⟨vs ++ ws, 0, Heap.get?_push_size _ rfl, by simpa using hvs.append hws⟩, h _⟩
end
end Mine
end
section
open PySem PySem.W PySem.Calls PyProof.Rows PySem.Spec
set_option Elab.async false
set_option linter.unusedVariables false
set_option maxRecDepth 100000
set_option maxHeartbeats 4000000
namespace Mine
section
variable {G : Gr} {n : Nat} {L L' : Led} {E : Env} {pos p1 p2 np : Pos}
theorem isNotNoneR_ {x : Addr} {v w : Value} {K : AV → Led → Prop} (hv : VR (.con (.ref x)) v) (hw : VR .none w) (h : K (.bool true) L) : Cv G n L (compareOp .IsNot v w) K := isNotNone_ (b := false) hv hw rfl h
end
inductive TD where
  | none
  | bool (b : Bool)
  | int (i : Int)
  | bytes (b : List UInt8)
  | tup (ds : List TD)
inductive All2 {α β : Type} (R : α → β → Prop) : List α → List β → Prop
  | nil : All2 R [] []
  | cons {a b as bs} : R a b → All2 R as bs → All2 R (a :: as) (b :: bs)
theorem All2.mono {α β : Type} {R R' : α → β → Prop} (k : ∀ a b, R a b → R' a b) {as : List α} {bs : List β} (h : All2 R as bs) : All2 R' as bs := by
  induction h with
  | nil => exact .nil
  | cons x _ ih => exact .cons (k _ _ x) ih
theorem All2.app {α β : Type} {R : α → β → Prop} {as as' : List α} {bs bs' : List β} (h : All2 R as bs) (h' : All2 R as' bs') : All2 R (as ++ as') (bs ++ bs') := by
  induction h with
  | nil => exact h'
  | cons x _ ih => exact .cons x ih
noncomputable def Plain : AV → TD → Prop
  | .none, d => d = .none
  | .bool b, d => d = .bool b
  | .int i, d => d = .int i
  | .bytes b, d => d = .bytes b
  | _, _ => False
noncomputable def Told (L : Led) : Nat → AV → TD → Prop
  | 0, a, d => Plain a d
  | n + 1, a, d => Plain a d ∨ ∃ x xs ds, a = .con (.ref x) ∧ d = .tup ds ∧ (x, AObj.tuple xs) ∈ L ∧ All2 (Told L n) xs ds
theorem Told.mono {L L' : Led} (k : ∀ p ∈ L, p ∈ L') : ∀ (n : Nat) (a : AV) (d : TD), Told L n a d → Told L' n a d
  | 0, _, _, h => h
  | n + 1, a, d, h => by
    rcases h with h | ⟨x, xs, ds, e1, e2, m, h⟩
    · exact .inl h
    · exact .inr ⟨x, xs, ds, e1, e2, k _ m, h.mono fun a b q => Told.mono k n a b q⟩
open SeqAt in
theorem rc_bytes {A : Around} {s : Shared} {b c : Array UInt8} {t u : Tok} : RcAt A s (.bytes b t) (.bytes c u) (b.toList == c.toList) := fun prog w E Q h =>
  richCompare_gives (typeIs_bytes s b t) (typeIs_bytes s c u) FB.slot_bytes_eq FB.entry_bytes_eq (FB.args_bytes_eq_2 _ _) (gives_bytes_eq b c t u) (fun e => nomatch e) h
open SeqAt in
theorem eq_bytes_at {A : Around} {s : Shared} {b : List UInt8} {t u : Tok} : EqAt A s (.bytes b.toArray t) (.bytes b.toArray u) true := fun prog w E Q h => by
  unfold eqBool
  refine wpAny_holding ?_
  refine wpAny_ite_split (fun ζ => wpAny_bind (wpAny_rule (wpAny_pure h))) (fun ζ => ?_)
  exact wpAny_bind (rc_bytes prog w E _ (wpAny_truthy_bool (by simpa using h)))
open SeqAt in
theorem plain_at {A : Around} {s : Shared} {a b : AV} {v w : Value} {d : TD} (ha : Plain a d) (hb : Plain b d) (hv : VR a v) (hw : VR b w) : EqAt A s v w true := by
  cases a <;> simp only [Plain] at ha <;> subst ha <;> cases b <;> simp only [Plain, TD.bool.injEq, TD.int.injEq, TD.bytes.injEq, reduceCtorEq] at hb
  · obtain rfl : v = .none := hv; obtain rfl : w = .none := hw; exact EqAt.same _
  · subst hb; obtain rfl : v = .bool _ := hv; obtain rfl : w = .bool _ := hw; exact EqAt.same _
  · subst hb; obtain ⟨t, rfl⟩ := hv; obtain ⟨u, rfl⟩ := hw
    rename_i i
    have := EqAt.int_int (A := A) (s := s) i t i u
    simpa using this
  · subst hb; obtain ⟨t, rfl⟩ := hv; obtain ⟨u, rfl⟩ := hw; exact eq_bytes_at
theorem All2.at {R : AV → TD → Prop} {as bs : List AV} {ds : List TD} {vs ws : List Value} (ha : All2 R as ds) (hb : All2 R bs ds) (hv : VRs as vs) (hw : VRs bs ws) : vs.length = ws.length ∧ ∀ j (h1 : j < vs.length) (h2 : j < ws.length), ∃ a b d, R a d ∧ R b d ∧ VR a vs[j] ∧ VR b ws[j] := by
  induction ha generalizing bs vs ws with
  | nil => cases hb; cases hv; cases hw; exact ⟨rfl, fun j h => absurd h (Nat.not_lt_zero _)⟩
  | cons x _ ih =>
    cases hb with
    | cons y hb =>
      cases hv with
      | cons v hv =>
        cases hw with
        | cons w hw =>
          obtain ⟨e, k⟩ := ih hb hv hw
          refine ⟨by simp [e], fun j h1 h2 => ?_⟩
          cases j with
          | zero => exact ⟨_, _, _, x, y, v, w⟩
          | succ j => exact k j (Nat.lt_of_succ_lt_succ h1) (Nat.lt_of_succ_lt_succ h2)
section
variable {G : Gr} {n : Nat} {L L' : Led} {E : Env} {pos p1 p2 np : Pos}
open SeqAt in
theorem told_pair {s : Shared} (S : St G L s) {x y : Addr} {xs ys : List AV} {ds : List TD} {m : Nat} {A : Around} (hx : (x, AObj.tuple xs) ∈ L) (hy : (y, AObj.tuple ys) ∈ L) (hxs : All2 (Told L m) xs ds) (hys : All2 (Told L m) ys ds)
    (ih : ∀ {a b : AV} {d : TD} {v w : Value} {A : Around}, Told L m a d → Told L m b d → VR a v → VR b w → A.units + m < cLine → EqAt A s v w true) (hu : A.units + (m + 1) < cLine) :
    ∃ vs ws, s.heap.IsTuple x vs ∧ s.heap.IsTuple y ws ∧ vs.size = ws.size ∧ ∀ j (h1 : j < vs.size) (h2 : j < ws.size), EqAt A.in1 s vs[j] ws[j] true := by
  obtain ⟨vs, o1, h1⟩ := S.tuple hx
  obtain ⟨ws, o2, h2⟩ := S.tuple hy
  obtain ⟨e, k⟩ := hxs.at hys h1 h2
  refine ⟨vs, ws, ⟨_, o1, rfl, 0, rfl⟩, ⟨_, o2, rfl, 0, rfl⟩, by simpa using e, fun j j1 j2 => ?_⟩
  obtain ⟨a, b, d, ra, rb, va, wb⟩ := k j (by simpa using j1) (by simpa using j2)
  exact ih ra rb (by simpa using va) (by simpa using wb) (by show A.units + 1 + m < _; lia)
open SeqAt in
theorem told_at {s : Shared} (S : St G L s) : ∀ (m : Nat) {a b : AV} {d : TD} {v w : Value} {A : Around}, Told L m a d → Told L m b d → VR a v → VR b w → A.units + m < cLine → EqAt A s v w true
  | 0, _, _, _, _, _, _, ha, hb, hv, hw, _ => plain_at ha hb hv hw
  | m + 1, a, b, d, v, w, A, ha, hb, hv, hw, hu => by
    rcases ha with ha | ⟨x, xs, ds, rfl, rfl, mx, hxs⟩
    · rcases hb with hb | ⟨y, ys, es, rfl, rfl, my, hys⟩
      · exact plain_at ha hb hv hw
      · cases a <;> simp [Plain] at ha
    · rcases hb with hb | ⟨y, ys, es, rfl, e, my, hys⟩
      · cases b <;> simp [Plain] at hb
      · cases e
        obtain rfl : v = .ref x := hv
        obtain rfl : w = .ref y := hw
        by_cases q : x = y
        · subst q; exact EqAt.same _
        · obtain ⟨vs, ws, i1, i2, e, k⟩ := told_pair S mx my hxs hys (fun h1 h2 h3 h4 h5 => told_at S m h1 h2 h3 h4 h5) hu
          have r := RcAt.tuples (e := fun ζ => true) i1 i2 (by lia) k
          have e' : ((List.range (min vs.size ws.size)).all (fun ζ => true) && vs.size == ws.size) = true := by simp [e]
          rw [e'] at r
          exact EqAt.of_refs q r
theorem eqT_ {x y : Addr} {m : Nat} {d : TD} {v w : Value} {K : AV → Led → Prop} (hv : VR (.con (.ref x)) v) (hw : VR (.con (.ref y)) w) (ha : Told L (m + 1) (.con (.ref x)) d) (hb : Told L (m + 1) (.con (.ref y)) d) (hm : m ≤ 20) (h : K (.bool true) L) : Cv G n L (compareOp .Eq v w) K := by
  refine Mine.C.leaf ?_
  intro A s hA hS
  have hu := hA.2.2
  have hc := cLine_is
  rcases ha with ha | ⟨x', xs, ds, e, rfl, mx, hxs⟩
  · simp [Plain] at ha
  rcases hb with hb | ⟨y', ys, es, e2, e3, my, hys⟩
  · simp [Plain] at hb
  cases e; cases e2; cases e3
  obtain rfl : v = .ref x := hv
  obtain rfl : w = .ref y := hw
  obtain ⟨vs, ws, i1, i2, e, k⟩ := told_pair (A := A) hS mx my hxs hys (fun h1 h2 h3 h4 h5 => told_at hS m h1 h2 h3 h4 h5) (by lia)
  have r := SeqAt.RcAt.tuples (e := fun ζ => true) i1 i2 (by lia) k
  have e' : ((List.range (min vs.size ws.size)).all (fun ζ => true) && vs.size == ws.size) = true := by simp [e]
  rw [e'] at r
  exact r G.prog G.w _ _ ⟨.bool true, L, rfl, hS, h⟩
theorem neT_ {x y : Addr} {m : Nat} {d : TD} {v w : Value} {K : AV → Led → Prop} (hv : VR (.con (.ref x)) v) (hw : VR (.con (.ref y)) w) (ha : Told L (m + 1) (.con (.ref x)) d) (hb : Told L (m + 1) (.con (.ref y)) d) (hm : m ≤ 20) (h : K (.bool false) L) : Cv G n L (compareOp .NotEq v w) K := by
  refine Mine.C.leaf ?_
  intro A s hA hS
  have hu := hA.2.2
  have hc := cLine_is
  rcases ha with ha | ⟨x', xs, ds, e, rfl, mx, hxs⟩
  · simp [Plain] at ha
  rcases hb with hb | ⟨y', ys, es, e2, e3, my, hys⟩
  · simp [Plain] at hb
  cases e; cases e2; cases e3
  obtain rfl : v = .ref x := hv
  obtain rfl : w = .ref y := hw
  obtain ⟨vs, ws, i1, i2, e, k⟩ := told_pair (A := A) hS mx my hxs hys (fun h1 h2 h3 h4 h5 => told_at hS m h1 h2 h3 h4 h5) (by lia)
  have r := SeqAt.RcNeAt.tuples (e := fun ζ => true) i1 i2 (by lia) k
  have e' : (!((List.range (min vs.size ws.size)).all (fun ζ => true) && vs.size == ws.size)) = false := by simp [e]
  rw [e'] at r
  exact r G.prog G.w _ _ ⟨.bool false, L, rfl, hS, h⟩
theorem loopL {target : Expr} {body orelse : List Stmt} {it l : Addr} {xs : List AV} {Inv : Nat → Led → Prop} {K : Fl → Led → Prop}
    (hl : ∀ i Li, Inv i Li → (l, AObj.list xs) ∈ Li)
    (hgo : ∀ i Li v a, xs[i]? = some a → VR a v → Cu G n ((it, .liter l (i + 1)) :: Li) (letOwnedTupleGo target (.ref it) v) fun ζ L' => L' = (it, .liter l (i + 1)) :: Li)
    (turn : ∀ i a Li, xs[i]? = some a → Inv i Li → ∀ v, VR a v → Cu G n ((it, .liter l (i + 1)) :: Li) (assign target E v) fun ζ L2 => Cf G n L2 (execs body E) fun fl L3 =>
      onL fl (∃ Li', Pick ((it, .liter l (i + 1)) :: Li') L3 ∧ Inv (i + 1) Li') (K .next L3) fun a => K (.ret a) L3)
    (fin : ∀ Li, Inv xs.length Li → Cf G n Li (execs orelse E) K) : ∀ k i Li, xs.length - i = k → i ≤ xs.length → Inv i Li → Cl G n ((it, .liter l i) :: Li) (.forLoop target (.ref it) body orelse E) K := by
  intro k
  induction k with
  | zero =>
    intro i Li hk hi hI
    exact FendL .refl (hl _ _ hI) (by lia) (fin _ (by rwa [show i = xs.length by lia] at hI))
  | succ k ih =>
    intro i Li hk hi hI
    have hlt : i < xs.length := by lia
    have hx : xs[i]? = some xs[i] := List.getElem?_eq_getElem hlt
    refine FstepL .refl (hl _ _ hI) hx fun v hv => ?_
    refine (hgo i Li v _ hx hv).mono fun ζ L' e => ?_
    subst e
    refine (turn i _ Li hx hI v hv).mono fun ζ L2 k2 => k2.mono fun fl L3 k3 => ?_
    have hn : (∃ Li', Pick ((it, .liter l (i + 1)) :: Li') L3 ∧ Inv (i + 1) Li') → Cl G n L3 (.forLoop target (.ref it) body orelse E) K := fun ⟨Li', hp, hI'⟩ => Cl.pick hp (ih (i + 1) Li' (by lia) hlt hI')
    cases fl with
    | next => exact hn k3
    | cont => exact hn k3
    | brk => exact k3
    | ret a => exact k3
theorem setLi_ {x : Addr} {ns : List Int} {j : Int} {k : Int} {o i v : Value} {K : Unit → Led → Prop} (ho : VR (.con (.ref x)) o) (hi : VR (.int k) i) (hv : VR (.int j) v) (hl : (x, AObj.list (ns.map .int)) ∈ L) (h0 : 0 ≤ k) (hk : k < ns.length) (hz : ns.length ≤ 1000000) (U : Up x (.list (ns.map .int)) (.list ((ns.set k.toNat j).map .int)) L L') (h : K () L') : Cu G n L (setItem o i v) K := by
  rw [List.map_set] at U
  exact setL_ ho hi hv h0 (by rw [List.length_map]; exact hk) (by rw [List.length_map]; exact hz) U h
end
end Mine
end
section
open PySem PySem.W PySem.Calls PyProof.Rows PySem.Spec
set_option Elab.async false
set_option linter.unusedVariables false
set_option maxRecDepth 100000
set_option maxHeartbeats 4000000
namespace Mine
open SeqAt in
theorem none_ne_bytes (a : Array UInt8) (t : Tok) : Gives (Builtin.«NoneType.__ne__» ⟨[.none, .bytes a t], []⟩) (.val (Value.notImplemented)) :=
  .of_wp fun M A E s Q h => by obtain ⟨hp, g, d, tk, os⟩ := s; wp_walk; exact ⟨_, rfl, h⟩
open Builtin in
theorem bytes_ne_none (b : Array UInt8) (t : Tok) : Gives («bytes.__ne__» ⟨[.bytes b t, .none], []⟩) (.val (Value.notImplemented)) := by
  refine .of_wp fun M A E s Q hq => ?_
  show wpAny M A (isInstance .none (.type "bytes") >>= fun r => _) _ E s
  refine wpAny_bind (wpAny_isInstance (T := "NoneType") rfl F.sub_NoneType_bytes ?_)
  show wpAny M A (rule _ >>= fun ζ => ret Value.notImplemented) _ E s
  exact wpAny_bind (wpAny_rule (wpAny_pure ⟨_, rfl, hq⟩))
open SeqAt in
theorem rcne_none_bytes {A : Around} {s : Shared} (b : Array UInt8) (u : Tok) : RcNeAt A s .none (.bytes b u) true := fun prog w E Q h =>
  rc_ne_decline_or (k := false) rfl (typeIs_bytes s b u) (by decide) F.sub_bytes_NoneType F.slot_NoneType_ne FB.slot_bytes_ne
    (fun ζ hq => call_gives F.slot_NoneType_ne rfl F.entry_NoneType_ne (F.args_NoneType_ne_2 _ _) (none_ne_bytes b u) hq)
    (fun ζ hq => call_gives FB.slot_bytes_ne (typeIs_bytes s b u) FB.entry_bytes_ne (FB.args_bytes_ne_2 _ _) (bytes_ne_none b u) hq)
    (fun ζ hq => wpAny_of_eq (rfl : isSame .none (.bytes b u) = pure false) hq) (.inl rfl) h
open SeqAt in
theorem rcne_bytes_none {A : Around} {s : Shared} (b : Array UInt8) (u : Tok) : RcNeAt A s (.bytes b u) .none true := fun prog w E Q h =>
  rc_ne_decline_or (k := false) (typeIs_bytes s b u) rfl (by decide) F.sub_NoneType_bytes FB.slot_bytes_ne F.slot_NoneType_ne_refl
    (fun ζ hq => call_gives FB.slot_bytes_ne (typeIs_bytes s b u) FB.entry_bytes_ne (FB.args_bytes_ne_2 _ _) (bytes_ne_none b u) hq)
    (fun ζ hq => call_gives F.slot_NoneType_ne_refl rfl F.entry_NoneType_ne (F.args_NoneType_ne_2 _ _) (none_ne_bytes b u) hq)
    (fun ζ hq => wpAny_of_eq (rfl : isSame (.bytes b u) .none = pure false) hq) (.inl rfl) h
section
variable {G : Gr} {n : Nat} {L L' : Led} {E : Env} {pos p1 p2 np : Pos}
theorem neO_ {a b : Option (List UInt8)} {v w : Value} {K : AV → Led → Prop} (hv : VR (opt a) v) (hw : VR (opt b) w) (h : K (.bool (a != b)) L) : Cv G n L (compareOp .NotEq v w) K := by
  cases a with
  | none =>
    cases b with
    | none =>
      refine Mine.C.leaf ?_
      intro A s hA hS
      obtain rfl : v = .none := hv; obtain rfl : w = .none := hw
      exact SeqAt.RcNeAt.none_none G.prog G.w _ _ ⟨.bool false, L, rfl, hS, h⟩
    | some b =>
      refine Mine.C.leaf ?_
      intro A s hA hS
      obtain rfl : v = .none := hv; obtain ⟨t, rfl⟩ := hw
      exact rcne_none_bytes _ _ G.prog G.w _ _ ⟨.bool true, L, rfl, hS, h⟩
  | some a =>
    cases b with
    | none =>
      refine Mine.C.leaf ?_
      intro A s hA hS
      obtain ⟨t, rfl⟩ := hv; obtain rfl : w = .none := hw
      exact rcne_bytes_none _ _ G.prog G.w _ _ ⟨.bool true, L, rfl, hS, h⟩
    | some b => exact neB_ hv hw (by have e : (some a != some b) = (a != b) := by simp [bne]
                                     rw [e] at h; exact h)
end
end Mine
namespace Mine
section
variable {G : Gr} {n : Nat} {L L' : Led} {E : Env} {pos p1 p2 np : Pos}
theorem Dict3_ {x y z : List UInt8} {k1 k2 k3 m1 m2 m3 : Nat} {q1 q2 q3 r1 r2 r3 : Pos} {K : AV → Led → Prop} (h : ∀ p, K (.con (.ref p)) ((p, .idict [(9, .bytes x), (10, .bytes y), (11, .bytes z)]) :: L)) :
    Cv G n L (eval (.Dict [some (.Constant (.int 9) k1 q1), some (.Constant (.int 10) k2 q2), some (.Constant (.int 11) k3 q3)] [.Constant (.bytes x) m1 r1, .Constant (.bytes y) m2 r2, .Constant (.bytes z) m3 r3] pos) E) K := by
  refine Mine.C.leaf ?_
  intro A s hA hS
  refine wpAny_Dict_walk (knd := intKind G.prog G.w) rfl rfl (by simp) (by simp) ?_
  refine pairTrees_cons_walk (wpAny_Constant_int (Constant_bytes ?_))
  refine pairTrees_cons_walk (wpAny_Constant_int (Constant_bytes ?_))
  refine pairTrees_cons_walk (wpAny_Constant_int (Constant_bytes ?_))
  refine pairTrees_nil_walk ?_
  have S1 := hS.alloc1 (ao := .idict []) (o := { cls := .type "dict", data := .dict #[] }) rfl rfl fun d => ⟨[], Heap.DictOf.new _, .nil⟩
  refine ⟨[(9, _), (10, _), (11, _)], ⟨intKind_is .., rfl, intKind_is .., rfl, intKind_is .., rfl, trivial⟩, Heap.DictOf.new _, fun h' hd hs => ?_⟩
  · refine ⟨.con (.ref s.heap.objs.size), _, rfl, ?_, h _⟩
    refine S1.upd (b := s.heap.objs.size) (a := s.heap.objs.size) (o' := .idict [(9, .bytes x), (10, .bytes y), (11, .bytes z)]) .head rfl rfl rfl (fun c ob hc e => (hs.2 c hc).trans e) fun d ζ => ⟨.inr rfl, fun q => absurd rfl q, fun ζ => ⟨_, hd, ?_⟩⟩
    exact .cons ⟨_, rfl⟩ (.cons ⟨_, rfl⟩ (.cons ⟨_, rfl⟩ .nil))
end
end Mine
end
section
open PySem PySem.W PySem.Calls PyProof.Rows PySem.Spec
set_option Elab.async false
set_option linter.unusedVariables false
set_option maxRecDepth 100000
set_option maxHeartbeats 4000000
namespace Mine
theorem wpX_attempt {α : Type} {M : Model} {A : Around} {E : Value → Shared → Prop} {s : Shared} {m : Sem α} {Q : Except Value α → Shared → Prop} (h : wpX M A m (fun a => Q (.ok a)) (fun e => Q (.error e)) s) : wpX M A m.attempt Q E s :=
  fun Γ p hΓ hc => by rw [Sem.wp_attempt]; exact h Γ p hΓ hc
theorem wpX_standIf {α : Type} {M : Model} {A : Around} {E : Value → Shared → Prop} {s : Shared} {c : Prop} [Decidable c] {pos : Pos} {k : PUnit → Sem α} {Q : α → Shared → Prop} (h : wpX M A (k ()) Q E s) : wpX M A (if c then (standAt pos >>= k) else k ()) Q E s := by
  split
  · exact wpX_bind (wpX_of (wpAny_standAt h))
  · exact h
noncomputable abbrev lc (elt target iter : Expr) (scope : Scope) (pos : Pos) : Expr := .ListComp elt [⟨target, iter, [], 0⟩] scope pos
section
variable {G : Gr} {n : Nat} {L L' : Led} {E : Env} {pos p1 p2 np : Pos}
theorem CLstep_ {elt target iter : Expr} {scope : Scope} {it acc : Addr} {K : Fl → Led → Prop}
    (h : C OptR G n L (pyNext (.ref it)) fun y L1 => match y with
      | none => K .next L1
      | some a => ∀ v, VR a v → Cu G n L1 (letOwnedTupleGo target (.ref it) v) fun ζ L2 => Cu G n L2 (assign target E v) fun ζ L3 => Cv G n L3 (eval elt E) fun b L4 => ∀ x, VR b x → Cv G n L4 (call (.builtin "list.append") [.ref acc, x]) fun ζ L5 =>
        Cl G n L5 (.compLoop (lc elt target iter scope pos) 0 (.ref it) (.ref acc) E) K) : Cl G n L (.compLoop (lc elt target iter scope pos) 0 (.ref it) (.ref acc) E) K := by
  intro A s hA hS
  refine codeX_of_tree rfl ?_
  show wpX _ A ((compTurn (.ListComp elt [⟨target, iter, [], 0⟩] scope pos) 0 (.ref it) (.ref acc) E).onRaise (fun x => do noteFrame x E; theTreesLotGoes x)) _ _ s
  refine wpX_onRaise ?_
  rw [compTurn_list1]
  refine wpX_bind (wpX_of (wpAny_standAt ?_))
  refine wpX_bind (C.useE h hA hS fun r s1 y L1 hr S1 hy => ?_)
  cases y with
  | none => obtain rfl : r = none := hr; exact wpX_pure ⟨.next, L1, rfl, S1, hy⟩
  | some a =>
    obtain ⟨w, rfl, hw⟩ := hr
    refine wpX_bind ((hy w hw).useE hA S1 fun ζ s2 ζ L2 ζ S2 k2 => ?_)
    refine wpX_bind (k2.useE hA S2 fun ζ s3 ζ L3 ζ S3 k3 => ?_)
    refine wpX_bind (wpX_bind (k3.useE hA S3 fun x s4 b L4 hb S4 k4 => ?_))
    refine wpX_bind ((k4 x hb).useE hA S4 fun ζ s5 ζ L5 ζ S5 k5 => ?_)
    exact wpX_pure (wpX_pure ⟨rfl, k5 A s5 hA S5⟩)
theorem CLstart_ {elt target iter : Expr} {scope : Scope} {it acc l : Addr} {i : Nat} {K : Fl → Led → Prop} (hl : (it, AObj.liter l i) ∈ L) (h : Cl G n L (.compLoop (lc elt target iter scope pos) 0 (.ref it) (.ref acc) E) K) :
    Cl G n L (.compStart (lc elt target iter scope pos) 0 (.ref it) (.ref acc) E) K := by
  intro A s hA hS
  obtain ⟨d, hit⟩ := hS.at hl
  refine codeX_of_tree rfl ?_
  show wpX _ A ((compStart (.ListComp elt [⟨target, iter, [], 0⟩] scope pos) 0 (.ref it) (.ref acc) E).onRaise (fun x => do noteFrame x E; standAt theWindowsPlace)) _ _ s
  refine wpX_onRaise ?_
  unfold compStart
  show wpX _ _ (ask >>= _) _ _ s
  refine wpX_bind (wpX_of (wpAny_askSetting ?_))
  split
  · first
      | exact wpX_pure ⟨rfl, h A s hA hS⟩
      | exact wpX_bind (wpX_pure (wpX_pure ⟨rfl, h A s hA hS⟩))
  · refine wpX_bind (wpX_of (wpAny_rule ?_))
    show wpX _ _ (standAt iter.pos >>= _) _ _ s
    refine wpX_bind (wpX_of (wpAny_standAt ?_))
    exact wpX_bind (wpX_of (wpAny_pyIter_listiter hit (wpX_pure ⟨rfl, h A s hA hS⟩)))
theorem clGo_ {C : Addr} {sc : Scope} {kvs : List (Str × Option AV)} {cenv : Env} {cellsOf : List (Str × NameKind) → List Value} {vars : List (Str × NameKind)} {K : Unit → Led → Prop} (hC : cenv.locals = C) (hk : cenv.scope.kind = .function)
    (hv : ∀ x ∈ vars, x.2 = .local → cenv.kindOf x.1 = some .local) (h : K () L) : Cu G n ((C, .ns sc kvs) :: L) (comprehension.letGo cenv cellsOf vars) K := by
  refine Mine.C.leaf ?_
  intro A s hA hS
  obtain ⟨d, hns⟩ := hS.at (p := (C, .ns sc kvs)) List.mem_cons_self
  obtain ⟨y1, y2, m, hn, hm⟩ := hns
  subst hC
  exact wpAny_comp_letGo hk vars s m hv hn fun h' m' ζ hs' => ⟨(), L, trivial, hS.ext1 rfl rfl rfl fun c ob hc e => hs'.extBut c ob hc e, h⟩
theorem AssignC_ {elt target iter : Expr} {scope : Scope} {cl : List (Str × Addr)} {y : Str} {names : List Str} {K : Fl → Led → Prop}
    (h : Cv G n L (eval iter E) fun a L1 => ∃ l xs, a = .con (.ref l) ∧ (l, AObj.list xs) ∈ L1 ∧ ∀ it acc C,
      Cl G n ((C, .ns (relabel scope E) (names.map fun x => (x, none))) :: (acc, .list []) :: (it, .liter l 0) :: L1) (.compLoop (lc elt target iter scope pos) 0 (.ref it) (.ref acc) (compEnvC scope cl C E)) fun ζ L3 =>
        ∃ kvs Li, Pick ((C, .ns (relabel scope E) kvs) :: Li) L3 ∧ Cu G n ((C, .ns (relabel scope E) kvs) :: Li) (storeName E y (.ref acc)) fun ζ L4 => ∃ L5 kvs', Pick ((C, .ns (relabel scope E) kvs') :: L5) L4 ∧ K .next L5)
    (hsw : swapsWith (lc elt target iter scope pos) (some (.Name y p1)) p2.line E = pure true)
    (hclos : closureFor scope E = pure cl) (hkind : scope.kind = .function) (hcell : (scope.names.all fun x => x.2 != .cell) = true)
    (hnames : (scope.names.all fun x => x.2 != .local || scope.names.lookup x.1 == some .local) = true)
    (hloc : (names.all fun x => (relabel scope E).names.lookup x == some .local) = true) (hnd : names.Nodup)
    (hs : ∀ x, foldedSetIterable iter E x = pure x := by intro ζ; rfl) :
    Cf G n L (exec (.Assign [.Name y p1] (lc elt target iter scope pos) p2) E) K := by
  intro A s hA hS
  rw [exec_Assign_Name_used _ _ _ _ hsw]
  refine wpX_bind (wpX_of (wpAny_standAt (wpX_bind ?_)))
  show wpX _ A (do let _ ← comprehension (.ListComp elt [⟨target, iter, [], 0⟩] scope pos) scope E _ (newList []) false (eval iter E) (some (assign (.Name y p1) E))) _ _ s
  refine wpX_bind ?_
  unfold comprehension
  rw [hclos]
  have hnl : ∀ x ∈ scope.names, x.2 = .local → scope.names.lookup x.1 = some .local := fun x hx hl => by
    have := List.all_eq_true.mp hnames x hx
    simpa [hl] using this
  refine wpX_bind (h.useE hA hS fun v s1 a L1 hv S1 k1 => ?_)
  obtain ⟨l, xs, rfl, hl, k1⟩ := k1
  refine wpX_bind (wpX_of (wpAny_standAt (wpX_bind ?_)))
  show wpX _ A (foldedSetIterable iter E v) _ _ s1
  rw [hs]
  refine wpX_pure (wpX_bind (wpX_holding ?_))
  refine (pyIterL_ (K := fun p L' => L' = (p, .liter l 0) :: L1) hv hl fun p => rfl).useE hA S1 fun itv s2 it L2 hit S2 e2 => ?_
  subst e2
  obtain rfl : itv = .ref it := hit
  refine wpX_standIf ?_
  refine wpX_bind (wpX_of (wpAny_newObj_type (hd := by size_fits) ?_))
  have S3 : St G ((s2.heap.objs.size, .list []) :: (it, .liter l 0) :: L1) { s2 with heap := s2.heap.push { cls := .type "list", dict := none, data := .seq ([] : List Value).toArray } } :=
    S2.alloc1 (ao := .list []) rfl rfl fun d => ⟨#[], 0, Heap.get?_push_size _ rfl, .nil⟩
  generalize hs3 : ({ s2 with heap := s2.heap.push { cls := .type "list", dict := none, data := .seq ([] : List Value).toArray } } : Shared) = s3 at S3 ⊢
  generalize s2.heap.objs.size = acc at S3 ⊢
  refine wpX_bind (wpX_pure ?_)
  refine wpX_bind (wpX_of (wpAny_newFunctionEnv (binds := []) (fun x hx => by simpa using List.all_eq_true.mp hcell x hx) (fun x hx => by cases hx) (fun h4 hns hsb => ?_) hkind))
  have kp : ∀ b o, s3.heap.get? b = some o → h4.get? b = some o := fun b o e => hsb.extBut b o (Nat.ne_of_lt (Heap.lt_size e)) (Heap.get?_push_of_some _ e)
  have S4 : St G ((s3.heap.objs.size, .ns (relabel scope E) (names.map fun x => (x, none))) :: (acc, .list []) :: (it, .liter l 0) :: L1) { s3 with heap := h4, toks := s3.toks + ([] : List (Str × Value)).length } := by
    have ek : (names.map fun x => ((x, none) : Str × Option AV)).map (·.1) = names := by rw [List.map_map]; exact List.map_id _
    exact S3.newAt size_no kp rfl fun ζ => ⟨by rw [ek]; exact hnd, fun p hp => by
      obtain ⟨x, hx, rfl⟩ := List.mem_map.mp hp
      simpa using List.all_eq_true.mp hloc x hx, _, hns, fun p hp v hv => by
      obtain ⟨x, hx, rfl⟩ := List.mem_map.mp hp
      cases hv⟩
  clear hs3
  generalize s3.heap.objs.size = C at S4 ⊢
  generalize ({ s3 with heap := h4, toks := s3.toks + ([] : List (Str × Value)).length } : Shared) = s4 at S4 ⊢
  refine wpX_holding (wpX_bind (wpX_attempt (wpX_holding (wpX_run (codeX_mono (CLstart_ (E := compEnvC scope cl C E) (i := 0) (l := l) (by simp) (k1 it acc C) A s4 hA S4) fun r s' q => ?_) (by intro x; cases x)))))
  cases r with
  | error e => exact q.elim
  | ok f =>
    obtain ⟨yf, L3, hf, S5, kvs, Li, hp, k5⟩ := q
    refine wpX_bind (wpX_of (wpAny_rule (wpX_bind (wpX_holding ?_))))
    refine (AsgN_ k5).useE hA (S5.pick hp) fun _ s6 _ L4 _ S6 ⟨L5, kvs', hp', k6⟩ => ?_
    refine wpX_bind ?_
    refine Mine.C.useE (clGo_ (n := n) (cenv := compEnvC scope cl C E) (sc := relabel scope E) (kvs := kvs') (L := L5) (K := fun ζ L' => L' = L5) rfl hkind ?kinds rfl) hA (S6.pick hp') fun ζ s7 ζ L7 ζ S7 e7 => ?post
    case post =>
      subst e7
      exact wpX_pure (wpX_pure (wpX_pure ⟨.next, _, rfl, S7, k6⟩))
    case kinds =>
      intro x hx hxl
      have : x ∈ scope.names := by
        rcases List.mem_append.mp hx with h1 | h1
        · exact (List.mem_filter.mp (List.mem_reverse.mp (List.mem_of_mem_drop h1))).1
        · exact (List.mem_filter.mp (List.mem_reverse.mp (List.mem_of_mem_take h1))).1
      exact lookup_relabel_local (hnl x this hxl)
theorem compL {elt target iter : Expr} {scope : Scope} {it acc l : Addr} {xs : List AV} {Inv : Nat → List AV → Led → Prop} {K : Fl → Led → Prop}
    (hl : ∀ i ys Li, Inv i ys Li → (l, AObj.list xs) ∈ Li) (hlen : xs.length ≤ 1000)
    (hgo : ∀ i Li v a, VR a v → Cu G n ((it, .liter l i) :: Li) (letOwnedTupleGo target (.ref it) v) fun ζ L' => L' = (it, .liter l i) :: Li)
    (turn : ∀ i ys Li a, xs[i]? = some a → ys.length = i → Inv i ys Li → ∀ v, VR a v → Cu G n ((it, .liter l (i + 1)) :: (acc, .list ys) :: Li) (assign target E v) fun ζ L2 => Cv G n L2 (eval elt E) fun b L3 =>
      ∃ Li', Pick ((it, .liter l (i + 1)) :: (acc, .list ys) :: Li') L3 ∧ Inv (i + 1) (ys ++ [b]) Li')
    (fin : ∀ ys Li, Inv xs.length ys Li → K .next ((acc, .list ys) :: Li)) :
    ∀ j i ys Li, xs.length - i = j → i ≤ xs.length → ys.length = i → Inv i ys Li → Cl G n ((it, .liter l i) :: (acc, .list ys) :: Li) (.compLoop (lc elt target iter scope pos) 0 (.ref it) (.ref acc) E) K := by
  intro j
  induction j with
  | zero =>
    intro i ys Li hj hi hy hI
    have hi' : i = xs.length := by lia
    subst hi'
    have hn := nextL_ (G := G) (n := n) (it := it) (i := xs.length) (Li := (acc, .list ys) :: Li) (List.mem_cons_of_mem _ (hl _ _ _ hI))
    rw [List.getElem?_eq_none (Nat.le_refl _)] at hn
    refine CLstep_ (hn.mono fun y L' e => ?_)
    obtain ⟨rfl, rfl⟩ := e
    exact fin _ _ hI
  | succ j ih =>
    intro i ys Li hj hi hy hI
    have hlt : i < xs.length := by lia
    have hx : xs[i]? = some xs[i] := List.getElem?_eq_getElem hlt
    have hn := nextL_ (G := G) (n := n) (it := it) (i := i) (Li := (acc, .list ys) :: Li) (List.mem_cons_of_mem _ (hl _ _ _ hI))
    rw [hx] at hn
    refine CLstep_ (hn.mono fun y L' e => ?_)
    obtain ⟨rfl, rfl⟩ := e
    dsimp only
    intro v hv
    refine (hgo _ _ _ _ hv).mono fun ζ L2 e2 => ?_
    subst e2
    refine (turn i ys Li _ hx hy hI v hv).mono fun ζ L3 k3 => k3.mono fun b L4 k4 x hb => ?_
    obtain ⟨Li', hp, hI'⟩ := k4
    refine C.pick hp ?_
    exact appendL_ (vs := [x]) (.cons hb .nil) (.tail .head) (by lia) (ih (i + 1) (ys ++ [b]) Li' (by lia) hlt (by simp [hy]) hI')
theorem NameC_ {x : Str} {a : AV} {c : Addr} {K : AV → Led → Prop} (hl : (c, AObj.cell (some a)) ∈ L) (hc : E.cells.lookup x = some c) (hx : E.kindOf x = some .cell) (hk : E.scope.kind = .function) (h : K a L)
    (hd : (x == ("__debug__" : Str)) = false := by decide +kernel) : Cv G n L (eval (.Name x pos) E) K := by
  refine Mine.C.leaf ?_
  intro A s hA hS
  obtain ⟨d, y, hy, hm⟩ := hS.at hl
  obtain ⟨v, rfl, hv⟩ := hm a rfl
  exact wpAny_Name (wpAny_loadName_cell hk hx hc hy ⟨a, L, hv, hS, h⟩) hd
theorem cstore_ {x : Str} {a : AV} {o : Option AV} {c : Addr} {v : Value} {K : Unit → Led → Prop} (hv : VR a v) (U : Up c (.cell o) (.cell (some a)) L L') (hc : E.cells.lookup x = some c) (hx : E.kindOf x = some .cell) (hk : E.scope.kind = .function) (h : K () L') : Cu G n L (storeName E x v) K := by
  refine Mine.C.leaf ?_
  intro A s hA hS
  obtain ⟨d, y, hy, hm⟩ := hS.at U.mem
  refine wpAny_storeName_cell hk hx hc hy fun h' hc' hs' => ⟨(), L', trivial, ?_, h⟩
  exact hS.upd (b := c) U rfl rfl rfl (fun e ob he q => hs'.extBut e ob he q) fun d ζ => ⟨.inr rfl, fun q => absurd rfl q, fun ζ => ⟨_, hc', fun y e => by cases e; exact ⟨v, rfl, hv⟩⟩⟩
end
theorem callC_ {G : Gr} {n : Nat} {L : Led} {f : Addr} {fd : FuncData} {body : List Stmt} {x y : Str} {rest : List Str} {a : AV} {v : Value} {K : AV → Led → Prop} (hv : VR a v)
    (hf : FnAt f fd) (hbody : fd.body = .stmts body) (hcd : ∀ P, codeIn (kk.heap_1 P) fd.code fd.qualname = true)
    (hbind : ∀ v, bindArgs fd ⟨[v], []⟩ = pure [(x, v)]) (hclo : fd.closure = []) (hcells : ∀ p, cellsFrom (p + 1) fd.scope.names [] = [(y, p + 1)])
    (hloc : ((x :: rest).all fun x => fd.scope.names.lookup x == some .local) = true) (hnd : (x :: rest).Nodup)
    (hco : (!fd.scope.isCoroutine && !fd.scope.isGenerator && fd.scope.kind == .function) = true)
    (h : ∀ p, Cf G n ((p, .ns fd.scope ((x, some a) :: rest.map fun x => (x, none))) :: (p + 1, .cell none) :: L) (execs body (callEnvC fd p f)) fun fl L1 => ∃ L2, Pick L2 L1 ∧ K fl.val L2) : Cc G (n + 1) L (.ref f) [v] K := by
  intro A s hA hS
  obtain ⟨oc, od, osl, hf⟩ := hf G.w.params
  simp only [Bool.and_eq_true, Bool.not_eq_true', beq_iff_eq] at hco
  have hl : ∀ z ∈ x :: rest, fd.scope.names.lookup z = some .local := fun z hz => by simpa using List.all_eq_true.mp hloc z hz
  have hkx : ∀ e : Env, e.scope = fd.scope → e.kindOf x = some .local := fun e he => by unfold Env.kindOf; rw [he]; exact hl _ List.mem_cons_self
  have hroom : A.depth < recursionLimit := by have := hA.2.1; show _ < 1000; lia
  have hlim := G.lim.keeps hS.kept
  have hcd' := codeRec_of hS.X (hcd G.w.params)
  refine codeX_of_tree rfl ?_
  show wpX _ A.in1 (callAny (.ref f) ⟨[v], []⟩) _ _ s
  simp only [callAny]
  refine wpX_bind (wpX_of (wpAny_load (hS.X _ _ hf) ?_))
  obtain ⟨c, oc', vs, tq, hc, hoc, hdc, hq⟩ := hcd'
  simp only [callFunction, hco.1.1, hco.1.2, hbody, hc]
  refine wpX_bind (wpX_of (wpAny_field hoc hdc hq ?_))
  refine wpX_bind (wpX_pure ?_)
  rw [hbind, hclo]
  refine wpX_bind (wpX_pure ?_)
  refine wpX_bind (wpX_of (wpAny_newFunctionEnv_cells hco.2 (fun z hz => ?_) fun env he s1 I => ?_))
  · rcases List.mem_cons.mp hz with rfl | hz
    · exact .inl (hl _ List.mem_cons_self)
    · cases hz
  rw [hcells] at he
  subst he
  have kp := I.toInCall.keep
  refine wpX_bind (wpX_of (wpAny_enterFrame (hlim.keeps kp) hroom ?_))
  refine wpX_pure (And.intro rfl ?_)
  obtain ⟨h1, tk, hs1⟩ := I.toInCall.same
  have S' : St G ((s.heap.objs.size, .ns fd.scope ((x, some a) :: rest.map fun x => (x, none))) :: (s.heap.objs.size + 1, .cell none) :: L) s1 := by
    have ek : (x :: (rest.map fun x => (x, (none : Option AV))).map (·.1)) = x :: rest := by rw [List.map_map]; exact congrArg _ (List.map_id _)
    refine hS.newAt2 size_no (size_ge (Nat.le_succ _)) (Nat.succ_ne_self _).symm kp rfl rfl (fun ζ => ⟨by rw [List.map_cons, ek]; exact hnd, fun p hp => ?_, _, I.toInCall.ns, fun p hp w hw => ?_⟩) (fun ζ => ⟨none, ?_, fun y e => by cases e⟩) (by rw [hs1]) (by rw [hs1])
    · rcases List.mem_cons.mp hp with rfl | hp
      · exact hl _ List.mem_cons_self
      · obtain ⟨z, hz, rfl⟩ := List.mem_map.mp hp
        exact hl _ (List.mem_cons_of_mem _ hz)
    · rcases List.mem_cons.mp hp with rfl | hp
      · cases hw
        refine ⟨v, ?_, hv⟩
        show bindL _ [(x, v)] _ x = some v
        simp only [bindL]
        exact (congrFun (if_pos (hl _ List.mem_cons_self)) x).trans (by simp)
      · obtain ⟨z, hz, rfl⟩ := List.mem_map.mp hp
        cases hw
    · have := I.cell y (s.heap.objs.size + 1) (by show List.lookup y [(y, _)] = _; simp [List.lookup])
      simp only [bindC] at this
      rw [if_pos (hkx (newEnv _ _ _ _ _ _ _ _ _) rfl)] at this
      exact this
  have z := h s.heap.objs.size
  unfold callEnvC at z
  rw [hc, hcells] at z
  refine codeX_func ?_
  refine wpX_mono (Q := fun fl s' => match (fl : Flow) with | .ret v => ∃ a L', VR a v ∧ St G L' s' ∧ K a L' | _ => ∃ a L', VR a .none ∧ St G L' s' ∧ K a L') (E := fun ζ ζ => False) ?_ (fun f s' q => by cases f <;> exact q) fun ζ ζ e => e.elim
  refine z.use hA.deeper S' fun fl s1 y L1 hf S1 ⟨L2, sub, k2⟩ => ?_
  cases y with
  | ret a => obtain ⟨v, rfl, hv⟩ := hf; exact ⟨a, L2, hv, S1.pick sub, k2⟩
  | next => obtain rfl : fl = .next := hf; exact ⟨.none, L2, rfl, S1.pick sub, k2⟩
  | brk => obtain rfl : fl = .brk := hf; exact ⟨.none, L2, rfl, S1.pick sub, k2⟩
  | cont => obtain rfl : fl = .cont := hf; exact ⟨.none, L2, rfl, S1.pick sub, k2⟩
end Mine
end
section
open PySem PySem.W PySem.Calls PyProof.Rows PySem.Spec
set_option Elab.async false
set_option linter.unusedVariables false
set_option maxRecDepth 100000
namespace Mine
noncomputable def BinA (G : Gr) (n : Nat) (L : Led) (op : Operator) (a b : AV) (K : AV → Led → Prop) : Prop := ∀ v w, VR a v → VR b w → Cv G n L (binaryOp op v w) K
noncomputable def CmpA (G : Gr) (n : Nat) (L : Led) (op : CmpOp) (a b : AV) (K : AV → Led → Prop) : Prop := ∀ v w, VR a v → VR b w → Cv G n L (compareOp op v w) K
noncomputable def InpA (G : Gr) (n : Nat) (L : Led) (op : Operator) (a b : AV) (K : AV → Led → Prop) : Prop := ∀ v w, VR a v → VR b w → Cv G n L (inplaceOp op v w) K
noncomputable def UnA (G : Gr) (n : Nat) (L : Led) (op : UnaryOp) (a : AV) (K : AV → Led → Prop) : Prop := ∀ v, VR a v → Cv G n L (unaryOp op v) K
noncomputable def TruA (G : Gr) (n : Nat) (L : Led) (a : AV) (K : Bool → Led → Prop) : Prop := ∀ v, VR a v → Cb G n L (truthy v) K
noncomputable def StoA (G : Gr) (n : Nat) (L : Led) (E : Env) (x : Str) (a : AV) (K : Unit → Led → Prop) : Prop := ∀ v, VR a v → Cu G n L (storeName E x v) K
noncomputable def GetA (G : Gr) (n : Nat) (L : Led) (a : AV) (x : Str) (K : AV → Led → Prop) : Prop := ∀ v, VR a v → Cv G n L (getAttr v x true) K
noncomputable def SetA (G : Gr) (n : Nat) (L : Led) (b : AV) (x : Str) (a : AV) (K : Unit → Led → Prop) : Prop := ∀ v w, VR a v → VR b w → Cu G n L (setAttr w x v) K
noncomputable def SubA (G : Gr) (n : Nat) (L : Led) (value slice : Expr) (a b : AV) (K : AV → Led → Prop) : Prop := ∀ v w, VR a v → VR b w → Cs G n L value slice v w K
noncomputable def SliA (G : Gr) (n : Nat) (L : Led) (value : Expr) (lower upper : Option Expr) (p1 : Pos) (a l u : AV) (K : AV → Led → Prop) : Prop := ∀ v lv uv, VR a v → VR l lv → VR u uv →
  ∀ A s, Rm n A → St G L s → wpAny (model G.prog G.w) A (subscriptTail value (.Slice lower upper none p1) v (.ref s.heap.objs.size)) (fun x s' => ∃ y L', VR y x ∧ St G L' s' ∧ K y L') (fun ζ ζ => False) { s with heap := s.heap.push { cls := .type "slice", data := .fields #[lv, uv, .none] } }
noncomputable def GMA (G : Gr) (n : Nat) (L : Led) (a : AV) (x : Str) (K : Value → List Value → Led → Prop) : Prop := ∀ v, VR a v → GM G n L v x K
noncomputable def CallA (G : Gr) (n : Nat) (L : Led) (f : Value) (first : List Value) (as : List AV) (K : AV → Led → Prop) : Prop := ∀ vs, VRs as vs → Cv G n L (call f (first ++ vs)) K
noncomputable def AsgA (G : Gr) (n : Nat) (L : Led) (E : Env) (t : Expr) (a : AV) (K : Unit → Led → Prop) : Prop := ∀ v, VR a v → Cu G n L (assign t E v) K
noncomputable def SItA (G : Gr) (n : Nat) (L : Led) (b c a : AV) (K : Unit → Led → Prop) : Prop := ∀ ov iv v, VR b ov → VR c iv → VR a v → Cu G n L (setItem ov iv v) K
section
variable {G : Gr} {n : Nat} {L L' : Led} {E : Env} {pos p1 p2 np : Pos}
theorem BinA.mk {K : AV → Led → Prop} (h : ∀ v w, VR a v → VR b w → Cv G n L (binaryOp op v w) K) : BinA G n L op a b K := h
theorem CmpA.mk {K : AV → Led → Prop} (h : ∀ v w, VR a v → VR b w → Cv G n L (compareOp op v w) K) : CmpA G n L op a b K := h
theorem InpA.mk {K : AV → Led → Prop} (h : ∀ v w, VR a v → VR b w → Cv G n L (inplaceOp op v w) K) : InpA G n L op a b K := h
theorem UnA.mk {K : AV → Led → Prop} (h : ∀ v, VR a v → Cv G n L (unaryOp op v) K) : UnA G n L op a K := h
theorem TruA.mk {K : Bool → Led → Prop} (h : ∀ v, VR a v → Cb G n L (truthy v) K) : TruA G n L a K := h
theorem StoA.mk {K : Unit → Led → Prop} (h : ∀ v, VR a v → Cu G n L (storeName E x v) K) : StoA G n L E x a K := h
theorem GetA.mk {K : AV → Led → Prop} (h : ∀ v, VR a v → Cv G n L (getAttr v x true) K) : GetA G n L a x K := h
theorem SetA.mk {K : Unit → Led → Prop} (h : ∀ v w, VR a v → VR b w → Cu G n L (setAttr w x v) K) : SetA G n L b x a K := h
theorem SubA.mk {K : AV → Led → Prop} (h : ∀ v w, VR a v → VR b w → Cs G n L value slice v w K) : SubA G n L value slice a b K := h
theorem GMA.mk {K : Value → List Value → Led → Prop} (h : ∀ v, VR a v → GM G n L v x K) : GMA G n L a x K := h
theorem CallA.mk {K : AV → Led → Prop} (h : ∀ vs, VRs as vs → Cv G n L (call f (first ++ vs)) K) : CallA G n L f first as K := h
theorem AsgA.mk {K : Unit → Led → Prop} (h : ∀ v, VR a v → Cu G n L (assign t E v) K) : AsgA G n L E t a K := h
theorem SItA.mk {K : Unit → Led → Prop} (h : ∀ ov iv v, VR b ov → VR c iv → VR a v → Cu G n L (setItem ov iv v) K) : SItA G n L b c a K := h
theorem BinOpA {l r : Expr} {op : Operator} {K : AV → Led → Prop} (h : Cv G n L (eval l E) fun a L1 => Cv G n L1 (eval r E) fun b L2 => BinA G n L2 op a b K) : Cv G n L (eval (.BinOp l op r pos) E) K := BinOp_ h
theorem CompareA {l r : Expr} {op : CmpOp} {K : AV → Led → Prop} (h : Cv G n L (eval l E) fun a L1 => Cv G n L1 (eval r E) fun b L2 => CmpA G n L2 op a b K) (hm : behindInMarks op r = false := by with_unfolding_all rfl) : Cv G n L (eval (.Compare l [op] [r] pos) E) K := Compare_ h hm
theorem UnaryA {x : Expr} {op : UnaryOp} {K : AV → Led → Prop} (h : Cv G n L (eval x E) fun a L1 => UnA G n L1 op a K) : Cv G n L (eval (.UnaryOp op x pos) E) K := Unary_ h
theorem TtCmpA {l r : Expr} {op : CmpOp} {K : Bool → Led → Prop} (h : Cv G n L (eval l E) fun a L1 => Cv G n L1 (eval r E) fun b L2 => CmpA G n L2 op a b fun c L3 => TruA G n L3 c K) (hm : behindInMarks op r = false := by with_unfolding_all rfl) : Tt G n E L (.Compare l [op] [r] pos) K := TtCmp_ h hm
theorem TtValA {x : Expr} {K : Bool → Led → Prop} (h : Cv G n L (eval x E) fun a L1 => TruA G n L1 a K) 
    (he : isTrue x E (eval x E) = (do let v ← eval x E; standAt x.pos; PySem.holding [v] (truthy v)) := by rfl) : Tt G n E L x K := TtVal_ h he
theorem AssignNA {x : Str} {value : Expr} {K : Fl → Led → Prop} (h : Cv G n L (eval value E) fun a L1 => StoA G n L1 E x a fun ζ L2 => K .next L2)
    (hs : swapsWith value (some (.Name x p1)) pos.line E = pure false := by rfl) : Cf G n L (exec (.Assign [.Name x p1] value pos) E) K := AssignN_ h hs
theorem AssignAA {o value : Expr} {name : Str} {K : Fl → Led → Prop} (h : Cv G n L (eval value E) fun a L1 => Cv G n L1 (eval o E) fun b L2 => SetA G n L2 b name a fun ζ L3 => K .next L3)
    (hs : swapsWith value (some (.Attribute o name p1)) pos.line E = pure false := by rfl) : Cf G n L (exec (.Assign [.Attribute o name p1] value pos) E) K := AssignA_ h hs
theorem Assign1A {t value : Expr} {K : Fl → Led → Prop} (h : Cv G n L (eval value E) fun a L1 => AsgA G n L1 E t a fun ζ L2 => K .next L2)
    (hs : swapsWithSole [t] value pos.line E = Pure.pure false := by rfl) (hw : swappedStores [t] value E = Pure.pure none := by rfl) (he : assignEach [t] E = [(false, assign t E)] := by rfl) : Cf G n L (exec (.Assign [t] value pos) E) K := Assign1_ h hs hw he
theorem AugNA {x : Str} {op : Operator} {value : Expr} {K : Fl → Led → Prop} (h : Cv G n L (loadName E x) fun a L1 => Cv G n L1 (eval value E) fun b L2 => InpA G n L2 op a b fun c L3 => StoA G n L3 E x c fun ζ L4 => K .next L4) : Cf G n L (exec (.AugAssign (.Name x p1) op value pos) E) K := AugN_ h
theorem AttrA {o : Expr} {name : Str} {K : AV → Led → Prop} (h : Cv G n L (eval o E) fun a L1 => GetA G n L1 a name K)
    (he : eval (.Attribute o name pos) E = (do
      let o' ← eval o E
      standAt pos.atName
      let r ← PySem.holding [o'] (getAttr o' name true)
      letTemporaryGo o o' r
      pure r) := by rfl) : Cv G n L (eval (.Attribute o name pos) E) K := Attr_ h he
theorem SubXA {value slice : Expr} {K : AV → Led → Prop} (h : Cv G n L (eval value E) fun a L1 => Cv G n L1 (eval slice E) fun b L2 => SubA G n L2 value slice a b K) : Cv G n L (eval (.Subscript value slice pos) E) K := Sub_ h
theorem SubSliceA {value : Expr} {lower upper : Option Expr} {K : AV → Led → Prop} (h : Cv G n L (eval value E) fun a L1 => Ev G n L1 lower E fun l L2 => Ev G n L2 upper E fun u L3 => SliA G n L3 value lower upper p1 a l u K) :
    Cv G n L (eval (.Subscript value (.Slice lower upper none p1) pos) E) K := SubSlice_ h
theorem MCallA {o : Expr} {name : Str} {args : List Expr} {pl : Sem Bool} {K : AV → Led → Prop} (h : Cv G n L (eval o E) fun a L1 => GMA G n L1 a name fun f first L2 => Cv G n L2 (callWith pos f first (backTo pos (starEach args E)) []) K)
    (he : eval (.Call (.Attribute o name p1) args [] pos) E = (do
      let ov ← eval o E
      standAt p1.atName
      let (f, first) ← PySem.holding [ov] (getMethod ov name pl)
      callWith pos f first (backTo pos (starEach args E)) []) := by rfl) : Cv G n L (eval (.Call (.Attribute o name p1) args [] pos) E) K := MCall_ h he
theorem CallWA {f : Value} {first : List Value} {args : List Expr} {K : AV → Led → Prop} (hk : ∀ P, keepIn (kk.heap_1 P) f = true)
    (h : Args G n E pos L args fun as L1 => CallA G n L1 f first as K) (hplain : (backTo pos (starEach args E)).any (·.1) = false := by rfl) : Cv G n L (callWith pos f first (backTo pos (starEach args E)) []) K := CallW_ hk h hplain
theorem CallBA {id : String} {first : List Value} {args : List Expr} {K : AV → Led → Prop}
    (h : Args G n E pos L args fun as L1 => CallA G n L1 (.builtin id) first as K) (hplain : (backTo pos (starEach args E)).any (·.1) = false := by rfl) : Cv G n L (callWith pos (.builtin id) first (backTo pos (starEach args E)) []) K := CallB_ h hplain
theorem CallGNA {x : Str} {f : Addr} {args : List Expr} {K : AV → Led → Prop} (hx : nsIn (kk.heap_1 G.w.params) mainGlobals x = some (some (.ref f))) (hkp : ∀ P, keepIn (kk.heap_1 P) (.ref f) = true)
    (h : Args G n E pos L args fun as L1 => CallA G n L1 (.ref f) [] as K) (hi : E.kindOf x = some .globalImplicit) (hplain : (backTo pos (starEach args E)).any (·.1) = false := by rfl)
    (e1 : E.globals = mainGlobals := by rfl) (hk : E.scope.kind = .function := by rfl) (hd : (x == ("__debug__" : Str)) = false := by decide +kernel) : Cv G n L (eval (.Call (.Name x np) args [] pos) E) K := CallGN_ hx hkp h hi hplain e1 hk hd
theorem CallBNA {x : Str} {id : String} {args : List Expr} {K : AV → Led → Prop} (hx : nsIn (kk.heap_1 G.w.params) mainGlobals x = some none) (hb : bootBuiltins x = some (.builtin id))
    (h : Args G n E pos L args fun as L1 => CallA G n L1 (.builtin id) [] as K) (hi : E.kindOf x = some .globalImplicit) (hplain : (backTo pos (starEach args E)).any (·.1) = false := by rfl)
    (e1 : E.globals = mainGlobals := by rfl) (e2 : E.builtins = builtinsNs := by rfl) (hk : E.scope.kind = .function := by rfl) (hd : (x == ("__debug__" : Str)) = false := by decide +kernel) (hne : (x == ("__name__" : Str)) = false := by decide +kernel) :
    Cv G n L (eval (.Call (.Name x np) args [] pos) E) K := CallBN_ hx hb h hi hplain e1 e2 hk hd hne
theorem CallTNA {x : Str} {T : String} {args : List Expr} {K : AV → Led → Prop} (hx : nsIn (kk.heap_1 G.w.params) mainGlobals x = some none) (hb : bootBuiltins x = some (.type T))
    (h : Args G n E pos L args fun as L1 => CallA G n L1 (.type T) [] as K) (hi : E.kindOf x = some .globalImplicit) (hplain : (backTo pos (starEach args E)).any (·.1) = false := by rfl)
    (e1 : E.globals = mainGlobals := by rfl) (e2 : E.builtins = builtinsNs := by rfl) (hk : E.scope.kind = .function := by rfl) (hd : (x == ("__debug__" : Str)) = false := by decide +kernel) (hne : (x == ("__name__" : Str)) = false := by decide +kernel) :
    Cv G n L (eval (.Call (.Name x np) args [] pos) E) K := CallTN_ hx hb h hi hplain e1 e2 hk hd hne
theorem TurnN {x : Str} {it : Addr} {body orelse : List Stmt} {a : AV} {K : Fl → Led → Prop} (h : StoA G n L E x a fun ζ L3 => Cf G n L3 (execs body E) fun fl L4 => onL fl (Cl G n L4 (.forLoop (.Name x p1) (.ref it) body orelse E) K) (K .next L4) fun a => K (.ret a) L4) :
    Turn G n E (.Name x p1) it body orelse a L K := fun v hv => goN_ (AsgN_ (h v hv))
theorem storeA {x : Str} {a : AV} {sc : Scope} {kvs kvs' : List (Str × Option AV)} {Lf : Addr} {K : Unit → Led → Prop} (U : Up Lf (.ns sc kvs) (.ns sc kvs') L L') (r : Rep x (some a) kvs kvs') (h : K () L')
    (e1 : E.locals = Lf := by rfl) (e2 : E.scope = sc := by rfl) (hk : sc.kind = .function := by rfl) : StoA G n L E x a K := fun ζ hv => store_ hv U r h e1 e2 hk
theorem truthyA {b : Bool} {K : Bool → Led → Prop} (h : K b L) : TruA G n L (.bool b) K := fun ζ hv => truthyB_ hv h
theorem getAA {x C : Addr} {name : Str} {a : AV} {fs : List (Str × AV)} {attr : Option Value} {K : AV → Led → Prop} (hl : (x, AObj.inst C fs) ∈ L) (hx : (name, a) ∈ fs)
    (hc : ∀ P, (plainGet (kk.heap_1 P) C name && hasDictIn (kk.heap_1 P) C) = true ∧ findIn (kk.heap_1 P) (.ref C) name = some attr ∧ noGet (kk.heap_1 P) attr = true)
    (ha : ∀ v, VR a v → handedIn v = true) (h : K a L) : GetA G n L (.con (.ref x)) name K := fun ζ hv => getA_ hv hl hx hc ha h
theorem negA {i : Int} {K : AV → Led → Prop} (h : K (.int (-i)) L) : UnA G n L .USub (.int i) K := fun ζ hv => negI_ hv h
theorem setAA {x C : Addr} {name : Str} {a : AV} {fs fs' : List (Str × AV)} {K : Unit → Led → Prop} (U : Up x (.inst C fs) (.inst C fs') L L') (r : RepF name a fs fs') (hc : ∀ P, stOk P C name) (h : K () L') : SetA G n L (.con (.ref x)) name a K := fun ζ ζ hv hw => setA_ hw hv U r hc h
theorem setNewA {x C : Addr} {name : Str} {a : AV} {fs fs' : List (Str × AV)} {K : Unit → Led → Prop} (hl : (x, AObj.inst C fs) ∈ L) (hs : Snoc (name, a) fs fs') (U : Up x (.inst C fs) (.inst C fs') L L')
    (hn : (fs.all fun p => !(p.1 == name)) = true) (hz : fs.length ≤ 50) (hc : ∀ P, stOk P C name) (h : K () L') : SetA G n L (.con (.ref x)) name a K := fun ζ ζ hv hw => setNew' hw hv hl hs U hn hz hc h
theorem methIA {x C f : Addr} {name : Str} {fs : List (Str × AV)} {K : Value → List Value → Led → Prop} (hl : (x, AObj.inst C fs) ∈ L) (hn : (fs.all fun p => !(p.1 == name)) = true)
    (hc : ∀ P, plainGet (kk.heap_1 P) C name = true ∧ findIn (kk.heap_1 P) (.ref C) name = some (some (.ref f)) ∧ isFn (kk.heap_1 P) (.ref f) = true) (h : K (.ref f) [.ref x] L) : GMA G n L (.con (.ref x)) name K := fun ζ hv => methI_ hv hl hn hc h
theorem methBaA {x : Addr} {name : Str} {id : String} {b : List UInt8} {K : Value → List Value → Led → Prop} (slot : Slot "bytearray" name id) (hty : typeOf (.builtin id) = pure (.type "method_descriptor")) (hl : (x, AObj.barr b) ∈ L) (h : K (.builtin id) [.ref x] L) : GMA G n L (.con (.ref x)) name K := fun ζ hv => methBa_ slot hty hv hl h
theorem methDgetA {x : Addr} {es : List (List UInt8 × AV)} {K : Value → List Value → Led → Prop} (hl : (x, AObj.bd es) ∈ L) (h : K (.builtin "dict.get") [.ref x] L) : GMA G n L (.con (.ref x)) "get" K := fun ζ hv => methDget_ hv hl h
theorem methLA {x : Addr} {xs : List AV} {K : Value → List Value → Led → Prop} (hl : (x, AObj.list xs) ∈ L) (h : K (.builtin "list.append") [.ref x] L) : GMA G n L (.con (.ref x)) "append" K := fun ζ hv => methL_ hv hl h
theorem AsgSA {o i : Expr} {a : AV} {K : Unit → Led → Prop} (h : Cv G n L (eval o E) fun b L1 => Cv G n L1 (eval i E) fun c L2 => SItA G n L2 b c a K) : AsgA G n L E (.Subscript o i p1) a K :=
  fun v hv => AsgS_ (h.mono fun ζ ζ k => k.mono fun ζ ζ k2 ov iv h1 h2 => k2 ov iv v h1 h2 hv)
theorem dsetA {x : Addr} {es : List (List UInt8 × AV)} {k : List UInt8} {a : AV} {K : Unit → Led → Prop} (U : Up x (.bd es) (.bd (putA es k a)) L L') (hz : es.length ≤ 1000000) (h : K () L') : SItA G n L (.con (.ref x)) (.bytes k) a K := fun ζ ζ ζ ho hi hv => dset_ ho hi hv U hz h
theorem itemBA {b : List UInt8} {i : Int} {c : UInt8} {value slice : Expr} {K : AV → Led → Prop} (h0 : 0 ≤ i) (hx : b[i.toNat]? = some c) (hz : b.length ≤ 1000000) (h : K (.int c.toNat) L)
    (hs : ∀ o i, subscripted slice false o i = operate [o, i] (getItem o i) := by intro ζ ζ; rfl) : SubA G n L value slice (.bytes b) (.int i) K := fun ζ ζ hv hw => itemB' hv hw h0 hx hz h hs
theorem itemLA {x : Addr} {xs : List AV} {a : AV} {i : Int} {value slice : Expr} {K : AV → Led → Prop} (hl : (x, AObj.list xs) ∈ L) (h0 : 0 ≤ i) (hz : i < 1000000) (hx : xs[i.toNat]? = some a) (h : K a L)
    (hs : ∀ o i, subscripted slice false o i = operate [o, i] (getItem o i) := by intro ζ ζ; rfl) : SubA G n L value slice (.con (.ref x)) (.int i) K := fun ζ ζ hv hw => itemL_ hv hw hl h0 hz hx h hs
theorem itemTA {x : Addr} {xs : List AV} {a : AV} {i : Int} {value slice : Expr} {K : AV → Led → Prop} (hl : (x, AObj.tuple xs) ∈ L) (h0 : 0 ≤ i) (hz : i < 1000000) (hx : xs[i.toNat]? = some a) (h : K a L)
    (hs : ∀ o i, subscripted slice false o i = operate [o, i] (getItem o i) := by intro ζ ζ; rfl) : SubA G n L value slice (.con (.ref x)) (.int i) K := fun ζ ζ hv hw => itemT_ hv hw hl h0 hz hx h hs
theorem ditemA {x : Addr} {es : List (List UInt8 × AV)} {k : List UInt8} {a : AV} {value slice : Expr} {K : AV → Led → Prop} (hl : (x, AObj.bd es) ∈ L) (hx : lookA es k = some a) (h : K a L)
    (hs : ∀ o i, subscripted slice false o i = operate [o, i] (getItem o i) := by intro ζ ζ; rfl) : SubA G n L value slice (.con (.ref x)) (.bytes k) K := fun ζ ζ hv hw => ditem_ hv hw hl hx h hs
theorem iitemA {x : Addr} {es : List (Int × AV)} {k : Int} {a : AV} {value slice : Expr} {K : AV → Led → Prop} (hl : (x, AObj.idict es) ∈ L) (hx : lookA es k = some a) (h : K a L)
    (hs : ∀ o i, subscripted slice false o i = operate [o, i] (getItem o i) := by intro ζ ζ; rfl) : SubA G n L value slice (.con (.ref x)) (.int k) K := fun ζ ζ hv hw => iitem_ hv hw hl hx h hs
theorem sliceBA {b out : List UInt8} {lo hi : Int} {value : Expr} {lower upper : Option Expr} {K : AV → Led → Prop} (h0 : 0 ≤ lo) (h1 : lo ≤ hi) (h2 : hi ≤ b.length) (hz : b.length ≤ 1000000) (ho : (b.drop lo.toNat).take (hi.toNat - lo.toNat) = out) (h : K (.bytes out) L) :
    SliA G n L value lower upper p1 (.bytes b) (.int lo) (.int hi) K := fun ζ ζ ζ hv hl hu => sliceB' hv hl hu h0 h1 h2 hz ho h
theorem sliceBfA {b out : List UInt8} {lo : Int} {value : Expr} {lower upper : Option Expr} {K : AV → Led → Prop} (h0 : 0 ≤ lo) (h1 : lo ≤ b.length) (hz : b.length ≤ 1000000) (ho : b.drop lo.toNat = out) (h : K (.bytes out) L) :
    SliA G n L value lower upper p1 (.bytes b) (.int lo) .none K := fun ζ ζ ζ hv hl hu => sliceBf hv hl hu h0 h1 hz ho h
theorem sliceLA0 {x : Addr} {xs : List AV} {hi : Int} {value : Expr} {lower upper : Option Expr} {K : AV → Led → Prop} (hx : (x, AObj.list xs) ∈ L) (hz : xs.length ≤ 1000000)
    (h : ∀ p, K (.con (.ref p)) ((p, .list ((xs.drop ((none : Option Int).elim 0 (clipAt xs.length))).take ((some hi).elim xs.length (clipAt xs.length) - (none : Option Int).elim 0 (clipAt xs.length)))) :: L)) : SliA G n L value lower upper p1 (.con (.ref x)) .none (.int hi) K := fun ζ ζ ζ hv hl hu => sliceL_ (lo := none) (hi := some _) hv hl hu rfl rfl hx hz h
theorem sliceLA1 {x : Addr} {xs : List AV} {lo : Int} {value : Expr} {lower upper : Option Expr} {K : AV → Led → Prop} (hx : (x, AObj.list xs) ∈ L) (hz : xs.length ≤ 1000000)
    (h : ∀ p, K (.con (.ref p)) ((p, .list ((xs.drop ((some lo).elim 0 (clipAt xs.length))).take ((none : Option Int).elim xs.length (clipAt xs.length) - (some lo).elim 0 (clipAt xs.length)))) :: L)) : SliA G n L value lower upper p1 (.con (.ref x)) (.int lo) .none K := fun ζ ζ ζ hv hl hu => sliceL_ (lo := some _) (hi := none) hv hl hu rfl rfl hx hz h
theorem addIA {a b : Int} {K : AV → Led → Prop} (h : K (.int (a + b)) L) : BinA G n L .Add (.int a) (.int b) K := fun ζ ζ hv hw => addI_ hv hw h
theorem subIA {a b : Int} {K : AV → Led → Prop} (h : K (.int (a - b)) L) : BinA G n L .Sub (.int a) (.int b) K := fun ζ ζ hv hw => subI_ hv hw h
theorem andIA {a b : Int} {K : AV → Led → Prop} (h : K (.int (Builtin.bitAnd a b)) L) : BinA G n L .BitAnd (.int a) (.int b) K := fun ζ ζ hv hw => andI_ hv hw h
theorem orIA {a b : Int} {K : AV → Led → Prop} (h : K (.int (Builtin.bitOr a b)) L) : BinA G n L .BitOr (.int a) (.int b) K := fun ζ ζ hv hw => orI_ hv hw h
theorem shrIA {a b : Int} {K : AV → Led → Prop} (hb : 0 ≤ b) (h : K (.int (a.fdiv (2 ^ b.toNat))) L) : BinA G n L .RShift (.int a) (.int b) K := fun ζ ζ hv hw => shrI_ hv hw hb h
theorem shlIA {a b : Int} {K : AV → Led → Prop} (hb : 0 ≤ b) (hb2 : b ≤ 1000000) (ha : a.natAbs < 2 ^ 64) (h : K (.int (a * 2 ^ b.toNat)) L) : BinA G n L .LShift (.int a) (.int b) K := fun ζ ζ hv hw => shlI_ hv hw hb hb2 ha h
theorem modIA {a b : Int} {K : AV → Led → Prop} (hb : b ≠ 0) (h : K (.int (a.fmod b)) L) : BinA G n L .Mod (.int a) (.int b) K := fun ζ ζ hv hw => modI_ hv hw hb h
theorem divIA {a b : Int} {K : AV → Led → Prop} (hb : b ≠ 0) (hp : Builtin.divisionGoesByPylong a b = false) (h : K (.int (a.fdiv b)) L) : BinA G n L .FloorDiv (.int a) (.int b) K := fun ζ ζ hv hw => divI_ hv hw hb hp h
theorem mulIA {a b : Int} {K : AV → Led → Prop} (hm : IntMulOk a b) (h : K (.int (a * b)) L) : BinA G n L .Mult (.int a) (.int b) K := fun ζ ζ hv hw => mulI_ hv hw hm h
theorem addBA {a b : List UInt8} {K : AV → Led → Prop} (hz : a.length + b.length ≤ 1000000) (h : K (.bytes (a ++ b)) L) : BinA G n L .Add (.bytes a) (.bytes b) K := fun ζ ζ hv hw => addB_ hv hw hz h
theorem ltIA {a b : Int} {K : AV → Led → Prop} (h : K (.bool (decide (a < b))) L) : CmpA G n L .Lt (.int a) (.int b) K := fun ζ ζ hv hw => ltI_ hv hw h
theorem gtIA {a b : Int} {K : AV → Led → Prop} (h : K (.bool (decide (a > b))) L) : CmpA G n L .Gt (.int a) (.int b) K := fun ζ ζ hv hw => gtI_ hv hw h
theorem geIA {a b : Int} {K : AV → Led → Prop} (h : K (.bool (decide (a ≥ b))) L) : CmpA G n L .GtE (.int a) (.int b) K := fun ζ ζ hv hw => geI_ hv hw h
theorem eqIA {a b : Int} {K : AV → Led → Prop} (h : K (.bool (a == b)) L) : CmpA G n L .Eq (.int a) (.int b) K := fun ζ ζ hv hw => eqI_ hv hw h
theorem neIA {a b : Int} {K : AV → Led → Prop} (h : K (.bool (a != b)) L) : CmpA G n L .NotEq (.int a) (.int b) K := fun ζ ζ hv hw => neI_ hv hw h
theorem ltBA {a b : List UInt8} {K : AV → Led → Prop} (h : K (.bool (lt8 a b)) L) : CmpA G n L .Lt (.bytes a) (.bytes b) K := fun ζ ζ hv hw => ltB_ hv hw h
theorem geBA {a b : List UInt8} {K : AV → Led → Prop} (h : K (.bool (!lt8 a b)) L) : CmpA G n L .GtE (.bytes a) (.bytes b) K := fun ζ ζ hv hw => geB_ hv hw h
theorem eqBA {a b : List UInt8} {K : AV → Led → Prop} (h : K (.bool (a == b)) L) : CmpA G n L .Eq (.bytes a) (.bytes b) K := fun ζ ζ hv hw => eqB_ hv hw h
theorem neBA {a b : List UInt8} {K : AV → Led → Prop} (h : K (.bool (a != b)) L) : CmpA G n L .NotEq (.bytes a) (.bytes b) K := fun ζ ζ hv hw => neB_ hv hw h
theorem neOA {a b : Option (List UInt8)} {K : AV → Led → Prop} (h : K (.bool (a != b)) L) : CmpA G n L .NotEq (opt a) (opt b) K := fun ζ ζ hv hw => neO_ hv hw h
theorem isNotNoneOA {b : Option (List UInt8)} {K : AV → Led → Prop} (h : K (.bool b.isSome) L) : CmpA G n L .IsNot (opt b) .none K := fun ζ ζ hv hw => isNotNoneO_ hv hw h
theorem isNotNoneRA {x : Addr} {K : AV → Led → Prop} (h : K (.bool true) L) : CmpA G n L .IsNot (.con (.ref x)) .none K := fun ζ ζ hv hw => isNotNoneR_ hv hw h
theorem dinA {x : Addr} {es : List (List UInt8 × AV)} {k : List UInt8} {K : AV → Led → Prop} (hl : (x, AObj.bd es) ∈ L) (h : K (.bool (lookA es k).isSome) L) : CmpA G n L .In (.bytes k) (.con (.ref x)) K := fun ζ ζ hv hw => din_ hv hw hl h
theorem iaddIA {a b : Int} {K : AV → Led → Prop} (h : K (.int (a + b)) L) : InpA G n L .Add (.int a) (.int b) K := fun ζ ζ hv hw => iaddI_ hv hw h
theorem iorIA {a b : Int} {K : AV → Led → Prop} (h : K (.int (Builtin.bitOr a b)) L) : InpA G n L .BitOr (.int a) (.int b) K := fun ζ ζ hv hw => iorI_ hv hw h
theorem ishrIA {a b : Int} {K : AV → Led → Prop} (hb : 0 ≤ b) (h : K (.int (a.fdiv (2 ^ b.toNat))) L) : InpA G n L .RShift (.int a) (.int b) K := fun ζ ζ hv hw => ishrI_ hv hw hb h
theorem isNoneNA {K : AV → Led → Prop} (h : K (.bool true) L) : CmpA G n L .Is .none .none K := fun ζ ζ hv hw => isNone_ (b := true) hv hw rfl h
theorem isNotNoneNA {K : AV → Led → Prop} (h : K (.bool false) L) : CmpA G n L .IsNot .none .none K := fun ζ ζ hv hw => isNotNone_ (b := true) hv hw rfl h
theorem isNoneBA {b : List UInt8} {K : AV → Led → Prop} (h : K (.bool false) L) : CmpA G n L .Is (.bytes b) .none K := fun ζ ζ hv hw => isNone_ (b := false) hv hw rfl h
theorem isNotNoneBA {b : List UInt8} {K : AV → Led → Prop} (h : K (.bool true) L) : CmpA G n L .IsNot (.bytes b) .none K := fun ζ ζ hv hw => isNotNone_ (b := false) hv hw rfl h
theorem lenBA {b : List UInt8} {K : AV → Led → Prop} (hz : b.length ≤ 1000000) (h : K (.int b.length) L) : CallA G n L (.builtin "len") [] [.bytes b] K := fun ζ hv => lenB_ hv hz h
theorem lenLA {x : Addr} {xs : List AV} {K : AV → Led → Prop} (hl : (x, AObj.list xs) ∈ L) (hz : xs.length ≤ 1000000) (h : K (.int xs.length) L) : CallA G n L (.builtin "len") [] [.con (.ref x)] K := fun ζ hv => lenL_ hv hl hz h
theorem maxIA {a b : Int} {K : AV → Led → Prop} (h : K (.int (if a < b then b else a)) L) : CallA G n L (.builtin "max") [] [.int a, .int b] K := fun ζ hv => maxI_ hv h
theorem minIA {a b : Int} {K : AV → Led → Prop} (h : K (.int (if b < a then b else a)) L) : CallA G n L (.builtin "min") [] [.int a, .int b] K := fun ζ hv => minI_ hv h
theorem makeBaA {K : AV → Led → Prop} (h : ∀ p, K (.con (.ref p)) ((p, .barr []) :: L)) : CallA G n L (.type "bytearray") [] [] K := fun ζ hv => makeBa_ h hv
theorem rangeNA {k : Int} {K : AV → Led → Prop} (h : ∀ p, K (.con (.ref p)) ((p, .range 0 k) :: L)) : CallA G n L (.type "range") [] [.int k] K := fun ζ hv => rangeN_ hv h
theorem tupleLA {x : Addr} {xs : List AV} {K : AV → Led → Prop} (hl : (x, AObj.list xs) ∈ L) (hz : xs.length ≤ 1000000) (h : ∀ p, K (.con (.ref p)) ((p, .tuple xs) :: L)) : CallA G n L (.type "tuple") [] [.con (.ref x)] K := fun ζ hv => tupleL_ hv hl hz h
theorem bytesLA {a : Addr} {xs : List AV} {ns : List Int} {K : AV → Led → Prop} (hl : (a, AObj.list xs) ∈ L) (hx : IntsOf xs ns) (hr : ∀ k ∈ ns, 0 ≤ k ∧ k < 256) (hz : ns.length ≤ 1000000) (h : K (.bytes (ns.map fun k => k.toNat.toUInt8)) L) : CallA G n L (.type "bytes") [] [.con (.ref a)] K := fun ζ hv => bytesL' hv hl hx hr hz h
theorem bytesBA {b : List UInt8} {K : AV → Led → Prop} (h : K (.bytes b) L) : CallA G n L (.type "bytes") [] [.bytes b] K := fun ζ hv => bytesB_ hv h
theorem bytesBaA {a : Addr} {b : List UInt8} {K : AV → Led → Prop} (hl : (a, AObj.barr b) ∈ L) (hz : b.length ≤ 1000000) (h : K (.bytes b) L) : CallA G n L (.type "bytes") [] [.con (.ref a)] K := fun ζ hv => bytesBa_ hv hl hz h
theorem appendBaA {x : Addr} {i : Int} {b : List UInt8} {K : AV → Led → Prop} (U : Up x (.barr b) (.barr (b ++ [i.toNat.toUInt8])) L L') (h0 : 0 ≤ i) (h1 : i < 256) (hz : b.length ≤ 1000000) (h : K .none L') : CallA G n L (.builtin "bytearray.append") [.ref x] [.int i] K := fun ζ hv => appendBa_ hv U h0 h1 hz h
theorem extendBaA {x : Addr} {c : List UInt8} {b : List UInt8} {K : AV → Led → Prop} (U : Up x (.barr b) (.barr (b ++ c)) L L') (hz : b.length + c.length ≤ 1000000) (h : K .none L') : CallA G n L (.builtin "bytearray.extend") [.ref x] [.bytes c] K := fun ζ hv => extendBa_ hv U hz h
theorem appendLA {x : Addr} {a : AV} {xs : List AV} {K : AV → Led → Prop} (U : Up x (.list xs) (.list (xs ++ [a])) L L') (hz : xs.length ≤ 1000000) (h : K .none L') : CallA G n L (.builtin "list.append") [.ref x] [a] K := fun ζ hv => appendL_ hv U hz h
theorem dgetA {x : Addr} {es : List (List UInt8 × AV)} {k : List UInt8} {K : AV → Led → Prop} (hl : (x, AObj.bd es) ∈ L) (h : K ((lookA es k).getD .none) L) : CallA G n L (.builtin "dict.get") [.ref x] [.bytes k] K := fun ζ hv => dget_ hv hl h
theorem copyLA {x : Addr} {xs : List AV} {K : AV → Led → Prop} (hl : (x, AObj.list xs) ∈ L) (hz : xs.length ≤ 1000000) (h : ∀ p, K (.con (.ref p)) ((p, .list xs) :: L)) : CallA G n L (.type "list") [] [.con (.ref x)] K := fun ζ hv => copyL_ hv hl hz h
noncomputable def CcA (G : Gr) (n : Nat) (L : Led) (f : Value) (first : List Value) (as : List AV) (K : AV → Led → Prop) : Prop := ∀ vs, VRs as vs → Cc G n L f (first ++ vs) K
theorem CcA.pick {f : Value} {first : List Value} {as : List AV} {K : AV → Led → Prop} (hs : Pick L' L) (h : CcA G n L' f first as K) : CcA G n L f first as K := fun vs hv => Cc.pick hs (h vs hv)
theorem addLA {x y : Addr} {xs ys : List AV} {K : AV → Led → Prop} (hx : (x, AObj.list xs) ∈ L) (hy : (y, AObj.list ys) ∈ L) (hz : xs.length + ys.length ≤ 1000000) (h : ∀ p, K (.con (.ref p)) ((p, .list (xs ++ ys)) :: L)) : BinA G n L .Add (.con (.ref x)) (.con (.ref y)) K := fun ζ ζ hv hw => addL_ hv hw hx hy hz h
theorem AugAA {o value : Expr} {name : Str} {op : Operator} {K : Fl → Led → Prop}
    (h : Cv G n L (eval o E) fun b L1 => GetA G n L1 b name fun a L2 => Cv G n L2 (eval value E) fun c L3 => InpA G n L3 op a c fun d L4 => SetA G n L4 b name d fun ζ L5 => K .next L5) : Cf G n L (exec (.AugAssign (.Attribute o name p1) op value pos) E) K :=
  AugA_ (h.mono fun ζ ζ k w hw => (k w hw).mono fun ζ ζ k2 => k2.mono fun ζ ζ k3 v u h1 h2 => (k3 v u h1 h2).mono fun ζ ζ k4 x hx => k4 x w hx hw)
theorem n_tr {x a b : Nat} (h : x ≤ a) (e : Nat.ble a b = true) : x ≤ b := Nat.le_trans h (Nat.le_of_ble_eq_true e)
theorem n_lt {x a b : Nat} (h : x < a) (e : Nat.ble a b = true) : x < b := Nat.lt_of_lt_of_le h (Nat.le_of_ble_eq_true e)
theorem n_le_lt {x a b : Nat} (h : x ≤ a) (e : Nat.blt a b = true) : x < b := Nat.lt_of_le_of_lt h (Nat.le_of_ble_eq_true e)
theorem n_up {a b n : Nat} (h : b ≤ n) (e : Nat.ble a b = true) : a ≤ n := Nat.le_trans (Nat.le_of_ble_eq_true e) h
theorem n_pr {a b n k : Nat} (h : b ≤ n) (e : Nat.ble (a + k) b = true) : a ≤ n - k := Nat.le_sub_of_add_le (Nat.le_trans (Nat.le_of_ble_eq_true e) h)
theorem c_nn {i : Nat} : (0 : Int) ≤ (i : Int) := Int.natCast_nonneg i
theorem c_lt {i k : Nat} {m : Int} (h : i < k) (e : decide ((k : Int) ≤ m) = true) : (i : Int) < m := by have := of_decide_eq_true e; lia
theorem c_le {i k : Nat} {m : Int} (h : i ≤ k) (e : decide ((k : Int) ≤ m) = true) : (i : Int) ≤ m := by have := of_decide_eq_true e; lia
theorem i_lt {x a b : Int} (h : x < a) (e : decide (a ≤ b) = true) : x < b := Int.lt_of_lt_of_le h (of_decide_eq_true e)
theorem i_le_lt {x a b : Int} (h : x ≤ a) (e : decide (a < b) = true) : x < b := Int.lt_of_le_of_lt h (of_decide_eq_true e)
theorem i_cl {a b : Int} (e : decide (a ≤ b) = true) : a ≤ b := of_decide_eq_true e
theorem i_cl' {a b : Int} (e : decide (a < b) = true) : a < b := of_decide_eq_true e
theorem C.hide {α β : Type} {R : β → α → Prop} {t : Sem α} {K : β → Led → Prop} (h : ∀ K' : β → Led → Prop, (∀ y L, K y L → K' y L) → C R G n L t K') : C R G n L t K := h K fun ζ ζ q => q
theorem hideOut {β : Type} {K K' : β → Led → Prop} {y : β} {L : Led} (hk : ∀ y L, K y L → K' y L) (h : K y L) : K' y L := hk y L h
end
end Mine
end
section
open PySem PySem.W PySem.Calls PyProof.Rows PySem.Spec
set_option Elab.async false
set_option linter.unusedVariables false
set_option maxRecDepth 100000
namespace Mine
section
variable {a : Addr} {o o' : AObj} {p0 p1 p2 p3 p4 p5 p6 p7 p8 p9 : Addr × AObj} {L L' : Led}
theorem up0 : Up a o o' ((a, o) :: L) ((a, o') :: L) := .head
theorem rm0 {p : Addr × AObj} : Rem p (p :: L) (L) := .head
theorem up1 : Up a o o' (p0 :: (a, o) :: L) (p0 :: (a, o') :: L) := .tail (.head)
theorem rm1 {p : Addr × AObj} : Rem p (p0 :: p :: L) (p0 :: L) := .tail (.head)
theorem up2 : Up a o o' (p0 :: p1 :: (a, o) :: L) (p0 :: p1 :: (a, o') :: L) := .tail (.tail (.head))
theorem rm2 {p : Addr × AObj} : Rem p (p0 :: p1 :: p :: L) (p0 :: p1 :: L) := .tail (.tail (.head))
theorem up3 : Up a o o' (p0 :: p1 :: p2 :: (a, o) :: L) (p0 :: p1 :: p2 :: (a, o') :: L) := .tail (.tail (.tail (.head)))
theorem rm3 {p : Addr × AObj} : Rem p (p0 :: p1 :: p2 :: p :: L) (p0 :: p1 :: p2 :: L) := .tail (.tail (.tail (.head)))
theorem up4 : Up a o o' (p0 :: p1 :: p2 :: p3 :: (a, o) :: L) (p0 :: p1 :: p2 :: p3 :: (a, o') :: L) := .tail (.tail (.tail (.tail (.head))))
theorem rm4 {p : Addr × AObj} : Rem p (p0 :: p1 :: p2 :: p3 :: p :: L) (p0 :: p1 :: p2 :: p3 :: L) := .tail (.tail (.tail (.tail (.head))))
theorem up5 : Up a o o' (p0 :: p1 :: p2 :: p3 :: p4 :: (a, o) :: L) (p0 :: p1 :: p2 :: p3 :: p4 :: (a, o') :: L) := .tail (.tail (.tail (.tail (.tail (.head)))))
theorem rm5 {p : Addr × AObj} : Rem p (p0 :: p1 :: p2 :: p3 :: p4 :: p :: L) (p0 :: p1 :: p2 :: p3 :: p4 :: L) := .tail (.tail (.tail (.tail (.tail (.head)))))
theorem up6 : Up a o o' (p0 :: p1 :: p2 :: p3 :: p4 :: p5 :: (a, o) :: L) (p0 :: p1 :: p2 :: p3 :: p4 :: p5 :: (a, o') :: L) := .tail (.tail (.tail (.tail (.tail (.tail (.head))))))
theorem rm6 {p : Addr × AObj} : Rem p (p0 :: p1 :: p2 :: p3 :: p4 :: p5 :: p :: L) (p0 :: p1 :: p2 :: p3 :: p4 :: p5 :: L) := .tail (.tail (.tail (.tail (.tail (.tail (.head))))))
theorem up7 : Up a o o' (p0 :: p1 :: p2 :: p3 :: p4 :: p5 :: p6 :: (a, o) :: L) (p0 :: p1 :: p2 :: p3 :: p4 :: p5 :: p6 :: (a, o') :: L) := .tail (.tail (.tail (.tail (.tail (.tail (.tail (.head)))))))
theorem rm7 {p : Addr × AObj} : Rem p (p0 :: p1 :: p2 :: p3 :: p4 :: p5 :: p6 :: p :: L) (p0 :: p1 :: p2 :: p3 :: p4 :: p5 :: p6 :: L) := .tail (.tail (.tail (.tail (.tail (.tail (.tail (.head)))))))
theorem up8 : Up a o o' (p0 :: p1 :: p2 :: p3 :: p4 :: p5 :: p6 :: p7 :: (a, o) :: L) (p0 :: p1 :: p2 :: p3 :: p4 :: p5 :: p6 :: p7 :: (a, o') :: L) := .tail (.tail (.tail (.tail (.tail (.tail (.tail (.tail (.head))))))))
theorem rm8 {p : Addr × AObj} : Rem p (p0 :: p1 :: p2 :: p3 :: p4 :: p5 :: p6 :: p7 :: p :: L) (p0 :: p1 :: p2 :: p3 :: p4 :: p5 :: p6 :: p7 :: L) := .tail (.tail (.tail (.tail (.tail (.tail (.tail (.tail (.head))))))))
theorem up9 : Up a o o' (p0 :: p1 :: p2 :: p3 :: p4 :: p5 :: p6 :: p7 :: p8 :: (a, o) :: L) (p0 :: p1 :: p2 :: p3 :: p4 :: p5 :: p6 :: p7 :: p8 :: (a, o') :: L) := .tail (.tail (.tail (.tail (.tail (.tail (.tail (.tail (.tail (.head)))))))))
theorem rm9 {p : Addr × AObj} : Rem p (p0 :: p1 :: p2 :: p3 :: p4 :: p5 :: p6 :: p7 :: p8 :: p :: L) (p0 :: p1 :: p2 :: p3 :: p4 :: p5 :: p6 :: p7 :: p8 :: L) := .tail (.tail (.tail (.tail (.tail (.tail (.tail (.tail (.tail (.head)))))))))
theorem upt (h : Up a o o' L L') : Up a o o' (p0 :: p1 :: p2 :: p3 :: p4 :: p5 :: p6 :: p7 :: p8 :: p9 :: L) (p0 :: p1 :: p2 :: p3 :: p4 :: p5 :: p6 :: p7 :: p8 :: p9 :: L') := .tail (.tail (.tail (.tail (.tail (.tail (.tail (.tail (.tail (.tail (h))))))))))
theorem rmt {p : Addr × AObj} (h : Rem p L L') : Rem p (p0 :: p1 :: p2 :: p3 :: p4 :: p5 :: p6 :: p7 :: p8 :: p9 :: L) (p0 :: p1 :: p2 :: p3 :: p4 :: p5 :: p6 :: p7 :: p8 :: p9 :: L') := .tail (.tail (.tail (.tail (.tail (.tail (.tail (.tail (.tail (.tail (h))))))))))
theorem pk {p : Addr × AObj} (h : Rem p L L') : Pick (p :: L') L := .cons h .refl
end
section
variable {α : Type} {x p0 p1 p2 p3 p4 p5 p6 p7 p8 p9 : α} {L : List α}
theorem mm0 : x ∈ x :: L := .head _
theorem mm1 : x ∈ p0 :: x :: L := .tail _ (.head _)
theorem mm2 : x ∈ p0 :: p1 :: x :: L := .tail _ (.tail _ (.head _))
theorem mm3 : x ∈ p0 :: p1 :: p2 :: x :: L := .tail _ (.tail _ (.tail _ (.head _)))
theorem mm4 : x ∈ p0 :: p1 :: p2 :: p3 :: x :: L := .tail _ (.tail _ (.tail _ (.tail _ (.head _))))
theorem mm5 : x ∈ p0 :: p1 :: p2 :: p3 :: p4 :: x :: L := .tail _ (.tail _ (.tail _ (.tail _ (.tail _ (.head _)))))
theorem mm6 : x ∈ p0 :: p1 :: p2 :: p3 :: p4 :: p5 :: x :: L := .tail _ (.tail _ (.tail _ (.tail _ (.tail _ (.tail _ (.head _))))))
theorem mm7 : x ∈ p0 :: p1 :: p2 :: p3 :: p4 :: p5 :: p6 :: x :: L := .tail _ (.tail _ (.tail _ (.tail _ (.tail _ (.tail _ (.tail _ (.head _)))))))
theorem mm8 : x ∈ p0 :: p1 :: p2 :: p3 :: p4 :: p5 :: p6 :: p7 :: x :: L := .tail _ (.tail _ (.tail _ (.tail _ (.tail _ (.tail _ (.tail _ (.tail _ (.head _))))))))
theorem mm9 : x ∈ p0 :: p1 :: p2 :: p3 :: p4 :: p5 :: p6 :: p7 :: p8 :: x :: L := .tail _ (.tail _ (.tail _ (.tail _ (.tail _ (.tail _ (.tail _ (.tail _ (.tail _ (.head _)))))))))
theorem mmt (h : x ∈ L) : x ∈ p0 :: p1 :: p2 :: p3 :: p4 :: p5 :: p6 :: p7 :: p8 :: p9 :: L := .tail _ (.tail _ (.tail _ (.tail _ (.tail _ (.tail _ (.tail _ (.tail _ (.tail _ (.tail _ (h))))))))))
end
section
variable {x : Str} {a b : Option AV} {p0 p1 p2 p3 p4 p5 p6 p7 p8 p9 : Str × Option AV} {L L' : List (Str × Option AV)}
theorem rp0 : Rep x a ((x, b) :: L) ((x, a) :: L) := .head
theorem rp1 : Rep x a (p0 :: (x, b) :: L) (p0 :: (x, a) :: L) := .tail (.head)
theorem rp2 : Rep x a (p0 :: p1 :: (x, b) :: L) (p0 :: p1 :: (x, a) :: L) := .tail (.tail (.head))
theorem rp3 : Rep x a (p0 :: p1 :: p2 :: (x, b) :: L) (p0 :: p1 :: p2 :: (x, a) :: L) := .tail (.tail (.tail (.head)))
theorem rp4 : Rep x a (p0 :: p1 :: p2 :: p3 :: (x, b) :: L) (p0 :: p1 :: p2 :: p3 :: (x, a) :: L) := .tail (.tail (.tail (.tail (.head))))
theorem rp5 : Rep x a (p0 :: p1 :: p2 :: p3 :: p4 :: (x, b) :: L) (p0 :: p1 :: p2 :: p3 :: p4 :: (x, a) :: L) := .tail (.tail (.tail (.tail (.tail (.head)))))
theorem rp6 : Rep x a (p0 :: p1 :: p2 :: p3 :: p4 :: p5 :: (x, b) :: L) (p0 :: p1 :: p2 :: p3 :: p4 :: p5 :: (x, a) :: L) := .tail (.tail (.tail (.tail (.tail (.tail (.head))))))
theorem rp7 : Rep x a (p0 :: p1 :: p2 :: p3 :: p4 :: p5 :: p6 :: (x, b) :: L) (p0 :: p1 :: p2 :: p3 :: p4 :: p5 :: p6 :: (x, a) :: L) := .tail (.tail (.tail (.tail (.tail (.tail (.tail (.head)))))))
theorem rp8 : Rep x a (p0 :: p1 :: p2 :: p3 :: p4 :: p5 :: p6 :: p7 :: (x, b) :: L) (p0 :: p1 :: p2 :: p3 :: p4 :: p5 :: p6 :: p7 :: (x, a) :: L) := .tail (.tail (.tail (.tail (.tail (.tail (.tail (.tail (.head))))))))
theorem rp9 : Rep x a (p0 :: p1 :: p2 :: p3 :: p4 :: p5 :: p6 :: p7 :: p8 :: (x, b) :: L) (p0 :: p1 :: p2 :: p3 :: p4 :: p5 :: p6 :: p7 :: p8 :: (x, a) :: L) := .tail (.tail (.tail (.tail (.tail (.tail (.tail (.tail (.tail (.head)))))))))
theorem rpt (h : Rep x a L L') : Rep x a (p0 :: p1 :: p2 :: p3 :: p4 :: p5 :: p6 :: p7 :: p8 :: p9 :: L) (p0 :: p1 :: p2 :: p3 :: p4 :: p5 :: p6 :: p7 :: p8 :: p9 :: L') := .tail (.tail (.tail (.tail (.tail (.tail (.tail (.tail (.tail (.tail (h))))))))))
end
section
variable {x : Str} {a b : AV} {p0 p1 p2 p3 p4 p5 p6 p7 p8 p9 : Str × AV} {L L' : List (Str × AV)}
theorem rf1 : RepF x a (p0 :: (x, b) :: L) (p0 :: (x, a) :: L) := .tail (.head)
theorem rf2 : RepF x a (p0 :: p1 :: (x, b) :: L) (p0 :: p1 :: (x, a) :: L) := .tail (.tail (.head))
theorem rf3 : RepF x a (p0 :: p1 :: p2 :: (x, b) :: L) (p0 :: p1 :: p2 :: (x, a) :: L) := .tail (.tail (.tail (.head)))
theorem rf4 : RepF x a (p0 :: p1 :: p2 :: p3 :: (x, b) :: L) (p0 :: p1 :: p2 :: p3 :: (x, a) :: L) := .tail (.tail (.tail (.tail (.head))))
end
theorem decT {p : Prop} [Decidable p] (h : p) : decide p = true := decide_eq_true h
theorem decF {p : Prop} [Decidable p] (h : ¬p) : decide p = false := decide_eq_false h
theorem eqT {α : Type} [BEq α] [LawfulBEq α] {a b : α} (h : a = b) : (a == b) = true := beq_iff_eq.mpr h
theorem eqF {α : Type} [BEq α] [LawfulBEq α] {a b : α} (h : a ≠ b) : (a == b) = false := beq_eq_false_iff_ne.mpr h
theorem nqT {α : Type} [BEq α] [LawfulBEq α] {a b : α} (h : a ≠ b) : (a != b) = true := bne_iff_ne.mpr h
theorem nqF {α : Type} [BEq α] [LawfulBEq α] {a b : α} (h : a = b) : (a != b) = false := by rw [h]; exact bne_self_eq_false b
theorem i_nlt {a b : Int} (h : b ≤ a) : ¬a < b := Int.not_lt.mpr h
theorem i_nle {a b : Int} (h : b < a) : ¬a ≤ b := Int.not_le.mpr h
theorem i_lt_ne {a b : Int} (h : a < b) : a ≠ b := Int.ne_of_lt h
theorem i_gt_ne {a b : Int} (h : b < a) : a ≠ b := Ne.symm (Int.ne_of_lt h)
structure Fr (E : Env) (p : Addr) (sc : Scope) : Prop where
  l : E.locals = p
  s : E.scope = sc
  k : sc.kind = .function
  g : E.globals = mainGlobals
  b : E.builtins = builtinsNs
theorem Fr.k' {E : Env} {p : Addr} {sc : Scope} (h : Fr E p sc) : E.scope.kind = .function := by rw [h.s]; exact h.k
theorem Fr.of {E : Env} {p : Addr} {sc : Scope} {x : Str} {k : NameKind} (h : Fr E p sc) (e : sc.names.lookup x = some k) : E.kindOf x = some k := by unfold Env.kindOf; rw [h.s]; exact e
section
variable {G : Gr} {n : Nat} {L L' : Led} {E : Env} {pos p1 p2 np : Pos} {p : Addr} {sc : Scope}
noncomputable def Vx (G : Gr) (n : Nat) (E : Env) (L : Led) (e : Expr) (a : AV) : Prop := ∀ K : AV → Led → Prop, K a L → Cv G n L (eval e E) K
noncomputable def Tv (G : Gr) (n : Nat) (E : Env) (L : Led) (e : Expr) (b : Bool) : Prop := ∀ K : Bool → Led → Prop, K b L → Tt G n E L e K
noncomputable def Al (G : Gr) (n : Nat) (E : Env) (L : Led) (op : BoolOp) (es : List Expr) (b : Bool) : Prop := ∀ K : Bool → Led → Prop, K b L → Cb G n L (allTrue op es E) K
noncomputable def Evs (G : Gr) (n : Nat) (E : Env) (L : Led) (es : List Expr) (as : List AV) : Prop := ∀ (pos : Pos) (K : List AV → Led → Prop), K as L → Args G n E pos L es K
noncomputable def BinR (G : Gr) (n : Nat) (L : Led) (op : Operator) (a b c : AV) : Prop := ∀ K : AV → Led → Prop, K c L → BinA G n L op a b K
noncomputable def CmpR (G : Gr) (n : Nat) (L : Led) (op : CmpOp) (a b : AV) (c : Bool) : Prop := ∀ K : AV → Led → Prop, K (.bool c) L → CmpA G n L op a b K
noncomputable def SubR (G : Gr) (n : Nat) (L : Led) (value slice : Expr) (a b c : AV) : Prop := ∀ K : AV → Led → Prop, K c L → SubA G n L value slice a b K
noncomputable def CallR (G : Gr) (n : Nat) (L : Led) (f : Value) (first : List Value) (as : List AV) (c : AV) : Prop := ∀ K : AV → Led → Prop, K c L → CallA G n L f first as K
noncomputable def GMR (G : Gr) (n : Nat) (L : Led) (a : AV) (x : Str) (f : Value) (first : List Value) : Prop := ∀ K : Value → List Value → Led → Prop, K f first L → GMA G n L a x K
noncomputable def InpR (G : Gr) (n : Nat) (L : Led) (op : Operator) (a b c : AV) : Prop := ∀ K : AV → Led → Prop, K c L → InpA G n L op a b K
noncomputable def notCallE : Expr → Bool | .Call .. => false | _ => true
noncomputable def plainT : Expr → Bool | .UnaryOp .. => false | .BoolOp .. => false | .IfExp .. => false | .Compare .. => false | _ => true
noncomputable def noComp : Expr → Bool | .ListComp .. => false | .SetComp .. => false | .DictComp .. => false | _ => true
noncomputable def plainArgs : List Expr → Bool | [] => true | .Starred .. :: _ => false | _ :: r => plainArgs r
theorem base_of {o : Expr} {x : Str} {t : Sem Value} (h : notCallE o = true) : attributeBase o x E t = t := by cases o <;> first | rfl | cases h
theorem he_attr {o : Expr} {name : Str} (h : notCallE o = true) : eval (.Attribute o name pos) E = (do
      let o' ← eval o E
      standAt pos.atName
      let r ← PySem.holding [o'] (getAttr o' name true)
      letTemporaryGo o o' r
      pure r) := by
  rw [← base_of (E := E) (x := name) (t := eval o E) h]; rfl
theorem he_test {x : Expr} (h : plainT x = true) : isTrue x E (eval x E) = (do let v ← eval x E; standAt x.pos; PySem.holding [v] (truthy v)) := by cases x <;> first | rfl | cases h
theorem swap_of {v : Expr} {t : Option Expr} {l : Nat} (h : noComp v = true) : swapsWith v t l E = pure false := by cases v <;> first | rfl | cases h
theorem swap1 {v t : Expr} {l : Nat} (h : noComp v = true) : swapsWithSole [t] v l E = pure false := (show swapsWith v (some t) l E = pure false from swap_of h)
theorem plain_of : ∀ {args : List Expr}, plainArgs args = true → (backTo pos (starEach args E)).any (·.1) = false ∧ (backTo pos (starEach args E)).all (!·.1) = true
  | [], _ => ⟨rfl, rfl⟩
  | e :: r, h => by
    have hr : plainArgs r = true := by cases e <;> first | exact h | cases h
    obtain ⟨h1, h2⟩ := plain_of hr
    have he : starEach (e :: r) E = (false, eval e E) :: starEach r E := by cases e <;> first | rfl | cases h
    rw [he]
    exact ⟨by show (false || (backTo pos (starEach r E)).any (·.1)) = false; rw [h1]; rfl, by show (true && (backTo pos (starEach r E)).all (!·.1)) = true; rw [h2]; rfl⟩
theorem he_call {o : Expr} {name : Str} {args : List Expr} (h : notCallE o = true) (ha : plainArgs args = true) (hn : decide (args.length < 30) = true) (hl : (p1.endLine == pos.line) = true) :
    eval (.Call (.Attribute o name p1) args [] pos) E = (do
      let ov ← eval o E
      standAt p1.atName
      let (f, first) ← PySem.holding [ov] (getMethod ov name (do return (← importBound o E).getD true))
      callWith pos f first (backTo pos (starEach args E)) []) := by
  have e1 : methodCallForm (args.length + ([] : List Keyword).length) (backTo pos (starEach args E)) (backToKw pos (keywordEach [] E)) = true := by
    unfold methodCallForm
    rw [(plain_of ha).2, show backToKw pos (keywordEach [] E) = [] from rfl]
    simpa using hn
  have e2 : (p1.endLine == pos.line) = true := hl
  show (do
    let ov ← attributeBase o name E (eval o E)
    standAt p1.atName
    methodCall o name p1 pos E ov (args.length + ([] : List Keyword).length) (backTo pos (starEach args E)) (backToKw pos (keywordEach [] E))) = _
  rw [base_of h]
  unfold methodCall
  rw [e1]
  unfold calleeOf methodCallPos
  rw [e2]
  simp only [Bool.not_true, Bool.false_or, if_true, pure_bind]
  rfl
theorem evN {x : Str} {a : AV} {kvs : List (Str × Option AV)} (hE : Fr E p sc) (hl : (p, AObj.ns sc kvs) ∈ L) (hx : (x, some a) ∈ kvs) (hd : (x == ("__debug__" : Str)) = false := by kernel_rfl) : Vx G n E L (.Name x pos) a :=
  fun ζ h => Name_ hl hx h hE.l hE.s hE.k hd
theorem evGI {x : Str} {i : Int} (hE : Fr E p sc) (hx : ∀ P, ∃ t, nsIn (kk.heap_1 P) mainGlobals x = some (some (.int i t)) := by intro P; exact ⟨_, by k_is⟩) (hi : sc.names.lookup x = some .globalImplicit := by kernel_rfl) (hd : (x == ("__debug__" : Str)) = false := by kernel_rfl) : Vx G n E L (.Name x pos) (.int i) :=
  fun ζ h => GInt_ (hx _) h (hE.of hi) hE.g hE.k' hd
theorem evGB {x : Str} {b : List UInt8} (hE : Fr E p sc) (hx : ∀ P, ∃ t, nsIn (kk.heap_1 P) mainGlobals x = some (some (.bytes b.toArray t)) := by intro P; exact ⟨_, by k_is⟩) (hi : sc.names.lookup x = some .globalImplicit := by kernel_rfl) (hd : (x == ("__debug__" : Str)) = false := by kernel_rfl) : Vx G n E L (.Name x pos) (.bytes b) :=
  fun ζ h => GBytes_ (hx _) h (hE.of hi) hE.g hE.k' hd
theorem evI {i : Int} {k : Nat} : Vx G n E L (.Constant (.int i) k pos) (.int i) := fun ζ h => Int_ h
theorem evZ {k : Nat} : Vx G n E L (.Constant .none k pos) .none := fun ζ h => None_ h
theorem evT {b : Bool} {k : Nat} : Vx G n E L (.Constant (.bool b) k pos) (.bool b) := fun ζ h => Bool_ h
theorem evB {b : List UInt8} {k : Nat} : Vx G n E L (.Constant (.bytes b) k pos) (.bytes b) := fun ζ h => Bytes_ h
theorem evA {o : Expr} {x C : Addr} {name : Str} {a : AV} {fs : List (Str × AV)} {attr : Option Value} (ho : Vx G n E L o (.con (.ref x))) (hl : (x, AObj.inst C fs) ∈ L) (hx : (name, a) ∈ fs) (ha : ∀ v, VR a v → handedIn v = true) (hc : ∀ P, (plainGet (kk.heap_1 P) C name && hasDictIn (kk.heap_1 P) C) = true ∧ findIn (kk.heap_1 P) (.ref C) name = some attr ∧ noGet (kk.heap_1 P) attr = true := by intro P; exact ⟨Bool.and_eq_true_iff.mpr ⟨by k_is, by k_is⟩, by k_is, by k_is⟩) (hn : notCallE o = true := by rfl) : Vx G n E L (.Attribute o name pos) a :=
  fun ζ h => AttrA (ho _ (getAA hl hx hc ha h)) (he_attr hn)
theorem evO {l r : Expr} {op : Operator} {a b c : AV} (hl : Vx G n E L l a) (hr : Vx G n E L r b) (ho : BinR G n L op a b c) : Vx G n E L (.BinOp l op r pos) c := fun ζ h => BinOpA (hl _ (hr _ (ho _ h)))
theorem evCmp {l r : Expr} {op : CmpOp} {a b : AV} {c : Bool} (hl : Vx G n E L l a) (hr : Vx G n E L r b) (ho : CmpR G n L op a b c) (hm : behindInMarks op r = false := by with_unfolding_all rfl) : Vx G n E L (.Compare l [op] [r] pos) (.bool c) := fun ζ h => CompareA (hl _ (hr _ (ho _ h))) hm
theorem evNeg {x : Expr} {i : Int} (hx : Vx G n E L x (.int i)) : Vx G n E L (.UnaryOp .USub x pos) (.int (-i)) := fun ζ h => UnaryA (hx _ (negA h))
theorem evS {value slice : Expr} {a b c : AV} (hl : Vx G n E L value a) (hr : Vx G n E L slice b) (ho : SubR G n L value slice a b c) : Vx G n E L (.Subscript value slice pos) c := fun ζ h => SubXA (hl _ (hr _ (ho _ h)))
theorem evs0 : Evs G n E L [] [] := fun ζ ζ h => ArgsNil_ h
theorem evs1 {e : Expr} {es : List Expr} {a : AV} {as : List AV} (he : Vx G n E L e a) (hs : Evs G n E L es as) (hp : plainArgs (e :: es) = true := by kernel_rfl) : Evs G n E L (e :: es) (a :: as) :=
  fun pos K h => ArgsCons_ (he _ (hs pos _ h)) (by cases e <;> first | rfl | cases hp)
theorem evCB {x : Str} {id : String} {args : List Expr} {as : List AV} {c : AV} (hE : Fr E p sc) (ha : Evs G n E L args as) (hc : CallR G n L (.builtin id) [] as c) (hx : ∀ P, nsIn (kk.heap_1 P) mainGlobals x = some none := by intro P; k_is) (hb : bootBuiltins x = some (.builtin id) := by boot_by_name) (hi : sc.names.lookup x = some .globalImplicit := by kernel_rfl) (hp : plainArgs args = true := by rfl) (hd : (x == ("__debug__" : Str)) = false := by kernel_rfl) (hne : (x == ("__name__" : Str)) = false := by kernel_rfl) : Vx G n E L (.Call (.Name x np) args [] pos) c :=
  fun ζ h => CallBNA (hx _) hb (ha _ _ (hc _ h)) (hE.of hi) (plain_of hp).1 hE.g hE.b hE.k' hd hne
theorem evCT {x : Str} {T : String} {args : List Expr} {as : List AV} {c : AV} (hE : Fr E p sc) (ha : Evs G n E L args as) (hc : CallR G n L (.type T) [] as c) (hx : ∀ P, nsIn (kk.heap_1 P) mainGlobals x = some none := by intro P; k_is) (hb : bootBuiltins x = some (.type T) := by boot_by_name) (hi : sc.names.lookup x = some .globalImplicit := by kernel_rfl) (hp : plainArgs args = true := by rfl) (hd : (x == ("__debug__" : Str)) = false := by kernel_rfl) (hne : (x == ("__name__" : Str)) = false := by kernel_rfl) : Vx G n E L (.Call (.Name x np) args [] pos) c :=
  fun ζ h => CallTNA (hx _) hb (ha _ _ (hc _ h)) (hE.of hi) (plain_of hp).1 hE.g hE.b hE.k' hd hne
theorem tvC {l r : Expr} {op : CmpOp} {a b : AV} {c : Bool} (hl : Vx G n E L l a) (hr : Vx G n E L r b) (ho : CmpR G n L op a b c) (hm : behindInMarks op r = false := by with_unfolding_all rfl) : Tv G n E L (.Compare l [op] [r] pos) c := fun ζ h => TtCmpA (hl _ (hr _ (ho _ (truthyA h)))) hm
theorem tvN {x : Expr} {b : Bool} (hx : Tv G n E L x b) : Tv G n E L (.UnaryOp .Not x pos) (!b) := fun ζ h => TtNot_ (hx _ h)
theorem tvV {x : Expr} {b : Bool} (hx : Vx G n E L x (.bool b)) (hp : plainT x = true) : Tv G n E L x b := fun ζ h => TtValA (hx _ (truthyA h)) (he_test hp)
theorem tvL {op : BoolOp} {xs : List Expr} {b : Bool} (h : Al G n E L op xs b) : Tv G n E L (.BoolOp op xs pos) b := fun ζ k => TtBool_ (h _ k)
theorem and0 : Al G n E L .And [] true := fun ζ h => AndNil_ h
theorem or0 : Al G n E L .Or [] false := fun ζ h => OrNil_ h
theorem andT {x : Expr} {xs : List Expr} {c d : Bool} (hx : Tv G n E L x c) (hc : c = true) (hs : Al G n E L .And xs d) : Al G n E L .And (x :: xs) d := fun ζ h => AndCons' (hx _ (onB_t hc (hs _ h)))
theorem andF {x : Expr} {xs : List Expr} {c : Bool} (hx : Tv G n E L x c) (hc : c = false) : Al G n E L .And (x :: xs) false := fun ζ h => AndCons' (hx _ (onB_f hc h))
theorem orT {x : Expr} {xs : List Expr} {c : Bool} (hx : Tv G n E L x c) (hc : c = true) : Al G n E L .Or (x :: xs) true := fun ζ h => OrCons' (hx _ (onB_t hc h))
theorem orF {x : Expr} {xs : List Expr} {c d : Bool} (hx : Tv G n E L x c) (hc : c = false) (hs : Al G n E L .Or xs d) : Al G n E L .Or (x :: xs) d := fun ζ h => OrCons' (hx _ (onB_f hc (hs _ h)))
section
variable {a b : Int} {s t : List UInt8} {u v : Option (List UInt8)} {x : Addr}
theorem oAdd : BinR G n L .Add (.int a) (.int b) (.int (a + b)) := fun ζ h => addIA h
theorem oSub : BinR G n L .Sub (.int a) (.int b) (.int (a - b)) := fun ζ h => subIA h
theorem oAnd : BinR G n L .BitAnd (.int a) (.int b) (.int (Builtin.bitAnd a b)) := fun ζ h => andIA h
theorem oOr : BinR G n L .BitOr (.int a) (.int b) (.int (Builtin.bitOr a b)) := fun ζ h => orIA h
theorem oShr (hb : 0 ≤ b) : BinR G n L .RShift (.int a) (.int b) (.int (a.fdiv (2 ^ b.toNat))) := fun ζ h => shrIA hb h
theorem oShl (hb : 0 ≤ b) (hb2 : b ≤ 1000000) (ha : a.natAbs < 2 ^ 64) : BinR G n L .LShift (.int a) (.int b) (.int (a * 2 ^ b.toNat)) := fun ζ h => shlIA hb hb2 ha h
theorem oMod (hb : b ≠ 0) : BinR G n L .Mod (.int a) (.int b) (.int (a.fmod b)) := fun ζ h => modIA hb h
theorem oDiv (hb : b ≠ 0) (hp : Builtin.divisionGoesByPylong a b = false) : BinR G n L .FloorDiv (.int a) (.int b) (.int (a.fdiv b)) := fun ζ h => divIA hb hp h
theorem oMul (hm : IntMulOk a b) : BinR G n L .Mult (.int a) (.int b) (.int (a * b)) := fun ζ h => mulIA hm h
theorem oCat (hz : s.length + t.length ≤ 1000000) : BinR G n L .Add (.bytes s) (.bytes t) (.bytes (s ++ t)) := fun ζ h => addBA hz h
theorem cLt : CmpR G n L .Lt (.int a) (.int b) (decide (a < b)) := fun ζ h => ltIA h
theorem cGt : CmpR G n L .Gt (.int a) (.int b) (decide (a > b)) := fun ζ h => gtIA h
theorem cGe : CmpR G n L .GtE (.int a) (.int b) (decide (a ≥ b)) := fun ζ h => geIA h
theorem cEq : CmpR G n L .Eq (.int a) (.int b) (a == b) := fun ζ h => eqIA h
theorem cNe : CmpR G n L .NotEq (.int a) (.int b) (a != b) := fun ζ h => neIA h
theorem cEqB : CmpR G n L .Eq (.bytes s) (.bytes t) (s == t) := fun ζ h => eqBA h
theorem cNeB : CmpR G n L .NotEq (.bytes s) (.bytes t) (s != t) := fun ζ h => neBA h
theorem cIsN : CmpR G n L .Is .none .none true := fun ζ h => isNoneNA h
theorem cIsB : CmpR G n L .Is (.bytes s) .none false := fun ζ h => isNoneBA h
theorem cNtN : CmpR G n L .IsNot .none .none false := fun ζ h => isNotNoneNA h
theorem cNtB : CmpR G n L .IsNot (.bytes s) .none true := fun ζ h => isNotNoneBA h
theorem cNtR : CmpR G n L .IsNot (.con (.ref x)) .none true := fun ζ h => isNotNoneRA h
theorem cIn {es : List (List UInt8 × AV)} (hl : (x, AObj.bd es) ∈ L) : CmpR G n L .In (.bytes s) (.con (.ref x)) (lookA es s).isSome := fun ζ h => dinA hl h
theorem sB {i : Int} {c : UInt8} {value slice : Expr} (h0 : 0 ≤ i) (hx : s[i.toNat]? = some c) (hz : s.length ≤ 1000000) (hs : ∀ o i, subscripted slice false o i = operate [o, i] (getItem o i)) : SubR G n L value slice (.bytes s) (.int i) (.int c.toNat) := fun ζ h => itemBA h0 hx hz h hs
theorem sL {xs : List AV} {c : AV} {i : Int} {value slice : Expr} (hl : (x, AObj.list xs) ∈ L) (h0 : 0 ≤ i) (hz : i < 1000000) (hx : xs[i.toNat]? = some c) (hs : ∀ o i, subscripted slice false o i = operate [o, i] (getItem o i)) : SubR G n L value slice (.con (.ref x)) (.int i) c := fun ζ h => itemLA hl h0 hz hx h hs
theorem sT {xs : List AV} {c : AV} {i : Int} {value slice : Expr} (hl : (x, AObj.tuple xs) ∈ L) (h0 : 0 ≤ i) (hz : i < 1000000) (hx : xs[i.toNat]? = some c) (hs : ∀ o i, subscripted slice false o i = operate [o, i] (getItem o i)) : SubR G n L value slice (.con (.ref x)) (.int i) c := fun ζ h => itemTA hl h0 hz hx h hs
theorem sD {es : List (List UInt8 × AV)} {c : AV} {value slice : Expr} (hl : (x, AObj.bd es) ∈ L) (hx : lookA es s = some c) (hs : ∀ o i, subscripted slice false o i = operate [o, i] (getItem o i)) : SubR G n L value slice (.con (.ref x)) (.bytes s) c := fun ζ h => ditemA hl hx h hs
theorem fLenB (hz : s.length ≤ 1000000) : CallR G n L (.builtin "len") [] [.bytes s] (.int s.length) := fun ζ h => lenBA hz h
theorem fLenL {xs : List AV} (hl : (x, AObj.list xs) ∈ L) (hz : xs.length ≤ 1000000) : CallR G n L (.builtin "len") [] [.con (.ref x)] (.int xs.length) := fun ζ h => lenLA hl hz h
theorem fMax : CallR G n L (.builtin "max") [] [.int a, .int b] (.int (if a < b then b else a)) := fun ζ h => maxIA h
theorem fMin : CallR G n L (.builtin "min") [] [.int a, .int b] (.int (if b < a then b else a)) := fun ζ h => minIA h
theorem fByB : CallR G n L (.type "bytes") [] [.bytes s] (.bytes s) := fun ζ h => bytesBA h
theorem fByA (hl : (x, AObj.barr s) ∈ L) (hz : s.length ≤ 1000000) : CallR G n L (.type "bytes") [] [.con (.ref x)] (.bytes s) := fun ζ h => bytesBaA hl hz h
theorem iAdd : InpR G n L .Add (.int a) (.int b) (.int (a + b)) := fun ζ h => iaddIA h
theorem iOr : InpR G n L .BitOr (.int a) (.int b) (.int (Builtin.bitOr a b)) := fun ζ h => iorIA h
theorem iShr (hb : 0 ≤ b) : InpR G n L .RShift (.int a) (.int b) (.int (a.fdiv (2 ^ b.toNat))) := fun ζ h => ishrIA hb h
theorem gM {C f : Addr} {name : Str} {fs : List (Str × AV)} (hl : (x, AObj.inst C fs) ∈ L) (hn : (fs.all fun p => !(p.1 == name)) = true) (hc : ∀ P, plainGet (kk.heap_1 P) C name = true ∧ findIn (kk.heap_1 P) (.ref C) name = some (some (.ref f)) ∧ isFn (kk.heap_1 P) (.ref f) = true := by intro P; exact ⟨by k_is, by k_is, by k_is⟩) : GMR G n L (.con (.ref x)) name (.ref f) [.ref x] := fun ζ h => methIA hl hn hc h
theorem gL {xs : List AV} (hl : (x, AObj.list xs) ∈ L) : GMR G n L (.con (.ref x)) "append" (.builtin "list.append") [.ref x] := fun ζ h => methLA hl h
theorem gBa (hl : (x, AObj.barr s) ∈ L) : GMR G n L (.con (.ref x)) "append" (.builtin "bytearray.append") [.ref x] := fun ζ h => methBaA ba_slot_append (by first | rfl | kernel_rfl) hl h
theorem gBe (hl : (x, AObj.barr s) ∈ L) : GMR G n L (.con (.ref x)) "extend" (.builtin "bytearray.extend") [.ref x] := fun ζ h => methBaA ba_slot_extend (by first | rfl | kernel_rfl) hl h
theorem gD {es : List (List UInt8 × AV)} (hl : (x, AObj.bd es) ∈ L) : GMR G n L (.con (.ref x)) "get" (.builtin "dict.get") [.ref x] := fun ζ h => methDgetA hl h
end
theorem cF {x : Str} {f : Addr} {args : List Expr} {as : List AV} {K : AV → Led → Prop} (hE : Fr E p sc) (ha : Evs G n E L args as) (h : CallA G n L (.ref f) [] as K) (hx : ∀ P, nsIn (kk.heap_1 P) mainGlobals x = some (some (.ref f)) := by intro P; k_is) (hk : ∀ P, keepIn (kk.heap_1 P) (.ref f) = true := by intro P; k_is) (hi : sc.names.lookup x = some .globalImplicit := by kernel_rfl) (hp : plainArgs args = true := by rfl) (hd : (x == ("__debug__" : Str)) = false := by decide +kernel) : Cv G n L (eval (.Call (.Name x np) args [] pos) E) K :=
  CallGNA (hx _) hk (ha _ _ h) (hE.of hi) (plain_of hp).1 hE.g hE.k' hd
theorem cB {x : Str} {id : String} {args : List Expr} {as : List AV} {K : AV → Led → Prop} (hE : Fr E p sc) (ha : Evs G n E L args as) (h : CallA G n L (.builtin id) [] as K) (hx : ∀ P, nsIn (kk.heap_1 P) mainGlobals x = some none := by intro P; k_is) (hb : bootBuiltins x = some (.builtin id) := by boot_by_name) (hi : sc.names.lookup x = some .globalImplicit := by kernel_rfl) (hp : plainArgs args = true := by rfl) (hd : (x == ("__debug__" : Str)) = false := by decide +kernel) (hne : (x == ("__name__" : Str)) = false := by decide +kernel) : Cv G n L (eval (.Call (.Name x np) args [] pos) E) K :=
  CallBNA (hx _) hb (ha _ _ h) (hE.of hi) (plain_of hp).1 hE.g hE.b hE.k' hd hne
theorem cT {x : Str} {T : String} {args : List Expr} {as : List AV} {K : AV → Led → Prop} (hE : Fr E p sc) (ha : Evs G n E L args as) (h : CallA G n L (.type T) [] as K) (hx : ∀ P, nsIn (kk.heap_1 P) mainGlobals x = some none := by intro P; k_is) (hb : bootBuiltins x = some (.type T) := by boot_by_name) (hi : sc.names.lookup x = some .globalImplicit := by kernel_rfl) (hp : plainArgs args = true := by rfl) (hd : (x == ("__debug__" : Str)) = false := by decide +kernel) (hne : (x == ("__name__" : Str)) = false := by decide +kernel) : Cv G n L (eval (.Call (.Name x np) args [] pos) E) K :=
  CallTNA (hx _) hb (ha _ _ h) (hE.of hi) (plain_of hp).1 hE.g hE.b hE.k' hd hne
theorem cM {o : Expr} {name : Str} {a : AV} {f : Addr} {first : List Value} {args : List Expr} {as : List AV} {K : AV → Led → Prop} (ho : Vx G n E L o a) (hg : GMR G n L a name (.ref f) first) (ha : Evs G n E L args as) (h : CallA G n L (.ref f) first as K) (hk : ∀ P, keepIn (kk.heap_1 P) (.ref f) = true := by intro P; k_is) (hq : (notCallE o && plainArgs args && decide (args.length < 30) && (p1.endLine == pos.line)) = true := by rfl) : Cv G n L (eval (.Call (.Attribute o name p1) args [] pos) E) K := by
  simp only [Bool.and_eq_true] at hq
  exact MCallA (ho _ (hg _ (CallWA hk (ha _ _ h) (plain_of hq.1.1.2).1))) (he_call hq.1.1.1 hq.1.1.2 hq.1.2 hq.2)
theorem cMB {o : Expr} {name : Str} {a : AV} {id : String} {first : List Value} {args : List Expr} {as : List AV} {K : AV → Led → Prop} (ho : Vx G n E L o a) (hg : GMR G n L a name (.builtin id) first) (ha : Evs G n E L args as)
    (h : CallA G n L (.builtin id) first as K) (hq : (notCallE o && plainArgs args && decide (args.length < 30) && (p1.endLine == pos.line)) = true := by rfl) : Cv G n L (eval (.Call (.Attribute o name p1) args [] pos) E) K := by
  simp only [Bool.and_eq_true] at hq
  exact MCallA (ho _ (hg _ (CallBA (ha _ _ h) (plain_of hq.1.1.2).1))) (he_call hq.1.1.1 hq.1.1.2 hq.1.2 hq.2)
theorem ofCa {f : Value} {first : List Value} {as : List AV} {K : AV → Led → Prop} (h : ∀ {vs : List Value}, VRs as vs → Cc G n L f (first ++ vs) K) : CallA G n L f first as K := fun vs hv => ofCc (h hv)
theorem xL {elts : List Expr} {as : List AV} {K : AV → Led → Prop} (ha : Evs G n E L elts as) (hn : as.length = elts.length) (hz : Nat.ble elts.length 1000000 = true) (h : ∀ p, K (.con (.ref p)) ((p, .list as) :: L)) : Cv G n L (eval (.List elts pos) E) K := List' (ha _ _ ⟨hn, h⟩) (Nat.le_of_ble_eq_true hz)
theorem xT {elts : List Expr} {k : Nat} {as : List AV} {K : AV → Led → Prop} (ha : Evs G n E L elts as) (hn : as.length = elts.length) (hz : Nat.ble elts.length 1000000 = true) (h : ∀ p, K (.con (.ref p)) ((p, .tuple as) :: L)) : Cv G n L (eval (.Tuple elts k pos) E) K := Tuple' (ha _ _ ⟨hn, h⟩) (Nat.le_of_ble_eq_true hz)
inductive App : List Stmt → List Stmt → List Stmt → Prop
  | nil {r : List Stmt} : App [] r r
  | cons {s : Stmt} {b r x : List Stmt} : App b r x → App (s :: b) r (s :: x)
theorem App.eq {b r x : List Stmt} (h : App b r x) : b ++ r = x := by induction h with | nil => rfl | cons _ ih => rw [List.cons_append, ih]
theorem execs_append : ∀ (b r : List Stmt), execs (b ++ r) E = (do match ← execs b E with | .next => execs r E | f => pure f)
  | [], r => by show _ = (pure Flow.next >>= _); rw [pure_bind]; rfl
  | s :: b, r => by
    rw [List.cons_append, execs_cons, execs_cons, bind_assoc]
    congr 1
    funext f
    cases f <;> first | exact execs_append b r | (rw [pure_bind])
noncomputable def kIf (G : Gr) (n : Nat) (E : Env) (L : Led) (b rest : List Stmt) (K : Fl → Led → Prop) : Prop := Cf G n L (execs (b ++ rest) E) K
@[reducible] noncomputable def kS (G : Gr) (n : Nat) (E : Env) (x : Str) (rest : List Stmt) (K : Fl → Led → Prop) : AV → Led → Prop := fun a L1 => StoA G n L1 E x a fun ζ L2 => Cf G n L2 (execs rest E) K
noncomputable def kR (K : Fl → Led → Prop) : AV → Led → Prop := fun a L1 => K (.ret a) L1
@[reducible] noncomputable def kX (G : Gr) (n : Nat) (E : Env) (rest : List Stmt) (K : Fl → Led → Prop) : AV → Led → Prop := fun ζ L1 => Cf G n L1 (execs rest E) K
@[reducible] noncomputable def kU (G : Gr) (n : Nat) (E : Env) (t : Expr) (rest : List Stmt) (K : Fl → Led → Prop) : AV → Led → Prop := fun a L1 => AsgA G n L1 E t a fun ζ L2 => Cf G n L2 (execs rest E) K
@[reducible] noncomputable def kA (G : Gr) (n : Nat) (E : Env) (o : Expr) (x : Str) (rest : List Stmt) (K : Fl → Led → Prop) : AV → Led → Prop := fun a L1 => Cv G n L1 (eval o E) fun b L2 => SetA G n L2 b x a fun ζ L3 => Cf G n L3 (execs rest E) K
@[reducible] noncomputable def kEnd (K : AV → Led → Prop) : Fl → Led → Prop := fun fl L1 => ∃ L2, Pick L2 L1 ∧ K fl.val L2
section
variable {rest : List Stmt} {K : Fl → Led → Prop}
theorem sIf {test : Expr} {body orelse : List Stmt} {c : Bool} (ht : Tv G n E L test c) (h : onB c (kIf G n E L body rest K) (kIf G n E L orelse rest K)) : Cf G n L (execs (.If test body orelse pos :: rest) E) K := by
  have e : execs (.If test body orelse pos :: rest) E = (do
      standAt pos
      if ← isTrue test E (eval test E) then execs (body ++ rest) E else execs (orelse ++ rest) E) := by
    rw [execs_cons, exec_If, bind_assoc]
    congr 1
    funext _
    rw [bind_assoc]
    congr 1
    funext b
    cases b
    · exact (execs_append orelse rest).symm
    · exact (execs_append body rest).symm
  refine C.of e (C.at (C.bind (ht _ fun v hv => ?_)))
  obtain rfl : c = v := hv
  cases c <;> exact h
theorem kT {b o ss : List Stmt} {c : Bool} (hc : c = true) (ha : App b rest ss) (h : Cf G n L (execs ss E) K) : onB c (kIf G n E L b rest K) (kIf G n E L o rest K) := onB_t hc (by unfold kIf; rw [ha.eq]; exact h)
theorem kF {b o ss : List Stmt} {c : Bool} (hc : c = false) (ha : App o rest ss) (h : Cf G n L (execs ss E) K) : onB c (kIf G n E L b rest K) (kIf G n E L o rest K) := onB_f hc (by unfold kIf; rw [ha.eq]; exact h)
theorem kB {b o s1 s2 : List Stmt} {c : Bool} (h1 : App b rest s1) (h2 : App o rest s2) (ht : c = true → Cf G n L (execs s1 E) K) (hf : c = false → Cf G n L (execs s2 E) K) : onB c (kIf G n E L b rest K) (kIf G n E L o rest K) :=
  onB_s (fun e => by unfold kIf; rw [h1.eq]; exact ht e) (fun e => by unfold kIf; rw [h2.eq]; exact hf e)
theorem sAsg {x : Str} {v : Expr} {a : AV} {kvs kvs' : List (Str × Option AV)} (hE : Fr E p sc) (hv : Vx G n E L v a) (U : Up p (.ns sc kvs) (.ns sc kvs') L L') (r : Rep x (some a) kvs kvs') (h : Cf G n L' (execs rest E) K) (hc : noComp v = true := by rfl) :
    Cf G n L (execs (.Assign [.Name x p1] v pos :: rest) E) K := Cons' (AssignNA (hv _ (storeA U r h hE.l hE.s hE.k)) (swap_of hc))
theorem sAsgC {x : Str} {v : Expr} (h : Cv G n L (eval v E) (kS G n E x rest K)) (hc : noComp v = true := by rfl) : Cf G n L (execs (.Assign [.Name x p1] v pos :: rest) E) K := Cons' (AssignNA h (swap_of hc))
theorem sSt {x : Str} {a : AV} {kvs kvs' : List (Str × Option AV)} (hE : Fr E p sc) (U : Up p (.ns sc kvs) (.ns sc kvs') L L') (r : Rep x (some a) kvs kvs') (h : Cf G n L' (execs rest E) K) : kS G n E x rest K a L := storeA U r h hE.l hE.s hE.k
theorem sRet {v : Expr} {a : AV} (hv : Vx G n E L v a) (h : K (.ret a) L) : Cf G n L (execs (.Return (some v) pos :: rest) E) K := Cons' (Ret_ (hv _ h))
theorem sRetC {v : Expr} (h : Cv G n L (eval v E) (kR K)) : Cf G n L (execs (.Return (some v) pos :: rest) E) K := Cons' (Ret_ h)
theorem kR_ {a : AV} (h : K (.ret a) L) : kR K a L := h
theorem int_of (hE : Fr E p sc) : interactive E = false := by unfold interactive; rw [hE.s, hE.k]; rfl
theorem sX {e : Expr} (hE : Fr E p sc) (h : Cv G n L (eval e E) (kX G n E rest K)) (hc : noComp e = true := by rfl) : Cf G n L (execs (.Expr e pos :: rest) E) K := Cons' (ExprS_ h (int_of hE) (swap_of hc))
theorem sSet {o v : Expr} {x C : Addr} {name : Str} {a : AV} {fs fs' : List (Str × AV)} (hv : Vx G n E L v a) (ho : Vx G n E L o (.con (.ref x))) (U : Up x (.inst C fs) (.inst C fs') L L') (r : RepF name a fs fs') (hc : ∀ P, stOk P C name) (h : Cf G n L' (execs rest E) K) (hs : noComp v = true := by rfl) :
    Cf G n L (execs (.Assign [.Attribute o name p1] v pos :: rest) E) K := Cons' (AssignAA (hv _ (ho _ (setAA U r hc h))) (swap_of hs))
theorem sNew {o v : Expr} {x C : Addr} {name : Str} {a : AV} {fs fs' : List (Str × AV)} (hv : Vx G n E L v a) (ho : Vx G n E L o (.con (.ref x))) (hl : (x, AObj.inst C fs) ∈ L) (hf : Snoc (name, a) fs fs') (U : Up x (.inst C fs) (.inst C fs') L L')
    (hn : (fs.all fun p => !(p.1 == name)) = true) (hz : fs.length ≤ 50) (hc : ∀ P, stOk P C name) (h : Cf G n L' (execs rest E) K) (hs : noComp v = true := by rfl) :
    Cf G n L (execs (.Assign [.Attribute o name p1] v pos :: rest) E) K := Cons' (AssignAA (hv _ (ho _ (setNewA hl hf U hn hz hc h))) (swap_of hs))
theorem sSetC {o v : Expr} {name : Str} (h : Cv G n L (eval v E) (kA G n E o name rest K)) (hs : noComp v = true := by rfl) : Cf G n L (execs (.Assign [.Attribute o name p1] v pos :: rest) E) K := Cons' (AssignAA h (swap_of hs))
theorem sAug {x : Str} {v : Expr} {op : Operator} {a b c : AV} {kvs kvs' : List (Str × Option AV)} (hE : Fr E p sc) (hl : (p, AObj.ns sc kvs) ∈ L) (hx : (x, some a) ∈ kvs) (hv : Vx G n E L v b) (ho : InpR G n L op a b c) (U : Up p (.ns sc kvs) (.ns sc kvs') L L') (r : Rep x (some c) kvs kvs') (h : Cf G n L' (execs rest E) K) :
    Cf G n L (execs (.AugAssign (.Name x p1) op v pos :: rest) E) K := Cons' (AugNA (load_ hl hx (hv _ (ho _ (storeA U r h hE.l hE.s hE.k))) hE.l hE.s hE.k))
theorem sAugA {o v : Expr} {op : Operator} {x C : Addr} {name : Str} {a b c : AV} {fs fs' : List (Str × AV)} {attr : Option Value} (ho : Vx G n E L o (.con (.ref x))) (hl : (x, AObj.inst C fs) ∈ L) (hx : (name, a) ∈ fs)
    (hg : ∀ P, (plainGet (kk.heap_1 P) C name && hasDictIn (kk.heap_1 P) C) = true ∧ findIn (kk.heap_1 P) (.ref C) name = some attr ∧ noGet (kk.heap_1 P) attr = true) (ha : ∀ v, VR a v → handedIn v = true)
    (hv : Vx G n E L v b) (hop : InpR G n L op a b c) (U : Up x (.inst C fs) (.inst C fs') L L') (r : RepF name c fs fs') (hc : ∀ P, stOk P C name) (h : Cf G n L' (execs rest E) K) :
    Cf G n L (execs (.AugAssign (.Attribute o name p1) op v pos :: rest) E) K := Cons' (AugAA (ho _ (getAA hl hx hg ha (hv _ (hop _ (setAA U r hc h))))))
theorem sSub {o i v : Expr} {a b c : AV} (hv : Vx G n E L v a) (ho : Vx G n E L o b) (hi : Vx G n E L i c) (h : SItA G n L b c a fun ζ L2 => Cf G n L2 (execs rest E) K) (hs : noComp v = true := by rfl) (hw : swappedStores [.Subscript o i p1] v E = Pure.pure none := by rfl) (he : assignEach [.Subscript o i p1] E = [(false, assign (.Subscript o i p1) E)] := by rfl) :
    Cf G n L (execs (.Assign [.Subscript o i p1] v pos :: rest) E) K := Cons' (Assign1A (hv _ (AsgSA (ho _ (hi _ h)))) (swap1 hs) hw he)
theorem sUn {t v : Expr} {a : AV} (hv : Vx G n E L v a) (h : AsgA G n L E t a fun ζ L2 => Cf G n L2 (execs rest E) K) (hs : noComp v = true := by rfl) (hw : swappedStores [t] v E = Pure.pure none := by rfl) (he : assignEach [t] E = [(false, assign t E)] := by rfl) :
    Cf G n L (execs (.Assign [t] v pos :: rest) E) K := Cons' (Assign1A (hv _ h) (swap1 hs) hw he)
theorem sUnC {t v : Expr} (h : Cv G n L (eval v E) (kU G n E t rest K)) (hs : noComp v = true := by rfl) (hw : swappedStores [t] v E = Pure.pure none := by rfl) (he : assignEach [t] E = [(false, assign t E)] := by rfl) :
    Cf G n L (execs (.Assign [t] v pos :: rest) E) K := Cons' (Assign1A h (swap1 hs) hw he)
theorem sCont (h : K .cont L) : Cf G n L (execs (.Continue pos :: rest) E) K := Cons' (Cont_ h)
end
section
variable {x0 x1 x2 x3 x4 x5 : Str} {t : Addr} {a0 a1 a2 a3 a4 a5 : AV} {k : Nat} {q0 q1 q2 q3 q4 q5 : Pos} {L1 L2 L3 L4 L5 L6 : Led} {v0 v1 v2 v3 v4 v5 v6 : List (Str × Option AV)} {K : Unit → Led → Prop}
theorem ai1 {x : Str} {a : AV} {es : List Expr} {v : Value} {vs : List Value} {w w' : List (Str × Option AV)} {q : Pos} (hE : Fr E p sc) (U : Up p (.ns sc w) (.ns sc w') L L') (r : Rep x (some a) w w') (hv : VR a v) (h : Ai G n E L' es vs K) : Ai G n E L (.Name x q :: es) (v :: vs) K :=
  AiCons_ (AsgN_ (store_ hv U r h hE.l hE.s hE.k)) rfl
theorem asg2 (hE : Fr E p sc) (hl : (t, AObj.tuple [a0, a1]) ∈ L) (U1 : Up p (.ns sc v0) (.ns sc v1) L L1) (r1 : Rep x0 (some a0) v0 v1) (U2 : Up p (.ns sc v1) (.ns sc v2) L1 L2) (r2 : Rep x1 (some a1) v1 v2) (h : K () L2) :
    AsgA G n L E (.Tuple [.Name x0 q0, .Name x1 q1] k p1) (.con (.ref t)) K := fun v hv => AsgT2 hv hl rfl (fun ζ ζ h0 h1 => ai1 hE U1 r1 h0 (ai1 hE U2 r2 h1 (AiNil_ h))) rfl
theorem asg3 (hE : Fr E p sc) (hl : (t, AObj.tuple [a0, a1, a2]) ∈ L) (U1 : Up p (.ns sc v0) (.ns sc v1) L L1) (r1 : Rep x0 (some a0) v0 v1) (U2 : Up p (.ns sc v1) (.ns sc v2) L1 L2) (r2 : Rep x1 (some a1) v1 v2) (U3 : Up p (.ns sc v2) (.ns sc v3) L2 L3) (r3 : Rep x2 (some a2) v2 v3) (h : K () L3) :
    AsgA G n L E (.Tuple [.Name x0 q0, .Name x1 q1, .Name x2 q2] k p1) (.con (.ref t)) K := fun v hv => AsgT3 hv hl rfl (fun ζ ζ ζ h0 h1 h2 => ai1 hE U1 r1 h0 (ai1 hE U2 r2 h1 (ai1 hE U3 r3 h2 (AiNil_ h)))) rfl
theorem nle {a b : Nat} (h : Nat.ble a b = true := by rfl) : a ≤ b := Nat.le_of_ble_eq_true h
theorem pC {p : Addr × AObj} {L L1 L' : Led} (h : Rem p L L1) (k : Pick L' L1) : Pick (p :: L') L := .cons h k
theorem pS {q : Addr × AObj} {L' L : Led} (h : Pick L' L) : Pick L' (q :: L) := .skip h
theorem lens : (∀ {α : Type} (a b : List α), (a ++ b).length = a.length + b.length) ∧ (∀ {α : Type} (x : α) (a : List α), (x :: a).length = a.length + 1) ∧ (∀ {α : Type}, ([] : List α).length = 0) ∧ (∀ {α β : Type} (f : α → β) (l : List α), (l.map f).length = l.length) ∧
    (∀ {α : Type} (n : Nat) (a : α), (List.replicate n a).length = n) ∧ (mb none).length = 1 ∧ (∀ o : List UInt8, (mb (some o)).length = o.length + 2) ∧ (∀ c, (skey c).length = 9) ∧ (∀ c, (rep c none).length = 2) ∧ (∀ c o, (rep c (some o)).length = o.length + 3) ∧ (∀ l op r, (ses l op r).length = r.length + 3) ∧
    (∀ {α : Type} {p : α → Prop} {a : α} {l : List α}, (∀ x, x ∈ a :: l → p x) ↔ (p a ∧ ∀ x, x ∈ l → p x)) ∧ (∀ {α : Type} {a : α}, ¬ a ∈ ([] : List α)) :=
  ⟨fun ζ ζ => List.length_append, fun ζ ζ => List.length_cons, List.length_nil, fun ζ ζ => List.length_map _, fun ζ ζ => List.length_replicate, mb_len_n, fun ζ => mb_len_s, skey_len, fun ζ => rep_len_n, fun ζ ζ => rep_len_s, fun ζ ζ ζ => ses_len, List.forall_mem_cons, List.not_mem_nil⟩
theorem turn_opq {L : Led} {b : List Stmt} {E : Env} {K1 : Fl → Led → Prop} {t : Sem Unit} (h : ∀ KK : Fl → Led → Prop, (∀ fl L3, K1 fl L3 → KK fl L3) → Cu G n L t (fun ζ L2 => Cf G n L2 (execs b E) KK)) : Cu G n L t (fun ζ L2 => Cf G n L2 (execs b E) K1) := h K1 (fun ζ ζ h => h)
end
end
end Mine
end
section
open PySem PySem.W PySem.Calls PyProof.Rows PySem.Spec
set_option Elab.async false
set_option linter.unusedVariables false
set_option maxRecDepth 100000
set_option maxHeartbeats 4000000
namespace Mine
section
@[reducible] noncomputable def FrT (fd : FuncData) (N p : Addr) : Prop := Fr (callEnv fd p N) p fd.scope
@[reducible] noncomputable def FT (G : Gr) (n : Nat) (L : Led) (vs : List Value) (body : List Stmt) (K : AV → Led → Prop) (fd : FuncData) (N : Addr) (as : List AV) (kvs : List (Str × Option AV)) : Prop :=
  1 ≤ n → VRs as vs → fd.body = .stmts body → (∀ p, Fr (callEnv fd p N) p fd.scope → Cf G (n - 1) ((p, .ns fd.scope kvs) :: L) (execs body (callEnv fd p N)) (kEnd K)) → Cc G n L (.ref N) vs K
variable {G : Gr} {n : Nat} {L : Led} {vs : List Value} {body : List Stmt} {K : AV → Led → Prop}
theorem f_mk (names rest : List Str) {fd : FuncData} {N : Addr} {as : List AV} (hf : FnAt N fd) (hcd : ∀ P, codeIn (kk.heap_1 P) fd.code fd.qualname = true) (hbind : ∀ s vs, VRs as vs → BindsTo s fd ⟨vs, []⟩ (names.zip vs)) (fr : ∀ {p}, FrT fd N p)
    (hlen : names.length = as.length := by rfl) (hloc : ((names ++ rest).all fun x => fd.scope.names.lookup x == some .local) = true := by kernel_rfl) (hnd : (names ++ rest).Nodup := by decide +kernel) (hcell : (fd.scope.names.all fun x => x.2 != .cell) = true := by kernel_rfl)
    (hco : (!fd.scope.isCoroutine && !fd.scope.isGenerator && fd.scope.kind == .function) = true := by kernel_rfl) : FT G n L vs body K fd N as (kvsOf names as rest) :=
  fun hn hv hb h => Call' hn hv hf hb hcd hbind hlen hloc hnd hcell hco (fun p => h p fr)
theorem fr_137 {p : Addr} : FrT fo_137.1 137 p := ⟨rfl, rfl, by kernel_rfl, by kernel_rfl, by kernel_rfl⟩
theorem f_137 {a0 a1 : AV} : FT G n L vs body K fo_137.1 137 [a0, a1] [("n", some a0), ("most", some a1), ("out", none)] := f_mk ["n", "most"] ["out"] fo_137.2 c_137 (bt2 (by intro ζ ζ; kernel_rfl)) fr_137
theorem fr_144 {p : Addr} : FrT fo_144.1 144 p := ⟨rfl, rfl, by kernel_rfl, by kernel_rfl, by kernel_rfl⟩
theorem f_144 {a0 a1 a2 a3 : AV} : FT G n L vs body K fo_144.1 144 [a0, a1, a2, a3] [("data", some a0), ("at", some a1), ("octets", some a2), ("most", some a3), ("n", none), ("shift", none), ("turn", none), ("octet", none)] := f_mk ["data", "at", "octets", "most"] ["n", "shift", "turn", "octet"] fo_144.2 c_144 (bt4 (by intro ζ ζ ζ ζ; kernel_rfl)) fr_144
theorem fr_151 {p : Addr} : FrT fo_151.1 151 p := ⟨rfl, rfl, by kernel_rfl, by kernel_rfl, by kernel_rfl⟩
theorem f_151 {a0 : AV} : FT G n L vs body K fo_151.1 151 [a0] [("n", some a0)] := f_mk ["n"] [] fo_151.2 c_151 (bt1 (by intro ζ; kernel_rfl)) fr_151
theorem fr_158 {p : Addr} : FrT fo_158.1 158 p := ⟨rfl, rfl, by kernel_rfl, by kernel_rfl, by kernel_rfl⟩
theorem f_158 {a0 a1 : AV} : FT G n L vs body K fo_158.1 158 [a0, a1] [("data", some a0), ("at", some a1)] := f_mk ["data", "at"] [] fo_158.2 c_158 (bt2 (by intro ζ ζ; kernel_rfl)) fr_158
theorem fr_165 {p : Addr} : FrT fo_165.1 165 p := ⟨rfl, rfl, by kernel_rfl, by kernel_rfl, by kernel_rfl⟩
theorem f_165 {a0 : AV} : FT G n L vs body K fo_165.1 165 [a0] [("n", some a0)] := f_mk ["n"] [] fo_165.2 c_165 (bt1 (by intro ζ; kernel_rfl)) fr_165
theorem fr_172 {p : Addr} : FrT fo_172.1 172 p := ⟨rfl, rfl, by kernel_rfl, by kernel_rfl, by kernel_rfl⟩
theorem f_172 {a0 a1 : AV} : FT G n L vs body K fo_172.1 172 [a0, a1] [("data", some a0), ("at", some a1)] := f_mk ["data", "at"] [] fo_172.2 c_172 (bt2 (by intro ζ ζ; kernel_rfl)) fr_172
theorem fr_179 {p : Addr} : FrT fo_179.1 179 p := ⟨rfl, rfl, by kernel_rfl, by kernel_rfl, by kernel_rfl⟩
theorem f_179 {a0 : AV} : FT G n L vs body K fo_179.1 179 [a0] [("n", some a0), ("count", none)] := f_mk ["n"] ["count"] fo_179.2 c_179 (bt1 (by intro ζ; kernel_rfl)) fr_179
theorem fr_186 {p : Addr} : FrT fo_186.1 186 p := ⟨rfl, rfl, by kernel_rfl, by kernel_rfl, by kernel_rfl⟩
theorem f_186 {a0 : AV} : FT G n L vs body K fo_186.1 186 [a0] [("n", some a0)] := f_mk ["n"] [] fo_186.2 c_186 (bt1 (by intro ζ; kernel_rfl)) fr_186
theorem fr_193 {p : Addr} : FrT fo_193.1 193 p := ⟨rfl, rfl, by kernel_rfl, by kernel_rfl, by kernel_rfl⟩
theorem f_193 {a0 : AV} : FT G n L vs body K fo_193.1 193 [a0] [("n", some a0)] := f_mk ["n"] [] fo_193.2 c_193 (bt1 (by intro ζ; kernel_rfl)) fr_193
theorem fr_214 {p : Addr} : FrT fo_214.1 214 p := ⟨rfl, rfl, by kernel_rfl, by kernel_rfl, by kernel_rfl⟩
theorem f_214 {a0 a1 : AV} : FT G n L vs body K fo_214.1 214 [a0, a1] [("data", some a0), ("at", some a1), ("count", none)] := f_mk ["data", "at"] ["count"] fo_214.2 c_214 (bt2 (by intro ζ ζ; kernel_rfl)) fr_214
theorem fr_243 {p : Addr} : FrT fo_243.1 243 p := ⟨rfl, rfl, by kernel_rfl, by kernel_rfl, by kernel_rfl⟩
theorem f_243 {a0 : AV} : FT G n L vs body K fo_243.1 243 [a0] [("self", some a0), ("at", none), ("n", none)] := f_mk ["self"] ["at", "n"] fo_243.2 c_243 (bt1 (by intro ζ; kernel_rfl)) fr_243
theorem fr_264 {p : Addr} : FrT fo_264.1 264 p := ⟨rfl, rfl, by kernel_rfl, by kernel_rfl, by kernel_rfl⟩
theorem f_264 {a0 : AV} : FT G n L vs body K fo_264.1 264 [a0] [("self", some a0), ("b", none), ("at", none)] := f_mk ["self"] ["b", "at"] fo_264.2 c_264 (bt1 (by intro ζ; kernel_rfl)) fr_264
theorem fr_278 {p : Addr} : FrT fo_278.1 278 p := ⟨rfl, rfl, by kernel_rfl, by kernel_rfl, by kernel_rfl⟩
theorem f_278 {a0 : AV} : FT G n L vs body K fo_278.1 278 [a0] [("self", some a0), ("n", none)] := f_mk ["self"] ["n"] fo_278.2 c_278 (bt1 (by intro ζ; kernel_rfl)) fr_278
theorem fr_292 {p : Addr} : FrT fo_292.1 292 p := ⟨rfl, rfl, by kernel_rfl, by kernel_rfl, by kernel_rfl⟩
theorem f_292 {a0 : AV} : FT G n L vs body K fo_292.1 292 [a0] [("self", some a0)] := f_mk ["self"] [] fo_292.2 c_292 (bt1 (by intro ζ; kernel_rfl)) fr_292
theorem fr_313 {p : Addr} : FrT fo_313.1 313 p := ⟨rfl, rfl, by kernel_rfl, by kernel_rfl, by kernel_rfl⟩
theorem f_313 {a0 : AV} : FT G n L vs body K fo_313.1 313 [a0] [("self", some a0)] := f_mk ["self"] [] fo_313.2 c_313 (bt1 (by intro ζ; kernel_rfl)) fr_313
theorem fr_320 {p : Addr} : FrT fo_320.1 320 p := ⟨rfl, rfl, by kernel_rfl, by kernel_rfl, by kernel_rfl⟩
theorem f_320 {a0 a1 : AV} : FT G n L vs body K fo_320.1 320 [a0, a1] [("self", some a0), ("n", some a1)] := f_mk ["self", "n"] [] fo_320.2 c_320 (bt2 (by intro ζ ζ; kernel_rfl)) fr_320
theorem fr_341 {p : Addr} : FrT fo_341.1 341 p := ⟨rfl, rfl, by kernel_rfl, by kernel_rfl, by kernel_rfl⟩
theorem f_341 {a0 a1 : AV} : FT G n L vs body K fo_341.1 341 [a0, a1] [("self", some a0), ("b", some a1)] := f_mk ["self", "b"] [] fo_341.2 c_341 (bt2 (by intro ζ ζ; kernel_rfl)) fr_341
theorem fr_348 {p : Addr} : FrT fo_348.1 348 p := ⟨rfl, rfl, by kernel_rfl, by kernel_rfl, by kernel_rfl⟩
theorem f_348 {a0 a1 : AV} : FT G n L vs body K fo_348.1 348 [a0, a1] [("self", some a0), ("n", some a1)] := f_mk ["self", "n"] [] fo_348.2 c_348 (bt2 (by intro ζ ζ; kernel_rfl)) fr_348
theorem fr_355 {p : Addr} : FrT fo_355.1 355 p := ⟨rfl, rfl, by kernel_rfl, by kernel_rfl, by kernel_rfl⟩
theorem f_355 {a0 a1 : AV} : FT G n L vs body K fo_355.1 355 [a0, a1] [("self", some a0), ("b", some a1)] := f_mk ["self", "b"] [] fo_355.2 c_355 (bt2 (by intro ζ ζ; kernel_rfl)) fr_355
theorem fr_369 {p : Addr} : FrT fo_369.1 369 p := ⟨rfl, rfl, by kernel_rfl, by kernel_rfl, by kernel_rfl⟩
theorem f_369 {a0 : AV} : FT G n L vs body K fo_369.1 369 [a0] [("self", some a0)] := f_mk ["self"] [] fo_369.2 c_369 (bt1 (by intro ζ; kernel_rfl)) fr_369
theorem fr_390 {p : Addr} : FrT fo_390.1 390 p := ⟨rfl, rfl, by kernel_rfl, by kernel_rfl, by kernel_rfl⟩
theorem f_390 {a0 : AV} : FT G n L vs body K fo_390.1 390 [a0] [("self", some a0)] := f_mk ["self"] [] fo_390.2 c_390 (bt1 (by intro ζ; kernel_rfl)) fr_390
theorem fr_397 {p : Addr} : FrT fo_397.1 397 p := ⟨rfl, rfl, by kernel_rfl, by kernel_rfl, by kernel_rfl⟩
theorem f_397 {a0 a1 a2 : AV} : FT G n L vs body K fo_397.1 397 [a0, a1, a2] [("self", some a0), ("key", some a1), ("value", some a2)] := f_mk ["self", "key", "value"] [] fo_397.2 c_397 (bt3 (by intro ζ ζ ζ; kernel_rfl)) fr_397
theorem fr_404 {p : Addr} : FrT fo_404.1 404 p := ⟨rfl, rfl, by kernel_rfl, by kernel_rfl, by kernel_rfl⟩
theorem f_404 {a0 a1 : AV} : FT G n L vs body K fo_404.1 404 [a0, a1] [("self", some a0), ("key", some a1)] := f_mk ["self", "key"] [] fo_404.2 c_404 (bt2 (by intro ζ ζ; kernel_rfl)) fr_404
theorem fr_411 {p : Addr} : FrT fo_411.1 411 p := ⟨rfl, rfl, by kernel_rfl, by kernel_rfl, by kernel_rfl⟩
theorem f_411 {a0 a1 a2 a3 : AV} : FT G n L vs body K fo_411.1 411 [a0, a1, a2, a3] [("self", some a0), ("kind", some a1), ("key", some a2), ("value", some a3)] := f_mk ["self", "kind", "key", "value"] [] fo_411.2 c_411 (bt4 (by intro ζ ζ ζ ζ; kernel_rfl)) fr_411
theorem fr_425 {p : Addr} : FrT fo_425.1 425 p := ⟨rfl, rfl, by kernel_rfl, by kernel_rfl, by kernel_rfl⟩
theorem f_425 {a0 : AV} : FT G n L vs body K fo_425.1 425 [a0] [("self", some a0)] := f_mk ["self"] [] fo_425.2 c_425 (bt1 (by intro ζ; kernel_rfl)) fr_425
theorem fr_446 {p : Addr} : FrT fo_446.1 446 p := ⟨rfl, rfl, by kernel_rfl, by kernel_rfl, by kernel_rfl⟩
theorem f_446 {a0 : AV} : FT G n L vs body K fo_446.1 446 [a0] [("self", some a0)] := f_mk ["self"] [] fo_446.2 c_446 (bt1 (by intro ζ; kernel_rfl)) fr_446
theorem fr_495 {p : Addr} : FrT fo_495.1 495 p := ⟨rfl, rfl, by kernel_rfl, by kernel_rfl, by kernel_rfl⟩
theorem f_495 {a0 a1 a2 a3 a4 : AV} : FT G n L vs body K fo_495.1 495 [a0, a1, a2, a3, a4] [("self", some a0), ("term", some a1), ("index", some a2), ("kind", some a3), ("data", some a4)] := f_mk ["self", "term", "index", "kind", "data"] [] fo_495.2 c_495 (bt5 (by intro ζ ζ ζ ζ ζ; kernel_rfl)) fr_495
theorem fr_607 {p : Addr} : FrT fo_607.1 607 p := ⟨rfl, rfl, by kernel_rfl, by kernel_rfl, by kernel_rfl⟩
theorem f_607 {a0 a1 a2 a3 a4 a5 a6 : AV} : FT G n L vs body K fo_607.1 607 [a0, a1, a2, a3, a4, a5, a6] [("self", some a0), ("kind", some a1), ("client", some a2), ("number", some a3), ("key", some a4), ("value", some a5), ("expect", some a6)] := f_mk ["self", "kind", "client", "number", "key", "value", "expect"] [] fo_607.2 c_607 (bt7 (by intro ζ ζ ζ ζ ζ ζ ζ; kernel_rfl)) fr_607
theorem fr_621 {p : Addr} : FrT fo_621.1 621 p := ⟨rfl, rfl, by kernel_rfl, by kernel_rfl, by kernel_rfl⟩
theorem f_621 {a0 : AV} : FT G n L vs body K fo_621.1 621 [a0] [("self", some a0), ("sink", none)] := f_mk ["self"] ["sink"] fo_621.2 c_621 (bt1 (by intro ζ; kernel_rfl)) fr_621
theorem fr_635 {p : Addr} : FrT fo_635.1 635 p := ⟨rfl, rfl, by kernel_rfl, by kernel_rfl, by kernel_rfl⟩
theorem f_635 {a0 a1 : AV} : FT G n L vs body K fo_635.1 635 [a0, a1] [("sink", some a0), ("octets", some a1)] := f_mk ["sink", "octets"] [] fo_635.2 c_635 (bt2 (by intro ζ ζ; kernel_rfl)) fr_635
theorem fr_642 {p : Addr} : FrT fo_642.1 642 p := ⟨rfl, rfl, by kernel_rfl, by kernel_rfl, by kernel_rfl⟩
theorem f_642 {a0 : AV} : FT G n L vs body K fo_642.1 642 [a0] [("cursor", some a0)] := f_mk ["cursor"] [] fo_642.2 c_642 (bt1 (by intro ζ; kernel_rfl)) fr_642
theorem fr_649 {p : Addr} : FrT fo_649.1 649 p := ⟨rfl, rfl, by kernel_rfl, by kernel_rfl, by kernel_rfl⟩
theorem f_649 {a0 : AV} : FT G n L vs body K fo_649.1 649 [a0] [("data", some a0), ("cursor", none), ("kind", none), ("client", none), ("number", none), ("key", none), ("value", none), ("expect", none)] := f_mk ["data"] ["cursor", "kind", "client", "number", "key", "value", "expect"] fo_649.2 c_649 (bt1 (by intro ζ; kernel_rfl)) fr_649
theorem fr_656 {p : Addr} : FrT fo_656.1 656 p := ⟨rfl, rfl, by kernel_rfl, by kernel_rfl, by kernel_rfl⟩
theorem f_656 {a0 a1 : AV} : FT G n L vs body K fo_656.1 656 [a0, a1] [("code", some a0), ("old", some a1), ("sink", none)] := f_mk ["code", "old"] ["sink"] fo_656.2 c_656 (bt2 (by intro ζ ζ; kernel_rfl)) fr_656
theorem fr_663 {p : Addr} : FrT fo_663.1 663 p := ⟨rfl, rfl, by kernel_rfl, by kernel_rfl, by kernel_rfl⟩
theorem f_663 {a0 : AV} : FT G n L vs body K fo_663.1 663 [a0] [("key", some a0)] := f_mk ["key"] [] fo_663.2 c_663 (bt1 (by intro ζ; kernel_rfl)) fr_663
theorem fr_670 {p : Addr} : FrT fo_670.1 670 p := ⟨rfl, rfl, by kernel_rfl, by kernel_rfl, by kernel_rfl⟩
theorem f_670 {a0 : AV} : FT G n L vs body K fo_670.1 670 [a0] [("client", some a0), ("low", none)] := f_mk ["client"] ["low"] fo_670.2 c_670 (bt1 (by intro ζ; kernel_rfl)) fr_670
theorem fr_677 {p : Addr} : FrT fo_677.1 677 p := ⟨rfl, rfl, by kernel_rfl, by kernel_rfl, by kernel_rfl⟩
theorem f_677 {a0 : AV} : FT G n L vs body K fo_677.1 677 [a0] [("key", some a0), ("client", none), ("octet", none)] := f_mk ["key"] ["client", "octet"] fo_677.2 c_677 (bt1 (by intro ζ; kernel_rfl)) fr_677
theorem fr_684 {p : Addr} : FrT fo_684.1 684 p := ⟨rfl, rfl, by kernel_rfl, by kernel_rfl, by kernel_rfl⟩
theorem f_684 {a0 a1 a2 : AV} : FT G n L vs body K fo_684.1 684 [a0, a1, a2] [("last", some a0), ("is_open", some a1), ("reply", some a2), ("sink", none)] := f_mk ["last", "is_open", "reply"] ["sink"] fo_684.2 c_684 (bt3 (by intro ζ ζ ζ; kernel_rfl)) fr_684
theorem fr_691 {p : Addr} : FrT fo_691.1 691 p := ⟨rfl, rfl, by kernel_rfl, by kernel_rfl, by kernel_rfl⟩
theorem f_691 {a0 : AV} : FT G n L vs body K fo_691.1 691 [a0] [("data", some a0), ("cursor", none), ("last", none), ("is_open", none), ("reply", none)] := f_mk ["data"] ["cursor", "last", "is_open", "reply"] fo_691.2 c_691 (bt1 (by intro ζ; kernel_rfl)) fr_691
theorem fr_705 {p : Addr} : FrT fo_705.1 705 p := ⟨rfl, rfl, by kernel_rfl, by kernel_rfl, by kernel_rfl⟩
theorem f_705 {a0 a1 : AV} : FT G n L vs body K fo_705.1 705 [a0, a1] [("self", some a0), ("store", some a1)] := f_mk ["self", "store"] [] fo_705.2 c_705 (bt2 (by intro ζ ζ; kernel_rfl)) fr_705
theorem fr_712 {p : Addr} : FrT fo_712.1 712 p := ⟨rfl, rfl, by kernel_rfl, by kernel_rfl, by kernel_rfl⟩
theorem f_712 {a0 : AV} : FT G n L vs body K fo_712.1 712 [a0] [("self", some a0), ("data", none), ("index", none), ("term", none), ("conf_octets", none), ("cursor", none), ("conf", none)] := f_mk ["self"] ["data", "index", "term", "conf_octets", "cursor", "conf"] fo_712.2 c_712 (bt1 (by intro ζ; kernel_rfl)) fr_712
theorem fr_719 {p : Addr} : FrT fo_719.1 719 p := ⟨rfl, rfl, by kernel_rfl, by kernel_rfl, by kernel_rfl⟩
theorem f_719 {a0 : AV} : FT G n L vs body K fo_719.1 719 [a0] [("self", some a0)] := f_mk ["self"] [] fo_719.2 c_719 (bt1 (by intro ζ; kernel_rfl)) fr_719
theorem fr_726 {p : Addr} : FrT fo_726.1 726 p := ⟨rfl, rfl, by kernel_rfl, by kernel_rfl, by kernel_rfl⟩
theorem f_726 {a0 a1 a2 a3 a4 : AV} : FT G n L vs body K fo_726.1 726 [a0, a1, a2, a3, a4] [("self", some a0), ("batch", some a1), ("index", some a2), ("term", some a3), ("conf_octets", some a4), ("sink", none)] := f_mk ["self", "batch", "index", "term", "conf_octets"] ["sink"] fo_726.2 c_726 (bt5 (by intro ζ ζ ζ ζ ζ; kernel_rfl)) fr_726
theorem fr_740 {p : Addr} : FrT fo_740.1 740 p := ⟨rfl, rfl, by kernel_rfl, by kernel_rfl, by kernel_rfl⟩
theorem f_740 {a0 a1 a2 : AV} : FT G n L vs body K fo_740.1 740 [a0, a1, a2] [("self", some a0), ("entry", some a1), ("conf", some a2), ("conf_octets", none), ("batch", none), ("reply", none), ("command", none)] := f_mk ["self", "entry", "conf"] ["conf_octets", "batch", "reply", "command"] fo_740.2 c_740 (bt3 (by intro ζ ζ ζ; kernel_rfl)) fr_740
theorem fr_747 {p : Addr} : FrT fo_747.1 747 p := ⟨rfl, rfl, by kernel_rfl, by kernel_rfl, by kernel_rfl⟩
theorem f_747 {a0 a1 : AV} : FT G n L vs body K fo_747.1 747 [a0, a1] [("self", some a0), ("entry", some a1)] := f_mk ["self", "entry"] [] fo_747.2 c_747 (bt2 (by intro ζ ζ; kernel_rfl)) fr_747
theorem fr_754 {p : Addr} : FrT fo_754.1 754 p := ⟨rfl, rfl, by kernel_rfl, by kernel_rfl, by kernel_rfl⟩
theorem f_754 {a0 a1 a2 : AV} : FT G n L vs body K fo_754.1 754 [a0, a1, a2] [("self", some a0), ("command", some a1), ("batch", some a2), ("last", none), ("is_open", none), ("reply", none), ("row", none)] := f_mk ["self", "command", "batch"] ["last", "is_open", "reply", "row"] fo_754.2 c_754 (bt3 (by intro ζ ζ ζ; kernel_rfl)) fr_754
theorem fr_761 {p : Addr} : FrT fo_761.1 761 p := ⟨rfl, rfl, by kernel_rfl, by kernel_rfl, by kernel_rfl⟩
theorem f_761 {a0 a1 a2 : AV} : FT G n L vs body K fo_761.1 761 [a0, a1, a2] [("self", some a0), ("command", some a1), ("batch", some a2), ("kind", none), ("place", none), ("old", none)] := f_mk ["self", "command", "batch"] ["kind", "place", "old"] fo_761.2 c_761 (bt3 (by intro ζ ζ ζ; kernel_rfl)) fr_761
theorem fr_775 {p : Addr} : FrT fo_775.1 775 p := ⟨rfl, rfl, by kernel_rfl, by kernel_rfl, by kernel_rfl⟩
theorem f_775 {a0 a1 : AV} : FT G n L vs body K fo_775.1 775 [a0, a1] [("self", some a0), ("client", some a1), ("data", none)] := f_mk ["self", "client"] ["data"] fo_775.2 c_775 (bt2 (by intro ζ ζ; kernel_rfl)) fr_775
theorem fr_789 {p : Addr} : FrT fo_789.1 789 p := ⟨rfl, rfl, by kernel_rfl, by kernel_rfl, by kernel_rfl⟩
theorem f_789 {a0 : AV} : FT G n L vs body K fo_789.1 789 [a0] [("self", some a0), ("found", none), ("place", none), ("value", none)] := f_mk ["self"] ["found", "place", "value"] fo_789.2 c_789 (bt1 (by intro ζ; kernel_rfl)) fr_789
theorem fr_796 {p : Addr} : FrT fo_796.1 796 p := ⟨rfl, rfl, by kernel_rfl, by kernel_rfl, by kernel_rfl⟩
theorem f_796 {a0 : AV} : FT G n L vs body K fo_796.1 796 [a0] [("self", some a0), ("found", none), ("place", none), ("data", none), ("last", none), ("is_open", none), ("reply", none)] := f_mk ["self"] ["found", "place", "data", "last", "is_open", "reply"] fo_796.2 c_796 (bt1 (by intro ζ; kernel_rfl)) fr_796
theorem fr_803 {p : Addr} : FrT fo_803.1 803 p := ⟨rfl, rfl, by kernel_rfl, by kernel_rfl, by kernel_rfl⟩
theorem f_803 {a0 : AV} : FT G n L vs body K fo_803.1 803 [a0] [("self", some a0)] := f_mk ["self"] [] fo_803.2 c_803 (bt1 (by intro ζ; kernel_rfl)) fr_803
theorem fr_817 {p : Addr} : FrT fo_817.1 817 p := ⟨rfl, rfl, by kernel_rfl, by kernel_rfl, by kernel_rfl⟩
theorem f_817 {a0 a1 : AV} : FT G n L vs body K fo_817.1 817 [a0, a1] [("a", some a0), ("b", some a1)] := f_mk ["a", "b"] [] fo_817.2 c_817 (bt2 (by intro ζ ζ; kernel_rfl)) fr_817
theorem fr_831 {p : Addr} : FrT fo_831.1 831 p := ⟨rfl, rfl, by kernel_rfl, by kernel_rfl, by kernel_rfl⟩
theorem f_831 {a0 : AV} : FT G n L vs body K fo_831.1 831 [a0] [("self", some a0)] := f_mk ["self"] [] fo_831.2 c_831 (bt1 (by intro ζ; kernel_rfl)) fr_831
theorem fr_838 {p : Addr} : FrT fo_838.1 838 p := ⟨rfl, rfl, by kernel_rfl, by kernel_rfl, by kernel_rfl⟩
theorem f_838 {a0 a1 a2 : AV} : FT G n L vs body K fo_838.1 838 [a0, a1, a2] [("self", some a0), ("batch", some a1), ("sync", some a2)] := f_mk ["self", "batch", "sync"] [] fo_838.2 c_838 (bt3 (by intro ζ ζ ζ; kernel_rfl)) fr_838
theorem fr_845 {p : Addr} : FrT fo_845.1 845 p := ⟨rfl, rfl, by kernel_rfl, by kernel_rfl, by kernel_rfl⟩
theorem f_845 {a0 a1 : AV} : FT G n L vs body K fo_845.1 845 [a0, a1] [("self", some a0), ("ops", some a1), ("kind", none), ("key", none), ("value", none)] := f_mk ["self", "ops"] ["kind", "key", "value"] fo_845.2 c_845 (bt2 (by intro ζ ζ; kernel_rfl)) fr_845
theorem fr_852 {p : Addr} : FrT fo_852.1 852 p := ⟨rfl, rfl, by kernel_rfl, by kernel_rfl, by kernel_rfl⟩
theorem f_852 {a0 : AV} : FT G n L vs body K fo_852.1 852 [a0] [("self", some a0)] := f_mk ["self"] [] fo_852.2 c_852 (bt1 (by intro ζ; kernel_rfl)) fr_852
theorem fr_859 {p : Addr} : FrT fo_859.1 859 p := ⟨rfl, rfl, by kernel_rfl, by kernel_rfl, by kernel_rfl⟩
theorem f_859 {a0 : AV} : FT G n L vs body K fo_859.1 859 [a0] [("self", some a0)] := f_mk ["self"] [] fo_859.2 c_859 (bt1 (by intro ζ; kernel_rfl)) fr_859
theorem fr_866 {p : Addr} : FrT fo_866.1 866 p := ⟨rfl, rfl, by kernel_rfl, by kernel_rfl, by kernel_rfl⟩
theorem f_866 {a0 a1 : AV} : FT G n L vs body K fo_866.1 866 [a0, a1] [("self", some a0), ("key", some a1)] := f_mk ["self", "key"] [] fo_866.2 c_866 (bt2 (by intro ζ ζ; kernel_rfl)) fr_866
theorem fr_873 {p : Addr} : FrT fo_873.1 873 p := ⟨rfl, rfl, by kernel_rfl, by kernel_rfl, by kernel_rfl⟩
theorem f_873 {a0 a1 a2 a3 : AV} : FT G n L vs body K fo_873.1 873 [a0, a1, a2, a3] [("self", some a0), ("low", some a1), ("high", some a2), ("snap", some a3), ("found", none), ("key", none)] := f_mk ["self", "low", "high", "snap"] ["found", "key"] fo_873.2 c_873 (bt4 (by intro ζ ζ ζ ζ; kernel_rfl)) fr_873
theorem fr_880 {p : Addr} : FrT fo_880.1 880 p := ⟨rfl, rfl, by kernel_rfl, by kernel_rfl, by kernel_rfl⟩
theorem f_880 {a0 a1 : AV} : FT G n L vs body K fo_880.1 880 [a0, a1] [("self", some a0), ("pick", some a1), ("keep", none), ("other", none), ("ops", none)] := f_mk ["self", "pick"] ["keep", "other", "ops"] fo_880.2 c_880 (bt2 (by intro ζ ζ; kernel_rfl)) fr_880
theorem fr_894 {p : Addr} : FrT fo_894.1 894 p := ⟨rfl, rfl, by kernel_rfl, by kernel_rfl, by kernel_rfl⟩
theorem f_894 : FT G n L vs body K fo_894.1 894 [] [] := f_mk [] [] fo_894.2 c_894 (bt0 (by kernel_rfl)) fr_894
theorem fr_901 {p : Addr} : FrT fo_901.1 901 p := ⟨rfl, rfl, by kernel_rfl, by kernel_rfl, by kernel_rfl⟩
theorem f_901 : FT G n L vs body K fo_901.1 901 [] [] := f_mk [] [] fo_901.2 c_901 (bt0 (by kernel_rfl)) fr_901
theorem fr_908 {p : Addr} : FrT fo_908.1 908 p := ⟨rfl, rfl, by kernel_rfl, by kernel_rfl, by kernel_rfl⟩
theorem f_908 : FT G n L vs body K fo_908.1 908 [] [] := f_mk [] [] fo_908.2 c_908 (bt0 (by kernel_rfl)) fr_908
theorem fr_915 {p : Addr} : FrT fo_915.1 915 p := ⟨rfl, rfl, by kernel_rfl, by kernel_rfl, by kernel_rfl⟩
theorem f_915 : FT G n L vs body K fo_915.1 915 [] [] := f_mk [] [] fo_915.2 c_915 (bt0 (by kernel_rfl)) fr_915
theorem fr_922 {p : Addr} : FrT fo_922.1 922 p := ⟨rfl, rfl, by kernel_rfl, by kernel_rfl, by kernel_rfl⟩
theorem f_922 : FT G n L vs body K fo_922.1 922 [] [] := f_mk [] [] fo_922.2 c_922 (bt0 (by kernel_rfl)) fr_922
theorem fr_929 {p : Addr} : FrT fo_929.1 929 p := ⟨rfl, rfl, by kernel_rfl, by kernel_rfl, by kernel_rfl⟩
theorem f_929 {a0 a1 : AV} : FT G n L vs body K fo_929.1 929 [a0, a1] [("nums", some a0), ("i", some a1)] := f_mk ["nums", "i"] [] fo_929.2 c_929 (bt2 (by intro ζ ζ; kernel_rfl)) fr_929
theorem fr_936 {p : Addr} : FrT fo_936.1 936 p := ⟨rfl, rfl, by kernel_rfl, by kernel_rfl, by kernel_rfl⟩
theorem f_936 {a0 : AV} : FT G n L vs body K fo_936.1 936 [a0] [("word", some a0)] := f_mk ["word"] [] fo_936.2 c_936 (bt1 (by intro ζ; kernel_rfl)) fr_936
theorem fr_943 {p : Addr} : FrT fo_943.1 943 p := ⟨rfl, rfl, by kernel_rfl, by kernel_rfl, by kernel_rfl⟩
theorem f_943 {a0 a1 : AV} : FT G n L vs body K fo_943.1 943 [a0, a1] [("asked", some a0), ("opened", some a1), ("whose", none), ("seats", none), ("who", none), ("last", none), ("still", none), ("latest", none), ("one", none), ("number", none)] := f_mk ["asked", "opened"] ["whose", "seats", "who", "last", "still", "latest", "one", "number"] fo_943.2 c_943 (bt2 (by intro ζ ζ; kernel_rfl)) fr_943
theorem fr_950 {p : Addr} : FrT fo_950.1 950 p := ⟨rfl, rfl, by kernel_rfl, by kernel_rfl, by kernel_rfl⟩
theorem f_950 {a0 a1 : AV} : FT G n L vs body K fo_950.1 950 [a0, a1] [("asked", some a0), ("whose", some a1), ("told", none), ("rows", none), ("wrote", none), ("place", none), ("old", none), ("one", none), ("who", none), ("number", none), ("kind", none), ("spot", none), ("word", none), ("expect", none), ("fresh", none), ("code", none)] := f_mk ["asked", "whose"] ["told", "rows", "wrote", "place", "old", "one", "who", "number", "kind", "spot", "word", "expect", "fresh", "code"] fo_950.2 c_950 (bt2 (by intro ζ ζ; kernel_rfl)) fr_950
theorem fr_957 {p : Addr} : FrT fo_957.1 957 p := ⟨rfl, rfl, by kernel_rfl, by kernel_rfl, by kernel_rfl⟩
theorem f_957 {a0 a1 : AV} : FT G n L vs body K fo_957.1 957 [a0, a1] [("one", some a0), ("two", some a1)] := f_mk ["one", "two"] [] fo_957.2 c_957 (bt2 (by intro ζ ζ; kernel_rfl)) fr_957
theorem fr_962 {p : Addr} : Fr (callEnvC fo_962.1 p 962) p fo_962.1.scope := ⟨rfl, rfl, by kernel_rfl, by kernel_rfl, by kernel_rfl⟩
end
end Mine
end
section
open PySem PySem.W PySem.Calls PyProof.Rows PySem.Spec
set_option Elab.async false
set_option linter.unusedVariables false
set_option maxRecDepth 100000
set_option maxHeartbeats 4000000
namespace Mine
local macro_rules | `(tactic| fail "mx nn") => `(tactic| first | with_reducible assumption | with_reducible exact n_pr (by with_reducible assumption) (by decide) | with_reducible exact n_up (by with_reducible assumption) (by decide) | lia)
section
structure Cmd where
  who : Int
  num : Int
  kind : Int
  spot : Int
  word : List UInt8
  exp : Option (List UInt8)
noncomputable abbrev cmdT (t : Addr) (c : Cmd) : Addr × AObj := (t, .tuple [.int c.who, .int c.num, .int c.kind, .int c.spot, .bytes c.word, opt c.exp])
noncomputable def freeB (a b : Cmd) : Bool := !(a.who == b.who) && (decide (a.kind < 1) || decide (a.kind > 4) || decide (b.kind < 1) || decide (b.kind > 4) || (a.spot != b.spot))
theorem freeB_a {a b : Cmd} (h : (a.who == b.who) = true) : freeB a b = false := by unfold freeB; rw [h]; rfl
theorem freeB_b {a b : Cmd} (h : (a.who == b.who) = false) (h2 : decide (a.kind < 1) = true ∨ decide (a.kind > 4) = true ∨ decide (b.kind < 1) = true ∨ decide (b.kind > 4) = true) : freeB a b = true := by
  unfold freeB; rw [h]; rcases h2 with h | h | h | h <;> rw [h] <;> simp
theorem freeB_c {a b : Cmd} (h : (a.who == b.who) = false) (h1 : decide (a.kind < 1) = false) (h2 : decide (a.kind > 4) = false) (h3 : decide (b.kind < 1) = false) (h4 : decide (b.kind > 4) = false) : freeB a b = (a.spot != b.spot) := by
  unfold freeB; rw [h, h1, h2, h3, h4]; simp
section
variable {G : Gr} {n : Nat} {R : Led} {vs : List Value} {K : AV → Led → Prop}
theorem k_free {t u : Addr} {a b : Cmd} (hv : VRs [.con (.ref t), .con (.ref u)] vs) (ht : cmdT t a ∈ R) (hu : cmdT u b ∈ R) (h : K (.bool (freeB a b)) R) (hn : 1 ≤ n := by fail "mx nn") :
    Cc G n R (.ref 957) ([] ++ vs) K := by
  refine f_957 (by fail "mx nn") ‹_› rfl (fun p hE => ?_)
  refine sIf (tvC (evS (evN hE mm0 mm0) evI (sT (by (repeat refine List.mem_cons_of_mem _ ?_); assumption) (i_cl (by decide)) (i_cl' (by decide)) rfl (fun ζ ζ => rfl))) (evS (evN hE mm0 mm1) evI (sT (by (repeat refine List.mem_cons_of_mem _ ?_); assumption) (i_cl (by decide)) (i_cl' (by decide)) rfl (fun ζ ζ => rfl))) cEq) ?_
  refine kB (App.cons App.nil) App.nil (fun ζ => ?_) (fun ζ => ?_)
  refine sRet evT ?_
  rotate_left
  refine Cons' (If' (TtBool_ (OrCons' (TtCmpA (SubXA (Name_ mm0 mm0 (Int_ (itemTA (by (repeat refine List.mem_cons_of_mem _ ?_); assumption) (i_cl (by decide)) (i_cl' (by decide)) rfl ?_))))))))
  refine Int_ (ltIA (truthyA (onB_s (fun ζ => ?_) (fun ζ => ?_))))
  refine onB_t rfl (sRet evT (onN_r ?_))
  rotate_left
  refine OrCons' (TtCmpA (SubXA (Name_ mm0 mm0 (Int_ (itemTA (by (repeat refine List.mem_cons_of_mem _ ?_); assumption) (i_cl (by decide)) (i_cl' (by decide)) rfl ?_)))))
  refine Int_ (gtIA (truthyA (onB_s (fun ζ => ?_) (fun ζ => ?_))))
  refine onB_t rfl (sRet evT (onN_r ?_))
  rotate_left
  refine OrCons' (TtCmpA (SubXA (Name_ mm0 mm1 (Int_ (itemTA (by (repeat refine List.mem_cons_of_mem _ ?_); assumption) (i_cl (by decide)) (i_cl' (by decide)) rfl ?_)))))
  refine Int_ (ltIA (truthyA (onB_s (fun ζ => ?_) (fun ζ => ?_))))
  refine onB_t rfl (sRet evT (onN_r ?_))
  rotate_left
  refine OrCons' (TtCmpA (SubXA (Name_ mm0 mm1 (Int_ (itemTA (by (repeat refine List.mem_cons_of_mem _ ?_); assumption) (i_cl (by decide)) (i_cl' (by decide)) rfl ?_)))))
  refine Int_ (gtIA (truthyA (onB_s (fun ζ => ?_) (fun ζ => ?_))))
  refine onB_t rfl (sRet evT (onN_r ?_))
  rotate_left
  refine OrNil_ (onB_f rfl (Nil_ (onN_n (sRet (evCmp (evS (evN hE mm0 mm0) evI (sT (by (repeat refine List.mem_cons_of_mem _ ?_); assumption) (i_cl (by decide)) (i_cl' (by decide)) rfl (fun ζ ζ => rfl))) (evS (evN hE mm0 mm1) evI (sT (by (repeat refine List.mem_cons_of_mem _ ?_); assumption) (i_cl (by decide)) (i_cl' (by decide)) rfl (fun ζ ζ => rfl))) cNe) ?_))))
  rotate_left
  all_goals first
    | exact ⟨R, by exact (pS Pick.refl), by rw [freeB_a ‹_›] at h; exact h⟩
    | exact ⟨R, by exact (pS Pick.refl), by rw [freeB_b ‹_› (by first | exact .inl ‹_› | exact .inr (.inl ‹_›) | exact .inr (.inr (.inl ‹_›)) | exact .inr (.inr (.inr ‹_›)))] at h; exact h⟩
    | exact ⟨R, by exact (pS Pick.refl), by rw [freeB_c ‹_› ‹_› ‹_› ‹_› ‹_›] at h; exact h⟩
end
end
section
section
variable {G : Gr} {n : Nat} {R : Led} {vs : List Value} {K : AV → Led → Prop}
theorem k_clients (hv : VRs [] vs) (h : ∀ p, K (.con (.ref p)) ((p, .list [.int 5, .int 300]) :: R)) (hn : 1 ≤ n := by fail "mx nn") : Cc G n R (.ref 894) ([] ++ vs) K := by
  refine f_894 (by fail "mx nn") ‹_› rfl (fun p hE => ?_)
  refine sRetC (xL (evs1 evI (evs1 evI evs0)) (by rfl) (by rfl) ?_)
  intro ζ
  refine kR_ ?_
  rotate_left
  exact ⟨_, by exact (pC rm0 (pS Pick.refl)), h _⟩
theorem k_keys (hv : VRs [] vs) (h : ∀ p, K (.con (.ref p)) ((p, .list [.bytes [], .bytes [107]]) :: R)) (hn : 1 ≤ n := by fail "mx nn") : Cc G n R (.ref 901) ([] ++ vs) K := by
  refine f_901 (by fail "mx nn") ‹_› rfl (fun p hE => ?_)
  refine sRetC (xL (evs1 evB (evs1 evB evs0)) (by rfl) (by rfl) ?_)
  intro ζ
  refine kR_ ?_
  rotate_left
  exact ⟨_, by exact (pC rm0 (pS Pick.refl)), h _⟩
theorem k_kinds (hv : VRs [] vs) (h : ∀ p, K (.con (.ref p)) ((p, .list ([1, 4, 3, 2, 4, 3, 6, 5, 0].map .int)) :: R)) (hn : 1 ≤ n := by fail "mx nn") : Cc G n R (.ref 908) ([] ++ vs) K := by
  refine f_908 (by fail "mx nn") ‹_› rfl (fun p hE => ?_)
  with_reducible refine sRetC ?_
  with_reducible refine xL (evs1 evI (evs1 evI (evs1 evI (evs1 evI (evs1 evI (evs1 evI (evs1 evI (evs1 evI (evs1 evI evs0))))))))) (by kernel_rfl) (by kernel_rfl) ?_
  intro ζ
  refine kR_ ?_
  rotate_left
  exact ⟨_, by exact (pC Rem.head (pS Pick.refl)), h _⟩
theorem k_steps (hv : VRs [] vs) (h : ∀ p, K (.con (.ref p)) ((p, .list ([1, 1, 0, -1].map .int)) :: R)) (hn : 1 ≤ n := by fail "mx nn") : Cc G n R (.ref 915) ([] ++ vs) K := by
  refine f_915 (by fail "mx nn") ‹_› rfl (fun p hE => ?_)
  with_reducible refine sRetC ?_
  with_reducible refine xL (evs1 evI (evs1 evI (evs1 evI (evs1 (evNeg evI) evs0)))) (by kernel_rfl) (by kernel_rfl) ?_
  intro ζ
  refine kR_ ?_
  rotate_left
  exact ⟨_, by exact (pC Rem.head (pS Pick.refl)), h _⟩
theorem k_wants (hv : VRs [] vs) (h : ∀ p, K (.con (.ref p)) ((p, .list [.none, .bytes [97], .bytes [98]]) :: R)) (hn : 1 ≤ n := by fail "mx nn") : Cc G n R (.ref 922) ([] ++ vs) K := by
  refine f_922 (by fail "mx nn") ‹_› rfl (fun p hE => ?_)
  refine sRetC (xL (evs1 evZ (evs1 evB (evs1 evB evs0))) (by rfl) (by rfl) ?_)
  intro ζ
  refine kR_ ?_
  rotate_left
  exact ⟨_, by exact (pC rm0 (pS Pick.refl)), h _⟩
theorem k_maybe_n (hv : VRs [.none] vs) (h : K (.bytes (mb none)) R) (hn : 1 ≤ n := by fail "mx nn") : Cc G n R (.ref 936) ([] ++ vs) K := by
  refine f_936 (by fail "mx nn") ‹_› rfl (fun p hE => ?_)
  refine sIf (tvC (evN hE mm0 mm0) evZ cIsN) (kT rfl (App.cons App.nil) (sRet evB ?_))
  rotate_left
  exact ⟨_, by exact (pS Pick.refl), h⟩
theorem k_maybe_s {w : List UInt8} (hv : VRs [.bytes w] vs) (hw : w.length < 128) (h : K (.bytes (mb (some w))) R) (hn : 1 ≤ n := by fail "mx nn") : Cc G n R (.ref 936) ([] ++ vs) K := by
  refine f_936 (by fail "mx nn") ‹_› rfl (fun p hE => ?_)
  refine sIf (tvC (evN hE mm0 mm0) evZ cIsB) (kF rfl App.nil (sRetC (BinOpA (CallTNA (by k_is) (by boot_by_name) ?_ (by kernel_rfl)))))
  refine ArgsCons_ (xL (evs1 evI (evs1 (evCB hE (evs1 (evN hE mm0 mm0) evs0) (fLenB (by lia))) evs0)) (by rfl) (by rfl) ?_)
  intro ζ
  refine ArgsNil_ (bytesLA mm0 (IntsOf.cons (IntsOf.cons IntsOf.nil)) (by simp only [lens, false_implies, implies_true, and_true]; first | done | lia) nle ?_)
  refine Name_ mm1 mm0 (addBA (by simp only [lens, false_implies, implies_true, and_true]; first | done | lia) ?_)
  refine kR_ ?_
  rotate_left
  exact ⟨_, by exact (pS (pS Pick.refl)), h⟩
theorem k_maybe {o : Option (List UInt8)} (hv : VRs [opt o] vs) (hw : ∀ w, o = some w → w.length < 128) (h : K (.bytes (mb o)) R) (hn : 1 ≤ n := by fail "mx nn") : Cc G n R (.ref 936) ([] ++ vs) K := by
  cases o with
  | none => exact k_maybe_n hv h
  | some w => exact k_maybe_s hv (hw _ rfl) h
end
end
section
structure JSt where
  last : Int
  still : Bool
  latest : Int
  whose : List Int
noncomputable def jstep (w : Int) (c : Cmd) (i : Nat) (s : JSt) : JSt :=
  if c.who = w then
    if c.num = s.last then { s with whose := s.whose.set i s.latest }
    else if c.num < s.last then { s with whose := s.whose.set i 10 }
    else if s.still = true ∨ c.kind = 5 then { last := c.num, still := c.kind != 6, latest := i, whose := s.whose.set i i }
    else s
  else s
noncomputable def jrun (w : Int) (cs : List Cmd) : Nat → JSt → JSt
  | 0, s => s
  | i + 1, s => match cs[i]? with
    | some c => jstep w c i (jrun w cs i s)
    | none => jrun w cs i s
theorem jstep_no {w : Int} {c : Cmd} {i : Nat} {s : JSt} (h : (c.who == w) = false) : jstep w c i s = s := by
  unfold jstep; rw [if_neg (by simpa using h)]
theorem jstep_eq {w : Int} {c : Cmd} {i : Nat} {s : JSt} (h : (c.who == w) = true) (h2 : (c.num == s.last) = true) : jstep w c i s = { s with whose := s.whose.set i s.latest } := by
  unfold jstep; rw [if_pos (by simpa using h), if_pos (by simpa using h2)]
theorem jstep_lt {w : Int} {c : Cmd} {i : Nat} {s : JSt} (h : (c.who == w) = true) (h2 : (c.num == s.last) = false) (h3 : decide (c.num < s.last) = true) : jstep w c i s = { s with whose := s.whose.set i 10 } := by
  unfold jstep; rw [if_pos (by simpa using h), if_neg (by simpa using h2), if_pos (by simpa using h3)]
theorem jstep_go {w : Int} {c : Cmd} {i : Nat} {s : JSt} (h : (c.who == w) = true) (h2 : (c.num == s.last) = false) (h3 : decide (c.num < s.last) = false) (h4 : s.still = true ∨ (c.kind == 5) = true) : jstep w c i s = { last := c.num, still := c.kind != 6, latest := i, whose := s.whose.set i i } := by
  unfold jstep; rw [if_pos (by simpa using h), if_neg (by simpa using h2), if_neg (by simpa using h3), if_pos (by simpa using h4)]
theorem jstep_un {w : Int} {c : Cmd} {i : Nat} {s : JSt} (h : (c.who == w) = true) (h2 : (c.num == s.last) = false) (h3 : decide (c.num < s.last) = false) (h4 : s.still = false) (h5 : (c.kind == 5) = false) : jstep w c i s = s := by
  unfold jstep; rw [if_pos (by simpa using h), if_neg (by simpa using h2), if_neg (by simpa using h3), if_neg (by rw [h4]; simpa using h5)]
theorem jstep_len {w : Int} {c : Cmd} {i : Nat} {s : JSt} : (jstep w c i s).whose.length = s.whose.length := by
  unfold jstep; repeat' split
  all_goals simp
theorem jrun_len {w : Int} {cs : List Cmd} : ∀ (i : Nat) {s : JSt}, (jrun w cs i s).whose.length = s.whose.length
  | 0, _ => rfl
  | i + 1, s => by
    unfold jrun
    split
    · rw [jstep_len, jrun_len i]
    · exact jrun_len i
noncomputable def jstart (o : Bool) : Int × Bool × Int := if o then (1, true, 9) else (-1, false, 11)
noncomputable def seatOf (w : Int) (s : JSt) : List (Int × Int × Bool × Int) := if 0 ≤ s.last then [(w, s.last, s.still, s.latest)] else []
noncomputable def judge (cs : List Cmd) (o0 o1 : Bool) : List Int × List (Int × Int × Bool × Int) :=
  let s0 := jrun 0 cs 4 { last := (jstart o0).1, still := (jstart o0).2.1, latest := (jstart o0).2.2, whose := [11, 11, 11, 11] }
  let s1 := jrun 1 cs 4 { last := (jstart o1).1, still := (jstart o1).2.1, latest := (jstart o1).2.2, whose := s0.whose }
  (s1.whose, seatOf 0 s0 ++ seatOf 1 s1)
theorem loopR {G : Gr} {n : Nat} {E : Env} {target : Expr} {body orelse : List Stmt} {it : Addr} {k : Nat} {Inv : Nat → Led → Prop} {K : Fl → Led → Prop}
    (hgo : ∀ (i : Nat) Li v, Cu G n ((it, .riter ((i : Int) + 1) ((k : Int) - i - 1)) :: Li) (letOwnedTupleGo target (.ref it) v) fun ζ L' => L' = (it, .riter ((i : Int) + 1) ((k : Int) - i - 1)) :: Li)
    (turn : ∀ (i : Nat) Li, i < k → Inv i Li → ∀ v, VR (.int i) v → Cu G n ((it, .riter ((i : Int) + 1) ((k : Int) - i - 1)) :: Li) (assign target E v) fun ζ L2 => Cf G n L2 (execs body E) fun fl L3 =>
      onL fl (∃ Li', Pick ((it, .riter ((i : Int) + 1) ((k : Int) - i - 1)) :: Li') L3 ∧ Inv (i + 1) Li') (K .next L3) fun a => K (.ret a) L3)
    (fin : ∀ Li, Inv k Li → Cf G n Li (execs orelse E) K) : ∀ (j i : Nat) Li, k - i = j → i ≤ k → Inv i Li → Cl G n ((it, .riter i ((k : Int) - i)) :: Li) (.forLoop target (.ref it) body orelse E) K := by
  intro j
  induction j with
  | zero =>
    intro i Li hk hi hI
    exact FendR .refl (by lia) (fin _ (by rwa [show i = k by lia] at hI))
  | succ j ih =>
    intro i Li hk hi hI
    have hlt : i < k := by lia
    refine FstepR .refl (by lia) fun v hv => ?_
    refine (hgo i Li v).mono fun ζ L' e => ?_
    subst e
    refine (turn i Li hlt hI v hv).mono fun ζ L2 k2 => k2.mono fun fl L3 k3 => ?_
    have hn : (∃ Li', Pick ((it, .riter ((i : Int) + 1) ((k : Int) - i - 1)) :: Li') L3 ∧ Inv (i + 1) Li') → Cl G n L3 (.forLoop target (.ref it) body orelse E) K := fun ⟨Li', hp, hI'⟩ => by
      have := ih (i + 1) Li' (by lia) hlt hI'
      rw [show (((i + 1 : Nat) : Int)) = (i : Int) + 1 by lia, show (k : Int) - ((i : Int) + 1) = (k : Int) - i - 1 by lia] at this
      exact Cl.pick hp this
    cases fl with
    | next => exact hn k3
    | cont => exact hn k3
    | brk => exact k3
    | ret a => exact k3
noncomputable def forBody : Stmt → List Stmt
  | .For _ _ b _ _ => b
  | _ => []
noncomputable def h0 : List Stmt → Stmt
  | a :: _ => a
  | [] => .Pass ⟨0, 0, 0, 0⟩
noncomputable def tl : List Stmt → List Stmt
  | _ :: l => l
  | [] => []
noncomputable def stmtsOf : FuncBody → List Stmt
  | .stmts b => b
  | _ => []
noncomputable def jOuter : List Stmt := forBody (h0 (tl (tl (stmtsOf fo_943.1.body))))
noncomputable def jInner : List Stmt := forBody (h0 (tl (tl (tl (tl jOuter)))))
section
variable {G : Gr} {n : Nat} {R : Led} {vs : List Value} {K : AV → Led → Prop}
theorem judge_inner {p it la wp : Addr} {cs : List Cmd} {ts : List Addr} {ao aseats aone anum : Option AV} {w : Int} {s0 : JSt} {pos : Pos} {K : Fl → Led → Prop} (hc : cs.length = 4) (ht : ts.length = 4)
    (hm : ∀ (i : Nat) t c, ts[i]? = some t → cs[i]? = some c → cmdT t c ∈ R) (hla : (la, AObj.list (ts.map fun t => .con (.ref t))) ∈ R) (hs0 : s0.whose.length = 4)
    (h : ∀ a1 a2, K .next ((p, .ns fo_943.1.scope [("asked", some (.con (.ref la))), ("opened", ao), ("whose", some (.con (.ref wp))), ("seats", aseats), ("who", some (.int w)), ("last", some (.int (jrun w cs 4 s0).last)), ("still", some (.bool (jrun w cs 4 s0).still)), ("latest", some (.int (jrun w cs 4 s0).latest)), ("one", a1), ("number", a2)]) :: (wp, .list ((jrun w cs 4 s0).whose.map .int)) :: R)) :
    Cl G n ((it, .riter 0 4) :: (p, .ns fo_943.1.scope [("asked", some (.con (.ref la))), ("opened", ao), ("whose", some (.con (.ref wp))), ("seats", aseats), ("who", some (.int w)), ("last", some (.int s0.last)), ("still", some (.bool s0.still)), ("latest", some (.int s0.latest)), ("one", aone), ("number", anum)]) :: (wp, .list (s0.whose.map .int)) :: R)
      (.forLoop (.Name "one" pos) (.ref it) jInner [] (callEnv fo_943.1 p 943)) K := by
  refine loopR (k := 4) (Inv := fun i Li => ∃ a1 a2, Li = (p, .ns fo_943.1.scope [("asked", some (.con (.ref la))), ("opened", ao), ("whose", some (.con (.ref wp))), ("seats", aseats), ("who", some (.int w)), ("last", some (.int (jrun w cs i s0).last)), ("still", some (.bool (jrun w cs i s0).still)), ("latest", some (.int (jrun w cs i s0).latest)), ("one", a1), ("number", a2)]) :: (wp, .list ((jrun w cs i s0).whose.map .int)) :: R) ?hgo ?turn ?fin 4 0 _ rfl (by decide) ⟨aone, anum, rfl⟩
  case hgo => intro i Li v; exact goN_ rfl
  case turn =>
    rintro i Li hi ⟨a1, a2, rfl⟩ v hv'
    have hci : cs[i]? = some (cs[i]'(by lia)) := List.getElem?_eq_getElem _
    have hti : ts[i]? = some (ts[i]'(by lia)) := List.getElem?_eq_getElem _
    generalize cs[i]'(by lia) = c at hci
    generalize ts[i]'(by lia) = t at hti
    have hmm := hm i t c hti hci
    have hit : (ts.map fun t => AV.con (.ref t))[((i : Int)).toNat]? = some (.con (.ref t)) := by rw [List.getElem?_map, Int.toNat_natCast, hti]; rfl
    have hj : jrun w cs (i + 1) s0 = jstep w c i (jrun w cs i s0) := by rw [jrun, hci]
    have hwl : (jrun w cs i s0).whose.length = 4 := by rw [jrun_len, hs0]
    generalize jrun w cs i s0 = st at hj hwl
    generalize hE : callEnv fo_943.1 p 943 = E
    generalize hsc : fo_943.1.scope = sc
    dsimp only [jInner, jOuter, forBody, h0, tl, stmtsOf, fo_943]
    subst hE hsc
    refine AsgN_ (store_ ‹_› up1 rp8 ?_)
    refine C.hide fun ζ ζ => Cons' (If' (TtCmpA (SubXA (SubXA (Name_ mm1 mm0 (Name_ mm1 mm8 (itemLA (by (repeat refine List.mem_cons_of_mem _ ?_); assumption) c_nn (c_lt ‹_› (by decide)) ‹_› ?_)))))))
    refine Int_ (itemTA (by (repeat refine List.mem_cons_of_mem _ ?_); assumption) (i_cl (by decide)) (i_cl' (by decide)) rfl ?_)
    refine Name_ mm1 mm4 (eqIA (truthyA (onB_s (fun ζ => ?_) (fun ζ => ?_))))
    refine sAsgC (SubXA (SubXA (Name_ mm1 mm0 (Name_ mm1 mm8 (itemLA (by (repeat refine List.mem_cons_of_mem _ ?_); assumption) c_nn (c_lt ‹_› (by decide)) ‹_› ?_)))))
    refine Int_ (itemTA (by (repeat refine List.mem_cons_of_mem _ ?_); assumption) (i_cl (by decide)) (i_cl' (by decide)) rfl ?_)
    refine storeA up1 rp9 (Cons' (If' (TtCmpA (Name_ mm1 mm9 (Name_ mm1 mm5 (eqIA (truthyA (onB_s (fun ζ => ?_) (fun ζ => ?_)))))))))
    refine sUnC (Name_ mm1 mm7 (AsgSA (Name_ mm1 mm2 (Name_ mm1 mm8 (SItA.mk fun ζ ζ ζ ζ ζ ζ => setLi_ ‹_› ‹_› ‹_› mm2 c_nn (by lia) (by lia) up2 ?_)))))
    refine Nil_ (onN_n (Nil_ (onN_n (Nil_ (hideOut ‹_› ?_)))))
    refine onL_n ?_
    rotate_left
    refine Cons' (If' (TtCmpA (Name_ mm1 mm9 (Name_ mm1 mm5 (ltIA (truthyA (onB_s (fun ζ => ?_) (fun ζ => ?_))))))))
    refine sUn evI (AsgSA (Name_ mm1 mm2 (Name_ mm1 mm8 (SItA.mk fun ζ ζ ζ ζ ζ ζ => setLi_ ‹_› ‹_› ‹_› mm2 c_nn (by lia) (by lia) up2 ?_))))
    refine Nil_ (onN_n (Nil_ (onN_n (Nil_ (onN_n (Nil_ (hideOut ‹_› ?_)))))))
    refine onL_n ?_
    rotate_left
    refine Cons' (If' (TtBool_ (OrCons' (TtValA (Name_ mm1 mm6 (truthyA (onB_s (fun ζ => ?_) (fun ζ => ?_))))))))
    refine onB_t rfl (sUnC (Name_ mm1 mm8 (AsgSA (Name_ mm1 mm2 (Name_ mm1 mm8 (SItA.mk fun ζ ζ ζ ζ ζ ζ => setLi_ ‹_› ‹_› ‹_› mm2 c_nn (by lia) (by lia) up2 ?_))))))
    refine sAsgC (Name_ mm1 mm9 (storeA up1 rp5 (sAsgC (Name_ mm1 mm8 (storeA up1 rp7 (sAsgC (CompareA (SubXA (SubXA (Name_ mm1 mm0 (Name_ mm1 mm8 (itemLA (by (repeat refine List.mem_cons_of_mem _ ?_); assumption) c_nn (c_lt ‹_› (by decide)) ‹_› ?_))))))))))))
    refine Int_ (itemTA (by (repeat refine List.mem_cons_of_mem _ ?_); assumption) (i_cl (by decide)) (i_cl' (by decide)) rfl ?_)
    refine Int_ (neIA (storeA up1 rp6 (Nil_ (onN_n (Nil_ (onN_n (Nil_ (onN_n (Nil_ (onN_n (Nil_ (hideOut ‹_› ?_))))))))))))
    refine onL_n ?_
    rotate_left
    refine OrCons' (TtCmpA (SubXA (SubXA (Name_ mm1 mm0 (Name_ mm1 mm8 (itemLA (by (repeat refine List.mem_cons_of_mem _ ?_); assumption) c_nn (c_lt ‹_› (by decide)) ‹_› ?_))))))
    refine Int_ (itemTA (by (repeat refine List.mem_cons_of_mem _ ?_); assumption) (i_cl (by decide)) (i_cl' (by decide)) rfl ?_)
    refine Int_ (eqIA (truthyA (onB_s (fun ζ => ?_) (fun ζ => ?_))))
    refine onB_t rfl (sUnC (Name_ mm1 mm8 (AsgSA (Name_ mm1 mm2 (Name_ mm1 mm8 (SItA.mk fun ζ ζ ζ ζ ζ ζ => setLi_ ‹_› ‹_› ‹_› mm2 c_nn (by lia) (by lia) up2 ?_))))))
    refine sAsgC (Name_ mm1 mm9 (storeA up1 rp5 (sAsgC (Name_ mm1 mm8 (storeA up1 rp7 (sAsgC (CompareA (SubXA (SubXA (Name_ mm1 mm0 (Name_ mm1 mm8 (itemLA (by (repeat refine List.mem_cons_of_mem _ ?_); assumption) c_nn (c_lt ‹_› (by decide)) ‹_› ?_))))))))))))
    refine Int_ (itemTA (by (repeat refine List.mem_cons_of_mem _ ?_); assumption) (i_cl (by decide)) (i_cl' (by decide)) rfl ?_)
    refine Int_ (neIA (storeA up1 rp6 (Nil_ (onN_n (Nil_ (onN_n (Nil_ (onN_n (Nil_ (onN_n (Nil_ (hideOut ‹_› ?_))))))))))))
    refine onL_n ?_
    rotate_left
    refine OrNil_ (onB_f rfl (Nil_ (onN_n (Nil_ (onN_n (Nil_ (onN_n (Nil_ (onN_n (Nil_ (hideOut ‹_› ?_)))))))))))
    refine onL_n ?_
    rotate_left
    refine Nil_ (onN_n (Nil_ (hideOut ‹_› ?_)))
    refine onL_n ?_
    rotate_left
    all_goals (rw [hj]; first
      | rw [jstep_no ‹_›]
      | rw [jstep_eq ‹_› ‹_›]
      | rw [jstep_lt ‹_› ‹_› ‹_›]
      | rw [jstep_go ‹_› ‹_› ‹_› (by first | exact .inl ‹_› | exact .inr ‹_›)]
      | rw [jstep_un ‹_› ‹_› ‹_› ‹_› ‹_›])
    all_goals exact ⟨_, by (first | exact (pC rm0 (pC rm0 (pC Rem.head Pick.refl))) | exact Pick.refl), _, _, rfl⟩
  case fin =>
    rintro Li ⟨a1, a2, rfl⟩
    refine Nil_ ?_
    rotate_left
    exact h _ _
end
end
section
theorem IntsOf_map {ns : List Int} : IntsOf (ns.map .int) ns := by
  induction ns with
  | nil => exact .nil
  | cons k ns ih => exact .cons ih
noncomputable abbrev seatE (q : Addr × Int × Int × Bool × Int) : Addr × AObj := (q.1, .tuple [.int q.2.1, .int q.2.2.1, .bool q.2.2.2.1, .int q.2.2.2.2])
theorem judge_eq {cs : List Cmd} {o0 o1 : Bool} : judge cs o0 o1 = ((jrun 1 cs 4 ⟨(jstart o1).1, (jstart o1).2.1, (jstart o1).2.2, (jrun 0 cs 4 ⟨(jstart o0).1, (jstart o0).2.1, (jstart o0).2.2, [11, 11, 11, 11]⟩).whose⟩).whose,
    seatOf 0 (jrun 0 cs 4 ⟨(jstart o0).1, (jstart o0).2.1, (jstart o0).2.2, [11, 11, 11, 11]⟩) ++ seatOf 1 (jrun 1 cs 4 ⟨(jstart o1).1, (jstart o1).2.1, (jstart o1).2.2, (jrun 0 cs 4 ⟨(jstart o0).1, (jstart o0).2.1, (jstart o0).2.2, [11, 11, 11, 11]⟩).whose⟩)) := rfl
theorem judge_nn {cs : List Cmd} {o0 o1 : Bool} {s0 s1 : JSt} (e0 : s0 = jrun 0 cs 4 ⟨(jstart o0).1, (jstart o0).2.1, (jstart o0).2.2, [11, 11, 11, 11]⟩) (e1 : s1 = jrun (0 + 1) cs 4 ⟨(jstart o1).1, (jstart o1).2.1, (jstart o1).2.2, s0.whose⟩) (c0 : decide (s0.last ≥ 0) = false) (c1 : decide (s1.last ≥ 0) = false) :
    s1.whose = (judge cs o0 o1).1 ∧ ([] : List (Addr × Int × Int × Bool × Int)).map (·.2) = (judge cs o0 o1).2 := by
  simp only [ge_iff_le, decide_eq_true_eq, decide_eq_false_iff_not] at c0 c1
  have q0 : seatOf 0 s0 = [] := by unfold seatOf; rw [if_neg c0]
  have q1 : seatOf 1 s1 = [] := by unfold seatOf; rw [if_neg c1]
  simp only [Int.zero_add] at e1
  rw [judge_eq, ← e0, ← e1, q0, q1]
  exact ⟨rfl, rfl⟩
theorem judge_ny {cs : List Cmd} {o0 o1 : Bool} {s0 s1 : JSt} {a1 : Addr} (e0 : s0 = jrun 0 cs 4 ⟨(jstart o0).1, (jstart o0).2.1, (jstart o0).2.2, [11, 11, 11, 11]⟩) (e1 : s1 = jrun (0 + 1) cs 4 ⟨(jstart o1).1, (jstart o1).2.1, (jstart o1).2.2, s0.whose⟩) (c0 : decide (s0.last ≥ 0) = false) (c1 : decide (s1.last ≥ 0) = true) :
    s1.whose = (judge cs o0 o1).1 ∧ ([(a1, 0 + 1, s1.last, s1.still, s1.latest)] : List (Addr × Int × Int × Bool × Int)).map (·.2) = (judge cs o0 o1).2 := by
  simp only [ge_iff_le, decide_eq_true_eq, decide_eq_false_iff_not] at c0 c1
  have q0 : seatOf 0 s0 = [] := by unfold seatOf; rw [if_neg c0]
  have q1 : seatOf 1 s1 = [(1, s1.last, s1.still, s1.latest)] := by unfold seatOf; rw [if_pos c1]
  simp only [Int.zero_add] at e1
  rw [judge_eq, ← e0, ← e1, q0, q1]
  exact ⟨rfl, rfl⟩
theorem judge_yn {cs : List Cmd} {o0 o1 : Bool} {s0 s1 : JSt} {a0 : Addr} (e0 : s0 = jrun 0 cs 4 ⟨(jstart o0).1, (jstart o0).2.1, (jstart o0).2.2, [11, 11, 11, 11]⟩) (e1 : s1 = jrun (0 + 1) cs 4 ⟨(jstart o1).1, (jstart o1).2.1, (jstart o1).2.2, s0.whose⟩) (c0 : decide (s0.last ≥ 0) = true) (c1 : decide (s1.last ≥ 0) = false) :
    s1.whose = (judge cs o0 o1).1 ∧ ([(a0, 0, s0.last, s0.still, s0.latest)] : List (Addr × Int × Int × Bool × Int)).map (·.2) = (judge cs o0 o1).2 := by
  simp only [ge_iff_le, decide_eq_true_eq, decide_eq_false_iff_not] at c0 c1
  have q0 : seatOf 0 s0 = [(0, s0.last, s0.still, s0.latest)] := by unfold seatOf; rw [if_pos c0]
  have q1 : seatOf 1 s1 = [] := by unfold seatOf; rw [if_neg c1]
  simp only [Int.zero_add] at e1
  rw [judge_eq, ← e0, ← e1, q0, q1]
  exact ⟨rfl, rfl⟩
theorem judge_yy {cs : List Cmd} {o0 o1 : Bool} {s0 s1 : JSt} {a0 : Addr} {a1 : Addr} (e0 : s0 = jrun 0 cs 4 ⟨(jstart o0).1, (jstart o0).2.1, (jstart o0).2.2, [11, 11, 11, 11]⟩) (e1 : s1 = jrun (0 + 1) cs 4 ⟨(jstart o1).1, (jstart o1).2.1, (jstart o1).2.2, s0.whose⟩) (c0 : decide (s0.last ≥ 0) = true) (c1 : decide (s1.last ≥ 0) = true) :
    s1.whose = (judge cs o0 o1).1 ∧ ([(a0, 0, s0.last, s0.still, s0.latest), (a1, 0 + 1, s1.last, s1.still, s1.latest)] : List (Addr × Int × Int × Bool × Int)).map (·.2) = (judge cs o0 o1).2 := by
  simp only [ge_iff_le, decide_eq_true_eq, decide_eq_false_iff_not] at c0 c1
  have q0 : seatOf 0 s0 = [(0, s0.last, s0.still, s0.latest)] := by unfold seatOf; rw [if_pos c0]
  have q1 : seatOf 1 s1 = [(1, s1.last, s1.still, s1.latest)] := by unfold seatOf; rw [if_pos c1]
  simp only [Int.zero_add] at e1
  rw [judge_eq, ← e0, ← e1, q0, q1]
  exact ⟨rfl, rfl⟩
section
variable {G : Gr} {n : Nat} {R : Led} {vs : List Value} {K : AV → Led → Prop}
theorem judge_inner' {p it la wp : Addr} {cs : List Cmd} {ts : List Addr} {xs : List AV} {wh : List Int} {ao aseats aone anum : Option AV} {w l0 lt : Int} {st : Bool} {pos : Pos} {K : Fl → Led → Prop} {L R R0 : Led} (hc : cs.length = 4) (ht : ts.length = 4)
    (hm : ∀ (i : Nat) t c, ts[i]? = some t → cs[i]? = some c → cmdT t c ∈ R) (hla : (la, AObj.list (ts.map fun t => .con (.ref t))) ∈ R)
    (hp : Pick ((it, .riter 0 4) :: (p, .ns fo_943.1.scope [("asked", some (.con (.ref la))), ("opened", ao), ("whose", some (.con (.ref wp))), ("seats", aseats), ("who", some (.int w)), ("last", some (.int l0)), ("still", some (.bool st)), ("latest", some (.int lt)), ("one", aone), ("number", anum)]) :: (wp, .list xs) :: R0) L)
    (hw : IntsOf xs wh) (hwl : wh.length = 4) (hR : ∀ q ∈ R, q ∈ R0)
    (h : ∀ a1 a2 s1, s1 = jrun w cs 4 ⟨l0, st, lt, wh⟩ → K .next ((p, .ns fo_943.1.scope [("asked", some (.con (.ref la))), ("opened", ao), ("whose", some (.con (.ref wp))), ("seats", aseats), ("who", some (.int w)), ("last", some (.int s1.last)), ("still", some (.bool s1.still)), ("latest", some (.int s1.latest)), ("one", a1), ("number", a2)]) :: (wp, .list (s1.whose.map .int)) :: R0)) :
    Cl G n L (.forLoop (.Name "one" pos) (.ref it) jInner [] (callEnv fo_943.1 p 943)) K := by
  obtain rfl := hw.eq
  exact Cl.pick hp (judge_inner (s0 := ⟨l0, st, lt, wh⟩) hc ht (fun i t c h1 h2 => hR _ (hm i t c h1 h2)) (hR _ hla) hwl fun a1 a2 => h a1 a2 _ rfl)
theorem k_judge_tt {la lo : Addr} {cs : List Cmd} {ts : List Addr} (hv : VRs [.con (.ref la), .con (.ref lo)] vs) (hc : cs.length = 4) (ht : ts.length = 4) (hm : ∀ (i : Nat) t c, ts[i]? = some t → cs[i]? = some c → cmdT t c ∈ R)
    (hla : (la, AObj.list (ts.map fun t => .con (.ref t))) ∈ R) (hlo : (lo, AObj.list [.bool true, .bool true]) ∈ R)
    (h : ∀ r wp sp (qs : List (Addr × Int × Int × Bool × Int)) (wh : List Int), wh = (judge cs true true).1 ∧ qs.map (·.2) = (judge cs true true).2 → K (.con (.ref r)) ((r, .tuple [.con (.ref wp), .con (.ref sp)]) :: (wp, .list (wh.map .int)) :: (sp, .list (qs.map fun q => .con (.ref q.1))) :: (qs.map seatE ++ R))) (hn : 1 ≤ n := by fail "mx nn") :
    Cc G n R (.ref 943) ([] ++ vs) K := by
  refine f_943 (by fail "mx nn") ‹_› rfl (fun p hE => ?_)
  refine sAsgC (xL (evs1 evI (evs1 evI (evs1 evI (evs1 evI evs0)))) (by rfl) (by rfl) ?_)
  intro ζ
  refine sSt hE up1 rp2 (sAsgC (xL evs0 (by rfl) (by rfl) ?_))
  intro ζ
  refine sSt hE up2 rp3 (Cons' (For_ (cT hE (evs1 evI evs0) (rangeNA fun ζ ζ ζ => pyIterR_ ‹_› mm0 (i_cl (by decide)) (i_cl (by decide)) ?_))))
  intro ζ
  rotate_left
  refine FstepR (by exact Pick.refl) (by exact (i_cl' (by decide))) ?_
  refine TurnN (sSt hE up4 rp4 (sAsg hE (evNeg evI) up4 rp5 (sAsg hE evT up4 rp6 (sAsg hE evI up4 rp7 (sIf (tvV (evS (evN hE mm4 mm1) (evN hE mm4 mm4) (sL (by (repeat refine List.mem_cons_of_mem _ ?_); assumption) (i_cl (by decide)) (i_cl' (by decide)) rfl (fun ζ ζ => rfl))) rfl) ?_)))))
  refine kT rfl (App.cons (App.cons (App.cons App.nil))) (sAsg hE evI up4 rp5 (sAsg hE evT up4 rp6 (sAsg hE evI up4 rp7 (C.hide fun ζ ζ => Cons' (For_ (cT hE (evs1 evI evs0) (rangeNA fun ζ ζ ζ => pyIterR_ ‹_› mm0 (i_cl (by decide)) (i_cl (by decide)) ?_)))))))
  intro ζ
  rotate_left
  refine judge_inner' hc ht hm hla (by exact (pC rm0 (pC rm5 (pk rm4)))) (by first | exact IntsOf_map | exact (IntsOf.cons (IntsOf.cons (IntsOf.cons (IntsOf.cons IntsOf.nil))))) (by first | rfl | (subst_vars; rw [jrun_len]; rfl)) (by intro q hq; exact (by (repeat refine List.mem_cons_of_mem _ ?_); assumption)) ?_
  intro ζ ζ ζ ζ
  refine onN_n (sIf (tvC (evN hE mm0 mm5) evI cGe) (kB (App.cons App.nil) App.nil (fun ζ => ?_) (fun ζ => ?_)))
  refine sX hE (MCallA (Name_ mm0 mm3 (methLA mm5 (CallBA (ArgsCons_ (xT (evs1 (evN hE mm0 mm4) (evs1 (evN hE mm0 mm5) (evs1 (evN hE mm0 mm6) (evs1 (evN hE mm0 mm7) evs0)))) (by rfl) (by rfl) ?_))))))
  intro ζ
  refine ArgsNil_ (appendLA up6 nle (Nil_ (hideOut ‹_› ?_)))
  refine onL_n ?_
  rotate_left
  refine Nil_ (hideOut ‹_› ?_)
  refine onL_n ?_
  rotate_left
  all_goals refine FstepR (by (first | exact (pk rm4) | exact (pk rm3))) (by exact (i_cl' (by decide))) ?_
  refine TurnN (sSt hE up2 rp4 (sAsg hE (evNeg evI) up2 rp5 (sAsg hE evT up2 rp6 (sAsg hE evI up2 rp7 (sIf (tvV (evS (evN hE mm2 mm1) (evN hE mm2 mm4) (sL (by (repeat refine List.mem_cons_of_mem _ ?_); assumption) (i_cl (by decide)) (i_cl' (by decide)) rfl (fun ζ ζ => rfl))) rfl) ?_)))))
  refine kT rfl (App.cons (App.cons (App.cons App.nil))) (sAsg hE evI up2 rp5 (sAsg hE evT up2 rp6 (sAsg hE evI up2 rp7 (C.hide fun ζ ζ => Cons' (For_ (cT hE (evs1 evI evs0) (rangeNA fun ζ ζ ζ => pyIterR_ ‹_› mm0 (i_cl (by decide)) (i_cl (by decide)) ?_)))))))
  intro ζ
  rotate_left
  refine TurnN (sSt hE up1 rp4 (sAsg hE (evNeg evI) up1 rp5 (sAsg hE evT up1 rp6 (sAsg hE evI up1 rp7 (sIf (tvV (evS (evN hE mm1 mm1) (evN hE mm1 mm4) (sL (by (repeat refine List.mem_cons_of_mem _ ?_); assumption) (i_cl (by decide)) (i_cl' (by decide)) rfl (fun ζ ζ => rfl))) rfl) ?_)))))
  refine kT rfl (App.cons (App.cons (App.cons App.nil))) (sAsg hE evI up1 rp5 (sAsg hE evT up1 rp6 (sAsg hE evI up1 rp7 (C.hide fun ζ ζ => Cons' (For_ (cT hE (evs1 evI evs0) (rangeNA fun ζ ζ ζ => pyIterR_ ‹_› mm0 (i_cl (by decide)) (i_cl (by decide)) ?_)))))))
  intro ζ
  rotate_left
  all_goals refine judge_inner' hc ht hm hla (by (first | exact (pC rm0 (pC rm3 (pk rm3))) | exact (pC rm0 (pC rm2 (pk rm2))))) (by first | exact IntsOf_map | fail) (by first | rfl | (subst_vars; rw [jrun_len]; rfl)) (by intro q hq; exact (by (repeat refine List.mem_cons_of_mem _ ?_); assumption)) ?_
  intro ζ ζ ζ ζ
  refine onN_n (sIf (tvC (evN hE mm0 mm5) evI cGe) (kB (App.cons App.nil) App.nil (fun ζ => ?_) (fun ζ => ?_)))
  refine sX hE (MCallA (Name_ mm0 mm3 (methLA mm7 (CallBA (ArgsCons_ (xT (evs1 (evN hE mm0 mm4) (evs1 (evN hE mm0 mm5) (evs1 (evN hE mm0 mm6) (evs1 (evN hE mm0 mm7) evs0)))) (by rfl) (by rfl) ?_))))))
  intro ζ
  refine ArgsNil_ (appendLA up8 nle (Nil_ (hideOut ‹_› ?_)))
  refine onL_n ?_
  rotate_left
  refine Nil_ (hideOut ‹_› ?_)
  refine onL_n ?_
  rotate_left
  intro ζ ζ ζ ζ
  refine onN_n (sIf (tvC (evN hE mm0 mm5) evI cGe) (kB (App.cons App.nil) App.nil (fun ζ => ?_) (fun ζ => ?_)))
  refine sX hE (MCallA (Name_ mm0 mm3 (methLA mm6 (CallBA (ArgsCons_ (xT (evs1 (evN hE mm0 mm4) (evs1 (evN hE mm0 mm5) (evs1 (evN hE mm0 mm6) (evs1 (evN hE mm0 mm7) evs0)))) (by rfl) (by rfl) ?_))))))
  intro ζ
  refine ArgsNil_ (appendLA up7 nle (Nil_ (hideOut ‹_› ?_)))
  refine onL_n ?_
  rotate_left
  refine Nil_ (hideOut ‹_› ?_)
  refine onL_n ?_
  rotate_left
  all_goals refine FendR (by (first | exact (pk rm4) | exact (pk rm3))) (by exact (i_cl (by decide))) ?_
  refine Nil_ (onN_n (sRetC (xT (evs1 (evN hE mm1 mm2) (evs1 (evN hE mm1 mm3) evs0)) (by rfl) (by rfl) ?_)))
  intro ζ
  refine kR_ ?_
  rotate_left
  refine Nil_ (onN_n (sRetC (xT (evs1 (evN hE mm0 mm2) (evs1 (evN hE mm0 mm3) evs0)) (by rfl) (by rfl) ?_)))
  intro ζ
  refine kR_ ?_
  rotate_left
  refine Nil_ (onN_n (sRetC (xT (evs1 (evN hE mm1 mm2) (evs1 (evN hE mm1 mm3) evs0)) (by rfl) (by rfl) ?_)))
  intro ζ
  refine kR_ ?_
  rotate_left
  refine Nil_ (onN_n (sRetC (xT (evs1 (evN hE mm0 mm2) (evs1 (evN hE mm0 mm3) evs0)) (by rfl) (by rfl) ?_)))
  intro ζ
  refine kR_ ?_
  rotate_left
  all_goals first
    | exact ⟨_, by dsimp only [List.map, List.cons_append, List.nil_append]; exact (pC rm0 (pC rm2 (pC rm6 (pC rm3 (pC rm0 (pS (pS (pS (pS Pick.refl))))))))), h _ _ _ [(_, 0, _, _, _), (_, 0 + 1, _, _, _)] _ (judge_yy ‹_› ‹_› ‹_› ‹_›)⟩
    | exact ⟨_, by dsimp only [List.map, List.cons_append, List.nil_append]; exact (pC rm0 (pC rm1 (pC rm5 (pC rm2 (pS (pS (pS (pS Pick.refl)))))))), h _ _ _ [(_, 0, _, _, _)] _ (judge_yn ‹_› ‹_› ‹_› ‹_›)⟩
    | exact ⟨_, by dsimp only [List.map, List.cons_append, List.nil_append]; exact (pC rm0 (pC rm2 (pC rm5 (pC rm0 (pS (pS (pS (pS Pick.refl)))))))), h _ _ _ [(_, 0 + 1, _, _, _)] _ (judge_ny ‹_› ‹_› ‹_› ‹_›)⟩
    | exact ⟨_, by dsimp only [List.map, List.cons_append, List.nil_append]; exact (pC rm0 (pC rm1 (pC rm4 (pS (pS (pS (pS Pick.refl))))))), h _ _ _ [] _ (judge_nn ‹_› ‹_› ‹_› ‹_›)⟩
end
end
section
structure FSt where
  told : List (Int × List UInt8)
  old : Option (List UInt8)
  wrote : Int
noncomputable def putB (es : List (Int × List UInt8)) (k : Int) (v : List UInt8) : List (Int × List UInt8) := if es.any (fun p => p.1 = k) then es.map (fun p => if p.1 = k then (p.1, v) else p) else es ++ [(k, v)]
noncomputable abbrev avs (es : List (Int × List UInt8)) : List (Int × AV) := es.map fun q => (q.1, AV.bytes q.2)
theorem putA_avs {es : List (Int × List UInt8)} {k : Int} {v : List UInt8} : putA (avs es) k (.bytes v) = avs (putB es k v) := by
  unfold putA putB
  have e : ((avs es).any fun p => decide (p.1 = k)) = es.any fun p => decide (p.1 = k) := by simp [avs, List.any_map, Function.comp_def]
  rw [e]
  split
  · simp only [avs, List.map_map]
    refine List.map_congr_left fun q ζ => ?_
    simp only [Function.comp_def]
    split <;> rfl
  · simp [avs]
theorem putB_len {es : List (Int × List UInt8)} {k : Int} {v : List UInt8} : (putB es k v).length ≤ es.length + 1 := by
  unfold putB; split <;> simp
noncomputable def fval (c : Cmd) (old : Option (List UInt8)) : Option (List UInt8) × Int :=
  if c.kind = 2 then (none, 0)
  else if c.kind = 3 ∧ old ≠ c.exp then (old, 1)
  else match old with
    | some o => if c.kind = 4 then (some (o ++ c.word), 0) else (some c.word, 0)
    | none => (some c.word, 0)
noncomputable def fstep (place : Int) (whose : List Int) (c : Cmd) (i : Nat) (s : FSt) : FSt :=
  if whose[i]? = some (i : Int) ∧ c.spot = place then
    if 0 < c.kind ∧ c.kind < 5 then
      { told := putB (putB s.told i [0, 0]) i ([(fval c s.old).2.toNat.toUInt8] ++ mb s.old)
        old := (fval c s.old).1
        wrote := if (fval c s.old).2 = 0 ∧ (c.kind ≠ 2 ∨ s.old ≠ none) then s.wrote + 1 + 1 else s.wrote + 1 }
    else { s with told := putB s.told i [0, 0], wrote := s.wrote + 1 }
  else s
noncomputable def frun (place : Int) (whose : List Int) (cs : List Cmd) : Nat → FSt → FSt
  | 0, s => s
  | i + 1, s => match cs[i]? with
    | some c => fstep place whose c i (frun place whose cs i s)
    | none => frun place whose cs i s
section
variable {G : Gr} {n : Nat} {L L' : Led} {E : Env}
theorem isetB_ {x : Addr} {es : List (Int × List UInt8)} {k : Int} {b : List UInt8} {o i v : Value} {K : Unit → Led → Prop} (ho : VR (.con (.ref x)) o) (hi : VR (.int k) i) (hv : VR (.bytes b) v) (hl : (x, AObj.idict (avs es)) ∈ L) (hz : es.length ≤ 1000) (U : Up x (.idict (avs es)) (.idict (avs (putB es k b))) L L')
    (h : K () L') : Cu G n L (setItem o i v) K := by
  rw [← putA_avs] at U
  exact iset_ ho hi hv U (by simp [avs]; lia) h
end
end
section
theorem fstep_told {place : Int} {whose : List Int} {c : Cmd} {i : Nat} {s : FSt} : (fstep place whose c i s).told.length ≤ s.told.length + 2 := by
  unfold fstep
  split
  · split
    · have h1 := putB_len (es := s.told) (k := i) (v := [0, 0])
      have h2 := putB_len (es := putB s.told i [0, 0]) (k := i) (v := [(fval c s.old).2.toNat.toUInt8] ++ mb s.old)
      dsimp only; lia
    · have h1 := putB_len (es := s.told) (k := i) (v := [0, 0])
      dsimp only; lia
  · lia
theorem fstep_old {place : Int} {whose : List Int} {c : Cmd} {i m : Nat} {s : FSt} (hw : c.word.length ≤ 1) (h : ∀ o, s.old = some o → o.length ≤ m) : ∀ o, (fstep place whose c i s).old = some o → o.length ≤ m + 1 := by
  intro o
  unfold fstep
  split
  · split
    · dsimp only
      unfold fval
      split
      · intro e; cases e
      · split
        · intro e; have := h o e; lia
        · cases hs : s.old with
          | none => intro e; cases e; lia
          | some q =>
            have := h q hs
            dsimp only
            split
            · intro e; cases e; rw [List.length_append]; lia
            · intro e; cases e; lia
    · intro e; have := h o e; lia
  · intro e; have := h o e; lia
theorem frun_told {place : Int} {whose : List Int} {cs : List Cmd} {s : FSt} : ∀ i : Nat, (frun place whose cs i s).told.length ≤ s.told.length + 2 * i
  | 0 => by simp [frun]
  | i + 1 => by
    have ih := frun_told (place := place) (whose := whose) (cs := cs) (s := s) i
    unfold frun
    split
    · rename_i c _
      have := fstep_told (place := place) (whose := whose) (c := c) (i := i) (s := frun place whose cs i s); lia
    · lia
theorem frun_old {place : Int} {whose : List Int} {cs : List Cmd} {s : FSt} {m : Nat} (hw : ∀ c ∈ cs, c.word.length ≤ 1) (h : ∀ o, s.old = some o → o.length ≤ m) : ∀ i : Nat, ∀ o, (frun place whose cs i s).old = some o → o.length ≤ m + i
  | 0 => h
  | i + 1 => by
    have ih := frun_old (place := place) (whose := whose) (cs := cs) (s := s) hw h i
    unfold frun
    split
    · rename_i c hc
      exact fstep_old (hw c (List.mem_of_getElem? hc)) ih
    · intro o e; have := ih o e; lia
theorem fin_out {place wi : Int} {whose : List Int} {c : Cmd} {i : Nat} {s : FSt} (hw : whose[i]? = some wi) (h : (wi == (i : Int)) = false ∨ (c.spot == place) = false) : fstep place whose c i s = s := by
  unfold fstep
  rw [if_neg]
  rintro ⟨h1, h2⟩
  rw [hw] at h1
  cases h1
  rcases h with h | h
  · simp at h
  · rw [h2] at h; simp at h
theorem fin_idle {place wi : Int} {whose : List Int} {c : Cmd} {i : Nat} {s : FSt} (hw : whose[i]? = some wi) (h1 : (wi == (i : Int)) = true) (h2 : (c.spot == place) = true) (h : decide (c.kind > 0) = false ∨ decide (c.kind < 5) = false) :
    fstep place whose c i s = { s with told := putB s.told i [0, 0], wrote := s.wrote + 1 } := by
  unfold fstep
  rw [if_pos ⟨by rw [hw]; congr 1; simpa using h1, by simpa using h2⟩, if_neg]
  rintro ⟨a, b⟩
  rcases h with h | h <;> simp at h <;> lia
theorem fin_do {place wi : Int} {whose : List Int} {c : Cmd} {i : Nat} {s : FSt} {f : Option (List UInt8)} {cd : Int} {W : Int} (hw : whose[i]? = some wi) (h1 : (wi == (i : Int)) = true) (h2 : (c.spot == place) = true) (h3 : decide (c.kind > 0) = true) (h4 : decide (c.kind < 5) = true) (hf : fval c s.old = (f, cd))
    (hW : (if cd = 0 ∧ (c.kind ≠ 2 ∨ s.old ≠ none) then s.wrote + 1 + 1 else s.wrote + 1) = W) :
    fstep place whose c i s = { told := putB (putB s.told i [0, 0]) i ([cd.toNat.toUInt8] ++ mb s.old), old := f, wrote := W } := by
  unfold fstep
  rw [if_pos ⟨by rw [hw]; congr 1; simpa using h1, by simpa using h2⟩, if_pos ⟨by simpa using h3, by simpa using h4⟩, hf, hW]
theorem fv2 {c : Cmd} {o : Option (List UInt8)} (h : (c.kind == 2) = true) : fval c o = (none, 0) := by unfold fval; rw [if_pos (by simpa using h)]
theorem fv3 {c : Cmd} {o : Option (List UInt8)} (h : (c.kind == 2) = false) (h3 : (c.kind == 3) = true) (h4 : (o != c.exp) = true) : fval c o = (o, 1) := by
  unfold fval; rw [if_neg (by simpa using h), if_pos ⟨by simpa using h3, by simpa using h4⟩]
theorem fvx {c : Cmd} {o : Option (List UInt8)} (h : (c.kind == 2) = false) (h3 : (c.kind == 3) = false ∨ (o != c.exp) = false) : fval c o = (match o with
    | some o => if c.kind = 4 then (some (o ++ c.word), 0) else (some c.word, 0)
    | none => (some c.word, 0)) := by
  have hn : ¬ (c.kind = 3 ∧ o ≠ c.exp) := by
    rintro ⟨a, b⟩
    rcases h3 with h3 | h3
    · rw [a] at h3; simp at h3
    · simp at h3; exact b h3
  unfold fval
  rw [if_neg (by simpa using h), if_neg hn]
  cases o <;> rfl
theorem fv4 {c : Cmd} {o : List UInt8} (h : (c.kind == 2) = false) (h3 : (c.kind == 3) = false ∨ (some o != c.exp) = false) (h4 : (c.kind == 4) = true) : fval c (some o) = (some (o ++ c.word), 0) := by
  rw [fvx h h3]; dsimp only; rw [if_pos (by simpa using h4)]
theorem fv1s {c : Cmd} {o : List UInt8} (h : (c.kind == 2) = false) (h3 : (c.kind == 3) = false ∨ (some o != c.exp) = false) (h4 : (c.kind == 4) = false) : fval c (some o) = (some c.word, 0) := by
  rw [fvx h h3]; dsimp only; rw [if_neg (by simpa using h4)]
theorem fv1n {c : Cmd} (h : (c.kind == 2) = false) (h3 : (c.kind == 3) = false ∨ (none != c.exp) = false) : fval c none = (some c.word, 0) := fvx h h3
theorem w1 {c : Cmd} {o : Option (List UInt8)} {W : Int} (h : (c.kind == 2) = false) : (if (0 : Int) = 0 ∧ (c.kind ≠ 2 ∨ o ≠ none) then W + 1 + 1 else W + 1) = W + 1 + 1 := by rw [if_pos ⟨rfl, .inl (by simpa using h)⟩]
theorem w2 {c : Cmd} {o : List UInt8} {W : Int} : (if (0 : Int) = 0 ∧ (c.kind ≠ 2 ∨ some o ≠ none) then W + 1 + 1 else W + 1) = W + 1 + 1 := by rw [if_pos ⟨rfl, .inr (by simp)⟩]
theorem fv4o {c : Cmd} {o : Option (List UInt8)} (h : (c.kind == 2) = false) (h3 : (c.kind == 3) = false ∨ (o != c.exp) = false) (h4 : (c.kind == 4) = true) (hs : o.isSome = true) : fval c o = (some (o.getD [] ++ c.word), 0) := by
  cases o with
  | none => cases hs
  | some o => exact fv4 h h3 h4
theorem fv1o {c : Cmd} {o : Option (List UInt8)} (h : (c.kind == 2) = false) (h3 : (c.kind == 3) = false ∨ (o != c.exp) = false) (h4 : (c.kind == 4) = false ∨ o.isSome = false) : fval c o = (some c.word, 0) := by
  cases o with
  | none => exact fv1n h h3
  | some o => exact fv1s h h3 (h4.resolve_right (fun e => by cases e))
theorem addOA {G : Gr} {n : Nat} {L : Led} {a : Option (List UInt8)} {b : List UInt8} {K : AV → Led → Prop} (hs : a.isSome = true) (h1 : ∀ q, a = some q → q.length ≤ 1000) (h2 : b.length ≤ 1000) (h : K (.bytes (a.getD [] ++ b)) L) : BinA G n L .Add (opt a) (.bytes b) K := by
  cases a with
  | none => cases hs
  | some q => exact addBA (by have := h1 q rfl; lia) h
theorem w_yes {k cd w : Int} {o : Option (List UInt8)} (h : (cd == 0) = true) (h2 : (k != 2) = true ∨ o.isSome = true) : w + 1 = (if cd = 0 ∧ (k ≠ 2 ∨ o ≠ none) then w + 1 else w) := by
  rw [if_pos]
  refine ⟨by simpa using h, h2.imp (fun h => by simpa using h) fun h e => ?_⟩
  rw [e] at h; cases h
theorem w_no {k cd w : Int} {o : Option (List UInt8)} (h : (cd == 0) = false ∨ ((k != 2) = false ∧ o.isSome = false)) : w = (if cd = 0 ∧ (k ≠ 2 ∨ o ≠ none) then w + 1 else w) := by
  rw [if_neg]
  rintro ⟨h1, h2⟩
  rcases h with h | ⟨ha, hb⟩
  · simp at h; exact h h1
  · rcases h2 with h2 | h2
    · simp at ha; exact h2 ha
    · cases o with
      | none => exact h2 rfl
      | some q => cases hb
noncomputable def ifBody : Stmt → List Stmt
  | .If _ b _ _ => b
  | _ => []
noncomputable def fOuter : List Stmt := forBody (h0 (tl (tl (tl (stmtsOf fo_950.1.body)))))
noncomputable def fInner : List Stmt := forBody (h0 (tl fOuter))
noncomputable def fTail : List Stmt := tl (tl (tl (ifBody (h0 (tl (tl (ifBody (h0 (tl fInner)))))))))
section
variable {G : Gr} {n : Nat} {R : Led} {vs : List Value} {K : AV → Led → Prop}
theorem fold_tail {p it tp : Addr} {x : AObj} {ar ap b2 b3 b5 b6 b7 : Option AV} {aa aw fresh : AV} {k cd w : Int} {i : Nat} {old : Option (List UInt8)} {td : List (Int × List UInt8)} {body : List Stmt} {K : Fl → Led → Prop} (hb : body = fTail) (hn : 1 ≤ n)
    (h0 : 0 ≤ cd) (h1 : cd < 256) (hol : ∀ q, old = some q → q.length < 128) (hmb : (mb old).length ≤ 1000) (htd : td.length ≤ 900)
    (h : ∀ W L3, W = (if cd = 0 ∧ (k ≠ 2 ∨ old ≠ none) then w + 1 else w) → Pick ((it, x) :: (p, .ns fo_950.1.scope [("asked", some (aa)), ("whose", some (aw)), ("told", some (.con (.ref tp))), ("rows", ar), ("wrote", some (.int W)), ("place", ap), ("old", some fresh), ("one", some (.int (i : Int))), ("who", b2), ("number", b3), ("kind", some (.int k)), ("spot", b5), ("word", b6), ("expect", b7), ("fresh", some fresh), ("code", some (.int cd))]) :: (tp, .idict (avs (putB td i ([cd.toNat.toUInt8] ++ mb old)))) :: R) L3 → K .next L3) :
    Cf G n ((it, x) :: (p, .ns fo_950.1.scope [("asked", some (aa)), ("whose", some (aw)), ("told", some (.con (.ref tp))), ("rows", ar), ("wrote", some (.int w)), ("place", ap), ("old", some (opt old)), ("one", some (.int (i : Int))), ("who", b2), ("number", b3), ("kind", some (.int k)), ("spot", b5), ("word", b6), ("expect", b7), ("fresh", some fresh), ("code", some (.int cd))]) :: (tp, .idict (avs td)) :: R) (execs body (callEnv fo_950.1 p 950)) K := by
  subst hb
  generalize hE : callEnv fo_950.1 p 950 = E
  generalize hsc : fo_950.1.scope = sc at h ⊢
  dsimp only [fTail, ifBody, fInner, fOuter, forBody, Mine.h0, tl, stmtsOf, fo_950]
  subst hE hsc
  refine sUnC (BinOpA (CallTNA (by k_is) (by boot_by_name) ?_ (by kernel_rfl)))
  refine ArgsCons_ (List' ?_ (by decide))
  refine ArgsCons_ (Name_ mm1 (mmt mm5) (ArgsNil_ ?_))
  refine ⟨rfl, ?_⟩
  intro ζ
  refine ArgsNil_ (bytesLA mm0 (IntsOf.cons IntsOf.nil) (by simp only [lens, false_implies, implies_true, and_true]; first | done | lia) nle ?_)
  refine CallGNA (by k_is) (by intro ζ; k_is) ?_ (by kernel_rfl)
  refine ArgsCons_ (Name_ mm2 mm6 (ArgsNil_ (ofCa (fun ζ => k_maybe ‹_› ‹_› ?_))))
  refine addBA (by simp only [lens, false_implies, implies_true, and_true]; first | done | lia) ?_
  refine AsgSA (Name_ mm2 mm2 (Name_ mm2 mm7 (SItA.mk fun ζ ζ ζ ζ ζ ζ => isetB_ ‹_› ‹_› ‹_› mm3 (n_tr ‹_› (by decide)) up3 ?_)))
  refine Cons' (If' (TtBool_ (AndCons' (TtCmpA (Name_ mm2 (mmt mm5) (Int_ (eqIA (truthyA (onB_s (fun ζ => ?_) (fun ζ => ?_))))))))))
  refine AndCons' (TtBool_ (OrCons' (TtCmpA (Name_ mm2 (mmt mm0) (Int_ (neIA (truthyA (onB_s (fun ζ => ?_) (fun ζ => ?_)))))))))
  refine onB_t rfl (AndNil_ (onB_t rfl (Cons' (AugNA (load_ mm2 mm4 (Int_ (iaddIA (storeA up2 rp4 (onN_n (Nil_ (onN_n (sAsgC (Name_ mm2 (mmt mm4) (storeA up2 rp6 ?_))))))))))))))
  refine Nil_ ?_
  rotate_left
  refine OrCons' (TtCmpA (Name_ mm2 mm6 (None_ (isNotNoneOA (truthyA (onB_s (fun ζ => ?_) (fun ζ => ?_)))))))
  refine onB_t rfl (AndNil_ (onB_t rfl (Cons' (AugNA (load_ mm2 mm4 (Int_ (iaddIA (storeA up2 rp4 (onN_n (Nil_ (onN_n (sAsgC (Name_ mm2 (mmt mm4) (storeA up2 rp6 ?_))))))))))))))
  refine Nil_ ?_
  rotate_left
  refine OrNil_ (onB_f rfl (onB_f rfl (Nil_ (onN_n (sAsgC (Name_ mm2 (mmt mm4) (storeA up2 rp6 (Nil_ ?_))))))))
  rotate_left
  refine onB_f rfl (Nil_ (onN_n (sAsgC (Name_ mm2 (mmt mm4) (storeA up2 rp6 (Nil_ ?_))))))
  rotate_left
  all_goals first
    | exact h _ _ (w_yes ‹_› (by first | exact .inl ‹_› | exact .inr ‹_›)) (by exact (pC rm1 (pC rm1 (pC rm1 (pS Pick.refl)))))
    | exact h _ _ (w_no (by first | exact .inl ‹_› | exact .inr ⟨by assumption, by assumption⟩)) (by exact (pC rm1 (pC rm1 (pC rm1 (pS Pick.refl)))))
theorem fold_body {p it la wl tp t : Addr} {x : AObj} {c : Cmd} {ts : List Addr} {wh : List Int} {ar b2 b3 b4 b5 b6 b7 b8 b9 : Option AV} {place wrote wi : Int} {i : Nat} {old : Option (List UInt8)} {told : List (Int × List UInt8)} {K : Fl → Led → Prop} (hn : 1 ≤ n)
    (hwi : wh[i]? = some wi) (hit : (ts.map fun t => AV.con (.ref t))[((i : Int)).toNat]? = some (.con (.ref t))) (hiw : (wh.map AV.int)[((i : Int)).toNat]? = some (.int wi)) (hi : i < 4)
    (hmm : cmdT t c ∈ R) (hla : (la, AObj.list (ts.map fun t => .con (.ref t))) ∈ R) (hwl : (wl, AObj.list (wh.map .int)) ∈ R) (htd : told.length ≤ 200) (hol : ∀ q, old = some q → q.length < 128) (hol2 : ∀ q, old = some q → q.length ≤ 1000) (hcl : c.word.length ≤ 1000)
    (h : ∀ b2 b3 b4 b5 b6 b7 b8 b9 L3, Pick ((it, x) :: (p, .ns fo_950.1.scope [("asked", some (.con (.ref la))), ("whose", some (.con (.ref wl))), ("told", some (.con (.ref tp))), ("rows", ar), ("wrote", some (.int (fstep place wh c i ⟨told, old, wrote⟩).wrote)), ("place", some (.int place)), ("old", some (opt (fstep place wh c i ⟨told, old, wrote⟩).old)), ("one", some (.int (i : Int))), ("who", b2), ("number", b3), ("kind", b4), ("spot", b5), ("word", b6), ("expect", b7), ("fresh", b8), ("code", b9)]) :: (tp, .idict (avs (fstep place wh c i ⟨told, old, wrote⟩).told)) :: R) L3 → K .next L3) :
    Cf G n ((it, x) :: (p, .ns fo_950.1.scope [("asked", some (.con (.ref la))), ("whose", some (.con (.ref wl))), ("told", some (.con (.ref tp))), ("rows", ar), ("wrote", some (.int wrote)), ("place", some (.int place)), ("old", some (opt old)), ("one", some (.int (i : Int))), ("who", b2), ("number", b3), ("kind", b4), ("spot", b5), ("word", b6), ("expect", b7), ("fresh", b8), ("code", b9)]) :: (tp, .idict (avs told)) :: R) (execs fInner (callEnv fo_950.1 p 950)) K := by
  have hpl : (putB told i [0, 0]).length ≤ 900 := by have := putB_len (es := told) (k := i) (v := [0, 0]); lia
  have htd2 : told.length ≤ 1000 := by lia
  have hmb : (mb old).length ≤ 1000 := by
    cases old with
    | none => decide
    | some q => have := hol q rfl; rw [mb_len_s]; lia
  generalize hE : callEnv fo_950.1 p 950 = E
  generalize hsc : fo_950.1.scope = sc at h ⊢
  dsimp only [fInner, fOuter, forBody, h0, tl, stmtsOf, fo_950]
  subst hE hsc
  refine sUnC (SubXA (Name_ mm1 mm0 (Name_ mm1 mm7 (itemLA (by (repeat refine List.mem_cons_of_mem _ ?_); assumption) c_nn (c_lt ‹_› (by decide)) ‹_› ?_))))
  refine AsgA.mk fun ζ ζ => AsgT6 ‹_› (by (repeat refine List.mem_cons_of_mem _ ?_); assumption) (by rfl) ?_
  intro ζ ζ ζ ζ ζ ζ ζ ζ ζ ζ ζ ζ
  refine AiCons_ (AsgN_ (store_ ‹_› up1 rp8 ?_))
  refine AiCons_ (AsgN_ (store_ ‹_› up1 rp9 ?_))
  refine AiCons_ (AsgN_ (store_ ‹_› up1 (rpt rp0) ?_))
  refine AiCons_ (AsgN_ (store_ ‹_› up1 (rpt rp1) ?_))
  refine AiCons_ (AsgN_ (store_ ‹_› up1 (rpt rp2) ?_))
  refine AiCons_ (AsgN_ (store_ ‹_› up1 (rpt rp3) ?_))
  refine AiNil_ (Cons' (If' (TtBool_ (AndCons' (TtCmpA (SubXA (Name_ mm1 mm1 (Name_ mm1 mm7 (itemLA (by (repeat refine List.mem_cons_of_mem _ ?_); assumption) c_nn (c_lt ‹_› (by decide)) ‹_› ?_)))))))))
  refine Name_ mm1 mm7 (eqIA (truthyA (onB_s (fun ζ => ?_) (fun ζ => ?_))))
  refine AndCons' (TtCmpA (Name_ mm1 (mmt mm1) (Name_ mm1 mm5 (eqIA (truthyA (onB_s (fun ζ => ?_) (fun ζ => ?_)))))))
  refine AndNil_ (onB_t rfl (sUn evB (AsgSA (Name_ mm1 mm2 (Name_ mm1 mm7 (SItA.mk fun ζ ζ ζ ζ ζ ζ => isetB_ ‹_› ‹_› ‹_› mm2 ‹_› up2 ?_))))))
  refine Cons' (AugNA (load_ mm1 mm4 (Int_ (iaddIA (storeA up1 rp4 (onN_n (Cons' (If' (TtBool_ (AndCons' (TtCmpA (Name_ mm1 (mmt mm0) (Int_ (gtIA ?_))))))))))))))
  refine truthyA (onB_s (fun ζ => ?_) (fun ζ => ?_))
  refine AndCons' (TtCmpA (Name_ mm1 (mmt mm0) (Int_ (ltIA (truthyA (onB_s (fun ζ => ?_) (fun ζ => ?_)))))))
  refine AndNil_ (onB_t rfl (sAsgC (Name_ mm1 (mmt mm2) (storeA up1 (rpt rp4) (sAsgC (Int_ (storeA up1 (rpt rp5) (Cons' (If' (TtCmpA (Name_ mm1 (mmt mm0) (Int_ (eqIA (truthyA ?_))))))))))))))
  refine onB_s (fun ζ => ?_) (fun ζ => ?_)
  refine sAsgC (None_ (storeA up1 (rpt rp4) (Nil_ (onN_n (fold_tail (by kernel_rfl) ‹_› (by decide) (by decide) ‹_› ‹_› ‹_› (fun ζ ζ hW hp => ?_))))))
  refine onN_n (Nil_ (onN_n (Nil_ ?_)))
  rotate_left
  refine Cons' (If' (TtBool_ (AndCons' (TtCmpA (Name_ mm1 (mmt mm0) (Int_ (eqIA (truthyA (onB_s (fun ζ => ?_) (fun ζ => ?_))))))))))
  refine AndCons' (TtCmpA (Name_ mm1 mm6 (Name_ mm1 (mmt mm3) (neOA (truthyA (onB_s (fun ζ => ?_) (fun ζ => ?_)))))))
  refine AndNil_ (onB_t rfl (sAsgC (Name_ mm1 mm6 (storeA up1 (rpt rp4) (sAsgC (Int_ (storeA up1 (rpt rp5) (Nil_ (onN_n (Nil_ (onN_n (fold_tail (by kernel_rfl) ‹_› (by decide) (by decide) ‹_› ‹_› ‹_› (fun ζ ζ hW hp => ?_)))))))))))))
  refine onN_n (Nil_ (onN_n (Nil_ ?_)))
  rotate_left
  refine onB_f rfl (Cons' (If' (TtBool_ (AndCons' (TtCmpA (Name_ mm1 (mmt mm0) (Int_ (eqIA (truthyA (onB_s (fun ζ => ?_) (fun ζ => ?_)))))))))))
  refine AndCons' (TtCmpA (Name_ mm1 mm6 (None_ (isNotNoneOA (truthyA (onB_s (fun ζ => ?_) (fun ζ => ?_)))))))
  refine AndNil_ (onB_t rfl (sAsgC (BinOpA (Name_ mm1 mm6 (Name_ mm1 (mmt mm2) (addOA ‹_› ‹_› ‹_› ?_))))))
  refine storeA up1 (rpt rp4) (Nil_ (onN_n (Nil_ (onN_n (Nil_ (onN_n (fold_tail (by kernel_rfl) ‹_› (by decide) (by decide) ‹_› ‹_› ‹_› (fun ζ ζ hW hp => ?_))))))))
  refine onN_n (Nil_ (onN_n (Nil_ ?_)))
  rotate_left
  refine onB_f rfl (Nil_ (onN_n (Nil_ (onN_n (Nil_ (onN_n (fold_tail (by kernel_rfl) ‹_› (by decide) (by decide) ‹_› ‹_› ‹_› (fun ζ ζ hW hp => ?_))))))))
  refine onN_n (Nil_ (onN_n (Nil_ ?_)))
  rotate_left
  refine onB_f rfl (Nil_ (onN_n (Nil_ (onN_n (Nil_ (onN_n (fold_tail (by kernel_rfl) ‹_› (by decide) (by decide) ‹_› ‹_› ‹_› (fun ζ ζ hW hp => ?_))))))))
  refine onN_n (Nil_ (onN_n (Nil_ ?_)))
  rotate_left
  refine onB_f rfl (Cons' (If' (TtBool_ (AndCons' (TtCmpA (Name_ mm1 (mmt mm0) (Int_ (eqIA (truthyA (onB_s (fun ζ => ?_) (fun ζ => ?_)))))))))))
  refine AndCons' (TtCmpA (Name_ mm1 mm6 (None_ (isNotNoneOA (truthyA (onB_s (fun ζ => ?_) (fun ζ => ?_)))))))
  refine AndNil_ (onB_t rfl (sAsgC (BinOpA (Name_ mm1 mm6 (Name_ mm1 (mmt mm2) (addOA ‹_› ‹_› ‹_› ?_))))))
  refine storeA up1 (rpt rp4) (Nil_ (onN_n (Nil_ (onN_n (Nil_ (onN_n (fold_tail (by kernel_rfl) ‹_› (by decide) (by decide) ‹_› ‹_› ‹_› (fun ζ ζ hW hp => ?_))))))))
  refine onN_n (Nil_ (onN_n (Nil_ ?_)))
  rotate_left
  refine onB_f rfl (Nil_ (onN_n (Nil_ (onN_n (Nil_ (onN_n (fold_tail (by kernel_rfl) ‹_› (by decide) (by decide) ‹_› ‹_› ‹_› (fun ζ ζ hW hp => ?_))))))))
  refine onN_n (Nil_ (onN_n (Nil_ ?_)))
  rotate_left
  refine onB_f rfl (Nil_ (onN_n (Nil_ (onN_n (Nil_ (onN_n (fold_tail (by kernel_rfl) ‹_› (by decide) (by decide) ‹_› ‹_› ‹_› (fun ζ ζ hW hp => ?_))))))))
  refine onN_n (Nil_ (onN_n (Nil_ ?_)))
  rotate_left
  refine onB_f rfl (Nil_ (onN_n (Nil_ (onN_n (Nil_ ?_)))))
  rotate_left
  refine onB_f rfl (Nil_ (onN_n (Nil_ (onN_n (Nil_ ?_)))))
  rotate_left
  refine onB_f rfl (Nil_ (onN_n (Nil_ ?_)))
  rotate_left
  refine onB_f rfl (Nil_ (onN_n (Nil_ ?_)))
  rotate_left
  all_goals first
    | (rw [fin_out hwi (by first | exact .inl ‹_› | exact .inr ‹_›)] at h; exact h _ _ _ _ _ _ _ _ _ (by exact Pick.refl))
    | (rw [fin_idle hwi ‹_› ‹_› (by first | exact .inl ‹_› | exact .inr ‹_›)] at h; exact h _ _ _ _ _ _ _ _ _ (by exact Pick.refl))
    | (rw [fin_do hwi ‹_› ‹_› ‹_› ‹_› (fv2 ‹_›) (by symm; assumption)] at h; exact h _ _ _ _ _ _ _ _ _ ‹_›)
    | (rw [fin_do hwi ‹_› ‹_› ‹_› ‹_› (fv3 ‹_› ‹_› ‹_›) (by symm; assumption)] at h; exact h _ _ _ _ _ _ _ _ _ ‹_›)
    | (rw [fin_do hwi ‹_› ‹_› ‹_› ‹_› (fv4o ‹_› (by first | exact .inl ‹_› | exact .inr ‹_›) ‹_› ‹_›) (by symm; assumption)] at h; exact h _ _ _ _ _ _ _ _ _ ‹_›)
    | (rw [fin_do hwi ‹_› ‹_› ‹_› ‹_› (fv1o ‹_› (by first | exact .inl ‹_› | exact .inr ‹_›) (by first | exact .inl ‹_› | exact .inr ‹_›)) (by symm; assumption)] at h; exact h _ _ _ _ _ _ _ _ _ ‹_›)
theorem fold_inner {p it la wl tp : Addr} {cs : List Cmd} {ts : List Addr} {wh : List Int} {arows aone a2 a3 a4 a5 a6 a7 a8 a9 : Option AV} {place : Int} {s0 : FSt} {pos : Pos} {K : Fl → Led → Prop} (hn : 1 ≤ n) (hc : cs.length = 4) (ht : ts.length = 4) (hw4 : wh.length = 4) (hcw : ∀ c ∈ cs, c.word.length ≤ 1)
    (hm : ∀ (i : Nat) t c, ts[i]? = some t → cs[i]? = some c → cmdT t c ∈ R) (hla : (la, AObj.list (ts.map fun t => .con (.ref t))) ∈ R) (hwl : (wl, AObj.list (wh.map .int)) ∈ R) (ht0 : s0.told.length ≤ 100) (ho0 : ∀ o, s0.old = some o → o.length ≤ 20)
    (h : ∀ b1 b2 b3 b4 b5 b6 b7 b8 b9, K .next ((p, .ns fo_950.1.scope [("asked", some (.con (.ref la))), ("whose", some (.con (.ref wl))), ("told", some (.con (.ref tp))), ("rows", arows), ("wrote", some (.int (frun place wh cs 4 s0).wrote)), ("place", some (.int place)), ("old", some (opt (frun place wh cs 4 s0).old)), ("one", b1), ("who", b2), ("number", b3), ("kind", b4), ("spot", b5), ("word", b6), ("expect", b7), ("fresh", b8), ("code", b9)]) :: (tp, .idict (avs (frun place wh cs 4 s0).told)) :: R)) :
    Cl G n ((it, .riter 0 4) :: (p, .ns fo_950.1.scope [("asked", some (.con (.ref la))), ("whose", some (.con (.ref wl))), ("told", some (.con (.ref tp))), ("rows", arows), ("wrote", some (.int s0.wrote)), ("place", some (.int place)), ("old", some (opt s0.old)), ("one", aone), ("who", a2), ("number", a3), ("kind", a4), ("spot", a5), ("word", a6), ("expect", a7), ("fresh", a8), ("code", a9)]) :: (tp, .idict (avs s0.told)) :: R)
      (.forLoop (.Name "one" pos) (.ref it) fInner [] (callEnv fo_950.1 p 950)) K := by
  refine loopR (k := 4) (Inv := fun i Li => ∃ b1 b2 b3 b4 b5 b6 b7 b8 b9, Li = (p, .ns fo_950.1.scope [("asked", some (.con (.ref la))), ("whose", some (.con (.ref wl))), ("told", some (.con (.ref tp))), ("rows", arows), ("wrote", some (.int (frun place wh cs i s0).wrote)), ("place", some (.int place)), ("old", some (opt (frun place wh cs i s0).old)), ("one", b1), ("who", b2), ("number", b3), ("kind", b4), ("spot", b5), ("word", b6), ("expect", b7), ("fresh", b8), ("code", b9)]) :: (tp, .idict (avs (frun place wh cs i s0).told)) :: R) ?hgo ?turn ?fin 4 0 _ rfl (by decide) ⟨aone, a2, a3, a4, a5, a6, a7, a8, a9, rfl⟩
  case hgo => intro i Li v; exact goN_ rfl
  case turn =>
    rintro i Li hi ⟨b1, b2, b3, b4, b5, b6, b7, b8, b9, rfl⟩ v hv'
    have hci : cs[i]? = some (cs[i]'(by lia)) := List.getElem?_eq_getElem _
    have hti : ts[i]? = some (ts[i]'(by lia)) := List.getElem?_eq_getElem _
    have hwi : wh[i]? = some (wh[i]'(by lia)) := List.getElem?_eq_getElem _
    generalize cs[i]'(by lia) = c at hci
    generalize ts[i]'(by lia) = t at hti
    generalize wh[i]'(by lia) = wi at hwi
    have hmm := hm i t c hti hci
    have hit : (ts.map fun t => AV.con (.ref t))[((i : Int)).toNat]? = some (.con (.ref t)) := by rw [List.getElem?_map, Int.toNat_natCast, hti]; rfl
    have hiw : (wh.map AV.int)[((i : Int)).toNat]? = some (.int wi) := by rw [List.getElem?_map, Int.toNat_natCast, hwi]; rfl
    have hj : frun place wh cs (i + 1) s0 = fstep place wh c i (frun place wh cs i s0) := by rw [frun, hci]
    have htl : (frun place wh cs i s0).told.length ≤ 200 := by have := frun_told (place := place) (whose := wh) (cs := cs) (s := s0) i; lia
    have hol := frun_old (place := place) (whose := wh) (cs := cs) (s := s0) hcw ho0 i
    have hcl := hcw c (List.mem_of_getElem? hci)
    generalize frun place wh cs i s0 = st at hj htl hol
    obtain ⟨told, old, wrote⟩ := st
    dsimp only at hj htl hol ⊢
    refine AsgN_ (store_ ‹_› up1 rp7 ?_)
    refine fold_body (i := i) hn hwi hit hiw (by lia) hmm hla hwl htl (fun q e => by have := hol q e; lia) (fun q e => by have := hol q e; lia) (by lia) fun b2 b3 b4 b5 b6 b7 b8 b9 L3 hp => ?_
    rw [← hj] at hp
    exact ⟨_, hp, _, _, _, _, _, _, _, _, _, rfl⟩
  case fin =>
    rintro Li ⟨b1, b2, b3, b4, b5, b6, b7, b8, b9, rfl⟩
    refine Nil_ ?_
    rotate_left
    exact h _ _ _ _ _ _ _ _ _
end
end
section
noncomputable abbrev rowsE (q : Addr × List UInt8 × List UInt8) : Addr × AObj := (q.1, .tuple [.bytes q.2.1, .bytes q.2.2])
noncomputable def rowOf (k : List UInt8) (s : FSt) : List (List UInt8 × List UInt8) := match s.old with | some o => [(k, o)] | none => []
noncomputable def fold (cs : List Cmd) (wh : List Int) : List (Int × List UInt8) × List (List UInt8 × List UInt8) × Int :=
  ((frun 1 wh cs 4 ⟨(frun 0 wh cs 4 ⟨[(9, [0, 0]), (10, [3, 0]), (11, [2, 0])], none, 0⟩).told, none, (frun 0 wh cs 4 ⟨[(9, [0, 0]), (10, [3, 0]), (11, [2, 0])], none, 0⟩).wrote⟩).told,
   rowOf [] (frun 0 wh cs 4 ⟨[(9, [0, 0]), (10, [3, 0]), (11, [2, 0])], none, 0⟩) ++ rowOf [107] (frun 1 wh cs 4 ⟨(frun 0 wh cs 4 ⟨[(9, [0, 0]), (10, [3, 0]), (11, [2, 0])], none, 0⟩).told, none, (frun 0 wh cs 4 ⟨[(9, [0, 0]), (10, [3, 0]), (11, [2, 0])], none, 0⟩).wrote⟩),
   (frun 1 wh cs 4 ⟨(frun 0 wh cs 4 ⟨[(9, [0, 0]), (10, [3, 0]), (11, [2, 0])], none, 0⟩).told, none, (frun 0 wh cs 4 ⟨[(9, [0, 0]), (10, [3, 0]), (11, [2, 0])], none, 0⟩).wrote⟩).wrote)
inductive BysOf : List (Int × AV) → List (Int × List UInt8) → Prop
  | nil : BysOf [] []
  | cons {k b es ds} : BysOf es ds → BysOf ((k, .bytes b) :: es) ((k, b) :: ds)
theorem BysOf.eq {es ds} (h : BysOf es ds) : es = avs ds := by induction h with | nil => rfl | cons _ ih => rw [ih]; rfl
theorem BysOf_avs {ds : List (Int × List UInt8)} : BysOf (avs ds) ds := by
  induction ds with
  | nil => exact .nil
  | cons q ds ih => exact .cons ih
section
variable {G : Gr} {n : Nat} {R : Led} {vs : List Value} {K : AV → Led → Prop}
theorem fold_inner' {p it la wl tp : Addr} {cs : List Cmd} {ts : List Addr} {wh : List Int} {es : List (Int × AV)} {told : List (Int × List UInt8)} {arows aone a2 a3 a4 a5 a6 a7 a8 a9 : Option AV} {place wrote : Int} {pos : Pos} {K : Fl → Led → Prop} {L R R0 : Led} (hn : 1 ≤ n) (hc : cs.length = 4) (ht : ts.length = 4) (hw4 : wh.length = 4) (hcw : ∀ c ∈ cs, c.word.length ≤ 1)
    (hm : ∀ (i : Nat) t c, ts[i]? = some t → cs[i]? = some c → cmdT t c ∈ R) (hla : (la, AObj.list (ts.map fun t => .con (.ref t))) ∈ R) (hwl : (wl, AObj.list (wh.map .int)) ∈ R)
    (hp : Pick ((it, .riter 0 4) :: (p, .ns fo_950.1.scope [("asked", some (.con (.ref la))), ("whose", some (.con (.ref wl))), ("told", some (.con (.ref tp))), ("rows", arows), ("wrote", some (.int wrote)), ("place", some (.int place)), ("old", some .none), ("one", aone), ("who", a2), ("number", a3), ("kind", a4), ("spot", a5), ("word", a6), ("expect", a7), ("fresh", a8), ("code", a9)]) :: (tp, .idict es) :: R0) L)
    (he : BysOf es told) (ht0 : told.length ≤ 100) (hR : ∀ q ∈ R, q ∈ R0)
    (h : ∀ b1 b2 b3 b4 b5 b6 b7 b8 b9 s1, s1 = frun place wh cs 4 ⟨told, none, wrote⟩ → K .next ((p, .ns fo_950.1.scope [("asked", some (.con (.ref la))), ("whose", some (.con (.ref wl))), ("told", some (.con (.ref tp))), ("rows", arows), ("wrote", some (.int s1.wrote)), ("place", some (.int place)), ("old", some (opt s1.old)), ("one", b1), ("who", b2), ("number", b3), ("kind", b4), ("spot", b5), ("word", b6), ("expect", b7), ("fresh", b8), ("code", b9)]) :: (tp, .idict (avs s1.told)) :: R0)) :
    Cl G n L (.forLoop (.Name "one" pos) (.ref it) fInner [] (callEnv fo_950.1 p 950)) K := by
  obtain rfl := he.eq
  exact Cl.pick hp (fold_inner (s0 := ⟨told, none, wrote⟩) hn hc ht hw4 hcw (fun i t c h1 h2 => hR _ (hm i t c h1 h2)) (hR _ hla) (hR _ hwl) ht0 (by intro o e; cases e) fun b1 b2 b3 b4 b5 b6 b7 b8 b9 => h b1 b2 b3 b4 b5 b6 b7 b8 b9 _ rfl)
end
end
section
theorem fold_of {cs : List Cmd} {wh : List Int} {s1 s2 : FSt} (e1 : s1 = frun 0 wh cs 4 ⟨[(9, [0, 0]), (10, [3, 0]), (11, [2, 0])], none, 0⟩) (e2 : s2 = frun (0 + 1) wh cs 4 ⟨s1.told, none, s1.wrote⟩) : fold cs wh = (s2.told, rowOf [] s1 ++ rowOf [107] s2, s2.wrote) := by
  subst e1
  simp only [Int.zero_add] at e2
  subst e2
  rfl
section
variable {G : Gr} {n : Nat} {R : Led} {vs : List Value} {K : AV → Led → Prop}
theorem k_fold {la wl : Addr} {cs : List Cmd} {ts : List Addr} {wh : List Int} (hv : VRs [.con (.ref la), .con (.ref wl)] vs) (hc : cs.length = 4) (ht : ts.length = 4) (hw4 : wh.length = 4) (hcw : ∀ c ∈ cs, c.word.length ≤ 1)
    (hm : ∀ (i : Nat) t c, ts[i]? = some t → cs[i]? = some c → cmdT t c ∈ R) (hla : (la, AObj.list (ts.map fun t => .con (.ref t))) ∈ R) (hwl : (wl, AObj.list (wh.map .int)) ∈ R)
    (h : ∀ r tp rp (qs : List (Addr × List UInt8 × List UInt8)) (told : List (Int × List UInt8)) (wrote : Int), told = (fold cs wh).1 → qs.map (·.2) = (fold cs wh).2.1 → wrote = (fold cs wh).2.2 →
      K (.con (.ref r)) ((r, .tuple [.con (.ref tp), .con (.ref rp), .int wrote]) :: (tp, .idict (avs told)) :: (rp, .list (qs.map fun q => .con (.ref q.1))) :: (qs.map rowsE ++ R))) (hn : 3 ≤ n := by fail "mx nn") :
    Cc G n R (.ref 950) ([] ++ vs) K := by
  refine f_950 (by fail "mx nn") ‹_› rfl (fun p hE => ?_)
  with_reducible refine sAsgC ?_ (by kernel_rfl)
  with_reducible refine Dict3_ ?_
  intro ζ
  refine sSt hE up1 rp2 (sAsgC (xL evs0 (by rfl) (by rfl) ?_))
  intro ζ
  refine sSt hE up2 rp3 (sAsg hE evI up2 rp4 (Cons' (For_ (cT hE (evs1 evI evs0) (rangeNA fun ζ ζ ζ => pyIterR_ ‹_› mm0 (i_cl (by decide)) (i_cl (by decide)) ?_)))))
  intro ζ
  rotate_left
  refine FstepR (by exact Pick.refl) (by exact (i_cl' (by decide))) ?_
  refine TurnN (sSt hE up4 rp5 (sAsg hE evZ up4 rp6 (C.hide fun ζ ζ => Cons' (For_ (cT hE (evs1 evI evs0) (rangeNA fun ζ ζ ζ => pyIterR_ ‹_› mm0 (i_cl (by decide)) (i_cl (by decide)) ?_))))))
  intro ζ
  rotate_left
  refine fold_inner' (by lia) hc ht hw4 hcw hm hla hwl (by exact (pC rm0 (pC rm5 (pk rm4)))) (.cons (.cons (.cons .nil))) (by decide) (by intro q hq; exact (by (repeat refine List.mem_cons_of_mem _ ?_); assumption)) ?_
  intro b1 b2 b3 b4 b5 b6 b7 b8 b9 s1 e1
  have ht1 : s1.told.length ≤ 11 := by rw [e1]; exact frun_told (s := ⟨[(9, [0, 0]), (10, [3, 0]), (11, [2, 0])], none, 0⟩) 4
  obtain ⟨told1, old1, wrote1⟩ := s1
  dsimp only at ht1
  cases old1 with
  | none =>
    dsimp only
    refine onN_n (sIf (tvC (evN hE mm0 mm6) evZ cNtN) (kF rfl App.nil (Nil_ (hideOut ‹_› ?_))))
    refine onL_n ?_
    rotate_left
    refine FstepR (by exact (pk rm3)) (by exact (i_cl' (by decide))) ?_
    refine TurnN (sSt hE up1 rp5 (sAsg hE evZ up1 rp6 (C.hide fun ζ ζ => Cons' (For_ (cT hE (evs1 evI evs0) (rangeNA fun ζ ζ ζ => pyIterR_ ‹_› mm0 (i_cl (by decide)) (i_cl (by decide)) ?_))))))
    intro ζ
    rotate_left
    refine fold_inner' (by lia) hc ht hw4 hcw hm hla hwl (by exact (pC rm0 (pC rm2 (pk rm2)))) BysOf_avs (by lia) (by intro q hq; exact (by (repeat refine List.mem_cons_of_mem _ ?_); assumption)) ?_
    intro c1 c2 c3 c4 c5 c6 c7 c8 c9 s2 e2
    have hf := fold_of e1 e2
    obtain ⟨told2, old2, wrote2⟩ := s2
    cases old2 with
    | none =>
      dsimp only
      refine onN_n (sIf (tvC (evN hE mm0 mm6) evZ cNtN) (kF rfl App.nil (Nil_ (hideOut ‹_› ?_))))
      refine onL_n ?_
      rotate_left
      refine FendR (by exact (pk rm3)) (by exact (i_cl (by decide))) ?_
      refine Nil_ (onN_n (sRetC (xT (evs1 (evN hE mm0 mm2) (evs1 (evN hE mm0 mm3) (evs1 (evN hE mm0 mm4) evs0))) (by rfl) (by rfl) ?_)))
      intro ζ
      refine kR_ ?_
      rotate_left
      exact ⟨_, by dsimp only [List.map, List.cons_append, List.nil_append]; exact (pC rm0 (pC rm1 (pC rm4 (pS (pS (pS (pS Pick.refl))))))), h _ _ _ [] told2 wrote2 (by rw [hf]) (by rw [hf]; rfl) (by rw [hf])⟩
    | some o2 =>
      dsimp only
      refine onN_n (sIf (tvC (evN hE mm0 mm6) evZ cNtB) (kT rfl (App.cons App.nil) (sX hE (MCallA (Name_ mm0 mm3 (methLA mm6 (CallBA (ArgsCons_ (Tuple' ?_ (by decide))))))))))
      refine ArgsCons_ (SubXA (cF hE evs0 (ofCa (fun ζ => k_keys ‹_› ?_))))
      intro ζ
      refine Name_ mm1 mm5 (itemLA mm0 (i_cl (by decide)) (i_cl' (by decide)) rfl ?_)
      refine ArgsCons_ (Name_ mm1 mm6 (ArgsNil_ ?_))
      refine ⟨rfl, ?_⟩
      intro ζ
      refine ArgsNil_ (appendLA up8 nle (Nil_ (hideOut ‹_› ?_)))
      refine onL_n ?_
      rotate_left
      refine FendR (by exact (pk rm5)) (by exact (i_cl (by decide))) ?_
      refine Nil_ (onN_n (sRetC (xT (evs1 (evN hE mm2 mm2) (evs1 (evN hE mm2 mm3) (evs1 (evN hE mm2 mm4) evs0))) (by rfl) (by rfl) ?_)))
      intro ζ
      refine kR_ ?_
      rotate_left
      exact ⟨_, by dsimp only [List.map, List.cons_append, List.nil_append]; exact (pC rm0 (pC rm3 (pC rm6 (pC rm0 (pS (pS (pS (pS (pS Pick.refl))))))))), h _ _ _ [(_, [107], o2)] told2 wrote2 (by rw [hf]) (by rw [hf]; rfl) (by rw [hf])⟩
  | some o1 =>
    dsimp only
    refine onN_n (sIf (tvC (evN hE mm0 mm6) evZ cNtB) (kT rfl (App.cons App.nil) (sX hE (MCallA (Name_ mm0 mm3 (methLA mm5 (CallBA (ArgsCons_ (Tuple' ?_ (by decide))))))))))
    refine ArgsCons_ (SubXA (cF hE evs0 (ofCa (fun ζ => k_keys ‹_› ?_))))
    intro ζ
    refine Name_ mm1 mm5 (itemLA mm0 (i_cl (by decide)) (i_cl' (by decide)) rfl ?_)
    refine ArgsCons_ (Name_ mm1 mm6 (ArgsNil_ ?_))
    refine ⟨rfl, ?_⟩
    intro ζ
    refine ArgsNil_ (appendLA up7 nle (Nil_ (hideOut ‹_› ?_)))
    refine onL_n ?_
    rotate_left
    refine FstepR (by exact (pk rm5)) (by exact (i_cl' (by decide))) ?_
    refine TurnN (sSt hE up3 rp5 (sAsg hE evZ up3 rp6 (C.hide fun ζ ζ => Cons' (For_ (cT hE (evs1 evI evs0) (rangeNA fun ζ ζ ζ => pyIterR_ ‹_› mm0 (i_cl (by decide)) (i_cl (by decide)) ?_))))))
    intro ζ
    rotate_left
    refine fold_inner' (by lia) hc ht hw4 hcw hm hla hwl (by exact (pC rm0 (pC rm4 (pk rm4)))) BysOf_avs (by lia) (by intro q hq; exact (by (repeat refine List.mem_cons_of_mem _ ?_); assumption)) ?_
    intro c1 c2 c3 c4 c5 c6 c7 c8 c9 s2 e2
    have hf := fold_of e1 e2
    obtain ⟨told2, old2, wrote2⟩ := s2
    cases old2 with
    | none =>
      dsimp only
      refine onN_n (sIf (tvC (evN hE mm0 mm6) evZ cNtN) (kF rfl App.nil (Nil_ (hideOut ‹_› ?_))))
      refine onL_n ?_
      rotate_left
      refine FendR (by exact (pk rm3)) (by exact (i_cl (by decide))) ?_
      refine Nil_ (onN_n (sRetC (xT (evs1 (evN hE mm0 mm2) (evs1 (evN hE mm0 mm3) (evs1 (evN hE mm0 mm4) evs0))) (by rfl) (by rfl) ?_)))
      intro ζ
      refine kR_ ?_
      rotate_left
      exact ⟨_, by dsimp only [List.map, List.cons_append, List.nil_append]; exact (pC rm0 (pC rm1 (pC rm6 (pC rm2 (pS (pS (pS (pS (pS Pick.refl))))))))), h _ _ _ [(_, [], o1)] told2 wrote2 (by rw [hf]) (by rw [hf]; rfl) (by rw [hf])⟩
    | some o2 =>
      dsimp only
      refine onN_n (sIf (tvC (evN hE mm0 mm6) evZ cNtB) (kT rfl (App.cons App.nil) (sX hE (MCallA (Name_ mm0 mm3 (methLA mm8 (CallBA (ArgsCons_ (Tuple' ?_ (by decide))))))))))
      refine ArgsCons_ (SubXA (cF hE evs0 (ofCa (fun ζ => k_keys ‹_› ?_))))
      intro ζ
      refine Name_ mm1 mm5 (itemLA mm0 (i_cl (by decide)) (i_cl' (by decide)) rfl ?_)
      refine ArgsCons_ (Name_ mm1 mm6 (ArgsNil_ ?_))
      refine ⟨rfl, ?_⟩
      intro ζ
      refine ArgsNil_ (appendLA (upt up0) nle (Nil_ (hideOut ‹_› ?_)))
      refine onL_n ?_
      rotate_left
      refine FendR (by exact (pk rm5)) (by exact (i_cl (by decide))) ?_
      refine Nil_ (onN_n (sRetC (xT (evs1 (evN hE mm2 mm2) (evs1 (evN hE mm2 mm3) (evs1 (evN hE mm2 mm4) evs0))) (by rfl) (by rfl) ?_)))
      intro ζ
      refine kR_ ?_
      rotate_left
      exact ⟨_, by dsimp only [List.map, List.cons_append, List.nil_append]; exact (pC rm0 (pC rm3 (pC rm8 (pC rm4 (pC rm0 (pS (pS (pS (pS (pS (pS Pick.refl))))))))))), h _ _ _ [(_, [], o1), (_, [107], o2)] told2 wrote2 (by rw [hf]) (by rw [hf]; rfl) (by rw [hf])⟩
end
end
section
noncomputable abbrev stoE (s dn lb : Addr) (k l : Int) : Addr × AObj := (s, .inst 883 [("now", .con (.ref dn)), ("batches", .con (.ref lb)), ("kept", .int k), ("last", .int l)])
section
variable {G : Gr} {n : Nat} {R : Led} {vs : List Value} {K : AV → Led → Prop}
theorem k_MemStore (hv : VRs [] vs) (h : ∀ s dn lb, K (.con (.ref s)) (stoE s dn lb 0 0 :: (dn, .bd []) :: (lb, .list []) :: R)) (hn : 2 ≤ n := by fail "mx nn") : Cc G n R (.ref 883) ([] ++ vs) K := by
  refine Make' (by lia) (by intro ζ; k_is) (by intro ζ; k_is) (by intro ζ; k_is) ?_
  intro x
  refine f_831 (by fail "mx nn") (by exact (VRs.cons (VR_ref _) ‹_›)) rfl (fun p hE => ?_)
  refine sSetC (DictB_ fun ζ => Name_ mm1 mm0 (setNewA mm2 Snoc.nil up2 (by rfl) (by exact Nat.le_of_ble_eq_true rfl) (by intro ζ; exact ⟨by k_is, by k_is, by k_is, by k_is⟩) ?_))
  refine sSetC (xL evs0 (by rfl) (by rfl) ?_)
  intro ζ
  refine Name_ mm2 mm0 (setNewA mm3 (Snoc.cons Snoc.nil) up3 (by rfl) (by exact Nat.le_of_ble_eq_true rfl) (by intro ζ; exact ⟨by k_is, by k_is, by k_is, by k_is⟩) ?_)
  refine sNew evI (evN hE mm2 mm0) mm3 (Snoc.cons (Snoc.cons Snoc.nil)) up3 (by rfl) (by exact Nat.le_of_ble_eq_true rfl) (by intro ζ; exact ⟨by k_is, by k_is, by k_is, by k_is⟩) ?_
  refine sNew evI (evN hE mm2 mm0) mm3 (Snoc.cons (Snoc.cons (Snoc.cons Snoc.nil))) up3 (by rfl) (by exact Nat.le_of_ble_eq_true rfl) (by intro ζ; exact ⟨by k_is, by k_is, by k_is, by k_is⟩) ?_
  refine Nil_ ?_
  rotate_left
  exact ⟨_, by exact (pC rm3 (pC rm1 (pC rm0 (pS Pick.refl)))), rfl, h _ _ _⟩
theorem k_ms_get {s dn lb : Addr} {k l : Int} {es : List (List UInt8 × AV)} {key : List UInt8} (hv : VRs [.bytes key] vs) (h : K ((lookA es key).getD .none) (stoE s dn lb k l :: (dn, .bd es) :: R)) (hn : 1 ≤ n := by fail "mx nn") :
    Cc G n (stoE s dn lb k l :: (dn, .bd es) :: R) (.ref 866) ([.ref s] ++ vs) K := by
  refine f_866 (by fail "mx nn") (by exact (VRs.cons (VR_ref _) ‹_›)) rfl (fun p hE => ?_)
  refine sRetC (cMB (evA (evN hE mm0 mm0) mm1 mm0 hand_r) (gD mm2) (evs1 (evN hE mm0 mm1) evs0) (dgetA mm2 (kR_ ?_)))
  rotate_left
  exact ⟨_, by exact (pC rm1 (pC rm1 (pS Pick.refl))), h⟩
theorem k_ms_sync {s dn lb : Addr} {k l : Int} {xs : List AV} (hv : VRs [] vs) (hx : xs.length ≤ 1000) (h : K .none (stoE s dn lb xs.length l :: (lb, .list xs) :: R)) (hn : 1 ≤ n := by fail "mx nn") :
    Cc G n (stoE s dn lb k l :: (lb, .list xs) :: R) (.ref 852) ([.ref s] ++ vs) K := by
  refine f_852 (by fail "mx nn") (by exact (VRs.cons (VR_ref _) ‹_›)) rfl (fun p hE => ?_)
  refine sSet (evCB hE (evs1 (evA (evN hE mm0 mm0) mm1 mm1 hand_r) evs0) (fLenL mm2 (n_tr ‹_› (by decide)))) (evN hE mm0 mm0) up1 rf2 (by intro ζ; exact ⟨by k_is, by k_is, by k_is, by k_is⟩) ?_
  refine Nil_ ?_
  rotate_left
  exact ⟨_, by exact (pC rm1 (pC rm1 (pS Pick.refl))), h⟩
theorem k_ms_isdur {s dn lb : Addr} {k l : Int} {xs : List AV} (hv : VRs [] vs) (hx : xs.length ≤ 1000) (h : K (.bool (k == xs.length)) (stoE s dn lb k l :: (lb, .list xs) :: R)) (hn : 1 ≤ n := by fail "mx nn") :
    Cc G n (stoE s dn lb k l :: (lb, .list xs) :: R) (.ref 859) ([.ref s] ++ vs) K := by
  refine f_859 (by fail "mx nn") (by exact (VRs.cons (VR_ref _) ‹_›)) rfl (fun p hE => ?_)
  refine sRet (evCmp (evA (evN hE mm0 mm0) mm1 mm2 hand_i) (evCB hE (evs1 (evA (evN hE mm0 mm0) mm1 mm1 hand_r) evs0) (fLenL mm2 (n_tr ‹_› (by decide)))) cEq) ?_
  rotate_left
  exact ⟨_, by exact (pC rm1 (pC rm1 (pS Pick.refl))), h⟩
theorem k_same_maybe_nn (hv : VRs [.none, .none] vs) (h : K (.bool true) R) (hn : 1 ≤ n := by fail "mx nn") : Cc G n R (.ref 817) ([] ++ vs) K := by
  refine f_817 (by fail "mx nn") ‹_› rfl (fun p hE => ?_)
  refine sIf (tvL (orT (tvC (evN hE mm0 mm0) evZ cIsN) rfl)) (kT rfl (App.cons App.nil) (sRetC (AndV_ (CompareA (Name_ mm0 mm0 (None_ (isNoneNA ?_)))))))
  refine ⟨_, rfl, ?_⟩
  refine onB_t rfl (CompareA (Name_ mm0 mm1 (None_ (isNoneNA (kR_ ?_)))))
  rotate_left
  exact ⟨_, by exact (pS Pick.refl), h⟩
theorem k_same_maybe_ns {b : List UInt8} (hv : VRs [.none, .bytes b] vs) (h : K (.bool false) R) (hn : 1 ≤ n := by fail "mx nn") : Cc G n R (.ref 817) ([] ++ vs) K := by
  refine f_817 (by fail "mx nn") ‹_› rfl (fun p hE => ?_)
  refine sIf (tvL (orT (tvC (evN hE mm0 mm0) evZ cIsN) rfl)) (kT rfl (App.cons App.nil) (sRetC (AndV_ (CompareA (Name_ mm0 mm0 (None_ (isNoneNA ?_)))))))
  refine ⟨_, rfl, ?_⟩
  refine onB_t rfl (CompareA (Name_ mm0 mm1 (None_ (isNoneBA (kR_ ?_)))))
  rotate_left
  exact ⟨_, by exact (pS Pick.refl), h⟩
theorem k_same_maybe_sn {a : List UInt8} (hv : VRs [.bytes a, .none] vs) (h : K (.bool false) R) (hn : 1 ≤ n := by fail "mx nn") : Cc G n R (.ref 817) ([] ++ vs) K := by
  refine f_817 (by fail "mx nn") ‹_› rfl (fun p hE => ?_)
  refine sIf (tvL (orF (tvC (evN hE mm0 mm0) evZ cIsB) rfl (orT (tvC (evN hE mm0 mm1) evZ cIsN) rfl))) (kT rfl (App.cons App.nil) (sRetC (AndV_ (CompareA (Name_ mm0 mm0 (None_ (isNoneBA ?_)))))))
  refine ⟨_, rfl, ?_⟩
  refine onB_f rfl (kR_ ?_)
  rotate_left
  exact ⟨_, by exact (pS Pick.refl), h⟩
theorem k_same_maybe_ss {a b : List UInt8} (hv : VRs [.bytes a, .bytes b] vs) (h : K (.bool (a == b)) R) (hn : 1 ≤ n := by fail "mx nn") : Cc G n R (.ref 817) ([] ++ vs) K := by
  refine f_817 (by fail "mx nn") ‹_› rfl (fun p hE => ?_)
  refine sIf (tvL (orF (tvC (evN hE mm0 mm0) evZ cIsB) rfl (orF (tvC (evN hE mm0 mm1) evZ cIsB) rfl or0))) (kF rfl App.nil (sRet (evCmp (evN hE mm0 mm0) (evN hE mm0 mm1) cEqB) ?_))
  rotate_left
  exact ⟨_, by exact (pS Pick.refl), h⟩
theorem k_same_maybe {a b : Option (List UInt8)} (hv : VRs [opt a, opt b] vs) (h : K (.bool (a == b)) R) (hn : 1 ≤ n := by fail "mx nn") : Cc G n R (.ref 817) ([] ++ vs) K := by
  cases a <;> cases b
  · exact k_same_maybe_nn hv h
  · exact k_same_maybe_ns hv h
  · exact k_same_maybe_sn hv h
  · exact k_same_maybe_ss hv h
end
end
section
section
variable {G : Gr} {n : Nat} {R : Led} {vs : List Value} {K : AV → Led → Prop}
theorem k_ms_get_n {s dn lb : Addr} {k l : Int} {es : List (List UInt8 × AV)} {key : List UInt8} (hv : VRs [.bytes key] vs) (hx : lookA es key = none) (h : K .none (stoE s dn lb k l :: (dn, .bd es) :: R)) (hn : 1 ≤ n := by fail "mx nn") :
    Cc G n (stoE s dn lb k l :: (dn, .bd es) :: R) (.ref 866) ([.ref s] ++ vs) K := k_ms_get hv (by rw [hx]; exact h)
theorem k_ms_get_s {s dn lb : Addr} {k l : Int} {es : List (List UInt8 × AV)} {key : List UInt8} {a : AV} (hv : VRs [.bytes key] vs) (hx : lookA es key = some a) (h : K a (stoE s dn lb k l :: (dn, .bd es) :: R)) (hn : 1 ≤ n := by fail "mx nn") :
    Cc G n (stoE s dn lb k l :: (dn, .bd es) :: R) (.ref 866) ([.ref s] ++ vs) K := k_ms_get hv (by rw [hx]; exact h)
theorem k_ms_get_o {s dn lb : Addr} {k l : Int} {es : List (List UInt8 × AV)} {key : List UInt8} {o : Option (List UInt8)} (hv : VRs [.bytes key] vs) (hx : lookA es key = o.map .bytes) (h : K (opt o) (stoE s dn lb k l :: (dn, .bd es) :: R)) (hn : 1 ≤ n := by fail "mx nn") :
    Cc G n (stoE s dn lb k l :: (dn, .bd es) :: R) (.ref 866) ([.ref s] ++ vs) K := k_ms_get hv (by rw [hx]; cases o <;> exact h)
end
end
section
noncomputable abbrev pairE (q : Addr × List UInt8 × AV) : Addr × AObj := (q.1, .tuple [.bytes q.2.1, q.2.2])
noncomputable def pairsL (ps : List (Addr × List UInt8 × AV)) : Led := ps.map pairE
theorem pairsL_cons {q : Addr × List UInt8 × AV} {ps : List (Addr × List UInt8 × AV)} {R : Led} : pairsL (q :: ps) ++ R = pairE q :: (pairsL ps ++ R) := rfl
noncomputable def valOf (es : List (List UInt8 × AV)) (k : List UInt8) : AV := (lookA es k).getD .none
noncomputable def sel (es : List (List UInt8 × AV)) (lo hi : List UInt8) (ks : List (List UInt8)) : List (List UInt8 × AV) := (ks.filter fun k => !lt8 k lo && lt8 k hi).map fun k => (k, valOf es k)
theorem look_mem {es : List (List UInt8 × AV)} {k : List UInt8} (h : k ∈ es.map (·.1)) : lookA es k = some (valOf es k) := by
  unfold valOf
  cases q : lookA es k with
  | some a => rfl
  | none =>
    unfold lookA at q
    rw [Option.map_eq_none_iff, List.find?_eq_none] at q
    obtain ⟨x, hx, e⟩ := List.mem_map.mp h
    exact absurd e (by simpa using q x hx)
section
variable {G : Gr} {n : Nat} {R : Led} {vs : List Value} {K : AV → Led → Prop}
theorem k_scan {s dn lb : Addr} {k l : Int} {es : List (List UInt8 × AV)} {lo hi : List UInt8} (hv : VRs [.bytes lo, .bytes hi, .none] vs) (he : es.length < 64)
    (h : ∀ p ks ps xs, ks.Perm (es.map (·.1)) → ks.Pairwise (fun a b => lt8 b a = false) → xs = (ps.map fun (q : Addr × List UInt8 × AV) => AV.con (.ref q.1)).reverse → (ps.map (·.2)).reverse = sel es lo hi ks →
      K (.con (.ref p)) ((p, .list xs) :: stoE s dn lb k l :: (dn, .bd es) :: (pairsL ps ++ R))) (hn : 1 ≤ n := by fail "mx nn") :
    Cc G n (stoE s dn lb k l :: (dn, .bd es) :: R) (.ref 873) ([.ref s] ++ vs) K := by
  refine f_873 (by fail "mx nn") (by exact (VRs.cons (VR_ref _) ‹_›)) rfl (fun p hE => ?_)
  refine sIf (tvC (evN hE mm0 mm3) evZ cNtN) (kF rfl App.nil (sAsgC (xL evs0 (by rfl) (by rfl) ?_)))
  intro _
  refine sSt hE up1 rp4 (Cons' (For_ (cB hE (evs1 (evA (evN hE mm1 mm0) mm2 mm0 hand_r) evs0) (CallA.mk fun _ _ => sortedD_ ‹_› mm3 ‹_› ?_))))
  intro _ _ _ _ _ _
  refine pyIterL_ ‹_› mm0 ?_
  intro _
  rotate_left
  rename_i f _ _ l0 ks hp1 hp2 _ _ it
  have hlk : ∀ k ∈ ks, lookA es k = some (valOf es k) := fun k hk => look_mem (hp1.mem_iff.mp hk)
  refine loopL (xs := ks.map .bytes) (Inv := fun i Li => ∃ ps xs kv, xs = (ps.map fun (q : Addr × List UInt8 × AV) => AV.con (.ref q.1)).reverse ∧ (ps.map (·.2)).reverse = sel es lo hi (ks.take i) ∧
    Li = (l0, AObj.list (ks.map .bytes)) :: (f, .list xs) :: (p, .ns fo_873.1.scope [("self", some (.con (.ref s))), ("low", some (.bytes lo)), ("high", some (.bytes hi)), ("snap", some (.none)), ("found", some (.con (.ref f))), ("key", kv)]) :: stoE s dn lb k l :: (dn, .bd es) :: (pairsL ps ++ R)) ?hlst ?hgo ?turn ?fin _ 0 _ rfl (Nat.zero_le _) ⟨[], [], none, rfl, rfl, rfl⟩
  case hlst => rintro i Li ⟨ps, xs, kv, e1, e2, rfl⟩; exact List.mem_cons_self
  case hgo => intro i Li v a _ _; exact goN_ rfl
  case turn =>
    rintro i a Li hx ⟨ps, xs, kv, e1, e2, rfl⟩ v hv'
    rw [List.getElem?_map] at hx
    cases hki : ks[i]? with
    | none => rw [hki] at hx; cases hx
    | some ky =>
      rw [hki] at hx
      obtain rfl : AV.bytes ky = a := by simpa using hx
      have hlx := hlk ky (List.mem_of_getElem? hki)
      have htk : ks.take (i + 1) = ks.take i ++ [ky] := by rw [List.take_add_one, hki]; rfl
      have hxs : xs.length ≤ 64 := by
        have := congrArg List.length e2
        simp only [List.length_reverse, List.length_map, sel] at this
        have h2 := List.length_filter_le (fun k => !lt8 k lo && lt8 k hi) (ks.take i)
        have h3 : (ks.take i).length ≤ ks.length := by rw [List.length_take]; lia
        have h4 := hp1.length_eq
        rw [List.length_map] at h4
        rw [e1, List.length_reverse, List.length_map]; lia
      refine AsgN_ (store_ ‹_› up3 rp5 ?_)
      refine C.hide fun _ _ => Cons' (If' (TtBool_ (AndCons' (TtCmpA (Name_ mm3 mm1 (None_ (isNotNoneBA (truthyA (onB_t rfl (AndCons' (TtCmpA (Name_ mm3 mm5 ?_))))))))))))
      refine Name_ mm3 mm1 (ltBA (truthyA (onB_s (fun _ => ?_) (fun _ => ?_))))
      refine AndNil_ (onB_t rfl (sCont (onN_c (hideOut ‹_› ?_))))
      refine onL_c ?_
      rotate_left
      refine onB_f rfl (Nil_ (onN_n (Cons' (If' (TtBool_ (AndCons' (TtCmpA (Name_ mm3 mm2 (None_ (isNotNoneBA (truthyA (onB_t rfl (AndCons' (TtCmpA ?_))))))))))))))
      refine Name_ mm3 mm5 (Name_ mm3 mm2 (geBA (truthyA (onB_s (fun _ => ?_) (fun _ => ?_)))))
      refine AndNil_ (onB_t rfl (sCont (onN_c (hideOut ‹_› ?_))))
      refine onL_c ?_
      rotate_left
      refine onB_f rfl (Nil_ (onN_n (sX hE (MCallA (Name_ mm3 mm4 (methLA mm2 (CallBA (ArgsCons_ (xT (evs1 (evN hE mm3 mm5) (evs1 (evS (evA (evN hE mm3 mm0) mm4 mm0 hand_r) (evN hE mm3 mm5) (sD mm5 ‹_› (fun _ _ => rfl))) evs0)) (by rfl) (by rfl) ?_)))))))))
      intro _
      refine ArgsNil_ (appendLA up3 (n_tr ‹_› (by decide)) ?_)
      refine Nil_ (hideOut ‹_› ?_)
      refine onL_n ?_
      rotate_left
      · have q1 : lt8 ky lo = true := by assumption
        exact ⟨_, by exact Pick.refl, ps, _, some (.bytes ky), e1, by rw [e2, htk]; simp [sel, q1], rfl⟩
      · have q1 : lt8 ky lo = false := by assumption
        have q2 : (!lt8 ky hi) = true := by assumption
        rw [Bool.not_eq_true'] at q2
        exact ⟨_, by exact Pick.refl, ps, _, some (.bytes ky), e1, by rw [e2, htk]; simp [sel, q2], rfl⟩
      · rename_i t
        have q1 : lt8 ky lo = false := by assumption
        have q2 : (!lt8 ky hi) = false := by assumption
        rw [Bool.not_eq_false'] at q2
        exact ⟨_, by rw [pairsL_cons]; exact (pC rm1 (pC rm1 (pC rm1 (pC rm1 (pC rm1 (pk rm1)))))), (t, ky, valOf es ky) :: ps, _, some (.bytes ky), by rw [List.map_cons, List.reverse_cons, ← e1], by rw [List.map_cons, List.reverse_cons, e2, htk]; simp [sel, q1, q2], rfl⟩
  case fin =>
    rintro Li ⟨ps, xs, kv, e1, e2, rfl⟩
    rw [List.take_of_length_le (by simp)] at e2
    refine Nil_ (onN_n (sRet (evN hE mm2 mm4) ?_))
    rotate_left
    exact ⟨_, by exact (pC rm1 (pC rm2 (pC rm2 (pS (pS Pick.refl))))), h _ ks ps xs hp1 hp2 e1 e2⟩
end
end
section
section
variable {G : Gr} {n : Nat} {R : Led} {vs : List Value} {K : AV → Led → Prop}
theorem k_put_varint32_1 {k : Int} (hv : VRs [.int k] vs) (h0 : 0 ≤ k) (h1 : k < 128) (h : K (.bytes [k.toNat.toUInt8]) R) (hn : 1 ≤ n := by fail "mx nn") : Cc G n R (.ref 165) ([] ++ vs) K := by
  refine f_165 (by fail "mx nn") ‹_› rfl (fun p hE => ?_)
  refine sIf (tvL (andT (tvC (evN hE mm0 mm0) evI cGe) (decT ‹_›) (andT (tvC (evN hE mm0 mm0) evI cLt) (decT ‹_›) and0))) ?_
  refine kT rfl (App.cons App.nil) (sRetC (CallTNA (by k_is) (by boot_by_name) ?_ (by kernel_rfl)))
  refine ArgsCons_ (xL (evs1 (evN hE mm0 mm0) evs0) (by rfl) (by rfl) ?_)
  intro ζ
  refine ArgsNil_ (bytesLA mm0 (IntsOf.cons IntsOf.nil) (by simp only [lens, false_implies, implies_true, and_true]; first | done | lia) nle ?_)
  refine kR_ ?_
  rotate_left
  exact ⟨_, by exact (pS (pS Pick.refl)), h⟩
theorem k_varint_length_1 {k : Int} (hv : VRs [.int k] vs) (h0 : 0 ≤ k) (h1 : k < 128) (h : K (.int 1) R) (hn : 1 ≤ n := by fail "mx nn") : Cc G n R (.ref 179) ([] ++ vs) K := by
  refine f_179 (by fail "mx nn") ‹_› rfl (fun p hE => ?_)
  refine sIf (tvL (orF (tvC (evN hE mm0 mm0) evI cLt) (decF (i_nlt ‹_›)) (orF (tvC (evN hE mm0 mm0) (evGI hE) cGt) (decF (i_nlt (by lia))) or0))) ?_
  refine kF rfl App.nil (sAsg hE evI up0 rp1 (Cons' (While_ ?_)))
  rotate_left
  refine Wstep' (TtCmpA (Name_ mm0 mm0 (Int_ (geIA (truthyA (onB_f (decF (i_nle ‹_›)) ?_))))))
  refine Nil_ (onN_n (sRet (evN hE mm0 mm1) ?_))
  rotate_left
  refine' ⟨_, ?q, h⟩
  case q => exact (pS Pick.refl)
theorem k_write_groups_300 {m : Int} (hv : VRs [.int 300, .int m] vs) (hm : 300 ≤ m) (h : K (.bytes [172, 2]) R) (hn : 1 ≤ n := by fail "mx nn") : Cc G n R (.ref 137) ([] ++ vs) K := by
  refine f_137 (by fail "mx nn") ‹_› rfl (fun p hE => ?_)
  refine sIf (tvL (orF (tvC (evN hE mm0 mm0) evI cLt) (by decide) (orF (tvC (evN hE mm0 mm0) (evN hE mm0 mm1) cGt) (decF (i_nlt ‹_›)) or0))) ?_
  refine kF rfl App.nil (sAsgC (cT hE evs0 (makeBaA fun ζ => sSt hE up1 rp2 (Cons' (While_ ?_)))))
  rotate_left
  refine Wstep' (TtCmpA (Name_ mm1 mm0 (Int_ (geIA (truthyA (onB_t (by decide) ?_))))))
  refine sX hE (cMB (evN hE mm1 mm2) (gBa mm0) (evs1 (evO (evO (evN hE mm1 mm0) evI oAnd) evI oOr) evs0) (appendBaA up0 (i_cl (by decide)) (i_cl' (by decide)) nle ?_))
  refine sAug hE mm1 mm0 evI (iShr (i_cl (by decide))) up1 rp0 ?_
  refine C.hide fun ζ ζ => Nil_ (hideOut ‹_› ?_)
  refine onL_n ?_
  rotate_left
  refine Wstep' (TtCmpA (Name_ mm1 mm0 (Int_ (geIA (truthyA (onB_f (by decide) ?_))))))
  refine Nil_ (onN_n (sX hE (cMB (evN hE mm1 mm2) (gBa mm0) (evs1 (evN hE mm1 mm0) evs0) (appendBaA up0 (i_cl (by decide)) (i_cl' (by decide)) nle ?_))))
  refine sRet (evCT hE (evs1 (evN hE mm1 mm2) evs0) (fByA mm0 nle)) ?_
  rotate_left
  refine' ⟨_, ?q, h⟩
  case q => exact (pS (pS Pick.refl))
end
end
section
noncomputable abbrev batE (x r : Addr) (w : Int) : Addr × AObj := (x, .inst 456 [("rows", .con (.ref r)), ("weight", .int w)])
noncomputable abbrev rowE (t : Addr) (k : Int) (key val : List UInt8) : Addr × AObj := (t, .tuple [.int k, .bytes key, .bytes val])
section
variable {G : Gr} {n : Nat} {R : Led} {vs : List Value} {K : AV → Led → Prop}
theorem k_WriteBatch (hv : VRs [] vs) (h : ∀ x r, K (.con (.ref x)) (batE x r 12 :: (r, .list []) :: R)) (hn : 2 ≤ n := by fail "mx nn") : Cc G n R (.ref 456) ([] ++ vs) K := by
  refine Make' (by lia) (by intro ζ; k_is) (by intro ζ; k_is) (by intro ζ; k_is) ?_
  intro x
  refine f_390 (by fail "mx nn") (by exact (VRs.cons (VR_ref _) ‹_›)) rfl (fun p hE => ?_)
  refine sSetC (xL evs0 (by rfl) (by rfl) ?_)
  intro ζ
  refine Name_ mm1 mm0 (setNewA mm2 Snoc.nil up2 (by rfl) (by exact Nat.le_of_ble_eq_true rfl) (by intro ζ; exact ⟨by k_is, by k_is, by k_is, by k_is⟩) ?_)
  refine sNew (evGI hE) (evN hE mm1 mm0) mm2 (Snoc.cons Snoc.nil) up2 (by rfl) (by exact Nat.le_of_ble_eq_true rfl) (by intro ζ; exact ⟨by k_is, by k_is, by k_is, by k_is⟩) ?_
  refine Nil_ ?_
  rotate_left
  exact ⟨_, by exact (pC rm2 (pC rm0 (pS Pick.refl))), rfl, h _ _⟩
theorem k_take_op_1 {x r : Addr} {w : Int} {xs : List AV} {key val : List UInt8} (hv : VRs [.int 1, .bytes key, .bytes val] vs) (hk : key.length < 128) (hl : val.length < 128) (hx : xs.length ≤ 1000)
    (h : ∀ t w', K .none (batE x r w' :: (r, .list (xs ++ [.con (.ref t)])) :: rowE t 1 key val :: R)) (hn : 2 ≤ n := by fail "mx nn") :
    Cc G n (batE x r w :: (r, .list xs) :: R) (.ref 411) ([.ref x] ++ vs) K := by
  refine f_411 (by fail "mx nn") (by exact (VRs.cons (VR_ref _) ‹_›)) rfl (fun p hE => ?_)
  refine Cons' (AugAA (Name_ mm0 mm0 (getAA mm1 mm1 (by intro ζ; exact ⟨Bool.and_eq_true_iff.mpr ⟨by k_is, by k_is⟩, by k_is, by k_is⟩) hand_i ?_)))
  refine BinOpA (BinOpA (Int_ (cF hE (evs1 (evCB hE (evs1 (evN hE mm0 mm2) evs0) (fLenB (by lia))) evs0) ?_)))
  refine ofCa (fun ζ => k_varint_length_1 ‹_› c_nn (c_lt ‹_› (by decide)) ?_)
  refine addIA (cB hE (evs1 (evN hE mm0 mm2) evs0) (lenBA (by lia) ?_))
  refine addIA (iaddIA (setAA up1 rf1 (by intro ζ; exact ⟨by k_is, by k_is, by k_is, by k_is⟩) ?_))
  refine onN_n (sIf (tvC (evN hE mm0 mm1) (evGI hE) cEq) (kT (by decide) (App.cons App.nil) ?_))
  refine Cons' (AugAA (Name_ mm0 mm0 (getAA mm1 mm1 (by intro ζ; exact ⟨Bool.and_eq_true_iff.mpr ⟨by k_is, by k_is⟩, by k_is, by k_is⟩) hand_i ?_)))
  refine BinOpA (cF hE (evs1 (evCB hE (evs1 (evN hE mm0 mm3) evs0) (fLenB (by lia))) evs0) ?_)
  refine ofCa (fun ζ => k_varint_length_1 ‹_› c_nn (c_lt ‹_› (by decide)) ?_)
  refine cB hE (evs1 (evN hE mm0 mm3) evs0) (lenBA (by lia) ?_)
  refine addIA (iaddIA (setAA up1 rf1 (by intro ζ; exact ⟨by k_is, by k_is, by k_is, by k_is⟩) ?_))
  refine onN_n (sX hE (MCallA (AttrA (Name_ mm0 mm0 (getAA mm1 mm0 (by intro ζ; exact ⟨Bool.and_eq_true_iff.mpr ⟨by k_is, by k_is⟩, by k_is, by k_is⟩) hand_r ?_)))))
  refine methLA mm2 (CallBA (ArgsCons_ (xT (evs1 (evN hE mm0 mm1) (evs1 (evN hE mm0 mm2) (evs1 (evN hE mm0 mm3) evs0))) (by rfl) (by rfl) ?_)))
  intro ζ
  refine ArgsNil_ (appendLA up3 (n_tr ‹_› (by decide)) ?_)
  refine Nil_ ?_
  rotate_left
  exact ⟨_, by exact (pC rm2 (pC rm2 (pC rm0 (pS Pick.refl)))), h _ _⟩
theorem k_take_op_0 {x r : Addr} {w : Int} {xs : List AV} {key val : List UInt8} (hv : VRs [.int 0, .bytes key, .bytes val] vs) (hk : key.length < 128) (hl : val.length < 128) (hx : xs.length ≤ 1000)
    (h : ∀ t w', K .none (batE x r w' :: (r, .list (xs ++ [.con (.ref t)])) :: rowE t 0 key val :: R)) (hn : 2 ≤ n := by fail "mx nn") :
    Cc G n (batE x r w :: (r, .list xs) :: R) (.ref 411) ([.ref x] ++ vs) K := by
  refine f_411 (by fail "mx nn") (by exact (VRs.cons (VR_ref _) ‹_›)) rfl (fun p hE => ?_)
  refine Cons' (AugAA (Name_ mm0 mm0 (getAA mm1 mm1 (by intro ζ; exact ⟨Bool.and_eq_true_iff.mpr ⟨by k_is, by k_is⟩, by k_is, by k_is⟩) hand_i ?_)))
  refine BinOpA (BinOpA (Int_ (cF hE (evs1 (evCB hE (evs1 (evN hE mm0 mm2) evs0) (fLenB (by lia))) evs0) ?_)))
  refine ofCa (fun ζ => k_varint_length_1 ‹_› c_nn (c_lt ‹_› (by decide)) ?_)
  refine addIA (cB hE (evs1 (evN hE mm0 mm2) evs0) (lenBA (by lia) ?_))
  refine addIA (iaddIA (setAA up1 rf1 (by intro ζ; exact ⟨by k_is, by k_is, by k_is, by k_is⟩) ?_))
  refine onN_n (sIf (tvC (evN hE mm0 mm1) (evGI hE) cEq) (kF (by decide) App.nil ?_))
  refine sX hE (MCallA (AttrA (Name_ mm0 mm0 (getAA mm1 mm0 (by intro ζ; exact ⟨Bool.and_eq_true_iff.mpr ⟨by k_is, by k_is⟩, by k_is, by k_is⟩) hand_r ?_))))
  refine methLA mm2 (CallBA (ArgsCons_ (xT (evs1 (evN hE mm0 mm1) (evs1 (evN hE mm0 mm2) (evs1 (evN hE mm0 mm3) evs0))) (by rfl) (by rfl) ?_)))
  intro ζ
  refine ArgsNil_ (appendLA up3 (n_tr ‹_› (by decide)) ?_)
  refine Nil_ ?_
  rotate_left
  exact ⟨_, by exact (pC rm2 (pC rm2 (pC rm0 (pS Pick.refl)))), h _ _⟩
theorem k_wb_count {x r : Addr} {w : Int} {xs : List AV} (hv : VRs [] vs) (hx : xs.length ≤ 1000) (h : K (.int xs.length) (batE x r w :: (r, .list xs) :: R)) (hn : 1 ≤ n := by fail "mx nn") :
    Cc G n (batE x r w :: (r, .list xs) :: R) (.ref 425) ([.ref x] ++ vs) K := by
  refine f_425 (by fail "mx nn") (by exact (VRs.cons (VR_ref _) ‹_›)) rfl (fun p hE => ?_)
  refine sRet (evCB hE (evs1 (evA (evN hE mm0 mm0) mm1 mm0 hand_r) evs0) (fLenL mm2 (n_tr ‹_› (by decide)))) ?_
  rotate_left
  exact ⟨_, by exact (pC rm1 (pC rm1 (pS Pick.refl))), h⟩
theorem k_wb_ops {x r : Addr} {w : Int} {xs : List AV} (hv : VRs [] vs) (hx : xs.length ≤ 1000) (h : ∀ p, K (.con (.ref p)) ((p, .list xs) :: batE x r w :: (r, .list xs) :: R)) (hn : 1 ≤ n := by fail "mx nn") :
    Cc G n (batE x r w :: (r, .list xs) :: R) (.ref 446) ([.ref x] ++ vs) K := by
  refine f_446 (by fail "mx nn") (by exact (VRs.cons (VR_ref _) ‹_›)) rfl (fun p hE => ?_)
  refine sRetC (cT hE (evs1 (evA (evN hE mm0 mm0) mm1 mm0 hand_r) evs0) (copyLA mm2 (n_tr ‹_› (by decide)) ?_))
  intro ζ
  refine kR_ ?_
  rotate_left
  exact ⟨_, by exact (pC rm0 (pC rm1 (pC rm1 (pS Pick.refl)))), h _⟩
end
end
section
section
variable {G : Gr} {n : Nat} {R : Led} {vs : List Value} {K : AV → Led → Prop}
theorem k_wb_put {x r : Addr} {w : Int} {xs : List AV} {key val : List UInt8} (hv : VRs [.bytes key, .bytes val] vs) (hk : key.length < 128) (hl : val.length < 128) (hx : xs.length ≤ 1000)
    (h : ∀ t w', K .none (batE x r w' :: (r, .list (xs ++ [.con (.ref t)])) :: rowE t 1 key val :: R)) (hn : 3 ≤ n := by fail "mx nn") :
    Cc G n (batE x r w :: (r, .list xs) :: R) (.ref 397) ([.ref x] ++ vs) K := by
  refine f_397 (by fail "mx nn") (by exact (VRs.cons (VR_ref _) ‹_›)) rfl (fun p hE => ?_)
  refine sX hE (cM (evN hE mm0 mm0) (gM mm1 rfl) (evs1 (evGI hE) (evs1 (evCT hE (evs1 (evN hE mm0 mm1) evs0) fByB) (evs1 (evCT hE (evs1 (evN hE mm0 mm2) evs0) fByB) evs0))) (ofCa (fun ζ => Cc.pick (pC rm1 (pk rm1)) (k_take_op_1 ‹_› ‹_› ‹_› ‹_› ?_))))
  intro ζ ζ
  refine Nil_ ?_
  rotate_left
  exact ⟨_, by exact (pC rm0 (pC rm0 (pC rm0 (pS Pick.refl)))), h _ _⟩
theorem k_wb_delete {x r : Addr} {w : Int} {xs : List AV} {key : List UInt8} (hv : VRs [.bytes key] vs) (hk : key.length < 128) (hx : xs.length ≤ 1000)
    (h : ∀ t w', K .none (batE x r w' :: (r, .list (xs ++ [.con (.ref t)])) :: rowE t 0 key [] :: R)) (hn : 3 ≤ n := by fail "mx nn") :
    Cc G n (batE x r w :: (r, .list xs) :: R) (.ref 404) ([.ref x] ++ vs) K := by
  refine f_404 (by fail "mx nn") (by exact (VRs.cons (VR_ref _) ‹_›)) rfl (fun p hE => ?_)
  refine sX hE (cM (evN hE mm0 mm0) (gM mm1 rfl) (evs1 (evGI hE) (evs1 (evCT hE (evs1 (evN hE mm0 mm1) evs0) fByB) (evs1 evB evs0))) (ofCa (fun ζ => Cc.pick (pC rm1 (pk rm1)) (k_take_op_0 ‹_› ‹_› nle ‹_› ?_))))
  intro ζ ζ
  refine Nil_ ?_
  rotate_left
  exact ⟨_, by exact (pC rm0 (pC rm0 (pC rm0 (pS Pick.refl)))), h _ _⟩
end
end
section
section
variable {G : Gr} {n : Nat} {R : Led} {vs : List Value} {K : AV → Led → Prop}
theorem k_put_varint_300 (hv : VRs [.int 300] vs) (h : K (.bytes [172, 2]) R) (hn : 2 ≤ n := by fail "mx nn") : Cc G n R (.ref 151) ([] ++ vs) K := by
  refine f_151 (by fail "mx nn") ‹_› rfl (fun p hE => ?_)
  refine sIf (tvL (andT (tvC (evN hE mm0 mm0) evI cGe) (by decide) (andF (tvC (evN hE mm0 mm0) evI cLt) (by decide)))) ?_
  refine kF rfl App.nil (sRetC (cF hE (evs1 (evN hE mm0 mm0) (evs1 (evGI hE) evs0)) (ofCa (fun ζ => k_write_groups_300 ‹_› (i_cl (by decide)) ?_))))
  refine kR_ ?_
  rotate_left
  exact ⟨_, by exact (pS Pick.refl), h⟩
noncomputable abbrev sinkE (x b : Addr) : Addr × AObj := (x, .inst 372 [("parts", .con (.ref b))])
theorem k_Sink (hv : VRs [] vs) (h : ∀ x b, K (.con (.ref x)) (sinkE x b :: (b, .barr []) :: R)) (hn : 2 ≤ n := by fail "mx nn") : Cc G n R (.ref 372) ([] ++ vs) K := by
  refine Make' (by lia) (by intro ζ; k_is) (by intro ζ; k_is) (by intro ζ; k_is) ?_
  intro x
  refine f_313 (by fail "mx nn") (by exact (VRs.cons (VR_ref _) ‹_›)) rfl (fun p hE => ?_)
  refine sSetC (cT hE evs0 (makeBaA fun ζ => Name_ mm1 mm0 (setNewA mm2 Snoc.nil up2 (by rfl) (by exact Nat.le_of_ble_eq_true rfl) (by intro ζ; exact ⟨by k_is, by k_is, by k_is, by k_is⟩) ?_)))
  refine Nil_ ?_
  rotate_left
  exact ⟨_, by exact (pC rm2 (pC rm0 (pS Pick.refl))), rfl, h _ _⟩
theorem k_si_varint_1 {x b : Addr} {bs : List UInt8} {k : Int} (hv : VRs [.int k] vs) (h0 : 0 ≤ k) (h1 : k < 128) (hb : bs.length ≤ 10000) (h : K .none (sinkE x b :: (b, .barr (bs ++ [k.toNat.toUInt8])) :: R)) (hn : 1 ≤ n := by fail "mx nn") :
    Cc G n (sinkE x b :: (b, .barr bs) :: R) (.ref 320) ([.ref x] ++ vs) K := by
  refine f_320 (by fail "mx nn") (by exact (VRs.cons (VR_ref _) ‹_›)) rfl (fun p hE => ?_)
  refine sIf (tvL (andT (tvC (evN hE mm0 mm1) evI cGe) (decT ‹_›) (andT (tvC (evN hE mm0 mm1) evI cLt) (decT ‹_›) and0))) ?_
  refine kT rfl (App.cons App.nil) (sX hE (cMB (evA (evN hE mm0 mm0) mm1 mm0 hand_r) (gBa mm2) (evs1 (evN hE mm0 mm1) evs0) (appendBaA up2 ‹_› (i_lt ‹_› (by decide)) (n_tr ‹_› (by decide)) ?_)))
  refine Nil_ ?_
  rotate_left
  exact ⟨_, by exact (pC rm1 (pC rm1 (pS Pick.refl))), h⟩
theorem k_si_octet {x b : Addr} {bs : List UInt8} {k : Int} (hv : VRs [.int k] vs) (h0 : 0 ≤ k) (h1 : k < 256) (hb : bs.length ≤ 10000) (h : K .none (sinkE x b :: (b, .barr (bs ++ [k.toNat.toUInt8])) :: R)) (hn : 1 ≤ n := by fail "mx nn") :
    Cc G n (sinkE x b :: (b, .barr bs) :: R) (.ref 348) ([.ref x] ++ vs) K := by
  refine f_348 (by fail "mx nn") (by exact (VRs.cons (VR_ref _) ‹_›)) rfl (fun p hE => ?_)
  refine sIf (tvL (orF (tvC (evN hE mm0 mm1) evI cLt) (decF (i_nlt ‹_›)) (orF (tvC (evN hE mm0 mm1) evI cGt) (decF (i_nlt (by lia))) or0))) ?_
  refine kF rfl App.nil (sX hE (cMB (evA (evN hE mm0 mm0) mm1 mm0 hand_r) (gBa mm2) (evs1 (evN hE mm0 mm1) evs0) (appendBaA up2 ‹_› ‹_› (n_tr ‹_› (by decide)) ?_)))
  refine Nil_ ?_
  rotate_left
  exact ⟨_, by exact (pC rm1 (pC rm1 (pS Pick.refl))), h⟩
theorem k_si_flag_t {x b : Addr} {bs : List UInt8} (hv : VRs [.bool true] vs) (hb : bs.length ≤ 10000) (h : K .none (sinkE x b :: (b, .barr (bs ++ [fb true])) :: R)) (hn : 1 ≤ n := by fail "mx nn") :
    Cc G n (sinkE x b :: (b, .barr bs) :: R) (.ref 355) ([.ref x] ++ vs) K := by
  refine f_355 (by fail "mx nn") (by exact (VRs.cons (VR_ref _) ‹_›)) rfl (fun p hE => ?_)
  refine sIf (tvV (evN hE mm0 mm1) rfl) (kT rfl (App.cons App.nil) (sX hE (cMB (evA (evN hE mm0 mm0) mm1 mm0 hand_r) (gBa mm2) (evs1 evI evs0) (appendBaA up2 (i_cl (by decide)) (i_cl' (by decide)) (n_tr ‹_› (by decide)) ?_))))
  refine Nil_ ?_
  rotate_left
  exact ⟨_, by exact (pC rm1 (pC rm1 (pS Pick.refl))), h⟩
theorem k_si_flag_f {x b : Addr} {bs : List UInt8} (hv : VRs [.bool false] vs) (hb : bs.length ≤ 10000) (h : K .none (sinkE x b :: (b, .barr (bs ++ [fb false])) :: R)) (hn : 1 ≤ n := by fail "mx nn") :
    Cc G n (sinkE x b :: (b, .barr bs) :: R) (.ref 355) ([.ref x] ++ vs) K := by
  refine f_355 (by fail "mx nn") (by exact (VRs.cons (VR_ref _) ‹_›)) rfl (fun p hE => ?_)
  refine sIf (tvV (evN hE mm0 mm1) rfl) (kF rfl (App.cons App.nil) (sX hE (cMB (evA (evN hE mm0 mm0) mm1 mm0 hand_r) (gBa mm2) (evs1 evI evs0) (appendBaA up2 (i_cl (by decide)) (i_cl' (by decide)) (n_tr ‹_› (by decide)) ?_))))
  refine Nil_ ?_
  rotate_left
  exact ⟨_, by exact (pC rm1 (pC rm1 (pS Pick.refl))), h⟩
theorem k_si_flag {x b : Addr} {bs : List UInt8} {k : Bool} (hv : VRs [.bool k] vs) (hb : bs.length ≤ 10000) (h : K .none (sinkE x b :: (b, .barr (bs ++ [fb k])) :: R)) (hn : 1 ≤ n := by fail "mx nn") :
    Cc G n (sinkE x b :: (b, .barr bs) :: R) (.ref 355) ([.ref x] ++ vs) K := by
  cases k
  · exact k_si_flag_f hv hb h
  · exact k_si_flag_t hv hb h
theorem k_si_lengthed {x b : Addr} {bs c : List UInt8} (hv : VRs [.bytes c] vs) (hc : c.length < 128) (hb : bs.length ≤ 10000) (h : K .none (sinkE x b :: (b, .barr (bs ++ [c.length.toUInt8] ++ c)) :: R)) (hn : 2 ≤ n := by fail "mx nn") :
    Cc G n (sinkE x b :: (b, .barr bs) :: R) (.ref 341) ([.ref x] ++ vs) K := by
  refine f_341 (by fail "mx nn") (by exact (VRs.cons (VR_ref _) ‹_›)) rfl (fun p hE => ?_)
  refine sX hE (MCallA (AttrA (Name_ mm0 mm0 (getAA mm1 mm0 (by intro ζ; exact ⟨Bool.and_eq_true_iff.mpr ⟨by k_is, by k_is⟩, by k_is, by k_is⟩) hand_r ?_))))
  refine methBaA ba_slot_extend (by first | rfl | kernel_rfl) mm2 ?_
  refine CallBA (ArgsCons_ (cF hE (evs1 (evCB hE (evs1 (evN hE mm0 mm1) evs0) (fLenB (by lia))) evs0) ?_))
  refine ofCa (fun ζ => k_put_varint32_1 ‹_› c_nn (c_lt ‹_› (by decide)) ?_)
  refine ArgsNil_ (extendBaA up2 (by simp only [lens, false_implies, implies_true, and_true]; first | done | lia) ?_)
  refine sX hE (cMB (evA (evN hE mm0 mm0) mm1 mm0 hand_r) (gBe mm2) (evs1 (evN hE mm0 mm1) evs0) (extendBaA up2 (by simp only [lens, false_implies, implies_true, and_true]; first | done | lia) ?_))
  refine Nil_ ?_
  rotate_left
  exact ⟨_, by exact (pC rm1 (pC rm1 (pS Pick.refl))), h⟩
theorem k_si_done {x b : Addr} {bs : List UInt8} (hv : VRs [] vs) (hb : bs.length ≤ 10000) (h : K (.bytes bs) (sinkE x b :: (b, .barr bs) :: R)) (hn : 1 ≤ n := by fail "mx nn") :
    Cc G n (sinkE x b :: (b, .barr bs) :: R) (.ref 369) ([.ref x] ++ vs) K := by
  refine f_369 (by fail "mx nn") (by exact (VRs.cons (VR_ref _) ‹_›)) rfl (fun p hE => ?_)
  refine sRet (evCT hE (evs1 (evA (evN hE mm0 mm0) mm1 mm0 hand_r) evs0) (fByA mm2 (n_tr ‹_› (by decide)))) ?_
  rotate_left
  exact ⟨_, by exact (pC rm1 (pC rm1 (pS Pick.refl))), h⟩
end
end
section
section
variable {G : Gr} {n : Nat} {R : Led} {vs : List Value} {K : AV → Led → Prop}
theorem k_put_maybe_n {x b : Addr} {bs : List UInt8} (hv : VRs [.con (.ref x), .none] vs) (hb : bs.length ≤ 9000) (h : K .none (sinkE x b :: (b, .barr (bs ++ mb none)) :: R)) (hn : 3 ≤ n := by fail "mx nn") :
    Cc G n (sinkE x b :: (b, .barr bs) :: R) (.ref 635) ([] ++ vs) K := by
  refine f_635 (by fail "mx nn") ‹_› rfl (fun p hE => ?_)
  refine sX hE (cM (evN hE mm0 mm0) (gM mm1 rfl) (evs1 (evCmp (evN hE mm0 mm1) evZ cNtN) evs0) (ofCa (fun ζ => Cc.pick (pC rm1 (pk rm1)) (k_si_flag ‹_› (n_tr ‹_› (by decide)) ?_))))
  refine sIf (tvC (evN hE mm2 mm1) evZ cNtN) (kF rfl App.nil (Nil_ ?_))
  rotate_left
  exact ⟨_, by exact (pC rm0 (pC Rem.head (pS Pick.refl))), h⟩
theorem k_put_maybe_s {x b : Addr} {bs o : List UInt8} (hv : VRs [.con (.ref x), opt (some o)] vs) (ho : o.length < 128) (hb : bs.length ≤ 9000) (h : K .none (sinkE x b :: (b, .barr (bs ++ mb (some o))) :: R)) (hn : 3 ≤ n := by fail "mx nn") :
    Cc G n (sinkE x b :: (b, .barr bs) :: R) (.ref 635) ([] ++ vs) K := by
  have e : bs ++ mb (some o) = bs ++ [fb true] ++ [o.length.toUInt8] ++ o := by simp [mb]
  rw [e] at h
  refine f_635 (by fail "mx nn") ‹_› rfl (fun p hE => ?_)
  refine sX hE (cM (evN hE mm0 mm0) (gM mm1 rfl) (evs1 (evCmp (evN hE mm0 mm1) evZ cNtB) evs0) (ofCa (fun ζ => Cc.pick (pC rm1 (pk rm1)) (k_si_flag ‹_› (n_tr ‹_› (by decide)) ?_))))
  refine sIf (tvC (evN hE mm2 mm1) evZ cNtB) (kT rfl (App.cons App.nil) (sX hE (cM (evN hE mm2 mm0) (gM mm0 rfl) (evs1 (evN hE mm2 mm1) evs0) (ofCa (fun ζ => Cc.pick Pick.refl (k_si_lengthed ‹_› ‹_› (by simp only [lens, false_implies, implies_true, and_true]; first | done | lia) ?_))))))
  refine Nil_ ?_
  rotate_left
  exact ⟨_, by exact (pC rm0 (pC rm0 (pS Pick.refl))), h⟩
theorem k_put_maybe {x b : Addr} {bs : List UInt8} {o : Option (List UInt8)} (hv : VRs [.con (.ref x), opt o] vs) (ho : ∀ c, o = some c → c.length < 128) (hb : bs.length ≤ 9000) (h : K .none (sinkE x b :: (b, .barr (bs ++ mb o)) :: R)) (hn : 3 ≤ n := by fail "mx nn") :
    Cc G n (sinkE x b :: (b, .barr bs) :: R) (.ref 635) ([] ++ vs) K := by
  cases o with
  | none => exact k_put_maybe_n hv hb h
  | some o => exact k_put_maybe_s hv (ho _ rfl) hb h
theorem k_data_key {k : List UInt8} (hv : VRs [.bytes k] vs) (hk : k.length ≤ 1000) (h : K (.bytes (100 :: k)) R) (hn : 1 ≤ n := by fail "mx nn") : Cc G n R (.ref 663) ([] ++ vs) K := by
  refine f_663 (by fail "mx nn") ‹_› rfl (fun p hE => ?_)
  refine sRet (evO (evGB hE) (evN hE mm0 mm0) (oCat (by simp only [lens, false_implies, implies_true, and_true]; first | done | lia))) ?_
  rotate_left
  exact ⟨_, by exact (pS Pick.refl), h⟩
end
end
section
section
variable {G : Gr} {n : Nat} {R : Led} {vs : List Value} {K : AV → Led → Prop}
theorem k_make_reply_n {c : Int} (hv : VRs [.int c, .none] vs) (h0 : 0 ≤ c) (h1 : c < 256) (h : K (.bytes (rep c none)) R) (hn : 4 ≤ n := by fail "mx nn") :
    Cc G n R (.ref 656) ([] ++ vs) K := by
  refine f_656 (by fail "mx nn") ‹_› rfl (fun p hE => ?_)
  refine sAsgC (cF hE evs0 (ofCa (fun ζ => k_Sink ‹_› ?_)))
  intro ζ ζ
  refine sSt hE up2 rp2 (sX hE (cM (evN hE mm2 mm2) (gM mm0 rfl) (evs1 (evN hE mm2 mm0) evs0) (ofCa (fun ζ => Cc.pick Pick.refl (k_si_octet ‹_› ‹_› ‹_› nle ?_)))))
  refine sX hE (cF hE (evs1 (evN hE mm2 mm2) (evs1 (evN hE mm2 mm1) evs0)) (ofCa (fun ζ => Cc.pick Pick.refl (k_put_maybe_n ‹_› nle ?_))))
  refine sRetC (cM (evN hE mm2 mm2) (gM mm0 rfl) evs0 (ofCa (fun ζ => Cc.pick Pick.refl (k_si_done ‹_› nle ?_))))
  refine kR_ ?_
  rotate_left
  exact ⟨_, by exact (pS (pS (pS Pick.refl))), h⟩
theorem k_make_reply_s {c : Int} {o : List UInt8} (hv : VRs [.int c, opt (some o)] vs) (h0 : 0 ≤ c) (h1 : c < 256) (ho : o.length < 128) (h : K (.bytes (rep c (some o))) R) (hn : 4 ≤ n := by fail "mx nn") :
    Cc G n R (.ref 656) ([] ++ vs) K := by
  refine f_656 (by fail "mx nn") ‹_› rfl (fun p hE => ?_)
  refine sAsgC (cF hE evs0 (ofCa (fun ζ => k_Sink ‹_› ?_)))
  intro ζ ζ
  refine sSt hE up2 rp2 (sX hE (cM (evN hE mm2 mm2) (gM mm0 rfl) (evs1 (evN hE mm2 mm0) evs0) (ofCa (fun ζ => Cc.pick Pick.refl (k_si_octet ‹_› ‹_› ‹_› nle ?_)))))
  refine sX hE (cF hE (evs1 (evN hE mm2 mm2) (evs1 (evN hE mm2 mm1) evs0)) (ofCa (fun ζ => Cc.pick Pick.refl (k_put_maybe ‹_› (by intro ζ e; cases e; assumption) nle ?_))))
  refine sRetC (cM (evN hE mm2 mm2) (gM mm0 rfl) evs0 (ofCa (fun ζ => Cc.pick Pick.refl (k_si_done ‹_› (by simp only [lens, false_implies, implies_true, and_true]; first | done | lia) ?_))))
  refine kR_ ?_
  rotate_left
  exact ⟨_, by exact (pS (pS (pS Pick.refl))), h⟩
theorem k_make_reply {c : Int} {o : Option (List UInt8)} (hv : VRs [.int c, opt o] vs) (h0 : 0 ≤ c) (h1 : c < 256) (ho : ∀ c, o = some c → c.length < 128) (h : K (.bytes (rep c o)) R) (hn : 4 ≤ n := by fail "mx nn") :
    Cc G n R (.ref 656) ([] ++ vs) K := by
  cases o with
  | none => exact k_make_reply_n hv h0 h1 h
  | some o => exact k_make_reply_s hv h0 h1 (ho _ rfl) h
theorem k_encode_session {l : Int} {op : Bool} {r : List UInt8} (hv : VRs [.int l, .bool op, .bytes r] vs) (h0 : 0 ≤ l) (h1 : l < 128) (hr : r.length < 128) (h : K (.bytes (ses l op r)) R) (hn : 4 ≤ n := by fail "mx nn") :
    Cc G n R (.ref 684) ([] ++ vs) K := by
  refine f_684 (by fail "mx nn") ‹_› rfl (fun p hE => ?_)
  refine sAsgC (cF hE evs0 (ofCa (fun ζ => k_Sink ‹_› ?_)))
  intro ζ ζ
  refine sSt hE up2 rp3 (sX hE (cM (evN hE mm2 mm3) (gM mm0 rfl) (evs1 (evN hE mm2 mm0) evs0) (ofCa (fun ζ => Cc.pick Pick.refl (k_si_varint_1 ‹_› ‹_› ‹_› nle ?_)))))
  refine sX hE (cM (evN hE mm2 mm3) (gM mm0 rfl) (evs1 (evN hE mm2 mm1) evs0) (ofCa (fun ζ => Cc.pick Pick.refl (k_si_flag ‹_› nle ?_))))
  refine sX hE (cM (evN hE mm2 mm3) (gM mm0 rfl) (evs1 (evN hE mm2 mm2) evs0) (ofCa (fun ζ => Cc.pick Pick.refl (k_si_lengthed ‹_› ‹_› nle ?_))))
  refine sRetC (cM (evN hE mm2 mm3) (gM mm0 rfl) evs0 (ofCa (fun ζ => Cc.pick Pick.refl (k_si_done ‹_› (by simp only [lens, false_implies, implies_true, and_true]; first | done | lia) ?_))))
  refine kR_ ?_
  rotate_left
  exact ⟨_, by exact (pS (pS (pS Pick.refl))), h⟩
theorem k_fixed32_5 (hv : VRs [.int (Builtin.bitAnd 5 4294967295)] vs) (h : K (.bytes [5, 0, 0, 0]) R) (hn : 1 ≤ n := by fail "mx nn") : Cc G n R (.ref 186) ([] ++ vs) K := by
  refine f_186 (by fail "mx nn") ‹_› rfl (fun p hE => ?_)
  refine sIf (tvL (orF (tvC (evN hE mm0 mm0) evI cLt) (by decide) (orF (tvC (evN hE mm0 mm0) (evGI hE) cGt) (by decide) or0))) ?_
  refine kF rfl App.nil (sRetC (CallTNA (by k_is) (by boot_by_name) ?_ (by kernel_rfl)))
  refine ArgsCons_ (xL (evs1 (evO (evN hE mm0 mm0) evI oAnd) (evs1 (evO (evO (evN hE mm0 mm0) evI (oShr (i_cl (by decide)))) evI oAnd) (evs1 (evO (evO (evN hE mm0 mm0) evI (oShr (i_cl (by decide)))) evI oAnd) (evs1 (evO (evN hE mm0 mm0) evI (oShr (i_cl (by decide)))) evs0)))) (by rfl) (by rfl) ?_)
  intro ζ
  refine ArgsNil_ (bytesLA mm0 (IntsOf.cons (IntsOf.cons (IntsOf.cons (IntsOf.cons IntsOf.nil)))) (by decide +kernel) nle ?_)
  refine kR_ ?_
  rotate_left
  exact ⟨_, by exact (pS (pS Pick.refl)), h⟩
theorem k_fixed32_300 (hv : VRs [.int (Builtin.bitAnd 300 4294967295)] vs) (h : K (.bytes [44, 1, 0, 0]) R) (hn : 1 ≤ n := by fail "mx nn") : Cc G n R (.ref 186) ([] ++ vs) K := by
  refine f_186 (by fail "mx nn") ‹_› rfl (fun p hE => ?_)
  refine sIf (tvL (orF (tvC (evN hE mm0 mm0) evI cLt) (by decide) (orF (tvC (evN hE mm0 mm0) (evGI hE) cGt) (by decide) or0))) ?_
  refine kF rfl App.nil (sRetC (CallTNA (by k_is) (by boot_by_name) ?_ (by kernel_rfl)))
  refine ArgsCons_ (xL (evs1 (evO (evN hE mm0 mm0) evI oAnd) (evs1 (evO (evO (evN hE mm0 mm0) evI (oShr (i_cl (by decide)))) evI oAnd) (evs1 (evO (evO (evN hE mm0 mm0) evI (oShr (i_cl (by decide)))) evI oAnd) (evs1 (evO (evN hE mm0 mm0) evI (oShr (i_cl (by decide)))) evs0)))) (by rfl) (by rfl) ?_)
  intro ζ
  refine ArgsNil_ (bytesLA mm0 (IntsOf.cons (IntsOf.cons (IntsOf.cons (IntsOf.cons IntsOf.nil)))) (by decide +kernel) nle ?_)
  refine kR_ ?_
  rotate_left
  exact ⟨_, by exact (pS (pS Pick.refl)), h⟩
theorem k_fixed32_z {c : Int} (hc : c = 5 ∨ c = 300) (hv : VRs [.int (c.fdiv (2 ^ (32 : Int).toNat))] vs) (h : K (.bytes [0, 0, 0, 0]) R) (hn : 1 ≤ n := by fail "mx nn") : Cc G n R (.ref 186) ([] ++ vs) K := by
  have e : c.fdiv (2 ^ (32 : Int).toNat) = 0 := by rcases hc with rfl | rfl <;> decide
  rw [e] at hv
  refine f_186 (by fail "mx nn") ‹_› rfl (fun p hE => ?_)
  refine sIf (tvL (orF (tvC (evN hE mm0 mm0) evI cLt) (by decide) (orF (tvC (evN hE mm0 mm0) (evGI hE) cGt) (by decide) or0))) ?_
  refine kF rfl App.nil (sRetC (CallTNA (by k_is) (by boot_by_name) ?_ (by kernel_rfl)))
  refine ArgsCons_ (xL (evs1 (evO (evN hE mm0 mm0) evI oAnd) (evs1 (evO (evO (evN hE mm0 mm0) evI (oShr (i_cl (by decide)))) evI oAnd) (evs1 (evO (evO (evN hE mm0 mm0) evI (oShr (i_cl (by decide)))) evI oAnd) (evs1 (evO (evN hE mm0 mm0) evI (oShr (i_cl (by decide)))) evs0)))) (by rfl) (by rfl) ?_)
  intro ζ
  refine ArgsNil_ (bytesLA mm0 (IntsOf.cons (IntsOf.cons (IntsOf.cons (IntsOf.cons IntsOf.nil)))) (by decide +kernel) nle ?_)
  refine kR_ ?_
  rotate_left
  exact ⟨_, by exact (pS (pS Pick.refl)), h⟩
end
end
section
noncomputable abbrev macE (m s : Addr) (a t d : Int) : Addr × AObj := (m, .inst 806 [("store", .con (.ref s)), ("applied", .int a), ("term", .int t), ("conf_octets", .bytes []), ("durable", .int d), ("sync_each", .bool false)])
section
variable {G : Gr} {n : Nat} {R : Led} {vs : List Value} {K : AV → Led → Prop}
theorem k_Machine {s : Addr} (hv : VRs [.con (.ref s)] vs) (h : ∀ m, K (.con (.ref m)) (macE m s 0 0 0 :: R)) (hn : 2 ≤ n := by fail "mx nn") : Cc G n R (.ref 806) ([] ++ vs) K := by
  refine Make' (by lia) (by intro ζ; k_is) (by intro ζ; k_is) (by intro ζ; k_is) ?_
  intro x
  refine f_705 (by fail "mx nn") (by exact (VRs.cons (VR_ref _) ‹_›)) rfl (fun p hE => ?_)
  refine sNew (evN hE mm0 mm1) (evN hE mm0 mm0) mm1 Snoc.nil up1 (by rfl) (by exact Nat.le_of_ble_eq_true rfl) (by intro ζ; exact ⟨by k_is, by k_is, by k_is, by k_is⟩) ?_
  refine sNew evI (evN hE mm0 mm0) mm1 (Snoc.cons Snoc.nil) up1 (by rfl) (by exact Nat.le_of_ble_eq_true rfl) (by intro ζ; exact ⟨by k_is, by k_is, by k_is, by k_is⟩) ?_
  refine sNew evI (evN hE mm0 mm0) mm1 (Snoc.cons (Snoc.cons Snoc.nil)) up1 (by rfl) (by exact Nat.le_of_ble_eq_true rfl) (by intro ζ; exact ⟨by k_is, by k_is, by k_is, by k_is⟩) ?_
  refine sNew evB (evN hE mm0 mm0) mm1 (Snoc.cons (Snoc.cons (Snoc.cons Snoc.nil))) up1 (by rfl) (by exact Nat.le_of_ble_eq_true rfl) (by intro ζ; exact ⟨by k_is, by k_is, by k_is, by k_is⟩) ?_
  refine sNew evI (evN hE mm0 mm0) mm1 (Snoc.cons (Snoc.cons (Snoc.cons (Snoc.cons Snoc.nil)))) up1 (by rfl) (by exact Nat.le_of_ble_eq_true rfl) (by intro ζ; exact ⟨by k_is, by k_is, by k_is, by k_is⟩) ?_
  refine sNew evT (evN hE mm0 mm0) mm1 (Snoc.cons (Snoc.cons (Snoc.cons (Snoc.cons (Snoc.cons Snoc.nil))))) up1 (by rfl) (by exact Nat.le_of_ble_eq_true rfl) (by intro ζ; exact ⟨by k_is, by k_is, by k_is, by k_is⟩) ?_
  refine Nil_ ?_
  rotate_left
  exact ⟨_, by exact (pC rm1 (pS Pick.refl)), rfl, h _⟩
noncomputable def app (i t : Int) : List UInt8 := [i.toNat.toUInt8] ++ [t.toNat.toUInt8] ++ [(([] : List UInt8).length : Nat).toUInt8] ++ []
theorem k_puta {m s bx r : Addr} {a t d w i u : Int} {xs : List AV} (hv : VRs [.con (.ref bx), .int i, .int u, .bytes []] vs) (hi0 : 0 ≤ i) (hi1 : i < 128) (hu0 : 0 ≤ u) (hu1 : u < 128) (hx : xs.length ≤ 1000)
    (h : ∀ t' w', K .none (macE m s a t d :: batE bx r w' :: (r, .list (xs ++ [.con (.ref t')])) :: rowE t' 1 [97] (app i u) :: R)) (hn : 4 ≤ n := by fail "mx nn") :
    Cc G n (macE m s a t d :: batE bx r w :: (r, .list xs) :: R) (.ref 726) ([.ref m] ++ vs) K := by
  have e : (app i u).length = 3 := rfl
  refine f_726 (by fail "mx nn") (by exact (VRs.cons (VR_ref _) ‹_›)) rfl (fun p hE => ?_)
  refine sAsgC (cF hE evs0 (ofCa (fun ζ => k_Sink ‹_› ?_)))
  intro ζ ζ
  refine sSt hE up2 rp5 (sX hE (cM (evN hE mm2 mm5) (gM mm0 rfl) (evs1 (evN hE mm2 mm2) evs0) (ofCa (fun ζ => Cc.pick Pick.refl (k_si_varint_1 ‹_› ‹_› ‹_› nle ?_)))))
  refine sX hE (cM (evN hE mm2 mm5) (gM mm0 rfl) (evs1 (evN hE mm2 mm3) evs0) (ofCa (fun ζ => Cc.pick Pick.refl (k_si_varint_1 ‹_› ‹_› ‹_› nle ?_))))
  refine sX hE (cM (evN hE mm2 mm5) (gM mm0 rfl) (evs1 (evN hE mm2 mm4) evs0) (ofCa (fun ζ => Cc.pick Pick.refl (k_si_lengthed ‹_› nle nle ?_))))
  refine sX hE (MCallA (Name_ mm2 mm1 (methIA mm4 (by rfl) (by intro ζ; exact ⟨by k_is, by k_is, by k_is⟩) ?_)))
  refine CallWA (by intro ζ; k_is) ?_
  refine ArgsCons_ (GBytes_ ⟨_, by k_is⟩ ?_ (by kernel_rfl))
  refine ArgsCons_ (cM (evN hE mm2 mm5) (gM mm0 rfl) evs0 (ofCa (fun ζ => Cc.pick Pick.refl (k_si_done ‹_› nle ?_))))
  refine ArgsNil_ (ofCa (fun ζ => Cc.pick (pC rm4 (pk rm4)) (k_wb_put ‹_› nle nle ‹_› ?_)))
  intro ζ ζ
  refine Nil_ ?_
  rotate_left
  exact ⟨_, by exact (pC rm6 (pC rm0 (pC rm0 (pC Rem.head (pS (pS (pS Pick.refl))))))), h _ _⟩
end
end
section
section
variable {G : Gr} {n : Nat} {R : Led} {vs : List Value} {K : AV → Led → Prop}
theorem k_fixed64_5 (hv : VRs [.int 5] vs) (h : K (.bytes [5, 0, 0, 0, 0, 0, 0, 0]) R) (hn : 2 ≤ n := by fail "mx nn") : Cc G n R (.ref 193) ([] ++ vs) K := by
  refine f_193 (by fail "mx nn") ‹_› rfl (fun p hE => ?_)
  refine sIf (tvL (orF (tvC (evN hE mm0 mm0) evI cLt) (by decide) (orF (tvC (evN hE mm0 mm0) (evGI hE) cGt) (by decide) or0))) ?_
  refine kF rfl App.nil (sRetC (BinOpA (cF hE (evs1 (evO (evN hE mm0 mm0) (evGI hE) oAnd) evs0) (ofCa (fun ζ => k_fixed32_5 ‹_› ?_)))))
  refine cF hE (evs1 (evO (evN hE mm0 mm0) evI (oShr (i_cl (by decide)))) evs0) ?_
  refine ofCa (fun ζ => k_fixed32_z (c := 5) (.inl rfl) ‹_› ?_)
  refine addBA nle (kR_ ?_)
  rotate_left
  exact ⟨_, by exact (pS Pick.refl), h⟩
theorem k_fixed64_300 (hv : VRs [.int 300] vs) (h : K (.bytes [44, 1, 0, 0, 0, 0, 0, 0]) R) (hn : 2 ≤ n := by fail "mx nn") : Cc G n R (.ref 193) ([] ++ vs) K := by
  refine f_193 (by fail "mx nn") ‹_› rfl (fun p hE => ?_)
  refine sIf (tvL (orF (tvC (evN hE mm0 mm0) evI cLt) (by decide) (orF (tvC (evN hE mm0 mm0) (evGI hE) cGt) (by decide) or0))) ?_
  refine kF rfl App.nil (sRetC (BinOpA (cF hE (evs1 (evO (evN hE mm0 mm0) (evGI hE) oAnd) evs0) (ofCa (fun ζ => k_fixed32_300 ‹_› ?_)))))
  refine cF hE (evs1 (evO (evN hE mm0 mm0) evI (oShr (i_cl (by decide)))) evs0) ?_
  refine ofCa (fun ζ => k_fixed32_z (c := 300) (.inr rfl) ‹_› ?_)
  refine addBA nle (kR_ ?_)
  rotate_left
  exact ⟨_, by exact (pS Pick.refl), h⟩
end
end
section
section
variable {G : Gr} {n : Nat} {R : Led} {vs : List Value} {K : AV → Led → Prop}
theorem k_session_key_5 (hv : VRs [.int 5] vs) (h : K (.bytes (skey 5)) R) (hn : 3 ≤ n := by fail "mx nn") : Cc G n R (.ref 670) ([] ++ vs) K := by
  refine f_670 (by fail "mx nn") ‹_› rfl (fun p hE => ?_)
  refine sAsgC (cF hE (evs1 (evN hE mm0 mm0) evs0) (ofCa (fun ζ => k_fixed64_5 ‹_› ?_)))
  refine sSt hE up0 rp1 (sRetC (BinOpA (GBytes_ ⟨_, by k_is⟩ ?_ (by kernel_rfl))))
  refine CallTNA (by k_is) (by boot_by_name) ?_ (by kernel_rfl)
  refine ArgsCons_ (xL (evs1 (evS (evN hE mm0 mm1) evI (sB (i_cl (by decide)) rfl nle (fun ζ ζ => rfl))) (evs1 (evS (evN hE mm0 mm1) evI (sB (i_cl (by decide)) rfl nle (fun ζ ζ => rfl))) (evs1 (evS (evN hE mm0 mm1) evI (sB (i_cl (by decide)) rfl nle (fun ζ ζ => rfl))) (evs1 (evS (evN hE mm0 mm1) evI (sB (i_cl (by decide)) rfl nle (fun ζ ζ => rfl))) (evs1 (evS (evN hE mm0 mm1) evI (sB (i_cl (by decide)) rfl nle (fun ζ ζ => rfl))) (evs1 (evS (evN hE mm0 mm1) evI (sB (i_cl (by decide)) rfl nle (fun ζ ζ => rfl))) (evs1 (evS (evN hE mm0 mm1) evI (sB (i_cl (by decide)) rfl nle (fun ζ ζ => rfl))) (evs1 (evS (evN hE mm0 mm1) evI (sB (i_cl (by decide)) rfl nle (fun ζ ζ => rfl))) evs0)))))))) (by rfl) (by rfl) ?_)
  intro ζ
  refine ArgsNil_ (bytesLA mm0 (IntsOf.cons (IntsOf.cons (IntsOf.cons (IntsOf.cons (IntsOf.cons (IntsOf.cons (IntsOf.cons (IntsOf.cons IntsOf.nil)))))))) (by decide +kernel) nle ?_)
  refine addBA nle (kR_ ?_)
  rotate_left
  exact ⟨_, by exact (pS (pS Pick.refl)), h⟩
theorem k_session_key_300 (hv : VRs [.int 300] vs) (h : K (.bytes (skey 300)) R) (hn : 3 ≤ n := by fail "mx nn") : Cc G n R (.ref 670) ([] ++ vs) K := by
  refine f_670 (by fail "mx nn") ‹_› rfl (fun p hE => ?_)
  refine sAsgC (cF hE (evs1 (evN hE mm0 mm0) evs0) (ofCa (fun ζ => k_fixed64_300 ‹_› ?_)))
  refine sSt hE up0 rp1 (sRetC (BinOpA (GBytes_ ⟨_, by k_is⟩ ?_ (by kernel_rfl))))
  refine CallTNA (by k_is) (by boot_by_name) ?_ (by kernel_rfl)
  refine ArgsCons_ (xL (evs1 (evS (evN hE mm0 mm1) evI (sB (i_cl (by decide)) rfl nle (fun ζ ζ => rfl))) (evs1 (evS (evN hE mm0 mm1) evI (sB (i_cl (by decide)) rfl nle (fun ζ ζ => rfl))) (evs1 (evS (evN hE mm0 mm1) evI (sB (i_cl (by decide)) rfl nle (fun ζ ζ => rfl))) (evs1 (evS (evN hE mm0 mm1) evI (sB (i_cl (by decide)) rfl nle (fun ζ ζ => rfl))) (evs1 (evS (evN hE mm0 mm1) evI (sB (i_cl (by decide)) rfl nle (fun ζ ζ => rfl))) (evs1 (evS (evN hE mm0 mm1) evI (sB (i_cl (by decide)) rfl nle (fun ζ ζ => rfl))) (evs1 (evS (evN hE mm0 mm1) evI (sB (i_cl (by decide)) rfl nle (fun ζ ζ => rfl))) (evs1 (evS (evN hE mm0 mm1) evI (sB (i_cl (by decide)) rfl nle (fun ζ ζ => rfl))) evs0)))))))) (by rfl) (by rfl) ?_)
  intro ζ
  refine ArgsNil_ (bytesLA mm0 (IntsOf.cons (IntsOf.cons (IntsOf.cons (IntsOf.cons (IntsOf.cons (IntsOf.cons (IntsOf.cons (IntsOf.cons IntsOf.nil)))))))) (by decide +kernel) nle ?_)
  refine addBA nle (kR_ ?_)
  rotate_left
  exact ⟨_, by exact (pS (pS Pick.refl)), h⟩
theorem k_session_key {c : Int} (hc : c = 5 ∨ c = 300) (hv : VRs [.int c] vs) (h : K (.bytes (skey c)) R) (hn : 3 ≤ n := by fail "mx nn") : Cc G n R (.ref 670) ([] ++ vs) K := by
  rcases hc with rfl | rfl
  · exact k_session_key_5 hv h
  · exact k_session_key_300 hv h
theorem k_client_of_5 (hv : VRs [.bytes (skey 5)] vs) (h : K (.int 5) R) (hn : 1 ≤ n := by fail "mx nn") : Cc G n R (.ref 677) ([] ++ vs) K := by
  refine f_677 (by fail "mx nn") ‹_› rfl (fun p hE => ?_)
  refine sAsg hE evI up0 rp1 (Cons' (For_ (SubSliceA (Name_ mm0 mm0 (EvS_ (cB hE (evs1 (evGB hE) evs0) (lenBA nle (EvN_ (sliceBfA c_nn (i_cl (by decide)) nle rfl ?_)))))))))
  intro ζ ζ
  refine pyIterB_ ‹_› ?_
  intro ζ
  refine FstepB (pk rm0) rfl (TurnN (sSt hE up1 rp2 (sAsg hE (evO (evO (evN hE mm1 mm1) evI (oShl (i_cl (by decide)) (i_cl (by decide)) nle)) (evN hE mm1 mm2) oOr) up1 rp1 ?_)))
  refine C.hide fun ζ ζ => Nil_ (hideOut ‹_› ?_)
  refine onL_n (FstepB (pk rm0) rfl (TurnN (sSt hE up1 rp2 (sAsg hE (evO (evO (evN hE mm1 mm1) evI (oShl (i_cl (by decide)) (i_cl (by decide)) nle)) (evN hE mm1 mm2) oOr) up1 rp1 ?_))))
  refine C.hide fun ζ ζ => Nil_ (hideOut ‹_› ?_)
  refine onL_n (FstepB (pk rm0) rfl (TurnN (sSt hE up1 rp2 (sAsg hE (evO (evO (evN hE mm1 mm1) evI (oShl (i_cl (by decide)) (i_cl (by decide)) nle)) (evN hE mm1 mm2) oOr) up1 rp1 ?_))))
  refine C.hide fun ζ ζ => Nil_ (hideOut ‹_› ?_)
  refine onL_n (FstepB (pk rm0) rfl (TurnN (sSt hE up1 rp2 (sAsg hE (evO (evO (evN hE mm1 mm1) evI (oShl (i_cl (by decide)) (i_cl (by decide)) nle)) (evN hE mm1 mm2) oOr) up1 rp1 ?_))))
  refine C.hide fun ζ ζ => Nil_ (hideOut ‹_› ?_)
  refine onL_n (FstepB (pk rm0) rfl (TurnN (sSt hE up1 rp2 (sAsg hE (evO (evO (evN hE mm1 mm1) evI (oShl (i_cl (by decide)) (i_cl (by decide)) nle)) (evN hE mm1 mm2) oOr) up1 rp1 ?_))))
  refine C.hide fun ζ ζ => Nil_ (hideOut ‹_› ?_)
  refine onL_n (FstepB (pk rm0) rfl (TurnN (sSt hE up1 rp2 (sAsg hE (evO (evO (evN hE mm1 mm1) evI (oShl (i_cl (by decide)) (i_cl (by decide)) nle)) (evN hE mm1 mm2) oOr) up1 rp1 ?_))))
  refine C.hide fun ζ ζ => Nil_ (hideOut ‹_› ?_)
  refine onL_n (FstepB (pk rm0) rfl (TurnN (sSt hE up1 rp2 (sAsg hE (evO (evO (evN hE mm1 mm1) evI (oShl (i_cl (by decide)) (i_cl (by decide)) nle)) (evN hE mm1 mm2) oOr) up1 rp1 ?_))))
  refine C.hide fun ζ ζ => Nil_ (hideOut ‹_› ?_)
  refine onL_n (FstepB (pk rm0) rfl (TurnN (sSt hE up1 rp2 (sAsg hE (evO (evO (evN hE mm1 mm1) evI (oShl (i_cl (by decide)) (i_cl (by decide)) nle)) (evN hE mm1 mm2) oOr) up1 rp1 ?_))))
  refine C.hide fun ζ ζ => Nil_ (hideOut ‹_› ?_)
  refine onL_n (FendB (pk rm0) nle (Nil_ (onN_n (sRet (evN hE mm0 mm1) ?_))))
  rotate_left
  exact ⟨_, by exact (pS Pick.refl), h⟩
theorem k_client_of_300 (hv : VRs [.bytes (skey 300)] vs) (h : K (.int 300) R) (hn : 1 ≤ n := by fail "mx nn") : Cc G n R (.ref 677) ([] ++ vs) K := by
  refine f_677 (by fail "mx nn") ‹_› rfl (fun p hE => ?_)
  refine sAsg hE evI up0 rp1 (Cons' (For_ (SubSliceA (Name_ mm0 mm0 (EvS_ (cB hE (evs1 (evGB hE) evs0) (lenBA nle (EvN_ (sliceBfA c_nn (i_cl (by decide)) nle rfl ?_)))))))))
  intro ζ ζ
  refine pyIterB_ ‹_› ?_
  intro ζ
  refine FstepB (pk rm0) rfl (TurnN (sSt hE up1 rp2 (sAsg hE (evO (evO (evN hE mm1 mm1) evI (oShl (i_cl (by decide)) (i_cl (by decide)) nle)) (evN hE mm1 mm2) oOr) up1 rp1 ?_)))
  refine C.hide fun ζ ζ => Nil_ (hideOut ‹_› ?_)
  refine onL_n (FstepB (pk rm0) rfl (TurnN (sSt hE up1 rp2 (sAsg hE (evO (evO (evN hE mm1 mm1) evI (oShl (i_cl (by decide)) (i_cl (by decide)) nle)) (evN hE mm1 mm2) oOr) up1 rp1 ?_))))
  refine C.hide fun ζ ζ => Nil_ (hideOut ‹_› ?_)
  refine onL_n (FstepB (pk rm0) rfl (TurnN (sSt hE up1 rp2 (sAsg hE (evO (evO (evN hE mm1 mm1) evI (oShl (i_cl (by decide)) (i_cl (by decide)) nle)) (evN hE mm1 mm2) oOr) up1 rp1 ?_))))
  refine C.hide fun ζ ζ => Nil_ (hideOut ‹_› ?_)
  refine onL_n (FstepB (pk rm0) rfl (TurnN (sSt hE up1 rp2 (sAsg hE (evO (evO (evN hE mm1 mm1) evI (oShl (i_cl (by decide)) (i_cl (by decide)) nle)) (evN hE mm1 mm2) oOr) up1 rp1 ?_))))
  refine C.hide fun ζ ζ => Nil_ (hideOut ‹_› ?_)
  refine onL_n (FstepB (pk rm0) rfl (TurnN (sSt hE up1 rp2 (sAsg hE (evO (evO (evN hE mm1 mm1) evI (oShl (i_cl (by decide)) (i_cl (by decide)) nle)) (evN hE mm1 mm2) oOr) up1 rp1 ?_))))
  refine C.hide fun ζ ζ => Nil_ (hideOut ‹_› ?_)
  refine onL_n (FstepB (pk rm0) rfl (TurnN (sSt hE up1 rp2 (sAsg hE (evO (evO (evN hE mm1 mm1) evI (oShl (i_cl (by decide)) (i_cl (by decide)) nle)) (evN hE mm1 mm2) oOr) up1 rp1 ?_))))
  refine C.hide fun ζ ζ => Nil_ (hideOut ‹_› ?_)
  refine onL_n (FstepB (pk rm0) rfl (TurnN (sSt hE up1 rp2 (sAsg hE (evO (evO (evN hE mm1 mm1) evI (oShl (i_cl (by decide)) (i_cl (by decide)) nle)) (evN hE mm1 mm2) oOr) up1 rp1 ?_))))
  refine C.hide fun ζ ζ => Nil_ (hideOut ‹_› ?_)
  refine onL_n (FstepB (pk rm0) rfl (TurnN (sSt hE up1 rp2 (sAsg hE (evO (evO (evN hE mm1 mm1) evI (oShl (i_cl (by decide)) (i_cl (by decide)) nle)) (evN hE mm1 mm2) oOr) up1 rp1 ?_))))
  refine C.hide fun ζ ζ => Nil_ (hideOut ‹_› ?_)
  refine onL_n (FendB (pk rm0) nle (Nil_ (onN_n (sRet (evN hE mm0 mm1) ?_))))
  rotate_left
  exact ⟨_, by exact (pS Pick.refl), h⟩
theorem k_client_of {c : Int} (hc : c = 5 ∨ c = 300) (hv : VRs [.bytes (skey c)] vs) (h : K (.int c) R) (hn : 1 ≤ n := by fail "mx nn") : Cc G n R (.ref 677) ([] ++ vs) K := by
  rcases hc with rfl | rfl
  · exact k_client_of_5 hv h
  · exact k_client_of_300 hv h
end
end
section
noncomputable abbrev curE (x : Addr) (b : List UInt8) (a : Int) : Addr × AObj := (x, .inst 295 [("data", .bytes b), ("at", .int a)])
section
variable {G : Gr} {n : Nat} {R : Led} {vs : List Value} {K : AV → Led → Prop}
theorem k_Cursor {b : List UInt8} (hv : VRs [.bytes b] vs) (hb : b.length ≤ 10000) (h : ∀ x, K (.con (.ref x)) (curE x b 0 :: R)) (hn : 2 ≤ n := by fail "mx nn") : Cc G n R (.ref 295) ([] ++ vs) K := by
  refine Make' (by lia) (by intro ζ; k_is) (by intro ζ; k_is) (by intro ζ; k_is) ?_
  intro x
  refine CallG' (fd := fo_229.1) (names := ["self", "data", "at"]) (rest := []) (as := [.con (.ref x), .bytes b]) (as' := [.con (.ref x), .bytes b, .int 0]) (by lia) (.cons rfl hv) fo_229.2 rfl c_229 ?hb rfl (by kernel_rfl) (by decide +kernel) (by kernel_rfl) (by kernel_rfl) ?_
  case hb =>
    intro s hS
    obtain ⟨v, rfl, t, rfl⟩ := hv.one
    exact ⟨_, binds_K hS.X rfl (by k_is) rfl rfl rfl, .cons rfl (.cons ⟨_, rfl⟩ (.cons ⟨_, rfl⟩ .nil))⟩
  intro p
  dsimp only [kvsOf, List.map, List.zip, List.zipWith, List.append, List.cons_append, List.nil_append]
  refine Cons' (If' (TtBool_ (OrCons' (TtCmpA (Name_ mm0 mm2 (Int_ (ltIA (truthyA (onB_f (by decide) ?_)))))))))
  refine OrCons' (TtCmpA (Name_ mm0 mm2 (CallBNA (by k_is) (by boot_by_name) ?_ (by kernel_rfl))))
  refine ArgsCons_ (Name_ mm0 mm1 (ArgsNil_ (lenBA (n_tr ‹_› (by decide)) ?_)))
  refine gtIA (truthyA (onB_f (decF (i_nlt c_nn)) (OrNil_ (onB_f rfl (Nil_ (onN_n (sSetC (Name_ mm0 mm1 (Name_ mm0 mm0 (setNewA mm1 Snoc.nil up1 (by rfl) (by exact Nat.le_of_ble_eq_true rfl) (by intro ζ; exact ⟨by k_is, by k_is, by k_is, by k_is⟩) ?_))))))))))
  refine sSetC (Name_ mm0 mm2 (Name_ mm0 mm0 (setNewA mm1 (Snoc.cons Snoc.nil) up1 (by rfl) (by exact Nat.le_of_ble_eq_true rfl) (by intro ζ; exact ⟨by k_is, by k_is, by k_is, by k_is⟩) ?_)))
  refine Nil_ ?_
  rotate_left
  exact ⟨_, by exact (pC rm1 (pS Pick.refl)), rfl, h _⟩
theorem k_cu_varint_1 {x : Addr} {b : List UInt8} {a : Int} {c : UInt8} (hv : VRs [] vs) (h0 : 0 ≤ a) (hx : b[a.toNat]? = some c) (hc : c.toNat < 128) (hb : b.length ≤ 10000) (h : K (.int c.toNat) (curE x b (a + 1) :: R)) (hn : 1 ≤ n := by fail "mx nn") :
    Cc G n (curE x b a :: R) (.ref 243) ([.ref x] ++ vs) K := by
  have ha := lt_of_get h0 hx
  refine f_243 (by fail "mx nn") (by exact (VRs.cons (VR_ref _) ‹_›)) rfl (fun p hE => ?_)
  refine sAsg hE (evA (evN hE mm0 mm0) mm1 mm1 hand_i) up0 rp1 (sIf (tvL (andT (tvC (evN hE mm0 mm1) (evCB hE (evs1 (evA (evN hE mm0 mm0) mm1 mm0 hand_b) evs0) (fLenB (n_tr ‹_› (by decide)))) cLt) (decT ‹_›) (andT (tvC (evS (evA (evN hE mm0 mm0) mm1 mm0 hand_b) (evN hE mm0 mm1) (sB ‹_› ‹_› (n_tr ‹_› (by decide)) (fun ζ ζ => rfl))) evI cLt) (decT (c_lt ‹_› (by decide))) and0))) ?_)
  refine kT rfl (App.cons (App.cons App.nil)) (sSet (evO (evN hE mm0 mm1) evI oAdd) (evN hE mm0 mm0) up1 rf1 (by intro ζ; exact ⟨by k_is, by k_is, by k_is, by k_is⟩) ?_)
  refine sRet (evS (evA (evN hE mm0 mm0) mm1 mm0 hand_b) (evN hE mm0 mm1) (sB ‹_› ‹_› (n_tr ‹_› (by decide)) (fun ζ ζ => rfl))) ?_
  rotate_left
  exact ⟨_, by exact (pC rm1 (pS Pick.refl)), h⟩
theorem k_cu_flag {x : Addr} {b : List UInt8} {a : Int} {c : UInt8} (hv : VRs [] vs) (h0 : 0 ≤ a) (hx : b[a.toNat]? = some c) (hc : c.toNat ≤ 1) (hb : b.length ≤ 10000) (h : K (.bool ((c.toNat : Int) == 1)) (curE x b (a + 1) :: R)) (hn : 1 ≤ n := by fail "mx nn") :
    Cc G n (curE x b a :: R) (.ref 278) ([.ref x] ++ vs) K := by
  have ha := lt_of_get h0 hx
  refine f_278 (by fail "mx nn") (by exact (VRs.cons (VR_ref _) ‹_›)) rfl (fun p hE => ?_)
  refine sIf (tvC (evA (evN hE mm0 mm0) mm1 mm1 hand_i) (evCB hE (evs1 (evA (evN hE mm0 mm0) mm1 mm0 hand_b) evs0) (fLenB (n_tr ‹_› (by decide)))) cGe) ?_
  refine kF (decF (i_nle ‹_›)) App.nil ?_
  refine sAsg hE (evS (evA (evN hE mm0 mm0) mm1 mm0 hand_b) (evA (evN hE mm0 mm0) mm1 mm1 hand_i) (sB ‹_› ‹_› (n_tr ‹_› (by decide)) (fun ζ ζ => rfl))) up0 rp1 ?_
  refine sIf (tvC (evN hE mm0 mm1) evI cGt) (kF (decF (i_nlt (c_le ‹_› (by decide)))) App.nil ?_)
  refine sAugA (evN hE mm0 mm0) mm1 mm1 (by intro ζ; exact ⟨Bool.and_eq_true_iff.mpr ⟨by k_is, by k_is⟩, by k_is, by k_is⟩) hand_i evI iAdd up1 rf1 (by intro ζ; exact ⟨by k_is, by k_is, by k_is, by k_is⟩) ?_
  refine sRet (evCmp (evN hE mm0 mm1) evI cEq) ?_
  rotate_left
  exact ⟨_, by exact (pC rm1 (pS Pick.refl)), h⟩
theorem k_cu_done {x : Addr} {b : List UInt8} {a : Int} (hv : VRs [] vs) (ha : b.length ≤ a) (hb : b.length ≤ 10000) (h : K .none (curE x b a :: R)) (hn : 1 ≤ n := by fail "mx nn") :
    Cc G n (curE x b a :: R) (.ref 292) ([.ref x] ++ vs) K := by
  refine f_292 (by fail "mx nn") (by exact (VRs.cons (VR_ref _) ‹_›)) rfl (fun p hE => ?_)
  refine sIf (tvC (evA (evN hE mm0 mm0) mm1 mm1 hand_i) (evCB hE (evs1 (evA (evN hE mm0 mm0) mm1 mm0 hand_b) evs0) (fLenB (n_tr ‹_› (by decide)))) cLt) ?_
  refine kF (decF (i_nlt ‹_›)) App.nil ?_
  refine Nil_ ?_
  rotate_left
  exact ⟨_, by exact (pC rm1 (pS Pick.refl)), h⟩
theorem k_read_varint32_1 {b : List UInt8} {a : Int} {c : UInt8} (hv : VRs [.bytes b, .int a] vs) (h0 : 0 ≤ a) (hx : b[a.toNat]? = some c) (hc : c.toNat < 128) (hb : b.length ≤ 10000) (h : ∀ t, K (.con (.ref t)) ((t, .tuple [.int c.toNat, .int (a + 1)]) :: R)) (hn : 1 ≤ n := by fail "mx nn") :
    Cc G n R (.ref 172) ([] ++ vs) K := by
  have ha := lt_of_get h0 hx
  refine f_172 (by fail "mx nn") ‹_› rfl (fun p hE => ?_)
  refine sIf (tvL (andT (tvC (evN hE mm0 mm1) evI cGe) (decT ‹_›) (andT (tvC (evN hE mm0 mm1) (evCB hE (evs1 (evN hE mm0 mm0) evs0) (fLenB (n_tr ‹_› (by decide)))) cLt) (decT ‹_›) (andT (tvC (evS (evN hE mm0 mm0) (evN hE mm0 mm1) (sB ‹_› ‹_› (n_tr ‹_› (by decide)) (fun ζ ζ => rfl))) evI cLt) (decT (c_lt ‹_› (by decide))) and0)))) ?_
  refine kT rfl (App.cons App.nil) (sRetC (xT (evs1 (evS (evN hE mm0 mm0) (evN hE mm0 mm1) (sB ‹_› ‹_› (n_tr ‹_› (by decide)) (fun ζ ζ => rfl))) (evs1 (evO (evN hE mm0 mm1) evI oAdd) evs0)) (by rfl) (by rfl) ?_))
  intro ζ
  refine kR_ ?_
  rotate_left
  exact ⟨_, by exact (pC rm0 (pS Pick.refl)), h _⟩
theorem k_read_groups_300 {b : List UInt8} {a : Int} (hv : VRs [.bytes b, .int a, .int 10, .int 18446744073709551615] vs) (h0 : 0 ≤ a) (hx : b[a.toNat]? = some 172) (hy : b[(a + 1).toNat]? = some 2) (hb : b.length ≤ 10000) (h : ∀ t, K (.con (.ref t)) ((t, .tuple [.int 300, .int (a + 1 + 1)]) :: R)) (hn : 1 ≤ n := by fail "mx nn") :
    Cc G n R (.ref 144) ([] ++ vs) K := by
  have ha := lt_of_get (by lia) hy
  refine f_144 (by fail "mx nn") ‹_› rfl (fun p hE => ?_)
  refine sIf (tvC (evN hE mm0 mm1) evI cLt) (kF (decF (i_nlt ‹_›)) App.nil ?_)
  refine sAsg hE evI up0 rp4 (sAsg hE evI up0 rp5 (Cons' (For_ (cT hE (evs1 (evN hE mm0 mm2) evs0) (rangeNA fun ζ ζ ζ => pyIterR_ ‹_› mm0 (i_cl (by decide)) (i_cl (by decide)) ?_)))))
  intro ζ
  refine FstepR (pk rm0) (i_cl' (by decide)) ?_
  refine TurnN (sSt hE up2 rp6 (sIf (tvC (evN hE mm2 mm1) (evCB hE (evs1 (evN hE mm2 mm0) evs0) (fLenB (n_tr ‹_› (by decide)))) cGe) ?_))
  refine kF (decF (i_nle (by lia))) App.nil ?_
  refine sAsg hE (evS (evN hE mm2 mm0) (evN hE mm2 mm1) (sB ‹_› ‹_› (n_tr ‹_› (by decide)) (fun ζ ζ => rfl))) up2 rp7 ?_
  refine sAug hE mm2 mm1 evI iAdd up2 rp1 (sAug hE mm2 mm4 (evO (evO (evN hE mm2 mm7) evI oAnd) (evN hE mm2 mm5) (oShl (i_cl (by decide)) (i_cl (by decide)) nle)) iOr up2 rp4 ?_)
  refine sIf (tvC (evN hE mm2 mm7) evI cLt) (kF (by decide) App.nil ?_)
  refine sAug hE mm2 mm5 evI iAdd up2 rp5 (C.hide fun ζ ζ => Nil_ (hideOut ‹_› ?_))
  refine onL_n (FstepR (pk rm0) (i_cl' (by decide)) ?_)
  refine TurnN (sSt hE up2 rp6 (sIf (tvC (evN hE mm2 mm1) (evCB hE (evs1 (evN hE mm2 mm0) evs0) (fLenB (n_tr ‹_› (by decide)))) cGe) ?_))
  refine kF (decF (i_nle ‹_›)) App.nil ?_
  refine sAsg hE (evS (evN hE mm2 mm0) (evN hE mm2 mm1) (sB (by lia) ‹_› (n_tr ‹_› (by decide)) (fun ζ ζ => rfl))) up2 rp7 ?_
  refine sAug hE mm2 mm1 evI iAdd up2 rp1 (sAug hE mm2 mm4 (evO (evO (evN hE mm2 mm7) evI oAnd) (evN hE mm2 mm5) (oShl (i_cl (by decide)) (i_cl (by decide)) nle)) iOr up2 rp4 ?_)
  refine sIf (tvC (evN hE mm2 mm7) evI cLt) (kT (by decide) (App.cons (App.cons App.nil)) ?_)
  refine sIf (tvC (evN hE mm2 mm4) (evN hE mm2 mm3) cGt) (kF (by decide) App.nil ?_)
  refine sRetC (xT (evs1 (evN hE mm2 mm4) (evs1 (evN hE mm2 mm1) evs0)) (by rfl) (by rfl) ?_)
  intro ζ
  refine kR_ (onL_r (onN_r ?_))
  rotate_left
  exact ⟨_, by exact (pC Rem.head (pS (pS (pS Pick.refl)))), h _⟩
end
end
section
section
variable {G : Gr} {n : Nat} {R : Led} {vs : List Value} {K : AV → Led → Prop}
theorem k_read_lengthed {b out : List UInt8} {a : Int} {c : UInt8} (hv : VRs [.bytes b, .int a] vs) (h0 : 0 ≤ a) (hx : b[a.toNat]? = some c) (hc : c.toNat < 128) (hl : a + 1 + c.toNat ≤ b.length) (ho : (b.drop (a + 1).toNat).take c.toNat = out) (hb : b.length ≤ 10000)
    (h : ∀ t, K (.con (.ref t)) ((t, .tuple [.bytes out, .int (a + 1 + c.toNat)]) :: R)) (hn : 2 ≤ n := by fail "mx nn") :
    Cc G n R (.ref 214) ([] ++ vs) K := by
  have ho' : (b.drop (a + 1).toNat).take ((a + 1 + c.toNat).toNat - (a + 1).toNat) = out := by
    rw [show (a + 1 + c.toNat).toNat - (a + 1).toNat = c.toNat by lia]; exact ho
  refine f_214 (by fail "mx nn") ‹_› rfl (fun p hE => ?_)
  refine sUnC (cF hE (evs1 (evN hE mm0 mm0) (evs1 (evN hE mm0 mm1) evs0)) (ofCa (fun ζ => k_read_varint32_1 ‹_› ‹_› ‹_› ‹_› ‹_› ?_)))
  intro ζ
  refine asg2 hE mm0 up1 rp2 up1 rp1 (sIf (tvC (evO (evN hE mm1 mm1) (evN hE mm1 mm2) oAdd) (evCB hE (evs1 (evN hE mm1 mm0) evs0) (fLenB (n_tr ‹_› (by decide)))) cGt) ?_)
  refine kF (decF (i_nlt ‹_›)) App.nil ?_
  refine sRetC (Tuple' ?_ (by decide))
  refine ArgsCons_ (CallTNA (by k_is) (by boot_by_name) ?_ (by kernel_rfl))
  refine ArgsCons_ (SubSliceA (Name_ mm1 mm0 (EvS_ (Name_ mm1 mm1 (EvS_ (BinOpA (Name_ mm1 mm1 (Name_ mm1 mm2 (addIA (sliceBA (by lia) (by lia) ‹_› (n_tr ‹_› (by decide)) ‹_› ?_))))))))))
  refine ArgsNil_ (bytesBA (ArgsCons_ (BinOpA (Name_ mm1 mm1 (Name_ mm1 mm2 (addIA (ArgsNil_ ?_)))))))
  refine ⟨rfl, ?_⟩
  intro ζ
  refine kR_ ?_
  rotate_left
  exact ⟨_, by exact (pC rm0 (pS (pS Pick.refl))), h _⟩
theorem k_read_varint_300 {b : List UInt8} {a : Int} (hv : VRs [.bytes b, .int a] vs) (h0 : 0 ≤ a) (hx : b[a.toNat]? = some 172) (hy : b[(a + 1).toNat]? = some 2) (hb : b.length ≤ 10000) (h : ∀ t, K (.con (.ref t)) ((t, .tuple [.int 300, .int (a + 1 + 1)]) :: R)) (hn : 2 ≤ n := by fail "mx nn") :
    Cc G n R (.ref 158) ([] ++ vs) K := by
  have ha := lt_of_get h0 hx
  refine f_158 (by fail "mx nn") ‹_› rfl (fun p hE => ?_)
  refine sIf (tvL (andT (tvC (evN hE mm0 mm1) evI cGe) (decT ‹_›) (andT (tvC (evN hE mm0 mm1) (evCB hE (evs1 (evN hE mm0 mm0) evs0) (fLenB (n_tr ‹_› (by decide)))) cLt) (decT ‹_›) (andF (tvC (evS (evN hE mm0 mm0) (evN hE mm0 mm1) (sB ‹_› ‹_› (n_tr ‹_› (by decide)) (fun ζ ζ => rfl))) evI cLt) (by decide))))) ?_
  refine kF rfl App.nil (sRetC (cF hE (evs1 (evN hE mm0 mm0) (evs1 (evN hE mm0 mm1) (evs1 evI (evs1 (evGI hE) evs0)))) (ofCa (fun ζ => k_read_groups_300 ‹_› ‹_› ‹_› ‹_› ‹_› ?_))))
  intro ζ
  refine kR_ ?_
  rotate_left
  exact ⟨_, by exact (pC rm0 (pS Pick.refl)), h _⟩
end
end
section
section
variable {G : Gr} {n : Nat} {R : Led} {vs : List Value} {K : AV → Led → Prop}
theorem k_cu_lengthed {x : Addr} {b out : List UInt8} {a : Int} {c : UInt8} (hv : VRs [] vs) (h0 : 0 ≤ a) (hx : b[a.toNat]? = some c) (hc : c.toNat < 128) (hl : a + 1 + c.toNat ≤ b.length) (ho : (b.drop (a + 1).toNat).take c.toNat = out) (hb : b.length ≤ 10000)
    (h : K (.bytes out) (curE x b (a + 1 + c.toNat) :: R)) (hn : 3 ≤ n := by fail "mx nn") : Cc G n (curE x b a :: R) (.ref 264) ([.ref x] ++ vs) K := by
  refine f_264 (by fail "mx nn") (by exact (VRs.cons (VR_ref _) ‹_›)) rfl (fun p hE => ?_)
  refine sUnC (cF hE (evs1 (evA (evN hE mm0 mm0) mm1 mm0 hand_b) (evs1 (evA (evN hE mm0 mm0) mm1 mm1 hand_i) evs0)) (ofCa (fun ζ => k_read_lengthed ‹_› ‹_› ‹_› ‹_› ‹_› ‹_› ‹_› ?_)))
  intro ζ
  refine asg2 hE mm0 up1 rp1 up1 rp2 (sSet (evN hE mm1 mm2) (evN hE mm1 mm0) up2 rf1 (by intro ζ; exact ⟨by k_is, by k_is, by k_is, by k_is⟩) ?_)
  refine sRet (evN hE mm1 mm1) ?_
  rotate_left
  exact ⟨_, by exact (pC rm2 (pS (pS Pick.refl))), h⟩
theorem k_cu_varint_300 {x : Addr} {b : List UInt8} {a : Int} (hv : VRs [] vs) (h0 : 0 ≤ a) (hx : b[a.toNat]? = some 172) (hy : b[(a + 1).toNat]? = some 2) (hb : b.length ≤ 10000) (h : K (.int 300) (curE x b (a + 1 + 1) :: R)) (hn : 3 ≤ n := by fail "mx nn") :
    Cc G n (curE x b a :: R) (.ref 243) ([.ref x] ++ vs) K := by
  have ha := lt_of_get h0 hx
  refine f_243 (by fail "mx nn") (by exact (VRs.cons (VR_ref _) ‹_›)) rfl (fun p hE => ?_)
  refine sAsg hE (evA (evN hE mm0 mm0) mm1 mm1 hand_i) up0 rp1 (sIf (tvL (andT (tvC (evN hE mm0 mm1) (evCB hE (evs1 (evA (evN hE mm0 mm0) mm1 mm0 hand_b) evs0) (fLenB (n_tr ‹_› (by decide)))) cLt) (decT ‹_›) (andF (tvC (evS (evA (evN hE mm0 mm0) mm1 mm0 hand_b) (evN hE mm0 mm1) (sB ‹_› ‹_› (n_tr ‹_› (by decide)) (fun ζ ζ => rfl))) evI cLt) (by decide)))) ?_)
  refine kF rfl App.nil (sUnC (cF hE (evs1 (evA (evN hE mm0 mm0) mm1 mm0 hand_b) (evs1 (evN hE mm0 mm1) evs0)) (ofCa (fun ζ => k_read_varint_300 ‹_› ‹_› ‹_› ‹_› ‹_› ?_))))
  intro ζ
  refine asg2 hE mm0 up1 rp2 up1 rp1 (sSet (evN hE mm1 mm1) (evN hE mm1 mm0) up2 rf1 (by intro ζ; exact ⟨by k_is, by k_is, by k_is, by k_is⟩) ?_)
  refine sRet (evN hE mm1 mm2) ?_
  rotate_left
  exact ⟨_, by exact (pC rm2 (pS (pS Pick.refl))), h⟩
end
end
section
theorem u8 {n : Nat} (h : n < 128) : (n.toUInt8).toNat = n := by
  rw [Nat.toUInt8_eq, UInt8.toNat_ofNat']; lia
theorem u8i {l : Int} (h0 : 0 ≤ l) (h : l < 128) : ((l.toNat.toUInt8).toNat : Int) = l := by
  rw [u8 (by lia)]; lia
theorem fb_eq (op : Bool) : (((fb op).toNat : Int) == 1) = op := by cases op <;> decide +kernel
theorem fb_le (op : Bool) : (fb op).toNat ≤ 1 := by cases op <;> decide +kernel
section
variable {G : Gr} {n : Nat} {R : Led} {vs : List Value} {K : AV → Led → Prop}
theorem k_cu_int {x : Addr} {b : List UInt8} {a l : Int} (hv : VRs [] vs) (h0 : 0 ≤ a) (hx : b[a.toNat]? = some l.toNat.toUInt8) (hl0 : 0 ≤ l) (hl : l < 128) (hb : b.length ≤ 10000) (h : K (.int l) (curE x b (a + 1) :: R)) (hn : 1 ≤ n := by fail "mx nn") :
    Cc G n (curE x b a :: R) (.ref 243) ([.ref x] ++ vs) K := k_cu_varint_1 hv h0 hx (by rw [u8 (by lia)]; lia) hb (by rw [u8i hl0 hl]; exact h)
theorem k_cu_bool {x : Addr} {b : List UInt8} {a : Int} {op : Bool} (hv : VRs [] vs) (h0 : 0 ≤ a) (hx : b[a.toNat]? = some (fb op)) (hb : b.length ≤ 10000) (h : K (.bool op) (curE x b (a + 1) :: R)) (hn : 1 ≤ n := by fail "mx nn") :
    Cc G n (curE x b a :: R) (.ref 278) ([.ref x] ++ vs) K := k_cu_flag hv h0 hx (fb_le op) hb (by rw [fb_eq]; exact h)
theorem k_cu_bytes {x : Addr} {b out rest : List UInt8} {a : Int} (hv : VRs [] vs) (h0 : 0 ≤ a) (hd : b.drop a.toNat = out.length.toUInt8 :: (out ++ rest)) (ho : out.length < 128) (hb : b.length ≤ 10000)
    (h : K (.bytes out) (curE x b (a + 1 + out.length) :: R)) (hn : 3 ≤ n := by fail "mx nn") : Cc G n (curE x b a :: R) (.ref 264) ([.ref x] ++ vs) K := by
  have hx : b[a.toNat]? = some out.length.toUInt8 := by
    have : (b.drop a.toNat)[0]? = b[a.toNat]? := by rw [List.getElem?_drop]; simp
    rw [← this, hd]; rfl
  have hlen : b.length - a.toNat = 1 + (out.length + rest.length) := by
    have := congrArg List.length hd
    simp only [List.length_drop, List.length_cons, List.length_append] at this; lia
  have h1 : b.drop (a + 1).toNat = out ++ rest := by
    rw [show (a + 1).toNat = a.toNat + 1 by lia, ← List.drop_drop, hd]; rfl
  refine k_cu_lengthed hv h0 hx (by rw [u8 ho]; exact ho) (by rw [u8 ho]; lia) ?_ hb (by rw [u8 ho]; exact h)
  rw [u8 ho, h1, List.take_left']
  rfl
theorem k_cu_client {x : Addr} {b rest : List UInt8} {a c : Int} (hc : c = 5 ∨ c = 300) (hv : VRs [] vs) (h0 : 0 ≤ a) (hd : b.drop a.toNat = cvb c ++ rest) (hb : b.length ≤ 10000)
    (h : K (.int c) (curE x b (a + (cvb c).length) :: R)) (hn : 3 ≤ n := by fail "mx nn") : Cc G n (curE x b a :: R) (.ref 243) ([.ref x] ++ vs) K := by
  have e0 : (b.drop a.toNat)[0]? = b[a.toNat]? := by rw [List.getElem?_drop]; simp
  have e1 : (b.drop a.toNat)[1]? = b[(a + 1).toNat]? := by rw [List.getElem?_drop, show (a + 1).toNat = a.toNat + 1 by lia]
  rcases hc with rfl | rfl
  · rw [hd] at e0
    exact k_cu_int (l := 5) hv h0 e0.symm (by decide) (by decide) hb h
  · rw [hd] at e0 e1
    refine k_cu_varint_300 hv h0 e0.symm e1.symm hb ?_
    rw [show a + 1 + 1 = a + ((cvb 300).length : Int) by rw [show (cvb 300).length = 2 from rfl]; lia]
    exact h
end
end
section
theorem drop_pre {pre post b : List UInt8} {a : Int} (e : b = pre ++ post) (h : a = pre.length) : b.drop a.toNat = post := by
  subst h e; simp
theorem get_pre {pre post b : List UInt8} {x : UInt8} {a : Int} (e : b = pre ++ (x :: post)) (h : a = pre.length) : b[a.toNat]? = some x := by
  subst h e; simp
section
variable {G : Gr} {n : Nat} {R : Led} {vs : List Value} {K : AV → Led → Prop}
theorem k_take_maybe_n {x : Addr} {b : List UInt8} {a : Int} (hv : VRs [.con (.ref x)] vs) (h0 : 0 ≤ a) (hx : b[a.toNat]? = some (fb false)) (hb : b.length ≤ 10000) (h : K .none (curE x b (a + 1) :: R)) (hn : 2 ≤ n := by fail "mx nn") :
    Cc G n (curE x b a :: R) (.ref 642) ([] ++ vs) K := by
  refine f_642 (by fail "mx nn") ‹_› rfl (fun p hE => ?_)
  refine Cons' (If' (TtValA (cM (evN hE mm0 mm0) (gM mm1 rfl) evs0 (ofCa (fun ζ => Cc.pick (pk rm1) (k_cu_bool ‹_› ‹_› ‹_› ‹_› ?_))))))
  refine truthyA (onB_f rfl (Nil_ (onN_n (sRet evZ ?_))))
  rotate_left
  exact ⟨_, by exact (pC rm0 (pS Pick.refl)), h⟩
theorem k_take_maybe_s {x : Addr} {b out rest : List UInt8} {a : Int} (hv : VRs [.con (.ref x)] vs) (h0 : 0 ≤ a) (hx : b[a.toNat]? = some (fb true)) (hd : b.drop (a + 1).toNat = out.length.toUInt8 :: (out ++ rest)) (ho : out.length < 128) (hb : b.length ≤ 10000)
    (h : K (.bytes out) (curE x b (a + 1 + 1 + out.length) :: R)) (hn : 4 ≤ n := by fail "mx nn") : Cc G n (curE x b a :: R) (.ref 642) ([] ++ vs) K := by
  refine f_642 (by fail "mx nn") ‹_› rfl (fun p hE => ?_)
  refine Cons' (If' (TtValA (cM (evN hE mm0 mm0) (gM mm1 rfl) evs0 (ofCa (fun ζ => Cc.pick (pk rm1) (k_cu_bool ‹_› ‹_› ‹_› ‹_› ?_))))))
  refine truthyA (onB_t rfl (sRetC (cM (evN hE mm1 mm0) (gM mm0 rfl) evs0 (ofCa (fun ζ => Cc.pick Pick.refl (k_cu_bytes ‹_› (by lia) ‹_› ‹_› ‹_› ?_))))))
  refine kR_ (onN_r ?_)
  rotate_left
  exact ⟨_, by exact (pC rm0 (pS Pick.refl)), h⟩
theorem k_decode_session {l : Int} {op : Bool} {r : List UInt8} (hv : VRs [.bytes (ses l op r)] vs) (h0 : 0 ≤ l) (h1 : l < 128) (hr : r.length < 128) (h : ∀ t, K (.con (.ref t)) ((t, .tuple [.int l, .bool op, .bytes r]) :: R)) (hn : 4 ≤ n := by fail "mx nn") :
    Cc G n R (.ref 691) ([] ++ vs) K := by
  have hd : (ses l op r).drop ((0 : Int) + 1 + 1).toNat = r.length.toUInt8 :: (r ++ []) := by simp [ses]
  refine f_691 (by fail "mx nn") ‹_› rfl (fun p hE => ?_)
  refine sAsgC (cF hE (evs1 (evN hE mm0 mm0) evs0) (ofCa (fun ζ => k_Cursor ‹_› (by simp only [lens, false_implies, implies_true, and_true]; first | done | lia) ?_)))
  intro ζ
  refine sSt hE up1 rp1 (sAsgC (cM (evN hE mm1 mm1) (gM mm0 rfl) evs0 (ofCa (fun ζ => Cc.pick Pick.refl (k_cu_int ‹_› (i_cl (by decide)) rfl ‹_› ‹_› (by simp only [lens, false_implies, implies_true, and_true]; first | done | lia) ?_)))))
  refine sSt hE up1 rp2 (sAsgC (cM (evN hE mm1 mm1) (gM mm0 rfl) evs0 (ofCa (fun ζ => Cc.pick Pick.refl (k_cu_bool ‹_› (i_cl (by decide)) rfl (by simp only [lens, false_implies, implies_true, and_true]; first | done | lia) ?_)))))
  refine sSt hE up1 rp3 (sAsgC (cM (evN hE mm1 mm1) (gM mm0 rfl) evs0 (ofCa (fun ζ => Cc.pick Pick.refl (k_cu_bytes ‹_› (i_cl (by decide)) ‹_› ‹_› (by simp only [lens, false_implies, implies_true, and_true]; first | done | lia) ?_)))))
  refine sSt hE up1 rp4 (sX hE (cM (evN hE mm1 mm1) (gM mm0 rfl) evs0 (ofCa (fun ζ => Cc.pick Pick.refl (k_cu_done ‹_› (by simp only [lens, false_implies, implies_true, and_true]; first | done | lia) (by simp only [lens, false_implies, implies_true, and_true]; first | done | lia) ?_)))))
  refine sRetC (xT (evs1 (evN hE mm1 mm2) (evs1 (evN hE mm1 mm3) (evs1 (evN hE mm1 mm4) evs0))) (by rfl) (by rfl) ?_)
  intro ζ
  refine kR_ ?_
  rotate_left
  exact ⟨_, by exact (pC rm0 (pS (pS Pick.refl))), h _⟩
end
end
section
section
variable {G : Gr} {n : Nat} {R : Led} {vs : List Value} {K : AV → Led → Prop}
theorem k_si_varint_300 {x b : Addr} {bs : List UInt8} (hv : VRs [.int 300] vs) (hb : bs.length ≤ 10000) (h : K .none (sinkE x b :: (b, .barr (bs ++ [172, 2])) :: R)) (hn : 3 ≤ n := by fail "mx nn") :
    Cc G n (sinkE x b :: (b, .barr bs) :: R) (.ref 320) ([.ref x] ++ vs) K := by
  refine f_320 (by fail "mx nn") (by exact (VRs.cons (VR_ref _) ‹_›)) rfl (fun p hE => ?_)
  refine sIf (tvL (andT (tvC (evN hE mm0 mm1) evI cGe) (by decide) (andF (tvC (evN hE mm0 mm1) evI cLt) (by decide)))) ?_
  refine kF rfl (App.cons App.nil) (sX hE (MCallA (AttrA (Name_ mm0 mm0 (getAA mm1 mm0 (by intro ζ; exact ⟨Bool.and_eq_true_iff.mpr ⟨by k_is, by k_is⟩, by k_is, by k_is⟩) hand_r ?_)))))
  refine methBaA ba_slot_extend (by first | rfl | kernel_rfl) mm2 ?_
  refine CallBA (ArgsCons_ (cF hE (evs1 (evN hE mm0 mm1) evs0) (ofCa (fun ζ => k_put_varint_300 ‹_› ?_))))
  refine ArgsNil_ (extendBaA up2 (by simp only [lens, false_implies, implies_true, and_true]; first | done | lia) ?_)
  refine Nil_ ?_
  rotate_left
  exact ⟨_, by exact (pC rm1 (pC rm1 (pS Pick.refl))), h⟩
theorem k_si_varint_5 {x b : Addr} {bs : List UInt8} (hv : VRs [.int 5] vs) (hb : bs.length ≤ 10000) (h : K .none (sinkE x b :: (b, .barr (bs ++ [5])) :: R)) (hn : 3 ≤ n := by fail "mx nn") :
    Cc G n (sinkE x b :: (b, .barr bs) :: R) (.ref 320) ([.ref x] ++ vs) K := k_si_varint_1 hv (by decide) (by decide) hb h
theorem k_si_varint_c {x b : Addr} {bs : List UInt8} {c : Int} (hc : c = 5 ∨ c = 300) (hv : VRs [.int c] vs) (hb : bs.length ≤ 10000) (h : K .none (sinkE x b :: (b, .barr (bs ++ cvb c)) :: R)) (hn : 3 ≤ n := by fail "mx nn") :
    Cc G n (sinkE x b :: (b, .barr bs) :: R) (.ref 320) ([.ref x] ++ vs) K := by
  rcases hc with rfl | rfl
  · exact k_si_varint_5 hv hb h
  · exact k_si_varint_300 hv hb h
theorem cvb_len {c : Int} : (cvb c).length ≤ 2 := by unfold cvb; split <;> decide
noncomputable def cmd (k c m : Int) (key val : List UInt8) (e : Option (List UInt8)) : List UInt8 :=
  [k.toNat.toUInt8] ++ cvb c ++ [m.toNat.toUInt8] ++ [key.length.toUInt8] ++ key ++ [val.length.toUInt8] ++ val ++ mb e
end
end
section
noncomputable abbrev entE (x : Addr) (t i k : Int) (b : List UInt8) : Addr × AObj := (x, .inst 526 [("term", .int t), ("index", .int i), ("kind", .int k), ("data", .bytes b)])
noncomputable abbrev cmdE (x : Addr) (k c m : Int) (key val : List UInt8) (e : Option (List UInt8)) : Addr × AObj := (x, .inst 624 [("kind", .int k), ("client", .int c), ("number", .int m), ("key", .bytes key), ("value", .bytes val), ("expect", opt e)])
section
variable {G : Gr} {n : Nat} {R : Led} {vs : List Value} {K : AV → Led → Prop}
theorem k_Entry {t i k : Int} {b : List UInt8} (hv : VRs [.int t, .int i, .int k, .bytes b] vs) (h : ∀ x, K (.con (.ref x)) (entE x t i k b :: R)) (hn : 2 ≤ n := by fail "mx nn") : Cc G n R (.ref 526) ([] ++ vs) K := by
  refine Make' (by lia) (by intro ζ; k_is) (by intro ζ; k_is) (by intro ζ; k_is) ?_
  intro x
  refine f_495 (by fail "mx nn") (by exact (VRs.cons (VR_ref _) ‹_›)) rfl (fun p hE => ?_)
  refine sNew (evN hE mm0 mm1) (evN hE mm0 mm0) mm1 Snoc.nil up1 (by rfl) (by exact Nat.le_of_ble_eq_true rfl) (by intro ζ; exact ⟨by k_is, by k_is, by k_is, by k_is⟩) ?_
  refine sNew (evN hE mm0 mm2) (evN hE mm0 mm0) mm1 (Snoc.cons Snoc.nil) up1 (by rfl) (by exact Nat.le_of_ble_eq_true rfl) (by intro ζ; exact ⟨by k_is, by k_is, by k_is, by k_is⟩) ?_
  refine sNew (evN hE mm0 mm3) (evN hE mm0 mm0) mm1 (Snoc.cons (Snoc.cons Snoc.nil)) up1 (by rfl) (by exact Nat.le_of_ble_eq_true rfl) (by intro ζ; exact ⟨by k_is, by k_is, by k_is, by k_is⟩) ?_
  refine sNew (evN hE mm0 mm4) (evN hE mm0 mm0) mm1 (Snoc.cons (Snoc.cons (Snoc.cons Snoc.nil))) up1 (by rfl) (by exact Nat.le_of_ble_eq_true rfl) (by intro ζ; exact ⟨by k_is, by k_is, by k_is, by k_is⟩) ?_
  refine Nil_ ?_
  rotate_left
  exact ⟨_, by exact (pC rm1 (pS Pick.refl)), rfl, h _⟩
theorem k_Command {k c m : Int} {key val : List UInt8} {e : Option (List UInt8)} (hv : VRs [.int k, .int c, .int m, .bytes key, .bytes val, opt e] vs) (h : ∀ x, K (.con (.ref x)) (cmdE x k c m key val e :: R)) (hn : 2 ≤ n := by fail "mx nn") : Cc G n R (.ref 624) ([] ++ vs) K := by
  refine Make' (by lia) (by intro ζ; k_is) (by intro ζ; k_is) (by intro ζ; k_is) ?_
  intro x
  refine f_607 (by fail "mx nn") (by exact (VRs.cons (VR_ref _) ‹_›)) rfl (fun p hE => ?_)
  refine sNew (evN hE mm0 mm1) (evN hE mm0 mm0) mm1 Snoc.nil up1 (by rfl) (by exact Nat.le_of_ble_eq_true rfl) (by intro ζ; exact ⟨by k_is, by k_is, by k_is, by k_is⟩) ?_
  refine sNew (evN hE mm0 mm2) (evN hE mm0 mm0) mm1 (Snoc.cons Snoc.nil) up1 (by rfl) (by exact Nat.le_of_ble_eq_true rfl) (by intro ζ; exact ⟨by k_is, by k_is, by k_is, by k_is⟩) ?_
  refine sNew (evN hE mm0 mm3) (evN hE mm0 mm0) mm1 (Snoc.cons (Snoc.cons Snoc.nil)) up1 (by rfl) (by exact Nat.le_of_ble_eq_true rfl) (by intro ζ; exact ⟨by k_is, by k_is, by k_is, by k_is⟩) ?_
  refine sNew (evN hE mm0 mm4) (evN hE mm0 mm0) mm1 (Snoc.cons (Snoc.cons (Snoc.cons Snoc.nil))) up1 (by rfl) (by exact Nat.le_of_ble_eq_true rfl) (by intro ζ; exact ⟨by k_is, by k_is, by k_is, by k_is⟩) ?_
  refine sNew (evN hE mm0 mm5) (evN hE mm0 mm0) mm1 (Snoc.cons (Snoc.cons (Snoc.cons (Snoc.cons Snoc.nil)))) up1 (by rfl) (by exact Nat.le_of_ble_eq_true rfl) (by intro ζ; exact ⟨by k_is, by k_is, by k_is, by k_is⟩) ?_
  refine sNew (evN hE mm0 mm6) (evN hE mm0 mm0) mm1 (Snoc.cons (Snoc.cons (Snoc.cons (Snoc.cons (Snoc.cons Snoc.nil))))) up1 (by rfl) (by exact Nat.le_of_ble_eq_true rfl) (by intro ζ; exact ⟨by k_is, by k_is, by k_is, by k_is⟩) ?_
  refine Nil_ ?_
  rotate_left
  exact ⟨_, by exact (pC rm1 (pS Pick.refl)), rfl, h _⟩
end
end
section
section
variable {G : Gr} {n : Nat} {R : Led} {vs : List Value} {K : AV → Led → Prop}
theorem k_decode_n {k c m : Int} {key val : List UInt8} (hc : c = 5 ∨ c = 300) (hk0 : 0 ≤ k) (hk1 : k ≤ 6) (hm0 : 0 ≤ m) (hm1 : m < 128) (hkey : key.length < 128) (hval : val.length < 128) (hv : VRs [.bytes (cmd k c m key val none)] vs)
    (h : ∀ x, K (.con (.ref x)) (cmdE x k c m key val none :: R)) (hn : 5 ≤ n := by fail "mx nn") : Cc G n R (.ref 649) ([] ++ vs) K := by
  have hcl := @cvb_len c
  have hlen : (cmd k c m key val none).length = 5 + (cvb c).length + key.length + val.length := by simp [cmd, mb_len_n]; lia
  have e1 : (cmd k c m key val none).drop ((0 : Int) + 1).toNat = cvb c ++ ([m.toNat.toUInt8] ++ [key.length.toUInt8] ++ key ++ [val.length.toUInt8] ++ val ++ mb none) := drop_pre (pre := [k.toNat.toUInt8]) (by simp [cmd]) (by simp)
  have e2 : (cmd k c m key val none)[((0 : Int) + 1 + (cvb c).length).toNat]? = some m.toNat.toUInt8 := get_pre (pre := [k.toNat.toUInt8] ++ cvb c) (post := [key.length.toUInt8] ++ key ++ [val.length.toUInt8] ++ val ++ mb none) (by simp [cmd]) (by simp; lia)
  have e3 : (cmd k c m key val none).drop ((0 : Int) + 1 + (cvb c).length + 1).toNat = key.length.toUInt8 :: (key ++ ([val.length.toUInt8] ++ val ++ mb none)) := drop_pre (pre := [k.toNat.toUInt8] ++ cvb c ++ [m.toNat.toUInt8]) (by simp [cmd]) (by simp; lia)
  have e4 : (cmd k c m key val none).drop ((0 : Int) + 1 + (cvb c).length + 1 + 1 + key.length).toNat = val.length.toUInt8 :: (val ++ mb none) := drop_pre (pre := [k.toNat.toUInt8] ++ cvb c ++ [m.toNat.toUInt8] ++ [key.length.toUInt8] ++ key) (by simp [cmd]) (by simp; lia)
  have e5 : (cmd k c m key val none)[((0 : Int) + 1 + (cvb c).length + 1 + 1 + key.length + 1 + val.length).toNat]? = some (fb false) := get_pre (pre := [k.toNat.toUInt8] ++ cvb c ++ [m.toNat.toUInt8] ++ [key.length.toUInt8] ++ key ++ [val.length.toUInt8] ++ val) (post := []) (by simp [cmd, mb]) (by simp; lia)
  refine f_649 (by fail "mx nn") ‹_› rfl (fun p hE => ?_)
  refine Cons' (Try' (sAsgC (cF hE (evs1 (evN hE mm0 mm0) evs0) (ofCa (fun ζ => k_Cursor ‹_› (by lia) ?_)))))
  intro ζ
  refine sSt hE up1 rp1 (sAsgC (cM (evN hE mm1 mm1) (gM mm0 rfl) evs0 (ofCa (fun ζ => Cc.pick Pick.refl (k_cu_int ‹_› (i_cl (by decide)) rfl ‹_› (i_le_lt ‹_› (by decide)) (by lia) ?_)))))
  refine sSt hE up1 rp2 (sAsgC (cM (evN hE mm1 mm1) (gM mm0 rfl) evs0 (ofCa (fun ζ => Cc.pick Pick.refl (k_cu_client ‹_› ‹_› (i_cl (by decide)) ‹_› (by lia) ?_)))))
  refine sSt hE up1 rp3 (sAsgC (cM (evN hE mm1 mm1) (gM mm0 rfl) evs0 (ofCa (fun ζ => Cc.pick Pick.refl (k_cu_int ‹_› (i_cl rfl) ‹_› ‹_› ‹_› (by lia) ?_)))))
  refine sSt hE up1 rp4 (sAsgC (cM (evN hE mm1 mm1) (gM mm0 rfl) evs0 (ofCa (fun ζ => Cc.pick Pick.refl (k_cu_bytes ‹_› (i_cl rfl) ‹_› ‹_› (by lia) ?_)))))
  refine sSt hE up1 rp5 (sAsgC (cM (evN hE mm1 mm1) (gM mm0 rfl) evs0 (ofCa (fun ζ => Cc.pick Pick.refl (k_cu_bytes ‹_› (i_cl rfl) ‹_› ‹_› (by lia) ?_)))))
  refine sSt hE up1 rp6 (sAsgC (cF hE (evs1 (evN hE mm1 mm1) evs0) (ofCa (fun ζ => Cc.pick Pick.refl (k_take_maybe_n ‹_› (i_cl rfl) ‹_› (by lia) ?_)))))
  refine sSt hE up1 rp7 (sX hE (cM (evN hE mm1 mm1) (gM mm0 rfl) evs0 (ofCa (fun ζ => Cc.pick Pick.refl (k_cu_done ‹_› (by lia) (by lia) ?_)))))
  refine Nil_ (onN_n (Nil_ (onN_n (sIf (tvC (evN hE mm1 mm2) (evGI hE) cGt) (kF (decF (i_nlt ‹_›)) App.nil ?_)))))
  refine sRetC (cF hE (evs1 (evN hE mm1 mm2) (evs1 (evN hE mm1 mm3) (evs1 (evN hE mm1 mm4) (evs1 (evN hE mm1 mm5) (evs1 (evN hE mm1 mm6) (evs1 (evN hE mm1 mm7) evs0)))))) (ofCa (fun ζ => k_Command (e := none) ‹_› ?_)))
  intro ζ
  refine kR_ ?_
  rotate_left
  exact ⟨_, by exact (pC rm0 (pS (pS Pick.refl))), h _⟩
theorem k_decode_s {k c m : Int} {key val o : List UInt8} (hc : c = 5 ∨ c = 300) (hk0 : 0 ≤ k) (hk1 : k ≤ 6) (hm0 : 0 ≤ m) (hm1 : m < 128) (hkey : key.length < 128) (hval : val.length < 128) (ho : o.length < 128) (hv : VRs [.bytes (cmd k c m key val (some o))] vs)
    (h : ∀ x, K (.con (.ref x)) (cmdE x k c m key val (some o) :: R)) (hn : 5 ≤ n := by fail "mx nn") : Cc G n R (.ref 649) ([] ++ vs) K := by
  have hcl := @cvb_len c
  have hlen : (cmd k c m key val (some o)).length = 6 + (cvb c).length + key.length + val.length + o.length := by simp [cmd, mb_len_s]; lia
  have e1 : (cmd k c m key val (some o)).drop ((0 : Int) + 1).toNat = cvb c ++ ([m.toNat.toUInt8] ++ [key.length.toUInt8] ++ key ++ [val.length.toUInt8] ++ val ++ mb (some o)) := drop_pre (pre := [k.toNat.toUInt8]) (by simp [cmd]) (by simp)
  have e2 : (cmd k c m key val (some o))[((0 : Int) + 1 + (cvb c).length).toNat]? = some m.toNat.toUInt8 := get_pre (pre := [k.toNat.toUInt8] ++ cvb c) (post := [key.length.toUInt8] ++ key ++ [val.length.toUInt8] ++ val ++ mb (some o)) (by simp [cmd]) (by simp; lia)
  have e3 : (cmd k c m key val (some o)).drop ((0 : Int) + 1 + (cvb c).length + 1).toNat = key.length.toUInt8 :: (key ++ ([val.length.toUInt8] ++ val ++ mb (some o))) := drop_pre (pre := [k.toNat.toUInt8] ++ cvb c ++ [m.toNat.toUInt8]) (by simp [cmd]) (by simp; lia)
  have e4 : (cmd k c m key val (some o)).drop ((0 : Int) + 1 + (cvb c).length + 1 + 1 + key.length).toNat = val.length.toUInt8 :: (val ++ mb (some o)) := drop_pre (pre := [k.toNat.toUInt8] ++ cvb c ++ [m.toNat.toUInt8] ++ [key.length.toUInt8] ++ key) (by simp [cmd]) (by simp; lia)
  have e5 : (cmd k c m key val (some o))[((0 : Int) + 1 + (cvb c).length + 1 + 1 + key.length + 1 + val.length).toNat]? = some (fb true) := get_pre (pre := [k.toNat.toUInt8] ++ cvb c ++ [m.toNat.toUInt8] ++ [key.length.toUInt8] ++ key ++ [val.length.toUInt8] ++ val) (post := [o.length.toUInt8] ++ o) (by simp [cmd, mb]) (by simp; lia)
  have e6 : (cmd k c m key val (some o)).drop ((0 : Int) + 1 + (cvb c).length + 1 + 1 + key.length + 1 + val.length + 1).toNat = o.length.toUInt8 :: (o ++ []) := drop_pre (pre := [k.toNat.toUInt8] ++ cvb c ++ [m.toNat.toUInt8] ++ [key.length.toUInt8] ++ key ++ [val.length.toUInt8] ++ val ++ [fb true]) (by simp [cmd, mb]) (by simp; lia)
  refine f_649 (by fail "mx nn") ‹_› rfl (fun p hE => ?_)
  refine Cons' (Try' (sAsgC (cF hE (evs1 (evN hE mm0 mm0) evs0) (ofCa (fun ζ => k_Cursor ‹_› (by lia) ?_)))))
  intro ζ
  refine sSt hE up1 rp1 (sAsgC (cM (evN hE mm1 mm1) (gM mm0 rfl) evs0 (ofCa (fun ζ => Cc.pick Pick.refl (k_cu_int ‹_› (i_cl (by decide)) rfl ‹_› (i_le_lt ‹_› (by decide)) (by lia) ?_)))))
  refine sSt hE up1 rp2 (sAsgC (cM (evN hE mm1 mm1) (gM mm0 rfl) evs0 (ofCa (fun ζ => Cc.pick Pick.refl (k_cu_client ‹_› ‹_› (i_cl (by decide)) ‹_› (by lia) ?_)))))
  refine sSt hE up1 rp3 (sAsgC (cM (evN hE mm1 mm1) (gM mm0 rfl) evs0 (ofCa (fun ζ => Cc.pick Pick.refl (k_cu_int ‹_› (i_cl rfl) ‹_› ‹_› ‹_› (by lia) ?_)))))
  refine sSt hE up1 rp4 (sAsgC (cM (evN hE mm1 mm1) (gM mm0 rfl) evs0 (ofCa (fun ζ => Cc.pick Pick.refl (k_cu_bytes ‹_› (i_cl rfl) ‹_› ‹_› (by lia) ?_)))))
  refine sSt hE up1 rp5 (sAsgC (cM (evN hE mm1 mm1) (gM mm0 rfl) evs0 (ofCa (fun ζ => Cc.pick Pick.refl (k_cu_bytes ‹_› (i_cl rfl) ‹_› ‹_› (by lia) ?_)))))
  refine sSt hE up1 rp6 (sAsgC (cF hE (evs1 (evN hE mm1 mm1) evs0) (ofCa (fun ζ => Cc.pick Pick.refl (k_take_maybe_s ‹_› (i_cl rfl) ‹_› ‹_› ‹_› (by lia) ?_)))))
  refine sSt hE up1 rp7 (sX hE (cM (evN hE mm1 mm1) (gM mm0 rfl) evs0 (ofCa (fun ζ => Cc.pick Pick.refl (k_cu_done ‹_› (by lia) (by lia) ?_)))))
  refine Nil_ (onN_n (Nil_ (onN_n (sIf (tvC (evN hE mm1 mm2) (evGI hE) cGt) (kF (decF (i_nlt ‹_›)) App.nil ?_)))))
  refine sRetC (cF hE (evs1 (evN hE mm1 mm2) (evs1 (evN hE mm1 mm3) (evs1 (evN hE mm1 mm4) (evs1 (evN hE mm1 mm5) (evs1 (evN hE mm1 mm6) (evs1 (evN hE mm1 mm7) evs0)))))) (ofCa (fun ζ => k_Command (e := some _) ‹_› ?_)))
  intro ζ
  refine kR_ ?_
  rotate_left
  exact ⟨_, by exact (pC rm0 (pS (pS Pick.refl))), h _⟩
theorem k_decode {k c m : Int} {key val : List UInt8} {e : Option (List UInt8)} (hc : c = 5 ∨ c = 300) (hk0 : 0 ≤ k) (hk1 : k ≤ 6) (hm0 : 0 ≤ m) (hm1 : m < 128) (hkey : key.length < 128) (hval : val.length < 128) (he : ∀ o, e = some o → o.length < 128) (hv : VRs [.bytes (cmd k c m key val e)] vs)
    (h : ∀ x, K (.con (.ref x)) (cmdE x k c m key val e :: R)) (hn : 5 ≤ n := by fail "mx nn") : Cc G n R (.ref 649) ([] ++ vs) K := by
  cases e with
  | none => exact k_decode_n hc hk0 hk1 hm0 hm1 hkey hval hv h
  | some o => exact k_decode_s hc hk0 hk1 hm0 hm1 hkey hval (he _ rfl) hv h
end
section
variable {G : Gr} {n : Nat} {R : Led} {vs : List Value} {K : AV → Led → Prop}
theorem k_decode' {k c m : Int} {key val : List UInt8} {e : Option (List UInt8)} (hv : VRs [.bytes (cmd k c m key val e)] vs) (hc : c = 5 ∨ c = 300) (hk0 : 0 ≤ k) (hk1 : k ≤ 6) (hm0 : 0 ≤ m) (hm1 : m < 128) (hkey : key.length < 128) (hval : val.length < 128) (he : ∀ o, e = some o → o.length < 128)
    (h : ∀ x, K (.con (.ref x)) (cmdE x k c m key val e :: R)) (hn : 5 ≤ n := by fail "mx nn") : Cc G n R (.ref 649) ([] ++ vs) K := k_decode hc hk0 hk1 hm0 hm1 hkey hval he hv h
end
end
section
theorem lt8_nil {k lo : List UInt8} (h : lt8 k lo = false) (hl : 1 ≤ lo.length) : 1 ≤ k.length := by
  cases k with
  | cons a k => simp
  | nil =>
    cases lo with
    | nil => simp at hl
    | cons b lo => simp [lt8, nat8] at h
theorem sel_mem {es : List (List UInt8 × AV)} {lo hi : List UInt8} {ks : List (List UInt8)} {q : List UInt8 × AV} (h : q ∈ sel es lo hi ks) : lt8 q.1 lo = false ∧ q.1 ∈ ks ∧ q.2 = valOf es q.1 := by
  obtain ⟨k, hk, rfl⟩ := List.mem_map.mp h
  obtain ⟨h1, h2⟩ := List.mem_filter.mp hk
  simp only [Bool.and_eq_true, Bool.not_eq_true'] at h2
  exact ⟨h2.1, h1, rfl⟩
theorem ref_at {α : Type} {f : α → AV} {ps : List α} {i : Nat} {a : AV} (h : ((ps.map f).reverse)[i]? = some a) : ∃ q, ps.reverse[i]? = some q ∧ a = f q ∧ q ∈ ps := by
  rw [← List.map_reverse, List.getElem?_map] at h
  cases hq : ps.reverse[i]? with
  | none => rw [hq] at h; cases h
  | some q =>
    rw [hq] at h
    exact ⟨q, rfl, by simpa using h.symm, by simpa using List.mem_of_getElem? hq⟩
theorem mid3 {P R : Led} {a b c : Addr × AObj} : (P ++ a :: b :: c :: R).Perm (a :: b :: c :: (P ++ R)) := List.perm_middle.trans (.cons _ (List.perm_middle.trans (.cons _ List.perm_middle)))
theorem C.perm {α β : Type} {Rr : β → α → Prop} {G : Gr} {n : Nat} {L L' : Led} {t : Sem α} {K : β → Led → Prop} (hs : L.Perm L') (h : C Rr G n L' t K) : C Rr G n L t K := fun A s hA hS => h A s hA (hS.perm hs)
theorem Cl.perm {G : Gr} {n : Nat} {L L' : Led} {c : Code} {K : Fl → Led → Prop} (hs : L.Perm L') (h : Cl G n L' c K) : Cl G n L c K := fun A s hA hS => h A s hA (hS.perm hs)
theorem Pick.mid {A P R : Led} : Pick (A ++ R) (A ++ (P ++ R)) := by
  induction A with
  | nil => exact Pick.app P
  | cons a A ih => exact .cons .head ih
section
variable {G : Gr} {n : Nat} {R : Led} {vs : List Value} {K : AV → Led → Prop}
theorem k_rows {m s dn lb : Addr} {a t d k l : Int} {es : List (List UInt8 × AV)} (hv : VRs [] vs) (he : es.length < 64) (hsz : ∀ q ∈ es, q.1.length ≤ 1000)
    (h : ∀ p ks ts xs, ks.Perm (es.map (·.1)) → ks.Pairwise (fun a b => lt8 b a = false) → xs = (ts.map fun (q : Addr × List UInt8 × AV) => AV.con (.ref q.1)).reverse → (ts.map (·.2)).reverse = (sel es [100] [101] ks).map (fun q => (q.1.drop 1, q.2)) → xs.length ≤ 100 →
      K (.con (.ref p)) ((p, .list xs) :: macE m s a t d :: stoE s dn lb k l :: (dn, .bd es) :: (pairsL ts ++ R))) (hn : 2 ≤ n := by fail "mx nn") :
    Cc G n (macE m s a t d :: stoE s dn lb k l :: (dn, .bd es) :: R) (.ref 789) ([.ref m] ++ vs) K := by
  refine f_789 (by fail "mx nn") (by exact (VRs.cons (VR_ref _) ‹_›)) rfl (fun p hE => ?_)
  refine sAsgC (xL evs0 (by rfl) (by rfl) ?_)
  intro _
  refine sSt hE up1 rp1 (Cons' (For_ (cM (evA (evN hE mm1 mm0) mm2 mm0 hand_r) (gM mm3 rfl) (evs1 (evGB hE) (evs1 (evGB hE) (evs1 evZ evs0))) (ofCa (fun _ => Cc.pick (pC rm3 (pk rm3)) (k_scan ‹_› ‹_› ?_))))))
  intro _ _ _ _ _ _ _ _ _ _
  refine pyIterL_ ‹_› mm0 ?_
  intro _
  rotate_left
  rename_i f _ _ l0 ks ps xs0 hp1 hp2 he1 he2 _ _ it
  refine Cl.perm ((((mid3 (P := pairsL ps)).cons _).cons _).cons _ |>.cons _) ?_
  refine loopL (xs := xs0) (Inv := fun i Li => ∃ ts xs kv kw, xs = (ts.map fun (q : Addr × List UInt8 × AV) => AV.con (.ref q.1)).reverse ∧ (ts.map (·.2)).reverse = ((ps.map (·.2)).reverse.take i).map (fun q => (q.1.drop 1, q.2)) ∧
    Li = (l0, AObj.list xs0) :: stoE s dn lb k l :: (dn, .bd es) :: (f, .list xs) :: (p, .ns fo_789.1.scope [("self", some (.con (.ref m))), ("found", some (.con (.ref f))), ("place", kv), ("value", kw)]) :: macE m s a t d :: (pairsL ts ++ (pairsL ps ++ R))) ?hlst ?hgo ?turn ?fin _ 0 _ rfl (Nat.zero_le _) ⟨[], [], none, none, rfl, rfl, rfl⟩
  case hlst => rintro i Li ⟨ts, xs, kv, kw, e1, e2, rfl⟩; exact List.mem_cons_self
  case hgo =>
    intro i Li v a hx hv'
    subst he1
    obtain ⟨q, _, rfl, _⟩ := ref_at hx
    exact goL_ hv' List.mem_cons_self rfl
  case turn =>
    rintro i a Li hx ⟨ts, xs, kv, kw, e1, e2, rfl⟩ v hv'
    subst he1
    obtain ⟨⟨tq, ky, vy⟩, hq, rfl, hm⟩ := ref_at hx
    have hq' : (ps.map (·.2)).reverse[i]? = some (ky, vy) := by rw [← List.map_reverse, List.getElem?_map, hq]; rfl
    have hs := sel_mem (he2 ▸ List.mem_of_getElem? hq')
    have hky : 1 ≤ ky.length := lt8_nil hs.1 (by decide)
    have hks : ky.length ≤ 1000 := by
      obtain ⟨x, hx', e⟩ := List.mem_map.mp (hp1.mem_iff.mp hs.2.1)
      have := hsz x hx'; rw [e] at this; exact this
    have hmm : (tq, AObj.tuple [.bytes ky, vy]) ∈ pairsL ts ++ (pairsL ps ++ R) := List.mem_append_right _ (List.mem_append_left _ (List.mem_map_of_mem (f := pairE) hm))
    have htk : (ps.map (·.2)).reverse.take (i + 1) = (ps.map (·.2)).reverse.take i ++ [(ky, vy)] := by rw [List.take_add_one, hq']; rfl
    have hxs : xs.length ≤ 64 := by
      have h1 := congrArg List.length e2
      have h2 := congrArg List.length he2
      simp only [List.length_reverse, List.length_map, List.length_take, sel] at h1 h2
      have h3 := List.length_filter_le (fun k => !lt8 k [100] && lt8 k [101]) ks
      have h4 := hp1.length_eq
      rw [List.length_map] at h4
      rw [e1, List.length_reverse, List.length_map]; lia
    refine turn_opq fun KK hKK => ?_
    refine AsgT2 ‹_› (by (repeat refine List.mem_cons_of_mem _ ?_); assumption) (by rfl) ?_
    intro _ _ _ _
    refine AiCons_ (AsgN_ (store_ ‹_› up5 rp2 ?_))
    refine AiCons_ (AsgN_ (store_ ‹_› up5 rp3 ?_))
    refine AiNil_ (sX hE (MCallA (Name_ mm5 mm1 (methLA mm4 (CallBA (ArgsCons_ (Tuple' ?_ (by decide))))))))
    refine ArgsCons_ (SubSliceA (Name_ mm5 mm2 (EvS_ (cB hE (evs1 (evGB hE) evs0) (lenBA nle (EvN_ (sliceBfA c_nn (by simp only [lens, false_implies, implies_true, and_true]; first | done | lia) (n_tr ‹_› (by decide)) rfl ?_)))))))
    refine ArgsCons_ (Name_ mm5 mm3 (ArgsNil_ ?_))
    refine ⟨rfl, ?_⟩
    intro _
    refine ArgsNil_ (appendLA up5 (n_tr ‹_› (by decide)) ?_)
    refine Nil_ (hideOut ‹_› ?_)
    refine onL_n ?_
    rotate_left
    rename_i t
    exact ⟨_, by rw [pairsL_cons]; exact (pC rm1 (pC rm1 (pC rm1 (pC rm1 (pC rm1 (pC rm1 (pC rm1 (pC Rem.head Pick.refl)))))))), (t, ky.drop 1, vy) :: ts, _, some (.bytes ky), some vy, by rw [List.map_cons, List.reverse_cons, ← e1], by rw [List.map_cons, List.reverse_cons, e2, htk]; simp, rfl⟩
  case fin =>
    rintro Li ⟨ts, xs, kv, kw, e1, e2, rfl⟩
    rw [List.take_of_length_le (by rw [he1]; simp), he2] at e2
    have hxs : xs.length ≤ 100 := by
      have h1 := congrArg List.length e2
      simp only [List.length_reverse, List.length_map, sel] at h1
      have h3 := List.length_filter_le (fun k => !lt8 k [100] && lt8 k [101]) ks
      have h4 := hp1.length_eq
      rw [List.length_map] at h4
      rw [e1, List.length_reverse, List.length_map]; lia
    refine Nil_ (onN_n (sRet (evN hE mm4 mm1) ?_))
    rotate_left
    exact ⟨_, by exact (pC rm3 (pC rm4 (pC rm1 (pC rm1 (pS (pS Pick.mid)))))), h _ ks ts xs hp1 hp2 e1 e2 hxs⟩
end
end
section
section
variable {G : Gr} {n : Nat} {R : Led} {vs : List Value} {K : AV → Led → Prop}
noncomputable abbrev quadE (q : Addr × Int × Int × Bool × List UInt8) : Addr × AObj := (q.1, .tuple [.int q.2.1, .int q.2.2.1, .bool q.2.2.2.1, .bytes q.2.2.2.2])
noncomputable def quadsL (ps : List (Addr × Int × Int × Bool × List UInt8)) : Led := ps.map quadE
theorem quadsL_cons {q : Addr × Int × Int × Bool × List UInt8} {ps : List (Addr × Int × Int × Bool × List UInt8)} {R : Led} : quadsL (q :: ps) ++ R = quadE q :: (quadsL ps ++ R) := rfl
inductive SesRow : List UInt8 × AV → Int × Int × Bool × List UInt8 → Prop
  | mk {c la op rp} : c = 5 ∨ c = 300 → 0 ≤ la → la < 128 → rp.length < 128 → SesRow (skey c, .bytes (ses la op rp)) (c, la, op, rp)
theorem all2_len {α β : Type} {R : α → β → Prop} {as : List α} {bs : List β} (h : All2 R as bs) : as.length = bs.length := by
  induction h with
  | nil => rfl
  | cons _ _ ih => simp [ih]
theorem all2_at {α β : Type} {R : α → β → Prop} {as : List α} {bs : List β} (h : All2 R as bs) : ∀ {i : Nat} {a : α}, as[i]? = some a → ∃ b, bs[i]? = some b ∧ R a b := by
  induction h with
  | nil => intro i a e; simp at e
  | cons x _ ih =>
    intro i a e
    cases i with
    | zero => simp at e; subst e; exact ⟨_, rfl, x⟩
    | succ i => simpa using ih (by simpa using e)
theorem k_sessions {m s dn lb : Addr} {a t d k l : Int} {es : List (List UInt8 × AV)} {D : List (Int × Int × Bool × List UInt8)} (hv : VRs [] vs) (he : es.length < 64) (hses : ∀ ks, ks.Perm (es.map (·.1)) → ks.Pairwise (fun a b => lt8 b a = false) → All2 SesRow (sel es [115] [116] ks) D)
    (h : ∀ p ts xs, xs = (ts.map fun (q : Addr × Int × Int × Bool × List UInt8) => AV.con (.ref q.1)).reverse → (ts.map (·.2)).reverse = D → xs.length ≤ 100 →
      K (.con (.ref p)) ((p, .list xs) :: macE m s a t d :: stoE s dn lb k l :: (dn, .bd es) :: (quadsL ts ++ R))) (hn : 6 ≤ n := by fail "mx nn") :
    Cc G n (macE m s a t d :: stoE s dn lb k l :: (dn, .bd es) :: R) (.ref 796) ([.ref m] ++ vs) K := by
  refine f_796 (by fail "mx nn") (by exact (VRs.cons (VR_ref _) ‹_›)) rfl (fun p hE => ?_)
  refine sAsgC (xL evs0 (by rfl) (by rfl) ?_)
  intro _
  refine sSt hE up1 rp1 (Cons' (For_ (cM (evA (evN hE mm1 mm0) mm2 mm0 hand_r) (gM mm3 rfl) (evs1 (evGB hE) (evs1 (evGB hE) (evs1 evZ evs0))) (ofCa (fun _ => Cc.pick (pC rm3 (pk rm3)) (k_scan ‹_› ‹_› ?_))))))
  intro _ _ _ _ _ _ _ _ _ _
  refine pyIterL_ ‹_› mm0 ?_
  intro _
  rotate_left
  rename_i f _ _ l0 ks ps xs0 hp1 hp2 he1 he2 _ _ it
  refine Cl.perm ((((mid3 (P := pairsL ps)).cons _).cons _).cons _ |>.cons _) ?_
  have hD := hses ks hp1 hp2
  have hlen : D.length = (sel es [115] [116] ks).length := by
    exact (all2_len hD).symm
  refine loopL (xs := xs0) (Inv := fun i Li => ∃ ts xs kv kw k1 k2 k3, xs = (ts.map fun (q : Addr × Int × Int × Bool × List UInt8) => AV.con (.ref q.1)).reverse ∧ (ts.map (·.2)).reverse = D.take i ∧
    Li = (l0, AObj.list xs0) :: stoE s dn lb k l :: (dn, .bd es) :: (f, .list xs) :: (p, .ns fo_796.1.scope [("self", some (.con (.ref m))), ("found", some (.con (.ref f))), ("place", kv), ("data", kw), ("last", k1), ("is_open", k2), ("reply", k3)]) :: macE m s a t d :: (quadsL ts ++ (pairsL ps ++ R))) ?hlst ?hgo ?turn ?fin _ 0 _ rfl (Nat.zero_le _) ⟨[], [], none, none, none, none, none, rfl, rfl, rfl⟩
  case hlst => rintro i Li ⟨ts, xs, kv, kw, k1, k2, k3, e1, e2, rfl⟩; exact List.mem_cons_self
  case hgo =>
    intro i Li v a hx hv'
    subst he1
    obtain ⟨q, _, rfl, _⟩ := ref_at hx
    exact goL_ hv' List.mem_cons_self rfl
  case turn =>
    rintro i a Li hx ⟨ts, xs, kv, kw, k1, k2, k3, e1, e2, rfl⟩ v hv'
    subst he1
    obtain ⟨⟨tq, ky, vy⟩, hq, rfl, hm⟩ := ref_at hx
    have hq' : (ps.map (·.2)).reverse[i]? = some (ky, vy) := by rw [← List.map_reverse, List.getElem?_map, hq]; rfl
    obtain ⟨⟨c, la, op, rp⟩, hdi, hrow⟩ := all2_at hD (i := i) (a := (ky, vy)) (by rw [← he2]; exact hq')
    cases hrow
    rename_i hc hla0 hla1 hrp
    have hmm : (tq, AObj.tuple [.bytes (skey c), .bytes (ses la op rp)]) ∈ quadsL ts ++ (pairsL ps ++ R) := List.mem_append_right _ (List.mem_append_left _ (List.mem_map_of_mem (f := pairE) hm))
    have htk : D.take (i + 1) = D.take i ++ [(c, la, op, rp)] := by rw [List.take_add_one, hdi]; rfl
    have hxs : xs.length ≤ 64 := by
      have h1 := congrArg List.length e2
      simp only [List.length_reverse, List.length_map, List.length_take, sel] at h1 hlen
      have h3 := List.length_filter_le (fun k => !lt8 k [115] && lt8 k [116]) ks
      have h4 := hp1.length_eq
      rw [List.length_map] at h4
      rw [e1, List.length_reverse, List.length_map]; lia
    refine turn_opq fun KK hKK => ?_
    refine AsgT2 ‹_› (by (repeat refine List.mem_cons_of_mem _ ?_); assumption) (by rfl) ?_
    intro _ _ _ _
    refine AiCons_ (AsgN_ (store_ ‹_› up5 rp2 ?_))
    refine AiCons_ (AsgN_ (store_ ‹_› up5 rp3 ?_))
    refine AiNil_ (sUnC (cF hE (evs1 (evN hE mm5 mm3) evs0) (ofCa (fun _ => k_decode_session ‹_› ‹_› ‹_› ‹_› ?_))))
    intro _
    refine asg3 hE mm0 up6 rp4 up6 rp5 up6 rp6 (sX hE (MCallA (Name_ mm6 mm1 (methLA mm5 (CallBA (ArgsCons_ (Tuple' ?_ (by decide))))))))
    refine ArgsCons_ (cF hE (evs1 (evN hE mm6 mm2) evs0) (ofCa (fun _ => k_client_of ‹_› ‹_› ?_)))
    refine ArgsCons_ (Name_ mm6 mm4 (ArgsCons_ (Name_ mm6 mm5 (ArgsCons_ (Name_ mm6 mm6 (ArgsNil_ ?_))))))
    refine ⟨rfl, ?_⟩
    intro _
    refine ArgsNil_ (appendLA up6 (n_tr ‹_› (by decide)) ?_)
    refine Nil_ (hideOut ‹_› ?_)
    refine onL_n ?_
    rotate_left
    rename_i t
    exact ⟨_, by rw [quadsL_cons]; exact (pC rm2 (pC rm2 (pC rm2 (pC rm2 (pC rm2 (pC rm2 (pC rm2 (pC rm0 (pS Pick.refl))))))))), (t, c, la, op, rp) :: ts, _, some (.bytes (skey c)), some (.bytes (ses la op rp)), some (.int la), some (.bool op), some (.bytes rp), by rw [List.map_cons, List.reverse_cons, ← e1], by rw [List.map_cons, List.reverse_cons, e2, htk], rfl⟩
  case fin =>
    rintro Li ⟨ts, xs, kv, kw, k1, k2, k3, e1, e2, rfl⟩
    rw [List.take_of_length_le (by rw [he1, hlen, ← he2]; simp)] at e2
    have hxs : xs.length ≤ 100 := by
      have h1 := congrArg List.length e2
      simp only [List.length_reverse, List.length_map, sel] at h1 hlen
      have h3 := List.length_filter_le (fun k => !lt8 k [115] && lt8 k [116]) ks
      have h4 := hp1.length_eq
      rw [List.length_map] at h4
      rw [e1, List.length_reverse, List.length_map]; lia
    refine Nil_ (onN_n (sRet (evN hE mm4 mm1) ?_))
    rotate_left
    exact ⟨_, by exact (pC rm3 (pC rm4 (pC rm1 (pC rm1 (pS (pS Pick.mid)))))), h _ ts xs e1 e2 hxs⟩
end
end
section
open Classical in
noncomputable def ci (a b : Addr × AObj) : Nat := if b = a then 1 else 0
noncomputable def cc (a : Addr × AObj) : Led → Nat
  | [] => 0
  | b :: l => cc a l + ci a b
theorem cc_nil {a : Addr × AObj} : cc a [] = 0 := rfl
theorem cc_cons {a b : Addr × AObj} {l : Led} : cc a (b :: l) = cc a l + ci a b := rfl
theorem cc_app {a : Addr × AObj} {l l' : Led} : cc a (l ++ l') = cc a l + cc a l' := by
  induction l with
  | nil => simp [cc]
  | cons b l ih => rw [List.cons_append, cc_cons, ih, cc_cons]; lia
theorem cc_mem {a : Addr × AObj} {l : Led} (h : 0 < cc a l) : a ∈ l := by
  induction l with
  | nil => simp [cc] at h
  | cons b l ih =>
    by_cases e : b = a
    · subst e; exact List.mem_cons_self
    · simp only [cc, ci, e, if_false, Nat.add_zero] at h
      exact List.mem_cons_of_mem _ (ih h)
theorem mem_rem {p : Addr × AObj} {L : Led} (h : p ∈ L) : ∃ L1, Rem p L L1 := by
  induction L with
  | nil => cases h
  | cons q L ih =>
    rcases List.mem_cons.mp h with rfl | h
    · exact ⟨_, .head⟩
    · obtain ⟨L1, r⟩ := ih h; exact ⟨_, .tail r⟩
theorem cc_perm {a : Addr × AObj} {l l' : Led} (h : l.Perm l') : cc a l = cc a l' := by
  induction h with
  | nil => rfl
  | cons x _ ih => rw [cc_cons, ih, ← cc_cons]
  | swap x y l => simp only [cc_cons]; lia
  | trans _ _ ih ih' => exact ih.trans ih'
theorem Pick.of {M : Led} : ∀ {L' L : Led}, (∀ a, cc a L' + cc a M = cc a L) → Pick L' L
  | [], L, _ => by simpa using Pick.app (R := []) L
  | p :: L', L, h => by
    have hm : p ∈ L := cc_mem (by have := h p; rw [cc_cons] at this; simp only [ci, if_true] at this; lia)
    obtain ⟨L1, r⟩ := mem_rem hm
    refine .cons r (Pick.of (M := M) fun a => ?_)
    have h1 := h a
    have h2 := cc_perm (a := a) r.perm
    rw [cc_cons] at h1 h2
    lia
noncomputable abbrev rowT (q : List UInt8 × List UInt8) : TD := .tup [.bytes q.1, .bytes q.2]
noncomputable abbrev sesT (q : Int × Int × Bool × List UInt8) : TD := .tup [.int q.1, .int q.2.1, .bool q.2.2.1, .bytes q.2.2.2]
theorem told_pairs {W : Led} {m : Nat} : ∀ {ts : List (Addr × List UInt8 × AV)} {rows : List (List UInt8 × List UInt8)}, (∀ q ∈ ts, pairE q ∈ W) → ts.map (·.2) = rows.map (fun q => (q.1, AV.bytes q.2)) → All2 (Told W (m + 1)) (ts.map fun q => AV.con (.ref q.1)) (rows.map rowT)
  | [], [], _, _ => .nil
  | [], _ :: _, _, e => by cases e
  | _ :: _, [], _, e => by cases e
  | q :: ts, r :: rows, h, e => by
    rw [List.map_cons, List.map_cons, List.cons.injEq] at e
    have e1 : q.2.1 = r.1 := congrArg Prod.fst e.1
    have e2 : q.2.2 = .bytes r.2 := congrArg Prod.snd e.1
    refine .cons (.inr ⟨q.1, [.bytes q.2.1, q.2.2], _, rfl, rfl, h q List.mem_cons_self, .cons ?_ (.cons ?_ .nil)⟩) (told_pairs (fun x hx => h x (List.mem_cons_of_mem _ hx)) e.2)
    · rw [e1]; cases m <;> first | exact rfl | exact .inl rfl
    · rw [e2]; cases m <;> first | exact rfl | exact .inl rfl
theorem told_quads {W : Led} {m : Nat} : ∀ {ts : List (Addr × Int × Int × Bool × List UInt8)} {D : List (Int × Int × Bool × List UInt8)}, (∀ q ∈ ts, quadE q ∈ W) → ts.map (·.2) = D → All2 (Told W (m + 1)) (ts.map fun q => AV.con (.ref q.1)) (D.map sesT)
  | [], [], _, _ => .nil
  | [], _ :: _, _, e => by cases e
  | _ :: _, [], _, e => by cases e
  | q :: ts, r :: D, h, e => by
    rw [List.map_cons, List.cons.injEq] at e
    obtain ⟨rfl, e⟩ := e
    refine .cons (.inr ⟨q.1, [.int q.2.1, .int q.2.2.1, .bool q.2.2.2.1, .bytes q.2.2.2.2], _, rfl, rfl, h q List.mem_cons_self, .cons ?_ (.cons ?_ (.cons ?_ (.cons ?_ .nil)))⟩) (told_quads (fun x hx => h x (List.mem_cons_of_mem _ hx)) e)
    all_goals (cases m <;> first | exact rfl | exact .inl rfl)
section
variable {G : Gr} {n : Nat} {R : Led} {vs : List Value} {K : AV → Led → Prop}
theorem k_row {m s dn lb : Addr} {a t d k l : Int} {es : List (List UInt8 × AV)} {D : List (Int × Int × Bool × List UInt8)} {rows : List (List UInt8 × List UInt8)} (hv : VRs [] vs) (he : es.length < 64) (hsz : ∀ q ∈ es, q.1.length ≤ 1000)
    (hses : ∀ ks, ks.Perm (es.map (·.1)) → ks.Pairwise (fun a b => lt8 b a = false) → All2 SesRow (sel es [115] [116] ks) D)
    (hrow : ∀ ks, ks.Perm (es.map (·.1)) → ks.Pairwise (fun a b => lt8 b a = false) → (sel es [100] [101] ks).map (fun q => (q.1.drop 1, q.2)) = rows.map fun q => (q.1, AV.bytes q.2))
    (h : ∀ q W, Told W 3 (.con (.ref q)) (.tup [.int a, .int t, .bytes [], .tup (rows.map rowT), .tup (D.map sesT)]) →
      K (.con (.ref q)) (W ++ (macE m s a t d :: stoE s dn lb k l :: (dn, .bd es) :: R))) (hn : 8 ≤ n := by fail "mx nn") :
    Cc G n (macE m s a t d :: stoE s dn lb k l :: (dn, .bd es) :: R) (.ref 803) ([.ref m] ++ vs) K := by
  refine f_803 (by fail "mx nn") (by exact (VRs.cons (VR_ref _) ‹_›)) rfl (fun p hE => ?_)
  refine sRetC (Tuple' ?_ (by decide))
  refine ArgsCons_ (AttrA (Name_ mm0 mm0 (getAA mm1 mm1 (by intro _; exact ⟨Bool.and_eq_true_iff.mpr ⟨by k_is, by k_is⟩, by k_is, by k_is⟩) hand_i ?_)))
  refine ArgsCons_ (AttrA (Name_ mm0 mm0 (getAA mm1 mm2 (by intro _; exact ⟨Bool.and_eq_true_iff.mpr ⟨by k_is, by k_is⟩, by k_is, by k_is⟩) hand_i ?_)))
  refine ArgsCons_ (AttrA (Name_ mm0 mm0 (getAA mm1 mm3 (by intro _; exact ⟨Bool.and_eq_true_iff.mpr ⟨by k_is, by k_is⟩, by k_is, by k_is⟩) hand_b ?_)))
  refine ArgsCons_ (CallTNA (by k_is) (by boot_by_name) ?_ (by kernel_rfl))
  refine ArgsCons_ (cM (evN hE mm0 mm0) (gM mm1 rfl) evs0 (ofCa (fun _ => Cc.pick (pC rm1 (pC rm1 (pk rm1))) (k_rows ‹_› ‹_› ‹_› ?_))))
  intro _ _ _ _ _ _ _ _ _
  refine ArgsNil_ (tupleLA mm0 (n_tr ‹_› (by decide)) ?_)
  intro _
  refine ArgsCons_ (CallTNA (by k_is) (by boot_by_name) ?_ (by kernel_rfl))
  refine ArgsCons_ (MCallA ?_)
  rotate_left
  rename_i l1 ks ts xs1 hp1 hp2 e1 e2 hl1 t1
  refine C.perm ((((((List.perm_middle).cons _).cons _).cons _).cons _).cons _) (Name_ mm5 mm0 (methIA mm2 (by rfl) (by intro _; exact ⟨by k_is, by k_is, by k_is⟩) ?_))
  refine CallWA (by intro _; k_is) ?_
  refine ArgsNil_ (ofCa (fun _ => Cc.pick (pC rm2 (pC rm2 (pk rm2))) (k_sessions ‹_› ‹_› ‹_› ?_)))
  intro _ _ _ _ _ _
  refine ArgsNil_ (tupleLA mm0 (n_tr ‹_› (by decide)) ?_)
  intro _
  refine ArgsNil_ ?_
  refine ⟨rfl, ?_⟩
  intro _
  refine kR_ ?_
  rotate_left
  rename_i l2 ts2 xs2 f1 f2 hl2 t2 q
  refine ⟨((q, .tuple [.int a, .int t, .bytes [], .con (.ref t1), .con (.ref t2)]) :: (t2, .tuple xs2) :: (t1, .tuple xs1) :: (quadsL ts2 ++ pairsL ts)) ++ (macE m s a t d :: stoE s dn lb k l :: (dn, .bd es) :: R),
    Pick.of (M := [(l2, .list xs2), (l1, .list xs1), (p, .ns fo_803.1.scope [("self", some (.con (.ref m)))])]) (by intro a; simp only [cc_cons, cc_app, cc_nil]; lia), h _ _ (.inr ⟨q, _, _, rfl, rfl, List.mem_cons_self, ?_⟩)⟩
  refine .cons (.inl rfl) (.cons (.inl rfl) (.cons (.inl rfl) (.cons (.inr ⟨t1, xs1, _, rfl, rfl, List.mem_cons_of_mem _ (List.mem_cons_of_mem _ List.mem_cons_self), ?_⟩) (.cons (.inr ⟨t2, xs2, _, rfl, rfl, List.mem_cons_of_mem _ List.mem_cons_self, ?_⟩) .nil))))
  · rw [e1, ← List.map_reverse]
    refine told_pairs (fun x hx => ?_) ?_
    · simp only [List.mem_cons, List.mem_append]
      exact .inr (.inr (.inr (.inr (List.mem_map_of_mem (f := pairE) (List.mem_reverse.mp hx)))))
    · rw [List.map_reverse, e2, hrow ks hp1 hp2]
  · rw [f1, ← List.map_reverse]
    refine told_quads (fun x hx => ?_) ?_
    · simp only [List.mem_cons, List.mem_append]
      exact .inr (.inr (.inr (.inl (List.mem_map_of_mem (f := quadE) (List.mem_reverse.mp hx)))))
    · rw [List.map_reverse, f2]
end
end
section
section
variable {G : Gr} {n : Nat} {R : Led} {vs : List Value} {K : AV → Led → Prop}
theorem k_eff_0 {m s dn lb cx bx r : Addr} {a t d k l c nu w : Int} {es : List (List UInt8 × AV)} {key val : List UInt8} {e : Option (List UInt8)} {xs : List AV} (hv : VRs [.con (.ref cx), .con (.ref bx)] vs) (hkey : key.length ≤ 100) (hval : val.length ≤ 20) (hx : xs.length ≤ 1000)
    (h : K (.bytes (rep 0 none)) (macE m s a t d :: stoE s dn lb k l :: (dn, .bd es) :: cmdE cx 0 c nu key val e :: batE bx r w :: (r, .list xs) :: R)) (hn : 6 ≤ n := by fail "mx nn") :
    Cc G n (macE m s a t d :: stoE s dn lb k l :: (dn, .bd es) :: cmdE cx 0 c nu key val e :: batE bx r w :: (r, .list xs) :: R) (.ref 761) ([.ref m] ++ vs) K := by
  refine f_761 (by fail "mx nn") (by exact (VRs.cons (VR_ref _) ‹_›)) rfl (fun p hE => ?_)
  refine sAsg hE (evA (evN hE mm0 mm1) mm4 mm0 hand_i) up0 rp3 (sIf (tvL (orT (tvC (evN hE mm0 mm3) (evGI hE) cEq) (by decide))) ?_)
  refine kT rfl (App.cons App.nil) (sRetC (cF hE (evs1 (evGI hE) (evs1 evZ evs0)) (ofCa (fun ζ => k_make_reply_n ‹_› (i_cl (by decide)) (i_cl' (by decide)) ?_))))
  refine kR_ ?_
  rotate_left
  exact ⟨_, by exact (pC rm1 (pC rm1 (pC rm1 (pC rm1 (pC rm1 (pC rm1 (pS Pick.refl))))))), h⟩
theorem k_eff_5 {m s dn lb cx bx r : Addr} {a t d k l c nu w : Int} {es : List (List UInt8 × AV)} {key val : List UInt8} {e : Option (List UInt8)} {xs : List AV} (hv : VRs [.con (.ref cx), .con (.ref bx)] vs) (hkey : key.length ≤ 100) (hval : val.length ≤ 20) (hx : xs.length ≤ 1000)
    (h : K (.bytes (rep 0 none)) (macE m s a t d :: stoE s dn lb k l :: (dn, .bd es) :: cmdE cx 5 c nu key val e :: batE bx r w :: (r, .list xs) :: R)) (hn : 6 ≤ n := by fail "mx nn") :
    Cc G n (macE m s a t d :: stoE s dn lb k l :: (dn, .bd es) :: cmdE cx 5 c nu key val e :: batE bx r w :: (r, .list xs) :: R) (.ref 761) ([.ref m] ++ vs) K := by
  refine f_761 (by fail "mx nn") (by exact (VRs.cons (VR_ref _) ‹_›)) rfl (fun p hE => ?_)
  refine sAsg hE (evA (evN hE mm0 mm1) mm4 mm0 hand_i) up0 rp3 (sIf (tvL (orF (tvC (evN hE mm0 mm3) (evGI hE) cEq) (by decide) (orT (tvC (evN hE mm0 mm3) (evGI hE) cEq) (by decide)))) ?_)
  refine kT rfl (App.cons App.nil) (sRetC (cF hE (evs1 (evGI hE) (evs1 evZ evs0)) (ofCa (fun ζ => k_make_reply_n ‹_› (i_cl (by decide)) (i_cl' (by decide)) ?_))))
  refine kR_ ?_
  rotate_left
  exact ⟨_, by exact (pC rm1 (pC rm1 (pC rm1 (pC rm1 (pC rm1 (pC rm1 (pS Pick.refl))))))), h⟩
theorem k_eff_6 {m s dn lb cx bx r : Addr} {a t d k l c nu w : Int} {es : List (List UInt8 × AV)} {key val : List UInt8} {e : Option (List UInt8)} {xs : List AV} (hv : VRs [.con (.ref cx), .con (.ref bx)] vs) (hkey : key.length ≤ 100) (hval : val.length ≤ 20) (hx : xs.length ≤ 1000)
    (h : K (.bytes (rep 0 none)) (macE m s a t d :: stoE s dn lb k l :: (dn, .bd es) :: cmdE cx 6 c nu key val e :: batE bx r w :: (r, .list xs) :: R)) (hn : 6 ≤ n := by fail "mx nn") :
    Cc G n (macE m s a t d :: stoE s dn lb k l :: (dn, .bd es) :: cmdE cx 6 c nu key val e :: batE bx r w :: (r, .list xs) :: R) (.ref 761) ([.ref m] ++ vs) K := by
  refine f_761 (by fail "mx nn") (by exact (VRs.cons (VR_ref _) ‹_›)) rfl (fun p hE => ?_)
  refine sAsg hE (evA (evN hE mm0 mm1) mm4 mm0 hand_i) up0 rp3 (sIf (tvL (orF (tvC (evN hE mm0 mm3) (evGI hE) cEq) (by decide) (orF (tvC (evN hE mm0 mm3) (evGI hE) cEq) (by decide) (orT (tvC (evN hE mm0 mm3) (evGI hE) cEq) (by decide))))) ?_)
  refine kT rfl (App.cons App.nil) (sRetC (cF hE (evs1 (evGI hE) (evs1 evZ evs0)) (ofCa (fun ζ => k_make_reply_n ‹_› (i_cl (by decide)) (i_cl' (by decide)) ?_))))
  refine kR_ ?_
  rotate_left
  exact ⟨_, by exact (pC rm1 (pC rm1 (pC rm1 (pC rm1 (pC rm1 (pC rm1 (pS Pick.refl))))))), h⟩
theorem k_eff_1 {m s dn lb cx bx r : Addr} {a t d k l c nu w : Int} {es : List (List UInt8 × AV)} {key val : List UInt8} {e : Option (List UInt8)} {xs : List AV} {o : Option (List UInt8)} (hv : VRs [.con (.ref cx), .con (.ref bx)] vs) (hkey : key.length ≤ 100) (hval : val.length ≤ 20) (hx : xs.length ≤ 1000) (hl : lookA es (100 :: key) = o.map .bytes) (ho : ∀ c, o = some c → c.length < 128)
    (h : ∀ t' w', K (.bytes (rep 0 o)) (macE m s a t d :: stoE s dn lb k l :: (dn, .bd es) :: cmdE cx 1 c nu key val e :: batE bx r w' :: (r, .list (xs ++ [.con (.ref t')])) :: rowE t' 1 (100 :: key) val :: R)) (hn : 6 ≤ n := by fail "mx nn") :
    Cc G n (macE m s a t d :: stoE s dn lb k l :: (dn, .bd es) :: cmdE cx 1 c nu key val e :: batE bx r w :: (r, .list xs) :: R) (.ref 761) ([.ref m] ++ vs) K := by
  refine f_761 (by fail "mx nn") (by exact (VRs.cons (VR_ref _) ‹_›)) rfl (fun p hE => ?_)
  refine sAsg hE (evA (evN hE mm0 mm1) mm4 mm0 hand_i) up0 rp3 (sIf (tvL (orF (tvC (evN hE mm0 mm3) (evGI hE) cEq) (by decide) (orF (tvC (evN hE mm0 mm3) (evGI hE) cEq) (by decide) (orF (tvC (evN hE mm0 mm3) (evGI hE) cEq) (by decide) or0)))) ?_)
  refine kF rfl App.nil (sAsgC (cF hE (evs1 (evA (evN hE mm0 mm1) mm4 mm3 hand_b) evs0) (ofCa (fun ζ => k_data_key ‹_› (n_tr ‹_› (by decide)) ?_))))
  refine sSt hE up0 rp4 (sAsgC (cM (evA (evN hE mm0 mm0) mm1 mm0 hand_r) (gM mm2 rfl) (evs1 (evN hE mm0 mm4) evs0) (ofCa (fun ζ => Cc.pick (pC rm2 (pk rm2)) (k_ms_get_o ‹_› ‹_› ?_)))))
  refine sSt hE up2 rp5 (sIf (tvC (evN hE mm2 mm3) (evGI hE) cEq) (kT (by decide) (App.cons App.nil) ?_))
  refine sX hE (cM (evN hE mm2 mm2) (gM mm5 rfl) (evs1 (evN hE mm2 mm4) (evs1 (evA (evN hE mm2 mm1) mm4 mm4 hand_b) evs0)) (ofCa (fun ζ => Cc.pick (pC rm5 (pk rm5)) (k_wb_put ‹_› (by simp only [lens, false_implies, implies_true, and_true]; first | done | lia) (n_le_lt ‹_› (by decide)) ‹_› ?_))))
  intro ζ ζ
  refine sRetC (cF hE (evs1 (evGI hE) (evs1 (evN hE mm5 mm5) evs0)) (ofCa (fun ζ => k_make_reply ‹_› (i_cl (by decide)) (i_cl' (by decide)) ‹_› ?_)))
  refine kR_ ?_
  rotate_left
  exact ⟨_, by exact (pC rm6 (pC rm3 (pC rm3 (pC rm4 (pC rm0 (pC rm0 (pC rm0 (pS Pick.refl)))))))), h _ _⟩
end
end
section
section
variable {G : Gr} {n : Nat} {R : Led} {vs : List Value} {K : AV → Led → Prop}
theorem k_eff_2n {m s dn lb cx bx r : Addr} {a t d k l c nu w : Int} {es : List (List UInt8 × AV)} {key val : List UInt8} {e : Option (List UInt8)} {xs : List AV} (hv : VRs [.con (.ref cx), .con (.ref bx)] vs) (hkey : key.length ≤ 100) (hval : val.length ≤ 20) (hx : xs.length ≤ 1000) (hl : lookA es (100 :: key) = none)
    (h : K (.bytes (rep 0 none)) (macE m s a t d :: stoE s dn lb k l :: (dn, .bd es) :: cmdE cx 2 c nu key val e :: batE bx r w :: (r, .list xs) :: R)) (hn : 6 ≤ n := by fail "mx nn") :
    Cc G n (macE m s a t d :: stoE s dn lb k l :: (dn, .bd es) :: cmdE cx 2 c nu key val e :: batE bx r w :: (r, .list xs) :: R) (.ref 761) ([.ref m] ++ vs) K := by
  refine f_761 (by fail "mx nn") (by exact (VRs.cons (VR_ref _) ‹_›)) rfl (fun p hE => ?_)
  refine sAsg hE (evA (evN hE mm0 mm1) mm4 mm0 hand_i) up0 rp3 (sIf (tvL (orF (tvC (evN hE mm0 mm3) (evGI hE) cEq) (by decide) (orF (tvC (evN hE mm0 mm3) (evGI hE) cEq) (by decide) (orF (tvC (evN hE mm0 mm3) (evGI hE) cEq) (by decide) or0)))) ?_)
  refine kF rfl App.nil (sAsgC (cF hE (evs1 (evA (evN hE mm0 mm1) mm4 mm3 hand_b) evs0) (ofCa (fun ζ => k_data_key ‹_› (n_tr ‹_› (by decide)) ?_))))
  refine sSt hE up0 rp4 (sAsgC (cM (evA (evN hE mm0 mm0) mm1 mm0 hand_r) (gM mm2 rfl) (evs1 (evN hE mm0 mm4) evs0) (ofCa (fun ζ => Cc.pick (pC rm2 (pk rm2)) (k_ms_get_n ‹_› ‹_› ?_)))))
  refine sSt hE up2 rp5 (sIf (tvC (evN hE mm2 mm3) (evGI hE) cEq) (kF (by decide) (App.cons App.nil) ?_))
  refine sIf (tvC (evN hE mm2 mm3) (evGI hE) cEq) (kT (by decide) (App.cons App.nil) ?_)
  refine sIf (tvC (evN hE mm2 mm5) evZ cNtN) (kF rfl App.nil (sRetC (cF hE (evs1 (evGI hE) (evs1 (evN hE mm2 mm5) evs0)) (ofCa (fun ζ => k_make_reply_n ‹_› (i_cl (by decide)) (i_cl' (by decide)) ?_)))))
  refine kR_ ?_
  rotate_left
  exact ⟨_, by exact (pC rm3 (pC rm0 (pC rm0 (pC rm1 (pC rm1 (pC rm1 (pS Pick.refl))))))), h⟩
theorem k_eff_2s {m s dn lb cx bx r : Addr} {a t d k l c nu w : Int} {es : List (List UInt8 × AV)} {key val : List UInt8} {e : Option (List UInt8)} {xs : List AV} {o : List UInt8} (hv : VRs [.con (.ref cx), .con (.ref bx)] vs) (hkey : key.length ≤ 100) (hval : val.length ≤ 20) (hx : xs.length ≤ 1000) (hl : lookA es (100 :: key) = some (.bytes o)) (ho : o.length < 100)
    (h : ∀ t' w', K (.bytes (rep 0 (some o))) (macE m s a t d :: stoE s dn lb k l :: (dn, .bd es) :: cmdE cx 2 c nu key val e :: batE bx r w' :: (r, .list (xs ++ [.con (.ref t')])) :: rowE t' 0 (100 :: key) [] :: R)) (hn : 6 ≤ n := by fail "mx nn") :
    Cc G n (macE m s a t d :: stoE s dn lb k l :: (dn, .bd es) :: cmdE cx 2 c nu key val e :: batE bx r w :: (r, .list xs) :: R) (.ref 761) ([.ref m] ++ vs) K := by
  refine f_761 (by fail "mx nn") (by exact (VRs.cons (VR_ref _) ‹_›)) rfl (fun p hE => ?_)
  refine sAsg hE (evA (evN hE mm0 mm1) mm4 mm0 hand_i) up0 rp3 (sIf (tvL (orF (tvC (evN hE mm0 mm3) (evGI hE) cEq) (by decide) (orF (tvC (evN hE mm0 mm3) (evGI hE) cEq) (by decide) (orF (tvC (evN hE mm0 mm3) (evGI hE) cEq) (by decide) or0)))) ?_)
  refine kF rfl App.nil (sAsgC (cF hE (evs1 (evA (evN hE mm0 mm1) mm4 mm3 hand_b) evs0) (ofCa (fun ζ => k_data_key ‹_› (n_tr ‹_› (by decide)) ?_))))
  refine sSt hE up0 rp4 (sAsgC (cM (evA (evN hE mm0 mm0) mm1 mm0 hand_r) (gM mm2 rfl) (evs1 (evN hE mm0 mm4) evs0) (ofCa (fun ζ => Cc.pick (pC rm2 (pk rm2)) (k_ms_get_s ‹_› ‹_› ?_)))))
  refine sSt hE up2 rp5 (sIf (tvC (evN hE mm2 mm3) (evGI hE) cEq) (kF (by decide) (App.cons App.nil) ?_))
  refine sIf (tvC (evN hE mm2 mm3) (evGI hE) cEq) (kT (by decide) (App.cons App.nil) ?_)
  refine sIf (tvC (evN hE mm2 mm5) evZ cNtB) (kT rfl (App.cons App.nil) (sX hE (cM (evN hE mm2 mm2) (gM mm5 rfl) (evs1 (evN hE mm2 mm4) evs0) (ofCa (fun ζ => Cc.pick (pC rm5 (pk rm5)) (k_wb_delete ‹_› (by simp only [lens, false_implies, implies_true, and_true]; first | done | lia) ‹_› ?_))))))
  intro ζ ζ
  refine sRetC (cF hE (evs1 (evGI hE) (evs1 (evN hE mm5 mm5) evs0)) (ofCa (fun ζ => k_make_reply_s ‹_› (i_cl (by decide)) (i_cl' (by decide)) (n_lt ‹_› (by decide)) ?_)))
  refine kR_ ?_
  rotate_left
  exact ⟨_, by exact (pC rm6 (pC rm3 (pC rm3 (pC rm4 (pC rm0 (pC rm0 (pC rm0 (pS Pick.refl)))))))), h _ _⟩
theorem k_eff_3y {m s dn lb cx bx r : Addr} {a t d k l c nu w : Int} {es : List (List UInt8 × AV)} {key val : List UInt8} {e : Option (List UInt8)} {xs : List AV} {o : Option (List UInt8)} (hv : VRs [.con (.ref cx), .con (.ref bx)] vs) (hkey : key.length ≤ 100) (hval : val.length ≤ 20) (hx : xs.length ≤ 1000) (hl : lookA es (100 :: key) = o.map .bytes) (ho : ∀ c, o = some c → c.length < 128) (heq : o = e)
    (h : ∀ t' w', K (.bytes (rep 0 o)) (macE m s a t d :: stoE s dn lb k l :: (dn, .bd es) :: cmdE cx 3 c nu key val e :: batE bx r w' :: (r, .list (xs ++ [.con (.ref t')])) :: rowE t' 1 (100 :: key) val :: R)) (hn : 6 ≤ n := by fail "mx nn") :
    Cc G n (macE m s a t d :: stoE s dn lb k l :: (dn, .bd es) :: cmdE cx 3 c nu key val e :: batE bx r w :: (r, .list xs) :: R) (.ref 761) ([.ref m] ++ vs) K := by
  refine f_761 (by fail "mx nn") (by exact (VRs.cons (VR_ref _) ‹_›)) rfl (fun p hE => ?_)
  refine sAsg hE (evA (evN hE mm0 mm1) mm4 mm0 hand_i) up0 rp3 (sIf (tvL (orF (tvC (evN hE mm0 mm3) (evGI hE) cEq) (by decide) (orF (tvC (evN hE mm0 mm3) (evGI hE) cEq) (by decide) (orF (tvC (evN hE mm0 mm3) (evGI hE) cEq) (by decide) or0)))) ?_)
  refine kF rfl App.nil (sAsgC (cF hE (evs1 (evA (evN hE mm0 mm1) mm4 mm3 hand_b) evs0) (ofCa (fun ζ => k_data_key ‹_› (n_tr ‹_› (by decide)) ?_))))
  refine sSt hE up0 rp4 (sAsgC (cM (evA (evN hE mm0 mm0) mm1 mm0 hand_r) (gM mm2 rfl) (evs1 (evN hE mm0 mm4) evs0) (ofCa (fun ζ => Cc.pick (pC rm2 (pk rm2)) (k_ms_get_o ‹_› ‹_› ?_)))))
  refine sSt hE up2 rp5 (sIf (tvC (evN hE mm2 mm3) (evGI hE) cEq) (kF (by decide) (App.cons App.nil) ?_))
  refine sIf (tvC (evN hE mm2 mm3) (evGI hE) cEq) (kF (by decide) (App.cons App.nil) ?_)
  refine sIf (tvC (evN hE mm2 mm3) (evGI hE) cEq) (kT (by decide) (App.cons (App.cons App.nil)) ?_)
  refine Cons' (If' (TtNot_ (TtValA (cF hE (evs1 (evN hE mm2 mm5) (evs1 (evA (evN hE mm2 mm1) mm4 mm5 hand_o) evs0)) (ofCa (fun ζ => k_same_maybe ‹_› ?_))))))
  refine truthyA (onB_f (by simp only [decide_eq_true_eq, decide_eq_false_iff_not, beq_iff_eq, bne_iff_ne, beq_eq_false_iff_ne, bne_eq_false_iff_eq, Bool.not_eq_true', Bool.not_eq_false', ne_eq, ge_iff_le, gt_iff_lt, Option.isSome_some, Option.isSome_none, Option.isNone_some, Option.isNone_none, List.length_cons, List.length_nil]; first | done | lia | assumption) ?_)
  refine Nil_ (onN_n (sX hE (cM (evN hE mm2 mm2) (gM mm5 rfl) (evs1 (evN hE mm2 mm4) (evs1 (evA (evN hE mm2 mm1) mm4 mm4 hand_b) evs0)) (ofCa (fun ζ => Cc.pick (pC rm5 (pk rm5)) (k_wb_put ‹_› (by simp only [lens, false_implies, implies_true, and_true]; first | done | lia) (n_le_lt ‹_› (by decide)) ‹_› ?_))))))
  intro ζ ζ
  refine sRetC (cF hE (evs1 (evGI hE) (evs1 (evN hE mm5 mm5) evs0)) (ofCa (fun ζ => k_make_reply ‹_› (i_cl (by decide)) (i_cl' (by decide)) ‹_› ?_)))
  refine kR_ ?_
  rotate_left
  exact ⟨_, by exact (pC rm6 (pC rm3 (pC rm3 (pC rm4 (pC rm0 (pC rm0 (pC rm0 (pS Pick.refl)))))))), h _ _⟩
end
end
section
section
variable {G : Gr} {n : Nat} {R : Led} {vs : List Value} {K : AV → Led → Prop}
theorem k_eff_3n {m s dn lb cx bx r : Addr} {a t d k l c nu w : Int} {es : List (List UInt8 × AV)} {key val : List UInt8} {e : Option (List UInt8)} {xs : List AV} {o : Option (List UInt8)} (hv : VRs [.con (.ref cx), .con (.ref bx)] vs) (hkey : key.length ≤ 100) (hval : val.length ≤ 20) (hx : xs.length ≤ 1000) (hl : lookA es (100 :: key) = o.map .bytes) (ho : ∀ c, o = some c → c.length < 128) (heq : ¬ o = e)
    (h : K (.bytes (rep 1 o)) (macE m s a t d :: stoE s dn lb k l :: (dn, .bd es) :: cmdE cx 3 c nu key val e :: batE bx r w :: (r, .list xs) :: R)) (hn : 6 ≤ n := by fail "mx nn") :
    Cc G n (macE m s a t d :: stoE s dn lb k l :: (dn, .bd es) :: cmdE cx 3 c nu key val e :: batE bx r w :: (r, .list xs) :: R) (.ref 761) ([.ref m] ++ vs) K := by
  refine f_761 (by fail "mx nn") (by exact (VRs.cons (VR_ref _) ‹_›)) rfl (fun p hE => ?_)
  refine sAsg hE (evA (evN hE mm0 mm1) mm4 mm0 hand_i) up0 rp3 (sIf (tvL (orF (tvC (evN hE mm0 mm3) (evGI hE) cEq) (by decide) (orF (tvC (evN hE mm0 mm3) (evGI hE) cEq) (by decide) (orF (tvC (evN hE mm0 mm3) (evGI hE) cEq) (by decide) or0)))) ?_)
  refine kF rfl App.nil (sAsgC (cF hE (evs1 (evA (evN hE mm0 mm1) mm4 mm3 hand_b) evs0) (ofCa (fun ζ => k_data_key ‹_› (n_tr ‹_› (by decide)) ?_))))
  refine sSt hE up0 rp4 (sAsgC (cM (evA (evN hE mm0 mm0) mm1 mm0 hand_r) (gM mm2 rfl) (evs1 (evN hE mm0 mm4) evs0) (ofCa (fun ζ => Cc.pick (pC rm2 (pk rm2)) (k_ms_get_o ‹_› ‹_› ?_)))))
  refine sSt hE up2 rp5 (sIf (tvC (evN hE mm2 mm3) (evGI hE) cEq) (kF (by decide) (App.cons App.nil) ?_))
  refine sIf (tvC (evN hE mm2 mm3) (evGI hE) cEq) (kF (by decide) (App.cons App.nil) ?_)
  refine sIf (tvC (evN hE mm2 mm3) (evGI hE) cEq) (kT (by decide) (App.cons (App.cons App.nil)) ?_)
  refine Cons' (If' (TtNot_ (TtValA (cF hE (evs1 (evN hE mm2 mm5) (evs1 (evA (evN hE mm2 mm1) mm4 mm5 hand_o) evs0)) (ofCa (fun ζ => k_same_maybe ‹_› ?_))))))
  refine truthyA (onB_t (by simp only [decide_eq_true_eq, decide_eq_false_iff_not, beq_iff_eq, bne_iff_ne, beq_eq_false_iff_ne, bne_eq_false_iff_eq, Bool.not_eq_true', Bool.not_eq_false', ne_eq, ge_iff_le, gt_iff_lt, Option.isSome_some, Option.isSome_none, Option.isNone_some, Option.isNone_none, List.length_cons, List.length_nil]; first | done | lia | assumption) ?_)
  refine sRetC (cF hE (evs1 (evGI hE) (evs1 (evN hE mm2 mm5) evs0)) (ofCa (fun ζ => k_make_reply ‹_› (i_cl (by decide)) (i_cl' (by decide)) ‹_› ?_)))
  refine kR_ (onN_r ?_)
  rotate_left
  exact ⟨_, by exact (pC rm3 (pC rm0 (pC rm0 (pC rm1 (pC rm1 (pC rm1 (pS Pick.refl))))))), h⟩
theorem k_eff_4n {m s dn lb cx bx r : Addr} {a t d k l c nu w : Int} {es : List (List UInt8 × AV)} {key val : List UInt8} {e : Option (List UInt8)} {xs : List AV} (hv : VRs [.con (.ref cx), .con (.ref bx)] vs) (hkey : key.length ≤ 100) (hval : val.length ≤ 20) (hx : xs.length ≤ 1000) (hl : lookA es (100 :: key) = none)
    (h : ∀ t' w', K (.bytes (rep 0 none)) (macE m s a t d :: stoE s dn lb k l :: (dn, .bd es) :: cmdE cx 4 c nu key val e :: batE bx r w' :: (r, .list (xs ++ [.con (.ref t')])) :: rowE t' 1 (100 :: key) val :: R)) (hn : 6 ≤ n := by fail "mx nn") :
    Cc G n (macE m s a t d :: stoE s dn lb k l :: (dn, .bd es) :: cmdE cx 4 c nu key val e :: batE bx r w :: (r, .list xs) :: R) (.ref 761) ([.ref m] ++ vs) K := by
  refine f_761 (by fail "mx nn") (by exact (VRs.cons (VR_ref _) ‹_›)) rfl (fun p hE => ?_)
  refine sAsg hE (evA (evN hE mm0 mm1) mm4 mm0 hand_i) up0 rp3 (sIf (tvL (orF (tvC (evN hE mm0 mm3) (evGI hE) cEq) (by decide) (orF (tvC (evN hE mm0 mm3) (evGI hE) cEq) (by decide) (orF (tvC (evN hE mm0 mm3) (evGI hE) cEq) (by decide) or0)))) ?_)
  refine kF rfl App.nil (sAsgC (cF hE (evs1 (evA (evN hE mm0 mm1) mm4 mm3 hand_b) evs0) (ofCa (fun ζ => k_data_key ‹_› (n_tr ‹_› (by decide)) ?_))))
  refine sSt hE up0 rp4 (sAsgC (cM (evA (evN hE mm0 mm0) mm1 mm0 hand_r) (gM mm2 rfl) (evs1 (evN hE mm0 mm4) evs0) (ofCa (fun ζ => Cc.pick (pC rm2 (pk rm2)) (k_ms_get_n ‹_› ‹_› ?_)))))
  refine sSt hE up2 rp5 (sIf (tvC (evN hE mm2 mm3) (evGI hE) cEq) (kF (by decide) (App.cons App.nil) ?_))
  refine sIf (tvC (evN hE mm2 mm3) (evGI hE) cEq) (kF (by decide) (App.cons App.nil) ?_)
  refine sIf (tvC (evN hE mm2 mm3) (evGI hE) cEq) (kF (by decide) (App.cons App.nil) ?_)
  refine sIf (tvC (evN hE mm2 mm5) evZ cIsN) (kT rfl (App.cons App.nil) (sX hE (cM (evN hE mm2 mm2) (gM mm5 rfl) (evs1 (evN hE mm2 mm4) (evs1 (evA (evN hE mm2 mm1) mm4 mm4 hand_b) evs0)) (ofCa (fun ζ => Cc.pick (pC rm5 (pk rm5)) (k_wb_put ‹_› (by simp only [lens, false_implies, implies_true, and_true]; first | done | lia) (n_le_lt ‹_› (by decide)) ‹_› ?_))))))
  intro ζ ζ
  refine sRetC (cF hE (evs1 (evGI hE) (evs1 (evN hE mm5 mm5) evs0)) (ofCa (fun ζ => k_make_reply_n ‹_› (i_cl (by decide)) (i_cl' (by decide)) ?_)))
  refine kR_ ?_
  rotate_left
  exact ⟨_, by exact (pC rm6 (pC rm3 (pC rm3 (pC rm4 (pC rm0 (pC rm0 (pC rm0 (pS Pick.refl)))))))), h _ _⟩
theorem k_eff_4s {m s dn lb cx bx r : Addr} {a t d k l c nu w : Int} {es : List (List UInt8 × AV)} {key val : List UInt8} {e : Option (List UInt8)} {xs : List AV} {o : List UInt8} (hv : VRs [.con (.ref cx), .con (.ref bx)] vs) (hkey : key.length ≤ 100) (hval : val.length ≤ 20) (hx : xs.length ≤ 1000) (hl : lookA es (100 :: key) = some (.bytes o)) (ho : o.length < 100)
    (h : ∀ t' w', K (.bytes (rep 0 (some o))) (macE m s a t d :: stoE s dn lb k l :: (dn, .bd es) :: cmdE cx 4 c nu key val e :: batE bx r w' :: (r, .list (xs ++ [.con (.ref t')])) :: rowE t' 1 (100 :: key) (o ++ val) :: R)) (hn : 6 ≤ n := by fail "mx nn") :
    Cc G n (macE m s a t d :: stoE s dn lb k l :: (dn, .bd es) :: cmdE cx 4 c nu key val e :: batE bx r w :: (r, .list xs) :: R) (.ref 761) ([.ref m] ++ vs) K := by
  refine f_761 (by fail "mx nn") (by exact (VRs.cons (VR_ref _) ‹_›)) rfl (fun p hE => ?_)
  refine sAsg hE (evA (evN hE mm0 mm1) mm4 mm0 hand_i) up0 rp3 (sIf (tvL (orF (tvC (evN hE mm0 mm3) (evGI hE) cEq) (by decide) (orF (tvC (evN hE mm0 mm3) (evGI hE) cEq) (by decide) (orF (tvC (evN hE mm0 mm3) (evGI hE) cEq) (by decide) or0)))) ?_)
  refine kF rfl App.nil (sAsgC (cF hE (evs1 (evA (evN hE mm0 mm1) mm4 mm3 hand_b) evs0) (ofCa (fun ζ => k_data_key ‹_› (n_tr ‹_› (by decide)) ?_))))
  refine sSt hE up0 rp4 (sAsgC (cM (evA (evN hE mm0 mm0) mm1 mm0 hand_r) (gM mm2 rfl) (evs1 (evN hE mm0 mm4) evs0) (ofCa (fun ζ => Cc.pick (pC rm2 (pk rm2)) (k_ms_get_s ‹_› ‹_› ?_)))))
  refine sSt hE up2 rp5 (sIf (tvC (evN hE mm2 mm3) (evGI hE) cEq) (kF (by decide) (App.cons App.nil) ?_))
  refine sIf (tvC (evN hE mm2 mm3) (evGI hE) cEq) (kF (by decide) (App.cons App.nil) ?_)
  refine sIf (tvC (evN hE mm2 mm3) (evGI hE) cEq) (kF (by decide) (App.cons App.nil) ?_)
  refine sIf (tvC (evN hE mm2 mm5) evZ cIsB) (kF rfl (App.cons App.nil) (sX hE (cM (evN hE mm2 mm2) (gM mm5 rfl) (evs1 (evN hE mm2 mm4) (evs1 (evO (evN hE mm2 mm5) (evA (evN hE mm2 mm1) mm4 mm4 hand_b) (oCat (by lia))) evs0)) ?_)))
  refine ofCa (fun ζ => Cc.pick (pC rm5 (pk rm5)) (k_wb_put ‹_› (by simp only [lens, false_implies, implies_true, and_true]; first | done | lia) (by simp only [lens, false_implies, implies_true, and_true]; first | done | lia) ‹_› ?_))
  intro ζ ζ
  refine sRetC (cF hE (evs1 (evGI hE) (evs1 (evN hE mm5 mm5) evs0)) (ofCa (fun ζ => k_make_reply_s ‹_› (i_cl (by decide)) (i_cl' (by decide)) (n_lt ‹_› (by decide)) ?_)))
  refine kR_ ?_
  rotate_left
  exact ⟨_, by exact (pC rm6 (pC rm3 (pC rm3 (pC rm4 (pC rm0 (pC rm0 (pC rm0 (pS Pick.refl)))))))), h _ _⟩
end
end
section
noncomputable def eff (k : Int) (o : Option (List UInt8)) (v : List UInt8) (e : Option (List UInt8)) : List UInt8 × Option (Option (List UInt8)) :=
  if k = 1 then (rep 0 o, some (some v))
  else if k = 2 then (match o with | none => (rep 0 none, none) | some x => (rep 0 (some x), some none))
  else if k = 3 then (if o = e then (rep 0 o, some (some v)) else (rep 1 o, none))
  else if k = 4 then (match o with | none => (rep 0 none, some (some v)) | some x => (rep 0 (some x), some (some (x ++ v))))
  else (rep 0 none, none)
section
variable {G : Gr} {n : Nat} {R : Led} {vs : List Value} {K : AV → Led → Prop}
theorem k_eff {m s dn lb cx bx r : Addr} {a t d k l kd c nu w : Int} {es : List (List UInt8 × AV)} {key val : List UInt8} {e o : Option (List UInt8)} {xs : List AV} (hv : VRs [.con (.ref cx), .con (.ref bx)] vs) (hk0 : 0 ≤ kd) (hk1 : kd ≤ 6) (hkey : key.length ≤ 100) (hval : val.length ≤ 20) (hx : xs.length ≤ 1000)
    (hl : lookA es (100 :: key) = o.map .bytes) (ho : ∀ c, o = some c → c.length < 100)
    (h : match eff kd o val e with
      | (rp, none) => K (.bytes rp) (macE m s a t d :: stoE s dn lb k l :: (dn, .bd es) :: cmdE cx kd c nu key val e :: batE bx r w :: (r, .list xs) :: R)
      | (rp, some none) => ∀ t' w', K (.bytes rp) (macE m s a t d :: stoE s dn lb k l :: (dn, .bd es) :: cmdE cx kd c nu key val e :: batE bx r w' :: (r, .list (xs ++ [.con (.ref t')])) :: rowE t' 0 (100 :: key) [] :: R)
      | (rp, some (some y)) => ∀ t' w', K (.bytes rp) (macE m s a t d :: stoE s dn lb k l :: (dn, .bd es) :: cmdE cx kd c nu key val e :: batE bx r w' :: (r, .list (xs ++ [.con (.ref t')])) :: rowE t' 1 (100 :: key) y :: R)) (hn : 6 ≤ n := by fail "mx nn") :
    Cc G n (macE m s a t d :: stoE s dn lb k l :: (dn, .bd es) :: cmdE cx kd c nu key val e :: batE bx r w :: (r, .list xs) :: R) (.ref 761) ([.ref m] ++ vs) K := by
  have ho' : ∀ c, o = some c → c.length < 128 := fun c e => by have := ho c e; lia
  have hkd : kd = 0 ∨ kd = 1 ∨ kd = 2 ∨ kd = 3 ∨ kd = 4 ∨ kd = 5 ∨ kd = 6 := by lia
  rcases hkd with rfl | rfl | rfl | rfl | rfl | rfl | rfl
  · exact k_eff_0 hv hkey hval hx h
  · exact k_eff_1 hv hkey hval hx hl ho' h
  · cases o with
    | none => exact k_eff_2n hv hkey hval hx hl h
    | some o => exact k_eff_2s hv hkey hval hx hl (ho _ rfl) h
  · by_cases heq : o = e
    · rw [show eff 3 o val e = (rep 0 o, some (some val)) by simp [eff, heq]] at h
      exact k_eff_3y hv hkey hval hx hl ho' heq h
    · rw [show eff 3 o val e = (rep 1 o, none) by simp [eff, heq]] at h
      exact k_eff_3n hv hkey hval hx hl ho' heq h
  · cases o with
    | none => exact k_eff_4n hv hkey hval hx hl h
    | some o => exact k_eff_4s hv hkey hval hx hl (ho _ rfl) h
  · exact k_eff_5 hv hkey hval hx h
  · exact k_eff_6 hv hkey hval hx h
end
end
section
section
variable {G : Gr} {n : Nat} {R : Led} {vs : List Value} {K : AV → Led → Prop}
theorem k_effn {m s dn lb cx bx r : Addr} {a t d k l kd c nu w : Int} {es : List (List UInt8 × AV)} {key val q : List UInt8} {e o : Option (List UInt8)} {xs : List AV} (hv : VRs [.con (.ref cx), .con (.ref bx)] vs) (hk0 : 0 ≤ kd) (hk1 : kd ≤ 6) (hkey : key.length ≤ 100) (hval : val.length ≤ 20) (hx : xs.length ≤ 1000)
    (hl : lookA es (100 :: key) = o.map .bytes) (ho : ∀ c, o = some c → c.length < 100) (he : eff kd o val e = (q, none))
    (h : K (.bytes q) (macE m s a t d :: stoE s dn lb k l :: (dn, .bd es) :: cmdE cx kd c nu key val e :: batE bx r w :: (r, .list xs) :: R)) (hn : 6 ≤ n := by fail "mx nn") :
    Cc G n (macE m s a t d :: stoE s dn lb k l :: (dn, .bd es) :: cmdE cx kd c nu key val e :: batE bx r w :: (r, .list xs) :: R) (.ref 761) ([.ref m] ++ vs) K := k_eff hv hk0 hk1 hkey hval hx hl ho (by rw [he]; exact h)
theorem k_effp {m s dn lb cx bx r : Addr} {a t d k l kd c nu w : Int} {es : List (List UInt8 × AV)} {key val q : List UInt8} {e o : Option (List UInt8)} {xs : List AV} {y : List UInt8} (hv : VRs [.con (.ref cx), .con (.ref bx)] vs) (hk0 : 0 ≤ kd) (hk1 : kd ≤ 6) (hkey : key.length ≤ 100) (hval : val.length ≤ 20) (hx : xs.length ≤ 1000)
    (hl : lookA es (100 :: key) = o.map .bytes) (ho : ∀ c, o = some c → c.length < 100) (he : eff kd o val e = (q, some (some y)))
    (h : ∀ t' w', K (.bytes q) (macE m s a t d :: stoE s dn lb k l :: (dn, .bd es) :: cmdE cx kd c nu key val e :: batE bx r w' :: (r, .list (xs ++ [.con (.ref t')])) :: rowE t' 1 (100 :: key) y :: R)) (hn : 6 ≤ n := by fail "mx nn") :
    Cc G n (macE m s a t d :: stoE s dn lb k l :: (dn, .bd es) :: cmdE cx kd c nu key val e :: batE bx r w :: (r, .list xs) :: R) (.ref 761) ([.ref m] ++ vs) K := k_eff hv hk0 hk1 hkey hval hx hl ho (by rw [he]; exact h)
theorem k_effd {m s dn lb cx bx r : Addr} {a t d k l kd c nu w : Int} {es : List (List UInt8 × AV)} {key val q : List UInt8} {e o : Option (List UInt8)} {xs : List AV} (hv : VRs [.con (.ref cx), .con (.ref bx)] vs) (hk0 : 0 ≤ kd) (hk1 : kd ≤ 6) (hkey : key.length ≤ 100) (hval : val.length ≤ 20) (hx : xs.length ≤ 1000)
    (hl : lookA es (100 :: key) = o.map .bytes) (ho : ∀ c, o = some c → c.length < 100) (he : eff kd o val e = (q, some none))
    (h : ∀ t' w', K (.bytes q) (macE m s a t d :: stoE s dn lb k l :: (dn, .bd es) :: cmdE cx kd c nu key val e :: batE bx r w' :: (r, .list (xs ++ [.con (.ref t')])) :: rowE t' 0 (100 :: key) [] :: R)) (hn : 6 ≤ n := by fail "mx nn") :
    Cc G n (macE m s a t d :: stoE s dn lb k l :: (dn, .bd es) :: cmdE cx kd c nu key val e :: batE bx r w :: (r, .list xs) :: R) (.ref 761) ([.ref m] ++ vs) K := k_eff hv hk0 hk1 hkey hval hx hl ho (by rw [he]; exact h)
end
end
section
section
variable {G : Gr} {n : Nat} {R : Led} {vs : List Value} {K : AV → Led → Prop}
theorem k_srow_n {m s dn lb : Addr} {a t d k l c : Int} {es : List (List UInt8 × AV)} (hc : c = 5 ∨ c = 300) (hl : lookA es (skey c) = none) (hv : VRs [.int c] vs)
    (h : ∀ q, K (.con (.ref q)) ((q, .tuple [.int (-1), .bool false, .bytes []]) :: macE m s a t d :: stoE s dn lb k l :: (dn, .bd es) :: R)) (hn : 5 ≤ n := by fail "mx nn") :
    Cc G n (macE m s a t d :: stoE s dn lb k l :: (dn, .bd es) :: R) (.ref 775) ([.ref m] ++ vs) K := by
  refine f_775 (by fail "mx nn") (by exact (VRs.cons (VR_ref _) ‹_›)) rfl (fun p hE => ?_)
  refine sAsgC (MCallA (AttrA (Name_ mm0 mm0 (getAA mm1 mm0 (by intro ζ; exact ⟨Bool.and_eq_true_iff.mpr ⟨by k_is, by k_is⟩, by k_is, by k_is⟩) hand_r ?_))))
  refine methIA mm2 (by rfl) (by intro ζ; exact ⟨by k_is, by k_is, by k_is⟩) ?_
  refine CallWA (by intro ζ; k_is) ?_
  refine ArgsCons_ (cF hE (evs1 (evN hE mm0 mm1) evs0) (ofCa (fun ζ => k_session_key ‹_› ‹_› ?_)))
  refine ArgsNil_ (ofCa (fun ζ => Cc.pick (pC rm2 (pk rm2)) (k_ms_get_n ‹_› ‹_› ?_)))
  refine sSt hE up2 rp2 (sIf (tvC (evN hE mm2 mm2) evZ cIsN) (kT rfl (App.cons App.nil) (sRetC (xT (evs1 (evNeg evI) (evs1 evT (evs1 evB evs0))) (by rfl) (by rfl) ?_))))
  intro ζ
  refine kR_ ?_
  rotate_left
  exact ⟨_, by exact (pC rm0 (pC rm3 (pC rm0 (pC rm0 (pS Pick.refl))))), h _⟩
theorem k_srow_s {m s dn lb : Addr} {a t d k l c la : Int} {op : Bool} {rp : List UInt8} {es : List (List UInt8 × AV)} (hc : c = 5 ∨ c = 300) (hl : lookA es (skey c) = some (.bytes (ses la op rp))) (h0 : 0 ≤ la) (h1 : la < 128) (hr : rp.length < 128) (hv : VRs [.int c] vs)
    (h : ∀ q, K (.con (.ref q)) ((q, .tuple [.int la, .bool op, .bytes rp]) :: macE m s a t d :: stoE s dn lb k l :: (dn, .bd es) :: R)) (hn : 5 ≤ n := by fail "mx nn") :
    Cc G n (macE m s a t d :: stoE s dn lb k l :: (dn, .bd es) :: R) (.ref 775) ([.ref m] ++ vs) K := by
  refine f_775 (by fail "mx nn") (by exact (VRs.cons (VR_ref _) ‹_›)) rfl (fun p hE => ?_)
  refine sAsgC (MCallA (AttrA (Name_ mm0 mm0 (getAA mm1 mm0 (by intro ζ; exact ⟨Bool.and_eq_true_iff.mpr ⟨by k_is, by k_is⟩, by k_is, by k_is⟩) hand_r ?_))))
  refine methIA mm2 (by rfl) (by intro ζ; exact ⟨by k_is, by k_is, by k_is⟩) ?_
  refine CallWA (by intro ζ; k_is) ?_
  refine ArgsCons_ (cF hE (evs1 (evN hE mm0 mm1) evs0) (ofCa (fun ζ => k_session_key ‹_› ‹_› ?_)))
  refine ArgsNil_ (ofCa (fun ζ => Cc.pick (pC rm2 (pk rm2)) (k_ms_get_s ‹_› ‹_› ?_)))
  refine sSt hE up2 rp2 (sIf (tvC (evN hE mm2 mm2) evZ cIsB) (kF rfl App.nil (sRetC (cF hE (evs1 (evN hE mm2 mm2) evs0) (ofCa (fun ζ => k_decode_session ‹_› ‹_› ‹_› ‹_› ?_))))))
  intro ζ
  refine kR_ ?_
  rotate_left
  exact ⟨_, by exact (pC rm0 (pC rm3 (pC rm0 (pC rm0 (pS Pick.refl))))), h _⟩
noncomputable def SesAt (es : List (List UInt8 × AV)) (c la : Int) (op : Bool) (rp : List UInt8) : Prop :=
  (lookA es (skey c) = none ∧ la = -1 ∧ op = false ∧ rp = []) ∨ (lookA es (skey c) = some (.bytes (ses la op rp)) ∧ 0 ≤ la ∧ la < 128 ∧ rp.length < 128)
theorem k_srow {m s dn lb : Addr} {a t d k l c la : Int} {op : Bool} {rp : List UInt8} {es : List (List UInt8 × AV)} (hc : c = 5 ∨ c = 300) (hS : SesAt es c la op rp) (hv : VRs [.int c] vs)
    (h : ∀ q, K (.con (.ref q)) ((q, .tuple [.int la, .bool op, .bytes rp]) :: macE m s a t d :: stoE s dn lb k l :: (dn, .bd es) :: R)) (hn : 5 ≤ n := by fail "mx nn") :
    Cc G n (macE m s a t d :: stoE s dn lb k l :: (dn, .bd es) :: R) (.ref 775) ([.ref m] ++ vs) K := by
  rcases hS with ⟨hl, rfl, rfl, rfl⟩ | ⟨hl, h0, h1, hr⟩
  · exact k_srow_n hc hl hv h
  · exact k_srow_s hc hl h0 h1 hr hv h
theorem k_cmdof {m s x : Addr} {a t d u i k c mn : Int} {key val : List UInt8} {e : Option (List UInt8)} (hc : c = 5 ∨ c = 300) (hk0 : 0 ≤ k) (hk1 : k ≤ 6) (hm0 : 0 ≤ mn) (hm1 : mn < 128) (hkey : key.length < 128) (hval : val.length < 128) (he : ∀ o, e = some o → o.length < 128) (hv : VRs [.con (.ref x)] vs)
    (h : ∀ q, K (.con (.ref q)) (cmdE q k c mn key val e :: macE m s a t d :: entE x u i 0 (cmd k c mn key val e) :: R)) (hn : 6 ≤ n := by fail "mx nn") :
    Cc G n (macE m s a t d :: entE x u i 0 (cmd k c mn key val e) :: R) (.ref 747) ([.ref m] ++ vs) K := by
  have hlen : (cmd k c mn key val e).length ≤ 1000 ∧ 1 ≤ (cmd k c mn key val e).length := by
    have hcl := @cvb_len c
    have hml : (mb e).length ≤ 130 := by
      cases e with
      | none => decide
      | some o => rw [mb_len_s]; have := he _ rfl; lia
    simp only [cmd, List.length_append, List.length_cons, List.length_nil]; lia
  obtain ⟨hlen1, hlen2⟩ := hlen
  refine f_747 (by fail "mx nn") (by exact (VRs.cons (VR_ref _) ‹_›)) rfl (fun p hE => ?_)
  refine sIf (tvL (orF (tvC (evA (evN hE mm0 mm1) mm2 mm2 hand_i) (evGI hE) cEq) (by decide) (orF (tvC (evCB hE (evs1 (evA (evN hE mm0 mm1) mm2 mm3 hand_b) evs0) (fLenB (n_tr ‹_› (by decide)))) evI cEq) (eqF (by lia)) or0))) ?_
  refine kF rfl App.nil (Cons' (Try' (sRetC (cF hE (evs1 (evA (evN hE mm0 mm1) mm2 mm3 hand_b) evs0) (ofCa (fun ζ => k_decode' ‹_› ‹_› ‹_› ‹_› ‹_› ‹_› ‹_› ‹_› ‹_› ?_))))))
  intro ζ
  refine kR_ (onN_r (onN_r ?_))
  rotate_left
  exact ⟨_, by exact (pC rm0 (pC rm1 (pC rm1 (pS Pick.refl)))), h _⟩
end
end
section
section
variable {G : Gr} {n : Nat} {R : Led} {vs : List Value} {K : AV → Led → Prop}
theorem k_do_told {m s dn lb cx bx r : Addr} {a t d k l kd c nu w la : Int} {es : List (List UInt8 × AV)} {key val rp : List UInt8} {e : Option (List UInt8)} {op : Bool} (hc : c = 5 ∨ c = 300) (hS : SesAt es c la op rp) (hv : VRs [.con (.ref cx), .con (.ref bx)] vs) (h1 : nu = la)
    (h : K (.bytes rp) (macE m s a t d :: stoE s dn lb k l :: (dn, .bd es) :: cmdE cx kd c nu key val e :: batE bx r w :: (r, .list []) :: R)) (hn : 8 ≤ n := by fail "mx nn") :
    Cc G n (macE m s a t d :: stoE s dn lb k l :: (dn, .bd es) :: cmdE cx kd c nu key val e :: batE bx r w :: (r, .list []) :: R) (.ref 754) ([.ref m] ++ vs) K := by
  refine f_754 (by fail "mx nn") (by exact (VRs.cons (VR_ref _) ‹_›)) rfl (fun p hE => ?_)
  refine sUnC (cM (evN hE mm0 mm0) (gM mm1 rfl) (evs1 (evA (evN hE mm0 mm1) mm4 mm1 hand_i) evs0) (ofCa (fun ζ => Cc.pick (pC rm1 (pC rm1 (pk rm1))) (k_srow ‹_› ‹_› ‹_› ?_))))
  intro ζ
  refine asg3 hE mm0 up4 rp3 up4 rp4 up4 rp5 (sIf (tvC (evA (evN hE mm4 mm1) mm5 mm2 hand_i) (evN hE mm4 mm3) cEq) (kT (eqT ‹_›) (App.cons App.nil) ?_))
  refine sRet (evN hE mm4 mm5) ?_
  rotate_left
  exact ⟨_, by exact (pC rm1 (pC rm1 (pC rm1 (pC rm2 (pC rm2 (pC rm2 (pS (pS Pick.refl)))))))), h⟩
theorem k_do_stale {m s dn lb cx bx r : Addr} {a t d k l kd c nu w la : Int} {es : List (List UInt8 × AV)} {key val rp : List UInt8} {e : Option (List UInt8)} {op : Bool} (hc : c = 5 ∨ c = 300) (hS : SesAt es c la op rp) (hv : VRs [.con (.ref cx), .con (.ref bx)] vs) (h1 : nu < la)
    (h : K (.bytes (rep 3 none)) (macE m s a t d :: stoE s dn lb k l :: (dn, .bd es) :: cmdE cx kd c nu key val e :: batE bx r w :: (r, .list []) :: R)) (hn : 8 ≤ n := by fail "mx nn") :
    Cc G n (macE m s a t d :: stoE s dn lb k l :: (dn, .bd es) :: cmdE cx kd c nu key val e :: batE bx r w :: (r, .list []) :: R) (.ref 754) ([.ref m] ++ vs) K := by
  refine f_754 (by fail "mx nn") (by exact (VRs.cons (VR_ref _) ‹_›)) rfl (fun p hE => ?_)
  refine sUnC (cM (evN hE mm0 mm0) (gM mm1 rfl) (evs1 (evA (evN hE mm0 mm1) mm4 mm1 hand_i) evs0) (ofCa (fun ζ => Cc.pick (pC rm1 (pC rm1 (pk rm1))) (k_srow ‹_› ‹_› ‹_› ?_))))
  intro ζ
  refine asg3 hE mm0 up4 rp3 up4 rp4 up4 rp5 (sIf (tvC (evA (evN hE mm4 mm1) mm5 mm2 hand_i) (evN hE mm4 mm3) cEq) (kF (eqF (i_lt_ne ‹_›)) App.nil ?_))
  refine sIf (tvC (evA (evN hE mm4 mm1) mm5 mm2 hand_i) (evN hE mm4 mm3) cLt) (kT (decT ‹_›) (App.cons App.nil) ?_)
  refine sRetC (cF hE (evs1 (evGI hE) (evs1 evZ evs0)) (ofCa (fun ζ => k_make_reply_n ‹_› (i_cl (by decide)) (i_cl' (by decide)) ?_)))
  refine kR_ ?_
  rotate_left
  exact ⟨_, by exact (pC rm1 (pC rm1 (pC rm1 (pC rm2 (pC rm2 (pC rm2 (pS (pS Pick.refl)))))))), h⟩
theorem k_do_unk {m s dn lb cx bx r : Addr} {a t d k l kd c nu w la : Int} {es : List (List UInt8 × AV)} {key val rp : List UInt8} {e : Option (List UInt8)} (hc : c = 5 ∨ c = 300) (hS : SesAt es c la false rp) (hv : VRs [.con (.ref cx), .con (.ref bx)] vs) (h1 : la < nu) (h2 : kd ≠ 5)
    (h : K (.bytes (rep 2 none)) (macE m s a t d :: stoE s dn lb k l :: (dn, .bd es) :: cmdE cx kd c nu key val e :: batE bx r w :: (r, .list []) :: R)) (hn : 8 ≤ n := by fail "mx nn") :
    Cc G n (macE m s a t d :: stoE s dn lb k l :: (dn, .bd es) :: cmdE cx kd c nu key val e :: batE bx r w :: (r, .list []) :: R) (.ref 754) ([.ref m] ++ vs) K := by
  refine f_754 (by fail "mx nn") (by exact (VRs.cons (VR_ref _) ‹_›)) rfl (fun p hE => ?_)
  refine sUnC (cM (evN hE mm0 mm0) (gM mm1 rfl) (evs1 (evA (evN hE mm0 mm1) mm4 mm1 hand_i) evs0) (ofCa (fun ζ => Cc.pick (pC rm1 (pC rm1 (pk rm1))) (k_srow ‹_› ‹_› ‹_› ?_))))
  intro ζ
  refine asg3 hE mm0 up4 rp3 up4 rp4 up4 rp5 (sIf (tvC (evA (evN hE mm4 mm1) mm5 mm2 hand_i) (evN hE mm4 mm3) cEq) (kF (eqF (i_gt_ne ‹_›)) App.nil ?_))
  refine sIf (tvC (evA (evN hE mm4 mm1) mm5 mm2 hand_i) (evN hE mm4 mm3) cLt) (kF (decF (i_nlt (by lia))) App.nil ?_)
  refine sIf (tvL (andT (tvN (tvV (evN hE mm4 mm4) rfl)) (by decide) (andT (tvC (evA (evN hE mm4 mm1) mm5 mm0 hand_i) (evGI hE) cNe) (nqT ‹_›) and0))) ?_
  refine kT rfl (App.cons App.nil) (sRetC (cF hE (evs1 (evGI hE) (evs1 evZ evs0)) (ofCa (fun ζ => k_make_reply_n ‹_› (i_cl (by decide)) (i_cl' (by decide)) ?_))))
  refine kR_ ?_
  rotate_left
  exact ⟨_, by exact (pC rm1 (pC rm1 (pC rm1 (pC rm2 (pC rm2 (pC rm2 (pS (pS Pick.refl)))))))), h⟩
end
end
section
section
variable {G : Gr} {n : Nat} {R : Led} {vs : List Value} {K : AV → Led → Prop}
theorem k_do_n {m s dn lb cx bx r : Addr} {a t d k l kd c nu w la : Int} {es : List (List UInt8 × AV)} {key val rp : List UInt8} {e o : Option (List UInt8)} {q : List UInt8} (hc : c = 5 ∨ c = 300) (hS : SesAt es c la true rp) (hv : VRs [.con (.ref cx), .con (.ref bx)] vs) (h1 : la < nu) (hk0 : 0 ≤ kd) (hk1 : kd ≤ 6) (hn0 : 0 ≤ nu) (hn1 : nu < 128) (hkey : key.length ≤ 100) (hval : val.length ≤ 20) (hl : lookA es (100 :: key) = o.map .bytes) (ho : ∀ c, o = some c → c.length < 100) (hq : q.length < 120) (he : eff kd o val e = (q, none))
    (h : ∀ t1 w', K (.bytes q) (macE m s a t d :: stoE s dn lb k l :: (dn, .bd es) :: cmdE cx kd c nu key val e :: batE bx r w' :: (r, .list [.con (.ref t1)]) :: rowE t1 1 (skey c) (ses nu (kd != 6) q) :: R)) (hn : 8 ≤ n := by fail "mx nn") :
    Cc G n (macE m s a t d :: stoE s dn lb k l :: (dn, .bd es) :: cmdE cx kd c nu key val e :: batE bx r w :: (r, .list []) :: R) (.ref 754) ([.ref m] ++ vs) K := by
  refine f_754 (by fail "mx nn") (by exact (VRs.cons (VR_ref _) ‹_›)) rfl (fun p hE => ?_)
  refine sUnC (cM (evN hE mm0 mm0) (gM mm1 rfl) (evs1 (evA (evN hE mm0 mm1) mm4 mm1 hand_i) evs0) (ofCa (fun ζ => Cc.pick (pC rm1 (pC rm1 (pk rm1))) (k_srow ‹_› ‹_› ‹_› ?_))))
  intro ζ
  refine asg3 hE mm0 up4 rp3 up4 rp4 up4 rp5 (sIf (tvC (evA (evN hE mm4 mm1) mm5 mm2 hand_i) (evN hE mm4 mm3) cEq) (kF (eqF (i_gt_ne ‹_›)) App.nil ?_))
  refine sIf (tvC (evA (evN hE mm4 mm1) mm5 mm2 hand_i) (evN hE mm4 mm3) cLt) (kF (decF (i_nlt (by lia))) App.nil ?_)
  refine sIf (tvL (andF (tvN (tvV (evN hE mm4 mm4) rfl)) (by decide))) ?_
  refine kF rfl App.nil (sAsgC (cM (evN hE mm4 mm0) (gM mm1 rfl) (evs1 (evN hE mm4 mm1) (evs1 (evN hE mm4 mm2) evs0)) (ofCa (fun ζ => Cc.pick (pC rm1 (pC rm1 (pC rm1 (pC rm2 (pC rm2 (pk rm2)))))) (k_effn ‹_› ‹_› ‹_› ‹_› ‹_› nle ‹_› ‹_› ‹_› ?_)))))
  refine sSt hE up7 rp5 (sAsgC (cF hE (evs1 (evA (evN hE mm7 mm1) mm3 mm2 hand_i) (evs1 (evCmp (evA (evN hE mm7 mm1) mm3 mm0 hand_i) (evGI hE) cNe) (evs1 (evN hE mm7 mm5) evs0))) (ofCa (fun ζ => k_encode_session ‹_› ‹_› ‹_› (n_lt ‹_› (by decide)) ?_))))
  refine sSt hE up7 rp6 (sX hE (MCallA (Name_ mm7 mm2 (methIA mm4 (by rfl) (by intro ζ; exact ⟨by k_is, by k_is, by k_is⟩) ?_))))
  refine CallWA (by intro ζ; k_is) ?_
  refine ArgsCons_ (cF hE (evs1 (evA (evN hE mm7 mm1) mm3 mm1 hand_i) evs0) (ofCa (fun ζ => k_session_key ‹_› ‹_› ?_)))
  refine ArgsCons_ (Name_ mm7 mm6 (ArgsNil_ (ofCa (fun ζ => Cc.pick (pC rm4 (pk rm4)) (k_wb_put ‹_› (by simp only [lens, false_implies, implies_true, and_true]; first | done | lia) (by simp only [lens, false_implies, implies_true, and_true]; first | done | lia) nle ?_)))))
  intro ζ ζ
  refine sRet (evN hE mm8 mm5) ?_
  rotate_left
  exact ⟨_, by exact (pC rm3 (pC rm3 (pC rm3 (pC rm3 (pC rm0 (pC Rem.head (pC rm0 (pS (pS Pick.refl))))))))), h _ _⟩
theorem k_do_p {m s dn lb cx bx r : Addr} {a t d k l kd c nu w la : Int} {es : List (List UInt8 × AV)} {key val rp : List UInt8} {e o : Option (List UInt8)} {q : List UInt8} {y : List UInt8} (hc : c = 5 ∨ c = 300) (hS : SesAt es c la true rp) (hv : VRs [.con (.ref cx), .con (.ref bx)] vs) (h1 : la < nu) (hk0 : 0 ≤ kd) (hk1 : kd ≤ 6) (hn0 : 0 ≤ nu) (hn1 : nu < 128) (hkey : key.length ≤ 100) (hval : val.length ≤ 20) (hl : lookA es (100 :: key) = o.map .bytes) (ho : ∀ c, o = some c → c.length < 100) (hq : q.length < 120) (he : eff kd o val e = (q, some (some y)))
    (h : ∀ t0 t1 w', K (.bytes q) (macE m s a t d :: stoE s dn lb k l :: (dn, .bd es) :: cmdE cx kd c nu key val e :: batE bx r w' :: (r, .list [.con (.ref t0), .con (.ref t1)]) :: rowE t0 1 (100 :: key) y :: rowE t1 1 (skey c) (ses nu (kd != 6) q) :: R)) (hn : 8 ≤ n := by fail "mx nn") :
    Cc G n (macE m s a t d :: stoE s dn lb k l :: (dn, .bd es) :: cmdE cx kd c nu key val e :: batE bx r w :: (r, .list []) :: R) (.ref 754) ([.ref m] ++ vs) K := by
  refine f_754 (by fail "mx nn") (by exact (VRs.cons (VR_ref _) ‹_›)) rfl (fun p hE => ?_)
  refine sUnC (cM (evN hE mm0 mm0) (gM mm1 rfl) (evs1 (evA (evN hE mm0 mm1) mm4 mm1 hand_i) evs0) (ofCa (fun ζ => Cc.pick (pC rm1 (pC rm1 (pk rm1))) (k_srow ‹_› ‹_› ‹_› ?_))))
  intro ζ
  refine asg3 hE mm0 up4 rp3 up4 rp4 up4 rp5 (sIf (tvC (evA (evN hE mm4 mm1) mm5 mm2 hand_i) (evN hE mm4 mm3) cEq) (kF (eqF (i_gt_ne ‹_›)) App.nil ?_))
  refine sIf (tvC (evA (evN hE mm4 mm1) mm5 mm2 hand_i) (evN hE mm4 mm3) cLt) (kF (decF (i_nlt (by lia))) App.nil ?_)
  refine sIf (tvL (andF (tvN (tvV (evN hE mm4 mm4) rfl)) (by decide))) ?_
  refine kF rfl App.nil (sAsgC (cM (evN hE mm4 mm0) (gM mm1 rfl) (evs1 (evN hE mm4 mm1) (evs1 (evN hE mm4 mm2) evs0)) (ofCa (fun ζ => Cc.pick (pC rm1 (pC rm1 (pC rm1 (pC rm2 (pC rm2 (pk rm2)))))) (k_effp ‹_› ‹_› ‹_› ‹_› ‹_› nle ‹_› ‹_› ‹_› ?_)))))
  intro ζ ζ
  refine sSt hE up8 rp5 (sAsgC (cF hE (evs1 (evA (evN hE mm8 mm1) mm3 mm2 hand_i) (evs1 (evCmp (evA (evN hE mm8 mm1) mm3 mm0 hand_i) (evGI hE) cNe) (evs1 (evN hE mm8 mm5) evs0))) (ofCa (fun ζ => k_encode_session ‹_› ‹_› ‹_› (n_lt ‹_› (by decide)) ?_))))
  refine sSt hE up8 rp6 (sX hE (MCallA (Name_ mm8 mm2 (methIA mm4 (by rfl) (by intro ζ; exact ⟨by k_is, by k_is, by k_is⟩) ?_))))
  refine CallWA (by intro ζ; k_is) ?_
  refine ArgsCons_ (cF hE (evs1 (evA (evN hE mm8 mm1) mm3 mm1 hand_i) evs0) (ofCa (fun ζ => k_session_key ‹_› ‹_› ?_)))
  refine ArgsCons_ (Name_ mm8 mm6 (ArgsNil_ (ofCa (fun ζ => Cc.pick (pC rm4 (pk rm4)) (k_wb_put ‹_› (by simp only [lens, false_implies, implies_true, and_true]; first | done | lia) (by simp only [lens, false_implies, implies_true, and_true]; first | done | lia) nle ?_)))))
  intro ζ ζ
  refine sRet (evN hE mm9 mm5) ?_
  rotate_left
  exact ⟨_, by exact (pC rm3 (pC rm3 (pC rm3 (pC rm3 (pC rm0 (pC Rem.head (pC rm1 (pC rm0 (pS (pS Pick.refl)))))))))), h _ _ _⟩
end
end
section
section
variable {G : Gr} {n : Nat} {R : Led} {vs : List Value} {K : AV → Led → Prop}
theorem k_do_d {m s dn lb cx bx r : Addr} {a t d k l kd c nu w la : Int} {es : List (List UInt8 × AV)} {key val rp : List UInt8} {e o : Option (List UInt8)} {q : List UInt8} (hc : c = 5 ∨ c = 300) (hS : SesAt es c la true rp) (hv : VRs [.con (.ref cx), .con (.ref bx)] vs) (h1 : la < nu) (hk0 : 0 ≤ kd) (hk1 : kd ≤ 6) (hn0 : 0 ≤ nu) (hn1 : nu < 128) (hkey : key.length ≤ 100) (hval : val.length ≤ 20) (hl : lookA es (100 :: key) = o.map .bytes) (ho : ∀ c, o = some c → c.length < 100) (hq : q.length < 120) (he : eff kd o val e = (q, some none))
    (h : ∀ t0 t1 w', K (.bytes q) (macE m s a t d :: stoE s dn lb k l :: (dn, .bd es) :: cmdE cx kd c nu key val e :: batE bx r w' :: (r, .list [.con (.ref t0), .con (.ref t1)]) :: rowE t0 0 (100 :: key) [] :: rowE t1 1 (skey c) (ses nu (kd != 6) q) :: R)) (hn : 8 ≤ n := by fail "mx nn") :
    Cc G n (macE m s a t d :: stoE s dn lb k l :: (dn, .bd es) :: cmdE cx kd c nu key val e :: batE bx r w :: (r, .list []) :: R) (.ref 754) ([.ref m] ++ vs) K := by
  refine f_754 (by fail "mx nn") (by exact (VRs.cons (VR_ref _) ‹_›)) rfl (fun p hE => ?_)
  refine sUnC (cM (evN hE mm0 mm0) (gM mm1 rfl) (evs1 (evA (evN hE mm0 mm1) mm4 mm1 hand_i) evs0) (ofCa (fun ζ => Cc.pick (pC rm1 (pC rm1 (pk rm1))) (k_srow ‹_› ‹_› ‹_› ?_))))
  intro ζ
  refine asg3 hE mm0 up4 rp3 up4 rp4 up4 rp5 (sIf (tvC (evA (evN hE mm4 mm1) mm5 mm2 hand_i) (evN hE mm4 mm3) cEq) (kF (eqF (i_gt_ne ‹_›)) App.nil ?_))
  refine sIf (tvC (evA (evN hE mm4 mm1) mm5 mm2 hand_i) (evN hE mm4 mm3) cLt) (kF (decF (i_nlt (by lia))) App.nil ?_)
  refine sIf (tvL (andF (tvN (tvV (evN hE mm4 mm4) rfl)) (by decide))) ?_
  refine kF rfl App.nil (sAsgC (cM (evN hE mm4 mm0) (gM mm1 rfl) (evs1 (evN hE mm4 mm1) (evs1 (evN hE mm4 mm2) evs0)) (ofCa (fun ζ => Cc.pick (pC rm1 (pC rm1 (pC rm1 (pC rm2 (pC rm2 (pk rm2)))))) (k_effd ‹_› ‹_› ‹_› ‹_› ‹_› nle ‹_› ‹_› ‹_› ?_)))))
  intro ζ ζ
  refine sSt hE up8 rp5 (sAsgC (cF hE (evs1 (evA (evN hE mm8 mm1) mm3 mm2 hand_i) (evs1 (evCmp (evA (evN hE mm8 mm1) mm3 mm0 hand_i) (evGI hE) cNe) (evs1 (evN hE mm8 mm5) evs0))) (ofCa (fun ζ => k_encode_session ‹_› ‹_› ‹_› (n_lt ‹_› (by decide)) ?_))))
  refine sSt hE up8 rp6 (sX hE (MCallA (Name_ mm8 mm2 (methIA mm4 (by rfl) (by intro ζ; exact ⟨by k_is, by k_is, by k_is⟩) ?_))))
  refine CallWA (by intro ζ; k_is) ?_
  refine ArgsCons_ (cF hE (evs1 (evA (evN hE mm8 mm1) mm3 mm1 hand_i) evs0) (ofCa (fun ζ => k_session_key ‹_› ‹_› ?_)))
  refine ArgsCons_ (Name_ mm8 mm6 (ArgsNil_ (ofCa (fun ζ => Cc.pick (pC rm4 (pk rm4)) (k_wb_put ‹_› (by simp only [lens, false_implies, implies_true, and_true]; first | done | lia) (by simp only [lens, false_implies, implies_true, and_true]; first | done | lia) nle ?_)))))
  intro ζ ζ
  refine sRet (evN hE mm9 mm5) ?_
  rotate_left
  exact ⟨_, by exact (pC rm3 (pC rm3 (pC rm3 (pC rm3 (pC rm0 (pC Rem.head (pC rm1 (pC rm0 (pS (pS Pick.refl)))))))))), h _ _ _⟩
theorem k_do_o {m s dn lb cx bx r : Addr} {a t d k l c nu w la : Int} {es : List (List UInt8 × AV)} {key val rp : List UInt8} {e o : Option (List UInt8)} {q : List UInt8} (hc : c = 5 ∨ c = 300) (hS : SesAt es c la false rp) (hv : VRs [.con (.ref cx), .con (.ref bx)] vs) (h1 : la < nu) (hk0 : 0 ≤ (5 : Int)) (hk1 : (5 : Int) ≤ 6) (hn0 : 0 ≤ nu) (hn1 : nu < 128) (hkey : key.length ≤ 100) (hval : val.length ≤ 20) (hl : lookA es (100 :: key) = o.map .bytes) (ho : ∀ c, o = some c → c.length < 100) (hq : q.length < 120) (he : eff 5 o val e = (q, none))
    (h : ∀ t1 w', K (.bytes q) (macE m s a t d :: stoE s dn lb k l :: (dn, .bd es) :: cmdE cx 5 c nu key val e :: batE bx r w' :: (r, .list [.con (.ref t1)]) :: rowE t1 1 (skey c) (ses nu ((5 : Int) != 6) q) :: R)) (hn : 8 ≤ n := by fail "mx nn") :
    Cc G n (macE m s a t d :: stoE s dn lb k l :: (dn, .bd es) :: cmdE cx 5 c nu key val e :: batE bx r w :: (r, .list []) :: R) (.ref 754) ([.ref m] ++ vs) K := by
  refine f_754 (by fail "mx nn") (by exact (VRs.cons (VR_ref _) ‹_›)) rfl (fun p hE => ?_)
  refine sUnC (cM (evN hE mm0 mm0) (gM mm1 rfl) (evs1 (evA (evN hE mm0 mm1) mm4 mm1 hand_i) evs0) (ofCa (fun ζ => Cc.pick (pC rm1 (pC rm1 (pk rm1))) (k_srow ‹_› ‹_› ‹_› ?_))))
  intro ζ
  refine asg3 hE mm0 up4 rp3 up4 rp4 up4 rp5 (sIf (tvC (evA (evN hE mm4 mm1) mm5 mm2 hand_i) (evN hE mm4 mm3) cEq) (kF (eqF (i_gt_ne ‹_›)) App.nil ?_))
  refine sIf (tvC (evA (evN hE mm4 mm1) mm5 mm2 hand_i) (evN hE mm4 mm3) cLt) (kF (decF (i_nlt (by lia))) App.nil ?_)
  refine sIf (tvL (andT (tvN (tvV (evN hE mm4 mm4) rfl)) (by decide) (andF (tvC (evA (evN hE mm4 mm1) mm5 mm0 hand_i) (evGI hE) cNe) (by decide)))) ?_
  refine kF rfl App.nil (sAsgC (cM (evN hE mm4 mm0) (gM mm1 rfl) (evs1 (evN hE mm4 mm1) (evs1 (evN hE mm4 mm2) evs0)) (ofCa (fun ζ => Cc.pick (pC rm1 (pC rm1 (pC rm1 (pC rm2 (pC rm2 (pk rm2)))))) (k_effn ‹_› ‹_› ‹_› ‹_› ‹_› nle ‹_› ‹_› ‹_› ?_)))))
  refine sSt hE up7 rp5 (sAsgC (cF hE (evs1 (evA (evN hE mm7 mm1) mm3 mm2 hand_i) (evs1 (evCmp (evA (evN hE mm7 mm1) mm3 mm0 hand_i) (evGI hE) cNe) (evs1 (evN hE mm7 mm5) evs0))) (ofCa (fun ζ => k_encode_session ‹_› ‹_› ‹_› (n_lt ‹_› (by decide)) ?_))))
  refine sSt hE up7 rp6 (sX hE (MCallA (Name_ mm7 mm2 (methIA mm4 (by rfl) (by intro ζ; exact ⟨by k_is, by k_is, by k_is⟩) ?_))))
  refine CallWA (by intro ζ; k_is) ?_
  refine ArgsCons_ (cF hE (evs1 (evA (evN hE mm7 mm1) mm3 mm1 hand_i) evs0) (ofCa (fun ζ => k_session_key ‹_› ‹_› ?_)))
  refine ArgsCons_ (Name_ mm7 mm6 (ArgsNil_ (ofCa (fun ζ => Cc.pick (pC rm4 (pk rm4)) (k_wb_put ‹_› (by simp only [lens, false_implies, implies_true, and_true]; first | done | lia) (by simp only [lens, false_implies, implies_true, and_true]; first | done | lia) nle ?_)))))
  intro ζ ζ
  refine sRet (evN hE mm8 mm5) ?_
  rotate_left
  exact ⟨_, by exact (pC rm3 (pC rm3 (pC rm3 (pC rm3 (pC rm0 (pC Rem.head (pC rm0 (pS (pS Pick.refl))))))))), h _ _⟩
end
end
section
theorem putA_len {κ : Type} [DecidableEq κ] (es : List (κ × AV)) (k : κ) (a : AV) : (putA es k a).length ≤ es.length + 1 := by
  unfold putA; split <;> simp
theorem delA_len {κ : Type} [DecidableEq κ] (es : List (κ × AV)) (k : κ) : (delA es k).length ≤ es.length := List.length_filter_le _ _
section
variable {G : Gr} {n : Nat} {R : Led} {vs : List Value} {K : AV → Led → Prop}
theorem k_take1 {s dn lb p t0 : Addr} {k l : Int} {es : List (List UInt8 × AV)} {bs : List AV} {k0 v0 : List UInt8} (hv : VRs [.con (.ref p)] vs) (he : es.length ≤ 1000) (hb : bs.length ≤ 1000)
    (h : K .none (stoE s dn lb k (l + 1) :: (dn, .bd (putA (es) k0 (.bytes v0))) :: (lb, .list (bs ++ [.con (.ref p)])) :: (p, .list [.con (.ref t0)]) :: rowE t0 1 k0 v0 :: R)) (hn : 1 ≤ n := by fail "mx nn") :
    Cc G n (stoE s dn lb k l :: (dn, .bd es) :: (lb, .list bs) :: (p, .list [.con (.ref t0)]) :: rowE t0 1 k0 v0 :: R) (.ref 845) ([.ref s] ++ vs) K := by
  have q0 := putA_len (es) k0 (.bytes v0)
  refine f_845 (by fail "mx nn") (by exact (VRs.cons (VR_ref _) ‹_›)) rfl (fun p hE => ?_)
  refine Cons' (For_ (Name_ mm0 mm1 fun ζ ζ => pyIterL_ ‹_› mm4 ?_))
  intro ζ
  refine FstepL (pk rm0) mm4 rfl fun ζ ζ => goL_ ‹_› mm0 ?_
  refine AsgT3 ‹_› mm6 (by rfl) ?_
  intro ζ ζ ζ ζ ζ ζ
  refine AiCons_ (AsgN_ (store_ ‹_› up1 rp2 ?_))
  refine AiCons_ (AsgN_ (store_ ‹_› up1 rp3 ?_))
  refine AiCons_ (AsgN_ (store_ ‹_› up1 rp4 ?_))
  refine AiNil_ (sIf (tvC (evN hE mm1 mm2) (evGI hE) cEq) (kT (by decide) (App.cons App.nil) ?_))
  refine sSub (evN hE mm1 mm4) (evA (evN hE mm1 mm0) mm2 mm0 hand_r) (evN hE mm1 mm3) (dsetA up3 (n_tr ‹_› (by decide)) ?_)
  refine C.hide fun ζ ζ => Nil_ (hideOut ‹_› ?_)
  refine onL_n (FendL (pk rm0) mm4 nle (Nil_ (onN_n (sX hE (cMB (evA (evN hE mm0 mm0) mm1 mm1 hand_r) (gL mm3) (evs1 (evN hE mm0 mm1) evs0) (appendLA up3 (n_tr ‹_› (by decide)) ?_))))))
  refine sAugA (evN hE mm0 mm0) mm1 mm3 (by intro ζ; exact ⟨Bool.and_eq_true_iff.mpr ⟨by k_is, by k_is⟩, by k_is, by k_is⟩) hand_i (evCB hE (evs1 (evN hE mm0 mm1) evs0) (fLenL mm4 nle)) iAdd up1 rf3 (by intro ζ; exact ⟨by k_is, by k_is, by k_is, by k_is⟩) ?_
  refine Nil_ ?_
  rotate_left
  exact ⟨_, by exact (pC rm1 (pC rm1 (pC rm1 (pC rm1 (pC rm1 (pS Pick.refl)))))), h⟩
theorem k_take2 {s dn lb p t0 t1 : Addr} {k l : Int} {es : List (List UInt8 × AV)} {bs : List AV} {k0 v0 k1 v1 : List UInt8} (hv : VRs [.con (.ref p)] vs) (he : es.length ≤ 1000) (hb : bs.length ≤ 1000)
    (h : K .none (stoE s dn lb k (l + 2) :: (dn, .bd (putA (putA (es) k0 (.bytes v0)) k1 (.bytes v1))) :: (lb, .list (bs ++ [.con (.ref p)])) :: (p, .list [.con (.ref t0), .con (.ref t1)]) :: rowE t0 1 k0 v0 :: rowE t1 1 k1 v1 :: R)) (hn : 1 ≤ n := by fail "mx nn") :
    Cc G n (stoE s dn lb k l :: (dn, .bd es) :: (lb, .list bs) :: (p, .list [.con (.ref t0), .con (.ref t1)]) :: rowE t0 1 k0 v0 :: rowE t1 1 k1 v1 :: R) (.ref 845) ([.ref s] ++ vs) K := by
  have q0 := putA_len (es) k0 (.bytes v0)
  have q1 := putA_len (putA (es) k0 (.bytes v0)) k1 (.bytes v1)
  refine f_845 (by fail "mx nn") (by exact (VRs.cons (VR_ref _) ‹_›)) rfl (fun p hE => ?_)
  refine Cons' (For_ (Name_ mm0 mm1 fun ζ ζ => pyIterL_ ‹_› mm4 ?_))
  intro ζ
  refine FstepL (pk rm0) mm4 rfl fun ζ ζ => goL_ ‹_› mm0 ?_
  refine AsgT3 ‹_› mm6 (by rfl) ?_
  intro ζ ζ ζ ζ ζ ζ
  refine AiCons_ (AsgN_ (store_ ‹_› up1 rp2 ?_))
  refine AiCons_ (AsgN_ (store_ ‹_› up1 rp3 ?_))
  refine AiCons_ (AsgN_ (store_ ‹_› up1 rp4 ?_))
  refine AiNil_ (sIf (tvC (evN hE mm1 mm2) (evGI hE) cEq) (kT (by decide) (App.cons App.nil) ?_))
  refine sSub (evN hE mm1 mm4) (evA (evN hE mm1 mm0) mm2 mm0 hand_r) (evN hE mm1 mm3) (dsetA up3 (n_tr ‹_› (by decide)) ?_)
  refine C.hide fun ζ ζ => Nil_ (hideOut ‹_› ?_)
  refine onL_n (FstepL (pk rm0) mm4 rfl fun ζ ζ => goL_ ‹_› mm0 ?_)
  refine AsgT3 ‹_› mm7 (by rfl) ?_
  intro ζ ζ ζ ζ ζ ζ
  refine AiCons_ (AsgN_ (store_ ‹_› up1 rp2 ?_))
  refine AiCons_ (AsgN_ (store_ ‹_› up1 rp3 ?_))
  refine AiCons_ (AsgN_ (store_ ‹_› up1 rp4 ?_))
  refine AiNil_ (sIf (tvC (evN hE mm1 mm2) (evGI hE) cEq) (kT (by decide) (App.cons App.nil) ?_))
  refine sSub (evN hE mm1 mm4) (evA (evN hE mm1 mm0) mm2 mm0 hand_r) (evN hE mm1 mm3) (dsetA up3 (by lia) ?_)
  refine C.hide fun ζ ζ => Nil_ (hideOut ‹_› ?_)
  refine onL_n (FendL (pk rm0) mm4 nle (Nil_ (onN_n (sX hE (cMB (evA (evN hE mm0 mm0) mm1 mm1 hand_r) (gL mm3) (evs1 (evN hE mm0 mm1) evs0) (appendLA up3 (n_tr ‹_› (by decide)) ?_))))))
  refine sAugA (evN hE mm0 mm0) mm1 mm3 (by intro ζ; exact ⟨Bool.and_eq_true_iff.mpr ⟨by k_is, by k_is⟩, by k_is, by k_is⟩) hand_i (evCB hE (evs1 (evN hE mm0 mm1) evs0) (fLenL mm4 nle)) iAdd up1 rf3 (by intro ζ; exact ⟨by k_is, by k_is, by k_is, by k_is⟩) ?_
  refine Nil_ ?_
  rotate_left
  exact ⟨_, by exact (pC rm1 (pC rm1 (pC rm1 (pC rm1 (pC rm1 (pC rm1 (pS Pick.refl))))))), h⟩
theorem k_take3 {s dn lb p t0 t1 t2 : Addr} {k l : Int} {es : List (List UInt8 × AV)} {bs : List AV} {k0 v0 k1 v1 k2 v2 : List UInt8} (hv : VRs [.con (.ref p)] vs) (he : es.length ≤ 1000) (hb : bs.length ≤ 1000)
    (h : K .none (stoE s dn lb k (l + 3) :: (dn, .bd (putA (putA (putA (es) k0 (.bytes v0)) k1 (.bytes v1)) k2 (.bytes v2))) :: (lb, .list (bs ++ [.con (.ref p)])) :: (p, .list [.con (.ref t0), .con (.ref t1), .con (.ref t2)]) :: rowE t0 1 k0 v0 :: rowE t1 1 k1 v1 :: rowE t2 1 k2 v2 :: R)) (hn : 1 ≤ n := by fail "mx nn") :
    Cc G n (stoE s dn lb k l :: (dn, .bd es) :: (lb, .list bs) :: (p, .list [.con (.ref t0), .con (.ref t1), .con (.ref t2)]) :: rowE t0 1 k0 v0 :: rowE t1 1 k1 v1 :: rowE t2 1 k2 v2 :: R) (.ref 845) ([.ref s] ++ vs) K := by
  have q0 := putA_len (es) k0 (.bytes v0)
  have q1 := putA_len (putA (es) k0 (.bytes v0)) k1 (.bytes v1)
  have q2 := putA_len (putA (putA (es) k0 (.bytes v0)) k1 (.bytes v1)) k2 (.bytes v2)
  refine f_845 (by fail "mx nn") (by exact (VRs.cons (VR_ref _) ‹_›)) rfl (fun p hE => ?_)
  refine Cons' (For_ (Name_ mm0 mm1 fun ζ ζ => pyIterL_ ‹_› mm4 ?_))
  intro ζ
  refine FstepL (pk rm0) mm4 rfl fun ζ ζ => goL_ ‹_› mm0 ?_
  refine AsgT3 ‹_› mm6 (by rfl) ?_
  intro ζ ζ ζ ζ ζ ζ
  refine AiCons_ (AsgN_ (store_ ‹_› up1 rp2 ?_))
  refine AiCons_ (AsgN_ (store_ ‹_› up1 rp3 ?_))
  refine AiCons_ (AsgN_ (store_ ‹_› up1 rp4 ?_))
  refine AiNil_ (sIf (tvC (evN hE mm1 mm2) (evGI hE) cEq) (kT (by decide) (App.cons App.nil) ?_))
  refine sSub (evN hE mm1 mm4) (evA (evN hE mm1 mm0) mm2 mm0 hand_r) (evN hE mm1 mm3) (dsetA up3 (n_tr ‹_› (by decide)) ?_)
  refine C.hide fun ζ ζ => Nil_ (hideOut ‹_› ?_)
  refine onL_n (FstepL (pk rm0) mm4 rfl fun ζ ζ => goL_ ‹_› mm0 ?_)
  refine AsgT3 ‹_› mm7 (by rfl) ?_
  intro ζ ζ ζ ζ ζ ζ
  refine AiCons_ (AsgN_ (store_ ‹_› up1 rp2 ?_))
  refine AiCons_ (AsgN_ (store_ ‹_› up1 rp3 ?_))
  refine AiCons_ (AsgN_ (store_ ‹_› up1 rp4 ?_))
  refine AiNil_ (sIf (tvC (evN hE mm1 mm2) (evGI hE) cEq) (kT (by decide) (App.cons App.nil) ?_))
  refine sSub (evN hE mm1 mm4) (evA (evN hE mm1 mm0) mm2 mm0 hand_r) (evN hE mm1 mm3) (dsetA up3 (by lia) ?_)
  refine C.hide fun ζ ζ => Nil_ (hideOut ‹_› ?_)
  refine onL_n (FstepL (pk rm0) mm4 rfl fun ζ ζ => goL_ ‹_› mm0 ?_)
  refine AsgT3 ‹_› mm8 (by rfl) ?_
  intro ζ ζ ζ ζ ζ ζ
  refine AiCons_ (AsgN_ (store_ ‹_› up1 rp2 ?_))
  refine AiCons_ (AsgN_ (store_ ‹_› up1 rp3 ?_))
  refine AiCons_ (AsgN_ (store_ ‹_› up1 rp4 ?_))
  refine AiNil_ (sIf (tvC (evN hE mm1 mm2) (evGI hE) cEq) (kT (by decide) (App.cons App.nil) ?_))
  refine sSub (evN hE mm1 mm4) (evA (evN hE mm1 mm0) mm2 mm0 hand_r) (evN hE mm1 mm3) (dsetA up3 (by lia) ?_)
  refine C.hide fun ζ ζ => Nil_ (hideOut ‹_› ?_)
  refine onL_n (FendL (pk rm0) mm4 nle (Nil_ (onN_n (sX hE (cMB (evA (evN hE mm0 mm0) mm1 mm1 hand_r) (gL mm3) (evs1 (evN hE mm0 mm1) evs0) (appendLA up3 (n_tr ‹_› (by decide)) ?_))))))
  refine sAugA (evN hE mm0 mm0) mm1 mm3 (by intro ζ; exact ⟨Bool.and_eq_true_iff.mpr ⟨by k_is, by k_is⟩, by k_is, by k_is⟩) hand_i (evCB hE (evs1 (evN hE mm0 mm1) evs0) (fLenL mm4 nle)) iAdd up1 rf3 (by intro ζ; exact ⟨by k_is, by k_is, by k_is, by k_is⟩) ?_
  refine Nil_ ?_
  rotate_left
  exact ⟨_, by exact (pC rm1 (pC rm1 (pC rm1 (pC rm1 (pC rm1 (pC rm1 (pC rm1 (pS Pick.refl)))))))), h⟩
theorem k_taked {s dn lb p t0 t1 t2 : Addr} {k l : Int} {es : List (List UInt8 × AV)} {bs : List AV} {k0 v0 k1 v1 k2 v2 : List UInt8} (hv : VRs [.con (.ref p)] vs) (he : es.length ≤ 1000) (hb : bs.length ≤ 1000) (hd : (lookA es k0).isSome = true)
    (h : K .none (stoE s dn lb k (l + 3) :: (dn, .bd (putA (putA (delA (es) k0) k1 (.bytes v1)) k2 (.bytes v2))) :: (lb, .list (bs ++ [.con (.ref p)])) :: (p, .list [.con (.ref t0), .con (.ref t1), .con (.ref t2)]) :: rowE t0 0 k0 v0 :: rowE t1 1 k1 v1 :: rowE t2 1 k2 v2 :: R)) (hn : 1 ≤ n := by fail "mx nn") :
    Cc G n (stoE s dn lb k l :: (dn, .bd es) :: (lb, .list bs) :: (p, .list [.con (.ref t0), .con (.ref t1), .con (.ref t2)]) :: rowE t0 0 k0 v0 :: rowE t1 1 k1 v1 :: rowE t2 1 k2 v2 :: R) (.ref 845) ([.ref s] ++ vs) K := by
  have q0 := delA_len (es) k0
  have q1 := putA_len (delA (es) k0) k1 (.bytes v1)
  have q2 := putA_len (putA (delA (es) k0) k1 (.bytes v1)) k2 (.bytes v2)
  refine f_845 (by fail "mx nn") (by exact (VRs.cons (VR_ref _) ‹_›)) rfl (fun p hE => ?_)
  refine Cons' (For_ (Name_ mm0 mm1 fun ζ ζ => pyIterL_ ‹_› mm4 ?_))
  intro ζ
  refine FstepL (pk rm0) mm4 rfl fun ζ ζ => goL_ ‹_› mm0 ?_
  refine AsgT3 ‹_› mm6 (by rfl) ?_
  intro ζ ζ ζ ζ ζ ζ
  refine AiCons_ (AsgN_ (store_ ‹_› up1 rp2 ?_))
  refine AiCons_ (AsgN_ (store_ ‹_› up1 rp3 ?_))
  refine AiCons_ (AsgN_ (store_ ‹_› up1 rp4 ?_))
  refine AiNil_ (sIf (tvC (evN hE mm1 mm2) (evGI hE) cEq) (kF (by decide) (App.cons App.nil) ?_))
  refine sIf (tvC (evN hE mm1 mm3) (evA (evN hE mm1 mm0) mm2 mm0 hand_r) (cIn mm3)) (kT ‹_› (App.cons App.nil) ?_)
  refine C.hide fun ζ ζ => Cons' (DelS_ (AttrA (Name_ mm1 mm0 (getAA mm2 mm0 (by intro ζ; exact ⟨Bool.and_eq_true_iff.mpr ⟨by k_is, by k_is⟩, by k_is, by k_is⟩) hand_r ?_))))
  refine Name_ mm1 mm3 fun ζ ζ ζ ζ => ddel_ ‹_› ‹_› ‹_› up3 (n_tr ‹_› (by decide)) ?_
  refine onN_n (Nil_ (hideOut ‹_› ?_))
  refine onL_n (FstepL (pk rm0) mm4 rfl fun ζ ζ => goL_ ‹_› mm0 ?_)
  refine AsgT3 ‹_› mm7 (by rfl) ?_
  intro ζ ζ ζ ζ ζ ζ
  refine AiCons_ (AsgN_ (store_ ‹_› up1 rp2 ?_))
  refine AiCons_ (AsgN_ (store_ ‹_› up1 rp3 ?_))
  refine AiCons_ (AsgN_ (store_ ‹_› up1 rp4 ?_))
  refine AiNil_ (sIf (tvC (evN hE mm1 mm2) (evGI hE) cEq) (kT (by decide) (App.cons App.nil) ?_))
  refine sSub (evN hE mm1 mm4) (evA (evN hE mm1 mm0) mm2 mm0 hand_r) (evN hE mm1 mm3) (dsetA up3 (by lia) ?_)
  refine C.hide fun ζ ζ => Nil_ (hideOut ‹_› ?_)
  refine onL_n (FstepL (pk rm0) mm4 rfl fun ζ ζ => goL_ ‹_› mm0 ?_)
  refine AsgT3 ‹_› mm8 (by rfl) ?_
  intro ζ ζ ζ ζ ζ ζ
  refine AiCons_ (AsgN_ (store_ ‹_› up1 rp2 ?_))
  refine AiCons_ (AsgN_ (store_ ‹_› up1 rp3 ?_))
  refine AiCons_ (AsgN_ (store_ ‹_› up1 rp4 ?_))
  refine AiNil_ (sIf (tvC (evN hE mm1 mm2) (evGI hE) cEq) (kT (by decide) (App.cons App.nil) ?_))
  refine sSub (evN hE mm1 mm4) (evA (evN hE mm1 mm0) mm2 mm0 hand_r) (evN hE mm1 mm3) (dsetA up3 (by lia) ?_)
  refine C.hide fun ζ ζ => Nil_ (hideOut ‹_› ?_)
  refine onL_n (FendL (pk rm0) mm4 nle (Nil_ (onN_n (sX hE (cMB (evA (evN hE mm0 mm0) mm1 mm1 hand_r) (gL mm3) (evs1 (evN hE mm0 mm1) evs0) (appendLA up3 (n_tr ‹_› (by decide)) ?_))))))
  refine sAugA (evN hE mm0 mm0) mm1 mm3 (by intro ζ; exact ⟨Bool.and_eq_true_iff.mpr ⟨by k_is, by k_is⟩, by k_is, by k_is⟩) hand_i (evCB hE (evs1 (evN hE mm0 mm1) evs0) (fLenL mm4 nle)) iAdd up1 rf3 (by intro ζ; exact ⟨by k_is, by k_is, by k_is, by k_is⟩) ?_
  refine Nil_ ?_
  rotate_left
  exact ⟨_, by exact (pC rm1 (pC rm1 (pC rm1 (pC rm1 (pC rm1 (pC rm1 (pC rm1 (pS Pick.refl)))))))), h⟩
end
end
section
section
variable {G : Gr} {n : Nat} {R : Led} {vs : List Value} {K : AV → Led → Prop}
theorem k_write1 {s dn lb bx r t0 : Addr} {k l w : Int} {es : List (List UInt8 × AV)} {bs : List AV} {k0 v0 : List UInt8} (hv : VRs [.con (.ref bx), .bool false] vs) (he : es.length ≤ 1000) (hb : bs.length ≤ 1000)
    (h : ∀ p, K (.int (l + 1)) (stoE s dn lb k (l + 1) :: (dn, .bd (putA (es) k0 (.bytes v0))) :: (lb, .list (bs ++ [.con (.ref p)])) :: (p, .list [.con (.ref t0)]) :: rowE t0 1 k0 v0 :: R)) (hn : 3 ≤ n := by fail "mx nn") :
    Cc G n (stoE s dn lb k l :: (dn, .bd es) :: (lb, .list bs) :: batE bx r w :: (r, .list [.con (.ref t0)]) :: rowE t0 1 k0 v0 :: R) (.ref 838) ([.ref s] ++ vs) K := by
  refine f_838 (by fail "mx nn") (by exact (VRs.cons (VR_ref _) ‹_›)) rfl (fun p hE => ?_)
  refine Cons' (If' (TtCmpA (cM (evN hE mm0 mm1) (gM mm4 rfl) evs0 (ofCa (fun ζ => Cc.pick (pC rm4 (pk rm4)) (k_wb_count ‹_› nle ?_))))))
  refine Int_ (eqIA (truthyA (onB_f (by simp only [decide_eq_true_eq, decide_eq_false_iff_not, beq_iff_eq, bne_iff_ne, beq_eq_false_iff_ne, bne_eq_false_iff_eq, Bool.not_eq_true', Bool.not_eq_false', ne_eq, ge_iff_le, gt_iff_lt, Option.isSome_some, Option.isSome_none, Option.isNone_some, Option.isNone_none, List.length_cons, List.length_nil]; first | done | lia | assumption) ?_)))
  refine Nil_ (onN_n (sX hE (MCallA (Name_ mm2 mm0 (methIA mm3 (by rfl) (by intro ζ; exact ⟨by k_is, by k_is, by k_is⟩) ?_)))))
  refine CallWA (by intro ζ; k_is) ?_
  refine ArgsCons_ (cM (evN hE mm2 mm1) (gM mm0 rfl) evs0 (ofCa (fun ζ => Cc.pick Pick.refl (k_wb_ops ‹_› nle ?_))))
  intro ζ
  refine ArgsNil_ (ofCa (fun ζ => Cc.pick (pC rm4 (pC rm4 (pC rm4 (pC rm0 (pk rm3))))) (k_take1 ‹_› ‹_› ‹_› ?_)))
  refine sIf (tvV (evN hE mm7 mm2) rfl) (kF rfl App.nil (sRet (evA (evN hE mm7 mm0) mm0 mm3 hand_i) ?_))
  rotate_left
  exact ⟨_, by exact (pC rm0 (pC rm0 (pC rm0 (pC rm0 (pC rm0 (pS (pS (pS Pick.refl)))))))), h _⟩
theorem k_write2 {s dn lb bx r t0 t1 : Addr} {k l w : Int} {es : List (List UInt8 × AV)} {bs : List AV} {k0 v0 k1 v1 : List UInt8} (hv : VRs [.con (.ref bx), .bool false] vs) (he : es.length ≤ 1000) (hb : bs.length ≤ 1000)
    (h : ∀ p, K (.int (l + 2)) (stoE s dn lb k (l + 2) :: (dn, .bd (putA (putA (es) k0 (.bytes v0)) k1 (.bytes v1))) :: (lb, .list (bs ++ [.con (.ref p)])) :: (p, .list [.con (.ref t0), .con (.ref t1)]) :: rowE t0 1 k0 v0 :: rowE t1 1 k1 v1 :: R)) (hn : 3 ≤ n := by fail "mx nn") :
    Cc G n (stoE s dn lb k l :: (dn, .bd es) :: (lb, .list bs) :: batE bx r w :: (r, .list [.con (.ref t0), .con (.ref t1)]) :: rowE t0 1 k0 v0 :: rowE t1 1 k1 v1 :: R) (.ref 838) ([.ref s] ++ vs) K := by
  refine f_838 (by fail "mx nn") (by exact (VRs.cons (VR_ref _) ‹_›)) rfl (fun p hE => ?_)
  refine Cons' (If' (TtCmpA (cM (evN hE mm0 mm1) (gM mm4 rfl) evs0 (ofCa (fun ζ => Cc.pick (pC rm4 (pk rm4)) (k_wb_count ‹_› nle ?_))))))
  refine Int_ (eqIA (truthyA (onB_f (by simp only [decide_eq_true_eq, decide_eq_false_iff_not, beq_iff_eq, bne_iff_ne, beq_eq_false_iff_ne, bne_eq_false_iff_eq, Bool.not_eq_true', Bool.not_eq_false', ne_eq, ge_iff_le, gt_iff_lt, Option.isSome_some, Option.isSome_none, Option.isNone_some, Option.isNone_none, List.length_cons, List.length_nil]; first | done | lia | assumption) ?_)))
  refine Nil_ (onN_n (sX hE (MCallA (Name_ mm2 mm0 (methIA mm3 (by rfl) (by intro ζ; exact ⟨by k_is, by k_is, by k_is⟩) ?_)))))
  refine CallWA (by intro ζ; k_is) ?_
  refine ArgsCons_ (cM (evN hE mm2 mm1) (gM mm0 rfl) evs0 (ofCa (fun ζ => Cc.pick Pick.refl (k_wb_ops ‹_› nle ?_))))
  intro ζ
  refine ArgsNil_ (ofCa (fun ζ => Cc.pick (pC rm4 (pC rm4 (pC rm4 (pC rm0 (pC rm3 (pk rm3)))))) (k_take2 ‹_› ‹_› ‹_› ?_)))
  refine sIf (tvV (evN hE mm8 mm2) rfl) (kF rfl App.nil (sRet (evA (evN hE mm8 mm0) mm0 mm3 hand_i) ?_))
  rotate_left
  exact ⟨_, by exact (pC rm0 (pC rm0 (pC rm0 (pC rm0 (pC rm0 (pC rm0 (pS (pS (pS Pick.refl))))))))), h _⟩
theorem k_write3 {s dn lb bx r t0 t1 t2 : Addr} {k l w : Int} {es : List (List UInt8 × AV)} {bs : List AV} {k0 v0 k1 v1 k2 v2 : List UInt8} (hv : VRs [.con (.ref bx), .bool false] vs) (he : es.length ≤ 1000) (hb : bs.length ≤ 1000)
    (h : ∀ p, K (.int (l + 3)) (stoE s dn lb k (l + 3) :: (dn, .bd (putA (putA (putA (es) k0 (.bytes v0)) k1 (.bytes v1)) k2 (.bytes v2))) :: (lb, .list (bs ++ [.con (.ref p)])) :: (p, .list [.con (.ref t0), .con (.ref t1), .con (.ref t2)]) :: rowE t0 1 k0 v0 :: rowE t1 1 k1 v1 :: rowE t2 1 k2 v2 :: R)) (hn : 3 ≤ n := by fail "mx nn") :
    Cc G n (stoE s dn lb k l :: (dn, .bd es) :: (lb, .list bs) :: batE bx r w :: (r, .list [.con (.ref t0), .con (.ref t1), .con (.ref t2)]) :: rowE t0 1 k0 v0 :: rowE t1 1 k1 v1 :: rowE t2 1 k2 v2 :: R) (.ref 838) ([.ref s] ++ vs) K := by
  refine f_838 (by fail "mx nn") (by exact (VRs.cons (VR_ref _) ‹_›)) rfl (fun p hE => ?_)
  refine Cons' (If' (TtCmpA (cM (evN hE mm0 mm1) (gM mm4 rfl) evs0 (ofCa (fun ζ => Cc.pick (pC rm4 (pk rm4)) (k_wb_count ‹_› nle ?_))))))
  refine Int_ (eqIA (truthyA (onB_f (by simp only [decide_eq_true_eq, decide_eq_false_iff_not, beq_iff_eq, bne_iff_ne, beq_eq_false_iff_ne, bne_eq_false_iff_eq, Bool.not_eq_true', Bool.not_eq_false', ne_eq, ge_iff_le, gt_iff_lt, Option.isSome_some, Option.isSome_none, Option.isNone_some, Option.isNone_none, List.length_cons, List.length_nil]; first | done | lia | assumption) ?_)))
  refine Nil_ (onN_n (sX hE (MCallA (Name_ mm2 mm0 (methIA mm3 (by rfl) (by intro ζ; exact ⟨by k_is, by k_is, by k_is⟩) ?_)))))
  refine CallWA (by intro ζ; k_is) ?_
  refine ArgsCons_ (cM (evN hE mm2 mm1) (gM mm0 rfl) evs0 (ofCa (fun ζ => Cc.pick Pick.refl (k_wb_ops ‹_› nle ?_))))
  intro ζ
  refine ArgsNil_ (ofCa (fun ζ => Cc.pick (pC rm4 (pC rm4 (pC rm4 (pC rm0 (pC rm3 (pC rm3 (pk rm3))))))) (k_take3 ‹_› ‹_› ‹_› ?_)))
  refine sIf (tvV (evN hE mm9 mm2) rfl) (kF rfl App.nil (sRet (evA (evN hE mm9 mm0) mm0 mm3 hand_i) ?_))
  rotate_left
  exact ⟨_, by exact (pC rm0 (pC rm0 (pC rm0 (pC rm0 (pC rm0 (pC rm0 (pC rm0 (pS (pS (pS Pick.refl)))))))))), h _⟩
theorem k_writed {s dn lb bx r t0 t1 t2 : Addr} {k l w : Int} {es : List (List UInt8 × AV)} {bs : List AV} {k0 v0 k1 v1 k2 v2 : List UInt8} (hv : VRs [.con (.ref bx), .bool false] vs) (he : es.length ≤ 1000) (hb : bs.length ≤ 1000) (hd : (lookA es k0).isSome = true)
    (h : ∀ p, K (.int (l + 3)) (stoE s dn lb k (l + 3) :: (dn, .bd (putA (putA (delA (es) k0) k1 (.bytes v1)) k2 (.bytes v2))) :: (lb, .list (bs ++ [.con (.ref p)])) :: (p, .list [.con (.ref t0), .con (.ref t1), .con (.ref t2)]) :: rowE t0 0 k0 v0 :: rowE t1 1 k1 v1 :: rowE t2 1 k2 v2 :: R)) (hn : 3 ≤ n := by fail "mx nn") :
    Cc G n (stoE s dn lb k l :: (dn, .bd es) :: (lb, .list bs) :: batE bx r w :: (r, .list [.con (.ref t0), .con (.ref t1), .con (.ref t2)]) :: rowE t0 0 k0 v0 :: rowE t1 1 k1 v1 :: rowE t2 1 k2 v2 :: R) (.ref 838) ([.ref s] ++ vs) K := by
  refine f_838 (by fail "mx nn") (by exact (VRs.cons (VR_ref _) ‹_›)) rfl (fun p hE => ?_)
  refine Cons' (If' (TtCmpA (cM (evN hE mm0 mm1) (gM mm4 rfl) evs0 (ofCa (fun ζ => Cc.pick (pC rm4 (pk rm4)) (k_wb_count ‹_› nle ?_))))))
  refine Int_ (eqIA (truthyA (onB_f (by simp only [decide_eq_true_eq, decide_eq_false_iff_not, beq_iff_eq, bne_iff_ne, beq_eq_false_iff_ne, bne_eq_false_iff_eq, Bool.not_eq_true', Bool.not_eq_false', ne_eq, ge_iff_le, gt_iff_lt, Option.isSome_some, Option.isSome_none, Option.isNone_some, Option.isNone_none, List.length_cons, List.length_nil]; first | done | lia | assumption) ?_)))
  refine Nil_ (onN_n (sX hE (MCallA (Name_ mm2 mm0 (methIA mm3 (by rfl) (by intro ζ; exact ⟨by k_is, by k_is, by k_is⟩) ?_)))))
  refine CallWA (by intro ζ; k_is) ?_
  refine ArgsCons_ (cM (evN hE mm2 mm1) (gM mm0 rfl) evs0 (ofCa (fun ζ => Cc.pick Pick.refl (k_wb_ops ‹_› nle ?_))))
  intro ζ
  refine ArgsNil_ (ofCa (fun ζ => Cc.pick (pC rm4 (pC rm4 (pC rm4 (pC rm0 (pC rm3 (pC rm3 (pk rm3))))))) (k_taked ‹_› ‹_› ‹_› ‹_› ?_)))
  refine sIf (tvV (evN hE mm9 mm2) rfl) (kF rfl App.nil (sRet (evA (evN hE mm9 mm0) mm0 mm3 hand_i) ?_))
  rotate_left
  exact ⟨_, by exact (pC rm0 (pC rm0 (pC rm0 (pC rm0 (pC rm0 (pC rm0 (pC rm0 (pS (pS (pS Pick.refl)))))))))), h _⟩
end
end
section
section
variable {G : Gr} {n : Nat} {R : Led} {vs : List Value} {K : AV → Led → Prop}
theorem k_ap_told {m s dn lb ex : Addr} {a t d k l kd c nu la i : Int} {es : List (List UInt8 × AV)} {bs : List AV} {key val rp : List UInt8} {e o : Option (List UInt8)} {op : Bool} (hv : VRs [.con (.ref ex), .none] vs) (hc : c = 5 ∨ c = 300) (hS : SesAt es c la op rp) (hi : i = a + 1) (hi0 : 0 ≤ i) (hi1 : i < 128) (he : es.length ≤ 1000) (hb : bs.length ≤ 1000)
    (hk0 : 0 ≤ kd) (hk1 : kd ≤ 6) (hn0 : 0 ≤ nu) (hn1 : nu < 128) (hkey : key.length ≤ 100) (hval : val.length ≤ 20) (hee : ∀ o, e = some o → o.length < 128) (h1 : nu = la)
    (h : ∀ p t0, K (.bytes rp) (macE m s i 1 d :: stoE s dn lb k (l + 1) :: (dn, .bd (putA es [97] (.bytes (app i 1)))) :: (lb, .list (bs ++ [.con (.ref p)])) :: (p, .list [.con (.ref t0)]) :: rowE t0 1 [97] (app i 1) :: R)) (hn : 10 ≤ n := by fail "mx nn") :
    Cc G n (macE m s a t d :: stoE s dn lb k l :: (dn, .bd es) :: (lb, .list bs) :: entE ex 1 i 0 (cmd kd c nu key val e) :: R) (.ref 740) ([.ref m] ++ vs) K := by
  refine f_740 (by fail "mx nn") (by exact (VRs.cons (VR_ref _) ‹_›)) rfl (fun p hE => ?_)
  refine sIf (tvC (evA (evN hE mm0 mm1) mm5 mm1 hand_i) (evO (evA (evN hE mm0 mm0) mm1 mm1 hand_i) evI oAdd) cNe) (kF (nqF ‹_›) App.nil ?_)
  refine sAsg hE (evA (evN hE mm0 mm0) mm1 mm3 hand_b) up0 rp3 (sIf (tvC (evN hE mm0 mm2) evZ cNtN) (kF rfl App.nil (sAsgC (cF hE evs0 (ofCa (fun ζ => k_WriteBatch ‹_› ?_))))))
  intro ζ ζ
  refine sSt hE up2 rp4 (sAsg hE evZ up2 rp5 (sAsgC (cM (evN hE mm2 mm0) (gM mm3 rfl) (evs1 (evN hE mm2 mm1) evs0) (ofCa (fun ζ => Cc.pick (pC rm3 (pk rm6)) (k_cmdof ‹_› ‹_› ‹_› ‹_› ‹_› (n_le_lt ‹_› (by decide)) (n_le_lt ‹_› (by decide)) ‹_› ‹_› ?_))))))
  intro ζ
  refine sSt hE up5 rp6 (sIf (tvC (evN hE mm5 mm6) evZ cNtR) (kT rfl (App.cons App.nil) (sAsgC (cM (evN hE mm5 mm0) (gM mm1 rfl) (evs1 (evN hE mm5 mm6) (evs1 (evN hE mm5 mm4) evs0)) (ofCa (fun ζ => Cc.pick (pC rm1 (pC rm5 (pC rm5 (pC rm0 (pC rm1 (pk rm1)))))) (k_do_told ‹_› ‹_› ‹_› ‹_› ?_)))))))
  refine sSt hE up7 rp5 (sX hE (cM (evN hE mm7 mm0) (gM mm0 rfl) (evs1 (evN hE mm7 mm4) (evs1 (evA (evN hE mm7 mm1) mm6 mm1 hand_i) (evs1 (evA (evN hE mm7 mm1) mm6 mm0 hand_i) (evs1 (evN hE mm7 mm3) evs0)))) (ofCa (fun ζ => Cc.pick (pC rm0 (pC rm3 (pk rm3))) (k_puta ‹_› ‹_› ‹_› (i_cl (by decide)) (i_cl' (by decide)) nle ?_)))))
  intro ζ ζ
  refine sX hE (cM (evA (evN hE mm8 mm0) mm0 mm0 hand_r) (gM mm4 rfl) (evs1 (evN hE mm8 mm4) (evs1 (evA (evN hE mm8 mm0) mm0 mm5 hand_t) evs0)) (ofCa (fun ζ => Cc.pick (pC rm4 (pC rm4 (pC rm7 (pC rm1 (pC rm1 (pk rm1)))))) (k_write1 ‹_› ‹_› ‹_› ?_))))
  intro ζ
  refine sSet (evA (evN hE mm8 mm1) mm7 mm1 hand_i) (evN hE mm8 mm0) up5 rf1 (by intro ζ; exact ⟨by k_is, by k_is, by k_is, by k_is⟩) ?_
  refine sSet (evA (evN hE mm8 mm1) mm7 mm0 hand_i) (evN hE mm8 mm0) up5 rf2 (by intro ζ; exact ⟨by k_is, by k_is, by k_is, by k_is⟩) ?_
  refine sSet (evN hE mm8 mm3) (evN hE mm8 mm0) up5 rf3 (by intro ζ; exact ⟨by k_is, by k_is, by k_is, by k_is⟩) ?_
  refine sIf (tvV (evA (evN hE mm8 mm0) mm5 mm5 hand_t) rfl) (kF rfl App.nil (sRet (evN hE mm8 mm5) ?_))
  rotate_left
  exact ⟨_, by exact (pC rm5 (pC rm0 (pC rm0 (pC rm0 (pC rm0 (pC rm0 (pS (pS (pS Pick.refl))))))))), h _ _⟩
theorem k_ap_stale {m s dn lb ex : Addr} {a t d k l kd c nu la i : Int} {es : List (List UInt8 × AV)} {bs : List AV} {key val rp : List UInt8} {e o : Option (List UInt8)} {op : Bool} (hv : VRs [.con (.ref ex), .none] vs) (hc : c = 5 ∨ c = 300) (hS : SesAt es c la op rp) (hi : i = a + 1) (hi0 : 0 ≤ i) (hi1 : i < 128) (he : es.length ≤ 1000) (hb : bs.length ≤ 1000)
    (hk0 : 0 ≤ kd) (hk1 : kd ≤ 6) (hn0 : 0 ≤ nu) (hn1 : nu < 128) (hkey : key.length ≤ 100) (hval : val.length ≤ 20) (hee : ∀ o, e = some o → o.length < 128) (h1 : nu < la)
    (h : ∀ p t0, K (.bytes (rep 3 none)) (macE m s i 1 d :: stoE s dn lb k (l + 1) :: (dn, .bd (putA es [97] (.bytes (app i 1)))) :: (lb, .list (bs ++ [.con (.ref p)])) :: (p, .list [.con (.ref t0)]) :: rowE t0 1 [97] (app i 1) :: R)) (hn : 10 ≤ n := by fail "mx nn") :
    Cc G n (macE m s a t d :: stoE s dn lb k l :: (dn, .bd es) :: (lb, .list bs) :: entE ex 1 i 0 (cmd kd c nu key val e) :: R) (.ref 740) ([.ref m] ++ vs) K := by
  refine f_740 (by fail "mx nn") (by exact (VRs.cons (VR_ref _) ‹_›)) rfl (fun p hE => ?_)
  refine sIf (tvC (evA (evN hE mm0 mm1) mm5 mm1 hand_i) (evO (evA (evN hE mm0 mm0) mm1 mm1 hand_i) evI oAdd) cNe) (kF (nqF ‹_›) App.nil ?_)
  refine sAsg hE (evA (evN hE mm0 mm0) mm1 mm3 hand_b) up0 rp3 (sIf (tvC (evN hE mm0 mm2) evZ cNtN) (kF rfl App.nil (sAsgC (cF hE evs0 (ofCa (fun ζ => k_WriteBatch ‹_› ?_))))))
  intro ζ ζ
  refine sSt hE up2 rp4 (sAsg hE evZ up2 rp5 (sAsgC (cM (evN hE mm2 mm0) (gM mm3 rfl) (evs1 (evN hE mm2 mm1) evs0) (ofCa (fun ζ => Cc.pick (pC rm3 (pk rm6)) (k_cmdof ‹_› ‹_› ‹_› ‹_› ‹_› (n_le_lt ‹_› (by decide)) (n_le_lt ‹_› (by decide)) ‹_› ‹_› ?_))))))
  intro ζ
  refine sSt hE up5 rp6 (sIf (tvC (evN hE mm5 mm6) evZ cNtR) (kT rfl (App.cons App.nil) (sAsgC (cM (evN hE mm5 mm0) (gM mm1 rfl) (evs1 (evN hE mm5 mm6) (evs1 (evN hE mm5 mm4) evs0)) (ofCa (fun ζ => Cc.pick (pC rm1 (pC rm5 (pC rm5 (pC rm0 (pC rm1 (pk rm1)))))) (k_do_stale ‹_› ‹_› ‹_› ‹_› ?_)))))))
  refine sSt hE up7 rp5 (sX hE (cM (evN hE mm7 mm0) (gM mm0 rfl) (evs1 (evN hE mm7 mm4) (evs1 (evA (evN hE mm7 mm1) mm6 mm1 hand_i) (evs1 (evA (evN hE mm7 mm1) mm6 mm0 hand_i) (evs1 (evN hE mm7 mm3) evs0)))) (ofCa (fun ζ => Cc.pick (pC rm0 (pC rm3 (pk rm3))) (k_puta ‹_› ‹_› ‹_› (i_cl (by decide)) (i_cl' (by decide)) nle ?_)))))
  intro ζ ζ
  refine sX hE (cM (evA (evN hE mm8 mm0) mm0 mm0 hand_r) (gM mm4 rfl) (evs1 (evN hE mm8 mm4) (evs1 (evA (evN hE mm8 mm0) mm0 mm5 hand_t) evs0)) (ofCa (fun ζ => Cc.pick (pC rm4 (pC rm4 (pC rm7 (pC rm1 (pC rm1 (pk rm1)))))) (k_write1 ‹_› ‹_› ‹_› ?_))))
  intro ζ
  refine sSet (evA (evN hE mm8 mm1) mm7 mm1 hand_i) (evN hE mm8 mm0) up5 rf1 (by intro ζ; exact ⟨by k_is, by k_is, by k_is, by k_is⟩) ?_
  refine sSet (evA (evN hE mm8 mm1) mm7 mm0 hand_i) (evN hE mm8 mm0) up5 rf2 (by intro ζ; exact ⟨by k_is, by k_is, by k_is, by k_is⟩) ?_
  refine sSet (evN hE mm8 mm3) (evN hE mm8 mm0) up5 rf3 (by intro ζ; exact ⟨by k_is, by k_is, by k_is, by k_is⟩) ?_
  refine sIf (tvV (evA (evN hE mm8 mm0) mm5 mm5 hand_t) rfl) (kF rfl App.nil (sRet (evN hE mm8 mm5) ?_))
  rotate_left
  exact ⟨_, by exact (pC rm5 (pC rm0 (pC rm0 (pC rm0 (pC rm0 (pC rm0 (pS (pS (pS Pick.refl))))))))), h _ _⟩
end
end
section
section
variable {G : Gr} {n : Nat} {R : Led} {vs : List Value} {K : AV → Led → Prop}
theorem k_ap_unk {m s dn lb ex : Addr} {a t d k l kd c nu la i : Int} {es : List (List UInt8 × AV)} {bs : List AV} {key val rp : List UInt8} {e o : Option (List UInt8)} (hv : VRs [.con (.ref ex), .none] vs) (hc : c = 5 ∨ c = 300) (hS : SesAt es c la false rp) (hi : i = a + 1) (hi0 : 0 ≤ i) (hi1 : i < 128) (he : es.length ≤ 1000) (hb : bs.length ≤ 1000)
    (hk0 : 0 ≤ kd) (hk1 : kd ≤ 6) (hn0 : 0 ≤ nu) (hn1 : nu < 128) (hkey : key.length ≤ 100) (hval : val.length ≤ 20) (hee : ∀ o, e = some o → o.length < 128) (h1 : la < nu) (h2 : kd ≠ 5)
    (h : ∀ p t0, K (.bytes (rep 2 none)) (macE m s i 1 d :: stoE s dn lb k (l + 1) :: (dn, .bd (putA es [97] (.bytes (app i 1)))) :: (lb, .list (bs ++ [.con (.ref p)])) :: (p, .list [.con (.ref t0)]) :: rowE t0 1 [97] (app i 1) :: R)) (hn : 10 ≤ n := by fail "mx nn") :
    Cc G n (macE m s a t d :: stoE s dn lb k l :: (dn, .bd es) :: (lb, .list bs) :: entE ex 1 i 0 (cmd kd c nu key val e) :: R) (.ref 740) ([.ref m] ++ vs) K := by
  refine f_740 (by fail "mx nn") (by exact (VRs.cons (VR_ref _) ‹_›)) rfl (fun p hE => ?_)
  refine sIf (tvC (evA (evN hE mm0 mm1) mm5 mm1 hand_i) (evO (evA (evN hE mm0 mm0) mm1 mm1 hand_i) evI oAdd) cNe) (kF (nqF ‹_›) App.nil ?_)
  refine sAsg hE (evA (evN hE mm0 mm0) mm1 mm3 hand_b) up0 rp3 (sIf (tvC (evN hE mm0 mm2) evZ cNtN) (kF rfl App.nil (sAsgC (cF hE evs0 (ofCa (fun ζ => k_WriteBatch ‹_› ?_))))))
  intro ζ ζ
  refine sSt hE up2 rp4 (sAsg hE evZ up2 rp5 (sAsgC (cM (evN hE mm2 mm0) (gM mm3 rfl) (evs1 (evN hE mm2 mm1) evs0) (ofCa (fun ζ => Cc.pick (pC rm3 (pk rm6)) (k_cmdof ‹_› ‹_› ‹_› ‹_› ‹_› (n_le_lt ‹_› (by decide)) (n_le_lt ‹_› (by decide)) ‹_› ‹_› ?_))))))
  intro ζ
  refine sSt hE up5 rp6 (sIf (tvC (evN hE mm5 mm6) evZ cNtR) (kT rfl (App.cons App.nil) (sAsgC (cM (evN hE mm5 mm0) (gM mm1 rfl) (evs1 (evN hE mm5 mm6) (evs1 (evN hE mm5 mm4) evs0)) (ofCa (fun ζ => Cc.pick (pC rm1 (pC rm5 (pC rm5 (pC rm0 (pC rm1 (pk rm1)))))) (k_do_unk ‹_› ‹_› ‹_› ‹_› ‹_› ?_)))))))
  refine sSt hE up7 rp5 (sX hE (cM (evN hE mm7 mm0) (gM mm0 rfl) (evs1 (evN hE mm7 mm4) (evs1 (evA (evN hE mm7 mm1) mm6 mm1 hand_i) (evs1 (evA (evN hE mm7 mm1) mm6 mm0 hand_i) (evs1 (evN hE mm7 mm3) evs0)))) (ofCa (fun ζ => Cc.pick (pC rm0 (pC rm3 (pk rm3))) (k_puta ‹_› ‹_› ‹_› (i_cl (by decide)) (i_cl' (by decide)) nle ?_)))))
  intro ζ ζ
  refine sX hE (cM (evA (evN hE mm8 mm0) mm0 mm0 hand_r) (gM mm4 rfl) (evs1 (evN hE mm8 mm4) (evs1 (evA (evN hE mm8 mm0) mm0 mm5 hand_t) evs0)) (ofCa (fun ζ => Cc.pick (pC rm4 (pC rm4 (pC rm7 (pC rm1 (pC rm1 (pk rm1)))))) (k_write1 ‹_› ‹_› ‹_› ?_))))
  intro ζ
  refine sSet (evA (evN hE mm8 mm1) mm7 mm1 hand_i) (evN hE mm8 mm0) up5 rf1 (by intro ζ; exact ⟨by k_is, by k_is, by k_is, by k_is⟩) ?_
  refine sSet (evA (evN hE mm8 mm1) mm7 mm0 hand_i) (evN hE mm8 mm0) up5 rf2 (by intro ζ; exact ⟨by k_is, by k_is, by k_is, by k_is⟩) ?_
  refine sSet (evN hE mm8 mm3) (evN hE mm8 mm0) up5 rf3 (by intro ζ; exact ⟨by k_is, by k_is, by k_is, by k_is⟩) ?_
  refine sIf (tvV (evA (evN hE mm8 mm0) mm5 mm5 hand_t) rfl) (kF rfl App.nil (sRet (evN hE mm8 mm5) ?_))
  rotate_left
  exact ⟨_, by exact (pC rm5 (pC rm0 (pC rm0 (pC rm0 (pC rm0 (pC rm0 (pS (pS (pS Pick.refl))))))))), h _ _⟩
theorem k_ap_n {m s dn lb ex : Addr} {a t d k l kd c nu la i : Int} {es : List (List UInt8 × AV)} {bs : List AV} {key val rp : List UInt8} {e o : Option (List UInt8)} {q : List UInt8} (hv : VRs [.con (.ref ex), .none] vs) (hc : c = 5 ∨ c = 300) (hS : SesAt es c la true rp) (hi : i = a + 1) (hi0 : 0 ≤ i) (hi1 : i < 128) (he : es.length ≤ 1000) (hb : bs.length ≤ 1000)
    (hk0 : 0 ≤ kd) (hk1 : kd ≤ 6) (hn0 : 0 ≤ nu) (hn1 : nu < 128) (hkey : key.length ≤ 100) (hval : val.length ≤ 20) (hee : ∀ o, e = some o → o.length < 128) (h1 : la < nu) (hl : lookA es (100 :: key) = o.map .bytes) (ho : ∀ c, o = some c → c.length < 100) (hq : q.length < 120) (hf : eff kd o val e = (q, none))
    (h : ∀ p t0 t1, K (.bytes q) (macE m s i 1 d :: stoE s dn lb k (l + 2) :: (dn, .bd (putA (putA es (skey c) (.bytes (ses nu (kd != 6) q))) [97] (.bytes (app i 1)))) :: (lb, .list (bs ++ [.con (.ref p)])) :: (p, .list [.con (.ref t0), .con (.ref t1)]) :: rowE t0 1 (skey c) (ses nu (kd != 6) q) :: rowE t1 1 [97] (app i 1) :: R)) (hn : 10 ≤ n := by fail "mx nn") :
    Cc G n (macE m s a t d :: stoE s dn lb k l :: (dn, .bd es) :: (lb, .list bs) :: entE ex 1 i 0 (cmd kd c nu key val e) :: R) (.ref 740) ([.ref m] ++ vs) K := by
  refine f_740 (by fail "mx nn") (by exact (VRs.cons (VR_ref _) ‹_›)) rfl (fun p hE => ?_)
  refine sIf (tvC (evA (evN hE mm0 mm1) mm5 mm1 hand_i) (evO (evA (evN hE mm0 mm0) mm1 mm1 hand_i) evI oAdd) cNe) (kF (nqF ‹_›) App.nil ?_)
  refine sAsg hE (evA (evN hE mm0 mm0) mm1 mm3 hand_b) up0 rp3 (sIf (tvC (evN hE mm0 mm2) evZ cNtN) (kF rfl App.nil (sAsgC (cF hE evs0 (ofCa (fun ζ => k_WriteBatch ‹_› ?_))))))
  intro ζ ζ
  refine sSt hE up2 rp4 (sAsg hE evZ up2 rp5 (sAsgC (cM (evN hE mm2 mm0) (gM mm3 rfl) (evs1 (evN hE mm2 mm1) evs0) (ofCa (fun ζ => Cc.pick (pC rm3 (pk rm6)) (k_cmdof ‹_› ‹_› ‹_› ‹_› ‹_› (n_le_lt ‹_› (by decide)) (n_le_lt ‹_› (by decide)) ‹_› ‹_› ?_))))))
  intro ζ
  refine sSt hE up5 rp6 (sIf (tvC (evN hE mm5 mm6) evZ cNtR) (kT rfl (App.cons App.nil) (sAsgC (cM (evN hE mm5 mm0) (gM mm1 rfl) (evs1 (evN hE mm5 mm6) (evs1 (evN hE mm5 mm4) evs0)) (ofCa (fun ζ => Cc.pick (pC rm1 (pC rm5 (pC rm5 (pC rm0 (pC rm1 (pk rm1)))))) (k_do_n ‹_› ‹_› ‹_› ‹_› ‹_› ‹_› ‹_› ‹_› ‹_› ‹_› ‹_› ‹_› ‹_› ‹_› ?_)))))))
  intro ζ ζ
  refine sSt hE up8 rp5 (sX hE (cM (evN hE mm8 mm0) (gM mm0 rfl) (evs1 (evN hE mm8 mm4) (evs1 (evA (evN hE mm8 mm1) mm7 mm1 hand_i) (evs1 (evA (evN hE mm8 mm1) mm7 mm0 hand_i) (evs1 (evN hE mm8 mm3) evs0)))) (ofCa (fun ζ => Cc.pick (pC rm0 (pC rm3 (pk rm3))) (k_puta ‹_› ‹_› ‹_› (i_cl (by decide)) (i_cl' (by decide)) nle ?_)))))
  intro ζ ζ
  refine sX hE (cM (evA (evN hE mm9 mm0) mm0 mm0 hand_r) (gM mm4 rfl) (evs1 (evN hE mm9 mm4) (evs1 (evA (evN hE mm9 mm0) mm0 mm5 hand_t) evs0)) (ofCa (fun ζ => Cc.pick (pC rm4 (pC rm4 (pC rm8 (pC rm1 (pC rm1 (pC rm3 (pk rm1))))))) (k_write2 ‹_› ‹_› ‹_› ?_))))
  intro ζ
  refine sSet (evA (evN hE mm9 mm1) mm8 mm1 hand_i) (evN hE mm9 mm0) up6 rf1 (by intro ζ; exact ⟨by k_is, by k_is, by k_is, by k_is⟩) ?_
  refine sSet (evA (evN hE mm9 mm1) mm8 mm0 hand_i) (evN hE mm9 mm0) up6 rf2 (by intro ζ; exact ⟨by k_is, by k_is, by k_is, by k_is⟩) ?_
  refine sSet (evN hE mm9 mm3) (evN hE mm9 mm0) up6 rf3 (by intro ζ; exact ⟨by k_is, by k_is, by k_is, by k_is⟩) ?_
  refine sIf (tvV (evA (evN hE mm9 mm0) mm6 mm5 hand_t) rfl) (kF rfl App.nil (sRet (evN hE mm9 mm5) ?_))
  rotate_left
  exact ⟨_, by exact (pC rm6 (pC rm0 (pC rm0 (pC rm0 (pC rm0 (pC rm0 (pC rm0 (pS (pS (pS Pick.refl)))))))))), h _ _ _⟩
end
end
section
section
variable {G : Gr} {n : Nat} {R : Led} {vs : List Value} {K : AV → Led → Prop}
theorem k_ap_p {m s dn lb ex : Addr} {a t d k l kd c nu la i : Int} {es : List (List UInt8 × AV)} {bs : List AV} {key val rp : List UInt8} {e o : Option (List UInt8)} {q y : List UInt8} (hv : VRs [.con (.ref ex), .none] vs) (hc : c = 5 ∨ c = 300) (hS : SesAt es c la true rp) (hi : i = a + 1) (hi0 : 0 ≤ i) (hi1 : i < 128) (he : es.length ≤ 1000) (hb : bs.length ≤ 1000)
    (hk0 : 0 ≤ kd) (hk1 : kd ≤ 6) (hn0 : 0 ≤ nu) (hn1 : nu < 128) (hkey : key.length ≤ 100) (hval : val.length ≤ 20) (hee : ∀ o, e = some o → o.length < 128) (h1 : la < nu) (hl : lookA es (100 :: key) = o.map .bytes) (ho : ∀ c, o = some c → c.length < 100) (hq : q.length < 120) (hy : y.length < 128) (hf : eff kd o val e = (q, some (some y)))
    (h : ∀ p t0 t1 t2, K (.bytes q) (macE m s i 1 d :: stoE s dn lb k (l + 3) :: (dn, .bd (putA (putA (putA es (100 :: key) (.bytes y)) (skey c) (.bytes (ses nu (kd != 6) q))) [97] (.bytes (app i 1)))) :: (lb, .list (bs ++ [.con (.ref p)])) :: (p, .list [.con (.ref t0), .con (.ref t1), .con (.ref t2)]) :: rowE t0 1 (100 :: key) y :: rowE t1 1 (skey c) (ses nu (kd != 6) q) :: rowE t2 1 [97] (app i 1) :: R)) (hn : 10 ≤ n := by fail "mx nn") :
    Cc G n (macE m s a t d :: stoE s dn lb k l :: (dn, .bd es) :: (lb, .list bs) :: entE ex 1 i 0 (cmd kd c nu key val e) :: R) (.ref 740) ([.ref m] ++ vs) K := by
  refine f_740 (by fail "mx nn") (by exact (VRs.cons (VR_ref _) ‹_›)) rfl (fun p hE => ?_)
  refine sIf (tvC (evA (evN hE mm0 mm1) mm5 mm1 hand_i) (evO (evA (evN hE mm0 mm0) mm1 mm1 hand_i) evI oAdd) cNe) (kF (nqF ‹_›) App.nil ?_)
  refine sAsg hE (evA (evN hE mm0 mm0) mm1 mm3 hand_b) up0 rp3 (sIf (tvC (evN hE mm0 mm2) evZ cNtN) (kF rfl App.nil (sAsgC (cF hE evs0 (ofCa (fun ζ => k_WriteBatch ‹_› ?_))))))
  intro ζ ζ
  refine sSt hE up2 rp4 (sAsg hE evZ up2 rp5 (sAsgC (cM (evN hE mm2 mm0) (gM mm3 rfl) (evs1 (evN hE mm2 mm1) evs0) (ofCa (fun ζ => Cc.pick (pC rm3 (pk rm6)) (k_cmdof ‹_› ‹_› ‹_› ‹_› ‹_› (n_le_lt ‹_› (by decide)) (n_le_lt ‹_› (by decide)) ‹_› ‹_› ?_))))))
  intro ζ
  refine sSt hE up5 rp6 (sIf (tvC (evN hE mm5 mm6) evZ cNtR) (kT rfl (App.cons App.nil) (sAsgC (cM (evN hE mm5 mm0) (gM mm1 rfl) (evs1 (evN hE mm5 mm6) (evs1 (evN hE mm5 mm4) evs0)) (ofCa (fun ζ => Cc.pick (pC rm1 (pC rm5 (pC rm5 (pC rm0 (pC rm1 (pk rm1)))))) (k_do_p ‹_› ‹_› ‹_› ‹_› ‹_› ‹_› ‹_› ‹_› ‹_› ‹_› ‹_› ‹_› ‹_› ‹_› ?_)))))))
  intro ζ ζ ζ
  refine sSt hE up9 rp5 (sX hE (cM (evN hE mm9 mm0) (gM mm0 rfl) (evs1 (evN hE mm9 mm4) (evs1 (evA (evN hE mm9 mm1) mm8 mm1 hand_i) (evs1 (evA (evN hE mm9 mm1) mm8 mm0 hand_i) (evs1 (evN hE mm9 mm3) evs0)))) (ofCa (fun ζ => Cc.pick (pC rm0 (pC rm3 (pk rm3))) (k_puta ‹_› ‹_› ‹_› (i_cl (by decide)) (i_cl' (by decide)) nle ?_)))))
  intro ζ ζ
  refine sX hE (cM (evA (evN hE (mmt mm0) mm0) mm0 mm0 hand_r) (gM mm4 rfl) (evs1 (evN hE (mmt mm0) mm4) (evs1 (evA (evN hE (mmt mm0) mm0) mm0 mm5 hand_t) evs0)) (ofCa (fun ζ => Cc.pick (pC rm4 (pC rm4 (pC rm9 (pC rm1 (pC rm1 (pC rm3 (pC rm3 (pk rm1)))))))) (k_write3 ‹_› ‹_› ‹_› ?_))))
  intro ζ
  refine sSet (evA (evN hE (mmt mm0) mm1) mm9 mm1 hand_i) (evN hE (mmt mm0) mm0) up7 rf1 (by intro ζ; exact ⟨by k_is, by k_is, by k_is, by k_is⟩) ?_
  refine sSet (evA (evN hE (mmt mm0) mm1) mm9 mm0 hand_i) (evN hE (mmt mm0) mm0) up7 rf2 (by intro ζ; exact ⟨by k_is, by k_is, by k_is, by k_is⟩) ?_
  refine sSet (evN hE (mmt mm0) mm3) (evN hE (mmt mm0) mm0) up7 rf3 (by intro ζ; exact ⟨by k_is, by k_is, by k_is, by k_is⟩) ?_
  refine sIf (tvV (evA (evN hE (mmt mm0) mm0) mm7 mm5 hand_t) rfl) (kF rfl App.nil (sRet (evN hE (mmt mm0) mm5) ?_))
  rotate_left
  exact ⟨_, by exact (pC rm7 (pC rm0 (pC rm0 (pC rm0 (pC rm0 (pC rm0 (pC rm0 (pC rm0 (pS (pS (pS Pick.refl))))))))))), h _ _ _ _⟩
end
end
section
section
variable {G : Gr} {n : Nat} {R : Led} {vs : List Value} {K : AV → Led → Prop}
theorem k_ap_d {m s dn lb ex : Addr} {a t d k l kd c nu la i : Int} {es : List (List UInt8 × AV)} {bs : List AV} {key val rp : List UInt8} {e o : Option (List UInt8)} {q : List UInt8} (hv : VRs [.con (.ref ex), .none] vs) (hc : c = 5 ∨ c = 300) (hS : SesAt es c la true rp) (hi : i = a + 1) (hi0 : 0 ≤ i) (hi1 : i < 128) (he : es.length ≤ 1000) (hb : bs.length ≤ 1000)
    (hk0 : 0 ≤ kd) (hk1 : kd ≤ 6) (hn0 : 0 ≤ nu) (hn1 : nu < 128) (hkey : key.length ≤ 100) (hval : val.length ≤ 20) (hee : ∀ o, e = some o → o.length < 128) (h1 : la < nu) (hl : lookA es (100 :: key) = o.map .bytes) (ho : ∀ c, o = some c → c.length < 100) (hq : q.length < 120) (hdl : (lookA es (100 :: key)).isSome = true) (hf : eff kd o val e = (q, some none))
    (h : ∀ p t0 t1 t2, K (.bytes q) (macE m s i 1 d :: stoE s dn lb k (l + 3) :: (dn, .bd (putA (putA (delA es (100 :: key)) (skey c) (.bytes (ses nu (kd != 6) q))) [97] (.bytes (app i 1)))) :: (lb, .list (bs ++ [.con (.ref p)])) :: (p, .list [.con (.ref t0), .con (.ref t1), .con (.ref t2)]) :: rowE t0 0 (100 :: key) [] :: rowE t1 1 (skey c) (ses nu (kd != 6) q) :: rowE t2 1 [97] (app i 1) :: R)) (hn : 10 ≤ n := by fail "mx nn") :
    Cc G n (macE m s a t d :: stoE s dn lb k l :: (dn, .bd es) :: (lb, .list bs) :: entE ex 1 i 0 (cmd kd c nu key val e) :: R) (.ref 740) ([.ref m] ++ vs) K := by
  refine f_740 (by fail "mx nn") (by exact (VRs.cons (VR_ref _) ‹_›)) rfl (fun p hE => ?_)
  refine sIf (tvC (evA (evN hE mm0 mm1) mm5 mm1 hand_i) (evO (evA (evN hE mm0 mm0) mm1 mm1 hand_i) evI oAdd) cNe) (kF (nqF ‹_›) App.nil ?_)
  refine sAsg hE (evA (evN hE mm0 mm0) mm1 mm3 hand_b) up0 rp3 (sIf (tvC (evN hE mm0 mm2) evZ cNtN) (kF rfl App.nil (sAsgC (cF hE evs0 (ofCa (fun ζ => k_WriteBatch ‹_› ?_))))))
  intro ζ ζ
  refine sSt hE up2 rp4 (sAsg hE evZ up2 rp5 (sAsgC (cM (evN hE mm2 mm0) (gM mm3 rfl) (evs1 (evN hE mm2 mm1) evs0) (ofCa (fun ζ => Cc.pick (pC rm3 (pk rm6)) (k_cmdof ‹_› ‹_› ‹_› ‹_› ‹_› (n_le_lt ‹_› (by decide)) (n_le_lt ‹_› (by decide)) ‹_› ‹_› ?_))))))
  intro ζ
  refine sSt hE up5 rp6 (sIf (tvC (evN hE mm5 mm6) evZ cNtR) (kT rfl (App.cons App.nil) (sAsgC (cM (evN hE mm5 mm0) (gM mm1 rfl) (evs1 (evN hE mm5 mm6) (evs1 (evN hE mm5 mm4) evs0)) (ofCa (fun ζ => Cc.pick (pC rm1 (pC rm5 (pC rm5 (pC rm0 (pC rm1 (pk rm1)))))) (k_do_d ‹_› ‹_› ‹_› ‹_› ‹_› ‹_› ‹_› ‹_› ‹_› ‹_› ‹_› ‹_› ‹_› ‹_› ?_)))))))
  intro ζ ζ ζ
  refine sSt hE up9 rp5 (sX hE (cM (evN hE mm9 mm0) (gM mm0 rfl) (evs1 (evN hE mm9 mm4) (evs1 (evA (evN hE mm9 mm1) mm8 mm1 hand_i) (evs1 (evA (evN hE mm9 mm1) mm8 mm0 hand_i) (evs1 (evN hE mm9 mm3) evs0)))) (ofCa (fun ζ => Cc.pick (pC rm0 (pC rm3 (pk rm3))) (k_puta ‹_› ‹_› ‹_› (i_cl (by decide)) (i_cl' (by decide)) nle ?_)))))
  intro ζ ζ
  refine sX hE (cM (evA (evN hE (mmt mm0) mm0) mm0 mm0 hand_r) (gM mm4 rfl) (evs1 (evN hE (mmt mm0) mm4) (evs1 (evA (evN hE (mmt mm0) mm0) mm0 mm5 hand_t) evs0)) (ofCa (fun ζ => Cc.pick (pC rm4 (pC rm4 (pC rm9 (pC rm1 (pC rm1 (pC rm3 (pC rm3 (pk rm1)))))))) (k_writed ‹_› ‹_› ‹_› ‹_› ?_))))
  intro ζ
  refine sSet (evA (evN hE (mmt mm0) mm1) mm9 mm1 hand_i) (evN hE (mmt mm0) mm0) up7 rf1 (by intro ζ; exact ⟨by k_is, by k_is, by k_is, by k_is⟩) ?_
  refine sSet (evA (evN hE (mmt mm0) mm1) mm9 mm0 hand_i) (evN hE (mmt mm0) mm0) up7 rf2 (by intro ζ; exact ⟨by k_is, by k_is, by k_is, by k_is⟩) ?_
  refine sSet (evN hE (mmt mm0) mm3) (evN hE (mmt mm0) mm0) up7 rf3 (by intro ζ; exact ⟨by k_is, by k_is, by k_is, by k_is⟩) ?_
  refine sIf (tvV (evA (evN hE (mmt mm0) mm0) mm7 mm5 hand_t) rfl) (kF rfl App.nil (sRet (evN hE (mmt mm0) mm5) ?_))
  rotate_left
  exact ⟨_, by exact (pC rm7 (pC rm0 (pC rm0 (pC rm0 (pC rm0 (pC rm0 (pC rm0 (pC rm0 (pS (pS (pS Pick.refl))))))))))), h _ _ _ _⟩
end
end
section
section
variable {G : Gr} {n : Nat} {R : Led} {vs : List Value} {K : AV → Led → Prop}
theorem k_ap_o {m s dn lb ex : Addr} {a t d k l c nu la i : Int} {es : List (List UInt8 × AV)} {bs : List AV} {key val rp : List UInt8} {e o : Option (List UInt8)} {q : List UInt8} (hv : VRs [.con (.ref ex), .none] vs) (hc : c = 5 ∨ c = 300) (hS : SesAt es c la false rp) (hi : i = a + 1) (hi0 : 0 ≤ i) (hi1 : i < 128) (he : es.length ≤ 1000) (hb : bs.length ≤ 1000)
    (hk0 : 0 ≤ (5 : Int)) (hk1 : (5 : Int) ≤ 6) (hn0 : 0 ≤ nu) (hn1 : nu < 128) (hkey : key.length ≤ 100) (hval : val.length ≤ 20) (hee : ∀ o, e = some o → o.length < 128) (h1 : la < nu) (hl : lookA es (100 :: key) = o.map .bytes) (ho : ∀ c, o = some c → c.length < 100) (hq : q.length < 120) (hf : eff 5 o val e = (q, none))
    (h : ∀ p t0 t1, K (.bytes q) (macE m s i 1 d :: stoE s dn lb k (l + 2) :: (dn, .bd (putA (putA es (skey c) (.bytes (ses nu ((5 : Int) != 6) q))) [97] (.bytes (app i 1)))) :: (lb, .list (bs ++ [.con (.ref p)])) :: (p, .list [.con (.ref t0), .con (.ref t1)]) :: rowE t0 1 (skey c) (ses nu ((5 : Int) != 6) q) :: rowE t1 1 [97] (app i 1) :: R)) (hn : 10 ≤ n := by fail "mx nn") :
    Cc G n (macE m s a t d :: stoE s dn lb k l :: (dn, .bd es) :: (lb, .list bs) :: entE ex 1 i 0 (cmd (5 : Int) c nu key val e) :: R) (.ref 740) ([.ref m] ++ vs) K := by
  refine f_740 (by fail "mx nn") (by exact (VRs.cons (VR_ref _) ‹_›)) rfl (fun p hE => ?_)
  refine sIf (tvC (evA (evN hE mm0 mm1) mm5 mm1 hand_i) (evO (evA (evN hE mm0 mm0) mm1 mm1 hand_i) evI oAdd) cNe) (kF (nqF ‹_›) App.nil ?_)
  refine sAsg hE (evA (evN hE mm0 mm0) mm1 mm3 hand_b) up0 rp3 (sIf (tvC (evN hE mm0 mm2) evZ cNtN) (kF rfl App.nil (sAsgC (cF hE evs0 (ofCa (fun ζ => k_WriteBatch ‹_› ?_))))))
  intro ζ ζ
  refine sSt hE up2 rp4 (sAsg hE evZ up2 rp5 (sAsgC (cM (evN hE mm2 mm0) (gM mm3 rfl) (evs1 (evN hE mm2 mm1) evs0) (ofCa (fun ζ => Cc.pick (pC rm3 (pk rm6)) (k_cmdof ‹_› ‹_› ‹_› ‹_› ‹_› (n_le_lt ‹_› (by decide)) (n_le_lt ‹_› (by decide)) ‹_› ‹_› ?_))))))
  intro ζ
  refine sSt hE up5 rp6 (sIf (tvC (evN hE mm5 mm6) evZ cNtR) (kT rfl (App.cons App.nil) (sAsgC (cM (evN hE mm5 mm0) (gM mm1 rfl) (evs1 (evN hE mm5 mm6) (evs1 (evN hE mm5 mm4) evs0)) (ofCa (fun ζ => Cc.pick (pC rm1 (pC rm5 (pC rm5 (pC rm0 (pC rm1 (pk rm1)))))) (k_do_o ‹_› ‹_› ‹_› ‹_› ‹_› ‹_› ‹_› ‹_› ‹_› ‹_› ‹_› ‹_› ‹_› ‹_› ?_)))))))
  intro ζ ζ
  refine sSt hE up8 rp5 (sX hE (cM (evN hE mm8 mm0) (gM mm0 rfl) (evs1 (evN hE mm8 mm4) (evs1 (evA (evN hE mm8 mm1) mm7 mm1 hand_i) (evs1 (evA (evN hE mm8 mm1) mm7 mm0 hand_i) (evs1 (evN hE mm8 mm3) evs0)))) (ofCa (fun ζ => Cc.pick (pC rm0 (pC rm3 (pk rm3))) (k_puta ‹_› ‹_› ‹_› (i_cl (by decide)) (i_cl' (by decide)) nle ?_)))))
  intro ζ ζ
  refine sX hE (cM (evA (evN hE mm9 mm0) mm0 mm0 hand_r) (gM mm4 rfl) (evs1 (evN hE mm9 mm4) (evs1 (evA (evN hE mm9 mm0) mm0 mm5 hand_t) evs0)) (ofCa (fun ζ => Cc.pick (pC rm4 (pC rm4 (pC rm8 (pC rm1 (pC rm1 (pC rm3 (pk rm1))))))) (k_write2 ‹_› ‹_› ‹_› ?_))))
  intro ζ
  refine sSet (evA (evN hE mm9 mm1) mm8 mm1 hand_i) (evN hE mm9 mm0) up6 rf1 (by intro ζ; exact ⟨by k_is, by k_is, by k_is, by k_is⟩) ?_
  refine sSet (evA (evN hE mm9 mm1) mm8 mm0 hand_i) (evN hE mm9 mm0) up6 rf2 (by intro ζ; exact ⟨by k_is, by k_is, by k_is, by k_is⟩) ?_
  refine sSet (evN hE mm9 mm3) (evN hE mm9 mm0) up6 rf3 (by intro ζ; exact ⟨by k_is, by k_is, by k_is, by k_is⟩) ?_
  refine sIf (tvV (evA (evN hE mm9 mm0) mm6 mm5 hand_t) rfl) (kF rfl App.nil (sRet (evN hE mm9 mm5) ?_))
  rotate_left
  exact ⟨_, by exact (pC rm6 (pC rm0 (pC rm0 (pC rm0 (pC rm0 (pC rm0 (pC rm0 (pS (pS (pS Pick.refl)))))))))), h _ _ _⟩
end
end
section
theorem Cc.pickV {G : Gr} {n : Nat} {L L' : Led} {f : Value} {as : List AV} {us vs : List Value} {K : AV → Led → Prop} (hv : VRs as us) (hs : Pick L' L) (h : VRs as us → Cc G n L' f vs K) : Cc G n L f vs K := (h hv).pick hs
section
variable {G : Gr} {n : Nat} {R : Led} {vs : List Value} {K : AV → Led → Prop}
theorem k_cut1 {s dn lb p1 t0 t1 : Addr} {l : Int} {k0 v0 k1 v1 : List UInt8} (hv : VRs [.int 0] vs)
    (h : ∀ s' dn' lb', K (.con (.ref s')) (stoE s' dn' lb' 1 2 :: (dn', .bd (putA (putA [] k0 (.bytes v0)) k1 (.bytes v1))) :: (lb', .list [.con (.ref p1)]) :: stoE s dn lb 1 l :: (lb, .list [.con (.ref p1)]) :: (p1, .list [.con (.ref t0), .con (.ref t1)]) :: rowE t0 1 k0 v0 :: rowE t1 1 k1 v1 :: R)) (hn : 4 ≤ n := by fail "mx nn") :
    Cc G n (stoE s dn lb 1 l :: (lb, .list [.con (.ref p1)]) :: (p1, .list [.con (.ref t0), .con (.ref t1)]) :: rowE t0 1 k0 v0 :: rowE t1 1 k1 v1 :: R) (.ref 880) ([.ref s] ++ vs) K := by
  refine f_880 (by fail "mx nn") (by exact (VRs.cons (VR_ref _) ‹_›)) rfl (fun p hE => ?_)
  refine sAsg hE (evO (evA (evN hE mm0 mm0) mm1 mm2 hand_i) (evO (evN hE mm0 mm1) (evO (evO (evCB hE (evs1 (evA (evN hE mm0 mm0) mm1 mm1 hand_r) evs0) (fLenL mm2 nle)) (evA (evN hE mm0 mm0) mm1 mm2 hand_i) oSub) evI oAdd) (oMod (by simp only [lens, false_implies, implies_true, and_true]; first | done | lia))) oAdd) up0 rp2 ?_
  refine sAsgC (cF hE evs0 (ofCa (fun ζ => k_MemStore ‹_› ?_)))
  intro ζ ζ ζ
  refine sSt hE up3 rp3 (Cons' (For_ (SubSliceA (AttrA (Name_ mm3 mm0 (getAA mm4 mm1 (by intro ζ; exact ⟨Bool.and_eq_true_iff.mpr ⟨by k_is, by k_is⟩, by k_is, by k_is⟩) hand_r ?_))))))
  refine EvN_ (EvS_ (Name_ mm3 mm2 (sliceLA0 mm5 nle fun ζ ζ ζ => pyIterL_ ‹_› mm0 ?_)))
  intro ζ
  refine FstepL (pk rm0) mm0 rfl (TurnN (sSt hE up5 rp4 (sX hE (cM (evN hE mm5 mm3) (gM mm2 rfl) (evs1 (evN hE mm5 mm4) evs0) (ofCa (fun ζ => Cc.pickV ‹_› (pC rm2 (pC rm2 (pC rm2 (pC rm5 (pC rm5 (pk rm5)))))) (fun hv => k_take2 hv nle nle ?_)))))))
  refine C.hide fun ζ ζ => Nil_ (hideOut ‹_› ?_)
  refine onL_n (FendL (pk rm6) mm6 nle (Nil_ (onN_n (sX hE (cM (evN hE mm7 mm3) (gM mm0 rfl) evs0 (ofCa (fun ζ => Cc.pick (pC rm0 (pk rm1)) (k_ms_sync ‹_› nle ?_))))))))
  refine sRet (evN hE mm7 mm3) ?_
  rotate_left
  exact ⟨_, by exact (pC Rem.head (pC rm1 (pC Rem.head (pC rm5 (pC rm5 (pC rm0 (pC rm0 (pC rm0 (pS (pS Pick.refl)))))))))), h _ _ _⟩
theorem k_cut2 {s dn lb p1 p2 t0 t1 t2 t3 : Addr} {l : Int} {k0 v0 k1 v1 k2 v2 k3 v3 : List UInt8} (hv : VRs [.int 0] vs)
    (h : ∀ s' dn' lb', K (.con (.ref s')) (stoE s' dn' lb' 2 4 :: (dn', .bd (putA (putA (putA (putA [] k0 (.bytes v0)) k1 (.bytes v1)) k2 (.bytes v2)) k3 (.bytes v3))) :: (lb', .list [.con (.ref p1), .con (.ref p2)]) :: stoE s dn lb 2 l :: (lb, .list [.con (.ref p1), .con (.ref p2)]) ::
      (p1, .list [.con (.ref t0), .con (.ref t1)]) :: rowE t0 1 k0 v0 :: rowE t1 1 k1 v1 :: (p2, .list [.con (.ref t2), .con (.ref t3)]) :: rowE t2 1 k2 v2 :: rowE t3 1 k3 v3 :: R)) (hn : 4 ≤ n := by fail "mx nn") :
    Cc G n (stoE s dn lb 2 l :: (lb, .list [.con (.ref p1), .con (.ref p2)]) :: (p1, .list [.con (.ref t0), .con (.ref t1)]) :: rowE t0 1 k0 v0 :: rowE t1 1 k1 v1 :: (p2, .list [.con (.ref t2), .con (.ref t3)]) :: rowE t2 1 k2 v2 :: rowE t3 1 k3 v3 :: R) (.ref 880) ([.ref s] ++ vs) K := by
  have q1 : (putA ([] : List (List UInt8 × AV)) k0 (.bytes v0)).length ≤ 1 := putA_len _ _ _
  have q2 := putA_len (putA [] k0 (.bytes v0)) k1 (.bytes v1)
  refine f_880 (by fail "mx nn") (by exact (VRs.cons (VR_ref _) ‹_›)) rfl (fun p hE => ?_)
  refine sAsg hE (evO (evA (evN hE mm0 mm0) mm1 mm2 hand_i) (evO (evN hE mm0 mm1) (evO (evO (evCB hE (evs1 (evA (evN hE mm0 mm0) mm1 mm1 hand_r) evs0) (fLenL mm2 nle)) (evA (evN hE mm0 mm0) mm1 mm2 hand_i) oSub) evI oAdd) (oMod (by simp only [lens, false_implies, implies_true, and_true]; first | done | lia))) oAdd) up0 rp2 ?_
  refine sAsgC (cF hE evs0 (ofCa (fun ζ => k_MemStore ‹_› ?_)))
  intro ζ ζ ζ
  refine sSt hE up3 rp3 (Cons' (For_ (SubSliceA (AttrA (Name_ mm3 mm0 (getAA mm4 mm1 (by intro ζ; exact ⟨Bool.and_eq_true_iff.mpr ⟨by k_is, by k_is⟩, by k_is, by k_is⟩) hand_r ?_))))))
  refine EvN_ (EvS_ (Name_ mm3 mm2 (sliceLA0 mm5 nle fun ζ ζ ζ => pyIterL_ ‹_› mm0 ?_)))
  intro ζ
  refine FstepL (pk rm0) mm0 rfl (TurnN (sSt hE up5 rp4 (sX hE (cM (evN hE mm5 mm3) (gM mm2 rfl) (evs1 (evN hE mm5 mm4) evs0) (ofCa (fun ζ => Cc.pickV ‹_› (pC rm2 (pC rm2 (pC rm2 (pC rm5 (pC rm5 (pk rm5)))))) (fun hv => k_take2 hv nle nle ?_)))))))
  refine C.hide fun ζ ζ => Nil_ (hideOut ‹_› ?_)
  refine onL_n (FstepL (pk rm6) mm6 rfl (TurnN (sSt hE up8 rp4 (sX hE (cM (evN hE mm8 mm3) (gM mm1 rfl) (evs1 (evN hE mm8 mm4) evs0) (ofCa (fun ζ => Cc.pickV ‹_› (pC rm1 (pC rm1 (pC rm1 (pC rm8 (pC rm8 (pk rm8)))))) (fun hv => k_take2 hv (by lia) nle ?_))))))))
  refine C.hide fun ζ ζ => Nil_ (hideOut ‹_› ?_)
  refine onL_n (FendL (pk rm6) mm9 nle (Nil_ (onN_n (sX hE (cM (evN hE (mmt mm0) mm3) (gM mm0 rfl) evs0 (ofCa (fun ζ => Cc.pick (pC rm0 (pk rm1)) (k_ms_sync ‹_› nle ?_))))))))
  refine sRet (evN hE (mmt mm0) mm3) ?_
  rotate_left
  exact ⟨_, by exact (pC Rem.head (pC rm1 (pC Rem.head (pC rm8 (pC rm8 (pC rm3 (pC rm3 (pC rm3 (pC rm0 (pC rm0 (pC rm0 (pS (pS Pick.refl))))))))))))), h _ _ _⟩
end
end
section
section
variable {G : Gr} {n : Nat} {R : Led} {vs : List Value} {K : AV → Led → Prop}
theorem k_mark_y {m s dn lb : Addr} {a t d l : Int} {xs : List AV} (hv : VRs [] vs) (hx : xs.length ≤ 1000)
    (h : K .none (macE m s a t a :: stoE s dn lb xs.length l :: (lb, .list xs) :: R)) (hn : 2 ≤ n := by fail "mx nn") :
    Cc G n (macE m s a t d :: stoE s dn lb xs.length l :: (lb, .list xs) :: R) (.ref 719) ([.ref m] ++ vs) K := by
  refine f_719 (by fail "mx nn") (by exact (VRs.cons (VR_ref _) ‹_›)) rfl (fun p hE => ?_)
  refine Cons' (If' (TtValA (cM (evA (evN hE mm0 mm0) mm1 mm0 hand_r) (gM mm2 rfl) evs0 (ofCa (fun ζ => Cc.pick (pC rm2 (pk rm2)) (k_ms_isdur ‹_› ‹_› ?_))))))
  refine truthyA (onB_t (eqT (by lia)) ?_)
  refine sSet (evA (evN hE mm2 mm0) mm3 mm1 hand_i) (evN hE mm2 mm0) up3 rf4 (by intro ζ; exact ⟨by k_is, by k_is, by k_is, by k_is⟩) ?_
  refine Nil_ (onN_n (Nil_ ?_))
  rotate_left
  exact ⟨_, by exact (pC rm3 (pC rm0 (pC rm0 (pS Pick.refl)))), h⟩
end
end
section
section
variable {G : Gr} {n : Nat} {R : Led} {vs : List Value} {K : AV → Led → Prop}
theorem k_load {m s dn lb : Addr} {i u l : Int} {es : List (List UInt8 × AV)} {xs : List AV} (hv : VRs [] vs) (hx : xs.length ≤ 1000) (hi0 : 0 ≤ i) (hi1 : i < 128) (hu0 : 0 ≤ u) (hu1 : u < 128) (hl : lookA es [97] = some (.bytes (app i u)))
    (h : ∀ q, K (.con (.ref q)) ((q, .tuple [.int i, .int u, .none]) :: macE m s i u i :: stoE s dn lb xs.length l :: (dn, .bd es) :: (lb, .list xs) :: R)) (hn : 5 ≤ n := by fail "mx nn") :
    Cc G n (macE m s 0 0 0 :: stoE s dn lb xs.length l :: (dn, .bd es) :: (lb, .list xs) :: R) (.ref 712) ([.ref m] ++ vs) K := by
  have e : (app i u).length = 3 := rfl
  have hd : (app i u).drop ((0 : Int) + 1 + 1).toNat = ([] : List UInt8).length.toUInt8 :: ([] ++ []) := by simp [app]
  refine f_712 (by fail "mx nn") (by exact (VRs.cons (VR_ref _) ‹_›)) rfl (fun p hE => ?_)
  refine sAsgC (cM (evA (evN hE mm0 mm0) mm1 mm0 hand_r) (gM mm2 rfl) (evs1 (evGB hE) evs0) (ofCa (fun ζ => Cc.pick (pC rm2 (pk rm2)) (k_ms_get_s ‹_› ‹_› ?_))))
  refine sSt hE up2 rp1 (sIf (tvC (evN hE mm2 mm1) evZ cIsB) (kF rfl (App.cons (App.cons (App.cons (App.cons (App.cons App.nil))))) (sAsgC (cF hE (evs1 (evN hE mm2 mm1) evs0) (ofCa (fun ζ => k_Cursor ‹_› nle ?_))))))
  intro ζ
  refine sSt hE up3 rp5 (sAsgC (cM (evN hE mm3 mm5) (gM mm0 rfl) evs0 (ofCa (fun ζ => Cc.pick Pick.refl (k_cu_int ‹_› (i_cl (by decide)) rfl ‹_› ‹_› nle ?_)))))
  refine sSt hE up3 rp2 (sAsgC (cM (evN hE mm3 mm5) (gM mm0 rfl) evs0 (ofCa (fun ζ => Cc.pick Pick.refl (k_cu_int ‹_› (i_cl (by decide)) rfl ‹_› ‹_› nle ?_)))))
  refine sSt hE up3 rp3 (sAsgC (cM (evN hE mm3 mm5) (gM mm0 rfl) evs0 (ofCa (fun ζ => Cc.pick Pick.refl (k_cu_bytes ‹_› (i_cl (by decide)) ‹_› nle nle ?_)))))
  refine sSt hE up3 rp4 (sX hE (cM (evN hE mm3 mm5) (gM mm0 rfl) evs0 (ofCa (fun ζ => Cc.pick Pick.refl (k_cu_done ‹_› (i_cl rfl) nle ?_)))))
  refine sAsg hE evZ up3 rp6 (sIf (tvC (evN hE mm3 mm4) evB cNeB) (kF (by decide) App.nil ?_))
  refine sSet (evN hE mm3 mm2) (evN hE mm3 mm0) up4 rf1 (by intro ζ; exact ⟨by k_is, by k_is, by k_is, by k_is⟩) ?_
  refine sSet (evN hE mm3 mm3) (evN hE mm3 mm0) up4 rf2 (by intro ζ; exact ⟨by k_is, by k_is, by k_is, by k_is⟩) ?_
  refine sSet (evN hE mm3 mm4) (evN hE mm3 mm0) up4 rf3 (by intro ζ; exact ⟨by k_is, by k_is, by k_is, by k_is⟩) ?_
  refine sSet (evCB hE (evs1 (evA (evN hE mm3 mm0) mm4 mm4 hand_i) (evs1 (evN hE mm3 mm2) evs0)) fMin) (evN hE mm3 mm0) up4 rf4 (by intro ζ; exact ⟨by k_is, by k_is, by k_is, by k_is⟩) ?_
  refine sX hE (cM (evN hE mm3 mm0) (gM mm4 rfl) evs0 (ofCa (fun ζ => Cc.pick (pC rm4 (pC rm1 (pk rm3))) (k_mark_y ‹_› ‹_› ?_))))
  refine sRetC (xT (evs1 (evN hE mm5 mm2) (evs1 (evN hE mm5 mm3) (evs1 (evN hE mm5 mm6) evs0))) (by rfl) (by rfl) ?_)
  intro ζ
  refine kR_ ?_
  rotate_left
  exact ⟨_, by exact (pC rm0 (pC rm0 (pC rm0 (pC rm2 (pC rm0 (pS (pS Pick.refl))))))), h _⟩
end
end
section
section
variable {G : Gr} {n : Nat} {R : Led} {vs : List Value} {K : AV → Led → Prop}
theorem k_co_encode {x : Addr} {k c m : Int} {key val : List UInt8} {e : Option (List UInt8)} (hc : c = 5 ∨ c = 300) (hk0 : 0 ≤ k) (hk1 : k ≤ 6) (hm0 : 0 ≤ m) (hm1 : m < 128) (hkey : key.length < 128) (hval : val.length < 128) (he : ∀ c, e = some c → c.length < 128) (hv : VRs [] vs)
    (h : K (.bytes (cmd k c m key val e)) (cmdE x k c m key val e :: R)) (hn : 5 ≤ n := by fail "mx nn") :
    Cc G n (cmdE x k c m key val e :: R) (.ref 621) ([.ref x] ++ vs) K := by
  have hcl := @cvb_len c
  have hml : (mb e).length ≤ 130 := by
    cases e with
    | none => decide
    | some o => rw [mb_len_s]; have := he _ rfl; lia
  refine f_621 (by fail "mx nn") (by exact (VRs.cons (VR_ref _) ‹_›)) rfl (fun p hE => ?_)
  refine sIf (tvL (orF (tvC (evA (evN hE mm0 mm0) mm1 mm0 hand_i) (evGI hE) cLt) (decF (i_nlt ‹_›)) (orF (tvC (evA (evN hE mm0 mm0) mm1 mm0 hand_i) (evGI hE) cGt) (decF (i_nlt ‹_›)) or0))) ?_
  refine kF rfl App.nil (sAsgC (cF hE evs0 (ofCa (fun ζ => k_Sink ‹_› ?_))))
  intro ζ ζ
  refine sSt hE up2 rp1 (Cons' (Try' (sX hE (cM (evN hE mm2 mm1) (gM mm0 rfl) (evs1 (evA (evN hE mm2 mm0) mm3 mm0 hand_i) evs0) (ofCa (fun ζ => Cc.pick Pick.refl (k_si_varint_1 ‹_› ‹_› (i_le_lt ‹_› (by decide)) nle ?_)))))))
  refine sX hE (cM (evN hE mm2 mm1) (gM mm0 rfl) (evs1 (evA (evN hE mm2 mm0) mm3 mm1 hand_i) evs0) (ofCa (fun ζ => Cc.pick Pick.refl (k_si_varint_c ‹_› ‹_› nle ?_))))
  refine sX hE (cM (evN hE mm2 mm1) (gM mm0 rfl) (evs1 (evA (evN hE mm2 mm0) mm3 mm2 hand_i) evs0) (ofCa (fun ζ => Cc.pick Pick.refl (k_si_varint_1 ‹_› ‹_› ‹_› (by simp only [lens, false_implies, implies_true, and_true]; first | done | lia) ?_))))
  refine sX hE (cM (evN hE mm2 mm1) (gM mm0 rfl) (evs1 (evA (evN hE mm2 mm0) mm3 mm3 hand_b) evs0) (ofCa (fun ζ => Cc.pick Pick.refl (k_si_lengthed ‹_› ‹_› (by simp only [lens, false_implies, implies_true, and_true]; first | done | lia) ?_))))
  refine sX hE (cM (evN hE mm2 mm1) (gM mm0 rfl) (evs1 (evA (evN hE mm2 mm0) mm3 mm4 hand_b) evs0) (ofCa (fun ζ => Cc.pick Pick.refl (k_si_lengthed ‹_› ‹_› (by simp only [lens, false_implies, implies_true, and_true]; first | done | lia) ?_))))
  refine sX hE (cF hE (evs1 (evN hE mm2 mm1) (evs1 (evA (evN hE mm2 mm0) mm3 mm5 hand_o) evs0)) (ofCa (fun ζ => Cc.pick Pick.refl (k_put_maybe ‹_› ‹_› (by simp only [lens, false_implies, implies_true, and_true]; first | done | lia) ?_))))
  refine Nil_ (onN_n (Nil_ (onN_n (sRetC (cM (evN hE mm2 mm1) (gM mm0 rfl) evs0 (ofCa (fun ζ => Cc.pick Pick.refl (k_si_done ‹_› (by simp only [lens, false_implies, implies_true, and_true]; first | done | lia) ?_))))))))
  refine kR_ ?_
  rotate_left
  exact ⟨_, by exact (pC rm3 (pS (pS (pS Pick.refl)))), h⟩
end
end
section
noncomputable def upd {α : Type} (f : Int → α) (k : Int) (v : α) : Int → α := fun x => if x = k then v else f x
noncomputable def updO {α : Type} (f : Int → α) (k : Int) : Option α → Int → α
  | none => f
  | some v => upd f k v
theorem updO_ne {α : Type} {f : Int → α} {k x : Int} {o : Option α} (h : x ≠ k) : updO f k o x = f x := by cases o <;> simp [updO, upd, h]
theorem updO_comm {α : Type} {f : Int → α} {j k : Int} {a b : Option α} (h : j ≠ k) : updO (updO f j a) k b = updO (updO f k b) j a := by
  cases a <;> cases b <;> simp only [updO]
  funext x
  simp only [upd]
  by_cases h1 : x = j <;> by_cases h2 : x = k <;> simp [h1, h2]
  all_goals (intro e; lia)
structure Mod where
  s : Int → Option (Int × Bool × List UInt8)
  d : Int → Option (List UInt8)
structure Core where
  ns : Option (Option (Int × Bool × List UInt8))
  nd : Option (Option (List UInt8))
  rp : List UInt8
  rows : Int
noncomputable def seat (s : Option (Int × Bool × List UInt8)) : Int × Bool × List UInt8 := s.getD (-1, false, [])
noncomputable def core (c : Cmd) (s : Option (Int × Bool × List UInt8)) (o : Option (List UInt8)) : Core :=
  if c.num = (seat s).1 then ⟨none, none, (seat s).2.2, 1⟩
  else if c.num < (seat s).1 then ⟨none, none, rep 3 none, 1⟩
  else if (seat s).2.1 = false ∧ c.kind ≠ 5 then ⟨none, none, rep 2 none, 1⟩
  else ⟨some (some (c.num, c.kind != 6, (eff c.kind o c.word c.exp).1)), (eff c.kind o c.word c.exp).2, (eff c.kind o c.word c.exp).1, if (eff c.kind o c.word c.exp).2.isSome then 3 else 2⟩
noncomputable def coreOf (c : Cmd) (M : Mod) : Core := core c (M.s c.who) (M.d c.spot)
noncomputable def mstep (c : Cmd) (M : Mod) : Mod := ⟨updO M.s c.who (coreOf c M).ns, updO M.d c.spot (coreOf c M).nd⟩
theorem eff_free {k : Int} (h : k < 1 ∨ 4 < k) (o o' : Option (List UInt8)) (v : List UInt8) (e : Option (List UInt8)) : eff k o v e = eff k o' v e ∧ (eff k o v e).2 = none := by
  unfold eff
  rw [if_neg (by lia), if_neg (by lia), if_neg (by lia), if_neg (by lia), if_neg (by lia), if_neg (by lia), if_neg (by lia), if_neg (by lia)]
  exact ⟨rfl, rfl⟩
theorem core_free {c : Cmd} (h : c.kind < 1 ∨ 4 < c.kind) (s : Option (Int × Bool × List UInt8)) (o o' : Option (List UInt8)) : core c s o = core c s o' ∧ (core c s o).nd = none := by
  have e := eff_free h o o' c.word c.exp
  unfold core
  rw [← e.1]
  refine ⟨rfl, ?_⟩
  split
  · rfl
  split
  · rfl
  split
  · rfl
  exact e.2
theorem free_who {a b : Cmd} (h : freeB a b = true) : a.who ≠ b.who := by
  unfold freeB at h; intro e; simp [e] at h
theorem free_or {a b : Cmd} (h : freeB a b = true) : (a.kind < 1 ∨ 4 < a.kind) ∨ (b.kind < 1 ∨ 4 < b.kind) ∨ a.spot ≠ b.spot := by
  unfold freeB at h
  simp at h
  lia
theorem freeB_comm {a b : Cmd} : freeB a b = freeB b a := by
  unfold freeB
  rw [BEq.comm (a := a.who), bne_comm (a := a.spot)]
  generalize (b.who == a.who) = x, decide (a.kind < 1) = p, decide (a.kind > 4) = q, decide (b.kind < 1) = r, decide (b.kind > 4) = s, (b.spot != a.spot) = y
  revert x p q r s y
  decide
theorem core_keep {a b : Cmd} (h : freeB a b = true) (M : Mod) : coreOf b (mstep a M) = coreOf b M := by
  have hw := free_who h
  unfold coreOf
  show core b (updO M.s a.who _ b.who) (updO M.d a.spot _ b.spot) = _
  rw [updO_ne (Ne.symm hw)]
  rcases free_or h with h1 | h1 | h1
  · have e : (coreOf a M).nd = none := (core_free h1 _ _ none).2
    rw [e]; rfl
  · exact (core_free h1 _ _ _).1
  · rw [updO_ne (Ne.symm h1)]
theorem mcomm {a b : Cmd} (h : freeB a b = true) (M : Mod) : mstep b (mstep a M) = mstep a (mstep b M) := by
  have e1 := core_keep h M
  have e2 := core_keep (by rw [freeB_comm]; exact h : freeB b a = true) M
  have es : ∀ x N, (mstep x N).s = updO N.s x.who (coreOf x N).ns := fun ζ ζ => rfl
  have ed : ∀ x N, (mstep x N).d = updO N.d x.spot (coreOf x N).nd := fun ζ ζ => rfl
  show (⟨updO (mstep a M).s b.who (coreOf b (mstep a M)).ns, updO (mstep a M).d b.spot (coreOf b (mstep a M)).nd⟩ : Mod) = ⟨updO (mstep b M).s a.who (coreOf a (mstep b M)).ns, updO (mstep b M).d a.spot (coreOf a (mstep b M)).nd⟩
  rw [e1, e2, es, es, ed, ed, updO_comm (free_who h)]
  congr 1
  rcases free_or h with h1 | h1 | h1
  · have e : (coreOf a M).nd = none := (core_free h1 _ _ none).2
    rw [e]; rfl
  · have e : (coreOf b M).nd = none := (core_free h1 _ _ none).2
    rw [e]; rfl
  · exact updO_comm h1
noncomputable def mst (g : Nat → Cmd) : List Nat → Mod → Mod
  | [], M => M
  | i :: l, M => mst g l (mstep (g i) M)
noncomputable def mro (g : Nat → Cmd) : List Nat → Mod → Int
  | [], _ => 0
  | i :: l, M => (coreOf (g i) M).rows + mro g l (mstep (g i) M)
noncomputable def mrp (g : Nat → Cmd) : List Nat → Mod → List (Nat × List UInt8)
  | [], _ => []
  | i :: l, M => (i, (coreOf (g i) M).rp) :: mrp g l (mstep (g i) M)
theorem mst_app {g : Nat → Cmd} : ∀ {x y : List Nat} {M : Mod}, mst g (x ++ y) M = mst g y (mst g x M)
  | [], _, _ => rfl
  | i :: x, y, M => mst_app (x := x)
theorem mro_app {g : Nat → Cmd} : ∀ {x y : List Nat} {M : Mod}, mro g (x ++ y) M = mro g x M + mro g y (mst g x M)
  | [], _, _ => by simp [mro, mst]
  | i :: x, y, M => by rw [List.cons_append, mro, mro_app (x := x), mro, mst]; lia
theorem mrp_app {g : Nat → Cmd} : ∀ {x y : List Nat} {M : Mod}, mrp g (x ++ y) M = mrp g x M ++ mrp g y (mst g x M)
  | [], _, _ => rfl
  | i :: x, y, M => by rw [List.cons_append, mrp, mrp_app (x := x), mrp, mst]; rfl
inductive Reach (g : Nat → Cmd) : List Nat → Prop
  | start : Reach g [0, 1, 2, 3]
  | swap {x i j y} : Reach g (x ++ i :: j :: y) → freeB (g i) (g j) = true → Reach g (x ++ j :: i :: y)
theorem reach_same {g : Nat → Cmd} {l : List Nat} (h : Reach g l) (M : Mod) : mst g l M = mst g [0, 1, 2, 3] M ∧ mro g l M = mro g [0, 1, 2, 3] M ∧ (mrp g l M).Perm (mrp g [0, 1, 2, 3] M) := by
  induction h with
  | start => exact ⟨rfl, rfl, .refl _⟩
  | @swap x i j y _ hf ih =>
    obtain ⟨h1, h2, h3⟩ := ih
    rw [mst_app] at h1
    rw [mro_app] at h2
    rw [mrp_app] at h3
    rw [mst_app, mro_app, mrp_app]
    have hf' : freeB (g j) (g i) = true := by rw [freeB_comm]; exact hf
    have e1 := core_keep hf (mst g x M)
    have e2 := core_keep hf' (mst g x M)
    have e3 := mcomm hf (mst g x M)
    simp only [mst, mro, mrp] at h1 h2 h3 ⊢
    rw [e1] at h2 h3
    rw [e3] at h1 h2 h3
    rw [e2]
    refine ⟨h1, by lia, (List.Perm.append_left _ (List.Perm.swap _ _ _)).trans h3⟩
theorem reach_perm {g : Nat → Cmd} {l : List Nat} (h : Reach g l) : l.Perm [0, 1, 2, 3] := by
  induction h with
  | start => exact .refl _
  | swap _ _ ih => exact (List.Perm.append_left _ (List.Perm.swap _ _ _)).trans ih
theorem reach_len {g : Nat → Cmd} {l : List Nat} (h : Reach g l) : l.length = 4 := (reach_perm h).length_eq
theorem reach_lt {g : Nat → Cmd} {l : List Nat} (h : Reach g l) : ∀ i ∈ l, i < 4 := fun i hi => by
  have := (reach_perm h).mem_iff.mp hi
  simp at this; lia
theorem mrp_mem {g : Nat → Cmd} : ∀ {l : List Nat} {M : Mod} {k : Nat} {i : Nat}, l[k]? = some i → (i, (coreOf (g i) (mst g (l.take k) M)).rp) ∈ mrp g l M
  | [], _, _, _, h => by simp at h
  | a :: l, M, 0, i, h => by
    simp only [List.getElem?_cons_zero, Option.some.injEq] at h
    subst h
    exact List.mem_cons_self
  | a :: l, M, k + 1, i, h => by
    rw [List.getElem?_cons_succ] at h
    exact List.mem_cons_of_mem _ (mrp_mem h)
theorem mst_succ {g : Nat → Cmd} {l : List Nat} {M : Mod} {k i : Nat} (h : l[k]? = some i) : mst g (l.take (k + 1)) M = mstep (g i) (mst g (l.take k) M) := by
  have hk : k < l.length := by
    rcases Nat.lt_or_ge k l.length with h' | h'
    · exact h'
    · rw [List.getElem?_eq_none h'] at h; cases h
  rw [List.take_succ_eq_append_getElem hk, mst_app]
  rw [List.getElem?_eq_getElem hk] at h
  cases h
  rfl
theorem mro_succ {g : Nat → Cmd} {l : List Nat} {M : Mod} {k i : Nat} (h : l[k]? = some i) : mro g (l.take (k + 1)) M = mro g (l.take k) M + (coreOf (g i) (mst g (l.take k) M)).rows := by
  have hk : k < l.length := by
    rcases Nat.lt_or_ge k l.length with h' | h'
    · exact h'
    · rw [List.getElem?_eq_none h'] at h; cases h
  rw [List.take_succ_eq_append_getElem hk, mro_app]
  rw [List.getElem?_eq_getElem hk] at h
  cases h
  simp [mro]
noncomputable def tB (es : List (Int × List UInt8)) (k : Int) : Option (List UInt8) := (es.find? fun p => p.1 = k).map (·.2)
theorem tB_same {es : List (Int × List UInt8)} {k : Int} {v : List UInt8} : tB (putB es k v) k = some v := by
  unfold putB
  split
  · rename_i h
    induction es with
    | nil => simp at h
    | cons q es ih =>
      by_cases hq : q.1 = k
      · simp [tB, List.find?, hq]
      · have h' : es.any (fun p => decide (p.1 = k)) = true := by simpa [hq] using h
        have := ih h'
        simp only [tB, List.map_cons, hq, if_false, List.find?, decide_false] at this ⊢
        exact this
  · rename_i h
    have : es.find? (fun p => decide (p.1 = k)) = none := by
      rw [List.find?_eq_none]; intro x hx hk; exact h (List.any_eq_true.mpr ⟨x, hx, hk⟩)
    simp [tB, List.find?_append, this, List.find?]
theorem tB_ne {es : List (Int × List UInt8)} {j k : Int} {v : List UInt8} (h : k ≠ j) : tB (putB es j v) k = tB es k := by
  unfold putB
  split
  · rename_i h1; clear h1
    induction es with
    | nil => rfl
    | cons q es ih =>
      simp only [tB, List.map_cons, List.find?] at ih ⊢
      by_cases hq : q.1 = j
      · have : ¬ q.1 = k := by lia
        simp only [hq, if_true, decide_eq_true_eq]
        have h2 : decide (j = k) = false := by simp; lia
        rw [h2]; exact ih
      · simp only [hq, if_false]
        by_cases hk : q.1 = k
        · simp [hk]
        · simp only [hk, decide_false]; exact ih
  · simp only [tB, List.find?_append]
    have h2 : decide (j = k) = false := by simp; lia
    simp [List.find?, h2]
noncomputable def fval' (c : Cmd) (o : Option (List UInt8)) : List UInt8 := if 0 < c.kind ∧ c.kind < 5 then [(fval c o).2.toNat.toUInt8] ++ mb o else [0, 0]
noncomputable def fo (p : Int) (W : List Int) (cs : List Cmd) : Nat → Option (List UInt8)
  | 0 => none
  | i + 1 => match cs[i]? with
    | some c => if W[i]? = some (i : Int) ∧ c.spot = p ∧ 0 < c.kind ∧ c.kind < 5 then (fval c (fo p W cs i)).1 else fo p W cs i
    | none => fo p W cs i
noncomputable def fw (p : Int) (W : List Int) (cs : List Cmd) : Nat → Int
  | 0 => 0
  | i + 1 => match cs[i]? with
    | some c => if W[i]? = some (i : Int) ∧ c.spot = p then (if (0 < c.kind ∧ c.kind < 5) ∧ (fval c (fo p W cs i)).2 = 0 ∧ (c.kind ≠ 2 ∨ fo p W cs i ≠ none) then fw p W cs i + 2 else fw p W cs i + 1) else fw p W cs i
    | none => fw p W cs i
theorem frun_ow {p : Int} {W : List Int} {cs : List Cmd} {t : List (Int × List UInt8)} {w : Int} : ∀ n, (frun p W cs n ⟨t, none, w⟩).old = fo p W cs n ∧ (frun p W cs n ⟨t, none, w⟩).wrote = w + fw p W cs n
  | 0 => ⟨rfl, by simp [frun, fw]⟩
  | n + 1 => by
    obtain ⟨h1, h2⟩ := frun_ow (p := p) (W := W) (cs := cs) (t := t) (w := w) n
    unfold frun fo fw
    cases cs[n]? with
    | none => exact ⟨h1, h2⟩
    | some c =>
      dsimp only
      unfold fstep
      by_cases ha : W[n]? = some (n : Int) ∧ c.spot = p
      · rw [if_pos ha, if_pos ha]
        by_cases hb : 0 < c.kind ∧ c.kind < 5
        · rw [if_pos hb, if_pos (show W[n]? = some (n : Int) ∧ c.spot = p ∧ 0 < c.kind ∧ c.kind < 5 from ⟨ha.1, ha.2, hb⟩)]
          dsimp only
          rw [h1, h2]
          refine ⟨rfl, ?_⟩
          by_cases hc : (fval c (fo p W cs n)).2 = 0 ∧ (c.kind ≠ 2 ∨ fo p W cs n ≠ none)
          · rw [if_pos hc, if_pos (show (0 < c.kind ∧ c.kind < 5) ∧ (fval c (fo p W cs n)).2 = 0 ∧ (c.kind ≠ 2 ∨ fo p W cs n ≠ none) from ⟨hb, hc⟩)]; lia
          · rw [if_neg hc, if_neg (show ¬ ((0 < c.kind ∧ c.kind < 5) ∧ (fval c (fo p W cs n)).2 = 0 ∧ (c.kind ≠ 2 ∨ fo p W cs n ≠ none)) from fun h => hc h.2)]; lia
        · rw [if_neg hb, if_neg (show ¬ (W[n]? = some (n : Int) ∧ c.spot = p ∧ 0 < c.kind ∧ c.kind < 5) from fun h => hb ⟨h.2.2.1, h.2.2.2⟩), if_neg (show ¬ ((0 < c.kind ∧ c.kind < 5) ∧ (fval c (fo p W cs n)).2 = 0 ∧ (c.kind ≠ 2 ∨ fo p W cs n ≠ none)) from fun h => hb h.1)]
          dsimp only
          exact ⟨h1, by lia⟩
      · rw [if_neg ha, if_neg ha, if_neg (show ¬ (W[n]? = some (n : Int) ∧ c.spot = p ∧ 0 < c.kind ∧ c.kind < 5) from fun h => ha ⟨h.1, h.2.1⟩)]
        exact ⟨h1, h2⟩
theorem frun_ne {p : Int} {W : List Int} {cs : List Cmd} {t : List (Int × List UInt8)} {w k : Int} (hk : ∀ (i : Nat) c, k = i → cs[i]? = some c → W[i]? = some (i : Int) → c.spot ≠ p) : ∀ n, tB (frun p W cs n ⟨t, none, w⟩).told k = tB t k
  | 0 => rfl
  | n + 1 => by
    have h := frun_ne hk (t := t) (w := w) n
    unfold frun
    cases hc : cs[n]? with
    | none => exact h
    | some c =>
      dsimp only
      unfold fstep
      by_cases ha : W[n]? = some (n : Int) ∧ c.spot = p
      · have hne : k ≠ (n : Int) := fun e => hk n c e hc ha.1 ha.2
        rw [if_pos ha]
        split
        · dsimp only; rw [tB_ne hne, tB_ne hne, h]
        · dsimp only; rw [tB_ne hne, h]
      · rw [if_neg ha]; exact h
theorem frun_at {p : Int} {W : List Int} {cs : List Cmd} {t : List (Int × List UInt8)} {w : Int} {i : Nat} {c : Cmd} (hc : cs[i]? = some c) (hw : W[i]? = some (i : Int)) (hp : c.spot = p) : ∀ n, i < n → tB (frun p W cs n ⟨t, none, w⟩).told i = some (fval' c (fo p W cs i))
  | 0, h => by lia
  | n + 1, h => by
    unfold frun
    rcases Nat.lt_or_ge i n with hi | hi
    · have ih := frun_at hc hw hp n hi (t := t) (w := w)
      have hne : (i : Int) ≠ (n : Int) := by lia
      cases hc' : cs[n]? with
      | none => exact ih
      | some c' =>
        dsimp only
        unfold fstep
        split
        · split
          · dsimp only; rw [tB_ne hne, tB_ne hne, ih]
          · dsimp only; rw [tB_ne hne, ih]
        · exact ih
    · have e : i = n := by lia
      subst e
      rw [hc]
      dsimp only
      unfold fstep
      rw [if_pos ⟨hw, hp⟩]
      unfold fval'
      by_cases hb : 0 < c.kind ∧ c.kind < 5
      · rw [if_pos hb, if_pos hb]
        dsimp only
        rw [tB_same, (frun_ow i).1]
      · rw [if_neg hb, if_neg hb]
        dsimp only
        rw [tB_same]
theorem fold_told {cs : List Cmd} {W : List Int} (hl : cs.length = 4) (hs : ∀ c ∈ cs, c.spot = 0 ∨ c.spot = 1) : tB (fold cs W).1 9 = some [0, 0] ∧ tB (fold cs W).1 10 = some [3, 0] ∧ tB (fold cs W).1 11 = some [2, 0] ∧ ∀ (i : Nat) c, cs[i]? = some c → W[i]? = some (i : Int) → tB (fold cs W).1 i = some (fval' c (fo c.spot W cs i)) := by
  have big : ∀ k : Int, 9 ≤ k → ∀ p, ∀ (i : Nat) c, k = i → cs[i]? = some c → W[i]? = some (i : Int) → c.spot ≠ p := fun k hk p i c e h ζ => by
    have : cs[i]? = none := List.getElem?_eq_none (by lia)
    rw [this] at h; cases h
  unfold fold
  dsimp only
  refine ⟨?_, ?_, ?_, fun i c hc hw => ?_⟩
  · rw [frun_ne (big 9 (by lia) 1), frun_ne (big 9 (by lia) 0)]; rfl
  · rw [frun_ne (big 10 (by lia) 1), frun_ne (big 10 (by lia) 0)]; rfl
  · rw [frun_ne (big 11 (by lia) 1), frun_ne (big 11 (by lia) 0)]; rfl
  · have hi : i < 4 := by
      rcases Nat.lt_or_ge i 4 with h | h
      · exact h
      · rw [List.getElem?_eq_none (by lia)] at hc; cases hc
    have hm : c ∈ cs := List.mem_of_getElem? hc
    rcases hs c hm with h | h
    · rw [frun_ne (fun j c' e h1 ζ => by
        have : j = i := by lia
        subst this; rw [hc] at h1; cases h1; lia), frun_at hc hw h 4 hi, h]
    · rw [frun_at hc hw h 4 hi, h]
noncomputable def rowsOf (k : List UInt8) : Option (List UInt8) → List (List UInt8 × List UInt8)
  | some o => [(k, o)]
  | none => []
theorem rowOf_eq {k : List UInt8} {s : FSt} : rowOf k s = rowsOf k s.old := by unfold rowOf rowsOf; cases s.old <;> rfl
theorem fold_rows {cs : List Cmd} {W : List Int} : (fold cs W).2.1 = rowsOf [] (fo 0 W cs 4) ++ rowsOf [107] (fo 1 W cs 4) := by
  unfold fold
  dsimp only
  rw [rowOf_eq, rowOf_eq, (frun_ow 4).1, (frun_ow 4).1]
theorem fold_wrote {cs : List Cmd} {W : List Int} : (fold cs W).2.2 = fw 0 W cs 4 + fw 1 W cs 4 := by
  unfold fold
  dsimp only
  rw [(frun_ow 4).2, (frun_ow 4).2]; lia
noncomputable def outc (s : JSt) (c : Cmd) (i : Nat) (prev : Option Int) : Option Int :=
  if c.num = s.last then some s.latest else if c.num < s.last then some 10 else if s.still = true ∨ c.kind = 5 then some i else prev
theorem jstep_w {w : Int} {c : Cmd} {i : Nat} {s : JSt} (hi : i < s.whose.length) : (jstep w c i s).whose[i]? = if c.who = w then outc s c i s.whose[i]? else s.whose[i]? := by
  unfold jstep outc
  split
  · split
    · simp [hi]
    · split
      · simp [hi]
      · split <;> simp [hi]
  · rfl
theorem jstep_w_ne {w : Int} {c : Cmd} {i j : Nat} {s : JSt} (h : i ≠ j) : (jstep w c i s).whose[j]? = s.whose[j]? := by
  unfold jstep
  repeat' split
  all_goals simp [List.getElem?_set_ne h]
theorem jrun_s {w : Int} {cs : List Cmd} {s : JSt} {n : Nat} : jrun w cs (n + 1) s = (match cs[n]? with | some c => jstep w c n (jrun w cs n s) | none => jrun w cs n s) := rfl
theorem jrun_w {w : Int} {cs : List Cmd} {s : JSt} {j : Nat} (hl : cs.length ≤ s.whose.length) : ∀ n, (jrun w cs n s).whose[j]? = if j < n then (match cs[j]? with | some c => if c.who = w then outc (jrun w cs j s) c j s.whose[j]? else s.whose[j]? | none => s.whose[j]?) else s.whose[j]?
  | 0 => by simp [jrun]
  | n + 1 => by
    have ih := jrun_w hl n (w := w) (j := j)
    rw [jrun_s]
    cases hc : cs[n]? with
    | none =>
      dsimp only
      rw [ih]
      by_cases h : j < n
      · rw [if_pos h, if_pos (by lia)]
      · by_cases h2 : j = n
        · subst h2; rw [if_neg h, if_pos (by lia), hc]
        · rw [if_neg h, if_neg (by lia)]
    | some c =>
      dsimp only
      by_cases h2 : j = n
      · subst h2
        have hj : j < s.whose.length := by
          rcases Nat.lt_or_ge j cs.length with h | h
          · lia
          · rw [List.getElem?_eq_none h] at hc; cases hc
        rw [jstep_w (by rw [jrun_len]; exact hj), if_pos (show j < j + 1 by lia), hc, ih, if_neg (show ¬ j < j by lia)]
      · rw [jstep_w_ne (Ne.symm h2), ih]
        by_cases h : j < n
        · rw [if_pos h, if_pos (by lia)]
        · rw [if_neg h, if_neg (by lia)]
theorem jrun_same {w : Int} {cs : List Cmd} {s s' : JSt} (h1 : s.last = s'.last) (h2 : s.still = s'.still) (h3 : s.latest = s'.latest) : ∀ n, (jrun w cs n s).last = (jrun w cs n s').last ∧ (jrun w cs n s).still = (jrun w cs n s').still ∧ (jrun w cs n s).latest = (jrun w cs n s').latest
  | 0 => ⟨h1, h2, h3⟩
  | n + 1 => by
    obtain ⟨i1, i2, i3⟩ := jrun_same h1 h2 h3 n (w := w) (cs := cs)
    unfold jrun
    cases cs[n]? with
    | none => exact ⟨i1, i2, i3⟩
    | some c =>
      dsimp only
      unfold jstep
      rw [i1, i2]
      repeat' split
      all_goals simp [i1, i2, i3]
noncomputable def js0 (o : Bool) : JSt := { last := (jstart o).1, still := (jstart o).2.1, latest := (jstart o).2.2, whose := [11, 11, 11, 11] }
theorem judge_w {cs : List Cmd} {o0 o1 : Bool} (hl : cs.length = 4) {i : Nat} {c : Cmd} (hc : cs[i]? = some c) : (c.who = 0 → (judge cs o0 o1).1[i]? = outc (jrun 0 cs i (js0 o0)) c i (some 11)) ∧ (c.who = 1 → (judge cs o0 o1).1[i]? = outc (jrun 1 cs i (js0 o1)) c i (some 11)) := by
  have hi : i < 4 := by
    rcases Nat.lt_or_ge i 4 with h | h
    · exact h
    · rw [List.getElem?_eq_none (by lia)] at hc; cases hc
  have h11 : (js0 o0).whose[i]? = some 11 := by
    show ([11, 11, 11, 11] : List Int)[i]? = _
    match i, hi with
    | 0, _ => rfl
    | 1, _ => rfl
    | 2, _ => rfl
    | 3, _ => rfl
  unfold judge
  dsimp only
  rw [jrun_w (by rw [jrun_len]; simp [hl]), if_pos hi, hc]
  dsimp only
  rw [show (jrun 0 cs 4 { last := (jstart o0).1, still := (jstart o0).2.1, latest := (jstart o0).2.2, whose := [11, 11, 11, 11] }).whose[i]? = if c.who = 0 then outc (jrun 0 cs i (js0 o0)) c i (some 11) else some 11 by
    show (jrun 0 cs 4 (js0 o0)).whose[i]? = _
    rw [jrun_w (by simp [hl, js0]), if_pos hi, hc, h11]]
  refine ⟨fun h => ?_, fun h => ?_⟩
  · rw [if_neg (by lia), if_pos h]
  · rw [if_pos h, if_neg (by lia)]
    obtain ⟨e1, e2, e3⟩ := jrun_same (w := 1) (cs := cs) (s := ⟨(jstart o1).1, (jstart o1).2.1, (jstart o1).2.2, (jrun 0 cs 4 { last := (jstart o0).1, still := (jstart o0).2.1, latest := (jstart o0).2.2, whose := [11, 11, 11, 11] }).whose⟩) (s' := js0 o1) rfl rfl rfl i
    unfold outc
    rw [e1, e2, e3]
theorem judge_seats {cs : List Cmd} {o0 o1 : Bool} : (judge cs o0 o1).2 = seatOf 0 (jrun 0 cs 4 (js0 o0)) ++ seatOf 1 (jrun 1 cs 4 (js0 o1)) := by
  unfold judge
  dsimp only
  obtain ⟨e1, e2, e3⟩ := jrun_same (w := 1) (cs := cs) (s := ⟨(jstart o1).1, (jstart o1).2.1, (jstart o1).2.2, (jrun 0 cs 4 { last := (jstart o0).1, still := (jstart o0).2.1, latest := (jstart o0).2.2, whose := [11, 11, 11, 11] }).whose⟩) (s' := js0 o1) rfl rfl rfl 4
  unfold seatOf
  rw [e1, e2, e3]
  rfl
theorem eff_v {c : Cmd} (h0 : 0 ≤ c.kind) (o : Option (List UInt8)) : (eff c.kind o c.word c.exp).1 = fval' c o := by
  unfold eff fval' fval rep
  by_cases h1 : c.kind = 1
  · rw [if_pos h1, if_pos (by lia), if_neg (by lia), if_neg (by intro h; lia)]
    cases o <;> simp [h1]
  rw [if_neg h1]
  by_cases h2 : c.kind = 2
  · rw [if_pos h2, if_pos (by lia), if_pos h2]
    cases o <;> rfl
  rw [if_neg h2]
  by_cases h3 : c.kind = 3
  · rw [if_pos h3, if_pos (show 0 < c.kind ∧ c.kind < 5 by lia), if_neg h2]
    by_cases he : o = c.exp
    · rw [if_pos he, if_neg (by intro h; exact h.2 he)]
      cases o <;> simp [h3]
    · rw [if_neg he, if_pos ⟨h3, he⟩]
  rw [if_neg h3]
  by_cases h4 : c.kind = 4
  · rw [if_pos h4, if_pos (by lia), if_neg h2, if_neg (by intro h; lia)]
    cases o
    · rfl
    · dsimp only; rw [if_pos h4]
  rw [if_neg h4, if_neg (by lia)]
  rfl
theorem eff_d {c : Cmd} (h0 : 0 < c.kind) (h5 : c.kind < 5) (o : Option (List UInt8)) : (match (eff c.kind o c.word c.exp).2 with | none => o | some y => y) = (fval c o).1 ∧ ((eff c.kind o c.word c.exp).2.isSome = true ↔ ((fval c o).2 = 0 ∧ (c.kind ≠ 2 ∨ o ≠ none))) := by
  unfold eff fval
  by_cases h1 : c.kind = 1
  · rw [if_pos h1, if_neg (by lia), if_neg (by intro h; lia)]
    cases o <;> simp [h1]
  rw [if_neg h1]
  by_cases h2 : c.kind = 2
  · rw [if_pos h2, if_pos h2]
    cases o <;> simp [h2]
  rw [if_neg h2]
  by_cases h3 : c.kind = 3
  · rw [if_pos h3, if_neg h2]
    by_cases he : o = c.exp
    · rw [if_pos he, if_neg (by intro h; exact h.2 he)]
      cases o <;> simp [h3]
    · rw [if_neg he, if_pos ⟨h3, he⟩]
      simp
  rw [if_neg h3]
  have h4 : c.kind = 4 := by lia
  rw [if_pos h4, if_neg h2, if_neg (by intro h; lia)]
  cases o <;> simp [h4]
noncomputable def mod0 (o0 o1 : Bool) : Mod := ⟨fun w => if w = 0 then (if o0 then some (1, true, [0, 0]) else none) else if w = 1 then (if o1 then some (1, true, [0, 0]) else none) else none, fun ζ => none⟩
noncomputable def seatAt (T : List (Int × List UInt8)) (s : Option (Int × Bool × List UInt8)) (J : JSt) (i : Nat) : Prop :=
  (s = none ∧ J.last = -1 ∧ J.still = false ∧ J.latest = 11) ∨ ∃ rp, s = some (J.last, J.still, rp) ∧ 0 ≤ J.last ∧ tB T J.latest = some rp ∧ (J.latest = 9 ∨ J.latest < i)
structure Inv (g : Nat → Cmd) (cs : List Cmd) (o0 o1 : Bool) (i : Nat) : Prop where
  s0 : seatAt (fold cs (judge cs o0 o1).1).1 ((mst g (List.range i) (mod0 o0 o1)).s 0) (jrun 0 cs i (js0 o0)) i
  s1 : seatAt (fold cs (judge cs o0 o1).1).1 ((mst g (List.range i) (mod0 o0 o1)).s 1) (jrun 1 cs i (js0 o1)) i
  d0 : (mst g (List.range i) (mod0 o0 o1)).d 0 = fo 0 (judge cs o0 o1).1 cs i
  d1 : (mst g (List.range i) (mod0 o0 o1)).d 1 = fo 1 (judge cs o0 o1).1 cs i
  ro : mro g (List.range i) (mod0 o0 o1) = i + fw 0 (judge cs o0 o1).1 cs i + fw 1 (judge cs o0 o1).1 cs i
theorem seat_step {T : List (Int × List UInt8)} {W : List Int} {c : Cmd} {s : Option (Int × Bool × List UInt8)} {o : Option (List UInt8)} {J : JSt} {i : Nat} (hn : 0 ≤ c.num) (hk : 0 ≤ c.kind) (hi : i < 4)
    (hs : seatAt T s J i) (hW : W[i]? = outc J c i (some 11)) (h10 : tB T 10 = some [3, 0]) (h11 : tB T 11 = some [2, 0]) (hT : W[i]? = some (i : Int) → tB T i = some (fval' c o)) :
    (∃ v, W[i]? = some v ∧ tB T v = some (core c s o).rp) ∧ seatAt T ((core c s o).ns.getD s) (jstep c.who c i J) (i + 1)
    ∧ (W[i]? = some (i : Int) ↔ ((core c s o).rows ≠ 1)) ∧ (W[i]? = some (i : Int) → (core c s o).nd = (eff c.kind o c.word c.exp).2 ∧ (core c s o).rows = if (eff c.kind o c.word c.exp).2.isSome then 3 else 2) ∧ (W[i]? ≠ some (i : Int) → (core c s o).nd = none ∧ (core c s o).rows = 1) := by
  have hseat : (seat s).1 = J.last ∧ (seat s).2.1 = J.still := by
    rcases hs with ⟨rfl, h1, h2, h3⟩ | ⟨rp, rfl, h1, h2, h3⟩
    · rw [h1, h2]; exact ⟨rfl, rfl⟩
    · exact ⟨rfl, rfl⟩
  have hmono : seatAt T s J (i + 1) := by
    rcases hs with h | ⟨rp, h0, h1, h2, h3⟩
    · exact .inl h
    · exact .inr ⟨rp, h0, h1, h2, by lia⟩
  unfold jstep
  rw [if_pos rfl]
  unfold outc at hW
  unfold core
  rw [hseat.1, hseat.2]
  by_cases c1 : c.num = J.last
  · rw [if_pos c1] at hW
    rw [if_pos c1, if_pos c1]
    have hl : 0 ≤ J.last := by lia
    rcases hs with ⟨_, h1, _, _⟩ | ⟨rp, h0, h1, h2, h3⟩
    · lia
    · have hne : W[i]? ≠ some (i : Int) := by rw [hW]; intro e; have := Option.some.inj e; lia
      subst h0
      exact ⟨⟨_, hW, h2⟩, .inr ⟨rp, rfl, h1, h2, by dsimp only; lia⟩, ⟨fun e => absurd e hne, fun e => absurd rfl e⟩, fun e => absurd e hne, fun ζ => ⟨rfl, rfl⟩⟩
  rw [if_neg c1] at hW
  rw [if_neg c1, if_neg c1]
  by_cases c2 : c.num < J.last
  · rw [if_pos c2] at hW
    rw [if_pos c2, if_pos c2]
    have hne : W[i]? ≠ some (i : Int) := by rw [hW]; intro e; have := Option.some.inj e; lia
    refine ⟨⟨_, hW, h10⟩, ?_, ⟨fun e => absurd e hne, fun e => absurd rfl e⟩, fun e => absurd e hne, fun ζ => ⟨rfl, rfl⟩⟩
    rcases hmono with h | h
    · exact .inl h
    · exact .inr h
  rw [if_neg c2] at hW
  rw [if_neg c2, if_neg c2]
  by_cases c3 : J.still = true ∨ c.kind = 5
  · rw [if_pos c3] at hW
    have c3' : ¬ (J.still = false ∧ c.kind ≠ 5) := by
      rcases c3 with h | h
      · rw [h]; simp
      · simp [h]
    rw [if_neg c3', if_pos c3]
    have ht := hT hW
    have hv := eff_v hk o
    refine ⟨⟨_, hW, by rw [ht]; dsimp only; rw [hv]⟩, .inr ⟨fval' c o, ?_, ?_, ht, .inr ?_⟩, ⟨fun ζ => ?_, fun ζ => hW⟩, fun ζ => ⟨rfl, rfl⟩, fun e => absurd hW e⟩
    · dsimp only [Option.getD]; rw [hv]
    · dsimp only
      rcases hs with ⟨_, h1, _, _⟩ | ⟨rp, h0, h1, h2, h3⟩ <;> lia
    · dsimp only; lia
    · dsimp only; split <;> decide
  · rw [if_neg c3] at hW
    have c3' : J.still = false ∧ c.kind ≠ 5 := by
      refine ⟨?_, fun e => c3 (.inr e)⟩
      cases h : J.still
      · rfl
      · exact absurd (.inl h) c3
    rw [if_pos c3', if_neg c3]
    have hne : W[i]? ≠ some (i : Int) := by rw [hW]; intro e; have := Option.some.inj e; lia
    exact ⟨⟨_, hW, h11⟩, hmono, ⟨fun e => absurd e hne, fun e => absurd rfl e⟩, fun e => absurd e hne, fun ζ => ⟨rfl, rfl⟩⟩
theorem range_succ_mst {g : Nat → Cmd} {i : Nat} {M : Mod} : mst g (List.range (i + 1)) M = mstep (g i) (mst g (List.range i) M) := by
  rw [List.range_succ, mst_app]; rfl
theorem range_succ_mro {g : Nat → Cmd} {i : Nat} {M : Mod} : mro g (List.range (i + 1)) M = mro g (List.range i) M + (coreOf (g i) (mst g (List.range i) M)).rows := by
  rw [List.range_succ, mro_app]; simp [mro]
theorem updO_at {α : Type} {f : Int → α} {k : Int} {o : Option α} : updO f k o k = o.getD (f k) := by cases o <;> simp [updO, upd]
structure CsOk (cs : List Cmd) : Prop where
  len : cs.length = 4
  who : ∀ c ∈ cs, c.who = 0 ∨ c.who = 1
  spot : ∀ c ∈ cs, c.spot = 0 ∨ c.spot = 1
  num : ∀ c ∈ cs, 0 ≤ c.num
  kind : ∀ c ∈ cs, 0 ≤ c.kind
theorem inv0 {g : Nat → Cmd} {cs : List Cmd} {o0 o1 : Bool} (h : CsOk cs) : Inv g cs o0 o1 0 := by
  have h9 := (fold_told (W := (judge cs o0 o1).1) h.len h.spot).1
  refine ⟨?_, ?_, rfl, rfl, rfl⟩
  · cases o0
    · exact .inl ⟨rfl, rfl, rfl, rfl⟩
    · exact .inr ⟨[0, 0], rfl, (by decide : (0 : Int) ≤ 1), h9, .inl rfl⟩
  · cases o1
    · exact .inl ⟨rfl, rfl, rfl, rfl⟩
    · exact .inr ⟨[0, 0], rfl, (by decide : (0 : Int) ≤ 1), h9, .inl rfl⟩
theorem seatAt_other {T : List (Int × List UInt8)} {s : Option (Int × Bool × List UInt8)} {J : JSt} {i : Nat} (h : seatAt T s J i) : seatAt T s J (i + 1) := by
  rcases h with h | ⟨rp, h0, h1, h2, h3⟩
  · exact .inl h
  · exact .inr ⟨rp, h0, h1, h2, by lia⟩
theorem fo_step {p : Int} {W : List Int} {cs : List Cmd} {i : Nat} {c : Cmd} (hc : cs[i]? = some c) : fo p W cs (i + 1) = if W[i]? = some (i : Int) ∧ c.spot = p ∧ 0 < c.kind ∧ c.kind < 5 then (fval c (fo p W cs i)).1 else fo p W cs i := by
  rw [show fo p W cs (i + 1) = (match cs[i]? with | some c => if W[i]? = some (i : Int) ∧ c.spot = p ∧ 0 < c.kind ∧ c.kind < 5 then (fval c (fo p W cs i)).1 else fo p W cs i | none => fo p W cs i) from rfl, hc]
theorem fw_step {p : Int} {W : List Int} {cs : List Cmd} {i : Nat} {c : Cmd} (hc : cs[i]? = some c) : fw p W cs (i + 1) = if W[i]? = some (i : Int) ∧ c.spot = p then (if (0 < c.kind ∧ c.kind < 5) ∧ (fval c (fo p W cs i)).2 = 0 ∧ (c.kind ≠ 2 ∨ fo p W cs i ≠ none) then fw p W cs i + 2 else fw p W cs i + 1) else fw p W cs i := by
  rw [show fw p W cs (i + 1) = (match cs[i]? with | some c => if W[i]? = some (i : Int) ∧ c.spot = p then (if (0 < c.kind ∧ c.kind < 5) ∧ (fval c (fo p W cs i)).2 = 0 ∧ (c.kind ≠ 2 ∨ fo p W cs i ≠ none) then fw p W cs i + 2 else fw p W cs i + 1) else fw p W cs i | none => fw p W cs i) from rfl, hc]
theorem key_step {W : List Int} {cs : List Cmd} {i : Nat} {c : Cmd} {o : Option (List UInt8)} {p : Int} {nd : Option (Option (List UInt8))} {ro : Int} (hk : 0 ≤ c.kind) (hc : cs[i]? = some c) (hp : c.spot = p) (ho : o = fo p W cs i)
    (h1 : W[i]? = some (i : Int) → nd = (eff c.kind o c.word c.exp).2 ∧ ro = if (eff c.kind o c.word c.exp).2.isSome then 3 else 2) (h2 : W[i]? ≠ some (i : Int) → nd = none ∧ ro = 1) :
    nd.getD o = fo p W cs (i + 1) ∧ ro + fw p W cs i = 1 + fw p W cs (i + 1) := by
  rw [fo_step hc, fw_step hc, ← ho]
  by_cases hw : W[i]? = some (i : Int)
  · obtain ⟨rfl, rfl⟩ := h1 hw
    rw [if_pos (show W[i]? = some (i : Int) ∧ c.spot = p from ⟨hw, hp⟩)]
    by_cases hb : 0 < c.kind ∧ c.kind < 5
    · rw [if_pos ⟨hw, hp, hb⟩]
      obtain ⟨e1, e2⟩ := eff_d hb.1 hb.2 o
      refine ⟨?_, ?_⟩
      · rw [← e1]; cases (eff c.kind o c.word c.exp).2 <;> rfl
      · by_cases hz : (eff c.kind o c.word c.exp).2.isSome = true
        · rw [if_pos hz, if_pos ⟨hb, e2.mp hz⟩]; lia
        · rw [if_neg hz, if_neg (fun h => hz (e2.mpr h.2))]; lia
    · rw [if_neg (show ¬ (W[i]? = some (i : Int) ∧ c.spot = p ∧ 0 < c.kind ∧ c.kind < 5) from fun h => hb h.2.2), if_neg (show ¬ ((0 < c.kind ∧ c.kind < 5) ∧ (fval c o).2 = 0 ∧ (c.kind ≠ 2 ∨ o ≠ none)) from fun h => hb h.1)]
      have := (eff_free (by lia : c.kind < 1 ∨ 4 < c.kind) o o c.word c.exp).2
      rw [this]
      refine ⟨rfl, ?_⟩
      simp; lia
  · obtain ⟨rfl, rfl⟩ := h2 hw
    rw [if_neg (fun h => hw h.1), if_neg (fun h => hw h.1)]
    exact ⟨rfl, rfl⟩
theorem key_other {W : List Int} {cs : List Cmd} {i : Nat} {c : Cmd} {p : Int} (hc : cs[i]? = some c) (hp : c.spot ≠ p) : fo p W cs (i + 1) = fo p W cs i ∧ fw p W cs (i + 1) = fw p W cs i := by
  rw [fo_step hc, fw_step hc, if_neg (fun h => hp h.2.1), if_neg (fun h => hp h.2)]
  exact ⟨rfl, rfl⟩
theorem jrun_other {w : Int} {cs : List Cmd} {i : Nat} {c : Cmd} {s : JSt} (hc : cs[i]? = some c) (hw : c.who ≠ w) : jrun w cs (i + 1) s = jrun w cs i s := by
  rw [jrun_s, hc]
  dsimp only
  unfold jstep
  rw [if_neg hw]
theorem inv_step {g : Nat → Cmd} {cs : List Cmd} {o0 o1 : Bool} (h : CsOk cs) {i : Nat} {c : Cmd} (hc : cs[i]? = some c) (hg : g i = c) (I : Inv g cs o0 o1 i) :
    Inv g cs o0 o1 (i + 1) ∧ ∃ v, (judge cs o0 o1).1[i]? = some v ∧ tB (fold cs (judge cs o0 o1).1).1 v = some (coreOf (g i) (mst g (List.range i) (mod0 o0 o1))).rp := by
  have hi : i < 4 := by
    have := h.len
    rcases Nat.lt_or_ge i 4 with h | h
    · exact h
    · rw [List.getElem?_eq_none (by lia)] at hc; cases hc
  have hm : c ∈ cs := List.mem_of_getElem? hc
  obtain ⟨t9, t10, t11, tt⟩ := fold_told (W := (judge cs o0 o1).1) h.len h.spot
  have hjw := judge_w (o0 := o0) (o1 := o1) h.len hc
  obtain ⟨is0, is1, id0, id1, iro⟩ := I
  have hT := tt i c hc
  have hkk := h.kind c hm
  generalize hM : mst g (List.range i) (mod0 o0 o1) = M at *
  generalize hWW : (judge cs o0 o1).1 = W at *
  generalize hTT : (fold cs W).1 = T at *
  have hS : ∀ w, (mst g (List.range (i + 1)) (mod0 o0 o1)).s w = updO M.s c.who (coreOf c M).ns w := fun w => by rw [range_succ_mst, hM, hg]; rfl
  have hD : ∀ p, (mst g (List.range (i + 1)) (mod0 o0 o1)).d p = updO M.d c.spot (coreOf c M).nd p := fun p => by rw [range_succ_mst, hM, hg]; rfl
  have hR : mro g (List.range (i + 1)) (mod0 o0 o1) = i + fw 0 W cs i + fw 1 W cs i + (coreOf c M).rows := by rw [range_succ_mro, iro, hM, hg]
  have hT' : W[i]? = some (i : Int) → tB T i = some (fval' c (M.d c.spot)) := fun e => by
    rw [hT e]
    rcases h.spot c hm with e | e <;> rw [e]
    · rw [id0]
    · rw [id1]
  have key : (∀ w, c.who = w → seatAt T (M.s w) (jrun w cs i (js0 (if w = 0 then o0 else o1))) i → W[i]? = outc (jrun w cs i (js0 (if w = 0 then o0 else o1))) c i (some 11) →
      (∃ v, W[i]? = some v ∧ tB T v = some (coreOf c M).rp) ∧ seatAt T (updO M.s c.who (coreOf c M).ns w) (jrun w cs (i + 1) (js0 (if w = 0 then o0 else o1))) (i + 1)
      ∧ (W[i]? = some (i : Int) → (coreOf c M).nd = (eff c.kind (M.d c.spot) c.word c.exp).2 ∧ (coreOf c M).rows = if (eff c.kind (M.d c.spot) c.word c.exp).2.isSome then 3 else 2) ∧ (W[i]? ≠ some (i : Int) → (coreOf c M).nd = none ∧ (coreOf c M).rows = 1)) := fun w hw hs hW => by
    subst hw
    obtain ⟨a1, a2, _, a4, a5⟩ := seat_step (h.num c hm) hkk hi hs hW t10 t11 hT'
    refine ⟨a1, ?_, a4, a5⟩
    rw [updO_at, jrun_s, hc]
    exact a2
  have fin : (∃ v, W[i]? = some v ∧ tB T v = some (coreOf c M).rp) ∧ seatAt T (updO M.s c.who (coreOf c M).ns 0) (jrun 0 cs (i + 1) (js0 o0)) (i + 1) ∧ seatAt T (updO M.s c.who (coreOf c M).ns 1) (jrun 1 cs (i + 1) (js0 o1)) (i + 1)
      ∧ (W[i]? = some (i : Int) → (coreOf c M).nd = (eff c.kind (M.d c.spot) c.word c.exp).2 ∧ (coreOf c M).rows = if (eff c.kind (M.d c.spot) c.word c.exp).2.isSome then 3 else 2) ∧ (W[i]? ≠ some (i : Int) → (coreOf c M).nd = none ∧ (coreOf c M).rows = 1) := by
    rcases h.who c hm with e | e
    · obtain ⟨b1, b2, b3, b4⟩ := key 0 e is0 (hjw.1 e)
      refine ⟨b1, b2, ?_, b3, b4⟩
      rw [updO_ne (by lia), jrun_other hc (by lia)]
      exact seatAt_other is1
    · obtain ⟨b1, b2, b3, b4⟩ := key 1 e is1 (hjw.2 e)
      refine ⟨b1, ?_, b2, b3, b4⟩
      rw [updO_ne (by lia), jrun_other hc (by lia)]
      exact seatAt_other is0
  obtain ⟨f1, f2, f3, f4, f5⟩ := fin
  refine ⟨?_, by rw [hg]; exact f1⟩
  rcases h.spot c hm with e | e
  · rw [e] at f4
    obtain ⟨k1, k2⟩ := key_step hkk hc e id0 f4 f5
    obtain ⟨k3, k4⟩ := key_other (W := W) (p := 1) hc (by lia)
    refine ⟨?_, ?_, ?_, ?_, ?_⟩
    · rw [hS, hWW, hTT]; exact f2
    · rw [hS, hWW, hTT]; exact f3
    · rw [hD, e, updO_at, hWW]; exact k1
    · rw [hD, e, updO_ne (by lia), hWW, k3]; exact id1
    · rw [hR, hWW, k4]; lia
  · rw [e] at f4
    obtain ⟨k1, k2⟩ := key_step hkk hc e id1 f4 f5
    obtain ⟨k3, k4⟩ := key_other (W := W) (p := 0) hc (by lia)
    refine ⟨?_, ?_, ?_, ?_, ?_⟩
    · rw [hS, hWW, hTT]; exact f2
    · rw [hS, hWW, hTT]; exact f3
    · rw [hD, e, updO_ne (by lia), hWW, k3]; exact id0
    · rw [hD, e, updO_at, hWW]; exact k1
    · rw [hR, hWW, k4]; lia
theorem lookA_put {κ : Type} [DecidableEq κ] {es : List (κ × AV)} {k j : κ} {a : AV} : lookA (putA es k a) j = if j = k then some a else lookA es j := by
  unfold putA
  split
  · rename_i h
    induction es with
    | nil => simp at h
    | cons q es ih =>
      simp only [lookA, List.map_cons, List.find?] at ih ⊢
      by_cases hq : q.1 = k
      · simp only [hq, if_true]
        by_cases hj : j = k
        · subst hj; simp
        · have h2 : decide (k = j) = false := by simpa using fun e => hj e.symm
          simp only [h2]
          by_cases hr : es.any (fun p => decide (p.1 = k)) = true
          · have := ih hr; rw [if_neg hj] at this; rw [if_neg hj]; exact this
          · rw [if_neg hj]
            rw [show (es.map fun p => if p.1 = k then (p.1, a) else p) = es from map_eq_self fun x hx => if_neg fun e => hr (List.any_eq_true.mpr ⟨x, hx, by simpa using e⟩)]
      · simp only [hq, if_false]
        have h' : es.any (fun p => decide (p.1 = k)) = true := by simpa [hq] using h
        by_cases hj : q.1 = j
        · have : ¬ j = k := fun e => hq (hj.trans e)
          rw [if_neg this]; simp [hj]
        · have h2 : decide (q.1 = j) = false := by simpa using hj
          simp only [h2]
          exact ih h'
  · rename_i h
    have hn : es.find? (fun p => decide (p.1 = k)) = none := by
      rw [List.find?_eq_none]; intro x hx hk; exact h (List.any_eq_true.mpr ⟨x, hx, hk⟩)
    simp only [lookA, List.find?_append]
    by_cases hj : j = k
    · subst hj; simp [hn, List.find?]
    · have h2 : decide (k = j) = false := by simpa using fun e => hj e.symm
      simp [List.find?, h2, hj]
theorem lookA_del {κ : Type} [DecidableEq κ] {es : List (κ × AV)} {k j : κ} : lookA (delA es k) j = if j = k then none else lookA es j := by
  unfold delA lookA
  induction es with
  | nil => simp
  | cons q es ih =>
    by_cases hq : q.1 = k
    · rw [List.filter_cons_of_neg (by simp [hq])]
      by_cases hj : j = k
      · rw [if_pos hj] at ih ⊢; exact ih
      · have h2 : decide (q.1 = j) = false := by simpa using fun e => hj (e.symm.trans hq)
        rw [if_neg hj] at ih ⊢
        simp only [List.find?, h2]
        exact ih
    · rw [List.filter_cons_of_pos (by simp [hq])]
      simp only [List.find?]
      by_cases hj : q.1 = j
      · have : ¬ j = k := fun e => hq (hj.trans e)
        rw [if_neg this]; simp [hj]
      · have h2 : decide (q.1 = j) = false := by simpa using hj
        simp only [h2]
        exact ih
theorem keys_put {κ : Type} [DecidableEq κ] {es : List (κ × AV)} {k : κ} {a : AV} : (putA es k a).map (·.1) = if k ∈ es.map (·.1) then es.map (·.1) else es.map (·.1) ++ [k] := by
  unfold putA
  have e : es.any (fun p => decide (p.1 = k)) = true ↔ k ∈ es.map (·.1) := by
    rw [List.any_eq_true, List.mem_map]
    constructor
    · rintro ⟨x, hx, h⟩; exact ⟨x, hx, by simpa using h⟩
    · rintro ⟨x, hx, h⟩; exact ⟨x, hx, by simpa using h⟩
  by_cases h : es.any (fun p => decide (p.1 = k)) = true
  · rw [if_pos h, if_pos (e.mp h), List.map_map]
    exact List.map_congr_left fun q ζ => by simp only [Function.comp_def]; split <;> rfl
  · rw [if_neg h, if_neg fun q => h (e.mpr q)]; simp
theorem nodup_put {κ : Type} [DecidableEq κ] {es : List (κ × AV)} {k : κ} {a : AV} (h : (es.map (·.1)).Nodup) : ((putA es k a).map (·.1)).Nodup := by
  rw [keys_put]
  split
  · exact h
  · rename_i hk
    rw [List.nodup_append]
    exact ⟨h, by simp, fun x hx y hy e => hk (by simp at hy; subst hy; exact e ▸ hx)⟩
theorem mem_put {κ : Type} [DecidableEq κ] {es : List (κ × AV)} {k j : κ} {a : AV} (h : j ∈ (putA es k a).map (·.1)) : j = k ∨ j ∈ es.map (·.1) := by
  rw [keys_put] at h
  split at h
  · exact .inr h
  · rcases List.mem_append.mp h with h | h
    · exact .inr h
    · exact .inl (by simpa using h)
theorem nodup_del {κ : Type} [DecidableEq κ] {es : List (κ × AV)} {k : κ} (h : (es.map (·.1)).Nodup) : ((delA es k).map (·.1)).Nodup :=
  List.Nodup.sublist (List.Sublist.map _ List.filter_sublist) h
theorem mem_del {κ : Type} [DecidableEq κ] {es : List (κ × AV)} {k j : κ} (h : j ∈ (delA es k).map (·.1)) : j ∈ es.map (·.1) :=
  (List.Sublist.map _ (List.filter_sublist (p := fun p : κ × AV => decide (p.1 ≠ k)) (l := es))).subset h
theorem mem_of_look {κ : Type} [DecidableEq κ] {es : List (κ × AV)} {k : κ} : (lookA es k).isSome = true ↔ k ∈ es.map (·.1) := by
  unfold lookA
  rw [Option.isSome_map, List.find?_isSome, List.mem_map]
  constructor
  · rintro ⟨x, hx, h⟩; exact ⟨x, hx, by simpa using h⟩
  · rintro ⟨x, hx, h⟩; exact ⟨x, hx, by simpa using h⟩
noncomputable def cl (w : Int) : Int := if w = 0 then 5 else 300
noncomputable def ky (p : Int) : List UInt8 := if p = 0 then [] else [107]
noncomputable abbrev sesAV (q : Int × Bool × List UInt8) : AV := .bytes (ses q.1 q.2.1 q.2.2)
noncomputable def five : List (List UInt8) := [[97], [100], [100, 107], skey 5, skey 300]
structure StoreOK (es : List (List UInt8 × AV)) (M : Mod) : Prop where
  nd : (es.map (·.1)).Nodup
  sub : ∀ k ∈ es.map (·.1), k ∈ five
  s0 : lookA es (skey 5) = (M.s 0).map sesAV
  s1 : lookA es (skey 300) = (M.s 1).map sesAV
  d0 : lookA es [100] = (M.d 0).map .bytes
  d1 : lookA es [100, 107] = (M.d 1).map .bytes
structure ModOK (M : Mod) (t : Nat) : Prop where
  s : ∀ w la op rp, M.s w = some (la, op, rp) → 0 ≤ la ∧ la < 128 ∧ rp.length ≤ t + 3
  d : ∀ p v, M.d p = some v → v.length ≤ t
structure CmdOK (c : Cmd) : Prop where
  who : c.who = 0 ∨ c.who = 1
  spot : c.spot = 0 ∨ c.spot = 1
  n0 : 0 ≤ c.num
  n1 : c.num < 128
  k0 : 0 ≤ c.kind
  k1 : c.kind ≤ 6
  word : c.word.length ≤ 1
  exp : ∀ o, c.exp = some o → o.length ≤ 1
theorem StoreOK.len {es : List (List UInt8 × AV)} {M : Mod} (h : StoreOK es M) : es.length ≤ 5 := by
  have := List.Nodup.length_le_of_subset h.nd h.sub
  simpa [five] using this
theorem StoreOK.s {es : List (List UInt8 × AV)} {M : Mod} (h : StoreOK es M) {w : Int} (hw : w = 0 ∨ w = 1) : lookA es (skey (cl w)) = (M.s w).map sesAV := by
  rcases hw with rfl | rfl
  · exact h.s0
  · exact h.s1
theorem StoreOK.d {es : List (List UInt8 × AV)} {M : Mod} (h : StoreOK es M) {p : Int} (hp : p = 0 ∨ p = 1) : lookA es (100 :: ky p) = (M.d p).map .bytes := by
  rcases hp with rfl | rfl
  · exact h.d0
  · exact h.d1
theorem StoreOK.app {es : List (List UInt8 × AV)} {M : Mod} {a : AV} (h : StoreOK es M) : StoreOK (putA es [97] a) M := by
  refine ⟨nodup_put h.nd, fun k hk => ?_, ?_, ?_, ?_, ?_⟩
  · rcases mem_put hk with rfl | hk
    · decide
    · exact h.sub _ hk
  · rw [lookA_put, if_neg (by decide)]; exact h.s0
  · rw [lookA_put, if_neg (by decide)]; exact h.s1
  · rw [lookA_put, if_neg (by decide)]; exact h.d0
  · rw [lookA_put, if_neg (by decide)]; exact h.d1
theorem StoreOK.putS {es : List (List UInt8 × AV)} {M : Mod} {w : Int} {q : Int × Bool × List UInt8} (hw : w = 0 ∨ w = 1) (h : StoreOK es M) : StoreOK (putA es (skey (cl w)) (sesAV q)) ⟨upd M.s w (some q), M.d⟩ := by
  refine ⟨nodup_put h.nd, fun k hk => ?_, ?_, ?_, ?_, ?_⟩
  · rcases mem_put hk with rfl | hk
    · rcases hw with rfl | rfl <;> decide
    · exact h.sub _ hk
  · rw [lookA_put]
    rcases hw with rfl | rfl
    · rfl
    · rw [if_neg (by decide)]; exact h.s0
  · rw [lookA_put]
    rcases hw with rfl | rfl
    · rw [if_neg (by decide)]; exact h.s1
    · rfl
  · rw [lookA_put, if_neg (by rcases hw with rfl | rfl <;> decide)]; exact h.d0
  · rw [lookA_put, if_neg (by rcases hw with rfl | rfl <;> decide)]; exact h.d1
theorem StoreOK.putD {es : List (List UInt8 × AV)} {M : Mod} {p : Int} {y : List UInt8} (hp : p = 0 ∨ p = 1) (h : StoreOK es M) : StoreOK (putA es (100 :: ky p) (.bytes y)) ⟨M.s, upd M.d p (some y)⟩ := by
  refine ⟨nodup_put h.nd, fun k hk => ?_, ?_, ?_, ?_, ?_⟩
  · rcases mem_put hk with rfl | hk
    · rcases hp with rfl | rfl <;> decide
    · exact h.sub _ hk
  · rw [lookA_put, if_neg (by rcases hp with rfl | rfl <;> decide)]; exact h.s0
  · rw [lookA_put, if_neg (by rcases hp with rfl | rfl <;> decide)]; exact h.s1
  · rw [lookA_put]
    rcases hp with rfl | rfl
    · rfl
    · rw [if_neg (by decide)]; exact h.d0
  · rw [lookA_put]
    rcases hp with rfl | rfl
    · rw [if_neg (by decide)]; exact h.d1
    · rfl
theorem StoreOK.delD {es : List (List UInt8 × AV)} {M : Mod} {p : Int} (hp : p = 0 ∨ p = 1) (h : StoreOK es M) : StoreOK (delA es (100 :: ky p)) ⟨M.s, upd M.d p none⟩ := by
  refine ⟨nodup_del h.nd, fun k hk => h.sub _ (mem_del hk), ?_, ?_, ?_, ?_⟩
  · rw [lookA_del, if_neg (by rcases hp with rfl | rfl <;> decide)]; exact h.s0
  · rw [lookA_del, if_neg (by rcases hp with rfl | rfl <;> decide)]; exact h.s1
  · rw [lookA_del]
    rcases hp with rfl | rfl
    · rfl
    · rw [if_neg (by decide)]; exact h.d0
  · rw [lookA_del]
    rcases hp with rfl | rfl
    · rw [if_neg (by decide)]; exact h.d1
    · rfl
theorem rep_len (c : Int) (o : Option (List UInt8)) (t : Nat) (h : ∀ v, o = some v → v.length ≤ t) : (rep c o).length ≤ t + 3 := by
  cases o with
  | none => rw [rep_len_n]; lia
  | some v => rw [rep_len_s]; have := h v rfl; lia
theorem eff_len {k : Int} {o e : Option (List UInt8)} {v : List UInt8} {t : Nat} (h : ∀ x, o = some x → x.length ≤ t) (hv : v.length ≤ 1) : (eff k o v e).1.length ≤ t + 3 ∧ ∀ y, (eff k o v e).2 = some (some y) → y.length ≤ t + 1 := by
  have r0 := rep_len 0 o t h
  have r1 := rep_len 1 o t h
  have rn : (rep 0 none).length ≤ t + 3 := by rw [rep_len_n]; lia
  unfold eff
  split
  · exact ⟨r0, fun y e => by cases e; lia⟩
  split
  · cases o with
    | none => exact ⟨rn, fun y e => by cases e⟩
    | some x => exact ⟨r0, fun y e => by cases e⟩
  split
  · split
    · exact ⟨r0, fun y e => by cases e; lia⟩
    · exact ⟨r1, fun y e => by cases e⟩
  split
  · cases o with
    | none => exact ⟨rn, fun y e => by cases e; lia⟩
    | some x => exact ⟨r0, fun y e => by cases e; have := h x rfl; simp; lia⟩
  · exact ⟨rn, fun y e => by cases e⟩
theorem ModOK.step {c : Cmd} {M : Mod} {t : Nat} (hc : CmdOK c) (h : ModOK M t) : ModOK (mstep c M) (t + 1) := by
  have he := eff_len (k := c.kind) (e := c.exp) (v := c.word) (h.d c.spot) hc.word
  have n0 := hc.n0
  have n1 := hc.n1
  have up : ∀ w la op rp, M.s w = some (la, op, rp) → 0 ≤ la ∧ la < 128 ∧ rp.length ≤ t + 1 + 3 := fun w la op rp e => by obtain ⟨a, b, d⟩ := h.s w la op rp e; exact ⟨a, b, by lia⟩
  have ud : ∀ p v, M.d p = some v → v.length ≤ t + 1 := fun p v e => by have := h.d p v e; lia
  unfold mstep coreOf core
  split
  · exact ⟨up, ud⟩
  split
  · exact ⟨up, ud⟩
  split
  · exact ⟨up, ud⟩
  refine ⟨fun w la op rp e => ?_, fun p v e => ?_⟩
  · simp only [updO, upd] at e
    split at e
    · cases e; exact ⟨n0, n1, by lia⟩
    · exact up _ _ _ _ e
  · dsimp only at e
    cases q : (eff c.kind (M.d c.spot) c.word c.exp).2 with
    | none => rw [q] at e; exact ud _ _ e
    | some z =>
      rw [q] at e
      simp only [updO, upd] at e
      split at e
      · subst e; exact he.2 _ q
      · exact ud _ _ e
theorem ModOK.zero (o0 o1 : Bool) : ModOK (mod0 o0 o1) 0 := by
  refine ⟨fun w la op rp e => ?_, fun p v e => by cases e⟩
  simp only [mod0] at e
  split at e
  · split at e <;> cases e
    exact ⟨by decide, by decide, by decide⟩
  split at e
  · split at e <;> cases e
    exact ⟨by decide, by decide, by decide⟩
  · cases e
end
section
section
variable {G : Gr} {n : Nat} {R : Led} {vs : List Value} {K : AV → Led → Prop}
theorem StoreOK.ses {es : List (List UInt8 × AV)} {M : Mod} {t : Nat} {w : Int} (hw : w = 0 ∨ w = 1) (h : StoreOK es M) (hM : ModOK M t) (ht : t ≤ 50) : SesAt es (cl w) (seat (M.s w)).1 (seat (M.s w)).2.1 (seat (M.s w)).2.2 := by
  have hl := h.s hw
  have hb := hM.s w
  cases q : M.s w with
  | none => rw [q] at hl; exact .inl ⟨hl, rfl, rfl, rfl⟩
  | some z =>
    obtain ⟨la, op, rp⟩ := z
    rw [q] at hl
    obtain ⟨b1, b2, b3⟩ := hb _ _ _ q
    exact .inr ⟨hl, b1, b2, by show rp.length < 128; lia⟩
theorem k_apply {m s dn lb ex : Addr} {a t d k l i : Int} {es : List (List UInt8 × AV)} {bs : List AV} {c : Cmd} {M : Mod} {tt : Nat} (hv : VRs [.con (.ref ex), .none] vs) (hc : CmdOK c) (hS : StoreOK es M) (hM : ModOK M tt) (htt : tt ≤ 50) (hi : i = a + 1) (hi0 : 0 ≤ i) (hi1 : i < 128) (hb : bs.length ≤ 1000)
    (h : ∀ es' bs' R', StoreOK es' (mstep c M) → ModOK (mstep c M) (tt + 1) → bs'.length = bs.length + 1 → K (.bytes (coreOf c M).rp) (macE m s i 1 d :: stoE s dn lb k (l + (coreOf c M).rows) :: (dn, .bd es') :: (lb, .list bs') :: (R' ++ R))) (hn : 10 ≤ n := by fail "mx nn") :
    Cc G n (macE m s a t d :: stoE s dn lb k l :: (dn, .bd es) :: (lb, .list bs) :: entE ex 1 i 0 (cmd c.kind (cl c.who) c.num (ky c.spot) c.word c.exp) :: R) (.ref 740) ([.ref m] ++ vs) K := by
  have hses := hS.ses hc.who hM htt
  have hcl : cl c.who = 5 ∨ cl c.who = 300 := by rcases hc.who with e | e <;> rw [e] <;> decide
  have hlen := hS.len
  have he : es.length ≤ 1000 := by lia
  have hkey : (ky c.spot).length ≤ 100 := by rcases hc.spot with e | e <;> rw [e] <;> decide
  have hval : c.word.length ≤ 20 := by have := hc.word; lia
  have hee : ∀ o, c.exp = some o → o.length < 128 := fun o e => by have := hc.exp o e; lia
  have hM' := hM.step hc
  have hcore : coreOf c M = core c (M.s c.who) (M.d c.spot) := rfl
  have hD : lookA es (100 :: ky c.spot) = (M.d c.spot).map .bytes := hS.d hc.spot
  have hdl : ∀ x, M.d c.spot = some x → x.length < 100 := fun x e => by have := hM.d _ _ e; lia
  have hef := eff_len (k := c.kind) (e := c.exp) (v := c.word) (hM.d c.spot) hc.word
  have hq : (eff c.kind (M.d c.spot) c.word c.exp).1.length < 120 := by lia
  have hstep : ∀ x y, (coreOf c M).ns = x → (coreOf c M).nd = y → mstep c M = ⟨updO M.s c.who x, updO M.d c.spot y⟩ := by rintro x y rfl rfl; rfl
  unfold core at hcore
  by_cases c1 : c.num = (seat (M.s c.who)).1
  · rw [if_pos c1] at hcore
    rw [hcore] at h
    have e := hstep none none (by rw [hcore]) (by rw [hcore])
    refine k_ap_told (o := none) hv hcl hses hi hi0 hi1 he hb hc.k0 hc.k1 hc.n0 hc.n1 hkey hval hee c1 (fun p t0 => ?_)
    exact h _ _ [(p, .list [.con (.ref t0)]), rowE t0 1 [97] (app i 1)] (by rw [e]; exact hS.app) hM' (by simp)
  rw [if_neg c1] at hcore
  by_cases c2 : c.num < (seat (M.s c.who)).1
  · rw [if_pos c2] at hcore
    rw [hcore] at h
    have e := hstep none none (by rw [hcore]) (by rw [hcore])
    refine k_ap_stale (o := none) hv hcl hses hi hi0 hi1 he hb hc.k0 hc.k1 hc.n0 hc.n1 hkey hval hee c2 (fun p t0 => ?_)
    exact h _ _ [(p, .list [.con (.ref t0)]), rowE t0 1 [97] (app i 1)] (by rw [e]; exact hS.app) hM' (by simp)
  rw [if_neg c2] at hcore
  have c2' : (seat (M.s c.who)).1 < c.num := by lia
  by_cases c3 : (seat (M.s c.who)).2.1 = false ∧ c.kind ≠ 5
  · rw [if_pos c3] at hcore
    rw [hcore] at h
    have e := hstep none none (by rw [hcore]) (by rw [hcore])
    rw [c3.1] at hses
    refine k_ap_unk (o := none) hv hcl hses hi hi0 hi1 he hb hc.k0 hc.k1 hc.n0 hc.n1 hkey hval hee c2' c3.2 (fun p t0 => ?_)
    exact h _ _ [(p, .list [.con (.ref t0)]), rowE t0 1 [97] (app i 1)] (by rw [e]; exact hS.app) hM' (by simp)
  rw [if_neg c3] at hcore
  have e := hstep _ _ (by rw [hcore]) (by rw [hcore])
  rw [hcore] at h
  generalize hE : eff c.kind (M.d c.spot) c.word c.exp = E at h e hq hef
  obtain ⟨q, w⟩ := E
  dsimp only at h e hq hef
  cases w with
  | none =>
    by_cases c4 : (seat (M.s c.who)).2.1 = true
    · rw [c4] at hses
      refine k_ap_n hv hcl hses hi hi0 hi1 he hb hc.k0 hc.k1 hc.n0 hc.n1 hkey hval hee c2' hD hdl hq hE (fun p t0 t1 => ?_)
      exact h _ _ [(p, .list [.con (.ref t0), .con (.ref t1)]), rowE t0 1 (skey (cl c.who)) (ses c.num (c.kind != 6) q), rowE t1 1 [97] (app i 1)] (by rw [e]; exact (hS.putS hc.who (q := (c.num, c.kind != 6, q))).app) hM' (by simp)
    · have c4' : (seat (M.s c.who)).2.1 = false := by simpa using c4
      have c5 : c.kind = 5 := Decidable.byContradiction fun x => c3 ⟨c4', x⟩
      rw [c4'] at hses
      rw [c5] at hE e ⊢
      refine k_ap_o hv hcl hses hi hi0 hi1 he hb (by decide) (by decide) hc.n0 hc.n1 hkey hval hee c2' hD hdl hq hE (fun p t0 t1 => ?_)
      exact h _ _ [(p, .list [.con (.ref t0), .con (.ref t1)]), rowE t0 1 (skey (cl c.who)) (ses c.num ((5 : Int) != 6) q), rowE t1 1 [97] (app i 1)] (by rw [e]; exact (hS.putS hc.who (q := (c.num, (5 : Int) != 6, q))).app) hM' (by simp)
  | some w =>
    have c4 : (seat (M.s c.who)).2.1 = true := by
      cases z : (seat (M.s c.who)).2.1 with
      | true => rfl
      | false =>
        have c5 : c.kind = 5 := Decidable.byContradiction fun x => c3 ⟨z, x⟩
        have := (eff_free (.inr (by lia) : c.kind < 1 ∨ 4 < c.kind) (M.d c.spot) none c.word c.exp).2
        rw [hE] at this; cases this
    rw [c4] at hses
    cases w with
    | none =>
      have hsm : (lookA es (100 :: ky c.spot)).isSome = true := by
        rw [hD, Option.isSome_map]
        cases z : M.d c.spot with
        | some x => rfl
        | none =>
          rw [z] at hE
          unfold eff at hE
          split at hE
          · cases hE
          split at hE
          · cases hE
          split at hE
          · split at hE <;> cases hE
          split at hE
          · cases hE
          · cases hE
      refine k_ap_d hv hcl hses hi hi0 hi1 he hb hc.k0 hc.k1 hc.n0 hc.n1 hkey hval hee c2' hD hdl hq hsm hE (fun p t0 t1 t2 => ?_)
      refine h _ _ [(p, .list [.con (.ref t0), .con (.ref t1), .con (.ref t2)]), rowE t0 0 (100 :: ky c.spot) [], rowE t1 1 (skey (cl c.who)) (ses c.num (c.kind != 6) q), rowE t2 1 [97] (app i 1)] ?_ hM' (by simp)
      rw [e]; exact ((hS.delD hc.spot).putS hc.who (q := (c.num, c.kind != 6, q))).app
    | some y =>
      refine k_ap_p hv hcl hses hi hi0 hi1 he hb hc.k0 hc.k1 hc.n0 hc.n1 hkey hval hee c2' hD hdl hq (by have := hef.2 y rfl; lia) hE (fun p t0 t1 t2 => ?_)
      refine h _ _ [(p, .list [.con (.ref t0), .con (.ref t1), .con (.ref t2)]), rowE t0 1 (100 :: ky c.spot) y, rowE t1 1 (skey (cl c.who)) (ses c.num (c.kind != 6) q), rowE t2 1 [97] (app i 1)] ?_ hM' (by simp)
      rw [e]; exact ((hS.putD hc.spot).putS hc.who (q := (c.num, c.kind != 6, q))).app
end
end
section
noncomputable def sesOf (c : Int) : Option (Int × Bool × List UInt8) → List (Int × Int × Bool × List UInt8)
  | some q => [(c, q.1, q.2.1, q.2.2)]
  | none => []
noncomputable abbrev sesD (M : Mod) : List (Int × Int × Bool × List UInt8) := sesOf 5 (M.s 0) ++ sesOf 300 (M.s 1)
noncomputable abbrev rowD (M : Mod) : List (List UInt8 × List UInt8) := rowsOf [] (M.d 0) ++ rowsOf [107] (M.d 1)
noncomputable abbrev rowTD (a t : Int) (M : Mod) : TD := .tup [.int a, .int t, .bytes [], .tup ((rowD M).map rowT), .tup ((sesD M).map sesT)]
theorem five_anti : ∀ a ∈ five, ∀ b ∈ five, lt8 b a = false → lt8 a b = false → a = b := by decide +kernel
theorem five_pw : five.Pairwise (fun a b => lt8 b a = false) := by decide +kernel
theorem five_nd : five.Nodup := by decide +kernel
theorem five_s : (five.filter fun k => !lt8 k [115] && lt8 k [116]) = [skey 5, skey 300] := by decide +kernel
theorem five_d : (five.filter fun k => !lt8 k [100] && lt8 k [101]) = [[100], [100, 107]] := by decide +kernel
theorem StoreOK.ks {es : List (List UInt8 × AV)} {M : Mod} (h : StoreOK es M) {ks : List (List UInt8)} (hp : ks.Perm (es.map (·.1))) (hs : ks.Pairwise (fun a b => lt8 b a = false)) : ks = five.filter fun k => decide (k ∈ es.map (·.1)) := by
  refine List.Perm.eq_of_pairwise (le := fun a b => lt8 b a = false) (fun a b ha hb => five_anti a (h.sub _ (hp.mem_iff.mp ha)) b (List.mem_filter.mp hb).1) hs (five_pw.sublist List.filter_sublist) (hp.trans ?_)
  refine (List.perm_ext_iff_of_nodup h.nd (five_nd.sublist List.filter_sublist)).mpr fun a => ?_
  rw [List.mem_filter]
  exact ⟨fun q => ⟨h.sub _ q, by simpa using q⟩, fun q => by simpa using q.2⟩
theorem StoreOK.sel {es : List (List UInt8 × AV)} {M : Mod} (h : StoreOK es M) {ks : List (List UInt8)} (hp : ks.Perm (es.map (·.1))) (hs : ks.Pairwise (fun a b => lt8 b a = false)) {lo hi : List UInt8} {l : List (List UInt8)} (hl : (five.filter fun k => !lt8 k lo && lt8 k hi) = l) :
    sel es lo hi ks = (l.filter fun k => (lookA es k).isSome).map fun k => (k, valOf es k) := by
  unfold Mine.sel
  rw [h.ks hp hs, List.filter_filter, ← hl, List.filter_filter]
  congr 1
  refine List.filter_congr fun k ζ => ?_
  rw [Bool.and_comm]
  congr 1
  rw [Bool.eq_iff_iff, decide_eq_true_eq]
  exact mem_of_look.symm
theorem StoreOK.selS {es : List (List UInt8 × AV)} {M : Mod} {t : Nat} (h : StoreOK es M) (hM : ModOK M t) (ht : t ≤ 50) {ks : List (List UInt8)} (hp : ks.Perm (es.map (·.1))) (hs : ks.Pairwise (fun a b => lt8 b a = false)) : All2 SesRow (Mine.sel es [115] [116] ks) (sesD M) := by
  rw [h.sel hp hs five_s]
  have one : ∀ (w c : Int), (c = 5 ∨ c = 300) → lookA es (skey c) = (M.s w).map sesAV → All2 SesRow (([skey c].filter fun k => (lookA es k).isSome).map fun k => (k, valOf es k)) (sesOf c (M.s w)) := fun w c hc e => by
    have hb := hM.s w
    cases q : M.s w with
    | none => rw [q] at e; simp only [Option.map_none] at e; simp only [List.filter_cons, e, sesOf]; exact .nil
    | some z =>
      obtain ⟨la, op, rp⟩ := z
      rw [q] at e
      obtain ⟨b1, b2, b3⟩ := hb _ _ _ q
      simp only [Option.map_some] at e
      simp only [List.filter_cons, e, Option.isSome_some, if_true, List.filter_nil, List.map_cons, List.map_nil, sesOf, valOf, Option.getD_some]
      exact .cons (.mk hc b1 b2 (show rp.length < 128 by lia)) .nil
  have := (one 0 5 (.inl rfl) h.s0).app (one 1 300 (.inr rfl) h.s1)
  rwa [← List.map_append, ← List.filter_append] at this
theorem StoreOK.selD {es : List (List UInt8 × AV)} {M : Mod} (h : StoreOK es M) {ks : List (List UInt8)} (hp : ks.Perm (es.map (·.1))) (hs : ks.Pairwise (fun a b => lt8 b a = false)) : (Mine.sel es [100] [101] ks).map (fun q => (q.1.drop 1, q.2)) = (rowD M).map fun q => (q.1, AV.bytes q.2) := by
  rw [h.sel hp hs five_d]
  have one : ∀ (p : Int) (k : List UInt8), lookA es (100 :: k) = (M.d p).map .bytes → ((([100 :: k].filter fun k => (lookA es k).isSome).map fun k => (k, valOf es k)).map fun q => (q.1.drop 1, q.2)) = (rowsOf k (M.d p)).map fun q => (q.1, AV.bytes q.2) := fun p k e => by
    cases q : M.d p with
    | none => rw [q] at e; simp only [Option.map_none] at e; simp [List.filter_cons, e, rowsOf]
    | some z => rw [q] at e; simp only [Option.map_some] at e; simp [List.filter_cons, e, rowsOf, valOf]
  have e0 := one 0 [] h.d0
  have e1 := one 1 [107] h.d1
  rw [List.map_append, ← e0, ← e1, ← List.map_append, ← List.map_append, ← List.filter_append]
  rfl
theorem StoreOK.szs {es : List (List UInt8 × AV)} {M : Mod} (h : StoreOK es M) : ∀ q ∈ es, q.1.length ≤ 1000 := fun q hq => by
  have := h.sub _ (List.mem_map_of_mem (f := (·.1)) hq)
  have k : ∀ x ∈ five, x.length ≤ 1000 := by decide
  exact k _ this
section
variable {G : Gr} {n : Nat} {R : Led} {vs : List Value} {K : AV → Led → Prop}
theorem k_rowM {m s dn lb : Addr} {a t d k l : Int} {es : List (List UInt8 × AV)} {M : Mod} {tt : Nat} (hv : VRs [] vs) (hS : StoreOK es M) (hM : ModOK M tt) (htt : tt ≤ 50)
    (h : ∀ q W, Told W 3 (.con (.ref q)) (rowTD a t M) → K (.con (.ref q)) (W ++ (macE m s a t d :: stoE s dn lb k l :: (dn, .bd es) :: R))) (hn : 8 ≤ n := by fail "mx nn") :
    Cc G n (macE m s a t d :: stoE s dn lb k l :: (dn, .bd es) :: R) (.ref 803) ([.ref m] ++ vs) K :=
  k_row hv (by have := hS.len; lia) hS.szs (fun ks hp hs => hS.selS hM htt hp hs) (fun ks hp hs => hS.selD hp hs) h hn
end
noncomputable def gOf (cs : List Cmd) (i : Nat) : Cmd := (cs[i]?).getD ⟨0, 0, 0, 0, [], none⟩
theorem gOf_at {cs : List Cmd} {i : Nat} {c : Cmd} (h : cs[i]? = some c) : gOf cs i = c := by unfold gOf; rw [h]; rfl
inductive SeatR (T : List (Int × List UInt8)) : Int × Int × Bool × Int → Int × Int × Bool × List UInt8 → Prop
  | mk {w la op lt rp} : w = 0 ∨ w = 1 → tB T lt = some rp → SeatR T (w, la, op, lt) (cl w, la, op, rp)
theorem inv_all {cs : List Cmd} {o0 o1 : Bool} (h : CsOk cs) : ∀ i, i ≤ 4 → Inv (gOf cs) cs o0 o1 i
  | 0, _ => inv0 h
  | i + 1, hi => by
    have hl := h.len
    have hc : cs[i]? = some (cs[i]'(by lia)) := List.getElem?_eq_getElem _
    exact (inv_step h hc (gOf_at hc) (inv_all h i (by lia))).1
theorem inv_told {cs : List Cmd} {o0 o1 : Bool} (h : CsOk cs) {i : Nat} (hi : i < 4) : ∃ v, (judge cs o0 o1).1[i]? = some v ∧ tB (fold cs (judge cs o0 o1).1).1 v = some (coreOf (gOf cs i) (mst (gOf cs) (List.range i) (mod0 o0 o1))).rp := by
  have hl := h.len
  have hc : cs[i]? = some (cs[i]'(by lia)) := List.getElem?_eq_getElem _
  exact (inv_step h hc (gOf_at hc) (inv_all h i (by lia))).2
theorem inv_rows {cs : List Cmd} {o0 o1 : Bool} (h : CsOk cs) : (fold cs (judge cs o0 o1).1).2.1 = rowD (mst (gOf cs) [0, 1, 2, 3] (mod0 o0 o1)) := by
  have I := inv_all (o0 := o0) (o1 := o1) h 4 (Nat.le_refl _)
  rw [fold_rows, ← I.d0, ← I.d1]
  rfl
theorem inv_wrote {cs : List Cmd} {o0 o1 : Bool} (h : CsOk cs) : mro (gOf cs) [0, 1, 2, 3] (mod0 o0 o1) = 4 + (fold cs (judge cs o0 o1).1).2.2 := by
  have I := inv_all (o0 := o0) (o1 := o1) h 4 (Nat.le_refl _)
  rw [fold_wrote]
  have := I.ro
  rw [show List.range 4 = [0, 1, 2, 3] from rfl] at this
  rw [this]; lia
theorem inv_seats {cs : List Cmd} {o0 o1 : Bool} (h : CsOk cs) : All2 (SeatR (fold cs (judge cs o0 o1).1).1) (judge cs o0 o1).2 (sesD (mst (gOf cs) [0, 1, 2, 3] (mod0 o0 o1))) := by
  have I := inv_all (o0 := o0) (o1 := o1) h 4 (Nat.le_refl _)
  rw [judge_seats]
  have one : ∀ (w : Int) (s : Option (Int × Bool × List UInt8)) (J : JSt), (w = 0 ∨ w = 1) → seatAt (fold cs (judge cs o0 o1).1).1 s J 4 → All2 (SeatR (fold cs (judge cs o0 o1).1).1) (seatOf w J) (sesOf (cl w) s) := fun w s J hw hs => by
    rcases hs with ⟨rfl, h1, h2, h3⟩ | ⟨rp, rfl, h1, h2, h3⟩
    · unfold seatOf; rw [if_neg (by lia)]; exact .nil
    · unfold seatOf; rw [if_pos h1]; exact .cons (.mk hw h2) .nil
  exact (one 0 _ _ (.inl rfl) I.s0).app (one 1 _ _ (.inr rfl) I.s1)
theorem reach_told {cs : List Cmd} {o0 o1 : Bool} (h : CsOk cs) {l : List Nat} (hr : Reach (gOf cs) l) {k i : Nat} (hk : l[k]? = some i) : ∃ v, (judge cs o0 o1).1[i]? = some v ∧ tB (fold cs (judge cs o0 o1).1).1 v = some (coreOf (gOf cs i) (mst (gOf cs) (l.take k) (mod0 o0 o1))).rp := by
  have hm := (reach_same hr (mod0 o0 o1)).2.2.mem_iff.mp (mrp_mem hk)
  have t0 := inv_told (o0 := o0) (o1 := o1) h (i := 0) (by decide)
  have t1 := inv_told (o0 := o0) (o1 := o1) h (i := 1) (by decide)
  have t2 := inv_told (o0 := o0) (o1 := o1) h (i := 2) (by decide)
  have t3 := inv_told (o0 := o0) (o1 := o1) h (i := 3) (by decide)
  generalize (coreOf (gOf cs i) (mst (gOf cs) (l.take k) (mod0 o0 o1))).rp = r at hm ⊢
  simp only [mrp, List.mem_cons, List.not_mem_nil, or_false, Prod.mk.injEq] at hm
  rcases hm with ⟨rfl, rfl⟩ | ⟨rfl, rfl⟩ | ⟨rfl, rfl⟩ | ⟨rfl, rfl⟩
  · exact t0
  · exact t1
  · exact t2
  · exact t3
theorem lookA_avs {es : List (Int × List UInt8)} {k : Int} : lookA (avs es) k = (tB es k).map .bytes := by
  unfold lookA tB
  induction es with
  | nil => rfl
  | cons q es ih =>
    simp only [avs, List.map_cons, List.find?] at ih ⊢
    by_cases h : q.1 = k
    · simp [h]
    · simp only [h, decide_false]; exact ih
end
section
noncomputable def lawT0 : List Stmt := stmtsOf fo_962.1.body
noncomputable def lawS0 : Stmt := h0 lawT0
noncomputable def lawT1 : List Stmt := tl lawT0
theorem lawT_0 : lawT0 = lawS0 :: lawT1 := by kernel_rfl
noncomputable def lawS1 : Stmt := h0 lawT1
noncomputable def lawT2 : List Stmt := tl lawT1
theorem lawT_1 : lawT1 = lawS1 :: lawT2 := by kernel_rfl
noncomputable def lawS2 : Stmt := h0 lawT2
noncomputable def lawT3 : List Stmt := tl lawT2
theorem lawT_2 : lawT2 = lawS2 :: lawT3 := by kernel_rfl
noncomputable def lawS3 : Stmt := h0 lawT3
noncomputable def lawT4 : List Stmt := tl lawT3
theorem lawT_3 : lawT3 = lawS3 :: lawT4 := by kernel_rfl
noncomputable def lawS4 : Stmt := h0 lawT4
noncomputable def lawT5 : List Stmt := tl lawT4
theorem lawT_4 : lawT4 = lawS4 :: lawT5 := by kernel_rfl
noncomputable def lawS5 : Stmt := h0 lawT5
noncomputable def lawT6 : List Stmt := tl lawT5
theorem lawT_5 : lawT5 = lawS5 :: lawT6 := by kernel_rfl
noncomputable def lawS6 : Stmt := h0 lawT6
noncomputable def lawT7 : List Stmt := tl lawT6
theorem lawT_6 : lawT6 = lawS6 :: lawT7 := by kernel_rfl
noncomputable def lawS7 : Stmt := h0 lawT7
noncomputable def lawT8 : List Stmt := tl lawT7
theorem lawT_7 : lawT7 = lawS7 :: lawT8 := by kernel_rfl
noncomputable def lawS8 : Stmt := h0 lawT8
noncomputable def lawT9 : List Stmt := tl lawT8
theorem lawT_8 : lawT8 = lawS8 :: lawT9 := by kernel_rfl
noncomputable def lawS9 : Stmt := h0 lawT9
noncomputable def lawT10 : List Stmt := tl lawT9
theorem lawT_9 : lawT9 = lawS9 :: lawT10 := by kernel_rfl
noncomputable def lawS10 : Stmt := h0 lawT10
noncomputable def lawT11 : List Stmt := tl lawT10
theorem lawT_10 : lawT10 = lawS10 :: lawT11 := by kernel_rfl
noncomputable def lawS11 : Stmt := h0 lawT11
noncomputable def lawT12 : List Stmt := tl lawT11
theorem lawT_11 : lawT11 = lawS11 :: lawT12 := by kernel_rfl
noncomputable def lawS12 : Stmt := h0 lawT12
noncomputable def lawT13 : List Stmt := tl lawT12
theorem lawT_12 : lawT12 = lawS12 :: lawT13 := by kernel_rfl
noncomputable def lawS13 : Stmt := h0 lawT13
noncomputable def lawT14 : List Stmt := tl lawT13
theorem lawT_13 : lawT13 = lawS13 :: lawT14 := by kernel_rfl
noncomputable def lawS14 : Stmt := h0 lawT14
noncomputable def lawT15 : List Stmt := tl lawT14
theorem lawT_14 : lawT14 = lawS14 :: lawT15 := by kernel_rfl
noncomputable def lawS15 : Stmt := h0 lawT15
noncomputable def lawT16 : List Stmt := tl lawT15
theorem lawT_15 : lawT15 = lawS15 :: lawT16 := by kernel_rfl
noncomputable def lawS16 : Stmt := h0 lawT16
noncomputable def lawT17 : List Stmt := tl lawT16
theorem lawT_16 : lawT16 = lawS16 :: lawT17 := by kernel_rfl
noncomputable def lawS17 : Stmt := h0 lawT17
noncomputable def lawT18 : List Stmt := tl lawT17
theorem lawT_17 : lawT17 = lawS17 :: lawT18 := by kernel_rfl
noncomputable def lawS18 : Stmt := h0 lawT18
noncomputable def lawT19 : List Stmt := tl lawT18
theorem lawT_18 : lawT18 = lawS18 :: lawT19 := by kernel_rfl
noncomputable def lawS19 : Stmt := h0 lawT19
noncomputable def lawT20 : List Stmt := tl lawT19
theorem lawT_19 : lawT19 = lawS19 :: lawT20 := by kernel_rfl
noncomputable def lawS20 : Stmt := h0 lawT20
noncomputable def lawT21 : List Stmt := tl lawT20
theorem lawT_20 : lawT20 = lawS20 :: lawT21 := by kernel_rfl
noncomputable def lawS21 : Stmt := h0 lawT21
noncomputable def lawT22 : List Stmt := tl lawT21
theorem lawT_21 : lawT21 = lawS21 :: lawT22 := by kernel_rfl
noncomputable def lawS22 : Stmt := h0 lawT22
noncomputable def lawT23 : List Stmt := tl lawT22
theorem lawT_22 : lawT22 = lawS22 :: lawT23 := by kernel_rfl
noncomputable def lawS23 : Stmt := h0 lawT23
noncomputable def lawT24 : List Stmt := tl lawT23
theorem lawT_23 : lawT23 = lawS23 :: lawT24 := by kernel_rfl
noncomputable def lawS24 : Stmt := h0 lawT24
noncomputable def lawT25 : List Stmt := tl lawT24
theorem lawT_24 : lawT24 = lawS24 :: lawT25 := by kernel_rfl
noncomputable def lawS25 : Stmt := h0 lawT25
noncomputable def lawT26 : List Stmt := tl lawT25
theorem lawT_25 : lawT25 = lawS25 :: lawT26 := by kernel_rfl
theorem law_cells (p : Nat) : cellsFrom (p + 1) fo_962.1.scope.names [] = [(("told" : Str), p + 1)] := by kernel_rfl
noncomputable def draw (xs : List Int) (i : Int) : Int := xs.getD (i.fmod xs.length).toNat 0 + 31 * i.fdiv xs.length
section
variable {G : Gr} {n : Nat} {R : Led} {vs : List Value} {K : AV → Led → Prop}
theorem k_draw' {p : Addr} {xs : List Int} {i : Int} (hv : VRs [.con (.ref p), .int i] vs) (hp : (p, AObj.list (xs.map .int)) ∈ R) (h1 : 1 ≤ xs.length) (h6 : xs.length ≤ 6) (h0 : 0 ≤ i) (h5 : i ≤ 5)
    (h : K (.int (draw xs i)) R) (hn : 1 ≤ n := by fail "mx nn") : Cc G n R (.ref 929) ([] ++ vs) K := by
  have hz : (xs.map AV.int).length = xs.length := List.length_map ..
  have f0 : 0 ≤ i.fmod ((xs.map AV.int).length : Int) := Int.fmod_nonneg_of_pos _ (by lia)
  have f1 : i.fmod ((xs.map AV.int).length : Int) < ((xs.map AV.int).length : Int) := Int.fmod_lt_of_pos _ (by lia)
  have f2 : i.fmod ((xs.map AV.int).length : Int) < 1000000 := by lia
  have f3 : ((xs.map AV.int).length : Int) ≠ 0 := by lia
  have hdiv : Builtin.divisionGoesByPylong i ((xs.map AV.int).length : Int) = false := PyProof.noPylong_small (by lia)
  have hm : IntMulOk 31 (i.fdiv ((xs.map AV.int).length : Int)) := IntMulOk.of_left (by decide)
  have hzz : (xs.map AV.int).length ≤ 1000000 := by lia
  have hx : (xs.map AV.int)[(i.fmod ((xs.map AV.int).length : Int)).toNat]? = some (.int (xs.getD (i.fmod ((xs.map AV.int).length : Int)).toNat 0)) := by
    have : (i.fmod ((xs.map AV.int).length : Int)).toNat < xs.length := by lia
    rw [List.getElem?_map, List.getElem?_eq_getElem this, List.getD_eq_getElem?_getD, List.getElem?_eq_getElem this]
    rfl
  have he : draw xs i = xs.getD (i.fmod ((xs.map AV.int).length : Int)).toNat 0 + 31 * i.fdiv ((xs.map AV.int).length : Int) := by rw [hz]; rfl
  rw [he] at h
  clear he
  refine f_929 (by fail "mx nn") ‹_› rfl (fun p hE => ?_)
  refine sRet (evO (evS (evN hE mm0 mm0) (evO (evN hE mm0 mm1) (evCB hE (evs1 (evN hE mm0 mm0) evs0) (fLenL (by (repeat refine List.mem_cons_of_mem _ ?_); assumption) ‹_›)) (oMod ‹_›)) (sL (by (repeat refine List.mem_cons_of_mem _ ?_); assumption) ‹_› ‹_› ‹_› (fun ζ ζ => rfl))) (evO evI (evO (evN hE mm0 mm1) (evCB hE (evs1 (evN hE mm0 mm0) evs0) (fLenL (by (repeat refine List.mem_cons_of_mem _ ?_); assumption) ‹_›)) (oDiv ‹_› ‹_›)) (oMul ‹_›)) oAdd) ?_
  rotate_left
  exact ⟨_, by exact (pS Pick.refl), h⟩
end
end
section
noncomputable def cmdB (c : Cmd) : List UInt8 := cmd c.kind (cl c.who) c.num (ky c.spot) c.word c.exp
noncomputable abbrev refs (ts : List Addr) : List AV := ts.map fun t => AV.con (.ref t)
theorem mod_at {α : Type} {l : List α} {y k : Int} (hk : 0 < k) (hl : k = l.length) : ∃ a, l[(y.fmod k).toNat]? = some a ∧ a ∈ l ∧ 0 ≤ y.fmod k ∧ y.fmod k < k := by
  have h0 : 0 ≤ y.fmod k := Int.fmod_nonneg_of_pos _ hk
  have h1 : y.fmod k < k := Int.fmod_lt_of_pos _ hk
  have h2 : (y.fmod k).toNat < l.length := by lia
  exact ⟨_, List.getElem?_eq_getElem h2, List.getElem_mem h2, h0, h1⟩
theorem cl_at {w : Int} (h : w = 0 ∨ w = 1) : ([.int 5, .int 300] : List AV)[w.toNat]? = some (.int (cl w)) := by rcases h with rfl | rfl <;> rfl
theorem ky_at {w : Int} (h : w = 0 ∨ w = 1) : ([.bytes [], .bytes [107]] : List AV)[w.toNat]? = some (.bytes (ky w)) := by rcases h with rfl | rfl <;> rfl
theorem cl_or {w : Int} (h : w = 0 ∨ w = 1) : cl w = 5 ∨ cl w = 300 := by rcases h with rfl | rfl <;> decide
theorem ky_len {w : Int} (h : w = 0 ∨ w = 1) : (ky w).length < 128 := by rcases h with rfl | rfl <;> decide
structure Asked (i : Nat) (cs : List Cmd) (ts : List Addr) (tops : List Int) (W : Led) : Prop where
  c : cs.length = i
  t : ts.length = i
  ok : ∀ c ∈ cs, CmdOK c
  l : tops.length = 2
  b : ∀ v ∈ tops, 1 ≤ v ∧ v ≤ 1 + i
  m : ∀ (j : Nat) t c, ts[j]? = some t → cs[j]? = some c → cmdT t c ∈ W
theorem Asked.snoc {i : Nat} {cs : List Cmd} {ts : List Addr} {tops : List Int} {W : Led} {t : Addr} {c : Cmd} {k : Nat} {v : Int} (h : Asked i cs ts tops W) (hc : CmdOK c) (hv : 1 ≤ v ∧ v ≤ 2 + i) : Asked (i + 1) (cs ++ [c]) (ts ++ [t]) (tops.set k v) (cmdT t c :: W) := by
  refine ⟨by simp [h.c], by simp [h.t], fun x hx => ?_, by simp [h.l], fun x hx => ?_, fun j u d hu hd => ?_⟩
  · rcases List.mem_append.mp hx with hx | hx
    · exact h.ok x hx
    · rw [List.mem_singleton.mp hx]; exact hc
  · rcases List.mem_or_eq_of_mem_set hx with hx | rfl
    · have := h.b x hx; lia
    · lia
  · have h1 := h.c; have h2 := h.t
    rcases Nat.lt_trichotomy j i with hj | hj | hj
    · rw [List.getElem?_append_left (by lia)] at hu hd
      exact List.mem_cons_of_mem _ (h.m j u d hu hd)
    · subst hj
      rw [List.getElem?_append_right (by lia)] at hu hd
      simp only [h1, h2, Nat.sub_self, List.getElem?_cons_zero, Option.some.injEq] at hu hd
      subst hu hd
      exact List.mem_cons_self
    · rw [List.getElem?_eq_none (by simp; lia)] at hu; cases hu
section
variable {G : Gr} {n : Nat} {R : Led} {vs : List Value} {K : Fl → Led → Prop}
theorem law_d {p nl : Addr} {xs : List Int} {o_script o_setup o_opened o_store o_machine o_index o_who o_data o_other o_twin : Option AV} (hn : 12 ≤ n) (hx1 : 1 ≤ xs.length) (hx6 : xs.length ≤ 6)
    (h : ∀ al dl cs ts tops W o_tops o_one o_y o_number o_kind o_spot o_word o_expect o_who, Asked 4 cs ts tops W →
      Cf G n ((p, .ns fo_962.1.scope [("script", o_script), ("nums", some (.con (.ref nl))), ("setup", o_setup), ("opened", o_opened), ("store", o_store), ("machine", o_machine), ("index", o_index), ("who", o_who), ("data", o_data), ("other", o_other), ("twin", o_twin), ("asked", some (.con (.ref al))), ("datas", some (.con (.ref dl))), ("tops", o_tops), ("one", o_one), ("y", o_y), ("number", o_number), ("kind", o_kind), ("spot", o_spot), ("word", o_word), ("expect", o_expect), ("order", none), ("swaps", none), ("k", none), ("p", none), ("whose", none), ("seats", none), ("rows", none), ("wrote", none), ("at", none), ("sessions", none)]) :: (p + 1, .cell none) ::
        (nl, .list (xs.map .int)) :: (al, .list (refs ts)) :: (dl, .list (cs.map fun c => .bytes (cmdB c))) :: (W ++ R)) (execs lawT16 (callEnvC fo_962.1 p 962)) K) :
    Cf G n ((p, .ns fo_962.1.scope [("script", o_script), ("nums", some (.con (.ref nl))), ("setup", o_setup), ("opened", o_opened), ("store", o_store), ("machine", o_machine), ("index", o_index), ("who", o_who), ("data", o_data), ("other", o_other), ("twin", o_twin), ("asked", none), ("datas", none), ("tops", none), ("one", none), ("y", none), ("number", none), ("kind", none), ("spot", none), ("word", none), ("expect", none), ("order", none), ("swaps", none), ("k", none), ("p", none), ("whose", none), ("seats", none), ("rows", none), ("wrote", none), ("at", none), ("sessions", none)]) :: (p + 1, .cell none) :: (nl, .list (xs.map .int)) :: R) (execs lawT12 (callEnvC fo_962.1 p 962)) K := by
  have hE : Fr (callEnvC fo_962.1 p 962) p fo_962.1.scope := fr_962
  rw [lawT_12, lawT_13, lawT_14, lawT_15]
  generalize hE : callEnvC fo_962.1 p 962 = E
  generalize hsc : fo_962.1.scope = sc
  dsimp only [lawS12, lawS13, lawS14, lawS15, lawT0, lawT1, lawT2, lawT3, lawT4, lawT5, lawT6, lawT7, lawT8, lawT9, lawT10, lawT11, lawT12, lawT13, lawT14, lawT15, h0, tl, stmtsOf, fo_962]
  subst hE hsc
  refine sAsgC (xL evs0 (by rfl) (by rfl) ?_)
  intro _
  refine sSt hE up1 (rpt rp1) (sAsgC (xL evs0 (by rfl) (by rfl) ?_))
  intro _
  refine sSt hE up2 (rpt rp2) (sAsgC (xL (evs1 evI (evs1 evI evs0)) (by rfl) (by rfl) ?_))
  intro _
  refine sSt hE up3 (rpt rp3) (Cons' (For_ (cT hE (evs1 evI evs0) (rangeNA fun _ _ _ => pyIterR_ ‹_› mm0 (i_cl (by decide)) (i_cl (by decide)) ?_))))
  intro _
  rotate_left
  rename_i al dl tl _ _ _ it
  refine Cl.pick (by dsimp only [List.nil_append]; exact (pC Rem.head (pC rm4 (pC rm4 (pC rm4 (pC rm3 (pC rm2 (pC rm1 (pS Pick.refl))))))))) (loopR (k := 4) (Inv := fun i Li => ∃ cs ts tops W o_one o_y o_number o_kind o_spot o_word o_expect o_who, Asked i cs ts tops W ∧ Li =
    (p, .ns fo_962.1.scope [("script", o_script), ("nums", some (.con (.ref nl))), ("setup", o_setup), ("opened", o_opened), ("store", o_store), ("machine", o_machine), ("index", o_index), ("who", o_who), ("data", o_data), ("other", o_other), ("twin", o_twin), ("asked", some (.con (.ref al))), ("datas", some (.con (.ref dl))), ("tops", some (.con (.ref tl))), ("one", o_one), ("y", o_y), ("number", o_number), ("kind", o_kind), ("spot", o_spot), ("word", o_word), ("expect", o_expect), ("order", none), ("swaps", none), ("k", none), ("p", none), ("whose", none), ("seats", none), ("rows", none), ("wrote", none), ("at", none), ("sessions", none)]) :: (p + 1, .cell none) ::
        (nl, .list (xs.map .int)) :: (al, .list (refs ts)) :: (dl, .list (cs.map fun c => .bytes (cmdB c))) :: (tl, .list (tops.map .int)) :: (W ++ R)) ?hgo ?turn ?fin 4 0 _ rfl (by decide) ⟨[], [], [1, 1], [], none, none, none, none, none, none, none, o_who, ⟨rfl, rfl, by simp, rfl, by simp, by simp⟩, rfl⟩)
  case hgo => intro i Li v; exact goN_ rfl
  case turn =>
    rintro i Li hi ⟨cs, ts, tops, W, o_one, o_y, o_number, o_kind, o_spot, o_word, o_expect, o_who, hA, rfl⟩ v hv
    have hr1 : Asked i cs ts tops W → (i : Int) < 4 := fun _ => by lia
    have hi4 : (i : Int) < 4 := by lia
    have hi0 : (0 : Int) ≤ i := by lia
    generalize hy : draw xs (1 + (i : Int)) = y
    obtain ⟨tv, t1, t2, t3, t4⟩ := mod_at (l := tops) (y := y) (k := 2) (by decide) (by rw [hA.l]; rfl)
    obtain ⟨sv, s1, s2, _, _⟩ := mod_at (l := ([1, 1, 0, -1] : List Int)) (y := y.fdiv 2) (k := 4) (by decide) rfl
    obtain ⟨kv, k1, k2, _, _⟩ := mod_at (l := ([1, 4, 3, 2, 4, 3, 6, 5, 0] : List Int)) (y := y.fdiv 8) (k := 9) (by decide) rfl
    obtain ⟨ev, e1, e2, _, _⟩ := mod_at (l := ([none, some [97], some [98]] : List (Option (List UInt8)))) (y := y.fdiv 144) (k := 3) (by decide) rfl
    obtain ⟨_, _, _, p3, p4⟩ := mod_at (l := tops) (y := y.fdiv 72) (k := 2) (by decide) (by rw [hA.l]; rfl)
    have hw : y.fmod 2 = 0 ∨ y.fmod 2 = 1 := by lia
    have hp : (y.fdiv 72).fmod 2 = 0 ∨ (y.fdiv 72).fmod 2 = 1 := by lia
    have htv := hA.b tv t2
    have hsv : -1 ≤ sv ∧ sv ≤ 1 := by simp at s2; lia
    have hkv : 0 ≤ kv ∧ kv ≤ 6 := by simp at k2; lia
    have hkv0 := hkv.1
    have hkv6 := hkv.2
    have hev1 : ∀ o, ev = some o → o.length ≤ 1 := by
      intro o e; subst e
      simp at e2
      rcases e2 with rfl | rfl <;> decide
    have hev : ∀ o, ev = some o → o.length < 128 := fun o e => by have := hev1 o e; lia
    have i1 : (tops.map AV.int)[(y.fmod 2).toNat]? = some (.int tv) := by rw [List.getElem?_map, t1]; rfl
    have i2 : (([1, 1, 0, -1] : List Int).map AV.int)[((y.fdiv 2).fmod 4).toNat]? = some (.int sv) := by rw [List.getElem?_map, s1]; rfl
    have i3 : (([1, 4, 3, 2, 4, 3, 6, 5, 0] : List Int).map AV.int)[((y.fdiv 8).fmod 9).toNat]? = some (.int kv) := by rw [List.getElem?_map, k1]; rfl
    have i4 : ([.none, .bytes [97], .bytes [98]] : List AV)[((y.fdiv 144).fmod 3).toNat]? = some (opt ev) := by
      have : (([none, some [97], some [98]] : List (Option (List UInt8))).map opt)[((y.fdiv 144).fmod 3).toNat]? = some (opt ev) := by rw [List.getElem?_map, e1]; rfl
      exact this
    have i5 := cl_at hw
    have i6 := ky_at hp
    have j5 := cl_or hw
    have j6 := ky_len hp
    have d1 : Builtin.divisionGoesByPylong y 2 = false := PyProof.noPylong_small (by decide)
    have d2 : Builtin.divisionGoesByPylong y 8 = false := PyProof.noPylong_small (by decide)
    have d3 : Builtin.divisionGoesByPylong y 72 = false := PyProof.noPylong_small (by decide)
    have d4 : Builtin.divisionGoesByPylong y 144 = false := PyProof.noPylong_small (by decide)
    have hl2 := hA.l
    have ht4 := hA.t
    have hc4 := hA.c
    have m1 : (y.fmod 2) < (tops.length : Int) := by rw [hl2]; exact t4
    have z1 : (refs ts).length ≤ 1000000 := by simp [refs]; lia
    have z2 : (cs.map fun c => AV.bytes (cmdB c)).length ≤ 1000000 := by simp; lia
    subst hy
    refine turn_opq fun KK hKK => ?_
    refine AsgN_ (store_ ‹_› up1 (rpt rp4) ?_)
    refine sAsgC (cF hE (evs1 (evN hE mm1 mm1) (evs1 (evO evI (evN hE mm1 (mmt mm4)) oAdd) evs0)) (CallA.mk fun _ _ => ofCc (k_draw' ‹_› mm3 ‹_› ‹_› (i_cl rfl) (by lia) ?_)))
    refine sSt hE up1 (rpt rp5) (sAsg hE (evO (evN hE mm1 (mmt mm5)) evI (oMod (by lia))) up1 rp7 ?_)
    refine sAsgC (BinOpA (SubXA (Name_ mm1 (mmt mm3) (Name_ mm1 mm7 (itemLA mm6 ‹_› (by lia) ‹_› ?_)))))
    refine SubXA (cF hE evs0 (ofCa (fun _ => k_steps ‹_› ?_)))
    intro _
    refine BinOpA (BinOpA (Name_ mm2 (mmt mm5) (Int_ (divIA (by lia) ‹_› ?_))))
    refine Int_ (modIA (by lia) ?_)
    refine itemLA mm0 ‹_› (i_lt ‹_› (by decide)) ‹_› ?_
    refine addIA (sSt hE up2 (rpt rp6) (sSub (evCB hE (evs1 (evS (evN hE mm2 (mmt mm3)) (evN hE mm2 mm7) (sL mm7 ‹_› (by lia) ‹_› (fun _ _ => rfl))) (evs1 (evN hE mm2 (mmt mm6)) evs0)) fMax) (evN hE mm2 (mmt mm3)) (evN hE mm2 mm7) ?_))
    refine SItA.mk fun _ _ _ _ _ _ => setLi_ ‹_› ‹_› ‹_› mm7 ‹_› ‹_› (by lia) up7 ?_
    refine sAsgC (SubXA (cF hE evs0 (ofCa (fun _ => k_kinds ‹_› ?_))))
    intro _
    refine BinOpA (BinOpA (Name_ mm3 (mmt mm5) (Int_ (divIA (by lia) ‹_› ?_))))
    refine Int_ (modIA (by lia) ?_)
    refine itemLA mm0 ‹_› (i_lt ‹_› (by decide)) ‹_› ?_
    refine sSt hE up3 (rpt rp7) (sAsg hE (evO (evO (evN hE mm3 (mmt mm5)) evI (oDiv (by lia) ‹_›)) evI (oMod (by lia))) up3 (rpt rp8) ?_)
    refine sAsgC (CallTNA (by k_is) (by boot_by_name) ?_ (by kernel_rfl))
    refine ArgsCons_ (xL (evs1 (evO evI (evN hE mm3 (mmt mm4)) oAdd) evs0) (by rfl) (by rfl) ?_)
    intro _
    refine ArgsNil_ (bytesLA mm0 (IntsOf.cons IntsOf.nil) (by simp only [lens, false_implies, implies_true, and_true]; first | done | lia) nle ?_)
    refine sSt hE up4 (rpt rp9) (sAsgC (SubXA (cF hE evs0 (ofCa (fun _ => k_wants ‹_› ?_)))))
    intro _
    refine BinOpA (BinOpA (Name_ mm5 (mmt mm5) (Int_ (divIA (by lia) ‹_› ?_))))
    refine Int_ (modIA (by lia) ?_)
    refine itemLA mm0 ‹_› (i_lt ‹_› (by decide)) ‹_› ?_
    refine sSt hE up5 (rpt (rpt rp0)) (sX hE (MCallA (Name_ mm5 (mmt mm1) (methLA mm8 (CallBA (ArgsCons_ (xT (evs1 (evN hE mm5 mm7) (evs1 (evN hE mm5 (mmt mm6)) (evs1 (evN hE mm5 (mmt mm7)) (evs1 (evN hE mm5 (mmt mm8)) (evs1 (evN hE mm5 (mmt mm9)) (evs1 (evN hE mm5 (mmt (mmt mm0))) evs0)))))) (by rfl) (by rfl) ?_)))))))
    intro _
    refine ArgsNil_ (appendLA up9 ‹_› ?_)
    refine sX hE (MCallA (Name_ mm6 (mmt mm2) (methLA (mmt mm0) (CallBA (ArgsCons_ (MCallA (CallGNA (by k_is) (by intro _; k_is) ?_ (by kernel_rfl))))))))
    refine ArgsCons_ (Name_ mm6 (mmt mm7) (ArgsCons_ (SubXA (cF hE evs0 (ofCa (fun _ => k_clients ‹_› ?_))))))
    intro _
    refine Name_ mm7 mm7 (itemLA mm0 ‹_› (by lia) ‹_› ?_)
    refine ArgsCons_ (Name_ mm7 (mmt mm6) (ArgsCons_ (SubXA (cF hE evs0 (ofCa (fun _ => k_keys ‹_› ?_))))))
    intro _
    refine Name_ mm8 (mmt mm8) (itemLA mm0 ‹_› (i_lt ‹_› (by decide)) ‹_› ?_)
    refine ArgsCons_ (Name_ mm8 (mmt mm9) (ArgsCons_ (Name_ mm8 (mmt (mmt mm0)) (ArgsNil_ (ofCa (fun _ => k_Command ‹_› ?_))))))
    intro _
    refine methIA mm0 (by rfl) (by intro _; exact ⟨by k_is, by k_is, by k_is⟩) ?_
    refine CallWA (by intro _; k_is) ?_
    refine ArgsNil_ (ofCa (fun _ => Cc.pick Pick.refl (k_co_encode (by first | assumption | exact .inl rfl | exact .inr rfl) ‹_› ‹_› (by lia) (by lia) ‹_› nle (by first | assumption | (intro _ e; cases e)) ‹_› ?_)))
    refine ArgsNil_ (appendLA (upt up3) ‹_› ?_)
    refine Nil_ (hideOut ‹_› ?_)
    refine onL_n ?_
    rotate_left
    rename_i t _ _ _ _ _ _ _ _ _ _ _
    refine ⟨_, ?_, cs ++ [⟨(draw xs (1 + (i : Int))).fmod 2, tv + sv, kv, ((draw xs (1 + (i : Int))).fdiv 72).fmod 2, [97 + (i : Int)].map fun k => k.toNat.toUInt8, ev⟩], ts ++ [t], tops.set ((draw xs (1 + (i : Int))).fmod 2).toNat (if tv < tv + sv then tv + sv else tv), cmdT t ⟨(draw xs (1 + (i : Int))).fmod 2, tv + sv, kv, ((draw xs (1 + (i : Int))).fdiv 72).fmod 2, [97 + (i : Int)].map fun k => k.toNat.toUInt8, ev⟩ :: W,
      some (.int i), some (.int (draw xs (1 + (i : Int)))), some (.int (tv + sv)), some (.int kv), some (.int (((draw xs (1 + (i : Int))).fdiv 72).fmod 2)), some (.bytes ([97 + (i : Int)].map fun k => k.toNat.toUInt8)), some (opt ev), some (.int ((draw xs (1 + (i : Int))).fmod 2)),
      hA.snoc ⟨hw, hp, by show 0 ≤ tv + sv; lia, by show tv + sv < 128; lia, hkv0, hkv6, by simp, hev1⟩ (by split <;> lia), rfl⟩
    simp only [refs, List.map_append, List.map_cons, List.map_nil, List.cons_append]
    exact (pC rm8 (pC rm8 (pC rm8 (pC rm8 (pC rm8 (pC rm8 (pC rm8 (pC rm3 (pS (pS (pS (pS (pS (pS (pS Pick.refl)))))))))))))))
  case fin =>
    rintro Li ⟨cs, ts, tops, W, o_one, o_y, o_number, o_kind, o_spot, o_word, o_expect, o_who, hA, rfl⟩
    refine Nil_ (onN_n ?_)
    rotate_left
    exact C.pick (by exact (pC rm0 (pC rm0 (pC rm0 (pC rm0 (pC rm0 (pS Pick.refl))))))) (h _ _ _ _ _ _ _ _ _ _ _ _ _ _ _ hA)
end
end
section
section
variable {G : Gr} {n : Nat} {L : Led}
theorem pow3_ {k : Nat} {v w : Value} {K : AV → Led → Prop} (hv : VR (.int 3) v) (hw : VR (.int (k : Int)) w) (hk : (k : Int) < 5) (h : K (.int (3 ^ k)) L) : Cv G n L (binaryOp .Pow v w) K := by
  refine Mine.C.leaf ?_
  intro A s hA hS
  obtain ⟨t, rfl⟩ := hv
  obtain ⟨u, rfl⟩ := hw
  have hk' : k < 5 := by lia
  rcases k with _ | k
  · exact AutoIntOps.pow_0 (by decide) (by decide) ⟨.int 1, L, ⟨_, rfl⟩, hS.toks _, h⟩
  · refine AutoIntOps.pow_4 (by lia) (by simp; lia) (by decide) (by decide) ?_ ⟨.int (3 ^ (k + 1)), L, ⟨_, rfl⟩, hS.toks _, h⟩
    match k, hk' with
    | 0, _ => decide
    | 1, _ => decide
    | 2, _ => decide
    | 3, _ => decide
end
theorem slice_to {x : List Nat} {a b : Nat} {y : List Nat} {P : Int} (hP : P = x.length) :
    List.take ((some P).elim ((x ++ a :: b :: y).map fun j : Nat => AV.int j).length (clipAt ((x ++ a :: b :: y).map fun j : Nat => AV.int j).length) - (none : Option Int).elim 0 (clipAt ((x ++ a :: b :: y).map fun j : Nat => AV.int j).length)) (List.drop ((none : Option Int).elim 0 (clipAt ((x ++ a :: b :: y).map fun j : Nat => AV.int j).length)) ((x ++ a :: b :: y).map fun j : Nat => AV.int j)) = x.map fun j : Nat => AV.int j := by
  have e : clipAt ((x ++ a :: b :: y).map fun j : Nat => AV.int j).length P = x.length := by
    rw [clip_in (by lia) (by simp; lia)]; lia
  simp only [Option.elim, e, List.drop_zero, Nat.sub_zero]
  rw [← List.map_take, List.take_left]
theorem slice_from {x : List Nat} {a b : Nat} {y : List Nat} {P : Int} (hP : P = x.length) :
    List.take ((none : Option Int).elim ((x ++ a :: b :: y).map fun j : Nat => AV.int j).length (clipAt ((x ++ a :: b :: y).map fun j : Nat => AV.int j).length) - (some (P + 2)).elim 0 (clipAt ((x ++ a :: b :: y).map fun j : Nat => AV.int j).length)) (List.drop ((some (P + 2)).elim 0 (clipAt ((x ++ a :: b :: y).map fun j : Nat => AV.int j).length)) ((x ++ a :: b :: y).map fun j : Nat => AV.int j)) = y.map fun j : Nat => AV.int j := by
  have e : clipAt ((x ++ a :: b :: y).map fun j : Nat => AV.int j).length (P + 2) = x.length + 2 := by
    rw [clip_in (by lia) (by simp; lia)]; lia
  simp only [Option.elim, e]
  rw [← List.map_drop, show (x ++ a :: b :: y).drop (x.length + 2) = y by rw [← List.drop_drop, List.drop_left]; rfl, List.take_of_length_le (by simp; lia)]
noncomputable abbrev slT (P : Int) (L : List AV) : List AV := List.take ((some P).elim L.length (clipAt L.length) - (none : Option Int).elim 0 (clipAt L.length)) (List.drop ((none : Option Int).elim 0 (clipAt L.length)) L)
noncomputable abbrev slF (P : Int) (L : List AV) : List AV := List.take ((none : Option Int).elim L.length (clipAt L.length) - (some P).elim 0 (clipAt L.length)) (List.drop ((some P).elim 0 (clipAt L.length)) L)
structure Hid (p : Prop) : Prop where
  out : p
theorem split_at {l : List Nat} {P : Nat} (h : P + 1 < l.length) : ∃ x a b y, l = x ++ a :: b :: y ∧ x.length = P := by
  refine ⟨l.take P, l[P], l[P + 1], l.drop (P + 2), ?_, by rw [List.length_take]; lia⟩
  rw [← List.drop_eq_getElem_cons, ← List.drop_eq_getElem_cons, List.take_append_drop]
section
variable {G : Gr} {n : Nat} {R : Led} {vs : List Value} {K : Fl → Led → Prop}
theorem law_e {p nl al : Addr} {xs : List Int} {cs : List Cmd} {ts : List Addr} {o_script o_setup o_opened o_store o_machine o_index o_who o_data o_other o_twin o_datas o_tops o_one o_y o_number o_kind o_spot o_word o_expect : Option AV} (hn : 12 ≤ n) (hx1 : 1 ≤ xs.length) (hx6 : xs.length ≤ 6)
    (hc : cs.length = 4) (ht : ts.length = 4) (hm : ∀ (j : Nat) t c, ts[j]? = some t → cs[j]? = some c → cmdT t c ∈ R)
    (h : ∀ rl l o_swaps o_k o_p, Reach (gOf cs) l →
      Cf G n ((p, .ns fo_962.1.scope [("script", o_script), ("nums", some (.con (.ref nl))), ("setup", o_setup), ("opened", o_opened), ("store", o_store), ("machine", o_machine), ("index", o_index), ("who", o_who), ("data", o_data), ("other", o_other), ("twin", o_twin), ("asked", some (.con (.ref al))), ("datas", o_datas), ("tops", o_tops), ("one", o_one), ("y", o_y), ("number", o_number), ("kind", o_kind), ("spot", o_spot), ("word", o_word), ("expect", o_expect), ("order", some (.con (.ref rl))), ("swaps", o_swaps), ("k", o_k), ("p", o_p), ("whose", none), ("seats", none), ("rows", none), ("wrote", none), ("at", none), ("sessions", none)]) :: (p + 1, .cell none) ::
        (nl, .list (xs.map .int)) :: (al, .list (refs ts)) :: (rl, .list (l.map fun j : Nat => AV.int j)) :: R) (execs lawT19 (callEnvC fo_962.1 p 962)) K) :
    Cf G n ((p, .ns fo_962.1.scope [("script", o_script), ("nums", some (.con (.ref nl))), ("setup", o_setup), ("opened", o_opened), ("store", o_store), ("machine", o_machine), ("index", o_index), ("who", o_who), ("data", o_data), ("other", o_other), ("twin", o_twin), ("asked", some (.con (.ref al))), ("datas", o_datas), ("tops", o_tops), ("one", o_one), ("y", o_y), ("number", o_number), ("kind", o_kind), ("spot", o_spot), ("word", o_word), ("expect", o_expect), ("order", none), ("swaps", none), ("k", none), ("p", none), ("whose", none), ("seats", none), ("rows", none), ("wrote", none), ("at", none), ("sessions", none)]) :: (p + 1, .cell none) ::
      (nl, .list (xs.map .int)) :: (al, .list (refs ts)) :: R) (execs lawT16 (callEnvC fo_962.1 p 962)) K := by
  have hE : Fr (callEnvC fo_962.1 p 962) p fo_962.1.scope := fr_962
  rw [lawT_16, lawT_17, lawT_18]
  generalize hE : callEnvC fo_962.1 p 962 = E
  generalize hsc : fo_962.1.scope = sc
  dsimp only [lawS16, lawS17, lawS18, lawT0, lawT1, lawT2, lawT3, lawT4, lawT5, lawT6, lawT7, lawT8, lawT9, lawT10, lawT11, lawT12, lawT13, lawT14, lawT15, lawT16, lawT17, lawT18, h0, tl, stmtsOf, fo_962]
  subst hE hsc
  refine sAsgC (xL (evs1 evI (evs1 evI (evs1 evI (evs1 evI evs0)))) (by rfl) (by rfl) ?_)
  intro _
  refine sSt hE up1 (rpt (rpt rp1)) (sAsgC (cF hE (evs1 (evN hE mm1 mm1) (evs1 evI evs0)) (CallA.mk fun _ _ => ofCc (k_draw' (by with_reducible assumption) mm3 (by with_reducible assumption) (by with_reducible assumption) (i_cl (by decide)) (i_cl (by decide)) ?_))))
  refine sSt hE up1 (rpt (rpt rp2)) (Cons' (For_ (cT hE (evs1 evI evs0) (rangeNA fun _ _ _ => pyIterR_ (by with_reducible assumption) mm0 (i_cl (by decide)) (i_cl (by decide)) ?_))))
  intro _
  rotate_left
  rename_i rl0 _ _ _ _ _ it
  generalize hsw : draw xs 5 = sw
  refine Cl.pick (by exact (pC Rem.head (pC rm2 (pC rm2 (pC rm2 (pC rm2 (pC rm1 (pS Pick.refl)))))))) (loopR (k := 5) (Inv := fun i Li => ∃ rl l o_k o_p, Reach (gOf cs) l ∧ Li =
    (p, .ns fo_962.1.scope [("script", o_script), ("nums", some (.con (.ref nl))), ("setup", o_setup), ("opened", o_opened), ("store", o_store), ("machine", o_machine), ("index", o_index), ("who", o_who), ("data", o_data), ("other", o_other), ("twin", o_twin), ("asked", some (.con (.ref al))), ("datas", o_datas), ("tops", o_tops), ("one", o_one), ("y", o_y), ("number", o_number), ("kind", o_kind), ("spot", o_spot), ("word", o_word), ("expect", o_expect), ("order", some (.con (.ref rl))), ("swaps", some (.int sw)), ("k", o_k), ("p", o_p), ("whose", none), ("seats", none), ("rows", none), ("wrote", none), ("at", none), ("sessions", none)]) :: (p + 1, .cell none) ::
        (nl, .list (xs.map .int)) :: (al, .list (refs ts)) :: (rl, .list (l.map fun j : Nat => AV.int j)) :: R) ?hgo ?turn ?fin 5 0 _ rfl (by decide) ⟨rl0, [0, 1, 2, 3], none, none, .start, rfl⟩)
  case hgo => intro i Li v; exact goN_ rfl
  case turn =>
    rintro i Li hi ⟨rl, l, o_k, o_p, hr, rfl⟩ v hv
    have hi5 : (i : Int) < 5 := by lia
    have d0 : ((3 : Int) ^ i) ≠ 0 := by
      match i, hi with
      | 0, _ => decide
      | 1, _ => decide
      | 2, _ => decide
      | 3, _ => decide
      | 4, _ => decide
    have d1 : Builtin.divisionGoesByPylong sw ((3 : Int) ^ i) = false := by
      match i, hi with
      | 0, _ => exact PyProof.noPylong_small (by decide)
      | 1, _ => exact PyProof.noPylong_small (by decide)
      | 2, _ => exact PyProof.noPylong_small (by decide)
      | 3, _ => exact PyProof.noPylong_small (by decide)
      | 4, _ => exact PyProof.noPylong_small (by decide)
    generalize hP : (sw.fdiv (3 ^ i)).fmod 3 = P
    have p0 : 0 ≤ P := hP ▸ Int.fmod_nonneg_of_pos _ (by decide)
    have p1 : P < 3 := hP ▸ Int.fmod_lt_of_pos _ (by decide)
    have hl4 := reach_len hr
    obtain ⟨x, a, b, y, rfl, hxP⟩ := split_at (l := l) (P := P.toNat) (by lia)
    have hPx : P = x.length := by lia
    have ha4 : a < 4 := reach_lt hr a (by simp)
    have hb4 : b < 4 := reach_lt hr b (by simp)
    have i1 : ((x ++ a :: b :: y).map fun j : Nat => AV.int j)[P.toNat]? = some (.int a) := by rw [← hxP, List.getElem?_map, List.getElem?_append_right (Nat.le_refl _)]; simp
    have i2 : ((x ++ a :: b :: y).map fun j : Nat => AV.int j)[(P + 1).toNat]? = some (.int b) := by
      rw [show (P + 1).toNat = x.length + 1 by lia, List.getElem?_map, List.getElem?_append_right (by lia)]; simp
    have qa : cs[a]? = some (cs[a]'(by lia)) := List.getElem?_eq_getElem _
    have qb : cs[b]? = some (cs[b]'(by lia)) := List.getElem?_eq_getElem _
    have ua : ts[a]? = some (ts[a]'(by lia)) := List.getElem?_eq_getElem _
    have ub : ts[b]? = some (ts[b]'(by lia)) := List.getElem?_eq_getElem _
    generalize cs[a]'(by lia) = ca at qa
    generalize cs[b]'(by lia) = cb at qb
    generalize ts[a]'(by lia) = ta at ua
    generalize ts[b]'(by lia) = tb at ub
    have ma := hm a ta ca ua qa
    have mb := hm b tb cb ub qb
    have i3 : (refs ts)[(a : Int).toNat]? = some (.con (.ref ta)) := by rw [Int.toNat_natCast, List.getElem?_map, ua]; rfl
    have i4 : (refs ts)[(b : Int).toNat]? = some (.con (.ref tb)) := by rw [Int.toNat_natCast, List.getElem?_map, ub]; rfl
    have z1 : ((x ++ a :: b :: y).map fun j : Nat => AV.int j).length ≤ 1000000 := by rw [List.length_map]; lia
    have b1 : (a : Int) < 1000000 := by lia
    have a0 : (0 : Int) ≤ a := by lia
    have a1 : (0 : Int) ≤ b := by lia
    have b2 : (b : Int) < 1000000 := by lia
    have x1 : x.length ≤ 4 := by lia
    have x2 : y.length ≤ 4 := by rw [List.length_append, List.length_cons, List.length_cons] at hl4; lia
    have b3 : P < 1000000 := by lia
    have b4 : P + 1 < 1000000 := by lia
    have b5 : 0 ≤ P + 1 := by lia
    have z3 : Hid ((slT P ((x ++ a :: b :: y).map fun j : Nat => AV.int j)).length + ([.int b, .int a] : List AV).length ≤ 1000000) := ⟨by rw [slT, slice_to hPx]; simp; lia⟩
    have z4 : Hid ((slT P ((x ++ a :: b :: y).map fun j : Nat => AV.int j) ++ ([.int b, .int a] : List AV)).length + (slF (P + 2) ((x ++ a :: b :: y).map fun j : Nat => AV.int j)).length ≤ 1000000) := ⟨by rw [slT, slice_to hPx, slF, slice_from hPx]; simp; lia⟩
    have hfree : freeB ca cb = true → Reach (gOf cs) (x ++ b :: a :: y) := fun e => .swap hr (by rw [gOf_at qa, gOf_at qb]; exact e)
    have hst : ∃ st, st = h0 (tl (forBody lawS18)) := ⟨_, rfl⟩
    obtain ⟨st, hst⟩ := hst
    dsimp only [lawS18, lawT18, lawT17, lawT16, lawT15, lawT14, lawT13, lawT12, lawT11, lawT10, lawT9, lawT8, lawT7, lawT6, lawT5, lawT4, lawT3, lawT2, lawT1, lawT0, h0, tl, forBody, stmtsOf, fo_962] at hst
    rw [← hst]
    refine turn_opq fun KK hKK => ?_
    refine AsgN_ (store_ (by with_reducible assumption) up1 (rpt (rpt rp3)) ?_)
    refine sAsgC (BinOpA (BinOpA (Name_ mm1 (mmt (mmt mm2)) (BinOpA (Int_ (Name_ mm1 (mmt (mmt mm3)) (BinA.mk fun _ _ _ _ => pow3_ (by with_reducible assumption) (by with_reducible assumption) (by with_reducible assumption) ?_)))))))
    refine divIA (by with_reducible assumption) (by with_reducible assumption) ?_
    refine Int_ (modIA (by lia) ?_)
    refine sSt hE up1 (rpt (rpt rp4)) (Cons' ?_)
    rotate_left
    rw [hP, hst]
    clear hP d0 d1
    refine If' (TtValA (cF hE (evs1 (evS (evN hE mm1 (mmt mm1)) (evS (evN hE mm1 (mmt (mmt mm1))) (evN hE mm1 (mmt (mmt mm4))) (sL mm5 (by with_reducible assumption) (by with_reducible assumption) (by with_reducible assumption) (fun _ _ => rfl))) (sL mm4 (by with_reducible assumption) (by with_reducible assumption) (by with_reducible assumption) (fun _ _ => rfl))) (evs1 (evS (evN hE mm1 (mmt mm1)) (evS (evN hE mm1 (mmt (mmt mm1))) (evO (evN hE mm1 (mmt (mmt mm4))) evI oAdd) (sL mm5 (by with_reducible assumption) (by with_reducible assumption) (by with_reducible assumption) (fun _ _ => rfl))) (sL mm4 (by with_reducible assumption) (by with_reducible assumption) (by with_reducible assumption) (fun _ _ => rfl))) evs0)) ?_))
    refine ofCa (fun _ => k_free (by with_reducible assumption) (by (repeat refine List.mem_cons_of_mem _ ?_); assumption) (by (repeat refine List.mem_cons_of_mem _ ?_); assumption) ?_)
    refine truthyA (onB_s (fun _ => ?_) (fun _ => ?_))
    refine sAsgC (BinOpA (BinOpA (SubSliceA (Name_ mm1 (mmt (mmt mm1)) (EvN_ (EvS_ (Name_ mm1 (mmt (mmt mm4)) (sliceLA0 mm5 (by with_reducible assumption) ?_))))))))
    intro _
    refine xL (evs1 (evS (evN hE mm2 (mmt (mmt mm1))) (evO (evN hE mm2 (mmt (mmt mm4))) evI oAdd) (sL mm6 (by with_reducible assumption) (by with_reducible assumption) (by with_reducible assumption) (fun _ _ => rfl))) (evs1 (evS (evN hE mm2 (mmt (mmt mm1))) (evN hE mm2 (mmt (mmt mm4))) (sL mm6 (by with_reducible assumption) (by with_reducible assumption) (by with_reducible assumption) (fun _ _ => rfl))) evs0)) (by rfl) (by rfl) ?_
    intro _
    refine addLA mm1 mm0 (Hid.out (by with_reducible assumption)) ?_
    intro _
    refine SubSliceA (Name_ mm4 (mmt (mmt mm1)) (EvS_ (BinOpA (Name_ mm4 (mmt (mmt mm4)) (Int_ (addIA (EvN_ (sliceLA1 mm8 (by with_reducible assumption) ?_))))))))
    intro _
    refine addLA mm1 mm0 (Hid.out (by with_reducible assumption)) ?_
    intro _
    refine sSt hE up6 (rpt (rpt rp1)) (Nil_ (onN_n (Nil_ (hideOut (by with_reducible assumption) ?_))))
    refine onL_n ?_
    rotate_left
    refine Nil_ (onN_n (Nil_ (hideOut (by with_reducible assumption) ?_)))
    refine onL_n ?_
    rotate_left
    · rename_i rl'
      have e : ((x ++ b :: a :: y).map fun j : Nat => AV.int j) = (x.map fun j : Nat => AV.int j) ++ [.int b, .int a] ++ y.map fun j : Nat => AV.int j := by simp
      rw [slice_to hPx, slice_from hPx]
      refine ⟨_, ?_, rl', x ++ b :: a :: y, some (.int i), some (.int P), hfree ‹_›, rfl⟩
      rw [e]
      exact (pC rm5 (pC rm5 (pC rm5 (pC rm5 (pC rm5 (pC rm0 (pS (pS (pS (pS (pS Pick.refl)))))))))))
    · refine ⟨_, ?_, rl, _, some (.int i), some (.int P), hr, rfl⟩
      exact Pick.refl
  case fin =>
    rintro Li ⟨rl, l, o_k, o_p, hr, rfl⟩
    refine Nil_ (onN_n ?_)
    rotate_left
    exact C.pick (by exact Pick.refl) (h _ _ _ _ _ hr)
end
end
section
section
variable {G : Gr} {n : Nat} {R : Led} {vs : List Value} {K : AV → Led → Prop}
theorem k_judge_tf {la lo : Addr} {cs : List Cmd} {ts : List Addr} (hv : VRs [.con (.ref la), .con (.ref lo)] vs) (hc : cs.length = 4) (ht : ts.length = 4) (hm : ∀ (i : Nat) t c, ts[i]? = some t → cs[i]? = some c → cmdT t c ∈ R)
    (hla : (la, AObj.list (ts.map fun t => .con (.ref t))) ∈ R) (hlo : (lo, AObj.list [.bool true, .bool false]) ∈ R)
    (h : ∀ r wp sp (qs : List (Addr × Int × Int × Bool × Int)) (wh : List Int), wh = (judge cs true false).1 ∧ qs.map (·.2) = (judge cs true false).2 → K (.con (.ref r)) ((r, .tuple [.con (.ref wp), .con (.ref sp)]) :: (wp, .list (wh.map .int)) :: (sp, .list (qs.map fun q => .con (.ref q.1))) :: (qs.map seatE ++ R))) (hn : 1 ≤ n := by fail "mx nn") :
    Cc G n R (.ref 943) ([] ++ vs) K := by
  refine f_943 (by fail "mx nn") ‹_› rfl (fun p hE => ?_)
  refine sAsgC (xL (evs1 evI (evs1 evI (evs1 evI (evs1 evI evs0)))) (by rfl) (by rfl) ?_)
  intro ζ
  refine sSt hE up1 rp2 (sAsgC (xL evs0 (by rfl) (by rfl) ?_))
  intro ζ
  refine sSt hE up2 rp3 (Cons' (For_ (cT hE (evs1 evI evs0) (rangeNA fun ζ ζ ζ => pyIterR_ ‹_› mm0 (i_cl (by decide)) (i_cl (by decide)) ?_))))
  intro ζ
  rotate_left
  refine FstepR (by exact Pick.refl) (by exact (i_cl' (by decide))) ?_
  refine TurnN (sSt hE up4 rp4 (sAsg hE (evNeg evI) up4 rp5 (sAsg hE evT up4 rp6 (sAsg hE evI up4 rp7 (sIf (tvV (evS (evN hE mm4 mm1) (evN hE mm4 mm4) (sL (by (repeat refine List.mem_cons_of_mem _ ?_); assumption) (i_cl (by decide)) (i_cl' (by decide)) rfl (fun ζ ζ => rfl))) rfl) ?_)))))
  refine kT rfl (App.cons (App.cons (App.cons App.nil))) (sAsg hE evI up4 rp5 (sAsg hE evT up4 rp6 (sAsg hE evI up4 rp7 (C.hide fun ζ ζ => Cons' (For_ (cT hE (evs1 evI evs0) (rangeNA fun ζ ζ ζ => pyIterR_ ‹_› mm0 (i_cl (by decide)) (i_cl (by decide)) ?_)))))))
  intro ζ
  rotate_left
  refine judge_inner' hc ht hm hla (by exact (pC rm0 (pC rm5 (pk rm4)))) (by first | exact IntsOf_map | exact (IntsOf.cons (IntsOf.cons (IntsOf.cons (IntsOf.cons IntsOf.nil))))) (by first | rfl | (subst_vars; rw [jrun_len]; rfl)) (by intro q hq; exact (by (repeat refine List.mem_cons_of_mem _ ?_); assumption)) ?_
  intro ζ ζ ζ ζ
  refine onN_n (sIf (tvC (evN hE mm0 mm5) evI cGe) (kB (App.cons App.nil) App.nil (fun ζ => ?_) (fun ζ => ?_)))
  refine sX hE (MCallA (Name_ mm0 mm3 (methLA mm5 (CallBA (ArgsCons_ (xT (evs1 (evN hE mm0 mm4) (evs1 (evN hE mm0 mm5) (evs1 (evN hE mm0 mm6) (evs1 (evN hE mm0 mm7) evs0)))) (by rfl) (by rfl) ?_))))))
  intro ζ
  refine ArgsNil_ (appendLA up6 nle (Nil_ (hideOut ‹_› ?_)))
  refine onL_n ?_
  rotate_left
  refine Nil_ (hideOut ‹_› ?_)
  refine onL_n ?_
  rotate_left
  all_goals refine FstepR (by (first | exact (pk rm4) | exact (pk rm3))) (by exact (i_cl' (by decide))) ?_
  refine TurnN (sSt hE up2 rp4 (sAsg hE (evNeg evI) up2 rp5 (sAsg hE evT up2 rp6 (sAsg hE evI up2 rp7 (sIf (tvV (evS (evN hE mm2 mm1) (evN hE mm2 mm4) (sL (by (repeat refine List.mem_cons_of_mem _ ?_); assumption) (i_cl (by decide)) (i_cl' (by decide)) rfl (fun ζ ζ => rfl))) rfl) ?_)))))
  refine kF rfl App.nil (C.hide fun ζ ζ => Cons' (For_ (cT hE (evs1 evI evs0) (rangeNA fun ζ ζ ζ => pyIterR_ ‹_› mm0 (i_cl (by decide)) (i_cl (by decide)) ?_))))
  intro ζ
  rotate_left
  refine TurnN (sSt hE up1 rp4 (sAsg hE (evNeg evI) up1 rp5 (sAsg hE evT up1 rp6 (sAsg hE evI up1 rp7 (sIf (tvV (evS (evN hE mm1 mm1) (evN hE mm1 mm4) (sL (by (repeat refine List.mem_cons_of_mem _ ?_); assumption) (i_cl (by decide)) (i_cl' (by decide)) rfl (fun ζ ζ => rfl))) rfl) ?_)))))
  refine kF rfl App.nil (C.hide fun ζ ζ => Cons' (For_ (cT hE (evs1 evI evs0) (rangeNA fun ζ ζ ζ => pyIterR_ ‹_› mm0 (i_cl (by decide)) (i_cl (by decide)) ?_))))
  intro ζ
  rotate_left
  all_goals refine judge_inner' hc ht hm hla (by (first | exact (pC rm0 (pC rm3 (pk rm3))) | exact (pC rm0 (pC rm2 (pk rm2))))) (by first | exact IntsOf_map | fail) (by first | rfl | (subst_vars; rw [jrun_len]; rfl)) (by intro q hq; exact (by (repeat refine List.mem_cons_of_mem _ ?_); assumption)) ?_
  intro ζ ζ ζ ζ
  refine onN_n (sIf (tvC (evN hE mm0 mm5) evI cGe) (kB (App.cons App.nil) App.nil (fun ζ => ?_) (fun ζ => ?_)))
  refine sX hE (MCallA (Name_ mm0 mm3 (methLA mm7 (CallBA (ArgsCons_ (xT (evs1 (evN hE mm0 mm4) (evs1 (evN hE mm0 mm5) (evs1 (evN hE mm0 mm6) (evs1 (evN hE mm0 mm7) evs0)))) (by rfl) (by rfl) ?_))))))
  intro ζ
  refine ArgsNil_ (appendLA up8 nle (Nil_ (hideOut ‹_› ?_)))
  refine onL_n ?_
  rotate_left
  refine Nil_ (hideOut ‹_› ?_)
  refine onL_n ?_
  rotate_left
  intro ζ ζ ζ ζ
  refine onN_n (sIf (tvC (evN hE mm0 mm5) evI cGe) (kB (App.cons App.nil) App.nil (fun ζ => ?_) (fun ζ => ?_)))
  refine sX hE (MCallA (Name_ mm0 mm3 (methLA mm6 (CallBA (ArgsCons_ (xT (evs1 (evN hE mm0 mm4) (evs1 (evN hE mm0 mm5) (evs1 (evN hE mm0 mm6) (evs1 (evN hE mm0 mm7) evs0)))) (by rfl) (by rfl) ?_))))))
  intro ζ
  refine ArgsNil_ (appendLA up7 nle (Nil_ (hideOut ‹_› ?_)))
  refine onL_n ?_
  rotate_left
  refine Nil_ (hideOut ‹_› ?_)
  refine onL_n ?_
  rotate_left
  all_goals refine FendR (by (first | exact (pk rm4) | exact (pk rm3))) (by exact (i_cl (by decide))) ?_
  refine Nil_ (onN_n (sRetC (xT (evs1 (evN hE mm1 mm2) (evs1 (evN hE mm1 mm3) evs0)) (by rfl) (by rfl) ?_)))
  intro ζ
  refine kR_ ?_
  rotate_left
  refine Nil_ (onN_n (sRetC (xT (evs1 (evN hE mm0 mm2) (evs1 (evN hE mm0 mm3) evs0)) (by rfl) (by rfl) ?_)))
  intro ζ
  refine kR_ ?_
  rotate_left
  refine Nil_ (onN_n (sRetC (xT (evs1 (evN hE mm1 mm2) (evs1 (evN hE mm1 mm3) evs0)) (by rfl) (by rfl) ?_)))
  intro ζ
  refine kR_ ?_
  rotate_left
  refine Nil_ (onN_n (sRetC (xT (evs1 (evN hE mm0 mm2) (evs1 (evN hE mm0 mm3) evs0)) (by rfl) (by rfl) ?_)))
  intro ζ
  refine kR_ ?_
  rotate_left
  all_goals first
    | exact ⟨_, by dsimp only [List.map, List.cons_append, List.nil_append]; exact (pC rm0 (pC rm2 (pC rm6 (pC rm3 (pC rm0 (pS (pS (pS (pS Pick.refl))))))))), h _ _ _ [(_, 0, _, _, _), (_, 0 + 1, _, _, _)] _ (judge_yy ‹_› ‹_› ‹_› ‹_›)⟩
    | exact ⟨_, by dsimp only [List.map, List.cons_append, List.nil_append]; exact (pC rm0 (pC rm1 (pC rm5 (pC rm2 (pS (pS (pS (pS Pick.refl)))))))), h _ _ _ [(_, 0, _, _, _)] _ (judge_yn ‹_› ‹_› ‹_› ‹_›)⟩
    | exact ⟨_, by dsimp only [List.map, List.cons_append, List.nil_append]; exact (pC rm0 (pC rm2 (pC rm5 (pC rm0 (pS (pS (pS (pS Pick.refl)))))))), h _ _ _ [(_, 0 + 1, _, _, _)] _ (judge_ny ‹_› ‹_› ‹_› ‹_›)⟩
    | exact ⟨_, by dsimp only [List.map, List.cons_append, List.nil_append]; exact (pC rm0 (pC rm1 (pC rm4 (pS (pS (pS (pS Pick.refl))))))), h _ _ _ [] _ (judge_nn ‹_› ‹_› ‹_› ‹_›)⟩
end
end
section
section
variable {G : Gr} {n : Nat} {R : Led} {vs : List Value} {K : AV → Led → Prop}
theorem k_judge_ft {la lo : Addr} {cs : List Cmd} {ts : List Addr} (hv : VRs [.con (.ref la), .con (.ref lo)] vs) (hc : cs.length = 4) (ht : ts.length = 4) (hm : ∀ (i : Nat) t c, ts[i]? = some t → cs[i]? = some c → cmdT t c ∈ R)
    (hla : (la, AObj.list (ts.map fun t => .con (.ref t))) ∈ R) (hlo : (lo, AObj.list [.bool false, .bool true]) ∈ R)
    (h : ∀ r wp sp (qs : List (Addr × Int × Int × Bool × Int)) (wh : List Int), wh = (judge cs false true).1 ∧ qs.map (·.2) = (judge cs false true).2 → K (.con (.ref r)) ((r, .tuple [.con (.ref wp), .con (.ref sp)]) :: (wp, .list (wh.map .int)) :: (sp, .list (qs.map fun q => .con (.ref q.1))) :: (qs.map seatE ++ R))) (hn : 1 ≤ n := by fail "mx nn") :
    Cc G n R (.ref 943) ([] ++ vs) K := by
  refine f_943 (by fail "mx nn") ‹_› rfl (fun p hE => ?_)
  refine sAsgC (xL (evs1 evI (evs1 evI (evs1 evI (evs1 evI evs0)))) (by rfl) (by rfl) ?_)
  intro ζ
  refine sSt hE up1 rp2 (sAsgC (xL evs0 (by rfl) (by rfl) ?_))
  intro ζ
  refine sSt hE up2 rp3 (Cons' (For_ (cT hE (evs1 evI evs0) (rangeNA fun ζ ζ ζ => pyIterR_ ‹_› mm0 (i_cl (by decide)) (i_cl (by decide)) ?_))))
  intro ζ
  rotate_left
  refine FstepR (by exact Pick.refl) (by exact (i_cl' (by decide))) ?_
  refine TurnN (sSt hE up4 rp4 (sAsg hE (evNeg evI) up4 rp5 (sAsg hE evT up4 rp6 (sAsg hE evI up4 rp7 (sIf (tvV (evS (evN hE mm4 mm1) (evN hE mm4 mm4) (sL (by (repeat refine List.mem_cons_of_mem _ ?_); assumption) (i_cl (by decide)) (i_cl' (by decide)) rfl (fun ζ ζ => rfl))) rfl) ?_)))))
  refine kF rfl App.nil (C.hide fun ζ ζ => Cons' (For_ (cT hE (evs1 evI evs0) (rangeNA fun ζ ζ ζ => pyIterR_ ‹_› mm0 (i_cl (by decide)) (i_cl (by decide)) ?_))))
  intro ζ
  rotate_left
  refine judge_inner' hc ht hm hla (by exact (pC rm0 (pC rm5 (pk rm4)))) (by first | exact IntsOf_map | exact (IntsOf.cons (IntsOf.cons (IntsOf.cons (IntsOf.cons IntsOf.nil))))) (by first | rfl | (subst_vars; rw [jrun_len]; rfl)) (by intro q hq; exact (by (repeat refine List.mem_cons_of_mem _ ?_); assumption)) ?_
  intro ζ ζ ζ ζ
  refine onN_n (sIf (tvC (evN hE mm0 mm5) evI cGe) (kB (App.cons App.nil) App.nil (fun ζ => ?_) (fun ζ => ?_)))
  refine sX hE (MCallA (Name_ mm0 mm3 (methLA mm5 (CallBA (ArgsCons_ (xT (evs1 (evN hE mm0 mm4) (evs1 (evN hE mm0 mm5) (evs1 (evN hE mm0 mm6) (evs1 (evN hE mm0 mm7) evs0)))) (by rfl) (by rfl) ?_))))))
  intro ζ
  refine ArgsNil_ (appendLA up6 nle (Nil_ (hideOut ‹_› ?_)))
  refine onL_n ?_
  rotate_left
  refine Nil_ (hideOut ‹_› ?_)
  refine onL_n ?_
  rotate_left
  all_goals refine FstepR (by (first | exact (pk rm4) | exact (pk rm3))) (by exact (i_cl' (by decide))) ?_
  refine TurnN (sSt hE up2 rp4 (sAsg hE (evNeg evI) up2 rp5 (sAsg hE evT up2 rp6 (sAsg hE evI up2 rp7 (sIf (tvV (evS (evN hE mm2 mm1) (evN hE mm2 mm4) (sL (by (repeat refine List.mem_cons_of_mem _ ?_); assumption) (i_cl (by decide)) (i_cl' (by decide)) rfl (fun ζ ζ => rfl))) rfl) ?_)))))
  refine kT rfl (App.cons (App.cons (App.cons App.nil))) (sAsg hE evI up2 rp5 (sAsg hE evT up2 rp6 (sAsg hE evI up2 rp7 (C.hide fun ζ ζ => Cons' (For_ (cT hE (evs1 evI evs0) (rangeNA fun ζ ζ ζ => pyIterR_ ‹_› mm0 (i_cl (by decide)) (i_cl (by decide)) ?_)))))))
  intro ζ
  rotate_left
  refine TurnN (sSt hE up1 rp4 (sAsg hE (evNeg evI) up1 rp5 (sAsg hE evT up1 rp6 (sAsg hE evI up1 rp7 (sIf (tvV (evS (evN hE mm1 mm1) (evN hE mm1 mm4) (sL (by (repeat refine List.mem_cons_of_mem _ ?_); assumption) (i_cl (by decide)) (i_cl' (by decide)) rfl (fun ζ ζ => rfl))) rfl) ?_)))))
  refine kT rfl (App.cons (App.cons (App.cons App.nil))) (sAsg hE evI up1 rp5 (sAsg hE evT up1 rp6 (sAsg hE evI up1 rp7 (C.hide fun ζ ζ => Cons' (For_ (cT hE (evs1 evI evs0) (rangeNA fun ζ ζ ζ => pyIterR_ ‹_› mm0 (i_cl (by decide)) (i_cl (by decide)) ?_)))))))
  intro ζ
  rotate_left
  all_goals refine judge_inner' hc ht hm hla (by (first | exact (pC rm0 (pC rm3 (pk rm3))) | exact (pC rm0 (pC rm2 (pk rm2))))) (by first | exact IntsOf_map | fail) (by first | rfl | (subst_vars; rw [jrun_len]; rfl)) (by intro q hq; exact (by (repeat refine List.mem_cons_of_mem _ ?_); assumption)) ?_
  intro ζ ζ ζ ζ
  refine onN_n (sIf (tvC (evN hE mm0 mm5) evI cGe) (kB (App.cons App.nil) App.nil (fun ζ => ?_) (fun ζ => ?_)))
  refine sX hE (MCallA (Name_ mm0 mm3 (methLA mm7 (CallBA (ArgsCons_ (xT (evs1 (evN hE mm0 mm4) (evs1 (evN hE mm0 mm5) (evs1 (evN hE mm0 mm6) (evs1 (evN hE mm0 mm7) evs0)))) (by rfl) (by rfl) ?_))))))
  intro ζ
  refine ArgsNil_ (appendLA up8 nle (Nil_ (hideOut ‹_› ?_)))
  refine onL_n ?_
  rotate_left
  refine Nil_ (hideOut ‹_› ?_)
  refine onL_n ?_
  rotate_left
  intro ζ ζ ζ ζ
  refine onN_n (sIf (tvC (evN hE mm0 mm5) evI cGe) (kB (App.cons App.nil) App.nil (fun ζ => ?_) (fun ζ => ?_)))
  refine sX hE (MCallA (Name_ mm0 mm3 (methLA mm6 (CallBA (ArgsCons_ (xT (evs1 (evN hE mm0 mm4) (evs1 (evN hE mm0 mm5) (evs1 (evN hE mm0 mm6) (evs1 (evN hE mm0 mm7) evs0)))) (by rfl) (by rfl) ?_))))))
  intro ζ
  refine ArgsNil_ (appendLA up7 nle (Nil_ (hideOut ‹_› ?_)))
  refine onL_n ?_
  rotate_left
  refine Nil_ (hideOut ‹_› ?_)
  refine onL_n ?_
  rotate_left
  all_goals refine FendR (by (first | exact (pk rm4) | exact (pk rm3))) (by exact (i_cl (by decide))) ?_
  refine Nil_ (onN_n (sRetC (xT (evs1 (evN hE mm1 mm2) (evs1 (evN hE mm1 mm3) evs0)) (by rfl) (by rfl) ?_)))
  intro ζ
  refine kR_ ?_
  rotate_left
  refine Nil_ (onN_n (sRetC (xT (evs1 (evN hE mm0 mm2) (evs1 (evN hE mm0 mm3) evs0)) (by rfl) (by rfl) ?_)))
  intro ζ
  refine kR_ ?_
  rotate_left
  refine Nil_ (onN_n (sRetC (xT (evs1 (evN hE mm1 mm2) (evs1 (evN hE mm1 mm3) evs0)) (by rfl) (by rfl) ?_)))
  intro ζ
  refine kR_ ?_
  rotate_left
  refine Nil_ (onN_n (sRetC (xT (evs1 (evN hE mm0 mm2) (evs1 (evN hE mm0 mm3) evs0)) (by rfl) (by rfl) ?_)))
  intro ζ
  refine kR_ ?_
  rotate_left
  all_goals first
    | exact ⟨_, by dsimp only [List.map, List.cons_append, List.nil_append]; exact (pC rm0 (pC rm2 (pC rm6 (pC rm3 (pC rm0 (pS (pS (pS (pS Pick.refl))))))))), h _ _ _ [(_, 0, _, _, _), (_, 0 + 1, _, _, _)] _ (judge_yy ‹_› ‹_› ‹_› ‹_›)⟩
    | exact ⟨_, by dsimp only [List.map, List.cons_append, List.nil_append]; exact (pC rm0 (pC rm1 (pC rm5 (pC rm2 (pS (pS (pS (pS Pick.refl)))))))), h _ _ _ [(_, 0, _, _, _)] _ (judge_yn ‹_› ‹_› ‹_› ‹_›)⟩
    | exact ⟨_, by dsimp only [List.map, List.cons_append, List.nil_append]; exact (pC rm0 (pC rm2 (pC rm5 (pC rm0 (pS (pS (pS (pS Pick.refl)))))))), h _ _ _ [(_, 0 + 1, _, _, _)] _ (judge_ny ‹_› ‹_› ‹_› ‹_›)⟩
    | exact ⟨_, by dsimp only [List.map, List.cons_append, List.nil_append]; exact (pC rm0 (pC rm1 (pC rm4 (pS (pS (pS (pS Pick.refl))))))), h _ _ _ [] _ (judge_nn ‹_› ‹_› ‹_› ‹_›)⟩
end
end
section
theorem Pick.swapL {Q F R : Led} : Pick (F ++ (Q ++ R)) (Q ++ (F ++ R)) := Pick.of (M := []) (by intro a; simp only [cc_app, cc_nil]; lia)
theorem judge_len {cs : List Cmd} {o0 o1 : Bool} : (judge cs o0 o1).1.length = 4 := by
  unfold judge
  dsimp only
  rw [jrun_len, jrun_len]
  rfl
section
variable {G : Gr} {n : Nat} {R : Led} {vs : List Value} {K : AV → Led → Prop}
theorem k_judge {la lo : Addr} {cs : List Cmd} {ts : List Addr} {o0 o1 : Bool} (hv : VRs [.con (.ref la), .con (.ref lo)] vs) (ho : o0 = true ∨ o1 = true) (hc : cs.length = 4) (ht : ts.length = 4) (hm : ∀ (i : Nat) t c, ts[i]? = some t → cs[i]? = some c → cmdT t c ∈ R)
    (hla : (la, AObj.list (refs ts)) ∈ R) (hlo : (lo, AObj.list [.bool o0, .bool o1]) ∈ R)
    (h : ∀ r wp sp (qs : List (Addr × Int × Int × Bool × Int)) (wh : List Int), wh = (judge cs o0 o1).1 ∧ qs.map (·.2) = (judge cs o0 o1).2 → K (.con (.ref r)) ((r, .tuple [.con (.ref wp), .con (.ref sp)]) :: (wp, .list (wh.map .int)) :: (sp, .list (qs.map fun q => .con (.ref q.1))) :: (qs.map seatE ++ R))) (hn : 1 ≤ n := by fail "mx nn") :
    Cc G n R (.ref 943) ([] ++ vs) K := by
  cases o0 <;> cases o1
  · rcases ho with h | h <;> cases h
  · exact k_judge_ft hv hc ht hm hla hlo h hn
  · exact k_judge_tf hv hc ht hm hla hlo h hn
  · exact k_judge_tt hv hc ht hm hla hlo h hn
end
section
variable {G : Gr} {n : Nat} {R : Led} {vs : List Value} {K : Fl → Led → Prop}
theorem law_f {p al ol : Addr} {cs : List Cmd} {ts : List Addr} {o0 o1 : Bool} {o_script o_nums o_setup o_store o_machine o_index o_who o_data o_other o_twin o_datas o_tops o_one o_y o_number o_kind o_spot o_word o_expect o_order o_swaps o_k o_p : Option AV} (hn : 12 ≤ n)
    (hc : cs.length = 4) (ht : ts.length = 4) (hm : ∀ (j : Nat) t c, ts[j]? = some t → cs[j]? = some c → cmdT t c ∈ R) (hcok : ∀ c ∈ cs, CmdOK c) (ho : o0 = true ∨ o1 = true)
    (h : ∀ wp sp tp rp (qs : List (Addr × Int × Int × Bool × Int)) (rq : List (Addr × List UInt8 × List UInt8)), qs.map (·.2) = (judge cs o0 o1).2 → rq.map (·.2) = (fold cs (judge cs o0 o1).1).2.1 →
      Cf G n ((p, .ns fo_962.1.scope [("script", o_script), ("nums", o_nums), ("setup", o_setup), ("opened", some (.con (.ref ol))), ("store", o_store), ("machine", o_machine), ("index", o_index), ("who", o_who), ("data", o_data), ("other", o_other), ("twin", o_twin), ("asked", some (.con (.ref al))), ("datas", o_datas), ("tops", o_tops), ("one", o_one), ("y", o_y), ("number", o_number), ("kind", o_kind), ("spot", o_spot), ("word", o_word), ("expect", o_expect), ("order", o_order), ("swaps", o_swaps), ("k", o_k), ("p", o_p), ("whose", some (.con (.ref wp))), ("seats", some (.con (.ref sp))), ("rows", some (.con (.ref rp))), ("wrote", some (.int (fold cs (judge cs o0 o1).1).2.2)), ("at", none), ("sessions", none)]) ::
        (p + 1, .cell (some (.con (.ref tp)))) :: (wp, .list ((judge cs o0 o1).1.map .int)) :: (sp, .list (qs.map fun q => .con (.ref q.1))) :: (tp, .idict (avs (fold cs (judge cs o0 o1).1).1)) :: (rp, .list (rq.map fun q => .con (.ref q.1))) :: (rq.map rowsE ++ (qs.map seatE ++ R))) (execs lawT21 (callEnvC fo_962.1 p 962)) K) :
    Cf G n ((p, .ns fo_962.1.scope [("script", o_script), ("nums", o_nums), ("setup", o_setup), ("opened", some (.con (.ref ol))), ("store", o_store), ("machine", o_machine), ("index", o_index), ("who", o_who), ("data", o_data), ("other", o_other), ("twin", o_twin), ("asked", some (.con (.ref al))), ("datas", o_datas), ("tops", o_tops), ("one", o_one), ("y", o_y), ("number", o_number), ("kind", o_kind), ("spot", o_spot), ("word", o_word), ("expect", o_expect), ("order", o_order), ("swaps", o_swaps), ("k", o_k), ("p", o_p), ("whose", none), ("seats", none), ("rows", none), ("wrote", none), ("at", none), ("sessions", none)]) :: (p + 1, .cell none) ::
      (al, .list (refs ts)) :: (ol, .list [.bool o0, .bool o1]) :: R) (execs lawT19 (callEnvC fo_962.1 p 962)) K := by
  have hE : Fr (callEnvC fo_962.1 p 962) p fo_962.1.scope := fr_962
  rw [lawT_19, lawT_20]
  generalize hE : callEnvC fo_962.1 p 962 = E
  generalize hsc : fo_962.1.scope = sc
  dsimp only [lawS19, lawS20, lawT0, lawT1, lawT2, lawT3, lawT4, lawT5, lawT6, lawT7, lawT8, lawT9, lawT10, lawT11, lawT12, lawT13, lawT14, lawT15, lawT16, lawT17, lawT18, lawT19, lawT20, h0, tl, stmtsOf, fo_962]
  subst hE hsc
  refine sUnC (cF hE (evs1 (evN hE mm0 (mmt mm1)) (evs1 (evN hE mm0 mm3) evs0)) (CallA.mk ?_))
  intro ζ ζ
  rotate_left
  refine ofCc (k_judge ‹_› ho hc ht (fun j t c h1 h2 => by have q := hm j t c h1 h2; exact (by (repeat refine List.mem_cons_of_mem _ ?_); assumption)) (by exact mm2) (by exact mm3) ?_)
  rintro r wp sp qs wh ⟨rfl, hqs⟩ v hv
  refine C.pick (.cons .head (.cons .head (.cons .head (Pick.swapL (F := [_, _, _, _]))))) ?_
  dsimp only [List.cons_append, List.nil_append, List.append_eq]
  have hm' : ∀ (j : Nat) t c, ts[j]? = some t → cs[j]? = some c → cmdT t c ∈ qs.map seatE ++ R := fun j t c h1 h2 => List.mem_append_right _ (hm j t c h1 h2)
  refine AsgT2 ‹_› mm0 (by rfl) ?_
  intro ζ ζ ζ ζ
  refine AiCons_ (AsgN_ (store_ ‹_› up3 (rpt (rpt rp5)) ?_))
  refine AiCons_ (AsgN_ (store_ ‹_› up3 (rpt (rpt rp6)) ?_))
  refine AiNil_ (sUnC (cF hE (evs1 (evN hE mm3 (mmt mm1)) (evs1 (evN hE mm3 (mmt (mmt mm5))) evs0)) (CallA.mk ?_)))
  intro ζ ζ
  rotate_left
  refine ofCc (k_fold ‹_› hc ht judge_len (fun c hcm => (hcok c hcm).word) (fun j t c h1 h2 => by have q := hm' j t c h1 h2; exact (by (repeat refine List.mem_cons_of_mem _ ?_); assumption)) (by exact mm5) (by exact mm1) ?_)
  rintro r2 tp rp rq told wrote rfl hrq rfl v2 hv2
  refine C.pick (.cons .head (.cons .head (.cons .head (Pick.swapL (F := [_, _, _, _, _, _, _]))))) ?_
  dsimp only [List.cons_append, List.nil_append, List.append_eq]
  refine AsgT3 ‹_› mm0 (by rfl) ?_
  intro ζ ζ ζ ζ ζ ζ
  refine AiCons_ (AsgN_ (cstore_ ‹_› up7 (by kernel_rfl) (by kernel_rfl) (by first | rfl | kernel_rfl) ?_))
  refine AiCons_ (AsgN_ (store_ ‹_› up6 (rpt (rpt rp7)) ?_))
  refine AiCons_ (AsgN_ (store_ ‹_› up6 (rpt (rpt rp8)) ?_))
  refine AiNil_ ?_
  rotate_left
  exact C.pick (by exact (pC rm6 (pC rm6 (pC rm4 (pC rm4 (pC rm1 (pC rm1 (pS (pS (pS (pS Pick.refl))))))))))) (h _ _ _ _ qs rq hqs hrq)
end
end
section
noncomputable abbrev sc2 : Scope := { kind := .function, names := [((".0" : Str), .local), (("who" : Str), .local), (("last" : Str), .local), (("still" : Str), .local), (("latest" : Str), .local), (("_law_clients" : Str), .globalImplicit), (("told" : Str), .free)], isGenerator := false, isCoroutine := false }
theorem compL2 {G : Gr} {n : Nat} {E : Env} {pos : Pos} {elt target iter : Expr} {scope : Scope} {it acc l : Addr} {xs : List AV} {Inv : Nat → List AV → Led → Prop} {K : Fl → Led → Prop}
    (hl : ∀ i ys Li, Inv i ys Li → (l, AObj.list xs) ∈ Li) (hlen : xs.length ≤ 1000)
    (hgo : ∀ i Li v a, a ∈ xs → VR a v → Cu G n ((it, .liter l i) :: Li) (letOwnedTupleGo target (.ref it) v) fun ζ L' => L' = (it, .liter l i) :: Li)
    (turn : ∀ i ys Li a, xs[i]? = some a → ys.length = i → Inv i ys Li → ∀ v, VR a v → Cu G n ((it, .liter l (i + 1)) :: (acc, .list ys) :: Li) (assign target E v) fun ζ L2 => Cv G n L2 (eval elt E) fun b L3 =>
      ∃ Li', Pick ((it, .liter l (i + 1)) :: (acc, .list ys) :: Li') L3 ∧ Inv (i + 1) (ys ++ [b]) Li')
    (fin : ∀ ys Li, Inv xs.length ys Li → K .next ((acc, .list ys) :: Li)) :
    ∀ j i ys Li, xs.length - i = j → i ≤ xs.length → ys.length = i → Inv i ys Li → Cl G n ((it, .liter l i) :: (acc, .list ys) :: Li) (.compLoop (lc elt target iter scope pos) 0 (.ref it) (.ref acc) E) K := by
  intro j
  induction j with
  | zero =>
    intro i ys Li hj hi hy hI
    have hi' : i = xs.length := by lia
    subst hi'
    have hn := nextL_ (G := G) (n := n) (it := it) (i := xs.length) (Li := (acc, .list ys) :: Li) (List.mem_cons_of_mem _ (hl _ _ _ hI))
    rw [List.getElem?_eq_none (Nat.le_refl _)] at hn
    refine CLstep_ (hn.mono fun y L' e => ?_)
    obtain ⟨rfl, rfl⟩ := e
    exact fin _ _ hI
  | succ j ih =>
    intro i ys Li hj hi hy hI
    have hlt : i < xs.length := by lia
    have hx : xs[i]? = some xs[i] := List.getElem?_eq_getElem hlt
    have hn := nextL_ (G := G) (n := n) (it := it) (i := i) (Li := (acc, .list ys) :: Li) (List.mem_cons_of_mem _ (hl _ _ _ hI))
    rw [hx] at hn
    refine CLstep_ (hn.mono fun y L' e => ?_)
    obtain ⟨rfl, rfl⟩ := e
    dsimp only
    intro v hv
    refine (hgo _ _ _ _ (List.mem_of_getElem? hx) hv).mono fun ζ L2 e2 => ?_
    subst e2
    refine (turn i ys Li _ hx hy hI v hv).mono fun ζ L3 k3 => k3.mono fun b L4 k4 x hb => ?_
    obtain ⟨Li', hp, hI'⟩ := k4
    refine C.pick hp ?_
    exact appendL_ (vs := [x]) (.cons hb .nil) (.tail .head) (by lia) (ih (i + 1) (ys ++ [b]) Li' (by lia) hlt (by simp [hy]) hI')
section
variable {G : Gr} {n : Nat} {R : Led} {vs : List Value} {K : Fl → Led → Prop}
noncomputable def sesComp : Expr := match lawS22 with | .Assign _ e _ => e | _ => .Constant .none 0 ⟨0, 0, 0, 0⟩
theorem comp2 {p it acc C l tp : Addr} {T : List (Int × List UInt8)} {qs : List (Addr × Int × Int × Bool × Int)} {D : List (Int × Int × Bool × List UInt8)} (hn : 12 ≤ n) (hl : (l, AObj.list (qs.map fun q => .con (.ref q.1))) ∈ R) (hc : (p + 1, AObj.cell (some (.con (.ref tp)))) ∈ R) (ht : (tp, AObj.idict (avs T)) ∈ R)
    (hq : ∀ q ∈ qs, seatE q ∈ R) (hD : All2 (SeatR T) (qs.map (·.2)) D) (hsz : qs.length ≤ 4)
    (h : ∀ a1 a2 a3 a4 (ds : List (Addr × Int × Int × Bool × List UInt8)) W, ds.map (·.2) = D → (∀ q ∈ ds, quadE q ∈ W) → K .next ((acc, .list (ds.map fun q => .con (.ref q.1))) :: (C, .ns (relabel sc2 (callEnvC fo_962.1 p 962)) [("who", a1), ("last", a2), ("still", a3), ("latest", a4)]) :: (W ++ R))) :
    Cl G n ((it, .liter l 0) :: (acc, .list []) :: (C, .ns (relabel sc2 (callEnvC fo_962.1 p 962)) [("who", none), ("last", none), ("still", none), ("latest", none)]) :: R)
      (.compLoop sesComp 0 (.ref it) (.ref acc) (compEnvC sc2 [(("told" : Str), p + 1)] C (callEnvC fo_962.1 p 962))) K := by
  generalize hE : callEnvC fo_962.1 p 962 = E
  dsimp only [sesComp, lawS22, lawT22, lawT21, lawT20, lawT19, lawT18, lawT17, lawT16, lawT15, lawT14, lawT13, lawT12, lawT11, lawT10, lawT9, lawT8, lawT7, lawT6, lawT5, lawT4, lawT3, lawT2, lawT1, lawT0, h0, tl, stmtsOf, fo_962]
  subst hE
  have hDl : D.length = qs.length := by rw [← all2_len hD, List.length_map]
  refine compL2 (xs := qs.map fun q => .con (.ref q.1)) (Inv := fun i ys Li => ∃ a1 a2 a3 a4 ds W, ds.map (·.2) = D.take i ∧ (∀ q ∈ ds, quadE q ∈ W) ∧ ys = (ds.map fun (q : Addr × Int × Int × Bool × List UInt8) => .con (.ref q.1)) ∧ Li = (C, .ns (relabel sc2 (callEnvC fo_962.1 p 962)) [("who", a1), ("last", a2), ("still", a3), ("latest", a4)]) :: (W ++ R)) ?hlst ?hlen ?hgo ?turn ?fin _ 0 [] _ rfl (Nat.zero_le _) rfl ⟨none, none, none, none, [], [], rfl, by simp, rfl, rfl⟩
  case hlst => rintro i ys Li ⟨a1, a2, a3, a4, ds, W, e1, e2, rfl, rfl⟩; exact List.mem_cons_of_mem _ (List.mem_append_right _ hl)
  case hlen => rw [List.length_map]; lia
  case hgo =>
    intro i Li v a ha hv
    obtain ⟨q, _, rfl⟩ := List.mem_map.mp ha
    exact goL_ hv List.mem_cons_self rfl
  case turn =>
    rintro i ys Li a ha hy ⟨a1, a2, a3, a4, ds, W, e1, e2, rfl, rfl⟩ v hv
    obtain ⟨q, hqi, rfl⟩ : ∃ q, qs[i]? = some q ∧ a = .con (.ref q.1) := by
      rw [List.getElem?_map] at ha
      cases z : qs[i]? with
      | none => rw [z] at ha; cases ha
      | some x => rw [z] at ha; cases ha; exact ⟨x, rfl, rfl⟩
    have hqm := hq q (List.mem_of_getElem? hqi)
    obtain ⟨d, hd, hR⟩ := all2_at hD (i := i) (a := q.2) (by rw [List.getElem?_map, hqi]; rfl)
    obtain ⟨qa, w, la, op, lt⟩ := q
    dsimp only at hR
    cases hR with
    | @mk w la op lt rp hw hT =>
    have m1 : (qa, AObj.tuple [.int w, .int la, .bool op, .int lt]) ∈ W ++ R := List.mem_append_right _ hqm
    have m2 : (p + 1, AObj.cell (some (.con (.ref tp)))) ∈ W ++ R := List.mem_append_right _ hc
    have m3 : (tp, AObj.idict (avs T)) ∈ W ++ R := List.mem_append_right _ ht
    have i5 := cl_at hw
    have w0 : 0 ≤ w := by lia
    have w1 : w < 1000000 := by lia
    have i6 : lookA (avs T) lt = some (.bytes rp) := by rw [lookA_avs, hT]; rfl
    dsimp only at hv
    refine AsgT4 ‹_› (by (repeat refine List.mem_cons_of_mem _ ?_); assumption) (by rfl) ?_
    intro _ _ _ _ _ _ _ _
    refine AiCons_ (AsgN_ (store_ ‹_› up2 rp0 ?_))
    refine AiCons_ (AsgN_ (store_ ‹_› up2 rp1 ?_))
    refine AiCons_ (AsgN_ (store_ ‹_› up2 rp2 ?_))
    refine AiCons_ (AsgN_ (store_ ‹_› up2 rp3 ?_))
    refine AiNil_ (Tuple' ?_ (by decide))
    refine ArgsCons_ (SubXA (CallGNA (by k_is) (by intro _; k_is) ?_ (by kernel_rfl)))
    refine ArgsNil_ (ofCa (fun _ => k_clients ‹_› ?_))
    intro _
    refine Name_ mm3 mm0 (itemLA mm0 ‹_› ‹_› ‹_› ?_)
    refine ArgsCons_ (Name_ mm3 mm1 (ArgsCons_ (Name_ mm3 mm2 (ArgsCons_ (SubXA (NameC_ (by (repeat refine List.mem_cons_of_mem _ ?_); assumption) (by kernel_rfl) (by kernel_rfl) (by first | rfl | kernel_rfl) ?_))))))
    refine Name_ mm3 mm3 (iitemA (by (repeat refine List.mem_cons_of_mem _ ?_); assumption) ‹_› ?_)
    refine ArgsNil_ ?_
    refine ⟨rfl, ?_⟩
    intro _
    rotate_left
    rename_i t
    refine ⟨_, ?_, some (.int w), some (.int la), some (.bool op), some (.int lt), ds ++ [(t, cl w, la, op, rp)], quadE (t, cl w, la, op, rp) :: W, ?_, ?_, ?_, rfl⟩
    · rw [List.cons_append]; exact (pC rm2 (pC rm2 (pC rm2 (pC rm0 (pS Pick.refl)))))
    · rw [List.map_append, e1, List.take_add_one, hd]; rfl
    · intro x hx
      rcases List.mem_append.mp hx with hx | hx
      · exact List.mem_cons_of_mem _ (e2 x hx)
      · rw [List.mem_singleton.mp hx]; exact List.mem_cons_self
    · rw [List.map_append]; rfl
  case fin =>
    rintro ys Li ⟨a1, a2, a3, a4, ds, W, e1, e2, rfl, rfl⟩
    rw [List.length_map, List.take_of_length_le (by lia)] at e1
    exact h _ _ _ _ ds W e1 e2
theorem law_h {p sp tp : Addr} {T : List (Int × List UInt8)} {qs : List (Addr × Int × Int × Bool × Int)} {D : List (Int × Int × Bool × List UInt8)}
    {o_script o_nums o_setup o_opened o_store o_machine o_index o_who o_data o_other o_twin o_asked o_datas o_tops o_one o_y o_number o_kind o_spot o_word o_expect o_order o_swaps o_k o_p o_whose o_rows o_wrote o_at : Option AV} (hn : 12 ≤ n)
    (hq : ∀ q ∈ qs, seatE q ∈ R) (hl : (sp, AObj.list (qs.map fun q => .con (.ref q.1))) ∈ R) (hD : All2 (SeatR T) (qs.map (·.2)) D) (hsz : qs.length ≤ 4)
    (h : ∀ sl (ds : List (Addr × Int × Int × Bool × List UInt8)) W, ds.map (·.2) = D → (∀ q ∈ ds, quadE q ∈ W) →
      Cf G n ((p, .ns fo_962.1.scope [("script", o_script), ("nums", o_nums), ("setup", o_setup), ("opened", o_opened), ("store", o_store), ("machine", o_machine), ("index", o_index), ("who", o_who), ("data", o_data), ("other", o_other), ("twin", o_twin), ("asked", o_asked), ("datas", o_datas), ("tops", o_tops), ("one", o_one), ("y", o_y), ("number", o_number), ("kind", o_kind), ("spot", o_spot), ("word", o_word), ("expect", o_expect), ("order", o_order), ("swaps", o_swaps), ("k", o_k), ("p", o_p), ("whose", o_whose), ("seats", some (.con (.ref sp))), ("rows", o_rows), ("wrote", o_wrote), ("at", o_at), ("sessions", some (.con (.ref sl)))]) ::
        (sl, .list (ds.map fun q => .con (.ref q.1))) :: (W ++ R)) (execs lawT23 (callEnvC fo_962.1 p 962)) K) :
    Cf G n ((p, .ns fo_962.1.scope [("script", o_script), ("nums", o_nums), ("setup", o_setup), ("opened", o_opened), ("store", o_store), ("machine", o_machine), ("index", o_index), ("who", o_who), ("data", o_data), ("other", o_other), ("twin", o_twin), ("asked", o_asked), ("datas", o_datas), ("tops", o_tops), ("one", o_one), ("y", o_y), ("number", o_number), ("kind", o_kind), ("spot", o_spot), ("word", o_word), ("expect", o_expect), ("order", o_order), ("swaps", o_swaps), ("k", o_k), ("p", o_p), ("whose", o_whose), ("seats", some (.con (.ref sp))), ("rows", o_rows), ("wrote", o_wrote), ("at", o_at), ("sessions", none)]) ::
      (p + 1, .cell (some (.con (.ref tp)))) :: (tp, .idict (avs T)) :: R) (execs lawT22 (callEnvC fo_962.1 p 962)) K := by
  have hE : Fr (callEnvC fo_962.1 p 962) p fo_962.1.scope := fr_962
  rw [lawT_22]
  generalize hE : callEnvC fo_962.1 p 962 = E
  generalize hsc : fo_962.1.scope = sc
  dsimp only [lawS22, lawT0, lawT1, lawT2, lawT3, lawT4, lawT5, lawT6, lawT7, lawT8, lawT9, lawT10, lawT11, lawT12, lawT13, lawT14, lawT15, lawT16, lawT17, lawT18, lawT19, lawT20, lawT21, lawT22, h0, tl, stmtsOf, fo_962]
  subst hE hsc
  refine Cons' (AssignC_ (cl := [(("told" : Str), p + 1)]) (names := ["who", "last", "still", "latest"]) ?_ (by kernel_rfl) (by kernel_rfl) (by kernel_rfl) (by kernel_rfl) (by kernel_rfl) (by kernel_rfl) (by decide +kernel))
  refine Name_ mm0 (mmt (mmt mm6)) ?_
  rotate_left
  refine ⟨sp, _, rfl, by exact (by (repeat refine List.mem_cons_of_mem _ ?_); assumption), fun it acc C => ?_⟩
  refine Cl.pick (by exact (pC rm2 (pC rm1 (pC Rem.head Pick.refl)))) (comp2 (tp := tp) (T := T) (qs := qs) (D := D) hn (by exact (by (repeat refine List.mem_cons_of_mem _ ?_); assumption)) (by exact mm1) (by exact mm2) (fun q hqq => by have z := hq q hqq; exact (by (repeat refine List.mem_cons_of_mem _ ?_); assumption)) hD hsz fun a1 a2 a3 a4 ds W e1 e2 => ?_)
  refine ⟨_, _, .cons (.tail .head) .refl, ?_⟩
  refine Mine.C.pick (.cons .head (.cons .head (Pick.swapL (F := [_, _, _])))) ?_
  dsimp only [List.cons_append, List.nil_append, List.append_eq]
  refine store_ (Lf := p) (a := .con (.ref acc)) rfl (by exact up2) (by exact (rpt (rpt (rpt rp0)))) ?_
  refine ⟨_, _, .refl, ?_⟩
  refine onN_n ?_
  rotate_left
  exact Mine.C.pick (by exact (pC rm1 (pC rm0 (pS (pS Pick.refl))))) (h _ ds W e1 e2)
end
end
section
theorem told_rows {L : Led} {m : Nat} : ∀ {rq : List (Addr × List UInt8 × List UInt8)} {rows : List (List UInt8 × List UInt8)}, (∀ q ∈ rq, rowsE q ∈ L) → rq.map (·.2) = rows → All2 (Told L (m + 1)) (rq.map fun q => AV.con (.ref q.1)) (rows.map rowT)
  | [], [], _, _ => .nil
  | [], _ :: _, _, e => by cases e
  | _ :: _, [], _, e => by cases e
  | q :: rq, r :: rows, h, e => by
    rw [List.map_cons, List.cons.injEq] at e
    obtain ⟨rfl, e⟩ := e
    refine .cons (.inr ⟨q.1, [.bytes q.2.1, .bytes q.2.2], _, rfl, rfl, h q List.mem_cons_self, .cons ?_ (.cons ?_ .nil)⟩) (told_rows (fun x hx => h x (List.mem_cons_of_mem _ hx)) e)
    all_goals (cases m <;> first | exact rfl | exact .inl rfl)
theorem told_all {L : Led} {x t1 t2 : Addr} {rq : List (Addr × List UInt8 × List UInt8)} {ds : List (Addr × Int × Int × Bool × List UInt8)} {a t : Int} {M : Mod} (h0 : (x, AObj.tuple [.int a, .int t, .bytes [], .con (.ref t1), .con (.ref t2)]) ∈ L) (h1 : (t1, AObj.tuple (rq.map fun q => .con (.ref q.1))) ∈ L) (h2 : (t2, AObj.tuple (ds.map fun q => .con (.ref q.1))) ∈ L)
    (hr : ∀ q ∈ rq, rowsE q ∈ L) (hd : ∀ q ∈ ds, quadE q ∈ L) (er : rq.map (·.2) = rowD M) (ed : ds.map (·.2) = sesD M) : Told L 3 (.con (.ref x)) (rowTD a t M) :=
  .inr ⟨x, _, _, rfl, rfl, h0, .cons (.inl (show Plain (.int a) (.int a) from rfl)) (.cons (.inl (show Plain (.int t) (.int t) from rfl)) (.cons (.inl (show Plain (.bytes []) (.bytes []) from rfl))
    (.cons (.inr ⟨t1, _, _, rfl, rfl, h1, told_rows hr er⟩) (.cons (.inr ⟨t2, _, _, rfl, rfl, h2, told_quads hd ed⟩) .nil))))⟩
section
variable {G : Gr} {n : Nat} {R : Led} {vs : List Value} {K : Fl → Led → Prop}
theorem law_i {p rp sl m s dn lb m' s' dn' lb' : Addr} {idx d0 d1 k0 k1 LL wr : Int} {es es' : List (List UInt8 × AV)} {M : Mod} {rq : List (Addr × List UInt8 × List UInt8)} {ds : List (Addr × Int × Int × Bool × List UInt8)}
    {o_script o_nums o_setup o_opened o_who o_data o_asked o_datas o_tops o_one o_y o_number o_kind o_spot o_word o_expect o_order o_swaps o_k o_p o_whose o_seats o_at : Option AV} (hn : 12 ≤ n)
    (hr : ∀ q ∈ rq, rowsE q ∈ R) (hd : ∀ q ∈ ds, quadE q ∈ R) (er : rq.map (·.2) = rowD M) (ed : ds.map (·.2) = sesD M) (hS : StoreOK es M) (hS' : StoreOK es' M) (hM : ModOK M 4) (hLL : LL = 2 * idx + 4 + wr) (hz1 : rq.length ≤ 4) (hz2 : ds.length ≤ 4)
    (h : ∀ L, K (.ret (.bool true)) L) :
    Cf G n ((p, .ns fo_962.1.scope [("script", o_script), ("nums", o_nums), ("setup", o_setup), ("opened", o_opened), ("store", some (.con (.ref s))), ("machine", some (.con (.ref m))), ("index", some (.int idx)), ("who", o_who), ("data", o_data), ("other", some (.con (.ref s'))), ("twin", some (.con (.ref m'))), ("asked", o_asked), ("datas", o_datas), ("tops", o_tops), ("one", o_one), ("y", o_y), ("number", o_number), ("kind", o_kind), ("spot", o_spot), ("word", o_word), ("expect", o_expect), ("order", o_order), ("swaps", o_swaps), ("k", o_k), ("p", o_p), ("whose", o_whose), ("seats", o_seats), ("rows", some (.con (.ref rp))), ("wrote", some (.int wr)), ("at", o_at), ("sessions", some (.con (.ref sl)))]) ::
      (sl, .list (ds.map fun q => .con (.ref q.1))) :: (rp, .list (rq.map fun q => .con (.ref q.1))) :: macE m s (idx + 4) 1 d0 :: stoE s dn lb k0 LL :: (dn, .bd es) :: macE m' s' (idx + 4) 1 d1 :: stoE s' dn' lb' k1 LL :: (dn', .bd es') :: R) (execs lawT23 (callEnvC fo_962.1 p 962)) K := by
  have z1 : (rq.map fun q => AV.con (.ref q.1)).length ≤ 1000000 := by rw [List.length_map]; lia
  have z2 : (ds.map fun q => AV.con (.ref q.1)).length ≤ 1000000 := by rw [List.length_map]; lia
  have hm2 : IntMulOk 2 idx := IntMulOk.of_left (by decide)
  have hE : Fr (callEnvC fo_962.1 p 962) p fo_962.1.scope := fr_962
  rw [lawT_23, lawT_24, lawT_25]
  generalize hE : callEnvC fo_962.1 p 962 = E
  generalize hsc : fo_962.1.scope = sc
  dsimp only [lawS23, lawS24, lawS25, lawT0, lawT1, lawT2, lawT3, lawT4, lawT5, lawT6, lawT7, lawT8, lawT9, lawT10, lawT11, lawT12, lawT13, lawT14, lawT15, lawT16, lawT17, lawT18, lawT19, lawT20, lawT21, lawT22, lawT23, lawT24, lawT25, h0, tl, stmtsOf, fo_962]
  subst hE hsc
  refine Cons' (If' (TtCmpA (cM (evN hE mm0 mm5) (gM mm3 rfl) evs0 (CallA.mk ?_))))
  intro ζ ζ
  rotate_left
  refine ofCc (Cc.pick (by exact (pC rm3 (pC rm3 (pk rm3)))) (k_rowM (m := m) (s := s) (dn := dn) (lb := lb) ‹_› hS hM (by decide) ?_))
  intro q1 W1 hT1
  refine C.pick (Pick.swapL (F := [_, _, _, _, _, _, _, _, _])) ?_
  dsimp only [List.cons_append, List.nil_append, List.append_eq]
  have hW1 : ∀ x ∈ W1, x ∈ W1 ++ R := fun x hx => List.mem_append_left _ hx
  have hR1 : ∀ x ∈ R, x ∈ W1 ++ R := fun x hx => List.mem_append_right _ hx
  refine Tuple' ?_ (by decide)
  refine ArgsCons_ (BinOpA (Name_ mm3 mm6 (Int_ (addIA (ArgsCons_ (Int_ (ArgsCons_ (Bytes_ (ArgsCons_ (cT hE (evs1 (evN hE mm3 (mmt (mmt mm7))) evs0) (tupleLA mm5 ‹_› ?_)))))))))))
  intro ζ
  refine ArgsCons_ (cT hE (evs1 (evN hE mm4 (mmt (mmt (mmt mm0)))) evs0) (tupleLA mm5 ‹_› ?_))
  intro ζ
  refine ArgsNil_ ?_
  refine ⟨rfl, ?_⟩
  intro ζ
  refine CmpA.mk ?_
  intro ζ ζ ζ ζ
  rotate_left
  refine neT_ (m := 2) (d := rowTD (idx + 4) 1 M) ‹_› ‹_› (hT1.mono fun x hx => by have z := hW1 x hx; exact (mmt (by (repeat refine List.mem_cons_of_mem _ ?_); assumption)))
    (told_all (by exact mm0) (by exact mm2) (by exact mm1) (fun q hq => by have z := hR1 _ (hr q hq); exact (mmt (by (repeat refine List.mem_cons_of_mem _ ?_); assumption))) (fun q hq => by have z := hR1 _ (hd q hq); exact (mmt (by (repeat refine List.mem_cons_of_mem _ ?_); assumption))) er ed) (by decide) ?_
  refine truthyA (onB_f rfl (Nil_ (onN_n (sIf (tvL (orF (tvC (evA (evN hE mm6 mm4) mm4 mm3 hand_i) (evO (evO (evO evI (evN hE mm6 mm6) (oMul ‹_›)) evI oAdd) (evN hE mm6 (mmt (mmt mm8))) oAdd) cNe) (nqF ‹_›) (orF (tvC (evA (evN hE mm6 mm9) (mmt mm0) mm3 hand_i) (evA (evN hE mm6 mm4) mm4 mm3 hand_i) cNe) (nqF (by lia)) or0))) ?_))))
  refine kF rfl App.nil (sRetC (CompareA (cM (evN hE mm6 (mmt mm0)) (gM mm9 rfl) evs0 (CallA.mk ?_))))
  intro ζ ζ
  rotate_left
  refine ofCc (Cc.pick (by exact (pC rm9 (pC rm9 (pk rm9)))) (k_rowM (m := m') (s := s') (dn := dn') (lb := lb') ‹_› hS' hM (by decide) ?_))
  intro q2 W2 hT2
  refine C.pick (Pick.swapL (F := [_, _, _, _, _, _, _, _, _, _, _, _])) ?_
  dsimp only [List.cons_append, List.nil_append, List.append_eq]
  have hW2 : ∀ x ∈ W2, x ∈ W2 ++ (W1 ++ R) := fun x hx => List.mem_append_left _ hx
  refine cM (evN hE mm9 mm5) (gM mm6 rfl) evs0 (CallA.mk ?_)
  intro ζ ζ
  rotate_left
  refine ofCc (Cc.pick (by exact (pC rm6 (pC rm6 (pk rm6)))) (k_rowM (m := m) (s := s) (dn := dn) (lb := lb) ‹_› hS hM (by decide) ?_))
  intro q3 W3 hT3
  refine CmpA.mk ?_; intro v w hv hw
  refine eqT_ (m := 2) (d := rowTD (idx + 4) 1 M) hv hw (hT2.mono fun x hx => List.mem_append_right _ (by have z := hW2 x hx; exact (mmt (by (repeat refine List.mem_cons_of_mem _ ?_); assumption)))) (hT3.mono fun x hx => List.mem_append_left _ hx) (by decide) ?_
  refine kR_ ?_
  rotate_left
  exact h _
end
end
section
theorem Cc.weak {G : Gr} {n : Nat} {L : Led} {f : Value} {vs : List Value} {K : AV → Led → Prop} (h : Cc G n L f vs fun a L1 => ∃ L2, Pick L2 L1 ∧ K a L2) : Cc G n L f vs K := fun A s hA hS => codeX_mono (h A s hA hS) fun r s' q => by
  rcases r with e | (v | _ | _ | _)
  · exact q
  all_goals first | exact q | (obtain ⟨a, L', h1, h2, L2, h3, h4⟩ := q; exact ⟨a, L2, h1, h2.pick h3, h4⟩)
section
variable {G : Gr} {n : Nat} {R : Led} {vs : List Value} {K : AV → Led → Prop}
theorem k_apply' {m s dn lb ex : Addr} {a t d k l i : Int} {es : List (List UInt8 × AV)} {bs : List AV} {c : Cmd} {M : Mod} {tt : Nat} (hv : VRs [.con (.ref ex), .none] vs) (hc : CmdOK c) (hS : StoreOK es M) (hM : ModOK M tt) (htt : tt ≤ 50) (hi : i = a + 1) (hi0 : 0 ≤ i) (hi1 : i < 128) (hb : bs.length ≤ 50)
    (h : ∀ es' bs', StoreOK es' (mstep c M) → ModOK (mstep c M) (tt + 1) → bs'.length = bs.length + 1 → K (.bytes (coreOf c M).rp) (macE m s i 1 d :: stoE s dn lb k (l + (coreOf c M).rows) :: (dn, .bd es') :: (lb, .list bs') :: R)) (hn : 10 ≤ n := by fail "mx nn") :
    Cc G n (macE m s a t d :: stoE s dn lb k l :: (dn, .bd es) :: (lb, .list bs) :: entE ex 1 i 0 (cmdB c) :: R) (.ref 740) ([.ref m] ++ vs) K :=
  Cc.weak (k_apply hv hc hS hM htt hi hi0 hi1 (by lia) (fun es' bs' R' h1 h2 h3 => ⟨_, .cons .head (.cons .head (.cons .head (.cons .head (Pick.app R')))), h es' bs' h1 h2 h3⟩) hn)
end
section
variable {G : Gr} {n : Nat} {R : Led} {vs : List Value} {K : Fl → Led → Prop}
theorem law_g {p wp sp tp rp rl dl m s dn lb m' s' dn' lb' : Addr} {idx d0 d1 k0 k1 L0 wr : Int} {es es' : List (List UInt8 × AV)} {bs bs' : List AV} {cs : List Cmd} {l : List Nat} {o0 o1 : Bool}
    {o_script o_nums o_setup o_opened o_who o_data o_asked o_tops o_one o_y o_number o_kind o_spot o_word o_expect o_swaps o_k o_p : Option AV} (hn : 12 ≤ n)
    (hc : CsOk cs) (hcok : ∀ c ∈ cs, CmdOK c) (hr : Reach (gOf cs) l) (hS : StoreOK es (mod0 o0 o1)) (hS' : StoreOK es' (mod0 o0 o1)) (hb : bs.length ≤ 10) (hb' : bs'.length ≤ 10) (hx0 : 0 ≤ idx) (hx1 : idx ≤ 2)
    (h : ∀ es es' bs bs' o_at o_one M, M = mst (gOf cs) [0, 1, 2, 3] (mod0 o0 o1) → StoreOK es M → StoreOK es' M → ModOK M 4 →
      Cf G n ((p, .ns fo_962.1.scope [("script", o_script), ("nums", o_nums), ("setup", o_setup), ("opened", o_opened), ("store", some (.con (.ref s))), ("machine", some (.con (.ref m))), ("index", some (.int idx)), ("who", o_who), ("data", o_data), ("other", some (.con (.ref s'))), ("twin", some (.con (.ref m'))), ("asked", o_asked), ("datas", some (.con (.ref dl))), ("tops", o_tops), ("one", o_one), ("y", o_y), ("number", o_number), ("kind", o_kind), ("spot", o_spot), ("word", o_word), ("expect", o_expect), ("order", some (.con (.ref rl))), ("swaps", o_swaps), ("k", o_k), ("p", o_p), ("whose", some (.con (.ref wp))), ("seats", some (.con (.ref sp))), ("rows", some (.con (.ref rp))), ("wrote", some (.int wr)), ("at", o_at), ("sessions", none)]) ::
        (p + 1, .cell (some (.con (.ref tp)))) :: (tp, .idict (avs (fold cs (judge cs o0 o1).1).1)) ::
        macE m s (idx + 4) 1 d0 :: stoE s dn lb k0 (L0 + mro (gOf cs) [0, 1, 2, 3] (mod0 o0 o1)) :: (dn, .bd es) :: (lb, .list bs) :: macE m' s' (idx + 4) 1 d1 :: stoE s' dn' lb' k1 (L0 + mro (gOf cs) [0, 1, 2, 3] (mod0 o0 o1)) :: (dn', .bd es') :: (lb', .list bs') :: R) (execs lawT22 (callEnvC fo_962.1 p 962)) K) :
    Cf G n ((p, .ns fo_962.1.scope [("script", o_script), ("nums", o_nums), ("setup", o_setup), ("opened", o_opened), ("store", some (.con (.ref s))), ("machine", some (.con (.ref m))), ("index", some (.int idx)), ("who", o_who), ("data", o_data), ("other", some (.con (.ref s'))), ("twin", some (.con (.ref m'))), ("asked", o_asked), ("datas", some (.con (.ref dl))), ("tops", o_tops), ("one", o_one), ("y", o_y), ("number", o_number), ("kind", o_kind), ("spot", o_spot), ("word", o_word), ("expect", o_expect), ("order", some (.con (.ref rl))), ("swaps", o_swaps), ("k", o_k), ("p", o_p), ("whose", some (.con (.ref wp))), ("seats", some (.con (.ref sp))), ("rows", some (.con (.ref rp))), ("wrote", some (.int wr)), ("at", none), ("sessions", none)]) ::
      (p + 1, .cell (some (.con (.ref tp)))) :: (wp, .list ((judge cs o0 o1).1.map .int)) :: (tp, .idict (avs (fold cs (judge cs o0 o1).1).1)) :: (rl, .list (l.map fun j : Nat => AV.int j)) :: (dl, .list (cs.map fun c => .bytes (cmdB c))) ::
      macE m s idx 1 d0 :: stoE s dn lb k0 L0 :: (dn, .bd es) :: (lb, .list bs) :: macE m' s' idx 1 d1 :: stoE s' dn' lb' k1 L0 :: (dn', .bd es') :: (lb', .list bs') :: R) (execs lawT21 (callEnvC fo_962.1 p 962)) K := by
  have hE : Fr (callEnvC fo_962.1 p 962) p fo_962.1.scope := fr_962
  rw [lawT_21]
  generalize hE : callEnvC fo_962.1 p 962 = E
  generalize hsc : fo_962.1.scope = sc
  dsimp only [lawS21, lawT0, lawT1, lawT2, lawT3, lawT4, lawT5, lawT6, lawT7, lawT8, lawT9, lawT10, lawT11, lawT12, lawT13, lawT14, lawT15, lawT16, lawT17, lawT18, lawT19, lawT20, lawT21, h0, tl, stmtsOf, fo_962]
  subst hE hsc
  refine Cons' (For_ (cT hE (evs1 evI evs0) (rangeNA fun _ _ _ => pyIterR_ ‹_› mm0 (i_cl (by decide)) (i_cl (by decide)) ?_)))
  intro _
  rotate_left
  rename_i it
  refine Cl.pick (by exact (pC Rem.head (pC rm1 (pC rm1 (pC rm1 (pC rm1 (pC rm1 (pC rm1 (pC rm1 (pC rm1 (pC rm1 (pC rm1 (pC rm1 (pC rm1 (pC rm1 (pC rm1 (pS Pick.refl))))))))))))))))) (loopR (k := 4) (Inv := fun i Li => ∃ es es' bs bs' o_at o_one a1 a2 l1 l2, StoreOK es (mst (gOf cs) (List.range i) (mod0 o0 o1)) ∧ StoreOK es' (mst (gOf cs) (l.take i) (mod0 o0 o1)) ∧ ModOK (mst (gOf cs) (List.range i) (mod0 o0 o1)) i ∧ ModOK (mst (gOf cs) (l.take i) (mod0 o0 o1)) i ∧
      bs.length ≤ 10 + i ∧ bs'.length ≤ 10 + i ∧ a1 = idx + i ∧ a2 = idx + i ∧ l1 = L0 + mro (gOf cs) (List.range i) (mod0 o0 o1) ∧ l2 = L0 + mro (gOf cs) (l.take i) (mod0 o0 o1) ∧ Li =
      (p, .ns fo_962.1.scope [("script", o_script), ("nums", o_nums), ("setup", o_setup), ("opened", o_opened), ("store", some (.con (.ref s))), ("machine", some (.con (.ref m))), ("index", some (.int idx)), ("who", o_who), ("data", o_data), ("other", some (.con (.ref s'))), ("twin", some (.con (.ref m'))), ("asked", o_asked), ("datas", some (.con (.ref dl))), ("tops", o_tops), ("one", o_one), ("y", o_y), ("number", o_number), ("kind", o_kind), ("spot", o_spot), ("word", o_word), ("expect", o_expect), ("order", some (.con (.ref rl))), ("swaps", o_swaps), ("k", o_k), ("p", o_p), ("whose", some (.con (.ref wp))), ("seats", some (.con (.ref sp))), ("rows", some (.con (.ref rp))), ("wrote", some (.int wr)), ("at", o_at), ("sessions", none)]) ::
      (p + 1, .cell (some (.con (.ref tp)))) :: (wp, .list ((judge cs o0 o1).1.map .int)) :: (tp, .idict (avs (fold cs (judge cs o0 o1).1).1)) :: (rl, .list (l.map fun j : Nat => AV.int j)) :: (dl, .list (cs.map fun c => .bytes (cmdB c))) ::
      macE m s a1 1 d0 :: stoE s dn lb k0 l1 :: (dn, .bd es) :: (lb, .list bs) :: macE m' s' a2 1 d1 :: stoE s' dn' lb' k1 l2 :: (dn', .bd es') :: (lb', .list bs') :: R) ?hgo ?turn ?fin 4 0 _ rfl (by decide) ⟨es, es', bs, bs', none, o_one, idx, idx, L0, L0, hS, hS', ModOK.zero _ _, ModOK.zero _ _, by lia, by lia, by lia, by lia, by simp [mro], by simp [mro], rfl⟩)
  case hgo => intro i Li v; exact goN_ rfl
  case turn =>
    rintro i Li hi ⟨es, es', bs, bs', o_at, o_one, a1, a2, l1, l2, hS, hS', hM, hM', hb, hb', e1, e2, e3, e4, rfl⟩ v hv
    have hl4 := reach_len hr
    have hcl := hc.len
    have qi : cs[i]? = some (cs[i]'(by lia)) := List.getElem?_eq_getElem _
    generalize cs[i]'(by lia) = c at qi
    have uj : l[i]? = some (l[i]'(by lia)) := List.getElem?_eq_getElem _
    generalize l[i]'(by lia) = j at uj
    have hj4 : j < 4 := reach_lt hr j (List.mem_of_getElem? uj)
    have qj : cs[j]? = some (cs[j]'(by lia)) := List.getElem?_eq_getElem _
    generalize cs[j]'(by lia) = c2 at qj
    have k1' := hcok c (List.mem_of_getElem? qi)
    have k2' := hcok c2 (List.mem_of_getElem? qj)
    obtain ⟨w1, x1, x2⟩ := inv_told (o0 := o0) (o1 := o1) hc hi
    obtain ⟨w2, y1, y2⟩ := reach_told (o0 := o0) (o1 := o1) hc hr uj
    have s1 := range_succ_mst (g := gOf cs) (i := i) (M := mod0 o0 o1)
    have s2 := mst_succ (g := gOf cs) (M := mod0 o0 o1) uj
    have r1 := range_succ_mro (g := gOf cs) (i := i) (M := mod0 o0 o1)
    have r2 := mro_succ (g := gOf cs) (M := mod0 o0 o1) uj
    rw [gOf_at qi] at x2 s1 r1
    rw [gOf_at qj] at y2 s2 r2
    generalize mst (gOf cs) (List.range i) (mod0 o0 o1) = M1 at hS hM x2 s1 r1
    generalize mst (gOf cs) (l.take i) (mod0 o0 o1) = M2 at hS' hM' y2 s2 r2
    have i1 : (cs.map fun c => AV.bytes (cmdB c))[(i : Int).toNat]? = some (.bytes (cmdB c)) := by rw [Int.toNat_natCast, List.getElem?_map, qi]; rfl
    have i2 : (cs.map fun c => AV.bytes (cmdB c))[(j : Int).toNat]? = some (.bytes (cmdB c2)) := by rw [Int.toNat_natCast, List.getElem?_map, qj]; rfl
    have i3 : ((judge cs o0 o1).1.map AV.int)[(i : Int).toNat]? = some (.int w1) := by rw [Int.toNat_natCast, List.getElem?_map, x1]; rfl
    have i4 : ((judge cs o0 o1).1.map AV.int)[(j : Int).toNat]? = some (.int w2) := by rw [Int.toNat_natCast, List.getElem?_map, y1]; rfl
    have i5 : (l.map fun j : Nat => AV.int j)[(i : Int).toNat]? = some (.int j) := by rw [Int.toNat_natCast, List.getElem?_map, uj]; rfl
    have i6 : lookA (avs (fold cs (judge cs o0 o1).1).1) w1 = some (.bytes (coreOf c M1).rp) := by rw [lookA_avs, x2]; rfl
    have i7 : lookA (avs (fold cs (judge cs o0 o1).1).1) w2 = some (.bytes (coreOf c2 M2).rp) := by rw [lookA_avs, y2]; rfl
    refine AsgN_ (store_ ‹_› up1 (rpt (rpt rp9)) ?_)
    refine C.hide fun _ _ => Cons' (If' (TtCmpA (MCallA (Name_ mm1 mm5 (methIA mm7 (by rfl) (by intro _; exact ⟨by k_is, by k_is, by k_is⟩) ?_)))))
    refine CallWA (by intro _; k_is) ?_
    refine ArgsCons_ (cF hE (evs1 evI (evs1 (evO (evO (evN hE mm1 mm6) evI oAdd) (evN hE mm1 (mmt (mmt mm9))) oAdd) (evs1 evI (evs1 (evS (evN hE mm1 (mmt mm2)) (evN hE mm1 (mmt (mmt mm9))) (sL mm6 c_nn (c_lt ‹_› (by decide)) ‹_› (fun _ _ => rfl))) evs0)))) ?_)
    refine ofCa (fun _ => k_Entry ‹_› ?_)
    intro _
    refine ArgsCons_ (None_ (ArgsNil_ (ofCa (fun _ => Cc.pick (pC rm8 (pC rm8 (pC rm8 (pk rm8)))) (k_apply' ‹_› ‹_› ‹_› ‹_› (by lia) (by lia) (by lia) (by lia) (by lia) ?_)))))
    intro _ _ _ _ _
    refine SubXA (NameC_ mm6 (by kernel_rfl) (by kernel_rfl) (by first | rfl | kernel_rfl) ?_)
    refine SubXA (Name_ mm5 (mmt (mmt mm5)) (Name_ mm5 (mmt (mmt mm9)) (itemLA mm7 c_nn (c_lt ‹_› (by decide)) ‹_› ?_)))
    refine iitemA mm8 ‹_› ?_
    refine neBA (truthyA (onB_f (by simp only [decide_eq_true_eq, decide_eq_false_iff_not, beq_iff_eq, bne_iff_ne, beq_eq_false_iff_ne, bne_eq_false_iff_eq, Bool.not_eq_true', Bool.not_eq_false', ne_eq, ge_iff_le, gt_iff_lt, Option.isSome_some, Option.isSome_none, Option.isNone_some, Option.isNone_none, List.length_cons, List.length_nil]; first | done | lia | assumption) ?_))
    refine Nil_ (onN_n (sAsg hE (evS (evN hE mm5 (mmt (mmt mm1))) (evN hE mm5 (mmt (mmt mm9))) (sL mm9 c_nn (c_lt ‹_› (by decide)) ‹_› (fun _ _ => rfl))) up5 (rpt rp4) ?_))
    refine Cons' (If' (TtCmpA (MCallA (Name_ mm5 (mmt mm0) (methIA (mmt mm1) (by rfl) (by intro _; exact ⟨by k_is, by k_is, by k_is⟩) ?_)))))
    refine CallWA (by intro _; k_is) ?_
    refine ArgsCons_ (cF hE (evs1 evI (evs1 (evO (evO (evN hE mm5 mm6) evI oAdd) (evN hE mm5 (mmt (mmt mm9))) oAdd) (evs1 evI (evs1 (evS (evN hE mm5 (mmt mm2)) (evN hE mm5 (mmt mm4)) (sL (mmt mm0) c_nn (c_lt ‹_› (by decide)) ‹_› (fun _ _ => rfl))) evs0)))) ?_)
    refine ofCa (fun _ => k_Entry ‹_› ?_)
    intro _
    refine ArgsCons_ (None_ (ArgsNil_ (ofCa (fun _ => Cc.pick (pC (rmt rm2) (pC (rmt rm2) (pC (rmt rm2) (pk (rmt rm2))))) (k_apply' ‹_› ‹_› ‹_› ‹_› (by lia) (by lia) (by lia) (by lia) (by lia) ?_)))))
    intro _ _ _ _ _
    refine SubXA (NameC_ (mmt mm0) (by kernel_rfl) (by kernel_rfl) (by first | rfl | kernel_rfl) ?_)
    refine SubXA (Name_ mm9 (mmt (mmt mm5)) (Name_ mm9 (mmt mm4) (itemLA (mmt mm1) c_nn (c_lt ‹_› (by decide)) ‹_› ?_)))
    refine iitemA (mmt mm2) ‹_› ?_
    refine neBA (truthyA (onB_f (by simp only [decide_eq_true_eq, decide_eq_false_iff_not, beq_iff_eq, bne_iff_ne, beq_eq_false_iff_ne, bne_eq_false_iff_eq, Bool.not_eq_true', Bool.not_eq_false', ne_eq, ge_iff_le, gt_iff_lt, Option.isSome_some, Option.isSome_none, Option.isNone_some, Option.isNone_none, List.length_cons, List.length_nil]; first | done | lia | assumption) ?_))
    refine Nil_ (onN_n (Nil_ (hideOut ‹_› ?_)))
    refine onL_n ?_
    rotate_left
    rw [s1, s2, r1, r2]
    exact ⟨_, by exact (pC rm8 (pC rm8 (pC rm8 (pC rm8 (pC rm8 (pC rm8 (pC rm8 (pC rm4 (pC rm4 (pC rm4 (pk rm4))))))))))), _, _, _, _, some (.int i), some (.int j), idx + 1 + i, idx + 1 + i, l1 + (coreOf c M1).rows, l2 + (coreOf c2 M2).rows, by assumption, by assumption, by assumption, by assumption, Nat.le_trans (Nat.le_of_eq ‹_›) (by lia), Nat.le_trans (Nat.le_of_eq ‹_›) (by lia), by lia, by lia, by lia, by lia, rfl⟩
  case fin =>
    rintro Li ⟨es, es', bs, bs', o_at, o_one, a1, a2, l1, l2, hS, hS', hM, hM', hb, hb', e1, e2, e3, e4, rfl⟩
    have q := reach_same hr (mod0 o0 o1)
    rw [show l.take 4 = l from List.take_of_length_le (by rw [reach_len hr]; decide)] at hS' e4
    rw [q.1] at hS'
    rw [q.2.1] at e4
    subst e1 e2 e3 e4
    refine Nil_ (onN_n ?_)
    rotate_left
    exact C.pick (by exact (pC rm0 (pC rm0 (pC rm1 (pC rm3 (pC rm3 (pC rm3 (pC rm3 (pC rm3 (pC rm3 (pC rm3 (pC rm3 (pS (pS (pS Pick.refl))))))))))))))) (h _ _ _ _ _ _ _ rfl hS hS' hM)
end
end
section
theorem Pick.cons2 {a b : Addr × AObj} {L L' : Led} (h : Pick L' L) : Pick (a :: b :: L') (a :: b :: L) := .cons .head (.cons .head h)
section
variable {G : Gr} {n : Nat} {R : Led} {vs : List Value} {K : AV → Led → Prop}
theorem k_open {m s dn lb ex : Addr} {a t d k l c i : Int} {es : List (List UInt8 × AV)} {bs : List AV} (hv : VRs [.con (.ref ex), .none] vs) (hc : c = 5 ∨ c = 300) (hl : lookA es (skey c) = none) (hl2 : lookA es [100] = none) (hi : i = a + 1) (hi0 : 0 ≤ i) (hi1 : i < 128) (he : es.length ≤ 1000) (hb : bs.length ≤ 1000)
    (h : ∀ p t0 t1, K (.bytes [0, 0]) (macE m s i 1 d :: stoE s dn lb k (l + 2) :: (dn, .bd (putA (putA es (skey c) (.bytes (ses 1 true [0, 0]))) [97] (.bytes (app i 1)))) :: (lb, .list (bs ++ [.con (.ref p)])) :: (p, .list [.con (.ref t0), .con (.ref t1)]) :: rowE t0 1 (skey c) (ses 1 true [0, 0]) :: rowE t1 1 [97] (app i 1) :: R)) (hn : 10 ≤ n := by fail "mx nn") :
    Cc G n (macE m s a t d :: stoE s dn lb k l :: (dn, .bd es) :: (lb, .list bs) :: entE ex 1 i 0 (cmd 5 c 1 [] [] none) :: R) (.ref 740) ([.ref m] ++ vs) K :=
  k_ap_o (la := -1) (rp := []) (o := none) (q := [0, 0]) hv hc (.inl ⟨hl, rfl, rfl, rfl⟩) hi hi0 hi1 he hb (by decide) (by decide) (by decide) (by decide) (by decide) (by decide) (by intro o e; cases e) (by decide) hl2 (by intro c e; cases e) (by decide) rfl h hn
theorem k_cut1' {s dn lb p1 t0 t1 : Addr} {l k : Int} {xs : List AV} {L R1 : Led} {k0 v0 k1 v1 : List UInt8} (hv : VRs [.int 0] vs) (hp1 : Pick (stoE s dn lb k l :: (lb, .list xs) :: R1) L) (hk : k = 1) (hx : xs = [.con (.ref p1)]) (hp2 : Pick ((p1, .list [.con (.ref t0), .con (.ref t1)]) :: rowE t0 1 k0 v0 :: rowE t1 1 k1 v1 :: R) R1)
    (h : ∀ s' dn' lb', K (.con (.ref s')) (stoE s' dn' lb' 1 2 :: (dn', .bd (putA (putA [] k0 (.bytes v0)) k1 (.bytes v1))) :: (lb', .list [.con (.ref p1)]) :: stoE s dn lb 1 l :: (lb, .list [.con (.ref p1)]) :: (p1, .list [.con (.ref t0), .con (.ref t1)]) :: rowE t0 1 k0 v0 :: rowE t1 1 k1 v1 :: R)) (hn : 4 ≤ n := by fail "mx nn") :
    Cc G n L (.ref 880) ([.ref s] ++ vs) K := by
  subst hk hx
  exact Cc.pick hp1 (Cc.pick (hp2.cons2) (k_cut1 hv h hn))
theorem k_cut2' {s dn lb p1 p2 t0 t1 t2 t3 : Addr} {l k : Int} {xs : List AV} {L R1 : Led} {k0 v0 k1 v1 k2 v2 k3 v3 : List UInt8} (hv : VRs [.int 0] vs) (hp1 : Pick (stoE s dn lb k l :: (lb, .list xs) :: R1) L) (hk : k = 2) (hx : xs = [.con (.ref p1), .con (.ref p2)])
    (hp2 : Pick ((p1, .list [.con (.ref t0), .con (.ref t1)]) :: rowE t0 1 k0 v0 :: rowE t1 1 k1 v1 :: (p2, .list [.con (.ref t2), .con (.ref t3)]) :: rowE t2 1 k2 v2 :: rowE t3 1 k3 v3 :: R) R1)
    (h : ∀ s' dn' lb', K (.con (.ref s')) (stoE s' dn' lb' 2 4 :: (dn', .bd (putA (putA (putA (putA [] k0 (.bytes v0)) k1 (.bytes v1)) k2 (.bytes v2)) k3 (.bytes v3))) :: (lb', .list [.con (.ref p1), .con (.ref p2)]) :: stoE s dn lb 2 l :: (lb, .list [.con (.ref p1), .con (.ref p2)]) ::
      (p1, .list [.con (.ref t0), .con (.ref t1)]) :: rowE t0 1 k0 v0 :: rowE t1 1 k1 v1 :: (p2, .list [.con (.ref t2), .con (.ref t3)]) :: rowE t2 1 k2 v2 :: rowE t3 1 k3 v3 :: R)) (hn : 4 ≤ n := by fail "mx nn") :
    Cc G n L (.ref 880) ([.ref s] ++ vs) K := by
  subst hk hx
  exact Cc.pick hp1 (Cc.pick (hp2.cons2) (k_cut2 hv h hn))
theorem k_load' {m s dn lb : Addr} {i u l k : Int} {es : List (List UInt8 × AV)} {xs : List AV} (hv : VRs [] vs) (hk : k = xs.length) (hx : xs.length ≤ 1000) (hl : lookA es [97] = some (.bytes (app i u))) (hi0 : 0 ≤ i) (hi1 : i < 128) (hu0 : 0 ≤ u) (hu1 : u < 128)
    (h : ∀ q, K (.con (.ref q)) ((q, .tuple [.int i, .int u, .none]) :: macE m s i u i :: stoE s dn lb k l :: (dn, .bd es) :: (lb, .list xs) :: R)) (hn : 5 ≤ n := by fail "mx nn") :
    Cc G n (macE m s 0 0 0 :: stoE s dn lb k l :: (dn, .bd es) :: (lb, .list xs) :: R) (.ref 712) ([.ref m] ++ vs) K := by
  subst hk
  exact k_load hv hx hi0 hi1 hu0 hu1 hl h hn
end
section
variable {G : Gr} {n : Nat} {R : Led} {vs : List Value} {K : Fl → Led → Prop}
theorem law_b {p nl : Addr} {xs : List Int} {o_script : Option AV} (hn : 12 ≤ n) (hx1 : 1 ≤ xs.length) (hx6 : xs.length ≤ 6)
    (h : ∀ ol (o0 o1 : Bool) o_setup, (o0 = true ∨ o1 = true) → Cf G n ((p, .ns fo_962.1.scope [("script", o_script), ("nums", some (.con (.ref nl))), ("setup", o_setup), ("opened", some (.con (.ref ol))), ("store", none), ("machine", none), ("index", none), ("who", none), ("data", none), ("other", none), ("twin", none), ("asked", none), ("datas", none), ("tops", none), ("one", none), ("y", none), ("number", none), ("kind", none), ("spot", none), ("word", none), ("expect", none), ("order", none), ("swaps", none), ("k", none), ("p", none), ("whose", none), ("seats", none), ("rows", none), ("wrote", none), ("at", none), ("sessions", none)]) :: (p + 1, .cell none) :: (nl, .list (xs.map .int)) :: (ol, .list [.bool o0, .bool o1]) :: R) (execs lawT4 (callEnvC fo_962.1 p 962)) K) :
    Cf G n ((p, .ns fo_962.1.scope [("script", o_script), ("nums", some (.con (.ref nl))), ("setup", none), ("opened", none), ("store", none), ("machine", none), ("index", none), ("who", none), ("data", none), ("other", none), ("twin", none), ("asked", none), ("datas", none), ("tops", none), ("one", none), ("y", none), ("number", none), ("kind", none), ("spot", none), ("word", none), ("expect", none), ("order", none), ("swaps", none), ("k", none), ("p", none), ("whose", none), ("seats", none), ("rows", none), ("wrote", none), ("at", none), ("sessions", none)]) :: (p + 1, .cell none) :: (nl, .list (xs.map .int)) :: R) (execs lawT2 (callEnvC fo_962.1 p 962)) K := by
  have hE : Fr (callEnvC fo_962.1 p 962) p fo_962.1.scope := fr_962
  rw [lawT_2, lawT_3]
  generalize hE : callEnvC fo_962.1 p 962 = E
  generalize hsc : fo_962.1.scope = sc
  dsimp only [lawS2, lawS3, lawT0, lawT1, lawT2, lawT3, h0, tl, stmtsOf, fo_962]
  subst hE hsc
  refine sAsgC (cF hE (evs1 (evN hE mm0 mm1) (evs1 evI evs0)) (CallA.mk fun ζ ζ => ofCc (k_draw' ‹_› mm2 ‹_› ‹_› (i_cl (by decide)) (i_cl (by decide)) ?_)))
  refine sSt hE up0 rp2 (sAsgC (xL (evs1 (evCmp (evO (evN hE mm0 mm2) evI (oMod (by lia))) evI cNe) (evs1 (evCmp (evO (evN hE mm0 mm2) evI (oMod (by lia))) evI cNe) evs0)) (by rfl) (by rfl) ?_))
  intro ζ
  refine sSt hE up1 rp3 ?_
  rotate_left
  refine C.pick (by exact (pC rm1 (pC rm1 (pk rm1)))) (h _ _ _ _ ?_)
  by_cases e : (draw xs 0).fmod 4 = 1
  · right; rw [e]; rfl
  · left; simpa using e
theorem told3 {L : Led} {x : Addr} {a b : Int} (h : (x, AObj.tuple [.int a, .int b, .none]) ∈ L) : Told L 2 (.con (.ref x)) (.tup [.int a, .int b, .none]) :=
  .inr ⟨x, _, _, rfl, rfl, h, .cons (.inl (show Plain (.int a) (.int a) from rfl)) (.cons (.inl (show Plain (.int b) (.int b) from rfl)) (.cons (.inl (show Plain .none .none from rfl)) .nil))⟩
theorem st_tt : StoreOK (putA (putA (putA (putA [] (skey 5) (.bytes (ses 1 true [0, 0]))) [97] (.bytes (app 1 1))) (skey 300) (.bytes (ses 1 true [0, 0]))) [97] (.bytes (app 2 1))) (mod0 true true) := by
  refine ⟨by decide +kernel, by decide +kernel, rfl, rfl, rfl, rfl⟩
theorem law_c_tt {p nl ol : Addr} {xs : List Int} {o_script o_setup : Option AV} (hn : 12 ≤ n)
    (h : ∀ m s dn lb m' s' dn' lb' es es' bs bs' o_who o_data, StoreOK es (mod0 true true) → StoreOK es' (mod0 true true) → bs.length ≤ 10 → bs'.length ≤ 10 →
      Cf G n ((p, .ns fo_962.1.scope [("script", o_script), ("nums", some (.con (.ref nl))), ("setup", o_setup), ("opened", some (.con (.ref ol))), ("store", some (.con (.ref s))), ("machine", some (.con (.ref m))), ("index", some (.int 2)), ("who", o_who), ("data", o_data), ("other", some (.con (.ref s'))), ("twin", some (.con (.ref m'))), ("asked", none), ("datas", none), ("tops", none), ("one", none), ("y", none), ("number", none), ("kind", none), ("spot", none), ("word", none), ("expect", none), ("order", none), ("swaps", none), ("k", none), ("p", none), ("whose", none), ("seats", none), ("rows", none), ("wrote", none), ("at", none), ("sessions", none)]) :: (p + 1, .cell none) :: (nl, .list (xs.map .int)) :: (ol, .list [.bool true, .bool true]) ::
        macE m s 2 1 0 :: stoE s dn lb 2 4 :: (dn, .bd es) :: (lb, .list bs) :: macE m' s' 2 1 2 :: stoE s' dn' lb' 2 4 :: (dn', .bd es') :: (lb', .list bs') :: R) (execs lawT12 (callEnvC fo_962.1 p 962)) K) :
    Cf G n ((p, .ns fo_962.1.scope [("script", o_script), ("nums", some (.con (.ref nl))), ("setup", o_setup), ("opened", some (.con (.ref ol))), ("store", none), ("machine", none), ("index", none), ("who", none), ("data", none), ("other", none), ("twin", none), ("asked", none), ("datas", none), ("tops", none), ("one", none), ("y", none), ("number", none), ("kind", none), ("spot", none), ("word", none), ("expect", none), ("order", none), ("swaps", none), ("k", none), ("p", none), ("whose", none), ("seats", none), ("rows", none), ("wrote", none), ("at", none), ("sessions", none)]) :: (p + 1, .cell none) :: (nl, .list (xs.map .int)) :: (ol, .list [.bool true, .bool true]) :: R) (execs lawT4 (callEnvC fo_962.1 p 962)) K := by
  have hE : Fr (callEnvC fo_962.1 p 962) p fo_962.1.scope := fr_962
  rw [lawT_4, lawT_5, lawT_6, lawT_7, lawT_8, lawT_9, lawT_10, lawT_11]
  generalize hE : callEnvC fo_962.1 p 962 = E
  generalize hsc : fo_962.1.scope = sc
  dsimp only [lawS4, lawS5, lawS6, lawS7, lawS8, lawS9, lawS10, lawS11, lawT0, lawT1, lawT2, lawT3, lawT4, lawT5, lawT6, lawT7, lawT8, lawT9, lawT10, lawT11, h0, tl, stmtsOf, fo_962]
  subst hE hsc
  refine sAsgC (cF hE evs0 (ofCa (fun ζ => k_MemStore ‹_› ?_)))
  intro ζ ζ ζ
  refine sSt hE up3 rp4 (sAsgC (cF hE (evs1 (evN hE mm3 mm4) evs0) (ofCa (fun ζ => k_Machine ‹_› ?_))))
  intro ζ
  refine sSt hE up4 rp5 (sAsg hE evI up4 rp6 (Cons' (For_ (cT hE (evs1 evI evs0) (rangeNA fun ζ ζ ζ => pyIterR_ ‹_› mm0 (i_cl (by decide)) (i_cl (by decide)) ?_)))))
  intro ζ
  refine FstepR (pk rm0) (i_cl' (by decide)) ?_
  refine TurnN (sSt hE up6 rp7 (sIf (tvV (evS (evN hE mm6 mm3) (evN hE mm6 mm7) (sL mm9 (i_cl (by decide)) (i_cl' (by decide)) rfl (fun ζ ζ => rfl))) rfl) ?_))
  refine kT rfl (App.cons (App.cons (App.cons App.nil))) (sAug hE mm6 mm6 evI iAdd up6 rp6 (sAsgC (MCallA (CallGNA (by k_is) (by intro ζ; k_is) ?_ (by kernel_rfl)))))
  refine ArgsCons_ (Int_ (ArgsCons_ (SubXA (cF hE evs0 (ofCa (fun ζ => k_clients ‹_› ?_))))))
  intro ζ
  refine Name_ mm7 mm7 (itemLA mm0 (i_cl (by decide)) (i_cl' (by decide)) rfl ?_)
  refine ArgsCons_ (Int_ (ArgsCons_ (Bytes_ (ArgsCons_ (Bytes_ (ArgsCons_ (None_ (ArgsNil_ (ofCa (fun ζ => k_Command (e := none) ‹_› ?_))))))))))
  intro ζ
  refine methIA mm0 (by rfl) (by intro ζ; exact ⟨by k_is, by k_is, by k_is⟩) ?_
  refine CallWA (by intro ζ; k_is) ?_
  refine ArgsNil_ (ofCa (fun ζ => Cc.pick Pick.refl (k_co_encode (by first | assumption | exact .inl rfl | exact .inr rfl) (i_cl (by decide)) (i_cl (by decide)) (i_cl (by decide)) (i_cl' (by decide)) nle nle (by first | assumption | (intro ζ e; cases e)) ‹_› ?_)))
  refine sSt hE up8 rp8 (C.hide fun ζ ζ => Cons' (If' (TtCmpA (MCallA (Name_ mm8 mm5 (methIA mm4 (by rfl) (by intro ζ; exact ⟨by k_is, by k_is, by k_is⟩) ?_))))))
  refine CallWA (by intro ζ; k_is) ?_
  refine ArgsCons_ (cF hE (evs1 evI (evs1 (evN hE mm8 mm6) (evs1 evI (evs1 (evN hE mm8 mm8) evs0)))) (ofCa (fun ζ => k_Entry ‹_› ?_)))
  intro ζ
  refine ArgsCons_ (None_ (ArgsNil_ (ofCa (fun ζ => Cc.pick (pC rm5 (pC rm5 (pC rm5 (pk rm5)))) (k_open ‹_› (by first | exact .inl rfl | exact .inr rfl) (by first | exact rfl | (rw [lookA_put, if_neg (by decide), lookA_put, if_neg (by decide)]; exact rfl)) (by first | exact rfl | (rw [lookA_put, if_neg (by decide), lookA_put, if_neg (by decide)]; exact rfl)) (by lia) (i_cl (by decide)) (i_cl' (by decide)) (by first | exact Nat.le_of_ble_eq_true rfl | decide +kernel) nle ?_)))))
  intro ζ ζ ζ
  refine Bytes_ (neBA (truthyA (onB_f (by decide) ?_)))
  refine Nil_ (onN_n (Nil_ (hideOut ‹_› ?_)))
  refine onL_n (FstepR (pk rm9) (i_cl' (by decide)) ?_)
  refine TurnN (sSt hE (upt up1) rp7 (sIf (tvV (evS (evN hE (mmt mm1) mm3) (evN hE (mmt mm1) mm7) (sL (mmt mm4) (i_cl (by decide)) (i_cl' (by decide)) rfl (fun ζ ζ => rfl))) rfl) ?_))
  refine kT rfl (App.cons (App.cons (App.cons App.nil))) (sAug hE (mmt mm1) mm6 evI iAdd (upt up1) rp6 (sAsgC (MCallA (CallGNA (by k_is) (by intro ζ; k_is) ?_ (by kernel_rfl)))))
  refine ArgsCons_ (Int_ (ArgsCons_ (SubXA (cF hE evs0 (ofCa (fun ζ => k_clients ‹_› ?_))))))
  intro ζ
  refine Name_ (mmt mm2) mm7 (itemLA mm0 (i_cl (by decide)) (i_cl' (by decide)) rfl ?_)
  refine ArgsCons_ (Int_ (ArgsCons_ (Bytes_ (ArgsCons_ (Bytes_ (ArgsCons_ (None_ (ArgsNil_ (ofCa (fun ζ => k_Command (e := none) ‹_› ?_))))))))))
  intro ζ
  refine methIA mm0 (by rfl) (by intro ζ; exact ⟨by k_is, by k_is, by k_is⟩) ?_
  refine CallWA (by intro ζ; k_is) ?_
  refine ArgsNil_ (ofCa (fun ζ => Cc.pick Pick.refl (k_co_encode (by first | assumption | exact .inl rfl | exact .inr rfl) (i_cl (by decide)) (i_cl (by decide)) (i_cl (by decide)) (i_cl' (by decide)) nle nle (by first | assumption | (intro ζ e; cases e)) ‹_› ?_)))
  refine sSt hE (upt up3) rp8 (C.hide fun ζ ζ => Cons' (If' (TtCmpA (MCallA (Name_ (mmt mm3) mm5 (methIA mm3 (by rfl) (by intro ζ; exact ⟨by k_is, by k_is, by k_is⟩) ?_))))))
  refine CallWA (by intro ζ; k_is) ?_
  refine ArgsCons_ (cF hE (evs1 evI (evs1 (evN hE (mmt mm3) mm6) (evs1 evI (evs1 (evN hE (mmt mm3) mm8) evs0)))) (ofCa (fun ζ => k_Entry ‹_› ?_)))
  intro ζ
  refine ArgsCons_ (None_ (ArgsNil_ (ofCa (fun ζ => Cc.pick (pC rm4 (pC rm4 (pC rm4 (pk rm4)))) (k_open ‹_› (by first | exact .inl rfl | exact .inr rfl) (by first | exact rfl | (rw [lookA_put, if_neg (by decide), lookA_put, if_neg (by decide)]; exact rfl)) (by first | exact rfl | (rw [lookA_put, if_neg (by decide), lookA_put, if_neg (by decide)]; exact rfl)) (by lia) (i_cl (by decide)) (i_cl' (by decide)) (by first | exact Nat.le_of_ble_eq_true rfl | decide +kernel) nle ?_)))))
  intro ζ ζ ζ
  refine Bytes_ (neBA (truthyA (onB_f (by decide) ?_)))
  refine Nil_ (onN_n (Nil_ (hideOut ‹_› ?_)))
  refine onL_n (FendR (pk rm9) (i_cl (by decide)) ?_)
  refine Nil_ (onN_n (sX hE (cM (evN hE (mmt mm5) mm4) (gM mm1 rfl) evs0 (ofCa (fun ζ => Cc.pick (pC rm1 (pk rm2)) (k_ms_sync ‹_› nle ?_))))))
  refine sAsgC (cM (evN hE (mmt mm5) mm4) (gM mm0 rfl) (evs1 evI evs0) (ofCa (fun ζ => k_cut2' ‹_› Pick.refl (by simp only [lens, false_implies, implies_true, and_true]; first | done | lia) (by rfl) (pC rm7 (pC rm7 (pC rm7 (pC rm2 (pC rm2 (pk rm2)))))) ?_)))
  intro ζ ζ ζ
  refine sSt hE (upt up8) rp9 (sAsgC (cF hE (evs1 (evN hE (mmt mm8) mm9) evs0) (ofCa (fun ζ => k_Machine ‹_› ?_))))
  intro ζ
  refine sSt hE (upt up9) (rpt rp0) (Cons' (If' (TtCmpA (cM (evN hE (mmt mm9) (mmt mm0)) (gM mm0 rfl) evs0 (ofCa (fun ζ => Cc.pick Pick.refl (k_load' ‹_› (by simp only [lens, false_implies, implies_true, and_true]; first | done | lia) nle (by exact lookA_put.trans (if_pos rfl)) (i_cl (by decide)) (i_cl' (by decide)) (i_cl (by decide)) (i_cl' (by decide)) ?_)))))))
  intro ζ
  refine xT (evs1 (evN hE (mmt (mmt mm0)) mm6) (evs1 evI (evs1 evZ evs0))) (by rfl) (by rfl) ?_
  intro ζ
  refine CmpA.mk ?_
  intro ζ ζ ζ ζ
  rotate_left
  refine neT_ (d := .tup [.int (0 + 1 + 1), .int 1, .none]) (m := 1) ‹_› ‹_› (told3 (by exact mm1)) (told3 (by exact mm0)) (by decide) ?_
  refine truthyA (onB_f rfl (Nil_ (onN_n ?_)))
  rotate_left
  exact C.pick (by exact (pC (rmt (rmt rm1)) (pC (rmt (rmt rm1)) (pC (rmt (rmt rm1)) (pC (rmt (rmt rm1)) (pC (rmt rm4) (pC rm6 (pC (rmt rm3) (pC rm6 (pC rm2 (pC rm2 (pC rm2 (pC rm2 (pS (pS (pS (pS (pS (pS (pS (pS (pS (pS (pS (pS (pS Pick.refl)))))))))))))))))))))))))) (h _ _ _ _ _ _ _ _ _ _ _ _ _ _ st_tt st_tt nle nle)
theorem st_tf : StoreOK (putA (putA [] (skey 5) (.bytes (ses 1 true [0, 0]))) [97] (.bytes (app 1 1))) (mod0 true false) := by
  refine ⟨by decide +kernel, by decide +kernel, rfl, rfl, rfl, rfl⟩
theorem law_c_tf {p nl ol : Addr} {xs : List Int} {o_script o_setup : Option AV} (hn : 12 ≤ n)
    (h : ∀ m s dn lb m' s' dn' lb' es es' bs bs' o_who o_data, StoreOK es (mod0 true false) → StoreOK es' (mod0 true false) → bs.length ≤ 10 → bs'.length ≤ 10 →
      Cf G n ((p, .ns fo_962.1.scope [("script", o_script), ("nums", some (.con (.ref nl))), ("setup", o_setup), ("opened", some (.con (.ref ol))), ("store", some (.con (.ref s))), ("machine", some (.con (.ref m))), ("index", some (.int 1)), ("who", o_who), ("data", o_data), ("other", some (.con (.ref s'))), ("twin", some (.con (.ref m'))), ("asked", none), ("datas", none), ("tops", none), ("one", none), ("y", none), ("number", none), ("kind", none), ("spot", none), ("word", none), ("expect", none), ("order", none), ("swaps", none), ("k", none), ("p", none), ("whose", none), ("seats", none), ("rows", none), ("wrote", none), ("at", none), ("sessions", none)]) :: (p + 1, .cell none) :: (nl, .list (xs.map .int)) :: (ol, .list [.bool true, .bool false]) ::
        macE m s 1 1 0 :: stoE s dn lb 1 2 :: (dn, .bd es) :: (lb, .list bs) :: macE m' s' 1 1 1 :: stoE s' dn' lb' 1 2 :: (dn', .bd es') :: (lb', .list bs') :: R) (execs lawT12 (callEnvC fo_962.1 p 962)) K) :
    Cf G n ((p, .ns fo_962.1.scope [("script", o_script), ("nums", some (.con (.ref nl))), ("setup", o_setup), ("opened", some (.con (.ref ol))), ("store", none), ("machine", none), ("index", none), ("who", none), ("data", none), ("other", none), ("twin", none), ("asked", none), ("datas", none), ("tops", none), ("one", none), ("y", none), ("number", none), ("kind", none), ("spot", none), ("word", none), ("expect", none), ("order", none), ("swaps", none), ("k", none), ("p", none), ("whose", none), ("seats", none), ("rows", none), ("wrote", none), ("at", none), ("sessions", none)]) :: (p + 1, .cell none) :: (nl, .list (xs.map .int)) :: (ol, .list [.bool true, .bool false]) :: R) (execs lawT4 (callEnvC fo_962.1 p 962)) K := by
  have hE : Fr (callEnvC fo_962.1 p 962) p fo_962.1.scope := fr_962
  rw [lawT_4, lawT_5, lawT_6, lawT_7, lawT_8, lawT_9, lawT_10, lawT_11]
  generalize hE : callEnvC fo_962.1 p 962 = E
  generalize hsc : fo_962.1.scope = sc
  dsimp only [lawS4, lawS5, lawS6, lawS7, lawS8, lawS9, lawS10, lawS11, lawT0, lawT1, lawT2, lawT3, lawT4, lawT5, lawT6, lawT7, lawT8, lawT9, lawT10, lawT11, h0, tl, stmtsOf, fo_962]
  subst hE hsc
  refine sAsgC (cF hE evs0 (ofCa (fun ζ => k_MemStore ‹_› ?_)))
  intro ζ ζ ζ
  refine sSt hE up3 rp4 (sAsgC (cF hE (evs1 (evN hE mm3 mm4) evs0) (ofCa (fun ζ => k_Machine ‹_› ?_))))
  intro ζ
  refine sSt hE up4 rp5 (sAsg hE evI up4 rp6 (Cons' (For_ (cT hE (evs1 evI evs0) (rangeNA fun ζ ζ ζ => pyIterR_ ‹_› mm0 (i_cl (by decide)) (i_cl (by decide)) ?_)))))
  intro ζ
  refine FstepR (pk rm0) (i_cl' (by decide)) ?_
  refine TurnN (sSt hE up6 rp7 (sIf (tvV (evS (evN hE mm6 mm3) (evN hE mm6 mm7) (sL mm9 (i_cl (by decide)) (i_cl' (by decide)) rfl (fun ζ ζ => rfl))) rfl) ?_))
  refine kT rfl (App.cons (App.cons (App.cons App.nil))) (sAug hE mm6 mm6 evI iAdd up6 rp6 (sAsgC (MCallA (CallGNA (by k_is) (by intro ζ; k_is) ?_ (by kernel_rfl)))))
  refine ArgsCons_ (Int_ (ArgsCons_ (SubXA (cF hE evs0 (ofCa (fun ζ => k_clients ‹_› ?_))))))
  intro ζ
  refine Name_ mm7 mm7 (itemLA mm0 (i_cl (by decide)) (i_cl' (by decide)) rfl ?_)
  refine ArgsCons_ (Int_ (ArgsCons_ (Bytes_ (ArgsCons_ (Bytes_ (ArgsCons_ (None_ (ArgsNil_ (ofCa (fun ζ => k_Command (e := none) ‹_› ?_))))))))))
  intro ζ
  refine methIA mm0 (by rfl) (by intro ζ; exact ⟨by k_is, by k_is, by k_is⟩) ?_
  refine CallWA (by intro ζ; k_is) ?_
  refine ArgsNil_ (ofCa (fun ζ => Cc.pick Pick.refl (k_co_encode (by first | assumption | exact .inl rfl | exact .inr rfl) (i_cl (by decide)) (i_cl (by decide)) (i_cl (by decide)) (i_cl' (by decide)) nle nle (by first | assumption | (intro ζ e; cases e)) ‹_› ?_)))
  refine sSt hE up8 rp8 (C.hide fun ζ ζ => Cons' (If' (TtCmpA (MCallA (Name_ mm8 mm5 (methIA mm4 (by rfl) (by intro ζ; exact ⟨by k_is, by k_is, by k_is⟩) ?_))))))
  refine CallWA (by intro ζ; k_is) ?_
  refine ArgsCons_ (cF hE (evs1 evI (evs1 (evN hE mm8 mm6) (evs1 evI (evs1 (evN hE mm8 mm8) evs0)))) (ofCa (fun ζ => k_Entry ‹_› ?_)))
  intro ζ
  refine ArgsCons_ (None_ (ArgsNil_ (ofCa (fun ζ => Cc.pick (pC rm5 (pC rm5 (pC rm5 (pk rm5)))) (k_open ‹_› (by first | exact .inl rfl | exact .inr rfl) (by first | exact rfl | (rw [lookA_put, if_neg (by decide), lookA_put, if_neg (by decide)]; exact rfl)) (by first | exact rfl | (rw [lookA_put, if_neg (by decide), lookA_put, if_neg (by decide)]; exact rfl)) (by lia) (i_cl (by decide)) (i_cl' (by decide)) (by first | exact Nat.le_of_ble_eq_true rfl | decide +kernel) nle ?_)))))
  intro ζ ζ ζ
  refine Bytes_ (neBA (truthyA (onB_f (by decide) ?_)))
  refine Nil_ (onN_n (Nil_ (hideOut ‹_› ?_)))
  refine onL_n (FstepR (pk rm9) (i_cl' (by decide)) ?_)
  refine TurnN (sSt hE (upt up1) rp7 (sIf (tvV (evS (evN hE (mmt mm1) mm3) (evN hE (mmt mm1) mm7) (sL (mmt mm4) (i_cl (by decide)) (i_cl' (by decide)) rfl (fun ζ ζ => rfl))) rfl) ?_))
  refine kF rfl App.nil (C.hide fun ζ ζ => Nil_ (hideOut ‹_› ?_))
  refine onL_n (FendR (pk rm0) (i_cl (by decide)) ?_)
  refine Nil_ (onN_n (sX hE (cM (evN hE (mmt mm0) mm4) (gM mm1 rfl) evs0 (ofCa (fun ζ => Cc.pick (pC rm1 (pk rm2)) (k_ms_sync ‹_› nle ?_))))))
  refine sAsgC (cM (evN hE (mmt mm0) mm4) (gM mm0 rfl) (evs1 evI evs0) (ofCa (fun ζ => k_cut1' ‹_› Pick.refl (by simp only [lens, false_implies, implies_true, and_true]; first | done | lia) (by rfl) (pC rm2 (pC rm2 (pk rm2))) ?_)))
  intro ζ ζ ζ
  refine sSt hE (upt up3) rp9 (sAsgC (cF hE (evs1 (evN hE (mmt mm3) mm9) evs0) (ofCa (fun ζ => k_Machine ‹_› ?_))))
  intro ζ
  refine sSt hE (upt up4) (rpt rp0) (Cons' (If' (TtCmpA (cM (evN hE (mmt mm4) (mmt mm0)) (gM mm0 rfl) evs0 (ofCa (fun ζ => Cc.pick Pick.refl (k_load' ‹_› (by simp only [lens, false_implies, implies_true, and_true]; first | done | lia) nle (by exact lookA_put.trans (if_pos rfl)) (i_cl (by decide)) (i_cl' (by decide)) (i_cl (by decide)) (i_cl' (by decide)) ?_)))))))
  intro ζ
  refine xT (evs1 (evN hE (mmt mm5) mm6) (evs1 evI (evs1 evZ evs0))) (by rfl) (by rfl) ?_
  intro ζ
  refine CmpA.mk ?_
  intro ζ ζ ζ ζ
  rotate_left
  refine neT_ (d := .tup [.int (0 + 1), .int 1, .none]) (m := 1) ‹_› ‹_› (told3 (by exact mm1)) (told3 (by exact mm0)) (by decide) ?_
  refine truthyA (onB_f rfl (Nil_ (onN_n ?_)))
  rotate_left
  exact C.pick (by exact (pC (rmt rm6) (pC (rmt rm6) (pC (rmt rm6) (pC (rmt rm6) (pC (rmt rm1) (pC rm6 (pC (rmt rm0) (pC rm6 (pC rm2 (pC rm2 (pC rm2 (pC rm2 (pS (pS (pS (pS (pS (pS (pS (pS Pick.refl))))))))))))))))))))) (h _ _ _ _ _ _ _ _ _ _ _ _ _ _ st_tf st_tf nle nle)
theorem st_ft : StoreOK (putA (putA [] (skey 300) (.bytes (ses 1 true [0, 0]))) [97] (.bytes (app 1 1))) (mod0 false true) := by
  refine ⟨by decide +kernel, by decide +kernel, rfl, rfl, rfl, rfl⟩
theorem law_c_ft {p nl ol : Addr} {xs : List Int} {o_script o_setup : Option AV} (hn : 12 ≤ n)
    (h : ∀ m s dn lb m' s' dn' lb' es es' bs bs' o_who o_data, StoreOK es (mod0 false true) → StoreOK es' (mod0 false true) → bs.length ≤ 10 → bs'.length ≤ 10 →
      Cf G n ((p, .ns fo_962.1.scope [("script", o_script), ("nums", some (.con (.ref nl))), ("setup", o_setup), ("opened", some (.con (.ref ol))), ("store", some (.con (.ref s))), ("machine", some (.con (.ref m))), ("index", some (.int 1)), ("who", o_who), ("data", o_data), ("other", some (.con (.ref s'))), ("twin", some (.con (.ref m'))), ("asked", none), ("datas", none), ("tops", none), ("one", none), ("y", none), ("number", none), ("kind", none), ("spot", none), ("word", none), ("expect", none), ("order", none), ("swaps", none), ("k", none), ("p", none), ("whose", none), ("seats", none), ("rows", none), ("wrote", none), ("at", none), ("sessions", none)]) :: (p + 1, .cell none) :: (nl, .list (xs.map .int)) :: (ol, .list [.bool false, .bool true]) ::
        macE m s 1 1 0 :: stoE s dn lb 1 2 :: (dn, .bd es) :: (lb, .list bs) :: macE m' s' 1 1 1 :: stoE s' dn' lb' 1 2 :: (dn', .bd es') :: (lb', .list bs') :: R) (execs lawT12 (callEnvC fo_962.1 p 962)) K) :
    Cf G n ((p, .ns fo_962.1.scope [("script", o_script), ("nums", some (.con (.ref nl))), ("setup", o_setup), ("opened", some (.con (.ref ol))), ("store", none), ("machine", none), ("index", none), ("who", none), ("data", none), ("other", none), ("twin", none), ("asked", none), ("datas", none), ("tops", none), ("one", none), ("y", none), ("number", none), ("kind", none), ("spot", none), ("word", none), ("expect", none), ("order", none), ("swaps", none), ("k", none), ("p", none), ("whose", none), ("seats", none), ("rows", none), ("wrote", none), ("at", none), ("sessions", none)]) :: (p + 1, .cell none) :: (nl, .list (xs.map .int)) :: (ol, .list [.bool false, .bool true]) :: R) (execs lawT4 (callEnvC fo_962.1 p 962)) K := by
  have hE : Fr (callEnvC fo_962.1 p 962) p fo_962.1.scope := fr_962
  rw [lawT_4, lawT_5, lawT_6, lawT_7, lawT_8, lawT_9, lawT_10, lawT_11]
  generalize hE : callEnvC fo_962.1 p 962 = E
  generalize hsc : fo_962.1.scope = sc
  dsimp only [lawS4, lawS5, lawS6, lawS7, lawS8, lawS9, lawS10, lawS11, lawT0, lawT1, lawT2, lawT3, lawT4, lawT5, lawT6, lawT7, lawT8, lawT9, lawT10, lawT11, h0, tl, stmtsOf, fo_962]
  subst hE hsc
  refine sAsgC (cF hE evs0 (ofCa (fun ζ => k_MemStore ‹_› ?_)))
  intro ζ ζ ζ
  refine sSt hE up3 rp4 (sAsgC (cF hE (evs1 (evN hE mm3 mm4) evs0) (ofCa (fun ζ => k_Machine ‹_› ?_))))
  intro ζ
  refine sSt hE up4 rp5 (sAsg hE evI up4 rp6 (Cons' (For_ (cT hE (evs1 evI evs0) (rangeNA fun ζ ζ ζ => pyIterR_ ‹_› mm0 (i_cl (by decide)) (i_cl (by decide)) ?_)))))
  intro ζ
  refine FstepR (pk rm0) (i_cl' (by decide)) ?_
  refine TurnN (sSt hE up6 rp7 (sIf (tvV (evS (evN hE mm6 mm3) (evN hE mm6 mm7) (sL mm9 (i_cl (by decide)) (i_cl' (by decide)) rfl (fun ζ ζ => rfl))) rfl) ?_))
  refine kF rfl App.nil (C.hide fun ζ ζ => Nil_ (hideOut ‹_› ?_))
  refine onL_n (FstepR (pk rm0) (i_cl' (by decide)) ?_)
  refine TurnN (sSt hE up6 rp7 (sIf (tvV (evS (evN hE mm6 mm3) (evN hE mm6 mm7) (sL mm9 (i_cl (by decide)) (i_cl' (by decide)) rfl (fun ζ ζ => rfl))) rfl) ?_))
  refine kT rfl (App.cons (App.cons (App.cons App.nil))) (sAug hE mm6 mm6 evI iAdd up6 rp6 (sAsgC (MCallA (CallGNA (by k_is) (by intro ζ; k_is) ?_ (by kernel_rfl)))))
  refine ArgsCons_ (Int_ (ArgsCons_ (SubXA (cF hE evs0 (ofCa (fun ζ => k_clients ‹_› ?_))))))
  intro ζ
  refine Name_ mm7 mm7 (itemLA mm0 (i_cl (by decide)) (i_cl' (by decide)) rfl ?_)
  refine ArgsCons_ (Int_ (ArgsCons_ (Bytes_ (ArgsCons_ (Bytes_ (ArgsCons_ (None_ (ArgsNil_ (ofCa (fun ζ => k_Command (e := none) ‹_› ?_))))))))))
  intro ζ
  refine methIA mm0 (by rfl) (by intro ζ; exact ⟨by k_is, by k_is, by k_is⟩) ?_
  refine CallWA (by intro ζ; k_is) ?_
  refine ArgsNil_ (ofCa (fun ζ => Cc.pick Pick.refl (k_co_encode (by first | assumption | exact .inl rfl | exact .inr rfl) (i_cl (by decide)) (i_cl (by decide)) (i_cl (by decide)) (i_cl' (by decide)) nle nle (by first | assumption | (intro ζ e; cases e)) ‹_› ?_)))
  refine sSt hE up8 rp8 (C.hide fun ζ ζ => Cons' (If' (TtCmpA (MCallA (Name_ mm8 mm5 (methIA mm4 (by rfl) (by intro ζ; exact ⟨by k_is, by k_is, by k_is⟩) ?_))))))
  refine CallWA (by intro ζ; k_is) ?_
  refine ArgsCons_ (cF hE (evs1 evI (evs1 (evN hE mm8 mm6) (evs1 evI (evs1 (evN hE mm8 mm8) evs0)))) (ofCa (fun ζ => k_Entry ‹_› ?_)))
  intro ζ
  refine ArgsCons_ (None_ (ArgsNil_ (ofCa (fun ζ => Cc.pick (pC rm5 (pC rm5 (pC rm5 (pk rm5)))) (k_open ‹_› (by first | exact .inl rfl | exact .inr rfl) (by first | exact rfl | (rw [lookA_put, if_neg (by decide), lookA_put, if_neg (by decide)]; exact rfl)) (by first | exact rfl | (rw [lookA_put, if_neg (by decide), lookA_put, if_neg (by decide)]; exact rfl)) (by lia) (i_cl (by decide)) (i_cl' (by decide)) (by first | exact Nat.le_of_ble_eq_true rfl | decide +kernel) nle ?_)))))
  intro ζ ζ ζ
  refine Bytes_ (neBA (truthyA (onB_f (by decide) ?_)))
  refine Nil_ (onN_n (Nil_ (hideOut ‹_› ?_)))
  refine onL_n (FendR (pk rm9) (i_cl (by decide)) ?_)
  refine Nil_ (onN_n (sX hE (cM (evN hE (mmt mm0) mm4) (gM mm1 rfl) evs0 (ofCa (fun ζ => Cc.pick (pC rm1 (pk rm2)) (k_ms_sync ‹_› nle ?_))))))
  refine sAsgC (cM (evN hE (mmt mm0) mm4) (gM mm0 rfl) (evs1 evI evs0) (ofCa (fun ζ => k_cut1' ‹_› Pick.refl (by simp only [lens, false_implies, implies_true, and_true]; first | done | lia) (by rfl) (pC rm2 (pC rm2 (pk rm2))) ?_)))
  intro ζ ζ ζ
  refine sSt hE (upt up3) rp9 (sAsgC (cF hE (evs1 (evN hE (mmt mm3) mm9) evs0) (ofCa (fun ζ => k_Machine ‹_› ?_))))
  intro ζ
  refine sSt hE (upt up4) (rpt rp0) (Cons' (If' (TtCmpA (cM (evN hE (mmt mm4) (mmt mm0)) (gM mm0 rfl) evs0 (ofCa (fun ζ => Cc.pick Pick.refl (k_load' ‹_› (by simp only [lens, false_implies, implies_true, and_true]; first | done | lia) nle (by exact lookA_put.trans (if_pos rfl)) (i_cl (by decide)) (i_cl' (by decide)) (i_cl (by decide)) (i_cl' (by decide)) ?_)))))))
  intro ζ
  refine xT (evs1 (evN hE (mmt mm5) mm6) (evs1 evI (evs1 evZ evs0))) (by rfl) (by rfl) ?_
  intro ζ
  refine CmpA.mk ?_
  intro ζ ζ ζ ζ
  rotate_left
  refine neT_ (d := .tup [.int (0 + 1), .int 1, .none]) (m := 1) ‹_› ‹_› (told3 (by exact mm1)) (told3 (by exact mm0)) (by decide) ?_
  refine truthyA (onB_f rfl (Nil_ (onN_n ?_)))
  rotate_left
  exact C.pick (by exact (pC (rmt rm6) (pC (rmt rm6) (pC (rmt rm6) (pC (rmt rm6) (pC (rmt rm1) (pC rm6 (pC (rmt rm0) (pC rm6 (pC rm2 (pC rm2 (pC rm2 (pC rm2 (pS (pS (pS (pS (pS (pS (pS (pS Pick.refl))))))))))))))))))))) (h _ _ _ _ _ _ _ _ _ _ _ _ _ _ st_ft st_ft nle nle)
end
end
section
noncomputable def numsOf (ns : List Int) : List Int := if ((ns.take 6).map fun x => x.fmod 999983) = [] then [8] else (ns.take 6).map fun x => x.fmod 999983
theorem numsOf_ok (ns : List Int) : 1 ≤ (numsOf ns).length ∧ (numsOf ns).length ≤ 6 := by
  unfold numsOf
  split
  · exact ⟨by decide, by decide⟩
  · rename_i h
    refine ⟨?_, by simp; lia⟩
    cases q : (ns.take 6).map fun x => x.fmod 999983 with
    | nil => exact absurd q h
    | cons a l => simp
noncomputable def Held (G : Gr) (x : Addr) (xs : List AV) : Prop := ∃ vs : Array Value, G.h₀.IsList x vs ∧ VRs xs vs.toList
theorem sliceG_ {G : Gr} {n : Nat} {L : Led} {p1 : Pos} {x : Addr} {xs : List AV} {lo hi : Option Int} {l u : AV} {value : Expr} {lower upper : Option Expr} {v lv uv : Value} {K : AV → Led → Prop} (hv : VR (.con (.ref x)) v) (hl : VR l lv) (hu : VR u uv) (pl : PartR lo l) (pu : PartR hi u) (hx : Held G x xs) (hz : xs.length ≤ 1000000)
    (h : ∀ p, K (.con (.ref p)) ((p, .list ((xs.drop (lo.elim 0 (clipAt xs.length))).take (hi.elim xs.length (clipAt xs.length) - lo.elim 0 (clipAt xs.length)))) :: L)) :
    ∀ A s, Rm n A → St G L s → wpAny (model G.prog G.w) A (subscriptTail value (.Slice lower upper none p1) v (.ref s.heap.objs.size)) (fun x s' => ∃ y L', VR y x ∧ St G L' s' ∧ K y L') (fun ζ ζ => False) { s with heap := s.heap.push { cls := .type "slice", data := .fields #[lv, uv, .none] } } := by
  intro A s hA hS
  obtain rfl : v = .ref x := hv
  obtain ⟨vs, ⟨ob, ho, hr⟩, hvs⟩ := hx
  have e : xs.length = vs.size := hvs.length.trans (by simp)
  have hL : s.heap.IsList x vs := ⟨ob, hS.kept _ _ ho, hr⟩
  refine tail_ (M := (G.prog, G.w)) list_getitem_lookup (Heap.IsList.typeIs (s := { s with heap := s.heap.push { cls := .type "slice", data := .fields #[lv, uv, .none] } }) (hL.push _))
    (wpAny_getItem_list_slice (hL.push _) (Heap.IsSliceOf.new ..) (pl.is hl) (pu.is hu) .none (by simp) ?_ (by rw [sizeLine_eq]; lia)) rfl
  have S1 : St G L { s with heap := s.heap.push { cls := .type "slice", data := .fields #[lv, uv, .none] } } := hS.ext rfl rfl fun b ob e => Heap.get?_push_of_some _ e
  refine ⟨.con (.ref (s.heap.push { cls := .type "slice", data := .fields #[lv, uv, .none] }).objs.size), _, rfl, S1.alloc1 (ao := .list ((xs.drop (lo.elim 0 (clipAt xs.length))).take (hi.elim xs.length (clipAt xs.length) - lo.elim 0 (clipAt xs.length)))) rfl rfl fun d => ⟨_, 0, Heap.get?_push_size _ rfl, ?_⟩, h _⟩
  rw [slicePick_plain, ← e]
  simpa using (hvs.drop _).take _
theorem sliceGA {G : Gr} {n : Nat} {L : Led} {p1 : Pos} {x : Addr} {xs : List AV} {hi : Int} {value : Expr} {lower upper : Option Expr} {K : AV → Led → Prop} (hx : Held G x xs) (hz : xs.length ≤ 1000000)
    (h : ∀ p, K (.con (.ref p)) ((p, .list ((xs.drop ((none : Option Int).elim 0 (clipAt xs.length))).take ((some hi).elim xs.length (clipAt xs.length) - (none : Option Int).elim 0 (clipAt xs.length)))) :: L)) : SliA G n L value lower upper p1 (.con (.ref x)) .none (.int hi) K := fun ζ ζ ζ hv hl hu => sliceG_ (lo := none) (hi := some _) hv hl hu rfl rfl hx hz h
section
variable {G : Gr} {n : Nat} {R : Led} {vs : List Value} {K : Fl → Led → Prop}
noncomputable abbrev sc1 : Scope := { kind := .function, names := [((".0" : Str), .local), (("x" : Str), .local)], isGenerator := false, isCoroutine := false }
theorem comp1 {it acc C l : Addr} {ns : List Int} {E : Env} {iter : Expr} {q1 q2 q3 q4 q5 : Pos} (hl : (l, AObj.list (ns.map .int)) ∈ R) (hns : ns.length ≤ 63)
    (h : ∀ o, K .next ((acc, .list (ns.map fun x => AV.int (x.fmod 999983))) :: (C, .ns (relabel sc1 E) [("x", o)]) :: R)) :
    Cl G n ((it, .liter l 0) :: (acc, .list []) :: (C, .ns (relabel sc1 E) [("x", none)]) :: R)
      (.compLoop (lc (.BinOp (.Name "x" q1) .Mod (.Constant (.int 999983) 0 q2) q3) (.Name "x" q4) iter sc1 q5) 0 (.ref it) (.ref acc) (compEnvC sc1 [] C E)) K := by
  refine compL (xs := ns.map .int) (Inv := fun i ys Li => ∃ o, ys = (ns.take i).map (fun x => AV.int (x.fmod 999983)) ∧ Li = (C, .ns (relabel sc1 E) [("x", o)]) :: R) ?hlst ?hlen ?hgo ?turn ?fin _ 0 [] _ rfl (Nat.zero_le _) rfl ⟨none, rfl, rfl⟩
  case hlst => rintro i ys Li ⟨o, rfl, rfl⟩; exact List.mem_cons_of_mem _ hl
  case hlen => rw [List.length_map]; lia
  case hgo => intro i Li v a hv; exact goN_ rfl
  case turn =>
    rintro i ys Li a ha hy ⟨o, rfl, rfl⟩ v hv
    obtain ⟨x, hx, rfl⟩ : ∃ x, ns[i]? = some x ∧ a = .int x := by
      rw [List.getElem?_map] at ha
      cases q : ns[i]? with
      | none => rw [q] at ha; cases ha
      | some x => rw [q] at ha; cases ha; exact ⟨x, rfl, rfl⟩
    refine AsgN_ (store_ ‹_› up2 rp0 ?_)
    refine BinOpA (Name_ mm2 mm0 (Int_ (modIA (by lia) ?_)))
    rotate_left
    exact ⟨_, by exact Pick.refl, _, by rw [List.take_add_one, hx, List.map_append]; rfl, rfl⟩
  case fin =>
    rintro ys Li ⟨o, rfl, rfl⟩
    rw [List.length_map, List.take_length]
    exact h o
theorem slice6 {ns : List Int} : List.take ((some (6 : Int)).elim (ns.map AV.int).length (clipAt (ns.map AV.int).length) - (none : Option Int).elim 0 (clipAt (ns.map AV.int).length)) (List.drop ((none : Option Int).elim 0 (clipAt (ns.map AV.int).length)) (ns.map AV.int)) = (ns.take 6).map .int := by
  have e : clipAt (ns.map AV.int).length 6 = min (ns.map AV.int).length 6 := by
    unfold clipAt; simp; try lia
  simp only [Option.elim, e, List.drop_zero, Nat.sub_zero]
  rw [← List.map_take, List.length_map]
  congr 1
  rw [List.take_eq_take_iff]
  lia
theorem law_a {p sl : Addr} {ns : List Int} (hn : 12 ≤ n) (hns : ns.length ≤ 63) (hG : Held G sl (ns.map .int))
    (h : ∀ nl, Cf G n ((p, .ns fo_962.1.scope [("script", some (.con (.ref sl))), ("nums", some (.con (.ref nl))), ("setup", none), ("opened", none), ("store", none), ("machine", none), ("index", none), ("who", none), ("data", none), ("other", none), ("twin", none), ("asked", none), ("datas", none), ("tops", none), ("one", none), ("y", none), ("number", none), ("kind", none), ("spot", none), ("word", none), ("expect", none), ("order", none), ("swaps", none), ("k", none), ("p", none), ("whose", none), ("seats", none), ("rows", none), ("wrote", none), ("at", none), ("sessions", none)]) :: (p + 1, .cell none) :: (nl, .list ((numsOf ns).map .int)) :: R) (execs lawT2 (callEnvC fo_962.1 p 962)) K) :
    Cf G n ((p, .ns fo_962.1.scope [("script", some (.con (.ref sl))), ("nums", none), ("setup", none), ("opened", none), ("store", none), ("machine", none), ("index", none), ("who", none), ("data", none), ("other", none), ("twin", none), ("asked", none), ("datas", none), ("tops", none), ("one", none), ("y", none), ("number", none), ("kind", none), ("spot", none), ("word", none), ("expect", none), ("order", none), ("swaps", none), ("k", none), ("p", none), ("whose", none), ("seats", none), ("rows", none), ("wrote", none), ("at", none), ("sessions", none)]) :: (p + 1, .cell none) :: R) (execs lawT0 (callEnvC fo_962.1 p 962)) K := by
  have hz : (ns.map AV.int).length ≤ 1000000 := by rw [List.length_map]; lia
  have hE : Fr (callEnvC fo_962.1 p 962) p fo_962.1.scope := fr_962
  rw [lawT_0, lawT_1]
  generalize hE : callEnvC fo_962.1 p 962 = E
  generalize hsc : fo_962.1.scope = sc
  dsimp only [lawS0, lawS1, lawT0, lawT1, h0, tl, stmtsOf, fo_962]
  subst hE hsc
  refine Cons' (AssignC_ (cl := []) (names := ["x"]) ?_ (by kernel_rfl) (by kernel_rfl) (by kernel_rfl) (by kernel_rfl) (by kernel_rfl) (by kernel_rfl) (by decide +kernel))
  refine SubSliceA (Name_ mm0 mm0 (EvN_ (EvS_ (Int_ (sliceGA ‹_› ‹_› ?_)))))
  intro _
  rotate_left
  rename_i s2
  rw [slice6]
  refine ⟨s2, (ns.take 6).map .int, rfl, List.mem_cons_self, fun it acc C => ?_⟩
  refine Cl.pick (by exact (pC rm2 (pC rm1 (pC Rem.head Pick.refl)))) (comp1 (ns := ns.take 6) (by exact mm0) (by rw [List.length_take]; lia) fun o => ?_)
  refine ⟨_, _, pC (.tail .head) .refl, ?_⟩
  refine store_ (Lf := p) (a := .con (.ref acc)) rfl (by exact up3) (by exact rp1) ?_
  refine ⟨_, _, .refl, ?_⟩
  have hl6 : ((ns.take 6).map fun x => AV.int (x.fmod 999983)).length ≤ 1000000 := by simp; lia
  refine onN_n (sIf (tvC (evCB hE (evs1 (evN hE mm2 mm1) evs0) (fLenL mm0 ‹_›)) evI cEq) ?_)
  refine kB (App.cons App.nil) App.nil (fun _ => ?_) (fun _ => ?_)
  refine sAsgC (xL (evs1 evI evs0) (by rfl) (by rfl) ?_)
  intro _
  refine sSt hE up3 rp1 ?_
  rotate_left
  rotate_left
  · rename_i hz1 _
    have e : numsOf ns = [8] := by
      unfold numsOf
      rw [if_pos]
      have hz2 : ((((ns.take 6).map fun x => AV.int (x.fmod 999983)).length : Nat) : Int) = 0 := by simpa using hz1
      rw [List.length_map] at hz2
      rw [List.map_eq_nil_iff, ← List.length_eq_zero_iff]; lia
    rw [e] at h
    exact Mine.C.pick (by exact (pC rm3 (pC rm3 (pC Rem.head (pS (pS Pick.refl)))))) (h _)
  · rename_i hz1
    have e : (numsOf ns).map AV.int = (ns.take 6).map fun x => AV.int (x.fmod 999983) := by
      unfold numsOf
      rw [if_neg, List.map_map]
      · rfl
      · intro q
        have hz2 : ¬ ((((ns.take 6).map fun x => AV.int (x.fmod 999983)).length : Nat) : Int) = 0 := by simpa using hz1
        rw [List.length_map] at hz2
        rw [List.map_eq_nil_iff, ← List.length_eq_zero_iff] at q; lia
    rw [e] at h
    exact Mine.C.pick (by exact (pC rm2 (pC rm2 (pC rm0 (pS Pick.refl))))) (h _)
end
end
section
theorem Pick.swap2 {A B F Z : Led} : Pick (F ++ (A ++ (B ++ Z))) (A ++ (B ++ (F ++ Z))) := Pick.of (M := []) (by intro a; simp only [cc_app, cc_nil]; lia)
theorem seatOf_len {w : Int} {s : JSt} : (seatOf w s).length ≤ 1 := by unfold seatOf; split <;> simp
theorem sesOf_len {c : Int} {s : Option (Int × Bool × List UInt8)} : (sesOf c s).length ≤ 1 := by unfold sesOf; split <;> simp
theorem rowsOf_len {k : List UInt8} {s : Option (List UInt8)} : (rowsOf k s).length ≤ 1 := by unfold rowsOf; split <;> simp
section
variable {G : Gr} {n : Nat} {R : Led} {vs : List Value} {K : Fl → Led → Prop}
theorem law_c {p nl ol : Addr} {xs : List Int} {o0 o1 : Bool} {o_script o_setup : Option AV} (hn : 12 ≤ n) (ho : o0 = true ∨ o1 = true)
    (h : ∀ m s dn lb m' s' dn' lb' es es' bs bs' o_who o_data idx L0 k d1, 0 ≤ idx → idx ≤ 2 → L0 = 2 * idx → StoreOK es (mod0 o0 o1) → StoreOK es' (mod0 o0 o1) → bs.length ≤ 10 → bs'.length ≤ 10 →
      Cf G n ((p, .ns fo_962.1.scope [("script", o_script), ("nums", some (.con (.ref nl))), ("setup", o_setup), ("opened", some (.con (.ref ol))), ("store", some (.con (.ref s))), ("machine", some (.con (.ref m))), ("index", some (.int idx)), ("who", o_who), ("data", o_data), ("other", some (.con (.ref s'))), ("twin", some (.con (.ref m'))), ("asked", none), ("datas", none), ("tops", none), ("one", none), ("y", none), ("number", none), ("kind", none), ("spot", none), ("word", none), ("expect", none), ("order", none), ("swaps", none), ("k", none), ("p", none), ("whose", none), ("seats", none), ("rows", none), ("wrote", none), ("at", none), ("sessions", none)]) :: (p + 1, .cell none) :: (nl, .list (xs.map .int)) :: (ol, .list [.bool o0, .bool o1]) ::
        macE m s idx 1 0 :: stoE s dn lb k L0 :: (dn, .bd es) :: (lb, .list bs) :: macE m' s' idx 1 d1 :: stoE s' dn' lb' k L0 :: (dn', .bd es') :: (lb', .list bs') :: R) (execs lawT12 (callEnvC fo_962.1 p 962)) K) :
    Cf G n ((p, .ns fo_962.1.scope [("script", o_script), ("nums", some (.con (.ref nl))), ("setup", o_setup), ("opened", some (.con (.ref ol))), ("store", none), ("machine", none), ("index", none), ("who", none), ("data", none), ("other", none), ("twin", none), ("asked", none), ("datas", none), ("tops", none), ("one", none), ("y", none), ("number", none), ("kind", none), ("spot", none), ("word", none), ("expect", none), ("order", none), ("swaps", none), ("k", none), ("p", none), ("whose", none), ("seats", none), ("rows", none), ("wrote", none), ("at", none), ("sessions", none)]) :: (p + 1, .cell none) :: (nl, .list (xs.map .int)) :: (ol, .list [.bool o0, .bool o1]) :: R) (execs lawT4 (callEnvC fo_962.1 p 962)) K := by
  cases o0 <;> cases o1
  · rcases ho with h | h <;> cases h
  · exact law_c_ft hn fun m s dn lb m' s' dn' lb' es es' bs bs' o_who o_data h1 h2 h3 h4 => h m s dn lb m' s' dn' lb' es es' bs bs' o_who o_data 1 2 1 1 (by decide) (by decide) (by decide) h1 h2 h3 h4
  · exact law_c_tf hn fun m s dn lb m' s' dn' lb' es es' bs bs' o_who o_data h1 h2 h3 h4 => h m s dn lb m' s' dn' lb' es es' bs bs' o_who o_data 1 2 1 1 (by decide) (by decide) (by decide) h1 h2 h3 h4
  · exact law_c_tt hn fun m s dn lb m' s' dn' lb' es es' bs bs' o_who o_data h1 h2 h3 h4 => h m s dn lb m' s' dn' lb' es es' bs bs' o_who o_data 2 4 2 2 (by decide) (by decide) (by decide) h1 h2 h3 h4
theorem law_body {p sl : Addr} {ns : List Int} (hn : 12 ≤ n) (hns : ns.length ≤ 63) (hG : Held G sl (ns.map .int)) (h : ∀ L, K (.ret (.bool true)) L) :
    Cf G n ((p, .ns fo_962.1.scope [("script", some (.con (.ref sl))), ("nums", none), ("setup", none), ("opened", none), ("store", none), ("machine", none), ("index", none), ("who", none), ("data", none), ("other", none), ("twin", none), ("asked", none), ("datas", none), ("tops", none), ("one", none), ("y", none), ("number", none), ("kind", none), ("spot", none), ("word", none), ("expect", none), ("order", none), ("swaps", none), ("k", none), ("p", none), ("whose", none), ("seats", none), ("rows", none), ("wrote", none), ("at", none), ("sessions", none)]) :: (p + 1, .cell none) :: R) (execs lawT0 (callEnvC fo_962.1 p 962)) K := by
  obtain ⟨hx1, hx6⟩ := numsOf_ok ns
  refine law_a hn hns hG fun nl => ?_
  generalize numsOf ns = xs at hx1 hx6 ⊢
  refine law_b hn hx1 hx6 fun ol o0 o1 o_setup ho => ?_
  refine law_c hn ho fun m s dn lb m' s' dn' lb' es es' bs bs' o_who o_data idx L0 k d1 hi0 hi1 hL0 hS hS' hb hb' => ?_
  refine law_d hn hx1 hx6 fun al dl cs ts tops W o_tops o_one o_y o_number o_kind o_spot o_word o_expect o_who2 hA => ?_
  have hcs : CsOk cs := ⟨hA.c, fun c hc => (hA.ok c hc).who, fun c hc => (hA.ok c hc).spot, fun c hc => (hA.ok c hc).n0, fun c hc => (hA.ok c hc).k0⟩
  refine C.pick (.cons .head (.cons .head (.cons .head (.cons .head (.cons .head (Pick.swapL (F := [_, _, _, _, _, _, _, _, _]))))))) ?_
  dsimp only [List.cons_append, List.nil_append, List.append_eq]
  have hmW : ∀ (j : Nat) t c, ts[j]? = some t → cs[j]? = some c → cmdT t c ∈ W ++ R := fun j t c h1 h2 => List.mem_append_left _ (hA.m j t c h1 h2)
  refine law_e (cs := cs) (ts := ts) hn hx1 hx6 hA.c hA.t (fun j t c h1 h2 => by have z := hmW j t c h1 h2; exact (mmt (by (repeat refine List.mem_cons_of_mem _ ?_); assumption))) fun rl l o_swaps o_k o_p hr => ?_
  refine C.pick (by exact (pC rm0 (pC rm0 (pC rm1 (pk rm3))))) (law_f (cs := cs) (ts := ts) (o0 := o0) (o1 := o1) hn hA.c hA.t (fun j t c h1 h2 => by have z := hmW j t c h1 h2; exact (mmt (by (repeat refine List.mem_cons_of_mem _ ?_); assumption))) hA.ok ho fun wp sp tp rp qs rq hqs hrq => ?_)
  refine C.pick (.cons .head (.cons .head (.cons .head (.cons .head (.cons .head (.cons .head (Pick.swap2 (F := [_, _, _, _, _, _, _, _, _, _, _])))))))) ?_
  dsimp only [List.cons_append, List.nil_append, List.append_eq]
  generalize hZ : (rq.map rowsE ++ (qs.map seatE ++ (W ++ R))) = Z
  have hZr : ∀ q ∈ rq, rowsE q ∈ Z := fun q hq => hZ ▸ List.mem_append_left _ (List.mem_map_of_mem hq)
  have hZs : ∀ q ∈ qs, seatE q ∈ Z := fun q hq => hZ ▸ List.mem_append_right _ (List.mem_append_left _ (List.mem_map_of_mem hq))
  clear hZ
  refine C.pick (by exact (pC rm0 (pC rm0 (pC rm0 (pC rm1 (pC rm3 (pC rm3 (pC rm3 (pC rm3 (pC rm3 (pC rm3 (pC rm3 (pC rm3 (pC rm3 (pk rm3))))))))))))))) (law_g hn hcs hA.ok hr hS hS' hb hb' hi0 hi1 fun es es' bs bs' o_at o_one M hM hS hS' hMM => ?_)
  subst hM
  have hD := inv_seats (o0 := o0) (o1 := o1) hcs
  rw [← hqs] at hD
  have hrD := hrq.trans (inv_rows (o0 := o0) (o1 := o1) hcs)
  have hw := inv_wrote (o0 := o0) (o1 := o1) hcs
  have hql : qs.length ≤ 4 := by
    have e : (qs.map (·.2)).length = qs.length := List.length_map ..
    rw [hqs, judge_seats, List.length_append] at e
    have a1 := seatOf_len (w := 0) (s := jrun 0 cs 4 (js0 o0))
    have a2 := seatOf_len (w := 1) (s := jrun 1 cs 4 (js0 o1))
    lia
  generalize mst (gOf cs) [0, 1, 2, 3] (mod0 o0 o1) = M at hS hS' hMM hD hrD
  have hrl : rq.length ≤ 4 := by
    have e : (rq.map (·.2)).length = rq.length := List.length_map ..
    rw [hrD, List.length_append] at e
    have a1 := rowsOf_len (k := []) (s := M.d 0)
    have a2 := rowsOf_len (k := [107]) (s := M.d 1)
    lia
  refine law_h (T := (fold cs (judge cs o0 o1).1).1) (D := sesD M) hn (fun q hq => by have z := hZs q hq; exact (mmt (by (repeat refine List.mem_cons_of_mem _ ?_); assumption))) (by exact mm8) hD hql fun sl2 ds W2 hds hdW => ?_
  have hdl : ds.length ≤ 4 := by
    have e : (ds.map (·.2)).length = ds.length := List.length_map ..
    rw [hds, List.length_append] at e
    have a1 := sesOf_len (c := 5) (s := M.s 0)
    have a2 := sesOf_len (c := 300) (s := M.s 1)
    lia
  refine C.pick (.cons .head (.cons .head (Pick.swapL (F := [_, _, _, _, _, _, _, _, _, _, _])))) ?_
  dsimp only [List.cons_append, List.nil_append, List.append_eq]
  have hZr2 : ∀ q ∈ rq, rowsE q ∈ W2 ++ Z := fun q hq => List.mem_append_right _ (hZr q hq)
  have hZd2 : ∀ q ∈ ds, quadE q ∈ W2 ++ Z := fun q hq => List.mem_append_left _ (hdW q hq)
  exact C.pick (by exact (pC rm0 (pC rm0 (pC rm9 (pC rm0 (pC rm0 (pC rm0 (pC rm1 (pC rm1 (pk rm1)))))))))) (law_i hn (fun q hq => by have z := hZr2 q hq; exact (by (repeat refine List.mem_cons_of_mem _ ?_); assumption)) (fun q hq => by have z := hZd2 q hq; exact (by (repeat refine List.mem_cons_of_mem _ ?_); assumption)) hrD hds hS hS' hMM (by lia) hrl hdl h)
theorem k_law {sl : Addr} {ns : List Int} (hn : 12 ≤ n) (hns : ns.length ≤ 63) (hG : Held G sl (ns.map .int)) : Cc G (n + 1) R (.ref 962) [.ref sl] (fun a ζ => a = .bool true) := by
  refine callC_ (fd := fo_962.1) (x := "script") (y := "told") (rest := ["nums", "setup", "opened", "store", "machine", "index", "who", "data", "other", "twin", "asked", "datas", "tops", "one", "y", "number", "kind", "spot", "word", "expect", "order", "swaps", "k", "p", "whose", "seats", "rows", "wrote", "at", "sessions"]) (a := .con (.ref sl)) rfl fo_962.2 (body := lawT0) (by kernel_rfl) c_962 (by intro v; kernel_rfl) (by kernel_rfl) law_cells (by kernel_rfl) (by decide +kernel) (by kernel_rfl) fun p => ?_
  dsimp only [List.map]
  exact law_body hn hns hG fun L => ⟨L, .refl, rfl⟩
end
theorem law_named (P : Params) : nsIn (kk.heap_1 P) mainGlobals "law" = some (some (.ref 962)) := by k_is
theorem ints_vrs {vs : List Value} {ns : List Int} (h : IntsAre vs ns) : VRs (ns.map .int) vs := by
  induction h with
  | nil => exact .nil
  | cons k u _ ih => exact .cons ⟨u, rfl⟩ ih
end
end Mine
end
section
open PySem PySem.W PySem.Calls PyProof.Rows
set_option Elab.async false
set_option linter.unusedVariables false
set_option maxRecDepth 1000000
set_option maxHeartbeats 0
namespace Mine
theorem clean_caller : Clean (⟨.builtin "claim.caller" {}, none, none, [], none⟩ : PySem.Ctx) := ⟨by decide +kernel, fun x hx => by cases hx⟩
theorem thread_ends_X {prog : Program} {w : World} {t : Sem Fin} {s : Shared} {R : Result → Shared → Prop} (hreg : s.asleep)
    (h : wpX (model prog w) callerA t (fun fin s' => ∃ f, fin = .done f ∧ (R (.ok f) s' ∧ leftWithCleanup s'.gens = false)) (fun e s' => R (.error e) s' ∧ leftWithCleanup s'.gens = false) s) :
    ∃ n r s' s'', runN (denote table) prog w n s ⟨t, .builtin "claim.caller" {}, default, []⟩ = .halted (outcomeOf r) s' ∧
      schedN (denote table) prog w n (.single s ⟨t, .builtin "claim.caller" {}, default, []⟩) = .halted (outcomeOf r) s' ∧ s'.forget = s''.forget ∧ R r s'' := by
  obtain ⟨n, r, s₁, s₂, hs, hn, hfo, hR⟩ := wp_halts_full (M := model prog w) (c := .builtin "claim.caller" {}) (p := default) (t := t) (R := R) hreg (by
    refine Sem.wp_mono _ _ t (fun fin p' s' h' => ?_) (fun ζ ζ ζ h' => h') default s (h _ default caller_in clean_caller)
    obtain ⟨f, rfl, hf⟩ := h'
    exact hf)
  exact ⟨n, r, s₂, s₁, hn, hs, hfo, hR⟩
theorem callFrom_X {c : ClaimW} {tree : List Value → Sem Fin} {w : World} {s : Shared} {free : Addr → Prop} {gens : Prop} {kept : Heap → Prop} (hz : s.asleep) (hgens : s.gens = #[])
    (hspec : ∀ args, c.pre args = true → WData.layableAll args = true →
      ∀ ord : List DictEntry → List DictEntry, (∀ l, (ord l).Perm l) →
      ∃ vs s₁, layAllW c.records (classAt s.heap) w.params ord args s = some (vs, s₁) ∧
        wpX (model c.prog w) callerA (tree vs) (fun fin s' => ∃ f, fin = .done f ∧ (c.Ends s args vs s₁ (.ok f) s' ∧ s'.os = s.os ∧ AllBare s'.gens ∧ kept s'.heap))
          (fun e s' => c.Ends s args vs s₁ (.error e) s' ∧ s'.os = s.os ∧ AllBare s'.gens ∧ kept s'.heap) s₁) :
    c.CallFrom (fun vs => ⟨tree vs, .builtin "claim.caller" {}, default, []⟩) w free gens kept s := by
  intro args hpre hlay ord hord
  obtain ⟨vs, s₁, hlaid, hcode⟩ := hspec args hpre hlay ord hord
  have hal := layAllW_rest _ _ _ hlaid
  obtain ⟨k, r, s', s'', hrun, hsched, hfo, hcase, hos, hkp⟩ := thread_ends_X (prog := c.prog) (w := w) (t := tree vs) (s := s₁)
    (R := fun r s' => c.Ends s args vs s₁ r s' ∧ s'.os = s.os ∧ kept s'.heap)
    (Shared.asleep_of_life hal.2.2.2 hz)
    (wpX_mono hcode (by
      rintro fin s' ⟨f, e, h1, h2, h3, h4⟩
      exact ⟨f, e, ⟨h1, h2, h4⟩, leftWithCleanup_false_of_bare h3⟩) (by
      rintro e s' ⟨h1, h2, h3, h4⟩
      exact ⟨⟨h1, h2, h4⟩, leftWithCleanup_false_of_bare h3⟩))
  obtain ⟨eh, _, _, eo, _⟩ := Shared.forget_eq hfo
  have hcase := hcase.congr eh
  have hkp : kept s'.heap := by first | exact eh ▸ hkp | (rw [eh] at hkp; exact hkp) | (rw [← eh] at hkp; exact hkp)
  rw [← eo] at hos
  have hlife : s'.heap.life = s.heap.life := (runN_life _ _ _ hrun).trans hal.2.2.2
  refine ⟨vs, s₁, hlaid, k, _, s', hsched, ?_, (fun ζ i x hx => by rw [hgens] at hx; simp at hx), hkp, by rw [hlife], Shared.rest_eq hos⟩
  rcases hcase with ⟨v, rfl, d1, d2, d3, d4, d5⟩ | ⟨e, ob, cls, rfl, d1, d2, d3, d4, d5⟩
  · exact .inl ⟨v, rfl, d1, d2, d3, fun b o y ζ => d4 b o y, d5⟩
  · exact .inr ⟨e, ob, cls, rfl, d1, d2, d3, d4, fun b o y ζ => d5 b o y⟩
abbrev rwR : OpenRow := OpenLaw.row PySem.Challenge.rw_nz0374_01
theorem kAs_eq : ∀ P, kAs = (kk.heap_1 P).map (·.1) := by
  intro P
  kernel_rfl
theorem holds_top {N : Nat} (left : LeftO PySem.Challenge.pw_nz0374_01 hQ hL hXt hYf hYa N) (said : rwR.wellSaid = true) : rwR.Holds := by
  have hw : rwR.toRowW.promised := by w_witness2
  refine ⟨said, hw, ?main⟩
  case main =>
    have ok : (chainsOk hQ && opensWell rwR.prog && (frees rwR.toRowW && rwR.within.isEmpty)) = true := by rfl
    have hb : rwR.prog.bare := ⟨rfl, rfl, rfl, rfl, rfl, by decide +kernel⟩
    obtain ⟨ok, k5⟩ := Bool.and_eq_true_iff.mp ok
    obtain ⟨hch, o1⟩ := Bool.and_eq_true_iff.mp ok
    obtain ⟨k5, k6⟩ := Bool.and_eq_true_iff.mp k5
    obtain ⟨hsame, hu, ha, hap, hm⟩ := frees_parts k5
    obtain ⟨d, kwd, hdef, hp, hk⟩ : ∃ d kwd, defOf hQ rwR.name = some (d, kwd) ∧ rwR.prog.theDef rwR.name = some (d.params, d.body, d.scope) ∧ kwWritten? d.params.kwonlyargs d.params.kw_defaults = some kwd := ⟨_, _, by rfl, by rfl, by rfl⟩
    have hX : ∀ s, hXt s = true → (XL hQ [] (s.heap.nsMap mainGlobals) s.heap ∧ RecFacts rwR.records s.heap) := fun s e => by
      obtain ⟨e1, e2⟩ := Bool.and_eq_true_iff.mp e
      exact ⟨xl_of s e1, recFacts_of e2⟩
    have hXk : ∀ mg h h', XL hQ [] mg h → (∀ b o, h.get? b = some o → h'.get? b = some o) → XL hQ [] mg h' := XL.keeps
    have hbeh := fun w => left.behind (XP := fun mg h => XL hQ [] mg h ∧ RecFacts rwR.records h) hX hch w
    refine ⟨⟨hb, o1, by rfl⟩, hw.witness, fun w => ⟨(hbeh w).1, fun s' hs' => ?_⟩⟩
    obtain ⟨s₀, hf, hg0, s, hT, hz, hgens, hg, G00, y⟩ := (hbeh w).2 s' hs'
    have G0 : Ground hQ hL [] (XL hQ []) w s (s.heap.nsMap mainGlobals) (s.heap.nsMap builtinsNs) s.heap := ⟨G00.T, G00.B, G00.D, G00.TE, G00.TD, G00.W, G00.X.1, G00.cls, G00.has, G00.apart, G00.once, G00.K⟩
    have RF := G00.X.2
    have hT' := hT
    refine ⟨s₀, hf, hg0, s, hT, ?pin, RF.1, RF.2.1, ?_⟩
    case pin =>
      intro n hn
      obtain rfl : n = rwR.name := by
        have : n ∈ [rwR.name] := hn
        simpa using this
      exact pinned_of_view hg G0 hdef hp hk
    have hgens : s.gens = #[] := Array.eq_empty_of_size_eq_zero (beq_iff_eq.mp hgens)
    have G : Ground hQ hL rwR.records (XL hQ []) w s _ _ s.heap := RF.ground G0
    refine callFrom_X (c := rwR.toRowW.claim) hz hgens fun args hpre hlay ord hord => ?_
    obtain ⟨⟨vs, s₁⟩, hlaid⟩ := Option.isSome_iff_exists.mp (layAllW_isSome (P := w.params) (ord := ord) G.has args rwR.args s (pre_splitW hpre).1)
    have keeps := layAllW_keeps _ _ _ hlaid
    have hal := layAllW_rest _ _ _ hlaid
    obtain ⟨as, hrd, hin, hold⟩ := reads_layAllW hord _ _ _ hlaid hlay s₁.heap (fun _ _ e => e)
    have L : Laid rwR.records w s s₁ args vs as := ⟨⟨ord, hord, hlaid⟩, hrd, hin, hold, keeps, hal.1.trans hgens, hal.2.2.1⟩
    have G₁ := G.keeps hXk keeps
    have hwl := L.well
    have hlo := L.low G.low
    have hi := ident_freeW hu ha hap
    have hwi : rwR.toRowW.claim.within = [] := List.isEmpty_iff.mp k6
    refine ⟨vs, s₁, hlaid, ?_⟩
    have hlay2 := hlay
    wrow_args hpre hlay hrd hwl hlo
    rename_i ns _ _ _ _ _ _ _ sl items _ hLi _ _ _ hI _ _ _
    have XK : (kk.heap_1 w.params).In s.heap := InK.of kAs_eq w s (congrArg Prod.fst y)
    have hsm : (s.heap.get? sysModules).isSome = true := congrArg Prod.snd y
    obtain ⟨osm, hosm⟩ := Option.isSome_iff_exists.mp hsm
    have hgens1 : s₁.gens = #[] := L.gens
    let g : Gr := { prog := PySem.Challenge.pw_nz0374_01, w := w, h₀ := s₁.heap, gs := #[], os := s₁.os, X := XK.keeps keeps, lim := G₁.T.nolimit, mg := s.heap.nsMap mainGlobals, hmg := G₁.T.g, mb := s.heap.nsMap builtinsNs, hmb := G₁.T.b, hbv := G₁.T.builtins, sm := ⟨osm, keeps _ _ hosm⟩ }
    have hSt : St g [] s₁ := ⟨hgens1, rfl, fun _ _ e => e, fun _ => 0, List.nodup_nil, fun _ h => (nomatch h), fun _ h => (nomatch h)⟩
    have hRm : Rm 13 callerA := ⟨rfl, by decide +kernel, by decide +kernel⟩
    have hlen : ns.length ≤ 63 := by lia
    have hHeld : Held g sl (ns.map .int) := by
      refine ⟨items.toArray, hLi, ?_⟩
      rw [List.toList_toArray]
      exact ints_vrs hI
    have hlaw : g.mg rwR.name = some (.ref 962) := mg_of g.X g.hmg (law_named _)
    have hcall := ofCc (k_law (G := g) (n := 12) (R := []) (by decide) hlen hHeld) callerA s₁ hRm hSt
    refine wpX_bind (wpX_of (wpAny_nsGet G₁.T.g ?_))
    show wpX (model PySem.Challenge.pw_nz0374_01 w) callerA (match g.mg rwR.name with
        | some f => do ret (← PySem.call f [.ref sl])
        | none => unsupported "claim.caller:no-such-global") _ _ s₁
    rw [hlaw]
    refine wpX_bind (wpX_mono hcall (fun v s2 hv => ?_) fun _ _ e => e.elim)
    obtain ⟨a, L', hva, S2, rfl⟩ := hv
    obtain rfl : v = .bool true := hva
    have gg : GoodWG rwR.toRowW.claim (classAt s.heap) (ExcName.means s.heap) [ofPy (PyData.list (ns.map PyData.int))] s₁ (.ok (.ret (.bool true))) s2 :=
      GoodW.toG ⟨.inl ⟨.bool true, .bool true, [], rfl, fun _ => rfl, .bool true, by kernel_rfl, fun _ => ⟨List.nodup_nil, fun _ h => (nomatch h)⟩⟩, S2.kept, S2.os, S2.gens⟩
    have z := gg.laid (c := rwR.toRowW.claim) hsame hwi hi L
    exact wpX_pure ⟨_, rfl, z.1, z.2.1, z.2.2, fun q => ⟨namesKept_of hT' hg _ keeps gg.2.1.old, noTable (writes := rwR.writes) rfl q⟩⟩
end Mine
end
section
open PySem PySem.W PySem.Calls PyProof.Rows
set_option Elab.async false
set_option linter.unusedVariables false
set_option maxRecDepth 1000000
set_option maxHeartbeats 0
namespace Mine
theorem abs_gets {T : BT} {n : Nat} {life : Life} : ∀ {as : List Addr} {os : List Obj}, as.map (fun a => (T.get a).bind alive) = os.map some → (∀ a ∈ as, a < n) → as.map (absHeap T n life).get? = os.map some
  | [], [], _, _ => rfl
  | [], _ :: _, h, _ => by cases h
  | _ :: _, [], h, _ => by cases h
  | a :: as, o :: os, h, hn => by
    rw [List.map_cons, List.map_cons, List.cons.injEq] at h
    obtain ⟨o', g, al⟩ := Option.bind_eq_some_iff.mp h.1
    rw [List.map_cons, List.map_cons, abs_get (hn a List.mem_cons_self) g, al, abs_gets h.2 fun x hx => hn x (List.mem_cons_of_mem _ hx)]
theorem kAs_lt : ∀ a ∈ kAs, a < 963 := by decide +kernel
theorem hd_size : ∀ w : World, ((boot_heap w.params).isNs mainGlobals && (#[] : Array GenState).size == 0, (boot_heap w.params).objs.size, (boot_heap w.params).nsMap mainGlobals "__annotations__") = (true, 11, some (.ref 6)) := by
  intro w
  kernel_rfl
theorem hd_open : opening PySem.Challenge.pw_nz0374_01 = plainProg PySem.Challenge.pw_nz0374_01.main.scope.names := by kernel_rfl
theorem hd_fence : ∀ s, fenceModules? PySem.Challenge.pw_nz0374_01 s = some s := by
  intro s
  kernel_rfl
theorem hd_top (w : World) (os : OsState) : ∃ s : Shared, topRun treeTable PySem.Challenge.pw_nz0374_01 w 11 (some (.ref 6)) (12 + (1 + (7123 + 2))) ⟨boot_heap w.params, #[], boot_drawn, boot_toks, os⟩ (topStub PySem.Challenge.pw_nz0374_01) = some s ∧
    (staticsOk (importedModules PySem.Challenge.pw_nz0374_01.main.body) (boot_heap w.params) s.heap && namesBound PySem.Challenge.pw_nz0374_01 s.heap && gensDone s && laidKept (boot_heap w.params) s.heap) = true ∧
    openSeen hQ hL (importedModules PySem.Challenge.pw_nz0374_01.main.body) hXt true s = openGood hQ hL ∧ hYf s = hYa w := by
  have h := hd_all w os
  rw [← PySem.W.Fast.te10110043849684766642, ← PySem.W.Fast.te14364793385576792824, ← PySem.W.Fast.te12563942051412417395, ← PySem.W.Fast.te5923862056798008813, ← PySem.W.Fast.te4187177175401517315] at h
  obtain ⟨⟨f, s', c, q⟩, h1, h2⟩ := Option.map_eq_some_iff.mp h
  simp only [Prod.mk.injEq] at h2
  obtain ⟨rfl, rfl, rfl, hA, hB, hn, hC', hD⟩ := h2
  have r1 := segRun_of h1
  have k1 := piece_nil (env := hEnv) (hd_fin w s'.abs)
  have k2 := piece_app (rest := []) r1 k1
  rw [List.append_nil] at k2
  have k3 := piece_block (hd_block w os) k2
  have k4 := go_top (hd_pre w os) k3
  refine ⟨s'.abs, k4, hA, hB, ?_⟩
  obtain ⟨T, n, life, gens, drawn, toks, os'⟩ := s'
  dsimp only at hn hC' hD
  subst hn
  have e1 : kAs.map (absHeap T 963 life).get? = ((kk.heap_1 w.params).map (·.2)).map some := abs_gets (by rw [List.map_map]; exact hC') kAs_lt
  obtain ⟨o1, ho1⟩ := Option.isSome_iff_exists.mp hD
  obtain ⟨o', g, al⟩ := Option.bind_eq_some_iff.mp ho1
  have e2 : (absHeap T 963 life).get? 1 = some o1 := (abs_get (by decide) g).trans al
  unfold hYf hYa
  refine Prod.ext ?_ ?_
  · show kAs.map (absHeap T 963 life).get? = _
    rw [e1, List.map_map]; rfl
  · show ((absHeap T 963 life).get? 1).isSome = true
    rw [e2]; rfl
theorem leftO_of {p q : Program} {loose : List Str} {Xt : Shared → Bool} {α : Type} {Yf : Shared → α} {Ya : World → α} {N M : Nat} {H₀ : Params → Heap} {d₀ : Drawn} {k₀ m₀ : Nat} {ann : Option Value}
    (open_ : ∀ w : World, (fencedOpening treeTable p w N).map (fun s => (s.heap, s.gens, s.drawn, s.toks)) = some (H₀ w.params, Array.mk [], d₀, k₀))
    (size : ∀ w : World, ((H₀ w.params).isNs mainGlobals && (#[] : Array GenState).size == 0, (H₀ w.params).objs.size, (H₀ w.params).nsMap mainGlobals "__annotations__") = (true, m₀, ann))
    (run : ∀ (w : World) (os : OsState), ∃ s : Shared, topRun treeTable p w m₀ ann M ⟨H₀ w.params, #[], d₀, k₀, os⟩ (topStub p) = some s ∧
      (staticsOk (importedModules p.main.body) (H₀ w.params) s.heap && namesBound p s.heap && gensDone s && laidKept (H₀ w.params) s.heap) = true ∧ openSeen q loose (importedModules p.main.body) Xt true s = openGood q loose ∧ Yf s = Ya w)
    (le : M ≤ N) : LeftO p q loose Xt Yf Ya N := fun w => by
  obtain ⟨⟨h, gs, d, k, os⟩, e, e'⟩ := Option.map_eq_some_iff.mp (open_ w)
  obtain ⟨rfl, rfl, rfl, rfl⟩ : h = H₀ w.params ∧ gs = Array.mk [] ∧ d = d₀ ∧ k = k₀ := by simpa using e'
  obtain ⟨z1, z2, z3⟩ : _ ∧ _ ∧ _ := by simpa only [Prod.mk.injEq] using size w
  obtain ⟨s, r, l1, l2, l3⟩ := run w os
  have r := topRun_mono (N - M) _ _ _ _ r
  rw [show M + (N - M) = N by lia] at r
  have t : topFrom treeTable p w N ⟨H₀ w.params, #[], d, k, os⟩ = some s := by
    unfold topFrom
    dsimp only
    rw [z1, z2, z3, r]
    show (match staticsOk (importedModules p.main.body) (H₀ w.params) s.heap && namesBound p s.heap && gensDone s && laidKept (H₀ w.params) s.heap with | true => _ | false => _) = _
    rw [l1]
  unfold openEnds
  rw [e]
  show (topFrom treeTable p w N _).map _ = _
  rw [t]
  exact congrArg some (Prod.ext l2 l3)
theorem hd_left : LeftO PySem.Challenge.pw_nz0374_01 hQ hL hXt hYf hYa 20000 :=
  leftO_of (boot_open hd_open (by decide) hd_fence) hd_size hd_top (by decide)
end Mine
end
open PySem PySem.W PyProof.Rows
set_option maxRecDepth 100000 in
set_option maxHeartbeats 8000000 in
theorem PySem.Challenge.cw_nz0374_01_holds : PySem.Challenge.rw_nz0374_01.Holds := by
  with_reducible exact holds_law Mine.said_ok fun said => Mine.holds_top Mine.hd_left said
