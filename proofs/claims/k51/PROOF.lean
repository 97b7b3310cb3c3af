import PyProof.Rows.All
import Wide.All
import OpenK.AllK
import Wide.FinOn
import HandS.ForMost
import HandS.Exc
import HandS.ExcCtx
import HandS.WordsExc
import HandS.Lambda
import HandS.Defaults
import HandS.CallSlots
import HandS.ExcOwn
import HandS.SortInts
import HandS.Zip
import HandS.WideBits
import HandS.More
import HandS.SetFor
import HandS.Conv
import HandS.OwnEq
import HandS.NoneIn
import KE.GoesMore
import HandS.Codes
import HandS.Head0
import HandS.Head1
import HandS.Head2
import HandS.HeadEnd
import HandS.HeadHook1
import HandS.HeadHook2
import HandS.HeadHook3
import HandS.HeadHook4
import HandS.HeadWalk
import HandS.EndTab
import HandS.TupAny
import HandS.HotCalls
import HandS.ExcIs
import HandS.ExcField
import HandS.IsInst
import HandS.SetBool
import HandS.SortKw
import PyProof.MinMaxWalk
import HandS.Strs
import HandS.Dict
import HandS.Style
import PyProof.WalksMore
import HandS.MakeKwOnly
import HandS.WordsDict
import HandS.Small
import HandS.Text
import PyProof.CollectIter
import HandS.ExcInit
import KE.GoesZip
import HandS.FStr
import PyProof.InstNe
import HandS.DictComp
import PyProof.StrOps2
import KE.KIndexOf
import PyProof.ListStr
import HandS.TupLe
import KE.KDictPairs
import HandS.TupMul
import KE.SortData
import PyProof.SumWalkG
import PyProof.NeKinds
import PyProof.EqAt
import KE.KDictKeyed
import PyProof.StrLaws
import PyProof.EqLayable
import PyProof.Rows.InDataRows
import PySem.Challenge.RW_foldberth_k51_cells_of_wefts
set_option Elab.async false
set_option linter.all false
set_option autoImplicit false
set_option maxRecDepth 100000
set_option maxHeartbeats 4000000
namespace Hz
open PySem PySem.Spec PyProof.Rows L2
def blFa : List He.Fa := [.free "len", .free "range", .free "enumerate", .free "zip", .free "sorted", .free "sum", .free "all", .free "any", .free "list", .free "tuple", .free "int", .free "isinstance", .free "min", .free "max", .free "set", .free "abs", .free "bool", .free "str", .free "repr", .free "dict"]
def oexB (K : PySem.W.Frag) (C : Addr) : Bool := (match K.lookup C with
  | some ⟨.type "type", _, .cls cd, sl⟩ => (match cd.mro, sl.toList with
    | .ref C' :: bm, [_, _, _, _, some (.builtin n), _] => C' == C && n == "ValueError.__new__" && !cd.hasDel && cd.hasDict && PySem.HandSPX.refsVE bm
    | _, _ => false)
  | _ => false) && (He.eqO (PySem.W.findIn K (.ref C) "__setattr__") (some (some (.builtin "object.__setattr__"))) && (decide (PySem.W.subIn K (.ref C) (.type "BaseException") = some true) && (decide (PySem.W.typeIn K (.ref C) = some (.type "type")) && PySem.W.keepIn K (.ref C))))
def basB (K : PySem.W.Frag) (B : Addr) : Bool := He.eqO (PySem.W.specialIn K (.ref B) "__getattribute__") (some (some (.builtin "type.__getattribute__"))) && (decide (PySem.W.typeIn K (.ref B) = some (.type "type")) && (PySem.W.readsIn K B (.type "type") && (match PySem.W.findCls K (.ref B) (.type "type") "__init__" with | some (.val (.builtin n)) => n == "ValueError.__init__" | _ => false)))
def xmB (K : PySem.W.Frag) (c f : Str) : Bool := He.eqO (PySem.W.findIn K (.ref (He.ga K c)) f) (some none) && (He.eqO (PySem.W.findIn K (.ref (He.ga K c)) "__init__") (some (some (.ref (He.ma K (He.ga K c) "__init__")))) && decide (PySem.W.typeIn K (.ref (He.ma K (He.ga K c) "__init__")) = some (.type "function")))
def frZ (g : Addr → Option Obj) (as : List Addr) : PySem.W.Frag := He.frT g as
def obsZ (as : List Addr) (fa : List He.Fa) (fn : List He.DefD) (ts : List He.Tab) (tf : List He.Defn) (ex : PySem.W.Frag → Bool) (g : Addr → Option Obj) : He.AlX :=
  (He.obsT fa fn ts (frZ g as), ex (frZ g as) && He.tabsB g tf (frZ g as))
theorem saysZ_of {as : List Addr} {fa : List He.Fa} {fn : List He.DefD} {ts : List He.Tab} {tf : List He.Defn} {ex : PySem.W.Frag → Bool} {w : World} {h : Heap} (e : obsZ as fa fn ts tf ex h.get? = He.valX fn ts w) : He.SaysX fa fn ts tf ex w h (frZ h.get? as) := by
  have z1 := congrArg Prod.fst e
  have z2 : (ex (frZ h.get? as) && He.tabsB h.get? tf (frZ h.get? as)) = true := congrArg Prod.snd e
  obtain ⟨y1, y2⟩ := He.ba z2
  have tabs : ∀ p ∈ tf, PySem.W.codeHdIn (frZ h.get? as) (He.cT (frZ h.get? as) p).1 (He.cT (frZ h.get? as) p).2 = true ∧ ∃ o, h.get? (He.cT (frZ h.get? as) p).2 = some o ∧ He.emptyTab o = true := fun p hp => by
    obtain ⟨y3, y4⟩ := He.ba (List.all_eq_true.mp y2 p hp)
    refine ⟨y3, ?_⟩
    split at y4
    · rename_i o q
      exact ⟨o, q, y4⟩
    · cases y4
  refine ⟨z1, y1, fun p hp => (tabs p hp).1, fun p hp => ?_, fun p hp => ?_⟩
  · obtain ⟨_, o, q, z⟩ := tabs p hp
    exact He.frT_none q z
  · obtain ⟨_, o, q, z⟩ := tabs p hp
    exact q.trans (congrArg some (He.emptyTab_eq z))
def hookZ (as : List Addr) (fa : List He.Fa) (fn : List He.DefD) (ts : List He.Tab) (tf : List He.Defn) (ex : PySem.W.Frag → Bool) : PySem.W.Hook where
  α := He.AlX
  obs := fun s => obsZ as fa fn ts tf ex s.heap.get?
  val := fun w => He.valX fn ts w
  says := (He.hookX 0 fa fn ts tf ex).says
  of := fun _ _ e => ⟨_, He.frT_in, saysZ_of e⟩
  keeps := (He.hookX 0 fa fn ts tf ex).keeps
theorem obsZ_eq {as : List Addr} {fa : List He.Fa} {fn : List He.DefD} {ts : List He.Tab} {tf : List He.Defn} {ex : PySem.W.Frag → Bool} {g : Addr → Option Obj} {s : Shared} (h : ∀ a, g a = s.heap.get? a) : obsZ as fa fn ts tf ex g = (hookZ as fa fn ts tf ex).obs s := by
  obtain rfl : g = s.heap.get? := funext h
  rfl
end Hz
namespace K51
open PySem L2
def top (i : Nat) : Stmt := PySem.Challenge.pw_foldberth_k51_cells_of_wefts.main.body.getD i (.Pass ⟨0, 0, 0, 0⟩)
abbrev s_NoTableU_initU : Stmt := inClass (top 8) 0
abbrev s_NoSideU_initU : Stmt := inClass (top 9) 0
abbrev s__law_box : Stmt := top 37
abbrev s__law_take : Stmt := top 38
abbrev s__law_shuffled : Stmt := top 41
abbrev s__law_frame : Stmt := top 46
abbrev s__law_some_sides : Stmt := top 47
abbrev s__law_count_in : Stmt := top 48
abbrev s__law_of : Stmt := top 39
abbrev s__law_cells : Stmt := top 44
abbrev s__law_numbers : Stmt := top 42
abbrev s__law_lines : Stmt := top 45
abbrev s__law_tables : Stmt := top 51
abbrev s__law_sides_of : Stmt := top 53
abbrev s__law_tree : Stmt := top 54
abbrev s__law_triples : Stmt := top 52
abbrev s__law_spread_out : Stmt := top 50
abbrev s__law_cut : Stmt := top 49
abbrev s__law_mixed : Stmt := top 43
abbrev s__law_worth : Stmt := top 55
abbrev s__law_meant : Stmt := top 56
abbrev s_is_name : Stmt := top 23
abbrev s_need_sides : Stmt := top 24
abbrev s_need_frame : Stmt := top 29
abbrev s_in_order : Stmt := top 30
abbrev s_Weft_knot : Stmt := inClass (top 33) 2
abbrev s_Weft_part_of : Stmt := inClass (top 33) 1
abbrev s_WeftU_initU : Stmt := inClass (top 33) 0
abbrev s_FoldU_initU : Stmt := inClass (top 20) 0
abbrev s_cut_fold : Stmt := top 32
abbrev s_Fold_size : Stmt := inClass (top 20) 6
abbrev s_blended : Stmt := top 13
abbrev s_picked : Stmt := top 14
abbrev s_Fold_to : Stmt := inClass (top 20) 7
abbrev s_digits_in : Stmt := top 31
abbrev s_mixed : Stmt := top 26
abbrev s_cells_of : Stmt := top 35
abbrev s__law_same : Stmt := top 40
abbrev s_sides_of : Stmt := top 34
abbrev s_law : Stmt := top 57
def d_NoTableU_initU : He.DefD := ⟨("NoTable", some "__init__"), "__init__", "NoTable.__init__", defArgs s_NoTableU_initU, defBody s_NoTableU_initU, defScope s_NoTableU_initU, [], []⟩
def d_NoSideU_initU : He.DefD := ⟨("NoSide", some "__init__"), "__init__", "NoSide.__init__", defArgs s_NoSideU_initU, defBody s_NoSideU_initU, defScope s_NoSideU_initU, [], []⟩
def d__law_box : He.DefD := ⟨("_law_box", none), "_law_box", "_law_box", defArgs s__law_box, defBody s__law_box, defScope s__law_box, [], []⟩
def d__law_take : He.DefD := ⟨("_law_take", none), "_law_take", "_law_take", defArgs s__law_take, defBody s__law_take, defScope s__law_take, [], []⟩
def d__law_shuffled : He.DefD := ⟨("_law_shuffled", none), "_law_shuffled", "_law_shuffled", defArgs s__law_shuffled, defBody s__law_shuffled, defScope s__law_shuffled, [], []⟩
def d__law_frame : He.DefD := ⟨("_law_frame", none), "_law_frame", "_law_frame", defArgs s__law_frame, defBody s__law_frame, defScope s__law_frame, [], []⟩
def d__law_some_sides : He.DefD := ⟨("_law_some_sides", none), "_law_some_sides", "_law_some_sides", defArgs s__law_some_sides, defBody s__law_some_sides, defScope s__law_some_sides, [], []⟩
def d__law_count_in : He.DefD := ⟨("_law_count_in", none), "_law_count_in", "_law_count_in", defArgs s__law_count_in, defBody s__law_count_in, defScope s__law_count_in, [], []⟩
def d__law_of : He.DefD := ⟨("_law_of", none), "_law_of", "_law_of", defArgs s__law_of, defBody s__law_of, defScope s__law_of, [], []⟩
def d__law_cells : He.DefD := ⟨("_law_cells", none), "_law_cells", "_law_cells", defArgs s__law_cells, defBody s__law_cells, defScope s__law_cells, [], []⟩
def d__law_numbers : He.DefD := ⟨("_law_numbers", none), "_law_numbers", "_law_numbers", defArgs s__law_numbers, defBody s__law_numbers, defScope s__law_numbers, [], []⟩
def d__law_lines : He.DefD := ⟨("_law_lines", none), "_law_lines", "_law_lines", defArgs s__law_lines, defBody s__law_lines, defScope s__law_lines, [], []⟩
def d__law_tables : He.DefD := ⟨("_law_tables", none), "_law_tables", "_law_tables", defArgs s__law_tables, defBody s__law_tables, defScope s__law_tables, [], []⟩
def d__law_sides_of : He.DefD := ⟨("_law_sides_of", none), "_law_sides_of", "_law_sides_of", defArgs s__law_sides_of, defBody s__law_sides_of, defScope s__law_sides_of, [], []⟩
def d__law_tree : He.DefD := ⟨("_law_tree", none), "_law_tree", "_law_tree", defArgs s__law_tree, defBody s__law_tree, defScope s__law_tree, [], []⟩
def d__law_triples : He.DefD := ⟨("_law_triples", none), "_law_triples", "_law_triples", defArgs s__law_triples, defBody s__law_triples, defScope s__law_triples, [], []⟩
def d__law_spread_out : He.DefD := ⟨("_law_spread_out", none), "_law_spread_out", "_law_spread_out", defArgs s__law_spread_out, defBody s__law_spread_out, defScope s__law_spread_out, [], []⟩
def d__law_cut : He.DefD := ⟨("_law_cut", none), "_law_cut", "_law_cut", defArgs s__law_cut, defBody s__law_cut, defScope s__law_cut, [], []⟩
def d__law_mixed : He.DefD := ⟨("_law_mixed", none), "_law_mixed", "_law_mixed", defArgs s__law_mixed, defBody s__law_mixed, defScope s__law_mixed, [], []⟩
def d__law_worth : He.DefD := ⟨("_law_worth", none), "_law_worth", "_law_worth", defArgs s__law_worth, defBody s__law_worth, defScope s__law_worth, [], []⟩
def d__law_meant : He.DefD := ⟨("_law_meant", none), "_law_meant", "_law_meant", defArgs s__law_meant, defBody s__law_meant, defScope s__law_meant, [], []⟩
def d_is_name : He.DefD := ⟨("is_name", none), "is_name", "is_name", defArgs s_is_name, defBody s_is_name, defScope s_is_name, [], []⟩
def d_need_sides : He.DefD := ⟨("need_sides", none), "need_sides", "need_sides", defArgs s_need_sides, defBody s_need_sides, defScope s_need_sides, [], []⟩
def d_need_frame : He.DefD := ⟨("need_frame", none), "need_frame", "need_frame", defArgs s_need_frame, defBody s_need_frame, defScope s_need_frame, [], []⟩
def d_in_order : He.DefD := ⟨("in_order", none), "in_order", "in_order", defArgs s_in_order, defBody s_in_order, defScope s_in_order, [], []⟩
def d_Weft_knot : He.DefD := ⟨("Weft", some "knot"), "knot", "Weft.knot", defArgs s_Weft_knot, defBody s_Weft_knot, defScope s_Weft_knot, [], []⟩
def d_Weft_part_of : He.DefD := ⟨("Weft", some "part_of"), "part_of", "Weft.part_of", defArgs s_Weft_part_of, defBody s_Weft_part_of, defScope s_Weft_part_of, [], []⟩
def d_WeftU_initU : He.DefD := ⟨("Weft", some "__init__"), "__init__", "Weft.__init__", defArgs s_WeftU_initU, defBody s_WeftU_initU, defScope s_WeftU_initU, [], []⟩
def d_FoldU_initU : He.DefD := ⟨("Fold", some "__init__"), "__init__", "Fold.__init__", defArgs s_FoldU_initU, defBody s_FoldU_initU, defScope s_FoldU_initU, [], []⟩
def d_cut_fold : He.DefD := ⟨("cut_fold", none), "cut_fold", "cut_fold", defArgs s_cut_fold, defBody s_cut_fold, defScope s_cut_fold, [], []⟩
def d_Fold_size : He.DefD := ⟨("Fold", some "size"), "size", "Fold.size", defArgs s_Fold_size, defBody s_Fold_size, defScope s_Fold_size, [], []⟩
def d_blended : He.DefD := ⟨("blended", none), "blended", "blended", defArgs s_blended, defBody s_blended, defScope s_blended, [], []⟩
def d_picked : He.DefD := ⟨("picked", none), "picked", "picked", defArgs s_picked, defBody s_picked, defScope s_picked, [], []⟩
def d_Fold_to : He.DefD := ⟨("Fold", some "to"), "to", "Fold.to", defArgs s_Fold_to, defBody s_Fold_to, defScope s_Fold_to, [], []⟩
def d_digits_in : He.DefD := ⟨("digits_in", none), "digits_in", "digits_in", defArgs s_digits_in, defBody s_digits_in, defScope s_digits_in, [], []⟩
def d_mixed : He.DefD := ⟨("mixed", none), "mixed", "mixed", defArgs s_mixed, defBody s_mixed, defScope s_mixed, [], []⟩
def d_cells_of : He.DefD := ⟨("cells_of", none), "cells_of", "cells_of", defArgs s_cells_of, defBody s_cells_of, defScope s_cells_of, [], []⟩
def d__law_same : He.DefD := ⟨("_law_same", none), "_law_same", "_law_same", defArgs s__law_same, defBody s__law_same, defScope s__law_same, [], []⟩
def d_sides_of : He.DefD := ⟨("sides_of", none), "sides_of", "sides_of", defArgs s_sides_of, defBody s_sides_of, defScope s_sides_of, [], []⟩
def d_law : He.DefD := ⟨("law", none), "law", "law", defArgs s_law, defBody s_law, defScope s_law, [], []⟩
def fns : List He.DefD := [d__law_box, d__law_take, d__law_shuffled, d__law_frame, d__law_some_sides, d__law_count_in, d__law_of, d__law_cells, d__law_numbers, d__law_lines, d__law_tables, d__law_sides_of, d__law_tree, d__law_triples, d__law_spread_out, d__law_cut, d__law_mixed, d__law_worth, d__law_meant, d_is_name, d_need_sides, d_need_frame, d_in_order, d_Weft_knot, d_Weft_part_of, d_WeftU_initU, d_FoldU_initU, d_cut_fold, d_Fold_size, d_blended, d_picked, d_Fold_to, d_digits_in, d_mixed, d_cells_of, d__law_same, d_sides_of, d_law, d_NoTableU_initU, d_NoSideU_initU]
def tfd : List He.Defn := []
def facl : List He.Fa := Hz.blFa ++ [.glo "_law_box", .glo "_law_take", .glo "_law_shuffled", .glo "_law_frame", .glo "_law_some_sides", .glo "_law_count_in", .glo "_law_of", .glo "_law_cells", .glo "_law_numbers", .glo "_law_lines", .glo "_law_tables", .glo "_law_sides_of", .glo "_law_tree", .glo "_law_triples", .glo "_law_spread_out", .glo "_law_cut", .glo "_law_mixed", .glo "_law_worth", .glo "_law_meant", .str "SMALL" "abcdefghijklmnopqrstuvwxyz", .glo "is_name", .glo "BadSides", .exc "BadSides", .int "MOST_DIGITS" 12, .glo "need_sides", .int "MOST_DEEP" 7, .glo "need_frame", .cls "Weft", .noat "Weft" "frame", .noat "Weft" "known", .noat "Weft" "knots", .glo "FoldError", .glo "NoTable", .glo "in_order", .glo "NoSide", .meth "Weft" "knot", .meth "Weft" "part_of", .noat "Weft" "whole", .mkr "Weft", .glo "Weft", .glo "BadFold", .exc "BadFold", .cls "Fold", .noat "Fold" "lines", .noat "Fold" "wide", .mkr "Fold", .glo "Fold", .glo "cut_fold", .meth "Fold" "size", .glo "BadNumber", .exc "BadNumber", .glo "blended", .glo "picked", .meth "Fold" "to", .glo "digits_in", .glo "mixed", .glo "cells_of", .glo "_law_same", .glo "sides_of", .glo "law"]
def exs : List (PySem.W.Frag → Bool) := [fun K => Hz.basB K (He.ga K "FoldError"), fun K => Hz.xmB K "NoTable" "name", fun K => Hz.oexB K (He.ga K "NoTable"), fun K => Hz.xmB K "NoSide" "name", fun K => Hz.oexB K (He.ga K "NoSide")]
def ex (K : PySem.W.Frag) : Bool := exs.all fun f => f K
abbrev R : PySem.W.OpenRow := PySem.W.OpenLaw.row PySem.Challenge.rw_foldberth_k51_cells_of_wefts
def asl0 : List Addr := [3, 6, 4, 21, 31, 44, 56, 68, 80, 92, 111, 130, 139, 146, 151, 158, 163, 170, 177, 295, 304, 309, 316, 321, 326, 331, 338, 367, 376, 381]
def asl1 : List Addr := [388, 395, 402, 407, 414, 419, 426, 431, 436, 441, 446, 451, 458, 465, 472, 479, 484, 491, 496, 501, 508, 0, 20, 30, 43, 55, 67, 79, 91, 110]
def asl2 : List Addr := [129, 138, 145, 150, 157, 162, 169, 176, 294, 303, 308, 315, 320, 325, 330, 337, 366, 375, 380, 387, 394, 401, 406, 413, 418, 425, 430, 435, 440, 445]
def asl3 : List Addr := [450, 457, 464, 471, 478, 483, 490, 495, 500, 507, 15, 16, 17, 18, 19, 29, 32, 42, 54, 66, 78, 90, 108, 109, 127, 128, 133, 134, 135, 136]
def asl4 : List Addr := [137, 140, 141, 142, 143, 144, 147, 148, 149, 152, 153, 154, 155, 156, 159, 160, 161, 164, 165, 166, 167, 168, 171, 172, 173, 174, 175, 191, 198, 205]
def asl5 : List Addr := [212, 219, 226, 233, 240, 247, 254, 261, 268, 273, 278, 285, 292, 293, 296, 297, 300, 301, 302, 305, 306, 307, 310, 311, 312, 313, 314, 317, 318, 319]
def asl6 : List Addr := [322, 323, 324, 327, 328, 329, 332, 333, 334, 335, 336, 352, 357, 364, 365, 368, 369, 372, 373, 374, 377, 378, 379, 382, 383, 384, 385, 386, 389, 390]
def asl7 : List Addr := [391, 392, 393, 396, 397, 398, 399, 400, 403, 404, 405, 408, 409, 410, 411, 412, 415, 416, 417, 420, 421, 422, 423, 424, 427, 428, 429, 432, 433, 434]
def asl8 : List Addr := [437, 438, 439, 442, 443, 444, 447, 448, 449, 452, 453, 454, 455, 456, 459, 460, 461, 462, 463, 466, 467, 468, 469, 470, 473, 474, 475, 476, 477, 480]
def asl9 : List Addr := [481, 482, 485, 486, 487, 488, 489, 492, 493, 494, 497, 498, 499, 502, 503, 504, 505, 506, 107, 126, 190, 197, 204, 211, 218, 225, 232, 239, 246, 253]
def asl10 : List Addr := [260, 267, 272, 277, 284, 291, 351, 356, 363, 102, 103, 104, 105, 106, 121, 122, 123, 124, 125, 185, 186, 187, 188, 189, 192, 193, 194, 195, 196, 199]
def asl11 : List Addr := [200, 201, 202, 203, 206, 207, 208, 209, 210, 213, 214, 215, 216, 217, 220, 221, 222, 223, 224, 227, 228, 229, 230, 231, 234, 235, 236, 237, 238, 241]
def asl12 : List Addr := [242, 243, 244, 245, 248, 249, 250, 251, 252, 255, 256, 257, 258, 259, 262, 263, 264, 265, 266, 269, 270, 271, 274, 275, 276, 279, 280, 281, 282, 283]
def asl13 : List Addr := [286, 287, 288, 289, 290, 346, 347, 348, 349, 350, 353, 354, 355, 358, 359, 360, 361, 362]
def asl : List Addr := cStatics :: (asl0 ++ asl1 ++ asl2 ++ asl3 ++ asl4 ++ asl5 ++ asl6 ++ asl7 ++ asl8 ++ asl9 ++ asl10 ++ asl11 ++ asl12 ++ asl13)
abbrev hk : PySem.W.Hook := Hz.hookZ asl facl fns [] tfd ex
def ob (s : PySem.W.SharedT) : He.AlX := Hz.obsZ asl facl fns [] tfd ex (HandSHeadRun.getT s)
theorem ob_eq (s : PySem.W.SharedT) : ob s = hk.obs s.abs := Hz.obsZ_eq (HandSHeadRun.getT_eq s)
def loose0 : List Str := ["_wall", "FoldError", "BadNumber", "BadFold", "Unfit", "NotPart", "BadSides", "NoTable", "NoSide", "MOST_DIGITS", "top_of", "blended", "picked", "reduced", "basis_of", "traced", "trail_to", "Fold", "SMALL", "is_name", "need_sides", "mixed", "MOST_DEEP", "need_frame", "in_order", "digits_in", "cut_fold", "Weft", "sides_of", "cells_of"]
def loose1 : List Str := ["_law_box", "_law_take", "_law_of", "_law_same", "_law_shuffled", "_law_numbers", "_law_mixed", "_law_cells", "_law_lines", "_law_frame", "_law_some_sides", "_law_count_in", "_law_cut", "_law_spread_out", "_law_tables", "_law_triples", "_law_sides_of", "_law_tree", "_law_worth", "_law_meant"]
def loose : List Str := loose0 ++ loose1
set_option maxHeartbeats 0 in
theorem run (w : World) : HandSHeadRun.RunEq R (PySem.W.view R.prog [57]) hk ob 20000 loose w := by
  intro os
  kernel_rfl
end K51
namespace Mm
open PySem L2
inductive D where
  | non | bl (b : Bool) | int (i : Int) | str (x : Str)
  | lst (xs : List D) | tup (xs : List D) | ins (c : Str) (fs : List (Str × D)) | ref (n : Nat) | scr (ns : List Int) | ty (n : String) | cls (c : Str)
  | adr (a : Addr) | set (xs : List Int) | dic (ks : List (Key × D)) | tdc (ks : List (List Key × Int)) | tds (ks : List (List Int)) | any
inductive Cell where
  | lst (xs : List D) | ins (c : Str) (fs : List (Str × D)) | dic (ks : List (Key × D)) | tdc (ks : List (List Key × Int)) | lck (ks : List (Key × D)) | mem (ks : List ((List Int × List Int) × Int)) | lkl (ds : List D)
def tsV (ks : List (List Int)) : List (List Key × V) := ks.map fun k => (k.map Sum.inl, .bl true)
def tdV (ks : List (List Key × Int)) : List (List Key × V) := ks.map fun kv => (kv.1, .int kv.2)
def Cell.d : Cell → D
  | .lst xs => .lst xs
  | .ins c fs => .ins c fs
  | .dic ks => .dic ks
  | .tdc ks => .tdc ks
  | .lck ks => .dic ks
  | .mem _ => .any
  | .lkl _ => .any
inductive Sl where
  | no | v (d : D) | o (c : Cell)
abbrev Sto := List Cell
abbrev Envr := List Sl
inductive R (α : Type) where
  | stuck | exc (c : Str) (p : Option D) (s : Sto) | ok (a : α) (s : Sto)
inductive Ret where
  | val (d : D) | own (c : Cell)
def Ret.d : Ret → D
  | .val d => d
  | .own c => c.d
inductive Out where
  | stuck | nx (e : Envr) (s : Sto) | rt (r : Ret) (s : Sto) | bk (e : Envr) (s : Sto) | ct (e : Envr) (s : Sto) | exc (c : Str) (p : Option D) (e : Envr) (s : Sto)
structure Gam where
  K : PySem.W.Frag
  ca : Str → Addr
  T : List (Addr × Str)
structure Wd where
  rho : List Addr
  G : Hp
def TupR (K : PySem.W.Frag) (H : Hp) (a : Addr) (vs : List V) : Prop := (H a = some (.tup vs) ∨ False) ∨ (SqT K H a vs ∧ ∃ x r, vs = V.str x :: r)
theorem TupR.sq {K : PySem.W.Frag} {H : Hp} {a : Addr} {vs : List V} (h : TupR K H a vs) : SqT K H a vs := by
  rcases h with (h | h) | h
  · exact .inl (.inl h)
  · exact h.elim
  · exact h.1
mutual
def Rep (g : Gam) (w : Wd) : D → V → Prop
  | .non, v => v = .non
  | .bl b, v => v = .bl b
  | .int i, v => v = .int i
  | .str x, v => v = .str x
  | .lst ds, v => ∃ a vs, v = .ref a ∧ w.G a = some (.lst vs) ∧ RepL g w ds vs
  | .tup ds, v => ∃ a vs, v = .ref a ∧ TupR g.K w.G a vs ∧ RepL g w ds vs
  | .ins c fs, v => ∃ a dx gs, v = .ref a ∧ w.G a = some (.ins (g.ca c) dx gs) ∧ RepF g w fs gs
  | .ref n, v => ∃ a, w.rho[n]? = some a ∧ v = .ref a
  | .scr ns, v => ∃ a, v = .ref a ∧ SqL g.K w.G a (ns.map V.int)
  | .ty n, v => v = .ty n
  | .cls c, v => v = .ref (g.ca c)
  | .adr a, v => v = .ref a
  | .set xs, v => ∃ a S, v = .ref a ∧ w.G a = some (.set S xs.length) ∧ xs.Nodup ∧ ∀ i, S i = decide (i ∈ xs)
  | .dic ks, v => ∃ a vs, v = .ref a ∧ Rd w.G a (.dK vs) ∧ RepK g w ks vs
  | .tdc ks, v => ∃ a, v = .ref a ∧ w.G a = some (.dT (tdV ks))
  | .tds ks, v => ∃ a, v = .ref a ∧ w.G a = some (.dT (tsV ks))
  | .any, v => ∃ a, v = .ref a
def RepL (g : Gam) (w : Wd) : List D → List V → Prop
  | [], vs => vs = []
  | d :: ds, vs => ∃ v r, vs = v :: r ∧ Rep g w d v ∧ RepL g w ds r
def RepF (g : Gam) (w : Wd) : List (Str × D) → List (Str × V) → Prop
  | [], gs => gs = []
  | (f, d) :: fs, gs => ∃ v r, gs = (f, v) :: r ∧ Rep g w d v ∧ RepF g w fs r
def RepK (g : Gam) (w : Wd) : List (Key × D) → List (Key × V) → Prop
  | [], gs => gs = []
  | (f, d) :: fs, gs => ∃ v r, gs = (f, v) :: r ∧ Rep g w d v ∧ RepK g w fs r
end
structure Wd.le (w w' : Wd) : Prop where
  pre : ∃ t, w'.rho = w.rho ++ t
  ex : Same w.G w'.G
theorem Wd.le.refl (w : Wd) : w.le w := ⟨⟨[], by simp⟩, Same.refl _⟩
theorem Wd.le.trans {a b c : Wd} (x : a.le b) (y : b.le c) : a.le c := by
  obtain ⟨t, e⟩ := x.pre
  obtain ⟨u, e'⟩ := y.pre
  exact ⟨⟨t ++ u, by rw [e', e, List.append_assoc]⟩, x.ex.trans y.ex⟩
theorem Wd.le.get {a b : Wd} (x : a.le b) {n : Nat} {p : Addr} (h : a.rho[n]? = some p) : b.rho[n]? = some p := by
  obtain ⟨t, e⟩ := x.pre
  rw [e, List.getElem?_append_left (List.getElem?_eq_some_iff.mp h).1]
  exact h
theorem same_rd {H H' : Hp} {a : Addr} {u : HO} (e : Same H H') (h : Rd H a u) : Rd H' a u := by
  rcases h with h | ⟨o, h⟩
  · exact .inl (e _ _ h)
  · exact .inr ⟨o, e _ _ h⟩
theorem same_sqT {K : PySem.W.Frag} {H H' : Hp} {a : Addr} {xs : List V} (e : Same H H') (h : SqT K H a xs) : SqT K H' a xs := by
  rcases h with (h | ⟨o, h⟩) | h
  · exact .inl (.inl (e _ _ h))
  · exact .inl (.inr ⟨o, e _ _ h⟩)
  · exact .inr h
theorem TupR.same {K : PySem.W.Frag} {H H' : Hp} {a : Addr} {xs : List V} (e : Same H H') (h : TupR K H a xs) : TupR K H' a xs := by
  rcases h with (h | h) | h
  · exact .inl (.inl (e _ _ h))
  · exact h.elim
  · exact .inr ⟨same_sqT e h.1, h.2⟩
mutual
theorem Rep.mono {g : Gam} {w w' : Wd} (l : w.le w') : ∀ {d : D} {v : V}, Rep g w d v → Rep g w' d v
  | .non, _, h => h
  | .bl _, _, h => h
  | .int _, _, h => h
  | .str _, _, h => h
  | .lst ds, v, h => by
    unfold Rep at h ⊢
    obtain ⟨a, vs, e, q, r⟩ := h
    exact ⟨a, vs, e, l.ex _ _ q, RepL.mono l r⟩
  | .tup ds, v, h => by
    unfold Rep at h ⊢
    obtain ⟨a, vs, e, q, r⟩ := h
    exact ⟨a, vs, e, q.same l.ex, RepL.mono l r⟩
  | .ins c fs, v, h => by
    unfold Rep at h ⊢
    obtain ⟨a, dx, gs, e, q, r⟩ := h
    exact ⟨a, dx, gs, e, l.ex _ _ q, RepF.mono l r⟩
  | .ref n, v, h => by
    unfold Rep at h ⊢
    obtain ⟨a, e, q⟩ := h
    exact ⟨a, l.get e, q⟩
  | .scr ns, v, h => by
    unfold Rep at h ⊢
    obtain ⟨a, e, q⟩ := h
    exact ⟨a, e, l.ex.seq q⟩
  | .ty _, _, h => h
  | .cls _, _, h => h
  | .adr _, _, h => h
  | .set xs, v, h => by
    unfold Rep at h ⊢
    obtain ⟨a, q, e, r, s⟩ := h
    exact ⟨a, q, e, l.ex _ _ r, s⟩
  | .dic ds, v, h => by
    unfold Rep at h ⊢
    obtain ⟨a, vs, e, q, r⟩ := h
    exact ⟨a, vs, e, same_rd l.ex q, RepK.mono l r⟩
  | .tdc ks, v, h => by
    unfold Rep at h ⊢
    obtain ⟨a, e, q⟩ := h
    exact ⟨a, e, l.ex _ _ q⟩
  | .tds ks, v, h => by
    unfold Rep at h ⊢
    obtain ⟨a, e, q⟩ := h
    exact ⟨a, e, l.ex _ _ q⟩
  | .any, v, h => by
    unfold Rep at h ⊢
    exact h
theorem RepL.mono {g : Gam} {w w' : Wd} (l : w.le w') : ∀ {ds : List D} {vs : List V}, RepL g w ds vs → RepL g w' ds vs
  | [], _, h => h
  | d :: ds, vs, h => by
    unfold RepL at h ⊢
    obtain ⟨v, r, e, a, b⟩ := h
    exact ⟨v, r, e, Rep.mono l a, RepL.mono l b⟩
theorem RepF.mono {g : Gam} {w w' : Wd} (l : w.le w') : ∀ {ds : List (Str × D)} {vs : List (Str × V)}, RepF g w ds vs → RepF g w' ds vs
  | [], _, h => h
  | (f, d) :: ds, vs, h => by
    unfold RepF at h ⊢
    obtain ⟨v, r, e, a, b⟩ := h
    exact ⟨v, r, e, Rep.mono l a, RepF.mono l b⟩
theorem RepK.mono {g : Gam} {w w' : Wd} (l : w.le w') : ∀ {ds : List (Key × D)} {vs : List (Key × V)}, RepK g w ds vs → RepK g w' ds vs
  | [], _, h => h
  | (f, d) :: ds, vs, h => by
    unfold RepK at h ⊢
    obtain ⟨v, r, e, a, b⟩ := h
    exact ⟨v, r, e, Rep.mono l a, RepK.mono l b⟩
end
theorem RepL.nil_ {g : Gam} {w : Wd} : RepL g w [] [] := by unfold RepL; rfl
theorem RepL.cons_ {g : Gam} {w : Wd} {d : D} {ds : List D} {v : V} {vs : List V} (a : Rep g w d v) (b : RepL g w ds vs) : RepL g w (d :: ds) (v :: vs) := by
  unfold RepL
  exact ⟨v, vs, rfl, a, b⟩
theorem RepL.len {g : Gam} {w : Wd} : ∀ {ds : List D} {vs : List V}, RepL g w ds vs → ds.length = vs.length
  | [], vs, h => by
    unfold RepL at h
    rw [h]
    rfl
  | d :: ds, vs, h => by
    unfold RepL at h
    obtain ⟨v, r, e, a, b⟩ := h
    rw [e, List.length_cons, List.length_cons, RepL.len b]
theorem RepL.append_ {g : Gam} {w : Wd} : ∀ {ds es : List D} {vs us : List V}, RepL g w ds vs → RepL g w es us → RepL g w (ds ++ es) (vs ++ us)
  | [], es, vs, us, h, k => by
    unfold RepL at h
    rw [h]
    exact k
  | d :: ds, es, vs, us, h, k => by
    unfold RepL at h
    obtain ⟨v, r, e, a, b⟩ := h
    rw [e]
    exact RepL.cons_ a (RepL.append_ b k)
theorem RepL.at_ {g : Gam} {w : Wd} : ∀ {ds : List D} {vs : List V} {i : Nat} {d : D}, RepL g w ds vs → ds[i]? = some d → ∃ v, vs[i]? = some v ∧ Rep g w d v
  | [], _, _, _, _, e => by simp at e
  | d :: ds, vs, 0, d', h, e => by
    unfold RepL at h
    obtain ⟨v, r, e1, a, b⟩ := h
    have e2 : d = d' := by simpa using e
    rw [e1, ← e2]
    exact ⟨v, rfl, a⟩
  | d :: ds, vs, i + 1, d', h, e => by
    unfold RepL at h
    obtain ⟨v, r, e1, a, b⟩ := h
    rw [e1]
    exact RepL.at_ (i := i) b (by simpa using e)
theorem RepL.drop_ {g : Gam} {w : Wd} : ∀ {ds : List D} {vs : List V} (n : Nat), RepL g w ds vs → RepL g w (ds.drop n) (vs.drop n)
  | _, _, 0, h => h
  | [], vs, n + 1, h => by
    unfold RepL at h
    rw [h]
    exact RepL.nil_
  | d :: ds, vs, n + 1, h => by
    unfold RepL at h
    obtain ⟨v, r, e, a, b⟩ := h
    rw [e]
    exact RepL.drop_ n b
theorem RepL.take_ {g : Gam} {w : Wd} : ∀ {ds : List D} {vs : List V} (n : Nat), RepL g w ds vs → RepL g w (ds.take n) (vs.take n)
  | _, _, 0, h => RepL.nil_
  | [], vs, n + 1, h => by
    unfold RepL at h
    rw [h]
    exact RepL.nil_
  | d :: ds, vs, n + 1, h => by
    unfold RepL at h
    obtain ⟨v, r, e, a, b⟩ := h
    rw [e]
    exact RepL.cons_ a (RepL.take_ n b)
theorem RepL.set_ {g : Gam} {w : Wd} {d : D} {v : V} (q : Rep g w d v) : ∀ {ds : List D} {vs : List V} (n : Nat), RepL g w ds vs → RepL g w (ds.set n d) (vs.set n v)
  | [], vs, n, h => by
    unfold RepL at h
    rw [h]
    exact RepL.nil_
  | e :: ds, vs, 0, h => by
    unfold RepL at h
    obtain ⟨u, r, e1, a, b⟩ := h
    rw [e1]
    exact RepL.cons_ q b
  | e :: ds, vs, n + 1, h => by
    unfold RepL at h
    obtain ⟨u, r, e1, a, b⟩ := h
    rw [e1]
    exact RepL.cons_ a (RepL.set_ q n b)
theorem RepL.ints {g : Gam} {w : Wd} : ∀ (ns : List Int), RepL g w (ns.map D.int) (ns.map V.int)
  | [] => RepL.nil_
  | n :: ns => RepL.cons_ (by unfold Rep; rfl) (RepL.ints ns)
def nKey (A B : List Int) : NestedKey := .tup [.tup (A.map .num), .tup (B.map .num)]
def MemX (g : Gam) (w : Wd) : List ((List Int × List Int) × Int) → List (NestedKey × Addr × Value) → Prop
  | [], xs => xs = []
  | ((A, B), z) :: ks, xs => ∃ t tok r, (xs = (nKey A B, t, .int z tok) :: r ∧ ∀ kz ∈ ks, kz.1 ≠ (A, B)) ∧ Rep g w (.tup [.tup (A.map .int), .tup (B.map .int)]) (.ref t) ∧ MemX g w ks r
theorem MemX.mono {g : Gam} {w w' : Wd} (l : w.le w') : ∀ {ks : List ((List Int × List Int) × Int)} {xs : List (NestedKey × Addr × Value)}, MemX g w ks xs → MemX g w' ks xs
  | [], _, h => h
  | ((A, B), z) :: ks, xs, h => by
    obtain ⟨t, tok, r, e, q, m⟩ := h
    exact ⟨t, tok, r, e, q.mono l, m.mono l⟩
def NoMem (φ : Heap → Prop) : Prop := ∀ (a : Addr) (o : Obj) (es : Array DictEntry) (ep : Nat), o.data = .dict es ep → φ ≠ fun h => h.get? a = some o
theorem noMem_of {φ : Heap → Prop} (h : ∀ hp, φ hp → ∃ b oc, hp.get? b = some oc ∧ ∀ es ep, oc.data ≠ .dict es ep) : NoMem φ := fun a o es ep hd e => by
  have gt : ∀ (b : Addr) (oc : Obj), (Heap.mk (Array.replicate (a + 1) o) {}).get? b = some oc → oc = o := fun b oc q => by
    unfold Heap.get? at q
    have at_ : ∀ x, (Array.replicate (a + 1) o)[b]? = some x → x = o := fun x hx => by
      obtain ⟨i, rfl⟩ := Array.getElem?_eq_some_iff.mp hx
      simp
    split at q
    · cases q
    · exact at_ _ q
  have ga : (Heap.mk (Array.replicate (a + 1) o) {}).get? a = some o := by
    have q : (Array.replicate (a + 1) o)[a]? = some o := by simp
    unfold Heap.get?
    split
    · rename_i c d s hx
      have hx : (Array.replicate (a + 1) o)[a]? = some _ := hx
      rw [q] at hx
      cases hx
      cases hd
    · exact q
  obtain ⟨b, oc, q1, q2⟩ := h (Heap.mk (Array.replicate (a + 1) o) {}) (by rw [e]; exact ga)
  have := gt b oc q1
  subst this
  exact q2 es ep hd
theorem noMem_code (c : Addr) (q : Str) {φ : Heap → Prop} (e : LamX.CodeO c q = .ext φ) : NoMem φ := by
  cases e
  refine noMem_of fun hp h => ?_
  obtain ⟨oc, vs, t, h1, h2, _⟩ := h
  exact ⟨c, oc, h1, fun es ep z => by rw [h2] at z; cases z⟩
def CellR (g : Gam) (w : Wd) (H : Hp) (a : Addr) : Cell → Prop
  | .mem ks => ∃ o es ep xs, H a = some (.ext fun h => h.get? a = some o) ∧ o.ExactDict ∧ o.data = .dict es ep ∧ (a == sysModules) = false ∧ (∀ (P : Program) (w' : World), es.toList = xs.map (entryOfKey (nestedKind P w'))) ∧ MemX g w ks xs
  | .lst ds => ∃ vs, H a = some (.lst vs) ∧ RepL g w ds vs
  | .ins c fs => ∃ dx gs, H a = some (.ins (g.ca c) dx gs) ∧ RepF g w fs gs
  | .dic ks => ∃ gs, H a = some (.dK gs) ∧ RepK g w ks gs
  | .tdc ks => H a = some (.dT (tdV ks))
  | .lck ks => ∃ o gs, H a = some (.frz o (.dK gs)) ∧ RepK g w ks gs
  | .lkl ds => ∃ o vs, H a = some (.frz o (.lst vs)) ∧ RepL g w ds vs
theorem CellR.some_ {g : Gam} {w : Wd} {H : Hp} {a : Addr} {c : Cell} (h : CellR g w H a c) : ∃ o, H a = some o ∧ ∀ ps, o ≠ .tbl ps := by
  cases c with
  | lst ds =>
    obtain ⟨vs, e, _⟩ := h
    exact ⟨_, e, fun ps z => by cases z⟩
  | ins c fs =>
    obtain ⟨dx, gs, e, _⟩ := h
    exact ⟨_, e, fun ps z => by cases z⟩
  | dic ks =>
    obtain ⟨gs, e, _⟩ := h
    exact ⟨_, e, fun ps z => by cases z⟩
  | tdc ks => exact ⟨_, h, fun ps z => by cases z⟩
  | lck ks =>
    obtain ⟨o, gs, e, _⟩ := h
    exact ⟨_, e, fun ps z => by cases z⟩
  | mem ks =>
    obtain ⟨o, es, ep, xs, e, _⟩ := h
    exact ⟨_, e, fun ps z => by cases z⟩
  | lkl ds =>
    obtain ⟨o, gs, e, _⟩ := h
    exact ⟨_, e, fun ps z => by cases z⟩
def Cell.fr : Cell → Prop
  | .lck _ => False
  | .lkl _ => False
  | _ => True
theorem CellR.nofrz {g : Gam} {w : Wd} {H : Hp} {a : Addr} {c : Cell} (h : CellR g w H a c) (hc : c.fr) (o : Obj) (u : HO) : H a ≠ some (.frz o u) := fun z => by
  cases c with
  | lst ds =>
    obtain ⟨vs, e, _⟩ := h
    rw [e] at z
    cases z
  | ins c fs =>
    obtain ⟨dx, gs, e, _⟩ := h
    rw [e] at z
    cases z
  | dic ks =>
    obtain ⟨gs, e, _⟩ := h
    rw [e] at z
    cases z
  | tdc ks =>
    have h : H a = some (.dT (tdV ks)) := h
    rw [h] at z
    cases z
  | lck ks => exact hc
  | lkl ks => exact hc
  | mem ks =>
    obtain ⟨o, es, ep, xs, e, _⟩ := h
    rw [e] at z
    cases z
theorem CellR.noext {g : Gam} {w : Wd} {H : Hp} {a : Addr} {c : Cell} (h : CellR g w H a c) (φ : Heap → Prop) (nm : NoMem φ) : H a ≠ some (.ext φ) := fun z => by
  cases c with
  | lst ds =>
    obtain ⟨vs, e, _⟩ := h
    rw [e] at z
    cases z
  | ins c fs =>
    obtain ⟨dx, gs, e, _⟩ := h
    rw [e] at z
    cases z
  | dic ks =>
    obtain ⟨gs, e, _⟩ := h
    rw [e] at z
    cases z
  | tdc ks =>
    have h : H a = some (.dT (tdV ks)) := h
    rw [h] at z
    cases z
  | lck ks =>
    obtain ⟨o, gs, e, _⟩ := h
    rw [e] at z
    cases z
  | mem ks =>
    obtain ⟨o, es, ep, xs, e, _, hd, _⟩ := h
    rw [e] at z
    cases z
    exact nm a o es ep hd rfl
  | lkl ds =>
    obtain ⟨o, gs, e, _⟩ := h
    rw [e] at z
    cases z
theorem tabs_upd {T : List (Addr × Str)} {H : Hp} {p : Addr} {o : HO} (t : LamX.Tabs T H) (h1 : ∀ ps, H p ≠ some (.tbl ps)) (h2 : ∀ φ, NoMem φ → H p ≠ some (.ext φ)) : LamX.Tabs T (upd H p o) := fun x hx => by
  obtain ⟨ps, a, b, c⟩ := t x hx
  refine ⟨ps, by rw [upd_ne (fun z => h1 ps (by rw [← z]; exact a))]; exact a, b, fun pos cv e => ?_⟩
  obtain ⟨c0, e1, e2⟩ := c pos cv e
  exact ⟨c0, e1, by rw [upd_ne (fun z => h2 _ (noMem_code _ _ rfl) (by rw [← z]; exact e2))]; exact e2⟩
theorem CellR.move {g : Gam} {w w' : Wd} {H H' : Hp} {a : Addr} {c : Cell} (h : CellR g w H a c) (l : w.le w') (e : H' a = H a) : CellR g w' H' a c := by
  cases c with
  | lst ds =>
    obtain ⟨vs, e1, r⟩ := h
    exact ⟨vs, e.trans e1, r.mono l⟩
  | ins c fs =>
    obtain ⟨dx, gs, e1, r⟩ := h
    exact ⟨dx, gs, e.trans e1, r.mono l⟩
  | dic ks =>
    obtain ⟨gs, e1, r⟩ := h
    exact ⟨gs, e.trans e1, r.mono l⟩
  | tdc ks => exact e.trans h
  | lck ks =>
    obtain ⟨o, gs, e1, r⟩ := h
    exact ⟨o, gs, e.trans e1, r.mono l⟩
  | mem ks =>
    obtain ⟨o, es, ep, xs, e1, h1, h2, h3, h4, h5⟩ := h
    exact ⟨o, es, ep, xs, e.trans e1, h1, h2, h3, h4, h5.mono l⟩
  | lkl ds =>
    obtain ⟨o, gs, e1, r⟩ := h
    exact ⟨o, gs, e.trans e1, r.mono l⟩
structure CellsR (g : Gam) (w : Wd) (H : Hp) (S : Sto) : Prop where
  nd : ∀ (i j : Nat) (a : Addr), w.rho[i]? = some a → w.rho[j]? = some a → i = j
  len : w.rho.length = S.length
  at_ : ∀ (n : Nat) (a : Addr) (c : Cell), w.rho[n]? = some a → S[n]? = some c → w.G a = none ∧ CellR g w H a c
theorem CellsR.in_ {g : Gam} {w : Wd} {H : Hp} {S : Sto} (h : CellsR g w H S) {a : Addr} (m : a ∈ w.rho) : w.G a = none ∧ ∃ o, H a = some o := by
  obtain ⟨n, hn⟩ := List.getElem?_of_mem m
  have l : n < S.length := by
    rw [← h.len]
    exact (List.getElem?_eq_some_iff.mp hn).1
  obtain ⟨h1, h2⟩ := h.at_ n a S[n] hn (List.getElem?_eq_getElem l)
  obtain ⟨o, e, _⟩ := h2.some_
  exact ⟨h1, o, e⟩
structure Ok (g : Gam) (w : Wd) (H : Hp) (S : Sto) : Prop where
  ex : Same w.G H
  cells : CellsR g w H S
  tabs : LamX.Tabs g.T H
  notab : ∀ a ps, w.G a ≠ some (.tbl ps)
structure Frame (w0 : Wd) (H0 : Hp) (w : Wd) (H : Hp) : Prop where
  le : w0.le w
  keep : ∀ a o, H0 a = some o → a ∉ w0.rho → (∀ ps, o ≠ .tbl ps) → H a = some o
  newG : ∀ a, H0 a ≠ none → w.G a = w0.G a
  rho : ∀ a ∈ w.rho, a ∈ w0.rho ∨ H0 a = none
  dom : ∀ a, H0 a ≠ none → H a ≠ none
  tb : ∀ a ps, H0 a = some (.tbl ps) → ∃ qs, H a = some (.tbl qs)
  fz : ∀ a o u, H0 a = some (.frz o u) → H a = some (.frz o u)
theorem Frame.refl (w : Wd) (H : Hp) : Frame w H w H := ⟨.refl w, fun _ _ h _ _ => h, fun _ _ => rfl, fun _ h => .inl h, fun _ h => h, fun _ ps h => ⟨ps, h⟩, fun _ _ _ h => h⟩
theorem Frame.trans {w0 w1 w2 : Wd} {H0 H1 H2 : Hp} (a : Frame w0 H0 w1 H1) (b : Frame w1 H1 w2 H2) : Frame w0 H0 w2 H2 where
  le := a.le.trans b.le
  keep := fun p o h n t => b.keep p o (a.keep p o h n t) (fun z => by
    rcases a.rho p z with z | z
    · exact n z
    · rw [z] at h
      cases h) t
  newG := fun p h => (b.newG p (a.dom p h)).trans (a.newG p h)
  rho := fun p h => by
    rcases b.rho p h with z | z
    · exact a.rho p z
    · refine .inr ?_
      cases e : H0 p with
      | none => rfl
      | some o => exact absurd z (a.dom p (by rw [e]; exact fun q => nomatch q))
  dom := fun p h => b.dom p (a.dom p h)
  tb := fun p ps h => let ⟨qs, e⟩ := a.tb p ps h; b.tb p qs e
  fz := fun p o u h => b.fz p o u (a.fz p o u h)
def SlotR (g : Gam) (w : Wd) (H : Hp) : Sl → Option V → Option Addr → Prop
  | .no, _, o => o = none
  | .v d, x, o => o = none ∧ ∃ v, x = some v ∧ Rep g w d v
  | .o c, x, o => ∃ p, o = some p ∧ x = some (.ref p) ∧ w.G p = none ∧ CellR g w H p c
structure StR (g : Gam) (w0 : Wd) (H0 : Hp) (w : Wd) (H : Hp) (σ : L2.St) (env : Envr) (S : Sto) (O : List (Option Addr)) : Prop where
  ok : Ok g w H S
  fr : Frame w0 H0 w H
  l1 : env.length = σ.length
  l2 : O.length = σ.length
  sl : ∀ (i : Nat) (s : Sl) (x : Option V) (o : Option Addr), env[i]? = some s → σ[i]? = some x → O[i]? = some o → SlotR g w H s x o
  inj : ∀ (i j : Nat) (p : Addr), O[i]? = some (some p) → O[j]? = some (some p) → i = j
  fresh : ∀ (i : Nat) (p : Addr), O[i]? = some (some p) → H0 p = none ∧ p ∉ w.rho ∧ ∃ c, env[i]? = some (.o c)
section
variable {g : Gam} {w0 w w' : Wd} {H0 H H' : Hp} {σ : L2.St} {env : Envr} {S S' : Sto} {O : List (Option Addr)}
theorem StR.after (h : StR g w0 H0 w H σ env S O) (f : Frame w H w' H') (k : Ok g w' H' S') : StR g w0 H0 w' H' σ env S' O := by
  have own : ∀ (i : Nat) (p : Addr), O[i]? = some (some p) → ∃ o, H p = some o ∧ (∀ ps, o ≠ .tbl ps) := fun i p e => by
    obtain ⟨_, _, c, hc⟩ := h.fresh i p e
    have hi : i < σ.length := by
      rw [← h.l2]
      exact (List.getElem?_eq_some_iff.mp e).1
    have q := h.sl i (.o c) σ[i] (some p) hc (List.getElem?_eq_getElem hi) e
    obtain ⟨p', e1, e2, e3, e4⟩ := q
    cases e1
    exact e4.some_
  refine ⟨k, h.fr.trans f, h.l1, h.l2, fun i s x o e1 e2 e3 => ?_, h.inj, fun i p e => ?_⟩
  · have q := h.sl i s x o e1 e2 e3
    cases s with
    | no => exact q
    | v d =>
      obtain ⟨q1, v, q2, q3⟩ := q
      exact ⟨q1, v, q2, q3.mono f.le⟩
    | o c =>
      obtain ⟨p, q1, q2, q3, q4⟩ := q
      obtain ⟨ob, z1, z2⟩ := q4.some_
      rw [q1] at e3
      refine ⟨p, q1, q2, (f.newG p (by rw [z1]; exact fun q => nomatch q)).trans q3, q4.move f.le ?_⟩
      rw [f.keep p ob z1 (h.fresh i p e3).2.1 z2, z1]
  · obtain ⟨z1, z2, z3⟩ := h.fresh i p e
    refine ⟨z1, fun m => ?_, z3⟩
    obtain ⟨ob, z4, _⟩ := own i p e
    rcases f.rho p m with z | z
    · exact z2 z
    · rw [z4] at z
      cases z
end
inductive Grow (w : Wd) (H : Hp) : Wd → Hp → Prop
  | refl : Grow w H w H
  | new {w1 : Wd} {H1 : Hp} {p : Addr} {o : HO} : Grow w H w1 H1 → H1 p = none → (∀ ps, o ≠ .tbl ps) → Grow w H ⟨w1.rho, upd w1.G p o⟩ (upd H1 p o)
theorem Grow.one {w : Wd} {H : Hp} {p : Addr} {o : HO} (h : H p = none) (n : ∀ ps, o ≠ .tbl ps) : Grow w H ⟨w.rho, upd w.G p o⟩ (upd H p o) := .new .refl h n
theorem same_upd {H : Hp} {p : Addr} {o : HO} (h : H p = none) : Same H (upd H p o) := fun b x e => by
  rw [upd_ne (ne_of_none e h)]
  exact e
theorem same_upd2 {G H : Hp} {p : Addr} {o : HO} (h : Same G H) : Same (upd G p o) (upd H p o) := fun b x e => by
  by_cases hb : b = p
  · rw [hb, upd_same] at e ⊢
    exact e
  · rw [upd_ne hb] at e ⊢
    exact h b x e
theorem none_of_same {G H : Hp} {p : Addr} (h : Same G H) (e : H p = none) : G p = none := h.free e
theorem ok_new {g : Gam} {w : Wd} {H : Hp} {S : Sto} {p : Addr} {o : HO} (k : Ok g w H S) (h : H p = none) (n : ∀ ps, o ≠ .tbl ps) : Ok g ⟨w.rho, upd w.G p o⟩ (upd H p o) S ∧ Frame w H ⟨w.rho, upd w.G p o⟩ (upd H p o) := by
  have hG : w.G p = none := none_of_same k.ex h
  have le : w.le ⟨w.rho, upd w.G p o⟩ := ⟨⟨[], by simp⟩, same_upd hG⟩
  refine ⟨⟨same_upd2 k.ex, ⟨k.cells.nd, k.cells.len, fun m a c e1 e2 => ?_⟩, k.tabs.ext (same_upd h), fun a ps e => ?_⟩, ⟨le, fun a x e _ _ => same_upd h a x e, fun a e => ?_, fun a m => .inl m, fun a e => ?_, fun a ps e => ⟨ps, same_upd h a _ e⟩, fun a x u e => same_upd h a _ e⟩⟩
  · obtain ⟨q1, q2⟩ := k.cells.at_ m a c e1 e2
    obtain ⟨x, q3, _⟩ := q2.some_
    have ne : a ≠ p := ne_of_none q3 h
    exact ⟨(upd_ne ne).trans q1, q2.move le (upd_ne ne)⟩
  · by_cases ha : a = p
    · rw [ha] at e
      have e2 : upd w.G p o p = some (.tbl ps) := e
      rw [upd_same] at e2
      exact n ps (Option.some.inj e2)
    · have e2 : upd w.G p o a = some (.tbl ps) := e
      rw [upd_ne ha] at e2
      exact k.notab a ps e2
  · have ne : a ≠ p := fun z => e (by rw [z]; exact h)
    exact upd_ne ne
  · have ne : a ≠ p := fun z => e (by rw [z]; exact h)
    rw [upd_ne ne]
    exact e
theorem Grow.ok {g : Gam} {w w' : Wd} {H H' : Hp} {S : Sto} (q : Grow w H w' H') (k : Ok g w H S) : Ok g w' H' S ∧ Frame w H w' H' := by
  induction q with
  | refl => exact ⟨k, Frame.refl w H⟩
  | new q hp hn ih =>
    obtain ⟨k1, f1⟩ := ih
    obtain ⟨k2, f2⟩ := ok_new k1 hp hn
    exact ⟨k2, f1.trans f2⟩
theorem StR.grow {g : Gam} {w0 w w' : Wd} {H0 H H' : Hp} {σ : L2.St} {env : Envr} {S : Sto} {O : List (Option Addr)} (h : StR g w0 H0 w H σ env S O) (q : Grow w H w' H') : StR g w0 H0 w' H' σ env S O :=
  let ⟨k, f⟩ := q.ok h.ok
  h.after f k
theorem Grow.le {g : Gam} {w w' : Wd} {H H' : Hp} {S : Sto} (q : Grow w H w' H') (k : Ok g w H S) : w.le w' := (q.ok k).2.le
def fldOf (c : Str) : Str := if c = "BadText" then "at" else "name"
def ExcR (g : Gam) (w : Wd) (H : Hp) (c : Str) (p : Option D) (cls : Value) (dd : Option Addr) : Prop :=
  cls = .ref (g.ca c) ∧ match p with
    | none => dd = none
    | some d => ∃ a v, dd = some a ∧ H a = some (.xd [(fldOf c, v)]) ∧ Rep g w d v
end Mm
namespace Mm
open PySem L2
def R.bind {α β : Type} (r : R α) (f : α → Sto → R β) : R β := match r with
  | .stuck => .stuck
  | .exc c p s => .exc c p s
  | .ok a s => f a s
def opt {α : Type} (o : Option α) (s : Sto) : R α := match o with
  | none => .stuck
  | some a => .ok a s
def PostX (g : Gam) (W : WX) (w0 : Wd) (H0 : Hp) (w : Wd) (σ : L2.St) (env : Envr) (O : List (Option Addr)) {α : Type} (r : R α) (k : α → Sto → Wd → Hp → Prop) : Prop := match r with
  | .stuck => False
  | .ok a S => ∀ w' H', StR g w0 H0 w' H' σ env S O → w.le w' → k a S w' H'
  | .exc c p S => ∀ w' H' cls dd, StR g w0 H0 w' H' σ env S O → w.le w' → ExcR g w' H' c p cls dd → W cls dd σ H'
section
variable {g : Gam} {W : WX} {w0 w w1 : Wd} {H0 H H1 : Hp} {σ : L2.St} {env : Envr} {S S1 : Sto} {O : List (Option Addr)} {α β : Type}
theorem PostX.mono {r : R α} {k : α → Sto → Wd → Hp → Prop} (h : PostX g W w0 H0 w σ env O r k) (l : w.le w1) : PostX g W w0 H0 w1 σ env O r k := by
  cases r with
  | stuck => exact h
  | ok a S => exact fun w' H' st l' => h w' H' st (l.trans l')
  | exc c p S => exact fun w' H' cls dd st l' => h w' H' cls dd st (l.trans l')
theorem PostX.imp {r : R α} {k k' : α → Sto → Wd → Hp → Prop} (h : PostX g W w0 H0 w σ env O r k) (f : ∀ a S w' H', StR g w0 H0 w' H' σ env S O → w.le w' → k a S w' H' → k' a S w' H') : PostX g W w0 H0 w σ env O r k' := by
  cases r with
  | stuck => exact h
  | ok a S => exact fun w' H' st l' => f a S w' H' st l' (h w' H' st l')
  | exc c p S => exact h
theorem PostX.bind {r : R α} {f : α → Sto → R β} {k : β → Sto → Wd → Hp → Prop} (h : PostX g W w0 H0 w σ env O (r.bind f) k) :
    PostX g W w0 H0 w σ env O r (fun a S w' _ => PostX g W w0 H0 w' σ env O (f a S) k) := by
  cases r with
  | stuck => exact h
  | ok a S => exact fun w' H' _ l' => PostX.mono (show PostX g W w0 H0 w σ env O (f a S) k from h) l'
  | exc c p S => exact h
theorem PostX.opt_ {o : Option α} {k : α → Sto → Wd → Hp → Prop} (h : PostX g W w0 H0 w σ env O (opt o S) k) (st : StR g w0 H0 w H σ env S O) : ∃ a, o = some a ∧ ∀ w' H', StR g w0 H0 w' H' σ env S O → w.le w' → k a S w' H' := by
  cases o with
  | none => exact False.elim h
  | some a => exact ⟨a, rfl, h⟩
end
abbrev ME := Envr → Sto → R D
abbrev MF := Envr → Sto → R Cell
abbrev MT := Envr → Sto → R Bool
abbrev MA := Envr → Sto → R (List D)
structure OwnAt (g : Gam) (w : Wd) (H0 H : Hp) (O : List (Option Addr)) (c : Cell) (p : Addr) : Prop where
  n0 : H0 p = none
  ng : w.G p = none
  nr : p ∉ w.rho
  no : ∀ i : Nat, O[i]? ≠ some (some p)
  at_ : CellR g w H p c
def SimE (g : Gam) (W : WX) (t : TE) (m : ME) : Prop := ∀ w0 H0 w H σ env S O (Q : VK), StR g w0 H0 w H σ env S O →
  PostX g W w0 H0 w σ env O (m env S) (fun d _ w' H' => ∀ v, Rep g w' d v → Q v H') → t σ H Q
def SimF (g : Gam) (W : WX) (t : TE) (m : MF) : Prop := ∀ w0 H0 w H σ env S O (Q : VK), StR g w0 H0 w H σ env S O →
  PostX g W w0 H0 w σ env O (m env S) (fun c _ w' H' => ∀ p, OwnAt g w' H0 H' O c p → Q (.ref p) H') → t σ H Q
def SimT (g : Gam) (W : WX) (t : TT) (m : MT) : Prop := ∀ w0 H0 w H σ env S O (Q : Bool → Hp → Prop), StR g w0 H0 w H σ env S O →
  PostX g W w0 H0 w σ env O (m env S) (fun b _ w' H' => Q b H') → t σ H Q
def SimA (g : Gam) (W : WX) (t : TA) (m : MA) : Prop := ∀ w0 H0 w H σ env S O (Q : List V → Hp → Prop), StR g w0 H0 w H σ env S O →
  PostX g W w0 H0 w σ env O (m env S) (fun ds _ w' H' => ∀ vs, RepL g w' ds vs → Q vs H') → t σ H Q
structure SE (X : Cx) (Y : Gam) (W : WX) (e : Expr) (t : TE) (m : ME) : Prop where
  pe : PE X e t
  sim : SimE Y W t m
structure SF (X : Cx) (Y : Gam) (W : WX) (e : Expr) (t : TE) (m : MF) : Prop where
  pe : PE X e t
  sim : SimF Y W t m
structure SC (X : Cx) (Y : Gam) (W : WX) (e : Expr) (t : TT) (m : MT) : Prop where
  pt : PT X e t
  sim : SimT Y W t m
structure SA (X : Cx) (Y : Gam) (W : WX) (es : List Expr) (t : TA) (m : MA) : Prop where
  pa : PA X es t
  sim : SimA Y W t m
  len : ∀ env S ds S1, m env S = .ok ds S1 → ds.length = es.length
section
variable {g : Gam} {W : WX} {w0 w w1 : Wd} {H0 H H1 : Hp} {σ : L2.St} {env : Envr} {S S1 : Sto} {O : List (Option Addr)} {α β : Type}
theorem ok_lay {p : Addr} {o : HO} (k : Ok g w H S) (h : H p = none) (n : ∀ ps, o ≠ .tbl ps) : Ok g w (upd H p o) S ∧ Frame w H w (upd H p o) := by
  refine ⟨⟨k.ex.trans (same_upd h), ⟨k.cells.nd, k.cells.len, fun m a c e1 e2 => ?_⟩, k.tabs.ext (same_upd h), k.notab⟩, ⟨.refl w, fun a x e _ _ => same_upd h a x e, fun a _ => rfl, fun a m => .inl m, fun a e => ?_, fun a ps e => ⟨ps, same_upd h a _ e⟩, fun a x u e => same_upd h a _ e⟩⟩
  · obtain ⟨q1, q2⟩ := k.cells.at_ m a c e1 e2
    obtain ⟨x, q3, _⟩ := q2.some_
    exact ⟨q1, q2.move (.refl w) (upd_ne (ne_of_none q3 h))⟩
  · have ne : a ≠ p := fun z => e (by rw [z]; exact h)
    rw [upd_ne ne]
    exact e
theorem StR.lay {p : Addr} {o : HO} (st : StR g w0 H0 w H σ env S O) (h : H p = none) (n : ∀ ps, o ≠ .tbl ps) : StR g w0 H0 w (upd H p o) σ env S O :=
  let ⟨k, f⟩ := ok_lay st.ok h n
  st.after f k
theorem StR.out {p : Addr} (st : StR g w0 H0 w H σ env S O) (h : H p = none) : H0 p = none ∧ w.G p = none ∧ p ∉ w.rho ∧ ∀ i : Nat, O[i]? ≠ some (some p) := by
  refine ⟨?_, none_of_same st.ok.ex h, fun m => ?_, fun i e => ?_⟩
  · cases e : H0 p with
    | none => rfl
    | some o => exact absurd h (st.fr.dom p (by rw [e]; exact fun q => nomatch q))
  · obtain ⟨_, o, e⟩ := st.ok.cells.in_ m
    rw [h] at e
    cases e
  · obtain ⟨_, _, c, hc⟩ := st.fresh i p e
    have hi : i < σ.length := by
      rw [← st.l2]
      exact (List.getElem?_eq_some_iff.mp e).1
    obtain ⟨p', e1, _, _, e4⟩ := st.sl i (.o c) σ[i] (some p) hc (List.getElem?_eq_getElem hi) e
    cases e1
    obtain ⟨o, e5, _⟩ := e4.some_
    rw [h] at e5
    cases e5
theorem StR.own_new {p : Addr} {o : HO} {c : Cell} (st : StR g w0 H0 w H σ env S O) (h : H p = none) (hc : CellR g w (upd H p o) p c) : OwnAt g w H0 (upd H p o) O c p := by
  obtain ⟨h1, h2, h3, h4⟩ := st.out h
  exact ⟨h1, h2, h3, h4, hc⟩
theorem own_freeze {c : Cell} {p : Addr} (st : StR g w0 H0 w H σ env S O) (a : OwnAt g w H0 H O c p) : ∃ w', StR g w0 H0 w' H σ env S O ∧ w.le w' ∧ Rep g w' c.d (.ref p) := by
  obtain ⟨o, ho, nt⟩ := a.at_.some_
  have le : w.le ⟨w.rho, upd w.G p o⟩ := ⟨⟨[], by simp⟩, same_upd a.ng⟩
  refine ⟨⟨w.rho, upd w.G p o⟩, ⟨⟨fun b x e => ?_, ⟨st.ok.cells.nd, st.ok.cells.len, fun m b c e1 e2 => ?_⟩, st.ok.tabs, fun b ps e => ?_⟩, ⟨st.fr.le.trans le, st.fr.keep, fun b e => ?_, st.fr.rho, st.fr.dom, st.fr.tb, st.fr.fz⟩, st.l1, st.l2, fun i s x q e1 e2 e3 => ?_, st.inj, st.fresh⟩, le, ?_⟩
  · by_cases hb : b = p
    · have e2 : upd w.G p o b = some x := e
      rw [hb, upd_same] at e2
      rw [hb, ho, e2]
    · have e2 : upd w.G p o b = some x := e
      rw [upd_ne hb] at e2
      exact st.ok.ex b x e2
  · obtain ⟨q1, q2⟩ := st.ok.cells.at_ m b c e1 e2
    have ne : b ≠ p := fun z => a.nr (by rw [← z]; exact List.mem_of_getElem? e1)
    exact ⟨(upd_ne ne).trans q1, q2.move le rfl⟩
  · by_cases hb : b = p
    · have e2 : upd w.G p o b = some (.tbl ps) := e
      rw [hb, upd_same] at e2
      exact nt ps (Option.some.inj e2)
    · have e2 : upd w.G p o b = some (.tbl ps) := e
      rw [upd_ne hb] at e2
      exact st.ok.notab b ps e2
  · have ne : b ≠ p := fun z => e (by rw [z]; exact a.n0)
    exact (upd_ne ne).trans (st.fr.newG b e)
  · have q' := st.sl i s x q e1 e2 e3
    cases s with
    | no => exact q'
    | v d =>
      obtain ⟨z1, v, z2, z3⟩ := q'
      exact ⟨z1, v, z2, z3.mono le⟩
    | o c' =>
      obtain ⟨p', z1, z2, z3, z4⟩ := q'
      have ne : p' ≠ p := fun z => a.no i (by rw [e3, z1, z])
      exact ⟨p', z1, z2, (upd_ne ne).trans z3, z4.move le rfl⟩
  · have c2 := a.at_.move le (rfl : H p = H p)
    cases c with
    | lst ds =>
      obtain ⟨vs, e1, e2⟩ := c2
      rw [ho] at e1
      unfold Cell.d Rep
      refine ⟨p, vs, rfl, ?_, e2⟩
      show upd w.G p o p = _
      rw [upd_same, e1]
    | ins c fs =>
      obtain ⟨dx, gs, e1, e2⟩ := c2
      rw [ho] at e1
      unfold Cell.d Rep
      refine ⟨p, dx, gs, rfl, ?_, e2⟩
      show upd w.G p o p = _
      rw [upd_same, e1]
    | dic ks =>
      obtain ⟨gs, e1, e2⟩ := c2
      rw [ho] at e1
      unfold Cell.d Rep
      refine ⟨p, gs, rfl, .inl ?_, e2⟩
      show upd w.G p o p = _
      rw [upd_same, e1]
    | lck ks =>
      obtain ⟨o', gs, e1, e2⟩ := c2
      rw [ho] at e1
      unfold Cell.d Rep
      refine ⟨p, gs, rfl, .inr ⟨o', ?_⟩, e2⟩
      show upd w.G p o p = _
      rw [upd_same, e1]
    | mem ks =>
      unfold Cell.d Rep
      exact ⟨p, rfl⟩
    | lkl ks =>
      unfold Cell.d Rep
      exact ⟨p, rfl⟩
    | tdc ks =>
      have e1 : H p = some (.dT (tdV ks)) := c2
      rw [ho] at e1
      unfold Cell.d Rep
      refine ⟨p, rfl, ?_⟩
      show upd w.G p o p = _
      rw [upd_same, e1]
end
section
variable {X : Cx} {Y : Gam} {W : WX} {e a b : Expr} {es : List Expr} {ta tb te : TE} {tt tu : TT} {ma mb me : ME} {mt mu : MT} {t : TA} {m : MA} {pos : Pos}
def mFrz (mf : MF) : ME := fun env S => (mf env S).bind fun c S1 => .ok c.d S1
theorem SF.val {mf : MF} (h : SF X Y W e te mf) : SE X Y W e te (mFrz mf) := by
  refine ⟨h.pe, fun w0 H0 w H σ env S O Q st p => h.sim w0 H0 w H σ env S O Q st ((PostX.bind p).imp fun c S1 w1 H1 st1 l1 p1 q ow => ?_)⟩
  obtain ⟨w2, st2, l2, r⟩ := own_freeze st1 ow
  exact p1 w2 H1 st2 l2 _ r
def eV (i : Nat) : ME := fun env S => match env[i]? with
  | some (.v d) => .ok d S
  | _ => .stuck
theorem sim_var {g : Gam} {i : Nat} : SimE g W (tVar i) (eV i) := fun w0 H0 w H σ env S O Q st p => by
  unfold eV at p
  split at p
  · rename_i d e
    have hi : i < σ.length := by
      rw [← st.l1]
      exact (List.getElem?_eq_some_iff.mp e).1
    have hO : i < O.length := by
      rw [st.l2]
      exact hi
    obtain ⟨_, v, e1, r⟩ := st.sl i (.v d) σ[i] O[i] e (List.getElem?_eq_getElem hi) (List.getElem?_eq_getElem hO)
    exact ⟨v, by rw [List.getElem?_eq_getElem hi, e1], p w H st (.refl w) v r⟩
  · exact p.elim
theorem sv (i : Nat) {x : Str} (hN : X.N[i]? = some x := by rfl) (hv : Vis X.env.scope x := by first | exact Or.inl rfl | exact Or.inr (Or.inl rfl) | exact Or.inr (Or.inr rfl)) (hd : (x == ("__debug__" : Str)) = false := by decide)
    (hcd : (x == ("__classdict__" : Str)) = false := by decide) : SE X Y W (.Name x pos) (tVar i) (eV i) := ⟨pv i hN hv hd hcd, sim_var⟩
def eC (d : D) : ME := fun _ S => .ok d S
theorem sim_c {g : Gam} {v : V} {d : D} (h : ∀ w, Rep g w d v) : SimE g W (tC v) (eC d) := fun w0 H0 w H σ env S O Q st p => p w H st (.refl w) v (h w)
theorem s_int {i j} : SE X Y W (.Constant (.int i) j pos) (tC (.int i)) (eC (.int i)) := ⟨pe_int, sim_c fun _ => by unfold Rep; rfl⟩
theorem s_bl {i j} : SE X Y W (.Constant (.bool i) j pos) (tC (.bl i)) (eC (.bl i)) := ⟨pe_bl, sim_c fun _ => by unfold Rep; rfl⟩
theorem s_non {j} : SE X Y W (.Constant .none j pos) (tC .non) (eC .non) := ⟨pe_non, sim_c fun _ => by unfold Rep; rfl⟩
theorem s_str {i j} : SE X Y W (.Constant (.str i) j pos) (tC (.str i)) (eC (.str i)) := ⟨pe_str, sim_c fun _ => by unfold Rep; rfl⟩
theorem s_gint {x : Str} {i : Int} {u : Tok} (hm : X.mg x = some (.int i u)) (hg : Gl X x := by rfl) (hd : (x == ("__debug__" : Str)) = false := by decide) : SE X Y W (.Name x pos) (tC (.int i)) (eC (.int i)) :=
  ⟨pe_glob hg hm ⟨u, rfl⟩ hd, sim_c fun _ => by unfold Rep; rfl⟩
def OpD (g : Gam) (r : R2) (f : Sto → D → D → Option D) : Prop := ∀ w H S d1 d2 v1 v2 d (Q : VK), Ok g w H S → Rep g w d1 v1 → Rep g w d2 v2 → f S d1 d2 = some d → (∀ w' H' v, Grow w H w' H' → Rep g w' d v → Q v H') → r v1 v2 H Q
def eOp (f : Sto → D → D → Option D) (ma mb : ME) : ME := fun env S => (ma env S).bind fun d1 S1 => (mb env S1).bind fun d2 S2 => opt (f S2 d1 d2) S2
theorem sim_op {g : Gam} {r : R2} {f : Sto → D → D → Option D} (ho : OpD g r f) (ha : SimE g W ta ma) (hb : SimE g W tb mb) : SimE g W (tOp r ta tb) (eOp f ma mb) := fun w0 H0 w H σ env S O Q st p =>
  ha w0 H0 w H σ env S O _ st ((PostX.bind p).imp fun d1 S1 w1 H1 st1 l1 p1 v1 r1 => hb w0 H0 w1 H1 σ env S1 O _ st1 ((PostX.bind p1).imp fun d2 S2 w2 H2 st2 l2 p2 v2 r2 => by
    obtain ⟨d, e, k⟩ := PostX.opt_ p2 st2
    exact ho w2 H2 S2 d1 d2 v1 v2 d Q st2.ok (r1.mono l2) r2 e fun w3 H3 v q r => k w3 H3 (st2.grow q) (q.le st2.ok) v r))
theorem s_op {op : Operator} {r : R2} {f : Sto → D → D → Option D} (hd : OpD Y r f) (ho : OpR X (binaryOp op) r) (ha : SE X Y W a ta ma) (hb : SE X Y W b tb mb) : SE X Y W (.BinOp a op b pos) (tOp r ta tb) (eOp f ma mb) := ⟨pe_op ho ha.pe hb.pe, sim_op hd ha.sim hb.sim⟩
theorem s_cmp {op : CmpOp} {r : R2} {f : Sto → D → D → Option D} (hd : OpD Y r f) (ho : OpR X (compareOp op) r) (ha : SE X Y W a ta ma) (hb : SE X Y W b tb mb) (hm : behindInMarks op b = false) : SE X Y W (.Compare a [op] [b] pos) (tOp r ta tb) (eOp f ma mb) := ⟨pe_cmpR ho ha.pe hb.pe hm, sim_op hd ha.sim hb.sim⟩
theorem s_ix {r : R2} {f : Sto → D → D → Option D} (hd : OpD Y r f) (ho : IxR X r) (ha : SE X Y W a ta ma) (hb : SE X Y W b tb mb) (hs : PlainIx b) : SE X Y W (.Subscript a b pos) (tOp r ta tb) (eOp f ma mb) := ⟨pe_ix ho ha.pe hb.pe hs, sim_op hd ha.sim hb.sim⟩
theorem OpR.or {X : Cx} {f : Value → Value → Sem Value} {r r' : R2} (h : OpR X f r) (h' : OpR X f r') : OpR X f (fun x y H Q => r x y H Q ∨ r' x y H Q) := fun pins s σ H x y v u Q I r1 r2 q =>
  q.elim (h pins s σ H x y v u Q I r1 r2) (h' pins s σ H x y v u Q I r1 r2)
theorem OpD.or {g : Gam} {r r' : R2} {f f' : Sto → D → D → Option D} (h : OpD g r f) (h' : OpD g r' f') : OpD g (fun x y H Q => r x y H Q ∨ r' x y H Q) (fun S a b => (f S a b).or (f' S a b)) := fun w H S d1 d2 v1 v2 d Q k r1 r2 e q => by
  have e : (f S d1 d2).or (f' S d1 d2) = some d := e
  cases z : f S d1 d2 with
  | some d' =>
    rw [z] at e
    have e2 : d' = d := by simpa using e
    exact .inl (h w H S d1 d2 v1 v2 d Q k r1 r2 (by rw [z, e2]) q)
  | none =>
    rw [z] at e
    exact .inr (h' w H S d1 d2 v1 v2 d Q k r1 r2 (by simpa using e) q)
def fI (g : Int → Int → D) (c : Int → Int → Bool) : Sto → D → D → Option D
  | _, .int i, .int j => if c i j then some (g i j) else none
  | _, _, _ => none
theorem rep_int {g : Gam} {w : Wd} {i : Int} {v : V} (h : Rep g w (.int i) v) : v = .int i := by
  unfold Rep at h
  exact h
theorem rep_int' {g : Gam} {w : Wd} {i : Int} : Rep g w (.int i) (.int i) := by
  unfold Rep
  rfl
theorem rep_bl' {g : Gam} {w : Wd} {i : Bool} : Rep g w (.bl i) (.bl i) := by
  unfold Rep
  rfl
theorem od_I {g : Gam} {C : Int → Int → Prop} {h : Int → Int → V} {k : Int → Int → D} {c : Int → Int → Bool} (hc : ∀ i j, c i j = true → C i j) (hk : ∀ i j w, Rep g w (k i j) (h i j)) : OpD g (rI C h) (fI k c) := fun w H S d1 d2 v1 v2 d Q _ r1 r2 e q => by
  unfold fI at e
  split at e
  · rename_i i j
    split at e
    · rename_i z
      cases e
      exact ⟨i, j, rep_int r1, rep_int r2, hc i j z, q w H _ .refl (hk i j w)⟩
    · cases e
  · cases e
theorem od_I0 {g : Gam} {h : Int → Int → V} {k : Int → Int → D} (hk : ∀ i j w, Rep g w (k i j) (h i j)) : OpD g (rI0 h) (fI k fun _ _ => true) := fun w H S d1 d2 v1 v2 d Q _ r1 r2 e q => by
  unfold fI at e
  split at e
  · rename_i i j
    simp only [if_true] at e
    cases e
    exact ⟨i, j, rep_int r1, rep_int r2, q w H _ .refl (hk i j w)⟩
  · cases e
end
end Mm
namespace Mm
open PySem L2
section
variable {X : Cx} {Y : Gam} {W : WX} {e a b c : Expr} {es rest : List Expr} {ta tb te : TE} {tt tu : TT} {ma mb me : ME} {mt mu : MT} {t : TA} {m : MA} {pos : Pos}
def cB (me : ME) : MT := fun env S => (me env S).bind fun d S1 => match d with
  | .bl k => .ok k S1
  | _ => .stuck
theorem sim_test {g : Gam} (h : SimE g W te me) : SimT g W (tTest te) (cB me) := fun w0 H0 w H σ env S O Q st p =>
  h w0 H0 w H σ env S O _ st ((PostX.bind p).imp fun d S1 w1 H1 st1 l1 p1 v r => by
    cases d with
    | bl k =>
      unfold Rep at r
      exact ⟨k, r, p1 w1 H1 st1 (.refl w1)⟩
    | _ => exact False.elim p1)
theorem c_val {te : TE} (h : SE X Y W e te me) (he : ∀ whole, isTrue e X.env whole = (do let v ← whole; standAt e.pos; holding [v] (truthy v)) := by intro _; rfl) : SC X Y W e (tB te) (cB me) := ⟨pt_val h.pe he, sim_test h.sim⟩
theorem c_cmp {op : CmpOp} {r : R2} {f : Sto → D → D → Option D} (hd : OpD Y r f) (ho : OpR X (compareOp op) r) (ha : SE X Y W a ta ma) (hb : SE X Y W b tb mb) (hm : behindInMarks op b = false) : SC X Y W (.Compare a [op] [b] pos) (tTest (tOp r ta tb)) (cB (eOp f ma mb)) :=
  ⟨pt_cmpR ho ha.pe hb.pe hm, sim_test (sim_op hd ha.sim hb.sim)⟩
structure SW (X : Cx) (Y : Gam) (W : WX) (e : Expr) (t : TT) (m : MT) : Prop where
  pw : PW X e t
  sim : SimT Y W t m
theorem SW.sc (h : SW X Y W e tt mt) : SC X Y W e tt mt := ⟨h.pw.pt, h.sim⟩
def cOr (a b : MT) : MT := fun env S => (a env S).bind fun k S1 => if k = true then .ok true S1 else b env S1
def cNot (a : MT) : MT := fun env S => (a env S).bind fun k S1 => .ok (!k) S1
theorem sim_or {g : Gam} (h1 : SimT g W tt mt) (h2 : SimT g W tu mu) : SimT g W (tOr tt tu) (cOr mt mu) := fun w0 H0 w H σ env S O Q st p =>
  h1 w0 H0 w H σ env S O _ st ((PostX.bind p).imp fun k S1 w1 H1 st1 l1 p1 => by
    cases k with
    | false =>
      simp only [Bool.false_eq_true, if_false] at p1 ⊢
      exact h2 w0 H0 w1 H1 σ env S1 O Q st1 p1
    | true =>
      simp only [if_true] at p1 ⊢
      exact p1 w1 H1 st1 (.refl w1))
theorem sim_not {g : Gam} (h1 : SimT g W tt mt) : SimT g W (tNot tt) (cNot mt) := fun w0 H0 w H σ env S O Q st p =>
  h1 w0 H0 w H σ env S O _ st ((PostX.bind p).imp fun k S1 w1 H1 st1 l1 p1 => p1 w1 H1 st1 (.refl w1))
theorem w_or1 (ha : SC X Y W a tt mt) : SW X Y W (.BoolOp .Or [a] pos) tt mt := ⟨pw_or1 ha.pt, ha.sim⟩
theorem w_or (ha : SC X Y W a tt mt) (hb : SW X Y W (.BoolOp .Or (b :: rest) pos) tu mu) : SW X Y W (.BoolOp .Or (a :: b :: rest) pos) (tOr tt tu) (cOr mt mu) := ⟨pw_or ha.pt hb.pw, sim_or ha.sim hb.sim⟩
theorem c_not (ha : SC X Y W a tt mt) : SC X Y W (.UnaryOp .Not a pos) (tNot tt) (cNot mt) := ⟨pt_not ha.pt, sim_not ha.sim⟩
def eAnd (a b : ME) : ME := fun env S => (a env S).bind fun d S1 => match d with
  | .bl true => b env S1
  | .bl false => .ok (.bl false) S1
  | _ => .stuck
def eOr (a b : ME) : ME := fun env S => (a env S).bind fun d S1 => match d with
  | .bl true => .ok (.bl true) S1
  | .bl false => b env S1
  | _ => .stuck
theorem sim_andV {g : Gam} (h1 : SimE g W ta ma) (h2 : SimE g W tb mb) : SimE g W (tAndV ta tb) (eAnd ma mb) := fun w0 H0 w H σ env S O Q st p =>
  h1 w0 H0 w H σ env S O _ st ((PostX.bind p).imp fun d S1 w1 H1 st1 l1 p1 v r => by
    cases d with
    | bl k =>
      unfold Rep at r
      refine ⟨k, r, ?_⟩
      cases k with
      | true =>
        simp only [if_true]
        exact h2 w0 H0 w1 H1 σ env S1 O Q st1 p1
      | false =>
        simp only [Bool.false_eq_true, if_false]
        exact p1 w1 H1 st1 (.refl w1) _ rep_bl'
    | _ => exact False.elim p1)
theorem sim_orV {g : Gam} (h1 : SimE g W ta ma) (h2 : SimE g W tb mb) : SimE g W (tOrV ta tb) (eOr ma mb) := fun w0 H0 w H σ env S O Q st p =>
  h1 w0 H0 w H σ env S O _ st ((PostX.bind p).imp fun d S1 w1 H1 st1 l1 p1 v r => by
    cases d with
    | bl k =>
      unfold Rep at r
      refine ⟨k, r, ?_⟩
      cases k with
      | false =>
        simp only [Bool.false_eq_true, if_false]
        exact h2 w0 H0 w1 H1 σ env S1 O Q st1 p1
      | true =>
        simp only [if_true]
        exact p1 w1 H1 st1 (.refl w1) _ rep_bl'
    | _ => exact False.elim p1)
theorem s_one {op} (h : SE X Y W a te me) : SE X Y W (.BoolOp op [a] pos) te me := ⟨pe_one h.pe, h.sim⟩
theorem s_and (ha : SE X Y W a ta ma) (hb : SE X Y W (.BoolOp .And (b :: rest) pos) tb mb) : SE X Y W (.BoolOp .And (a :: b :: rest) pos) (tAndV ta tb) (eAnd ma mb) := ⟨pe_and ha.pe hb.pe, sim_andV ha.sim hb.sim⟩
theorem s_or (ha : SE X Y W a ta ma) (hb : SE X Y W (.BoolOp .Or (b :: rest) pos) tb mb) : SE X Y W (.BoolOp .Or (a :: b :: rest) pos) (tOrV ta tb) (eOr ma mb) := ⟨pe_or ha.pe hb.pe, sim_orV ha.sim hb.sim⟩
def eIf (t : MT) (a b : ME) : ME := fun env S => (t env S).bind fun k S1 => if k = true then a env S1 else b env S1
theorem s_if (hc : SC X Y W c tt mt) (ha : SE X Y W a ta ma) (hb : SE X Y W b tb mb) : SE X Y W (.IfExp c a b pos) (tIf tt ta tb) (eIf mt ma mb) := ⟨pe_ifExp hc.pt ha.pe hb.pe, fun w0 H0 w H σ env S O Q st p =>
  hc.sim w0 H0 w H σ env S O _ st ((PostX.bind p).imp fun k S1 w1 H1 st1 l1 p1 => by
    cases k with
    | true =>
      simp only [if_true] at p1 ⊢
      exact ha.sim w0 H0 w1 H1 σ env S1 O Q st1 p1
    | false =>
      simp only [Bool.false_eq_true, if_false] at p1 ⊢
      exact hb.sim w0 H0 w1 H1 σ env S1 O Q st1 p1)⟩
def UnD (g : Gam) (r : V → Hp → VK → Prop) (f : Sto → D → Option D) : Prop := ∀ w H S d1 v1 d (Q : VK), Ok g w H S → Rep g w d1 v1 → f S d1 = some d → (∀ w' H' v, Grow w H w' H' → Rep g w' d v → Q v H') → r v1 H Q
def eUn (f : Sto → D → Option D) (ma : ME) : ME := fun env S => (ma env S).bind fun d1 S1 => opt (f S1 d1) S1
theorem s_un {op : UnaryOp} {r : V → Hp → VK → Prop} {f : Sto → D → Option D} (hd : UnD Y r f) (ho : UnR X (unaryOp op) r) (ha : SE X Y W a ta ma) : SE X Y W (.UnaryOp op a pos) (tUn r ta) (eUn f ma) := ⟨pe_un ho ha.pe, fun w0 H0 w H σ env S O Q st p =>
  ha.sim w0 H0 w H σ env S O _ st ((PostX.bind p).imp fun d1 S1 w1 H1 st1 l1 p1 v1 r1 => by
    obtain ⟨d, e, k⟩ := PostX.opt_ p1 st1
    exact hd w1 H1 S1 d1 v1 d Q st1.ok r1 e fun w3 H3 v q r => k w3 H3 (st1.grow q) (q.le st1.ok) v r)⟩
def fNeg : Sto → D → Option D
  | _, .int i => some (.int (-i))
  | _, _ => none
theorem ud_neg {g : Gam} : UnD g (rU fun i => .int (-i)) fNeg := fun w H S d1 v1 d Q _ r1 e q => by
  unfold fNeg at e
  split at e
  · rename_i i
    cases e
    exact ⟨i, rep_int r1, q w H _ .refl rep_int'⟩
  · cases e
def aNil : MA := fun _ S => .ok [] S
def aCons (ma : ME) (mr : MA) : MA := fun env S => (ma env S).bind fun d S1 => (mr env S1).bind fun ds S2 => .ok (d :: ds) S2
theorem a_nil : SA X Y W [] tNil aNil := ⟨pa_nil, fun w0 H0 w H σ env S O Q st p => p w H st (.refl w) [] RepL.nil_, fun env S ds S1 e => by cases e; rfl⟩
theorem a_cons (ha : SE X Y W e te me) (hr : SA X Y W es t m) (hs : starEach (e :: es) X.env = (false, eval e X.env) :: starEach es X.env := by rfl) : SA X Y W (e :: es) (tCons te t) (aCons me m) := ⟨pa_cons ha.pe hr.pa hs, fun w0 H0 w H σ env S O Q st p =>
  ha.sim w0 H0 w H σ env S O _ st ((PostX.bind p).imp fun d S1 w1 H1 st1 l1 p1 v r => hr.sim w0 H0 w1 H1 σ env S1 O _ st1 ((PostX.bind p1).imp fun ds S2 w2 H2 st2 l2 p2 vs rs => p2 w2 H2 st2 (.refl w2) (v :: vs) (RepL.cons_ (r.mono l2) rs))), fun env S ds S1 h => by
  unfold aCons at h
  cases e1 : me env S with
  | stuck => rw [e1] at h; cases h
  | exc c q s => rw [e1] at h; cases h
  | ok d s =>
    rw [e1] at h
    have h : ((m env s).bind fun ds S2 => R.ok (d :: ds) S2) = .ok ds S1 := h
    cases e2 : m env s with
    | stuck => rw [e2] at h; cases h
    | exc c q s => rw [e2] at h; cases h
    | ok d2 s2 =>
      rw [e2] at h
      have h : R.ok (d :: d2) s2 = .ok ds S1 := h
      cases h
      rw [List.length_cons, List.length_cons, hr.len _ _ _ _ e2]⟩
def szB (n : Nat) : Bool := decide (n ≤ 100000)
theorem szB_le {n : Nat} (h : szB n = true) : n ≤ sizeLine := Nat.le_trans (of_decide_eq_true h) (by decide)
theorem nt_tup {xs : List V} : ∀ ps, HO.tup xs ≠ .tbl ps := fun _ z => by cases z
theorem nt_lst {xs : List V} : ∀ ps, HO.lst xs ≠ .tbl ps := fun _ z => by cases z
theorem nt_ins {C dx : Addr} {fs : List (Str × V)} : ∀ ps, HO.ins C dx fs ≠ .tbl ps := fun _ z => by cases z
theorem nt_own {x : Addr} : ∀ ps, HO.own x ≠ .tbl ps := fun _ z => by cases z
def eTup (m : MA) : ME := fun env S => (m env S).bind fun ds S1 => if szB ds.length then .ok (.tup ds) S1 else .stuck
theorem rep_tup_new {g : Gam} {w : Wd} {H : Hp} {S : Sto} {p : Addr} {ds : List D} {vs : List V} (k : Ok g w H S) (h : H p = none) (r : RepL g w ds vs) : Rep g ⟨w.rho, upd w.G p (.tup vs)⟩ (.tup ds) (.ref p) := by
  unfold Rep
  exact ⟨p, vs, rfl, .inl (.inl upd_same), r.mono (Grow.le (Grow.one h nt_tup) k)⟩
theorem rep_lst_new {g : Gam} {w : Wd} {H : Hp} {S : Sto} {p : Addr} {ds : List D} {vs : List V} (k : Ok g w H S) (h : H p = none) (r : RepL g w ds vs) : Rep g ⟨w.rho, upd w.G p (.lst vs)⟩ (.lst ds) (.ref p) := by
  unfold Rep
  exact ⟨p, vs, rfl, upd_same, r.mono (Grow.le (Grow.one h nt_lst) k)⟩
theorem s_tup {x1} (h : SA X Y W es t m) : SE X Y W (.Tuple es x1 pos) (tTup t) (eTup m) := ⟨pe_tup h.pa, fun w0 H0 w H σ env S O Q st p =>
  h.sim w0 H0 w H σ env S O _ st ((PostX.bind p).imp fun ds S1 w1 H1 st1 l1 p1 vs r => by
    split at p1
    · rename_i z
      refine ⟨by rw [← r.len]; exact szB_le z, fun q hq => ?_⟩
      have G := Grow.one (w := w1) (o := .tup vs) hq nt_tup
      exact p1 _ _ (st1.grow G) (G.le st1.ok) _ (rep_tup_new st1.ok hq r)
    · exact False.elim p1)⟩
def fLst (m : MA) : MF := fun env S => (m env S).bind fun ds S1 => if szB ds.length then .ok (.lst ds) S1 else .stuck
theorem f_lst (h : SA X Y W es t m) : SF X Y W (.List es pos) (tLst t) (fLst m) := ⟨pe_lst h.pa, fun w0 H0 w H σ env S O Q st p =>
  h.sim w0 H0 w H σ env S O _ st ((PostX.bind p).imp fun ds S1 w1 H1 st1 l1 p1 vs r => by
    split at p1
    · rename_i z
      refine ⟨by rw [← r.len]; exact szB_le z, fun q hq => ?_⟩
      exact p1 w1 _ (st1.lay hq nt_lst) (.refl w1) q (st1.own_new hq ⟨vs, upd_same, r⟩)
    · exact False.elim p1)⟩
def RetR (g : Gam) (w : Wd) (H0 H : Hp) (r : Ret) (v : V) : Prop := match r with
  | .val d => Rep g w d v
  | .own c => ∃ p, v = .ref p ∧ H0 p = none ∧ w.G p = none ∧ p ∉ w.rho ∧ CellR g w H p c
def PostF (g : Gam) (w : Wd) (H : Hp) (Q : VK) (E : XK) : R Ret → Prop
  | .stuck => False
  | .ok r S => ∀ w' H' v, Frame w H w' H' → Ok g w' H' S → RetR g w' H H' r v → Q v H'
  | .exc c p S => ∀ w' H' cls dd, Frame w H w' H' → Ok g w' H' S → ExcR g w' H' c p cls dd → E cls dd H'
abbrev MFn := List D → Sto → R Ret
def spOf (g : Gam) (n : Nat) (m : MFn) : Sp := fun vs H Q E => vs.length = n ∧ ∃ w ds S, Ok g w H S ∧ RepL g w ds vs ∧ PostF g w H Q E (m ds S)
theorem post_val {g : Gam} {w0 w : Wd} {H0 H : Hp} {σ : L2.St} {env : Envr} {S : Sto} {O : List (Option Addr)} {Q : VK} {r : R Ret} (st : StR g w0 H0 w H σ env S O)
    (p : PostX g W w0 H0 w σ env O (r.bind fun r S2 => R.ok r.d S2) (fun d _ w' H' => ∀ v, Rep g w' d v → Q v H')) : PostF g w H Q (fun cls dd H' => W cls dd σ H') r := by
  cases r with
  | stuck => exact p
  | exc c q S2 => exact fun w' H' cls dd f k x => p w' H' cls dd (st.after f k) f.le x
  | ok r S2 =>
    intro w' H' v f k x
    have st2 := st.after f k
    cases r with
    | val d => exact p w' H' st2 f.le v x
    | own c =>
      obtain ⟨q, e, n0, ng, nr, at_⟩ := x
      have ow : OwnAt g w' H0 H' O c q := by
        obtain ⟨z1, z2, z3, z4⟩ := st.out n0
        exact ⟨z1, ng, nr, z4, at_⟩
      obtain ⟨w3, st3, l3, r3⟩ := own_freeze st2 ow
      rw [e]
      exact p w3 H' st3 (f.le.trans l3) _ r3
def rOwn : Ret → Sto → R Cell
  | .own c, S => .ok c S
  | .val _, _ => .stuck
theorem post_own {g : Gam} {w0 w : Wd} {H0 H : Hp} {σ : L2.St} {env : Envr} {S : Sto} {O : List (Option Addr)} {Q : VK} {r : R Ret} (st : StR g w0 H0 w H σ env S O)
    (p : PostX g W w0 H0 w σ env O (r.bind rOwn) (fun c _ w' H' => ∀ p, OwnAt g w' H0 H' O c p → Q (.ref p) H')) : PostF g w H Q (fun cls dd H' => W cls dd σ H') r := by
  cases r with
  | stuck => exact p
  | exc c q S2 => exact fun w' H' cls dd f k x => p w' H' cls dd (st.after f k) f.le x
  | ok r S2 =>
    intro w' H' v f k x
    have st2 := st.after f k
    cases r with
    | val d => exact False.elim p
    | own c =>
      obtain ⟨q, e, n0, ng, nr, at_⟩ := x
      obtain ⟨z1, z2, z3, z4⟩ := st.out n0
      rw [e]
      exact p w' H' st2 f.le q ⟨z1, ng, nr, z4, at_⟩
def eCall (f : MFn) (dd : List D) (m : MA) : ME := fun env S => (m env S).bind fun ds S1 => (f (ds ++ dd) S1).bind fun r S2 => .ok r.d S2
def fCall (f : MFn) (dd : List D) (m : MA) : MF := fun env S => (m env S).bind fun ds S1 => (f (ds ++ dd) S1).bind rOwn
variable {k n : Nat} {f : Addr} {fd : FuncData} {ps : List Str} {mf : MFn} {dvs : List V} {ds : List Value} {dd : List D} {x : Str} {p : Pos}
theorem sim_callA {g : Gam} (hdv : ∀ w, RepL g w dd dvs) (ha : SimA g W t m) (hlen : ∀ env S ds S1, m env S = .ok ds S1 → ds.length + dd.length = n) {w0 w : Wd} {H0 H : Hp} {σ : L2.St} {env : Envr} {S : Sto} {O : List (Option Addr)} {α : Type} {F : Ret → Sto → R α} {kk : α → Sto → Wd → Hp → Prop} {Q : VK}
    (st : StR g w0 H0 w H σ env S O) (p : PostX g W w0 H0 w σ env O ((m env S).bind fun ds S1 => (mf (ds ++ dd) S1).bind F) kk)
    (fin : ∀ w1 H1 S1 r, StR g w0 H0 w1 H1 σ env S1 O → PostX g W w0 H0 w1 σ env O (r.bind F) kk → PostF g w1 H1 Q (WE W σ) r) : t σ H (fun vs H1 => spOf g n mf (vs ++ dvs) H1 Q (WE W σ)) := by
  refine ha w0 H0 w H σ env S O _ st ?_
  have p2 := PostX.bind p
  cases e : m env S with
  | stuck =>
    rw [e] at p2
    exact p2
  | exc c q S2 =>
    rw [e] at p2
    exact p2
  | ok ds S1 =>
    rw [e] at p2
    intro w1 H1 st1 l1 vs rs
    have p3 := p2 w1 H1 st1 l1
    have r2 := rs.append_ (hdv w1)
    refine ⟨?_, w1, ds ++ dd, S1, st1.ok, r2, fin w1 H1 S1 _ st1 p3⟩
    rw [← r2.len, List.length_append]
    exact hlen env S ds S1 e
theorem s_call (F : FnOk X.prog X.w X.K X.mg X.base (L2N.CX X.prog X.w) k f fd ps (spOf Y n mf)) (hr : Room k X.A) (hm : X.mg x = some (.ref f)) (hk : PySem.W.keepIn X.K (.ref f) = true) (hb : Binds X.K fd ps ds) (hd : Vals dvs ds) (hdv : ∀ w, RepL Y w dd dvs) (tk : L2N.Takes X W)
    (ha : SA X Y W (e :: es) t m) (hn : (e :: es).length + dd.length = n := by rfl) (hg : Gl X x := by rfl) (hdb : (x == ("__debug__" : Str)) = false := by decide) (he : starEach (e :: es) X.env = (false, eval e X.env) :: starEach es X.env := by rfl) (hpl : (backTo pos (starEach es X.env)).any (·.1) = false := by rfl) :
    SE X Y W (.Call (.Name x p) (e :: es) [] pos) (tCallSD (spOf Y n mf) dvs (WE W) t) (eCall mf dd m) :=
  ⟨pe_callSD F hr hg hm hk hb hd (fun σ => L2N.passAt tk σ) ha.pa hdb he hpl, fun w0 H0 w H σ env S O Q st p => sim_callA hdv ha.sim (fun env S ds S1 h => by rw [ha.len _ _ _ _ h]; exact hn) st p fun w1 H1 S1 r st1 p1 => post_val st1 p1⟩
theorem f_call (F : FnOk X.prog X.w X.K X.mg X.base (L2N.CX X.prog X.w) k f fd ps (spOf Y n mf)) (hr : Room k X.A) (hm : X.mg x = some (.ref f)) (hk : PySem.W.keepIn X.K (.ref f) = true) (hb : Binds X.K fd ps ds) (hd : Vals dvs ds) (hdv : ∀ w, RepL Y w dd dvs) (tk : L2N.Takes X W)
    (ha : SA X Y W (e :: es) t m) (hn : (e :: es).length + dd.length = n := by rfl) (hg : Gl X x := by rfl) (hdb : (x == ("__debug__" : Str)) = false := by decide) (he : starEach (e :: es) X.env = (false, eval e X.env) :: starEach es X.env := by rfl) (hpl : (backTo pos (starEach es X.env)).any (·.1) = false := by rfl) :
    SF X Y W (.Call (.Name x p) (e :: es) [] pos) (tCallSD (spOf Y n mf) dvs (WE W) t) (fCall mf dd m) :=
  ⟨pe_callSD F hr hg hm hk hb hd (fun σ => L2N.passAt tk σ) ha.pa hdb he hpl, fun w0 H0 w H σ env S O Q st p => sim_callA hdv ha.sim (fun env S ds S1 h => by rw [ha.len _ _ _ _ h]; exact hn) st p fun w1 H1 S1 r st1 p1 => post_own st1 p1⟩
end
end Mm
namespace Mm
open PySem L2
section
variable {g : Gam} {w0 w w1 : Wd} {H0 H H1 : Hp} {σ : L2.St} {env : Envr} {S S1 : Sto} {O : List (Option Addr)}
theorem StR.set_v (st : StR g w0 H0 w H σ env S O) (i : Nat) {d : D} {v : V} (r : Rep g w d v) : StR g w0 H0 w H (σ.set i (some v)) (env.set i (.v d)) S (O.set i none) := by
  refine ⟨st.ok, st.fr, by rw [List.length_set, List.length_set]; exact st.l1, by rw [List.length_set, List.length_set]; exact st.l2, fun j s x o e1 e2 e3 => ?_, fun j k p e1 e2 => ?_, fun j p e => ?_⟩
  · rw [List.getElem?_set] at e1 e2 e3
    by_cases hj : i = j
    · rw [if_pos hj] at e1 e2 e3
      split at e1
      · split at e2
        · split at e3
          · cases e1
            cases e2
            cases e3
            exact ⟨rfl, v, rfl, r⟩
          · cases e3
        · cases e2
      · cases e1
    · rw [if_neg hj] at e1 e2 e3
      exact st.sl j s x o e1 e2 e3
  · rw [List.getElem?_set] at e1 e2
    have h1 : i ≠ j := fun z => by
      rw [if_pos z] at e1
      split at e1 <;> cases e1
    have h2 : i ≠ k := fun z => by
      rw [if_pos z] at e2
      split at e2 <;> cases e2
    rw [if_neg h1] at e1
    rw [if_neg h2] at e2
    exact st.inj j k p e1 e2
  · rw [List.getElem?_set] at e
    have h1 : i ≠ j := fun z => by
      rw [if_pos z] at e
      split at e <;> cases e
    rw [if_neg h1] at e
    obtain ⟨a, b, c, hc⟩ := st.fresh j p e
    exact ⟨a, b, c, by rw [List.getElem?_set, if_neg h1]; exact hc⟩
theorem StR.set_o (st : StR g w0 H0 w H σ env S O) (i : Nat) {c : Cell} {p : Addr} (r : OwnAt g w H0 H O c p) (hi : i < σ.length) : StR g w0 H0 w H (σ.set i (some (.ref p))) (env.set i (.o c)) S (O.set i (some p)) := by
  refine ⟨st.ok, st.fr, by rw [List.length_set, List.length_set]; exact st.l1, by rw [List.length_set, List.length_set]; exact st.l2, fun j s x o e1 e2 e3 => ?_, fun j k q e1 e2 => ?_, fun j q e => ?_⟩
  · rw [List.getElem?_set] at e1 e2 e3
    by_cases hj : i = j
    · rw [if_pos hj, if_pos (by rw [st.l1]; exact hi)] at e1
      rw [if_pos hj, if_pos hi] at e2
      rw [if_pos hj, if_pos (by rw [st.l2]; exact hi)] at e3
      cases e1
      cases e2
      cases e3
      exact ⟨p, rfl, rfl, r.ng, r.at_⟩
    · rw [if_neg hj] at e1 e2 e3
      exact st.sl j s x o e1 e2 e3
  · rw [List.getElem?_set] at e1 e2
    by_cases h1 : i = j
    · by_cases h2 : i = k
      · exact h1.symm.trans h2
      · rw [if_neg h2] at e2
        rw [if_pos h1] at e1
        split at e1
        · cases e1
          exact absurd e2 (r.no k)
        · cases e1
    · rw [if_neg h1] at e1
      by_cases h2 : i = k
      · rw [if_pos h2] at e2
        split at e2
        · cases e2
          exact absurd e1 (r.no j)
        · cases e2
      · rw [if_neg h2] at e2
        exact st.inj j k q e1 e2
  · rw [List.getElem?_set] at e
    by_cases h1 : i = j
    · rw [if_pos h1] at e
      split at e
      · cases e
        exact ⟨r.n0, r.nr, c, by rw [List.getElem?_set, if_pos h1, if_pos (by rw [st.l1]; exact hi)]⟩
      · cases e
    · rw [if_neg h1] at e
      obtain ⟨a, b, c, hc⟩ := st.fresh j q e
      exact ⟨a, b, c, by rw [List.getElem?_set, if_neg h1]; exact hc⟩
theorem StR.own_at (st : StR g w0 H0 w H σ env S O) {i : Nat} {c : Cell} (h : env[i]? = some (.o c)) : ∃ p, σ[i]? = some (some (.ref p)) ∧ O[i]? = some (some p) ∧ w.G p = none ∧ CellR g w H p c ∧ H0 p = none ∧ p ∉ w.rho ∧ i < σ.length := by
  have hi : i < σ.length := by
    rw [← st.l1]
    exact (List.getElem?_eq_some_iff.mp h).1
  have hO : i < O.length := by
    rw [st.l2]
    exact hi
  obtain ⟨p, e1, e2, e3, e4⟩ := st.sl i (.o c) σ[i] O[i] h (List.getElem?_eq_getElem hi) (List.getElem?_eq_getElem hO)
  have e5 : O[i]? = some (some p) := by rw [List.getElem?_eq_getElem hO, e1]
  exact ⟨p, by rw [List.getElem?_eq_getElem hi, e2], e5, e3, e4, (st.fresh i p e5).1, (st.fresh i p e5).2.1, hi⟩
theorem StR.mut (st : StR g w0 H0 w H σ env S O) {i : Nat} {c c' : Cell} {p : Addr} {o : HO} (h : env[i]? = some (.o c)) (hO : O[i]? = some (some p)) (r : CellR g w (upd H p o) p c') (nt : ∀ ps, o ≠ .tbl ps) : StR g w0 H0 w (upd H p o) σ (env.set i (.o c')) S O := by
  obtain ⟨p', e1, e2, e3, e4, e5, e6, hi⟩ := st.own_at h
  rw [hO] at e2
  cases e2
  obtain ⟨x, e7, e8⟩ := e4.some_
  have noG : ∀ b, w.G b ≠ none → b ≠ p := fun b q z => q (by rw [z]; exact e3)
  refine ⟨⟨fun b u e => ?_, ⟨st.ok.cells.nd, st.ok.cells.len, fun m b q e9 e10 => ?_⟩, tabs_upd st.ok.tabs (fun ps z => by rw [e7] at z; exact e8 ps (Option.some.inj z)) (fun φ nm z => e4.noext φ nm z), st.ok.notab⟩, ⟨st.fr.le, fun b u q1 q2 q3 => ?_, st.fr.newG, st.fr.rho, fun b q => ?_, fun b ps q => by rw [upd_ne (fun z => by rw [z, e5] at q; cases q)]; exact st.fr.tb b ps q, fun b x u q => by rw [upd_ne (fun z => by rw [z, e5] at q; cases q)]; exact st.fr.fz b x u q⟩, by rw [List.length_set]; exact st.l1, st.l2, fun j s y q z1 z2 z3 => ?_, st.inj, fun j q e => ?_⟩
  · rw [upd_ne (noG b (by rw [e]; exact fun z => nomatch z))]
    exact st.ok.ex b u e
  · obtain ⟨q1, q2⟩ := st.ok.cells.at_ m b q e9 e10
    exact ⟨q1, q2.move (.refl w) (upd_ne fun z => e6 (by rw [← z]; exact List.mem_of_getElem? e9))⟩
  · rw [upd_ne (fun z => by rw [z, e5] at q1; cases q1)]
    exact st.fr.keep b u q1 q2 q3
  · by_cases hb : b = p
    · rw [hb, upd_same]
      exact fun z => nomatch z
    · rw [upd_ne hb]
      exact st.fr.dom b q
  · rw [List.getElem?_set] at z1
    by_cases hj : i = j
    · rw [if_pos hj, if_pos (by rw [st.l1]; exact hi)] at z1
      cases z1
      rw [hj] at hO e1
      rw [hO] at z3
      rw [e1] at z2
      cases z3
      cases z2
      exact ⟨p, rfl, rfl, e3, r⟩
    · rw [if_neg hj] at z1
      have q' := st.sl j s y q z1 z2 z3
      cases s with
      | no => exact q'
      | v d => exact q'
      | o cj =>
        obtain ⟨pj, y1, y2, y3, y4⟩ := q'
        rw [y1] at z3
        have ne : pj ≠ p := fun z => hj (st.inj i j p hO (by rw [z3, z]))
        exact ⟨pj, y1, y2, y3, y4.move (.refl w) (upd_ne ne)⟩
  · obtain ⟨a, b, cj, hc⟩ := st.fresh j q e
    refine ⟨a, b, ?_⟩
    by_cases hj : i = j
    · exact ⟨c', by rw [List.getElem?_set, if_pos hj, if_pos (by rw [st.l1]; exact hi)]⟩
    · exact ⟨cj, by rw [List.getElem?_set, if_neg hj]; exact hc⟩
theorem ok_cell (k : Ok g w H S) {n : Nat} {c c' : Cell} {a : Addr} {o : HO} (hn : w.rho[n]? = some a) (hc : S[n]? = some c) (r : CellR g w (upd H a o) a c') (nt : ∀ ps, o ≠ .tbl ps) (cf : c.fr := by exact True.intro) : Ok g w (upd H a o) (S.set n c') ∧ Frame w H w (upd H a o) := by
  obtain ⟨e3, e4⟩ := k.cells.at_ n a c hn hc
  obtain ⟨x, e7, e8⟩ := e4.some_
  have noG : ∀ b, w.G b ≠ none → b ≠ a := fun b q z => q (by rw [z]; exact e3)
  refine ⟨⟨fun b u e => ?_, ⟨k.cells.nd, by rw [List.length_set]; exact k.cells.len, fun m b q e9 e10 => ?_⟩, tabs_upd k.tabs (fun ps z => by rw [e7] at z; exact e8 ps (Option.some.inj z)) (fun φ nm z => e4.noext φ nm z), k.notab⟩, ⟨.refl w, fun b u q1 q2 q3 => ?_, fun _ _ => rfl, fun b q => .inl q, fun b q => ?_, fun b ps q => ⟨ps, by rw [upd_ne (fun z => by rw [z, e7] at q; exact e8 ps (Option.some.inj q))]; exact q⟩, fun b x u q => by rw [upd_ne (fun z => e4.nofrz cf x u (by rw [← z]; exact q))]; exact q⟩⟩
  · rw [upd_ne (noG b (by rw [e]; exact fun z => nomatch z))]
    exact k.ex b u e
  · rw [List.getElem?_set] at e10
    by_cases hj : n = m
    · rw [if_pos hj] at e10
      split at e10
      · cases e10
        rw [← hj, hn] at e9
        cases e9
        exact ⟨e3, r⟩
      · cases e10
    · rw [if_neg hj] at e10
      obtain ⟨q1, q2⟩ := k.cells.at_ m b q e9 e10
      exact ⟨q1, q2.move (.refl w) (upd_ne fun z => hj (k.cells.nd n m a hn (by rw [← z]; exact e9)))⟩
  · rw [upd_ne (fun z => q2 (by rw [z]; exact List.mem_of_getElem? hn))]
    exact q1
  · by_cases hb : b = a
    · rw [hb, upd_same]
      exact fun z => nomatch z
    · rw [upd_ne hb]
      exact q
end
abbrev MS := Envr → Sto → Out
def PostS (g : Gam) (W : WX) (w0 : Wd) (H0 : Hp) (w : Wd) (Dn : Ends) : Out → Prop
  | .stuck => False
  | .nx e S => ∀ w' H' σ' O', StR g w0 H0 w' H' σ' e S O' → w.le w' → Dn.nx σ' H'
  | .bk e S => ∀ w' H' σ' O', StR g w0 H0 w' H' σ' e S O' → w.le w' → Dn.bk σ' H'
  | .ct e S => ∀ w' H' σ' O', StR g w0 H0 w' H' σ' e S O' → w.le w' → Dn.ct σ' H'
  | .rt r S => ∀ w' H' v, Ok g w' H' S → Frame w0 H0 w' H' → RetR g w' H0 H' r v → Dn.rt v H'
  | .exc c p e S => ∀ w' H' σ' O' cls dd, StR g w0 H0 w' H' σ' e S O' → w.le w' → ExcR g w' H' c p cls dd → W cls dd σ' H'
def SimS (g : Gam) (W : WX) (t : TS) (m : MS) : Prop := ∀ w0 H0 w H σ env S O (Dn : Ends), StR g w0 H0 w H σ env S O → PostS g W w0 H0 w Dn (m env S) → t Dn σ H
structure SS (X : Cx) (Y : Gam) (W : WX) (st : Stmt) (t : TS) (m : MS) : Prop where
  ps : PS X st t
  sim : SimS Y W t m
structure SB (X : Cx) (Y : Gam) (W : WX) (st : List Stmt) (t : TS) (m : MS) : Prop where
  pss : PSs X st t
  sim : SimS Y W t m
theorem PostS.mono {g : Gam} {W : WX} {w0 w w1 : Wd} {H0 : Hp} {Dn : Ends} {o : Out} (h : PostS g W w0 H0 w Dn o) (l : w.le w1) : PostS g W w0 H0 w1 Dn o := by
  cases o with
  | stuck => exact h
  | nx e S => exact fun w' H' σ' O' st l' => h w' H' σ' O' st (l.trans l')
  | bk e S => exact fun w' H' σ' O' st l' => h w' H' σ' O' st (l.trans l')
  | ct e S => exact fun w' H' σ' O' st l' => h w' H' σ' O' st (l.trans l')
  | rt r S => exact h
  | exc c p e S => exact fun w' H' σ' O' cls dd st l' => h w' H' σ' O' cls dd st (l.trans l')
def R.out {α : Type} (r : R α) (env : Envr) (f : α → Sto → Out) : Out := match r with
  | .stuck => .stuck
  | .exc c p s => .exc c p env s
  | .ok a s => f a s
theorem PostS.out {g : Gam} {W : WX} {w0 w : Wd} {H0 : Hp} {σ : L2.St} {env : Envr} {O : List (Option Addr)} {Dn : Ends} {α : Type} {r : R α} {f : α → Sto → Out} (h : PostS g W w0 H0 w Dn (r.out env f)) :
    PostX g W w0 H0 w σ env O r (fun a S w' _ => PostS g W w0 H0 w' Dn (f a S)) := by
  cases r with
  | stuck => exact h
  | exc c p s => exact fun w' H' cls dd st l x => h w' H' σ O cls dd st l x
  | ok a s => exact fun w' H' st l => PostS.mono (show PostS g W w0 H0 w Dn (f a s) from h) l
section
variable {X : Cx} {Y : Gam} {W : WX} {e a b c : Expr} {es rest : List Expr} {ta tb te : TE} {tt tu : TT} {ma mb me : ME} {mt mu : MT} {mf : MF} {t : TA} {m : MA} {pos : Pos} {s : Stmt} {ss : List Stmt} {t1 t2 : TS} {m1 m2 : MS}
def sNil : MS := fun env S => .nx env S
def sSeq (a b : MS) : MS := fun env S => match a env S with
  | .nx e S1 => b e S1
  | o => o
theorem b_nil : SB X Y W [] tNext sNil := ⟨pss_nil, fun w0 H0 w H σ env S O Dn st p => p w H σ O st (.refl w)⟩
theorem b_cons (h1 : SS X Y W s t1 m1) (h2 : SB X Y W ss t2 m2) : SB X Y W (s :: ss) (tSeq t1 t2) (sSeq m1 m2) := ⟨pss_cons h1.ps h2.pss, fun w0 H0 w H σ env S O Dn st p => by
  refine h1.sim w0 H0 w H σ env S O { Dn with nx := t2 Dn } st ?_
  unfold sSeq at p
  cases q : m1 env S with
  | stuck => rw [q] at p; exact p
  | bk e S => rw [q] at p; exact p
  | ct e S => rw [q] at p; exact p
  | rt r S => rw [q] at p; exact p
  | exc c p' e S => rw [q] at p; exact p
  | nx e1 S1 =>
    rw [q] at p
    exact fun w' H' σ' O' st' l' => h2.sim w0 H0 w' H' σ' e1 S1 O' Dn st' (p.mono l')⟩
theorem b_one (h1 : SS X Y W s t1 m1) : SB X Y W [s] t1 m1 := ⟨pss_one h1.ps, h1.sim⟩
def sExpr (me : ME) : MS := fun env S => (me env S).out env fun _ S1 => .nx env S1
theorem t_expr (h : SE X Y W e te me) (hs : swapsWith e none pos.line X.env = pure false := by rfl) : SS X Y W (.Expr e pos) (tDrop te) (sExpr me) := ⟨ps_expr h.pe hs, fun w0 H0 w H σ env S O Dn st p =>
  h.sim w0 H0 w H σ env S O _ st ((PostS.out p).imp fun d S1 w1 H1 st1 l1 p1 v r => p1 w1 H1 σ O st1 (.refl w1))⟩
def sRet (me : ME) : MS := fun env S => (me env S).out env fun d S1 => .rt (.val d) S1
theorem t_ret (h : SE X Y W e te me) : SS X Y W (.Return (some e) pos) (tRet te) (sRet me) := ⟨ps_ret h.pe, fun w0 H0 w H σ env S O Dn st p =>
  h.sim w0 H0 w H σ env S O _ st ((PostS.out p).imp fun d S1 w1 H1 st1 l1 p1 v r => p1 w1 H1 v st1.ok st1.fr r)⟩
def sRetF (mf : MF) : MS := fun env S => (mf env S).out env fun c S1 => .rt (.own c) S1
theorem t_retF (h : SF X Y W e te mf) : SS X Y W (.Return (some e) pos) (tRet te) (sRetF mf) := ⟨ps_ret h.pe, fun w0 H0 w H σ env S O Dn st p =>
  h.sim w0 H0 w H σ env S O _ st ((PostS.out p).imp fun d S1 w1 H1 st1 l1 p1 v r => p1 w1 H1 _ st1.ok st1.fr ⟨v, rfl, r.n0, r.ng, r.nr, r.at_⟩)⟩
def sRetO (i : Nat) : MS := fun env S => match env[i]? with
  | some (.o c) => .rt (.own c) S
  | some (.v d) => .rt (.val d) S
  | _ => .stuck
theorem t_retO (i : Nat) {x : Str} {p : Pos} (hN : X.N[i]? = some x := by rfl) (hv : Vis X.env.scope x := by first | exact Or.inl rfl | exact Or.inr (Or.inl rfl) | exact Or.inr (Or.inr rfl)) (hd : (x == ("__debug__" : Str)) = false := by decide)
    (hcd : (x == ("__classdict__" : Str)) = false := by decide) : SS X Y W (.Return (some (.Name x p)) pos) (tRet (tVar i)) (sRetO i) := ⟨ps_ret (pv i hN hv hd hcd), fun w0 H0 w H σ env S O Dn st p => by
  unfold sRetO at p
  split at p
  · rename_i c e
    obtain ⟨q, e1, e2, e3, e4, e5, e6, hi⟩ := st.own_at e
    exact ⟨_, e1, p w H _ st.ok st.fr ⟨q, rfl, e5, e3, e6, e4⟩⟩
  · rename_i d e
    exact sim_var (W := W) w0 H0 w H σ env S O Dn.rt st (by
      unfold eV
      rw [e]
      exact fun w' H' st' l' v r => p w' H' v st'.ok st'.fr r)
  · exact p.elim⟩
def sIf (c : MT) (a b : MS) : MS := fun env S => (c env S).out env fun k S1 => if k = true then a env S1 else b env S1
theorem t_if {x y : List Stmt} (hc : SC X Y W c tt mt) (ha : SB X Y W x t1 m1) (hb : SB X Y W y t2 m2) : SS X Y W (.If c x y pos) (tIfS tt t1 t2) (sIf mt m1 m2) := ⟨ps_if hc.pt ha.pss hb.pss, fun w0 H0 w H σ env S O Dn st p =>
  hc.sim w0 H0 w H σ env S O _ st ((PostS.out p).imp fun k S1 w1 H1 st1 l1 p1 => by
    cases k with
    | true =>
      simp only [if_true] at p1 ⊢
      exact ha.sim w0 H0 w1 H1 σ env S1 O Dn st1 p1
    | false =>
      simp only [Bool.false_eq_true, if_false] at p1 ⊢
      exact hb.sim w0 H0 w1 H1 σ env S1 O Dn st1 p1)⟩
abbrev MG := D → Envr → Option Envr
def Slots (is : List Nat) (σ σ' : L2.St) : Prop := σ'.length = σ.length ∧ ∀ k, k ∉ is → σ'[k]? = σ[k]?
theorem Slots.refl {is : List Nat} (σ : L2.St) : Slots is σ σ := ⟨rfl, fun _ _ => rfl⟩
theorem Slots.set {i : Nat} {is : List Nat} {x : Option V} (σ : L2.St) (h : i ∈ is) : Slots is σ (σ.set i x) := ⟨List.length_set, fun k hk => by
  rw [List.getElem?_set_ne]
  intro z
  exact hk (z ▸ h)⟩
theorem Slots.trans {is : List Nat} {a b c : L2.St} (x : Slots is a b) (y : Slots is b c) : Slots is a c := ⟨y.1.trans x.1, fun k h => (y.2 k h).trans (x.2 k h)⟩
theorem Slots.mono {is js : List Nat} {a b : L2.St} (x : Slots is a b) (h : ∀ i ∈ is, i ∈ js) : Slots js a b := ⟨x.1, fun k hk => x.2 k fun z => hk (h k z)⟩
def SimG (g : Gam) (is : List Nat) (t : TG) (m : MG) : Prop := ∀ w0 H0 w H σ env S O d v (Q : L2.St → Hp → Prop) e, StR g w0 H0 w H σ env S O → Rep g w d v → m d env = some e → (∀ σ' O', StR g w0 H0 w H σ' e S O' → Slots is σ σ' → Q σ' H) → t v σ H Q
structure SG (X : Cx) (Y : Gam) (is : List Nat) (e : Expr) (t : TG) (m : MG) : Prop where
  pg : PG X e t
  sim : SimG Y is t m
abbrev MGs := List D → Envr → Option Envr
def SimGs (g : Gam) (is : List Nat) (t : TGs) (m : MGs) : Prop := ∀ w0 H0 w H σ env S O d v (Q : L2.St → Hp → Prop) e, StR g w0 H0 w H σ env S O → RepL g w d v → m d env = some e → (∀ σ' O', StR g w0 H0 w H σ' e S O' → Slots is σ σ' → Q σ' H) → t v σ H Q
structure SGs (X : Cx) (Y : Gam) (is : List Nat) (e : List Expr) (t : TGs) (m : MGs) : Prop where
  pg : PGs X e t
  sim : SimGs Y is t m
  len : ∀ ds env e', m ds env = some e' → ds.length = e.length
def gN (i : Nat) : MG := fun d env => some (env.set i (.v d))
theorem g_name {i : Nat} {x : Str} (hN : X.N.Nodup) (hi : X.N[i]? = some x) (hx : Loc X.env.scope x) (hf : X.fn x = true ∨ X.env.scope.names.lookup x = some .local := by first | exact .inl rfl | exact .inr rfl | assumption) : SG X Y [i] (.Name x pos) (gName i) (gN i) :=
  ⟨pg_name hN hi hx hf, fun w0 H0 w H σ env S O d v Q e st r h q => by
    cases h
    exact q _ _ (st.set_v i r) (Slots.set σ (by simp))⟩
def gN0 : MGs := fun ds env => match ds with
  | [] => some env
  | _ => none
def gNC (a : MG) (b : MGs) : MGs := fun ds env => match ds with
  | d :: r => (a d env).bind fun e => b r e
  | _ => none
theorem gs_nil : SGs X Y [] [] gNil gN0 := ⟨pgs_nil, fun w0 H0 w H σ env S O d v Q e st r h q => by
  unfold gN0 at h
  split at h
  · cases h
    unfold RepL at r
    exact ⟨r, q _ _ st (Slots.refl σ)⟩
  · simp at h, fun ds env e' h => by
  unfold gN0 at h
  split at h
  · rfl
  · simp at h⟩
theorem gs_cons {is js : List Nat} {tg : TG} {tgs : TGs} {mg : MG} {mgs : MGs} (h1 : SG X Y is e tg mg) (h2 : SGs X Y js es tgs mgs) (hs : (assignEach (e :: es) X.env).map (·.2) = assign e X.env :: (assignEach es X.env).map (·.2) := by rfl) : SGs X Y (is ++ js) (e :: es) (gCons tg tgs) (gNC mg mgs) :=
  ⟨pgs_cons h1.pg h2.pg hs, fun w0 H0 w H σ env S O d v Q e' st r h q => by
    unfold gNC at h
    split at h
    · rename_i d1 dr
      unfold RepL at r
      obtain ⟨v1, vr, ev, r1, r2⟩ := r
      cases z : mg d1 env with
      | none => rw [z] at h; cases h
      | some e1 =>
        rw [z] at h
        have h : mgs dr e1 = some e' := h
        exact ⟨v1, vr, ev, h1.sim w0 H0 w H σ env S O d1 v1 _ e1 st r1 z fun σ1 O1 st1 s1 => h2.sim w0 H0 w H σ1 e1 S O1 dr vr Q e' st1 r2 h fun σ2 O2 st2 s2 => q σ2 O2 st2 ((s1.mono fun i hi => List.mem_append_left _ hi).trans (s2.mono fun i hi => List.mem_append_right _ hi))⟩
    · simp at h, fun ds env e' h => by
    unfold gNC at h
    split at h
    · rename_i d1 dr
      cases z : mg d1 env with
      | none => rw [z] at h; cases h
      | some e1 =>
        rw [z] at h
        have h : mgs dr e1 = some e' := h
        rw [List.length_cons, List.length_cons, h2.len dr e1 e' h]
    · cases h⟩
def gT (b : MGs) : MG := fun d env => match d with
  | .tup ds => b ds env
  | _ => none
theorem g_tup {is : List Nat} {k : Nat} {tgs : TGs} {mgs : MGs} (h : SGs X Y is es tgs mgs) (hK : X.K = Y.K := by rfl) (hc : X.calm = true := by rfl) (hn : (assignEach es X.env).length = es.length := by rfl) (hst : (assignEach es X.env).findIdx? (·.1) = none := by rfl) : SG X Y is (.Tuple es k pos) (gTup Y.K es.length tgs) (gT mgs) :=
  ⟨hK ▸ pg_tup hc h.pg hn hst, fun w0 H0 w H σ env S O d v Q e' st r h' q => by
    unfold gT at h'
    split at h'
    · rename_i ds
      unfold Rep at r
      obtain ⟨a, vs, e1, e2, e3⟩ := r
      exact ⟨a, vs, e1, same_sqT st.ok.ex e2.sq, by rw [← e3.len]; exact h.len ds env e' h', h.sim w0 H0 w H σ env S O ds vs Q e' st e3 h' q⟩
    · cases h'⟩
def sAsg (me : ME) (mg : MG) : MS := fun env S => (me env S).out env fun d S1 => match mg d env with
  | some e => .nx e S1
  | none => .stuck
theorem sim_asg {g : Gam} {is : List Nat} {tg : TG} {mg : MG} (he : SimE g W te me) (hg : SimG g is tg mg) : SimS g W (tAsg te tg) (sAsg me mg) := fun w0 H0 w H σ env S O Dn st p =>
  he w0 H0 w H σ env S O _ st ((PostS.out p).imp fun d S1 w1 H1 st1 l1 p1 v r => by
    cases z : mg d env with
    | none => rw [z] at p1; exact False.elim p1
    | some e1 =>
      rw [z] at p1
      exact hg w0 H0 w1 H1 σ env S1 O d v Dn.nx e1 st1 r z fun σ' O' st' _ => p1 w1 H1 σ' O' st' (.refl w1))
theorem t_asg {tg : Expr} {is : List Nat} {g : TG} {mg : MG} (he : SE X Y W e te me) (hg : SG X Y is tg g mg) (hs : swapsWithSole [tg] e pos.line X.env = pure false := by rfl) (hw : swappedStores [tg] e X.env = pure none := by rfl)
    (h1 : (assignEach [tg] X.env).map (·.2) = [assign tg X.env] := by rfl) : SS X Y W (.Assign [tg] e pos) (tAsg te g) (sAsg me mg) := ⟨ps_asg he.pe hg.pg hs hw h1, sim_asg he.sim hg.sim⟩
theorem t_set {i : Nat} {x : Str} {pos' : Pos} (hN : X.N.Nodup) (hi : X.N[i]? = some x) (hx : Loc X.env.scope x) (he : SE X Y W e te me) (hs : swapsWith e (some (.Name x pos')) pos.line X.env = pure false := by rfl) (hf : X.fn x = true ∨ X.env.scope.names.lookup x = some .local := by first | exact .inl rfl | exact .inr rfl | assumption) :
    SS X Y W (.Assign [.Name x pos'] e pos) (tAsg te (gName i)) (sAsg me (gN i)) := ⟨ps_set hN hi hx he.pe hs hf, sim_asg (is := [i]) he.sim fun w0 H0 w H σ env S O d v Q e st r h q => by
    cases h
    exact q _ _ (st.set_v i r) (Slots.set σ (by simp))⟩
def sOwn (i : Nat) (mf : MF) : MS := fun env S => (mf env S).out env fun c S1 => if i < env.length then .nx (env.set i (.o c)) S1 else .stuck
theorem sim_own {g : Gam} {i : Nat} (h : SimF g W te mf) : SimS g W (tAsg te (gName i)) (sOwn i mf) := fun w0 H0 w H σ env S O Dn st p =>
  h w0 H0 w H σ env S O _ st ((PostS.out p).imp fun c S1 w1 H1 st1 l1 p1 q ow => by
    split at p1
    · rename_i hi
      exact p1 w1 H1 _ _ (st1.set_o i ow (by rw [← st1.l1]; exact hi)) (.refl w1)
    · exact False.elim p1)
theorem t_own {i : Nat} {x : Str} {pos' : Pos} (hN : X.N.Nodup) (hi : X.N[i]? = some x) (hx : Loc X.env.scope x) (he : SF X Y W e te mf) (hs : swapsWith e (some (.Name x pos')) pos.line X.env = pure false := by rfl) (hf : X.fn x = true ∨ X.env.scope.names.lookup x = some .local := by first | exact .inl rfl | exact .inr rfl | assumption) :
    SS X Y W (.Assign [.Name x pos'] e pos) (tAsg te (gName i)) (sOwn i mf) := ⟨ps_set hN hi hx he.pe hs hf, sim_own he.sim⟩
def sPar (i j : Nat) (m : MA) : MS := fun env S => (m env S).out env fun ds S1 => match ds with
  | [d1, d2] => .nx ((env.set i (.v d1)).set j (.v d2)) S1
  | _ => .stuck
end
end Mm
namespace Mm
open PySem L2
def ItR (g : Gam) (w1 : Wd) (J : It) (ds : List D) : Prop := ∀ w H, w1.le w → Same w.G H →
  (∀ (i : Nat) d, ds[i]? = some d → J.go i H ∧ ∀ x H', J.yld i H x H' → ∃ w', Grow w H w' H' ∧ Rep g w' d x) ∧ J.stop ds.length H
abbrev MI := Envr → Sto → R (List D)
def SimI (g : Gam) (W : WX) (wi : TI) (m : MI) : Prop := ∀ w0 H0 w H σ env S O (Q : It → Hp → Prop), StR g w0 H0 w H σ env S O →
  PostX g W w0 H0 w σ env O (m env S) (fun ds _ w' H' => ∀ J, ItR g w' J ds → Q J H') → wi σ H Q
structure SI (X : Cx) (Y : Gam) (W : WX) (tg e : Expr) (wi : TI) (m : MI) : Prop where
  pi : PI X tg e wi
  sim : SimI Y W wi m
section
variable {X : Cx} {Y : Gam} {W : WX} {e a b c tg : Expr} {es rest : List Expr} {ta tb te : TE} {tt tu : TT} {ma mb me : ME} {mt mu : MT} {mf : MF} {t : TA} {m : MA} {pos : Pos} {s : Stmt} {ss : List Stmt} {t1 t2 : TS} {m1 m2 : MS} {wi : TI} {mi : MI}
def forL (g : MG) (b : MS) : List D → MS
  | [], env, S => .nx env S
  | d :: ds, env, S => match g d env with
    | none => .stuck
    | some e1 => match b e1 S with
      | .nx e S1 => forL g b ds e S1
      | .ct e S1 => forL g b ds e S1
      | .bk e S1 => .nx e S1
      | o => o
def sFor (mi : MI) (g : MG) (b : MS) : MS := fun env S => (mi env S).out env fun ds S1 => forL g b ds env S1
theorem sim_for {g : Gam} {is : List Nat} {tg : TG} {mg : MG} (hi : SimI g W wi mi) (hg : SimG g is tg mg) (hb : SimS g W t1 m1) : SimS g W (tFor wi tg t1) (sFor mi mg m1) := fun w0 H0 w H σ env S O Dn st p =>
  hi w0 H0 w H σ env S O _ st ((PostS.out p).imp fun ds S1 w1 H1 st1 l1 p1 J hJ => by
    refine ⟨fun i m σ H => m + i = ds.length ∧ ∃ w env S O, StR g w0 H0 w H σ env S O ∧ w1.le w ∧ PostS g W w0 H0 w Dn (forL mg m1 (ds.drop i) env S), ⟨ds.length, by omega, w1, env, S1, O, st1, .refl w1, p1⟩, ?_⟩
    rintro i k σ2 H2 ⟨hk, w2, env2, S2, O2, st2, l2, p2⟩
    obtain ⟨hgo, hstop⟩ := hJ w2 H2 l2 st2.ok.ex
    by_cases hlt : i < ds.length
    · have ed : ds.drop i = ds[i] :: ds.drop (i + 1) := List.drop_eq_getElem_cons hlt
      obtain ⟨go, yld⟩ := hgo i ds[i] (List.getElem?_eq_getElem hlt)
      refine .inr ⟨go, fun σ' H' => ∃ w env S O, StR g w0 H0 w H' σ' env S O ∧ w1.le w ∧ PostS g W w0 H0 w Dn (forL mg m1 (ds.drop (i + 1)) env S), fun σ' H' h' => ⟨k - 1, by omega, by omega, h'⟩, fun x H' hy => ?_⟩
      obtain ⟨w3, gr, rx⟩ := yld x H' hy
      have st3 := st2.grow gr
      have l3 := gr.le st2.ok
      rw [ed] at p2
      unfold forL at p2
      cases z : mg ds[i] env2 with
      | none => rw [z] at p2; exact False.elim p2
      | some e1 =>
        rw [z] at p2
        refine hg w0 H0 w3 H' σ2 env2 S2 O2 ds[i] x _ e1 st3 rx z fun σ4 O4 st4 _ => ?_
        refine hb w0 H0 w3 H' σ4 e1 S2 O4 _ st4 ?_
        have p2 : PostS g W w0 H0 w2 Dn (match m1 e1 S2 with
          | .nx e S1 => forL mg m1 (ds.drop (i + 1)) e S1
          | .ct e S1 => forL mg m1 (ds.drop (i + 1)) e S1
          | .bk e S1 => .nx e S1
          | o => o) := p2
        cases y : m1 e1 S2 with
        | stuck => rw [y] at p2; exact p2
        | nx e S5 => rw [y] at p2; exact fun w' H' σ' O' st' l' => ⟨w', e, S5, O', st', (l2.trans l3).trans l', p2.mono (l3.trans l')⟩
        | ct e S5 => rw [y] at p2; exact fun w' H' σ' O' st' l' => ⟨w', e, S5, O', st', (l2.trans l3).trans l', p2.mono (l3.trans l')⟩
        | bk e S5 => rw [y] at p2; exact fun w' H' σ' O' st' l' => p2 w' H' σ' O' st' (l3.trans l')
        | rt r S5 => rw [y] at p2; exact p2
        | exc c q e S5 => rw [y] at p2; exact fun w' H' σ' O' cls dd st' l' x => p2 w' H' σ' O' cls dd st' (l3.trans l') x
    · have ei : i = ds.length := by omega
      refine .inl ⟨by rw [ei]; exact hstop, ?_⟩
      have ed : ds.drop i = [] := by rw [ei]; exact List.drop_length
      rw [ed] at p2
      exact p2 w2 H2 σ2 O2 st2 (.refl w2))
theorem t_for {tg iter : Expr} {body : List Stmt} {is : List Nat} {g : TG} {mg : MG} (hp : PassesOwn (model X.prog X.w) X.A X.env X.xe) (hi : SI X Y W tg iter wi mi) (hg : SG X Y is tg g mg) (hb : SB X Y W body t1 m1) (hc : X.calm = true := by rfl)
    (hs : ∀ x, foldedSetIterable iter X.env x = pure x := by intro _; rfl) : SS X Y W (.For tg iter body [] pos) (tFor wi g t1) (sFor mi mg m1) := ⟨ps_for hp hc hi.pi hg.pg hb.pss hs, sim_for hi.sim hg.sim hb.sim⟩
def hideS : Sl → Sl
  | .o _ => .no
  | s => s
def wipeE (env : Envr) : List Nat → Envr
  | [] => env.map hideS
  | v :: vs => (wipeE env vs).set v .no
theorem wipeE_len (env : Envr) : ∀ vs : List Nat, (wipeE env vs).length = env.length
  | [] => List.length_map _
  | v :: vs => by
    unfold wipeE
    rw [List.length_set, wipeE_len env vs]
theorem wipe_get (σ : L2.St) : ∀ (vs : List Nat) (k : Nat), k ∉ vs → (wipe σ vs)[k]? = σ[k]?
  | [], _, _ => rfl
  | v :: vs, k, h => by
    unfold wipe
    rw [List.getElem?_set_ne (fun z => h (by rw [z]; exact List.mem_cons_self))]
    exact wipe_get σ vs k fun z => h (List.mem_cons_of_mem _ z)
theorem wipe_in (σ : L2.St) : ∀ (vs : List Nat) (k : Nat), k ∈ vs → k < σ.length → (wipe σ vs)[k]? = some none
  | v :: vs, k, h, l => by
    unfold wipe
    by_cases e : v = k
    · rw [e, List.getElem?_set_self (by rw [wipe_length]; exact l)]
    · rw [List.getElem?_set_ne e]
      rcases List.mem_cons.mp h with z | z
      · exact absurd z.symm e
      · exact wipe_in σ vs k z l
theorem wipe_slots {is : List Nat} {a b : L2.St} (h : Slots is a b) {vs : List Nat} (hv : ∀ i ∈ is, i ∈ vs) : wipe b vs = wipe a vs := by
  refine List.ext_getElem? fun k => ?_
  by_cases hk : k ∈ vs
  · by_cases hl : k < a.length
    · rw [wipe_in a vs k hk hl, wipe_in b vs k hk (by rw [h.1]; exact hl)]
    · have h1 := h.1
      rw [List.getElem?_eq_none (l := wipe b vs) (by rw [wipe_length]; omega), List.getElem?_eq_none (l := wipe a vs) (by rw [wipe_length]; omega)]
  · rw [wipe_get b vs k hk, wipe_get a vs k hk]
    exact h.2 k fun z => hk (hv k z)
theorem wipe_wipe {vs : List Nat} (σ : L2.St) : wipe (wipe σ vs) vs = wipe σ vs := wipe_slots (is := vs) ⟨wipe_length σ vs, fun k hk => wipe_get σ vs k hk⟩ fun _ h => h
theorem wipeE_get (env : Envr) : ∀ (vs : List Nat) (k : Nat) (s : Sl), (wipeE env vs)[k]? = some s → s = .no ∨ (∃ d, s = .v d ∧ env[k]? = some (.v d) ∧ k ∉ vs)
  | [], k, s, h => by
    unfold wipeE at h
    rw [List.getElem?_map] at h
    cases e : env[k]? with
    | none => rw [e] at h; cases h
    | some s' =>
      rw [e] at h
      cases s' with
      | no => exact .inl (Option.some.inj h).symm
      | o c => exact .inl (Option.some.inj h).symm
      | v d => exact .inr ⟨d, (Option.some.inj h).symm, rfl, by simp⟩
  | v :: vs, k, s, h => by
    unfold wipeE at h
    rw [List.getElem?_set] at h
    split at h
    · split at h
      · exact .inl (Option.some.inj h).symm
      · cases h
    · rename_i hne
      rcases wipeE_get env vs k s h with z | ⟨d, z1, z2, z3⟩
      · exact .inl z
      · exact .inr ⟨d, z1, z2, fun q => by
          rcases List.mem_cons.mp q with q | q
          · exact hne q.symm
          · exact z3 q⟩
theorem StR.hide {g : Gam} {w0 w : Wd} {H0 H : Hp} {σ : L2.St} {env : Envr} {S : Sto} {O : List (Option Addr)} (st : StR g w0 H0 w H σ env S O) (vs : List Nat) : StR g w H w H (wipe σ vs) (wipeE env vs) S (List.replicate σ.length none) := by
  have nn : ∀ (i : Nat) (p : Addr), (List.replicate σ.length (none : Option Addr))[i]? ≠ some (some p) := fun i p e => by
    rw [List.getElem?_replicate] at e
    split at e <;> cases e
  refine ⟨st.ok, .refl w H, by rw [wipeE_len, wipe_length]; exact st.l1, by rw [List.length_replicate, wipe_length], fun i s x o e1 e2 e3 => ?_, fun i j p e _ => absurd e (nn i p), fun i p e => absurd e (nn i p)⟩
  have eo : o = none := by
    rw [List.getElem?_replicate] at e3
    split at e3
    · exact (Option.some.inj e3).symm
    · cases e3
  rcases wipeE_get env vs i s e1 with z | ⟨d, z1, z2, z3⟩
  · rw [z]
    exact eo
  · rw [z1]
    rw [wipe_get σ vs i z3] at e2
    have hO : i < O.length := by
      rw [st.l2, ← st.l1]
      exact (List.getElem?_eq_some_iff.mp z2).1
    obtain ⟨_, v, q1, q2⟩ := st.sl i (.v d) x O[i] z2 e2 (List.getElem?_eq_getElem hO)
    exact ⟨eo, v, q1, q2⟩
def W0 : WX := fun _ _ _ _ => False
def lcR (g : MG) (tt : MT) (te : ME) (env : Envr) : List D → Sto → R (List D)
  | [], S => .ok [] S
  | d :: ds, S => match g d env with
    | none => .stuck
    | some e1 => match tt e1 S with
      | .ok true S1 => (match te e1 S1 with
        | .ok y S2 => (lcR g tt te env ds S2).bind fun ys S3 => .ok (y :: ys) S3
        | _ => .stuck)
      | .ok false S1 => lcR g tt te env ds S1
      | _ => .stuck
theorem lcR_noexc {g : MG} {tt : MT} {te : ME} {env : Envr} : ∀ (ds : List D) (S : Sto) (c : Str) (p : Option D) (s : Sto), lcR g tt te env ds S ≠ .exc c p s
  | [], S, c, p, s, h => by
    unfold lcR at h
    cases h
  | d :: ds, S, c, p, s, h => by
    unfold lcR at h
    split at h
    · cases h
    · split at h
      · split at h
        · rename_i y S2 _
          cases q : lcR g tt te env ds S2 with
          | stuck => rw [q] at h; cases h
          | exc c' p' s' => exact lcR_noexc ds S2 c' p' s' q
          | ok ys s' => rw [q] at h; cases h
        · cases h
      · exact lcR_noexc ds _ c p s h
      · cases h
theorem Frame.upd_new {w0 w : Wd} {H0 H : Hp} {p : Addr} {o : HO} (f : Frame w0 H0 w H) (h : H0 p = none) : Frame w0 H0 w (upd H p o) :=
  ⟨f.le, fun a x e n t => by
    rw [upd_ne (fun z => by rw [z, h] at e; cases e)]
    exact f.keep a x e n t, f.newG, f.rho, fun a e => by
    by_cases ha : a = p
    · rw [ha, upd_same]
      exact fun z => nomatch z
    · rw [upd_ne ha]
      exact f.dom a e, fun a ps e => by
    rw [upd_ne (fun z => by rw [z, h] at e; cases e)]
    exact f.tb a ps e, fun a x u e => by
    rw [upd_ne (fun z => by rw [z, h] at e; cases e)]
    exact f.fz a x u e⟩
theorem ok_upd {g : Gam} {w : Wd} {H : Hp} {S : Sto} {p : Addr} {xs : List V} {o : HO} (k : Ok g w H S) (e : H p = some (.lst xs)) (hg : w.G p = none) (hr : p ∉ w.rho) : Ok g w (upd H p o) S := by
  refine ⟨fun b u q => ?_, ⟨k.cells.nd, k.cells.len, fun m b q e9 e10 => ?_⟩, tabs_upd k.tabs (fun ps z => by rw [e] at z; cases z) (fun φ _ z => by rw [e] at z; cases z), k.notab⟩
  · rw [upd_ne (fun z => by rw [z, hg] at q; cases q)]
    exact k.ex b u q
  · obtain ⟨q1, q2⟩ := k.cells.at_ m b q e9 e10
    exact ⟨q1, q2.move (.refl w) (upd_ne fun z => hr (by rw [← z]; exact List.mem_of_getElem? e9))⟩
def fin (ys : List D) (S : Sto) : R Cell := if szB ys.length then .ok (.lst ys) S else .stuck
def fLc (mi : MI) (g : MG) (tt : MT) (te : ME) (vs : List Nat) : MF := fun env S => (mi env S).bind fun ds S1 => (lcR g tt te (wipeE env vs) ds S1).bind fin
theorem sim_lc {g : Gam} {is vs : List Nat} {tg : TG} {mg : MG} (hi : SimI g W wi mi) (hg : SimG g is tg mg) (hv : ∀ i ∈ is, i ∈ vs) (ht : SimT g W0 tt mt) (he : SimE g W0 te me) : SimF g W (tLc wi tg tt te vs) (fLc mi mg mt me vs) := fun w0 H0 w H σ env S O Q st p => by
  refine hi w0 H0 w H σ env S O _ st ((PostX.bind p).imp fun ds S1 w1 H1 st1 l1 p1 J hJ D hD => ?_)
  obtain ⟨o1, o2, o3, o4⟩ := st1.out hD
  refine ⟨fun i m H => m + i = ds.length ∧ ∃ w' S' acc accV, Frame w1 H1 w' H ∧ Ok g w' H S' ∧ H D = some (.lst accV) ∧ w'.G D = none ∧ D ∉ w'.rho ∧ RepL g w' acc accV ∧
    PostX g W w0 H0 w' σ env O ((lcR mg mt me (wipeE env vs) (ds.drop i) S').bind fun ys S3 => fin (acc ++ ys) S3) (fun c _ w' H' => ∀ p, OwnAt g w' H0 H' O c p → Q (.ref p) H'), ?_, ?_⟩
  · obtain ⟨k2, f2⟩ := ok_lay (o := .lst []) st1.ok hD nt_lst
    exact ⟨ds.length, by omega, w1, S1, [], [], f2, k2, upd_same, o2, o3, RepL.nil_, p1⟩
  · rintro i k H2 ⟨hk, w2, S2, acc, accV, f2, k2, e2, g2, r2, ra, p2⟩
    obtain ⟨hgo, hstop⟩ := hJ w2 H2 f2.le k2.ex
    have st2 : StR g w0 H0 w2 H2 σ env S2 O := st1.after f2 k2
    have stb : StR g w2 H2 w2 H2 (wipe σ vs) (wipeE env vs) S2 (List.replicate σ.length none) := st2.hide vs
    by_cases hlt : i < ds.length
    · have ed : ds.drop i = ds[i] :: ds.drop (i + 1) := List.drop_eq_getElem_cons hlt
      obtain ⟨go, yld⟩ := hgo i ds[i] (List.getElem?_eq_getElem hlt)
      refine .inr ⟨go, fun H => ∃ w' S' acc accV, Frame w1 H1 w' H ∧ Ok g w' H S' ∧ H D = some (.lst accV) ∧ w'.G D = none ∧ D ∉ w'.rho ∧ RepL g w' acc accV ∧
        PostX g W w0 H0 w' σ env O ((lcR mg mt me (wipeE env vs) (ds.drop (i + 1)) S').bind fun ys S3 => fin (acc ++ ys) S3) (fun c _ w' H' => ∀ p, OwnAt g w' H0 H' O c p → Q (.ref p) H'), fun H' h' => ⟨k - 1, by omega, by omega, h'⟩, fun x H' hy => ?_⟩
      obtain ⟨w3, gr, rx⟩ := yld x H' hy
      have st3 := stb.grow gr
      rw [ed] at p2
      unfold lcR at p2
      cases z : mg ds[i] (wipeE env vs) with
      | none => rw [z] at p2; exact False.elim p2
      | some e1 =>
        simp only [z] at p2
        refine hg w2 H2 w3 H' _ _ S2 _ ds[i] x _ e1 st3 rx z fun σ4 O4 st4 sl4 => ⟨?_, ?_⟩
        · rw [wipe_slots sl4 hv, wipe_wipe]
        · refine ht w2 H2 w3 H' σ4 e1 S2 O4 _ st4 ?_
          cases y : mt e1 S2 with
          | stuck => simp only [y] at p2; exact p2
          | exc c q s => simp only [y] at p2; exact False.elim p2
          | ok bb S5 =>
            intro w5 H5 st5 l5
            have keepD : ∀ {w6 : Wd} {H6 : Hp}, Frame w2 H2 w6 H6 → H6 D = some (.lst accV) ∧ w6.G D = none ∧ D ∉ w6.rho := fun {w6 H6} f6 =>
              ⟨f6.keep D _ e2 r2 nt_lst, (f6.newG D (by rw [e2]; exact fun z => nomatch z)).trans g2, fun q => by
                rcases f6.rho D q with z | z
                · exact r2 z
                · rw [e2] at z; cases z⟩
            cases bb with
            | false =>
              simp only [y] at p2
              simp only [Bool.false_eq_true, if_false]
              obtain ⟨q1, q2, q3⟩ := keepD st5.fr
              exact ⟨w5, S5, acc, accV, f2.trans st5.fr, st5.ok, q1, q2, q3, ra.mono st5.fr.le, PostX.mono p2 st5.fr.le⟩
            | true =>
              simp only [y] at p2
              simp only [if_true]
              refine he w2 H2 w5 H5 σ4 e1 S5 O4 _ st5 ?_
              cases u : me e1 S5 with
              | stuck => simp only [u] at p2; exact p2
              | exc c q s => simp only [u] at p2; exact False.elim p2
              | ok yv S6 =>
                simp only [u] at p2
                intro w6 H6 st6 l6 v6 r6
                obtain ⟨q1, q2, q3⟩ := keepD st6.fr
                have p3 : PostX g W w0 H0 w2 σ env O (((lcR mg mt me (wipeE env vs) (ds.drop (i + 1)) S6).bind fun ys S3 => R.ok (yv :: ys) S3).bind fun ys S3 => fin (acc ++ ys) S3) (fun c _ w' H' => ∀ p, OwnAt g w' H0 H' O c p → Q (.ref p) H') := p2
                have p4 : PostX g W w0 H0 w2 σ env O ((lcR mg mt me (wipeE env vs) (ds.drop (i + 1)) S6).bind fun ys S3 => fin ((acc ++ [yv]) ++ ys) S3) (fun c _ w' H' => ∀ p, OwnAt g w' H0 H' O c p → Q (.ref p) H') := by
                  cases q : lcR mg mt me (wipeE env vs) (ds.drop (i + 1)) S6 with
                  | stuck => rw [q] at p3; exact p3
                  | exc c a s => rw [q] at p3; exact p3
                  | ok ys s =>
                    rw [q] at p3
                    have p3 : PostX g W w0 H0 w2 σ env O (fin (acc ++ (yv :: ys)) s) _ := p3
                    show PostX g W w0 H0 w2 σ env O (fin ((acc ++ [yv]) ++ ys) s) _
                    rw [List.append_assoc]
                    exact p3
                have hsz : acc.length + 1 ≤ 100000 := by
                  cases q : lcR mg mt me (wipeE env vs) (ds.drop (i + 1)) S6 with
                  | stuck => rw [q] at p4; exact False.elim p4
                  | exc c a s => exact absurd q (lcR_noexc _ _ _ _ _)
                  | ok ys s =>
                    rw [q] at p4
                    have p4 : PostX g W w0 H0 w2 σ env O (fin ((acc ++ [yv]) ++ ys) s) _ := p4
                    unfold fin at p4
                    split at p4
                    · rename_i hz
                      have hz2 : ((acc ++ [yv]) ++ ys).length ≤ 100000 := of_decide_eq_true hz
                      simp only [List.length_append, List.length_cons, List.length_nil] at hz2
                      omega
                    · exact False.elim p4
                refine ⟨accV, q1, Nat.lt_of_lt_of_le (by rw [← ra.len]; omega) (by decide : 100000 ≤ sizeLine), ?_⟩
                have f7 := (f2.trans st6.fr).upd_new (o := .lst (accV ++ [v6])) hD
                have k7 := ok_upd (o := .lst (accV ++ [v6])) st6.ok q1 q2 q3
                exact ⟨w6, S6, acc ++ [yv], accV ++ [v6], f7, k7, upd_same, q2, q3, (ra.mono st6.fr.le).append_ (RepL.cons_ r6 RepL.nil_), PostX.mono p4 st6.fr.le⟩
    · have ei : i = ds.length := by omega
      refine .inl ⟨by rw [ei]; exact hstop, ?_⟩
      have ed : ds.drop i = [] := by rw [ei]; exact List.drop_length
      rw [ed] at p2
      have p2 : PostX g W w0 H0 w2 σ env O (fin (acc ++ []) S2) _ := p2
      rw [List.append_nil] at p2
      unfold fin at p2
      split at p2
      · exact p2 w2 H2 st2 (.refl w2) D ⟨o1, g2, r2, o4, ⟨accV, e2, ra⟩⟩
      · exact False.elim p2
end
end Mm
namespace Mm
open PySem L2
section
variable {X : Cx} {Y : Gam} {W : WX} {e a b c tg iter elt : Expr} {es rest ifs : List Expr} {ta tb te : TE} {tt tu : TT} {ma mb me : ME} {mt mu : MT} {mf : MF} {t : TA} {m : MA} {pos : Pos} {s : Stmt} {ss : List Stmt} {t1 t2 : TS} {m1 m2 : MS} {wi : TI} {mi : MI}
structure ST (X : Cx) (Y : Gam) (W : WX) (ifs : List Expr) (t : TT) (m : MT) : Prop where
  pts : PTs X ifs t
  sim : SimT Y W t m
def cYes : MT := fun _ S => .ok true S
theorem ts_nil : ST X Y W [] tYes cYes := ⟨pts_nil, fun w0 H0 w H σ env S O Q st p => p w H st (.refl w)⟩
theorem ts_one (h : SC X Y W c tt mt) : ST X Y W [c] tt mt := ⟨pts_one h.pt, h.sim⟩
variable {scope : Scope} {own : List (Str × Nat)} {is : List Nat} {g : TG} {mg : MG}
theorem f_lc (hN : X.N.Nodup) (hi : SI X Y W tg iter wi mi) (ok : BlkOk X.N X.env.scope scope own) (hg : ∀ (s : Shared) (H : Hp) (C : Addr) (cl : List (Str × Addr)) (fp : List Addr), SG (X.blk s H scope (compEnvC scope cl C X.env) fp) Y is tg g mg)
    (ht : ∀ (s : Shared) (H : Hp) (C : Addr) (cl : List (Str × Addr)) (fp : List Addr), ST (X.blk s H scope (compEnvC scope cl C X.env) fp) Y W0 ifs tt mt)
    (he : ∀ (s : Shared) (H : Hp) (C : Addr) (cl : List (Str × Addr)) (fp : List Addr), SE (X.blk s H scope (compEnvC scope cl C X.env) fp) Y W0 elt te me) (hv : ∀ i ∈ is, i ∈ own.map (·.2) := by decide) (hc : X.calm = true := by rfl) (hs : ∀ x, foldedSetIterable iter X.env x = pure x := by intro _; rfl) :
    SF X Y W (.ListComp elt [⟨tg, iter, ifs, 0⟩] scope pos) (tLc wi g tt te (own.map (·.2))) (fLc mi mg mt me (own.map (·.2))) :=
  ⟨pe_lc hc hN hi.pi ok (fun s H C cl fp => (hg s H C cl fp).pg) (fun s H C cl fp => (ht s H C cl fp).pts) (fun s H C cl fp => (he s H C cl fp).pe) hs,
    sim_lc hi.sim (hg X.s_0 X.H_0 0 [] []).sim hv (ht X.s_0 X.H_0 0 [] []).sim (he X.s_0 X.H_0 0 [] []).sim⟩
theorem ps_lc {i : Nat} {y : Str} {py spos : Pos} (hN : X.N.Nodup) (hy : X.N[i]? = some y) (hyl : X.env.scope.names.lookup y = some .local) (hsw : swapsWith (.ListComp elt [⟨tg, iter, ifs, 0⟩] scope pos) (some (.Name y py)) spos.line X.env = pure true)
    (hi : SI X Y W tg iter wi mi) (ok : BlkOk X.N X.env.scope scope own) (hg : ∀ (s : Shared) (H : Hp) (C : Addr) (cl : List (Str × Addr)) (fp : List Addr), SG (X.blk s H scope (compEnvC scope cl C X.env) fp) Y is tg g mg)
    (ht : ∀ (s : Shared) (H : Hp) (C : Addr) (cl : List (Str × Addr)) (fp : List Addr), ST (X.blk s H scope (compEnvC scope cl C X.env) fp) Y W0 ifs tt mt)
    (he : ∀ (s : Shared) (H : Hp) (C : Addr) (cl : List (Str × Addr)) (fp : List Addr), SE (X.blk s H scope (compEnvC scope cl C X.env) fp) Y W0 elt te me) (hc : X.calm = true) (hs : ∀ x, foldedSetIterable iter X.env x = pure x) :
    PS X (.Assign [.Name y py] (.ListComp elt [⟨tg, iter, ifs, 0⟩] scope pos) spos) (tAsg (tLc wi g tt te (own.map (·.2))) (gName i)) :=
  ps_setLc hc hN hy hyl hsw hi.pi ok (fun s H C cl fp => (hg s H C cl fp).pg) (fun s H C cl fp => (ht s H C cl fp).pts) (fun s H C cl fp => (he s H C cl fp).pe) hs
theorem t_ownLc {i : Nat} {y : Str} {py spos : Pos} (hN : X.N.Nodup) (hy : X.N[i]? = some y) (hyl : X.env.scope.names.lookup y = some .local) (hsw : swapsWith (.ListComp elt [⟨tg, iter, ifs, 0⟩] scope pos) (some (.Name y py)) spos.line X.env = pure true)
    (hi : SI X Y W tg iter wi mi) (ok : BlkOk X.N X.env.scope scope own) (hg : ∀ (s : Shared) (H : Hp) (C : Addr) (cl : List (Str × Addr)) (fp : List Addr), SG (X.blk s H scope (compEnvC scope cl C X.env) fp) Y is tg g mg)
    (ht : ∀ (s : Shared) (H : Hp) (C : Addr) (cl : List (Str × Addr)) (fp : List Addr), ST (X.blk s H scope (compEnvC scope cl C X.env) fp) Y W0 ifs tt mt)
    (he : ∀ (s : Shared) (H : Hp) (C : Addr) (cl : List (Str × Addr)) (fp : List Addr), SE (X.blk s H scope (compEnvC scope cl C X.env) fp) Y W0 elt te me) (hv : ∀ i ∈ is, i ∈ own.map (·.2) := by decide) (hc : X.calm = true := by rfl) (hs : ∀ x, foldedSetIterable iter X.env x = pure x := by intro _; rfl) :
    SS X Y W (.Assign [.Name y py] (.ListComp elt [⟨tg, iter, ifs, 0⟩] scope pos) spos) (tAsg (tLc wi g tt te (own.map (·.2))) (gName i)) (sOwn i (fLc mi mg mt me (own.map (·.2)))) :=
  ⟨ps_lc hN hy hyl hsw hi ok hg ht he hc hs, sim_own (sim_lc hi.sim (hg X.s_0 X.H_0 0 [] []).sim hv (ht X.s_0 X.H_0 0 [] []).sim (he X.s_0 X.H_0 0 [] []).sim)⟩
theorem sim_frz {g : Gam} (h : SimF g W te mf) : SimE g W te (mFrz mf) := fun w0 H0 w H σ env S O Q st p => h w0 H0 w H σ env S O Q st ((PostX.bind p).imp fun c S1 w1 H1 st1 l1 p1 q ow => by
  obtain ⟨w2, st2, l2, r⟩ := own_freeze st1 ow
  exact p1 w2 H1 st2 l2 _ r)
theorem t_setLc {i : Nat} {y : Str} {py spos : Pos} (hN : X.N.Nodup) (hy : X.N[i]? = some y) (hyl : X.env.scope.names.lookup y = some .local) (hsw : swapsWith (.ListComp elt [⟨tg, iter, ifs, 0⟩] scope pos) (some (.Name y py)) spos.line X.env = pure true)
    (hi : SI X Y W tg iter wi mi) (ok : BlkOk X.N X.env.scope scope own) (hg : ∀ (s : Shared) (H : Hp) (C : Addr) (cl : List (Str × Addr)) (fp : List Addr), SG (X.blk s H scope (compEnvC scope cl C X.env) fp) Y is tg g mg)
    (ht : ∀ (s : Shared) (H : Hp) (C : Addr) (cl : List (Str × Addr)) (fp : List Addr), ST (X.blk s H scope (compEnvC scope cl C X.env) fp) Y W0 ifs tt mt)
    (he : ∀ (s : Shared) (H : Hp) (C : Addr) (cl : List (Str × Addr)) (fp : List Addr), SE (X.blk s H scope (compEnvC scope cl C X.env) fp) Y W0 elt te me) (hv : ∀ i ∈ is, i ∈ own.map (·.2) := by decide) (hc : X.calm = true := by rfl) (hs : ∀ x, foldedSetIterable iter X.env x = pure x := by intro _; rfl) :
    SS X Y W (.Assign [.Name y py] (.ListComp elt [⟨tg, iter, ifs, 0⟩] scope pos) spos) (tAsg (tLc wi g tt te (own.map (·.2))) (gName i)) (sAsg (mFrz (fLc mi mg mt me (own.map (·.2)))) (gN i)) :=
  ⟨ps_lc hN hy hyl hsw hi ok hg ht he hc hs, sim_asg (is := [i]) (sim_frz (sim_lc hi.sim (hg X.s_0 X.H_0 0 [] []).sim hv (ht X.s_0 X.H_0 0 [] []).sim (he X.s_0 X.H_0 0 [] []).sim)) fun w0 H0 w H σ env S O d v Q e st r h q => by
    cases h
    exact q _ _ (st.set_v i r) (Slots.set σ (by simp))⟩
def startE (n : Nat) (ds : List D) : Envr := ds.map Sl.v ++ List.replicate (n - ds.length) .no
def mFn (n : Nat) (m : MS) : MFn := fun ds S => match m (startE n ds) S with
  | .nx _ S1 => .ok (.val .non) S1
  | .rt r S1 => .ok r S1
  | .exc c p _ S1 => .exc c p S1
  | _ => .stuck
theorem stR_start {g : Gam} {w : Wd} {H : Hp} {S : Sto} {N : List Str} {ds : List D} {vs : List V} (k : Ok g w H S) (r : RepL g w ds vs) : StR g w H w H (L2.start N vs) (startE N.length ds) S (List.replicate (L2.start N vs).length none) := by
  have nn : ∀ (i : Nat) (p : Addr), (List.replicate (L2.start N vs).length (none : Option Addr))[i]? ≠ some (some p) := fun i p e => by
    rw [List.getElem?_replicate] at e
    split at e <;> cases e
  refine ⟨k, .refl w H, ?_, List.length_replicate, fun i s x o e1 e2 e3 => ?_, fun i j p e _ => absurd e (nn i p), fun i p e => absurd e (nn i p)⟩
  · unfold startE L2.start
    rw [List.length_append, List.length_append, List.length_map, List.length_map, List.length_replicate, List.length_replicate, r.len]
  · have eo : o = none := by
      rw [List.getElem?_replicate] at e3
      split at e3
      · exact (Option.some.inj e3).symm
      · cases e3
    unfold startE at e1
    unfold L2.start at e2
    by_cases hi : i < ds.length
    · rw [List.getElem?_append_left (by rw [List.length_map]; exact hi), List.getElem?_map, List.getElem?_eq_getElem hi] at e1
      obtain ⟨v, ev, rv⟩ := r.at_ (List.getElem?_eq_getElem hi)
      rw [List.getElem?_append_left (by rw [List.length_map, ← r.len]; exact hi), List.getElem?_map, ev] at e2
      cases e1
      cases e2
      exact ⟨eo, v, rfl, rv⟩
    · rw [List.getElem?_append_right (by rw [List.length_map]; omega), List.getElem?_replicate] at e1
      split at e1
      · cases e1
        exact eo
      · cases e1
theorem fn_post {g : Gam} {w : Wd} {H : Hp} {S : Sto} {N : List Str} {ds : List D} {vs : List V} {Q : VK} {E : XK} (k : Ok g w H S) (r : RepL g w ds vs) (h : SimS g (fun cls d _ H => E cls d H) t1 m1) (p : PostF g w H Q E (mFn N.length m1 ds S)) :
    t1 { nx := fun _ H' => Q .non H', rt := Q } (L2.start N vs) H := by
  refine h w H w H _ (startE N.length ds) S _ _ (stR_start k r) ?_
  unfold mFn at p
  cases q : m1 (startE N.length ds) S with
  | stuck => rw [q] at p; exact p
  | bk e S1 => rw [q] at p; exact False.elim p
  | ct e S1 => rw [q] at p; exact False.elim p
  | nx e S1 =>
    rw [q] at p
    exact fun w' H' σ' O' st' _ => p w' H' .non st'.fr st'.ok (by unfold RetR Rep; rfl)
  | rt rr S1 =>
    rw [q] at p
    exact fun w' H' v k' f' r' => p w' H' v f' k' r'
  | exc c x e S1 =>
    rw [q] at p
    exact fun w' H' σ' O' cls dd st' _ x => p w' H' cls dd st'.fr st'.ok x
theorem fn_sim {P : Program} {w : World} {K : PySem.W.Frag} {mg : Str → Option Value} {base : Heap} {x qual : Str} {params : Arguments} {body : List Stmt} {scope : Scope} {dvs : List V} {kws : List (Str × V)} {f : Addr} {fd : FuncData} {N ps : List Str} {k n : Nat} {m1 : MS} (Y : Gam)
    (F : FunD K x qual params body scope dvs kws f fd) (S : FnScope N ps scope) (hn : n = ps.length)
    (hbody : ∀ (cdv : Value) (A : Around) (outer : List Env) (s : Shared) (H : Hp) (E : XK), Room k (A.deeper (PyProof.Rows.envOfC qual scope s.heap.objs.size f cdv)) → L2N.Takes (cxOf (L2N.CX P w) P w K mg base N qual scope f cdv A outer s H E) (fun cls d _ H => E cls d H) →
      PassesOwn (model P w) (A.deeper (PyProof.Rows.envOfC qual scope s.heap.objs.size f cdv)) (PyProof.Rows.envOfC qual scope s.heap.objs.size f cdv) (cxOf (L2N.CX P w) P w K mg base N qual scope f cdv A outer s H E).xe →
      ∃ t1, SB (cxOf (L2N.CX P w) P w K mg base N qual scope f cdv A outer s H E) Y (fun cls d _ H => E cls d H) body t1 m1) :
    FnOk P w K mg base (L2N.CX P w) (k + 1) f fd ps (spOf Y n (mFn N.length m1)) :=
  F.ok S (fun vs H Q E h => by rw [h.1, hn]) (fun cdv A outer s H vs Q E hr h => by
    obtain ⟨_, w1, ds, S1, k1, r1, p1⟩ := h
    obtain ⟨t1, B⟩ := hbody cdv A outer s H E hr (L2N.takes_of rfl rfl rfl rfl) (passes_of rfl)
    exact ⟨_, B.pss, fn_post k1 r1 B.sim p1⟩)
end
end Mm
namespace Mm
open PySem L2
theorem rep_lst {g : Gam} {w : Wd} {ds : List D} {v : V} (h : Rep g w (.lst ds) v) : ∃ a vs, v = .ref a ∧ w.G a = some (.lst vs) ∧ RepL g w ds vs := by
  unfold Rep at h
  exact h
theorem rep_tup {g : Gam} {w : Wd} {ds : List D} {v : V} (h : Rep g w (.tup ds) v) : ∃ a vs, v = .ref a ∧ SqT g.K w.G a vs ∧ RepL g w ds vs := by
  unfold Rep at h
  obtain ⟨a, vs, e, q, r⟩ := h
  exact ⟨a, vs, e, q.sq, r⟩
theorem rep_str {g : Gam} {w : Wd} {x : Str} {v : V} (h : Rep g w (.str x) v) : v = .str x := by
  unfold Rep at h
  exact h
theorem rep_bl {g : Gam} {w : Wd} {x : Bool} {v : V} (h : Rep g w (.bl x) v) : v = .bl x := by
  unfold Rep at h
  exact h
theorem rep_non {g : Gam} {w : Wd} {v : V} (h : Rep g w .non v) : v = .non := by
  unfold Rep at h
  exact h
theorem rep_ref {g : Gam} {w : Wd} {n : Nat} {v : V} (h : Rep g w (.ref n) v) : ∃ a, w.rho[n]? = some a ∧ v = .ref a := by
  unfold Rep at h
  exact h
theorem rep_str' {g : Gam} {w : Wd} {x : Str} : Rep g w (.str x) (.str x) := by
  unfold Rep
  rfl
theorem rep_non' {g : Gam} {w : Wd} : Rep g w .non .non := by
  unfold Rep
  rfl
theorem repL_two {g : Gam} {w : Wd} {d1 d2 : D} {vs : List V} (h : RepL g w [d1, d2] vs) : ∃ v1 v2, vs = [v1, v2] ∧ Rep g w d1 v1 ∧ Rep g w d2 v2 := by
  unfold RepL at h
  obtain ⟨v1, r1, e1, q1, h⟩ := h
  unfold RepL at h
  obtain ⟨v2, r2, e2, q2, h⟩ := h
  unfold RepL at h
  subst h e2
  exact ⟨v1, v2, e1, q1, q2⟩
theorem repL_one {g : Gam} {w : Wd} {d1 : D} {vs : List V} (h : RepL g w [d1] vs) : ∃ v1, vs = [v1] ∧ Rep g w d1 v1 := by
  unfold RepL at h
  obtain ⟨v1, r1, e1, q1, h⟩ := h
  unfold RepL at h
  subst h
  exact ⟨v1, e1, q1⟩
def intsOf : List D → Option (List Int)
  | [] => some []
  | .int i :: ds => (intsOf ds).map (i :: ·)
  | _ => none
theorem intsOf_rep {g : Gam} {w : Wd} : ∀ {ds : List D} {ns : List Int} {vs : List V}, intsOf ds = some ns → RepL g w ds vs → vs = ns.map V.int
  | [], ns, vs, h, r => by
    unfold intsOf at h
    unfold RepL at r
    cases h
    exact r
  | d :: ds, ns, vs, h, r => by
    cases d with
    | int i =>
      unfold intsOf at h
      cases q : intsOf ds with
      | none => rw [q] at h; cases h
      | some ns' =>
        rw [q] at h
        cases h
        unfold RepL at r
        obtain ⟨v, r', e1, a, b⟩ := r
        rw [e1, rep_int a, intsOf_rep q b]
        rfl
    | _ =>
      unfold intsOf at h
      cases h
def blsOf : List D → Option (List Bool)
  | [] => some []
  | .bl i :: ds => (blsOf ds).map (i :: ·)
  | _ => none
theorem blsOf_map (ns : List Bool) : blsOf (ns.map D.bl) = some ns := by
  induction ns with
  | nil => rfl
  | cons n ns ih =>
    unfold List.map blsOf
    rw [ih]
    rfl
theorem blsOf_rep {g : Gam} {w : Wd} : ∀ {ds : List D} {ns : List Bool} {vs : List V}, blsOf ds = some ns → RepL g w ds vs → vs = ns.map V.bl
  | [], ns, vs, h, r => by
    unfold blsOf at h
    unfold RepL at r
    cases h
    exact r
  | d :: ds, ns, vs, h, r => by
    cases d with
    | bl i =>
      unfold blsOf at h
      cases q : blsOf ds with
      | none => rw [q] at h; cases h
      | some ns' =>
        rw [q] at h
        cases h
        unfold RepL at r
        obtain ⟨v, r', e1, a, b⟩ := r
        rw [e1, rep_bl a, blsOf_rep q b]
        rfl
    | _ =>
      unfold blsOf at h
      cases h
section
variable {X : Cx} {Y : Gam} {W : WX} {e a b c tg iter elt : Expr} {es rest ifs : List Expr} {ta tb te : TE} {tt tu : TT} {ma mb me : ME} {mt mu : MT} {mf : MF} {t : TA} {m : MA} {pos p : Pos} {s : Stmt} {ss : List Stmt} {t1 t2 : TS} {m1 m2 : MS} {wi : TI} {mi : MI}
def iSeq (K : PySem.W.Frag) (tl : TE) : TI := fun σ H R => tl σ H fun x H1 => ∃ a, x = .ref a ∧ (((∃ xs, SqL K H1 a xs) ∧ R (Itl K a) H1) ∨ ((∃ xs, SqT K H1 a xs) ∧ R (Itt K a) H1))
theorem pi_seq {l : Expr} {tl : TE} (hl : PE X l tl) : PI X tg l (iSeq X.K tl) := by
  refine ⟨fun pins s σ H R I h => ?_⟩
  refine thn (hl.run pins s σ H _ I h) fun v s1 ⟨x, H1, I1, r1, q1⟩ => ?_
  obtain ⟨a, e, q1⟩ := q1
  subst e
  cases r1
  rcases q1 with ⟨⟨xs, hq⟩, q⟩ | ⟨⟨xs, hq⟩, q⟩
  · obtain ⟨its, rv, p, hz⟩ := I1.list hq
    refine wpAny_pyIter_list p.isList ?_
    refine ⟨s1.heap.objs.size, [s1.heap.objs.size], _, _, H1, rfl, I1.kept (t' := s1.toks) fun b o e => Heap.get?_push_of_some _ e, turn_list a _, ⟨_, Heap.get?_push_size _ rfl, rfl, rfl⟩, fun b hb => ?_, q⟩
    have e : b = s1.heap.objs.size := by simpa using hb
    subst e
    exact I1.fpOk (Nat.le_refl _) (I1.hok.fresh (Nat.le_refl _))
  · obtain ⟨its, rv, p, hz⟩ := I1.tuple hq
    refine wpAny_pyIter_tuple (show s1.heap.IsTuple a its.toArray from p) ?_
    refine ⟨s1.heap.objs.size, [s1.heap.objs.size], _, _, H1, rfl, I1.kept (t' := s1.toks) fun b o e => Heap.get?_push_of_some _ e, turn_tuple a _, ⟨_, Heap.get?_push_size _ rfl, rfl, rfl⟩, fun b hb => ?_, q⟩
    have e : b = s1.heap.objs.size := by simpa using hb
    subst e
    exact I1.fpOk (Nat.le_refl _) (I1.hok.fresh (Nat.le_refl _))
def itL (me : ME) : MI := fun env S => (me env S).bind fun d S1 => match d with
  | .lst ds => .ok ds S1
  | .tup ds => .ok ds S1
  | _ => .stuck
theorem itR_list {g : Gam} {w : Wd} {a : Addr} {ds : List D} {vs : List V} (e : w.G a = some (.lst vs)) (r : RepL g w ds vs) : ItR g w (Itl g.K a) ds := fun w2 H2 l x => by
  have q : SqL g.K H2 a vs := .inl (.inl (x _ _ (l.ex _ _ e)))
  refine ⟨fun i d hd => ?_, ⟨vs, q, by rw [r.len]; exact Nat.le_refl _⟩⟩
  obtain ⟨v, hv, rv⟩ := r.at_ hd
  refine ⟨⟨vs, v, q, hv⟩, fun y H' hy => ?_⟩
  obtain ⟨e1, e2⟩ := hy
  have e3 := e2 vs q
  rw [hv] at e3
  cases e3
  rw [e1]
  exact ⟨w2, .refl, rv.mono l⟩
theorem itR_tup {g : Gam} {w : Wd} {a : Addr} {ds : List D} {vs : List V} (e : SqT g.K w.G a vs) (r : RepL g w ds vs) : ItR g w (Itt g.K a) ds := fun w2 H2 l x => by
  have q : SqT g.K H2 a vs := same_sqT (l.ex.trans x) e
  refine ⟨fun i d hd => ?_, ⟨vs, q, by rw [r.len]; exact Nat.le_refl _⟩⟩
  obtain ⟨v, hv, rv⟩ := r.at_ hd
  refine ⟨⟨vs, v, q, hv⟩, fun y H' hy => ?_⟩
  obtain ⟨e1, e2⟩ := hy
  have e3 := e2 vs q
  rw [hv] at e3
  cases e3
  rw [e1]
  exact ⟨w2, .refl, rv.mono l⟩
theorem i_seq (h : SE X Y W e te me) (hK : X.K = Y.K := by rfl) : SI X Y W tg e (iSeq Y.K te) (itL me) := ⟨hK ▸ pi_seq h.pe, fun w0 H0 w H σ env S O Q st p =>
  h.sim w0 H0 w H σ env S O _ st ((PostX.bind p).imp fun d S1 w1 H1 st1 l1 p1 v r => by
    cases d with
    | lst ds =>
      obtain ⟨a, vs, e1, e2, e3⟩ := rep_lst r
      exact ⟨a, e1, .inl ⟨⟨vs, .inl (.inl (st1.ok.ex _ _ e2))⟩, p1 w1 H1 st1 (.refl w1) _ (itR_list (g := Y) e2 e3)⟩⟩
    | tup ds =>
      obtain ⟨a, vs, e1, e2, e3⟩ := rep_tup r
      exact ⟨a, e1, .inr ⟨⟨vs, same_sqT st1.ok.ex e2⟩, p1 w1 H1 st1 (.refl w1) _ (itR_tup (g := Y) e2 e3)⟩⟩
    | _ => exact False.elim p1)⟩
def rngD (lo : Int) (n : Nat) : List D := (List.range n).map fun (i : Nat) => D.int (lo + i)
theorem itR_rng {g : Gam} {w : Wd} (lo : Int) (n : Nat) : ItR g w (Itr lo n) (rngD lo n) := fun w2 H2 l x => by
  refine ⟨fun i d hd => ?_, ?_⟩
  · unfold rngD at hd
    rw [List.getElem?_map] at hd
    have hi : i < n := by
      cases q : (List.range n)[i]? with
      | none => rw [q] at hd; cases hd
      | some j =>
        have := (List.getElem?_eq_some_iff.mp q).1
        simpa using this
    rw [List.getElem?_range hi] at hd
    cases hd
    refine ⟨hi, fun y H' hy => ?_⟩
    obtain ⟨e1, e2⟩ := hy
    rw [e1, e2]
    exact ⟨w2, .refl, rep_int'⟩
  · show n ≤ (rngD lo n).length
    unfold rngD
    rw [List.length_map, List.length_range]
    exact Nat.le_refl _
def bBnd (i : Int) (n : Nat) : Bool := Nat.ble i.natAbs n
theorem bBnd_iff {i : Int} {n : Nat} : bBnd i n = true ↔ i.natAbs ≤ n := Iff.of_eq Nat.ble_eq
def rgB (i : Int) : Bool := bBnd i 4611686018427387903
theorem rgB_ok {i : Int} (h : rgB i = true) : -(2 ^ 62) ≤ i ∧ i < 2 ^ 62 := by
  have := bBnd_iff.mp h
  omega
def itR1 (m : MA) : MI := fun env S => (m env S).bind fun ds S1 => match ds with
  | [.int j] => if rgB j then .ok (rngD 0 j.toNat) S1 else .stuck
  | _ => .stuck
theorem i_range1 (hm : X.mg "range" = none) (ha : SA X Y W [a] t m) (hg : Gl X "range" := by rfl) (hs : starEach [a] X.env = [(false, eval a X.env)] := by rfl) : SI X Y W tg (.Call (.Name "range" p) [a] [] pos) (iRng1 t) (itR1 m) := ⟨pi_range1 hg hm ha.pa hs, fun w0 H0 w H σ env S O Q st p =>
  ha.sim w0 H0 w H σ env S O _ st ((PostX.bind p).imp fun ds S1 w1 H1 st1 l1 p1 vs r => by
    split at p1
    · rename_i j
      split at p1
      · rename_i z
        obtain ⟨v, e1, e2⟩ := repL_one r
        rw [rep_int e2] at e1
        exact ⟨j, e1, (rgB_ok z).1, (rgB_ok z).2, p1 w1 H1 st1 (.refl w1) _ (itR_rng 0 _)⟩
      · exact False.elim p1
    · exact False.elim p1)⟩
def enumD (k : Nat) : List D → List D
  | [] => []
  | d :: ds => .tup [.int (k : Nat), d] :: enumD (k + 1) ds
theorem enumD_len : ∀ (ds : List D) (k : Nat), (enumD k ds).length = ds.length
  | [], _ => rfl
  | d :: ds, k => by
    unfold enumD
    rw [List.length_cons, List.length_cons, enumD_len ds]
theorem enumD_at : ∀ (ds : List D) (k i : Nat) (x : D), (enumD k ds)[i]? = some x → ∃ d, ds[i]? = some d ∧ x = .tup [.int ((k + i : Nat) : Int), d]
  | [], _, _, _, h => by simp [enumD] at h
  | d :: ds, k, 0, x, h => by
    unfold enumD at h
    exact ⟨d, rfl, (Option.some.inj h).symm⟩
  | d :: ds, k, i + 1, x, h => by
    unfold enumD at h
    obtain ⟨d', h1, h2⟩ := enumD_at ds (k + 1) i x h
    exact ⟨d', h1, by rw [h2, Nat.add_right_comm, Nat.add_assoc]⟩
theorem itR_enum {g : Gam} {w : Wd} {a : Addr} {ds : List D} {vs : List V} (e : w.G a = some (.lst vs)) (r : RepL g w ds vs) : ItR g w (Ite g.K a) (enumD 0 ds) := fun w2 H2 l x => by
  have q : SqL g.K H2 a vs := .inl (.inl (x _ _ (l.ex _ _ e)))
  refine ⟨fun i d hd => ?_, ⟨vs, q, by rw [enumD_len, r.len]; exact Nat.le_refl _⟩⟩
  obtain ⟨d', hd', ed⟩ := enumD_at ds 0 i d hd
  obtain ⟨v, hv, rv⟩ := r.at_ hd'
  refine ⟨⟨vs, v, q, hv⟩, fun y H' hy => ?_⟩
  obtain ⟨T, x', e1, e2, e3, e4⟩ := hy
  have e5 := e4 vs q
  rw [hv] at e5
  cases e5
  rw [e1, e3, ed, Nat.zero_add]
  refine ⟨_, Grow.one e2 nt_tup, ?_⟩
  unfold Rep
  have le : w2.le ⟨w2.rho, upd w2.G T (.tup [.int (i : Nat), v])⟩ := ⟨⟨[], by simp⟩, same_upd (none_of_same x e2)⟩
  exact ⟨T, _, rfl, .inl (.inl upd_same), RepL.cons_ rep_int' (RepL.cons_ ((rv.mono l).mono le) RepL.nil_)⟩
def zipD : List D → List D → List D
  | x :: xs, y :: ys => .tup [x, y] :: zipD xs ys
  | _, _ => []
theorem zipD_at : ∀ (xs ys : List D) (i : Nat) (z : D), (zipD xs ys)[i]? = some z → ∃ x y, xs[i]? = some x ∧ ys[i]? = some y ∧ z = .tup [x, y]
  | [], _, _, _, h => by simp [zipD] at h
  | _ :: _, [], _, _, h => by simp [zipD] at h
  | x :: xs, y :: ys, 0, z, h => by
    unfold zipD at h
    exact ⟨x, y, rfl, rfl, (Option.some.inj h).symm⟩
  | x :: xs, y :: ys, i + 1, z, h => by
    unfold zipD at h
    exact zipD_at xs ys i z h
theorem zipD_len : ∀ (xs ys : List D), (zipD xs ys).length = min xs.length ys.length
  | [], _ => by simp [zipD]
  | _ :: _, [] => by simp [zipD]
  | x :: xs, y :: ys => by
    unfold zipD
    rw [List.length_cons, zipD_len xs ys, List.length_cons, List.length_cons]
    omega
theorem itR_zip {g : Gam} {w : Wd} {a b : Addr} {ds es : List D} {vs us : List V} (e : w.G a = some (.lst vs)) (r : RepL g w ds vs) (e' : w.G b = some (.lst us)) (r' : RepL g w es us) : ItR g w (Itz g.K a b) (zipD ds es) := fun w2 H2 l x => by
  have q : SqL g.K H2 a vs := .inl (.inl (x _ _ (l.ex _ _ e)))
  have q' : SqL g.K H2 b us := .inl (.inl (x _ _ (l.ex _ _ e')))
  refine ⟨fun i d hd => ?_, ⟨vs, us, q, q', by rw [zipD_len, r.len, r'.len]; omega⟩⟩
  obtain ⟨d1, d2, h1, h2, ed⟩ := zipD_at ds es i d hd
  obtain ⟨v, hv, rv⟩ := r.at_ h1
  obtain ⟨u, hu, ru⟩ := r'.at_ h2
  refine ⟨⟨vs, us, v, u, q, q', hv, hu⟩, fun y H' hy => ?_⟩
  obtain ⟨T, x', y', e1, e2, e3, e4, e5⟩ := hy
  have e6 := e4 vs q
  have e7 := e5 us q'
  rw [hv] at e6
  rw [hu] at e7
  cases e6
  cases e7
  rw [e1, e3, ed]
  refine ⟨_, Grow.one e2 nt_tup, ?_⟩
  unfold Rep
  have le : w2.le ⟨w2.rho, upd w2.G T (.tup [v, u])⟩ := ⟨⟨[], by simp⟩, same_upd (none_of_same x e2)⟩
  exact ⟨T, _, rfl, .inl (.inl upd_same), RepL.cons_ ((rv.mono l).mono le) (RepL.cons_ ((ru.mono l).mono le) RepL.nil_)⟩
end
end Mm
namespace Mm
open PySem L2
def ins1 (x : Int) : List Int → List Int
  | [] => [x]
  | y :: ys => if x ≤ y then x :: y :: ys else y :: ins1 x ys
def isrt : List Int → List Int
  | [] => []
  | x :: xs => ins1 x (isrt xs)
section
variable {X : Cx} {Y : Gam} {W : WX} {e a b c tg iter elt : Expr} {es rest ifs : List Expr} {ta tb te : TE} {tt tu : TT} {ma mb me : ME} {mt mu : MT} {mf : MF} {t : TA} {m : MA} {pos p : Pos} {s : Stmt} {ss : List Stmt} {t1 t2 : TS} {m1 m2 : MS} {wi : TI} {mi : MI} {x : Str}
def CallD (g : Gam) (r : List V → Hp → VK → Prop) (f : Sto → List D → Option D) : Prop := ∀ w H S ds vs d (Q : VK), Ok g w H S → RepL g w ds vs → f S ds = some d → (∀ w' H' v, Grow w H w' H' → Rep g w' d v → Q v H') → r vs H Q
def CallO (g : Gam) (r : List V → Hp → VK → Prop) (f : Sto → List D → Option Cell) : Prop := ∀ w H S ds vs c (Q : VK), Ok g w H S → RepL g w ds vs → f S ds = some c → (∀ p o, H p = none → (∀ ps, o ≠ .tbl ps) → CellR g w (upd H p o) p c → Q (.ref p) (upd H p o)) → r vs H Q
def eCB (f : Sto → List D → Option D) (m : MA) : ME := fun env S => (m env S).bind fun ds S1 => opt (f S1 ds) S1
def fCB (f : Sto → List D → Option Cell) (m : MA) : MF := fun env S => (m env S).bind fun ds S1 => opt (f S1 ds) S1
theorem sim_cb {g : Gam} {r : List V → Hp → VK → Prop} {f : Sto → List D → Option D} (h : CallD g r f) (ha : SimA g W t m) : SimE g W (tCB r t) (eCB f m) := fun w0 H0 w H σ env S O Q st p =>
  ha w0 H0 w H σ env S O _ st ((PostX.bind p).imp fun ds S1 w1 H1 st1 l1 p1 vs rs => by
    obtain ⟨d, e, k⟩ := PostX.opt_ p1 st1
    exact h w1 H1 S1 ds vs d Q st1.ok rs e fun w3 H3 v q r => k w3 H3 (st1.grow q) (q.le st1.ok) v r)
theorem sim_co {g : Gam} {r : List V → Hp → VK → Prop} {f : Sto → List D → Option Cell} (h : CallO g r f) (ha : SimA g W t m) : SimF g W (tCB r t) (fCB f m) := fun w0 H0 w H σ env S O Q st p =>
  ha w0 H0 w H σ env S O _ st ((PostX.bind p).imp fun ds S1 w1 H1 st1 l1 p1 vs rs => by
    obtain ⟨d, e, k⟩ := PostX.opt_ p1 st1
    exact h w1 H1 S1 ds vs d Q st1.ok rs e fun q o hq nt hc => k w1 _ (st1.lay hq nt) (.refl w1) q (st1.own_new hq hc))
theorem s_cb {id : String} {r : List V → Hp → VK → Prop} {f : Sto → List D → Option D} (hd : CallD Y r f) (hc : CallR X (.builtin id) r) (hm : X.mg x = none) (hv : bootBuiltins x = some (.builtin id)) (ha : SA X Y W (e :: es) t m) (hg : Gl X x := by rfl) (hn : x ≠ "__name__" := by decide) (hdb : (x == ("__debug__" : Str)) = false := by decide)
    (he : starEach (e :: es) X.env = (false, eval e X.env) :: starEach es X.env := by rfl) (hpl : (backTo pos (starEach es X.env)).any (·.1) = false := by rfl) : SE X Y W (.Call (.Name x p) (e :: es) [] pos) (tCB r t) (eCB f m) := ⟨pe_callB hc hg hm hv ha.pa hn hdb he hpl, sim_cb hd ha.sim⟩
theorem f_cb {id : String} {r : List V → Hp → VK → Prop} {f : Sto → List D → Option Cell} (hd : CallO Y r f) (hc : CallR X (.builtin id) r) (hm : X.mg x = none) (hv : bootBuiltins x = some (.builtin id)) (ha : SA X Y W (e :: es) t m) (hg : Gl X x := by rfl) (hn : x ≠ "__name__" := by decide) (hdb : (x == ("__debug__" : Str)) = false := by decide)
    (he : starEach (e :: es) X.env = (false, eval e X.env) :: starEach es X.env := by rfl) (hpl : (backTo pos (starEach es X.env)).any (·.1) = false := by rfl) : SF X Y W (.Call (.Name x p) (e :: es) [] pos) (tCB r t) (fCB f m) := ⟨pe_callB hc hg hm hv ha.pa hn hdb he hpl, sim_co hd ha.sim⟩
theorem s_ct {id : String} {r : List V → Hp → VK → Prop} {f : Sto → List D → Option D} (hd : CallD Y r f) (hc : CallR X (.type id) r) (hm : X.mg x = none) (hv : bootBuiltins x = some (.type id)) (ha : SA X Y W (e :: es) t m) (hg : Gl X x := by rfl) (hn : x ≠ "__name__" := by decide) (hdb : (x == ("__debug__" : Str)) = false := by decide)
    (he : starEach (e :: es) X.env = (false, eval e X.env) :: starEach es X.env := by rfl) (hpl : (backTo pos (starEach es X.env)).any (·.1) = false := by rfl) : SE X Y W (.Call (.Name x p) (e :: es) [] pos) (tCB r t) (eCB f m) := ⟨pe_callTy hc hg hm hv ha.pa hn hdb he hpl, sim_cb hd ha.sim⟩
theorem f_ct {id : String} {r : List V → Hp → VK → Prop} {f : Sto → List D → Option Cell} (hd : CallO Y r f) (hc : CallR X (.type id) r) (hm : X.mg x = none) (hv : bootBuiltins x = some (.type id)) (ha : SA X Y W (e :: es) t m) (hg : Gl X x := by rfl) (hn : x ≠ "__name__" := by decide) (hdb : (x == ("__debug__" : Str)) = false := by decide)
    (he : starEach (e :: es) X.env = (false, eval e X.env) :: starEach es X.env := by rfl) (hpl : (backTo pos (starEach es X.env)).any (·.1) = false := by rfl) : SF X Y W (.Call (.Name x p) (e :: es) [] pos) (tCB r t) (fCB f m) := ⟨pe_callTy hc hg hm hv ha.pa hn hdb he hpl, sim_co hd ha.sim⟩
def fLen : Sto → List D → Option D
  | _, [.lst ds] => some (.int ds.length)
  | _, [.tup ds] => some (.int ds.length)
  | S, [.ref n] => (match S[n]? with
    | some (.lst ds) => some (.int ds.length)
    | _ => none)
  | _, [.str z] => if szB z.length then some (.int z.length) else none
  | _, _ => none
theorem cell_lst {g : Gam} {w : Wd} {H : Hp} {S : Sto} {n : Nat} {v : V} {ds : List D} (k : Ok g w H S) (r : Rep g w (.ref n) v) (h : S[n]? = some (.lst ds)) : ∃ a vs, v = .ref a ∧ w.rho[n]? = some a ∧ H a = some (.lst vs) ∧ RepL g w ds vs := by
  obtain ⟨a, e1, e2⟩ := rep_ref r
  obtain ⟨_, vs, e3, e4⟩ := k.cells.at_ n a _ e1 h
  exact ⟨a, vs, e2, e1, e3, e4⟩
theorem CallR.or {f : Value} {r r' : List V → Hp → VK → Prop} (h : CallR X f r) (h' : CallR X f r') : CallR X f (fun xs H Q => r xs H Q ∨ r' xs H Q) := fun pins s σ H xs us Q I r1 q => q.elim (h pins s σ H xs us Q I r1) (h' pins s σ H xs us Q I r1)
def rLn (K : PySem.W.Frag) : List V → Hp → VK → Prop := fun xs H Q => (∃ p ys, xs = [.ref p] ∧ (SqL K H p ys ∨ SqT K H p ys) ∧ Q (.int ys.length) H) ∨ ∃ z, xs = [.str z] ∧ z.length ≤ sizeLine ∧ Q (.int z.length) H
theorem cr_len : CallR X (.builtin "len") (rLn X.K) := CallR.or call_len_seq call_len_str
theorem cd_len {g : Gam} : CallD g (rLn g.K) fLen := fun w H S ds vs d Q k r e q => by
  unfold fLen at e
  split at e
  · rename_i ds
    cases e
    obtain ⟨v, e1, e2⟩ := repL_one r
    obtain ⟨a, us, x1, x2, x3⟩ := rep_lst e2
    rw [x1] at e1
    exact .inl ⟨a, us, e1, .inl (.inl (.inl (k.ex _ _ x2))), q w H _ .refl (by rw [x3.len]; exact rep_int')⟩
  · rename_i ds
    cases e
    obtain ⟨v, e1, e2⟩ := repL_one r
    obtain ⟨a, us, x1, x2, x3⟩ := rep_tup e2
    rw [x1] at e1
    exact .inl ⟨a, us, e1, .inr (same_sqT k.ex x2), q w H _ .refl (by rw [x3.len]; exact rep_int')⟩
  · rename_i n
    split at e
    · rename_i ds hS
      cases e
      obtain ⟨v, e1, e2⟩ := repL_one r
      obtain ⟨a, us, x1, x2, x3, x4⟩ := cell_lst k e2 hS
      rw [x1] at e1
      exact .inl ⟨a, us, e1, .inl (.inl (.inl x3)), q w H _ .refl (by rw [x4.len]; exact rep_int')⟩
    · cases e
  · rename_i z
    split at e
    · rename_i hz
      cases e
      obtain ⟨v, e1, e2⟩ := repL_one r
      rw [rep_str e2] at e1
      exact .inr ⟨z, e1, szB_le hz, q w H _ .refl rep_int'⟩
    · cases e
  · cases e
def fListOf : Sto → List D → Option Cell
  | _, [.lst ds] => some (.lst ds)
  | _, [.tup ds] => some (.lst ds)
  | S, [.ref n] => (match S[n]? with
    | some (.lst ds) => some (.lst ds)
    | _ => none)
  | _, _ => none
theorem co_list {g : Gam} : CallO g (fun xs H Q => ∃ p ys, xs = [.ref p] ∧ (SqL g.K H p ys ∨ SqT g.K H p ys) ∧ ∀ l, H l = none → Q (.ref l) (upd H l (.lst ys))) fListOf := fun w H S ds vs c Q k r e q => by
  unfold fListOf at e
  split at e
  · cases e
    obtain ⟨v, e1, e2⟩ := repL_one r
    obtain ⟨a, us, x1, x2, x3⟩ := rep_lst e2
    rw [x1] at e1
    exact ⟨a, us, e1, .inl (.inl (.inl (k.ex _ _ x2))), fun l hl => q l _ hl nt_lst ⟨us, upd_same, x3⟩⟩
  · cases e
    obtain ⟨v, e1, e2⟩ := repL_one r
    obtain ⟨a, us, x1, x2, x3⟩ := rep_tup e2
    rw [x1] at e1
    exact ⟨a, us, e1, .inr (same_sqT k.ex x2), fun l hl => q l _ hl nt_lst ⟨us, upd_same, x3⟩⟩
  · split at e
    · rename_i ds hS
      cases e
      obtain ⟨v, e1, e2⟩ := repL_one r
      obtain ⟨a, us, x1, x2, x3, x4⟩ := cell_lst k e2 hS
      rw [x1] at e1
      exact ⟨a, us, e1, .inl (.inl (.inl x3)), fun l hl => q l _ hl nt_lst ⟨us, upd_same, x4⟩⟩
    · cases e
  · cases e
def fTupOf : Sto → List D → Option D
  | _, [.lst ds] => some (.tup ds)
  | _, [.tup ds] => some (.tup ds)
  | _, _ => none
theorem cd_tup {g : Gam} : CallD g (fun xs H Q => ∃ p ys, xs = [.ref p] ∧ ((SqL g.K H p ys ∧ ∀ l, H l = none → Q (.ref l) (upd H l (.tup ys))) ∨ (SqT g.K H p ys ∧ Q (.ref p) H))) fTupOf := fun w H S ds vs d Q k r e q => by
  unfold fTupOf at e
  split at e
  · cases e
    obtain ⟨v, e1, e2⟩ := repL_one r
    obtain ⟨a, us, x1, x2, x3⟩ := rep_lst e2
    rw [x1] at e1
    exact ⟨a, us, e1, .inl ⟨.inl (.inl (k.ex _ _ x2)), fun l hl => q _ _ _ (Grow.one hl nt_tup) (rep_tup_new k hl x3)⟩⟩
  · cases e
    obtain ⟨v, e1, e2⟩ := repL_one r
    obtain ⟨a, us, x1, x2, x3⟩ := rep_tup e2
    rw [x1] at e1
    exact ⟨a, us, e1, .inr ⟨same_sqT k.ex x2, q w H _ .refl (by rw [← x1]; exact e2)⟩⟩
  · cases e
def fSorted : Sto → List D → Option Cell
  | _, [.lst ds] => (intsOf ds).map fun ns => .lst ((isrt ns).map D.int)
  | _, _ => none
def fSum : Sto → List D → Option D
  | _, [.lst ds] => (intsOf ds).map fun ns => .int ns.sum
  | _, _ => none
theorem cd_sum {g : Gam} : CallD g (rSum g.K) fSum := fun w H S ds vs c Q k r e q => by
  unfold fSum at e
  split at e
  · rename_i ds
    cases z : intsOf ds with
    | none => rw [z] at e; cases e
    | some ns =>
      rw [z] at e
      cases e
      obtain ⟨v, e1, e2⟩ := repL_one r
      obtain ⟨a, us, x1, x2, x3⟩ := rep_lst e2
      rw [x1] at e1
      exact ⟨a, ns, e1, .inl (.inl (by rw [← intsOf_rep z x3]; exact k.ex _ _ x2)), q w H _ .refl rep_int'⟩
  · cases e
def fAll : Sto → List D → Option D
  | _, [.lst ds] => (blsOf ds).map fun ns => .bl (ns.all id)
  | _, _ => none
theorem cd_all {g : Gam} : CallD g (rAll g.K) fAll := fun w H S ds vs c Q k r e q => by
  unfold fAll at e
  split at e
  · rename_i ds
    cases z : blsOf ds with
    | none => rw [z] at e; cases e
    | some ns =>
      rw [z] at e
      cases e
      obtain ⟨v, e1, e2⟩ := repL_one r
      obtain ⟨a, us, x1, x2, x3⟩ := rep_lst e2
      rw [x1] at e1
      exact ⟨a, ns, e1, .inl (.inl (by rw [← blsOf_rep z x3]; exact k.ex _ _ x2)), q w H _ .refl rep_bl'⟩
  · cases e
def fAny : Sto → List D → Option D
  | _, [.lst ds] => (blsOf ds).map fun ns => .bl (ns.any id)
  | _, _ => none
theorem cd_any {g : Gam} : CallD g (rAny g.K) fAny := fun w H S ds vs c Q k r e q => by
  unfold fAny at e
  split at e
  · rename_i ds
    cases z : blsOf ds with
    | none => rw [z] at e; cases e
    | some ns =>
      rw [z] at e
      cases e
      obtain ⟨v, e1, e2⟩ := repL_one r
      obtain ⟨a, us, x1, x2, x3⟩ := rep_lst e2
      rw [x1] at e1
      exact ⟨a, ns, e1, .inl (.inl (by rw [← blsOf_rep z x3]; exact k.ex _ _ x2)), q w H _ .refl rep_bl'⟩
  · cases e
def fInt : Sto → List D → Option D
  | _, [.int i] => some (.int i)
  | _, [.bl b] => some (.int (if b then 1 else 0))
  | _, _ => none
theorem cd_int {g : Gam} : CallD g (fun xs H Q => (∃ i, xs = [.int i] ∧ Q (.int i) H) ∨ ∃ k, xs = [.bl k] ∧ Q (.int (if k then 1 else 0)) H) fInt := fun w H S ds vs c Q k r e q => by
  unfold fInt at e
  split at e
  · rename_i i
    cases e
    obtain ⟨v, e1, e2⟩ := repL_one r
    rw [rep_int e2] at e1
    exact .inl ⟨i, e1, q w H _ .refl rep_int'⟩
  · rename_i i
    cases e
    obtain ⟨v, e1, e2⟩ := repL_one r
    rw [rep_bl e2] at e1
    exact .inr ⟨i, e1, q w H _ .refl rep_int'⟩
  · cases e
def eBits (me : ME) : ME := fun env S => (me env S).bind fun d S1 => match d with
  | .int i => .ok (.int (Builtin.Int.intBits i : Nat)) S1
  | _ => .stuck
def mulB (i j : Int) : Bool := bBnd i 18446744073709551615 || bBnd j 18446744073709551615
def powB (i j : Int) : Bool := decide (0 ≤ j) && (bBnd j 1000000 && bBnd i 18446744073709551615)
def divB (_ j : Int) : Bool := decide (j ≠ 0) && decide (j.natAbs < 1073741824)
theorem mulB_ok (i j : Int) (h : mulB i j = true) : CMul i j := by
  unfold mulB at h
  simp only [Bool.or_eq_true, bBnd_iff] at h
  unfold CMul
  omega
theorem powB_ok (i j : Int) (h : powB i j = true) : CPow i j := by
  unfold powB at h
  simp only [Bool.and_eq_true, decide_eq_true_eq, bBnd_iff] at h
  unfold CPow
  omega
theorem divB_ok (i j : Int) (h : divB i j = true) : CDivN i j := by
  unfold divB at h
  simp only [Bool.and_eq_true, decide_eq_true_eq] at h
  exact h
def iAdd := fI (fun i j => .int (i + j)) fun _ _ => true
def iSub := fI (fun i j => .int (i - j)) fun _ _ => true
def iMul := fI (fun i j => .int (i * j)) mulB
def iDiv := fI (fun i j => .int (i.fdiv j)) divB
def iMod := fI (fun i j => .int (i.fmod j)) fun _ j => decide (j ≠ 0)
def iPow := fI (fun i j => .int (i ^ j.toNat)) powB
def iShl := fI (fun i j => .int (i * 2 ^ j.toNat)) powB
def iShr := fI (fun i j => .int (i / 2 ^ j.toNat)) fun _ j => decide (0 ≤ j)
def iAnd := fI (fun i j => .int (Builtin.bitAnd i j)) fun _ _ => true
def iOr := fI (fun i j => .int (Builtin.bitOr i j)) fun _ _ => true
def iXor := fI (fun i j => .int (Builtin.bitXor i j)) fun _ _ => true
def iLt := fI (fun i j => .bl (decide (i < j))) fun _ _ => true
def iLe := fI (fun i j => .bl (decide (i ≤ j))) fun _ _ => true
def iGt := fI (fun i j => .bl (decide (j < i))) fun _ _ => true
def iGe := fI (fun i j => .bl (decide (j ≤ i))) fun _ _ => true
theorem od_sub {g : Gam} : OpD g (rI0 fun i j => .int (i - j)) iSub := od_I0 fun _ _ _ => rep_int'
theorem od_mul {g : Gam} : OpD g (rI CMul fun i j => .int (i * j)) iMul := od_I mulB_ok fun _ _ _ => rep_int'
theorem od_div {g : Gam} : OpD g (rI CDivN fun i j => .int (i.fdiv j)) iDiv := od_I divB_ok fun _ _ _ => rep_int'
theorem od_mod {g : Gam} : OpD g (rI (fun _ j => j ≠ 0) fun i j => .int (i.fmod j)) iMod := od_I (fun _ _ h => of_decide_eq_true h) fun _ _ _ => rep_int'
theorem od_pow {g : Gam} : OpD g (rI CPow fun i j => .int (i ^ j.toNat)) iPow := od_I powB_ok fun _ _ _ => rep_int'
theorem od_shl {g : Gam} : OpD g (rI CPow fun i j => .int (i * 2 ^ j.toNat)) iShl := od_I powB_ok fun _ _ _ => rep_int'
theorem od_shr {g : Gam} : OpD g (rI (fun _ j => 0 ≤ j) fun i j => .int (i / 2 ^ j.toNat)) iShr := od_I (fun _ _ h => of_decide_eq_true h) fun _ _ _ => rep_int'
theorem od_and {g : Gam} : OpD g (rI0 fun i j => .int (Builtin.bitAnd i j)) iAnd := od_I0 fun _ _ _ => rep_int'
theorem od_or {g : Gam} : OpD g (rI0 fun i j => .int (Builtin.bitOr i j)) iOr := od_I0 fun _ _ _ => rep_int'
theorem od_xor {g : Gam} : OpD g (rI0 fun i j => .int (Builtin.bitXor i j)) iXor := od_I0 fun _ _ _ => rep_int'
theorem od_lt {g : Gam} : OpD g (rI0 fun i j => .bl (decide (i < j))) iLt := od_I0 fun _ _ _ => rep_bl'
theorem od_le {g : Gam} : OpD g (rI0 fun i j => .bl (decide (i ≤ j))) iLe := od_I0 fun _ _ _ => rep_bl'
theorem od_gt {g : Gam} : OpD g (rI0 fun i j => .bl (decide (j < i))) iGt := od_I0 fun _ _ _ => rep_bl'
theorem od_ge {g : Gam} : OpD g (rI0 fun i j => .bl (decide (j ≤ i))) iGe := od_I0 fun _ _ _ => rep_bl'
theorem od_addI {g : Gam} : OpD g (rI0 fun i j => .int (i + j)) iAdd := od_I0 fun _ _ _ => rep_int'
def fCat : Sto → D → D → Option Cell
  | _, .lst xs, .lst ys => if szB (xs.length + ys.length) then some (.lst (xs ++ ys)) else none
  | _, _, _ => none
def OpO (g : Gam) (r : R2) (f : Sto → D → D → Option Cell) : Prop := ∀ w H S d1 d2 v1 v2 c (Q : VK), Ok g w H S → Rep g w d1 v1 → Rep g w d2 v2 → f S d1 d2 = some c → (∀ p o, H p = none → (∀ ps, o ≠ .tbl ps) → CellR g w (upd H p o) p c → Q (.ref p) (upd H p o)) → r v1 v2 H Q
def fOp (f : Sto → D → D → Option Cell) (ma mb : ME) : MF := fun env S => (ma env S).bind fun d1 S1 => (mb env S1).bind fun d2 S2 => opt (f S2 d1 d2) S2
theorem sim_opO {g : Gam} {r : R2} {f : Sto → D → D → Option Cell} (ho : OpO g r f) (ha : SimE g W ta ma) (hb : SimE g W tb mb) : SimF g W (tOp r ta tb) (fOp f ma mb) := fun w0 H0 w H σ env S O Q st p =>
  ha w0 H0 w H σ env S O _ st ((PostX.bind p).imp fun d1 S1 w1 H1 st1 l1 p1 v1 r1 => hb w0 H0 w1 H1 σ env S1 O _ st1 ((PostX.bind p1).imp fun d2 S2 w2 H2 st2 l2 p2 v2 r2 => by
    obtain ⟨d, e, k⟩ := PostX.opt_ p2 st2
    exact ho w2 H2 S2 d1 d2 v1 v2 d Q st2.ok (r1.mono l2) r2 e fun q o hq nt hc => k w2 _ (st2.lay hq nt) (.refl w2) q (st2.own_new hq hc)))
theorem f_op {op : Operator} {r : R2} {f : Sto → D → D → Option Cell} (hd : OpO Y r f) (ho : OpR X (binaryOp op) r) (ha : SE X Y W a ta ma) (hb : SE X Y W b tb mb) : SF X Y W (.BinOp a op b pos) (tOp r ta tb) (fOp f ma mb) := ⟨pe_op ho ha.pe hb.pe, sim_opO hd ha.sim hb.sim⟩
theorem oo_cat {g : Gam} : OpO g rCat fCat := fun w H S d1 d2 v1 v2 c Q k r1 r2 e q => by
  unfold fCat at e
  split at e
  · split at e
    · rename_i xs ys z
      cases e
      obtain ⟨a, us, x1, x2, x3⟩ := rep_lst r1
      obtain ⟨b, ws, y1, y2, y3⟩ := rep_lst r2
      exact ⟨a, b, us, ws, x1, y1, k.ex _ _ x2, k.ex _ _ y2, by rw [← x3.len, ← y3.len]; exact szB_le z, fun l hl => q l _ hl nt_lst ⟨_, upd_same, x3.append_ y3⟩⟩
    · cases e
  · cases e
def fRep : Sto → D → D → Option Cell
  | _, .lst xs, .int k => if bBnd k 9223372036854775807 && szB (xs.length * k.toNat) then some (.lst (List.replicate k.toNat xs).flatten) else none
  | _, _, _ => none
theorem OpO.d {g : Gam} {r : R2} {f : Sto → D → D → Option Cell} (h : OpO g r f) : OpD g r (fun S a b => (f S a b).map Cell.d) := fun w H S d1 d2 v1 v2 d Q k r1 r2 e q => by
  have e : Option.map Cell.d (f S d1 d2) = some d := e
  cases z : f S d1 d2 with
  | none => rw [z] at e; cases e
  | some c =>
    rw [z] at e
    cases e
    refine h w H S d1 d2 v1 v2 c Q k r1 r2 z fun p o hp nt hc => ?_
    refine q _ _ _ (Grow.one hp nt) ?_
    have le := Grow.le (Grow.one (w := w) hp nt) k
    cases c with
    | lst ds =>
      obtain ⟨vs, e1, e2⟩ := hc
      rw [upd_same] at e1
      unfold Cell.d Rep
      exact ⟨p, vs, rfl, by show upd w.G p o p = _; rw [upd_same]; exact e1, e2.mono le⟩
    | ins cc fs =>
      obtain ⟨dx, gs, e1, e2⟩ := hc
      rw [upd_same] at e1
      unfold Cell.d Rep
      exact ⟨p, dx, gs, rfl, by show upd w.G p o p = _; rw [upd_same]; exact e1, e2.mono le⟩
    | dic ks =>
      obtain ⟨gs, e1, e2⟩ := hc
      rw [upd_same] at e1
      unfold Cell.d Rep
      exact ⟨p, gs, rfl, .inl (by show upd w.G p o p = _; rw [upd_same]; exact e1), e2.mono le⟩
    | lck ks =>
      obtain ⟨o', gs, e1, e2⟩ := hc
      rw [upd_same] at e1
      unfold Cell.d Rep
      exact ⟨p, gs, rfl, .inr ⟨o', by show upd w.G p o p = _; rw [upd_same]; exact e1⟩, e2.mono le⟩
    | mem ks =>
      unfold Cell.d Rep
      exact ⟨p, rfl⟩
    | lkl ks =>
      unfold Cell.d Rep
      exact ⟨p, rfl⟩
    | tdc ks =>
      have e1 : upd H p o p = some (.dT (tdV ks)) := hc
      rw [upd_same] at e1
      unfold Cell.d Rep
      exact ⟨p, rfl, by show upd w.G p o p = _; rw [upd_same]; exact e1⟩
def fCatD : Sto → D → D → Option D := fun S a b => (fCat S a b).map Cell.d
def dAdd : Sto → D → D → Option D := fun S a b => (iAdd S a b).or (fCatD S a b)
theorem od_add {g : Gam} : OpD g (fun x y H Q => rI0 (fun i j => .int (i + j)) x y H Q ∨ rCat x y H Q) dAdd := od_addI.or oo_cat.d
theorem op_addD : OpR X (binaryOp .Add) (fun x y H Q => rI0 (fun i j => .int (i + j)) x y H Q ∨ rCat x y H Q) := OpR.or op_add op_cat
def fIx : Sto → D → D → Option D
  | _, .lst xs, .int i => atI xs i
  | _, .tup xs, .int i => atI xs i
  | S, .ref n, .int i => (match S[n]? with
    | some (.lst xs) => atI xs i
    | _ => none)
  | _, _, _ => none
theorem RepL.atI_ {g : Gam} {w : Wd} {ds : List D} {vs : List V} {i : Int} {d : D} (r : RepL g w ds vs) (h : atI ds i = some d) : ∃ v, atI vs i = some v ∧ Rep g w d v := by
  unfold atI at h ⊢
  rw [r.len] at h
  cases z : ixN vs.length i with
  | none => rw [z] at h; cases h
  | some j =>
    rw [z] at h
    exact r.at_ h
theorem od_ix {g : Gam} : OpD g (fun x y H Q => rIxL g.K x y H Q ∨ rIxT g.K x y H Q) fIx := fun w H S d1 d2 v1 v2 d Q k r1 r2 e q => by
  unfold fIx at e
  split at e
  · rename_i xs i
    obtain ⟨a, us, x1, x2, x3⟩ := rep_lst r1
    obtain ⟨v, e1, e2⟩ := x3.atI_ e
    exact .inl ⟨a, us, i, v, x1, rep_int r2, .inl (.inl (k.ex _ _ x2)), e1, q w H _ .refl e2⟩
  · rename_i xs i
    obtain ⟨a, us, x1, x2, x3⟩ := rep_tup r1
    obtain ⟨v, e1, e2⟩ := x3.atI_ e
    exact .inr ⟨a, us, i, v, x1, rep_int r2, same_sqT k.ex x2, e1, q w H _ .refl e2⟩
  · rename_i n i
    split at e
    · rename_i xs hS
      obtain ⟨a, us, x1, x2, x3, x4⟩ := cell_lst k r1 hS
      obtain ⟨v, e1, e2⟩ := x4.atI_ e
      exact .inl ⟨a, us, i, v, x1, rep_int r2, .inl (.inl x3), e1, q w H _ .refl e2⟩
    · cases e
  · cases e
theorem ix_lt : IxR X (fun x y H Q => rIxL X.K x y H Q ∨ rIxT X.K x y H Q) := ix_list.or ix_tup
end
end Mm
namespace Mm
open PySem L2
section
variable {X : Cx} {Y : Gam} {W : WX} {e a b c tg iter elt : Expr} {es rest ifs : List Expr} {ta tb te : TE} {tt tu : TT} {ma mb me : ME} {mt mu : MT} {mf : MF} {t : TA} {m : MA} {pos p : Pos} {s : Stmt} {ss : List Stmt} {t1 t2 : TS} {m1 m2 : MS} {wi : TI} {mi : MI} {x : Str}
mutual
def D.py : D → Option PyData
  | .non => some .none
  | .bl b => some (.bool b)
  | .int i => some (.int i)
  | .str x => some (.str x)
  | .lst ds => (pyAll ds).map .list
  | .tup ds => (pyAll ds).map .tuple
  | _ => none
def pyAll : List D → Option (List PyData)
  | [] => some []
  | d :: ds => match d.py, pyAll ds with
    | some x, some xs => some (x :: xs)
    | _, _ => none
end
mutual
theorem rep_py {g : Gam} {w : Wd} : ∀ {d : D} {v : V} {q : PyData}, Rep g w d v → d.py = some q → Dp g.K w.G v q
  | .non, v, q, r, h => by
    unfold D.py at h
    cases h
    rw [rep_non r]
    exact .non
  | .bl b, v, q, r, h => by
    unfold D.py at h
    cases h
    rw [rep_bl r]
    exact .bl b
  | .int b, v, q, r, h => by
    unfold D.py at h
    cases h
    rw [rep_int r]
    exact .int b
  | .str b, v, q, r, h => by
    unfold D.py at h
    cases h
    rw [rep_str r]
    exact .str b
  | .lst ds, v, q, r, h => by
    unfold D.py at h
    obtain ⟨a, vs, e1, e2, e3⟩ := rep_lst r
    cases z : pyAll ds with
    | none => rw [z] at h; cases h
    | some xs =>
      rw [z] at h
      cases h
      rw [e1]
      exact .lst (.inl (.inl e2)) (repL_py e3 z)
  | .tup ds, v, q, r, h => by
    unfold D.py at h
    obtain ⟨a, vs, e1, e2, e3⟩ := rep_tup r
    cases z : pyAll ds with
    | none => rw [z] at h; cases h
    | some xs =>
      rw [z] at h
      cases h
      rw [e1]
      exact .tup e2 (repL_py e3 z)
  | .ins _ _, v, q, r, h => by unfold D.py at h; cases h
  | .ref _, v, q, r, h => by unfold D.py at h; cases h
  | .scr _, v, q, r, h => by unfold D.py at h; cases h
  | .ty _, v, q, r, h => by unfold D.py at h; cases h
  | .cls _, v, q, r, h => by unfold D.py at h; cases h
  | .adr _, v, q, r, h => by unfold D.py at h; cases h
  | .set _, v, q, r, h => by unfold D.py at h; cases h
  | .dic _, v, q, r, h => by unfold D.py at h; cases h
  | .tdc _, v, q, r, h => by unfold D.py at h; cases h
  | .tds _, v, q, r, h => by unfold D.py at h; cases h
  | .any, v, q, r, h => by unfold D.py at h; cases h
theorem repL_py {g : Gam} {w : Wd} : ∀ {ds : List D} {vs : List V} {qs : List PyData}, RepL g w ds vs → pyAll ds = some qs → DpAll g.K w.G vs qs
  | [], vs, qs, r, h => by
    unfold pyAll at h
    unfold RepL at r
    cases h
    rw [r]
    exact .nil
  | d :: ds, vs, qs, r, h => by
    unfold pyAll at h
    unfold RepL at r
    obtain ⟨v, vr, e1, e2, e3⟩ := r
    cases z : d.py with
    | none => rw [z] at h; cases h
    | some x =>
      cases y : pyAll ds with
      | none => rw [z, y] at h; cases h
      | some xs =>
        rw [z, y] at h
        cases h
        rw [e1]
        exact .cons (rep_py e2 z) (repL_py e3 y)
end
mutual
theorem Dp.same {K : PySem.W.Frag} {H H' : Hp} (e : Same H H') : ∀ {v : V} {q : PyData}, Dp K H v q → Dp K H' v q
  | _, _, .non => .non
  | _, _, .bl b => .bl b
  | _, _, .int b => .int b
  | _, _, .str b => .str b
  | _, _, .lst s a => .lst (e.seq s) (DpAll.same e a)
  | _, _, .tup s a => .tup (same_sqT e s) (DpAll.same e a)
theorem DpAll.same {K : PySem.W.Frag} {H H' : Hp} (e : Same H H') : ∀ {v : List V} {q : List PyData}, DpAll K H v q → DpAll K H' v q
  | _, _, .nil => .nil
  | _, _, .cons a b => .cons (Dp.same e a) (DpAll.same e b)
end
def fEq : Sto → D → D → Option D := fun _ a b => match a.py, b.py with
  | some x, some y => if SeqAt.shaped x && SeqAt.shaped y then some (.bl (PyData.eqv x y)) else none
  | _, _ => none
def fNe : Sto → D → D → Option D := fun _ a b => match a.py, b.py with
  | some x, some y => if SeqAt.shaped x && SeqAt.shaped y then some (.bl (!PyData.eqv x y)) else none
  | _, _ => none
theorem od_eq {g : Gam} : OpD g (rEqD g.K) fEq := fun w H S d1 d2 v1 v2 d Q k r1 r2 e q => by
  unfold fEq at e
  split at e
  · rename_i x y z1 z2
    split at e
    · rename_i z
      rw [Bool.and_eq_true] at z
      cases e
      exact ⟨x, y, Dp.same k.ex (rep_py r1 z1), Dp.same k.ex (rep_py r2 z2), z.1, z.2, q w H _ .refl rep_bl'⟩
    · cases e
  · cases e
theorem od_ne {g : Gam} : OpD g (rNeD g.K) fNe := fun w H S d1 d2 v1 v2 d Q k r1 r2 e q => by
  unfold fNe at e
  split at e
  · rename_i x y z1 z2
    split at e
    · rename_i z
      rw [Bool.and_eq_true] at z
      cases e
      exact ⟨x, y, Dp.same k.ex (rep_py r1 z1), Dp.same k.ex (rep_py r2 z2), z.1, z.2, q w H _ .refl rep_bl'⟩
    · cases e
  · cases e
def D.isN : D → Bool
  | .non => true
  | _ => false
theorem rep_isN {g : Gam} {w : Wd} {d : D} {v : V} (r : Rep g w d v) : decide (v = .non) = d.isN := by
  cases d with
  | non => rw [rep_non r]; rfl
  | bl b => rw [rep_bl r]; rfl
  | int b => rw [rep_int r]; rfl
  | str b => rw [rep_str r]; rfl
  | lst ds => obtain ⟨a, vs, e1, _⟩ := rep_lst r; rw [e1]; rfl
  | tup ds => obtain ⟨a, vs, e1, _⟩ := rep_tup r; rw [e1]; rfl
  | ins c fs => unfold Rep at r; obtain ⟨a, _, _, e1, _⟩ := r; rw [e1]; rfl
  | ref n => obtain ⟨a, _, e1⟩ := rep_ref r; rw [e1]; rfl
  | scr n => unfold Rep at r; obtain ⟨a, e1, _⟩ := r; rw [e1]; rfl
  | ty n => unfold Rep at r; rw [r]; rfl
  | cls n => unfold Rep at r; rw [r]; rfl
  | adr n => unfold Rep at r; rw [r]; rfl
  | set n => unfold Rep at r; obtain ⟨a, _, e1, _⟩ := r; rw [e1]; rfl
  | dic n => unfold Rep at r; obtain ⟨a, _, e1, _⟩ := r; rw [e1]; rfl
  | tdc n => unfold Rep at r; obtain ⟨a, e1, _⟩ := r; rw [e1]; rfl
  | tds n => unfold Rep at r; obtain ⟨a, e1, _⟩ := r; rw [e1]; rfl
  | any => unfold Rep at r; obtain ⟨a, e1⟩ := r; rw [e1]; rfl
def fIs : Sto → D → D → Option D
  | _, d, .non => some (.bl d.isN)
  | _, _, _ => none
theorem od_is {g : Gam} : OpD g (fun x y H Q => y = .non ∧ Q (.bl (decide (x = .non))) H) fIs := fun w H S d1 d2 v1 v2 d Q k r1 r2 e q => by
  unfold fIs at e
  split at e
  · cases e
    exact ⟨rep_non r2, q w H _ .refl (by rw [rep_isN r1]; exact rep_bl')⟩
  · cases e
def fIn (neg : Bool) : Sto → D → D → Option D
  | _, .int i, .lst ds => (intsOf ds).map fun ns => .bl (if neg then !decide (i ∈ ns) else decide (i ∈ ns))
  | _, .int i, .tup ds => (intsOf ds).map fun ns => .bl (if neg then !decide (i ∈ ns) else decide (i ∈ ns))
  | _, _, _ => none
abbrev MO := Envr → Sto → R (Option Int)
def SimO (g : Gam) (W : WX) (t : TO) (m : MO) : Prop := ∀ w0 H0 w H σ env S O (Q : Option Int → Hp → Prop), StR g w0 H0 w H σ env S O →
  PostX g W w0 H0 w σ env O (m env S) (fun o _ w' H' => Q o H') → t σ H Q
structure SO (X : Cx) (Y : Gam) (W : WX) (e : Option Expr) (t : TO) (m : MO) : Prop where
  po : PO X e t
  sim : SimO Y W t m
def oNone : MO := fun _ S => .ok none S
def oSome (me : ME) : MO := fun env S => (me env S).bind fun d S1 => match d with
  | .int i => .ok (some i) S1
  | _ => .stuck
theorem o_none : SO X Y W none tNoPart oNone := ⟨po_none, fun w0 H0 w H σ env S O Q st p => p w H st (.refl w)⟩
theorem o_some (h : SE X Y W e te me) : SO X Y W (some e) (tPart te) (oSome me) := ⟨po_some h.pe, fun w0 H0 w H σ env S O Q st p =>
  h.sim w0 H0 w H σ env S O _ st ((PostX.bind p).imp fun d S1 w1 H1 st1 l1 p1 v r => by
    cases d with
    | int i => exact ⟨i, rep_int r, p1 w1 H1 st1 (.refl w1)⟩
    | _ => exact False.elim p1)⟩
def cutD (xs : List D) (lo hi : Option Int) : List D := (xs.drop (HT.sIx xs.length 0 lo)).take (HT.sIx xs.length xs.length hi - HT.sIx xs.length 0 lo)
theorem rep_cut {g : Gam} {w : Wd} {ds : List D} {vs : List V} (r : RepL g w ds vs) (lo hi : Option Int) : RepL g w (cutD ds lo hi) (cutV vs lo hi) := by
  unfold cutD cutV
  rw [r.len]
  exact (r.drop_ _).take_ _
def fSl (me : ME) (ml mh : MO) : MF := fun env S => (me env S).bind fun d S1 => (ml env S1).bind fun lo S2 => (mh env S2).bind fun hi S3 => match d with
  | .lst ds => .ok (.lst (cutD ds lo hi)) S3
  | .scr ns => .ok (.lst (cutD (ns.map D.int) lo hi)) S3
  | _ => .stuck
theorem f_sl {lo hi : Option Expr} {tl th : TO} {ml mh : MO} {p2 : Pos} (he : SE X Y W e te me) (hl : SO X Y W lo tl ml) (hh : SO X Y W hi th mh) (hK : X.K = Y.K := by rfl) : SF X Y W (.Subscript e (.Slice lo hi none p2) pos) (tSl (rSlL Y.K) te tl th) (fSl me ml mh) := ⟨hK ▸ pe_slice sl_list he.pe hl.po hh.po, fun w0 H0 w H σ env S O Q st p =>
  he.sim w0 H0 w H σ env S O _ st ((PostX.bind p).imp fun d S1 w1 H1 st1 l1 p1 v r => hl.sim w0 H0 w1 H1 σ env S1 O _ st1 ((PostX.bind p1).imp fun lo S2 w2 H2 st2 l2 p2 => hh.sim w0 H0 w2 H2 σ env S2 O _ st2 ((PostX.bind p2).imp fun hi S3 w3 H3 st3 l3 p3 => by
    cases d with
    | lst ds =>
      obtain ⟨a, vs, e1, e2, e3⟩ := rep_lst (r.mono (l2.trans l3))
      exact ⟨a, vs, e1, .inl (.inl (st3.ok.ex _ _ e2)), fun q hq => p3 w3 _ (st3.lay hq nt_lst) (.refl w3) q (st3.own_new hq ⟨_, upd_same, rep_cut e3 lo hi⟩)⟩
    | scr ns =>
      have r3 := r.mono (l2.trans l3)
      unfold Rep at r3
      obtain ⟨a, e1, e2⟩ := r3
      exact ⟨a, _, e1, st3.ok.ex.seq e2, fun q hq => p3 w3 _ (st3.lay hq nt_lst) (.refl w3) q (st3.own_new hq ⟨_, upd_same, rep_cut (RepL.ints ns) lo hi⟩)⟩
    | _ => exact False.elim p3)))⟩
def sApp (i : Nat) (me : ME) : MS := fun env S => match env[i]? with
  | some (.o (.lst ds)) => (me env S).out env fun d S1 => if szB (ds.length + 1) then .nx (env.set i (.o (.lst (ds ++ [d])))) S1 else .stuck
  | _ => .stuck
theorem tyV_lst {K : PySem.W.Frag} {H : Hp} {p : Addr} {vs : List V} (h : H p = some (.lst vs)) : tyV K "list" (.ref p) H := .inl ⟨rfl, vs, .inl (.inl h)⟩
theorem t_app (i : Nat) {x : Str} {p1 apos cpos : Pos} (he : SE X Y W e te me) (hK : X.K = Y.K := by rfl) (hN : X.N[i]? = some x := by rfl) (hv : Vis X.env.scope x := by first | exact Or.inl rfl | exact Or.inr (Or.inl rfl) | exact Or.inr (Or.inr rfl)) (hd : (x == ("__debug__" : Str)) = false := by decide)
    (hcd : (x == ("__classdict__" : Str)) = false := by decide) (hbase : attributeBase (.Name x p1) "append" X.env (eval (.Name x p1) X.env) = eval (.Name x p1) X.env := by rfl)
    (hfew : ((backTo cpos (starEach [e] X.env)).all (fun x => !x.1) && (backToKw cpos (keywordEach [] X.env)).all (fun x => x.1.isSome)
      && decide ([e].length + ([] : List Keyword).length + (if ([] : List Keyword).isEmpty then 0 else 1) < 30)) = true := by rfl)
    (hline : (apos.endLine == cpos.line) = true := by rfl) (hs : starEach [e] X.env = (false, eval e X.env) :: starEach [] X.env := by rfl) (hplain : (backTo cpos (starEach [] X.env)).any (·.1) = false := by rfl)
    (hsw : swapsWith (.Call (.Attribute (.Name x p1) "append" apos) [e] [] cpos) none pos.line X.env = pure false := by rfl) :
    SS X Y W (.Expr (.Call (.Attribute (.Name x p1) "append" apos) [e] [] cpos) pos) (tDrop (tBM Y.K "list" rAppend (tVar i) (tCons te tNil))) (sApp i me) :=
  ⟨hK ▸ ps_expr (pe_bm PySem.F.plainAttrs_list PySem.F.slot_list_append PySem.F.type_list_append mt_append (pv i hN hv hd hcd) (pa_cons he.pe pa_nil hs) hbase hfew hline hs hplain) hsw, fun w0 H0 w H σ env S O Dn st p => by
    unfold sApp at p
    split at p
    · rename_i ds hs
      obtain ⟨q, e1, e2, e3, ⟨vs, e4, e4'⟩, e5, e6, hi⟩ := st.own_at hs
      refine ⟨.ref q, e1, tyV_lst e4, ?_⟩
      refine he.sim w0 H0 w H σ env S O _ st ((PostS.out p).imp fun d S1 w1 H1 st1 l1 p1 v r => ?_)
      split at p1
      · rename_i hz
        obtain ⟨q', f1, f2, f3, ⟨us, f4, f4'⟩, f5, f6, _⟩ := st1.own_at hs
        rw [e2] at f2
        cases f2
        have hz2 : us.length < sizeLine := Nat.lt_of_lt_of_le (by rw [← f4'.len]; exact Nat.lt_succ_self _) (szB_le hz)
        refine ⟨q, us, v, rfl, rfl, f4, hz2, ?_⟩
        exact p1 w1 _ σ O (st1.mut hs e2 ⟨_, upd_same, f4'.append_ (RepL.cons_ r RepL.nil_)⟩ nt_lst) (.refl w1)
      · exact False.elim p1
    · exact p.elim⟩
def sIns (i : Nat) (mk me : ME) : MS := fun env S => match env[i]? with
  | some (.o (.lst ds)) => (mk env S).out env fun k S1 => (me env S1).out env fun d S2 => match k with
    | .int k => if decide (0 ≤ k) && (bBnd k 9223372036854775807 && szB (ds.length + 1)) then .nx (env.set i (.o (.lst (ds.take k.toNat ++ [d] ++ ds.drop k.toNat)))) S2 else .stuck
    | _ => .stuck
  | _ => .stuck
theorem t_ins (i : Nat) {x : Str} {p1 apos cpos : Pos} (hk : SE X Y W a ta ma) (he : SE X Y W e te me) (hK : X.K = Y.K := by rfl) (hN : X.N[i]? = some x := by rfl) (hv : Vis X.env.scope x := by first | exact Or.inl rfl | exact Or.inr (Or.inl rfl) | exact Or.inr (Or.inr rfl)) (hd : (x == ("__debug__" : Str)) = false := by decide)
    (hcd : (x == ("__classdict__" : Str)) = false := by decide) (hbase : attributeBase (.Name x p1) "insert" X.env (eval (.Name x p1) X.env) = eval (.Name x p1) X.env := by rfl)
    (hfew : ((backTo cpos (starEach [a, e] X.env)).all (fun x => !x.1) && (backToKw cpos (keywordEach [] X.env)).all (fun x => x.1.isSome)
      && decide ([a, e].length + ([] : List Keyword).length + (if ([] : List Keyword).isEmpty then 0 else 1) < 30)) = true := by rfl)
    (hline : (apos.endLine == cpos.line) = true := by rfl) (hs : starEach [a, e] X.env = (false, eval a X.env) :: starEach [e] X.env := by rfl) (hs2 : starEach [e] X.env = (false, eval e X.env) :: starEach [] X.env := by rfl) (hplain : (backTo cpos (starEach [e] X.env)).any (·.1) = false := by rfl)
    (hsw : swapsWith (.Call (.Attribute (.Name x p1) "insert" apos) [a, e] [] cpos) none pos.line X.env = pure false := by rfl) :
    SS X Y W (.Expr (.Call (.Attribute (.Name x p1) "insert" apos) [a, e] [] cpos) pos) (tDrop (tBM Y.K "list" (fun x vs H Q => ∃ (l : Addr) (xs : List V) (i : Int) (y : V), x = .ref l ∧ vs = [.int i, y] ∧ H l = some (.lst xs) ∧ xs.length < sizeLine ∧ 0 ≤ i ∧ i < 2 ^ 63 ∧
    Q .non (upd H l (.lst (xs.take i.toNat ++ [y] ++ xs.drop i.toNat)))) (tVar i) (tCons ta (tCons te tNil)))) (sIns i ma me) :=
  ⟨hK ▸ ps_expr (pe_bm PySem.F.plainAttrs_list PySem.F.slot_list_insert PySem.F.type_list_insert mt_insert (pv i hN hv hd hcd) (pa_cons hk.pe (pa_cons he.pe pa_nil hs2) hs) hbase hfew hline hs hplain) hsw, fun w0 H0 w H σ env S O Dn st p => by
    unfold sIns at p
    split at p
    · rename_i ds hs
      obtain ⟨q, e1, e2, e3, ⟨vs, e4, e4'⟩, e5, e6, hi⟩ := st.own_at hs
      refine ⟨.ref q, e1, tyV_lst e4, ?_⟩
      refine hk.sim w0 H0 w H σ env S O _ st ((PostS.out p).imp fun k S1 w1 H1 st1 l1 p1 kv kr => ?_)
      refine he.sim w0 H0 w1 H1 σ env S1 O _ st1 ((PostS.out p1).imp fun d S2 w2 H2 st2 l2 p2 v r => ?_)
      cases k with
      | int k =>
        simp only at p2
        split at p2
        · rename_i hz
          simp only [Bool.and_eq_true, decide_eq_true_eq, bBnd_iff] at hz
          obtain ⟨q', f1, f2, f3, ⟨us, f4, f4'⟩, f5, f6, _⟩ := st2.own_at hs
          rw [e2] at f2
          cases f2
          have hz2 : us.length < sizeLine := Nat.lt_of_lt_of_le (by rw [← f4'.len]; exact Nat.lt_succ_self _) (szB_le hz.2.2)
          refine ⟨q, us, k, v, rfl, by rw [rep_int kr], f4, hz2, hz.1, by have := hz.1; have := hz.2.1; omega, ?_⟩
          exact p2 w2 _ σ O (st2.mut hs e2 ⟨_, upd_same, ((f4'.take_ _).append_ (RepL.cons_ r RepL.nil_)).append_ (f4'.drop_ _)⟩ nt_lst) (.refl w2)
        · exact False.elim p2
      | _ => exact False.elim p2
    · exact p.elim⟩
def sPut (i : Nat) (mk me : ME) : MS := fun env S => (me env S).out env fun d S1 => match env[i]? with
  | some (.o (.lst ds)) => (mk env S1).out env fun k S2 => (match k with
    | .int k => (match ixN ds.length k with
      | some j => .nx (env.set i (.o (.lst (ds.set j d)))) S2
      | none => .stuck)
    | _ => .stuck)
  | some (.v (.ref n)) => (mk env S1).out env fun k S2 => (match S2[n]?, k with
    | some (.lst ds), .int k => (match ixN ds.length k with
      | some j => .nx env (S2.set n (.lst (ds.set j d)))
      | none => .stuck)
    | _, _ => .stuck)
  | _ => .stuck
theorem sim_put {g : Gam} {i : Nat} (hk : SimE g W ta ma) (he : SimE g W te me) : SimS g W (tAsg te (gSub (tVar i) ta rSetL)) (sPut i ma me) := fun w0 H0 w H σ env S O Dn st p => by
  refine he w0 H0 w H σ env S O _ st ((PostS.out p).imp fun d S1 w1 H1 st1 l1 p1 v r => ?_)
  split at p1
  · rename_i ds hs
    obtain ⟨q, e1, e2, e3, e4, e5, e6, hi⟩ := st1.own_at hs
    refine ⟨.ref q, e1, ?_⟩
    refine hk w0 H0 w1 H1 σ env S1 O _ st1 ((PostS.out p1).imp fun k S2 w2 H2 st2 l2 p2 kv kr => ?_)
    split at p2
    · rename_i k
      split at p2
      · rename_i j hj
        obtain ⟨q', f1, f2, f3, ⟨us, f4, f4'⟩, f5, f6, _⟩ := st2.own_at hs
        rw [e2] at f2
        cases f2
        refine ⟨q, us, k, j, rfl, rep_int kr, f4, by rw [← f4'.len]; exact hj, ?_⟩
        exact p2 w2 _ σ O (st2.mut hs e2 ⟨_, upd_same, f4'.set_ (r.mono l2) j⟩ nt_lst) (.refl w2)
      · exact False.elim p2
    · exact False.elim p2
  · rename_i n hs
    have hi : i < σ.length := by
      rw [← st1.l1]
      exact (List.getElem?_eq_some_iff.mp hs).1
    have hO : i < O.length := by
      rw [st1.l2]
      exact hi
    obtain ⟨_, x, ex, rx⟩ := st1.sl i (.v (.ref n)) σ[i] O[i] hs (List.getElem?_eq_getElem hi) (List.getElem?_eq_getElem hO)
    refine ⟨x, by rw [List.getElem?_eq_getElem hi, ex], ?_⟩
    refine hk w0 H0 w1 H1 σ env S1 O _ st1 ((PostS.out p1).imp fun k S2 w2 H2 st2 l2 p2 kv kr => ?_)
    split at p2
    · rename_i ds k hS
      split at p2
      · rename_i j hj
        obtain ⟨a, us, x1, x2, x3, x4⟩ := cell_lst st2.ok (rx.mono l2) hS
        refine ⟨a, us, k, j, x1, rep_int kr, x3, by rw [← x4.len]; exact hj, ?_⟩
        obtain ⟨k3, f3⟩ := ok_cell (c' := .lst (ds.set j d)) st2.ok x2 hS (o := .lst (us.set j v)) ⟨_, upd_same, x4.set_ (r.mono l2) j⟩ nt_lst
        exact p2 w2 _ σ O (st2.after f3 k3) (.refl w2)
      · exact False.elim p2
    · exact False.elim p2
  · exact p1.elim
theorem t_put (i : Nat) {x : Str} {p1 p2 : Pos} (hk : SE X Y W a ta ma) (he : SE X Y W e te me) (hN : X.N[i]? = some x := by rfl) (hv : Vis X.env.scope x := by first | exact Or.inl rfl | exact Or.inr (Or.inl rfl) | exact Or.inr (Or.inr rfl)) (hd : (x == ("__debug__" : Str)) = false := by decide)
    (hcd : (x == ("__classdict__" : Str)) = false := by decide) (ha : ∀ v, assign (.Subscript (.Name x p1) a p2) X.env v = (do
      let ov ← holding [v] (eval (.Name x p1) X.env)
      let iv ← holding [v, ov] (eval a X.env)
      standAt p2
      holding [v, ov, iv] (setItem ov iv v)
      release [v, ov, iv] []) := by intro _; rfl) (hs : swapsWithSole [.Subscript (.Name x p1) a p2] e pos.line X.env = pure false := by rfl) (hw : swappedStores [.Subscript (.Name x p1) a p2] e X.env = pure none := by rfl)
    (h1 : (assignEach [.Subscript (.Name x p1) a p2] X.env).map (·.2) = [assign (.Subscript (.Name x p1) a p2) X.env] := by rfl) :
    SS X Y W (.Assign [.Subscript (.Name x p1) a p2] e pos) (tAsg te (gSub (tVar i) ta rSetL)) (sPut i ma me) := ⟨ps_asg he.pe (pg_sub (pv i hN hv hd hcd) hk.pe set_list ha) hs hw h1, sim_put hk.sim he.sim⟩
def sAug (i : Nat) (f : Int → Int → Int) (me : ME) : MS := fun env S => match env[i]? with
  | some (.v (.int k)) => (me env S).out env fun d S1 => (match d with
    | .int j => .nx (env.set i (.v (.int (f k j)))) S1
    | _ => .stuck)
  | _ => .stuck
theorem t_aug {i : Nat} {x : Str} {op : Operator} {f : Int → Int → Int} {pos' : Pos} (hN : X.N.Nodup) (hi : X.N[i]? = some x) (hx : Loc X.env.scope x) (ho : PIp X op (ipI f)) (he : SE X Y W e te me) (hf : X.fn x = true ∨ X.env.scope.names.lookup x = some .local := by first | exact .inl rfl | exact .inr rfl | assumption) :
    SS X Y W (.AugAssign (.Name x pos') op e pos) (tAug i te (ipI f)) (sAug i f me) := ⟨ps_aug hN hi hx he.pe ho hf, fun w0 H0 w H σ env S O Dn st p => by
  unfold sAug at p
  split at p
  · rename_i k hs
    have hi : i < σ.length := by
      rw [← st.l1]
      exact (List.getElem?_eq_some_iff.mp hs).1
    have hO : i < O.length := by
      rw [st.l2]
      exact hi
    obtain ⟨_, x, ex, rx⟩ := st.sl i (.v (.int k)) σ[i] O[i] hs (List.getElem?_eq_getElem hi) (List.getElem?_eq_getElem hO)
    refine ⟨x, by rw [List.getElem?_eq_getElem hi, ex], ?_⟩
    refine he.sim w0 H0 w H σ env S O _ st ((PostS.out p).imp fun d S1 w1 H1 st1 l1 p1 v r => ?_)
    split at p1
    · rename_i j
      exact ⟨k, j, rep_int rx, rep_int r, p1 w1 H1 _ _ (st1.set_v i rep_int') (.refl w1)⟩
    · exact False.elim p1
  · exact p.elim⟩
theorem pmk_own0 {C : Addr} {bmB : List Value} {B newId initId : String} (F : ExcBaseFacts B newId initId bmB) (q : PySem.W.excIn X.K C bmB newId = true) (gC : X.mg x = some (.ref C)) (kC : PySem.W.keepIn X.K (.ref C) = true) (r : Raises X (.ref C)) (hg : Gl X x)
    (hdb : (x == ("__debug__" : Str)) = false := by decide) : L2N.PMk X (.Call (.Name x p) [] [] pos) (fun _ H Q => Q (.ref C) none H) := by
  intro pins s σ H Q I h
  refine wpAny_Call_Name_kw (ld_glob I hg gC ?_ hdb)
  refine PySem.W.callWith_K0 I.kIn kC ?_
  show wpAny _ _ (call (.ref C) []) _ _ _
  obtain ⟨bm, N, nm, qn, bs, hdct, sn, sub, ab, col, dd, k0, k1, k2, k3, k5, mN, hC, hN, hni, T⟩ := exc_obj I.kIn q
  refine wpAny_call_exc_subT F T hC hN hni (fun h' e hm => ?_) (by show 0 ≤ sizeLine; exact Nat.zero_le _)
  exact L2N.mk_of I hm r h (I.hok.gone hm.new)
def sRaise (c : Str) : MS := fun env S => .exc c none env S
theorem t_raise {x : Str} {pos' : Pos} (xP : PySem.W.excIn X.K (Y.ca x) [.type "ValueError", .type "Exception", .type "BaseException", .type "object"] "ValueError.__new__" = true) (gP : X.mg x = some (.ref (Y.ca x))) (kP : PySem.W.keepIn X.K (.ref (Y.ca x)) = true)
    (bP : PySem.W.subIn X.K (.ref (Y.ca x)) (.type "BaseException") = some true) (tP : PySem.W.typeIn X.K (.ref (Y.ca x)) = some (.type "type")) (tk : L2N.Takes X W) (hc : X.calm = true := by rfl) (hg : Gl X x := by rfl) (hdb : (x == ("__debug__" : Str)) = false := by decide) :
    SS X Y W (.Raise (some (.Call (.Name x p) [] [] pos)) none pos') (fun _ σ H => W (.ref (Y.ca x)) none σ H) (sRaise x) :=
  ⟨L2N.ps_raise hc tk (pmk_own0 PySem.F.excBase_ValueError xP gP kP (raises_own bP tP) hg hdb), fun w0 H0 w H σ env S O Dn st p => p w H σ O _ _ st (.refl w) ⟨rfl, rfl⟩⟩
end
end Mm
namespace Mm
open PySem L2
def putFD (f : Str) (v : D) : List (Str × D) → List (Str × D)
  | [] => [(f, v)]
  | (g, x) :: r => if g = f then (g, v) :: r else (g, x) :: putFD f v r
theorem RepF.look {g : Gam} {w : Wd} : ∀ {fs : List (Str × D)} {gs : List (Str × V)} {f : Str}, RepF g w fs gs → (∀ d, fs.lookup f = some d → ∃ v, gs.lookup f = some v ∧ Rep g w d v) ∧ (fs.lookup f = none → gs.lookup f = none)
  | [], gs, f, r => by
    unfold RepF at r
    subst r
    exact ⟨fun d h => (by cases h), fun _ => rfl⟩
  | (f', d') :: fs, gs, f, r => by
    unfold RepF at r
    obtain ⟨v, vr, e, a, b⟩ := r
    subst e
    have ih := RepF.look (f := f) b
    rw [List.lookup_cons, List.lookup_cons]
    cases f == f' with
    | true => exact ⟨fun d h => (by cases h; exact ⟨v, rfl, a⟩), fun h => (by cases h)⟩
    | false => exact ih
theorem RepF.put {g : Gam} {w : Wd} {f : Str} {d : D} {v : V} (q : Rep g w d v) : ∀ {fs : List (Str × D)} {gs : List (Str × V)}, RepF g w fs gs → RepF g w (putFD f d fs) (putF f v gs)
  | [], gs, r => by
    unfold RepF at r
    subst r
    unfold putFD putF RepF
    exact ⟨v, [], rfl, q, by unfold RepF; rfl⟩
  | (f', d') :: fs, gs, r => by
    unfold RepF at r
    obtain ⟨u, vr, e, a, b⟩ := r
    subst e
    unfold putFD putF
    by_cases h : f' = f
    · rw [if_pos h, if_pos h]
      unfold RepF
      exact ⟨v, vr, rfl, q, b⟩
    · rw [if_neg h, if_neg h]
      unfold RepF
      exact ⟨u, _, rfl, a, RepF.put q b⟩
theorem RepF.len {g : Gam} {w : Wd} : ∀ {fs : List (Str × D)} {gs : List (Str × V)}, RepF g w fs gs → fs.length = gs.length
  | [], gs, r => by
    unfold RepF at r
    subst r
    rfl
  | (f', d') :: fs, gs, r => by
    unfold RepF at r
    obtain ⟨u, vr, e, a, b⟩ := r
    subst e
    rw [List.length_cons, List.length_cons, RepF.len b]
def insOf (c : Str) (S : Sto) : D → Option (List (Str × D))
  | .ins c' fs => if c' = c then some fs else none
  | .ref n => (match S[n]? with
    | some (.ins c' fs) => if c' = c then some fs else none
    | _ => none)
  | _ => none
theorem insOf_rep {g : Gam} {w : Wd} {H : Hp} {S : Sto} {c : Str} {d : D} {v : V} {fs : List (Str × D)} (k : Ok g w H S) (r : Rep g w d v) (h : insOf c S d = some fs) : ∃ a dx gs, v = .ref a ∧ H a = some (.ins (g.ca c) dx gs) ∧ RepF g w fs gs := by
  unfold insOf at h
  split at h
  · split at h
    · rename_i c' fs' e
      cases h
      subst e
      unfold Rep at r
      obtain ⟨a, dx, gs, e1, e2, e3⟩ := r
      exact ⟨a, dx, gs, e1, k.ex _ _ e2, e3⟩
    · cases h
  · rename_i n
    split at h
    · rename_i c' fs' hS
      split at h
      · rename_i e
        cases h
        subst e
        obtain ⟨a, e1, e2⟩ := rep_ref r
        obtain ⟨_, dx, gs, e3, e4⟩ := k.cells.at_ n a _ e1 hS
        exact ⟨a, dx, gs, e2, e3, e4⟩
      · cases h
    · cases h
  · cases h
section
variable {X : Cx} {Y : Gam} {W : WX} {e a b c tg iter elt o : Expr} {es rest ifs : List Expr} {ta tb te : TE} {tt tu : TT} {ma mb me : ME} {mt mu : MT} {mf : MF} {t : TA} {m : MA} {pos p apos : Pos} {s : Stmt} {ss : List Stmt} {t1 t2 : TS} {m1 m2 : MS} {wi : TI} {mi : MI} {x f : Str}
def eFld (c f : Str) (me : ME) : ME := fun env S => (me env S).bind fun d S1 => match insOf c S1 d with
  | some fs => opt (fs.lookup f) S1
  | none => .stuck
theorem s_fld (c : Str) (hC : Cls X.K (Y.ca c)) (hn : NoAttr X.K (Y.ca c) f) (he : SE X Y W e te me) (hK : X.K = Y.K := by rfl) (hb : attributeBase e f X.env (eval e X.env) = eval e X.env := by rfl) : SE X Y W (.Attribute e f pos) (tFld Y.K te f) (eFld c f me) := ⟨hK ▸ pe_fld he.pe hb, fun w0 H0 w H σ env S O Q st p =>
  he.sim w0 H0 w H σ env S O _ st ((PostX.bind p).imp fun d S1 w1 H1 st1 l1 p1 v r => by
    split at p1
    · rename_i fs hf
      obtain ⟨a, dx, gs, e1, e2, e3⟩ := insOf_rep st1.ok r hf
      obtain ⟨d', e4, k⟩ := PostX.opt_ p1 st1
      obtain ⟨v', e5, e6⟩ := (RepF.look e3).1 d' e4
      exact ⟨a, _, dx, gs, v', e1, e2, hK ▸ hC, hK ▸ hn, e5, k w1 H1 st1 (.refl w1) v' e6⟩
    · exact False.elim p1)⟩
def sFldC (c f : Str) (mo me : ME) : MS := fun env S => (me env S).out env fun y S1 => (mo env S1).out env fun d S2 => match d with
  | .ref n => (match S2[n]? with
    | some (.ins c' fs) => if c' = c ∧ fs.length < 1000 then .nx env (S2.set n (.ins c (putFD f y fs))) else .stuck
    | _ => .stuck)
  | _ => .stuck
theorem t_fld (c : Str) {pos' : Pos} (hC : Cls X.K (Y.ca c)) (hn : NoAttr X.K (Y.ca c) f) (ho : SE X Y W o ta ma) (he : SE X Y W e te me) (hK : X.K = Y.K := by rfl) (hs : swapsWith e (some (.Attribute o f pos')) pos.line X.env = pure false := by rfl) :
    SS X Y W (.Assign [.Attribute o f pos'] e pos) (sFld Y.K ta te f) (sFldC c f ma me) := ⟨hK ▸ ps_fld ho.pe he.pe hs, fun w0 H0 w H σ env S O Dn st p =>
  he.sim w0 H0 w H σ env S O _ st ((PostS.out p).imp fun y S1 w1 H1 st1 l1 p1 yv ry => ho.sim w0 H0 w1 H1 σ env S1 O _ st1 ((PostS.out p1).imp fun d S2 w2 H2 st2 l2 p2 v r => by
    split at p2
    · rename_i n
      split at p2
      · rename_i c' fs hS
        split at p2
        · rename_i hc
          obtain ⟨ec, hl⟩ := hc
          subst ec
          obtain ⟨a, e1, e2⟩ := rep_ref r
          obtain ⟨_, dx, gs, e3, e4⟩ := st2.ok.cells.at_ n a _ e1 hS
          refine ⟨a, _, dx, gs, e2, e3, hK ▸ hC, hK ▸ hn, by rw [← e4.len]; exact hl, ?_⟩
          obtain ⟨k3, f3⟩ := ok_cell (c' := .ins c' (putFD f y fs)) st2.ok e1 hS (o := .ins _ dx (putF f yv gs)) ⟨dx, _, upd_same, RepF.put (ry.mono l2) e4⟩ nt_ins
          exact p2 w2 _ σ O (st2.after f3 k3) (.refl w2)
        · exact False.elim p2
      · exact False.elim p2
    · exact False.elim p2))⟩
variable {k n : Nat} {fa C : Addr} {fd : FuncData} {ps : List Str} {mf : MFn} {dvs : List V} {ds : List Value} {dd : List D}
def tMethS (C : Addr) (m : Str) (sp : Sp) (dvs : List V) (E : L2.St → XK) (ta : TE) (t : TA) : TE := fun σ H Q => ta σ H fun x H1 => ∃ a dx fs, x = .ref a ∧ H1 a = some (.ins C dx fs) ∧ fs.lookup m = none ∧
  t σ H1 fun vs H2 => sp (x :: (vs ++ dvs)) H2 Q (E σ)
theorem pe_methS {CX : CXT} {sp : Sp} {E : L2.St → XK} {pl : Sem Bool} (he : PE X o ta) (c : Cls X.K C) (hm : Meth X.K C x fa) (F : FnOk X.prog X.w X.K X.mg X.base CX k fa fd ps sp) (hr : Room k X.A) (hb : Binds X.K fd ps ds) (hd : Vals dvs ds) (hx : ∀ σ, PassesAt CX X σ (E σ)) (ha : PA X (e :: es) t)
    (hst : starEach (e :: es) X.env = (false, eval e X.env) :: starEach es X.env) (hpl : (backTo pos (starEach es X.env)).any (·.1) = false)
    (ht : eval (.Call (.Attribute o x apos) (e :: es) [] pos) X.env = (do
      let ov ← eval o X.env
      standAt apos.atName
      let (f, first) ← holding [ov] (getMethod ov x pl)
      callWith pos f first (backTo pos (starEach (e :: es) X.env)) (backToKw pos (keywordEach [] X.env)))) :
    PE X (.Call (.Attribute o x apos) (e :: es) [] pos) (tMethS C x sp dvs E ta t) := by
  refine ⟨fun pins s σ H Q I h => ?_⟩
  refine PySem.W.methodCall_KW (pl := pl) (thn (he.run pins s σ H _ I h) fun u s1 ⟨x, H1, I1, rx, a, dx, fs, ex, ea, l, q⟩ => ?_) ht
  subst ex
  obtain rfl : u = Value.ref a := rx
  refine getmeth_ok I1 ea c hm l ?_
  refine PySem.W.callWith_K (first := [.ref a]) (h₀ := X.base) I.ok.mod.kin hm.kp (thn (ha.run pos pins s1 σ H1 _ I1 q) fun us s2 ⟨vs, H2, I2, r, q2⟩ => ⟨I2.kIn, ?_⟩) hst hpl
  exact run_fnSD (us := .ref a :: us) (vs := .ref a :: vs) F hr hb hd (hx σ) I2 (.cons rfl r) q2
theorem pe_methS0 {CX : CXT} {sp : Sp} {E : L2.St → XK} {pl : Sem Bool} (he : PE X o ta) (c : Cls X.K C) (hm : Meth X.K C x fa) (F : FnOk X.prog X.w X.K X.mg X.base CX k fa fd ps sp) (hr : Room k X.A) (hb : Binds X.K fd ps ds) (hd : Vals dvs ds) (hx : ∀ σ, PassesAt CX X σ (E σ))
    (ht : eval (.Call (.Attribute o x apos) [] [] pos) X.env = (do
      let ov ← eval o X.env
      standAt apos.atName
      let (f, first) ← holding [ov] (getMethod ov x pl)
      callWith pos f first (backTo pos (starEach [] X.env)) (backToKw pos (keywordEach [] X.env)))) :
    PE X (.Call (.Attribute o x apos) [] [] pos) (tMethS C x sp dvs E ta tNil) := by
  refine ⟨fun pins s σ H Q I h => ?_⟩
  refine PySem.W.methodCall_KW (pl := pl) (thn (he.run pins s σ H _ I h) fun u s1 ⟨x, H1, I1, rx, a, dx, fs, ex, ea, l, q⟩ => ?_) ht
  subst ex
  obtain rfl : u = Value.ref a := rx
  refine getmeth_ok I1 ea c hm l ?_
  exact PySem.W.callWith_K0 (first := [.ref a]) I1.kIn hm.kp (run_fnSD (us := [.ref a]) (vs := [.ref a]) F hr hb hd (hx σ) I1 (.cons rfl .nil) q)
def mGo {α : Type} (c x : Str) (mf : MFn) (dd : List D) (mo : ME) (m : MA) (F : Ret → Sto → R α) : Envr → Sto → R α := fun env S => (mo env S).bind fun o S1 => match insOf c S1 o with
  | some fs => if fs.lookup x = none then (m env S1).bind fun ds S2 => (mf (o :: (ds ++ dd)) S2).bind F else .stuck
  | none => .stuck
def eMeth (c x : Str) (mf : MFn) (dd : List D) (mo : ME) (m : MA) : ME := mGo c x mf dd mo m fun r S => .ok r.d S
theorem sim_methA {α : Type} {F : Ret → Sto → R α} {g : Gam} {c : Str} (hdv : ∀ w, RepL g w dd dvs) (ho : SimE g W ta ma) (ha : SimA g W t m) (hlen : ∀ env S ds S1, m env S = .ok ds S1 → ds.length + dd.length + 1 = n) {w0 w : Wd} {H0 H : Hp} {σ : L2.St} {env : Envr} {S : Sto} {O : List (Option Addr)} {kk : α → Sto → Wd → Hp → Prop} {Q : VK}
    (st : StR g w0 H0 w H σ env S O) (p : PostX g W w0 H0 w σ env O (mGo c x mf dd ma m F env S) kk)
    (fin : ∀ w1 H1 S1 r, StR g w0 H0 w1 H1 σ env S1 O → PostX g W w0 H0 w1 σ env O (r.bind F) kk → PostF g w1 H1 Q (WE W σ) r) : tMethS (g.ca c) x (spOf g n mf) dvs (WE W) ta t σ H Q := by
  refine ho w0 H0 w H σ env S O _ st ((PostX.bind p).imp fun od S1 w1 H1 st1 l1 p1 ov or => ?_)
  split at p1
  · rename_i fs hf
    split at p1
    · rename_i hx
      obtain ⟨a, dx, gs, e1, e2, e3⟩ := insOf_rep st1.ok or hf
      refine ⟨a, dx, gs, e1, e2, (RepF.look e3).2 hx, ?_⟩
      refine ha w0 H0 w1 H1 σ env S1 O _ st1 ?_
      have p2 := PostX.bind p1
      cases e : m env S1 with
      | stuck => rw [e] at p2; exact p2
      | exc c q S2 => rw [e] at p2; exact p2
      | ok ds S2 =>
        rw [e] at p2
        intro w2 H2 st2 l2 vs rs
        have p3 := p2 w2 H2 st2 l2
        have r2 := RepL.cons_ (or.mono l2) (rs.append_ (hdv w2))
        refine ⟨?_, w2, od :: (ds ++ dd), S2, st2.ok, r2, fin w2 H2 S2 _ st2 p3⟩
        rw [← r2.len, List.length_cons, List.length_append]
        exact hlen env S1 ds S2 e
    · exact False.elim p1
  · exact False.elim p1
theorem s_meth (c : Str) {pl : Sem Bool} (ho : SE X Y W o ta ma) (hC : Cls X.K (Y.ca c)) (hm : Meth X.K (Y.ca c) x fa) (F : FnOk X.prog X.w X.K X.mg X.base (L2N.CX X.prog X.w) k fa fd ps (spOf Y n mf)) (hr : Room k X.A) (hb : Binds X.K fd ps ds) (hd : Vals dvs ds) (hdv : ∀ w, RepL Y w dd dvs) (tk : L2N.Takes X W)
    (ha : SA X Y W (e :: es) t m) (hn : (e :: es).length + dd.length + 1 = n := by rfl) (hst : starEach (e :: es) X.env = (false, eval e X.env) :: starEach es X.env := by rfl) (hpl : (backTo pos (starEach es X.env)).any (·.1) = false := by rfl)
    (ht : eval (.Call (.Attribute o x apos) (e :: es) [] pos) X.env = (do
      let ov ← eval o X.env
      standAt apos.atName
      let (f, first) ← holding [ov] (getMethod ov x pl)
      callWith pos f first (backTo pos (starEach (e :: es) X.env)) (backToKw pos (keywordEach [] X.env))) := by rfl) :
    SE X Y W (.Call (.Attribute o x apos) (e :: es) [] pos) (tMethS (Y.ca c) x (spOf Y n mf) dvs (WE W) ta t) (eMeth c x mf dd ma m) :=
  ⟨pe_methS ho.pe hC hm F hr hb hd (fun σ => L2N.passAt tk σ) ha.pa hst hpl ht, fun w0 H0 w H σ env S O Q st p => sim_methA (g := Y) hdv ho.sim ha.sim (fun env S ds S1 h => by rw [ha.len _ _ _ _ h]; exact hn) st p fun w1 H1 S1 r st1 p1 => post_val st1 p1⟩
theorem s_meth0 (c : Str) {pl : Sem Bool} (ho : SE X Y W o ta ma) (hC : Cls X.K (Y.ca c)) (hm : Meth X.K (Y.ca c) x fa) (F : FnOk X.prog X.w X.K X.mg X.base (L2N.CX X.prog X.w) k fa fd ps (spOf Y n mf)) (hr : Room k X.A) (hb : Binds X.K fd ps ds) (hd : Vals dvs ds) (hdv : ∀ w, RepL Y w dd dvs) (tk : L2N.Takes X W)
    (hn : dd.length + 1 = n := by rfl)
    (ht : eval (.Call (.Attribute o x apos) [] [] pos) X.env = (do
      let ov ← eval o X.env
      standAt apos.atName
      let (f, first) ← holding [ov] (getMethod ov x pl)
      callWith pos f first (backTo pos (starEach [] X.env)) (backToKw pos (keywordEach [] X.env))) := by rfl) :
    SE X Y W (.Call (.Attribute o x apos) [] [] pos) (tMethS (Y.ca c) x (spOf Y n mf) dvs (WE W) ta tNil) (eMeth c x mf dd ma aNil) :=
  ⟨pe_methS0 ho.pe hC hm F hr hb hd (fun σ => L2N.passAt tk σ) ht, fun w0 H0 w H σ env S O Q st p => sim_methA (g := Y) hdv ho.sim (a_nil (X := X) (Y := Y)).sim (fun env S ds S1 h => by cases h; rw [← hn, List.length_nil]; omega) st p fun w1 H1 S1 r st1 p1 => post_val st1 p1⟩
end
end Mm
namespace Mm
open PySem L2
mutual
def D.under (n : Nat) : D → Prop
  | .lst ds => underL n ds
  | .tup ds => underL n ds
  | .ins _ fs => underF n fs
  | .ref m => m < n
  | .dic ks => underK n ks
  | _ => True
def underL (n : Nat) : List D → Prop
  | [] => True
  | d :: ds => d.under n ∧ underL n ds
def underF (n : Nat) : List (Str × D) → Prop
  | [] => True
  | (_, d) :: ds => d.under n ∧ underF n ds
def underK (n : Nat) : List (Key × D) → Prop
  | [] => True
  | (_, d) :: ds => d.under n ∧ underK n ds
end
theorem under_ints (n : Nat) : ∀ ns : List Int, underL n (ns.map D.int)
  | [] => by unfold List.map underL; trivial
  | i :: ns => by
    unfold List.map underL
    exact ⟨by unfold D.under; trivial, under_ints n ns⟩
mutual
theorem Rep.under {g : Gam} {w : Wd} : ∀ {d : D} {v : V}, Rep g w d v → d.under w.rho.length
  | .non, _, _ => by unfold D.under; trivial
  | .bl _, _, _ => by unfold D.under; trivial
  | .int _, _, _ => by unfold D.under; trivial
  | .str _, _, _ => by unfold D.under; trivial
  | .scr _, _, _ => by unfold D.under; trivial
  | .ty _, _, _ => by unfold D.under; trivial
  | .cls _, _, _ => by unfold D.under; trivial
  | .adr _, _, _ => by unfold D.under; trivial
  | .set _, _, _ => by unfold D.under; trivial
  | .tdc _, _, _ => by unfold D.under; trivial
  | .tds _, _, _ => by unfold D.under; trivial
  | .any, _, _ => by unfold D.under; trivial
  | .dic ds, v, h => by
    unfold Rep at h
    obtain ⟨a, vs, _, _, r⟩ := h
    unfold D.under
    exact RepK.under r
  | .lst ds, v, h => by
    obtain ⟨a, vs, _, _, r⟩ := rep_lst h
    unfold D.under
    exact RepL.under r
  | .tup ds, v, h => by
    obtain ⟨a, vs, _, _, r⟩ := rep_tup h
    unfold D.under
    exact RepL.under r
  | .ins c fs, v, h => by
    unfold Rep at h
    obtain ⟨a, dx, gs, _, _, r⟩ := h
    unfold D.under
    exact RepF.under r
  | .ref n, v, h => by
    obtain ⟨a, e, _⟩ := rep_ref h
    unfold D.under
    exact (List.getElem?_eq_some_iff.mp e).1
theorem RepL.under {g : Gam} {w : Wd} : ∀ {ds : List D} {vs : List V}, RepL g w ds vs → underL w.rho.length ds
  | [], _, _ => by unfold underL; trivial
  | d :: ds, vs, h => by
    unfold RepL at h
    obtain ⟨v, r, e, a, b⟩ := h
    unfold underL
    exact ⟨Rep.under a, RepL.under b⟩
theorem RepF.under {g : Gam} {w : Wd} : ∀ {ds : List (Str × D)} {vs : List (Str × V)}, RepF g w ds vs → underF w.rho.length ds
  | [], _, _ => by unfold underF; trivial
  | (f, d) :: ds, vs, h => by
    unfold RepF at h
    obtain ⟨v, r, e, a, b⟩ := h
    unfold underF
    exact ⟨Rep.under a, RepF.under b⟩
theorem RepK.under {g : Gam} {w : Wd} : ∀ {ds : List (Key × D)} {vs : List (Key × V)}, RepK g w ds vs → underK w.rho.length ds
  | [], _, _ => by unfold underK; trivial
  | (f, d) :: ds, vs, h => by
    unfold RepK at h
    obtain ⟨v, r, e, a, b⟩ := h
    unfold underK
    exact ⟨a.under, RepK.under b⟩
end
structure Wd.cut (w w' : Wd) (n : Nat) : Prop where
  pre : ∀ m a, m < n → w.rho[m]? = some a → w'.rho[m]? = some a
  ex : Same w.G w'.G
mutual
theorem Rep.cut {g : Gam} {w w' : Wd} {n : Nat} (l : w.cut w' n) : ∀ {d : D} {v : V}, Rep g w d v → d.under n → Rep g w' d v
  | .non, _, h, _ => h
  | .bl _, _, h, _ => h
  | .int _, _, h, _ => h
  | .str _, _, h, _ => h
  | .lst ds, v, h, k => by
    unfold Rep at h ⊢
    unfold D.under at k
    obtain ⟨a, vs, e, q, r⟩ := h
    exact ⟨a, vs, e, l.ex _ _ q, RepL.cut l r k⟩
  | .tup ds, v, h, k => by
    unfold Rep at h ⊢
    unfold D.under at k
    obtain ⟨a, vs, e, q, r⟩ := h
    exact ⟨a, vs, e, q.same l.ex, RepL.cut l r k⟩
  | .ins c fs, v, h, k => by
    unfold Rep at h ⊢
    unfold D.under at k
    obtain ⟨a, dx, gs, e, q, r⟩ := h
    exact ⟨a, dx, gs, e, l.ex _ _ q, RepF.cut l r k⟩
  | .ref n, v, h, k => by
    unfold Rep at h ⊢
    unfold D.under at k
    obtain ⟨a, e, q⟩ := h
    exact ⟨a, l.pre _ _ k e, q⟩
  | .scr ns, v, h, _ => by
    unfold Rep at h ⊢
    obtain ⟨a, e, q⟩ := h
    exact ⟨a, e, l.ex.seq q⟩
  | .ty _, _, h, _ => h
  | .cls _, _, h, _ => h
  | .adr _, _, h, _ => h
  | .set xs, v, h, _ => by
    unfold Rep at h ⊢
    obtain ⟨a, q, e, r, s⟩ := h
    exact ⟨a, q, e, l.ex _ _ r, s⟩
  | .dic ds, v, h, k => by
    unfold Rep at h ⊢
    unfold D.under at k
    obtain ⟨a, vs, e, q, r⟩ := h
    exact ⟨a, vs, e, same_rd l.ex q, RepK.cut l r k⟩
  | .tdc ks, v, h, _ => by
    unfold Rep at h ⊢
    obtain ⟨a, e, q⟩ := h
    exact ⟨a, e, l.ex _ _ q⟩
  | .any, v, h, _ => by
    unfold Rep at h ⊢
    exact h
  | .tds ks, v, h, _ => by
    unfold Rep at h ⊢
    obtain ⟨a, e, q⟩ := h
    exact ⟨a, e, l.ex _ _ q⟩
theorem RepL.cut {g : Gam} {w w' : Wd} {n : Nat} (l : w.cut w' n) : ∀ {ds : List D} {vs : List V}, RepL g w ds vs → underL n ds → RepL g w' ds vs
  | [], _, h, _ => h
  | d :: ds, vs, h, k => by
    unfold RepL at h ⊢
    unfold underL at k
    obtain ⟨v, r, e, a, b⟩ := h
    exact ⟨v, r, e, Rep.cut l a k.1, RepL.cut l b k.2⟩
theorem RepF.cut {g : Gam} {w w' : Wd} {n : Nat} (l : w.cut w' n) : ∀ {ds : List (Str × D)} {vs : List (Str × V)}, RepF g w ds vs → underF n ds → RepF g w' ds vs
  | [], _, h, _ => h
  | (f, d) :: ds, vs, h, k => by
    unfold RepF at h ⊢
    unfold underF at k
    obtain ⟨v, r, e, a, b⟩ := h
    exact ⟨v, r, e, Rep.cut l a k.1, RepF.cut l b k.2⟩
theorem RepK.cut {g : Gam} {w w' : Wd} {n : Nat} (l : w.cut w' n) : ∀ {ds : List (Key × D)} {vs : List (Key × V)}, RepK g w ds vs → underK n ds → RepK g w' ds vs
  | [], _, h, _ => h
  | (f, d) :: ds, vs, h, k => by
    unfold RepK at h ⊢
    unfold underK at k
    obtain ⟨v, r, e, a, b⟩ := h
    exact ⟨v, r, e, a.cut l k.1, RepK.cut l b k.2⟩
end
theorem MemX.cut {g : Gam} {w w' : Wd} {n : Nat} (l : w.cut w' n) : ∀ {ks : List ((List Int × List Int) × Int)} {xs : List (NestedKey × Addr × Value)}, MemX g w ks xs → MemX g w' ks xs
  | [], _, h => h
  | ((A, B), z) :: ks, xs, h => by
    obtain ⟨t, tok, r, e, q, m⟩ := h
    refine ⟨t, tok, r, e, q.cut l ?_, m.cut l⟩
    have u : ∀ C : List Int, (D.tup (C.map D.int)).under n := fun C => by unfold D.under; exact under_ints n C
    unfold D.under underL
    refine ⟨u A, ?_⟩
    unfold underL
    refine ⟨u B, ?_⟩
    unfold underL
    trivial
def Cell.under (n : Nat) : Cell → Prop
  | .lst ds => underL n ds
  | .ins _ fs => underF n fs
  | .dic ks => underK n ks
  | .tdc _ => True
  | .lck ks => underK n ks
  | .mem _ => True
  | .lkl ds => underL n ds
theorem CellR.under {g : Gam} {w : Wd} {H : Hp} {a : Addr} {c : Cell} (h : CellR g w H a c) : c.under w.rho.length := by
  cases c with
  | lst ds =>
    obtain ⟨vs, _, r⟩ := h
    exact r.under
  | ins c fs =>
    obtain ⟨dx, gs, _, r⟩ := h
    exact r.under
  | dic ks =>
    obtain ⟨gs, _, r⟩ := h
    exact r.under
  | tdc ks => trivial
  | lck ks =>
    obtain ⟨_, gs, _, r⟩ := h
    exact r.under
  | mem ks => trivial
  | lkl ds =>
    obtain ⟨_, vs, _, r⟩ := h
    exact r.under
theorem CellR.cut {g : Gam} {w w' : Wd} {H : Hp} {a : Addr} {c : Cell} {n : Nat} (l : w.cut w' n) (h : CellR g w H a c) (k : c.under n) : CellR g w' H a c := by
  cases c with
  | lst ds =>
    obtain ⟨vs, e, r⟩ := h
    exact ⟨vs, e, r.cut l k⟩
  | ins c fs =>
    obtain ⟨dx, gs, e, r⟩ := h
    exact ⟨dx, gs, e, r.cut l k⟩
  | dic ks =>
    obtain ⟨gs, e, r⟩ := h
    exact ⟨gs, e, r.cut l k⟩
  | tdc ks => exact h
  | lck ks =>
    obtain ⟨o, gs, e, r⟩ := h
    exact ⟨o, gs, e, r.cut l k⟩
  | mem ks =>
    obtain ⟨o, es, ep, xs, e1, h1, h2, h3, h4, h5⟩ := h
    exact ⟨o, es, ep, xs, e1, h1, h2, h3, h4, h5.cut l⟩
  | lkl ds =>
    obtain ⟨o, gs, e, r⟩ := h
    exact ⟨o, gs, e, r.cut l k⟩
section
variable {X : Cx} {Y : Gam} {W : WX} {e a b c tg iter elt o : Expr} {es rest ifs : List Expr} {ta tb te : TE} {tt tu : TT} {ma mb me : ME} {mt mu : MT} {t : TA} {m : MA} {pos p apos : Pos} {x f : Str}
variable {k n : Nat} {fa C : Addr} {fd : FuncData} {ps : List Str} {mf : MFn} {dvs : List V} {ds : List Value} {dd : List D}
open Classical in
noncomputable def popI (c : Str) (S : Sto) (r : R Ret) : R D := match r with
  | .ok (.val .non) S2 => (match S2.getLast? with
    | some (.ins c' fs) => if S2 = S ++ [.ins c fs] ∧ c' = c ∧ underF S.length fs then .ok (.ins c fs) S else .stuck
    | _ => .stuck)
  | .exc cc none S2 => (match S2.getLast? with
    | some q => if S2 = S ++ [q] then .exc cc none S else .stuck
    | _ => .stuck)
  | _ => .stuck
noncomputable def eNew (c : Str) (mf : MFn) (dd : List D) (m : MA) : ME := fun env S => (m env S).bind fun ds S1 => popI c S1 (mf (.ref S1.length :: (ds ++ dd)) (S1 ++ [.ins c []]))
def tMakeS (C : Addr) (sp : Sp) (dvs : List V) (E : L2.St → XK) (t : TA) : TE := fun σ H Q => t σ H fun vs H1 => ∀ x dx, H1 x = none → H1 dx = none → dx ≠ x →
  sp (.ref x :: (vs ++ dvs)) (upd (upd H1 dx (.own x)) x (.ins C dx [])) (fun v H2 => v = .non ∧ Q (.ref x) H2) (E σ)
theorem run_makeS {CX : CXT} {sp : Sp} {E : L2.St → XK} {pins : List (Addr × Obj)} {σ : L2.St} {H : Hp} {s : Shared} {Q : VK} {us : List Value} {vs : List V} (M : Mk X.K C fa) (F : FnOk X.prog X.w X.K X.mg X.base CX k fa fd ps sp) (hr : Room (k + 1) X.A) (hb : Binds X.K fd ps ds) (hd : Vals dvs ds)
    (hx : ∀ (pins : List (Addr × Obj)) (H : Hp) (s : Shared) (e : Value) (s' : Shared), Inv X pins σ H s → CX X.stack H s (E σ) e s' → X.xe e s') (I : Inv X pins σ H s) (r : Vals vs us)
    (h : ∀ x dx, H x = none → H dx = none → dx ≠ x → sp (.ref x :: (vs ++ dvs)) (upd (upd H dx (.own x)) x (.ins C dx [])) (fun v H2 => v = .non ∧ Q (.ref x) H2) (E σ)) :
    wpAny (model X.prog X.w) X.A (call (.ref C) us) (EP X pins σ Q) X.xe s := by
  have hq := h (s.heap.objs.size + 1) s.heap.objs.size (I.hok.fresh (Nat.le_succ _)) (I.hok.fresh (Nat.le_refl _)) (Nat.ne_of_lt (Nat.lt_succ_self _))
  have I2 := Inv.made (C := C) I
  have r2 : Vals (V.ref (s.heap.objs.size + 1) :: (vs ++ dvs)) (Value.ref (s.heap.objs.size + 1) :: (us ++ ds)) := .cons rfl (r.append hd)
  have hl : (Value.ref (s.heap.objs.size + 1) :: us ++ ds).length = ps.length := by
    have e := r2.length
    rw [F.len _ _ _ _ hq] at e
    exact e.symm
  refine wpAny_call (make_map (f := fa) I.kIn M.makes M.init (beq_iff_eq.mp M.fn) (codeAny_mono (F.run _ X.stack _ _ ⟨Value.ref (s.heap.objs.size + 1) :: us, []⟩ (Value.ref (s.heap.objs.size + 1) :: (us ++ ds)) _ _ (E σ) (hr.make C us [])
    (I2.env0.make C us []) (hb _ (Value.ref (s.heap.objs.size + 1) :: us) I2.kIn hl) r2 hq) fun r s' hq' => ?_))
  cases r with
  | error e => exact hx pins _ _ e s' I2 hq'
  | ok fl =>
    cases fl with
    | ret u =>
      obtain ⟨v, H', I3, rv, ev, q3⟩ := I2.after hq'
      subst ev
      exact ⟨rv, ⟨V.ref (s.heap.objs.size + 1), H', I3, rfl, q3⟩⟩
    | next => exact False.elim hq'
    | brk => exact False.elim hq'
    | cont => exact False.elim hq'
theorem pe_makeS {CX : CXT} {sp : Sp} {E : L2.St → XK} (M : Mk X.K C fa) (F : FnOk X.prog X.w X.K X.mg X.base CX k fa fd ps sp) (hr : Room (k + 1) X.A) (hg : Gl X x) (hm : X.mg x = some (.ref C)) (hb : Binds X.K fd ps ds) (hd : Vals dvs ds) (hx : ∀ σ, PassesAt CX X σ (E σ))
    (ha : PA X (e :: es) t) (hdb : (x == ("__debug__" : Str)) = false) (he : starEach (e :: es) X.env = (false, eval e X.env) :: starEach es X.env) (hpl : (backTo pos (starEach es X.env)).any (·.1) = false) :
    PE X (.Call (.Name x p) (e :: es) [] pos) (tMakeS C sp dvs E t) := by
  refine ⟨fun pins s σ H Q I h => ?_⟩
  refine wpAny_Call_Name_kw (ld_glob I hg hm ?_ hdb)
  refine PySem.W.callWith_K (h₀ := X.base) I.ok.mod.kin M.kp (thn (ha.run pos pins s σ H _ I h) fun us s1 ⟨vs, H1, I1, r, q⟩ => ⟨I1.kIn, ?_⟩) he hpl
  exact run_makeS M F hr hb hd (hx σ) I1 r q
theorem ok_inst {g : Gam} {w : Wd} {H : Hp} {S : Sto} {c : Str} {x dx : Addr} (k : Ok g w H S) (hx : H x = none) (hdx : H dx = none) (ne : dx ≠ x) :
    Ok g ⟨w.rho ++ [x], w.G⟩ (upd (upd H dx (.own x)) x (.ins (g.ca c) dx [])) (S ++ [.ins c []]) ∧ w.le ⟨w.rho ++ [x], w.G⟩ := by
  have le : w.le ⟨w.rho ++ [x], w.G⟩ := ⟨⟨[x], rfl⟩, Same.refl _⟩
  obtain ⟨k1, f1⟩ := ok_lay (o := .own x) k hdx nt_own
  have hx1 : upd H dx (.own x) x = none := by rw [upd_ne (Ne.symm ne)]; exact hx
  obtain ⟨k2, f2⟩ := ok_lay (o := .ins (g.ca c) dx []) k1 hx1 nt_ins
  have nx : x ∉ w.rho := fun m => by
    obtain ⟨_, o, e⟩ := k.cells.in_ m
    rw [hx] at e
    cases e
  refine ⟨⟨k2.ex, ⟨fun i j a h1 h2 => ?_, ?_, fun m a q h1 h2 => ?_⟩, k2.tabs, k2.notab⟩, le⟩
  · have h1 : (w.rho ++ [x])[i]? = some a := h1
    have h2 : (w.rho ++ [x])[j]? = some a := h2
    by_cases hi : i < w.rho.length
    · by_cases hj : j < w.rho.length
      · rw [List.getElem?_append_left hi] at h1
        rw [List.getElem?_append_left hj] at h2
        exact k.cells.nd i j a h1 h2
      · rw [List.getElem?_append_left hi] at h1
        rw [List.getElem?_append_right (by omega)] at h2
        have : a = x := by
          cases z : j - w.rho.length with
          | zero => rw [z] at h2; simpa using h2.symm
          | succ q => rw [z] at h2; simp at h2
        exact absurd (this ▸ List.mem_of_getElem? h1) nx
    · by_cases hj : j < w.rho.length
      · rw [List.getElem?_append_right (by omega)] at h1
        rw [List.getElem?_append_left hj] at h2
        have : a = x := by
          cases z : i - w.rho.length with
          | zero => rw [z] at h1; simpa using h1.symm
          | succ q => rw [z] at h1; simp at h1
        exact absurd (this ▸ List.mem_of_getElem? h2) nx
      · have l1 := (List.getElem?_eq_some_iff.mp h1).1
        have l2 := (List.getElem?_eq_some_iff.mp h2).1
        simp only [List.length_append, List.length_cons, List.length_nil] at l1 l2
        omega
  · show (w.rho ++ [x]).length = (S ++ [Cell.ins c []]).length
    rw [List.length_append, List.length_append, k.cells.len]
    rfl
  · have h1 : (w.rho ++ [x])[m]? = some a := h1
    by_cases hm : m < w.rho.length
    · rw [List.getElem?_append_left hm] at h1
      rw [List.getElem?_append_left (by rw [← k.cells.len]; exact hm)] at h2
      obtain ⟨q1, q2⟩ := k2.cells.at_ m a q h1 h2
      exact ⟨q1, q2.move le rfl⟩
    · rw [List.getElem?_append_right (by omega)] at h1
      rw [List.getElem?_append_right (by rw [← k.cells.len]; omega), ← k.cells.len] at h2
      cases z : m - w.rho.length with
      | zero =>
        rw [z] at h1 h2
        have ea : x = a := by simpa using h1
        have eq' : Cell.ins c [] = q := by simpa using h2
        subst ea eq'
        exact ⟨none_of_same k.ex hx, dx, [], upd_same, by unfold RepF; rfl⟩
      | succ y => rw [z] at h1; simp at h1
theorem frame_inst {g : Gam} {w w' : Wd} {H H' : Hp} {c : Str} {x dx : Addr} (hx : H x = none) (hdx : H dx = none) (ne : dx ≠ x) (f : Frame ⟨w.rho ++ [x], w.G⟩ (upd (upd H dx (.own x)) x (.ins (g.ca c) dx [])) w' H') : Frame w H w' H' := by
  have le : w.le ⟨w.rho ++ [x], w.G⟩ := ⟨⟨[x], rfl⟩, Same.refl _⟩
  have at_ : ∀ a, H a ≠ none → upd (upd H dx (.own x)) x (.ins (g.ca c) dx []) a = H a := fun a h => by
    rw [upd_ne (fun z => h (by rw [z]; exact hx)), upd_ne (fun z => h (by rw [z]; exact hdx))]
  refine ⟨le.trans f.le, fun a o h n t => f.keep a o (by rw [at_ a (by rw [h]; exact fun z => nomatch z)]; exact h) (fun z => ?_) t, fun a h => f.newG a (by rw [at_ a h]; exact h), fun a h => ?_, fun a h => f.dom a (by rw [at_ a h]; exact h), fun a ps h => f.tb a ps (by rw [at_ a (by rw [h]; exact fun z => nomatch z)]; exact h), fun a x u h => f.fz a x u (by rw [at_ a (by rw [h]; exact fun z => nomatch z)]; exact h)⟩
  · rcases List.mem_append.mp z with z | z
    · exact n z
    · have : a = x := by simpa using z
      rw [this, hx] at h
      cases h
  · rcases f.rho a h with z | z
    · rcases List.mem_append.mp z with z | z
      · exact .inl z
      · refine .inr ?_
        have : a = x := by simpa using z
        rw [this]
        exact hx
    · refine .inr ?_
      cases e : H a with
      | none => rfl
      | some o =>
        rw [at_ a (by rw [e]; exact fun z => nomatch z), e] at z
        cases z
theorem post_new {g : Gam} {c : Str} {w0 w : Wd} {H0 H : Hp} {σ : L2.St} {env : Envr} {S : Sto} {O : List (Option Addr)} {Q : VK} {x dx : Addr} {r : R Ret} (st : StR g w0 H0 w H σ env S O) (hx : H x = none) (hdx : H dx = none) (ne : dx ≠ x)
    (p : PostX g W w0 H0 w σ env O (popI c S r) (fun d _ w' H' => ∀ v, Rep g w' d v → Q v H')) : PostF g ⟨w.rho ++ [x], w.G⟩ (upd (upd H dx (.own x)) x (.ins (g.ca c) dx [])) (fun v H2 => v = .non ∧ Q (.ref x) H2) (WE W σ) r := by
  obtain ⟨k0, le0⟩ := ok_inst (c := c) st.ok hx hdx ne
  have cutW : ∀ {w' : Wd} {H' : Hp} {q : Cell}, Frame ⟨w.rho ++ [x], w.G⟩ (upd (upd H dx (.own x)) x (.ins (g.ca c) dx [])) w' H' → Ok g w' H' (S ++ [q]) → w'.rho = w.rho ++ [x] := fun {w' H' q} f k => by
    obtain ⟨tl, et⟩ := f.le.pre
    have l1 := k.cells.len
    have et : w'.rho = (w.rho ++ [x]) ++ tl := et
    rw [et, List.length_append, List.length_append, List.length_append, st.ok.cells.len] at l1
    have : tl = [] := by
      cases tl with
      | nil => rfl
      | cons y ys => simp at l1
    rw [et, this, List.append_nil]
  have nx : x ∉ w.rho := fun m => by
    obtain ⟨_, o, e⟩ := st.ok.cells.in_ m
    rw [hx] at e
    cases e
  have okS : ∀ {w' : Wd} {H' : Hp} {q : Cell} {o : HO}, Frame ⟨w.rho ++ [x], w.G⟩ (upd (upd H dx (.own x)) x (.ins (g.ca c) dx [])) w' H' → Ok g w' H' (S ++ [q]) → H' x = some o → (∀ ps, o ≠ .tbl ps) → w'.G x = none →
      Ok g ⟨w.rho, upd w'.G x o⟩ H' S ∧ Frame w H ⟨w.rho, upd w'.G x o⟩ H' ∧ w'.cut ⟨w.rho, upd w'.G x o⟩ S.length := fun {w' H' q o} f k ho nt hg => by
    have er := cutW f k
    have cw : w'.cut ⟨w.rho, upd w'.G x o⟩ S.length := ⟨fun m a hm e => by
      rw [er, List.getElem?_append_left (by rw [st.ok.cells.len]; exact hm)] at e
      exact e, same_upd hg⟩
    have f2 : Frame w H w' H' := frame_inst hx hdx ne f
    refine ⟨⟨fun b u e => ?_, ⟨st.ok.cells.nd, st.ok.cells.len, fun m b q' e1 e2 => ?_⟩, k.tabs, fun b ps e => ?_⟩, ⟨⟨⟨[], by simp⟩, f2.le.ex.trans (same_upd hg)⟩, f2.keep, fun b h => ?_, fun b h => .inl h, f2.dom, f2.tb, f2.fz⟩, cw⟩
    · by_cases hb : b = x
      · have e : upd w'.G x o b = some u := e
        rw [hb, upd_same] at e
        rw [hb, ho, e]
      · have e : upd w'.G x o b = some u := e
        rw [upd_ne hb] at e
        exact k.ex b u e
    · have hm : m < S.length := (List.getElem?_eq_some_iff.mp e2).1
      have e1' : w'.rho[m]? = some b := by
        rw [er, List.getElem?_append_left (by rw [st.ok.cells.len]; exact hm)]
        exact e1
      obtain ⟨q1, q2⟩ := k.cells.at_ m b q' e1' (by rw [List.getElem?_append_left hm]; exact e2)
      have nb : b ≠ x := fun z => nx (by rw [← z]; exact List.mem_of_getElem? e1)
      refine ⟨(upd_ne nb).trans q1, q2.cut cw ?_⟩
      obtain ⟨_, q4⟩ := st.ok.cells.at_ m b q' e1 e2
      have q5 := q4.under
      rw [st.ok.cells.len] at q5
      exact q5
    · by_cases hb : b = x
      · have e : upd w'.G x o b = some (.tbl ps) := e
        rw [hb, upd_same] at e
        exact nt ps (Option.some.inj e)
      · have e : upd w'.G x o b = some (.tbl ps) := e
        rw [upd_ne hb] at e
        exact k.notab b ps e
    · have nb : b ≠ x := fun z => h (by rw [z]; exact hx)
      exact (upd_ne nb).trans (f2.newG b h)
  unfold popI at p
  split at p
  · rename_i S2
    split at p
    · rename_i c' fs hl
      split at p
      · rename_i hc
        obtain ⟨e1, e2, e3⟩ := hc
        subst e2
        intro w' H' v f k rv
        rw [e1] at k
        have er := cutW f k
        have hlast : w'.rho[S.length]? = some x := by
          rw [er, ← st.ok.cells.len]
          simp
        obtain ⟨q1, dx', gs, q2, q3⟩ := k.cells.at_ S.length x (.ins c' fs) hlast (by simp)
        obtain ⟨k3, f3, cw⟩ := okS f k q2 nt_ins q1
        refine ⟨rep_non (g := g) (w := w') rv, p _ H' (st.after f3 k3) f3.le _ ?_⟩
        unfold Rep
        exact ⟨x, dx', gs, rfl, upd_same, q3.cut cw e3⟩
      · exact False.elim p
    · exact False.elim p
  · rename_i cc S2
    split at p
    · rename_i q hl
      split at p
      · rename_i e1
        intro w' H' cls dd f k ex
        rw [e1] at k
        have er := cutW f k
        have hlast : w'.rho[S.length]? = some x := by
          rw [er, ← st.ok.cells.len]
          simp
        obtain ⟨q1, q2⟩ := k.cells.at_ S.length x q hlast (by simp)
        obtain ⟨o, q3, q4⟩ := q2.some_
        obtain ⟨k3, f3, cw⟩ := okS f k q3 q4 q1
        exact p _ H' cls dd (st.after f3 k3) f3.le ex
      · exact False.elim p
    · exact False.elim p
  · exact False.elim p
theorem s_new (M : Mk X.K (Y.ca x) fa) (F : FnOk X.prog X.w X.K X.mg X.base (L2N.CX X.prog X.w) k fa fd ps (spOf Y n mf)) (hr : Room (k + 1) X.A) (hm : X.mg x = some (.ref (Y.ca x))) (hb : Binds X.K fd ps ds) (hd : Vals dvs ds) (hdv : ∀ w, RepL Y w dd dvs) (tk : L2N.Takes X W)
    (ha : SA X Y W (e :: es) t m) (hn : (e :: es).length + dd.length + 1 = n := by rfl) (hg : Gl X x := by rfl) (hdb : (x == ("__debug__" : Str)) = false := by decide) (he : starEach (e :: es) X.env = (false, eval e X.env) :: starEach es X.env := by rfl) (hpl : (backTo pos (starEach es X.env)).any (·.1) = false := by rfl) :
    SE X Y W (.Call (.Name x p) (e :: es) [] pos) (tMakeS (Y.ca x) (spOf Y n mf) dvs (WE W) t) (eNew x mf dd m) :=
  ⟨pe_makeS M F hr hg hm hb hd (fun σ => L2N.passAt tk σ) ha.pa hdb he hpl, fun w0 H0 w H σ env S O Q st p => by
    refine ha.sim w0 H0 w H σ env S O _ st ?_
    have p2 := PostX.bind p
    cases e : m env S with
    | stuck => rw [e] at p2; exact p2
    | exc c q S2 => rw [e] at p2; exact p2
    | ok ds S1 =>
      rw [e] at p2
      intro w1 H1 st1 l1 vs rs y dy hy hdy ne
      have p3 := p2 w1 H1 st1 l1
      obtain ⟨k4, l4⟩ := ok_inst (c := x) st1.ok hy hdy ne
      have r4 : RepL Y ⟨w1.rho ++ [y], w1.G⟩ (.ref S1.length :: (ds ++ dd)) (.ref y :: (vs ++ dvs)) := RepL.cons_ (by
        unfold Rep
        refine ⟨y, ?_, rfl⟩
        show (w1.rho ++ [y])[S1.length]? = some y
        rw [← st1.ok.cells.len]
        simp) ((rs.mono l4).append_ (hdv _))
      refine ⟨?_, ⟨w1.rho ++ [y], w1.G⟩, _, S1 ++ [.ins x []], k4, r4, post_new st1 hy hdy ne p3⟩
      rw [← r4.len, List.length_cons, List.length_append, ha.len _ _ _ _ e]
      exact hn⟩
end
end Mm
namespace Mm
open PySem L2
open Sem (wp) in
open AutoSeq1 (wpAny_loadPart') in
theorem meets_enumerate_newT (l : Addr) (items : Array Value) (n : Nat) (dct : Option Addr) (sl : Array (Option Value)) :
    Meets (Builtin.«enumerate.__new__» ⟨[.type "enumerate", .ref l], []⟩) (fun _ R s => s.heap.get? l = some { cls := .type "tuple", dict := dct, data := .seq items n, slots := sl } ∧
      R (.ok (.ret (.ref (s.heap.push { cls := .type "tuple_iterator", data := .fields #[.ref l, .int 0 0] }).objs.size)))
        { s with heap := (s.heap.push { cls := .type "tuple_iterator", data := .fields #[.ref l, .int 0 0] }).push { cls := .type "enumerate", data := .fields #[.none, .bool false, .ref s.heap.objs.size, rawInt 0, .none, .none] } }) :=
  .of_wp fun prog w A R s h => by
    obtain ⟨hp, g, d, tk, os⟩ := s; obtain ⟨hl, h⟩ := h
    have hsub := sub_enumerate
    have hL : Heap.IsTuple (Shared.heap ⟨hp, g, d, tk, os⟩) l items := ⟨_, hl, rfl, n, rfl⟩
    wp_walk using wpAny_loadPart' hl
    refine wpAny_stack_any fun st => wpAny_pure ?_
    split
    · rename_i c _ _ _ _ _
      cases (c == Value.type "enumerate")
      · wp_walk using wpAny_loadPart' hl, wpAny_pyIter_tuple hL
        exact ⟨_, rfl, h⟩
      · wp_walk using wpAny_loadPart' hl, wpAny_pyIter_tuple hL
        exact ⟨_, rfl, h⟩
    · wp_walk using wpAny_loadPart' hl, wpAny_pyIter_tuple hL
      exact ⟨_, rfl, h⟩
theorem call_enumerate_tuple {prog : Program} {w : World} {A : Around} {E : Value → Shared → Prop} {s : Shared} {l : Addr} {items : Array Value} {Q : Value → Shared → Prop} (hL : s.heap.IsTuple l items)
    (h : ∀ h', IsEnum h' (s.heap.objs.size + 1) s.heap.objs.size 0 .none → h'.IsTupleIter s.heap.objs.size l 0 → h'.objs.size = s.heap.objs.size + 2 →
      (∀ b o, s.heap.get? b = some o → h'.get? b = some o) → Q (.ref (s.heap.objs.size + 1)) { s with heap := h' }) :
    wpAny (model prog w) A (call (.type "enumerate") [.ref l]) Q E s := by
  obtain ⟨⟨c, dct, dt, sl⟩, hl, hc, n, hd⟩ := hL
  replace hc : c = .type "tuple" := hc
  replace hd : dt = .seq items n := hd
  subst hc hd
  refine callType_new F.called_enumerate (by decide) (F.typeCall_enumerate_1 _) (F.newCall_enumerate_1 _) (fun obj => F.args_object_init_2 obj _) F.entry_enumerate_new
    (meets_enumerate_newT l items n dct sl) ⟨hl, ?_⟩
  have hz : (s.heap.push { cls := .type "tuple_iterator", data := .fields #[.ref l, .int 0 0] }).objs.size = s.heap.objs.size + 1 := Heap.size_push ..
  show _ ∧ _
  rw [hz]
  have he : IsEnum ((s.heap.push { cls := .type "tuple_iterator", data := .fields #[.ref l, .int 0 0] }).push
      { cls := .type "enumerate", data := .fields #[.none, .bool false, .ref s.heap.objs.size, rawInt 0, .none, .none] }) (s.heap.objs.size + 1) s.heap.objs.size 0 .none := by
    have := Heap.get?_push_size (s.heap.push { cls := .type "tuple_iterator", data := .fields #[.ref l, .int 0 0] })
      (o := { cls := .type "enumerate", data := .fields #[.none, .bool false, .ref s.heap.objs.size, rawInt 0, .none, .none] }) rfl
    rw [hz] at this; exact this
  refine ⟨⟨_, he, rfl⟩, h _ he ⟨_, Heap.get?_push_of_some _ (Heap.get?_push_size _ rfl), rfl, rfl⟩ (by rw [Heap.size_push, hz]) fun b o x => Heap.get?_push_of_some _ (Heap.get?_push_of_some _ x)⟩
def Itet (K : PySem.W.Frag) (a : Addr) : It :=
  ⟨fun i H => ∃ (xs : List V) (x : V), SqT K H a xs ∧ xs[i]? = some x, fun i H v H' => ∃ T x, v = .ref T ∧ H T = none ∧ H' = upd H T (.tup [.int (i : Nat), x]) ∧ ∀ xs, SqT K H a xs → xs[i]? = some x, fun i H => ∃ xs : List V, SqT K H a xs ∧ xs.length ≤ i⟩
theorem turn_enumT {P : Program} {w : World} {K : PySem.W.Frag} {elts : List Expr} {kk : Nat} {tpos : Pos} (a e it : Addr) (hai : a ≠ it) (hae : e ≠ a) :
    Turn P w K (.Tuple elts kk tpos) (Itet K a) [e, it] e (fun i h => (∃ old, IsEnum h e it ((i : Nat) : Int) old) ∧ h.IsTupleIter it a i ∧ e ≠ it) where
  mem := by simp
  obj := fun i h st b hb => by
    obtain ⟨⟨old, he⟩, ⟨o, ho, hc, hd⟩, _⟩ := st
    have e' : b = e ∨ b = it := by simpa using hb
    rcases e' with z | z
    · rw [z]; exact ⟨_, he, fun v q => nomatch q⟩
    · rw [z]; exact ⟨o, ho, fun v q => by rw [hd] at q; cases q⟩
  keep := fun i h h' st k => let ⟨⟨old, he⟩, hi, hne⟩ := st; ⟨⟨old, k e (by simp) _ he⟩, hi.at fun o q => k it (by simp) o q, hne⟩
  item := by
    intro X hP hw hK hc i pins s σ H E I hf st hg
    subst hP hw hK
    obtain ⟨⟨old, he⟩, hit, hne⟩ := st
    obtain ⟨xs, x, hq, hx⟩ := hg
    obtain ⟨its, rv, p, hz⟩ := I.tuple hq
    obtain ⟨u, hu, ru⟩ := rv.get hx
    have hel : e < s.heap.objs.size := Heap.lt_size he
    have hil : it < s.heap.objs.size := by obtain ⟨_, q, _⟩ := hit; exact Heap.lt_size q
    have hilt : i < its.toArray.size := by
      rw [List.size_toArray]
      exact (List.getElem?_eq_some_iff.mp hu).1
    refine wpAny_pyNext_enum_itemD (Draws.tuple (A := X.A.in1) (I.ok.hd hc) it a hai its.toArray) he ⟨hit, show s.heap.IsTuple a its.toArray from p⟩ hilt hne (by simp [hne, hae]) fun u' h' tk hu' ho hit' hT hsz hk => ?_
    have eu : u' = u := by
      have h1 : its.toArray[i]? = some u := by simpa using hu
      exact Option.some.inj (hu'.symm.trans h1)
    subst eu
    refine ⟨_, rfl, wpAny_letOwnedTupleGo_enum (s := { s with heap := h', toks := tk + 1 }) ho fun h'' he' sb => ?_⟩
    have hT2 : h''.get? s.heap.objs.size = some { cls := .type "tuple", data := .seq #[.int i tk, u'] } := (sb.2 _ (Nat.ne_of_gt hel)).trans hT
    have new : ObjOk X.prog X.w (upd H s.heap.objs.size (.tup [.int (i : Nat), x])) h'' s.heap.objs.size (.tup [.int (i : Nat), x]) :=
      ⟨by show 2 ≤ sizeLine; decide, [.int i tk, u'], .cons ⟨_, rfl⟩ (.cons ru .nil), ⟨_, hT2, rfl, _, rfl⟩⟩
    have I1 : Inv X pins σ (upd H s.heap.objs.size (.tup [.int (i : Nat), x])) { s with heap := h'', toks := tk + 1 } :=
      I.turnedNew (ch := [e, it]) (fun b ob hb q => (sb.2 b (fun z => hb (by simp [z]))).trans (hk b ob (fun z => hb (by simp [z])) (fun z => hb (by simp [z])) q)) hf (Nat.le_refl _) new
    refine ⟨.ref s.heap.objs.size, _, I1, rfl, ⟨_, x, rfl, I.hok.fresh (Nat.le_refl _), rfl, fun ys hy => by rw [I.tuple_inj hy hq]; exact hx⟩, ⟨⟨u', ?_⟩, hit'.1.at fun o q => (sb.2 it (Ne.symm hne)).trans q, hne⟩, fun b hb => ?_⟩
    · have e1 : ((i + 1 : Nat) : Int) = (i : Int) + 1 := by omega
      rw [e1]; exact he'
    · have hb' : b < s.heap.objs.size := by
        have e' : b = e ∨ b = it := by simpa using hb
        rcases e' with z | z
        · rw [z]; exact hel
        · rw [z]; exact hil
      rw [upd_ne (Nat.ne_of_lt hb')]
      exact (hf b hb).1
  done := by
    intro X hP hw hK hc i pins s σ H E I hf st hg
    subst hP hw hK
    obtain ⟨⟨old, he⟩, hit, hne⟩ := st
    obtain ⟨xs, hq, hx⟩ := hg
    obtain ⟨its, rv, p, hz⟩ := I.tuple hq
    obtain ⟨f0, f1, f2, f3, f4, f5⟩ := hf it (by simp)
    have hl := rv.length
    have hT : s.TypeIs (.ref e) "enumerate" := ⟨_, he, rfl⟩
    unfold pyNext
    refine wpAny_bind (wpAny_attempt (wpAny_callSpecial?_slot (name := Str.ofString "__next__") hT F.slot_enumerate_next
      (wpAny_call_entry F.slot_enumerate_next hT F.entry_enumerate_next ?_ (F.args_enumerate_next_1 _))))
    show wpAny _ _ (field (.ref e) 2 >>= _) _ _ _
    refine wpAny_bind (wpAny_field he rfl (x := .ref it) rfl ?_)
    refine wpAny_bind (wpAny_nextOf_tuple_end (I.ok.hd hc) hit (show s.heap.IsTuple a its.toArray from p) (by simp; omega) fun h' x he' hx' => ?_)
    obtain ⟨o, ho, hc⟩ := hx'
    refine wpAny_bind (wpAny_isInstance (T := "StopIteration") (b := true) ⟨o, ho, hc⟩ isSubtype_stop ?_)
    exact wpAny_pure ⟨rfl, I.turned (t' := s.toks) (fun b o hb q => he' b o hb q) f0 f1 f3 f4 f5⟩
  self := fun A i s Q E st h => let ⟨⟨_, he⟩, _⟩ := st; wpAny_pyIter_enum he h
section
variable {X : Cx} {Y : Gam} {W : WX} {e a b c tg iter elt o : Expr} {es rest ifs : List Expr} {ta tb te : TE} {tt tu : TT} {ma mb me : ME} {mt mu : MT} {mf : MF} {t : TA} {m : MA} {pos p apos : Pos} {s : Stmt} {ss : List Stmt} {t1 t2 : TS} {m1 m2 : MS} {wi : TI} {mi : MI} {x f : Str}
def iEnumS (K : PySem.W.Frag) (ta : TA) : TI := fun σ H R => ta σ H fun vs H1 => ∃ a xs, vs = [.ref a] ∧ ((SqL K H1 a xs ∧ R (Ite K a) H1) ∨ (SqT K H1 a xs ∧ R (Itet K a) H1))
theorem pi_enumS {e : Expr} {ta : TA} {p pos tpos : Pos} {elts : List Expr} {kk : Nat} (hg : Gl X "enumerate") (hm : X.mg "enumerate" = none) (ha : PA X [e] ta) (hs : starEach [e] X.env = [(false, eval e X.env)]) :
    PI X (.Tuple elts kk tpos) (.Call (.Name "enumerate" p) [e] [] pos) (iEnumS X.K ta) := by
  refine ⟨fun pins s σ H R I h => ?_⟩
  refine PyProof.Rows.Call_ (ld_blt I hg hm PyProof.Rows.boot_enumerate (PyProof.Rows.callWith_type1 (thn (ha.run pos pins s σ H _ I h) fun us s1 ⟨vs, H1, I1, r1, q1⟩ => ?_) hs rfl))
  obtain ⟨a, xs, ex, q⟩ := q1
  subst ex
  cases r1 with
  | cons r rr =>
    cases rr
    cases r
    rcases q with ⟨hq, q⟩ | ⟨hq, q⟩
    · obtain ⟨its, rv, p', hz⟩ := I1.list hq
      refine call_enumerate_list p'.isList fun h' he hit hsz hk => wpAny_pyIter_enum he ?_
      have I2 : Inv X pins σ H1 { s1 with heap := h' } := I1.kept (t' := s1.toks) hk
      refine ⟨s1.heap.objs.size + 1, [s1.heap.objs.size + 1, s1.heap.objs.size], _, _, H1, rfl, I2, turn_enum a (s1.heap.objs.size + 1) s1.heap.objs.size, ⟨⟨.none, he⟩, hit, Nat.succ_ne_self _⟩, fun b hb => ?_, q⟩
      have e' : b = s1.heap.objs.size + 1 ∨ b = s1.heap.objs.size := by simpa using hb
      have hle : s1.heap.objs.size ≤ b := by
        rcases e' with z | z
        · rw [z]; exact Nat.le_succ _
        · rw [z]; exact Nat.le_refl _
      exact I1.fpOk hle (I1.hok.fresh hle)
    · obtain ⟨its, rv, p', hz⟩ := I1.tuple hq
      have hal : a < s1.heap.objs.size := p'.lt
      refine call_enumerate_tuple (show s1.heap.IsTuple a its.toArray from p') fun h' he hit hsz hk => wpAny_pyIter_enum he ?_
      have I2 : Inv X pins σ H1 { s1 with heap := h' } := I1.kept (t' := s1.toks) hk
      refine ⟨s1.heap.objs.size + 1, [s1.heap.objs.size + 1, s1.heap.objs.size], _, _, H1, rfl, I2, turn_enumT a (s1.heap.objs.size + 1) s1.heap.objs.size (Nat.ne_of_lt hal) (Nat.ne_of_gt (Nat.lt_succ_of_lt hal)), ⟨⟨.none, he⟩, hit, Nat.succ_ne_self _⟩, fun b hb => ?_, q⟩
      have e' : b = s1.heap.objs.size + 1 ∨ b = s1.heap.objs.size := by simpa using hb
      have hle : s1.heap.objs.size ≤ b := by
        rcases e' with z | z
        · rw [z]; exact Nat.le_succ _
        · rw [z]; exact Nat.le_refl _
      exact I1.fpOk hle (I1.hok.fresh hle)
theorem itR_enumT {g : Gam} {w : Wd} {a : Addr} {ds : List D} {vs : List V} (e : SqT g.K w.G a vs) (r : RepL g w ds vs) : ItR g w (Itet g.K a) (enumD 0 ds) := fun w2 H2 l x => by
  have q : SqT g.K H2 a vs := same_sqT (l.ex.trans x) e
  refine ⟨fun i d hd => ?_, ⟨vs, q, by rw [enumD_len, r.len]; exact Nat.le_refl _⟩⟩
  obtain ⟨d', hd', ed⟩ := enumD_at ds 0 i d hd
  obtain ⟨v, hv, rv⟩ := r.at_ hd'
  refine ⟨⟨vs, v, q, hv⟩, fun y H' hy => ?_⟩
  obtain ⟨T, x', e1, e2, e3, e4⟩ := hy
  have e5 := e4 vs q
  rw [hv] at e5
  cases e5
  rw [e1, e3, ed, Nat.zero_add]
  refine ⟨_, Grow.one e2 nt_tup, ?_⟩
  unfold Rep
  have le : w2.le ⟨w2.rho, upd w2.G T (.tup [.int (i : Nat), v])⟩ := ⟨⟨[], by simp⟩, same_upd (none_of_same x e2)⟩
  exact ⟨T, _, rfl, .inl (.inl upd_same), RepL.cons_ rep_int' (RepL.cons_ ((rv.mono l).mono le) RepL.nil_)⟩
def itES (m : MA) : MI := fun env S => (m env S).bind fun ds S1 => match ds with
  | [.lst ds] => .ok (enumD 0 ds) S1
  | [.tup ds] => .ok (enumD 0 ds) S1
  | _ => .stuck
theorem i_enumS {elts : List Expr} {kk : Nat} {tpos : Pos} (hm : X.mg "enumerate" = none) (ha : SA X Y W [e] t m) (hK : X.K = Y.K := by rfl) (hg : Gl X "enumerate" := by rfl) (hs : starEach [e] X.env = [(false, eval e X.env)] := by rfl) :
    SI X Y W (.Tuple elts kk tpos) (.Call (.Name "enumerate" p) [e] [] pos) (iEnumS Y.K t) (itES m) := ⟨hK ▸ pi_enumS hg hm ha.pa hs, fun w0 H0 w H σ env S O Q st p =>
  ha.sim w0 H0 w H σ env S O _ st ((PostX.bind p).imp fun ds S1 w1 H1 st1 l1 p1 vs r => by
    split at p1
    · rename_i ds
      obtain ⟨v, e1, e2⟩ := repL_one r
      obtain ⟨a, us, e3, e4, e5⟩ := rep_lst e2
      rw [e3] at e1
      exact ⟨a, us, e1, .inl ⟨.inl (.inl (st1.ok.ex _ _ e4)), p1 w1 H1 st1 (.refl w1) _ (itR_enum (g := Y) e4 e5)⟩⟩
    · rename_i ds
      obtain ⟨v, e1, e2⟩ := repL_one r
      obtain ⟨a, us, e3, e4, e5⟩ := rep_tup e2
      rw [e3] at e1
      exact ⟨a, us, e1, .inr ⟨same_sqT st1.ok.ex e4, p1 w1 H1 st1 (.refl w1) _ (itR_enumT (g := Y) e4 e5)⟩⟩
    · exact False.elim p1)⟩
theorem own_cell {g : Gam} {w0 w : Wd} {H0 H : Hp} {σ : L2.St} {env : Envr} {S : Sto} {O : List (Option Addr)} {cc : Cell} {q : Addr} (st : StR g w0 H0 w H σ env S O) (a : OwnAt g w H0 H O cc q) :
    StR g w0 H0 ⟨w.rho ++ [q], w.G⟩ H σ env (S ++ [cc]) O ∧ w.le ⟨w.rho ++ [q], w.G⟩ ∧ Rep g ⟨w.rho ++ [q], w.G⟩ (.ref S.length) (.ref q) := by
  have le : w.le ⟨w.rho ++ [q], w.G⟩ := ⟨⟨[q], rfl⟩, Same.refl _⟩
  refine ⟨⟨⟨st.ok.ex, ⟨fun i j b h1 h2 => ?_, ?_, fun k b d h1 h2 => ?_⟩, st.ok.tabs, st.ok.notab⟩, ⟨st.fr.le.trans le, st.fr.keep, st.fr.newG, fun b h => ?_, st.fr.dom, st.fr.tb, st.fr.fz⟩, st.l1, st.l2, fun i s x o e1 e2 e3 => ?_, st.inj, fun i b e => ?_⟩, le, ?_⟩
  · have h1 : (w.rho ++ [q])[i]? = some b := h1
    have h2 : (w.rho ++ [q])[j]? = some b := h2
    have one : ∀ k, ¬ k < w.rho.length → (w.rho ++ [q])[k]? = some b → b = q := fun k hk h => by
      rw [List.getElem?_append_right (by omega)] at h
      cases z : k - w.rho.length with
      | zero => rw [z] at h; simpa using h.symm
      | succ y => rw [z] at h; simp at h
    by_cases hi : i < w.rho.length
    · by_cases hj : j < w.rho.length
      · rw [List.getElem?_append_left hi] at h1
        rw [List.getElem?_append_left hj] at h2
        exact st.ok.cells.nd i j b h1 h2
      · rw [List.getElem?_append_left hi] at h1
        exact absurd (one j hj h2 ▸ List.mem_of_getElem? h1) a.nr
    · by_cases hj : j < w.rho.length
      · rw [List.getElem?_append_left hj] at h2
        exact absurd (one i hi h1 ▸ List.mem_of_getElem? h2) a.nr
      · have l1 := (List.getElem?_eq_some_iff.mp h1).1
        have l2 := (List.getElem?_eq_some_iff.mp h2).1
        simp only [List.length_append, List.length_cons, List.length_nil] at l1 l2
        omega
  · show (w.rho ++ [q]).length = (S ++ [cc]).length
    rw [List.length_append, List.length_append, st.ok.cells.len]
    rfl
  · have h1 : (w.rho ++ [q])[k]? = some b := h1
    by_cases hm : k < w.rho.length
    · rw [List.getElem?_append_left hm] at h1
      rw [List.getElem?_append_left (by rw [← st.ok.cells.len]; exact hm)] at h2
      obtain ⟨q1, q2⟩ := st.ok.cells.at_ k b d h1 h2
      exact ⟨q1, q2.move le rfl⟩
    · rw [List.getElem?_append_right (by omega)] at h1
      rw [List.getElem?_append_right (by rw [← st.ok.cells.len]; omega), ← st.ok.cells.len] at h2
      cases z : k - w.rho.length with
      | zero =>
        rw [z] at h1 h2
        have ea : q = b := by simpa using h1
        have eq' : cc = d := by simpa using h2
        subst ea eq'
        exact ⟨a.ng, a.at_.move le rfl⟩
      | succ y => rw [z] at h1; simp at h1
  · rcases List.mem_append.mp (show b ∈ w.rho ++ [q] from h) with z | z
    · exact st.fr.rho b z
    · have : b = q := by simpa using z
      rw [this]
      exact .inr a.n0
  · have q' := st.sl i s x o e1 e2 e3
    cases s with
    | no => exact q'
    | v d =>
      obtain ⟨z1, v, z2, z3⟩ := q'
      exact ⟨z1, v, z2, z3.mono le⟩
    | o c' =>
      obtain ⟨p', z1, z2, z3, z4⟩ := q'
      exact ⟨p', z1, z2, z3, z4.move le rfl⟩
  · obtain ⟨z1, z2, z3⟩ := st.fresh i b e
    refine ⟨z1, fun h => ?_, z3⟩
    rcases List.mem_append.mp (show b ∈ w.rho ++ [q] from h) with z | z
    · exact z2 z
    · have : b = q := by simpa using z
      exact a.no i (by rw [← this]; exact e)
  · unfold Rep
    refine ⟨q, ?_, rfl⟩
    show (w.rho ++ [q])[S.length]? = some q
    rw [← st.ok.cells.len]
    simp
def sCell (i : Nat) (mf : MF) : MS := fun env S => (mf env S).out env fun c S1 => .nx (env.set i (.v (.ref S1.length))) (S1 ++ [c])
theorem sim_cell {g : Gam} {i : Nat} (h : SimF g W te mf) : SimS g W (tAsg te (gName i)) (sCell i mf) := fun w0 H0 w H σ env S O Dn st p =>
  h w0 H0 w H σ env S O _ st ((PostS.out p).imp fun c S1 w1 H1 st1 l1 p1 q ow => by
    obtain ⟨st2, l2, r2⟩ := own_cell st1 ow
    exact p1 _ H1 _ _ (st2.set_v i r2) l2)
theorem t_cell {i : Nat} {x : Str} {pos' : Pos} (hN : X.N.Nodup) (hi : X.N[i]? = some x) (hx : Loc X.env.scope x) (he : SF X Y W e te mf) (hs : swapsWith e (some (.Name x pos')) pos.line X.env = pure false := by rfl) (hf : X.fn x = true ∨ X.env.scope.names.lookup x = some .local := by first | exact .inl rfl | exact .inr rfl | assumption) :
    SS X Y W (.Assign [.Name x pos'] e pos) (tAsg te (gName i)) (sCell i mf) := ⟨ps_set hN hi hx he.pe hs hf, sim_cell he.sim⟩
def frzAt (i : Nat) (env : Envr) : Envr := match env[i]? with
  | some (.o c) => env.set i (.v c.d)
  | _ => env
def sFrz (i : Nat) (m : MS) : MS := fun env S => m (frzAt i env) S
theorem set_get_self {α : Type} (l : List α) (i : Nat) (x : α) (h : l[i]? = some x) : l.set i x = l := by
  refine List.ext_getElem? fun k => ?_
  rw [List.getElem?_set]
  split
  · rename_i e
    subst e
    split
    · exact h.symm
    · rename_i hl
      rw [List.getElem?_eq_none_iff.mpr (by omega)] at h
      cases h
  · rfl
theorem StR.frz {g : Gam} {w0 w : Wd} {H0 H : Hp} {σ : L2.St} {env : Envr} {S : Sto} {O : List (Option Addr)} (st : StR g w0 H0 w H σ env S O) (i : Nat) : ∃ w' O', StR g w0 H0 w' H σ (frzAt i env) S O' ∧ w.le w' := by
  unfold frzAt
  split
  · rename_i c hs
    obtain ⟨q, e1, e2, e3, e4, e5, e6, hi⟩ := st.own_at hs
    have sl : ∀ (j : Nat) (z : Sl), (env.set i .no)[j]? = some z → (j = i ∧ z = .no) ∨ (j ≠ i ∧ env[j]? = some z) := fun j z h => by
      rw [List.getElem?_set] at h
      split at h
      · rename_i e
        split at h
        · exact .inl ⟨e.symm, (Option.some.inj h).symm⟩
        · cases h
      · rename_i e
        exact .inr ⟨Ne.symm e, h⟩
    have st1 : StR g w0 H0 w H σ (env.set i .no) S (O.set i none) := by
      refine ⟨st.ok, st.fr, by rw [List.length_set]; exact st.l1, by rw [List.length_set]; exact st.l2, fun j s x o h1 h2 h3 => ?_, fun j k r h1 h2 => ?_, fun j r h => ?_⟩
      · rcases sl j s h1 with ⟨z1, z2⟩ | ⟨z1, z2⟩
        · rw [z2]
          rw [List.getElem?_set, if_pos z1.symm] at h3
          split at h3
          · exact (Option.some.inj h3).symm
          · cases h3
        · rw [List.getElem?_set, if_neg (Ne.symm z1)] at h3
          exact st.sl j s x o z2 h2 h3
      · rw [List.getElem?_set] at h1 h2
        split at h1
        · split at h1 <;> cases h1
        · split at h2
          · split at h2 <;> cases h2
          · exact st.inj j k r h1 h2
      · rw [List.getElem?_set] at h
        split at h
        · split at h <;> cases h
        · rename_i hn
          obtain ⟨y1, y2, y3, y4⟩ := st.fresh j r h
          exact ⟨y1, y2, y3, by rw [List.getElem?_set, if_neg hn]; exact y4⟩
    have ow : OwnAt g w H0 H (O.set i none) c q := ⟨e5, e3, e6, fun j h => by
      rw [List.getElem?_set] at h
      split at h
      · split at h <;> cases h
      · rename_i hn
        exact hn (st.inj i j q e2 h), e4⟩
    obtain ⟨w2, st2, l2, r2⟩ := own_freeze st1 ow
    have st3 := st2.set_v i r2
    rw [List.set_set, List.set_set] at st3
    refine ⟨w2, O.set i none, ?_, l2⟩
    have es : σ.set i (some (.ref q)) = σ := set_get_self σ i _ e1
    rw [es] at st3
    exact st3
  · exact ⟨w, O, st, .refl w⟩
theorem sim_sfrz {g : Gam} {i : Nat} (h : SimS g W t1 m1) : SimS g W t1 (sFrz i m1) := fun w0 H0 w H σ env S O Dn st p => by
  obtain ⟨w', O', st', l'⟩ := st.frz i
  exact h w0 H0 w' H σ _ S O' Dn st' (PostS.mono p l')
theorem b_frz (i : Nat) (h : SB X Y W ss t1 m1) : SB X Y W ss t1 (sFrz i m1) := ⟨h.pss, sim_sfrz h.sim⟩
end
end Mm
namespace Mm
open PySem L2
section
variable {X : Cx} {Y : Gam} {W : WX} {e a b c tg iter elt o : Expr} {es rest ifs : List Expr} {ta tb te : TE} {tt tu : TT} {ma mb me : ME} {mt mu : MT} {mf : MF} {t : TA} {m : MA} {pos p apos : Pos} {s : Stmt} {ss : List Stmt} {t1 t2 : TS} {m1 m2 : MS} {wi : TI} {mi : MI} {x f : Str}
def eLenO (i : Nat) : ME := fun env S => match env[i]? with
  | some (.o (.lst ds)) => .ok (.int ds.length) S
  | _ => .stuck
theorem s_lenO (i : Nat) {x : Str} {p1 : Pos} (hm : X.mg "len" = none) (hK : X.K = Y.K := by rfl) (hN : X.N[i]? = some x := by rfl) (hv : Vis X.env.scope x := by first | exact Or.inl rfl | exact Or.inr (Or.inl rfl) | exact Or.inr (Or.inr rfl)) (hd : (x == ("__debug__" : Str)) = false := by decide)
    (hcd : (x == ("__classdict__" : Str)) = false := by decide) (hg : Gl X "len" := by rfl) (he : starEach [.Name x p1] X.env = (false, eval (.Name x p1) X.env) :: starEach [] X.env := by rfl) (hpl : (backTo pos (starEach [] X.env)).any (·.1) = false := by rfl) :
    SE X Y W (.Call (.Name "len" p) [.Name x p1] [] pos) (tCB (rLn Y.K) (tCons (tVar i) tNil)) (eLenO i) := ⟨hK ▸ pe_callB cr_len hg hm PySem.boot_len (pa_cons (pv i hN hv hd hcd) pa_nil he) (by decide) (by decide) he hpl, fun w0 H0 w H σ env S O Q st p => by
  unfold eLenO at p
  split at p
  · rename_i ds hs
    obtain ⟨q, e1, e2, e3, ⟨vs, e4, e4'⟩, e5, e6, hi⟩ := st.own_at hs
    exact ⟨.ref q, e1, .inl ⟨q, vs, rfl, .inl (.inl (.inl e4)), p w H st (.refl w) _ (by rw [e4'.len]; exact rep_int')⟩⟩
  · exact p.elim⟩
def eIxO (i : Nat) (mk : ME) : ME := fun env S => match env[i]? with
  | some (.o (.lst ds)) => (mk env S).bind fun k S1 => (match k with
    | .int k => opt (atI ds k) S1
    | _ => .stuck)
  | _ => .stuck
theorem get_list : PGet X (rIxL X.K) := by
  intro pins s σ H x y v u Q I rx ry h
  obtain ⟨p, xs, i, z, rfl, rfl, hq, he, q⟩ := h
  cases rx
  obtain ⟨t, rfl⟩ := ry
  obtain ⟨its, r, pl, hz⟩ := I.list hq
  obtain ⟨j, h1, h2, h3, h4, h5⟩ := atI_get he
  obtain ⟨w, ew, rw'⟩ := r.get h2
  have hl := r.length
  have hn := line63
  have fin : EP X pins σ Q w s := ⟨z, H, I, rw', q⟩
  by_cases h0 : 0 ≤ i
  · have hj : i.toNat = j := by
      rw [seqIndex_of h0 h5] at h1
      exact Option.some.inj h1
    exact wpAny_getItem_list pl.isList h0 (by omega) (by rw [hj]; simpa using ew) fin
  · have hj : (i + (its.toArray.size : Int)).toNat = j := by
      rw [seqIndex_neg (by omega) h4] at h1
      rw [List.size_toArray, ← hl]
      exact Option.some.inj h1
    exact wpAny_getItem_list_neg pl.isList (by omega) (by rw [List.size_toArray] <;> omega) (by omega) (by rw [hj]; simpa using ew) fin
def sAugC (mo mk : ME) (f : Int → Int → Int) (me : ME) : MS := fun env S => (mo env S).out env fun o S1 => (mk env S1).out env fun k S2 => match o, k with
  | .ref n, .int k => (match S2[n]? with
    | some (.lst ds) => (match atI ds k with
      | some (.int x) => (me env S2).out env fun d S3 => (match d, S3[n]? with
        | .int y, some (.lst ds') => (match ixN ds'.length k with
          | some j => .nx env (S3.set n (.lst (ds'.set j (.int (f x y)))))
          | none => .stuck)
        | _, _ => .stuck)
      | _ => .stuck)
    | _ => .stuck)
  | _, _ => .stuck
theorem t_augC {op : Operator} {f : Int → Int → Int} {p2 : Pos} (hp : PIp X op (ipI f)) (ho : SE X Y W o ta ma) (hk : SE X Y W b tb mb) (he : SE X Y W e te me) (hK : X.K = Y.K := by rfl)
    (ha : ∀ ov iv new, augStore b ov iv new = (do holding [new, ov, iv] (setItem ov iv new); release [new, ov, iv] []; pure .next) := by intros; rfl) :
    SS X Y W (.AugAssign (.Subscript o b p2) op e pos) (tAugS ta tb te (rIxL Y.K) (ipI f) rSetL) (sAugC ma mb f me) := ⟨hK ▸ ps_augS ho.pe hk.pe get_list he.pe hp set_list ha, fun w0 H0 w H σ env S O Dn st p =>
  ho.sim w0 H0 w H σ env S O _ st ((PostS.out p).imp fun od S1 w1 H1 st1 l1 p1 ov or => hk.sim w0 H0 w1 H1 σ env S1 O _ st1 ((PostS.out p1).imp fun k S2 w2 H2 st2 l2 p2 kv kr => by
    split at p2
    · rename_i n k
      split at p2
      · rename_i ds hS
        split at p2
        · rename_i x hx
          obtain ⟨q, us, x1, x2, x3, x4⟩ := cell_lst st2.ok (or.mono l2) hS
          obtain ⟨v, g1, g2⟩ := x4.atI_ hx
          refine ⟨q, us, k, v, x1, rep_int kr, .inl (.inl x3), g1, ?_⟩
          refine he.sim w0 H0 w2 H2 σ env S2 O _ st2 ((PostS.out p2).imp fun d S3 w3 H3 st3 l3 p3 dv dr => ?_)
          split at p3
          · rename_i y ds' hS3
            split at p3
            · rename_i j hj
              obtain ⟨q', us', y1, y2, y3, y4⟩ := cell_lst st3.ok (or.mono (l2.trans l3)) hS3
              refine ⟨x, y, rep_int g2, rep_int dr, q', us', k, j, y1, rep_int kr, y3, by rw [← y4.len]; exact hj, ?_⟩
              obtain ⟨k4, f4⟩ := ok_cell (c' := .lst (ds'.set j (.int (f x y)))) st3.ok y2 hS3 (o := .lst (us'.set j (.int (f x y)))) ⟨_, upd_same, y4.set_ rep_int' j⟩ nt_lst
              exact p3 w3 _ σ O (st3.after f4 k4) (.refl w3)
            · exact False.elim p3
          · exact False.elim p3
        · exact False.elim p2
      · exact False.elim p2
    · exact False.elim p2))⟩
variable {k n : Nat} {fa C : Addr} {fd : FuncData} {ps : List Str} {mfn : MFn} {ds : List Value}
theorem takesN {X : Cx} : L2N.Takes X (fun _ _ _ _ => False) := fun _ _ z => (show False by
  obtain ⟨_, _, _, _, _, _, _, _, _, _, _, _, _, _, _, _, q⟩ := z
  exact q).elim
def gU (b : MGs) : MG := fun d env => match d with
  | .lst ds => b ds env
  | _ => none
theorem g_unl {is : List Nat} {k : Nat} {tgs : TGs} {mgs : MGs} (h : SGs X Y is es tgs mgs) (hK : X.K = Y.K := by rfl) (hc : X.calm = true := by rfl) (hn : (assignEach es X.env).length = es.length := by rfl) (hst : (assignEach es X.env).findIdx? (·.1) = none := by rfl) : SG X Y is (.Tuple es k pos) (gUnl Y.K es.length tgs) (gU mgs) :=
  ⟨hK ▸ pg_unl hc h.pg hn hst, fun w0 H0 w H σ env S O d v Q e' st r h' q => by
    unfold gU at h'
    split at h'
    · rename_i ds
      obtain ⟨a, vs, e1, e2, e3⟩ := rep_lst r
      exact ⟨a, vs, e1, .inl (.inl (st.ok.ex _ _ e2)), by rw [← e3.len]; exact h.len ds env e' h', h.sim w0 H0 w H σ env S O ds vs Q e' st e3 h' q⟩
    · cases h'⟩
end
end Mm
namespace Mm
open PySem L2
section
variable (P : Program) (w : World) (K : PySem.W.Frag) (mg : Str → Option Value) (base : Heap) (Y : Gam)
def Kn (k : Nat) (x : Str) (n : Nat) (mf : MFn) (dvs : List V) (dd : List D) : Prop := ∃ f fd ps ds, FnOk P w K mg base (L2N.CX P w) k f fd ps (spOf Y n mf) ∧ mg x = some (.ref f) ∧ PySem.W.keepIn K (.ref f) = true ∧ Binds K fd ps ds ∧ Vals dvs ds ∧ ∀ w, RepL Y w dd dvs
def KnM (k : Nat) (c x : Str) (n : Nat) (mf : MFn) (dvs : List V) (dd : List D) : Prop := ∃ f fd ps ds, FnOk P w K mg base (L2N.CX P w) k f fd ps (spOf Y n mf) ∧ Cls K (Y.ca c) ∧ Meth K (Y.ca c) x f ∧ Binds K fd ps ds ∧ Vals dvs ds ∧ ∀ w, RepL Y w dd dvs
def KnC (k : Nat) (x : Str) (n : Nat) (mf : MFn) (dvs : List V) (dd : List D) : Prop := ∃ f fd ps ds, FnOk P w K mg base (L2N.CX P w) k f fd ps (spOf Y n mf) ∧ Mk K (Y.ca x) f ∧ mg x = some (.ref (Y.ca x)) ∧ Binds K fd ps ds ∧ Vals dvs ds ∧ ∀ w, RepL Y w dd dvs
end
structure KnX (K : PySem.W.Frag) (mg : Str → Option Value) (Y : Gam) (x : Str) : Prop where
  xP : PySem.W.excIn K (Y.ca x) [.type "ValueError", .type "Exception", .type "BaseException", .type "object"] "ValueError.__new__" = true
  gP : mg x = some (.ref (Y.ca x))
  kP : PySem.W.keepIn K (.ref (Y.ca x)) = true
  bP : PySem.W.subIn K (.ref (Y.ca x)) (.type "BaseException") = some true
  tP : PySem.W.typeIn K (.ref (Y.ca x)) = some (.type "type")
structure Bl (mg : Str → Option Value) : Prop where
  len : mg "len" = none
  range : mg "range" = none
  enumerate : mg "enumerate" = none
  zip : mg "zip" = none
  sorted : mg "sorted" = none
  sum : mg "sum" = none
  all : mg "all" = none
  any : mg "any" = none
  list : mg "list" = none
  tuple : mg "tuple" = none
  int : mg "int" = none
  isinstance : mg "isinstance" = none
  min : mg "min" = none
  max : mg "max" = none
  set : mg "set" = none
  abs : mg "abs" = none
  bool : mg "bool" = none
  str : mg "str" = none
  repr : mg "repr" = none
  dict : mg "dict" = none
section
variable {X : Cx} {Y : Gam} {W : WX} {e a b c tg iter elt o : Expr} {es rest ifs : List Expr} {ta tb te : TE} {tt tu : TT} {ma mb me : ME} {mt mu : MT} {mf : MF} {t : TA} {m : MA} {pos p apos : Pos} {s : Stmt} {ss : List Stmt} {t1 t2 : TS} {m1 m2 : MS} {wi : TI} {mi : MI} {x f : Str}
variable {k n : Nat} {mfn : MFn} {dvs : List V} {dd : List D}
theorem u_call (h : Kn X.prog X.w X.K X.mg X.base Y k x n mfn dvs dd) (hr : Room k X.A) (tk : L2N.Takes X W)
    (ha : SA X Y W (e :: es) t m) (hn : (e :: es).length + dd.length = n := by rfl) (hg : Gl X x := by rfl) (hdb : (x == ("__debug__" : Str)) = false := by decide) (he : starEach (e :: es) X.env = (false, eval e X.env) :: starEach es X.env := by rfl) (hpl : (backTo pos (starEach es X.env)).any (·.1) = false := by rfl) :
    SE X Y W (.Call (.Name x p) (e :: es) [] pos) (tCallSD (spOf Y n mfn) dvs (WE W) t) (eCall mfn dd m) := by
  obtain ⟨f, fd, ps, ds, F, hm, hk, hb, hd, hdv⟩ := h
  exact s_call F hr hm hk hb hd hdv tk ha hn hg hdb he hpl
theorem v_call (h : Kn X.prog X.w X.K X.mg X.base Y k x n mfn dvs dd) (hr : Room k X.A) (tk : L2N.Takes X W)
    (ha : SA X Y W (e :: es) t m) (hn : (e :: es).length + dd.length = n := by rfl) (hg : Gl X x := by rfl) (hdb : (x == ("__debug__" : Str)) = false := by decide) (he : starEach (e :: es) X.env = (false, eval e X.env) :: starEach es X.env := by rfl) (hpl : (backTo pos (starEach es X.env)).any (·.1) = false := by rfl) :
    SF X Y W (.Call (.Name x p) (e :: es) [] pos) (tCallSD (spOf Y n mfn) dvs (WE W) t) (fCall mfn dd m) := by
  obtain ⟨f, fd, ps, ds, F, hm, hk, hb, hd, hdv⟩ := h
  exact f_call F hr hm hk hb hd hdv tk ha hn hg hdb he hpl
theorem u_meth (c : Str) {pl : Sem Bool} (h : KnM X.prog X.w X.K X.mg X.base Y k c x n mfn dvs dd) (hr : Room k X.A) (tk : L2N.Takes X W) (ho : SE X Y W o ta ma)
    (ha : SA X Y W (e :: es) t m) (hn : (e :: es).length + dd.length + 1 = n := by rfl) (hst : starEach (e :: es) X.env = (false, eval e X.env) :: starEach es X.env := by rfl) (hpl : (backTo pos (starEach es X.env)).any (·.1) = false := by rfl)
    (ht : eval (.Call (.Attribute o x apos) (e :: es) [] pos) X.env = (do
      let ov ← eval o X.env
      standAt apos.atName
      let (f, first) ← holding [ov] (getMethod ov x pl)
      callWith pos f first (backTo pos (starEach (e :: es) X.env)) (backToKw pos (keywordEach [] X.env))) := by rfl) :
    SE X Y W (.Call (.Attribute o x apos) (e :: es) [] pos) (tMethS (Y.ca c) x (spOf Y n mfn) dvs (WE W) ta t) (eMeth c x mfn dd ma m) := by
  obtain ⟨f, fd, ps, ds, F, hC, hm, hb, hd, hdv⟩ := h
  exact s_meth c ho hC hm F hr hb hd hdv tk ha hn hst hpl ht
theorem u_meth0 (c : Str) {pl : Sem Bool} (h : KnM X.prog X.w X.K X.mg X.base Y k c x n mfn dvs dd) (hr : Room k X.A) (tk : L2N.Takes X W) (ho : SE X Y W o ta ma)
    (hn : dd.length + 1 = n := by rfl)
    (ht : eval (.Call (.Attribute o x apos) [] [] pos) X.env = (do
      let ov ← eval o X.env
      standAt apos.atName
      let (f, first) ← holding [ov] (getMethod ov x pl)
      callWith pos f first (backTo pos (starEach [] X.env)) (backToKw pos (keywordEach [] X.env))) := by rfl) :
    SE X Y W (.Call (.Attribute o x apos) [] [] pos) (tMethS (Y.ca c) x (spOf Y n mfn) dvs (WE W) ta tNil) (eMeth c x mfn dd ma aNil) := by
  obtain ⟨f, fd, ps, ds, F, hC, hm, hb, hd, hdv⟩ := h
  exact s_meth0 c ho hC hm F hr hb hd hdv tk hn ht
theorem u_new (h : KnC X.prog X.w X.K X.mg X.base Y k x n mfn dvs dd) (hr : Room (k + 1) X.A) (tk : L2N.Takes X W)
    (ha : SA X Y W (e :: es) t m) (hn : (e :: es).length + dd.length + 1 = n := by rfl) (hg : Gl X x := by rfl) (hdb : (x == ("__debug__" : Str)) = false := by decide) (he : starEach (e :: es) X.env = (false, eval e X.env) :: starEach es X.env := by rfl) (hpl : (backTo pos (starEach es X.env)).any (·.1) = false := by rfl) :
    SE X Y W (.Call (.Name x p) (e :: es) [] pos) (tMakeS (Y.ca x) (spOf Y n mfn) dvs (WE W) t) (eNew x mfn dd m) := by
  obtain ⟨f, fd, ps, ds, F, M, hm, hb, hd, hdv⟩ := h
  exact s_new M F hr hm hb hd hdv tk ha hn hg hdb he hpl
theorem u_int {x : Str} {i : Int} (hm : ∃ u, X.mg x = some (.int i u)) (hg : Gl X x := by rfl) (hd : (x == ("__debug__" : Str)) = false := by decide) : SE X Y W (.Name x pos) (tC (.int i)) (eC (.int i)) := by
  obtain ⟨u, hm⟩ := hm
  exact s_gint hm hg hd
theorem u_raise {x : Str} {pos' : Pos} (h : KnX X.K X.mg Y x) (tk : L2N.Takes X W) (hc : X.calm = true := by rfl) (hg : Gl X x := by rfl) (hdb : (x == ("__debug__" : Str)) = false := by decide) :
    SS X Y W (.Raise (some (.Call (.Name x p) [] [] pos)) none pos') (fun _ σ H => W (.ref (Y.ca x)) none σ H) (sRaise x) := t_raise h.xP h.gP h.kP h.bP h.tP tk hc hg hdb
theorem u_set (i : Nat) {x : Str} {pos' : Pos} (he : SE X Y W e te me) (hN : X.N.Nodup) (hi : X.N[i]? = some x := by rfl) (hx : Loc X.env.scope x := by first | exact Or.inl rfl | exact Or.inr rfl) (hs : swapsWith e (some (.Name x pos')) pos.line X.env = pure false := by rfl) (hf : X.fn x = true ∨ X.env.scope.names.lookup x = some .local := by first | exact .inl rfl | exact .inr rfl | assumption) :
    SS X Y W (.Assign [.Name x pos'] e pos) (tAsg te (gName i)) (sAsg me (gN i)) := t_set hN hi hx he hs hf
theorem u_own (i : Nat) {x : Str} {pos' : Pos} (he : SF X Y W e te mf) (hN : X.N.Nodup) (hi : X.N[i]? = some x := by rfl) (hx : Loc X.env.scope x := by first | exact Or.inl rfl | exact Or.inr rfl) (hs : swapsWith e (some (.Name x pos')) pos.line X.env = pure false := by rfl) (hf : X.fn x = true ∨ X.env.scope.names.lookup x = some .local := by first | exact .inl rfl | exact .inr rfl | assumption) :
    SS X Y W (.Assign [.Name x pos'] e pos) (tAsg te (gName i)) (sOwn i mf) := t_own hN hi hx he hs hf
theorem u_cell (i : Nat) {x : Str} {pos' : Pos} (he : SF X Y W e te mf) (hN : X.N.Nodup) (hi : X.N[i]? = some x := by rfl) (hx : Loc X.env.scope x := by first | exact Or.inl rfl | exact Or.inr rfl) (hs : swapsWith e (some (.Name x pos')) pos.line X.env = pure false := by rfl) (hf : X.fn x = true ∨ X.env.scope.names.lookup x = some .local := by first | exact .inl rfl | exact .inr rfl | assumption) :
    SS X Y W (.Assign [.Name x pos'] e pos) (tAsg te (gName i)) (sCell i mf) := t_cell hN hi hx he hs hf
theorem u_g (i : Nat) {x : Str} (hN : X.N.Nodup) (hi : X.N[i]? = some x := by rfl) (hx : Loc X.env.scope x := by first | exact Or.inl rfl | exact Or.inr rfl) (hf : X.fn x = true ∨ X.env.scope.names.lookup x = some .local := by first | exact .inl rfl | exact .inr rfl | assumption) : SG X Y [i] (.Name x pos) (gName i) (gN i) := g_name hN hi hx hf
theorem u_aug (i : Nat) {x : Str} {op : Operator} {f : Int → Int → Int} {pos' : Pos} (ho : PIp X op (ipI f)) (he : SE X Y W e te me) (hN : X.N.Nodup) (hi : X.N[i]? = some x := by rfl) (hx : Loc X.env.scope x := by first | exact Or.inl rfl | exact Or.inr rfl) (hf : X.fn x = true ∨ X.env.scope.names.lookup x = some .local := by first | exact .inl rfl | exact .inr rfl | assumption) :
    SS X Y W (.AugAssign (.Name x pos') op e pos) (tAug i te (ipI f)) (sAug i f me) := t_aug hN hi hx ho he hf
def eLenA (i : Nat) : ME := fun env S => match env[i]? with
  | some (.o (.lst ds)) => .ok (.int ds.length) S
  | some (.v d) => opt (fLen S [d]) S
  | _ => .stuck
theorem u_lenA (i : Nat) {x : Str} {p1 : Pos} (hm : X.mg "len" = none) (hK : X.K = Y.K := by rfl) (hN : X.N[i]? = some x := by rfl) (hv : Vis X.env.scope x := by first | exact Or.inl rfl | exact Or.inr (Or.inl rfl) | exact Or.inr (Or.inr rfl)) (hd : (x == ("__debug__" : Str)) = false := by decide)
    (hcd : (x == ("__classdict__" : Str)) = false := by decide) (hg : Gl X "len" := by rfl) (he : starEach [.Name x p1] X.env = (false, eval (.Name x p1) X.env) :: starEach [] X.env := by rfl) (hpl : (backTo pos (starEach [] X.env)).any (·.1) = false := by rfl) :
    SE X Y W (.Call (.Name "len" p) [.Name x p1] [] pos) (tCB (rLn Y.K) (tCons (tVar i) tNil)) (eLenA i) := ⟨(s_lenO (Y := Y) (W := W) i hm hK hN hv hd hcd hg he hpl).pe, fun w0 H0 w H σ env S O Q st pp => by
  unfold eLenA at pp
  split at pp
  · rename_i ds hs
    exact (s_lenO (X := X) (Y := Y) (W := W) (p := p) i hm hK hN hv hd hcd hg he hpl).sim w0 H0 w H σ env S O Q st (by
      unfold eLenO
      rw [hs]
      exact pp)
  · rename_i d hs
    exact sim_cb (g := Y) (cd_len (g := Y)) ((a_cons (Y := Y) (W := W) (sv i (X := X) hN hv hd hcd) a_nil he).sim) w0 H0 w H σ env S O Q st (by
      unfold eCB aCons aNil eV
      rw [hs]
      exact pp)
  · exact pp.elim⟩
def eIxA (i : Nat) (mk : ME) : ME := fun env S => match env[i]? with
  | some (.o (.lst ds)) => (mk env S).bind fun k S1 => (match k with
    | .int k => opt (atI ds k) S1
    | _ => .stuck)
  | some (.v d) => (mk env S).bind fun k S1 => opt (fIx S1 d k) S1
  | _ => .stuck
theorem u_ixA (i : Nat) {x : Str} {p1 : Pos} (hk : SE X Y W a ta ma) (hs : PlainIx a) (hK : X.K = Y.K := by rfl) (hN : X.N[i]? = some x := by rfl) (hv : Vis X.env.scope x := by first | exact Or.inl rfl | exact Or.inr (Or.inl rfl) | exact Or.inr (Or.inr rfl)) (hd : (x == ("__debug__" : Str)) = false := by decide)
    (hcd : (x == ("__classdict__" : Str)) = false := by decide) : SE X Y W (.Subscript (.Name x p1) a pos) (tOp (fun x y H Q => rIxL Y.K x y H Q ∨ rIxT Y.K x y H Q) (tVar i) ta) (eIxA i ma) := ⟨hK ▸ pe_ix ix_lt (pv i hN hv hd hcd) hk.pe hs, fun w0 H0 w H σ env S O Q st p => by
  unfold eIxA at p
  split at p
  · rename_i ds hs
    obtain ⟨q, e1, e2, e3, e4, e5, e6, hi⟩ := st.own_at hs
    refine ⟨.ref q, e1, ?_⟩
    refine hk.sim w0 H0 w H σ env S O _ st ((PostX.bind p).imp fun k S1 w1 H1 st1 l1 p1 kv kr => ?_)
    split at p1
    · rename_i k
      obtain ⟨d, e, kk⟩ := PostX.opt_ p1 st1
      obtain ⟨q', f1, f2, f3, ⟨us, f4, f4'⟩, f5, f6, _⟩ := st1.own_at hs
      rw [e2] at f2
      cases f2
      obtain ⟨v, g1, g2⟩ := f4'.atI_ e
      exact .inl ⟨q, us, k, v, rfl, rep_int kr, .inl (.inl f4), g1, kk w1 H1 st1 (.refl w1) v g2⟩
    · exact False.elim p1
  · rename_i d hs
    exact sim_op (g := Y) (od_ix (g := Y)) ((sv i (X := X) (Y := Y) (W := W) (pos := p1) hN hv hd hcd).sim) hk.sim w0 H0 w H σ env S O Q st (by
      unfold eOp eV
      rw [hs]
      exact p)
  · exact p.elim⟩
end
section
variable {P : Program} {w : World} {K : PySem.W.Frag} {mg : Str → Option Value} {base : Heap} {Y : Gam}
abbrev FnP (K : PySem.W.Frag) (x qual : Str) (st : Stmt) (dvs : List V) (f : Addr) (fd : FuncData) : Prop := FunD K x qual (defArgs st) (defBody st) (defScope st) dvs [] f fd
theorem kn_of {k n : Nat} {x : Str} {st : Stmt} {f : Addr} {fd : FuncData} {ps : List Str} {mf : MFn} (F : FnP K x x st [] f fd) (g : mg x = some (.ref f)) (b : Binds K fd ps []) (h : FnOk P w K mg base (L2N.CX P w) k f fd ps (spOf Y n mf)) : Kn P w K mg base Y k x n mf [] [] :=
  ⟨f, fd, ps, [], h, g, F.kp, b, .nil, fun _ => RepL.nil_⟩
theorem knM_of {k n : Nat} {c x qual : Str} {st : Stmt} {f : Addr} {fd : FuncData} {ps : List Str} {mf : MFn} (F : FnP K x qual st [] f fd) (C : Cls K (Y.ca c)) (M : Meth K (Y.ca c) x f) (b : Binds K fd ps []) (h : FnOk P w K mg base (L2N.CX P w) k f fd ps (spOf Y n mf)) : KnM P w K mg base Y k c x n mf [] [] :=
  ⟨f, fd, ps, [], h, C, M, b, .nil, fun _ => RepL.nil_⟩
theorem knC_of {k n : Nat} {x qual : Str} {st : Stmt} {f : Addr} {fd : FuncData} {ps : List Str} {mf : MFn} (F : FnP K "__init__" qual st [] f fd) (M : Mk K (Y.ca x) f) (g : mg x = some (.ref (Y.ca x))) (b : Binds K fd ps []) (h : FnOk P w K mg base (L2N.CX P w) k f fd ps (spOf Y n mf)) : KnC P w K mg base Y k x n mf [] [] :=
  ⟨f, fd, ps, [], h, M, g, b, .nil, fun _ => RepL.nil_⟩
end
end Mm
namespace Mm
open PySem L2
abbrev GY (K : PySem.W.Frag) (ca : Str → Addr) (T : List (Addr × Str)) : Gam := ⟨K, ca, T⟩
end Mm
namespace Mm
open PySem L2
noncomputable def plainH (H : Hp) : Hp := fun a => match H a with
  | some (.tbl _) => none
  | o => o
theorem plainH_same (H : Hp) : Same (plainH H) H := fun a o h => by
  unfold plainH at h
  split at h
  · cases h
  · exact h
theorem plainH_notab (H : Hp) (a : Addr) (ps : Array Value) : plainH H a ≠ some (.tbl ps) := fun h => by
  unfold plainH at h
  split at h
  · cases h
  · rename_i z
    exact z ps h
theorem plainH_of {H : Hp} {a : Addr} {o : HO} (h : H a = some o) (n : ∀ ps, o ≠ .tbl ps) : plainH H a = some o := by
  unfold plainH
  rw [h]
  split
  · rename_i q z
    exact absurd (Option.some.inj z) (n _)
  · rfl
theorem plainH_sql {K : PySem.W.Frag} {H : Hp} {a : Addr} {xs : List V} (h : SqL K H a xs) : SqL K (plainH H) a xs := by
  rcases h with (h | ⟨o, h⟩) | h
  · exact .inl (.inl (plainH_of h fun _ z => by cases z))
  · exact .inl (.inr ⟨o, plainH_of h fun _ z => by cases z⟩)
  · exact .inr h
theorem law_sp {K : PySem.W.Frag} {ca : Str → Addr} {T : List (Addr × Str)} {H : Hp} {a : Addr} {ns : List Int} {m : MFn} {S : Sto} (hT : ∀ p ∈ T, H p.1 = some (.tbl #[]))
    (hS : SqL K H a (ns.map V.int)) (hm : m [.scr ns] [] = .ok (.val (.bl true)) S) : spOf (GY K ca T) 1 m [.ref a] H (fun v _ => v = .bl true) fun _ _ _ => False := by
  refine ⟨rfl, ⟨[], plainH H⟩, [.scr ns], [], ⟨plainH_same H, ⟨fun i j b h _ => by simp at h, rfl, fun n b c h _ => by simp at h⟩, fun p hp => LamX.TabS.nil (hT p hp), plainH_notab H⟩, RepL.cons_ ?_ RepL.nil_, ?_⟩
  · unfold Rep
    exact ⟨a, rfl, plainH_sql hS⟩
  · rw [hm]
    intro w' H' v _ _ r
    exact rep_bl (g := GY K ca T) (w := w') r
theorem exAt {es : List (PySem.W.Frag → Bool)} {K : PySem.W.Frag} (h : (es.all fun f => f K) = true) (i : Nat) {f : PySem.W.Frag → Bool} (e : es[i]? = some f) : f K = true := List.all_eq_true.mp h f (List.mem_of_getElem? e)
theorem cx_none (P : Program) (w : World) (H : Hp) (s : Shared) (e : Value) (s' : Shared) (h : L2N.CX P w [] H s (fun _ _ _ => False) e s') : False := by
  obtain ⟨_, _, _, _, _, _, _, _, _, _, _, _, z⟩ := h
  exact z
def blFa : List He.Fa := [.free "len", .free "range", .free "enumerate", .free "zip", .free "sorted", .free "sum", .free "all", .free "any", .free "list", .free "tuple", .free "int", .free "isinstance", .free "min", .free "max", .free "set", .free "abs", .free "bool", .free "str", .free "repr", .free "dict"]
theorem bl_of {K : PySem.W.Frag} {h : Heap} {mg : Str → Option Value} (X : K.In h) (G : h.Ns mainGlobals mg) (c : ∀ f ∈ blFa, f.ok K = true) : Bl mg := by
  have g : ∀ x : Str, He.Fa.free x ∈ blFa → mg x = none := fun x hx => He.free_ok X G (c _ hx)
  constructor <;> exact g _ (by simp [blFa])
theorem knX_of {K : PySem.W.Frag} {h : Heap} {mg : Str → Option Value} {T : List (Addr × Str)} (X : K.In h) (G : h.Ns mainGlobals mg) {x : Str} (c1 : (He.Fa.glo x).ok K = true) (c2 : (He.Fa.exc x).ok K = true) : KnX K mg (GY K (He.ga K) T) x := by
  obtain ⟨e1, e2, e3, e4⟩ := He.exc_ok c2
  exact ⟨e1, He.glo_ok X G c1, e2, e3, e4⟩
end Mm
namespace Mm
open PySem PySem.Spec PyProof.Rows L2
section
variable {X : Cx} {Y : Gam} {W : WX} {e a b c tg iter elt l : Expr} {es rest ifs : List Expr} {ta tb te tl : TE} {tt tu : TT} {ma mb me ml : ME} {mt mu : MT} {mf : MF} {t : TA} {m : MA} {pos p tpos : Pos} {s : Stmt} {ss : List Stmt} {t1 t2 : TS} {m1 m2 : MS} {wi : TI} {mi : MI} {x : Str}
def sExt (i : Nat) (me : ME) : MS := fun env S => match env[i]? with
  | some (.o (.lst xs)) => (me env S).out env fun d S1 => (match d with
    | .lst ys => if szB (xs.length + ys.length) then .nx (env.set i (.o (.lst (xs ++ ys)))) S1 else .stuck
    | _ => .stuck)
  | _ => .stuck
variable {scope : Scope} {own : List (Str × Nat)} {is : List Nat} {tgs : TGs} {mgs : MGs} {k : Nat}
end
end Mm
namespace Mm
open PySem PySem.Spec PyProof.Rows L2
section
variable {X : Cx} {pins : List (Addr × Obj)} {σ : L2.St} {H : Hp} {s : Shared}
abbrev lamO (X : Cx) (params : Arguments) (body : Expr) (scope : Scope) (pm : Value) (c' : Addr) (ctv : Value) : Obj := PySem.W.kla_obj "<lambda>" (X.env.qual ++ "<lambda>") params body scope (cloFrom X.env.cells scope.names []) pm c' ctv
end
end Mm
namespace Mm
open PySem L2
section
variable {X : Cx} {Y : Gam} {W : WX} {e a b c tg iter elt l : Expr} {es rest ifs : List Expr} {ta tb tc te tl : TE} {tt tu : TT} {ma mb mc me ml : ME} {mt mu : MT} {mf : MF} {t : TA} {m : MA} {pos p tpos : Pos} {s : Stmt} {ss : List Stmt} {t1 t2 : TS} {m1 m2 : MS} {wi : TI} {mi : MI} {x : Str}
theorem s_bty {n : String} (hm : X.mg x = none) (hv : bootBuiltins x = some (.type n)) (hg : Gl X x := by rfl) (hn : x ≠ "__name__" := by decide) (hd : (x == ("__debug__" : Str)) = false := by decide) : SE X Y W (.Name x pos) (tC (.ty n)) (eC (.ty n)) :=
  ⟨pe_bltn hg hm hv rfl hn hd, sim_c fun _ => by unfold Rep; rfl⟩
def D.tyN : D → Option String
  | .non => some "NoneType"
  | .bl _ => some "bool"
  | .int _ => some "int"
  | .str _ => some "str"
  | .lst _ => some "list"
  | .tup _ => some "tuple"
  | _ => none
theorem sqT_ty {K : PySem.W.Frag} {H : Hp} {a : Addr} {xs : List V} (h : SqT K H a xs) : TyX K H (.ref a) (.type "tuple") := by
  rcases h with (h | ⟨o, h⟩) | h
  · exact .base (.tup h)
  · exact .fTuple h
  · obtain ⟨o, its, n, e1, e2, _⟩ := h
    exact .kTuple e1 e2
theorem rep_ty {g : Gam} {w : Wd} {H : Hp} {d : D} {v : V} {n : String} (ex : Same w.G H) (r : Rep g w d v) (h : d.tyN = some n) : TyX g.K H v (.type n) := by
  cases d with
  | non => cases h; rw [rep_non r]; exact .base .non
  | bl b => cases h; rw [rep_bl r]; exact .base (.bl b)
  | int b => cases h; rw [rep_int r]; exact .base (.int b)
  | str b => cases h; rw [rep_str r]; exact .base (.str b)
  | lst ds =>
    cases h
    obtain ⟨a, vs, e1, e2, _⟩ := rep_lst r
    rw [e1]
    exact .base (.lst (ex _ _ e2))
  | tup ds =>
    cases h
    obtain ⟨a, vs, e1, e2, _⟩ := rep_tup r
    rw [e1]
    exact sqT_ty (same_sqT ex e2)
  | _ => cases h
def fIsi : Sto → List D → Option D
  | _, [d, .ty n] => match d.tyN with
    | some t => (kitB t n).map D.bl
    | none => none
  | _, _ => none
theorem cd_isi {g : Gam} : CallD g (rIsi g.K) fIsi := fun w H S ds vs d Q k r e q => by
  unfold fIsi at e
  split at e
  · rename_i d1 n
    cases z : d1.tyN with
    | none => rw [z] at e; cases e
    | some tn =>
      rw [z] at e
      cases y : kitB tn n with
      | none => simp [y] at e
      | some b =>
        simp [y] at e
        subst e
        obtain ⟨v1, v2, e1, r1, r2⟩ := repL_two r
        unfold Rep at r2
        exact ⟨v1, .ty n, .type tn, .type n, b, by rw [e1, r2], .ty n, rep_ty k.ex r1 z, kit_ty y, q w H _ .refl rep_bl'⟩
  · cases e
def tysOf : List D → Option (List String)
  | [] => some []
  | .ty n :: ds => (tysOf ds).map (n :: ·)
  | _ => none
def kitL (t : String) : List String → Option Bool
  | [] => some false
  | n :: ns => match kitB t n with
    | some true => some true
    | some false => kitL t ns
    | none => none
theorem kitL_ok {K : PySem.W.Frag} {t : String} : ∀ {ns : List String} {b : Bool}, kitL t ns = some b → PySem.W.kitAny K (.type t) (ns.map Value.type) = some b
  | [], b, h => by
    cases h
    exact kitAny_nil
  | n :: ns, b, h => by
    unfold kitL at h
    cases z : kitB t n with
    | none => rw [z] at h; cases h
    | some y =>
      rw [z] at h
      cases y with
      | true =>
        cases h
        exact kitAny_cons (kit_ty z) (fun q => Bool.noConfusion q) (fun _ => rfl)
      | false => exact kitAny_cons (kit_ty z) (fun _ => kitL_ok h) (fun q => Bool.noConfusion q)
theorem tysOf_rep {g : Gam} {w : Wd} : ∀ {ds : List D} {ns : List String} {vs : List V}, tysOf ds = some ns → RepL g w ds vs → Paired ClsV vs (ns.map Value.type)
  | [], ns, vs, h, r => by
    cases h
    unfold RepL at r
    rw [r]
    exact .nil
  | d :: ds, ns, vs, h, r => by
    cases d with
    | ty n =>
      unfold tysOf at h
      cases q : tysOf ds with
      | none => rw [q] at h; cases h
      | some ns' =>
        rw [q] at h
        cases h
        unfold RepL at r
        obtain ⟨v, r', e1, a, b⟩ := r
        unfold Rep at a
        rw [e1, a]
        exact .cons (.ty n) (tysOf_rep q b)
    | _ => unfold tysOf at h; cases h
def eIsT (me : ME) (m : MA) : ME := fun env S => (me env S).bind fun d S1 => (m env S1).bind fun ds S2 => match d.tyN, tysOf ds with
  | some t, some ns => if szB ds.length then opt ((kitL t ns).map D.bl) S2 else .stuck
  | _, _ => .stuck
theorem s_isT {k : Nat} {p2 : Pos} (hm : X.mg "isinstance" = none) (he : SE X Y W e te me) (ha : SA X Y W es t m) (hK : X.K = Y.K := by rfl) (hg : Gl X "isinstance" := by rfl) (hs : starEach [e, .Tuple es k p2] X.env = (false, eval e X.env) :: starEach [.Tuple es k p2] X.env := by rfl)
    (hs2 : starEach [.Tuple es k p2] X.env = (false, eval (.Tuple es k p2) X.env) :: starEach [] X.env := by rfl) (hpl : (backTo pos (starEach [.Tuple es k p2] X.env)).any (·.1) = false := by rfl) :
    SE X Y W (.Call (.Name "isinstance" p) [e, .Tuple es k p2] [] pos) (tCB (rIsiT Y.K) (tCons te (tCons (tTup t) tNil))) (eIsT me m) :=
  ⟨hK ▸ pe_callB call_isiT hg hm (by decide +kernel : bootBuiltins "isinstance" = some (.builtin "isinstance")) (pa_cons he.pe (pa_cons (pe_tup ha.pa) pa_nil hs2) hs) (by decide) (by decide) hs hpl, fun w0 H0 w H σ env S O Q st pq =>
  he.sim w0 H0 w H σ env S O _ st ((PostX.bind pq).imp fun d S1 w1 H1 st1 l1 p1 v r => ha.sim w0 H0 w1 H1 σ env S1 O _ st1 ((PostX.bind p1).imp fun ds S2 w2 H2 st2 l2 p2 vs rs => by
    cases z1 : d.tyN with
    | none => rw [z1] at p2; exact False.elim p2
    | some tn =>
      cases z2 : tysOf ds with
      | none => rw [z1, z2] at p2; exact False.elim p2
      | some ns =>
        simp only [z1, z2] at p2
        split at p2
        · rename_i hz
          cases z3 : kitL tn ns with
          | none => rw [z3] at p2; exact False.elim p2
          | some b =>
            rw [z3] at p2
            refine ⟨by rw [← rs.len]; exact szB_le hz, fun q hq => ?_⟩
            have G := Grow.one (w := w2) (o := .tup vs) hq nt_tup
            refine ⟨v, q, vs, .type tn, ns.map Value.type, b, rfl, upd_same, tysOf_rep z2 rs, rep_ty (st2.ok.ex.trans (same_upd hq)) (r.mono l2) z1, kitL_ok z3, ?_⟩
            exact p2 _ _ (st2.grow G) (G.le st2.ok) _ rep_bl'
        · exact False.elim p2))⟩
theorem itR_zipT {g : Gam} {w : Wd} {a b : Addr} {ds es : List D} {vs us : List V} (e : SqT g.K w.G a vs) (r : RepL g w ds vs) (e' : SqT g.K w.G b us) (r' : RepL g w es us) : ItR g w (RZ.ItzT g.K a b) (zipD ds es) := fun w2 H2 l x => by
  have q : SqT g.K H2 a vs := same_sqT (l.ex.trans x) e
  have q' : SqT g.K H2 b us := same_sqT (l.ex.trans x) e'
  refine ⟨fun i d hd => ?_, ⟨vs, us, q, q', by rw [zipD_len, r.len, r'.len]; omega⟩⟩
  obtain ⟨d1, d2, h1, h2, ed⟩ := zipD_at ds es i d hd
  obtain ⟨v, hv, rv⟩ := r.at_ h1
  obtain ⟨u, hu, ru⟩ := r'.at_ h2
  refine ⟨⟨vs, us, v, u, q, q', hv, hu⟩, fun y H' hy => ?_⟩
  obtain ⟨T, x', y', e1, e2, e3, e4, e5⟩ := hy
  have e6 := e4 vs q
  have e7 := e5 us q'
  rw [hv] at e6
  rw [hu] at e7
  cases e6
  cases e7
  rw [e1, e3, ed]
  refine ⟨_, Grow.one e2 nt_tup, ?_⟩
  unfold Rep
  have le : w2.le ⟨w2.rho, upd w2.G T (.tup [v, u])⟩ := ⟨⟨[], by simp⟩, same_upd (none_of_same x e2)⟩
  exact ⟨T, _, rfl, .inl (.inl upd_same), RepL.cons_ ((rv.mono l).mono le) (RepL.cons_ ((ru.mono l).mono le) RepL.nil_)⟩
def itZA (m : MA) : MI := fun env S => (m env S).bind fun ds S1 => match ds with
  | [.lst xs, .lst ys] => .ok (zipD xs ys) S1
  | [.tup xs, .tup ys] => .ok (zipD xs ys) S1
  | _ => .stuck
theorem i_zipA {e2 : Expr} {elts : List Expr} {kk : Nat} (hm : X.mg "zip" = none) (ha : SA X Y W [e, e2] t m) (hK : X.K = Y.K := by rfl) (hg : Gl X "zip" := by rfl) (hs : starEach [e, e2] X.env = (false, eval e X.env) :: starEach [e2] X.env := by rfl) (hpl : (backTo pos (starEach [e2] X.env)).any (·.1) = false := by rfl) :
    SI X Y W (.Tuple elts kk tpos) (.Call (.Name "zip" p) [e, e2] [] pos) (RZ.iZipA Y.K t) (itZA m) := ⟨hK ▸ RZ.pi_zipA hg hm ha.pa hs hpl, fun w0 H0 w H σ env S O Q st p =>
  ha.sim w0 H0 w H σ env S O _ st ((PostX.bind p).imp fun ds S1 w1 H1 st1 l1 p1 vs r => by
    split at p1
    · rename_i xs ys
      obtain ⟨v, u, e1, e2, e3⟩ := repL_two r
      obtain ⟨a, us, x1, x2, x3⟩ := rep_lst e2
      obtain ⟨b, ws, y1, y2, y3⟩ := rep_lst e3
      rw [x1, y1] at e1
      exact ⟨a, b, us, ws, e1, .inl ⟨.inl (.inl (st1.ok.ex _ _ x2)), .inl (.inl (st1.ok.ex _ _ y2)), p1 w1 H1 st1 (.refl w1) _ (itR_zip (g := Y) x2 x3 y2 y3)⟩⟩
    · rename_i xs ys
      obtain ⟨v, u, e1, e2, e3⟩ := repL_two r
      obtain ⟨a, us, x1, x2, x3⟩ := rep_tup e2
      obtain ⟨b, ws, y1, y2, y3⟩ := rep_tup e3
      rw [x1, y1] at e1
      exact ⟨a, b, us, ws, e1, .inr ⟨same_sqT st1.ok.ex x2, same_sqT st1.ok.ex y2, p1 w1 H1 st1 (.refl w1) _ (itR_zipT (g := Y) x2 x3 y2 y3)⟩⟩
    · exact False.elim p1)⟩
def eChain (f g : Sto → D → D → Option D) (ma mb mc : ME) : ME := fun env S => (ma env S).bind fun x S1 => (mb env S1).bind fun y S2 => match f S2 x y with
  | some (.bl true) => (mc env S2).bind fun z S3 => opt (g S3 y z) S3
  | some (.bl false) => .ok (.bl false) S2
  | _ => .stuck
theorem s_chain {op op' : CmpOp} {r r' : R2} {f f' : Sto → D → D → Option D} (hd : OpD Y r f) (hd' : OpD Y r' f') (ho : OpR X (compareOp op) r) (ho' : OpR X (compareOp op') r') (ha : SE X Y W a ta ma) (hb : SE X Y W b tb mb) (hc : SE X Y W c tc mc)
    (hm : lastMarks [op, op'] [b, c] = false := by with_unfolding_all rfl) : SE X Y W (.Compare a [op, op'] [b, c] pos) (tChain r r' ta tb tc) (eChain f f' ma mb mc) := ⟨pe_chain ho ho' ha.pe hb.pe hc.pe hm, fun w0 H0 w H σ env S O Q st p =>
  ha.sim w0 H0 w H σ env S O _ st ((PostX.bind p).imp fun d1 S1 w1 H1 st1 l1 p1 v1 r1 => hb.sim w0 H0 w1 H1 σ env S1 O _ st1 ((PostX.bind p1).imp fun d2 S2 w2 H2 st2 l2 p2 v2 r2 => by
    split at p2
    · rename_i z
      refine hd w2 H2 S2 d1 d2 v1 v2 _ _ st2.ok (r1.mono l2) r2 z fun w3 H3 v G rv => ⟨true, rep_bl rv, ?_⟩
      simp only [if_true]
      have st3 := st2.grow G
      have l3 := G.le st2.ok
      refine hc.sim w0 H0 w3 H3 σ env S2 O _ st3 ((PostX.bind (PostX.mono p2 l3)).imp fun d3 S3 w4 H4 st4 l4 p4 v3 r3 => ?_)
      obtain ⟨d, e, kk⟩ := PostX.opt_ p4 st4
      exact hd' w4 H4 S3 d2 d3 v2 v3 d Q st4.ok ((r2.mono l3).mono l4) r3 e fun w5 H5 v5 G5 r5 => kk w5 H5 (st4.grow G5) (G5.le st4.ok) v5 r5
    · rename_i z
      refine hd w2 H2 S2 d1 d2 v1 v2 _ _ st2.ok (r1.mono l2) r2 z fun w3 H3 v G rv => ⟨false, rep_bl rv, ?_⟩
      simp only [Bool.false_eq_true, if_false]
      exact p2 w3 H3 (st2.grow G) (G.le st2.ok) _ rep_bl'
    · exact False.elim p2))⟩
def fMin2 : Sto → List D → Option D
  | _, [.int i, .int j] => some (.int (if j < i then j else i))
  | _, _ => none
def fMax2 : Sto → List D → Option D
  | _, [.int i, .int j] => some (.int (if j > i then j else i))
  | _, _ => none
theorem cd_min2 {g : Gam} : CallD g (fun xs H Q => ∃ i j, xs = [.int i, .int j] ∧ Q (.int (if j < i then j else i)) H) fMin2 := fun w H S ds vs d Q k r e q => by
  unfold fMin2 at e
  split at e
  · rename_i i j
    cases e
    obtain ⟨v1, v2, e1, r1, r2⟩ := repL_two r
    exact ⟨i, j, by rw [e1, rep_int r1, rep_int r2], q w H _ .refl rep_int'⟩
  · cases e
theorem cd_max2 {g : Gam} : CallD g (fun xs H Q => ∃ i j, xs = [.int i, .int j] ∧ Q (.int (if j > i then j else i)) H) fMax2 := fun w H S ds vs d Q k r e q => by
  unfold fMax2 at e
  split at e
  · rename_i i j
    cases e
    obtain ⟨v1, v2, e1, r1, r2⟩ := repL_two r
    exact ⟨i, j, by rw [e1, rep_int r1, rep_int r2], q w H _ .refl rep_int'⟩
  · cases e
end
end Mm
namespace Mm
open PySem L2
mutual
def noRef : D → Bool
  | .lst ds => noRefL ds
  | .tup ds => noRefL ds
  | .ins _ fs => noRefF fs
  | .dic ks => noRefK ks
  | .ref _ => false
  | _ => true
def noRefL : List D → Bool
  | [] => true
  | d :: ds => noRef d && noRefL ds
def noRefF : List (Str × D) → Bool
  | [] => true
  | (_, d) :: ds => noRef d && noRefF ds
def noRefK : List (Key × D) → Bool
  | [] => true
  | (_, d) :: ds => noRef d && noRefK ds
end
section
variable {X : Cx} {Y : Gam} {W : WX} {e : Expr} {te : TE} {tt : TT} {me : ME} {mt : MT}
def scal : D → Bool
  | .non => true
  | .bl _ => true
  | .int _ => true
  | .str _ => true
  | _ => false
theorem scal_rep {g : Gam} {w w' : Wd} {d : D} {v : V} (h : scal d = true) (r : Rep g w d v) : Rep g w' d v := by
  cases d with
  | non => rw [rep_non r]; exact rep_non'
  | bl b => rw [rep_bl r]; exact rep_bl'
  | int b => rw [rep_int r]; exact rep_int'
  | str b => rw [rep_str r]; exact rep_str'
  | _ => cases h
end
end Mm
namespace Mm
open PySem L2
def Tof (K : PySem.W.Frag) (tf : List (He.Defn × Str)) : List (Addr × Str) := tf.map fun p => ((He.cT K p.1).2, p.2)
theorem law_atT {l : PySem.W.OpenLaw} {w : World} {K : PySem.W.Frag} {k n : Nat} {x : Str} {mg : Str → Option Value} {fa : Addr} {h : Heap} {fd : FuncData} {ca : Str → Addr} {m : MFn} {facl : List He.Fa} {fns : List He.DefD} {ex : PySem.W.Frag → Bool} (tf : List (He.Defn × Str)) (c : He.SaysX facl fns [] (tf.map (·.1)) ex w h K) (KX : K.In h)
    (hb : ∀ (s : Shared) (u : Value), BindsTo s fd ⟨[u], []⟩ [(x, u)]) (hm : ∀ ns : List Int, ns.length ≤ n → (∀ z ∈ ns, Builtin.Int.intBits z ≤ 1048576) → ∃ S, m [.scr ns] [] = .ok (.val (.bl true)) S)
    (hF : ∀ base : Heap, (∀ q ∈ tf, LamX.TabB base mg (He.cT K q.1).1 (He.cT K q.1).2) → FnOk l.prog w K mg base (L2N.CX l.prog w) k fa fd [x] (spOf (GY K ca (Tof K tf)) 1 m)) : LamX.LawAtS l w K (L2N.CX l.prog w) k n x mg fa h := by
  have at_ : ∀ p ∈ tf.map (fun p => He.cT K p.1), ∃ q ∈ tf.map (·.1), He.cT K q = p := fun p hp => by
    obtain ⟨q, hq, e⟩ := List.mem_map.mp hp
    exact ⟨q.1, List.mem_map.mpr ⟨q, hq, rfl⟩, e⟩
  refine ⟨fd, tf.map (fun p => He.cT K p.1), spOf (GY K ca (Tof K tf)) 1 m, fun p hp => ?_, fun p hp => ?_, fun p hp => ?_, hb, fun H a ns hl hbt hT hS => ?_, fun base _ _ hTB => hF base fun q hq => hTB _ (List.mem_map.mpr ⟨q, hq, rfl⟩)⟩
  · obtain ⟨q, hq, e⟩ := at_ p hp
    rw [← e]
    exact c.empty q hq
  · obtain ⟨q, hq, e⟩ := at_ p hp
    rw [← e]
    exact c.out q hq
  · obtain ⟨q, hq, e⟩ := at_ p hp
    rw [← e]
    exact PySem.W.codeHd_of_K KX (c.hd q hq)
  · obtain ⟨S, e⟩ := hm ns hl hbt
    refine law_sp (fun p hp => ?_) hS e
    obtain ⟨q, hq, e⟩ := List.mem_map.mp hp
    rw [← e]
    exact hT _ (List.mem_map.mpr ⟨q, hq, rfl⟩)
end Mm
namespace Gf
theorem xor_self_left (a b : Nat) : a ^^^ (a ^^^ b) = b := by rw [← Nat.xor_assoc, Nat.xor_self, Nat.zero_xor]
theorem xor_cancel_right (a b : Nat) : a ^^^ b ^^^ b = a := by rw [Nat.xor_assoc, Nat.xor_self, Nat.xor_zero]
theorem bit_big {x w i : Nat} (h : x < 2 ^ w) (hi : w ≤ i) : x.testBit i = false := Nat.testBit_lt_two_pow (Nat.lt_of_lt_of_le h (Nat.pow_le_pow_right (by decide) hi))
def app : List Nat → Nat → Nat
  | [], _ => 0
  | r :: rs, x => (if x.testBit 0 then r else 0) ^^^ app rs (x / 2)
theorem app_nil (x : Nat) : app [] x = 0 := rfl
theorem app_cons (r : Nat) (rs : List Nat) (x : Nat) : app (r :: rs) x = (if x.testBit 0 then r else 0) ^^^ app rs (x / 2) := rfl
theorem app_zero : ∀ rs : List Nat, app rs 0 = 0
  | [] => rfl
  | r :: rs => by
    rw [app_cons]
    simp [app_zero rs]
theorem app_xor : ∀ (rs : List Nat) (x y : Nat), app rs (x ^^^ y) = app rs x ^^^ app rs y
  | [], _, _ => by simp [app]
  | r :: rs, x, y => by
    rw [app_cons, app_cons, app_cons, Nat.xor_div_two, app_xor rs, Nat.testBit_xor]
    cases x.testBit 0 <;> cases y.testBit 0 <;> simp <;> apply Nat.eq_of_testBit_eq <;> intro i <;> simp only [Nat.testBit_xor] <;> cases r.testBit i <;> cases (app rs (x / 2)).testBit i <;> cases (app rs (y / 2)).testBit i <;> rfl
theorem app_lt {w : Nat} : ∀ {rs : List Nat} (x : Nat), (∀ r ∈ rs, r < 2 ^ w) → app rs x < 2 ^ w
  | [], _, _ => Nat.two_pow_pos w
  | r :: rs, x, h => by
    rw [app_cons]
    refine Nat.xor_lt_two_pow ?_ (app_lt (x / 2) fun s hs => h s (List.mem_cons_of_mem _ hs))
    split
    · exact h r List.mem_cons_self
    · exact Nat.two_pow_pos w
theorem app_mod : ∀ (rs : List Nat) (x : Nat), app rs (x % 2 ^ rs.length) = app rs x
  | [], x => rfl
  | r :: rs, x => by
    rw [app_cons, app_cons, List.length_cons]
    have e1 : (x % 2 ^ (rs.length + 1)).testBit 0 = x.testBit 0 := by
      rw [Nat.testBit_mod_two_pow]
      simp
    have e2 : x % 2 ^ (rs.length + 1) / 2 = x / 2 % 2 ^ rs.length := Nat.eq_of_testBit_eq fun i => by
      rw [Nat.testBit_div_two, Nat.testBit_mod_two_pow, Nat.testBit_mod_two_pow, Nat.testBit_div_two]
      simp
    rw [e1, e2, app_mod rs]
def plain (w : Nat) : List Nat := (List.range w).map (2 ^ ·)
theorem app_map2 (rs : List Nat) (x : Nat) : app (rs.map (2 * ·)) x = 2 * app rs x := by
  induction rs generalizing x with
  | nil => rfl
  | cons r rs ih =>
    rw [List.map_cons, app_cons, app_cons, ih]
    have e : ∀ a b : Nat, 2 * a ^^^ 2 * b = 2 * (a ^^^ b) := fun a b => by
      have := Nat.shiftLeft_xor_distrib (a := a) (b := b) (i := 1)
      simp only [Nat.shiftLeft_eq, Nat.pow_one] at this
      rw [Nat.mul_comm 2 a, Nat.mul_comm 2 b, Nat.mul_comm 2 (a ^^^ b)]
      exact this.symm
    rw [← e]
    split <;> rfl
theorem plain_succ (w : Nat) : plain (w + 1) = 1 :: (plain w).map (2 * ·) := by
  unfold plain
  rw [List.range_succ_eq_map, List.map_cons, List.map_map, List.map_map]
  congr 1
  apply List.map_congr_left
  intro i _
  show 2 ^ (i + 1) = 2 * 2 ^ i
  rw [Nat.pow_succ, Nat.mul_comm]
theorem tb_two (a i : Nat) : (2 * a).testBit i = (decide (1 ≤ i) && a.testBit (i - 1)) := by
  have e : 2 * a = a <<< 1 := by rw [Nat.shiftLeft_eq]; omega
  rw [e, Nat.testBit_shiftLeft]
theorem app_plain : ∀ (w x : Nat), x < 2 ^ w → app (plain w) x = x
  | 0, x, h => by
    have : x = 0 := by omega
    subst this
    rfl
  | w + 1, x, h => by
    rw [plain_succ, app_cons, app_map2, app_plain w (x / 2) (by rw [Nat.pow_succ] at h; omega)]
    apply Nat.eq_of_testBit_eq
    intro i
    rw [Nat.testBit_xor]
    cases i with
    | zero =>
      rw [tb_two]
      cases x.testBit 0 <;> simp
    | succ i =>
      rw [tb_two]
      have : (x / 2).testBit (i + 1 - 1) = x.testBit (i + 1) := Nat.testBit_div_two x i
      rw [this]
      have o : Nat.testBit 1 (i + 1) = false := by
        have := Nat.testBit_two_pow (n := 0) (m := i + 1)
        simpa using this
      split <;> simp [o]
theorem plain_len (w : Nat) : (plain w).length = w := by simp [plain]
theorem plain_mem {w x : Nat} : x ∈ plain w ↔ ∃ i, i < w ∧ x = 2 ^ i := by
  unfold plain
  simp only [List.mem_map, List.mem_range]
  constructor
  · rintro ⟨i, h, e⟩
    exact ⟨i, h, e.symm⟩
  · rintro ⟨i, h, e⟩
    exact ⟨i, h, e.symm⟩
theorem app_map (f : Nat → Nat) (f0 : f 0 = 0) (fx : ∀ x y, f (x ^^^ y) = f x ^^^ f y) : ∀ (rs : List Nat) (x : Nat), app (rs.map f) x = f (app rs x)
  | [], _ => by simp [app, f0]
  | r :: rs, x => by
    rw [List.map_cons, app_cons, app_cons, fx, app_map f f0 fx rs]
    split
    · rfl
    · rw [f0]
def Sp (B : List Nat) (x : Nat) : Prop := ∃ m, app B m = x
theorem Sp.zero (B : List Nat) : Sp B 0 := ⟨0, app_zero B⟩
theorem Sp.xor {B : List Nat} {x y : Nat} (a : Sp B x) (b : Sp B y) : Sp B (x ^^^ y) := by
  obtain ⟨m, rfl⟩ := a
  obtain ⟨n, rfl⟩ := b
  exact ⟨m ^^^ n, app_xor B m n⟩
theorem Sp.nil {x : Nat} : Sp [] x ↔ x = 0 := ⟨fun ⟨_, h⟩ => h.symm, fun h => ⟨0, h.symm⟩⟩
theorem Sp.cons {a : Nat} {B : List Nat} {x : Nat} : Sp (a :: B) x ↔ Sp B x ∨ Sp B (x ^^^ a) := by
  constructor
  · rintro ⟨m, e⟩
    rw [app_cons] at e
    cases z : m.testBit 0 with
    | false =>
      rw [z] at e
      simp at e
      exact .inl ⟨_, e⟩
    | true =>
      rw [z] at e
      simp at e
      refine .inr ⟨m / 2, ?_⟩
      rw [← e, Nat.xor_comm a, xor_cancel_right]
  · rintro (⟨m, e⟩ | ⟨m, e⟩)
    · refine ⟨2 * m, ?_⟩
      rw [app_cons]
      have : (2 * m).testBit 0 = false := by simp
      rw [this, Nat.mul_div_cancel_left _ (by decide)]
      simpa using e
    · refine ⟨2 * m + 1, ?_⟩
      rw [app_cons]
      have : (2 * m + 1).testBit 0 = true := by simp
      have h2 : (2 * m + 1) / 2 = m := by omega
      rw [this, h2, e, if_pos rfl, Nat.xor_comm x, xor_self_left]
theorem Sp.head (a : Nat) (B : List Nat) : Sp (a :: B) a := Sp.cons.mpr (.inr (by rw [Nat.xor_self]; exact .zero B))
theorem Sp.tail {a : Nat} {B : List Nat} {x : Nat} (h : Sp B x) : Sp (a :: B) x := Sp.cons.mpr (.inl h)
theorem Sp.mem {a : Nat} : ∀ {B : List Nat}, a ∈ B → Sp B a
  | b :: B, h => by
    rcases List.mem_cons.mp h with e | h
    · rw [e]
      exact .head b B
    · exact (Sp.mem h).tail
theorem Sp.sub {C : List Nat} : ∀ {B : List Nat} {x : Nat}, (∀ b ∈ B, Sp C b) → Sp B x → Sp C x
  | [], x, _, h => by
    rw [Sp.nil.mp h]
    exact .zero C
  | b :: B, x, g, h => by
    rcases Sp.cons.mp h with h | h
    · exact Sp.sub (fun c hc => g c (List.mem_cons_of_mem _ hc)) h
    · have := (Sp.sub (fun c hc => g c (List.mem_cons_of_mem _ hc)) h).xor (g b List.mem_cons_self)
      rwa [xor_cancel_right] at this
theorem Sp.mono {B C : List Nat} {x : Nat} (s : ∀ b ∈ B, b ∈ C) (h : Sp B x) : Sp C x := h.sub fun b hb => .mem (s b hb)
theorem Sp.perm {B C : List Nat} (p : B.Perm C) {x : Nat} : Sp B x ↔ Sp C x := ⟨.mono fun b hb => p.mem_iff.mp hb, .mono fun b hb => p.mem_iff.mpr hb⟩
def rst (l b : Nat) : Nat := if l.testBit b.log2 then l ^^^ b else l
def red (x : Nat) (B : List Nat) : Nat := B.foldl rst x
def cst (l o : Nat) : Nat := if o.testBit l.log2 then o ^^^ l else o
def bst (F : List Nat) (x : Nat) : List Nat := if red x F = 0 then F else F.map (cst (red x F)) ++ [red x F]
def bas (xs : List Nat) : List Nat := xs.foldl bst []
def All (w : Nat) (B : List Nat) : Prop := ∀ x, x < 2 ^ w → Sp B x
theorem plain_all (w : Nat) : All w (plain w) := fun x h => ⟨x, app_plain w x h⟩
theorem plain_lt {w : Nat} : ∀ b ∈ plain w, b < 2 ^ w := fun b hb => by
  obtain ⟨i, h, e⟩ := plain_mem.mp hb
  rw [e]
  exact Nat.pow_lt_pow_right (by decide) h
end Gf
namespace Mm
open PySem L2
section
variable {α β : Type} {env : Envr} {S S1 S2 : Sto} {i j : Nat} {d d1 d2 : D} {a b : ME} {c t u : MT} {s s1 s2 : MS} {m : MA}
@[simp] theorem bind_ok' (x : α) (S : Sto) (f : α → Sto → R β) : (R.ok x S).bind f = f x S := rfl
@[simp] theorem bind_exc' (c : Str) (p : Option D) (S : Sto) (f : α → Sto → R β) : (R.exc c p S : R α).bind f = .exc c p S := rfl
@[simp] theorem out_ok' (x : α) (S : Sto) (env : Envr) (f : α → Sto → Out) : (R.ok x S).out env f = f x S := rfl
@[simp] theorem out_exc' (c : Str) (p : Option D) (S : Sto) (env : Envr) (f : α → Sto → Out) : (R.exc c p S : R α).out env f = .exc c p env S := rfl
@[simp] theorem opt_some' (x : α) (S : Sto) : opt (some x) S = .ok x S := rfl
@[simp] theorem mFrz_eq (mf : MF) (env : Envr) (S : Sto) : mFrz mf env S = (mf env S).bind fun c S1 => .ok c.d S1 := rfl
@[simp] theorem d_lst (xs : List D) : (Cell.lst xs).d = .lst xs := rfl
@[simp] theorem d_ins (c : Str) (xs : List (Str × D)) : (Cell.ins c xs).d = .ins c xs := rfl
@[simp] theorem r_val (d : D) : (Ret.val d).d = d := rfl
@[simp] theorem r_own (d : Cell) : (Ret.own d).d = d.d := rfl
@[simp] theorem eV_eq (i : Nat) (env : Envr) (S : Sto) : eV i env S = (match env[i]? with
  | some (.v d) => .ok d S
  | _ => .stuck) := rfl
@[simp] theorem eC_eq (d : D) (env : Envr) (S : Sto) : eC d env S = .ok d S := rfl
@[simp] theorem eOp_eq (f : Sto → D → D → Option D) (ma mb : ME) (env : Envr) (S : Sto) : eOp f ma mb env S = ((ma env S).bind fun d1 S1 => (mb env S1).bind fun d2 S2 => opt (f S2 d1 d2) S2) := rfl
@[simp] theorem eUn_eq (f : Sto → D → Option D) (ma : ME) (env : Envr) (S : Sto) : eUn f ma env S = ((ma env S).bind fun d1 S1 => opt (f S1 d1) S1) := rfl
@[simp] theorem fNeg_eq (S : Sto) (i : Int) : fNeg S (.int i) = some (.int (-i)) := rfl
@[simp] theorem cB_eq (me : ME) (env : Envr) (S : Sto) : cB me env S = ((me env S).bind fun d S1 => match d with
  | .bl k => .ok k S1
  | _ => .stuck) := rfl
@[simp] theorem cOr_eq (a b : MT) (env : Envr) (S : Sto) : cOr a b env S = ((a env S).bind fun k S1 => if k = true then .ok true S1 else b env S1) := rfl
@[simp] theorem cNot_eq (a : MT) (env : Envr) (S : Sto) : cNot a env S = ((a env S).bind fun k S1 => .ok (!k) S1) := rfl
@[simp] theorem cYes_eq (env : Envr) (S : Sto) : cYes env S = .ok true S := rfl
@[simp] theorem eIf_eq (t : MT) (a b : ME) (env : Envr) (S : Sto) : eIf t a b env S = ((t env S).bind fun k S1 => if k = true then a env S1 else b env S1) := rfl
@[simp] theorem eAnd_eq (a b : ME) (env : Envr) (S : Sto) : eAnd a b env S = ((a env S).bind fun d S1 => match d with
  | .bl true => b env S1
  | .bl false => .ok (.bl false) S1
  | _ => .stuck) := rfl
@[simp] theorem eOr_eq (a b : ME) (env : Envr) (S : Sto) : eOr a b env S = ((a env S).bind fun d S1 => match d with
  | .bl true => .ok (.bl true) S1
  | .bl false => b env S1
  | _ => .stuck) := rfl
@[simp] theorem aNil_eq (env : Envr) (S : Sto) : aNil env S = .ok [] S := rfl
@[simp] theorem aCons_eq (ma : ME) (mr : MA) (env : Envr) (S : Sto) : aCons ma mr env S = ((ma env S).bind fun d S1 => (mr env S1).bind fun ds S2 => .ok (d :: ds) S2) := rfl
@[simp] theorem eTup_eq (m : MA) (env : Envr) (S : Sto) : eTup m env S = ((m env S).bind fun ds S1 => if szB ds.length then .ok (.tup ds) S1 else .stuck) := rfl
@[simp] theorem fLst_eq (m : MA) (env : Envr) (S : Sto) : fLst m env S = ((m env S).bind fun ds S1 => if szB ds.length then .ok (.lst ds) S1 else .stuck) := rfl
@[simp] theorem eCall_eq (f : MFn) (dd : List D) (m : MA) (env : Envr) (S : Sto) : eCall f dd m env S = ((m env S).bind fun ds S1 => (f (ds ++ dd) S1).bind fun r S2 => .ok r.d S2) := rfl
@[simp] theorem fCall_eq (f : MFn) (dd : List D) (m : MA) (env : Envr) (S : Sto) : fCall f dd m env S = ((m env S).bind fun ds S1 => (f (ds ++ dd) S1).bind rOwn) := rfl
@[simp] theorem rOwn_own (c : Cell) (S : Sto) : rOwn (.own c) S = .ok c S := rfl
@[simp] theorem sNil_eq (env : Envr) (S : Sto) : sNil env S = .nx env S := rfl
@[simp] theorem sSeq_eq (a b : MS) (env : Envr) (S : Sto) : sSeq a b env S = (match a env S with
  | .nx e S1 => b e S1
  | o => o) := rfl
@[simp] theorem sExpr_eq (me : ME) (env : Envr) (S : Sto) : sExpr me env S = (me env S).out env fun _ S1 => .nx env S1 := rfl
@[simp] theorem sRet_eq (me : ME) (env : Envr) (S : Sto) : sRet me env S = (me env S).out env fun d S1 => .rt (.val d) S1 := rfl
@[simp] theorem sRetF_eq (mf : MF) (env : Envr) (S : Sto) : sRetF mf env S = (mf env S).out env fun c S1 => .rt (.own c) S1 := rfl
@[simp] theorem sRetO_eq (i : Nat) (env : Envr) (S : Sto) : sRetO i env S = (match env[i]? with
  | some (.o c) => .rt (.own c) S
  | some (.v d) => .rt (.val d) S
  | _ => .stuck) := rfl
@[simp] theorem sIf_eq (c : MT) (a b : MS) (env : Envr) (S : Sto) : sIf c a b env S = (c env S).out env fun k S1 => if k = true then a env S1 else b env S1 := rfl
@[simp] theorem gN_eq (i : Nat) (d : D) (env : Envr) : gN i d env = some (env.set i (.v d)) := rfl
@[simp] theorem gN0_eq (env : Envr) : gN0 [] env = some env := rfl
@[simp] theorem gNC_eq (a : MG) (b : MGs) (d : D) (ds : List D) (env : Envr) : gNC a b (d :: ds) env = (a d env).bind fun e => b ds e := rfl
@[simp] theorem gT_eq (b : MGs) (ds : List D) (env : Envr) : gT b (.tup ds) env = b ds env := rfl
@[simp] theorem gU_eq (b : MGs) (ds : List D) (env : Envr) : gU b (.lst ds) env = b ds env := rfl
@[simp] theorem sAsg_eq (me : ME) (mg : MG) (env : Envr) (S : Sto) : sAsg me mg env S = (me env S).out env fun d S1 => match mg d env with
  | some e => .nx e S1
  | none => .stuck := rfl
@[simp] theorem sOwn_eq (i : Nat) (mf : MF) (env : Envr) (S : Sto) : sOwn i mf env S = (mf env S).out env fun c S1 => if i < env.length then .nx (env.set i (.o c)) S1 else .stuck := rfl
@[simp] theorem sPar_eq (i j : Nat) (m : MA) (env : Envr) (S : Sto) : sPar i j m env S = (m env S).out env fun ds S1 => match ds with
  | [d1, d2] => .nx ((env.set i (.v d1)).set j (.v d2)) S1
  | _ => .stuck := rfl
@[simp] theorem sFor_eq (mi : MI) (g : MG) (b : MS) (env : Envr) (S : Sto) : sFor mi g b env S = (mi env S).out env fun ds S1 => forL g b ds env S1 := rfl
@[simp] theorem fLc_eq (mi : MI) (g : MG) (tt : MT) (te : ME) (vs : List Nat) (env : Envr) (S : Sto) : fLc mi g tt te vs env S = (mi env S).bind fun ds S1 => (lcR g tt te (wipeE env vs) ds S1).bind fin := rfl
@[simp] theorem fin_eq (ys : List D) (S : Sto) : fin ys S = if szB ys.length then .ok (.lst ys) S else .stuck := rfl
@[simp] theorem startE_eq (n : Nat) (ds : List D) : startE n ds = ds.map Sl.v ++ List.replicate (n - ds.length) .no := rfl
@[simp] theorem mFn_eq (n : Nat) (m : MS) (ds : List D) (S : Sto) : mFn n m ds S = (match m (startE n ds) S with
  | .nx _ S1 => .ok (.val .non) S1
  | .rt r S1 => .ok r S1
  | .exc c p _ S1 => .exc c p S1
  | _ => .stuck) := rfl
@[simp] theorem itL_eq (me : ME) (env : Envr) (S : Sto) : itL me env S = (me env S).bind fun d S1 => match d with
  | .lst ds => .ok ds S1
  | .tup ds => .ok ds S1
  | _ => .stuck := rfl
@[simp] theorem itR1_eq (m : MA) (env : Envr) (S : Sto) : itR1 m env S = (m env S).bind fun ds S1 => match ds with
  | [.int j] => if rgB j then .ok (rngD 0 j.toNat) S1 else .stuck
  | _ => .stuck := rfl
@[simp] theorem itES_eq (m : MA) (env : Envr) (S : Sto) : itES m env S = (m env S).bind fun ds S1 => match ds with
  | [.lst ds] => .ok (enumD 0 ds) S1
  | [.tup ds] => .ok (enumD 0 ds) S1
  | _ => .stuck := rfl
@[simp] theorem eCB_eq (f : Sto → List D → Option D) (m : MA) (env : Envr) (S : Sto) : eCB f m env S = (m env S).bind fun ds S1 => opt (f S1 ds) S1 := rfl
@[simp] theorem fCB_eq (f : Sto → List D → Option Cell) (m : MA) (env : Envr) (S : Sto) : fCB f m env S = (m env S).bind fun ds S1 => opt (f S1 ds) S1 := rfl
@[simp] theorem fOp_eq (f : Sto → D → D → Option Cell) (ma mb : ME) (env : Envr) (S : Sto) : fOp f ma mb env S = (ma env S).bind fun d1 S1 => (mb env S1).bind fun d2 S2 => opt (f S2 d1 d2) S2 := rfl
@[simp] theorem fLen_lst (S : Sto) (ds : List D) : fLen S [.lst ds] = some (.int ds.length) := rfl
@[simp] theorem fLen_tup (S : Sto) (ds : List D) : fLen S [.tup ds] = some (.int ds.length) := rfl
@[simp] theorem fListOf_lst (S : Sto) (ds : List D) : fListOf S [.lst ds] = some (.lst ds) := rfl
@[simp] theorem fListOf_tup (S : Sto) (ds : List D) : fListOf S [.tup ds] = some (.lst ds) := rfl
@[simp] theorem fTupOf_lst (S : Sto) (ds : List D) : fTupOf S [.lst ds] = some (.tup ds) := rfl
@[simp] theorem fTupOf_tup (S : Sto) (ds : List D) : fTupOf S [.tup ds] = some (.tup ds) := rfl
@[simp] theorem fInt_int (S : Sto) (i : Int) : fInt S [.int i] = some (.int i) := rfl
@[simp] theorem fInt_bl (S : Sto) (b : Bool) : fInt S [.bl b] = some (.int (if b then 1 else 0)) := rfl
@[simp] theorem eBits_eq (me : ME) (env : Envr) (S : Sto) : eBits me env S = (me env S).bind fun d S1 => match d with
  | .int i => .ok (.int (Builtin.Int.intBits i : Nat)) S1
  | _ => .stuck := rfl
@[simp] theorem iAdd_eq (S : Sto) (i j : Int) : iAdd S (.int i) (.int j) = some (.int (i + j)) := rfl
@[simp] theorem iSub_eq (S : Sto) (i j : Int) : iSub S (.int i) (.int j) = some (.int (i - j)) := rfl
@[simp] theorem iMul_eq (S : Sto) (i j : Int) : iMul S (.int i) (.int j) = if mulB i j then some (.int (i * j)) else none := rfl
@[simp] theorem iDiv_eq (S : Sto) (i j : Int) : iDiv S (.int i) (.int j) = if divB i j then some (.int (i.fdiv j)) else none := rfl
@[simp] theorem iMod_eq (S : Sto) (i j : Int) : iMod S (.int i) (.int j) = if decide (j ≠ 0) then some (.int (i.fmod j)) else none := rfl
@[simp] theorem iPow_eq (S : Sto) (i j : Int) : iPow S (.int i) (.int j) = if powB i j then some (.int (i ^ j.toNat)) else none := rfl
@[simp] theorem iShl_eq (S : Sto) (i j : Int) : iShl S (.int i) (.int j) = if powB i j then some (.int (i * 2 ^ j.toNat)) else none := rfl
@[simp] theorem iShr_eq (S : Sto) (i j : Int) : iShr S (.int i) (.int j) = if decide (0 ≤ j) then some (.int (i / 2 ^ j.toNat)) else none := rfl
@[simp] theorem iAnd_eq (S : Sto) (i j : Int) : iAnd S (.int i) (.int j) = some (.int (Builtin.bitAnd i j)) := rfl
@[simp] theorem iOr_eq (S : Sto) (i j : Int) : iOr S (.int i) (.int j) = some (.int (Builtin.bitOr i j)) := rfl
@[simp] theorem iXor_eq (S : Sto) (i j : Int) : iXor S (.int i) (.int j) = some (.int (Builtin.bitXor i j)) := rfl
@[simp] theorem iLt_eq (S : Sto) (i j : Int) : iLt S (.int i) (.int j) = some (.bl (decide (i < j))) := rfl
@[simp] theorem iLe_eq (S : Sto) (i j : Int) : iLe S (.int i) (.int j) = some (.bl (decide (i ≤ j))) := rfl
@[simp] theorem iGt_eq (S : Sto) (i j : Int) : iGt S (.int i) (.int j) = some (.bl (decide (j < i))) := rfl
@[simp] theorem iGe_eq (S : Sto) (i j : Int) : iGe S (.int i) (.int j) = some (.bl (decide (j ≤ i))) := rfl
@[simp] theorem dAdd_int (S : Sto) (i j : Int) : dAdd S (.int i) (.int j) = some (.int (i + j)) := rfl
@[simp] theorem dAdd_lst (S : Sto) (xs ys : List D) : dAdd S (.lst xs) (.lst ys) = if szB (xs.length + ys.length) then some (.lst (xs ++ ys)) else none := by
  show (none : Option D).or (fCatD S (.lst xs) (.lst ys)) = _
  show (none : Option D).or ((if szB (xs.length + ys.length) then some (Cell.lst (xs ++ ys)) else none).map Cell.d) = _
  cases szB (xs.length + ys.length) <;> rfl
@[simp] theorem fCat_lst (S : Sto) (xs ys : List D) : fCat S (.lst xs) (.lst ys) = if szB (xs.length + ys.length) then some (.lst (xs ++ ys)) else none := rfl
@[simp] theorem fIx_lst (S : Sto) (xs : List D) (i : Int) : fIx S (.lst xs) (.int i) = atI xs i := rfl
@[simp] theorem fIx_tup (S : Sto) (xs : List D) (i : Int) : fIx S (.tup xs) (.int i) = atI xs i := rfl
@[simp] theorem fIx_ref (S : Sto) (n : Nat) (i : Int) : fIx S (.ref n) (.int i) = (match S[n]? with
    | some (.lst xs) => atI xs i
    | _ => none) := rfl
@[simp] theorem fIs_non (S : Sto) (d : D) : fIs S d .non = some (.bl d.isN) := rfl
@[simp] theorem isN_non : D.isN .non = true := rfl
@[simp] theorem isN_int (i : Int) : D.isN (.int i) = false := rfl
@[simp] theorem oNone_eq (env : Envr) (S : Sto) : oNone env S = .ok none S := rfl
@[simp] theorem oSome_eq (me : ME) (env : Envr) (S : Sto) : oSome me env S = (me env S).bind fun d S1 => match d with
  | .int i => .ok (some i) S1
  | _ => .stuck := rfl
@[simp] theorem fSl_eq (me : ME) (ml mh : MO) (env : Envr) (S : Sto) : fSl me ml mh env S = (me env S).bind fun d S1 => (ml env S1).bind fun lo S2 => (mh env S2).bind fun hi S3 => match d with
  | .lst ds => .ok (.lst (cutD ds lo hi)) S3
  | .scr ns => .ok (.lst (cutD (ns.map D.int) lo hi)) S3
  | _ => .stuck := rfl
@[simp] theorem sApp_eq (i : Nat) (me : ME) (env : Envr) (S : Sto) : sApp i me env S = (match env[i]? with
  | some (.o (.lst ds)) => (me env S).out env fun d S1 => if szB (ds.length + 1) then .nx (env.set i (.o (.lst (ds ++ [d])))) S1 else .stuck
  | _ => .stuck) := rfl
@[simp] theorem sIns_eq (i : Nat) (mk me : ME) (env : Envr) (S : Sto) : sIns i mk me env S = (match env[i]? with
  | some (.o (.lst ds)) => (mk env S).out env fun k S1 => (me env S1).out env fun d S2 => match k with
    | .int k => if decide (0 ≤ k) && (bBnd k 9223372036854775807 && szB (ds.length + 1)) then .nx (env.set i (.o (.lst (ds.take k.toNat ++ [d] ++ ds.drop k.toNat)))) S2 else .stuck
    | _ => .stuck
  | _ => .stuck) := rfl
@[simp] theorem sPut_eq (i : Nat) (mk me : ME) (env : Envr) (S : Sto) : sPut i mk me env S = (me env S).out env fun d S1 => match env[i]? with
  | some (.o (.lst ds)) => (mk env S1).out env fun k S2 => (match k with
    | .int k => (match ixN ds.length k with
      | some j => .nx (env.set i (.o (.lst (ds.set j d)))) S2
      | none => .stuck)
    | _ => .stuck)
  | some (.v (.ref n)) => (mk env S1).out env fun k S2 => (match S2[n]?, k with
    | some (.lst ds), .int k => (match ixN ds.length k with
      | some j => .nx env (S2.set n (.lst (ds.set j d)))
      | none => .stuck)
    | _, _ => .stuck)
  | _ => .stuck := rfl
@[simp] theorem sAug_eq (i : Nat) (f : Int → Int → Int) (me : ME) (env : Envr) (S : Sto) : sAug i f me env S = (match env[i]? with
  | some (.v (.int k)) => (me env S).out env fun d S1 => (match d with
    | .int j => .nx (env.set i (.v (.int (f k j)))) S1
    | _ => .stuck)
  | _ => .stuck) := rfl
@[simp] theorem sRaise_eq (c : Str) (env : Envr) (S : Sto) : sRaise c env S = .exc c none env S := rfl
@[simp] theorem eFld_eq (c f : Str) (me : ME) (env : Envr) (S : Sto) : eFld c f me env S = (me env S).bind fun d S1 => match insOf c S1 d with
  | some fs => opt (fs.lookup f) S1
  | none => .stuck := rfl
@[simp] theorem insOf_ins (c c' : Str) (S : Sto) (fs : List (Str × D)) : insOf c S (.ins c' fs) = if c' = c then some fs else none := rfl
@[simp] theorem insOf_ref (c : Str) (S : Sto) (n : Nat) : insOf c S (.ref n) = (match S[n]? with
    | some (.ins c' fs) => if c' = c then some fs else none
    | _ => none) := rfl
@[simp] theorem sFldC_eq (c f : Str) (mo me : ME) (env : Envr) (S : Sto) : sFldC c f mo me env S = (me env S).out env fun y S1 => (mo env S1).out env fun d S2 => match d with
  | .ref n => (match S2[n]? with
    | some (.ins c' fs) => if c' = c ∧ fs.length < 1000 then .nx env (S2.set n (.ins c (putFD f y fs))) else .stuck
    | _ => .stuck)
  | _ => .stuck := rfl
@[simp] theorem mGo_eq (c x : Str) (mf : MFn) (dd : List D) (mo : ME) (m : MA) (F : Ret → Sto → R α) (env : Envr) (S : Sto) : mGo c x mf dd mo m F env S = (mo env S).bind fun o S1 => match insOf c S1 o with
  | some fs => if fs.lookup x = none then (m env S1).bind fun ds S2 => (mf (o :: (ds ++ dd)) S2).bind F else .stuck
  | none => .stuck := rfl
@[simp] theorem eMeth_eq (c x : Str) (mf : MFn) (dd : List D) (mo : ME) (m : MA) (env : Envr) (S : Sto) : eMeth c x mf dd mo m env S = mGo c x mf dd mo m (fun r S => .ok r.d S) env S := rfl
@[simp] theorem eNew_eq (c : Str) (mf : MFn) (dd : List D) (m : MA) (env : Envr) (S : Sto) : eNew c mf dd m env S = (m env S).bind fun ds S1 => popI c S1 (mf (.ref S1.length :: (ds ++ dd)) (S1 ++ [.ins c []])) := rfl
@[simp] theorem sCell_eq (i : Nat) (mf : MF) (env : Envr) (S : Sto) : sCell i mf env S = (mf env S).out env fun c S1 => .nx (env.set i (.v (.ref S1.length))) (S1 ++ [c]) := rfl
@[simp] theorem frzAt_eq (i : Nat) (env : Envr) : frzAt i env = (match env[i]? with
  | some (.o c) => env.set i (.v c.d)
  | _ => env) := rfl
@[simp] theorem sFrz_eq (i : Nat) (m : MS) (env : Envr) (S : Sto) : sFrz i m env S = m (frzAt i env) S := rfl
@[simp] theorem sAugC_eq (mo mk : ME) (f : Int → Int → Int) (me : ME) (env : Envr) (S : Sto) : sAugC mo mk f me env S = (mo env S).out env fun o S1 => (mk env S1).out env fun k S2 => match o, k with
  | .ref n, .int k => (match S2[n]? with
    | some (.lst ds) => (match atI ds k with
      | some (.int x) => (me env S2).out env fun d S3 => (match d, S3[n]? with
        | .int y, some (.lst ds') => (match ixN ds'.length k with
          | some j => .nx env (S3.set n (.lst (ds'.set j (.int (f x y)))))
          | none => .stuck)
        | _, _ => .stuck)
      | _ => .stuck)
    | _ => .stuck)
  | _, _ => .stuck := rfl
@[simp] theorem eLenA_eq (i : Nat) (env : Envr) (S : Sto) : eLenA i env S = (match env[i]? with
  | some (.o (.lst ds)) => .ok (.int ds.length) S
  | some (.v d) => opt (fLen S [d]) S
  | _ => .stuck) := rfl
@[simp] theorem eIxA_eq (i : Nat) (mk : ME) (env : Envr) (S : Sto) : eIxA i mk env S = (match env[i]? with
  | some (.o (.lst ds)) => (mk env S).bind fun k S1 => (match k with
    | .int k => opt (atI ds k) S1
    | _ => .stuck)
  | some (.v d) => (mk env S).bind fun k S1 => opt (fIx S1 d k) S1
  | _ => .stuck) := rfl
end
theorem forL_inv {I : List D → Envr → Sto → Prop} {g : MG} {b : MS} (step : ∀ d ds env S, I (d :: ds) env S → ∃ e1, g d env = some e1 ∧ ∃ e2 S2, (b e1 S = .nx e2 S2 ∨ b e1 S = .ct e2 S2) ∧ I ds e2 S2) :
    ∀ (ds : List D) (env : Envr) (S : Sto), I ds env S → ∃ e' S', forL g b ds env S = .nx e' S' ∧ I [] e' S'
  | [], env, S, h => ⟨env, S, rfl, h⟩
  | d :: ds, env, S, h => by
    obtain ⟨e1, h1, e2, S2, h2, h3⟩ := step d ds env S h
    unfold forL
    rw [h1]
    rcases h2 with h2 | h2 <;> (simp only [h2]; exact forL_inv step ds e2 S2 h3)
theorem lcR_map {g : MG} {tt : MT} {te : ME} {env : Envr} {S : Sto} (p : D → Bool) (f : D → D) : ∀ (ds : List D), (∀ d ∈ ds, ∃ e1, g d env = some e1 ∧ tt e1 S = .ok (p d) S ∧ (p d = true → te e1 S = .ok (f d) S)) →
    lcR g tt te env ds S = .ok ((ds.filter p).map f) S
  | [], _ => rfl
  | d :: ds, h => by
    obtain ⟨e1, h1, h2, h3⟩ := h d List.mem_cons_self
    have ih := lcR_map p f ds fun x hx => h x (List.mem_cons_of_mem _ hx)
    unfold lcR
    rw [h1]
    cases z : p d with
    | true => simp only [h2, z, h3 z, ih, bind_ok', List.filter_cons, if_true, List.map_cons]
    | false => simp [h2, z, ih, List.filter_cons]
theorem lcR_inv {I : List D → List D → Sto → Prop} {g : MG} {te : ME} {env : Envr} (step : ∀ d ds ys S, I (d :: ds) ys S → ∃ e1, g d env = some e1 ∧ ∃ y S2, te e1 S = .ok y S2 ∧ I ds (ys ++ [y]) S2) :
    ∀ (ds ys : List D) (S : Sto), I ds ys S → ∃ zs S', lcR g cYes te env ds S = .ok zs S' ∧ I [] (ys ++ zs) S'
  | [], ys, S, h => ⟨[], S, rfl, by rwa [List.append_nil]⟩
  | d :: ds, ys, S, h => by
    obtain ⟨e1, h1, y, S2, h2, h3⟩ := step d ds ys S h
    obtain ⟨zs, S', h4, h5⟩ := lcR_inv step ds (ys ++ [y]) S2 h3
    refine ⟨y :: zs, S', ?_, by simpa using h5⟩
    unfold lcR
    rw [h1]
    simp [h2, h4]
@[simp] theorem band_nat (a b : Nat) : Builtin.bitAnd (a : Int) (b : Int) = ((a &&& b : Nat) : Int) := by simp [Builtin.bitAnd]
@[simp] theorem bxor_nat (a b : Nat) : Builtin.bitXor (a : Int) (b : Int) = ((a ^^^ b : Nat) : Int) := Bits.bitXor_pp (Int.natCast_nonneg a) (Int.natCast_nonneg b) |>.trans (by simp)
@[simp] theorem bor_nat (a b : Nat) : Builtin.bitOr (a : Int) (b : Int) = ((a ||| b : Nat) : Int) := Bits.bitOr_pp (Int.natCast_nonneg a) (Int.natCast_nonneg b) |>.trans (by simp)
@[simp] theorem shr_nat (a k : Nat) : (a : Int) / 2 ^ k = ((a >>> k : Nat) : Int) := by
  rw [Nat.shiftRight_eq_div_pow]
  simp
abbrev nd (n : Nat) : D := .int (n : Int)
def nl (xs : List Nat) : List D := xs.map nd
@[simp] theorem nl_nil : nl [] = [] := rfl
@[simp] theorem nl_cons (x : Nat) (xs : List Nat) : nl (x :: xs) = .int (x : Int) :: nl xs := rfl
@[simp] theorem nl_len (xs : List Nat) : (nl xs).length = xs.length := by simp [nl]
@[simp] theorem nl_append (xs ys : List Nat) : nl xs ++ nl ys = nl (xs ++ ys) := by simp [nl]
theorem szB_of {n : Nat} (h : n ≤ 100000) : szB n = true := decide_eq_true h
end Mm
namespace Gf
theorem Sp.image (f : Nat → Nat) (f0 : f 0 = 0) (fx : ∀ x y, f (x ^^^ y) = f x ^^^ f y) {B : List Nat} {x : Nat} (h : Sp B x) : Sp (B.map f) (f x) := by
  obtain ⟨m, rfl⟩ := h
  exact ⟨m, app_map f f0 fx B m⟩
abbrev PP := Nat × Nat
def tst (s p : PP) : PP := if s.1.testBit p.1.log2 then (s.1 ^^^ p.1, s.2 ^^^ p.2) else s
def tred (s : PP) (F : List PP) : PP := F.foldl tst s
abbrev TS2 := List PP × List Nat
def wst (l p : PP) : PP := if p.1.testBit l.1.log2 then (p.1 ^^^ l.1, p.2 ^^^ l.2) else p
def tstep (st : TS2) (k x : Nat) : TS2 := if (tred (x, 2 ^ k) st.1).1 = 0 then (st.1, st.2 ++ [(tred (x, 2 ^ k) st.1).2]) else (tred (x, 2 ^ k) st.1 :: st.1.map (wst (tred (x, 2 ^ k) st.1)), st.2)
def tgo : List Nat → Nat → TS2 → TS2
  | [], _, st => st
  | x :: xs, k, st => tgo xs (k + 1) (tstep st k x)
def tra (rs : List Nat) : TS2 := tgo rs 0 ([], [])
def trail (rs : List Nat) (x : Nat) : Option Nat := if (tred (x, 0) (tra rs).1).1 = 0 then some (tred (x, 0) (tra rs).1).2 else none
end Gf
namespace Fb
open PySem L2 Mm
noncomputable def m__law_box : MFn := mFn 1 (sRetF (fLst (aCons (mFrz (fCB fListOf (aCons (mFrz (fSl (eV 0) oNone (oSome (eC (.int 63))))) aNil))) (aCons (eC (.int 0)) (aCons (eC (.int 0)) (aCons (eC (.int 41)) aNil))))))
noncomputable def m__law_take : MFn := mFn 5 (sSeq (sIf (cB (eOp iGt (eOp fIx (eV 0) (eC (.int 2))) (eC (.int 0)))) (sSeq (sAsg (eOp fIx (eV 0) (eC (.int 2))) (gN 2))
    (sSeq (sPut 0 (eC (.int 2)) (eOp iDiv (eV 2) (eV 1)))
    (sRet (eOp iMod (eV 2) (eV 1))))) sNil)
    (sSeq (sAsg (eC (.int 0)) (gN 3))
    (sSeq (sIf (cB (eOp iLt (eOp fIx (eV 0) (eC (.int 1))) (eCB fLen (aCons (eOp fIx (eV 0) (eC (.int 0))) aNil)))) (sSeq (sAsg (eOp fIx (eOp fIx (eV 0) (eC (.int 0))) (eOp fIx (eV 0) (eC (.int 1)))) (gN 3))
    (sAugC (eV 0) (eC (.int 1)) (fun i j => i + j) (eC (.int 1)))) sNil)
    (sSeq (sIf (cB (eOp iGe (eV 3) (eOp iPow (eC (.int 10)) (eC (.int 18))))) (sSeq (sPut 0 (eC (.int 2)) (eOp iDiv (eV 3) (eV 1)))
    (sRet (eOp iMod (eV 3) (eV 1)))) sNil)
    (sSeq (sAsg (eOp fIx (eV 0) (eC (.int 3))) (gN 4))
    (sSeq (sPut 0 (eC (.int 3)) (eOp iMod (eOp dAdd (eOp dAdd (eOp dAdd (eOp iPow (eV 4) (eC (.int 3))) (eOp iMul (eC (.int 69621)) (eV 4))) (eOp iMul (eC (.int 40693)) (eOp iMod (eV 3) (eC (.int 2147483549))))) (eC (.int 17))) (eC (.int 2147483549))))
    (sRet (eOp iMod (eOp iDiv (eOp fIx (eV 0) (eC (.int 3))) (eC (.int 64))) (eV 1)))))))))
noncomputable def m_FoldU_initU : MFn := mFn 4 (sSeq (sIf (cOr (cB (eOp iLt (eV 2) (eC (.int 0)))) (cOr (cB (eOp iGt (eV 2) (eC (.int 12)))) (cB (eOp iGt (eCB fLen (aCons (eV 1) aNil)) (eC (.int 12)))))) (sRaise "BadFold") sNil)
    (sSeq (sFor (itL (eV 1)) (gN 3) (sIf (cOr (cB (eOp iLt (eV 3) (eC (.int 0)))) (cB (eOp iGt (eOp iShr (eV 3) (eV 2)) (eC (.int 0))))) (sRaise "BadFold") sNil))
    (sSeq (sFldC "Fold" "lines" (eV 0) (eCB fTupOf (aCons (eV 1) aNil)))
    (sFldC "Fold" "wide" (eV 0) (eV 2)))))
noncomputable def m__law_shuffled : MFn := mFn 4 (sSeq (sOwn 2 (fLst aNil))
    (sSeq (sFor (itL (eV 1)) (gN 3) (sIns 2 (eCall m__law_take [] (aCons (eV 0) (aCons (eOp dAdd (eLenA 2) (eC (.int 1))) aNil))) (eV 3)))
    (sRetO 2)))
noncomputable def m__law_numbers : MFn := mFn 4 (sRetF (fLc (itR1 (aCons (eV 1) aNil)) (gN 3) cYes (eCall m__law_take [] (aCons (eV 0) (aCons (eOp iShl (eC (.int 1)) (eV 2)) aNil))) [3]))
noncomputable def m__law_lines : MFn := mFn 9 (sSeq (sOwn 3 (fLc (itR1 (aCons (eV 2) aNil)) (gN 7) cYes (eOp iShl (eC (.int 1)) (eV 7)) [7]))
    (sFrz 3 (sSeq (sOwn 3 (fCall m__law_shuffled [] (aCons (eV 0) (aCons (eOp dAdd (eV 3) (eCall m__law_numbers [] (aCons (eV 0) (aCons (eOp iSub (eV 1) (eV 2)) (aCons (eV 2) aNil))))) aNil))))
    (sSeq (sFor (itR1 (aCons (eOp iMul (eCall m__law_take [] (aCons (eV 0) (aCons (eC (.int 7)) aNil))) (eCB fInt (aCons (eOp iGt (eV 1) (eC (.int 1))) aNil))) aNil)) (gN 4) (sSeq (sAsg (eCall m__law_take [] (aCons (eV 0) (aCons (eV 1) aNil))) (gN 5))
    (sSeq (sAsg (eOp dAdd (eOp dAdd (eV 5) (eC (.int 1))) (eCall m__law_take [] (aCons (eV 0) (aCons (eOp iSub (eV 1) (eC (.int 1))) aNil)))) (gN 6))
    (sPut 3 (eV 5) (eOp iXor (eIxA 3 (eV 5)) (eIxA 3 (eOp iMod (eV 6) (eV 1))))))))
    (sSeq (sFor (itR1 (aCons (eOp iMul (eCall m__law_take [] (aCons (eV 0) (aCons (eC (.int 4)) aNil))) (eCB fInt (aCons (eOp iGt (eV 2) (eC (.int 1))) aNil))) aNil)) (gN 4) (sSeq (sAsg (eCall m__law_take [] (aCons (eV 0) (aCons (eV 2) aNil))) (gN 5))
    (sSeq (sAsg (eOp iMod (eOp dAdd (eOp dAdd (eV 5) (eC (.int 1))) (eCall m__law_take [] (aCons (eV 0) (aCons (eOp iSub (eV 2) (eC (.int 1))) aNil)))) (eV 2)) (gN 6))
    (sFrz 3 (sOwn 3 (fLc (itL (eV 3)) (gN 8) cYes (eOp iXor (eV 8) (eOp iShl (eOp iAnd (eOp iShr (eV 8) (eV 5)) (eC (.int 1))) (eV 6))) [8]))))))
    (sFrz 3 (sRet (eCB fTupOf (aCons (eV 3) aNil)))))))))
noncomputable def m_Fold_many : MFn := mFn 1 (sRet (eCB fLen (aCons (eFld "Fold" "lines" (eV 0)) aNil)))
noncomputable def m_Fold_size : MFn := mFn 1 (sRet (eFld "Fold" "wide" (eV 0)))
noncomputable def m_blended : MFn := mFn 3 (sSeq (sAsg (eC (.int 0)) (gN 1))
    (sSeq (sFor (itL (eV 0)) (gN 2) (sAsg (eOp iXor (eV 1) (eV 2)) (gN 1)))
    (sRet (eV 1))))
noncomputable def m_picked : MFn := mFn 4 (sRet (eCall m_blended [] (aCons (mFrz (fLc (itES (aCons (eV 0) aNil)) (gT (gNC (gN 2) (gNC (gN 3) gN0))) (cB (eOp fEq (eOp iAnd (eOp iShr (eV 1) (eV 2)) (eC (.int 1))) (eC (.int 1)))) (eV 3) [2, 3])) aNil)))
noncomputable def m_Fold_to : MFn := mFn 2 (sSeq (sIf (cOr (cB (eOp iLt (eV 1) (eC (.int 0)))) (cB (eOp iGt (eOp iShr (eV 1) (eCB fLen (aCons (eFld "Fold" "lines" (eV 0)) aNil))) (eC (.int 0))))) (sRaise "BadNumber") sNil)
    (sRet (eCall m_picked [] (aCons (eFld "Fold" "lines" (eV 0)) (aCons (eV 1) aNil)))))
end Fb
namespace Mm
open PySem L2
theorem shaped_int (x : Int) : SeqAt.shaped (.int x) = true := by simp [SeqAt.shaped, PyData.canLay0, PyData.depth]
theorem shaped_bool (x : Bool) : SeqAt.shaped (.bool x) = true := by simp [SeqAt.shaped, PyData.canLay0, PyData.depth]
@[simp] theorem fEq_int (S : Sto) (i j : Int) : fEq S (.int i) (.int j) = some (.bl (decide (i = j))) := by
  simp [fEq, D.py, shaped_int, PyData.eqv]
  rfl
@[simp] theorem fNe_int (S : Sto) (i j : Int) : fNe S (.int i) (.int j) = some (.bl (!decide (i = j))) := by
  simp [fNe, D.py, shaped_int, PyData.eqv]
  rfl
@[simp] theorem fEq_bl (S : Sto) (i j : Bool) : fEq S (.bl i) (.bl j) = some (.bl (i == j)) := by
  simp [fEq, D.py, shaped_bool, PyData.eqv]
@[simp] theorem fNe_bl (S : Sto) (i j : Bool) : fNe S (.bl i) (.bl j) = some (.bl (!(i == j))) := by
  simp [fNe, D.py, shaped_bool, PyData.eqv]
theorem nl_eq (xs : List Nat) : nl xs = (xs.map Int.ofNat).map D.int := by simp [nl]
def nins (x : Nat) : List Nat → List Nat
  | [] => [x]
  | y :: ys => if x ≤ y then x :: y :: ys else y :: nins x ys
def nsrt : List Nat → List Nat
  | [] => []
  | x :: xs => nins x (nsrt xs)
end Mm
namespace Fb
open PySem L2 Mm Gf
theorem nl_map {xs : List Nat} {f : D → D} {g : Nat → Nat} (h : ∀ x ∈ xs, f (nd x) = nd (g x)) : (nl xs).map f = nl (xs.map g) := by
  simp only [nl, List.map_map]
  exact List.map_congr_left fun x hx => h x hx
theorem mem_nl {d : D} {xs : List Nat} : d ∈ nl xs ↔ ∃ x ∈ xs, d = nd x := by
  unfold nl
  rw [List.mem_map]
  constructor
  · rintro ⟨x, hx, e⟩
    exact ⟨x, hx, e.symm⟩
  · rintro ⟨x, hx, e⟩
    exact ⟨x, hx, e.symm⟩
theorem powB_of {i : Int} {j : Int} (h0 : 0 ≤ j) (h1 : j ≤ 1000000) (hi : i.natAbs < 2 ^ 64) : powB i j = true := by
  unfold powB
  rw [decide_eq_true h0, bBnd_iff.mpr (show j.natAbs ≤ 1000000 by omega), bBnd_iff.mpr (show i.natAbs ≤ 18446744073709551615 by omega)]
  rfl
theorem blended_ok (S : Sto) (xs : List Nat) : m_blended [.lst (nl xs)] S = .ok (.val (nd (xs.foldl (· ^^^ ·) 0))) S := by
  have key := forL_inv (I := fun ds env S' => S' = S ∧ ∃ (l : Nat) (bs : List Nat) (s : Sl), ds = nl bs ∧ env = [.v (.lst (nl xs)), .v (nd l), s] ∧ bs.foldl (· ^^^ ·) l = xs.foldl (· ^^^ ·) 0) (g := gN 2) (b := sAsg (eOp iXor (eV 1) (eV 2)) (gN 1))
    (fun d ds env S' h => by
      obtain ⟨rfl, l, bs, s, e1, rfl, e3⟩ := h
      cases bs with
      | nil => simp at e1
      | cons b bs =>
        simp at e1
        obtain ⟨rfl, rfl⟩ := e1
        refine ⟨_, rfl, [.v (.lst (nl xs)), .v (nd (l ^^^ b)), .v (nd b)], S', .inl ?_, rfl, _, bs, _, rfl, rfl, e3⟩
        simp) (nl xs) [.v (.lst (nl xs)), .v (nd 0), .no] S ⟨rfl, 0, xs, .no, rfl, rfl, rfl⟩
  obtain ⟨e', S', h1, rfl, l, bs, s, e1, rfl, e3⟩ := key
  have : bs = [] := by
    cases bs with
    | nil => rfl
    | cons b bs => simp at e1
  subst this
  simp [m_blended]
  have h1' : forL (gN 2) (sAsg (eOp iXor (eV 1) (eV 2)) (gN 1)) (nl xs) [.v (.lst (nl xs)), .v (.int 0), .no] S' = .nx [.v (.lst (nl xs)), .v (nd l), s] S' := h1
  rw [h1']
  simp at e3
  simp [e3]
end Fb
namespace Mm
open PySem L2
theorem forM {α β σ : Type} {g : MG} {b : MS} {S : Sto} (φ : β → D) (E : α → σ → Envr) (f : α → β → α) (P : α → Prop) : ∀ (xs : List β),
    (∀ a s x, x ∈ xs → P a → ∃ e1, g (φ x) (E a s) = some e1 ∧ ∃ s2, b e1 S = .nx (E (f a x) s2) S ∧ P (f a x)) →
    ∀ a s, P a → ∃ s2, forL g b (xs.map φ) (E a s) S = .nx (E (xs.foldl f a) s2) S ∧ P (xs.foldl f a)
  | [], _, a, s, h => ⟨s, rfl, h⟩
  | x :: xs, step, a, s, h => by
    obtain ⟨e1, h1, s2, h2, h3⟩ := step a s x List.mem_cons_self h
    obtain ⟨s3, h4, h5⟩ := forM φ E f P xs (fun a s y hy => step a s y (List.mem_cons_of_mem _ hy)) (f a x) s2 h3
    refine ⟨s3, ?_, h5⟩
    rw [List.map_cons, forL, h1]
    simp only [h2]
    exact h4
@[simp] theorem wipe_nil (env : Envr) : wipeE env [] = env.map hideS := rfl
@[simp] theorem wipe_cons (env : Envr) (v : Nat) (vs : List Nat) : wipeE env (v :: vs) = (wipeE env vs).set v .no := rfl
@[simp] theorem hide_v (d : D) : hideS (.v d) = .v d := rfl
@[simp] theorem hide_o (d : Cell) : hideS (.o d) = .no := rfl
@[simp] theorem hide_no : hideS .no = .no := rfl
end Mm
namespace Fb
open PySem L2 Mm Gf
def sel (x : Nat) : Nat → List Nat → List Nat
  | _, [] => []
  | k, r :: rs => if x.testBit k then r :: sel x (k + 1) rs else sel x (k + 1) rs
theorem xor_fold : ∀ (xs : List Nat) (a : Nat), xs.foldl (· ^^^ ·) a = a ^^^ xs.foldl (· ^^^ ·) 0
  | [], a => by simp
  | x :: xs, a => by
    rw [List.foldl_cons, List.foldl_cons, xor_fold xs (a ^^^ x), xor_fold xs (0 ^^^ x), Nat.zero_xor, Nat.xor_assoc]
theorem sel_app (x : Nat) : ∀ (rs : List Nat) (k : Nat), (sel x k rs).foldl (· ^^^ ·) 0 = app rs (x / 2 ^ k)
  | [], _ => rfl
  | r :: rs, k => by
    have e : (x / 2 ^ k).testBit 0 = x.testBit k := by rw [Nat.testBit_div_two_pow]; simp
    have e2 : x / 2 ^ k / 2 = x / 2 ^ (k + 1) := by rw [Nat.div_div_eq_div_mul, Nat.pow_succ]
    rw [app_cons, e, e2, ← sel_app x rs (k + 1), sel]
    split
    · rw [List.foldl_cons, xor_fold, Nat.zero_xor]
    · rw [Nat.zero_xor]
@[simp] theorem bit_and_one (x k : Nat) : (Builtin.bitAnd ((x : Int) >>> k) 1 = 1) ↔ x.testBit k = true := by
  have e : ((x : Int) >>> k) = ((x >>> k : Nat) : Int) := rfl
  have : Builtin.bitAnd (((x >>> k : Nat) : Int)) 1 = ((x >>> k &&& 1 : Nat) : Int) := band_nat (x >>> k) 1
  rw [e, this, Nat.and_one_is_mod, Nat.testBit_eq_decide_div_mod_eq, Nat.shiftRight_eq_div_pow, decide_eq_true_eq]
  omega
theorem picked_ok (S : Sto) (rs : List Nat) (x : Nat) (hl : rs.length ≤ 1000) (a : D) (ha : a = .tup (nl rs) ∨ a = .lst (nl rs)) : m_picked [a, .int x] S = .ok (.val (nd (app rs x))) S := by
  have key : ∀ (ys : List Nat) (k : Nat), lcR (gT (gNC (gN 2) (gNC (gN 3) gN0))) (cB (eOp fEq (eOp iAnd (eOp iShr (eV 1) (eV 2)) (eC (.int 1))) (eC (.int 1)))) (eV 3) [.v a, .v (nd x), .no, .no] (enumD k (nl ys)) S = .ok (nl (sel x k ys)) S := fun ys => by
    induction ys with
    | nil => intro k; rfl
    | cons y ys ih =>
      intro k
      rw [nl_cons, enumD, lcR]
      simp [ih]
      cases z : x.testBit k <;> simp [sel, z, ih]
  have key0 := key rs 0
  have len : ∀ (ys : List Nat) (k : Nat), (sel x k ys).length ≤ ys.length := fun ys => by
    induction ys with
    | nil => intro k; simp [sel]
    | cons y ys ih =>
      intro k
      have := ih (k + 1)
      unfold sel
      split <;> simp <;> omega
  have l0 := len rs 0
  have sz := szB_of (n := (sel x 0 rs).length) (by omega)
  have b := blended_ok S (sel x 0 rs)
  rw [sel_app, Nat.pow_zero, Nat.div_one] at b
  rcases ha with rfl | rfl <;> simp [m_picked, key0, sz, b]
end Fb
namespace Mm
open PySem L2
theorem atI_nat {α : Type} (xs : List α) (k : Nat) : atI xs (k : Int) = xs[k]? := by
  unfold atI ixN
  rw [if_pos (Int.natCast_nonneg k)]
  by_cases h : k < xs.length
  · rw [if_pos (by omega)]
    simp
  · rw [if_neg (by omega)]
    simp
    omega
@[simp] theorem atI_0 {α : Type} (x : α) (xs : List α) : atI (x :: xs) 0 = some x := atI_nat (x :: xs) 0
@[simp] theorem atI_1 {α : Type} (x y : α) (xs : List α) : atI (x :: y :: xs) 1 = some y := atI_nat (x :: y :: xs) 1
@[simp] theorem atI_2 {α : Type} (x y z : α) (xs : List α) : atI (x :: y :: z :: xs) 2 = some z := atI_nat (x :: y :: z :: xs) 2
@[simp] theorem atI_3 {α : Type} (x y z u : α) (xs : List α) : atI (x :: y :: z :: u :: xs) 3 = some u := atI_nat (x :: y :: z :: u :: xs) 3
theorem atI_m1 {α : Type} (xs : List α) (x : α) : atI (xs ++ [x]) (-1) = some x := by
  unfold atI ixN
  rw [if_neg (by omega), if_pos (by simp; omega)]
  simp
  have : ((-1 : Int) + (xs.length + 1)).toNat = xs.length := by omega
  rw [this]
  simp
theorem ixN_of {n j : Nat} (hj : j < n) : ixN n (j : Int) = some j := by
  unfold ixN
  rw [if_pos (by omega), if_pos (by omega)]
  simp
end Mm
namespace Fb
open PySem L2 Mm Gf
def ffs (rs : List Nat) (w : Nat) : List (Str × D) := [("lines", .tup (nl rs)), ("wide", nd w)]
def fold (rs : List Nat) (w : Nat) : D := .ins "Fold" (ffs rs w)
@[simp] theorem fold_ins (S : Sto) (rs : List Nat) (w : Nat) : insOf "Fold" S (fold rs w) = some (ffs rs w) := by
  unfold fold
  simp
@[simp] theorem ffs_lines (rs : List Nat) (w : Nat) : (ffs rs w).lookup ("lines" : Str) = some (D.tup (nl rs)) := rfl
@[simp] theorem ffs_wide (rs : List Nat) (w : Nat) : (ffs rs w).lookup ("wide" : Str) = some (nd w) := rfl
@[simp] theorem ffs_to (rs : List Nat) (w : Nat) : (ffs rs w).lookup ("to" : Str) = none := rfl
@[simp] theorem ffs_many (rs : List Nat) (w : Nat) : (ffs rs w).lookup ("many" : Str) = none := rfl
@[simp] theorem ffs_size (rs : List Nat) (w : Nat) : (ffs rs w).lookup ("size" : Str) = none := rfl
@[simp] theorem ffs_then (rs : List Nat) (w : Nat) : (ffs rs w).lookup ("then" : Str) = none := rfl
@[simp] theorem ffs_kernel (rs : List Nat) (w : Nat) : (ffs rs w).lookup ("kernel" : Str) = none := rfl
@[simp] theorem ffs_onto (rs : List Nat) (w : Nat) : (ffs rs w).lookup ("onto" : Str) = none := rfl
@[simp] theorem ffs_single (rs : List Nat) (w : Nat) : (ffs rs w).lookup ("single" : Str) = none := rfl
@[simp] theorem ffs_back (rs : List Nat) (w : Nat) : (ffs rs w).lookup ("back" : Str) = none := rfl
@[simp] theorem ffs_least (rs : List Nat) (w : Nat) : (ffs rs w).lookup ("least" : Str) = none := rfl
@[simp] theorem ffs_rows (rs : List Nat) (w : Nat) : (ffs rs w).lookup ("rows" : Str) = none := rfl
@[simp] theorem ffs_part (rs : List Nat) (w : Nat) : (ffs rs w).lookup ("part" : Str) = none := rfl
@[simp] theorem ffs_beside (rs : List Nat) (w : Nat) : (ffs rs w).lookup ("beside" : Str) = none := rfl
structure FOk (rs : List Nat) (w : Nat) : Prop where
  len : rs.length ≤ 12
  wide : w ≤ 12
  lt : ∀ r ∈ rs, r < 2 ^ w
theorem shr_pos {x k : Nat} : decide ((0 : Int) < ((x >>> k : Nat) : Int)) = decide (2 ^ k ≤ x) := by
  rw [Nat.shiftRight_eq_div_pow]
  apply decide_eq_decide.mpr
  constructor
  · intro h
    have h' : 0 < x / 2 ^ k := by omega
    exact Nat.le_of_not_lt fun l => by
      rw [Nat.div_eq_of_lt l] at h'
      omega
  · intro h
    have := Nat.div_pos h (Nat.two_pow_pos k)
    omega
theorem size_ok (S : Sto) (rs : List Nat) (w : Nat) : m_Fold_size [fold rs w] S = .ok (.val (nd w)) S := by
  simp [m_Fold_size]
end Fb
namespace Mm
open PySem L2
theorem set_last {α : Type} (S : List α) (x y : α) : (S ++ [x]).set S.length y = S ++ [y] := by
  rw [List.set_append_right _ _ (Nat.le_refl _)]
  simp
theorem under_nl (n : Nat) (xs : List Nat) : underL n (nl xs) := by
  rw [nl_eq]
  exact under_ints n _
end Mm
namespace Fb
open PySem L2 Mm Gf
theorem new_ok (S : Sto) {rs : List Nat} {w : Nat} (h : FOk rs w) (a : D) (ha : a = .tup (nl rs) ∨ a = .lst (nl rs)) : popI "Fold" S (m_FoldU_initU [.ref S.length, a, .int w] (S ++ [.ins "Fold" []])) = .ok (fold rs w) S := by
  obtain ⟨s2, e, _⟩ := forM (S := S ++ [.ins "Fold" []]) (g := gN 3) (b := sIf (cOr (cB (eOp iLt (eV 3) (eC (.int 0)))) (cB (eOp iGt (eOp iShr (eV 3) (eV 2)) (eC (.int 0))))) (sRaise "BadFold") sNil)
    nd (fun (_ : Unit) (s : Sl) => [.v (.ref S.length), .v a, .v (nd w), s]) (fun _ _ => ()) (fun _ => True) rs (fun _ s r hr _ => by
      refine ⟨[.v (.ref S.length), .v a, .v (nd w), .v (nd r)], rfl, .v (nd r), ?_, trivial⟩
      have q := shr_pos (x := r) (k := w)
      have : ¬ 2 ^ w ≤ r := Nat.not_le.mpr (h.lt r hr)
      have n0 : ¬ ((r : Int) < 0) := by omega
      have e : ((r : Int) >>> w) = ((r >>> w : Nat) : Int) := rfl
      have e2 : (r : Int) >>> w = 0 := by
        rw [e, Nat.shiftRight_eq_div_pow, Nat.div_eq_of_lt (h.lt r hr)]
        rfl
      simp [n0, e2]) () .no trivial
  have e' : forL (gN 3) (sIf (cOr (cB (eOp iLt (eV 3) (eC (.int 0)))) (cB (eOp iGt (eOp iShr (eV 3) (eV 2)) (eC (.int 0))))) (sRaise "BadFold") sNil) (nl rs) [.v (.ref S.length), .v a, .v (.int w), .no] (S ++ [.ins "Fold" []]) = .nx [.v (.ref S.length), .v a, .v (nd w), s2] (S ++ [.ins "Fold" []]) := e
  have h1 := h.len
  have h2 := h.wide
  have n1 : ¬ ((w : Int) < 0) := by omega
  have n2 : ¬ ((12 : Int) < w) := by omega
  have n3 : ¬ ((12 : Int) < rs.length) := by omega
  have run : m_FoldU_initU [.ref S.length, a, .int w] (S ++ [.ins "Fold" []]) = .ok (.val .non) (S ++ [.ins "Fold" [("lines", .tup (nl rs)), ("wide", nd w)]]) := by
    rcases ha with rfl | rfl <;> (simp [m_FoldU_initU, n1, n2, n3]; rw [e']; simp [set_last, putFD, show ¬ ("lines" : Str) = "wide" by decide])
  rw [run]
  have u : underF S.length [("lines", .tup (nl rs)), ("wide", nd w)] := by
    refine ⟨?_, ?_, trivial⟩
    · unfold D.under
      exact under_nl _ _
    · unfold D.under
      trivial
  unfold popI
  simp only [List.getLast?_append, List.getLast?_singleton, Option.some_or]
  rw [if_pos ⟨rfl, rfl, u⟩]
  rfl
theorem to_ok (S : Sto) {rs : List Nat} {w x : Nat} (h : FOk rs w) (hx : x < 2 ^ rs.length) : m_Fold_to [fold rs w, .int x] S = .ok (.val (nd (app rs x))) S := by
  have p := picked_ok S rs x (by have := h.len; omega) (.tup (nl rs)) (.inl rfl)
  have n0 : ¬ ((x : Int) < 0) := by omega
  have n1 : ¬ (0 < (x : Int) >>> rs.length) := by
    have e : ((x : Int) >>> rs.length) = ((x >>> rs.length : Nat) : Int) := rfl
    rw [e, Nat.shiftRight_eq_div_pow, Nat.div_eq_of_lt hx]
    simp
  simp [m_Fold_to, n0, n1, p]
end Fb
namespace Gf
open Mm
def kerL (rs : List Nat) : List Nat := nsrt (bas (tra rs).2)
def lst (rs : List Nat) (x : Nat) : Option Nat := (trail rs x).map fun m => red m (kerL rs)
def bk (rs : List Nat) (x : Nat) : Nat := (lst rs x).getD 0
def backL (rs : List Nat) (w : Nat) : List Nat := (List.range w).map fun i => bk rs (2 ^ i)
end Gf
namespace Fb
open PySem L2 Mm Gf
theorem rng0 (n : Nat) : rngD 0 n = nl (List.range n) := by
  unfold rngD nl
  apply List.map_congr_left
  intro i _
  show D.int (0 + (i : Int)) = nd i
  rw [Int.zero_add]
theorem rgB_nat {n : Nat} (h : n ≤ 100000) : rgB (n : Int) = true := by
  exact bBnd_iff.mpr (by omega)
end Fb
namespace Fb
open PySem L2 Mm Gf
def bx (xs : List Int) (i : Nat) (t s : Int) : Cell := .lst [.lst (xs.map D.int), .int i, .int t, .int s]
def Bx (b : Cell) : Prop := ∃ (xs : List Int) (i : Nat) (t s : Int), b = bx xs i t s ∧ s.natAbs < 2147483549
theorem divB_of {i : Int} {k : Nat} (h0 : 0 < k) (h1 : k < 1073741824) : divB i (k : Int) = true := by
  unfold divB
  rw [decide_eq_true (show (k : Int) ≠ 0 by omega), decide_eq_true (show (k : Int).natAbs < 1073741824 by omega)]
  rfl
theorem fmod_nat (i : Int) {k : Nat} (h : 0 < k) : ∃ r : Nat, i.fmod (k : Int) = (r : Int) ∧ r < k := by
  have h1 : 0 ≤ i.fmod (k : Int) := Int.fmod_nonneg_of_pos i (by omega)
  have h2 : i.fmod (k : Int) < k := Int.fmod_lt_of_pos i (by omega)
  exact ⟨(i.fmod (k : Int)).toNat, by omega, by omega⟩
theorem mulB_l {i j : Int} (h : i.natAbs ≤ 18446744073709551615) : mulB i j = true := by
  unfold mulB
  rw [bBnd_iff.mpr h, Bool.true_or]
theorem powB_nat {i : Int} (h : i.natAbs ≤ 18446744073709551615) (j : Nat) (hj : j ≤ 1000000) : powB i (j : Int) = true := powB_of (by omega) (by omega) (by omega)
@[simp] theorem ixN41 : ixN 4 1 = some 1 := rfl
@[simp] theorem ixN42 : ixN 4 2 = some 2 := rfl
@[simp] theorem ixN43 : ixN 4 3 = some 3 := rfl
noncomputable def takeTail : MS := sSeq (sIf (cB (eOp iGe (eV 3) (eOp iPow (eC (.int 10)) (eC (.int 18))))) (sSeq (sPut 0 (eC (.int 2)) (eOp iDiv (eV 3) (eV 1)))
    (sRet (eOp iMod (eV 3) (eV 1)))) sNil)
    (sSeq (sAsg (eOp fIx (eV 0) (eC (.int 3))) (gN 4))
    (sSeq (sPut 0 (eC (.int 3)) (eOp iMod (eOp dAdd (eOp dAdd (eOp dAdd (eOp iPow (eV 4) (eC (.int 3))) (eOp iMul (eC (.int 69621)) (eV 4))) (eOp iMul (eC (.int 40693)) (eOp iMod (eV 3) (eC (.int 2147483549))))) (eC (.int 17))) (eC (.int 2147483549))))
    (sRet (eOp iMod (eOp iDiv (eOp fIx (eV 0) (eC (.int 3))) (eC (.int 64))) (eV 1)))))
theorem m_take_eq : m__law_take = mFn 5 (sSeq (sIf (cB (eOp iGt (eOp fIx (eV 0) (eC (.int 2))) (eC (.int 0)))) (sSeq (sAsg (eOp fIx (eV 0) (eC (.int 2))) (gN 2))
    (sSeq (sPut 0 (eC (.int 2)) (eOp iDiv (eV 2) (eV 1)))
    (sRet (eOp iMod (eV 2) (eV 1))))) sNil)
    (sSeq (sAsg (eC (.int 0)) (gN 3))
    (sSeq (sIf (cB (eOp iLt (eOp fIx (eV 0) (eC (.int 1))) (eCB fLen (aCons (eOp fIx (eV 0) (eC (.int 0))) aNil)))) (sSeq (sAsg (eOp fIx (eOp fIx (eV 0) (eC (.int 0))) (eOp fIx (eV 0) (eC (.int 1)))) (gN 3))
    (sAugC (eV 0) (eC (.int 1)) (fun i j => i + j) (eC (.int 1)))) sNil) takeTail))) := rfl
theorem pow1018 : powB 10 18 = true := powB_of (by omega) (by omega) (by decide)
theorem tail_ok {S : Sto} {n : Nat} {xs : List Int} {i : Nat} {t s : Int} (hS : S[n]? = some (bx xs i t s)) (hs : s.natAbs < 2147483549) {k : Nat} (h0 : 0 < k) (h1 : k < 1073741824) (c : Int) :
    ∃ b' r, takeTail [.v (.ref n), .v (.int k), .no, .v (.int c), .no] S = .rt (.val (nd r)) (S.set n b') ∧ Bx b' ∧ r < k := by
  have hn : n < S.length := (List.getElem?_eq_some_iff.mp hS).1
  have kz' : ¬ k = 0 := by omega
  have dv := fun i : Int => divB_of (i := i) h0 h1
  have dv64 := fun i : Int => divB_of (i := i) (k := 64) (by decide) (by decide)
  have p18 := pow1018
  by_cases hc : (10 : Int) ^ 18 ≤ c
  · obtain ⟨r, e1, e2⟩ := fmod_nat c h0
    refine ⟨bx xs i (c.fdiv k) s, r, ?_, ⟨xs, i, _, s, rfl, hs⟩, e2⟩
    have hc' : (1000000000000000000 : Int) ≤ c := hc
    simp [takeTail, hS, bx, p18, hc', dv, kz', e1]
  · have hc' : ¬ (1000000000000000000 : Int) ≤ c := hc
    obtain ⟨q, q1, q2⟩ := fmod_nat c (k := 2147483549) (by decide)
    have pw := powB_nat (i := s) (by omega) 3 (by decide)
    have m1 := mulB_l (i := 69621) (j := s) (by decide)
    have m2 := fun j : Int => mulB_l (i := 40693) (j := j) (by decide)
    obtain ⟨s', s1, s2⟩ := fmod_nat (s ^ 3 + 69621 * s + 40693 * c.fmod 2147483549 + 17) (k := 2147483549) (by decide)
    obtain ⟨r, e1, e2⟩ := fmod_nat ((s' : Int).fdiv 64) h0
    refine ⟨bx xs i t s', r, ?_, ⟨xs, i, t, s', rfl, by omega⟩, e2⟩
    have s1' : (s ^ 3 + 69621 * s + 40693 * c.fmod 2147483549 + 17).fmod 2147483549 = (s' : Int) := s1
    have pw' : powB s 3 = true := pw
    have d64 : ∀ i : Int, divB i 64 = true := dv64
    have gs : ∀ x, (S.set n x)[n]? = some x := fun x => List.getElem?_set_self hn
    simp [takeTail, hS, bx, p18, hc', dv, d64, kz', pw', m1, m2, s1', e1, gs]
theorem take_ok {S : Sto} {n : Nat} {b : Cell} (hS : S[n]? = some b) (hb : Bx b) {k : Nat} (h0 : 0 < k) (h1 : k < 1073741824) : ∃ b' r, m__law_take [.ref n, .int k] S = .ok (.val (nd r)) (S.set n b') ∧ Bx b' ∧ r < k := by
  obtain ⟨xs, i, t, s, rfl, hs⟩ := hb
  have hn : n < S.length := (List.getElem?_eq_some_iff.mp hS).1
  have kz' : ¬ k = 0 := by omega
  have dv := fun i : Int => divB_of (i := i) h0 h1
  rw [m_take_eq]
  by_cases ht : 0 < t
  · obtain ⟨r, e1, e2⟩ := fmod_nat t h0
    refine ⟨bx xs i (t.fdiv k) s, r, ?_, ⟨xs, i, _, s, rfl, hs⟩, e2⟩
    simp [hS, bx, ht, dv, kz', e1]
  · by_cases hi : i < xs.length
    · have e : atI (xs.map D.int) (i : Int) = some (.int (xs[i])) := by
        rw [Mm.atI_nat]
        simp [hi]
      obtain ⟨b', r, h3, h4, h5⟩ := tail_ok (S := S.set n (bx xs (i + 1) t s)) (n := n) (List.getElem?_set_self hn) hs h0 h1 xs[i]
      refine ⟨b', r, ?_, h4, h5⟩
      rw [List.set_set] at h3
      have h3' : takeTail [.v (.ref n), .v (.int k), .no, .v (.int xs[i]), .no] (S.set n (.lst [.lst (xs.map D.int), .int ((i : Int) + 1), .int t, .int s])) = _ := h3
      simp [hS, bx, hi, e, ht]
      rw [h3']
    · obtain ⟨b', r, h3, h4, h5⟩ := tail_ok hS hs h0 h1 0
      refine ⟨b', r, ?_, h4, h5⟩
      simp [hS, bx, hi, ht]
      rw [h3]
theorem cut_map (ns : List Int) (lo hi : Option Int) : ∃ xs : List Int, cutD (ns.map D.int) lo hi = xs.map D.int := by
  unfold cutD
  exact ⟨(ns.drop (HT.sIx (ns.map D.int).length 0 lo)).take (HT.sIx (ns.map D.int).length (ns.map D.int).length hi - HT.sIx (ns.map D.int).length 0 lo), by rw [List.map_take, List.map_drop]⟩
theorem box_ok (ns : List Int) (S : Sto) : ∃ b, m__law_box [.scr ns] S = .ok (.own b) S ∧ Bx b := by
  have s4 := szB_of (n := 4) (by omega)
  obtain ⟨xs, e⟩ := cut_map ns none (some 63)
  refine ⟨bx xs 0 0 41, ?_, ⟨_, 0, 0, 41, rfl, by decide⟩⟩
  simp [m__law_box, s4, bx, e]
theorem insert_perm (xs : List Nat) (k x : Nat) : (xs.take k ++ [x] ++ xs.drop k).Perm (x :: xs) := by
  rw [List.append_assoc]
  have := List.perm_middle (l₁ := xs.take k) (l₂ := xs.drop k) (a := x)
  simpa using this
end Fb
namespace Gf
theorem all_row {w n : Nat} {ls : List Nat} {o j : Nat} (hl : ls.length = n) (ho : o < n) (hj : j < n) (ne : o ≠ j) (a : All w ls) : All w (ls.set o (ls.getD o 0 ^^^ ls.getD j 0)) := fun x hx => by
  refine .sub (fun b hb => ?_) (a x hx)
  obtain ⟨i, hi⟩ := List.getElem?_of_mem hb
  have lo : o < ls.length := by omega
  have lj : j < ls.length := by omega
  have mj : Sp (ls.set o (ls.getD o 0 ^^^ ls.getD j 0)) (ls.getD j 0) := .mem (List.mem_of_getElem? (i := j) (by
    rw [List.getElem?_set_ne ne]
    simp [List.getD_eq_getElem?_getD, lj]))
  by_cases e : o = i
  · subst e
    have mo : Sp (ls.set o (ls.getD o 0 ^^^ ls.getD j 0)) (ls.getD o 0 ^^^ ls.getD j 0) := .mem (List.mem_of_getElem? (i := o) (List.getElem?_set_self lo))
    have := mo.xor mj
    have eb : ls.getD o 0 = b := by rw [List.getD_eq_getElem?_getD, hi]; rfl
    rw [xor_cancel_right] at this
    rw [← eb]
    exact this
  · exact .mem (List.mem_of_getElem? (i := i) (by rw [List.getElem?_set_ne e]; exact hi))
def phi (o f l : Nat) : Nat := l ^^^ if l.testBit o then 2 ^ f else 0
theorem phi_bit (o f l i : Nat) : (phi o f l).testBit i = (l.testBit i ^^ (l.testBit o && decide (f = i))) := by
  unfold phi
  rw [Nat.testBit_xor]
  congr 1
  split
  · rename_i z
    rw [z, Nat.testBit_two_pow]
    simp
  · rename_i z
    simp at z
    simp [z]
theorem phi_zero (o f : Nat) : phi o f 0 = 0 := by simp [phi]
theorem phi_xor (o f x y : Nat) : phi o f (x ^^^ y) = phi o f x ^^^ phi o f y := Nat.eq_of_testBit_eq fun i => by
  simp only [phi_bit, Nat.testBit_xor]
  cases x.testBit i <;> cases y.testBit i <;> cases x.testBit o <;> cases y.testBit o <;> cases decide (f = i) <;> rfl
theorem phi_phi {o f : Nat} (h : f ≠ o) (x : Nat) : phi o f (phi o f x) = x := Nat.eq_of_testBit_eq fun i => by
  simp only [phi_bit]
  simp [h]
theorem phi_lt {o f w l : Nat} (hl : l < 2 ^ w) (hf : f < w) : phi o f l < 2 ^ w := by
  unfold phi
  refine Nat.xor_lt_two_pow hl ?_
  split
  · exact Nat.pow_lt_pow_right (by decide) hf
  · exact Nat.two_pow_pos w
theorem all_col {w : Nat} {ls : List Nat} {o f : Nat} (hf : f < w) (ne : f ≠ o) (a : All w ls) : All w (ls.map (phi o f)) := fun x hx => by
  have := Sp.image (phi o f) (phi_zero o f) (phi_xor o f) (a (phi o f x) (phi_lt hx hf))
  rwa [phi_phi ne] at this
structure Lin (n w : Nat) (ls : List Nat) : Prop where
  len : ls.length = n
  lt : ∀ l ∈ ls, l < 2 ^ w
  all : All w ls
theorem Lin.row {n w : Nat} {ls : List Nat} {o j : Nat} (h : Lin n w ls) (ho : o < n) (hj : j < n) (ne : o ≠ j) : Lin n w (ls.set o (ls.getD o 0 ^^^ ls.getD j 0)) where
  len := by rw [List.length_set]; exact h.len
  lt := fun l hl => by
    rcases List.mem_or_eq_of_mem_set hl with hl | e
    · exact h.lt l hl
    · rw [e]
      have lo : o < ls.length := by have := h.len; omega
      have lj : j < ls.length := by have := h.len; omega
      refine Nat.xor_lt_two_pow (h.lt _ ?_) (h.lt _ ?_)
      · simp [List.getD_eq_getElem?_getD, lo]
      · simp [List.getD_eq_getElem?_getD, lj]
  all := all_row h.len ho hj ne h.all
theorem Lin.col {n w : Nat} {ls : List Nat} {o f : Nat} (h : Lin n w ls) (hf : f < w) (ne : f ≠ o) : Lin n w (ls.map (phi o f)) where
  len := by rw [List.length_map]; exact h.len
  lt := fun l hl => by
    obtain ⟨x, hx, rfl⟩ := List.mem_map.mp hl
    exact phi_lt (h.lt x hx) hf
  all := all_col hf ne h.all
theorem Lin.perm {n w : Nat} {ls ks : List Nat} (p : ks.Perm ls) (h : Lin n w ls) : Lin n w ks where
  len := p.length_eq.trans h.len
  lt := fun l hl => h.lt l (p.mem_iff.mp hl)
  all := fun x hx => (Sp.perm p).mpr (h.all x hx)
theorem Lin.plain {n w : Nat} {ys : List Nat} (hl : ys.length = n - w) (hw : w ≤ n) (lt : ∀ y ∈ ys, y < 2 ^ w) : Lin n w (plain w ++ ys) where
  len := by rw [List.length_append, plain_len]; omega
  lt := fun l h => by
    rcases List.mem_append.mp h with h | h
    · exact plain_lt l h
    · exact lt l h
  all := fun x hx => (plain_all w x hx).mono fun b hb => List.mem_append_left _ hb
end Gf
namespace Fb
open PySem L2 Mm Gf
theorem mod_ne {o r n : Nat} (ho : o < n) (hr : r < n - 1) : (o + 1 + r) % n < n ∧ o ≠ (o + 1 + r) % n := by
  refine ⟨Nat.mod_lt _ (by omega), ?_⟩
  by_cases h : o + 1 + r < n
  · rw [Nat.mod_eq_of_lt h]
    omega
  · have : (o + 1 + r) % n = o + 1 + r - n := by
      rw [Nat.mod_eq_sub_mod (by omega), Nat.mod_eq_of_lt (by omega)]
    omega
theorem fmod_natnat (a b : Nat) : (a : Int).fmod (b : Int) = ((a % b : Nat) : Int) := by
  rw [Int.fmod_eq_emod_of_nonneg _ (by omega)]
  rfl
theorem nl_get {xs : List Nat} {i : Nat} (h : i < xs.length) : atI (nl xs) (i : Int) = some (nd (xs.getD i 0)) := by
  rw [Mm.atI_nat]
  simp [nl, h]
theorem nl_set (xs : List Nat) (i x : Nat) : (nl xs).set i (nd x) = nl (xs.set i x) := by simp [nl, List.map_set]
noncomputable def lBody1 : MS := sSeq (sAsg (eCall m__law_take [] (aCons (eV 0) (aCons (eV 1) aNil))) (gN 5))
    (sSeq (sAsg (eOp dAdd (eOp dAdd (eV 5) (eC (.int 1))) (eCall m__law_take [] (aCons (eV 0) (aCons (eOp iSub (eV 1) (eC (.int 1))) aNil)))) (gN 6))
    (sPut 3 (eV 5) (eOp iXor (eIxA 3 (eV 5)) (eIxA 3 (eOp iMod (eV 6) (eV 1))))))
noncomputable def lBody2 : MS := sSeq (sAsg (eCall m__law_take [] (aCons (eV 0) (aCons (eV 2) aNil))) (gN 5))
    (sSeq (sAsg (eOp iMod (eOp dAdd (eOp dAdd (eV 5) (eC (.int 1))) (eCall m__law_take [] (aCons (eV 0) (aCons (eOp iSub (eV 2) (eC (.int 1))) aNil)))) (eV 2)) (gN 6))
    (sFrz 3 (sOwn 3 (fLc (itL (eV 3)) (gN 8) cYes (eOp iXor (eV 8) (eOp iShl (eOp iAnd (eOp iShr (eV 8) (eV 5)) (eC (.int 1))) (eV 6))) [8]))))
theorem phi_int (l o f : Nat) : ((l : Int) >>> o).toNat &&& 1 = if l.testBit o then 1 else 0 := by
  have e : ((l : Int) >>> o) = ((l >>> o : Nat) : Int) := rfl
  rw [e, Int.toNat_natCast, Nat.and_one_is_mod, Nat.testBit_eq_decide_div_mod_eq, Nat.shiftRight_eq_div_pow]
  simp
  split <;> omega
theorem band_one (l o : Nat) : Builtin.bitAnd ((l : Int) >>> o) 1 = ((if l.testBit o then 1 else 0 : Nat) : Int) := by
  have e : ((l : Int) >>> o) = ((l >>> o : Nat) : Int) := rfl
  have : Builtin.bitAnd (((l >>> o : Nat) : Int)) 1 = ((l >>> o &&& 1 : Nat) : Int) := band_nat (l >>> o) 1
  rw [e, this, ← phi_int l o 0, e, Int.toNat_natCast]
theorem phi_xorI (l o f : Nat) : Builtin.bitXor (l : Int) (((if l.testBit o then 1 else 0 : Nat) : Int) * 2 ^ f) = ((phi o f l : Nat) : Int) := by
  unfold phi
  split
  · have : ((1 : Nat) : Int) * 2 ^ f = ((2 ^ f : Nat) : Int) := by simp
    rw [this, bxor_nat]
  · have : ((0 : Nat) : Int) * 2 ^ f = ((0 : Nat) : Int) := by simp
    rw [this, bxor_nat]
end Fb
namespace Fb
open PySem L2 Mm Gf
theorem m_lines_eq : m__law_lines = mFn 9 (sSeq (sOwn 3 (fLc (itR1 (aCons (eV 2) aNil)) (gN 7) cYes (eOp iShl (eC (.int 1)) (eV 7)) [7]))
    (sFrz 3 (sSeq (sOwn 3 (fCall m__law_shuffled [] (aCons (eV 0) (aCons (eOp dAdd (eV 3) (eCall m__law_numbers [] (aCons (eV 0) (aCons (eOp iSub (eV 1) (eV 2)) (aCons (eV 2) aNil))))) aNil))))
    (sSeq (sFor (itR1 (aCons (eOp iMul (eCall m__law_take [] (aCons (eV 0) (aCons (eC (.int 7)) aNil))) (eCB fInt (aCons (eOp iGt (eV 1) (eC (.int 1))) aNil))) aNil)) (gN 4) lBody1)
    (sSeq (sFor (itR1 (aCons (eOp iMul (eCall m__law_take [] (aCons (eV 0) (aCons (eC (.int 4)) aNil))) (eCB fInt (aCons (eOp iGt (eV 2) (eC (.int 1))) aNil))) aNil)) (gN 4) lBody2)
    (sFrz 3 (sRet (eCB fTupOf (aCons (eV 3) aNil))))))))) := rfl
abbrev lEnv (n w : Nat) (ls : List Nat) (s4 s5 s6 : Sl) : Envr := [.v (.ref 0), .v (nd n), .v (nd w), .o (.lst (nl ls)), s4, s5, s6, .no, .no]
theorem cnt (r x : Nat) : (r : Int) * (if decide ((1 : Int) < (x : Int)) = true then 1 else 0) = ((r * (if 1 < x then 1 else 0) : Nat) : Int) := by
  by_cases h : 1 < x
  · have : (1 : Int) < (x : Int) := by omega
    simp [h, this]
  · have : ¬ (1 : Int) < (x : Int) := by omega
    simp [h, this]
theorem plain_lc (S : Sto) (n w : Nat) (hw : w ≤ 1000) : lcR (gN 7) cYes (eOp iShl (eC (.int 1)) (eV 7)) [.v (.ref 0), .v (nd n), .v (nd w), .no, .no, .no, .no, .no, .no] (nl (List.range w)) S = .ok (nl (plain w)) S := by
  have lc := lcR_map (S := S) (g := gN 7) (tt := cYes) (te := eOp iShl (eC (.int 1)) (eV 7)) (env := [.v (.ref 0), .v (nd n), .v (nd w), .no, .no, .no, .no, .no, .no]) (fun _ => true) (fun d => match d with
    | .int i => nd (2 ^ i.toNat)
    | d => d) (nl (List.range w)) (fun d hd => by
      obtain ⟨i, hi, rfl⟩ := mem_nl.mp hd
      have hi := List.mem_range.mp hi
      have pw := powB_nat (i := 1) (by decide) i (by omega)
      refine ⟨[.v (.ref 0), .v (nd n), .v (nd w), .no, .no, .no, .no, .v (nd i), .no], rfl, rfl, fun _ => ?_⟩
      simp [pw])
  rw [List.filter_eq_self.mpr (fun _ _ => rfl), nl_map (g := (2 ^ ·)) (fun y _ => by simp)] at lc
  exact lc
end Fb
namespace Mm
open PySem L2
@[simp] theorem eIsT_eq (me : ME) (m : MA) (env : Envr) (S : Sto) : eIsT me m env S = (me env S).bind fun d S1 => (m env S1).bind fun ds S2 => match d.tyN, tysOf ds with
  | some t, some ns => if szB ds.length then opt ((kitL t ns).map D.bl) S2 else .stuck
  | _, _ => .stuck := rfl
@[simp] theorem itZA_eq (m : MA) (env : Envr) (S : Sto) : itZA m env S = (m env S).bind fun ds S1 => match ds with
  | [.lst xs, .lst ys] => .ok (zipD xs ys) S1
  | [.tup xs, .tup ys] => .ok (zipD xs ys) S1
  | _ => .stuck := rfl
@[simp] theorem eChain_eq (f g : Sto → D → D → Option D) (ma mb mc : ME) (env : Envr) (S : Sto) : eChain f g ma mb mc env S = (ma env S).bind fun x S1 => (mb env S1).bind fun y S2 => match f S2 x y with
  | some (.bl true) => (mc env S2).bind fun z S3 => opt (g S3 y z) S3
  | some (.bl false) => .ok (.bl false) S2
  | _ => .stuck := rfl
@[simp] theorem fMin2_eq (S : Sto) (i j : Int) : fMin2 S [.int i, .int j] = some (.int (if j < i then j else i)) := rfl
@[simp] theorem fMax2_eq (S : Sto) (i j : Int) : fMax2 S [.int i, .int j] = some (.int (if j > i then j else i)) := rfl
@[simp] theorem tyN_non : D.tyN .non = some "NoneType" := rfl
@[simp] theorem tyN_bl (b : Bool) : D.tyN (.bl b) = some "bool" := rfl
@[simp] theorem tyN_int (b : Int) : D.tyN (.int b) = some "int" := rfl
@[simp] theorem tyN_str (b : Str) : D.tyN (.str b) = some "str" := rfl
@[simp] theorem tyN_lst (b : List D) : D.tyN (.lst b) = some "list" := rfl
@[simp] theorem tyN_tup (b : List D) : D.tyN (.tup b) = some "tuple" := rfl
end Mm
namespace Fb
open PySem L2 Mm Gf
noncomputable def m__law_same : Nat → MFn
  | 0 => fun _ _ => .stuck
  | n + 1 => mFn 4 (sSeq (sIf (cB (eIsT (eV 1) (aCons (eC (.ty "list")) (aCons (eC (.ty "tuple")) aNil)))) (sSeq (sIf (cOr (cB (eOp fNe (eCB fIsi (aCons (eV 0) (aCons (eC (.ty "list")) aNil))) (eCB fIsi (aCons (eV 1) (aCons (eC (.ty "list")) aNil))))) (cB (eOp fNe (eCB fIsi (aCons (eV 0) (aCons (eC (.ty "tuple")) aNil))) (eCB fIsi (aCons (eV 1) (aCons (eC (.ty "tuple")) aNil)))))) (sRet (eC (.bl false))) sNil)
    (sRet (eAnd (eOp fEq (eCB fLen (aCons (eV 0) aNil)) (eCB fLen (aCons (eV 1) aNil))) (eCB fAll (aCons (mFrz (fLc (itZA (aCons (eV 0) (aCons (eV 1) aNil))) (gT (gNC (gN 2) (gNC (gN 3) gN0))) cYes (eCall (m__law_same n) [] (aCons (eV 2) (aCons (eV 3) aNil))) [2, 3])) aNil))))) sNil)
    (sSeq (sIf (cOr (cB (eOp fNe (eOp fIs (eV 0) (eC .non)) (eOp fIs (eV 1) (eC .non)))) (cB (eOp fNe (eCB fIsi (aCons (eV 0) (aCons (eC (.ty "bool")) aNil))) (eCB fIsi (aCons (eV 1) (aCons (eC (.ty "bool")) aNil)))))) (sRet (eC (.bl false))) sNil)
    (sSeq (sIf (cB (eOp fNe (eCB fIsi (aCons (eV 0) (aCons (eC (.ty "int")) aNil))) (eCB fIsi (aCons (eV 1) (aCons (eC (.ty "int")) aNil))))) (sRet (eC (.bl false))) sNil)
    (sRet (eAnd (eOp fEq (eCB fIsi (aCons (eV 0) (aCons (eC (.ty "str")) aNil))) (eCB fIsi (aCons (eV 1) (aCons (eC (.ty "str")) aNil)))) (eOp fEq (eV 0) (eV 1)))))))
noncomputable def m__law_of : MFn := mFn 2 (sRet (eOp fIx (eV 1) (eCall m__law_take [] (aCons (eV 0) (aCons (eCB fLen (aCons (eV 1) aNil)) aNil)))))
end Fb
namespace Mm
open PySem L2
theorem lc_gen {β : Type} {g : MG} {tt : MT} {te : ME} {env : Envr} {S : Sto} (ψ : β → D) (p : β → Bool) (φ : β → D) : ∀ (xs : List β), (∀ y ∈ xs, ∃ e1, g (ψ y) env = some e1 ∧ tt e1 S = .ok (p y) S ∧ (p y = true → te e1 S = .ok (φ y) S)) → lcR g tt te env (xs.map ψ) S = .ok ((xs.filter p).map φ) S
  | [], _ => rfl
  | y :: xs, h => by
    obtain ⟨e1, h1, h2, h3⟩ := h y List.mem_cons_self
    have ih := lc_gen (g := g) (tt := tt) (te := te) (env := env) (S := S) ψ p φ xs fun z hz => h z (List.mem_cons_of_mem _ hz)
    rw [List.map_cons, lcR, h1]
    simp only [h2]
    cases hp : p y with
    | true =>
      simp only [h3 hp, ih, bind_ok']
      rw [List.filter_cons_of_pos hp, List.map_cons]
    | false =>
      simp only [ih]
      rw [List.filter_cons_of_neg (by simp [hp])]
theorem lc_all {β : Type} {g : MG} {te : ME} {env : Envr} {S : Sto} (ψ φ : β → D) (xs : List β) (h : ∀ y ∈ xs, ∃ e1, g (ψ y) env = some e1 ∧ te e1 S = .ok (φ y) S) : lcR g cYes te env (xs.map ψ) S = .ok (xs.map φ) S := by
  have := lc_gen (g := g) (tt := cYes) (te := te) (env := env) (S := S) ψ (fun _ => true) φ xs fun y hy => by
    obtain ⟨e1, h1, h2⟩ := h y hy
    exact ⟨e1, h1, rfl, fun _ => h2⟩
  rwa [List.filter_eq_self.mpr (fun _ _ => rfl)] at this
end Mm
namespace Fb
open PySem L2 Mm Gf
@[simp] theorem kl_int : kitL "int" ["list", "tuple"] = some false := by decide +kernel
@[simp] theorem kl_bool : kitL "bool" ["list", "tuple"] = some false := by decide +kernel
@[simp] theorem kl_str : kitL "str" ["list", "tuple"] = some false := by decide +kernel
@[simp] theorem kl_non : kitL "NoneType" ["list", "tuple"] = some false := by decide +kernel
@[simp] theorem kl_list : kitL "list" ["list", "tuple"] = some true := by decide +kernel
@[simp] theorem kl_tuple : kitL "tuple" ["list", "tuple"] = some true := by decide +kernel
@[simp] theorem isi_non_list (S : Sto) : fIsi S [.non, .ty "list"] = some (.bl false) := congrArg (Option.map D.bl) (by decide +kernel : kitB "NoneType" "list" = some false)
@[simp] theorem isi_non_tuple (S : Sto) : fIsi S [.non, .ty "tuple"] = some (.bl false) := congrArg (Option.map D.bl) (by decide +kernel : kitB "NoneType" "tuple" = some false)
@[simp] theorem isi_non_bool (S : Sto) : fIsi S [.non, .ty "bool"] = some (.bl false) := congrArg (Option.map D.bl) (by decide +kernel : kitB "NoneType" "bool" = some false)
@[simp] theorem isi_non_int (S : Sto) : fIsi S [.non, .ty "int"] = some (.bl false) := congrArg (Option.map D.bl) (by decide +kernel : kitB "NoneType" "int" = some false)
@[simp] theorem isi_non_str (S : Sto) : fIsi S [.non, .ty "str"] = some (.bl false) := congrArg (Option.map D.bl) (by decide +kernel : kitB "NoneType" "str" = some false)
@[simp] theorem isi_bl_list (S : Sto) (b : Bool) : fIsi S [(.bl b), .ty "list"] = some (.bl false) := congrArg (Option.map D.bl) (by decide +kernel : kitB "bool" "list" = some false)
@[simp] theorem isi_bl_tuple (S : Sto) (b : Bool) : fIsi S [(.bl b), .ty "tuple"] = some (.bl false) := congrArg (Option.map D.bl) (by decide +kernel : kitB "bool" "tuple" = some false)
@[simp] theorem isi_bl_bool (S : Sto) (b : Bool) : fIsi S [(.bl b), .ty "bool"] = some (.bl true) := congrArg (Option.map D.bl) (by decide +kernel : kitB "bool" "bool" = some true)
@[simp] theorem isi_bl_int (S : Sto) (b : Bool) : fIsi S [(.bl b), .ty "int"] = some (.bl true) := congrArg (Option.map D.bl) (by decide +kernel : kitB "bool" "int" = some true)
@[simp] theorem isi_bl_str (S : Sto) (b : Bool) : fIsi S [(.bl b), .ty "str"] = some (.bl false) := congrArg (Option.map D.bl) (by decide +kernel : kitB "bool" "str" = some false)
@[simp] theorem isi_int_list (S : Sto) (b : Int) : fIsi S [(.int b), .ty "list"] = some (.bl false) := congrArg (Option.map D.bl) (by decide +kernel : kitB "int" "list" = some false)
@[simp] theorem isi_int_tuple (S : Sto) (b : Int) : fIsi S [(.int b), .ty "tuple"] = some (.bl false) := congrArg (Option.map D.bl) (by decide +kernel : kitB "int" "tuple" = some false)
@[simp] theorem isi_int_bool (S : Sto) (b : Int) : fIsi S [(.int b), .ty "bool"] = some (.bl false) := congrArg (Option.map D.bl) (by decide +kernel : kitB "int" "bool" = some false)
@[simp] theorem isi_int_int (S : Sto) (b : Int) : fIsi S [(.int b), .ty "int"] = some (.bl true) := congrArg (Option.map D.bl) (by decide +kernel : kitB "int" "int" = some true)
@[simp] theorem isi_int_str (S : Sto) (b : Int) : fIsi S [(.int b), .ty "str"] = some (.bl false) := congrArg (Option.map D.bl) (by decide +kernel : kitB "int" "str" = some false)
@[simp] theorem isi_str_list (S : Sto) (b : Str) : fIsi S [(.str b), .ty "list"] = some (.bl false) := congrArg (Option.map D.bl) (by decide +kernel : kitB "str" "list" = some false)
@[simp] theorem isi_str_tuple (S : Sto) (b : Str) : fIsi S [(.str b), .ty "tuple"] = some (.bl false) := congrArg (Option.map D.bl) (by decide +kernel : kitB "str" "tuple" = some false)
@[simp] theorem isi_str_bool (S : Sto) (b : Str) : fIsi S [(.str b), .ty "bool"] = some (.bl false) := congrArg (Option.map D.bl) (by decide +kernel : kitB "str" "bool" = some false)
@[simp] theorem isi_str_int (S : Sto) (b : Str) : fIsi S [(.str b), .ty "int"] = some (.bl false) := congrArg (Option.map D.bl) (by decide +kernel : kitB "str" "int" = some false)
@[simp] theorem isi_str_str (S : Sto) (b : Str) : fIsi S [(.str b), .ty "str"] = some (.bl true) := congrArg (Option.map D.bl) (by decide +kernel : kitB "str" "str" = some true)
@[simp] theorem isi_lst_list (S : Sto) (b : List D) : fIsi S [(.lst b), .ty "list"] = some (.bl true) := congrArg (Option.map D.bl) (by decide +kernel : kitB "list" "list" = some true)
@[simp] theorem isi_lst_tuple (S : Sto) (b : List D) : fIsi S [(.lst b), .ty "tuple"] = some (.bl false) := congrArg (Option.map D.bl) (by decide +kernel : kitB "list" "tuple" = some false)
@[simp] theorem isi_tup_list (S : Sto) (b : List D) : fIsi S [(.tup b), .ty "list"] = some (.bl false) := congrArg (Option.map D.bl) (by decide +kernel : kitB "tuple" "list" = some false)
@[simp] theorem isi_tup_tuple (S : Sto) (b : List D) : fIsi S [(.tup b), .ty "tuple"] = some (.bl true) := congrArg (Option.map D.bl) (by decide +kernel : kitB "tuple" "tuple" = some true)
@[simp] theorem tysOf_lt : tysOf [.ty "list", .ty "tuple"] = some ["list", "tuple"] := rfl
@[simp] theorem fAll_eq (S : Sto) (bs : List Bool) : fAll S [.lst (bs.map D.bl)] = some (.bl (bs.all id)) := by
  show Option.map _ (blsOf (bs.map D.bl)) = _
  rw [blsOf_map]
  rfl
@[simp] theorem isN_bl (b : Bool) : D.isN (.bl b) = false := rfl
@[simp] theorem isN_str (b : Str) : D.isN (.str b) = false := rfl
@[simp] theorem isN_lst (b : List D) : D.isN (.lst b) = false := rfl
@[simp] theorem isN_tup (b : List D) : D.isN (.tup b) = false := rfl
@[simp] theorem isN_ins (c : Str) (b : List (Str × D)) : D.isN (.ins c b) = false := rfl
theorem same_int (n : Nat) (x y : Int) (S : Sto) : m__law_same (n + 1) [.int x, .int y] S = .ok (.val (.bl (decide (x = y)))) S := by
  simp [m__law_same, szB]
theorem same_bl (n : Nat) (x y : Bool) (S : Sto) : m__law_same (n + 1) [.bl x, .bl y] S = .ok (.val (.bl (decide (x = y)))) S := by
  simp [m__law_same, szB]
  cases x <;> cases y <;> rfl
end Fb
namespace Fb
open PySem L2 Mm Gf
theorem shaped_str {x : Str} (h : PyData.strOk x = true) : SeqAt.shaped (.str x) = true := by simp [SeqAt.shaped, PyData.canLay0, PyData.depth, h]
theorem fEq_str (S : Sto) {x y : Str} (hx : PyData.strOk x = true) (hy : PyData.strOk y = true) : fEq S (.str x) (.str y) = some (.bl (decide (x = y))) := by
  simp [fEq, D.py, shaped_str hx, shaped_str hy, PyData.eqv]
  rfl
theorem fNe_str (S : Sto) {x y : Str} (hx : PyData.strOk x = true) (hy : PyData.strOk y = true) : fNe S (.str x) (.str y) = some (.bl (!decide (x = y))) := by
  simp [fNe, D.py, shaped_str hx, shaped_str hy, PyData.eqv]
  rfl
theorem flc_of {β : Type} {mi : MI} {te : ME} {k : Nat} {vs : List Nat} {env : Envr} {S : Sto} (ψ φ : β → D) (xs : List β) (h1 : mi env S = .ok (xs.map ψ) S) (hz : xs.length ≤ 100000) (h2 : ∀ y ∈ xs, te ((wipeE env vs).set k (.v (ψ y))) S = .ok (φ y) S) : fLc mi (gN k) cYes te vs env S = .ok (.lst (xs.map φ)) S := by
  have lc := lc_all (g := gN k) (te := te) (env := wipeE env vs) (S := S) ψ φ xs fun y hy => ⟨_, rfl, h2 y hy⟩
  rw [fLc_eq, h1, bind_ok', lc, bind_ok', fin_eq, if_pos (szB_of (by simpa using hz))]
theorem itR1_nat {m : MA} {env : Envr} {S : Sto} {n : Nat} (h : m env S = .ok [.int n] S) (hn : n ≤ 100000) : itR1 m env S = .ok (nl (List.range n)) S := by
  rw [itR1_eq, h]
  simp [rgB_nat hn, rng0]
end Fb
namespace Gf
theorem perm_of_mem {xs ys : List Nat} (h1 : xs.Nodup) (h2 : ys.Nodup) (h : ∀ z, z ∈ xs ↔ z ∈ ys) : xs.Perm ys := (List.perm_ext_iff_of_nodup h1 h2).mpr h
end Gf
namespace Gf
open Fb Mm
def up (k x : Nat) : Nat := x * 2 ^ k
end Gf
namespace Fb
open PySem L2 Mm Gf
theorem insert_permG {α : Type} (xs : List α) (k : Nat) (x : α) : (xs.take k ++ [x] ++ xs.drop k).Perm (x :: xs) := by
  rw [List.append_assoc]
  have := List.perm_middle (l₁ := xs.take k) (l₂ := xs.drop k) (a := x)
  simpa using this
theorem same_each (n : Nat) (S : Sto) : ∀ (xs ys : List D) (a b : D), (∀ p ∈ xs.zip ys, m__law_same n [p.1, p.2] S = .ok (.val (.bl true)) S) →
    lcR (gT (gNC (gN 2) (gNC (gN 3) gN0))) cYes (eCall (m__law_same n) [] (aCons (eV 2) (aCons (eV 3) aNil))) [.v a, .v b, .no, .no] (zipD xs ys) S = .ok ((xs.zip ys).map fun _ => D.bl true) S
  | [], _, _, _, _ => rfl
  | _ :: _, [], _, _, _ => rfl
  | x :: xs, y :: ys, a, b, h => by
    have h1 : m__law_same n [x, y] S = _ := h (x, y) List.mem_cons_self
    have h2 := same_each n S xs ys a b fun p hp => h p (List.mem_cons_of_mem _ hp)
    rw [zipD, lcR]
    simp [h1, h2]
theorem same_listsT (n : Nat) (S : Sto) (xs ys : List D) (hl : xs.length = ys.length) (hz : xs.length ≤ 100000) (h : ∀ p ∈ xs.zip ys, m__law_same n [p.1, p.2] S = .ok (.val (.bl true)) S) : m__law_same (n + 1) [.lst xs, .lst ys] S = .ok (.val (.bl true)) S := by
  have lc := same_each n S xs ys (.lst xs) (.lst ys) h
  have sz := szB_of (n := min xs.length ys.length) (by omega)
  have two := szB_of (n := 2) (by decide)
  have fa : fAll S [.lst ((xs.zip ys).map fun _ => D.bl true)] = some (.bl true) := by
    have := fAll_eq S ((xs.zip ys).map fun _ => true)
    rw [List.map_map] at this
    have this : fAll S [.lst ((xs.zip ys).map fun _ => D.bl true)] = _ := this
    rw [this]
    simp
  have e : (itZA (aCons (eV 0) (aCons (eV 1) aNil))) [.v (.lst xs), .v (.lst ys), .no, .no] S = .ok (zipD xs ys) S := rfl
  have body : (fLc (itZA (aCons (eV 0) (aCons (eV 1) aNil))) (gT (gNC (gN 2) (gNC (gN 3) gN0))) cYes (eCall (m__law_same n) [] (aCons (eV 2) (aCons (eV 3) aNil))) [2, 3]) [.v (.lst xs), .v (.lst ys), .no, .no] S = .ok (.lst ((xs.zip ys).map fun _ => D.bl true)) S := by
    rw [fLc_eq, e, bind_ok']
    erw [lc]
    rw [bind_ok', fin_eq, if_pos (by simpa using sz)]
  unfold m__law_same
  simp [-fLc_eq, two, hl, body, fa]
end Fb
namespace Fb
open PySem L2 Mm Gf
theorem cut_hiA (xs : List D) (k : Nat) : cutD xs (some (k : Int)) none = xs.drop k := by
  unfold cutD
  rw [HT.sIx_nat, HT.sIx_none]
  rw [List.take_of_length_le (by simp)]
  by_cases h : k ≤ xs.length
  · rw [Nat.min_eq_left h]
  · rw [Nat.min_eq_right (by omega), List.drop_of_length_le (by omega), List.drop_of_length_le (by omega)]
theorem cut_loA (xs : List D) (k : Nat) : cutD xs none (some (k : Int)) = xs.take k := by
  unfold cutD
  rw [HT.sIx_nat, HT.sIx_none]
  by_cases h : k ≤ xs.length
  · rw [Nat.min_eq_left h]
    simp
  · rw [Nat.min_eq_right (by omega), List.take_of_length_le (by simp), List.take_of_length_le (by omega)]
    simp
theorem fAny_eq (S : Sto) (bs : List Bool) : fAny S [.lst (bs.map D.bl)] = some (.bl (bs.any id)) := by
  show (blsOf (bs.map D.bl)).map _ = _
  rw [blsOf_map]
  rfl
end Fb
namespace Mm
open PySem PySem.Spec PyProof.Rows L2 PpSet
section
variable {X : Cx} {Y : Gam} {W : WX} {e a b c tg iter elt : Expr} {es rest ifs : List Expr} {ta tb te : TE} {tt tu : TT} {ma mb me : ME} {mt mu : MT} {mf : MF} {t : TA} {m : MA} {pos : Pos} {wi : TI} {mi : MI} {scope : Scope} {own : List (Str × Nat)} {is : List Nat} {g : TG} {mg : MG}
theorem any_freeze {g : Gam} {w0 w : Wd} {H0 H : Hp} {σ : L2.St} {env : Envr} {S : Sto} {O : List (Option Addr)} {p : Addr} {o : HO} (st : StR g w0 H0 w H σ env S O) (ho : H p = some o) (nt : ∀ ps, o ≠ .tbl ps) (n0 : H0 p = none) (ng : w.G p = none) (nr : p ∉ w.rho) (no : ∀ i : Nat, O[i]? ≠ some (some p)) :
    StR g w0 H0 ⟨w.rho, upd w.G p o⟩ H σ env S O ∧ w.le ⟨w.rho, upd w.G p o⟩ := by
  have le : w.le ⟨w.rho, upd w.G p o⟩ := ⟨⟨[], by simp⟩, same_upd ng⟩
  refine ⟨⟨⟨fun b x e => ?_, ⟨st.ok.cells.nd, st.ok.cells.len, fun m b c e1 e2 => ?_⟩, st.ok.tabs, fun b ps e => ?_⟩, ⟨st.fr.le.trans le, st.fr.keep, fun b e => ?_, st.fr.rho, st.fr.dom, st.fr.tb, st.fr.fz⟩, st.l1, st.l2, fun i s x q e1 e2 e3 => ?_, st.inj, st.fresh⟩, le⟩
  · by_cases hb : b = p
    · have e2 : upd w.G p o b = some x := e
      rw [hb, upd_same] at e2
      rw [hb, ho, e2]
    · have e2 : upd w.G p o b = some x := e
      rw [upd_ne hb] at e2
      exact st.ok.ex b x e2
  · obtain ⟨q1, q2⟩ := st.ok.cells.at_ m b c e1 e2
    have ne : b ≠ p := fun z => nr (by rw [← z]; exact List.mem_of_getElem? e1)
    exact ⟨(upd_ne ne).trans q1, q2.move le rfl⟩
  · by_cases hb : b = p
    · have e2 : upd w.G p o b = some (.tbl ps) := e
      rw [hb, upd_same] at e2
      exact nt ps (Option.some.inj e2)
    · have e2 : upd w.G p o b = some (.tbl ps) := e
      rw [upd_ne hb] at e2
      exact st.ok.notab b ps e2
  · have ne : b ≠ p := fun z => e (by rw [z]; exact n0)
    exact (upd_ne ne).trans (st.fr.newG b e)
  · have q' := st.sl i s x q e1 e2 e3
    cases s with
    | no => exact q'
    | v d =>
      obtain ⟨z1, v, z2, z3⟩ := q'
      exact ⟨z1, v, z2, z3.mono le⟩
    | o c' =>
      obtain ⟨p', z1, z2, z3, z4⟩ := q'
      have ne : p' ≠ p := fun z => no i (by rw [e3, z1, z])
      exact ⟨p', z1, z2, (upd_ne ne).trans z3, z4.move le rfl⟩
end
end Mm
namespace Gf
open Mm
theorem app_append : ∀ (A B : List Nat) (x : Nat), app (A ++ B) x = app A x ^^^ app B (x / 2 ^ A.length)
  | [], B, x => by simp [app]
  | a :: A, B, x => by
    rw [List.cons_append, app_cons, app_cons, app_append A B, List.length_cons, Nat.pow_succ, Nat.mul_comm, ← Nat.div_div_eq_div_mul, Nat.xor_assoc]
def can (xs : List Nat) : List Nat := nsrt (bas xs)
end Gf
namespace Mm
open PySem L2
theorem repL_rep {g : Gam} {w : Wd} {ds : List D} {vs : List V} (r : RepL g w ds vs) : ∀ k : Nat, RepL g w (List.replicate k ds).flatten (List.replicate k vs).flatten
  | 0 => RepL.nil_
  | k + 1 => by
    rw [List.replicate_succ, List.replicate_succ, List.flatten_cons, List.flatten_cons]
    exact r.append_ (repL_rep r k)
theorem oo_rep {g : Gam} : OpO g rRep fRep := fun w H S d1 d2 v1 v2 c Q k r1 r2 e q => by
  unfold fRep at e
  split at e
  · rename_i xs i
    split at e
    · rename_i hc
      cases e
      rw [Bool.and_eq_true] at hc
      have h1 : i.natAbs ≤ 9223372036854775807 := bBnd_iff.mp hc.1
      obtain ⟨a, vs, e1, e2, e3⟩ := rep_lst r1
      exact ⟨a, i, vs, e1, rep_int r2, k.ex _ _ e2, by omega, by omega, by rw [← e3.len]; exact szB_le hc.2, fun p hp => q p _ hp nt_lst ⟨_, upd_same, repL_rep e3 _⟩⟩
    · cases e
  · cases e
end Mm
namespace Mm
open PySem L2
theorem fRep_of (S : Sto) (x : D) (k : Nat) (h : k ≤ 1000) : fRep S (.lst [x]) (.int k) = some (.lst (List.replicate k x)) := by
  have h1 : bBnd (k : Int) 9223372036854775807 = true := bBnd_iff.mpr (by omega)
  have h2 := szB_of (n := k) (by omega)
  have h3 : (List.replicate k [x]).flatten = List.replicate k x := by simp
  simp [fRep, h1, h2, h3]
end Mm
namespace Mm
open PySem L2
def NX (o : Out) (Q : Envr → Sto → Prop) : Prop := match o with
  | .nx e S => Q e S
  | _ => False
@[simp] theorem NX_nx (e : Envr) (S : Sto) (Q : Envr → Sto → Prop) : NX (.nx e S) Q = Q e S := rfl
theorem NX_iff {o : Out} {Q : Envr → Sto → Prop} : NX o Q ↔ ∃ e S, o = .nx e S ∧ Q e S := by
  constructor
  · intro h
    cases o with
    | nx e S => exact ⟨e, S, rfl, h⟩
    | _ => exact False.elim h
  · rintro ⟨e, S, rfl, h⟩
    exact h
theorem NX_for {g : MG} {b : MS} {ds : List D} {env : Envr} {S : Sto} {Q : Envr → Sto → Prop} (I : List D → Envr → Sto → Prop) (h0 : I ds env S)
    (step : ∀ d ds env S, I (d :: ds) env S → ∃ e1, g d env = some e1 ∧ NX (b e1 S) fun e2 S2 => I ds e2 S2) (fin : ∀ e S, I [] e S → Q e S) : NX (forL g b ds env S) Q := by
  obtain ⟨e', S', h1, h2⟩ := forL_inv (I := I) (fun d ds env S h => by
    obtain ⟨e1, h1, h2⟩ := step d ds env S h
    obtain ⟨e2, S2, h3, h4⟩ := NX_iff.mp h2
    exact ⟨e1, h1, e2, S2, .inl h3, h4⟩) ds env S h0
  rw [h1]
  exact fin e' S' h2
def RX {α : Type} (o : R α) (Q : α → Sto → Prop) : Prop := match o with
  | .ok r S => Q r S
  | _ => False
@[simp] theorem RX_ok {α : Type} (e : α) (S : Sto) (Q : α → Sto → Prop) : RX (.ok e S) Q = Q e S := rfl
theorem RX_iff {α : Type} {o : R α} {Q : α → Sto → Prop} : RX o Q ↔ ∃ e S, o = .ok e S ∧ Q e S := by
  constructor
  · intro h
    cases o with
    | ok e S => exact ⟨e, S, rfl, h⟩
    | _ => exact False.elim h
  · rintro ⟨e, S, rfl, h⟩
    exact h
def EX (o : Out) (Q : Ret → Sto → Prop) : Prop := match o with
  | .nx _ S => Q (.val .non) S
  | .rt r S => Q r S
  | _ => False
@[simp] theorem EX_nx (e : Envr) (S : Sto) (Q : Ret → Sto → Prop) : EX (.nx e S) Q = Q (.val .non) S := rfl
@[simp] theorem EX_rt (r : Ret) (S : Sto) (Q : Ret → Sto → Prop) : EX (.rt r S) Q = Q r S := rfl
theorem EX_fn {n : Nat} {m : MS} {ds : List D} {S : Sto} {Q : Ret → Sto → Prop} (h : EX (m (startE n ds) S) Q) : RX (mFn n m ds S) Q := by
  unfold mFn
  cases q : m (startE n ds) S with
  | nx e S1 => rw [q] at h; exact h
  | rt r S1 => rw [q] at h; exact h
  | _ => rw [q] at h; exact False.elim h
theorem EX_seq {a b : MS} {env : Envr} {S : Sto} {Q : Ret → Sto → Prop} (h : NX (a env S) fun e S1 => EX (b e S1) Q) : EX (sSeq a b env S) Q := by
  rw [sSeq_eq]
  cases q : a env S with
  | nx e S1 => rw [q] at h; exact h
  | _ => rw [q] at h; exact False.elim h
end Mm
namespace Mm
open PySem L2
def keyD : D → Option Key
  | .int i => some (.inl i)
  | .str x => some (.inr x)
  | _ => none
theorem rep_key {g : Gam} {w : Wd} {d : D} {v : V} {k : Key} (r : Rep g w d v) (h : keyD d = some k) : v = kV k := by
  cases d with
  | int i => cases h; exact rep_int r
  | str x => cases h; exact rep_str r
  | _ => cases h
def lookK (ks : List (Key × D)) (k : Key) : Option D := (ks.find? fun kv => decide (kv.1 = k)).map (·.2)
def putD (ks : List (Key × D)) (k : Key) (d : D) : List (Key × D) := if (ks.any fun kv => decide (kv.1 = k)) then ks.map fun kv => if kv.1 = k then (kv.1, d) else kv else ks ++ [(k, d)]
theorem RepK.nil_ {g : Gam} {w : Wd} : RepK g w [] [] := by unfold RepK; rfl
theorem RepK.cons_ {g : Gam} {w : Wd} {k : Key} {d : D} {ds : List (Key × D)} {v : V} {vs : List (Key × V)} (a : Rep g w d v) (b : RepK g w ds vs) : RepK g w ((k, d) :: ds) ((k, v) :: vs) := by
  unfold RepK
  exact ⟨v, vs, rfl, a, b⟩
theorem RepK.inv {g : Gam} {w : Wd} {k : Key} {d : D} {ds : List (Key × D)} {vs : List (Key × V)} (h : RepK g w ((k, d) :: ds) vs) : ∃ v r, vs = (k, v) :: r ∧ Rep g w d v ∧ RepK g w ds r := by
  unfold RepK at h
  exact h
theorem RepK.look {g : Gam} {w : Wd} (k : Key) : ∀ {ds : List (Key × D)} {vs : List (Key × V)}, RepK g w ds vs → (match lookK ds k with
    | some d => ∃ v, valV vs k = some v ∧ Rep g w d v
    | none => valV vs k = none)
  | [], vs, h => by
    unfold RepK at h
    subst h
    rfl
  | (k', d) :: ds, vs, h => by
    obtain ⟨v, r, rfl, a, b⟩ := h.inv
    have ih := RepK.look k b
    by_cases e : k' = k
    · have e1 : lookK ((k', d) :: ds) k = some d := by simp [lookK, e]
      rw [e1]
      exact ⟨v, valV_pos e, a⟩
    · have e1 : lookK ((k', d) :: ds) k = lookK ds k := by simp [lookK, e]
      rw [e1, valV_neg e]
      exact ih
theorem RepK.any_ {g : Gam} {w : Wd} (k : Key) : ∀ {ds : List (Key × D)} {vs : List (Key × V)}, RepK g w ds vs → (ds.any fun kv => decide (kv.1 = k)) = (vs.any fun kv => decide (kv.1 = k))
  | [], vs, h => by
    unfold RepK at h
    subst h
    rfl
  | (k', d) :: ds, vs, h => by
    obtain ⟨v, r, rfl, a, b⟩ := h.inv
    rw [List.any_cons, List.any_cons, RepK.any_ k b]
theorem RepK.app_ {g : Gam} {w : Wd} : ∀ {ds es : List (Key × D)} {vs us : List (Key × V)}, RepK g w ds vs → RepK g w es us → RepK g w (ds ++ es) (vs ++ us)
  | [], es, vs, us, h, k => by
    unfold RepK at h
    subst h
    exact k
  | (k', d) :: ds, es, vs, us, h, k => by
    obtain ⟨v, r, rfl, a, b⟩ := h.inv
    exact RepK.cons_ a (RepK.app_ b k)
theorem RepK.map_ {g : Gam} {w : Wd} {k : Key} {d : D} {v : V} (q : Rep g w d v) : ∀ {ds : List (Key × D)} {vs : List (Key × V)}, RepK g w ds vs → RepK g w (ds.map fun kv => if kv.1 = k then (kv.1, d) else kv) (vs.map fun kv => if kv.1 = k then (kv.1, v) else kv)
  | [], vs, h => by
    unfold RepK at h
    subst h
    exact RepK.nil_
  | (k', e) :: ds, vs, h => by
    obtain ⟨u, r, rfl, a, b⟩ := h.inv
    have ih := RepK.map_ (k := k) q b
    by_cases z : k' = k
    · simp only [List.map_cons, z, if_true]
      exact RepK.cons_ q ih
    · simp only [List.map_cons, z, if_false]
      exact RepK.cons_ a ih
theorem RepK.put_ {g : Gam} {w : Wd} {k : Key} {d : D} {v : V} (q : Rep g w d v) {ds : List (Key × D)} {vs : List (Key × V)} (h : RepK g w ds vs) : RepK g w (putD ds k d) (putK vs k v) := by
  unfold putD putK
  rw [h.any_ k]
  split
  · exact RepK.map_ q h
  · exact h.app_ (RepK.cons_ q RepK.nil_)
theorem RepK.len {g : Gam} {w : Wd} : ∀ {ds : List (Key × D)} {vs : List (Key × V)}, RepK g w ds vs → ds.length = vs.length
  | [], vs, h => by
    unfold RepK at h
    subst h
    rfl
  | (k', d) :: ds, vs, h => by
    obtain ⟨v, r, rfl, a, b⟩ := h.inv
    rw [List.length_cons, List.length_cons, RepK.len b]
theorem rep_dic {g : Gam} {w : Wd} {ks : List (Key × D)} {v : V} (h : Rep g w (.dic ks) v) : ∃ a vs, v = .ref a ∧ Rd w.G a (.dK vs) ∧ RepK g w ks vs := by
  unfold Rep at h
  exact h
def dicOf (S : Sto) : D → Option (List (Key × D))
  | .dic ks => some ks
  | .ref n => (match S[n]? with
    | some (.dic ks) => some ks
    | some (.lck ks) => some ks
    | _ => none)
  | _ => none
theorem dicOf_rep {g : Gam} {w : Wd} {H : Hp} {S : Sto} {d : D} {v : V} {ks : List (Key × D)} (k : Ok g w H S) (r : Rep g w d v) (h : dicOf S d = some ks) : ∃ a vs, v = .ref a ∧ Rd H a (.dK vs) ∧ RepK g w ks vs := by
  cases d with
  | dic ks' =>
    cases h
    obtain ⟨a, vs, e1, e2, e3⟩ := rep_dic r
    exact ⟨a, vs, e1, same_rd k.ex e2, e3⟩
  | ref n =>
    have h : (match S[n]? with
      | some (.dic ks) => some ks
      | some (.lck ks) => some ks
      | _ => none) = some ks := h
    cases q : S[n]? with
    | none => rw [q] at h; cases h
    | some c =>
      rw [q] at h
      cases c with
      | dic ks' =>
        cases h
        obtain ⟨a, e1, e2⟩ := rep_ref r
        obtain ⟨_, vs, e3, e4⟩ := k.cells.at_ n a _ e1 q
        exact ⟨a, vs, e2, .inl e3, e4⟩
      | lck ks' =>
        cases h
        obtain ⟨a, e1, e2⟩ := rep_ref r
        obtain ⟨_, o, vs, e3, e4⟩ := k.cells.at_ n a _ e1 q
        exact ⟨a, vs, e2, .inr ⟨o, e3⟩, e4⟩
      | _ => cases h
  | _ => cases h
def dicA (env : Envr) (S : Sto) (i : Nat) : Option (List (Key × D)) := match env[i]? with
  | some (.o (.dic ks)) => some ks
  | some (.v d) => dicOf S d
  | _ => none
def hasA (env : Envr) (i : Nat) : Bool := match env[i]? with
  | some (.o (.dic _)) => true
  | some (.v _) => true
  | _ => false
section
variable {g : Gam} {w0 w w1 : Wd} {H0 H H1 : Hp} {σ : L2.St} {env : Envr} {S S1 : Sto} {O : List (Option Addr)}
theorem hasA_at {i : Nat} (st : StR g w0 H0 w H σ env S O) (h : hasA env i = true) : ∃ v, σ[i]? = some (some v) := by
  unfold hasA at h
  split at h
  · rename_i ks e
    obtain ⟨q, e1, _⟩ := st.own_at e
    exact ⟨_, e1⟩
  · rename_i d e
    have hi : i < σ.length := by
      rw [← st.l1]
      exact (List.getElem?_eq_some_iff.mp e).1
    have hO : i < O.length := by
      rw [st.l2]
      exact hi
    obtain ⟨_, v, e1, r⟩ := st.sl i (.v d) σ[i] O[i] e (List.getElem?_eq_getElem hi) (List.getElem?_eq_getElem hO)
    exact ⟨v, by rw [List.getElem?_eq_getElem hi, e1]⟩
  · cases h
theorem dicA_at {i : Nat} {ks : List (Key × D)} {v : V} (st : StR g w0 H0 w H σ env S O) (hv : σ[i]? = some (some v)) (h : dicA env S i = some ks) : ∃ a vs, v = .ref a ∧ Rd H a (.dK vs) ∧ RepK g w ks vs := by
  unfold dicA at h
  split at h
  · rename_i ks' e
    cases h
    obtain ⟨q, e1, e2, e3, ⟨vs, e4, e5⟩, _⟩ := st.own_at e
    rw [hv] at e1
    have e1 := Option.some.inj (Option.some.inj e1)
    exact ⟨q, vs, e1, .inl e4, e5⟩
  · rename_i d e
    have hi : i < σ.length := by
      rw [← st.l1]
      exact (List.getElem?_eq_some_iff.mp e).1
    have hO : i < O.length := by
      rw [st.l2]
      exact hi
    obtain ⟨_, u, e1, r⟩ := st.sl i (.v d) σ[i] O[i] e (List.getElem?_eq_getElem hi) (List.getElem?_eq_getElem hO)
    rw [List.getElem?_eq_getElem hi, e1] at hv
    have hv := Option.some.inj (Option.some.inj hv)
    subst hv
    exact dicOf_rep st.ok r h
  · cases h
end
def eDGetA (i : Nat) (mk : ME) : ME := fun env S => if hasA env i then (mk env S).bind fun k S1 => (match keyD k, dicA env S1 i with
  | some k, some ks => opt (lookK ks k) S1
  | _, _ => .stuck) else .stuck
def eDGet (md mk : ME) : ME := fun env S => (md env S).bind fun d S1 => (mk env S1).bind fun k S2 => match keyD k, dicOf S2 d with
  | some k, some ks => opt (lookK ks k) S2
  | _, _ => .stuck
def eDIn (neg : Bool) (mk md : ME) : ME := fun env S => (mk env S).bind fun k S1 => (md env S1).bind fun d S2 => match keyD k, dicOf S2 d with
  | some k, some ks => .ok (.bl (if neg then !(lookK ks k).isSome else (lookK ks k).isSome)) S2
  | _, _ => .stuck
def sDPutA (i : Nat) (mk me : ME) : MS := fun env S => (me env S).out env fun d S1 => if hasA env i then (mk env S1).out env fun k S2 => (match keyD k, env[i]? with
    | some k, some (.o (.dic ks)) => if szB (ks.length + 1) then .nx (env.set i (.o (.dic (putD ks k d)))) S2 else .stuck
    | some k, some (.v (.ref n)) => (match S2[n]? with
      | some (.dic ks) => if szB (ks.length + 1) then .nx env (S2.set n (.dic (putD ks k d))) else .stuck
      | _ => .stuck)
    | _, _ => .stuck) else .stuck
def sDPut (md mk me : ME) : MS := fun env S => (me env S).out env fun d S1 => (md env S1).out env fun o S2 => (mk env S2).out env fun k S3 => (match keyD k, o with
    | some k, .ref n => (match S3[n]? with
      | some (.dic ks) => if szB (ks.length + 1) then .nx env (S3.set n (.dic (putD ks k d))) else .stuck
      | _ => .stuck)
    | _, _ => .stuck)
def fDic0 : MF := fun _ S => .ok (.dic []) S
def eCellOf (mf : MF) : ME := fun env S => (mf env S).bind fun c S1 => .ok (.ref S1.length) (S1 ++ [c])
section
variable {X : Cx} {Y : Gam} {W : WX} {e o k f : Expr} {te td tk tx : TE} {me md mk mx : ME} {mf : MF} {pos pos' p1 apos cpos : Pos}
theorem dget_rd {H : Hp} {a : Addr} {kvs : List (Key × V)} {k : Key} (e : Rd H a (.dK kvs)) : DGet H a (kV k) (valV kvs k) := .inl ⟨kvs, k, e, rfl, rfl⟩
theorem look_get {g : Gam} {w : Wd} {H : Hp} {a : Addr} {vs : List (Key × V)} {ks : List (Key × D)} {k : Key} {d : D} (e : Rd H a (.dK vs)) (r : RepK g w ks vs) (h : lookK ks k = some d) : ∃ v, DGet H a (kV k) (some v) ∧ Rep g w d v := by
  have q := r.look k
  rw [h] at q
  obtain ⟨v, e1, e2⟩ := q
  exact ⟨v, e1 ▸ dget_rd e, e2⟩
theorem nt_dK {vs : List (Key × V)} : ∀ ps, HO.dK vs ≠ .tbl ps := fun _ z => by cases z
theorem s_dgetA (i : Nat) {x : Str} (hu : X.A.units + 64 < cLine) (hk : SE X Y W k tk mk) (hs : NoSl k) (hN : X.N[i]? = some x := by rfl) (hv : Vis X.env.scope x := by first | exact Or.inl rfl | exact Or.inr (Or.inl rfl) | exact Or.inr (Or.inr rfl)) (hd : (x == ("__debug__" : Str)) = false := by decide)
    (hcd : (x == ("__classdict__" : Str)) = false := by decide) : SE X Y W (.Subscript (.Name x p1) k pos) (tDGet (tVar i) tk) (eDGetA i mk) := ⟨pe_dget (by omega) (pv i hN hv hd hcd) hk.pe hs, fun w0 H0 w H σ env S O Q st p => by
  unfold eDGetA at p
  split at p
  · rename_i ha
    obtain ⟨v, e1⟩ := hasA_at st ha
    refine ⟨v, e1, hk.sim w0 H0 w H σ env S O _ st ((PostX.bind p).imp fun kd S1 w1 H1 st1 l1 p1 kv kr => ?_)⟩
    split at p1
    · rename_i kk ks h1 h2
      obtain ⟨a, vs, f1, f2, f3⟩ := dicA_at st1 e1 h2
      obtain ⟨d, f4, f5⟩ := PostX.opt_ p1 st1
      obtain ⟨u, f6, f7⟩ := look_get (k := kk) f2 f3 f4
      rw [rep_key kr h1]
      exact ⟨a, u, f1, f6, f5 w1 H1 st1 (.refl w1) u f7⟩
    · exact False.elim p1
  · exact False.elim p⟩
theorem s_dget (hu : X.A.units + 64 < cLine) (ho : SE X Y W o td md) (hk : SE X Y W k tk mk) (hs : NoSl k) : SE X Y W (.Subscript o k pos) (tDGet td tk) (eDGet md mk) := ⟨pe_dget (by omega) ho.pe hk.pe hs, fun w0 H0 w H σ env S O Q st p =>
  ho.sim w0 H0 w H σ env S O _ st ((PostX.bind p).imp fun dd S1 w1 H1 st1 l1 p1 v r => hk.sim w0 H0 w1 H1 σ env S1 O _ st1 ((PostX.bind p1).imp fun kd S2 w2 H2 st2 l2 p2 kv kr => by
    split at p2
    · rename_i kk ks h1 h2
      obtain ⟨a, vs, f1, f2, f3⟩ := dicOf_rep st2.ok (r.mono l2) h2
      obtain ⟨d, f4, f5⟩ := PostX.opt_ p2 st2
      obtain ⟨u, f6, f7⟩ := look_get (k := kk) f2 f3 f4
      rw [rep_key kr h1]
      exact ⟨a, u, f1, f6, f5 w2 H2 st2 (.refl w2) u f7⟩
    · exact False.elim p2))⟩
theorem look_in {g : Gam} {w : Wd} {H : Hp} {a : Addr} {vs : List (Key × V)} {ks : List (Key × D)} (k : Key) (e : Rd H a (.dK vs)) (r : RepK g w ks vs) : ∃ o, DGet H a (kV k) o ∧ o.isSome = (lookK ks k).isSome := by
  have q := r.look k
  refine ⟨valV vs k, dget_rd e, ?_⟩
  cases z : lookK ks k with
  | none => rw [z] at q; rw [q]; rfl
  | some d =>
    rw [z] at q
    obtain ⟨v, e1, _⟩ := q
    rw [e1]
    rfl
theorem sim_din {neg : Bool} (hk : SimE Y W tk mk) (ho : SimE Y W td md) {w0 w : Wd} {H0 H : Hp} {σ : L2.St} {env : Envr} {S : Sto} {O : List (Option Addr)} {Q : VK} (st : StR Y w0 H0 w H σ env S O)
    (p : PostX Y W w0 H0 w σ env O (eDIn neg mk md env S) (fun d _ w' H' => ∀ v, Rep Y w' d v → Q v H')) : tk σ H fun y H1 => td σ H1 fun v H2 => ∃ a o, v = .ref a ∧ DGet H2 a y o ∧ Q (.bl (if neg then !o.isSome else o.isSome)) H2 :=
  hk w0 H0 w H σ env S O _ st ((PostX.bind p).imp fun kd S1 w1 H1 st1 l1 p1 kv kr => ho w0 H0 w1 H1 σ env S1 O _ st1 ((PostX.bind p1).imp fun dd S2 w2 H2 st2 l2 p2 v r => by
    split at p2
    · rename_i kk ks h1 h2
      obtain ⟨a, vs, f1, f2, f3⟩ := dicOf_rep st2.ok r h2
      obtain ⟨oo, f4, f5⟩ := look_in kk f2 f3
      rw [rep_key kr h1]
      refine ⟨a, oo, f1, f4, ?_⟩
      rw [f5]
      exact p2 w2 H2 st2 (.refl w2) _ rep_bl'
    · exact False.elim p2))
theorem s_dnin (hu : X.A.units + 64 < cLine) (hk : SE X Y W k tk mk) (ho : SE X Y W o td md) (hm : behindInMarks .NotIn o = false := by rfl) : SE X Y W (.Compare k [.NotIn] [o] pos) (tDNotIn tk td) (eDIn true mk md) :=
  ⟨pe_cmp (pc_dnotin (by omega) hk.pe ho.pe) hm, fun w0 H0 w H σ env S O Q st p => sim_din (neg := true) hk.sim ho.sim st p⟩
theorem c_dnin (hu : X.A.units + 64 < cLine) (hk : SE X Y W k tk mk) (ho : SE X Y W o td md) (hm : behindInMarks .NotIn o = false := by rfl) : SC X Y W (.Compare k [.NotIn] [o] pos) (tB (tDNotIn tk td)) (cB (eDIn true mk md)) :=
  ⟨pt_cmp (pc_dnotin (by omega) hk.pe ho.pe) hm, sim_test (te := tDNotIn tk td) (s_dnin (pos := pos) hu hk ho hm).sim⟩
theorem t_dputA (i : Nat) {x : Str} (hu : X.A.units + 64 < cLine) (hk : SE X Y W k tk mk) (he : SE X Y W e te me) (hN : X.N[i]? = some x := by rfl) (hv : Vis X.env.scope x := by first | exact Or.inl rfl | exact Or.inr (Or.inl rfl) | exact Or.inr (Or.inr rfl)) (hd : (x == ("__debug__" : Str)) = false := by decide)
    (hcd : (x == ("__classdict__" : Str)) = false := by decide) (hs : swapsWith e (some (.Subscript (.Name x p1) k pos')) pos.line X.env = pure false := by rfl) :
    SS X Y W (.Assign [.Subscript (.Name x p1) k pos'] e pos) (L2.sDPut (tVar i) tk te) (sDPutA i mk me) := ⟨ps_dput (by omega) (pv i hN hv hd hcd) hk.pe he.pe hs, fun w0 H0 w H σ env S O Dn st p => by
  refine he.sim w0 H0 w H σ env S O _ st ((PostS.out p).imp fun d S1 w1 H1 st1 l1 p1 v r => ?_)
  split at p1
  · rename_i ha
    obtain ⟨u, e1⟩ := hasA_at st1 ha
    refine ⟨u, e1, hk.sim w0 H0 w1 H1 σ env S1 O _ st1 ((PostS.out p1).imp fun kd S2 w2 H2 st2 l2 p2 kv kr => ?_)⟩
    split at p2
    · rename_i kk ks h1 h2
      split at p2
      · rename_i hz
        obtain ⟨q, f1, f2, f3, ⟨us, f4, f4'⟩, f5, f6, _⟩ := st2.own_at h2
        rw [e1] at f1
        have f1 := Option.some.inj (Option.some.inj f1)
        have hz2 : us.length < sizeLine := Nat.lt_of_lt_of_le (by rw [← f4'.len]; exact Nat.lt_succ_self _) (szB_le hz)
        rw [rep_key kr h1]
        refine ⟨q, _, f1, DPut.k f4 hz2, ?_⟩
        exact p2 w2 _ σ O (st2.mut h2 f2 ⟨_, upd_same, f4'.put_ (r.mono l2)⟩ nt_dK) (.refl w2)
      · exact False.elim p2
    · rename_i kk n h1 h2
      split at p2
      · rename_i ks hS
        split at p2
        · rename_i hz
          have hi : i < σ.length := by
            rw [← st2.l1]
            exact (List.getElem?_eq_some_iff.mp h2).1
          have hO : i < O.length := by
            rw [st2.l2]
            exact hi
          obtain ⟨_, y, ey, ry⟩ := st2.sl i (.v (.ref n)) σ[i] O[i] h2 (List.getElem?_eq_getElem hi) (List.getElem?_eq_getElem hO)
          rw [List.getElem?_eq_getElem hi, ey] at e1
          have e1 := Option.some.inj (Option.some.inj e1)
          obtain ⟨a, q1, q2⟩ := rep_ref ry
          obtain ⟨_, us, f4, f4'⟩ := st2.ok.cells.at_ n a _ q1 hS
          have hz2 : us.length < sizeLine := Nat.lt_of_lt_of_le (by rw [← f4'.len]; exact Nat.lt_succ_self _) (szB_le hz)
          rw [rep_key kr h1]
          refine ⟨a, _, by rw [← e1]; exact q2, DPut.k f4 hz2, ?_⟩
          obtain ⟨k3, f3⟩ := ok_cell (c' := .dic (putD ks kk d)) st2.ok q1 hS (o := .dK (putK us kk v)) ⟨_, upd_same, f4'.put_ (r.mono l2)⟩ nt_dK
          exact p2 w2 _ σ O (st2.after f3 k3) (.refl w2)
        · exact False.elim p2
      · exact False.elim p2
    · exact False.elim p2
  · exact False.elim p1⟩
theorem f_dic0 : SF X Y W (.Dict [] [] pos) tDNewK fDic0 := ⟨pe_dnewK, fun w0 H0 w H σ env S O Q st p q hq => p w _ (st.lay hq nt_dK) (.refl w) q (st.own_new hq ⟨[], upd_same, RepK.nil_⟩)⟩
end
end Mm
namespace Mm
open PySem L2
def sClr (i : Nat) : MS := fun env S => match env[i]? with
  | some (.o (.lst _)) => .nx (env.set i (.o (.lst []))) S
  | _ => .stuck
end Mm
namespace Mm
open PySem L2
@[simp] theorem sClr_eq (i : Nat) (env : Envr) (S : Sto) : sClr i env S = (match env[i]? with
  | some (.o (.lst _)) => .nx (env.set i (.o (.lst []))) S
  | _ => .stuck) := rfl
@[simp] theorem fDic0_eq (env : Envr) (S : Sto) : fDic0 env S = .ok (.dic []) S := rfl
@[simp] theorem d_dic (ks : List (Key × D)) : (Cell.dic ks).d = .dic ks := rfl
@[simp] theorem keyD_int (i : Int) : keyD (.int i) = some (.inl i) := rfl
@[simp] theorem keyD_str (x : Str) : keyD (.str x) = some (.inr x) := rfl
@[simp] theorem dicOf_dic (S : Sto) (ks : List (Key × D)) : dicOf S (.dic ks) = some ks := rfl
@[simp] theorem eDGetA_eq (i : Nat) (mk : ME) (env : Envr) (S : Sto) : eDGetA i mk env S = if hasA env i then (mk env S).bind fun k S1 => (match keyD k, dicA env S1 i with
  | some k, some ks => opt (lookK ks k) S1
  | _, _ => .stuck) else .stuck := rfl
@[simp] theorem eDGet_eq (md mk : ME) (env : Envr) (S : Sto) : eDGet md mk env S = (md env S).bind fun d S1 => (mk env S1).bind fun k S2 => match keyD k, dicOf S2 d with
  | some k, some ks => opt (lookK ks k) S2
  | _, _ => .stuck := rfl
@[simp] theorem eDIn_eq (neg : Bool) (mk md : ME) (env : Envr) (S : Sto) : eDIn neg mk md env S = (mk env S).bind fun k S1 => (md env S1).bind fun d S2 => match keyD k, dicOf S2 d with
  | some k, some ks => .ok (.bl (if neg then !(lookK ks k).isSome else (lookK ks k).isSome)) S2
  | _, _ => .stuck := rfl
@[simp] theorem sDPutA_eq (i : Nat) (mk me : ME) (env : Envr) (S : Sto) : sDPutA i mk me env S = (me env S).out env fun d S1 => if hasA env i then (mk env S1).out env fun k S2 => (match keyD k, env[i]? with
    | some k, some (.o (.dic ks)) => if szB (ks.length + 1) then .nx (env.set i (.o (.dic (putD ks k d)))) S2 else .stuck
    | some k, some (.v (.ref n)) => (match S2[n]? with
      | some (.dic ks) => if szB (ks.length + 1) then .nx env (S2.set n (.dic (putD ks k d))) else .stuck
      | _ => .stuck)
    | _, _ => .stuck) else .stuck := rfl
@[simp] theorem dicA_eq (env : Envr) (S : Sto) (i : Nat) : dicA env S i = (match env[i]? with
  | some (.o (.dic ks)) => some ks
  | some (.v d) => dicOf S d
  | _ => none) := rfl
@[simp] theorem hasA_eq (env : Envr) (i : Nat) : hasA env i = (match env[i]? with
  | some (.o (.dic _)) => true
  | some (.v _) => true
  | _ => false) := rfl
end Mm
namespace Mm
open PySem L2 Fb
abbrev LE (ns : List Int) (ss : List Sl) (c : Nat) : Envr := .v (.scr ns) :: .v (.ref 0) :: (ss ++ List.replicate c .no)
theorem law_run {N k c : Nat} {kR : MS} (ns : List Int) (hN : N = 2 + k + c) (h : ∀ b, Bx b → EX (kR (LE ns (List.replicate k .no) c) [b]) fun r _ => r = .val (.bl true)) :
    ∃ S, mFn N (sSeq (sCell 1 (fCall m__law_box [] (aCons (eV 0) aNil))) kR) [.scr ns] [] = .ok (.val (.bl true)) S := by
  obtain ⟨b, e1, hb0⟩ := box_ok ns []
  have st : startE N [D.scr ns] = .v (.scr ns) :: List.replicate (1 + k + c) .no := by
    have : N - 1 = 1 + k + c := by omega
    simp [this]
  have c0 : sCell 1 (fCall m__law_box [] (aCons (eV 0) aNil)) (.v (.scr ns) :: List.replicate (1 + k + c) .no) [] = .nx (LE ns (List.replicate k .no) c) [b] := by
    have e2 : List.replicate (1 + k + c) Sl.no = .no :: (List.replicate k .no ++ List.replicate c .no) := by
      rw [Nat.add_assoc, Nat.add_comm 1, List.replicate_succ, List.replicate_append_replicate]
    rw [e2]
    simp [e1]
  have q := RX_iff.mp (EX_fn (n := N) (m := sSeq (sCell 1 (fCall m__law_box [] (aCons (eV 0) aNil))) kR) (ds := [.scr ns]) (S := []) (Q := fun r _ => r = .val (.bl true)) (by
    refine EX_seq ?_
    rw [st, c0]
    exact h b hb0))
  obtain ⟨r, S, e, rfl⟩ := q
  exact ⟨S, e⟩
end Mm
namespace Gf
open Fb Mm
def fstL (A B : List Nat) (v : Nat) : List Nat := B.map (app (backL A v))
def swL (A : List Nat) (m : Nat) : List Nat := (kerL A).map (· >>> m)
def frL (A : List Nat) (m : Nat) : List Nat := can (swL A m)
end Gf
namespace Fb
open PySem L2 Mm Gf
def lfs (A B : List Nat) (v m l : Nat) : List (Str × D) := [("low", nd m), ("lanes", nd l), ("first", fold (fstL A B v) (m + l)), ("idle", .lst (nl (kerL A))), ("swings", .lst (nl (swL A m))), ("free", .lst (nl (frL A m)))]
def lead (A B : List Nat) (v m l : Nat) : D := .ins "Lead" (lfs A B v m l)
section
variable (A B : List Nat) (v m l : Nat)
@[simp] theorem lfs_low : (lfs A B v m l).lookup ("low" : Str) = some (nd m) := rfl
@[simp] theorem lfs_lanes : (lfs A B v m l).lookup ("lanes" : Str) = some (nd l) := rfl
@[simp] theorem lfs_first : (lfs A B v m l).lookup ("first" : Str) = some (fold (fstL A B v) (m + l)) := rfl
@[simp] theorem lfs_idle : (lfs A B v m l).lookup ("idle" : Str) = some (.lst (nl (kerL A))) := rfl
@[simp] theorem lfs_swings : (lfs A B v m l).lookup ("swings" : Str) = some (.lst (nl (swL A m))) := rfl
@[simp] theorem lfs_free : (lfs A B v m l).lookup ("free" : Str) = some (.lst (nl (frL A m))) := rfl
@[simp] theorem lfs_swing : (lfs A B v m l).lookup ("swing" : Str) = none := rfl
@[simp] theorem lfs_still : (lfs A B v m l).lookup ("still" : Str) = none := rfl
@[simp] theorem lfs_source : (lfs A B v m l).lookup ("source" : Str) = none := rfl
@[simp] theorem lfs_turnings : (lfs A B v m l).lookup ("turnings" : Str) = none := rfl
@[simp] theorem lfs_all : (lfs A B v m l).lookup ("all_sources" : Str) = none := rfl
end
end Fb
namespace Mm
open PySem L2
theorem lookK_any (k : Key) : ∀ ks : List (Key × D), (ks.any fun kv => decide (kv.1 = k)) = (lookK ks k).isSome
  | [] => rfl
  | kv :: ks => by
    rw [List.any_cons, lookK_any k ks]
    by_cases e : kv.1 = k <;> simp [lookK, e]
theorem lookK_snoc (k j : Key) (d : D) : ∀ ks : List (Key × D), lookK ks k = none → lookK (ks ++ [(k, d)]) j = if j = k then some d else lookK ks j
  | [], _ => by
    by_cases e : j = k
    · simp [lookK, e]
    · have : ¬ k = j := fun z => e z.symm
      simp [lookK, e, this]
  | kv :: ks, h => by
    have h1 : ¬ kv.1 = k := fun e => by simp [lookK, e] at h
    have h2 : lookK ks k = none := by simpa [lookK, h1] using h
    have ih := lookK_snoc k j d ks h2
    unfold lookK at ih ⊢
    rw [List.cons_append, List.find?_cons, List.find?_cons]
    by_cases z : kv.1 = j
    · have : ¬ j = k := fun q => h1 (z.trans q)
      simp [z, this]
    · simp only [z, decide_false]
      exact ih
end Mm
namespace Fb
open PySem L2 Mm Gf
theorem set_range {α : Type} {n x : Nat} (f : Nat → α) (d : α) : ((List.range n).map f).set x d = (List.range n).map fun y => if y = x then d else f y := by
  apply List.ext_getElem
  · simp
  · intro i h1 h2
    rw [List.getElem_set]
    by_cases e : x = i
    · simp [e]
    · have e2 : ¬ i = x := fun z => e z.symm
      simp [e, e2]
end Fb
namespace Fb
open PySem L2 Mm Gf
noncomputable def hk4 : MS := sIf (cOr (cB (eOp iLe (eV 7) (eV 6))) (cB (eOp iGt (eOp iShr (eV 7) (eMeth "Fold" "many" m_Fold_many [] (eV 0) aNil)) (eC (.int 0))))) (sRet (eC (.bl false))) sNil
end Fb
namespace Mm
open PySem L2
@[simp] theorem d_tdc (ks : List (List Key × Int)) : (Cell.tdc ks).d = .tdc ks := rfl
end Mm
namespace Mm
open PySem PySem.Spec PyProof.Rows L2
section
variable {X : Cx} {pins : List (Addr × Obj)} {σ : L2.St} {H : Hp} {s : Shared}
def FnO (X : Cx) (params : Arguments) (body : Expr) (scope : Scope) (f c' : Addr) : HO := .ext fun h => ∃ pm ctv, h.get? f = some (lamO X params body scope pm c' ctv)
end
end Mm
namespace Mm
open PySem PySem.Spec PyProof.Rows L2
structure LSp where
  params : Arguments
  body : Expr
  scope : Scope
  me : ME
end Mm
namespace Mm
open PySem PySem.Spec PyProof.Rows L2
def KC (w0 : Wd) (H0 : Hp) (w : Wd) (c' : Addr) (q : Str) : Prop := (H0 c' = some (LamX.CodeO c' q) ∧ c' ∉ w0.rho) ∨ w.G c' = some (LamX.CodeO c' q)
end Mm
namespace Mm
open PySem PySem.Spec PyProof.Rows L2
theorem s_cellOf {X : Cx} {Y : Gam} {W : WX} {e : Expr} {te : TE} {mf : MF} (h : SF X Y W e te mf) : SE X Y W e te (eCellOf mf) := ⟨h.pe, fun w0 H0 w H σ env S O Q st p =>
  h.sim w0 H0 w H σ env S O _ st ((PostX.bind p).imp fun c S1 w1 H1 st1 l1 p1 q ow => by
    obtain ⟨st2, l2, r2⟩ := own_cell st1 ow
    exact p1 _ H1 st2 l2 _ r2)⟩
def NewOk (c : Str) (pop : Sto → R Ret → R D) : Prop := ∀ {g : Gam} {W : WX} {w0 w : Wd} {H0 H : Hp} {σ : L2.St} {env : Envr} {S : Sto} {O : List (Option Addr)} {Q : VK} {x dx : Addr} {r : R Ret}, StR g w0 H0 w H σ env S O → H x = none → H dx = none → dx ≠ x →
  PostX g W w0 H0 w σ env O (pop S r) (fun d _ w' H' => ∀ v, Rep g w' d v → Q v H') → PostF g ⟨w.rho ++ [x], w.G⟩ (upd (upd H dx (.own x)) x (.ins (g.ca c) dx [])) (fun v H2 => v = .non ∧ Q (.ref x) H2) (WE W σ) r
def keepI (S : Sto) (r : R Ret) : R D := match r with
  | .ok (.val .non) S2 => .ok (.ref S.length) S2
  | .exc cc p S2 => .exc cc p S2
  | _ => .stuck
theorem newOk_keep {c : Str} : NewOk c keepI := fun {g W w0 w H0 H σ env S O Q x dx r} st hx hdx ne p => by
  have at_ : ∀ {w' : Wd} {H' : Hp}, Frame ⟨w.rho ++ [x], w.G⟩ (upd (upd H dx (.own x)) x (.ins (g.ca c) dx [])) w' H' → w'.rho[S.length]? = some x := fun {w' H'} f => by
    refine f.le.get ?_
    show (w.rho ++ [x])[S.length]? = some x
    rw [← st.ok.cells.len]
    simp
  unfold keepI at p
  split at p
  · intro w' H' v f k rv
    have f2 : Frame w H w' H' := frame_inst hx hdx ne f
    refine ⟨rep_non (g := g) (w := w') rv, p w' H' (st.after f2 k) f2.le _ ?_⟩
    unfold Rep
    exact ⟨x, at_ f, rfl⟩
  · intro w' H' cls dd f k ex
    have f2 : Frame w H w' H' := frame_inst hx hdx ne f
    exact p w' H' cls dd (st.after f2 k) f2.le ex
  · exact False.elim p
def eNewP (pop : Sto → R Ret → R D) (c : Str) (mf : MFn) (dd : List D) (m : MA) : ME := fun env S => (m env S).bind fun ds S1 => pop S1 (mf (.ref S1.length :: (ds ++ dd)) (S1 ++ [.ins c []]))
def eNewC (c : Str) (mf : MFn) (dd : List D) (m : MA) : ME := eNewP keepI c mf dd m
section
variable {X : Cx} {Y : Gam} {W : WX} {e : Expr} {es : List Expr} {t tk : TA} {m mk : MA} {pos p : Pos} {x : Str} {k n : Nat} {fa C : Addr} {fd : FuncData} {ps ks : List Str} {mf : MFn} {dvs : List V} {ds : List Value} {dd : List D} {pop : Sto → R Ret → R D}
theorem new_at {g : Gam} {c : Str} {w0 w : Wd} {H0 H : Hp} {σ : L2.St} {env : Envr} {S : Sto} {O : List (Option Addr)} {Q : VK} {y dy : Addr} {ds : List D} {vs : List V} (hp : NewOk c pop) (st : StR g w0 H0 w H σ env S O) (hy : H y = none) (hdy : H dy = none) (ne : dy ≠ y) (rs : RepL g w ds vs) (hn : ds.length + 1 = n)
    (p : PostX g W w0 H0 w σ env O (pop S (mf (.ref S.length :: ds) (S ++ [.ins c []]))) (fun d _ w' H' => ∀ v, Rep g w' d v → Q v H')) : spOf g n mf (.ref y :: vs) (upd (upd H dy (.own y)) y (.ins (g.ca c) dy [])) (fun v H2 => v = .non ∧ Q (.ref y) H2) (WE W σ) := by
  obtain ⟨k4, l4⟩ := ok_inst (c := c) st.ok hy hdy ne
  have r4 : RepL g ⟨w.rho ++ [y], w.G⟩ (.ref S.length :: ds) (.ref y :: vs) := RepL.cons_ (by
    unfold Rep
    refine ⟨y, ?_, rfl⟩
    show (w.rho ++ [y])[S.length]? = some y
    rw [← st.ok.cells.len]
    simp) (rs.mono l4)
  refine ⟨?_, ⟨w.rho ++ [y], w.G⟩, _, S ++ [.ins c []], k4, r4, hp st hy hdy ne p⟩
  rw [← r4.len, List.length_cons]
  exact hn
theorem s_newP (hp : NewOk x pop) (M : Mk X.K (Y.ca x) fa) (F : FnOk X.prog X.w X.K X.mg X.base (L2N.CX X.prog X.w) k fa fd ps (spOf Y n mf)) (hr : Room (k + 1) X.A) (hm : X.mg x = some (.ref (Y.ca x))) (hb : Binds X.K fd ps ds) (hd : Vals dvs ds) (hdv : ∀ w, RepL Y w dd dvs) (tk : L2N.Takes X W)
    (ha : SA X Y W (e :: es) t m) (hn : (e :: es).length + dd.length + 1 = n := by rfl) (hg : Gl X x := by rfl) (hdb : (x == ("__debug__" : Str)) = false := by decide) (he : starEach (e :: es) X.env = (false, eval e X.env) :: starEach es X.env := by rfl) (hpl : (backTo pos (starEach es X.env)).any (·.1) = false := by rfl) :
    SE X Y W (.Call (.Name x p) (e :: es) [] pos) (tMakeS (Y.ca x) (spOf Y n mf) dvs (WE W) t) (eNewP pop x mf dd m) :=
  ⟨pe_makeS M F hr hg hm hb hd (fun σ => L2N.passAt tk σ) ha.pa hdb he hpl, fun w0 H0 w H σ env S O Q st p => by
    refine ha.sim w0 H0 w H σ env S O _ st ?_
    have p2 := PostX.bind p
    cases e : m env S with
    | stuck => rw [e] at p2; exact p2
    | exc c q S2 => rw [e] at p2; exact p2
    | ok ds S1 =>
      rw [e] at p2
      intro w1 H1 st1 l1 vs rs y dy hy hdy ne
      have p3 := p2 w1 H1 st1 l1
      exact new_at hp st1 hy hdy ne (rs.append_ (hdv w1)) (by rw [List.length_append, ha.len _ _ _ _ e]; exact hn) p3⟩
theorem u_newC (h : KnC X.prog X.w X.K X.mg X.base Y k x n mf dvs dd) (hr : Room (k + 1) X.A) (tk : L2N.Takes X W)
    (ha : SA X Y W (e :: es) t m) (hn : (e :: es).length + dd.length + 1 = n := by rfl) (hg : Gl X x := by rfl) (hdb : (x == ("__debug__" : Str)) = false := by decide) (he : starEach (e :: es) X.env = (false, eval e X.env) :: starEach es X.env := by rfl) (hpl : (backTo pos (starEach es X.env)).any (·.1) = false := by rfl) :
    SE X Y W (.Call (.Name x p) (e :: es) [] pos) (tMakeS (Y.ca x) (spOf Y n mf) dvs (WE W) t) (eNewC x mf dd m) := by
  obtain ⟨f, fd, ps, ds, F, M, hm, hb, hd, hdv⟩ := h
  exact s_newP newOk_keep M F hr hm hb hd hdv tk ha hn hg hdb he hpl
variable {CX : CXT} {sp : Sp} {E : L2.St → XK} {kws : List Keyword} {g : List Value → List Value → List Value} {gV : List V → List V → List V}
end
end Mm
namespace Mm
open PySem PySem.Spec PyProof.Rows L2
section
variable {X : Cx} {Y : Gam} {W : WX} {e o k tg : Expr} {te td tk : TE} {me md mk : ME} {pos pos' p1 apos cpos : Pos}
theorem u_gstr {x z : Str} (hm : ∃ u, X.mg x = some (.str z u)) (hg : Gl X x := by rfl) (hd : (x == ("__debug__" : Str)) = false := by decide) : SE X Y W (.Name x pos) (tC (.str z)) (eC (.str z)) := by
  obtain ⟨u, hm⟩ := hm
  exact ⟨pe_glob hg hm ⟨u, rfl⟩ hd, sim_c fun _ => rep_str'⟩
def signs (z : Str) : List D := z.cps.toList.map fun c => .str ⟨#[c]⟩
def itS (me : ME) : MI := fun env S => (me env S).bind fun d S1 => match d with
  | .str z => .ok (signs z) S1
  | _ => .stuck
theorem itR_str {g : Gam} {w : Wd} {z : Str} : ItR g w (Its z) (signs z) := fun w2 H2 l x => by
  refine ⟨fun i d hd => ?_, by show z.cps.size ≤ (signs z).length; simp [signs]⟩
  have hi : i < z.cps.size := by
    have := (List.getElem?_eq_some_iff.mp hd).1
    simpa [signs] using this
  refine ⟨hi, fun y H' hy => ?_⟩
  obtain ⟨e1, c, hc, e2⟩ := hy
  subst e1 e2
  refine ⟨w2, .refl, ?_⟩
  have e3 : (signs z)[i]? = some (.str ⟨#[c]⟩) := by
    unfold signs
    rw [List.getElem?_map, Array.getElem?_toList, hc]
    rfl
  rw [hd] at e3
  cases e3
  exact rep_str'
theorem i_str (h : SE X Y W e te me) : SI X Y W tg e (iStr te) (itS me) := ⟨pi_str h.pe, fun w0 H0 w H σ env S O Q st p =>
  h.sim w0 H0 w H σ env S O _ st ((PostX.bind p).imp fun d S1 w1 H1 st1 l1 p1 v r => by
    split at p1
    · rename_i z
      exact ⟨z, rep_str r, p1 w1 H1 st1 (.refl w1) _ itR_str⟩
    · exact False.elim p1)⟩
def fInSign (neg : Bool) : Sto → D → D → Option D
  | _, .str a, .str z => (match a.cps.toList with
    | [c] => some (.bl (if neg then !decide (c ∈ z.cps.toList) else decide (c ∈ z.cps.toList)))
    | _ => none)
  | _, _, _ => none
def rSign (neg : Bool) : R2 := fun x y H Q => ∃ (c : Nat) (z : Str), x = .str ⟨#[c]⟩ ∧ y = .str z ∧ Q (.bl (if neg then !decide (c ∈ z.cps.toList) else decide (c ∈ z.cps.toList))) H
theorem or_sign : OpR X (compareOp .In) (rSign false) := fun pins s σ H x y v u Q I r1 r2 q => op_in_sign pins s σ H x y v u Q I r1 r2 q
theorem od_sign {g : Gam} {neg : Bool} : OpD g (rSign neg) (fInSign neg) := fun w H S d1 d2 v1 v2 d Q _ r1 r2 e q => by
  unfold fInSign at e
  split at e
  · rename_i a z
    split at e
    · rename_i c hc
      cases e
      have ea : a = ⟨#[c]⟩ := by
        cases a with
        | mk cps =>
          have hc : cps.toList = [c] := hc
          have : cps = #[c] := Array.toList_inj.mp hc
          rw [this]
      refine ⟨c, z, ?_, rep_str r2, q w H _ .refl rep_bl'⟩
      rw [rep_str r1, ea]
    · cases e
  · cases e
end
abbrev FnPk (K : PySem.W.Frag) (x qual : Str) (st : Stmt) (dvs : List V) (kws : List (Str × V)) (f : Addr) (fd : FuncData) : Prop := FunD K x qual (defArgs st) (defBody st) (defScope st) dvs kws f fd
end Mm
namespace Mm
open PySem PySem.Spec PyProof.Rows L2
def oexB (K : PySem.W.Frag) (C : Addr) : Bool := (match K.lookup C with
  | some ⟨.type "type", _, .cls cd, sl⟩ => (match cd.mro, sl.toList with
    | .ref C' :: bm, [_, _, _, _, some (.builtin n), _] => C' == C && n == "ValueError.__new__" && !cd.hasDel && cd.hasDict && PySem.HandSPX.refsVE bm
    | _, _ => false)
  | _ => false) && (He.eqO (PySem.W.findIn K (.ref C) "__setattr__") (some (some (.builtin "object.__setattr__"))) && (decide (PySem.W.subIn K (.ref C) (.type "BaseException") = some true) && (decide (PySem.W.typeIn K (.ref C) = some (.type "type")) && PySem.W.keepIn K (.ref C))))
theorem oexB_ok {K : PySem.W.Frag} {C : Addr} (q : oexB K C = true) : OexC K C := by
  obtain ⟨q, h⟩ := He.ba q
  obtain ⟨h1, h⟩ := He.ba h
  obtain ⟨h2, h⟩ := He.ba h
  obtain ⟨h3, h4⟩ := He.ba h
  refine ⟨?_, He.eqO_ok h1, of_decide_eq_true h2, of_decide_eq_true h3, h4⟩
  split at q
  · rename_i dd cd sl ho
    split at q
    · rename_i C' bm k0 k1 k2 k3 n k5 hm hs
      simp only [Bool.and_eq_true, beq_iff_eq, Bool.not_eq_true'] at q
      obtain ⟨⟨⟨⟨rfl, rfl⟩, hdel⟩, hdc⟩, ht⟩ := q
      obtain ⟨nm, bs, mro, ns, qn, hd, sn, sub, ab, col, del⟩ := cd
      dsimp only at hm hdel hdc
      subst hm hdel hdc
      have hsl : sl = #[k0, k1, k2, k3, some (.builtin "ValueError.__new__"), k5] := by
        obtain ⟨l⟩ := sl
        simp only at hs
        rw [hs]
      subst hsl
      exact ⟨nm, qn, ns, bs, bm, sn, sub, ab, col, dd, k0, k1, k2, k3, k5, ho, ht⟩
    · cases q
  · cases q
structure BasI (K : PySem.W.Frag) (B : Addr) : Prop where
  ga : PySem.W.specialIn K (.ref B) "__getattribute__" = some (some (.builtin "type.__getattribute__"))
  ty : PySem.W.typeIn K (.ref B) = some (.type "type")
  rd : PySem.W.readsIn K B (.type "type") = true
  fi : PySem.W.findCls K (.ref B) (.type "type") "__init__" = some (.val (.builtin "ValueError.__init__"))
def basB (K : PySem.W.Frag) (B : Addr) : Bool := He.eqO (PySem.W.specialIn K (.ref B) "__getattribute__") (some (some (.builtin "type.__getattribute__"))) && (decide (PySem.W.typeIn K (.ref B) = some (.type "type")) && (PySem.W.readsIn K B (.type "type") && (match PySem.W.findCls K (.ref B) (.type "type") "__init__" with | some (.val (.builtin n)) => n == "ValueError.__init__" | _ => false)))
theorem basB_ok {K : PySem.W.Frag} {B : Addr} (q : basB K B = true) : BasI K B := by
  obtain ⟨h1, h⟩ := He.ba q
  obtain ⟨h2, h⟩ := He.ba h
  obtain ⟨h3, h4⟩ := He.ba h
  refine ⟨He.eqO_ok h1, of_decide_eq_true h2, h3, ?_⟩
  split at h4
  · rename_i n e
    rw [e, beq_iff_eq.mp h4]
  · cases h4
section
variable {X : Cx} {o e : Expr} {es : List Expr} {to te : TE} {ta : TA} {f : Str} {p p' p1 p2 pos : Pos}
theorem pe_feinit {pl : Sem Bool} {x : Str} {B : Addr} (hg : Gl X x) (hm : X.mg x = some (.ref B)) (b : BasI X.K B) (ha : PA X (e :: es) ta)
    (hdb : (x == ("__debug__" : Str)) = false := by decide)
    (hc : eval (.Call (.Attribute (.Name x p1) "__init__" p2) (e :: es) [] pos) X.env = (do
      let ov ← eval (.Name x p1) X.env
      standAt p2.atName
      let (f, first) ← holding [ov] (getMethod ov "__init__" pl)
      callWith pos f first (backTo pos (starEach (e :: es) X.env)) (backToKw pos (keywordEach [] X.env))) := by rfl)
    (he : starEach (e :: es) X.env = (false, eval e X.env) :: starEach es X.env := by rfl) (hpl : (backTo pos (starEach es X.env)).any (·.1) = false := by rfl) :
    PE X (.Call (.Attribute (.Name x p1) "__init__" p2) (e :: es) [] pos) (tVeI X.K ta) := by
  refine ⟨fun pins s σ H Q I h => ?_⟩
  refine PySem.W.methodCall_KW (ld_glob I hg hm ?_ hdb) hc
  obtain ⟨m, fr⟩ := I.fr
  refine PySem.W.method_of_cls fr I.ok.mod.kin b.ga (PySem.W.cls_val fr I.ok.mod.kin b.ty b.rd b.fi (by decide +kernel) ?_)
  show wpAny _ _ (callWith pos (Value.builtin "ValueError.__init__") [] (backTo pos (starEach (e :: es) X.env)) []) _ _ _
  refine PyProof.Rows.callWith_method1 (thn (ha.run pos pins _ σ H _ (I.tok _) h) fun us s1 ⟨vs, H1, I1, r1, a, C, ws, ev, hl, T, ea, q⟩ => ?_) he hpl
  subst ev
  cases r1 with
  | @cons _ u0 _ ur ra rw' =>
    obtain rfl : u0 = Value.ref a := ra
    have hlen : ur.length ≤ sizeLine := by
      rw [← Paired.length rw', sizeLine_eq]
      omega
    exact oinit_ok T I1 ea hlen fun s' J => ⟨.non, H1, J, rfl, q⟩
theorem mk_endN {pins : List (Addr × Obj)} {σ : L2.St} {H1 H2 : Hp} {Q : XK} {hp hp2 h2 : Heap} {g1 g2 : Array GenState} {d1 d2 : Drawn} {t1 t2 : Nat} {os1 os2 : OsState} {a C d : Addr} {fs : List (Str × V)} (T : Raises X (.ref C)) (I1 : Inv X pins σ H1 ⟨hp, g1, d1, t1, os1⟩)
    (ha : hp.objs.size ≤ a) (k : ∀ b o, hp.get? b = some o → hp2.get? b = some o) (un : Un (frs X.stack) [] (upd H1 a (exo a C none)) H2 hp2 h2) (hok : HOk X.prog X.w H2 h2) (ho : os2 = os1) (hb : AllBare g2)
    (ea : H2 a = some (exo a C (some d))) (ed : H2 d = some (exd d fs)) (hd1 : H1 d = none) (q : Q (.ref C) (some d) (upd (del H2 a) d (.xd fs))) : L2N.MkP X pins σ Q (.ref a) ⟨h2, g2, d2, t2, os2⟩ := by
  obtain ⟨t0, G, J, kG, ge, hoe, na⟩ := mk_end0 (d2 := d2) (t2 := t2) I1 ha k un hok ho hb ea ed hd1
  exact ⟨a, _, _, ⟨G, g2, d2, t2, os2⟩, _, .ref C, some d, rfl, J, kG, ge, hoe, ⟨rfl, rfl, fun vs e => by cases e; rfl⟩, rfl, rfl, na, rfl, hb, T, q⟩
theorem pmk_oexN {CX : CXT} {x : Str} {C fI : Addr} {k : Nat} {fd : FuncData} {ps : List Str} {sp : Sp} {ds : List Value} {dvs : List V} (T : OexC X.K C) (iC : PySem.W.findIn X.K (.ref C) "__init__" = some (some (.ref fI))) (tI : PySem.W.typeIn X.K (.ref fI) = some (.type "function"))
    (F1 : FnOk X.prog X.w X.K X.mg X.base CX k fI fd ps sp) (hr : Room (k + 1) X.A) (hb : Binds X.K fd ps ds) (hd : Vals dvs ds) (hx : Passes CX X (fun _ _ _ => False)) (hg : Gl X x) (hm : X.mg x = some (.ref C)) (ha : PA X (e :: es) ta)
    (hdb : (x == ("__debug__" : Str)) = false := by decide) (he : starEach (e :: es) X.env = (false, eval e X.env) :: starEach es X.env := by rfl) (hpl : (backTo pos (starEach es X.env)).any (·.1) = false := by rfl) :
    L2N.PMk X (.Call (.Name x p) (e :: es) [] pos) (tMkO C sp dvs ta) := by
  intro pins s σ H Q I h
  obtain ⟨nm, q, N, bs, bm, sn, sub, ab, col, dd, k0, k1, k2, k3, k5, hC, hbm⟩ := T.cls
  refine wpAny_Call_Name_kw (ld_glob I hg hm ?_ hdb)
  refine PySem.W.callWith_K (h₀ := X.base) I.ok.mod.kin T.kC (thn (ha.run pos pins s σ H _ I h) fun us s1 ⟨vs, H1, I1, r1, hz, q1⟩ => ⟨I1.kIn, ?_⟩) he hpl
  show wpAny _ _ (call (.ref C) us) _ _ _
  obtain ⟨hp, g, dr, tk, os⟩ := s1
  have hsz : hp.objs.size ≤ hp.objs.size + 1 := Nat.le_succ _
  have hn : H1 (hp.objs.size + 1) = none := I1.hok.fresh hsz
  have hq := q1 (hp.objs.size + 1) hn
  have kk : ∀ b o, hp.get? b = some o → ((hp.push (PySem.W.kdv_tup us)).push (PySem.HandSPX.excO C hp.objs.size)).get? b = some o := fun b o e => Heap.get?_push_of_some _ (Heap.get?_push_of_some _ e)
  have hget : ((hp.push (PySem.W.kdv_tup us)).push (PySem.HandSPX.excO C hp.objs.size)).get? (hp.objs.size + 1) = some (PySem.HandSPX.excO C hp.objs.size) := by heap_get
  have I2 : Inv X pins σ (upd H1 (hp.objs.size + 1) (exo (hp.objs.size + 1) C none)) ⟨(hp.push (PySem.W.kdv_tup us)).push (PySem.HandSPX.excO C hp.objs.size), g, dr, tk, os⟩ :=
    I1.laid (t' := tk) (a := hp.objs.size + 1) (o := exo (hp.objs.size + 1) C none) (h' := (hp.push (PySem.W.kdv_tup us)).push (PySem.HandSPX.excO C hp.objs.size)) kk hsz (exo_ok hget)
  have r2 : Vals (V.ref (hp.objs.size + 1) :: (vs ++ dvs)) (Value.ref (hp.objs.size + 1) :: (us ++ ds)) := .cons rfl (r1.append hd)
  have hl : (Value.ref (hp.objs.size + 1) :: us ++ ds).length = ps.length := by
    have e := r2.length
    rw [F1.len _ _ _ _ hq] at e
    exact e.symm
  have hus : us.length ≤ sizeLine := by
    rw [← Paired.length r1, sizeLine_eq]
    omega
  refine wpAny_call (PySem.HandSPX.call_own F.excBase_ValueError (fun Y => PySem.HandSPX.refsVE_contains Y bm hbm) (I1.kIn _ _ hC) (PySem.W.looks_findIn I1.kIn iC) (fun self => PySem.W.bind_fn I1.kIn self tI) hus
    (codeAny_mono (F1.run _ X.stack _ _ ⟨Value.ref (hp.objs.size + 1) :: us, []⟩ (Value.ref (hp.objs.size + 1) :: (us ++ ds)) _ _ (fun _ _ _ => False) (hr.make C us []) (I2.env0.make C us []) (hb _ (Value.ref (hp.objs.size + 1) :: us) I2.kIn hl) r2 hq) fun r s' hq' => ?_))
  cases r with
  | error er => exact hx pins σ _ _ er s' I2 hq'
  | ok fl =>
    cases fl with
    | ret u =>
      obtain ⟨v, H2, os2, bare2, un2, hok2, rv, ev, d, fs, ea, ed, hd1, q2⟩ := hq'
      subst ev
      obtain ⟨h2, g2, d2, t2, os'⟩ := s'
      exact ⟨rv, mk_endN (raises_own T.exC T.tyC) I1 hsz kk un2 hok2 os2 bare2 ea ed hd1 q2⟩
    | next => exact False.elim hq'
    | brk => exact False.elim hq'
    | cont => exact False.elim hq'
end
def spX (K : PySem.W.Frag) (f : Str) : Sp := fun vs H Q E => ∃ a C v, vs = [.ref a, v] ∧ OexC K C ∧ PySem.W.findIn K (.ref C) f = some none ∧ H a = some (exo a C none) ∧ ∀ dx, H dx = none → dx ≠ a → Q .non (upd (upd H dx (exd dx [(f, v)])) a (exo a C (some dx)))
theorem pass_none {X : Cx} : Passes (L2N.CX X.prog X.w) X (fun _ _ _ => False) := fun pins σ H s e s' I c => by
  obtain ⟨_, _, _, _, _, _, _, _, _, _, _, _, z⟩ := c
  exact False.elim z
theorem xinit_post {K : PySem.W.Frag} {f m : Str} {N : List Str} {vs : List V} {H : Hp} {Q : VK} {E : XK} (hN : N.length = 2) (h : spX K f vs H Q E) :
    tSeq (tDrop (tVeI K (tCons (tVar 0) (tCons (tC (.str m)) tNil)))) (tOst K f (tVar 0) (tVar 1)) { nx := fun _ H' => Q .non H', rt := Q } (L2.start N vs) H := by
  obtain ⟨a, C, v, rfl, T, hf, ha, q⟩ := h
  match N, hN with
  | [n0, n1], _ =>
    exact ⟨.ref a, rfl, a, C, [.str m], rfl, (by show 1 ≤ 1000; decide), T, ha, v, rfl, .ref a, rfl, a, C, rfl, T, hf, .inl ⟨ha, q⟩⟩
structure KnF (P : Program) (w : World) (K : PySem.W.Frag) (mg : Str → Option Value) (base : Heap) (Y : Gam) (x : Str) : Prop where
  oex : OexC K (Y.ca x)
  gP : mg x = some (.ref (Y.ca x))
  noF : PySem.W.findIn K (.ref (Y.ca x)) (fldOf x) = some none
  ini : ∃ fI fd ps, PySem.W.findIn K (.ref (Y.ca x)) "__init__" = some (some (.ref fI)) ∧ PySem.W.typeIn K (.ref fI) = some (.type "function") ∧ FnOk P w K mg base (L2N.CX P w) 1 fI fd ps (spX K (fldOf x)) ∧ Binds K fd ps []
def sRaiseF (c : Str) (me : ME) : MS := fun env S => (me env S).out env fun d S1 => .exc c (some d) env S1
section
variable {X : Cx} {Y : Gam} {W : WX} {e : Expr} {te : TE} {me : ME} {p pos : Pos}
theorem u_raiseF {x : Str} {pos' : Pos} (h : KnF X.prog X.w X.K X.mg X.base Y x) (hr : Room 2 X.A) (tk : L2N.Takes X W) (he : SE X Y W e te me) (hc : X.calm = true := by rfl) (hK : X.K = Y.K := by rfl) (hg : Gl X x := by rfl) (hdb : (x == ("__debug__" : Str)) = false := by decide) (hst : starEach [e] X.env = [(false, eval e X.env)] := by rfl) (hpl : (backTo pos (starEach [] X.env)).any (·.1) = false := by rfl) :
    SS X Y W (.Raise (some (.Call (.Name x p) [e] [] pos)) none pos') (fun _ σ H => tMkO (Y.ca x) (spX X.K (fldOf x)) [] (tCons te tNil) σ H fun cls d H' => W cls d σ H') (sRaiseF x me) := by
  obtain ⟨oex, gP, noF, fI, fd, ps, iC, tI, F1, hb⟩ := h
  refine ⟨L2N.ps_raise hc tk (pmk_oexN oex iC tI F1 hr hb .nil pass_none hg gP (pa_cons he.pe pa_nil hst) hdb hst hpl), fun w0 H0 w H σ env S O Dn st q => ?_⟩
  refine he.sim w0 H0 w H σ env S O _ st ((PostS.out q).imp fun d S1 w1 H1 st1 l1 p1 v r => ?_)
  refine ⟨by show 1 ≤ 1000; decide, fun a na => ⟨a, Y.ca x, v, rfl, oex, noF, upd_same, fun dx hdx ne => ⟨rfl, dx, [(fldOf x, v)], upd_same, ?_, ?_, ?_⟩⟩⟩
  · rw [upd_ne ne, upd_same]
  · rw [← hdx, upd_ne ne]
  · have na' : H1 dx = none := by rw [← hdx, upd_ne ne]
    have eH : upd (del (upd (upd (upd H1 a (exo a (Y.ca x) none)) dx (exd dx [(fldOf x, v)])) a (exo a (Y.ca x) (some dx))) a) dx (.xd [(fldOf x, v)]) = upd H1 dx (.xd [(fldOf x, v)]) := by
      funext b
      by_cases h1 : b = dx
      · rw [h1, upd_same, upd_same]
      · rw [upd_ne h1, upd_ne h1]
        by_cases h2 : b = a
        · rw [h2, del_same, na]
        · rw [del_ne h2, upd_ne h2, upd_ne h1, upd_ne h2]
    rw [eH]
    have G := Grow.one (w := w1) (o := .xd [(fldOf x, v)]) na' (fun ps z => by cases z)
    have st2 := st1.grow G
    have l2 := G.le st1.ok
    exact p1 _ _ σ O _ _ st2 l2 ⟨rfl, dx, v, rfl, upd_same, r.mono l2⟩
end
end Mm
namespace Mm
open PySem PySem.Spec PyProof.Rows L2
def xmB (K : PySem.W.Frag) (c f : Str) : Bool := He.eqO (PySem.W.findIn K (.ref (He.ga K c)) f) (some none) && (He.eqO (PySem.W.findIn K (.ref (He.ga K c)) "__init__") (some (some (.ref (He.ma K (He.ga K c) "__init__")))) && decide (PySem.W.typeIn K (.ref (He.ma K (He.ga K c) "__init__")) = some (.type "function")))
theorem xmB_ok {K : PySem.W.Frag} {c f : Str} (h : xmB K c f = true) : PySem.W.findIn K (.ref (He.ga K c)) f = some none ∧ PySem.W.findIn K (.ref (He.ga K c)) "__init__" = some (some (.ref (He.ma K (He.ga K c) "__init__"))) ∧ PySem.W.typeIn K (.ref (He.ma K (He.ga K c) "__init__")) = some (.type "function") := by
  obtain ⟨h1, h⟩ := He.ba h
  obtain ⟨h2, h3⟩ := He.ba h
  exact ⟨He.eqO_ok h1, He.eqO_ok h2, of_decide_eq_true h3⟩
end Mm
namespace Mm
open PySem PySem.Spec PyProof.Rows L2
def strsOf : List D → Option (List Str)
  | [] => some []
  | .str x :: ds => (strsOf ds).map (x :: ·)
  | _ :: _ => none
theorem strsOf_rep {g : Gam} {w : Wd} : ∀ {ds : List D} {xs : List Str} {vs : List V}, strsOf ds = some xs → RepL g w ds vs → vs = xs.map V.str
  | [], xs, vs, e, r => by
    unfold RepL at r
    cases e
    exact r
  | .str x :: ds, xs, vs, e, r => by
    unfold strsOf at e
    cases z : strsOf ds with
    | none => rw [z] at e; cases e
    | some ys =>
      rw [z] at e
      cases e
      unfold RepL at r
      obtain ⟨v, r', e1, r1, r2⟩ := r
      unfold Rep at r1
      rw [e1, r1, strsOf_rep z r2]
      rfl
def fInX (neg : Bool) : Sto → D → D → Option D
  | _, .str i, .lst ds => (strsOf ds).map fun ns => .bl (if neg then !decide (i ∈ ns) else decide (i ∈ ns))
  | _, .str i, .tup ds => (strsOf ds).map fun ns => .bl (if neg then !decide (i ∈ ns) else decide (i ∈ ns))
  | _, _, _ => none
theorem inV_strs (i : Str) (ns : List Str) : inV (.str i) (ns.map V.str) = decide (i ∈ ns) := by
  unfold inV
  induction ns with
  | nil => simp
  | cons n ns ih =>
    rw [List.map_cons, List.any_cons, ih]
    show ((n == i) || decide (i ∈ ns)) = decide (i ∈ n :: ns)
    by_cases h : n = i
    · subst h
      simp
    · have h2 : (n == i) = false := by simpa using h
      have h3 : ¬ i = n := fun z => h z.symm
      rw [h2, Bool.false_or, decide_eq_decide, List.mem_cons]
      exact ⟨.inr, fun z => z.resolve_left h3⟩
theorem flat_strs (ns : List Str) : (ns.map V.str).all flatV = true := by
  rw [List.all_eq_true]
  intro v hv
  obtain ⟨n, _, rfl⟩ := List.mem_map.mp hv
  rfl
theorem rep_strE {g : Gam} {w : Wd} {x : Str} {v : V} (r : Rep g w (.str x) v) : v = .str x := by
  unfold Rep at r
  exact r
theorem od_inX {g : Gam} {neg : Bool} : OpD g (rIn g.K neg) (fInX neg) := fun w H S d1 d2 v1 v2 d Q k r1 r2 e q => by
  unfold fInX at e
  split at e
  · rename_i i ds
    cases z : strsOf ds with
    | none => rw [z] at e; cases e
    | some ns =>
      rw [z] at e
      cases e
      obtain ⟨a, vs, e1, e2, e3⟩ := rep_lst r2
      rw [strsOf_rep z e3] at e2
      refine ⟨a, _, e1, .inl (.inl (.inl (k.ex _ _ e2))), by rw [rep_strE r1]; rfl, flat_strs ns, q w H _ .refl ?_⟩
      rw [rep_strE r1, inV_strs]
      exact rep_bl'
  · rename_i i ds
    cases z : strsOf ds with
    | none => rw [z] at e; cases e
    | some ns =>
      rw [z] at e
      cases e
      obtain ⟨a, vs, e1, e2, e3⟩ := rep_tup r2
      rw [strsOf_rep z e3] at e2
      refine ⟨a, _, e1, .inr (same_sqT k.ex e2), by rw [rep_strE r1]; rfl, flat_strs ns, q w H _ .refl ?_⟩
      rw [rep_strE r1, inV_strs]
      exact rep_bl'
  · cases e
end Mm
namespace Mm
open PySem L2
@[simp] theorem sDPut_eq (md mk me : ME) (env : Envr) (S : Sto) : sDPut md mk me env S = (me env S).out env fun d S1 => (md env S1).out env fun o S2 => (mk env S2).out env fun k S3 => (match keyD k, o with
    | some k, .ref n => (match S3[n]? with
      | some (.dic ks) => if szB (ks.length + 1) then .nx env (S3.set n (.dic (putD ks k d))) else .stuck
      | _ => .stuck)
    | _, _ => .stuck) := rfl
@[simp] theorem dicOf_ref (S : Sto) (n : Nat) : dicOf S (.ref n) = (match S[n]? with
    | some (.dic ks) => some ks
    | some (.lck ks) => some ks
    | _ => none) := rfl
@[simp] theorem eCellOf_eq (mf : MF) (env : Envr) (S : Sto) : eCellOf mf env S = (mf env S).bind fun c S1 => .ok (.ref S1.length) (S1 ++ [c]) := rfl
@[simp] theorem eNewC_eq (c : Str) (mf : MFn) (dd : List D) (m : MA) (env : Envr) (S : Sto) : eNewC c mf dd m env S = (m env S).bind fun ds S1 => keepI S1 (mf (.ref S1.length :: (ds ++ dd)) (S1 ++ [.ins c []])) := rfl
@[simp] theorem keepI_ok (S S2 : Sto) : keepI S (.ok (.val .non) S2) = .ok (.ref S.length) S2 := rfl
@[simp] theorem keepI_exc (S S2 : Sto) (c : Str) (p : Option D) : keepI S (.exc c p S2) = .exc c p S2 := rfl
@[simp] theorem sRaiseF_eq (c : Str) (me : ME) (env : Envr) (S : Sto) : sRaiseF c me env S = (me env S).out env fun d S1 => .exc c (some d) env S1 := rfl
@[simp] theorem itS_eq (me : ME) (env : Envr) (S : Sto) : itS me env S = (me env S).bind fun d S1 => match d with
  | .str z => .ok (signs z) S1
  | _ => .stuck := rfl
end Mm
namespace Fb
open PySem L2 Mm
noncomputable def m__law_wide : MFn := mFn 2 (sSeq (sOwn 1 (fLst (aCons (eTup (aCons (eC (.int 2)) (aCons (eC (.int 1)) (aCons (eC (.int 2)) aNil)))) (aCons (eTup (aCons (eC (.int 1)) (aCons (eC (.int 2)) (aCons (eC (.int 2)) aNil)))) (aCons (eTup (aCons (eC (.int 2)) (aCons (eC (.int 2)) (aCons (eC (.int 1)) aNil)))) (aCons (eTup (aCons (eC (.int 0)) (aCons (eC (.int 2)) (aCons (eC (.int 2)) aNil)))) (aCons (eTup (aCons (eC (.int 3)) (aCons (eC (.int 1)) (aCons (eC (.int 3)) aNil)))) aNil)))))))
    (sSeq (sExt 1 (mFrz (fLst (aCons (eTup (aCons (eC (.int 1)) (aCons (eC (.int 0)) (aCons (eC (.int 1)) aNil)))) (aCons (eTup (aCons (eC (.int 0)) (aCons (eC (.int 0)) (aCons (eC (.int 1)) aNil)))) (aCons (eTup (aCons (eC (.int 2)) (aCons (eC (.int 3)) (aCons (eC (.int 2)) aNil)))) (aCons (eTup (aCons (eC (.int 3)) (aCons (eC (.int 2)) (aCons (eC (.int 2)) aNil)))) (aCons (eTup (aCons (eC (.int 4)) (aCons (eC (.int 3)) (aCons (eC (.int 2)) aNil)))) aNil))))))))
    (sFrz 1 (sRet (eCall m__law_of [] (aCons (eV 0) (aCons (eV 1) aNil)))))))
noncomputable def m__law_cells : MFn := mFn 4 (sSeq (sAsg (eCall m__law_of [] (aCons (eV 0) (aCons (mFrz (fLst (aCons (eC (.int 2)) (aCons (eC (.int 10)) (aCons (eC (.int 2001)) aNil))))) aNil))) (gN 2))
    (sRet (eCB fTupOf (aCons (mFrz (fLc (itR1 (aCons (eOp iShl (eC (.int 1)) (eV 1)) aNil)) (gN 3) cYes (eOp iSub (eCall m__law_take [] (aCons (eV 0) (aCons (eV 2) aNil))) (eOp iDiv (eV 2) (eC (.int 2)))) [3])) aNil))))
noncomputable def m_is_name : MFn := mFn 2 (sRet (eAnd (eChain iLe iLe (eC (.int 1)) (eCB fLen (aCons (eV 0) aNil)) (eC (.int 6))) (eCB fAll (aCons (mFrz (fLc (itS (eV 0)) (gN 1) cYes (eOp (fInSign false) (eV 1) (eC (.str "abcdefghijklmnopqrstuvwxyz"))) [1])) aNil))))
noncomputable def m_mixed : MFn := mFn 3 (sSeq (sIf (cB (eOp fEq (eV 0) (eC (.str "plus")))) (sRet (eOp dAdd (eV 1) (eV 2))) sNil)
    (sSeq (sIf (cB (eOp fEq (eV 0) (eC (.str "less")))) (sRet (eOp iSub (eV 1) (eV 2))) sNil)
    (sRet (eIf (cB (eOp fEq (eV 0) (eC (.str "least")))) (eCB fMin2 (aCons (eV 1) (aCons (eV 2) aNil))) (eCB fMax2 (aCons (eV 1) (aCons (eV 2) aNil)))))))
end Fb
namespace Fb
open PySem L2 Mm Gf
theorem take1R {R : Sto} {b : Cell} (hb : Bx b) {k : Nat} (h0 : 0 < k) (h1 : k < 1073741824) : ∃ b' r, m__law_take [.ref 0, .int k] (b :: R) = .ok (.val (nd r)) (b' :: R) ∧ Bx b' ∧ r < k := take_ok (S := (b :: R)) (n := 0) rfl hb h0 h1
theorem takeKR {R : Sto} {b : Cell} (hb : Bx b) (K : Int) (k : Nat) (e : K = (k : Int)) (h0 : 0 < k) (h1 : k < 1073741824) : ∃ b' r, m__law_take [.ref 0, .int K] (b :: R) = .ok (.val (nd r)) (b' :: R) ∧ Bx b' ∧ r < k := by
  subst e
  exact take1R (R := R) hb h0 h1
theorem shuffled_okR {R : Sto} {b : Cell} (hb : Bx b) (xs : List Nat) (hl : xs.length ≤ 1000) : ∃ b' ys, m__law_shuffled [.ref 0, .lst (nl xs)] (b :: R) = .ok (.own (.lst (nl ys))) (b' :: R) ∧ Bx b' ∧ ys.Perm xs := by
  have key := forL_inv (g := gN 3) (b := sIns 2 (eCall m__law_take [] (aCons (eV 0) (aCons (eOp dAdd (eLenA 2) (eC (.int 1))) aNil))) (eV 3))
    (I := fun ds env S' => ∃ (b' : Cell) (ys rest : List Nat) (s : Sl), S' = (b' :: R) ∧ Bx b' ∧ ds = nl rest ∧ env = [.v (.ref 0), .v (.lst (nl xs)), .o (.lst (nl ys)), s] ∧ (ys ++ rest).Perm xs)
    (fun d ds env S' h => by
      obtain ⟨b', ys, rest, s, rfl, hb', e1, rfl, p⟩ := h
      cases rest with
      | nil => simp at e1
      | cons x rest =>
        simp at e1
        obtain ⟨rfl, rfl⟩ := e1
        have pl := p.length_eq
        simp at pl
        obtain ⟨b2, r, t, hb2, hr⟩ := take1R (R := R) hb' (k := ys.length + 1) (by omega) (by omega)
        have t' : m__law_take [.ref 0, .int ((ys.length : Int) + 1)] (b' :: R) = .ok (.val (nd r)) (b2 :: R) := t
        refine ⟨_, rfl, [.v (.ref 0), .v (.lst (nl xs)), .o (.lst (nl (ys.take r ++ [x] ++ ys.drop r))), .v (nd x)], (b2 :: R), .inl ?_, b2, _, rest, _, rfl, hb2, rfl, rfl, ?_⟩
        · have bd := (bBnd_iff (i := (r : Int)) (n := 9223372036854775807)).mpr (by omega)
          have sz := szB_of (n := ys.length + 1) (by omega)
          simp [t', bd, sz]
          simp [nl]
        · exact ((insert_perm ys r x).append_right rest).trans ((List.perm_middle (l₁ := ys) (l₂ := rest) (a := x)).symm.trans p)) (nl xs) [.v (.ref 0), .v (.lst (nl xs)), .o (.lst []), .no] (b :: R) ⟨b, [], xs, .no, rfl, hb, rfl, rfl, by simp⟩
  obtain ⟨e', S', k1, b', ys, rest, s, rfl, hb', e1, rfl, p⟩ := key
  have : rest = [] := by
    cases rest with
    | nil => rfl
    | cons b r => simp at e1
  subst this
  refine ⟨b', ys, ?_, hb', by simpa using p⟩
  have s0 := szB_of (n := 0) (by omega)
  simp [m__law_shuffled, s0]
  rw [k1]
  rfl
theorem numbers_okR {R : Sto} {b : Cell} (hb : Bx b) (c w : Nat) (hc : c ≤ 1000) (hw : w ≤ 20) : ∃ b' ys, m__law_numbers [.ref 0, .int c, .int w] (b :: R) = .ok (.own (.lst (nl ys))) (b' :: R) ∧ Bx b' ∧ ys.length = c ∧ ∀ y ∈ ys, y < 2 ^ w := by
  have pw := powB_nat (i := 1) (by decide) w (by omega)
  have w2 : 2 ^ w < 1073741824 := Nat.lt_of_le_of_lt (Nat.pow_le_pow_right (by decide) hw) (by decide)
  have key := lcR_inv (g := gN 3) (te := eCall m__law_take [] (aCons (eV 0) (aCons (eOp iShl (eC (.int 1)) (eV 2)) aNil))) (env := [.v (.ref 0), .v (.int c), .v (.int w), .no])
    (I := fun ds zs S' => ∃ (b' : Cell) (ys : List Nat), S' = (b' :: R) ∧ Bx b' ∧ zs = nl ys ∧ ys.length + ds.length = c ∧ ∀ y ∈ ys, y < 2 ^ w)
    (fun d ds zs S' h => by
      obtain ⟨b', ys, rfl, hb', rfl, l, lt⟩ := h
      obtain ⟨b2, r, t, hb2, hr⟩ := take1R (R := R) hb' (k := 2 ^ w) (Nat.two_pow_pos w) w2
      have t' : m__law_take [.ref 0, .int (2 ^ w)] (b' :: R) = .ok (.val (nd r)) (b2 :: R) := by
        have e5 : (2 : Int) ^ w = ((2 ^ w : Nat) : Int) := by simp
        rw [e5]
        exact t
      refine ⟨_, rfl, nd r, (b2 :: R), ?_, b2, ys ++ [r], rfl, hb2, nl_append ys [r], by simp at l ⊢; omega, fun y hy => ?_⟩
      · simp [pw, t']
      · rcases List.mem_append.mp hy with hy | hy
        · exact lt y hy
        · simp at hy
          rw [hy]
          exact hr) (nl (List.range c)) [] (b :: R) ⟨b, [], rfl, hb, rfl, by simp, fun y hy => by simp at hy⟩
  obtain ⟨zs, S', k1, b', ys, rfl, hb', e1, l, lt⟩ := key
  simp at e1 l
  subst e1
  have rg := rgB_nat (n := c) (by omega)
  have sz := szB_of (n := c) (by omega)
  refine ⟨b', ys, ?_, hb', l, lt⟩
  simp [m__law_numbers, rg, rng0, k1, l, sz]
theorem lBody1_okR {R : Sto} {b : Cell} (hb : Bx b) {n w : Nat} {ls : List Nat} (h : Lin n w ls) (hn : 1 < n) (hn2 : n ≤ 1000) (s4 s5 s6 : Sl) : ∃ b' ls' s5' s6', lBody1 [.v (.ref 0), .v (nd n), .v (nd w), .o (.lst (nl ls)), s4, s5, s6, .no, .no] (b :: R) =
    .nx [.v (.ref 0), .v (nd n), .v (nd w), .o (.lst (nl ls')), s4, s5', s6', .no, .no] (b' :: R) ∧ Bx b' ∧ Lin n w ls' := by
  obtain ⟨b1, o, t1, hb1, ho⟩ := take1R (R := R) hb (k := n) (by omega) (by omega)
  obtain ⟨b2, r, t2, hb2, hr⟩ := take1R (R := R) hb1 (k := n - 1) (by omega) (by omega)
  have t2' : m__law_take [.ref 0, .int ((n : Int) - 1)] (b1 :: R) = .ok (.val (nd r)) (b2 :: R) := by
    have e : (n : Int) - 1 = ((n - 1 : Nat) : Int) := by omega
    rw [e]
    exact t2
  obtain ⟨m1, m2⟩ := mod_ne ho hr
  have e1 : ((o : Int) + 1 + r).fmod n = (((o + 1 + r) % n : Nat) : Int) := by
    rw [← fmod_natnat]
    rfl
  have hl := h.len
  have g1 := nl_get (xs := ls) (i := o) (by omega)
  have g2 := nl_get (xs := ls) (i := (o + 1 + r) % n) (by omega)
  have ix := ixN_of (n := ls.length) (j := o) (by omega)
  have nz : ¬ n = 0 := by omega
  refine ⟨b2, ls.set o (ls.getD o 0 ^^^ ls.getD ((o + 1 + r) % n) 0), .v (nd o), .v (.int ((o : Int) + 1 + r)), ?_, hb2, h.row ho m1 m2⟩
  have g2' : atI (nl ls) (((o : Int) + 1 + r) % (n : Int)) = some (nd (ls.getD ((o + 1 + r) % n) 0)) := g2
  simp [lBody1, t1, t2', nz, e1, g1, g2', ix]
  exact nl_set _ _ _
theorem lBody2_okR {R : Sto} {b : Cell} (hb : Bx b) {n w : Nat} {ls : List Nat} (h : Lin n w ls) (hn : 1 < w) (hw : w ≤ 1000) (hn2 : n ≤ 1000) (s4 s5 s6 : Sl) : ∃ b' ls' s5' s6', lBody2 [.v (.ref 0), .v (nd n), .v (nd w), .o (.lst (nl ls)), s4, s5, s6, .no, .no] (b :: R) =
    .nx [.v (.ref 0), .v (nd n), .v (nd w), .o (.lst (nl ls')), s4, s5', s6', .no, .no] (b' :: R) ∧ Bx b' ∧ Lin n w ls' := by
  obtain ⟨b1, o, t1, hb1, ho⟩ := take1R (R := R) hb (k := w) (by omega) (by omega)
  obtain ⟨b2, r, t2, hb2, hr⟩ := take1R (R := R) hb1 (k := w - 1) (by omega) (by omega)
  have t2' : m__law_take [.ref 0, .int ((w : Int) - 1)] (b1 :: R) = .ok (.val (nd r)) (b2 :: R) := by
    have e : (w : Int) - 1 = ((w - 1 : Nat) : Int) := by omega
    rw [e]
    exact t2
  obtain ⟨m1, m2⟩ := mod_ne ho hr
  have e1 : ((o : Int) + 1 + r).fmod w = (((o + 1 + r) % w : Nat) : Int) := by
    rw [← fmod_natnat]
    rfl
  have hl := h.len
  have nz : ¬ w = 0 := by omega
  generalize hf : (o + 1 + r) % w = f at *
  have lc := lcR_map (S := (b2 :: R)) (g := gN 8) (tt := cYes) (te := eOp iXor (eV 8) (eOp iShl (eOp iAnd (eOp iShr (eV 8) (eV 5)) (eC (.int 1))) (eV 6))) (env := [.v (.ref 0), .v (nd n), .v (nd w), .v (.lst (nl ls)), s4, .v (nd o), .v (nd f), .no, .no].map hideS) (fun _ => true) (fun d => match d with
    | .int i => nd (phi o f i.toNat)
    | d => d) (nl ls) (fun d hd => by
      obtain ⟨y, hy, rfl⟩ := mem_nl.mp hd
      refine ⟨[.v (.ref 0), .v (nd n), .v (nd w), .v (.lst (nl ls)), hideS s4, .v (nd o), .v (nd f), .no, .v (nd y)], rfl, rfl, fun _ => ?_⟩
      have bb := band_one y o
      have pw := powB_nat (i := ((if y.testBit o then 1 else 0 : Nat) : Int)) (by split <;> decide) f (by omega)
      have px := phi_xorI y o f
      simp only [eOp_eq, eV_eq, eC_eq, bind_ok', iAnd_eq, iShr_eq, iShl_eq, iXor_eq, shr_nat]
      simp
      rw [bb]
      simp only [pw, if_true, opt_some', bind_ok', iXor_eq, Int.toNat_natCast]
      rw [px])
  rw [List.filter_eq_self.mpr (fun _ _ => rfl), nl_map (g := phi o f) (fun y _ => by simp)] at lc
  have sz := szB_of (n := ls.length) (by omega)
  refine ⟨b2, ls.map (phi o f), .v (nd o), .v (nd f), ?_, hb2, h.col m1 (fun e => m2 e.symm)⟩
  simp at lc
  simp [lBody2, t1, t2', nz, e1, sz, lc]
theorem lForR {R : Sto} {n w : Nat} {B : MS} (c : Prop) (hB : c → ∀ {b : Cell} (_ : Bx b) {ls : List Nat} (_ : Lin n w ls) (s4 s5 s6 : Sl), ∃ b' ls' s5' s6', B (lEnv n w ls s4 s5 s6) (b :: R) = .nx (lEnv n w ls' s4 s5' s6') (b' :: R) ∧ Bx b' ∧ Lin n w ls')
    (m : Nat) (hc : m = 0 ∨ c) {b : Cell} (hb : Bx b) {ls : List Nat} (h : Lin n w ls) (s4 s5 s6 : Sl) : ∃ b' ls' s4' s5' s6', forL (gN 4) B (nl (List.range m)) (lEnv n w ls s4 s5 s6) (b :: R) = .nx (lEnv n w ls' s4' s5' s6') (b' :: R) ∧ Bx b' ∧ Lin n w ls' := by
  have key := forL_inv (g := gN 4) (b := B) (I := fun ds env S => (ds = [] ∨ c) ∧ ∃ (b' : Cell) (ls' : List Nat) (s4' s5' s6' : Sl), S = (b' :: R) ∧ Bx b' ∧ Lin n w ls' ∧ env = lEnv n w ls' s4' s5' s6')
    (fun d ds env S h => by
      obtain ⟨hc, b', ls', s4', s5', s6', rfl, hb', hL, rfl⟩ := h
      have c' : c := hc.resolve_left (fun z => by cases z)
      obtain ⟨b2, ls2, s5'', s6'', e, hb2, hL2⟩ := hB c' hb' hL (.v d) s5' s6'
      exact ⟨lEnv n w ls' (.v d) s5' s6', rfl, _, _, .inl e, .inr c', b2, ls2, _, _, _, rfl, hb2, hL2, rfl⟩) (nl (List.range m)) (lEnv n w ls s4 s5 s6) (b :: R) ⟨by
        rcases hc with rfl | hc
        · exact .inl rfl
        · exact .inr hc, b, ls, _, _, _, rfl, hb, h, rfl⟩
  obtain ⟨e', S', k1, _, b', ls', s4', s5', s6', rfl, hb', hL, rfl⟩ := key
  exact ⟨b', ls', s4', s5', s6', k1, hb', hL⟩
theorem lItR {R : Sto} {b : Cell} (hb : Bx b) {k x i : Nat} (hk : 0 < k) (hk2 : k ≤ 1000) {env : Envr} (h0 : env[0]? = some (.v (.ref 0))) (hi : env[i]? = some (.v (nd x))) :
    ∃ b' m, itR1 (aCons (eOp iMul (eCall m__law_take [] (aCons (eV 0) (aCons (eC (nd k)) aNil))) (eCB fInt (aCons (eOp iGt (eV i) (eC (.int 1))) aNil))) aNil) env (b :: R) = .ok (nl (List.range m)) (b' :: R) ∧ Bx b' ∧ (m = 0 ∨ 1 < x) := by
  obtain ⟨b1, r, t, hb1, hr⟩ := take1R (R := R) hb (k := k) hk (by omega)
  refine ⟨b1, r * (if 1 < x then 1 else 0), ?_, hb1, ?_⟩
  · have c := cnt r x
    have mm := mulB_l (i := (r : Int)) (j := (if decide ((1 : Int) < (x : Int)) = true then 1 else 0)) (by omega)
    have le : r * (if 1 < x then 1 else 0) ≤ 100000 := by split <;> omega
    have rg := rgB_nat le
    simp only [itR1_eq, aCons_eq, aNil_eq, eOp_eq, eCall_eq, eV_eq, eC_eq, eCB_eq, h0, hi, bind_ok', List.append_nil, t, r_val, iGt_eq, opt_some', fInt_bl, iMul_eq, mm, if_true, c, rg]
    rw [Int.toNat_natCast, rng0]
  · split
    · rename_i z
      exact .inr z
    · exact .inl (by simp)
theorem lines_okR {R : Sto} {b : Cell} (hb : Bx b) {n w : Nat} (hn : n ≤ 12) (hw : w ≤ n) : ∃ b' ls, m__law_lines [.ref 0, .int n, .int w] (b :: R) = .ok (.val (.tup (nl ls))) (b' :: R) ∧ Bx b' ∧ Lin n w ls := by
  obtain ⟨b1, ys, e1, hb1, l1, lt1⟩ := numbers_okR (R := R) hb (n - w) w (by omega) (by omega)
  have e1' : m__law_numbers [.ref 0, .int ((n : Int) - w), .int w] (b :: R) = .ok (.own (.lst (nl ys))) (b1 :: R) := by
    have e : (n : Int) - w = ((n - w : Nat) : Int) := by omega
    rw [e]
    exact e1
  have L0 := Lin.plain (n := n) (w := w) l1 hw lt1
  obtain ⟨b2, zs, e2, hb2, p2⟩ := shuffled_okR (R := R) hb1 (plain w ++ ys) (by rw [L0.len]; omega)
  have L1 := L0.perm p2
  obtain ⟨b3, m, e3, hb3, c3⟩ := lItR (R := R) hb2 (k := 7) (x := n) (i := 1) (env := lEnv n w zs .no .no .no) (by decide) (by decide) rfl rfl
  obtain ⟨b4, ls4, s4, s5, s6, e4, hb4, L4⟩ := lForR (R := R) (1 < n) (fun c _ hb _ hL s4 s5 s6 => lBody1_okR (R := R) hb hL c (by omega) s4 s5 s6) m c3 hb3 L1 .no .no .no
  obtain ⟨b5, m5, e5, hb5, c5⟩ := lItR (R := R) hb4 (k := 4) (x := w) (i := 2) (env := lEnv n w ls4 s4 s5 s6) (by decide) (by decide) rfl rfl
  obtain ⟨b6, ls6, t4, t5, t6, e6, hb6, L6⟩ := lForR (R := R) (1 < w) (fun c _ hb _ hL s4 s5 s6 => lBody2_okR (R := R) hb hL c (by omega) (by omega) s4 s5 s6) m5 c5 hb5 L4 s4 s5 s6
  refine ⟨b6, ls6, ?_, hb6, L6⟩
  have rg := rgB_nat (n := w) (by omega)
  have pl := plain_lc (b :: R) n w (by omega)
  have sz := szB_of (n := w) (by omega)
  have sz2 := szB_of (n := w + ys.length) (by omega)
  have e3' : itR1 (aCons (eOp iMul (eCall m__law_take [] (aCons (eV 0) (aCons (eC (.int 7)) aNil))) (eCB fInt (aCons (eOp iGt (eV 1) (eC (.int 1))) aNil))) aNil) (lEnv n w zs .no .no .no) (b2 :: R) = _ := e3
  have e5' : itR1 (aCons (eOp iMul (eCall m__law_take [] (aCons (eV 0) (aCons (eC (.int 4)) aNil))) (eCB fInt (aCons (eOp iGt (eV 2) (eC (.int 1))) aNil))) aNil) (lEnv n w ls4 s4 s5 s6) (b4 :: R) = _ := e5
  rw [m_lines_eq]
  have a1 : (sOwn 3 (fLc (itR1 (aCons (eV 2) aNil)) (gN 7) cYes (eOp iShl (eC (.int 1)) (eV 7)) [7])) [.v (.ref 0), .v (nd n), .v (nd w), .no, .no, .no, .no, .no, .no] (b :: R) = .nx (lEnv n w (plain w) .no .no .no) (b :: R) := by
    simp [rg, rng0, pl, sz, Gf.plain_len]
  have a2 : (sOwn 3 (fCall m__law_shuffled [] (aCons (eV 0) (aCons (eOp dAdd (eV 3) (eCall m__law_numbers [] (aCons (eV 0) (aCons (eOp iSub (eV 1) (eV 2)) (aCons (eV 2) aNil))))) aNil)))) (frzAt 3 (lEnv n w (plain w) .no .no .no)) (b :: R) = .nx (lEnv n w zs .no .no .no) (b2 :: R) := by
    simp [e1', Gf.plain_len, sz2, e2]
  simp only [mFn_eq, startE_eq, sSeq_eq, sFor_eq, sFrz_eq]
  have st : ([D.ref 0, D.int n, D.int w].map Sl.v ++ List.replicate (9 - [D.ref 0, D.int n, D.int w].length) Sl.no) = [.v (.ref 0), .v (nd n), .v (nd w), .no, .no, .no, .no, .no, .no] := rfl
  rw [st, a1]
  simp only []
  rw [a2]
  simp only []
  rw [e3']
  simp only [out_ok']
  rw [e4]
  simp only []
  rw [e5']
  simp only [out_ok']
  rw [e6]
  simp
theorem ofLR {R : Sto} {b : Cell} (hb : Bx b) (xs : List D) (h0 : xs ≠ []) (hl : xs.length ≤ 1000) : ∃ b' z, m__law_of [.ref 0, .lst xs] (b :: R) = .ok (.val z) (b' :: R) ∧ Bx b' ∧ z ∈ xs := by
  have hp := List.length_pos_iff.mpr h0
  obtain ⟨b1, r, t, hb1, hr⟩ := takeKR (R := R) hb (xs.length : Int) xs.length rfl hp (by omega)
  refine ⟨b1, xs[r], ?_, hb1, List.getElem_mem hr⟩
  have e := atI_nat xs r
  rw [List.getElem?_eq_getElem hr] at e
  simp [m__law_of, t, e]
theorem shuffledDR {R : Sto} {b : Cell} (hb : Bx b) (xs : List D) (hl : xs.length ≤ 1000) : ∃ b' ys, m__law_shuffled [.ref 0, .lst xs] (b :: R) = .ok (.own (.lst ys)) (b' :: R) ∧ Bx b' ∧ ys.Perm xs := by
  have key := forL_inv (g := gN 3) (b := sIns 2 (eCall m__law_take [] (aCons (eV 0) (aCons (eOp dAdd (eLenA 2) (eC (.int 1))) aNil))) (eV 3))
    (I := fun ds env S' => ∃ (b' : Cell) (ys : List D) (s : Sl), S' = (b' :: R) ∧ Bx b' ∧ env = [.v (.ref 0), .v (.lst xs), .o (.lst ys), s] ∧ (ys ++ ds).Perm xs)
    (fun x rest env S' h => by
      obtain ⟨b', ys, s, rfl, hb', rfl, p⟩ := h
      have pl := p.length_eq
      simp at pl
      obtain ⟨b2, r, t, hb2, hr⟩ := take1R (R := R) hb' (k := ys.length + 1) (by omega) (by omega)
      have t' : m__law_take [.ref 0, .int ((ys.length : Int) + 1)] (b' :: R) = .ok (.val (nd r)) (b2 :: R) := t
      refine ⟨_, rfl, [.v (.ref 0), .v (.lst xs), .o (.lst (ys.take r ++ [x] ++ ys.drop r)), .v x], (b2 :: R), .inl ?_, b2, _, _, rfl, hb2, rfl, ?_⟩
      · have bd := (bBnd_iff (i := (r : Int)) (n := 9223372036854775807)).mpr (by omega)
        have sz := szB_of (n := ys.length + 1) (by omega)
        simp [t', bd, sz]
      · exact ((insert_permG ys r x).append_right rest).trans ((List.perm_middle (l₁ := ys) (l₂ := rest) (a := x)).symm.trans p)) xs [.v (.ref 0), .v (.lst xs), .o (.lst []), .no] (b :: R) ⟨b, [], .no, rfl, hb, rfl, by simp⟩
  obtain ⟨e', S', k1, b', ys, s, rfl, hb', rfl, p⟩ := key
  refine ⟨b', ys, ?_, hb', by simpa using p⟩
  have s0 := szB_of (n := 0) (by omega)
  simp [m__law_shuffled, s0]
  rw [k1]
  rfl
end Fb
namespace Fb
open PySem L2 Mm Gf
def small : Str := "abcdefghijklmnopqrstuvwxyz"
def nameB (x : Str) : Bool := decide (1 ≤ x.cps.size) && decide (x.cps.size ≤ 6) && x.cps.toList.all fun c => decide (c ∈ small.cps.toList)
theorem fInSign_eq (S : Sto) (c : Nat) (z : Str) : fInSign false S (.str ⟨#[c]⟩) (.str z) = some (.bl (decide (c ∈ z.cps.toList))) := rfl
theorem is_name_ok (S : Sto) (x : Str) (hx : x.cps.size ≤ 100000) : m_is_name [.str x] S = .ok (.val (.bl (nameB x))) S := by
  have hl : x.length = x.cps.size := rfl
  have sz := szB_of (n := x.cps.size) hx
  have e : ∀ (s : Sl), fLc (itS (eV 0)) (gN 1) cYes (eOp (fInSign false) (eV 1) (eC (.str "abcdefghijklmnopqrstuvwxyz"))) [1] [.v (.str x), s] S = .ok (.lst ((x.cps.toList.map fun c => decide (c ∈ small.cps.toList)).map D.bl)) S := fun s => by
    rw [List.map_map]
    refine flc_of (fun c : Nat => .str ⟨#[c]⟩) (fun c => .bl (decide (c ∈ small.cps.toList))) x.cps.toList (by simp [signs]) (by simpa using hx) fun y hy => ?_
    simp [fInSign_eq, small]
  have f1 : fLen S [.str x] = some (.int x.cps.size) := by
    show (if szB x.length then some (D.int x.length) else none) = _
    rw [hl, sz]
    rfl
  have i1 : decide ((1 : Int) ≤ (x.cps.size : Int)) = decide (1 ≤ x.cps.size) := decide_eq_decide.mpr (by omega)
  have i2 : decide ((x.cps.size : Int) ≤ 6) = decide (x.cps.size ≤ 6) := decide_eq_decide.mpr (by omega)
  unfold m_is_name
  simp only [mFn_eq, startE_eq, sRet_eq, eAnd_eq, eChain_eq, eC_eq, bind_ok', eCB_eq, aCons_eq, aNil_eq, eV_eq]
  simp [f1, i1, i2, e, -fLc_eq]
  unfold nameB
  by_cases h1 : 1 ≤ x.cps.size <;> by_cases h2 : x.cps.size ≤ 6 <;> simp [h1, h2, e, fAll_eq, -fLc_eq, -List.map_map, List.all_map, Function.comp_def]
theorem atI_il {xs : List Int} {i : Nat} (h : i < xs.length) : atI (xs.map D.int) (i : Int) = some (.int (xs.getD i 0)) := by
  rw [Mm.atI_nat]
  simp [h]
end Fb
namespace Fb
open PySem L2 Mm Gf
def bfs (n b l k : Nat) (p q : Int) : List (Str × D) := [("wide", .tup [nd b, nd l, nd k]), ("tables", .ref (n + 1)), ("store", .ref (n + 2)), ("dues", .tup [.int p, .int q])]
def bodyC (n b l k : Nat) (p q : Int) : Cell := .ins "Body" (bfs n b l k p q)
@[simp] theorem bfs_wide (n b l k : Nat) (p q : Int) : (bfs n b l k p q).lookup ("wide" : Str) = some (.tup [nd b, nd l, nd k]) := rfl
@[simp] theorem bfs_tables (n b l k : Nat) (p q : Int) : (bfs n b l k p q).lookup ("tables" : Str) = some (.ref (n + 1)) := rfl
@[simp] theorem bfs_store (n b l k : Nat) (p q : Int) : (bfs n b l k p q).lookup ("store" : Str) = some (.ref (n + 2)) := rfl
@[simp] theorem bfs_dues (n b l k : Nat) (p q : Int) : (bfs n b l k p q).lookup ("dues" : Str) = some (.tup [.int p, .int q]) := rfl
end Fb
namespace Mm
open PySem L2
@[simp] theorem sExt_eq (i : Nat) (me : ME) (env : Envr) (S : Sto) : sExt i me env S = (match env[i]? with
  | some (.o (.lst xs)) => (me env S).out env fun d S1 => (match d with
    | .lst ys => if szB (xs.length + ys.length) then .nx (env.set i (.o (.lst (xs ++ ys)))) S1 else .stuck
    | _ => .stuck)
  | _ => .stuck) := rfl
end Mm
namespace Fb
open PySem L2 Mm Gf
theorem wide_ok {R : Sto} {b : Cell} (hb : Bx b) : ∃ b' x y z, m__law_wide [.ref 0] (b :: R) = .ok (.val (.tup [nd x, nd y, nd z])) (b' :: R) ∧ Bx b' ∧ x ≤ 4 ∧ y ≤ 3 ∧ 1 ≤ z ∧ z ≤ 3 := by
  have s3 := szB_of (n := 3) (by omega)
  have s5 := szB_of (n := 5) (by omega)
  have s10 := szB_of (n := 10) (by omega)
  obtain ⟨b1, z, t, hb1, hz⟩ := ofLR (R := R) hb [.tup [.int 2, .int 1, .int 2], .tup [.int 1, .int 2, .int 2], .tup [.int 2, .int 2, .int 1], .tup [.int 0, .int 2, .int 2], .tup [.int 3, .int 1, .int 3], .tup [.int 1, .int 0, .int 1], .tup [.int 0, .int 0, .int 1], .tup [.int 2, .int 3, .int 2], .tup [.int 3, .int 2, .int 2], .tup [.int 4, .int 3, .int 2]] (by simp) (by simp)
  have key : m__law_wide [.ref 0] (b :: R) = .ok (.val z) (b1 :: R) := by
    simp [m__law_wide, s3, s5, s10, t]
  rw [key]
  simp only [List.mem_cons, List.not_mem_nil, or_false] at hz
  rcases hz with rfl | rfl | rfl | rfl | rfl | rfl | rfl | rfl | rfl | rfl
  · exact ⟨b1, 2, 1, 2, rfl, hb1, by decide, by decide, by decide, by decide⟩
  · exact ⟨b1, 1, 2, 2, rfl, hb1, by decide, by decide, by decide, by decide⟩
  · exact ⟨b1, 2, 2, 1, rfl, hb1, by decide, by decide, by decide, by decide⟩
  · exact ⟨b1, 0, 2, 2, rfl, hb1, by decide, by decide, by decide, by decide⟩
  · exact ⟨b1, 3, 1, 3, rfl, hb1, by decide, by decide, by decide, by decide⟩
  · exact ⟨b1, 1, 0, 1, rfl, hb1, by decide, by decide, by decide, by decide⟩
  · exact ⟨b1, 0, 0, 1, rfl, hb1, by decide, by decide, by decide, by decide⟩
  · exact ⟨b1, 2, 3, 2, rfl, hb1, by decide, by decide, by decide, by decide⟩
  · exact ⟨b1, 3, 2, 2, rfl, hb1, by decide, by decide, by decide, by decide⟩
  · exact ⟨b1, 4, 3, 2, rfl, hb1, by decide, by decide, by decide, by decide⟩
theorem cells_lc {R : Sto} {tp : Nat} (h0 : 0 < tp) (h1 : tp ≤ 5000) {env : Envr} (e0 : env[0]? = some (.v (.ref 0))) (e2 : env[2]? = some (.v (nd tp))) (hk : 3 < env.length) : ∀ (ds : List D) {b : Cell}, Bx b → ∃ (b' : Cell) (cs : List Int), lcR (gN 3) cYes (eOp iSub (eCall m__law_take [] (aCons (eV 0) (aCons (eV 2) aNil))) (eOp iDiv (eV 2) (eC (.int 2)))) env ds (b :: R) = .ok (cs.map D.int) (b' :: R) ∧ Bx b' ∧ cs.length = ds.length ∧ ∀ z ∈ cs, z.natAbs ≤ 5000
  | [], b, hb => ⟨b, [], rfl, hb, rfl, by simp⟩
  | d :: ds, b, hb => by
    obtain ⟨b1, r, t, hb1, hr⟩ := takeKR (R := R) hb (tp : Int) tp rfl h0 (by omega)
    obtain ⟨b2, cs, e, hb2, hl, hz⟩ := cells_lc (R := R) h0 h1 e0 e2 hk ds hb1
    have f0 : (env.set 3 (.v d))[0]? = some (.v (.ref 0)) := by rw [List.getElem?_set_ne (by omega)]; exact e0
    have f2 : (env.set 3 (.v d))[2]? = some (.v (nd tp)) := by rw [List.getElem?_set_ne (by omega)]; exact e2
    have dv := divB_of (i := (tp : Int)) (k := 2) (by omega) (by omega)
    have dv' : divB (tp : Int) 2 = true := dv
    have q : (tp : Int).fdiv 2 = ((tp / 2 : Nat) : Int) := by
      rw [Int.fdiv_eq_ediv_of_nonneg _ (by omega)]
      rfl
    refine ⟨b2, ((r : Int) - ((tp / 2 : Nat) : Int)) :: cs, ?_, hb2, by simp [hl], fun z hz' => ?_⟩
    · unfold lcR
      simp only [gN_eq, cYes_eq, eOp_eq, eCall_eq, aCons_eq, aNil_eq, eV_eq, f0, f2, bind_ok', List.append_nil, t, r_val, eC_eq, iDiv_eq, iSub_eq]
      simp [t, f0, f2, dv', q, e]
    · rcases List.mem_cons.mp hz' with rfl | hz'
      · omega
      · exact hz z hz'
theorem cells_ok {R : Sto} {b : Cell} (hb : Bx b) {v : Nat} (hv : v ≤ 12) (V : Int) (eV : V = (v : Int)) : ∃ (b' : Cell) (cs : List Int), m__law_cells [.ref 0, .int V] (b :: R) = .ok (.val (.tup (cs.map D.int))) (b' :: R) ∧ Bx b' ∧ cs.length = 2 ^ v ∧ ∀ z ∈ cs, z.natAbs ≤ 5000 := by
  subst eV
  have s3 := szB_of (n := 3) (by omega)
  obtain ⟨b1, z, t, hb1, hz⟩ := ofLR (R := R) hb [.int 2, .int 10, .int 2001] (by simp) (by simp)
  obtain ⟨tp, rfl, h0, h1⟩ : ∃ tp : Nat, z = nd tp ∧ 0 < tp ∧ tp ≤ 5000 := by
    simp only [List.mem_cons, List.not_mem_nil, or_false] at hz
    rcases hz with rfl | rfl | rfl
    · exact ⟨2, rfl, by omega, by omega⟩
    · exact ⟨10, rfl, by omega, by omega⟩
    · exact ⟨2001, rfl, by omega, by omega⟩
  have p12 : 2 ^ v ≤ 100000 := Nat.le_trans (Nat.pow_le_pow_right (by decide) hv) (by decide : 2 ^ 12 ≤ 100000)
  obtain ⟨b2, cs, e, hb2, hl, hz⟩ := cells_lc (R := R) h0 h1 (env := [.v (.ref 0), .v (.int v), .v (nd tp), .no]) rfl rfl (by simp) (nl (List.range (2 ^ v))) hb1
  refine ⟨b2, cs, ?_, hb2, by simpa using hl, hz⟩
  have pw := powB_nat (i := 1) (by decide) v (by omega)
  have sz := szB_of (n := cs.length) (by rw [hl]; simpa using p12)
  have it : itR1 (aCons (eOp iShl (eC (.int 1)) (eV 1)) aNil) [.v (.ref 0), .v (.int v), .v (nd tp), .no] (b1 :: R) = .ok (nl (List.range (2 ^ v))) (b1 :: R) := itR1_nat (by simp [pw]) p12
  unfold m__law_cells
  simp [s3, t, -itR1_eq]
  rw [it]
  simp [e, sz]
end Fb
namespace Fb
open PySem L2 Mm Gf
def St (b : Cell) (x y z : Nat) (p q : Int) (ts ss : List (Key × D)) : Sto := [b, bodyC 1 x y z p q, .dic ts, .dic ss]
section
variable {b : Cell} {x y z : Nat} {p q : Int} {ts ss : List (Key × D)}
@[simp] theorem St_len : (St b x y z p q ts ss).length = 4 := rfl
@[simp] theorem St_0 : (St b x y z p q ts ss)[0]? = some b := rfl
@[simp] theorem St_1 : (St b x y z p q ts ss)[1]? = some (.ins "Body" (bfs 1 x y z p q)) := rfl
@[simp] theorem St_2 : (St b x y z p q ts ss)[2]? = some (.dic ts) := rfl
@[simp] theorem St_3 : (St b x y z p q ts ss)[3]? = some (.dic ss) := rfl
end
end Fb
namespace Fb
open PySem L2 Mm Gf
def mixI (w : Str) (a b : Int) : Int := if w = "plus" then a + b else if w = "less" then a - b else if w = "least" then (if b < a then b else a) else (if a < b then b else a)
def wds : List Str := ["plus", "less", "least", "most"]
theorem sok_plus : PyData.strOk "plus" = true := by decide +kernel
theorem sok_less : PyData.strOk "less" = true := by decide +kernel
theorem sok_least : PyData.strOk "least" = true := by decide +kernel
theorem sok_most : PyData.strOk "most" = true := by decide +kernel
theorem wd_ok {w : Str} (h : w ∈ wds) : PyData.strOk w = true := by
  simp only [wds, List.mem_cons, List.not_mem_nil, or_false] at h
  rcases h with rfl | rfl | rfl | rfl
  · exact sok_plus
  · exact sok_less
  · exact sok_least
  · exact sok_most
theorem mixed_ok (S : Sto) {w : Str} (h : PyData.strOk w = true) (a b : Int) : m_mixed [.str w, .int a, .int b] S = .ok (.val (.int (mixI w a b))) S := by
  have e1 := fEq_str S h sok_plus
  have e2 := fEq_str S h sok_less
  have e3 := fEq_str S h sok_least
  unfold mixI
  by_cases h1 : w = "plus"
  · rw [decide_eq_true h1] at e1
    rw [if_pos h1]
    simp [m_mixed, e1]
  · rw [decide_eq_false h1] at e1
    rw [if_neg h1]
    by_cases h2 : w = "less"
    · rw [decide_eq_true h2] at e2
      rw [if_pos h2]
      simp [m_mixed, e1, e2]
    · rw [decide_eq_false h2] at e2
      rw [if_neg h2]
      by_cases h3 : w = "least"
      · rw [decide_eq_true h3] at e3
        rw [if_pos h3]
        by_cases hb : b < a <;> simp [m_mixed, e1, e2, e3, hb]
      · rw [decide_eq_false h3] at e3
        rw [if_neg h3]
        by_cases hb : a < b <;> simp [m_mixed, e1, e2, e3, hb]
end Fb
namespace Fb
open PySem L2 Mm Gf
def sumTo (R : List Nat) (n y : Nat) (cs : List Int) : Int := (((List.range n).filter fun c => decide (app R c = y)).map fun c => cs.getD c 0).sum
def totC (R : List Nat) (v k : Nat) (cs : List Int) : List Int := (List.range (2 ^ k)).map fun y => sumTo R (2 ^ v) y cs
theorem totC_len (R : List Nat) (v k : Nat) (cs : List Int) : (totC R v k cs).length = 2 ^ k := by simp [totC]
theorem sumTo_succ (R : List Nat) (n y : Nat) (cs : List Int) : sumTo R (n + 1) y cs = sumTo R n y cs + if app R n = y then cs.getD n 0 else 0 := by
  unfold sumTo
  rw [List.range_succ, List.filter_append]
  by_cases h : app R n = y <;> simp [h]
end Fb
namespace Fb
open PySem L2 Mm Gf
def sm (n : Nat) (p : Nat → Bool) (f : Nat → Int) : Int := (((List.range n).filter p).map f).sum
theorem sm_congr {n : Nat} {p q : Nat → Bool} {f g : Nat → Int} (hp : ∀ x, x < n → p x = q x) (hf : ∀ x, x < n → f x = g x) : sm n p f = sm n q g := by
  unfold sm
  have e : (List.range n).filter p = (List.range n).filter q := List.filter_congr fun x hx => hp x (List.mem_range.mp hx)
  rw [e]
  congr 1
  refine List.map_congr_left fun x hx => hf x (List.mem_range.mp (List.mem_filter.mp hx).1)
theorem totC_at {R : List Nat} {v k : Nat} {cs : List Int} {y : Nat} (hy : y < 2 ^ k) : (totC R v k cs).getD y 0 = sumTo R (2 ^ v) y cs := by
  simp [totC, List.getD_eq_getElem?_getD, hy]
end Fb
namespace Fb
open PySem L2 Mm Gf
theorem intsOf_map (xs : List Int) : intsOf (xs.map D.int) = some xs := by
  induction xs with
  | nil => rfl
  | cons x xs ih =>
    rw [List.map_cons]
    unfold intsOf
    rw [ih]
    rfl
theorem fSum_l (S : Sto) (xs : List Int) (hz : xs.length ≤ 100000) : fSum S [.lst (xs.map D.int)] = some (.int xs.sum) := by
  unfold fSum
  simp [intsOf_map]
end Fb
namespace Mm
open PySem PySem.Spec PyProof.Rows L2 HotX
theorem RepL.strs {g : Gam} {w : Wd} : ∀ (ns : List Str), RepL g w (ns.map D.str) (ns.map V.str)
  | [] => RepL.nil_
  | n :: ns => RepL.cons_ rep_str' (RepL.strs ns)
end Mm
namespace Mm
open PySem PySem.Spec PyProof.Rows L2
def leS (a b : Str) : Prop := ltCps b.cps.toList a.cps.toList = false
theorem ltCps_anti : ∀ a b : List Nat, ltCps a b = false → ltCps b a = false → a = b
  | [], [], _, _ => rfl
  | [], _ :: _, h, _ => by simp [ltCps] at h
  | _ :: _, [], _, h => by simp [ltCps] at h
  | a :: r, b :: t, h, h' => by
    simp [ltCps] at h h'
    have e : a = b := by omega
    subst e
    rw [ltCps_anti r t (by simpa using h.2) (by simpa using h'.2)]
theorem ltCps_tr : ∀ a b c : List Nat, ltCps b a = false → ltCps c b = false → ltCps c a = false
  | [], _, [], _, _ => rfl
  | [], [], _ :: _, _, h => by simp [ltCps] at h ⊢
  | [], _ :: _, _ :: _, _, _ => by simp [ltCps]
  | _ :: _, [], _, h, _ => by simp [ltCps] at h
  | _ :: _, _ :: _, [], _, h => by simp [ltCps] at h
  | a :: r, b :: t, c :: u, h, h' => by
    simp [ltCps] at h h' ⊢
    refine ⟨by omega, fun e => ?_⟩
    have e1 : a = b := by omega
    subst e1
    exact ltCps_tr r t u (h.2 rfl) (h'.2 (by omega))
theorem ltCps_tot : ∀ a b : List Nat, ltCps a b = true → ltCps b a = false
  | [], [], h => by simp [ltCps] at h
  | [], _ :: _, _ => by simp [ltCps]
  | _ :: _, [], h => by simp [ltCps] at h
  | a :: r, b :: t, h => by
    simp [ltCps] at h ⊢
    refine ⟨by omega, fun e => ?_⟩
    rcases h with h | ⟨_, h⟩
    · omega
    · exact ltCps_tot r t h
theorem leS_tr {a b c : Str} (h : leS a b) (h' : leS b c) : leS a c := ltCps_tr _ _ _ h h'
theorem leS_anti {a b : Str} (h : leS a b) (h' : leS b a) : a = b := by
  have e := ltCps_anti _ _ h' h
  cases a with
  | mk x => cases b with
    | mk y =>
      have : x = y := Array.toList_inj.mp e
      rw [this]
def insX (x : Str) : List Str → List Str
  | [] => [x]
  | y :: r => if ltCps y.cps.toList x.cps.toList then y :: insX x r else x :: y :: r
def srtX : List Str → List Str
  | [] => []
  | x :: r => insX x (srtX r)
theorem insX_perm (x : Str) : ∀ l, (insX x l).Perm (x :: l)
  | [] => List.Perm.refl _
  | y :: r => by
    unfold insX
    split
    · exact ((insX_perm x r).cons y).trans (List.Perm.swap x y r)
    · exact List.Perm.refl _
theorem srtX_perm : ∀ l, (srtX l).Perm l
  | [] => List.Perm.refl _
  | x :: r => (insX_perm x _).trans ((srtX_perm r).cons x)
theorem insX_srt (x : Str) : ∀ l : List Str, l.Pairwise leS → (insX x l).Pairwise leS
  | [], _ => by simp [insX]
  | y :: r, h => by
    obtain ⟨h1, h2⟩ := List.pairwise_cons.mp h
    unfold insX
    split
    · rename_i hlt
      refine List.pairwise_cons.mpr ⟨fun z hz => ?_, insX_srt x r h2⟩
      rcases List.mem_cons.mp ((insX_perm x r).mem_iff.mp hz) with e | e
      · rw [e]
        exact ltCps_tot _ _ hlt
      · exact h1 z e
    · rename_i hge
      have hxy : leS x y := by simpa [leS] using hge
      refine List.pairwise_cons.mpr ⟨fun z hz => ?_, h⟩
      rcases List.mem_cons.mp hz with e | e
      · rw [e]
        exact hxy
      · exact leS_tr hxy (h1 z e)
theorem srtX_srt : ∀ l : List Str, (srtX l).Pairwise leS
  | [] => List.Pairwise.nil
  | x :: r => insX_srt x _ (srtX_srt r)
theorem rising_pw : ∀ (p : Str) (l : List Str), risingS p l = true → (p :: l).Pairwise leS
  | p, [], _ => by simp
  | p, x :: r, h => by
    unfold risingS at h
    obtain ⟨h1, h2⟩ := Bool.and_eq_true_iff.mp h
    have ih := rising_pw x r h2
    have hpx : leS p x := by simpa [leS] using h1
    refine List.pairwise_cons.mpr ⟨fun z hz => ?_, ih⟩
    rcases List.mem_cons.mp hz with e | e
    · rw [e]
      exact hpx
    · exact leS_tr hpx ((List.pairwise_cons.mp ih).1 z e)
theorem sortedS_pw : ∀ l : List Str, sortedS l = true → l.Pairwise leS
  | [], _ => List.Pairwise.nil
  | x :: r, h => rising_pw x r h
theorem uniqS {a b : List Str} (p : a.Perm b) (ha : a.Pairwise leS) (hb : b.Pairwise leS) : a = b := p.eq_of_pairwise (fun x y _ _ h h' => leS_anti h h') ha hb
def txtsK : List (Key × D) → Option (List Str)
  | [] => some []
  | (.inr x, _) :: r => (txtsK r).map (x :: ·)
  | _ => none
theorem txtsK_rep {g : Gam} {w : Wd} : ∀ {ks : List (Key × D)} {gs : List (Key × V)} {xs : List Str}, RepK g w ks gs → txtsK ks = some xs → gs.map (·.1) = xs.map Sum.inr
  | [], gs, xs, h, e => by
    unfold RepK at h
    unfold txtsK at e
    cases e
    subst h
    rfl
  | (.inr x, d) :: r, gs, xs, h, e => by
    obtain ⟨v, q, rfl, a, b⟩ := h.inv
    unfold txtsK at e
    cases z : txtsK r with
    | none => rw [z] at e; cases e
    | some ys =>
      rw [z] at e
      cases e
      simp [txtsK_rep b z]
  | (.inl i, d) :: r, gs, xs, h, e => by
    unfold txtsK at e
    cases e
def fSortedD : Sto → List D → Option Cell
  | S, [d] => (dicOf S d).bind fun ks => (txtsK ks).bind fun xs => if xs.length < 64 then some (.lst ((srtX xs).map D.str)) else none
  | _, _ => none
theorem co_sortedD {g : Gam} : CallO g (fun xs H Q => ∃ (a : Addr) (kvs : List (Key × V)) (ks : List Str), xs = [.ref a] ∧ Rd H a (.dK kvs) ∧ kvs.map (·.1) = ks.map Sum.inr ∧ ks.length < 64 ∧ ∀ ys p, ys.Perm ks → sortedS ys = true → H p = none → Q (.ref p) (upd H p (.lst (ys.map V.str)))) fSortedD := fun w H S ds vs c Q k r e q => by
  unfold fSortedD at e
  split at e
  · rename_i d'
    obtain ⟨v, e1, e2⟩ := repL_one r
    cases z : dicOf S d' with
    | none => rw [z] at e; cases e
    | some ks =>
      rw [z] at e
      have e : ((txtsK ks).bind fun xs => if xs.length < 64 then some (.lst ((srtX xs).map D.str)) else none) = some c := e
      cases y : txtsK ks with
      | none => rw [y] at e; cases e
      | some xs =>
        rw [y] at e
        have e : (if xs.length < 64 then some (.lst ((srtX xs).map D.str)) else none) = some c := e
        split at e
        · rename_i hl
          cases e
          obtain ⟨a, us, x1, x2, x3⟩ := dicOf_rep k e2 z
          rw [x1] at e1
          refine ⟨a, us, xs, e1, x2, txtsK_rep x3 y, hl, fun ys p hp hs hn => ?_⟩
          rw [uniqS (hp.trans (srtX_perm xs).symm) (sortedS_pw ys hs) (srtX_srt xs)]
          exact q p _ hn nt_lst ⟨_, upd_same, RepL.strs _⟩
        · cases e
  · cases e
end Mm
namespace Mm
open PySem L2
@[simp] theorem fSortedD_eq (S : Sto) (d : D) : fSortedD S [d] = (dicOf S d).bind fun ks => (txtsK ks).bind fun xs => if xs.length < 64 then some (.lst ((srtX xs).map D.str)) else none := rfl
end Mm
namespace Fb
open PySem L2 Mm Gf
def plainN : Nat → D → Bool
  | 0, _ => false
  | _ + 1, .int _ => true
  | _ + 1, .bl _ => true
  | _ + 1, .non => true
  | _ + 1, .str s => PyData.strOk s
  | n + 1, .lst ds => decide (ds.length ≤ 1000) && ds.all (plainN n)
  | n + 1, .tup ds => decide (ds.length ≤ 1000) && ds.all (plainN n)
  | _, _ => false
theorem zip_self {α : Type} : ∀ {xs : List α} {p : α × α}, p ∈ xs.zip xs → p.1 = p.2 ∧ p.1 ∈ xs
  | [], p, h => by simp at h
  | x :: xs, p, h => by
    rw [List.zip_cons_cons, List.mem_cons] at h
    rcases h with rfl | h
    · exact ⟨rfl, List.mem_cons_self⟩
    · obtain ⟨a, b⟩ := zip_self h
      exact ⟨a, List.mem_cons_of_mem _ b⟩
theorem same_str (n : Nat) (S : Sto) {x : Str} (h : PyData.strOk x = true) : m__law_same (n + 1) [.str x, .str x] S = .ok (.val (.bl true)) S := by
  have e := fEq_str S h h
  simp [m__law_same, szB, e]
theorem same_non (n : Nat) (S : Sto) : m__law_same (n + 1) [.non, .non] S = .ok (.val (.bl true)) S := by
  have e : fEq S .non .non = some (.bl true) := rfl
  simp [m__law_same, szB, e]
theorem same_tupT (n : Nat) (S : Sto) (xs ys : List D) (hl : xs.length = ys.length) (hz : xs.length ≤ 100000) (h : ∀ p ∈ xs.zip ys, m__law_same n [p.1, p.2] S = .ok (.val (.bl true)) S) : m__law_same (n + 1) [.tup xs, .tup ys] S = .ok (.val (.bl true)) S := by
  have lc := same_each n S xs ys (.tup xs) (.tup ys) h
  have sz := szB_of (n := min xs.length ys.length) (by omega)
  have two := szB_of (n := 2) (by decide)
  have fa : fAll S [.lst ((xs.zip ys).map fun _ => D.bl true)] = some (.bl true) := by
    have := fAll_eq S ((xs.zip ys).map fun _ => true)
    rw [List.map_map] at this
    have this : fAll S [.lst ((xs.zip ys).map fun _ => D.bl true)] = _ := this
    rw [this]
    simp
  have e : (itZA (aCons (eV 0) (aCons (eV 1) aNil))) [.v (.tup xs), .v (.tup ys), .no, .no] S = .ok (zipD xs ys) S := rfl
  have body : (fLc (itZA (aCons (eV 0) (aCons (eV 1) aNil))) (gT (gNC (gN 2) (gNC (gN 3) gN0))) cYes (eCall (m__law_same n) [] (aCons (eV 2) (aCons (eV 3) aNil))) [2, 3]) [.v (.tup xs), .v (.tup ys), .no, .no] S = .ok (.lst ((xs.zip ys).map fun _ => D.bl true)) S := by
    rw [fLc_eq, e, bind_ok']
    erw [lc]
    rw [bind_ok', fin_eq, if_pos (by simpa using sz)]
  unfold m__law_same
  simp [-fLc_eq, two, hl, body, fa]
theorem same_refl (S : Sto) : ∀ (n : Nat) (d : D), plainN n d = true → m__law_same n [d, d] S = .ok (.val (.bl true)) S
  | 0, d, h => by cases d <;> cases h
  | n + 1, .int i, _ => by rw [same_int, decide_eq_true rfl]
  | n + 1, .bl i, _ => by rw [same_bl, decide_eq_true rfl]
  | n + 1, .non, _ => same_non n S
  | n + 1, .str s, h => same_str n S h
  | n + 1, .lst ds, h => by
    unfold plainN at h
    rw [Bool.and_eq_true, List.all_eq_true] at h
    refine same_listsT n S ds ds rfl (Nat.le_trans (of_decide_eq_true h.1) (by decide)) (fun p hp => ?_)
    obtain ⟨e, m⟩ := zip_self hp
    rw [← e]
    exact same_refl S n p.1 (h.2 _ m)
  | n + 1, .tup ds, h => by
    unfold plainN at h
    rw [Bool.and_eq_true, List.all_eq_true] at h
    refine same_tupT n S ds ds rfl (Nat.le_trans (of_decide_eq_true h.1) (by decide)) (fun p hp => ?_)
    obtain ⟨e, m⟩ := zip_self hp
    rw [← e]
    exact same_refl S n p.1 (h.2 _ m)
  | n + 1, .ins _ _, h => by unfold plainN at h; cases h
  | n + 1, .dic _, h => by unfold plainN at h; cases h
  | n + 1, .tdc _, h => by unfold plainN at h; cases h
  | n + 1, .tds _, h => by unfold plainN at h; cases h
  | n + 1, .ref _, h => by unfold plainN at h; cases h
  | n + 1, .scr _, h => by unfold plainN at h; cases h
  | n + 1, .ty _, h => by unfold plainN at h; cases h
  | n + 1, .cls _, h => by unfold plainN at h; cases h
  | n + 1, .adr _, h => by unfold plainN at h; cases h
  | n + 1, .set _, h => by unfold plainN at h; cases h
end Fb
namespace Fb
open PySem L2 Mm
noncomputable def m__law_mixed : MFn := mFn 3 (sSeq (sIf (cB (eOp fEq (eV 0) (eC (.str "plus")))) (sRet (eOp dAdd (eV 1) (eV 2))) sNil)
    (sSeq (sIf (cB (eOp fEq (eV 0) (eC (.str "less")))) (sRet (eOp iSub (eV 1) (eV 2))) sNil)
    (sRet (eIf (cB (eOp fEq (eV 0) (eC (.str "least")))) (eCB fMin2 (aCons (eV 1) (aCons (eV 2) aNil))) (eCB fMax2 (aCons (eV 1) (aCons (eV 2) aNil)))))))
end Fb
namespace Mm
open PySem L2
section
variable {X : Cx} {Y : Gam} {W : WX} {e a b c tg elt : Expr} {es rest : List Expr} {td ta tb te : TE} {tt tu : TT} {md ma mb me : ME} {mt mu : MT} {mf : MF} {t : TA} {m : MA} {pos : Pos} {wi : TI} {mi : MI}
def itVals (md : ME) : MI := fun env S => (md env S).bind fun d S1 => match d with
  | .ref n => (match S1[n]? with
    | some (.lck ks) => .ok (ks.map (·.2)) S1
    | _ => .stuck)
  | _ => .stuck
variable {scope : Scope} {own : List (Str × Nat)} {is : List Nat} {g : TG} {mg : MG} {apos cpos : Pos}
end
end Mm
namespace Mm
open PySem L2
section
variable {X : Cx} {Y : Gam} {W : WX} {e : Expr} {te : TE} {me : ME} {pos : Pos}
def sAppC (i : Nat) (me : ME) : MS := fun env S => match env[i]? with
  | some (.v (.ref n)) => (match S[n]? with
    | some (.lst _) => (me env S).out env fun d S1 => (match S1[n]? with
      | some (.lst ds) => if szB (ds.length + 1) then .nx env (S1.set n (.lst (ds ++ [d]))) else .stuck
      | _ => .stuck)
    | _ => .stuck)
  | _ => .stuck
theorem t_appC (i : Nat) {x : Str} {p1 apos cpos : Pos} (he : SE X Y W e te me) (hK : X.K = Y.K := by rfl) (hN : X.N[i]? = some x := by rfl) (hv : Vis X.env.scope x := by first | exact Or.inl rfl | exact Or.inr (Or.inl rfl) | exact Or.inr (Or.inr rfl)) (hd : (x == ("__debug__" : Str)) = false := by decide)
    (hcd : (x == ("__classdict__" : Str)) = false := by decide) (hbase : attributeBase (.Name x p1) "append" X.env (eval (.Name x p1) X.env) = eval (.Name x p1) X.env := by rfl)
    (hfew : ((backTo cpos (starEach [e] X.env)).all (fun x => !x.1) && (backToKw cpos (keywordEach [] X.env)).all (fun x => x.1.isSome)
      && decide ([e].length + ([] : List Keyword).length + (if ([] : List Keyword).isEmpty then 0 else 1) < 30)) = true := by rfl)
    (hline : (apos.endLine == cpos.line) = true := by rfl) (hs : starEach [e] X.env = (false, eval e X.env) :: starEach [] X.env := by rfl) (hplain : (backTo cpos (starEach [] X.env)).any (·.1) = false := by rfl)
    (hsw : swapsWith (.Call (.Attribute (.Name x p1) "append" apos) [e] [] cpos) none pos.line X.env = pure false := by rfl) :
    SS X Y W (.Expr (.Call (.Attribute (.Name x p1) "append" apos) [e] [] cpos) pos) (tDrop (tBM Y.K "list" rAppend (tVar i) (tCons te tNil))) (sAppC i me) :=
  ⟨hK ▸ ps_expr (pe_bm PySem.F.plainAttrs_list PySem.F.slot_list_append PySem.F.type_list_append mt_append (pv i hN hv hd hcd) (pa_cons he.pe pa_nil hs) hbase hfew hline hs hplain) hsw, fun w0 H0 w H σ env S O Dn st p => by
    unfold sAppC at p
    split at p
    · rename_i n hs
      have hi : i < σ.length := by
        rw [← st.l1]
        exact (List.getElem?_eq_some_iff.mp hs).1
      have hO : i < O.length := by
        rw [st.l2]
        exact hi
      obtain ⟨_, x, ex, rx⟩ := st.sl i (.v (.ref n)) σ[i] O[i] hs (List.getElem?_eq_getElem hi) (List.getElem?_eq_getElem hO)
      split at p
      · rename_i ds0 hS0
        obtain ⟨a0, us0, y1, y2, y3, y4⟩ := cell_lst st.ok rx hS0
        refine ⟨x, by rw [List.getElem?_eq_getElem hi, ex], by rw [y1]; exact tyV_lst y3, ?_⟩
        refine he.sim w0 H0 w H σ env S O _ st ((PostS.out p).imp fun d S1 w1 H1 st1 l1 p1 v r => ?_)
        split at p1
        · rename_i ds hS
          split at p1
          · rename_i hz
            obtain ⟨a, us, x1, x2, x3, x4⟩ := cell_lst st1.ok (rx.mono l1) hS
            have hz2 : us.length < sizeLine := Nat.lt_of_lt_of_le (by rw [← x4.len]; exact Nat.lt_succ_self _) (szB_le hz)
            refine ⟨a, us, v, x1, rfl, x3, hz2, ?_⟩
            obtain ⟨k3, f3⟩ := ok_cell (c' := .lst (ds ++ [d])) st1.ok x2 hS (o := .lst (us ++ [v])) ⟨_, upd_same, x4.append_ (RepL.cons_ r RepL.nil_)⟩ nt_lst
            exact p1 w1 _ σ O (st1.after f3 k3) (.refl w1)
          · exact False.elim p1
        · exact False.elim p1
      · exact p.elim
    · exact p.elim⟩
end
end Mm
namespace Mm
open PySem L2
@[simp] theorem itVals_eq (md : ME) (env : Envr) (S : Sto) : itVals md env S = (md env S).bind fun d S1 => match d with
  | .ref n => (match S1[n]? with
    | some (.lck ks) => .ok (ks.map (·.2)) S1
    | _ => .stuck)
  | _ => .stuck := rfl
@[simp] theorem sAppC_eq (i : Nat) (me : ME) (env : Envr) (S : Sto) : sAppC i me env S = (match env[i]? with
  | some (.v (.ref n)) => (match S[n]? with
    | some (.lst _) => (me env S).out env fun d S1 => (match S1[n]? with
      | some (.lst ds) => if szB (ds.length + 1) then .nx env (S1.set n (.lst (ds ++ [d]))) else .stuck
      | _ => .stuck)
    | _ => .stuck)
  | _ => .stuck) := rfl
end Mm
namespace Mm
open PySem L2
section
variable {X : Cx} {Y : Gam} {W : WX} {o e : Expr} {to te : TE} {mo me : ME} {pos : Pos}
def sAppE (mo me : ME) : MS := fun env S => (mo env S).out env fun d0 S0 => (match d0 with
  | .ref n => (match S0[n]? with
    | some (.lst _) => (me env S0).out env fun d S1 => (match S1[n]? with
      | some (.lst ds) => if szB (ds.length + 1) then .nx env (S1.set n (.lst (ds ++ [d]))) else .stuck
      | _ => .stuck)
    | _ => .stuck)
  | _ => .stuck)
theorem t_appE {apos cpos : Pos} (ho : SE X Y W o to mo) (he : SE X Y W e te me) (hK : X.K = Y.K := by rfl)
    (hbase : attributeBase o "append" X.env (eval o X.env) = eval o X.env := by rfl)
    (hfew : ((backTo cpos (starEach [e] X.env)).all (fun x => !x.1) && (backToKw cpos (keywordEach [] X.env)).all (fun x => x.1.isSome)
      && decide ([e].length + ([] : List Keyword).length + (if ([] : List Keyword).isEmpty then 0 else 1) < 30)) = true := by rfl)
    (hline : (apos.endLine == cpos.line) = true := by rfl) (hs : starEach [e] X.env = (false, eval e X.env) :: starEach [] X.env := by rfl) (hplain : (backTo cpos (starEach [] X.env)).any (·.1) = false := by rfl)
    (hsw : swapsWith (.Call (.Attribute o "append" apos) [e] [] cpos) none pos.line X.env = pure false := by rfl) :
    SS X Y W (.Expr (.Call (.Attribute o "append" apos) [e] [] cpos) pos) (tDrop (tBM Y.K "list" rAppend to (tCons te tNil))) (sAppE mo me) :=
  ⟨hK ▸ ps_expr (pe_bm PySem.F.plainAttrs_list PySem.F.slot_list_append PySem.F.type_list_append mt_append ho.pe (pa_cons he.pe pa_nil hs) hbase hfew hline hs hplain) hsw, fun w0 H0 w H σ env S O Dn st p => by
    unfold sAppE at p
    refine ho.sim w0 H0 w H σ env S O _ st ((PostS.out p).imp fun d0 S0 w1 H1 st1 l1 p1 v0 r0 => ?_)
    split at p1
    · rename_i n
      split at p1
      · rename_i ds0 hS0
        obtain ⟨a0, us0, y1, y2, y3, y4⟩ := cell_lst st1.ok r0 hS0
        refine ⟨by rw [y1]; exact tyV_lst y3, ?_⟩
        refine he.sim w0 H0 w1 H1 σ env S0 O _ st1 ((PostS.out p1).imp fun d S1 w2 H2 st2 l2 p2 v r => ?_)
        split at p2
        · rename_i ds hS
          split at p2
          · rename_i hz
            obtain ⟨a, us, x1, x2, x3, x4⟩ := cell_lst st2.ok (r0.mono l2) hS
            have hz2 : us.length < sizeLine := Nat.lt_of_lt_of_le (by rw [← x4.len]; exact Nat.lt_succ_self _) (szB_le hz)
            refine ⟨a, us, v, x1, rfl, x3, hz2, ?_⟩
            obtain ⟨k3, f3⟩ := ok_cell (c' := .lst (ds ++ [d])) st2.ok x2 hS (o := .lst (us ++ [v])) ⟨_, upd_same, x4.append_ (RepL.cons_ r RepL.nil_)⟩ nt_lst
            exact p2 w2 _ σ O (st2.after f3 k3) (.refl w2)
          · exact False.elim p2
        · exact False.elim p2
      · exact p1.elim
    · exact p1.elim⟩
end
end Mm
namespace Mm
open PySem L2
@[simp] theorem sAppE_eq (mo me : ME) (env : Envr) (S : Sto) : sAppE mo me env S = (mo env S).out env fun d0 S0 => (match d0 with
  | .ref n => (match S0[n]? with
    | some (.lst _) => (me env S0).out env fun d S1 => (match S1[n]? with
      | some (.lst ds) => if szB (ds.length + 1) then .nx env (S1.set n (.lst (ds ++ [d]))) else .stuck
      | _ => .stuck)
    | _ => .stuck)
  | _ => .stuck) := rfl
end Mm
namespace Mm
open PySem PySem.Spec PyProof.Rows L2
section
variable {X : Cx} {Y : Gam} {W : WX} {cs : List Str} {k j : Nat} {x : Str} {p : LSp} {Ls : List LSp} {ta tb te : TE} {ma mb me : ME} {tt : TT} {mt : MT} {t1 t2 : TS} {m1 m2 : MS}
def AllK (X : Cx) (w0 : Wd) (H0 : Hp) (w : Wd) : List LSp → List Addr → Prop
  | [], [] => True
  | p :: ls, f :: fs => (∃ c', w.G f = some (FnO X p.params p.body p.scope f c') ∧ KC w0 H0 w c' (X.env.qual ++ "<lambda>")) ∧ AllK X w0 H0 w ls fs
  | _, _ => False
end
end Mm
namespace Mm
open PySem PySem.Spec PyProof.Rows L2
def KL (X : Cx) (Y : Gam) (j : Nat) (ls : List LSp) (w0 : Wd) (H0 : Hp) (w : Wd) (H : Hp) (σ : L2.St) (env : Envr) (S : Sto) (O : List (Option Addr)) : Prop :=
  ∃ fs la, StR Y w0 H0 w H σ (env.set j (.o (.lst (fs.map D.adr)))) S (O.set j (some la)) ∧ AllK X w0 H0 w ls fs ∧ j < env.length
end Mm
namespace Mm
open PySem L2
def forLive (g : MG) (b : MS) (n : Nat) : Nat → Nat → MS
  | 0, _, _, _ => .stuck
  | m + 1, i, env, S => match S[n]? with
    | some (.lst ds) => (match ds[i]? with
      | none => .nx env S
      | some d => (match g d env with
        | none => .stuck
        | some e1 => (match b e1 S with
          | .nx e S1 => forLive g b n m (i + 1) e S1
          | .ct e S1 => forLive g b n m (i + 1) e S1
          | .bk e S1 => .nx e S1
          | o => o)))
    | _ => .stuck
def sForA (me : ME) (g : MG) (b : MS) : MS := fun env S => (me env S).out env fun d S1 => match d with
  | .lst ds => forL g b ds env S1
  | .tup ds => forL g b ds env S1
  | .ref n => forLive g b n 100001 0 env S1
  | _ => .stuck
section
variable {X : Cx} {Y : Gam} {W : WX} {te : TE} {me : ME} {t1 : TS} {m1 : MS} {is : List Nat} {tg : TG} {mg : MG} {iter tgE : Expr} {body : List Stmt} {pos : Pos}
theorem for_in {g : Gam} (hg : SimG g is tg mg) (hb : SimS g W t1 m1) {w0 w1 : Wd} {H0 H1 : Hp} {σ : L2.St} {env : Envr} {S1 : Sto} {O : List (Option Addr)} {Dn : Ends} {J : It} {ds : List D} (hJ : ItR g w1 J ds) (st1 : StR g w0 H0 w1 H1 σ env S1 O) (p1 : PostS g W w0 H0 w1 Dn (forL mg m1 ds env S1)) :
    ∃ Wm : Nat → Nat → L2.St → Hp → Prop, (∃ m, Wm 0 m σ H1) ∧ ∀ i m σ H, Wm i m σ H → (J.stop i H ∧ Dn.nx σ H) ∨ (J.go i H ∧ ∃ N : L2.St → Hp → Prop, (∀ σ' H', N σ' H' → ∃ m', m' < m ∧ Wm (i + 1) m' σ' H') ∧ ∀ x H', J.yld i H x H' → tg x σ H' fun σ2 H2 => t1 { Dn with nx := N, ct := N, bk := Dn.nx } σ2 H2) := by
  refine ⟨fun i m σ H => m + i = ds.length ∧ ∃ w env S O, StR g w0 H0 w H σ env S O ∧ w1.le w ∧ PostS g W w0 H0 w Dn (forL mg m1 (ds.drop i) env S), ⟨ds.length, by omega, w1, env, S1, O, st1, .refl w1, p1⟩, ?_⟩
  rintro i k σ2 H2 ⟨hk, w2, env2, S2, O2, st2, l2, p2⟩
  obtain ⟨hgo, hstop⟩ := hJ w2 H2 l2 st2.ok.ex
  by_cases hlt : i < ds.length
  · have ed : ds.drop i = ds[i] :: ds.drop (i + 1) := List.drop_eq_getElem_cons hlt
    obtain ⟨go, yld⟩ := hgo i ds[i] (List.getElem?_eq_getElem hlt)
    refine .inr ⟨go, fun σ' H' => ∃ w env S O, StR g w0 H0 w H' σ' env S O ∧ w1.le w ∧ PostS g W w0 H0 w Dn (forL mg m1 (ds.drop (i + 1)) env S), fun σ' H' h' => ⟨k - 1, by omega, by omega, h'⟩, fun x H' hy => ?_⟩
    obtain ⟨w3, gr, rx⟩ := yld x H' hy
    have st3 := st2.grow gr
    have l3 := gr.le st2.ok
    rw [ed] at p2
    unfold forL at p2
    cases z : mg ds[i] env2 with
    | none => rw [z] at p2; exact False.elim p2
    | some e1 =>
      rw [z] at p2
      refine hg w0 H0 w3 H' σ2 env2 S2 O2 ds[i] x _ e1 st3 rx z fun σ4 O4 st4 _ => ?_
      refine hb w0 H0 w3 H' σ4 e1 S2 O4 _ st4 ?_
      have p2 : PostS g W w0 H0 w2 Dn (match m1 e1 S2 with
        | .nx e S1 => forL mg m1 (ds.drop (i + 1)) e S1
        | .ct e S1 => forL mg m1 (ds.drop (i + 1)) e S1
        | .bk e S1 => .nx e S1
        | o => o) := p2
      cases y : m1 e1 S2 with
      | stuck => rw [y] at p2; exact p2
      | nx e S5 => rw [y] at p2; exact fun w' H' σ' O' st' l' => ⟨w', e, S5, O', st', (l2.trans l3).trans l', p2.mono (l3.trans l')⟩
      | ct e S5 => rw [y] at p2; exact fun w' H' σ' O' st' l' => ⟨w', e, S5, O', st', (l2.trans l3).trans l', p2.mono (l3.trans l')⟩
      | bk e S5 => rw [y] at p2; exact fun w' H' σ' O' st' l' => p2 w' H' σ' O' st' (l3.trans l')
      | rt r S5 => rw [y] at p2; exact p2
      | exc c q e S5 => rw [y] at p2; exact fun w' H' σ' O' cls dd st' l' x => p2 w' H' σ' O' cls dd st' (l3.trans l') x
  · have ei : i = ds.length := by omega
    refine .inl ⟨by rw [ei]; exact hstop, ?_⟩
    have ed : ds.drop i = [] := by rw [ei]; exact List.drop_length
    rw [ed] at p2
    exact p2 w2 H2 σ2 O2 st2 (.refl w2)
theorem for_live {g : Gam} (hg : SimG g is tg mg) (hb : SimS g W t1 m1) {w0 w1 : Wd} {H0 H1 : Hp} {σ : L2.St} {env : Envr} {S1 : Sto} {O : List (Option Addr)} {Dn : Ends} {n : Nat} {a : Addr} (ha : w1.rho[n]? = some a) (st1 : StR g w0 H0 w1 H1 σ env S1 O) (p1 : PostS g W w0 H0 w1 Dn (forLive mg m1 n 100001 0 env S1)) :
    ∃ Wm : Nat → Nat → L2.St → Hp → Prop, (∃ m, Wm 0 m σ H1) ∧ ∀ i m σ H, Wm i m σ H → ((Itl g.K a).stop i H ∧ Dn.nx σ H) ∨ ((Itl g.K a).go i H ∧ ∃ N : L2.St → Hp → Prop, (∀ σ' H', N σ' H' → ∃ m', m' < m ∧ Wm (i + 1) m' σ' H') ∧ ∀ x H', (Itl g.K a).yld i H x H' → tg x σ H' fun σ2 H2 => t1 { Dn with nx := N, ct := N, bk := Dn.nx } σ2 H2) := by
  refine ⟨fun i m σ H => ∃ w env S O, StR g w0 H0 w H σ env S O ∧ w1.le w ∧ PostS g W w0 H0 w Dn (forLive mg m1 n m i env S), ⟨100001, w1, env, S1, O, st1, .refl w1, p1⟩, ?_⟩
  rintro i k σ2 H2 ⟨w2, env2, S2, O2, st2, l2, p2⟩
  cases k with
  | zero => exact False.elim p2
  | succ k =>
    unfold forLive at p2
    split at p2
    · rename_i ds hS
      obtain ⟨ww, vs, e4, e4'⟩ := st2.ok.cells.at_ n a _ (l2.get ha) hS
      have sq : SqL g.K H2 a vs := .inl (.inl e4)
      split at p2
      · rename_i hn
        have hlen : ds.length ≤ i := List.getElem?_eq_none_iff.mp hn
        exact .inl ⟨⟨vs, sq, by rw [← e4'.len]; exact hlen⟩, p2 w2 H2 σ2 O2 st2 (.refl w2)⟩
      · rename_i d hd
        obtain ⟨v, hv, rv⟩ := e4'.at_ hd
        refine .inr ⟨⟨vs, v, sq, hv⟩, fun σ' H' => ∃ w env S O, StR g w0 H0 w H' σ' env S O ∧ w1.le w ∧ PostS g W w0 H0 w Dn (forLive mg m1 n k (i + 1) env S), fun σ' H' h' => ⟨k, by omega, h'⟩, fun x H' hy => ?_⟩
        obtain ⟨eH, ex⟩ := hy
        have ex := ex vs sq
        rw [hv] at ex
        cases ex
        rw [eH]
        cases z : mg d env2 with
        | none => rw [z] at p2; exact False.elim p2
        | some e1 =>
          rw [z] at p2
          refine hg w0 H0 w2 H2 σ2 env2 S2 O2 d v _ e1 st2 rv z fun σ4 O4 st4 _ => ?_
          refine hb w0 H0 w2 H2 σ4 e1 S2 O4 _ st4 ?_
          have p2 : PostS g W w0 H0 w2 Dn (match m1 e1 S2 with
            | .nx e S1 => forLive mg m1 n k (i + 1) e S1
            | .ct e S1 => forLive mg m1 n k (i + 1) e S1
            | .bk e S1 => .nx e S1
            | o => o) := p2
          cases y : m1 e1 S2 with
          | stuck => rw [y] at p2; exact p2
          | nx e S5 => rw [y] at p2; exact fun w' H' σ' O' st' l' => ⟨w', e, S5, O', st', l2.trans l', p2.mono l'⟩
          | ct e S5 => rw [y] at p2; exact fun w' H' σ' O' st' l' => ⟨w', e, S5, O', st', l2.trans l', p2.mono l'⟩
          | bk e S5 => rw [y] at p2; exact fun w' H' σ' O' st' l' => p2 w' H' σ' O' st' l'
          | rt r S5 => rw [y] at p2; exact p2
          | exc c q e S5 => rw [y] at p2; exact p2
    · exact False.elim p2
theorem sim_forA (he : SimE Y W te me) (hg : SimG Y is tg mg) (hb : SimS Y W t1 m1) : SimS Y W (tFor (iSeq Y.K te) tg t1) (sForA me mg m1) := fun w0 H0 w H σ env S O Dn st p =>
  he w0 H0 w H σ env S O _ st ((PostS.out p).imp fun d S1 w1 H1 st1 l1 p1 v r => by
    cases d with
    | lst ds =>
      obtain ⟨a, vs, e1, e2, e3⟩ := rep_lst r
      exact ⟨a, e1, .inl ⟨⟨vs, .inl (.inl (st1.ok.ex _ _ e2))⟩, for_in hg hb (itR_list (g := Y) e2 e3) st1 p1⟩⟩
    | tup ds =>
      obtain ⟨a, vs, e1, e2, e3⟩ := rep_tup r
      exact ⟨a, e1, .inr ⟨⟨vs, same_sqT st1.ok.ex e2⟩, for_in hg hb (itR_tup (g := Y) e2 e3) st1 p1⟩⟩
    | ref n =>
      cases z : S1[n]? with
      | none =>
        have p1 : PostS Y W w0 H0 w1 Dn (forLive mg m1 n 100001 0 env S1) := p1
        unfold forLive at p1
        rw [z] at p1
        exact False.elim p1
      | some c =>
        have p1 : PostS Y W w0 H0 w1 Dn (forLive mg m1 n 100001 0 env S1) := p1
        cases c with
        | lst ds =>
          obtain ⟨a, vs, e1, e2, e3, e4⟩ := cell_lst st1.ok r z
          exact ⟨a, e1, .inl ⟨⟨vs, .inl (.inl e3)⟩, for_live hg hb e2 st1 p1⟩⟩
        | _ =>
          unfold forLive at p1
          rw [z] at p1
          exact False.elim p1
    | _ => exact False.elim p1)
theorem t_forA (hp : PassesOwn (model X.prog X.w) X.A X.env X.xe) (he : SE X Y W iter te me) (hg : SG X Y is tgE tg mg) (hb : SB X Y W body t1 m1) (hK : X.K = Y.K := by rfl) (hc : X.calm = true := by rfl)
    (hs : ∀ x, foldedSetIterable iter X.env x = pure x := by intro _; rfl) : SS X Y W (.For tgE iter body [] pos) (tFor (iSeq Y.K te) tg t1) (sForA me mg m1) := ⟨ps_for hp hc (hK ▸ pi_seq he.pe) hg.pg hb.pss hs, sim_forA he.sim hg.sim hb.sim⟩
@[simp] theorem sForA_eq (me : ME) (g : MG) (b : MS) (env : Envr) (S : Sto) : sForA me g b env S = (me env S).out env fun d S1 => match d with
  | .lst ds => forL g b ds env S1
  | .tup ds => forL g b ds env S1
  | .ref n => forLive g b n 100001 0 env S1
  | _ => .stuck := rfl
end
end Mm
namespace Mm
open PySem PySem.Spec PyProof.Rows
def addT (l : List Str) (x : Str) : List Str := if l.any (· == x) then l else l ++ [x]
def dT (xs : List Str) : List Str := xs.foldl addT []
theorem dT_snoc (xs : List Str) (x : Str) : dT (xs ++ [x]) = addT (dT xs) x := by simp [dT, List.foldl_append]
theorem addT_len (l : List Str) (x : Str) : (addT l x).length = if l.any (· == x) then l.length else l.length + 1 := by
  unfold addT
  split <;> simp
theorem dT_go_len : ∀ (xs l : List Str), (xs.foldl addT l).length ≤ l.length + xs.length
  | [], l => by simp
  | x :: xs, l => by
    have := dT_go_len xs (addT l x)
    have e := addT_len l x
    rw [List.foldl_cons, List.length_cons]
    split at e <;> omega
theorem dT_len (xs : List Str) : (dT xs).length ≤ xs.length := by
  have := dT_go_len xs []
  simpa [dT] using this
theorem addT_any (l : List Str) (x y : Str) : (l.any (· == y) || decide (y = x)) = (addT l x).any (· == y) := by
  unfold addT
  by_cases h : l.any (· == x) = true
  · rw [if_pos h]
    by_cases e : y = x
    · subst e
      simp [h]
    · simp [e]
  · rw [if_neg h, List.any_append]
    by_cases e : y = x
    · subst e
      simp
    · have : (x == y) = false := by simpa using fun z : x = y => e z.symm
      simp [e, this]
theorem take_snoc (xs : List Str) {i : Nat} (h : i < xs.length) : xs.take (i + 1) = xs.take i ++ [xs.getD i Str.empty] := by
  rw [List.take_succ_eq_append_getElem h, List.getD_eq_getElem?_getD, List.getElem?_eq_getElem h]
  rfl
abbrev SetTx (P : Program) (w : World) (h : Heap) (a : Addr) (l : List Str) : Prop := h.SetOf (PySem.strKind P w) a (fun y => l.any (· == y)) l.length
theorem SetTx.at {P : Program} {w : World} {h h' : Heap} {a : Addr} {l : List Str} (x : SetTx P w h a l) (k : ∀ o, h.get? a = some o → h'.get? a = some o) : SetTx P w h' a l := by
  obtain ⟨o, es, ep, tb, ho, r⟩ := x
  exact ⟨o, es, ep, tb, k o ho, r⟩
section
variable {P : Program} {w : World} {A : Around} {R : Result → Shared → Prop} {I : Addr} {fp wr : List Addr} {G : Array GenState → Array GenState → Prop} {n : Nat} {Pv : Nat → Value → Prop} {St : Nat → Shared → Prop}
theorem txt_loop (W : WalksS P w A.in1 I fp wr G n Pv St) (a : Addr) (ha : a ∉ fp) (xs : List Str) (hn : xs.length = n) (hb : n + 1 < scanBound) (hv : ∀ i v, Pv i v → ∃ t, v = .str (xs.getD i Str.empty) t) :
    ∀ (k i : Nat) (s : Shared), n - i = k → i ≤ n → St i s → SetTx P w s.heap a (dT (xs.take i)) →
      (∀ s', Moved (a :: wr) G s s' → SetTx P w s'.heap a (dT xs) → R (.ok (.ret .none)) s') →
      codeAny (model P w) A (.builtin "set.update.loop" ⟨[.ref a, .ref I], []⟩) R s := by
  have hw : a ∉ wr := fun h => ha (W.sub _ h)
  have up : ∀ b ∈ wr, b ∈ a :: wr := fun b hb => List.mem_cons_of_mem _ hb
  intro k
  induction k with
  | zero =>
    intro i s hk hi st x fin
    have e : xs.take i = xs := List.take_of_length_le (by omega)
    rw [e] at x
    have ei : i = n := by omega
    subst ei
    refine codeAny_builtin PyProof.Rows.F.entry_set_update_loop ?_
    rw [Around.under_plainId PyProof.Rows.F.plain_set_update_loop _]
    show wpAny _ A.in1 (pyNext (.ref I) >>= _) _ _ s
    exact wpAny_bind (W.done s _ _ st fun s' m => wpAny_pure (fin s' (m.mono up) (x.at fun o ho => m.heap a _ hw ho)))
  | succ k ih =>
    intro i s hk hi st x fin
    have lt : i < n := by omega
    refine codeAny_builtin PyProof.Rows.F.entry_set_update_loop ?_
    rw [Around.under_plainId PyProof.Rows.F.plain_set_update_loop _]
    show wpAny _ A.in1 (pyNext (.ref I) >>= _) _ _ s
    refine wpAny_bind (W.item i s _ _ lt st fun v s1 pv st1 m => ?_)
    obtain ⟨t, rfl⟩ := hv i v pv
    have x1 := x.at (h' := s1.heap) fun o ho => m.heap a _ hw ho
    show wpAny _ A.in1 (holding [Value.str (xs.getD i Str.empty) t] (setAdd a (.str (xs.getD i Str.empty) t)) >>= _) _ _ s1
    refine wpAny_bind (wpAny_holding ?_)
    unfold setAdd
    refine wpAny_holding (wpAny_bind ((PySem.strKind P w).pyHash (k := xs.getD i Str.empty) (strKind_is _ _ _ _) ?_))
    have room : (dT (xs.take i)).length + 1 < scanBound := by
      have := dT_len (xs.take i)
      have : (xs.take i).length ≤ i := by
        rw [List.length_take]
        exact Nat.min_le_left _ _
      omega
    refine wpAny_setAddHashed_of (knd := PySem.strKind P w) (s := { s1 with toks := s1.toks + 1 }) (strKind_is _ _ _ _) rfl x1 room fun h' sb x2 => ?_
    have x3 : SetTx P w h' a (dT (xs.take (i + 1))) := by
      rw [take_snoc xs (by omega), dT_snoc]
      exact SetOf_congr x2 (fun y => addT_any _ _ y) (addT_len _ _).symm
    have st2 := W.frame (i + 1) s1 h' (s1.toks + 1) st1 (Nat.le_succ _) fun b hb o e => by
      rw [sb.2 b fun z => ha (z ▸ hb)]
      exact e
    refine wpAny_pure ⟨plainId_quiet PyProof.Rows.F.plain_set_update_loop _, ih (i + 1) _ (by omega) lt st2 x3 fun s2 m2 y => ?_⟩
    refine fin s2 (Moved.trans W.gtrans ((m.mono up).then_heap (Nat.le_succ _) fun b o hb e => ?_) m2) y
    rw [sb.2 b fun z => hb (z ▸ List.mem_cons_self)]
    exact e
end
section
variable {P : Program} {w : World} {A : Around} {E : Value → Shared → Prop} {s : Shared}
abbrev newSet (led : Bool) : Obj := { cls := .type "set", dict := none, data := .set #[] 0 (.fresh 0 0 led) }
abbrev SetMade (P : Program) (w : World) (s : Shared) (xs : List Str) (h' : Heap) : Prop := SetTx P w h' s.heap.objs.size (dT xs) ∧ ∀ b o, b < s.heap.objs.size → s.heap.get? b = some o → h'.get? b = some o
theorem init_fin {it : Obj} {led : Bool} {l : Addr} {items : Array Value} {xs : List Str} {St : Nat → Heap → Prop} {A' : Around} {fp : List Addr}
    (W : Walks P w A'.in1 (s.heap.push (newSet led)).objs.size fp [(s.heap.push (newSet led)).objs.size] items.size (fun i v => items[i]? = some v) St) (hf : fp = [(s.heap.push (newSet led)).objs.size, l]) (hl : l < s.heap.objs.size) (hi : StrsAre items.toList xs) (hb : xs.length + 1 < scanBound)
    (s0 : Shared) (es : s0 = { s with heap := (s.heap.push (newSet led)).push it }) (st : St 0 s0.heap) {Q : Result → Shared → Prop}
    (fin : ∀ h' tk, SetMade P w s xs h' → Q (.ok (.ret .none)) { s with heap := h', toks := tk }) :
    codeAny (model P w) A' (.builtin "set.update.loop" ⟨[.ref s.heap.objs.size, .ref (s.heap.push (newSet led)).objs.size], []⟩) Q s0 := by
  have len : xs.length = items.size := by rw [← StrsAre.len_eq hi, Array.length_toList]
  have nf : s.heap.objs.size ∉ fp := by
    rw [hf, Heap.size_push]
    simp only [List.mem_cons, List.mem_singleton, List.not_mem_nil, or_false, not_or]
    exact ⟨Nat.ne_of_lt (Nat.lt_succ_self _), Nat.ne_of_gt hl⟩
  have at0 : s0.heap.get? s.heap.objs.size = some (newSet led) := by
    rw [es]
    exact Heap.get?_push_of_some _ (Heap.get?_push_size _ rfl)
  refine txt_loop W.toS s.heap.objs.size nf xs len (by omega) (fun i v hv => SS.strs_at hi i v (by rw [Array.getElem?_toList]; exact hv)) (items.size - 0) 0 s0 (by omega) (Nat.zero_le _) st ?_ fun s' m x => ?_
  · exact SetOf_congr ((setObjOf_fresh (knd := PySem.strKind P w) led).setOf at0 (by unfold scanBound; omega)) (fun _ => rfl) rfl
  · obtain ⟨h', g', d', tk', os'⟩ := s'
    have eg : g' = s0.gens := m.gens
    have ed : d' = s0.drawn := m.drawn
    have eo : os' = s0.os := m.os
    subst es
    subst eg ed eo
    refine fin h' tk' ⟨x, fun b o hb e => m.heap b o ?_ (Heap.get?_push_of_some _ (Heap.get?_push_of_some _ e))⟩
    rw [Heap.size_push]
    simp only [List.mem_cons, List.mem_singleton, List.not_mem_nil, or_false, not_or]
    exact ⟨Nat.ne_of_lt hb, Nat.ne_of_lt (Nat.lt_succ_of_lt hb)⟩
theorem call_setT_list {l : Addr} {items : Array Value} {xs : List Str} {Q : Value → Shared → Prop} (hh : A.handled = none) (hl : s.heap.IsList l items) (hi : StrsAre items.toList xs) (hb : xs.length + 1 < scanBound)
    (fin : ∀ h' tk, SetMade P w s xs h' → Q (.ref s.heap.objs.size) { s with heap := h', toks := tk }) : wpAny (model P w) A (call (.type "set") [.ref l]) Q E s := by
  obtain ⟨c, tl, hmro⟩ := PySem.F.called_set.mro
  have f1 := PySem.F.called_set.made
  have f2 := PySem.F.called_set.sub
  have f3 := PySem.F.called_set.notType
  have f4 := PySem.F.called_set.canCreate
  have f5 := PySem.F.typeCall_set_1 (.ref l)
  refine wpAny_call (codeAny_of_tree ?_)
  show wpAny _ _ (callAny (.type "set") _) _ _ _
  refine wpAny_pure ⟨Code.quiet_builtin _ (by decide +kernel), codeAny_builtin PySem.F.entry_type_call ?_⟩
  rw [Around.under_plain (weight_type_call_type "set" [.ref l] []) rfl]
  repeat (any_goals (first | assumption | wp_step))
  refine codeAny_mono (code_set_new_1 (.ref l) (E := E) (Q₁ := fun obj s₁ => ∃ led : Bool, obj = .ref s.heap.objs.size ∧ s₁ = { s with heap := s.heap.push (newSet led) }) fun led => ⟨led, rfl, rfl⟩) fun r s₁ hr => ?_
  cases r with
  | error e => exact hr
  | ok fl =>
    cases fl with
    | ret obj =>
      obtain ⟨led, rfl, rfl⟩ := hr
      have at0 : (s.heap.push (newSet led)).get? s.heap.objs.size = some (newSet led) := Heap.get?_push_size _ rfl
      have ty : Shared.TypeIs { s with heap := s.heap.push (newSet led) } (.ref s.heap.objs.size) "set" := ⟨_, at0, rfl⟩
      have g1 := PySem.F.called_set.init.lookup
      have g2 := PySem.F.called_set.init.bind (.ref s.heap.objs.size)
      repeat (any_goals (first | assumption | wp_step))
      refine codeAny_mono (codeAny_call_builtin (R := wants (fun r s₂ => r = .none ∧ ∃ h' tk, s₂ = { s with heap := h', toks := tk } ∧ SetMade P w s xs h') E) PySem.F.called_set.init.plain PySem.F.entry_set_init (check_set_init_1 ty ?_)) fun r₂ s₂ hr₂ => ?_
      · have ll : l < s.heap.objs.size := by
          obtain ⟨o, ho, _⟩ := hl
          exact Heap.lt_size ho
        obtain ⟨ol, hol, hcl, nl, hdl⟩ := hl
        obtain ⟨ocls, odict, odata, oslots⟩ := ol
        simp only at hcl hdl
        subst hcl hdl
        have al : (s.heap.push (newSet led)).get? l = some { cls := .type "list", dict := odict, data := .seq items nl, slots := oslots } := Heap.get?_push_of_some _ hol
        have k1 := PySem.F.sub_list_set
        have k2 := PySem.F.sub_list_frozenset
        have k3 : (Value.type "list" == Value.type "dict") = false := by decide
        have il : (s.heap.push (newSet led)).IsList l items := ⟨_, al, rfl, nl, rfl⟩
        unfold Builtin.«set.__init__» noKeywords Builtin.Frozenset.updateFrom
        generalize hPI : pyIter = PI
        wp_walk
        subst hPI
        refine wpAny_pyIter_list il (wpAny_bind (wpAny_runValue ?_))
        have ne : l ≠ (s.heap.push (newSet led)).objs.size := by
          rw [Heap.size_push]
          exact Nat.ne_of_lt (Nat.lt_succ_of_lt ll)
        refine init_fin (l := l) (items := items) (xs := xs) (Walks.list (by simp [hh]) _ l ne items) rfl ll hi hb _ rfl ⟨⟨_, Heap.get?_push_size _ rfl, rfl, rfl⟩, il.push _⟩ fun h' tk m => ?_
        refine wpAny_pure ?_
        show wpAny _ _ (ret Value.none) _ _ _
        exact wpAny_pure ⟨rfl, h', tk, rfl, m⟩
      · cases r₂ with
        | error e => exact hr₂
        | ok fl₂ =>
          cases fl₂ with
          | ret r =>
            obtain ⟨rfl, h', tk, rfl, m⟩ := hr₂
            repeat (any_goals (first | assumption | wp_step))
            exact fin _ _ m
          | _ => exact hr₂.elim
    | _ => exact hr.elim
end
end Mm
namespace Mm
open PySem PySem.Spec PyProof.Rows
section
variable {P : Program} {w : World} {A : Around} {E : Value → Shared → Prop} {s : Shared}
theorem call_setT_tuple {l : Addr} {items : Array Value} {xs : List Str} {Q : Value → Shared → Prop} (hh : A.handled = none) (hl : s.heap.IsTuple l items) (hi : StrsAre items.toList xs) (hb : xs.length + 1 < scanBound)
    (fin : ∀ h' tk, SetMade P w s xs h' → Q (.ref s.heap.objs.size) { s with heap := h', toks := tk }) : wpAny (model P w) A (call (.type "set") [.ref l]) Q E s := by
  obtain ⟨c, tl, hmro⟩ := PySem.F.called_set.mro
  have f1 := PySem.F.called_set.made
  have f2 := PySem.F.called_set.sub
  have f3 := PySem.F.called_set.notType
  have f4 := PySem.F.called_set.canCreate
  have f5 := PySem.F.typeCall_set_1 (.ref l)
  refine wpAny_call (codeAny_of_tree ?_)
  show wpAny _ _ (callAny (.type "set") _) _ _ _
  refine wpAny_pure ⟨Code.quiet_builtin _ (by decide +kernel), codeAny_builtin PySem.F.entry_type_call ?_⟩
  rw [Around.under_plain (weight_type_call_type "set" [.ref l] []) rfl]
  repeat (any_goals (first | assumption | wp_step))
  refine codeAny_mono (code_set_new_1 (.ref l) (E := E) (Q₁ := fun obj s₁ => ∃ led : Bool, obj = .ref s.heap.objs.size ∧ s₁ = { s with heap := s.heap.push (newSet led) }) fun led => ⟨led, rfl, rfl⟩) fun r s₁ hr => ?_
  cases r with
  | error e => exact hr
  | ok fl =>
    cases fl with
    | ret obj =>
      obtain ⟨led, rfl, rfl⟩ := hr
      have at0 : (s.heap.push (newSet led)).get? s.heap.objs.size = some (newSet led) := Heap.get?_push_size _ rfl
      have ty : Shared.TypeIs { s with heap := s.heap.push (newSet led) } (.ref s.heap.objs.size) "set" := ⟨_, at0, rfl⟩
      have g1 := PySem.F.called_set.init.lookup
      have g2 := PySem.F.called_set.init.bind (.ref s.heap.objs.size)
      repeat (any_goals (first | assumption | wp_step))
      refine codeAny_mono (codeAny_call_builtin (R := wants (fun r s₂ => r = .none ∧ ∃ h' tk, s₂ = { s with heap := h', toks := tk } ∧ SetMade P w s xs h') E) PySem.F.called_set.init.plain PySem.F.entry_set_init (check_set_init_1 ty ?_)) fun r₂ s₂ hr₂ => ?_
      · have ll : l < s.heap.objs.size := by
          obtain ⟨o, ho, _⟩ := hl
          exact Heap.lt_size ho
        obtain ⟨ol, hol, hcl, nl, hdl⟩ := hl
        obtain ⟨ocls, odict, odata, oslots⟩ := ol
        simp only at hcl hdl
        subst hcl hdl
        have al : (s.heap.push (newSet led)).get? l = some { cls := .type "tuple", dict := odict, data := .seq items nl, slots := oslots } := Heap.get?_push_of_some _ hol
        have k1 := PySem.F.sub_tuple_set
        have k2 := PySem.F.sub_tuple_frozenset
        have k3 : (Value.type "tuple" == Value.type "dict") = false := by decide
        have il : (s.heap.push (newSet led)).IsTuple l items := ⟨_, al, rfl, nl, rfl⟩
        unfold Builtin.«set.__init__» noKeywords Builtin.Frozenset.updateFrom
        generalize hPI : pyIter = PI
        wp_walk
        subst hPI
        refine wpAny_pyIter_tuple il (wpAny_bind (wpAny_runValue ?_))
        have ne : l ≠ (s.heap.push (newSet led)).objs.size := by
          rw [Heap.size_push]
          exact Nat.ne_of_lt (Nat.lt_succ_of_lt ll)
        refine init_fin (l := l) (items := items) (xs := xs) (Walks.tuple (by simp [hh]) _ l ne items) rfl ll hi hb _ rfl ⟨⟨_, Heap.get?_push_size _ rfl, rfl, rfl⟩, il.push _⟩ fun h' tk m => ?_
        refine wpAny_pure ?_
        show wpAny _ _ (ret Value.none) _ _ _
        exact wpAny_pure ⟨rfl, h', tk, rfl, m⟩
      · cases r₂ with
        | error e => exact hr₂
        | ok fl₂ =>
          cases fl₂ with
          | ret r =>
            obtain ⟨rfl, h', tk, rfl, m⟩ := hr₂
            repeat (any_goals (first | assumption | wp_step))
            exact fin _ _ m
          | _ => exact hr₂.elim
    | _ => exact hr.elim
end
end Mm
namespace Mm
open PySem L2
def strsD : List D → Option (List Str)
  | [] => some []
  | .str x :: ds => (strsD ds).map (x :: ·)
  | _ => none
theorem strsD_rep {g : Gam} {w : Wd} : ∀ {ds : List D} {xs : List Str} {vs : List V}, strsD ds = some xs → RepL g w ds vs → vs = xs.map V.str
  | [], xs, vs, h, r => by
    cases h
    unfold RepL at r
    subst r
    rfl
  | .str x :: ds, xs, vs, h, r => by
    unfold strsD at h
    cases z : strsD ds with
    | none => rw [z] at h; cases h
    | some ys =>
      rw [z] at h
      cases h
      unfold RepL at r
      obtain ⟨v, vs', rfl, q, r⟩ := r
      rw [strsD_rep z r, rep_str q]
      rfl
  | .int _ :: _, _, _, h, _ => by cases h
  | .bl _ :: _, _, _, h, _ => by cases h
  | .non :: _, _, _, h, _ => by cases h
  | .lst _ :: _, _, _, h, _ => by cases h
  | .tup _ :: _, _, _, h, _ => by cases h
  | .ref _ :: _, _, _, h, _ => by cases h
  | .ins _ _ :: _, _, _, h, _ => by cases h
  | .scr _ :: _, _, _, h, _ => by cases h
  | .ty _ :: _, _, _, h, _ => by cases h
  | .cls _ :: _, _, _, h, _ => by cases h
  | .adr _ :: _, _, _, h, _ => by cases h
section
variable {X : Cx} {Y : Gam} {W : WX} {a : Expr} {ta : TE} {ma : ME} {p p2 q pos : Pos}
def tLenTx (K : PySem.W.Frag) (ta : TE) : TE := fun σ H Q => ta σ H fun x H1 => ∃ l, ∃ xs : List Str, x = .ref l ∧ (SqL K H1 l (xs.map V.str) ∨ SqT K H1 l (xs.map V.str)) ∧ xs.length ≤ 1000 ∧ Q (.int (dT xs).length) H1
theorem pe_lenTx (hc : X.calm = true) (hg : Gl X "len") (hm : X.mg "len" = none) (hg2 : Gl X "set") (hm2 : X.mg "set" = none) (ha : PE X a ta) (na : starEach [a] X.env = (false, eval a X.env) :: starEach [] X.env := by rfl) :
    PE X (.Call (.Name "len" p) [.Call (.Name "set" p2) [a] [] q] [] pos) (tLenTx X.K ta) := by
  refine ⟨fun pins s σ H Q I h => ?_⟩
  refine PyProof.Rows.Call_ (ld_blt I hg hm boot_len (PyProof.Rows.callWith_builtin1 (PyProof.Rows.args_cons ?_ rfl) rfl rfl))
  refine PyProof.Rows.Call_ (ld_blt I hg2 hm2 (by decide +kernel : bootBuiltins "set" = some (.type "set")) (PyProof.Rows.callWith_type1 (PyProof.Rows.args_cons (thn (ha.run pins s σ H _ I h) fun v s1 ⟨x, H1, I1, r1, q1⟩ => PyProof.Rows.args_nil ?_) na) na rfl))
  obtain ⟨l, xs, rfl, hq, h1, q1⟩ := q1
  cases r1
  have fin : ∀ (h' : Heap) (tk : Nat), SetMade X.prog X.w s1 xs h' → wpAny (model X.prog X.w) X.A (PySem.spliced (backTo pos (starEach [] X.env))) (fun vs s₂ => wpAny (model X.prog X.w) X.A (call (.builtin "len") (Value.ref s1.heap.objs.size :: vs)) (EP X pins σ Q) X.xe s₂) X.xe { s1 with heap := h', toks := tk } := fun h' tk m => by
    refine PyProof.Rows.args_nil ?_
    obtain ⟨⟨o, es, ep, t, ho, hex, hd, _, _, _, hf, hn⟩, hk⟩ := m
    have I2 : Inv X pins σ H1 { s1 with heap := h', toks := tk } := I1.kept fun b o e => hk b o (Heap.lt_size e) e
    have le := dT_len xs
    exact call_len_set ho hex hd hf (by rw [hn]; omega) ⟨.int (dT xs).length, H1, I2.tok _, ⟨_, by rw [hn]⟩, q1⟩
  have sb : xs.length + 1 < PySem.scanBound := by unfold PySem.scanBound; omega
  rcases hq with hq | hq
  · obtain ⟨its, r, pl, hz⟩ := I1.list hq
    exact call_setT_list (I1.ok.hd hc) pl.isList (by simpa using strsAre_of r) sb fin
  · obtain ⟨its, r, pl, hz⟩ := I1.tuple hq
    exact call_setT_tuple (I1.ok.hd hc) pl (by simpa using strsAre_of r) sb fin
def lenTx (ds : List D) (S : Sto) : R D := match strsD ds with
  | some xs => if xs.length ≤ 1000 then .ok (.int (dT xs).length) S else .stuck
  | none => .stuck
def eLenTx (me : ME) : ME := fun env S => (me env S).bind fun d S1 => match d with
  | .lst ds => lenTx ds S1
  | .tup ds => lenTx ds S1
  | _ => .stuck
theorem lenTx_cases (ds : List D) (S : Sto) : lenTx ds S = .stuck ∨ ∃ xs, strsD ds = some xs ∧ xs.length ≤ 1000 ∧ lenTx ds S = .ok (.int (dT xs).length) S := by
  unfold lenTx
  cases z : strsD ds with
  | none => exact .inl rfl
  | some xs =>
    by_cases h : xs.length ≤ 1000
    · exact .inr ⟨xs, rfl, h, if_pos h⟩
    · exact .inl (if_neg h)
theorem s_lenTx (hms : X.mg "set" = none) (hml : X.mg "len" = none) (ha : SE X Y W a ta ma) (hc : X.calm = true := by rfl) (hK : X.K = Y.K := by rfl) (hg : Gl X "set" := by rfl) (hgl : Gl X "len" := by rfl) (na : starEach [a] X.env = (false, eval a X.env) :: starEach [] X.env := by rfl) :
    SE X Y W (.Call (.Name "len" p) [.Call (.Name "set" p2) [a] [] q] [] pos) (tLenTx Y.K ta) (eLenTx ma) := ⟨hK ▸ pe_lenTx hc hgl hml hg hms ha.pe na, fun w0 H0 w H σ env S O Q st pp =>
  ha.sim w0 H0 w H σ env S O _ st ((PostX.bind pp).imp fun d S1 w1 H1 st1 l1 p1 v r => by
    cases d with
    | lst ds =>
      obtain ⟨a, vs, e1, e2, e3⟩ := rep_lst r
      rcases lenTx_cases ds S1 with z | ⟨xs, z, hz, e⟩
      · change PostX Y W w0 H0 w1 σ env O (lenTx ds S1) _ at p1
        rw [z] at p1
        exact False.elim p1
      · change PostX Y W w0 H0 w1 σ env O (lenTx ds S1) _ at p1
        rw [e] at p1
        have ev := strsD_rep z e3
        subst ev
        exact ⟨a, xs, e1, .inl (.inl (.inl (st1.ok.ex _ _ e2))), hz, p1 w1 H1 st1 (.refl w1) _ rep_int'⟩
    | tup ds =>
      obtain ⟨a, vs, e1, e2, e3⟩ := rep_tup r
      rcases lenTx_cases ds S1 with z | ⟨xs, z, hz, e⟩
      · change PostX Y W w0 H0 w1 σ env O (lenTx ds S1) _ at p1
        rw [z] at p1
        exact False.elim p1
      · change PostX Y W w0 H0 w1 σ env O (lenTx ds S1) _ at p1
        rw [e] at p1
        have ev := strsD_rep z e3
        subst ev
        exact ⟨a, xs, e1, .inr (same_sqT st1.ok.ex e2), hz, p1 w1 H1 st1 (.refl w1) _ rep_int'⟩
    | _ => exact False.elim p1)⟩
end
end Mm
namespace Mm
open PySem L2
@[simp] theorem eLenTx_eq (me : ME) (env : Envr) (S : Sto) : eLenTx me env S = (me env S).bind fun d S1 => match d with
  | .lst ds => lenTx ds S1
  | .tup ds => lenTx ds S1
  | _ => .stuck := rfl
end Mm
namespace Mm
open PySem PySem.Spec PyProof.Rows L2
section
variable {X : Cx} {Y : Gam} {W : WX} {e e2 : Expr} {t : TA} {m : MA} {p pos tpos : Pos} {elts : List Expr} {kk : Nat}
def D.seq : D → Option (Bool × List D)
  | .lst ds => some (true, ds)
  | .tup ds => some (false, ds)
  | _ => none
@[simp] theorem seq_lst (ds : List D) : (D.lst ds).seq = some (true, ds) := rfl
@[simp] theorem seq_tup (ds : List D) : (D.tup ds).seq = some (false, ds) := rfl
end
end Mm
namespace Mm
open PySem L2
mutual
def mapRef (f : Nat → Option D) : D → Option D
  | .lst ds => (mapRefL f ds).map .lst
  | .tup ds => (mapRefL f ds).map .tup
  | .ins c fs => (mapRefF f fs).map (.ins c)
  | .dic ks => (mapRefK f ks).map .dic
  | .ref n => f n
  | .non => some .non
  | .bl b => some (.bl b)
  | .int i => some (.int i)
  | .str x => some (.str x)
  | .scr ns => some (.scr ns)
  | .ty n => some (.ty n)
  | .cls c => some (.cls c)
  | .adr a => some (.adr a)
  | .set xs => some (.set xs)
  | .tdc ks => some (.tdc ks)
  | .tds ks => some (.tds ks)
  | .any => some .any
def mapRefL (f : Nat → Option D) : List D → Option (List D)
  | [] => some []
  | d :: ds => (mapRef f d).bind fun e => (mapRefL f ds).map (e :: ·)
def mapRefF (f : Nat → Option D) : List (Str × D) → Option (List (Str × D))
  | [] => some []
  | (x, d) :: ds => (mapRef f d).bind fun e => (mapRefF f ds).map ((x, e) :: ·)
def mapRefK (f : Nat → Option D) : List (Key × D) → Option (List (Key × D))
  | [] => some []
  | (x, d) :: ds => (mapRef f d).bind fun e => (mapRefK f ds).map ((x, e) :: ·)
end
def thF (S : Sto) : Nat → Nat → Option D
  | 0 => fun _ => none
  | j + 1 => fun n => (S[n]?).bind fun c => mapRef (thF S j) c.d
noncomputable def thG (w : Wd) (H : Hp) : Hp := fun a => match w.G a with
  | some o => some o
  | none => open Classical in if a ∈ w.rho then H a else none
theorem thG_old {w : Wd} {H : Hp} {a : Addr} {o : HO} (h : w.G a = some o) : thG w H a = some o := by
  unfold thG
  rw [h]
theorem thG_cell {w : Wd} {H : Hp} {a : Addr} (h : w.G a = none) (m : a ∈ w.rho) : thG w H a = H a := by
  unfold thG
  rw [h]
  exact if_pos m
theorem thG_same {w : Wd} {H : Hp} : Same w.G (thG w H) := fun a o e => thG_old e
section
variable {g : Gam} {w : Wd} {H : Hp} {S : Sto}
def ThOk (g : Gam) (w : Wd) (H : Hp) (f : Nat → Option D) : Prop := ∀ n d, f n = some d → ∀ v, Rep g w (.ref n) v → Rep g ⟨[], thG w H⟩ d v
mutual
theorem mapRef_ok {f : Nat → Option D} (F : ThOk g w H f) : ∀ {d e : D}, mapRef f d = some e → ∀ {v : V}, Rep g w d v → Rep g ⟨[], thG w H⟩ e v
  | .lst ds, e, h, v, r => by
    unfold mapRef at h
    cases z : mapRefL f ds with
    | none => rw [z] at h; cases h
    | some es =>
      rw [z] at h
      cases h
      unfold Rep at r ⊢
      obtain ⟨a, vs, e1, e2, e3⟩ := r
      exact ⟨a, vs, e1, thG_old e2, mapRefL_ok F z e3⟩
  | .tup ds, e, h, v, r => by
    unfold mapRef at h
    cases z : mapRefL f ds with
    | none => rw [z] at h; cases h
    | some es =>
      rw [z] at h
      cases h
      unfold Rep at r ⊢
      obtain ⟨a, vs, e1, e2, e3⟩ := r
      exact ⟨a, vs, e1, e2.same thG_same, mapRefL_ok F z e3⟩
  | .ins c fs, e, h, v, r => by
    unfold mapRef at h
    cases z : mapRefF f fs with
    | none => rw [z] at h; cases h
    | some es =>
      rw [z] at h
      cases h
      unfold Rep at r ⊢
      obtain ⟨a, dx, gs, e1, e2, e3⟩ := r
      exact ⟨a, dx, gs, e1, thG_old e2, mapRefF_ok F z e3⟩
  | .dic ks, e, h, v, r => by
    unfold mapRef at h
    cases z : mapRefK f ks with
    | none => rw [z] at h; cases h
    | some es =>
      rw [z] at h
      cases h
      unfold Rep at r ⊢
      obtain ⟨a, vs, e1, e2, e3⟩ := r
      exact ⟨a, vs, e1, same_rd thG_same e2, mapRefK_ok F z e3⟩
  | .ref n, e, h, v, r => by
    unfold mapRef at h
    exact F n e h v r
  | .non, e, h, v, r => by unfold mapRef at h; cases h; unfold Rep at r ⊢; exact r
  | .bl b, e, h, v, r => by unfold mapRef at h; cases h; unfold Rep at r ⊢; exact r
  | .int b, e, h, v, r => by unfold mapRef at h; cases h; unfold Rep at r ⊢; exact r
  | .str b, e, h, v, r => by unfold mapRef at h; cases h; unfold Rep at r ⊢; exact r
  | .ty b, e, h, v, r => by unfold mapRef at h; cases h; unfold Rep at r ⊢; exact r
  | .cls b, e, h, v, r => by unfold mapRef at h; cases h; unfold Rep at r ⊢; exact r
  | .adr b, e, h, v, r => by unfold mapRef at h; cases h; unfold Rep at r ⊢; exact r
  | .scr ns, e, h, v, r => by
    unfold mapRef at h
    cases h
    unfold Rep at r ⊢
    obtain ⟨a, e1, e2⟩ := r
    exact ⟨a, e1, thG_same.seq e2⟩
  | .set xs, e, h, v, r => by
    unfold mapRef at h
    cases h
    unfold Rep at r ⊢
    obtain ⟨a, q, e1, e2, e3⟩ := r
    exact ⟨a, q, e1, thG_old e2, e3⟩
  | .any, e, h, v, r => by
    unfold mapRef at h
    cases h
    unfold Rep at r ⊢
    exact r
  | .tdc ks, e, h, v, r => by
    unfold mapRef at h
    cases h
    unfold Rep at r ⊢
    obtain ⟨a, e1, e2⟩ := r
    exact ⟨a, e1, thG_old e2⟩
  | .tds ks, e, h, v, r => by
    unfold mapRef at h
    cases h
    unfold Rep at r ⊢
    obtain ⟨a, e1, e2⟩ := r
    exact ⟨a, e1, thG_old e2⟩
theorem mapRefL_ok {f : Nat → Option D} (F : ThOk g w H f) : ∀ {ds es : List D}, mapRefL f ds = some es → ∀ {vs : List V}, RepL g w ds vs → RepL g ⟨[], thG w H⟩ es vs
  | [], es, h, vs, r => by
    unfold mapRefL at h
    cases h
    unfold RepL at r ⊢
    exact r
  | d :: ds, es, h, vs, r => by
    unfold mapRefL at h
    cases z : mapRef f d with
    | none => rw [z] at h; cases h
    | some e =>
      rw [z] at h
      cases z2 : mapRefL f ds with
      | none => rw [z2] at h; cases h
      | some es' =>
        rw [z2] at h
        cases h
        unfold RepL at r
        obtain ⟨v, vr, e1, e2, e3⟩ := r
        rw [e1]
        exact RepL.cons_ (mapRef_ok F z e2) (mapRefL_ok F z2 e3)
theorem mapRefF_ok {f : Nat → Option D} (F : ThOk g w H f) : ∀ {ds es : List (Str × D)}, mapRefF f ds = some es → ∀ {vs : List (Str × V)}, RepF g w ds vs → RepF g ⟨[], thG w H⟩ es vs
  | [], es, h, vs, r => by
    unfold mapRefF at h
    cases h
    unfold RepF at r ⊢
    exact r
  | (x, d) :: ds, es, h, vs, r => by
    unfold mapRefF at h
    cases z : mapRef f d with
    | none => rw [z] at h; cases h
    | some e =>
      rw [z] at h
      cases z2 : mapRefF f ds with
      | none => rw [z2] at h; cases h
      | some es' =>
        rw [z2] at h
        cases h
        unfold RepF at r ⊢
        obtain ⟨v, vr, e1, e2, e3⟩ := r
        exact ⟨v, vr, e1, mapRef_ok F z e2, mapRefF_ok F z2 e3⟩
theorem mapRefK_ok {f : Nat → Option D} (F : ThOk g w H f) : ∀ {ds es : List (Key × D)}, mapRefK f ds = some es → ∀ {vs : List (Key × V)}, RepK g w ds vs → RepK g ⟨[], thG w H⟩ es vs
  | [], es, h, vs, r => by
    unfold mapRefK at h
    cases h
    unfold RepK at r ⊢
    exact r
  | (x, d) :: ds, es, h, vs, r => by
    unfold mapRefK at h
    cases z : mapRef f d with
    | none => rw [z] at h; cases h
    | some e =>
      rw [z] at h
      cases z2 : mapRefK f ds with
      | none => rw [z2] at h; cases h
      | some es' =>
        rw [z2] at h
        cases h
        unfold RepK at r ⊢
        obtain ⟨v, vr, e1, e2, e3⟩ := r
        exact ⟨v, vr, e1, mapRef_ok F z e2, mapRefK_ok F z2 e3⟩
end
theorem cell_th {f : Nat → Option D} (F : ThOk g w H f) {a : Addr} (hG : w.G a = none) (ma : a ∈ w.rho) {c : Cell} {e : D} (q : CellR g w H a c) (h : mapRef f c.d = some e) : Rep g ⟨[], thG w H⟩ e (.ref a) := by
  have hc : ∀ {o : HO}, H a = some o → thG w H a = some o := fun q => (thG_cell hG ma).trans q
  cases c with
  | lst ds =>
    obtain ⟨vs, f1, f2⟩ := q
    have h : (mapRefL f ds).map .lst = some e := by unfold Cell.d mapRef at h; exact h
    cases z : mapRefL f ds with
    | none => rw [z] at h; cases h
    | some es =>
      rw [z] at h
      cases h
      unfold Rep
      exact ⟨a, vs, rfl, hc f1, mapRefL_ok F z f2⟩
  | ins c fs =>
    obtain ⟨dx, gs, f1, f2⟩ := q
    have h : (mapRefF f fs).map (.ins c) = some e := by unfold Cell.d mapRef at h; exact h
    cases z : mapRefF f fs with
    | none => rw [z] at h; cases h
    | some es =>
      rw [z] at h
      cases h
      unfold Rep
      exact ⟨a, dx, gs, rfl, hc f1, mapRefF_ok F z f2⟩
  | dic ks =>
    obtain ⟨gs, f1, f2⟩ := q
    have h : (mapRefK f ks).map .dic = some e := by unfold Cell.d mapRef at h; exact h
    cases z : mapRefK f ks with
    | none => rw [z] at h; cases h
    | some es =>
      rw [z] at h
      cases h
      unfold Rep
      exact ⟨a, gs, rfl, .inl (hc f1), mapRefK_ok F z f2⟩
  | mem ks =>
    have h : some D.any = some e := by unfold Cell.d mapRef at h; exact h
    cases h
    unfold Rep
    exact ⟨a, rfl⟩
  | lkl ks =>
    have h : some D.any = some e := by unfold Cell.d mapRef at h; exact h
    cases h
    unfold Rep
    exact ⟨a, rfl⟩
  | tdc ks =>
    have q : H a = some (.dT (tdV ks)) := q
    have h : some (D.tdc ks) = some e := by unfold Cell.d mapRef at h; exact h
    cases h
    unfold Rep
    exact ⟨a, rfl, hc q⟩
  | lck ks =>
    obtain ⟨o, gs, f1, f2⟩ := q
    have h : (mapRefK f ks).map .dic = some e := by unfold Cell.d mapRef at h; exact h
    cases z : mapRefK f ks with
    | none => rw [z] at h; cases h
    | some es =>
      rw [z] at h
      cases h
      unfold Rep
      exact ⟨a, gs, rfl, .inr ⟨o, hc f1⟩, mapRefK_ok F z f2⟩
theorem thF_ok (k : Ok g w H S) : ∀ j, ThOk g w H (thF S j)
  | 0 => fun n d h => nomatch h
  | j + 1 => fun n d h v r => by
    obtain ⟨a, e1, e2⟩ : ∃ a, w.rho[n]? = some a ∧ v = .ref a := by unfold Rep at r; exact r
    have h : (S[n]?).bind (fun c => mapRef (thF S j) c.d) = some d := h
    cases z : S[n]? with
    | none => rw [z] at h; cases h
    | some c =>
      rw [z] at h
      obtain ⟨q1, q2⟩ := k.cells.at_ n a c e1 z
      rw [e2]
      exact cell_th (thF_ok k j) q1 (List.mem_of_getElem? e1) q2 h
end
mutual
theorem mapRef_no {f : Nat → Option D} : ∀ {d : D}, noRef d = true → mapRef f d = some d
  | .lst ds, h => by unfold noRef at h; unfold mapRef; rw [mapRefL_no h]; rfl
  | .tup ds, h => by unfold noRef at h; unfold mapRef; rw [mapRefL_no h]; rfl
  | .ins c fs, h => by unfold noRef at h; unfold mapRef; rw [mapRefF_no h]; rfl
  | .dic ks, h => by unfold noRef at h; unfold mapRef; rw [mapRefK_no h]; rfl
  | .ref n, h => by unfold noRef at h; cases h
  | .non, _ => by unfold mapRef; rfl
  | .bl _, _ => by unfold mapRef; rfl
  | .int _, _ => by unfold mapRef; rfl
  | .str _, _ => by unfold mapRef; rfl
  | .scr _, _ => by unfold mapRef; rfl
  | .ty _, _ => by unfold mapRef; rfl
  | .cls _, _ => by unfold mapRef; rfl
  | .adr _, _ => by unfold mapRef; rfl
  | .set _, _ => by unfold mapRef; rfl
  | .tdc _, _ => by unfold mapRef; rfl
  | .tds _, _ => by unfold mapRef; rfl
  | .any, _ => by unfold mapRef; rfl
theorem mapRefL_no {f : Nat → Option D} : ∀ {ds : List D}, noRefL ds = true → mapRefL f ds = some ds
  | [], _ => by unfold mapRefL; rfl
  | d :: ds, h => by
    unfold noRefL at h
    rw [Bool.and_eq_true] at h
    unfold mapRefL
    rw [mapRef_no h.1, mapRefL_no h.2]
    rfl
theorem mapRefF_no {f : Nat → Option D} : ∀ {ds : List (Str × D)}, noRefF ds = true → mapRefF f ds = some ds
  | [], _ => by unfold mapRefF; rfl
  | (_, d) :: ds, h => by
    unfold noRefF at h
    rw [Bool.and_eq_true] at h
    unfold mapRefF
    rw [mapRef_no h.1, mapRefF_no h.2]
    rfl
theorem mapRefK_no {f : Nat → Option D} : ∀ {ds : List (Key × D)}, noRefK ds = true → mapRefK f ds = some ds
  | [], _ => by unfold mapRefK; rfl
  | (_, d) :: ds, h => by
    unfold noRefK at h
    rw [Bool.and_eq_true] at h
    unfold mapRefK
    rw [mapRef_no h.1, mapRefK_no h.2]
    rfl
end
end Mm
namespace Fb
open PySem L2 Mm
noncomputable def m_need_sides : MFn := mFn 4 (sSeq (sAsg (mFrz (fLc (itL (eV 0)) (gT (gNC (gN 2) (gNC (gN 3) gN0))) cYes (eV 2) [2, 3])) (gN 1))
    (sSeq (sIf (cOr (cNot (cB (eCB fAll (aCons (mFrz (fLc (itL (eV 1)) (gN 2) cYes (eCall m_is_name [] (aCons (eV 2) aNil)) [2])) aNil)))) (cB (eOp iLt (eLenTx (eV 1)) (eCB fLen (aCons (eV 1) aNil))))) (sRaise "BadSides") sNil)
    (sSeq (sIf (cOr (cB (eOp (fInX false) (eC (.str "box")) (eV 1))) (cB (eOp (fInX false) (eC (.str "lane")) (eV 1)))) (sRaise "BadSides") sNil)
    (sSeq (sIf (cB (eCB fAny (aCons (mFrz (fLc (itL (eV 0)) (gT (gNC (gN 2) (gNC (gN 3) gN0))) cYes (eOr (eOp iLt (eV 3) (eC (.int 0))) (eOp iGt (eV 3) (eC (.int 12)))) [2, 3])) aNil))) (sRaise "BadSides") sNil)
    (sIf (cB (eOp iGt (eCB fSum (aCons (mFrz (fLc (itL (eV 0)) (gT (gNC (gN 2) (gNC (gN 3) gN0))) cYes (eV 3) [2, 3])) aNil)) (eC (.int 12)))) (sRaise "BadSides") sNil)))))
end Fb
namespace Mm
open PySem L2
def thL (S : Sto) (ds : List D) : Option (List D) := mapRefL (thF S 3) ds
section
variable {g : Gam} {w w2 : Wd} {H H2 : Hp} {S S2 : Sto}
theorem thL_ok (k : Ok g w H S) {ds es : List D} (h : thL S ds = some es) {vs : List V} (r : RepL g w ds vs) : RepL g ⟨[], thG w H⟩ es vs := mapRefL_ok (thF_ok k 3) h r
theorem th_sub (k : Ok g w H S) : Same (thG w H) H := fun a o e => by
  cases z : w.G a with
  | some o' =>
    rw [thG_old z] at e
    rw [← e]
    exact k.ex a o' z
  | none =>
    unfold thG at e
    rw [z] at e
    have e : (open Classical in if a ∈ w.rho then H a else none) = some o := e
    split at e
    · exact e
    · cases e
theorem th_nt (k : Ok g w H S) : ∀ a ps, thG w H a ≠ some (.tbl ps) := fun a ps e => by
  cases z : w.G a with
  | some o' =>
    rw [thG_old z] at e
    rw [e] at z
    exact k.notab a ps z
  | none =>
    by_cases m : a ∈ w.rho
    · obtain ⟨n, hn⟩ := List.getElem?_of_mem m
      have ln : n < S.length := by
        rw [← k.cells.len]
        exact (List.getElem?_eq_some_iff.mp hn).1
      obtain ⟨q1, q2⟩ := k.cells.at_ n a S[n] hn (List.getElem?_eq_getElem ln)
      obtain ⟨x, q3, q4⟩ := q2.some_
      rw [th_sub k a _ e] at q3
      cases q3
      exact q4 ps rfl
    · unfold thG at e
      rw [z] at e
      have e : (open Classical in if a ∈ w.rho then H a else none) = some (.tbl ps) := e
      rw [if_neg m] at e
      cases e
theorem th_ok (k : Ok g w H S) : Ok g ⟨[], thG w H⟩ H [] := ⟨th_sub k, ⟨fun i j a h _ => by simp at h, rfl, fun n a c h _ => by simp at h⟩, k.tabs, th_nt k⟩
theorem th_back (k : Ok g w H S) (f : Frame ⟨[], thG w H⟩ H w2 H2) (k2 : Ok g w2 H2 S2) : Frame w H w H2 ∧ Ok g w H2 S := by
  have kp : ∀ a o, H a = some o → (∀ ps, o ≠ .tbl ps) → H2 a = some o := fun a o e n => f.keep a o e (by simp) n
  refine ⟨⟨.refl w, fun a o e _ n => kp a o e n, fun _ _ => rfl, fun _ z => .inl z, f.dom, f.tb, f.fz⟩, ⟨fun a o e => kp a o (k.ex a o e) (fun ps z => k.notab a ps (by rw [e, z])), ⟨k.cells.nd, k.cells.len, fun m a c e1 e2 => ?_⟩, k2.tabs, k.notab⟩⟩
  obtain ⟨q1, q2⟩ := k.cells.at_ m a c e1 e2
  obtain ⟨x, q3, q4⟩ := q2.some_
  exact ⟨q1, q2.move (.refl w) (by rw [q3, kp a x q3 q4])⟩
def scalO : Option D → Bool
  | none => true
  | some d => scal d
def thFn (mf : MFn) : MFn := fun ds S => match thL S ds with
  | some es => (match mf es [] with
    | .ok (.val d) _ => if scal d then .ok (.val d) S else .stuck
    | .exc c p _ => if scalO p then .exc c p S else .stuck
    | _ => .stuck)
  | none => .stuck
theorem sp_th {n : Nat} {mf : MFn} {vs : List V} {Q : VK} {E : XK} (h : spOf g n (thFn mf) vs H Q E) : spOf g n mf vs H Q E := by
  obtain ⟨hl, w, ds, S, k, r, p⟩ := h
  unfold thFn at p
  cases z : thL S ds with
  | none => rw [z] at p; exact False.elim p
  | some es =>
    rw [z] at p
    simp only at p
    refine ⟨hl, _, es, [], th_ok k, thL_ok k z r, ?_⟩
    cases y : mf es [] with
    | stuck => rw [y] at p; exact p
    | exc c q S2 =>
      rw [y] at p
      have p : PostF g w H Q E (if scalO q = true then R.exc c q S else .stuck) := p
      split at p
      · rename_i hq
        intro w2 H2 cls dd f k2 x
        obtain ⟨f1, k1⟩ := th_back k f k2
        refine p w H2 cls dd f1 k1 ?_
        cases q with
        | none => exact x
        | some d =>
          obtain ⟨x1, x2⟩ := x
          exact ⟨x1, by
            obtain ⟨a, v, e1, e2, e3⟩ := x2
            exact ⟨a, v, e1, e2, scal_rep hq e3⟩⟩
      · exact False.elim p
    | ok rr S2 =>
      cases rr with
      | own c => rw [y] at p; exact False.elim p
      | val d =>
        rw [y] at p
        have p : PostF g w H Q E (if scal d = true then R.ok (.val d) S else .stuck) := p
        split at p
        · rename_i hd
          intro w2 H2 v f k2 x
          obtain ⟨f1, k1⟩ := th_back k f k2
          exact p w H2 v f1 k1 (scal_rep hd x)
        · exact False.elim p
end
section
variable {P : Program} {w : World} {K : PySem.W.Frag} {mg : Str → Option Value} {base : Heap} {Y : Gam} {k n : Nat} {x c : Str} {mf : MFn} {dvs : List V} {dd : List D}
theorem Kn.th (h : Kn P w K mg base Y k x n mf dvs dd) : Kn P w K mg base Y k x n (thFn mf) dvs dd := by
  obtain ⟨f, fd, ps, ds, F, r⟩ := h
  exact ⟨f, fd, ps, ds, F.imp fun _ _ _ _ => sp_th, r⟩
end
@[simp] theorem thFn_eq (mf : MFn) (ds : List D) (S : Sto) : thFn mf ds S = match thL S ds with
  | some es => (match mf es [] with
    | .ok (.val d) _ => if scal d then .ok (.val d) S else .stuck
    | .exc c p _ => if scalO p then .exc c p S else .stuck
    | _ => .stuck)
  | none => .stuck := rfl
end Mm
namespace Mm
open PySem L2
def eKV (mk mv : ME) : ME := fun env S => (mk env S).bind fun k S1 => match keyD k with
  | some _ => (mv env S1).bind fun v S2 => .ok (.tup [k, v]) S2
  | none => .stuck
def kvsOf : List D → List (Key × D) → Option (List (Key × D))
  | [], acc => some acc
  | .tup [k, v] :: ds, acc => (match keyD k with
    | some kk => kvsOf ds (putD acc kk v)
    | none => none)
  | _ :: _, _ => none
theorem putD_le (ks : List (Key × D)) (k : Key) (d : D) : ks.length ≤ (putD ks k d).length := by
  unfold putD
  split
  · rw [List.length_map]
    exact Nat.le_refl _
  · simp
theorem kvsOf_le : ∀ {ds : List D} {acc ks : List (Key × D)}, kvsOf ds acc = some ks → acc.length ≤ ks.length
  | [], acc, ks, h => by
    unfold kvsOf at h
    cases h
    exact Nat.le_refl _
  | d :: ds, acc, ks, h => by
    cases d with
    | tup xs =>
      match xs, h with
      | [k, v], h =>
        unfold kvsOf at h
        cases z : keyD k with
        | none => rw [z] at h; cases h
        | some kk =>
          rw [z] at h
          exact Nat.le_trans (putD_le acc kk v) (kvsOf_le h)
      | [], h => unfold kvsOf at h; cases h
      | [_], h => unfold kvsOf at h; cases h
      | _ :: _ :: _ :: _, h => unfold kvsOf at h; cases h
    | _ => unfold kvsOf at h; cases h
def finDc (acc : List (Key × D)) (ys : List D) (S : Sto) : R D := match kvsOf ys acc with
  | some ks => if decide (ks.length ≤ 1000) then .ok (.dic ks) S else .stuck
  | none => .stuck
def eDc (mi : MI) (g : MG) (tt : MT) (mk mv : ME) (vs : List Nat) : ME := fun env S => (mi env S).bind fun ds S1 => (lcR g tt (eKV mk mv) (wipeE env vs) ds S1).bind (finDc [])
section
variable {X : Cx} {Y : Gam} {W : WX} {e a b c tg iter elt kx vx : Expr} {es rest ifs : List Expr} {ta tb te tk tv : TE} {tt tu : TT} {ma mb me mk mv : ME} {mt mu : MT} {mf : MF} {t : TA} {m : MA} {pos : Pos} {wi : TI} {mi : MI} {scope : Scope} {own : List (Str × Nat)} {is : List Nat} {g : TG} {mg : MG}
theorem ok_updK {g : Gam} {w : Wd} {H : Hp} {S : Sto} {p : Addr} {vs : List (Key × V)} {o : HO} (k : Ok g w H S) (e : H p = some (.dK vs)) (hg : w.G p = none) (hr : p ∉ w.rho) : Ok g w (upd H p o) S := by
  refine ⟨fun b u q => ?_, ⟨k.cells.nd, k.cells.len, fun m b q e9 e10 => ?_⟩, tabs_upd k.tabs (fun ps z => by rw [e] at z; cases z) (fun φ _ z => by rw [e] at z; cases z), k.notab⟩
  · rw [upd_ne (fun z => by rw [z, hg] at q; cases q)]
    exact k.ex b u q
  · obtain ⟨q1, q2⟩ := k.cells.at_ m b q e9 e10
    exact ⟨q1, q2.move (.refl w) (upd_ne fun z => hr (by rw [← z]; exact List.mem_of_getElem? e9))⟩
theorem sim_dc {g : Gam} {is vs : List Nat} {tg : TG} {mg : MG} (hi : SimI g W wi mi) (hg : SimG g is tg mg) (hv : ∀ i ∈ is, i ∈ vs) (ht : SimT g W0 tt mt) (hk : SimE g W0 tk mk) (he : SimE g W0 tv mv) : SimE g W (tDc wi tg tt tk tv vs) (eDc mi mg mt mk mv vs) := fun w0 H0 w H σ env S O Q st p => by
  unfold eDc at p
  generalize hme : eKV mk mv = me' at p
  refine hi w0 H0 w H σ env S O _ st ((PostX.bind p).imp fun ds S1 w1 H1 st1 l1 p1 J hJ Z hD => ?_)
  obtain ⟨o1, o2, o3, o4⟩ := st1.out hD
  refine ⟨fun i m H => m + i = ds.length ∧ ∃ w' S' acc us, Frame w1 H1 w' H ∧ Ok g w' H S' ∧ H Z = some (.dK us) ∧ RepK g w' acc us ∧ w'.G Z = none ∧ Z ∉ w'.rho ∧
    PostX g W w0 H0 w' σ env O ((lcR mg mt me' (wipeE env vs) (ds.drop i) S').bind (finDc acc)) (fun d _ w' H' => ∀ v, Rep g w' d v → Q v H'), ?_, ?_⟩
  · obtain ⟨k2, f2⟩ := ok_lay (o := .dK []) st1.ok hD nt_dK
    exact ⟨ds.length, by omega, w1, S1, [], [], f2, k2, upd_same, RepK.nil_, o2, o3, p1⟩
  · rintro i k H2 ⟨hk', w2, S2, acc, us, f2, k2, e2, hf, g2, r2, p2⟩
    obtain ⟨hgo, hstop⟩ := hJ w2 H2 f2.le k2.ex
    have st2 : StR g w0 H0 w2 H2 σ env S2 O := st1.after f2 k2
    have stb : StR g w2 H2 w2 H2 (wipe σ vs) (wipeE env vs) S2 (List.replicate σ.length none) := st2.hide vs
    by_cases hlt : i < ds.length
    · have ed : ds.drop i = ds[i] :: ds.drop (i + 1) := List.drop_eq_getElem_cons hlt
      obtain ⟨go, yld⟩ := hgo i ds[i] (List.getElem?_eq_getElem hlt)
      refine .inr ⟨go, fun H => ∃ w' S' acc us, Frame w1 H1 w' H ∧ Ok g w' H S' ∧ H Z = some (.dK us) ∧ RepK g w' acc us ∧ w'.G Z = none ∧ Z ∉ w'.rho ∧
        PostX g W w0 H0 w' σ env O ((lcR mg mt me' (wipeE env vs) (ds.drop (i + 1)) S').bind (finDc acc)) (fun d _ w' H' => ∀ v, Rep g w' d v → Q v H'), fun H' h' => ⟨k - 1, by omega, by omega, h'⟩, fun x H' hy => ?_⟩
      obtain ⟨w3, gr, rx⟩ := yld x H' hy
      have st3 := stb.grow gr
      rw [ed] at p2
      unfold lcR at p2
      cases z : mg ds[i] (wipeE env vs) with
      | none => rw [z] at p2; exact False.elim p2
      | some e1 =>
        simp only [z] at p2
        refine hg w2 H2 w3 H' _ _ S2 _ ds[i] x _ e1 st3 rx z fun σ4 O4 st4 sl4 => ⟨?_, ?_⟩
        · rw [wipe_slots sl4 hv, wipe_wipe]
        · refine ht w2 H2 w3 H' σ4 e1 S2 O4 _ st4 ?_
          cases y : mt e1 S2 with
          | stuck => simp only [y] at p2; exact p2
          | exc c q s => simp only [y] at p2; exact False.elim p2
          | ok bb S5 =>
            intro w5 H5 st5 l5
            have keepD : ∀ {w6 : Wd} {H6 : Hp}, Frame w2 H2 w6 H6 → H6 Z = some (.dK us) ∧ w6.G Z = none ∧ Z ∉ w6.rho := fun {w6 H6} f6 =>
              ⟨f6.keep Z _ e2 r2 nt_dK, (f6.newG Z (by rw [e2]; exact fun z => nomatch z)).trans g2, fun q => by
                rcases f6.rho Z q with z | z
                · exact r2 z
                · rw [e2] at z; cases z⟩
            cases bb with
            | false =>
              simp only [y] at p2
              simp only [Bool.false_eq_true, if_false]
              obtain ⟨q1, q2, q3⟩ := keepD st5.fr
              exact ⟨w5, S5, acc, us, f2.trans st5.fr, st5.ok, q1, hf.mono st5.fr.le, q2, q3, PostX.mono p2 st5.fr.le⟩
            | true =>
              simp only [y] at p2
              simp only [if_true]
              rw [← hme] at p2
              unfold eKV at p2
              refine hk w2 H2 w5 H5 σ4 e1 S5 O4 _ st5 ?_
              cases u : mk e1 S5 with
              | stuck => simp only [u] at p2; exact p2
              | exc c q s => simp only [u] at p2; exact False.elim p2
              | ok kd S6 =>
                simp only [u] at p2
                intro w6 H6 st6 l6 v6 r6
                cases kk : keyD kd with
                | none =>
                  have this : (R.ok kd S6 : R D).bind (fun k S1 => match keyD k with
                      | some _ => (mv e1 S1).bind fun v S2 => R.ok (D.tup [k, v]) S2
                      | none => .stuck) = .stuck := by
                    show (match keyD kd with
                      | some _ => (mv e1 S6).bind fun v S2 => R.ok (D.tup [kd, v]) S2
                      | none => .stuck) = _
                    rw [kk]
                  rw [this] at p2
                  exact False.elim p2
                | some key =>
                  have p2 : PostX g W w0 H0 w2 σ env O ((match (mv e1 S6).bind fun v S2 => R.ok (D.tup [kd, v]) S2 with
                    | .ok y S3 => (lcR mg mt (eKV mk mv) (wipeE env vs) (ds.drop (i + 1)) S3).bind fun ys S4 => R.ok (y :: ys) S4
                    | _ => .stuck).bind (finDc acc)) (fun d _ w' H' => ∀ v, Rep g w' d v → Q v H') := by
                    have : (R.ok kd S6 : R D).bind (fun k S1 => match keyD k with
                      | some _ => (mv e1 S1).bind fun v S2 => R.ok (D.tup [k, v]) S2
                      | none => .stuck) = (mv e1 S6).bind fun v S2 => R.ok (D.tup [kd, v]) S2 := by
                      show (match keyD kd with
                      | some _ => (mv e1 S6).bind fun v S2 => R.ok (D.tup [kd, v]) S2
                      | none => .stuck) = _
                      rw [kk]
                    rw [this] at p2
                    exact p2
                  refine he w2 H2 w6 H6 σ4 e1 S6 O4 _ st6 ?_
                  cases u2 : mv e1 S6 with
                  | stuck => rw [u2] at p2; exact p2
                  | exc c q s => rw [u2] at p2; exact False.elim p2
                  | ok vd S7 =>
                    rw [u2] at p2
                    intro w7 H7 st7 l7 v7 r7
                    obtain ⟨q1, q2, q3⟩ := keepD st7.fr
                    have p3 : PostX g W w0 H0 w2 σ env O (((lcR mg mt (eKV mk mv) (wipeE env vs) (ds.drop (i + 1)) S7).bind fun ys S3 => R.ok (D.tup [kd, vd] :: ys) S3).bind (finDc acc)) (fun d _ w' H' => ∀ v, Rep g w' d v → Q v H') := p2
                    rw [hme] at p3
                    have p4 : PostX g W w0 H0 w2 σ env O ((lcR mg mt me' (wipeE env vs) (ds.drop (i + 1)) S7).bind (finDc (putD acc key vd))) (fun d _ w' H' => ∀ v, Rep g w' d v → Q v H') := by
                      cases q : lcR mg mt me' (wipeE env vs) (ds.drop (i + 1)) S7 with
                      | stuck => rw [q] at p3; exact p3
                      | exc c a s => rw [q] at p3; exact p3
                      | ok ys s =>
                        rw [q] at p3
                        have p3 : PostX g W w0 H0 w2 σ env O (finDc acc (D.tup [kd, vd] :: ys) s) _ := p3
                        show PostX g W w0 H0 w2 σ env O (finDc (putD acc key vd) ys s) _
                        have e : finDc acc (D.tup [kd, vd] :: ys) s = finDc (putD acc key vd) ys s := by
                          unfold finDc
                          rw [kvsOf, kk]
                        rw [← e]
                        exact p3
                    have hsz : acc.length ≤ 1000 := by
                      cases q : lcR mg mt me' (wipeE env vs) (ds.drop (i + 1)) S7 with
                      | stuck => rw [q] at p4; exact False.elim p4
                      | exc c a s => exact absurd q (lcR_noexc _ _ _ _ _)
                      | ok ys s =>
                        rw [q] at p4
                        have p4 : PostX g W w0 H0 w2 σ env O (finDc (putD acc key vd) ys s) _ := p4
                        unfold finDc at p4
                        cases hns : kvsOf ys (putD acc key vd) with
                        | none => rw [hns] at p4; exact False.elim p4
                        | some ks =>
                          rw [hns] at p4
                          simp only at p4
                          split at p4
                          · rename_i hz
                            exact Nat.le_trans (putD_le acc key vd) (Nat.le_trans (kvsOf_le hns) (of_decide_eq_true hz))
                          · exact False.elim p4
                    have hf7 := hf.mono st7.fr.le
                    refine ⟨us, key, rep_key r6 kk, q1, by rw [← hf7.len]; exact Nat.lt_of_le_of_lt hsz (by decide), ?_⟩
                    have f7 := (f2.trans st7.fr).upd_new (o := .dK (putK us key v7)) hD
                    have k7 := ok_updK (o := .dK (putK us key v7)) st7.ok q1 q2 q3
                    exact ⟨w7, S7, putD acc key vd, putK us key v7, f7, k7, upd_same, hf7.put_ r7, q2, q3, PostX.mono p4 st7.fr.le⟩
    · have ei : i = ds.length := by omega
      refine .inl ⟨by rw [ei]; exact hstop, ?_⟩
      have ed : ds.drop i = [] := by rw [ei]; exact List.drop_length
      rw [ed] at p2
      have p2 : PostX g W w0 H0 w2 σ env O (finDc acc [] S2) _ := p2
      unfold finDc kvsOf at p2
      simp only [] at p2
      split at p2
      · obtain ⟨st3, l3⟩ := any_freeze st2 e2 nt_dK o1 g2 r2 o4
        refine p2 _ H2 st3 l3 (.ref Z) ?_
        unfold Rep
        exact ⟨Z, us, rfl, .inl upd_same, hf.mono l3⟩
      · exact False.elim p2
theorem s_dc (hN : X.N.Nodup) (hi : SI X Y W tg iter wi mi) (ok : BlkOk X.N X.env.scope scope own) (hg : ∀ (s : Shared) (H : Hp) (C : Addr) (cl : List (Str × Addr)) (fp : List Addr), SG (X.blk s H scope (compEnvC scope cl C X.env) fp) Y is tg g mg)
    (ht : ∀ (s : Shared) (H : Hp) (C : Addr) (cl : List (Str × Addr)) (fp : List Addr), ST (X.blk s H scope (compEnvC scope cl C X.env) fp) Y W0 ifs tt mt)
    (hk : ∀ (s : Shared) (H : Hp) (C : Addr) (cl : List (Str × Addr)) (fp : List Addr), SE (X.blk s H scope (compEnvC scope cl C X.env) fp) Y W0 kx tk mk)
    (he : ∀ (s : Shared) (H : Hp) (C : Addr) (cl : List (Str × Addr)) (fp : List Addr), SE (X.blk s H scope (compEnvC scope cl C X.env) fp) Y W0 vx tv mv) (hv : ∀ i ∈ is, i ∈ own.map (·.2) := by decide) (hc : X.calm = true := by rfl) (hs : ∀ x, foldedSetIterable iter X.env x = pure x := by intro _; rfl) :
    SE X Y W (.DictComp kx vx [⟨tg, iter, ifs, 0⟩] scope pos) (tDc wi g tt tk tv (own.map (·.2))) (eDc mi mg mt mk mv (own.map (·.2))) :=
  ⟨pe_dc hc hN hi.pi ok (fun s H C cl fp => (hg s H C cl fp).pg) (fun s H C cl fp => (ht s H C cl fp).pts) (fun s H C cl fp => (hk s H C cl fp).pe) (fun s H C cl fp => (he s H C cl fp).pe) hs,
    sim_dc hi.sim (hg X.s_0 X.H_0 0 [] []).sim hv (ht X.s_0 X.H_0 0 [] []).sim (hk X.s_0 X.H_0 0 [] []).sim (he X.s_0 X.H_0 0 [] []).sim⟩
end
@[simp] theorem eDc_eq (mi : MI) (g : MG) (tt : MT) (mk mv : ME) (vs : List Nat) (env : Envr) (S : Sto) : eDc mi g tt mk mv vs env S = (mi env S).bind fun ds S1 => (lcR g tt (eKV mk mv) (wipeE env vs) ds S1).bind (finDc []) := rfl
@[simp] theorem eKV_eq (mk mv : ME) (env : Envr) (S : Sto) : eKV mk mv env S = (mk env S).bind fun k S1 => match keyD k with
  | some _ => (mv env S1).bind fun v S2 => .ok (.tup [k, v]) S2
  | none => .stuck := rfl
end Mm
namespace Fb
open PySem L2 Mm Fb Gf
theorem dT_go : ∀ (xs l : List Str), (l ++ xs).Nodup → xs.foldl addT l = l ++ xs
  | [], l, _ => by simp
  | x :: xs, l, h => by
    have nx : ¬ l.any (· == x) = true := fun z => by
      obtain ⟨y, hy, e⟩ := List.any_eq_true.mp z
      have e : y = x := by simpa using e
      subst e
      exact (List.nodup_append.mp h).2.2 y hy y List.mem_cons_self rfl
    have e : addT l x = l ++ [x] := by unfold addT; rw [if_neg nx]
    rw [List.foldl_cons, e]
    have h2 : ((l ++ [x]) ++ xs).Nodup := by simpa using h
    have := dT_go xs (l ++ [x]) h2
    simpa using this
theorem dT_nodup {xs : List Str} (h : xs.Nodup) : dT xs = xs := by
  have := dT_go xs [] (by simpa using h)
  simpa [dT] using this
theorem dT_go_lt : ∀ (xs l : List Str), l.Nodup → ¬ (l ++ xs).Nodup → (xs.foldl addT l).length < l.length + xs.length
  | [], l, h, n => absurd (by simpa using h) n
  | x :: xs, l, h, n => by
    rw [List.foldl_cons, List.length_cons]
    by_cases m : l.any (· == x) = true
    · have e : addT l x = l := by unfold addT; rw [if_pos m]
      rw [e]
      have := dT_go_len xs l
      omega
    · have e : addT l x = l ++ [x] := by unfold addT; rw [if_neg m]
      rw [e]
      have nx : x ∉ l := fun z => m (List.any_eq_true.mpr ⟨x, z, by simp⟩)
      have h2 : (l ++ [x]).Nodup := List.nodup_append.mpr ⟨h, by simp, fun a ha b hb => by
        have : b = x := by simpa using hb
        subst this
        exact fun z => nx (z ▸ ha)⟩
      have := dT_go_lt xs (l ++ [x]) h2 (by simpa using n)
      simp at this
      omega
theorem dT_lt {xs : List Str} (h : ¬ xs.Nodup) : (dT xs).length < xs.length := by
  have := dT_go_lt xs [] (by simp) (by simpa using h)
  simpa [dT] using this
end Fb
namespace Fb
open PySem L2 Mm Gf
structure E4 where
  name : Str
  A : List Nat
  v : Nat
  cs : List Int
theorem plain_l {n : Nat} {ds : List D} (hl : ds.length ≤ 1000) (h : ∀ d ∈ ds, plainN n d = true) : plainN (n + 1) (.lst ds) = true := by
  unfold plainN
  rw [Bool.and_eq_true, List.all_eq_true]
  exact ⟨decide_eq_true hl, h⟩
section
variable {S : Sto} {n m t s x y z : Nat} {T : List E4} {p q : Int}
theorem strs_plain {k : Nat} {xs : List Str} (h : ∀ x ∈ xs, PyData.strOk x = true) (hl : xs.length ≤ 1000) : plainN (k + 2) (.lst (xs.map D.str)) = true := by
  unfold plainN
  rw [Bool.and_eq_true, List.all_eq_true]
  refine ⟨decide_eq_true (by simpa using hl), fun d hd => ?_⟩
  obtain ⟨a, ha, rfl⟩ := List.mem_map.mp hd
  exact h a ha
end
end Fb
namespace Fb
open PySem L2 Mm Gf
theorem pyAll_strs : ∀ xs : List Str, pyAll (xs.map D.str) = some (xs.map PyData.str)
  | [] => by simp [pyAll]
  | x :: xs => by simp [pyAll, D.py, pyAll_strs xs]
theorem canLay_strs : ∀ xs : List Str, (∀ x ∈ xs, PyData.strOk x = true) → PyData.canLayAll0 (xs.map PyData.str) = true
  | [], _ => by simp [PyData.canLayAll0]
  | x :: xs, h => by simp [PyData.canLayAll0, PyData.canLay0, canLay_strs xs fun y hy => h y (List.mem_cons_of_mem _ hy), h x List.mem_cons_self]
theorem depth_strs : ∀ xs : List Str, PyData.depthAll (xs.map PyData.str) = 0
  | [] => by simp [PyData.depthAll]
  | x :: xs => by simp [PyData.depthAll, PyData.depth, depth_strs xs]
theorem fNe_strs (S : Sto) (xs : List Str) (h : ∀ x ∈ xs, PyData.strOk x = true) : fNe S (.lst (xs.map D.str)) (.lst []) = some (.bl (!decide (xs = []))) := by
  have s1 : SeqAt.shaped (.list (xs.map PyData.str)) = true := by simp [SeqAt.shaped, PyData.canLay0, PyData.depth, canLay_strs xs h, depth_strs]
  have s2 : SeqAt.shaped (.list []) = true := by simp [SeqAt.shaped, PyData.canLay0, PyData.depth, PyData.canLayAll0, PyData.depthAll]
  have p0 : pyAll [] = some [] := by simp [pyAll]
  cases xs with
  | nil => simp [fNe, D.py, p0, s2, PyData.eqv, PyData.eqvAll]
  | cons x xs =>
    have pa := pyAll_strs (x :: xs)
    unfold fNe
    simp only [D.py, pa, p0, Option.map_some, s1, s2, Bool.and_self, if_true]
    simp [PyData.eqv, PyData.eqvAll]
end Fb
namespace Fb
open PySem L2 Mm Gf
theorem lmixed_ok (S : Sto) {w : Str} (h : PyData.strOk w = true) (a b : Int) : m__law_mixed [.str w, .int a, .int b] S = .ok (.val (.int (mixI w a b))) S := mixed_ok S h a b
end Fb
namespace Fb
open PySem L2 Mm Gf
def hL (k : Nat) (A : List Nat) (cs : List Int) : List Int := (List.range (2 ^ k)).map fun y => cs.getD (app A y) 0
end Fb
namespace Fb
open PySem L2 Mm Gf
section
variable {S : Sto} {n b l k : Nat} {ts ss : List (Key × D)} {p q : Int} {T : List E4} {f : E4 → D}
def frD (x : Str) (o : Option Str) : Str := o.getD x
def otD (o : Option Str) : D := match o with
  | none => .non
  | some s => .str s
end
end Fb
namespace Fb
open PySem L2 Mm Gf
inductive Dd where
  | lay (nm : Str) (qs cs : List Int)
  | lead (nm : Str) (qs : List Int)
  | beg (nm : Str) (qs : List Int)
  | turn (nm : Str) (qs : List Int)
  | total (nm : Str) (qs : List Int)
  | stash (nm : Str) (qs : List Int)
  | fetch (nm : Str) (qs : List Int) (o : Option Str)
  | merge (w a c : Str)
  | drop (nm : Str)
  | beat (nm : Str)
  | off (nm : Str)
  | forget (nm : Str)
def sqD (l : Bool) (qs : List Int) : D := if l = true then .lst (qs.map D.int) else .tup (qs.map D.int)
def Dd.w : Dd → Str
  | .lay .. => "lay" | .lead .. => "lead" | .beg .. => "begin" | .turn .. => "turn" | .total .. => "total" | .stash .. => "stash" | .fetch .. => "fetch" | .merge .. => "merge" | .drop _ => "drop" | .beat _ => "beat" | .off _ => "off" | .forget _ => "forget"
def Dd.rest (l : Bool) : Dd → List D
  | .lay nm qs cs => [.str nm, sqD l qs, sqD l cs]
  | .lead nm qs | .beg nm qs | .turn nm qs | .total nm qs | .stash nm qs => [.str nm, sqD l qs]
  | .fetch nm qs o => [.str nm, sqD l qs, otD o]
  | .merge w a c => [.str w, .str a, .str c]
  | .drop nm | .beat nm | .off nm | .forget nm => [.str nm]
def GoodNm (a : Str) : Prop := PyData.strOk a = true ∧ a.cps.size ≤ 100000
def Dd.Ok : Dd → Prop
  | .lay nm qs cs => GoodNm nm ∧ qs.length ≤ 1000 ∧ cs.length ≤ 1000
  | .lead nm qs | .beg nm qs | .turn nm qs | .total nm qs | .stash nm qs => GoodNm nm ∧ qs.length ≤ 1000
  | .fetch nm qs o => GoodNm nm ∧ GoodNm (frD nm o) ∧ qs.length ≤ 1000
  | .merge w a c => GoodNm w ∧ GoodNm a ∧ GoodNm c
  | .drop nm | .beat nm | .off nm | .forget nm => GoodNm nm
end Fb
namespace Fb
open PySem L2 Mm Gf
theorem strsOf_at : ∀ xs : List Str, strsOf (xs.map D.str) = some xs
  | [] => by simp [strsOf]
  | x :: xs => by simp [strsOf, strsOf_at xs]
theorem fInX_strs (S : Sto) (neg : Bool) (y : Str) (xs : List Str) : fInX neg S (.str y) (.lst (xs.map D.str)) = some (.bl (if neg then !decide (y ∈ xs) else decide (y ∈ xs))) := by
  show (strsOf (xs.map D.str)).map _ = _
  rw [strsOf_at]
  rfl
def Drawn (f : MFn) (as : List D) (R : Sto) (b : Cell) (W : Dd → Prop) : Prop := ∃ b' dd, f as (b :: R) = .ok (.val (.tup (.str dd.w :: dd.rest false))) (b' :: R) ∧ Bx b' ∧ dd.Ok ∧ W dd
end Fb
namespace Fb
open PySem L2 Mm Fb Gf
def dS (p : Str × Nat) : D := .tup [.str p.1, nd p.2]
abbrev nms (l : List (Str × Nat)) : List Str := l.map (·.1)
theorem flcG {β : Type} {mi : MI} {te : ME} {g : MG} {vs : List Nat} {env : Envr} {S : Sto} (ψ φ : β → D) (xs : List β) (h1 : mi env S = .ok (xs.map ψ) S) (hz : xs.length ≤ 100000) (h2 : ∀ y ∈ xs, ∃ e1, g (ψ y) (wipeE env vs) = some e1 ∧ te e1 S = .ok (φ y) S) : fLc mi g cYes te vs env S = .ok (.lst (xs.map φ)) S := by
  have lc := lc_all (g := g) (te := te) (env := wipeE env vs) (S := S) ψ φ xs h2
  rw [fLc_eq, h1, bind_ok', lc, bind_ok', fin_eq, if_pos (szB_of (by simpa using hz))]
def sideB (l : List (Str × Nat)) : Bool := (nms l).all nameB && decide (nms l).Nodup && !decide (("box" : Str) ∈ nms l) && !decide (("lane" : Str) ∈ nms l) && l.all (fun p => decide (p.2 ≤ 12)) && decide ((l.map (·.2)).sum ≤ 12)
theorem strsD_map : ∀ xs : List Str, strsD (xs.map D.str) = some xs
  | [] => rfl
  | x :: xs => by
    show (strsD (xs.map D.str)).map (x :: ·) = _
    rw [strsD_map xs]
    rfl
theorem lenTx_map (S : Sto) {xs : List Str} (h : xs.length ≤ 1000) : lenTx (xs.map D.str) S = .ok (.int (dT xs).length) S := by
  unfold lenTx
  rw [strsD_map]
  exact if_pos h
theorem sum_cast : ∀ l : List Nat, (l.map (fun n : Nat => (n : Int))).sum = ((l.sum : Nat) : Int)
  | [] => rfl
  | x :: l => by simp [sum_cast l]
def dI (p : Str × Int) : D := .tup [.str p.1, .int p.2]
abbrev nmI (l : List (Str × Int)) : List Str := l.map (·.1)
def cnt12 (i : Int) : Bool := decide (0 ≤ i) && decide (i ≤ 12)
def sideI (l : List (Str × Int)) : Bool := (nmI l).all nameB && decide (nmI l).Nodup && !decide (("box" : Str) ∈ nmI l) && !decide (("lane" : Str) ∈ nmI l) && l.all (fun p => cnt12 p.2) && decide ((l.map (·.2)).sum ≤ 12)
theorem need_sidesI (S : Sto) (l : List (Str × Int)) (hz : l.length ≤ 1000) (hs : ∀ p ∈ l, p.1.cps.size ≤ 100000) : m_need_sides [.lst (l.map dI)] S = if sideI l = true then .ok (.val .non) S else .exc "BadSides" none S := by
  have c1 := flcG (mi := itL (eV 0)) (te := eV 2) (g := gT (gNC (gN 2) (gNC (gN 3) gN0))) (vs := [2, 3]) (env := [.v (.lst (l.map dI)), .no, .no, .no]) (S := S) dI (fun p => .str p.1) l (by simp) (by omega) fun y hy => ⟨[.v (.lst (l.map dI)), .no, .v (.str y.1), .v (.int y.2)], rfl, rfl⟩
  have n1 : l.map (fun p => D.str p.1) = (nmI l).map D.str := by simp [nmI, Function.comp_def]
  rw [n1] at c1
  have c2 := flcG (mi := itL (eV 1)) (te := eCall m_is_name [] (aCons (eV 2) aNil)) (g := gN 2) (vs := [2]) (env := [.v (.lst (l.map dI)), .v (.lst ((nmI l).map D.str)), .no, .no]) (S := S) D.str (fun x => .bl (nameB x)) (nmI l) (by simp) (by simp; omega) fun y hy => ⟨[.v (.lst (l.map dI)), .v (.lst ((nmI l).map D.str)), .v (.str y), .no], rfl, by
    obtain ⟨p, hp, rfl⟩ := List.mem_map.mp hy
    have := is_name_ok S p.1 (hs p hp)
    simp [this]⟩
  have c3 := flcG (mi := itL (eV 0)) (te := eOr (eOp iLt (eV 3) (eC (.int 0))) (eOp iGt (eV 3) (eC (.int 12)))) (g := gT (gNC (gN 2) (gNC (gN 3) gN0))) (vs := [2, 3]) (env := [.v (.lst (l.map dI)), .v (.lst ((nmI l).map D.str)), .no, .no]) (S := S) dI (fun p => .bl (!cnt12 p.2)) l (by simp) (by omega) fun y hy => ⟨[.v (.lst (l.map dI)), .v (.lst ((nmI l).map D.str)), .v (.str y.1), .v (.int y.2)], rfl, by
    unfold cnt12
    by_cases h0 : y.2 < 0
    · have : ¬ (0 : Int) ≤ y.2 := by omega
      simp [h0, this]
    · have g0 : (0 : Int) ≤ y.2 := by omega
      by_cases h : y.2 ≤ 12
      · have : ¬ (12 : Int) < y.2 := by omega
        simp [h, this, h0, g0]
      · have : (12 : Int) < y.2 := by omega
        simp [h, this, h0, g0]⟩
  have c4 := flcG (mi := itL (eV 0)) (te := eV 3) (g := gT (gNC (gN 2) (gNC (gN 3) gN0))) (vs := [2, 3]) (env := [.v (.lst (l.map dI)), .v (.lst ((nmI l).map D.str)), .no, .no]) (S := S) dI (fun p => .int p.2) l (by simp) (by omega) fun y hy => ⟨[.v (.lst (l.map dI)), .v (.lst ((nmI l).map D.str)), .v (.str y.1), .v (.int y.2)], rfl, rfl⟩
  have f2 : fAll S [.lst ((nmI l).map fun x => .bl (nameB x))] = some (.bl ((nmI l).all nameB)) := by
    have := fAll_eq S ((nmI l).map nameB)
    rw [List.map_map] at this
    refine Eq.trans this ?_
    simp [List.all_map, Function.comp_def]
  have f3 : fAny S [.lst (l.map fun p => .bl (!cnt12 p.2))] = some (.bl (!l.all fun p => cnt12 p.2)) := by
    have := fAny_eq S (l.map fun p => !cnt12 p.2)
    rw [List.map_map] at this
    refine Eq.trans this ?_
    rw [List.any_map, List.all_eq_not_any_not, Bool.not_not]
    rfl
  have f4 : fSum S [.lst (l.map fun p => .int p.2)] = some (.int (l.map (·.2)).sum) := by
    have := fSum_l S (l.map (·.2)) (by simp; omega)
    rw [List.map_map] at this
    exact this
  have tx := lenTx_map S (xs := nmI l) (by simpa using hz)
  have b1 := fInX_strs S false "box" (nmI l)
  have b2 := fInX_strs S false "lane" (nmI l)
  unfold m_need_sides sideI
  generalize nmI l = N at *
  generalize hA : N.all nameB = A at *
  generalize hB : (l.all fun p => cnt12 p.2) = B at *
  generalize hC : (l.map (·.2)).sum = C at *
  cases A with
  | false => simp [-fLc_eq, -List.map_map, c1, c2, f2]
  | true =>
    by_cases h2 : N.Nodup
    · have q1 : ¬ (((dT N).length : Int) < (N.length : Int)) := by rw [dT_nodup h2]; omega
      by_cases h3 : ("box" : Str) ∈ N
      · simp [-fLc_eq, -List.map_map, c1, c2, f2, tx, q1, b1, h2, h3]
      · by_cases h4 : ("lane" : Str) ∈ N
        · simp [-fLc_eq, -List.map_map, c1, c2, f2, tx, q1, b1, b2, h2, h3, h4]
        · cases B with
          | false => simp [-fLc_eq, -List.map_map, c1, c2, c3, f2, f3, tx, q1, b1, b2, h2, h3, h4]
          | true =>
            by_cases h6 : C ≤ 12
            · have q6 : ¬ (12 : Int) < C := by omega
              simp [-fLc_eq, -List.map_map, c1, c2, c3, c4, f2, f3, f4, tx, q1, b1, b2, h2, h3, h4, h6, q6]
            · have q6 : (12 : Int) < C := by omega
              simp [-fLc_eq, -List.map_map, c1, c2, c3, c4, f2, f3, f4, tx, q1, b1, b2, h2, h3, h4, h6, q6]
    · have q1 : (((dT N).length : Int) < (N.length : Int)) := by
        have := dT_lt h2
        omega
      simp [-fLc_eq, -List.map_map, c1, c2, f2, tx, q1, h2]
theorem dS_dI (l : List (Str × Nat)) : l.map dS = (l.map fun p => (p.1, (p.2 : Int))).map dI := by
  rw [List.map_map]
  rfl
theorem sideI_nat (l : List (Str × Nat)) : sideI (l.map fun p => (p.1, (p.2 : Int))) = sideB l := by
  have e1 : nmI (l.map fun p => (p.1, (p.2 : Int))) = nms l := by simp [nmI, nms, Function.comp_def]
  have e2 : ((l.map fun p => (p.1, (p.2 : Int))).map (·.2)).sum = ((l.map (·.2)).sum : Nat) := by
    rw [List.map_map, ← sum_cast, List.map_map]
    rfl
  have e3 : ((l.map fun p => (p.1, (p.2 : Int))).all fun p => cnt12 p.2) = l.all fun p => decide (p.2 ≤ 12) := by
    rw [List.all_map]
    congr 1
    funext p
    have : decide ((0 : Int) ≤ (p.2 : Int)) = true := decide_eq_true (by omega)
    unfold cnt12
    simp only [Function.comp, this, Bool.true_and]
    exact decide_eq_decide.mpr (by omega)
  unfold sideI sideB
  rw [e1, e2, e3]
  congr 1
  exact decide_eq_decide.mpr (by omega)
theorem need_sides (S : Sto) (l : List (Str × Nat)) (hz : l.length ≤ 1000) (hs : ∀ p ∈ l, p.1.cps.size ≤ 100000) : m_need_sides [.lst (l.map dS)] S = if sideB l = true then .ok (.val .non) S else .exc "BadSides" none S := by
  rw [dS_dI, need_sidesI S _ (by simpa using hz) (fun p hp => by
    obtain ⟨q, hq, rfl⟩ := List.mem_map.mp hp
    exact hs q hq), sideI_nat]
end Fb
namespace Fb
open PySem L2 Mm Fb Gf
def wd (x : Str) (k : Nat) : Str := x ++ Str.ofString (k : Int).repr
end Fb
namespace Fb
open PySem L2 Mm Gf
def selW (ws : List Str) (r : Nat) : List Str := (ws.zipIdx.filter fun p => r.testBit p.2).map (·.1)
def itm (w : Str) (ws : List Str) (r : Nat) : Str := w ++ " = " ++ Txt.join " + " (selW ws r)
def parts (bw ws : List Str) (rs : List Nat) : List Str := (bw.zip rs).filterMap fun p => if p.2 = 0 then none else some (itm p.1 ws p.2)
end Fb
namespace Fb
open PySem L2 Mm Gf
theorem permF {α : Type} {φ : α → D} (f : D → α) (hf : ∀ a, f (φ a) = a) {xs : List α} {ys : List D} (p : ys.Perm (xs.map φ)) : ∃ zs : List α, ys = zs.map φ ∧ zs.Perm xs := by
  refine ⟨ys.map f, ?_, ?_⟩
  · rw [List.map_map]
    have h : ∀ d ∈ ys, (φ ∘ f) d = d := fun d hd => by
      obtain ⟨i, _, rfl⟩ := List.mem_map.mp (p.mem_iff.mp hd)
      show φ (f (φ i)) = φ i
      rw [hf]
    exact (List.map_congr_left h |>.trans (List.map_id ys)).symm
  · have := p.map f
    rw [List.map_map] at this
    have e : f ∘ φ = id := funext hf
    rwa [e, List.map_id] at this
def unS : D → Str
  | .str x => x
  | _ => Str.empty
theorem zip_nms : ∀ (N : List Str) (cs : List Nat), cs.length ≤ N.length → nms (N.zip cs) = N.take cs.length
  | N, [], _ => by simp [nms]
  | [], _ :: _, h => by simp at h
  | n :: N, c :: cs, h => by
    have ih := zip_nms N cs (by simpa using h)
    simp only [List.zip_cons_cons, nms, List.map_cons, List.length_cons, List.take_succ_cons]
    rw [← ih]
theorem zip_snd : ∀ (N : List Str) (cs : List Nat), cs.length ≤ N.length → (N.zip cs).map (·.2) = cs
  | N, [], _ => by simp
  | [], _ :: _, h => by simp at h
  | n :: N, c :: cs, h => by
    have ih := zip_snd N cs (by simpa using h)
    simp only [List.zip_cons_cons, List.map_cons]
    rw [ih]
theorem zip_snoc {α β : Type} : ∀ {N : List α} {cs : List β} {c : β} (h : cs.length < N.length), N.zip (cs ++ [c]) = N.zip cs ++ [(N[cs.length], c)]
  | [], _, _, h => by simp at h
  | n :: N, [], c, h => by simp
  | n :: N, d :: cs, c, h => by
    have := zip_snoc (N := N) (cs := cs) (c := c) (by simpa using h)
    simp [this]
end Fb
namespace Fb
open PySem L2 Mm Gf
theorem seq_of {a b : MS} {e e1 : Envr} {S S1 : Sto} (h : a e S = .nx e1 S1) : sSeq a b e S = b e1 S1 := by
  rw [sSeq_eq, h]
end Fb
namespace Fb
open PySem L2 Mm Gf
def al (c : Nat) : Bool := Txt.isalnum ⟨#[c]⟩
theorem dw_le (p : Nat → Bool) : ∀ cs : List Nat, (cs.dropWhile p).length ≤ cs.length
  | [] => Nat.le_refl _
  | c :: cs => by
    rw [List.dropWhile_cons]
    split
    · have := dw_le p cs
      simp only [List.length_cons]
      omega
    · exact Nat.le_refl _
def toks : List Nat → Nat → List (Str × Nat)
  | [], _ => []
  | c :: cs, p => if al c = true then (⟨(c :: cs.takeWhile al).toArray⟩, p) :: toks (cs.dropWhile al) (p + 1 + (cs.takeWhile al).length) else if c = 32 then toks cs (p + 1) else (⟨#[c]⟩, p) :: toks cs (p + 1)
termination_by cs => cs.length
decreasing_by
  · have := dw_le al cs
    simp only [List.length_cons]
    omega
  · simp
  · simp
end Fb
namespace Fb
open PySem L2 Mm Gf
abbrev Tok := Str × Nat
end Fb
namespace Fb
open PySem L2 Mm Gf
def lk (ks : List (Str × Nat)) (w : Str) : Nat := ((ks.find? fun p => decide (p.1 = w)).map (·.2)).getD 0
end Fb
namespace Fb
open PySem L2 Mm Gf
theorem forL_nx {g : MG} {bd : MS} {d : D} {ds : List D} {env e1 e2 : Envr} {S S2 : Sto} (h1 : g d env = some e1) (h2 : bd e1 S = .nx e2 S2) : forL g bd (d :: ds) env S = forL g bd ds e2 S2 := by
  rw [forL, h1]
  simp only [h2]
end Fb
namespace Mm
open PySem L2
section
variable {X : Cx} {Y : Gam} {W : WX} {e : Expr} {te : TE} {me : ME} {pos : Pos}
def lstOf : Sto → D → Option (List D)
  | _, .lst ds => some ds
  | S, .ref n => (match S[n]? with
    | some (.lst ds) => some ds
    | _ => none)
  | _, _ => none
theorem lstOf_rep {g : Gam} {w : Wd} {H : Hp} {S : Sto} {d : D} {v : V} {ds : List D} (k : Ok g w H S) (r : Rep g w d v) (h : lstOf S d = some ds) : ∃ a vs, v = .ref a ∧ H a = some (.lst vs) ∧ RepL g w ds vs := by
  unfold lstOf at h
  split at h
  · cases h
    obtain ⟨a, us, x1, x2, x3⟩ := rep_lst r
    exact ⟨a, us, x1, k.ex _ _ x2, x3⟩
  · split at h
    · rename_i hS
      cases h
      obtain ⟨a, us, x1, x2, x3, x4⟩ := cell_lst k r hS
      exact ⟨a, us, x1, x3, x4⟩
    · cases h
  · cases h
end
@[simp] theorem lstOf_lst (S : Sto) (ds : List D) : lstOf S (.lst ds) = some ds := rfl
end Mm
namespace Fb
open PySem L2 Mm Gf
abbrev Fl := Nat × Option Nat
def sec (o : Option Nat) (c : Nat) : Bool := match o with
  | none => false
  | some j => c.testBit j
def fl (f : Fl) (c : Nat) : Bool := c.testBit f.1 ^^ sec f.2 c
end Fb
namespace Fb
open PySem L2 Mm Gf
def hit (st : List Nat) (one : Nat) : Bool := decide (2 ^ (st.length - 1) ≤ one) && decide (one < 2 * 2 ^ (st.length - 1)) && decide (app st one = 0)
def meet (st : List Nat) : Nat → List (List Nat) → Option (Nat × Nat)
  | _, [] => none
  | k, s :: ss => match s.find? (hit st) with
    | some one => some (k, one)
    | none => meet st (k + 1) ss
end Fb
namespace Fb
open PySem L2 Mm Gf
def met (sps : List (List Nat)) (st : List Nat) : Option (Nat × Nat) := if 0 < st.length then meet st 0 sps else none
end Fb
namespace Fb
open PySem L2 Mm Gf
def tree (w : Nat) : Nat → Nat
  | 0 => 1
  | n + 1 => 1 + w * tree w n
end Fb
namespace Mm
open PySem PySem.Spec PyProof.Rows L2
theorem walks_tail2 {prog : Program} {w : World} {A : Around} (hh : A.handled = none) (I ax : Addr) (hne : ax ≠ I) (items : Array Value) :
    Walks prog w A I [I, ax] [I] (items.size - 2) (fun i v => items[i + 2]? = some v) (fun i h => IsTupIter h I ax (i + 2) ∧ IsTup h ax items ∧ 1 < items.size) where
  sub := fun b hb => by simp at hb; simp [hb]
  frame := fun i h h' st hk => by
    obtain ⟨⟨o, ho, r⟩, ⟨q, hq, r2⟩, z⟩ := st
    exact ⟨⟨o, hk I (by simp) o ho, r⟩, ⟨q, hk ax (by simp) q hq, r2⟩, z⟩
  item := fun i s Q E hi st hQ => by
    have h1 : i + 2 < items.size := by omega
    refine next_tuple_item st.1 st.2.1 (x := items[i + 2]) (by simp [h1]) fun h' hit' hs' => ?_
    exact hQ _ h' s.toks (by simp [h1]) ⟨hit', st.2.1.extBut hs'.extBut hne, st.2.2⟩ fun b o hb e => hs'.extBut b o (fun h => hb (by simp [h])) e
  done := fun s Q E st hQ => by
    have h1 : items.size - 2 + 2 = items.size := by have := st.2.2; omega
    refine next_tuple_end hh st.1 st.2.1 (by rw [h1]; simp) fun h' he => ?_
    exact hQ h' s.toks fun b o hb e => he b o (fun h => hb (by simp [h])) e
  self := fun i s Q E st h => wpAny_pyIter_tupleiter st.1 h
theorem unpack_star2 {prog : Program} {w : World} {A : Around} {s : Shared} {E : Value → Shared → Prop} {t : Addr} {x y : Value} {xs : List Value} {Q : List Value → Shared → Prop} (hh : A.handled = none) (ht : IsTup s.heap t (x :: y :: xs).toArray) (hz : (x :: y :: xs).length ≤ sizeLine)
    (hQ : ∀ (h' : Heap) (tk : Nat), (∀ b o, s.heap.get? b = some o → h'.get? b = some o) → Q [x, y, .ref h'.objs.size] { s with heap := h'.push { cls := .type "list", data := .seq xs.toArray }, toks := tk }) : wpAny (model prog w) A (unpackItems (.ref t) 3 (some 2)) Q E s := by
  have hlt : t ≠ s.heap.objs.size := by obtain ⟨o, ho, _⟩ := ht; exact Nat.ne_of_lt (Heap.lt_size ho)
  unfold unpackItems
  refine wpAny_bind ?_
  unfold notIterableAtAll
  refine wpAny_bind (wpAny_specialOf ht.typeIs slot_tuple_iter.lookup ?_)
  refine wpAny_pure ?_
  simp only [Bool.false_eq_true, if_false]
  refine wpAny_bind (wpAny_holding (iter_tuple ht ?_))
  refine wpAny_bind (wpAny_holding (draw_tuple hlt 2 0 _ _ ⟨_, Heap.get?_push_size _ rfl, rfl, rfl⟩ (ht.push _) (by simp) fun h₁ hit₁ hs₁ => ?_))
  have e0 : List.take 2 (List.drop 0 (x :: y :: xs).toArray.toList) = [x, y] := by simp
  rw [e0]
  rw [if_neg (by simp)]
  have ht₁ : IsTup h₁ t (x :: y :: xs).toArray := (ht.push _).extBut hs₁.extBut hlt
  have hl1 : ∀ b ∈ [s.heap.objs.size, t], b < h₁.objs.size := fun b hb => by
    rcases List.mem_cons.mp hb with e | e
    · obtain ⟨o, ho, _⟩ := hit₁
      rw [e]
      exact Heap.lt_size ho
    · obtain ⟨o, ho, _⟩ := ht₁
      rw [List.mem_singleton.mp e]
      exact Heap.lt_size ho
  refine wpAny_bind (wpAny_holding (wpAny_collect_iter (T := "tuple_iterator") (.inr (.inr (.inr rfl))) (walks_tail2 (A := A.in1) hh s.heap.objs.size t hlt (x :: y :: xs).toArray).toS (fun _ _ st => st.1.typeIs) ⟨hit₁, ht₁, by simp⟩ hl1 (by simp) (fun s' acc hm ha => ?_) (by simp at hz ⊢; omega)))
  have ea : acc.toList = xs := by
    refine List.ext_getElem? fun j => ?_
    obtain ⟨a1, a2⟩ := ha
    have a1 : acc.size = xs.length := by simpa using a1
    rw [Array.getElem?_toList]
    cases e : acc[j]? with
    | some v =>
      have := a2 j v e
      simpa using this.symm
    | none =>
      have : acc.size ≤ j := by simpa using e
      rw [a1] at this
      simp [this]
  rw [ea]
  rw [if_neg (by simp)]
  have e2 : xs.take (xs.length - (3 - 2 - 1)) = xs := by simp
  have e3 : xs.drop (xs.length - (3 - 2 - 1)) = [] := by simp
  rw [e2, e3]
  refine wpAny_bind (wpAny_newObj_type ?_ (Nat.le_of_succ_le (Nat.le_of_succ_le hz)))
  have es : s' = { s with heap := s'.heap, toks := s'.toks } := by
    obtain ⟨q1, q2, q3, q4, q5⟩ := hm
    cases s'
    cases s
    simp_all
  rw [es]
  refine wpAny_pure (hQ s'.heap s'.toks fun b o e => ?_)
  · have nb : b ≠ s.heap.objs.size := Nat.ne_of_lt (Heap.lt_size e)
    exact hm.heap b o (by simpa using nb) (hs₁.extBut b o nb (Heap.get?_push_of_some _ e))
def gStar2 (K : PySem.W.Frag) (t1 t2 t3 : TG) : TG := fun v σ H Q => ∃ a x y xs, v = .ref a ∧ SqT K H a (x :: y :: xs) ∧ (x :: y :: xs).length ≤ sizeLine ∧ ∀ p, H p = none → t1 x σ (upd H p (.lst xs)) fun σ1 H1 => t2 y σ1 H1 fun σ2 H2 => t3 (.ref p) σ2 H2 Q
section
variable {X : Cx} {Y : Gam} {W : WX} {e e1 e2 e3 : Expr} {te : TE} {me : ME} {pos sp tp : Pos} {t1 t2 t3 : TG} {kk : Nat}
theorem pg_star2 (hc : X.calm = true) (h1 : PG X e1 t1) (h2 : PG X e2 t2) (h3 : PG X e3 t3) (hn : (assignEach [e1, e2, .Starred e3 sp] X.env).length = 3 := by rfl) (hst : (assignEach [e1, e2, .Starred e3 sp] X.env).findIdx? (·.1) = some 2 := by rfl)
    (hs : (assignEach [e1, e2, .Starred e3 sp] X.env).map (·.2) = [assign e1 X.env, assign e2 X.env, assign e3 X.env] := by rfl) : PG X (.Tuple [e1, e2, .Starred e3 sp] kk tp) (gStar2 X.K t1 t2 t3) := by
  refine ⟨fun pins s σ H v u Q I r hw => ?_⟩
  obtain ⟨a, x, x2, xs, ea, hq, hl, hw⟩ := hw
  subst ea
  cases r
  obtain ⟨its, rv, ht, hz⟩ := I.tuple hq
  cases rv with
  | @cons _ y _ ys rx rr =>
  cases rr with
  | @cons _ y2 _ ys rx2 rr =>
  rw [PyProof.Rows.assign_Tuple]
  refine wpAny_bind (wpAny_standAt ?_)
  unfold unpack
  rw [hn, hst]
  refine wpAny_bind (wpAny_holding (unpack_star2 (I.ok.hd hc) ht (by have := rr.length; simp at hl ⊢; omega) fun h' tk hx => ?_))
  have I1 : Inv X pins σ H { s with heap := h', toks := tk } := I.kept (t' := tk) hx
  have nF : H h'.objs.size = none := I1.hok.fresh (Nat.le_refl _)
  have I2 := I1.laid (a := h'.objs.size) (o := .lst xs) (h' := h'.push { cls := .type "list", data := .seq ys.toArray }) (t' := tk) (fun b o e => Heap.get?_push_of_some _ e) (Nat.le_refl _) ⟨by simp at hl ⊢; omega, ys, 0, rr, Heap.get?_push_size _ rfl⟩
  rw [hs]
  refine assignInOrder_cons (thn (h1.run pins _ σ _ _ _ _ I2 rx (hw _ nF)) fun _ s1 ⟨σ1, H1, J1, q1⟩ => ?_)
  refine assignInOrder_cons (thn (h2.run pins s1 σ1 H1 _ _ _ J1 rx2 q1) fun _ s2 ⟨σ2, H2, J2, q2⟩ => ?_)
  refine assignInOrder_cons (thn (h3.run pins s2 σ2 H2 (.ref h'.objs.size) _ _ J2 rfl q2) fun _ s3 ⟨σ3, H3, J3, q3⟩ => ?_)
  exact assignInOrder_nil ⟨σ3, H3, J3, q3⟩
def sStar2 (i j k : Nat) (me : ME) : MS := fun env S => (me env S).out env fun d S1 => match d with
  | .tup (a :: b :: r) => if szB (r.length + 2) then .nx (((env.set i (.v a)).set j (.v b)).set k (.v (.lst r))) S1 else .stuck
  | _ => .stuck
theorem t_star2 (i j k : Nat) {x y z : Str} {px py pz : Pos} (he : SE X Y W e te me) (hN : X.N.Nodup) (hi : X.N[i]? = some x := by rfl) (hj : X.N[j]? = some y := by rfl) (hk : X.N[k]? = some z := by rfl) (hx : Loc X.env.scope x := by first | exact Or.inl rfl | exact Or.inr rfl) (hy : Loc X.env.scope y := by first | exact Or.inl rfl | exact Or.inr rfl) (hzl : Loc X.env.scope z := by first | exact Or.inl rfl | exact Or.inr rfl)
    (hf : X.fn x = true ∨ X.env.scope.names.lookup x = some .local := by first | exact .inl rfl | exact .inr rfl | assumption) (hg : X.fn y = true ∨ X.env.scope.names.lookup y = some .local := by first | exact .inl rfl | exact .inr rfl | assumption)
    (hm : X.fn z = true ∨ X.env.scope.names.lookup z = some .local := by first | exact .inl rfl | exact .inr rfl | assumption)
    (hK : X.K = Y.K := by rfl) (hc : X.calm = true := by rfl) (hn : (assignEach [.Name x px, .Name y py, .Starred (.Name z pz) sp] X.env).length = 3 := by rfl) (hst : (assignEach [.Name x px, .Name y py, .Starred (.Name z pz) sp] X.env).findIdx? (·.1) = some 2 := by rfl)
    (hs : (assignEach [.Name x px, .Name y py, .Starred (.Name z pz) sp] X.env).map (·.2) = [assign (.Name x px) X.env, assign (.Name y py) X.env, assign (.Name z pz) X.env] := by rfl)
    (hs1 : swapsWithSole [.Tuple [.Name x px, .Name y py, .Starred (.Name z pz) sp] kk tp] e pos.line X.env = pure false := by rfl) (hw : swappedStores [.Tuple [.Name x px, .Name y py, .Starred (.Name z pz) sp] kk tp] e X.env = pure none := by rfl) :
    SS X Y W (.Assign [.Tuple [.Name x px, .Name y py, .Starred (.Name z pz) sp] kk tp] e pos) (tAsg te (gStar2 X.K (gName i) (gName j) (gName k))) (sStar2 i j k me) :=
  ⟨ps_asg he.pe (pg_star2 hc (pg_name hN hi hx hf) (pg_name hN hj hy hg) (pg_name hN hk hzl hm) hn hst hs) hs1 hw, fun w0 H0 w H σ env S O Dn st p => by
  refine he.sim w0 H0 w H σ env S O _ st ((PostS.out p).imp fun d S1 w1 H1 st1 l1 p1 v r => ?_)
  split at p1
  · rename_i a b r'
    split at p1
    · rename_i hz
      obtain ⟨T, us, e1, e2, e3⟩ := rep_tup r
      unfold RepL at e3
      obtain ⟨va, ur, e4, ra, e5⟩ := e3
      subst e4
      unfold RepL at e5
      obtain ⟨vb, ur, e4, rb, e5⟩ := e5
      subst e4
      refine ⟨T, va, vb, ur, e1, by rw [hK]; exact same_sqT st1.ok.ex e2, by have := szB_le hz; rw [List.length_cons, List.length_cons, ← e5.len]; exact this, fun q hq => ?_⟩
      have G := Grow.one (w := w1) (o := .lst ur) hq nt_lst
      have st2 := st1.grow G
      have l2 := G.le st1.ok
      exact p1 _ _ _ _ (((st2.set_v i (ra.mono l2)).set_v j (rb.mono l2)).set_v k (rep_lst_new st1.ok hq e5)) l2
    · exact False.elim p1
  · exact False.elim p1⟩
end
end Mm
namespace Fb
open PySem L2 Mm
noncomputable def m__law_frame : MFn := mFn 6 (sSeq (sAsg (eCall m__law_shuffled [] (aCons (eV 0) (aCons (mFrz (fLst (aCons (eC (.str "row")) (aCons (eC (.str "col")) (aCons (eC (.str "a")) (aCons (eC (.str "rows")) (aCons (eC (.str "colu")) aNil))))))) aNil))) (gN 1))
    (sSeq (sAsg (mFrz (fLc (itR1 (aCons (eOp dAdd (eC (.int 1)) (eCall m__law_take [] (aCons (eV 0) (aCons (eC (.int 3)) aNil)))) aNil)) (gN 3) cYes (eTup (aCons (eOp fIx (eV 1) (eV 3)) (aCons (eCall m__law_take [] (aCons (eV 0) (aCons (eC (.int 3)) aNil))) aNil))) [3])) (gN 2))
    (sRet (eIf (cB (eOp iLt (eCB fSum (aCons (mFrz (fLc (itL (eV 2)) (gT (gNC (gN 4) (gNC (gN 5) gN0))) cYes (eV 5) [4, 5])) aNil)) (eC (.int 6)))) (eV 2) (mFrz (fSl (eV 2) oNone (oSome (eC (.int 2)))))))))
noncomputable def m__law_some_sides : MFn := mFn 4 (sRetF (fLc (itL (eV 1)) (gT (gNC (gN 2) (gNC (gN 3) gN0))) (cB (eOp iGt (eCall m__law_take [] (aCons (eV 0) (aCons (eC (.int 3)) aNil))) (eC (.int 0)))) (eV 2) [2, 3]))
noncomputable def m__law_count_in : MFn := mFn 4 (sRet (eCB fSum (aCons (mFrz (fLc (itL (eV 0)) (gT (gNC (gN 2) (gNC (gN 3) gN0))) (cB (eOp (fInX false) (eV 2) (eV 1))) (eV 3) [2, 3])) aNil)))
noncomputable def m__law_tables : MFn := mFn 8 (sSeq (sOwn 4 fDic0)
    (sSeq (sFor (itL (mFrz (fSl (mFrz (fLst (aCons (eC (.str "a")) (aCons (eC (.str "ab")) (aCons (eC (.str "box")) (aCons (eC (.str "row")) (aCons (eC (.str "lane")) aNil))))))) oNone (oSome (eV 3))))) (gN 5) (sSeq (sAsg (eCall m__law_some_sides [] (aCons (eV 0) (aCons (eV 1) aNil))) (gN 6))
    (sSeq (sAsg (eCall m__law_count_in [] (aCons (eV 1) (aCons (eV 6) aNil))) (gN 7))
    (sDPutA 4 (eV 5) (eTup (aCons (eV 6) (aCons (eCall m__law_lines [] (aCons (eV 0) (aCons (eV 2) (aCons (eV 7) aNil)))) (aCons (eCall m__law_cells [] (aCons (eV 0) (aCons (eV 7) aNil))) aNil))))))))
    (sRetO 4)))
noncomputable def m__law_triples : MFn := mFn 7 (sSeq (sOwn 2 (fLst aNil))
    (sSeq (sFor (itL (eCall m__law_shuffled [] (aCons (eV 0) (aCons (mFrz (fCB fSortedD (aCons (eV 1) aNil))) aNil)))) (gN 3) (sSeq (sAsg (eDGetA 1 (eV 3)) (gT (gNC (gN 4) (gNC (gN 5) (gNC (gN 6) gN0)))))
    (sApp 2 (eTup (aCons (eV 3) (aCons (eCall m__law_shuffled [] (aCons (eV 0) (aCons (eV 4) aNil))) (aCons (mFrz (fCB fListOf (aCons (eV 6) aNil))) aNil)))))))
    (sRetO 2)))
noncomputable def m__law_sides_of : Nat → MFn
  | 0 => fun _ _ => .stuck
  | n + 1 => mFn 7 (sSeq (sIf (cB (eOp fEq (eOp fIx (eV 0) (eC (.int 0))) (eC (.str "name")))) (sRet (eOp fIx (eDGetA 2 (eOp fIx (eV 0) (eC (.int 1)))) (eC (.int 0)))) sNil)
    (sSeq (sIf (cB (eOp fEq (eOp fIx (eV 0) (eC (.int 0))) (eC (.str "sum")))) (sRetF (fLc (itL (eCall (m__law_sides_of n) [] (aCons (eOp fIx (eV 0) (eC (.int 2))) (aCons (eV 1) (aCons (eV 2) aNil))))) (gN 4) (cB (eOp fNe (eV 4) (eOp fIx (eV 0) (eC (.int 1))))) (eV 4) [4])) sNil)
    (sSeq (sAsg (eOp dAdd (eCall (m__law_sides_of n) [] (aCons (eOp fIx (eV 0) (eC (.int 1))) (aCons (eV 1) (aCons (eV 2) aNil)))) (eCall (m__law_sides_of n) [] (aCons (eOp fIx (eV 0) (eC (.int 2))) (aCons (eV 1) (aCons (eV 2) aNil))))) (gN 3))
    (sRetF (fLc (itL (eV 1)) (gT (gNC (gN 5) (gNC (gN 6) gN0))) (cB (eOp (fInX false) (eV 5) (eV 3))) (eV 5) [5, 6])))))
noncomputable def m__law_tree : Nat → MFn
  | 0 => fun _ _ => .stuck
  | n + 1 => mFn 8 (sSeq (sAsg (eCall m__law_take [] (aCons (eV 0) (aCons (eC (.int 5)) aNil))) (gN 4))
    (sSeq (sIf (cOr (cB (eOp fEq (eV 3) (eC (.int 0)))) (cB (eOp fEq (eV 4) (eC (.int 0))))) (sRet (eTup (aCons (eC (.str "name")) (aCons (eCall m__law_of [] (aCons (eV 0) (aCons (mFrz (fCB fSortedD (aCons (eV 2) aNil))) aNil))) aNil)))) sNil)
    (sSeq (sAsg (eCall (m__law_tree n) [] (aCons (eV 0) (aCons (eV 1) (aCons (eV 2) (aCons (eOp iSub (eV 3) (eC (.int 1))) aNil))))) (gN 5))
    (sSeq (sIf (cB (eOp fEq (eV 4) (eC (.int 1)))) (sSeq (sAsg (eCall (m__law_sides_of 12) [] (aCons (eV 5) (aCons (eV 1) (aCons (eV 2) aNil)))) (gN 6))
    (sRet (eIf (cB (eOp fNe (eV 6) (mFrz (fLst aNil)))) (eTup (aCons (eC (.str "sum")) (aCons (eCall m__law_of [] (aCons (eV 0) (aCons (eV 6) aNil))) (aCons (eV 5) aNil)))) (eV 5)))) sNil)
    (sSeq (sAsg (eCall m__law_of [] (aCons (eV 0) (aCons (mFrz (fLst (aCons (eC (.str "plus")) (aCons (eC (.str "less")) (aCons (eC (.str "least")) (aCons (eC (.str "most")) aNil)))))) aNil))) (gN 7))
    (sRet (eTup (aCons (eV 7) (aCons (eV 5) (aCons (eCall (m__law_tree n) [] (aCons (eV 0) (aCons (eV 1) (aCons (eV 2) (aCons (eCB fMax2 (aCons (eC (.int 0)) (aCons (eOp iSub (eOp iSub (eV 3) (eC (.int 1))) (eCall m__law_take [] (aCons (eV 0) (aCons (eC (.int 2)) aNil)))) aNil))) aNil))))) aNil))))))))))
noncomputable def m_need_frame : MFn := mFn 3 (sSeq (sExpr (eCall m_need_sides [] (aCons (eV 0) aNil)))
    (sIf (cB (eOp iGt (eCB fSum (aCons (mFrz (fLc (itL (eV 0)) (gT (gNC (gN 1) (gNC (gN 2) gN0))) cYes (eV 2) [1, 2])) aNil)) (eC (.int 7)))) (sRaise "BadSides") sNil))
noncomputable def m_in_order : MFn := mFn 4 (sRetF (fLc (itL (eV 0)) (gT (gNC (gN 2) (gNC (gN 3) gN0))) (cB (eOp (fInX false) (eV 2) (eV 1))) (eV 2) [2, 3]))
noncomputable def m_Weft_knot : MFn := mFn 5 (sSeq (sAppE (eFld "Weft" "knots" (eV 0)) (eTup (aCons (eV 1) (aCons (eV 2) (aCons (eV 3) (aCons (eV 4) aNil))))))
    (sRet (eTup (aCons (eC (.str "")) (aCons (eOp iSub (eCB fLen (aCons (eFld "Weft" "knots" (eV 0)) aNil)) (eC (.int 1))) (aCons (eV 4) aNil))))))
noncomputable def m_Weft_part_of : Nat → MFn
  | 0 => fun _ _ => .stuck
  | n + 1 => mFn 8 (sSeq (sStar2 2 3 4 (eV 1))
    (sSeq (sIf (cB (eOp fEq (eV 2) (eC (.str "name")))) (sSeq (sIf (cB (eDIn true (eV 3) (eFld "Weft" "known" (eV 0)))) (sRaiseF "NoTable" (eV 3)) sNil)
    (sRet (eTup (aCons (eV 3) (aCons (eC .non) (aCons (eCall m_in_order [] (aCons (eFld "Weft" "frame" (eV 0)) (aCons (eDGet (eFld "Weft" "known" (eV 0)) (eV 3)) aNil))) aNil)))))) sNil)
    (sSeq (sIf (cB (eOp fEq (eV 2) (eC (.str "sum")))) (sSeq (sAsg (eMeth "Weft" "part_of" (m_Weft_part_of n) [] (eV 0) (aCons (eOp fIx (eV 4) (eC (.int 0))) aNil)) (gN 5))
    (sSeq (sIf (cB (eOp (fInX true) (eV 3) (eOp fIx (eV 5) (eC (.int 2))))) (sRaiseF "NoSide" (eV 3)) sNil)
    (sRet (eMeth "Weft" "knot" m_Weft_knot [] (eV 0) (aCons (eC (.str "sum")) (aCons (eV 3) (aCons (mFrz (fLst (aCons (eV 5) aNil))) (aCons (mFrz (fLc (itL (eOp fIx (eV 5) (eC (.int 2)))) (gN 7) (cB (eOp fNe (eV 7) (eV 3))) (eV 7) [7])) aNil)))))))) sNil)
    (sSeq (sAsg (mFrz (fLst (aCons (eMeth "Weft" "part_of" (m_Weft_part_of n) [] (eV 0) (aCons (eV 3) aNil)) (aCons (eMeth "Weft" "part_of" (m_Weft_part_of n) [] (eV 0) (aCons (eOp fIx (eV 4) (eC (.int 0))) aNil)) aNil)))) (gN 6))
    (sRet (eMeth "Weft" "knot" m_Weft_knot [] (eV 0) (aCons (eV 2) (aCons (eC (.str "")) (aCons (eV 6) (aCons (eCall m_in_order [] (aCons (eFld "Weft" "frame" (eV 0)) (aCons (eOp dAdd (eOp fIx (eOp fIx (eV 6) (eC (.int 0))) (eC (.int 2))) (eOp fIx (eOp fIx (eV 6) (eC (.int 1))) (eC (.int 2)))) aNil))) aNil))))))))))
noncomputable def m_WeftU_initU : MFn := mFn 4 (sSeq (sFldC "Weft" "frame" (eV 0) (eV 2))
    (sSeq (sFldC "Weft" "known" (eV 0) (eV 3))
    (sSeq (sFldC "Weft" "knots" (eV 0) (eCellOf (fLst aNil)))
    (sFldC "Weft" "whole" (eV 0) (eMeth "Weft" "part_of" (m_Weft_part_of 12) [] (eV 0) (aCons (eV 1) aNil))))))
noncomputable def m_sides_of : MFn := mFn 6 (sSeq (sExpr (eCall m_need_frame [] (aCons (eV 1) aNil)))
    (sRet (eOp fIx (eFld "Weft" "whole" (eNewC "Weft" m_WeftU_initU [] (aCons (eV 0) (aCons (eV 1) (aCons (eDc (itL (eV 2)) (gT (gNC (gN 3) (gNC (gN 4) (gNC (gN 5) gN0)))) cYes (eV 3) (eV 4) [3, 4, 5]) aNil))))) (eC (.int 2)))))
noncomputable def m_cut_fold : MFn := mFn 8 (sSeq (sOwn 3 (fLst aNil))
    (sSeq (sAsg (eC (.int 0)) (gN 4))
    (sSeq (sFor (itL (eV 0)) (gT (gNC (gN 5) (gNC (gN 6) gN0))) (sIf (cB (eOp (fInX false) (eV 5) (eV 1))) (sFor (itR1 (aCons (eV 6) aNil)) (gN 7) (sSeq (sApp 3 (eIf (cB (eOp (fInX false) (eV 5) (eV 2))) (eOp iShl (eC (.int 1)) (eV 4)) (eC (.int 0))))
    (sAug 4 (fun i j => i + j) (eIf (cB (eOp (fInX false) (eV 5) (eV 2))) (eC (.int 1)) (eC (.int 0)))))) sNil))
    (sFrz 3 (sRet (eNew "Fold" m_FoldU_initU [] (aCons (eV 3) (aCons (eV 4) aNil))))))))
noncomputable def m_digits_in : MFn := mFn 4 (sRet (eCB fSum (aCons (mFrz (fLc (itL (eV 0)) (gT (gNC (gN 2) (gNC (gN 3) gN0))) (cB (eOp (fInX false) (eV 2) (eV 1))) (eV 3) [2, 3])) aNil)))
end Fb
namespace Mm
open PySem PySem.Spec PyProof.Rows L2
section
variable {X : Cx} {Y : Gam} {W : WX} {e a b c tg iter elt : Expr} {es rest ifs : List Expr} {ta tb te : TE} {tt tu : TT} {ma mb me : ME} {mt mu : MT} {mf : MF} {t : TA} {m : MA} {pos : Pos} {wi : TI} {mi : MI}
variable {scope : Scope} {own : List (Str × Nat)} {is : List Nat} {g : TG} {mg : MG}
theorem t_cellLc {i : Nat} {y : Str} {py spos : Pos} (hN : X.N.Nodup) (hy : X.N[i]? = some y) (hyl : X.env.scope.names.lookup y = some .local) (hsw : swapsWith (.ListComp elt [⟨tg, iter, ifs, 0⟩] scope pos) (some (.Name y py)) spos.line X.env = pure true)
    (hi : SI X Y W tg iter wi mi) (ok : BlkOk X.N X.env.scope scope own) (hg : ∀ (s : Shared) (H : Hp) (C : Addr) (cl : List (Str × Addr)) (fp : List Addr), SG (X.blk s H scope (compEnvC scope cl C X.env) fp) Y is tg g mg)
    (ht : ∀ (s : Shared) (H : Hp) (C : Addr) (cl : List (Str × Addr)) (fp : List Addr), ST (X.blk s H scope (compEnvC scope cl C X.env) fp) Y W0 ifs tt mt)
    (he : ∀ (s : Shared) (H : Hp) (C : Addr) (cl : List (Str × Addr)) (fp : List Addr), SE (X.blk s H scope (compEnvC scope cl C X.env) fp) Y W0 elt te me) (hv : ∀ i ∈ is, i ∈ own.map (·.2) := by decide) (hc : X.calm = true := by rfl) (hs : ∀ x, foldedSetIterable iter X.env x = pure x := by intro _; rfl) :
    SS X Y W (.Assign [.Name y py] (.ListComp elt [⟨tg, iter, ifs, 0⟩] scope pos) spos) (tAsg (tLc wi g tt te (own.map (·.2))) (gName i)) (sCell i (fLc mi mg mt me (own.map (·.2)))) :=
  ⟨ps_lc hN hy hyl hsw hi ok hg ht he hc hs, sim_cell (sim_lc hi.sim (hg X.s_0 X.H_0 0 [] []).sim hv (ht X.s_0 X.H_0 0 [] []).sim (he X.s_0 X.H_0 0 [] []).sim)⟩
end
end Mm
namespace Mm
open PySem PySem.Spec PyProof.Rows L2
def rNilL (K : PySem.W.Frag) (f : Bool → Bool) : R2 := fun x y H Q => ∃ (a b : Addr) (xs : List V), x = .ref a ∧ y = .ref b ∧ SqL K H a xs ∧ SqL K H b [] ∧ Q (.bl (f xs.isEmpty)) H
section
variable {X : Cx}
theorem op_neNil (hu : X.A.units < cLine) : OpR X (compareOp .NotEq) (rNilL X.K not) := by
  intro pins s σ H x y v u Q I rx ry h
  obtain ⟨a, b, xs, rfl, rfl, ha, hb, q⟩ := h
  obtain rfl : v = Value.ref a := rx
  obtain rfl : u = Value.ref b := ry
  obtain ⟨its, rv, hl, _⟩ := I.list ha
  obtain ⟨its2, rv2, hl2, _⟩ := I.list hb
  cases rv2
  cases rv with
  | nil => exact SeqAt.RcNeAt.lists (e := fun _ => true) hl.isList hl2.isList rfl hu (fun j h1 _ => absurd h1 (Nat.not_lt_zero _)) X.prog X.w _ _ ⟨.bl _, H, I, rfl, q⟩
  | cons r rs => exact SeqAt.RcNeAt.lists_lengths hl.isList hl2.isList (by simp) hu X.prog X.w _ _ ⟨.bl _, H, I, rfl, q⟩
end
def fNil (f : Bool → Bool) : Sto → D → D → Option D := fun S a b => match lstOf S a, b with
  | some xs, .lst [] => some (.bl (f xs.isEmpty))
  | _, _ => none
theorem od_nil {g : Gam} (f : Bool → Bool) : OpD g (rNilL g.K f) (fNil f) := fun w H S d1 d2 v1 v2 d Q k r1 r2 e q => by
  unfold fNil at e
  split at e
  · rename_i xs z
    cases e
    obtain ⟨a, vs, x1, x2, x3⟩ := lstOf_rep k r1 z
    obtain ⟨b, us, y1, y2, y3⟩ := rep_lst r2
    obtain rfl : us = [] := by unfold RepL at y3; exact y3
    have ee : vs.isEmpty = xs.isEmpty := by
      have := x3.len
      cases xs <;> cases vs <;> first | rfl | (simp at this)
    refine ⟨a, b, vs, x1, y1, .inl (.inl x2), .inl (.inl (k.ex _ _ y2)), ?_⟩
    rw [ee]
    exact q w H _ .refl rep_bl'
  · cases e
end Mm
namespace Fb
open PySem L2 Mm
noncomputable def m__law_knots : Nat → MFn
  | 0 => fun _ _ => .stuck
  | n + 1 => mFn 6 (sSeq (sAsg (eCall (m__law_sides_of 12) [] (aCons (eV 0) (aCons (eV 1) (aCons (eV 2) aNil)))) (gN 4))
    (sSeq (sIf (cB (eOp fEq (eOp fIx (eV 0) (eC (.int 0))) (eC (.str "name")))) (sRet (eTup (aCons (eOp fIx (eV 0) (eC (.int 1))) (aCons (eC .non) (aCons (eV 4) aNil))))) sNil)
    (sSeq (sIf (cB (eOp fEq (eOp fIx (eV 0) (eC (.int 0))) (eC (.str "sum")))) (sAppC 3 (eTup (aCons (eOp fIx (eV 0) (eC (.int 1))) (aCons (mFrz (fLst (aCons (eCall (m__law_knots n) [] (aCons (eOp fIx (eV 0) (eC (.int 2))) (aCons (eV 1) (aCons (eV 2) (aCons (eV 3) aNil))))) aNil))) aNil)))) (sSeq (sAsg (eCall (m__law_knots n) [] (aCons (eOp fIx (eV 0) (eC (.int 1))) (aCons (eV 1) (aCons (eV 2) (aCons (eV 3) aNil))))) (gN 5))
    (sAppC 3 (eTup (aCons (eC (.str "")) (aCons (mFrz (fLst (aCons (eV 5) (aCons (eCall (m__law_knots n) [] (aCons (eOp fIx (eV 0) (eC (.int 2))) (aCons (eV 1) (aCons (eV 2) (aCons (eV 3) aNil))))) aNil)))) aNil))))))
    (sRet (eTup (aCons (eC (.str "")) (aCons (eOp iSub (eCB fLen (aCons (eV 3) aNil)) (eC (.int 1))) (aCons (eV 4) aNil))))))))
noncomputable def m__law_cut : MFn := mFn 8 (sSeq (sAsg (eC (.int 0)) (gN 3))
    (sSeq (sAsg (eC (.int 0)) (gN 4))
    (sSeq (sAsg (eC (.int 0)) (gN 5))
    (sSeq (sFor (itL (eV 0)) (gT (gNC (gN 6) (gNC (gN 7) gN0))) (sSeq (sIf (cB (eOp (fInX false) (eV 6) (eV 1))) (sSeq (sAsg (eOp iOr (eV 3) (eOp iShl (eOp iMod (eOp iShr (eV 2) (eV 5)) (eOp iShl (eC (.int 1)) (eV 7))) (eV 4))) (gN 3))
    (sAug 4 (fun i j => i + j) (eV 7))) sNil)
    (sAug 5 (fun i j => i + j) (eV 7))))
    (sRet (eV 3))))))
noncomputable def m__law_spread_out : MFn := mFn 7 (sSeq (sAsg (eC (.int 0)) (gN 3))
    (sSeq (sAsg (eC (.int 0)) (gN 4))
    (sSeq (sFor (itL (eV 0)) (gT (gNC (gN 5) (gNC (gN 6) gN0))) (sSeq (sIf (cB (eOp (fInX false) (eV 5) (eV 1))) (sSeq (sAsg (eOp iOr (eV 3) (eOp iShl (eOp iMod (eV 2) (eOp iShl (eC (.int 1)) (eV 6))) (eV 4))) (gN 3))
    (sAsg (eOp iShr (eV 2) (eV 6)) (gN 2))) sNil)
    (sAug 4 (fun i j => i + j) (eV 6))))
    (sRet (eV 3)))))
noncomputable def m__law_worth : Nat → MFn
  | 0 => fun _ _ => .stuck
  | n + 1 => mFn 15 (sSeq (sIf (cB (eOp fEq (eOp fIx (eV 0) (eC (.int 0))) (eC (.str "name")))) (sSeq (sAsg (eDGetA 2 (eOp fIx (eV 0) (eC (.int 1)))) (gT (gNC (gN 4) (gNC (gN 5) (gNC (gN 6) gN0)))))
    (sRet (eOp fIx (eV 6) (eCall m__law_cut [] (aCons (eV 1) (aCons (eV 4) (aCons (eV 3) aNil))))))) sNil)
    (sSeq (sIf (cB (eOp fEq (eOp fIx (eV 0) (eC (.int 0))) (eC (.str "sum")))) (sSeq (sAsg (mFrz (fLc (itL (eV 1)) (gT (gNC (gN 12) (gNC (gN 9) gN0))) (cB (eOp fNe (eV 12) (eOp fIx (eV 0) (eC (.int 1))))) (eV 12) [12, 9])) (gN 7))
    (sSeq (sAsg (eCall m__law_spread_out [] (aCons (eV 1) (aCons (eV 7) (aCons (eCall m__law_cut [] (aCons (eV 1) (aCons (eV 7) (aCons (eV 3) aNil)))) aNil)))) (gN 8))
    (sSeq (sAsg (eCall m__law_count_in [] (aCons (eV 1) (aCons (mFrz (fLst (aCons (eOp fIx (eV 0) (eC (.int 1))) aNil))) aNil))) (gN 9))
    (sSeq (sAsg (mFrz (fLc (itR1 (aCons (eOp iShl (eC (.int 1)) (eV 9)) aNil)) (gN 13) cYes (eOp iOr (eV 8) (eCall m__law_spread_out [] (aCons (eV 1) (aCons (mFrz (fLst (aCons (eOp fIx (eV 0) (eC (.int 1))) aNil))) (aCons (eV 13) aNil))))) [13])) (gN 10))
    (sRet (eCB fSum (aCons (mFrz (fLc (itL (eV 10)) (gN 14) cYes (eCall (m__law_worth n) [] (aCons (eOp fIx (eV 0) (eC (.int 2))) (aCons (eV 1) (aCons (eV 2) (aCons (eV 14) aNil))))) [14])) aNil))))))) sNil)
    (sSeq (sAsg (eCall (m__law_worth n) [] (aCons (eOp fIx (eV 0) (eC (.int 1))) (aCons (eV 1) (aCons (eV 2) (aCons (eV 3) aNil))))) (gN 11))
    (sRet (eCall m__law_mixed [] (aCons (eOp fIx (eV 0) (eC (.int 0))) (aCons (eV 11) (aCons (eCall (m__law_worth n) [] (aCons (eOp fIx (eV 0) (eC (.int 2))) (aCons (eV 1) (aCons (eV 2) (aCons (eV 3) aNil))))) aNil))))))))
noncomputable def m__law_meant : MFn := mFn 7 (sSeq (sAsg (eCall (m__law_sides_of 12) [] (aCons (eV 0) (aCons (eV 1) (aCons (eV 2) aNil)))) (gN 3))
    (sSeq (sAsg (mFrz (fLc (itR1 (aCons (eOp iShl (eC (.int 1)) (eCall m__law_count_in [] (aCons (eV 1) (aCons (eV 3) aNil)))) aNil)) (gN 5) cYes (eCall m__law_spread_out [] (aCons (eV 1) (aCons (eV 3) (aCons (eV 5) aNil)))) [5])) (gN 4))
    (sRetF (fLc (itL (eV 4)) (gN 6) cYes (eCall (m__law_worth 12) [] (aCons (eV 0) (aCons (eV 1) (aCons (eV 2) (aCons (eV 6) aNil))))) [6]))))
end Fb
namespace Mm
open PySem PySem.Spec PyProof.Rows L2
def forLiveE (g : MG) (b : MS) (n : Nat) : Nat → Nat → MS
  | 0, _, _, _ => .stuck
  | m + 1, i, env, S => match S[n]? with
    | some (.lst zs) => (match zs[i]? with
      | none => .nx env S
      | some z => (match g (.tup [.int (i : Nat), z]) env with
        | none => .stuck
        | some e1 => (match b e1 S with
          | .nx e S1 => forLiveE g b n m (i + 1) e S1
          | .ct e S1 => forLiveE g b n m (i + 1) e S1
          | .bk e S1 => .nx e S1
          | o => o)))
    | _ => .stuck
def sForE (ma : MA) (g : MG) (b : MS) : MS := fun env S => (ma env S).out env fun ds S1 => match ds with
  | [.ref n] => forLiveE g b n 100001 0 env S1
  | _ => .stuck
section
variable {X : Cx} {Y : Gam} {W : WX} {ta : TA} {ma : MA} {t1 : TS} {m1 : MS} {is : List Nat} {tg : TG} {mg : MG} {e : Expr} {body : List Stmt} {p pos tpos fpos : Pos} {elts : List Expr} {kk : Nat}
theorem for_liveE {g : Gam} (hg : SimG g is tg mg) (hb : SimS g W t1 m1) {w0 w1 : Wd} {H0 H1 : Hp} {σ : L2.St} {env : Envr} {S1 : Sto} {O : List (Option Addr)} {Dn : Ends} {c : Addr} {n : Nat} (ha : w1.rho[n]? = some c)
    (st1 : StR g w0 H0 w1 H1 σ env S1 O) (p1 : PostS g W w0 H0 w1 Dn (forLiveE mg m1 n 100001 0 env S1)) :
    ∃ Wm : Nat → Nat → L2.St → Hp → Prop, (∃ m, Wm 0 m σ H1) ∧ ∀ i m σ H, Wm i m σ H → ((Ite g.K c).stop i H ∧ Dn.nx σ H) ∨ ((Ite g.K c).go i H ∧ ∃ N : L2.St → Hp → Prop, (∀ σ' H', N σ' H' → ∃ m', m' < m ∧ Wm (i + 1) m' σ' H') ∧ ∀ x H', (Ite g.K c).yld i H x H' → tg x σ H' fun σ2 H2 => t1 { Dn with nx := N, ct := N, bk := Dn.nx } σ2 H2) := by
  refine ⟨fun i m σ H => ∃ w env S O, StR g w0 H0 w H σ env S O ∧ w1.le w ∧ PostS g W w0 H0 w Dn (forLiveE mg m1 n m i env S), ⟨100001, w1, env, S1, O, st1, .refl w1, p1⟩, ?_⟩
  rintro i k σ2 H2 ⟨w2, env2, S2, O2, st2, l2, p2⟩
  cases k with
  | zero => exact False.elim p2
  | succ k =>
    unfold forLiveE at p2
    split at p2
    · rename_i zs hS
      obtain ⟨ww, ws, e4, e4'⟩ := st2.ok.cells.at_ n c _ (l2.get ha) hS
      have sq : SqL g.K H2 c ws := .inl (.inl e4)
      split at p2
      · rename_i hi
        exact .inl ⟨⟨ws, sq, by rw [← e4'.len]; exact List.getElem?_eq_none_iff.mp hi⟩, p2 w2 H2 σ2 O2 st2 (.refl w2)⟩
      · rename_i z hz
        obtain ⟨o, ho, ro⟩ := e4'.at_ hz
        refine .inr ⟨⟨ws, o, sq, ho⟩, fun σ' H' => ∃ w env S O, StR g w0 H0 w H' σ' env S O ∧ w1.le w ∧ PostS g W w0 H0 w Dn (forLiveE mg m1 n k (i + 1) env S), fun σ' H' h' => ⟨k, by omega, h'⟩, fun xx H' hyl => ?_⟩
        obtain ⟨T, x', f1, f2, f3, f4⟩ := hyl
        have g4 := f4 ws sq
        rw [ho] at g4
        cases g4
        have gr : Grow w2 H2 ⟨w2.rho, upd w2.G T (.tup [.int (i : Nat), o])⟩ (upd H2 T (.tup [.int (i : Nat), o])) := Grow.one f2 nt_tup
        have st3 := st2.grow gr
        have l3 := gr.le st2.ok
        have rt : Rep g ⟨w2.rho, upd w2.G T (.tup [.int (i : Nat), o])⟩ (.tup [.int (i : Nat), z]) (.ref T) := by
          unfold Rep
          exact ⟨T, _, rfl, .inl (.inl upd_same), RepL.cons_ (by unfold Rep; rfl) (RepL.cons_ (ro.mono l3) RepL.nil_)⟩
        rw [f1, f3]
        cases zz : mg (.tup [.int (i : Nat), z]) env2 with
        | none => rw [zz] at p2; exact False.elim p2
        | some ee =>
          rw [zz] at p2
          refine hg w0 H0 _ _ σ2 env2 S2 O2 _ _ _ ee st3 rt zz fun σ4 O4 st4 _ => ?_
          refine hb w0 H0 _ _ σ4 ee S2 O4 _ st4 ?_
          have p2 : PostS g W w0 H0 w2 Dn (match m1 ee S2 with
            | .nx e S1 => forLiveE mg m1 n k (i + 1) e S1
            | .ct e S1 => forLiveE mg m1 n k (i + 1) e S1
            | .bk e S1 => .nx e S1
            | o => o) := p2
          cases y : m1 ee S2 with
          | stuck => rw [y] at p2; exact p2
          | nx e S5 => rw [y] at p2; exact fun w' H' σ' O' st' l' => ⟨w', e, S5, O', st', (l2.trans l3).trans l', p2.mono (l3.trans l')⟩
          | ct e S5 => rw [y] at p2; exact fun w' H' σ' O' st' l' => ⟨w', e, S5, O', st', (l2.trans l3).trans l', p2.mono (l3.trans l')⟩
          | bk e S5 => rw [y] at p2; exact fun w' H' σ' O' st' l' => p2 w' H' σ' O' st' (l3.trans l')
          | rt r S5 => rw [y] at p2; exact p2
          | exc c q e S5 => rw [y] at p2; exact fun w' H' σ' O' cls dd st' l' x => p2 w' H' σ' O' cls dd st' (l3.trans l') x
    · exact False.elim p2
theorem sim_forE (he : SimA Y W ta ma) (hg : SimG Y is tg mg) (hb : SimS Y W t1 m1) : SimS Y W (tFor (iEnumS Y.K ta) tg t1) (sForE ma mg m1) := fun w0 H0 w H σ env S O Dn st p =>
  he w0 H0 w H σ env S O _ st ((PostS.out p).imp fun ds S1 w1 H1 st1 l1 p1 v r => by
    cases ds with
    | nil => exact False.elim p1
    | cons z ds =>
      cases ds with
      | cons _ ds => cases z <;> exact False.elim p1
      | nil =>
        cases z with
        | ref n =>
          have p1 : PostS Y W w0 H0 w1 Dn (forLiveE mg m1 n 100001 0 env S1) := p1
          unfold RepL at r
          obtain ⟨o, rr, e1, q3, r⟩ := r
          unfold RepL at r
          obtain ⟨c, h1, h2⟩ : ∃ a, w1.rho[n]? = some a ∧ o = .ref a := by unfold Rep at q3; exact q3
          rw [h2, r] at e1
          cases zS : S1[n]? with
          | none =>
            unfold forLiveE at p1
            rw [zS] at p1
            exact False.elim p1
          | some cc =>
            cases cc with
            | lst ds =>
              obtain ⟨ww, ts, e4, e4'⟩ := st1.ok.cells.at_ n c _ h1 zS
              exact ⟨c, ts, e1, .inl ⟨.inl (.inl e4), for_liveE hg hb h1 st1 p1⟩⟩
            | _ =>
              unfold forLiveE at p1
              rw [zS] at p1
              exact False.elim p1
        | _ => exact False.elim p1)
theorem t_forE (hm : X.mg "enumerate" = none) (hp : PassesOwn (model X.prog X.w) X.A X.env X.xe) (ha : SA X Y W [e] ta ma) (hg : SG X Y is (.Tuple elts kk tpos) tg mg) (hb : SB X Y W body t1 m1) (hK : X.K = Y.K := by rfl) (hc : X.calm = true := by rfl)
    (hgl : Gl X "enumerate" := by rfl) (hs : starEach [e] X.env = [(false, eval e X.env)] := by rfl)
    (hf : ∀ x, foldedSetIterable (.Call (.Name "enumerate" p) [e] [] pos) X.env x = pure x := by intro _; rfl) :
    SS X Y W (.For (.Tuple elts kk tpos) (.Call (.Name "enumerate" p) [e] [] pos) body [] fpos) (tFor (iEnumS Y.K ta) tg t1) (sForE ma mg m1) := ⟨ps_for hp hc (hK ▸ pi_enumS hgl hm ha.pa hs) hg.pg hb.pss hf, sim_forE ha.sim hg.sim hb.sim⟩
@[simp] theorem sForE_eq (ma : MA) (g : MG) (b : MS) (env : Envr) (S : Sto) : sForE ma g b env S = (ma env S).out env fun ds S1 => match ds with
  | [.ref n] => forLiveE g b n 100001 0 env S1
  | _ => .stuck := rfl
end
end Mm
namespace K51
open PySem L2 Mm Fb
noncomputable def m_cells_of_k51 : MFn := mFn 22 (sSeq (sExpr (eCall m_need_frame [] (aCons (eV 1) aNil)))
    (sSeq (sAsg (eNewC "Weft" m_WeftU_initU [] (aCons (eV 0) (aCons (eV 1) (aCons (eDc (itL (eV 2)) (gT (gNC (gN 18) (gNC (gN 9) (gNC (gN 12) gN0)))) cYes (eV 18) (eV 9) [18, 9, 12]) aNil)))) (gN 3))
    (sSeq (sAsg (eDc (itL (eV 2)) (gT (gNC (gN 18) (gNC (gN 9) (gNC (gN 12) gN0)))) cYes (eV 18) (eCellOf (fCB fListOf (aCons (eV 12) aNil))) [18, 9, 12]) (gN 4))
    (sSeq (sCell 5 (fLst aNil))
    (sSeq (sForA (eFld "Weft" "knots" (eV 3)) (gT (gNC (gN 6) (gNC (gN 7) (gNC (gN 8) (gNC (gN 9) gN0))))) (sSeq (sAsg (mFrz (fLc (itL (eV 8)) (gT (gNC (gN 18) (gNC (gN 19) (gNC (gN 20) gN0)))) cYes (eIf (cB (eOp fIs (eV 19) (eC .non))) (eDGetA 4 (eV 18)) (eOp fIx (eV 5) (eV 19))) [18, 19, 20])) (gN 10))
    (sSeq (sIf (cB (eOp fEq (eV 6) (eC (.str "sum")))) (sSeq (sAsg (eCall m_cut_fold [] (aCons (eV 1) (aCons (eOp fIx (eOp fIx (eV 8) (eC (.int 0))) (eC (.int 2))) (aCons (eV 9) aNil)))) (gN 11))
    (sSeq (sCell 12 (fOp fRep (mFrz (fLst (aCons (eC (.int 0)) aNil))) (eOp iShl (eC (.int 1)) (eMeth "Fold" "size" m_Fold_size [] (eV 11) aNil))))
    (sForE (aCons (eOp fIx (eV 10) (eC (.int 0))) aNil) (gT (gNC (gN 13) (gNC (gN 14) gN0))) (sAugC (eV 12) (eMeth "Fold" "to" m_Fold_to [] (eV 11) (aCons (eV 13) aNil)) (fun i j => i + j) (eV 14))))) (sSeq (sAsg (mFrz (fLc (itL (eV 8)) (gN 21) cYes (eCall m_cut_fold [] (aCons (eV 1) (aCons (eV 9) (aCons (eOp fIx (eV 21) (eC (.int 2))) aNil)))) [21])) (gU (gNC (gN 15) (gNC (gN 16) gN0))))
    (sSeq (sAsg (eCall m_digits_in [] (aCons (eV 1) (aCons (eV 9) aNil))) (gN 17))
    (sCell 12 (fLc (itR1 (aCons (eOp iShl (eC (.int 1)) (eV 17)) aNil)) (gN 19) cYes (eCall m_mixed [] (aCons (eV 6) (aCons (eOp fIx (eOp fIx (eV 10) (eC (.int 0))) (eMeth "Fold" "to" m_Fold_to [] (eV 15) (aCons (eV 19) aNil))) (aCons (eOp fIx (eOp fIx (eV 10) (eC (.int 1))) (eMeth "Fold" "to" m_Fold_to [] (eV 16) (aCons (eV 19) aNil))) aNil)))) [19])))))
    (sAppC 5 (eV 12)))))
    (sRet (eIf (cB (eOp (fNil not) (eV 5) (mFrz (fLst aNil)))) (eOp fIx (eV 5) (eUn fNeg (eC (.int 1)))) (eDGetA 4 (eOp fIx (eFld "Weft" "whole" (eV 3)) (eC (.int 0)))))))))))
noncomputable def m_Weft_part_of_t : MFn := mFn 8 (sSeq (sStar2 2 3 4 (eV 1))
    (sSeq (sIf (cB (eOp fEq (eV 2) (eC (.str "name")))) (sSeq (sIf (cB (eDIn true (eV 3) (eFld "Weft" "known" (eV 0)))) (sRaiseF "NoTable" (eV 3)) sNil)
    (sRet (eTup (aCons (eV 3) (aCons (eC .non) (aCons (eCellOf (fCall m_in_order [] (aCons (eFld "Weft" "frame" (eV 0)) (aCons (eDGet (eFld "Weft" "known" (eV 0)) (eV 3)) aNil)))) aNil)))))) sNil)
    (sSeq (sIf (cB (eOp fEq (eV 2) (eC (.str "sum")))) (sSeq (sAsg (eMeth "Weft" "part_of" (m_Weft_part_of 11) [] (eV 0) (aCons (eOp fIx (eV 4) (eC (.int 0))) aNil)) (gN 5))
    (sSeq (sIf (cB (eOp (fInX true) (eV 3) (eOp fIx (eV 5) (eC (.int 2))))) (sRaiseF "NoSide" (eV 3)) sNil)
    (sRet (eMeth "Weft" "knot" m_Weft_knot [] (eV 0) (aCons (eC (.str "sum")) (aCons (eV 3) (aCons (mFrz (fLst (aCons (eV 5) aNil))) (aCons (eCellOf (fLc (itL (eOp fIx (eV 5) (eC (.int 2)))) (gN 7) (cB (eOp fNe (eV 7) (eV 3))) (eV 7) [7])) aNil)))))))) sNil)
    (sSeq (sAsg (mFrz (fLst (aCons (eMeth "Weft" "part_of" (m_Weft_part_of 11) [] (eV 0) (aCons (eV 3) aNil)) (aCons (eMeth "Weft" "part_of" (m_Weft_part_of 11) [] (eV 0) (aCons (eOp fIx (eV 4) (eC (.int 0))) aNil)) aNil)))) (gN 6))
    (sRet (eMeth "Weft" "knot" m_Weft_knot [] (eV 0) (aCons (eV 2) (aCons (eC (.str "")) (aCons (eV 6) (aCons (eCellOf (fCall m_in_order [] (aCons (eFld "Weft" "frame" (eV 0)) (aCons (eOp dAdd (eOp fIx (eOp fIx (eV 6) (eC (.int 0))) (eC (.int 2))) (eOp fIx (eOp fIx (eV 6) (eC (.int 1))) (eC (.int 2)))) aNil)))) aNil))))))))))
noncomputable def m_WeftU_initU_t : MFn := mFn 4 (sSeq (sFldC "Weft" "frame" (eV 0) (eV 2))
    (sSeq (sFldC "Weft" "known" (eV 0) (eV 3))
    (sSeq (sFldC "Weft" "knots" (eV 0) (eCellOf (fLst aNil)))
    (sFldC "Weft" "whole" (eV 0) (eMeth "Weft" "part_of" m_Weft_part_of_t [] (eV 0) (aCons (eV 1) aNil))))))
noncomputable def m_sides_of_t : MFn := mFn 6 (sSeq (sExpr (eCall m_need_frame [] (aCons (eV 1) aNil)))
    (sRet (eOp fIx (eFld "Weft" "whole" (eNewC "Weft" m_WeftU_initU_t [] (aCons (eV 0) (aCons (eV 1) (aCons (eDc (itL (eV 2)) (gT (gNC (gN 3) (gNC (gN 4) (gNC (gN 5) gN0)))) cYes (eV 3) (eV 4) [3, 4, 5]) aNil))))) (eC (.int 2)))))
noncomputable def m_law : MFn := mFn 11 (sSeq (sCell 1 (fCall m__law_box [] (aCons (eV 0) aNil)))
    (sSeq (sFor (itR1 (aCons (eC (.int 4)) aNil)) (gN 2) (sSeq (sAsg (eCall m__law_frame [] (aCons (eV 1) aNil)) (gN 3))
    (sSeq (sAsg (eCall m__law_tables [] (aCons (eV 1) (aCons (eV 3) (aCons (eC (.int 5)) (aCons (eOp dAdd (eC (.int 1)) (eCall m__law_take [] (aCons (eV 1) (aCons (eC (.int 5)) aNil)))) aNil))))) (gN 4))
    (sSeq (sAsg (eCall (m__law_tree 8) [] (aCons (eV 1) (aCons (eV 3) (aCons (eV 4) (aCons (eC (.int 3)) aNil))))) (gN 5))
    (sSeq (sAsg (eCall m__law_triples [] (aCons (eV 1) (aCons (eV 4) aNil))) (gN 6))
    (sSeq (sAsg (eCall m__law_meant [] (aCons (eV 5) (aCons (eV 3) (aCons (eV 4) aNil)))) (gN 7))
    (sFor (itR1 (aCons (eC (.int 2)) aNil)) (gN 8) (sSeq (sAsg (eCall m_cells_of_k51 [] (aCons (eV 5) (aCons (eV 3) (aCons (eV 6) aNil)))) (gN 9))
    (sSeq (sIf (cNot (cB (eCall (thFn (m__law_same 4)) [] (aCons (eV 9) (aCons (eV 7) aNil))))) (sRet (eC (.bl false))) sNil)
    (sSeq (sAppC 9 (eC (.int 0)))
    (sSeq (sAsg (eCall m_sides_of_t [] (aCons (eV 5) (aCons (mFrz (fCB fListOf (aCons (eV 3) aNil))) (aCons (eV 6) aNil)))) (gN 10))
    (sSeq (sIf (cNot (cB (eCall (thFn (m__law_same 4)) [] (aCons (eV 10) (aCons (eCall (m__law_sides_of 12) [] (aCons (eV 5) (aCons (eV 3) (aCons (eV 4) aNil)))) aNil))))) (sRet (eC (.bl false))) sNil)
    (sAppC 10 (eC (.str "q")))))))))))))))
    (sRet (eC (.bl true)))))
end K51
namespace K51
open PySem L2 Mm Fb
section
variable {P : Program} {w : World} {K : PySem.W.Frag} {mg : Str → Option Value} {base : Heap} {ca : Str → Addr} {T : List (Addr × Str)}
abbrev N_NoTableU_initU : List Str := ["self", "name"]
theorem sc_NoTableU_initU : FnScope N_NoTableU_initU ["self", "name"] (defScope s_NoTableU_initU) := ⟨rfl, rfl, rfl, by decide +kernel, rfl, by decide +kernel, by decide +kernel⟩
theorem ok_NoTableU_initU {f : Addr} {fd : FuncData} (F : FnPk K "__init__" "NoTable.__init__" s_NoTableU_initU [] [] f fd) (gB : mg "FoldError" = some (.ref ((GY K ca T).ca "FoldError"))) (b : BasI K ((GY K ca T).ca "FoldError")) : FnOk P w K mg base (L2N.CX P w) 1 f fd ["self", "name"] (spX K "name") :=
  F.ok sc_NoTableU_initU (fun vs H Q E h => by obtain ⟨_, _, _, rfl, _⟩ := h; rfl) fun cdv A outer s H vs Q E hr h => ⟨_, pss_cons (ps_expr (pe_feinit (x := "FoldError") rfl gB b (pa_cons (sv (Y := GY K ca T) (W := W0) 0).pe (pa_cons (s_str (Y := GY K ca T) (W := W0)).pe pa_nil)))) (pss_one (ps_ost (sv (Y := GY K ca T) (W := W0) 0).pe (sv (Y := GY K ca T) (W := W0) 1).pe)), xinit_post rfl h⟩
abbrev N_NoSideU_initU : List Str := ["self", "name"]
theorem sc_NoSideU_initU : FnScope N_NoSideU_initU ["self", "name"] (defScope s_NoSideU_initU) := ⟨rfl, rfl, rfl, by decide +kernel, rfl, by decide +kernel, by decide +kernel⟩
theorem ok_NoSideU_initU {f : Addr} {fd : FuncData} (F : FnPk K "__init__" "NoSide.__init__" s_NoSideU_initU [] [] f fd) (gB : mg "FoldError" = some (.ref ((GY K ca T).ca "FoldError"))) (b : BasI K ((GY K ca T).ca "FoldError")) : FnOk P w K mg base (L2N.CX P w) 1 f fd ["self", "name"] (spX K "name") :=
  F.ok sc_NoSideU_initU (fun vs H Q E h => by obtain ⟨_, _, _, rfl, _⟩ := h; rfl) fun cdv A outer s H vs Q E hr h => ⟨_, pss_cons (ps_expr (pe_feinit (x := "FoldError") rfl gB b (pa_cons (sv (Y := GY K ca T) (W := W0) 0).pe (pa_cons (s_str (Y := GY K ca T) (W := W0)).pe pa_nil)))) (pss_one (ps_ost (sv (Y := GY K ca T) (W := W0) 0).pe (sv (Y := GY K ca T) (W := W0) 1).pe)), xinit_post rfl h⟩
abbrev N__law_box : List Str := ["_law_script"]
theorem sc__law_box : FnScope N__law_box ["_law_script"] (defScope s__law_box) := ⟨rfl, rfl, rfl, by decide +kernel, rfl, by decide +kernel, by decide +kernel⟩
theorem ok__law_box {f : Addr} {fd : FuncData} (F : FnPk K "_law_box" "_law_box" s__law_box [] [] f fd) (B : Bl mg) : FnOk P w K mg base (L2N.CX P w) 1 f fd ["_law_script"] (spOf (GY K ca T) 1 m__law_box) :=
  fn_sim (GY K ca T) F sc__law_box rfl fun cdv A outer s H E hr tk po => by
  have nd := sc__law_box.nd
  exact ⟨_, (b_one (t_retF (f_lst (a_cons (SF.val (f_ct co_list call_list_of B.list PyProof.Rows.boot_list (a_cons (SF.val (f_sl (sv 0) o_none (o_some s_int))) a_nil))) (a_cons s_int (a_cons s_int (a_cons s_int a_nil)))))))⟩
abbrev N__law_take : List Str := ["_law_box_here", "_law_sides", "_law_tail", "_law_cell", "_law_seed"]
theorem sc__law_take : FnScope N__law_take ["_law_box_here", "_law_sides"] (defScope s__law_take) := ⟨rfl, rfl, rfl, by decide +kernel, rfl, by decide +kernel, by decide +kernel⟩
theorem ok__law_take {f : Addr} {fd : FuncData} (F : FnPk K "_law_take" "_law_take" s__law_take [] [] f fd) (B : Bl mg) : FnOk P w K mg base (L2N.CX P w) 1 f fd ["_law_box_here", "_law_sides"] (spOf (GY K ca T) 2 m__law_take) :=
  fn_sim (GY K ca T) F sc__law_take rfl fun cdv A outer s H E hr tk po => by
  have nd := sc__law_take.nd
  exact ⟨_, (b_cons (t_if (c_cmp od_gt op_gt (s_ix od_ix ix_lt (sv 0) s_int (fun _ _ => rfl)) s_int (nomark _)) (b_cons (u_set 2 (s_ix od_ix ix_lt (sv 0) s_int (fun _ _ => rfl)) nd)
    (b_cons (t_put 0 s_int (s_op od_div op_fdivN (sv 2) (sv 1)))
    (b_one (t_ret (s_op od_mod op_modN (sv 2) (sv 1)))))) b_nil)
    (b_cons (u_set 3 s_int nd)
    (b_cons (t_if (c_cmp od_lt op_lt (s_ix od_ix ix_lt (sv 0) s_int (fun _ _ => rfl)) (s_cb cd_len cr_len B.len PySem.boot_len (a_cons (s_ix od_ix ix_lt (sv 0) s_int (fun _ _ => rfl)) a_nil)) (nomark _)) (b_cons (u_set 3 (s_ix od_ix ix_lt (s_ix od_ix ix_lt (sv 0) s_int (fun _ _ => rfl)) (s_ix od_ix ix_lt (sv 0) s_int (fun _ _ => rfl)) (fun _ _ => rfl)) nd)
    (b_one (t_augC ip_add (sv 0) s_int s_int))) b_nil)
    (b_cons (t_if (c_cmp od_ge op_ge (sv 3) (s_op od_pow op_pow s_int s_int) (nomark _)) (b_cons (t_put 0 s_int (s_op od_div op_fdivN (sv 3) (sv 1)))
    (b_one (t_ret (s_op od_mod op_modN (sv 3) (sv 1))))) b_nil)
    (b_cons (u_set 4 (s_ix od_ix ix_lt (sv 0) s_int (fun _ _ => rfl)) nd)
    (b_cons (t_put 0 s_int (s_op od_mod op_modN (s_op od_add op_addD (s_op od_add op_addD (s_op od_add op_addD (s_op od_pow op_pow (sv 4) s_int) (s_op od_mul op_mul s_int (sv 4))) (s_op od_mul op_mul s_int (s_op od_mod op_modN (sv 3) s_int))) s_int) s_int))
    (b_one (t_ret (s_op od_mod op_modN (s_op od_div op_fdivN (s_ix od_ix ix_lt (sv 0) s_int (fun _ _ => rfl)) s_int) (sv 1))))))))))⟩
abbrev N__law_shuffled : List Str := ["_law_box_here", "_law_some", "_law_found", "_law_one"]
theorem sc__law_shuffled : FnScope N__law_shuffled ["_law_box_here", "_law_some"] (defScope s__law_shuffled) := ⟨rfl, rfl, rfl, by decide +kernel, rfl, by decide +kernel, by decide +kernel⟩
theorem ok__law_shuffled {f : Addr} {fd : FuncData} (F : FnPk K "_law_shuffled" "_law_shuffled" s__law_shuffled [] [] f fd) (B : Bl mg) (h__law_take : Kn P w K mg base (GY K ca T) 1 "_law_take" 2 m__law_take [] []) : FnOk P w K mg base (L2N.CX P w) 2 f fd ["_law_box_here", "_law_some"] (spOf (GY K ca T) 2 m__law_shuffled) :=
  fn_sim (GY K ca T) F sc__law_shuffled rfl fun cdv A outer s H E hr tk po => by
  have nd := sc__law_shuffled.nd
  exact ⟨_, (b_cons (u_own 2 (f_lst a_nil) nd)
    (b_cons (t_for po (i_seq (sv 1)) (u_g 3 nd) (b_one (t_ins 2 (u_call h__law_take (hr.mono (by decide)) tk (a_cons (sv 0) (a_cons (s_op od_add op_addD (u_lenA 2 B.len) s_int) a_nil))) (sv 3))))
    (b_one (t_retO 2))))⟩
abbrev N__law_frame : List Str := ["_law_box_here", "_law_names", "_law_frame_here", "_law_k", "_law_name", "_law_count"]
theorem sc__law_frame : FnScope N__law_frame ["_law_box_here"] (defScope s__law_frame) := ⟨rfl, rfl, rfl, by decide +kernel, rfl, by decide +kernel, by decide +kernel⟩
theorem ok__law_frame {f : Addr} {fd : FuncData} (F : FnPk K "_law_frame" "_law_frame" s__law_frame [] [] f fd) (B : Bl mg) (h__law_shuffled : Kn P w K mg base (GY K ca T) 2 "_law_shuffled" 2 m__law_shuffled [] []) (h__law_take : Kn P w K mg base (GY K ca T) 1 "_law_take" 2 m__law_take [] []) : FnOk P w K mg base (L2N.CX P w) 3 f fd ["_law_box_here"] (spOf (GY K ca T) 1 m__law_frame) :=
  fn_sim (GY K ca T) F sc__law_frame rfl fun cdv A outer s H E hr tk po => by
  have nd := sc__law_frame.nd
  exact ⟨_, (b_cons (u_set 1 (u_call h__law_shuffled (hr.mono (by decide)) tk (a_cons (sv 0) (a_cons (SF.val (f_lst (a_cons s_str (a_cons s_str (a_cons s_str (a_cons s_str (a_cons s_str a_nil))))))) a_nil))) nd)
    (b_cons (t_setLc (i := 2) (own := [("_law_k", 3)]) nd rfl rfl (sw_true rfl rfl rfl (by decide +kernel)) (i_range1 B.range (a_cons (s_op od_add op_addD s_int (u_call h__law_take (hr.mono (by decide)) tk (a_cons (sv 0) (a_cons s_int a_nil)))) a_nil)) (blkOk_by (own := [("_law_k", 3)]) (N := N__law_frame) (sc := defScope s__law_frame) (by decide +kernel)) (fun _ _ _ _ _ => (u_g 3 nd)) (fun _ _ _ _ _ => ts_nil) (fun _ _ _ _ _ => (s_tup (a_cons (s_ix od_ix ix_lt (sv 1) (sv 3) (fun _ _ => rfl)) (a_cons (u_call h__law_take (hr.mono (by decide)) takesN (a_cons (sv 0) (a_cons s_int a_nil))) a_nil)))))
    (b_one (t_ret (s_if (c_cmp od_lt op_lt (s_cb cd_sum (cr_sum rfl) B.sum (by decide +kernel : bootBuiltins "sum" = some (.builtin "sum")) (a_cons (SF.val (f_lc (own := [("_law_name", 4), ("_law_count", 5)]) nd (i_seq (sv 2)) (blkOk_by (own := [("_law_name", 4), ("_law_count", 5)]) (N := N__law_frame) (sc := defScope s__law_frame) (by decide +kernel)) (fun _ _ _ _ _ => (g_tup (gs_cons (u_g 4 nd) (gs_cons (u_g 5 nd) gs_nil)))) (fun _ _ _ _ _ => ts_nil) (fun _ _ _ _ _ => (sv 5)))) a_nil)) s_int (nomark _)) (sv 2) (SF.val (f_sl (sv 2) o_none (o_some s_int))))))))⟩
abbrev N__law_some_sides : List Str := ["_law_box_here", "_law_frame_here", "_law_name", "_law_count"]
theorem sc__law_some_sides : FnScope N__law_some_sides ["_law_box_here", "_law_frame_here"] (defScope s__law_some_sides) := ⟨rfl, rfl, rfl, by decide +kernel, rfl, by decide +kernel, by decide +kernel⟩
theorem ok__law_some_sides {f : Addr} {fd : FuncData} (F : FnPk K "_law_some_sides" "_law_some_sides" s__law_some_sides [] [] f fd) (h__law_take : Kn P w K mg base (GY K ca T) 1 "_law_take" 2 m__law_take [] []) : FnOk P w K mg base (L2N.CX P w) 2 f fd ["_law_box_here", "_law_frame_here"] (spOf (GY K ca T) 2 m__law_some_sides) :=
  fn_sim (GY K ca T) F sc__law_some_sides rfl fun cdv A outer s H E hr tk po => by
  have nd := sc__law_some_sides.nd
  exact ⟨_, (b_one (t_retF (f_lc (own := [("_law_name", 2), ("_law_count", 3)]) nd (i_seq (sv 1)) (blkOk_by (own := [("_law_name", 2), ("_law_count", 3)]) (N := N__law_some_sides) (sc := defScope s__law_some_sides) (by decide +kernel)) (fun _ _ _ _ _ => (g_tup (gs_cons (u_g 2 nd) (gs_cons (u_g 3 nd) gs_nil)))) (fun _ _ _ _ _ => (ts_one (c_cmp od_gt op_gt (u_call h__law_take (hr.mono (by decide)) takesN (a_cons (sv 0) (a_cons s_int a_nil))) s_int (nomark _)))) (fun _ _ _ _ _ => (sv 2)))))⟩
abbrev N__law_count_in : List Str := ["_law_frame_here", "_law_sides", "_law_name", "_law_count"]
theorem sc__law_count_in : FnScope N__law_count_in ["_law_frame_here", "_law_sides"] (defScope s__law_count_in) := ⟨rfl, rfl, rfl, by decide +kernel, rfl, by decide +kernel, by decide +kernel⟩
theorem ok__law_count_in {f : Addr} {fd : FuncData} (F : FnPk K "_law_count_in" "_law_count_in" s__law_count_in [] [] f fd) (B : Bl mg) : FnOk P w K mg base (L2N.CX P w) 1 f fd ["_law_frame_here", "_law_sides"] (spOf (GY K ca T) 2 m__law_count_in) :=
  fn_sim (GY K ca T) F sc__law_count_in rfl fun cdv A outer s H E hr tk po => by
  have nd := sc__law_count_in.nd
  exact ⟨_, (b_one (t_ret (s_cb cd_sum (cr_sum rfl) B.sum (by decide +kernel : bootBuiltins "sum" = some (.builtin "sum")) (a_cons (SF.val (f_lc (own := [("_law_name", 2), ("_law_count", 3)]) nd (i_seq (sv 0)) (blkOk_by (own := [("_law_name", 2), ("_law_count", 3)]) (N := N__law_count_in) (sc := defScope s__law_count_in) (by decide +kernel)) (fun _ _ _ _ _ => (g_tup (gs_cons (u_g 2 nd) (gs_cons (u_g 3 nd) gs_nil)))) (fun _ _ _ _ _ => (ts_one (c_cmp od_inX op_in_seq (sv 2) (sv 1) (by rfl)))) (fun _ _ _ _ _ => (sv 3)))) a_nil))))⟩
abbrev N__law_of : List Str := ["_law_box_here", "_law_some"]
theorem sc__law_of : FnScope N__law_of ["_law_box_here", "_law_some"] (defScope s__law_of) := ⟨rfl, rfl, rfl, by decide +kernel, rfl, by decide +kernel, by decide +kernel⟩
theorem ok__law_of {f : Addr} {fd : FuncData} (F : FnPk K "_law_of" "_law_of" s__law_of [] [] f fd) (B : Bl mg) (h__law_take : Kn P w K mg base (GY K ca T) 1 "_law_take" 2 m__law_take [] []) : FnOk P w K mg base (L2N.CX P w) 2 f fd ["_law_box_here", "_law_some"] (spOf (GY K ca T) 2 m__law_of) :=
  fn_sim (GY K ca T) F sc__law_of rfl fun cdv A outer s H E hr tk po => by
  have nd := sc__law_of.nd
  exact ⟨_, (b_one (t_ret (s_ix od_ix ix_lt (sv 1) (u_call h__law_take (hr.mono (by decide)) tk (a_cons (sv 0) (a_cons (s_cb cd_len cr_len B.len PySem.boot_len (a_cons (sv 1) a_nil)) a_nil))) (fun _ _ => rfl))))⟩
abbrev N__law_cells : List Str := ["_law_box_here", "_law_many", "_law_top", "_law_cell"]
theorem sc__law_cells : FnScope N__law_cells ["_law_box_here", "_law_many"] (defScope s__law_cells) := ⟨rfl, rfl, rfl, by decide +kernel, rfl, by decide +kernel, by decide +kernel⟩
theorem ok__law_cells {f : Addr} {fd : FuncData} (F : FnPk K "_law_cells" "_law_cells" s__law_cells [] [] f fd) (B : Bl mg) (h__law_of : Kn P w K mg base (GY K ca T) 2 "_law_of" 2 m__law_of [] []) (h__law_take : Kn P w K mg base (GY K ca T) 1 "_law_take" 2 m__law_take [] []) : FnOk P w K mg base (L2N.CX P w) 3 f fd ["_law_box_here", "_law_many"] (spOf (GY K ca T) 2 m__law_cells) :=
  fn_sim (GY K ca T) F sc__law_cells rfl fun cdv A outer s H E hr tk po => by
  have nd := sc__law_cells.nd
  exact ⟨_, (b_cons (u_set 2 (u_call h__law_of (hr.mono (by decide)) tk (a_cons (sv 0) (a_cons (SF.val (f_lst (a_cons s_int (a_cons s_int (a_cons s_int a_nil))))) a_nil))) nd)
    (b_one (t_ret (s_ct cd_tup call_tuple_of B.tuple PyProof.Rows.boot_tuple (a_cons (SF.val (f_lc (own := [("_law_cell", 3)]) nd (i_range1 B.range (a_cons (s_op od_shl op_shl s_int (sv 1)) a_nil)) (blkOk_by (own := [("_law_cell", 3)]) (N := N__law_cells) (sc := defScope s__law_cells) (by decide +kernel)) (fun _ _ _ _ _ => (u_g 3 nd)) (fun _ _ _ _ _ => ts_nil) (fun _ _ _ _ _ => (s_op od_sub op_sub (u_call h__law_take (hr.mono (by decide)) takesN (a_cons (sv 0) (a_cons (sv 2) a_nil))) (s_op od_div op_fdivN (sv 2) s_int))))) a_nil)))))⟩
abbrev N__law_numbers : List Str := ["_law_box_here", "_law_count", "_law_many", "_law_at"]
theorem sc__law_numbers : FnScope N__law_numbers ["_law_box_here", "_law_count", "_law_many"] (defScope s__law_numbers) := ⟨rfl, rfl, rfl, by decide +kernel, rfl, by decide +kernel, by decide +kernel⟩
theorem ok__law_numbers {f : Addr} {fd : FuncData} (F : FnPk K "_law_numbers" "_law_numbers" s__law_numbers [] [] f fd) (B : Bl mg) (h__law_take : Kn P w K mg base (GY K ca T) 1 "_law_take" 2 m__law_take [] []) : FnOk P w K mg base (L2N.CX P w) 2 f fd ["_law_box_here", "_law_count", "_law_many"] (spOf (GY K ca T) 3 m__law_numbers) :=
  fn_sim (GY K ca T) F sc__law_numbers rfl fun cdv A outer s H E hr tk po => by
  have nd := sc__law_numbers.nd
  exact ⟨_, (b_one (t_retF (f_lc (own := [("_law_at", 3)]) nd (i_range1 B.range (a_cons (sv 1) a_nil)) (blkOk_by (own := [("_law_at", 3)]) (N := N__law_numbers) (sc := defScope s__law_numbers) (by decide +kernel)) (fun _ _ _ _ _ => (u_g 3 nd)) (fun _ _ _ _ _ => ts_nil) (fun _ _ _ _ _ => (u_call h__law_take (hr.mono (by decide)) takesN (a_cons (sv 0) (a_cons (s_op od_shl op_shl s_int (sv 2)) a_nil)))))))⟩
abbrev N__law_lines : List Str := ["_law_box_here", "_law_deep", "_law_many", "_law_lines_here", "_law_turn", "_law_one", "_law_far", "_law_at", "_law_line"]
theorem sc__law_lines : FnScope N__law_lines ["_law_box_here", "_law_deep", "_law_many"] (defScope s__law_lines) := ⟨rfl, rfl, rfl, by decide +kernel, rfl, by decide +kernel, by decide +kernel⟩
theorem ok__law_lines {f : Addr} {fd : FuncData} (F : FnPk K "_law_lines" "_law_lines" s__law_lines [] [] f fd) (B : Bl mg) (h__law_numbers : Kn P w K mg base (GY K ca T) 2 "_law_numbers" 3 m__law_numbers [] []) (h__law_shuffled : Kn P w K mg base (GY K ca T) 2 "_law_shuffled" 2 m__law_shuffled [] []) (h__law_take : Kn P w K mg base (GY K ca T) 1 "_law_take" 2 m__law_take [] []) : FnOk P w K mg base (L2N.CX P w) 3 f fd ["_law_box_here", "_law_deep", "_law_many"] (spOf (GY K ca T) 3 m__law_lines) :=
  fn_sim (GY K ca T) F sc__law_lines rfl fun cdv A outer s H E hr tk po => by
  have nd := sc__law_lines.nd
  exact ⟨_, (b_cons (t_ownLc (i := 3) (own := [("_law_at", 7)]) nd rfl rfl (sw_true rfl rfl rfl (by decide +kernel)) (i_range1 B.range (a_cons (sv 2) a_nil)) (blkOk_by (own := [("_law_at", 7)]) (N := N__law_lines) (sc := defScope s__law_lines) (by decide +kernel)) (fun _ _ _ _ _ => (u_g 7 nd)) (fun _ _ _ _ _ => ts_nil) (fun _ _ _ _ _ => (s_op od_shl op_shl s_int (sv 7))))
    (b_frz 3 (b_cons (u_own 3 (v_call h__law_shuffled (hr.mono (by decide)) tk (a_cons (sv 0) (a_cons (s_op od_add op_addD (sv 3) (u_call h__law_numbers (hr.mono (by decide)) tk (a_cons (sv 0) (a_cons (s_op od_sub op_sub (sv 1) (sv 2)) (a_cons (sv 2) a_nil))))) a_nil))) nd)
    (b_cons (t_for po (i_range1 B.range (a_cons (s_op od_mul op_mul (u_call h__law_take (hr.mono (by decide)) tk (a_cons (sv 0) (a_cons s_int a_nil))) (s_ct cd_int call_int1 B.int PyProof.Rows.boot_int (a_cons (s_cmp od_gt op_gt (sv 1) s_int (nomark _)) a_nil))) a_nil)) (u_g 4 nd) (b_cons (u_set 5 (u_call h__law_take (hr.mono (by decide)) tk (a_cons (sv 0) (a_cons (sv 1) a_nil))) nd)
    (b_cons (u_set 6 (s_op od_add op_addD (s_op od_add op_addD (sv 5) s_int) (u_call h__law_take (hr.mono (by decide)) tk (a_cons (sv 0) (a_cons (s_op od_sub op_sub (sv 1) s_int) a_nil)))) nd)
    (b_one (t_put 3 (sv 5) (s_op od_xor op_xor (u_ixA 3 (sv 5) (fun _ _ => rfl)) (u_ixA 3 (s_op od_mod op_modN (sv 6) (sv 1)) (fun _ _ => rfl))))))))
    (b_cons (t_for po (i_range1 B.range (a_cons (s_op od_mul op_mul (u_call h__law_take (hr.mono (by decide)) tk (a_cons (sv 0) (a_cons s_int a_nil))) (s_ct cd_int call_int1 B.int PyProof.Rows.boot_int (a_cons (s_cmp od_gt op_gt (sv 2) s_int (nomark _)) a_nil))) a_nil)) (u_g 4 nd) (b_cons (u_set 5 (u_call h__law_take (hr.mono (by decide)) tk (a_cons (sv 0) (a_cons (sv 2) a_nil))) nd)
    (b_cons (u_set 6 (s_op od_mod op_modN (s_op od_add op_addD (s_op od_add op_addD (sv 5) s_int) (u_call h__law_take (hr.mono (by decide)) tk (a_cons (sv 0) (a_cons (s_op od_sub op_sub (sv 2) s_int) a_nil)))) (sv 2)) nd)
    (b_frz 3 (b_one (t_ownLc (i := 3) (own := [("_law_line", 8)]) nd rfl rfl (sw_true rfl rfl rfl (by decide +kernel)) (i_seq (sv 3)) (blkOk_by (own := [("_law_line", 8)]) (N := N__law_lines) (sc := defScope s__law_lines) (by decide +kernel)) (fun _ _ _ _ _ => (u_g 8 nd)) (fun _ _ _ _ _ => ts_nil) (fun _ _ _ _ _ => (s_op od_xor op_xor (sv 8) (s_op od_shl op_shl (s_op od_and op_and (s_op od_shr op_shr (sv 8) (sv 5)) s_int) (sv 6))))))))))
    (b_frz 3 (b_one (t_ret (s_ct cd_tup call_tuple_of B.tuple PyProof.Rows.boot_tuple (a_cons (sv 3) a_nil))))))))))⟩
abbrev N__law_tables : List Str := ["_law_box_here", "_law_frame_here", "_law_deep", "_law_count", "_law_found", "_law_name", "_law_sides", "_law_many"]
theorem sc__law_tables : FnScope N__law_tables ["_law_box_here", "_law_frame_here", "_law_deep", "_law_count"] (defScope s__law_tables) := ⟨rfl, rfl, rfl, by decide +kernel, rfl, by decide +kernel, by decide +kernel⟩
theorem ok__law_tables {f : Addr} {fd : FuncData} (F : FnPk K "_law_tables" "_law_tables" s__law_tables [] [] f fd) (h__law_some_sides : Kn P w K mg base (GY K ca T) 2 "_law_some_sides" 2 m__law_some_sides [] []) (h__law_count_in : Kn P w K mg base (GY K ca T) 1 "_law_count_in" 2 m__law_count_in [] []) (h__law_cells : Kn P w K mg base (GY K ca T) 3 "_law_cells" 2 m__law_cells [] []) (h__law_lines : Kn P w K mg base (GY K ca T) 3 "_law_lines" 3 m__law_lines [] []) : FnOk P w K mg base (L2N.CX P w) 4 f fd ["_law_box_here", "_law_frame_here", "_law_deep", "_law_count"] (spOf (GY K ca T) 4 m__law_tables) :=
  fn_sim (GY K ca T) F sc__law_tables rfl fun cdv A outer s H E hr tk po => by
  have nd := sc__law_tables.nd
  exact ⟨_, (b_cons (u_own 4 (f_dic0) nd)
    (b_cons (t_for po (i_seq (SF.val (f_sl (SF.val (f_lst (a_cons s_str (a_cons s_str (a_cons s_str (a_cons s_str (a_cons s_str a_nil))))))) o_none (o_some (sv 3))))) (u_g 5 nd) (b_cons (u_set 6 (u_call h__law_some_sides (hr.mono (by decide)) tk (a_cons (sv 0) (a_cons (sv 1) a_nil))) nd)
    (b_cons (u_set 7 (u_call h__law_count_in (hr.mono (by decide)) tk (a_cons (sv 1) (a_cons (sv 6) a_nil))) nd)
    (b_one (t_dputA 4 hr.units (sv 5) (s_tup (a_cons (sv 6) (a_cons (u_call h__law_lines (hr.mono (by decide)) tk (a_cons (sv 0) (a_cons (sv 2) (a_cons (sv 7) a_nil)))) (a_cons (u_call h__law_cells (hr.mono (by decide)) tk (a_cons (sv 0) (a_cons (sv 7) a_nil))) a_nil)))))))))
    (b_one (t_retO 4))))⟩
abbrev N__law_sides_of : List Str := ["_law_tree_here", "_law_frame_here", "_law_known", "_law_some", "_law_side", "_law_name", "_law_count"]
theorem sc__law_sides_of : FnScope N__law_sides_of ["_law_tree_here", "_law_frame_here", "_law_known"] (defScope s__law_sides_of) := ⟨rfl, rfl, rfl, by decide +kernel, rfl, by decide +kernel, by decide +kernel⟩
theorem ok__law_sides_of {f : Addr} {fd : FuncData} (F : FnP K "_law_sides_of" "_law_sides_of" s__law_sides_of [] f fd) (g : mg "_law_sides_of" = some (.ref f)) (b : Binds K fd ["_law_tree_here", "_law_frame_here", "_law_known"] [])  : ∀ n, FnOk P w K mg base (L2N.CX P w) (n + 1) f fd ["_law_tree_here", "_law_frame_here", "_law_known"] (spOf (GY K ca T) 3 (m__law_sides_of n))
  | 0 => ⟨fun vs H Q E h => h.1, fun A outer s H args us vs Q E hr e0 hb rv h => by
    obtain ⟨_, _, _, _, _, _, z⟩ := h
    exact False.elim z⟩
  | n + 1 => by
    have ih := kn_of F g b (ok__law_sides_of F g b n)
    exact fn_sim (GY K ca T) F sc__law_sides_of rfl fun cdv A outer s H E hr tk po => by
      have nd := sc__law_sides_of.nd
      exact ⟨_, (b_cons (t_if (c_cmp od_eq (op_eqD hr.units) (s_ix od_ix ix_lt (sv 0) s_int (fun _ _ => rfl)) s_str (nomark _)) (b_one (t_ret (s_ix od_ix ix_lt (s_dgetA 2 hr.units (s_ix od_ix ix_lt (sv 0) s_int (fun _ _ => rfl)) (fun _ _ => rfl)) s_int (fun _ _ => rfl)))) b_nil)
    (b_cons (t_if (c_cmp od_eq (op_eqD hr.units) (s_ix od_ix ix_lt (sv 0) s_int (fun _ _ => rfl)) s_str (nomark _)) (b_one (t_retF (f_lc (own := [("_law_side", 4)]) nd (i_seq (u_call ih (hr.mono (by omega)) tk (a_cons (s_ix od_ix ix_lt (sv 0) s_int (fun _ _ => rfl)) (a_cons (sv 1) (a_cons (sv 2) a_nil))))) (blkOk_by (own := [("_law_side", 4)]) (N := N__law_sides_of) (sc := defScope s__law_sides_of) (by decide +kernel)) (fun _ _ _ _ _ => (u_g 4 nd)) (fun _ _ _ _ _ => (ts_one (c_cmp od_ne (op_neD hr.units) (sv 4) (s_ix od_ix ix_lt (sv 0) s_int (fun _ _ => rfl)) (nomark _)))) (fun _ _ _ _ _ => (sv 4))))) b_nil)
    (b_cons (u_set 3 (s_op od_add op_addD (u_call ih (hr.mono (by omega)) tk (a_cons (s_ix od_ix ix_lt (sv 0) s_int (fun _ _ => rfl)) (a_cons (sv 1) (a_cons (sv 2) a_nil)))) (u_call ih (hr.mono (by omega)) tk (a_cons (s_ix od_ix ix_lt (sv 0) s_int (fun _ _ => rfl)) (a_cons (sv 1) (a_cons (sv 2) a_nil))))) nd)
    (b_one (t_retF (f_lc (own := [("_law_name", 5), ("_law_count", 6)]) nd (i_seq (sv 1)) (blkOk_by (own := [("_law_name", 5), ("_law_count", 6)]) (N := N__law_sides_of) (sc := defScope s__law_sides_of) (by decide +kernel)) (fun _ _ _ _ _ => (g_tup (gs_cons (u_g 5 nd) (gs_cons (u_g 6 nd) gs_nil)))) (fun _ _ _ _ _ => (ts_one (c_cmp od_inX op_in_seq (sv 5) (sv 3) (by rfl)))) (fun _ _ _ _ _ => (sv 5))))))))⟩
abbrev N__law_tree : List Str := ["_law_box_here", "_law_frame_here", "_law_known", "_law_depth", "_law_way", "_law_tree_here", "_law_sides", "_law_kind"]
theorem sc__law_tree : FnScope N__law_tree ["_law_box_here", "_law_frame_here", "_law_known", "_law_depth"] (defScope s__law_tree) := ⟨rfl, rfl, rfl, by decide +kernel, rfl, by decide +kernel, by decide +kernel⟩
theorem ok__law_tree {f : Addr} {fd : FuncData} (F : FnP K "_law_tree" "_law_tree" s__law_tree [] f fd) (g : mg "_law_tree" = some (.ref f)) (b : Binds K fd ["_law_box_here", "_law_frame_here", "_law_known", "_law_depth"] [])  (B : Bl mg) (h__law_take : Kn P w K mg base (GY K ca T) 1 "_law_take" 2 m__law_take [] []) (h__law_of : Kn P w K mg base (GY K ca T) 2 "_law_of" 2 m__law_of [] []) (h__law_sides_of : ∀ n, Kn P w K mg base (GY K ca T) (n + 1) "_law_sides_of" 3 (m__law_sides_of n) [] []) : ∀ n, FnOk P w K mg base (L2N.CX P w) (n + 14) f fd ["_law_box_here", "_law_frame_here", "_law_known", "_law_depth"] (spOf (GY K ca T) 4 (m__law_tree n))
  | 0 => ⟨fun vs H Q E h => h.1, fun A outer s H args us vs Q E hr e0 hb rv h => by
    obtain ⟨_, _, _, _, _, _, z⟩ := h
    exact False.elim z⟩
  | n + 1 => by
    have ih := kn_of F g b (ok__law_tree F g b B h__law_take h__law_of h__law_sides_of n)
    exact fn_sim (GY K ca T) F sc__law_tree rfl fun cdv A outer s H E hr tk po => by
      have nd := sc__law_tree.nd
      exact ⟨_, (b_cons (u_set 4 (u_call h__law_take (hr.mono (by omega)) tk (a_cons (sv 0) (a_cons s_int a_nil))) nd)
    (b_cons (t_if (SW.sc (w_or (c_cmp od_eq (op_eqD hr.units) (sv 3) s_int (nomark _)) (w_or1 (c_cmp od_eq (op_eqD hr.units) (sv 4) s_int (nomark _))))) (b_one (t_ret (s_tup (a_cons s_str (a_cons (u_call h__law_of (hr.mono (by omega)) tk (a_cons (sv 0) (a_cons (SF.val (f_cb co_sortedD (call_sortedD rfl) B.sorted PyProof.Rows.boot_sorted (a_cons (sv 2) a_nil))) a_nil))) a_nil))))) b_nil)
    (b_cons (u_set 5 (u_call ih (hr.mono (by omega)) tk (a_cons (sv 0) (a_cons (sv 1) (a_cons (sv 2) (a_cons (s_op od_sub op_sub (sv 3) s_int) a_nil))))) nd)
    (b_cons (t_if (c_cmp od_eq (op_eqD hr.units) (sv 4) s_int (nomark _)) (b_cons (u_set 6 (u_call (h__law_sides_of 12) (hr.mono (by omega)) tk (a_cons (sv 5) (a_cons (sv 1) (a_cons (sv 2) a_nil)))) nd)
    (b_one (t_ret (s_if (c_cmp od_ne (op_neD hr.units) (sv 6) (SF.val (f_lst a_nil)) (nomark _)) (s_tup (a_cons s_str (a_cons (u_call h__law_of (hr.mono (by omega)) tk (a_cons (sv 0) (a_cons (sv 6) a_nil))) (a_cons (sv 5) a_nil)))) (sv 5))))) b_nil)
    (b_cons (u_set 7 (u_call h__law_of (hr.mono (by omega)) tk (a_cons (sv 0) (a_cons (SF.val (f_lst (a_cons s_str (a_cons s_str (a_cons s_str (a_cons s_str a_nil)))))) a_nil))) nd)
    (b_one (t_ret (s_tup (a_cons (sv 7) (a_cons (sv 5) (a_cons (u_call ih (hr.mono (by omega)) tk (a_cons (sv 0) (a_cons (sv 1) (a_cons (sv 2) (a_cons (s_cb cd_max2 (call_max2 rfl) B.max (by decide +kernel : bootBuiltins "max" = some (.builtin "max")) (a_cons s_int (a_cons (s_op od_sub op_sub (s_op od_sub op_sub (sv 3) s_int) (u_call h__law_take (hr.mono (by omega)) tk (a_cons (sv 0) (a_cons s_int a_nil)))) a_nil))) a_nil))))) a_nil)))))))))))⟩
abbrev N__law_triples : List Str := ["_law_box_here", "_law_known", "_law_found", "_law_name", "_law_sides", "_law_lines_here", "_law_cells_here"]
theorem sc__law_triples : FnScope N__law_triples ["_law_box_here", "_law_known"] (defScope s__law_triples) := ⟨rfl, rfl, rfl, by decide +kernel, rfl, by decide +kernel, by decide +kernel⟩
theorem ok__law_triples {f : Addr} {fd : FuncData} (F : FnPk K "_law_triples" "_law_triples" s__law_triples [] [] f fd) (B : Bl mg) (h__law_shuffled : Kn P w K mg base (GY K ca T) 2 "_law_shuffled" 2 m__law_shuffled [] []) : FnOk P w K mg base (L2N.CX P w) 3 f fd ["_law_box_here", "_law_known"] (spOf (GY K ca T) 2 m__law_triples) :=
  fn_sim (GY K ca T) F sc__law_triples rfl fun cdv A outer s H E hr tk po => by
  have nd := sc__law_triples.nd
  exact ⟨_, (b_cons (u_own 2 (f_lst a_nil) nd)
    (b_cons (t_for po (i_seq (u_call h__law_shuffled (hr.mono (by decide)) tk (a_cons (sv 0) (a_cons (SF.val (f_cb co_sortedD (call_sortedD rfl) B.sorted PyProof.Rows.boot_sorted (a_cons (sv 1) a_nil))) a_nil)))) (u_g 3 nd) (b_cons (t_asg (s_dgetA 1 hr.units (sv 3) (fun _ _ => rfl)) (g_tup (gs_cons (u_g 4 nd) (gs_cons (u_g 5 nd) (gs_cons (u_g 6 nd) gs_nil)))))
    (b_one (t_app 2 (s_tup (a_cons (sv 3) (a_cons (u_call h__law_shuffled (hr.mono (by decide)) tk (a_cons (sv 0) (a_cons (sv 4) a_nil))) (a_cons (SF.val (f_ct co_list call_list_of B.list PyProof.Rows.boot_list (a_cons (sv 6) a_nil))) a_nil))))))))
    (b_one (t_retO 2))))⟩
abbrev N__law_spread_out : List Str := ["_law_frame_here", "_law_sides", "_law_cell", "_law_found", "_law_start", "_law_name", "_law_count"]
theorem sc__law_spread_out : FnScope N__law_spread_out ["_law_frame_here", "_law_sides", "_law_cell"] (defScope s__law_spread_out) := ⟨rfl, rfl, rfl, by decide +kernel, rfl, by decide +kernel, by decide +kernel⟩
theorem ok__law_spread_out {f : Addr} {fd : FuncData} (F : FnPk K "_law_spread_out" "_law_spread_out" s__law_spread_out [] [] f fd) : FnOk P w K mg base (L2N.CX P w) 1 f fd ["_law_frame_here", "_law_sides", "_law_cell"] (spOf (GY K ca T) 3 m__law_spread_out) :=
  fn_sim (GY K ca T) F sc__law_spread_out rfl fun cdv A outer s H E hr tk po => by
  have nd := sc__law_spread_out.nd
  exact ⟨_, (b_cons (u_set 3 s_int nd)
    (b_cons (u_set 4 s_int nd)
    (b_cons (t_for po (i_seq (sv 0)) (g_tup (gs_cons (u_g 5 nd) (gs_cons (u_g 6 nd) gs_nil))) (b_cons (t_if (c_cmp od_inX op_in_seq (sv 5) (sv 1) (by rfl)) (b_cons (u_set 3 (s_op od_or op_or (sv 3) (s_op od_shl op_shl (s_op od_mod op_modN (sv 2) (s_op od_shl op_shl s_int (sv 6))) (sv 4))) nd)
    (b_one (u_set 2 (s_op od_shr op_shr (sv 2) (sv 6)) nd))) b_nil)
    (b_one (u_aug 4 ip_add (sv 6) nd))))
    (b_one (t_ret (sv 3))))))⟩
abbrev N__law_cut : List Str := ["_law_frame_here", "_law_sides", "_law_number", "_law_found", "_law_kept", "_law_start", "_law_name", "_law_count"]
theorem sc__law_cut : FnScope N__law_cut ["_law_frame_here", "_law_sides", "_law_number"] (defScope s__law_cut) := ⟨rfl, rfl, rfl, by decide +kernel, rfl, by decide +kernel, by decide +kernel⟩
theorem ok__law_cut {f : Addr} {fd : FuncData} (F : FnPk K "_law_cut" "_law_cut" s__law_cut [] [] f fd) : FnOk P w K mg base (L2N.CX P w) 1 f fd ["_law_frame_here", "_law_sides", "_law_number"] (spOf (GY K ca T) 3 m__law_cut) :=
  fn_sim (GY K ca T) F sc__law_cut rfl fun cdv A outer s H E hr tk po => by
  have nd := sc__law_cut.nd
  exact ⟨_, (b_cons (u_set 3 s_int nd)
    (b_cons (u_set 4 s_int nd)
    (b_cons (u_set 5 s_int nd)
    (b_cons (t_for po (i_seq (sv 0)) (g_tup (gs_cons (u_g 6 nd) (gs_cons (u_g 7 nd) gs_nil))) (b_cons (t_if (c_cmp od_inX op_in_seq (sv 6) (sv 1) (by rfl)) (b_cons (u_set 3 (s_op od_or op_or (sv 3) (s_op od_shl op_shl (s_op od_mod op_modN (s_op od_shr op_shr (sv 2) (sv 5)) (s_op od_shl op_shl s_int (sv 7))) (sv 4))) nd)
    (b_one (u_aug 4 ip_add (sv 7) nd))) b_nil)
    (b_one (u_aug 5 ip_add (sv 7) nd))))
    (b_one (t_ret (sv 3)))))))⟩
abbrev N__law_mixed : List Str := ["_law_kind", "_law_one", "_law_other"]
theorem sc__law_mixed : FnScope N__law_mixed ["_law_kind", "_law_one", "_law_other"] (defScope s__law_mixed) := ⟨rfl, rfl, rfl, by decide +kernel, rfl, by decide +kernel, by decide +kernel⟩
theorem ok__law_mixed {f : Addr} {fd : FuncData} (F : FnPk K "_law_mixed" "_law_mixed" s__law_mixed [] [] f fd) (B : Bl mg) : FnOk P w K mg base (L2N.CX P w) 1 f fd ["_law_kind", "_law_one", "_law_other"] (spOf (GY K ca T) 3 m__law_mixed) :=
  fn_sim (GY K ca T) F sc__law_mixed rfl fun cdv A outer s H E hr tk po => by
  have nd := sc__law_mixed.nd
  exact ⟨_, (b_cons (t_if (c_cmp od_eq (op_eqD hr.units) (sv 0) s_str (nomark _)) (b_one (t_ret (s_op od_add op_addD (sv 1) (sv 2)))) b_nil)
    (b_cons (t_if (c_cmp od_eq (op_eqD hr.units) (sv 0) s_str (nomark _)) (b_one (t_ret (s_op od_sub op_sub (sv 1) (sv 2)))) b_nil)
    (b_one (t_ret (s_if (c_cmp od_eq (op_eqD hr.units) (sv 0) s_str (nomark _)) (s_cb cd_min2 (call_min2 rfl) B.min (by decide +kernel : bootBuiltins "min" = some (.builtin "min")) (a_cons (sv 1) (a_cons (sv 2) a_nil))) (s_cb cd_max2 (call_max2 rfl) B.max (by decide +kernel : bootBuiltins "max" = some (.builtin "max")) (a_cons (sv 1) (a_cons (sv 2) a_nil))))))))⟩
abbrev N__law_worth : List Str := ["_law_tree_here", "_law_frame_here", "_law_known", "_law_number", "_law_sides", "_law_lines_here", "_law_cells_here", "_law_others", "_law_base", "_law_count", "_law_rows", "_law_one", "_law_name", "_law_k", "_law_row"]
theorem sc__law_worth : FnScope N__law_worth ["_law_tree_here", "_law_frame_here", "_law_known", "_law_number"] (defScope s__law_worth) := ⟨rfl, rfl, rfl, by decide +kernel, rfl, by decide +kernel, by decide +kernel⟩
theorem ok__law_worth {f : Addr} {fd : FuncData} (F : FnP K "_law_worth" "_law_worth" s__law_worth [] f fd) (g : mg "_law_worth" = some (.ref f)) (b : Binds K fd ["_law_tree_here", "_law_frame_here", "_law_known", "_law_number"] [])  (B : Bl mg) (h__law_cut : Kn P w K mg base (GY K ca T) 1 "_law_cut" 3 m__law_cut [] []) (h__law_spread_out : Kn P w K mg base (GY K ca T) 1 "_law_spread_out" 3 m__law_spread_out [] []) (h__law_count_in : Kn P w K mg base (GY K ca T) 1 "_law_count_in" 2 m__law_count_in [] []) (h__law_mixed : Kn P w K mg base (GY K ca T) 1 "_law_mixed" 3 m__law_mixed [] []) : ∀ n, FnOk P w K mg base (L2N.CX P w) (n + 2) f fd ["_law_tree_here", "_law_frame_here", "_law_known", "_law_number"] (spOf (GY K ca T) 4 (m__law_worth n))
  | 0 => ⟨fun vs H Q E h => h.1, fun A outer s H args us vs Q E hr e0 hb rv h => by
    obtain ⟨_, _, _, _, _, _, z⟩ := h
    exact False.elim z⟩
  | n + 1 => by
    have ih := kn_of F g b (ok__law_worth F g b B h__law_cut h__law_spread_out h__law_count_in h__law_mixed n)
    exact fn_sim (GY K ca T) F sc__law_worth rfl fun cdv A outer s H E hr tk po => by
      have nd := sc__law_worth.nd
      exact ⟨_, (b_cons (t_if (c_cmp od_eq (op_eqD hr.units) (s_ix od_ix ix_lt (sv 0) s_int (fun _ _ => rfl)) s_str (nomark _)) (b_cons (t_asg (s_dgetA 2 hr.units (s_ix od_ix ix_lt (sv 0) s_int (fun _ _ => rfl)) (fun _ _ => rfl)) (g_tup (gs_cons (u_g 4 nd) (gs_cons (u_g 5 nd) (gs_cons (u_g 6 nd) gs_nil)))))
    (b_one (t_ret (s_ix od_ix ix_lt (sv 6) (u_call h__law_cut (hr.mono (by omega)) tk (a_cons (sv 1) (a_cons (sv 4) (a_cons (sv 3) a_nil)))) (fun _ _ => rfl))))) b_nil)
    (b_cons (t_if (c_cmp od_eq (op_eqD hr.units) (s_ix od_ix ix_lt (sv 0) s_int (fun _ _ => rfl)) s_str (nomark _)) (b_cons (t_setLc (i := 7) (own := [("_law_name", 12), ("_law_count", 9)]) nd rfl rfl (sw_true rfl rfl rfl (by decide +kernel)) (i_seq (sv 1)) (blkOk_by (own := [("_law_name", 12), ("_law_count", 9)]) (N := N__law_worth) (sc := defScope s__law_worth) (by decide +kernel)) (fun _ _ _ _ _ => (g_tup (gs_cons (u_g 12 nd) (gs_cons (u_g 9 nd) gs_nil)))) (fun _ _ _ _ _ => (ts_one (c_cmp od_ne (op_neD hr.units) (sv 12) (s_ix od_ix ix_lt (sv 0) s_int (fun _ _ => rfl)) (nomark _)))) (fun _ _ _ _ _ => (sv 12)))
    (b_cons (u_set 8 (u_call h__law_spread_out (hr.mono (by omega)) tk (a_cons (sv 1) (a_cons (sv 7) (a_cons (u_call h__law_cut (hr.mono (by omega)) tk (a_cons (sv 1) (a_cons (sv 7) (a_cons (sv 3) a_nil)))) a_nil)))) nd)
    (b_cons (u_set 9 (u_call h__law_count_in (hr.mono (by omega)) tk (a_cons (sv 1) (a_cons (SF.val (f_lst (a_cons (s_ix od_ix ix_lt (sv 0) s_int (fun _ _ => rfl)) a_nil))) a_nil))) nd)
    (b_cons (t_setLc (i := 10) (own := [("_law_k", 13)]) nd rfl rfl (sw_true rfl rfl rfl (by decide +kernel)) (i_range1 B.range (a_cons (s_op od_shl op_shl s_int (sv 9)) a_nil)) (blkOk_by (own := [("_law_k", 13)]) (N := N__law_worth) (sc := defScope s__law_worth) (by decide +kernel)) (fun _ _ _ _ _ => (u_g 13 nd)) (fun _ _ _ _ _ => ts_nil) (fun _ _ _ _ _ => (s_op od_or op_or (sv 8) (u_call h__law_spread_out (hr.mono (by omega)) takesN (a_cons (sv 1) (a_cons (SF.val (f_lst (a_cons (s_ix od_ix ix_lt (sv 0) s_int (fun _ _ => rfl)) a_nil))) (a_cons (sv 13) a_nil)))))))
    (b_one (t_ret (s_cb cd_sum (cr_sum rfl) B.sum (by decide +kernel : bootBuiltins "sum" = some (.builtin "sum")) (a_cons (SF.val (f_lc (own := [("_law_row", 14)]) nd (i_seq (sv 10)) (blkOk_by (own := [("_law_row", 14)]) (N := N__law_worth) (sc := defScope s__law_worth) (by decide +kernel)) (fun _ _ _ _ _ => (u_g 14 nd)) (fun _ _ _ _ _ => ts_nil) (fun _ _ _ _ _ => (u_call ih (hr.mono (by omega)) takesN (a_cons (s_ix od_ix ix_lt (sv 0) s_int (fun _ _ => rfl)) (a_cons (sv 1) (a_cons (sv 2) (a_cons (sv 14) a_nil)))))))) a_nil)))))))) b_nil)
    (b_cons (u_set 11 (u_call ih (hr.mono (by omega)) tk (a_cons (s_ix od_ix ix_lt (sv 0) s_int (fun _ _ => rfl)) (a_cons (sv 1) (a_cons (sv 2) (a_cons (sv 3) a_nil))))) nd)
    (b_one (t_ret (u_call h__law_mixed (hr.mono (by omega)) tk (a_cons (s_ix od_ix ix_lt (sv 0) s_int (fun _ _ => rfl)) (a_cons (sv 11) (a_cons (u_call ih (hr.mono (by omega)) tk (a_cons (s_ix od_ix ix_lt (sv 0) s_int (fun _ _ => rfl)) (a_cons (sv 1) (a_cons (sv 2) (a_cons (sv 3) a_nil))))) a_nil)))))))))⟩
abbrev N__law_meant : List Str := ["_law_tree_here", "_law_frame_here", "_law_known", "_law_sides", "_law_spots", "_law_cell", "_law_spot"]
theorem sc__law_meant : FnScope N__law_meant ["_law_tree_here", "_law_frame_here", "_law_known"] (defScope s__law_meant) := ⟨rfl, rfl, rfl, by decide +kernel, rfl, by decide +kernel, by decide +kernel⟩
theorem ok__law_meant {f : Addr} {fd : FuncData} (F : FnPk K "_law_meant" "_law_meant" s__law_meant [] [] f fd) (B : Bl mg) (h__law_sides_of : ∀ n, Kn P w K mg base (GY K ca T) (n + 1) "_law_sides_of" 3 (m__law_sides_of n) [] []) (h__law_count_in : Kn P w K mg base (GY K ca T) 1 "_law_count_in" 2 m__law_count_in [] []) (h__law_spread_out : Kn P w K mg base (GY K ca T) 1 "_law_spread_out" 3 m__law_spread_out [] []) (h__law_worth : ∀ n, Kn P w K mg base (GY K ca T) (n + 2) "_law_worth" 4 (m__law_worth n) [] []) : FnOk P w K mg base (L2N.CX P w) 15 f fd ["_law_tree_here", "_law_frame_here", "_law_known"] (spOf (GY K ca T) 3 m__law_meant) :=
  fn_sim (GY K ca T) F sc__law_meant rfl fun cdv A outer s H E hr tk po => by
  have nd := sc__law_meant.nd
  exact ⟨_, (b_cons (u_set 3 (u_call (h__law_sides_of 12) (hr.mono (by decide)) tk (a_cons (sv 0) (a_cons (sv 1) (a_cons (sv 2) a_nil)))) nd)
    (b_cons (t_setLc (i := 4) (own := [("_law_cell", 5)]) nd rfl rfl (sw_true rfl rfl rfl (by decide +kernel)) (i_range1 B.range (a_cons (s_op od_shl op_shl s_int (u_call h__law_count_in (hr.mono (by decide)) tk (a_cons (sv 1) (a_cons (sv 3) a_nil)))) a_nil)) (blkOk_by (own := [("_law_cell", 5)]) (N := N__law_meant) (sc := defScope s__law_meant) (by decide +kernel)) (fun _ _ _ _ _ => (u_g 5 nd)) (fun _ _ _ _ _ => ts_nil) (fun _ _ _ _ _ => (u_call h__law_spread_out (hr.mono (by decide)) takesN (a_cons (sv 1) (a_cons (sv 3) (a_cons (sv 5) a_nil))))))
    (b_one (t_retF (f_lc (own := [("_law_spot", 6)]) nd (i_seq (sv 4)) (blkOk_by (own := [("_law_spot", 6)]) (N := N__law_meant) (sc := defScope s__law_meant) (by decide +kernel)) (fun _ _ _ _ _ => (u_g 6 nd)) (fun _ _ _ _ _ => ts_nil) (fun _ _ _ _ _ => (u_call (h__law_worth 12) (hr.mono (by decide)) takesN (a_cons (sv 0) (a_cons (sv 1) (a_cons (sv 2) (a_cons (sv 6) a_nil)))))))))))⟩
abbrev N_is_name : List Str := ["name", "sign"]
theorem sc_is_name : FnScope N_is_name ["name"] (defScope s_is_name) := ⟨rfl, rfl, rfl, by decide +kernel, rfl, by decide +kernel, by decide +kernel⟩
theorem ok_is_name {f : Addr} {fd : FuncData} (F : FnPk K "is_name" "is_name" s_is_name [] [] f fd) (B : Bl mg) (c_SMALL : ∃ u, mg "SMALL" = some (.str "abcdefghijklmnopqrstuvwxyz" u)) : FnOk P w K mg base (L2N.CX P w) 1 f fd ["name"] (spOf (GY K ca T) 1 m_is_name) :=
  fn_sim (GY K ca T) F sc_is_name rfl fun cdv A outer s H E hr tk po => by
  have nd := sc_is_name.nd
  exact ⟨_, (b_one (t_ret (s_and (s_chain od_le od_le op_le op_le s_int (s_cb cd_len cr_len B.len PySem.boot_len (a_cons (sv 0) a_nil)) s_int) (s_one (s_cb cd_all (cr_all rfl) B.all (by decide +kernel : bootBuiltins "all" = some (.builtin "all")) (a_cons (SF.val (f_lc (own := [("sign", 1)]) nd (i_str (sv 0)) (blkOk_by (own := [("sign", 1)]) (N := N_is_name) (sc := defScope s_is_name) (by decide +kernel)) (fun _ _ _ _ _ => (u_g 1 nd)) (fun _ _ _ _ _ => ts_nil) (fun _ _ _ _ _ => (s_cmp od_sign or_sign (sv 1) (u_gstr c_SMALL) rfl)))) a_nil))))))⟩
abbrev N_need_sides : List Str := ["sides", "names", "name", "many"]
theorem sc_need_sides : FnScope N_need_sides ["sides"] (defScope s_need_sides) := ⟨rfl, rfl, rfl, by decide +kernel, rfl, by decide +kernel, by decide +kernel⟩
theorem ok_need_sides {f : Addr} {fd : FuncData} (F : FnPk K "need_sides" "need_sides" s_need_sides [] [] f fd) (B : Bl mg) (h_is_name : Kn P w K mg base (GY K ca T) 1 "is_name" 1 m_is_name [] []) (x_BadSides : KnX K mg (GY K ca T) "BadSides") (c_MOST_DIGITS : ∃ u, mg "MOST_DIGITS" = some (.int 12 u)) : FnOk P w K mg base (L2N.CX P w) 2 f fd ["sides"] (spOf (GY K ca T) 1 m_need_sides) :=
  fn_sim (GY K ca T) F sc_need_sides rfl fun cdv A outer s H E hr tk po => by
  have nd := sc_need_sides.nd
  exact ⟨_, (b_cons (t_setLc (i := 1) (own := [("name", 2), ("many", 3)]) nd rfl rfl (sw_true rfl rfl rfl (by decide +kernel)) (i_seq (sv 0)) (blkOk_by (own := [("name", 2), ("many", 3)]) (N := N_need_sides) (sc := defScope s_need_sides) (by decide +kernel)) (fun _ _ _ _ _ => (g_tup (gs_cons (u_g 2 nd) (gs_cons (u_g 3 nd) gs_nil)))) (fun _ _ _ _ _ => ts_nil) (fun _ _ _ _ _ => (sv 2)))
    (b_cons (t_if (SW.sc (w_or (c_not (c_val (s_cb cd_all (cr_all rfl) B.all (by decide +kernel : bootBuiltins "all" = some (.builtin "all")) (a_cons (SF.val (f_lc (own := [("name", 2)]) nd (i_seq (sv 1)) (blkOk_by (own := [("name", 2)]) (N := N_need_sides) (sc := defScope s_need_sides) (by decide +kernel)) (fun _ _ _ _ _ => (u_g 2 nd)) (fun _ _ _ _ _ => ts_nil) (fun _ _ _ _ _ => (u_call h_is_name (hr.mono (by decide)) takesN (a_cons (sv 2) a_nil))))) a_nil)))) (w_or1 (c_cmp od_lt op_lt (s_lenTx B.set B.len (sv 1)) (s_cb cd_len cr_len B.len PySem.boot_len (a_cons (sv 1) a_nil)) (nomark _))))) (b_one (u_raise x_BadSides tk)) b_nil)
    (b_cons (t_if (SW.sc (w_or (c_cmp od_inX op_in_seq s_str (sv 1) (by rfl)) (w_or1 (c_cmp od_inX op_in_seq s_str (sv 1) (by rfl))))) (b_one (u_raise x_BadSides tk)) b_nil)
    (b_cons (t_if (c_val (s_cb cd_any (cr_any rfl) B.any (by decide +kernel : bootBuiltins "any" = some (.builtin "any")) (a_cons (SF.val (f_lc (own := [("name", 2), ("many", 3)]) nd (i_seq (sv 0)) (blkOk_by (own := [("name", 2), ("many", 3)]) (N := N_need_sides) (sc := defScope s_need_sides) (by decide +kernel)) (fun _ _ _ _ _ => (g_tup (gs_cons (u_g 2 nd) (gs_cons (u_g 3 nd) gs_nil)))) (fun _ _ _ _ _ => ts_nil) (fun _ _ _ _ _ => (s_or (s_cmp od_lt op_lt (sv 3) s_int (nomark _)) (s_one (s_cmp od_gt op_gt (sv 3) (u_int c_MOST_DIGITS) (nomark _))))))) a_nil))) (b_one (u_raise x_BadSides tk)) b_nil)
    (b_one (t_if (c_cmp od_gt op_gt (s_cb cd_sum (cr_sum rfl) B.sum (by decide +kernel : bootBuiltins "sum" = some (.builtin "sum")) (a_cons (SF.val (f_lc (own := [("name", 2), ("many", 3)]) nd (i_seq (sv 0)) (blkOk_by (own := [("name", 2), ("many", 3)]) (N := N_need_sides) (sc := defScope s_need_sides) (by decide +kernel)) (fun _ _ _ _ _ => (g_tup (gs_cons (u_g 2 nd) (gs_cons (u_g 3 nd) gs_nil)))) (fun _ _ _ _ _ => ts_nil) (fun _ _ _ _ _ => (sv 3)))) a_nil)) (u_int c_MOST_DIGITS) (nomark _)) (b_one (u_raise x_BadSides tk)) b_nil))))))⟩
abbrev N_need_frame : List Str := ["frame", "name", "many"]
theorem sc_need_frame : FnScope N_need_frame ["frame"] (defScope s_need_frame) := ⟨rfl, rfl, rfl, by decide +kernel, rfl, by decide +kernel, by decide +kernel⟩
theorem ok_need_frame {f : Addr} {fd : FuncData} (F : FnPk K "need_frame" "need_frame" s_need_frame [] [] f fd) (B : Bl mg) (h_need_sides : Kn P w K mg base (GY K ca T) 2 "need_sides" 1 m_need_sides [] []) (c_MOST_DEEP : ∃ u, mg "MOST_DEEP" = some (.int 7 u)) (x_BadSides : KnX K mg (GY K ca T) "BadSides") : FnOk P w K mg base (L2N.CX P w) 3 f fd ["frame"] (spOf (GY K ca T) 1 m_need_frame) :=
  fn_sim (GY K ca T) F sc_need_frame rfl fun cdv A outer s H E hr tk po => by
  have nd := sc_need_frame.nd
  exact ⟨_, (b_cons (t_expr (u_call h_need_sides (hr.mono (by decide)) tk (a_cons (sv 0) a_nil)))
    (b_one (t_if (c_cmp od_gt op_gt (s_cb cd_sum (cr_sum rfl) B.sum (by decide +kernel : bootBuiltins "sum" = some (.builtin "sum")) (a_cons (SF.val (f_lc (own := [("name", 1), ("many", 2)]) nd (i_seq (sv 0)) (blkOk_by (own := [("name", 1), ("many", 2)]) (N := N_need_frame) (sc := defScope s_need_frame) (by decide +kernel)) (fun _ _ _ _ _ => (g_tup (gs_cons (u_g 1 nd) (gs_cons (u_g 2 nd) gs_nil)))) (fun _ _ _ _ _ => ts_nil) (fun _ _ _ _ _ => (sv 2)))) a_nil)) (u_int c_MOST_DEEP) (nomark _)) (b_one (u_raise x_BadSides tk)) b_nil)))⟩
abbrev N_in_order : List Str := ["frame", "sides", "name", "many"]
theorem sc_in_order : FnScope N_in_order ["frame", "sides"] (defScope s_in_order) := ⟨rfl, rfl, rfl, by decide +kernel, rfl, by decide +kernel, by decide +kernel⟩
theorem ok_in_order {f : Addr} {fd : FuncData} (F : FnPk K "in_order" "in_order" s_in_order [] [] f fd) : FnOk P w K mg base (L2N.CX P w) 1 f fd ["frame", "sides"] (spOf (GY K ca T) 2 m_in_order) :=
  fn_sim (GY K ca T) F sc_in_order rfl fun cdv A outer s H E hr tk po => by
  have nd := sc_in_order.nd
  exact ⟨_, (b_one (t_retF (f_lc (own := [("name", 2), ("many", 3)]) nd (i_seq (sv 0)) (blkOk_by (own := [("name", 2), ("many", 3)]) (N := N_in_order) (sc := defScope s_in_order) (by decide +kernel)) (fun _ _ _ _ _ => (g_tup (gs_cons (u_g 2 nd) (gs_cons (u_g 3 nd) gs_nil)))) (fun _ _ _ _ _ => (ts_one (c_cmp od_inX op_in_seq (sv 2) (sv 1) (by rfl)))) (fun _ _ _ _ _ => (sv 2)))))⟩
abbrev N_Weft_knot : List Str := ["self", "kind", "side", "parts", "sides"]
theorem sc_Weft_knot : FnScope N_Weft_knot ["self", "kind", "side", "parts", "sides"] (defScope s_Weft_knot) := ⟨rfl, rfl, rfl, by decide +kernel, rfl, by decide +kernel, by decide +kernel⟩
theorem ok_Weft_knot {f : Addr} {fd : FuncData} (F : FnPk K "knot" "Weft.knot" s_Weft_knot [] [] f fd) (B : Bl mg) (C_Weft : Cls K ((GY K ca T).ca "Weft")) (n_Weft_knots : NoAttr K ((GY K ca T).ca "Weft") "knots") : FnOk P w K mg base (L2N.CX P w) 1 f fd ["self", "kind", "side", "parts", "sides"] (spOf (GY K ca T) 5 m_Weft_knot) :=
  fn_sim (GY K ca T) F sc_Weft_knot rfl fun cdv A outer s H E hr tk po => by
  have nd := sc_Weft_knot.nd
  exact ⟨_, (b_cons (t_appE (s_fld "Weft" C_Weft n_Weft_knots (sv 0)) (s_tup (a_cons (sv 1) (a_cons (sv 2) (a_cons (sv 3) (a_cons (sv 4) a_nil))))))
    (b_one (t_ret (s_tup (a_cons s_str (a_cons (s_op od_sub op_sub (s_cb cd_len cr_len B.len PySem.boot_len (a_cons (s_fld "Weft" C_Weft n_Weft_knots (sv 0)) a_nil)) s_int) (a_cons (sv 4) a_nil)))))))⟩
abbrev N_Weft_part_of : List Str := ["self", "tree", "kind", "first", "others", "part", "parts", "side"]
theorem sc_Weft_part_of : FnScope N_Weft_part_of ["self", "tree"] (defScope s_Weft_part_of) := ⟨rfl, rfl, rfl, by decide +kernel, rfl, by decide +kernel, by decide +kernel⟩
theorem ok_Weft_part_of {f : Addr} {fd : FuncData} (F : FnP K "part_of" "Weft.part_of" s_Weft_part_of [] f fd) (C0 : Cls K ((GY K ca T).ca "Weft")) (M0 : Meth K ((GY K ca T).ca "Weft") "part_of" f) (b : Binds K fd ["self", "tree"] [])  (C_Weft : Cls K ((GY K ca T).ca "Weft")) (n_Weft_known : NoAttr K ((GY K ca T).ca "Weft") "known") (xf_NoTable : KnF P w K mg base (GY K ca T) "NoTable") (n_Weft_frame : NoAttr K ((GY K ca T).ca "Weft") "frame") (h_in_order : Kn P w K mg base (GY K ca T) 1 "in_order" 2 m_in_order [] []) (xf_NoSide : KnF P w K mg base (GY K ca T) "NoSide") (h_Weft_knot : KnM P w K mg base (GY K ca T) 1 "Weft" "knot" 5 m_Weft_knot [] []) : ∀ n, FnOk P w K mg base (L2N.CX P w) (n + 3) f fd ["self", "tree"] (spOf (GY K ca T) 2 (m_Weft_part_of n))
  | 0 => ⟨fun vs H Q E h => h.1, fun A outer s H args us vs Q E hr e0 hb rv h => by
    obtain ⟨_, _, _, _, _, _, z⟩ := h
    exact False.elim z⟩
  | n + 1 => by
    have ih := knM_of F C0 M0 b (ok_Weft_part_of F C0 M0 b C_Weft n_Weft_known xf_NoTable n_Weft_frame h_in_order xf_NoSide h_Weft_knot n)
    exact fn_sim (GY K ca T) F sc_Weft_part_of rfl fun cdv A outer s H E hr tk po => by
      have nd := sc_Weft_part_of.nd
      exact ⟨_, (b_cons (t_star2 2 3 4 (sv 1) nd)
    (b_cons (t_if (c_cmp od_eq (op_eqD hr.units) (sv 2) s_str (nomark _)) (b_cons (t_if (c_dnin hr.units (sv 3) (s_fld "Weft" C_Weft n_Weft_known (sv 0))) (b_one (u_raiseF xf_NoTable (hr.mono (by omega)) tk (sv 3))) b_nil)
    (b_one (t_ret (s_tup (a_cons (sv 3) (a_cons s_non (a_cons (u_call h_in_order (hr.mono (by omega)) tk (a_cons (s_fld "Weft" C_Weft n_Weft_frame (sv 0)) (a_cons (s_dget hr.units (s_fld "Weft" C_Weft n_Weft_known (sv 0)) (sv 3) (fun _ _ => rfl)) a_nil))) a_nil))))))) b_nil)
    (b_cons (t_if (c_cmp od_eq (op_eqD hr.units) (sv 2) s_str (nomark _)) (b_cons (u_set 5 (u_meth "Weft" ih (hr.mono (by omega)) tk (sv 0) (a_cons (s_ix od_ix ix_lt (sv 4) s_int (fun _ _ => rfl)) a_nil)) nd)
    (b_cons (t_if (c_cmp od_inX op_notIn_seq (sv 3) (s_ix od_ix ix_lt (sv 5) s_int (fun _ _ => rfl)) (by rfl)) (b_one (u_raiseF xf_NoSide (hr.mono (by omega)) tk (sv 3))) b_nil)
    (b_one (t_ret (u_meth "Weft" h_Weft_knot (hr.mono (by omega)) tk (sv 0) (a_cons s_str (a_cons (sv 3) (a_cons (SF.val (f_lst (a_cons (sv 5) a_nil))) (a_cons (SF.val (f_lc (own := [("side", 7)]) nd (i_seq (s_ix od_ix ix_lt (sv 5) s_int (fun _ _ => rfl))) (blkOk_by (own := [("side", 7)]) (N := N_Weft_part_of) (sc := defScope s_Weft_part_of) (by decide +kernel)) (fun _ _ _ _ _ => (u_g 7 nd)) (fun _ _ _ _ _ => (ts_one (c_cmp od_ne (op_neD hr.units) (sv 7) (sv 3) (nomark _)))) (fun _ _ _ _ _ => (sv 7)))) a_nil))))))))) b_nil)
    (b_cons (u_set 6 (SF.val (f_lst (a_cons (u_meth "Weft" ih (hr.mono (by omega)) tk (sv 0) (a_cons (sv 3) a_nil)) (a_cons (u_meth "Weft" ih (hr.mono (by omega)) tk (sv 0) (a_cons (s_ix od_ix ix_lt (sv 4) s_int (fun _ _ => rfl)) a_nil)) a_nil)))) nd)
    (b_one (t_ret (u_meth "Weft" h_Weft_knot (hr.mono (by omega)) tk (sv 0) (a_cons (sv 2) (a_cons s_str (a_cons (sv 6) (a_cons (u_call h_in_order (hr.mono (by omega)) tk (a_cons (s_fld "Weft" C_Weft n_Weft_frame (sv 0)) (a_cons (s_op od_add op_addD (s_ix od_ix ix_lt (s_ix od_ix ix_lt (sv 6) s_int (fun _ _ => rfl)) s_int (fun _ _ => rfl)) (s_ix od_ix ix_lt (s_ix od_ix ix_lt (sv 6) s_int (fun _ _ => rfl)) s_int (fun _ _ => rfl))) a_nil))) a_nil)))))))))))⟩
theorem ok_Weft_part_of_t {f : Addr} {fd : FuncData} (F : FnPk K "part_of" "Weft.part_of" s_Weft_part_of [] [] f fd) (C_Weft : Cls K ((GY K ca T).ca "Weft")) (n_Weft_known : NoAttr K ((GY K ca T).ca "Weft") "known") (xf_NoTable : KnF P w K mg base (GY K ca T) "NoTable") (n_Weft_frame : NoAttr K ((GY K ca T).ca "Weft") "frame") (h_in_order : Kn P w K mg base (GY K ca T) 1 "in_order" 2 m_in_order [] []) (xf_NoSide : KnF P w K mg base (GY K ca T) "NoSide") (h_Weft_knot : KnM P w K mg base (GY K ca T) 1 "Weft" "knot" 5 m_Weft_knot [] []) (ih : KnM P w K mg base (GY K ca T) 14 "Weft" "part_of" 2 (m_Weft_part_of 11) [] []) : FnOk P w K mg base (L2N.CX P w) 15 f fd ["self", "tree"] (spOf (GY K ca T) 2 m_Weft_part_of_t) :=
  fn_sim (GY K ca T) F sc_Weft_part_of rfl fun cdv A outer s H E hr tk po => by
  have nd := sc_Weft_part_of.nd
  exact ⟨_, (b_cons (t_star2 2 3 4 (sv 1) nd)
  (b_cons (t_if (c_cmp od_eq (op_eqD hr.units) (sv 2) s_str (nomark _)) (b_cons (t_if (c_dnin hr.units (sv 3) (s_fld "Weft" C_Weft n_Weft_known (sv 0))) (b_one (u_raiseF xf_NoTable (hr.mono (by decide)) tk (sv 3))) b_nil)
  (b_one (t_ret (s_tup (a_cons (sv 3) (a_cons s_non (a_cons (s_cellOf (v_call h_in_order (hr.mono (by decide)) tk (a_cons (s_fld "Weft" C_Weft n_Weft_frame (sv 0)) (a_cons (s_dget hr.units (s_fld "Weft" C_Weft n_Weft_known (sv 0)) (sv 3) (fun _ _ => rfl)) a_nil)))) a_nil))))))) b_nil)
  (b_cons (t_if (c_cmp od_eq (op_eqD hr.units) (sv 2) s_str (nomark _)) (b_cons (u_set 5 (u_meth "Weft" ih (hr.mono (by decide)) tk (sv 0) (a_cons (s_ix od_ix ix_lt (sv 4) s_int (fun _ _ => rfl)) a_nil)) nd)
  (b_cons (t_if (c_cmp od_inX op_notIn_seq (sv 3) (s_ix od_ix ix_lt (sv 5) s_int (fun _ _ => rfl)) (by rfl)) (b_one (u_raiseF xf_NoSide (hr.mono (by decide)) tk (sv 3))) b_nil)
  (b_one (t_ret (u_meth "Weft" h_Weft_knot (hr.mono (by decide)) tk (sv 0) (a_cons s_str (a_cons (sv 3) (a_cons (SF.val (f_lst (a_cons (sv 5) a_nil))) (a_cons (s_cellOf (f_lc (own := [("side", 7)]) nd (i_seq (s_ix od_ix ix_lt (sv 5) s_int (fun _ _ => rfl))) (blkOk_by (own := [("side", 7)]) (N := N_Weft_part_of) (sc := defScope s_Weft_part_of) (by decide +kernel)) (fun _ _ _ _ _ => (u_g 7 nd)) (fun _ _ _ _ _ => (ts_one (c_cmp od_ne (op_neD hr.units) (sv 7) (sv 3) (nomark _)))) (fun _ _ _ _ _ => (sv 7)))) a_nil))))))))) b_nil)
  (b_cons (u_set 6 (SF.val (f_lst (a_cons (u_meth "Weft" ih (hr.mono (by decide)) tk (sv 0) (a_cons (sv 3) a_nil)) (a_cons (u_meth "Weft" ih (hr.mono (by decide)) tk (sv 0) (a_cons (s_ix od_ix ix_lt (sv 4) s_int (fun _ _ => rfl)) a_nil)) a_nil)))) nd)
  (b_one (t_ret (u_meth "Weft" h_Weft_knot (hr.mono (by decide)) tk (sv 0) (a_cons (sv 2) (a_cons s_str (a_cons (sv 6) (a_cons (s_cellOf (v_call h_in_order (hr.mono (by decide)) tk (a_cons (s_fld "Weft" C_Weft n_Weft_frame (sv 0)) (a_cons (s_op od_add op_addD (s_ix od_ix ix_lt (s_ix od_ix ix_lt (sv 6) s_int (fun _ _ => rfl)) s_int (fun _ _ => rfl)) (s_ix od_ix ix_lt (s_ix od_ix ix_lt (sv 6) s_int (fun _ _ => rfl)) s_int (fun _ _ => rfl))) a_nil)))) a_nil)))))))))))⟩
abbrev N_WeftU_initU : List Str := ["self", "tree", "frame", "known"]
theorem sc_WeftU_initU : FnScope N_WeftU_initU ["self", "tree", "frame", "known"] (defScope s_WeftU_initU) := ⟨rfl, rfl, rfl, by decide +kernel, rfl, by decide +kernel, by decide +kernel⟩
theorem ok_WeftU_initU {f : Addr} {fd : FuncData} (F : FnPk K "__init__" "Weft.__init__" s_WeftU_initU [] [] f fd) (C_Weft : Cls K ((GY K ca T).ca "Weft")) (n_Weft_frame : NoAttr K ((GY K ca T).ca "Weft") "frame") (n_Weft_known : NoAttr K ((GY K ca T).ca "Weft") "known") (n_Weft_knots : NoAttr K ((GY K ca T).ca "Weft") "knots") (h_Weft_part_of : ∀ n, KnM P w K mg base (GY K ca T) (n + 3) "Weft" "part_of" 2 (m_Weft_part_of n) [] []) (n_Weft_whole : NoAttr K ((GY K ca T).ca "Weft") "whole") : FnOk P w K mg base (L2N.CX P w) 16 f fd ["self", "tree", "frame", "known"] (spOf (GY K ca T) 4 m_WeftU_initU) :=
  fn_sim (GY K ca T) F sc_WeftU_initU rfl fun cdv A outer s H E hr tk po => by
  have nd := sc_WeftU_initU.nd
  exact ⟨_, (b_cons (t_fld "Weft" C_Weft n_Weft_frame (sv 0) (sv 2))
    (b_cons (t_fld "Weft" C_Weft n_Weft_known (sv 0) (sv 3))
    (b_cons (t_fld "Weft" C_Weft n_Weft_knots (sv 0) (s_cellOf (f_lst a_nil)))
    (b_one (t_fld "Weft" C_Weft n_Weft_whole (sv 0) (u_meth "Weft" (h_Weft_part_of 12) (hr.mono (by decide)) tk (sv 0) (a_cons (sv 1) a_nil)))))))⟩
theorem ok_WeftU_initU_t {f : Addr} {fd : FuncData} (F : FnPk K "__init__" "Weft.__init__" s_WeftU_initU [] [] f fd) (C_Weft : Cls K ((GY K ca T).ca "Weft")) (n_Weft_frame : NoAttr K ((GY K ca T).ca "Weft") "frame") (n_Weft_known : NoAttr K ((GY K ca T).ca "Weft") "known") (n_Weft_knots : NoAttr K ((GY K ca T).ca "Weft") "knots") (h_Weft_part_of_t : KnM P w K mg base (GY K ca T) 15 "Weft" "part_of" 2 m_Weft_part_of_t [] []) (n_Weft_whole : NoAttr K ((GY K ca T).ca "Weft") "whole") : FnOk P w K mg base (L2N.CX P w) 16 f fd ["self", "tree", "frame", "known"] (spOf (GY K ca T) 4 m_WeftU_initU_t) :=
  fn_sim (GY K ca T) F sc_WeftU_initU rfl fun cdv A outer s H E hr tk po => by
  have nd := sc_WeftU_initU.nd
  exact ⟨_, (b_cons (t_fld "Weft" C_Weft n_Weft_frame (sv 0) (sv 2))
    (b_cons (t_fld "Weft" C_Weft n_Weft_known (sv 0) (sv 3))
    (b_cons (t_fld "Weft" C_Weft n_Weft_knots (sv 0) (s_cellOf (f_lst a_nil)))
    (b_one (t_fld "Weft" C_Weft n_Weft_whole (sv 0) (u_meth "Weft" h_Weft_part_of_t (hr.mono (by decide)) tk (sv 0) (a_cons (sv 1) a_nil)))))))⟩
abbrev N_FoldU_initU : List Str := ["self", "rows", "size", "row"]
theorem sc_FoldU_initU : FnScope N_FoldU_initU ["self", "rows", "size"] (defScope s_FoldU_initU) := ⟨rfl, rfl, rfl, by decide +kernel, rfl, by decide +kernel, by decide +kernel⟩
theorem ok_FoldU_initU {f : Addr} {fd : FuncData} (F : FnPk K "__init__" "Fold.__init__" s_FoldU_initU [] [] f fd) (B : Bl mg) (c_MOST_DIGITS : ∃ u, mg "MOST_DIGITS" = some (.int 12 u)) (x_BadFold : KnX K mg (GY K ca T) "BadFold") (C_Fold : Cls K ((GY K ca T).ca "Fold")) (n_Fold_lines : NoAttr K ((GY K ca T).ca "Fold") "lines") (n_Fold_wide : NoAttr K ((GY K ca T).ca "Fold") "wide") : FnOk P w K mg base (L2N.CX P w) 1 f fd ["self", "rows", "size"] (spOf (GY K ca T) 3 m_FoldU_initU) :=
  fn_sim (GY K ca T) F sc_FoldU_initU rfl fun cdv A outer s H E hr tk po => by
  have nd := sc_FoldU_initU.nd
  exact ⟨_, (b_cons (t_if (SW.sc (w_or (c_cmp od_lt op_lt (sv 2) s_int (nomark _)) (w_or (c_cmp od_gt op_gt (sv 2) (u_int c_MOST_DIGITS) (nomark _)) (w_or1 (c_cmp od_gt op_gt (s_cb cd_len cr_len B.len PySem.boot_len (a_cons (sv 1) a_nil)) (u_int c_MOST_DIGITS) (nomark _)))))) (b_one (u_raise x_BadFold tk)) b_nil)
    (b_cons (t_for po (i_seq (sv 1)) (u_g 3 nd) (b_one (t_if (SW.sc (w_or (c_cmp od_lt op_lt (sv 3) s_int (nomark _)) (w_or1 (c_cmp od_gt op_gt (s_op od_shr op_shr (sv 3) (sv 2)) s_int (nomark _))))) (b_one (u_raise x_BadFold tk)) b_nil)))
    (b_cons (t_fld "Fold" C_Fold n_Fold_lines (sv 0) (s_ct cd_tup call_tuple_of B.tuple PyProof.Rows.boot_tuple (a_cons (sv 1) a_nil)))
    (b_one (t_fld "Fold" C_Fold n_Fold_wide (sv 0) (sv 2))))))⟩
abbrev N_cut_fold : List Str := ["frame", "whole", "part", "rows", "kept", "name", "many", "at"]
theorem sc_cut_fold : FnScope N_cut_fold ["frame", "whole", "part"] (defScope s_cut_fold) := ⟨rfl, rfl, rfl, by decide +kernel, rfl, by decide +kernel, by decide +kernel⟩
theorem ok_cut_fold {f : Addr} {fd : FuncData} (F : FnPk K "cut_fold" "cut_fold" s_cut_fold [] [] f fd) (B : Bl mg) (k_Fold : KnC P w K mg base (GY K ca T) 1 "Fold" 3 m_FoldU_initU [] []) : FnOk P w K mg base (L2N.CX P w) 3 f fd ["frame", "whole", "part"] (spOf (GY K ca T) 3 m_cut_fold) :=
  fn_sim (GY K ca T) F sc_cut_fold rfl fun cdv A outer s H E hr tk po => by
  have nd := sc_cut_fold.nd
  exact ⟨_, (b_cons (u_own 3 (f_lst a_nil) nd)
    (b_cons (u_set 4 s_int nd)
    (b_cons (t_for po (i_seq (sv 0)) (g_tup (gs_cons (u_g 5 nd) (gs_cons (u_g 6 nd) gs_nil))) (b_one (t_if (c_cmp od_inX op_in_seq (sv 5) (sv 1) (by rfl)) (b_one (t_for po (i_range1 B.range (a_cons (sv 6) a_nil)) (u_g 7 nd) (b_cons (t_app 3 (s_if (c_cmp od_inX op_in_seq (sv 5) (sv 2) (by rfl)) (s_op od_shl op_shl s_int (sv 4)) s_int))
    (b_one (u_aug 4 ip_add (s_if (c_cmp od_inX op_in_seq (sv 5) (sv 2) (by rfl)) s_int s_int) nd))))) b_nil)))
    (b_frz 3 (b_one (t_ret (u_new k_Fold (hr.mono (by decide)) tk (a_cons (sv 3) (a_cons (sv 4) a_nil)))))))))⟩
abbrev N_Fold_size : List Str := ["self"]
theorem sc_Fold_size : FnScope N_Fold_size ["self"] (defScope s_Fold_size) := ⟨rfl, rfl, rfl, by decide +kernel, rfl, by decide +kernel, by decide +kernel⟩
theorem ok_Fold_size {f : Addr} {fd : FuncData} (F : FnPk K "size" "Fold.size" s_Fold_size [] [] f fd) (C_Fold : Cls K ((GY K ca T).ca "Fold")) (n_Fold_wide : NoAttr K ((GY K ca T).ca "Fold") "wide") : FnOk P w K mg base (L2N.CX P w) 1 f fd ["self"] (spOf (GY K ca T) 1 m_Fold_size) :=
  fn_sim (GY K ca T) F sc_Fold_size rfl fun cdv A outer s H E hr tk po => by
  have nd := sc_Fold_size.nd
  exact ⟨_, (b_one (t_ret (s_fld "Fold" C_Fold n_Fold_wide (sv 0))))⟩
abbrev N_blended : List Str := ["numbers", "found", "one"]
theorem sc_blended : FnScope N_blended ["numbers"] (defScope s_blended) := ⟨rfl, rfl, rfl, by decide +kernel, rfl, by decide +kernel, by decide +kernel⟩
theorem ok_blended {f : Addr} {fd : FuncData} (F : FnPk K "blended" "blended" s_blended [] [] f fd) : FnOk P w K mg base (L2N.CX P w) 1 f fd ["numbers"] (spOf (GY K ca T) 1 m_blended) :=
  fn_sim (GY K ca T) F sc_blended rfl fun cdv A outer s H E hr tk po => by
  have nd := sc_blended.nd
  exact ⟨_, (b_cons (u_set 1 s_int nd)
    (b_cons (t_for po (i_seq (sv 0)) (u_g 2 nd) (b_one (u_set 1 (s_op od_xor op_xor (sv 1) (sv 2)) nd)))
    (b_one (t_ret (sv 1)))))⟩
abbrev N_picked : List Str := ["rows", "number", "at", "row"]
theorem sc_picked : FnScope N_picked ["rows", "number"] (defScope s_picked) := ⟨rfl, rfl, rfl, by decide +kernel, rfl, by decide +kernel, by decide +kernel⟩
theorem ok_picked {f : Addr} {fd : FuncData} (F : FnPk K "picked" "picked" s_picked [] [] f fd) (B : Bl mg) (h_blended : Kn P w K mg base (GY K ca T) 1 "blended" 1 m_blended [] []) : FnOk P w K mg base (L2N.CX P w) 2 f fd ["rows", "number"] (spOf (GY K ca T) 2 m_picked) :=
  fn_sim (GY K ca T) F sc_picked rfl fun cdv A outer s H E hr tk po => by
  have nd := sc_picked.nd
  exact ⟨_, (b_one (t_ret (u_call h_blended (hr.mono (by decide)) tk (a_cons (SF.val (f_lc (own := [("at", 2), ("row", 3)]) nd (i_enumS B.enumerate (a_cons (sv 0) a_nil)) (blkOk_by (own := [("at", 2), ("row", 3)]) (N := N_picked) (sc := defScope s_picked) (by decide +kernel)) (fun _ _ _ _ _ => (g_tup (gs_cons (u_g 2 nd) (gs_cons (u_g 3 nd) gs_nil)))) (fun _ _ _ _ _ => (ts_one (c_cmp od_eq (op_eqD hr.units) (s_op od_and op_and (s_op od_shr op_shr (sv 1) (sv 2)) s_int) s_int (nomark _)))) (fun _ _ _ _ _ => (sv 3)))) a_nil))))⟩
abbrev N_Fold_to : List Str := ["self", "number"]
theorem sc_Fold_to : FnScope N_Fold_to ["self", "number"] (defScope s_Fold_to) := ⟨rfl, rfl, rfl, by decide +kernel, rfl, by decide +kernel, by decide +kernel⟩
theorem ok_Fold_to {f : Addr} {fd : FuncData} (F : FnPk K "to" "Fold.to" s_Fold_to [] [] f fd) (B : Bl mg) (C_Fold : Cls K ((GY K ca T).ca "Fold")) (n_Fold_lines : NoAttr K ((GY K ca T).ca "Fold") "lines") (x_BadNumber : KnX K mg (GY K ca T) "BadNumber") (h_picked : Kn P w K mg base (GY K ca T) 2 "picked" 2 m_picked [] []) : FnOk P w K mg base (L2N.CX P w) 3 f fd ["self", "number"] (spOf (GY K ca T) 2 m_Fold_to) :=
  fn_sim (GY K ca T) F sc_Fold_to rfl fun cdv A outer s H E hr tk po => by
  have nd := sc_Fold_to.nd
  exact ⟨_, (b_cons (t_if (SW.sc (w_or (c_cmp od_lt op_lt (sv 1) s_int (nomark _)) (w_or1 (c_cmp od_gt op_gt (s_op od_shr op_shr (sv 1) (s_cb cd_len cr_len B.len PySem.boot_len (a_cons (s_fld "Fold" C_Fold n_Fold_lines (sv 0)) a_nil))) s_int (nomark _))))) (b_one (u_raise x_BadNumber tk)) b_nil)
    (b_one (t_ret (u_call h_picked (hr.mono (by decide)) tk (a_cons (s_fld "Fold" C_Fold n_Fold_lines (sv 0)) (a_cons (sv 1) a_nil))))))⟩
abbrev N_digits_in : List Str := ["frame", "sides", "name", "many"]
theorem sc_digits_in : FnScope N_digits_in ["frame", "sides"] (defScope s_digits_in) := ⟨rfl, rfl, rfl, by decide +kernel, rfl, by decide +kernel, by decide +kernel⟩
theorem ok_digits_in {f : Addr} {fd : FuncData} (F : FnPk K "digits_in" "digits_in" s_digits_in [] [] f fd) (B : Bl mg) : FnOk P w K mg base (L2N.CX P w) 1 f fd ["frame", "sides"] (spOf (GY K ca T) 2 m_digits_in) :=
  fn_sim (GY K ca T) F sc_digits_in rfl fun cdv A outer s H E hr tk po => by
  have nd := sc_digits_in.nd
  exact ⟨_, (b_one (t_ret (s_cb cd_sum (cr_sum rfl) B.sum (by decide +kernel : bootBuiltins "sum" = some (.builtin "sum")) (a_cons (SF.val (f_lc (own := [("name", 2), ("many", 3)]) nd (i_seq (sv 0)) (blkOk_by (own := [("name", 2), ("many", 3)]) (N := N_digits_in) (sc := defScope s_digits_in) (by decide +kernel)) (fun _ _ _ _ _ => (g_tup (gs_cons (u_g 2 nd) (gs_cons (u_g 3 nd) gs_nil)))) (fun _ _ _ _ _ => (ts_one (c_cmp od_inX op_in_seq (sv 2) (sv 1) (by rfl)))) (fun _ _ _ _ _ => (sv 3)))) a_nil))))⟩
abbrev N_mixed : List Str := ["word", "one", "other"]
theorem sc_mixed : FnScope N_mixed ["word", "one", "other"] (defScope s_mixed) := ⟨rfl, rfl, rfl, by decide +kernel, rfl, by decide +kernel, by decide +kernel⟩
theorem ok_mixed {f : Addr} {fd : FuncData} (F : FnPk K "mixed" "mixed" s_mixed [] [] f fd) (B : Bl mg) : FnOk P w K mg base (L2N.CX P w) 1 f fd ["word", "one", "other"] (spOf (GY K ca T) 3 m_mixed) :=
  fn_sim (GY K ca T) F sc_mixed rfl fun cdv A outer s H E hr tk po => by
  have nd := sc_mixed.nd
  exact ⟨_, (b_cons (t_if (c_cmp od_eq (op_eqD hr.units) (sv 0) s_str (nomark _)) (b_one (t_ret (s_op od_add op_addD (sv 1) (sv 2)))) b_nil)
    (b_cons (t_if (c_cmp od_eq (op_eqD hr.units) (sv 0) s_str (nomark _)) (b_one (t_ret (s_op od_sub op_sub (sv 1) (sv 2)))) b_nil)
    (b_one (t_ret (s_if (c_cmp od_eq (op_eqD hr.units) (sv 0) s_str (nomark _)) (s_cb cd_min2 (call_min2 rfl) B.min (by decide +kernel : bootBuiltins "min" = some (.builtin "min")) (a_cons (sv 1) (a_cons (sv 2) a_nil))) (s_cb cd_max2 (call_max2 rfl) B.max (by decide +kernel : bootBuiltins "max" = some (.builtin "max")) (a_cons (sv 1) (a_cons (sv 2) a_nil))))))))⟩
abbrev N_cells_of : List Str := ["tree", "frame", "tables", "weft", "known", "made", "kind", "side", "parts", "sides", "rows", "fold", "cells", "cell", "worth", "one", "other", "many", "name", "at", "some", "part"]
theorem sc_cells_of : FnScope N_cells_of ["tree", "frame", "tables"] (defScope s_cells_of) := ⟨rfl, rfl, rfl, by decide +kernel, rfl, by decide +kernel, by decide +kernel⟩
theorem ok_cells_of {f : Addr} {fd : FuncData} (F : FnPk K "cells_of" "cells_of" s_cells_of [] [] f fd) (B : Bl mg) (h_need_frame : Kn P w K mg base (GY K ca T) 3 "need_frame" 1 m_need_frame [] []) (k_Weft : KnC P w K mg base (GY K ca T) 16 "Weft" 4 m_WeftU_initU [] []) (C_Weft : Cls K ((GY K ca T).ca "Weft")) (n_Weft_knots : NoAttr K ((GY K ca T).ca "Weft") "knots") (h_cut_fold : Kn P w K mg base (GY K ca T) 3 "cut_fold" 3 m_cut_fold [] []) (h_Fold_size : KnM P w K mg base (GY K ca T) 1 "Fold" "size" 1 m_Fold_size [] []) (h_Fold_to : KnM P w K mg base (GY K ca T) 3 "Fold" "to" 2 m_Fold_to [] []) (h_digits_in : Kn P w K mg base (GY K ca T) 1 "digits_in" 2 m_digits_in [] []) (h_mixed : Kn P w K mg base (GY K ca T) 1 "mixed" 3 m_mixed [] []) (n_Weft_whole : NoAttr K ((GY K ca T).ca "Weft") "whole") : FnOk P w K mg base (L2N.CX P w) 18 f fd ["tree", "frame", "tables"] (spOf (GY K ca T) 3 m_cells_of_k51) :=
  fn_sim (GY K ca T) F sc_cells_of rfl fun cdv A outer s H E hr tk po => by
  have nd := sc_cells_of.nd
  exact ⟨_, (b_cons (t_expr (u_call h_need_frame (hr.mono (by decide)) tk (a_cons (sv 1) a_nil)))
    (b_cons (u_set 3 (u_newC k_Weft (hr.mono (by decide)) tk (a_cons (sv 0) (a_cons (sv 1) (a_cons (s_dc (own := [("name", 18), ("sides", 9), ("cells", 12)]) nd (i_seq (sv 2)) (blkOk_by (own := [("name", 18), ("sides", 9), ("cells", 12)]) (N := N_cells_of) (sc := defScope s_cells_of) (by decide +kernel)) (fun _ _ _ _ _ => (g_tup (gs_cons (u_g 18 nd) (gs_cons (u_g 9 nd) (gs_cons (u_g 12 nd) gs_nil))))) (fun _ _ _ _ _ => ts_nil) (fun _ _ _ _ _ => (sv 18)) (fun _ _ _ _ _ => (sv 9))) a_nil)))) nd)
    (b_cons (u_set 4 (s_dc (own := [("name", 18), ("sides", 9), ("cells", 12)]) nd (i_seq (sv 2)) (blkOk_by (own := [("name", 18), ("sides", 9), ("cells", 12)]) (N := N_cells_of) (sc := defScope s_cells_of) (by decide +kernel)) (fun _ _ _ _ _ => (g_tup (gs_cons (u_g 18 nd) (gs_cons (u_g 9 nd) (gs_cons (u_g 12 nd) gs_nil))))) (fun _ _ _ _ _ => ts_nil) (fun _ _ _ _ _ => (sv 18)) (fun _ _ _ _ _ => (s_cellOf (f_ct co_list call_list_of B.list PyProof.Rows.boot_list (a_cons (sv 12) a_nil))))) nd)
    (b_cons (u_cell 5 (f_lst a_nil) nd)
    (b_cons (t_forA po (s_fld "Weft" C_Weft n_Weft_knots (sv 3)) (g_tup (gs_cons (u_g 6 nd) (gs_cons (u_g 7 nd) (gs_cons (u_g 8 nd) (gs_cons (u_g 9 nd) gs_nil))))) (b_cons (u_set 10 (SF.val (f_lc (own := [("name", 18), ("at", 19), ("some", 20)]) nd (i_seq (sv 8)) (blkOk_by (own := [("name", 18), ("at", 19), ("some", 20)]) (N := N_cells_of) (sc := defScope s_cells_of) (by decide +kernel)) (fun _ _ _ _ _ => (g_tup (gs_cons (u_g 18 nd) (gs_cons (u_g 19 nd) (gs_cons (u_g 20 nd) gs_nil))))) (fun _ _ _ _ _ => ts_nil) (fun _ _ _ _ _ => (s_if (c_cmp od_is op_isN (sv 19) s_non (nomark _)) (s_dgetA 4 hr.units (sv 18) (fun _ _ => rfl)) (s_ix od_ix ix_lt (sv 5) (sv 19) (fun _ _ => rfl)))))) nd)
    (b_cons (t_if (c_cmp od_eq (op_eqD hr.units) (sv 6) s_str (nomark _)) (b_cons (u_set 11 (u_call h_cut_fold (hr.mono (by decide)) tk (a_cons (sv 1) (a_cons (s_ix od_ix ix_lt (s_ix od_ix ix_lt (sv 8) s_int (fun _ _ => rfl)) s_int (fun _ _ => rfl)) (a_cons (sv 9) a_nil)))) nd)
    (b_cons (u_cell 12 (f_op oo_rep op_rep (SF.val (f_lst (a_cons s_int a_nil))) (s_op od_shl op_shl s_int (u_meth0 "Fold" h_Fold_size (hr.mono (by decide)) tk (sv 11)))) nd)
    (b_one (t_forE B.enumerate po (a_cons (s_ix od_ix ix_lt (sv 10) s_int (fun _ _ => rfl)) a_nil) (g_tup (gs_cons (u_g 13 nd) (gs_cons (u_g 14 nd) gs_nil))) (b_one (t_augC ip_add (sv 12) (u_meth "Fold" h_Fold_to (hr.mono (by decide)) tk (sv 11) (a_cons (sv 13) a_nil)) (sv 14))))))) (b_cons (t_asg (SF.val (f_lc (own := [("part", 21)]) nd (i_seq (sv 8)) (blkOk_by (own := [("part", 21)]) (N := N_cells_of) (sc := defScope s_cells_of) (by decide +kernel)) (fun _ _ _ _ _ => (u_g 21 nd)) (fun _ _ _ _ _ => ts_nil) (fun _ _ _ _ _ => (u_call h_cut_fold (hr.mono (by decide)) takesN (a_cons (sv 1) (a_cons (sv 9) (a_cons (s_ix od_ix ix_lt (sv 21) s_int (fun _ _ => rfl)) a_nil))))))) (g_unl (gs_cons (u_g 15 nd) (gs_cons (u_g 16 nd) gs_nil))))
    (b_cons (u_set 17 (u_call h_digits_in (hr.mono (by decide)) tk (a_cons (sv 1) (a_cons (sv 9) a_nil))) nd)
    (b_one (t_cellLc (i := 12) (own := [("at", 19)]) nd rfl rfl (sw_true rfl rfl rfl (by decide +kernel)) (i_range1 B.range (a_cons (s_op od_shl op_shl s_int (sv 17)) a_nil)) (blkOk_by (own := [("at", 19)]) (N := N_cells_of) (sc := defScope s_cells_of) (by decide +kernel)) (fun _ _ _ _ _ => (u_g 19 nd)) (fun _ _ _ _ _ => ts_nil) (fun _ _ _ _ _ => (u_call h_mixed (hr.mono (by decide)) takesN (a_cons (sv 6) (a_cons (s_ix od_ix ix_lt (s_ix od_ix ix_lt (sv 10) s_int (fun _ _ => rfl)) (u_meth "Fold" h_Fold_to (hr.mono (by decide)) takesN (sv 15) (a_cons (sv 19) a_nil)) (fun _ _ => rfl)) (a_cons (s_ix od_ix ix_lt (s_ix od_ix ix_lt (sv 10) s_int (fun _ _ => rfl)) (u_meth "Fold" h_Fold_to (hr.mono (by decide)) takesN (sv 16) (a_cons (sv 19) a_nil)) (fun _ _ => rfl)) a_nil))))))))))
    (b_one (t_appC 5 (sv 12))))))
    (b_one (t_ret (s_if (c_cmp (od_nil not) (op_neNil (Nat.lt_of_le_of_lt (Nat.le_add_right _ _) hr.units)) (sv 5) (SF.val (f_lst a_nil)) (nomark _)) (s_ix od_ix ix_lt (sv 5) (s_un ud_neg un_neg s_int) (fun _ _ => rfl)) (s_dgetA 4 hr.units (s_ix od_ix ix_lt (s_fld "Weft" C_Weft n_Weft_whole (sv 3)) s_int (fun _ _ => rfl)) (fun _ _ => rfl))))))))))⟩
abbrev N__law_same : List Str := ["_law_found", "_law_due", "_law_x", "_law_y"]
theorem sc__law_same : FnScope N__law_same ["_law_found", "_law_due"] (defScope s__law_same) := ⟨rfl, rfl, rfl, by decide +kernel, rfl, by decide +kernel, by decide +kernel⟩
theorem ok__law_same {f : Addr} {fd : FuncData} (F : FnP K "_law_same" "_law_same" s__law_same [] f fd) (g : mg "_law_same" = some (.ref f)) (b : Binds K fd ["_law_found", "_law_due"] [])  (B : Bl mg) : ∀ n, FnOk P w K mg base (L2N.CX P w) (n + 1) f fd ["_law_found", "_law_due"] (spOf (GY K ca T) 2 (m__law_same n))
  | 0 => ⟨fun vs H Q E h => h.1, fun A outer s H args us vs Q E hr e0 hb rv h => by
    obtain ⟨_, _, _, _, _, _, z⟩ := h
    exact False.elim z⟩
  | n + 1 => by
    have ih := kn_of F g b (ok__law_same F g b B n)
    exact fn_sim (GY K ca T) F sc__law_same rfl fun cdv A outer s H E hr tk po => by
      have nd := sc__law_same.nd
      exact ⟨_, (b_cons (t_if (c_val (s_isT B.isinstance (sv 1) (a_cons (s_bty B.list PyProof.Rows.boot_list) (a_cons (s_bty B.tuple PyProof.Rows.boot_tuple) a_nil)))) (b_cons (t_if (SW.sc (w_or (c_cmp od_ne (op_neD hr.units) (s_cb cd_isi call_isi B.isinstance (by decide +kernel : bootBuiltins "isinstance" = some (.builtin "isinstance")) (a_cons (sv 0) (a_cons (s_bty B.list PyProof.Rows.boot_list) a_nil))) (s_cb cd_isi call_isi B.isinstance (by decide +kernel : bootBuiltins "isinstance" = some (.builtin "isinstance")) (a_cons (sv 1) (a_cons (s_bty B.list PyProof.Rows.boot_list) a_nil))) (nomark _)) (w_or1 (c_cmp od_ne (op_neD hr.units) (s_cb cd_isi call_isi B.isinstance (by decide +kernel : bootBuiltins "isinstance" = some (.builtin "isinstance")) (a_cons (sv 0) (a_cons (s_bty B.tuple PyProof.Rows.boot_tuple) a_nil))) (s_cb cd_isi call_isi B.isinstance (by decide +kernel : bootBuiltins "isinstance" = some (.builtin "isinstance")) (a_cons (sv 1) (a_cons (s_bty B.tuple PyProof.Rows.boot_tuple) a_nil))) (nomark _))))) (b_one (t_ret s_bl)) b_nil)
    (b_one (t_ret (s_and (s_cmp od_eq (op_eqD hr.units) (s_cb cd_len cr_len B.len PySem.boot_len (a_cons (sv 0) a_nil)) (s_cb cd_len cr_len B.len PySem.boot_len (a_cons (sv 1) a_nil)) (nomark _)) (s_one (s_cb cd_all (cr_all rfl) B.all (by decide +kernel : bootBuiltins "all" = some (.builtin "all")) (a_cons (SF.val (f_lc (own := [("_law_x", 2), ("_law_y", 3)]) nd (i_zipA B.zip (a_cons (sv 0) (a_cons (sv 1) a_nil))) (blkOk_by (own := [("_law_x", 2), ("_law_y", 3)]) (N := N__law_same) (sc := defScope s__law_same) (by decide +kernel)) (fun _ _ _ _ _ => (g_tup (gs_cons (u_g 2 nd) (gs_cons (u_g 3 nd) gs_nil)))) (fun _ _ _ _ _ => ts_nil) (fun _ _ _ _ _ => (u_call ih (hr.mono (by omega)) takesN (a_cons (sv 2) (a_cons (sv 3) a_nil)))))) a_nil))))))) b_nil)
    (b_cons (t_if (SW.sc (w_or (c_cmp od_ne (op_neD hr.units) (s_cmp od_is op_isN (sv 0) s_non (nomark _)) (s_cmp od_is op_isN (sv 1) s_non (nomark _)) (nomark _)) (w_or1 (c_cmp od_ne (op_neD hr.units) (s_cb cd_isi call_isi B.isinstance (by decide +kernel : bootBuiltins "isinstance" = some (.builtin "isinstance")) (a_cons (sv 0) (a_cons (s_bty B.bool (by decide +kernel : bootBuiltins "bool" = some (.type "bool"))) a_nil))) (s_cb cd_isi call_isi B.isinstance (by decide +kernel : bootBuiltins "isinstance" = some (.builtin "isinstance")) (a_cons (sv 1) (a_cons (s_bty B.bool (by decide +kernel : bootBuiltins "bool" = some (.type "bool"))) a_nil))) (nomark _))))) (b_one (t_ret s_bl)) b_nil)
    (b_cons (t_if (c_cmp od_ne (op_neD hr.units) (s_cb cd_isi call_isi B.isinstance (by decide +kernel : bootBuiltins "isinstance" = some (.builtin "isinstance")) (a_cons (sv 0) (a_cons (s_bty B.int PyProof.Rows.boot_int) a_nil))) (s_cb cd_isi call_isi B.isinstance (by decide +kernel : bootBuiltins "isinstance" = some (.builtin "isinstance")) (a_cons (sv 1) (a_cons (s_bty B.int PyProof.Rows.boot_int) a_nil))) (nomark _)) (b_one (t_ret s_bl)) b_nil)
    (b_one (t_ret (s_and (s_cmp od_eq (op_eqD hr.units) (s_cb cd_isi call_isi B.isinstance (by decide +kernel : bootBuiltins "isinstance" = some (.builtin "isinstance")) (a_cons (sv 0) (a_cons (s_bty B.str (by decide +kernel : bootBuiltins "str" = some (.type "str"))) a_nil))) (s_cb cd_isi call_isi B.isinstance (by decide +kernel : bootBuiltins "isinstance" = some (.builtin "isinstance")) (a_cons (sv 1) (a_cons (s_bty B.str (by decide +kernel : bootBuiltins "str" = some (.type "str"))) a_nil))) (nomark _)) (s_one (s_cmp od_eq (op_eqD hr.units) (sv 0) (sv 1) (nomark _)))))))))⟩
abbrev N_sides_of : List Str := ["tree", "frame", "tables", "name", "sides", "cells"]
theorem sc_sides_of : FnScope N_sides_of ["tree", "frame", "tables"] (defScope s_sides_of) := ⟨rfl, rfl, rfl, by decide +kernel, rfl, by decide +kernel, by decide +kernel⟩
theorem ok_sides_of {f : Addr} {fd : FuncData} (F : FnPk K "sides_of" "sides_of" s_sides_of [] [] f fd) (h_need_frame : Kn P w K mg base (GY K ca T) 3 "need_frame" 1 m_need_frame [] []) (k_Weft : KnC P w K mg base (GY K ca T) 16 "Weft" 4 m_WeftU_initU [] []) (C_Weft : Cls K ((GY K ca T).ca "Weft")) (n_Weft_whole : NoAttr K ((GY K ca T).ca "Weft") "whole") : FnOk P w K mg base (L2N.CX P w) 18 f fd ["tree", "frame", "tables"] (spOf (GY K ca T) 3 m_sides_of) :=
  fn_sim (GY K ca T) F sc_sides_of rfl fun cdv A outer s H E hr tk po => by
  have nd := sc_sides_of.nd
  exact ⟨_, (b_cons (t_expr (u_call h_need_frame (hr.mono (by decide)) tk (a_cons (sv 1) a_nil)))
    (b_one (t_ret (s_ix od_ix ix_lt (s_fld "Weft" C_Weft n_Weft_whole (u_newC k_Weft (hr.mono (by decide)) tk (a_cons (sv 0) (a_cons (sv 1) (a_cons (s_dc (own := [("name", 3), ("sides", 4), ("cells", 5)]) nd (i_seq (sv 2)) (blkOk_by (own := [("name", 3), ("sides", 4), ("cells", 5)]) (N := N_sides_of) (sc := defScope s_sides_of) (by decide +kernel)) (fun _ _ _ _ _ => (g_tup (gs_cons (u_g 3 nd) (gs_cons (u_g 4 nd) (gs_cons (u_g 5 nd) gs_nil))))) (fun _ _ _ _ _ => ts_nil) (fun _ _ _ _ _ => (sv 3)) (fun _ _ _ _ _ => (sv 4))) a_nil))))) s_int (fun _ _ => rfl)))))⟩
theorem ok_sides_of_t {f : Addr} {fd : FuncData} (F : FnPk K "sides_of" "sides_of" s_sides_of [] [] f fd) (h_need_frame : Kn P w K mg base (GY K ca T) 3 "need_frame" 1 m_need_frame [] []) (k_Weft : KnC P w K mg base (GY K ca T) 16 "Weft" 4 m_WeftU_initU_t [] []) (C_Weft : Cls K ((GY K ca T).ca "Weft")) (n_Weft_whole : NoAttr K ((GY K ca T).ca "Weft") "whole") : FnOk P w K mg base (L2N.CX P w) 18 f fd ["tree", "frame", "tables"] (spOf (GY K ca T) 3 m_sides_of_t) :=
  fn_sim (GY K ca T) F sc_sides_of rfl fun cdv A outer s H E hr tk po => by
  have nd := sc_sides_of.nd
  exact ⟨_, (b_cons (t_expr (u_call h_need_frame (hr.mono (by decide)) tk (a_cons (sv 1) a_nil)))
    (b_one (t_ret (s_ix od_ix ix_lt (s_fld "Weft" C_Weft n_Weft_whole (u_newC k_Weft (hr.mono (by decide)) tk (a_cons (sv 0) (a_cons (sv 1) (a_cons (s_dc (own := [("name", 3), ("sides", 4), ("cells", 5)]) nd (i_seq (sv 2)) (blkOk_by (own := [("name", 3), ("sides", 4), ("cells", 5)]) (N := N_sides_of) (sc := defScope s_sides_of) (by decide +kernel)) (fun _ _ _ _ _ => (g_tup (gs_cons (u_g 3 nd) (gs_cons (u_g 4 nd) (gs_cons (u_g 5 nd) gs_nil))))) (fun _ _ _ _ _ => ts_nil) (fun _ _ _ _ _ => (sv 3)) (fun _ _ _ _ _ => (sv 4))) a_nil))))) s_int (fun _ _ => rfl)))))⟩
abbrev N_law : List Str := ["_law_script", "_law_box_here", "_law_turn", "_law_frame_here", "_law_known", "_law_tree_here", "_law_triples_here", "_law_due", "_law_again", "_law_found", "_law_told"]
theorem sc_law : FnScope N_law ["_law_script"] (defScope s_law) := ⟨rfl, rfl, rfl, by decide +kernel, rfl, by decide +kernel, by decide +kernel⟩
theorem ok_law {f : Addr} {fd : FuncData} (F : FnPk K "law" "law" s_law [] [] f fd) (B : Bl mg) (h__law_box : Kn P w K mg base (GY K ca T) 1 "_law_box" 1 m__law_box [] []) (h__law_frame : Kn P w K mg base (GY K ca T) 3 "_law_frame" 1 m__law_frame [] []) (h__law_take : Kn P w K mg base (GY K ca T) 1 "_law_take" 2 m__law_take [] []) (h__law_tables : Kn P w K mg base (GY K ca T) 4 "_law_tables" 4 m__law_tables [] []) (h__law_tree : ∀ n, Kn P w K mg base (GY K ca T) (n + 14) "_law_tree" 4 (m__law_tree n) [] []) (h__law_triples : Kn P w K mg base (GY K ca T) 3 "_law_triples" 2 m__law_triples [] []) (h__law_meant : Kn P w K mg base (GY K ca T) 15 "_law_meant" 3 m__law_meant [] []) (h_cells_of : Kn P w K mg base (GY K ca T) 18 "cells_of" 3 m_cells_of_k51 [] []) (h__law_same : ∀ n, Kn P w K mg base (GY K ca T) (n + 1) "_law_same" 2 (m__law_same n) [] []) (h_sides_of : Kn P w K mg base (GY K ca T) 18 "sides_of" 3 m_sides_of_t [] []) (h__law_sides_of : ∀ n, Kn P w K mg base (GY K ca T) (n + 1) "_law_sides_of" 3 (m__law_sides_of n) [] []) : FnOk P w K mg base (L2N.CX P w) 23 f fd ["_law_script"] (spOf (GY K ca T) 1 m_law) :=
  fn_sim (GY K ca T) F sc_law rfl fun cdv A outer s H E hr tk po => by
  have nd := sc_law.nd
  exact ⟨_, (b_cons (u_cell 1 (v_call h__law_box (hr.mono (by decide)) tk (a_cons (sv 0) a_nil)) nd)
    (b_cons (t_for po (i_range1 B.range (a_cons s_int a_nil)) (u_g 2 nd) (b_cons (u_set 3 (u_call h__law_frame (hr.mono (by decide)) tk (a_cons (sv 1) a_nil)) nd)
    (b_cons (u_set 4 (u_call h__law_tables (hr.mono (by decide)) tk (a_cons (sv 1) (a_cons (sv 3) (a_cons s_int (a_cons (s_op od_add op_addD s_int (u_call h__law_take (hr.mono (by decide)) tk (a_cons (sv 1) (a_cons s_int a_nil)))) a_nil))))) nd)
    (b_cons (u_set 5 (u_call (h__law_tree 8) (hr.mono (by decide)) tk (a_cons (sv 1) (a_cons (sv 3) (a_cons (sv 4) (a_cons s_int a_nil))))) nd)
    (b_cons (u_set 6 (u_call h__law_triples (hr.mono (by decide)) tk (a_cons (sv 1) (a_cons (sv 4) a_nil))) nd)
    (b_cons (u_set 7 (u_call h__law_meant (hr.mono (by decide)) tk (a_cons (sv 5) (a_cons (sv 3) (a_cons (sv 4) a_nil)))) nd)
    (b_one (t_for po (i_range1 B.range (a_cons s_int a_nil)) (u_g 8 nd) (b_cons (u_set 9 (u_call h_cells_of (hr.mono (by decide)) tk (a_cons (sv 5) (a_cons (sv 3) (a_cons (sv 6) a_nil)))) nd)
    (b_cons (t_if (c_not (c_val (u_call (Kn.th (h__law_same 4)) (hr.mono (by decide)) tk (a_cons (sv 9) (a_cons (sv 7) a_nil))))) (b_one (t_ret s_bl)) b_nil)
    (b_cons (t_appC 9 s_int)
    (b_cons (u_set 10 (u_call h_sides_of (hr.mono (by decide)) tk (a_cons (sv 5) (a_cons (SF.val (f_ct co_list call_list_of B.list PyProof.Rows.boot_list (a_cons (sv 3) a_nil))) (a_cons (sv 6) a_nil)))) nd)
    (b_cons (t_if (c_not (c_val (u_call (Kn.th (h__law_same 4)) (hr.mono (by decide)) tk (a_cons (sv 10) (a_cons (u_call (h__law_sides_of 12) (hr.mono (by decide)) tk (a_cons (sv 5) (a_cons (sv 3) (a_cons (sv 4) a_nil)))) a_nil))))) (b_one (t_ret s_bl)) b_nil)
    (b_one (t_appC 10 s_str)))))))))))))))
    (b_one (t_ret s_bl))))⟩
end
end K51
namespace K51
open PySem L2 Mm Fb
def tf : List (He.Defn × Str) := []
theorem facts {P : Program} {w : World} {K : PySem.W.Frag} {h : Heap} {mg : Str → Option Value} {f : Addr} (X : K.In h) (G : h.Ns mainGlobals mg) (hfa : mg ("law" : Str) = some (.ref f)) (c : He.SaysX facl fns [] (tf.map (·.1)) ex w h K) :
    ∃ fd : FuncData, (∀ (s : Shared) (v : Value), BindsTo s fd ⟨[v], []⟩ [("_law_script", v)]) ∧ ∀ base : Heap, (∀ q ∈ tf, LamX.TabB base mg (He.cT K q.1).1 (He.cT K q.1).2) → FnOk P w K mg base (L2N.CX P w) 23 f fd ["_law_script"] (spOf (GY K (He.ga K) (Tof K tf)) 1 m_law) := by
  obtain ⟨fd_NoTableU_initU, F'_NoTableU_initU⟩ := c.t.d.def_ 38 (d := d_NoTableU_initU) rfl
  have F_NoTableU_initU : FnPk K "__init__" "NoTable.__init__" s_NoTableU_initU [] [] (He.ma K (He.ga K "NoTable") "__init__") fd_NoTableU_initU := F'_NoTableU_initU
  obtain ⟨fd_NoSideU_initU, F'_NoSideU_initU⟩ := c.t.d.def_ 39 (d := d_NoSideU_initU) rfl
  have F_NoSideU_initU : FnPk K "__init__" "NoSide.__init__" s_NoSideU_initU [] [] (He.ma K (He.ga K "NoSide") "__init__") fd_NoSideU_initU := F'_NoSideU_initU
  obtain ⟨fd__law_box, F'__law_box⟩ := c.t.d.def_ 0 (d := d__law_box) rfl
  have F__law_box : FnPk K "_law_box" "_law_box" s__law_box [] [] (He.ga K "_law_box") fd__law_box := F'__law_box
  obtain ⟨fd__law_take, F'__law_take⟩ := c.t.d.def_ 1 (d := d__law_take) rfl
  have F__law_take : FnPk K "_law_take" "_law_take" s__law_take [] [] (He.ga K "_law_take") fd__law_take := F'__law_take
  obtain ⟨fd__law_shuffled, F'__law_shuffled⟩ := c.t.d.def_ 2 (d := d__law_shuffled) rfl
  have F__law_shuffled : FnPk K "_law_shuffled" "_law_shuffled" s__law_shuffled [] [] (He.ga K "_law_shuffled") fd__law_shuffled := F'__law_shuffled
  obtain ⟨fd__law_frame, F'__law_frame⟩ := c.t.d.def_ 3 (d := d__law_frame) rfl
  have F__law_frame : FnPk K "_law_frame" "_law_frame" s__law_frame [] [] (He.ga K "_law_frame") fd__law_frame := F'__law_frame
  obtain ⟨fd__law_some_sides, F'__law_some_sides⟩ := c.t.d.def_ 4 (d := d__law_some_sides) rfl
  have F__law_some_sides : FnPk K "_law_some_sides" "_law_some_sides" s__law_some_sides [] [] (He.ga K "_law_some_sides") fd__law_some_sides := F'__law_some_sides
  obtain ⟨fd__law_count_in, F'__law_count_in⟩ := c.t.d.def_ 5 (d := d__law_count_in) rfl
  have F__law_count_in : FnPk K "_law_count_in" "_law_count_in" s__law_count_in [] [] (He.ga K "_law_count_in") fd__law_count_in := F'__law_count_in
  obtain ⟨fd__law_of, F'__law_of⟩ := c.t.d.def_ 6 (d := d__law_of) rfl
  have F__law_of : FnPk K "_law_of" "_law_of" s__law_of [] [] (He.ga K "_law_of") fd__law_of := F'__law_of
  obtain ⟨fd__law_cells, F'__law_cells⟩ := c.t.d.def_ 7 (d := d__law_cells) rfl
  have F__law_cells : FnPk K "_law_cells" "_law_cells" s__law_cells [] [] (He.ga K "_law_cells") fd__law_cells := F'__law_cells
  obtain ⟨fd__law_numbers, F'__law_numbers⟩ := c.t.d.def_ 8 (d := d__law_numbers) rfl
  have F__law_numbers : FnPk K "_law_numbers" "_law_numbers" s__law_numbers [] [] (He.ga K "_law_numbers") fd__law_numbers := F'__law_numbers
  obtain ⟨fd__law_lines, F'__law_lines⟩ := c.t.d.def_ 9 (d := d__law_lines) rfl
  have F__law_lines : FnPk K "_law_lines" "_law_lines" s__law_lines [] [] (He.ga K "_law_lines") fd__law_lines := F'__law_lines
  obtain ⟨fd__law_tables, F'__law_tables⟩ := c.t.d.def_ 10 (d := d__law_tables) rfl
  have F__law_tables : FnPk K "_law_tables" "_law_tables" s__law_tables [] [] (He.ga K "_law_tables") fd__law_tables := F'__law_tables
  obtain ⟨fd__law_sides_of, F'__law_sides_of⟩ := c.t.d.def_ 11 (d := d__law_sides_of) rfl
  have F__law_sides_of : FnPk K "_law_sides_of" "_law_sides_of" s__law_sides_of [] [] (He.ga K "_law_sides_of") fd__law_sides_of := F'__law_sides_of
  obtain ⟨fd__law_tree, F'__law_tree⟩ := c.t.d.def_ 12 (d := d__law_tree) rfl
  have F__law_tree : FnPk K "_law_tree" "_law_tree" s__law_tree [] [] (He.ga K "_law_tree") fd__law_tree := F'__law_tree
  obtain ⟨fd__law_triples, F'__law_triples⟩ := c.t.d.def_ 13 (d := d__law_triples) rfl
  have F__law_triples : FnPk K "_law_triples" "_law_triples" s__law_triples [] [] (He.ga K "_law_triples") fd__law_triples := F'__law_triples
  obtain ⟨fd__law_spread_out, F'__law_spread_out⟩ := c.t.d.def_ 14 (d := d__law_spread_out) rfl
  have F__law_spread_out : FnPk K "_law_spread_out" "_law_spread_out" s__law_spread_out [] [] (He.ga K "_law_spread_out") fd__law_spread_out := F'__law_spread_out
  obtain ⟨fd__law_cut, F'__law_cut⟩ := c.t.d.def_ 15 (d := d__law_cut) rfl
  have F__law_cut : FnPk K "_law_cut" "_law_cut" s__law_cut [] [] (He.ga K "_law_cut") fd__law_cut := F'__law_cut
  obtain ⟨fd__law_mixed, F'__law_mixed⟩ := c.t.d.def_ 16 (d := d__law_mixed) rfl
  have F__law_mixed : FnPk K "_law_mixed" "_law_mixed" s__law_mixed [] [] (He.ga K "_law_mixed") fd__law_mixed := F'__law_mixed
  obtain ⟨fd__law_worth, F'__law_worth⟩ := c.t.d.def_ 17 (d := d__law_worth) rfl
  have F__law_worth : FnPk K "_law_worth" "_law_worth" s__law_worth [] [] (He.ga K "_law_worth") fd__law_worth := F'__law_worth
  obtain ⟨fd__law_meant, F'__law_meant⟩ := c.t.d.def_ 18 (d := d__law_meant) rfl
  have F__law_meant : FnPk K "_law_meant" "_law_meant" s__law_meant [] [] (He.ga K "_law_meant") fd__law_meant := F'__law_meant
  obtain ⟨fd_is_name, F'_is_name⟩ := c.t.d.def_ 19 (d := d_is_name) rfl
  have F_is_name : FnPk K "is_name" "is_name" s_is_name [] [] (He.ga K "is_name") fd_is_name := F'_is_name
  obtain ⟨fd_need_sides, F'_need_sides⟩ := c.t.d.def_ 20 (d := d_need_sides) rfl
  have F_need_sides : FnPk K "need_sides" "need_sides" s_need_sides [] [] (He.ga K "need_sides") fd_need_sides := F'_need_sides
  obtain ⟨fd_need_frame, F'_need_frame⟩ := c.t.d.def_ 21 (d := d_need_frame) rfl
  have F_need_frame : FnPk K "need_frame" "need_frame" s_need_frame [] [] (He.ga K "need_frame") fd_need_frame := F'_need_frame
  obtain ⟨fd_in_order, F'_in_order⟩ := c.t.d.def_ 22 (d := d_in_order) rfl
  have F_in_order : FnPk K "in_order" "in_order" s_in_order [] [] (He.ga K "in_order") fd_in_order := F'_in_order
  obtain ⟨fd_Weft_knot, F'_Weft_knot⟩ := c.t.d.def_ 23 (d := d_Weft_knot) rfl
  have F_Weft_knot : FnPk K "knot" "Weft.knot" s_Weft_knot [] [] (He.ma K (He.ga K "Weft") "knot") fd_Weft_knot := F'_Weft_knot
  obtain ⟨fd_Weft_part_of, F'_Weft_part_of⟩ := c.t.d.def_ 24 (d := d_Weft_part_of) rfl
  have F_Weft_part_of : FnPk K "part_of" "Weft.part_of" s_Weft_part_of [] [] (He.ma K (He.ga K "Weft") "part_of") fd_Weft_part_of := F'_Weft_part_of
  obtain ⟨fd_WeftU_initU, F'_WeftU_initU⟩ := c.t.d.def_ 25 (d := d_WeftU_initU) rfl
  have F_WeftU_initU : FnPk K "__init__" "Weft.__init__" s_WeftU_initU [] [] (He.ma K (He.ga K "Weft") "__init__") fd_WeftU_initU := F'_WeftU_initU
  obtain ⟨fd_FoldU_initU, F'_FoldU_initU⟩ := c.t.d.def_ 26 (d := d_FoldU_initU) rfl
  have F_FoldU_initU : FnPk K "__init__" "Fold.__init__" s_FoldU_initU [] [] (He.ma K (He.ga K "Fold") "__init__") fd_FoldU_initU := F'_FoldU_initU
  obtain ⟨fd_cut_fold, F'_cut_fold⟩ := c.t.d.def_ 27 (d := d_cut_fold) rfl
  have F_cut_fold : FnPk K "cut_fold" "cut_fold" s_cut_fold [] [] (He.ga K "cut_fold") fd_cut_fold := F'_cut_fold
  obtain ⟨fd_Fold_size, F'_Fold_size⟩ := c.t.d.def_ 28 (d := d_Fold_size) rfl
  have F_Fold_size : FnPk K "size" "Fold.size" s_Fold_size [] [] (He.ma K (He.ga K "Fold") "size") fd_Fold_size := F'_Fold_size
  obtain ⟨fd_blended, F'_blended⟩ := c.t.d.def_ 29 (d := d_blended) rfl
  have F_blended : FnPk K "blended" "blended" s_blended [] [] (He.ga K "blended") fd_blended := F'_blended
  obtain ⟨fd_picked, F'_picked⟩ := c.t.d.def_ 30 (d := d_picked) rfl
  have F_picked : FnPk K "picked" "picked" s_picked [] [] (He.ga K "picked") fd_picked := F'_picked
  obtain ⟨fd_Fold_to, F'_Fold_to⟩ := c.t.d.def_ 31 (d := d_Fold_to) rfl
  have F_Fold_to : FnPk K "to" "Fold.to" s_Fold_to [] [] (He.ma K (He.ga K "Fold") "to") fd_Fold_to := F'_Fold_to
  obtain ⟨fd_digits_in, F'_digits_in⟩ := c.t.d.def_ 32 (d := d_digits_in) rfl
  have F_digits_in : FnPk K "digits_in" "digits_in" s_digits_in [] [] (He.ga K "digits_in") fd_digits_in := F'_digits_in
  obtain ⟨fd_mixed, F'_mixed⟩ := c.t.d.def_ 33 (d := d_mixed) rfl
  have F_mixed : FnPk K "mixed" "mixed" s_mixed [] [] (He.ga K "mixed") fd_mixed := F'_mixed
  obtain ⟨fd_cells_of, F'_cells_of⟩ := c.t.d.def_ 34 (d := d_cells_of) rfl
  have F_cells_of : FnPk K "cells_of" "cells_of" s_cells_of [] [] (He.ga K "cells_of") fd_cells_of := F'_cells_of
  obtain ⟨fd__law_same, F'__law_same⟩ := c.t.d.def_ 35 (d := d__law_same) rfl
  have F__law_same : FnPk K "_law_same" "_law_same" s__law_same [] [] (He.ga K "_law_same") fd__law_same := F'__law_same
  obtain ⟨fd_sides_of, F'_sides_of⟩ := c.t.d.def_ 36 (d := d_sides_of) rfl
  have F_sides_of : FnPk K "sides_of" "sides_of" s_sides_of [] [] (He.ga K "sides_of") fd_sides_of := F'_sides_of
  obtain ⟨fd_law, F'_law⟩ := c.t.d.def_ 37 (d := d_law) rfl
  have F_law : FnPk K "law" "law" s_law [] [] (He.ga K "law") fd_law := F'_law
  have e := hfa.symm.trans (He.glo_ok X G (c.t.d.fact 79 (f := .glo "law") rfl))
  cases e
  have b := FunD.bindsA (ps := ["_law_script"]) F_law fun _ _ _ _ _ _ us hl => match us, hl with | [_], _ => rfl
  refine ⟨fd_law, fun s v => b s [v] rfl, fun base hTB => ?_⟩
  have B : Bl mg := bl_of X G fun f hf => c.t.d.facts (List.mem_append_left _ (show f ∈ Hz.blFa from hf))
  have o__law_box := ok__law_box (P := P) (w := w) (mg := mg) (base := base) (ca := He.ga K) (T := Tof K tf) F__law_box B
  have h__law_box : Kn P w K mg base (GY K (He.ga K) (Tof K tf)) 1 "_law_box" 1 m__law_box [] [] := kn_of F__law_box (He.glo_ok X G (c.t.d.fact 20 (f := .glo "_law_box") rfl)) (F__law_box.bindsN (ps := ["_law_script"]) fun _ _ _ _ _ _ us hl => match us, hl with | [_], _ => rfl) o__law_box
  have o__law_take := ok__law_take (P := P) (w := w) (mg := mg) (base := base) (ca := He.ga K) (T := Tof K tf) F__law_take B
  have h__law_take : Kn P w K mg base (GY K (He.ga K) (Tof K tf)) 1 "_law_take" 2 m__law_take [] [] := kn_of F__law_take (He.glo_ok X G (c.t.d.fact 21 (f := .glo "_law_take") rfl)) (F__law_take.bindsN (ps := ["_law_box_here", "_law_sides"]) fun _ _ _ _ _ _ us hl => match us, hl with | [_, _], _ => rfl) o__law_take
  have o__law_shuffled := ok__law_shuffled (P := P) (w := w) (mg := mg) (base := base) (ca := He.ga K) (T := Tof K tf) F__law_shuffled B h__law_take
  have h__law_shuffled : Kn P w K mg base (GY K (He.ga K) (Tof K tf)) 2 "_law_shuffled" 2 m__law_shuffled [] [] := kn_of F__law_shuffled (He.glo_ok X G (c.t.d.fact 22 (f := .glo "_law_shuffled") rfl)) (F__law_shuffled.bindsN (ps := ["_law_box_here", "_law_some"]) fun _ _ _ _ _ _ us hl => match us, hl with | [_, _], _ => rfl) o__law_shuffled
  have o__law_frame := ok__law_frame (P := P) (w := w) (mg := mg) (base := base) (ca := He.ga K) (T := Tof K tf) F__law_frame B h__law_shuffled h__law_take
  have h__law_frame : Kn P w K mg base (GY K (He.ga K) (Tof K tf)) 3 "_law_frame" 1 m__law_frame [] [] := kn_of F__law_frame (He.glo_ok X G (c.t.d.fact 23 (f := .glo "_law_frame") rfl)) (F__law_frame.bindsN (ps := ["_law_box_here"]) fun _ _ _ _ _ _ us hl => match us, hl with | [_], _ => rfl) o__law_frame
  have o__law_some_sides := ok__law_some_sides (P := P) (w := w) (mg := mg) (base := base) (ca := He.ga K) (T := Tof K tf) F__law_some_sides h__law_take
  have h__law_some_sides : Kn P w K mg base (GY K (He.ga K) (Tof K tf)) 2 "_law_some_sides" 2 m__law_some_sides [] [] := kn_of F__law_some_sides (He.glo_ok X G (c.t.d.fact 24 (f := .glo "_law_some_sides") rfl)) (F__law_some_sides.bindsN (ps := ["_law_box_here", "_law_frame_here"]) fun _ _ _ _ _ _ us hl => match us, hl with | [_, _], _ => rfl) o__law_some_sides
  have o__law_count_in := ok__law_count_in (P := P) (w := w) (mg := mg) (base := base) (ca := He.ga K) (T := Tof K tf) F__law_count_in B
  have h__law_count_in : Kn P w K mg base (GY K (He.ga K) (Tof K tf)) 1 "_law_count_in" 2 m__law_count_in [] [] := kn_of F__law_count_in (He.glo_ok X G (c.t.d.fact 25 (f := .glo "_law_count_in") rfl)) (F__law_count_in.bindsN (ps := ["_law_frame_here", "_law_sides"]) fun _ _ _ _ _ _ us hl => match us, hl with | [_, _], _ => rfl) o__law_count_in
  have o__law_of := ok__law_of (P := P) (w := w) (mg := mg) (base := base) (ca := He.ga K) (T := Tof K tf) F__law_of B h__law_take
  have h__law_of : Kn P w K mg base (GY K (He.ga K) (Tof K tf)) 2 "_law_of" 2 m__law_of [] [] := kn_of F__law_of (He.glo_ok X G (c.t.d.fact 26 (f := .glo "_law_of") rfl)) (F__law_of.bindsN (ps := ["_law_box_here", "_law_some"]) fun _ _ _ _ _ _ us hl => match us, hl with | [_, _], _ => rfl) o__law_of
  have o__law_cells := ok__law_cells (P := P) (w := w) (mg := mg) (base := base) (ca := He.ga K) (T := Tof K tf) F__law_cells B h__law_of h__law_take
  have h__law_cells : Kn P w K mg base (GY K (He.ga K) (Tof K tf)) 3 "_law_cells" 2 m__law_cells [] [] := kn_of F__law_cells (He.glo_ok X G (c.t.d.fact 27 (f := .glo "_law_cells") rfl)) (F__law_cells.bindsN (ps := ["_law_box_here", "_law_many"]) fun _ _ _ _ _ _ us hl => match us, hl with | [_, _], _ => rfl) o__law_cells
  have o__law_numbers := ok__law_numbers (P := P) (w := w) (mg := mg) (base := base) (ca := He.ga K) (T := Tof K tf) F__law_numbers B h__law_take
  have h__law_numbers : Kn P w K mg base (GY K (He.ga K) (Tof K tf)) 2 "_law_numbers" 3 m__law_numbers [] [] := kn_of F__law_numbers (He.glo_ok X G (c.t.d.fact 28 (f := .glo "_law_numbers") rfl)) (F__law_numbers.bindsN (ps := ["_law_box_here", "_law_count", "_law_many"]) fun _ _ _ _ _ _ us hl => match us, hl with | [_, _, _], _ => rfl) o__law_numbers
  have o__law_lines := ok__law_lines (P := P) (w := w) (mg := mg) (base := base) (ca := He.ga K) (T := Tof K tf) F__law_lines B h__law_numbers h__law_shuffled h__law_take
  have h__law_lines : Kn P w K mg base (GY K (He.ga K) (Tof K tf)) 3 "_law_lines" 3 m__law_lines [] [] := kn_of F__law_lines (He.glo_ok X G (c.t.d.fact 29 (f := .glo "_law_lines") rfl)) (F__law_lines.bindsN (ps := ["_law_box_here", "_law_deep", "_law_many"]) fun _ _ _ _ _ _ us hl => match us, hl with | [_, _, _], _ => rfl) o__law_lines
  have o__law_tables := ok__law_tables (P := P) (w := w) (mg := mg) (base := base) (ca := He.ga K) (T := Tof K tf) F__law_tables h__law_some_sides h__law_count_in h__law_cells h__law_lines
  have h__law_tables : Kn P w K mg base (GY K (He.ga K) (Tof K tf)) 4 "_law_tables" 4 m__law_tables [] [] := kn_of F__law_tables (He.glo_ok X G (c.t.d.fact 30 (f := .glo "_law_tables") rfl)) (F__law_tables.bindsN (ps := ["_law_box_here", "_law_frame_here", "_law_deep", "_law_count"]) fun _ _ _ _ _ _ us hl => match us, hl with | [_, _, _, _], _ => rfl) o__law_tables
  have o__law_sides_of := ok__law_sides_of (P := P) (w := w) (mg := mg) (base := base) (ca := He.ga K) (T := Tof K tf) F__law_sides_of (He.glo_ok X G (c.t.d.fact 31 (f := .glo "_law_sides_of") rfl)) (F__law_sides_of.bindsN (ps := ["_law_tree_here", "_law_frame_here", "_law_known"]) fun _ _ _ _ _ _ us hl => match us, hl with | [_, _, _], _ => rfl)
  have h__law_sides_of : ∀ n, Kn P w K mg base (GY K (He.ga K) (Tof K tf)) (n + 1) "_law_sides_of" 3 (m__law_sides_of n) [] [] := fun n => kn_of F__law_sides_of (He.glo_ok X G (c.t.d.fact 31 (f := .glo "_law_sides_of") rfl)) (F__law_sides_of.bindsN (ps := ["_law_tree_here", "_law_frame_here", "_law_known"]) fun _ _ _ _ _ _ us hl => match us, hl with | [_, _, _], _ => rfl) (o__law_sides_of n)
  have o__law_tree := ok__law_tree (P := P) (w := w) (mg := mg) (base := base) (ca := He.ga K) (T := Tof K tf) F__law_tree (He.glo_ok X G (c.t.d.fact 32 (f := .glo "_law_tree") rfl)) (F__law_tree.bindsN (ps := ["_law_box_here", "_law_frame_here", "_law_known", "_law_depth"]) fun _ _ _ _ _ _ us hl => match us, hl with | [_, _, _, _], _ => rfl) B h__law_take h__law_of h__law_sides_of
  have h__law_tree : ∀ n, Kn P w K mg base (GY K (He.ga K) (Tof K tf)) (n + 14) "_law_tree" 4 (m__law_tree n) [] [] := fun n => kn_of F__law_tree (He.glo_ok X G (c.t.d.fact 32 (f := .glo "_law_tree") rfl)) (F__law_tree.bindsN (ps := ["_law_box_here", "_law_frame_here", "_law_known", "_law_depth"]) fun _ _ _ _ _ _ us hl => match us, hl with | [_, _, _, _], _ => rfl) (o__law_tree n)
  have o__law_triples := ok__law_triples (P := P) (w := w) (mg := mg) (base := base) (ca := He.ga K) (T := Tof K tf) F__law_triples B h__law_shuffled
  have h__law_triples : Kn P w K mg base (GY K (He.ga K) (Tof K tf)) 3 "_law_triples" 2 m__law_triples [] [] := kn_of F__law_triples (He.glo_ok X G (c.t.d.fact 33 (f := .glo "_law_triples") rfl)) (F__law_triples.bindsN (ps := ["_law_box_here", "_law_known"]) fun _ _ _ _ _ _ us hl => match us, hl with | [_, _], _ => rfl) o__law_triples
  have o__law_spread_out := ok__law_spread_out (P := P) (w := w) (mg := mg) (base := base) (ca := He.ga K) (T := Tof K tf) F__law_spread_out
  have h__law_spread_out : Kn P w K mg base (GY K (He.ga K) (Tof K tf)) 1 "_law_spread_out" 3 m__law_spread_out [] [] := kn_of F__law_spread_out (He.glo_ok X G (c.t.d.fact 34 (f := .glo "_law_spread_out") rfl)) (F__law_spread_out.bindsN (ps := ["_law_frame_here", "_law_sides", "_law_cell"]) fun _ _ _ _ _ _ us hl => match us, hl with | [_, _, _], _ => rfl) o__law_spread_out
  have o__law_cut := ok__law_cut (P := P) (w := w) (mg := mg) (base := base) (ca := He.ga K) (T := Tof K tf) F__law_cut
  have h__law_cut : Kn P w K mg base (GY K (He.ga K) (Tof K tf)) 1 "_law_cut" 3 m__law_cut [] [] := kn_of F__law_cut (He.glo_ok X G (c.t.d.fact 35 (f := .glo "_law_cut") rfl)) (F__law_cut.bindsN (ps := ["_law_frame_here", "_law_sides", "_law_number"]) fun _ _ _ _ _ _ us hl => match us, hl with | [_, _, _], _ => rfl) o__law_cut
  have o__law_mixed := ok__law_mixed (P := P) (w := w) (mg := mg) (base := base) (ca := He.ga K) (T := Tof K tf) F__law_mixed B
  have h__law_mixed : Kn P w K mg base (GY K (He.ga K) (Tof K tf)) 1 "_law_mixed" 3 m__law_mixed [] [] := kn_of F__law_mixed (He.glo_ok X G (c.t.d.fact 36 (f := .glo "_law_mixed") rfl)) (F__law_mixed.bindsN (ps := ["_law_kind", "_law_one", "_law_other"]) fun _ _ _ _ _ _ us hl => match us, hl with | [_, _, _], _ => rfl) o__law_mixed
  have o__law_worth := ok__law_worth (P := P) (w := w) (mg := mg) (base := base) (ca := He.ga K) (T := Tof K tf) F__law_worth (He.glo_ok X G (c.t.d.fact 37 (f := .glo "_law_worth") rfl)) (F__law_worth.bindsN (ps := ["_law_tree_here", "_law_frame_here", "_law_known", "_law_number"]) fun _ _ _ _ _ _ us hl => match us, hl with | [_, _, _, _], _ => rfl) B h__law_cut h__law_spread_out h__law_count_in h__law_mixed
  have h__law_worth : ∀ n, Kn P w K mg base (GY K (He.ga K) (Tof K tf)) (n + 2) "_law_worth" 4 (m__law_worth n) [] [] := fun n => kn_of F__law_worth (He.glo_ok X G (c.t.d.fact 37 (f := .glo "_law_worth") rfl)) (F__law_worth.bindsN (ps := ["_law_tree_here", "_law_frame_here", "_law_known", "_law_number"]) fun _ _ _ _ _ _ us hl => match us, hl with | [_, _, _, _], _ => rfl) (o__law_worth n)
  have o__law_meant := ok__law_meant (P := P) (w := w) (mg := mg) (base := base) (ca := He.ga K) (T := Tof K tf) F__law_meant B h__law_sides_of h__law_count_in h__law_spread_out h__law_worth
  have h__law_meant : Kn P w K mg base (GY K (He.ga K) (Tof K tf)) 15 "_law_meant" 3 m__law_meant [] [] := kn_of F__law_meant (He.glo_ok X G (c.t.d.fact 38 (f := .glo "_law_meant") rfl)) (F__law_meant.bindsN (ps := ["_law_tree_here", "_law_frame_here", "_law_known"]) fun _ _ _ _ _ _ us hl => match us, hl with | [_, _, _], _ => rfl) o__law_meant
  have c_SMALL : ∃ u, mg "SMALL" = some (.str "abcdefghijklmnopqrstuvwxyz" u) := He.str_ok X G (c.t.d.fact 39 (f := .str "SMALL" "abcdefghijklmnopqrstuvwxyz") rfl)
  have o_is_name := ok_is_name (P := P) (w := w) (mg := mg) (base := base) (ca := He.ga K) (T := Tof K tf) F_is_name B c_SMALL
  have h_is_name : Kn P w K mg base (GY K (He.ga K) (Tof K tf)) 1 "is_name" 1 m_is_name [] [] := kn_of F_is_name (He.glo_ok X G (c.t.d.fact 40 (f := .glo "is_name") rfl)) (F_is_name.bindsN (ps := ["name"]) fun _ _ _ _ _ _ us hl => match us, hl with | [_], _ => rfl) o_is_name
  have x_BadSides : KnX K mg (GY K (He.ga K) (Tof K tf)) "BadSides" := knX_of X G (c.t.d.fact 41 (f := .glo "BadSides") rfl) (c.t.d.fact 42 (f := .exc "BadSides") rfl)
  have c_MOST_DIGITS : ∃ u, mg "MOST_DIGITS" = some (.int 12 u) := He.int_ok X G (c.t.d.fact 43 (f := .int "MOST_DIGITS" 12) rfl)
  have o_need_sides := ok_need_sides (P := P) (w := w) (mg := mg) (base := base) (ca := He.ga K) (T := Tof K tf) F_need_sides B h_is_name x_BadSides c_MOST_DIGITS
  have h_need_sides : Kn P w K mg base (GY K (He.ga K) (Tof K tf)) 2 "need_sides" 1 m_need_sides [] [] := kn_of F_need_sides (He.glo_ok X G (c.t.d.fact 44 (f := .glo "need_sides") rfl)) (F_need_sides.bindsN (ps := ["sides"]) fun _ _ _ _ _ _ us hl => match us, hl with | [_], _ => rfl) o_need_sides
  have c_MOST_DEEP : ∃ u, mg "MOST_DEEP" = some (.int 7 u) := He.int_ok X G (c.t.d.fact 45 (f := .int "MOST_DEEP" 7) rfl)
  have o_need_frame := ok_need_frame (P := P) (w := w) (mg := mg) (base := base) (ca := He.ga K) (T := Tof K tf) F_need_frame B h_need_sides c_MOST_DEEP x_BadSides
  have h_need_frame : Kn P w K mg base (GY K (He.ga K) (Tof K tf)) 3 "need_frame" 1 m_need_frame [] [] := kn_of F_need_frame (He.glo_ok X G (c.t.d.fact 46 (f := .glo "need_frame") rfl)) (F_need_frame.bindsN (ps := ["frame"]) fun _ _ _ _ _ _ us hl => match us, hl with | [_], _ => rfl) o_need_frame
  have C_Weft : Cls K ((GY K (He.ga K) (Tof K tf)).ca "Weft") := He.cls_ok (c.t.d.fact 47 (f := .cls "Weft") rfl)
  have n_Weft_frame : NoAttr K ((GY K (He.ga K) (Tof K tf)).ca "Weft") "frame" := He.noat_ok (c.t.d.fact 48 (f := .noat "Weft" "frame") rfl)
  have n_Weft_known : NoAttr K ((GY K (He.ga K) (Tof K tf)).ca "Weft") "known" := He.noat_ok (c.t.d.fact 49 (f := .noat "Weft" "known") rfl)
  have n_Weft_knots : NoAttr K ((GY K (He.ga K) (Tof K tf)).ca "Weft") "knots" := He.noat_ok (c.t.d.fact 50 (f := .noat "Weft" "knots") rfl)
  have g_FoldError : mg "FoldError" = some (.ref ((GY K (He.ga K) (Tof K tf)).ca "FoldError")) := He.glo_ok X G (c.t.d.fact 51 (f := .glo "FoldError") rfl)
  have g_NoTable : mg "NoTable" = some (.ref ((GY K (He.ga K) (Tof K tf)).ca "NoTable")) := He.glo_ok X G (c.t.d.fact 52 (f := .glo "NoTable") rfl)
  have xm_NoTable := (xmB_ok (exAt (es := exs) c.more 1 rfl))
  have xf_NoTable : KnF P w K mg base (GY K (He.ga K) (Tof K tf)) "NoTable" := ⟨oexB_ok (exAt (es := exs) c.more 2 rfl), g_NoTable, xm_NoTable.1, _, _, _, xm_NoTable.2.1, xm_NoTable.2.2, ok_NoTableU_initU (P := P) (w := w) (mg := mg) (base := base) (ca := He.ga K) (T := Tof K tf) F_NoTableU_initU g_FoldError (basB_ok (exAt (es := exs) c.more 0 rfl)), (F_NoTableU_initU.bindsN (ps := ["self", "name"]) fun _ _ _ _ _ _ us hl => match us, hl with | [_, _], _ => rfl)⟩
  have o_in_order := ok_in_order (P := P) (w := w) (mg := mg) (base := base) (ca := He.ga K) (T := Tof K tf) F_in_order
  have h_in_order : Kn P w K mg base (GY K (He.ga K) (Tof K tf)) 1 "in_order" 2 m_in_order [] [] := kn_of F_in_order (He.glo_ok X G (c.t.d.fact 53 (f := .glo "in_order") rfl)) (F_in_order.bindsN (ps := ["frame", "sides"]) fun _ _ _ _ _ _ us hl => match us, hl with | [_, _], _ => rfl) o_in_order
  have g_NoSide : mg "NoSide" = some (.ref ((GY K (He.ga K) (Tof K tf)).ca "NoSide")) := He.glo_ok X G (c.t.d.fact 54 (f := .glo "NoSide") rfl)
  have xm_NoSide := (xmB_ok (exAt (es := exs) c.more 3 rfl))
  have xf_NoSide : KnF P w K mg base (GY K (He.ga K) (Tof K tf)) "NoSide" := ⟨oexB_ok (exAt (es := exs) c.more 4 rfl), g_NoSide, xm_NoSide.1, _, _, _, xm_NoSide.2.1, xm_NoSide.2.2, ok_NoSideU_initU (P := P) (w := w) (mg := mg) (base := base) (ca := He.ga K) (T := Tof K tf) F_NoSideU_initU g_FoldError (basB_ok (exAt (es := exs) c.more 0 rfl)), (F_NoSideU_initU.bindsN (ps := ["self", "name"]) fun _ _ _ _ _ _ us hl => match us, hl with | [_, _], _ => rfl)⟩
  have o_Weft_knot := ok_Weft_knot (P := P) (w := w) (mg := mg) (base := base) (ca := He.ga K) (T := Tof K tf) F_Weft_knot B C_Weft n_Weft_knots
  have h_Weft_knot : KnM P w K mg base (GY K (He.ga K) (Tof K tf)) 1 "Weft" "knot" 5 m_Weft_knot [] [] := knM_of F_Weft_knot (He.cls_ok (c.t.d.fact 47 (f := .cls "Weft") rfl)) (He.meth_ok (c.t.d.fact 55 (f := .meth "Weft" "knot") rfl)) (F_Weft_knot.bindsN (ps := ["self", "kind", "side", "parts", "sides"]) fun _ _ _ _ _ _ us hl => match us, hl with | [_, _, _, _, _], _ => rfl) o_Weft_knot
  have o_Weft_part_of := ok_Weft_part_of (P := P) (w := w) (mg := mg) (base := base) (ca := He.ga K) (T := Tof K tf) F_Weft_part_of (He.cls_ok (c.t.d.fact 47 (f := .cls "Weft") rfl)) (He.meth_ok (c.t.d.fact 56 (f := .meth "Weft" "part_of") rfl)) (F_Weft_part_of.bindsN (ps := ["self", "tree"]) fun _ _ _ _ _ _ us hl => match us, hl with | [_, _], _ => rfl) C_Weft n_Weft_known xf_NoTable n_Weft_frame h_in_order xf_NoSide h_Weft_knot
  have h_Weft_part_of : ∀ n, KnM P w K mg base (GY K (He.ga K) (Tof K tf)) (n + 3) "Weft" "part_of" 2 (m_Weft_part_of n) [] [] := fun n => knM_of F_Weft_part_of (He.cls_ok (c.t.d.fact 47 (f := .cls "Weft") rfl)) (He.meth_ok (c.t.d.fact 56 (f := .meth "Weft" "part_of") rfl)) (F_Weft_part_of.bindsN (ps := ["self", "tree"]) fun _ _ _ _ _ _ us hl => match us, hl with | [_, _], _ => rfl) (o_Weft_part_of n)
  have o_Weft_part_of_t := ok_Weft_part_of_t (P := P) (w := w) (mg := mg) (base := base) (ca := He.ga K) (T := Tof K tf) F_Weft_part_of C_Weft n_Weft_known xf_NoTable n_Weft_frame h_in_order xf_NoSide h_Weft_knot (h_Weft_part_of 11)
  have h_Weft_part_of_t : KnM P w K mg base (GY K (He.ga K) (Tof K tf)) 15 "Weft" "part_of" 2 m_Weft_part_of_t [] [] := knM_of F_Weft_part_of (He.cls_ok (c.t.d.fact 47 (f := .cls "Weft") rfl)) (He.meth_ok (c.t.d.fact 56 (f := .meth "Weft" "part_of") rfl)) (F_Weft_part_of.bindsN (ps := ["self", "tree"]) fun _ _ _ _ _ _ us hl => match us, hl with | [_, _], _ => rfl) o_Weft_part_of_t
  have n_Weft_whole : NoAttr K ((GY K (He.ga K) (Tof K tf)).ca "Weft") "whole" := He.noat_ok (c.t.d.fact 57 (f := .noat "Weft" "whole") rfl)
  have o_WeftU_initU := ok_WeftU_initU (P := P) (w := w) (mg := mg) (base := base) (ca := He.ga K) (T := Tof K tf) F_WeftU_initU C_Weft n_Weft_frame n_Weft_known n_Weft_knots h_Weft_part_of n_Weft_whole
  have o_WeftU_initU_t := ok_WeftU_initU_t (P := P) (w := w) (mg := mg) (base := base) (ca := He.ga K) (T := Tof K tf) F_WeftU_initU C_Weft n_Weft_frame n_Weft_known n_Weft_knots h_Weft_part_of_t n_Weft_whole
  have k_Weft : KnC P w K mg base (GY K (He.ga K) (Tof K tf)) 16 "Weft" 4 m_WeftU_initU [] [] := knC_of F_WeftU_initU (He.mkr_ok (c.t.d.fact 58 (f := .mkr "Weft") rfl)) (He.glo_ok X G (c.t.d.fact 59 (f := .glo "Weft") rfl)) (F_WeftU_initU.bindsN (ps := ["self", "tree", "frame", "known"]) fun _ _ _ _ _ _ us hl => match us, hl with | [_, _, _, _], _ => rfl) o_WeftU_initU
  have k_Weft_t : KnC P w K mg base (GY K (He.ga K) (Tof K tf)) 16 "Weft" 4 m_WeftU_initU_t [] [] := knC_of F_WeftU_initU (He.mkr_ok (c.t.d.fact 58 (f := .mkr "Weft") rfl)) (He.glo_ok X G (c.t.d.fact 59 (f := .glo "Weft") rfl)) (F_WeftU_initU.bindsN (ps := ["self", "tree", "frame", "known"]) fun _ _ _ _ _ _ us hl => match us, hl with | [_, _, _, _], _ => rfl) o_WeftU_initU_t
  have x_BadFold : KnX K mg (GY K (He.ga K) (Tof K tf)) "BadFold" := knX_of X G (c.t.d.fact 60 (f := .glo "BadFold") rfl) (c.t.d.fact 61 (f := .exc "BadFold") rfl)
  have C_Fold : Cls K ((GY K (He.ga K) (Tof K tf)).ca "Fold") := He.cls_ok (c.t.d.fact 62 (f := .cls "Fold") rfl)
  have n_Fold_lines : NoAttr K ((GY K (He.ga K) (Tof K tf)).ca "Fold") "lines" := He.noat_ok (c.t.d.fact 63 (f := .noat "Fold" "lines") rfl)
  have n_Fold_wide : NoAttr K ((GY K (He.ga K) (Tof K tf)).ca "Fold") "wide" := He.noat_ok (c.t.d.fact 64 (f := .noat "Fold" "wide") rfl)
  have o_FoldU_initU := ok_FoldU_initU (P := P) (w := w) (mg := mg) (base := base) (ca := He.ga K) (T := Tof K tf) F_FoldU_initU B c_MOST_DIGITS x_BadFold C_Fold n_Fold_lines n_Fold_wide
  have k_Fold : KnC P w K mg base (GY K (He.ga K) (Tof K tf)) 1 "Fold" 3 m_FoldU_initU [] [] := knC_of F_FoldU_initU (He.mkr_ok (c.t.d.fact 65 (f := .mkr "Fold") rfl)) (He.glo_ok X G (c.t.d.fact 66 (f := .glo "Fold") rfl)) (F_FoldU_initU.bindsN (ps := ["self", "rows", "size"]) fun _ _ _ _ _ _ us hl => match us, hl with | [_, _, _], _ => rfl) o_FoldU_initU
  have o_cut_fold := ok_cut_fold (P := P) (w := w) (mg := mg) (base := base) (ca := He.ga K) (T := Tof K tf) F_cut_fold B k_Fold
  have h_cut_fold : Kn P w K mg base (GY K (He.ga K) (Tof K tf)) 3 "cut_fold" 3 m_cut_fold [] [] := kn_of F_cut_fold (He.glo_ok X G (c.t.d.fact 67 (f := .glo "cut_fold") rfl)) (F_cut_fold.bindsN (ps := ["frame", "whole", "part"]) fun _ _ _ _ _ _ us hl => match us, hl with | [_, _, _], _ => rfl) o_cut_fold
  have o_Fold_size := ok_Fold_size (P := P) (w := w) (mg := mg) (base := base) (ca := He.ga K) (T := Tof K tf) F_Fold_size C_Fold n_Fold_wide
  have h_Fold_size : KnM P w K mg base (GY K (He.ga K) (Tof K tf)) 1 "Fold" "size" 1 m_Fold_size [] [] := knM_of F_Fold_size (He.cls_ok (c.t.d.fact 62 (f := .cls "Fold") rfl)) (He.meth_ok (c.t.d.fact 68 (f := .meth "Fold" "size") rfl)) (F_Fold_size.bindsN (ps := ["self"]) fun _ _ _ _ _ _ us hl => match us, hl with | [_], _ => rfl) o_Fold_size
  have x_BadNumber : KnX K mg (GY K (He.ga K) (Tof K tf)) "BadNumber" := knX_of X G (c.t.d.fact 69 (f := .glo "BadNumber") rfl) (c.t.d.fact 70 (f := .exc "BadNumber") rfl)
  have o_blended := ok_blended (P := P) (w := w) (mg := mg) (base := base) (ca := He.ga K) (T := Tof K tf) F_blended
  have h_blended : Kn P w K mg base (GY K (He.ga K) (Tof K tf)) 1 "blended" 1 m_blended [] [] := kn_of F_blended (He.glo_ok X G (c.t.d.fact 71 (f := .glo "blended") rfl)) (F_blended.bindsN (ps := ["numbers"]) fun _ _ _ _ _ _ us hl => match us, hl with | [_], _ => rfl) o_blended
  have o_picked := ok_picked (P := P) (w := w) (mg := mg) (base := base) (ca := He.ga K) (T := Tof K tf) F_picked B h_blended
  have h_picked : Kn P w K mg base (GY K (He.ga K) (Tof K tf)) 2 "picked" 2 m_picked [] [] := kn_of F_picked (He.glo_ok X G (c.t.d.fact 72 (f := .glo "picked") rfl)) (F_picked.bindsN (ps := ["rows", "number"]) fun _ _ _ _ _ _ us hl => match us, hl with | [_, _], _ => rfl) o_picked
  have o_Fold_to := ok_Fold_to (P := P) (w := w) (mg := mg) (base := base) (ca := He.ga K) (T := Tof K tf) F_Fold_to B C_Fold n_Fold_lines x_BadNumber h_picked
  have h_Fold_to : KnM P w K mg base (GY K (He.ga K) (Tof K tf)) 3 "Fold" "to" 2 m_Fold_to [] [] := knM_of F_Fold_to (He.cls_ok (c.t.d.fact 62 (f := .cls "Fold") rfl)) (He.meth_ok (c.t.d.fact 73 (f := .meth "Fold" "to") rfl)) (F_Fold_to.bindsN (ps := ["self", "number"]) fun _ _ _ _ _ _ us hl => match us, hl with | [_, _], _ => rfl) o_Fold_to
  have o_digits_in := ok_digits_in (P := P) (w := w) (mg := mg) (base := base) (ca := He.ga K) (T := Tof K tf) F_digits_in B
  have h_digits_in : Kn P w K mg base (GY K (He.ga K) (Tof K tf)) 1 "digits_in" 2 m_digits_in [] [] := kn_of F_digits_in (He.glo_ok X G (c.t.d.fact 74 (f := .glo "digits_in") rfl)) (F_digits_in.bindsN (ps := ["frame", "sides"]) fun _ _ _ _ _ _ us hl => match us, hl with | [_, _], _ => rfl) o_digits_in
  have o_mixed := ok_mixed (P := P) (w := w) (mg := mg) (base := base) (ca := He.ga K) (T := Tof K tf) F_mixed B
  have h_mixed : Kn P w K mg base (GY K (He.ga K) (Tof K tf)) 1 "mixed" 3 m_mixed [] [] := kn_of F_mixed (He.glo_ok X G (c.t.d.fact 75 (f := .glo "mixed") rfl)) (F_mixed.bindsN (ps := ["word", "one", "other"]) fun _ _ _ _ _ _ us hl => match us, hl with | [_, _, _], _ => rfl) o_mixed
  have o_cells_of := ok_cells_of (P := P) (w := w) (mg := mg) (base := base) (ca := He.ga K) (T := Tof K tf) F_cells_of B h_need_frame k_Weft C_Weft n_Weft_knots h_cut_fold h_Fold_size h_Fold_to h_digits_in h_mixed n_Weft_whole
  have h_cells_of : Kn P w K mg base (GY K (He.ga K) (Tof K tf)) 18 "cells_of" 3 m_cells_of_k51 [] [] := kn_of F_cells_of (He.glo_ok X G (c.t.d.fact 76 (f := .glo "cells_of") rfl)) (F_cells_of.bindsN (ps := ["tree", "frame", "tables"]) fun _ _ _ _ _ _ us hl => match us, hl with | [_, _, _], _ => rfl) o_cells_of
  have o__law_same := ok__law_same (P := P) (w := w) (mg := mg) (base := base) (ca := He.ga K) (T := Tof K tf) F__law_same (He.glo_ok X G (c.t.d.fact 77 (f := .glo "_law_same") rfl)) (F__law_same.bindsN (ps := ["_law_found", "_law_due"]) fun _ _ _ _ _ _ us hl => match us, hl with | [_, _], _ => rfl) B
  have h__law_same : ∀ n, Kn P w K mg base (GY K (He.ga K) (Tof K tf)) (n + 1) "_law_same" 2 (m__law_same n) [] [] := fun n => kn_of F__law_same (He.glo_ok X G (c.t.d.fact 77 (f := .glo "_law_same") rfl)) (F__law_same.bindsN (ps := ["_law_found", "_law_due"]) fun _ _ _ _ _ _ us hl => match us, hl with | [_, _], _ => rfl) (o__law_same n)
  have o_sides_of := ok_sides_of_t (P := P) (w := w) (mg := mg) (base := base) (ca := He.ga K) (T := Tof K tf) F_sides_of h_need_frame k_Weft_t C_Weft n_Weft_whole
  have h_sides_of : Kn P w K mg base (GY K (He.ga K) (Tof K tf)) 18 "sides_of" 3 m_sides_of_t [] [] := kn_of F_sides_of (He.glo_ok X G (c.t.d.fact 78 (f := .glo "sides_of") rfl)) (F_sides_of.bindsN (ps := ["tree", "frame", "tables"]) fun _ _ _ _ _ _ us hl => match us, hl with | [_, _, _], _ => rfl) o_sides_of
  have o_law := ok_law (P := P) (w := w) (mg := mg) (base := base) (ca := He.ga K) (T := Tof K tf) F_law B h__law_box h__law_frame h__law_take h__law_tables h__law_tree h__law_triples h__law_meant h_cells_of h__law_same h_sides_of h__law_sides_of
  exact o_law
end K51
namespace Fb
open PySem L2 Mm Gf
abbrev Fr := List (Str × Nat)
def bts : Fr → List Str → Nat
  | [], _ => 0
  | p :: F, s => if p.1 ∈ s then p.2 + bts F s else bts F s
def wix (A : Str → Nat) : Fr → List Str → Nat
  | [], _ => 0
  | p :: F, s => if p.1 ∈ s then A p.1 + 2 ^ p.2 * wix A F s else wix A F s
def wdc : Fr → List Str → Nat → Str → Nat
  | [], _, _ => fun _ => 0
  | p :: F, s, c => if p.1 ∈ s then (fun y => if y = p.1 then c % 2 ^ p.2 else wdc F s (c / 2 ^ p.2) y) else wdc F s c
def cutL (s t : List Str) : Fr → Nat → List Nat
  | [], _ => []
  | p :: F, k => if p.1 ∈ s then (if p.1 ∈ t then (List.range p.2).map (fun i => 2 ^ (k + i)) ++ cutL s t F (k + p.2) else List.replicate p.2 0 ++ cutL s t F k) else cutL s t F k
def Inn (F : Fr) (A : Str → Nat) : Prop := ∀ p ∈ F, A p.1 < 2 ^ p.2
theorem bts_congr {s t : List Str} : ∀ {F : Fr}, (∀ p ∈ F, p.1 ∈ s ↔ p.1 ∈ t) → bts F s = bts F t
  | [], _ => rfl
  | p :: F, h => by
    have ih := bts_congr fun q hq => h q (List.mem_cons_of_mem _ hq)
    have hp := h p List.mem_cons_self
    unfold bts
    by_cases q : p.1 ∈ s
    · rw [if_pos q, if_pos (hp.mp q), ih]
    · rw [if_neg q, if_neg fun z => q (hp.mpr z), ih]
theorem wix_congr {A B : Str → Nat} {s t : List Str} : ∀ {F : Fr}, (∀ p ∈ F, p.1 ∈ s ↔ p.1 ∈ t) → (∀ p ∈ F, p.1 ∈ s → A p.1 = B p.1) → wix A F s = wix B F t
  | [], _, _ => rfl
  | p :: F, h, g => by
    have ih := wix_congr (fun q hq => h q (List.mem_cons_of_mem _ hq)) fun q hq => g q (List.mem_cons_of_mem _ hq)
    have hp := h p List.mem_cons_self
    unfold wix
    by_cases q : p.1 ∈ s
    · rw [if_pos q, if_pos (hp.mp q), ih, g p List.mem_cons_self q]
    · rw [if_neg q, if_neg fun z => q (hp.mpr z), ih]
theorem Inn.tail {F : Fr} {p : Str × Nat} {A : Str → Nat} (h : Inn (p :: F) A) : Inn F A := fun q hq => h q (List.mem_cons_of_mem _ hq)
theorem wix_lt {A : Str → Nat} {s : List Str} : ∀ {F : Fr}, Inn F A → wix A F s < 2 ^ bts F s
  | [], _ => by simp [wix, bts]
  | p :: F, h => by
    have ih := wix_lt (s := s) h.tail
    have hp := h p List.mem_cons_self
    unfold wix bts
    by_cases q : p.1 ∈ s
    · rw [if_pos q, if_pos q, Nat.pow_add]
      have : 2 ^ p.2 * (wix A F s + 1) ≤ 2 ^ p.2 * 2 ^ bts F s := Nat.mul_le_mul_left _ ih
      rw [Nat.mul_add, Nat.mul_one] at this
      omega
    · rw [if_neg q, if_neg q]
      exact ih
theorem wdc_out {s : List Str} {y : Str} : ∀ {F : Fr} {c : Nat}, (y ∉ nms F ∨ y ∉ s) → wdc F s c y = 0
  | [], _, _ => rfl
  | p :: F, c, h => by
    have h2 : y ∉ nms F ∨ y ∉ s := h.imp_left fun z w => z (List.mem_cons_of_mem _ w)
    unfold wdc
    by_cases q : p.1 ∈ s
    · rw [if_pos q]
      have ne : y ≠ p.1 := fun e => by
        subst e
        exact h.elim (fun z => z List.mem_cons_self) fun z => z q
      show (if y = p.1 then _ else _) = 0
      rw [if_neg ne]
      exact wdc_out h2
    · rw [if_neg q]
      exact wdc_out h2
theorem nms_ne {p q : Str × Nat} {F : Fr} (hn : (nms (p :: F)).Nodup) (hq : q ∈ F) : q.1 ≠ p.1 := fun e => by
  have := (List.nodup_cons.mp hn).1
  exact this (by
    show p.1 ∈ nms F
    rw [← e]
    exact List.mem_map.mpr ⟨q, hq, rfl⟩)
theorem wdc_inn {s : List Str} : ∀ {F : Fr} (_ : (nms F).Nodup) (c : Nat), Inn F (wdc F s c)
  | [], _, _ => fun q hq => by simp at hq
  | p :: F, hn, c => fun q hq => by
    have hn2 := (List.nodup_cons.mp hn).2
    unfold wdc
    by_cases z : p.1 ∈ s
    · rw [if_pos z]
      show (if q.1 = p.1 then _ else _) < _
      rcases List.mem_cons.mp hq with rfl | hq
      · rw [if_pos rfl]
        exact Nat.mod_lt _ (Nat.two_pow_pos _)
      · rw [if_neg (nms_ne hn hq)]
        exact wdc_inn hn2 _ q hq
    · rw [if_neg z]
      rcases List.mem_cons.mp hq with rfl | hq
      · rw [wdc_out (.inr z)]
        exact Nat.two_pow_pos _
      · exact wdc_inn hn2 _ q hq
theorem wix_wdc {s : List Str} : ∀ {F : Fr} (_ : (nms F).Nodup) {c : Nat}, c < 2 ^ bts F s → wix (wdc F s c) F s = c
  | [], _, c, h => by
    simp [bts] at h
    simp [wix, h]
  | p :: F, hn, c, h => by
    have hn2 := (List.nodup_cons.mp hn).2
    unfold wix wdc
    unfold bts at h
    by_cases q : p.1 ∈ s
    · rw [if_pos q] at h
      rw [if_pos q, if_pos q]
      have e : wix (fun y => if y = p.1 then c % 2 ^ p.2 else wdc F s (c / 2 ^ p.2) y) F s = wix (wdc F s (c / 2 ^ p.2)) F s := wix_congr (fun _ _ => Iff.rfl) fun r hr _ => if_neg (nms_ne hn hr)
      rw [e, wix_wdc hn2 (by rw [Nat.pow_add] at h; exact Nat.div_lt_of_lt_mul h)]
      show (if p.1 = p.1 then c % 2 ^ p.2 else _) + _ = c
      rw [if_pos rfl]
      exact Nat.mod_add_div c (2 ^ p.2)
    · rw [if_neg q] at h
      rw [if_neg q, if_neg q]
      exact wix_wdc hn2 h
theorem wdc_wix {A : Str → Nat} {s : List Str} : ∀ {F : Fr} (_ : (nms F).Nodup) (_ : Inn F A), ∀ p ∈ F, p.1 ∈ s → wdc F s (wix A F s) p.1 = A p.1
  | [], _, _ => fun p hp => by simp at hp
  | p :: F, hn, hA => fun r hr hs => by
    have hn2 := (List.nodup_cons.mp hn).2
    have hp := hA p List.mem_cons_self
    unfold wix wdc
    by_cases q : p.1 ∈ s
    · rw [if_pos q, if_pos q]
      show (if r.1 = p.1 then _ else _) = _
      by_cases e : r.1 = p.1
      · rw [if_pos e, e, Nat.add_mul_mod_self_left, Nat.mod_eq_of_lt hp]
      · rw [if_neg e, Nat.add_mul_div_left _ _ (Nat.two_pow_pos _), Nat.div_eq_of_lt hp, Nat.zero_add]
        rcases List.mem_cons.mp hr with rfl | hr
        · exact absurd rfl e
        · exact wdc_wix hn2 hA.tail r hr hs
    · rw [if_neg q, if_neg q]
      rcases List.mem_cons.mp hr with rfl | hr
      · exact absurd hs q
      · exact wdc_wix hn2 hA.tail r hr hs
theorem cutL_len {s t : List Str} : ∀ {F : Fr} {k : Nat}, (cutL s t F k).length = bts F s
  | [], _ => rfl
  | p :: F, k => by
    unfold cutL bts
    by_cases q : p.1 ∈ s
    · rw [if_pos q, if_pos q]
      by_cases z : p.1 ∈ t
      · rw [if_pos z, List.length_append, cutL_len]
        simp
      · rw [if_neg z, List.length_append, cutL_len]
        simp
    · rw [if_neg q, if_neg q]
      exact cutL_len
theorem cutL_lt {s t : List Str} : ∀ {F : Fr} {k : Nat} (_ : ∀ p ∈ F, p.1 ∈ t → p.1 ∈ s), ∀ r ∈ cutL s t F k, r < 2 ^ (k + bts F t)
  | [], _, _, r, h => by simp [cutL] at h
  | p :: F, k, hs, r, h => by
    have hs2 : ∀ p ∈ F, p.1 ∈ t → p.1 ∈ s := fun q hq => hs q (List.mem_cons_of_mem _ hq)
    unfold cutL at h
    unfold bts
    by_cases q : p.1 ∈ s
    · rw [if_pos q] at h
      by_cases z : p.1 ∈ t
      · rw [if_pos z] at h ⊢
        rcases List.mem_append.mp h with h | h
        · obtain ⟨i, hi, rfl⟩ := List.mem_map.mp h
          have := List.mem_range.mp hi
          exact Nat.pow_lt_pow_right (by decide) (by omega)
        · have := cutL_lt hs2 r h
          rwa [Nat.add_assoc] at this
      · rw [if_neg z] at h ⊢
        rcases List.mem_append.mp h with h | h
        · rw [(List.mem_replicate.mp h).2]
          exact Nat.two_pow_pos _
        · exact cutL_lt hs2 r h
    · have z : p.1 ∉ t := fun z => q (hs p List.mem_cons_self z)
      rw [if_neg q] at h
      rw [if_neg z]
      exact cutL_lt hs2 r h
theorem mul_xor (k x y : Nat) : 2 ^ k * (x ^^^ y) = (2 ^ k * x) ^^^ (2 ^ k * y) := Nat.eq_of_testBit_eq fun i => by
  rw [Nat.testBit_xor, Nat.testBit_two_pow_mul, Nat.testBit_two_pow_mul, Nat.testBit_two_pow_mul, Nat.testBit_xor]
  cases decide (i ≥ k) <;> simp
theorem app_shift {m k a : Nat} (h : a < 2 ^ m) : app ((List.range m).map fun i => 2 ^ (k + i)) a = 2 ^ k * a := by
  have e : ((List.range m).map fun i => 2 ^ (k + i)) = (Gf.plain m).map (2 ^ k * ·) := by
    unfold Gf.plain
    rw [List.map_map]
    exact List.map_congr_left fun i _ => Nat.pow_add 2 k i
  rw [e, app_map (2 ^ k * ·) (Nat.mul_zero _) (mul_xor k), app_plain m a h]
theorem app_zeros : ∀ (m x : Nat), app (List.replicate m 0) x = 0
  | 0, _ => rfl
  | m + 1, x => by
    rw [List.replicate_succ, app_cons, app_zeros m]
    simp
theorem xor_plus {m k a b : Nat} (h : a < 2 ^ m) : (2 ^ k * a) ^^^ (2 ^ (k + m) * b) = 2 ^ k * (a + 2 ^ m * b) := by
  rw [Nat.pow_add, Nat.mul_assoc, ← mul_xor]
  congr 1
  rw [Nat.add_comm]
  refine Nat.eq_of_testBit_eq fun i => ?_
  rw [Nat.testBit_xor, Nat.testBit_two_pow_mul, Nat.testBit_two_pow_mul_add _ h]
  by_cases q : i < m
  · have : ¬ i ≥ m := by omega
    simp [q, this]
  · have z : i ≥ m := by omega
    have : a.testBit i = false := bit_big h z
    simp [q, z, this]
theorem cut_app {A : Str → Nat} {s t : List Str} : ∀ {F : Fr} {k : Nat} (_ : ∀ p ∈ F, p.1 ∈ t → p.1 ∈ s) (_ : Inn F A), app (cutL s t F k) (wix A F s) = 2 ^ k * wix A F t
  | [], k, _, _ => by simp [cutL, wix, app_nil]
  | p :: F, k, hs, hA => by
    have hs2 : ∀ p ∈ F, p.1 ∈ t → p.1 ∈ s := fun q hq => hs q (List.mem_cons_of_mem _ hq)
    have hp := hA p List.mem_cons_self
    unfold cutL wix
    by_cases q : p.1 ∈ s
    · rw [if_pos q, if_pos q]
      have dv : (A p.1 + 2 ^ p.2 * wix A F s) / 2 ^ p.2 = wix A F s := by rw [Nat.add_mul_div_left _ _ (Nat.two_pow_pos _), Nat.div_eq_of_lt hp, Nat.zero_add]
      have md : (A p.1 + 2 ^ p.2 * wix A F s) % 2 ^ p.2 = A p.1 := by rw [Nat.add_mul_mod_self_left, Nat.mod_eq_of_lt hp]
      by_cases z : p.1 ∈ t
      · rw [if_pos z, if_pos z, app_append]
        have l1 : ((List.range p.2).map fun i => 2 ^ (k + i)).length = p.2 := by simp
        rw [← app_mod ((List.range p.2).map fun i => 2 ^ (k + i)), l1, md, dv, app_shift hp, cut_app hs2 hA.tail, xor_plus hp]
      · rw [if_neg z, if_neg z, app_append, app_zeros, Nat.zero_xor, List.length_replicate, dv]
        exact cut_app hs2 hA.tail
    · have z : p.1 ∉ t := fun z => q (hs p List.mem_cons_self z)
      rw [if_neg q, if_neg q, if_neg z]
      exact cut_app hs2 hA.tail
theorem cut_app0 {A : Str → Nat} {s t : List Str} {F : Fr} (hs : ∀ p ∈ F, p.1 ∈ t → p.1 ∈ s) (hA : Inn F A) : app (cutL s t F 0) (wix A F s) = wix A F t := by
  have := cut_app (k := 0) hs hA
  simpa using this
theorem cutL_lin {s t : List Str} {F : Fr} (hn : (nms F).Nodup) (hs : ∀ p ∈ F, p.1 ∈ t → p.1 ∈ s) : Lin (bts F s) (bts F t) (cutL s t F 0) := ⟨cutL_len, fun r hr => by simpa using cutL_lt hs r hr, fun x hx => ⟨wix (wdc F t x) F s, by rw [cut_app0 hs (wdc_inn hn x), wix_wdc hn hx]⟩⟩
def ordF (F : Fr) (s : List Str) : List Str := (nms F).filter fun x => decide (x ∈ s)
theorem ordF_mem {F : Fr} {s : List Str} {x : Str} : x ∈ ordF F s ↔ x ∈ nms F ∧ x ∈ s := by simp [ordF]
theorem ordF_congr {F : Fr} {s t : List Str} (h : ∀ x ∈ nms F, x ∈ s ↔ x ∈ t) : ordF F s = ordF F t := List.filter_congr fun x hx => decide_eq_decide.mpr (h x hx)
theorem ordF_ordF (F : Fr) (s : List Str) : ordF F (ordF F s) = ordF F s := ordF_congr fun x hx => by
  rw [ordF_mem]
  exact ⟨fun h => h.2, fun h => ⟨hx, h⟩⟩
theorem ordF_filter (F : Fr) (s : List Str) (q : Str → Bool) : ordF F ((ordF F s).filter q) = (ordF F s).filter q := by
  unfold ordF
  rw [List.filter_filter]
  refine List.filter_congr fun x hx => ?_
  by_cases h1 : x ∈ s <;> simp [h1, hx, List.mem_filter]
theorem mem_nms {F : Fr} {p : Str × Nat} (h : p ∈ F) : p.1 ∈ nms F := List.mem_map.mpr ⟨p, h, rfl⟩
theorem bts_ordF {F : Fr} {s : List Str} : bts F (ordF F s) = bts F s := bts_congr fun p hp => by
  rw [ordF_mem]
  exact ⟨fun h => h.2, fun h => ⟨mem_nms hp, h⟩⟩
theorem wix_ordF {A : Str → Nat} {F : Fr} {s : List Str} : wix A F (ordF F s) = wix A F s := wix_congr (fun p hp => by
  rw [ordF_mem]
  exact ⟨fun h => h.2, fun h => ⟨mem_nms hp, h⟩⟩) fun _ _ _ => rfl
end Fb
namespace Fb
open PySem L2 Mm Gf
inductive Tr where
  | nm (x : Str)
  | sm (x : Str) (t : Tr)
  | bi (k : Str) (a b : Tr)
def Tr.d : Tr → D
  | .nm x => .tup [.str "name", .str x]
  | .sm x t => .tup [.str "sum", .str x, t.d]
  | .bi k a b => .tup [.str k, a.d, b.d]
def sid (F : Fr) (sd : Str → List Str) : Tr → List Str
  | .nm x => ordF F (sd x)
  | .sm x t => (sid F sd t).filter fun y => decide (y ≠ x)
  | .bi _ a b => ordF F (sid F sd a ++ sid F sd b)
def cel (F : Fr) (sd : Str → List Str) (cs : Str → List Int) : Tr → List Int
  | .nm x => cs x
  | .sm x t => totC (cutL (sid F sd t) (sid F sd (.sm x t)) F 0) (bts F (sid F sd t)) (bts F (sid F sd (.sm x t))) (cel F sd cs t)
  | .bi k a b => (List.range (2 ^ bts F (sid F sd (.bi k a b)))).map fun c => mixI k ((cel F sd cs a).getD (app (cutL (sid F sd (.bi k a b)) (sid F sd a) F 0) c) 0) ((cel F sd cs b).getD (app (cutL (sid F sd (.bi k a b)) (sid F sd b) F 0) c) 0)
def upd (A : Str → Nat) (x : Str) (k : Nat) : Str → Nat := fun y => if y = x then k else A y
def ev (F : Fr) (sd : Str → List Str) (cs : Str → List Int) : Tr → (Str → Nat) → Int
  | .nm x, A => (cs x).getD (wix A F (sd x)) 0
  | .sm x t, A => sm (2 ^ bts F [x]) (fun _ => true) fun k => ev F sd cs t (upd A x k)
  | .bi k a b, A => mixI k (ev F sd cs a A) (ev F sd cs b A)
def Trk (F : Fr) (sd : Str → List Str) (K : List Str) : Tr → Prop
  | .nm x => x ∈ K
  | .sm x t => Trk F sd K t ∧ x ∈ sid F sd t
  | .bi k a b => k ∈ wds ∧ Trk F sd K a ∧ Trk F sd K b
section
variable {F : Fr} {sd : Str → List Str} {cs : Str → List Int} {K : List Str}
theorem sid_sub : ∀ {t : Tr} {y : Str}, y ∈ sid F sd t → y ∈ nms F
  | .nm x, y, h => (ordF_mem.mp h).1
  | .sm x t, y, h => sid_sub (t := t) (List.mem_filter.mp h).1
  | .bi _ a b, y, h => (ordF_mem.mp h).1
theorem sid_ord : ∀ t : Tr, ordF F (sid F sd t) = sid F sd t
  | .nm x => ordF_ordF F (sd x)
  | .sm x t => by
    show ordF F ((sid F sd t).filter _) = (sid F sd t).filter _
    rw [← sid_ord t, ordF_filter]
  | .bi _ a b => ordF_ordF F _
theorem sid_sm {x y : Str} {t : Tr} : y ∈ sid F sd (.sm x t) ↔ y ∈ sid F sd t ∧ y ≠ x := by
  show y ∈ (sid F sd t).filter _ ↔ _
  rw [List.mem_filter, decide_eq_true_eq]
theorem sid_bi {k y : Str} {a b : Tr} : y ∈ sid F sd (.bi k a b) ↔ y ∈ sid F sd a ∨ y ∈ sid F sd b := by
  show y ∈ ordF F _ ↔ _
  rw [ordF_mem, List.mem_append]
  exact ⟨fun h => h.2, fun h => ⟨h.elim sid_sub sid_sub, h⟩⟩
theorem bts_none {x : Str} : ∀ {F : Fr}, x ∉ nms F → bts F [x] = 0
  | [], _ => rfl
  | p :: F, h => by
    have h1 : ¬ p.1 ∈ [x] := fun z => h (List.mem_singleton.mp z ▸ List.mem_cons_self)
    unfold bts
    rw [if_neg h1]
    exact bts_none fun z => h (List.mem_cons_of_mem _ z)
theorem bts_one : ∀ {F : Fr} (_ : (nms F).Nodup) {p : Str × Nat}, p ∈ F → bts F [p.1] = p.2
  | [], _, p, h => by simp at h
  | q :: F, hn, p, h => by
    unfold bts
    rcases List.mem_cons.mp h with rfl | h
    · rw [if_pos (List.mem_singleton.mpr rfl), bts_none (List.nodup_cons.mp hn).1]
      rfl
    · have ne : ¬ q.1 ∈ [p.1] := fun z => nms_ne hn h (List.mem_singleton.mp z).symm
      rw [if_neg ne]
      exact bts_one (List.nodup_cons.mp hn).2 h
theorem upd_inn (hn : (nms F).Nodup) {A : Str → Nat} (hA : Inn F A) {x : Str} {k : Nat} (hk : k < 2 ^ bts F [x]) : Inn F (upd A x k) := fun p hp => by
  unfold upd
  by_cases e : p.1 = x
  · rw [if_pos e]
    subst e
    rwa [bts_one hn hp] at hk
  · rw [if_neg e]
    exact hA p hp
theorem psum {α : Type} {xs ys : List α} (f : α → Int) (h : xs.Perm ys) : (xs.map f).sum = (ys.map f).sum := by
  induction h with
  | nil => rfl
  | cons x _ ih => simp [ih]
  | swap x y l => simp; omega
  | trans _ _ h1 h2 => exact h1.trans h2
theorem fibre (hn : (nms F).Nodup) {A : Str → Nat} (hA : Inn F A) {s t : List Str} {x : Str} (hx : x ∈ nms F) (xs : x ∈ s) (h : ∀ y, y ∈ t ↔ y ∈ s ∧ y ≠ x) (L : List Int) :
    sumTo (cutL s t F 0) (2 ^ bts F s) (wix A F t) L = sm (2 ^ bts F [x]) (fun _ => true) fun k => L.getD (wix (upd A x k) F s) 0 := by
  have hs : ∀ p ∈ F, p.1 ∈ t → p.1 ∈ s := fun p _ hp => ((h p.1).mp hp).1
  obtain ⟨px, hpx, ex⟩ := List.mem_map.mp hx
  have inj : ∀ k, k < 2 ^ bts F [x] → wdc F s (wix (upd A x k) F s) x = k := fun k hk => by
    have := wdc_wix hn (upd_inn hn hA hk) px hpx (by rw [ex]; exact xs)
    rw [ex] at this
    rw [this]
    exact if_pos rfl
  have pm : ((List.range (2 ^ bts F s)).filter fun c => decide (app (cutL s t F 0) c = wix A F t)).Perm ((List.range (2 ^ bts F [x])).map fun k => wix (upd A x k) F s) := by
    refine perm_of_mem (List.nodup_range.filter _) ?_ fun c => ?_
    · refine List.pairwise_map.mpr (List.nodup_range.imp_of_mem fun {a b} ha hb ne e => ne ?_)
      have h1 := inj a (List.mem_range.mp ha)
      rw [e, inj b (List.mem_range.mp hb)] at h1
      exact h1.symm
    · rw [List.mem_filter, List.mem_range, decide_eq_true_eq, List.mem_map]
      constructor
      · rintro ⟨hc, e⟩
        have hB := wdc_inn (s := s) hn c
        have c1 := wix_wdc hn hc
        rw [← c1, cut_app0 hs hB] at e
        have lt : wdc F s c x < 2 ^ bts F [x] := by
          have := hB px hpx
          rw [← bts_one hn hpx, ex] at this
          exact this
        refine ⟨wdc F s c x, List.mem_range.mpr lt, ?_⟩
        conv => rhs; rw [← c1]
        refine wix_congr (fun _ _ => Iff.rfl) fun p hp hps => ?_
        unfold upd
        by_cases ep : p.1 = x
        · rw [if_pos ep, ep]
        · rw [if_neg ep]
          have ht : p.1 ∈ t := (h p.1).mpr ⟨hps, ep⟩
          rw [← wdc_wix hn hA p hp ht, ← e, wdc_wix hn hB p hp ht]
      · rintro ⟨k, hk, rfl⟩
        have hk := List.mem_range.mp hk
        have hU := upd_inn hn hA hk
        refine ⟨wix_lt hU, ?_⟩
        rw [cut_app0 hs hU]
        refine wix_congr (fun _ _ => Iff.rfl) fun p hp hpt => if_neg ((h p.1).mp hpt).2
  unfold sumTo
  rw [psum _ pm, List.map_map]
  unfold sm
  rw [List.filter_eq_self.mpr fun _ _ => rfl]
  rfl
structure Wok (F : Fr) (sd : Str → List Str) (cs : Str → List Int) (K : List Str) : Prop where
  nod : (nms F).Nodup
  len : ∀ x ∈ K, (cs x).length = 2 ^ bts F (sd x)
theorem cel_len (W : Wok F sd cs K) : ∀ {t : Tr}, Trk F sd K t → (cel F sd cs t).length = 2 ^ bts F (sid F sd t)
  | .nm x, h => by
    show (cs x).length = 2 ^ bts F (ordF F (sd x))
    rw [bts_ordF]
    exact W.len x h
  | .sm x t, h => totC_len _ _ _ _
  | .bi k a b, h => by simp [cel]
theorem cel_at (W : Wok F sd cs K) : ∀ {t : Tr} (_ : Trk F sd K t) {A : Str → Nat} (_ : Inn F A), (cel F sd cs t).getD (wix A F (sid F sd t)) 0 = ev F sd cs t A
  | .nm x, h, A, hA => by
    show (cs x).getD (wix A F (ordF F (sd x))) 0 = _
    rw [wix_ordF]
    rfl
  | .sm x t, h, A, hA => by
    have ih : ∀ {A : Str → Nat} (_ : Inn F A), (cel F sd cs t).getD (wix A F (sid F sd t)) 0 = ev F sd cs t A := fun hA => cel_at W h.1 hA
    show (totC _ _ _ _).getD _ 0 = sm _ _ _
    rw [totC_at (wix_lt hA), fibre W.nod hA (sid_sub h.2) h.2 (fun y => sid_sm)]
    exact sm_congr (fun _ _ => rfl) fun k hk => ih (upd_inn W.nod hA hk)
  | .bi k a b, h, A, hA => by
    have i1 : (cel F sd cs a).getD (wix A F (sid F sd a)) 0 = ev F sd cs a A := cel_at W h.2.1 hA
    have i2 : (cel F sd cs b).getD (wix A F (sid F sd b)) 0 = ev F sd cs b A := cel_at W h.2.2 hA
    have lt : wix A F (sid F sd (.bi k a b)) < 2 ^ bts F (sid F sd (.bi k a b)) := wix_lt hA
    show ((List.range _).map _).getD _ 0 = mixI k _ _
    rw [← i1, ← i2, List.getD_eq_getElem?_getD, List.getElem?_map, List.getElem?_range lt]
    show mixI k _ _ = _
    rw [cut_app0 (fun p _ hp => sid_bi.mpr (.inl hp)) hA, cut_app0 (fun p _ hp => sid_bi.mpr (.inr hp)) hA]
end
end Fb
namespace Fb
open PySem L2 Mm Gf
abbrev sL (ys : List Str) : D := .lst (ys.map D.str)
abbrev frmD (F : Fr) : D := .lst (F.map dS)
theorem flcQ {β : Type} {mi : MI} {tt : MT} {te : ME} {g : MG} {vs : List Nat} {env : Envr} {S : Sto} (ψ φ : β → D) (p : β → Bool) (xs : List β) (h1 : mi env S = .ok (xs.map ψ) S) (hz : xs.length ≤ 100000) (h2 : ∀ y ∈ xs, ∃ e1, g (ψ y) (wipeE env vs) = some e1 ∧ tt e1 S = .ok (p y) S ∧ (p y = true → te e1 S = .ok (φ y) S)) : fLc mi g tt te vs env S = .ok (.lst ((xs.filter p).map φ)) S := by
  have lc := lc_gen (g := g) (tt := tt) (te := te) (env := wipeE env vs) (S := S) ψ p φ xs h2
  have sz : szB ((xs.filter p).map φ).length = true := szB_of (by rw [List.length_map]; exact Nat.le_trans (List.length_filter_le _ _) hz)
  rw [fLc_eq, h1, bind_ok', lc, bind_ok', fin_eq, if_pos sz]
theorem in_order_ok (S : Sto) (F : Fr) (ys : List Str) (hz : F.length ≤ 1000) : m_in_order [frmD F, sL ys] S = .ok (.own (.lst ((ordF F ys).map D.str))) S := by
  have lc := flcQ (mi := itL (eV 0)) (g := gT (gNC (gN 2) (gNC (gN 3) gN0))) (tt := cB (eOp (fInX false) (eV 2) (eV 1))) (te := eV 2) (vs := [2, 3]) (env := [.v (frmD F), .v (sL ys), .no, .no]) (S := S) dS (fun p => .str p.1) (fun p => decide (p.1 ∈ ys)) F (by simp) (by omega) fun p hp => ⟨[.v (frmD F), .v (sL ys), .v (.str p.1), .v (nd p.2)], rfl, by
    have := fInX_strs S false p.1 ys
    simp [this], fun _ => rfl⟩
  have e : (F.filter fun p => decide (p.1 ∈ ys)).map (fun p => D.str p.1) = (ordF F ys).map D.str := by
    unfold ordF nms
    rw [List.filter_map, List.map_map]
    rfl
  rw [e] at lc
  simp [m_in_order, lc, -fLc_eq]
theorem bts_sum (ys : List Str) : ∀ F : Fr, ((F.filter fun p => decide (p.1 ∈ ys)).map (fun p => (p.2 : Int))).sum = (bts F ys : Nat)
  | [] => rfl
  | p :: F => by
    unfold bts
    by_cases h : p.1 ∈ ys
    · rw [List.filter_cons_of_pos (by simpa using h), if_pos h, List.map_cons, List.sum_cons, bts_sum ys F]
      omega
    · rw [List.filter_cons_of_neg (by simpa using h), if_neg h, bts_sum ys F]
theorem dig_lc (S : Sto) (F : Fr) (ys : List Str) (hz : F.length ≤ 1000) : fLc (itL (eV 0)) (gT (gNC (gN 2) (gNC (gN 3) gN0))) (cB (eOp (fInX false) (eV 2) (eV 1))) (eV 3) [2, 3] [.v (frmD F), .v (sL ys), .no, .no] S = .ok (.lst (((F.filter fun p => decide (p.1 ∈ ys)).map fun p => (p.2 : Int)).map D.int)) S := by
  have lc := flcQ (mi := itL (eV 0)) (g := gT (gNC (gN 2) (gNC (gN 3) gN0))) (tt := cB (eOp (fInX false) (eV 2) (eV 1))) (te := eV 3) (vs := [2, 3]) (env := [.v (frmD F), .v (sL ys), .no, .no]) (S := S) dS (fun p => .int p.2) (fun p => decide (p.1 ∈ ys)) F (by simp) (by omega) fun p hp => ⟨[.v (frmD F), .v (sL ys), .v (.str p.1), .v (nd p.2)], rfl, by
    have := fInX_strs S false p.1 ys
    simp [this], fun _ => rfl⟩
  rw [lc, List.map_map]
  rfl
theorem digits_in_ok (S : Sto) (F : Fr) (ys : List Str) (hz : F.length ≤ 1000) : m_digits_in [frmD F, sL ys] S = .ok (.val (nd (bts F ys))) S := by
  have lc := dig_lc S F ys hz
  have fs := fSum_l S ((F.filter fun p => decide (p.1 ∈ ys)).map fun p => (p.2 : Int)) (by simp; exact Nat.le_trans (List.length_filter_le _ _) (by omega))
  rw [bts_sum] at fs
  simp [m_digits_in, lc, fs, -fLc_eq, -List.map_map]
theorem count_in_ok (S : Sto) (F : Fr) (ys : List Str) (hz : F.length ≤ 1000) : m__law_count_in [frmD F, sL ys] S = .ok (.val (nd (bts F ys))) S := by
  have lc := dig_lc S F ys hz
  have fs := fSum_l S ((F.filter fun p => decide (p.1 ∈ ys)).map fun p => (p.2 : Int)) (by simp; exact Nat.le_trans (List.length_filter_le _ _) (by omega))
  rw [bts_sum] at fs
  simp [m__law_count_in, lc, fs, -fLc_eq, -List.map_map]
noncomputable def cf1 : MS := sSeq (sApp 3 (eIf (cB (eOp (fInX false) (eV 5) (eV 2))) (eOp iShl (eC (.int 1)) (eV 4)) (eC (.int 0)))) (sAug 4 (fun i j => i + j) (eIf (cB (eOp (fInX false) (eV 5) (eV 2))) (eC (.int 1)) (eC (.int 0))))
noncomputable def cf2 : MS := sIf (cB (eOp (fInX false) (eV 5) (eV 1))) (sFor (itR1 (aCons (eV 6) aNil)) (gN 7) cf1) sNil
theorem cf1_in (S : Sto) (a : Sl) (s t : List Str) {x : Str} (hx : x ∈ t) (s6 : Sl) : ∀ (m n : Nat) (rs : List Nat) (k : Nat) (s7 : Sl), k + m ≤ 60 → rs.length + m ≤ 60 → ∃ s7', forL (gN 7) cf1 (nl (List.range' n m)) [a, .v (sL s), .v (sL t), .o (.lst (nl rs)), .v (nd k), .v (.str x), s6, s7] S = .nx [a, .v (sL s), .v (sL t), .o (.lst (nl (rs ++ (List.range m).map fun i => 2 ^ (k + i)))), .v (nd (k + m)), .v (.str x), s6, s7'] S
  | 0, n, rs, k, s7, _, _ => ⟨s7, by simp [forL]⟩
  | m + 1, n, rs, k, s7, h, hl => by
    have fi := fInX_strs S false x t
    have pw := powB_nat (i := 1) (by decide) k (by omega)
    have sz := szB_of (n := rs.length + 1) (by omega)
    have st : cf1 [a, .v (sL s), .v (sL t), .o (.lst (nl rs)), .v (nd k), .v (.str x), s6, .v (nd n)] S = .nx [a, .v (sL s), .v (sL t), .o (.lst (nl (rs ++ [2 ^ k]))), .v (nd (k + 1)), .v (.str x), s6, .v (nd n)] S := by
      simp [cf1, fi, hx, sz, nl, pw]
    obtain ⟨s7', ih⟩ := cf1_in S a s t hx s6 m (n + 1) (rs ++ [2 ^ k]) (k + 1) (.v (nd n)) (by omega) (by simp; omega)
    refine ⟨s7', ?_⟩
    rw [List.range'_succ, nl_cons]
    unfold forL
    simp only [gN_eq]
    have e1 : ([a, .v (sL s), .v (sL t), .o (.lst (nl rs)), .v (nd k), .v (.str x), s6, s7] : Envr).set 7 (.v (nd n)) = [a, .v (sL s), .v (sL t), .o (.lst (nl rs)), .v (nd k), .v (.str x), s6, .v (nd n)] := rfl
    rw [e1, st]
    have e2 : k + (m + 1) = k + 1 + m := by omega
    have e3 : rs ++ (List.range (m + 1)).map (fun i => 2 ^ (k + i)) = rs ++ [2 ^ k] ++ (List.range m).map fun i => 2 ^ (k + 1 + i) := by
      rw [List.range_succ_eq_map, List.map_cons, List.map_map, List.append_assoc]
      congr 1
      rw [List.singleton_append]
      congr 1
      refine List.map_congr_left fun i _ => ?_
      show 2 ^ (k + (i + 1)) = _
      congr 1
      omega
    rw [e2, e3]
    exact ih
theorem cf1_out (S : Sto) (a : Sl) (s t : List Str) {x : Str} (hx : x ∉ t) (s6 : Sl) : ∀ (m n : Nat) (rs : List Nat) (k : Nat) (s7 : Sl), rs.length + m ≤ 60 → ∃ s7', forL (gN 7) cf1 (nl (List.range' n m)) [a, .v (sL s), .v (sL t), .o (.lst (nl rs)), .v (nd k), .v (.str x), s6, s7] S = .nx [a, .v (sL s), .v (sL t), .o (.lst (nl (rs ++ List.replicate m 0))), .v (nd k), .v (.str x), s6, s7'] S
  | 0, n, rs, k, s7, _ => ⟨s7, by simp [forL]⟩
  | m + 1, n, rs, k, s7, hl => by
    have fi := fInX_strs S false x t
    have sz := szB_of (n := rs.length + 1) (by omega)
    have st : cf1 [a, .v (sL s), .v (sL t), .o (.lst (nl rs)), .v (nd k), .v (.str x), s6, .v (nd n)] S = .nx [a, .v (sL s), .v (sL t), .o (.lst (nl (rs ++ [0]))), .v (nd k), .v (.str x), s6, .v (nd n)] S := by
      simp [cf1, fi, hx, sz, nl]
    obtain ⟨s7', ih⟩ := cf1_out S a s t hx s6 m (n + 1) (rs ++ [0]) k (.v (nd n)) (by simp; omega)
    refine ⟨s7', ?_⟩
    rw [List.range'_succ, nl_cons]
    unfold forL
    simp only [gN_eq]
    have e1 : ([a, .v (sL s), .v (sL t), .o (.lst (nl rs)), .v (nd k), .v (.str x), s6, s7] : Envr).set 7 (.v (nd n)) = [a, .v (sL s), .v (sL t), .o (.lst (nl rs)), .v (nd k), .v (.str x), s6, .v (nd n)] := rfl
    rw [e1, st]
    have e3 : rs ++ List.replicate (m + 1) 0 = rs ++ [0] ++ List.replicate m 0 := by simp [List.replicate_succ]
    rw [e3]
    exact ih
theorem cf2_go (S : Sto) (a : Sl) (s t : List Str) : ∀ (F : Fr) (rs : List Nat) (k : Nat) (s5 s6 s7 : Sl), (∀ p ∈ F, p.1 ∈ t → p.1 ∈ s) → rs.length + bts F s ≤ 60 → k + bts F s ≤ 60 → ∃ s5' s6' s7', forL (gT (gNC (gN 5) (gNC (gN 6) gN0))) cf2 (F.map dS) [a, .v (sL s), .v (sL t), .o (.lst (nl rs)), .v (nd k), s5, s6, s7] S = .nx [a, .v (sL s), .v (sL t), .o (.lst (nl (rs ++ cutL s t F k))), .v (nd (k + bts F t)), s5', s6', s7'] S
  | [], rs, k, s5, s6, s7, _, _, _ => ⟨s5, s6, s7, by simp [forL, cutL, bts]⟩
  | p :: F, rs, k, s5, s6, s7, hs, hr, hk => by
    have hs2 : ∀ p ∈ F, p.1 ∈ t → p.1 ∈ s := fun q hq => hs q (List.mem_cons_of_mem _ hq)
    have fi := fInX_strs S false p.1 s
    have g1 : gT (gNC (gN 5) (gNC (gN 6) gN0)) (dS p) [a, .v (sL s), .v (sL t), .o (.lst (nl rs)), .v (nd k), s5, s6, s7] = some [a, .v (sL s), .v (sL t), .o (.lst (nl rs)), .v (nd k), .v (.str p.1), .v (nd p.2), s7] := rfl
    rw [List.map_cons]
    unfold forL
    rw [g1]
    simp only []
    by_cases q : p.1 ∈ s
    · have b1 : bts (p :: F) s = p.2 + bts F s := if_pos q
      rw [b1] at hr hk
      have r0 : itR1 (aCons (eV 6) aNil) [a, .v (sL s), .v (sL t), .o (.lst (nl rs)), .v (nd k), .v (.str p.1), .v (nd p.2), s7] S = .ok (nl (List.range' 0 p.2)) S := by
        rw [← List.range_eq_range']
        exact itR1_nat (by simp) (by omega)
      by_cases z : p.1 ∈ t
      · obtain ⟨s7', e⟩ := cf1_in S a s t z (.v (nd p.2)) p.2 0 rs k s7 (by omega) (by omega)
        have st : cf2 [a, .v (sL s), .v (sL t), .o (.lst (nl rs)), .v (nd k), .v (.str p.1), .v (nd p.2), s7] S = .nx [a, .v (sL s), .v (sL t), .o (.lst (nl (rs ++ (List.range p.2).map fun i => 2 ^ (k + i)))), .v (nd (k + p.2)), .v (.str p.1), .v (nd p.2), s7'] S := by
          have sf : sFor (itR1 (aCons (eV 6) aNil)) (gN 7) cf1 [a, .v (sL s), .v (sL t), .o (.lst (nl rs)), .v (nd k), .v (.str p.1), .v (nd p.2), s7] S = forL (gN 7) cf1 (nl (List.range' 0 p.2)) [a, .v (sL s), .v (sL t), .o (.lst (nl rs)), .v (nd k), .v (.str p.1), .v (nd p.2), s7] S := by
            unfold sFor
            rw [r0]
            rfl
          unfold cf2
          simp [fi, q, sf, -sFor_eq]
          exact e
        rw [st]
        obtain ⟨s5', s6', s7'', ih⟩ := cf2_go S a s t F (rs ++ (List.range p.2).map fun i => 2 ^ (k + i)) (k + p.2) (.v (.str p.1)) (.v (nd p.2)) s7' hs2 (by simp; omega) (by omega)
        refine ⟨s5', s6', s7'', ?_⟩
        have c1 : cutL s t (p :: F) k = (List.range p.2).map (fun i => 2 ^ (k + i)) ++ cutL s t F (k + p.2) := by rw [cutL, if_pos q, if_pos z]
        have c2 : bts (p :: F) t = p.2 + bts F t := if_pos z
        rw [c1, c2, ← List.append_assoc, ← Nat.add_assoc]
        exact ih
      · obtain ⟨s7', e⟩ := cf1_out S a s t z (.v (nd p.2)) p.2 0 rs k s7 (by omega)
        have st : cf2 [a, .v (sL s), .v (sL t), .o (.lst (nl rs)), .v (nd k), .v (.str p.1), .v (nd p.2), s7] S = .nx [a, .v (sL s), .v (sL t), .o (.lst (nl (rs ++ List.replicate p.2 0))), .v (nd k), .v (.str p.1), .v (nd p.2), s7'] S := by
          have sf : sFor (itR1 (aCons (eV 6) aNil)) (gN 7) cf1 [a, .v (sL s), .v (sL t), .o (.lst (nl rs)), .v (nd k), .v (.str p.1), .v (nd p.2), s7] S = forL (gN 7) cf1 (nl (List.range' 0 p.2)) [a, .v (sL s), .v (sL t), .o (.lst (nl rs)), .v (nd k), .v (.str p.1), .v (nd p.2), s7] S := by
            unfold sFor
            rw [r0]
            rfl
          unfold cf2
          simp [fi, q, sf, -sFor_eq]
          exact e
        rw [st]
        obtain ⟨s5', s6', s7'', ih⟩ := cf2_go S a s t F (rs ++ List.replicate p.2 0) k (.v (.str p.1)) (.v (nd p.2)) s7' hs2 (by simp; omega) (by omega)
        refine ⟨s5', s6', s7'', ?_⟩
        have c1 : cutL s t (p :: F) k = List.replicate p.2 0 ++ cutL s t F k := by rw [cutL, if_pos q, if_neg z]
        have c2 : bts (p :: F) t = bts F t := if_neg z
        rw [c1, c2, ← List.append_assoc]
        exact ih
    · have z : p.1 ∉ t := fun z => q (hs p List.mem_cons_self z)
      have b1 : bts (p :: F) s = bts F s := if_neg q
      rw [b1] at hr hk
      have st : cf2 [a, .v (sL s), .v (sL t), .o (.lst (nl rs)), .v (nd k), .v (.str p.1), .v (nd p.2), s7] S = .nx [a, .v (sL s), .v (sL t), .o (.lst (nl rs)), .v (nd k), .v (.str p.1), .v (nd p.2), s7] S := by
        unfold cf2
        simp [fi, q]
      rw [st]
      obtain ⟨s5', s6', s7'', ih⟩ := cf2_go S a s t F rs k (.v (.str p.1)) (.v (nd p.2)) s7 hs2 hr hk
      refine ⟨s5', s6', s7'', ?_⟩
      have c1 : cutL s t (p :: F) k = cutL s t F k := by rw [cutL, if_neg q]
      have c2 : bts (p :: F) t = bts F t := if_neg z
      rw [c1, c2]
      exact ih
theorem bts_le {s t : List Str} : ∀ {F : Fr}, (∀ p ∈ F, p.1 ∈ t → p.1 ∈ s) → bts F t ≤ bts F s
  | [], _ => Nat.le_refl _
  | p :: F, h => by
    have ih := bts_le fun q hq => h q (List.mem_cons_of_mem _ hq)
    unfold bts
    by_cases z : p.1 ∈ t
    · rw [if_pos z, if_pos (h p List.mem_cons_self z)]
      omega
    · rw [if_neg z]
      split <;> omega
theorem cut_fok {F : Fr} {s t : List Str} (hs : ∀ p ∈ F, p.1 ∈ t → p.1 ∈ s) (hz : bts F s ≤ 12) : FOk (cutL s t F 0) (bts F t) := ⟨by rw [cutL_len]; exact hz, Nat.le_trans (bts_le hs) hz, fun r hr => by simpa using cutL_lt hs r hr⟩
theorem cut_fold_ok (S : Sto) {F : Fr} {s t : List Str} (hs : ∀ p ∈ F, p.1 ∈ t → p.1 ∈ s) (hz : bts F s ≤ 12) : m_cut_fold [frmD F, sL s, sL t] S = .ok (.val (fold (cutL s t F 0) (bts F t))) S := by
  obtain ⟨s5, s6, s7, e⟩ := cf2_go S (.v (frmD F)) s t F [] 0 .no .no .no hs (by simp; omega) (by omega)
  have nw := new_ok S (cut_fok hs hz) (.lst (nl (cutL s t F 0))) (.inr rfl)
  have e' : forL (gT (gNC (gN 5) (gNC (gN 6) gN0))) (sIf (cB (eOp (fInX false) (eV 5) (eV 1))) (sFor (itR1 (aCons (eV 6) aNil)) (gN 7) (sSeq (sApp 3 (eIf (cB (eOp (fInX false) (eV 5) (eV 2))) (eOp iShl (eC (.int 1)) (eV 4)) (eC (.int 0)))) (sAug 4 (fun i j => i + j) (eIf (cB (eOp (fInX false) (eV 5) (eV 2))) (eC (.int 1)) (eC (.int 0)))))) sNil) (F.map dS) [.v (frmD F), .v (sL s), .v (sL t), .o (.lst []), .v (.int 0), .no, .no, .no] S = .nx [.v (frmD F), .v (sL s), .v (sL t), .o (.lst (nl (cutL s t F 0))), .v (nd (bts F t)), s5, s6, s7] S := by
    have : 0 + bts F t = bts F t := by omega
    rw [← this]
    exact e
  have s0 := szB_of (n := 0) (by omega)
  unfold m_cut_fold
  simp [s0]
  rw [e']
  simp
  rw [nw]
  simp
end Fb
namespace Fb
open PySem L2 Mm Gf
@[simp] theorem sStar2_eq (i j k : Nat) (me : ME) (env : Envr) (S : Sto) : sStar2 i j k me env S = (me env S).out env fun d S1 => match d with
  | .tup (a :: b :: r) => if szB (r.length + 2) then .nx (((env.set i (.v a)).set j (.v b)).set k (.v (.lst r))) S1 else .stuck
  | _ => .stuck := rfl
def jn : Tr → Nat
  | .nm _ => 0
  | .sm _ t => jn t + 1
  | .bi _ a b => jn a + jn b + 1
def dp : Tr → Nat
  | .nm _ => 0
  | .sm _ t => dp t + 1
  | .bi _ a b => max (dp a) (dp b) + 1
def prt (F : Fr) (sd : Str → List Str) (t : Tr) (k : Nat) : D := match t with
  | .nm x => .tup [.str x, .non, sL (sid F sd (.nm x))]
  | .sm x t => .tup [.str "", nd (k + jn t), sL (sid F sd (.sm x t))]
  | .bi w a b => .tup [.str "", nd (k + jn a + jn b), sL (sid F sd (.bi w a b))]
def knL (F : Fr) (sd : Str → List Str) : Tr → Nat → List D
  | .nm _, _ => []
  | .sm x t, k => knL F sd t k ++ [.tup [.str "sum", .str x, .lst [prt F sd t k], sL (sid F sd (.sm x t))]]
  | .bi w a b, k => knL F sd a k ++ knL F sd b (k + jn a) ++ [.tup [.str w, .str "", .lst [prt F sd a k, prt F sd b (k + jn a)], sL (sid F sd (.bi w a b))]]
theorem knL_len {F : Fr} {sd : Str → List Str} : ∀ {t : Tr} {k : Nat}, (knL F sd t k).length = jn t
  | .nm _, _ => rfl
  | .sm x t, k => by simp [knL, jn, knL_len (t := t)]
  | .bi w a b, k => by
    simp [knL, jn, knL_len (t := a), knL_len (t := b)]
    omega
theorem sok_name : PyData.strOk "name" = true := by decide +kernel
theorem sok_sum : PyData.strOk "sum" = true := by decide +kernel
theorem wd_name {w : Str} (h : w ∈ wds) : ¬ w = "name" ∧ ¬ w = "sum" := by
  simp only [wds, List.mem_cons, List.not_mem_nil, or_false] at h
  rcases h with rfl | rfl | rfl | rfl <;> decide
theorem prt_sides (F : Fr) (sd : Str → List Str) : ∀ (t : Tr) (k : Nat), ∃ a b, prt F sd t k = .tup [a, b, sL (sid F sd t)]
  | .nm _, _ => ⟨_, _, rfl⟩
  | .sm _ _, _ => ⟨_, _, rfl⟩
  | .bi _ _ _, _ => ⟨_, _, rfl⟩
structure Wf (S : Sto) (q r : Nat) (F : Fr) (kd : List (Key × D)) (L : List D) : Prop where
  ne : q ≠ r
  ins : ∃ fs, S[q]? = some (.ins "Weft" fs) ∧ fs.lookup ("frame" : Str) = some (frmD F) ∧ fs.lookup ("known" : Str) = some (.dic kd) ∧ fs.lookup ("knots" : Str) = some (.ref r) ∧ fs.lookup ("part_of" : Str) = none ∧ fs.lookup ("knot" : Str) = none
  lst : S[r]? = some (.lst L)
theorem Wf.set {S : Sto} {q r : Nat} {F : Fr} {kd : List (Key × D)} {L L2 : List D} (h : Wf S q r F kd L) : Wf (S.set r (.lst L2)) q r F kd L2 := ⟨h.ne, by
  obtain ⟨fs, e, e2⟩ := h.ins
  exact ⟨fs, by rw [List.getElem?_set_ne (fun z => h.ne z.symm)]; exact e, e2⟩, by
  rw [List.getElem?_set_self (List.getElem?_eq_some_iff.mp h.lst).1]⟩
section
variable {S : Sto} {q r : Nat} {F : Fr} {sd : Str → List Str} {kd : List (Key × D)} {L : List D} {K : List Str}
theorem knot_ok (h : Wf S q r F kd L) (hl : L.length ≤ 1000) (d1 d2 d3 d4 : D) : m_Weft_knot [.ref q, d1, d2, d3, d4] S = .ok (.val (.tup [.str "", nd L.length, d4])) (S.set r (.lst (L ++ [.tup [d1, d2, d3, d4]]))) := by
  obtain ⟨fs, i1, i2, i3, i4, i5, i6⟩ := h.ins
  obtain ⟨fs', j1, j2, j3, j4, j5, j6⟩ := (h.set (L2 := L ++ [.tup [d1, d2, d3, d4]])).ins
  have l1 := h.lst
  have l2 := (h.set (L2 := L ++ [.tup [d1, d2, d3, d4]])).lst
  have sz := szB_of (n := L.length + 1) (by omega)
  have e : ((L.length : Int) + 1 - 1) = (L.length : Int) := by omega
  have s4 := szB_of (n := 4) (by omega)
  have s3 := szB_of (n := 3) (by omega)
  have fl : fLen (S.set r (.lst (L ++ [.tup [d1, d2, d3, d4]]))) [.ref r] = some (.int (L.length + 1 : Nat)) := by
    show (match (S.set r (.lst (L ++ [.tup [d1, d2, d3, d4]])))[r]? with
      | some (.lst ds) => some (D.int ds.length)
      | _ => none) = _
    rw [l2]
    simp
  simp [m_Weft_knot, i1, i4, l1, sz, s3, s4, fl, j1, j4, l2, e]
structure FrOk (F : Fr) : Prop where
  nod : (nms F).Nodup
  len : F.length ≤ 100
  sok : ∀ y ∈ nms F, PyData.strOk y = true
  sum : (F.map (·.2)).sum ≤ 7
  side : sideB F = true
  siz : ∀ p ∈ F, p.1.cps.size ≤ 100000
theorem bts_le_sum (s : List Str) : ∀ F : Fr, bts F s ≤ (F.map (·.2)).sum
  | [] => Nat.le_refl _
  | p :: F => by
    have := bts_le_sum s F
    unfold bts
    rw [List.map_cons, List.sum_cons]
    split <;> omega
theorem FrOk.le (h : FrOk F) (s : List Str) : bts F s ≤ 7 := Nat.le_trans (bts_le_sum s F) h.sum
theorem sid_len (F : Fr) (sd : Str → List Str) (t : Tr) : (sid F sd t).length ≤ F.length := by
  rw [← sid_ord t]
  exact Nat.le_trans (List.length_filter_le _ _) (by simp)
theorem part_of_ok (hF : FrOk F) (hk : ∀ x ∈ K, lookK kd (.inr x) = some (sL (sd x))) : ∀ (t : Tr) (n : Nat) (S : Sto) (L : List D), Trk F sd K t → dp t < n → Wf S q r F kd L → L.length + jn t ≤ 1000 →
    m_Weft_part_of n [.ref q, t.d] S = .ok (.val (prt F sd t L.length)) (S.set r (.lst (L ++ knL F sd t L.length)))
  | .nm x, n + 1, S, L, ht, hn, h, hl => by
    obtain ⟨fs, i1, i2, i3, i4, i5, i6⟩ := h.ins
    have lk := hk x ht
    have l1 := h.lst
    have io := in_order_ok S F (sd x) (by have := hF.len; omega)
    have e1 := fEq_str S sok_name sok_name
    have sz := szB_of (n := 2) (by omega)
    have sz3 := szB_of (n := 3) (by omega)
    have e2 : S.set r (.lst (L ++ knL F sd (.nm x) L.length)) = S := by
      simp only [knL, List.append_nil]
      exact set_get_self S r _ l1
    rw [e2]
    unfold m_Weft_part_of
    simp [Tr.d, e1, i1, i2, i3, lk, io, prt, sid, sz, sz3]
  | .sm x t, n + 1, S, L, ht, hn, h, hl => by
    have ih := part_of_ok hF hk t n S L ht.1 (by simp [dp] at hn; omega) h (by simp [jn] at hl; omega)
    have h2 := h.set (L2 := L ++ knL F sd t L.length)
    have ll : (L ++ knL F sd t L.length).length = L.length + jn t := by simp [knL_len]
    obtain ⟨fs, i1, i2, i3, i4, i5, i6⟩ := h.ins
    obtain ⟨fs', j1, j2, j3, j4, j5, j6⟩ := h2.ins
    have e1 : fEq S (.str "sum") (.str "name") = some (.bl false) := fEq_str S sok_sum sok_name
    have e2 := fEq_str S sok_sum sok_sum
    have sz := szB_of (n := 3) (by omega)
    obtain ⟨pa, pb, pe⟩ := prt_sides F sd t L.length
    have fi := fInX_strs (S.set r (.lst (L ++ knL F sd t L.length))) true x (sid F sd t)
    have hx := ht.2
    have sl := sid_len F sd t
    have fl := hF.len
    have lc := flcQ (mi := itL (eOp fIx (eV 5) (eC (.int 2)))) (g := gN 7) (tt := cB (eOp fNe (eV 7) (eV 3))) (te := eV 7) (vs := [7])
      (env := [.v (.ref q), .v (Tr.sm x t).d, .v (.str "sum"), .v (.str x), .v (.lst [t.d]), .v (prt F sd t L.length), .no, .no]) (S := S.set r (.lst (L ++ knL F sd t L.length))) D.str D.str (fun y => decide (y ≠ x)) (sid F sd t) (by rw [pe]; simp) (by omega) fun y hy => ⟨[.v (.ref q), .v (Tr.sm x t).d, .v (.str "sum"), .v (.str x), .v (.lst [t.d]), .v (prt F sd t L.length), .no, .v (.str y)], rfl, by
        have := fNe_str (S.set r (.lst (L ++ knL F sd t L.length))) (hF.sok y (sid_sub hy)) (hF.sok x (sid_sub hx))
        simp [this], fun _ => by simp⟩
    have kn := knot_ok h2 (by rw [ll]; simp [jn] at hl; omega) (.str "sum") (.str x) (.lst [prt F sd t L.length]) (sL (sid F sd (.sm x t)))
    rw [ll] at kn
    have sl2 : Cell.lst (((sid F sd t).filter fun y => decide (y ≠ x)).map D.str) = .lst ((sid F sd (.sm x t)).map D.str) := rfl
    rw [sl2] at lc
    rw [pe] at ih kn lc
    have e0 : (Tr.sm x t).d = .tup [.str "sum", .str x, t.d] := rfl
    rw [e0] at lc ⊢
    have ek : knL F sd (.sm x t) L.length = knL F sd t L.length ++ [.tup [.str "sum", .str x, .lst [.tup [pa, pb, sL (sid F sd t)]], sL (sid F sd (.sm x t))]] := by
      rw [← pe]
      rfl
    have ep : prt F sd (.sm x t) L.length = .tup [.str "", nd (L.length + jn t), sL (sid F sd (.sm x t))] := rfl
    rw [ek, ep]
    generalize hZ : knL F sd t L.length = Z at *
    unfold m_Weft_part_of
    have sz1 := szB_of (n := 1) (by omega)
    simp [e1, e2, ih, fi, hx, lc, kn, sz, sz1, i1, i5, i6, j1, j5, j6, -fLc_eq]
  | .bi w a b, n + 1, S, L, ht, hn, h, hl => by
    obtain ⟨hw, ta, tb⟩ := ht
    have ih1 := part_of_ok hF hk a n S L ta (by simp [dp] at hn; omega) h (by simp [jn] at hl; omega)
    have h2 := h.set (L2 := L ++ knL F sd a L.length)
    have ll : (L ++ knL F sd a L.length).length = L.length + jn a := by simp [knL_len]
    have ih2 := part_of_ok hF hk b n _ _ tb (by simp [dp] at hn; omega) h2 (by rw [ll]; simp [jn] at hl; omega)
    rw [ll] at ih2
    have h3 := h2.set (L2 := (L ++ knL F sd a L.length) ++ knL F sd b (L.length + jn a))
    have ll3 : ((L ++ knL F sd a L.length) ++ knL F sd b (L.length + jn a)).length = L.length + jn a + jn b := by rw [List.length_append, ll, knL_len]
    have kn := knot_ok h3 (by rw [ll3]; simp [jn] at hl; omega) (.str w) (.str "") (.lst [prt F sd a L.length, prt F sd b (L.length + jn a)]) (sL (sid F sd (.bi w a b)))
    rw [ll3] at kn
    obtain ⟨fs, i1, i2, i3, i4, i5, i6⟩ := h.ins
    obtain ⟨fs', j1, j2, j3, j4, j5, j6⟩ := h2.ins
    obtain ⟨fs3, k1, k2, k3, k4, k5, k6⟩ := h3.ins
    have e1 : fEq S (.str w) (.str "name") = some (.bl false) := by rw [fEq_str S (wd_ok hw) sok_name, decide_eq_false (wd_name hw).1]
    have e2 : fEq S (.str w) (.str "sum") = some (.bl false) := by rw [fEq_str S (wd_ok hw) sok_sum, decide_eq_false (wd_name hw).2]
    have sz := szB_of (n := 3) (by omega)
    have sz2 := szB_of (n := 2) (by omega)
    obtain ⟨pa, pb, pe⟩ := prt_sides F sd a L.length
    obtain ⟨qa, qb, qe⟩ := prt_sides F sd b (L.length + jn a)
    have s1 := sid_len F sd a
    have s2 := sid_len F sd b
    have fl := hF.len
    have io := in_order_ok ((S.set r (.lst (L ++ knL F sd a L.length))).set r (.lst ((L ++ knL F sd a L.length) ++ knL F sd b (L.length + jn a)))) F (sid F sd a ++ sid F sd b) (by omega)
    have e0 : (Tr.bi w a b).d = .tup [.str w, a.d, b.d] := rfl
    have ep : prt F sd (.bi w a b) L.length = .tup [.str "", nd (L.length + jn a + jn b), sL (sid F sd (.bi w a b))] := rfl
    have ek : knL F sd (.bi w a b) L.length = knL F sd a L.length ++ knL F sd b (L.length + jn a) ++ [.tup [.str w, .str "", .lst [prt F sd a L.length, prt F sd b (L.length + jn a)], sL (sid F sd (.bi w a b))]] := rfl
    have io2 : ∀ S', S' = ((S.set r (.lst (L ++ knL F sd a L.length))).set r (.lst ((L ++ knL F sd a L.length) ++ knL F sd b (L.length + jn a)))) → m_in_order [frmD F, .lst ((sid F sd a).map D.str ++ (sid F sd b).map D.str)] S' = .ok (.own (.lst ((sid F sd (.bi w a b)).map D.str))) S' := fun S' e => by
      rw [e, ← List.map_append]
      exact io
    have io2 := io2 _ rfl
    have sum_sz := szB_of (n := (sid F sd a).length + (sid F sd b).length) (by omega)
    rw [e0, ep, ek]
    rw [pe, qe] at kn ⊢
    rw [pe] at ih1
    rw [qe] at ih2
    generalize hZ : knL F sd a L.length = Z at *
    generalize hY : knL F sd b (L.length + jn a) = Y at *
    have kn2 := kn.trans (show _ = R.ok (Ret.val (.tup [.str "", nd (L.length + jn a + jn b), sL (sid F sd (.bi w a b))])) (S.set r (.lst (L ++ (Z ++ Y ++ [.tup [.str w, .str "", .lst [.tup [pa, pb, sL (sid F sd a)], .tup [qa, qb, sL (sid F sd b)]], sL (sid F sd (.bi w a b))]])))) by simp)
    unfold m_Weft_part_of
    simp [e1, e2, ih1, ih2, io2, kn2, sz, sz2, i1, i2, i5, i6, j1, j2, j5, j6, k1, k2, k5, k6, sum_sz, -List.map_append, -List.set_set, -List.append_assoc]
end
end Fb
namespace Fb
open PySem L2 Mm Gf
abbrev iL (c : List Int) : D := .lst (c.map D.int)
abbrev triL (K : List Str) (sd : Str → List Str) (cs : Str → List Int) : D := .lst (K.map fun x => .tup [.str x, sL (sd x), iL (cs x)])
theorem kvs_map (f : Str → D) : ∀ (ws : List Str) (acc : List (Key × D)), ws.Nodup → (∀ w ∈ ws, lookK acc (.inr w) = none) → kvsOf (ws.map fun x => .tup [.str x, f x]) acc = some (acc ++ ws.map fun x => (.inr x, f x))
  | [], acc, _, _ => by simp [kvsOf]
  | w :: ws, acc, nd, h => by
    obtain ⟨nw, nd⟩ := List.nodup_cons.mp nd
    have h0 := h w List.mem_cons_self
    have p : putD acc (.inr w) (f w) = acc ++ [((.inr w : Key), f w)] := by
      unfold putD
      rw [lookK_any, h0]
      rfl
    have ih := kvs_map f ws (acc ++ [((.inr w : Key), f w)]) nd fun x hx => by
      rw [lookK_snoc _ _ _ _ h0]
      have ne : ¬ (Sum.inr x : Key) = Sum.inr w := fun q => by cases q; exact nw hx
      rw [if_neg ne]
      exact h x (List.mem_cons_of_mem _ hx)
    rw [List.map_cons, List.map_cons]
    show (match keyD (.str w) with | some kk => kvsOf _ (putD acc kk (f w)) | none => none) = _
    rw [keyD_str]
    show kvsOf _ (putD acc (.inr w) (f w)) = _
    rw [p, ih, List.append_assoc]
    rfl
theorem look_map (f : Str → D) : ∀ (ws : List Str) (x : Str), x ∈ ws → lookK (ws.map fun x => ((.inr x : Key), f x)) (.inr x) = some (f x)
  | w :: ws, x, h => by
    unfold lookK
    rw [List.map_cons, List.find?_cons]
    by_cases e : x = w
    · subst e
      simp
    · have ne : decide ((Sum.inr w : Key) = Sum.inr x) = false := decide_eq_false fun q => by cases q; exact e rfl
      simp only [ne]
      exact look_map f ws x ((List.mem_cons.mp h).resolve_left e)
section
variable {S : Sto} {F : Fr} {sd : Str → List Str} {cs : Str → List Int} {K : List Str}
theorem dcS (hK : K.Nodup) (hz : K.length ≤ 1000) {mi : MI} {env : Envr} {S : Sto} {i j k : Nat} {vs : List Nat} (f : Str → D) (me : ME) (h1 : mi env S = .ok (K.map fun x => .tup [.str x, sL (sd x), iL (cs x)]) S)
    (h2 : ∀ x ∈ K, ∃ e1, gT (gNC (gN i) (gNC (gN j) (gNC (gN k) gN0))) (.tup [.str x, sL (sd x), iL (cs x)]) (wipeE env vs) = some e1 ∧ eV i e1 S = .ok (.str x) S ∧ me e1 S = .ok (f x) S) :
    eDc mi (gT (gNC (gN i) (gNC (gN j) (gNC (gN k) gN0)))) cYes (eV i) me vs env S = .ok (.dic (K.map fun x => (.inr x, f x))) S := by
  have lc := lc_all (g := gT (gNC (gN i) (gNC (gN j) (gNC (gN k) gN0)))) (te := eKV (eV i) me) (env := wipeE env vs) (S := S) (fun x : Str => .tup [.str x, sL (sd x), iL (cs x)]) (fun x => .tup [.str x, f x]) K fun x hx => by
    obtain ⟨e1, a, b, c⟩ := h2 x hx
    refine ⟨e1, a, ?_⟩
    rw [eKV_eq, b, bind_ok']
    simp only [keyD_str, c, bind_ok']
  have kv := kvs_map f K [] hK fun _ _ => rfl
  rw [eDc_eq, h1, bind_ok', lc, bind_ok']
  unfold finDc
  rw [kv]
  simp [hz]
theorem need_frame_ok (S : Sto) (hF : FrOk F) : m_need_frame [frmD F] S = .ok (.val .non) S := by
  have n := need_sides S F (by have := hF.len; omega) hF.siz
  rw [if_pos hF.side] at n
  have lc := flcG (mi := itL (eV 0)) (te := eV 2) (g := gT (gNC (gN 1) (gNC (gN 2) gN0))) (vs := [1, 2]) (env := [.v (frmD F), .no, .no]) (S := S) dS (fun p => .int (p.2 : Int)) F (by simp) (by have := hF.len; omega) fun p hp => ⟨[.v (frmD F), .v (.str p.1), .v (nd p.2)], rfl, rfl⟩
  have fs := fSum_l S (F.map fun p => (p.2 : Int)) (by simp; have := hF.len; omega)
  have e : (F.map fun p => (p.2 : Int)).map D.int = F.map fun p => D.int (p.2 : Int) := by rw [List.map_map]; rfl
  have e2 : (F.map fun p => (p.2 : Int)).sum = ((F.map (·.2)).sum : Nat) := by
    rw [← sum_cast, List.map_map]
    rfl
  rw [e, e2] at fs
  have le : ¬ (7 : Int) < ((F.map (·.2)).sum : Nat) := by have := hF.sum; omega
  simp [m_need_frame, n, lc, fs, le, -fLc_eq, -List.map_map]
theorem weft_new (S : Sto) (hF : FrOk F) {kd : List (Key × D)} (hk : ∀ x ∈ K, lookK kd (.inr x) = some (sL (sd x))) {t : Tr} (ht : Trk F sd K t) (hd : dp t < 12) (hj : jn t ≤ 1000) :
    ∃ fs, m_WeftU_initU [.ref S.length, t.d, frmD F, .dic kd] (S ++ [Cell.ins "Weft" []]) = .ok (.val .non) (S ++ [.ins "Weft" fs, .lst (knL F sd t 0)]) ∧ fs.lookup ("whole" : Str) = some (prt F sd t 0) ∧ fs.lookup ("knots" : Str) = some (.ref (S.length + 1)) := by
  let fs0 : List (Str × D) := [(("frame" : Str), frmD F), (("known" : Str), .dic kd), (("knots" : Str), .ref (S.length + 1))]
  have W : Wf (S ++ [Cell.ins "Weft" fs0, Cell.lst []]) S.length (S.length + 1) F kd [] := ⟨by omega, ⟨fs0, by simp, rfl, rfl, rfl, rfl, rfl⟩, by simp⟩
  have p := part_of_ok hF hk t 12 _ [] ht hd W (by simpa using hj)
  have st : (S ++ [Cell.ins "Weft" fs0, Cell.lst []]).set (S.length + 1) (.lst (knL F sd t 0)) = S ++ [Cell.ins "Weft" fs0, Cell.lst (knL F sd t 0)] := by
    rw [List.set_append_right _ _ (by omega)]
    simp
  simp only [List.length_nil, List.nil_append, st] at p
  refine ⟨fs0 ++ [(("whole" : Str), prt F sd t 0)], ?_, rfl, rfl⟩
  have q1 : ¬ ("frame" : Str) = "known" := by decide
  have q2 : ¬ ("frame" : Str) = "knots" := by decide
  have q3 : ¬ ("known" : Str) = "knots" := by decide
  have q4 : ¬ ("frame" : Str) = "whole" := by decide
  have q5 : ¬ ("known" : Str) = "whole" := by decide
  have q6 : ¬ ("knots" : Str) = "whole" := by decide
  have r1 : ¬ ("part_of" : Str) = "frame" := by decide
  have r2 : ¬ ("part_of" : Str) = "known" := by decide
  have r3 : ¬ ("part_of" : Str) = "knots" := by decide
  have a1 : ∀ X, (S ++ [Cell.ins "Weft" []]).set S.length X = S ++ [X] := fun X => set_last S _ X
  have a2 : ∀ X Y, (S ++ [X]).set S.length Y = S ++ [Y] := fun X Y => set_last S X Y
  have a3 : ∀ (X Y Z : Cell), (S ++ [X, Y]).set S.length Z = S ++ [Z, Y] := fun X Y Z => by
    rw [List.set_append_right _ _ (Nat.le_refl _)]
    simp
  simp only [fs0] at p
  have sz0 := szB_of (n := 0) (by omega)
  simp [m_WeftU_initU, set_last, putFD, q1, q2, q3, q4, q5, q6, p, a3, fs0, sz0, r1, r2, r3]
end
end Fb
namespace Fb
open PySem L2 Mm Gf
def mad (F : Fr) (sd : Str → List Str) (cs : Str → List Int) : Tr → List (List Int)
  | .nm _ => []
  | .sm x t => mad F sd cs t ++ [cel F sd cs (.sm x t)]
  | .bi w a b => mad F sd cs a ++ mad F sd cs b ++ [cel F sd cs (.bi w a b)]
theorem mad_len {F : Fr} {sd : Str → List Str} {cs : Str → List Int} : ∀ {t : Tr}, (mad F sd cs t).length = jn t
  | .nm _ => rfl
  | .sm x t => by simp [mad, jn, mad_len (t := t)]
  | .bi w a b => by
    simp [mad, jn, mad_len (t := a), mad_len (t := b)]
    omega
noncomputable def cwT : ME := eIf (cB (eOp fIs (eV 19) (eC .non))) (eDGetA 4 (eV 18)) (eOp fIx (eV 5) (eV 19))
noncomputable def cwR : ME := mFrz (fLc (itL (eV 8)) (gT (gNC (gN 18) (gNC (gN 19) (gNC (gN 20) gN0)))) cYes cwT [18, 19, 20])
noncomputable def cwG : MG := gT (gNC (gN 6) (gNC (gN 7) (gNC (gN 8) (gNC (gN 9) gN0))))
section
variable {S : Sto} {F : Fr} {sd : Str → List Str} {cs : Str → List Int} {K : List Str} {kd : List (Key × D)} {M : List (List Int)} {w : Nat}
theorem fRep0 (S : Sto) {R : List Nat} {k : Nat} (hk : k ≤ 7) (L : List Int) : fRep S (.lst [.int 0]) (.int (2 ^ k)) = some (.lst (((List.range (2 ^ k)).map fun y => sumTo R 0 y L).map D.int)) := by
  have k1000 : 2 ^ k ≤ 1000 := Nat.le_trans (Nat.pow_le_pow_right (by decide) hk) (by decide : 2 ^ 7 ≤ 1000)
  have rp := fRep_of S (.int 0) (2 ^ k) k1000
  have e0 : (((List.range (2 ^ k)).map fun y => sumTo R 0 y L).map D.int) = List.replicate (2 ^ k) (.int 0) := by
    rw [List.map_map]
    refine List.ext_getElem (by simp) fun i h1 h2 => ?_
    simp [sumTo]
  rw [e0, ← rp]
  simp
theorem len16 {T : List Sl} (h : T.length = 16) : ∃ s6 s7 s8 s9 s10 s11 s12 s13 s14 s15 s16 s17 s18 s19 s20 s21, T = [s6, s7, s8, s9, s10, s11, s12, s13, s14, s15, s16, s17, s18, s19, s20, s21] := by
  match T, h with
  | [s6, s7, s8, s9, s10, s11, s12, s13, s14, s15, s16, s17, s18, s19, s20, s21], _ => exact ⟨s6, s7, s8, s9, s10, s11, s12, s13, s14, s15, s16, s17, s18, s19, s20, s21, rfl⟩
theorem live_step {g : MG} {b : MS} {r m i : Nat} {env e1 e2 : Envr} {S S2 : Sto} {Pre Post : List D} {d : D} (h : S[r]? = some (.lst (Pre ++ [d] ++ Post))) (hi : Pre.length = i) (hg : g d env = some e1) (hb : b e1 S = .nx e2 S2) : forLive g b r (m + 1) i env S = forLive g b r m (i + 1) e2 S2 := by
  rw [forLive, h]
  have e : (Pre ++ [d] ++ Post)[i]? = some d := by
    subst hi
    simp
  simp only [e, hg, hb]
end
end Fb
namespace Fb
open PySem L2 Mm Gf
section
variable {F : Fr} {sd : Str → List Str} {cs : Str → List Int} {K : List Str} {kd : List (Key × D)} {w r : Nat}
theorem iL_plain {n : Nat} {c : List Int} (h : c.length ≤ 1000) : plainN (n + 2) (iL c) = true := plain_l (by simpa using h) fun d hd => by
  obtain ⟨i, _, rfl⟩ := List.mem_map.mp hd
  rfl
theorem mad_last (F : Fr) (sd : Str → List Str) (cs : Str → List Int) : ∀ t : Tr, (∃ x, t = .nm x) ∨ ∃ M0, mad F sd cs t = M0 ++ [cel F sd cs t]
  | .nm x => .inl ⟨x, rfl⟩
  | .sm x t => .inr ⟨_, rfl⟩
  | .bi wd a b => .inr ⟨_, rfl⟩
end
end Fb
namespace K51
open PySem L2 Mm Fb Gf
section
variable {S : Sto} {q r : Nat} {F : Fr} {sd : Str → List Str} {cs : Str → List Int} {kd : List (Key × D)} {L : List D} {K : List Str}
theorem wf_app (h : Wf S q r F kd L) (X : Sto) : Wf (S ++ X) q r F kd L := ⟨h.ne, by
  obtain ⟨fs, e, e2⟩ := h.ins
  exact ⟨fs, by rw [List.getElem?_append_left (List.getElem?_eq_some_iff.mp e).1]; exact e, e2⟩, by
  rw [List.getElem?_append_left (List.getElem?_eq_some_iff.mp h.lst).1]
  exact h.lst⟩
theorem partT_ok (hF : FrOk F) (hk : ∀ x ∈ K, lookK kd (.inr x) = some (sL (sd x))) (t : Tr) (S : Sto) (L : List D) (ht : Trk F sd K t) (hn : dp t < 12) (h : Wf S q r F kd L) (hl : L.length + jn t ≤ 1000) :
    ∃ (S' : Sto) (n : Nat) (a b : D), m_Weft_part_of_t [.ref q, t.d] S = .ok (.val (.tup [a, b, .ref n])) S' ∧ S'[n]? = some (.lst ((sid F sd t).map D.str)) ∧ S.length ≤ n ∧ S.length ≤ S'.length ∧ ∀ i, i < S.length → i ≠ r → S'[i]? = S[i]? := by
  have lr := (List.getElem?_eq_some_iff.mp h.lst).1
  cases t with
  | nm x =>
    obtain ⟨fs, i1, i2, i3, i4, i5, i6⟩ := h.ins
    have lk := hk x ht
    have l1 := h.lst
    have io := in_order_ok S F (sd x) (by have := hF.len; omega)
    have e1 := fEq_str S sok_name sok_name
    have sz := szB_of (n := 2) (by omega)
    have sz3 := szB_of (n := 3) (by omega)
    refine ⟨S ++ [.lst ((sid F sd (.nm x)).map D.str)], S.length, .str x, .non, ?_, by simp, Nat.le_refl _, by simp, fun i hi _ => by rw [List.getElem?_append_left hi]⟩
    unfold m_Weft_part_of_t
    simp [Tr.d, e1, i1, i2, i3, lk, io, sid, sz, sz3]
  | sm x t =>
    have ih := part_of_ok hF hk t 11 S L ht.1 (by simp [dp] at hn; omega) h (by simp [jn] at hl; omega)
    have h2 := h.set (L2 := L ++ knL F sd t L.length)
    have ll : (L ++ knL F sd t L.length).length = L.length + jn t := by simp [knL_len]
    obtain ⟨fs, i1, i2, i3, i4, i5, i6⟩ := h.ins
    obtain ⟨fs', j1, j2, j3, j4, j5, j6⟩ := h2.ins
    have e1 : fEq S (.str "sum") (.str "name") = some (.bl false) := fEq_str S sok_sum sok_name
    have e2 := fEq_str S sok_sum sok_sum
    have sz := szB_of (n := 3) (by omega)
    obtain ⟨pa, pb, pe⟩ := prt_sides F sd t L.length
    have fi := fInX_strs (S.set r (.lst (L ++ knL F sd t L.length))) true x (sid F sd t)
    have hx := ht.2
    have sl := sid_len F sd t
    have fl := hF.len
    have lc := flcQ (mi := itL (eOp fIx (eV 5) (eC (.int 2)))) (g := gN 7) (tt := cB (eOp fNe (eV 7) (eV 3))) (te := eV 7) (vs := [7])
      (env := [.v (.ref q), .v (Tr.sm x t).d, .v (.str "sum"), .v (.str x), .v (.lst [t.d]), .v (prt F sd t L.length), .no, .no]) (S := S.set r (.lst (L ++ knL F sd t L.length))) D.str D.str (fun y => decide (y ≠ x)) (sid F sd t) (by rw [pe]; simp) (by omega) fun y hy => ⟨[.v (.ref q), .v (Tr.sm x t).d, .v (.str "sum"), .v (.str x), .v (.lst [t.d]), .v (prt F sd t L.length), .no, .v (.str y)], rfl, by
        have := fNe_str (S.set r (.lst (L ++ knL F sd t L.length))) (hF.sok y (sid_sub hy)) (hF.sok x (sid_sub hx))
        simp [this], fun _ => by simp⟩
    have h3 := wf_app h2 [.lst ((sid F sd (.sm x t)).map D.str)]
    have kn := knot_ok h3 (by rw [ll]; simp [jn] at hl; omega) (.str "sum") (.str x) (.lst [prt F sd t L.length]) (.ref S.length)
    rw [ll] at kn
    have sl2 : Cell.lst (((sid F sd t).filter fun y => decide (y ≠ x)).map D.str) = .lst ((sid F sd (.sm x t)).map D.str) := rfl
    rw [sl2] at lc
    rw [pe] at ih kn lc
    have e0 : (Tr.sm x t).d = .tup [.str "sum", .str x, t.d] := rfl
    rw [e0] at lc ⊢
    have g1 : ((S.set r (.lst (L ++ knL F sd t L.length)) ++ [Cell.lst ((sid F sd (.sm x t)).map D.str)]).set r (.lst (L ++ knL F sd t L.length ++ [.tup [.str "sum", .str x, .lst [.tup [pa, pb, sL (sid F sd t)]], .ref S.length]])))[S.length]? = some (.lst ((sid F sd (.sm x t)).map D.str)) := by
      rw [List.getElem?_set_ne (by omega), List.getElem?_append_right (by simp)]
      simp
    have g2 : ∀ i, i < S.length → i ≠ r → ((S.set r (.lst (L ++ knL F sd t L.length)) ++ [Cell.lst ((sid F sd (.sm x t)).map D.str)]).set r (.lst (L ++ knL F sd t L.length ++ [.tup [.str "sum", .str x, .lst [.tup [pa, pb, sL (sid F sd t)]], .ref S.length]])))[i]? = S[i]? := fun i hi hr => by
      rw [List.getElem?_set_ne (fun z => hr z.symm), List.getElem?_append_left (by simpa using hi), List.getElem?_set_ne (fun z => hr z.symm)]
    have g3 : S.length ≤ ((S.set r (.lst (L ++ knL F sd t L.length)) ++ [Cell.lst ((sid F sd (.sm x t)).map D.str)]).set r (.lst (L ++ knL F sd t L.length ++ [.tup [.str "sum", .str x, .lst [.tup [pa, pb, sL (sid F sd t)]], .ref S.length]]))).length := by simp
    generalize (S.set r (.lst (L ++ knL F sd t L.length)) ++ [Cell.lst ((sid F sd (.sm x t)).map D.str)]).set r (.lst (L ++ knL F sd t L.length ++ [.tup [.str "sum", .str x, .lst [.tup [pa, pb, sL (sid F sd t)]], .ref S.length]])) = S3 at *
    generalize hZ : knL F sd t L.length = Z at *
    refine ⟨S3, S.length, .str "", nd (L.length + jn t), ?_, g1, Nat.le_refl _, g3, g2⟩
    have sz1 := szB_of (n := 1) (by omega)
    generalize hCL : Cell.lst ((sid F sd (.sm x t)).map D.str) = CL at *
    unfold m_Weft_part_of_t
    simp [e1, e2, ih, fi, hx, lc, kn, sz, sz1, i1, i5, i6, j1, j5, j6, -fLc_eq]
  | bi w a b =>
    obtain ⟨hw, ta, tb⟩ := ht
    have ih1 := part_of_ok hF hk a 11 S L ta (by simp [dp] at hn; omega) h (by simp [jn] at hl; omega)
    have h2 := h.set (L2 := L ++ knL F sd a L.length)
    have ll : (L ++ knL F sd a L.length).length = L.length + jn a := by simp [knL_len]
    have ih2 := part_of_ok hF hk b 11 _ _ tb (by simp [dp] at hn; omega) h2 (by rw [ll]; simp [jn] at hl; omega)
    rw [ll] at ih2
    have h3 := h2.set (L2 := (L ++ knL F sd a L.length) ++ knL F sd b (L.length + jn a))
    have ll3 : ((L ++ knL F sd a L.length) ++ knL F sd b (L.length + jn a)).length = L.length + jn a + jn b := by rw [List.length_append, ll, knL_len]
    have h4 := wf_app h3 [.lst ((sid F sd (.bi w a b)).map D.str)]
    have kn := knot_ok h4 (by rw [ll3]; simp [jn] at hl; omega) (.str w) (.str "") (.lst [prt F sd a L.length, prt F sd b (L.length + jn a)]) (.ref S.length)
    rw [ll3] at kn
    obtain ⟨fs, i1, i2, i3, i4, i5, i6⟩ := h.ins
    obtain ⟨fs', j1, j2, j3, j4, j5, j6⟩ := h2.ins
    obtain ⟨fs3, k1, k2, k3, k4, k5, k6⟩ := h3.ins
    have e1 : fEq S (.str w) (.str "name") = some (.bl false) := by rw [fEq_str S (wd_ok hw) sok_name, decide_eq_false (wd_name hw).1]
    have e2 : fEq S (.str w) (.str "sum") = some (.bl false) := by rw [fEq_str S (wd_ok hw) sok_sum, decide_eq_false (wd_name hw).2]
    have sz := szB_of (n := 3) (by omega)
    have sz2 := szB_of (n := 2) (by omega)
    obtain ⟨pa, pb, pe⟩ := prt_sides F sd a L.length
    obtain ⟨qa, qb, qe⟩ := prt_sides F sd b (L.length + jn a)
    have s1 := sid_len F sd a
    have s2 := sid_len F sd b
    have fl := hF.len
    have io := in_order_ok ((S.set r (.lst (L ++ knL F sd a L.length))).set r (.lst ((L ++ knL F sd a L.length) ++ knL F sd b (L.length + jn a)))) F (sid F sd a ++ sid F sd b) (by omega)
    have e0 : (Tr.bi w a b).d = .tup [.str w, a.d, b.d] := rfl
    have io2 : ∀ S', S' = ((S.set r (.lst (L ++ knL F sd a L.length))).set r (.lst ((L ++ knL F sd a L.length) ++ knL F sd b (L.length + jn a)))) → m_in_order [frmD F, .lst ((sid F sd a).map D.str ++ (sid F sd b).map D.str)] S' = .ok (.own (.lst ((sid F sd (.bi w a b)).map D.str))) S' := fun S' e => by
      rw [e, ← List.map_append]
      exact io
    have io2 := io2 _ rfl
    have sum_sz := szB_of (n := (sid F sd a).length + (sid F sd b).length) (by omega)
    rw [e0]
    rw [pe, qe] at kn
    rw [pe] at ih1
    rw [qe] at ih2
    generalize hZ : knL F sd a L.length = Z at *
    generalize hY : knL F sd b (L.length + jn a) = Y at *
    generalize hT2 : (S.set r (.lst (L ++ Z))).set r (.lst (L ++ Z ++ Y)) = T2 at *
    have lT : T2.length = S.length := by rw [← hT2]; simp
    have sT : ∀ i, i ≠ r → T2[i]? = S[i]? := fun i hr => by
      rw [← hT2, List.getElem?_set_ne (fun z => hr z.symm), List.getElem?_set_ne (fun z => hr z.symm)]
    generalize hCL : Cell.lst ((sid F sd (.bi w a b)).map D.str) = CL at *
    generalize hKL : Cell.lst (L ++ Z ++ Y ++ [.tup [.str w, .str "", .lst [.tup [pa, pb, sL (sid F sd a)], .tup [qa, qb, sL (sid F sd b)]], .ref S.length]]) = KL at *
    have g1 : ((T2 ++ [CL]).set r KL)[S.length]? = some CL := by
      rw [List.getElem?_set_ne (by omega), List.getElem?_append_right (by omega), lT]
      simp
    have g2 : ∀ i, i < S.length → i ≠ r → ((T2 ++ [CL]).set r KL)[i]? = S[i]? := fun i hi hr => by
      rw [List.getElem?_set_ne (fun z => hr z.symm), List.getElem?_append_left (by omega), sT i hr]
    have g3 : S.length ≤ ((T2 ++ [CL]).set r KL).length := by simp; omega
    generalize (T2 ++ [CL]).set r KL = S3 at *
    refine ⟨S3, S.length, .str "", nd (L.length + jn a + jn b), ?_, by rw [g1], Nat.le_refl _, g3, g2⟩
    unfold m_Weft_part_of_t
    simp [e1, e2, ih1, ih2, io2, kn, sz, sz2, i1, i2, i5, i6, j1, j2, j5, j6, k1, k2, k5, k6, sum_sz, lT, -List.map_append, -List.set_set, -List.append_assoc]
theorem weftT_new (S : Sto) (hF : FrOk F) {kd : List (Key × D)} (hk : ∀ x ∈ K, lookK kd (.inr x) = some (sL (sd x))) {t : Tr} (ht : Trk F sd K t) (hd : dp t < 12) (hj : jn t ≤ 1000) :
    ∃ (fs : List (Str × D)) (S' : Sto) (n : Nat) (a b : D), m_WeftU_initU_t [.ref S.length, t.d, frmD F, .dic kd] (S ++ [Cell.ins "Weft" []]) = .ok (.val .non) S' ∧ S'[S.length]? = some (.ins "Weft" fs) ∧ fs.lookup ("whole" : Str) = some (.tup [a, b, .ref n]) ∧ S'[n]? = some (.lst ((sid F sd t).map D.str)) ∧ S.length < n ∧ S.length ≤ S'.length ∧ ∀ i, i < S.length → S'[i]? = S[i]? := by
  let fs0 : List (Str × D) := [(("frame" : Str), frmD F), (("known" : Str), .dic kd), (("knots" : Str), .ref (S.length + 1))]
  have W : Wf (S ++ [Cell.ins "Weft" fs0, Cell.lst []]) S.length (S.length + 1) F kd [] := ⟨by omega, ⟨fs0, by simp, rfl, rfl, rfl, rfl, rfl⟩, by simp⟩
  obtain ⟨S2, n, a, b, p, g1, g2, g3, g4⟩ := partT_ok hF hk t _ [] ht hd W (by simpa using hj)
  have ll : (S ++ [Cell.ins "Weft" fs0, Cell.lst []]).length = S.length + 2 := by simp
  rw [ll] at g2 g3 g4
  have at0 : S2[S.length]? = some (.ins "Weft" fs0) := by
    rw [g4 _ (by omega) (by omega)]
    simp
  refine ⟨fs0 ++ [(("whole" : Str), .tup [a, b, .ref n])], S2.set S.length (.ins "Weft" (fs0 ++ [(("whole" : Str), .tup [a, b, .ref n])])), n, a, b, ?_, List.getElem?_set_self (by omega), rfl, by rw [List.getElem?_set_ne (by omega)]; exact g1, by omega, by simp; omega, fun i hi => by
    rw [List.getElem?_set_ne (by omega), g4 i (by omega) (by omega), List.getElem?_append_left hi]⟩
  have q1 : ¬ ("frame" : Str) = "known" := by decide
  have q2 : ¬ ("frame" : Str) = "knots" := by decide
  have q3 : ¬ ("known" : Str) = "knots" := by decide
  have q4 : ¬ ("frame" : Str) = "whole" := by decide
  have q5 : ¬ ("known" : Str) = "whole" := by decide
  have q6 : ¬ ("knots" : Str) = "whole" := by decide
  have r1 : ¬ ("part_of" : Str) = "frame" := by decide
  have r2 : ¬ ("part_of" : Str) = "known" := by decide
  have r3 : ¬ ("part_of" : Str) = "knots" := by decide
  have a3 : ∀ (X Y Z : Cell), (S ++ [X, Y]).set S.length Z = S ++ [Z, Y] := fun X Y Z => by
    rw [List.set_append_right _ _ (Nat.le_refl _)]
    simp
  simp only [fs0] at p at0
  have sz0 := szB_of (n := 0) (by omega)
  simp [m_WeftU_initU_t, set_last, putFD, q1, q2, q3, q4, q5, q6, p, at0, a3, fs0, sz0, r1, r2, r3]
theorem pre_of {S S' : Sto} (hl : S.length ≤ S'.length) (h : ∀ i, i < S.length → S'[i]? = S[i]?) : ∃ X, S' = S ++ X := ⟨S'.drop S.length, by
  apply List.ext_getElem?
  intro i
  by_cases hi : i < S.length
  · rw [List.getElem?_append_left hi, h i hi]
  · rw [List.getElem?_append_right (by omega), List.getElem?_drop]
    congr 1
    omega⟩
theorem sidesT_ok (S : Sto) (hF : FrOk F) (hK : K.Nodup) (hz : K.length ≤ 1000) {t : Tr} (ht : Trk F sd K t) (hd : dp t < 12) (hj : jn t ≤ 1000) : ∃ (X : Sto) (n : Nat), m_sides_of_t [t.d, frmD F, triL K sd cs] S = .ok (.val (.ref n)) (S ++ X) ∧ S.length ≤ n ∧ (S ++ X)[n]? = some (.lst ((sid F sd t).map D.str)) := by
  have nf := need_frame_ok S hF
  obtain ⟨fs, S', n, a, b, e, w0, w1, g1, g2, g3, g4⟩ := weftT_new S hF (kd := K.map fun x => (.inr x, sL (sd x))) (fun x hx => look_map (fun x => sL (sd x)) K x hx) ht hd hj
  have dc := dcS (cs := cs) hK hz (mi := itL (eV 2)) (env := [.v t.d, .v (frmD F), .v (triL K sd cs), .no, .no, .no]) (S := S) (i := 3) (j := 4) (k := 5) (vs := [3, 4, 5]) (fun x => sL (sd x)) (eV 4) (by simp) fun x hx => ⟨[.v t.d, .v (frmD F), .v (triL K sd cs), .v (.str x), .v (sL (sd x)), .v (iL (cs x))], rfl, rfl, rfl⟩
  obtain ⟨X, rfl⟩ := pre_of g3 g4
  refine ⟨X, n, ?_, by omega, g1⟩
  unfold m_sides_of_t
  simp [nf, dc, -eDc_eq]
  rw [e]
  simp [keepI, w0, w1]
end
end K51
namespace K51
open PySem L2 Mm Fb Gf
theorem liveE_go {α : Type} {g : MG} {b : MS} {r : Nat} (ψ : α → D) (ws : List α) (I : Nat → Envr → Sto → Prop) (hI : ∀ i env S, I i env S → S[r]? = some (.lst (ws.map ψ))) (step : ∀ i w env S, ws[i]? = some w → I i env S → ∃ e1 e2 S2, g (.tup [nd i, ψ w]) env = some e1 ∧ b e1 S = .nx e2 S2 ∧ I (i + 1) e2 S2) :
    ∀ (m i : Nat) (env : Envr) (S : Sto), i ≤ ws.length → ws.length - i < m → I i env S → ∃ e' S', forLiveE g b r m i env S = .nx e' S' ∧ I ws.length e' S'
  | 0, i, env, S, _, h, _ => absurd h (Nat.not_lt_zero _)
  | m + 1, i, env, S, hi, hm, h => by
    have hS := hI i env S h
    cases e : ws[i]? with
    | none =>
      have e' : (ws.map ψ)[i]? = none := by rw [List.getElem?_map, e]; rfl
      have : i = ws.length := by have := List.getElem?_eq_none_iff.mp e; omega
      subst this
      refine ⟨env, S, ?_, h⟩
      unfold forLiveE
      simp only [hS, e']
    | some w =>
      have li := (List.getElem?_eq_some_iff.mp e).1
      have e' : (ws.map ψ)[i]? = some (ψ w) := by rw [List.getElem?_map, e]; rfl
      obtain ⟨e1, e2, S2, h1, h2, h3⟩ := step i w env S e h
      obtain ⟨e3, S3, q, hq⟩ := liveE_go ψ ws I hI step m (i + 1) e2 S2 (by omega) (by omega) h3
      refine ⟨e3, S3, ?_, hq⟩
      have h1 : g (.tup [.int (i : Nat), ψ w]) env = some e1 := h1
      unfold forLiveE
      simp only [hS, e', h1, h2]
      exact q
def rfs (N m : Nat) : List D := (List.range' N m).map D.ref
theorem rfs_len (N m : Nat) : (rfs N m).length = m := by simp [rfs]
theorem rfs_snoc (N m : Nat) : rfs N (m + 1) = rfs N m ++ [.ref (N + m)] := by
  unfold rfs
  rw [List.range'_1_concat, List.map_append]
  rfl
theorem rfs_at {N m i : Nat} (h : i < m) : (rfs N m)[i]? = some (.ref (N + i)) := by
  unfold rfs
  rw [List.getElem?_map, List.getElem?_range' h]
  simp
abbrev iC (c : List Int) : Cell := .lst (c.map D.int)
def stM (S1 : Sto) (M : List (List Int)) : Sto := S1 ++ (Cell.lst (rfs (S1.length + 1) M.length) :: M.map iC)
theorem stM_len (S1 : Sto) (M : List (List Int)) : (stM S1 M).length = S1.length + 1 + M.length := by simp [stM]; omega
theorem stM_w (S1 : Sto) (M : List (List Int)) : (stM S1 M)[S1.length]? = some (.lst (rfs (S1.length + 1) M.length)) := by simp [stM]
theorem stM_old {S1 : Sto} {i : Nat} (h : i < S1.length) (M : List (List Int)) : (stM S1 M)[i]? = S1[i]? := by
  unfold stM
  rw [List.getElem?_append_left h]
theorem stM_at {S1 : Sto} {M : List (List Int)} {j : Nat} {c : List Int} (h : M[j]? = some c) : (stM S1 M)[S1.length + 1 + j]? = some (iC c) := by
  unfold stM
  rw [List.getElem?_append_right (by omega)]
  have : S1.length + 1 + j - S1.length = j + 1 := by omega
  rw [this, List.getElem?_cons_succ, List.getElem?_map, h]
  rfl
theorem stM_snoc (S1 : Sto) (M : List (List Int)) (c : List Int) : (stM S1 M ++ [iC c]).set S1.length (.lst (rfs (S1.length + 1) M.length ++ [.ref (stM S1 M).length])) = stM S1 (M ++ [c]) := by
  rw [stM_len]
  have e : rfs (S1.length + 1) (M ++ [c]).length = rfs (S1.length + 1) M.length ++ [.ref (S1.length + 1 + M.length)] := by
    rw [List.length_append]
    exact rfs_snoc _ _
  unfold stM
  rw [e, List.map_append, List.append_assoc, List.set_append_right _ _ (Nat.le_refl _)]
  simp
noncomputable def dwS : MS := sSeq (sAsg (eCall m_cut_fold [] (aCons (eV 1) (aCons (eOp fIx (eOp fIx (eV 8) (eC (.int 0))) (eC (.int 2))) (aCons (eV 9) aNil)))) (gN 11))
    (sSeq (sCell 12 (fOp fRep (mFrz (fLst (aCons (eC (.int 0)) aNil))) (eOp iShl (eC (.int 1)) (eMeth "Fold" "size" m_Fold_size [] (eV 11) aNil))))
    (sForE (aCons (eOp fIx (eV 10) (eC (.int 0))) aNil) (gT (gNC (gN 13) (gNC (gN 14) gN0))) (sAugC (eV 12) (eMeth "Fold" "to" m_Fold_to [] (eV 11) (aCons (eV 13) aNil)) (fun i j => i + j) (eV 14))))
noncomputable def dwB : MS := sSeq (sAsg (mFrz (fLc (itL (eV 8)) (gN 21) cYes (eCall m_cut_fold [] (aCons (eV 1) (aCons (eV 9) (aCons (eOp fIx (eV 21) (eC (.int 2))) aNil)))) [21])) (gU (gNC (gN 15) (gNC (gN 16) gN0))))
    (sSeq (sAsg (eCall m_digits_in [] (aCons (eV 1) (aCons (eV 9) aNil))) (gN 17))
    (sCell 12 (fLc (itR1 (aCons (eOp iShl (eC (.int 1)) (eV 17)) aNil)) (gN 19) cYes (eCall m_mixed [] (aCons (eV 6) (aCons (eOp fIx (eOp fIx (eV 10) (eC (.int 0))) (eMeth "Fold" "to" m_Fold_to [] (eV 15) (aCons (eV 19) aNil))) (aCons (eOp fIx (eOp fIx (eV 10) (eC (.int 1))) (eMeth "Fold" "to" m_Fold_to [] (eV 16) (aCons (eV 19) aNil))) aNil)))) [19])))
noncomputable def dwBody : MS := sSeq (sAsg cwR (gN 10)) (sSeq (sIf (cB (eOp fEq (eV 6) (eC (.str "sum")))) dwS dwB) (sAppC 5 (eV 12)))
theorem m_cellsT_eq : m_cells_of_k51 = mFn 22 (sSeq (sExpr (eCall m_need_frame [] (aCons (eV 1) aNil)))
    (sSeq (sAsg (eNewC "Weft" m_WeftU_initU [] (aCons (eV 0) (aCons (eV 1) (aCons (eDc (itL (eV 2)) (gT (gNC (gN 18) (gNC (gN 9) (gNC (gN 12) gN0)))) cYes (eV 18) (eV 9) [18, 9, 12]) aNil)))) (gN 3))
    (sSeq (sAsg (eDc (itL (eV 2)) (gT (gNC (gN 18) (gNC (gN 9) (gNC (gN 12) gN0)))) cYes (eV 18) (eCellOf (fCB fListOf (aCons (eV 12) aNil))) [18, 9, 12]) (gN 4))
    (sSeq (sCell 5 (fLst aNil))
    (sSeq (sForA (eFld "Weft" "knots" (eV 3)) cwG dwBody)
    (sRet (eIf (cB (eOp (fNil not) (eV 5) (mFrz (fLst aNil)))) (eOp fIx (eV 5) (eUn fNeg (eC (.int 1)))) (eDGetA 4 (eOp fIx (eFld "Weft" "whole" (eV 3)) (eC (.int 0))))))))))) := rfl
def RowR (kd : List (Key × D)) (S1 : Sto) (M : List (List Int)) (p : D) (n : Nat) (c : List Int) : Prop := (∃ x ss, p = .tup [.str x, .non, ss] ∧ lookK kd (.inr x) = some (.ref n) ∧ S1[n]? = some (iC c)) ∨ (∃ x j ss, p = .tup [.str x, nd j, ss] ∧ M[j]? = some c ∧ n = S1.length + 1 + j)
section
variable {S1 : Sto} {F : Fr} {sd : Str → List Str} {cs : Str → List Int} {K : List Str} {kd : List (Key × D)} {M : List (List Int)}
theorem RowR.at_ {p : D} {n : Nat} {c : List Int} (h : RowR kd S1 M p n c) : (stM S1 M)[n]? = some (iC c) := by
  rcases h with ⟨x, ss, _, _, e⟩ | ⟨x, j, ss, _, e, rfl⟩
  · rw [stM_old (List.getElem?_eq_some_iff.mp e).1]
    exact e
  · exact stM_at e
abbrev dE (F : Fr) (kd : List (Key × D)) (w : Nat) (a0 a2 a3 s6 s7 s8 s9 s10 s11 s12 s13 s14 s15 s16 s17 s18 s19 s20 s21 : Sl) : Envr := [a0, .v (frmD F), a2, a3, .v (.dic kd), .v (.ref w), s6, s7, s8, s9, s10, s11, s12, s13, s14, s15, s16, s17, s18, s19, s20, s21]
theorem rowR_at {p : D} {n : Nat} {c : List Int} (h : RowR kd S1 M p n c) (a0 a2 a3 s6 s7 s8 s9 s10 s11 s12 s13 s14 s15 s16 s17 s18 s19 s20 s21 : Sl) :
    ∃ e1, gT (gNC (gN 18) (gNC (gN 19) (gNC (gN 20) gN0))) p (dE F kd S1.length a0 a2 a3 s6 s7 s8 s9 s10 s11 s12 s13 s14 s15 s16 s17 s18 s19 s20 s21) = some e1 ∧ cwT e1 (stM S1 M) = .ok (.ref n) (stM S1 M) := by
  have hw := stM_w S1 M
  rcases h with ⟨x, ss, rfl, e, _⟩ | ⟨x, j, ss, rfl, e, rfl⟩
  · refine ⟨dE F kd S1.length a0 a2 a3 s6 s7 s8 s9 s10 s11 s12 s13 s14 s15 s16 s17 (.v (.str x)) (.v .non) (.v ss) s21, rfl, ?_⟩
    have is : fIs (stM S1 M) (.non : D) .non = some (.bl true) := rfl
    unfold cwT
    simp [is, hasA, dicA, dicOf, e]
  · refine ⟨dE F kd S1.length a0 a2 a3 s6 s7 s8 s9 s10 s11 s12 s13 s14 s15 s16 s17 (.v (.str x)) (.v (nd j)) (.v ss) s21, rfl, ?_⟩
    have is : fIs (stM S1 M) (nd j) .non = some (.bl false) := rfl
    have at_ : atI (rfs (S1.length + 1) M.length) (j : Int) = some (.ref (S1.length + 1 + j)) := by
      rw [Mm.atI_nat]
      exact rfs_at (List.getElem?_eq_some_iff.mp e).1
    unfold cwT
    simp [is, hw, at_]
theorem crowR_ok {pc : List (D × Nat × List Int)} (h : ∀ y ∈ pc, RowR kd S1 M y.1 y.2.1 y.2.2) (hz : pc.length ≤ 1000) (a0 a2 a3 s6 s7 s9 s10 s11 s12 s13 s14 s15 s16 s17 s18 s19 s20 s21 : Sl) :
    cwR (dE F kd S1.length a0 a2 a3 s6 s7 (.v (.lst (pc.map (·.1)))) s9 s10 s11 s12 s13 s14 s15 s16 s17 s18 s19 s20 s21) (stM S1 M) = .ok (.lst (pc.map fun y => .ref y.2.1)) (stM S1 M) := by
  have lc := flcG (mi := itL (eV 8)) (g := gT (gNC (gN 18) (gNC (gN 19) (gNC (gN 20) gN0)))) (te := cwT) (vs := [18, 19, 20]) (env := dE F kd S1.length a0 a2 a3 s6 s7 (.v (.lst (pc.map (·.1)))) s9 s10 s11 s12 s13 s14 s15 s16 s17 s18 s19 s20 s21) (S := stM S1 M) (fun y : D × Nat × List Int => y.1) (fun y => .ref y.2.1) pc (by simp) (by omega) fun y hy => rowR_at (h y hy) ..
  unfold cwR
  simp [lc, -fLc_eq]
theorem dwS_ok (hF : FrOk F) {T : Sto} {t : Tr} {x : Str} {k n0 : Nat} {L : List Int} (hn : T[n0]? = some (iC L)) (hL : L.length = 2 ^ bts F (sid F sd t)) (a0 a2 a3 a4 a5 s6 s7 s11 s12 s13 s14 s15 s16 s17 s18 s19 s20 s21 : Sl) :
    ∃ s11' s13' s14', dwS [a0, .v (frmD F), a2, a3, a4, a5, s6, s7, .v (.lst [prt F sd t k]), .v (sL (sid F sd (.sm x t))), .v (.lst [.ref n0]), s11, s12, s13, s14, s15, s16, s17, s18, s19, s20, s21] T = .nx [a0, .v (frmD F), a2, a3, a4, a5, s6, s7, .v (.lst [prt F sd t k]), .v (sL (sid F sd (.sm x t))), .v (.lst [.ref n0]), s11', .v (.ref T.length), s13', s14', s15, s16, s17, s18, s19, s20, s21] (T ++ [iC (totC (cutL (sid F sd t) (sid F sd (.sm x t)) F 0) (bts F (sid F sd t)) (bts F (sid F sd (.sm x t))) L)]) := by
  have hs : ∀ p ∈ F, p.1 ∈ sid F sd (.sm x t) → p.1 ∈ sid F sd t := fun p _ hp => (sid_sm.mp hp).1
  have b1 := hF.le (sid F sd t)
  have b2 := hF.le (sid F sd (.sm x t))
  have cf := cut_fold_ok T hs (by omega)
  have hR := cutL_lin hF.nod hs
  obtain ⟨pa, pb, pe⟩ := prt_sides F sd t k
  rw [pe]
  generalize bts F (sid F sd (.sm x t)) = kk at *
  generalize bts F (sid F sd t) = vv at *
  generalize cutL (sid F sd t) (sid F sd (.sm x t)) F 0 = R at *
  generalize sid F sd (.sm x t) = Y at *
  generalize sid F sd t = X at *
  have Z := size_ok T R kk
  have pk := powB_nat (i := 1) (by decide) kk (by omega)
  have rp := fRep0 T (R := R) (k := kk) (by omega) L
  have ln := (List.getElem?_eq_some_iff.mp hn).1
  have FK : FOk R kk := ⟨by rw [hR.len]; omega, by omega, hR.lt⟩
  have v7 : 2 ^ vv ≤ 2 ^ 7 := Nat.pow_le_pow_right (by decide) b1
  let I : Nat → Envr → Sto → Prop := fun i env S => ∃ s13 s14, env = [a0, .v (frmD F), a2, a3, a4, a5, s6, s7, .v (.lst [.tup [pa, pb, sL X]]), .v (sL Y), .v (.lst [.ref n0]), .v (fold R kk), .v (.ref T.length), s13, s14, s15, s16, s17, s18, s19, s20, s21] ∧ S = T ++ [iC ((List.range (2 ^ kk)).map fun y => sumTo R i y L)]
  obtain ⟨e', S', go, s13', s14', rfl, rfl⟩ := liveE_go (g := gT (gNC (gN 13) (gNC (gN 14) gN0))) (b := sAugC (eV 12) (eMeth "Fold" "to" m_Fold_to [] (eV 11) (aCons (eV 13) aNil)) (fun i j => i + j) (eV 14)) (r := n0) D.int L I (fun i env S h => by
    obtain ⟨s13, s14, _, rfl⟩ := h
    rw [List.getElem?_append_left ln]
    exact hn) (fun i w env S hw h => by
    obtain ⟨s13, s14, rfl, rfl⟩ := h
    have li := (List.getElem?_eq_some_iff.mp hw).1
    have hi : i < 2 ^ R.length := by rw [hR.len]; omega
    have TO := to_ok (T ++ [iC ((List.range (2 ^ kk)).map fun y => sumTo R i y L)]) FK hi
    have lt : app R i < 2 ^ kk := app_lt i hR.lt
    have at_ := atI_il (xs := (List.range (2 ^ kk)).map fun y => sumTo R i y L) (i := app R i) (by simpa using lt)
    have ixn := ixN_of (n := 2 ^ kk) (j := app R i) lt
    have g : ((List.range (2 ^ kk)).map fun y => sumTo R i y L).getD (app R i) 0 = sumTo R i (app R i) L := by simp [List.getD_eq_getElem?_getD, lt]
    rw [g] at at_
    have gw : L.getD i 0 = w := by rw [List.getD_eq_getElem?_getD, hw]; rfl
    refine ⟨[a0, .v (frmD F), a2, a3, a4, a5, s6, s7, .v (.lst [.tup [pa, pb, sL X]]), .v (sL Y), .v (.lst [.ref n0]), .v (fold R kk), .v (.ref T.length), .v (nd i), .v (.int w), s15, s16, s17, s18, s19, s20, s21], [a0, .v (frmD F), a2, a3, a4, a5, s6, s7, .v (.lst [.tup [pa, pb, sL X]]), .v (sL Y), .v (.lst [.ref n0]), .v (fold R kk), .v (.ref T.length), .v (nd i), .v (.int w), s15, s16, s17, s18, s19, s20, s21], T ++ [iC ((List.range (2 ^ kk)).map fun y => sumTo R (i + 1) y L)], rfl, ?_, .v (nd i), .v (.int w), rfl, rfl⟩
    have e : (((List.range (2 ^ kk)).map fun y => sumTo R i y L).map D.int).set (app R i) (.int (sumTo R i (app R i) L + w)) = ((List.range (2 ^ kk)).map fun y => sumTo R (i + 1) y L).map D.int := by
      rw [List.map_map, set_range, List.map_map]
      refine List.map_congr_left fun y _ => ?_
      simp only [Function.comp_def]
      rw [sumTo_succ, gw]
      by_cases q : y = app R i
      · rw [if_pos q, q, if_pos rfl]
      · rw [if_neg q, if_neg (fun z => q z.symm), Int.add_zero]
    have len : (((List.range (2 ^ kk)).map fun y => sumTo R i y L).map D.int).length = 2 ^ kk := by simp
    have c0 : (T ++ [iC ((List.range (2 ^ kk)).map fun y => sumTo R i y L)])[T.length]? = some (iC ((List.range (2 ^ kk)).map fun y => sumTo R i y L)) := by simp
    have sl : ∀ c c' : Cell, (T ++ [c]).set T.length c' = T ++ [c'] := fun c c' => set_last T c c'
    unfold sAugC
    simp only [List.getElem?_cons_succ, List.getElem?_cons_zero, eMeth_eq, mGo_eq, eV_eq, bind_ok', fold_ins, ffs_to, if_true, aCons_eq, aNil_eq, List.append_nil, TO, r_val, out_ok', at_, len, ixn, c0, sl]
    rw [e]) 100001 0 [a0, .v (frmD F), a2, a3, a4, a5, s6, s7, .v (.lst [.tup [pa, pb, sL X]]), .v (sL Y), .v (.lst [.ref n0]), .v (fold R kk), .v (.ref T.length), s13, s14, s15, s16, s17, s18, s19, s20, s21] (T ++ [iC ((List.range (2 ^ kk)).map fun y => sumTo R 0 y L)]) (Nat.zero_le _) (by omega) ⟨s13, s14, rfl, rfl⟩
  rw [hL] at go
  have s1 := szB_of (n := 1) (by omega)
  refine ⟨.v (fold R kk), s13', s14', ?_⟩
  have go : forLiveE (gT (gNC (gN 13) (gNC (gN 14) gN0))) (sAugC (eV 12) (eMeth "Fold" "to" m_Fold_to [] (eV 11) (aCons (eV 13) aNil)) (fun i j => i + j) (eV 14)) n0 100001 0 [a0, .v (frmD F), a2, a3, a4, a5, s6, s7, .v (.lst [.tup [pa, pb, sL X]]), .v (sL Y), .v (.lst [.ref n0]), .v (fold R kk), .v (.ref T.length), s13, s14, s15, s16, s17, s18, s19, s20, s21] (T ++ [iC ((List.range (2 ^ kk)).map fun y => sumTo R 0 y L)]) = .nx [a0, .v (frmD F), a2, a3, a4, a5, s6, s7, .v (.lst [.tup [pa, pb, sL X]]), .v (sL Y), .v (.lst [.ref n0]), .v (fold R kk), .v (.ref T.length), s13', s14', s15, s16, s17, s18, s19, s20, s21] (T ++ [iC (totC R vv kk L)]) := go
  generalize ((List.range (2 ^ kk)).map fun y => sumTo R 0 y L) = Z0 at rp go
  generalize totC R vv kk L = TC at go ⊢
  unfold dwS
  generalize (sAugC (eV 12) (eMeth "Fold" "to" m_Fold_to [] (eV 11) (aCons (eV 13) aNil)) (fun i j => i + j) (eV 14)) = BB at go ⊢
  simp [cf, Z, pk, rp, s1]
  exact go
theorem dwB_ok (hF : FrOk F) {T : Sto} {a b : Tr} {wd : Str} (hw : wd ∈ wds) {k k2 n1 n2 : Nat} {L1 L2 : List Int} (g1 : T[n1]? = some (iC L1)) (g2 : T[n2]? = some (iC L2)) (h1 : L1.length = 2 ^ bts F (sid F sd a)) (h2 : L2.length = 2 ^ bts F (sid F sd b)) (a0 a2 a3 a4 a5 s7 s11 s12 s13 s14 s15 s16 s17 s18 s19 s20 s21 : Sl) :
    ∃ s15' s16' s17', dwB [a0, .v (frmD F), a2, a3, a4, a5, .v (.str wd), s7, .v (.lst [prt F sd a k, prt F sd b k2]), .v (sL (sid F sd (.bi wd a b))), .v (.lst [.ref n1, .ref n2]), s11, s12, s13, s14, s15, s16, s17, s18, s19, s20, s21] T = .nx [a0, .v (frmD F), a2, a3, a4, a5, .v (.str wd), s7, .v (.lst [prt F sd a k, prt F sd b k2]), .v (sL (sid F sd (.bi wd a b))), .v (.lst [.ref n1, .ref n2]), s11, .v (.ref T.length), s13, s14, s15', s16', s17', s18, s19, s20, s21] (T ++ [iC ((List.range (2 ^ bts F (sid F sd (.bi wd a b)))).map fun c => mixI wd (L1.getD (app (cutL (sid F sd (.bi wd a b)) (sid F sd a) F 0) c) 0) (L2.getD (app (cutL (sid F sd (.bi wd a b)) (sid F sd b) F 0) c) 0))]) := by
  have hs1 : ∀ p ∈ F, p.1 ∈ sid F sd a → p.1 ∈ sid F sd (.bi wd a b) := fun p _ hp => sid_bi.mpr (.inl hp)
  have hs2 : ∀ p ∈ F, p.1 ∈ sid F sd b → p.1 ∈ sid F sd (.bi wd a b) := fun p _ hp => sid_bi.mpr (.inr hp)
  have b0 := hF.le (sid F sd (.bi wd a b))
  have b1 := hF.le (sid F sd a)
  have b2 := hF.le (sid F sd b)
  have c1 := cut_fold_ok T hs1 (by omega)
  have c2 := cut_fold_ok T hs2 (by omega)
  have F1 := cut_fok hs1 (by omega : bts F (sid F sd (.bi wd a b)) ≤ 12)
  have F2 := cut_fok hs2 (by omega : bts F (sid F sd (.bi wd a b)) ≤ 12)
  have l1 : (cutL (sid F sd (.bi wd a b)) (sid F sd a) F 0).length = bts F (sid F sd (.bi wd a b)) := cutL_len
  have l2 : (cutL (sid F sd (.bi wd a b)) (sid F sd b) F 0).length = bts F (sid F sd (.bi wd a b)) := cutL_len
  have dg := digits_in_ok T F (sid F sd (.bi wd a b)) (by have := hF.len; omega)
  obtain ⟨pa, pb, pe⟩ := prt_sides F sd a k
  obtain ⟨qa, qb, qe⟩ := prt_sides F sd b k2
  rw [pe, qe]
  generalize bts F (sid F sd (.bi wd a b)) = n at *
  generalize bts F (sid F sd a) = v1 at *
  generalize bts F (sid F sd b) = v2 at *
  generalize cutL (sid F sd (.bi wd a b)) (sid F sd a) F 0 = R1 at *
  generalize cutL (sid F sd (.bi wd a b)) (sid F sd b) F 0 = R2 at *
  generalize sid F sd (.bi wd a b) = X at *
  generalize sid F sd a = X1 at *
  generalize sid F sd b = X2 at *
  have lc1 := flcG (mi := itL (eV 8)) (g := gN 21) (te := eCall m_cut_fold [] (aCons (eV 1) (aCons (eV 9) (aCons (eOp fIx (eV 21) (eC (.int 2))) aNil)))) (vs := [21]) (env := [a0, .v (frmD F), a2, a3, a4, a5, .v (.str wd), s7, .v (.lst [.tup [pa, pb, sL X1], .tup [qa, qb, sL X2]]), .v (sL X), .v (.lst [.ref n1, .ref n2]), s11, s12, s13, s14, s15, s16, s17, s18, s19, s20, s21]) (S := T) (fun y : D × D => y.1) (fun y => y.2) [(.tup [pa, pb, sL X1], fold R1 v1), (.tup [qa, qb, sL X2], fold R2 v2)] (by simp) (by simp) fun y hy => ⟨_, rfl, by
    simp only [List.mem_cons, List.not_mem_nil, or_false] at hy
    rcases hy with rfl | rfl
    · simp [c1]
    · simp [c2]⟩
  have pw := powB_nat (i := 1) (by decide) n (by omega)
  have k1000 : 2 ^ n ≤ 1000 := Nat.le_trans (Nat.pow_le_pow_right (by decide) (by omega : n ≤ 7)) (by decide : 2 ^ 7 ≤ 1000)
  have lc2 := flcG (mi := itR1 (aCons (eOp iShl (eC (.int 1)) (eV 17)) aNil)) (g := gN 19) (te := eCall m_mixed [] (aCons (eV 6) (aCons (eOp fIx (eOp fIx (eV 10) (eC (.int 0))) (eMeth "Fold" "to" m_Fold_to [] (eV 15) (aCons (eV 19) aNil))) (aCons (eOp fIx (eOp fIx (eV 10) (eC (.int 1))) (eMeth "Fold" "to" m_Fold_to [] (eV 16) (aCons (eV 19) aNil))) aNil)))) (vs := [19]) (env := [a0, .v (frmD F), a2, a3, a4, a5, .v (.str wd), s7, .v (.lst [.tup [pa, pb, sL X1], .tup [qa, qb, sL X2]]), .v (sL X), .v (.lst [.ref n1, .ref n2]), s11, s12, s13, s14, .v (fold R1 v1), .v (fold R2 v2), .v (nd n), s18, s19, s20, s21]) (S := T) (fun c : Nat => nd c) (fun c => .int (mixI wd (L1.getD (app R1 c) 0) (L2.getD (app R2 c) 0))) (List.range (2 ^ n)) (itR1_nat (by simp [pw]) (by omega)) (by simp; omega) fun c hc => by
    have hc := List.mem_range.mp hc
    have T1 := to_ok T F1 (x := c) (by rw [l1]; exact hc)
    have T2 := to_ok T F2 (x := c) (by rw [l2]; exact hc)
    have a1 := atI_il (xs := L1) (i := app R1 c) (by rw [h1]; exact app_lt c F1.lt)
    have a2 := atI_il (xs := L2) (i := app R2 c) (by rw [h2]; exact app_lt c F2.lt)
    have mx := mixed_ok T (wd_ok hw) (L1.getD (app R1 c) 0) (L2.getD (app R2 c) 0)
    refine ⟨_, rfl, ?_⟩
    simp [T1, T2, g1, g2, a1, a2, mx, -List.getD_eq_getElem?_getD]
  refine ⟨.v (fold R1 v1), .v (fold R2 v2), .v (nd n), ?_⟩
  unfold iC
  rw [List.map_map]
  have lc2' : fLc (itR1 (aCons (eOp iShl (eC (.int 1)) (eV 17)) aNil)) (gN 19) cYes (eCall m_mixed [] (aCons (eV 6) (aCons (eOp fIx (eOp fIx (eV 10) (eC (.int 0))) (eMeth "Fold" "to" m_Fold_to [] (eV 15) (aCons (eV 19) aNil))) (aCons (eOp fIx (eOp fIx (eV 10) (eC (.int 1))) (eMeth "Fold" "to" m_Fold_to [] (eV 16) (aCons (eV 19) aNil))) aNil)))) [19] [a0, .v (frmD F), a2, a3, a4, a5, .v (.str wd), s7, .v (.lst [.tup [pa, pb, sL X1], .tup [qa, qb, sL X2]]), .v (sL X), .v (.lst [.ref n1, .ref n2]), s11, s12, s13, s14, .v (fold R1 v1), .v (fold R2 v2), .v (nd n), s18, s19, s20, s21] T = .ok (.lst ((List.range (2 ^ n)).map (D.int ∘ fun c => mixI wd (L1.getD (app R1 c) 0) (L2.getD (app R2 c) 0)))) T := lc2
  generalize (List.range (2 ^ n)).map (D.int ∘ fun c => mixI wd (L1.getD (app R1 c) 0) (L2.getD (app R2 c) 0)) = TC at lc2' ⊢
  simp only [List.map_cons, List.map_nil] at lc1
  unfold dwB
  simp [lc1, dg, lc2', -fLc_eq]
abbrev dP (F : Fr) (kd : List (Key × D)) (w : Nat) (a0 a2 a3 : Sl) : Envr := [a0, .v (frmD F), a2, a3, .v (.dic kd), .v (.ref w)]
theorem rowR_prt (hk : ∀ x ∈ K, ∃ n, lookK kd (.inr x) = some (.ref n) ∧ S1[n]? = some (iC (cs x))) (M N : List (List Int)) : ∀ {t : Tr}, Trk F sd K t → ∃ n, RowR kd S1 (M ++ mad F sd cs t ++ N) (prt F sd t M.length) n (cel F sd cs t)
  | .nm x, h => by
    obtain ⟨n, e1, e2⟩ := hk x h
    exact ⟨n, .inl ⟨x, _, rfl, e1, e2⟩⟩
  | .sm x t, h => ⟨S1.length + 1 + (M.length + jn t), .inr ⟨"", M.length + jn t, _, rfl, by
    have l := mad_len (F := F) (sd := sd) (cs := cs) (t := t)
    have e : M ++ mad F sd cs (.sm x t) ++ N = (M ++ mad F sd cs t) ++ cel F sd cs (.sm x t) :: N := by simp [mad]
    have e2 : M.length + jn t = (M ++ mad F sd cs t).length := by rw [List.length_append, l]
    rw [e, e2, List.getElem?_append_right (Nat.le_refl _), Nat.sub_self]
    rfl, rfl⟩⟩
  | .bi wd a b, h => ⟨S1.length + 1 + (M.length + jn a + jn b), .inr ⟨"", M.length + jn a + jn b, _, rfl, by
    have l1 := mad_len (F := F) (sd := sd) (cs := cs) (t := a)
    have l2 := mad_len (F := F) (sd := sd) (cs := cs) (t := b)
    have e : M ++ mad F sd cs (.bi wd a b) ++ N = (M ++ mad F sd cs a ++ mad F sd cs b) ++ cel F sd cs (.bi wd a b) :: N := by simp [mad]
    have e2 : M.length + jn a + jn b = (M ++ mad F sd cs a ++ mad F sd cs b).length := by rw [List.length_append, List.length_append, l1, l2]
    rw [e, e2, List.getElem?_append_right (Nat.le_refl _), Nat.sub_self]
    rfl, rfl⟩⟩
theorem app_one (hl : M.length ≤ 1000) {c : List Int} {env : Envr} (h5 : env[5]? = some (.v (.ref S1.length))) (h12 : env[12]? = some (.v (.ref (stM S1 M).length))) : sAppC 5 (eV 12) env (stM S1 M ++ [iC c]) = .nx env (stM S1 (M ++ [c])) := by
  have sz := szB_of (n := M.length + 1) (by omega)
  have hw := stM_w S1 M
  have hw2 : (stM S1 M ++ [iC c])[S1.length]? = some (.lst (rfs (S1.length + 1) M.length)) := by
    rw [List.getElem?_append_left (by rw [stM_len]; omega)]
    exact hw
  have sn := stM_snoc S1 M c
  simp only [sAppC_eq, eV_eq, h5, h12, out_ok', hw2, rfs_len, sz, if_true, sn]
theorem body_sm (hF : FrOk F) (W : Wok F sd cs K) {t : Tr} {x : Str} (ht : Trk F sd K t) {k n0 : Nat} (hr : RowR kd S1 M (prt F sd t k) n0 (cel F sd cs t)) (hl : M.length ≤ 1000) (a0 a2 a3 s10 s11 s12 s13 s14 s15 s16 s17 s18 s19 s20 s21 : Sl) :
    ∃ T, T.length = 16 ∧ dwBody (dE F kd S1.length a0 a2 a3 (.v (.str "sum")) (.v (.str x)) (.v (.lst [prt F sd t k])) (.v (sL (sid F sd (.sm x t)))) s10 s11 s12 s13 s14 s15 s16 s17 s18 s19 s20 s21) (stM S1 M) = .nx (dP F kd S1.length a0 a2 a3 ++ T) (stM S1 (M ++ [cel F sd cs (.sm x t)])) := by
  have R := crowR_ok (pc := [(prt F sd t k, n0, cel F sd cs t)]) (fun y hy => by rw [List.mem_singleton.mp hy]; exact hr) (by simp) a0 a2 a3 (.v (.str "sum")) (.v (.str x)) (.v (sL (sid F sd (.sm x t)))) s10 s11 s12 s13 s14 s15 s16 s17 s18 s19 s20 s21 (F := F)
  obtain ⟨s11', s13', s14', B⟩ := dwS_ok (sd := sd) hF (x := x) (k := k) hr.at_ (cel_len W ht) a0 a2 a3 (.v (.dic kd)) (.v (.ref S1.length)) (.v (.str "sum")) (.v (.str x)) s11 s12 s13 s14 s15 s16 s17 s18 s19 s20 s21
  have e2 := fEq_str (stM S1 M) sok_sum sok_sum
  refine ⟨[.v (.str "sum"), .v (.str x), .v (.lst [prt F sd t k]), .v (sL (sid F sd (.sm x t))), .v (.lst [.ref n0]), s11', .v (.ref (stM S1 M).length), s13', s14', s15, s16, s17, s18, s19, s20, s21], rfl, ?_⟩
  have ec : cel F sd cs (.sm x t) = totC (cutL (sid F sd t) (sid F sd (.sm x t)) F 0) (bts F (sid F sd t)) (bts F (sid F sd (.sm x t))) (cel F sd cs t) := rfl
  rw [← ec] at B
  have A := app_one (S1 := S1) (M := M) hl (c := cel F sd cs (.sm x t)) (env := [a0, .v (frmD F), a2, a3, .v (.dic kd), .v (.ref S1.length), .v (.str "sum"), .v (.str x), .v (.lst [prt F sd t k]), .v (sL (sid F sd (.sm x t))), .v (.lst [.ref n0]), s11', .v (.ref (stM S1 M).length), s13', s14', s15, s16, s17, s18, s19, s20, s21]) rfl rfl
  simp only [List.map_cons, List.map_nil] at R
  generalize cel F sd cs (.sm x t) = C at *
  generalize cel F sd cs t = C0 at *
  unfold dwBody
  simp [R, e2, -sAppC_eq]
  rw [B]
  exact A
theorem body_bi (hF : FrOk F) (W : Wok F sd cs K) {a b : Tr} {wd : Str} (hwd : wd ∈ wds) (ha : Trk F sd K a) (hb : Trk F sd K b) {k k2 n1 n2 : Nat} (hr : RowR kd S1 M (prt F sd a k) n1 (cel F sd cs a)) (hr2 : RowR kd S1 M (prt F sd b k2) n2 (cel F sd cs b)) (hl : M.length ≤ 1000) (a0 a2 a3 s10 s11 s12 s13 s14 s15 s16 s17 s18 s19 s20 s21 : Sl) :
    ∃ T, T.length = 16 ∧ dwBody (dE F kd S1.length a0 a2 a3 (.v (.str wd)) (.v (.str "")) (.v (.lst [prt F sd a k, prt F sd b k2])) (.v (sL (sid F sd (.bi wd a b)))) s10 s11 s12 s13 s14 s15 s16 s17 s18 s19 s20 s21) (stM S1 M) = .nx (dP F kd S1.length a0 a2 a3 ++ T) (stM S1 (M ++ [cel F sd cs (.bi wd a b)])) := by
  have R := crowR_ok (pc := [(prt F sd a k, n1, cel F sd cs a), (prt F sd b k2, n2, cel F sd cs b)]) (fun y hy => by
    simp only [List.mem_cons, List.not_mem_nil, or_false] at hy
    rcases hy with rfl | rfl
    · exact hr
    · exact hr2) (by simp) a0 a2 a3 (.v (.str wd)) (.v (.str "")) (.v (sL (sid F sd (.bi wd a b)))) s10 s11 s12 s13 s14 s15 s16 s17 s18 s19 s20 s21 (F := F)
  obtain ⟨s15', s16', s17', B⟩ := dwB_ok (sd := sd) hF hwd (k := k) (k2 := k2) hr.at_ hr2.at_ (cel_len W ha) (cel_len W hb) a0 a2 a3 (.v (.dic kd)) (.v (.ref S1.length)) (.v (.str "")) s11 s12 s13 s14 s15 s16 s17 s18 s19 s20 s21
  have e2 : fEq (stM S1 M) (.str wd) (.str "sum") = some (.bl false) := by rw [fEq_str _ (wd_ok hwd) sok_sum, decide_eq_false (wd_name hwd).2]
  refine ⟨[.v (.str wd), .v (.str ""), .v (.lst [prt F sd a k, prt F sd b k2]), .v (sL (sid F sd (.bi wd a b))), .v (.lst [.ref n1, .ref n2]), s11, .v (.ref (stM S1 M).length), s13, s14, s15', s16', s17', s18, s19, s20, s21], rfl, ?_⟩
  have ec : cel F sd cs (.bi wd a b) = (List.range (2 ^ bts F (sid F sd (.bi wd a b)))).map fun c => mixI wd ((cel F sd cs a).getD (app (cutL (sid F sd (.bi wd a b)) (sid F sd a) F 0) c) 0) ((cel F sd cs b).getD (app (cutL (sid F sd (.bi wd a b)) (sid F sd b) F 0) c) 0) := rfl
  rw [← ec] at B
  have A := app_one (S1 := S1) (M := M) hl (c := cel F sd cs (.bi wd a b)) (env := [a0, .v (frmD F), a2, a3, .v (.dic kd), .v (.ref S1.length), .v (.str wd), .v (.str ""), .v (.lst [prt F sd a k, prt F sd b k2]), .v (sL (sid F sd (.bi wd a b))), .v (.lst [.ref n1, .ref n2]), s11, .v (.ref (stM S1 M).length), s13, s14, s15', s16', s17', s18, s19, s20, s21]) rfl rfl
  simp only [List.map_cons, List.map_nil] at R
  generalize cel F sd cs (.bi wd a b) = C at *
  generalize cel F sd cs a = C0 at *
  generalize cel F sd cs b = C1 at *
  unfold dwBody
  simp [R, e2, -sAppC_eq]
  rw [B]
  exact A
theorem cells_go (hF : FrOk F) (W : Wok F sd cs K) {r : Nat} (hrl : r < S1.length) (hk : ∀ x ∈ K, ∃ n, lookK kd (.inr x) = some (.ref n) ∧ S1[n]? = some (iC (cs x))) (a0 a2 a3 : Sl) : ∀ {t : Tr} (ht : Trk F sd K t) (M : List (List Int)) (Pre Post : List D) (m : Nat) (T : List Sl), T.length = 16 → M.length = Pre.length → S1[r]? = some (.lst (Pre ++ knL F sd t Pre.length ++ Post)) → M.length + jn t ≤ 1000 →
    ∃ T', T'.length = 16 ∧ forLive cwG dwBody r (m + jn t) Pre.length (dP F kd S1.length a0 a2 a3 ++ T) (stM S1 M) = forLive cwG dwBody r m (Pre.length + jn t) (dP F kd S1.length a0 a2 a3 ++ T') (stM S1 (M ++ mad F sd cs t))
  | .nm x, ht, M, Pre, Post, m, T, hT, hM, hr, hl => ⟨T, hT, by
    have e : M ++ mad F sd cs (.nm x) = M := List.append_nil _
    rw [e]
    rfl⟩
  | .sm x t, ht, M, Pre, Post, m, T, hT, hM, hr, hl => by
    have hl2 : M.length + jn t + 1 ≤ 1000 := hl
    let d : D := .tup [.str "sum", .str x, .lst [prt F sd t Pre.length], sL (sid F sd (.sm x t))]
    have hr2 : S1[r]? = some (.lst (Pre ++ knL F sd t Pre.length ++ ([d] ++ Post))) := by
      rw [hr]
      simp [knL, d]
    obtain ⟨T1, hT1, e1⟩ := cells_go hF W hrl hk a0 a2 a3 ht.1 M Pre ([d] ++ Post) (m + 1) T hT hM hr2 (by omega)
    obtain ⟨s6, s7, s8, s9, s10, s11, s12, s13, s14, s15, s16, s17, s18, s19, s20, s21, rfl⟩ := len16 hT1
    obtain ⟨n0, ro⟩ := rowR_prt (F := F) (sd := sd) (cs := cs) hk M [] ht.1
    rw [List.append_nil, hM] at ro
    have lm : (M ++ mad F sd cs t).length = M.length + jn t := by rw [List.length_append, mad_len]
    obtain ⟨T2, hT2, e2⟩ := body_sm (kd := kd) hF W (x := x) ht.1 ro (by omega) a0 a2 a3 s10 s11 s12 s13 s14 s15 s16 s17 s18 s19 s20 s21
    have hr3 : (stM S1 (M ++ mad F sd cs t))[r]? = some (.lst ((Pre ++ knL F sd t Pre.length) ++ [d] ++ Post)) := by
      rw [stM_old hrl, hr2]
      simp
    have ls := live_step (m := m) hr3 (i := Pre.length + jn t) (by rw [List.length_append, knL_len]) (g := cwG) (b := dwBody) (env := dP F kd S1.length a0 a2 a3 ++ [s6, s7, s8, s9, s10, s11, s12, s13, s14, s15, s16, s17, s18, s19, s20, s21]) rfl e2
    refine ⟨T2, hT2, ?_⟩
    have em : m + jn (.sm x t) = m + 1 + jn t := by simp only [jn]; omega
    rw [em, e1, ls]
    have e3 : M ++ mad F sd cs t ++ [cel F sd cs (.sm x t)] = M ++ mad F sd cs (.sm x t) := by simp [mad]
    rw [e3]
    rfl
  | .bi wd a b, ht, M, Pre, Post, m, T, hT, hM, hr, hl => by
    obtain ⟨hwd, ta, tb⟩ := ht
    have hl2 : M.length + (jn a + jn b + 1) ≤ 1000 := hl
    let d : D := .tup [.str wd, .str "", .lst [prt F sd a Pre.length, prt F sd b (Pre.length + jn a)], sL (sid F sd (.bi wd a b))]
    have hr2 : S1[r]? = some (.lst (Pre ++ knL F sd a Pre.length ++ (knL F sd b (Pre.length + jn a) ++ [d] ++ Post))) := by
      rw [hr]
      simp [knL, d]
    obtain ⟨T1, hT1, e1⟩ := cells_go hF W hrl hk a0 a2 a3 ta M Pre (knL F sd b (Pre.length + jn a) ++ [d] ++ Post) (m + 1 + jn b) T hT hM hr2 (by omega)
    have lm : (M ++ mad F sd cs a).length = M.length + jn a := by rw [List.length_append, mad_len]
    have lp : (Pre ++ knL F sd a Pre.length).length = Pre.length + jn a := by rw [List.length_append, knL_len]
    have hr3 : S1[r]? = some (.lst ((Pre ++ knL F sd a Pre.length) ++ knL F sd b (Pre ++ knL F sd a Pre.length).length ++ ([d] ++ Post))) := by
      rw [hr2, lp]
      simp
    obtain ⟨T2, hT2, e2⟩ := cells_go hF W hrl hk a0 a2 a3 tb (M ++ mad F sd cs a) (Pre ++ knL F sd a Pre.length) ([d] ++ Post) (m + 1) T1 hT1 (by rw [lm, lp, hM]) hr3 (by rw [lm]; omega)
    rw [lp] at e2
    obtain ⟨s6, s7, s8, s9, s10, s11, s12, s13, s14, s15, s16, s17, s18, s19, s20, s21, rfl⟩ := len16 hT2
    obtain ⟨n1, ro1⟩ := rowR_prt (F := F) (sd := sd) (cs := cs) hk M (mad F sd cs b) ta
    rw [hM] at ro1
    obtain ⟨n2, ro2⟩ := rowR_prt (F := F) (sd := sd) (cs := cs) hk (M ++ mad F sd cs a) [] tb
    rw [List.append_nil, lm, hM] at ro2
    have lm2 : (M ++ mad F sd cs a ++ mad F sd cs b).length = M.length + jn a + jn b := by rw [List.length_append, lm, mad_len]
    obtain ⟨T3, hT3, e3⟩ := body_bi (kd := kd) hF W hwd ta tb ro1 ro2 (by omega) a0 a2 a3 s10 s11 s12 s13 s14 s15 s16 s17 s18 s19 s20 s21
    have hr4 : (stM S1 (M ++ mad F sd cs a ++ mad F sd cs b))[r]? = some (.lst ((Pre ++ knL F sd a Pre.length ++ knL F sd b (Pre.length + jn a)) ++ [d] ++ Post)) := by
      rw [stM_old hrl, hr2]
      simp
    have ls := live_step (m := m) hr4 (i := Pre.length + jn a + jn b) (by rw [List.length_append, lp, knL_len]) (g := cwG) (b := dwBody) (env := dP F kd S1.length a0 a2 a3 ++ [s6, s7, s8, s9, s10, s11, s12, s13, s14, s15, s16, s17, s18, s19, s20, s21]) rfl e3
    refine ⟨T3, hT3, ?_⟩
    have em : m + jn (.bi wd a b) = m + 1 + jn b + jn a := by simp only [jn]; omega
    rw [em, e1, e2, ls]
    have e4 : M ++ mad F sd cs a ++ mad F sd cs b ++ [cel F sd cs (.bi wd a b)] = M ++ mad F sd cs (.bi wd a b) := by simp [mad]
    have e5 : Pre.length + jn a + jn b + 1 = Pre.length + jn (.bi wd a b) := by simp only [jn]; omega
    rw [e4, e5]
end
end K51
namespace Fb
open PySem L2 Mm Gf
def frN : List Str := ["row", "col", "a", "rows", "colu"]
theorem frN_nd : frN.Nodup := by decide +kernel
theorem frN_ok : ∀ x ∈ frN, nameB x = true ∧ PyData.strOk x = true ∧ x.cps.size ≤ 100000 ∧ ¬ ("box" : Str) = x ∧ ¬ ("lane" : Str) = x := by decide +kernel
theorem mem_le_sum : ∀ {F : Fr} {p : Str × Nat}, p ∈ F → p.2 ≤ (F.map (·.2)).sum
  | q :: F, p, h => by
    rw [List.map_cons, List.sum_cons]
    rcases List.mem_cons.mp h with rfl | h
    · omega
    · have := mem_le_sum h
      omega
theorem frok_of {F : Fr} (h1 : (nms F).Nodup) (h2 : ∀ x ∈ nms F, x ∈ frN) (h3 : F.length ≤ 100) (h4 : (F.map (·.2)).sum ≤ 7) : FrOk F := ⟨h1, h3, fun y hy => (frN_ok y (h2 y hy)).2.1, h4, by
  have c12 : ∀ p ∈ F, p.2 ≤ 12 := fun p hp => by
    have : p.2 ≤ (F.map (·.2)).sum := mem_le_sum hp
    omega
  have a1 : (nms F).all nameB = true := List.all_eq_true.mpr fun x hx => (frN_ok x (h2 x hx)).1
  have a3 : ("box" : Str) ∉ nms F := fun z => (frN_ok _ (h2 _ z)).2.2.2.1 rfl
  have a4 : ("lane" : Str) ∉ nms F := fun z => (frN_ok _ (h2 _ z)).2.2.2.2 rfl
  have a5 : F.all (fun p => decide (p.2 ≤ 12)) = true := List.all_eq_true.mpr fun p hp => decide_eq_true (c12 p hp)
  have a6 : (F.map (·.2)).sum ≤ 12 := by omega
  unfold sideB
  rw [a1, a5, decide_eq_true h1, decide_eq_false a3, decide_eq_false a4, decide_eq_true a6]
  rfl, fun p hp => (frN_ok _ (h2 _ (mem_nms hp))).2.2.1⟩
section
variable {R : Sto} {b : Cell}
theorem frame_lc {N : List Str} (hN : N.length = 5) (k : Nat) (hk : k ≤ 4) (hb : Bx b) (s4 s5 : Sl) : ∃ b' cs, lcR (gN 3) cYes (eTup (aCons (eOp fIx (eV 1) (eV 3)) (aCons (eCall m__law_take [] (aCons (eV 0) (aCons (eC (.int 3)) aNil))) aNil))) [.v (.ref 0), .v (.lst (N.map D.str)), .no, .no, s4, s5] (nl (List.range k)) (b :: R) = .ok ((N.zip cs).map dS) (b' :: R) ∧ Bx b' ∧ cs.length = k ∧ ∀ c ∈ cs, c ≤ 2 := by
  obtain ⟨zs, S', e, I⟩ := lcR_inv (I := fun ds ys S => ∃ b' cs, S = b' :: R ∧ Bx b' ∧ ys = (N.zip cs).map dS ∧ ds = nl (List.range' cs.length (k - cs.length)) ∧ cs.length ≤ k ∧ ∀ c ∈ cs, c ≤ 2)
    (g := gN 3) (te := eTup (aCons (eOp fIx (eV 1) (eV 3)) (aCons (eCall m__law_take [] (aCons (eV 0) (aCons (eC (.int 3)) aNil))) aNil))) (env := [.v (.ref 0), .v (.lst (N.map D.str)), .no, .no, s4, s5]) (fun d ds ys S h => by
      obtain ⟨b1, cs, rfl, hb1, rfl, hd, hl, hc⟩ := h
      have lt : cs.length < k := by
        rcases Nat.lt_or_ge cs.length k with q | q
        · exact q
        · rw [Nat.sub_eq_zero_of_le q] at hd
          simp at hd
      have e1 : k - cs.length = (k - (cs.length + 1)) + 1 := by omega
      rw [e1, List.range'_succ, nl_cons] at hd
      obtain ⟨rfl, rfl⟩ := List.cons.inj hd
      obtain ⟨b2, c, t, hb2, lc⟩ := takeKR (R := R) hb1 3 3 rfl (by decide) (by decide)
      have hN2 : cs.length < N.length := by omega
      have two := szB_of (n := 2) (by omega)
      have ix : fIx (b1 :: R) (.lst (N.map D.str)) (.int (cs.length : Int)) = some (.str N[cs.length]) := by
        rw [fIx_lst]
        rw [Mm.atI_nat, List.getElem?_map, List.getElem?_eq_getElem hN2]
        rfl
      refine ⟨[.v (.ref 0), .v (.lst (N.map D.str)), .no, .v (nd cs.length), s4, s5], rfl, dS (N[cs.length], c), b2 :: R, by simp [ix, t, two, dS], b2, cs ++ [c], rfl, hb2, ?_, by simp, by simp; omega, fun x hx => ?_⟩
      · have : N.zip (cs ++ [c]) = N.zip cs ++ [(N[cs.length], c)] := zip_snoc hN2
        rw [this, List.map_append]
        rfl
      · rcases List.mem_append.mp hx with q | q
        · exact hc x q
        · have : x = c := by simpa using q
          omega) (nl (List.range k)) [] (b :: R) ⟨b, [], rfl, hb, by simp, by simp [List.range_eq_range'], by simp, by simp⟩
  obtain ⟨b', cs, rfl, hb', hz, hd, hl, hc⟩ := I
  have lk : cs.length = k := by
    rcases Nat.lt_or_ge cs.length k with q | q
    · have e1 : k - cs.length = (k - (cs.length + 1)) + 1 := by omega
      rw [e1, List.range'_succ] at hd
      simp at hd
    · omega
  rw [List.nil_append] at hz
  exact ⟨b', cs, by rw [e, hz], hb', lk, hc⟩
theorem law_frame_ok2 (hb : Bx b) : ∃ b' F, m__law_frame [.ref 0] (b :: R) = .ok (.val (frmD F)) (b' :: R) ∧ Bx b' ∧ FrOk F ∧ (F.map (·.2)).sum ≤ 5 ∧ F.length ≤ 3 ∧ F ≠ [] ∧ ∀ x ∈ nms F, x ∈ frN := by
  obtain ⟨b1, ys, s1, hb1, p⟩ := shuffledDR (R := R) hb (frN.map D.str) (by decide)
  obtain ⟨N, rfl, pN⟩ := permF unS (fun _ => rfl) p
  have nN : N.Nodup := pN.nodup_iff.mpr frN_nd
  have mN : ∀ x ∈ N, x ∈ frN := fun x hx => pN.mem_iff.mp hx
  have lN : N.length = 5 := pN.length_eq
  obtain ⟨b2, k, t2, hb2, l2⟩ := takeKR (R := R) hb1 3 3 rfl (by decide) (by decide)
  obtain ⟨b3, cs, lc, hb3, lcs, hc⟩ := frame_lc (R := R) lN (1 + k) (by omega) hb2 .no .no
  have z5 := szB_of (n := 5) (by omega)
  have zk := szB_of (n := min 5 (1 + k)) (by omega)
  have sh : m__law_shuffled [.ref 0, .lst [.str "row", .str "col", .str "a", .str "rows", .str "colu"]] (b :: R) = .ok (.own (.lst (N.map D.str))) (b1 :: R) := s1
  have it : itR1 (aCons (eOp dAdd (eC (.int 1)) (eCall m__law_take [] (aCons (eV 0) (aCons (eC (.int 3)) aNil)))) aNil) [.v (.ref 0), .v (.lst (N.map D.str)), .no, .no, .no, .no] (b1 :: R) = .ok (nl (List.range (1 + k))) (b2 :: R) := by
    have rg : rgB ((1 : Int) + (k : Int)) = true := by
      have := rgB_nat (n := 1 + k) (by omega)
      simpa using this
    have e : ((1 : Int) + (k : Int)).toNat = 1 + k := by omega
    simp [t2, rg, e, rng0]
  have nz : nms (N.zip cs) = N.take cs.length := zip_nms N cs (by omega)
  have sz : (N.zip cs).map (·.2) = cs := zip_snd N cs (by omega)
  have nd1 : (nms (N.zip cs)).Nodup := by rw [nz]; exact nN.sublist (List.take_sublist _ _)
  have mm : ∀ x ∈ nms (N.zip cs), x ∈ frN := by rw [nz]; exact fun x hx => mN x (List.mem_of_mem_take hx)
  have ln : (N.zip cs).length = 1 + k := by rw [List.length_zip]; omega
  have fl : fLc (itR1 (aCons (eOp dAdd (eC (.int 1)) (eCall m__law_take [] (aCons (eV 0) (aCons (eC (.int 3)) aNil)))) aNil)) (gN 3) cYes (eTup (aCons (eOp fIx (eV 1) (eV 3)) (aCons (eCall m__law_take [] (aCons (eV 0) (aCons (eC (.int 3)) aNil))) aNil))) [3] [.v (.ref 0), .v (.lst (N.map D.str)), .no, .no, .no, .no] (b1 :: R) = .ok (.lst ((N.zip cs).map dS)) (b3 :: R) := by
    rw [fLc_eq, it, bind_ok']
    have w : wipeE [.v (.ref 0), .v (.lst (N.map D.str)), .no, .no, .no, .no] [3] = [.v (.ref 0), .v (.lst (N.map D.str)), .no, .no, .no, .no] := rfl
    rw [w, lc, bind_ok', fin_eq, if_pos (szB_of (by rw [List.length_map]; omega))]
  generalize hF : N.zip cs = F at *
  have sl := flcG (mi := itL (eV 2)) (te := eV 5) (g := gT (gNC (gN 4) (gNC (gN 5) gN0))) (vs := [4, 5]) (env := [.v (.ref 0), .v (.lst (N.map D.str)), .v (frmD F), .no, .no, .no]) (S := b3 :: R) dS (fun p => .int (p.2 : Int)) F (by simp) (by omega) fun p hp => ⟨[.v (.ref 0), .v (.lst (N.map D.str)), .v (frmD F), .no, .v (.str p.1), .v (nd p.2)], rfl, rfl⟩
  have fs := fSum_l (b3 :: R) (F.map fun p => (p.2 : Int)) (by simp; omega)
  have e : (F.map fun p => (p.2 : Int)).map D.int = F.map fun p => D.int (p.2 : Int) := by rw [List.map_map]; rfl
  have e2 : (F.map fun p => (p.2 : Int)).sum = ((F.map (·.2)).sum : Nat) := by
    rw [← sum_cast, List.map_map]
    rfl
  rw [e, e2] at fs
  by_cases h6 : (F.map (·.2)).sum < 6
  · have h6' : (((F.map (·.2)).sum : Nat) : Int) < 6 := by omega
    refine ⟨b3, F, ?_, hb3, frok_of nd1 mm (by omega) (by omega), by omega, by omega, fun z => by rw [z] at ln; simp at ln; omega, mm⟩
    unfold m__law_frame
    simp [sh, z5, fl, sl, fs, h6', -fLc_eq, -List.map_map]
  · have h6' : ¬ (((F.map (·.2)).sum : Nat) : Int) < 6 := by omega
    have two : ((F.take 2).map (·.2)).sum ≤ 4 := by
      rw [List.map_take, sz]
      match cs, hc with
      | [], _ => simp
      | [a], hc => simp; have := hc a (by simp); omega
      | a :: b :: r, hc => simp; have := hc a (by simp); have := hc b (by simp); omega
    have nt : nms (F.take 2) = (nms F).take 2 := List.map_take
    refine ⟨b3, F.take 2, ?_, hb3, frok_of (by rw [nt]; exact nd1.sublist (List.take_sublist _ _)) (by rw [nt]; exact fun x hx => mm x (List.mem_of_mem_take hx)) (by simp; omega) (by omega), by omega, by simp; omega, fun z => by
      have := congrArg List.length z
      simp at this
      rw [this] at ln
      simp at ln
      omega, by rw [nt]; exact fun x hx => mm x (List.mem_of_mem_take hx)⟩
    unfold m__law_frame
    simp [sh, z5, fl, sl, fs, h6', -fLc_eq, -List.map_map]
    exact cut_loA (F.map dS) 2
theorem law_frame_ok (hb : Bx b) : ∃ b' F, m__law_frame [.ref 0] (b :: R) = .ok (.val (frmD F)) (b' :: R) ∧ Bx b' ∧ FrOk F ∧ (F.map (·.2)).sum ≤ 5 ∧ F.length ≤ 3 ∧ F ≠ [] := by
  obtain ⟨b', F, h1, h2, h3, h4, h5, h6, _⟩ := law_frame_ok2 (R := R) hb
  exact ⟨b', F, h1, h2, h3, h4, h5, h6⟩
end
end Fb
namespace Fb
open PySem L2 Mm Gf
theorem sub_ord {N s : List Str} (hn : N.Nodup) (h : s.Sublist N) : N.filter (fun x => decide (x ∈ s)) = s := by
  induction h with
  | slnil => rfl
  | cons a h ih =>
    obtain ⟨na, hn⟩ := List.nodup_cons.mp hn
    rw [List.filter_cons_of_neg (by simpa using fun z => na (h.subset z))]
    exact ih hn
  | cons_cons a h ih =>
    rename_i l1 l2
    obtain ⟨na, hn⟩ := List.nodup_cons.mp hn
    rw [List.filter_cons_of_pos (by simp)]
    congr 1
    rw [← ih hn]
    refine List.filter_congr fun x hx => decide_eq_decide.mpr ?_
    rw [ih hn]
    constructor
    · intro z
      exact (List.mem_cons.mp z).resolve_left fun e => na (e ▸ hx)
    · exact List.mem_cons_of_mem _
section
variable {R : Sto} {b : Cell}
theorem some_lc (a1 : Sl) : ∀ (F : Fr) {b : Cell}, Bx b → ∃ (b' : Cell) (ys : List Str), lcR (gT (gNC (gN 2) (gNC (gN 3) gN0))) (cB (eOp iGt (eCall m__law_take [] (aCons (eV 0) (aCons (eC (.int 3)) aNil))) (eC (.int 0)))) (eV 2) [.v (.ref 0), a1, .no, .no] (F.map dS) (b :: R) = .ok (ys.map D.str) (b' :: R) ∧ Bx b' ∧ ys.Sublist (nms F)
  | [], b, hb => ⟨b, [], rfl, hb, .slnil⟩
  | p :: F, b, hb => by
    obtain ⟨b1, r, t, hb1, hr⟩ := takeKR (R := R) hb 3 3 rfl (by decide) (by decide)
    obtain ⟨b2, ys, e, hb2, sl⟩ := some_lc a1 F hb1
    have g1 : gT (gNC (gN 2) (gNC (gN 3) gN0)) (dS p) [.v (.ref 0), a1, .no, .no] = some [.v (.ref 0), a1, .v (.str p.1), .v (nd p.2)] := rfl
    have tt : (cB (eOp iGt (eCall m__law_take [] (aCons (eV 0) (aCons (eC (.int 3)) aNil))) (eC (.int 0)))) [.v (.ref 0), a1, .v (.str p.1), .v (nd p.2)] (b :: R) = .ok (decide (0 < r)) (b1 :: R) := by
      have e0 : decide ((0 : Int) < (r : Int)) = decide (0 < r) := decide_eq_decide.mpr (by omega)
      simp [t, e0]
    rw [List.map_cons, lcR, g1]
    simp only [tt]
    by_cases h0 : 0 < r
    · refine ⟨b2, p.1 :: ys, ?_, hb2, sl.cons_cons _⟩
      simp only [h0, decide_true]
      simp [e]
    · refine ⟨b2, ys, ?_, hb2, sl.cons _⟩
      simp only [h0, decide_false]
      exact e
theorem some_sides_ok (F : Fr) (hz : F.length ≤ 1000) (hb : Bx b) : ∃ (b' : Cell) (ys : List Str), m__law_some_sides [.ref 0, frmD F] (b :: R) = .ok (.own (.lst (ys.map D.str))) (b' :: R) ∧ Bx b' ∧ ys.Sublist (nms F) := by
  obtain ⟨b1, ys, e, hb1, sl⟩ := some_lc (R := R) (.v (frmD F)) F hb
  have lz : ys.length ≤ 1000 := Nat.le_trans sl.length_le (by simpa using hz)
  have sz := szB_of (n := ys.length) (by omega)
  have w : wipeE [.v (.ref 0), .v (frmD F), .no, .no] [2, 3] = [.v (.ref 0), .v (frmD F), .no, .no] := rfl
  refine ⟨b1, ys, ?_, hb1, sl⟩
  simp [m__law_some_sides, w, e, sz]
abbrev knD (K : List Str) (sd : Str → List Str) (ln : Str → List Nat) (cs : Str → List Int) : List (Key × D) := K.map fun x => (.inr x, .tup [sL (sd x), .tup (nl (ln x)), .tup ((cs x).map D.int)])
structure Kn1 (F : Fr) (deep : Nat) (K : List Str) (sd : Str → List Str) (ln : Str → List Nat) (cs : Str → List Int) : Prop where
  nod : K.Nodup
  sub : ∀ x ∈ K, (sd x).Sublist (nms F)
  lin : ∀ x ∈ K, Lin deep (bts F (sd x)) (ln x)
  len : ∀ x ∈ K, (cs x).length = 2 ^ bts F (sd x)
  sml : ∀ x ∈ K, ∀ z ∈ cs x, z.natAbs ≤ 1000000000
noncomputable def ltB : MS := sSeq (sAsg (eCall m__law_some_sides [] (aCons (eV 0) (aCons (eV 1) aNil))) (gN 6))
    (sSeq (sAsg (eCall m__law_count_in [] (aCons (eV 1) (aCons (eV 6) aNil))) (gN 7))
    (sDPutA 4 (eV 5) (eTup (aCons (eV 6) (aCons (eCall m__law_lines [] (aCons (eV 0) (aCons (eV 2) (aCons (eV 7) aNil)))) (aCons (eCall m__law_cells [] (aCons (eV 0) (aCons (eV 7) aNil))) aNil))))))
theorem put_new {ks : List (Key × D)} {x : Str} {d : D} (h : lookK ks (.inr x) = none) : putD ks (.inr x) d = ks ++ [((.inr x : Key), d)] := by
  unfold putD
  rw [lookK_any, h]
  rfl
theorem look_none (f : Str → D) : ∀ (ws : List Str) (x : Str), x ∉ ws → lookK (ws.map fun x => ((.inr x : Key), f x)) (.inr x) = none
  | [], x, _ => rfl
  | w :: ws, x, h => by
    unfold lookK
    rw [List.map_cons, List.find?_cons]
    have ne : decide ((Sum.inr w : Key) = Sum.inr x) = false := decide_eq_false fun q => by cases q; exact h List.mem_cons_self
    simp only [ne]
    exact look_none f ws x fun z => h (List.mem_cons_of_mem _ z)
theorem tables_go {F : Fr} {deep : Nat} (hd : deep ≤ 12) (hs : (F.map (·.2)).sum ≤ deep) (hz : F.length ≤ 1000) : ∀ (ns K : List Str) (sd : Str → List Str) (ln : Str → List Nat) (cs : Str → List Int) {b : Cell} (s3 s5 s6 s7 : Sl), Bx b → Kn1 F deep K sd ln cs → (K ++ ns).Nodup → K.length + ns.length ≤ 60 →
    ∃ b' sd' ln' cs' s5' s6' s7', forL (gN 5) ltB (ns.map D.str) [.v (.ref 0), .v (frmD F), .v (nd deep), s3, .o (.dic (knD K sd ln cs)), s5, s6, s7] (b :: R) = .nx [.v (.ref 0), .v (frmD F), .v (nd deep), s3, .o (.dic (knD (K ++ ns) sd' ln' cs')), s5', s6', s7'] (b' :: R) ∧ Bx b' ∧ Kn1 F deep (K ++ ns) sd' ln' cs'
  | [], K, sd, ln, cs, b, s3, s5, s6, s7, hb, hK, _, _ => ⟨b, sd, ln, cs, s5, s6, s7, by simp [forL], hb, by simpa using hK⟩
  | x :: ns, K, sd, ln, cs, b, s3, s5, s6, s7, hb, hK, hn, hl => by
    obtain ⟨b1, ys, e1, hb1, sl⟩ := some_sides_ok (R := R) F hz hb
    have ct := count_in_ok (b1 :: R) F ys hz
    have le : bts F ys ≤ deep := Nat.le_trans (bts_le_sum ys F) hs
    obtain ⟨b2, ls, e2, hb2, hL⟩ := lines_okR (R := R) hb1 hd le
    obtain ⟨b3, c, e3, hb3, hc, hsm⟩ := cells_ok (R := R) hb2 (v := bts F ys) (by omega) _ rfl
    have nx : x ∉ K := fun z => by
      have := (List.nodup_append.mp hn).2.2 x z x List.mem_cons_self
      exact this rfl
    let sd2 : Str → List Str := fun y => if y = x then ys else sd y
    let ln2 : Str → List Nat := fun y => if y = x then ls else ln y
    let cs2 : Str → List Int := fun y => if y = x then c else cs y
    have ke : knD (K ++ [x]) sd2 ln2 cs2 = knD K sd ln cs ++ [((.inr x : Key), .tup [sL ys, .tup (nl ls), .tup (c.map D.int)])] := by
      unfold knD
      rw [List.map_append]
      congr 1
      · refine List.map_congr_left fun y hy => ?_
        have ne : y ≠ x := fun e => nx (e ▸ hy)
        simp only [sd2, ln2, cs2, if_neg ne]
      · simp [sd2, ln2, cs2]
    have K2 : Kn1 F deep (K ++ [x]) sd2 ln2 cs2 := by
      have spl : ∀ y ∈ K ++ [x], (y ∈ K ∧ y ≠ x) ∨ y = x := fun y hy => by
        rcases List.mem_append.mp hy with h | h
        · exact .inl ⟨h, fun e => nx (e ▸ h)⟩
        · exact .inr (List.mem_singleton.mp h)
      refine ⟨?_, fun y hy => ?_, fun y hy => ?_, fun y hy => ?_, fun y hy => ?_⟩
      · have : (K ++ [x]).Sublist (K ++ x :: ns) := by simp
        exact hn.sublist this
      · rcases spl y hy with ⟨h, ne⟩ | rfl
        · simp only [sd2, if_neg ne]
          exact hK.sub y h
        · simp only [sd2, if_pos rfl]
          exact sl
      · rcases spl y hy with ⟨h, ne⟩ | rfl
        · simp only [sd2, ln2, if_neg ne]
          exact hK.lin y h
        · simp only [sd2, ln2, if_pos rfl]
          exact hL
      · rcases spl y hy with ⟨h, ne⟩ | rfl
        · simp only [sd2, cs2, if_neg ne]
          exact hK.len y h
        · simp only [sd2, cs2, if_pos rfl]
          exact hc
      · rcases spl y hy with ⟨h, ne⟩ | rfl
        · simp only [cs2, if_neg ne]
          exact hK.sml y h
        · simp only [cs2, if_pos rfl]
          exact fun z hz => Nat.le_trans (hsm z hz) (by decide)
    have sz := szB_of (n := K.length + 1) (by omega)
    have sz3 := szB_of (n := 3) (by omega)
    have pn := put_new (ks := knD K sd ln cs) (d := .tup [sL ys, .tup (nl ls), .tup (c.map D.int)]) (look_none (fun x => .tup [sL (sd x), .tup (nl (ln x)), .tup ((cs x).map D.int)]) K x nx)
    rw [← ke] at pn
    obtain ⟨b4, sd', ln', cs', s5', s6', s7', e4, hb4, hK4⟩ := tables_go hd hs hz ns (K ++ [x]) sd2 ln2 cs2 s3 (.v (.str x)) (.v (sL ys)) (.v (nd (bts F ys))) hb3 K2 (by simpa using hn) (by simp; simp at hl; omega)
    have st : ltB [.v (.ref 0), .v (frmD F), .v (nd deep), s3, .o (.dic (knD K sd ln cs)), .v (.str x), s6, s7] (b :: R) = .nx [.v (.ref 0), .v (frmD F), .v (nd deep), s3, .o (.dic (knD (K ++ [x]) sd2 ln2 cs2)), .v (.str x), .v (sL ys), .v (nd (bts F ys))] (b3 :: R) := by
      have lk : (knD K sd ln cs).length = K.length := List.length_map _
      generalize knD (K ++ [x]) sd2 ln2 cs2 = KK at pn
      generalize hkk : knD K sd ln cs = K0 at *
      unfold ltB
      simp [e1, ct, e2, e3, sz, sz3, hasA, lk, pn]
    have e5 : K ++ [x] ++ ns = K ++ x :: ns := by simp
    rw [e5] at e4 hK4
    refine ⟨b4, sd', ln', cs', s5', s6', s7', ?_, hb4, hK4⟩
    rw [List.map_cons]
    unfold forL
    have g1 : gN 5 (.str x) [.v (.ref 0), .v (frmD F), .v (nd deep), s3, .o (.dic (knD K sd ln cs)), s5, s6, s7] = some [.v (.ref 0), .v (frmD F), .v (nd deep), s3, .o (.dic (knD K sd ln cs)), .v (.str x), s6, s7] := rfl
    rw [g1]
    simp only []
    rw [st]
    exact e4
def tabN : List Str := ["a", "ab", "box", "row", "lane"]
theorem tabN_nd : tabN.Nodup := by decide +kernel
theorem law_tables_ok {F : Fr} {deep count : Nat} (hd : deep ≤ 12) (hs : (F.map (·.2)).sum ≤ deep) (hz : F.length ≤ 1000) (hb : Bx b) (D0 : Int) (eD : D0 = (deep : Int)) (C0 : Int) (eC0 : C0 = (count : Int)) :
    ∃ b' sd ln cs, m__law_tables [.ref 0, frmD F, .int D0, .int C0] (b :: R) = .ok (.own (.dic (knD (tabN.take count) sd ln cs))) (b' :: R) ∧ Bx b' ∧ Kn1 F deep (tabN.take count) sd ln cs := by
  subst eD eC0
  obtain ⟨b1, sd, ln, cs, s5, s6, s7, e, hb1, hK⟩ := tables_go (R := R) hd hs hz (tabN.take count) [] (fun _ => []) (fun _ => []) (fun _ => []) (.v (nd count)) .no .no .no hb ⟨.nil, fun x h => by simp at h, fun x h => by simp at h, fun x h => by simp at h, fun x h => by simp at h⟩ (by simpa using tabN_nd.sublist (List.take_sublist _ _)) (by simp [tabN]; omega)
  simp only [List.nil_append] at e hK
  refine ⟨b1, sd, ln, cs, ?_, hb1, hK⟩
  have e' : forL (gN 5) (sSeq (sAsg (eCall m__law_some_sides [] (aCons (eV 0) (aCons (eV 1) aNil))) (gN 6))
    (sSeq (sAsg (eCall m__law_count_in [] (aCons (eV 1) (aCons (eV 6) aNil))) (gN 7))
    (sDPutA 4 (eV 5) (eTup (aCons (eV 6) (aCons (eCall m__law_lines [] (aCons (eV 0) (aCons (eV 2) (aCons (eV 7) aNil)))) (aCons (eCall m__law_cells [] (aCons (eV 0) (aCons (eV 7) aNil))) aNil))))))) ((tabN.take count).map D.str) [.v (.ref 0), .v (frmD F), .v (nd deep), .v (nd count), .o (.dic []), .no, .no, .no] (b :: R) = .nx [.v (.ref 0), .v (frmD F), .v (nd deep), .v (nd count), .o (.dic (knD (tabN.take count) sd ln cs)), s5, s6, s7] (b1 :: R) := e
  have z5 := szB_of (n := 5) (by omega)
  have ct : cutD [.str "a", .str "ab", .str "box", .str "row", .str "lane"] none (some (count : Int)) = (tabN.take count).map D.str := by
    rw [List.map_take]
    exact cut_loA _ count
  have d0 : fDic0 [.v (.ref 0), .v (frmD F), .v (nd deep), .v (nd count), .no, .no, .no, .no] (b :: R) = .ok (.dic []) (b :: R) := rfl
  unfold m__law_tables
  simp [d0, z5, ct, -List.map_take]
  rw [e']
  simp
end
end Fb
namespace Fb
open PySem L2 Mm Gf
theorem txts_map (f : Str → D) : ∀ ws : List Str, txtsK (ws.map fun x => ((.inr x : Key), f x)) = some ws
  | [] => rfl
  | w :: ws => by
    rw [List.map_cons]
    unfold txtsK
    rw [txts_map f ws]
    rfl
theorem sorted_kn (S : Sto) (f : Str → D) (K : List Str) (h : K.length < 64) : fSortedD S [.dic (K.map fun x => (.inr x, f x))] = some (.lst ((srtX K).map D.str)) := by
  show ((some (K.map fun x => ((.inr x : Key), f x))).bind fun ks => (txtsK ks).bind fun xs => if xs.length < 64 then some (Cell.lst ((srtX xs).map D.str)) else none) = _
  simp only [Option.bind_some]
  rw [txts_map, Option.bind_some, if_pos h]
section
variable {R : Sto} {F : Fr} {deep : Nat} {K : List Str} {sd : Str → List Str} {ln : Str → List Nat} {cs : Str → List Int}
noncomputable def ltrB : MS := sSeq (sAsg (eDGetA 1 (eV 3)) (gT (gNC (gN 4) (gNC (gN 5) (gNC (gN 6) gN0)))))
    (sApp 2 (eTup (aCons (eV 3) (aCons (eCall m__law_shuffled [] (aCons (eV 0) (aCons (eV 4) aNil))) (aCons (mFrz (fCB fListOf (aCons (eV 6) aNil))) aNil)))))
theorem sidesP (s : List Str) (hl : s.length ≤ 1000) {b : Cell} (hb : Bx b) : ∃ (b' : Cell) (s' : List Str), m__law_shuffled [.ref 0, sL s] (b :: R) = .ok (.own (.lst (s'.map D.str))) (b' :: R) ∧ Bx b' ∧ s'.Perm s := by
  obtain ⟨b1, ys, s1, hb1, p⟩ := shuffledDR (R := R) hb (s.map D.str) (by simpa using hl)
  obtain ⟨N, rfl, pN⟩ := permF unS (fun _ => rfl) p
  exact ⟨b1, N, s1, hb1, pN⟩
theorem triples_go (hK : Kn1 F deep K sd ln cs) (hz : F.length ≤ 100) : ∀ (ns K2 : List Str) (sd2 : Str → List Str) {b : Cell} (s3 s4 s5 s6 : Sl), Bx b → (∀ x ∈ ns, x ∈ K) → (K2 ++ ns).Nodup → K2.length + ns.length ≤ 1000 → (∀ x ∈ K2, (sd2 x).Perm (sd x)) →
    ∃ (b' : Cell) (sd' : Str → List Str) (s3' s4' s5' s6' : Sl), forL (gN 3) ltrB (ns.map D.str) [.v (.ref 0), .v (.dic (knD K sd ln cs)), .o (.lst (K2.map fun x => .tup [.str x, sL (sd2 x), iL (cs x)])), s3, s4, s5, s6] (b :: R) = .nx [.v (.ref 0), .v (.dic (knD K sd ln cs)), .o (.lst ((K2 ++ ns).map fun x => .tup [.str x, sL (sd' x), iL (cs x)])), s3', s4', s5', s6'] (b' :: R) ∧ Bx b' ∧ ∀ x ∈ K2 ++ ns, (sd' x).Perm (sd x)
  | [], K2, sd2, b, s3, s4, s5, s6, hb, _, _, _, hp => ⟨b, sd2, s3, s4, s5, s6, by simp [forL], hb, by simpa using hp⟩
  | x :: ns, K2, sd2, b, s3, s4, s5, s6, hb, hs, hn, hl, hp => by
    have hx := hs x List.mem_cons_self
    have lsd : (sd x).length ≤ 1000 := Nat.le_trans (hK.sub x hx).length_le (by simp; omega)
    obtain ⟨b1, s', e1, hb1, p1⟩ := sidesP (R := R) (sd x) lsd hb
    have nx : x ∉ K2 := fun z => (List.nodup_append.mp hn).2.2 x z x List.mem_cons_self rfl
    let sd3 : Str → List Str := fun y => if y = x then s' else sd2 y
    have lk := look_map (fun x => .tup [sL (sd x), .tup (nl (ln x)), .tup ((cs x).map D.int)]) K x hx
    have ke : (K2 ++ [x]).map (fun x => D.tup [.str x, sL (sd3 x), iL (cs x)]) = K2.map (fun x => .tup [.str x, sL (sd2 x), iL (cs x)]) ++ [.tup [.str x, sL s', iL (cs x)]] := by
      rw [List.map_append]
      congr 1
      · refine List.map_congr_left fun y hy => ?_
        have ne : y ≠ x := fun e => nx (e ▸ hy)
        simp only [sd3, if_neg ne]
      · simp [sd3]
    obtain ⟨b2, sd', s3', s4', s5', s6', e2, hb2, hp2⟩ := triples_go hK hz ns (K2 ++ [x]) sd3 (.v (.str x)) (.v (sL (sd x))) (.v (.tup (nl (ln x)))) (.v (.tup ((cs x).map D.int))) hb1 (fun y hy => hs y (List.mem_cons_of_mem _ hy)) (by simpa using hn) (by simp; simp at hl; omega) fun y hy => by
      rcases List.mem_append.mp hy with h | h
      · have ne : y ≠ x := fun e => nx (e ▸ h)
        simp only [sd3, if_neg ne]
        exact hp y h
      · have e := List.mem_singleton.mp h
        subst e
        simp only [sd3, if_pos rfl]
        exact p1
    have sz := szB_of (n := K2.length + 1) (by simp at hl; omega)
    have sz3 := szB_of (n := 3) (by omega)
    have st : ltrB [.v (.ref 0), .v (.dic (knD K sd ln cs)), .o (.lst (K2.map fun x => .tup [.str x, sL (sd2 x), iL (cs x)])), .v (.str x), s4, s5, s6] (b :: R) = .nx [.v (.ref 0), .v (.dic (knD K sd ln cs)), .o (.lst ((K2 ++ [x]).map fun x => .tup [.str x, sL (sd3 x), iL (cs x)])), .v (.str x), .v (sL (sd x)), .v (.tup (nl (ln x))), .v (.tup ((cs x).map D.int))] (b1 :: R) := by
      rw [ke]
      generalize hkk : knD K sd ln cs = K0 at *
      have lk' : lookK K0 (.inr x) = some (.tup [sL (sd x), .tup (nl (ln x)), .tup ((cs x).map D.int)]) := by rw [← hkk]; exact lk
      unfold ltrB
      simp [hasA, dicA, dicOf, lk', e1, sz, sz3, Cell.d]
    have e5 : K2 ++ [x] ++ ns = K2 ++ x :: ns := by simp
    rw [e5] at e2 hp2
    refine ⟨b2, sd', s3', s4', s5', s6', ?_, hb2, hp2⟩
    rw [List.map_cons]
    unfold forL
    have g1 : gN 3 (.str x) [.v (.ref 0), .v (.dic (knD K sd ln cs)), .o (.lst (K2.map fun x => .tup [.str x, sL (sd2 x), iL (cs x)])), s3, s4, s5, s6] = some [.v (.ref 0), .v (.dic (knD K sd ln cs)), .o (.lst (K2.map fun x => .tup [.str x, sL (sd2 x), iL (cs x)])), .v (.str x), s4, s5, s6] := rfl
    rw [g1]
    simp only []
    rw [st]
    exact e2
theorem law_triples_ok (hK : Kn1 F deep K sd ln cs) (hz : F.length ≤ 100) (hk : K.length < 64) {b : Cell} (hb : Bx b) : ∃ (b' : Cell) (K' : List Str) (sd' : Str → List Str), m__law_triples [.ref 0, .dic (knD K sd ln cs)] (b :: R) = .ok (.own (.lst (K'.map fun x => .tup [.str x, sL (sd' x), iL (cs x)]))) (b' :: R) ∧ Bx b' ∧ K'.Perm K ∧ ∀ x ∈ K, (sd' x).Perm (sd x) := by
  have so := sorted_kn (b :: R) (fun x => .tup [sL (sd x), .tup (nl (ln x)), .tup ((cs x).map D.int)]) K hk
  obtain ⟨b1, K', e1, hb1, p1⟩ := sidesP (R := R) (srtX K) (by rw [(srtX_perm K).length_eq]; omega) hb
  have pK : K'.Perm K := p1.trans (srtX_perm K)
  have lK := pK.length_eq
  obtain ⟨b2, sd', s3, s4, s5, s6, e2, hb2, hp⟩ := triples_go (R := R) hK hz K' [] (fun _ => []) .no .no .no .no hb1 (fun x hx => pK.mem_iff.mp hx) (by simpa using pK.nodup_iff.mpr hK.nod) (by simp; omega) (fun x h => by simp at h)
  simp only [List.nil_append, List.map_nil] at e2 hp
  have e2' : forL (gN 3) (sSeq (sAsg (eDGetA 1 (eV 3)) (gT (gNC (gN 4) (gNC (gN 5) (gNC (gN 6) gN0)))))
    (sApp 2 (eTup (aCons (eV 3) (aCons (eCall m__law_shuffled [] (aCons (eV 0) (aCons (eV 4) aNil))) (aCons (mFrz (fCB fListOf (aCons (eV 6) aNil))) aNil)))))) (K'.map D.str) [.v (.ref 0), .v (.dic (knD K sd ln cs)), .o (.lst []), .no, .no, .no, .no] (b1 :: R) = .nx [.v (.ref 0), .v (.dic (knD K sd ln cs)), .o (.lst (K'.map fun x => .tup [.str x, sL (sd' x), iL (cs x)])), s3, s4, s5, s6] (b2 :: R) := e2
  refine ⟨b2, K', sd', ?_, hb2, pK, fun x hx => hp x (pK.mem_iff.mpr hx)⟩
  have s0 := szB_of (n := 0) (by omega)
  generalize (K'.map fun x => D.tup [.str x, sL (sd' x), iL (cs x)]) = TT at e2' ⊢
  have tx : txtsK (knD K sd ln cs) = some K := txts_map _ K
  generalize hkk : knD K sd ln cs = K0 at *
  unfold m__law_triples
  simp [s0, tx, hk, e1, Cell.d]
  rw [e2']
  simp
theorem law_sides_of_ok (hF : FrOk F) (hK : Kn1 F deep K sd ln cs) (S : Sto) : ∀ {t : Tr} {n : Nat}, Trk F sd K t → dp t < n → ∃ r, m__law_sides_of n [t.d, frmD F, .dic (knD K sd ln cs)] S = .ok r S ∧ r.d = sL (sid F sd t)
  | .nm x, n + 1, ht, hd => by
    have lk := look_map (fun x => .tup [sL (sd x), .tup (nl (ln x)), .tup ((cs x).map D.int)]) K x ht
    have e1 := fEq_str S sok_name sok_name
    have so : sid F sd (.nm x) = sd x := sub_ord hF.nod (hK.sub x ht)
    refine ⟨.val (sL (sd x)), ?_, by rw [so]; rfl⟩
    generalize hkk : knD K sd ln cs = K0 at *
    have lk' : lookK K0 (.inr x) = some (.tup [sL (sd x), .tup (nl (ln x)), .tup ((cs x).map D.int)]) := by rw [← hkk]; exact lk
    have e0 : (Tr.nm x).d = .tup [.str "name", .str x] := rfl
    rw [e0]
    unfold m__law_sides_of
    simp [e1, hasA, dicA, dicOf, lk']
  | .sm x t, n + 1, ht, hd => by
    obtain ⟨r, ih, rd⟩ := law_sides_of_ok hF hK S (t := t) (n := n) ht.1 (by simp [dp] at hd; omega)
    have e1 : fEq S (.str "sum") (.str "name") = some (.bl false) := fEq_str S sok_sum sok_name
    have e2 := fEq_str S sok_sum sok_sum
    have sl := sid_len F sd t
    have fl := hF.len
    have e0 : (Tr.sm x t).d = .tup [.str "sum", .str x, t.d] := rfl
    have lc := flcQ (mi := itL (eCall (m__law_sides_of n) [] (aCons (eOp fIx (eV 0) (eC (.int 2))) (aCons (eV 1) (aCons (eV 2) aNil))))) (g := gN 4) (tt := cB (eOp fNe (eV 4) (eOp fIx (eV 0) (eC (.int 1))))) (te := eV 4) (vs := [4])
      (env := [.v (.tup [.str "sum", .str x, t.d]), .v (frmD F), .v (.dic (knD K sd ln cs)), .no, .no, .no, .no]) (S := S) D.str D.str (fun y => decide (y ≠ x)) (sid F sd t) (by simp [ih, rd]) (by omega) fun y hy => ⟨[.v (.tup [.str "sum", .str x, t.d]), .v (frmD F), .v (.dic (knD K sd ln cs)), .no, .v (.str y), .no, .no], rfl, by
        have := fNe_str S (hF.sok y (sid_sub hy)) (hF.sok x (sid_sub ht.2))
        simp [this], fun _ => by simp⟩
    refine ⟨.own (.lst ((sid F sd (.sm x t)).map D.str)), ?_, rfl⟩
    have sl2 : Cell.lst (((sid F sd t).filter fun y => decide (y ≠ x)).map D.str) = .lst ((sid F sd (.sm x t)).map D.str) := rfl
    rw [sl2] at lc
    rw [e0]
    generalize hkk : knD K sd ln cs = K0 at *
    unfold m__law_sides_of
    simp [e1, e2, lc, -fLc_eq]
  | .bi w a b, n + 1, ht, hd => by
    obtain ⟨hw, ta, tb⟩ := ht
    obtain ⟨r1, ih1, rd1⟩ := law_sides_of_ok hF hK S (t := a) (n := n) ta (by simp [dp] at hd; omega)
    obtain ⟨r2, ih2, rd2⟩ := law_sides_of_ok hF hK S (t := b) (n := n) tb (by simp [dp] at hd; omega)
    have e1 : fEq S (.str w) (.str "name") = some (.bl false) := by rw [fEq_str S (wd_ok hw) sok_name, decide_eq_false (wd_name hw).1]
    have e2 : fEq S (.str w) (.str "sum") = some (.bl false) := by rw [fEq_str S (wd_ok hw) sok_sum, decide_eq_false (wd_name hw).2]
    have s1 := sid_len F sd a
    have s2 := sid_len F sd b
    have fl := hF.len
    have e0 : (Tr.bi w a b).d = .tup [.str w, a.d, b.d] := rfl
    have sz := szB_of (n := (sid F sd a).length + (sid F sd b).length) (by omega)
    have lc := flcQ (mi := itL (eV 1)) (g := gT (gNC (gN 5) (gNC (gN 6) gN0))) (tt := cB (eOp (fInX false) (eV 5) (eV 3))) (te := eV 5) (vs := [5, 6])
      (env := [.v (.tup [.str w, a.d, b.d]), .v (frmD F), .v (.dic (knD K sd ln cs)), .v (.lst ((sid F sd a).map D.str ++ (sid F sd b).map D.str)), .no, .no, .no]) (S := S) dS (fun p => .str p.1) (fun p => decide (p.1 ∈ sid F sd a ++ sid F sd b)) F (by simp) (by omega) fun p hp => ⟨[.v (.tup [.str w, a.d, b.d]), .v (frmD F), .v (.dic (knD K sd ln cs)), .v (.lst ((sid F sd a).map D.str ++ (sid F sd b).map D.str)), .no, .v (.str p.1), .v (nd p.2)], rfl, by
        have := fInX_strs S false p.1 (sid F sd a ++ sid F sd b)
        rw [List.map_append] at this
        simp [this], fun _ => by simp⟩
    refine ⟨.own (.lst ((sid F sd (.bi w a b)).map D.str)), ?_, rfl⟩
    have sl2 : (F.filter fun p => decide (p.1 ∈ sid F sd a ++ sid F sd b)).map (fun p => D.str p.1) = (sid F sd (.bi w a b)).map D.str := by
      show _ = (ordF F (sid F sd a ++ sid F sd b)).map D.str
      unfold ordF nms
      rw [List.filter_map, List.map_map]
      rfl
    rw [sl2] at lc
    rw [e0]
    generalize hkk : knD K sd ln cs = K0 at *
    unfold m__law_sides_of
    simp [e1, e2, ih1, rd1, ih2, rd2, sz, lc, -fLc_eq]
theorem law_tree_ok (hF : FrOk F) (hK : Kn1 F deep K sd ln cs) (hk0 : K ≠ []) (hk : K.length < 64) : ∀ (n d : Nat) {b : Cell}, Bx b → d < n → d ≤ 11 → ∃ (b' : Cell) (t : Tr), m__law_tree n [.ref 0, frmD F, .dic (knD K sd ln cs), .int (d : Int)] (b :: R) = .ok (.val t.d) (b' :: R) ∧ Bx b' ∧ Trk F sd K t ∧ dp t ≤ d
  | n + 1, d, b, hb, hd, h11 => by
    have tx : txtsK (knD K sd ln cs) = some K := txts_map _ K
    obtain ⟨b1, w, t1, hb1, hw⟩ := takeKR (R := R) hb 5 5 rfl (by decide) (by decide)
    have sK : (srtX K).length = K.length := (srtX_perm K).length_eq
    have sz2 := szB_of (n := 2) (by omega)
    have sz3 := szB_of (n := 3) (by omega)
    have sz4 := szB_of (n := 4) (by omega)
    by_cases h0 : d = 0 ∨ w = 0
    · obtain ⟨b2, z, t2, hb2, hz⟩ := ofLR (R := R) hb1 ((srtX K).map D.str) (fun z => hk0 (by
        have : (srtX K).length = 0 := by
          have := congrArg List.length z
          simpa using this
        exact List.eq_nil_of_length_eq_zero (by omega))) (by simp; omega)
      obtain ⟨x, hx, rfl⟩ := List.mem_map.mp hz
      refine ⟨b2, .nm x, ?_, hb2, (srtX_perm K).mem_iff.mp hx, Nat.zero_le _⟩
      generalize hkk : knD K sd ln cs = K0 at *
      have tz : m__law_of [.ref 0, Cell.d (.lst ((srtX K).map D.str))] (b1 :: R) = .ok (.val (.str x)) (b2 :: R) := t2
      unfold m__law_tree
      rcases h0 with rfl | rfl
      · simp [t1, tx, hk, t2, sz2, Tr.d, Cell.d]
      · by_cases hd0 : (d : Int) = 0 <;> simp [t1, hd0, tx, hk, t2, sz2, Tr.d, Cell.d]
    · have hd0 : d ≠ 0 := fun z => h0 (.inl z)
      have hw0 : w ≠ 0 := fun z => h0 (.inr z)
      obtain ⟨d, rfl⟩ : ∃ e, d = e + 1 := ⟨d - 1, by omega⟩
      obtain ⟨b2, t, t2, hb2, ht, hdt⟩ := law_tree_ok hF hK hk0 hk n d hb1 (by omega) (by omega)
      have d1 : ((d : Int) + 1 - 1) = (d : Int) := by omega
      have nd0 : ¬ ((d : Int) + 1 = 0) := by omega
      have nw0 : ¬ ((w : Int) = 0) := by omega
      by_cases hw1 : w = 1
      · subst hw1
        obtain ⟨r, so, rd⟩ := law_sides_of_ok hF hK (b2 :: R) (t := t) (n := 12) ht (by omega)
        have ne := fNe_strs (b2 :: R) (sid F sd t) fun x hx => hF.sok x (sid_sub hx)
        have s0 := szB_of (n := 0) (by omega)
        by_cases hs : sid F sd t = []
        · refine ⟨b2, t, ?_, hb2, ht, by omega⟩
          rw [decide_eq_true hs] at ne
          generalize hkk : knD K sd ln cs = K0 at *
          unfold m__law_tree
          simp [t1, nd0, d1, t2, so, rd, ne, s0]
        · obtain ⟨b3, z, t3, hb3, hz⟩ := ofLR (R := R) hb2 ((sid F sd t).map D.str) (by simpa using hs) (by have := sid_len F sd t; have := hF.len; simp; omega)
          obtain ⟨x, hx, rfl⟩ := List.mem_map.mp hz
          refine ⟨b3, .sm x t, ?_, hb3, ⟨ht, hx⟩, by simp [dp]; omega⟩
          rw [decide_eq_false hs] at ne
          generalize hkk : knD K sd ln cs = K0 at *
          unfold m__law_tree
          simp [t1, nd0, d1, t2, so, rd, ne, s0, t3, sz3, Tr.d]
      · have nw1 : ¬ ((w : Int) = 1) := by omega
        obtain ⟨b3, z, t3, hb3, hz⟩ := ofLR (R := R) hb2 (wds.map D.str) (by simp [wds]) (by simp [wds])
        obtain ⟨wd, hwd, rfl⟩ := List.mem_map.mp hz
        obtain ⟨b4, k, t4, hb4, hk4⟩ := takeKR (R := R) hb3 2 2 rfl (by decide) (by decide)
        obtain ⟨b5, t', t5, hb5, ht', hdt'⟩ := law_tree_ok hF hK hk0 hk n (d - k) hb4 (by omega) (by omega)
        have mx : (if ((d : Int) - (k : Int)) > 0 then ((d : Int) - (k : Int)) else 0) = ((d - k : Nat) : Int) := by split <;> omega
        have mx2 : (if 0 < ((d : Int) - (k : Int)) then ((d : Int) - (k : Int)) else 0) = ((d - k : Nat) : Int) := mx
        have mx3 : (if k < d then ((d : Int) - (k : Int)) else 0) = ((d - k : Nat) : Int) := by split <;> omega
        refine ⟨b5, .bi wd t t', ?_, hb5, ⟨hwd, ht, ht'⟩, by simp [dp]; omega⟩
        have t3' : m__law_of [.ref 0, .lst [.str "plus", .str "less", .str "least", .str "most"]] (b2 :: R) = .ok (.val (.str wd)) (b3 :: R) := t3
        generalize hkk : knD K sd ln cs = K0 at *
        unfold m__law_tree
        simp [t1, nd0, nw0, nw1, hw0, hw1, d1, t2, t3', sz4, sz3, t4, mx, mx2, mx3, t5, Tr.d]
end
end Fb
namespace Fb
open PySem L2 Mm Gf
section
variable {F : Fr} {deep : Nat} {K K' : List Str} {sd sd' : Str → List Str} {ln : Str → List Nat} {cs : Str → List Int}
theorem sid_move (hp : ∀ x ∈ K, (sd' x).Perm (sd x)) : ∀ {t : Tr}, Trk F sd K t → sid F sd' t = sid F sd t
  | .nm x, h => ordF_congr fun y _ => (hp x h).mem_iff
  | .sm x t, h => by
    show (sid F sd' t).filter _ = (sid F sd t).filter _
    rw [sid_move hp h.1]
  | .bi w a b, h => by
    show ordF F (sid F sd' a ++ sid F sd' b) = ordF F (sid F sd a ++ sid F sd b)
    rw [sid_move hp h.2.1, sid_move hp h.2.2]
theorem trk_move (hK : K'.Perm K) (hp : ∀ x ∈ K, (sd' x).Perm (sd x)) : ∀ {t : Tr}, Trk F sd K t → Trk F sd' K' t
  | .nm x, h => hK.mem_iff.mpr h
  | .sm x t, h => ⟨trk_move hK hp h.1, by rw [sid_move hp h.1]; exact h.2⟩
  | .bi w a b, h => ⟨h.1, trk_move hK hp h.2.1, trk_move hK hp h.2.2⟩
theorem wok_move (hF : FrOk F) (h : Kn1 F deep K sd ln cs) (hK : K'.Perm K) (hp : ∀ x ∈ K, (sd' x).Perm (sd x)) : Wok F sd' cs K' := ⟨hF.nod, fun x hx => by
  have hx := hK.mem_iff.mp hx
  rw [h.len x hx]
  congr 1
  exact bts_congr fun p _ => (hp x hx).mem_iff.symm⟩
theorem jn_lt : ∀ t : Tr, jn t + 1 ≤ 2 ^ dp t
  | .nm x => by simp [jn, dp]
  | .sm x t => by
    have := jn_lt t
    show jn t + 1 + 1 ≤ 2 ^ (dp t + 1)
    rw [Nat.pow_succ]
    omega
  | .bi w a b => by
    have h1 := jn_lt a
    have h2 := jn_lt b
    show jn a + jn b + 1 + 1 ≤ 2 ^ (max (dp a) (dp b) + 1)
    have e1 : 2 ^ dp a ≤ 2 ^ max (dp a) (dp b) := Nat.pow_le_pow_right (by decide) (by omega)
    have e2 : 2 ^ dp b ≤ 2 ^ max (dp a) (dp b) := Nat.pow_le_pow_right (by decide) (by omega)
    rw [Nat.pow_succ]
    omega
theorem jn_le {t : Tr} (h : dp t ≤ 9) : jn t ≤ 900 := by
  have h1 := jn_lt t
  have h2 : 2 ^ dp t ≤ 2 ^ 9 := Nat.pow_le_pow_right (by decide) h
  have : (2 : Nat) ^ 9 = 512 := by decide
  omega
structure Wv (F : Fr) (deep : Nat) (K K' : List Str) (sd sd' : Str → List Str) (ln : Str → List Nat) (cs : Str → List Int) : Prop where
  fr : FrOk F
  kn : Kn1 F deep K sd ln cs
  pm : K'.Perm K
  ps : ∀ x ∈ K, (sd' x).Perm (sd x)
  few : K.length < 64
variable (V : Wv F deep K K' sd sd' ln cs)
include V
theorem Wv.wok : Wok F sd' cs K' := wok_move V.fr V.kn V.pm V.ps
theorem Wv.trk {t : Tr} (h : Trk F sd K t) : Trk F sd' K' t := trk_move V.pm V.ps h
theorem Wv.sid {t : Tr} (h : Trk F sd K t) : sid F sd' t = sid F sd t := sid_move V.ps h
theorem Wv.nod : K'.Nodup := V.pm.nodup_iff.mpr V.kn.nod
theorem Wv.short {t : Tr} (ht : Trk F sd K t) : (cel F sd' cs t).length ≤ 128 := by
  rw [cel_len V.wok (V.trk ht)]
  exact Nat.le_trans (Nat.pow_le_pow_right (by decide) (V.fr.le _)) (by decide : 2 ^ 7 ≤ 128)
theorem Wv.law {t : Tr} {n : Nat} (ht : Trk F sd K t) (hd : dp t < n) (S : Sto) : ∃ r, m__law_sides_of n [t.d, frmD F, .dic (knD K sd ln cs)] S = .ok r S ∧ r.d = sL (Fb.sid F sd t) := law_sides_of_ok V.fr V.kn S ht hd
end
end Fb
namespace Fb
open PySem L2 Mm Gf
def er (F : Fr) (sd : Str → List Str) (K : List Str) : Tr → Option (Bool × Str)
  | .nm x => if x ∈ K then none else some (false, x)
  | .sm x t => match er F sd K t with
    | some e => some e
    | none => if x ∈ sid F sd t then none else some (true, x)
  | .bi _ a b => match er F sd K a with
    | some e => some e
    | none => er F sd K b
end Fb
namespace Fb
open PySem L2 Mm Gf
section
variable {T : List Tok} {a e : Nat}
theorem rt_mfn {n : Nat} {m : MS} {ds : List D} {S S' : Sto} {r : Ret} (h : m (startE n ds) S = .rt r S') : mFn n m ds S = .ok r S' := by rw [mFn_eq, h]
end
end Fb
namespace Fb
open PySem L2 Mm Gf
def sgnOf (w : Str) : Str := if w = "plus" then "+" else if w = "less" then "-" else if w = "least" then "<" else ">"
def isAt : Tr → Bool
  | .bi _ _ _ => false
  | _ => true
def brk (t : Tr) (z : Str) : Str := if isAt t = true then z else "(" ++ z ++ ")"
end Fb
namespace Fb
open PySem L2 Mm Gf
def opw (W : List Str) : Nat := (W.filter fun x => decide (x = ("(" : Str))).length
def brkW (t : Tr) (W : List Str) : List Str := if isAt t = true then W else ("(" : Str) :: (W ++ [(")" : Str)])
def wdT : Tr → List Str
  | .nm x => [x]
  | .sm x t => brkW t (wdT t) ++ [("/" : Str), x]
  | .bi w a b => wdT a ++ sgnOf w :: brkW b (wdT b)
end Fb
namespace Fb
open PySem L2 Mm Gf
def pw (t : Tr) : Nat := opw (brkW t (wdT t))
end Fb
namespace Fb
open PySem L2 Mm Gf
structure We where
  F : Fr
  m : Nat
  l : Nat
  of : List (List Nat)
  K : List Str
  sd : Str → List Str
  ln : Str → List Nat
  cs : Str → List Int
def oF (W : We) (s : Nat) : List Nat := W.of.getD s []
def lyF (W : We) (s : Nat) (ys : List Str) : List Nat := (oF W s).map (app (cutL (nms W.F) ys W.F 0))
end Fb
namespace Fb
open PySem L2 Mm Gf
theorem nr_strs : ∀ ys : List Str, noRefL (ys.map D.str) = true
  | [] => rfl
  | y :: ys => by
    show (noRef (.str y) && noRefL (ys.map D.str)) = true
    rw [nr_strs ys]
    rfl
end Fb
namespace Fb
open PySem L2 Mm Gf
theorem bts_cons (p : Str × Nat) (F : Fr) (ys : List Str) : bts (p :: F) ys = (if p.1 ∈ ys then p.2 else 0) + bts F ys := by
  conv => lhs; unfold bts
  split <;> omega
end Fb
namespace Fb
open PySem L2 Mm Gf
def lay (d : Nat) (C : List Int) (M : List Nat) : List Int := (List.range (2 ^ d)).map fun k => C.getD (app M k) 0
theorem atI_ints {c : List Int} {k : Nat} (h : k < c.length) : atI (c.map D.int) ((k : Nat) : Int) = some (.int (c.getD k 0)) := by
  rw [Mm.atI_nat, List.getElem?_map, List.getElem?_eq_getElem h, List.getD_eq_getElem?_getD, List.getElem?_eq_getElem h]
  rfl
end Fb
namespace Fb
open PySem L2 Mm Gf
def gr (W : We) (s : Nat) (t : Tr) : List Int := lay (W.m + W.l) (cel W.F W.sd W.cs t) (lyF W s (sid W.F W.sd t))
end Fb
namespace Fb
open PySem L2 Mm Gf
theorem shlN (S : Sto) {a b : Nat} (ha : a ≤ 9223372036854775808) (hb : b ≤ 1000) : iShl S (nd a) (nd b) = some (nd (a * 2 ^ b)) := by
  show iShl S (.int (a : Int)) (.int (b : Int)) = _
  rw [iShl_eq, if_pos (powB_nat (by omega) b (by omega))]
  have : (b : Int).toNat = b := by omega
  rw [this]
  show some (D.int ((a : Int) * 2 ^ b)) = some (D.int ((a * 2 ^ b : Nat) : Int))
  rw [Int.natCast_mul, Int.natCast_pow]
  rfl
theorem shrN (S : Sto) (a b : Nat) : iShr S (nd a) (nd b) = some (nd (a / 2 ^ b)) := by
  show iShr S (.int (a : Int)) (.int (b : Int)) = _
  have h0 : decide ((0 : Int) ≤ (b : Int)) = true := decide_eq_true (by omega)
  rw [iShr_eq, h0, if_pos rfl]
  have : (b : Int).toNat = b := by omega
  rw [this]
  show some (D.int ((a : Int) / 2 ^ b)) = some (D.int ((a / 2 ^ b : Nat) : Int))
  rw [Int.natCast_ediv, Int.natCast_pow]
  rfl
theorem modN (S : Sto) (a : Nat) {b : Nat} (h : b ≠ 0) : iMod S (nd a) (nd b) = some (nd (a % b)) := by
  show iMod S (.int (a : Int)) (.int (b : Int)) = _
  have h0 : decide ((b : Int) ≠ 0) = true := decide_eq_true (by omega)
  rw [iMod_eq, h0, if_pos rfl, fmod_natnat]
theorem orN (S : Sto) (a b : Nat) : iOr S (nd a) (nd b) = some (nd (a ||| b)) := by
  show iOr S (.int (a : Int)) (.int (b : Int)) = _
  rw [iOr_eq, bor_nat]
theorem orhigh {c a b T : Nat} (ha : a < 2 ^ c) (hb : b < 2 ^ c) (U : Nat) : (a + 2 ^ c * T) ||| (b + 2 ^ c * U) = (a ||| b) + 2 ^ c * (T ||| U) := by
  apply Nat.eq_of_testBit_eq
  intro i
  rw [Nat.testBit_or, Nat.add_comm a, Nat.add_comm b, Nat.add_comm (a ||| b), Nat.testBit_two_pow_mul_add _ ha, Nat.testBit_two_pow_mul_add _ hb, Nat.testBit_two_pow_mul_add _ (Nat.or_lt_two_pow ha hb)]
  split
  · rw [Nat.testBit_or]
  · rw [Nat.testBit_or]
theorem or_shl {o a : Nat} (ho : o < 2 ^ a) (x : Nat) : o ||| x * 2 ^ a = o + 2 ^ a * x := by
  have := orhigh (c := a) (a := o) (b := 0) (T := 0) ho (Nat.two_pow_pos a) x
  simp at this
  rw [Nat.mul_comm x]
  exact this
theorem wix_or {A B : Str → Nat} {ys : List Str} : ∀ {F : Fr}, Inn F A → Inn F B → wix A F ys ||| wix B F ys = wix (fun y => A y ||| B y) F ys
  | [], _, _ => by simp [wix]
  | p :: F, hA, hB => by
    have ih := wix_or (ys := ys) hA.tail hB.tail
    have a := hA p List.mem_cons_self
    have b := hB p List.mem_cons_self
    unfold wix
    by_cases q : p.1 ∈ ys
    · rw [if_pos q, if_pos q, if_pos q, orhigh a b, ih]
    · rw [if_neg q, if_neg q, if_neg q, ih]
theorem wdc_one {x : Str} {k : Nat} : ∀ {F : Fr}, (nms F).Nodup → x ∈ nms F → k < 2 ^ bts F [x] → wdc F [x] k x = k
  | [], _, h, _ => by cases h
  | p :: F, hn, h, hk => by
    rw [bts_cons] at hk
    unfold wdc
    by_cases e : p.1 = x
    · have z : bts F [x] = 0 := bts_none fun z => (List.nodup_cons.mp hn).1 (by
        show p.1 ∈ nms F
        rw [e]
        exact z)
      rw [if_pos (by simpa using e), z, Nat.add_zero] at hk
      rw [if_pos (by simpa using e)]
      show (if x = p.1 then k % 2 ^ p.2 else _) = k
      rw [if_pos e.symm, Nat.mod_eq_of_lt hk]
    · rw [if_neg (by simpa using e), Nat.zero_add] at hk
      rw [if_neg (by simpa using e)]
      have h' : x ∈ nms F := by
        rcases List.mem_cons.mp h with q | q
        · exact absurd q.symm e
        · exact q
      exact wdc_one (List.nodup_cons.mp hn).2 h' hk
section
variable {S : Sto}
noncomputable def lcB : MS := sSeq (sIf (cB (eOp (fInX false) (eV 6) (eV 1))) (sSeq (sAsg (eOp iOr (eV 3) (eOp iShl (eOp iMod (eOp iShr (eV 2) (eV 5)) (eOp iShl (eC (.int 1)) (eV 7))) (eV 4))) (gN 3))
    (sAug 4 (fun i j => i + j) (eV 7))) sNil)
    (sAug 5 (fun i j => i + j) (eV 7))
def cutV (s : List Str) : Fr → Nat → Nat
  | [], _ => 0
  | p :: F, c => if p.1 ∈ s then c % 2 ^ p.2 + 2 ^ p.2 * cutV s F (c / 2 ^ p.2) else cutV s F (c / 2 ^ p.2)
theorem cut_go (s : List Str) (c : Nat) (a0 : D) : ∀ (F : Fr) (o a l : Nat) (s6 s7 : Sl), o < 2 ^ a → a + (F.map (·.2)).sum ≤ 20 → l + (F.map (·.2)).sum ≤ 20 → ∃ s6' s7', forL (gT (gNC (gN 6) (gNC (gN 7) gN0))) lcB (F.map dS) [.v a0, .v (sL s), .v (nd c), .v (nd o), .v (nd a), .v (nd l), s6, s7] S = .nx [.v a0, .v (sL s), .v (nd c), .v (nd (o + 2 ^ a * cutV s F (c / 2 ^ l))), .v (nd (a + bts F s)), .v (nd (l + (F.map (·.2)).sum)), s6', s7'] S
  | [], o, a, l, s6, s7, _, _, _ => ⟨s6, s7, by simp [forL, cutV, bts]⟩
  | p :: F, o, a, l, s6, s7, ho, ha, hl => by
    have sc : ((p :: F).map (·.2)).sum = p.2 + (F.map (·.2)).sum := by simp
    rw [sc] at ha hl
    have fi := fInX_strs S false p.1 s
    have z1 := shlN S (a := 1) (b := p.2) (by decide) (by omega)
    have z2 := shrN S c l
    have z3 := modN S (c / 2 ^ l) (b := 1 * 2 ^ p.2) (by have := Nat.two_pow_pos p.2; omega)
    rw [Nat.one_mul] at z1 z3
    have md : c / 2 ^ l % 2 ^ p.2 < 2 ^ p.2 := Nat.mod_lt _ (Nat.two_pow_pos _)
    have p20 : 2 ^ p.2 ≤ 2 ^ 20 := Nat.pow_le_pow_right (by decide) (by omega)
    have z4 := shlN S (a := c / 2 ^ l % 2 ^ p.2) (b := a) (by omega) (by omega)
    have z5 := orN S o (c / 2 ^ l % 2 ^ p.2 * 2 ^ a)
    rw [or_shl ho] at z5
    have dd : c / 2 ^ l / 2 ^ p.2 = c / 2 ^ (l + p.2) := by rw [Nat.div_div_eq_div_mul, Nat.pow_add]
    by_cases q : p.1 ∈ s
    · have ho' : o + 2 ^ a * (c / 2 ^ l % 2 ^ p.2) < 2 ^ (a + p.2) := by
        rw [Nat.pow_add]
        have : 2 ^ a * (c / 2 ^ l % 2 ^ p.2 + 1) ≤ 2 ^ a * 2 ^ p.2 := Nat.mul_le_mul_left _ md
        rw [Nat.mul_add, Nat.mul_one] at this
        omega
      obtain ⟨s6', s7', e⟩ := cut_go s c a0 F (o + 2 ^ a * (c / 2 ^ l % 2 ^ p.2)) (a + p.2) (l + p.2) (.v (.str p.1)) (.v (nd p.2)) ho' (by omega) (by omega)
      refine ⟨s6', s7', ?_⟩
      have st : lcB [.v a0, .v (sL s), .v (nd c), .v (nd o), .v (nd a), .v (nd l), .v (.str p.1), .v (nd p.2)] S = .nx [.v a0, .v (sL s), .v (nd c), .v (nd (o + 2 ^ a * (c / 2 ^ l % 2 ^ p.2))), .v (nd (a + p.2)), .v (nd (l + p.2)), .v (.str p.1), .v (nd p.2)] S := by
        simp only [q, decide_true, Bool.false_eq_true, if_false] at fi
        have fi : fInX false S (.str p.1) (sL s) = some (.bl true) := fi
        generalize sL s = SL at *
        generalize hm : c / 2 ^ l % 2 ^ p.2 = m0 at *
        generalize hq : c / 2 ^ l = q0 at *
        generalize hz : o + 2 ^ a * m0 = z0 at *
        generalize hy : m0 * 2 ^ a = y0 at *
        generalize hx : 2 ^ p.2 = x0 at *
        have z1 : iShl S (.int 1) (nd p.2) = some (nd x0) := z1
        simp only [lcB, sSeq_eq, sIf_eq, cB_eq, eOp_eq, eV_eq, eC_eq, List.getElem?_cons_succ, List.getElem?_cons_zero, bind_ok', fi, opt_some', out_ok', sAsg_eq, z1, z2, z3, z4, z5]
        rfl
      have fin : o + 2 ^ a * cutV s (p :: F) (c / 2 ^ l) = o + 2 ^ a * (c / 2 ^ l % 2 ^ p.2) + 2 ^ (a + p.2) * cutV s F (c / 2 ^ (l + p.2)) := by
        rw [← dd]
        conv => lhs; unfold cutV
        rw [if_pos q, Nat.mul_add, Nat.pow_add, Nat.mul_assoc]
        omega
      rw [fin, bts_cons, if_pos q, sc, ← Nat.add_assoc, ← Nat.add_assoc]
      exact (forL_nx rfl st).trans e
    · obtain ⟨s6', s7', e⟩ := cut_go s c a0 F o a (l + p.2) (.v (.str p.1)) (.v (nd p.2)) ho (by omega) (by omega)
      refine ⟨s6', s7', ?_⟩
      have st : lcB [.v a0, .v (sL s), .v (nd c), .v (nd o), .v (nd a), .v (nd l), .v (.str p.1), .v (nd p.2)] S = .nx [.v a0, .v (sL s), .v (nd c), .v (nd o), .v (nd a), .v (nd (l + p.2)), .v (.str p.1), .v (nd p.2)] S := by
        simp only [q, decide_false, Bool.false_eq_true, if_false] at fi
        have fi : fInX false S (.str p.1) (sL s) = some (.bl false) := fi
        generalize sL s = SL at *
        simp only [lcB, sSeq_eq, sIf_eq, cB_eq, eOp_eq, eV_eq, List.getElem?_cons_succ, List.getElem?_cons_zero, bind_ok', fi, opt_some', out_ok']
        rfl
      have fin : o + 2 ^ a * cutV s (p :: F) (c / 2 ^ l) = o + 2 ^ a * cutV s F (c / 2 ^ (l + p.2)) := by
        rw [← dd]
        conv => lhs; unfold cutV
        rw [if_neg q]
      rw [fin, bts_cons, if_neg q, Nat.zero_add, sc, ← Nat.add_assoc]
      exact (forL_nx rfl st).trans e
theorem law_cut_ok (S : Sto) (F : Fr) (s : List Str) (c : Nat) (h : (F.map (·.2)).sum ≤ 7) : m__law_cut [frmD F, sL s, nd c] S = .ok (.val (nd (cutV s F c))) S := by
  obtain ⟨s6, s7, e⟩ := cut_go (S := S) s c (frmD F) F 0 0 0 .no .no (by decide) (by omega) (by omega)
  rw [Nat.pow_zero, Nat.div_one, Nat.one_mul, Nat.zero_add, Nat.zero_add, Nat.zero_add] at e
  unfold lcB at e
  have st : startE 8 [frmD F, sL s, nd c] = [.v (frmD F), .v (sL s), .v (nd c), .no, .no, .no, .no, .no] := rfl
  have f : sFor (itL (eV 0)) (gT (gNC (gN 6) (gNC (gN 7) gN0))) (sSeq (sIf (cB (eOp (fInX false) (eV 6) (eV 1))) (sSeq (sAsg (eOp iOr (eV 3) (eOp iShl (eOp iMod (eOp iShr (eV 2) (eV 5)) (eOp iShl (eC (.int 1)) (eV 7))) (eV 4))) (gN 3))
    (sAug 4 (fun i j => i + j) (eV 7))) sNil)
    (sAug 5 (fun i j => i + j) (eV 7))) [.v (frmD F), .v (sL s), .v (nd c), .v (nd 0), .v (nd 0), .v (nd 0), .no, .no] S = .nx [.v (frmD F), .v (sL s), .v (nd c), .v (nd (cutV s F c)), .v (nd (bts F s)), .v (nd ((F.map (·.2)).sum)), s6, s7] S := e
  have c1 : sAsg (eC (.int 0)) (gN 3) [.v (frmD F), .v (sL s), .v (nd c), .no, .no, .no, .no, .no] S = .nx [.v (frmD F), .v (sL s), .v (nd c), .v (nd 0), .no, .no, .no, .no] S := rfl
  have c2 : sAsg (eC (.int 0)) (gN 4) [.v (frmD F), .v (sL s), .v (nd c), .v (nd 0), .no, .no, .no, .no] S = .nx [.v (frmD F), .v (sL s), .v (nd c), .v (nd 0), .v (nd 0), .no, .no, .no] S := rfl
  have c3 : sAsg (eC (.int 0)) (gN 5) [.v (frmD F), .v (sL s), .v (nd c), .v (nd 0), .v (nd 0), .no, .no, .no] S = .nx [.v (frmD F), .v (sL s), .v (nd c), .v (nd 0), .v (nd 0), .v (nd 0), .no, .no] S := rfl
  unfold m__law_cut
  rw [mFn_eq, st, seq_of c1, seq_of c2, seq_of c3, seq_of f]
  rfl
end
end Fb
namespace Fb
open PySem L2 Mm Gf
theorem cutV_wix {s ys : List Str} : ∀ {F : Fr}, (nms F).Nodup → (∀ p ∈ F, p.1 ∈ ys) → ∀ c, cutV s F c = wix (wdc F ys c) F s
  | [], _, _, c => by simp [cutV, wix]
  | p :: F, hn, hy, c => by
    have ih := cutV_wix (s := s) (List.nodup_cons.mp hn).2 (fun q hq => hy q (List.mem_cons_of_mem _ hq)) (c / 2 ^ p.2)
    have np : ∀ q ∈ F, q.1 ≠ p.1 := fun q hq => nms_ne hn hq
    have wd : wdc (p :: F) ys c = fun y => if y = p.1 then c % 2 ^ p.2 else wdc F ys (c / 2 ^ p.2) y := by
      conv => lhs; unfold wdc
      rw [if_pos (hy p List.mem_cons_self)]
    have w : wix (wdc (p :: F) ys c) F s = wix (wdc F ys (c / 2 ^ p.2)) F s := by
      refine wix_congr (fun _ _ => Iff.rfl) fun q hq _ => ?_
      rw [wd]
      exact if_neg (np q hq)
    unfold cutV
    conv => rhs; unfold wix
    rw [w, ih, wd]
    simp only [if_true]
def sprV (s : List Str) : Fr → Nat → Nat
  | [], _ => 0
  | p :: F, c => if p.1 ∈ s then c % 2 ^ p.2 + 2 ^ p.2 * sprV s F (c / 2 ^ p.2) else 2 ^ p.2 * sprV s F c
theorem sprV_wix {s ys : List Str} : ∀ {F : Fr}, (nms F).Nodup → (∀ p ∈ F, p.1 ∈ ys) → ∀ c, sprV s F c = wix (wdc F s c) F ys
  | [], _, _, c => by simp [sprV, wix]
  | p :: F, hn, hy, c => by
    have np : ∀ q ∈ F, q.1 ≠ p.1 := fun q hq => nms_ne hn hq
    have hp := hy p List.mem_cons_self
    by_cases q : p.1 ∈ s
    · have ih := sprV_wix (s := s) (ys := ys) (List.nodup_cons.mp hn).2 (fun q hq => hy q (List.mem_cons_of_mem _ hq)) (c / 2 ^ p.2)
      have wd : wdc (p :: F) s c = fun y => if y = p.1 then c % 2 ^ p.2 else wdc F s (c / 2 ^ p.2) y := by
        conv => lhs; unfold wdc
        rw [if_pos q]
      have w : wix (wdc (p :: F) s c) F ys = wix (wdc F s (c / 2 ^ p.2)) F ys := by
        refine wix_congr (fun _ _ => Iff.rfl) fun q hq _ => ?_
        rw [wd]
        exact if_neg (np q hq)
      unfold sprV
      conv => rhs; unfold wix
      rw [if_pos q, if_pos hp, w, ih, wd]
      simp only [if_true]
    · have ih := sprV_wix (s := s) (ys := ys) (List.nodup_cons.mp hn).2 (fun q hq => hy q (List.mem_cons_of_mem _ hq)) c
      have wd : wdc (p :: F) s c = wdc F s c := by
        conv => lhs; unfold wdc
        rw [if_neg q]
      have z : wdc F s c p.1 = 0 := wdc_out (.inl (List.nodup_cons.mp hn).1)
      unfold sprV
      conv => rhs; unfold wix
      rw [if_neg q, if_pos hp, wd, ih, z, Nat.zero_add]
section
variable {S : Sto}
noncomputable def lsB : MS := sSeq (sIf (cB (eOp (fInX false) (eV 5) (eV 1))) (sSeq (sAsg (eOp iOr (eV 3) (eOp iShl (eOp iMod (eV 2) (eOp iShl (eC (.int 1)) (eV 6))) (eV 4))) (gN 3))
    (sAsg (eOp iShr (eV 2) (eV 6)) (gN 2))) sNil)
    (sAug 4 (fun i j => i + j) (eV 6))
theorem spr_go (s : List Str) (a0 : D) : ∀ (F : Fr) (o a c : Nat) (s5 s6 : Sl), o < 2 ^ a → a + (F.map (·.2)).sum ≤ 20 → ∃ c' a' s5' s6', forL (gT (gNC (gN 5) (gNC (gN 6) gN0))) lsB (F.map dS) [.v a0, .v (sL s), .v (nd c), .v (nd o), .v (nd a), s5, s6] S = .nx [.v a0, .v (sL s), .v (nd c'), .v (nd (o + 2 ^ a * sprV s F c)), .v (nd a'), s5', s6'] S
  | [], o, a, c, s5, s6, _, _ => ⟨c, a, s5, s6, by simp [forL, sprV]⟩
  | p :: F, o, a, c, s5, s6, ho, ha => by
    have sc : ((p :: F).map (·.2)).sum = p.2 + (F.map (·.2)).sum := by simp
    rw [sc] at ha
    have fi := fInX_strs S false p.1 s
    have z1 := shlN S (a := 1) (b := p.2) (by decide) (by omega)
    have z2 := shrN S c p.2
    have z3 := modN S c (b := 1 * 2 ^ p.2) (by have := Nat.two_pow_pos p.2; omega)
    rw [Nat.one_mul] at z1 z3
    have md : c % 2 ^ p.2 < 2 ^ p.2 := Nat.mod_lt _ (Nat.two_pow_pos _)
    have p20 : 2 ^ p.2 ≤ 2 ^ 20 := Nat.pow_le_pow_right (by decide) (by omega)
    have z4 := shlN S (a := c % 2 ^ p.2) (b := a) (by omega) (by omega)
    have z5 := orN S o (c % 2 ^ p.2 * 2 ^ a)
    rw [or_shl ho] at z5
    by_cases q : p.1 ∈ s
    · have ho' : o + 2 ^ a * (c % 2 ^ p.2) < 2 ^ (a + p.2) := by
        rw [Nat.pow_add]
        have : 2 ^ a * (c % 2 ^ p.2 + 1) ≤ 2 ^ a * 2 ^ p.2 := Nat.mul_le_mul_left _ md
        rw [Nat.mul_add, Nat.mul_one] at this
        omega
      obtain ⟨c', a', s5', s6', e⟩ := spr_go s a0 F (o + 2 ^ a * (c % 2 ^ p.2)) (a + p.2) (c / 2 ^ p.2) (.v (.str p.1)) (.v (nd p.2)) ho' (by omega)
      refine ⟨c', a', s5', s6', ?_⟩
      have st : lsB [.v a0, .v (sL s), .v (nd c), .v (nd o), .v (nd a), .v (.str p.1), .v (nd p.2)] S = .nx [.v a0, .v (sL s), .v (nd (c / 2 ^ p.2)), .v (nd (o + 2 ^ a * (c % 2 ^ p.2))), .v (nd (a + p.2)), .v (.str p.1), .v (nd p.2)] S := by
        simp only [q, decide_true, Bool.false_eq_true, if_false] at fi
        have fi : fInX false S (.str p.1) (sL s) = some (.bl true) := fi
        generalize sL s = SL at *
        generalize hm : c % 2 ^ p.2 = m0 at *
        generalize hq : c / 2 ^ p.2 = q0 at *
        generalize hz : o + 2 ^ a * m0 = z0 at *
        generalize hy : m0 * 2 ^ a = y0 at *
        generalize hx : 2 ^ p.2 = x0 at *
        have z1 : iShl S (.int 1) (nd p.2) = some (nd x0) := z1
        simp only [lsB, sSeq_eq, sIf_eq, cB_eq, eOp_eq, eV_eq, eC_eq, List.getElem?_cons_succ, List.getElem?_cons_zero, bind_ok', fi, opt_some', out_ok', sAsg_eq, z1, z2, z3, z4, z5]
        simp only [if_true, gN_eq, List.set_cons_succ, List.set_cons_zero, z2, opt_some', out_ok', bind_ok', List.getElem?_cons_succ, List.getElem?_cons_zero]
        rfl
      have fin : o + 2 ^ a * sprV s (p :: F) c = o + 2 ^ a * (c % 2 ^ p.2) + 2 ^ (a + p.2) * sprV s F (c / 2 ^ p.2) := by
        conv => lhs; unfold sprV
        rw [if_pos q, Nat.mul_add, Nat.pow_add, Nat.mul_assoc]
        omega
      rw [fin]
      exact (forL_nx rfl st).trans e
    · obtain ⟨c', a', s5', s6', e⟩ := spr_go s a0 F o (a + p.2) c (.v (.str p.1)) (.v (nd p.2)) (Nat.lt_of_lt_of_le ho (Nat.pow_le_pow_right (by decide) (by omega))) (by omega)
      refine ⟨c', a', s5', s6', ?_⟩
      have st : lsB [.v a0, .v (sL s), .v (nd c), .v (nd o), .v (nd a), .v (.str p.1), .v (nd p.2)] S = .nx [.v a0, .v (sL s), .v (nd c), .v (nd o), .v (nd (a + p.2)), .v (.str p.1), .v (nd p.2)] S := by
        simp only [q, decide_false, Bool.false_eq_true, if_false] at fi
        have fi : fInX false S (.str p.1) (sL s) = some (.bl false) := fi
        generalize sL s = SL at *
        simp only [lsB, sSeq_eq, sIf_eq, cB_eq, eOp_eq, eV_eq, List.getElem?_cons_succ, List.getElem?_cons_zero, bind_ok', fi, opt_some', out_ok']
        rfl
      have fin : o + 2 ^ a * sprV s (p :: F) c = o + 2 ^ (a + p.2) * sprV s F c := by
        conv => lhs; unfold sprV
        rw [if_neg q, Nat.pow_add, Nat.mul_assoc]
      rw [fin]
      exact (forL_nx rfl st).trans e
theorem law_spr_ok (S : Sto) (F : Fr) (s : List Str) (c : Nat) (h : (F.map (·.2)).sum ≤ 7) : m__law_spread_out [frmD F, sL s, nd c] S = .ok (.val (nd (sprV s F c))) S := by
  obtain ⟨c', a', s5, s6, e⟩ := spr_go (S := S) s (frmD F) F 0 0 c .no .no (by decide) (by omega)
  rw [Nat.pow_zero, Nat.one_mul, Nat.zero_add] at e
  unfold lsB at e
  have st : startE 7 [frmD F, sL s, nd c] = [.v (frmD F), .v (sL s), .v (nd c), .no, .no, .no, .no] := rfl
  have f : sFor (itL (eV 0)) (gT (gNC (gN 5) (gNC (gN 6) gN0))) (sSeq (sIf (cB (eOp (fInX false) (eV 5) (eV 1))) (sSeq (sAsg (eOp iOr (eV 3) (eOp iShl (eOp iMod (eV 2) (eOp iShl (eC (.int 1)) (eV 6))) (eV 4))) (gN 3))
    (sAsg (eOp iShr (eV 2) (eV 6)) (gN 2))) sNil)
    (sAug 4 (fun i j => i + j) (eV 6))) [.v (frmD F), .v (sL s), .v (nd c), .v (nd 0), .v (nd 0), .no, .no] S = .nx [.v (frmD F), .v (sL s), .v (nd c'), .v (nd (sprV s F c)), .v (nd a'), s5, s6] S := e
  have c1 : sAsg (eC (.int 0)) (gN 3) [.v (frmD F), .v (sL s), .v (nd c), .no, .no, .no, .no] S = .nx [.v (frmD F), .v (sL s), .v (nd c), .v (nd 0), .no, .no, .no] S := rfl
  have c2 : sAsg (eC (.int 0)) (gN 4) [.v (frmD F), .v (sL s), .v (nd c), .v (nd 0), .no, .no, .no] S = .nx [.v (frmD F), .v (sL s), .v (nd c), .v (nd 0), .v (nd 0), .no, .no] S := rfl
  unfold m__law_spread_out
  rw [mFn_eq, st, seq_of c1, seq_of c2, seq_of f]
  rfl
end
end Fb
namespace Fb
open PySem L2 Mm Gf
theorem seq_rt2 {a b : MS} {e : Envr} {S S1 : Sto} {r : Ret} (h : a e S = .rt r S1) : sSeq a b e S = .rt r S1 := by rw [sSeq_eq, h]
section
variable {S : Sto} {F : Fr} {deep : Nat} {K : List Str} {sd : Str → List Str} {ln : Str → List Nat} {cs : Str → List Int}
theorem cut_wix (hn : (nms F).Nodup) {A : Str → Nat} (hA : Inn F A) (s : List Str) : cutV s F (wix A F (nms F)) = wix A F s := by
  rw [cutV_wix hn (ys := nms F) fun p hp => mem_nms hp]
  exact wix_congr (fun _ _ => Iff.rfl) fun p hp _ => wdc_wix hn hA p hp (mem_nms hp)
theorem spr_upd (hn : (nms F).Nodup) {A : Str → Nat} (hA : Inn F A) {x : Str} (hx : x ∈ nms F) {k : Nat} (hk : k < 2 ^ bts F [x]) :
    sprV ((nms F).filter fun y => decide (y ≠ x)) F (wix A F ((nms F).filter fun y => decide (y ≠ x))) ||| sprV [x] F k = wix (upd A x k) F (nms F) := by
  rw [sprV_wix hn (ys := nms F) (fun p hp => mem_nms hp), sprV_wix hn (ys := nms F) (fun p hp => mem_nms hp), wix_or (wdc_inn hn _) (wdc_inn hn _)]
  refine wix_congr (fun _ _ => Iff.rfl) fun p hp _ => ?_
  show wdc F _ _ p.1 ||| wdc F [x] k p.1 = _
  by_cases e : p.1 = x
  · rw [wdc_out (.inr fun z => by simpa [e] using (List.mem_filter.mp z).2), e, wdc_one hn hx hk, Nat.zero_or]
    unfold upd
    rw [if_pos rfl]
  · have e2 : p.1 ∉ [x] := by simpa using e
    rw [wdc_wix hn hA p hp (List.mem_filter.mpr ⟨mem_nms hp, decide_eq_true e⟩), wdc_out (.inr e2), Nat.or_zero]
    unfold upd
    rw [if_neg e]
theorem upd_innF (hn : (nms F).Nodup) {A : Str → Nat} (hA : Inn F A) {x : Str} {k : Nat} (hk : k < 2 ^ bts F [x]) : Inn F (upd A x k) := upd_inn hn hA hk
theorem worth_ok (hF : FrOk F) (hK : Kn1 F deep K sd ln cs) : ∀ {t : Tr} {n : Nat} {A : Str → Nat}, Trk F sd K t → dp t < n → dp t ≤ 11 → Inn F A → m__law_worth n [t.d, frmD F, .dic (knD K sd ln cs), nd (wix A F (nms F))] S = .ok (.val (.int (ev F sd cs t A))) S
  | .nm x, n + 1, A, ht, hd, _, hA => by
    have lk := look_map (fun x => .tup [sL (sd x), .tup (nl (ln x)), .tup ((cs x).map D.int)]) K x ht
    have lk' : lookK (knD K sd ln cs) (.inr x) = some (.tup [sL (sd x), .tup (nl (ln x)), .tup ((cs x).map D.int)]) := lk
    have e1 := fEq_str S sok_name sok_name
    have cu := law_cut_ok S F (sd x) (wix A F (nms F)) hF.sum
    rw [cut_wix hF.nod hA] at cu
    have at_ := atI_ints (c := cs x) (k := wix A F (sd x)) (by rw [hK.len x ht]; exact wix_lt hA)
    have fx : fIx S (.tup ((cs x).map D.int)) (nd (wix A F (sd x))) = some (.int ((cs x).getD (wix A F (sd x)) 0)) := at_
    have evv : ev F sd cs (.nm x) A = (cs x).getD (wix A F (sd x)) 0 := rfl
    rw [evv]
    generalize (cs x).getD (wix A F (sd x)) 0 = V at *
    generalize wix A F (sd x) = W1 at *
    generalize wix A F (nms F) = W2 at *
    generalize knD K sd ln cs = K0 at *
    generalize (cs x).map D.int = CX at *
    generalize sL (sd x) = SX at *
    generalize frmD F = FD at *
    generalize nl (ln x) = LX at *
    simp [m__law_worth, Tr.d, e1, dicA_eq, dicOf, keyD, lk', cu, fx]
  | .sm x t, n + 1, A, ht, hd, h11, hA => by
    have xf : x ∈ nms F := sid_sub ht.2
    have ne : decide (("sum" : Str) = "name") = false := by decide +kernel
    have e1 := fEq_str S sok_sum sok_name
    rw [ne] at e1
    have e2 := fEq_str S sok_sum sok_sum
    have zF := hF.len
    have le7 := hF.le [x]
    have i1 : fIx S (.tup [.str "sum", .str x, t.d]) (.int 1) = some (.str x) := rfl
    have i2 : fIx S (.tup [.str "sum", .str x, t.d]) (.int 2) = some t.d := rfl
    let R : List Str := (nms F).filter fun y => decide (y ≠ x)
    have hRd : R = (nms F).filter fun y => decide (y ≠ x) := rfl
    let E : Sl → Sl → Sl → Sl → Envr := fun s7 s8 s9 s10 => [.v (.tup [.str "sum", .str x, t.d]), .v (frmD F), .v (.dic (knD K sd ln cs)), .v (nd (wix A F (nms F))), .no, .no, .no, s7, s8, s9, s10, .no, .no, .no, .no]
    have lc1 := flcQ (mi := itL (eV 1)) (g := gT (gNC (gN 12) (gNC (gN 9) gN0))) (tt := cB (eOp fNe (eV 12) (eOp fIx (eV 0) (eC (.int 1))))) (te := eV 12) (vs := [12, 9]) (env := E .no .no .no .no) (S := S) dS (fun p => .str p.1) (fun p => decide (p.1 ≠ x)) F (by simp [E]) (by omega) fun p hp => ⟨[.v (.tup [.str "sum", .str x, t.d]), .v (frmD F), .v (.dic (knD K sd ln cs)), .v (nd (wix A F (nms F))), .no, .no, .no, .no, .no, .v (nd p.2), .no, .no, .v (.str p.1), .no, .no], rfl, by
      have q := fNe_str S (hF.sok _ (mem_nms hp)) (hF.sok _ xf)
      generalize D.tup [.str "sum", .str x, t.d] = TD at *
      simp [i1, q], fun _ => rfl⟩
    have el : (F.filter fun p => decide (p.1 ≠ x)).map (fun p => D.str p.1) = R.map D.str := by
      rw [hRd]
      unfold nms
      rw [List.filter_map, List.map_map]
      rfl
    rw [el] at lc1
    have c1 : sAsg (mFrz (fLc (itL (eV 1)) (gT (gNC (gN 12) (gNC (gN 9) gN0))) (cB (eOp fNe (eV 12) (eOp fIx (eV 0) (eC (.int 1))))) (eV 12) [12, 9])) (gN 7) (E .no .no .no .no) S = .nx (E (.v (sL R)) .no .no .no) S := by
      rw [sAsg_eq, mFrz_eq, lc1]
      rfl
    have cu := law_cut_ok S F R (wix A F (nms F)) hF.sum
    rw [cut_wix hF.nod hA] at cu
    have sp := law_spr_ok S F R (wix A F R) hF.sum
    have c2 : sAsg (eCall m__law_spread_out [] (aCons (eV 1) (aCons (eV 7) (aCons (eCall m__law_cut [] (aCons (eV 1) (aCons (eV 7) (aCons (eV 3) aNil)))) aNil)))) (gN 8) (E (.v (sL R)) .no .no .no) S = .nx (E (.v (sL R)) (.v (nd (sprV R F (wix A F R)))) .no .no) S := by
      dsimp only [E]
      generalize sL R = SR at *
      generalize wix A F (nms F) = W2 at *
      generalize frmD F = FD at *
      simp [cu, sp]
    have z1 := szB_of (n := 1) (by omega)
    have ci : m__law_count_in [frmD F, .lst [.str x]] S = .ok (.val (nd (bts F [x]))) S := count_in_ok S F [x] (by omega)
    have c3 : sAsg (eCall m__law_count_in [] (aCons (eV 1) (aCons (mFrz (fLst (aCons (eOp fIx (eV 0) (eC (.int 1))) aNil))) aNil))) (gN 9) (E (.v (sL R)) (.v (nd (sprV R F (wix A F R)))) .no .no) S = .nx (E (.v (sL R)) (.v (nd (sprV R F (wix A F R)))) (.v (nd (bts F [x]))) .no) S := by
      dsimp only [E]
      generalize D.tup [.str "sum", .str x, t.d] = TD at *
      generalize frmD F = FD at *
      simp [i1, z1, ci, Cell.d]
    have p7 : 2 ^ bts F [x] ≤ 2 ^ 7 := Nat.pow_le_pow_right (by decide) le7
    have zs := shlN S (a := 1) (b := bts F [x]) (by decide) (by omega)
    rw [Nat.one_mul] at zs
    have zs : iShl S (.int 1) (nd (bts F [x])) = some (nd (2 ^ bts F [x])) := zs
    have rg : rgB ((2 ^ bts F [x] : Nat) : Int) = true := rgB_nat (by omega)
    have it : itR1 (aCons (eOp iShl (eC (.int 1)) (eV 9)) aNil) (E (.v (sL R)) (.v (nd (sprV R F (wix A F R)))) (.v (nd (bts F [x]))) .no) S = .ok (nl (List.range (2 ^ bts F [x]))) S := by
      have r0 := rng0 (2 ^ bts F [x])
      dsimp only [E]
      generalize 2 ^ bts F [x] = P at *
      generalize bts F [x] = BX at *
      generalize sprV R F (wix A F R) = B0 at *
      simp [zs, rg, r0]
    have lc2 := flcG (mi := itR1 (aCons (eOp iShl (eC (.int 1)) (eV 9)) aNil)) (te := eOp iOr (eV 8) (eCall m__law_spread_out [] (aCons (eV 1) (aCons (mFrz (fLst (aCons (eOp fIx (eV 0) (eC (.int 1))) aNil))) (aCons (eV 13) aNil))))) (g := gN 13) (vs := [13]) (env := E (.v (sL R)) (.v (nd (sprV R F (wix A F R)))) (.v (nd (bts F [x]))) .no) (S := S) nd (fun k => nd (wix (upd A x k) F (nms F))) (List.range (2 ^ bts F [x])) it (by rw [List.length_range]; omega) fun k hk => ⟨[.v (.tup [.str "sum", .str x, t.d]), .v (frmD F), .v (.dic (knD K sd ln cs)), .v (nd (wix A F (nms F))), .no, .no, .no, .v (sL R), .v (nd (sprV R F (wix A F R))), .v (nd (bts F [x])), .no, .no, .no, .v (nd k), .no], rfl, by
      have sp1 : m__law_spread_out [frmD F, .lst [.str x], nd k] S = .ok (.val (nd (sprV [x] F k))) S := law_spr_ok S F [x] k hF.sum
      have oo := orN S (sprV R F (wix A F R)) (sprV [x] F k)
      have su := spr_upd hF.nod hA xf (List.mem_range.mp hk)
      have su : sprV R F (wix A F R) ||| sprV [x] F k = wix (upd A x k) F (nms F) := su
      rw [su] at oo
      generalize wix (upd A x k) F (nms F) = W3 at *
      generalize sprV R F (wix A F R) = B0 at *
      generalize sprV [x] F k = B1 at *
      generalize D.tup [.str "sum", .str x, t.d] = TD at *
      generalize frmD F = FD at *
      simp [i1, z1, sp1, Cell.d, oo]⟩
    have c4 : sAsg (mFrz (fLc (itR1 (aCons (eOp iShl (eC (.int 1)) (eV 9)) aNil)) (gN 13) cYes (eOp iOr (eV 8) (eCall m__law_spread_out [] (aCons (eV 1) (aCons (mFrz (fLst (aCons (eOp fIx (eV 0) (eC (.int 1))) aNil))) (aCons (eV 13) aNil))))) [13])) (gN 10) (E (.v (sL R)) (.v (nd (sprV R F (wix A F R)))) (.v (nd (bts F [x]))) .no) S = .nx (E (.v (sL R)) (.v (nd (sprV R F (wix A F R)))) (.v (nd (bts F [x]))) (.v (.lst ((List.range (2 ^ bts F [x])).map fun k => nd (wix (upd A x k) F (nms F)))))) S := by
      rw [sAsg_eq, mFrz_eq, lc2]
      rfl
    have lc3 := flcG (mi := itL (eV 10)) (te := eCall (m__law_worth n) [] (aCons (eOp fIx (eV 0) (eC (.int 2))) (aCons (eV 1) (aCons (eV 2) (aCons (eV 14) aNil))))) (g := gN 14) (vs := [14]) (env := E (.v (sL R)) (.v (nd (sprV R F (wix A F R)))) (.v (nd (bts F [x]))) (.v (.lst ((List.range (2 ^ bts F [x])).map fun k => nd (wix (upd A x k) F (nms F)))))) (S := S) (fun k => nd (wix (upd A x k) F (nms F))) (fun k => .int (ev F sd cs t (upd A x k))) (List.range (2 ^ bts F [x])) rfl (by rw [List.length_range]; omega) fun k hk => ⟨[.v (.tup [.str "sum", .str x, t.d]), .v (frmD F), .v (.dic (knD K sd ln cs)), .v (nd (wix A F (nms F))), .no, .no, .no, .v (sL R), .v (nd (sprV R F (wix A F R))), .v (nd (bts F [x])), .v (.lst ((List.range (2 ^ bts F [x])).map fun k => nd (wix (upd A x k) F (nms F)))), .no, .no, .no, .v (nd (wix (upd A x k) F (nms F)))], rfl, by
      have ih := worth_ok hF hK ht.1 (n := n) (A := upd A x k) (by simp [dp] at hd; omega) (by simp [dp] at h11; omega) (upd_innF hF.nod hA (List.mem_range.mp hk))
      generalize D.tup [.str "sum", .str x, t.d] = TD at *
      generalize wix (upd A x k) F (nms F) = W3 at *
      generalize sprV R F (wix A F R) = B0 at *
      generalize ((List.range (2 ^ bts F [x])).map fun k => nd (wix (upd A x k) F (nms F))) = LL at *
      generalize frmD F = FD at *
      generalize knD K sd ln cs = K0 at *
      simp [i2, ih]⟩
    have fs := fSum_l S ((List.range (2 ^ bts F [x])).map fun k => ev F sd cs t (upd A x k)) (by simp; omega)
    rw [List.map_map] at fs
    have fs : fSum S [.lst ((List.range (2 ^ bts F [x])).map fun k => D.int (ev F sd cs t (upd A x k)))] = some (.int ((List.range (2 ^ bts F [x])).map fun k => ev F sd cs t (upd A x k)).sum) := fs
    have evv : ev F sd cs (.sm x t) A = ((List.range (2 ^ bts F [x])).map fun k => ev F sd cs t (upd A x k)).sum := by
      show sm _ _ _ = _
      unfold sm
      rw [List.filter_eq_self.mpr fun _ _ => rfl]
    rw [evv]
    have c5 : sRet (eCB fSum (aCons (mFrz (fLc (itL (eV 10)) (gN 14) cYes (eCall (m__law_worth n) [] (aCons (eOp fIx (eV 0) (eC (.int 2))) (aCons (eV 1) (aCons (eV 2) (aCons (eV 14) aNil))))) [14])) aNil)) (E (.v (sL R)) (.v (nd (sprV R F (wix A F R)))) (.v (nd (bts F [x]))) (.v (.lst ((List.range (2 ^ bts F [x])).map fun k => nd (wix (upd A x k) F (nms F)))))) S = .rt (.val (.int ((List.range (2 ^ bts F [x])).map fun k => ev F sd cs t (upd A x k)).sum)) S := by
      rw [sRet_eq, eCB_eq, aCons_eq, mFrz_eq, lc3]
      simp only [bind_ok', aNil_eq, Cell.d, fs, opt_some']
      rfl
    have k1 : ∀ m1 m2 : MS, sIf (cB (eOp fEq (eOp fIx (eV 0) (eC (.int 0))) (eC (.str "name")))) m1 m2 (E .no .no .no .no) S = m2 (E .no .no .no .no) S := fun m1 m2 => by
      have i0 : fIx S (.tup [.str "sum", .str x, t.d]) (.int 0) = some (.str "sum") := rfl
      dsimp only [E]
      generalize D.tup [.str "sum", .str x, t.d] = TD at *
      simp [i0, e1]
    have k2 : ∀ m1 m2 : MS, sIf (cB (eOp fEq (eOp fIx (eV 0) (eC (.int 0))) (eC (.str "sum")))) m1 m2 (E .no .no .no .no) S = m1 (E .no .no .no .no) S := fun m1 m2 => by
      have i0 : fIx S (.tup [.str "sum", .str x, t.d]) (.int 0) = some (.str "sum") := rfl
      dsimp only [E]
      generalize D.tup [.str "sum", .str x, t.d] = TD at *
      simp [i0, e2]
    have st : startE 15 [D.tup [.str "sum", .str x, t.d], frmD F, .dic (knD K sd ln cs), nd (wix A F (nms F))] = E .no .no .no .no := rfl
    show m__law_worth (n + 1) [.tup [.str "sum", .str x, t.d], frmD F, .dic (knD K sd ln cs), nd (wix A F (nms F))] S = _
    unfold m__law_worth
    have body := (seq_of c1).trans ((seq_of c2).trans ((seq_of c3).trans ((seq_of c4).trans c5)))
    refine rt_mfn ?_
    rw [st]
    refine (seq_of (show _ = Out.nx (E .no .no .no .no) S from k1 _ sNil)).trans ?_
    exact seq_rt2 ((k2 _ sNil).trans body)
  | .bi w a b, n + 1, A, ht, hd, h11, hA => by
    have n1 : w ≠ "name" := fun e => by
      have := ht.1
      rw [e] at this
      exact absurd this (by decide +kernel)
    have n2 : w ≠ "sum" := fun e => by
      have := ht.1
      rw [e] at this
      exact absurd this (by decide +kernel)
    have e1 := fEq_str S (wd_ok ht.1) sok_name
    have e2 := fEq_str S (wd_ok ht.1) sok_sum
    rw [decide_eq_false n1] at e1
    rw [decide_eq_false n2] at e2
    have i1 := worth_ok hF hK ht.2.1 (n := n) (by simp [dp] at hd; omega) (by simp [dp] at h11; omega) hA
    have i2 := worth_ok hF hK ht.2.2 (n := n) (by simp [dp] at hd; omega) (by simp [dp] at h11; omega) hA
    have mx := lmixed_ok S (wd_ok ht.1) (ev F sd cs a A) (ev F sd cs b A)
    have evv : ev F sd cs (.bi w a b) A = mixI w (ev F sd cs a A) (ev F sd cs b A) := rfl
    rw [evv]
    generalize mixI w (ev F sd cs a A) (ev F sd cs b A) = V at *
    generalize ev F sd cs a A = V1 at *
    generalize ev F sd cs b A = V2 at *
    generalize wix A F (nms F) = W2 at *
    generalize knD K sd ln cs = K0 at *
    generalize frmD F = FD at *
    simp [m__law_worth, Tr.d, e1, e2, i1, i2, mx]
theorem meant_ok (hF : FrOk F) (hK : Kn1 F deep K sd ln cs) {t : Tr} (ht : Trk F sd K t) (hd : dp t ≤ 11) : m__law_meant [t.d, frmD F, .dic (knD K sd ln cs)] S = .ok (.own (.lst ((cel F sd cs t).map D.int))) S := by
  obtain ⟨r, si, sr⟩ := law_sides_of_ok hF hK S ht (n := 12) (by omega)
  have zF := hF.len
  have b7 := hF.le (sid F sd t)
  have ci := count_in_ok S F (sid F sd t) (by omega)
  have W : Wok F sd cs K := ⟨hF.nod, hK.len⟩
  have p7 : 2 ^ bts F (sid F sd t) ≤ 2 ^ 7 := Nat.pow_le_pow_right (by decide) b7
  have zs := shlN S (a := 1) (b := bts F (sid F sd t)) (by decide) (by omega)
  rw [Nat.one_mul] at zs
  have zs : iShl S (.int 1) (nd (bts F (sid F sd t))) = some (nd (2 ^ bts F (sid F sd t))) := zs
  have rg : rgB ((2 ^ bts F (sid F sd t) : Nat) : Int) = true := rgB_nat (by omega)
  let E : Sl → Sl → Envr := fun s3 s4 => [.v t.d, .v (frmD F), .v (.dic (knD K sd ln cs)), s3, s4, .no, .no]
  have c1 : sAsg (eCall (m__law_sides_of 12) [] (aCons (eV 0) (aCons (eV 1) (aCons (eV 2) aNil)))) (gN 3) (E .no .no) S = .nx (E (.v (sL (sid F sd t))) .no) S := by
    dsimp only [E]
    rw [← sr]
    generalize frmD F = FD at *
    generalize knD K sd ln cs = K0 at *
    generalize t.d = TD at *
    simp [si]
  have it : itR1 (aCons (eOp iShl (eC (.int 1)) (eCall m__law_count_in [] (aCons (eV 1) (aCons (eV 3) aNil)))) aNil) (E (.v (sL (sid F sd t))) .no) S = .ok (nl (List.range (2 ^ bts F (sid F sd t)))) S := by
    have r0 := rng0 (2 ^ bts F (sid F sd t))
    dsimp only [E]
    generalize 2 ^ bts F (sid F sd t) = P at *
    generalize bts F (sid F sd t) = BX at *
    generalize sL (sid F sd t) = SD at *
    generalize frmD F = FD at *
    simp [ci, zs, rg, r0]
  have hA : ∀ c, Inn F (wdc F (sid F sd t) c) := fun c => wdc_inn hF.nod c
  have lc1 := flcG (mi := itR1 (aCons (eOp iShl (eC (.int 1)) (eCall m__law_count_in [] (aCons (eV 1) (aCons (eV 3) aNil)))) aNil)) (te := eCall m__law_spread_out [] (aCons (eV 1) (aCons (eV 3) (aCons (eV 5) aNil)))) (g := gN 5) (vs := [5]) (env := E (.v (sL (sid F sd t))) .no) (S := S) nd (fun c => nd (wix (wdc F (sid F sd t) c) F (nms F))) (List.range (2 ^ bts F (sid F sd t))) it (by rw [List.length_range]; omega) fun c _ => ⟨[.v t.d, .v (frmD F), .v (.dic (knD K sd ln cs)), .v (sL (sid F sd t)), .no, .v (nd c), .no], rfl, by
    have sp := law_spr_ok S F (sid F sd t) c hF.sum
    rw [sprV_wix hF.nod (ys := nms F) fun p hp => mem_nms hp] at sp
    generalize wix (wdc F (sid F sd t) c) F (nms F) = W1 at *
    generalize sL (sid F sd t) = SD at *
    generalize frmD F = FD at *
    simp [sp]⟩
  have c2 : sAsg (mFrz (fLc (itR1 (aCons (eOp iShl (eC (.int 1)) (eCall m__law_count_in [] (aCons (eV 1) (aCons (eV 3) aNil)))) aNil)) (gN 5) cYes (eCall m__law_spread_out [] (aCons (eV 1) (aCons (eV 3) (aCons (eV 5) aNil)))) [5])) (gN 4) (E (.v (sL (sid F sd t))) .no) S = .nx (E (.v (sL (sid F sd t))) (.v (.lst ((List.range (2 ^ bts F (sid F sd t))).map fun c => nd (wix (wdc F (sid F sd t) c) F (nms F)))))) S := by
    rw [sAsg_eq, mFrz_eq, lc1]
    rfl
  have lc2 := flcG (mi := itL (eV 4)) (te := eCall (m__law_worth 12) [] (aCons (eV 0) (aCons (eV 1) (aCons (eV 2) (aCons (eV 6) aNil))))) (g := gN 6) (vs := [6]) (env := E (.v (sL (sid F sd t))) (.v (.lst ((List.range (2 ^ bts F (sid F sd t))).map fun c => nd (wix (wdc F (sid F sd t) c) F (nms F)))))) (S := S) (fun c => nd (wix (wdc F (sid F sd t) c) F (nms F))) (fun c => .int (ev F sd cs t (wdc F (sid F sd t) c))) (List.range (2 ^ bts F (sid F sd t))) rfl (by rw [List.length_range]; omega) fun c _ => ⟨[.v t.d, .v (frmD F), .v (.dic (knD K sd ln cs)), .v (sL (sid F sd t)), .v (.lst ((List.range (2 ^ bts F (sid F sd t))).map fun c => nd (wix (wdc F (sid F sd t) c) F (nms F)))), .no, .v (nd (wix (wdc F (sid F sd t) c) F (nms F)))], rfl, by
    have w := worth_ok (S := S) hF hK ht (n := 12) (by omega) hd (hA c)
    generalize ((List.range (2 ^ bts F (sid F sd t))).map fun c => nd (wix (wdc F (sid F sd t) c) F (nms F))) = LL at *
    generalize wix (wdc F (sid F sd t) c) F (nms F) = W1 at *
    generalize sL (sid F sd t) = SD at *
    generalize frmD F = FD at *
    generalize knD K sd ln cs = K0 at *
    generalize t.d = TD at *
    simp [w]⟩
  have cl : (List.range (2 ^ bts F (sid F sd t))).map (fun c => D.int (ev F sd cs t (wdc F (sid F sd t) c))) = (cel F sd cs t).map D.int := by
    have l := cel_len W ht
    have : cel F sd cs t = (List.range (2 ^ bts F (sid F sd t))).map fun c => ev F sd cs t (wdc F (sid F sd t) c) := by
      refine List.ext_getElem (by simp [l]) fun i h1 h2 => ?_
      have hi : i < 2 ^ bts F (sid F sd t) := by simpa using h2
      have ca := cel_at W ht (hA i)
      rw [wix_wdc hF.nod hi, List.getD_eq_getElem?_getD, List.getElem?_eq_getElem h1] at ca
      simp only [List.getElem_map, List.getElem_range]
      exact ca
    rw [this, List.map_map]
    rfl
  rw [cl] at lc2
  have st : startE 7 [t.d, frmD F, .dic (knD K sd ln cs)] = E .no .no := rfl
  unfold m__law_meant
  refine rt_mfn ?_
  rw [st]
  refine (seq_of c1).trans ((seq_of c2).trans ?_)
  rw [sRetF_eq, lc2]
  rfl
end
end Fb
namespace K51
open PySem L2 Mm Fb Gf
theorem seqn {m n : MS} {e e1 : Envr} {S S1 : Sto} (h : m e S = .nx e1 S1) : sSeq m n e S = n e1 S1 := by
  rw [sSeq_eq, h]
noncomputable def xk0 : MS := sCell 1 (fCall m__law_box [] (aCons (eV 0) aNil))
noncomputable def xk1 : MS := sAsg (eCall m__law_frame [] (aCons (eV 1) aNil)) (gN 3)
noncomputable def xk2 : MS := sAsg (eCall m__law_tables [] (aCons (eV 1) (aCons (eV 3) (aCons (eC (.int 5)) (aCons (eOp dAdd (eC (.int 1)) (eCall m__law_take [] (aCons (eV 1) (aCons (eC (.int 5)) aNil)))) aNil))))) (gN 4)
noncomputable def xk3 : MS := sAsg (eCall (m__law_tree 8) [] (aCons (eV 1) (aCons (eV 3) (aCons (eV 4) (aCons (eC (.int 3)) aNil))))) (gN 5)
noncomputable def xk4 : MS := sAsg (eCall m__law_triples [] (aCons (eV 1) (aCons (eV 4) aNil))) (gN 6)
noncomputable def xk5 : MS := sAsg (eCall m__law_meant [] (aCons (eV 5) (aCons (eV 3) (aCons (eV 4) aNil)))) (gN 7)
noncomputable def xk6 : MS := sAsg (eCall m_cells_of_k51 [] (aCons (eV 5) (aCons (eV 3) (aCons (eV 6) aNil)))) (gN 9)
noncomputable def xk7 : MS := sIf (cNot (cB (eCall (thFn (m__law_same 4)) [] (aCons (eV 9) (aCons (eV 7) aNil))))) (sRet (eC (.bl false))) sNil
noncomputable def xk8 : MS := sAppC 9 (eC (.int 0))
noncomputable def xk9 : MS := sAsg (eCall m_sides_of_t [] (aCons (eV 5) (aCons (mFrz (fCB fListOf (aCons (eV 3) aNil))) (aCons (eV 6) aNil)))) (gN 10)
noncomputable def xk10 : MS := sIf (cNot (cB (eCall (thFn (m__law_same 4)) [] (aCons (eV 10) (aCons (eCall (m__law_sides_of 12) [] (aCons (eV 5) (aCons (eV 3) (aCons (eV 4) aNil)))) aNil))))) (sRet (eC (.bl false))) sNil
noncomputable def xk11 : MS := sAppC 10 (eC (.str "q"))
noncomputable def xr12 : MS := sSeq xk10 xk11
noncomputable def xr13 : MS := sSeq xk9 xr12
noncomputable def xr14 : MS := sSeq xk8 xr13
noncomputable def xr15 : MS := sSeq xk7 xr14
noncomputable def xr16 : MS := sSeq xk6 xr15
noncomputable def xk17 : MS := sFor (itR1 (aCons (eC (.int 2)) aNil)) (gN 8) xr16
noncomputable def xr18 : MS := sSeq xk5 xk17
noncomputable def xr19 : MS := sSeq xk4 xr18
noncomputable def xr20 : MS := sSeq xk3 xr19
noncomputable def xr21 : MS := sSeq xk2 xr20
noncomputable def xr22 : MS := sSeq xk1 xr21
noncomputable def xk23 : MS := sFor (itR1 (aCons (eC (.int 4)) aNil)) (gN 2) xr22
noncomputable def xk24 : MS := sRet (eC (.bl true))
noncomputable def xr25 : MS := sSeq xk23 xk24
noncomputable def xr26 : MS := sSeq xk0 xr25
theorem m_law_eq : m_law = mFn 11 xr26 := rfl
def pos : List Str → Str → Nat
  | [], _ => 0
  | y :: ys, x => if x = y then 0 else pos ys x + 1
theorem pos_at {β : Type} (f : Str → β) : ∀ (K : List Str) (x : Str), x ∈ K → (K.map f)[pos K x]? = some (f x)
  | y :: ys, x, h => by
    unfold pos
    by_cases e : x = y
    · rw [if_pos e, e]
      rfl
    · rw [if_neg e, List.map_cons, List.getElem?_cons_succ]
      exact pos_at f ys x ((List.mem_cons.mp h).resolve_left e)
theorem pos_app : ∀ (P : List Str) (x : Str) (Q : List Str), x ∉ P → pos (P ++ x :: Q) x = P.length
  | [], x, Q, _ => by
    show (if x = x then 0 else _) = _
    rw [if_pos rfl]
    rfl
  | p :: P, x, Q, h => by
    have ne : x ≠ p := fun e => h (by rw [e]; exact List.mem_cons_self)
    show (if x = p then 0 else pos (P ++ x :: Q) x + 1) = _
    rw [if_neg ne, pos_app P x Q fun q => h (List.mem_cons_of_mem _ q)]
    rfl
section
variable {S : Sto} {F : Fr} {sd : Str → List Str} {cs : Str → List Int} {K : List Str}
abbrev tpD (sd : Str → List Str) (cs : Str → List Int) (x : Str) : D := .tup [.str x, sL (sd x), iL (cs x)]
theorem lc_new {g : MG} {te : ME} {env : Envr} (S : Sto) (H : ∀ x ∈ K, ∀ T : Sto, ∃ e1, g (tpD sd cs x) env = some e1 ∧ te e1 T = .ok (.tup [.str x, .ref T.length]) (T ++ [iC (cs x)])) : ∀ (Q P : List Str), K = P ++ Q → K.Nodup →
    lcR g cYes te env (Q.map (tpD sd cs)) (S ++ P.map fun x => iC (cs x)) = .ok (Q.map fun x => .tup [.str x, .ref (S.length + pos K x)]) (S ++ K.map fun x => iC (cs x))
  | [], P, e, _ => by
    rw [List.append_nil] at e
    subst e
    rfl
  | x :: Q, P, e, nd => by
    obtain ⟨e1, h1, h2⟩ := H x (by rw [e]; simp) (S ++ P.map fun x => iC (cs x))
    have ih := lc_new S H Q (P ++ [x]) (by rw [e]; simp) nd
    have nx : x ∉ P := fun h => by
      rw [e] at nd
      exact (List.nodup_append.mp nd).2.2 x h x List.mem_cons_self rfl
    have px : pos K x = P.length := by rw [e]; exact pos_app P x Q nx
    have e3 : S ++ P.map (fun x => iC (cs x)) ++ [iC (cs x)] = S ++ (P ++ [x]).map fun x => iC (cs x) := by simp
    rw [List.map_cons, lcR, h1]
    rw [e3] at h2
    simp only [cYes_eq, h2, ih, bind_ok', List.map_cons]
    rw [px]
    simp
theorem dc_new (S : Sto) (hK : K.Nodup) (hz : K.length ≤ 1000) (a0 a1 a3 : Sl) :
    eDc (itL (eV 2)) (gT (gNC (gN 18) (gNC (gN 9) (gNC (gN 12) gN0)))) cYes (eV 18) (eCellOf (fCB fListOf (aCons (eV 12) aNil))) [18, 9, 12] [a0, a1, .v (triL K sd cs), a3, .no, .no, .no, .no, .no, .no, .no, .no, .no, .no, .no, .no, .no, .no, .no, .no, .no, .no] S = .ok (.dic (K.map fun x => (.inr x, .ref (S.length + pos K x)))) (S ++ K.map fun x => iC (cs x)) := by
  have lc := lc_new (K := K) (sd := sd) (cs := cs) (g := gT (gNC (gN 18) (gNC (gN 9) (gNC (gN 12) gN0)))) (te := eKV (eV 18) (eCellOf (fCB fListOf (aCons (eV 12) aNil)))) (env := wipeE [a0, a1, .v (triL K sd cs), a3, .no, .no, .no, .no, .no, .no, .no, .no, .no, .no, .no, .no, .no, .no, .no, .no, .no, .no] [18, 9, 12]) S (fun x hx T => by
    refine ⟨[hideS a0, hideS a1, .v (triL K sd cs), hideS a3, .no, .no, .no, .no, .no, .v (sL (sd x)), .no, .no, .v (iL (cs x)), .no, .no, .no, .no, .no, .v (.str x), .no, .no, .no], rfl, ?_⟩
    rw [eKV_eq]
    simp [keyD_str]) K [] rfl hK
  rw [List.map_nil, List.append_nil] at lc
  have kv := kvs_map (fun x => .ref (S.length + pos K x)) K [] hK fun _ _ => rfl
  rw [eDc_eq]
  show ((Mm.R.ok (K.map (tpD sd cs)) S).bind _) = _
  rw [bind_ok', lc, bind_ok']
  unfold finDc
  rw [kv]
  simp [hz]
theorem cellsT_ok (S : Sto) (hF : FrOk F) (W : Wok F sd cs K) (hK : K.Nodup) (hz : K.length ≤ 1000) {t : Tr} (ht : Trk F sd K t) (hd : dp t < 12) (hj : jn t ≤ 900) : ∃ (X : Sto) (n : Nat), m_cells_of_k51 [t.d, frmD F, triL K sd cs] S = .ok (.val (.ref n)) (S ++ X) ∧ S.length ≤ n ∧ (S ++ X)[n]? = some (iC (cel F sd cs t)) := by
  have nf := need_frame_ok S hF
  obtain ⟨fs, e, wh, kn⟩ := weft_new S hF (kd := K.map fun x => (.inr x, sL (sd x))) (fun x hx => look_map (fun x => sL (sd x)) K x hx) ht hd (by omega)
  let S0 : Sto := S ++ [Cell.ins "Weft" fs, Cell.lst (knL F sd t 0)]
  let S1 : Sto := S0 ++ K.map fun x => iC (cs x)
  have dc1 := dcS (cs := cs) hK hz (mi := itL (eV 2)) (env := [.v t.d, .v (frmD F), .v (triL K sd cs), .no, .no, .no, .no, .no, .no, .no, .no, .no, .no, .no, .no, .no, .no, .no, .no, .no, .no, .no]) (S := S) (i := 18) (j := 9) (k := 12) (vs := [18, 9, 12]) (fun x => sL (sd x)) (eV 9) (by simp) fun x hx => ⟨[.v t.d, .v (frmD F), .v (triL K sd cs), .no, .no, .no, .no, .no, .no, .v (sL (sd x)), .no, .no, .v (iL (cs x)), .no, .no, .no, .no, .no, .v (.str x), .no, .no, .no], rfl, rfl, rfl⟩
  have dc2 := dc_new (K := K) (sd := sd) (cs := cs) S0 hK hz (.v t.d) (.v (frmD F)) (.v (.ref S.length))
  have l0 : S0.length = S.length + 2 := by simp [S0]
  have l1 : S1.length = S0.length + K.length := by simp [S1]
  let kd : List (Key × D) := K.map fun x => (.inr x, .ref (S0.length + pos K x))
  have hk : ∀ x ∈ K, ∃ n, lookK kd (.inr x) = some (.ref n) ∧ S1[n]? = some (iC (cs x)) := fun x hx => by
    refine ⟨S0.length + pos K x, look_map (fun x => .ref (S0.length + pos K x)) K x hx, ?_⟩
    simp only [S1]
    rw [List.getElem?_append_right (by omega), Nat.add_sub_cancel_left]
    exact pos_at (fun x => iC (cs x)) K x hx
  have hr : S1[S.length + 1]? = some (.lst ([] ++ knL F sd t ([] : List D).length ++ [])) := by
    simp only [S1]
    rw [List.getElem?_append_left (by omega)]
    simp [S0]
  obtain ⟨T', hT', go⟩ := cells_go (kd := kd) (S1 := S1) (r := S.length + 1) hF W (by omega) hk (.v t.d) (.v (triL K sd cs)) (.v (.ref S.length)) ht [] [] [] (100001 - jn t) [.no, .no, .no, .no, .no, .no, .no, .no, .no, .no, .no, .no, .no, .no, .no, .no] rfl rfl hr (by simp; omega)
  have m1 : 100001 - jn t + jn t = 100001 := by omega
  rw [m1] at go
  simp only [List.length_nil, Nat.zero_add, List.nil_append] at go
  obtain ⟨s6, s7, s8, s9, s10, s11, s12, s13, s14, s15, s16, s17, s18, s19, s20, s21, rfl⟩ := len16 hT'
  have hr3 : (stM S1 (mad F sd cs t))[S.length + 1]? = some (.lst (knL F sd t 0)) := by
    rw [stM_old (by omega), hr]
    simp
  have fin : forLive cwG dwBody (S.length + 1) (100001 - jn t) (jn t) (dP F kd S1.length (.v t.d) (.v (triL K sd cs)) (.v (.ref S.length)) ++ [s6, s7, s8, s9, s10, s11, s12, s13, s14, s15, s16, s17, s18, s19, s20, s21]) (stM S1 (mad F sd cs t)) = .nx (dP F kd S1.length (.v t.d) (.v (triL K sd cs)) (.v (.ref S.length)) ++ [s6, s7, s8, s9, s10, s11, s12, s13, s14, s15, s16, s17, s18, s19, s20, s21]) (stM S1 (mad F sd cs t)) := by
    have m2 : 100001 - jn t = (100000 - jn t) + 1 := by omega
    rw [m2, forLive, hr3]
    have none_ : (knL F sd t 0)[jn t]? = none := List.getElem?_eq_none (by rw [knL_len]; exact Nat.le_refl _)
    simp only [none_]
  have go := go.trans fin
  have ws : ∀ M, (stM S1 M)[S.length]? = some (.ins "Weft" fs) := fun M => by
    rw [stM_old (by omega)]
    simp only [S1]
    rw [List.getElem?_append_left (by omega)]
    simp [S0]
  have sz0 := szB_of (n := 0) (by omega)
  have em : stM S1 [] = S1 ++ [Cell.lst []] := rfl
  have fa : sForA (eFld "Weft" "knots" (eV 3)) cwG dwBody (dP F kd S1.length (.v t.d) (.v (triL K sd cs)) (.v (.ref S.length)) ++ [.no, .no, .no, .no, .no, .no, .no, .no, .no, .no, .no, .no, .no, .no, .no, .no]) (S1 ++ [Cell.lst []]) = .nx (dP F kd S1.length (.v t.d) (.v (triL K sd cs)) (.v (.ref S.length)) ++ [s6, s7, s8, s9, s10, s11, s12, s13, s14, s15, s16, s17, s18, s19, s20, s21]) (stM S1 (mad F sd cs t)) := by
    rw [← em, sForA_eq]
    have w0 := ws []
    simp only [eFld_eq, eV_eq, List.cons_append, List.getElem?_cons_succ, List.getElem?_cons_zero, bind_ok', insOf, w0, if_true, kn, opt, out_ok']
    exact go
  have last : ∃ n, eIf (cB (eOp (fNil not) (eV 5) (mFrz (fLst aNil)))) (eOp fIx (eV 5) (eUn fNeg (eC (.int 1)))) (eDGetA 4 (eOp fIx (eFld "Weft" "whole" (eV 3)) (eC (.int 0)))) (dP F kd S1.length (.v t.d) (.v (triL K sd cs)) (.v (.ref S.length)) ++ [s6, s7, s8, s9, s10, s11, s12, s13, s14, s15, s16, s17, s18, s19, s20, s21]) (stM S1 (mad F sd cs t)) = .ok (.ref n) (stM S1 (mad F sd cs t)) ∧ S.length ≤ n ∧ (stM S1 (mad F sd cs t))[n]? = some (iC (cel F sd cs t)) := by
    have hw := stM_w S1 (mad F sd cs t)
    have wsm := ws (mad F sd cs t)
    rcases mad_last F sd cs t with ⟨x, rfl⟩ | ⟨M0, hM0⟩
    · obtain ⟨n, lk, at_⟩ := hk x ht
      have lkx : lookK kd (.inr x) = some (.ref (S0.length + pos K x)) := look_map (fun x => .ref (S0.length + pos K x)) K x ht
      have en : n = S0.length + pos K x := by
        rw [lkx] at lk
        cases lk
        rfl
      refine ⟨n, ?_, by omega, by
        rw [stM_old (List.getElem?_eq_some_iff.mp at_).1]
        exact at_⟩
      have wh' : fs.lookup ("whole" : Str) = some (.tup [.str x, .non, sL (sid F sd (.nm x))]) := wh
      have fn : fNil not (stM S1 (mad F sd cs (.nm x))) (.ref S1.length) (.lst []) = some (.bl false) := by
        unfold fNil lstOf
        simp only [hw]
        rfl
      generalize kd = KD at *
      generalize stM S1 (mad F sd cs (.nm x)) = SS at *
      simp [sz0, fn, wsm, wh', hasA, dicA, dicOf, lk, Cell.d]
    · have lenM : (mad F sd cs t).length = M0.length + 1 := by rw [hM0]; simp
      refine ⟨S1.length + 1 + M0.length, ?_, by omega, ?_⟩
      · have fn : fNil not (stM S1 (mad F sd cs t)) (.ref S1.length) (.lst []) = some (.bl true) := by
          unfold fNil lstOf
          simp only [hw]
          rw [lenM]
          rfl
        have at_ : atI (rfs (S1.length + 1) (mad F sd cs t).length) (-1) = some (.ref (S1.length + 1 + M0.length)) := by
          rw [lenM, rfs_snoc]
          exact Mm.atI_m1 _ _
        generalize kd = KD at *
        generalize stM S1 (mad F sd cs t) = SS at *
        generalize rfs (S1.length + 1) (mad F sd cs t).length = RF at *
        simp [sz0, fn, hw, at_, fNeg, Cell.d]
      · refine stM_at ?_
        rw [hM0]
        simp
  obtain ⟨n, last, hn, hat⟩ := last
  have pre : ∃ X, stM S1 (mad F sd cs t) = S ++ X := ⟨[Cell.ins "Weft" fs, Cell.lst (knL F sd t 0)] ++ (K.map fun x => iC (cs x)) ++ (Cell.lst (rfs (S1.length + 1) (mad F sd cs t).length) :: (mad F sd cs t).map iC), by simp [stM, S1, S0]⟩
  obtain ⟨X, hX⟩ := pre
  rw [hX] at hat last fa
  refine ⟨X, n, ?_, hn, hat⟩
  have st : startE 22 [t.d, frmD F, triL K sd cs] = [.v t.d, .v (frmD F), .v (triL K sd cs), .no, .no, .no, .no, .no, .no, .no, .no, .no, .no, .no, .no, .no, .no, .no, .no, .no, .no, .no] := rfl
  have dc2' : eDc (itL (eV 2)) (gT (gNC (gN 18) (gNC (gN 9) (gNC (gN 12) gN0)))) cYes (eV 18) (eCellOf (fCB fListOf (aCons (eV 12) aNil))) [18, 9, 12] [.v t.d, .v (frmD F), .v (triL K sd cs), .v (.ref S.length), .no, .no, .no, .no, .no, .no, .no, .no, .no, .no, .no, .no, .no, .no, .no, .no, .no, .no] (S ++ [Cell.ins "Weft" fs, Cell.lst (knL F sd t 0)]) = .ok (.dic kd) S1 := dc2
  rw [m_cellsT_eq, mFn_eq, st]
  simp [nf, dc1, -eDc_eq, -sForA_eq, -eIf_eq]
  rw [e]
  simp [keepI, -eDc_eq, -sForA_eq, -eIf_eq]
  rw [dc2']
  simp only [List.cons_append, List.nil_append] at fa last
  generalize hS1 : S1 = SS1 at *
  simp [sz0, -sForA_eq, -eIf_eq]
  rw [fa]
  simp only []
  rw [last]
  simp
end
section
variable {F : Fr} {K K' : List Str} {sd sd' : Str → List Str} {ln : Str → List Nat} {cs : Str → List Int}
theorem cel_move (V : Wv F 5 K K' sd sd' ln cs) : ∀ {t : Tr}, Trk F sd K t → cel F sd' cs t = cel F sd cs t
  | .nm x, h => rfl
  | .sm x t, h => by
    have a := V.sid h.1
    have b := V.sid (t := .sm x t) h
    show totC (cutL (sid F sd' t) (sid F sd' (.sm x t)) F 0) (bts F (sid F sd' t)) (bts F (sid F sd' (.sm x t))) (cel F sd' cs t) = _
    rw [a, b, cel_move V h.1]
    rfl
  | .bi k u v, h => by
    have a := V.sid h.2.1
    have b := V.sid h.2.2
    have c := V.sid (t := .bi k u v) h
    show ((List.range (2 ^ bts F (sid F sd' (.bi k u v)))).map fun c => mixI k ((cel F sd' cs u).getD (app (cutL (sid F sd' (.bi k u v)) (sid F sd' u) F 0) c) 0) ((cel F sd' cs v).getD (app (cutL (sid F sd' (.bi k u v)) (sid F sd' v) F 0) c) 0)) = _
    rw [a, b, c, cel_move V h.2.1, cel_move V h.2.2]
    rfl
theorem th_of {S : Sto} {n : Nat} {ds : List D} (h : S[n]? = some (.lst ds)) (hn : noRefL ds = true) : thL S [.ref n, .lst ds] = some [.lst ds, .lst ds] := by
  have nr : noRef (.lst ds) = true := hn
  have t1 : mapRef (thF S 3) (.ref n) = some (.lst ds) := by
    show thF S 3 n = _
    unfold thF
    rw [h]
    show mapRef (thF S 2) (.lst ds) = _
    exact mapRef_no nr
  have t2 : mapRef (thF S 3) (.lst ds) = some (.lst ds) := mapRef_no nr
  have cons : ∀ (f : Nat → Option D) (d : D) (ds : List D), mapRefL f (d :: ds) = (mapRef f d).bind fun e => (mapRefL f ds).map (e :: ·) := fun f d ds => by
    conv => lhs; unfold mapRefL
  have nil : ∀ (f : Nat → Option D), mapRefL f [] = some [] := fun f => by unfold mapRefL; rfl
  unfold thL
  rw [cons, cons, nil, t1, t2]
  rfl
theorem same_th {S : Sto} {n : Nat} {ds : List D} (h : S[n]? = some (.lst ds)) (hn : noRefL ds = true) (hp : plainN 4 (.lst ds) = true) : thFn (m__law_same 4) [.ref n, .lst ds] S = .ok (.val (.bl true)) S := by
  rw [thFn_eq, th_of h hn]
  simp only
  rw [same_refl [] 4 _ hp]
  rfl
theorem nr_ints : ∀ c : List Int, noRefL (c.map D.int) = true
  | [] => rfl
  | i :: c => by
    show (noRef (.int i) && noRefL (c.map D.int)) = true
    rw [nr_ints c]
    rfl
abbrev E (ns : List Int) (s2 s3 s4 s5 s6 s7 s8 s9 s10 : Sl) : Envr := [.v (.scr ns), .v (.ref 0), s2, s3, s4, s5, s6, s7, s8, s9, s10]
theorem cons_setN {b : Cell} {R : Sto} {n : Nat} (h : 1 ≤ n) (c : Cell) : (b :: R).set n c = b :: R.set (n - 1) c := by
  obtain ⟨m, rfl⟩ : ∃ m, n = m + 1 := ⟨n - 1, by omega⟩
  rfl
theorem again_ok (V : Wv F 5 K K' sd sd' ln cs) (ns : List Int) {t : Tr} (ht : Trk F sd K t) (hd : dp t ≤ 9) (b : Cell) (R : Sto) (s2 s8 s9 s10 : Sl) :
    ∃ (R' : Sto) (t9 t10 : Sl), xr16 (E ns s2 (.v (frmD F)) (.v (.dic (knD K sd ln cs))) (.v t.d) (.v (triL K' sd' cs)) (.v (iL (cel F sd cs t))) s8 s9 s10) (b :: R) = .nx (E ns s2 (.v (frmD F)) (.v (.dic (knD K sd ln cs))) (.v t.d) (.v (triL K' sd' cs)) (.v (iL (cel F sd cs t))) s8 t9 t10) (b :: R') := by
  have lk := V.pm.length_eq
  have few := V.few
  obtain ⟨X, n, e1, hn, g1⟩ := cellsT_ok (b :: R) V.fr V.wok V.nod (by omega) (V.trk ht) (by omega) (jn_le hd)
  rw [cel_move V ht] at g1
  have sh : (cel F sd cs t).length ≤ 128 := by
    have := V.short ht
    rw [cel_move V ht] at this
    exact this
  have sm := same_th g1 (nr_ints _) (iL_plain (n := 2) (c := cel F sd cs t) (by omega))
  have n1 : 1 ≤ n := Nat.le_trans (by simp) hn
  have sz := szB_of (n := (cel F sd cs t).length + 1) (by omega)
  have e1 : m_cells_of_k51 [t.d, frmD F, triL K' sd' cs] (b :: R) = .ok (.val (.ref n)) (b :: (R ++ X)) := e1
  have g1 : (b :: (R ++ X))[n]? = some (iC (cel F sd cs t)) := g1
  have sm : thFn (m__law_same 4) [.ref n, iL (cel F sd cs t)] (b :: (R ++ X)) = .ok (.val (.bl true)) (b :: (R ++ X)) := sm
  generalize R ++ X = R1 at *
  have c6 : xk6 (E ns s2 (.v (frmD F)) (.v (.dic (knD K sd ln cs))) (.v t.d) (.v (triL K' sd' cs)) (.v (iL (cel F sd cs t))) s8 s9 s10) (b :: R) = .nx (E ns s2 (.v (frmD F)) (.v (.dic (knD K sd ln cs))) (.v t.d) (.v (triL K' sd' cs)) (.v (iL (cel F sd cs t))) s8 (.v (.ref n)) s10) (b :: R1) := by
    generalize triL K' sd' cs = TL at *
    generalize frmD F = FD at *
    generalize t.d = TD at *
    generalize iL (cel F sd cs t) = CD at *
    generalize D.dic (knD K sd ln cs) = KD at *
    simp [xk6, e1]
  have c7 : xk7 (E ns s2 (.v (frmD F)) (.v (.dic (knD K sd ln cs))) (.v t.d) (.v (triL K' sd' cs)) (.v (iL (cel F sd cs t))) s8 (.v (.ref n)) s10) (b :: R1) = .nx (E ns s2 (.v (frmD F)) (.v (.dic (knD K sd ln cs))) (.v t.d) (.v (triL K' sd' cs)) (.v (iL (cel F sd cs t))) s8 (.v (.ref n)) s10) (b :: R1) := by
    unfold xk7
    generalize thFn (m__law_same 4) = TS at *
    generalize triL K' sd' cs = TL at *
    generalize frmD F = FD at *
    generalize t.d = TD at *
    generalize iL (cel F sd cs t) = CD at *
    generalize D.dic (knD K sd ln cs) = KD at *
    simp [sm]
  have c8 : xk8 (E ns s2 (.v (frmD F)) (.v (.dic (knD K sd ln cs))) (.v t.d) (.v (triL K' sd' cs)) (.v (iL (cel F sd cs t))) s8 (.v (.ref n)) s10) (b :: R1) = .nx (E ns s2 (.v (frmD F)) (.v (.dic (knD K sd ln cs))) (.v t.d) (.v (triL K' sd' cs)) (.v (iL (cel F sd cs t))) s8 (.v (.ref n)) s10) (b :: R1.set (n - 1) (.lst ((cel F sd cs t).map D.int ++ [.int 0]))) := by
    rw [← cons_setN n1]
    have ml : ((cel F sd cs t).map D.int).length = (cel F sd cs t).length := List.length_map _
    rw [← ml] at sz
    generalize triL K' sd' cs = TL at *
    generalize frmD F = FD at *
    generalize t.d = TD at *
    generalize D.dic (knD K sd ln cs) = KD at *
    generalize hC : (cel F sd cs t).map D.int = CL at *
    generalize b :: R1 = S1 at *
    have g1 : S1[n]? = some (.lst CL) := by
      rw [g1, ← hC]
    simp [xk8, g1, sz]
  generalize R1.set (n - 1) (.lst ((cel F sd cs t).map D.int ++ [.int 0])) = R2 at *
  obtain ⟨Y, n2, e3, hn2, g3⟩ := sidesT_ok (cs := cs) (b :: R2) V.fr V.nod (by omega) (V.trk ht) (by omega) (by have := jn_le hd; omega)
  rw [V.sid ht] at g3
  have nn1 : 1 ≤ n2 := Nat.le_trans (by simp) hn2
  obtain ⟨r, e4, rd⟩ := V.law (n := 12) ht (by omega) (b :: (R2 ++ Y))
  have sl := sid_len F sd t
  have fl := V.fr.len
  have sm2 := same_th g3 (nr_strs _) (strs_plain (k := 2) (fun x hx => V.fr.sok x (sid_sub hx)) (by omega))
  have e3 : m_sides_of_t [t.d, frmD F, triL K' sd' cs] (b :: R2) = .ok (.val (.ref n2)) (b :: (R2 ++ Y)) := e3
  have g3 : (b :: (R2 ++ Y))[n2]? = some (.lst ((sid F sd t).map D.str)) := g3
  have sm2 : thFn (m__law_same 4) [.ref n2, sL (sid F sd t)] (b :: (R2 ++ Y)) = .ok (.val (.bl true)) (b :: (R2 ++ Y)) := sm2
  generalize R2 ++ Y = R3 at *
  have sz2 := szB_of (n := ((sid F sd t).map D.str).length + 1) (by rw [List.length_map]; omega)
  have c9 : xk9 (E ns s2 (.v (frmD F)) (.v (.dic (knD K sd ln cs))) (.v t.d) (.v (triL K' sd' cs)) (.v (iL (cel F sd cs t))) s8 (.v (.ref n)) s10) (b :: R2) = .nx (E ns s2 (.v (frmD F)) (.v (.dic (knD K sd ln cs))) (.v t.d) (.v (triL K' sd' cs)) (.v (iL (cel F sd cs t))) s8 (.v (.ref n)) (.v (.ref n2))) (b :: R3) := by
    have fl : fListOf (b :: R2) [frmD F] = some (.lst (F.map dS)) := rfl
    have dd : (Cell.lst (F.map dS)).d = frmD F := rfl
    generalize triL K' sd' cs = TL at *
    generalize frmD F = FD at *
    generalize t.d = TD at *
    generalize iL (cel F sd cs t) = CD at *
    generalize D.dic (knD K sd ln cs) = KD at *
    generalize Cell.lst (F.map dS) = CF at *
    simp [xk9, e3, fl, dd]
  have c10 : xk10 (E ns s2 (.v (frmD F)) (.v (.dic (knD K sd ln cs))) (.v t.d) (.v (triL K' sd' cs)) (.v (iL (cel F sd cs t))) s8 (.v (.ref n)) (.v (.ref n2))) (b :: R3) = .nx (E ns s2 (.v (frmD F)) (.v (.dic (knD K sd ln cs))) (.v t.d) (.v (triL K' sd' cs)) (.v (iL (cel F sd cs t))) s8 (.v (.ref n)) (.v (.ref n2))) (b :: R3) := by
    unfold xk10
    generalize thFn (m__law_same 4) = TS at *
    generalize triL K' sd' cs = TL at *
    generalize frmD F = FD at *
    generalize t.d = TD at *
    generalize iL (cel F sd cs t) = CD at *
    generalize D.dic (knD K sd ln cs) = KD at *
    generalize sL (sid F sd t) = SD at *
    simp [e4, rd, sm2]
  have c11 : xk11 (E ns s2 (.v (frmD F)) (.v (.dic (knD K sd ln cs))) (.v t.d) (.v (triL K' sd' cs)) (.v (iL (cel F sd cs t))) s8 (.v (.ref n)) (.v (.ref n2))) (b :: R3) = .nx (E ns s2 (.v (frmD F)) (.v (.dic (knD K sd ln cs))) (.v t.d) (.v (triL K' sd' cs)) (.v (iL (cel F sd cs t))) s8 (.v (.ref n)) (.v (.ref n2))) (b :: R3.set (n2 - 1) (.lst ((sid F sd t).map D.str ++ [.str "q"]))) := by
    rw [← cons_setN nn1]
    generalize triL K' sd' cs = TL at *
    generalize frmD F = FD at *
    generalize t.d = TD at *
    generalize iL (cel F sd cs t) = CD at *
    generalize D.dic (knD K sd ln cs) = KD at *
    generalize (sid F sd t).map D.str = SL at *
    generalize b :: R3 = S3 at *
    simp [xk11, g3, sz2]
  refine ⟨R3.set (n2 - 1) (.lst ((sid F sd t).map D.str ++ [.str "q"])), .v (.ref n), .v (.ref n2), ?_⟩
  unfold xr16 xr15 xr14 xr13 xr12
  rw [seqn c6, seqn c7, seqn c8, seqn c9, seqn c10]
  exact c11
end
theorem turn_ok (ns : List Int) {b : Cell} {R : Sto} (hb : Bx b) (s2 s3 s4 s5 s6 s7 s8 s9 s10 : Sl) :
    ∃ (b' : Cell) (R' : Sto) (t3 t4 t5 t6 t7 t8 t9 t10 : Sl), xr22 (E ns s2 s3 s4 s5 s6 s7 s8 s9 s10) (b :: R) = .nx (E ns s2 t3 t4 t5 t6 t7 t8 t9 t10) (b' :: R') ∧ Bx b' := by
  obtain ⟨b1, F, f1, hb1, hF, hs5, hl3, _⟩ := law_frame_ok (R := R) hb
  obtain ⟨b2, u, t1, hb2, lu⟩ := takeKR (R := R) hb1 5 5 rfl (by decide) (by decide)
  obtain ⟨b3, sd, ln, cs, f2, hb3, hK⟩ := law_tables_ok (R := R) (deep := 5) (count := 1 + u) (by decide) hs5 (by omega) hb2 5 rfl ((1 + u : Nat) : Int) rfl
  have fewK : (tabN.take (1 + u)).length < 64 := by
    rw [List.length_take]
    simp [tabN]
    omega
  have neK : tabN.take (1 + u) ≠ [] := by
    rw [Nat.add_comm]
    intro h
    cases h
  generalize tabN.take (1 + u) = K at *
  obtain ⟨b4, t, f3, hb4, ht, hd⟩ := law_tree_ok (R := R) hF hK neK fewK 8 3 hb3 (by omega) (by omega)
  obtain ⟨b5, K', sd', f4, hb5, pm, ps⟩ := law_triples_ok (R := R) hK hF.len fewK hb4
  have V : Wv F 5 K K' sd sd' ln cs := ⟨hF, hK, pm, ps, fewK⟩
  have f5 := meant_ok (S := b5 :: R) hF hK ht (by omega)
  have c1 : xk1 (E ns s2 s3 s4 s5 s6 s7 s8 s9 s10) (b :: R) = .nx (E ns s2 (.v (frmD F)) s4 s5 s6 s7 s8 s9 s10) (b1 :: R) := by
    simp [xk1, f1]
  have c2 : xk2 (E ns s2 (.v (frmD F)) s4 s5 s6 s7 s8 s9 s10) (b1 :: R) = .nx (E ns s2 (.v (frmD F)) (.v (.dic (knD K sd ln cs))) s5 s6 s7 s8 s9 s10) (b3 :: R) := by
    have da : dAdd (b2 :: R) (.int 1) (nd u) = some (nd (1 + u)) := rfl
    have f2 : m__law_tables [.ref 0, frmD F, .int 5, nd (1 + u)] (b2 :: R) = _ := f2
    generalize frmD F = FD at *
    generalize nd (1 + u) = CD at *
    simp [xk2, t1, da, f2, Cell.d]
  have c3 : xk3 (E ns s2 (.v (frmD F)) (.v (.dic (knD K sd ln cs))) s5 s6 s7 s8 s9 s10) (b3 :: R) = .nx (E ns s2 (.v (frmD F)) (.v (.dic (knD K sd ln cs))) (.v t.d) s6 s7 s8 s9 s10) (b4 :: R) := by
    have f3 : m__law_tree 8 [.ref 0, frmD F, .dic (knD K sd ln cs), .int 3] (b3 :: R) = .ok (.val t.d) (b4 :: R) := f3
    generalize frmD F = FD at *
    generalize D.dic (knD K sd ln cs) = KD at *
    generalize t.d = TD at *
    simp [xk3, f3]
  have c4 : xk4 (E ns s2 (.v (frmD F)) (.v (.dic (knD K sd ln cs))) (.v t.d) s6 s7 s8 s9 s10) (b4 :: R) = .nx (E ns s2 (.v (frmD F)) (.v (.dic (knD K sd ln cs))) (.v t.d) (.v (triL K' sd' cs)) s7 s8 s9 s10) (b5 :: R) := by
    have dd : (Ret.own (Cell.lst (K'.map fun x => .tup [.str x, sL (sd' x), iL (cs x)]))).d = triL K' sd' cs := rfl
    generalize Ret.own (Cell.lst (K'.map fun x => .tup [.str x, sL (sd' x), iL (cs x)])) = RV at *
    generalize frmD F = FD at *
    generalize D.dic (knD K sd ln cs) = KD at *
    generalize triL K' sd' cs = TL at *
    generalize t.d = TD at *
    simp [xk4, f4, dd]
  have c5 : xk5 (E ns s2 (.v (frmD F)) (.v (.dic (knD K sd ln cs))) (.v t.d) (.v (triL K' sd' cs)) s7 s8 s9 s10) (b5 :: R) = .nx (E ns s2 (.v (frmD F)) (.v (.dic (knD K sd ln cs))) (.v t.d) (.v (triL K' sd' cs)) (.v (iL (cel F sd cs t))) s8 s9 s10) (b5 :: R) := by
    have dd : (Ret.own (Cell.lst ((cel F sd cs t).map D.int))).d = iL (cel F sd cs t) := rfl
    generalize Ret.own (Cell.lst ((cel F sd cs t).map D.int)) = RV at *
    generalize frmD F = FD at *
    generalize D.dic (knD K sd ln cs) = KD at *
    generalize triL K' sd' cs = TL at *
    generalize t.d = TD at *
    generalize iL (cel F sd cs t) = CD at *
    simp [xk5, f5, dd]
  have key : NX (xk17 (E ns s2 (.v (frmD F)) (.v (.dic (knD K sd ln cs))) (.v t.d) (.v (triL K' sd' cs)) (.v (iL (cel F sd cs t))) s8 s9 s10) (b5 :: R)) fun e S => ∃ (Rb : Sto) (s8 s9 s10 : Sl), e = E ns s2 (.v (frmD F)) (.v (.dic (knD K sd ln cs))) (.v t.d) (.v (triL K' sd' cs)) (.v (iL (cel F sd cs t))) s8 s9 s10 ∧ S = b5 :: Rb := by
    have it : ∃ ds, itR1 (aCons (eC (.int 2)) aNil) (E ns s2 (.v (frmD F)) (.v (.dic (knD K sd ln cs))) (.v t.d) (.v (triL K' sd' cs)) (.v (iL (cel F sd cs t))) s8 s9 s10) (b5 :: R) = .ok ds (b5 :: R) := by
      have r3 : rgB (2 : Int) = true := rgB_nat (n := 2) (by omega)
      exact ⟨_, by simp [r3]; rfl⟩
    obtain ⟨ds, it⟩ := it
    unfold xk17
    rw [sFor_eq, it, out_ok']
    refine NX_for (fun ds e S => ∃ (Rb : Sto) (s8 s9 s10 : Sl), e = E ns s2 (.v (frmD F)) (.v (.dic (knD K sd ln cs))) (.v t.d) (.v (triL K' sd' cs)) (.v (iL (cel F sd cs t))) s8 s9 s10 ∧ S = b5 :: Rb) ⟨R, _, _, _, rfl, rfl⟩ (fun d ds e S hI => ?_) fun e S hI => hI
    obtain ⟨Rb, q8, q9, q10, rfl, rfl⟩ := hI
    refine ⟨E ns s2 (.v (frmD F)) (.v (.dic (knD K sd ln cs))) (.v t.d) (.v (triL K' sd' cs)) (.v (iL (cel F sd cs t))) (.v d) q9 q10, rfl, ?_⟩
    obtain ⟨R', t9, t10, e⟩ := again_ok V ns ht (by omega) b5 Rb s2 (.v d) q9 q10
    rw [e]
    exact ⟨R', _, _, _, rfl, rfl⟩
  obtain ⟨e', S', c17, Rb, q8, q9, q10, rfl, rfl⟩ := NX_iff.mp key
  refine ⟨b5, Rb, .v (frmD F), .v (.dic (knD K sd ln cs)), .v t.d, .v (triL K' sd' cs), .v (iL (cel F sd cs t)), q8, q9, q10, ?_, hb5⟩
  unfold xr22 xr21 xr20 xr19 xr18
  rw [seqn c1, seqn c2, seqn c3, seqn c4, seqn c5, c17]
theorem pure_law (ns : List Int) (hl : ns.length ≤ 63) (hb : ∀ z ∈ ns, Builtin.Int.intBits z ≤ 1048576) : ∃ S, m_law [.scr ns] [] = .ok (.val (.bl true)) S := by
  rw [m_law_eq]
  refine law_run (k := 9) (c := 0) ns rfl fun b hb => ?_
  have i0 : LE ns (List.replicate 9 .no) 0 = E ns .no .no .no .no .no .no .no .no .no := rfl
  rw [i0]
  have key : NX (xk23 (E ns .no .no .no .no .no .no .no .no .no) [b]) fun e S => True := by
    have it : ∃ ds, itR1 (aCons (eC (.int 4)) aNil) (E ns .no .no .no .no .no .no .no .no .no) [b] = .ok ds [b] := by
      have r3 : rgB (4 : Int) = true := rgB_nat (n := 4) (by omega)
      exact ⟨_, by simp [r3]; rfl⟩
    obtain ⟨ds, it⟩ := it
    unfold xk23
    rw [sFor_eq, it, out_ok']
    refine NX_for (fun ds e S => ∃ (bb : Cell) (RR : Sto) (s2 s3 s4 s5 s6 s7 s8 s9 s10 : Sl), e = E ns s2 s3 s4 s5 s6 s7 s8 s9 s10 ∧ S = bb :: RR ∧ Bx bb) ⟨b, [], _, _, _, _, _, _, _, _, _, rfl, rfl, hb⟩ (fun d ds e S h => ?_) fun _ _ _ => trivial
    obtain ⟨bb, RR, s2, s3, s4, s5, s6, s7, s8, s9, s10, rfl, rfl, hbb⟩ := h
    refine ⟨E ns (.v d) s3 s4 s5 s6 s7 s8 s9 s10, rfl, ?_⟩
    obtain ⟨b', R', t3, t4, t5, t6, t7, t8, t9, t10, e, hb'⟩ := turn_ok (R := RR) ns hbb (.v d) s3 s4 s5 s6 s7 s8 s9 s10
    rw [e]
    exact ⟨b', R', _, _, _, _, _, _, _, _, _, rfl, rfl, hb'⟩
  obtain ⟨e', S', eq, _⟩ := NX_iff.mp key
  unfold xr25
  rw [seqn eq]
  exact rfl
end K51
open PySem PySem.W PySem.Calls PyProof.Rows in
set_option maxHeartbeats 0 in
theorem PySem.Challenge.cw_foldberth_k51_cells_of_wefts_holds : PySem.Challenge.rw_foldberth_k51_cells_of_wefts.Holds := by
  w_on; o_law
  refine HandSHeadRun.head_any (r := OpenLaw.row PySem.Challenge.rw_foldberth_k51_cells_of_wefts) (q := view (OpenLaw.row PySem.Challenge.rw_foldberth_k51_cells_of_wefts).prog [57]) (H := K51.hk) (ob := K51.ob) (M := 20000) (loose := K51.loose) (d := HandSHeadRun.topDef (OpenLaw.row PySem.Challenge.rw_foldberth_k51_cells_of_wefts).prog 57) (kwd := []) K51.ob_eq
    (by kernel_rfl) (fun s => by kernel_rfl) K51.run (by kernel_rfl) (by kernel_rfl) (by kernel_rfl) (by rfl) (by first | assumption | decide +kernel) (by decide +kernel) ⟨rfl, rfl, rfl, rfl, rfl, by decide +kernel⟩ ?hw ?hc
  case hw => w_witness2
  case hc =>
    refine LamX.walk_ofTsE (l := PySem.Challenge.rw_foldberth_k51_cells_of_wefts) (n := 63) (k := 23) (x := "_law_script") (CX := fun w => L2N.CX (PySem.Challenge.rw_foldberth_k51_cells_of_wefts).prog w) rfl (by decide) (by kernel_rfl) ⟨rfl, by decide, by decide⟩ ?F (fun w H s e s' z => Mm.cx_none _ w H s e s' z)
    intro w mg fa h Y G hmg0
    obtain ⟨K, KX, c⟩ := Y
    have hmg : mg ("law" : PySem.Str) = some (.ref fa) := by
      have e : (HandSHeadRun.topDef (OpenLaw.row PySem.Challenge.rw_foldberth_k51_cells_of_wefts).prog 57).name = ("law" : PySem.Str) := by kernel_rfl
      rw [← e]
      exact hmg0
    obtain ⟨fd, hb, hF⟩ := K51.facts (P := (PySem.Challenge.rw_foldberth_k51_cells_of_wefts).prog) (w := w) KX G hmg c
    exact ⟨K, KX, Mm.law_atT K51.tf c KX hb K51.pure_law hF⟩
