import PyProof.Rows.All
import Wide.All
import OpenK.AllK
import Wide.FinOn
import KE.KStateDown
import Lean
import HandS.ForMost
import HandS.Exc
import HandS.ExcInit
import HandS.Defaults
import HandS.Head0
import HandS.Head1
import HandS.Head2
import HandS.HeadEnd
import HandS.HeadHook1
import HandS.HeadHook2
import HandS.HeadHook3
import PySem.Challenge.RW_evenpoints_k94_whole_least_papers_let_by
import HandS.TupAny
import HandS.IsInst
import HandS.Conv
import HandS.TupLe
import HandS.Zip
import KE.DataMinMax
import PyProof.ReprRoads
import HandS.More
import HandS.TupMul
import HandS.SetFor
import HandS.Strs
import HandS.ExcOwn
import HandS.TryOnly
import HandS.WordsExc
import HandS.Ends
set_option Elab.async false
set_option linter.all false
set_option maxRecDepth 100000
set_option maxHeartbeats 0
/-! HdA: what the top leaves, run by the kernel. -/
namespace Pu
open PySem PySem.Spec L2
def top (i : Nat) : Stmt := PySem.Challenge.pw_evenpoints_k94_whole_least_papers_let_by.main.body.getD i (.Pass ⟨0, 0, 0, 0⟩)
def d_Nought_init : He.DefD := ⟨("Nought", some "__init__"), "__init__", "Nought.__init__", defArgs (inClass (top 2) 0), defBody (inClass (top 2) 0), defScope (inClass (top 2) 0), [], []⟩
def d_TooMany_init : He.DefD := ⟨("TooMany", some "__init__"), "__init__", "TooMany.__init__", defArgs (inClass (top 3) 0), defBody (inClass (top 3) 0), defScope (inClass (top 3) 0), [], []⟩
def d_NoPaper_init : He.DefD := ⟨("NoPaper", some "__init__"), "__init__", "NoPaper.__init__", defArgs (inClass (top 4) 0), defBody (inClass (top 4) 0), defScope (inClass (top 4) 0), [], []⟩
def d_is_whole : He.DefD := ⟨("is_whole", none), "is_whole", "is_whole", defArgs (top 8), defBody (top 8), defScope (top 8), [], []⟩
def d_shared : He.DefD := ⟨("shared", none), "shared", "shared", defArgs (top 9), defBody (top 9), defScope (top 9), [], []⟩
def d_is_fraction : He.DefD := ⟨("is_fraction", none), "is_fraction", "is_fraction", defArgs (top 10), defBody (top 10), defScope (top 10), [], []⟩
def d_fraction : He.DefD := ⟨("fraction", none), "fraction", "fraction", defArgs (top 11), defBody (top 11), defScope (top 11), [], []⟩
def d_plus : He.DefD := ⟨("plus", none), "plus", "plus", defArgs (top 12), defBody (top 12), defScope (top 12), [], []⟩
def d_less : He.DefD := ⟨("less", none), "less", "less", defArgs (top 13), defBody (top 13), defScope (top 13), [], []⟩
def d_times : He.DefD := ⟨("times", none), "times", "times", defArgs (top 14), defBody (top 14), defScope (top 14), [], []⟩
def d_is_below : He.DefD := ⟨("is_below", none), "is_below", "is_below", defArgs (top 15), defBody (top 15), defScope (top 15), [], []⟩
def d_in_size : He.DefD := ⟨("in_size", none), "in_size", "in_size", defArgs (top 16), defBody (top 16), defScope (top 16), [], []⟩
def d_is_edge : He.DefD := ⟨("is_edge", none), "is_edge", "is_edge", defArgs (top 19), defBody (top 19), defScope (top 19), [], []⟩
def d_is_side : He.DefD := ⟨("is_side", none), "is_side", "is_side", defArgs (top 20), defBody (top 20), defScope (top 20), [], []⟩
def d_is_box : He.DefD := ⟨("is_box", none), "is_box", "is_box", defArgs (top 21), defBody (top 21), defScope (top 21), [], []⟩
def d_is_of : He.DefD := ⟨("is_of", none), "is_of", "is_of", defArgs (top 22), defBody (top 22), defScope (top 22), [], []⟩
def d_from_nought : He.DefD := ⟨("from_nought", none), "from_nought", "from_nought", defArgs (top 23), defBody (top 23), defScope (top 23), [], []⟩
def d_side_size : He.DefD := ⟨("side_size", none), "side_size", "side_size", defArgs (top 24), defBody (top 24), defScope (top 24), [], []⟩
def d_size_of : He.DefD := ⟨("size_of", none), "size_of", "size_of", defArgs (top 25), defBody (top 25), defScope (top 25), [], []⟩
def d_is_behind : He.DefD := ⟨("is_behind", none), "is_behind", "is_behind", defArgs (top 26), defBody (top 26), defScope (top 26), [], []⟩
def d_is_ahead : He.DefD := ⟨("is_ahead", none), "is_ahead", "is_ahead", defArgs (top 27), defBody (top 27), defScope (top 27), [], []⟩
def d_lies : He.DefD := ⟨("lies", none), "lies", "lies", defArgs (top 28), defBody (top 28), defScope (top 28), [], []⟩
def d_lies_in : He.DefD := ⟨("lies_in", none), "lies_in", "lies_in", defArgs (top 29), defBody (top 29), defScope (top 29), [], []⟩
def d_inside : He.DefD := ⟨("inside", none), "inside", "inside", defArgs (top 30), defBody (top 30), defScope (top 30), [], []⟩
def d_over_of : He.DefD := ⟨("over_of", none), "over_of", "over_of", defArgs (top 31), defBody (top 31), defScope (top 31), [], []⟩
def d_lack_of : He.DefD := ⟨("lack_of", none), "lack_of", "lack_of", defArgs (top 32), defBody (top 32), defScope (top 32), [], []⟩
def d_sides_of : He.DefD := ⟨("sides_of", none), "sides_of", "sides_of", defArgs (top 34), defBody (top 34), defScope (top 34), [], []⟩
def d_numbers_at : He.DefD := ⟨("numbers_at", none), "numbers_at", "numbers_at", defArgs (top 35), defBody (top 35), defScope (top 35), [], []⟩
def d_side_looks : He.DefD := ⟨("side_looks", none), "side_looks", "side_looks", defArgs (top 40), defBody (top 40), defScope (top 40), [], []⟩
def d_many_at_side : He.DefD := ⟨("many_at_side", none), "many_at_side", "many_at_side", defArgs (top 41), defBody (top 41), defScope (top 41), [], []⟩
def d_many_looks : He.DefD := ⟨("many_looks", none), "many_looks", "many_looks", defArgs (top 42), defBody (top 42), defScope (top 42), [], []⟩
def d_looks : He.DefD := ⟨("looks", none), "looks", "looks", defArgs (top 43), defBody (top 43), defScope (top 43), [], []⟩
def d_misses_of : He.DefD := ⟨("misses_of", none), "misses_of", "misses_of", defArgs (top 44), defBody (top 44), defScope (top 44), [], []⟩
def d_worst : He.DefD := ⟨("worst", none), "worst", "worst", defArgs (top 45), defBody (top 45), defScope (top 45), [], []⟩
def d_places_of : He.DefD := ⟨("places_of", none), "places_of", "places_of", defArgs (top 48), defBody (top 48), defScope (top 48), [], []⟩
def d_many_sets : He.DefD := ⟨("many_sets", none), "many_sets", "many_sets", defArgs (top 49), defBody (top 49), defScope (top 49), [], []⟩
def d_sets_of : He.DefD := ⟨("sets_of", none), "sets_of", "sets_of", defArgs (top 50), defBody (top 50), defScope (top 50), [], []⟩
def d_least_set : He.DefD := ⟨("least_set", none), "least_set", "least_set", defArgs (top 51), defBody (top 51), defScope (top 51), [], []⟩
def d_tree_of : He.DefD := ⟨("tree_of", none), "tree_of", "tree_of", defArgs (top 52), defBody (top 52), defScope (top 52), [], []⟩
def d_is_shaped : He.DefD := ⟨("is_shaped", none), "is_shaped", "is_shaped", defArgs (top 55), defBody (top 55), defScope (top 55), [], []⟩
def d_lying : He.DefD := ⟨("lying", none), "lying", "lying", defArgs (top 56), defBody (top 56), defScope (top 56), [], []⟩
def d_over_by : He.DefD := ⟨("over_by", none), "over_by", "over_by", defArgs (top 57), defBody (top 57), defScope (top 57), [], []⟩
def d_lack_by : He.DefD := ⟨("lack_by", none), "lack_by", "lack_by", defArgs (top 58), defBody (top 58), defScope (top 58), [], []⟩
def d_is_corner : He.DefD := ⟨("is_corner", none), "is_corner", "is_corner", defArgs (top 59), defBody (top 59), defScope (top 59), [], []⟩
def d_Walk_init : He.DefD := ⟨("Walk", some "__init__"), "__init__", "Walk.__init__", defArgs (inClass (top 60) 0), defBody (inClass (top 60) 0), defScope (inClass (top 60) 0), [], []⟩
def d_Walk_leaf_holds : He.DefD := ⟨("Walk", some "leaf_holds"), "leaf_holds", "Walk.leaf_holds", defArgs (inClass (top 60) 1), defBody (inClass (top 60) 1), defScope (inClass (top 60) 1), [], []⟩
def d_Walk_go : He.DefD := ⟨("Walk", some "go"), "go", "Walk.go", defArgs (inClass (top 60) 2), defBody (inClass (top 60) 2), defScope (inClass (top 60) 2), [], []⟩
def d_lets_least : He.DefD := ⟨("lets_least", none), "lets_least", "lets_least", defArgs (top 61), defBody (top 61), defScope (top 61), [], []⟩
def d_l_tape : He.DefD := ⟨("_law_tape", none), "_law_tape", "_law_tape", defArgs (top 63), defBody (top 63), defScope (top 63), [], []⟩
def d_l_draw : He.DefD := ⟨("_law_draw", none), "_law_draw", "_law_draw", defArgs (top 64), defBody (top 64), defScope (top 64), [], []⟩
def d_l_low : He.DefD := ⟨("_law_low", none), "_law_low", "_law_low", defArgs (top 65), defBody (top 65), defScope (top 65), [], []⟩
def d_l_grid : He.DefD := ⟨("_law_grid", none), "_law_grid", "_law_grid", defArgs (top 66), defBody (top 66), defScope (top 66), [], []⟩
def d_l_places : He.DefD := ⟨("_law_places", none), "_law_places", "_law_places", defArgs (top 67), defBody (top 67), defScope (top 67), [], []⟩
def d_l_sets : He.DefD := ⟨("_law_sets", none), "_law_sets", "_law_sets", defArgs (top 68), defBody (top 68), defScope (top 68), [], []⟩
def d_l_side_looks : He.DefD := ⟨("_law_side_looks", none), "_law_side_looks", "_law_side_looks", defArgs (top 69), defBody (top 69), defScope (top 69), [], []⟩
def d_l_side_size : He.DefD := ⟨("_law_side_size", none), "_law_side_size", "_law_side_size", defArgs (top 70), defBody (top 70), defScope (top 70), [], []⟩
def d_l_lies : He.DefD := ⟨("_law_lies", none), "_law_lies", "_law_lies", defArgs (top 71), defBody (top 71), defScope (top 71), [], []⟩
def d_l_worst : He.DefD := ⟨("_law_worst", none), "_law_worst", "_law_worst", defArgs (top 72), defBody (top 72), defScope (top 72), [], []⟩
def d_l_odd : He.DefD := ⟨("_law_odd", none), "_law_odd", "_law_odd", defArgs (top 73), defBody (top 73), defScope (top 73), [], []⟩
def d_l_bent : He.DefD := ⟨("_law_bent", none), "_law_bent", "_law_bent", defArgs (top 74), defBody (top 74), defScope (top 74), [], []⟩
def d_l_whole : He.DefD := ⟨("_law_whole", none), "_law_whole", "_law_whole", defArgs (top 75), defBody (top 75), defScope (top 75), [], []⟩
def d_l_handed : He.DefD := ⟨("_law_handed", none), "_law_handed", "_law_handed", defArgs (top 76), defBody (top 76), defScope (top 76), [], []⟩
def d_l_boxes : He.DefD := ⟨("_law_boxes", none), "_law_boxes", "_law_boxes", defArgs (top 77), defBody (top 77), defScope (top 77), [], []⟩
def d_l_in : He.DefD := ⟨("_law_in", none), "_law_in", "_law_in", defArgs (top 78), defBody (top 78), defScope (top 78), [], []⟩
def d_l_shown : He.DefD := ⟨("_law_shown", none), "_law_shown", "_law_shown", defArgs (top 79), defBody (top 79), defScope (top 79), [], []⟩
def d_l_leaf : He.DefD := ⟨("_law_leaf", none), "_law_leaf", "_law_leaf", defArgs (top 80), defBody (top 80), defScope (top 80), [], []⟩
def d_l_tree : He.DefD := ⟨("_law_tree", none), "_law_tree", "_law_tree", defArgs (top 81), defBody (top 81), defScope (top 81), [], []⟩
def d_l_lets : He.DefD := ⟨("_law_lets", none), "_law_lets", "_law_lets", defArgs (top 82), defBody (top 82), defScope (top 82), [], []⟩
def d_l_least : He.DefD := ⟨("_law_least", none), "_law_least", "_law_least", defArgs (top 83), defBody (top 83), defScope (top 83), [], []⟩
def d_l_told_right : He.DefD := ⟨("_law_told_right", none), "_law_told_right", "_law_told_right", defArgs (top 84), defBody (top 84), defScope (top 84), [], []⟩
def d_law : He.DefD := ⟨("law", none), "law", "law", defArgs (top 85), defBody (top 85), defScope (top 85), [], []⟩
def fnL : List He.DefD := [d_Nought_init, d_TooMany_init, d_NoPaper_init, d_is_whole, d_shared, d_is_fraction, d_fraction, d_plus, d_less, d_times, d_is_below, d_in_size, d_is_edge, d_is_side, d_is_box, d_is_of, d_from_nought, d_side_size, d_size_of, d_is_behind, d_is_ahead, d_lies, d_lies_in, d_inside, d_over_of, d_lack_of, d_sides_of, d_numbers_at, d_side_looks, d_many_at_side, d_many_looks, d_looks, d_misses_of, d_worst, d_places_of, d_many_sets, d_sets_of, d_least_set, d_tree_of, d_is_shaped, d_lying, d_over_by, d_lack_by, d_is_corner, d_Walk_init, d_Walk_leaf_holds, d_Walk_go, d_lets_least, d_l_tape, d_l_draw, d_l_low, d_l_grid, d_l_places, d_l_sets, d_l_side_looks, d_l_side_size, d_l_lies, d_l_worst, d_l_odd, d_l_bent, d_l_whole, d_l_handed, d_l_boxes, d_l_in, d_l_shown, d_l_leaf, d_l_tree, d_l_lets, d_l_least, d_l_told_right, d_law]
def faL : List He.Fa := [.glo "is_whole", .glo "shared", .glo "is_fraction", .glo "fraction", .glo "plus", .glo "less", .glo "times", .glo "is_below", .glo "in_size", .glo "is_edge", .glo "is_side", .glo "is_box", .glo "is_of", .glo "from_nought", .glo "side_size", .glo "size_of", .glo "is_behind", .glo "is_ahead", .glo "lies", .glo "lies_in", .glo "inside", .glo "over_of", .glo "lack_of", .glo "sides_of", .glo "numbers_at", .glo "side_looks", .glo "many_at_side", .glo "many_looks", .glo "looks", .glo "misses_of", .glo "worst", .glo "places_of", .glo "many_sets", .glo "sets_of", .glo "least_set", .glo "tree_of", .glo "is_shaped", .glo "lying", .glo "over_by", .glo "lack_by", .glo "is_corner", .glo "lets_least", .glo "_law_tape", .glo "_law_draw", .glo "_law_low", .glo "_law_grid", .glo "_law_places", .glo "_law_sets", .glo "_law_side_looks", .glo "_law_side_size", .glo "_law_lies", .glo "_law_worst", .glo "_law_odd", .glo "_law_bent", .glo "_law_whole", .glo "_law_handed", .glo "_law_boxes", .glo "_law_in", .glo "_law_shown", .glo "_law_leaf", .glo "_law_tree", .glo "_law_lets", .glo "_law_least", .glo "_law_told_right", .glo "law", .glo "NoPaper", .glo "Walk", .free "isinstance", .free "tuple", .free "int", .free "bool", .free "str", .free "list", .free "len", .free "abs", .free "all", .free "max", .free "min", .free "range", .free "zip", .free "sorted", .free "set", .free "repr", .cls "Walk", .mkr "Walk", .noat "Walk" "wide", .noat "Walk" "spots", .noat "Walk" "many_of", .noat "Walk" "least_number", .meth "Walk" "leaf_holds", .meth "Walk" "go", .int "MOST_LOOKS" 3000, .int "MOST_SETS" 1000, .glo "NOUGHT", .glo "ONE_fractions", .glo "ONE_looks", .glo "LONG", .glo "THINGS"]
/-- an exception's class of one's own over ValueError, as OexC wants it -/
def oexB (K : PySem.W.Frag) (C : Addr) : Bool := (match K.lookup C with
  | some ⟨.type "type", _, .cls cd, sl⟩ => (match cd.mro, sl.toList with
    | .ref C' :: bm, [_, _, _, _, some (.builtin n), _] => C' == C && (n == "ValueError.__new__" && (!cd.hasDel && (cd.hasDict && PySem.HandSPX.refsVE bm)))
    | _, _ => false)
  | _ => false)
def ex (K : PySem.W.Frag) : Bool :=
  He.tupB K "NOUGHT" [.int 0, .int 1] && (He.tupB K "ONE_fractions" [.int 1, .int 1] && (He.tupB K "ONE_looks" [.int 1, .int 1] && (He.tupB K "BELOW" [.int (-1), .int 1] && (
  oexB K (He.ga K "NoPaper") && (He.eqO (PySem.W.findIn K (.ref (He.ga K "NoPaper")) "__setattr__") (some (some (.builtin "object.__setattr__"))) && (
  decide (PySem.W.subIn K (.ref (He.ga K "NoPaper")) (.type "BaseException") = some true) && (decide (PySem.W.typeIn K (.ref (He.ga K "NoPaper")) = some (.type "type")) && (
  PySem.W.keepIn K (.ref (He.ga K "NoPaper")) && (He.eqO (PySem.W.findIn K (.ref (He.ga K "NoPaper")) "path") (some none) && (He.eqO (PySem.W.findIn K (.ref (He.ga K "NoPaper")) "word") (some none) && (
  He.eqO (PySem.W.findIn K (.ref (He.ga K "NoPaper")) "__init__") (some (some (.ref (He.ma K (He.ga K "NoPaper") "__init__")))) && (
  decide (PySem.W.typeIn K (.ref (He.ma K (He.ga K "NoPaper") "__init__")) = some (.type "function")) && (
  decide (PySem.W.exmOne K (.ref (He.ga K "NoPaper")) (.ref (He.ga K "NoPaper")) = some true) && (
  He.valsB K (He.ga K "LONG") [("to", .int 2), ("from", .int 3), ("round", .int 3)] &&
  He.valsB K (He.ga K "THINGS") [("take", .int 4), ("many", .int 1), ("few", .int 1), ("over", .int 2), ("lack", .int 2)]))))))))))))))
def ts : List He.Tab := [((fun K => He.ga K "LONG"), ["to", "from", "round"]), ((fun K => He.ga K "THINGS"), ["take", "many", "few", "over", "lack"])]
abbrev Al : Type := He.AlT × Bool
/-- where the top's objects lie -/
def asL : List Addr := [3, 6, 4, 24, 44, 63, 82, 85, 86, 93, 100, 107, 114, 121, 128, 135, 142, 149, 150, 157, 162, 167, 172, 179, 186, 193, 200, 207, 214, 219, 224, 231, 238, 245, 250, 251, 252, 257, 264, 271, 276, 283, 290, 295, 302, 307, 312, 319, 320, 327, 332, 339, 346, 353, 382, 393, 400, 407, 414, 419, 424, 429, 434, 441, 448, 453, 460, 467, 474, 479, 484, 489, 494, 499, 504, 511, 516, 521, 526, 0, 23, 43, 62, 81, 92, 99, 106, 113, 120, 127, 134, 141, 148, 156, 161, 166, 171, 178, 185, 192, 199, 206, 213, 218, 223, 230, 237, 244, 249, 256, 263, 270, 275, 282, 289, 294, 301, 306, 311, 318, 326, 331, 338, 345, 352, 381, 392, 399, 406, 413, 418, 423, 428, 433, 440, 447, 452, 459, 466, 473, 478, 483, 488, 493, 498, 503, 510, 515, 520, 525, 22, 25, 41, 42, 60, 61, 79, 80, 87, 88, 89, 90, 91, 94, 95, 96, 97, 98, 101, 102, 103, 104, 105, 108, 109, 110, 111, 112, 115, 116, 117, 118, 119, 122, 123, 124, 125, 126, 129, 130, 131, 132, 133, 136, 137, 138, 139, 140, 143, 144, 145, 146, 147, 151, 152, 153, 154, 155, 158, 159, 160, 163, 164, 165, 168, 169, 170, 173, 174, 175, 176, 177, 180, 181, 182, 183, 184, 187, 188, 189, 190, 191, 194, 195, 196, 197, 198, 201, 202, 203, 204, 205, 208, 209, 210, 211, 212, 215, 216, 217, 220, 221, 222, 225, 226, 227, 228, 229, 232, 233, 234, 235, 236, 239, 240, 241, 242, 243, 246, 247, 248, 253, 254, 255, 258, 259, 260, 261, 262, 265, 266, 267, 268, 269, 272, 273, 274, 277, 278, 279, 280, 281, 284, 285, 286, 287, 288, 291, 292, 293, 296, 297, 298, 299, 300, 303, 304, 305, 308, 309, 310, 313, 314, 315, 316, 317, 321, 322, 323, 324, 325, 328, 329, 330, 333, 334, 335, 336, 337, 340, 341, 342, 343, 344, 347, 348, 349, 350, 351, 367, 374, 379, 380, 383, 384, 387, 388, 389, 390, 391, 394, 395, 396, 397, 398, 401, 402, 403, 404, 405, 408, 409, 410, 411, 412, 415, 416, 417, 420, 421, 422, 425, 426, 427, 430, 431, 432, 435, 436, 437, 438, 439, 442, 443, 444, 445, 446, 449, 450, 451, 454, 455, 456, 457, 458, 461, 462, 463, 464, 465, 468, 469, 470, 471, 472, 475, 476, 477, 480, 481, 482, 485, 486, 487, 490, 491, 492, 495, 496, 497, 500, 501, 502, 505, 506, 507, 508, 509, 512, 513, 514, 517, 518, 519, 522, 523, 524, 40, 59, 78, 366, 373, 378]
def obsQ (g : Addr → Option Obj) : Al := (He.obsT faL fnL ts (He.frG g asL), ex (He.frG g asL))
def valQ (w : World) : Al := (He.valT fnL ts w, true)
structure Says (w : World) (K : PySem.W.Frag) : Prop where
  t : He.SaysT faL fnL ts w K
  x : ex K = true

def hk : PySem.W.Hook where
  α := Al
  obs := fun s => obsQ s.heap.get?
  val := fun w => valQ w
  says := fun w h => ∃ K : PySem.W.Frag, K.In h ∧ Says w K
  of := fun w s e => ⟨_, He.frG_in, ⟨congrArg Prod.fst e, congrArg Prod.snd e⟩⟩
  keeps := fun _ _ _ ⟨K, hK, c⟩ k => ⟨K, PySem.W.Frag.In.keeps hK k, c⟩
def ob (s : PySem.W.SharedT) : Al := obsQ (HandSHeadRun.getT s)
theorem ob_eq (s : PySem.W.SharedT) : ob s = hk.obs s.abs := by
  have e : HandSHeadRun.getT s = s.abs.heap.get? := funext (HandSHeadRun.getT_eq s)
  show obsQ (HandSHeadRun.getT s) = obsQ s.abs.heap.get?
  rw [e]
abbrev R : PySem.W.OpenRow := PySem.W.OpenLaw.row PySem.Challenge.rw_evenpoints_k94_whole_least_papers_let_by

def nm0 : List PySem.Str := ["__name__", "EvenError", "Nought", "TooMany", "NoPaper", "NOUGHT", "ONE_fractions", "is_whole", "shared", "is_fraction", "fraction", "plus", "less", "times", "is_below", "in_size", "LONG", "is_edge", "is_side", "is_box", "is_of", "from_nought", "side_size", "size_of", "is_behind", "is_ahead", "lies", "lies_in", "inside", "over_of"]
def nm1 : List PySem.Str := ["lack_of", "sides_of", "numbers_at", "ONE_looks", "BELOW", "MOST_LOOKS", "side_looks", "many_at_side", "many_looks", "looks", "misses_of", "worst", "MOST_SETS", "places_of", "many_sets", "sets_of", "least_set", "tree_of", "THINGS", "is_shaped", "lying", "over_by", "lack_by", "is_corner", "Walk", "lets_least", "_law_tape", "_law_draw", "_law_low", "_law_grid"]
def nm2 : List PySem.Str := ["_law_places", "_law_sets", "_law_side_looks", "_law_side_size", "_law_lies", "_law_worst", "_law_odd", "_law_bent", "_law_whole", "_law_handed", "_law_boxes", "_law_in", "_law_shown", "_law_leaf", "_law_tree", "_law_lets", "_law_least", "_law_told_right"]
def nms : List PySem.Str := nm0 ++ nm1 ++ nm2
theorem runF (w : World) : HandSHeadRun.RunEq R (PySem.W.view R.prog [85]) hk ob 3600 nms (w.withFollow "special-get-raises" false) := by
  intro os
  kernel_rfl
theorem runT (w : World) : HandSHeadRun.RunEq R (PySem.W.view R.prog [85]) hk ob 3600 nms (w.withFollow "special-get-raises" true) := by
  intro os
  kernel_rfl
theorem run (w : World) : HandSHeadRun.RunEq R (PySem.W.view R.prog [85]) hk ob 3600 nms w := PySem.W.byRow2 "special-get-raises" (P := fun w => HandSHeadRun.RunEq R (PySem.W.view R.prog [85]) hk ob 3600 nms w) runF runT w
theorem law_name : (HandSHeadRun.topDef R.prog 85).name = ("law" : Str) := by kernel_rfl
theorem law_dfl : (HandSHeadRun.topDef R.prog 85).params.defaults = [] := by kernel_rfl
end Pu
section
open PySem PySem.W PySem.Calls PyProof.Rows
theorem Pu.head_law (F : ∀ (q : Program) (loose : List PySem.Str) (XP : (PySem.Str → Option Value) → Heap → Prop), WalkO q loose XP Pu.hk.says PySem.Challenge.rw_evenpoints_k94_whole_least_papers_let_by.row.toRowW (HandSHeadRun.topDef Pu.R.prog 85) [] (fun f vs => PySem.call f vs)) : PySem.Challenge.rw_evenpoints_k94_whole_least_papers_let_by.Holds := by
  w_on; o_law
  refine HandSHeadRun.head_any (r := OpenLaw.row PySem.Challenge.rw_evenpoints_k94_whole_least_papers_let_by) (q := view (OpenLaw.row PySem.Challenge.rw_evenpoints_k94_whole_least_papers_let_by).prog [85]) (H := Pu.hk) (ob := Pu.ob) (M := 3600) (loose := Pu.nms) (d := HandSHeadRun.topDef (OpenLaw.row PySem.Challenge.rw_evenpoints_k94_whole_least_papers_let_by).prog 85) (kwd := []) Pu.ob_eq
    (by kernel_rfl) (fun s => by kernel_rfl) Pu.run (by kernel_rfl) (by kernel_rfl) (by kernel_rfl) (by rfl) (by first | assumption | decide +kernel) (by decide +kernel) ⟨rfl, rfl, rfl, rfl, rfl, by decide +kernel⟩ ?hw ?hc
  case hw => w_witness2
  case hc => exact F _ _ _
end

/-! PuA: data D, what stands for it in a heap (At), frozen and whole heaps, steps, environments. -/
namespace Pu
open PySem PySem.Spec L2
/-- plain data, and the few objects that a def of the text holds -/
inductive D where
  | non | bl (b : Bool) | int (i : Int) | str (x : Str) | tup (ds : List D) | lst (ds : List D)
  | key (ks : List Int) | tape | obj (C : Addr) (ns : List Str) (ds : List D) | tab (ks : List (List Int)) (ds : List D) | raw (v : V)
/-- the cells' table -/
def tapeKV (ca : Addr) (s l t : Int) : List (Key × V) := [(.inr "cells", .ref ca), (.inr "spot", .int s), (.inr "left", .int l), (.inr "turn", .int t)]
mutual
inductive At (K : PySem.W.Frag) (tp : Addr) (G : Hp) : V → D → Prop
  | non : At K tp G .non .non
  | bl (b : Bool) : At K tp G (.bl b) (.bl b)
  | int (i : Int) : At K tp G (.int i) (.int i)
  | str (x : Str) : At K tp G (.str x) (.str x)
  | tup {a : Addr} {xs : List V} {ds : List D} : SqT K G a xs → AtL K tp G xs ds → At K tp G (.ref a) (.tup ds)
  | lst {a : Addr} {xs : List V} {ds : List D} : G a = some (.lst xs) → AtL K tp G xs ds → At K tp G (.ref a) (.lst ds)
  | key {a : Addr} {ks : List Int} : G a = some (.tup (ks.map V.int)) → At K tp G (.ref a) (.key ks)
  | tape : At K tp G (.ref tp) .tape
  | obj {a C dx : Addr} {ns : List Str} {xs : List V} {ds : List D} : G a = some (.ins C dx (ns.zip xs)) → AtL K tp G xs ds → At K tp G (.ref a) (.obj C ns ds)
  | tab {a : Addr} {ks : List (List Int)} {xs : List V} {ds : List D} : G a = some (.dT ((ks.map fun k => k.map Sum.inl).zip xs)) → AtL K tp G xs ds → At K tp G (.ref a) (.tab ks ds)
  | raw (v : V) : At K tp G v (.raw v)
inductive AtL (K : PySem.W.Frag) (tp : Addr) (G : Hp) : List V → List D → Prop
  | nil : AtL K tp G [] []
  | cons {v : V} {vs : List V} {d : D} {ds : List D} : At K tp G v d → AtL K tp G vs ds → AtL K tp G (v :: vs) (d :: ds)
end
section
variable {K : PySem.W.Frag} {tp : Addr} {G G' H : Hp}
theorem seqT_mono (e : Same G G') {a : Addr} {xs : List V} (h : SqT K G a xs) : SqT K G' a xs := by
  rcases h with (h | ⟨o, h⟩) | h
  · exact .inl (.inl (e _ _ h))
  · exact .inl (.inr ⟨o, e _ _ h⟩)
  · exact .inr h
mutual
theorem At.mono (e : Same G G') : ∀ (d : D) (v : V), At K tp G v d → At K tp G' v d
  | .non, _, h => by cases h; exact .non
  | .bl b, _, h => by cases h; exact .bl b
  | .int i, _, h => by cases h; exact .int i
  | .str x, _, h => by cases h; exact .str x
  | .tup ds, _, h => by
    cases h with
    | tup h1 h2 => exact .tup (seqT_mono e h1) (AtL.mono e ds _ h2)
  | .lst ds, _, h => by
    cases h with
    | lst h1 h2 => exact .lst (e _ _ h1) (AtL.mono e ds _ h2)
  | .key ks, _, h => by
    cases h with
    | key h1 => exact .key (e _ _ h1)
  | .tape, _, h => by cases h; exact .tape
  | .obj C ns ds, _, h => by
    cases h with
    | obj h1 h2 => exact .obj (e _ _ h1) (AtL.mono e ds _ h2)
  | .tab ks ds, _, h => by
    cases h with
    | tab h1 h2 => exact .tab (e _ _ h1) (AtL.mono e ds _ h2)
  | .raw v, _, h => by cases h; exact .raw v
theorem AtL.mono (e : Same G G') : ∀ (ds : List D) (vs : List V), AtL K tp G vs ds → AtL K tp G' vs ds
  | [], _, h => by cases h; exact .nil
  | d :: ds, _, h => by
    cases h with
    | cons h1 h2 => exact .cons (At.mono e d _ h1) (AtL.mono e ds _ h2)
end
theorem AtL.length : ∀ {ds : List D} {vs : List V}, AtL K tp G vs ds → vs.length = ds.length
  | [], _, h => by cases h; rfl
  | _ :: _, _, h => by
    cases h with
    | cons h1 h2 => simp [AtL.length h2]
theorem AtL.get : ∀ {ds : List D} {vs : List V} {i : Nat} {v : V}, AtL K tp G vs ds → vs[i]? = some v → ∃ d, ds[i]? = some d ∧ At K tp G v d
  | [], _, _, _, h, e => by cases h; simp at e
  | d :: ds, _, 0, _, h, e => by
    cases h with
    | cons h1 h2 => simp at e; subst e; exact ⟨d, rfl, h1⟩
  | d :: ds, _, i + 1, _, h, e => by
    cases h with
    | cons h1 h2 =>
      rw [List.getElem?_cons_succ] at e
      obtain ⟨d', a, b⟩ := AtL.get h2 e
      exact ⟨d', by rw [List.getElem?_cons_succ]; exact a, b⟩
theorem AtL.get' : ∀ {ds : List D} {vs : List V} {i : Nat} {d : D}, AtL K tp G vs ds → ds[i]? = some d → ∃ v, vs[i]? = some v ∧ At K tp G v d
  | [], _, _, _, h, e => by simp at e
  | d :: ds, _, 0, _, h, e => by
    cases h with
    | cons h1 h2 => simp at e; subst e; exact ⟨_, rfl, h1⟩
  | d :: ds, _, i + 1, _, h, e => by
    cases h with
    | cons h1 h2 =>
      rw [List.getElem?_cons_succ] at e
      obtain ⟨d', a, b⟩ := AtL.get' h2 e
      exact ⟨d', by rw [List.getElem?_cons_succ]; exact a, b⟩
theorem AtL.append : ∀ {ds es : List D} {vs ws : List V}, AtL K tp G vs ds → AtL K tp G ws es → AtL K tp G (vs ++ ws) (ds ++ es)
  | [], _, _, _, h, h' => by cases h; exact h'
  | _ :: _, _, _, _, h, h' => by
    cases h with
    | cons h1 h2 => exact .cons h1 (AtL.append h2 h')
theorem AtL.take : ∀ {ds : List D} {vs : List V} (n : Nat), AtL K tp G vs ds → AtL K tp G (vs.take n) (ds.take n)
  | [], _, n, h => by cases h; simp; exact .nil
  | _ :: _, _, 0, h => by simp; exact .nil
  | _ :: _, _, n + 1, h => by
    cases h with
    | cons h1 h2 => exact .cons h1 (AtL.take n h2)
theorem AtL.drop : ∀ {ds : List D} {vs : List V} (n : Nat), AtL K tp G vs ds → AtL K tp G (vs.drop n) (ds.drop n)
  | [], _, n, h => by cases h; simp; exact .nil
  | _ :: _, _, 0, h => h
  | _ :: _, _, n + 1, h => by
    cases h with
    | cons h1 h2 => exact AtL.drop n h2
theorem AtL.reverse : ∀ {ds : List D} {vs : List V}, AtL K tp G vs ds → AtL K tp G vs.reverse ds.reverse
  | [], _, h => by cases h; exact .nil
  | _ :: _, _, h => by
    cases h with
    | cons h1 h2 =>
      rw [List.reverse_cons, List.reverse_cons]
      exact (AtL.reverse h2).append (.cons h1 .nil)
theorem AtL.set : ∀ {ds : List D} {vs : List V} (i : Nat) {v : V} {d : D}, AtL K tp G vs ds → At K tp G v d → AtL K tp G (vs.set i v) (ds.set i d)
  | [], _, _, _, _, h, _ => by cases h; exact .nil
  | _ :: _, _, 0, _, _, h, q => by
    cases h with
    | cons h1 h2 => exact .cons q h2
  | _ :: _, _, i + 1, _, _, h, q => by
    cases h with
    | cons h1 h2 => exact .cons h1 (AtL.set i h2 q)
theorem AtL.ints : ∀ (ks : List Int), AtL K tp G (ks.map V.int) (ks.map D.int)
  | [] => .nil
  | k :: ks => .cons (.int k) (AtL.ints ks)
theorem AtL.of_ints : ∀ {ks : List Int} {vs : List V}, AtL K tp G vs (ks.map D.int) → vs = ks.map V.int
  | [], _, h => by cases h; rfl
  | k :: ks, _, h => by
    cases h with
    | cons h1 h2 => cases h1; rw [AtL.of_ints h2]; rfl
theorem AtL.of_bls : ∀ {ks : List Bool} {vs : List V}, AtL K tp G vs (ks.map D.bl) → vs = ks.map V.bl
  | [], _, h => by cases h; rfl
  | k :: ks, _, h => by
    cases h with
    | cons h1 h2 => cases h1; rw [AtL.of_bls h2]; rfl
theorem AtL.of_strs : ∀ {ks : List Str} {vs : List V}, AtL K tp G vs (ks.map D.str) → vs = ks.map V.str
  | [], _, h => by cases h; rfl
  | k :: ks, _, h => by
    cases h with
    | cons h1 h2 => cases h1; rw [AtL.of_strs h2]; rfl
/-- a datum that may be read as a row of data -/
def seqOf : D → Option (List D)
  | .tup ds => some ds
  | .lst ds => some ds
  | .key ks => some (ks.map D.int)
  | _ => none
theorem At.seq {v : V} {d : D} {ds : List D} (h : At K tp G v d) (e : seqOf d = some ds) : ∃ a xs, v = .ref a ∧ (SqL K G a xs ∨ SqT K G a xs) ∧ AtL K tp G xs ds := by
  cases h with
  | tup h1 h2 => cases e; exact ⟨_, _, rfl, .inr h1, h2⟩
  | lst h1 h2 => cases e; exact ⟨_, _, rfl, .inl (SqL.of h1), h2⟩
  | key h1 => cases e; exact ⟨_, _, rfl, .inr (SqT.of h1), AtL.ints _⟩
  | _ => cases e
end
/-! ### heaps -/
/-- G: what stands still; H: all. The tape stands at tp, its turns at most n -/
structure Good (K : PySem.W.Frag) (tp : Addr) (n : Nat) (G H : Hp) : Prop where
  sub : Same G H
  gt : G tp = none
  tape : ∃ (ca : Addr) (s l t : Int) (cells : List Int), H tp = some (.dK (tapeKV ca s l t)) ∧ G ca = some (.lst (cells.map V.int)) ∧ cells.length ≤ 63 ∧ 0 ≤ s ∧ 0 ≤ l ∧ 0 ≤ t ∧ t ≤ n
structure Step (tp : Addr) (G H G' H' : Hp) : Prop where
  gg : Same G G'
  hh : ∀ b o, b ≠ tp → H b = some o → H' b = some o
  hid : ∀ b o, H b = some o → G b = none → G' b = none
section
variable {K : PySem.W.Frag} {tp : Addr} {n n' : Nat} {G H G1 H1 G2 H2 : Hp}
theorem Step.refl : Step tp G H G H := ⟨Same.refl _, fun _ _ _ h => h, fun _ _ _ h => h⟩
theorem Step.trans (g : Good K tp n' G1 H1) (g2 : Good K tp n G2 H2) (a : Step tp G H G1 H1) (b : Step tp G1 H1 G2 H2) : Step tp G H G2 H2 :=
  ⟨a.gg.trans b.gg, fun c o hc h => b.hh c o hc (a.hh c o hc h), fun c o h hn => by
    by_cases hc : c = tp
    · subst hc; exact g2.gt
    · exact b.hid c o (a.hh c o hc h) (a.hid c o h hn)⟩
theorem Good.le (g : Good K tp n G H) (h : n ≤ n') : Good K tp n' G H := by
  obtain ⟨a, b, ca, s, l, t, cs, h1, h2, h3, h4, h5, h6, h7⟩ := g
  exact ⟨a, b, ca, s, l, t, cs, h1, h2, h3, h4, h5, h6, by omega⟩
theorem Good.ne_new (g : Good K tp n G H) {p : Addr} (hp : H p = none) : p ≠ tp := by
  obtain ⟨_, _, _, _, _, h1, _⟩ := g.tape
  intro e; subst e; rw [hp] at h1; cases h1
theorem Good.none (g : Good K tp n G H) {p : Addr} (hp : H p = Option.none) : G p = Option.none := g.sub.free hp
/-- a new object that stands still -/
theorem Good.new (g : Good K tp n G H) {p : Addr} (hp : H p = Option.none) (o : HO) : Good K tp n (upd G p o) (upd H p o) ∧ Step tp G H (upd G p o) (upd H p o) := by
  have gp := g.none hp
  have ne := g.ne_new hp
  refine ⟨⟨fun b u h => ?_, ?_, ?_⟩, fun b u h => ?_, fun b u _ h => ?_, fun b u h hn => ?_⟩
  · by_cases e : b = p
    · subst e; rw [upd_same] at h ⊢; exact h
    · rw [upd_ne e] at h ⊢; exact g.sub _ _ h
  · rw [upd_ne ne.symm]; exact g.gt
  · obtain ⟨ca, s, l, t, cs, h1, h2, h3⟩ := g.tape
    exact ⟨ca, s, l, t, cs, by rw [upd_ne ne.symm]; exact h1, by rw [upd_ne (ne_of_none h2 gp)]; exact h2, h3⟩
  · rw [upd_ne (ne_of_none h gp)]; exact h
  · rw [upd_ne (ne_of_none h hp)]; exact h
  · rw [upd_ne (ne_of_none h hp)]; exact hn
/-- a new object that may change -/
theorem Good.newM (g : Good K tp n G H) {p : Addr} (hp : H p = Option.none) (o : HO) : Good K tp n G (upd H p o) ∧ Step tp G H G (upd H p o) := by
  have ne := g.ne_new hp
  refine ⟨⟨fun b u h => ?_, g.gt, ?_⟩, Same.refl _, fun b u _ h => ?_, fun b u h hn => hn⟩
  · rw [upd_ne (ne_of_none (g.sub _ _ h) hp)]; exact g.sub _ _ h
  · obtain ⟨ca, s, l, t, cs, h1, h2, h3⟩ := g.tape
    exact ⟨ca, s, l, t, cs, by rw [upd_ne ne.symm]; exact h1, h2, h3⟩
  · rw [upd_ne (ne_of_none h hp)]; exact h
/-- an object that may change has changed -/
theorem Good.put (g : Good K tp n G H) {p : Addr} (hg : G p = Option.none) (hp : p ≠ tp) (o : HO) : Good K tp n G (upd H p o) := by
  refine ⟨fun b u h => ?_, g.gt, ?_⟩
  · rw [upd_ne (ne_of_none h hg)]; exact g.sub _ _ h
  · obtain ⟨ca, s, l, t, cs, h1, h2, h3⟩ := g.tape
    exact ⟨ca, s, l, t, cs, by rw [upd_ne hp.symm]; exact h1, h2, h3⟩
/-- an object that might change stands still from now on -/
theorem Good.freeze (g : Good K tp n G H) {p : Addr} {o : HO} (hp : H p = some o) (ne : p ≠ tp) (hg : G p = Option.none) : Good K tp n (upd G p o) H := by
  refine ⟨fun b u h => ?_, ?_, ?_⟩
  · by_cases e : b = p
    · subst e; rw [upd_same] at h; rw [hp]; exact h
    · rw [upd_ne e] at h; exact g.sub _ _ h
  · rw [upd_ne ne.symm]; exact g.gt
  · obtain ⟨ca, s, l, t, cs, h1, h2, h3⟩ := g.tape
    exact ⟨ca, s, l, t, cs, h1, by rw [upd_ne (ne_of_none h2 hg)]; exact h2, h3⟩
end
/-! ### environments -/
/-- an object that a frame alone holds and changes -/
inductive MO where
  | lst (ds : List D) | tab (ks : List (List Int)) (ds : List D)
inductive Sl where
  | un | val (d : D) | mu (m : MO)
abbrev Rho := List Sl
/-- as it stands at p -/
def MoAt (K : PySem.W.Frag) (tp : Addr) (G H : Hp) (p : Addr) : MO → Prop
  | .lst ds => ∃ xs, H p = some (.lst xs) ∧ AtL K tp G xs ds
  | .tab ks ds => ∃ xs, H p = some (.dT ((ks.map fun k => k.map Sum.inl).zip xs)) ∧ AtL K tp G xs ds
def SlAt (K : PySem.W.Frag) (tp : Addr) (G H : Hp) : Option V → Sl → Prop
  | _, .un => True
  | v, .val d => ∃ u, v = some u ∧ At K tp G u d
  | v, .mu m => ∃ p, v = some (V.ref p) ∧ G p = none ∧ p ≠ tp ∧ MoAt K tp G H p m
structure EnvAt (K : PySem.W.Frag) (tp : Addr) (G H : Hp) (σ : St) (ρ : Rho) : Prop where
  len : σ.length = ρ.length
  at_ : ∀ (i : Nat) (v : Option V) (s : Sl), σ[i]? = some v → ρ[i]? = some s → SlAt K tp G H v s
  ne : ∀ (i j : Nat) (p : Addr) (m m' : MO), ρ[i]? = some (.mu m) → ρ[j]? = some (.mu m') → σ[i]? = some (some (V.ref p)) → σ[j]? = some (some (V.ref p)) → i = j
/-- the frame's own objects are younger than its entry -/
def Own (H0 : Hp) (σ : St) (ρ : Rho) : Prop := ∀ (i : Nat) (m : MO) (p : Addr), ρ[i]? = some (.mu m) → σ[i]? = some (some (V.ref p)) → H0 p = none
section
variable {K : PySem.W.Frag} {tp : Addr} {n n' : Nat} {G H G' H' H0 : Hp} {σ : St} {ρ : Rho}
theorem MoAt.step (st : Step tp G H G' H') {p : Addr} (ne : p ≠ tp) : ∀ {m : MO}, MoAt K tp G H p m → MoAt K tp G' H' p m
  | .lst _, ⟨xs, h1, h2⟩ => ⟨xs, st.hh _ _ ne h1, AtL.mono st.gg _ _ h2⟩
  | .tab _ _, ⟨xs, h1, h2⟩ => ⟨xs, st.hh _ _ ne h1, AtL.mono st.gg _ _ h2⟩
theorem MoAt.some : ∀ {m : MO} {p : Addr}, MoAt K tp G H p m → ∃ o, H p = Option.some o
  | .lst _, _, ⟨_, h1, _⟩ => ⟨_, h1⟩
  | .tab _ _, _, ⟨_, h1, _⟩ => ⟨_, h1⟩
theorem SlAt.step (st : Step tp G H G' H') : ∀ {v : Option V} {s : Sl}, SlAt K tp G H v s → SlAt K tp G' H' v s
  | _, .un, _ => trivial
  | _, .val d, ⟨u, h1, h2⟩ => ⟨u, h1, At.mono st.gg _ _ h2⟩
  | _, .mu m, ⟨p, h1, h2, h3, h4⟩ => by
    obtain ⟨o, ho⟩ := h4.some
    exact ⟨p, h1, st.hid _ _ ho h2, h3, h4.step st h3⟩
theorem EnvAt.step (e : EnvAt K tp G H σ ρ) (st : Step tp G H G' H') : EnvAt K tp G' H' σ ρ :=
  ⟨e.len, fun i v s h1 h2 => (e.at_ i v s h1 h2).step st, e.ne⟩
theorem EnvAt.val (e : EnvAt K tp G H σ ρ) {i : Nat} {d : D} (h : ρ[i]? = some (.val d)) : ∃ v, σ[i]? = some (some v) ∧ At K tp G v d := by
  have hi : i < σ.length := by rw [e.len]; exact (List.getElem?_eq_some_iff.mp h).1
  obtain ⟨u, h1, h2⟩ := e.at_ i σ[i] _ (List.getElem?_eq_getElem hi) h
  exact ⟨u, by rw [List.getElem?_eq_getElem hi, h1], h2⟩
theorem EnvAt.mu (e : EnvAt K tp G H σ ρ) {i : Nat} {m : MO} (h : ρ[i]? = some (.mu m)) : ∃ p, σ[i]? = some (some (V.ref p)) ∧ G p = none ∧ p ≠ tp ∧ MoAt K tp G H p m := by
  have hi : i < σ.length := by rw [e.len]; exact (List.getElem?_eq_some_iff.mp h).1
  obtain ⟨p, h1, h2⟩ := e.at_ i σ[i] _ (List.getElem?_eq_getElem hi) h
  exact ⟨p, by rw [List.getElem?_eq_getElem hi, h1], h2⟩
/-- a slot takes a datum -/
theorem EnvAt.set (e : EnvAt K tp G H σ ρ) (i : Nat) {v : V} {d : D} (h : At K tp G v d) : EnvAt K tp G H (σ.set i (some v)) (ρ.set i (.val d)) := by
  refine ⟨by simp [e.len], fun j u s h1 h2 => ?_, fun a b p m m' h1 h2 h3 h4 => ?_⟩
  · by_cases hij : i = j
    · subst hij
      rw [List.getElem?_set] at h1 h2
      simp at h1 h2
      obtain ⟨_, rfl⟩ := h1
      obtain ⟨_, rfl⟩ := h2
      exact ⟨v, rfl, h⟩
    · rw [List.getElem?_set_ne hij] at h1 h2
      exact e.at_ j u s h1 h2
  · have ha : i ≠ a := by
      intro q; subst q
      rw [List.getElem?_set] at h1
      simp at h1
    have hb : i ≠ b := by
      intro q; subst q
      rw [List.getElem?_set] at h2
      simp at h2
    rw [List.getElem?_set_ne ha] at h1 h3
    rw [List.getElem?_set_ne hb] at h2 h4
    exact e.ne a b p m m' h1 h2 h3 h4
theorem Own.set (o : Own H0 σ ρ) (i : Nat) (v : Option V) (d : D) : Own H0 (σ.set i v) (ρ.set i (.val d)) := by
  intro j m p h1 h2
  have hij : i ≠ j := by
    intro q; subst q
    rw [List.getElem?_set] at h1
    simp at h1
  rw [List.getElem?_set_ne hij] at h1 h2
  exact o j m p h1 h2
/-- a slot takes an object that is its own -/
theorem EnvAt.setM (e : EnvAt K tp G H σ ρ) (i : Nat) {p : Addr} {m : MO} (hg : G p = none) (ne : p ≠ tp) (h : MoAt K tp G H p m) (hn : ∀ j, σ[j]? = some (some (V.ref p)) → ∀ m', ρ[j]? = some (.mu m') → j = i) :
    EnvAt K tp G H (σ.set i (some (V.ref p))) (ρ.set i (.mu m)) := by
  have aux : ∀ (a : Nat) (q : Addr) (m' : MO), (ρ.set i (.mu m))[a]? = some (.mu m') → (σ.set i (some (V.ref p)))[a]? = some (some (V.ref q)) → (a = i ∧ q = p) ∨ (a ≠ i ∧ ρ[a]? = some (.mu m') ∧ σ[a]? = some (some (V.ref q))) := by
    intro a q m' h1 h2
    by_cases hij : i = a
    · subst hij
      rw [List.getElem?_set] at h2
      simp at h2
      exact .inl ⟨rfl, h2.2.symm⟩
    · rw [List.getElem?_set_ne hij] at h1 h2
      exact .inr ⟨fun q => hij q.symm, h1, h2⟩
  refine ⟨by simp [e.len], fun j u s h1 h2 => ?_, fun a b q m1 m2 h1 h2 h3 h4 => ?_⟩
  · by_cases hij : i = j
    · subst hij
      rw [List.getElem?_set] at h1 h2
      simp at h1 h2
      obtain ⟨_, rfl⟩ := h1
      obtain ⟨_, rfl⟩ := h2
      exact ⟨p, rfl, hg, ne, h⟩
    · rw [List.getElem?_set_ne hij] at h1 h2
      exact e.at_ j u s h1 h2
  · rcases aux a q m1 h1 h3 with ⟨ea, eq⟩ | ⟨ea, r1, r3⟩ <;> rcases aux b q m2 h2 h4 with ⟨eb, eq'⟩ | ⟨eb, r2, r4⟩
    · rw [ea, eb]
    · subst eq; exact absurd (hn b r4 m2 r2) eb
    · subst eq'; exact absurd (hn a r3 m1 r1) ea
    · exact e.ne a b q m1 m2 r1 r2 r3 r4
theorem Own.setM (o : Own H0 σ ρ) (i : Nat) {p : Addr} (hp : H0 p = none) (m : MO) : Own H0 (σ.set i (some (V.ref p))) (ρ.set i (.mu m)) := by
  intro j m' q h1 h2
  by_cases hij : i = j
  · subst hij
    rw [List.getElem?_set] at h2
    simp at h2
    rw [← h2.2]; exact hp
  · rw [List.getElem?_set_ne hij] at h1 h2
    exact o j m' q h1 h2
/-- the object of slot i is changed in place -/
theorem EnvAt.putM (e : EnvAt K tp G H σ ρ) {i : Nat} {p : Addr} {m m' : MO} {u : HO} (hr : ρ[i]? = some (.mu m)) (hs : σ[i]? = some (some (V.ref p))) (hg : G p = none) (ne : p ≠ tp)
    (h : MoAt K tp G (upd H p u) p m') : EnvAt K tp G (upd H p u) σ (ρ.set i (.mu m')) := by
  refine ⟨by simp [e.len], fun j v s h1 h2 => ?_, fun a b q m1 m2 h1 h2 h3 h4 => ?_⟩
  · by_cases hij : i = j
    · subst hij
      rw [List.getElem?_set] at h2
      simp at h2
      obtain ⟨_, rfl⟩ := h2
      rw [hs] at h1; cases h1
      exact ⟨p, rfl, hg, ne, h⟩
    · rw [List.getElem?_set_ne hij] at h2
      have q := e.at_ j v s h1 h2
      cases s with
      | un => trivial
      | val d => exact q
      | mu mm =>
        obtain ⟨p', r1, r2, r3, r4⟩ := q
        have np : p' ≠ p := by
          intro ep; subst ep; subst r1
          exact hij (e.ne i j p' m mm hr h2 hs h1)
        refine ⟨p', r1, r2, r3, ?_⟩
        cases mm with
        | lst ds => obtain ⟨xs, a1, a2⟩ := r4; exact ⟨xs, by rw [upd_ne np]; exact a1, a2⟩
        | tab ks ds => obtain ⟨xs, a1, a2⟩ := r4; exact ⟨xs, by rw [upd_ne np]; exact a1, a2⟩
  · have aux : ∀ (a : Nat) (mm : MO), (ρ.set i (.mu m'))[a]? = some (.mu mm) → ∃ m3, ρ[a]? = some (.mu m3) := by
      intro a mm h
      by_cases hij : i = a
      · subst hij; exact ⟨m, hr⟩
      · rw [List.getElem?_set_ne hij] at h; exact ⟨mm, h⟩
    obtain ⟨x1, y1⟩ := aux a m1 h1
    obtain ⟨x2, y2⟩ := aux b m2 h2
    exact e.ne a b q x1 x2 y1 y2 h3 h4
theorem Own.putM (o : Own H0 σ ρ) {i : Nat} {m : MO} (hr : ρ[i]? = some (.mu m)) (m' : MO) : Own H0 σ (ρ.set i (.mu m')) := by
  intro j mm p h1 h2
  by_cases hij : i = j
  · subst hij; exact o i m p hr h2
  · rw [List.getElem?_set_ne hij] at h1
    exact o j mm p h1 h2
def MO.d : MO → D
  | .lst ds => .lst ds
  | .tab ks ds => .tab ks ds
theorem MoAt.freeze : ∀ {m : MO} {p : Addr}, MoAt K tp G H p m → G p = none → ∃ o, H p = Option.some o ∧ At K tp (upd G p o) (V.ref p) m.d
  | .lst ds, p, ⟨xs, h1, h2⟩, hg => ⟨_, h1, .lst upd_same (AtL.mono (fun b u h => by rw [upd_ne (ne_of_none h hg)]; exact h) _ _ h2)⟩
  | .tab ks ds, p, ⟨xs, h1, h2⟩, hg => ⟨_, h1, .tab upd_same (AtL.mono (fun b u h => by rw [upd_ne (ne_of_none h hg)]; exact h) _ _ h2)⟩
/-- the slot's object is let stand from now on -/
def frz (ρ : Rho) (i : Nat) : Rho := match ρ[i]? with
  | some (.mu m) => ρ.set i (.val m.d)
  | _ => ρ
end
end Pu

/-! PuB: expressions over data. -/
namespace Pu
open PySem PySem.Spec L2
abbrev TrE := Rho → Nat → (D → Nat → Prop) → Prop
abbrev TrT := Rho → Nat → (Bool → Nat → Prop) → Prop
abbrev TrA := Rho → Nat → (List D → Nat → Prop) → Prop
def SndE (K : PySem.W.Frag) (t : TE) (T : TrE) : Prop := ∀ (tp : Addr) (n : Nat) (G H : Hp) (σ : L2.St) (ρ : Rho) (P : D → Nat → Prop) (Q : VK), Good K tp n G H → EnvAt K tp G H σ ρ → T ρ n P →
  (∀ d n' v G' H', Good K tp n' G' H' → Step tp G H G' H' → At K tp G' v d → P d n' → Q v H') → t σ H Q
def SndT (K : PySem.W.Frag) (t : TT) (T : TrT) : Prop := ∀ (tp : Addr) (n : Nat) (G H : Hp) (σ : L2.St) (ρ : Rho) (P : Bool → Nat → Prop) (Q : Bool → Hp → Prop), Good K tp n G H → EnvAt K tp G H σ ρ → T ρ n P →
  (∀ b n' G' H', Good K tp n' G' H' → Step tp G H G' H' → P b n' → Q b H') → t σ H Q
def SndA (K : PySem.W.Frag) (t : TA) (T : TrA) : Prop := ∀ (tp : Addr) (n : Nat) (G H : Hp) (σ : L2.St) (ρ : Rho) (P : List D → Nat → Prop) (Q : List V → Hp → Prop), Good K tp n G H → EnvAt K tp G H σ ρ → T ρ n P →
  (∀ ds n' vs G' H', Good K tp n' G' H' → Step tp G H G' H' → AtL K tp G' vs ds → P ds n' → Q vs H') → t σ H Q
structure PV (X : Cx) (e : Expr) (T : TrE) : Prop where
  ex : ∃ t, PE X e t ∧ SndE X.K t T
structure PB (X : Cx) (e : Expr) (T : TrT) : Prop where
  ex : ∃ t, PT X e t ∧ SndT X.K t T
structure PBW (X : Cx) (e : Expr) (T : TrT) : Prop where
  ex : ∃ t, PW X e t ∧ SndT X.K t T
structure PVs (X : Cx) (es : List Expr) (T : TrA) : Prop where
  ex : ∃ t, PA X es t ∧ SndA X.K t T
def getS : Rho → Nat → Sl
  | [], _ => .un
  | s :: _, 0 => s
  | _ :: r, i + 1 => getS r i
theorem getS_val : ∀ {ρ : Rho} {i : Nat} {d : D}, getS ρ i = .val d → ρ[i]? = some (.val d)
  | [], _, _, h => by cases h
  | s :: r, 0, _, h => by simp only [getS] at h; subst h; rfl
  | _ :: r, i + 1, _, h => by rw [List.getElem?_cons_succ]; exact getS_val h
theorem getS_mu : ∀ {ρ : Rho} {i : Nat} {m : MO}, getS ρ i = .mu m → ρ[i]? = some (.mu m)
  | [], _, _, h => by cases h
  | s :: r, 0, _, h => by simp only [getS] at h; subst h; rfl
  | _ :: r, i + 1, _, h => by rw [List.getElem?_cons_succ]; exact getS_mu h
/-! ### names, constants -/
def TVar (i : Nat) : TrE := fun ρ n P => match getS ρ i with
  | .val d => P d n
  | _ => False
def TC (d : D) : TrE := fun _ n P => P d n
section
variable {X : Cx} {pos : Pos}
theorem vN (i : Nat) {x : Str} (hN : X.N[i]? = some x := by rfl) (hv : Vis X.env.scope x := by first | exact Or.inl rfl | exact Or.inr (Or.inl rfl) | exact Or.inr (Or.inr rfl)) (hd : (x == ("__debug__" : Str)) = false := by decide)
    (hcd : (x == ("__classdict__" : Str)) = false := by decide) : PV X (.Name x pos) (TVar i) :=
  ⟨tVar i, pe_var hN hv hd hcd, fun tp n G H σ ρ P Q g e h k => by
    unfold TVar at h
    split at h
    · rename_i d hd
      obtain ⟨v, h1, h2⟩ := e.val (getS_val hd)
      exact ⟨v, h1, k d n v G H g Step.refl h2 h⟩
    · exact h.elim⟩
theorem vI {i j} : PV X (.Constant (.int i) j pos) (TC (.int i)) := ⟨_, pe_int, fun tp n G H σ ρ P Q g e h k => k _ _ _ _ _ g Step.refl (.int i) h⟩
theorem vB {b j} : PV X (.Constant (.bool b) j pos) (TC (.bl b)) := ⟨_, pe_bl, fun tp n G H σ ρ P Q g e h k => k _ _ _ _ _ g Step.refl (.bl b) h⟩
theorem vO {j} : PV X (.Constant .none j pos) (TC .non) := ⟨_, pe_non, fun tp n G H σ ρ P Q g e h k => k _ _ _ _ _ g Step.refl .non h⟩
theorem vS {x j} : PV X (.Constant (.str x) j pos) (TC (.str x)) := ⟨_, pe_str, fun tp n G H σ ρ P Q g e h k => k _ _ _ _ _ g Step.refl (.str x) h⟩
/-- a built-in type's name, a module's constant -/
theorem vRaw {x : Str} {v : V} (h : PE X (.Name x pos) (tC v)) : PV X (.Name x pos) (TC (.raw v)) := ⟨_, h, fun tp n G H σ ρ P Q g e h k => k _ _ _ _ _ g Step.refl (.raw v) h⟩
/-- a tuple of the module: the datum d -/
theorem vGlo {x : Str} {a : Addr} {d : D} (hm : X.mg x = some (.ref a)) (h : ∀ tp G, At X.K tp G (.ref a) d) (hg : Gl X x := by rfl) (hd : (x == ("__debug__" : Str)) = false := by decide) : PV X (.Name x pos) (TC d) :=
  ⟨_, pe_glob (v := .ref a) hg hm rfl hd, fun tp n G H σ ρ P Q g e q k => k _ _ _ _ _ g Step.refl (h tp G) q⟩
theorem vGloI {x : Str} {i : Int} (hm : ∃ t, X.mg x = some (.int i t)) (hg : Gl X x := by rfl) (hd : (x == ("__debug__" : Str)) = false := by decide) : PV X (.Name x pos) (TC (.int i)) := by
  obtain ⟨t, hm⟩ := hm
  exact ⟨_, pe_glob (v := .int i) hg hm ⟨t, rfl⟩ hd, fun tp n G H σ ρ P Q g e q k => k _ _ _ _ _ g Step.refl (.int i) q⟩
end
/-! ### two-place operators -/
abbrev Op2 := D → D → (D → Prop) → Prop
def SndR (K : PySem.W.Frag) (r : R2) (R : Op2) : Prop := ∀ (tp : Addr) (n : Nat) (G H : Hp) (x y : V) (dx dy : D) (P : D → Prop) (Q : VK), Good K tp n G H → At K tp G x dx → At K tp G y dy → R dx dy P →
  (∀ d v G' H', Good K tp n G' H' → Step tp G H G' H' → At K tp G' v d → P d → Q v H') → r x y H Q
def TOp (R : Op2) (Ta Tb : TrE) : TrE := fun ρ n P => Ta ρ n fun x n1 => Tb ρ n1 fun y n2 => R x y fun z => P z n2
section
variable {X : Cx} {K : PySem.W.Frag} {a b c : Expr} {Ta Tb Tc : TrE} {pos : Pos} {ta tb tc : TE} {r r' : R2} {R R' : Op2}
theorem snd_op (ha : SndE K ta Ta) (hb : SndE K tb Tb) (hr : SndR K r R) : SndE K (tOp r ta tb) (TOp R Ta Tb) := by
  intro tp n G H σ ρ P Q g e h k
  refine ha tp n G H σ ρ _ _ g e h fun x n1 v G1 H1 g1 s1 a1 h1 => ?_
  refine hb tp n1 G1 H1 σ ρ _ _ g1 (e.step s1) h1 fun y n2 u G2 H2 g2 s2 a2 h2 => ?_
  refine hr tp n2 G2 H2 v u x y _ Q g2 (At.mono s2.gg _ _ a1) a2 h2 fun d w G3 H3 g3 s3 a3 h3 => ?_
  exact k d n2 w G3 H3 g3 ((s1.trans g1 g2 s2).trans g2 g3 s3) a3 h3
theorem vOp {op : Operator} (ho : OpR X (binaryOp op) r) (hs : SndR X.K r R) (ha : PV X a Ta) (hb : PV X b Tb) : PV X (.BinOp a op b pos) (TOp R Ta Tb) := by
  obtain ⟨ta, h1, q1⟩ := ha.ex
  obtain ⟨tb, h2, q2⟩ := hb.ex
  exact ⟨_, pe_op ho h1 h2, snd_op q1 q2 hs⟩
theorem vCmp {op : CmpOp} (ho : OpR X (compareOp op) r) (hs : SndR X.K r R) (ha : PV X a Ta) (hb : PV X b Tb) (hm : behindInMarks op b = false := by first | exact nomark _ | rfl) : PV X (.Compare a [op] [b] pos) (TOp R Ta Tb) := by
  obtain ⟨ta, h1, q1⟩ := ha.ex
  obtain ⟨tb, h2, q2⟩ := hb.ex
  exact ⟨_, pe_cmpR ho h1 h2 hm, snd_op q1 q2 hs⟩
/-- a truth value as a test -/
def TB (T : TrE) : TrT := fun ρ n P => T ρ n fun d n' => match d with
  | .bl b => P b n'
  | _ => False
theorem snd_b {t : TE} {T : TrE} (h : SndE K t T) : SndT K (fun σ H Q => t σ H fun x H' => ∃ k, x = .bl k ∧ Q k H') (TB T) := by
  intro tp n G H σ ρ P Q g e q k
  refine h tp n G H σ ρ _ _ g e q fun d n' v G' H' g' s' a' h' => ?_
  cases a' with
  | bl b => exact ⟨b, rfl, k b n' G' H' g' s' h'⟩
  | _ => exact h'.elim
theorem bCmp {op : CmpOp} (ho : OpR X (compareOp op) r) (hs : SndR X.K r R) (ha : PV X a Ta) (hb : PV X b Tb) (hm : behindInMarks op b = false := by first | exact nomark _ | rfl) : PB X (.Compare a [op] [b] pos) (TB (TOp R Ta Tb)) := by
  obtain ⟨ta, h1, q1⟩ := ha.ex
  obtain ⟨tb, h2, q2⟩ := hb.ex
  exact ⟨_, pt_cmpR ho h1 h2 hm, snd_b (snd_op q1 q2 hs)⟩
/-- any other expression that is True or False -/
theorem bVal {T : TrE} (h : PV X a T) (he : ∀ whole, isTrue a X.env whole = (do let v ← whole; standAt a.pos; holding [v] (truthy v)) := by intro _; rfl) : PB X a (TB T) := by
  obtain ⟨t, h1, q1⟩ := h.ex
  exact ⟨_, pt_val h1 he, snd_b q1⟩
def TChain (R R' : Op2) (Ta Tb Tc : TrE) : TrE := fun ρ n P => Ta ρ n fun x n1 => Tb ρ n1 fun y n2 => R x y fun z => match z with
  | .bl k => if k = true then Tc ρ n2 fun w n3 => R' y w fun z => P z n3 else P (.bl false) n2
  | _ => False
theorem snd_chain (ha : SndE K ta Ta) (hb : SndE K tb Tb) (hc : SndE K tc Tc) (hr : SndR K r R) (hr' : SndR K r' R') : SndE K (tChain r r' ta tb tc) (TChain R R' Ta Tb Tc) := by
  intro tp n G H σ ρ P Q g e h k
  refine ha tp n G H σ ρ _ _ g e h fun x n1 v G1 H1 g1 s1 a1 h1 => ?_
  refine hb tp n1 G1 H1 σ ρ _ _ g1 (e.step s1) h1 fun y n2 u G2 H2 g2 s2 a2 h2 => ?_
  have s12 := s1.trans g1 g2 s2
  refine hr tp n2 G2 H2 v u x y _ _ g2 (At.mono s2.gg _ _ a1) a2 h2 fun d w G3 H3 g3 s3 a3 h3 => ?_
  have s13 := s12.trans g2 g3 s3
  cases a3 with
  | bl kk =>
    refine ⟨kk, rfl, ?_⟩
    cases kk with
    | true =>
      refine iteT ?_
      refine hc tp n2 G3 H3 σ ρ _ _ g3 (e.step s13) h3 fun z n4 w G4 H4 g4 s4 a4 h4 => ?_
      refine hr' tp n4 G4 H4 u w y z _ Q g4 (At.mono (s3.gg.trans s4.gg) _ _ a2) a4 h4 fun d w G5 H5 g5 s5 a5 h5 => ?_
      exact k d n4 w G5 H5 g5 ((s13.trans g3 g4 s4).trans g4 g5 s5) a5 h5
    | false =>
      refine iteF ?_
      exact k _ _ _ G3 H3 g3 s13 (.bl false) h3
  | _ => exact h3.elim
theorem vChain {op op' : CmpOp} (ho : OpR X (compareOp op) r) (hs : SndR X.K r R) (ho' : OpR X (compareOp op') r') (hs' : SndR X.K r' R') (ha : PV X a Ta) (hb : PV X b Tb) (hc : PV X c Tc) (hm : lastMarks [op, op'] [b, c] = false := by with_unfolding_all rfl) :
    PV X (.Compare a [op, op'] [b, c] pos) (TChain R R' Ta Tb Tc) := by
  obtain ⟨ta, h1, q1⟩ := ha.ex
  obtain ⟨tb, h2, q2⟩ := hb.ex
  obtain ⟨tc, h3, q3⟩ := hc.ex
  exact ⟨_, pe_chain ho ho' h1 h2 h3 hm, snd_chain q1 q2 q3 hs hs'⟩
end
/-! ### the operators -/
/-- whole numbers -/
def opII (C : Int → Int → Prop) (f : Int → Int → D) : Op2 := fun x y P => match x, y with
  | .int i, .int j => C i j ∧ P (f i j)
  | _, _ => False
def opI0 (f : Int → Int → D) : Op2 := fun x y P => match x, y with
  | .int i, .int j => P (f i j)
  | _, _ => False
/-- what is told of a value by a datum that is no object -/
inductive Flat : V → D → Prop
  | int (i : Int) : Flat (.int i) (.int i)
  | bl (b : Bool) : Flat (.bl b) (.bl b)
theorem Flat.at_ {K : PySem.W.Frag} {tp : Addr} {G : Hp} : ∀ {v : V} {d : D}, Flat v d → At K tp G v d
  | _, _, .int i => .int i
  | _, _, .bl b => .bl b
section
variable {K : PySem.W.Frag} {tp : Addr} {G : Hp} {v : V}
theorem At.int_ {i : Int} (h : At K tp G v (.int i)) : v = .int i := by cases h; rfl
theorem At.bl_ {i : Bool} (h : At K tp G v (.bl i)) : v = .bl i := by cases h; rfl
theorem At.str_ {i : Str} (h : At K tp G v (.str i)) : v = .str i := by cases h; rfl
theorem At.non_ (h : At K tp G v .non) : v = .non := by cases h; rfl
theorem snd_II {C : Int → Int → Prop} {f : Int → Int → V} {f' : Int → Int → D} (hf : ∀ i j, Flat (f i j) (f' i j)) : SndR K (rI C f) (opII C f') := by
  intro tp n G H x y dx dy P Q g ax ay h k
  unfold opII at h
  split at h
  · rename_i i j
    exact ⟨i, j, ax.int_, ay.int_, h.1, k _ _ G H g Step.refl (hf i j).at_ h.2⟩
  · exact h.elim
theorem snd_I0 {f : Int → Int → V} {f' : Int → Int → D} (hf : ∀ i j, Flat (f i j) (f' i j)) : SndR K (rI0 f) (opI0 f') := by
  intro tp n G H x y dx dy P Q g ax ay h k
  unfold opI0 at h
  split at h
  · rename_i i j
    exact ⟨i, j, ax.int_, ay.int_, k _ _ G H g Step.refl (hf i j).at_ h⟩
  · exact h.elim
end
section
variable {X : Cx} {a b c : Expr} {Ta Tb Tc : TrE} {pos : Pos}
abbrev oSub : Op2 := opI0 fun i j => .int (i - j)
abbrev oMul : Op2 := opII CMul fun i j => .int (i * j)
abbrev oDiv : Op2 := opII CDiv fun i j => .int (i / j)
abbrev oMod : Op2 := opII (fun _ j => 0 < j) fun i j => .int (i % j)
abbrev oPow : Op2 := opII CPow fun i j => .int (i ^ j.toNat)
abbrev oLt : Op2 := opI0 fun i j => .bl (decide (i < j))
abbrev oLe : Op2 := opI0 fun i j => .bl (decide (i ≤ j))
abbrev oGt : Op2 := opI0 fun i j => .bl (decide (j < i))
abbrev oGe : Op2 := opI0 fun i j => .bl (decide (j ≤ i))
theorem vSub (ha : PV X a Ta) (hb : PV X b Tb) : PV X (.BinOp a .Sub b pos) (TOp oSub Ta Tb) := vOp op_sub (snd_I0 fun i j => .int _) ha hb
theorem vMul (ha : PV X a Ta) (hb : PV X b Tb) : PV X (.BinOp a .Mult b pos) (TOp oMul Ta Tb) := vOp op_mul (snd_II fun i j => .int _) ha hb
theorem vDiv (ha : PV X a Ta) (hb : PV X b Tb) : PV X (.BinOp a .FloorDiv b pos) (TOp oDiv Ta Tb) := vOp op_fdiv (snd_II fun i j => .int _) ha hb
theorem vMod (ha : PV X a Ta) (hb : PV X b Tb) : PV X (.BinOp a .Mod b pos) (TOp oMod Ta Tb) := vOp op_mod (snd_II fun i j => .int _) ha hb
theorem vPow (ha : PV X a Ta) (hb : PV X b Tb) : PV X (.BinOp a .Pow b pos) (TOp oPow Ta Tb) := vOp op_pow (snd_II fun i j => .int _) ha hb
theorem vLt (ha : PV X a Ta) (hb : PV X b Tb) : PV X (.Compare a [.Lt] [b] pos) (TOp oLt Ta Tb) := vCmp op_lt (snd_I0 fun i j => .bl _) ha hb
theorem vLe (ha : PV X a Ta) (hb : PV X b Tb) : PV X (.Compare a [.LtE] [b] pos) (TOp oLe Ta Tb) := vCmp op_le (snd_I0 fun i j => .bl _) ha hb
theorem vGt (ha : PV X a Ta) (hb : PV X b Tb) : PV X (.Compare a [.Gt] [b] pos) (TOp oGt Ta Tb) := vCmp op_gt (snd_I0 fun i j => .bl _) ha hb
theorem vGe (ha : PV X a Ta) (hb : PV X b Tb) : PV X (.Compare a [.GtE] [b] pos) (TOp oGe Ta Tb) := vCmp op_ge (snd_I0 fun i j => .bl _) ha hb
theorem bLt (ha : PV X a Ta) (hb : PV X b Tb) : PB X (.Compare a [.Lt] [b] pos) (TB (TOp oLt Ta Tb)) := bCmp op_lt (snd_I0 fun i j => .bl _) ha hb
theorem bLe (ha : PV X a Ta) (hb : PV X b Tb) : PB X (.Compare a [.LtE] [b] pos) (TB (TOp oLe Ta Tb)) := bCmp op_le (snd_I0 fun i j => .bl _) ha hb
theorem bGt (ha : PV X a Ta) (hb : PV X b Tb) : PB X (.Compare a [.Gt] [b] pos) (TB (TOp oGt Ta Tb)) := bCmp op_gt (snd_I0 fun i j => .bl _) ha hb
theorem bGe (ha : PV X a Ta) (hb : PV X b Tb) : PB X (.Compare a [.GtE] [b] pos) (TB (TOp oGe Ta Tb)) := bCmp op_ge (snd_I0 fun i j => .bl _) ha hb
theorem vLeLe (ha : PV X a Ta) (hb : PV X b Tb) (hc : PV X c Tc) (hm : lastMarks [.LtE, .LtE] [b, c] = false := by with_unfolding_all rfl) : PV X (.Compare a [.LtE, .LtE] [b, c] pos) (TChain oLe oLe Ta Tb Tc) := vChain op_le (snd_I0 fun i j => .bl _) op_le (snd_I0 fun i j => .bl _) ha hb hc hm
def TNeg (Ta : TrE) : TrE := fun ρ n P => Ta ρ n fun x n1 => match x with
  | .int i => P (.int (-i)) n1
  | _ => False
theorem vNeg (ha : PV X a Ta) : PV X (.UnaryOp .USub a pos) (TNeg Ta) := by
  obtain ⟨ta, h1, q1⟩ := ha.ex
  refine ⟨_, pe_un un_neg h1, fun tp n G H σ ρ P Q g e h k => ?_⟩
  refine q1 tp n G H σ ρ _ _ g e h fun x n1 v G1 H1 g1 s1 a1 h1 => ?_
  split at h1
  · rename_i i
    exact ⟨i, a1.int_, k _ _ _ G1 H1 g1 s1 (.int _) h1⟩
  · exact h1.elim
/-! a + b: numbers, tuples, lists -/
def oAdd : Op2 := fun x y P => match x, y with
  | .int i, .int j => P (.int (i + j))
  | .tup xs, .tup ys => xs.length + ys.length ≤ sizeLine ∧ P (.tup (xs ++ ys))
  | .key xs, .key ys => xs.length + ys.length ≤ sizeLine ∧ P (.key (xs ++ ys))
  | .lst xs, .lst ys => xs.length + ys.length ≤ sizeLine ∧ P (.lst (xs ++ ys))
  | _, _ => False
def rAddA (K : PySem.W.Frag) : R2 := fun x y H Q => (rI0 (fun i j => .int (i + j))) x y H Q ∨ (rCatA K x y H Q ∨ rCat x y H Q)
theorem snd_add {K : PySem.W.Frag} : SndR K (rAddA K) oAdd := by
  intro tp n G H x y dx dy P Q g ax ay h k
  unfold oAdd at h
  split at h
  · rename_i i j
    exact .inl ⟨i, j, ax.int_, ay.int_, k _ _ G H g Step.refl (.int _) h⟩
  · rename_i xs ys
    cases ax with
    | tup h1 h2 =>
      cases ay with
      | tup h3 h4 =>
        refine .inr (.inl ⟨_, _, _, _, rfl, rfl, seqT_mono g.sub h1, seqT_mono g.sub h3, by rw [h2.length, h4.length]; exact h.1, fun e => ?_, fun _ e => ?_, fun _ _ p hp => ?_⟩)
        · subst e
          have e2 : xs = [] := List.eq_nil_of_length_eq_zero h2.length.symm
          subst e2
          exact k _ _ G H g Step.refl (.tup h3 h4) h.2
        · subst e
          have e2 : ys = [] := List.eq_nil_of_length_eq_zero h4.length.symm
          subst e2
          rw [List.append_nil] at h
          exact k _ _ G H g Step.refl (.tup h1 h2) h.2
        · obtain ⟨g', s'⟩ := g.new hp (.tup _)
          exact k _ _ _ _ g' s' (.tup (SqT.of upd_same) (AtL.mono s'.gg _ _ (h2.append h4))) h.2
  · rename_i xs ys
    cases ax with
    | key h1 =>
      cases ay with
      | key h3 =>
        refine .inr (.inl ⟨_, _, _, _, rfl, rfl, SqT.of (g.sub _ _ h1), SqT.of (g.sub _ _ h3), by rw [List.length_map, List.length_map]; exact h.1, fun e => ?_, fun _ e => ?_, fun _ _ p hp => ?_⟩)
        · have e2 : xs = [] := List.map_eq_nil_iff.mp e
          subst e2
          exact k _ _ G H g Step.refl (.key h3) h.2
        · have e2 : ys = [] := List.map_eq_nil_iff.mp e
          subst e2
          rw [List.append_nil] at h
          exact k _ _ G H g Step.refl (.key h1) h.2
        · obtain ⟨g', s'⟩ := g.new hp (.tup (xs.map V.int ++ ys.map V.int))
          exact k _ _ _ _ g' s' (.key (by rw [upd_same, List.map_append])) h.2
  · rename_i xs ys
    cases ax with
    | lst h1 h2 =>
      cases ay with
      | lst h3 h4 =>
        refine .inr (.inr ⟨_, _, _, _, rfl, rfl, g.sub _ _ h1, g.sub _ _ h3, by rw [h2.length, h4.length]; exact h.1, fun p hp => ?_⟩)
        obtain ⟨g', s'⟩ := g.new hp (.lst _)
        exact k _ _ _ _ g' s' (.lst upd_same (AtL.mono s'.gg _ _ (h2.append h4))) h.2
  · exact h.elim
theorem vAdd (ha : PV X a Ta) (hb : PV X b Tb) : PV X (.BinOp a .Add b pos) (TOp oAdd Ta Tb) := vOp (OpR.or op_add (OpR.or op_catA op_cat)) snd_add ha hb
/-! is None -/
def isNonD : D → Option Bool
  | .non => some true
  | .raw _ => none
  | _ => some false
def oIsN : Op2 := fun x y P => match y with
  | .non => ∃ b, isNonD x = some b ∧ P (.bl b)
  | _ => False
def oNotN : Op2 := fun x y P => match y with
  | .non => ∃ b, isNonD x = some b ∧ P (.bl (!b))
  | _ => False
theorem isNonD_ok {K : PySem.W.Frag} {tp : Addr} {G : Hp} {v : V} {d : D} {b : Bool} (h : At K tp G v d) (e : isNonD d = some b) : decide (v = .non) = b := by
  cases h <;> simp [isNonD] at e <;> subst e <;> simp
theorem snd_isN {K : PySem.W.Frag} : SndR K (fun x y H Q => y = .non ∧ Q (.bl (decide (x = .non))) H) oIsN := by
  intro tp n G H x y dx dy P Q g ax ay h k
  unfold oIsN at h
  split at h
  · obtain ⟨b, e, h⟩ := h
    exact ⟨ay.non_, by rw [isNonD_ok ax e]; exact k _ _ G H g Step.refl (.bl b) h⟩
  · exact h.elim
theorem snd_notN {K : PySem.W.Frag} : SndR K (fun x y H Q => y = .non ∧ Q (.bl (!decide (x = .non))) H) oNotN := by
  intro tp n G H x y dx dy P Q g ax ay h k
  unfold oNotN at h
  split at h
  · obtain ⟨b, e, h⟩ := h
    exact ⟨ay.non_, by rw [isNonD_ok ax e]; exact k _ _ G H g Step.refl (.bl _) h⟩
  · exact h.elim
theorem bIsN (ha : PV X a Ta) (hb : PV X b Tb) : PB X (.Compare a [.Is] [b] pos) (TB (TOp oIsN Ta Tb)) := bCmp op_isN snd_isN ha hb
theorem bNotN (ha : PV X a Ta) (hb : PV X b Tb) : PB X (.Compare a [.IsNot] [b] pos) (TB (TOp oNotN Ta Tb)) := bCmp op_notN snd_notN ha hb
/-! a is True -/
def oIsB : Op2 := fun x y P => match x, y with
  | .bl i, .bl j => P (.bl (decide (i = j)))
  | _, _ => False
theorem snd_isB {K : PySem.W.Frag} : SndR K (fun x y H Q => ∃ a b, x = .bl a ∧ y = .bl b ∧ Q (.bl (decide (a = b))) H) oIsB := by
  intro tp n G H x y dx dy P Q g ax ay h k
  unfold oIsB at h
  split at h
  · exact ⟨_, _, ax.bl_, ay.bl_, k _ _ G H g Step.refl (.bl _) h⟩
  · exact h.elim
theorem bIsB (ha : PV X a Ta) (hb : PV X b Tb) : PB X (.Compare a [.Is] [b] pos) (TB (TOp oIsB Ta Tb)) := bCmp op_is_bl snd_isB ha hb
end
/-! ### a == b -/
mutual
/-- as the library's datum (what stands for an object is none) -/
def D.py : D → PyData
  | .non => .none
  | .bl b => .bool b
  | .int i => .int i
  | .str x => .str x
  | .tup ds => .tuple (pyL ds)
  | .lst ds => .list (pyL ds)
  | .key ks => .tuple (ks.map PyData.int)
  | _ => .none
def pyL : List D → List PyData
  | [] => []
  | d :: ds => d.py :: pyL ds
end
mutual
/-- no object within -/
def D.plain : D → Bool
  | .tup ds => plainL ds
  | .lst ds => plainL ds
  | .tape => false
  | .obj _ _ _ => false
  | .tab _ _ => false
  | .raw _ => false
  | _ => true
def plainL : List D → Bool
  | [] => true
  | d :: ds => d.plain && plainL ds
end
section
variable {K : PySem.W.Frag} {tp : Addr} {G H : Hp}
theorem DpAll.ints : ∀ ks : List Int, DpAll K H (ks.map V.int) (ks.map PyData.int)
  | [] => .nil
  | k :: ks => .cons (.int k) (DpAll.ints ks)
mutual
theorem At.dp (e : Same G H) : ∀ (d : D) (v : V), d.plain = true → At K tp G v d → Dp K H v d.py
  | .non, _, _, h => by cases h; exact .non
  | .bl b, _, _, h => by cases h; exact .bl b
  | .int i, _, _, h => by cases h; exact .int i
  | .str x, _, _, h => by cases h; exact .str x
  | .tup ds, _, p, h => by
    cases h with
    | tup h1 h2 => exact .tup (seqT_mono e h1) (AtL.dp e ds _ (by simpa [D.plain] using p) h2)
  | .lst ds, _, p, h => by
    cases h with
    | lst h1 h2 => exact .lst (SqL.of (e _ _ h1)) (AtL.dp e ds _ (by simpa [D.plain] using p) h2)
  | .key ks, _, _, h => by
    cases h with
    | key h1 => exact .tup (SqT.of (e _ _ h1)) (DpAll.ints ks)
  | .tape, _, p, _ => by simp [D.plain] at p
  | .obj _ _ _, _, p, _ => by simp [D.plain] at p
  | .tab _ _, _, p, _ => by simp [D.plain] at p
  | .raw _, _, p, _ => by simp [D.plain] at p
theorem AtL.dp (e : Same G H) : ∀ (ds : List D) (vs : List V), plainL ds = true → AtL K tp G vs ds → DpAll K H vs (pyL ds)
  | [], _, _, h => by cases h; exact .nil
  | d :: ds, _, p, h => by
    cases h with
    | cons h1 h2 =>
      have q : d.plain = true ∧ plainL ds = true := by simpa [plainL] using p
      exact .cons (At.dp e d _ q.1 h1) (AtL.dp e ds _ q.2 h2)
end
end
/-- numbers, texts; fractions; data against the empty tuple, the empty list -/
def eqD (x y : D) (P : Bool → Prop) : Prop := match x, y with
  | .int i, .int j => P (decide (i = j))
  | .str i, .str j => P (decide (i = j))
  | .tup [.int a, .int b], .tup [.int c, .int d] => P (decide (a = c ∧ b = d))
  | .tup xs, .tup [] => (D.tup xs).plain = true ∧ SeqAt.shaped (D.tup xs).py = true ∧ P xs.isEmpty
  | .lst xs, .lst [] => (D.lst xs).plain = true ∧ SeqAt.shaped (D.lst xs).py = true ∧ P xs.isEmpty
  | .key xs, .key [] => P xs.isEmpty
  | _, _ => False
def opEq (neg : Bool) : Op2 := fun x y P => eqD x y fun b => P (.bl (if neg then !b else b))
def rEqA (K : PySem.W.Frag) (neg : Bool) : R2 := fun x y H Q => (scal x y = true ∧ Q (.bl (if neg then !decide (x = y) else decide (x = y))) H) ∨
  ∃ d e, Dp K H x d ∧ Dp K H y e ∧ SeqAt.shaped d = true ∧ SeqAt.shaped e = true ∧ Q (.bl (if neg then !PyData.eqv d e else PyData.eqv d e)) H
theorem op_eqA {X : Cx} (hu : X.A.units + 64 < cLine) : OpR X (compareOp .Eq) (rEqA X.K false) := OpR.or op_eq (op_eqD hu)
theorem op_neA {X : Cx} (hu : X.A.units + 64 < cLine) : OpR X (compareOp .NotEq) (rEqA X.K true) := OpR.or op_ne (op_neD hu)
theorem eqv_frac (a b c d : Int) : PyData.eqv (.tuple [.int a, .int b]) (.tuple [.int c, .int d]) = decide (a = c ∧ b = d) := by
  simp [PyData.eqv, PyData.eqvAll, Bool.beq_eq_decide_eq]
theorem eqv_tup0 (xs : List PyData) : PyData.eqv (.tuple xs) (.tuple []) = xs.isEmpty := by
  cases xs <;> simp [PyData.eqv, PyData.eqvAll]
theorem eqv_lst0 (xs : List PyData) : PyData.eqv (.list xs) (.list []) = xs.isEmpty := by
  cases xs <;> simp [PyData.eqv, PyData.eqvAll]
theorem shaped_frac (a b : Int) : SeqAt.shaped (.tuple [.int a, .int b]) = true := by
  simp [SeqAt.shaped, PyData.canLay0, PyData.canLayAll0, PyData.depth, PyData.depthAll]
theorem shaped_tup0 : SeqAt.shaped (.tuple []) = true := by decide
theorem shaped_lst0 : SeqAt.shaped (.list []) = true := by decide
theorem pyL_empty (xs : List D) : (pyL xs).isEmpty = xs.isEmpty := by cases xs <;> rfl
theorem shaped_key (ks : List Int) : SeqAt.shaped (.tuple (ks.map PyData.int)) = true := by
  have h1 : ∀ ks : List Int, PyData.canLayAll0 (ks.map PyData.int) = true := fun ks => by
    induction ks with
    | nil => rfl
    | cons k ks ih => simp [PyData.canLayAll0, PyData.canLay0, ih]
  have h2 : ∀ ks : List Int, PyData.depthAll (ks.map PyData.int) ≤ 1 := fun ks => by
    induction ks with
    | nil => simp [PyData.depthAll]
    | cons k ks ih => simp [PyData.depthAll, PyData.depth]; omega
  simp [SeqAt.shaped, PyData.canLay0, PyData.depth, h1]
  have := h2 ks
  omega
theorem snd_eqA {K : PySem.W.Frag} {neg : Bool} : SndR K (rEqA K neg) (opEq neg) := by
  intro tp n G H x y dx dy P Q g ax ay h k
  unfold opEq eqD at h
  have fin : ∀ b : Bool, P (.bl b) → Q (.bl b) H := fun b hb => k _ _ G H g Step.refl (.bl b) hb
  split at h
  · rename_i i j
    rw [ax.int_, ay.int_]
    refine .inl ⟨rfl, ?_⟩
    have e : decide (V.int i = V.int j) = decide (i = j) := by simp
    rw [e]; exact fin _ h
  · rename_i i j
    rw [ax.str_, ay.str_]
    refine .inl ⟨rfl, ?_⟩
    have e : decide (V.str i = V.str j) = decide (i = j) := by simp
    rw [e]; exact fin _ h
  · rename_i a b c d
    refine .inr ⟨_, _, At.dp g.sub _ _ rfl ax, At.dp g.sub _ _ rfl ay, shaped_frac a b, shaped_frac c d, ?_⟩
    have e : PyData.eqv (D.tup [.int a, .int b]).py (D.tup [.int c, .int d]).py = decide (a = c ∧ b = d) := eqv_frac a b c d
    rw [e]; exact fin _ h
  · rename_i xs
    obtain ⟨h1, h2, h⟩ := h
    refine .inr ⟨_, _, At.dp g.sub _ _ h1 ax, At.dp g.sub _ _ rfl ay, h2, shaped_tup0, ?_⟩
    have e : PyData.eqv (D.tup xs).py (D.tup []).py = xs.isEmpty := by
      show PyData.eqv (.tuple (pyL xs)) (.tuple []) = _
      rw [eqv_tup0, pyL_empty]
    rw [e]; exact fin _ h
  · rename_i xs
    obtain ⟨h1, h2, h⟩ := h
    refine .inr ⟨_, _, At.dp g.sub _ _ h1 ax, At.dp g.sub _ _ rfl ay, h2, shaped_lst0, ?_⟩
    have e : PyData.eqv (D.lst xs).py (D.lst []).py = xs.isEmpty := by
      show PyData.eqv (.list (pyL xs)) (.list []) = _
      rw [eqv_lst0, pyL_empty]
    rw [e]; exact fin _ h
  · rename_i xs
    refine .inr ⟨_, _, At.dp g.sub _ _ rfl ax, At.dp g.sub _ _ rfl ay, shaped_key xs, shaped_key [], ?_⟩
    have e : PyData.eqv (D.key xs).py (D.key []).py = xs.isEmpty := by
      show PyData.eqv (.tuple (xs.map PyData.int)) (.tuple []) = _
      rw [eqv_tup0]; cases xs <;> rfl
    rw [e]; exact fin _ h
  · exact h.elim
abbrev oEq : Op2 := opEq false
abbrev oNe : Op2 := opEq true
section
variable {X : Cx} {a b c : Expr} {Ta Tb Tc : TrE} {pos : Pos} {k : Nat}
theorem vEq (hr : Room k X.A) (ha : PV X a Ta) (hb : PV X b Tb) : PV X (.Compare a [.Eq] [b] pos) (TOp oEq Ta Tb) := vCmp (op_eqA hr.units) snd_eqA ha hb
theorem bEq (hr : Room k X.A) (ha : PV X a Ta) (hb : PV X b Tb) : PB X (.Compare a [.Eq] [b] pos) (TB (TOp oEq Ta Tb)) := bCmp (op_eqA hr.units) snd_eqA ha hb
theorem vNe (hr : Room k X.A) (ha : PV X a Ta) (hb : PV X b Tb) : PV X (.Compare a [.NotEq] [b] pos) (TOp oNe Ta Tb) := vCmp (op_neA hr.units) snd_eqA ha hb
theorem bNe (hr : Room k X.A) (ha : PV X a Ta) (hb : PV X b Tb) : PB X (.Compare a [.NotEq] [b] pos) (TB (TOp oNe Ta Tb)) := bCmp (op_neA hr.units) snd_eqA ha hb
end
/-! ### in, not in -/
def inD (x : D) (ys : List D) (P : Bool → Prop) : Prop := match x with
  | .int i => ∃ ks : List Int, ys = ks.map D.int ∧ P (decide (i ∈ ks))
  | .bl b => ∃ ks : List Bool, ys = ks.map D.bl ∧ P (decide (b ∈ ks))
  | .str s => ∃ ks : List Str, ys = ks.map D.str ∧ P (decide (s ∈ ks))
  | _ => False
def opIn (neg : Bool) : Op2 := fun x y P => match seqOf y with
  | some ys => inD x ys fun b => P (.bl (if neg then !b else b))
  | none => False
theorem inV_int (i : Int) : ∀ ks : List Int, inV (.int i) (ks.map V.int) = decide (i ∈ ks)
  | [] => by simp [inV]
  | k :: ks => by
    have ih := inV_int i ks
    unfold inV at ih ⊢
    rw [List.map_cons, List.any_cons, ih]
    have e : eqV (.int k) (.int i) = decide (i = k) := by
      simp only [eqV]
      rw [Bool.beq_eq_decide_eq]
      exact decide_eq_decide.mpr ⟨fun h => h.symm, fun h => h.symm⟩
    rw [e]; simp [List.mem_cons]
theorem inV_bl (i : Bool) : ∀ ks : List Bool, inV (.bl i) (ks.map V.bl) = decide (i ∈ ks)
  | [] => by simp [inV]
  | k :: ks => by
    have ih := inV_bl i ks
    unfold inV at ih ⊢
    rw [List.map_cons, List.any_cons, ih]
    have e : eqV (.bl k) (.bl i) = decide (i = k) := by cases k <;> cases i <;> rfl
    rw [e]; simp [List.mem_cons]
theorem inV_str (i : Str) : ∀ ks : List Str, inV (.str i) (ks.map V.str) = decide (i ∈ ks)
  | [] => by simp [inV]
  | k :: ks => by
    have ih := inV_str i ks
    unfold inV at ih ⊢
    rw [List.map_cons, List.any_cons, ih]
    have e : eqV (.str k) (.str i) = decide (i = k) := by
      simp only [eqV]
      rw [Bool.beq_eq_decide_eq]
      exact decide_eq_decide.mpr ⟨fun h => h.symm, fun h => h.symm⟩
    rw [e]; simp [List.mem_cons]
theorem flat_map {α : Type} (f : α → V) (hf : ∀ x, flatV (f x) = true) (ks : List α) : (ks.map f).all flatV = true := by
  induction ks with
  | nil => rfl
  | cons k ks ih => rw [List.map_cons, List.all_cons, hf, ih]; rfl
theorem snd_in {K : PySem.W.Frag} {neg : Bool} : SndR K (rIn K neg) (opIn neg) := by
  intro tp n G H x y dx dy P Q g ax ay h k
  unfold opIn at h
  split at h
  · rename_i ys hy
    obtain ⟨a, xs, rfl, hs, hl⟩ := ay.seq hy
    have hs' : SqL K H a xs ∨ SqT K H a xs := hs.imp (fun q => (g.sub).seq q) (fun q => seqT_mono g.sub q)
    have fin : ∀ b : Bool, P (.bl b) → Q (.bl b) H := fun b hb => k _ _ G H g Step.refl (.bl b) hb
    unfold inD at h
    split at h
    · rename_i i
      obtain ⟨ks, rfl, h⟩ := h
      obtain rfl := hl.of_ints
      rw [ax.int_]
      refine ⟨a, _, rfl, hs', rfl, flat_map _ (fun _ => rfl) ks, ?_⟩
      rw [inV_int]; exact fin _ h
    · rename_i i
      obtain ⟨ks, rfl, h⟩ := h
      obtain rfl := hl.of_bls
      rw [ax.bl_]
      refine ⟨a, _, rfl, hs', rfl, flat_map _ (fun _ => rfl) ks, ?_⟩
      rw [inV_bl]; exact fin _ h
    · rename_i i
      obtain ⟨ks, rfl, h⟩ := h
      obtain rfl := hl.of_strs
      rw [ax.str_]
      refine ⟨a, _, rfl, hs', rfl, flat_map _ (fun _ => rfl) ks, ?_⟩
      rw [inV_str]; exact fin _ h
    · exact h.elim
  · exact h.elim
abbrev oIn : Op2 := opIn false
abbrev oNotIn : Op2 := opIn true
section
variable {X : Cx} {a b c : Expr} {Ta Tb Tc : TrE} {pos : Pos} {k : Nat}
theorem vIn (ha : PV X a Ta) (hb : PV X b Tb) (hm : behindInMarks .In b = false := by rfl) : PV X (.Compare a [.In] [b] pos) (TOp oIn Ta Tb) := vCmp op_in_seq snd_in ha hb hm
theorem bIn (ha : PV X a Ta) (hb : PV X b Tb) (hm : behindInMarks .In b = false := by rfl) : PB X (.Compare a [.In] [b] pos) (TB (TOp oIn Ta Tb)) := bCmp op_in_seq snd_in ha hb hm
theorem vNotIn (ha : PV X a Ta) (hb : PV X b Tb) (hm : behindInMarks .NotIn b = false := by rfl) : PV X (.Compare a [.NotIn] [b] pos) (TOp oNotIn Ta Tb) := vCmp op_notIn_seq snd_in ha hb hm
theorem bNotIn (ha : PV X a Ta) (hb : PV X b Tb) (hm : behindInMarks .NotIn b = false := by rfl) : PB X (.Compare a [.NotIn] [b] pos) (TB (TOp oNotIn Ta Tb)) := bCmp op_notIn_seq snd_in ha hb hm
end
end Pu

/-! PuC: arguments, displays, subscripts, slices, tests, built-ins, calls of defs. -/
namespace Pu
open PySem PySem.Spec L2
section
variable {X : Cx} {K : PySem.W.Frag} {e a b c : Expr} {es rest : List Expr} {Te Ta Tb Tc : TrE} {T U : TrT} {TA' TR : TrA} {pos : Pos}
/-! ### arguments, displays -/
def TNil : TrA := fun _ n P => P [] n
def TCons (Te : TrE) (TR : TrA) : TrA := fun ρ n P => Te ρ n fun x n1 => TR ρ n1 fun xs n2 => P (x :: xs) n2
theorem aNil : PVs X [] TNil := ⟨_, pa_nil, fun tp n G H σ ρ P Q g e h k => k _ _ _ _ _ g Step.refl .nil h⟩
theorem snd_cons {te : TE} {tr : L2.TA} (h1 : SndE K te Te) (h2 : SndA K tr TR) : SndA K (tCons te tr) (TCons Te TR) := by
  intro tp n G H σ ρ P Q g e h k
  refine h1 tp n G H σ ρ _ _ g e h fun x n1 v G1 H1 g1 s1 a1 q1 => ?_
  refine h2 tp n1 G1 H1 σ ρ _ _ g1 (e.step s1) q1 fun xs n2 vs G2 H2 g2 s2 a2 q2 => ?_
  exact k _ _ _ G2 H2 g2 (s1.trans g1 g2 s2) (.cons (At.mono s2.gg _ _ a1) a2) q2
theorem aCons (h1 : PV X e Te) (h2 : PVs X es TR) (hs : starEach (e :: es) X.env = (false, eval e X.env) :: starEach es X.env := by rfl) : PVs X (e :: es) (TCons Te TR) := by
  obtain ⟨te, p1, q1⟩ := h1.ex
  obtain ⟨tr, p2, q2⟩ := h2.ex
  exact ⟨_, pa_cons p1 p2 hs, snd_cons q1 q2⟩
def TTup (TR : TrA) : TrE := fun ρ n P => TR ρ n fun ds n1 => ds.length ≤ sizeLine ∧ P (.tup ds) n1
def TLst (TR : TrA) : TrE := fun ρ n P => TR ρ n fun ds n1 => ds.length ≤ sizeLine ∧ P (.lst ds) n1
/-- a tuple of whole numbers, as a key -/
def TKey (TR : TrA) : TrE := fun ρ n P => TR ρ n fun ds n1 => ds.length ≤ sizeLine ∧ ∃ ks : List Int, ds = ks.map D.int ∧ P (.key ks) n1
theorem vTup {x1} (h : PVs X es TR) : PV X (.Tuple es x1 pos) (TTup TR) := by
  obtain ⟨t, p1, q1⟩ := h.ex
  refine ⟨_, pe_tup p1, fun tp n G H σ ρ P Q g e h k => ?_⟩
  refine q1 tp n G H σ ρ _ _ g e h fun ds n1 vs G1 H1 g1 s1 a1 h1 => ⟨by rw [a1.length]; exact h1.1, fun p hp => ?_⟩
  obtain ⟨g2, s2⟩ := g1.new hp (.tup vs)
  exact k _ _ _ _ _ g2 (s1.trans g1 g2 s2) (.tup (SqT.of upd_same) (AtL.mono s2.gg _ _ a1)) h1.2
theorem vKey {x1} (h : PVs X es TR) : PV X (.Tuple es x1 pos) (TKey TR) := by
  obtain ⟨t, p1, q1⟩ := h.ex
  refine ⟨_, pe_tup p1, fun tp n G H σ ρ P Q g e h k => ?_⟩
  refine q1 tp n G H σ ρ _ _ g e h fun ds n1 vs G1 H1 g1 s1 a1 h1 => ⟨by rw [a1.length]; exact h1.1, fun p hp => ?_⟩
  obtain ⟨g2, s2⟩ := g1.new hp (.tup vs)
  obtain ⟨ks, rfl, h2⟩ := h1.2
  obtain rfl := a1.of_ints
  exact k _ _ _ _ _ g2 (s1.trans g1 g2 s2) (.key upd_same) h2
theorem vLst (h : PVs X es TR) : PV X (.List es pos) (TLst TR) := by
  obtain ⟨t, p1, q1⟩ := h.ex
  refine ⟨_, pe_lst p1, fun tp n G H σ ρ P Q g e h k => ?_⟩
  refine q1 tp n G H σ ρ _ _ g e h fun ds n1 vs G1 H1 g1 s1 a1 h1 => ⟨by rw [a1.length]; exact h1.1, fun p hp => ?_⟩
  obtain ⟨g2, s2⟩ := g1.new hp (.lst vs)
  exact k _ _ _ _ _ g2 (s1.trans g1 g2 s2) (.lst upd_same (AtL.mono s2.gg _ _ a1)) h1.2
/-! ### a[i] -/
theorem atI_at {tp : Addr} {G : Hp} {xs : List V} {ds : List D} {i : Int} {d : D} (h : AtL K tp G xs ds) (e : atI ds i = some d) : ∃ v, atI xs i = some v ∧ At K tp G v d := by
  unfold atI at e ⊢
  rw [h.length]
  cases q : ixN ds.length i with
  | none => rw [q] at e; cases e
  | some j =>
    rw [q] at e
    obtain ⟨v, h1, h2⟩ := h.get' (show ds[j]? = some d from e)
    exact ⟨v, h1, h2⟩
def oIx : Op2 := fun x y P => match seqOf x, y with
  | some ds, .int i => ∃ d, atI ds i = some d ∧ P d
  | _, _ => False
theorem vIx (ha : PV X a Ta) (hb : PV X b Tb) (hs : PlainIx b := by exact fun _ _ => rfl) : PV X (.Subscript a b pos) (TOp oIx Ta Tb) := by
  obtain ⟨ta, p1, q1⟩ := ha.ex
  obtain ⟨tb, p2, q2⟩ := hb.ex
  refine ⟨_, pe_ix ix_seq p1 p2 hs, snd_op q1 q2 ?_⟩
  intro tp n G H x y dx dy P Q g ax ay h k
  unfold oIx at h
  split at h
  · rename_i ds i hd
    obtain ⟨d, e, h⟩ := h
    obtain ⟨p, xs, rfl, hs, hl⟩ := ax.seq hd
    obtain ⟨v, e1, e2⟩ := atI_at hl e
    rcases hs with hs | hs
    · exact .inl ⟨p, xs, i, v, rfl, ay.int_, g.sub.seq hs, e1, k _ _ G H g Step.refl e2 h⟩
    · exact .inr (.inl ⟨p, xs, i, v, rfl, ay.int_, seqT_mono g.sub hs, e1, k _ _ G H g Step.refl e2 h⟩)
  · exact h.elim
/-! ### a[lo:hi] -/
abbrev TrO := Rho → Nat → (Option Int → Nat → Prop) → Prop
def SndO (K : PySem.W.Frag) (t : TO) (T : TrO) : Prop := ∀ (tp : Addr) (n : Nat) (G H : Hp) (σ : L2.St) (ρ : Rho) (P : Option Int → Nat → Prop) (Q : Option Int → Hp → Prop), Good K tp n G H → EnvAt K tp G H σ ρ → T ρ n P →
  (∀ o n' G' H', Good K tp n' G' H' → Step tp G H G' H' → P o n' → Q o H') → t σ H Q
structure PVo (X : Cx) (e : Option Expr) (T : TrO) : Prop where
  ex : ∃ t, PO X e t ∧ SndO X.K t T
def TPn : TrO := fun _ n P => P none n
def TPs (Te : TrE) : TrO := fun ρ n P => Te ρ n fun x n1 => match x with
  | .int i => P (some i) n1
  | _ => False
theorem oN : PVo X none TPn := ⟨_, po_none, fun tp n G H σ ρ P Q g e h k => k _ _ _ _ g Step.refl h⟩
theorem oS (h : PV X e Te) : PVo X (some e) (TPs Te) := by
  obtain ⟨t, p1, q1⟩ := h.ex
  refine ⟨_, po_some p1, fun tp n G H σ ρ P Q g e h k => ?_⟩
  refine q1 tp n G H σ ρ _ _ g e h fun x n1 v G1 H1 g1 s1 a1 h1 => ?_
  split at h1
  · exact ⟨_, a1.int_, k _ _ G1 H1 g1 s1 h1⟩
  · exact h1.elim
def cutD {α : Type} (xs : List α) (lo hi : Option Int) : List α := (xs.drop (HT.sIx xs.length 0 lo)).take (HT.sIx xs.length xs.length hi - HT.sIx xs.length 0 lo)
def slD (x : D) (lo hi : Option Int) (P : D → Prop) : Prop := match x with
  | .tup ds => P (.tup (cutD ds lo hi))
  | .lst ds => P (.lst (cutD ds lo hi))
  | .key ks => P (.key (cutD ks lo hi))
  | _ => False
def TSl (Ta : TrE) (Tl Th : TrO) : TrE := fun ρ n P => Ta ρ n fun x n1 => Tl ρ n1 fun l n2 => Th ρ n2 fun h n3 => slD x l h fun d => P d n3
theorem cutD_whole {α : Type} {xs : List α} {lo hi : Option Int} (h : HT.sIx xs.length 0 lo = 0 ∧ HT.sIx xs.length xs.length hi = xs.length) : cutD xs lo hi = xs := by
  unfold cutD
  rw [h.1, h.2, List.drop_zero, Nat.sub_zero, List.take_length]
theorem AtL.cut {tp : Addr} {G : Hp} {xs : List V} {ds : List D} (h : AtL K tp G xs ds) (lo hi : Option Int) : AtL K tp G (cutV xs lo hi) (cutD ds lo hi) := by
  unfold cutV cutD
  rw [h.length]
  exact (h.drop _).take _
theorem cutV_map {α : Type} (f : α → V) (ks : List α) (lo hi : Option Int) : cutV (ks.map f) lo hi = (cutD ks lo hi).map f := by
  unfold cutV cutD
  rw [List.length_map, List.map_take, List.map_drop]
theorem vSl {lo hi : Option Expr} {Tl Th : TrO} {p2 : Pos} (ha : PV X a Ta) (hl : PVo X lo Tl) (hh : PVo X hi Th) : PV X (.Subscript a (.Slice lo hi none p2) pos) (TSl Ta Tl Th) := by
  obtain ⟨ta, p1, q1⟩ := ha.ex
  obtain ⟨tl, p2, q2⟩ := hl.ex
  obtain ⟨th, p3, q3⟩ := hh.ex
  refine ⟨_, pe_slice (SlR.or sl_list sl_tupA) p1 p2 p3, fun tp n G H σ ρ P Q g e h k => ?_⟩
  refine q1 tp n G H σ ρ _ _ g e h fun x n1 v G1 H1 g1 s1 a1 h1 => ?_
  refine q2 tp n1 G1 H1 σ ρ _ _ g1 (e.step s1) h1 fun lo n2 G2 H2 g2 s2 h2 => ?_
  have s12 := s1.trans g1 g2 s2
  refine q3 tp n2 G2 H2 σ ρ _ _ g2 (e.step s12) h2 fun hi n3 G3 H3 g3 s3 h3 => ?_
  have s13 := s12.trans g2 g3 s3
  have a3 := At.mono (s2.gg.trans s3.gg) _ _ a1
  unfold slD at h3
  split at h3
  · cases a3 with
    | tup b1 b2 =>
      refine .inr ⟨_, _, rfl, seqT_mono g3.sub b1, fun w => ?_, fun _ p hp => ?_⟩
      · rw [b2.length] at w
        rw [cutD_whole w] at h3
        exact k _ _ _ _ _ g3 s13 (.tup b1 b2) h3
      · obtain ⟨g4, s4⟩ := g3.new hp (.tup (cutV _ lo hi))
        exact k _ _ _ _ _ g4 (s13.trans g3 g4 s4) (.tup (SqT.of upd_same) (AtL.mono s4.gg _ _ (b2.cut lo hi))) h3
  · cases a3 with
    | lst b1 b2 =>
      refine .inl ⟨_, _, rfl, SqL.of (g3.sub _ _ b1), fun p hp => ?_⟩
      obtain ⟨g4, s4⟩ := g3.new hp (.lst (cutV _ lo hi))
      exact k _ _ _ _ _ g4 (s13.trans g3 g4 s4) (.lst upd_same (AtL.mono s4.gg _ _ (b2.cut lo hi))) h3
  · rename_i ks
    cases a3 with
    | key b1 =>
      refine .inr ⟨_, _, rfl, SqT.of (g3.sub _ _ b1), fun w => ?_, fun _ p hp => ?_⟩
      · rw [List.length_map] at w
        rw [cutD_whole w] at h3
        exact k _ _ _ _ _ g3 s13 (.key b1) h3
      · obtain ⟨g4, s4⟩ := g3.new hp (.tup (cutV (ks.map V.int) lo hi))
        exact k _ _ _ _ _ g4 (s13.trans g3 g4 s4) (.key (by rw [upd_same, cutV_map])) h3
  · exact h3.elim
/-! ### tests -/
def TAnd (T U : TrT) : TrT := fun ρ n P => T ρ n fun b n1 => if b = true then U ρ n1 P else P false n1
def TOr (T U : TrT) : TrT := fun ρ n P => T ρ n fun b n1 => if b = true then P true n1 else U ρ n1 P
def TNot (T : TrT) : TrT := fun ρ n P => T ρ n fun b n1 => P (!b) n1
theorem bW (h : PBW X e T) : PB X e T := by
  obtain ⟨t, p, q⟩ := h.ex
  exact ⟨t, p.pt, q⟩
theorem wAnd1 (h : PB X a T) : PBW X (.BoolOp .And [a] pos) T := by
  obtain ⟨t, p, q⟩ := h.ex
  exact ⟨t, pw_and1 p, q⟩
theorem wOr1 (h : PB X a T) : PBW X (.BoolOp .Or [a] pos) T := by
  obtain ⟨t, p, q⟩ := h.ex
  exact ⟨t, pw_or1 p, q⟩
theorem wAnd (h : PB X a T) (h2 : PBW X (.BoolOp .And (b :: rest) pos) U) : PBW X (.BoolOp .And (a :: b :: rest) pos) (TAnd T U) := by
  obtain ⟨t, p, q⟩ := h.ex
  obtain ⟨t2, p2, q2⟩ := h2.ex
  refine ⟨_, pw_and p p2, fun tp n G H σ ρ P Q g e h k => ?_⟩
  refine q tp n G H σ ρ _ _ g e h fun b n1 G1 H1 g1 s1 h1 => ?_
  cases b with
  | true => exact iteT (q2 tp n1 G1 H1 σ ρ _ _ g1 (e.step s1) h1 fun b n2 G2 H2 g2 s2 h2 => k _ _ _ _ g2 (s1.trans g1 g2 s2) h2)
  | false => exact iteF (k _ _ _ _ g1 s1 h1)
theorem wOr (h : PB X a T) (h2 : PBW X (.BoolOp .Or (b :: rest) pos) U) : PBW X (.BoolOp .Or (a :: b :: rest) pos) (TOr T U) := by
  obtain ⟨t, p, q⟩ := h.ex
  obtain ⟨t2, p2, q2⟩ := h2.ex
  refine ⟨_, pw_or p p2, fun tp n G H σ ρ P Q g e h k => ?_⟩
  refine q tp n G H σ ρ _ _ g e h fun b n1 G1 H1 g1 s1 h1 => ?_
  cases b with
  | true => exact iteT (k _ _ _ _ g1 s1 h1)
  | false => exact iteF (q2 tp n1 G1 H1 σ ρ _ _ g1 (e.step s1) h1 fun b n2 G2 H2 g2 s2 h2 => k _ _ _ _ g2 (s1.trans g1 g2 s2) h2)
theorem bNot (h : PB X a T) : PB X (.UnaryOp .Not a pos) (TNot T) := by
  obtain ⟨t, p, q⟩ := h.ex
  refine ⟨_, pt_not p, fun tp n G H σ ρ P Q g e h k => ?_⟩
  exact q tp n G H σ ρ _ _ g e h fun b n1 G1 H1 g1 s1 h1 => k _ _ _ _ g1 s1 h1
/-- as values -/
def TAndV (Ta Tb : TrE) : TrE := fun ρ n P => Ta ρ n fun x n1 => match x with
  | .bl c => if c = true then Tb ρ n1 P else P (.bl false) n1
  | _ => False
def TOrV (Ta Tb : TrE) : TrE := fun ρ n P => Ta ρ n fun x n1 => match x with
  | .bl c => if c = true then P (.bl true) n1 else Tb ρ n1 P
  | _ => False
def TNotV (Ta : TrE) : TrE := fun ρ n P => Ta ρ n fun x n1 => match x with
  | .bl c => P (.bl (!c)) n1
  | _ => False
theorem v1 {op} (h : PV X a Ta) : PV X (.BoolOp op [a] pos) Ta := by
  obtain ⟨t, p, q⟩ := h.ex
  exact ⟨t, pe_one p, q⟩
theorem vAnd (h : PV X a Ta) (h2 : PV X (.BoolOp .And (b :: rest) pos) Tb) : PV X (.BoolOp .And (a :: b :: rest) pos) (TAndV Ta Tb) := by
  obtain ⟨t, p, q⟩ := h.ex
  obtain ⟨t2, p2, q2⟩ := h2.ex
  refine ⟨_, pe_and p p2, fun tp n G H σ ρ P Q g e h k => ?_⟩
  refine q tp n G H σ ρ _ _ g e h fun x n1 v G1 H1 g1 s1 a1 h1 => ?_
  split at h1
  · rename_i c
    refine ⟨c, a1.bl_, ?_⟩
    cases c with
    | true => exact iteT (q2 tp n1 G1 H1 σ ρ _ _ g1 (e.step s1) h1 fun b n2 v G2 H2 g2 s2 a2 h2 => k _ _ _ _ _ g2 (s1.trans g1 g2 s2) a2 h2)
    | false => exact iteF (k _ _ _ _ _ g1 s1 (.bl false) h1)
  · exact h1.elim
theorem vOr (h : PV X a Ta) (h2 : PV X (.BoolOp .Or (b :: rest) pos) Tb) : PV X (.BoolOp .Or (a :: b :: rest) pos) (TOrV Ta Tb) := by
  obtain ⟨t, p, q⟩ := h.ex
  obtain ⟨t2, p2, q2⟩ := h2.ex
  refine ⟨_, pe_or p p2, fun tp n G H σ ρ P Q g e h k => ?_⟩
  refine q tp n G H σ ρ _ _ g e h fun x n1 v G1 H1 g1 s1 a1 h1 => ?_
  split at h1
  · rename_i c
    refine ⟨c, a1.bl_, ?_⟩
    cases c with
    | true => exact iteT (k _ _ _ _ _ g1 s1 (.bl true) h1)
    | false => exact iteF (q2 tp n1 G1 H1 σ ρ _ _ g1 (e.step s1) h1 fun b n2 v G2 H2 g2 s2 a2 h2 => k _ _ _ _ _ g2 (s1.trans g1 g2 s2) a2 h2)
  · exact h1.elim
theorem vNot (h : PV X a Ta) : PV X (.UnaryOp .Not a pos) (TNotV Ta) := by
  obtain ⟨t, p, q⟩ := h.ex
  refine ⟨_, pe_not p, fun tp n G H σ ρ P Q g e h k => ?_⟩
  refine q tp n G H σ ρ _ _ g e h fun x n1 v G1 H1 g1 s1 a1 h1 => ?_
  split at h1
  · exact ⟨_, a1.bl_, k _ _ _ _ _ g1 s1 (.bl _) h1⟩
  · exact h1.elim
def TIf (T : TrT) (Ta Tb : TrE) : TrE := fun ρ n P => T ρ n fun b n1 => if b = true then Ta ρ n1 P else Tb ρ n1 P
theorem vIf (h : PB X c T) (h1 : PV X a Ta) (h2 : PV X b Tb) : PV X (.IfExp c a b pos) (TIf T Ta Tb) := by
  obtain ⟨t, p, q⟩ := h.ex
  obtain ⟨ta, pa, qa⟩ := h1.ex
  obtain ⟨tb, pb, qb⟩ := h2.ex
  refine ⟨_, pe_ifExp p pa pb, fun tp n G H σ ρ P Q g e h k => ?_⟩
  refine q tp n G H σ ρ _ _ g e h fun b n1 G1 H1 g1 s1 h1 => ?_
  cases b with
  | true => exact iteT (qa tp n1 G1 H1 σ ρ _ _ g1 (e.step s1) h1 fun d n2 v G2 H2 g2 s2 a2 h2 => k _ _ _ _ _ g2 (s1.trans g1 g2 s2) a2 h2)
  | false => exact iteF (qb tp n1 G1 H1 σ ρ _ _ g1 (e.step s1) h1 fun d n2 v G2 H2 g2 s2 a2 h2 => k _ _ _ _ _ g2 (s1.trans g1 g2 s2) a2 h2)
/-- a test that is an if-expression or any value: through bVal -/
theorem bTrue (h : PV X e Te) (he : ∀ whole, isTrue e X.env whole = (do let v ← whole; standAt e.pos; holding [v] (truthy v)) := by intro _; rfl) : PB X e (TB Te) := bVal h he
end
/-! ### built-ins by values -/
abbrev OpN := List D → (D → Prop) → Prop
def SndC (K : PySem.W.Frag) (r : List V → Hp → VK → Prop) (R : OpN) : Prop := ∀ (tp : Addr) (n : Nat) (G H : Hp) (vs : List V) (ds : List D) (P : D → Prop) (Q : VK), Good K tp n G H → AtL K tp G vs ds → R ds P →
  (∀ d v G' H', Good K tp n G' H' → Step tp G H G' H' → At K tp G' v d → P d → Q v H') → r vs H Q
def TCB (R : OpN) (TR : TrA) : TrE := fun ρ n P => TR ρ n fun ds n1 => R ds fun d => P d n1
section
variable {X : Cx} {K : PySem.W.Frag} {e a b c : Expr} {es rest : List Expr} {Te Ta Tb Tc : TrE} {TR : TrA} {pos p : Pos} {x : Str} {id : String} {r : List V → Hp → VK → Prop} {R : OpN} {t : L2.TA}
theorem snd_cb (h : SndA K t TR) (hr : SndC K r R) : SndE K (tCB r t) (TCB R TR) := by
  intro tp n G H σ ρ P Q g e q k
  refine h tp n G H σ ρ _ _ g e q fun ds n1 vs G1 H1 g1 s1 a1 h1 => ?_
  exact hr tp n1 G1 H1 vs ds _ _ g1 a1 h1 fun d v G2 H2 g2 s2 a2 h2 => k _ _ _ _ _ g2 (s1.trans g1 g2 s2) a2 h2
theorem vCB (hc : CallR X (.builtin id) r) (hs : SndC X.K r R) (hm : X.mg x = none) (hv : bootBuiltins x = some (.builtin id)) (ha : PVs X (e :: es) TR) (hg : Gl X x := by rfl) (hn : x ≠ "__name__" := by decide) (hdb : (x == ("__debug__" : Str)) = false := by decide)
    (he : starEach (e :: es) X.env = (false, eval e X.env) :: starEach es X.env := by rfl) (hpl : (backTo pos (starEach es X.env)).any (·.1) = false := by rfl) : PV X (.Call (.Name x p) (e :: es) [] pos) (TCB R TR) := by
  obtain ⟨t, p1, q1⟩ := ha.ex
  exact ⟨_, pe_callB hc hg hm hv p1 hn hdb he hpl, snd_cb q1 hs⟩
theorem vCT {T : String} (hc : CallR X (.type T) r) (hs : SndC X.K r R) (hm : X.mg x = none) (hv : bootBuiltins x = some (.type T)) (ha : PVs X (e :: es) TR) (hg : Gl X x := by rfl) (hn : x ≠ "__name__" := by decide) (hdb : (x == ("__debug__" : Str)) = false := by decide)
    (he : starEach (e :: es) X.env = (false, eval e X.env) :: starEach es X.env := by rfl) (hpl : (backTo pos (starEach es X.env)).any (·.1) = false := by rfl) : PV X (.Call (.Name x p) (e :: es) [] pos) (TCB R TR) := by
  obtain ⟨t, p1, q1⟩ := ha.ex
  exact ⟨_, pe_callTy hc hg hm hv p1 hn hdb he hpl, snd_cb q1 hs⟩
/-! len, abs, max, min, all -/
def cLen : OpN := fun ds P => match ds with
  | [d] => ∃ es, seqOf d = some es ∧ P (.int es.length)
  | _ => False
theorem atl1 {tp : Addr} {G : Hp} {vs : List V} {d : D} (h : AtL K tp G vs [d]) : ∃ v, vs = [v] ∧ At K tp G v d := by
  cases h with
  | cons h1 h2 => cases h2; exact ⟨_, rfl, h1⟩
theorem atl2 {tp : Addr} {G : Hp} {vs : List V} {d f : D} (h : AtL K tp G vs [d, f]) : ∃ v u, vs = [v, u] ∧ At K tp G v d ∧ At K tp G u f := by
  cases h with
  | cons h1 h2 =>
    obtain ⟨u, rfl, h3⟩ := atl1 h2
    exact ⟨_, u, rfl, h1, h3⟩
theorem vLen (hm : X.mg "len" = none) (ha : PVs X [e] TR) (hg : Gl X "len" := by rfl)
    (he : starEach [e] X.env = (false, eval e X.env) :: starEach [] X.env := by rfl) : PV X (.Call (.Name "len" p) [e] [] pos) (TCB cLen TR) := by
  refine vCB call_len_seq ?_ hm PySem.boot_len ha hg (by decide) (by decide) he (by rfl)
  intro tp n G H vs ds P Q g al h k
  unfold cLen at h
  split at h
  · obtain ⟨es, e, h⟩ := h
    obtain ⟨v, rfl, ha⟩ := atl1 al
    obtain ⟨a, xs, rfl, hs, hl⟩ := ha.seq e
    refine ⟨a, xs, rfl, hs.imp (fun q => g.sub.seq q) (fun q => seqT_mono g.sub q), ?_⟩
    rw [hl.length]
    exact k _ _ G H g Step.refl (.int _) h
  · exact h.elim
def cAbs : OpN := fun ds P => match ds with
  | [.int i] => P (.int (if i < 0 then -i else i))
  | _ => False
theorem vAbs (hm : X.mg "abs" = none) (ha : PVs X [e] TR) (hg : Gl X "abs" := by rfl)
    (he : starEach [e] X.env = (false, eval e X.env) :: starEach [] X.env := by rfl) : PV X (.Call (.Name "abs" p) [e] [] pos) (TCB cAbs TR) := by
  refine vCB call_abs ?_ hm (by decide +kernel) ha hg (by decide) (by decide) he (by rfl)
  intro tp n G H vs ds P Q g al h k
  unfold cAbs at h
  split at h
  · obtain ⟨v, rfl, ha⟩ := atl1 al
    rw [ha.int_]
    exact ⟨_, rfl, k _ _ G H g Step.refl (.int _) h⟩
  · exact h.elim
def cMax2 : OpN := fun ds P => match ds with
  | [.int i, .int j] => P (.int (if j > i then j else i))
  | _ => False
def cMin2 : OpN := fun ds P => match ds with
  | [.int i, .int j] => P (.int (if j < i then j else i))
  | _ => False
theorem vMax2 (hm : X.mg "max" = none) (ha : PVs X [a, b] TR) (hc : X.calm = true := by rfl) (hg : Gl X "max" := by rfl)
    (he : starEach [a, b] X.env = (false, eval a X.env) :: starEach [b] X.env := by rfl) (hpl : (backTo pos (starEach [b] X.env)).any (·.1) = false := by rfl) : PV X (.Call (.Name "max" p) [a, b] [] pos) (TCB cMax2 TR) := by
  refine vCB (call_max2 hc) ?_ hm (by decide +kernel) ha hg (by decide) (by decide) he hpl
  intro tp n G H vs ds P Q g al h k
  unfold cMax2 at h
  split at h
  · obtain ⟨v, u, rfl, ha, hb⟩ := atl2 al
    rw [ha.int_, hb.int_]
    exact ⟨_, _, rfl, k _ _ G H g Step.refl (.int _) h⟩
  · exact h.elim
theorem vMin2 (hm : X.mg "min" = none) (ha : PVs X [a, b] TR) (hc : X.calm = true := by rfl) (hg : Gl X "min" := by rfl)
    (he : starEach [a, b] X.env = (false, eval a X.env) :: starEach [b] X.env := by rfl) (hpl : (backTo pos (starEach [b] X.env)).any (·.1) = false := by rfl) : PV X (.Call (.Name "min" p) [a, b] [] pos) (TCB cMin2 TR) := by
  refine vCB (call_min2 hc) ?_ hm (by decide +kernel) ha hg (by decide) (by decide) he hpl
  intro tp n G H vs ds P Q g al h k
  unfold cMin2 at h
  split at h
  · obtain ⟨v, u, rfl, ha, hb⟩ := atl2 al
    rw [ha.int_, hb.int_]
    exact ⟨_, _, rfl, k _ _ G H g Step.refl (.int _) h⟩
  · exact h.elim
/-- the greatest of a list of whole numbers -/
def cMaxL : OpN := fun ds P => match ds with
  | [.lst es] => ∃ ns : List Int, es = ns.map D.int ∧ ns ≠ [] ∧ ∀ m, m ∈ ns → (∀ y ∈ ns, y ≤ m) → P (.int m)
  | _ => False
def cMinL : OpN := fun ds P => match ds with
  | [.lst es] => ∃ ns : List Int, es = ns.map D.int ∧ ns ≠ [] ∧ ∀ m, m ∈ ns → (∀ y ∈ ns, m ≤ y) → P (.int m)
  | _ => False
theorem vMaxL (hm : X.mg "max" = none) (ha : PVs X [e] TR) (hc : X.calm = true := by rfl) (hg : Gl X "max" := by rfl)
    (he : starEach [e] X.env = (false, eval e X.env) :: starEach [] X.env := by rfl) : PV X (.Call (.Name "max" p) [e] [] pos) (TCB cMaxL TR) := by
  refine vCB (cr_max hc) ?_ hm (by decide +kernel) ha hg (by decide) (by decide) he (by rfl)
  intro tp n G H vs ds P Q g al h k
  unfold cMaxL at h
  split at h
  · obtain ⟨ns, rfl, hne, h⟩ := h
    obtain ⟨v, rfl, ha⟩ := atl1 al
    cases ha with
    | lst h1 h2 =>
      obtain rfl := h2.of_ints
      exact ⟨_, ns, rfl, SqL.of (g.sub _ _ h1), List.length_pos_iff.mpr hne, fun m hm hy => k _ _ G H g Step.refl (.int m) (h m hm hy)⟩
  · exact h.elim
theorem vMinL (hm : X.mg "min" = none) (ha : PVs X [e] TR) (hc : X.calm = true := by rfl) (hg : Gl X "min" := by rfl)
    (he : starEach [e] X.env = (false, eval e X.env) :: starEach [] X.env := by rfl) : PV X (.Call (.Name "min" p) [e] [] pos) (TCB cMinL TR) := by
  refine vCB (cr_min hc) ?_ hm (by decide +kernel) ha hg (by decide) (by decide) he (by rfl)
  intro tp n G H vs ds P Q g al h k
  unfold cMinL at h
  split at h
  · obtain ⟨ns, rfl, hne, h⟩ := h
    obtain ⟨v, rfl, ha⟩ := atl1 al
    cases ha with
    | lst h1 h2 =>
      obtain rfl := h2.of_ints
      exact ⟨_, ns, rfl, SqL.of (g.sub _ _ h1), List.length_pos_iff.mpr hne, fun m hm hy => k _ _ G H g Step.refl (.int m) (h m hm hy)⟩
  · exact h.elim
def cAll : OpN := fun ds P => match ds with
  | [.lst es] => ∃ bs : List Bool, es = bs.map D.bl ∧ P (.bl (bs.all fun b => b))
  | _ => False
theorem vAll (hm : X.mg "all" = none) (ha : PVs X [e] TR) (hc : X.calm = true := by rfl) (hg : Gl X "all" := by rfl)
    (he : starEach [e] X.env = (false, eval e X.env) :: starEach [] X.env := by rfl) : PV X (.Call (.Name "all" p) [e] [] pos) (TCB cAll TR) := by
  refine vCB (cr_all hc) ?_ hm (by decide +kernel) ha hg (by decide) (by decide) he (by rfl)
  intro tp n G H vs ds P Q g al h k
  unfold cAll at h
  split at h
  · obtain ⟨bs, rfl, h⟩ := h
    obtain ⟨v, rfl, ha⟩ := atl1 al
    cases ha with
    | lst h1 h2 =>
      obtain rfl := h2.of_bls
      exact ⟨_, bs, rfl, SqL.of (g.sub _ _ h1), k _ _ G H g Step.refl (.bl _) h⟩
  · exact h.elim
/-! list(..), tuple(..) -/
def cList : OpN := fun ds P => match ds with
  | [d] => ∃ es, seqOf d = some es ∧ P (.lst es)
  | _ => False
theorem vList (hm : X.mg "list" = none) (ha : PVs X [e] TR) (hg : Gl X "list" := by rfl)
    (he : starEach [e] X.env = (false, eval e X.env) :: starEach [] X.env := by rfl) : PV X (.Call (.Name "list" p) [e] [] pos) (TCB cList TR) := by
  refine vCT call_list_of ?_ hm (by decide +kernel) ha hg (by decide) (by decide) he (by rfl)
  intro tp n G H vs ds P Q g al h k
  unfold cList at h
  split at h
  · obtain ⟨es, e, h⟩ := h
    obtain ⟨v, rfl, ha⟩ := atl1 al
    obtain ⟨a, xs, rfl, hs, hl⟩ := ha.seq e
    refine ⟨a, xs, rfl, hs.imp (fun q => g.sub.seq q) (fun q => seqT_mono g.sub q), fun l hl' => ?_⟩
    obtain ⟨g', s'⟩ := g.new hl' (.lst xs)
    exact k _ _ _ _ g' s' (.lst upd_same (AtL.mono s'.gg _ _ hl)) h
  · exact h.elim
/-- tuple of a list -/
def cTuple : OpN := fun ds P => match ds with
  | [.lst es] => P (.tup es)
  | _ => False
theorem vTuple (hm : X.mg "tuple" = none) (ha : PVs X [e] TR) (hg : Gl X "tuple" := by rfl)
    (he : starEach [e] X.env = (false, eval e X.env) :: starEach [] X.env := by rfl) : PV X (.Call (.Name "tuple" p) [e] [] pos) (TCB cTuple TR) := by
  refine vCT call_tuple_of ?_ hm (by decide +kernel) ha hg (by decide) (by decide) he (by rfl)
  intro tp n G H vs ds P Q g al h k
  unfold cTuple at h
  split at h
  · obtain ⟨v, rfl, ha⟩ := atl1 al
    cases ha with
    | lst h1 h2 =>
      refine ⟨_, _, rfl, .inl ⟨SqL.of (g.sub _ _ h1), fun l hl' => ?_⟩⟩
      obtain ⟨g', s'⟩ := g.new hl' (.tup _)
      exact k _ _ _ _ g' s' (.tup (SqT.of upd_same) (AtL.mono s'.gg _ _ h2)) h
  · exact h.elim
def cInt : OpN := fun ds P => match ds with
  | [.bl b] => P (.int (if b then 1 else 0))
  | _ => False
theorem vInt (hm : X.mg "int" = none) (ha : PVs X [e] TR) (hg : Gl X "int" := by rfl)
    (he : starEach [e] X.env = (false, eval e X.env) :: starEach [] X.env := by rfl) : PV X (.Call (.Name "int" p) [e] [] pos) (TCB cInt TR) := by
  refine vCT call_int1 ?_ hm (by decide +kernel) ha hg (by decide) (by decide) he (by rfl)
  intro tp n G H vs ds P Q g al h k
  unfold cInt at h
  split at h
  · obtain ⟨v, rfl, ha⟩ := atl1 al
    rw [ha.bl_]
    exact .inr ⟨_, rfl, k _ _ G H g Step.refl (.int _) h⟩
  · exact h.elim
/-! list(range(..)), tuple(range(..)) -/
def rgI (a b : Int) : List Int := (List.range (b - a).toNat).map fun i => a + (i : Nat)
theorem rgV_eq (a b : Int) : rgV a b = (rgI a b).map V.int := by
  unfold rgV rgI
  rw [List.map_map]
  rfl
def TLstRg1 (Ta : TrE) : TrE := fun ρ n P => Ta ρ n fun x n1 => match x with
  | .int b => RgOk 0 b ∧ P (.lst ((rgI 0 b).map D.int)) n1
  | _ => False
theorem vListRg (hm : X.mg "list" = none) (hm2 : X.mg "range" = none) (ha : PV X a Ta) (hc : X.calm = true := by rfl) (hg : Gl X "list" := by rfl) (hg2 : Gl X "range" := by rfl) {p2 pos2 : Pos}
    (na : starEach [.Call (.Name "range" p2) [a] [] pos2] X.env = (false, eval (.Call (.Name "range" p2) [a] [] pos2) X.env) :: starEach [] X.env := by rfl) (na2 : starEach [a] X.env = (false, eval a X.env) :: starEach [] X.env := by rfl) :
    PV X (.Call (.Name "list" p) [.Call (.Name "range" p2) [a] [] pos2] [] pos) (TLstRg1 Ta) := by
  obtain ⟨ta, p1, q1⟩ := ha.ex
  refine ⟨_, pe_listRg hc hg hm (prg_1 hg2 hm2 p1 na2) na, fun tp n G H σ ρ P Q g e h k => ?_⟩
  refine q1 tp n G H σ ρ _ _ g e h fun x n1 v G1 H1 g1 s1 a1 h1 => ?_
  split at h1
  · rename_i b
    refine ⟨b, a1.int_, h1.1, fun q hq => ?_⟩
    rw [rgV_eq]
    obtain ⟨g', s'⟩ := g1.new hq (.lst ((rgI 0 b).map V.int))
    exact k _ _ _ _ _ g' (s1.trans g1 g' s') (.lst upd_same (AtL.ints _)) h1.2
  · exact h1.elim
def TTupRg2 (Ta Tb : TrE) : TrE := fun ρ n P => Ta ρ n fun x n1 => Tb ρ n1 fun y n2 => match x, y with
  | .int a, .int b => RgOk a b ∧ P (.key (rgI a b)) n2
  | _, _ => False
theorem vTupRg (hm : X.mg "tuple" = none) (hm2 : X.mg "range" = none) (ha : PV X a Ta) (hb : PV X b Tb) (hc : X.calm = true := by rfl) (hg : Gl X "tuple" := by rfl) (hg2 : Gl X "range" := by rfl) {p2 pos2 : Pos}
    (na : starEach [.Call (.Name "range" p2) [a, b] [] pos2] X.env = (false, eval (.Call (.Name "range" p2) [a, b] [] pos2) X.env) :: starEach [] X.env := by rfl)
    (na2 : starEach [a, b] X.env = (false, eval a X.env) :: starEach [b] X.env := by rfl) (na3 : starEach [b] X.env = (false, eval b X.env) :: starEach [] X.env := by rfl) (na4 : (backTo pos2 (starEach [b] X.env)).any (·.1) = false := by rfl) :
    PV X (.Call (.Name "tuple" p) [.Call (.Name "range" p2) [a, b] [] pos2] [] pos) (TTupRg2 Ta Tb) := by
  obtain ⟨ta, p1, q1⟩ := ha.ex
  obtain ⟨tb, p2, q2⟩ := hb.ex
  refine ⟨_, pe_tupRg hc hg hm (prg_2 hg2 hm2 p1 p2 na2 na3 na4) na, fun tp n G H σ ρ P Q g e h k => ?_⟩
  refine q1 tp n G H σ ρ _ _ g e h fun x n1 v G1 H1 g1 s1 a1 h1 => ?_
  refine q2 tp n1 G1 H1 σ ρ _ _ g1 (e.step s1) h1 fun y n2 u G2 H2 g2 s2 a2 h2 => ?_
  split at h2
  · rename_i a b
    refine ⟨a, b, a1.int_, a2.int_, h2.1, fun q hq => ?_⟩
    rw [rgV_eq]
    obtain ⟨g', s'⟩ := g2.new hq (.tup ((rgI a b).map V.int))
    exact k _ _ _ _ _ g' ((s1.trans g1 g2 s2).trans g2 g' s') (.key upd_same) h2.2
  · exact h2.elim
/-! isinstance(e, T) -/
def tyD : D → Option String
  | .non => some "NoneType"
  | .bl _ => some "bool"
  | .int _ => some "int"
  | .str _ => some "str"
  | .tup _ => some "tuple"
  | .key _ => some "tuple"
  | .lst _ => some "list"
  | _ => none
def isD (T : String) (d : D) : Option Bool := (tyD d).map fun t => decide (t = T) || (decide (t = "bool") && decide (T = "int"))
def TIsi (T : String) (Te : TrE) : TrE := fun ρ n P => Te ρ n fun x n1 => match isD T x with
  | some b => P (.bl b) n1
  | none => False
theorem tyX_of {tp : Addr} {G H : Hp} (e : Same G H) {v : V} {d : D} {t : String} (h : At K tp G v d) (q : tyD d = some t) : TyX K H v (.type t) := by
  cases h with
  | non => cases q; exact .base .non
  | bl b => cases q; exact .base (.bl b)
  | int i => cases q; exact .base (.int i)
  | str x => cases q; exact .base (.str x)
  | tup h1 h2 =>
    cases q
    rcases seqT_mono e h1 with (h | ⟨o, h⟩) | ⟨o, its, n, h1, h2, _⟩
    · exact .base (.tup h)
    · exact .fTuple h
    · exact .kTuple h1 h2
  | lst h1 h2 => cases q; exact .base (.lst (e _ _ h1))
  | key h1 => cases q; exact .base (.tup (e _ _ h1))
  | tape => cases q
  | obj h1 h2 => cases q
  | tab h1 h2 => cases q
  | raw v => cases q
theorem kit_all (t T : String) (ht : t ∈ ["NoneType", "bool", "int", "str", "tuple", "list"]) (hT : T ∈ ["tuple", "int", "bool", "str"]) : kitB t T = some (decide (t = T) || (decide (t = "bool") && decide (T = "int"))) := by
  simp only [List.mem_cons, List.not_mem_nil, or_false] at ht hT
  rcases ht with rfl | rfl | rfl | rfl | rfl | rfl <;> rcases hT with rfl | rfl | rfl | rfl <;> decide +kernel
theorem tyD_mem {d : D} {t : String} (h : tyD d = some t) : t ∈ ["NoneType", "bool", "int", "str", "tuple", "list"] := by
  cases d <;> simp [tyD] at h <;> subst h <;> decide
theorem vIsi {T : String} {x : Str} {p2 : Pos} (hT : T ∈ ["tuple", "int", "bool", "str"]) (hm : X.mg "isinstance" = none) (hm2 : X.mg x = none) (ha : PV X e Te) (hv : bootBuiltins x = some (.type T) := by decide +kernel) (hg : Gl X "isinstance" := by rfl) (hg2 : Gl X x := by rfl)
    (hn : x ≠ "__name__" := by decide) (hdb : (x == ("__debug__" : Str)) = false := by decide)
    (he : starEach [e, .Name x p2] X.env = (false, eval e X.env) :: starEach [.Name x p2] X.env := by rfl) (he2 : starEach [.Name x p2] X.env = (false, eval (.Name x p2) X.env) :: starEach [] X.env := by rfl)
    (hpl : (backTo pos (starEach [.Name x p2] X.env)).any (·.1) = false := by rfl) :
    PV X (.Call (.Name "isinstance" p) [e, .Name x p2] [] pos) (TIsi T Te) := by
  obtain ⟨te, p1, q1⟩ := ha.ex
  refine ⟨_, pe_callB call_isi hg hm (by decide +kernel) (pa_cons p1 (pa_cons (pe_bltn (v := .ty T) hg2 hm2 hv rfl hn hdb) pa_nil he2) he) (by decide) (by decide) he hpl, fun tp n G H σ ρ P Q g e h k => ?_⟩
  refine q1 tp n G H σ ρ _ _ g e h fun x n1 v G1 H1 g1 s1 a1 h1 => ?_
  cases hq : tyD x with
  | none => simp only [isD, hq, Option.map_none] at h1
  | some t =>
    simp only [isD, hq, Option.map_some] at h1
    exact ⟨v, .ty T, .type t, .type T, _, rfl, .ty T, tyX_of g1.sub a1 hq, kit_ty (kit_all t T (tyD_mem hq) hT), k _ _ _ _ _ g1 s1 (.bl _) h1⟩
end
end Pu

/-! PuD: calls of defs, statements, targets, what is walked, loops, comprehensions. -/
namespace Pu
open PySem PySem.Spec L2
/-! ### the canonical reading of a transformer -/
def canE (K : PySem.W.Frag) (T : TrE) : TE := fun σ H Q => ∃ tp n G ρ P, Good K tp n G H ∧ EnvAt K tp G H σ ρ ∧ T ρ n P ∧ ∀ d n' v G' H', Good K tp n' G' H' → Step tp G H G' H' → At K tp G' v d → P d n' → Q v H'
def canT (K : PySem.W.Frag) (T : TrT) : TT := fun σ H Q => ∃ tp n G ρ P, Good K tp n G H ∧ EnvAt K tp G H σ ρ ∧ T ρ n P ∧ ∀ b n' G' H', Good K tp n' G' H' → Step tp G H G' H' → P b n' → Q b H'
theorem PV.can {X : Cx} {e : Expr} {T : TrE} (h : PV X e T) : PE X e (canE X.K T) := by
  obtain ⟨t, p, q⟩ := h.ex
  refine ⟨fun pins s σ H Q I hh => ?_⟩
  obtain ⟨tp, n, G, ρ, P, g, e, h, k⟩ := hh
  exact p.run pins s σ H Q I (q tp n G H σ ρ P Q g e h k)
theorem PB.can {X : Cx} {e : Expr} {T : TrT} (h : PB X e T) : PT X e (canT X.K T) := by
  obtain ⟨t, p, q⟩ := h.ex
  refine ⟨fun pins s σ H Q I hh => ?_⟩
  obtain ⟨tp, n, G, ρ, P, g, e, h, k⟩ := hh
  exact p.run pins s σ H Q I (q tp n G H σ ρ P Q g e h k)
theorem sndE_can {K : PySem.W.Frag} {T : TrE} : SndE K (canE K T) T := fun tp n G H σ ρ P Q g e h k => ⟨tp, n, G, ρ, P, g, e, h, k⟩
theorem sndT_can {K : PySem.W.Frag} {T : TrT} : SndT K (canT K T) T := fun tp n G H σ ρ P Q g e h k => ⟨tp, n, G, ρ, P, g, e, h, k⟩
/-! ### a def's contract over data -/
abbrev PSp := List D → Nat → (D → Nat → Prop) → Prop
def spOf (K : PySem.W.Frag) (sp : PSp) : Sp := fun vs H Q _ => ∃ tp n G ds P, Good K tp n G H ∧ AtL K tp G vs ds ∧ sp ds n P ∧ ∀ d n' v G' H', Good K tp n' G' H' → Step tp G H G' H' → At K tp G' v d → P d n' → Q v H'
structure Has (P : Program) (w : World) (K : PySem.W.Frag) (mg : Str → Option Value) (base : Heap) (x : Str) (ps : List Str) (k : Nat) (sp : PSp) : Prop where
  ex : ∃ f fd, FnOk P w K mg base CX0 k f fd ps (spOf K sp) ∧ mg x = some (.ref f) ∧ PySem.W.keepIn K (.ref f) = true ∧ Binds K fd ps []
def TCall (sp : PSp) (TR : TrA) : TrE := fun ρ n P => TR ρ n fun ds n1 => sp ds n1 P
section
variable {X : Cx} {K : PySem.W.Frag} {e a b c : Expr} {es rest : List Expr} {Te Ta Tb Tc : TrE} {T U : TrT} {TR : TrA} {pos p : Pos} {x : Str} {ps : List Str} {k : Nat} {sp : PSp}
theorem snd_call {t : L2.TA} (h : SndA K t TR) : SndE K (tCall (spOf K sp) [] E0 t) (TCall sp TR) := by
  intro tp n G H σ ρ P Q g e q k
  refine h tp n G H σ ρ _ _ g e q fun ds n1 vs G1 H1 g1 s1 a1 h1 => ?_
  rw [List.append_nil]
  exact ⟨tp, n1, G1, ds, P, g1, a1, h1, fun d n' v G' H' g' s' a' h' => k d n' v G' H' g' (s1.trans g1 g' s') a' h'⟩
theorem vCall {j : Nat} (F : Has X.prog X.w X.K X.mg X.base x ps k sp) (hr : Room j X.A) (ha : PVs X (e :: es) TR) (hj : k ≤ j := by decide) (hg : Gl X x := by rfl) (hdb : (x == ("__debug__" : Str)) = false := by decide)
    (he : starEach (e :: es) X.env = (false, eval e X.env) :: starEach es X.env := by rfl) (hpl : (backTo pos (starEach es X.env)).any (·.1) = false := by rfl) : PV X (.Call (.Name x p) (e :: es) [] pos) (TCall sp TR) := by
  obtain ⟨t, p1, q1⟩ := ha.ex
  obtain ⟨f, fd, F1, hm, hk, hb⟩ := F.ex
  exact ⟨_, pe_call F1 (hr.mono hj) hg hm hk hb .nil pass0 p1 hdb he hpl, snd_call q1⟩
end
/-! ### statements -/
structure PEnds where
  nx : Rho → Nat → Prop
  rt : D → Nat → Prop
  bk : Rho → Nat → Prop := fun _ _ => False
  ct : Rho → Nat → Prop := fun _ _ => False
abbrev TrS := PEnds → Rho → Nat → Prop
structure Now (K : PySem.W.Frag) (tp : Addr) (n : Nat) (G0 H0 G H : Hp) (σ : L2.St) (ρ : Rho) : Prop where
  good : Good K tp n G H
  step : Step tp G0 H0 G H
  env : EnvAt K tp G H σ ρ
  own : Own H0 σ ρ
def Goes (K : PySem.W.Frag) (tp : Addr) (G0 H0 G : Hp) (N : Rho → Nat → Prop) (D : L2.St → Hp → Prop) : Prop := ∀ σ ρ n G' H', Same G G' → Now K tp n G0 H0 G' H' σ ρ → N ρ n → D σ H'
structure Agr (K : PySem.W.Frag) (tp : Addr) (G0 H0 G : Hp) (E : PEnds) (D' : Ends) : Prop where
  nx : Goes K tp G0 H0 G E.nx D'.nx
  rt : ∀ d n' v G' H', Good K tp n' G' H' → Step tp G0 H0 G' H' → At K tp G' v d → E.rt d n' → D'.rt v H'
  bk : Goes K tp G0 H0 G E.bk D'.bk
  ct : Goes K tp G0 H0 G E.ct D'.ct
def SndS (K : PySem.W.Frag) (t : TS) (S : TrS) : Prop := ∀ (tp : Addr) (n : Nat) (G0 H0 G H : Hp) (σ : L2.St) (ρ : Rho) (E : PEnds) (D' : Ends), Now K tp n G0 H0 G H σ ρ → S E ρ n → Agr K tp G0 H0 G E D' → t D' σ H
structure PSt (X : Cx) (st : Stmt) (S : TrS) : Prop where
  ex : ∃ t, PS X st t ∧ SndS X.K t S
structure PSts (X : Cx) (sts : List Stmt) (S : TrS) : Prop where
  ex : ∃ t, PSs X sts t ∧ SndS X.K t S
section
variable {K : PySem.W.Frag} {tp : Addr} {n n' : Nat} {G0 H0 G G1 H H1 : Hp} {σ : L2.St} {ρ : Rho} {N : Rho → Nat → Prop} {D1 : L2.St → Hp → Prop} {E : PEnds} {D' : Ends}
theorem Goes.later (h : Goes K tp G0 H0 G N D1) (s : Same G G1) : Goes K tp G0 H0 G1 N D1 := fun σ ρ n G' H' q w z => h σ ρ n G' H' (s.trans q) w z
theorem Agr.later (h : Agr K tp G0 H0 G E D') (s : Same G G1) : Agr K tp G0 H0 G1 E D' := ⟨h.nx.later s, h.rt, h.bk.later s, h.ct.later s⟩
theorem Now.go (w : Now K tp n G0 H0 G H σ ρ) (g : Good K tp n' G1 H1) (s : Step tp G H G1 H1) : Now K tp n' G0 H0 G1 H1 σ ρ :=
  ⟨g, w.step.trans w.good g s, w.env.step s, w.own⟩
theorem Now.set (w : Now K tp n G0 H0 G H σ ρ) (i : Nat) {v : V} {d : D} (h : At K tp G v d) : Now K tp n G0 H0 G H (σ.set i (some v)) (ρ.set i (.val d)) := ⟨w.good, w.step, w.env.set i h, w.own.set i _ _⟩
theorem Now.free0 (w : Now K tp n G0 H0 G H σ ρ) {p : Addr} (hp : H p = none) : H0 p = none := by
  cases q : H0 p with
  | none => rfl
  | some o =>
    have := w.step.hh p o (w.good.ne_new hp) q
    rw [hp] at this; cases this
/-- a new object of the frame's own at slot i -/
theorem Now.newM (w : Now K tp n G0 H0 G H σ ρ) (i : Nat) {p : Addr} (hp : H p = none) {o : HO} {m : MO} (h : MoAt K tp G (upd H p o) p m) : Now K tp n G0 H0 G (upd H p o) (σ.set i (some (.ref p))) (ρ.set i (.mu m)) := by
  obtain ⟨g, s⟩ := w.good.newM hp o
  have w1 := w.go g s
  refine ⟨g, w1.step, w1.env.setM i (w.good.none hp) (w.good.ne_new hp) h fun j h1 m' h2 => ?_, w1.own.setM i (w.free0 hp) m⟩
  obtain ⟨q, e1, _, _, e4⟩ := w.env.mu h2
  rw [h1] at e1
  cases e1
  obtain ⟨u, hu⟩ := e4.some
  rw [hp] at hu; cases hu
/-- the frame's own object at slot i has changed -/
theorem Now.putM (w : Now K tp n G0 H0 G H σ ρ) {i : Nat} {p : Addr} {m m' : MO} {u : HO} (hr : ρ[i]? = some (.mu m)) (hs : σ[i]? = some (some (.ref p))) (h : MoAt K tp G (upd H p u) p m') : Now K tp n G0 H0 G (upd H p u) σ (ρ.set i (.mu m')) := by
  obtain ⟨q, e1, e2, e3, e4⟩ := w.env.mu hr
  rw [hs] at e1; cases e1
  have h0 := w.own i m p hr hs
  refine ⟨w.good.put e2 e3 u, ⟨w.step.gg, fun b o hb z => ?_, w.step.hid⟩, w.env.putM hr hs e2 e3 h, w.own.putM hr m'⟩
  rw [upd_ne (ne_of_none z h0)]
  exact w.step.hh b o hb z
def frzR : Rho → Nat → Rho
  | [], _ => []
  | s :: r, 0 => (match s with
    | .mu m => .val m.d
    | s => s) :: r
  | s :: r, i + 1 => s :: frzR r i
theorem frzR_mu : ∀ {ρ : Rho} {i : Nat} {m : MO}, ρ[i]? = some (.mu m) → frzR ρ i = ρ.set i (.val m.d)
  | [], _, _, h => by simp at h
  | s :: r, 0, _, h => by
    simp at h; subst h; rfl
  | s :: r, i + 1, _, h => by
    rw [List.getElem?_cons_succ] at h
    simp [frzR, frzR_mu h]
theorem frzR_no : ∀ {ρ : Rho} {i : Nat}, (∀ m, ρ[i]? ≠ some (.mu m)) → frzR ρ i = ρ
  | [], _, _ => rfl
  | s :: r, 0, h => by
    cases s with
    | mu m => exact absurd rfl (h m)
    | _ => rfl
  | s :: r, i + 1, h => by
    simp only [frzR]
    rw [frzR_no fun m e => h m (by rw [List.getElem?_cons_succ]; exact e)]
theorem Now.frz (w : Now K tp n G0 H0 G H σ ρ) (i : Nat) : ∃ G', Same G G' ∧ Now K tp n G0 H0 G' H σ (frzR ρ i) := by
  by_cases h : ∃ m, ρ[i]? = some (.mu m)
  · obtain ⟨m, hm⟩ := h
    obtain ⟨p, e1, e2, e3, e4⟩ := w.env.mu hm
    obtain ⟨o, ho, ha⟩ := e4.freeze e2
    have h0 := w.own i m p hm e1
    have sg : Same G (upd G p o) := fun b u z => by rw [upd_ne (ne_of_none z e2)]; exact z
    rw [frzR_mu hm]
    refine ⟨upd G p o, sg, w.good.freeze ho e3 e2, ⟨w.step.gg.trans sg, w.step.hh, fun b u z y => ?_⟩, ?_, ?_⟩
    · rw [upd_ne (ne_of_none z h0)]; exact w.step.hid b u z y
    · refine ⟨by simp [w.env.len], fun j v s h1 h2 => ?_, fun a b q m1 m2 h1 h2 h3 h4 => ?_⟩
      · by_cases hij : i = j
        · subst hij
          rw [List.getElem?_set] at h2
          simp at h2
          obtain ⟨_, rfl⟩ := h2
          rw [e1] at h1; cases h1
          exact ⟨_, rfl, ha⟩
        · rw [List.getElem?_set_ne hij] at h2
          have q := w.env.at_ j v s h1 h2
          cases s with
          | un => trivial
          | val d => obtain ⟨u, r1, r2⟩ := q; exact ⟨u, r1, At.mono sg _ _ r2⟩
          | mu mm =>
            obtain ⟨p', r1, r2, r3, r4⟩ := q
            have np : p' ≠ p := by
              intro ep; subst ep; subst r1
              exact hij (w.env.ne i j p' m mm hm h2 e1 h1)
            refine ⟨p', r1, by rw [upd_ne np]; exact r2, r3, ?_⟩
            cases mm with
            | lst ds => obtain ⟨xs, a1, a2⟩ := r4; exact ⟨xs, a1, AtL.mono sg _ _ a2⟩
            | tab ks ds => obtain ⟨xs, a1, a2⟩ := r4; exact ⟨xs, a1, AtL.mono sg _ _ a2⟩
      · have aux : ∀ (a : Nat) (mm : MO), (ρ.set i (.val m.d))[a]? = some (.mu mm) → ρ[a]? = some (.mu mm) := by
          intro a mm h
          by_cases hij : i = a
          · subst hij; rw [List.getElem?_set] at h; simp at h
          · rw [List.getElem?_set_ne hij] at h; exact h
        exact w.env.ne a b q m1 m2 (aux a m1 h1) (aux b m2 h2) h3 h4
    · intro j mm q h1 h2
      by_cases hij : i = j
      · subst hij; rw [List.getElem?_set] at h1; simp at h1
      · rw [List.getElem?_set_ne hij] at h1; exact w.own j mm q h1 h2
  · rw [frzR_no fun m e => h ⟨m, e⟩]
    exact ⟨G, Same.refl _, w⟩
end
section
variable {X : Cx} {K : PySem.W.Frag} {e a b c : Expr} {es rest : List Expr} {st : Stmt} {sts s1 s2 : List Stmt} {Te Ta Tb Tc : TrE} {T U : TrT} {TR : TrA} {S S1 S2 : TrS} {pos p : Pos} {x : Str} {k : Nat}
def SNil : TrS := fun E ρ n => E.nx ρ n
def SSeq (S1 S2 : TrS) : TrS := fun E ρ n => S1 { E with nx := S2 E } ρ n
theorem bNil : PSts X [] SNil := ⟨_, pss_nil, fun tp n G0 H0 G H σ ρ E D' w h k => k.nx σ ρ n G H (Same.refl _) w h⟩
theorem bCons (h1 : PSt X st S1) (h2 : PSts X sts S2) : PSts X (st :: sts) (SSeq S1 S2) := by
  obtain ⟨t1, p1, q1⟩ := h1.ex
  obtain ⟨t2, p2, q2⟩ := h2.ex
  refine ⟨_, pss_cons p1 p2, fun tp n G0 H0 G H σ ρ E D' w h k => ?_⟩
  refine q1 tp n G0 H0 G H σ ρ _ _ w h ⟨fun σ' ρ' n' G' H' sg w' h' => ?_, k.rt, k.bk, k.ct⟩
  exact q2 tp n' G0 H0 G' H' σ' ρ' E D' w' h' (k.later sg)
theorem bOne (h1 : PSt X st S1) : PSts X [st] S1 := by
  obtain ⟨t1, p1, q1⟩ := h1.ex
  exact ⟨_, pss_one p1, q1⟩
/-- ahead of a statement the slot's object is let stand -/
def SFz (i : Nat) (S : TrS) : TrS := fun E ρ n => S E (frzR ρ i) n
theorem sFz (i : Nat) (h : PSt X st S) : PSt X st (SFz i S) := by
  obtain ⟨t, p1, q1⟩ := h.ex
  refine ⟨t, p1, fun tp n G0 H0 G H σ ρ E D' w h k => ?_⟩
  obtain ⟨G', sg, w'⟩ := w.frz i
  exact q1 tp n G0 H0 G' H σ _ E D' w' h (k.later sg)
def SRet (Te : TrE) : TrS := fun E ρ n => Te ρ n E.rt
theorem sRet (h : PV X e Te) : PSt X (.Return (some e) pos) (SRet Te) := by
  obtain ⟨t, p1, q1⟩ := h.ex
  refine ⟨_, ps_ret p1, fun tp n G0 H0 G H σ ρ E D' w h k => ?_⟩
  exact q1 tp n G H σ ρ _ _ w.good w.env h fun d n' v G' H' g' s' a' h' => k.rt d n' v G' H' g' (w.step.trans w.good g' s') a' h'
def SIf (T : TrT) (S1 S2 : TrS) : TrS := fun E ρ n => T ρ n fun b n1 => if b = true then S1 E ρ n1 else S2 E ρ n1
theorem sIf (hc : PB X c T) (h1 : PSts X s1 S1) (h2 : PSts X s2 S2) : PSt X (.If c s1 s2 pos) (SIf T S1 S2) := by
  obtain ⟨tc, pc, qc⟩ := hc.ex
  obtain ⟨t1, p1, q1⟩ := h1.ex
  obtain ⟨t2, p2, q2⟩ := h2.ex
  refine ⟨_, ps_if pc p1 p2, fun tp n G0 H0 G H σ ρ E D' w h k => ?_⟩
  refine qc tp n G H σ ρ _ _ w.good w.env h fun b n1 G1 H1 g1 st1 h1 => ?_
  have w1 := w.go g1 st1
  cases b with
  | true => exact iteT (q1 tp n1 G0 H0 G1 H1 σ ρ E D' w1 h1 (k.later st1.gg))
  | false => exact iteF (q2 tp n1 G0 H0 G1 H1 σ ρ E D' w1 h1 (k.later st1.gg))
/-- never reached -/
def SNo : TrS := fun _ _ _ => False
theorem sNo : PSt X st SNo := ⟨_, ps_never, fun tp n G0 H0 G H σ ρ E D' w h k => h.elim⟩
theorem bNo : PSts X sts SNo := ⟨_, pss_never, fun tp n G0 H0 G H σ ρ E D' w h k => h.elim⟩
/-! ### targets -/
abbrev TrG := D → Rho → (Rho → Prop) → Prop
abbrev TrGs := List D → Rho → (Rho → Prop) → Prop
def SndG (K : PySem.W.Frag) (ws : List Nat) (t : TG) (Tg : TrG) : Prop := ∀ (tp : Addr) (n : Nat) (G0 H0 G H : Hp) (σ : L2.St) (ρ : Rho) (v : V) (d : D) (N : Rho → Prop) (Q : L2.St → Hp → Prop), Now K tp n G0 H0 G H σ ρ → At K tp G v d → Tg d ρ N →
  (∀ σ' ρ', Now K tp n G0 H0 G H σ' ρ' → (σ'.length = σ.length ∧ ∀ j, j ∉ ws → σ'[j]? = σ[j]?) → N ρ' → Q σ' H) → t v σ H Q
def SndGs (K : PySem.W.Frag) (ws : List Nat) (t : TGs) (Tg : TrGs) : Prop := ∀ (tp : Addr) (n : Nat) (G0 H0 G H : Hp) (σ : L2.St) (ρ : Rho) (vs : List V) (ds : List D) (N : Rho → Prop) (Q : L2.St → Hp → Prop), Now K tp n G0 H0 G H σ ρ → AtL K tp G vs ds → Tg ds ρ N →
  (∀ σ' ρ', Now K tp n G0 H0 G H σ' ρ' → (σ'.length = σ.length ∧ ∀ j, j ∉ ws → σ'[j]? = σ[j]?) → N ρ' → Q σ' H) → t vs σ H Q
structure PGV (X : Cx) (tg : Expr) (ws : List Nat) (Tg : TrG) : Prop where
  ex : ∃ t, PG X tg t ∧ SndG X.K ws t Tg
structure PGVs (X : Cx) (tgs : List Expr) (ws : List Nat) (Tg : TrGs) : Prop where
  ex : ∃ t, PGs X tgs t ∧ SndGs X.K ws t Tg
def GName (i : Nat) : TrG := fun d ρ N => N (ρ.set i (.val d))
def GNil : TrGs := fun ds ρ N => ds = [] ∧ N ρ
def GCons (g : TrG) (gs : TrGs) : TrGs := fun ds ρ N => match ds with
  | d :: r => g d ρ fun ρ' => gs r ρ' N
  | [] => False
def GTup (m : Nat) (gs : TrGs) : TrG := fun d ρ N => match d with
  | .tup ds => ds.length = m ∧ gs ds ρ N
  | _ => False
theorem gN (i : Nat) {x : Str} (hN : X.N.Nodup) (hi : X.N[i]? = some x := by rfl) (hx : Loc X.env.scope x := by first | exact .inl rfl | exact .inr rfl) (hf : X.fn x = true ∨ X.env.scope.names.lookup x = some .local := by first | exact .inl rfl | exact .inr rfl | assumption) :
    PGV X (.Name x pos) [i] (GName i) := by
  refine ⟨_, pg_name hN hi hx hf, fun tp n G0 H0 G H σ ρ v d N Q w ha h k => ?_⟩
  exact k _ _ (w.set i ha) ⟨by simp, fun j hj => List.getElem?_set_ne (fun e => hj (by subst e; exact List.mem_singleton.mpr rfl))⟩ h
theorem gNil : PGVs X [] [] GNil := by
  refine ⟨_, pgs_nil, fun tp n G0 H0 G H σ ρ vs ds N Q w ha h k => ?_⟩
  obtain ⟨rfl, h⟩ := h
  cases ha
  exact ⟨rfl, k σ ρ w ⟨rfl, fun _ _ => rfl⟩ h⟩
theorem gCons {ws ws' : List Nat} {g : TrG} {gs : TrGs} (h1 : PGV X e ws g) (h2 : PGVs X es ws' gs) (hs : (assignEach (e :: es) X.env).map (·.2) = assign e X.env :: (assignEach es X.env).map (·.2) := by rfl) : PGVs X (e :: es) (ws ++ ws') (GCons g gs) := by
  obtain ⟨t1, p1, q1⟩ := h1.ex
  obtain ⟨t2, p2, q2⟩ := h2.ex
  refine ⟨_, pgs_cons p1 p2 hs, fun tp n G0 H0 G H σ ρ vs ds N Q w ha h k => ?_⟩
  cases ha with
  | nil => exact h.elim
  | cons b1 b2 =>
    refine ⟨_, _, rfl, ?_⟩
    refine q1 tp n G0 H0 G H σ ρ _ _ _ _ w b1 h fun σ' ρ' w' o' h' => ?_
    refine q2 tp n G0 H0 G H σ' ρ' _ _ _ _ w' b2 h' fun σ2 ρ2 w2 o2 h2 => ?_
    exact k σ2 ρ2 w2 ⟨o2.1.trans o'.1, fun j hj => (o2.2 j fun z => hj (List.mem_append_right _ z)).trans (o'.2 j fun z => hj (List.mem_append_left _ z))⟩ h2
theorem gTup {ws : List Nat} {gs : TrGs} {m kk : Nat} (h : PGVs X es ws gs) (hc : X.calm = true := by rfl) (hn : (assignEach es X.env).length = m := by rfl) (hst : (assignEach es X.env).findIdx? (·.1) = none := by rfl) : PGV X (.Tuple es kk pos) ws (GTup m gs) := by
  obtain ⟨t, p1, q1⟩ := h.ex
  refine ⟨_, pg_tup hc p1 hn hst, fun tp n G0 H0 G H σ ρ v d N Q w ha h k => ?_⟩
  unfold GTup at h
  split at h
  · cases ha with
    | tup b1 b2 =>
      refine ⟨_, _, rfl, seqT_mono w.good.sub b1, by rw [b2.length]; exact h.1, ?_⟩
      exact q1 tp n G0 H0 G H σ ρ _ _ _ _ w b2 h.2 k
  · exact h.elim
/-! ### stores -/
def SSet (i : Nat) (Te : TrE) : TrS := fun E ρ n => Te ρ n fun d n1 => E.nx (ρ.set i (.val d)) n1
theorem snd_set {t : TE} (i : Nat) (h : SndE K t Te) : SndS K (tAsg t (gName i)) (SSet i Te) := by
  intro tp n G0 H0 G H σ ρ E D' w h' k
  refine h tp n G H σ ρ _ _ w.good w.env h' fun d n1 v G1 H1 g1 s1 a1 h1 => ?_
  exact k.nx _ _ n1 G1 H1 s1.gg ((w.go g1 s1).set i a1) h1
theorem sSet (i : Nat) {x : Str} {pos' : Pos} (hN : X.N.Nodup) (h : PV X e Te) (hi : X.N[i]? = some x := by rfl) (hx : Loc X.env.scope x := by first | exact .inl rfl | exact .inr rfl) (hs : swapsWith e (some (.Name x pos')) pos.line X.env = pure false := by rfl)
    (hf : X.fn x = true ∨ X.env.scope.names.lookup x = some .local := by first | exact .inl rfl | exact .inr rfl | assumption) : PSt X (.Assign [.Name x pos'] e pos) (SSet i Te) := by
  obtain ⟨t, p1, q1⟩ := h.ex
  exact ⟨_, ps_set hN hi hx p1 hs hf, snd_set i q1⟩
/-- a, b = e -/
def SAsg (Te : TrE) (g : TrG) : TrS := fun E ρ n => Te ρ n fun d n1 => g d ρ fun ρ' => E.nx ρ' n1
theorem sAsg {tg : Expr} {ws : List Nat} {g : TrG} (h : PV X e Te) (hg : PGV X tg ws g) (hs : swapsWithSole [tg] e pos.line X.env = pure false := by rfl) (hw : swappedStores [tg] e X.env = pure none := by rfl)
    (h1 : (assignEach [tg] X.env).map (·.2) = [assign tg X.env] := by rfl) : PSt X (.Assign [tg] e pos) (SAsg Te g) := by
  obtain ⟨t, p1, q1⟩ := h.ex
  obtain ⟨tg, p2, q2⟩ := hg.ex
  refine ⟨_, ps_asg p1 p2 hs hw h1, fun tp n G0 H0 G H σ ρ E D' w h' k => ?_⟩
  refine q1 tp n G H σ ρ _ _ w.good w.env h' fun d n1 v G1 H1 g1 s1 a1 h1 => ?_
  exact q2 tp n1 G0 H0 G1 H1 σ ρ v d _ _ (w.go g1 s1) a1 h1 fun σ' ρ' w' _ h2 => k.nx σ' ρ' n1 G1 H1 s1.gg w' h2
/-- a, b = x, y -/
def SPar (i j : Nat) (TR : TrA) : TrS := fun E ρ n => TR ρ n fun ds n1 => match ds with
  | [d, f] => E.nx ((ρ.set i (.val d)).set j (.val f)) n1
  | _ => False
theorem sPar (i j : Nat) {x y : Str} {px py pt : Pos} {kt k2 pt2} (hN : X.N.Nodup) (ha : PVs X [a, b] TR) (hc : X.calm = true := by rfl) (hi : X.N[i]? = some x := by rfl) (hj : X.N[j]? = some y := by rfl) (hij : i ≠ j := by decide)
    (hx : X.env.scope.names.lookup x = some .local := by rfl) (hy : X.env.scope.names.lookup y = some .local := by rfl)
    (hw : swappedStores [.Tuple [.Name x px, .Name y py] kt pt] (.Tuple [a, b] k2 pt2) X.env = pure (some [x, y]) := by rfl)
    (hs : swapsWithSole [.Tuple [.Name x px, .Name y py] kt pt] (.Tuple [a, b] k2 pt2) pos.line X.env = pure false := by rfl) :
    PSt X (.Assign [.Tuple [.Name x px, .Name y py] kt pt] (.Tuple [a, b] k2 pt2) pos) (SPar i j TR) := by
  obtain ⟨t, p1, q1⟩ := ha.ex
  refine ⟨_, ps_par hc hN hi hj hij hx hy p1 hw hs, fun tp n G0 H0 G H σ ρ E D' w h' k => ?_⟩
  refine q1 tp n G H σ ρ _ _ w.good w.env h' fun ds n1 vs G1 H1 g1 s1 a1 h1 => ?_
  split at h1
  · obtain ⟨v, u, rfl, b1, b2⟩ := atl2 a1
    exact ⟨v, u, rfl, k.nx _ _ n1 G1 H1 s1.gg (((w.go g1 s1).set i b1).set j b2) h1⟩
  · exact h1.elim
/-- x = [..], a list that is to change -/
def SMuL (i : Nat) (TR : TrA) : TrS := fun E ρ n => TR ρ n fun ds n1 => ds.length ≤ sizeLine ∧ E.nx (ρ.set i (.mu (.lst ds))) n1
theorem sMuL (i : Nat) {x : Str} {pos' lp : Pos} (hN : X.N.Nodup) (h : PVs X es TR) (hi : X.N[i]? = some x := by rfl) (hx : Loc X.env.scope x := by first | exact .inl rfl | exact .inr rfl) (hs : swapsWith (.List es lp) (some (.Name x pos')) pos.line X.env = pure false := by rfl)
    (hf : X.fn x = true ∨ X.env.scope.names.lookup x = some .local := by first | exact .inl rfl | exact .inr rfl | assumption) : PSt X (.Assign [.Name x pos'] (.List es lp) pos) (SMuL i TR) := by
  obtain ⟨t, p1, q1⟩ := h.ex
  refine ⟨_, ps_set hN hi hx (pe_lst p1) hs hf, fun tp n G0 H0 G H σ ρ E D' w h' k => ?_⟩
  refine q1 tp n G H σ ρ _ _ w.good w.env h' fun ds n1 vs G1 H1 g1 s1 a1 h1 => ⟨by rw [a1.length]; exact h1.1, fun p hp => ?_⟩
  exact k.nx _ _ n1 G1 _ s1.gg ((w.go g1 s1).newM i hp (m := .lst ds) ⟨vs, upd_same, a1⟩) h1.2
theorem slot_lst {tp : Addr} {G H : Hp} {σ : L2.St} {ρ : Rho} {i : Nat} {ds : List D} (e : EnvAt K tp G H σ ρ) (h : getS ρ i = .mu (.lst ds)) : ∃ p xs, σ[i]? = some (some (.ref p)) ∧ G p = none ∧ p ≠ tp ∧ H p = some (.lst xs) ∧ AtL K tp G xs ds := by
  obtain ⟨p, e1, e2, e3, xs, e4, e5⟩ := e.mu (getS_mu h)
  exact ⟨p, xs, e1, e2, e3, e4, e5⟩
/-- x.append(e) -/
def SApp (i : Nat) (Te : TrE) : TrS := fun E ρ n => match getS ρ i with
  | .mu (.lst ds) => Te ρ n fun d n1 => ds.length < sizeLine ∧ E.nx (ρ.set i (.mu (.lst (ds ++ [d])))) n1
  | _ => False
theorem sApp (i : Nat) {x : Str} {px apos cpos : Pos} (h : PV X e Te) (hN : X.N[i]? = some x := by rfl) (hv : Vis X.env.scope x := by first | exact Or.inl rfl | exact Or.inr (Or.inl rfl) | exact Or.inr (Or.inr rfl)) (hd : (x == ("__debug__" : Str)) = false := by decide)
    (hcd : (x == ("__classdict__" : Str)) = false := by decide) (hbase : attributeBase (.Name x px) "append" X.env (eval (.Name x px) X.env) = eval (.Name x px) X.env := by rfl)
    (hfew : ((backTo cpos (starEach [e] X.env)).all (fun x => !x.1) && (backToKw cpos (keywordEach [] X.env)).all (fun x => x.1.isSome) && decide ([e].length + ([] : List Keyword).length + (if ([] : List Keyword).isEmpty then 0 else 1) < 30)) = true := by rfl)
    (hline : (apos.endLine == cpos.line) = true := by rfl) (hs : starEach [e] X.env = (false, eval e X.env) :: starEach [] X.env := by rfl) (hsw : swapsWith (.Call (.Attribute (.Name x px) "append" apos) [e] [] cpos) none pos.line X.env = pure false := by rfl) :
    PSt X (.Expr (.Call (.Attribute (.Name x px) "append" apos) [e] [] cpos) pos) (SApp i Te) := by
  obtain ⟨t, p1, q1⟩ := h.ex
  refine ⟨_, ps_expr (pe_bm PySem.F.plainAttrs_list PySem.F.slot_list_append PySem.F.type_list_append mt_append (pe_var (i := i) hN hv hd hcd) (pa_cons p1 pa_nil hs) hbase hfew hline hs (by rfl)) hsw, fun tp n G0 H0 G H σ ρ E D' w h' k => ?_⟩
  unfold SApp at h'
  split at h'
  · rename_i ds hds
    obtain ⟨p, xs, e1, e2, e3, e4, e5⟩ := slot_lst w.env hds
    refine ⟨_, e1, .inl ⟨rfl, xs, SqL.of e4⟩, ?_⟩
    refine q1 tp n G H σ ρ _ _ w.good w.env h' fun d n1 v G1 H1 g1 s1 a1 h1 => ?_
    have w1 := w.go g1 s1
    have f5 := AtL.mono s1.gg _ _ e5
    refine ⟨p, xs, v, rfl, rfl, s1.hh _ _ e3 e4, by rw [e5.length]; exact h1.1, ?_⟩
    exact k.nx _ _ n1 G1 _ s1.gg (w1.putM (m' := .lst (ds ++ [d])) (getS_mu hds) e1 ⟨_, upd_same, f5.append (.cons a1 .nil)⟩) h1.2
  · exact h'.elim
/-- x.extend(e) -/
def SExt (i : Nat) (Te : TrE) : TrS := fun E ρ n => match getS ρ i with
  | .mu (.lst ds) => Te ρ n fun d n1 => match d with
    | .lst es => ds.length + es.length ≤ sizeLine ∧ E.nx (ρ.set i (.mu (.lst (ds ++ es)))) n1
    | _ => False
  | _ => False
theorem sExt (i : Nat) {x : Str} {px apos cpos : Pos} (h : PV X e Te) (hN : X.N[i]? = some x := by rfl) (hv : Vis X.env.scope x := by first | exact Or.inl rfl | exact Or.inr (Or.inl rfl) | exact Or.inr (Or.inr rfl)) (hd : (x == ("__debug__" : Str)) = false := by decide)
    (hcd : (x == ("__classdict__" : Str)) = false := by decide) (hbase : attributeBase (.Name x px) "extend" X.env (eval (.Name x px) X.env) = eval (.Name x px) X.env := by rfl)
    (hfew : ((backTo cpos (starEach [e] X.env)).all (fun x => !x.1) && (backToKw cpos (keywordEach [] X.env)).all (fun x => x.1.isSome) && decide ([e].length + ([] : List Keyword).length + (if ([] : List Keyword).isEmpty then 0 else 1) < 30)) = true := by rfl)
    (hline : (apos.endLine == cpos.line) = true := by rfl) (hs : starEach [e] X.env = (false, eval e X.env) :: starEach [] X.env := by rfl) (hsw : swapsWith (.Call (.Attribute (.Name x px) "extend" apos) [e] [] cpos) none pos.line X.env = pure false := by rfl) :
    PSt X (.Expr (.Call (.Attribute (.Name x px) "extend" apos) [e] [] cpos) pos) (SExt i Te) := by
  obtain ⟨t, p1, q1⟩ := h.ex
  refine ⟨_, ps_expr (pe_bm PySem.F.plainAttrs_list PySem.F.slot_list_extend PySem.F.type_list_extend mt_extend (pe_var (i := i) hN hv hd hcd) (pa_cons p1 pa_nil hs) hbase hfew hline hs (by rfl)) hsw, fun tp n G0 H0 G H σ ρ E D' w h' k => ?_⟩
  unfold SExt at h'
  split at h'
  · rename_i ds hds
    obtain ⟨p, xs, e1, e2, e3, e4, e5⟩ := slot_lst w.env hds
    refine ⟨_, e1, .inl ⟨rfl, xs, SqL.of e4⟩, ?_⟩
    refine q1 tp n G H σ ρ _ _ w.good w.env h' fun d n1 v G1 H1 g1 s1 a1 h1 => ?_
    have w1 := w.go g1 s1
    have f5 := AtL.mono s1.gg _ _ e5
    split at h1
    · rename_i es
      cases a1 with
      | lst b1 b2 =>
        refine ⟨p, _, xs, _, rfl, rfl, s1.hh _ _ e3 e4, g1.sub _ _ b1, by rw [e5.length, b2.length]; exact h1.1, ?_⟩
        exact k.nx _ _ n1 G1 _ s1.gg (w1.putM (m' := .lst (ds ++ es)) (getS_mu hds) e1 ⟨_, upd_same, f5.append b2⟩) h1.2
    · exact h1.elim
  · exact h'.elim
/-- x[k] = e, k written -/
def SPut (i : Nat) (k : Nat) (Te : TrE) : TrS := fun E ρ n => Te ρ n fun d n1 => match getS ρ i with
  | .mu (.lst ds) => k < ds.length ∧ E.nx (ρ.set i (.mu (.lst (ds.set k d)))) n1
  | _ => False
theorem sPut (i : Nat) {x : Str} {m : Nat} {px ip tpos : Pos} {j} (h : PV X e Te) (hN : X.N[i]? = some x := by rfl) (hv : Vis X.env.scope x := by first | exact Or.inl rfl | exact Or.inr (Or.inl rfl) | exact Or.inr (Or.inr rfl)) (hd : (x == ("__debug__" : Str)) = false := by decide)
    (hcd : (x == ("__classdict__" : Str)) = false := by decide)
    (ha : ∀ v, assign (.Subscript (.Name x px) (.Constant (.int (m : Int)) j ip) tpos) X.env v = (do
      let ov ← holding [v] (eval (.Name x px) X.env)
      let iv ← holding [v, ov] (eval (.Constant (.int (m : Int)) j ip) X.env)
      standAt tpos
      holding [v, ov, iv] (setItem ov iv v)
      release [v, ov, iv] []) := by intro _; rfl)
    (hs : swapsWithSole [.Subscript (.Name x px) (.Constant (.int (m : Int)) j ip) tpos] e pos.line X.env = pure false := by rfl) (hw : swappedStores [.Subscript (.Name x px) (.Constant (.int (m : Int)) j ip) tpos] e X.env = pure none := by rfl)
    (h1 : (assignEach [.Subscript (.Name x px) (.Constant (.int (m : Int)) j ip) tpos] X.env).map (·.2) = [assign (.Subscript (.Name x px) (.Constant (.int (m : Int)) j ip) tpos) X.env] := by rfl) :
    PSt X (.Assign [.Subscript (.Name x px) (.Constant (.int (m : Int)) j ip) tpos] e pos) (SPut i m Te) := by
  obtain ⟨t, p1, q1⟩ := h.ex
  refine ⟨_, ps_asg p1 (pg_sub (pe_var (i := i) hN hv hd hcd) pe_int set_list ha) hs hw h1, fun tp n G0 H0 G H σ ρ E D' w h' k => ?_⟩
  refine q1 tp n G H σ ρ _ _ w.good w.env h' fun d n1 v G1 H1 g1 s1 a1 h1 => ?_
  have w1 := w.go g1 s1
  split at h1
  · rename_i ds hds
    obtain ⟨p, xs, e1, e2, e3, e4, e5⟩ := slot_lst w1.env hds
    have hm : m < xs.length := by rw [e5.length]; exact h1.1
    refine ⟨_, e1, p, xs, _, m, rfl, rfl, e4, ?_, ?_⟩
    · unfold ixN
      rw [if_pos (Int.natCast_nonneg m), if_pos (by exact_mod_cast hm)]
      rfl
    · exact k.nx _ _ n1 G1 _ s1.gg (w1.putM (m' := .lst (ds.set m d)) (getS_mu hds) e1 ⟨_, upd_same, e5.set m a1⟩) h1.2
  · exact h1.elim
end
end Pu

/-! PuE: what is walked, for, while, list comprehensions. -/
namespace Pu
open PySem PySem.Spec L2
abbrev TrI := Rho → Nat → (List D → Nat → Prop) → Prop
/-- the iterator gives the data ds, one after another, while G stands -/
structure WalksD (K : PySem.W.Frag) (tp : Addr) (G : Hp) (J : It) (ds : List D) : Prop where
  go : ∀ (i : Nat) (G1 H1 : Hp), Same G G1 → Same G1 H1 → i < ds.length → J.go i H1
  stop : ∀ (i : Nat) (G1 H1 : Hp), Same G G1 → Same G1 H1 → ds.length ≤ i → J.stop i H1
  yld : ∀ (i : Nat) (n : Nat) (d : D) (G1 H1 H2 : Hp) (x : V), Same G G1 → Good K tp n G1 H1 → ds[i]? = some d → J.yld i H1 x H2 → ∃ G2, Good K tp n G2 H2 ∧ Step tp G1 H1 G2 H2 ∧ At K tp G2 x d
def SndI (K : PySem.W.Frag) (wi : TI) (W : TrI) : Prop := ∀ (tp : Addr) (n : Nat) (G H : Hp) (σ : L2.St) (ρ : Rho) (P : List D → Nat → Prop) (R : It → Hp → Prop), Good K tp n G H → EnvAt K tp G H σ ρ → W ρ n P →
  (∀ ds n' G' H' J, Good K tp n' G' H' → Step tp G H G' H' → WalksD K tp G' J ds → P ds n' → R J H') → wi σ H R
structure PIV (X : Cx) (tg iter : Expr) (W : TrI) : Prop where
  ex : ∃ wi, PI X tg iter wi ∧ SndI X.K wi W
def ISeq (l : Bool) (Te : TrE) : TrI := fun ρ n P => Te ρ n fun d n1 => match l, d with
  | true, .lst ds => P ds n1
  | false, .tup ds => P ds n1
  | false, .key ks => P (ks.map D.int) n1
  | _, _ => False
section
variable {X : Cx} {K : PySem.W.Frag} {tg e a b c iter : Expr} {es rest : List Expr} {st : Stmt} {sts s1 s2 body : List Stmt} {Te Ta Tb Tc : TrE} {T U : TrT} {TR : TrA} {S S1 S2 : TrS} {pos p : Pos} {x : Str} {k : Nat}
theorem walks_list {tp : Addr} {G : Hp} {a : Addr} {xs : List V} {ds : List D} (h : G a = some (.lst xs)) (hl : AtL K tp G xs ds) : WalksD K tp G (Itl K a) ds := by
  refine ⟨fun i G1 H1 s s' hi => ?_, fun i G1 H1 s s' hi => ⟨xs, SqL.of (s' _ _ (s _ _ h)), by rw [hl.length]; exact hi⟩, fun i n d G1 H1 H2 x s g hd hy => ?_⟩
  · have hi' : i < xs.length := by rw [hl.length]; exact hi
    exact ⟨xs, xs[i], SqL.of (s' _ _ (s _ _ h)), List.getElem?_eq_getElem hi'⟩
  · obtain ⟨rfl, hy⟩ := hy
    have e := hy xs (SqL.of (g.sub _ _ (s _ _ h)))
    obtain ⟨d', e1, e2⟩ := hl.get e
    rw [hd] at e1; cases e1
    exact ⟨G1, g, Step.refl, At.mono s _ _ e2⟩
theorem walks_tup {tp : Addr} {G : Hp} {a : Addr} {xs : List V} {ds : List D} (h : SqT K G a xs) (hl : AtL K tp G xs ds) : WalksD K tp G (Itt K a) ds := by
  refine ⟨fun i G1 H1 s s' hi => ?_, fun i G1 H1 s s' hi => ⟨xs, seqT_mono s' (seqT_mono s h), by rw [hl.length]; exact hi⟩, fun i n d G1 H1 H2 x s g hd hy => ?_⟩
  · have hi' : i < xs.length := by rw [hl.length]; exact hi
    exact ⟨xs, xs[i], seqT_mono s' (seqT_mono s h), List.getElem?_eq_getElem hi'⟩
  · obtain ⟨rfl, hy⟩ := hy
    have e := hy xs (seqT_mono g.sub (seqT_mono s h))
    obtain ⟨d', e1, e2⟩ := hl.get e
    rw [hd] at e1; cases e1
    exact ⟨G1, g, Step.refl, At.mono s _ _ e2⟩
theorem iL (h : PV X e Te) : PIV X tg e (ISeq true Te) := by
  obtain ⟨t, p1, q1⟩ := h.ex
  refine ⟨_, pi_list p1, fun tp n G H σ ρ P R g ev h k => ?_⟩
  refine q1 tp n G H σ ρ _ _ g ev h fun d n1 v G1 H1 g1 s1 a1 h1 => ?_
  split at h1
  · cases a1 with
    | lst b1 b2 => exact ⟨_, rfl, ⟨_, SqL.of (g1.sub _ _ b1)⟩, k _ n1 G1 H1 _ g1 s1 (walks_list b1 b2) h1⟩
  · rename_i hh; cases hh
  · rename_i hh; cases hh
  · exact h1.elim
theorem iT (h : PV X e Te) : PIV X tg e (ISeq false Te) := by
  obtain ⟨t, p1, q1⟩ := h.ex
  refine ⟨_, pi_tup p1, fun tp n G H σ ρ P R g ev h k => ?_⟩
  refine q1 tp n G H σ ρ _ _ g ev h fun d n1 v G1 H1 g1 s1 a1 h1 => ?_
  split at h1
  · exact absurd ‹(false : Bool) = true› Bool.false_ne_true
  · cases a1 with
    | tup b1 b2 => exact ⟨_, rfl, ⟨_, seqT_mono g1.sub b1⟩, k _ n1 G1 H1 _ g1 s1 (walks_tup b1 b2) h1⟩
  · cases a1 with
    | key b1 => exact ⟨_, rfl, ⟨_, SqT.of (g1.sub _ _ b1)⟩, k _ n1 G1 H1 _ g1 s1 (walks_tup (SqT.of b1) (AtL.ints _)) h1⟩
  · exact h1.elim
/-! range -/
theorem walks_range {tp : Addr} {G : Hp} (lo : Int) (m : Nat) : WalksD K tp G (Itr lo m) ((List.range m).map fun i => D.int (lo + (i : Nat))) := by
  refine ⟨fun i G1 H1 s s' hi => ?_, fun i G1 H1 s s' hi => ?_, fun i n d G1 H1 H2 x s g hd hy => ?_⟩
  · show i < m
    simpa using hi
  · show m ≤ i
    simpa using hi
  · obtain ⟨rfl, rfl⟩ := hy
    have hi : i < m := by
      have := (List.getElem?_eq_some_iff.mp hd).1
      simpa using this
    rw [List.getElem?_map, List.getElem?_range hi] at hd
    cases hd
    exact ⟨G1, g, Step.refl, .int _⟩
def Small62 (i : Int) : Prop := -(2 ^ 62) ≤ i ∧ i < 2 ^ 62
def IRg1 (TR : TrA) : TrI := fun ρ n P => TR ρ n fun ds n1 => match ds with
  | [.int j] => Small62 j ∧ P ((rgI 0 j).map D.int) n1
  | _ => False
def IRg2 (TR : TrA) : TrI := fun ρ n P => TR ρ n fun ds n1 => match ds with
  | [.int i, .int j] => Small62 i ∧ Small62 j ∧ P ((rgI i j).map D.int) n1
  | _ => False
theorem rgI_map (i j : Int) : (rgI i j).map D.int = (List.range (j - i).toNat).map fun k => D.int (i + (k : Nat)) := by
  unfold rgI
  rw [List.map_map]
  rfl
theorem iRg1 (hm : X.mg "range" = none) (h : PVs X [a] TR) (hg : Gl X "range" := by rfl) (hs : starEach [a] X.env = [(false, eval a X.env)] := by rfl) : PIV X tg (.Call (.Name "range" p) [a] [] pos) (IRg1 TR) := by
  obtain ⟨t, p1, q1⟩ := h.ex
  refine ⟨_, pi_range1 hg hm p1 hs, fun tp n G H σ ρ P R g ev h k => ?_⟩
  refine q1 tp n G H σ ρ _ _ g ev h fun ds n1 vs G1 H1 g1 s1 a1 h1 => ?_
  split at h1
  · rename_i j
    obtain ⟨v, rfl, b1⟩ := atl1 a1
    rw [b1.int_]
    refine ⟨j, rfl, h1.1.1, h1.1.2, k _ n1 G1 H1 _ g1 s1 ?_ h1.2⟩
    rw [rgI_map, Int.sub_zero]
    exact walks_range 0 j.toNat
  · exact h1.elim
theorem iRg2 (hm : X.mg "range" = none) (h : PVs X [a, b] TR) (hg : Gl X "range" := by rfl) (hs : starEach [a, b] X.env = [(false, eval a X.env), (false, eval b X.env)] := by rfl) (hs2 : starEach [b] X.env = [(false, eval b X.env)] := by rfl) :
    PIV X tg (.Call (.Name "range" p) [a, b] [] pos) (IRg2 TR) := by
  obtain ⟨t, p1, q1⟩ := h.ex
  refine ⟨_, pi_range2 hg hm p1 hs hs2, fun tp n G H σ ρ P R g ev h k => ?_⟩
  refine q1 tp n G H σ ρ _ _ g ev h fun ds n1 vs G1 H1 g1 s1 a1 h1 => ?_
  split at h1
  · rename_i i j
    obtain ⟨v, u, rfl, b1, b2⟩ := atl2 a1
    rw [b1.int_, b2.int_]
    refine ⟨i, j, rfl, ⟨h1.1.1, h1.1.2, h1.2.1.1, h1.2.1.2⟩, k _ n1 G1 H1 _ g1 s1 ?_ h1.2.2⟩
    rw [rgI_map]
    exact walks_range i (j - i).toNat
  · exact h1.elim
/-! zip of two tuples -/
theorem walks_zip {tp : Addr} {G : Hp} {a b : Addr} {xs ys : List V} {ds es : List D} (h1 : SqT K G a xs) (l1 : AtL K tp G xs ds) (h2 : SqT K G b ys) (l2 : AtL K tp G ys es) :
    WalksD K tp G (RZ.ItzT K a b) ((ds.zip es).map fun q => D.tup [q.1, q.2]) := by
  have len : ((ds.zip es).map fun q => D.tup [q.1, q.2]).length = min ds.length es.length := by simp
  refine ⟨fun i G1 H1 s s' hi => ?_, fun i G1 H1 s s' hi => ?_, fun i n d G1 H1 H2 x s g hd hy => ?_⟩
  · rw [len] at hi
    have i1 : i < xs.length := by rw [l1.length]; omega
    have i2 : i < ys.length := by rw [l2.length]; omega
    exact ⟨xs, ys, xs[i], ys[i], seqT_mono s' (seqT_mono s h1), seqT_mono s' (seqT_mono s h2), List.getElem?_eq_getElem i1, List.getElem?_eq_getElem i2⟩
  · rw [len] at hi
    refine ⟨xs, ys, seqT_mono s' (seqT_mono s h1), seqT_mono s' (seqT_mono s h2), ?_⟩
    rw [l1.length, l2.length]
    omega
  · obtain ⟨Tn, u, v, rfl, hT, rfl, e1, e2⟩ := hy
    have f1 := e1 xs (seqT_mono g.sub (seqT_mono s h1))
    have f2 := e2 ys (seqT_mono g.sub (seqT_mono s h2))
    obtain ⟨d1, g1, a1⟩ := l1.get f1
    obtain ⟨d2, g2, a2⟩ := l2.get f2
    have e : ((ds.zip es).map fun q => D.tup [q.1, q.2])[i]? = some (.tup [d1, d2]) := by
      rw [List.getElem?_map]
      have : (ds.zip es)[i]? = some (d1, d2) := by
        rw [List.getElem?_zip_eq_some]
        exact ⟨g1, g2⟩
      rw [this]; rfl
    rw [e] at hd; cases hd
    obtain ⟨g', st'⟩ := g.new hT (.tup [u, v])
    have m := s.trans st'.gg
    exact ⟨_, g', st', .tup (SqT.of upd_same) (.cons (At.mono m _ _ a1) (.cons (At.mono m _ _ a2) .nil))⟩
def IZip (TR : TrA) : TrI := fun ρ n P => TR ρ n fun ds n1 => match ds with
  | [.tup xs, .tup ys] => P ((xs.zip ys).map fun q => D.tup [q.1, q.2]) n1
  | _ => False
theorem iZip {elts : List Expr} {kk : Nat} {tpos : Pos} (hm : X.mg "zip" = none) (h : PVs X [a, b] TR) (hg : Gl X "zip" := by rfl) (hs : starEach [a, b] X.env = (false, eval a X.env) :: starEach [b] X.env := by rfl) (hpl : (backTo pos (starEach [b] X.env)).any (·.1) = false := by rfl) :
    PIV X (.Tuple elts kk tpos) (.Call (.Name "zip" p) [a, b] [] pos) (IZip TR) := by
  obtain ⟨t, p1, q1⟩ := h.ex
  refine ⟨_, RZ.pi_zipA hg hm p1 hs hpl, fun tp n G H σ ρ P R g ev h k => ?_⟩
  refine q1 tp n G H σ ρ _ _ g ev h fun ds n1 vs G1 H1 g1 s1 a1 h1 => ?_
  split at h1
  · obtain ⟨v, u, rfl, b1, b2⟩ := atl2 a1
    cases b1 with
    | tup c1 c2 =>
      cases b2 with
      | tup c3 c4 =>
        exact ⟨_, _, _, _, rfl, .inr ⟨seqT_mono g1.sub c1, seqT_mono g1.sub c3, k _ n1 G1 H1 _ g1 s1 (walks_zip c1 c2 c3 c4) h1⟩⟩
  · exact h1.elim
/-! ### for -/
def SFor (W : TrI) (g : TrG) (S : TrS) : TrS := fun E ρ n => W ρ n fun ds n1 => ∃ Inv : Nat → Rho → Nat → Prop, Inv 0 ρ n1 ∧
  (∀ i d ρ n, ds[i]? = some d → Inv i ρ n → g d ρ fun ρ2 => S { E with nx := Inv (i + 1), ct := Inv (i + 1), bk := E.nx } ρ2 n) ∧ ∀ ρ n, Inv ds.length ρ n → E.nx ρ n
theorem sFor {W : TrI} {ws : List Nat} {g : TrG} (hp : PassesOwn (model X.prog X.w) X.A X.env X.xe) (hi : PIV X tg iter W) (hg : PGV X tg ws g) (hb : PSts X body S) (hc : X.calm = true := by rfl)
    (hs : ∀ x, foldedSetIterable iter X.env x = pure x := by intro _; rfl) : PSt X (.For tg iter body [] pos) (SFor W g S) := by
  obtain ⟨wi, p1, q1⟩ := hi.ex
  obtain ⟨tg', p2, q2⟩ := hg.ex
  obtain ⟨tb, p3, q3⟩ := hb.ex
  refine ⟨_, ps_for hp hc p1 p2 p3 hs, fun tp n G0 H0 G H σ ρ E D' w h k => ?_⟩
  refine q1 tp n G H σ ρ _ _ w.good w.env h fun ds n1 G1 H1 J g1 s1 wk h1 => ?_
  obtain ⟨Inv, i0, iS, iD⟩ := h1
  have w1 := w.go g1 s1
  refine ⟨fun i m σ' H' => ∃ n' G' ρ', Same G1 G' ∧ Now X.K tp n' G0 H0 G' H' σ' ρ' ∧ Inv i ρ' n' ∧ i ≤ ds.length ∧ m = ds.length - i, ⟨ds.length, n1, G1, ρ, Same.refl _, w1, i0, Nat.zero_le _, rfl⟩, ?_⟩
  rintro i m σ' H' ⟨n', G', ρ', sg, w', hI, hle, rfl⟩
  by_cases hi : i < ds.length
  · refine .inr ⟨wk.go i G' H' sg w'.good.sub hi, fun σ'' H'' => ∃ n' G' ρ', Same G1 G' ∧ Now X.K tp n' G0 H0 G' H'' σ'' ρ' ∧ Inv (i + 1) ρ' n', ?_, ?_⟩
    · rintro σ2 H2 ⟨n2, G2, ρ2, sg2, w2, h2⟩
      exact ⟨ds.length - (i + 1), by omega, n2, G2, ρ2, sg2, w2, h2, hi, rfl⟩
    · intro x H2 hy
      have hd : ds[i]? = some ds[i] := List.getElem?_eq_getElem hi
      obtain ⟨G2, g2, s2, a2⟩ := wk.yld i n' ds[i] G' H' H2 x sg w'.good hd hy
      have w2 := w'.go g2 s2
      have sg2 := sg.trans s2.gg
      refine q2 tp n' G0 H0 G2 H2 σ' ρ' x ds[i] _ _ w2 a2 (iS i ds[i] ρ' n' hd hI) fun σ3 ρ3 w3 _ h3 => ?_
      refine q3 tp n' G0 H0 G2 H2 σ3 ρ3 _ _ w3 h3 ⟨fun σ4 ρ4 n4 G4 H4 sg4 w4 h4 => ⟨n4, G4, ρ4, sg2.trans sg4, w4, h4⟩, k.rt, fun σ4 ρ4 n4 G4 H4 sg4 w4 h4 => ?_, fun σ4 ρ4 n4 G4 H4 sg4 w4 h4 => ⟨n4, G4, ρ4, sg2.trans sg4, w4, h4⟩⟩
      exact k.nx σ4 ρ4 n4 G4 H4 (s1.gg.trans (sg2.trans sg4)) w4 h4
  · have e : i = ds.length := by omega
    subst e
    exact .inl ⟨wk.stop _ G' H' sg w'.good.sub (Nat.le_refl _), k.nx σ' ρ' n' G' H' (s1.gg.trans sg) w' (iD ρ' n' hI)⟩
/-! ### while -/
def SWhile (T : TrT) (S : TrS) : TrS := fun E ρ n => ∃ (Inv : Rho → Nat → Prop) (μ : Rho → Nat → Nat), Inv ρ n ∧ ∀ ρ n, Inv ρ n → T ρ n fun b n1 =>
  if b = true then S { E with nx := fun ρ' n' => Inv ρ' n' ∧ μ ρ' n' < μ ρ n, ct := fun ρ' n' => Inv ρ' n' ∧ μ ρ' n' < μ ρ n, bk := E.nx } ρ n1 else E.nx ρ n1
theorem sWhile (hp : PassesOwn (model X.prog X.w) X.A X.env X.xe) (hc : PB X c T) (hb : PSts X body S) : PSt X (.While c body [] pos) (SWhile T S) := by
  obtain ⟨tc, p1, q1⟩ := hc.ex
  obtain ⟨tb, p2, q2⟩ := hb.ex
  refine ⟨_, ps_while hp p1 p2, fun tp n G0 H0 G H σ ρ E D' w h k => ?_⟩
  obtain ⟨Inv, μ, i0, iS⟩ := h
  refine ⟨fun m σ' H' => ∃ n' G' ρ', Same G G' ∧ Now X.K tp n' G0 H0 G' H' σ' ρ' ∧ Inv ρ' n' ∧ m = μ ρ' n', ⟨_, n, G, ρ, Same.refl _, w, i0, rfl⟩, ?_⟩
  rintro m σ' H' ⟨n', G', ρ', sg, w', hI, rfl⟩
  refine q1 tp n' G' H' σ' ρ' _ _ w'.good w'.env (iS ρ' n' hI) fun b n2 G2 H2 g2 s2 h2 => ?_
  have w2 := w'.go g2 s2
  have sg2 := sg.trans s2.gg
  cases b with
  | true =>
    refine iteT ?_
    refine ⟨fun σ'' H'' => ∃ n3 G3 ρ3, Same G G3 ∧ Now X.K tp n3 G0 H0 G3 H'' σ'' ρ3 ∧ Inv ρ3 n3 ∧ μ ρ3 n3 < μ ρ' n', ?_, ?_⟩
    · rintro σ3 H3 ⟨n3, G3, ρ3, sg3, w3, h3, hlt⟩
      exact ⟨_, hlt, n3, G3, ρ3, sg3, w3, h3, rfl⟩
    · refine q2 tp n2 G0 H0 G2 H2 σ' ρ' _ _ w2 h2 ⟨fun σ4 ρ4 n4 G4 H4 sg4 w4 h4 => ⟨n4, G4, ρ4, sg2.trans sg4, w4, h4.1, h4.2⟩, k.rt, fun σ4 ρ4 n4 G4 H4 sg4 w4 h4 => ?_, fun σ4 ρ4 n4 G4 H4 sg4 w4 h4 => ⟨n4, G4, ρ4, sg2.trans sg4, w4, h4.1, h4.2⟩⟩
      exact k.nx σ4 ρ4 n4 G4 H4 (sg2.trans sg4) w4 h4
  | false => exact iteF (k.nx σ' ρ' n2 G2 H2 sg2 w2 h2)
/-! ### list comprehensions -/
def wipeR (ρ : Rho) : List Nat → Rho
  | [] => ρ
  | v :: vs => (wipeR ρ vs).set v .un
theorem EnvAt.unset {tp : Addr} {G H : Hp} {σ : L2.St} {ρ : Rho} (e : EnvAt K tp G H σ ρ) (i : Nat) : EnvAt K tp G H (σ.set i none) (ρ.set i .un) := by
  refine ⟨by simp [e.len], fun j u s h1 h2 => ?_, fun a b p m m' h1 h2 h3 h4 => ?_⟩
  · by_cases hij : i = j
    · subst hij
      rw [List.getElem?_set] at h2
      simp at h2
      obtain ⟨_, rfl⟩ := h2
      trivial
    · rw [List.getElem?_set_ne hij] at h1 h2
      exact e.at_ j u s h1 h2
  · have ha : i ≠ a := by
      intro q; subst q
      rw [List.getElem?_set] at h1
      simp at h1
    have hb : i ≠ b := by
      intro q; subst q
      rw [List.getElem?_set] at h2
      simp at h2
    rw [List.getElem?_set_ne ha] at h1 h3
    rw [List.getElem?_set_ne hb] at h2 h4
    exact e.ne a b p m m' h1 h2 h3 h4
theorem EnvAt.wipe {tp : Addr} {G H : Hp} {σ : L2.St} {ρ : Rho} (e : EnvAt K tp G H σ ρ) : ∀ vs : List Nat, EnvAt K tp G H (wipe σ vs) (wipeR ρ vs)
  | [] => e
  | v :: vs => (EnvAt.wipe e vs).unset v
theorem wipe_get {σ : L2.St} : ∀ (vs : List Nat) (j : Nat), (wipe σ vs)[j]? = if j ∈ vs then (σ[j]?).map (fun _ => none) else σ[j]?
  | [], j => by simp [wipe]
  | v :: vs, j => by
    rw [wipe, List.getElem?_set, wipe_get vs j]
    by_cases h : v = j
    · subst h
      rw [wipe_length]
      simp
      by_cases hl : v < σ.length
      · simp [hl]
      · simp [hl]
    · rw [if_neg h]
      have : j ∈ v :: vs ↔ j ∈ vs := by
        rw [List.mem_cons]
        exact ⟨fun q => q.resolve_left fun e => h e.symm, .inr⟩
      by_cases hj : j ∈ vs
      · rw [if_pos hj, if_pos (this.mpr hj)]
      · rw [if_neg hj, if_neg (fun q => hj (this.mp q))]
theorem wipe_again {σ σ2 : L2.St} {vs ws : List Nat} (hl : σ2.length = σ.length) (hs : ∀ j ∈ ws, j ∈ vs) (h : ∀ j, j ∉ ws → σ2[j]? = (wipe σ vs)[j]?) : wipe σ2 vs = wipe σ vs := by
  apply List.ext_getElem?
  intro j
  rw [wipe_get, wipe_get]
  by_cases hj : j ∈ vs
  · rw [if_pos hj, if_pos hj]
    by_cases hlt : j < σ.length
    · rw [List.getElem?_eq_getElem hlt, List.getElem?_eq_getElem (by rw [hl]; exact hlt)]
      rfl
    · rw [List.getElem?_eq_none (by omega), List.getElem?_eq_none (by omega)]
  · rw [if_neg hj, if_neg hj]
    have := h j fun q => hj (hs j q)
    rw [this, wipe_get, if_neg hj]
structure PTsV (X : Cx) (ifs : List Expr) (T : TrT) : Prop where
  ex : ∃ t, PTs X ifs t ∧ SndT X.K t T
def TYes : TrT := fun _ n P => P true n
theorem tN : PTsV X [] TYes := ⟨_, pts_nil, fun tp n G H σ ρ P Q g e h k => k _ _ _ _ g Step.refl h⟩
theorem t1 (h : PB X c T) : PTsV X [c] T := by
  obtain ⟨t, p, q⟩ := h.ex
  exact ⟨_, pts_one p, q⟩
theorem PTsV.can {ifs : List Expr} (h : PTsV X ifs T) : PTs X ifs (canT X.K T) := by
  obtain ⟨t, p, q⟩ := h.ex
  refine ⟨fun pins s σ H Q I hh => ?_⟩
  obtain ⟨tp, n, G, ρ, P, g, e, h, k⟩ := hh
  exact p.run pins s σ H Q I (q tp n G H σ ρ P Q g e h k)
def canG (K : PySem.W.Frag) (ws : List Nat) (Tg : TrG) : TG := fun v σ H Q => ∃ tp n G0 H0 G ρ d N, Now K tp n G0 H0 G H σ ρ ∧ At K tp G v d ∧ Tg d ρ N ∧ ∀ σ' ρ', Now K tp n G0 H0 G H σ' ρ' → (σ'.length = σ.length ∧ ∀ j, j ∉ ws → σ'[j]? = σ[j]?) → N ρ' → Q σ' H
theorem PGV.can {ws : List Nat} {g : TrG} (h : PGV X tg ws g) : PG X tg (canG X.K ws g) := by
  obtain ⟨t, p, q⟩ := h.ex
  refine ⟨fun pins s σ H v u Q I r hh => ?_⟩
  obtain ⟨tp, n, G0, H0, G, ρ, d, N, w, a, h, k⟩ := hh
  exact p.run pins s σ H v u Q I r (q tp n G0 H0 G H σ ρ v d N Q w a h k)
/-- the items ds one by one: the list so far, P of the whole list -/
def LcTail (g : TrG) (Tt : TrT) (Te : TrE) (vs : List Nat) (ds : List D) (ρ : Rho) (n1 : Nat) (P : List D → Nat → Prop) : Prop := ∃ Inv : Nat → List D → Nat → Prop, Inv 0 [] n1 ∧
  (∀ i d acc n, ds[i]? = some d → Inv i acc n → g d (wipeR ρ vs) fun ρ2 => Tt ρ2 n fun b n2 => if b = true then Te ρ2 n2 fun y n3 => acc.length < sizeLine ∧ Inv (i + 1) (acc ++ [y]) n3 else Inv (i + 1) acc n2) ∧
  ∀ acc n, Inv ds.length acc n → P acc n
def TLc0 (W : TrI) (g : TrG) (Tt : TrT) (Te : TrE) (vs : List Nat) : Rho → Nat → (List D → Nat → Prop) → Prop := fun ρ n P => W ρ n fun ds n1 => LcTail g Tt Te vs ds ρ n1 P
def TLc (W : TrI) (g : TrG) (Tt : TrT) (Te : TrE) (vs : List Nat) : TrE := fun ρ n P => TLc0 W g Tt Te vs ρ n fun acc n' => P (.lst acc) n'
theorem snd_lc0 {wi : TI} {W : TrI} {g : TrG} {Tt : TrT} {ws vs : List Nat} (hi : SndI K wi W) (hw : ∀ j ∈ ws, j ∈ vs) {tp : Addr} {n : Nat} {G H : Hp} {σ : L2.St} {ρ : Rho} {P : List D → Nat → Prop} {Q : VK} (gd : Good K tp n G H) (ev : EnvAt K tp G H σ ρ)
    (h : TLc0 W g Tt Te vs ρ n P) (k : ∀ acc n' xs Dl G' H', Good K tp n' G' H' → Step tp G H G' H' → H Dl = none → G' Dl = none → H' Dl = some (.lst xs) → AtL K tp G' xs acc → P acc n' → Q (.ref Dl) H') :
    tLc wi (canG K ws g) (canT K Tt) (canE K Te) vs σ H Q := by
  refine hi tp n G H σ ρ _ _ gd ev h fun ds n1 G1 H1 J g1 s1 wk h1 => ?_
  obtain ⟨Inv, i0, iS, iD⟩ := h1
  intro Dl hDl
  have eD : H Dl = none := by
    cases q : H Dl with
    | none => rfl
    | some o =>
      have := s1.hh Dl o (g1.ne_new hDl) q
      rw [hDl] at this; cases this
  have nD := g1.ne_new hDl
  obtain ⟨gM, sM⟩ := g1.newM hDl (.lst [])
  refine ⟨fun i m H' => ∃ n' G' acc xs, Good K tp n' G' H' ∧ Step tp G1 H1 G' H' ∧ G' Dl = none ∧ H' Dl = some (.lst xs) ∧ AtL K tp G' xs acc ∧ Inv i acc n' ∧ i ≤ ds.length ∧ m = ds.length - i,
    ⟨ds.length, n1, G1, [], [], gM, sM, g1.none hDl, upd_same, .nil, i0, Nat.zero_le _, rfl⟩, ?_⟩
  rintro i m H' ⟨n', G', acc, xs, g', s', f1, f2, f3, hI, hle, rfl⟩
  by_cases hi : i < ds.length
  · refine .inr ⟨wk.go i G' H' s'.gg g'.sub hi, fun H'' => ∃ n' G' acc xs, Good K tp n' G' H'' ∧ Step tp G1 H1 G' H'' ∧ G' Dl = none ∧ H'' Dl = some (.lst xs) ∧ AtL K tp G' xs acc ∧ Inv (i + 1) acc n', ?_, ?_⟩
    · rintro H2 ⟨n2, G2, acc2, xs2, b1, b2, b3, b4, b5, b6⟩
      exact ⟨ds.length - (i + 1), by omega, n2, G2, acc2, xs2, b1, b2, b3, b4, b5, b6, hi, rfl⟩
    · intro x H2 hy
      have hd : ds[i]? = some ds[i] := List.getElem?_eq_getElem hi
      obtain ⟨G2, g2, s2, a2⟩ := wk.yld i n' ds[i] G' H' H2 x s'.gg g' hd hy
      have s12 := s'.trans g' g2 s2
      have ev2 : EnvAt K tp G2 H2 (wipe σ vs) (wipeR ρ vs) := ((ev.step s1).step s12).wipe vs
      have w2 : Now K tp n' (fun _ => none) (fun _ => none) G2 H2 (wipe σ vs) (wipeR ρ vs) := ⟨g2, ⟨fun _ _ z => (nomatch z), fun _ _ _ z => (nomatch z), fun _ _ z _ => (nomatch z)⟩, ev2, fun _ _ _ _ _ => rfl⟩
      refine ⟨tp, n', _, _, G2, wipeR ρ vs, ds[i], _, w2, a2, iS i ds[i] acc n' hd hI, fun σ3 ρ3 w3 o3 h3 => ?_⟩
      refine ⟨wipe_again (by rw [o3.1, wipe_length]) hw o3.2, ?_⟩
      refine ⟨tp, n', G2, ρ3, _, w3.good, w3.env, h3, fun b n4 G4 H4 g4 s4 h4 => ?_⟩
      have s14 := s12.trans g2 g4 s4
      have d4 : H4 Dl = some (.lst xs) := s4.hh _ _ nD (s2.hh _ _ nD f2)
      have e4 : G4 Dl = none := (s2.trans g2 g4 s4).hid Dl _ f2 f1
      have l4 := AtL.mono (s2.gg.trans s4.gg) _ _ f3
      cases b with
      | false =>
        refine iteF ?_
        exact ⟨n4, G4, acc, xs, g4, s14, e4, d4, l4, h4⟩
      | true =>
        refine iteT ?_
        refine ⟨tp, n4, G4, ρ3, _, g4, w3.env.step s4, h4, fun y n5 v G5 H5 g5 s5 a5 h5 => ?_⟩
        have d5 := s5.hh _ _ nD d4
        have e5 := s5.hid Dl _ d4 e4
        have s15 := s14.trans g4 g5 s5
        refine ⟨xs, d5, by rw [f3.length]; exact h5.1, n5, G5, acc ++ [y], xs ++ [v], g5.put e5 nD _, ⟨s15.gg, fun b o hb z => ?_, s15.hid⟩, e5, upd_same, (AtL.mono s5.gg _ _ l4).append (.cons a5 .nil), h5.2⟩
        rw [upd_ne (ne_of_none z hDl)]
        exact s15.hh b o hb z
  · have e : i = ds.length := by omega
    subst e
    have st := s1.trans g1 g' s'
    exact .inl ⟨wk.stop _ G' H' s'.gg g'.sub (Nat.le_refl _), k acc n' xs Dl G' H' g' st eD f1 f2 f3 (iD acc n' hI)⟩
theorem snd_lc {wi : TI} {W : TrI} {g : TrG} {Tt : TrT} {ws vs : List Nat} (hi : SndI K wi W) (hw : ∀ j ∈ ws, j ∈ vs) : SndE K (tLc wi (canG K ws g) (canT K Tt) (canE K Te) vs) (TLc W g Tt Te vs) := by
  intro tp n G H σ ρ P Q gd ev h k
  refine snd_lc0 hi hw gd ev h fun acc n' xs Dl G' H' g' s' e0 e1 e2 l h' => ?_
  have g2 := g'.freeze e2 (gd.ne_new e0) e1
  have sg : Same G' (upd G' Dl (.lst xs)) := fun b u z => by rw [upd_ne (ne_of_none z e1)]; exact z
  refine k _ n' _ _ H' g2 ⟨s'.gg.trans sg, s'.hh, fun b o z y => ?_⟩ (.lst upd_same (AtL.mono sg _ _ l)) h'
  rw [upd_ne (ne_of_none z e0)]
  exact s'.hid b o z y
theorem vLc {W : TrI} {g : TrG} {Tt : TrT} {ws : List Nat} {ifs : List Expr} {scope : Scope} {own : List (Str × Nat)} (hN : X.N.Nodup) (hi : PIV X tg iter W)
    (hg : ∀ (s : Shared) (H : Hp) (C : Addr) (cl : List (Str × Addr)) (fp : List Addr), PGV (X.blk s H scope (compEnvC scope cl C X.env) fp) tg ws g)
    (ht : ∀ (s : Shared) (H : Hp) (C : Addr) (cl : List (Str × Addr)) (fp : List Addr), PTsV (X.blk s H scope (compEnvC scope cl C X.env) fp) ifs Tt)
    (he : ∀ (s : Shared) (H : Hp) (C : Addr) (cl : List (Str × Addr)) (fp : List Addr), PV (X.blk s H scope (compEnvC scope cl C X.env) fp) e Te)
    (ok : BlkOk X.N X.env.scope scope own := by exact blkOk_by (by kernel_rfl)) (hw : ∀ j ∈ ws, j ∈ own.map (·.2) := by decide) (hc : X.calm = true := by rfl) (hs : ∀ x, foldedSetIterable iter X.env x = pure x := by intro _; rfl) :
    PV X (.ListComp e [⟨tg, iter, ifs, 0⟩] scope pos) (TLc W g Tt Te (own.map (·.2))) := by
  obtain ⟨wi, p1, q1⟩ := hi.ex
  exact ⟨_, pe_lc (g := canG X.K ws g) (tt := canT X.K Tt) (te := canE X.K Te) hc hN p1 ok (fun s H C cl fp => (hg s H C cl fp).can) (fun s H C cl fp => (ht s H C cl fp).can) (fun s H C cl fp => (he s H C cl fp).can) hs, snd_lc q1 hw⟩
/-- x = [..] on one row -/
theorem sLc (i : Nat) {W : TrI} {g : TrG} {Tt : TrT} {ws : List Nat} {ifs : List Expr} {scope : Scope} {own : List (Str × Nat)} {y : Str} {py spos : Pos} (hN : X.N.Nodup) (hi : PIV X tg iter W)
    (hg : ∀ (s : Shared) (H : Hp) (C : Addr) (cl : List (Str × Addr)) (fp : List Addr), PGV (X.blk s H scope (compEnvC scope cl C X.env) fp) tg ws g)
    (ht : ∀ (s : Shared) (H : Hp) (C : Addr) (cl : List (Str × Addr)) (fp : List Addr), PTsV (X.blk s H scope (compEnvC scope cl C X.env) fp) ifs Tt)
    (he : ∀ (s : Shared) (H : Hp) (C : Addr) (cl : List (Str × Addr)) (fp : List Addr), PV (X.blk s H scope (compEnvC scope cl C X.env) fp) e Te)
    (ok : BlkOk X.N X.env.scope scope own := by exact blkOk_by (by kernel_rfl)) (hw : ∀ j ∈ ws, j ∈ own.map (·.2) := by decide) (hc : X.calm = true := by rfl) (hy : X.N[i]? = some y := by rfl) (hyl : X.env.scope.names.lookup y = some .local := by rfl)
    (hsw : swapsWith (.ListComp e [⟨tg, iter, ifs, 0⟩] scope pos) (some (.Name y py)) spos.line X.env = pure true := by exact sw_true rfl rfl rfl (by decide +kernel)) (hs : ∀ x, foldedSetIterable iter X.env x = pure x := by intro _; rfl) :
    PSt X (.Assign [.Name y py] (.ListComp e [⟨tg, iter, ifs, 0⟩] scope pos) spos) (SSet i (TLc W g Tt Te (own.map (·.2)))) := by
  obtain ⟨wi, p1, q1⟩ := hi.ex
  exact ⟨_, ps_setLc (g := canG X.K ws g) (tt := canT X.K Tt) (te := canE X.K Te) hc hN hy hyl hsw p1 ok (fun s H C cl fp => (hg s H C cl fp).can) (fun s H C cl fp => (ht s H C cl fp).can) (fun s H C cl fp => (he s H C cl fp).can) hs, snd_set i (snd_lc q1 hw)⟩
/-- .. a list that is to change -/
def SMuLc (i : Nat) (L : Rho → Nat → (List D → Nat → Prop) → Prop) : TrS := fun E ρ n => L ρ n fun acc n1 => E.nx (ρ.set i (.mu (.lst acc))) n1
theorem sMuLc (i : Nat) {W : TrI} {g : TrG} {Tt : TrT} {ws : List Nat} {ifs : List Expr} {scope : Scope} {own : List (Str × Nat)} {y : Str} {py spos : Pos} (hN : X.N.Nodup) (hi : PIV X tg iter W)
    (hg : ∀ (s : Shared) (H : Hp) (C : Addr) (cl : List (Str × Addr)) (fp : List Addr), PGV (X.blk s H scope (compEnvC scope cl C X.env) fp) tg ws g)
    (ht : ∀ (s : Shared) (H : Hp) (C : Addr) (cl : List (Str × Addr)) (fp : List Addr), PTsV (X.blk s H scope (compEnvC scope cl C X.env) fp) ifs Tt)
    (he : ∀ (s : Shared) (H : Hp) (C : Addr) (cl : List (Str × Addr)) (fp : List Addr), PV (X.blk s H scope (compEnvC scope cl C X.env) fp) e Te)
    (ok : BlkOk X.N X.env.scope scope own := by exact blkOk_by (by kernel_rfl)) (hw : ∀ j ∈ ws, j ∈ own.map (·.2) := by decide) (hc : X.calm = true := by rfl) (hy : X.N[i]? = some y := by rfl) (hyl : X.env.scope.names.lookup y = some .local := by rfl)
    (hsw : swapsWith (.ListComp e [⟨tg, iter, ifs, 0⟩] scope pos) (some (.Name y py)) spos.line X.env = pure true := by exact sw_true rfl rfl rfl (by decide +kernel)) (hs : ∀ x, foldedSetIterable iter X.env x = pure x := by intro _; rfl) :
    PSt X (.Assign [.Name y py] (.ListComp e [⟨tg, iter, ifs, 0⟩] scope pos) spos) (SMuLc i (TLc0 W g Tt Te (own.map (·.2)))) := by
  obtain ⟨wi, p1, q1⟩ := hi.ex
  refine ⟨_, ps_setLc (g := canG X.K ws g) (tt := canT X.K Tt) (te := canE X.K Te) hc hN hy hyl hsw p1 ok (fun s H C cl fp => (hg s H C cl fp).can) (fun s H C cl fp => (ht s H C cl fp).can) (fun s H C cl fp => (he s H C cl fp).can) hs, fun tp n G0 H0 G H σ ρ E D' w h k => ?_⟩
  refine snd_lc0 q1 hw w.good w.env h fun acc n' xs Dl G' H' g' s' e0 e1 e2 l h' => ?_
  have w' := w.go g' s'
  have nD := w.good.ne_new e0
  have h0 := w.free0 e0
  refine k.nx _ _ n' G' H' s'.gg ⟨g', w'.step, w'.env.setM i (m := .lst acc) e1 nD ⟨xs, e2, l⟩ fun j h1 m' h2 => ?_, w'.own.setM i h0 _⟩ h'
  obtain ⟨q, f1, _, _, f4⟩ := w.env.mu h2
  rw [h1] at f1; injection f1 with f1; injection f1 with f1; injection f1 with f1; subst f1
  obtain ⟨u, hu⟩ := f4.some
  rw [e0] at hu; cases hu
/-! ### what a comprehension comes to -/
theorem lc_filt {g : TrG} {Tt : TrT} {vs : List Nat} {ρ : Rho} {n : Nat} {P : List D → Nat → Prop} {ds : List D} (p : D → Bool) (f : D → D) (hz : ds.length ≤ sizeLine)
    (hs : ∀ d ∈ ds, ∀ (Q : D → Nat → Prop) (Q0 : Nat → Prop), (p d = true → Q (f d) n) → (p d = false → Q0 n) → g d (wipeR ρ vs) fun ρ2 => Tt ρ2 n fun b n2 => if b = true then Te ρ2 n2 Q else Q0 n2)
    (h : P ((ds.filter p).map f) n) : LcTail g Tt Te vs ds ρ n P := by
  refine ⟨fun i acc n' => n' = n ∧ acc = ((ds.take i).filter p).map f, ⟨rfl, rfl⟩, ?_, ?_⟩
  · rintro i d acc n' hd ⟨rfl, rfl⟩
    have hi := (List.getElem?_eq_some_iff.mp hd).1
    have e : ds.take (i + 1) = ds.take i ++ [d] := by
      rw [List.take_add_one, hd]; rfl
    refine hs d (List.mem_of_getElem? hd) _ _ (fun hp => ⟨?_, rfl, ?_⟩) (fun hp => ⟨rfl, ?_⟩)
    · have h1 : (((ds.take i).filter p).map f).length ≤ i := by
        rw [List.length_map]
        exact Nat.le_trans (List.length_filter_le _ _) (by rw [List.length_take]; omega)
      omega
    · rw [e, List.filter_append, List.map_append, List.filter_cons_of_pos hp]
      rfl
    · rw [e, List.filter_append, List.map_append, List.filter_cons_of_neg (by rw [hp]; exact Bool.false_ne_true)]
      simp
  · rintro acc n' ⟨rfl, rfl⟩
    rw [List.take_length]
    exact h
theorem lc_map {g : TrG} {vs : List Nat} {ρ : Rho} {n : Nat} {P : List D → Nat → Prop} {ds : List D} (f : D → D) (hz : ds.length ≤ sizeLine)
    (hs : ∀ d ∈ ds, ∀ Q : D → Nat → Prop, Q (f d) n → g d (wipeR ρ vs) fun ρ2 => Te ρ2 n Q)
    (h : P (ds.map f) n) : LcTail g TYes Te vs ds ρ n P := by
  refine ⟨fun i acc n' => n' = n ∧ acc = (ds.take i).map f, ⟨rfl, rfl⟩, ?_, ?_⟩
  · rintro i d acc n' hd ⟨rfl, rfl⟩
    have hi := (List.getElem?_eq_some_iff.mp hd).1
    refine hs d (List.mem_of_getElem? hd) (fun y n3 => ((ds.take i).map f).length < sizeLine ∧ n3 = n' ∧ (ds.take i).map f ++ [y] = (ds.take (i + 1)).map f) ⟨?_, rfl, ?_⟩
    · rw [List.length_map, List.length_take]; omega
    · rw [List.take_add_one, hd, List.map_append]; rfl
  · rintro acc n' ⟨rfl, rfl⟩
    rw [List.take_length]
    exact h
end
end Pu

/-! PuF: a def of the text keeps its contract. -/
namespace Pu
open PySem PySem.Spec PyProof.Rows L2
/-- a def of the top, as it stands behind the top -/
structure Df (K : PySem.W.Frag) (mg : Str → Option Value) (x : Str) (st : Stmt) : Prop where
  ex : ∃ f fd, FunD K x x (defArgs st) (defBody st) (defScope st) [] [] f fd ∧ mg x = some (.ref f)
/-- the built-ins that the text calls -/
structure Bt (mg : Str → Option Value) : Prop where
  isi : mg "isinstance" = none
  tuple : mg "tuple" = none
  int : mg "int" = none
  bool : mg "bool" = none
  str : mg "str" = none
  list : mg "list" = none
  len : mg "len" = none
  abs : mg "abs" = none
  all : mg "all" = none
  max : mg "max" = none
  min : mg "min" = none
  range : mg "range" = none
  zip : mg "zip" = none
  sorted : mg "sorted" = none
  set : mg "set" = none
  repr : mg "repr" = none
def startR (N : List Str) (ds : List D) : Rho := ds.map Sl.val ++ List.replicate (N.length - ds.length) .un
section
variable {P : Program} {w : World} {K : PySem.W.Frag} {mg : Str → Option Value} {base : Heap}
theorem env_start {tp : Addr} {G H : Hp} {N : List Str} {vs : List V} {ds : List D} (h : AtL K tp G vs ds) : EnvAt K tp G H (L2.start N vs) (startR N ds) := by
  have hl := h.length
  refine ⟨by simp [L2.start, startR, hl], fun i v s h1 h2 => ?_, fun a b p m m' h1 h2 h3 h4 => ?_⟩
  · unfold L2.start at h1
    unfold startR at h2
    by_cases hi : i < ds.length
    · rw [List.getElem?_append_left (by rw [List.length_map]; omega)] at h1
      rw [List.getElem?_append_left (by rw [List.length_map]; omega)] at h2
      rw [List.getElem?_map] at h1 h2
      rw [List.getElem?_eq_getElem hi] at h2
      cases h2
      obtain ⟨v', e1, e2⟩ := h.get' (List.getElem?_eq_getElem hi)
      rw [e1] at h1
      cases h1
      exact ⟨_, rfl, e2⟩
    · rw [List.getElem?_append_right (by rw [List.length_map]; omega)] at h2
      have := List.mem_of_getElem? h2
      rw [List.mem_replicate] at this
      rw [this.2]
      trivial
  · exfalso
    have := List.mem_of_getElem? h1
    unfold startR at this
    rcases List.mem_append.mp this with q | q
    · obtain ⟨d, _, e⟩ := List.mem_map.mp q; cases e
    · rw [List.mem_replicate] at q; cases q.2
theorem own_start {H : Hp} {N : List Str} {vs : List V} {ds : List D} : Own H (L2.start N vs) (startR N ds) := by
  intro j m p h1 h2
  exfalso
  have := List.mem_of_getElem? h1
  unfold startR at this
  rcases List.mem_append.mp this with q | q
  · obtain ⟨d, _, e⟩ := List.mem_map.mp q; cases e
  · rw [List.mem_replicate] at q; cases q.2
theorem spOf_len {sp : PSp} {ps : List Str} (len : ∀ ds n P, sp ds n P → ds.length = ps.length) : ∀ vs H Q E, spOf K sp vs H Q E → vs.length = ps.length := by
  rintro vs H Q E ⟨tp, n, G, ds, P, g, a, h, k⟩
  rw [a.length]; exact len ds n P h
/-- the body's soundness, from its entry -/
theorem body_ok {sp : PSp} {N : List Str} {S : TrS} {t : TS} (hS : SndS K t S) (h : ∀ ds n P, sp ds n P → S { nx := fun _ n' => P .non n', rt := P } (startR N ds) n) {vs : List V} {H : Hp} {Q : VK} {E : XK} (hsp : spOf K sp vs H Q E) :
    t { nx := fun _ H' => Q .non H', rt := Q } (L2.start N vs) H := by
  obtain ⟨tp, n, G, ds, P, g, a, h1, k⟩ := hsp
  refine hS tp n G H G H _ _ _ _ ⟨g, Step.refl, env_start a, own_start⟩ (h ds n P h1) ⟨fun σ ρ n' G' H' sg w' h' => ?_, fun d n' v G' H' g' s' a' h' => k d n' v G' H' g' s' a' h', fun _ _ _ _ _ _ _ h' => h'.elim, fun _ _ _ _ _ _ _ h' => h'.elim⟩
  exact k .non n' .non G' H' w'.good w'.step .non h'
theorem has_mk {x : Str} {st : Stmt} {N ps : List Str} {k : Nat} {sp : PSp} (F : Df K mg x st) (sc : FnScope N ps (defScope st))
    (hb : ∀ (kV doc pm : Value) (an : Option Addr) (cdv ct : Value) (us : List Value), us.length = ps.length → bindArgs (PySem.W.fnOf x x (defArgs st) (defBody st) (defScope st) .none kV doc pm an cdv ct) ⟨us, []⟩ = pure (ps.zip us))
    (len : ∀ ds n P, sp ds n P → ds.length = ps.length)
    (body : ∀ (f : Addr) (cdv : Value) (A : Around) (outer : List Env) (s : Shared) (H : Hp) (E : XK), Room k (A.deeper (envOfC x (defScope st) s.heap.objs.size f cdv)) →
      ∃ S, PSts (cxOf CX0 P w K mg base N x (defScope st) f cdv A outer s H E).nox (defBody st) S ∧ ∀ ds n P, sp ds n P → S { nx := fun _ n' => P .non n', rt := P } (startR N ds) n) : Has P w K mg base x ps (k + 1) sp := by
  obtain ⟨f, fd, F1, hm⟩ := F.ex
  have bn : Binds K fd ps [] := F1.bindsN hb
  refine ⟨f, fd, F1.ok sc (spOf_len len) fun cdv A outer s H vs Q E hr hsp => ?_, hm, F1.kp, bn⟩
  obtain ⟨S, hS, h⟩ := body f cdv A outer s H E hr
  obtain ⟨t, h1, h2⟩ := hS.ex
  exact ⟨t, h1.nox, body_ok h2 h hsp⟩
end
end Pu

/-! PuG: rules of their own: written tables, max of data, repr, lists read in place, insert, t * k. -/
namespace Pu
open PySem PySem.Spec PyProof.Rows L2
/-! ### written tables with text keys -/
structure TabX (K : PySem.W.Frag) (w : World) (mg : Str → Option Value) (x : Str) (f : Str → Option Int) : Prop where
  ex : ∃ a es n, mg x = some (.ref a) ∧ KDict K w a es n ∧ (∀ z i, f z = some i → ∃ t, PySem.W.nsIn K a z = some (some (.int i t))) ∧ ∀ z, f z = none → PySem.W.nsIn K a z = some none
def oInTab (f : Str → Option Int) : D → (D → Prop) → Prop := fun x P => match x with
  | .str z => P (.bl (f z).isSome)
  | _ => False
def TInTab (f : Str → Option Int) (Te : TrE) : TrE := fun ρ n P => Te ρ n fun x n1 => match x with
  | .str z => P (.bl (f z).isSome) n1
  | _ => False
def TTabAt (f : Str → Option Int) (Te : TrE) : TrE := fun ρ n P => Te ρ n fun x n1 => match x with
  | .str z => ∃ i, f z = some i ∧ P (.int i) n1
  | _ => False
def TTabGet (f : Str → Option Int) (dflt : Int) (Te : TrE) : TrE := fun ρ n P => Te ρ n fun x n1 => match x with
  | .str z => P (.int ((f z).getD dflt)) n1
  | _ => False
section
variable {X : Cx} {K : PySem.W.Frag} {e a b c : Expr} {es rest : List Expr} {Te Ta Tb Tc : TrE} {TR : TrA} {pos p : Pos} {x : Str} {f : Str → Option Int}
theorem vInTab (T : TabX X.K X.w X.mg x f) (h : PV X e Te) (hg : Gl X x := by rfl) (hd : (x == ("__debug__" : Str)) = false := by decide) {pn : Pos} (hm : behindInMarks .In (.Name x pn) = false := by rfl) :
    PV X (.Compare e [.In] [.Name x pn] pos) (TInTab f Te) := by
  obtain ⟨d, es, m, hmg, kd, h1, h2⟩ := T.ex
  obtain ⟨t, p1, q1⟩ := h.ex
  refine ⟨_, pe_cmpR (op_in_kd kd) p1 (pe_glob (v := .ref d) hg hmg rfl hd) hm, fun tp n G H σ ρ P Q g ev h k => ?_⟩
  refine q1 tp n G H σ ρ _ _ g ev h fun y n1 v G1 H1 g1 s1 a1 q => ?_
  split at q
  · rename_i z
    cases hf : f z with
    | none =>
      rw [hf] at q
      exact ⟨z, none, a1.str_, rfl, h2 z hf, k _ _ _ _ _ g1 s1 (.bl _) q⟩
    | some i =>
      rw [hf] at q
      obtain ⟨tk, e⟩ := h1 z i hf
      exact ⟨z, _, a1.str_, rfl, e, k _ _ _ _ _ g1 s1 (.bl _) q⟩
  · exact q.elim
theorem vTabAt (T : TabX X.K X.w X.mg x f) (h : PV X e Te) (hg : Gl X x := by rfl) (hd : (x == ("__debug__" : Str)) = false := by decide) {pn : Pos} (hs : PlainIx e := by exact fun _ _ => rfl) : PV X (.Subscript (.Name x pn) e pos) (TTabAt f Te) := by
  obtain ⟨d, es, m, hmg, kd, h1, h2⟩ := T.ex
  obtain ⟨t, p1, q1⟩ := h.ex
  refine ⟨_, pe_ix ix_kdict (pe_glob (v := .ref d) hg hmg rfl hd) p1 hs, fun tp n G H σ ρ P Q g ev h k => ?_⟩
  refine q1 tp n G H σ ρ _ _ g ev h fun y n1 v G1 H1 g1 s1 a1 q => ?_
  split at q
  · rename_i z
    obtain ⟨i, hf, q⟩ := q
    obtain ⟨tk, e⟩ := h1 z i hf
    exact ⟨d, z, .int i, rfl, a1.str_, ⟨es, m, _, kd.at_, kd.lit, e, ⟨tk, rfl⟩⟩, k _ _ _ _ _ g1 s1 (.int _) q⟩
  · exact q.elim
/-- T.get(e, 0) -/
def tKGet (K : PySem.W.Frag) (d : Addr) (ty tx : TE) : TE := fun σ H Q => ty σ H fun y H1 => tx σ H1 fun z H2 => ∃ s r, y = .str s ∧ PySem.W.nsIn K d s = some r ∧ ((r = none ∧ Q z H2) ∨ ∃ u v, r = some u ∧ RelV v u ∧ Q v H2)
theorem pe_kget {o fe : Expr} {d : Addr} {eds : Array DictEntry} {m : Nat} {ty tx : TE} {apos cpos : Pos} (kd : KDict X.K X.w d eds m) (ho : PE X o (tC (.ref d))) (he : PE X e ty) (hf : PE X fe tx) (mm : M2 X o "get" apos e fe cpos) :
    PE X (.Call (.Attribute o "get" apos) [e, fe] [] cpos) (tKGet X.K d ty tx) := by
  refine ⟨fun pins s σ H Q I h => ?_⟩
  have low := kd.low
  refine wpAny_Call_method mm.base mm.few mm.line PySem.F.plainAttrs_dict PySem.F.slot_dict_get PySem.F.type_dict_get (thn (ho.run pins s σ H (fun x H1 => x = .ref d ∧ H1 = H) I ⟨rfl, rfl⟩) fun u s1 ⟨x, H1, I1, rx, ex, eH⟩ => ?_)
  subst ex eH
  obtain rfl : u = Value.ref d := rx
  have mo := PySem.W.mapOf_K (prog := X.prog) (w := X.w) I1.kIn kd.at_ kd.lit
  refine ⟨mo.typeIs, fun b eb => ?_, ?_⟩
  · cases eb
    exact ⟨_, I1.kIn _ _ kd.at_, rfl⟩
  rw [mm.trees]
  refine Calls.callWith_builtin rfl (Calls.evalArgs_plain (Calls.spliced_cons (thn (he.run pins s1 σ H1 _ I1 h) fun iv s2 ⟨y, H2, I2, ry, q2⟩ =>
    Calls.spliced_cons (thn (hf.run pins s2 σ H2 _ I2 q2) fun fv s3 ⟨z, H3, I3, rz, ss, r, ey, er, q3⟩ => Calls.spliced_nil ?_))))
  subst ey
  obtain ⟨tk, rfl⟩ := ry
  have mo3 := PySem.W.mapOf_K (prog := X.prog) (w := X.w) I3.kIn kd.at_ kd.lit
  refine call_meetsIn PySem.F.slot_dict_get mo3.typeIs PySem.F.entry_dict_get (PySem.F.args_dict_get_3 _ _ _) (meets_dict_get_default (strKind X.prog X.w) d (strKind_is X.prog X.w ss tk) low fv) ⟨_, mo3, ?_⟩
  rw [PySem.W.find_K kd.at_ er]
  rcases q3 with ⟨rfl, q⟩ | ⟨u, v, rfl, rv, q⟩
  · exact ⟨z, H3, I3.tok _, rz, q⟩
  · exact ⟨v, H3, I3.tok _, rv, q⟩
theorem vTabGet {i : Int} {j} {pn ip apos : Pos} (T : TabX X.K X.w X.mg x f) (h : PV X e Te) (hg : Gl X x := by rfl) (hd : (x == ("__debug__" : Str)) = false := by decide)
    (mm : M2 X (.Name x pn) "get" apos e (.Constant (.int i) j ip) pos := by exact ⟨rfl, rfl, rfl, rfl⟩) : PV X (.Call (.Attribute (.Name x pn) "get" apos) [e, .Constant (.int i) j ip] [] pos) (TTabGet f i Te) := by
  obtain ⟨d, es, m, hmg, kd, h1, h2⟩ := T.ex
  obtain ⟨t, p1, q1⟩ := h.ex
  refine ⟨_, pe_kget kd (pe_glob (v := .ref d) hg hmg rfl hd) p1 pe_int mm, fun tp n G H σ ρ P Q g ev h k => ?_⟩
  refine q1 tp n G H σ ρ _ _ g ev h fun y n1 v G1 H1 g1 s1 a1 q => ?_
  split at q
  · rename_i z
    cases hf : f z with
    | none =>
      rw [hf] at q
      exact ⟨z, none, a1.str_, h2 z hf, .inl ⟨rfl, k _ _ _ _ _ g1 s1 (.int _) q⟩⟩
    | some i' =>
      rw [hf] at q
      obtain ⟨tk, e⟩ := h1 z i' hf
      exact ⟨z, _, a1.str_, e, .inr ⟨_, .int i', rfl, ⟨tk, rfl⟩, k _ _ _ _ _ g1 s1 (.int _) q⟩⟩
  · exact q.elim
/-! ### max of a list of data -/
def rMaxD (K : PySem.W.Frag) : List V → Hp → VK → Prop := fun xs H Q => ∃ (a : Addr) (vs : List V) (ds : List PyData), xs = [.ref a] ∧ H a = some (.lst vs) ∧ DpAll K H vs ds ∧ PySem.W.AlikeAll ds ∧ ds ≠ [] ∧ PyData.depthAll ds ≤ 60 ∧ ∀ (i : Nat) (v : V), vs[i]? = some v → Q v H
theorem cr_maxD (hc : X.calm = true) (hu : X.A.units + 64 < cLine) : CallR X (.builtin "max") (rMaxD X.K) := by
  intro pins s σ H xs us Q I r h
  obtain ⟨a, vs, ds, rfl, hH, hdp, hal, hne, hdep, q⟩ := h
  obtain ⟨its, rv, hl, _⟩ := I.list (SqL.of hH)
  rw [Vals.ref1 r]
  obtain ⟨as, hr⟩ := Dp.readsAll I ds vs its hdp rv
  cases ds with
  | nil => exact absurd rfl hne
  | cons x xs =>
    refine PySem.W.max_list_data (I.ok.hd hc) hl.isList (by simpa using hr) hal (by omega) fun i v h' tk bs hv _ hk => ?_
    have hi : i < its.length := by
      have := (Array.getElem?_eq_some_iff.mp hv).1
      simpa using this
    have hi2 : i < vs.length := by rw [rv.length]; exact hi
    obtain ⟨u, e1, e2⟩ := rv.get (List.getElem?_eq_getElem hi2)
    have e3 : v = u := by
      have e4 : its.toArray[i]? = its[i]? := by simp
      rw [e4, e1] at hv
      exact (Option.some.inj hv).symm
    subst e3
    exact ⟨vs[i], H, I.kept hk, e2, q i _ (List.getElem?_eq_getElem hi2)⟩
def cMaxD : OpN := fun ds P => match ds with
  | [.lst es] => plainL es = true ∧ PySem.W.AlikeAll (pyL es) ∧ es ≠ [] ∧ PyData.depthAll (pyL es) ≤ 60 ∧ ∀ d ∈ es, P d
  | _ => False
theorem vMaxD {k : Nat} (hr : Room k X.A) (hm : X.mg "max" = none) (ha : PVs X [e] TR) (hc : X.calm = true := by rfl) (hg : Gl X "max" := by rfl)
    (he : starEach [e] X.env = (false, eval e X.env) :: starEach [] X.env := by rfl) : PV X (.Call (.Name "max" p) [e] [] pos) (TCB cMaxD TR) := by
  refine vCB (cr_maxD hc hr.units) ?_ hm (by decide +kernel) ha hg (by decide) (by decide) he (by rfl)
  intro tp n G H vs ds P Q g al h k
  unfold cMaxD at h
  split at h
  · rename_i es
    obtain ⟨hp, hal, hne, hdep, h⟩ := h
    obtain ⟨v, rfl, ha⟩ := atl1 al
    cases ha with
    | lst h1 h2 =>
      refine ⟨_, _, pyL es, rfl, g.sub _ _ h1, AtL.dp g.sub _ _ hp h2, hal, fun e => hne (by cases es with | nil => rfl | cons _ _ => cases e), hdep, fun i v hv => ?_⟩
      obtain ⟨d, hd, ad⟩ := h2.get hv
      exact k _ _ G H g Step.refl ad (h d (List.mem_of_getElem? hd))
  · exact h.elim
/-! ### repr -/
def rReprD (K : PySem.W.Frag) : List V → Hp → VK → Prop := fun xs H Q => ∃ (a : Addr) (d : PyData), xs = [.ref a] ∧ Dp K H (.ref a) d ∧ d.showable = true ∧ d.hasDict = false ∧ d.depth ≤ 60 ∧ d.shown.length ≤ sizeLine ∧ Q (.str d.shown) H
theorem cr_reprD (hg : X.A.guards = some []) (hu : X.A.units + 64 < cLine) : CallR X (.builtin "repr") (rReprD X.K) := by
  intro pins s σ H xs us Q I r h
  obtain ⟨a, d, rfl, hdp, hs, hnd, hdep, hz, q⟩ := h
  rw [Vals.ref1 r]
  obtain ⟨as, hr⟩ := Dp.reads I d _ _ hdp (rfl : RelV (.ref a) (Value.ref a))
  refine repr_of_reads' hr hs (PyData.noDict_hsm hnd) hg (by omega) (fun _ _ e => e) (fun h' u tk hk => ?_) hz
  exact ⟨.str d.shown, H, I.kept hk, ⟨u, rfl⟩, q⟩
def cRepr : OpN := fun ds P => match ds with
  | [d] => (seqOf d).isSome = true ∧ d.plain = true ∧ d.py.showable = true ∧ d.py.hasDict = false ∧ d.py.depth ≤ 60 ∧ d.py.shown.length ≤ sizeLine ∧ P (.str d.py.shown)
  | _ => False
theorem vRepr {k : Nat} (hgd : X.A.guards = some []) (hr : Room k X.A) (hm : X.mg "repr" = none) (ha : PVs X [e] TR) (hg : Gl X "repr" := by rfl)
    (he : starEach [e] X.env = (false, eval e X.env) :: starEach [] X.env := by rfl) : PV X (.Call (.Name "repr" p) [e] [] pos) (TCB cRepr TR) := by
  refine vCB (cr_reprD hgd hr.units) ?_ hm (by decide +kernel) ha hg (by decide) (by decide) he (by rfl)
  intro tp n G H vs ds P Q g al h k
  unfold cRepr at h
  split at h
  · rename_i d
    obtain ⟨h0, h1, h2, h3, h4, h5, h6⟩ := h
    obtain ⟨v, rfl, ha⟩ := atl1 al
    obtain ⟨es, hes⟩ := Option.isSome_iff_exists.mp h0
    obtain ⟨a, xs, rfl, _, _⟩ := ha.seq hes
    exact ⟨a, d.py, rfl, At.dp g.sub _ _ h1 ha, h2, h3, h4, h5, k _ _ G H g Step.refl (.str _) h6⟩
  · exact h.elim
/-! ### a list that changes, read in place -/
def TLenM (i : Nat) : TrE := fun ρ n P => match getS ρ i with
  | .mu (.lst ds) => P (.int ds.length) n
  | _ => False
theorem vLenM (i : Nat) {x : Str} {px : Pos} (hm : X.mg "len" = none) (hN : X.N[i]? = some x := by rfl) (hv : Vis X.env.scope x := by first | exact Or.inl rfl | exact Or.inr (Or.inl rfl) | exact Or.inr (Or.inr rfl)) (hd : (x == ("__debug__" : Str)) = false := by decide)
    (hcd : (x == ("__classdict__" : Str)) = false := by decide) (hg : Gl X "len" := by rfl) (he : starEach [.Name x px] X.env = (false, eval (.Name x px) X.env) :: starEach [] X.env := by rfl) : PV X (.Call (.Name "len" p) [.Name x px] [] pos) (TLenM i) := by
  refine ⟨_, pe_callB call_len_seq hg hm PySem.boot_len (pa_cons (pe_var (i := i) hN hv hd hcd) pa_nil he) (by decide) (by decide) he (by rfl), fun tp n G H σ ρ P Q g ev h k => ?_⟩
  unfold TLenM at h
  split at h
  · rename_i ds hds
    obtain ⟨q, xs, e1, e2, e3, e4, e5⟩ := slot_lst ev hds
    refine ⟨_, e1, q, xs, rfl, .inl (SqL.of e4), ?_⟩
    rw [e5.length]
    exact k _ _ _ _ _ g Step.refl (.int _) h
  · exact h.elim
def TIxM (i : Nat) (Te : TrE) : TrE := fun ρ n P => match getS ρ i with
  | .mu (.lst ds) => Te ρ n fun y n1 => match y with
    | .int j => ∃ d, atI ds j = some d ∧ P d n1
    | _ => False
  | _ => False
theorem vIxM (i : Nat) {x : Str} {px : Pos} (h : PV X e Te) (hN : X.N[i]? = some x := by rfl) (hv : Vis X.env.scope x := by first | exact Or.inl rfl | exact Or.inr (Or.inl rfl) | exact Or.inr (Or.inr rfl)) (hd : (x == ("__debug__" : Str)) = false := by decide)
    (hcd : (x == ("__classdict__" : Str)) = false := by decide) (hs : PlainIx e := by exact fun _ _ => rfl) : PV X (.Subscript (.Name x px) e pos) (TIxM i Te) := by
  obtain ⟨t, p1, q1⟩ := h.ex
  refine ⟨_, pe_ix ix_list (pe_var (i := i) hN hv hd hcd) p1 hs, fun tp n G H σ ρ P Q g ev h k => ?_⟩
  unfold TIxM at h
  split at h
  · rename_i ds hds
    obtain ⟨q, xs, e1, e2, e3, e4, e5⟩ := slot_lst ev hds
    refine ⟨_, e1, ?_⟩
    refine q1 tp n G H σ ρ _ _ g ev h fun y n1 v G1 H1 g1 s1 a1 h1 => ?_
    split at h1
    · rename_i j
      obtain ⟨d, ed, h1⟩ := h1
      obtain ⟨u, f1, f2⟩ := atI_at (AtL.mono s1.gg _ _ e5) ed
      exact ⟨q, xs, j, u, rfl, a1.int_, SqL.of (s1.hh _ _ e3 e4), f1, k _ _ _ _ _ g1 s1 f2 h1⟩
    · exact h1.elim
  · exact h.elim
/-! ### x.insert(a, e) -/
def SIns (i : Nat) (Ta Te : TrE) : TrS := fun E ρ n => match getS ρ i with
  | .mu (.lst ds) => Ta ρ n fun y n1 => Te ρ n1 fun d n2 => match y with
    | .int j => ds.length < sizeLine ∧ 0 ≤ j ∧ j < 2 ^ 63 ∧ E.nx (ρ.set i (.mu (.lst (ds.take j.toNat ++ d :: ds.drop j.toNat)))) n2
    | _ => False
  | _ => False
theorem sIns (i : Nat) {x : Str} {px apos cpos : Pos} (h1 : PV X a Ta) (h2 : PV X e Te) (hN : X.N[i]? = some x := by rfl) (hv : Vis X.env.scope x := by first | exact Or.inl rfl | exact Or.inr (Or.inl rfl) | exact Or.inr (Or.inr rfl)) (hd : (x == ("__debug__" : Str)) = false := by decide)
    (hcd : (x == ("__classdict__" : Str)) = false := by decide) (hbase : attributeBase (.Name x px) "insert" X.env (eval (.Name x px) X.env) = eval (.Name x px) X.env := by rfl)
    (hfew : ((backTo cpos (starEach [a, e] X.env)).all (fun x => !x.1) && (backToKw cpos (keywordEach [] X.env)).all (fun x => x.1.isSome) && decide ([a, e].length + ([] : List Keyword).length + (if ([] : List Keyword).isEmpty then 0 else 1) < 30)) = true := by rfl)
    (hline : (apos.endLine == cpos.line) = true := by rfl) (hs : starEach [a, e] X.env = (false, eval a X.env) :: starEach [e] X.env := by rfl) (hs2 : starEach [e] X.env = (false, eval e X.env) :: starEach [] X.env := by rfl) (hpl : (backTo cpos (starEach [e] X.env)).any (·.1) = false := by rfl)
    (hsw : swapsWith (.Call (.Attribute (.Name x px) "insert" apos) [a, e] [] cpos) none pos.line X.env = pure false := by rfl) :
    PSt X (.Expr (.Call (.Attribute (.Name x px) "insert" apos) [a, e] [] cpos) pos) (SIns i Ta Te) := by
  obtain ⟨t1, p1, q1⟩ := h1.ex
  obtain ⟨t2, p2, q2⟩ := h2.ex
  refine ⟨_, ps_expr (pe_bm PySem.F.plainAttrs_list PySem.F.slot_list_insert PySem.F.type_list_insert mt_insert (pe_var (i := i) hN hv hd hcd) (pa_cons p1 (pa_cons p2 pa_nil hs2) hs) hbase hfew hline hs hpl) hsw, fun tp n G0 H0 G H σ ρ E D' w h' k => ?_⟩
  unfold SIns at h'
  split at h'
  · rename_i ds hds
    obtain ⟨q, xs, e1, e2, e3, e4, e5⟩ := slot_lst w.env hds
    refine ⟨_, e1, .inl ⟨rfl, xs, SqL.of e4⟩, ?_⟩
    refine q1 tp n G H σ ρ _ _ w.good w.env h' fun y n1 v G1 H1 g1 s1 a1 h1 => ?_
    have w1 := w.go g1 s1
    refine q2 tp n1 G1 H1 σ ρ _ _ w1.good w1.env h1 fun d n2 u G2 H2 g2 s2 a2 h2 => ?_
    have w2 := w1.go g2 s2
    have sg := s1.gg.trans s2.gg
    have f5 := AtL.mono sg _ _ e5
    split at h2
    · rename_i j
      refine ⟨q, xs, j, u, rfl, by rw [a1.int_], s2.hh _ _ e3 (s1.hh _ _ e3 e4), by rw [e5.length]; exact h2.1, h2.2.1, h2.2.2.1, ?_⟩
      refine k.nx _ _ n2 G2 _ sg (w2.putM (m' := .lst (ds.take j.toNat ++ d :: ds.drop j.toNat)) (getS_mu hds) e1 ⟨_, upd_same, ?_⟩) h2.2.2.2
      rw [List.append_assoc]
      exact (f5.take _).append (.cons a2 (f5.drop _))
    · exact h2.elim
  · exact h'.elim
/-! ### t * k, k one or more -/
theorem tuple_mul1 (l : Addr) (items : Array Value) (n : Nat) (dd : Option Addr) (sl : Array (Option Value)) (u : Tok) :
    Meets (Builtin.«tuple.__mul__» ⟨[.ref l, .int 1 u], []⟩) (fun _ R s => s.heap.get? l = some { cls := .type "tuple", dict := dd, data := .seq items n, slots := sl } ∧ R (.ok (.ret (Value.ref l))) s) :=
  .of_wp fun prog w A R s h => by
    obtain ⟨hp, g, d, tk, os⟩ := s
    obtain ⟨hl, h⟩ := h
    have f1 := AutoSeq1.idx_int
    have f2 : ((items.isEmpty || (1 : Int) == 1) = true) := by simp
    wp_walk using AutoSeq1.wpAny_loadPart' hl
    exact ⟨_, rfl, h⟩
theorem op_rep1 : OpR X (binaryOp .Mult) (fun x y H Q => ∃ (l : Addr) (xs : List V), x = .ref l ∧ y = .int 1 ∧ SqT X.K H l xs ∧ Q (.ref l) H) := by
  intro pins s σ H x y v u Q I rx ry h
  obtain ⟨l, xs, rfl, rfl, hT, q⟩ := h
  cases rx
  obtain ⟨t, rfl⟩ := ry
  obtain ⟨its, r, ⟨⟨cls, dd, data, sl⟩, ho, hc, n, hd⟩, hs⟩ := I.tuple hT
  simp only at hc hd
  subst hc hd
  have typ : s.TypeIs (.ref l) "tuple" := ⟨_, ho, rfl⟩
  have mul1 := call_meets (prog := X.prog) (w := X.w) (A := X.A) (E := X.xe) (Q := EP X pins σ Q) F.slot_tuple_mul typ F.entry_tuple_mul (F.args_tuple_mul_2 _ _) (tuple_mul1 l its.toArray n dd sl t) ⟨ho, ⟨.ref l, H, I, rfl, q⟩⟩
  refine wpAny_binaryOp_repeat_ref (T := "tuple") (U := "int") (by decide) typ (fun s' => typeIs_int s' 1 t) noFill_tuple_mul F.fills_int_mul F.slot_int_rmul repeat_tuple F.slot_int_index.lookup ?_
  exact call_meets F.slot_int_rmul (typeIs_int s 1 t) F.entry_int_rmul (F.args_int_rmul_2 _ _) (int_rmul_tuple 1 t l its.toArray n dd sl) ⟨ho, rfl, typ, mul1⟩
def oRep : Op2 := fun x y P => match x, y with
  | .tup ds, .int k => ds ≠ [] ∧ 1 ≤ k ∧ k ≤ 1000 ∧ ds.length ≤ 1000 ∧ P (.tup (List.replicate k.toNat ds).flatten)
  | _, _ => False
theorem AtL.rep {tp : Addr} {G : Hp} {vs : List V} {ds : List D} (h : AtL K tp G vs ds) : ∀ k : Nat, AtL K tp G (List.replicate k vs).flatten (List.replicate k ds).flatten
  | 0 => .nil
  | k + 1 => by
    rw [List.replicate_succ, List.replicate_succ, List.flatten_cons, List.flatten_cons]
    exact h.append (AtL.rep h k)
theorem vRep (ha : PV X a Ta) (hb : PV X b Tb) : PV X (.BinOp a .Mult b pos) (TOp oRep Ta Tb) := by
  refine vOp (OpR.or op_repT op_rep1) ?_ ha hb
  intro tp n G H x y dx dy P Q g ax ay h k
  unfold oRep at h
  split at h
  · rename_i ds m
    obtain ⟨h1, h2, h3, h4, h5⟩ := h
    cases ax with
    | tup b1 b2 =>
      by_cases e : m = 1
      · subst e
        have e2 : (List.replicate (1 : Int).toNat ds).flatten = ds := by simp
        rw [e2] at h5
        exact .inr ⟨_, _, rfl, ay.int_, seqT_mono g.sub b1, k _ _ G H g Step.refl (.tup b1 b2) h5⟩
      · refine .inl ⟨_, m, _, rfl, ay.int_, seqT_mono g.sub b1, fun e => h1 (List.eq_nil_of_length_eq_zero (by rw [← b2.length, e]; rfl)), by omega, h3, by rw [b2.length]; exact h4, fun q hq => ?_⟩
        obtain ⟨g', s'⟩ := g.new hq (.tup _)
        exact k _ _ _ _ g' s' (.tup (SqT.of upd_same) (AtL.mono s'.gg _ _ (b2.rep m.toNat))) h5
  · exact h.elim
/-! ### t[::-1] -/
theorem places_back (n : Nat) : Builtin.Slice.slicePlaces ((n : Int) - 1) (-1) (-1) = n := by
  unfold Builtin.Slice.slicePlaces
  rw [if_neg (by decide)]
  by_cases h : n = 0
  · subst h; rfl
  · rw [if_pos (show (n : Int) - 1 > -1 by omega)]
    have e : ((n : Int) - 1 - -1 - 1) / - -1 + 1 = n := by
      rw [show (- -1 : Int) = 1 from rfl, Int.ediv_one]; omega
    rw [e]; simp
theorem pick_back (xs : Array Value) : ((List.range xs.size).filterMap fun (k : Nat) => xs[(((xs.size : Int) - 1) + (k : Int) * (-1)).toNat]?).toArray = xs.toList.reverse.toArray := by
  congr 1
  have e : ∀ k, k < xs.size → xs[(((xs.size : Int) - 1) + (k : Int) * (-1)).toNat]? = xs.toList.reverse[k]? := fun k hk => by
    have e1 : (((xs.size : Int) - 1) + (k : Int) * (-1)).toNat = xs.size - 1 - k := by omega
    rw [e1, List.getElem?_reverse (by simpa using hk)]
    simp
  have gen : ∀ (ys : List Value) (m : Nat), m ≤ ys.length → (List.range m).filterMap (fun k => ys[k]?) = ys.take m := fun ys m => by
    induction m with
    | zero => intro _; simp
    | succ m ih =>
      intro h
      rw [List.range_succ, List.filterMap_append, ih (by omega), List.take_add_one]
      rw [List.getElem?_eq_getElem (by omega)]
      simp [List.getElem?_eq_getElem (show m < ys.length by omega)]
  have e2 : (List.range xs.size).filterMap (fun (k : Nat) => xs[(((xs.size : Int) - 1) + (k : Int) * (-1)).toNat]?) = (List.range xs.size).filterMap fun k => xs.toList.reverse[k]? := by
    have gc : ∀ (l : List Nat), (∀ k ∈ l, k < xs.size) → l.filterMap (fun (k : Nat) => xs[(((xs.size : Int) - 1) + (k : Int) * (-1)).toNat]?) = l.filterMap fun k => xs.toList.reverse[k]? := fun l => by
      induction l with
      | nil => intro _; rfl
      | cons a l ih =>
        intro hl
        rw [List.filterMap_cons, List.filterMap_cons, e a (hl a List.mem_cons_self), ih fun k hk => hl k (List.mem_cons_of_mem _ hk)]
    exact gc _ fun k hk => List.mem_range.mp hk
  rw [e2, gen _ _ (by simp)]
  have e3 : xs.size = xs.toList.reverse.length := by simp
  rw [e3, List.take_length]
theorem getItem_tuple_back {prog : Program} {w : World} {A : Around} {E : Value → Shared → Prop} {s : Shared} {t sl : Addr} {items : Array Value} {vs : Value} {Q : Value → Shared → Prop} (ht : IsTup s.heap t items) (hs : s.heap.IsSliceOf sl .none .none vs) (ps : IsPart vs (some (-1)))
    (h : Q (.ref s.heap.objs.size) { s with heap := s.heap.push { cls := .type "tuple", data := .seq items.toList.reverse.toArray } }) (hsz : items.size ≤ sizeLine) : wpAny (model prog w) A (getItem (.ref t) (.ref sl)) Q E s := by
  have hok : sizeOk (.seq items.toList.reverse.toArray) := by
    show items.toList.reverse.toArray.size ≤ sizeLine
    simpa using hsz
  obtain ⟨o, ho, hc, hd⟩ := id hs
  have typ : s.TypeIs (.ref sl) "slice" := ⟨o, ho, hc⟩
  unfold getItem
  try with_reducible refine wpAny_holding ?_
  first | refine wpAny_bind (wpAny_pure ?_) | skip
  refine wpAny_bind (wpAny_sequenceKey ht.typeIs (by decide) ?_)
  refine wpAny_bind (wpAny_callSpecial?_slot (name := Str.ofString "__getitem__") ht.typeIs PyProof.Rows.slot_tuple_getitem (wpAny_call_entry PyProof.Rows.slot_tuple_getitem ht.typeIs entry_tuple_getitem ?_ (args_tuple_getitem _ _)))
  show wpAny _ _ (Builtin.Tuple.tupleItemsOf (.ref t) >>= _) _ _ s
  refine wpAny_bind (tupleItemsOf_ ht ?_)
  refine wpAny_bind (wpAny_typeOf typ ?_)
  rw [if_pos (by decide)]
  refine wpAny_bind ?_
  unfold Builtin.Slice.sliceApplied Builtin.Slice.sliceFields
  refine wpAny_bind (wpAny_bind (wpAny_field ho hd (x := .none) rfl (wpAny_bind (wpAny_field ho hd (x := .none) rfl (wpAny_bind (wpAny_field ho hd (x := vs) rfl (wpAny_pure ?_)))))))
  refine wpAny_bind (HT.slicePart_ ps ?_)
  show wpAny _ _ (if ((-1 : Int) == 0) = true then _ else _) _ _ s
  rw [if_neg (by decide)]
  refine wpAny_bind (slicePart_none (wpAny_bind (slicePart_none (wpAny_bind (wpAny_pure ?_)))))
  have adj : Builtin.Slice.sliceAdjust none none (-1) (items.size : Int) = ((items.size : Int) - 1, -1) := rfl
  show wpAny _ _ (match Builtin.Slice.sliceAdjust none none (-1) (items.size : Int) with | (lo, hi) => pure (lo, (-1 : Int), Builtin.Slice.slicePlaces lo hi (-1))) _ _ s
  rw [adj]
  show wpAny _ _ (pure ((items.size : Int) - 1, (-1 : Int), Builtin.Slice.slicePlaces ((items.size : Int) - 1) (-1) (-1))) _ _ s
  rw [places_back]
  refine wpAny_pure ?_
  have hno : ¬ (((items.size : Int) - 1 == 0 && (-1 : Int) == 1 && items.size == items.size) = true) := by simp
  show wpAny _ _ (if ((items.size : Int) - 1 == 0 && (-1 : Int) == 1 && items.size == items.size) = true then _ else _) _ _ s
  rw [if_neg hno, pick_back]
  first
    | exact wpAny_bind (m := Builtin.Tuple.tupleExact _) (wpAny_newObj_type (wpAny_pure ⟨_, rfl, wpAny_pure h⟩) hok)
    | exact wpAny_bind (m := Builtin.Tuple.tupleExact _) (wpAny_newObj_type (wpAny_bind (wpAny_pure (wpAny_pure ⟨_, rfl, wpAny_pure h⟩))) hok)
    | exact wpAny_bind (wpAny_bind (m := Builtin.Tuple.tupleExact _) (wpAny_newObj_type (wpAny_pure (wpAny_pure ⟨_, rfl, wpAny_pure h⟩)) hok))
    | exact wpAny_bind (wpAny_bind (m := Builtin.Tuple.tupleExact _) (wpAny_newObj_type (wpAny_pure ⟨_, rfl, wpAny_pure h⟩) hok))
def tBack (K : PySem.W.Frag) (te : TE) : TE := fun σ H Q => te σ H fun x H1 => ∃ a xs, x = .ref a ∧ SqT K H1 a xs ∧ ∀ p, H1 p = none → Q (.ref p) (upd H1 p (.tup xs.reverse))
theorem pe_back {kk : Nat} {p1 p2 p3 : Pos} {te : TE} (he : PE X e te) : PE X (.Subscript e (.Slice none none (some (.UnaryOp .USub (.Constant (.int 1) kk p1) p2)) p3) pos) (tBack X.K te) := by
  refine ⟨fun pins s σ H Q I h => ?_⟩
  refine Subscript_ (thn (he.run pins s σ H _ I h) fun v s1 ⟨x, H1, I1, r1, a, xs, ex, hx, q⟩ => ?_)
  subst ex
  cases r1
  have step : PO X (some (.UnaryOp .USub (.Constant (.int 1) kk p1) p2)) (tPart (tUn (rU fun i => .int (-i)) (tC (.int 1)))) := po_some (pe_un un_neg pe_int)
  refine wpAny_Slice (thn (po_none.run pins s1 σ H1 (fun o H2 => o = none ∧ H2 = H1) I1 ⟨rfl, rfl⟩) fun vl s2 ⟨l, H2, I2, pl, el, e2⟩ => ?_)
  subst el e2
  refine thn (po_none.run pins s2 σ H2 (fun o H3 => o = none ∧ H3 = H2) I2 ⟨rfl, rfl⟩) fun vu s3 ⟨u, H3, I3, pu, eu, e3⟩ => ?_
  subst eu e3
  refine thn (step.run pins s3 σ H3 (fun o H4 => o = some (-1) ∧ H4 = H3) I3 ⟨1, rfl, -1, rfl, rfl, rfl⟩) fun vs s4 ⟨o, H4, I4, ps, eo, e4⟩ => ?_
  subst eo e4
  have I5 : Inv X pins σ H4 { s4 with heap := s4.heap.push { cls := .type "slice", data := .fields #[vl, vu, vs] } } := I4.kept (t' := s4.toks) fun b ob q => Heap.get?_push_of_some _ q
  obtain ⟨its, r, ht, hz⟩ := I5.tuple hx
  have hlen := r.length
  have vl0 : vl = .none := by cases pl; rfl
  have vu0 : vu = .none := by cases pu; rfl
  subst vl0 vu0
  show wpAny (model X.prog X.w) X.A (subscriptTail e (.Slice none none (some (.UnaryOp .USub (.Constant (.int 1) kk p1) p2)) p3) (.ref a) (.ref s4.heap.objs.size)) (EP X pins σ Q) X.xe { s4 with heap := s4.heap.push { cls := .type "slice", data := .fields #[.none, .none, vs] } }
  refine tail_any (ops := [.ref a, .ref s4.heap.objs.size]) ht.typeIs (PyProof.Rows.slot_tuple_getitem.lookup) ?_ (by with_unfolding_all rfl)
  refine getItem_tuple_back ht (Heap.IsSliceOf.new _ .none .none vs) ps ?_ (by rw [List.size_toArray]; omega)
  refine ⟨.ref _, _, I5.laid (t' := s4.toks) (o := .tup xs.reverse) (fun b ob q => Heap.get?_push_of_some _ q) (Nat.le_refl _) ?_, rfl, q _ (I5.hok.fresh (Nat.le_refl _))⟩
  exact ⟨by rw [List.length_reverse]; exact hz, _, r.reverse, IsTup.new _ _⟩
def TRev (Te : TrE) : TrE := fun ρ n P => Te ρ n fun x n1 => match x with
  | .tup ds => P (.tup ds.reverse) n1
  | _ => False
theorem vRev {kk : Nat} {p1 p2 p3 : Pos} (h : PV X e Te) : PV X (.Subscript e (.Slice none none (some (.UnaryOp .USub (.Constant (.int 1) kk p1) p2)) p3) pos) (TRev Te) := by
  obtain ⟨t, p1, q1⟩ := h.ex
  refine ⟨_, pe_back p1, fun tp n G H σ ρ P Q g ev h k => ?_⟩
  refine q1 tp n G H σ ρ _ _ g ev h fun y n1 v G1 H1 g1 s1 a1 h1 => ?_
  split at h1
  · cases a1 with
    | tup b1 b2 =>
      refine ⟨_, _, rfl, seqT_mono g1.sub b1, fun p hp => ?_⟩
      obtain ⟨g', s'⟩ := g1.new hp (.tup _)
      exact k _ _ _ _ _ g' (s1.trans g1 g' s') (.tup (SqT.of upd_same) (AtL.mono s'.gg _ _ b2.reverse)) h1
  · exact h1.elim
end
end Pu

/-! PuH: sorted(set(list of ints)), the dict of keys, the tape. -/
namespace Pu
open PySem PySem.Spec PyProof.Rows L2
section
variable {P : Program} {w : World} {A : Around} {E : Value → Shared → Prop} {s : Shared}
abbrev newSet (w : World) : Obj := { cls := .type "set", dict := none, data := .set #[] 0 (.fresh 0 0 (!w.params.followText "set-order")) }
abbrev AfterSet (w : World) (s : Shared) (ks : List Int) (r : Value) (s2 : Shared) : Prop := r = .none ∧ ∃ (h' : Heap) (tk c : Nat), s2 = { s with heap := h', toks := tk } ∧ SetR w h' s.heap.objs.size (fun j => decide (j ∈ ks)) c ∧ c ≤ ks.length ∧ ∀ b o, s.heap.get? b = some o → h'.get? b = some o
theorem call_set_list {l : Addr} {its : Array Value} (ks : List Int) {Q : Value → Shared → Prop} (hh : A.handled = none) (hl : s.heap.IsList l its) (hi : IntsAre its.toList ks) (hb : ks.length + 1 < scanBound)
    (h : ∀ (h' : Heap) (tk c : Nat), SetR w h' s.heap.objs.size (fun j => decide (j ∈ ks)) c → c ≤ ks.length → (∀ b o, s.heap.get? b = some o → h'.get? b = some o) → Q (.ref s.heap.objs.size) { s with heap := h', toks := tk }) :
    wpAny (model P w) A (call (.type "set") [.ref l]) Q E s := by
  have isz : its.size = ks.length := by have := IntsAre.length hi; rwa [Array.length_toList] at this
  obtain ⟨mc, ml, mro⟩ := F.called_set.mro
  have made := F.called_set.made
  have subs := F.called_set.sub
  have noTy := F.called_set.notType
  have canC := F.called_set.canCreate
  have tcall := F.typeCall_set_1 (.ref l)
  refine wpAny_call (codeAny_of_tree ?_)
  show wpAny _ _ (callAny (.type "set") _) _ _ _
  refine wpAny_pure ⟨Code.quiet_builtin _ (by decide +kernel), codeAny_builtin F.entry_type_call ?_⟩
  rw [Around.under_plain (weight_type_call_type "set" [.ref l] []) rfl]
  repeat (any_goals (first | assumption | wp_step))
  refine codeAny_mono (code_set_led1 (.ref l) (E := E) (Q₁ := fun ob t => ob = .ref s.heap.objs.size ∧ t = { s with heap := s.heap.push (newSet w) }) ⟨rfl, rfl⟩) fun r t hr => ?_
  match r, hr with
  | .error e, hr => exact hr
  | .ok (.next), hr => exact hr.elim
  | .ok (.brk), hr => exact hr.elim
  | .ok (.cont), hr => exact hr.elim
  | .ok (.ret ob), hr =>
    obtain ⟨rfl, rfl⟩ := hr
    have gS : (s.heap.push (newSet w)).get? s.heap.objs.size = some (newSet w) := Heap.get?_push_size _ rfl
    have tS : Shared.TypeIs { s with heap := s.heap.push (newSet w) } (.ref s.heap.objs.size) "set" := ⟨_, gS, rfl⟩
    have iniL := F.called_set.init.lookup
    have iniB := F.called_set.init.bind (.ref s.heap.objs.size)
    repeat (any_goals (first | assumption | wp_step))
    refine codeAny_mono (codeAny_call_builtin (R := wants (AfterSet w s ks) E) F.called_set.init.plain F.entry_set_init (check_set_init_1 tS ?_)) fun r2 t2 hr2 => ?_
    · obtain ⟨⟨oc, od, oda, osl⟩, ho, hc, nl, hd⟩ := hl
      simp only at hc hd
      subst hc hd
      have ho2 : (s.heap.push (newSet w)).get? l = some { cls := .type "list", dict := od, data := .seq its nl, slots := osl } := Heap.get?_push_of_some _ ho
      have n1 := F.sub_list_set
      have n2 := F.sub_list_frozenset
      have n3 : (Value.type "list" == Value.type "dict") = false := by decide
      have hl2 : (s.heap.push (newSet w)).IsList l its := ⟨_, ho2, rfl, nl, rfl⟩
      unfold Builtin.«set.__init__» noKeywords Builtin.Frozenset.updateFrom
      generalize iP : pyIter = J
      wp_walk
      subst iP
      refine wpAny_pyIter_list hl2 (wpAny_bind (wpAny_runValue ?_))
      have llt : l < s.heap.objs.size := Heap.lt_size ho
      have psz : (s.heap.push (newSet w)).objs.size = s.heap.objs.size + 1 := Heap.size_push ..
      have neI : l ≠ (s.heap.push (newSet w)).objs.size := by rw [psz]; exact Nat.ne_of_lt (Nat.lt_succ_of_lt llt)
      refine set_update_ints ((Walks.list (A := A.in1.in1.in1) (by simp [hh]) _ l neI its).toS) s.heap.objs.size ?_ ks isz hb (fun i v hv => ?_) (its.size - 0) 0 _ (by omega) (Nat.zero_le _)
        ⟨⟨_, Heap.get?_push_size _ rfl, rfl, rfl⟩, (hl2.push _)⟩ ⟨0, Nat.le_refl 0, setR_new_at (Heap.get?_push_of_some _ gS)⟩ (fun t3 c3 hm hc3 hS3 => ?_)
      · rw [psz]
        simp only [List.mem_cons, List.mem_singleton, List.not_mem_nil, or_false, not_or]
        exact ⟨Nat.ne_of_lt (Nat.lt_succ_self _), Nat.ne_of_gt llt⟩
      · have il : i < ks.length := by rw [← isz]; exact (Array.getElem?_eq_some_iff.mp hv).1
        obtain ⟨tk, e⟩ := PyProof.Rows.IntsAre.int_at hi i v (by rw [Array.getElem?_toList]; exact hv)
        refine ⟨ks[i], tk, List.getElem?_eq_getElem il, ?_⟩
        rw [e, List.getD_eq_getElem?_getD, List.getElem?_eq_getElem il] <;> rfl
      · obtain ⟨h3, g3, d3, k3, o3⟩ := t3
        obtain rfl : g3 = s.gens := hm.gens
        obtain rfl : d3 = s.drawn := hm.drawn
        obtain rfl : o3 = s.os := hm.os
        show wpAny _ _ _ _ _ _
        refine wpAny_pure ?_
        show wpAny _ _ (ret Value.none) _ _ _
        refine wpAny_pure ⟨rfl, h3, k3, c3, rfl, hS3, by rw [isz] at hc3; exact hc3, fun b o e => ?_⟩
        have b0 : b < s.heap.objs.size := Heap.lt_size e
        refine hm.heap b o ?_ (Heap.get?_push_of_some _ (Heap.get?_push_of_some _ e))
        rw [psz]
        simp only [List.mem_cons, List.mem_singleton, List.not_mem_nil, or_false, not_or]
        exact ⟨Nat.ne_of_lt b0, Nat.ne_of_lt (Nat.lt_succ_of_lt b0)⟩
    · match r2, hr2 with
      | .error e, hr2 => exact hr2
      | .ok (.next), hr2 => exact hr2.elim
      | .ok (.brk), hr2 => exact hr2.elim
      | .ok (.cont), hr2 => exact hr2.elim
      | .ok (.ret _), hr2 =>
        obtain ⟨rfl, h', tk, c', rfl, hS', hc', hk'⟩ := hr2
        repeat (any_goals (first | assumption | wp_step))
        exact h _ _ _ hS' hc' hk'
end
section
variable {X : Cx} {K : PySem.W.Frag} {e a b c : Expr} {es rest : List Expr} {Te Ta Tb Tc : TrE} {TR : TrA} {pos p p1 p2 : Pos} {x : Str}
def rSetL (w : World) : List V → Hp → VK → Prop := fun xs H Q => ∃ (a : Addr) (ks : List Int), xs = [.ref a] ∧ H a = some (.lst (ks.map V.int)) ∧ ks.length ≤ 1000 ∧
  ∀ (c : Nat) (p : Addr), c ≤ ks.length → H p = none → Q (.ref p) (upd H p (SetO w p (fun j => decide (j ∈ ks)) c))
theorem cr_setL (hc : X.calm = true) : CallR X (.type "set") (rSetL X.w) := by
  intro pins s σ H xs us Q I r h
  obtain ⟨a, ks, rfl, hH, hlen, q⟩ := h
  obtain ⟨its, rv, hl, _⟩ := I.list (SqL.of hH)
  rw [Vals.ref1 r]
  refine call_set_list ks (I.ok.hd hc) hl.isList (by simpa using ints_of_vals rv) (by unfold scanBound; omega) fun h' tk c R hcl hk => ?_
  have hn : H s.heap.objs.size = none := I.hok.fresh (Nat.le_refl _)
  exact ⟨.ref _, upd H s.heap.objs.size (SetO X.w s.heap.objs.size (fun j => decide (j ∈ ks)) c), I.laid (t' := tk) hk (Nat.le_refl _) (setO_new R), rfl, q c _ hcl hn⟩
def TSortSet (Te : TrE) : TrE := fun ρ n P => Te ρ n fun d n1 => match d with
  | .lst ds => ∃ ks : List Int, ds = ks.map D.int ∧ ks.length < 64 ∧ ∀ ns : List Int, ns.Pairwise (· < ·) → (∀ k, k ∈ ns ↔ k ∈ ks) → P (.lst (ns.map D.int)) n1
  | _ => False
theorem vSortSet (hm1 : X.mg "sorted" = none) (hm2 : X.mg "set" = none) (h : PV X e Te) (hc : X.calm = true := by rfl) (hg1 : Gl X "sorted" := by rfl) (hg2 : Gl X "set" := by rfl)
    (he : starEach [e] X.env = (false, eval e X.env) :: starEach [] X.env := by rfl)
    (he2 : starEach [.Call (.Name "set" p1) [e] [] p2] X.env = (false, eval (.Call (.Name "set" p1) [e] [] p2) X.env) :: starEach [] X.env := by rfl) :
    PV X (.Call (.Name "sorted" p) [.Call (.Name "set" p1) [e] [] p2] [] pos) (TSortSet Te) := by
  obtain ⟨t, pp, q1⟩ := h.ex
  have inner := pe_callTy (T := "set") (p := p1) (pos := p2) (cr_setL hc) hg2 hm2 (by decide +kernel) (pa_cons pp pa_nil he) (by decide) (by decide) he (by rfl)
  refine ⟨_, pe_callB (cr_sortedSet hc) hg1 hm1 (by decide +kernel) (pa_cons inner pa_nil he2) (by decide) (by decide) he2 (by rfl), fun tp n G H σ ρ P Q g ev h k => ?_⟩
  refine q1 tp n G H σ ρ _ _ g ev h fun y n1 v G1 H1 g1 s1 a1 h1 => ?_
  split at h1
  · obtain ⟨ks, rfl, hl, h1⟩ := h1
    cases a1 with
    | lst b1 b2 =>
      rw [AtL.of_ints b2] at b1
      refine ⟨_, ks, rfl, g1.sub _ _ b1, by omega, fun c p hcl hp => ?_⟩
      obtain ⟨g2, s2⟩ := g1.new hp (SetO X.w p (fun j => decide (j ∈ ks)) c)
      refine ⟨p, _, c, rfl, upd_same, by omega, fun ns q hs hmem _ hq => ?_⟩
      obtain ⟨g3, s3⟩ := g2.new hq (.lst (ns.map V.int))
      exact k _ _ _ _ _ g3 (s1.trans g1 g3 (s2.trans g2 g3 s3)) (.lst upd_same (AtL.ints ns)) (h1 ns hs fun j => by rw [hmem j, decide_eq_true_iff])
  · exact h1.elim
end
end Pu

/-! PuI: a dict of keys, the attributes of an object. -/
namespace Pu
open PySem PySem.Spec PyProof.Rows L2
def lookT : List (List Int) → List D → List Int → Option D
  | j :: ks, d :: ds, k => if j = k then some d else lookT ks ds k
  | _, _, _ => none
abbrev kk (k : List Int) : List Key := k.map Sum.inl
theorem kk_inj {j k : List Int} (h : kk j = kk k) : j = k := by
  induction j generalizing k with
  | nil => cases k with
    | nil => rfl
    | cons _ _ => cases h
  | cons a j ih => cases k with
    | nil => cases h
    | cons b k =>
      have h1 := List.cons.inj h
      rw [Sum.inl.inj h1.1, ih h1.2]
abbrev tabKV (ks : List (List Int)) (xs : List V) : List (List Key × V) := (ks.map kk).zip xs
section
variable {K : PySem.W.Frag} {tp : Addr} {G H : Hp}
theorem look_some : ∀ {ks : List (List Int)} {ds : List D} {xs : List V} {k : List Int} {d : D}, AtL K tp G xs ds → lookT ks ds k = some d → ∃ v, valV (tabKV ks xs) (kk k) = some v ∧ At K tp G v d
  | [], _, _, _, _, _, e => by simp [lookT] at e
  | _ :: _, [], _, _, _, h, e => by simp [lookT] at e
  | j :: ks, d' :: ds, _, k, d, h, e => by
    cases h with
    | cons h1 h2 =>
      unfold lookT at e
      split at e
      · rename_i q
        subst q
        cases e
        exact ⟨_, valV_pos rfl, h1⟩
      · rename_i q
        obtain ⟨v, e1, e2⟩ := look_some h2 e
        exact ⟨v, by rw [show tabKV (j :: ks) (_ :: _) = (kk j, _) :: tabKV ks _ from rfl, valV_neg (fun z => q (kk_inj z))]; exact e1, e2⟩
theorem look_none : ∀ {ks : List (List Int)} {xs : List V} {k : List Int}, k ∉ ks → valV (tabKV ks xs) (kk k) = none
  | [], _, _, _ => rfl
  | _ :: _, [], _, _ => rfl
  | j :: ks, x :: xs, k, h => by
    rw [show tabKV (j :: ks) (x :: xs) = (kk j, x) :: tabKV ks xs from rfl, valV_neg (fun z => h (by rw [kk_inj z]; exact List.mem_cons_self))]
    exact look_none fun m => h (List.mem_cons_of_mem _ m)
theorem tab_snoc {ks : List (List Int)} {xs : List V} (h : ks.length = xs.length) (k : List Int) (v : V) : tabKV (ks ++ [k]) (xs ++ [v]) = tabKV ks xs ++ [(kk k, v)] := by
  unfold tabKV
  rw [List.map_append, List.zip_append (by simpa using h)]
  rfl
theorem key_at {a : Addr} {k : List Int} (h : G a = some (.tup (k.map V.int))) : G a = some (.tup ((kk k).map kV)) := by
  rw [h, List.map_map]; rfl
end
section
variable {X : Cx} {K : PySem.W.Frag} {e a b c : Expr} {es rest : List Expr} {Te Ta Tb Tc : TrE} {TR : TrA} {pos p p1 p2 : Pos} {x : Str} {k : Nat}
theorem roomU {k : Nat} {A : Around} (h : Room k A) : A.units + 1 < cLine := by have := h.units; omega
/-- x = {}, a dict that is to change -/
def STabNew (i : Nat) : TrS := fun E ρ n => E.nx (ρ.set i (.mu (.tab [] []))) n
theorem sTabNew (i : Nat) {x : Str} {pos' lp : Pos} (hN : X.N.Nodup) (hi : X.N[i]? = some x := by rfl) (hx : Loc X.env.scope x := by first | exact .inl rfl | exact .inr rfl) (hs : swapsWith (.Dict [] [] lp) (some (.Name x pos')) pos.line X.env = pure false := by rfl)
    (hf : X.fn x = true ∨ X.env.scope.names.lookup x = some .local := by first | exact .inl rfl | exact .inr rfl | assumption) : PSt X (.Assign [.Name x pos'] (.Dict [] [] lp) pos) (STabNew i) := by
  refine ⟨_, ps_set hN hi hx pe_dnewT hs hf, fun tp n G0 H0 G H σ ρ E D' w h' k => fun p hp => ?_⟩
  exact k.nx _ _ n G _ (Same.refl _) (w.newM i hp (m := .tab [] []) ⟨[], upd_same, .nil⟩) h'
theorem slot_tab {tp : Addr} {G H : Hp} {σ : L2.St} {ρ : Rho} {i : Nat} {ks : List (List Int)} {ds : List D} (e : EnvAt K tp G H σ ρ) (h : getS ρ i = .mu (.tab ks ds)) :
    ∃ p xs, σ[i]? = some (some (.ref p)) ∧ G p = none ∧ p ≠ tp ∧ H p = some (.dT (tabKV ks xs)) ∧ AtL K tp G xs ds := by
  obtain ⟨p, e1, e2, e3, xs, e4, e5⟩ := e.mu (getS_mu h)
  exact ⟨p, xs, e1, e2, e3, e4, e5⟩
/-- x[k], the dict read in place -/
def TTabM (i : Nat) (Te : TrE) : TrE := fun ρ n P => match getS ρ i with
  | .mu (.tab ks ds) => Te ρ n fun y n1 => match y with
    | .key k => ∃ d, lookT ks ds k = some d ∧ P d n1
    | _ => False
  | _ => False
theorem vTabM (i : Nat) {j : Nat} {x : Str} {px : Pos} (hr : Room j X.A) (h : PV X e Te) (hN : X.N[i]? = some x := by rfl) (hv : Vis X.env.scope x := by first | exact Or.inl rfl | exact Or.inr (Or.inl rfl) | exact Or.inr (Or.inr rfl)) (hd : (x == ("__debug__" : Str)) = false := by decide)
    (hcd : (x == ("__classdict__" : Str)) = false := by decide) (hs : NoSl e := by exact fun _ _ => rfl) : PV X (.Subscript (.Name x px) e pos) (TTabM i Te) := by
  obtain ⟨t, p1, q1⟩ := h.ex
  refine ⟨_, pe_dget (roomU hr) (pe_var (i := i) hN hv hd hcd) p1 hs, fun tp n G H σ ρ P Q g ev h k => ?_⟩
  unfold TTabM at h
  split at h
  · rename_i ks ds hds
    obtain ⟨q, xs, e1, e2, e3, e4, e5⟩ := slot_tab ev hds
    refine ⟨_, e1, ?_⟩
    refine q1 tp n G H σ ρ _ _ g ev h fun y n1 v G1 H1 g1 s1 a1 h1 => ?_
    split at h1
    · obtain ⟨d, hd, h1⟩ := h1
      cases a1 with
      | key b1 =>
        obtain ⟨v, f1, f2⟩ := look_some (AtL.mono s1.gg _ _ e5) hd
        exact ⟨q, v, rfl, f1 ▸ DGet.t (s1.hh _ _ e3 e4) (g1.sub _ _ (key_at b1)), k _ _ _ _ _ g1 s1 f2 h1⟩
    · exact h1.elim
  · exact h.elim
/-- x[k], the dict handed in -/
def TTab (Ta Te : TrE) : TrE := fun ρ n P => Ta ρ n fun x n1 => Te ρ n1 fun y n2 => match x, y with
  | .tab ks ds, .key k => ∃ d, lookT ks ds k = some d ∧ P d n2
  | _, _ => False
theorem vTab {j : Nat} (hr : Room j X.A) (h1 : PV X a Ta) (h2 : PV X e Te) (hs : NoSl e := by exact fun _ _ => rfl) : PV X (.Subscript a e pos) (TTab Ta Te) := by
  obtain ⟨t1, p1, q1⟩ := h1.ex
  obtain ⟨t2, p2, q2⟩ := h2.ex
  refine ⟨_, pe_dget (roomU hr) p1 p2 hs, fun tp n G H σ ρ P Q g ev h k => ?_⟩
  refine q1 tp n G H σ ρ _ _ g ev h fun x n1 v G1 H1 g1 s1 a1 h1 => ?_
  refine q2 tp n1 G1 H1 σ ρ _ _ g1 (ev.step s1) h1 fun y n2 u G2 H2 g2 s2 a2 h2 => ?_
  split at h2
  · obtain ⟨d, hd, h2⟩ := h2
    cases a1 with
    | tab b1 b2 =>
      cases a2 with
      | key b3 =>
        obtain ⟨v, f1, f2⟩ := look_some (AtL.mono s2.gg _ _ b2) hd
        exact ⟨_, v, rfl, f1 ▸ DGet.t (g2.sub _ _ (s2.gg _ _ b1)) (g2.sub _ _ (key_at b3)), k _ _ _ _ _ g2 (s1.trans g1 g2 s2) f2 h2⟩
  · exact h2.elim
/-- x[k] = e, k new -/
def STabPut (i : Nat) (Ta Te : TrE) : TrS := fun E ρ n => Te ρ n fun d n1 => match getS ρ i with
  | .mu (.tab ks ds) => Ta ρ n1 fun y n2 => match y with
    | .key k => k ∉ ks ∧ ks.length = ds.length ∧ ks.length < sizeLine ∧ E.nx (ρ.set i (.mu (.tab (ks ++ [k]) (ds ++ [d])))) n2
    | _ => False
  | _ => False
theorem sTabPut (i : Nat) {j : Nat} {x : Str} {px tpos : Pos} (hr : Room j X.A) (h1 : PV X a Ta) (h2 : PV X e Te) (hN : X.N[i]? = some x := by rfl) (hv : Vis X.env.scope x := by first | exact Or.inl rfl | exact Or.inr (Or.inl rfl) | exact Or.inr (Or.inr rfl)) (hd : (x == ("__debug__" : Str)) = false := by decide)
    (hcd : (x == ("__classdict__" : Str)) = false := by decide) (hs : swapsWith e (some (.Subscript (.Name x px) a tpos)) pos.line X.env = pure false := by rfl) : PSt X (.Assign [.Subscript (.Name x px) a tpos] e pos) (STabPut i Ta Te) := by
  obtain ⟨t1, p1, q1⟩ := h1.ex
  obtain ⟨t2, p2, q2⟩ := h2.ex
  refine ⟨_, ps_dput (roomU hr) (pe_var (i := i) hN hv hd hcd) p1 p2 hs, fun tp n G0 H0 G H σ ρ E D' w h' k => ?_⟩
  refine q2 tp n G H σ ρ _ _ w.good w.env h' fun d n1 v G1 H1 g1 s1 a1 h1 => ?_
  have w1 := w.go g1 s1
  split at h1
  · rename_i ks ds hds
    obtain ⟨q, xs, e1, e2, e3, e4, e5⟩ := slot_tab w1.env hds
    refine ⟨_, e1, ?_⟩
    refine q1 tp n1 G1 H1 σ ρ _ _ g1 w1.env h1 fun y n2 u G2 H2 g2 s2 a2 h2 => ?_
    have w2 := w1.go g2 s2
    split at h2
    · rename_i kx
      obtain ⟨h3, h4, h5, h6⟩ := h2
      cases a2 with
      | key b1 =>
        have f4 := s2.hh _ _ e3 e4
        have f5 := AtL.mono s2.gg _ _ e5
        have hl : ks.length = xs.length := by rw [h4, e5.length]
        have hz : (tabKV ks xs).length < sizeLine := by
          unfold tabKV
          rw [List.length_zip, List.length_map, ← hl, Nat.min_self]
          exact h5
        refine ⟨q, _, rfl, DPut.t f4 (g2.sub _ _ (key_at b1)) hz, ?_⟩
        refine k.nx _ _ n2 G2 _ (s1.gg.trans s2.gg) (w2.putM (m' := .tab (ks ++ [kx]) (ds ++ [d])) (getS_mu hds) e1 ⟨xs ++ [v], ?_, f5.append (.cons (At.mono s2.gg _ _ a1) .nil)⟩) h6
        rw [upd_same, putK_new v (look_none h3)]
        rw [← tab_snoc hl]
    · exact h2.elim
  · exact h1.elim
end
end Pu

/-! PuJ: objects, methods, what may raise NoPaper, try. -/
namespace Pu
open PySem PySem.Spec PyProof.Rows L2
def lookF : List Str → List D → Str → Option D
  | m :: ns, d :: ds, f => if f = m then some d else lookF ns ds f
  | _, _, _ => none
section
variable {K : PySem.W.Frag} {tp : Addr} {n : Nat} {G H H' : Hp}
theorem look_fld : ∀ {ns : List Str} {ds : List D} {xs : List V} {f : Str} {d : D}, AtL K tp G xs ds → lookF ns ds f = some d → ∃ v, (ns.zip xs).lookup f = some v ∧ At K tp G v d
  | [], _, _, _, _, _, e => by simp [lookF] at e
  | _ :: _, [], _, _, _, h, e => by simp [lookF] at e
  | m :: ns, d' :: ds, _, f, d, h, e => by
    cases h with
    | @cons v vs _ _ h1 h2 =>
      unfold lookF at e
      rw [List.zip_cons_cons, List.lookup_cons]
      by_cases q : f = m
      · rw [if_pos q] at e
        cases e
        have : (f == m) = true := by simp [q]
        rw [this]
        exact ⟨_, rfl, h1⟩
      · rw [if_neg q] at e
        have : (f == m) = false := by simp [q]
        rw [this]
        exact look_fld h2 e
theorem look_no : ∀ {ns : List Str} {xs : List V} {f : Str}, f ∉ ns → (ns.zip xs).lookup f = none
  | [], _, _, _ => rfl
  | _ :: _, [], _, _ => rfl
  | m :: ns, x :: xs, f, h => by
    rw [List.zip_cons_cons, List.lookup_cons]
    have : (f == m) = false := by
      simp only [beq_eq_false_iff_ne]
      exact fun e => h (e ▸ List.mem_cons_self)
    rw [this]
    exact look_no fun m => h (List.mem_cons_of_mem _ m)
/-- more objects alone -/
theorem Good.ext (g : Good K tp n G H) (h : ∀ b o, H b = some o → H' b = some o) : Good K tp n G H' ∧ Step tp G H G H' := by
  refine ⟨⟨fun b o q => h b o (g.sub b o q), g.gt, ?_⟩, Same.refl _, fun b o _ q => h b o q, fun b o _ q => q⟩
  obtain ⟨ca, s, l, t, cs, h1, h2⟩ := g.tape
  exact ⟨ca, s, l, t, cs, h _ _ h1, h2⟩
end
/-! ### what may raise -/
abbrev PSpX := List D → Nat → (D → Nat → Prop) → (Nat → Prop) → Prop
def spOfX (K : PySem.W.Frag) (CN : Addr) (sp : PSpX) : Sp := fun vs H Q E => ∃ tp n G ds P R, Good K tp n G H ∧ AtL K tp G vs ds ∧ sp ds n P R ∧ (∀ d n' v G' H', Good K tp n' G' H' → Step tp G H G' H' → At K tp G' v d → P d n' → Q v H') ∧
  ∀ n' d G' H', Good K tp n' G' H' → Step tp G H G' H' → R n' → E (.ref CN) d H'
structure HasX (P : Program) (w : World) (K : PySem.W.Frag) (mg : Str → Option Value) (base : Heap) (CN : Addr) (x : Str) (ps : List Str) (k : Nat) (sp : PSpX) : Prop where
  ex : ∃ f fd, FnOk P w K mg base (L2.CX P w) k f fd ps (spOfX K CN sp) ∧ mg x = some (.ref f) ∧ PySem.W.keepIn K (.ref f) = true ∧ Binds K fd ps []
/-- a method of the class at C -/
structure HasM (P : Program) (w : World) (K : PySem.W.Frag) (mg : Str → Option Value) (base : Heap) (C : Addr) (m : Str) (ps : List Str) (k : Nat) (sp : PSp) : Prop where
  ex : ∃ f fd, FnOk P w K mg base CX0 k f fd ps (spOf K sp) ∧ Meth K C m f ∧ Binds K fd ps []
structure HasMX (P : Program) (w : World) (K : PySem.W.Frag) (mg : Str → Option Value) (base : Heap) (CN C : Addr) (m : Str) (ps : List Str) (k : Nat) (sp : PSpX) : Prop where
  ex : ∃ f fd, FnOk P w K mg base (L2.CX P w) k f fd ps (spOfX K CN sp) ∧ Meth K C m f ∧ Binds K fd ps []
/-- a method's def, as it stands behind the top -/
structure DfM (K : PySem.W.Frag) (C : Addr) (m qual : Str) (st : Stmt) : Prop where
  ex : ∃ f fd, FunD K m qual (defArgs st) (defBody st) (defScope st) [] [] f fd ∧ Meth K C m f
/-- the class NoPaper -/
structure NoP (K : PySem.W.Frag) (mg : Str → Option Value) (CN : Addr) (stI : Stmt) : Prop where
  oex : OexC K CN
  glo : mg "NoPaper" = some (.ref CN)
  noP : PySem.W.findIn K (.ref CN) "path" = some none
  noW : PySem.W.findIn K (.ref CN) "word" = some none
  exm : PySem.W.exmOne K (.ref CN) (.ref CN) = some true
  ini : ∃ f fd, FunD K "__init__" "NoPaper.__init__" (defArgs stI) (defBody stI) (defScope stI) [] [] f fd ∧ PySem.W.findIn K (.ref CN) "__init__" = some (some (.ref f)) ∧ PySem.W.typeIn K (.ref f) = some (.type "function")
abbrev TrEX := Rho → Nat → (D → Nat → Prop) → (Nat → Prop) → Prop
abbrev TrSX := PEnds → (Rho → Nat → Prop) → Rho → Nat → Prop
structure PVX (X : Cx) (W : WX) (CN : Addr) (e : Expr) (T : TrEX) : Prop where
  ex : ∃ t, PE X e t ∧ ∀ (tp : Addr) (n : Nat) (G H : Hp) (σ : L2.St) (ρ : Rho) (P : D → Nat → Prop) (R : Nat → Prop) (Q : VK), Good X.K tp n G H → EnvAt X.K tp G H σ ρ → T ρ n P R →
    (∀ d n' v G' H', Good X.K tp n' G' H' → Step tp G H G' H' → At X.K tp G' v d → P d n' → Q v H') → (∀ n' d G' H', Good X.K tp n' G' H' → Step tp G H G' H' → R n' → W (.ref CN) d σ H') → t σ H Q
def Flies (K : PySem.W.Frag) (tp : Addr) (G0 H0 G : Hp) (W : WX) (CN : Addr) (R : Rho → Nat → Prop) : Prop := ∀ σ ρ n d G' H, Same G G' → Now K tp n G0 H0 G' H σ ρ → R ρ n → W (.ref CN) d σ H
theorem Flies.later {K : PySem.W.Frag} {tp : Addr} {G0 H0 G G1 : Hp} {W : WX} {CN : Addr} {R : Rho → Nat → Prop} (h : Flies K tp G0 H0 G W CN R) (s : Same G G1) : Flies K tp G0 H0 G1 W CN R := fun σ ρ n d G' H q w z => h σ ρ n d G' H (s.trans q) w z
def SndX (K : PySem.W.Frag) (W : WX) (CN : Addr) (t : TS) (S : TrSX) : Prop := ∀ (tp : Addr) (n : Nat) (G0 H0 G H : Hp) (σ : L2.St) (ρ : Rho) (E : PEnds) (R : Rho → Nat → Prop) (D' : Ends), Now K tp n G0 H0 G H σ ρ → S E R ρ n → Agr K tp G0 H0 G E D' →
  Flies K tp G0 H0 G W CN R → t D' σ H
structure PX1 (X : Cx) (W : WX) (CN : Addr) (st : Stmt) (S : TrSX) : Prop where
  ex : ∃ t, PS X st t ∧ SndX X.K W CN t S
structure PXs (X : Cx) (W : WX) (CN : Addr) (sts : List Stmt) (S : TrSX) : Prop where
  ex : ∃ t, PSs X sts t ∧ SndX X.K W CN t S
def canX (K : PySem.W.Frag) (W : WX) (CN : Addr) (S : TrSX) : TS := fun D' σ H => ∃ (tp : Addr) (n : Nat) (G0 H0 G : Hp) (ρ : Rho) (E : PEnds) (R : Rho → Nat → Prop), Now K tp n G0 H0 G H σ ρ ∧ S E R ρ n ∧ Agr K tp G0 H0 G E D' ∧ Flies K tp G0 H0 G W CN R
section
variable {X : Cx} {W : WX} {CN C : Addr} {K : PySem.W.Frag} {e o a b c : Expr} {es rest : List Expr} {st : Stmt} {sts s1 s2 : List Stmt} {Te Ta Tb Tc : TrE} {T U : TrT} {TR : TrA} {TX : TrEX} {S : TrS} {SX S1 S2 : TrSX} {pos p apos : Pos} {x m f : Str} {ps : List Str} {k j : Nat} {sp : PSp} {spx : PSpX}
theorem PXs.can (h : PXs X W CN sts SX) : PSs X sts (canX X.K W CN SX) := by
  obtain ⟨t, p1, q1⟩ := h.ex
  refine ⟨fun pins s σ H D I hh => ?_⟩
  obtain ⟨tp, n, G0, H0, G, ρ, E, R, w, h, k, fl⟩ := hh
  exact p1.run pins s σ H D I (q1 tp n G0 H0 G H σ ρ E R D w h k fl)
theorem xL (h : PSt X st S) : PX1 X W CN st (fun E _ => S E) := by
  obtain ⟨t, p1, q1⟩ := h.ex
  exact ⟨t, p1, fun tp n G0 H0 G H σ ρ E R D' w h k _ => q1 tp n G0 H0 G H σ ρ E D' w h k⟩
theorem xLs (h : PSts X sts S) : PXs X W CN sts (fun E _ => S E) := by
  obtain ⟨t, p1, q1⟩ := h.ex
  exact ⟨t, p1, fun tp n G0 H0 G H σ ρ E R D' w h k _ => q1 tp n G0 H0 G H σ ρ E D' w h k⟩
def XSeq (S1 S2 : TrSX) : TrSX := fun E R ρ n => S1 { E with nx := S2 E R } R ρ n
theorem xCons (h1 : PX1 X W CN st S1) (h2 : PXs X W CN sts S2) : PXs X W CN (st :: sts) (XSeq S1 S2) := by
  obtain ⟨t1, p1, q1⟩ := h1.ex
  obtain ⟨t2, p2, q2⟩ := h2.ex
  refine ⟨_, pss_cons p1 p2, fun tp n G0 H0 G H σ ρ E R D' w h k fl => ?_⟩
  refine q1 tp n G0 H0 G H σ ρ _ R _ w h ⟨fun σ' ρ' n' G' H' sg w' h' => ?_, k.rt, k.bk, k.ct⟩ fl
  exact q2 tp n' G0 H0 G' H' σ' ρ' E R D' w' h' (k.later sg) (fl.later sg)
theorem xOne (h1 : PX1 X W CN st S1) : PXs X W CN [st] S1 := by
  obtain ⟨t1, p1, q1⟩ := h1.ex
  exact ⟨_, pss_one p1, q1⟩
def XIf (T : TrT) (S1 S2 : TrSX) : TrSX := fun E R ρ n => T ρ n fun b n1 => if b = true then S1 E R ρ n1 else S2 E R ρ n1
theorem xIf (hc : PB X c T) (h1 : PXs X W CN s1 S1) (h2 : PXs X W CN s2 S2) : PX1 X W CN (.If c s1 s2 pos) (XIf T S1 S2) := by
  obtain ⟨tc, pc, qc⟩ := hc.ex
  obtain ⟨t1, p1, q1⟩ := h1.ex
  obtain ⟨t2, p2, q2⟩ := h2.ex
  refine ⟨_, ps_if pc p1 p2, fun tp n G0 H0 G H σ ρ E R D' w h k fl => ?_⟩
  refine qc tp n G H σ ρ _ _ w.good w.env h fun b n1 G1 H1 g1 st1 h1 => ?_
  have w1 := w.go g1 st1
  cases b with
  | true => exact iteT (q1 tp n1 G0 H0 G1 H1 σ ρ E R D' w1 h1 (k.later st1.gg) (fl.later st1.gg))
  | false => exact iteF (q2 tp n1 G0 H0 G1 H1 σ ρ E R D' w1 h1 (k.later st1.gg) (fl.later st1.gg))
def XRet (TX : TrEX) : TrSX := fun E R ρ n => TX ρ n E.rt (R ρ)
theorem xRet (h : PVX X W CN e TX) : PX1 X W CN (.Return (some e) pos) (XRet TX) := by
  obtain ⟨t, p1, q1⟩ := h.ex
  refine ⟨_, ps_ret p1, fun tp n G0 H0 G H σ ρ E R D' w h k fl => ?_⟩
  exact q1 tp n G H σ ρ _ _ _ w.good w.env h (fun d n' v G' H' g' s' a' h' => k.rt d n' v G' H' g' (w.step.trans w.good g' s') a' h') fun n' d G' H' g' s' h' => fl σ ρ n' d G' H' s'.gg (w.go g' s') h'
def XExp (TX : TrEX) : TrSX := fun E R ρ n => TX ρ n (fun _ n' => E.nx ρ n') (R ρ)
theorem xExp (h : PVX X W CN e TX) (hsw : swapsWith e none pos.line X.env = pure false := by rfl) : PX1 X W CN (.Expr e pos) (XExp TX) := by
  obtain ⟨t, p1, q1⟩ := h.ex
  refine ⟨_, ps_expr p1 hsw, fun tp n G0 H0 G H σ ρ E R D' w h k fl => ?_⟩
  refine q1 tp n G H σ ρ _ _ _ w.good w.env h (fun d n' v G' H' g' s' a' h' => k.nx σ ρ n' G' H' s'.gg (w.go g' s') h') fun n' d G' H' g' s' h' => fl σ ρ n' d G' H' s'.gg (w.go g' s') h'
/-- if e is True: -/
def XIfIs (TX : TrEX) (S1 S2 : TrSX) : TrSX := fun E R ρ n => TX ρ n (fun d n' => match d with
  | .bl b => if b = true then S1 E R ρ n' else S2 E R ρ n'
  | _ => False) (R ρ)
theorem xIfIs {jj} {p2 pos2 : Pos} (h : PVX X W CN e TX) (h1 : PXs X W CN s1 S1) (h2 : PXs X W CN s2 S2) : PX1 X W CN (.If (.Compare e [.Is] [.Constant (.bool true) jj p2] pos2) s1 s2 pos) (XIfIs TX S1 S2) := by
  obtain ⟨tc, pc, qc⟩ := h.ex
  obtain ⟨t1, p1, q1⟩ := h1.ex
  obtain ⟨t2, p2, q2⟩ := h2.ex
  refine ⟨_, ps_if (pt_cmpR op_is_bl pc pe_bl (nomark _)) p1 p2, fun tp n G0 H0 G H σ ρ E R D' w h k fl => ?_⟩
  refine qc tp n G H σ ρ _ _ _ w.good w.env h (fun d n1 v G1 H1 g1 st1 a1 h1 => ?_) fun n' d G' H' g' s' h' => fl σ ρ n' d G' H' s'.gg (w.go g' s') h'
  have w1 := w.go g1 st1
  split at h1
  · rename_i b
    refine ⟨b, true, a1.bl_, rfl, decide (b = true), rfl, ?_⟩
    cases b with
    | true => exact iteT (q1 tp n1 G0 H0 G1 H1 σ ρ E R D' w1 (by simpa using h1) (k.later st1.gg) (fl.later st1.gg))
    | false => exact iteF (q2 tp n1 G0 H0 G1 H1 σ ρ E R D' w1 (by simpa using h1) (k.later st1.gg) (fl.later st1.gg))
  · exact h1.elim
/-- o.f -/
def TFld (C : Addr) (f : Str) (Te : TrE) : TrE := fun ρ n P => Te ρ n fun d n1 => match d with
  | .obj C' ns ds => C' = C ∧ ∃ d, lookF ns ds f = some d ∧ P d n1
  | _ => False
theorem vFld (c : Cls X.K C) (na : NoAttr X.K C f) (h : PV X e Te) (hb : attributeBase e f X.env (eval e X.env) = eval e X.env := by rfl) : PV X (.Attribute e f pos) (TFld C f Te) := by
  obtain ⟨t, p1, q1⟩ := h.ex
  refine ⟨_, pe_fld p1 hb, fun tp n G H σ ρ P Q g ev h k => ?_⟩
  refine q1 tp n G H σ ρ _ _ g ev h fun y n1 v G1 H1 g1 s1 a1 h1 => ?_
  split at h1
  · obtain ⟨rfl, d, hd, h1⟩ := h1
    cases a1 with
    | obj b1 b2 =>
      obtain ⟨u, f1, f2⟩ := look_fld b2 hd
      exact ⟨_, _, _, _, u, rfl, g1.sub _ _ b1, c, na, f1, k _ _ _ _ _ g1 s1 f2 h1⟩
  · exact h1.elim
/-- o.m(..) -/
def TMeth (C : Addr) (m : Str) (sp : PSp) (Te : TrE) (TR : TrA) : TrE := fun ρ n P => Te ρ n fun d n1 => match d with
  | .obj C' ns ds => C' = C ∧ m ∉ ns ∧ TR ρ n1 fun es n2 => sp (.obj C' ns ds :: es) n2 P
  | _ => False
theorem vMeth (c : Cls X.K C) (F : HasM X.prog X.w X.K X.mg X.base C m ps k sp) (hr : Room j X.A) (h : PV X o Te) (ha : PVs X (e :: es) TR) (hj : k ≤ j := by decide)
    (hst : starEach (e :: es) X.env = (false, eval e X.env) :: starEach es X.env := by rfl) (hpl : (backTo pos (starEach es X.env)).any (·.1) = false := by rfl) {pl : Sem Bool}
    (ht : eval (.Call (.Attribute o m apos) (e :: es) [] pos) X.env = (do
      let ov ← eval o X.env
      standAt apos.atName
      let (f, first) ← holding [ov] (getMethod ov m pl)
      callWith pos f first (backTo pos (starEach (e :: es) X.env)) (backToKw pos (keywordEach [] X.env))) := by rfl) : PV X (.Call (.Attribute o m apos) (e :: es) [] pos) (TMeth C m sp Te TR) := by
  obtain ⟨t1, p1, q1⟩ := h.ex
  obtain ⟨t2, p2, q2⟩ := ha.ex
  obtain ⟨g, fd, F1, hm, hb⟩ := F.ex
  refine ⟨_, pe_meth p1 c hm F1 (hr.mono hj) hb .nil pass0 p2 hst hpl ht, fun tp n G H σ ρ P Q g ev h k => ?_⟩
  refine q1 tp n G H σ ρ _ _ g ev h fun y n1 v G1 H1 g1 s1 a1 h1 => ?_
  split at h1
  · obtain ⟨rfl, hm2, h1⟩ := h1
    cases a1 with
    | obj b1 b2 =>
      refine ⟨_, _, _, rfl, g1.sub _ _ b1, look_no hm2, ?_⟩
      refine q2 tp n1 G1 H1 σ ρ _ _ g1 (ev.step s1) h1 fun ds n2 vs G2 H2 g2 s2 a2 h2 => ?_
      rw [List.append_nil]
      refine ⟨tp, n2, G2, _, P, g2, .cons (At.mono s2.gg _ _ (.obj b1 b2)) a2, h2, fun d n' v G' H' g' s' a' h' => ?_⟩
      exact k d n' v G' H' g' ((s1.trans g1 g2 s2).trans g2 g' s') a' h'
  · exact h1.elim
def tMethW (C : Addr) (m : Str) (sp : Sp) (E : L2.St → XK) (ta : TE) (t : TA) : TE := fun σ H Q => ta σ H fun x H1 => ∃ a dx fs, x = .ref a ∧ H1 a = some (.ins C dx fs) ∧ fs.lookup m = none ∧ t σ H1 fun vs H2 => sp (x :: vs) H2 Q (E σ)
theorem pe_methW {CX : CXT} {g : Addr} {fd : FuncData} {spr : Sp} {E : L2.St → XK} {ta : TE} {t : TA} {pl : Sem Bool} (he : PE X o ta) (c : Cls X.K C) (hm : Meth X.K C m g) (F : FnOk X.prog X.w X.K X.mg X.base CX k g fd ps spr) (hr : Room k X.A) (hb : Binds X.K fd ps []) (hx : ∀ σ, PassesAt CX X σ (E σ)) (ha : PA X (e :: es) t)
    (hst : starEach (e :: es) X.env = (false, eval e X.env) :: starEach es X.env := by rfl) (hpl : (backTo pos (starEach es X.env)).any (·.1) = false := by rfl)
    (ht : eval (.Call (.Attribute o m apos) (e :: es) [] pos) X.env = (do
      let ov ← eval o X.env
      standAt apos.atName
      let (f, first) ← holding [ov] (getMethod ov m pl)
      callWith pos f first (backTo pos (starEach (e :: es) X.env)) (backToKw pos (keywordEach [] X.env))) := by rfl) :
    PE X (.Call (.Attribute o m apos) (e :: es) [] pos) (tMethW C m spr E ta t) := by
  refine ⟨fun pins s σ H Q I h => ?_⟩
  refine PySem.W.methodCall_KW (pl := pl) (thn (he.run pins s σ H _ I h) fun u s1 ⟨x, H1, I1, rx, a, dx, fs, ex, ea, l, q⟩ => ?_) ht
  cases ex
  obtain rfl : u = Value.ref a := rx
  refine getmeth_ok I1 ea c hm l ?_
  refine PySem.W.callWith_K (first := [.ref a]) (h₀ := X.base) I1.ok.mod.kin hm.kp (thn (ha.run pos pins s1 σ H1 _ I1 q) fun us s2 ⟨vs, H2, I2, r, q2⟩ => ⟨I2.kIn, ?_⟩) hst hpl
  exact run_fnS (us := .ref a :: us) (vs := .ref a :: vs) F hr hb (hx σ) I2 (.cons rfl r) q2
def XMeth (C : Addr) (m : Str) (spx : PSpX) (Te : TrE) (TR : TrA) : TrEX := fun ρ n P R => Te ρ n fun d n1 => match d with
  | .obj C' ns ds => C' = C ∧ m ∉ ns ∧ TR ρ n1 fun es n2 => spx (.obj C' ns ds :: es) n2 P R
  | _ => False
theorem xMeth (tk : Takes X W) (c : Cls X.K C) (F : HasMX X.prog X.w X.K X.mg X.base CN C m ps k spx) (hr : Room j X.A) (h : PV X o Te) (ha : PVs X (e :: es) TR) (hj : k ≤ j := by decide)
    (hst : starEach (e :: es) X.env = (false, eval e X.env) :: starEach es X.env := by rfl) (hpl : (backTo pos (starEach es X.env)).any (·.1) = false := by rfl) {pl : Sem Bool}
    (ht : eval (.Call (.Attribute o m apos) (e :: es) [] pos) X.env = (do
      let ov ← eval o X.env
      standAt apos.atName
      let (f, first) ← holding [ov] (getMethod ov m pl)
      callWith pos f first (backTo pos (starEach (e :: es) X.env)) (backToKw pos (keywordEach [] X.env))) := by rfl) : PVX X W CN (.Call (.Attribute o m apos) (e :: es) [] pos) (XMeth C m spx Te TR) := by
  obtain ⟨t1, p1, q1⟩ := h.ex
  obtain ⟨t2, p2, q2⟩ := ha.ex
  obtain ⟨g, fd, F1, hm, hb⟩ := F.ex
  refine ⟨_, pe_methW p1 c hm F1 (hr.mono hj) hb (fun σ => passAt tk σ) p2 hst hpl ht, fun tp n G H σ ρ P R Q g ev h k fl => ?_⟩
  refine q1 tp n G H σ ρ _ _ g ev h fun y n1 v G1 H1 g1 s1 a1 h1 => ?_
  split at h1
  · obtain ⟨rfl, hm2, h1⟩ := h1
    cases a1 with
    | obj b1 b2 =>
      refine ⟨_, _, _, rfl, g1.sub _ _ b1, look_no hm2, ?_⟩
      refine q2 tp n1 G1 H1 σ ρ _ _ g1 (ev.step s1) h1 fun ds n2 vs G2 H2 g2 s2 a2 h2 => ?_
      have s12 := s1.trans g1 g2 s2
      exact ⟨tp, n2, G2, _, P, R, g2, .cons (At.mono s2.gg _ _ (.obj b1 b2)) a2, h2, fun d n' v G' H' g' s' a' h' => k d n' v G' H' g' (s12.trans g2 g' s') a' h', fun n' d G' H' g' s' h' => fl n' d G' H' g' (s12.trans g2 g' s') h'⟩
  · exact h1.elim
def XCall (spx : PSpX) (TR : TrA) : TrEX := fun ρ n P R => TR ρ n fun ds n1 => spx ds n1 P R
theorem xCall (tk : Takes X W) (F : HasX X.prog X.w X.K X.mg X.base CN x ps k spx) (hr : Room j X.A) (ha : PVs X (e :: es) TR) (hj : k ≤ j := by decide) (hg : Gl X x := by rfl) (hdb : (x == ("__debug__" : Str)) = false := by decide)
    (he : starEach (e :: es) X.env = (false, eval e X.env) :: starEach es X.env := by rfl) (hpl : (backTo pos (starEach es X.env)).any (·.1) = false := by rfl) : PVX X W CN (.Call (.Name x p) (e :: es) [] pos) (XCall spx TR) := by
  obtain ⟨t, p1, q1⟩ := ha.ex
  obtain ⟨f, fd, F1, hm, hk, hb⟩ := F.ex
  refine ⟨_, pe_callS F1 (hr.mono hj) hg hm hk hb (fun σ => passAt tk σ) p1 hdb he hpl, fun tp n G H σ ρ P R Q g ev h k fl => ?_⟩
  refine q1 tp n G H σ ρ _ _ g ev h fun ds n1 vs G1 H1 g1 s1 a1 h1 => ?_
  exact ⟨tp, n1, G1, ds, P, R, g1, a1, h1, fun d n' v G' H' g' s' a' h' => k d n' v G' H' g' (s1.trans g1 g' s') a' h', fun n' d G' H' g' s' h' => fl n' d G' H' g' (s1.trans g1 g' s') h'⟩
/-- raise NoPaper(a, b) -/
def XRaise (TR : TrA) : TrSX := fun _ R ρ n => TR ρ n fun ds n1 => ds.length = 2 ∧ R ρ n1
def spN (K : PySem.W.Frag) (CN : Addr) : Sp := fun vs H Q _ => ∃ (a : Addr) (x y : V), vs = [.ref a, x, y] ∧ H a = some (exo a CN none) ∧ ∀ d, H d = none → d ≠ a → Q .non (upd (upd (upd H d (exd d [("path", x)])) a (exo a CN (some d))) d (exd d [("word", y), ("path", x)]))
theorem ok_noP {P : Program} {w : World} {mg : Str → Option Value} {base : Heap} {stI : Stmt} (N : NoP K mg CN stI) (hsI : stI = inClass (top 4) 0) :
    ∃ fI fd, FnOk P w K mg base CX0 1 fI fd ["self", "path", "word"] (spN K CN) ∧ PySem.W.findIn K (.ref CN) "__init__" = some (some (.ref fI)) ∧ PySem.W.typeIn K (.ref fI) = some (.type "function") ∧ Binds K fd ["self", "path", "word"] [] := by
  subst hsI
  obtain ⟨f, fd, F1, i1, i2⟩ := N.ini
  have scI : FnScope ["self", "path", "word"] ["self", "path", "word"] (defScope (inClass (top 4) 0)) := ⟨rfl, rfl, rfl, by decide +kernel, rfl, by decide +kernel, by decide +kernel⟩
  have bn : Binds K fd ["self", "path", "word"] [] := F1.bindsN fun _ _ _ _ _ _ us hl => match us, hl with | [_, _, _], _ => rfl
  refine ⟨f, fd, F1.ok scI (fun vs H Q E h => ?_) (fun cdv A outer s H vs Q E hr h => ⟨_, pss_cons (ps_ost (f := "path") (pe_var (i := 0) rfl (Or.inl rfl) (by decide) (by decide)) (pe_var (i := 1) rfl (Or.inl rfl) (by decide) (by decide))) (pss_one (ps_ost (f := "word") (pe_var (i := 0) rfl (Or.inl rfl) (by decide) (by decide)) (pe_var (i := 2) rfl (Or.inl rfl) (by decide) (by decide)))), ?_⟩), i1, i2, bn⟩
  · obtain ⟨a, x, y, rfl, _⟩ := h; rfl
  · obtain ⟨a, x, y, rfl, hH, q⟩ := h
    refine ⟨x, rfl, V.ref a, rfl, a, CN, rfl, N.oex, N.noP, .inl ⟨hH, fun dx hdx hne => ?_⟩⟩
    refine ⟨y, rfl, V.ref a, rfl, a, CN, rfl, N.oex, N.noW, .inr ⟨dx, [("path", x)], by rw [upd_same], by rw [upd_ne hne, upd_same], by simp, ?_⟩⟩
    exact q dx hdx hne
theorem xRaise {stI : Stmt} {p2 : Pos} (N : NoP X.K X.mg CN stI) (hsI : stI = inClass (top 4) 0)
    (tk : Takes X (fun cls d σ H => W cls d σ H)) (hr : Room 2 X.A) (ha : PVs X [a, b] TR) (hc : X.calm = true := by rfl) (hg : Gl X "NoPaper" := by rfl)
    (he : starEach [a, b] X.env = (false, eval a X.env) :: starEach [b] X.env := by rfl) (hpl : (backTo p2 (starEach [b] X.env)).any (·.1) = false := by rfl) :
    PX1 X W CN (.Raise (some (.Call (.Name "NoPaper" p) [a, b] [] p2)) none pos) (XRaise TR) := by
  obtain ⟨t, p1, q1⟩ := ha.ex
  obtain ⟨fI, fd, F1, i1, i2, bn⟩ := ok_noP (P := X.prog) (w := X.w) (base := X.base) N hsI
  refine ⟨_, ps_raise hc tk (pmk_oex N.oex i1 i2 F1 hr bn .nil pass0 hg N.glo p1 (by decide) he hpl), fun tp n G0 H0 G H σ ρ E R D' w h k fl => ?_⟩
  refine q1 tp n G H σ ρ _ _ w.good w.env h fun ds n1 vs G1 H1 g1 s1 a1 h1 => ?_
  obtain ⟨h2, hR⟩ := h1
  have hl : vs.length = 2 := by rw [a1.length]; exact h2
  match vs, hl with
  | [x, y], _ =>
    refine ⟨by simp, fun e hne => ⟨e, x, y, rfl, upd_same, fun d hd hde => ⟨rfl, d, _, ?_, upd_same, ?_, ?_⟩⟩⟩
    · rw [upd_ne (Ne.symm hde), upd_same]
    · rw [upd_ne hde] at hd; exact hd
    · have hd1 : H1 d = none := by rw [upd_ne hde] at hd; exact hd
      obtain ⟨g2, s2⟩ := g1.ext (H' := upd (del (upd (upd (upd (upd H1 e (exo e CN none)) d (exd d [("path", x)])) e (exo e CN (some d))) d (exd d [("word", y), ("path", x)])) e) d (.xd [("word", y), ("path", x)])) fun b o hb => by
        have be : b ≠ e := fun z => by subst z; rw [hne] at hb; cases hb
        have bd : b ≠ d := fun z => by subst z; rw [hd1] at hb; cases hb
        rw [upd_ne bd, del_ne be, upd_ne bd, upd_ne be, upd_ne bd, upd_ne be]
        exact hb
      exact fl σ ρ n1 (some d) G1 _ (s1.gg.trans s2.gg) ((w.go g1 s1).go g2 s2) hR
/-- try: .. except NoPaper: x = 'z' -/
def STry (i : Nat) (z : Str) (SX : TrSX) : TrS := fun E ρ n => SX E (fun ρ' n' => E.nx (ρ'.set i (.val (.str z))) n') ρ n
theorem sTry (i : Nat) {z y : Str} {jj} {p1 p2 p3 p4 : Pos} {body : List Stmt} (exm : PySem.W.exmOne X.K (.ref CN) (.ref CN) = some true) (glo : X.mg "NoPaper" = some (.ref CN)) (hs : X.stack = X.env :: X.outer) (hf : X.env.frame = some X.env.locals)
    (hN : X.N.Nodup) (hi : X.N[i]? = some y) (hx : X.env.scope.names.lookup y = some .local)
    (hsw : ∀ E : Env, swapsWith (.Constant (.str z) jj p1) (some (.Name y p2)) p3.line E = pure false)
    (hb : ∀ (W : WX) (pn : List (Addr × Obj)) (xe : Value → Shared → Prop), Takes (X.tr pn xe) W → PXs (X.tr pn xe) W CN body SX) (hg : Gl X "NoPaper" := by rfl) :
    PSt X (.Try body [.ExceptHandler (some (.Name "NoPaper" p)) none [.Assign [.Name y p2] (.Constant (.str z) jj p1) p3] p4] [] [] pos) (STry i z SX) := by
  refine ⟨_, ps_try_only (tb := fun W => canX X.K W CN SX) (ts := fun _ _ _ => tAsg (tC (.str z)) (gName i)) (Wout := fun _ _ _ _ => False) hs hf ⟨hg, by decide, Or.inl glo⟩ takes0 (fun W pn xe tk _ => (hb W pn xe tk).can) (fun _ _ _ _ _ _ _ => pss_one (ps_set hN hi (Or.inl hx) pe_str (hsw _) (Or.inr hx))), fun tp n G0 H0 G H σ ρ E D' w h k => ?_⟩
  refine ⟨tp, n, G0, H0, G, ρ, E, _, w, h, k, fun σ' ρ' n' d G' H' sg w' h' => ⟨true, exm, fun _ a _ => ?_, fun z => nomatch z⟩⟩
  exact k.nx _ _ n' G' H' sg (w'.set i (.str z)) h'
end
/-! ### defs -/
section
variable {P : Program} {w : World} {K : PySem.W.Frag} {mg : Str → Option Value} {base : Heap} {CN C : Addr}
theorem spOfX_len {sp : PSpX} {ps : List Str} (len : ∀ ds n P R, sp ds n P R → ds.length = ps.length) : ∀ vs H Q E, spOfX K CN sp vs H Q E → vs.length = ps.length := by
  rintro vs H Q E ⟨tp, n, G, ds, P, R, g, a, h, k⟩
  rw [a.length]; exact len ds n P R h
theorem bodyX_ok {sp : PSpX} {N : List Str} {S : TrSX} {t : TS} {vs : List V} {H : Hp} {Q : VK} {E : XK} (hS : SndX K (fun cls d _ H => E cls d H) CN t S) (h : ∀ ds n P R, sp ds n P R → S { nx := fun _ n' => P .non n', rt := P } (fun _ => R) (startR N ds) n) (hsp : spOfX K CN sp vs H Q E) :
    t { nx := fun _ H' => Q .non H', rt := Q } (L2.start N vs) H := by
  obtain ⟨tp, n, G, ds, P, R, g, a, h1, k, kx⟩ := hsp
  refine hS tp n G H G H _ _ _ _ _ ⟨g, Step.refl, env_start a, own_start⟩ (h ds n P R h1) ⟨fun σ ρ n' G' H' sg w' h' => ?_, fun d n' v G' H' g' s' a' h' => k d n' v G' H' g' s' a' h', fun _ _ _ _ _ _ _ h' => h'.elim, fun _ _ _ _ _ _ _ h' => h'.elim⟩ (fun σ ρ n' d G' H' _ w' h' => kx n' d G' H' w'.good w'.step h')
  exact k .non n' .non G' H' w'.good w'.step .non h'
theorem has_mkX {x : Str} {st : Stmt} {N ps : List Str} {k : Nat} {sp : PSpX} (F : Df K mg x st) (sc : FnScope N ps (defScope st))
    (hb : ∀ (kV doc pm : Value) (an : Option Addr) (cdv ct : Value) (us : List Value), us.length = ps.length → bindArgs (PySem.W.fnOf x x (defArgs st) (defBody st) (defScope st) .none kV doc pm an cdv ct) ⟨us, []⟩ = pure (ps.zip us))
    (len : ∀ ds n P R, sp ds n P R → ds.length = ps.length)
    (body : ∀ (f : Addr) (cdv : Value) (A : Around) (outer : List Env) (s : Shared) (H : Hp) (E : XK), Room k (A.deeper (envOfC x (defScope st) s.heap.objs.size f cdv)) →
      ∃ S, PXs (cxOf (L2.CX P w) P w K mg base N x (defScope st) f cdv A outer s H E) (fun cls d _ H => E cls d H) CN (defBody st) S ∧ ∀ ds n P R, sp ds n P R → S { nx := fun _ n' => P .non n', rt := P } (fun _ => R) (startR N ds) n) : HasX P w K mg base CN x ps (k + 1) sp := by
  obtain ⟨f, fd, F1, hm⟩ := F.ex
  have bn : Binds K fd ps [] := F1.bindsN hb
  refine ⟨f, fd, F1.ok sc (spOfX_len len) fun cdv A outer s H vs Q E hr hsp => ?_, hm, F1.kp, bn⟩
  obtain ⟨S, hS, h⟩ := body f cdv A outer s H E hr
  obtain ⟨t, h1, h2⟩ := hS.ex
  exact ⟨t, h1, bodyX_ok h2 h hsp⟩
theorem has_mkMX {m qual : Str} {st : Stmt} {N ps : List Str} {k : Nat} {sp : PSpX} (F : DfM K C m qual st) (sc : FnScope N ps (defScope st))
    (hb : ∀ (kV doc pm : Value) (an : Option Addr) (cdv ct : Value) (us : List Value), us.length = ps.length → bindArgs (PySem.W.fnOf m qual (defArgs st) (defBody st) (defScope st) .none kV doc pm an cdv ct) ⟨us, []⟩ = pure (ps.zip us))
    (len : ∀ ds n P R, sp ds n P R → ds.length = ps.length)
    (body : ∀ (f : Addr) (cdv : Value) (A : Around) (outer : List Env) (s : Shared) (H : Hp) (E : XK), Room k (A.deeper (envOfC qual (defScope st) s.heap.objs.size f cdv)) →
      ∃ S, PXs (cxOf (L2.CX P w) P w K mg base N qual (defScope st) f cdv A outer s H E) (fun cls d _ H => E cls d H) CN (defBody st) S ∧ ∀ ds n P R, sp ds n P R → S { nx := fun _ n' => P .non n', rt := P } (fun _ => R) (startR N ds) n) : HasMX P w K mg base CN C m ps (k + 1) sp := by
  obtain ⟨f, fd, F1, hm⟩ := F.ex
  have bn : Binds K fd ps [] := F1.bindsN hb
  refine ⟨f, fd, F1.ok sc (spOfX_len len) fun cdv A outer s H vs Q E hr hsp => ?_, hm, bn⟩
  obtain ⟨S, hS, h⟩ := body f cdv A outer s H E hr
  obtain ⟨t, h1, h2⟩ := hS.ex
  exact ⟨t, h1, bodyX_ok h2 h hsp⟩
theorem has_mkM {m qual : Str} {st : Stmt} {N ps : List Str} {k : Nat} {sp : PSp} (F : DfM K C m qual st) (sc : FnScope N ps (defScope st))
    (hb : ∀ (kV doc pm : Value) (an : Option Addr) (cdv ct : Value) (us : List Value), us.length = ps.length → bindArgs (PySem.W.fnOf m qual (defArgs st) (defBody st) (defScope st) .none kV doc pm an cdv ct) ⟨us, []⟩ = pure (ps.zip us))
    (len : ∀ ds n P, sp ds n P → ds.length = ps.length)
    (body : ∀ (f : Addr) (cdv : Value) (A : Around) (outer : List Env) (s : Shared) (H : Hp) (E : XK), Room k (A.deeper (envOfC qual (defScope st) s.heap.objs.size f cdv)) →
      ∃ S, PSts (cxOf CX0 P w K mg base N qual (defScope st) f cdv A outer s H E).nox (defBody st) S ∧ ∀ ds n P, sp ds n P → S { nx := fun _ n' => P .non n', rt := P } (startR N ds) n) : HasM P w K mg base C m ps (k + 1) sp := by
  obtain ⟨f, fd, F1, hm⟩ := F.ex
  have bn : Binds K fd ps [] := F1.bindsN hb
  refine ⟨f, fd, F1.ok sc (spOf_len len) fun cdv A outer s H vs Q E hr hsp => ?_, hm, bn⟩
  obtain ⟨S, hS, h⟩ := body f cdv A outer s H E hr
  obtain ⟨t, h1, h2⟩ := hS.ex
  exact ⟨t, h1.nox, body_ok h2 h hsp⟩
/-- no call: any bound -/
theorem hasMX_zero {m qual : Str} {st : Stmt} {ps : List Str} {sp : PSpX} (F : DfM K C m qual st)
    (hb : ∀ (kV doc pm : Value) (an : Option Addr) (cdv ct : Value) (us : List Value), us.length = ps.length → bindArgs (PySem.W.fnOf m qual (defArgs st) (defBody st) (defScope st) .none kV doc pm an cdv ct) ⟨us, []⟩ = pure (ps.zip us))
    (hn : ∀ ds n P R, ¬ sp ds n P R) (j : Nat) : HasMX P w K mg base CN C m ps j sp := by
  obtain ⟨f, fd, F1, hm⟩ := F.ex
  have bn : Binds K fd ps [] := F1.bindsN hb
  have no : ∀ vs H Q E, ¬ spOfX K CN sp vs H Q E := by
    rintro vs H Q E ⟨tp, n, G, ds, P, R, g, a, h, k⟩
    exact hn _ _ _ _ h
  exact ⟨f, fd, ⟨fun vs H Q E h => absurd h (no _ _ _ _), fun A outer s H args us vs Q E _ _ _ _ h => absurd h (no _ _ _ _)⟩, hm, bn⟩
end
end Pu

/-! W1: fractions. -/
namespace Pu
open PySem PySem.Spec PyProof.Rows L2
/-- a fraction -/
def fr (q : Rat) : D := .tup [.int q.num, .int q.den]
theorem low_fr (t : Int) (b : Nat) (hb : b ≠ 0) : D.tup [.int (t / ((t.natAbs.gcd b : Nat) : Int)), .int ((b : Int) / ((t.natAbs.gcd b : Nat) : Int))] = fr (mkRat t b) := by
  unfold fr mkRat
  rw [dif_neg hb, Rat.normalize_eq]
  rfl
def longOf (z : Str) : Option Int := if z = "to" then some 2 else if z = "from" then some 3 else if z = "round" then some 3 else none
def thingsOf (z : Str) : Option Int := if z = "take" then some 4 else if z = "many" then some 1 else if z = "few" then some 1 else if z = "over" then some 2 else if z = "lack" then some 2 else none
/-- the constants of the text -/
structure Cs (K : PySem.W.Frag) (w : World) (mg : Str → Option Value) : Prop where
  noughtX : ∃ a, mg "NOUGHT" = some (.ref a) ∧ ∀ tp G, At K tp G (.ref a) (fr 0)
  oneX : ∃ a, mg "ONE_fractions" = some (.ref a) ∧ ∀ tp G, At K tp G (.ref a) (fr 1)
  lookX : ∃ a, mg "ONE_looks" = some (.ref a) ∧ ∀ tp G, At K tp G (.ref a) (fr 1)
  looks : ∃ t, mg "MOST_LOOKS" = some (.int 3000 t)
  sets : ∃ t, mg "MOST_SETS" = some (.int 1000 t)
  longX : TabX K w mg "LONG" longOf
  thingsX : TabX K w mg "THINGS" thingsOf
theorem vGloX {X : Cx} {pos : Pos} {x : Str} {d : D} (h : ∃ a, X.mg x = some (.ref a) ∧ ∀ tp G, At X.K tp G (.ref a) d) (hg : Gl X x := by rfl) (hd : (x == ("__debug__" : Str)) = false := by decide) : PV X (.Name x pos) (TC d) := by
  obtain ⟨a, h1, h2⟩ := h
  exact vGlo h1 h2 hg hd
def isWhole : D → Bool
  | .int _ => true
  | _ => false
abbrev k_is_whole : Nat := 1
def sp_is_whole : PSp := fun ds n P => ∃ d, ds = [d] ∧ d.plain = true ∧ P (.bl (isWhole d)) n
abbrev k_shared : Nat := 1
def sp_shared : PSp := fun ds n P => ∃ a b : Int, ds = [.int a, .int b] ∧ 0 ≤ a ∧ 0 ≤ b ∧ P (.int (Int.gcd a b)) n
abbrev k_fraction : Nat := 2
def sp_fraction : PSp := fun ds n P => ∃ (t : Int) (b : Nat), ds = [.int t, .int b] ∧ 0 < b ∧ b < 1073741824 ∧ P (fr (mkRat t b)) n
abbrev k_less : Nat := 3
def sp_less : PSp := fun ds n P => ∃ p q : Rat, ds = [fr p, fr q] ∧ p.den * q.den < 1073741824 ∧ P (fr (p - q)) n
abbrev k_times : Nat := 3
def sp_times : PSp := fun ds n P => ∃ p q : Rat, ds = [fr p, fr q] ∧ p.den * q.den < 1073741824 ∧ CMul p.num q.num ∧ P (fr (p * q)) n
abbrev k_is_below : Nat := 1
def sp_is_below : PSp := fun ds n P => ∃ p q : Rat, ds = [fr p, fr q] ∧ p.den < 2 ^ 64 ∧ q.den < 2 ^ 64 ∧ P (.bl (decide (p < q))) n
abbrev k_from_nought : Nat := 2
def sp_from_nought : PSp := fun ds n P => ∃ p : Rat, ds = [fr p] ∧ p.den < 2 ^ 64 ∧ P (fr (if p < 0 then 0 else p)) n
theorem len_is_whole : ∀ ds n P, sp_is_whole ds n P → ds.length = (["thing"] : List Str).length := by rintro _ n P ⟨d, rfl, _⟩; rfl
theorem len_shared : ∀ ds n P, sp_shared ds n P → ds.length = (["one", "other"] : List Str).length := by rintro _ n P ⟨_, _, rfl, _⟩; rfl
theorem len_fraction : ∀ ds n P, sp_fraction ds n P → ds.length = (["top", "bottom"] : List Str).length := by rintro _ n P ⟨_, _, rfl, _⟩; rfl
theorem len_less : ∀ ds n P, sp_less ds n P → ds.length = (["one", "other"] : List Str).length := by rintro _ n P ⟨_, _, rfl, _⟩; rfl
theorem len_times : ∀ ds n P, sp_times ds n P → ds.length = (["one", "other"] : List Str).length := by rintro _ n P ⟨_, _, rfl, _⟩; rfl
theorem len_is_below : ∀ ds n P, sp_is_below ds n P → ds.length = (["one", "other"] : List Str).length := by rintro _ n P ⟨_, _, rfl, _⟩; rfl
theorem len_from_nought : ∀ ds n P, sp_from_nought ds n P → ds.length = (["one"] : List Str).length := by rintro _ n P ⟨_, rfl, _⟩; rfl
theorem cmul_r {i j : Int} (h0 : 0 ≤ j) (h : j < 2 ^ 64) : CMul i j := .inr ⟨by omega, h⟩
theorem gcd_mod {y x : Int} (hx : 0 ≤ x) (hy : 0 ≤ y) : Int.gcd y (x % y) = Int.gcd x y := by
  obtain ⟨X, rfl⟩ := Int.eq_ofNat_of_zero_le hx
  obtain ⟨Y, rfl⟩ := Int.eq_ofNat_of_zero_le hy
  rw [← Int.natCast_emod, Int.gcd_natCast_natCast, Int.gcd_natCast_natCast, Nat.gcd_comm X Y, Nat.gcd_rec Y X, Nat.gcd_comm]
section
variable {Pr : Program} {w : World} {K : PySem.W.Frag} {mg : Str → Option Value} {base : Heap}
abbrev s_is_whole : Stmt := top 8
theorem sc_is_whole : FnScope ["thing"] ["thing"] (defScope s_is_whole) := ⟨rfl, rfl, rfl, by decide +kernel, rfl, by decide +kernel, by decide +kernel⟩
theorem ok_is_whole (F0 : Df K mg "is_whole" s_is_whole) (B : Bt mg) (C : Cs K w mg)  : Has Pr w K mg base "is_whole" ["thing"] k_is_whole sp_is_whole := by
  have sc := sc_is_whole
  refine has_mk (k := _) F0 sc (fun _ _ _ _ _ _ us hl => match us, hl with | [_], _ => rfl) len_is_whole (fun f cdv A outer s H E hr => ⟨_,
    (bOne (sRet (vAnd (vIsi (T := "int") (by decide) B.isi B.int (vN 0)) (v1 (vNot (vIsi (T := "bool") (by decide) B.isi B.bool (vN 0))))))), ?_⟩)
  rintro _ n P ⟨d, rfl, hd, h⟩
  cases d <;> first | (simp [D.plain] at hd; done) | exact h
abbrev s_shared : Stmt := top 9
theorem sc_shared : FnScope ["one", "other"] ["one", "other"] (defScope s_shared) := ⟨rfl, rfl, rfl, by decide +kernel, rfl, by decide +kernel, by decide +kernel⟩
theorem ok_shared (F0 : Df K mg "shared" s_shared) (B : Bt mg) (C : Cs K w mg)  : Has Pr w K mg base "shared" ["one", "other"] k_shared sp_shared := by
  have sc := sc_shared
  refine has_mk (k := _) F0 sc (fun _ _ _ _ _ _ us hl => match us, hl with | [_, _], _ => rfl) len_shared (fun f cdv A outer s H E hr => ⟨_,
    (bCons (sWhile .never (bNe hr (vN 1) vI)
      (bOne (sPar 0 1 sc.nd (aCons (vN 1) (aCons (vMod (vN 0) (vN 1)) aNil)))))
    (bOne (sRet (vN 0)))), ?_⟩)
  rintro _ n P ⟨a, b, rfl, h0, h1, h⟩
  refine ⟨fun ρ n' => n' = n ∧ ∃ x y : Int, ρ = [.val (.int x), .val (.int y)] ∧ 0 ≤ x ∧ 0 ≤ y ∧ Int.gcd x y = Int.gcd a b, fun ρ _ => match ρ with
    | [_, .val (.int y)] => y.toNat
    | _ => 0, ⟨rfl, a, b, rfl, h0, h1, rfl⟩, ?_⟩
  rintro ρ n' ⟨rfl, x, y, rfl, hx, hy, hg⟩
  show if (!decide (y = 0)) = true then _ else _
  refine ite2 (fun hb => ?_) (fun hb => ?_)
  · have hy0 : y ≠ 0 := by simpa using hb
    have hy1 : 0 < y := by omega
    refine ⟨hy1, ⟨rfl, y, x % y, rfl, hy, Int.emod_nonneg _ hy0, ?_⟩, ?_⟩
    · rw [← hg]; exact gcd_mod hx hy
    · show (x % y).toNat < y.toNat
      have := Int.emod_lt_of_pos x hy1
      have := Int.emod_nonneg x hy0
      omega
  · have hy0 : y = 0 := by simpa using hb
    subst hy0
    show P (.int x) n'
    have e : ((Int.gcd a b : Nat) : Int) = x := by rw [← hg, Int.gcd_zero_right]; omega
    rw [← e]; exact h
abbrev s_fraction : Stmt := top 11
theorem sc_fraction : FnScope ["top", "bottom", "by"] ["top", "bottom"] (defScope s_fraction) := ⟨rfl, rfl, rfl, by decide +kernel, rfl, by decide +kernel, by decide +kernel⟩
theorem ok_fraction (F0 : Df K mg "fraction" s_fraction) (B : Bt mg) (C : Cs K w mg) (h_shared : Has Pr w K mg base "shared" ["one", "other"] k_shared sp_shared) : Has Pr w K mg base "fraction" ["top", "bottom"] k_fraction sp_fraction := by
  have sc := sc_fraction
  refine has_mk (k := _) F0 sc (fun _ _ _ _ _ _ us hl => match us, hl with | [_, _], _ => rfl) len_fraction (fun f cdv A outer s H E hr => ⟨_,
    (bCons (sIf (bEq hr (vN 1) vI)
      (bOne sNo)
      bNil)
    (bCons (sSet 2 sc.nd (vCall h_shared hr (aCons (vAbs B.abs (aCons (vN 0) aNil)) (aCons (vAbs B.abs (aCons (vN 1) aNil)) aNil))))
    (bCons (sIf (bLt (vN 1) vI)
      (bOne (sSet 2 sc.nd (vNeg (vN 2))))
      bNil)
    (bOne (sRet (vTup (aCons (vDiv (vN 0) (vN 2)) (aCons (vDiv (vN 1) (vN 2)) aNil)))))))), ?_⟩)
  rintro _ n P ⟨t, b, rfl, h0, h1, h⟩
  have hb : ¬ ((b : Int) = 0) := by omega
  show if decide ((b : Int) = 0) = true then _ else _
  refine ite2 (fun q => absurd (by simpa using q) hb) (fun _ => ?_)
  have ea : (if t < 0 then -t else t) = (t.natAbs : Int) := by split <;> omega
  have eb : (if (b : Int) < 0 then -(b : Int) else (b : Int)) = (b : Int) := by split <;> omega
  refine ⟨_, _, rfl, by rw [ea]; omega, by rw [eb]; omega, ?_⟩
  rw [ea, eb]
  have hg : 0 < Int.gcd (t.natAbs : Int) b := by
    refine Nat.pos_of_ne_zero fun e => ?_
    have := (Int.gcd_eq_zero_iff.mp e).2
    omega
  have hg2 : Int.gcd (t.natAbs : Int) b ≤ b := Nat.le_of_dvd h0 (by have := Int.gcd_dvd_right (a := (t.natAbs : Int)) (b := (b : Int)); exact_mod_cast this)
  refine ⟨⟨by omega, by omega⟩, ⟨by omega, by omega⟩, (by show 2 ≤ sizeLine; decide), ?_⟩
  have e : Int.gcd (t.natAbs : Int) b = t.natAbs.gcd b := rfl
  rw [e]
  have q := low_fr t b (by omega)
  rw [q]
  exact h
abbrev s_less : Stmt := top 13
theorem sc_less : FnScope ["one", "other"] ["one", "other"] (defScope s_less) := ⟨rfl, rfl, rfl, by decide +kernel, rfl, by decide +kernel, by decide +kernel⟩
theorem ok_less (F0 : Df K mg "less" s_less) (B : Bt mg) (C : Cs K w mg) (h_fraction : Has Pr w K mg base "fraction" ["top", "bottom"] k_fraction sp_fraction) : Has Pr w K mg base "less" ["one", "other"] k_less sp_less := by
  have sc := sc_less
  refine has_mk (k := _) F0 sc (fun _ _ _ _ _ _ us hl => match us, hl with | [_, _], _ => rfl) len_less (fun f cdv A outer s H E hr => ⟨_,
    (bOne (sRet (vCall h_fraction hr (aCons (vSub (vMul (vIx (vN 0) vI) (vIx (vN 1) vI)) (vMul (vIx (vN 1) vI) (vIx (vN 0) vI))) (aCons (vMul (vIx (vN 0) vI) (vIx (vN 1) vI)) aNil))))), ?_⟩)
  rintro _ n P ⟨p, q, rfl, hd, h⟩
  have hp := p.den_pos
  have hq := q.den_pos
  have p1 : p.den ≤ p.den * q.den := Nat.le_mul_of_pos_right _ hq
  have q1 : q.den ≤ p.den * q.den := Nat.le_mul_of_pos_left _ hp
  refine ⟨_, rfl, _, rfl, cmul_r (by omega) (by omega), _, rfl, _, rfl, cmul_r (by omega) (by omega), _, rfl, _, rfl, cmul_r (by omega) (by omega), ?_⟩
  refine ⟨_, p.den * q.den, by rw [Int.natCast_mul], Nat.mul_pos hp hq, hd, ?_⟩
  have e : mkRat (p.num * q.den - q.num * p.den) (p.den * q.den) = p - q := by
    rw [Rat.sub_def, Rat.normalize_eq_mkRat]
  rw [e]; exact h
abbrev s_times : Stmt := top 14
theorem sc_times : FnScope ["one", "other"] ["one", "other"] (defScope s_times) := ⟨rfl, rfl, rfl, by decide +kernel, rfl, by decide +kernel, by decide +kernel⟩
theorem ok_times (F0 : Df K mg "times" s_times) (B : Bt mg) (C : Cs K w mg) (h_fraction : Has Pr w K mg base "fraction" ["top", "bottom"] k_fraction sp_fraction) : Has Pr w K mg base "times" ["one", "other"] k_times sp_times := by
  have sc := sc_times
  refine has_mk (k := _) F0 sc (fun _ _ _ _ _ _ us hl => match us, hl with | [_, _], _ => rfl) len_times (fun f cdv A outer s H E hr => ⟨_,
    (bOne (sRet (vCall h_fraction hr (aCons (vMul (vIx (vN 0) vI) (vIx (vN 1) vI)) (aCons (vMul (vIx (vN 0) vI) (vIx (vN 1) vI)) aNil))))), ?_⟩)
  rintro _ n P ⟨p, q, rfl, hd, hm, h⟩
  have hp := p.den_pos
  have hq := q.den_pos
  have p1 : p.den ≤ p.den * q.den := Nat.le_mul_of_pos_right _ hq
  have q1 : q.den ≤ p.den * q.den := Nat.le_mul_of_pos_left _ hp
  refine ⟨_, rfl, _, rfl, hm, _, rfl, _, rfl, cmul_r (by omega) (by omega), ?_⟩
  refine ⟨_, p.den * q.den, by rw [Int.natCast_mul], Nat.mul_pos hp hq, hd, ?_⟩
  have e : mkRat (p.num * q.num) (p.den * q.den) = p * q := by
    rw [Rat.mul_def, Rat.normalize_eq_mkRat]
  rw [e]; exact h
abbrev s_is_below : Stmt := top 15
theorem sc_is_below : FnScope ["one", "other"] ["one", "other"] (defScope s_is_below) := ⟨rfl, rfl, rfl, by decide +kernel, rfl, by decide +kernel, by decide +kernel⟩
theorem ok_is_below (F0 : Df K mg "is_below" s_is_below) (B : Bt mg) (C : Cs K w mg)  : Has Pr w K mg base "is_below" ["one", "other"] k_is_below sp_is_below := by
  have sc := sc_is_below
  refine has_mk (k := _) F0 sc (fun _ _ _ _ _ _ us hl => match us, hl with | [_, _], _ => rfl) len_is_below (fun f cdv A outer s H E hr => ⟨_,
    (bOne (sRet (vLt (vMul (vIx (vN 0) vI) (vIx (vN 1) vI)) (vMul (vIx (vN 1) vI) (vIx (vN 0) vI))))), ?_⟩)
  rintro _ n P ⟨p, q, rfl, hp, hq, h⟩
  refine ⟨_, rfl, _, rfl, cmul_r (by omega) (by omega), _, rfl, _, rfl, cmul_r (by omega) (by omega), ?_⟩
  have e : decide (p.num * q.den < q.num * p.den) = decide (p < q) := decide_eq_decide.mpr (Rat.lt_iff p q).symm
  show P (.bl (decide (p.num * q.den < q.num * p.den))) n
  rw [e]; exact h
abbrev s_from_nought : Stmt := top 23
theorem sc_from_nought : FnScope ["one"] ["one"] (defScope s_from_nought) := ⟨rfl, rfl, rfl, by decide +kernel, rfl, by decide +kernel, by decide +kernel⟩
theorem ok_from_nought (F0 : Df K mg "from_nought" s_from_nought) (B : Bt mg) (C : Cs K w mg) (h_is_below : Has Pr w K mg base "is_below" ["one", "other"] k_is_below sp_is_below) : Has Pr w K mg base "from_nought" ["one"] k_from_nought sp_from_nought := by
  have sc := sc_from_nought
  refine has_mk (k := _) F0 sc (fun _ _ _ _ _ _ us hl => match us, hl with | [_], _ => rfl) len_from_nought (fun f cdv A outer s H E hr => ⟨_,
    (bOne (sRet (vIf (bVal (vCall h_is_below hr (aCons (vN 0) (aCons (vGloX C.noughtX) aNil)))) (vGloX C.noughtX) (vN 0)))), ?_⟩)
  rintro _ n P ⟨p, rfl, hp, h⟩
  refine ⟨p, 0, rfl, hp, by decide, ?_⟩
  show if decide (p < 0) = true then P (fr 0) n else P (fr p) n
  by_cases hq : p < 0
  · rw [if_pos hq] at h
    simpa [hq] using h
  · rw [if_neg hq] at h
    simpa [hq] using h
end
end Pu

/-! W2: sides, boxes, sizes, what lies in a box. -/
namespace Pu
open PySem PySem.Spec PyProof.Rows L2
/-- data of a paper -/
def OkT : Nat → D → Prop
  | 0, _ => False
  | _ + 1, .non => True
  | _ + 1, .bl _ => True
  | _ + 1, .int i => -1000 ≤ i ∧ i ≤ 1000
  | _ + 1, .str x => PyData.strOk x = true
  | k + 1, .tup ds => ds.length ≤ 8 ∧ ∀ d ∈ ds, OkT k d
  | k + 1, .lst ds => ds.length ≤ 8 ∧ ∀ d ∈ ds, OkT k d
  | _ + 1, _ => False
theorem plainL_of : ∀ ds : List D, (∀ d ∈ ds, d.plain = true) → plainL ds = true
  | [], _ => rfl
  | d :: ds, h => by
    show (d.plain && plainL ds) = true
    rw [h d List.mem_cons_self, plainL_of ds fun x hx => h x (List.mem_cons_of_mem _ hx)]
    rfl
theorem OkT.plain : ∀ {k : Nat} {d : D}, OkT k d → d.plain = true
  | _ + 1, .non, _ => rfl
  | _ + 1, .bl _, _ => rfl
  | _ + 1, .int _, _ => rfl
  | _ + 1, .str _, _ => rfl
  | _ + 1, .tup ds, h => plainL_of ds fun d hd => OkT.plain (h.2 d hd)
  | _ + 1, .lst ds, h => plainL_of ds fun d hd => OkT.plain (h.2 d hd)
  | 0, _, h => h.elim
theorem OkT.mono : ∀ {k j : Nat} {d : D}, OkT k d → k ≤ j → OkT j d
  | k + 1, j + 1, .non, _, _ => trivial
  | k + 1, j + 1, .bl _, _, _ => trivial
  | k + 1, j + 1, .int _, h, _ => h
  | k + 1, j + 1, .str _, h, _ => h
  | k + 1, j + 1, .tup ds, h, q => ⟨h.1, fun d hd => OkT.mono (h.2 d hd) (by omega)⟩
  | k + 1, j + 1, .lst ds, h, q => ⟨h.1, fun d hd => OkT.mono (h.2 d hd) (by omega)⟩
  | 0, _, _, h, _ => h.elim
  | _ + 1, 0, _, _, q => by omega
theorem sz8 {n : Nat} (h : n ≤ 8) : n ≤ sizeLine := by
  have : (8 : Nat) ≤ sizeLine := by decide
  omega
theorem ite1 {c : Prop} [Decidable c] {α : Type} {P : α → Prop} {a b : α} (h1 : c → P a) (h2 : ¬ c → P b) : P (if c then a else b) := by
  by_cases h : c
  · rw [if_pos h]; exact h1 h
  · rw [if_neg h]; exact h2 h
theorem at0 {a : D} {l : List D} : atI (a :: l) 0 = some a := by simp [atI, ixN]
theorem at1 {a b : D} {l : List D} : atI (a :: b :: l) 1 = some b := by
  have e : (1 : Int) < (l.length : Int) + 1 + 1 := by omega
  simp [atI, ixN, e]
theorem at2 {a b c : D} {l : List D} : atI (a :: b :: c :: l) 2 = some c := by
  have e : (2 : Int) < (l.length : Int) + 1 + 1 + 1 := by omega
  simp [atI, ixN, e]
theorem at3 {a b c d : D} {l : List D} : atI (a :: b :: c :: d :: l) 3 = some d := by
  have e : (3 : Int) < (l.length : Int) + 1 + 1 + 1 + 1 := by omega
  simp [atI, ixN, e]
theorem lc_bl {g : TrG} {Te : TrE} {vs : List Nat} {ρ : Rho} {n : Nat} {P : D → Nat → Prop} {ds : List D} (p : D → Bool) (hz : ds.length ≤ sizeLine)
    (hs : ∀ d ∈ ds, ∀ Q : D → Nat → Prop, Q (.bl (p d)) n → g d (wipeR ρ vs) fun ρ2 => Te ρ2 n Q)
    (h : P (.bl (ds.all p)) n) : LcTail g TYes Te vs ds ρ n fun acc n' => ∃ bs : List Bool, acc = bs.map D.bl ∧ P (.bl (bs.all fun b => b)) n' :=
  lc_map (fun d => .bl (p d)) hz hs ⟨ds.map p, by rw [List.map_map]; rfl, by rw [List.all_map]; exact h⟩
theorem lc_filtF {α : Type} {g : TrG} {Tt : TrT} {Te : TrE} {vs : List Nat} {ρ : Rho} {n : Nat} {P : List D → Nat → Prop} (l : List α) (ι : α → D) (p : α → Bool) (f : α → D) (hz : l.length ≤ sizeLine)
    (hs : ∀ a ∈ l, ∀ (Q : D → Nat → Prop) (Q0 : Nat → Prop), (p a = true → Q (f a) n) → (p a = false → Q0 n) → g (ι a) (wipeR ρ vs) fun ρ2 => Tt ρ2 n fun b n2 => if b = true then Te ρ2 n2 Q else Q0 n2)
    (h : P ((l.filter p).map f) n) : LcTail g Tt Te vs (l.map ι) ρ n P := by
  refine ⟨fun i acc n' => n' = n ∧ acc = ((l.take i).filter p).map f, ⟨rfl, rfl⟩, ?_, ?_⟩
  · rintro i d acc n' hd ⟨rfl, rfl⟩
    rw [List.getElem?_map] at hd
    obtain ⟨a, ha, rfl⟩ := Option.map_eq_some_iff.mp hd
    have hi := (List.getElem?_eq_some_iff.mp ha).1
    have e : l.take (i + 1) = l.take i ++ [a] := by rw [List.take_add_one, ha]; rfl
    refine hs a (List.mem_of_getElem? ha) _ _ (fun hp => ⟨?_, rfl, ?_⟩) (fun hp => ⟨rfl, ?_⟩)
    · have h1 : (((l.take i).filter p).map f).length ≤ i := by
        rw [List.length_map]
        exact Nat.le_trans (List.length_filter_le _ _) (by rw [List.length_take]; omega)
      omega
    · rw [e, List.filter_append, List.map_append, List.filter_cons_of_pos hp]; rfl
    · rw [e, List.filter_append, List.filter_cons_of_neg (by rw [hp]; exact Bool.false_ne_true)]
      simp
  · rintro acc n' ⟨rfl, rfl⟩
    rw [List.length_map, List.take_length]
    exact h
theorem lc_mapF {α : Type} {g : TrG} {Te : TrE} {vs : List Nat} {ρ : Rho} {n : Nat} {P : List D → Nat → Prop} (l : List α) (ι : α → D) (f : α → D) (hz : l.length ≤ sizeLine)
    (hs : ∀ a ∈ l, ∀ Q : D → Nat → Prop, Q (f a) n → g (ι a) (wipeR ρ vs) fun ρ2 => Te ρ2 n Q) (h : P (l.map f) n) : LcTail g TYes Te vs (l.map ι) ρ n P := by
  refine ⟨fun i acc n' => n' = n ∧ acc = (l.take i).map f, ⟨rfl, rfl⟩, ?_, ?_⟩
  · rintro i d acc n' hd ⟨rfl, rfl⟩
    rw [List.getElem?_map] at hd
    obtain ⟨a, ha, rfl⟩ := Option.map_eq_some_iff.mp hd
    have hi := (List.getElem?_eq_some_iff.mp ha).1
    refine hs a (List.mem_of_getElem? ha) (fun y n3 => ((l.take i).map f).length < sizeLine ∧ n3 = n' ∧ (l.take i).map f ++ [y] = (l.take (i + 1)).map f) ⟨?_, rfl, ?_⟩
    · rw [List.length_map, List.length_take]; omega
    · rw [List.take_add_one, ha, List.map_append]; rfl
  · rintro acc n' ⟨rfl, rfl⟩
    rw [List.length_map, List.take_length]
    exact h
theorem lc_blF {α : Type} {g : TrG} {Te : TrE} {vs : List Nat} {ρ : Rho} {n : Nat} {P : D → Nat → Prop} (l : List α) (ι : α → D) (p : α → Bool) (hz : l.length ≤ sizeLine)
    (hs : ∀ a ∈ l, ∀ Q : D → Nat → Prop, Q (.bl (p a)) n → g (ι a) (wipeR ρ vs) fun ρ2 => Te ρ2 n Q)
    (h : P (.bl (l.all p)) n) : LcTail g TYes Te vs (l.map ι) ρ n fun acc n' => ∃ bs : List Bool, acc = bs.map D.bl ∧ P (.bl (bs.all fun b => b)) n' :=
  lc_mapF l ι (fun a => .bl (p a)) hz hs ⟨l.map p, by rw [List.map_map]; rfl, by rw [List.all_map]; exact h⟩
theorem okT_key {k : Nat} {ks : List Int} : ¬ OkT k (.key ks) := by
  cases k <;> exact fun h => h
theorem cut1 {α : Type} {a : α} {l : List α} : cutD (a :: l) (some 1) none = l := by
  have e : HT.sIx (a :: l).length 0 (some 1) = 1 := by
    simp [HT.sIx]
  have e2 : HT.sIx (a :: l).length (a :: l).length none = l.length + 1 := by simp [HT.sIx]
  unfold cutD
  rw [e, e2]
  simp
theorem okT_at : ∀ {k : Nat} {ds : List D}, OkT k (.tup ds) → ds.length ≤ 8 ∧ ∀ d ∈ ds, OkT (k - 1) d
  | 0, _, h => h.elim
  | _ + 1, _, h => h
/-- the cases of a paper's datum -/
theorem okT_cases {C : D → Prop} {k : Nat} {d : D} (h : OkT k d) (non : C .non) (bl : ∀ b, C (.bl b)) (int : ∀ i, -1000 ≤ i → i ≤ 1000 → C (.int i)) (str : ∀ x, C (.str x)) (tup : ∀ ds, OkT k (.tup ds) → C (.tup ds)) (lst : ∀ ds, OkT k (.lst ds) → C (.lst ds)) : C d := by
  cases k with
  | zero => exact h.elim
  | succ k =>
    cases d with
    | non => exact non
    | bl b => exact bl b
    | int i => exact int i h.1 h.2
    | str x => exact str x
    | tup ds => exact tup ds h
    | lst ds => exact lst ds h
    | key _ => exact h.elim
    | tape => exact h.elim
    | obj _ _ _ => exact h.elim
    | tab _ _ => exact h.elim
    | raw _ => exact h.elim
def fracB : D → D → Bool
  | .int a, .int b => decide (1 ≤ b) && decide (Int.gcd a b = 1)
  | _, _ => false
def isFrac : D → Bool
  | .tup [a, b] => fracB a b
  | _ => false
def edgeB : D → D → Bool
  | .int a, .int b => decide (-b ≤ a) && decide (a ≤ b)
  | _, _ => false
def isEdge : D → Bool
  | .tup [a, b] => fracB a b && edgeB a b
  | _ => false
def sideB (r : List D) : D → Bool
  | .str z => decide ((longOf z).getD 0 = (r.length : Int) + 1) && r.all isEdge
  | _ => false
def isSide : D → Bool
  | .tup (a :: r) => sideB r a
  | _ => false
theorem fracB_int {a b : D} (h : fracB a b = true) : ∃ i j : Int, a = .int i ∧ b = .int j ∧ 1 ≤ j ∧ Int.gcd i j = 1 := by
  unfold fracB at h
  split at h
  · simp only [Bool.and_eq_true, decide_eq_true_eq] at h
    exact ⟨_, _, rfl, rfl, h.1, h.2⟩
  · cases h
def isBox (s : Int) : D → Bool
  | .tup ds => decide ((ds.length : Int) = s) && ds.all isSide
  | _ => false
def toB : D → Bool
  | .str z => decide (z = "to")
  | _ => false
def isTo : D → Bool
  | .tup (a :: _) => toB a
  | _ => false
def isCorner (s : Int) (d : D) : Bool := isBox s d && match d with
  | .tup ds => ds.all isTo
  | _ => false
/-- points and boxes -/
def ptD (xs : List Rat) : D := .tup (xs.map fr)
def sideD (q : Rat) : D := .tup [.str "to", fr q]
def boxD (qs : List Rat) : D := .tup (qs.map sideD)
theorem fr_eq {x q : Rat} : (x.num = q.num ∧ (x.den : Int) = q.den) ↔ x = q :=
  ⟨fun ⟨a, b⟩ => Rat.ext a (Int.ofNat.inj b), fun h => by subst h; exact ⟨rfl, rfl⟩⟩
def unfr : D → Rat
  | .tup [.int a, .int b] => mkRat a b.toNat
  | _ => 0
theorem unfr_fr (q : Rat) : unfr (fr q) = q := Rat.mkRat_self q
def ahead (x q : Rat) (way : Str) : Bool := decide (x < q) || (decide (x = q) && decide (way = "shut"))
def inB (xs qs : List Rat) (way : Str) : Bool := (xs.zip qs).all fun p => ahead p.1 p.2 way
def up0 (q : Rat) : Rat := if q < 0 then 0 else q
def sizeQ (qs : List Rat) : Rat := qs.foldl (fun f q => f * up0 q) 1
/-- an edge that may be written -/
structure Ed (q : Rat) : Prop where
  lo : -1 ≤ q
  hi : q ≤ 1
  den : q.den ≤ 1000
def cntB (pts : List (List Rat)) (qs : List Rat) (way : Str) : Nat := (pts.filter fun xs => inB xs qs way).length
def overQ (pts : List (List Rat)) (qs : List Rat) : Rat := mkRat (cntB pts qs "shut") pts.length - sizeQ qs
def lackQ (pts : List (List Rat)) (qs : List Rat) : Rat := sizeQ qs - mkRat (cntB pts qs "open") pts.length
/-- points that may be handed in -/
structure OkPts (pts : List (List Rat)) : Prop where
  ne : pts ≠ []
  len : pts.length ≤ 8
  den : ∀ xs ∈ pts, ∀ x ∈ xs, x.den ≤ 1000
structure OkBox (qs : List Rat) : Prop where
  len : qs.length ≤ 2
  ed : ∀ q ∈ qs, Ed q
theorem up0_bds {q : Rat} (h : Ed q) : 0 ≤ up0 q ∧ up0 q ≤ 1 ∧ (up0 q).den ≤ 1000 := by
  unfold up0
  split
  · exact ⟨by decide, by decide, by decide⟩
  · rename_i hq
    exact ⟨Rat.not_lt.mp hq, h.hi, h.den⟩
theorem num_le_den {q : Rat} (h0 : 0 ≤ q) (h1 : q ≤ 1) : 0 ≤ q.num ∧ q.num ≤ q.den := by
  refine ⟨Rat.num_nonneg.mpr h0, ?_⟩
  have := (Rat.le_iff q 1).mp h1
  simpa using this
theorem mul_bds {p q : Rat} (p0 : 0 ≤ p) (p1 : p ≤ 1) (q0 : 0 ≤ q) (q1 : q ≤ 1) : 0 ≤ p * q ∧ p * q ≤ 1 := by
  refine ⟨Rat.mul_nonneg p0 q0, ?_⟩
  have h1 : p * q ≤ 1 * q := Rat.mul_le_mul_of_nonneg_right p1 q0
  rw [Rat.one_mul] at h1
  exact Rat.le_trans h1 q1
theorem mul_den (p q : Rat) : (p * q).den ≤ p.den * q.den := by
  rw [Rat.mul_def, Rat.normalize_eq]
  exact Nat.div_le_self _ _
structure Fine (f : Rat) (b : Nat) : Prop where
  lo : 0 ≤ f
  hi : f ≤ 1
  den : f.den ≤ b
theorem Fine.mul {f g : Rat} {b c : Nat} (h : Fine f b) (k : Fine g c) : Fine (f * g) (b * c) := by
  obtain ⟨h1, h2⟩ := mul_bds h.lo h.hi k.lo k.hi
  exact ⟨h1, h2, Nat.le_trans (mul_den f g) (Nat.mul_le_mul h.den k.den)⟩
theorem sizeQ_take {qs : List Rat} (h : OkBox qs) : ∀ i, i ≤ qs.length → Fine ((qs.take i).foldl (fun f q => f * up0 q) 1) (1000 ^ i)
  | 0, _ => ⟨by simp; decide, by simp, by simp⟩
  | i + 1, hi => by
    have e : qs.take (i + 1) = qs.take i ++ [qs[i]] := by
      rw [List.take_add_one, List.getElem?_eq_getElem (by omega)]; rfl
    rw [e, List.foldl_append]
    obtain ⟨a, b, c⟩ := up0_bds (h.ed qs[i] (List.getElem_mem _))
    rw [Nat.pow_succ]
    exact (sizeQ_take h i (by omega)).mul ⟨a, b, c⟩
theorem sizeQ_fine {qs : List Rat} (h : OkBox qs) : Fine (sizeQ qs) 1000000 := by
  have := sizeQ_take h qs.length (Nat.le_refl _)
  rw [List.take_length] at this
  refine ⟨this.lo, this.hi, Nat.le_trans this.den ?_⟩
  have := h.len
  have h2 : (1000 : Nat) ^ qs.length ≤ 1000 ^ 2 := Nat.pow_le_pow_right (by omega) this
  omega
theorem mkRat_den (t : Int) (b : Nat) (hb : b ≠ 0) : (mkRat t b).den ≤ b := by
  rw [← Rat.normalize_eq_mkRat hb, Rat.normalize_eq]
  exact Nat.div_le_self _ _
abbrev k_is_fraction : Nat := 3
def sp_is_fraction : PSp := fun ds n P => ∃ k d, ds = [d] ∧ OkT k d ∧ P (.bl (isFrac d)) n
abbrev k_is_edge : Nat := 4
def sp_is_edge : PSp := fun ds n P => ∃ k d, ds = [d] ∧ OkT k d ∧ P (.bl (isEdge d)) n
abbrev k_is_side : Nat := 5
def sp_is_side : PSp := fun ds n P => ∃ k d, ds = [d] ∧ OkT k d ∧ P (.bl (isSide d)) n
abbrev k_is_box : Nat := 6
def sp_is_box : PSp := fun ds n P => ∃ k s d, ds = [.int s, d] ∧ OkT k d ∧ P (.bl (isBox s d)) n
abbrev k_is_of : Nat := 1
def sp_is_of : PSp := fun ds n P => ∃ es : List D, ds = [.str "corner", .tup es] ∧ es.length ≤ 8 ∧ (∀ d ∈ es, isSide d = true) ∧ P (.bl (es.all isTo)) n
abbrev k_is_corner : Nat := 7
def sp_is_corner : PSp := fun ds n P => ∃ k s d, ds = [.int s, d] ∧ OkT k d ∧ P (.bl (isCorner s d)) n
abbrev k_side_size : Nat := 3
def sp_side_size : PSp := fun ds n P => ∃ q, ds = [sideD q] ∧ Ed q ∧ P (fr (up0 q)) n
abbrev k_size_of : Nat := 4
def sp_size_of : PSp := fun ds n P => ∃ qs, ds = [boxD qs] ∧ OkBox qs ∧ P (fr (sizeQ qs)) n
abbrev k_is_ahead : Nat := 2
def sp_is_ahead : PSp := fun ds n P => ∃ x q way, ds = [fr x, fr q, .str way] ∧ x.den < 2 ^ 64 ∧ q.den < 2 ^ 64 ∧ P (.bl (ahead x q way)) n
abbrev k_lies : Nat := 3
def sp_lies : PSp := fun ds n P => ∃ x q way, ds = [fr x, sideD q, .str way] ∧ x.den < 2 ^ 64 ∧ q.den < 2 ^ 64 ∧ P (.bl (ahead x q way)) n
abbrev k_lies_in : Nat := 4
def sp_lies_in : PSp := fun ds n P => ∃ xs qs way, ds = [ptD xs, boxD qs, .str way] ∧ OkBox qs ∧ (∀ x ∈ xs, x.den ≤ 1000) ∧ P (.bl (inB xs qs way)) n
abbrev k_inside : Nat := 5
def sp_inside : PSp := fun ds n P => ∃ pts qs way, ds = [.tup (pts.map ptD), boxD qs, .str way] ∧ OkPts pts ∧ OkBox qs ∧ P (.int (cntB pts qs way)) n
abbrev k_over_of : Nat := 6
def sp_over_of : PSp := fun ds n P => ∃ pts qs, ds = [.tup (pts.map ptD), boxD qs] ∧ OkPts pts ∧ OkBox qs ∧ P (fr (overQ pts qs)) n
abbrev k_lack_of : Nat := 6
def sp_lack_of : PSp := fun ds n P => ∃ pts qs, ds = [.tup (pts.map ptD), boxD qs] ∧ OkPts pts ∧ OkBox qs ∧ P (fr (lackQ pts qs)) n
theorem len_is_fraction : ∀ ds n P, sp_is_fraction ds n P → ds.length = (["thing"] : List Str).length := by rintro _ n P ⟨_, _, rfl, _⟩; rfl
theorem len_is_edge : ∀ ds n P, sp_is_edge ds n P → ds.length = (["thing"] : List Str).length := by rintro _ n P ⟨_, _, rfl, _⟩; rfl
theorem len_is_side : ∀ ds n P, sp_is_side ds n P → ds.length = (["thing"] : List Str).length := by rintro _ n P ⟨_, _, rfl, _⟩; rfl
theorem len_is_box : ∀ ds n P, sp_is_box ds n P → ds.length = (["s", "thing"] : List Str).length := by rintro _ n P ⟨_, _, _, rfl, _⟩; rfl
theorem len_is_of : ∀ ds n P, sp_is_of ds n P → ds.length = (["family", "box"] : List Str).length := by rintro _ n P ⟨_, rfl, _⟩; rfl
theorem len_is_corner : ∀ ds n P, sp_is_corner ds n P → ds.length = (["sides", "thing"] : List Str).length := by rintro _ n P ⟨_, _, _, rfl, _⟩; rfl
theorem len_side_size : ∀ ds n P, sp_side_size ds n P → ds.length = (["side"] : List Str).length := by rintro _ n P ⟨_, rfl, _⟩; rfl
theorem len_size_of : ∀ ds n P, sp_size_of ds n P → ds.length = (["box"] : List Str).length := by rintro _ n P ⟨_, rfl, _⟩; rfl
theorem len_is_ahead : ∀ ds n P, sp_is_ahead ds n P → ds.length = (["x", "edge", "way"] : List Str).length := by rintro _ n P ⟨_, _, _, rfl, _⟩; rfl
theorem len_lies : ∀ ds n P, sp_lies ds n P → ds.length = (["x", "side", "way"] : List Str).length := by rintro _ n P ⟨_, _, _, rfl, _⟩; rfl
theorem len_lies_in : ∀ ds n P, sp_lies_in ds n P → ds.length = (["point", "box", "way"] : List Str).length := by rintro _ n P ⟨_, _, _, rfl, _⟩; rfl
theorem len_inside : ∀ ds n P, sp_inside ds n P → ds.length = (["points", "box", "way"] : List Str).length := by rintro _ n P ⟨_, _, _, rfl, _⟩; rfl
theorem len_over_of : ∀ ds n P, sp_over_of ds n P → ds.length = (["points", "box"] : List Str).length := by rintro _ n P ⟨_, _, rfl, _⟩; rfl
theorem len_lack_of : ∀ ds n P, sp_lack_of ds n P → ds.length = (["points", "box"] : List Str).length := by rintro _ n P ⟨_, _, rfl, _⟩; rfl
section
variable {Pr : Program} {w : World} {K : PySem.W.Frag} {mg : Str → Option Value} {base : Heap}
abbrev s_is_fraction : Stmt := top 10
theorem sc_is_fraction : FnScope ["thing"] ["thing"] (defScope s_is_fraction) := ⟨rfl, rfl, rfl, by decide +kernel, rfl, by decide +kernel, by decide +kernel⟩
theorem ok_is_fraction (F0 : Df K mg "is_fraction" s_is_fraction) (B : Bt mg) (C : Cs K w mg) (h_shared : Has Pr w K mg base "shared" ["one", "other"] k_shared sp_shared) (h_is_whole : Has Pr w K mg base "is_whole" ["thing"] k_is_whole sp_is_whole) : Has Pr w K mg base "is_fraction" ["thing"] k_is_fraction sp_is_fraction := by
  have sc := sc_is_fraction
  refine has_mk (k := _) F0 sc (fun _ _ _ _ _ _ us hl => match us, hl with | [_], _ => rfl) len_is_fraction (fun f cdv A outer s H E hr => ⟨_,
    (bCons (sIf (bW (wOr (bNot (bVal (vIsi (T := "tuple") (by decide) B.isi B.tuple (vN 0)))) (wOr1 (bNe hr (vLen B.len (aCons (vN 0) aNil)) vI))))
      (bOne (sRet vB))
      bNil)
    (bCons (sIf (bW (wOr (bNot (bVal (vCall h_is_whole hr (aCons (vIx (vN 0) vI) aNil)))) (wOr (bNot (bVal (vCall h_is_whole hr (aCons (vIx (vN 0) vI) aNil)))) (wOr1 (bLt (vIx (vN 0) vI) vI)))))
      (bOne (sRet vB))
      bNil)
    (bOne (sRet (vEq hr (vCall h_shared hr (aCons (vAbs B.abs (aCons (vIx (vN 0) vI) aNil)) (aCons (vIx (vN 0) vI) aNil))) vI))))), ?_⟩)
  rintro _ n P ⟨k, d, rfl, hd, h⟩
  refine okT_cases (C := fun d => P (.bl (isFrac d)) n → SSeq _ _ _ (startR _ [d]) n) hd (fun h => h) (fun _ h => h) (fun _ _ _ h => h) (fun _ h => h) (fun ds hd h => ?_) (fun ds hd h => h) h
  match ds, hd, h with
  | [], _, h => simp only [SSeq, SNil, SIf, SRet, SSet, SAsg, SPar, SMuL, SApp, SExt, SPut, SFz, frzR, SNo, TVar, TC, TOp, TB, TNil, TCons, TTup, TLst, TKey, oIx, seqOf, TAnd, TOr, TNot, TAndV, TOrV, TNotV, TIf, TCB, cLen, cAbs, cMax2, cMin2, cAll, cList, cTuple, cInt, TIsi, isD, tyD, TCall, TChain, TLc, TLc0, SFor, ISeq, IRg1, IRg2, IZip, TSl, TPs, TPn, slD, cut1, opII, opI0, TNeg, oAdd, oIsN, oNotN, oIsB, opEq, eqD, getS, startR, GName, GNil, GCons, GTup, List.map_cons, List.map_nil, List.length_cons, List.length_nil, List.cons_append, List.nil_append, List.set_cons_zero, List.set_cons_succ, List.replicate, List.append_nil, Option.map_some, Bool.not_true, Bool.not_false, Bool.false_eq_true, if_true, if_false, ite_true, ite_false, reduceIte, Nat.sub_self, Nat.reduceAdd, Nat.reduceSub, Bool.or_true, Bool.or_false, Bool.true_or, Bool.false_or, Bool.and_true, Bool.and_false, decide_true, decide_false, List.getElem?_cons_zero, List.getElem?_cons_succ, Option.some.injEq, exists_eq_left', exists_eq_left, true_and, and_true, at0, at1, at2, at3, List.length_map, List.cons.injEq, Int.cast_ofNat_Int, Int.reduceEq, Int.reduceLT, Int.reduceLE, D.int.injEq, D.str.injEq, D.bl.injEq, D.tup.injEq, D.lst.injEq, exists_const, Int.zero_add, Nat.zero_add, Int.natCast_add, Int.natCast_one, Int.reduceAdd]; exact h
  | [_], _, h => simp only [SSeq, SNil, SIf, SRet, SSet, SAsg, SPar, SMuL, SApp, SExt, SPut, SFz, frzR, SNo, TVar, TC, TOp, TB, TNil, TCons, TTup, TLst, TKey, oIx, seqOf, TAnd, TOr, TNot, TAndV, TOrV, TNotV, TIf, TCB, cLen, cAbs, cMax2, cMin2, cAll, cList, cTuple, cInt, TIsi, isD, tyD, TCall, TChain, TLc, TLc0, SFor, ISeq, IRg1, IRg2, IZip, TSl, TPs, TPn, slD, cut1, opII, opI0, TNeg, oAdd, oIsN, oNotN, oIsB, opEq, eqD, getS, startR, GName, GNil, GCons, GTup, List.map_cons, List.map_nil, List.length_cons, List.length_nil, List.cons_append, List.nil_append, List.set_cons_zero, List.set_cons_succ, List.replicate, List.append_nil, Option.map_some, Bool.not_true, Bool.not_false, Bool.false_eq_true, if_true, if_false, ite_true, ite_false, reduceIte, Nat.sub_self, Nat.reduceAdd, Nat.reduceSub, Bool.or_true, Bool.or_false, Bool.true_or, Bool.false_or, Bool.and_true, Bool.and_false, decide_true, decide_false, List.getElem?_cons_zero, List.getElem?_cons_succ, Option.some.injEq, exists_eq_left', exists_eq_left, true_and, and_true, at0, at1, at2, at3, List.length_map, List.cons.injEq, Int.cast_ofNat_Int, Int.reduceEq, Int.reduceLT, Int.reduceLE, D.int.injEq, D.str.injEq, D.bl.injEq, D.tup.injEq, D.lst.injEq, exists_const, Int.zero_add, Nat.zero_add, Int.natCast_add, Int.natCast_one, Int.reduceAdd]; exact h
  | [a, b], hd, h =>
    have pa := ((okT_at hd).2 a (by simp)).plain
    have pb := ((okT_at hd).2 b (by simp)).plain
    simp only [SSeq, SNil, SIf, SRet, SSet, SAsg, SPar, SMuL, SApp, SExt, SPut, SFz, frzR, SNo, TVar, TC, TOp, TB, TNil, TCons, TTup, TLst, TKey, oIx, seqOf, TAnd, TOr, TNot, TAndV, TOrV, TNotV, TIf, TCB, cLen, cAbs, cMax2, cMin2, cAll, cList, cTuple, cInt, TIsi, isD, tyD, TCall, TChain, TLc, TLc0, SFor, ISeq, IRg1, IRg2, IZip, TSl, TPs, TPn, slD, cut1, opII, opI0, TNeg, oAdd, oIsN, oNotN, oIsB, opEq, eqD, getS, startR, GName, GNil, GCons, GTup, List.map_cons, List.map_nil, List.length_cons, List.length_nil, List.cons_append, List.nil_append, List.set_cons_zero, List.set_cons_succ, List.replicate, List.append_nil, Option.map_some, Bool.not_true, Bool.not_false, Bool.false_eq_true, if_true, if_false, ite_true, ite_false, reduceIte, Nat.sub_self, Nat.reduceAdd, Nat.reduceSub, Bool.or_true, Bool.or_false, Bool.true_or, Bool.false_or, Bool.and_true, Bool.and_false, decide_true, decide_false, List.getElem?_cons_zero, List.getElem?_cons_succ, Option.some.injEq, exists_eq_left', exists_eq_left, true_and, and_true, at0, at1, at2, at3, List.length_map, List.cons.injEq, Int.cast_ofNat_Int, Int.reduceEq, Int.reduceLT, Int.reduceLE, D.int.injEq, D.str.injEq, D.bl.injEq, D.tup.injEq, D.lst.injEq, exists_const, Int.zero_add, Nat.zero_add, Int.natCast_add, Int.natCast_one, Int.reduceAdd, sp_is_whole, pa, pb]
    cases a with
    | int i =>
      cases b with
      | int j =>
        simp only [SSeq, SNil, SIf, SRet, SSet, SAsg, SPar, SMuL, SApp, SExt, SPut, SFz, frzR, SNo, TVar, TC, TOp, TB, TNil, TCons, TTup, TLst, TKey, oIx, seqOf, TAnd, TOr, TNot, TAndV, TOrV, TNotV, TIf, TCB, cLen, cAbs, cMax2, cMin2, cAll, cList, cTuple, cInt, TIsi, isD, tyD, TCall, TChain, TLc, TLc0, SFor, ISeq, IRg1, IRg2, IZip, TSl, TPs, TPn, slD, cut1, opII, opI0, TNeg, oAdd, oIsN, oNotN, oIsB, opEq, eqD, getS, startR, GName, GNil, GCons, GTup, List.map_cons, List.map_nil, List.length_cons, List.length_nil, List.cons_append, List.nil_append, List.set_cons_zero, List.set_cons_succ, List.replicate, List.append_nil, Option.map_some, Bool.not_true, Bool.not_false, Bool.false_eq_true, if_true, if_false, ite_true, ite_false, reduceIte, Nat.sub_self, Nat.reduceAdd, Nat.reduceSub, Bool.or_true, Bool.or_false, Bool.true_or, Bool.false_or, Bool.and_true, Bool.and_false, decide_true, decide_false, List.getElem?_cons_zero, List.getElem?_cons_succ, Option.some.injEq, exists_eq_left', exists_eq_left, true_and, and_true, at0, at1, at2, at3, List.length_map, List.cons.injEq, Int.cast_ofNat_Int, Int.reduceEq, Int.reduceLT, Int.reduceLE, D.int.injEq, D.str.injEq, D.bl.injEq, D.tup.injEq, D.lst.injEq, exists_const, Int.zero_add, Nat.zero_add, Int.natCast_add, Int.natCast_one, Int.reduceAdd, isWhole, sp_shared]
        refine ite2 (fun hb => ?_) (fun hb => ⟨_, _, ⟨rfl, rfl⟩, by split <;> omega, by simp at hb; omega, ?_⟩)
        · have e : isFrac (.tup [.int i, .int j]) = false := by
            simp at hb
            simp [isFrac, fracB]; omega
          rw [e] at h; exact h
        · have e : isFrac (.tup [.int i, .int j]) = decide (((if i < 0 then -i else i).gcd j : Int) = 1) := by
            simp at hb
            have e1 : (if i < 0 then -i else i).gcd j = i.gcd j := by split <;> simp
            have e2 : decide (1 ≤ j) = true := decide_eq_true hb
            simp only [isFrac, fracB, e2, Bool.true_and, e1]
            exact decide_eq_decide.mpr (by omega)
          rw [← e]; exact h
      | _ => exact h
    | _ => exact h
  | a :: b :: c :: r, _, h =>
    have e : decide ((r.length : Int) + 1 + 1 + 1 = 2) = false := by rw [decide_eq_false_iff_not]; omega
    simp only [SSeq, SNil, SIf, SRet, SSet, SAsg, SPar, SMuL, SApp, SExt, SPut, SFz, frzR, SNo, TVar, TC, TOp, TB, TNil, TCons, TTup, TLst, TKey, oIx, seqOf, TAnd, TOr, TNot, TAndV, TOrV, TNotV, TIf, TCB, cLen, cAbs, cMax2, cMin2, cAll, cList, cTuple, cInt, TIsi, isD, tyD, TCall, TChain, TLc, TLc0, SFor, ISeq, IRg1, IRg2, IZip, TSl, TPs, TPn, slD, cut1, opII, opI0, TNeg, oAdd, oIsN, oNotN, oIsB, opEq, eqD, getS, startR, GName, GNil, GCons, GTup, List.map_cons, List.map_nil, List.length_cons, List.length_nil, List.cons_append, List.nil_append, List.set_cons_zero, List.set_cons_succ, List.replicate, List.append_nil, Option.map_some, Bool.not_true, Bool.not_false, Bool.false_eq_true, if_true, if_false, ite_true, ite_false, reduceIte, Nat.sub_self, Nat.reduceAdd, Nat.reduceSub, Bool.or_true, Bool.or_false, Bool.true_or, Bool.false_or, Bool.and_true, Bool.and_false, decide_true, decide_false, List.getElem?_cons_zero, List.getElem?_cons_succ, Option.some.injEq, exists_eq_left', exists_eq_left, true_and, and_true, at0, at1, at2, at3, List.length_map, List.cons.injEq, Int.cast_ofNat_Int, Int.reduceEq, Int.reduceLT, Int.reduceLE, D.int.injEq, D.str.injEq, D.bl.injEq, D.tup.injEq, D.lst.injEq, exists_const, Int.zero_add, Nat.zero_add, Int.natCast_add, Int.natCast_one, Int.reduceAdd, e]
    exact h
abbrev s_is_edge : Stmt := top 19
theorem sc_is_edge : FnScope ["thing"] ["thing"] (defScope s_is_edge) := ⟨rfl, rfl, rfl, by decide +kernel, rfl, by decide +kernel, by decide +kernel⟩
theorem ok_is_edge (F0 : Df K mg "is_edge" s_is_edge) (B : Bt mg) (C : Cs K w mg) (h_is_fraction : Has Pr w K mg base "is_fraction" ["thing"] k_is_fraction sp_is_fraction) : Has Pr w K mg base "is_edge" ["thing"] k_is_edge sp_is_edge := by
  have sc := sc_is_edge
  refine has_mk (k := _) F0 sc (fun _ _ _ _ _ _ us hl => match us, hl with | [_], _ => rfl) len_is_edge (fun f cdv A outer s H E hr => ⟨_,
    (bOne (sRet (vAnd (vCall h_is_fraction hr (aCons (vN 0) aNil)) (v1 (vLeLe (vNeg (vIx (vN 0) vI)) (vIx (vN 0) vI) (vIx (vN 0) vI)))))), ?_⟩)
  rintro _ n P ⟨k, d, rfl, hd, h⟩
  refine okT_cases (C := fun d => P (.bl (isEdge d)) n → OkT k d → SRet _ _ (startR _ [d]) n) hd (fun h hd => ⟨_, _, rfl, hd, h⟩) (fun _ h hd => ⟨_, _, rfl, hd, h⟩) (fun _ _ _ h hd => ⟨_, _, rfl, hd, h⟩) (fun _ h hd => ⟨_, _, rfl, hd, h⟩) (fun ds _ h hd => ?_) (fun ds _ h hd => ⟨_, _, rfl, hd, h⟩) h hd
  match ds, hd, h with
  | [], hd, h => exact ⟨_, _, rfl, hd, h⟩
  | [_], hd, h => exact ⟨_, _, rfl, hd, h⟩
  | a :: b :: c :: r, hd, h => exact ⟨_, _, rfl, hd, h⟩
  | [a, b], hd, h =>
    simp only [SSeq, SNil, SIf, SRet, SSet, SAsg, SPar, SMuL, SApp, SExt, SPut, SFz, frzR, SNo, TVar, TC, TOp, TB, TNil, TCons, TTup, TLst, TKey, oIx, seqOf, TAnd, TOr, TNot, TAndV, TOrV, TNotV, TIf, TCB, cLen, cAbs, cMax2, cMin2, cAll, cList, cTuple, cInt, TIsi, isD, tyD, TCall, TChain, TLc, TLc0, SFor, ISeq, IRg1, IRg2, IZip, TSl, TPs, TPn, slD, cut1, opII, opI0, TNeg, oAdd, oIsN, oNotN, oIsB, opEq, eqD, getS, startR, GName, GNil, GCons, GTup, List.map_cons, List.map_nil, List.length_cons, List.length_nil, List.cons_append, List.nil_append, List.set_cons_zero, List.set_cons_succ, List.replicate, List.append_nil, Option.map_some, Bool.not_true, Bool.not_false, Bool.false_eq_true, if_true, if_false, ite_true, ite_false, reduceIte, Nat.sub_self, Nat.reduceAdd, Nat.reduceSub, Bool.or_true, Bool.or_false, Bool.true_or, Bool.false_or, Bool.and_true, Bool.and_false, decide_true, decide_false, List.getElem?_cons_zero, List.getElem?_cons_succ, Option.some.injEq, exists_eq_left', exists_eq_left, true_and, and_true, at0, at1, at2, at3, List.length_map, List.cons.injEq, Int.cast_ofNat_Int, Int.reduceEq, Int.reduceLT, Int.reduceLE, D.int.injEq, D.str.injEq, D.bl.injEq, D.tup.injEq, D.lst.injEq, exists_const, Int.zero_add, Nat.zero_add, Int.natCast_add, Int.natCast_one, Int.reduceAdd, sp_is_fraction]
    refine ⟨k, hd, ite2 (fun hb => ?_) (fun hb => ?_)⟩
    · obtain ⟨i, j, rfl, rfl, _, _⟩ := fracB_int (show fracB a b = true from hb)
      simp only [SSeq, SNil, SIf, SRet, SSet, SAsg, SPar, SMuL, SApp, SExt, SPut, SFz, frzR, SNo, TVar, TC, TOp, TB, TNil, TCons, TTup, TLst, TKey, oIx, seqOf, TAnd, TOr, TNot, TAndV, TOrV, TNotV, TIf, TCB, cLen, cAbs, cMax2, cMin2, cAll, cList, cTuple, cInt, TIsi, isD, tyD, TCall, TChain, TLc, TLc0, SFor, ISeq, IRg1, IRg2, IZip, TSl, TPs, TPn, slD, cut1, opII, opI0, TNeg, oAdd, oIsN, oNotN, oIsB, opEq, eqD, getS, startR, GName, GNil, GCons, GTup, List.map_cons, List.map_nil, List.length_cons, List.length_nil, List.cons_append, List.nil_append, List.set_cons_zero, List.set_cons_succ, List.replicate, List.append_nil, Option.map_some, Bool.not_true, Bool.not_false, Bool.false_eq_true, if_true, if_false, ite_true, ite_false, reduceIte, Nat.sub_self, Nat.reduceAdd, Nat.reduceSub, Bool.or_true, Bool.or_false, Bool.true_or, Bool.false_or, Bool.and_true, Bool.and_false, decide_true, decide_false, List.getElem?_cons_zero, List.getElem?_cons_succ, Option.some.injEq, exists_eq_left', exists_eq_left, true_and, and_true, at0, at1, at2, at3, List.length_map, List.cons.injEq, Int.cast_ofNat_Int, Int.reduceEq, Int.reduceLT, Int.reduceLE, D.int.injEq, D.str.injEq, D.bl.injEq, D.tup.injEq, D.lst.injEq, exists_const, Int.zero_add, Nat.zero_add, Int.natCast_add, Int.natCast_one, Int.reduceAdd]
      have e : isEdge (.tup [.int i, .int j]) = (decide (-j ≤ i) && decide (i ≤ j)) := by
        show (fracB _ _ && edgeB _ _) = _
        rw [show fracB (.int i) (.int j) = true from hb]
        rfl
      rw [e] at h
      cases q : decide (-j ≤ i) <;> rw [q] at h <;> exact h
    · have e : isEdge (.tup [a, b]) = false := by
        show (fracB a b && edgeB a b) = false
        rw [show fracB a b = false by simpa [isFrac] using hb]
        rfl
      rw [e] at h
      exact h
abbrev s_is_side : Stmt := top 20
theorem sc_is_side : FnScope ["thing", "one"] ["thing"] (defScope s_is_side) := ⟨rfl, rfl, rfl, by decide +kernel, rfl, by decide +kernel, by decide +kernel⟩
theorem ok_is_side (F0 : Df K mg "is_side" s_is_side) (B : Bt mg) (C : Cs K w mg) (h_is_edge : Has Pr w K mg base "is_edge" ["thing"] k_is_edge sp_is_edge) : Has Pr w K mg base "is_side" ["thing"] k_is_side sp_is_side := by
  have sc := sc_is_side
  refine has_mk (k := _) F0 sc (fun _ _ _ _ _ _ us hl => match us, hl with | [_], _ => rfl) len_is_side (fun f cdv A outer s H E hr => ⟨_,
    (bCons (sIf (bW (wOr (bNot (bVal (vIsi (T := "tuple") (by decide) B.isi B.tuple (vN 0)))) (wOr (bEq hr (vLen B.len (aCons (vN 0) aNil)) vI) (wOr1 (bNot (bVal (vIsi (T := "str") (by decide) B.isi B.str (vIx (vN 0) vI))))))))
      (bOne (sRet vB))
      bNil)
    (bOne (sRet (vAnd (vEq hr (vTabGet C.longX (vIx (vN 0) vI)) (vLen B.len (aCons (vN 0) aNil))) (v1 (vAll B.all (aCons (vLc (own := [("one", 1)]) sc.nd (iT (vSl (vN 0) (oS vI) oN)) (fun _ _ _ _ _ => (gN 1 sc.nd)) (fun _ _ _ _ _ => tN) (fun _ _ _ _ _ => (vCall h_is_edge hr (aCons (vN 1) aNil)))) aNil))))))), ?_⟩)
  rintro _ n P ⟨k, d, rfl, hd, h⟩
  refine okT_cases (C := fun d => P (.bl (isSide d)) n → SSeq _ _ _ (startR _ [d]) n) hd (fun h => h) (fun _ h => h) (fun _ _ _ h => h) (fun _ h => h) (fun ds hd h => ?_) (fun ds hd h => h) h
  match ds, hd, h with
  | [], _, h => simp only [SSeq, SNil, SIf, SRet, SSet, SAsg, SPar, SMuL, SApp, SExt, SPut, SFz, frzR, SNo, TVar, TC, TOp, TB, TNil, TCons, TTup, TLst, TKey, oIx, seqOf, TAnd, TOr, TNot, TAndV, TOrV, TNotV, TIf, TCB, cLen, cAbs, cMax2, cMin2, cAll, cList, cTuple, cInt, TIsi, isD, tyD, TCall, TChain, TLc, TLc0, SFor, ISeq, IRg1, IRg2, IZip, TSl, TPs, TPn, slD, cut1, opII, opI0, TNeg, oAdd, oIsN, oNotN, oIsB, opEq, eqD, getS, startR, GName, GNil, GCons, GTup, List.map_cons, List.map_nil, List.length_cons, List.length_nil, List.cons_append, List.nil_append, List.set_cons_zero, List.set_cons_succ, List.replicate, List.append_nil, Option.map_some, Bool.not_true, Bool.not_false, Bool.false_eq_true, if_true, if_false, ite_true, ite_false, reduceIte, Nat.sub_self, Nat.reduceAdd, Nat.reduceSub, Bool.or_true, Bool.or_false, Bool.true_or, Bool.false_or, Bool.and_true, Bool.and_false, decide_true, decide_false, List.getElem?_cons_zero, List.getElem?_cons_succ, Option.some.injEq, exists_eq_left', exists_eq_left, true_and, and_true, at0, at1, at2, at3, List.length_map, List.cons.injEq, Int.cast_ofNat_Int, Int.reduceEq, Int.reduceLT, Int.reduceLE, D.int.injEq, D.str.injEq, D.bl.injEq, D.tup.injEq, D.lst.injEq, exists_const, Int.zero_add, Nat.zero_add, Int.natCast_add, Int.natCast_one, Int.reduceAdd]; exact h
  | a :: r, hd, h =>
    have e0 : decide ((r.length : Int) + 1 = 0) = false := by rw [decide_eq_false_iff_not]; omega
    have hr8 : r.length ≤ 8 := by have := (okT_at hd).1; simp at this; omega
    cases a with
    | str z =>
      simp only [SSeq, SNil, SIf, SRet, SSet, SAsg, SPar, SMuL, SApp, SExt, SPut, SFz, frzR, SNo, TVar, TC, TOp, TB, TNil, TCons, TTup, TLst, TKey, oIx, seqOf, TAnd, TOr, TNot, TAndV, TOrV, TNotV, TIf, TCB, cLen, cAbs, cMax2, cMin2, cAll, cList, cTuple, cInt, TIsi, isD, tyD, TCall, TChain, TLc, TLc0, SFor, ISeq, IRg1, IRg2, IZip, TSl, TPs, TPn, slD, cut1, opII, opI0, TNeg, oAdd, oIsN, oNotN, oIsB, opEq, eqD, getS, startR, GName, GNil, GCons, GTup, List.map_cons, List.map_nil, List.length_cons, List.length_nil, List.cons_append, List.nil_append, List.set_cons_zero, List.set_cons_succ, List.replicate, List.append_nil, Option.map_some, Bool.not_true, Bool.not_false, Bool.false_eq_true, if_true, if_false, ite_true, ite_false, reduceIte, Nat.sub_self, Nat.reduceAdd, Nat.reduceSub, Bool.or_true, Bool.or_false, Bool.true_or, Bool.false_or, Bool.and_true, Bool.and_false, decide_true, decide_false, List.getElem?_cons_zero, List.getElem?_cons_succ, Option.some.injEq, exists_eq_left', exists_eq_left, true_and, and_true, at0, at1, at2, at3, List.length_map, List.cons.injEq, Int.cast_ofNat_Int, Int.reduceEq, Int.reduceLT, Int.reduceLE, D.int.injEq, D.str.injEq, D.bl.injEq, D.tup.injEq, D.lst.injEq, exists_const, Int.zero_add, Nat.zero_add, Int.natCast_add, Int.natCast_one, Int.reduceAdd, e0, TTabGet, sp_is_edge]
      have e : isSide (.tup (.str z :: r)) = (decide ((longOf z).getD 0 = (r.length : Int) + 1) && r.all isEdge) := rfl
      rw [e] at h
      refine ite2 (fun hb => ?_) (fun hb => ?_)
      · rw [hb] at h
        exact lc_bl isEdge (sz8 hr8) (fun d hd2 Q hq => ⟨_, d, rfl, (okT_at hd).2 d (List.mem_cons_of_mem _ hd2), hq⟩) h
      · rw [Bool.not_eq_true] at hb
        rw [hb] at h
        exact h
    | key _ => exact absurd ((okT_at hd).2 _ List.mem_cons_self) okT_key
    | tape => exact absurd ((okT_at hd).2 _ List.mem_cons_self).plain (by decide)
    | obj _ _ _ => exact absurd ((okT_at hd).2 _ List.mem_cons_self).plain (by simp [D.plain])
    | tab _ _ => exact absurd ((okT_at hd).2 _ List.mem_cons_self).plain (by simp [D.plain])
    | raw _ => exact absurd ((okT_at hd).2 _ List.mem_cons_self).plain (by simp [D.plain])
    | _ => simp only [SSeq, SNil, SIf, SRet, SSet, SAsg, SPar, SMuL, SApp, SExt, SPut, SFz, frzR, SNo, TVar, TC, TOp, TB, TNil, TCons, TTup, TLst, TKey, oIx, seqOf, TAnd, TOr, TNot, TAndV, TOrV, TNotV, TIf, TCB, cLen, cAbs, cMax2, cMin2, cAll, cList, cTuple, cInt, TIsi, isD, tyD, TCall, TChain, TLc, TLc0, SFor, ISeq, IRg1, IRg2, IZip, TSl, TPs, TPn, slD, cut1, opII, opI0, TNeg, oAdd, oIsN, oNotN, oIsB, opEq, eqD, getS, startR, GName, GNil, GCons, GTup, List.map_cons, List.map_nil, List.length_cons, List.length_nil, List.cons_append, List.nil_append, List.set_cons_zero, List.set_cons_succ, List.replicate, List.append_nil, Option.map_some, Bool.not_true, Bool.not_false, Bool.false_eq_true, if_true, if_false, ite_true, ite_false, reduceIte, Nat.sub_self, Nat.reduceAdd, Nat.reduceSub, Bool.or_true, Bool.or_false, Bool.true_or, Bool.false_or, Bool.and_true, Bool.and_false, decide_true, decide_false, List.getElem?_cons_zero, List.getElem?_cons_succ, Option.some.injEq, exists_eq_left', exists_eq_left, true_and, and_true, at0, at1, at2, at3, List.length_map, List.cons.injEq, Int.cast_ofNat_Int, Int.reduceEq, Int.reduceLT, Int.reduceLE, D.int.injEq, D.str.injEq, D.bl.injEq, D.tup.injEq, D.lst.injEq, exists_const, Int.zero_add, Nat.zero_add, Int.natCast_add, Int.natCast_one, Int.reduceAdd, e0]; exact h
abbrev s_is_box : Stmt := top 21
theorem sc_is_box : FnScope ["s", "thing", "one"] ["s", "thing"] (defScope s_is_box) := ⟨rfl, rfl, rfl, by decide +kernel, rfl, by decide +kernel, by decide +kernel⟩
theorem ok_is_box (F0 : Df K mg "is_box" s_is_box) (B : Bt mg) (C : Cs K w mg) (h_is_side : Has Pr w K mg base "is_side" ["thing"] k_is_side sp_is_side) : Has Pr w K mg base "is_box" ["s", "thing"] k_is_box sp_is_box := by
  have sc := sc_is_box
  refine has_mk (k := _) F0 sc (fun _ _ _ _ _ _ us hl => match us, hl with | [_, _], _ => rfl) len_is_box (fun f cdv A outer s H E hr => ⟨_,
    (bOne (sRet (vAnd (vIsi (T := "tuple") (by decide) B.isi B.tuple (vN 1)) (vAnd (vEq hr (vLen B.len (aCons (vN 1) aNil)) (vN 0)) (v1 (vAll B.all (aCons (vLc (own := [("one", 2)]) sc.nd (iT (vN 1)) (fun _ _ _ _ _ => (gN 2 sc.nd)) (fun _ _ _ _ _ => tN) (fun _ _ _ _ _ => (vCall h_is_side hr (aCons (vN 2) aNil)))) aNil))))))), ?_⟩)
  rintro _ n P ⟨k, s, d, rfl, hd, h⟩
  refine okT_cases (C := fun d => P (.bl (isBox s d)) n → SRet _ _ (startR _ [.int s, d]) n) hd (fun h => h) (fun _ h => h) (fun _ _ _ h => h) (fun _ h => h) (fun ds hd h => ?_) (fun ds hd h => h) h
  have e : isBox s (.tup ds) = (decide ((ds.length : Int) = s) && ds.all isSide) := rfl
  rw [e] at h
  simp only [SSeq, SNil, SIf, SRet, SSet, SAsg, SPar, SMuL, SApp, SExt, SPut, SFz, frzR, SNo, TVar, TC, TOp, TB, TNil, TCons, TTup, TLst, TKey, oIx, seqOf, TAnd, TOr, TNot, TAndV, TOrV, TNotV, TIf, TCB, cLen, cAbs, cMax2, cMin2, cAll, cList, cTuple, cInt, TIsi, isD, tyD, TCall, TChain, TLc, TLc0, SFor, ISeq, IRg1, IRg2, IZip, TSl, TPs, TPn, slD, cut1, opII, opI0, TNeg, oAdd, oIsN, oNotN, oIsB, opEq, eqD, getS, startR, GName, GNil, GCons, GTup, List.map_cons, List.map_nil, List.length_cons, List.length_nil, List.cons_append, List.nil_append, List.set_cons_zero, List.set_cons_succ, List.replicate, List.append_nil, Option.map_some, Bool.not_true, Bool.not_false, Bool.false_eq_true, if_true, if_false, ite_true, ite_false, reduceIte, Nat.sub_self, Nat.reduceAdd, Nat.reduceSub, Bool.or_true, Bool.or_false, Bool.true_or, Bool.false_or, Bool.and_true, Bool.and_false, decide_true, decide_false, List.getElem?_cons_zero, List.getElem?_cons_succ, Option.some.injEq, exists_eq_left', exists_eq_left, true_and, and_true, at0, at1, at2, at3, List.length_map, List.cons.injEq, Int.cast_ofNat_Int, Int.reduceEq, Int.reduceLT, Int.reduceLE, D.int.injEq, D.str.injEq, D.bl.injEq, D.tup.injEq, D.lst.injEq, exists_const, Int.zero_add, Nat.zero_add, Int.natCast_add, Int.natCast_one, Int.reduceAdd]
  refine ite2 (fun hb => ?_) (fun hb => ?_)
  · rw [hb] at h
    exact lc_bl isSide (sz8 (okT_at hd).1) (fun d hd2 Q hq => ⟨_, d, rfl, (okT_at hd).2 d hd2, hq⟩) h
  · rw [Bool.not_eq_true] at hb
    rw [hb] at h
    exact h
abbrev s_is_of : Stmt := top 22
theorem sc_is_of : FnScope ["family", "box", "words", "side", "word"] ["family", "box"] (defScope s_is_of) := ⟨rfl, rfl, rfl, by decide +kernel, rfl, by decide +kernel, by decide +kernel⟩
theorem ok_is_of (F0 : Df K mg "is_of" s_is_of) (B : Bt mg) (C : Cs K w mg)  : Has Pr w K mg base "is_of" ["family", "box"] k_is_of sp_is_of := by
  have sc := sc_is_of
  refine has_mk (k := _) F0 sc (fun _ _ _ _ _ _ us hl => match us, hl with | [_, _], _ => rfl) len_is_of (fun f cdv A outer s H E hr => ⟨_,
    (bCons (sLc 2 (own := [("side", 3)]) sc.nd (iT (vN 1)) (fun _ _ _ _ _ => (gN 3 sc.nd)) (fun _ _ _ _ _ => tN) (fun _ _ _ _ _ => (vIx (vN 3) vI)))
    (bCons (sIf (bEq hr (vN 0) vS)
      (bOne (sRet (vAll B.all (aCons (vLc (own := [("word", 4)]) sc.nd (iL (vN 2)) (fun _ _ _ _ _ => (gN 4 sc.nd)) (fun _ _ _ _ _ => tN) (fun _ _ _ _ _ => (vEq hr (vN 4) vS))) aNil))))
      bNil)
    bNo)), ?_⟩)
  rintro _ n P ⟨es, rfl, hl, hs, h⟩
  simp only [SSeq, SNil, SIf, SRet, SSet, SAsg, SPar, SMuL, SApp, SExt, SPut, SFz, frzR, SNo, TVar, TC, TOp, TB, TNil, TCons, TTup, TLst, TKey, oIx, seqOf, TAnd, TOr, TNot, TAndV, TOrV, TNotV, TIf, TCB, cLen, cAbs, cMax2, cMin2, cAll, cList, cTuple, cInt, TIsi, isD, tyD, TCall, TChain, TLc, TLc0, SFor, ISeq, IRg1, IRg2, IZip, TSl, TPs, TPn, slD, cut1, opII, opI0, TNeg, oAdd, oIsN, oNotN, oIsB, opEq, eqD, getS, startR, GName, GNil, GCons, GTup, List.map_cons, List.map_nil, List.length_cons, List.length_nil, List.cons_append, List.nil_append, List.set_cons_zero, List.set_cons_succ, List.replicate, List.append_nil, Option.map_some, Bool.not_true, Bool.not_false, Bool.false_eq_true, if_true, if_false, ite_true, ite_false, reduceIte, Nat.sub_self, Nat.reduceAdd, Nat.reduceSub, Bool.or_true, Bool.or_false, Bool.true_or, Bool.false_or, Bool.and_true, Bool.and_false, decide_true, decide_false, List.getElem?_cons_zero, List.getElem?_cons_succ, Option.some.injEq, exists_eq_left', exists_eq_left, true_and, and_true, at0, at1, at2, at3, List.length_map, List.cons.injEq, Int.cast_ofNat_Int, Int.reduceEq, Int.reduceLT, Int.reduceLE, D.int.injEq, D.str.injEq, D.bl.injEq, D.tup.injEq, D.lst.injEq, exists_const, Int.zero_add, Nat.zero_add, Int.natCast_add, Int.natCast_one, Int.reduceAdd]
  have hd : ∀ d ∈ es, ∃ z r, d = .tup (.str z :: r) := fun d hd => by
    have q := hs d hd
    unfold isSide at q
    split at q
    · rename_i a r
      unfold sideB at q
      split at q
      · exact ⟨_, _, rfl⟩
      · cases q
    · cases q
  refine lc_map (fun d => match d with
    | .tup (.str z :: _) => .str z
    | _ => .non) (sz8 hl) (fun d hd2 Q hq => ?_) ?_
  · obtain ⟨z, r, rfl⟩ := hd d hd2
    simp only [SSeq, SNil, SIf, SRet, SSet, SAsg, SPar, SMuL, SApp, SExt, SPut, SFz, frzR, SNo, TVar, TC, TOp, TB, TNil, TCons, TTup, TLst, TKey, oIx, seqOf, TAnd, TOr, TNot, TAndV, TOrV, TNotV, TIf, TCB, cLen, cAbs, cMax2, cMin2, cAll, cList, cTuple, cInt, TIsi, isD, tyD, TCall, TChain, TLc, TLc0, SFor, ISeq, IRg1, IRg2, IZip, TSl, TPs, TPn, slD, cut1, opII, opI0, TNeg, oAdd, oIsN, oNotN, oIsB, opEq, eqD, getS, startR, GName, GNil, GCons, GTup, List.map_cons, List.map_nil, List.length_cons, List.length_nil, List.cons_append, List.nil_append, List.set_cons_zero, List.set_cons_succ, List.replicate, List.append_nil, Option.map_some, Bool.not_true, Bool.not_false, Bool.false_eq_true, if_true, if_false, ite_true, ite_false, reduceIte, Nat.sub_self, Nat.reduceAdd, Nat.reduceSub, Bool.or_true, Bool.or_false, Bool.true_or, Bool.false_or, Bool.and_true, Bool.and_false, decide_true, decide_false, List.getElem?_cons_zero, List.getElem?_cons_succ, Option.some.injEq, exists_eq_left', exists_eq_left, true_and, and_true, at0, at1, at2, at3, List.length_map, List.cons.injEq, Int.cast_ofNat_Int, Int.reduceEq, Int.reduceLT, Int.reduceLE, D.int.injEq, D.str.injEq, D.bl.injEq, D.tup.injEq, D.lst.injEq, exists_const, Int.zero_add, Nat.zero_add, Int.natCast_add, Int.natCast_one, Int.reduceAdd, wipeR]
    exact hq
  · have e : es.all isTo = (es.map (fun d => match d with
    | .tup (.str z :: _) => D.str z
    | _ => .non)).all toB := by
      rw [List.all_map, Bool.eq_iff_iff, List.all_eq_true, List.all_eq_true]
      refine forall_congr' fun d => forall_congr' fun hd2 => ?_
      obtain ⟨z, r, rfl⟩ := hd d hd2
      exact Iff.rfl
    rw [e] at h
    refine lc_bl toB (by rw [List.length_map]; exact sz8 hl) (fun d hd2 Q hq => ?_) h
    obtain ⟨c, hc, rfl⟩ := List.mem_map.mp hd2
    obtain ⟨z, r, rfl⟩ := hd c hc
    simp only [SSeq, SNil, SIf, SRet, SSet, SAsg, SPar, SMuL, SApp, SExt, SPut, SFz, frzR, SNo, TVar, TC, TOp, TB, TNil, TCons, TTup, TLst, TKey, oIx, seqOf, TAnd, TOr, TNot, TAndV, TOrV, TNotV, TIf, TCB, cLen, cAbs, cMax2, cMin2, cAll, cList, cTuple, cInt, TIsi, isD, tyD, TCall, TChain, TLc, TLc0, SFor, ISeq, IRg1, IRg2, IZip, TSl, TPs, TPn, slD, cut1, opII, opI0, TNeg, oAdd, oIsN, oNotN, oIsB, opEq, eqD, getS, startR, GName, GNil, GCons, GTup, List.map_cons, List.map_nil, List.length_cons, List.length_nil, List.cons_append, List.nil_append, List.set_cons_zero, List.set_cons_succ, List.replicate, List.append_nil, Option.map_some, Bool.not_true, Bool.not_false, Bool.false_eq_true, if_true, if_false, ite_true, ite_false, reduceIte, Nat.sub_self, Nat.reduceAdd, Nat.reduceSub, Bool.or_true, Bool.or_false, Bool.true_or, Bool.false_or, Bool.and_true, Bool.and_false, decide_true, decide_false, List.getElem?_cons_zero, List.getElem?_cons_succ, Option.some.injEq, exists_eq_left', exists_eq_left, true_and, and_true, at0, at1, at2, at3, List.length_map, List.cons.injEq, Int.cast_ofNat_Int, Int.reduceEq, Int.reduceLT, Int.reduceLE, D.int.injEq, D.str.injEq, D.bl.injEq, D.tup.injEq, D.lst.injEq, exists_const, Int.zero_add, Nat.zero_add, Int.natCast_add, Int.natCast_one, Int.reduceAdd, wipeR]
    exact hq
abbrev s_is_corner : Stmt := top 59
theorem sc_is_corner : FnScope ["sides", "thing"] ["sides", "thing"] (defScope s_is_corner) := ⟨rfl, rfl, rfl, by decide +kernel, rfl, by decide +kernel, by decide +kernel⟩
theorem ok_is_corner (F0 : Df K mg "is_corner" s_is_corner) (B : Bt mg) (C : Cs K w mg) (h_is_of : Has Pr w K mg base "is_of" ["family", "box"] k_is_of sp_is_of) (h_is_box : Has Pr w K mg base "is_box" ["s", "thing"] k_is_box sp_is_box) : Has Pr w K mg base "is_corner" ["sides", "thing"] k_is_corner sp_is_corner := by
  have sc := sc_is_corner
  refine has_mk (k := _) F0 sc (fun _ _ _ _ _ _ us hl => match us, hl with | [_, _], _ => rfl) len_is_corner (fun f cdv A outer s H E hr => ⟨_,
    (bOne (sRet (vAnd (vCall h_is_box hr (aCons (vN 0) (aCons (vN 1) aNil))) (v1 (vCall h_is_of hr (aCons vS (aCons (vN 1) aNil))))))), ?_⟩)
  rintro _ n P ⟨k, s, d, rfl, hd, h⟩
  simp only [SSeq, SNil, SIf, SRet, SSet, SAsg, SPar, SMuL, SApp, SExt, SPut, SFz, frzR, SNo, TVar, TC, TOp, TB, TNil, TCons, TTup, TLst, TKey, oIx, seqOf, TAnd, TOr, TNot, TAndV, TOrV, TNotV, TIf, TCB, cLen, cAbs, cMax2, cMin2, cAll, cList, cTuple, cInt, TIsi, isD, tyD, TCall, TChain, TLc, TLc0, SFor, ISeq, IRg1, IRg2, IZip, TSl, TPs, TPn, slD, cut1, opII, opI0, TNeg, oAdd, oIsN, oNotN, oIsB, opEq, eqD, getS, startR, GName, GNil, GCons, GTup, List.map_cons, List.map_nil, List.length_cons, List.length_nil, List.cons_append, List.nil_append, List.set_cons_zero, List.set_cons_succ, List.replicate, List.append_nil, Option.map_some, Bool.not_true, Bool.not_false, Bool.false_eq_true, if_true, if_false, ite_true, ite_false, reduceIte, Nat.sub_self, Nat.reduceAdd, Nat.reduceSub, Bool.or_true, Bool.or_false, Bool.true_or, Bool.false_or, Bool.and_true, Bool.and_false, decide_true, decide_false, List.getElem?_cons_zero, List.getElem?_cons_succ, Option.some.injEq, exists_eq_left', exists_eq_left, true_and, and_true, at0, at1, at2, at3, List.length_map, List.cons.injEq, Int.cast_ofNat_Int, Int.reduceEq, Int.reduceLT, Int.reduceLE, D.int.injEq, D.str.injEq, D.bl.injEq, D.tup.injEq, D.lst.injEq, exists_const, Int.zero_add, Nat.zero_add, Int.natCast_add, Int.natCast_one, Int.reduceAdd, sp_is_box, sp_is_of]
  refine ⟨k, s, d, ⟨rfl, rfl⟩, hd, ite2 (fun hb => ?_) (fun hb => ?_)⟩
  · unfold isCorner at h
    rw [hb] at h
    unfold isBox at hb
    split at hb
    · rename_i es
      simp only [Bool.and_eq_true, List.all_eq_true] at hb
      exact ⟨es, rfl, (okT_at hd).1, hb.2, h⟩
    · cases hb
  · unfold isCorner at h
    rw [Bool.not_eq_true] at hb
    rw [hb] at h
    exact h
abbrev s_side_size : Stmt := top 24
theorem sc_side_size : FnScope ["side", "found"] ["side"] (defScope s_side_size) := ⟨rfl, rfl, rfl, by decide +kernel, rfl, by decide +kernel, by decide +kernel⟩
theorem ok_side_size (F0 : Df K mg "side_size" s_side_size) (B : Bt mg) (C : Cs K w mg) (h_from_nought : Has Pr w K mg base "from_nought" ["one"] k_from_nought sp_from_nought) : Has Pr w K mg base "side_size" ["side"] k_side_size sp_side_size := by
  have sc := sc_side_size
  refine has_mk (k := _) F0 sc (fun _ _ _ _ _ _ us hl => match us, hl with | [_], _ => rfl) len_side_size (fun f cdv A outer s H E hr => ⟨_,
    (bCons (sIf (bEq hr (vIx (vN 0) vI) vS)
      (bOne (sRet (vCall h_from_nought hr (aCons (vIx (vN 0) vI) aNil))))
      bNil)
    bNo), ?_⟩)
  rintro _ n P ⟨q, rfl, hq, h⟩
  simp only [SSeq, SNil, SIf, SRet, SSet, SAsg, SPar, SMuL, SApp, SExt, SPut, SFz, frzR, SNo, TVar, TC, TOp, TB, TNil, TCons, TTup, TLst, TKey, oIx, seqOf, TAnd, TOr, TNot, TAndV, TOrV, TNotV, TIf, TCB, cLen, cAbs, cMax2, cMin2, cAll, cList, cTuple, cInt, TIsi, isD, tyD, TCall, TChain, TLc, TLc0, SFor, ISeq, IRg1, IRg2, IZip, TSl, TPs, TPn, slD, cut1, opII, opI0, TNeg, oAdd, oIsN, oNotN, oIsB, opEq, eqD, getS, startR, GName, GNil, GCons, GTup, List.map_cons, List.map_nil, List.length_cons, List.length_nil, List.cons_append, List.nil_append, List.set_cons_zero, List.set_cons_succ, List.replicate, List.append_nil, Option.map_some, Bool.not_true, Bool.not_false, Bool.false_eq_true, if_true, if_false, ite_true, ite_false, reduceIte, Nat.sub_self, Nat.reduceAdd, Nat.reduceSub, Bool.or_true, Bool.or_false, Bool.true_or, Bool.false_or, Bool.and_true, Bool.and_false, decide_true, decide_false, List.getElem?_cons_zero, List.getElem?_cons_succ, Option.some.injEq, exists_eq_left', exists_eq_left, true_and, and_true, at0, at1, at2, at3, List.length_map, List.cons.injEq, Int.cast_ofNat_Int, Int.reduceEq, Int.reduceLT, Int.reduceLE, D.int.injEq, D.str.injEq, D.bl.injEq, D.tup.injEq, D.lst.injEq, exists_const, Int.zero_add, Nat.zero_add, Int.natCast_add, Int.natCast_one, Int.reduceAdd, sideD, sp_from_nought]
  exact ⟨q, rfl, by have := hq.den; omega, h⟩
abbrev s_size_of : Stmt := top 25
theorem sc_size_of : FnScope ["box", "found", "side"] ["box"] (defScope s_size_of) := ⟨rfl, rfl, rfl, by decide +kernel, rfl, by decide +kernel, by decide +kernel⟩
theorem ok_size_of (F0 : Df K mg "size_of" s_size_of) (B : Bt mg) (C : Cs K w mg) (h_times : Has Pr w K mg base "times" ["one", "other"] k_times sp_times) (h_side_size : Has Pr w K mg base "side_size" ["side"] k_side_size sp_side_size) : Has Pr w K mg base "size_of" ["box"] k_size_of sp_size_of := by
  have sc := sc_size_of
  refine has_mk (k := _) F0 sc (fun _ _ _ _ _ _ us hl => match us, hl with | [_], _ => rfl) len_size_of (fun f cdv A outer s H E hr => ⟨_,
    (bCons (sSet 1 sc.nd (vGloX C.oneX))
    (bCons (sFor .never (iT (vN 0)) (gN 2 sc.nd)
      (bOne (sSet 1 sc.nd (vCall h_times hr (aCons (vN 1) (aCons (vCall h_side_size hr (aCons (vN 2) aNil)) aNil))))))
    (bOne (sRet (vN 1))))), ?_⟩)
  rintro _ n P ⟨qs, rfl, hq, h⟩
  simp only [SSeq, SNil, SIf, SRet, SSet, SAsg, SPar, SMuL, SApp, SExt, SPut, SFz, frzR, SNo, TVar, TC, TOp, TB, TNil, TCons, TTup, TLst, TKey, oIx, seqOf, TAnd, TOr, TNot, TAndV, TOrV, TNotV, TIf, TCB, cLen, cAbs, cMax2, cMin2, cAll, cList, cTuple, cInt, TIsi, isD, tyD, TCall, TChain, TLc, TLc0, SFor, ISeq, IRg1, IRg2, IZip, TSl, TPs, TPn, slD, cut1, opII, opI0, TNeg, oAdd, oIsN, oNotN, oIsB, opEq, eqD, getS, startR, GName, GNil, GCons, GTup, List.map_cons, List.map_nil, List.length_cons, List.length_nil, List.cons_append, List.nil_append, List.set_cons_zero, List.set_cons_succ, List.replicate, List.append_nil, Option.map_some, Bool.not_true, Bool.not_false, Bool.false_eq_true, if_true, if_false, ite_true, ite_false, reduceIte, Nat.sub_self, Nat.reduceAdd, Nat.reduceSub, Bool.or_true, Bool.or_false, Bool.true_or, Bool.false_or, Bool.and_true, Bool.and_false, decide_true, decide_false, List.getElem?_cons_zero, List.getElem?_cons_succ, Option.some.injEq, exists_eq_left', exists_eq_left, true_and, and_true, at0, at1, at2, at3, List.length_map, List.cons.injEq, Int.cast_ofNat_Int, Int.reduceEq, Int.reduceLT, Int.reduceLE, D.int.injEq, D.str.injEq, D.bl.injEq, D.tup.injEq, D.lst.injEq, exists_const, Int.zero_add, Nat.zero_add, Int.natCast_add, Int.natCast_one, Int.reduceAdd, boxD]
  refine ⟨fun i ρ n' => n' = n ∧ ρ.length = 3 ∧ getS ρ 1 = .val (fr ((qs.take i).foldl (fun f q => f * up0 q) 1)), ⟨rfl, rfl, rfl⟩, ?_, ?_⟩
  · rintro i d ρ n' hd ⟨rfl, hl, hv⟩
    match ρ, hl, hv with
    | [a, b, c], _, hv =>
      cases (show b = _ from hv)
      rw [List.getElem?_map] at hd
      have hi : i < qs.length := by
        cases q : qs[i]? with
        | none => rw [q] at hd; cases hd
        | some _ => exact (List.getElem?_eq_some_iff.mp q).1
      rw [List.getElem?_eq_getElem hi] at hd
      cases hd
      simp only [SSeq, SNil, SIf, SRet, SSet, SAsg, SPar, SMuL, SApp, SExt, SPut, SFz, frzR, SNo, TVar, TC, TOp, TB, TNil, TCons, TTup, TLst, TKey, oIx, seqOf, TAnd, TOr, TNot, TAndV, TOrV, TNotV, TIf, TCB, cLen, cAbs, cMax2, cMin2, cAll, cList, cTuple, cInt, TIsi, isD, tyD, TCall, TChain, TLc, TLc0, SFor, ISeq, IRg1, IRg2, IZip, TSl, TPs, TPn, slD, cut1, opII, opI0, TNeg, oAdd, oIsN, oNotN, oIsB, opEq, eqD, getS, startR, GName, GNil, GCons, GTup, List.map_cons, List.map_nil, List.length_cons, List.length_nil, List.cons_append, List.nil_append, List.set_cons_zero, List.set_cons_succ, List.replicate, List.append_nil, Option.map_some, Bool.not_true, Bool.not_false, Bool.false_eq_true, if_true, if_false, ite_true, ite_false, reduceIte, Nat.sub_self, Nat.reduceAdd, Nat.reduceSub, Bool.or_true, Bool.or_false, Bool.true_or, Bool.false_or, Bool.and_true, Bool.and_false, decide_true, decide_false, List.getElem?_cons_zero, List.getElem?_cons_succ, Option.some.injEq, exists_eq_left', exists_eq_left, true_and, and_true, at0, at1, at2, at3, List.length_map, List.cons.injEq, Int.cast_ofNat_Int, Int.reduceEq, Int.reduceLT, Int.reduceLE, D.int.injEq, D.str.injEq, D.bl.injEq, D.tup.injEq, D.lst.injEq, exists_const, Int.zero_add, Nat.zero_add, Int.natCast_add, Int.natCast_one, Int.reduceAdd, sp_side_size, sp_times]
      have F := sizeQ_take hq i (by omega)
      have E := hq.ed qs[i] (List.getElem_mem _)
      obtain ⟨u0, u1, ud⟩ := up0_bds E
      have i2 : i < 2 := by have := hq.len; omega
      have e1000 : (1000 : Nat) ^ i ≤ 1000 := by
        have := Nat.pow_le_pow_right (n := 1000) (by omega) (show i ≤ 1 by omega)
        omega
      have fd := Nat.le_trans F.den e1000
      refine ⟨_, rfl, E, _, _, ⟨rfl, rfl⟩, ?_, ?_, ?_⟩
      · have := Nat.mul_le_mul fd ud
        omega
      · obtain ⟨n0, n1⟩ := num_le_den F.lo F.hi
        exact .inl ⟨by omega, by omega⟩
      · have e : qs.take (i + 1) = qs.take i ++ [qs[i]] := by
          rw [List.take_add_one, List.getElem?_eq_getElem hi]; rfl
        rw [e, List.foldl_append]
        rfl
  · rintro ρ n' ⟨rfl, hl, hv⟩
    match ρ, hl, hv with
    | [a, b, c], _, hv =>
      cases (show b = _ from hv)
      simp only [SSeq, SNil, SIf, SRet, SSet, SAsg, SPar, SMuL, SApp, SExt, SPut, SFz, frzR, SNo, TVar, TC, TOp, TB, TNil, TCons, TTup, TLst, TKey, oIx, seqOf, TAnd, TOr, TNot, TAndV, TOrV, TNotV, TIf, TCB, cLen, cAbs, cMax2, cMin2, cAll, cList, cTuple, cInt, TIsi, isD, tyD, TCall, TChain, TLc, TLc0, SFor, ISeq, IRg1, IRg2, IZip, TSl, TPs, TPn, slD, cut1, opII, opI0, TNeg, oAdd, oIsN, oNotN, oIsB, opEq, eqD, getS, startR, GName, GNil, GCons, GTup, List.map_cons, List.map_nil, List.length_cons, List.length_nil, List.cons_append, List.nil_append, List.set_cons_zero, List.set_cons_succ, List.replicate, List.append_nil, Option.map_some, Bool.not_true, Bool.not_false, Bool.false_eq_true, if_true, if_false, ite_true, ite_false, reduceIte, Nat.sub_self, Nat.reduceAdd, Nat.reduceSub, Bool.or_true, Bool.or_false, Bool.true_or, Bool.false_or, Bool.and_true, Bool.and_false, decide_true, decide_false, List.getElem?_cons_zero, List.getElem?_cons_succ, Option.some.injEq, exists_eq_left', exists_eq_left, true_and, and_true, at0, at1, at2, at3, List.length_map, List.cons.injEq, Int.cast_ofNat_Int, Int.reduceEq, Int.reduceLT, Int.reduceLE, D.int.injEq, D.str.injEq, D.bl.injEq, D.tup.injEq, D.lst.injEq, exists_const, Int.zero_add, Nat.zero_add, Int.natCast_add, Int.natCast_one, Int.reduceAdd]
      rw [List.take_length]
      exact h
abbrev s_is_ahead : Stmt := top 27
theorem sc_is_ahead : FnScope ["x", "edge", "way"] ["x", "edge", "way"] (defScope s_is_ahead) := ⟨rfl, rfl, rfl, by decide +kernel, rfl, by decide +kernel, by decide +kernel⟩
theorem ok_is_ahead (F0 : Df K mg "is_ahead" s_is_ahead) (B : Bt mg) (C : Cs K w mg) (h_is_below : Has Pr w K mg base "is_below" ["one", "other"] k_is_below sp_is_below) : Has Pr w K mg base "is_ahead" ["x", "edge", "way"] k_is_ahead sp_is_ahead := by
  have sc := sc_is_ahead
  refine has_mk (k := _) F0 sc (fun _ _ _ _ _ _ us hl => match us, hl with | [_, _, _], _ => rfl) len_is_ahead (fun f cdv A outer s H E hr => ⟨_,
    (bOne (sRet (vOr (vCall h_is_below hr (aCons (vN 0) (aCons (vN 1) aNil))) (v1 (vAnd (vEq hr (vN 0) (vN 1)) (v1 (vEq hr (vN 2) vS))))))), ?_⟩)
  rintro _ n P ⟨x, q, way, rfl, hx, hq, h⟩
  simp only [SSeq, SNil, SIf, SRet, SSet, SAsg, SPar, SMuL, SApp, SExt, SPut, SFz, frzR, SNo, TVar, TC, TOp, TB, TNil, TCons, TTup, TLst, TKey, oIx, seqOf, TAnd, TOr, TNot, TAndV, TOrV, TNotV, TIf, TCB, cLen, cAbs, cMax2, cMin2, cAll, cList, cTuple, cInt, TIsi, isD, tyD, TCall, TChain, TLc, TLc0, SFor, ISeq, IRg1, IRg2, IZip, TSl, TPs, TPn, slD, cut1, opII, opI0, TNeg, oAdd, oIsN, oNotN, oIsB, opEq, eqD, getS, startR, GName, GNil, GCons, GTup, List.map_cons, List.map_nil, List.length_cons, List.length_nil, List.cons_append, List.nil_append, List.set_cons_zero, List.set_cons_succ, List.replicate, List.append_nil, Option.map_some, Bool.not_true, Bool.not_false, Bool.false_eq_true, if_true, if_false, ite_true, ite_false, reduceIte, Nat.sub_self, Nat.reduceAdd, Nat.reduceSub, Bool.or_true, Bool.or_false, Bool.true_or, Bool.false_or, Bool.and_true, Bool.and_false, decide_true, decide_false, List.getElem?_cons_zero, List.getElem?_cons_succ, Option.some.injEq, exists_eq_left', exists_eq_left, true_and, and_true, at0, at1, at2, at3, List.length_map, List.cons.injEq, Int.cast_ofNat_Int, Int.reduceEq, Int.reduceLT, Int.reduceLE, D.int.injEq, D.str.injEq, D.bl.injEq, D.tup.injEq, D.lst.injEq, exists_const, Int.zero_add, Nat.zero_add, Int.natCast_add, Int.natCast_one, Int.reduceAdd, sp_is_below]
  refine ⟨x, q, ⟨rfl, rfl⟩, hx, hq, ?_⟩
  unfold ahead at h
  refine ite2 (fun hb => ?_) (fun hb => ?_)
  · rw [hb] at h; exact h
  · rw [Bool.not_eq_true] at hb
    rw [hb] at h
    have e : decide (x.num = q.num ∧ (x.den : Int) = q.den) = decide (x = q) := decide_eq_decide.mpr fr_eq
    show if decide (x.num = q.num ∧ (x.den : Int) = q.den) = true then _ else _
    rw [e]
    cases q1 : decide (x = q) <;> rw [q1] at h <;> exact h
abbrev s_lies : Stmt := top 28
theorem sc_lies : FnScope ["x", "side", "way"] ["x", "side", "way"] (defScope s_lies) := ⟨rfl, rfl, rfl, by decide +kernel, rfl, by decide +kernel, by decide +kernel⟩
theorem ok_lies (F0 : Df K mg "lies" s_lies) (B : Bt mg) (C : Cs K w mg) (h_is_ahead : Has Pr w K mg base "is_ahead" ["x", "edge", "way"] k_is_ahead sp_is_ahead) : Has Pr w K mg base "lies" ["x", "side", "way"] k_lies sp_lies := by
  have sc := sc_lies
  refine has_mk (k := _) F0 sc (fun _ _ _ _ _ _ us hl => match us, hl with | [_, _, _], _ => rfl) len_lies (fun f cdv A outer s H E hr => ⟨_,
    (bCons (sIf (bEq hr (vIx (vN 1) vI) vS)
      (bOne (sRet (vCall h_is_ahead hr (aCons (vN 0) (aCons (vIx (vN 1) vI) (aCons (vN 2) aNil))))))
      bNil)
    bNo), ?_⟩)
  rintro _ n P ⟨x, q, way, rfl, hx, hq, h⟩
  simp only [SSeq, SNil, SIf, SRet, SSet, SAsg, SPar, SMuL, SApp, SExt, SPut, SFz, frzR, SNo, TVar, TC, TOp, TB, TNil, TCons, TTup, TLst, TKey, oIx, seqOf, TAnd, TOr, TNot, TAndV, TOrV, TNotV, TIf, TCB, cLen, cAbs, cMax2, cMin2, cAll, cList, cTuple, cInt, TIsi, isD, tyD, TCall, TChain, TLc, TLc0, SFor, ISeq, IRg1, IRg2, IZip, TSl, TPs, TPn, slD, cut1, opII, opI0, TNeg, oAdd, oIsN, oNotN, oIsB, opEq, eqD, getS, startR, GName, GNil, GCons, GTup, List.map_cons, List.map_nil, List.length_cons, List.length_nil, List.cons_append, List.nil_append, List.set_cons_zero, List.set_cons_succ, List.replicate, List.append_nil, Option.map_some, Bool.not_true, Bool.not_false, Bool.false_eq_true, if_true, if_false, ite_true, ite_false, reduceIte, Nat.sub_self, Nat.reduceAdd, Nat.reduceSub, Bool.or_true, Bool.or_false, Bool.true_or, Bool.false_or, Bool.and_true, Bool.and_false, decide_true, decide_false, List.getElem?_cons_zero, List.getElem?_cons_succ, Option.some.injEq, exists_eq_left', exists_eq_left, true_and, and_true, at0, at1, at2, at3, List.length_map, List.cons.injEq, Int.cast_ofNat_Int, Int.reduceEq, Int.reduceLT, Int.reduceLE, D.int.injEq, D.str.injEq, D.bl.injEq, D.tup.injEq, D.lst.injEq, exists_const, Int.zero_add, Nat.zero_add, Int.natCast_add, Int.natCast_one, Int.reduceAdd, sideD, sp_is_ahead]
  exact ⟨x, q, way, ⟨rfl, rfl, rfl⟩, hx, hq, h⟩
abbrev s_lies_in : Stmt := top 29
theorem sc_lies_in : FnScope ["point", "box", "way", "x", "side"] ["point", "box", "way"] (defScope s_lies_in) := ⟨rfl, rfl, rfl, by decide +kernel, rfl, by decide +kernel, by decide +kernel⟩
theorem ok_lies_in (F0 : Df K mg "lies_in" s_lies_in) (B : Bt mg) (C : Cs K w mg) (h_lies : Has Pr w K mg base "lies" ["x", "side", "way"] k_lies sp_lies) : Has Pr w K mg base "lies_in" ["point", "box", "way"] k_lies_in sp_lies_in := by
  have sc := sc_lies_in
  refine has_mk (k := _) F0 sc (fun _ _ _ _ _ _ us hl => match us, hl with | [_, _, _], _ => rfl) len_lies_in (fun f cdv A outer s H E hr => ⟨_,
    (bOne (sRet (vAll B.all (aCons (vLc (own := [("x", 3), ("side", 4)]) sc.nd (iZip B.zip (aCons (vN 0) (aCons (vN 1) aNil))) (fun _ _ _ _ _ => (gTup (m := 2) (gCons (gN 3 sc.nd) (gCons (gN 4 sc.nd) gNil)))) (fun _ _ _ _ _ => tN) (fun _ _ _ _ _ => (vCall h_lies hr (aCons (vN 3) (aCons (vN 4) (aCons (vN 2) aNil)))))) aNil)))), ?_⟩)
  rintro _ n P ⟨xs, qs, way, rfl, hq, hx, h⟩
  simp only [SSeq, SNil, SIf, SRet, SSet, SAsg, SPar, SMuL, SApp, SExt, SPut, SFz, frzR, SNo, TVar, TC, TOp, TB, TNil, TCons, TTup, TLst, TKey, oIx, seqOf, TAnd, TOr, TNot, TAndV, TOrV, TNotV, TIf, TCB, cLen, cAbs, cMax2, cMin2, cAll, cList, cTuple, cInt, TIsi, isD, tyD, TCall, TChain, TLc, TLc0, SFor, ISeq, IRg1, IRg2, IZip, TSl, TPs, TPn, slD, cut1, opII, opI0, TNeg, oAdd, oIsN, oNotN, oIsB, opEq, eqD, getS, startR, GName, GNil, GCons, GTup, List.map_cons, List.map_nil, List.length_cons, List.length_nil, List.cons_append, List.nil_append, List.set_cons_zero, List.set_cons_succ, List.replicate, List.append_nil, Option.map_some, Bool.not_true, Bool.not_false, Bool.false_eq_true, if_true, if_false, ite_true, ite_false, reduceIte, Nat.sub_self, Nat.reduceAdd, Nat.reduceSub, Bool.or_true, Bool.or_false, Bool.true_or, Bool.false_or, Bool.and_true, Bool.and_false, decide_true, decide_false, List.getElem?_cons_zero, List.getElem?_cons_succ, Option.some.injEq, exists_eq_left', exists_eq_left, true_and, and_true, at0, at1, at2, at3, List.length_map, List.cons.injEq, Int.cast_ofNat_Int, Int.reduceEq, Int.reduceLT, Int.reduceLE, D.int.injEq, D.str.injEq, D.bl.injEq, D.tup.injEq, D.lst.injEq, exists_const, Int.zero_add, Nat.zero_add, Int.natCast_add, Int.natCast_one, Int.reduceAdd, ptD, boxD]
  rw [List.zip_map, List.map_map]
  have hz : (xs.zip qs).length ≤ sizeLine := by
    rw [List.length_zip]
    have := hq.len
    exact sz8 (by omega)
  refine lc_blF (xs.zip qs) _ (fun p => ahead p.1 p.2 way) hz (fun p hp Q hQ => ?_) h
  have h1 := hx p.1 (List.of_mem_zip hp).1
  have h2 := (hq.ed p.2 (List.of_mem_zip hp).2).den
  simp only [SSeq, SNil, SIf, SRet, SSet, SAsg, SPar, SMuL, SApp, SExt, SPut, SFz, frzR, SNo, TVar, TC, TOp, TB, TNil, TCons, TTup, TLst, TKey, oIx, seqOf, TAnd, TOr, TNot, TAndV, TOrV, TNotV, TIf, TCB, cLen, cAbs, cMax2, cMin2, cAll, cList, cTuple, cInt, TIsi, isD, tyD, TCall, TChain, TLc, TLc0, SFor, ISeq, IRg1, IRg2, IZip, TSl, TPs, TPn, slD, cut1, opII, opI0, TNeg, oAdd, oIsN, oNotN, oIsB, opEq, eqD, getS, startR, GName, GNil, GCons, GTup, List.map_cons, List.map_nil, List.length_cons, List.length_nil, List.cons_append, List.nil_append, List.set_cons_zero, List.set_cons_succ, List.replicate, List.append_nil, Option.map_some, Bool.not_true, Bool.not_false, Bool.false_eq_true, if_true, if_false, ite_true, ite_false, reduceIte, Nat.sub_self, Nat.reduceAdd, Nat.reduceSub, Bool.or_true, Bool.or_false, Bool.true_or, Bool.false_or, Bool.and_true, Bool.and_false, decide_true, decide_false, List.getElem?_cons_zero, List.getElem?_cons_succ, Option.some.injEq, exists_eq_left', exists_eq_left, true_and, and_true, at0, at1, at2, at3, List.length_map, List.cons.injEq, Int.cast_ofNat_Int, Int.reduceEq, Int.reduceLT, Int.reduceLE, D.int.injEq, D.str.injEq, D.bl.injEq, D.tup.injEq, D.lst.injEq, exists_const, Int.zero_add, Nat.zero_add, Int.natCast_add, Int.natCast_one, Int.reduceAdd, wipeR, sp_lies, Function.comp_apply, Prod.map_fst, Prod.map_snd]
  exact ⟨p.1, p.2, way, ⟨rfl, rfl, rfl⟩, by omega, by omega, hQ⟩
abbrev s_inside : Stmt := top 30
theorem sc_inside : FnScope ["points", "box", "way", "point"] ["points", "box", "way"] (defScope s_inside) := ⟨rfl, rfl, rfl, by decide +kernel, rfl, by decide +kernel, by decide +kernel⟩
theorem ok_inside (F0 : Df K mg "inside" s_inside) (B : Bt mg) (C : Cs K w mg) (h_lies_in : Has Pr w K mg base "lies_in" ["point", "box", "way"] k_lies_in sp_lies_in) : Has Pr w K mg base "inside" ["points", "box", "way"] k_inside sp_inside := by
  have sc := sc_inside
  refine has_mk (k := _) F0 sc (fun _ _ _ _ _ _ us hl => match us, hl with | [_, _, _], _ => rfl) len_inside (fun f cdv A outer s H E hr => ⟨_,
    (bOne (sRet (vLen B.len (aCons (vLc (own := [("point", 3)]) sc.nd (iT (vN 0)) (fun _ _ _ _ _ => (gN 3 sc.nd)) (fun _ _ _ _ _ => t1 (bVal (vCall h_lies_in hr (aCons (vN 3) (aCons (vN 1) (aCons (vN 2) aNil)))))) (fun _ _ _ _ _ => (vN 3))) aNil)))), ?_⟩)
  rintro _ n P ⟨pts, qs, way, rfl, hp, hq, h⟩
  simp only [SSeq, SNil, SIf, SRet, SSet, SAsg, SPar, SMuL, SApp, SExt, SPut, SFz, frzR, SNo, TVar, TC, TOp, TB, TNil, TCons, TTup, TLst, TKey, oIx, seqOf, TAnd, TOr, TNot, TAndV, TOrV, TNotV, TIf, TCB, cLen, cAbs, cMax2, cMin2, cAll, cList, cTuple, cInt, TIsi, isD, tyD, TCall, TChain, TLc, TLc0, SFor, ISeq, IRg1, IRg2, IZip, TSl, TPs, TPn, slD, cut1, opII, opI0, TNeg, oAdd, oIsN, oNotN, oIsB, opEq, eqD, getS, startR, GName, GNil, GCons, GTup, List.map_cons, List.map_nil, List.length_cons, List.length_nil, List.cons_append, List.nil_append, List.set_cons_zero, List.set_cons_succ, List.replicate, List.append_nil, Option.map_some, Bool.not_true, Bool.not_false, Bool.false_eq_true, if_true, if_false, ite_true, ite_false, reduceIte, Nat.sub_self, Nat.reduceAdd, Nat.reduceSub, Bool.or_true, Bool.or_false, Bool.true_or, Bool.false_or, Bool.and_true, Bool.and_false, decide_true, decide_false, List.getElem?_cons_zero, List.getElem?_cons_succ, Option.some.injEq, exists_eq_left', exists_eq_left, true_and, and_true, at0, at1, at2, at3, List.length_map, List.cons.injEq, Int.cast_ofNat_Int, Int.reduceEq, Int.reduceLT, Int.reduceLE, D.int.injEq, D.str.injEq, D.bl.injEq, D.tup.injEq, D.lst.injEq, exists_const, Int.zero_add, Nat.zero_add, Int.natCast_add, Int.natCast_one, Int.reduceAdd]
  refine lc_filtF pts ptD (fun xs => inB xs qs way) ptD (sz8 hp.len) (fun xs hx Q Q0 h1 h2 => ?_) ?_
  · simp only [SSeq, SNil, SIf, SRet, SSet, SAsg, SPar, SMuL, SApp, SExt, SPut, SFz, frzR, SNo, TVar, TC, TOp, TB, TNil, TCons, TTup, TLst, TKey, oIx, seqOf, TAnd, TOr, TNot, TAndV, TOrV, TNotV, TIf, TCB, cLen, cAbs, cMax2, cMin2, cAll, cList, cTuple, cInt, TIsi, isD, tyD, TCall, TChain, TLc, TLc0, SFor, ISeq, IRg1, IRg2, IZip, TSl, TPs, TPn, slD, cut1, opII, opI0, TNeg, oAdd, oIsN, oNotN, oIsB, opEq, eqD, getS, startR, GName, GNil, GCons, GTup, List.map_cons, List.map_nil, List.length_cons, List.length_nil, List.cons_append, List.nil_append, List.set_cons_zero, List.set_cons_succ, List.replicate, List.append_nil, Option.map_some, Bool.not_true, Bool.not_false, Bool.false_eq_true, if_true, if_false, ite_true, ite_false, reduceIte, Nat.sub_self, Nat.reduceAdd, Nat.reduceSub, Bool.or_true, Bool.or_false, Bool.true_or, Bool.false_or, Bool.and_true, Bool.and_false, decide_true, decide_false, List.getElem?_cons_zero, List.getElem?_cons_succ, Option.some.injEq, exists_eq_left', exists_eq_left, true_and, and_true, at0, at1, at2, at3, List.length_map, List.cons.injEq, Int.cast_ofNat_Int, Int.reduceEq, Int.reduceLT, Int.reduceLE, D.int.injEq, D.str.injEq, D.bl.injEq, D.tup.injEq, D.lst.injEq, exists_const, Int.zero_add, Nat.zero_add, Int.natCast_add, Int.natCast_one, Int.reduceAdd, wipeR, sp_lies_in]
    refine ⟨xs, qs, way, ⟨rfl, rfl, rfl⟩, hq, hp.den xs hx, ?_⟩
    cases e : inB xs qs way
    · exact iteF (h2 e)
    · exact iteT (h1 e)
  · rw [List.length_map]
    exact h
abbrev s_over_of : Stmt := top 31
theorem sc_over_of : FnScope ["points", "box"] ["points", "box"] (defScope s_over_of) := ⟨rfl, rfl, rfl, by decide +kernel, rfl, by decide +kernel, by decide +kernel⟩
theorem ok_over_of (F0 : Df K mg "over_of" s_over_of) (B : Bt mg) (C : Cs K w mg) (h_less : Has Pr w K mg base "less" ["one", "other"] k_less sp_less) (h_size_of : Has Pr w K mg base "size_of" ["box"] k_size_of sp_size_of) (h_fraction : Has Pr w K mg base "fraction" ["top", "bottom"] k_fraction sp_fraction) (h_inside : Has Pr w K mg base "inside" ["points", "box", "way"] k_inside sp_inside) : Has Pr w K mg base "over_of" ["points", "box"] k_over_of sp_over_of := by
  have sc := sc_over_of
  refine has_mk (k := _) F0 sc (fun _ _ _ _ _ _ us hl => match us, hl with | [_, _], _ => rfl) len_over_of (fun f cdv A outer s H E hr => ⟨_,
    (bOne (sRet (vCall h_less hr (aCons (vCall h_fraction hr (aCons (vCall h_inside hr (aCons (vN 0) (aCons (vN 1) (aCons vS aNil)))) (aCons (vLen B.len (aCons (vN 0) aNil)) aNil))) (aCons (vCall h_size_of hr (aCons (vN 1) aNil)) aNil))))), ?_⟩)
  rintro _ n P ⟨pts, qs, rfl, hp, hq, h⟩
  simp only [SSeq, SNil, SIf, SRet, SSet, SAsg, SPar, SMuL, SApp, SExt, SPut, SFz, frzR, SNo, TVar, TC, TOp, TB, TNil, TCons, TTup, TLst, TKey, oIx, seqOf, TAnd, TOr, TNot, TAndV, TOrV, TNotV, TIf, TCB, cLen, cAbs, cMax2, cMin2, cAll, cList, cTuple, cInt, TIsi, isD, tyD, TCall, TChain, TLc, TLc0, SFor, ISeq, IRg1, IRg2, IZip, TSl, TPs, TPn, slD, cut1, opII, opI0, TNeg, oAdd, oIsN, oNotN, oIsB, opEq, eqD, getS, startR, GName, GNil, GCons, GTup, List.map_cons, List.map_nil, List.length_cons, List.length_nil, List.cons_append, List.nil_append, List.set_cons_zero, List.set_cons_succ, List.replicate, List.append_nil, Option.map_some, Bool.not_true, Bool.not_false, Bool.false_eq_true, if_true, if_false, ite_true, ite_false, reduceIte, Nat.sub_self, Nat.reduceAdd, Nat.reduceSub, Bool.or_true, Bool.or_false, Bool.true_or, Bool.false_or, Bool.and_true, Bool.and_false, decide_true, decide_false, List.getElem?_cons_zero, List.getElem?_cons_succ, Option.some.injEq, exists_eq_left', exists_eq_left, true_and, and_true, at0, at1, at2, at3, List.length_map, List.cons.injEq, Int.cast_ofNat_Int, Int.reduceEq, Int.reduceLT, Int.reduceLE, D.int.injEq, D.str.injEq, D.bl.injEq, D.tup.injEq, D.lst.injEq, exists_const, Int.zero_add, Nat.zero_add, Int.natCast_add, Int.natCast_one, Int.reduceAdd, sp_inside, sp_fraction, sp_size_of, sp_less]
  have hl : 0 < pts.length := List.length_pos_iff.mpr hp.ne
  have F := sizeQ_fine hq
  have hl8 := hp.len
  refine ⟨pts, qs, _, ⟨rfl, rfl, rfl⟩, hp, hq, _, pts.length, ⟨rfl, rfl⟩, hl, by omega, qs, rfl, hq, _, _, ⟨rfl, rfl⟩, ?_, h⟩
  have d1 := mkRat_den (cntB pts qs "shut") pts.length (by omega)
  have := Nat.mul_le_mul (Nat.le_trans d1 hl8) F.den
  omega
abbrev s_lack_of : Stmt := top 32
theorem sc_lack_of : FnScope ["points", "box"] ["points", "box"] (defScope s_lack_of) := ⟨rfl, rfl, rfl, by decide +kernel, rfl, by decide +kernel, by decide +kernel⟩
theorem ok_lack_of (F0 : Df K mg "lack_of" s_lack_of) (B : Bt mg) (C : Cs K w mg) (h_less : Has Pr w K mg base "less" ["one", "other"] k_less sp_less) (h_fraction : Has Pr w K mg base "fraction" ["top", "bottom"] k_fraction sp_fraction) (h_inside : Has Pr w K mg base "inside" ["points", "box", "way"] k_inside sp_inside) (h_size_of : Has Pr w K mg base "size_of" ["box"] k_size_of sp_size_of) : Has Pr w K mg base "lack_of" ["points", "box"] k_lack_of sp_lack_of := by
  have sc := sc_lack_of
  refine has_mk (k := _) F0 sc (fun _ _ _ _ _ _ us hl => match us, hl with | [_, _], _ => rfl) len_lack_of (fun f cdv A outer s H E hr => ⟨_,
    (bOne (sRet (vCall h_less hr (aCons (vCall h_size_of hr (aCons (vN 1) aNil)) (aCons (vCall h_fraction hr (aCons (vCall h_inside hr (aCons (vN 0) (aCons (vN 1) (aCons vS aNil)))) (aCons (vLen B.len (aCons (vN 0) aNil)) aNil))) aNil))))), ?_⟩)
  rintro _ n P ⟨pts, qs, rfl, hp, hq, h⟩
  simp only [SSeq, SNil, SIf, SRet, SSet, SAsg, SPar, SMuL, SApp, SExt, SPut, SFz, frzR, SNo, TVar, TC, TOp, TB, TNil, TCons, TTup, TLst, TKey, oIx, seqOf, TAnd, TOr, TNot, TAndV, TOrV, TNotV, TIf, TCB, cLen, cAbs, cMax2, cMin2, cAll, cList, cTuple, cInt, TIsi, isD, tyD, TCall, TChain, TLc, TLc0, SFor, ISeq, IRg1, IRg2, IZip, TSl, TPs, TPn, slD, cut1, opII, opI0, TNeg, oAdd, oIsN, oNotN, oIsB, opEq, eqD, getS, startR, GName, GNil, GCons, GTup, List.map_cons, List.map_nil, List.length_cons, List.length_nil, List.cons_append, List.nil_append, List.set_cons_zero, List.set_cons_succ, List.replicate, List.append_nil, Option.map_some, Bool.not_true, Bool.not_false, Bool.false_eq_true, if_true, if_false, ite_true, ite_false, reduceIte, Nat.sub_self, Nat.reduceAdd, Nat.reduceSub, Bool.or_true, Bool.or_false, Bool.true_or, Bool.false_or, Bool.and_true, Bool.and_false, decide_true, decide_false, List.getElem?_cons_zero, List.getElem?_cons_succ, Option.some.injEq, exists_eq_left', exists_eq_left, true_and, and_true, at0, at1, at2, at3, List.length_map, List.cons.injEq, Int.cast_ofNat_Int, Int.reduceEq, Int.reduceLT, Int.reduceLE, D.int.injEq, D.str.injEq, D.bl.injEq, D.tup.injEq, D.lst.injEq, exists_const, Int.zero_add, Nat.zero_add, Int.natCast_add, Int.natCast_one, Int.reduceAdd, sp_inside, sp_fraction, sp_size_of, sp_less]
  have hl : 0 < pts.length := List.length_pos_iff.mpr hp.ne
  have F := sizeQ_fine hq
  have hl8 := hp.len
  refine ⟨qs, rfl, hq, pts, qs, _, ⟨rfl, rfl, rfl⟩, hp, hq, _, pts.length, ⟨rfl, rfl⟩, hl, by omega, _, _, ⟨rfl, rfl⟩, ?_, h⟩
  have d1 := mkRat_den (cntB pts qs "open") pts.length (by omega)
  have := Nat.mul_le_mul F.den (Nat.le_trans d1 hl8)
  omega
end
end Pu

/-! W3: numbers in size, looks, the worst box. -/
namespace Pu
open PySem PySem.Spec PyProof.Rows L2
def insQ : List Rat → Rat → List Rat
  | [], x => [x]
  | a :: l, x => if a < x then a :: insQ l x else if a = x then a :: l else x :: a :: l
def srt (xs : List Rat) : List Rat := xs.foldl insQ []
theorem insQ_mem (x y : Rat) : ∀ l : List Rat, y ∈ insQ l x ↔ y = x ∨ y ∈ l
  | [] => by simp [insQ]
  | a :: l => by
    unfold insQ
    split
    · rw [List.mem_cons, insQ_mem x y l, List.mem_cons]
      constructor
      · rintro (h | h | h)
        · exact .inr (.inl h)
        · exact .inl h
        · exact .inr (.inr h)
      · rintro (h | h | h)
        · exact .inr (.inl h)
        · exact .inl h
        · exact .inr (.inr h)
    · split
      · rename_i h
        subst h
        simp
      · simp
theorem insQ_len (x : Rat) : ∀ l : List Rat, (insQ l x).length ≤ l.length + 1
  | [] => by simp [insQ]
  | a :: l => by
    have := insQ_len x l
    unfold insQ
    split
    · simp; omega
    · split <;> simp
theorem foldIns_mem (y : Rat) : ∀ xs l : List Rat, y ∈ xs.foldl insQ l ↔ y ∈ xs ∨ y ∈ l
  | [], l => by simp
  | x :: xs, l => by
    rw [List.foldl_cons, foldIns_mem y xs, insQ_mem, List.mem_cons]
    constructor
    · rintro (h | h | h)
      · exact .inl (.inr h)
      · exact .inl (.inl h)
      · exact .inr h
    · rintro ((h | h) | h)
      · exact .inr (.inl h)
      · exact .inl h
      · exact .inr (.inr h)
theorem srt_mem {xs : List Rat} {y : Rat} : y ∈ srt xs ↔ y ∈ xs := by
  unfold srt
  rw [foldIns_mem]
  simp
theorem foldIns_len : ∀ xs l : List Rat, (xs.foldl insQ l).length ≤ xs.length + l.length
  | [], l => by simp
  | x :: xs, l => by
    rw [List.foldl_cons]
    have h1 := foldIns_len xs (insQ l x)
    have h2 := insQ_len x l
    simp only [List.length_cons]
    omega
theorem srt_len (xs : List Rat) : (srt xs).length ≤ xs.length := by
  have := foldIns_len xs []
  simpa [srt] using this
/-- the place where one is put in -/
theorem insQ_at (x : Rat) : ∀ (l : List Rat) (j : Nat), j ≤ l.length → (∀ k, (h : k < j) → (hk : k < l.length) → l[k] < x) → (∀ h : j < l.length, ¬ l[j] < x) →
    insQ l x = if h : j < l.length then (if l[j] = x then l else l.take j ++ x :: l.drop j) else l ++ [x]
  | [], j, hj, _, _ => by
    have : ¬ j < ([] : List Rat).length := by simp
    rw [dif_neg this]; rfl
  | a :: l, 0, _, _, h2 => by
    have q := h2 (by simp)
    simp only [List.getElem_cons_zero] at q
    unfold insQ
    rw [if_neg q]
    simp
  | a :: l, j + 1, hj, h1, h2 => by
    have q := h1 0 (by omega) (by simp)
    simp only [List.getElem_cons_zero] at q
    have ih := insQ_at x l j (by simpa using hj) (fun k hk hl => by
      have := h1 (k + 1) (by omega) (by simpa using hl)
      simpa using this) (fun h => by
      have := h2 (by simpa using h)
      simpa using this)
    unfold insQ
    rw [if_pos q, ih]
    by_cases hl : j < l.length
    · rw [dif_pos hl, dif_pos (by simpa using hl)]
      simp only [List.getElem_cons_succ]
      split <;> simp
    · rw [dif_neg hl, dif_neg (by simpa using hl)]
      rfl
/-- rows -/
def extL {α : Type} (l : List (List α)) (g : List α) : List (List α) := l.flatMap fun b => g.map fun x => b ++ [x]
def prodL {α : Type} (gs : List (List α)) : List (List α) := gs.foldl extL [[]]
theorem extL_len {α : Type} (l : List (List α)) (g : List α) : (extL l g).length = l.length * g.length := by
  unfold extL
  induction l with
  | nil => simp
  | cons a l ih => rw [List.flatMap_cons, List.length_append, ih, List.length_map, List.length_cons, Nat.add_mul, Nat.one_mul, Nat.add_comm]
theorem prodL_snoc {α : Type} (gs : List (List α)) (g : List α) : prodL (gs ++ [g]) = extL (prodL gs) g := by
  unfold prodL
  rw [List.foldl_append]; rfl
/-- one of each row -/
def Pick {α : Type} : List α → List (List α) → Prop
  | [], [] => True
  | x :: b, g :: gs => x ∈ g ∧ Pick b gs
  | _, _ => False
theorem mem_extL {α : Type} {l : List (List α)} {g : List α} {b : List α} : b ∈ extL l g ↔ ∃ a ∈ l, ∃ x ∈ g, b = a ++ [x] := by
  unfold extL
  rw [List.mem_flatMap]
  constructor
  · rintro ⟨a, ha, h⟩
    obtain ⟨x, hx, rfl⟩ := List.mem_map.mp h
    exact ⟨a, ha, x, hx, rfl⟩
  · rintro ⟨a, ha, x, hx, rfl⟩
    exact ⟨a, ha, List.mem_map.mpr ⟨x, hx, rfl⟩⟩
theorem mem_foldExt {α : Type} {b : List α} : ∀ (gs : List (List α)) (l : List (List α)), b ∈ gs.foldl extL l ↔ ∃ a ∈ l, ∃ c, Pick c gs ∧ b = a ++ c
  | [], l => by
    constructor
    · exact fun h => ⟨b, h, [], trivial, by simp⟩
    · rintro ⟨a, ha, c, hc, rfl⟩
      match c, hc with
      | [], _ => simpa using ha
  | g :: gs, l => by
    rw [List.foldl_cons, mem_foldExt gs]
    constructor
    · rintro ⟨a, ha, c, hc, rfl⟩
      obtain ⟨a', ha', x, hx, rfl⟩ := mem_extL.mp ha
      exact ⟨a', ha', x :: c, ⟨hx, hc⟩, by simp⟩
    · rintro ⟨a, ha, c, hc, rfl⟩
      match c, hc with
      | x :: c, hc => exact ⟨a ++ [x], mem_extL.mpr ⟨a, ha, x, hc.1, rfl⟩, c, hc.2, by simp⟩
theorem mem_prodL {α : Type} {b : List α} {gs : List (List α)} : b ∈ prodL gs ↔ Pick b gs := by
  unfold prodL
  rw [mem_foldExt]
  constructor
  · rintro ⟨a, ha, c, hc, rfl⟩
    rw [List.mem_singleton] at ha
    subst ha
    exact hc
  · exact fun h => ⟨[], List.mem_singleton.mpr rfl, b, h, rfl⟩
theorem Pick.len {α : Type} : ∀ {b : List α} {gs : List (List α)}, Pick b gs → b.length = gs.length
  | [], [], _ => rfl
  | _ :: _, _ :: _, h => by simp [Pick.len h.2]
theorem Pick.of_mem {α : Type} : ∀ {b : List α} {gs : List (List α)}, Pick b gs → ∀ x ∈ b, ∃ g ∈ gs, x ∈ g
  | [], [], _, x, hx => by cases hx
  | y :: b, g :: gs, h, x, hx => by
    rcases List.mem_cons.mp hx with rfl | hx
    · exact ⟨g, List.mem_cons_self, h.1⟩
    · obtain ⟨g', hg', hx'⟩ := Pick.of_mem h.2 x hx
      exact ⟨g', List.mem_cons_of_mem _ hg', hx'⟩
/-- points of s sides -/
structure Pts (s : Nat) (pts : List (List Rat)) : Prop where
  ok : OkPts pts
  s2 : s ≤ 2
  w : ∀ xs ∈ pts, xs.length = s
def nums (pts : List (List Rat)) (k : Nat) : List Rat := srt (pts.map fun xs => xs.getD k 0)
def edges (pts : List (List Rat)) (k : Nat) : List Rat := nums pts k ++ [1]
def looksQ (s : Nat) (pts : List (List Rat)) : List (List Rat) := prodL ((List.range s).map (edges pts))
theorem nums_len {s : Nat} {pts : List (List Rat)} (h : Pts s pts) (k : Nat) : (nums pts k).length ≤ 8 := by
  have h1 := srt_len (pts.map fun xs => xs.getD k 0)
  have h2 := h.ok.len
  rw [List.length_map] at h1
  exact Nat.le_trans h1 h2
theorem edges_len {s : Nat} {pts : List (List Rat)} (h : Pts s pts) (k : Nat) : (edges pts k).length ≤ 9 := by
  have := nums_len h k
  simp [edges]; omega
theorem looks_take {s : Nat} {pts : List (List Rat)} (h : Pts s pts) : ∀ i, (prodL ((List.range i).map (edges pts))).length ≤ 9 ^ i
  | 0 => by simp [prodL]
  | i + 1 => by
    rw [List.range_succ, List.map_append, List.map_cons, List.map_nil, prodL_snoc, extL_len, Nat.pow_succ]
    exact Nat.mul_le_mul (looks_take h i) (edges_len h i)
theorem pow9 {i : Nat} (h : i ≤ 2) : 9 ^ i ≤ 81 := Nat.pow_le_pow_right (n := 9) (by omega) h
theorem sz1000 {n : Nat} (h : n ≤ 1000) : n ≤ sizeLine := by
  have : (1000 : Nat) ≤ sizeLine := by decide
  omega
theorem sz1001 {n : Nat} (h : n ≤ 1000) : n < sizeLine := by
  have : (1001 : Nat) ≤ sizeLine := by decide
  omega
theorem rgI_get {j : Int} {i : Nat} {d : D} (h : ((rgI 0 j).map D.int)[i]? = some d) : d = .int i ∧ (i : Int) < j := by
  rw [List.getElem?_map] at h
  obtain ⟨a, ha, rfl⟩ := Option.map_eq_some_iff.mp h
  unfold rgI at ha
  rw [List.getElem?_map] at ha
  obtain ⟨b, hb, rfl⟩ := Option.map_eq_some_iff.mp ha
  have hl := (List.getElem?_eq_some_iff.mp hb).1
  rw [List.getElem?_range (by simpa using hl)] at hb
  cases hb
  simp at hl
  exact ⟨by simp, by omega⟩
theorem rgI_len (j : Nat) : (rgI 0 (j : Int)).length = j := by simp [rgI]
/-- the slots are so -/
def Is (ρ σ : Rho) : Prop := ρ = σ
def Eqn (a b : Nat) : Prop := a = b
theorem while_mk {T : TrT} {S : TrS} {E : PEnds} {ρ : Rho} {n : Nat} (Inv : Rho → Nat → Prop) (μ : Rho → Nat → Nat) (Dn : Rho → Nat → Prop) (h0 : Inv ρ n) (hd : ∀ ρ n, Dn ρ n → E.nx ρ n)
    (hs : ∀ NX : Rho → Nat → Prop, (∀ ρ n, Dn ρ n → NX ρ n) → ∀ ρ n, Inv ρ n → T ρ n fun b n1 => if b = true then S { E with nx := fun ρ' n' => Inv ρ' n' ∧ μ ρ' n' < μ ρ n, ct := fun ρ' n' => Inv ρ' n' ∧ μ ρ' n' < μ ρ n, bk := NX } ρ n1 else NX ρ n1) : SWhile T S E ρ n :=
  ⟨Inv, μ, h0, hs E.nx hd⟩
theorem small62 {j : Nat} (h : j ≤ 1000) : Small62 (j : Int) := by unfold Small62; omega
/-- what worst tells -/
def Worst (s : Nat) (pts : List (List Rat)) (q : Rat) (way : Str) (b : List Rat) : Prop := b ∈ looksQ s pts ∧ (way = "over" ∧ q = overQ pts b ∨ way = "lack" ∧ q = lackQ pts b) ∧ ∀ b' ∈ looksQ s pts, overQ pts b' ≤ q ∧ lackQ pts b' ≤ q
abbrev Cand := Str × Rat × List Rat
def cand (pts : List (List Rat)) (b : List Rat) : List Cand := [("over", overQ pts b, b), ("lack", lackQ pts b, b)]
def candD (c : Cand) : D := .tup [.str c.1, fr c.2.1]
def missD (pts : List (List Rat)) (b : List Rat) : D := .lst ((cand pts b).map candD)
def bestD (c : Cand) : D := .tup [fr c.2.1, .str c.1, boxD c.2.2]
/-- the greatest so far -/
def SoFar (cs : List Cand) (t : D) : Prop := (t = .non ∧ cs = []) ∨ ∃ c ∈ cs, t = bestD c ∧ c.2.1.den ≤ 8000000 ∧ ∀ c' ∈ cs, c'.2.1 ≤ c.2.1
theorem SoFar.put {cs : List Cand} {c : Cand} (hd : c.2.1.den ≤ 8000000) (h : ∀ c' ∈ cs, c'.2.1 ≤ c.2.1) : SoFar (cs ++ [c]) (bestD c) := by
  refine .inr ⟨c, by simp, rfl, hd, fun c' hc => ?_⟩
  rcases List.mem_append.mp hc with q | q
  · exact h c' q
  · rw [List.mem_singleton.mp q]; exact Rat.le_refl
theorem SoFar.keep {cs : List Cand} {c b : Cand} (hb : b ∈ cs) (hd : b.2.1.den ≤ 8000000) (h : ∀ c' ∈ cs, c'.2.1 ≤ b.2.1) (hn : ¬ b.2.1 < c.2.1) : SoFar (cs ++ [c]) (bestD b) := by
  refine .inr ⟨b, List.mem_append_left _ hb, rfl, hd, fun c' hc => ?_⟩
  rcases List.mem_append.mp hc with q | q
  · exact h c' q
  · rw [List.mem_singleton.mp q]; exact Rat.not_lt.mp hn
theorem sub_den (p q : Rat) : (p - q).den ≤ p.den * q.den := by
  rw [Rat.sub_def, Rat.normalize_eq]
  exact Nat.div_le_self _ _
theorem cand_den {pts : List (List Rat)} {b : List Rat} (hp : OkPts pts) (hb : OkBox b) : ∀ c ∈ cand pts b, c.2.1.den ≤ 8000000 := by
  have F := (sizeQ_fine hb).den
  have hl : pts.length ≠ 0 := fun e => hp.ne (List.eq_nil_of_length_eq_zero e)
  have d1 := Nat.le_trans (mkRat_den (cntB pts b "shut") pts.length hl) hp.len
  have d2 := Nat.le_trans (mkRat_den (cntB pts b "open") pts.length hl) hp.len
  have m1 := Nat.mul_le_mul d1 F
  have m2 := Nat.mul_le_mul F d2
  intro c hc
  unfold cand at hc
  rcases List.mem_cons.mp hc with rfl | hc
  · exact Nat.le_trans (sub_den _ _) (by omega)
  · rw [List.mem_singleton] at hc
    subst hc
    exact Nat.le_trans (sub_den _ _) (by omega)
abbrev k_in_size : Nat := 2
def sp_in_size : PSp := fun ds n P => ∃ xs : List Rat, ds = [.lst (xs.map fr)] ∧ xs.length ≤ 8 ∧ (∀ x ∈ xs, x.den ≤ 1000) ∧ P (.tup ((srt xs).map fr)) n
abbrev k_sides_of : Nat := 1
def sp_sides_of : PSp := fun ds n P => ∃ s pts, ds = [.tup (pts.map ptD)] ∧ Pts s pts ∧ P (.int s) n
abbrev k_numbers_at : Nat := 3
def sp_numbers_at : PSp := fun ds n P => ∃ s pts k, ds = [.tup (pts.map ptD), .int (k : Nat)] ∧ Pts s pts ∧ k < s ∧ P (.tup ((nums pts k).map fr)) n
abbrev k_side_looks : Nat := 1
def sp_side_looks : PSp := fun ds n P => ∃ xs : List Rat, ds = [.tup (xs.map fr), .str "corner"] ∧ xs.length ≤ 8 ∧ P (.lst ((xs ++ [1]).map sideD)) n
abbrev k_many_at_side : Nat := 1
def sp_many_at_side : PSp := fun ds n P => ∃ u : Nat, ds = [.int u, .str "corner"] ∧ P (.int (u + 1)) n
abbrev k_many_looks : Nat := 4
def sp_many_looks : PSp := fun ds n P => ∃ s pts, ds = [.tup (pts.map ptD), .str "corner"] ∧ Pts s pts ∧ ∀ m : Nat, m ≤ 81 → P (.int m) n
abbrev k_looks : Nat := 5
def sp_looks : PSp := fun ds n P => ∃ s pts, ds = [.tup (pts.map ptD), .str "corner"] ∧ Pts s pts ∧ P (.lst ((looksQ s pts).map boxD)) n
abbrev k_misses_of : Nat := 7
def sp_misses_of : PSp := fun ds n P => ∃ pts qs, ds = [.tup (pts.map ptD), boxD qs] ∧ OkPts pts ∧ OkBox qs ∧ P (missD pts qs) n
abbrev k_worst : Nat := 8
def sp_worst : PSp := fun ds n P => ∃ s pts, ds = [.tup (pts.map ptD), .str "corner"] ∧ Pts s pts ∧ (∀ xs ∈ pts, ∀ x ∈ xs, 0 ≤ x ∧ x ≤ 1) ∧ ∀ q way b, Worst s pts q way b → P (.tup [fr q, .str way, boxD b]) n
theorem len_in_size : ∀ ds n P, sp_in_size ds n P → ds.length = (["some"] : List Str).length := by rintro _ n P ⟨_, rfl, _⟩; rfl
theorem len_sides_of : ∀ ds n P, sp_sides_of ds n P → ds.length = (["points"] : List Str).length := by rintro _ n P ⟨_, _, rfl, _⟩; rfl
theorem len_numbers_at : ∀ ds n P, sp_numbers_at ds n P → ds.length = (["points", "side"] : List Str).length := by rintro _ n P ⟨_, _, _, rfl, _⟩; rfl
theorem len_side_looks : ∀ ds n P, sp_side_looks ds n P → ds.length = (["numbers", "family"] : List Str).length := by rintro _ n P ⟨_, rfl, _⟩; rfl
theorem len_many_at_side : ∀ ds n P, sp_many_at_side ds n P → ds.length = (["u", "family"] : List Str).length := by rintro _ n P ⟨_, rfl, _⟩; rfl
theorem len_many_looks : ∀ ds n P, sp_many_looks ds n P → ds.length = (["points", "family"] : List Str).length := by rintro _ n P ⟨_, _, rfl, _⟩; rfl
theorem len_looks : ∀ ds n P, sp_looks ds n P → ds.length = (["points", "family"] : List Str).length := by rintro _ n P ⟨_, _, rfl, _⟩; rfl
theorem len_misses_of : ∀ ds n P, sp_misses_of ds n P → ds.length = (["points", "box"] : List Str).length := by rintro _ n P ⟨_, _, rfl, _⟩; rfl
theorem len_worst : ∀ ds n P, sp_worst ds n P → ds.length = (["points", "family"] : List Str).length := by rintro _ n P ⟨_, _, rfl, _⟩; rfl
theorem looks_ok {s : Nat} {pts : List (List Rat)} (h : Pts s pts) (hx : ∀ xs ∈ pts, ∀ x ∈ xs, 0 ≤ x ∧ x ≤ 1) {b : List Rat} (hb : b ∈ looksQ s pts) : OkBox b := by
  have hp := mem_prodL.mp hb
  refine ⟨by rw [hp.len, List.length_map, List.length_range]; exact h.s2, fun q hq => ?_⟩
  obtain ⟨g, hg, hqg⟩ := hp.of_mem q hq
  obtain ⟨k, hk, rfl⟩ := List.mem_map.mp hg
  rw [List.mem_range] at hk
  rcases List.mem_append.mp hqg with hq | hq
  · obtain ⟨xs, hxs, rfl⟩ := List.mem_map.mp (srt_mem.mp hq)
    have hk2 : k < xs.length := by rw [h.w xs hxs]; exact hk
    have e : xs.getD k 0 = xs[k] := by rw [List.getD_eq_getElem?_getD, List.getElem?_eq_getElem hk2]; rfl
    rw [e]
    have m := List.getElem_mem hk2
    obtain ⟨h0, h1⟩ := hx xs hxs _ m
    exact ⟨Rat.le_trans (by decide) h0, h1, h.ok.den xs hxs _ m⟩
  · rw [List.mem_singleton] at hq
    subst hq
    exact ⟨by decide, by decide, by decide⟩
def boxOnes (s : Nat) : List Rat := List.replicate s 1
theorem ones_pick (f : Nat → List Rat) (h : ∀ k, (1 : Rat) ∈ f k) : ∀ l : List Nat, Pick (List.replicate l.length (1 : Rat)) (l.map f)
  | [] => trivial
  | a :: l => ⟨h a, ones_pick f h l⟩
theorem ones_mem {s : Nat} (pts : List (List Rat)) : boxOnes s ∈ looksQ s pts := by
  refine mem_prodL.mpr ?_
  have := ones_pick (edges pts) (fun k => by simp [edges]) (List.range s)
  rw [List.length_range] at this
  exact this
theorem len_at {α : Type} {l : List α} {i : Nat} {a : α} (h : l[i]? = some a) : i < l.length := (List.getElem?_eq_some_iff.mp h).1
theorem take_snoc {α : Type} {l : List α} {i : Nat} {a : α} (h : l[i]? = some a) : l.take (i + 1) = l.take i ++ [a] := by rw [List.take_add_one, h]; rfl
theorem atI_nat (ds : List D) (k : Nat) : atI ds (k : Int) = ds[k]? := by
  by_cases h : k < ds.length
  · have e : (k : Int) < ds.length := by omega
    simp [atI, ixN, e]
  · have e : ¬ (k : Int) < ds.length := by omega
    simp [atI, ixN, e]
    omega
section
variable {Pr : Program} {w : World} {K : PySem.W.Frag} {mg : Str → Option Value} {base : Heap}
abbrev s_in_size : Stmt := top 16
theorem sc_in_size : FnScope ["some", "found", "one", "at"] ["some"] (defScope s_in_size) := ⟨rfl, rfl, rfl, by decide +kernel, rfl, by decide +kernel, by decide +kernel⟩
theorem ok_in_size (F0 : Df K mg "in_size" s_in_size) (B : Bt mg) (C : Cs K w mg) (h_is_below : Has Pr w K mg base "is_below" ["one", "other"] k_is_below sp_is_below) : Has Pr w K mg base "in_size" ["some"] k_in_size sp_in_size := by
  have sc := sc_in_size
  refine has_mk (k := _) F0 sc (fun _ _ _ _ _ _ us hl => match us, hl with | [_], _ => rfl) len_in_size (fun f cdv A outer s H E hr => ⟨_,
    (bCons (sMuL 1 sc.nd aNil)
    (bCons (sFor .never (iL (vN 0)) (gN 2 sc.nd)
      (bCons (sSet 3 sc.nd vI)
      (bCons (sWhile .never (bW (wAnd (bLt (vN 3) (vLenM 1 B.len)) (wAnd1 (bVal (vCall h_is_below hr (aCons (vIxM 1 (vN 3)) (aCons (vN 2) aNil)))))))
        (bOne (sSet 3 sc.nd (vAdd (vN 3) vI))))
      (bOne (sIf (bW (wOr (bEq hr (vN 3) (vLenM 1 B.len)) (wOr1 (bNe hr (vIxM 1 (vN 3)) (vN 2)))))
        (bOne (sIns 1 (vN 3) (vN 2)))
        bNil)))))
    (bOne (sFz 1 (sRet (vTuple B.tuple (aCons (vN 1) aNil))))))), ?_⟩)
  rintro _ n P ⟨xs, rfl, hl, hx, h⟩
  simp only [SSeq, SNil, SIf, SRet, SSet, SAsg, SPar, SMuL, SApp, SExt, SPut, SFz, frzR, SNo, TVar, TC, TOp, TB, TNil, TCons, TTup, TLst, TKey, oIx, seqOf, TAnd, TOr, TNot, TAndV, TOrV, TNotV, TIf, TCB, cLen, cAbs, cMax2, cMin2, cAll, cList, cTuple, cInt, TIsi, isD, tyD, TCall, TChain, TLc, TLc0, SFor, ISeq, IRg1, IRg2, IZip, TSl, TPs, TPn, slD, cut1, opII, opI0, TNeg, oAdd, oIsN, oNotN, oIsB, opEq, eqD, getS, startR, GName, GNil, GCons, GTup, List.map_cons, List.map_nil, List.length_cons, List.length_nil, List.cons_append, List.nil_append, List.set_cons_zero, List.set_cons_succ, List.replicate, List.append_nil, Option.map_some, Bool.not_true, Bool.not_false, Bool.false_eq_true, if_true, if_false, ite_true, ite_false, reduceIte, Nat.sub_self, Nat.reduceAdd, Nat.reduceSub, Bool.or_true, Bool.or_false, Bool.true_or, Bool.false_or, Bool.and_true, Bool.and_false, decide_true, decide_false, List.getElem?_cons_zero, List.getElem?_cons_succ, Option.some.injEq, exists_eq_left', exists_eq_left, true_and, and_true, at0, at1, at2, at3, List.length_map, List.cons.injEq, Int.cast_ofNat_Int, Int.reduceEq, Int.reduceLT, Int.reduceLE, D.int.injEq, D.str.injEq, D.bl.injEq, D.tup.injEq, D.lst.injEq, exists_const, Int.zero_add, Nat.zero_add, Int.natCast_add, Int.natCast_one, Int.reduceAdd]
  refine ⟨Nat.zero_le _, fun i ρ n' => Eqn n' n ∧ ∃ a b, Is ρ [.val (.lst (xs.map fr)), .mu (.lst ((srt (xs.take i)).map fr)), a, b], ⟨rfl, _, _, rfl⟩, ?_, ?_⟩
  · rintro i d ρ n' hd ⟨rfl, a, b, rfl⟩
    rw [List.getElem?_map] at hd
    obtain ⟨x, hx', rfl⟩ := Option.map_eq_some_iff.mp hd
    have hi := len_at hx'
    have hls : (srt (xs.take i)).length ≤ 8 := by
      have := srt_len (xs.take i)
      rw [List.length_take] at this
      omega
    have hdn : ∀ y ∈ srt (xs.take i), y.den ≤ 1000 := fun y hy => hx y (List.mem_of_mem_take (srt_mem.mp hy))
    have hxd := hx x (List.mem_of_getElem? hx')
    have enx : srt (xs.take (i + 1)) = insQ (srt (xs.take i)) x := by
      rw [take_snoc hx']
      unfold srt
      rw [List.foldl_append]; rfl
    simp only [SSeq, SNil, SIf, SRet, SSet, SAsg, SPar, SMuL, SApp, SExt, SPut, SFz, frzR, SNo, TVar, TC, TOp, TB, TNil, TCons, TTup, TLst, TKey, oIx, seqOf, TAnd, TOr, TNot, TAndV, TOrV, TNotV, TIf, TCB, cLen, cAbs, cMax2, cMin2, cAll, cList, cTuple, cInt, TIsi, isD, tyD, TCall, TChain, TLc, TLc0, SFor, ISeq, IRg1, IRg2, IZip, TSl, TPs, TPn, slD, cut1, opII, opI0, TNeg, oAdd, oIsN, oNotN, oIsB, opEq, eqD, getS, startR, GName, GNil, GCons, GTup, List.map_cons, List.map_nil, List.length_cons, List.length_nil, List.cons_append, List.nil_append, List.set_cons_zero, List.set_cons_succ, List.replicate, List.append_nil, Option.map_some, Bool.not_true, Bool.not_false, Bool.false_eq_true, if_true, if_false, ite_true, ite_false, reduceIte, Nat.sub_self, Nat.reduceAdd, Nat.reduceSub, Bool.or_true, Bool.or_false, Bool.true_or, Bool.false_or, Bool.and_true, Bool.and_false, decide_true, decide_false, List.getElem?_cons_zero, List.getElem?_cons_succ, Option.some.injEq, exists_eq_left', exists_eq_left, true_and, and_true, at0, at1, at2, at3, List.length_map, List.cons.injEq, Int.cast_ofNat_Int, Int.reduceEq, Int.reduceLT, Int.reduceLE, D.int.injEq, D.str.injEq, D.bl.injEq, D.tup.injEq, D.lst.injEq, exists_const, Int.zero_add, Nat.zero_add, Int.natCast_add, Int.natCast_one, Int.reduceAdd]
    rw [enx]
    generalize srt (xs.take i) = l at hls hdn ⊢
    refine while_mk (fun ρ n2 => Eqn n2 n' ∧ ∃ j : Nat, Is ρ [.val (.lst (xs.map fr)), .mu (.lst (l.map fr)), .val (fr x), .val (.int j)] ∧ j ≤ l.length ∧ ∀ k, (h : k < j) → (hk : k < l.length) → l[k] < x)
      (fun ρ _ => l.length - (match getS ρ 3 with
        | .val (.int j) => j.toNat
        | _ => 0)) (fun ρ n2 => Eqn n2 n' ∧ ∃ j : Nat, Is ρ [.val (.lst (xs.map fr)), .mu (.lst (l.map fr)), .val (fr x), .val (.int j)] ∧ j ≤ l.length ∧ (∀ k, (h : k < j) → (hk : k < l.length) → l[k] < x) ∧ ∀ h : j < l.length, ¬ l[j] < x)
      ⟨rfl, 0, rfl, Nat.zero_le _, fun k h => by omega⟩ ?_ ?_
    · rintro ρ n2 ⟨rfl, j, rfl, hj, hlt, hnot⟩
      have q := insQ_at x l j hj hlt hnot
      simp only [SSeq, SNil, SIf, SRet, SSet, SAsg, SPar, SMuL, SApp, SExt, SPut, SFz, frzR, SNo, TVar, TC, TOp, TB, TNil, TCons, TTup, TLst, TKey, oIx, seqOf, TAnd, TOr, TNot, TAndV, TOrV, TNotV, TIf, TCB, cLen, cAbs, cMax2, cMin2, cAll, cList, cTuple, cInt, TIsi, isD, tyD, TCall, TChain, TLc, TLc0, SFor, ISeq, IRg1, IRg2, IZip, TSl, TPs, TPn, slD, cut1, opII, opI0, TNeg, oAdd, oIsN, oNotN, oIsB, opEq, eqD, getS, startR, GName, GNil, GCons, GTup, List.map_cons, List.map_nil, List.length_cons, List.length_nil, List.cons_append, List.nil_append, List.set_cons_zero, List.set_cons_succ, List.replicate, List.append_nil, Option.map_some, Bool.not_true, Bool.not_false, Bool.false_eq_true, if_true, if_false, ite_true, ite_false, reduceIte, Nat.sub_self, Nat.reduceAdd, Nat.reduceSub, Bool.or_true, Bool.or_false, Bool.true_or, Bool.false_or, Bool.and_true, Bool.and_false, decide_true, decide_false, List.getElem?_cons_zero, List.getElem?_cons_succ, Option.some.injEq, exists_eq_left', exists_eq_left, true_and, and_true, at0, at1, at2, at3, List.length_map, List.cons.injEq, Int.cast_ofNat_Int, Int.reduceEq, Int.reduceLT, Int.reduceLE, D.int.injEq, D.str.injEq, D.bl.injEq, D.tup.injEq, D.lst.injEq, exists_const, Int.zero_add, Nat.zero_add, Int.natCast_add, Int.natCast_one, Int.reduceAdd, TLenM, TIxM]
      by_cases hjl : j < l.length
      · rw [dif_pos hjl] at q
        have e1 : decide ((j : Int) = (l.length : Int)) = false := by rw [decide_eq_false_iff_not]; omega
        simp only [SSeq, SNil, SIf, SRet, SSet, SAsg, SPar, SMuL, SApp, SExt, SPut, SFz, frzR, SNo, TVar, TC, TOp, TB, TNil, TCons, TTup, TLst, TKey, oIx, seqOf, TAnd, TOr, TNot, TAndV, TOrV, TNotV, TIf, TCB, cLen, cAbs, cMax2, cMin2, cAll, cList, cTuple, cInt, TIsi, isD, tyD, TCall, TChain, TLc, TLc0, SFor, ISeq, IRg1, IRg2, IZip, TSl, TPs, TPn, slD, cut1, opII, opI0, TNeg, oAdd, oIsN, oNotN, oIsB, opEq, eqD, getS, startR, GName, GNil, GCons, GTup, List.map_cons, List.map_nil, List.length_cons, List.length_nil, List.cons_append, List.nil_append, List.set_cons_zero, List.set_cons_succ, List.replicate, List.append_nil, Option.map_some, Bool.not_true, Bool.not_false, Bool.false_eq_true, if_true, if_false, ite_true, ite_false, reduceIte, Nat.sub_self, Nat.reduceAdd, Nat.reduceSub, Bool.or_true, Bool.or_false, Bool.true_or, Bool.false_or, Bool.and_true, Bool.and_false, decide_true, decide_false, List.getElem?_cons_zero, List.getElem?_cons_succ, Option.some.injEq, exists_eq_left', exists_eq_left, true_and, and_true, at0, at1, at2, at3, List.length_map, List.cons.injEq, Int.cast_ofNat_Int, Int.reduceEq, Int.reduceLT, Int.reduceLE, D.int.injEq, D.str.injEq, D.bl.injEq, D.tup.injEq, D.lst.injEq, exists_const, Int.zero_add, Nat.zero_add, Int.natCast_add, Int.natCast_one, Int.reduceAdd, e1]
        refine ⟨fr l[j], by rw [atI_nat, List.getElem?_map, List.getElem?_eq_getElem hjl]; rfl, ?_⟩
        show if (!decide (l[j].num = x.num ∧ (l[j].den : Int) = x.den)) = true then _ else _
        have e2 : decide (l[j].num = x.num ∧ (l[j].den : Int) = x.den) = decide (l[j] = x) := decide_eq_decide.mpr fr_eq
        rw [e2]
        by_cases hx2 : l[j] = x
        · rw [if_pos hx2] at q
          rw [decide_eq_true hx2]
          refine iteF ⟨rfl, _, _, by rw [q]; rfl⟩
        · rw [if_neg hx2] at q
          rw [decide_eq_false hx2]
          refine iteT ⟨by rw [List.length_map]; exact sz1001 (by omega), by omega, by omega, rfl, ?_, ?_, ?_⟩
          rotate_left 2
          rw [q]
          simp only [SSeq, SNil, SIf, SRet, SSet, SAsg, SPar, SMuL, SApp, SExt, SPut, SFz, frzR, SNo, TVar, TC, TOp, TB, TNil, TCons, TTup, TLst, TKey, oIx, seqOf, TAnd, TOr, TNot, TAndV, TOrV, TNotV, TIf, TCB, cLen, cAbs, cMax2, cMin2, cAll, cList, cTuple, cInt, TIsi, isD, tyD, TCall, TChain, TLc, TLc0, SFor, ISeq, IRg1, IRg2, IZip, TSl, TPs, TPn, slD, cut1, opII, opI0, TNeg, oAdd, oIsN, oNotN, oIsB, opEq, eqD, getS, startR, GName, GNil, GCons, GTup, List.map_cons, List.map_nil, List.length_cons, List.length_nil, List.cons_append, List.nil_append, List.set_cons_zero, List.set_cons_succ, List.replicate, List.append_nil, Option.map_some, Bool.not_true, Bool.not_false, Bool.false_eq_true, if_true, if_false, ite_true, ite_false, reduceIte, Nat.sub_self, Nat.reduceAdd, Nat.reduceSub, Bool.or_true, Bool.or_false, Bool.true_or, Bool.false_or, Bool.and_true, Bool.and_false, decide_true, decide_false, List.getElem?_cons_zero, List.getElem?_cons_succ, Option.some.injEq, exists_eq_left', exists_eq_left, true_and, and_true, at0, at1, at2, at3, List.length_map, List.cons.injEq, Int.cast_ofNat_Int, Int.reduceEq, Int.reduceLT, Int.reduceLE, D.int.injEq, D.str.injEq, D.bl.injEq, D.tup.injEq, D.lst.injEq, exists_const, Int.zero_add, Nat.zero_add, Int.natCast_add, Int.natCast_one, Int.reduceAdd]
          simp [List.map_take, List.map_drop]
          rfl
      · rw [dif_neg hjl] at q
        have hjl2 : j = l.length := by omega
        have e1 : decide ((j : Int) = (l.length : Int)) = true := decide_eq_true (by omega)
        simp only [SSeq, SNil, SIf, SRet, SSet, SAsg, SPar, SMuL, SApp, SExt, SPut, SFz, frzR, SNo, TVar, TC, TOp, TB, TNil, TCons, TTup, TLst, TKey, oIx, seqOf, TAnd, TOr, TNot, TAndV, TOrV, TNotV, TIf, TCB, cLen, cAbs, cMax2, cMin2, cAll, cList, cTuple, cInt, TIsi, isD, tyD, TCall, TChain, TLc, TLc0, SFor, ISeq, IRg1, IRg2, IZip, TSl, TPs, TPn, slD, cut1, opII, opI0, TNeg, oAdd, oIsN, oNotN, oIsB, opEq, eqD, getS, startR, GName, GNil, GCons, GTup, List.map_cons, List.map_nil, List.length_cons, List.length_nil, List.cons_append, List.nil_append, List.set_cons_zero, List.set_cons_succ, List.replicate, List.append_nil, Option.map_some, Bool.not_true, Bool.not_false, Bool.false_eq_true, if_true, if_false, ite_true, ite_false, reduceIte, Nat.sub_self, Nat.reduceAdd, Nat.reduceSub, Bool.or_true, Bool.or_false, Bool.true_or, Bool.false_or, Bool.and_true, Bool.and_false, decide_true, decide_false, List.getElem?_cons_zero, List.getElem?_cons_succ, Option.some.injEq, exists_eq_left', exists_eq_left, true_and, and_true, at0, at1, at2, at3, List.length_map, List.cons.injEq, Int.cast_ofNat_Int, Int.reduceEq, Int.reduceLT, Int.reduceLE, D.int.injEq, D.str.injEq, D.bl.injEq, D.tup.injEq, D.lst.injEq, exists_const, Int.zero_add, Nat.zero_add, Int.natCast_add, Int.natCast_one, Int.reduceAdd, e1]
        refine ⟨by rw [List.length_map]; exact sz1001 (by omega), by omega, by omega, rfl, ?_, ?_, ?_⟩
        rotate_left 2
        rw [q]
        simp only [SSeq, SNil, SIf, SRet, SSet, SAsg, SPar, SMuL, SApp, SExt, SPut, SFz, frzR, SNo, TVar, TC, TOp, TB, TNil, TCons, TTup, TLst, TKey, oIx, seqOf, TAnd, TOr, TNot, TAndV, TOrV, TNotV, TIf, TCB, cLen, cAbs, cMax2, cMin2, cAll, cList, cTuple, cInt, TIsi, isD, tyD, TCall, TChain, TLc, TLc0, SFor, ISeq, IRg1, IRg2, IZip, TSl, TPs, TPn, slD, cut1, opII, opI0, TNeg, oAdd, oIsN, oNotN, oIsB, opEq, eqD, getS, startR, GName, GNil, GCons, GTup, List.map_cons, List.map_nil, List.length_cons, List.length_nil, List.cons_append, List.nil_append, List.set_cons_zero, List.set_cons_succ, List.replicate, List.append_nil, Option.map_some, Bool.not_true, Bool.not_false, Bool.false_eq_true, if_true, if_false, ite_true, ite_false, reduceIte, Nat.sub_self, Nat.reduceAdd, Nat.reduceSub, Bool.or_true, Bool.or_false, Bool.true_or, Bool.false_or, Bool.and_true, Bool.and_false, decide_true, decide_false, List.getElem?_cons_zero, List.getElem?_cons_succ, Option.some.injEq, exists_eq_left', exists_eq_left, true_and, and_true, at0, at1, at2, at3, List.length_map, List.cons.injEq, Int.cast_ofNat_Int, Int.reduceEq, Int.reduceLT, Int.reduceLE, D.int.injEq, D.str.injEq, D.bl.injEq, D.tup.injEq, D.lst.injEq, exists_const, Int.zero_add, Nat.zero_add, Int.natCast_add, Int.natCast_one, Int.reduceAdd]
        subst hjl2
        have e3 : (List.take ((l.length : Nat) : Int).toNat (l.map fr) ++ fr x :: List.drop ((l.length : Nat) : Int).toNat (l.map fr)) = (l ++ [x]).map fr := by
          rw [Int.toNat_natCast, List.take_of_length_le (by simp), List.drop_of_length_le (by simp)]
          simp
        rw [e3]
        rfl
    · intro NX hNX ρ n2 hI
      obtain ⟨rfl, j, rfl, hj, hlt⟩ := hI
      simp only [SSeq, SNil, SIf, SRet, SSet, SAsg, SPar, SMuL, SApp, SExt, SPut, SFz, frzR, SNo, TVar, TC, TOp, TB, TNil, TCons, TTup, TLst, TKey, oIx, seqOf, TAnd, TOr, TNot, TAndV, TOrV, TNotV, TIf, TCB, cLen, cAbs, cMax2, cMin2, cAll, cList, cTuple, cInt, TIsi, isD, tyD, TCall, TChain, TLc, TLc0, SFor, ISeq, IRg1, IRg2, IZip, TSl, TPs, TPn, slD, cut1, opII, opI0, TNeg, oAdd, oIsN, oNotN, oIsB, opEq, eqD, getS, startR, GName, GNil, GCons, GTup, List.map_cons, List.map_nil, List.length_cons, List.length_nil, List.cons_append, List.nil_append, List.set_cons_zero, List.set_cons_succ, List.replicate, List.append_nil, Option.map_some, Bool.not_true, Bool.not_false, Bool.false_eq_true, if_true, if_false, ite_true, ite_false, reduceIte, Nat.sub_self, Nat.reduceAdd, Nat.reduceSub, Bool.or_true, Bool.or_false, Bool.true_or, Bool.false_or, Bool.and_true, Bool.and_false, decide_true, decide_false, List.getElem?_cons_zero, List.getElem?_cons_succ, Option.some.injEq, exists_eq_left', exists_eq_left, true_and, and_true, at0, at1, at2, at3, List.length_map, List.cons.injEq, Int.cast_ofNat_Int, Int.reduceEq, Int.reduceLT, Int.reduceLE, D.int.injEq, D.str.injEq, D.bl.injEq, D.tup.injEq, D.lst.injEq, exists_const, Int.zero_add, Nat.zero_add, Int.natCast_add, Int.natCast_one, Int.reduceAdd, TLenM, TIxM, sp_is_below]
      refine ite2 (fun hb => ?_) (fun hb => ?_)
      · simp at hb
        refine ⟨fr l[j], by rw [atI_nat, List.getElem?_map, List.getElem?_eq_getElem hb]; rfl, l[j], x, ⟨rfl, rfl⟩, by have := hdn _ (List.getElem_mem hb); omega, by omega, ?_⟩
        refine ite2 (fun hb2 => ?_) (fun hb2 => ?_)
        · simp at hb2
          refine ⟨⟨rfl, j + 1, rfl, by omega, fun k hk hk2 => ?_⟩, ?_⟩
          · by_cases e : k = j
            · subst e; exact hb2
            · exact hlt k (by omega) hk2
          · show l.length - ((j : Int) + 1).toNat < l.length - (j : Int).toNat
            omega
        · simp at hb2
          exact hNX _ _ ⟨rfl, j, rfl, hj, hlt, fun _ => hb2⟩
      · simp at hb
        exact hNX _ _ ⟨rfl, j, rfl, hj, hlt, fun h => absurd h (by omega)⟩
  · rintro ρ n' ⟨rfl, a, b, rfl⟩
    simp only [SSeq, SNil, SIf, SRet, SSet, SAsg, SPar, SMuL, SApp, SExt, SPut, SFz, frzR, SNo, TVar, TC, TOp, TB, TNil, TCons, TTup, TLst, TKey, oIx, seqOf, TAnd, TOr, TNot, TAndV, TOrV, TNotV, TIf, TCB, cLen, cAbs, cMax2, cMin2, cAll, cList, cTuple, cInt, TIsi, isD, tyD, TCall, TChain, TLc, TLc0, SFor, ISeq, IRg1, IRg2, IZip, TSl, TPs, TPn, slD, cut1, opII, opI0, TNeg, oAdd, oIsN, oNotN, oIsB, opEq, eqD, getS, startR, GName, GNil, GCons, GTup, List.map_cons, List.map_nil, List.length_cons, List.length_nil, List.cons_append, List.nil_append, List.set_cons_zero, List.set_cons_succ, List.replicate, List.append_nil, Option.map_some, Bool.not_true, Bool.not_false, Bool.false_eq_true, if_true, if_false, ite_true, ite_false, reduceIte, Nat.sub_self, Nat.reduceAdd, Nat.reduceSub, Bool.or_true, Bool.or_false, Bool.true_or, Bool.false_or, Bool.and_true, Bool.and_false, decide_true, decide_false, List.getElem?_cons_zero, List.getElem?_cons_succ, Option.some.injEq, exists_eq_left', exists_eq_left, true_and, and_true, at0, at1, at2, at3, List.length_map, List.cons.injEq, Int.cast_ofNat_Int, Int.reduceEq, Int.reduceLT, Int.reduceLE, D.int.injEq, D.str.injEq, D.bl.injEq, D.tup.injEq, D.lst.injEq, exists_const, Int.zero_add, Nat.zero_add, Int.natCast_add, Int.natCast_one, Int.reduceAdd, MO.d]
    rw [List.take_length]
    exact h
abbrev s_sides_of : Stmt := top 34
theorem sc_sides_of : FnScope ["points"] ["points"] (defScope s_sides_of) := ⟨rfl, rfl, rfl, by decide +kernel, rfl, by decide +kernel, by decide +kernel⟩
theorem ok_sides_of (F0 : Df K mg "sides_of" s_sides_of) (B : Bt mg) (C : Cs K w mg)  : Has Pr w K mg base "sides_of" ["points"] k_sides_of sp_sides_of := by
  have sc := sc_sides_of
  refine has_mk (k := _) F0 sc (fun _ _ _ _ _ _ us hl => match us, hl with | [_], _ => rfl) len_sides_of (fun f cdv A outer s H E hr => ⟨_,
    (bOne (sRet (vLen B.len (aCons (vIx (vN 0) vI) aNil)))), ?_⟩)
  rintro _ n P ⟨s, pts, rfl, hp, h⟩
  match pts, hp with
  | [], hp => exact absurd rfl hp.ok.ne
  | x :: r, hp =>
    simp only [SSeq, SNil, SIf, SRet, SSet, SAsg, SPar, SMuL, SApp, SExt, SPut, SFz, frzR, SNo, TVar, TC, TOp, TB, TNil, TCons, TTup, TLst, TKey, oIx, seqOf, TAnd, TOr, TNot, TAndV, TOrV, TNotV, TIf, TCB, cLen, cAbs, cMax2, cMin2, cAll, cList, cTuple, cInt, TIsi, isD, tyD, TCall, TChain, TLc, TLc0, SFor, ISeq, IRg1, IRg2, IZip, TSl, TPs, TPn, slD, cut1, opII, opI0, TNeg, oAdd, oIsN, oNotN, oIsB, opEq, eqD, getS, startR, GName, GNil, GCons, GTup, List.map_cons, List.map_nil, List.length_cons, List.length_nil, List.cons_append, List.nil_append, List.set_cons_zero, List.set_cons_succ, List.replicate, List.append_nil, Option.map_some, Bool.not_true, Bool.not_false, Bool.false_eq_true, if_true, if_false, ite_true, ite_false, reduceIte, Nat.sub_self, Nat.reduceAdd, Nat.reduceSub, Bool.or_true, Bool.or_false, Bool.true_or, Bool.false_or, Bool.and_true, Bool.and_false, decide_true, decide_false, List.getElem?_cons_zero, List.getElem?_cons_succ, Option.some.injEq, exists_eq_left', exists_eq_left, true_and, and_true, at0, at1, at2, at3, List.length_map, List.cons.injEq, Int.cast_ofNat_Int, Int.reduceEq, Int.reduceLT, Int.reduceLE, D.int.injEq, D.str.injEq, D.bl.injEq, D.tup.injEq, D.lst.injEq, exists_const, Int.zero_add, Nat.zero_add, Int.natCast_add, Int.natCast_one, Int.reduceAdd, ptD]
    rw [hp.w x List.mem_cons_self]
    exact h
abbrev s_numbers_at : Stmt := top 35
theorem sc_numbers_at : FnScope ["points", "side", "point"] ["points", "side"] (defScope s_numbers_at) := ⟨rfl, rfl, rfl, by decide +kernel, rfl, by decide +kernel, by decide +kernel⟩
theorem ok_numbers_at (F0 : Df K mg "numbers_at" s_numbers_at) (B : Bt mg) (C : Cs K w mg) (h_in_size : Has Pr w K mg base "in_size" ["some"] k_in_size sp_in_size) : Has Pr w K mg base "numbers_at" ["points", "side"] k_numbers_at sp_numbers_at := by
  have sc := sc_numbers_at
  refine has_mk (k := _) F0 sc (fun _ _ _ _ _ _ us hl => match us, hl with | [_, _], _ => rfl) len_numbers_at (fun f cdv A outer s H E hr => ⟨_,
    (bOne (sRet (vCall h_in_size hr (aCons (vLc (own := [("point", 2)]) sc.nd (iT (vN 0)) (fun _ _ _ _ _ => (gN 2 sc.nd)) (fun _ _ _ _ _ => tN) (fun _ _ _ _ _ => (vIx (vN 2) (vN 1)))) aNil)))), ?_⟩)
  rintro _ n P ⟨s, pts, k, rfl, hp, hk, h⟩
  simp only [SSeq, SNil, SIf, SRet, SSet, SAsg, SPar, SMuL, SApp, SExt, SPut, SFz, frzR, SNo, TVar, TC, TOp, TB, TNil, TCons, TTup, TLst, TKey, oIx, seqOf, TAnd, TOr, TNot, TAndV, TOrV, TNotV, TIf, TCB, cLen, cAbs, cMax2, cMin2, cAll, cList, cTuple, cInt, TIsi, isD, tyD, TCall, TChain, TLc, TLc0, SFor, ISeq, IRg1, IRg2, IZip, TSl, TPs, TPn, slD, cut1, opII, opI0, TNeg, oAdd, oIsN, oNotN, oIsB, opEq, eqD, getS, startR, GName, GNil, GCons, GTup, List.map_cons, List.map_nil, List.length_cons, List.length_nil, List.cons_append, List.nil_append, List.set_cons_zero, List.set_cons_succ, List.replicate, List.append_nil, Option.map_some, Bool.not_true, Bool.not_false, Bool.false_eq_true, if_true, if_false, ite_true, ite_false, reduceIte, Nat.sub_self, Nat.reduceAdd, Nat.reduceSub, Bool.or_true, Bool.or_false, Bool.true_or, Bool.false_or, Bool.and_true, Bool.and_false, decide_true, decide_false, List.getElem?_cons_zero, List.getElem?_cons_succ, Option.some.injEq, exists_eq_left', exists_eq_left, true_and, and_true, at0, at1, at2, at3, List.length_map, List.cons.injEq, Int.cast_ofNat_Int, Int.reduceEq, Int.reduceLT, Int.reduceLE, D.int.injEq, D.str.injEq, D.bl.injEq, D.tup.injEq, D.lst.injEq, exists_const, Int.zero_add, Nat.zero_add, Int.natCast_add, Int.natCast_one, Int.reduceAdd]
  refine lc_mapF pts ptD (fun xs => fr (xs.getD k 0)) (sz8 hp.ok.len) (fun xs hx Q hQ => ?_) ?_
  · simp only [SSeq, SNil, SIf, SRet, SSet, SAsg, SPar, SMuL, SApp, SExt, SPut, SFz, frzR, SNo, TVar, TC, TOp, TB, TNil, TCons, TTup, TLst, TKey, oIx, seqOf, TAnd, TOr, TNot, TAndV, TOrV, TNotV, TIf, TCB, cLen, cAbs, cMax2, cMin2, cAll, cList, cTuple, cInt, TIsi, isD, tyD, TCall, TChain, TLc, TLc0, SFor, ISeq, IRg1, IRg2, IZip, TSl, TPs, TPn, slD, cut1, opII, opI0, TNeg, oAdd, oIsN, oNotN, oIsB, opEq, eqD, getS, startR, GName, GNil, GCons, GTup, List.map_cons, List.map_nil, List.length_cons, List.length_nil, List.cons_append, List.nil_append, List.set_cons_zero, List.set_cons_succ, List.replicate, List.append_nil, Option.map_some, Bool.not_true, Bool.not_false, Bool.false_eq_true, if_true, if_false, ite_true, ite_false, reduceIte, Nat.sub_self, Nat.reduceAdd, Nat.reduceSub, Bool.or_true, Bool.or_false, Bool.true_or, Bool.false_or, Bool.and_true, Bool.and_false, decide_true, decide_false, List.getElem?_cons_zero, List.getElem?_cons_succ, Option.some.injEq, exists_eq_left', exists_eq_left, true_and, and_true, at0, at1, at2, at3, List.length_map, List.cons.injEq, Int.cast_ofNat_Int, Int.reduceEq, Int.reduceLT, Int.reduceLE, D.int.injEq, D.str.injEq, D.bl.injEq, D.tup.injEq, D.lst.injEq, exists_const, Int.zero_add, Nat.zero_add, Int.natCast_add, Int.natCast_one, Int.reduceAdd, wipeR, ptD]
    refine ⟨_, ?_, hQ⟩
    have hk2 : k < xs.length := by rw [hp.w xs hx]; exact hk
    rw [atI_nat, List.getElem?_map, List.getElem?_eq_getElem hk2, List.getD_eq_getElem?_getD, List.getElem?_eq_getElem hk2]
    rfl
  · refine ⟨pts.map fun (xs : List Rat) => xs.getD k 0, by rw [List.map_map]; rfl, by rw [List.length_map]; exact hp.ok.len, fun x hx => ?_, h⟩
    obtain ⟨xs, hxs, rfl⟩ := List.mem_map.mp hx
    have hk2 : k < xs.length := by rw [hp.w xs hxs]; exact hk
    rw [List.getD_eq_getElem?_getD, List.getElem?_eq_getElem hk2]
    exact hp.ok.den xs hxs _ (List.getElem_mem _)
abbrev s_side_looks : Stmt := top 40
theorem sc_side_looks : FnScope ["numbers", "family", "lasts", "firsts", "found", "a", "t", "b"] ["numbers", "family"] (defScope s_side_looks) := ⟨rfl, rfl, rfl, by decide +kernel, rfl, by decide +kernel, by decide +kernel⟩
theorem ok_side_looks (F0 : Df K mg "side_looks" s_side_looks) (B : Bt mg) (C : Cs K w mg)  : Has Pr w K mg base "side_looks" ["numbers", "family"] k_side_looks sp_side_looks := by
  have sc := sc_side_looks
  refine has_mk (k := _) F0 sc (fun _ _ _ _ _ _ us hl => match us, hl with | [_, _], _ => rfl) len_side_looks (fun f cdv A outer s H E hr => ⟨_,
    (bCons (sSet 2 sc.nd (vAdd (vN 0) (vTup (aCons (vGloX C.lookX) aNil))))
    (bCons (sIf (bEq hr (vN 1) vS)
      (bOne (sRet (vLc (own := [("t", 6)]) sc.nd (iT (vN 2)) (fun _ _ _ _ _ => (gN 6 sc.nd)) (fun _ _ _ _ _ => tN) (fun _ _ _ _ _ => (vTup (aCons vS (aCons (vN 6) aNil)))))))
      bNil)
    bNo)), ?_⟩)
  rintro _ n P ⟨xs, rfl, hl, h⟩
  simp only [SSeq, SNil, SIf, SRet, SSet, SAsg, SPar, SMuL, SApp, SExt, SPut, SFz, frzR, SNo, TVar, TC, TOp, TB, TNil, TCons, TTup, TLst, TKey, oIx, seqOf, TAnd, TOr, TNot, TAndV, TOrV, TNotV, TIf, TCB, cLen, cAbs, cMax2, cMin2, cAll, cList, cTuple, cInt, TIsi, isD, tyD, TCall, TChain, TLc, TLc0, SFor, ISeq, IRg1, IRg2, IZip, TSl, TPs, TPn, slD, cut1, opII, opI0, TNeg, oAdd, oIsN, oNotN, oIsB, opEq, eqD, getS, startR, GName, GNil, GCons, GTup, List.map_cons, List.map_nil, List.length_cons, List.length_nil, List.cons_append, List.nil_append, List.set_cons_zero, List.set_cons_succ, List.replicate, List.append_nil, Option.map_some, Bool.not_true, Bool.not_false, Bool.false_eq_true, if_true, if_false, ite_true, ite_false, reduceIte, Nat.sub_self, Nat.reduceAdd, Nat.reduceSub, Bool.or_true, Bool.or_false, Bool.true_or, Bool.false_or, Bool.and_true, Bool.and_false, decide_true, decide_false, List.getElem?_cons_zero, List.getElem?_cons_succ, Option.some.injEq, exists_eq_left', exists_eq_left, true_and, and_true, at0, at1, at2, at3, List.length_map, List.cons.injEq, Int.cast_ofNat_Int, Int.reduceEq, Int.reduceLT, Int.reduceLE, D.int.injEq, D.str.injEq, D.bl.injEq, D.tup.injEq, D.lst.injEq, exists_const, Int.zero_add, Nat.zero_add, Int.natCast_add, Int.natCast_one, Int.reduceAdd]
  refine ⟨sz8 (by omega), sz1000 (by omega), ?_⟩
  have e : xs.map fr ++ [fr 1] = (xs ++ [1]).map fr := by rw [List.map_append]; rfl
  rw [e]
  refine lc_mapF (xs ++ [1]) fr sideD (by rw [List.length_append]; exact sz1000 (by simp; omega)) (fun x hx Q hQ => ?_) h
  simp only [SSeq, SNil, SIf, SRet, SSet, SAsg, SPar, SMuL, SApp, SExt, SPut, SFz, frzR, SNo, TVar, TC, TOp, TB, TNil, TCons, TTup, TLst, TKey, oIx, seqOf, TAnd, TOr, TNot, TAndV, TOrV, TNotV, TIf, TCB, cLen, cAbs, cMax2, cMin2, cAll, cList, cTuple, cInt, TIsi, isD, tyD, TCall, TChain, TLc, TLc0, SFor, ISeq, IRg1, IRg2, IZip, TSl, TPs, TPn, slD, cut1, opII, opI0, TNeg, oAdd, oIsN, oNotN, oIsB, opEq, eqD, getS, startR, GName, GNil, GCons, GTup, List.map_cons, List.map_nil, List.length_cons, List.length_nil, List.cons_append, List.nil_append, List.set_cons_zero, List.set_cons_succ, List.replicate, List.append_nil, Option.map_some, Bool.not_true, Bool.not_false, Bool.false_eq_true, if_true, if_false, ite_true, ite_false, reduceIte, Nat.sub_self, Nat.reduceAdd, Nat.reduceSub, Bool.or_true, Bool.or_false, Bool.true_or, Bool.false_or, Bool.and_true, Bool.and_false, decide_true, decide_false, List.getElem?_cons_zero, List.getElem?_cons_succ, Option.some.injEq, exists_eq_left', exists_eq_left, true_and, and_true, at0, at1, at2, at3, List.length_map, List.cons.injEq, Int.cast_ofNat_Int, Int.reduceEq, Int.reduceLT, Int.reduceLE, D.int.injEq, D.str.injEq, D.bl.injEq, D.tup.injEq, D.lst.injEq, exists_const, Int.zero_add, Nat.zero_add, Int.natCast_add, Int.natCast_one, Int.reduceAdd, wipeR]
  exact ⟨sz8 (by omega), hQ⟩
abbrev s_many_at_side : Stmt := top 41
theorem sc_many_at_side : FnScope ["u", "family", "many"] ["u", "family"] (defScope s_many_at_side) := ⟨rfl, rfl, rfl, by decide +kernel, rfl, by decide +kernel, by decide +kernel⟩
theorem ok_many_at_side (F0 : Df K mg "many_at_side" s_many_at_side) (B : Bt mg) (C : Cs K w mg)  : Has Pr w K mg base "many_at_side" ["u", "family"] k_many_at_side sp_many_at_side := by
  have sc := sc_many_at_side
  refine has_mk (k := _) F0 sc (fun _ _ _ _ _ _ us hl => match us, hl with | [_, _], _ => rfl) len_many_at_side (fun f cdv A outer s H E hr => ⟨_,
    (bCons (sIf (bEq hr (vN 1) vS)
      (bOne (sRet (vAdd (vN 0) vI)))
      bNil)
    bNo), ?_⟩)
  rintro _ n P ⟨u, rfl, h⟩
  simp only [SSeq, SNil, SIf, SRet, SSet, SAsg, SPar, SMuL, SApp, SExt, SPut, SFz, frzR, SNo, TVar, TC, TOp, TB, TNil, TCons, TTup, TLst, TKey, oIx, seqOf, TAnd, TOr, TNot, TAndV, TOrV, TNotV, TIf, TCB, cLen, cAbs, cMax2, cMin2, cAll, cList, cTuple, cInt, TIsi, isD, tyD, TCall, TChain, TLc, TLc0, SFor, ISeq, IRg1, IRg2, IZip, TSl, TPs, TPn, slD, cut1, opII, opI0, TNeg, oAdd, oIsN, oNotN, oIsB, opEq, eqD, getS, startR, GName, GNil, GCons, GTup, List.map_cons, List.map_nil, List.length_cons, List.length_nil, List.cons_append, List.nil_append, List.set_cons_zero, List.set_cons_succ, List.replicate, List.append_nil, Option.map_some, Bool.not_true, Bool.not_false, Bool.false_eq_true, if_true, if_false, ite_true, ite_false, reduceIte, Nat.sub_self, Nat.reduceAdd, Nat.reduceSub, Bool.or_true, Bool.or_false, Bool.true_or, Bool.false_or, Bool.and_true, Bool.and_false, decide_true, decide_false, List.getElem?_cons_zero, List.getElem?_cons_succ, Option.some.injEq, exists_eq_left', exists_eq_left, true_and, and_true, at0, at1, at2, at3, List.length_map, List.cons.injEq, Int.cast_ofNat_Int, Int.reduceEq, Int.reduceLT, Int.reduceLE, D.int.injEq, D.str.injEq, D.bl.injEq, D.tup.injEq, D.lst.injEq, exists_const, Int.zero_add, Nat.zero_add, Int.natCast_add, Int.natCast_one, Int.reduceAdd]
  exact h
abbrev s_many_looks : Stmt := top 42
theorem sc_many_looks : FnScope ["points", "family", "many", "side"] ["points", "family"] (defScope s_many_looks) := ⟨rfl, rfl, rfl, by decide +kernel, rfl, by decide +kernel, by decide +kernel⟩
theorem ok_many_looks (F0 : Df K mg "many_looks" s_many_looks) (B : Bt mg) (C : Cs K w mg) (h_sides_of : Has Pr w K mg base "sides_of" ["points"] k_sides_of sp_sides_of) (h_many_at_side : Has Pr w K mg base "many_at_side" ["u", "family"] k_many_at_side sp_many_at_side) (h_numbers_at : Has Pr w K mg base "numbers_at" ["points", "side"] k_numbers_at sp_numbers_at) : Has Pr w K mg base "many_looks" ["points", "family"] k_many_looks sp_many_looks := by
  have sc := sc_many_looks
  refine has_mk (k := _) F0 sc (fun _ _ _ _ _ _ us hl => match us, hl with | [_, _], _ => rfl) len_many_looks (fun f cdv A outer s H E hr => ⟨_,
    (bCons (sSet 2 sc.nd vI)
    (bCons (sFor .never (iRg1 B.range (aCons (vCall h_sides_of hr (aCons (vN 0) aNil)) aNil)) (gN 3 sc.nd)
      (bOne (sSet 2 sc.nd (vMul (vN 2) (vCall h_many_at_side hr (aCons (vLen B.len (aCons (vCall h_numbers_at hr (aCons (vN 0) (aCons (vN 3) aNil))) aNil)) (aCons (vN 1) aNil)))))))
    (bOne (sRet (vN 2))))), ?_⟩)
  rintro _ n P ⟨s, pts, rfl, hp, h⟩
  simp only [SSeq, SNil, SIf, SRet, SSet, SAsg, SPar, SMuL, SApp, SExt, SPut, SFz, frzR, SNo, TVar, TC, TOp, TB, TNil, TCons, TTup, TLst, TKey, oIx, seqOf, TAnd, TOr, TNot, TAndV, TOrV, TNotV, TIf, TCB, cLen, cAbs, cMax2, cMin2, cAll, cList, cTuple, cInt, TIsi, isD, tyD, TCall, TChain, TLc, TLc0, SFor, ISeq, IRg1, IRg2, IZip, TSl, TPs, TPn, slD, cut1, opII, opI0, TNeg, oAdd, oIsN, oNotN, oIsB, opEq, eqD, getS, startR, GName, GNil, GCons, GTup, List.map_cons, List.map_nil, List.length_cons, List.length_nil, List.cons_append, List.nil_append, List.set_cons_zero, List.set_cons_succ, List.replicate, List.append_nil, Option.map_some, Bool.not_true, Bool.not_false, Bool.false_eq_true, if_true, if_false, ite_true, ite_false, reduceIte, Nat.sub_self, Nat.reduceAdd, Nat.reduceSub, Bool.or_true, Bool.or_false, Bool.true_or, Bool.false_or, Bool.and_true, Bool.and_false, decide_true, decide_false, List.getElem?_cons_zero, List.getElem?_cons_succ, Option.some.injEq, exists_eq_left', exists_eq_left, true_and, and_true, at0, at1, at2, at3, List.length_map, List.cons.injEq, Int.cast_ofNat_Int, Int.reduceEq, Int.reduceLT, Int.reduceLE, D.int.injEq, D.str.injEq, D.bl.injEq, D.tup.injEq, D.lst.injEq, exists_const, Int.zero_add, Nat.zero_add, Int.natCast_add, Int.natCast_one, Int.reduceAdd, sp_sides_of]
  refine ⟨s, pts, rfl, hp, small62 (by have := hp.s2; omega), fun i ρ n' => Eqn n' n ∧ ∃ (m : Nat) (a : Sl), m ≤ 9 ^ i ∧ Is ρ [.val (.tup (pts.map ptD)), .val (.str "corner"), .val (.int m), a], ⟨rfl, 1, _, by simp, rfl⟩, ?_, ?_⟩
  · rintro i d ρ n' hd ⟨rfl, m, a, hm, rfl⟩
    obtain ⟨rfl, hi⟩ := rgI_get hd
    have hi2 : i < s := by omega
    simp only [SSeq, SNil, SIf, SRet, SSet, SAsg, SPar, SMuL, SApp, SExt, SPut, SFz, frzR, SNo, TVar, TC, TOp, TB, TNil, TCons, TTup, TLst, TKey, oIx, seqOf, TAnd, TOr, TNot, TAndV, TOrV, TNotV, TIf, TCB, cLen, cAbs, cMax2, cMin2, cAll, cList, cTuple, cInt, TIsi, isD, tyD, TCall, TChain, TLc, TLc0, SFor, ISeq, IRg1, IRg2, IZip, TSl, TPs, TPn, slD, cut1, opII, opI0, TNeg, oAdd, oIsN, oNotN, oIsB, opEq, eqD, getS, startR, GName, GNil, GCons, GTup, List.map_cons, List.map_nil, List.length_cons, List.length_nil, List.cons_append, List.nil_append, List.set_cons_zero, List.set_cons_succ, List.replicate, List.append_nil, Option.map_some, Bool.not_true, Bool.not_false, Bool.false_eq_true, if_true, if_false, ite_true, ite_false, reduceIte, Nat.sub_self, Nat.reduceAdd, Nat.reduceSub, Bool.or_true, Bool.or_false, Bool.true_or, Bool.false_or, Bool.and_true, Bool.and_false, decide_true, decide_false, List.getElem?_cons_zero, List.getElem?_cons_succ, Option.some.injEq, exists_eq_left', exists_eq_left, true_and, and_true, at0, at1, at2, at3, List.length_map, List.cons.injEq, Int.cast_ofNat_Int, Int.reduceEq, Int.reduceLT, Int.reduceLE, D.int.injEq, D.str.injEq, D.bl.injEq, D.tup.injEq, D.lst.injEq, exists_const, Int.zero_add, Nat.zero_add, Int.natCast_add, Int.natCast_one, Int.reduceAdd, sp_numbers_at, sp_many_at_side]
    refine ⟨s, pts, i, ⟨rfl, rfl⟩, hp, hi2, (nums pts i).length, rfl, ?_, rfl, m * ((nums pts i).length + 1), Sl.val (.int i), ?_, ?_⟩
    · have := hp.s2
      have h9 := pow9 (show i ≤ 2 by omega)
      exact .inl ⟨by omega, by omega⟩
    · rw [Nat.pow_succ]
      exact Nat.mul_le_mul hm (by have := nums_len hp i; omega)
    · simp only [Int.natCast_mul, Int.natCast_add, Int.natCast_one]
      rfl
  · rintro ρ n' ⟨rfl, m, a, hm, rfl⟩
    simp only [SSeq, SNil, SIf, SRet, SSet, SAsg, SPar, SMuL, SApp, SExt, SPut, SFz, frzR, SNo, TVar, TC, TOp, TB, TNil, TCons, TTup, TLst, TKey, oIx, seqOf, TAnd, TOr, TNot, TAndV, TOrV, TNotV, TIf, TCB, cLen, cAbs, cMax2, cMin2, cAll, cList, cTuple, cInt, TIsi, isD, tyD, TCall, TChain, TLc, TLc0, SFor, ISeq, IRg1, IRg2, IZip, TSl, TPs, TPn, slD, cut1, opII, opI0, TNeg, oAdd, oIsN, oNotN, oIsB, opEq, eqD, getS, startR, GName, GNil, GCons, GTup, List.map_cons, List.map_nil, List.length_cons, List.length_nil, List.cons_append, List.nil_append, List.set_cons_zero, List.set_cons_succ, List.replicate, List.append_nil, Option.map_some, Bool.not_true, Bool.not_false, Bool.false_eq_true, if_true, if_false, ite_true, ite_false, reduceIte, Nat.sub_self, Nat.reduceAdd, Nat.reduceSub, Bool.or_true, Bool.or_false, Bool.true_or, Bool.false_or, Bool.and_true, Bool.and_false, decide_true, decide_false, List.getElem?_cons_zero, List.getElem?_cons_succ, Option.some.injEq, exists_eq_left', exists_eq_left, true_and, and_true, at0, at1, at2, at3, List.length_map, List.cons.injEq, Int.cast_ofNat_Int, Int.reduceEq, Int.reduceLT, Int.reduceLE, D.int.injEq, D.str.injEq, D.bl.injEq, D.tup.injEq, D.lst.injEq, exists_const, Int.zero_add, Nat.zero_add, Int.natCast_add, Int.natCast_one, Int.reduceAdd]
    rw [rgI_len] at hm
    exact h m (Nat.le_trans hm (pow9 hp.s2))
abbrev s_looks : Stmt := top 43
theorem sc_looks : FnScope ["points", "family", "found", "side", "some", "longer", "box", "one"] ["points", "family"] (defScope s_looks) := ⟨rfl, rfl, rfl, by decide +kernel, rfl, by decide +kernel, by decide +kernel⟩
theorem ok_looks (F0 : Df K mg "looks" s_looks) (B : Bt mg) (C : Cs K w mg) (h_sides_of : Has Pr w K mg base "sides_of" ["points"] k_sides_of sp_sides_of) (h_side_looks : Has Pr w K mg base "side_looks" ["numbers", "family"] k_side_looks sp_side_looks) (h_numbers_at : Has Pr w K mg base "numbers_at" ["points", "side"] k_numbers_at sp_numbers_at) (h_many_looks : Has Pr w K mg base "many_looks" ["points", "family"] k_many_looks sp_many_looks) : Has Pr w K mg base "looks" ["points", "family"] k_looks sp_looks := by
  have sc := sc_looks
  refine has_mk (k := _) F0 sc (fun _ _ _ _ _ _ us hl => match us, hl with | [_, _], _ => rfl) len_looks (fun f cdv A outer s H E hr => ⟨_,
    (bCons (sIf (bGt (vCall h_many_looks hr (aCons (vN 0) (aCons (vN 1) aNil))) (vGloI C.looks))
      (bOne sNo)
      bNil)
    (bCons (sSet 2 sc.nd (vLst (aCons (vTup aNil) aNil)))
    (bCons (sFor .never (iRg1 B.range (aCons (vCall h_sides_of hr (aCons (vN 0) aNil)) aNil)) (gN 3 sc.nd)
      (bCons (sSet 4 sc.nd (vCall h_side_looks hr (aCons (vCall h_numbers_at hr (aCons (vN 0) (aCons (vN 3) aNil))) (aCons (vN 1) aNil))))
      (bCons (sMuL 5 sc.nd aNil)
      (bCons (sFor .never (iL (vN 2)) (gN 6 sc.nd)
        (bOne (sExt 5 (vLc (own := [("one", 7)]) sc.nd (iL (vN 4)) (fun _ _ _ _ _ => (gN 7 sc.nd)) (fun _ _ _ _ _ => tN) (fun _ _ _ _ _ => (vAdd (vN 6) (vTup (aCons (vN 7) aNil))))))))
      (bOne (sFz 5 (sSet 2 sc.nd (vN 5))))))))
    (bOne (sRet (vN 2)))))), ?_⟩)
  rintro _ n P ⟨s, pts, rfl, hp, h⟩
  simp only [SSeq, SNil, SIf, SRet, SSet, SAsg, SPar, SMuL, SApp, SExt, SPut, SFz, frzR, SNo, TVar, TC, TOp, TB, TNil, TCons, TTup, TLst, TKey, oIx, seqOf, TAnd, TOr, TNot, TAndV, TOrV, TNotV, TIf, TCB, cLen, cAbs, cMax2, cMin2, cAll, cList, cTuple, cInt, TIsi, isD, tyD, TCall, TChain, TLc, TLc0, SFor, ISeq, IRg1, IRg2, IZip, TSl, TPs, TPn, slD, cut1, opII, opI0, TNeg, oAdd, oIsN, oNotN, oIsB, opEq, eqD, getS, startR, GName, GNil, GCons, GTup, List.map_cons, List.map_nil, List.length_cons, List.length_nil, List.cons_append, List.nil_append, List.set_cons_zero, List.set_cons_succ, List.replicate, List.append_nil, Option.map_some, Bool.not_true, Bool.not_false, Bool.false_eq_true, if_true, if_false, ite_true, ite_false, reduceIte, Nat.sub_self, Nat.reduceAdd, Nat.reduceSub, Bool.or_true, Bool.or_false, Bool.true_or, Bool.false_or, Bool.and_true, Bool.and_false, decide_true, decide_false, List.getElem?_cons_zero, List.getElem?_cons_succ, Option.some.injEq, exists_eq_left', exists_eq_left, true_and, and_true, at0, at1, at2, at3, List.length_map, List.cons.injEq, Int.cast_ofNat_Int, Int.reduceEq, Int.reduceLT, Int.reduceLE, D.int.injEq, D.str.injEq, D.bl.injEq, D.tup.injEq, D.lst.injEq, exists_const, Int.zero_add, Nat.zero_add, Int.natCast_add, Int.natCast_one, Int.reduceAdd, sp_sides_of, sp_many_looks]
  refine ⟨s, pts, rfl, hp, fun m hm => ?_⟩
  have e : decide ((3000 : Int) < m) = false := by rw [decide_eq_false_iff_not]; omega
  simp only [SSeq, SNil, SIf, SRet, SSet, SAsg, SPar, SMuL, SApp, SExt, SPut, SFz, frzR, SNo, TVar, TC, TOp, TB, TNil, TCons, TTup, TLst, TKey, oIx, seqOf, TAnd, TOr, TNot, TAndV, TOrV, TNotV, TIf, TCB, cLen, cAbs, cMax2, cMin2, cAll, cList, cTuple, cInt, TIsi, isD, tyD, TCall, TChain, TLc, TLc0, SFor, ISeq, IRg1, IRg2, IZip, TSl, TPs, TPn, slD, cut1, opII, opI0, TNeg, oAdd, oIsN, oNotN, oIsB, opEq, eqD, getS, startR, GName, GNil, GCons, GTup, List.map_cons, List.map_nil, List.length_cons, List.length_nil, List.cons_append, List.nil_append, List.set_cons_zero, List.set_cons_succ, List.replicate, List.append_nil, Option.map_some, Bool.not_true, Bool.not_false, Bool.false_eq_true, if_true, if_false, ite_true, ite_false, reduceIte, Nat.sub_self, Nat.reduceAdd, Nat.reduceSub, Bool.or_true, Bool.or_false, Bool.true_or, Bool.false_or, Bool.and_true, Bool.and_false, decide_true, decide_false, List.getElem?_cons_zero, List.getElem?_cons_succ, Option.some.injEq, exists_eq_left', exists_eq_left, true_and, and_true, at0, at1, at2, at3, List.length_map, List.cons.injEq, Int.cast_ofNat_Int, Int.reduceEq, Int.reduceLT, Int.reduceLE, D.int.injEq, D.str.injEq, D.bl.injEq, D.tup.injEq, D.lst.injEq, exists_const, Int.zero_add, Nat.zero_add, Int.natCast_add, Int.natCast_one, Int.reduceAdd, e]
  refine ⟨Nat.zero_le _, sz8 (by omega), s, pts, rfl, hp, small62 (by have := hp.s2; omega), fun i ρ n' => Eqn n' n ∧ ∃ a b c d e, Is ρ [.val (.tup (pts.map ptD)), .val (.str "corner"), .val (.lst ((prodL ((List.range i).map (edges pts))).map boxD)), a, b, c, d, e], ⟨rfl, _, _, _, _, _, rfl⟩, ?_, ?_⟩
  · rintro i d ρ n' hd ⟨rfl, a, b, c, d', e', rfl⟩
    obtain ⟨rfl, hi⟩ := rgI_get hd
    have hi2 : i < s := by omega
    have hs2 := hp.s2
    simp only [SSeq, SNil, SIf, SRet, SSet, SAsg, SPar, SMuL, SApp, SExt, SPut, SFz, frzR, SNo, TVar, TC, TOp, TB, TNil, TCons, TTup, TLst, TKey, oIx, seqOf, TAnd, TOr, TNot, TAndV, TOrV, TNotV, TIf, TCB, cLen, cAbs, cMax2, cMin2, cAll, cList, cTuple, cInt, TIsi, isD, tyD, TCall, TChain, TLc, TLc0, SFor, ISeq, IRg1, IRg2, IZip, TSl, TPs, TPn, slD, cut1, opII, opI0, TNeg, oAdd, oIsN, oNotN, oIsB, opEq, eqD, getS, startR, GName, GNil, GCons, GTup, List.map_cons, List.map_nil, List.length_cons, List.length_nil, List.cons_append, List.nil_append, List.set_cons_zero, List.set_cons_succ, List.replicate, List.append_nil, Option.map_some, Bool.not_true, Bool.not_false, Bool.false_eq_true, if_true, if_false, ite_true, ite_false, reduceIte, Nat.sub_self, Nat.reduceAdd, Nat.reduceSub, Bool.or_true, Bool.or_false, Bool.true_or, Bool.false_or, Bool.and_true, Bool.and_false, decide_true, decide_false, List.getElem?_cons_zero, List.getElem?_cons_succ, Option.some.injEq, exists_eq_left', exists_eq_left, true_and, and_true, at0, at1, at2, at3, List.length_map, List.cons.injEq, Int.cast_ofNat_Int, Int.reduceEq, Int.reduceLT, Int.reduceLE, D.int.injEq, D.str.injEq, D.bl.injEq, D.tup.injEq, D.lst.injEq, exists_const, Int.zero_add, Nat.zero_add, Int.natCast_add, Int.natCast_one, Int.reduceAdd, sp_numbers_at, sp_side_looks]
    have hL := Nat.le_trans (looks_take hp i) (pow9 (show i ≤ 2 by omega))
    have hE := edges_len hp i
    have hE2 : (edges pts i).length = (nums pts i).length + 1 := by simp [edges]
    refine ⟨s, pts, i, ⟨rfl, rfl⟩, hp, hi2, nums pts i, rfl, nums_len hp i, Nat.zero_le _, fun j ρ n2 => Eqn n2 n' ∧ ∃ a b, Is ρ [.val (.tup (pts.map ptD)), .val (.str "corner"), .val (.lst ((prodL ((List.range i).map (edges pts))).map boxD)), .val (.int i), .val (.lst ((edges pts i).map sideD)),
      .mu (.lst ((extL ((prodL ((List.range i).map (edges pts))).take j) (edges pts i)).map boxD)), a, b], ⟨rfl, _, _, rfl⟩, ?_, ?_⟩
    · rintro j d ρ n2 hd ⟨rfl, a, b, rfl⟩
      rw [List.getElem?_map] at hd
      obtain ⟨x, hx', rfl⟩ := Option.map_eq_some_iff.mp hd
      simp only [SSeq, SNil, SIf, SRet, SSet, SAsg, SPar, SMuL, SApp, SExt, SPut, SFz, frzR, SNo, TVar, TC, TOp, TB, TNil, TCons, TTup, TLst, TKey, oIx, seqOf, TAnd, TOr, TNot, TAndV, TOrV, TNotV, TIf, TCB, cLen, cAbs, cMax2, cMin2, cAll, cList, cTuple, cInt, TIsi, isD, tyD, TCall, TChain, TLc, TLc0, SFor, ISeq, IRg1, IRg2, IZip, TSl, TPs, TPn, slD, cut1, opII, opI0, TNeg, oAdd, oIsN, oNotN, oIsB, opEq, eqD, getS, startR, GName, GNil, GCons, GTup, List.map_cons, List.map_nil, List.length_cons, List.length_nil, List.cons_append, List.nil_append, List.set_cons_zero, List.set_cons_succ, List.replicate, List.append_nil, Option.map_some, Bool.not_true, Bool.not_false, Bool.false_eq_true, if_true, if_false, ite_true, ite_false, reduceIte, Nat.sub_self, Nat.reduceAdd, Nat.reduceSub, Bool.or_true, Bool.or_false, Bool.true_or, Bool.false_or, Bool.and_true, Bool.and_false, decide_true, decide_false, List.getElem?_cons_zero, List.getElem?_cons_succ, Option.some.injEq, exists_eq_left', exists_eq_left, true_and, and_true, at0, at1, at2, at3, List.length_map, List.cons.injEq, Int.cast_ofNat_Int, Int.reduceEq, Int.reduceLT, Int.reduceLE, D.int.injEq, D.str.injEq, D.bl.injEq, D.tup.injEq, D.lst.injEq, exists_const, Int.zero_add, Nat.zero_add, Int.natCast_add, Int.natCast_one, Int.reduceAdd]
      refine lc_mapF (edges pts i) sideD (fun y => boxD (x ++ [y])) (sz1000 (by omega)) (fun y hy Q hQ => ?_) ?_
      · simp only [SSeq, SNil, SIf, SRet, SSet, SAsg, SPar, SMuL, SApp, SExt, SPut, SFz, frzR, SNo, TVar, TC, TOp, TB, TNil, TCons, TTup, TLst, TKey, oIx, seqOf, TAnd, TOr, TNot, TAndV, TOrV, TNotV, TIf, TCB, cLen, cAbs, cMax2, cMin2, cAll, cList, cTuple, cInt, TIsi, isD, tyD, TCall, TChain, TLc, TLc0, SFor, ISeq, IRg1, IRg2, IZip, TSl, TPs, TPn, slD, cut1, opII, opI0, TNeg, oAdd, oIsN, oNotN, oIsB, opEq, eqD, getS, startR, GName, GNil, GCons, GTup, List.map_cons, List.map_nil, List.length_cons, List.length_nil, List.cons_append, List.nil_append, List.set_cons_zero, List.set_cons_succ, List.replicate, List.append_nil, Option.map_some, Bool.not_true, Bool.not_false, Bool.false_eq_true, if_true, if_false, ite_true, ite_false, reduceIte, Nat.sub_self, Nat.reduceAdd, Nat.reduceSub, Bool.or_true, Bool.or_false, Bool.true_or, Bool.false_or, Bool.and_true, Bool.and_false, decide_true, decide_false, List.getElem?_cons_zero, List.getElem?_cons_succ, Option.some.injEq, exists_eq_left', exists_eq_left, true_and, and_true, at0, at1, at2, at3, List.length_map, List.cons.injEq, Int.cast_ofNat_Int, Int.reduceEq, Int.reduceLT, Int.reduceLE, D.int.injEq, D.str.injEq, D.bl.injEq, D.tup.injEq, D.lst.injEq, exists_const, Int.zero_add, Nat.zero_add, Int.natCast_add, Int.natCast_one, Int.reduceAdd, wipeR, boxD]
        refine ⟨sz8 (by omega), sz1000 ?_, ?_⟩
        · have := (mem_prodL.mp (List.mem_of_getElem? hx')).len
          simp at this
          omega
        · simpa [boxD] using hQ
      · refine ⟨?_, rfl, .val (boxD x), b, ?_⟩
        · rw [extL_len, List.length_take, List.length_map]
          have := Nat.mul_le_mul (show min j (prodL ((List.range i).map (edges pts))).length ≤ 81 by omega) hE
          exact sz1000 (by omega)
        · rw [take_snoc hx']
          unfold extL
          simp [List.flatMap_append, List.map_append, List.map_map, Function.comp_def]
          rfl
    · rintro ρ n2 ⟨rfl, a, b, rfl⟩
      rw [List.take_length]
      simp only [SSeq, SNil, SIf, SRet, SSet, SAsg, SPar, SMuL, SApp, SExt, SPut, SFz, frzR, SNo, TVar, TC, TOp, TB, TNil, TCons, TTup, TLst, TKey, oIx, seqOf, TAnd, TOr, TNot, TAndV, TOrV, TNotV, TIf, TCB, cLen, cAbs, cMax2, cMin2, cAll, cList, cTuple, cInt, TIsi, isD, tyD, TCall, TChain, TLc, TLc0, SFor, ISeq, IRg1, IRg2, IZip, TSl, TPs, TPn, slD, cut1, opII, opI0, TNeg, oAdd, oIsN, oNotN, oIsB, opEq, eqD, getS, startR, GName, GNil, GCons, GTup, List.map_cons, List.map_nil, List.length_cons, List.length_nil, List.cons_append, List.nil_append, List.set_cons_zero, List.set_cons_succ, List.replicate, List.append_nil, Option.map_some, Bool.not_true, Bool.not_false, Bool.false_eq_true, if_true, if_false, ite_true, ite_false, reduceIte, Nat.sub_self, Nat.reduceAdd, Nat.reduceSub, Bool.or_true, Bool.or_false, Bool.true_or, Bool.false_or, Bool.and_true, Bool.and_false, decide_true, decide_false, List.getElem?_cons_zero, List.getElem?_cons_succ, Option.some.injEq, exists_eq_left', exists_eq_left, true_and, and_true, at0, at1, at2, at3, List.length_map, List.cons.injEq, Int.cast_ofNat_Int, Int.reduceEq, Int.reduceLT, Int.reduceLE, D.int.injEq, D.str.injEq, D.bl.injEq, D.tup.injEq, D.lst.injEq, exists_const, Int.zero_add, Nat.zero_add, Int.natCast_add, Int.natCast_one, Int.reduceAdd, MO.d]
      refine ⟨rfl, ?_, ?_, ?_, ?_, ?_, ?_⟩
      rotate_left 5
      rw [List.range_succ, List.map_append, List.map_cons, List.map_nil, prodL_snoc]
      rfl
  · rintro ρ n' ⟨rfl, a, b, c, d', e', rfl⟩
    simp only [SSeq, SNil, SIf, SRet, SSet, SAsg, SPar, SMuL, SApp, SExt, SPut, SFz, frzR, SNo, TVar, TC, TOp, TB, TNil, TCons, TTup, TLst, TKey, oIx, seqOf, TAnd, TOr, TNot, TAndV, TOrV, TNotV, TIf, TCB, cLen, cAbs, cMax2, cMin2, cAll, cList, cTuple, cInt, TIsi, isD, tyD, TCall, TChain, TLc, TLc0, SFor, ISeq, IRg1, IRg2, IZip, TSl, TPs, TPn, slD, cut1, opII, opI0, TNeg, oAdd, oIsN, oNotN, oIsB, opEq, eqD, getS, startR, GName, GNil, GCons, GTup, List.map_cons, List.map_nil, List.length_cons, List.length_nil, List.cons_append, List.nil_append, List.set_cons_zero, List.set_cons_succ, List.replicate, List.append_nil, Option.map_some, Bool.not_true, Bool.not_false, Bool.false_eq_true, if_true, if_false, ite_true, ite_false, reduceIte, Nat.sub_self, Nat.reduceAdd, Nat.reduceSub, Bool.or_true, Bool.or_false, Bool.true_or, Bool.false_or, Bool.and_true, Bool.and_false, decide_true, decide_false, List.getElem?_cons_zero, List.getElem?_cons_succ, Option.some.injEq, exists_eq_left', exists_eq_left, true_and, and_true, at0, at1, at2, at3, List.length_map, List.cons.injEq, Int.cast_ofNat_Int, Int.reduceEq, Int.reduceLT, Int.reduceLE, D.int.injEq, D.str.injEq, D.bl.injEq, D.tup.injEq, D.lst.injEq, exists_const, Int.zero_add, Nat.zero_add, Int.natCast_add, Int.natCast_one, Int.reduceAdd]
    rw [rgI_len]
    exact h
abbrev s_misses_of : Stmt := top 44
theorem sc_misses_of : FnScope ["points", "box"] ["points", "box"] (defScope s_misses_of) := ⟨rfl, rfl, rfl, by decide +kernel, rfl, by decide +kernel, by decide +kernel⟩
theorem ok_misses_of (F0 : Df K mg "misses_of" s_misses_of) (B : Bt mg) (C : Cs K w mg) (h_lack_of : Has Pr w K mg base "lack_of" ["points", "box"] k_lack_of sp_lack_of) (h_over_of : Has Pr w K mg base "over_of" ["points", "box"] k_over_of sp_over_of) : Has Pr w K mg base "misses_of" ["points", "box"] k_misses_of sp_misses_of := by
  have sc := sc_misses_of
  refine has_mk (k := _) F0 sc (fun _ _ _ _ _ _ us hl => match us, hl with | [_, _], _ => rfl) len_misses_of (fun f cdv A outer s H E hr => ⟨_,
    (bOne (sRet (vLst (aCons (vTup (aCons vS (aCons (vCall h_over_of hr (aCons (vN 0) (aCons (vN 1) aNil))) aNil))) (aCons (vTup (aCons vS (aCons (vCall h_lack_of hr (aCons (vN 0) (aCons (vN 1) aNil))) aNil))) aNil))))), ?_⟩)
  rintro _ n P ⟨pts, qs, rfl, hp, hq, h⟩
  simp only [SSeq, SNil, SIf, SRet, SSet, SAsg, SPar, SMuL, SApp, SExt, SPut, SFz, frzR, SNo, TVar, TC, TOp, TB, TNil, TCons, TTup, TLst, TKey, oIx, seqOf, TAnd, TOr, TNot, TAndV, TOrV, TNotV, TIf, TCB, cLen, cAbs, cMax2, cMin2, cAll, cList, cTuple, cInt, TIsi, isD, tyD, TCall, TChain, TLc, TLc0, SFor, ISeq, IRg1, IRg2, IZip, TSl, TPs, TPn, slD, cut1, opII, opI0, TNeg, oAdd, oIsN, oNotN, oIsB, opEq, eqD, getS, startR, GName, GNil, GCons, GTup, List.map_cons, List.map_nil, List.length_cons, List.length_nil, List.cons_append, List.nil_append, List.set_cons_zero, List.set_cons_succ, List.replicate, List.append_nil, Option.map_some, Bool.not_true, Bool.not_false, Bool.false_eq_true, if_true, if_false, ite_true, ite_false, reduceIte, Nat.sub_self, Nat.reduceAdd, Nat.reduceSub, Bool.or_true, Bool.or_false, Bool.true_or, Bool.false_or, Bool.and_true, Bool.and_false, decide_true, decide_false, List.getElem?_cons_zero, List.getElem?_cons_succ, Option.some.injEq, exists_eq_left', exists_eq_left, true_and, and_true, at0, at1, at2, at3, List.length_map, List.cons.injEq, Int.cast_ofNat_Int, Int.reduceEq, Int.reduceLT, Int.reduceLE, D.int.injEq, D.str.injEq, D.bl.injEq, D.tup.injEq, D.lst.injEq, exists_const, Int.zero_add, Nat.zero_add, Int.natCast_add, Int.natCast_one, Int.reduceAdd, sp_over_of, sp_lack_of]
  have e2 : 2 ≤ sizeLine := sz8 (by omega)
  exact ⟨pts, qs, ⟨rfl, rfl⟩, hp, hq, e2, pts, qs, ⟨rfl, rfl⟩, hp, hq, e2, e2, h⟩
abbrev s_worst : Stmt := top 45
theorem sc_worst : FnScope ["points", "family", "found", "box", "way", "number"] ["points", "family"] (defScope s_worst) := ⟨rfl, rfl, rfl, by decide +kernel, rfl, by decide +kernel, by decide +kernel⟩
theorem ok_worst (F0 : Df K mg "worst" s_worst) (B : Bt mg) (C : Cs K w mg) (h_looks : Has Pr w K mg base "looks" ["points", "family"] k_looks sp_looks) (h_misses_of : Has Pr w K mg base "misses_of" ["points", "box"] k_misses_of sp_misses_of) (h_is_below : Has Pr w K mg base "is_below" ["one", "other"] k_is_below sp_is_below) : Has Pr w K mg base "worst" ["points", "family"] k_worst sp_worst := by
  have sc := sc_worst
  refine has_mk (k := _) F0 sc (fun _ _ _ _ _ _ us hl => match us, hl with | [_, _], _ => rfl) len_worst (fun f cdv A outer s H E hr => ⟨_,
    (bCons (sSet 2 sc.nd vO)
    (bCons (sFor .never (iL (vCall h_looks hr (aCons (vN 0) (aCons (vN 1) aNil)))) (gN 3 sc.nd)
      (bOne (sFor .never (iL (vCall h_misses_of hr (aCons (vN 0) (aCons (vN 3) aNil)))) (gTup (m := 2) (gCons (gN 4 sc.nd) (gCons (gN 5 sc.nd) gNil)))
        (bOne (sIf (bW (wOr (bIsN (vN 2) vO) (wOr1 (bVal (vCall h_is_below hr (aCons (vIx (vN 2) vI) (aCons (vN 5) aNil)))))))
          (bOne (sSet 2 sc.nd (vTup (aCons (vN 5) (aCons (vN 4) (aCons (vN 3) aNil))))))
          bNil)))))
    (bOne (sRet (vN 2))))), ?_⟩)
  rintro _ n P ⟨s, pts, rfl, hp, hx, h⟩
  simp only [SSeq, SNil, SIf, SRet, SSet, SAsg, SPar, SMuL, SApp, SExt, SPut, SFz, frzR, SNo, TVar, TC, TOp, TB, TNil, TCons, TTup, TLst, TKey, oIx, seqOf, TAnd, TOr, TNot, TAndV, TOrV, TNotV, TIf, TCB, cLen, cAbs, cMax2, cMin2, cAll, cList, cTuple, cInt, TIsi, isD, tyD, TCall, TChain, TLc, TLc0, SFor, ISeq, IRg1, IRg2, IZip, TSl, TPs, TPn, slD, cut1, opII, opI0, TNeg, oAdd, oIsN, oNotN, oIsB, opEq, eqD, getS, startR, GName, GNil, GCons, GTup, List.map_cons, List.map_nil, List.length_cons, List.length_nil, List.cons_append, List.nil_append, List.set_cons_zero, List.set_cons_succ, List.replicate, List.append_nil, Option.map_some, Bool.not_true, Bool.not_false, Bool.false_eq_true, if_true, if_false, ite_true, ite_false, reduceIte, Nat.sub_self, Nat.reduceAdd, Nat.reduceSub, Bool.or_true, Bool.or_false, Bool.true_or, Bool.false_or, Bool.and_true, Bool.and_false, decide_true, decide_false, List.getElem?_cons_zero, List.getElem?_cons_succ, Option.some.injEq, exists_eq_left', exists_eq_left, true_and, and_true, at0, at1, at2, at3, List.length_map, List.cons.injEq, Int.cast_ofNat_Int, Int.reduceEq, Int.reduceLT, Int.reduceLE, D.int.injEq, D.str.injEq, D.bl.injEq, D.tup.injEq, D.lst.injEq, exists_const, Int.zero_add, Nat.zero_add, Int.natCast_add, Int.natCast_one, Int.reduceAdd, sp_looks]
  refine ⟨s, pts, rfl, hp, fun i ρ n' => Eqn n' n ∧ ∃ t a b c, Is ρ [.val (.tup (pts.map ptD)), .val (.str "corner"), .val t, a, b, c] ∧ SoFar (((looksQ s pts).take i).flatMap (cand pts)) t, ⟨rfl, _, _, _, _, rfl, .inl ⟨rfl, rfl⟩⟩, ?_, ?_⟩
  · rintro i d ρ n' hd ⟨rfl, t, a, b, c, rfl, hw⟩
    rw [List.getElem?_map] at hd
    obtain ⟨x, hx', rfl⟩ := Option.map_eq_some_iff.mp hd
    have hbx := looks_ok hp hx (List.mem_of_getElem? hx')
    have e : ((looksQ s pts).take (i + 1)).flatMap (cand pts) = ((looksQ s pts).take i).flatMap (cand pts) ++ cand pts x := by
      rw [take_snoc hx', List.flatMap_append]; simp
    simp only [SSeq, SNil, SIf, SRet, SSet, SAsg, SPar, SMuL, SApp, SExt, SPut, SFz, frzR, SNo, TVar, TC, TOp, TB, TNil, TCons, TTup, TLst, TKey, oIx, seqOf, TAnd, TOr, TNot, TAndV, TOrV, TNotV, TIf, TCB, cLen, cAbs, cMax2, cMin2, cAll, cList, cTuple, cInt, TIsi, isD, tyD, TCall, TChain, TLc, TLc0, SFor, ISeq, IRg1, IRg2, IZip, TSl, TPs, TPn, slD, cut1, opII, opI0, TNeg, oAdd, oIsN, oNotN, oIsB, opEq, eqD, getS, startR, GName, GNil, GCons, GTup, List.map_cons, List.map_nil, List.length_cons, List.length_nil, List.cons_append, List.nil_append, List.set_cons_zero, List.set_cons_succ, List.replicate, List.append_nil, Option.map_some, Bool.not_true, Bool.not_false, Bool.false_eq_true, if_true, if_false, ite_true, ite_false, reduceIte, Nat.sub_self, Nat.reduceAdd, Nat.reduceSub, Bool.or_true, Bool.or_false, Bool.true_or, Bool.false_or, Bool.and_true, Bool.and_false, decide_true, decide_false, List.getElem?_cons_zero, List.getElem?_cons_succ, Option.some.injEq, exists_eq_left', exists_eq_left, true_and, and_true, at0, at1, at2, at3, List.length_map, List.cons.injEq, Int.cast_ofNat_Int, Int.reduceEq, Int.reduceLT, Int.reduceLE, D.int.injEq, D.str.injEq, D.bl.injEq, D.tup.injEq, D.lst.injEq, exists_const, Int.zero_add, Nat.zero_add, Int.natCast_add, Int.natCast_one, Int.reduceAdd, sp_misses_of, missD]
    rw [e]
    generalize ((looksQ s pts).take i).flatMap (cand pts) = cs at hw ⊢
    refine ⟨pts, x, ⟨rfl, rfl⟩, hp.ok, hbx, fun j ρ n2 => Eqn n2 n' ∧ ∃ t b c, Is ρ [.val (.tup (pts.map ptD)), .val (.str "corner"), .val t, .val (boxD x), b, c] ∧ SoFar (cs ++ (cand pts x).take j) t, ⟨rfl, t, b, c, rfl, by simpa using hw⟩, ?_, ?_⟩
    · rintro j d ρ n2 hd ⟨rfl, t, b, c, rfl, hw⟩
      rw [List.getElem?_map] at hd
      obtain ⟨cc, hc', rfl⟩ := Option.map_eq_some_iff.mp hd
      have hcd := cand_den hp.ok hbx cc (List.mem_of_getElem? hc')
      have hcb : boxD x = boxD cc.2.2 := by
        have := List.mem_of_getElem? hc'
        unfold cand at this
        rcases List.mem_cons.mp this with rfl | q
        · rfl
        · rw [List.mem_singleton.mp q]
      dsimp only
      rw [take_snoc hc', ← List.append_assoc]
      generalize cs ++ (cand pts x).take j = cs at hw ⊢
      have hbest : D.tup [fr cc.2.1, .str cc.1, boxD x] = bestD cc := by unfold bestD; rw [hcb]
      rcases hw with ⟨rfl, rfl⟩ | ⟨bb, hbb, rfl, hbd, hmx⟩
      · simp only [SSeq, SNil, SIf, SRet, SSet, SAsg, SPar, SMuL, SApp, SExt, SPut, SFz, frzR, SNo, TVar, TC, TOp, TB, TNil, TCons, TTup, TLst, TKey, oIx, seqOf, TAnd, TOr, TNot, TAndV, TOrV, TNotV, TIf, TCB, cLen, cAbs, cMax2, cMin2, cAll, cList, cTuple, cInt, TIsi, isD, tyD, TCall, TChain, TLc, TLc0, SFor, ISeq, IRg1, IRg2, IZip, TSl, TPs, TPn, slD, cut1, opII, opI0, TNeg, oAdd, oIsN, oNotN, oIsB, opEq, eqD, getS, startR, GName, GNil, GCons, GTup, List.map_cons, List.map_nil, List.length_cons, List.length_nil, List.cons_append, List.nil_append, List.set_cons_zero, List.set_cons_succ, List.replicate, List.append_nil, Option.map_some, Bool.not_true, Bool.not_false, Bool.false_eq_true, if_true, if_false, ite_true, ite_false, reduceIte, Nat.sub_self, Nat.reduceAdd, Nat.reduceSub, Bool.or_true, Bool.or_false, Bool.true_or, Bool.false_or, Bool.and_true, Bool.and_false, decide_true, decide_false, List.getElem?_cons_zero, List.getElem?_cons_succ, Option.some.injEq, exists_eq_left', exists_eq_left, true_and, and_true, at0, at1, at2, at3, List.length_map, List.cons.injEq, Int.cast_ofNat_Int, Int.reduceEq, Int.reduceLT, Int.reduceLE, D.int.injEq, D.str.injEq, D.bl.injEq, D.tup.injEq, D.lst.injEq, exists_const, Int.zero_add, Nat.zero_add, Int.natCast_add, Int.natCast_one, Int.reduceAdd, candD, isNonD]
        refine ⟨sz8 (by omega), rfl, _, _, _, rfl, ?_⟩
        rw [hbest]
        exact SoFar.put (cs := []) hcd (fun c' hc => by cases hc)
      · simp only [SSeq, SNil, SIf, SRet, SSet, SAsg, SPar, SMuL, SApp, SExt, SPut, SFz, frzR, SNo, TVar, TC, TOp, TB, TNil, TCons, TTup, TLst, TKey, oIx, seqOf, TAnd, TOr, TNot, TAndV, TOrV, TNotV, TIf, TCB, cLen, cAbs, cMax2, cMin2, cAll, cList, cTuple, cInt, TIsi, isD, tyD, TCall, TChain, TLc, TLc0, SFor, ISeq, IRg1, IRg2, IZip, TSl, TPs, TPn, slD, cut1, opII, opI0, TNeg, oAdd, oIsN, oNotN, oIsB, opEq, eqD, getS, startR, GName, GNil, GCons, GTup, List.map_cons, List.map_nil, List.length_cons, List.length_nil, List.cons_append, List.nil_append, List.set_cons_zero, List.set_cons_succ, List.replicate, List.append_nil, Option.map_some, Bool.not_true, Bool.not_false, Bool.false_eq_true, if_true, if_false, ite_true, ite_false, reduceIte, Nat.sub_self, Nat.reduceAdd, Nat.reduceSub, Bool.or_true, Bool.or_false, Bool.true_or, Bool.false_or, Bool.and_true, Bool.and_false, decide_true, decide_false, List.getElem?_cons_zero, List.getElem?_cons_succ, Option.some.injEq, exists_eq_left', exists_eq_left, true_and, and_true, at0, at1, at2, at3, List.length_map, List.cons.injEq, Int.cast_ofNat_Int, Int.reduceEq, Int.reduceLT, Int.reduceLE, D.int.injEq, D.str.injEq, D.bl.injEq, D.tup.injEq, D.lst.injEq, exists_const, Int.zero_add, Nat.zero_add, Int.natCast_add, Int.natCast_one, Int.reduceAdd, candD, isNonD, bestD, sp_is_below]
        refine ⟨_, _, ⟨rfl, rfl⟩, by omega, by omega, ite2 (fun hb => ?_) (fun hb => ?_)⟩
        · simp at hb
          refine ⟨sz8 (by omega), rfl, _, _, _, rfl, ?_⟩
          rw [hbest]
          exact SoFar.put hcd (fun c' hc => Rat.le_trans (hmx c' hc) (Rat.le_of_lt hb))
        · simp at hb
          exact ⟨rfl, _, _, _, rfl, SoFar.keep hbb hbd hmx hb⟩
    · rintro ρ n2 ⟨rfl, t, b, c, rfl, hw⟩
      exact ⟨rfl, _, _, _, _, rfl, hw⟩
  · rintro ρ n' ⟨rfl, t, a, b, c, rfl, hw⟩
    simp only [SSeq, SNil, SIf, SRet, SSet, SAsg, SPar, SMuL, SApp, SExt, SPut, SFz, frzR, SNo, TVar, TC, TOp, TB, TNil, TCons, TTup, TLst, TKey, oIx, seqOf, TAnd, TOr, TNot, TAndV, TOrV, TNotV, TIf, TCB, cLen, cAbs, cMax2, cMin2, cAll, cList, cTuple, cInt, TIsi, isD, tyD, TCall, TChain, TLc, TLc0, SFor, ISeq, IRg1, IRg2, IZip, TSl, TPs, TPn, slD, cut1, opII, opI0, TNeg, oAdd, oIsN, oNotN, oIsB, opEq, eqD, getS, startR, GName, GNil, GCons, GTup, List.map_cons, List.map_nil, List.length_cons, List.length_nil, List.cons_append, List.nil_append, List.set_cons_zero, List.set_cons_succ, List.replicate, List.append_nil, Option.map_some, Bool.not_true, Bool.not_false, Bool.false_eq_true, if_true, if_false, ite_true, ite_false, reduceIte, Nat.sub_self, Nat.reduceAdd, Nat.reduceSub, Bool.or_true, Bool.or_false, Bool.true_or, Bool.false_or, Bool.and_true, Bool.and_false, decide_true, decide_false, List.getElem?_cons_zero, List.getElem?_cons_succ, Option.some.injEq, exists_eq_left', exists_eq_left, true_and, and_true, at0, at1, at2, at3, List.length_map, List.cons.injEq, Int.cast_ofNat_Int, Int.reduceEq, Int.reduceLT, Int.reduceLE, D.int.injEq, D.str.injEq, D.bl.injEq, D.tup.injEq, D.lst.injEq, exists_const, Int.zero_add, Nat.zero_add, Int.natCast_add, Int.natCast_one, Int.reduceAdd]
    rw [List.take_length] at hw
    rcases hw with ⟨rfl, e⟩ | ⟨cc, hc, rfl, _, hmx⟩
    · exfalso
      have : boxOnes s ∈ looksQ s pts := ones_mem pts
      have := (List.mem_flatMap (f := cand pts)).mpr ⟨_, this, List.mem_cons_self⟩
      rw [e] at this
      cases this
    · refine h _ _ _ ⟨?_, ?_, fun b' hb' => ⟨hmx _ (List.mem_flatMap.mpr ⟨b', hb', List.mem_cons_self⟩), hmx _ (List.mem_flatMap.mpr ⟨b', hb', List.mem_cons_of_mem _ List.mem_cons_self⟩)⟩⟩
      · obtain ⟨b', hb', hc⟩ := List.mem_flatMap.mp hc
        unfold cand at hc
        rcases List.mem_cons.mp hc with rfl | hc
        · exact hb'
        · rw [List.mem_singleton.mp hc]; exact hb'
      · obtain ⟨b', hb', hc⟩ := List.mem_flatMap.mp hc
        unfold cand at hc
        rcases List.mem_cons.mp hc with rfl | hc
        · exact .inl ⟨rfl, rfl⟩
        · rw [List.mem_singleton.mp hc]; exact .inr ⟨rfl, rfl⟩
end
end Pu

/-! W4: places, sets, the least set and its tree. -/
namespace Pu
open PySem PySem.Spec PyProof.Rows L2
/-- a grid: one row or two, each of some numbers -/
structure OkG (gs : List (List Rat)) : Prop where
  s1 : 1 ≤ gs.length
  s2 : gs.length ≤ 2
  pos : 1 ≤ (prodL gs).length
  len : (prodL gs).length ≤ 8
  row : ∀ g ∈ gs, g.length ≤ 8
  nums : ∀ g ∈ gs, ∀ x ∈ g, 0 ≤ x ∧ x ≤ 1 ∧ x.den ≤ 1000
def gridD (gs : List (List Rat)) : D := .tup (gs.map ptD)
/-- sets of places, in order -/
def nextF : Int → List Int → Int
  | lo, [] => lo
  | _, a :: S => nextF (a + 1) S
def Inc : Int → Int → List Int → Prop
  | _, _, [] => True
  | lo, N, a :: S => lo ≤ a ∧ a < N ∧ Inc (a + 1) N S
def widS (N : Int) (l : List (List Int)) : List (List Int) := l.flatMap fun S => (rgI (nextF 0 S) N).map fun k => S ++ [k]
def setsI (N : Int) : Nat → List (List Int)
  | 0 => [[]]
  | m + 1 => widS N (setsI N m)
theorem mem_rgI {a b k : Int} : k ∈ rgI a b ↔ a ≤ k ∧ k < b := by
  unfold rgI
  rw [List.mem_map]
  constructor
  · rintro ⟨i, hi, rfl⟩
    rw [List.mem_range] at hi
    omega
  · rintro ⟨h1, h2⟩
    exact ⟨(k - a).toNat, by rw [List.mem_range]; omega, by omega⟩
theorem rgI_length (a b : Int) : (rgI a b).length = (b - a).toNat := by simp [rgI]
theorem inc_snoc {N k : Int} : ∀ {S : List Int} {lo : Int}, Inc lo N (S ++ [k]) ↔ Inc lo N S ∧ nextF lo S ≤ k ∧ k < N
  | [], lo => by simp [Inc, nextF]
  | a :: S, lo => by
    have ih := inc_snoc (N := N) (k := k) (S := S) (lo := a + 1)
    show (lo ≤ a ∧ a < N ∧ Inc (a + 1) N (S ++ [k])) ↔ (lo ≤ a ∧ a < N ∧ Inc (a + 1) N S) ∧ nextF (a + 1) S ≤ k ∧ k < N
    rw [ih]
    constructor
    · rintro ⟨h1, h2, h3, h4⟩
      exact ⟨⟨h1, h2, h3⟩, h4⟩
    · rintro ⟨⟨h1, h2, h3⟩, h4⟩
      exact ⟨h1, h2, h3, h4⟩
theorem mem_setsI {N : Int} : ∀ {m : Nat} {S : List Int}, S ∈ setsI N m ↔ S.length = m ∧ Inc 0 N S
  | 0, S => by
    constructor
    · intro h
      rw [setsI, List.mem_singleton] at h
      subst h
      exact ⟨rfl, trivial⟩
    · rintro ⟨h, _⟩
      rw [List.eq_nil_of_length_eq_zero h]
      exact List.mem_singleton.mpr rfl
  | m + 1, S => by
    unfold setsI widS
    rw [List.mem_flatMap]
    constructor
    · rintro ⟨T, hT, h⟩
      obtain ⟨k, hk, rfl⟩ := List.mem_map.mp h
      rw [mem_rgI] at hk
      obtain ⟨h1, h2⟩ := mem_setsI.mp hT
      exact ⟨by simp [h1], inc_snoc.mpr ⟨h2, hk⟩⟩
    · rintro ⟨h1, h2⟩
      have ne : S ≠ [] := fun e => by subst e; cases h1
      have e := List.dropLast_concat_getLast ne
      rw [← e] at h2
      obtain ⟨h3, h4⟩ := inc_snoc.mp h2
      refine ⟨S.dropLast, mem_setsI.mpr ⟨by rw [List.length_dropLast, h1]; rfl, h3⟩, List.mem_map.mpr ⟨S.getLast ne, mem_rgI.mpr h4, e⟩⟩
theorem inc_ge {N : Int} : ∀ {S : List Int} {lo k : Int}, Inc lo N S → k ∈ S → lo ≤ k ∧ k < N
  | a :: S, lo, k, h, hk => by
    rcases List.mem_cons.mp hk with rfl | hk
    · exact ⟨h.1, h.2.1⟩
    · have := inc_ge h.2.2 hk
      have := h.1
      omega
theorem widS_len {N : Int} (hN : N ≤ 8) : ∀ {l : List (List Int)}, (∀ S ∈ l, Inc 0 N S) → (widS N l).length ≤ l.length * 8
  | [], _ => by simp [widS]
  | S :: l, h => by
    have ih := widS_len hN (l := l) fun T hT => h T (List.mem_cons_of_mem _ hT)
    unfold widS at ih ⊢
    rw [List.flatMap_cons, List.length_append, List.length_map, rgI_length, List.length_cons]
    have h0 : 0 ≤ nextF 0 S := by
      have : ∀ (S : List Int) (lo : Int), 0 ≤ lo → Inc lo N S → 0 ≤ nextF lo S := by
        intro S
        induction S with
        | nil => exact fun lo h _ => h
        | cons a S ih => exact fun lo h hi => ih (a + 1) (by have := hi.1; omega) hi.2.2
      exact this S 0 (Int.le_refl _) (h S List.mem_cons_self)
    omega
theorem setsI_len {N : Int} (hN : N ≤ 8) : ∀ m, (setsI N m).length ≤ 8 ^ m
  | 0 => by simp [setsI]
  | m + 1 => by
    rw [Nat.pow_succ]
    exact Nat.le_trans (widS_len hN fun S hS => (mem_setsI.mp hS).2) (Nat.mul_le_mul_right 8 (setsI_len hN m))
theorem pow8 {i : Nat} (h : i ≤ 3) : 8 ^ i ≤ 512 := Nat.pow_le_pow_right (n := 8) (by omega) h
theorem setsI_nodup {N : Int} : ∀ m, (setsI N m).Nodup
  | 0 => by simp [setsI]
  | m + 1 => by
    unfold setsI widS
    have ih := setsI_nodup (N := N) m
    refine List.pairwise_flatMap.mpr ⟨fun S _ => List.pairwise_map.mpr ?_, ih.imp fun {S T} hne => ?_⟩
    · unfold rgI
      refine List.pairwise_map.mpr (List.Pairwise.imp ?_ List.pairwise_lt_range)
      intro a b hab he
      have := List.append_cancel_left he
      simp at this
      omega
    · intro x hx y hy he
      obtain ⟨k, _, rfl⟩ := List.mem_map.mp hx
      obtain ⟨j, _, rfl⟩ := List.mem_map.mp hy
      exact hne (List.append_inj' he rfl).1
def ptsOf (gs : List (List Rat)) (S : List Int) : List (List Rat) := S.map fun k => (prodL gs).getD k.toNat []
/-- a worst box for each set -/
abbrev Wf := List Int → Rat × Str × List Rat
def worstD (c : Rat × Str × List Rat) : D := .tup [fr c.1, .str c.2.1, boxD c.2.2]
def leafD (c : Rat × Str × List Rat) : D := .tup [.str c.2.1, boxD c.2.2]
def treeD (W : Wf) (N : Int) (m : Nat) : Nat → List Int → Int → D
  | f, taken, at_ => if taken.length = m then leafD (W taken) else if (taken.length : Int) + N - at_ = m then leafD (W (taken ++ rgI at_ N)) else match f with
    | 0 => .non
    | f + 1 => .tup [.str "take", .int at_, treeD W N m f (taken ++ [at_]) (at_ + 1), treeD W N m f taken (at_ + 1)]
def Worsts (gs : List (List Rat)) (m : Nat) (W : Wf) (l : List (List Int)) : Prop := ∀ S ∈ l, Worst gs.length (ptsOf gs S) (W S).1 (W S).2.1 (W S).2.2
abbrev k_places_of : Nat := 1
def sp_places_of : PSp := fun ds n P => ∃ gs, ds = [gridD gs] ∧ OkG gs ∧ P (.tup ((prodL gs).map ptD)) n
abbrev k_many_sets : Nat := 1
def sp_many_sets : PSp := fun ds n P => ∃ N m : Nat, ds = [.int N, .int m] ∧ N ≤ 8 ∧ m ≤ 3 ∧ m ≤ N ∧ ∀ c : Int, 0 ≤ c → c ≤ 512 → P (.int c) n
abbrev k_sets_of : Nat := 1
def sp_sets_of : PSp := fun ds n P => ∃ N m : Nat, ds = [.int N, .int m] ∧ N ≤ 8 ∧ m ≤ 3 ∧ P (.lst ((setsI N m).map D.key)) n
abbrev k_tree_of (f : Nat) : Nat := f
def sp_tree_of : Nat → PSp
  | 0 => fun _ _ _ => False
  | f + 1 => fun ds n P => ∃ (N m : Nat) (W : Wf) (taken : List Int) (at_ : Int), ds = [.tab (setsI N m) ((setsI N m).map fun S => worstD (W S)), .int N, .int m, .key taken, .int at_] ∧
    Inc 0 at_ taken ∧ 0 ≤ at_ ∧ at_ ≤ N ∧ N ≤ 8 ∧ taken.length ≤ m ∧ m ≤ taken.length + (N - at_) ∧ N - at_ ≤ f ∧ P (treeD W N m f taken at_) n
abbrev k_least_set : Nat := 11
def sp_least_set : PSp := fun ds n P => ∃ gs m, ds = [gridD gs, .int (m : Nat)] ∧ OkG gs ∧ 1 ≤ m ∧ m ≤ 3 ∧ m ≤ (prodL gs).length ∧ ∀ (W : Wf) (S : List Int), Worsts gs m W (setsI (prodL gs).length m) → S ∈ setsI (prodL gs).length m →
  (∀ T ∈ setsI (prodL gs).length m, (W S).1 ≤ (W T).1) → P (.tup [fr (W S).1, .key S, treeD W (prodL gs).length m 9 [] 0]) n
theorem len_places_of : ∀ ds n P, sp_places_of ds n P → ds.length = (["grid"] : List Str).length := by rintro _ n P ⟨_, rfl, _⟩; rfl
theorem len_many_sets : ∀ ds n P, sp_many_sets ds n P → ds.length = (["places", "many"] : List Str).length := by rintro _ n P ⟨_, _, rfl, _⟩; rfl
theorem len_sets_of : ∀ ds n P, sp_sets_of ds n P → ds.length = (["places", "many"] : List Str).length := by rintro _ n P ⟨_, _, rfl, _⟩; rfl
theorem len_tree_of : ∀ fl ds n P, sp_tree_of fl ds n P → ds.length = (["known", "places", "many", "taken", "at"] : List Str).length
  | 0, _, _, _, h => h.elim
  | _ + 1, _, n, P, h => by obtain ⟨_, _, _, _, _, rfl, _⟩ := h; rfl
theorem len_least_set : ∀ ds n P, sp_least_set ds n P → ds.length = (["grid", "many"] : List Str).length := by rintro _ n P ⟨_, _, rfl, _⟩; rfl
theorem lookT_map {f : List Int → D} : ∀ {ks : List (List Int)} {k : List Int}, k ∈ ks → lookT ks (ks.map f) k = some (f k)
  | j :: ks, k, h => by
    rw [List.map_cons]
    unfold lookT
    by_cases e : j = k
    · rw [if_pos e, e]
    · rw [if_neg e]
      exact lookT_map ((List.mem_cons.mp h).resolve_left fun z => e z.symm)
theorem atI_last : ∀ {S : List Int} {lo : Int}, S ≠ [] → (S.map D.int)[S.length - 1]? = some (.int (nextF lo S - 1))
  | [], _, h => absurd rfl h
  | [a], lo, _ => by simp [nextF]
  | a :: b :: S, lo, _ => by
    have := atI_last (S := b :: S) (lo := a + 1) (by simp)
    show _ = some (D.int (nextF (a + 1) (b :: S) - 1))
    rw [← this]
    simp
theorem atI_neg {S : List Int} (h : S ≠ []) : atI (S.map D.int) (-1) = some (.int (nextF 0 S - 1)) := by
  rw [← atI_last (lo := 0) h]
  have hl : 0 < S.length := List.length_pos_iff.mpr h
  have e1 : ¬ (0 : Int) ≤ -1 := by omega
  have e2 : (0 : Int) ≤ S.length + -1 := by omega
  have e3 : ((S.length : Int) + -1).toNat = S.length - 1 := by omega
  unfold atI ixN
  rw [if_neg e1, List.length_map, if_pos (by omega)]
  show (S.map D.int)[((S.length : Int) + -1).toNat]? = _
  rw [e3]
theorem next_if {ρ : Rho} {S : List Int} {n : Nat} {P : D → Nat → Prop} (h5 : getS ρ 5 = .val (.key S)) (h : P (.int (nextF 0 S)) n) :
    TIf (TB (TOp oNe (TVar 5) (TKey TNil))) (TOp oAdd (TOp oIx (TVar 5) (TNeg (TC (.int 1)))) (TC (.int 1))) (TC (.int 0)) ρ n P := by
  unfold TIf TB TOp TKey TVar TNil
  rw [h5]
  refine ⟨Nat.zero_le _, [], rfl, ?_⟩
  by_cases e : S = []
  · subst e
    exact h
  · have q : S.isEmpty = false := by cases S; exact absurd rfl e; rfl
    show if (!S.isEmpty) = true then _ else _
    rw [q]
    refine iteT ⟨_, atI_neg e, ?_⟩
    show P (.int (nextF 0 S - 1 + 1)) n
    rw [Int.sub_add_cancel]
    exact h
theorem next_bds {N : Int} : ∀ {S : List Int} {lo : Int}, Inc lo N S → lo ≤ nextF lo S ∧ (nextF lo S ≤ N ∨ S = [])
  | [], lo, _ => ⟨Int.le_refl _, .inr rfl⟩
  | a :: S, lo, h => by
    obtain ⟨h1, h2, h3⟩ := h
    obtain ⟨h4, h5⟩ := next_bds h3
    refine ⟨by show lo ≤ nextF (a + 1) S; omega, .inl ?_⟩
    show nextF (a + 1) S ≤ N
    rcases h5 with h5 | rfl
    · exact h5
    · show a + 1 ≤ N; omega
theorem inc_cat {N at_ : Int} : ∀ {S T : List Int} {lo : Int}, Inc lo at_ S → at_ ≤ N → (∀ lo' : Int, lo' ≤ at_ → Inc lo' N T) → lo ≤ at_ → Inc lo N (S ++ T)
  | [], T, lo, _, _, h, hl => h lo hl
  | a :: S, T, lo, h, hN, hT, hl => ⟨h.1, by have := h.2.1; omega, inc_cat h.2.2 hN hT (by have := h.2.1; omega)⟩
theorem rgI_cons {a b : Int} (h : a < b) : rgI a b = a :: rgI (a + 1) b := by
  unfold rgI
  have e : (b - a).toNat = (b - (a + 1)).toNat + 1 := by omega
  rw [e, List.range_succ_eq_map, List.map_cons, List.map_map]
  have e2 : (fun i : Nat => a + (i : Int)) ∘ Nat.succ = fun i : Nat => a + 1 + (i : Int) := by
    funext i
    simp only [Function.comp_apply, Nat.succ_eq_add_one, Int.natCast_add, Int.natCast_one]
    omega
  rw [e2]
  simp
theorem rgI_nil {a b : Int} (h : b ≤ a) : rgI a b = [] := by
  unfold rgI
  have e : (b - a).toNat = 0 := by omega
  rw [e]; rfl
theorem inc_rg {N : Int} : ∀ (k : Nat) {a lo : Int}, (N - a).toNat = k → lo ≤ a → Inc lo N (rgI a N)
  | 0, a, lo, h, _ => by rw [rgI_nil (by omega)]; trivial
  | k + 1, a, lo, h, hl => by
    rw [rgI_cons (by omega)]
    exact ⟨hl, by omega, inc_rg k (by omega) (Int.le_refl _)⟩
theorem inc_snoc_at {at_ : Int} {S : List Int} (h : Inc 0 at_ S) (h0 : 0 ≤ at_) : Inc 0 (at_ + 1) (S ++ [at_]) :=
  inc_cat h (by omega) (fun lo hl => ⟨hl, by omega, trivial⟩) h0
theorem inc_up {N M : Int} : ∀ {S : List Int} {lo : Int}, Inc lo N S → N ≤ M → Inc lo M S
  | [], _, _, _ => trivial
  | a :: S, _, h, q => ⟨h.1, by have := h.2.1; omega, inc_up h.2.2 q⟩
theorem pts_ok {gs : List (List Rat)} {m : Nat} {S : List Int} (hg : OkG gs) (h1 : 1 ≤ m) (h3 : m ≤ 3) (hS : S ∈ setsI (prodL gs).length m) : Pts gs.length (ptsOf gs S) ∧ ∀ xs ∈ ptsOf gs S, ∀ x ∈ xs, 0 ≤ x ∧ x ≤ 1 ∧ x.den ≤ 1000 := by
  obtain ⟨hl, hi⟩ := mem_setsI.mp hS
  have hm : ∀ xs ∈ ptsOf gs S, xs ∈ prodL gs := fun xs hx => by
    obtain ⟨k, hk, rfl⟩ := List.mem_map.mp hx
    have := inc_ge hi hk
    have hk2 : k.toNat < (prodL gs).length := by omega
    rw [List.getD_eq_getElem?_getD, List.getElem?_eq_getElem hk2]
    exact List.getElem_mem _
  have hx : ∀ xs ∈ ptsOf gs S, ∀ x ∈ xs, 0 ≤ x ∧ x ≤ 1 ∧ x.den ≤ 1000 := fun xs hxs x hx => by
    obtain ⟨g, hg2, hxg⟩ := (mem_prodL.mp (hm xs hxs)).of_mem x hx
    exact hg.nums g hg2 x hxg
  have hlen : (ptsOf gs S).length = m := by rw [ptsOf, List.length_map, hl]
  refine ⟨⟨⟨fun e => ?_, by omega, fun xs hxs x h => (hx xs hxs x h).2.2⟩, hg.s2, fun xs hxs => (mem_prodL.mp (hm xs hxs)).len⟩, hx⟩
  rw [e] at hlen
  simp at hlen
  omega
theorem worst_den {s : Nat} {pts : List (List Rat)} {q : Rat} {way : Str} {b : List Rat} (hp : Pts s pts) (hx : ∀ xs ∈ pts, ∀ x ∈ xs, 0 ≤ x ∧ x ≤ 1) (h : Worst s pts q way b) : q.den ≤ 8000000 := by
  have ob := looks_ok hp hx h.1
  have cd := cand_den hp.ok ob
  rcases h.2.1 with ⟨_, rfl⟩ | ⟨_, rfl⟩
  · exact cd ("over", overQ pts b, b) (by simp [cand])
  · exact cd ("lack", lackQ pts b, b) (by simp [cand])
theorem inc_len {N : Int} : ∀ {S : List Int} {lo : Int}, Inc lo N S → (S.length : Int) + lo ≤ N ∨ S = []
  | [], _, _ => .inr rfl
  | a :: S, lo, h => by
    obtain ⟨h1, h2, h3⟩ := h
    left
    rcases inc_len h3 with h4 | rfl
    · rw [List.length_cons]; omega
    · rw [List.length_cons, List.length_nil]; omega
def putW (W : Wf) (S : List Int) (c : Rat × Str × List Rat) : Wf := fun T => if T = S then c else W T
theorem putW_same (W : Wf) (S : List Int) (c : Rat × Str × List Rat) : putW W S c S = c := if_pos rfl
theorem putW_ne {W : Wf} {S T : List Int} {c : Rat × Str × List Rat} (h : T ≠ S) : putW W S c T = W T := if_neg h
def BestOf (W : Wf) (l : List (List Int)) (t : D) : Prop := (t = .non ∧ l = []) ∨ ∃ S ∈ l, t = .key S ∧ ∀ T ∈ l, (W S).1 ≤ (W T).1
section
variable {Pr : Program} {w : World} {K : PySem.W.Frag} {mg : Str → Option Value} {base : Heap}
/-- no call: any bound -/
theorem has_zero {x : Str} {st : Stmt} {N ps : List Str} {sp : PSp} (F : Df K mg x st) (hb : ∀ (kV doc pm : Value) (an : Option Addr) (cdv ct : Value) (us : List Value), us.length = ps.length → bindArgs (PySem.W.fnOf x x (defArgs st) (defBody st) (defScope st) .none kV doc pm an cdv ct) ⟨us, []⟩ = pure (ps.zip us))
    (hn : ∀ ds n P, ¬ sp ds n P) : Has Pr w K mg base x ps 0 sp := by
  obtain ⟨f, fd, F1, hm⟩ := F.ex
  have bn : Binds K fd ps [] := F1.bindsN hb
  have no : ∀ vs H Q E, ¬ spOf K sp vs H Q E := by
    rintro vs H Q E ⟨tp, n, G, ds, P, g, a, h, k⟩
    exact hn _ _ _ h
  exact ⟨f, fd, ⟨fun vs H Q E h => absurd h (no _ _ _ _), fun A outer s H args us vs Q E _ _ _ _ h => absurd h (no _ _ _ _)⟩, hm, F1.kp, bn⟩
abbrev s_places_of : Stmt := top 48
theorem sc_places_of : FnScope ["grid", "found", "numbers", "wider", "point", "number"] ["grid"] (defScope s_places_of) := ⟨rfl, rfl, rfl, by decide +kernel, rfl, by decide +kernel, by decide +kernel⟩
theorem ok_places_of (F0 : Df K mg "places_of" s_places_of) (B : Bt mg) (C : Cs K w mg)  : Has Pr w K mg base "places_of" ["grid"] k_places_of sp_places_of := by
  have sc := sc_places_of
  refine has_mk (k := _) F0 sc (fun _ _ _ _ _ _ us hl => match us, hl with | [_], _ => rfl) len_places_of (fun f cdv A outer s H E hr => ⟨_,
    (bCons (sSet 1 sc.nd (vLst (aCons (vTup aNil) aNil)))
    (bCons (sFor .never (iT (vN 0)) (gN 2 sc.nd)
      (bCons (sMuL 3 sc.nd aNil)
      (bCons (sFor .never (iL (vN 1)) (gN 4 sc.nd)
        (bOne (sExt 3 (vLc (own := [("number", 5)]) sc.nd (iT (vN 2)) (fun _ _ _ _ _ => (gN 5 sc.nd)) (fun _ _ _ _ _ => tN) (fun _ _ _ _ _ => (vAdd (vN 4) (vTup (aCons (vN 5) aNil))))))))
      (bOne (sFz 3 (sSet 1 sc.nd (vN 3)))))))
    (bOne (sRet (vTuple B.tuple (aCons (vN 1) aNil)))))), ?_⟩)
  rintro _ n P ⟨gs, rfl, hg, h⟩
  simp only [SSeq, SNil, SIf, SRet, SSet, SAsg, SPar, SMuL, SApp, SExt, SPut, SFz, frzR, SNo, TVar, TC, TOp, TB, TNil, TCons, TTup, TLst, TKey, oIx, seqOf, TAnd, TOr, TNot, TAndV, TOrV, TNotV, TIf, TCB, cLen, cAbs, cMax2, cMin2, cAll, cList, cTuple, cInt, TIsi, isD, tyD, TCall, TChain, TLc, TLc0, SFor, ISeq, IRg1, IRg2, IZip, TSl, TPs, TPn, slD, cut1, opII, opI0, TNeg, oAdd, oIsN, oNotN, oIsB, opEq, eqD, getS, startR, GName, GNil, GCons, GTup, List.map_cons, List.map_nil, List.length_cons, List.length_nil, List.cons_append, List.nil_append, List.set_cons_zero, List.set_cons_succ, List.replicate, List.append_nil, Option.map_some, Bool.not_true, Bool.not_false, Bool.false_eq_true, if_true, if_false, ite_true, ite_false, reduceIte, Nat.sub_self, Nat.reduceAdd, Nat.reduceSub, Bool.or_true, Bool.or_false, Bool.true_or, Bool.false_or, Bool.and_true, Bool.and_false, decide_true, decide_false, List.getElem?_cons_zero, List.getElem?_cons_succ, Option.some.injEq, exists_eq_left', exists_eq_left, true_and, and_true, at0, at1, at2, at3, List.length_map, List.cons.injEq, Int.cast_ofNat_Int, Int.reduceEq, Int.reduceLT, Int.reduceLE, D.int.injEq, D.str.injEq, D.bl.injEq, D.tup.injEq, D.lst.injEq, exists_const, Int.zero_add, Nat.zero_add, Int.natCast_add, Int.natCast_one, Int.reduceAdd, gridD]
  have hgs : ∀ i, i ≤ gs.length → (prodL (gs.take i)).length ≤ 64 := fun i hi => by
    have hp : ∀ i, i ≤ gs.length → (prodL (gs.take i)).length ≤ 8 ^ i := fun i => by
      induction i with
      | zero => intro _; simp [prodL]
      | succ i ih =>
        intro hi
        have e : gs[i]? = some gs[i] := List.getElem?_eq_getElem (by omega)
        rw [take_snoc e, prodL_snoc, extL_len, Nat.pow_succ]
        exact Nat.mul_le_mul (ih (by omega)) (hg.row _ (List.getElem_mem _))
    exact Nat.le_trans (hp i hi) (Nat.pow_le_pow_right (n := 8) (by omega) (Nat.le_trans hi hg.s2))
  refine ⟨Nat.zero_le _, sz8 (by omega), fun i ρ n' => Eqn n' n ∧ ∃ a b c d, Is ρ [.val (gridD gs), .val (.lst ((prodL (gs.take i)).map ptD)), a, b, c, d], ⟨rfl, _, _, _, _, rfl⟩, ?_, ?_⟩
  · rintro i d ρ n' hd ⟨rfl, a, b, c, d', rfl⟩
    rw [List.getElem?_map] at hd
    obtain ⟨g, hx', rfl⟩ := Option.map_eq_some_iff.mp hd
    have hi := len_at hx'
    have hL := hgs i (by omega)
    have hE := hg.row g (List.mem_of_getElem? hx')
    simp only [SSeq, SNil, SIf, SRet, SSet, SAsg, SPar, SMuL, SApp, SExt, SPut, SFz, frzR, SNo, TVar, TC, TOp, TB, TNil, TCons, TTup, TLst, TKey, oIx, seqOf, TAnd, TOr, TNot, TAndV, TOrV, TNotV, TIf, TCB, cLen, cAbs, cMax2, cMin2, cAll, cList, cTuple, cInt, TIsi, isD, tyD, TCall, TChain, TLc, TLc0, SFor, ISeq, IRg1, IRg2, IZip, TSl, TPs, TPn, slD, cut1, opII, opI0, TNeg, oAdd, oIsN, oNotN, oIsB, opEq, eqD, getS, startR, GName, GNil, GCons, GTup, List.map_cons, List.map_nil, List.length_cons, List.length_nil, List.cons_append, List.nil_append, List.set_cons_zero, List.set_cons_succ, List.replicate, List.append_nil, Option.map_some, Bool.not_true, Bool.not_false, Bool.false_eq_true, if_true, if_false, ite_true, ite_false, reduceIte, Nat.sub_self, Nat.reduceAdd, Nat.reduceSub, Bool.or_true, Bool.or_false, Bool.true_or, Bool.false_or, Bool.and_true, Bool.and_false, decide_true, decide_false, List.getElem?_cons_zero, List.getElem?_cons_succ, Option.some.injEq, exists_eq_left', exists_eq_left, true_and, and_true, at0, at1, at2, at3, List.length_map, List.cons.injEq, Int.cast_ofNat_Int, Int.reduceEq, Int.reduceLT, Int.reduceLE, D.int.injEq, D.str.injEq, D.bl.injEq, D.tup.injEq, D.lst.injEq, exists_const, Int.zero_add, Nat.zero_add, Int.natCast_add, Int.natCast_one, Int.reduceAdd]
    refine ⟨Nat.zero_le _, fun j ρ n2 => Eqn n2 n' ∧ ∃ a b, Is ρ [.val (gridD gs), .val (.lst ((prodL (gs.take i)).map ptD)), .val (ptD g), .mu (.lst ((extL ((prodL (gs.take i)).take j) g).map ptD)), a, b], ⟨rfl, _, _, rfl⟩, ?_, ?_⟩
    · rintro j d ρ n2 hd ⟨rfl, a, b, rfl⟩
      rw [List.getElem?_map] at hd
      obtain ⟨x, hxj, rfl⟩ := Option.map_eq_some_iff.mp hd
      simp only [SSeq, SNil, SIf, SRet, SSet, SAsg, SPar, SMuL, SApp, SExt, SPut, SFz, frzR, SNo, TVar, TC, TOp, TB, TNil, TCons, TTup, TLst, TKey, oIx, seqOf, TAnd, TOr, TNot, TAndV, TOrV, TNotV, TIf, TCB, cLen, cAbs, cMax2, cMin2, cAll, cList, cTuple, cInt, TIsi, isD, tyD, TCall, TChain, TLc, TLc0, SFor, ISeq, IRg1, IRg2, IZip, TSl, TPs, TPn, slD, cut1, opII, opI0, TNeg, oAdd, oIsN, oNotN, oIsB, opEq, eqD, getS, startR, GName, GNil, GCons, GTup, List.map_cons, List.map_nil, List.length_cons, List.length_nil, List.cons_append, List.nil_append, List.set_cons_zero, List.set_cons_succ, List.replicate, List.append_nil, Option.map_some, Bool.not_true, Bool.not_false, Bool.false_eq_true, if_true, if_false, ite_true, ite_false, reduceIte, Nat.sub_self, Nat.reduceAdd, Nat.reduceSub, Bool.or_true, Bool.or_false, Bool.true_or, Bool.false_or, Bool.and_true, Bool.and_false, decide_true, decide_false, List.getElem?_cons_zero, List.getElem?_cons_succ, Option.some.injEq, exists_eq_left', exists_eq_left, true_and, and_true, at0, at1, at2, at3, List.length_map, List.cons.injEq, Int.cast_ofNat_Int, Int.reduceEq, Int.reduceLT, Int.reduceLE, D.int.injEq, D.str.injEq, D.bl.injEq, D.tup.injEq, D.lst.injEq, exists_const, Int.zero_add, Nat.zero_add, Int.natCast_add, Int.natCast_one, Int.reduceAdd, ptD]
      refine lc_mapF g fr (fun y => ptD (x ++ [y])) (sz8 hE) (fun y hy Q hQ => ?_) ?_
      · simp only [SSeq, SNil, SIf, SRet, SSet, SAsg, SPar, SMuL, SApp, SExt, SPut, SFz, frzR, SNo, TVar, TC, TOp, TB, TNil, TCons, TTup, TLst, TKey, oIx, seqOf, TAnd, TOr, TNot, TAndV, TOrV, TNotV, TIf, TCB, cLen, cAbs, cMax2, cMin2, cAll, cList, cTuple, cInt, TIsi, isD, tyD, TCall, TChain, TLc, TLc0, SFor, ISeq, IRg1, IRg2, IZip, TSl, TPs, TPn, slD, cut1, opII, opI0, TNeg, oAdd, oIsN, oNotN, oIsB, opEq, eqD, getS, startR, GName, GNil, GCons, GTup, List.map_cons, List.map_nil, List.length_cons, List.length_nil, List.cons_append, List.nil_append, List.set_cons_zero, List.set_cons_succ, List.replicate, List.append_nil, Option.map_some, Bool.not_true, Bool.not_false, Bool.false_eq_true, if_true, if_false, ite_true, ite_false, reduceIte, Nat.sub_self, Nat.reduceAdd, Nat.reduceSub, Bool.or_true, Bool.or_false, Bool.true_or, Bool.false_or, Bool.and_true, Bool.and_false, decide_true, decide_false, List.getElem?_cons_zero, List.getElem?_cons_succ, Option.some.injEq, exists_eq_left', exists_eq_left, true_and, and_true, at0, at1, at2, at3, List.length_map, List.cons.injEq, Int.cast_ofNat_Int, Int.reduceEq, Int.reduceLT, Int.reduceLE, D.int.injEq, D.str.injEq, D.bl.injEq, D.tup.injEq, D.lst.injEq, exists_const, Int.zero_add, Nat.zero_add, Int.natCast_add, Int.natCast_one, Int.reduceAdd, wipeR]
        refine ⟨sz8 (by omega), sz1000 ?_, ?_⟩
        · have := (mem_prodL.mp (List.mem_of_getElem? hxj)).len
          rw [List.length_take] at this
          have := hg.s2
          omega
        · simpa [ptD] using hQ
      · refine ⟨?_, rfl, .val (ptD x), b, ?_⟩
        · rw [List.length_map]
          refine sz1000 ?_
          rw [extL_len, List.length_take]
          have := Nat.mul_le_mul (show min j (prodL (gs.take i)).length ≤ 64 by omega) hE
          omega
        · rw [take_snoc hxj]
          unfold extL
          simp [List.flatMap_append, List.map_append, List.map_map, Function.comp_def, ptD, gridD]
          rfl
    · rintro ρ n2 ⟨rfl, a, b, rfl⟩
      rw [List.take_length]
      simp only [SSeq, SNil, SIf, SRet, SSet, SAsg, SPar, SMuL, SApp, SExt, SPut, SFz, frzR, SNo, TVar, TC, TOp, TB, TNil, TCons, TTup, TLst, TKey, oIx, seqOf, TAnd, TOr, TNot, TAndV, TOrV, TNotV, TIf, TCB, cLen, cAbs, cMax2, cMin2, cAll, cList, cTuple, cInt, TIsi, isD, tyD, TCall, TChain, TLc, TLc0, SFor, ISeq, IRg1, IRg2, IZip, TSl, TPs, TPn, slD, cut1, opII, opI0, TNeg, oAdd, oIsN, oNotN, oIsB, opEq, eqD, getS, startR, GName, GNil, GCons, GTup, List.map_cons, List.map_nil, List.length_cons, List.length_nil, List.cons_append, List.nil_append, List.set_cons_zero, List.set_cons_succ, List.replicate, List.append_nil, Option.map_some, Bool.not_true, Bool.not_false, Bool.false_eq_true, if_true, if_false, ite_true, ite_false, reduceIte, Nat.sub_self, Nat.reduceAdd, Nat.reduceSub, Bool.or_true, Bool.or_false, Bool.true_or, Bool.false_or, Bool.and_true, Bool.and_false, decide_true, decide_false, List.getElem?_cons_zero, List.getElem?_cons_succ, Option.some.injEq, exists_eq_left', exists_eq_left, true_and, and_true, at0, at1, at2, at3, List.length_map, List.cons.injEq, Int.cast_ofNat_Int, Int.reduceEq, Int.reduceLT, Int.reduceLE, D.int.injEq, D.str.injEq, D.bl.injEq, D.tup.injEq, D.lst.injEq, exists_const, Int.zero_add, Nat.zero_add, Int.natCast_add, Int.natCast_one, Int.reduceAdd, MO.d]
      refine ⟨rfl, ?_, ?_, ?_, ?_, ?_⟩
      rotate_left 4
      rw [take_snoc hx', prodL_snoc]
      rfl
  · rintro ρ n' ⟨rfl, a, b, c, d', rfl⟩
    simp only [SSeq, SNil, SIf, SRet, SSet, SAsg, SPar, SMuL, SApp, SExt, SPut, SFz, frzR, SNo, TVar, TC, TOp, TB, TNil, TCons, TTup, TLst, TKey, oIx, seqOf, TAnd, TOr, TNot, TAndV, TOrV, TNotV, TIf, TCB, cLen, cAbs, cMax2, cMin2, cAll, cList, cTuple, cInt, TIsi, isD, tyD, TCall, TChain, TLc, TLc0, SFor, ISeq, IRg1, IRg2, IZip, TSl, TPs, TPn, slD, cut1, opII, opI0, TNeg, oAdd, oIsN, oNotN, oIsB, opEq, eqD, getS, startR, GName, GNil, GCons, GTup, List.map_cons, List.map_nil, List.length_cons, List.length_nil, List.cons_append, List.nil_append, List.set_cons_zero, List.set_cons_succ, List.replicate, List.append_nil, Option.map_some, Bool.not_true, Bool.not_false, Bool.false_eq_true, if_true, if_false, ite_true, ite_false, reduceIte, Nat.sub_self, Nat.reduceAdd, Nat.reduceSub, Bool.or_true, Bool.or_false, Bool.true_or, Bool.false_or, Bool.and_true, Bool.and_false, decide_true, decide_false, List.getElem?_cons_zero, List.getElem?_cons_succ, Option.some.injEq, exists_eq_left', exists_eq_left, true_and, and_true, at0, at1, at2, at3, List.length_map, List.cons.injEq, Int.cast_ofNat_Int, Int.reduceEq, Int.reduceLT, Int.reduceLE, D.int.injEq, D.str.injEq, D.bl.injEq, D.tup.injEq, D.lst.injEq, exists_const, Int.zero_add, Nat.zero_add, Int.natCast_add, Int.natCast_one, Int.reduceAdd]
    rw [List.take_length]
    exact h
abbrev s_many_sets : Stmt := top 49
theorem sc_many_sets : FnScope ["places", "many", "found", "k"] ["places", "many"] (defScope s_many_sets) := ⟨rfl, rfl, rfl, by decide +kernel, rfl, by decide +kernel, by decide +kernel⟩
theorem ok_many_sets (F0 : Df K mg "many_sets" s_many_sets) (B : Bt mg) (C : Cs K w mg)  : Has Pr w K mg base "many_sets" ["places", "many"] k_many_sets sp_many_sets := by
  have sc := sc_many_sets
  refine has_mk (k := _) F0 sc (fun _ _ _ _ _ _ us hl => match us, hl with | [_, _], _ => rfl) len_many_sets (fun f cdv A outer s H E hr => ⟨_,
    (bCons (sSet 2 sc.nd vI)
    (bCons (sFor .never (iRg1 B.range (aCons (vN 1) aNil)) (gN 3 sc.nd)
      (bOne (sSet 2 sc.nd (vDiv (vMul (vN 2) (vSub (vN 0) (vN 3))) (vAdd (vN 3) vI)))))
    (bOne (sRet (vN 2))))), ?_⟩)
  rintro _ n P ⟨N, m, rfl, hN, hm, hmN, h⟩
  simp only [SSeq, SNil, SIf, SRet, SSet, SAsg, SPar, SMuL, SApp, SExt, SPut, SFz, frzR, SNo, TVar, TC, TOp, TB, TNil, TCons, TTup, TLst, TKey, oIx, seqOf, TAnd, TOr, TNot, TAndV, TOrV, TNotV, TIf, TCB, cLen, cAbs, cMax2, cMin2, cAll, cList, cTuple, cInt, TIsi, isD, tyD, TCall, TChain, TLc, TLc0, SFor, ISeq, IRg1, IRg2, IZip, TSl, TPs, TPn, slD, cut1, opII, opI0, TNeg, oAdd, oIsN, oNotN, oIsB, opEq, eqD, getS, startR, GName, GNil, GCons, GTup, List.map_cons, List.map_nil, List.length_cons, List.length_nil, List.cons_append, List.nil_append, List.set_cons_zero, List.set_cons_succ, List.replicate, List.append_nil, Option.map_some, Bool.not_true, Bool.not_false, Bool.false_eq_true, if_true, if_false, ite_true, ite_false, reduceIte, Nat.sub_self, Nat.reduceAdd, Nat.reduceSub, Bool.or_true, Bool.or_false, Bool.true_or, Bool.false_or, Bool.and_true, Bool.and_false, decide_true, decide_false, List.getElem?_cons_zero, List.getElem?_cons_succ, Option.some.injEq, exists_eq_left', exists_eq_left, true_and, and_true, at0, at1, at2, at3, List.length_map, List.cons.injEq, Int.cast_ofNat_Int, Int.reduceEq, Int.reduceLT, Int.reduceLE, D.int.injEq, D.str.injEq, D.bl.injEq, D.tup.injEq, D.lst.injEq, exists_const, Int.zero_add, Nat.zero_add, Int.natCast_add, Int.natCast_one, Int.reduceAdd]
  refine ⟨small62 (by omega), fun i ρ n' => Eqn n' n ∧ ∃ (c : Int) (a : Sl), 0 ≤ c ∧ c ≤ (8 : Int) ^ i ∧ Is ρ [.val (.int N), .val (.int m), .val (.int c), a], ⟨rfl, 1, _, by omega, by simp, rfl⟩, ?_, ?_⟩
  · rintro i d ρ n' hd ⟨rfl, c, a, hc0, hc1, rfl⟩
    obtain ⟨rfl, hi⟩ := rgI_get hd
    simp only [SSeq, SNil, SIf, SRet, SSet, SAsg, SPar, SMuL, SApp, SExt, SPut, SFz, frzR, SNo, TVar, TC, TOp, TB, TNil, TCons, TTup, TLst, TKey, oIx, seqOf, TAnd, TOr, TNot, TAndV, TOrV, TNotV, TIf, TCB, cLen, cAbs, cMax2, cMin2, cAll, cList, cTuple, cInt, TIsi, isD, tyD, TCall, TChain, TLc, TLc0, SFor, ISeq, IRg1, IRg2, IZip, TSl, TPs, TPn, slD, cut1, opII, opI0, TNeg, oAdd, oIsN, oNotN, oIsB, opEq, eqD, getS, startR, GName, GNil, GCons, GTup, List.map_cons, List.map_nil, List.length_cons, List.length_nil, List.cons_append, List.nil_append, List.set_cons_zero, List.set_cons_succ, List.replicate, List.append_nil, Option.map_some, Bool.not_true, Bool.not_false, Bool.false_eq_true, if_true, if_false, ite_true, ite_false, reduceIte, Nat.sub_self, Nat.reduceAdd, Nat.reduceSub, Bool.or_true, Bool.or_false, Bool.true_or, Bool.false_or, Bool.and_true, Bool.and_false, decide_true, decide_false, List.getElem?_cons_zero, List.getElem?_cons_succ, Option.some.injEq, exists_eq_left', exists_eq_left, true_and, and_true, at0, at1, at2, at3, List.length_map, List.cons.injEq, Int.cast_ofNat_Int, Int.reduceEq, Int.reduceLT, Int.reduceLE, D.int.injEq, D.str.injEq, D.bl.injEq, D.tup.injEq, D.lst.injEq, exists_const, Int.zero_add, Nat.zero_add, Int.natCast_add, Int.natCast_one, Int.reduceAdd]
    have h8 : (8 : Int) ^ i ≤ 512 := by
      have := pow8 (show i ≤ 3 by omega)
      exact_mod_cast this
    have h82 : (8 : Int) ^ (i + 1) = 8 ^ i * 8 := Int.pow_succ ..
    have hmul : c * ((N : Int) - i) ≤ 8 ^ i * 8 := Int.mul_le_mul hc1 (by omega) (by omega) (by omega)
    have hmul0 : 0 ≤ c * ((N : Int) - i) := Int.mul_nonneg hc0 (by omega)
    refine ⟨.inl ⟨by omega, by omega⟩, ⟨by omega, by omega⟩, rfl, c * (N - i) / (i + 1), .val (.int i), Int.ediv_nonneg hmul0 (by omega), ?_, rfl⟩
    rw [h82]
    exact Int.le_trans (Int.ediv_le_self _ hmul0) hmul
  · rintro ρ n' ⟨rfl, c, a, hc0, hc1, rfl⟩
    simp only [SSeq, SNil, SIf, SRet, SSet, SAsg, SPar, SMuL, SApp, SExt, SPut, SFz, frzR, SNo, TVar, TC, TOp, TB, TNil, TCons, TTup, TLst, TKey, oIx, seqOf, TAnd, TOr, TNot, TAndV, TOrV, TNotV, TIf, TCB, cLen, cAbs, cMax2, cMin2, cAll, cList, cTuple, cInt, TIsi, isD, tyD, TCall, TChain, TLc, TLc0, SFor, ISeq, IRg1, IRg2, IZip, TSl, TPs, TPn, slD, cut1, opII, opI0, TNeg, oAdd, oIsN, oNotN, oIsB, opEq, eqD, getS, startR, GName, GNil, GCons, GTup, List.map_cons, List.map_nil, List.length_cons, List.length_nil, List.cons_append, List.nil_append, List.set_cons_zero, List.set_cons_succ, List.replicate, List.append_nil, Option.map_some, Bool.not_true, Bool.not_false, Bool.false_eq_true, if_true, if_false, ite_true, ite_false, reduceIte, Nat.sub_self, Nat.reduceAdd, Nat.reduceSub, Bool.or_true, Bool.or_false, Bool.true_or, Bool.false_or, Bool.and_true, Bool.and_false, decide_true, decide_false, List.getElem?_cons_zero, List.getElem?_cons_succ, Option.some.injEq, exists_eq_left', exists_eq_left, true_and, and_true, at0, at1, at2, at3, List.length_map, List.cons.injEq, Int.cast_ofNat_Int, Int.reduceEq, Int.reduceLT, Int.reduceLE, D.int.injEq, D.str.injEq, D.bl.injEq, D.tup.injEq, D.lst.injEq, exists_const, Int.zero_add, Nat.zero_add, Int.natCast_add, Int.natCast_one, Int.reduceAdd]
    rw [rgI_len] at hc1
    have h8 : (8 : Int) ^ m ≤ 512 := by
      have := pow8 hm
      exact_mod_cast this
    exact h c hc0 (by omega)
abbrev s_sets_of : Stmt := top 50
theorem sc_sets_of : FnScope ["places", "many", "found", "turn", "wider", "one", "first", "k"] ["places", "many"] (defScope s_sets_of) := ⟨rfl, rfl, rfl, by decide +kernel, rfl, by decide +kernel, by decide +kernel⟩
theorem ok_sets_of (F0 : Df K mg "sets_of" s_sets_of) (B : Bt mg) (C : Cs K w mg)  : Has Pr w K mg base "sets_of" ["places", "many"] k_sets_of sp_sets_of := by
  have sc := sc_sets_of
  refine has_mk (k := _) F0 sc (fun _ _ _ _ _ _ us hl => match us, hl with | [_, _], _ => rfl) len_sets_of (fun f cdv A outer s H E hr => ⟨_,
    (bCons (sSet 2 sc.nd (vLst (aCons (vKey aNil) aNil)))
    (bCons (sFor .never (iRg1 B.range (aCons (vN 1) aNil)) (gN 3 sc.nd)
      (bCons (sMuL 4 sc.nd aNil)
      (bCons (sFor .never (iL (vN 2)) (gN 5 sc.nd)
        (bCons (sSet 6 sc.nd (vIf (bNe hr (vN 5) (vKey aNil)) (vAdd (vIx (vN 5) (vNeg vI)) vI) vI))
        (bOne (sExt 4 (vLc (own := [("k", 7)]) sc.nd (iRg2 B.range (aCons (vN 6) (aCons (vN 0) aNil))) (fun _ _ _ _ _ => (gN 7 sc.nd)) (fun _ _ _ _ _ => tN) (fun _ _ _ _ _ => (vAdd (vN 5) (vKey (aCons (vN 7) aNil)))))))))
      (bOne (sFz 4 (sSet 2 sc.nd (vN 4)))))))
    (bOne (sRet (vN 2))))), ?_⟩)
  rintro _ n P ⟨N, m, rfl, hN, hm, h⟩
  simp only [SSeq, SNil, SIf, SRet, SSet, SAsg, SPar, SMuL, SApp, SExt, SPut, SFz, frzR, SNo, TVar, TC, TOp, TB, TNil, TCons, TTup, TLst, TKey, oIx, seqOf, TAnd, TOr, TNot, TAndV, TOrV, TNotV, TCB, cLen, cAbs, cMax2, cMin2, cAll, cList, cTuple, cInt, TIsi, isD, tyD, TCall, TChain, TLc, TLc0, SFor, ISeq, IRg1, IRg2, IZip, TSl, TPs, TPn, slD, cut1, opII, opI0, TNeg, oAdd, oIsN, oNotN, oIsB, opEq, eqD, getS, startR, GName, GNil, GCons, GTup, List.map_cons, List.map_nil, List.length_cons, List.length_nil, List.cons_append, List.nil_append, List.set_cons_zero, List.set_cons_succ, List.replicate, List.append_nil, Option.map_some, Bool.not_true, Bool.not_false, Bool.false_eq_true, if_true, if_false, ite_true, ite_false, reduceIte, Nat.sub_self, Nat.reduceAdd, Nat.reduceSub, Bool.or_true, Bool.or_false, Bool.true_or, Bool.false_or, Bool.and_true, Bool.and_false, decide_true, decide_false, List.getElem?_cons_zero, List.getElem?_cons_succ, Option.some.injEq, exists_eq_left', exists_eq_left, true_and, and_true, at0, at1, at2, at3, List.length_map, List.cons.injEq, Int.cast_ofNat_Int, Int.reduceEq, Int.reduceLT, Int.reduceLE, D.int.injEq, D.str.injEq, D.bl.injEq, D.tup.injEq, D.lst.injEq, exists_const, Int.zero_add, Nat.zero_add, Int.natCast_add, Int.natCast_one, Int.reduceAdd]
  refine ⟨Nat.zero_le _, [], rfl, sz8 (by omega), small62 (by omega), fun i ρ n' => Eqn n' n ∧ ∃ a b c d e, Is ρ [.val (.int N), .val (.int m), .val (.lst ((setsI N i).map D.key)), a, b, c, d, e], ⟨rfl, _, _, _, _, _, rfl⟩, ?_, ?_⟩
  · rintro i d ρ n' hd ⟨rfl, a, b, c, d', e, rfl⟩
    obtain ⟨rfl, hi⟩ := rgI_get hd
    simp only [SSeq, SNil, SIf, SRet, SSet, SAsg, SPar, SMuL, SApp, SExt, SPut, SFz, frzR, SNo, TVar, TC, TOp, TB, TNil, TCons, TTup, TLst, TKey, oIx, seqOf, TAnd, TOr, TNot, TAndV, TOrV, TNotV, TCB, cLen, cAbs, cMax2, cMin2, cAll, cList, cTuple, cInt, TIsi, isD, tyD, TCall, TChain, TLc, TLc0, SFor, ISeq, IRg1, IRg2, IZip, TSl, TPs, TPn, slD, cut1, opII, opI0, TNeg, oAdd, oIsN, oNotN, oIsB, opEq, eqD, getS, startR, GName, GNil, GCons, GTup, List.map_cons, List.map_nil, List.length_cons, List.length_nil, List.cons_append, List.nil_append, List.set_cons_zero, List.set_cons_succ, List.replicate, List.append_nil, Option.map_some, Bool.not_true, Bool.not_false, Bool.false_eq_true, if_true, if_false, ite_true, ite_false, reduceIte, Nat.sub_self, Nat.reduceAdd, Nat.reduceSub, Bool.or_true, Bool.or_false, Bool.true_or, Bool.false_or, Bool.and_true, Bool.and_false, decide_true, decide_false, List.getElem?_cons_zero, List.getElem?_cons_succ, Option.some.injEq, exists_eq_left', exists_eq_left, true_and, and_true, at0, at1, at2, at3, List.length_map, List.cons.injEq, Int.cast_ofNat_Int, Int.reduceEq, Int.reduceLT, Int.reduceLE, D.int.injEq, D.str.injEq, D.bl.injEq, D.tup.injEq, D.lst.injEq, exists_const, Int.zero_add, Nat.zero_add, Int.natCast_add, Int.natCast_one, Int.reduceAdd]
    have hL := Nat.le_trans (setsI_len (N := N) (by omega) i) (pow8 (show i ≤ 3 by omega))
    refine ⟨Nat.zero_le _, fun j ρ n2 => Eqn n2 n' ∧ ∃ a b c, Is ρ [.val (.int N), .val (.int m), .val (.lst ((setsI N i).map D.key)), .val (.int i), .mu (.lst ((widS N ((setsI N i).take j)).map D.key)), a, b, c], ⟨rfl, _, _, _, rfl⟩, ?_, ?_⟩
    · rintro j d ρ n2 hd ⟨rfl, a, b, c, rfl⟩
      rw [List.getElem?_map] at hd
      obtain ⟨S, hS, rfl⟩ := Option.map_eq_some_iff.mp hd
      have hmS := mem_setsI.mp (List.mem_of_getElem? hS)
      obtain ⟨b1, b2⟩ := next_bds hmS.2
      have b3 : nextF 0 S ≤ 9 := by
        rcases b2 with h | rfl
        · omega
        · show (0 : Int) ≤ 9; omega
      simp only [SSeq, SNil, SIf, SRet, SSet, SAsg, SPar, SMuL, SApp, SExt, SPut, SFz, frzR, SNo, TVar, TC, TOp, TB, TNil, TCons, TTup, TLst, TKey, oIx, seqOf, TAnd, TOr, TNot, TAndV, TOrV, TNotV, TCB, cLen, cAbs, cMax2, cMin2, cAll, cList, cTuple, cInt, TIsi, isD, tyD, TCall, TChain, TLc, TLc0, SFor, ISeq, IRg1, IRg2, IZip, TSl, TPs, TPn, slD, cut1, opII, opI0, TNeg, oAdd, oIsN, oNotN, oIsB, opEq, eqD, getS, startR, GName, GNil, GCons, GTup, List.map_cons, List.map_nil, List.length_cons, List.length_nil, List.cons_append, List.nil_append, List.set_cons_zero, List.set_cons_succ, List.replicate, List.append_nil, Option.map_some, Bool.not_true, Bool.not_false, Bool.false_eq_true, if_true, if_false, ite_true, ite_false, reduceIte, Nat.sub_self, Nat.reduceAdd, Nat.reduceSub, Bool.or_true, Bool.or_false, Bool.true_or, Bool.false_or, Bool.and_true, Bool.and_false, decide_true, decide_false, List.getElem?_cons_zero, List.getElem?_cons_succ, Option.some.injEq, exists_eq_left', exists_eq_left, true_and, and_true, at0, at1, at2, at3, List.length_map, List.cons.injEq, Int.cast_ofNat_Int, Int.reduceEq, Int.reduceLT, Int.reduceLE, D.int.injEq, D.str.injEq, D.bl.injEq, D.tup.injEq, D.lst.injEq, exists_const, Int.zero_add, Nat.zero_add, Int.natCast_add, Int.natCast_one, Int.reduceAdd]
      refine next_if (S := S) ?_ ?_
      · rfl
      simp only [SSeq, SNil, SIf, SRet, SSet, SAsg, SPar, SMuL, SApp, SExt, SPut, SFz, frzR, SNo, TVar, TC, TOp, TB, TNil, TCons, TTup, TLst, TKey, oIx, seqOf, TAnd, TOr, TNot, TAndV, TOrV, TNotV, TIf, TCB, cLen, cAbs, cMax2, cMin2, cAll, cList, cTuple, cInt, TIsi, isD, tyD, TCall, TChain, TLc, TLc0, SFor, ISeq, IRg1, IRg2, IZip, TSl, TPs, TPn, slD, cut1, opII, opI0, TNeg, oAdd, oIsN, oNotN, oIsB, opEq, eqD, getS, startR, GName, GNil, GCons, GTup, List.map_cons, List.map_nil, List.length_cons, List.length_nil, List.cons_append, List.nil_append, List.set_cons_zero, List.set_cons_succ, List.replicate, List.append_nil, Option.map_some, Bool.not_true, Bool.not_false, Bool.false_eq_true, if_true, if_false, ite_true, ite_false, reduceIte, Nat.sub_self, Nat.reduceAdd, Nat.reduceSub, Bool.or_true, Bool.or_false, Bool.true_or, Bool.false_or, Bool.and_true, Bool.and_false, decide_true, decide_false, List.getElem?_cons_zero, List.getElem?_cons_succ, Option.some.injEq, exists_eq_left', exists_eq_left, true_and, and_true, at0, at1, at2, at3, List.length_map, List.cons.injEq, Int.cast_ofNat_Int, Int.reduceEq, Int.reduceLT, Int.reduceLE, D.int.injEq, D.str.injEq, D.bl.injEq, D.tup.injEq, D.lst.injEq, exists_const, Int.zero_add, Nat.zero_add, Int.natCast_add, Int.natCast_one, Int.reduceAdd]
      refine ⟨by unfold Small62; omega, small62 (by omega), ?_⟩
      refine lc_mapF (rgI (nextF 0 S) N) D.int (fun k => .key (S ++ [k])) (by rw [rgI_length]; exact sz1000 (by omega)) (fun k hk Q hQ => ?_) ?_
      · simp only [SSeq, SNil, SIf, SRet, SSet, SAsg, SPar, SMuL, SApp, SExt, SPut, SFz, frzR, SNo, TVar, TC, TOp, TB, TNil, TCons, TTup, TLst, TKey, oIx, seqOf, TAnd, TOr, TNot, TAndV, TOrV, TNotV, TIf, TCB, cLen, cAbs, cMax2, cMin2, cAll, cList, cTuple, cInt, TIsi, isD, tyD, TCall, TChain, TLc, TLc0, SFor, ISeq, IRg1, IRg2, IZip, TSl, TPs, TPn, slD, cut1, opII, opI0, TNeg, oAdd, oIsN, oNotN, oIsB, opEq, eqD, getS, startR, GName, GNil, GCons, GTup, List.map_cons, List.map_nil, List.length_cons, List.length_nil, List.cons_append, List.nil_append, List.set_cons_zero, List.set_cons_succ, List.replicate, List.append_nil, Option.map_some, Bool.not_true, Bool.not_false, Bool.false_eq_true, if_true, if_false, ite_true, ite_false, reduceIte, Nat.sub_self, Nat.reduceAdd, Nat.reduceSub, Bool.or_true, Bool.or_false, Bool.true_or, Bool.false_or, Bool.and_true, Bool.and_false, decide_true, decide_false, List.getElem?_cons_zero, List.getElem?_cons_succ, Option.some.injEq, exists_eq_left', exists_eq_left, true_and, and_true, at0, at1, at2, at3, List.length_map, List.cons.injEq, Int.cast_ofNat_Int, Int.reduceEq, Int.reduceLT, Int.reduceLE, D.int.injEq, D.str.injEq, D.bl.injEq, D.tup.injEq, D.lst.injEq, exists_const, Int.zero_add, Nat.zero_add, Int.natCast_add, Int.natCast_one, Int.reduceAdd, wipeR]
        exact ⟨sz8 (by omega), [k], rfl, sz1000 (by show S.length + 1 ≤ _; rw [hmS.1]; omega), hQ⟩
      · have hw := widS_len (N := (N : Int)) (by omega) (l := (setsI N i).take j) fun T hT => (mem_setsI.mp (List.mem_of_mem_take hT)).2
        rw [List.length_take] at hw
        refine ⟨?_, rfl, .val (.key S), .val (.int (nextF 0 S)), c, ?_⟩
        · rw [List.length_map, rgI_length]
          have e64 : sizeLine ≥ 10000 := by decide
          omega
        · rw [take_snoc hS]
          unfold widS
          simp [List.flatMap_append, List.map_append, List.map_map, Function.comp_def]
          rfl
    · rintro ρ n2 ⟨rfl, a, b, c, rfl⟩
      rw [List.take_length]
      simp only [SSeq, SNil, SIf, SRet, SSet, SAsg, SPar, SMuL, SApp, SExt, SPut, SFz, frzR, SNo, TVar, TC, TOp, TB, TNil, TCons, TTup, TLst, TKey, oIx, seqOf, TAnd, TOr, TNot, TAndV, TOrV, TNotV, TIf, TCB, cLen, cAbs, cMax2, cMin2, cAll, cList, cTuple, cInt, TIsi, isD, tyD, TCall, TChain, TLc, TLc0, SFor, ISeq, IRg1, IRg2, IZip, TSl, TPs, TPn, slD, cut1, opII, opI0, TNeg, oAdd, oIsN, oNotN, oIsB, opEq, eqD, getS, startR, GName, GNil, GCons, GTup, List.map_cons, List.map_nil, List.length_cons, List.length_nil, List.cons_append, List.nil_append, List.set_cons_zero, List.set_cons_succ, List.replicate, List.append_nil, Option.map_some, Bool.not_true, Bool.not_false, Bool.false_eq_true, if_true, if_false, ite_true, ite_false, reduceIte, Nat.sub_self, Nat.reduceAdd, Nat.reduceSub, Bool.or_true, Bool.or_false, Bool.true_or, Bool.false_or, Bool.and_true, Bool.and_false, decide_true, decide_false, List.getElem?_cons_zero, List.getElem?_cons_succ, Option.some.injEq, exists_eq_left', exists_eq_left, true_and, and_true, at0, at1, at2, at3, List.length_map, List.cons.injEq, Int.cast_ofNat_Int, Int.reduceEq, Int.reduceLT, Int.reduceLE, D.int.injEq, D.str.injEq, D.bl.injEq, D.tup.injEq, D.lst.injEq, exists_const, Int.zero_add, Nat.zero_add, Int.natCast_add, Int.natCast_one, Int.reduceAdd, MO.d]
      refine ⟨rfl, ?_, ?_, ?_, ?_, ?_, ?_⟩
      rotate_left 5
      exact rfl
  · rintro ρ n' ⟨rfl, a, b, c, d', e, rfl⟩
    simp only [SSeq, SNil, SIf, SRet, SSet, SAsg, SPar, SMuL, SApp, SExt, SPut, SFz, frzR, SNo, TVar, TC, TOp, TB, TNil, TCons, TTup, TLst, TKey, oIx, seqOf, TAnd, TOr, TNot, TAndV, TOrV, TNotV, TIf, TCB, cLen, cAbs, cMax2, cMin2, cAll, cList, cTuple, cInt, TIsi, isD, tyD, TCall, TChain, TLc, TLc0, SFor, ISeq, IRg1, IRg2, IZip, TSl, TPs, TPn, slD, cut1, opII, opI0, TNeg, oAdd, oIsN, oNotN, oIsB, opEq, eqD, getS, startR, GName, GNil, GCons, GTup, List.map_cons, List.map_nil, List.length_cons, List.length_nil, List.cons_append, List.nil_append, List.set_cons_zero, List.set_cons_succ, List.replicate, List.append_nil, Option.map_some, Bool.not_true, Bool.not_false, Bool.false_eq_true, if_true, if_false, ite_true, ite_false, reduceIte, Nat.sub_self, Nat.reduceAdd, Nat.reduceSub, Bool.or_true, Bool.or_false, Bool.true_or, Bool.false_or, Bool.and_true, Bool.and_false, decide_true, decide_false, List.getElem?_cons_zero, List.getElem?_cons_succ, Option.some.injEq, exists_eq_left', exists_eq_left, true_and, and_true, at0, at1, at2, at3, List.length_map, List.cons.injEq, Int.cast_ofNat_Int, Int.reduceEq, Int.reduceLT, Int.reduceLE, D.int.injEq, D.str.injEq, D.bl.injEq, D.tup.injEq, D.lst.injEq, exists_const, Int.zero_add, Nat.zero_add, Int.natCast_add, Int.natCast_one, Int.reduceAdd]
    rw [rgI_len]
    exact h
abbrev s_tree_of : Stmt := top 52
theorem sc_tree_of : FnScope ["known", "places", "many", "taken", "at", "inside", "outside"] ["known", "places", "many", "taken", "at"] (defScope s_tree_of) := ⟨rfl, rfl, rfl, by decide +kernel, rfl, by decide +kernel, by decide +kernel⟩
theorem step_tree_of (fl : Nat) (F0 : Df K mg "tree_of" s_tree_of) (B : Bt mg) (C : Cs K w mg) (h_tree_of : Has Pr w K mg base "tree_of" ["known", "places", "many", "taken", "at"] (k_tree_of fl) (sp_tree_of fl)) : Has Pr w K mg base "tree_of" ["known", "places", "many", "taken", "at"] (k_tree_of (fl + 1)) (sp_tree_of (fl + 1)) := by
  have sc := sc_tree_of
  refine has_mk (k := _) F0 sc (fun _ _ _ _ _ _ us hl => match us, hl with | [_, _, _, _, _], _ => rfl) (len_tree_of (fl + 1)) (fun f cdv A outer s H E hr => ⟨_,
    (bCons (sIf (bEq hr (vLen B.len (aCons (vN 3) aNil)) (vN 2))
      (bOne (sRet (vSl (vTab hr (vN 0) (vN 3)) (oS vI) oN)))
      bNil)
    (bCons (sIf (bEq hr (vSub (vAdd (vLen B.len (aCons (vN 3) aNil)) (vN 1)) (vN 4)) (vN 2))
      (bOne (sRet (vSl (vTab hr (vN 0) (vAdd (vN 3) (vTupRg B.tuple B.range (vN 4) (vN 1)))) (oS vI) oN)))
      bNil)
    (bCons (sSet 5 sc.nd (vCall h_tree_of hr (aCons (vN 0) (aCons (vN 1) (aCons (vN 2) (aCons (vAdd (vN 3) (vKey (aCons (vN 4) aNil))) (aCons (vAdd (vN 4) vI) aNil))))) (hj := Nat.le_refl _)))
    (bCons (sSet 6 sc.nd (vCall h_tree_of hr (aCons (vN 0) (aCons (vN 1) (aCons (vN 2) (aCons (vN 3) (aCons (vAdd (vN 4) vI) aNil))))) (hj := Nat.le_refl _)))
    (bOne (sRet (vTup (aCons vS (aCons (vN 4) (aCons (vN 5) (aCons (vN 6) aNil))))))))))), ?_⟩)
  rintro _ n P ⟨N, m, W, taken, at_, rfl, hi, h0, hN, hN8, hl, hr1, hf, h⟩
  have ht8 : taken.length ≤ 8 := by
    rcases inc_len hi with q | rfl
    · omega
    · simp
  simp only [SSeq, SNil, SIf, SRet, SSet, SAsg, SPar, SMuL, SApp, SExt, SPut, SFz, frzR, SNo, TVar, TC, TOp, TB, TNil, TCons, TTup, TLst, TKey, oIx, seqOf, TAnd, TOr, TNot, TAndV, TOrV, TNotV, TIf, TCB, cLen, cAbs, cMax2, cMin2, cAll, cList, cTuple, cInt, TIsi, isD, tyD, TCall, TChain, TLc, TLc0, SFor, ISeq, IRg1, IRg2, IZip, TSl, TPs, TPn, slD, cut1, opII, opI0, TNeg, oAdd, oIsN, oNotN, oIsB, opEq, eqD, getS, startR, GName, GNil, GCons, GTup, List.map_cons, List.map_nil, List.length_cons, List.length_nil, List.cons_append, List.nil_append, List.set_cons_zero, List.set_cons_succ, List.replicate, List.append_nil, Option.map_some, Bool.not_true, Bool.not_false, Bool.false_eq_true, if_true, if_false, ite_true, ite_false, reduceIte, Nat.sub_self, Nat.reduceAdd, Nat.reduceSub, Bool.or_true, Bool.or_false, Bool.true_or, Bool.false_or, Bool.and_true, Bool.and_false, decide_true, decide_false, List.getElem?_cons_zero, List.getElem?_cons_succ, Option.some.injEq, exists_eq_left', exists_eq_left, true_and, and_true, at0, at1, at2, at3, List.length_map, List.cons.injEq, Int.cast_ofNat_Int, Int.reduceEq, Int.reduceLT, Int.reduceLE, D.int.injEq, D.str.injEq, D.bl.injEq, D.tup.injEq, D.lst.injEq, exists_const, Int.zero_add, Nat.zero_add, Int.natCast_add, Int.natCast_one, Int.reduceAdd, TTab, TTupRg2]
  unfold treeD at h
  by_cases c1 : taken.length = m
  · rw [if_pos c1] at h
    have e1 : decide ((taken.length : Int) = (m : Int)) = true := decide_eq_true (by omega)
    rw [e1]
    have hm : taken ∈ setsI N m := mem_setsI.mpr ⟨c1, inc_up hi hN⟩
    refine iteT ⟨_, lookT_map hm, ?_⟩
    simp only [SSeq, SNil, SIf, SRet, SSet, SAsg, SPar, SMuL, SApp, SExt, SPut, SFz, frzR, SNo, TVar, TC, TOp, TB, TNil, TCons, TTup, TLst, TKey, oIx, seqOf, TAnd, TOr, TNot, TAndV, TOrV, TNotV, TIf, TCB, cLen, cAbs, cMax2, cMin2, cAll, cList, cTuple, cInt, TIsi, isD, tyD, TCall, TChain, TLc, TLc0, SFor, ISeq, IRg1, IRg2, IZip, TSl, TPs, TPn, slD, cut1, opII, opI0, TNeg, oAdd, oIsN, oNotN, oIsB, opEq, eqD, getS, startR, GName, GNil, GCons, GTup, List.map_cons, List.map_nil, List.length_cons, List.length_nil, List.cons_append, List.nil_append, List.set_cons_zero, List.set_cons_succ, List.replicate, List.append_nil, Option.map_some, Bool.not_true, Bool.not_false, Bool.false_eq_true, if_true, if_false, ite_true, ite_false, reduceIte, Nat.sub_self, Nat.reduceAdd, Nat.reduceSub, Bool.or_true, Bool.or_false, Bool.true_or, Bool.false_or, Bool.and_true, Bool.and_false, decide_true, decide_false, List.getElem?_cons_zero, List.getElem?_cons_succ, Option.some.injEq, exists_eq_left', exists_eq_left, true_and, and_true, at0, at1, at2, at3, List.length_map, List.cons.injEq, Int.cast_ofNat_Int, Int.reduceEq, Int.reduceLT, Int.reduceLE, D.int.injEq, D.str.injEq, D.bl.injEq, D.tup.injEq, D.lst.injEq, exists_const, Int.zero_add, Nat.zero_add, Int.natCast_add, Int.natCast_one, Int.reduceAdd, worstD]
    exact h
  · rw [if_neg c1] at h
    have e1 : decide ((taken.length : Int) = (m : Int)) = false := by rw [decide_eq_false_iff_not]; omega
    rw [e1]
    refine iteF ?_
    by_cases c2 : (taken.length : Int) + N - at_ = m
    · rw [if_pos c2] at h
      rw [decide_eq_true c2]
      have hm : taken ++ rgI at_ N ∈ setsI N m := mem_setsI.mpr ⟨by rw [List.length_append, rgI_length]; omega, inc_cat hi hN (fun lo hlo => inc_rg _ rfl hlo) h0⟩
      refine iteT ⟨by unfold RgOk; omega, sz1000 (by rw [rgI_length]; omega), _, lookT_map hm, ?_⟩
      simp only [SSeq, SNil, SIf, SRet, SSet, SAsg, SPar, SMuL, SApp, SExt, SPut, SFz, frzR, SNo, TVar, TC, TOp, TB, TNil, TCons, TTup, TLst, TKey, oIx, seqOf, TAnd, TOr, TNot, TAndV, TOrV, TNotV, TIf, TCB, cLen, cAbs, cMax2, cMin2, cAll, cList, cTuple, cInt, TIsi, isD, tyD, TCall, TChain, TLc, TLc0, SFor, ISeq, IRg1, IRg2, IZip, TSl, TPs, TPn, slD, cut1, opII, opI0, TNeg, oAdd, oIsN, oNotN, oIsB, opEq, eqD, getS, startR, GName, GNil, GCons, GTup, List.map_cons, List.map_nil, List.length_cons, List.length_nil, List.cons_append, List.nil_append, List.set_cons_zero, List.set_cons_succ, List.replicate, List.append_nil, Option.map_some, Bool.not_true, Bool.not_false, Bool.false_eq_true, if_true, if_false, ite_true, ite_false, reduceIte, Nat.sub_self, Nat.reduceAdd, Nat.reduceSub, Bool.or_true, Bool.or_false, Bool.true_or, Bool.false_or, Bool.and_true, Bool.and_false, decide_true, decide_false, List.getElem?_cons_zero, List.getElem?_cons_succ, Option.some.injEq, exists_eq_left', exists_eq_left, true_and, and_true, at0, at1, at2, at3, List.length_map, List.cons.injEq, Int.cast_ofNat_Int, Int.reduceEq, Int.reduceLT, Int.reduceLE, D.int.injEq, D.str.injEq, D.bl.injEq, D.tup.injEq, D.lst.injEq, exists_const, Int.zero_add, Nat.zero_add, Int.natCast_add, Int.natCast_one, Int.reduceAdd, worstD]
      exact h
    · rw [if_neg c2] at h
      rw [decide_eq_false c2]
      refine iteF ⟨sz8 (by omega), [at_], rfl, sz1000 (by show taken.length + 1 ≤ 1000; omega), ?_⟩
      cases fl with
      | zero => omega
      | succ f =>
        refine ⟨N, m, W, taken ++ [at_], at_ + 1, rfl, inc_snoc_at hi h0, by omega, by omega, hN8, by rw [List.length_append]; show taken.length + 1 ≤ m; omega, by rw [List.length_append]; show (m : Int) ≤ (taken.length + 1 : Nat) + _; omega, by omega, ?_⟩
        exact ⟨N, m, W, taken, at_ + 1, rfl, inc_up hi (by omega), by omega, by omega, hN8, hl, by omega, by omega, sz8 (by omega), h⟩
abbrev s_least_set : Stmt := top 51
theorem sc_least_set : FnScope ["grid", "many", "places", "known", "best", "one", "k"] ["grid", "many"] (defScope s_least_set) := ⟨rfl, rfl, rfl, by decide +kernel, rfl, by decide +kernel, by decide +kernel⟩
theorem ok_least_set (F0 : Df K mg "least_set" s_least_set) (B : Bt mg) (C : Cs K w mg) (h_tree_of : Has Pr w K mg base "tree_of" ["known", "places", "many", "taken", "at"] (k_tree_of 10) (sp_tree_of 10)) (h_sets_of : Has Pr w K mg base "sets_of" ["places", "many"] k_sets_of sp_sets_of) (h_is_below : Has Pr w K mg base "is_below" ["one", "other"] k_is_below sp_is_below) (h_worst : Has Pr w K mg base "worst" ["points", "family"] k_worst sp_worst) (h_many_sets : Has Pr w K mg base "many_sets" ["places", "many"] k_many_sets sp_many_sets) (h_places_of : Has Pr w K mg base "places_of" ["grid"] k_places_of sp_places_of) : Has Pr w K mg base "least_set" ["grid", "many"] k_least_set sp_least_set := by
  have sc := sc_least_set
  refine has_mk (k := _) F0 sc (fun _ _ _ _ _ _ us hl => match us, hl with | [_, _], _ => rfl) len_least_set (fun f cdv A outer s H E hr => ⟨_,
    (bCons (sSet 2 sc.nd (vCall h_places_of hr (aCons (vN 0) aNil)))
    (bCons (sIf (bGt (vCall h_many_sets hr (aCons (vLen B.len (aCons (vN 2) aNil)) (aCons (vN 1) aNil))) (vGloI C.sets))
      (bOne sNo)
      bNil)
    (bCons (sTabNew 3 sc.nd)
    (bCons (sSet 4 sc.nd vO)
    (bCons (sFor .never (iL (vCall h_sets_of hr (aCons (vLen B.len (aCons (vN 2) aNil)) (aCons (vN 1) aNil)))) (gN 5 sc.nd)
      (bCons (sTabPut 3 hr (vN 5) (vCall h_worst hr (aCons (vTuple B.tuple (aCons (vLc (own := [("k", 6)]) sc.nd (iT (vN 5)) (fun _ _ _ _ _ => (gN 6 sc.nd)) (fun _ _ _ _ _ => tN) (fun _ _ _ _ _ => (vIx (vN 2) (vN 6)))) aNil)) (aCons vS aNil))))
      (bOne (sIf (bW (wOr (bIsN (vN 4) vO) (wOr1 (bVal (vCall h_is_below hr (aCons (vIx (vTabM 3 hr (vN 5)) vI) (aCons (vIx (vTabM 3 hr (vN 4)) vI) aNil)))))))
        (bOne (sSet 4 sc.nd (vN 5)))
        bNil))))
    (bOne (sFz 3 (sRet (vTup (aCons (vIx (vTab hr (vN 3) (vN 4)) vI) (aCons (vN 4) (aCons (vCall h_tree_of hr (aCons (vN 3) (aCons (vLen B.len (aCons (vN 2) aNil)) (aCons (vN 1) (aCons (vKey aNil) (aCons vI aNil)))))) aNil)))))))))))), ?_⟩)
  rintro _ n P ⟨gs, m, rfl, hg, h1, h3, hN, h⟩
  simp only [SSeq, SNil, SIf, SRet, SSet, SAsg, SPar, SMuL, SApp, SExt, SPut, SFz, frzR, SNo, TVar, TC, TOp, TB, TNil, TCons, TTup, TLst, TKey, oIx, seqOf, TAnd, TOr, TNot, TAndV, TOrV, TNotV, TIf, TCB, cLen, cAbs, cMax2, cMin2, cAll, cList, cTuple, cInt, TIsi, isD, tyD, TCall, TChain, TLc, TLc0, SFor, ISeq, IRg1, IRg2, IZip, TSl, TPs, TPn, slD, cut1, opII, opI0, TNeg, oAdd, oIsN, oNotN, oIsB, opEq, eqD, getS, startR, GName, GNil, GCons, GTup, List.map_cons, List.map_nil, List.length_cons, List.length_nil, List.cons_append, List.nil_append, List.set_cons_zero, List.set_cons_succ, List.replicate, List.append_nil, Option.map_some, Bool.not_true, Bool.not_false, Bool.false_eq_true, if_true, if_false, ite_true, ite_false, reduceIte, Nat.sub_self, Nat.reduceAdd, Nat.reduceSub, Bool.or_true, Bool.or_false, Bool.true_or, Bool.false_or, Bool.and_true, Bool.and_false, decide_true, decide_false, List.getElem?_cons_zero, List.getElem?_cons_succ, Option.some.injEq, exists_eq_left', exists_eq_left, true_and, and_true, at0, at1, at2, at3, List.length_map, List.cons.injEq, Int.cast_ofNat_Int, Int.reduceEq, Int.reduceLT, Int.reduceLE, D.int.injEq, D.str.injEq, D.bl.injEq, D.tup.injEq, D.lst.injEq, exists_const, Int.zero_add, Nat.zero_add, Int.natCast_add, Int.natCast_one, Int.reduceAdd, TTab, sp_places_of, STabNew, sp_many_sets, sp_sets_of]
  refine ⟨gs, rfl, hg, (prodL gs).length, m, ⟨rfl, rfl⟩, hg.len, h3, hN, fun c hc0 hc1 => ?_⟩
  have e1 : decide ((1000 : Int) < c) = false := by rw [decide_eq_false_iff_not]; omega
  rw [e1]
  refine iteF ⟨(prodL gs).length, m, ⟨rfl, rfl⟩, hg.len, h3, fun i ρ n' => Eqn n' n ∧ ∃ (W : Wf) (best : D) (a b : Sl), Is ρ [.val (gridD gs), .val (.int m), .val (.tup ((prodL gs).map ptD)),
    .mu (.tab ((setsI (prodL gs).length m).take i) (((setsI (prodL gs).length m).take i).map fun S => worstD (W S))), .val best, a, b] ∧ Worsts gs m W ((setsI (prodL gs).length m).take i) ∧ BestOf W ((setsI (prodL gs).length m).take i) best,
    ⟨rfl, fun _ => (0, "", []), _, _, _, rfl, fun _ h => (by cases h), .inl ⟨rfl, rfl⟩⟩, ?_, ?_⟩
  · rintro i d ρ n' hd ⟨rfl, W, best, a, b, rfl, hW, hB⟩
    rw [List.getElem?_map] at hd
    obtain ⟨S, hS, rfl⟩ := Option.map_eq_some_iff.mp hd
    have hnew : S ∉ (setsI (prodL gs).length m).take i := fun hm => by
      obtain ⟨j, hj, e⟩ := List.mem_iff_getElem.mp hm
      rw [List.length_take] at hj
      rw [List.getElem_take] at e
      obtain ⟨hi2, e2⟩ := List.getElem?_eq_some_iff.mp hS
      have := (List.getElem_inj (setsI_nodup m)).mp (e.trans e2.symm)
      omega
    obtain ⟨hp, hx⟩ := pts_ok hg h1 h3 (List.mem_of_getElem? hS)
    have hSm := mem_setsI.mp (List.mem_of_getElem? hS)
    have hln : ((setsI (prodL gs).length m).take i).length < sizeLine := by
      rw [List.length_take]
      have := Nat.le_trans (setsI_len (N := ((prodL gs).length : Int)) (by have := hg.len; omega) m) (pow8 h3)
      exact sz1001 (by omega)
    have hall : ∀ T ∈ (setsI (prodL gs).length m).take i, ((W T).1).den ≤ 8000000 := fun T hT => by
      obtain ⟨p1, p2⟩ := pts_ok hg h1 h3 (List.mem_of_mem_take hT)
      exact worst_den p1 (fun xs hxs x hx => ⟨(p2 xs hxs x hx).1, (p2 xs hxs x hx).2.1⟩) (hW T hT)
    simp only [SSeq, SNil, SIf, SRet, SSet, SAsg, SPar, SMuL, SApp, SExt, SPut, SFz, frzR, SNo, TVar, TC, TOp, TB, TNil, TCons, TTup, TLst, TKey, oIx, seqOf, TAnd, TOr, TNot, TAndV, TOrV, TNotV, TIf, TCB, cLen, cAbs, cMax2, cMin2, cAll, cList, cTuple, cInt, TIsi, isD, tyD, TCall, TChain, TLc, TLc0, SFor, ISeq, IRg1, IRg2, IZip, TSl, TPs, TPn, slD, cut1, opII, opI0, TNeg, oAdd, oIsN, oNotN, oIsB, opEq, eqD, getS, startR, GName, GNil, GCons, GTup, List.map_cons, List.map_nil, List.length_cons, List.length_nil, List.cons_append, List.nil_append, List.set_cons_zero, List.set_cons_succ, List.replicate, List.append_nil, Option.map_some, Bool.not_true, Bool.not_false, Bool.false_eq_true, if_true, if_false, ite_true, ite_false, reduceIte, Nat.sub_self, Nat.reduceAdd, Nat.reduceSub, Bool.or_true, Bool.or_false, Bool.true_or, Bool.false_or, Bool.and_true, Bool.and_false, decide_true, decide_false, List.getElem?_cons_zero, List.getElem?_cons_succ, Option.some.injEq, exists_eq_left', exists_eq_left, true_and, and_true, at0, at1, at2, at3, List.length_map, List.cons.injEq, Int.cast_ofNat_Int, Int.reduceEq, Int.reduceLT, Int.reduceLE, D.int.injEq, D.str.injEq, D.bl.injEq, D.tup.injEq, D.lst.injEq, exists_const, Int.zero_add, Nat.zero_add, Int.natCast_add, Int.natCast_one, Int.reduceAdd, STabPut, sp_worst]
    rw [take_snoc hS]
    generalize (setsI (prodL gs).length m).take i = l at hW hB hnew hln hall ⊢
    refine lc_mapF S D.int (fun k => ptD ((prodL gs).getD k.toNat [])) (sz1000 (by omega)) (fun k hk Q hQ => ?_) ?_
    · simp only [SSeq, SNil, SIf, SRet, SSet, SAsg, SPar, SMuL, SApp, SExt, SPut, SFz, frzR, SNo, TVar, TC, TOp, TB, TNil, TCons, TTup, TLst, TKey, oIx, seqOf, TAnd, TOr, TNot, TAndV, TOrV, TNotV, TIf, TCB, cLen, cAbs, cMax2, cMin2, cAll, cList, cTuple, cInt, TIsi, isD, tyD, TCall, TChain, TLc, TLc0, SFor, ISeq, IRg1, IRg2, IZip, TSl, TPs, TPn, slD, cut1, opII, opI0, TNeg, oAdd, oIsN, oNotN, oIsB, opEq, eqD, getS, startR, GName, GNil, GCons, GTup, List.map_cons, List.map_nil, List.length_cons, List.length_nil, List.cons_append, List.nil_append, List.set_cons_zero, List.set_cons_succ, List.replicate, List.append_nil, Option.map_some, Bool.not_true, Bool.not_false, Bool.false_eq_true, if_true, if_false, ite_true, ite_false, reduceIte, Nat.sub_self, Nat.reduceAdd, Nat.reduceSub, Bool.or_true, Bool.or_false, Bool.true_or, Bool.false_or, Bool.and_true, Bool.and_false, decide_true, decide_false, List.getElem?_cons_zero, List.getElem?_cons_succ, Option.some.injEq, exists_eq_left', exists_eq_left, true_and, and_true, at0, at1, at2, at3, List.length_map, List.cons.injEq, Int.cast_ofNat_Int, Int.reduceEq, Int.reduceLT, Int.reduceLE, D.int.injEq, D.str.injEq, D.bl.injEq, D.tup.injEq, D.lst.injEq, exists_const, Int.zero_add, Nat.zero_add, Int.natCast_add, Int.natCast_one, Int.reduceAdd, wipeR]
      have := inc_ge hSm.2 hk
      have hk2 : k.toNat < (prodL gs).length := by omega
      refine ⟨_, ?_, hQ⟩
      have ek : k = (k.toNat : Int) := by omega
      rw [ek, atI_nat, List.getElem?_map, Int.toNat_natCast, List.getElem?_eq_getElem hk2, List.getD_eq_getElem?_getD, List.getElem?_eq_getElem hk2]
      rfl
    · refine ⟨gs.length, ptsOf gs S, by rw [ptsOf, List.map_map]; rfl, hp, fun xs hxs x h => ⟨(hx xs hxs x h).1, (hx xs hxs x h).2.1⟩, fun q way bx hw => ⟨hnew, hln, ?_⟩⟩
      have hqd := worst_den hp (fun xs hxs x h => ⟨(hx xs hxs x h).1, (hx xs hxs x h).2.1⟩) hw
      have e1 : l.map (fun T => worstD (W T)) ++ [.tup [fr q, .str way, boxD bx]] = (l ++ [S]).map fun T => worstD (putW W S (q, way, bx) T) := by
        rw [List.map_append]
        congr 1
        · exact List.map_congr_left fun T hT => by
            have hne : T ≠ S := fun e => hnew (e ▸ hT)
            rw [putW_ne hne]
        · simp [worstD, putW_same]
      have hW3 : ∀ T ∈ l, putW W S (q, way, bx) T = W T := fun T hT => by
        have hne : T ≠ S := fun e => hnew (e ▸ hT)
        exact putW_ne hne
      have hW2 : Worsts gs m (putW W S (q, way, bx)) (l ++ [S]) := fun T hT => by
        rcases List.mem_append.mp hT with hT | hT
        · rw [hW3 T hT]; exact hW T hT
        · rw [List.mem_singleton.mp hT, putW_same]; exact hw
      rw [e1]
      rcases hB with ⟨rfl, rfl⟩ | ⟨T, hT, rfl, hmin⟩
      · refine ⟨true, rfl, iteT ⟨rfl, _, _, _, _, rfl, hW2, .inr ⟨S, by simp, rfl, fun T hT => ?_⟩⟩⟩
        rw [List.mem_singleton.mp hT]
        exact Rat.le_refl
      · refine ⟨false, rfl, iteF ?_⟩
        simp only [SSeq, SNil, SIf, SRet, SSet, SAsg, SPar, SMuL, SApp, SExt, SPut, SFz, frzR, SNo, TVar, TC, TOp, TB, TNil, TCons, TTup, TLst, TKey, oIx, seqOf, TAnd, TOr, TNot, TAndV, TOrV, TNotV, TIf, TCB, cLen, cAbs, cMax2, cMin2, cAll, cList, cTuple, cInt, TIsi, isD, tyD, TCall, TChain, TLc, TLc0, SFor, ISeq, IRg1, IRg2, IZip, TSl, TPs, TPn, slD, cut1, opII, opI0, TNeg, oAdd, oIsN, oNotN, oIsB, opEq, eqD, getS, startR, GName, GNil, GCons, GTup, List.map_cons, List.map_nil, List.length_cons, List.length_nil, List.cons_append, List.nil_append, List.set_cons_zero, List.set_cons_succ, List.replicate, List.append_nil, Option.map_some, Bool.not_true, Bool.not_false, Bool.false_eq_true, if_true, if_false, ite_true, ite_false, reduceIte, Nat.sub_self, Nat.reduceAdd, Nat.reduceSub, Bool.or_true, Bool.or_false, Bool.true_or, Bool.false_or, Bool.and_true, Bool.and_false, decide_true, decide_false, List.getElem?_cons_zero, List.getElem?_cons_succ, Option.some.injEq, exists_eq_left', exists_eq_left, true_and, and_true, at0, at1, at2, at3, List.length_map, List.cons.injEq, Int.cast_ofNat_Int, Int.reduceEq, Int.reduceLT, Int.reduceLE, D.int.injEq, D.str.injEq, D.bl.injEq, D.tup.injEq, D.lst.injEq, exists_const, Int.zero_add, Nat.zero_add, Int.natCast_add, Int.natCast_one, Int.reduceAdd, TTabM]
        refine ⟨_, lookT_map (List.mem_append_right _ (List.mem_singleton.mpr rfl)), ?_⟩
        simp only [SSeq, SNil, SIf, SRet, SSet, SAsg, SPar, SMuL, SApp, SExt, SPut, SFz, frzR, SNo, TVar, TC, TOp, TB, TNil, TCons, TTup, TLst, TKey, oIx, seqOf, TAnd, TOr, TNot, TAndV, TOrV, TNotV, TIf, TCB, cLen, cAbs, cMax2, cMin2, cAll, cList, cTuple, cInt, TIsi, isD, tyD, TCall, TChain, TLc, TLc0, SFor, ISeq, IRg1, IRg2, IZip, TSl, TPs, TPn, slD, cut1, opII, opI0, TNeg, oAdd, oIsN, oNotN, oIsB, opEq, eqD, getS, startR, GName, GNil, GCons, GTup, List.map_cons, List.map_nil, List.length_cons, List.length_nil, List.cons_append, List.nil_append, List.set_cons_zero, List.set_cons_succ, List.replicate, List.append_nil, Option.map_some, Bool.not_true, Bool.not_false, Bool.false_eq_true, if_true, if_false, ite_true, ite_false, reduceIte, Nat.sub_self, Nat.reduceAdd, Nat.reduceSub, Bool.or_true, Bool.or_false, Bool.true_or, Bool.false_or, Bool.and_true, Bool.and_false, decide_true, decide_false, List.getElem?_cons_zero, List.getElem?_cons_succ, Option.some.injEq, exists_eq_left', exists_eq_left, true_and, and_true, at0, at1, at2, at3, List.length_map, List.cons.injEq, Int.cast_ofNat_Int, Int.reduceEq, Int.reduceLT, Int.reduceLE, D.int.injEq, D.str.injEq, D.bl.injEq, D.tup.injEq, D.lst.injEq, exists_const, Int.zero_add, Nat.zero_add, Int.natCast_add, Int.natCast_one, Int.reduceAdd, worstD, putW_same]
        refine ⟨_, lookT_map (List.mem_append_left _ hT), ?_⟩
        simp only [SSeq, SNil, SIf, SRet, SSet, SAsg, SPar, SMuL, SApp, SExt, SPut, SFz, frzR, SNo, TVar, TC, TOp, TB, TNil, TCons, TTup, TLst, TKey, oIx, seqOf, TAnd, TOr, TNot, TAndV, TOrV, TNotV, TIf, TCB, cLen, cAbs, cMax2, cMin2, cAll, cList, cTuple, cInt, TIsi, isD, tyD, TCall, TChain, TLc, TLc0, SFor, ISeq, IRg1, IRg2, IZip, TSl, TPs, TPn, slD, cut1, opII, opI0, TNeg, oAdd, oIsN, oNotN, oIsB, opEq, eqD, getS, startR, GName, GNil, GCons, GTup, List.map_cons, List.map_nil, List.length_cons, List.length_nil, List.cons_append, List.nil_append, List.set_cons_zero, List.set_cons_succ, List.replicate, List.append_nil, Option.map_some, Bool.not_true, Bool.not_false, Bool.false_eq_true, if_true, if_false, ite_true, ite_false, reduceIte, Nat.sub_self, Nat.reduceAdd, Nat.reduceSub, Bool.or_true, Bool.or_false, Bool.true_or, Bool.false_or, Bool.and_true, Bool.and_false, decide_true, decide_false, List.getElem?_cons_zero, List.getElem?_cons_succ, Option.some.injEq, exists_eq_left', exists_eq_left, true_and, and_true, at0, at1, at2, at3, List.length_map, List.cons.injEq, Int.cast_ofNat_Int, Int.reduceEq, Int.reduceLT, Int.reduceLE, D.int.injEq, D.str.injEq, D.bl.injEq, D.tup.injEq, D.lst.injEq, exists_const, Int.zero_add, Nat.zero_add, Int.natCast_add, Int.natCast_one, Int.reduceAdd, worstD, sp_is_below, hW3 T hT]
        refine ⟨q, (W T).1, ⟨rfl, rfl⟩, by omega, by have := hall T hT; omega, ite2 (fun hb => ?_) (fun hb => ?_)⟩
        · simp at hb
          refine ⟨rfl, _, _, _, _, rfl, hW2, .inr ⟨S, by simp, rfl, fun U hU => ?_⟩⟩
          rw [putW_same]
          rcases List.mem_append.mp hU with hU | hU
          · rw [hW3 U hU]; exact Rat.le_trans (Rat.le_of_lt hb) (hmin U hU)
          · rw [List.mem_singleton.mp hU, putW_same]; exact Rat.le_refl
        · simp at hb
          refine ⟨rfl, _, _, _, _, rfl, hW2, .inr ⟨T, List.mem_append_left _ hT, rfl, fun U hU => ?_⟩⟩
          rw [hW3 T hT]
          rcases List.mem_append.mp hU with hU | hU
          · rw [hW3 U hU]; exact hmin U hU
          · rw [List.mem_singleton.mp hU, putW_same]; exact Rat.not_lt.mp hb
  · rintro ρ n' ⟨rfl, W, best, a, b, rfl, hW, hB⟩
    rw [List.take_length] at hW hB
    simp only [SSeq, SNil, SIf, SRet, SSet, SAsg, SPar, SMuL, SApp, SExt, SPut, SFz, frzR, SNo, TVar, TC, TOp, TB, TNil, TCons, TTup, TLst, TKey, oIx, seqOf, TAnd, TOr, TNot, TAndV, TOrV, TNotV, TIf, TCB, cLen, cAbs, cMax2, cMin2, cAll, cList, cTuple, cInt, TIsi, isD, tyD, TCall, TChain, TLc, TLc0, SFor, ISeq, IRg1, IRg2, IZip, TSl, TPs, TPn, slD, cut1, opII, opI0, TNeg, oAdd, oIsN, oNotN, oIsB, opEq, eqD, getS, startR, GName, GNil, GCons, GTup, List.map_cons, List.map_nil, List.length_cons, List.length_nil, List.cons_append, List.nil_append, List.set_cons_zero, List.set_cons_succ, List.replicate, List.append_nil, Option.map_some, Bool.not_true, Bool.not_false, Bool.false_eq_true, if_true, if_false, ite_true, ite_false, reduceIte, Nat.sub_self, Nat.reduceAdd, Nat.reduceSub, Bool.or_true, Bool.or_false, Bool.true_or, Bool.false_or, Bool.and_true, Bool.and_false, decide_true, decide_false, List.getElem?_cons_zero, List.getElem?_cons_succ, Option.some.injEq, exists_eq_left', exists_eq_left, true_and, and_true, at0, at1, at2, at3, List.length_map, List.cons.injEq, Int.cast_ofNat_Int, Int.reduceEq, Int.reduceLT, Int.reduceLE, D.int.injEq, D.str.injEq, D.bl.injEq, D.tup.injEq, D.lst.injEq, exists_const, Int.zero_add, Nat.zero_add, Int.natCast_add, Int.natCast_one, Int.reduceAdd, MO.d]
    rw [List.take_length]
    rcases hB with ⟨rfl, e⟩ | ⟨S, hS, rfl, hmin⟩
    · exfalso
      have : (rgI 0 (m : Int)) ∈ setsI (prodL gs).length m := mem_setsI.mpr ⟨by rw [rgI_length]; omega, inc_up (inc_rg _ rfl (Int.le_refl _)) (by omega)⟩
      rw [e] at this
      cases this
    · refine ⟨_, lookT_map hS, ?_⟩
      simp only [SSeq, SNil, SIf, SRet, SSet, SAsg, SPar, SMuL, SApp, SExt, SPut, SFz, frzR, SNo, TVar, TC, TOp, TB, TNil, TCons, TTup, TLst, TKey, oIx, seqOf, TAnd, TOr, TNot, TAndV, TOrV, TNotV, TIf, TCB, cLen, cAbs, cMax2, cMin2, cAll, cList, cTuple, cInt, TIsi, isD, tyD, TCall, TChain, TLc, TLc0, SFor, ISeq, IRg1, IRg2, IZip, TSl, TPs, TPn, slD, cut1, opII, opI0, TNeg, oAdd, oIsN, oNotN, oIsB, opEq, eqD, getS, startR, GName, GNil, GCons, GTup, List.map_cons, List.map_nil, List.length_cons, List.length_nil, List.cons_append, List.nil_append, List.set_cons_zero, List.set_cons_succ, List.replicate, List.append_nil, Option.map_some, Bool.not_true, Bool.not_false, Bool.false_eq_true, if_true, if_false, ite_true, ite_false, reduceIte, Nat.sub_self, Nat.reduceAdd, Nat.reduceSub, Bool.or_true, Bool.or_false, Bool.true_or, Bool.false_or, Bool.and_true, Bool.and_false, decide_true, decide_false, List.getElem?_cons_zero, List.getElem?_cons_succ, Option.some.injEq, exists_eq_left', exists_eq_left, true_and, and_true, at0, at1, at2, at3, List.length_map, List.cons.injEq, Int.cast_ofNat_Int, Int.reduceEq, Int.reduceLT, Int.reduceLE, D.int.injEq, D.str.injEq, D.bl.injEq, D.tup.injEq, D.lst.injEq, exists_const, Int.zero_add, Nat.zero_add, Int.natCast_add, Int.natCast_one, Int.reduceAdd, worstD]
      refine ⟨Nat.zero_le _, [], rfl, (prodL gs).length, m, W, [], 0, rfl, trivial, by omega, by omega, hg.len, Nat.zero_le _, (by show (m : Int) ≤ ((0 : Nat) : Int) + (((prodL gs).length : Int) - 0); omega), (by have := hg.len; show ((prodL gs).length : Int) - 0 ≤ ((9 : Nat) : Int); omega), sz8 (by omega), ?_⟩
      exact h W S hW hS hmin
end
end Pu

/-! W5: what a paper's leaf shows. -/
namespace Pu
open PySem PySem.Spec PyProof.Rows L2
def shB (r : List D) : D → Bool
  | .str z => match thingsOf z with
    | some i => decide ((r.length : Int) + 1 = i)
    | none => false
  | _ => false
def isShaped : D → Bool
  | .tup (a :: r) => shB r a
  | _ => false
/-- places and some of them -/
structure OkPl (pl : List (List Rat)) (ks : List Int) : Prop where
  len : ks.length ≤ 8
  at_ : ∀ k ∈ ks, 0 ≤ k ∧ k < pl.length
  den : ∀ xs ∈ pl, ∀ x ∈ xs, x.den ≤ 1000
def lyN (pl : List (List Rat)) (ks : List Int) (qs : List Rat) (way : Str) : Nat := (ks.filter fun k => inB (pl.getD k.toNat []) qs way).length
def overCnt (pl : List (List Rat)) (m : Nat) (tk fr_ : List Int) (qs : List Rat) : Int :=
  let i : Int := lyN pl tk qs "shut"
  let o : Int := m - ((tk.length : Int) + fr_.length - i - lyN pl fr_ qs "shut")
  if i < o then o else i
def lackCnt (pl : List (List Rat)) (m : Nat) (tk fr_ : List Int) (qs : List Rat) : Int :=
  let i : Int := lyN pl tk qs "open"
  let o : Int := m - ((tk.length : Int) - i)
  if o < i + lyN pl fr_ qs "open" then o else i + lyN pl fr_ qs "open"
def overBy (pl : List (List Rat)) (m : Nat) (tk fr_ : List Int) (qs : List Rat) : Rat := mkRat (overCnt pl m tk fr_ qs) m - sizeQ qs
def lackBy (pl : List (List Rat)) (m : Nat) (tk fr_ : List Int) (qs : List Rat) : Rat := sizeQ qs - mkRat (lackCnt pl m tk fr_ qs) m
def intsD (ks : List Int) : D := .lst (ks.map D.int)
abbrev k_is_shaped : Nat := 1
def sp_is_shaped : PSp := fun ds n P => ∃ k d, ds = [d] ∧ OkT k d ∧ P (.bl (isShaped d)) n
abbrev k_lying : Nat := 5
def sp_lying : PSp := fun ds n P => ∃ pl ks qs way, ds = [.tup (pl.map ptD), intsD ks, boxD qs, .str way] ∧ OkPl pl ks ∧ OkBox qs ∧ P (.int (lyN pl ks qs way)) n
abbrev k_over_by : Nat := 6
def sp_over_by : PSp := fun ds n P => ∃ (pl : List (List Rat)) (m : Nat) (tk fr_ : List Int) (qs : List Rat), ds = [.tup (pl.map ptD), .int m, intsD tk, intsD fr_, boxD qs] ∧ OkPl pl tk ∧ OkPl pl fr_ ∧ OkBox qs ∧ 1 ≤ m ∧ m ≤ 3 ∧ P (fr (overBy pl m tk fr_ qs)) n
abbrev k_lack_by : Nat := 6
def sp_lack_by : PSp := fun ds n P => ∃ (pl : List (List Rat)) (m : Nat) (tk fr_ : List Int) (qs : List Rat), ds = [.tup (pl.map ptD), .int m, intsD tk, intsD fr_, boxD qs] ∧ OkPl pl tk ∧ OkPl pl fr_ ∧ OkBox qs ∧ 1 ≤ m ∧ m ≤ 3 ∧ P (fr (lackBy pl m tk fr_ qs)) n
theorem len_is_shaped : ∀ ds n P, sp_is_shaped ds n P → ds.length = (["thing"] : List Str).length := by rintro _ n P ⟨_, _, rfl, _⟩; rfl
theorem len_lying : ∀ ds n P, sp_lying ds n P → ds.length = (["places", "some", "box", "way"] : List Str).length := by rintro _ n P ⟨_, _, _, _, rfl, _⟩; rfl
theorem len_over_by : ∀ ds n P, sp_over_by ds n P → ds.length = (["places", "many", "taken", "free", "box"] : List Str).length := by rintro _ n P ⟨_, _, _, _, _, rfl, _⟩; rfl
theorem len_lack_by : ∀ ds n P, sp_lack_by ds n P → ds.length = (["places", "many", "taken", "free", "box"] : List Str).length := by rintro _ n P ⟨_, _, _, _, _, rfl, _⟩; rfl
section
variable {Pr : Program} {w : World} {K : PySem.W.Frag} {mg : Str → Option Value} {base : Heap}
abbrev s_is_shaped : Stmt := top 55
theorem sc_is_shaped : FnScope ["thing"] ["thing"] (defScope s_is_shaped) := ⟨rfl, rfl, rfl, by decide +kernel, rfl, by decide +kernel, by decide +kernel⟩
theorem ok_is_shaped (F0 : Df K mg "is_shaped" s_is_shaped) (B : Bt mg) (C : Cs K w mg)  : Has Pr w K mg base "is_shaped" ["thing"] k_is_shaped sp_is_shaped := by
  have sc := sc_is_shaped
  refine has_mk (k := _) F0 sc (fun _ _ _ _ _ _ us hl => match us, hl with | [_], _ => rfl) len_is_shaped (fun f cdv A outer s H E hr => ⟨_,
    (bCons (sIf (bW (wOr (bNot (bVal (vIsi (T := "tuple") (by decide) B.isi B.tuple (vN 0)))) (wOr (bEq hr (vLen B.len (aCons (vN 0) aNil)) vI) (wOr1 (bNot (bVal (vIsi (T := "str") (by decide) B.isi B.str (vIx (vN 0) vI))))))))
      (bOne (sRet vB))
      bNil)
    (bOne (sRet (vAnd (vInTab C.thingsX (vIx (vN 0) vI)) (v1 (vEq hr (vLen B.len (aCons (vN 0) aNil)) (vTabAt C.thingsX (vIx (vN 0) vI)))))))), ?_⟩)
  rintro _ n P ⟨k, d, rfl, hd, h⟩
  refine okT_cases (C := fun d => P (.bl (isShaped d)) n → SSeq _ _ _ (startR _ [d]) n) hd (fun h => h) (fun _ h => h) (fun _ _ _ h => h) (fun _ h => h) (fun ds hd h => ?_) (fun ds hd h => h) h
  match ds, hd, h with
  | [], _, h => simp only [SSeq, SNil, SIf, SRet, SSet, SAsg, SPar, SMuL, SApp, SExt, SPut, SFz, frzR, SNo, TVar, TC, TOp, TB, TNil, TCons, TTup, TLst, TKey, oIx, seqOf, TAnd, TOr, TNot, TAndV, TOrV, TNotV, TIf, TCB, cLen, cAbs, cMax2, cMin2, cAll, cList, cTuple, cInt, TIsi, isD, tyD, TCall, TChain, TLc, TLc0, SFor, ISeq, IRg1, IRg2, IZip, TSl, TPs, TPn, slD, cut1, opII, opI0, TNeg, oAdd, oIsN, oNotN, oIsB, opEq, eqD, getS, startR, GName, GNil, GCons, GTup, List.map_cons, List.map_nil, List.length_cons, List.length_nil, List.cons_append, List.nil_append, List.set_cons_zero, List.set_cons_succ, List.replicate, List.append_nil, Option.map_some, Bool.not_true, Bool.not_false, Bool.false_eq_true, if_true, if_false, ite_true, ite_false, reduceIte, Nat.sub_self, Nat.reduceAdd, Nat.reduceSub, Bool.or_true, Bool.or_false, Bool.true_or, Bool.false_or, Bool.and_true, Bool.and_false, decide_true, decide_false, List.getElem?_cons_zero, List.getElem?_cons_succ, Option.some.injEq, exists_eq_left', exists_eq_left, true_and, and_true, at0, at1, at2, at3, List.length_map, List.cons.injEq, Int.cast_ofNat_Int, Int.reduceEq, Int.reduceLT, Int.reduceLE, D.int.injEq, D.str.injEq, D.bl.injEq, D.tup.injEq, D.lst.injEq, exists_const, Int.zero_add, Nat.zero_add, Int.natCast_add, Int.natCast_one, Int.reduceAdd]; exact h
  | a :: r, hd, h =>
    have e0 : decide ((r.length : Int) + 1 = 0) = false := by rw [decide_eq_false_iff_not]; omega
    cases a with
    | str z =>
      simp only [SSeq, SNil, SIf, SRet, SSet, SAsg, SPar, SMuL, SApp, SExt, SPut, SFz, frzR, SNo, TVar, TC, TOp, TB, TNil, TCons, TTup, TLst, TKey, oIx, seqOf, TAnd, TOr, TNot, TAndV, TOrV, TNotV, TIf, TCB, cLen, cAbs, cMax2, cMin2, cAll, cList, cTuple, cInt, TIsi, isD, tyD, TCall, TChain, TLc, TLc0, SFor, ISeq, IRg1, IRg2, IZip, TSl, TPs, TPn, slD, cut1, opII, opI0, TNeg, oAdd, oIsN, oNotN, oIsB, opEq, eqD, getS, startR, GName, GNil, GCons, GTup, List.map_cons, List.map_nil, List.length_cons, List.length_nil, List.cons_append, List.nil_append, List.set_cons_zero, List.set_cons_succ, List.replicate, List.append_nil, Option.map_some, Bool.not_true, Bool.not_false, Bool.false_eq_true, if_true, if_false, ite_true, ite_false, reduceIte, Nat.sub_self, Nat.reduceAdd, Nat.reduceSub, Bool.or_true, Bool.or_false, Bool.true_or, Bool.false_or, Bool.and_true, Bool.and_false, decide_true, decide_false, List.getElem?_cons_zero, List.getElem?_cons_succ, Option.some.injEq, exists_eq_left', exists_eq_left, true_and, and_true, at0, at1, at2, at3, List.length_map, List.cons.injEq, Int.cast_ofNat_Int, Int.reduceEq, Int.reduceLT, Int.reduceLE, D.int.injEq, D.str.injEq, D.bl.injEq, D.tup.injEq, D.lst.injEq, exists_const, Int.zero_add, Nat.zero_add, Int.natCast_add, Int.natCast_one, Int.reduceAdd, e0, TInTab, TTabAt]
      have e : isShaped (.tup (.str z :: r)) = (match thingsOf z with
        | some i => decide ((r.length : Int) + 1 = i)
        | none => false) := rfl
      rw [e] at h
      cases q : thingsOf z with
      | none => rw [q] at h; exact iteF h
      | some i => rw [q] at h; exact iteT ⟨i, rfl, h⟩
    | key _ => exact absurd ((okT_at hd).2 _ List.mem_cons_self) okT_key
    | tape => exact absurd ((okT_at hd).2 _ List.mem_cons_self).plain (by decide)
    | obj _ _ _ => exact absurd ((okT_at hd).2 _ List.mem_cons_self).plain (by simp [D.plain])
    | tab _ _ => exact absurd ((okT_at hd).2 _ List.mem_cons_self).plain (by simp [D.plain])
    | raw _ => exact absurd ((okT_at hd).2 _ List.mem_cons_self).plain (by simp [D.plain])
    | _ => simp only [SSeq, SNil, SIf, SRet, SSet, SAsg, SPar, SMuL, SApp, SExt, SPut, SFz, frzR, SNo, TVar, TC, TOp, TB, TNil, TCons, TTup, TLst, TKey, oIx, seqOf, TAnd, TOr, TNot, TAndV, TOrV, TNotV, TIf, TCB, cLen, cAbs, cMax2, cMin2, cAll, cList, cTuple, cInt, TIsi, isD, tyD, TCall, TChain, TLc, TLc0, SFor, ISeq, IRg1, IRg2, IZip, TSl, TPs, TPn, slD, cut1, opII, opI0, TNeg, oAdd, oIsN, oNotN, oIsB, opEq, eqD, getS, startR, GName, GNil, GCons, GTup, List.map_cons, List.map_nil, List.length_cons, List.length_nil, List.cons_append, List.nil_append, List.set_cons_zero, List.set_cons_succ, List.replicate, List.append_nil, Option.map_some, Bool.not_true, Bool.not_false, Bool.false_eq_true, if_true, if_false, ite_true, ite_false, reduceIte, Nat.sub_self, Nat.reduceAdd, Nat.reduceSub, Bool.or_true, Bool.or_false, Bool.true_or, Bool.false_or, Bool.and_true, Bool.and_false, decide_true, decide_false, List.getElem?_cons_zero, List.getElem?_cons_succ, Option.some.injEq, exists_eq_left', exists_eq_left, true_and, and_true, at0, at1, at2, at3, List.length_map, List.cons.injEq, Int.cast_ofNat_Int, Int.reduceEq, Int.reduceLT, Int.reduceLE, D.int.injEq, D.str.injEq, D.bl.injEq, D.tup.injEq, D.lst.injEq, exists_const, Int.zero_add, Nat.zero_add, Int.natCast_add, Int.natCast_one, Int.reduceAdd, e0]; exact h
abbrev s_lying : Stmt := top 56
theorem sc_lying : FnScope ["places", "some", "box", "way", "k"] ["places", "some", "box", "way"] (defScope s_lying) := ⟨rfl, rfl, rfl, by decide +kernel, rfl, by decide +kernel, by decide +kernel⟩
theorem ok_lying (F0 : Df K mg "lying" s_lying) (B : Bt mg) (C : Cs K w mg) (h_lies_in : Has Pr w K mg base "lies_in" ["point", "box", "way"] k_lies_in sp_lies_in) : Has Pr w K mg base "lying" ["places", "some", "box", "way"] k_lying sp_lying := by
  have sc := sc_lying
  refine has_mk (k := _) F0 sc (fun _ _ _ _ _ _ us hl => match us, hl with | [_, _, _, _], _ => rfl) len_lying (fun f cdv A outer s H E hr => ⟨_,
    (bOne (sRet (vLen B.len (aCons (vLc (own := [("k", 4)]) sc.nd (iL (vN 1)) (fun _ _ _ _ _ => (gN 4 sc.nd)) (fun _ _ _ _ _ => t1 (bVal (vCall h_lies_in hr (aCons (vIx (vN 0) (vN 4)) (aCons (vN 2) (aCons (vN 3) aNil)))))) (fun _ _ _ _ _ => (vN 4))) aNil)))), ?_⟩)
  rintro _ n P ⟨pl, ks, qs, way, rfl, hp, hq, h⟩
  simp only [SSeq, SNil, SIf, SRet, SSet, SAsg, SPar, SMuL, SApp, SExt, SPut, SFz, frzR, SNo, TVar, TC, TOp, TB, TNil, TCons, TTup, TLst, TKey, oIx, seqOf, TAnd, TOr, TNot, TAndV, TOrV, TNotV, TIf, TCB, cLen, cAbs, cMax2, cMin2, cAll, cList, cTuple, cInt, TIsi, isD, tyD, TCall, TChain, TLc, TLc0, SFor, ISeq, IRg1, IRg2, IZip, TSl, TPs, TPn, slD, cut1, opII, opI0, TNeg, oAdd, oIsN, oNotN, oIsB, opEq, eqD, getS, startR, GName, GNil, GCons, GTup, List.map_cons, List.map_nil, List.length_cons, List.length_nil, List.cons_append, List.nil_append, List.set_cons_zero, List.set_cons_succ, List.replicate, List.append_nil, Option.map_some, Bool.not_true, Bool.not_false, Bool.false_eq_true, if_true, if_false, ite_true, ite_false, reduceIte, Nat.sub_self, Nat.reduceAdd, Nat.reduceSub, Bool.or_true, Bool.or_false, Bool.true_or, Bool.false_or, Bool.and_true, Bool.and_false, decide_true, decide_false, List.getElem?_cons_zero, List.getElem?_cons_succ, Option.some.injEq, exists_eq_left', exists_eq_left, true_and, and_true, at0, at1, at2, at3, List.length_map, List.cons.injEq, Int.cast_ofNat_Int, Int.reduceEq, Int.reduceLT, Int.reduceLE, D.int.injEq, D.str.injEq, D.bl.injEq, D.tup.injEq, D.lst.injEq, exists_const, Int.zero_add, Nat.zero_add, Int.natCast_add, Int.natCast_one, Int.reduceAdd, intsD]
  refine lc_filtF ks D.int (fun k => inB (pl.getD k.toNat []) qs way) D.int (sz8 hp.len) (fun k hk Q Q0 h1 h2 => ?_) (by rw [List.length_map]; exact h)
  obtain ⟨k0, k1⟩ := hp.at_ k hk
  have hk2 : k.toNat < pl.length := by omega
  have ek : k = (k.toNat : Int) := by omega
  simp only [SSeq, SNil, SIf, SRet, SSet, SAsg, SPar, SMuL, SApp, SExt, SPut, SFz, frzR, SNo, TVar, TC, TOp, TB, TNil, TCons, TTup, TLst, TKey, oIx, seqOf, TAnd, TOr, TNot, TAndV, TOrV, TNotV, TIf, TCB, cLen, cAbs, cMax2, cMin2, cAll, cList, cTuple, cInt, TIsi, isD, tyD, TCall, TChain, TLc, TLc0, SFor, ISeq, IRg1, IRg2, IZip, TSl, TPs, TPn, slD, cut1, opII, opI0, TNeg, oAdd, oIsN, oNotN, oIsB, opEq, eqD, getS, startR, GName, GNil, GCons, GTup, List.map_cons, List.map_nil, List.length_cons, List.length_nil, List.cons_append, List.nil_append, List.set_cons_zero, List.set_cons_succ, List.replicate, List.append_nil, Option.map_some, Bool.not_true, Bool.not_false, Bool.false_eq_true, if_true, if_false, ite_true, ite_false, reduceIte, Nat.sub_self, Nat.reduceAdd, Nat.reduceSub, Bool.or_true, Bool.or_false, Bool.true_or, Bool.false_or, Bool.and_true, Bool.and_false, decide_true, decide_false, List.getElem?_cons_zero, List.getElem?_cons_succ, Option.some.injEq, exists_eq_left', exists_eq_left, true_and, and_true, at0, at1, at2, at3, List.length_map, List.cons.injEq, Int.cast_ofNat_Int, Int.reduceEq, Int.reduceLT, Int.reduceLE, D.int.injEq, D.str.injEq, D.bl.injEq, D.tup.injEq, D.lst.injEq, exists_const, Int.zero_add, Nat.zero_add, Int.natCast_add, Int.natCast_one, Int.reduceAdd, wipeR, sp_lies_in]
  refine ⟨ptD (pl.getD k.toNat []), ?_, pl.getD k.toNat [], qs, way, ⟨rfl, rfl, rfl⟩, hq, ?_, ?_⟩
  · rw [ek, atI_nat, List.getElem?_map, Int.toNat_natCast, List.getElem?_eq_getElem hk2, List.getD_eq_getElem?_getD, List.getElem?_eq_getElem hk2]
    rfl
  · rw [List.getD_eq_getElem?_getD, List.getElem?_eq_getElem hk2]
    exact hp.den _ (List.getElem_mem hk2)
  · cases e : inB (pl.getD k.toNat []) qs way
    · exact iteF (h2 e)
    · exact iteT (h1 e)
abbrev s_over_by : Stmt := top 57
theorem sc_over_by : FnScope ["places", "many", "taken", "free", "box", "inside", "outside"] ["places", "many", "taken", "free", "box"] (defScope s_over_by) := ⟨rfl, rfl, rfl, by decide +kernel, rfl, by decide +kernel, by decide +kernel⟩
theorem ok_over_by (F0 : Df K mg "over_by" s_over_by) (B : Bt mg) (C : Cs K w mg) (h_less : Has Pr w K mg base "less" ["one", "other"] k_less sp_less) (h_size_of : Has Pr w K mg base "size_of" ["box"] k_size_of sp_size_of) (h_fraction : Has Pr w K mg base "fraction" ["top", "bottom"] k_fraction sp_fraction) (h_lying : Has Pr w K mg base "lying" ["places", "some", "box", "way"] k_lying sp_lying) : Has Pr w K mg base "over_by" ["places", "many", "taken", "free", "box"] k_over_by sp_over_by := by
  have sc := sc_over_by
  refine has_mk (k := _) F0 sc (fun _ _ _ _ _ _ us hl => match us, hl with | [_, _, _, _, _], _ => rfl) len_over_by (fun f cdv A outer s H E hr => ⟨_,
    (bCons (sSet 5 sc.nd (vCall h_lying hr (aCons (vN 0) (aCons (vN 2) (aCons (vN 4) (aCons vS aNil))))))
    (bCons (sSet 6 sc.nd (vSub (vSub (vAdd (vLen B.len (aCons (vN 2) aNil)) (vLen B.len (aCons (vN 3) aNil))) (vN 5)) (vCall h_lying hr (aCons (vN 0) (aCons (vN 3) (aCons (vN 4) (aCons vS aNil)))))))
    (bOne (sRet (vCall h_less hr (aCons (vCall h_fraction hr (aCons (vMax2 B.max (aCons (vN 5) (aCons (vSub (vN 1) (vN 6)) aNil))) (aCons (vN 1) aNil))) (aCons (vCall h_size_of hr (aCons (vN 4) aNil)) aNil))))))), ?_⟩)
  rintro _ n P ⟨pl, m, tk, fr_, qs, rfl, ht, hf, hq, h1, h3, h⟩
  simp only [SSeq, SNil, SIf, SRet, SSet, SAsg, SPar, SMuL, SApp, SExt, SPut, SFz, frzR, SNo, TVar, TC, TOp, TB, TNil, TCons, TTup, TLst, TKey, oIx, seqOf, TAnd, TOr, TNot, TAndV, TOrV, TNotV, TIf, TCB, cLen, cAbs, cMax2, cMin2, cAll, cList, cTuple, cInt, TIsi, isD, tyD, TCall, TChain, TLc, TLc0, SFor, ISeq, IRg1, IRg2, IZip, TSl, TPs, TPn, slD, cut1, opII, opI0, TNeg, oAdd, oIsN, oNotN, oIsB, opEq, eqD, getS, startR, GName, GNil, GCons, GTup, List.map_cons, List.map_nil, List.length_cons, List.length_nil, List.cons_append, List.nil_append, List.set_cons_zero, List.set_cons_succ, List.replicate, List.append_nil, Option.map_some, Bool.not_true, Bool.not_false, Bool.false_eq_true, if_true, if_false, ite_true, ite_false, reduceIte, Nat.sub_self, Nat.reduceAdd, Nat.reduceSub, Bool.or_true, Bool.or_false, Bool.true_or, Bool.false_or, Bool.and_true, Bool.and_false, decide_true, decide_false, List.getElem?_cons_zero, List.getElem?_cons_succ, Option.some.injEq, exists_eq_left', exists_eq_left, true_and, and_true, at0, at1, at2, at3, List.length_map, List.cons.injEq, Int.cast_ofNat_Int, Int.reduceEq, Int.reduceLT, Int.reduceLE, D.int.injEq, D.str.injEq, D.bl.injEq, D.tup.injEq, D.lst.injEq, exists_const, Int.zero_add, Nat.zero_add, Int.natCast_add, Int.natCast_one, Int.reduceAdd, sp_lying, sp_fraction, sp_size_of, sp_less, intsD]
  refine ⟨pl, tk, qs, _, ⟨rfl, rfl, rfl, rfl⟩, ht, hq, pl, fr_, qs, _, ⟨rfl, rfl, rfl, rfl⟩, hf, hq, overCnt pl m tk fr_ qs, m, ⟨rfl, rfl⟩, by omega, by omega, qs, rfl, hq, _, _, ⟨rfl, rfl⟩, ?_, h⟩
  have d1 := mkRat_den (overCnt pl m tk fr_ qs) m (by omega)
  have := Nat.mul_le_mul (Nat.le_trans d1 h3) (sizeQ_fine hq).den
  omega
abbrev s_lack_by : Stmt := top 58
theorem sc_lack_by : FnScope ["places", "many", "taken", "free", "box", "inside", "perhaps"] ["places", "many", "taken", "free", "box"] (defScope s_lack_by) := ⟨rfl, rfl, rfl, by decide +kernel, rfl, by decide +kernel, by decide +kernel⟩
theorem ok_lack_by (F0 : Df K mg "lack_by" s_lack_by) (B : Bt mg) (C : Cs K w mg) (h_less : Has Pr w K mg base "less" ["one", "other"] k_less sp_less) (h_fraction : Has Pr w K mg base "fraction" ["top", "bottom"] k_fraction sp_fraction) (h_size_of : Has Pr w K mg base "size_of" ["box"] k_size_of sp_size_of) (h_lying : Has Pr w K mg base "lying" ["places", "some", "box", "way"] k_lying sp_lying) : Has Pr w K mg base "lack_by" ["places", "many", "taken", "free", "box"] k_lack_by sp_lack_by := by
  have sc := sc_lack_by
  refine has_mk (k := _) F0 sc (fun _ _ _ _ _ _ us hl => match us, hl with | [_, _, _, _, _], _ => rfl) len_lack_by (fun f cdv A outer s H E hr => ⟨_,
    (bCons (sSet 5 sc.nd (vCall h_lying hr (aCons (vN 0) (aCons (vN 2) (aCons (vN 4) (aCons vS aNil))))))
    (bCons (sSet 6 sc.nd (vMin2 B.min (aCons (vAdd (vN 5) (vCall h_lying hr (aCons (vN 0) (aCons (vN 3) (aCons (vN 4) (aCons vS aNil)))))) (aCons (vSub (vN 1) (vSub (vLen B.len (aCons (vN 2) aNil)) (vN 5))) aNil))))
    (bOne (sRet (vCall h_less hr (aCons (vCall h_size_of hr (aCons (vN 4) aNil)) (aCons (vCall h_fraction hr (aCons (vN 6) (aCons (vN 1) aNil))) aNil))))))), ?_⟩)
  rintro _ n P ⟨pl, m, tk, fr_, qs, rfl, ht, hf, hq, h1, h3, h⟩
  simp only [SSeq, SNil, SIf, SRet, SSet, SAsg, SPar, SMuL, SApp, SExt, SPut, SFz, frzR, SNo, TVar, TC, TOp, TB, TNil, TCons, TTup, TLst, TKey, oIx, seqOf, TAnd, TOr, TNot, TAndV, TOrV, TNotV, TIf, TCB, cLen, cAbs, cMax2, cMin2, cAll, cList, cTuple, cInt, TIsi, isD, tyD, TCall, TChain, TLc, TLc0, SFor, ISeq, IRg1, IRg2, IZip, TSl, TPs, TPn, slD, cut1, opII, opI0, TNeg, oAdd, oIsN, oNotN, oIsB, opEq, eqD, getS, startR, GName, GNil, GCons, GTup, List.map_cons, List.map_nil, List.length_cons, List.length_nil, List.cons_append, List.nil_append, List.set_cons_zero, List.set_cons_succ, List.replicate, List.append_nil, Option.map_some, Bool.not_true, Bool.not_false, Bool.false_eq_true, if_true, if_false, ite_true, ite_false, reduceIte, Nat.sub_self, Nat.reduceAdd, Nat.reduceSub, Bool.or_true, Bool.or_false, Bool.true_or, Bool.false_or, Bool.and_true, Bool.and_false, decide_true, decide_false, List.getElem?_cons_zero, List.getElem?_cons_succ, Option.some.injEq, exists_eq_left', exists_eq_left, true_and, and_true, at0, at1, at2, at3, List.length_map, List.cons.injEq, Int.cast_ofNat_Int, Int.reduceEq, Int.reduceLT, Int.reduceLE, D.int.injEq, D.str.injEq, D.bl.injEq, D.tup.injEq, D.lst.injEq, exists_const, Int.zero_add, Nat.zero_add, Int.natCast_add, Int.natCast_one, Int.reduceAdd, sp_lying, sp_fraction, sp_size_of, sp_less, intsD]
  refine ⟨pl, tk, qs, _, ⟨rfl, rfl, rfl, rfl⟩, ht, hq, pl, fr_, qs, _, ⟨rfl, rfl, rfl, rfl⟩, hf, hq, qs, rfl, hq, lackCnt pl m tk fr_ qs, m, ⟨rfl, rfl⟩, by omega, by omega, _, _, ⟨rfl, rfl⟩, ?_, h⟩
  have d1 := mkRat_den (lackCnt pl m tk fr_ qs) m (by omega)
  have := Nat.mul_le_mul (sizeQ_fine hq).den (Nat.le_trans d1 h3)
  omega
end
end Pu

/-! W6: the checker. -/
namespace Pu
open PySem PySem.Spec PyProof.Rows L2
abbrev wkNs : List Str := ["wide", "spots", "many_of", "least_number"]
def walkV (C : Addr) (gs : List (List Rat)) (dm dn : D) : D := .obj C wkNs [.int gs.length, .tup ((prodL gs).map ptD), dm, dn]
def walkD (C : Addr) (gs : List (List Rat)) (m : Nat) (q : Rat) : D := walkV C gs (.int m) (fr q)
abbrev s_Walk_init : Stmt := inClass (top 60) 0
/-- the class Walk -/
structure WkF (K : PySem.W.Frag) (mg : Str → Option Value) (C : Addr) : Prop where
  cl : Cls K C
  glo : mg "Walk" = some (.ref C)
  n_wide : NoAttr K C "wide"
  n_spots : NoAttr K C "spots"
  n_many_of : NoAttr K C "many_of"
  n_least_number : NoAttr K C "least_number"
  ini : ∃ f fd, FunD K "__init__" "Walk.__init__" (defArgs s_Walk_init) (defBody s_Walk_init) (defScope s_Walk_init) [] [] f fd ∧ Mk K C f
def boxOf : D → Rat
  | .tup [_, x] => unfr x
  | _ => 0
def unbox : D → List Rat
  | .tup ds => ds.map boxOf
  | _ => []
def leafB (gs : List (List Rat)) (m : Nat) (q : Rat) (z : Str) (r : List D) (tk fr_ : List Int) : Bool :=
  if z = "many" then decide (m < tk.length) else if z = "few" then decide (tk.length + fr_.length < m) else match r with
  | [b] => if z = "over" then !decide (overBy (prodL gs) m tk fr_ (unbox b) < q) else !decide (lackBy (prodL gs) m tk fr_ (unbox b) < q)
  | _ => false
def goB (gs : List (List Rat)) (m : Nat) (q : Rat) : Nat → D → List Int → List Int → Bool
  | f, .tup (.str z :: r), tk, fr_ => shB r (.str z) && (if z = "take" then match f, r with
      | f + 1, [.int p, a, b] => decide (p ∈ fr_) && (goB gs m q f a (tk ++ [p]) (fr_.filter fun k => decide (k ≠ p)) && goB gs m q f b tk (fr_.filter fun k => decide (k ≠ p)))
      | _, _ => false
    else match r with
      | [b] => isCorner gs.length b && leafB gs m q z r tk fr_
      | r => leafB gs m q z r tk fr_)
  | _, _, _, _ => false
abbrev k_Walk_leaf_holds : Nat := 7
def sp_Walk_leaf_holds (C : Addr) : PSp := fun ds n P => ∃ (gs : List (List Rat)) (m : Nat) (q : Rat) (z : Str) (r : List D) (tk fr_ : List Int), ds = [walkD C gs m q, .tup (.str z :: r), intsD tk, intsD fr_] ∧
  OkG gs ∧ 1 ≤ m ∧ m ≤ 3 ∧ q.den < 2 ^ 64 ∧ OkPl (prodL gs) tk ∧ OkPl (prodL gs) fr_ ∧ (z = "many" ∨ z = "few" ∨ ∃ qs, r = [boxD qs] ∧ OkBox qs) ∧ P (.bl (leafB gs m q z r tk fr_)) n
abbrev k_Walk_go (f : Nat) : Nat := f + 10
def sp_Walk_go (C : Addr) : Nat → PSpX
  | 0 => fun _ _ _ _ => False
  | f + 1 => fun ds n P R => ∃ (k : Nat) (gs : List (List Rat)) (m : Nat) (q : Rat) (d : D) (path : List D) (tk fr_ : List Int), ds = [walkD C gs m q, d, .tup path, intsD tk, intsD fr_] ∧ OkT k d ∧
    OkG gs ∧ 1 ≤ m ∧ m ≤ 3 ∧ q.den < 2 ^ 64 ∧ OkPl (prodL gs) tk ∧ OkPl (prodL gs) fr_ ∧ tk.length + fr_.length ≤ 8 ∧ fr_.length ≤ f ∧ path.length + f ≤ 64 ∧ (if goB gs m q f d tk fr_ = true then P (.bl true) n else R n)
abbrev k_lets_least : Nat := 20
def sp_lets_least : PSpX := fun ds n P R => ∃ (k : Nat) (gs : List (List Rat)) (m : Nat) (q : Rat) (d : D), ds = [gridD gs, .int m, fr q, d] ∧ OkT k d ∧ OkG gs ∧ 1 ≤ m ∧ m ≤ 3 ∧ q.den < 2 ^ 64 ∧
  (if goB gs m q 8 d [] (rgI 0 (prodL gs).length) = true then P (.bl true) n else R n)
theorem len_Walk_leaf_holds (C : Addr) : ∀ ds n P, sp_Walk_leaf_holds C ds n P → ds.length = (["self", "thing", "taken", "free"] : List Str).length := by rintro _ n P ⟨_, _, _, _, _, _, _, rfl, _⟩; rfl
theorem len_Walk_go (C : Addr) : ∀ f ds n P R, sp_Walk_go C f ds n P R → ds.length = (["self", "thing", "path", "taken", "free"] : List Str).length
  | 0, _, _, _, _, h => h.elim
  | _ + 1, _, n, P, R, h => by obtain ⟨_, _, _, _, _, _, _, _, rfl, _⟩ := h; rfl
theorem len_lets_least : ∀ ds n P R, sp_lets_least ds n P R → ds.length = (["grid", "many", "number", "thing"] : List Str).length := by rintro _ n P R ⟨_, _, _, _, _, rfl, _⟩; rfl
theorem shaped_no {gs : List (List Rat)} {m : Nat} {q : Rat} {f : Nat} {d : D} {tk fr_ : List Int} (h : isShaped d = false) : goB gs m q f d tk fr_ = false := by
  cases d with
  | tup ds =>
    cases ds with
    | nil => cases f <;> rfl
    | cons a r =>
      cases a with
      | str z =>
        unfold goB
        rw [show shB r (.str z) = false from h]
        rfl
      | _ => cases f <;> rfl
  | _ => cases f <;> rfl
theorem shaped_cases {d : D} (h : isShaped d = true) : (∃ p a b, d = .tup [.str "take", p, a, b]) ∨ d = .tup [.str "many"] ∨ d = .tup [.str "few"] ∨ (∃ b, d = .tup [.str "over", b]) ∨ ∃ b, d = .tup [.str "lack", b] := by
  unfold isShaped at h
  split at h
  · rename_i a r
    unfold shB at h
    split at h
    · rename_i z
      split at h
      · rename_i i hi
        simp only [decide_eq_true_eq] at h
        unfold thingsOf at hi
        have len : ∀ {n : Nat} {l : List D}, (l.length : Int) + 1 = (n : Int) + 1 → l.length = n := fun h => by omega
        split at hi
        · rename_i e; subst e; cases hi
          match r, len (n := 3) h with
          | [p, a, b], _ => exact .inl ⟨p, a, b, rfl⟩
        · split at hi
          · rename_i e; subst e; cases hi
            match r, len (n := 0) h with
            | [], _ => exact .inr (.inl rfl)
          · split at hi
            · rename_i e; subst e; cases hi
              match r, len (n := 0) h with
              | [], _ => exact .inr (.inr (.inl rfl))
            · split at hi
              · rename_i e; subst e; cases hi
                match r, len (n := 1) h with
                | [b], _ => exact .inr (.inr (.inr (.inl ⟨b, rfl⟩)))
              · split at hi
                · rename_i e; subst e; cases hi
                  match r, len (n := 1) h with
                  | [b], _ => exact .inr (.inr (.inr (.inr ⟨b, rfl⟩)))
                · cases hi
      · cases h
    · cases h
  · cases h
theorem edge_fr {k : Nat} {d : D} (hd : OkT k d) (h : isEdge d = true) : ∃ q, d = fr q ∧ Ed q := by
  unfold isEdge at h
  split at h
  · rename_i a b
    rw [Bool.and_eq_true] at h
    obtain ⟨i, j, rfl, rfl, hj, hg⟩ := fracB_int h.1
    have he := h.2
    simp only [edgeB, Bool.and_eq_true, decide_eq_true_eq] at he
    have ob := (okT_at hd).2 (.int j) (by simp)
    have hj2 : j ≤ 1000 := by
      cases hk : k - 1 with
      | zero => rw [hk] at ob; exact ob.elim
      | succ n => rw [hk] at ob; exact ob.2
    have ej : ((j.toNat : Nat) : Int) = j := by omega
    have red : i.natAbs.Coprime j.toNat := by
      have : j.natAbs = j.toNat := by omega
      unfold Nat.Coprime
      rw [← this]
      exact hg
    refine ⟨⟨i, j.toNat, by omega, red⟩, ?_, ?_, ?_, ?_⟩
    · show D.tup [.int i, .int j] = D.tup [.int i, .int (j.toNat : Nat)]
      rw [ej]
    · rw [Rat.le_iff]
      show (-1 : Int) * (j.toNat : Nat) ≤ i * 1
      rw [ej]; omega
    · rw [Rat.le_iff]
      show i * 1 ≤ (1 : Int) * (j.toNat : Nat)
      rw [ej]; omega
    · show j.toNat ≤ 1000
      omega
  · cases h
theorem side_fr {k : Nat} {d : D} (hd : OkT k d) (h : isSide d = true) (ht : isTo d = true) : ∃ q, d = sideD q ∧ Ed q := by
  unfold isSide at h
  split at h
  · rename_i a r
    unfold sideB at h
    split at h
    · rename_i z
      have hz : z = "to" := of_decide_eq_true (show decide (z = "to") = true from ht)
      subst hz
      rw [Bool.and_eq_true, decide_eq_true_eq] at h
      have e2 : (longOf "to").getD 0 = 2 := by decide
      rw [e2] at h
      have hl : r.length = 1 := by omega
      match r, hl, h, hd with
      | [x], _, h, hd =>
        have hx := h.2
        simp only [List.all_cons, List.all_nil, Bool.and_true] at hx
        obtain ⟨q, rfl, hq⟩ := edge_fr ((okT_at hd).2 x (by simp)) hx
        exact ⟨q, rfl, hq⟩
    · cases h
  · cases h
theorem corner_box {s : Int} {k : Nat} {d : D} (hd : OkT k d) (h : isCorner s d = true) : ∃ qs, d = boxD qs ∧ (qs.length : Int) = s ∧ ∀ q ∈ qs, Ed q := by
  unfold isCorner at h
  rw [Bool.and_eq_true] at h
  obtain ⟨h1, h2⟩ := h
  unfold isBox at h1
  split at h1
  · rename_i ds
    rw [Bool.and_eq_true, decide_eq_true_eq] at h1
    have main : ∀ ds : List D, (∀ d ∈ ds, OkT (k - 1) d) → ds.all isSide = true → ds.all isTo = true → ∃ qs : List Rat, ds = qs.map sideD ∧ ∀ q ∈ qs, Ed q := by
      intro ds
      induction ds with
      | nil => exact fun _ _ _ => ⟨[], rfl, fun q h => nomatch h⟩
      | cons d ds ih =>
        intro ho ha hb
        simp only [List.all_cons, Bool.and_eq_true] at ha hb
        obtain ⟨q, rfl, hq⟩ := side_fr (ho d (by simp)) ha.1 hb.1
        obtain ⟨qs, rfl, hqs⟩ := ih (fun d hd => ho d (List.mem_cons_of_mem _ hd)) ha.2 hb.2
        exact ⟨q :: qs, rfl, fun x hx => (List.mem_cons.mp hx).elim (fun e => e ▸ hq) (hqs x)⟩
    obtain ⟨qs, rfl, hqs⟩ := main ds (okT_at hd).2 h1.2 h2
    exact ⟨qs, rfl, by rw [← h1.1, List.length_map], hqs⟩
  · cases h1
theorem ne_mt : (("many" : Str) = "take") = False := eq_false (by decide)
theorem ne_ft : (("few" : Str) = "take") = False := eq_false (by decide)
theorem ne_ot : (("over" : Str) = "take") = False := eq_false (by decide)
theorem ne_lt : (("lack" : Str) = "take") = False := eq_false (by decide)
theorem ne_fm : (("few" : Str) = "many") = False := eq_false (by decide)
theorem ne_om : (("over" : Str) = "many") = False := eq_false (by decide)
theorem ne_lm : (("lack" : Str) = "many") = False := eq_false (by decide)
theorem ne_of : (("over" : Str) = "few") = False := eq_false (by decide)
theorem ne_lf : (("lack" : Str) = "few") = False := eq_false (by decide)
theorem ne_lo : (("lack" : Str) = "over") = False := eq_false (by decide)
theorem okT_kinds {k : Nat} {p : D} (h : OkT k p) : (∃ i, p = .int i) ∨ (∃ b, p = .bl b) ∨ p = .non ∨ (∃ x, p = .str x) ∨ (∃ ds, p = .tup ds) ∨ ∃ ds, p = .lst ds :=
  okT_cases (C := fun p => (∃ i, p = .int i) ∨ (∃ b, p = .bl b) ∨ p = .non ∨ (∃ x, p = .str x) ∨ (∃ ds, p = .tup ds) ∨ ∃ ds, p = .lst ds) h (.inr (.inr (.inl rfl))) (fun b => .inr (.inl ⟨b, rfl⟩)) (fun i _ _ => .inl ⟨i, rfl⟩) (fun x => .inr (.inr (.inr (.inl ⟨x, rfl⟩))))
    (fun ds _ => .inr (.inr (.inr (.inr (.inl ⟨ds, rfl⟩))))) (fun ds _ => .inr (.inr (.inr (.inr (.inr ⟨ds, rfl⟩)))))
theorem go_notake {gs : List (List Rat)} {m : Nat} {q : Rat} {f : Nat} {p a b : D} {tk fr_ : List Int} (hne : ∀ i, p ≠ .int i) : goB gs m q f (.tup [.str "take", p, a, b]) tk fr_ = false := by
  unfold goB
  rw [if_pos rfl]
  split
  · rename_i e
    simp only [List.cons.injEq] at e
    exact absurd e.1 (hne _)
  · simp
theorem go_take {gs : List (List Rat)} {m : Nat} {q : Rat} {f : Nat} {p : Int} {a b : D} {tk fr_ : List Int} : goB gs m q (f + 1) (.tup [.str "take", .int p, a, b]) tk fr_ =
    (decide (p ∈ fr_) && (goB gs m q f a (tk ++ [p]) (fr_.filter fun k => decide (k ≠ p)) && goB gs m q f b tk (fr_.filter fun k => decide (k ≠ p)))) := by
  have e : shB [.int p, a, b] (.str "take") = true := by rfl
  rw [goB, e, if_pos rfl, Bool.true_and]
theorem go_take0 {gs : List (List Rat)} {m : Nat} {q : Rat} {p : Int} {a b : D} {tk fr_ : List Int} : goB gs m q 0 (.tup [.str "take", .int p, a, b]) tk fr_ = false := by
  unfold goB
  simp
theorem go_many {gs : List (List Rat)} {m : Nat} {q : Rat} {f : Nat} {tk fr_ : List Int} : goB gs m q f (.tup [.str "many"]) tk fr_ = leafB gs m q "many" [] tk fr_ := by
  have e : shB [] (.str "many") = true := by rfl
  unfold goB
  rw [e, if_neg (by decide), Bool.true_and]
theorem go_few {gs : List (List Rat)} {m : Nat} {q : Rat} {f : Nat} {tk fr_ : List Int} : goB gs m q f (.tup [.str "few"]) tk fr_ = leafB gs m q "few" [] tk fr_ := by
  have e : shB [] (.str "few") = true := by rfl
  unfold goB
  rw [e, if_neg (by decide), Bool.true_and]
theorem go_over {gs : List (List Rat)} {m : Nat} {q : Rat} {f : Nat} {b : D} {tk fr_ : List Int} : goB gs m q f (.tup [.str "over", b]) tk fr_ = (isCorner gs.length b && leafB gs m q "over" [b] tk fr_) := by
  have e : shB [b] (.str "over") = true := by rfl
  unfold goB
  rw [e, if_neg (by decide), Bool.true_and]
theorem go_lack {gs : List (List Rat)} {m : Nat} {q : Rat} {f : Nat} {b : D} {tk fr_ : List Int} : goB gs m q f (.tup [.str "lack", b]) tk fr_ = (isCorner gs.length b && leafB gs m q "lack" [b] tk fr_) := by
  have e : shB [b] (.str "lack") = true := by rfl
  unfold goB
  rw [e, if_neg (by decide), Bool.true_and]
theorem no_go : ¬ ("go" : Str) ∈ wkNs := by decide
theorem no_leaf : ¬ ("leaf_holds" : Str) ∈ wkNs := by decide
theorem filt_pl {pl : List (List Rat)} {ks : List Int} (h : OkPl pl ks) (p : Int) : OkPl pl (ks.filter fun k => decide (k ≠ p)) :=
  ⟨Nat.le_trans (List.length_filter_le _ _) h.len, fun k hk => h.at_ k (List.mem_filter.mp hk).1, h.den⟩
theorem filt_len {ks : List Int} {p : Int} (h : p ∈ ks) : (ks.filter fun k => decide (k ≠ p)).length + 1 ≤ ks.length := by
  induction ks with
  | nil => cases h
  | cons a ks ih =>
    by_cases e : a = p
    · subst e
      rw [List.filter_cons_of_neg (by simp), List.length_cons]
      have := List.length_filter_le (fun k => decide (k ≠ a)) ks
      omega
    · rw [List.filter_cons_of_pos (by simpa using e), List.length_cons, List.length_cons]
      have := ih ((List.mem_cons.mp h).resolve_left fun z => e z.symm)
      omega
theorem lk_wide {a b c d : D} : lookF wkNs [a, b, c, d] "wide" = some a := by simp [lookF]
theorem lk_spots {a b c d : D} : lookF wkNs [a, b, c, d] "spots" = some b := by
  have e : ¬ ("spots" : Str) = "wide" := by decide
  simp [lookF, e]
theorem lk_many {a b c d : D} : lookF wkNs [a, b, c, d] "many_of" = some c := by
  have e : ¬ ("many_of" : Str) = "wide" := by decide
  have e2 : ¬ ("many_of" : Str) = "spots" := by decide
  simp [lookF, e, e2]
theorem lk_num {a b c d : D} : lookF wkNs [a, b, c, d] "least_number" = some d := by
  have e : ¬ ("least_number" : Str) = "wide" := by decide
  have e2 : ¬ ("least_number" : Str) = "spots" := by decide
  have e3 : ¬ ("least_number" : Str) = "many_of" := by decide
  simp [lookF, e, e2, e3]
theorem unbox_box (qs : List Rat) : unbox (boxD qs) = qs := by
  unfold unbox boxD
  show (qs.map sideD).map boxOf = qs
  rw [List.map_map]
  have e : boxOf ∘ sideD = id := by
    funext q
    exact unfr_fr q
  rw [e, List.map_id]
theorem over_den {pl : List (List Rat)} {m : Nat} {tk fr_ : List Int} {qs : List Rat} (hq : OkBox qs) (h1 : 1 ≤ m) (h3 : m ≤ 3) : (overBy pl m tk fr_ qs).den < 2 ^ 64 ∧ (lackBy pl m tk fr_ qs).den < 2 ^ 64 := by
  have F := (sizeQ_fine hq).den
  have d1 := Nat.mul_le_mul (Nat.le_trans (mkRat_den (overCnt pl m tk fr_ qs) m (by omega)) h3) F
  have d2 := Nat.mul_le_mul F (Nat.le_trans (mkRat_den (lackCnt pl m tk fr_ qs) m (by omega)) h3)
  have e1 := Nat.le_trans (sub_den (mkRat (overCnt pl m tk fr_ qs) m) (sizeQ qs)) d1
  have e2 := Nat.le_trans (sub_den (sizeQ qs) (mkRat (lackCnt pl m tk fr_ qs) m)) d2
  unfold overBy lackBy
  omega
section
variable {Pr : Program} {w : World} {K : PySem.W.Frag} {mg : Str → Option Value} {base : Heap} {C CN : Addr}
theorem env4 {tp : Addr} {G H : Hp} {v g m q : V} {dg dm dq : D} (h1 : At K tp G g dg) (h2 : At K tp G m dm) (h3 : At K tp G q dq) : EnvAt K tp G H [some v, some g, some m, some q] [.un, .val dg, .val dm, .val dq] := by
  refine ⟨rfl, fun i u s e1 e2 => ?_, fun i j p m1 m2 e1 => ?_⟩
  · match i with
    | 0 => cases e1; cases e2; trivial
    | 1 => cases e1; cases e2; exact ⟨_, rfl, h1⟩
    | 2 => cases e1; cases e2; exact ⟨_, rfl, h2⟩
    | 3 => cases e1; cases e2; exact ⟨_, rfl, h3⟩
    | _ + 4 => simp at e1
  · match i with
    | 0 => cases e1
    | 1 => cases e1
    | 2 => cases e1
    | 3 => cases e1
    | _ + 4 => simp at e1
def spI (K : PySem.W.Frag) (C : Addr) : Sp := fun vs H Q _ => ∃ (tp : Addr) (n : Nat) (G : Hp) (a dx : Addr) (g m q : V) (gs : List (List Rat)) (dm dq : D), vs = [.ref a, g, m, q] ∧ Good K tp n G H ∧ G a = none ∧ a ≠ tp ∧ H a = some (.ins C dx []) ∧
  At K tp G g (gridD gs) ∧ OkG gs ∧ At K tp G m dm ∧ At K tp G q dq ∧ ∀ G' H', Good K tp n G' H' → Same G G' → (∀ b o, b ≠ tp → b ≠ a → H b = some o → H' b = some o) → (∀ b o, H b = some o → b ≠ a → G b = none → G' b = none) → At K tp G' (.ref a) (walkV C gs dm dq) → Q .non H'
theorem ok_init (Wk : WkF K mg C) (B : Bt mg) (h_places_of : Has Pr w K mg base "places_of" ["grid"] k_places_of sp_places_of) : ∃ fI fd, FnOk Pr w K mg base CX0 3 fI fd ["self", "grid", "many", "number"] (spI K C) ∧ Mk K C fI ∧ Binds K fd ["self", "grid", "many", "number"] [] := by
  obtain ⟨f, fd, F1, mk⟩ := Wk.ini
  have scI : FnScope ["self", "grid", "many", "number"] ["self", "grid", "many", "number"] (defScope s_Walk_init) := ⟨rfl, rfl, rfl, by decide +kernel, rfl, by decide +kernel, by decide +kernel⟩
  have bn : Binds K fd ["self", "grid", "many", "number"] [] := F1.bindsN fun _ _ _ _ _ _ us hl => match us, hl with | [_, _, _, _], _ => rfl
  refine ⟨f, fd, F1.ok scI (fun vs H Q E h => ?_) (fun cdv A outer s H vs Q E hr h => ⟨_, PSs.nox (pss_cons (ps_fld (f := "wide") (pe_var (i := 0) rfl (Or.inl rfl) (by decide) (by decide)) (PV.can (vLen B.len (aCons (vN 1) aNil))) (by rfl))
    (pss_cons (ps_fld (f := "spots") (pe_var (i := 0) rfl (Or.inl rfl) (by decide) (by decide)) (PV.can (vCall h_places_of hr (aCons (vN 1) aNil))) (by rfl))
    (pss_cons (ps_fld (f := "many_of") (pe_var (i := 0) rfl (Or.inl rfl) (by decide) (by decide)) (pe_var (i := 2) rfl (Or.inl rfl) (by decide) (by decide)) (by rfl))
    (pss_one (ps_fld (f := "least_number") (pe_var (i := 0) rfl (Or.inl rfl) (by decide) (by decide)) (pe_var (i := 3) rfl (Or.inl rfl) (by decide) (by decide)) (by rfl)))))), ?_⟩), mk, bn⟩
  · obtain ⟨_, _, _, _, _, _, _, _, _, _, _, rfl, _⟩ := h; rfl
  · obtain ⟨tp, n, G, a, dx, g, m, q, gs, dm, dq, rfl, g0, ga, na, ha, ag, og, am, aq, k⟩ := h
    refine ⟨tp, n, G, [.un, .val (gridD gs), .val dm, .val dq], fun d n' => d = .int gs.length ∧ n' = n, g0, env4 ag am aq, ?_, ?_⟩
    · simp only [SSeq, SNil, SIf, SRet, SSet, SAsg, SPar, SMuL, SApp, SExt, SPut, SFz, frzR, SNo, TVar, TC, TOp, TB, TNil, TCons, TTup, TLst, TKey, oIx, seqOf, TAnd, TOr, TNot, TAndV, TOrV, TNotV, TIf, TCB, cLen, cAbs, cMax2, cMin2, cAll, cList, cTuple, cInt, TIsi, isD, tyD, TCall, TChain, TLc, TLc0, SFor, ISeq, IRg1, IRg2, IZip, TSl, TPs, TPn, slD, cut1, opII, opI0, TNeg, oAdd, oIsN, oNotN, oIsB, opEq, eqD, getS, startR, GName, GNil, GCons, GTup, List.map_cons, List.map_nil, List.length_cons, List.length_nil, List.cons_append, List.nil_append, List.set_cons_zero, List.set_cons_succ, List.replicate, List.append_nil, Option.map_some, Bool.not_true, Bool.not_false, Bool.false_eq_true, if_true, if_false, ite_true, ite_false, reduceIte, Nat.sub_self, Nat.reduceAdd, Nat.reduceSub, Bool.or_true, Bool.or_false, Bool.true_or, Bool.false_or, Bool.and_true, Bool.and_false, decide_true, decide_false, List.getElem?_cons_zero, List.getElem?_cons_succ, Option.some.injEq, exists_eq_left', exists_eq_left, true_and, and_true, at0, at1, at2, at3, List.length_map, List.cons.injEq, Int.cast_ofNat_Int, Int.reduceEq, Int.reduceLT, Int.reduceLE, D.int.injEq, D.str.injEq, D.bl.injEq, D.tup.injEq, D.lst.injEq, exists_const, Int.zero_add, Nat.zero_add, Int.natCast_add, Int.natCast_one, Int.reduceAdd, gridD]
    rintro d n1 v1 G1 H1 g1 s1 a1 ⟨rfl, rfl⟩
    have h1 := s1.hh _ _ na ha
    have ga1 := s1.hid _ _ ha ga
    refine ⟨V.ref a, rfl, a, C, dx, [], rfl, h1, Wk.cl, Wk.n_wide, by simp, ?_⟩
    have g1' := g1.put ga1 na (.ins C dx (putF "wide" v1 []))
    refine ⟨tp, n1, G1, [.un, .val (gridD gs), .val dm, .val dq], fun d n' => d = .tup ((prodL gs).map ptD) ∧ n' = n1, g1', env4 (At.mono s1.gg _ _ ag) (At.mono s1.gg _ _ am) (At.mono s1.gg _ _ aq), ?_, ?_⟩
    · simp only [SSeq, SNil, SIf, SRet, SSet, SAsg, SPar, SMuL, SApp, SExt, SPut, SFz, frzR, SNo, TVar, TC, TOp, TB, TNil, TCons, TTup, TLst, TKey, oIx, seqOf, TAnd, TOr, TNot, TAndV, TOrV, TNotV, TIf, TCB, cLen, cAbs, cMax2, cMin2, cAll, cList, cTuple, cInt, TIsi, isD, tyD, TCall, TChain, TLc, TLc0, SFor, ISeq, IRg1, IRg2, IZip, TSl, TPs, TPn, slD, cut1, opII, opI0, TNeg, oAdd, oIsN, oNotN, oIsB, opEq, eqD, getS, startR, GName, GNil, GCons, GTup, List.map_cons, List.map_nil, List.length_cons, List.length_nil, List.cons_append, List.nil_append, List.set_cons_zero, List.set_cons_succ, List.replicate, List.append_nil, Option.map_some, Bool.not_true, Bool.not_false, Bool.false_eq_true, if_true, if_false, ite_true, ite_false, reduceIte, Nat.sub_self, Nat.reduceAdd, Nat.reduceSub, Bool.or_true, Bool.or_false, Bool.true_or, Bool.false_or, Bool.and_true, Bool.and_false, decide_true, decide_false, List.getElem?_cons_zero, List.getElem?_cons_succ, Option.some.injEq, exists_eq_left', exists_eq_left, true_and, and_true, at0, at1, at2, at3, List.length_map, List.cons.injEq, Int.cast_ofNat_Int, Int.reduceEq, Int.reduceLT, Int.reduceLE, D.int.injEq, D.str.injEq, D.bl.injEq, D.tup.injEq, D.lst.injEq, exists_const, Int.zero_add, Nat.zero_add, Int.natCast_add, Int.natCast_one, Int.reduceAdd, sp_places_of]
      exact ⟨gs, rfl, og, rfl⟩
    rintro d n2 v2 G2 H2 g2 s2 a2 ⟨rfl, rfl⟩
    have h2 := s2.hh _ _ na upd_same
    have ga2 := s2.hid _ _ upd_same ga1
    refine ⟨V.ref a, rfl, a, C, dx, _, rfl, h2, Wk.cl, Wk.n_spots, (by show 1 < 1000; omega), ?_⟩
    refine ⟨m, rfl, V.ref a, rfl, a, C, dx, _, rfl, upd_same, Wk.cl, Wk.n_many_of, (by show 2 < 1000; omega), ?_⟩
    refine ⟨q, rfl, V.ref a, rfl, a, C, dx, _, rfl, upd_same, Wk.cl, Wk.n_least_number, (by show 3 < 1000; omega), ?_⟩
    have e : putF "least_number" q (putF "many_of" m (putF "spots" v2 (putF "wide" v1 []))) = wkNs.zip [v1, v2, m, q] := rfl
    rw [e]
    have gf := ((((g2.put ga2 na (.ins C dx (putF "spots" v2 (putF "wide" v1 [])))).put ga2 na (.ins C dx (putF "many_of" m (putF "spots" v2 (putF "wide" v1 []))))).put ga2 na (.ins C dx (wkNs.zip [v1, v2, m, q])))).freeze upd_same na ga2
    have sg : Same G1 (upd G2 a (.ins C dx (wkNs.zip [v1, v2, m, q]))) := s2.gg.trans fun b u z => by rw [upd_ne (ne_of_none z ga2)]; exact z
    refine k _ _ gf (s1.gg.trans sg) (fun b o hb hba z => ?_) (fun b o z hba hG => ?_) ?_
    · rw [upd_ne hba, upd_ne hba, upd_ne hba]
      exact s2.hh b o hb (by rw [upd_ne hba]; exact s1.hh b o hb z)
    · by_cases hbt : b = tp
      · subst hbt
        rw [upd_ne hba]
        exact g2.gt
      · rw [upd_ne hba]
        exact s2.hid b o (by rw [upd_ne hba]; exact s1.hh b o hbt z) (s1.hid b o z hG)
    · refine .obj upd_same ?_
      have sg2 : Same G2 (upd G2 a (.ins C dx (wkNs.zip [v1, v2, m, q]))) := fun b u z => by rw [upd_ne (ne_of_none z ga2)]; exact z
      exact .cons (At.mono (s2.gg.trans sg2) _ _ a1) (.cons (At.mono sg2 _ _ a2) (.cons (At.mono (s1.gg.trans sg) _ _ am) (.cons (At.mono (s1.gg.trans sg) _ _ aq) .nil)))
end
section
variable {X : Cx} {e : Expr} {es : List Expr} {TR : TrA} {p pos : Pos} {j : Nat} {C : Addr}
def TWalk (C : Addr) (TR : TrA) : TrE := fun ρ n P => TR ρ n fun ds n1 => ∃ gs dm dq, ds = [gridD gs, dm, dq] ∧ OkG gs ∧ P (walkV C gs dm dq) n1
theorem vWalk (Wk : WkF X.K X.mg C) (B : Bt X.mg) (h_places_of : Has X.prog X.w X.K X.mg X.base "places_of" ["grid"] k_places_of sp_places_of) (hr : Room j X.A) (ha : PVs X (e :: es) TR) (hj : 4 ≤ j := by decide) (hg : Gl X "Walk" := by rfl)
    (he : starEach (e :: es) X.env = (false, eval e X.env) :: starEach es X.env := by rfl) (hpl : (backTo pos (starEach es X.env)).any (·.1) = false := by rfl) : PV X (.Call (.Name "Walk" p) (e :: es) [] pos) (TWalk C TR) := by
  obtain ⟨t, p1, q1⟩ := ha.ex
  obtain ⟨fI, fd, F1, mk, bn⟩ := ok_init (Pr := X.prog) (w := X.w) (base := X.base) Wk B h_places_of
  refine ⟨_, pe_make mk F1 (hr.mono hj) hg Wk.glo bn .nil pass0 p1 (by decide) he hpl, fun tp n G H σ ρ P Q g ev h k => ?_⟩
  refine q1 tp n G H σ ρ _ _ g ev h fun ds n1 vs G1 H1 g1 s1 a1 h1 => ?_
  obtain ⟨gs, dm, dq, rfl, og, h1⟩ := h1
  match vs, a1 with
  | [v1, v2, v3], .cons b1 (.cons b2 (.cons b3 .nil)) =>
    intro x dx hx hdx hne
    obtain ⟨g2, s2⟩ := g1.ext (H' := upd (upd H1 dx (.own x)) x (.ins C dx [])) fun b o hb => by
      rw [upd_ne (fun z => by subst z; rw [hx] at hb; cases hb), upd_ne (fun z => by subst z; rw [hdx] at hb; cases hb)]
      exact hb
    refine ⟨tp, n1, G1, x, dx, v1, v2, v3, gs, dm, dq, rfl, g2, g1.none hx, g1.ne_new hx, upd_same, b1, og, b2, b3, fun G' H' g' sg hh hid at_ => ⟨rfl, ?_⟩⟩
    refine k _ n1 (.ref x) G' H' g' (s1.trans g1 g' ⟨sg, fun b o hb hbo => ?_, fun b o hbo hn => ?_⟩) at_ h1
    · have bx : b ≠ x := fun z => by subst z; rw [hx] at hbo; cases hbo
      exact hh b o hb bx (s2.hh b o hb hbo)
    · have bx : b ≠ x := fun z => by subst z; rw [hx] at hbo; cases hbo
      have bd : b ≠ dx := fun z => by subst z; rw [hdx] at hbo; cases hbo
      exact hid b o (by rw [upd_ne bx, upd_ne bd]; exact hbo) bx hn
end
section
variable {Pr : Program} {w : World} {K : PySem.W.Frag} {mg : Str → Option Value} {base : Heap} {C CN : Addr}
abbrev s_Walk_leaf_holds : Stmt := inClass (top 60) 1
theorem sc_Walk_leaf_holds : FnScope ["self", "thing", "taken", "free", "found"] ["self", "thing", "taken", "free"] (defScope s_Walk_leaf_holds) := ⟨rfl, rfl, rfl, by decide +kernel, rfl, by decide +kernel, by decide +kernel⟩
theorem ok_Walk_leaf_holds (F0 : DfM K C "leaf_holds" "Walk.leaf_holds" s_Walk_leaf_holds) (B : Bt mg) (Wk : WkF K mg C) (NP : NoP K mg CN (inClass (top 4) 0)) (C0 : Cs K w mg) (h_is_below : Has Pr w K mg base "is_below" ["one", "other"] k_is_below sp_is_below) (h_over_by : Has Pr w K mg base "over_by" ["places", "many", "taken", "free", "box"] k_over_by sp_over_by) (h_lack_by : Has Pr w K mg base "lack_by" ["places", "many", "taken", "free", "box"] k_lack_by sp_lack_by) : HasM Pr w K mg base C "leaf_holds" ["self", "thing", "taken", "free"] k_Walk_leaf_holds (sp_Walk_leaf_holds C) := by
  have sc := sc_Walk_leaf_holds
  refine has_mkM (k := _) F0 sc (fun _ _ _ _ _ _ us hl => match us, hl with | [_, _, _, _], _ => rfl) (len_Walk_leaf_holds C) (fun f cdv A outer s H E hr => ⟨_,
    (bCons (sIf (bEq hr (vIx (vN 1) vI) vS)
      (bOne (sRet (vGt (vLen B.len (aCons (vN 2) aNil)) (vFld Wk.cl Wk.n_many_of (vN 0)))))
      bNil)
    (bCons (sIf (bEq hr (vIx (vN 1) vI) vS)
      (bOne (sRet (vLt (vAdd (vLen B.len (aCons (vN 2) aNil)) (vLen B.len (aCons (vN 3) aNil))) (vFld Wk.cl Wk.n_many_of (vN 0)))))
      bNil)
    (bCons (sIf (bEq hr (vIx (vN 1) vI) vS)
      (bOne (sSet 4 sc.nd (vCall h_over_by hr (aCons (vFld Wk.cl Wk.n_spots (vN 0)) (aCons (vFld Wk.cl Wk.n_many_of (vN 0)) (aCons (vN 2) (aCons (vN 3) (aCons (vIx (vN 1) vI) aNil))))))))
      (bOne (sSet 4 sc.nd (vCall h_lack_by hr (aCons (vFld Wk.cl Wk.n_spots (vN 0)) (aCons (vFld Wk.cl Wk.n_many_of (vN 0)) (aCons (vN 2) (aCons (vN 3) (aCons (vIx (vN 1) vI) aNil)))))))))
    (bOne (sRet (vNot (vCall h_is_below hr (aCons (vN 4) (aCons (vFld Wk.cl Wk.n_least_number (vN 0)) aNil))))))))), ?_⟩)
  rintro _ n P ⟨gs, m, q, z, r, tk, fr_, rfl, hg, h1, h3, hq, ht, hf, hz, h⟩
  simp only [SSeq, SNil, SIf, SRet, SSet, SAsg, SPar, SMuL, SApp, SExt, SPut, SFz, frzR, SNo, TVar, TC, TOp, TB, TNil, TCons, TTup, TLst, TKey, oIx, seqOf, TAnd, TOr, TNot, TAndV, TOrV, TNotV, TIf, TCB, cLen, cAbs, cMax2, cMin2, cAll, cList, cTuple, cInt, TIsi, isD, tyD, TCall, TChain, TLc, TLc0, SFor, ISeq, IRg1, IRg2, IZip, TSl, TPs, TPn, slD, cut1, opII, opI0, TNeg, oAdd, oIsN, oNotN, oIsB, opEq, eqD, getS, startR, GName, GNil, GCons, GTup, List.map_cons, List.map_nil, List.length_cons, List.length_nil, List.cons_append, List.nil_append, List.set_cons_zero, List.set_cons_succ, List.replicate, List.append_nil, Option.map_some, Bool.not_true, Bool.not_false, Bool.false_eq_true, if_true, if_false, ite_true, ite_false, reduceIte, Nat.sub_self, Nat.reduceAdd, Nat.reduceSub, Bool.or_true, Bool.or_false, Bool.true_or, Bool.false_or, Bool.and_true, Bool.and_false, decide_true, decide_false, List.getElem?_cons_zero, List.getElem?_cons_succ, Option.some.injEq, exists_eq_left', exists_eq_left, true_and, and_true, at0, at1, at2, at3, List.length_map, List.cons.injEq, Int.cast_ofNat_Int, Int.reduceEq, Int.reduceLT, Int.reduceLE, D.int.injEq, D.str.injEq, D.bl.injEq, D.tup.injEq, D.lst.injEq, exists_const, Int.zero_add, Nat.zero_add, Int.natCast_add, Int.natCast_one, Int.reduceAdd, walkD, walkV, intsD, TFld, lk_wide, lk_spots, lk_many, lk_num]
  unfold leafB at h
  refine ite2 (fun e => ?_) (fun e => ?_)
  · simp only [decide_eq_true_eq] at e
    rw [if_pos e] at h
    have e3 : decide ((m : Int) < tk.length) = decide (m < tk.length) := decide_eq_decide.mpr (by omega)
    rw [e3]
    exact h
  · simp only [decide_eq_true_eq] at e
    rw [if_neg e] at h
    refine ite2 (fun e2 => ?_) (fun e2 => ?_)
    · simp only [decide_eq_true_eq] at e2
      rw [if_pos e2] at h
      have e3 : decide ((tk.length : Int) + fr_.length < m) = decide (tk.length + fr_.length < m) := decide_eq_decide.mpr (by omega)
      rw [e3]
      exact h
    · simp only [decide_eq_true_eq] at e2
      rw [if_neg e2] at h
      rcases hz with hz | hz | ⟨qs, rfl, hb⟩
      · exact absurd hz e
      · exact absurd hz e2
      · dsimp only at h
        rw [unbox_box] at h
        obtain ⟨d1, d2⟩ := over_den (pl := prodL gs) (tk := tk) (fr_ := fr_) hb h1 h3
        refine ite2 (fun e3 => ?_) (fun e3 => ?_)
        · simp only [decide_eq_true_eq] at e3
          simp only [if_pos e3] at h
          simp only [SSeq, SNil, SIf, SRet, SSet, SAsg, SPar, SMuL, SApp, SExt, SPut, SFz, frzR, SNo, TVar, TC, TOp, TB, TNil, TCons, TTup, TLst, TKey, oIx, seqOf, TAnd, TOr, TNot, TAndV, TOrV, TNotV, TIf, TCB, cLen, cAbs, cMax2, cMin2, cAll, cList, cTuple, cInt, TIsi, isD, tyD, TCall, TChain, TLc, TLc0, SFor, ISeq, IRg1, IRg2, IZip, TSl, TPs, TPn, slD, cut1, opII, opI0, TNeg, oAdd, oIsN, oNotN, oIsB, opEq, eqD, getS, startR, GName, GNil, GCons, GTup, List.map_cons, List.map_nil, List.length_cons, List.length_nil, List.cons_append, List.nil_append, List.set_cons_zero, List.set_cons_succ, List.replicate, List.append_nil, Option.map_some, Bool.not_true, Bool.not_false, Bool.false_eq_true, if_true, if_false, ite_true, ite_false, reduceIte, Nat.sub_self, Nat.reduceAdd, Nat.reduceSub, Bool.or_true, Bool.or_false, Bool.true_or, Bool.false_or, Bool.and_true, Bool.and_false, decide_true, decide_false, List.getElem?_cons_zero, List.getElem?_cons_succ, Option.some.injEq, exists_eq_left', exists_eq_left, true_and, and_true, at0, at1, at2, at3, List.length_map, List.cons.injEq, Int.cast_ofNat_Int, Int.reduceEq, Int.reduceLT, Int.reduceLE, D.int.injEq, D.str.injEq, D.bl.injEq, D.tup.injEq, D.lst.injEq, exists_const, Int.zero_add, Nat.zero_add, Int.natCast_add, Int.natCast_one, Int.reduceAdd, sp_over_by, sp_is_below]
          exact ⟨prodL gs, m, tk, fr_, qs, ⟨rfl, rfl, rfl, rfl, rfl⟩, ht, hf, hb, h1, h3, _, _, ⟨rfl, rfl⟩, d1, hq, h⟩
        · simp only [decide_eq_true_eq] at e3
          simp only [if_neg e3] at h
          simp only [SSeq, SNil, SIf, SRet, SSet, SAsg, SPar, SMuL, SApp, SExt, SPut, SFz, frzR, SNo, TVar, TC, TOp, TB, TNil, TCons, TTup, TLst, TKey, oIx, seqOf, TAnd, TOr, TNot, TAndV, TOrV, TNotV, TIf, TCB, cLen, cAbs, cMax2, cMin2, cAll, cList, cTuple, cInt, TIsi, isD, tyD, TCall, TChain, TLc, TLc0, SFor, ISeq, IRg1, IRg2, IZip, TSl, TPs, TPn, slD, cut1, opII, opI0, TNeg, oAdd, oIsN, oNotN, oIsB, opEq, eqD, getS, startR, GName, GNil, GCons, GTup, List.map_cons, List.map_nil, List.length_cons, List.length_nil, List.cons_append, List.nil_append, List.set_cons_zero, List.set_cons_succ, List.replicate, List.append_nil, Option.map_some, Bool.not_true, Bool.not_false, Bool.false_eq_true, if_true, if_false, ite_true, ite_false, reduceIte, Nat.sub_self, Nat.reduceAdd, Nat.reduceSub, Bool.or_true, Bool.or_false, Bool.true_or, Bool.false_or, Bool.and_true, Bool.and_false, decide_true, decide_false, List.getElem?_cons_zero, List.getElem?_cons_succ, Option.some.injEq, exists_eq_left', exists_eq_left, true_and, and_true, at0, at1, at2, at3, List.length_map, List.cons.injEq, Int.cast_ofNat_Int, Int.reduceEq, Int.reduceLT, Int.reduceLE, D.int.injEq, D.str.injEq, D.bl.injEq, D.tup.injEq, D.lst.injEq, exists_const, Int.zero_add, Nat.zero_add, Int.natCast_add, Int.natCast_one, Int.reduceAdd, sp_lack_by, sp_is_below]
          exact ⟨prodL gs, m, tk, fr_, qs, ⟨rfl, rfl, rfl, rfl, rfl⟩, ht, hf, hb, h1, h3, _, _, ⟨rfl, rfl⟩, d2, hq, h⟩
abbrev s_Walk_go : Stmt := inClass (top 60) 2
theorem sc_Walk_go : FnScope ["self", "thing", "path", "taken", "free", "place", "rest", "k"] ["self", "thing", "path", "taken", "free"] (defScope s_Walk_go) := ⟨rfl, rfl, rfl, by decide +kernel, rfl, by decide +kernel, by decide +kernel⟩
theorem step_Walk_go (fl : Nat) (F0 : DfM K C "go" "Walk.go" s_Walk_go) (B : Bt mg) (Wk : WkF K mg C) (NP : NoP K mg CN (inClass (top 4) 0)) (C0 : Cs K w mg) (h_leaf_holds : HasM Pr w K mg base C "leaf_holds" ["self", "thing", "taken", "free"] k_Walk_leaf_holds (sp_Walk_leaf_holds C)) (h_is_corner : Has Pr w K mg base "is_corner" ["sides", "thing"] k_is_corner sp_is_corner) (h_go : HasMX Pr w K mg base CN C "go" ["self", "thing", "path", "taken", "free"] (k_Walk_go fl) (sp_Walk_go C fl)) (h_is_shaped : Has Pr w K mg base "is_shaped" ["thing"] k_is_shaped sp_is_shaped) : HasMX Pr w K mg base CN C "go" ["self", "thing", "path", "taken", "free"] (k_Walk_go (fl + 1)) (sp_Walk_go C (fl + 1)) := by
  have sc := sc_Walk_go
  refine has_mkMX (CN := CN) (k := _) F0 sc (fun _ _ _ _ _ _ us hl => match us, hl with | [_, _, _, _, _], _ => rfl) (len_Walk_go C (fl + 1)) (fun f cdv A outer s H E hr => ⟨_,
    (xCons (xIf (bNot (bVal (vCall h_is_shaped hr (aCons (vN 1) aNil) (hj := Nat.le_trans (by decide) (Nat.le_add_left _ _)))))
      (xOne (xRaise NP rfl (takes_of rfl rfl rfl rfl) (hr.mono (Nat.le_trans (by decide) (Nat.le_add_left _ _))) (aCons (vN 2) (aCons vS aNil))))
      (xLs bNil))
    (xCons (xIf (bEq hr (vIx (vN 1) vI) vS)
      (xCons (xL (sSet 5 sc.nd (vIx (vN 1) vI)))
      (xCons (xIf (bW (wOr (bNot (bVal (vIsi (T := "int") (by decide) B.isi B.int (vN 5)))) (wOr (bVal (vIsi (T := "bool") (by decide) B.isi B.bool (vN 5))) (wOr1 (bNotIn (vN 5) (vN 4))))))
        (xOne (xRaise NP rfl (takes_of rfl rfl rfl rfl) (hr.mono (Nat.le_trans (by decide) (Nat.le_add_left _ _))) (aCons (vN 2) (aCons vS aNil))))
        (xLs bNil))
      (xCons (xL (sLc 6 (own := [("k", 7)]) sc.nd (iL (vN 4)) (fun _ _ _ _ _ => (gN 7 sc.nd)) (fun _ _ _ _ _ => t1 (bNe hr (vN 7) (vN 5))) (fun _ _ _ _ _ => (vN 7))))
      (xCons (xExp (xMeth (takes_of rfl rfl rfl rfl) Wk.cl h_go hr (vN 0) (aCons (vIx (vN 1) vI) (aCons (vAdd (vN 2) (vTup (aCons vI aNil))) (aCons (vAdd (vN 3) (vLst (aCons (vN 5) aNil))) (aCons (vN 6) aNil)))) (hj := Nat.le_refl _)))
      (xCons (xExp (xMeth (takes_of rfl rfl rfl rfl) Wk.cl h_go hr (vN 0) (aCons (vIx (vN 1) vI) (aCons (vAdd (vN 2) (vTup (aCons vI aNil))) (aCons (vN 3) (aCons (vN 6) aNil)))) (hj := Nat.le_refl _)))
      (xOne (xL (sRet vB))))))))
      (xLs bNil))
    (xCons (xIf (bW (wAnd (bEq hr (vLen B.len (aCons (vN 1) aNil)) vI) (wAnd1 (bNot (bVal (vCall h_is_corner hr (aCons (vFld Wk.cl Wk.n_wide (vN 0)) (aCons (vIx (vN 1) vI) aNil)) (hj := Nat.le_trans (by decide) (Nat.le_add_left _ _))))))))
      (xOne (xRaise NP rfl (takes_of rfl rfl rfl rfl) (hr.mono (Nat.le_trans (by decide) (Nat.le_add_left _ _))) (aCons (vN 2) (aCons vS aNil))))
      (xLs bNil))
    (xCons (xIf (bNot (bVal (vMeth Wk.cl h_leaf_holds hr (vN 0) (aCons (vN 1) (aCons (vN 3) (aCons (vN 4) aNil))) (hj := Nat.le_trans (by decide) (Nat.le_add_left _ _)))))
      (xOne (xRaise NP rfl (takes_of rfl rfl rfl rfl) (hr.mono (Nat.le_trans (by decide) (Nat.le_add_left _ _))) (aCons (vN 2) (aCons (vIx (vN 1) vI) aNil))))
      (xLs bNil))
    (xOne (xL (sRet vB))))))), ?_⟩)
  rintro _ n P R ⟨k, gs, m, q, d, path, tk, fr_, rfl, hd, hg, h1, h3, hq, ht, hf, hl, hfl, hpl, h⟩
  dsimp only [XSeq, XIf, XRaise]
  simp only [SSeq, SNil, SIf, SRet, SSet, SAsg, SPar, SMuL, SApp, SExt, SPut, SFz, frzR, SNo, TVar, TC, TOp, TB, TNil, TCons, TTup, TLst, TKey, oIx, seqOf, TAnd, TOr, TNot, TAndV, TOrV, TNotV, TIf, TCB, cLen, cAbs, cMax2, cMin2, cAll, cList, cTuple, cInt, TIsi, isD, tyD, TCall, TChain, TLc, TLc0, SFor, ISeq, IRg1, IRg2, IZip, TSl, TPs, TPn, slD, cut1, opII, opI0, TNeg, oAdd, oIsN, oNotN, oIsB, opEq, eqD, getS, startR, GName, GNil, GCons, GTup, List.map_cons, List.map_nil, List.length_cons, List.length_nil, List.cons_append, List.nil_append, List.set_cons_zero, List.set_cons_succ, List.replicate, List.append_nil, Option.map_some, Bool.not_true, Bool.not_false, Bool.false_eq_true, if_true, if_false, ite_true, ite_false, reduceIte, Nat.sub_self, Nat.reduceAdd, Nat.reduceSub, Bool.or_true, Bool.or_false, Bool.true_or, Bool.false_or, Bool.and_true, Bool.and_false, decide_true, decide_false, List.getElem?_cons_zero, List.getElem?_cons_succ, Option.some.injEq, exists_eq_left', exists_eq_left, true_and, and_true, at0, at1, at2, at3, List.length_map, List.cons.injEq, Int.cast_ofNat_Int, Int.reduceEq, Int.reduceLT, Int.reduceLE, D.int.injEq, D.str.injEq, D.bl.injEq, D.tup.injEq, D.lst.injEq, exists_const, Int.zero_add, Nat.zero_add, Int.natCast_add, Int.natCast_one, Int.reduceAdd, sp_is_shaped]
  refine ⟨k, hd, ?_⟩
  refine ite2 (fun hs => ?_) (fun hs => ?_)
  · rw [shaped_no (by simpa using hs)] at h
    simpa using h
  · have hs2 : isShaped d = true := by simpa using hs
    have sz2 : path.length + 1 ≤ sizeLine := sz1000 (by omega)
    rcases shaped_cases hs2 with ⟨p, a, b, rfl⟩ | rfl | rfl | ⟨b, rfl⟩ | ⟨b, rfl⟩
    · have op := (okT_at hd).2 p (by simp)
      have oa := (okT_at hd).2 a (by simp)
      have ob := (okT_at hd).2 b (by simp)
      rcases okT_kinds op with ⟨i, rfl⟩ | ⟨x, rfl⟩ | rfl | ⟨x, rfl⟩ | ⟨x, rfl⟩ | ⟨x, rfl⟩
      rotate_left 1
      all_goals first
        | (rw [go_notake (fun i z => by cases z)] at h; simp only [SSeq, SNil, SIf, SRet, SSet, SAsg, SPar, SMuL, SApp, SExt, SPut, SFz, frzR, SNo, TVar, TC, TOp, TB, TNil, TCons, TTup, TLst, TKey, oIx, seqOf, TAnd, TOr, TNot, TAndV, TOrV, TNotV, TIf, TCB, cLen, cAbs, cMax2, cMin2, cAll, cList, cTuple, cInt, TIsi, isD, tyD, TCall, TChain, TLc, TLc0, SFor, ISeq, IRg1, IRg2, IZip, TSl, TPs, TPn, slD, cut1, opII, opI0, TNeg, oAdd, oIsN, oNotN, oIsB, opEq, eqD, getS, startR, GName, GNil, GCons, GTup, List.map_cons, List.map_nil, List.length_cons, List.length_nil, List.cons_append, List.nil_append, List.set_cons_zero, List.set_cons_succ, List.replicate, List.append_nil, Option.map_some, Bool.not_true, Bool.not_false, Bool.false_eq_true, if_true, if_false, ite_true, ite_false, reduceIte, Nat.sub_self, Nat.reduceAdd, Nat.reduceSub, Bool.or_true, Bool.or_false, Bool.true_or, Bool.false_or, Bool.and_true, Bool.and_false, decide_true, decide_false, List.getElem?_cons_zero, List.getElem?_cons_succ, Option.some.injEq, exists_eq_left', exists_eq_left, true_and, and_true, at0, at1, at2, at3, List.length_map, List.cons.injEq, Int.cast_ofNat_Int, Int.reduceEq, Int.reduceLT, Int.reduceLE, D.int.injEq, D.str.injEq, D.bl.injEq, D.tup.injEq, D.lst.injEq, exists_const, Int.zero_add, Nat.zero_add, Int.natCast_add, Int.natCast_one, Int.reduceAdd, XSeq, XIf, XRaise, XExp, XRet, XMeth, XCall, XIfIs, STry, TFld, TMeth, lk_wide, lk_spots, lk_many, lk_num, ne_mt, ne_ft, ne_ot, ne_lt, ne_fm, ne_om, ne_lm, ne_of, ne_lf, ne_lo]; simpa using h)
        | skip
      simp only [SSeq, SNil, SIf, SRet, SSet, SAsg, SPar, SMuL, SApp, SExt, SPut, SFz, frzR, SNo, TVar, TC, TOp, TB, TNil, TCons, TTup, TLst, TKey, oIx, seqOf, TAnd, TOr, TNot, TAndV, TOrV, TNotV, TIf, TCB, cLen, cAbs, cMax2, cMin2, cAll, cList, cTuple, cInt, TIsi, isD, tyD, TCall, TChain, TLc, TLc0, SFor, ISeq, IRg1, IRg2, IZip, TSl, TPs, TPn, slD, cut1, opII, opI0, TNeg, oAdd, oIsN, oNotN, oIsB, opEq, eqD, getS, startR, GName, GNil, GCons, GTup, List.map_cons, List.map_nil, List.length_cons, List.length_nil, List.cons_append, List.nil_append, List.set_cons_zero, List.set_cons_succ, List.replicate, List.append_nil, Option.map_some, Bool.not_true, Bool.not_false, Bool.false_eq_true, if_true, if_false, ite_true, ite_false, reduceIte, Nat.sub_self, Nat.reduceAdd, Nat.reduceSub, Bool.or_true, Bool.or_false, Bool.true_or, Bool.false_or, Bool.and_true, Bool.and_false, decide_true, decide_false, List.getElem?_cons_zero, List.getElem?_cons_succ, Option.some.injEq, exists_eq_left', exists_eq_left, true_and, and_true, at0, at1, at2, at3, List.length_map, List.cons.injEq, Int.cast_ofNat_Int, Int.reduceEq, Int.reduceLT, Int.reduceLE, D.int.injEq, D.str.injEq, D.bl.injEq, D.tup.injEq, D.lst.injEq, exists_const, Int.zero_add, Nat.zero_add, Int.natCast_add, Int.natCast_one, Int.reduceAdd, XSeq, XIf, XRaise, XExp, XRet, XMeth, XCall, XIfIs, STry, TFld, TMeth, lk_wide, lk_spots, lk_many, lk_num, ne_mt, ne_ft, ne_ot, ne_lt, ne_fm, ne_om, ne_lm, ne_of, ne_lf, ne_lo, walkD, walkV, intsD, opIn, inD]
      refine ⟨fr_, rfl, ?_⟩
      by_cases hp : i ∈ fr_
      · cases fl with
        | zero =>
          have := List.length_pos_of_mem hp
          omega
        | succ f =>
          rw [go_take, decide_eq_true hp, Bool.true_and] at h
          rw [decide_eq_true hp]
          refine iteF ?_
          refine lc_filtF fr_ D.int (fun k => decide (k ≠ i)) D.int (sz8 hf.len) (fun x hx Q Q0 hq1 hq2 => ?_) ?_
          · simp only [SSeq, SNil, SIf, SRet, SSet, SAsg, SPar, SMuL, SApp, SExt, SPut, SFz, frzR, SNo, TVar, TC, TOp, TB, TNil, TCons, TTup, TLst, TKey, oIx, seqOf, TAnd, TOr, TNot, TAndV, TOrV, TNotV, TIf, TCB, cLen, cAbs, cMax2, cMin2, cAll, cList, cTuple, cInt, TIsi, isD, tyD, TCall, TChain, TLc, TLc0, SFor, ISeq, IRg1, IRg2, IZip, TSl, TPs, TPn, slD, cut1, opII, opI0, TNeg, oAdd, oIsN, oNotN, oIsB, opEq, eqD, getS, startR, GName, GNil, GCons, GTup, List.map_cons, List.map_nil, List.length_cons, List.length_nil, List.cons_append, List.nil_append, List.set_cons_zero, List.set_cons_succ, List.replicate, List.append_nil, Option.map_some, Bool.not_true, Bool.not_false, Bool.false_eq_true, if_true, if_false, ite_true, ite_false, reduceIte, Nat.sub_self, Nat.reduceAdd, Nat.reduceSub, Bool.or_true, Bool.or_false, Bool.true_or, Bool.false_or, Bool.and_true, Bool.and_false, decide_true, decide_false, List.getElem?_cons_zero, List.getElem?_cons_succ, Option.some.injEq, exists_eq_left', exists_eq_left, true_and, and_true, at0, at1, at2, at3, List.length_map, List.cons.injEq, Int.cast_ofNat_Int, Int.reduceEq, Int.reduceLT, Int.reduceLE, D.int.injEq, D.str.injEq, D.bl.injEq, D.tup.injEq, D.lst.injEq, exists_const, Int.zero_add, Nat.zero_add, Int.natCast_add, Int.natCast_one, Int.reduceAdd, XSeq, XIf, XRaise, XExp, XRet, XMeth, XCall, XIfIs, STry, TFld, TMeth, lk_wide, lk_spots, lk_many, lk_num, ne_mt, ne_ft, ne_ot, ne_lt, ne_fm, ne_om, ne_lm, ne_of, ne_lf, ne_lo, wipeR]
            by_cases e : x = i
            · have e1 : decide (x = i) = true := decide_eq_true e
              rw [e1]
              exact iteF (hq2 (by simp [e]))
            · have e1 : decide (x = i) = false := decide_eq_false e
              rw [e1]
              exact iteT (hq1 (by simp [e]))
          · have hfp := filt_pl hf i
            have hfl2 := filt_len hp
            have htk : OkPl (prodL gs) (tk ++ [i]) := ⟨by rw [List.length_append]; simp; omega, fun k hk => by
              rcases List.mem_append.mp hk with hk | hk
              · exact ht.at_ k hk
              · rw [List.mem_singleton.mp hk]; exact hf.at_ i hp, ht.den⟩
            refine ⟨no_go, sz8 (by omega), sz2, sz8 (by omega), sz1000 (by omega), ?_⟩
            refine ⟨k - 1, gs, m, q, a, path ++ [.int 0], tk ++ [i], fr_.filter (fun k => decide (k ≠ i)), by simp [walkD, walkV, intsD], oa, hg, h1, h3, hq, htk, hfp, by rw [List.length_append, List.length_singleton]; omega, by omega, by rw [List.length_append, List.length_singleton]; omega, ?_⟩
            cases ga : goB gs m q f a (tk ++ [i]) (fr_.filter fun k => decide (k ≠ i)) with
            | false => rw [ga] at h; exact iteF (by simpa using h)
            | true =>
              rw [ga, Bool.true_and] at h
              refine iteT ⟨no_go, sz8 (by omega), sz2, ?_⟩
              refine ⟨k - 1, gs, m, q, b, path ++ [.int 1], tk, fr_.filter (fun k => decide (k ≠ i)), by simp [walkD, walkV, intsD], ob, hg, h1, h3, hq, ht, hfp, by omega, by omega, by rw [List.length_append, List.length_singleton]; omega, h⟩
      · have e0 : goB gs m q fl (.tup [.str "take", .int i, a, b]) tk fr_ = false := by
          cases fl with
          | zero => exact go_take0
          | succ f => rw [go_take, decide_eq_false hp]; rfl
        rw [e0] at h
        rw [decide_eq_false hp]
        exact iteT (by simpa using h)
    · rw [go_many] at h
      simp only [SSeq, SNil, SIf, SRet, SSet, SAsg, SPar, SMuL, SApp, SExt, SPut, SFz, frzR, SNo, TVar, TC, TOp, TB, TNil, TCons, TTup, TLst, TKey, oIx, seqOf, TAnd, TOr, TNot, TAndV, TOrV, TNotV, TIf, TCB, cLen, cAbs, cMax2, cMin2, cAll, cList, cTuple, cInt, TIsi, isD, tyD, TCall, TChain, TLc, TLc0, SFor, ISeq, IRg1, IRg2, IZip, TSl, TPs, TPn, slD, cut1, opII, opI0, TNeg, oAdd, oIsN, oNotN, oIsB, opEq, eqD, getS, startR, GName, GNil, GCons, GTup, List.map_cons, List.map_nil, List.length_cons, List.length_nil, List.cons_append, List.nil_append, List.set_cons_zero, List.set_cons_succ, List.replicate, List.append_nil, Option.map_some, Bool.not_true, Bool.not_false, Bool.false_eq_true, if_true, if_false, ite_true, ite_false, reduceIte, Nat.sub_self, Nat.reduceAdd, Nat.reduceSub, Bool.or_true, Bool.or_false, Bool.true_or, Bool.false_or, Bool.and_true, Bool.and_false, decide_true, decide_false, List.getElem?_cons_zero, List.getElem?_cons_succ, Option.some.injEq, exists_eq_left', exists_eq_left, true_and, and_true, at0, at1, at2, at3, List.length_map, List.cons.injEq, Int.cast_ofNat_Int, Int.reduceEq, Int.reduceLT, Int.reduceLE, D.int.injEq, D.str.injEq, D.bl.injEq, D.tup.injEq, D.lst.injEq, exists_const, Int.zero_add, Nat.zero_add, Int.natCast_add, Int.natCast_one, Int.reduceAdd, XSeq, XIf, XRaise, XExp, XRet, XMeth, XCall, XIfIs, STry, TFld, TMeth, lk_wide, lk_spots, lk_many, lk_num, ne_mt, ne_ft, ne_ot, ne_lt, ne_fm, ne_om, ne_lm, ne_of, ne_lf, ne_lo, walkD, walkV, intsD]
      refine ⟨no_leaf, gs, m, q, "many", [], tk, fr_, rfl, hg, h1, h3, hq, ht, hf, .inl rfl, ?_⟩
      cases e : leafB gs m q "many" [] tk fr_ <;> rw [e] at h <;> simpa using h
    · rw [go_few] at h
      simp only [SSeq, SNil, SIf, SRet, SSet, SAsg, SPar, SMuL, SApp, SExt, SPut, SFz, frzR, SNo, TVar, TC, TOp, TB, TNil, TCons, TTup, TLst, TKey, oIx, seqOf, TAnd, TOr, TNot, TAndV, TOrV, TNotV, TIf, TCB, cLen, cAbs, cMax2, cMin2, cAll, cList, cTuple, cInt, TIsi, isD, tyD, TCall, TChain, TLc, TLc0, SFor, ISeq, IRg1, IRg2, IZip, TSl, TPs, TPn, slD, cut1, opII, opI0, TNeg, oAdd, oIsN, oNotN, oIsB, opEq, eqD, getS, startR, GName, GNil, GCons, GTup, List.map_cons, List.map_nil, List.length_cons, List.length_nil, List.cons_append, List.nil_append, List.set_cons_zero, List.set_cons_succ, List.replicate, List.append_nil, Option.map_some, Bool.not_true, Bool.not_false, Bool.false_eq_true, if_true, if_false, ite_true, ite_false, reduceIte, Nat.sub_self, Nat.reduceAdd, Nat.reduceSub, Bool.or_true, Bool.or_false, Bool.true_or, Bool.false_or, Bool.and_true, Bool.and_false, decide_true, decide_false, List.getElem?_cons_zero, List.getElem?_cons_succ, Option.some.injEq, exists_eq_left', exists_eq_left, true_and, and_true, at0, at1, at2, at3, List.length_map, List.cons.injEq, Int.cast_ofNat_Int, Int.reduceEq, Int.reduceLT, Int.reduceLE, D.int.injEq, D.str.injEq, D.bl.injEq, D.tup.injEq, D.lst.injEq, exists_const, Int.zero_add, Nat.zero_add, Int.natCast_add, Int.natCast_one, Int.reduceAdd, XSeq, XIf, XRaise, XExp, XRet, XMeth, XCall, XIfIs, STry, TFld, TMeth, lk_wide, lk_spots, lk_many, lk_num, ne_mt, ne_ft, ne_ot, ne_lt, ne_fm, ne_om, ne_lm, ne_of, ne_lf, ne_lo, walkD, walkV, intsD]
      refine ⟨no_leaf, gs, m, q, "few", [], tk, fr_, rfl, hg, h1, h3, hq, ht, hf, .inr (.inl rfl), ?_⟩
      cases e : leafB gs m q "few" [] tk fr_ <;> rw [e] at h <;> simpa using h
    · rw [go_over] at h
      have ob := (okT_at hd).2 b (by simp)
      simp only [SSeq, SNil, SIf, SRet, SSet, SAsg, SPar, SMuL, SApp, SExt, SPut, SFz, frzR, SNo, TVar, TC, TOp, TB, TNil, TCons, TTup, TLst, TKey, oIx, seqOf, TAnd, TOr, TNot, TAndV, TOrV, TNotV, TIf, TCB, cLen, cAbs, cMax2, cMin2, cAll, cList, cTuple, cInt, TIsi, isD, tyD, TCall, TChain, TLc, TLc0, SFor, ISeq, IRg1, IRg2, IZip, TSl, TPs, TPn, slD, cut1, opII, opI0, TNeg, oAdd, oIsN, oNotN, oIsB, opEq, eqD, getS, startR, GName, GNil, GCons, GTup, List.map_cons, List.map_nil, List.length_cons, List.length_nil, List.cons_append, List.nil_append, List.set_cons_zero, List.set_cons_succ, List.replicate, List.append_nil, Option.map_some, Bool.not_true, Bool.not_false, Bool.false_eq_true, if_true, if_false, ite_true, ite_false, reduceIte, Nat.sub_self, Nat.reduceAdd, Nat.reduceSub, Bool.or_true, Bool.or_false, Bool.true_or, Bool.false_or, Bool.and_true, Bool.and_false, decide_true, decide_false, List.getElem?_cons_zero, List.getElem?_cons_succ, Option.some.injEq, exists_eq_left', exists_eq_left, true_and, and_true, at0, at1, at2, at3, List.length_map, List.cons.injEq, Int.cast_ofNat_Int, Int.reduceEq, Int.reduceLT, Int.reduceLE, D.int.injEq, D.str.injEq, D.bl.injEq, D.tup.injEq, D.lst.injEq, exists_const, Int.zero_add, Nat.zero_add, Int.natCast_add, Int.natCast_one, Int.reduceAdd, XSeq, XIf, XRaise, XExp, XRet, XMeth, XCall, XIfIs, STry, TFld, TMeth, lk_wide, lk_spots, lk_many, lk_num, ne_mt, ne_ft, ne_ot, ne_lt, ne_fm, ne_om, ne_lm, ne_of, ne_lf, ne_lo, walkD, walkV, intsD, sp_is_corner]
      refine ⟨k - 1, gs.length, b, ⟨rfl, rfl⟩, ob, ?_⟩
      cases ec : isCorner gs.length b with
      | false => rw [ec] at h; exact iteT (by simpa using h)
      | true =>
        rw [ec, Bool.true_and] at h
        obtain ⟨qs, rfl, hql, hqe⟩ := corner_box ob ec
        have obx : OkBox qs := ⟨by have := hg.s2; omega, hqe⟩
        refine iteF ⟨no_leaf, gs, m, q, "over", [boxD qs], tk, fr_, rfl, hg, h1, h3, hq, ht, hf, .inr (.inr ⟨qs, rfl, obx⟩), ?_⟩
        cases e : leafB gs m q "over" [boxD qs] tk fr_ <;> rw [e] at h <;> simpa using h
    · rw [go_lack] at h
      have ob := (okT_at hd).2 b (by simp)
      simp only [SSeq, SNil, SIf, SRet, SSet, SAsg, SPar, SMuL, SApp, SExt, SPut, SFz, frzR, SNo, TVar, TC, TOp, TB, TNil, TCons, TTup, TLst, TKey, oIx, seqOf, TAnd, TOr, TNot, TAndV, TOrV, TNotV, TIf, TCB, cLen, cAbs, cMax2, cMin2, cAll, cList, cTuple, cInt, TIsi, isD, tyD, TCall, TChain, TLc, TLc0, SFor, ISeq, IRg1, IRg2, IZip, TSl, TPs, TPn, slD, cut1, opII, opI0, TNeg, oAdd, oIsN, oNotN, oIsB, opEq, eqD, getS, startR, GName, GNil, GCons, GTup, List.map_cons, List.map_nil, List.length_cons, List.length_nil, List.cons_append, List.nil_append, List.set_cons_zero, List.set_cons_succ, List.replicate, List.append_nil, Option.map_some, Bool.not_true, Bool.not_false, Bool.false_eq_true, if_true, if_false, ite_true, ite_false, reduceIte, Nat.sub_self, Nat.reduceAdd, Nat.reduceSub, Bool.or_true, Bool.or_false, Bool.true_or, Bool.false_or, Bool.and_true, Bool.and_false, decide_true, decide_false, List.getElem?_cons_zero, List.getElem?_cons_succ, Option.some.injEq, exists_eq_left', exists_eq_left, true_and, and_true, at0, at1, at2, at3, List.length_map, List.cons.injEq, Int.cast_ofNat_Int, Int.reduceEq, Int.reduceLT, Int.reduceLE, D.int.injEq, D.str.injEq, D.bl.injEq, D.tup.injEq, D.lst.injEq, exists_const, Int.zero_add, Nat.zero_add, Int.natCast_add, Int.natCast_one, Int.reduceAdd, XSeq, XIf, XRaise, XExp, XRet, XMeth, XCall, XIfIs, STry, TFld, TMeth, lk_wide, lk_spots, lk_many, lk_num, ne_mt, ne_ft, ne_ot, ne_lt, ne_fm, ne_om, ne_lm, ne_of, ne_lf, ne_lo, walkD, walkV, intsD, sp_is_corner]
      refine ⟨k - 1, gs.length, b, ⟨rfl, rfl⟩, ob, ?_⟩
      cases ec : isCorner gs.length b with
      | false => rw [ec] at h; exact iteT (by simpa using h)
      | true =>
        rw [ec, Bool.true_and] at h
        obtain ⟨qs, rfl, hql, hqe⟩ := corner_box ob ec
        have obx : OkBox qs := ⟨by have := hg.s2; omega, hqe⟩
        refine iteF ⟨no_leaf, gs, m, q, "lack", [boxD qs], tk, fr_, rfl, hg, h1, h3, hq, ht, hf, .inr (.inr ⟨qs, rfl, obx⟩), ?_⟩
        cases e : leafB gs m q "lack" [boxD qs] tk fr_ <;> rw [e] at h <;> simpa using h
abbrev s_lets_least : Stmt := top 61
theorem sc_lets_least : FnScope ["grid", "many", "number", "thing", "walk"] ["grid", "many", "number", "thing"] (defScope s_lets_least) := ⟨rfl, rfl, rfl, by decide +kernel, rfl, by decide +kernel, by decide +kernel⟩
theorem ok_lets_least (F0 : Df K mg "lets_least" s_lets_least) (B : Bt mg) (Wk : WkF K mg C) (NP : NoP K mg CN (inClass (top 4) 0)) (C0 : Cs K w mg) (h_go : HasMX Pr w K mg base CN C "go" ["self", "thing", "path", "taken", "free"] (k_Walk_go 9) (sp_Walk_go C 9)) (h_places_of : Has Pr w K mg base "places_of" ["grid"] k_places_of sp_places_of) : HasX Pr w K mg base CN "lets_least" ["grid", "many", "number", "thing"] k_lets_least sp_lets_least := by
  have sc := sc_lets_least
  refine has_mkX (CN := CN) (k := _) F0 sc (fun _ _ _ _ _ _ us hl => match us, hl with | [_, _, _, _], _ => rfl) len_lets_least (fun f cdv A outer s H E hr => ⟨_,
    (xCons (xL (sSet 4 sc.nd (vWalk Wk B h_places_of hr (aCons (vN 0) (aCons (vN 1) (aCons (vN 2) aNil))))))
    (xOne (xRet (xMeth (takes_of rfl rfl rfl rfl) Wk.cl h_go hr (vN 4) (aCons (vN 3) (aCons (vTup aNil) (aCons (vLst aNil) (aCons (vListRg B.list B.range (vLen B.len (aCons (vFld Wk.cl Wk.n_spots (vN 4)) aNil))) aNil)))))))), ?_⟩)
  rintro _ n P R ⟨k, gs, m, q, d, rfl, hd, hg, h1, h3, hq, h⟩
  simp only [SSeq, SNil, SIf, SRet, SSet, SAsg, SPar, SMuL, SApp, SExt, SPut, SFz, frzR, SNo, TVar, TC, TOp, TB, TNil, TCons, TTup, TLst, TKey, oIx, seqOf, TAnd, TOr, TNot, TAndV, TOrV, TNotV, TIf, TCB, cLen, cAbs, cMax2, cMin2, cAll, cList, cTuple, cInt, TIsi, isD, tyD, TCall, TChain, TLc, TLc0, SFor, ISeq, IRg1, IRg2, IZip, TSl, TPs, TPn, slD, cut1, opII, opI0, TNeg, oAdd, oIsN, oNotN, oIsB, opEq, eqD, getS, startR, GName, GNil, GCons, GTup, List.map_cons, List.map_nil, List.length_cons, List.length_nil, List.cons_append, List.nil_append, List.set_cons_zero, List.set_cons_succ, List.replicate, List.append_nil, Option.map_some, Bool.not_true, Bool.not_false, Bool.false_eq_true, if_true, if_false, ite_true, ite_false, reduceIte, Nat.sub_self, Nat.reduceAdd, Nat.reduceSub, Bool.or_true, Bool.or_false, Bool.true_or, Bool.false_or, Bool.and_true, Bool.and_false, decide_true, decide_false, List.getElem?_cons_zero, List.getElem?_cons_succ, Option.some.injEq, exists_eq_left', exists_eq_left, true_and, and_true, at0, at1, at2, at3, List.length_map, List.cons.injEq, Int.cast_ofNat_Int, Int.reduceEq, Int.reduceLT, Int.reduceLE, D.int.injEq, D.str.injEq, D.bl.injEq, D.tup.injEq, D.lst.injEq, exists_const, Int.zero_add, Nat.zero_add, Int.natCast_add, Int.natCast_one, Int.reduceAdd, XSeq, XIf, XRaise, XExp, XRet, XMeth, XCall, XIfIs, STry, TFld, TMeth, lk_wide, lk_spots, lk_many, lk_num, ne_mt, ne_ft, ne_ot, ne_lt, ne_fm, ne_om, ne_lm, ne_of, ne_lf, ne_lo, TWalk, walkV, TLstRg1]
  have hN := hg.len
  have hdn : ∀ xs ∈ prodL gs, ∀ x ∈ xs, x.den ≤ 1000 := fun xs hxs x hx => by
    obtain ⟨g, hg2, hxg⟩ := (mem_prodL.mp hxs).of_mem x hx
    exact (hg.nums g hg2 x hxg).2.2
  have ok0 : OkPl (prodL gs) [] := ⟨by simp, fun k hk => (nomatch hk), hdn⟩
  have okN : OkPl (prodL gs) (rgI 0 (prodL gs).length) := ⟨by rw [rgI_length]; omega, fun k hk => by have := mem_rgI.mp hk; omega, hdn⟩
  refine ⟨gs, _, _, ⟨rfl, rfl, rfl⟩, hg, no_go, sz8 (by omega), sz8 (by omega), by unfold RgOk; omega, ?_⟩
  exact ⟨k, gs, m, q, d, [], [], rgI 0 (prodL gs).length, rfl, hd, hg, h1, h3, hq, ok0, okN, (by show 0 + (rgI 0 ((prodL gs).length : Int)).length ≤ 8; rw [rgI_length]; omega), (by show (rgI 0 ((prodL gs).length : Int)).length ≤ 8; rw [rgI_length]; omega), (by show 0 + 8 ≤ 64; omega), h⟩
end
end Pu

/-! PuK: the tape of a script, drawn from. -/
namespace Pu
open PySem PySem.Spec PyProof.Rows L2
section
variable {K : PySem.W.Frag} {tp ca : Addr} {n n' : Nat} {G H : Hp} {s l t s' l' t' : Int}
theorem Good.turn {cells : List Int} (g : Good K tp n G H) (e : H tp = some (.dK (tapeKV ca s l t))) (hc : G ca = some (.lst (cells.map V.int))) (hl : cells.length ≤ 63) (h1 : 0 ≤ s') (h2 : 0 ≤ l') (h3 : 0 ≤ t') (h4 : t' ≤ n') :
    Good K tp n' G (upd H tp (.dK (tapeKV ca s' l' t'))) ∧ Step tp G H G (upd H tp (.dK (tapeKV ca s' l' t'))) := by
  refine ⟨⟨fun b o q => ?_, g.gt, ca, s', l', t', cells, upd_same, hc, hl, h1, h2, h3, h4⟩, Same.refl _, fun b o hb q => by rw [upd_ne hb]; exact q, fun b o _ q => q⟩
  by_cases hb : b = tp
  · subst hb; rw [g.gt] at q; cases q
  · rw [upd_ne hb]; exact g.sub _ _ q
theorem ge_cells : DGet H tp (.str "cells") (some (.ref ca)) ↔ DGet H tp (.str "cells") (some (.ref ca)) := Iff.rfl
variable (e : H tp = some (.dK (tapeKV ca s l t)))
include e
theorem get_cells : DGet H tp (.str "cells") (some (.ref ca)) := by
  have := DGet.k (k := .inr "cells") e
  exact this
theorem get_spot : DGet H tp (.str "spot") (some (.int s)) := by
  have := DGet.k (k := .inr "spot") e
  exact this
theorem get_left : DGet H tp (.str "left") (some (.int l)) := by
  have := DGet.k (k := .inr "left") e
  exact this
theorem get_turn : DGet H tp (.str "turn") (some (.int t)) := by
  have := DGet.k (k := .inr "turn") e
  exact this
theorem put_spot : DPut H tp (.str "spot") (.int s') (upd H tp (.dK (tapeKV ca s' l t))) := by
  have := DPut.k (k := .inr "spot") (v := .int s') e (by show 4 < sizeLine; decide)
  exact this
theorem put_left : DPut H tp (.str "left") (.int l') (upd H tp (.dK (tapeKV ca s l' t))) := by
  have := DPut.k (k := .inr "left") (v := .int l') e (by show 4 < sizeLine; decide)
  exact this
theorem put_turn : DPut H tp (.str "turn") (.int t') (upd H tp (.dK (tapeKV ca s l t'))) := by
  have := DPut.k (k := .inr "turn") (v := .int t') e (by show 4 < sizeLine; decide)
  exact this
end
abbrev k_l_draw : Nat := 2
def sp_l_draw : PSp := fun ds n P => ∃ m : Int, ds = [.tape, .int m] ∧ 1 ≤ m ∧ m < 1073741824 ∧ n < 2 ^ 40 ∧ ∀ r, 0 ≤ r → r < m → P (.int r) (n + 1)
theorem len_l_draw : ∀ ds n P, sp_l_draw ds n P → ds.length = (["_law_tape_here", "_law_many"] : List Str).length := by rintro _ n P ⟨_, rfl, _⟩; rfl
abbrev s_l_draw : Stmt := top 64
theorem sc_l_draw : FnScope ["_law_tape_here", "_law_many", "_law_cells", "_law_turn", "_law_cell", "_law_mixed", "_law_digit"] ["_law_tape_here", "_law_many"] (defScope s_l_draw) := ⟨rfl, rfl, rfl, by decide +kernel, rfl, by decide +kernel, by decide +kernel⟩
section
variable {Pr : Program} {w : World} {K : PySem.W.Frag} {mg : Str → Option Value} {base : Heap}
theorem upd_twice {H : Hp} {p : Addr} {o u : HO} : upd (upd H p o) p u = upd H p u := by
  funext b
  by_cases h : b = p
  · subst h; rw [upd_same, upd_same]
  · rw [upd_ne h, upd_ne h, upd_ne h]
theorem atI_int {ks : List Int} {i : Int} (h0 : 0 ≤ i) (h : i.toNat < ks.length) : atI (ks.map D.int) i = some (.int ks[i.toNat]) := by
  obtain ⟨k, rfl⟩ := Int.eq_ofNat_of_zero_le h0
  rw [Int.toNat_natCast] at h
  rw [atI_nat, List.getElem?_map, List.getElem?_eq_getElem h]
  rfl
theorem atI_intV {ks : List Int} {i : Int} (h0 : 0 ≤ i) (h : i.toNat < ks.length) : atI (ks.map V.int) i = some (.int ks[i.toNat]) := by
  obtain ⟨k, rfl⟩ := Int.eq_ofNat_of_zero_le h0
  rw [Int.toNat_natCast] at h
  have e : (k : Int) < ks.length := by omega
  simp [atI, ixN, e]
theorem plain_ints : ∀ ks : List Int, (D.lst (ks.map D.int)).plain = true := fun ks => plainL_of _ fun d hd => by
  obtain ⟨i, _, rfl⟩ := List.mem_map.mp hd
  rfl
theorem pyL_ints : ∀ ks : List Int, pyL (ks.map D.int) = ks.map PyData.int
  | [] => rfl
  | k :: ks => by
    show D.py (.int k) :: pyL (ks.map D.int) = _
    rw [pyL_ints ks]; rfl
theorem lay_ints : ∀ ks : List Int, PyData.canLayAll0 (ks.map PyData.int) = true
  | [] => rfl
  | k :: ks => by simp [PyData.canLayAll0, PyData.canLay0, lay_ints ks]
theorem dep_ints : ∀ ks : List Int, PyData.depthAll (ks.map PyData.int) ≤ 1
  | [] => by simp [PyData.depthAll]
  | k :: ks => by
    have := dep_ints ks
    simp only [List.map_cons, PyData.depthAll, PyData.depth]
    exact Nat.max_le.mpr ⟨by omega, this⟩
theorem shaped_ints (ks : List Int) : SeqAt.shaped (D.lst (ks.map D.int)).py = true := by
  show SeqAt.shaped (.list (pyL (ks.map D.int))) = true
  rw [pyL_ints]
  have := dep_ints ks
  unfold SeqAt.shaped
  rw [Bool.and_eq_true, decide_eq_true_eq]
  exact ⟨lay_ints ks, by show PyData.depthAll (ks.map PyData.int) + 1 ≤ 64; omega⟩
theorem tWhile_mk {c : TT} {tb : TS} {D : Ends} {σ : L2.St} {H : Hp} (W : Nat → L2.St → Hp → Prop) (Dn : L2.St → Hp → Prop) (h0 : ∃ m, W m σ H) (hd : ∀ σ H, Dn σ H → D.nx σ H)
    (hs : ∀ NX : L2.St → Hp → Prop, (∀ σ H, Dn σ H → NX σ H) → ∀ m σ H, W m σ H → c σ H fun b H1 => if b = true then ∃ N : L2.St → Hp → Prop, (∀ σ' H', N σ' H' → ∃ m', m' < m ∧ W m' σ' H') ∧ tb { D with nx := N, ct := N, bk := NX } σ H1 else NX σ H1) : tWhile c tb D σ H :=
  ⟨W, h0, hs D.nx hd⟩
theorem valV_int {i : Int} {v : V} : (v = .int i) → v = .int i := id
theorem dec_int0 {l : Int} : decide (V.int l = V.int 0) = decide (l = 0) := decide_eq_decide.mpr ⟨fun h => by cases h; rfl, fun h => by rw [h]⟩
theorem ok_l_draw (F0 : Df K mg "_law_draw" s_l_draw) (B : Bt mg) : Has Pr w K mg base "_law_draw" ["_law_tape_here", "_law_many"] k_l_draw sp_l_draw := by
  have sc := sc_l_draw
  obtain ⟨f, fd, F1, hm⟩ := F0.ex
  have bn : Binds K fd ["_law_tape_here", "_law_many"] [] := F1.bindsN fun _ _ _ _ _ _ us hl => match us, hl with | [_, _], _ => rfl
  refine ⟨f, fd, F1.ok (k := 1) sc (spOf_len len_l_draw) fun cdv A outer s H vs Q E hr hsp => ?_, hm, F1.kp, bn⟩
  have hu := roomU hr
  have tl : ∃ S, PSts (cxOf CX0 Pr w K mg base ["_law_tape_here", "_law_many", "_law_cells", "_law_turn", "_law_cell", "_law_mixed", "_law_digit"] "_law_draw" (defScope s_l_draw) f cdv A outer s H E).nox ((defBody s_l_draw).drop 5) S ∧
      ∀ (n : Nat) (cells : List Int) (t m : Int) (P : D → Nat → Prop), cells.length ≤ 63 → 0 ≤ t → t < 2 ^ 41 → 1 ≤ m → (∀ r, 0 ≤ r → r < m → P (.int r) n) → S { nx := fun _ n' => P .non n', rt := P } [.val .tape, .val (.int m), .val (intsD cells), .val (.int t), .un, .un, .un] n := by
    refine ⟨_, (bCons (sSet 4 sc.nd (vIf (bNe hr (vN 2) (vLst aNil)) (vIx (vN 2) (vMod (vN 3) (vLen B.len (aCons (vN 2) aNil)))) vI))
      (bCons (sSet 5 sc.nd (vMod (vMul (vAdd (vAdd (vMod (vN 4) vI) (vMul (vMul vI (vN 3)) (vN 3))) vI) vI) vI))
      (bCons (sSet 5 sc.nd (vMod (vMul (vAdd (vDiv (vN 5) vI) (vMul vI (vN 3))) vI) vI))
      (bOne (sRet (vMod (vDiv (vN 5) vI) (vN 1))))))), ?_⟩
    intro n cells t m P hl h0 h1 hm h
    have t64 : CMul 977 t := .inl ⟨by omega, by omega⟩
    have t64b : CMul (977 * t) t := .inr ⟨by omega, by omega⟩
    have t64c : CMul 7919 t := .inl ⟨by omega, by omega⟩
    have c1 : ∀ i, CMul i 48271 := fun i => .inr ⟨by omega, by omega⟩
    have c2 : ∀ i, CMul i 69621 := fun i => .inr ⟨by omega, by omega⟩
    have d64 : ∀ i, CDiv i 64 := fun i => ⟨by omega, by omega⟩
    have fin : ∀ i : Int, P (.int (i % m)) n := fun i => h _ (Int.emod_nonneg _ (by omega)) (Int.emod_lt_of_pos _ (by omega))
    simp only [SSeq, SNil, SIf, SRet, SSet, SAsg, SPar, SMuL, SApp, SExt, SPut, SFz, frzR, SNo, TVar, TC, TOp, TB, TNil, TCons, TTup, TLst, TKey, oIx, seqOf, TAnd, TOr, TNot, TAndV, TOrV, TNotV, TIf, TCB, cLen, cAbs, cMax2, cMin2, cAll, cList, cTuple, cInt, TIsi, isD, tyD, TCall, TChain, TLc, TLc0, SFor, ISeq, IRg1, IRg2, IZip, TSl, TPs, TPn, slD, cut1, opII, opI0, TNeg, oAdd, oIsN, oNotN, oIsB, opEq, eqD, getS, startR, GName, GNil, GCons, GTup, List.map_cons, List.map_nil, List.length_cons, List.length_nil, List.cons_append, List.nil_append, List.set_cons_zero, List.set_cons_succ, List.replicate, List.append_nil, Option.map_some, Bool.not_true, Bool.not_false, Bool.false_eq_true, if_true, if_false, ite_true, ite_false, reduceIte, Nat.sub_self, Nat.reduceAdd, Nat.reduceSub, Bool.or_true, Bool.or_false, Bool.true_or, Bool.false_or, Bool.and_true, Bool.and_false, decide_true, decide_false, List.getElem?_cons_zero, List.getElem?_cons_succ, Option.some.injEq, exists_eq_left', exists_eq_left, true_and, and_true, at0, at1, at2, at3, List.length_map, List.cons.injEq, Int.cast_ofNat_Int, Int.reduceEq, Int.reduceLT, Int.reduceLE, D.int.injEq, D.str.injEq, D.bl.injEq, D.tup.injEq, D.lst.injEq, exists_const, Int.zero_add, Nat.zero_add, Int.natCast_add, Int.natCast_one, Int.reduceAdd, intsD]
    refine ⟨Nat.zero_le _, plain_ints cells, shaped_ints cells, ite2 (fun hb => ?_) (fun hb => ?_)⟩
    · have hcl : 0 < cells.length := by
        cases cells with
        | nil => simp at hb
        | cons _ _ => simp
      have r0 := Int.emod_nonneg t (show (cells.length : Int) ≠ 0 by omega)
      have r1 := Int.emod_lt_of_pos t (show (0 : Int) < cells.length by omega)
      have rn : (t % (cells.length : Int)).toNat < cells.length := by omega
      have re : t % (cells.length : Int) = ((t % (cells.length : Int)).toNat : Int) := by omega
      refine ⟨by omega, .int cells[(t % (cells.length : Int)).toNat], ?_, by omega, t64, t64b, c1 _, d64 _, t64c, c2 _, d64 _, by omega, fin _⟩
      exact atI_int (by omega) rn
    · exact ⟨t64, t64b, c1 _, d64 _, t64c, c2 _, d64 _, by omega, fin _⟩
  obtain ⟨S, hS, tail⟩ := tl
  obtain ⟨tt, pt, qt⟩ := hS.ex
  refine ⟨_, PSs.nox (pss_cons (ps_set (i := 2) sc.nd rfl (Or.inl rfl) (pe_dget hu (pe_var (i := 0) rfl (Or.inl rfl) (by decide) (by decide)) pe_str (fun _ _ => rfl)) (by rfl))
    (pss_cons (ps_dput hu (pe_var (i := 0) rfl (Or.inl rfl) (by decide) (by decide)) pe_str (pe_op op_add (pe_dget hu (pe_var (i := 0) rfl (Or.inl rfl) (by decide) (by decide)) pe_str (fun _ _ => rfl)) pe_int) (by rfl))
    (pss_cons (ps_while .never (PW.pt (pw_and (pt_cmpR op_eq (pe_dget hu (pe_var (i := 0) rfl (Or.inl rfl) (by decide) (by decide)) pe_str (fun _ _ => rfl)) pe_int (nomark _))
        (pw_and1 (pt_cmpR op_lt (pe_dget hu (pe_var (i := 0) rfl (Or.inl rfl) (by decide) (by decide)) pe_str (fun _ _ => rfl)) (pe_callB call_len_seq (by rfl) B.len PySem.boot_len (pa_cons (pe_var (i := 2) rfl (Or.inl rfl) (by decide) (by decide)) pa_nil (by rfl)) (by decide) (by decide) (by rfl) (by rfl)) (nomark _)))))
      (pss_cons (ps_if (pt_cmpR op_ge (pe_ix ix_seq (pe_var (i := 2) rfl (Or.inl rfl) (by decide) (by decide)) (pe_dget hu (pe_var (i := 0) rfl (Or.inl rfl) (by decide) (by decide)) pe_str (fun _ _ => rfl)) (fun _ _ => rfl)) (pe_op op_pow pe_int pe_int) (nomark _))
          (pss_one (ps_dput hu (pe_var (i := 0) rfl (Or.inl rfl) (by decide) (by decide)) pe_str (pe_ix ix_seq (pe_var (i := 2) rfl (Or.inl rfl) (by decide) (by decide)) (pe_dget hu (pe_var (i := 0) rfl (Or.inl rfl) (by decide) (by decide)) pe_str (fun _ _ => rfl)) (fun _ _ => rfl)) (by rfl)))
          pss_nil)
        (pss_one (ps_dput hu (pe_var (i := 0) rfl (Or.inl rfl) (by decide) (by decide)) pe_str (pe_op op_add (pe_dget hu (pe_var (i := 0) rfl (Or.inl rfl) (by decide) (by decide)) pe_str (fun _ _ => rfl)) pe_int) (by rfl)))))
    (pss_cons (ps_if (pt_cmpR op_gt (pe_dget hu (pe_var (i := 0) rfl (Or.inl rfl) (by decide) (by decide)) pe_str (fun _ _ => rfl)) pe_int (nomark _))
        (pss_cons (ps_set (i := 6) sc.nd rfl (Or.inl rfl) (pe_op op_mod (pe_dget hu (pe_var (i := 0) rfl (Or.inl rfl) (by decide) (by decide)) pe_str (fun _ _ => rfl)) (pe_var (i := 1) rfl (Or.inl rfl) (by decide) (by decide))) (by rfl))
        (pss_cons (ps_dput hu (pe_var (i := 0) rfl (Or.inl rfl) (by decide) (by decide)) pe_str (pe_op op_fdiv (pe_dget hu (pe_var (i := 0) rfl (Or.inl rfl) (by decide) (by decide)) pe_str (fun _ _ => rfl)) (pe_var (i := 1) rfl (Or.inl rfl) (by decide) (by decide))) (by rfl))
        (pss_one (ps_ret (pe_var (i := 6) rfl (Or.inl rfl) (by decide) (by decide))))))
        pss_nil)
    (pss_cons (ps_set (i := 3) sc.nd rfl (Or.inl rfl) (pe_dget hu (pe_var (i := 0) rfl (Or.inl rfl) (by decide) (by decide)) pe_str (fun _ _ => rfl)) (by rfl)) pt))))), ?_⟩
  obtain ⟨tp, n, G, ds, P, g, al, ⟨m, rfl, m1, m2, hn, h⟩, k⟩ := hsp
  match vs, al with
  | [v, u], .cons a1 (.cons a2 .nil) =>
    cases a1
    cases a2
    obtain ⟨ca, s0, l0, t0, cells, e, hc, hl63, hs0, hl0, ht0, htn⟩ := g.tape
    have hca : ca ≠ tp := fun z => by subst z; rw [g.gt] at hc; cases hc
    have gt : ∀ s l : Int, 0 ≤ s → 0 ≤ l → Good K tp (n + 1) G (upd H tp (.dK (tapeKV ca s l (t0 + 1)))) ∧ Step tp G H G (upd H tp (.dK (tapeKV ca s l (t0 + 1)))) := fun s l h1 h2 => g.turn e hc hl63 h1 h2 (by omega) (by omega)
    have env : ∀ (H' : Hp) (a b c d : Option V) (sa : Sl), SlAt K tp G H' a sa → (∀ m, sa ≠ .mu m) → EnvAt K tp G H' [some (.ref tp), some (.int m), some (.ref ca), a, b, c, d] [.val .tape, .val (.int m), .val (intsD cells), sa, .un, .un, .un] := by
      intro H' a b c d sa hsa hmu
      refine ⟨rfl, fun i u x e1 e2 => ?_, fun i j p m1 m2 e1 => ?_⟩
      · match i with
        | 0 => cases e1; cases e2; exact ⟨_, rfl, .tape⟩
        | 1 => cases e1; cases e2; exact ⟨_, rfl, .int _⟩
        | 2 => cases e1; cases e2; exact ⟨_, rfl, .lst hc (AtL.ints _)⟩
        | 3 => cases e1; cases e2; exact hsa
        | 4 => cases e1; cases e2; trivial
        | 5 => cases e1; cases e2; trivial
        | 6 => cases e1; cases e2; trivial
        | _ + 7 => simp at e1
      · match i with
        | 0 => cases e1
        | 1 => cases e1
        | 2 => cases e1
        | 3 => exact absurd (Option.some.inj e1) (hmu _)
        | 4 => cases e1
        | 5 => cases e1
        | 6 => cases e1
        | _ + 7 => simp at e1
    refine ⟨V.ref tp, rfl, tp, _, rfl, get_cells e, ?_⟩
    refine ⟨V.ref tp, rfl, tp, .int t0, rfl, get_turn e, t0, 1, rfl, rfl, V.ref tp, rfl, tp, _, rfl, put_turn e, ?_⟩
    refine tWhile_mk (fun k σ H' => σ = [some (.ref tp), some (.int m), some (.ref ca), none, none, none, none] ∧ ∃ s l : Int, 0 ≤ s ∧ 0 ≤ l ∧ H' = upd H tp (.dK (tapeKV ca s l (t0 + 1))) ∧ k = cells.length - s.toNat)
      (fun σ H' => σ = [some (.ref tp), some (.int m), some (.ref ca), none, none, none, none] ∧ ∃ s l : Int, 0 ≤ s ∧ 0 ≤ l ∧ H' = upd H tp (.dK (tapeKV ca s l (t0 + 1)))) ⟨_, rfl, s0, l0, hs0, hl0, rfl, rfl⟩ ?_ ?_
    · rintro σ H' ⟨rfl, s, l, h0s, h0l, rfl⟩
      refine ⟨V.ref tp, rfl, tp, .int l, rfl, get_left upd_same, l, 0, rfl, rfl, decide (0 < l), rfl, ?_⟩
      cases hb : decide (0 < l) with
      | true =>
        have hlp : 0 < l := of_decide_eq_true hb
        refine iteT ?_
        refine ⟨V.ref tp, rfl, tp, .int l, rfl, get_left upd_same, V.int m, rfl, l, m, rfl, rfl, by omega, ?_⟩
        refine ⟨V.ref tp, rfl, tp, .int l, rfl, get_left upd_same, V.int m, rfl, l, m, rfl, rfl, ⟨by omega, m2⟩, V.ref tp, rfl, tp, _, rfl, put_left upd_same, ?_⟩
        refine ⟨V.int (l % m), rfl, ?_⟩
        rw [upd_twice]
        obtain ⟨g2, s2⟩ := gt s (l / m) h0s (Int.ediv_nonneg (by omega) (by omega))
        exact k (.int (l % m)) (n + 1) _ G _ g2 s2 (.int _) (h _ (Int.emod_nonneg _ (by omega)) (Int.emod_lt_of_pos _ (by omega)))
      | false =>
        refine iteF ?_
        refine ⟨V.ref tp, rfl, tp, .int (t0 + 1), rfl, get_turn upd_same, ?_⟩
        obtain ⟨g2, s2⟩ := gt s l h0s h0l
        refine qt tp (n + 1) G H G _ _ _ _ _ ⟨g2, s2, env _ (some (.int (t0 + 1))) none none none (.val (.int (t0 + 1))) ⟨_, rfl, .int _⟩ (fun m z => by cases z), ?_⟩ (tail (n + 1) cells (t0 + 1) m P hl63 (by omega) (by omega) m1 fun r hr0 hr1 => h r hr0 hr1) ⟨fun σ ρ n' G' H' sg w' h' => ?_, fun d n' v G' H' g' s' a' h' => k d n' v G' H' g' s' a' h', fun _ _ _ _ _ _ _ h' => h'.elim, fun _ _ _ _ _ _ _ h' => h'.elim⟩
        · intro i m p e1
          match i with
          | 0 => cases e1
          | 1 => cases e1
          | 2 => cases e1
          | 3 => cases e1
          | 4 => cases e1
          | 5 => cases e1
          | 6 => cases e1
          | _ + 7 => simp at e1
        · exact k .non n' .non G' H' w'.good w'.step .non h'
    · rintro NX hNX kk σ H' ⟨rfl, s, l, h0s, h0l, rfl, rfl⟩
      refine ⟨V.ref tp, rfl, tp, .int l, rfl, get_left upd_same, rfl, decide (V.int l = V.int 0), rfl, ?_⟩
      obtain ⟨g2, s2⟩ := gt s l h0s h0l
      cases hb : decide (V.int l = V.int 0) with
      | false => exact iteF (iteF (hNX _ _ ⟨rfl, s, l, h0s, h0l, rfl⟩))
      | true =>
        refine iteT ⟨V.ref tp, rfl, tp, .int s, rfl, get_spot upd_same, ?_⟩
        have hsq : SqL K (upd H tp (.dK (tapeKV ca s l (t0 + 1)))) ca (cells.map V.int) := SqL.of (g2.sub _ _ hc)
        refine ⟨V.ref ca, rfl, ca, cells.map V.int, rfl, .inl hsq, ?_⟩
        refine ⟨s, _, rfl, rfl, decide (s < ((cells.map V.int).length : Int)), rfl, ?_⟩
        cases hb2 : decide (s < ((cells.map V.int).length : Int)) with
        | false => exact iteF (hNX _ _ ⟨rfl, s, l, h0s, h0l, rfl⟩)
        | true =>
          have hs2 : s < cells.length := by simpa using hb2
          have hsn : s.toNat < cells.length := by omega
          refine iteT ⟨fun σ' H' => σ' = [some (.ref tp), some (.int m), some (.ref ca), none, none, none, none] ∧ ∃ l' : Int, 0 ≤ l' ∧ H' = upd H tp (.dK (tapeKV ca (s + 1) l' (t0 + 1))), ?_, ?_⟩
          · rintro σ' H' ⟨rfl, l', hl', rfl⟩
            exact ⟨_, by omega, rfl, s + 1, l', by omega, hl', rfl, rfl⟩
          · have hix : ∀ Q : VK, (Q (.int cells[s.toNat]) (upd H tp (.dK (tapeKV ca s l (t0 + 1))))) → rIx K (V.ref ca) (V.int s) (upd H tp (.dK (tapeKV ca s l (t0 + 1)))) Q := fun Q hQ => by
              refine .inl ⟨ca, cells.map V.int, s, .int cells[s.toNat], rfl, rfl, hsq, ?_, hQ⟩
              exact atI_intV h0s hsn
            refine ⟨V.ref ca, rfl, V.ref tp, rfl, tp, .int s, rfl, get_spot upd_same, hix _ ?_⟩
            refine ⟨10, 18, rfl, rfl, ⟨by omega, by omega, by omega⟩, _, _, rfl, rfl, _, rfl, ?_⟩
            refine ite2 (fun hb3 => ?_) (fun hb3 => ?_)
            · refine ⟨V.ref ca, rfl, V.ref tp, rfl, tp, .int s, rfl, get_spot upd_same, hix _ ?_⟩
              refine ⟨V.ref tp, rfl, tp, _, rfl, put_left upd_same, ?_⟩
              have hpos : 0 ≤ cells[s.toNat] := by
                have : ((10 : Int) ^ (18 : Int).toNat) ≤ cells[s.toNat] := of_decide_eq_true hb3
                have h10 : (0 : Int) ≤ (10 : Int) ^ (18 : Int).toNat := by decide
                omega
              refine ⟨V.ref tp, rfl, tp, .int s, rfl, get_spot upd_same, s, 1, rfl, rfl, V.ref tp, rfl, tp, _, rfl, put_spot upd_same, ?_⟩
              rw [upd_twice, upd_twice]
              exact ⟨rfl, _, hpos, rfl⟩
            · refine ⟨V.ref tp, rfl, tp, .int s, rfl, get_spot upd_same, s, 1, rfl, rfl, V.ref tp, rfl, tp, _, rfl, put_spot upd_same, ?_⟩
              rw [upd_twice]
              exact ⟨rfl, _, h0l, rfl⟩
/-! ### the tape is made -/
abbrev s_l_tape : Stmt := top 63
theorem sc_l_tape : FnScope ["_law_script"] ["_law_script"] (defScope s_l_tape) := ⟨rfl, rfl, rfl, by decide +kernel, rfl, by decide +kernel, by decide +kernel⟩
def spT (K : PySem.W.Frag) : Sp := fun vs H Q _ => ∃ (a : Addr) (ks : List Int), vs = [.ref a] ∧ SqL K H a (ks.map V.int) ∧ ∀ (H' : Hp) (ca tp : Addr) (cells : List Int), cells.length ≤ 63 → (∀ b o, H b = some o → H' b = some o) → H' ca = some (.lst (cells.map V.int)) → ca ≠ tp → H' tp = some (.dK (tapeKV ca 0 0 0)) → Q (.ref tp) H'
theorem ok_l_tape (F0 : Df K mg "_law_tape" s_l_tape) (B : Bt mg) : ∃ f fd, FnOk Pr w K mg base CX0 1 f fd ["_law_script"] (spT K) ∧ mg "_law_tape" = some (.ref f) ∧ PySem.W.keepIn K (.ref f) = true ∧ Binds K fd ["_law_script"] [] := by
  obtain ⟨f, fd, F1, hm⟩ := F0.ex
  have bn : Binds K fd ["_law_script"] [] := F1.bindsN fun _ _ _ _ _ _ us hl => match us, hl with | [_], _ => rfl
  refine ⟨f, fd, F1.ok (k := 0) sc_l_tape (fun vs H Q E h => ?_) fun cdv A outer s H vs Q E hr hsp => ?_, hm, F1.kp, bn⟩
  · obtain ⟨_, _, rfl, _⟩ := h; rfl
  obtain ⟨a, ks, rfl, hq, h⟩ := hsp
  refine ⟨_, PSs.nox (pss_one (ps_ret (pe_disp (pps_cons pe_str (pe_slice sl_list (pe_var (i := 0) rfl (Or.inl rfl) (by decide) (by decide)) po_none (po_some pe_int)) (pps_cons pe_str pe_int (pps_cons pe_str pe_int (pps_cons pe_str pe_int pps_nil)))) rfl rfl (by simp) (by decide)))), ?_⟩
  intro p hp
  have k0 : ∀ b o, H b = some o → upd H p (.dK []) b = some o := fun b o z => by rw [upd_ne (ne_of_none z hp)]; exact z
  refine ⟨V.ref a, rfl, 63, rfl, a, ks.map V.int, rfl, ?_, fun ca hca => ?_⟩
  · rcases hq with (hq | ⟨o, hq⟩) | hq
    · exact .inl (.inl (k0 _ _ hq))
    · exact .inl (.inr ⟨o, k0 _ _ hq⟩)
    · exact .inr hq
  have ne : p ≠ ca := fun z => by subst z; rw [upd_same] at hca; cases hca
  refine ⟨by rw [upd_ne ne, upd_same], [(.inr "cells", .ref ca), (.inr "spot", .int 0), (.inr "left", .int 0), (.inr "turn", .int 0)], rfl, (by show 4 ≤ 15; omega), ?_⟩
  have em : mergeK [] [(Sum.inr "cells", V.ref ca), (Sum.inr "spot", V.int 0), (Sum.inr "left", V.int 0), (Sum.inr "turn", V.int 0)] = tapeKV ca 0 0 0 := rfl
  rw [em, cutV_map]
  refine h _ ca p (cutD ks none (some 63)) ?_ (fun b o z => ?_) ?_ (Ne.symm ne) upd_same
  · unfold cutD
    rw [List.length_take]
    have : HT.sIx ks.length ks.length (some 63) ≤ 63 := by
      have e := HT.sIx_nat ks.length ks.length 63
      rw [show ((63 : Nat) : Int) = 63 from rfl] at e
      rw [e]
      exact Nat.min_le_left _ _
    omega
  · have bp : b ≠ p := ne_of_none z hp
    have bc : b ≠ ca := fun q => by subst q; rw [k0 _ _ z] at hca; cases hca
    rw [upd_ne bp, upd_ne bc, upd_ne bp]
    exact z
  · rw [upd_ne (Ne.symm ne), upd_same]
end
end Pu


/-! M1: fractions, compared. -/
namespace Pu
theorem mk_eq {a : Int} {b : Nat} (hb : 0 < b) : ∃ g : Int, 0 < g ∧ a = (mkRat a b).num * g ∧ (b : Int) = (mkRat a b).den * g := by
  obtain ⟨m, hm, h1, h2⟩ := Rat.mkRat_num_den (n := a) (d := b) (by omega) (h := (rfl : mkRat a b = ⟨(mkRat a b).num, (mkRat a b).den, (mkRat a b).den_nz, (mkRat a b).reduced⟩))
  refine ⟨m, by omega, h1, ?_⟩
  exact_mod_cast h2
theorem mk_le {a c : Int} {b d : Nat} (hb : 0 < b) (hd : 0 < d) : mkRat a b ≤ mkRat c d ↔ a * d ≤ c * b := by
  obtain ⟨g, g0, e1, e2⟩ := mk_eq (a := a) hb
  obtain ⟨k, k0, e3, e4⟩ := mk_eq (a := c) hd
  rw [Rat.le_iff]
  generalize (mkRat a b).num = p at *
  generalize ((mkRat a b).den : Int) = q at *
  generalize (mkRat c d).num = r at *
  generalize ((mkRat c d).den : Int) = s at *
  have hgk : 0 < g * k := Int.mul_pos g0 k0
  have h1 : a * (d : Int) = (p * s) * (g * k) := by rw [e1, e4]; simp only [Int.mul_assoc, Int.mul_left_comm, Int.mul_comm]
  have h2 : c * (b : Int) = (r * q) * (g * k) := by rw [e3, e2]; simp only [Int.mul_assoc, Int.mul_left_comm, Int.mul_comm]
  rw [h1, h2]
  exact ⟨fun h => Int.mul_le_mul_of_nonneg_right h (Int.le_of_lt hgk), fun h => Int.le_of_mul_le_mul_right h hgk⟩
theorem mk_lt {a c : Int} {b d : Nat} (hb : 0 < b) (hd : 0 < d) : mkRat a b < mkRat c d ↔ a * d < c * b := by
  rw [← Rat.not_le, mk_le hd hb, Int.not_le]
theorem mk_sub {a c : Int} {b d : Nat} (hb : 0 < b) (hd : 0 < d) : mkRat a b - mkRat c d = mkRat (a * d - c * b) (b * d) := by
  rw [Rat.sub_eq_add_neg, Rat.neg_mkRat, Rat.mkRat_add_mkRat _ _ (by omega) (by omega)]
  congr 1
  rw [Int.neg_mul]
  omega
theorem mk_le_same {a c : Int} {b : Nat} (hb : 0 < b) : mkRat a b ≤ mkRat c b ↔ a ≤ c := by
  rw [mk_le hb hb]
  have : (0 : Int) < b := by omega
  exact ⟨fun h => Int.le_of_mul_le_mul_right h this, fun h => Int.mul_le_mul_of_nonneg_right h (by omega)⟩
theorem mk_lt_same {a c : Int} {b : Nat} (hb : 0 < b) : mkRat a b < mkRat c b ↔ a < c := by
  rw [← Rat.not_le, mk_le_same hb, Int.not_le]
theorem mk_inj {a c : Int} {b : Nat} (hb : 0 < b) : mkRat a b = mkRat c b ↔ a = c := by
  constructor
  · intro h
    have h1 := (mk_le_same hb).mp (h ▸ Rat.le_refl : mkRat a b ≤ mkRat c b)
    have h2 := (mk_le_same hb).mp (h ▸ Rat.le_refl : mkRat c b ≤ mkRat a b)
    omega
  · rintro rfl; rfl
theorem mk_zero {b : Nat} (hb : 0 < b) : mkRat 0 b = 0 := by
  rw [Rat.mkRat_eq_zero (by omega)]
theorem mk_one {b : Nat} (hb : 0 < b) : mkRat b b = 1 := by
  have : mkRat ((b : Int) * 1) (b * 1) = mkRat 1 1 := Rat.mkRat_mul_left (by omega)
  rw [Int.mul_one, Nat.mul_one] at this
  rw [this]; rfl
theorem mk_pos {a : Int} {b : Nat} (hb : 0 < b) : 0 ≤ mkRat a b ↔ 0 ≤ a := by
  rw [← mk_zero hb]
  exact mk_le_same hb
theorem mk_le1 {a : Int} {b : Nat} (hb : 0 < b) : mkRat a b ≤ 1 ↔ a ≤ b := by
  rw [← mk_one hb]
  exact mk_le_same hb
end Pu

/-! W7: the law's own counting, by whole numbers. -/
namespace Pu
open PySem PySem.Spec PyProof.Rows L2
def tupI (xs : List Int) : D := .tup (xs.map D.int)
def rowsD (rows : List (List Int)) : D := .lst (rows.map intsD)
def caseD (b : Nat) (rows : List (List Int)) : D := .tup [.int b, rowsD rows]
structure OkR (b : Nat) (rows : List (List Int)) : Prop where
  b9 : 9 ≤ b
  b997 : b ≤ 997
  s1 : 1 ≤ rows.length
  s2 : rows.length ≤ 2
  row : ∀ r ∈ rows, r.length ≤ 8
  nums : ∀ r ∈ rows, ∀ x ∈ r, 0 ≤ x ∧ x < b
  srt : ∀ r ∈ rows, r.Pairwise (· < ·)
  pos : 1 ≤ (prodL rows).length
  len : (prodL rows).length ≤ 8
def gsOf (b : Nat) (rows : List (List Int)) : List (List Rat) := rows.map fun r => r.map fun x => mkRat x b
theorem extL_map {α β : Type} (f : α → β) (l : List (List α)) (g : List α) : extL (l.map (List.map f)) (g.map f) = (extL l g).map (List.map f) := by
  unfold extL
  rw [List.flatMap_map, List.map_flatMap]
  congr 1
  funext b
  rw [List.map_map, List.map_map]
  congr 1
  funext x
  simp
theorem foldExt_map {α β : Type} (f : α → β) : ∀ (gs : List (List α)) (l : List (List α)), (gs.map (List.map f)).foldl extL (l.map (List.map f)) = (gs.foldl extL l).map (List.map f)
  | [], l => rfl
  | g :: gs, l => by
    rw [List.map_cons, List.foldl_cons, List.foldl_cons, extL_map, foldExt_map f gs]
theorem prodL_map {α β : Type} (f : α → β) (gs : List (List α)) : prodL (gs.map (List.map f)) = (prodL gs).map (List.map f) := foldExt_map f gs [[]]
theorem frac_bds {x : Int} {b : Nat} (hb : 0 < b) (h0 : 0 ≤ x) (h1 : x ≤ b) : 0 ≤ mkRat x b ∧ mkRat x b ≤ 1 ∧ (mkRat x b).den ≤ b := by
  exact ⟨(mk_pos hb).mpr h0, (mk_le1 hb).mpr h1, mkRat_den x b (by omega)⟩
theorem okG_of {b : Nat} {rows : List (List Int)} (h : OkR b rows) : OkG (gsOf b rows) := by
  have hb : 0 < b := by have := h.b9; omega
  have e : prodL (gsOf b rows) = (prodL rows).map (List.map fun x => mkRat x b) := prodL_map _ rows
  refine ⟨?_, ?_, ?_, ?_, fun g hg => ?_, fun g hg x hx => ?_⟩
  · rw [gsOf, List.length_map]; exact h.s1
  · rw [gsOf, List.length_map]; exact h.s2
  · rw [e, List.length_map]; exact h.pos
  · rw [e, List.length_map]; exact h.len
  · obtain ⟨r, hr, rfl⟩ := List.mem_map.mp hg
    rw [List.length_map]; exact h.row r hr
  · obtain ⟨r, hr, rfl⟩ := List.mem_map.mp hg
    obtain ⟨y, hy, rfl⟩ := List.mem_map.mp hx
    obtain ⟨h0, h1⟩ := h.nums r hr y hy
    obtain ⟨a, c, d⟩ := frac_bds hb h0 (by omega : y ≤ b)
    exact ⟨a, c, by have := h.b997; omega⟩
def lawStep (m : Nat) (l : List (List Int)) (k : Int) : List (List Int) := l ++ (l.filter fun S => decide (S.length < m)).map fun S => S ++ [k]
def lawSets (N : Int) (m : Nat) : List (List Int) := ((rgI 0 N).foldl (lawStep m) [[]]).filter fun S => decide (S.length = m)
def toD (t : Int) : D := .tup [.str "to", .int 0, .int t]
def lesI (x t : Int) (shut : Bool) : Bool := if shut = true then decide (x ≤ t) else decide (x < t)
def inI (xs ts : List Int) (shut : Bool) : Bool := (xs.zip ts).all fun p => lesI p.1 p.2 shut
def sizeI (ts : List Int) : Int := ts.foldl (· * ·) 1
def wholeI (b : Nat) (rows : List (List Int)) : Int := (b : Int) ^ rows.length
def cntI (pl : List (List Int)) (ks ts : List Int) (shut : Bool) : Nat := (ks.filter fun k => inI (pl.getD k.toNat []) ts shut).length
def shownI (b : Nat) (rows : List (List Int)) (m : Nat) (held free ts : List Int) (over : Bool) : Int :=
  let one : Int := cntI (prodL rows) held ts over
  let other : Int := cntI (prodL rows) (held ++ free) ts over
  if over = true then
    let o : Int := m - ((held.length : Int) + free.length - other)
    (if one < o then o else one) * wholeI b rows - m * sizeI ts
  else
    let o : Int := m - ((held.length : Int) - one)
    m * sizeI ts - (if o < other then o else other) * wholeI b rows
/-- places that are held or free -/
structure OkK (rows : List (List Int)) (ks : List Int) : Prop where
  len : ks.length ≤ 8
  at_ : ∀ k ∈ ks, 0 ≤ k ∧ k < (prodL rows).length
structure OkTs (b : Nat) (rows : List (List Int)) (ts : List Int) : Prop where
  len : ts.length = rows.length
  bd : ∀ t ∈ ts, 0 ≤ t ∧ t ≤ b
theorem sizeI_take {b : Nat} {ts : List Int} (h : ∀ t ∈ ts, 0 ≤ t ∧ t ≤ (b : Int)) (hb : b ≤ 997) : ∀ i, i ≤ ts.length → 0 ≤ (ts.take i).foldl (· * ·) (1 : Int) ∧ (ts.take i).foldl (· * ·) (1 : Int) ≤ 1000 ^ i
  | 0, _ => by simp
  | i + 1, hi => by
    have e : ts.take (i + 1) = ts.take i ++ [ts[i]] := take_snoc (List.getElem?_eq_getElem (by omega))
    obtain ⟨a, c⟩ := sizeI_take h hb i (by omega)
    obtain ⟨t0, t1⟩ := h ts[i] (List.getElem_mem _)
    rw [e, List.foldl_append]
    show 0 ≤ _ * ts[i] ∧ _ * ts[i] ≤ _
    refine ⟨Int.mul_nonneg a t0, ?_⟩
    rw [Int.pow_succ]
    exact Int.mul_le_mul c (by omega) t0 (Int.pow_nonneg (by omega))
theorem sizeI_bd {b : Nat} {ts : List Int} (h : ∀ t ∈ ts, 0 ≤ t ∧ t ≤ (b : Int)) (hb : b ≤ 997) (hl : ts.length ≤ 2) : 0 ≤ sizeI ts ∧ sizeI ts ≤ 1000000 := by
  obtain ⟨a, c⟩ := sizeI_take h hb ts.length (Nat.le_refl _)
  rw [List.take_length] at a c
  refine ⟨a, Int.le_trans c ?_⟩
  have : (1000 : Int) ^ ts.length ≤ 1000 ^ 2 := by
    have := Nat.pow_le_pow_right (n := 1000) (by omega) hl
    exact_mod_cast this
  omega
theorem wholeI_bd {b : Nat} {rows : List (List Int)} (h : OkR b rows) : 1 ≤ wholeI b rows ∧ wholeI b rows ≤ 1000000 := by
  have hb := h.b9
  have hb2 := h.b997
  unfold wholeI
  have hs := h.s2
  have hs1 := h.s1
  have hb3 : (9 : Int) ≤ b := by omega
  have hb4 : (b : Int) ≤ 997 := by omega
  match hl : rows.length, hs, hs1 with
  | 1, _, _ => rw [Int.pow_succ, Int.pow_zero]; omega
  | 2, _, _ =>
    rw [Int.pow_succ, Int.pow_succ, Int.pow_zero, Int.one_mul]
    have h1 : (9 : Int) * 9 ≤ b * b := Int.mul_le_mul hb3 hb3 (by omega) (by omega)
    have h2 : (b : Int) * b ≤ 997 * 997 := Int.mul_le_mul hb4 hb4 (by omega) (by omega)
    omega
abbrev k_l_low : Nat := 1
def sp_l_low : PSp := fun ds n P => ∃ (t : Int) (b : Nat), ds = [.int t, .int b] ∧ 0 < b ∧ b < 1073741824 ∧ P (fr (mkRat t b)) n
abbrev k_l_places : Nat := 1
def sp_l_places : PSp := fun ds n P => ∃ rows : List (List Int), ds = [rowsD rows] ∧ rows.length ≤ 2 ∧ (∀ r ∈ rows, r.length ≤ 9) ∧ P (.lst ((prodL rows).map tupI)) n
abbrev k_l_sets : Nat := 1
def sp_l_sets : PSp := fun ds n P => ∃ m N : Nat, ds = [.int m, .int N] ∧ m ≤ 3 ∧ N ≤ 8 ∧ P (.lst ((lawSets N m).map D.key)) n
abbrev k_l_side_looks : Nat := 1
def sp_l_side_looks : PSp := fun ds n P => ∃ (ns : List Int) (b : Int), ds = [intsD ns, .int b, .str "corner"] ∧ ns.length ≤ 8 ∧ P (.lst ((ns ++ [b]).map toD)) n
abbrev k_l_side_size : Nat := 1
def sp_l_side_size : PSp := fun ds n P => ∃ (t b : Int), ds = [toD t, .int b] ∧ 0 ≤ t ∧ P (.int t) n
abbrev k_l_lies : Nat := 1
def sp_l_lies : PSp := fun ds n P => ∃ (t x : Int) (shut : Bool), ds = [toD t, .int x, .bl shut] ∧ P (.bl (lesI x t shut)) n
abbrev k_l_whole : Nat := 1
def sp_l_whole : PSp := fun ds n P => ∃ b rows, ds = [caseD b rows] ∧ OkR b rows ∧ P (.int (wholeI b rows)) n
abbrev k_l_handed : Nat := 2
def sp_l_handed : PSp := fun ds n P => ∃ b rows, ds = [caseD b rows] ∧ OkR b rows ∧ P (gridD (gsOf b rows)) n
abbrev k_l_boxes : Nat := 2
def sp_l_boxes : PSp := fun ds n P => ∃ b rows, ds = [caseD b rows] ∧ OkR b rows ∧ P (.lst ((prodL (rows.map fun r => r ++ [(b : Int)])).map tupI)) n
abbrev k_l_in : Nat := 1
def sp_l_in : PSp := fun ds n P => ∃ (xs ts : List Int) (shut : Bool), ds = [tupI xs, tupI ts, .bl shut] ∧ xs.length ≤ 2 ∧ P (.bl (inI xs ts shut)) n
abbrev k_l_shown : Nat := 2
def sp_l_shown : PSp := fun ds n P => ∃ (b : Nat) (rows : List (List Int)) (m : Nat) (held free ts : List Int) (over : Bool), ds = [caseD b rows, .int m, intsD held, intsD free, tupI ts, .bl over] ∧ OkR b rows ∧ 1 ≤ m ∧ m ≤ 3 ∧ OkK rows held ∧ OkK rows free ∧ OkTs b rows ts ∧
  P (.int (shownI b rows m held free ts over)) n
theorem len_l_low : ∀ ds n P, sp_l_low ds n P → ds.length = (["_law_top", "_law_bottom"] : List Str).length := by rintro _ n P ⟨_, _, rfl, _⟩; rfl
theorem len_l_places : ∀ ds n P, sp_l_places ds n P → ds.length = (["_law_rows"] : List Str).length := by rintro _ n P ⟨_, rfl, _⟩; rfl
theorem len_l_sets : ∀ ds n P, sp_l_sets ds n P → ds.length = (["_law_many", "_law_of"] : List Str).length := by rintro _ n P ⟨_, _, rfl, _⟩; rfl
theorem len_l_side_looks : ∀ ds n P, sp_l_side_looks ds n P → ds.length = (["_law_numbers", "_law_base", "_law_family"] : List Str).length := by rintro _ n P ⟨_, _, rfl, _⟩; rfl
theorem len_l_side_size : ∀ ds n P, sp_l_side_size ds n P → ds.length = (["_law_look", "_law_base"] : List Str).length := by rintro _ n P ⟨_, _, rfl, _⟩; rfl
theorem len_l_lies : ∀ ds n P, sp_l_lies ds n P → ds.length = (["_law_look", "_law_x", "_law_is_shut"] : List Str).length := by rintro _ n P ⟨_, _, _, rfl, _⟩; rfl
theorem len_l_whole : ∀ ds n P, sp_l_whole ds n P → ds.length = (["_law_case"] : List Str).length := by rintro _ n P ⟨_, _, rfl, _⟩; rfl
theorem len_l_handed : ∀ ds n P, sp_l_handed ds n P → ds.length = (["_law_case"] : List Str).length := by rintro _ n P ⟨_, _, rfl, _⟩; rfl
theorem len_l_boxes : ∀ ds n P, sp_l_boxes ds n P → ds.length = (["_law_case"] : List Str).length := by rintro _ n P ⟨_, _, rfl, _⟩; rfl
theorem len_l_in : ∀ ds n P, sp_l_in ds n P → ds.length = (["_law_place", "_law_box", "_law_is_shut"] : List Str).length := by rintro _ n P ⟨_, _, _, rfl, _⟩; rfl
theorem len_l_shown : ∀ ds n P, sp_l_shown ds n P → ds.length = (["_law_case", "_law_many", "_law_held", "_law_free", "_law_box", "_law_is_over"] : List Str).length := by rintro _ n P ⟨_, _, _, _, _, _, _, rfl, _⟩; rfl
theorem step_len (m : Nat) (l : List (List Int)) (k : Int) : (lawStep m l k).length ≤ 2 * l.length := by
  unfold lawStep
  rw [List.length_append, List.length_map]
  have := List.length_filter_le (fun S => decide (S.length < m)) l
  omega
theorem fold_len (m : Nat) : ∀ (ks : List Int) (l : List (List Int)), (ks.foldl (lawStep m) l).length ≤ 2 ^ ks.length * l.length
  | [], l => by simp
  | k :: ks, l => by
    rw [List.foldl_cons, List.length_cons, Nat.pow_succ]
    have h1 := fold_len m ks (lawStep m l k)
    have h2 := step_len m l k
    have h3 := Nat.mul_le_mul_left (2 ^ ks.length) h2
    rw [Nat.mul_assoc]
    exact Nat.le_trans h1 h3
theorem fold_mlen (m : Nat) : ∀ (ks : List Int) (l : List (List Int)), (∀ S ∈ l, S.length ≤ m) → ∀ S ∈ ks.foldl (lawStep m) l, S.length ≤ m
  | [], l, h => h
  | k :: ks, l, h => by
    rw [List.foldl_cons]
    refine fold_mlen m ks _ fun S hS => ?_
    unfold lawStep at hS
    rcases List.mem_append.mp hS with hS | hS
    · exact h S hS
    · obtain ⟨T, hT, rfl⟩ := List.mem_map.mp hS
      have := (List.mem_filter.mp hT).2
      simp only [decide_eq_true_eq] at this
      rw [List.length_append, List.length_singleton]
      omega
theorem fold_bd {m N : Nat} (hN : N ≤ 8) (i : Nat) (hi : i ≤ N) : (((rgI 0 (N : Int)).take i).foldl (lawStep m) [[]]).length ≤ 256 := by
  have h1 := fold_len m ((rgI 0 (N : Int)).take i) [[]]
  rw [List.length_take, rgI_len] at h1
  have h2 : 2 ^ (min i N) ≤ 2 ^ 8 := Nat.pow_le_pow_right (by omega) (by omega)
  simp only [List.length_cons, List.length_nil] at h1
  omega
theorem rgI_getD {N i : Nat} (h : i < N) : (rgI 0 (N : Int))[i]? = some (i : Int) := by
  unfold rgI
  rw [List.getElem?_map, List.getElem?_range (by omega)]
  simp
section
variable {Pr : Program} {w : World} {K : PySem.W.Frag} {mg : Str → Option Value} {base : Heap}
abbrev s_l_low : Stmt := top 65
theorem sc_l_low : FnScope ["_law_top", "_law_bottom", "_law_one", "_law_other"] ["_law_top", "_law_bottom"] (defScope s_l_low) := ⟨rfl, rfl, rfl, by decide +kernel, rfl, by decide +kernel, by decide +kernel⟩
theorem ok_l_low (F0 : Df K mg "_law_low" s_l_low) (B : Bt mg) (C : Cs K w mg)  : Has Pr w K mg base "_law_low" ["_law_top", "_law_bottom"] k_l_low sp_l_low := by
  have sc := sc_l_low
  refine has_mk (k := _) F0 sc (fun _ _ _ _ _ _ us hl => match us, hl with | [_, _], _ => rfl) len_l_low (fun f cdv A outer s H E hr => ⟨_,
    (bCons (sPar 2 3 sc.nd (aCons (vAbs B.abs (aCons (vN 0) aNil)) (aCons (vN 1) aNil)))
    (bCons (sWhile .never (bGt (vN 3) vI)
      (bOne (sPar 2 3 sc.nd (aCons (vN 3) (aCons (vMod (vN 2) (vN 3)) aNil)))))
    (bOne (sRet (vTup (aCons (vDiv (vN 0) (vN 2)) (aCons (vDiv (vN 1) (vN 2)) aNil))))))), ?_⟩)
  rintro _ n P ⟨t, b, rfl, h0, h1, h⟩
  simp only [SSeq, SNil, SIf, SRet, SSet, SAsg, SPar, SMuL, SApp, SExt, SPut, SFz, frzR, SNo, TVar, TC, TOp, TB, TNil, TCons, TTup, TLst, TKey, oIx, seqOf, TAnd, TOr, TNot, TAndV, TOrV, TNotV, TIf, TCB, cLen, cAbs, cMax2, cMin2, cAll, cList, cTuple, cInt, TIsi, isD, tyD, TCall, TChain, TLc, TLc0, SFor, ISeq, IRg1, IRg2, IZip, TSl, TPs, TPn, slD, cut1, opII, opI0, TNeg, oAdd, oIsN, oNotN, oIsB, opEq, eqD, getS, startR, GName, GNil, GCons, GTup, List.map_cons, List.map_nil, List.length_cons, List.length_nil, List.cons_append, List.nil_append, List.set_cons_zero, List.set_cons_succ, List.replicate, List.append_nil, Option.map_some, Bool.not_true, Bool.not_false, Bool.false_eq_true, if_true, if_false, ite_true, ite_false, reduceIte, Nat.sub_self, Nat.reduceAdd, Nat.reduceSub, Bool.or_true, Bool.or_false, Bool.true_or, Bool.false_or, Bool.and_true, Bool.and_false, decide_true, decide_false, List.getElem?_cons_zero, List.getElem?_cons_succ, Option.some.injEq, exists_eq_left', exists_eq_left, true_and, and_true, at0, at1, at2, at3, List.length_map, List.cons.injEq, Int.cast_ofNat_Int, Int.reduceEq, Int.reduceLT, Int.reduceLE, D.int.injEq, D.str.injEq, D.bl.injEq, D.tup.injEq, D.lst.injEq, exists_const, Int.zero_add, Nat.zero_add, Int.natCast_add, Int.natCast_one, Int.reduceAdd]
  have hg : Int.gcd (t.natAbs : Int) b = t.natAbs.gcd b := rfl
  have eabs : (if t < 0 then -t else t) = (t.natAbs : Int) := by split <;> omega
  rw [eabs]
  refine while_mk (fun ρ n' => Eqn n' n ∧ ∃ x y : Int, Is ρ [.val (.int t), .val (.int b), .val (.int x), .val (.int y)] ∧ 0 ≤ x ∧ 0 ≤ y ∧ Int.gcd x y = t.natAbs.gcd b)
    (fun ρ _ => match getS ρ 3 with
      | .val (.int y) => y.toNat
      | _ => 0) (fun ρ n' => Eqn n' n ∧ Is ρ [.val (.int t), .val (.int b), .val (.int (t.natAbs.gcd b)), .val (.int 0)]) ⟨rfl, _, _, rfl, by omega, by omega, rfl⟩ ?_ ?_
  · rintro ρ n' ⟨rfl, rfl⟩
    simp only [SSeq, SNil, SIf, SRet, SSet, SAsg, SPar, SMuL, SApp, SExt, SPut, SFz, frzR, SNo, TVar, TC, TOp, TB, TNil, TCons, TTup, TLst, TKey, oIx, seqOf, TAnd, TOr, TNot, TAndV, TOrV, TNotV, TIf, TCB, cLen, cAbs, cMax2, cMin2, cAll, cList, cTuple, cInt, TIsi, isD, tyD, TCall, TChain, TLc, TLc0, SFor, ISeq, IRg1, IRg2, IZip, TSl, TPs, TPn, slD, cut1, opII, opI0, TNeg, oAdd, oIsN, oNotN, oIsB, opEq, eqD, getS, startR, GName, GNil, GCons, GTup, List.map_cons, List.map_nil, List.length_cons, List.length_nil, List.cons_append, List.nil_append, List.set_cons_zero, List.set_cons_succ, List.replicate, List.append_nil, Option.map_some, Bool.not_true, Bool.not_false, Bool.false_eq_true, if_true, if_false, ite_true, ite_false, reduceIte, Nat.sub_self, Nat.reduceAdd, Nat.reduceSub, Bool.or_true, Bool.or_false, Bool.true_or, Bool.false_or, Bool.and_true, Bool.and_false, decide_true, decide_false, List.getElem?_cons_zero, List.getElem?_cons_succ, Option.some.injEq, exists_eq_left', exists_eq_left, true_and, and_true, at0, at1, at2, at3, List.length_map, List.cons.injEq, Int.cast_ofNat_Int, Int.reduceEq, Int.reduceLT, Int.reduceLE, D.int.injEq, D.str.injEq, D.bl.injEq, D.tup.injEq, D.lst.injEq, exists_const, Int.zero_add, Nat.zero_add, Int.natCast_add, Int.natCast_one, Int.reduceAdd]
    have hp : 0 < t.natAbs.gcd b := Nat.gcd_pos_of_pos_right _ h0
    have hle : t.natAbs.gcd b ≤ b := Nat.gcd_le_right _ h0
    refine ⟨⟨by omega, by omega⟩, ⟨by omega, by omega⟩, sz8 (by omega), ?_⟩
    rw [low_fr t b (by omega)]
    exact h
  · rintro NX hNX ρ n' ⟨rfl, x, y, rfl, hx, hy, hxy⟩
    simp only [SSeq, SNil, SIf, SRet, SSet, SAsg, SPar, SMuL, SApp, SExt, SPut, SFz, frzR, SNo, TVar, TC, TOp, TB, TNil, TCons, TTup, TLst, TKey, oIx, seqOf, TAnd, TOr, TNot, TAndV, TOrV, TNotV, TIf, TCB, cLen, cAbs, cMax2, cMin2, cAll, cList, cTuple, cInt, TIsi, isD, tyD, TCall, TChain, TLc, TLc0, SFor, ISeq, IRg1, IRg2, IZip, TSl, TPs, TPn, slD, cut1, opII, opI0, TNeg, oAdd, oIsN, oNotN, oIsB, opEq, eqD, getS, startR, GName, GNil, GCons, GTup, List.map_cons, List.map_nil, List.length_cons, List.length_nil, List.cons_append, List.nil_append, List.set_cons_zero, List.set_cons_succ, List.replicate, List.append_nil, Option.map_some, Bool.not_true, Bool.not_false, Bool.false_eq_true, if_true, if_false, ite_true, ite_false, reduceIte, Nat.sub_self, Nat.reduceAdd, Nat.reduceSub, Bool.or_true, Bool.or_false, Bool.true_or, Bool.false_or, Bool.and_true, Bool.and_false, decide_true, decide_false, List.getElem?_cons_zero, List.getElem?_cons_succ, Option.some.injEq, exists_eq_left', exists_eq_left, true_and, and_true, at0, at1, at2, at3, List.length_map, List.cons.injEq, Int.cast_ofNat_Int, Int.reduceEq, Int.reduceLT, Int.reduceLE, D.int.injEq, D.str.injEq, D.bl.injEq, D.tup.injEq, D.lst.injEq, exists_const, Int.zero_add, Nat.zero_add, Int.natCast_add, Int.natCast_one, Int.reduceAdd]
    refine ite2 (fun hb => ?_) (fun hb => ?_)
    · have hy1 : 0 < y := by simpa using hb
      refine ⟨hy1, ⟨rfl, y, x % y, rfl, hy, Int.emod_nonneg _ (by omega), ?_⟩, ?_⟩
      · rw [← hxy]; exact gcd_mod hx hy
      · show (x % y).toNat < y.toNat
        have := Int.emod_lt_of_pos x hy1
        have := Int.emod_nonneg x (show y ≠ 0 by omega)
        omega
    · have hy0 : y = 0 := by have : ¬ 0 < y := by simpa using hb
                             omega
      subst hy0
      refine hNX _ _ ⟨rfl, ?_⟩
      have ex : x = ((t.natAbs.gcd b : Nat) : Int) := by rw [← hxy, Int.gcd_zero_right]; omega
      rw [← ex]
      rfl
abbrev s_l_places : Stmt := top 67
theorem sc_l_places : FnScope ["_law_rows", "_law_found", "_law_row", "_law_longer", "_law_ahead", "_law_x"] ["_law_rows"] (defScope s_l_places) := ⟨rfl, rfl, rfl, by decide +kernel, rfl, by decide +kernel, by decide +kernel⟩
theorem ok_l_places (F0 : Df K mg "_law_places" s_l_places) (B : Bt mg) (C : Cs K w mg)  : Has Pr w K mg base "_law_places" ["_law_rows"] k_l_places sp_l_places := by
  have sc := sc_l_places
  refine has_mk (k := _) F0 sc (fun _ _ _ _ _ _ us hl => match us, hl with | [_], _ => rfl) len_l_places (fun f cdv A outer s H E hr => ⟨_,
    (bCons (sSet 1 sc.nd (vLst (aCons (vTup aNil) aNil)))
    (bCons (sFor .never (iL (vN 0)) (gN 2 sc.nd)
      (bCons (sMuL 3 sc.nd aNil)
      (bCons (sFor .never (iL (vN 1)) (gN 4 sc.nd)
        (bOne (sExt 3 (vLc (own := [("_law_x", 5)]) sc.nd (iL (vN 2)) (fun _ _ _ _ _ => (gN 5 sc.nd)) (fun _ _ _ _ _ => tN) (fun _ _ _ _ _ => (vAdd (vN 4) (vTup (aCons (vN 5) aNil))))))))
      (bOne (sFz 3 (sSet 1 sc.nd (vN 3)))))))
    (bOne (sRet (vN 1))))), ?_⟩)
  rintro _ n P ⟨rows, rfl, hr2, hrow, h⟩
  simp only [SSeq, SNil, SIf, SRet, SSet, SAsg, SPar, SMuL, SApp, SExt, SPut, SFz, frzR, SNo, TVar, TC, TOp, TB, TNil, TCons, TTup, TLst, TKey, oIx, seqOf, TAnd, TOr, TNot, TAndV, TOrV, TNotV, TIf, TCB, cLen, cAbs, cMax2, cMin2, cAll, cList, cTuple, cInt, TIsi, isD, tyD, TCall, TChain, TLc, TLc0, SFor, ISeq, IRg1, IRg2, IZip, TSl, TPs, TPn, slD, cut1, opII, opI0, TNeg, oAdd, oIsN, oNotN, oIsB, opEq, eqD, getS, startR, GName, GNil, GCons, GTup, List.map_cons, List.map_nil, List.length_cons, List.length_nil, List.cons_append, List.nil_append, List.set_cons_zero, List.set_cons_succ, List.replicate, List.append_nil, Option.map_some, Bool.not_true, Bool.not_false, Bool.false_eq_true, if_true, if_false, ite_true, ite_false, reduceIte, Nat.sub_self, Nat.reduceAdd, Nat.reduceSub, Bool.or_true, Bool.or_false, Bool.true_or, Bool.false_or, Bool.and_true, Bool.and_false, decide_true, decide_false, List.getElem?_cons_zero, List.getElem?_cons_succ, Option.some.injEq, exists_eq_left', exists_eq_left, true_and, and_true, at0, at1, at2, at3, List.length_map, List.cons.injEq, Int.cast_ofNat_Int, Int.reduceEq, Int.reduceLT, Int.reduceLE, D.int.injEq, D.str.injEq, D.bl.injEq, D.tup.injEq, D.lst.injEq, exists_const, Int.zero_add, Nat.zero_add, Int.natCast_add, Int.natCast_one, Int.reduceAdd, rowsD]
  have hgs : ∀ i, i ≤ rows.length → (prodL (rows.take i)).length ≤ 81 := fun i hi => by
    have hp : ∀ i, i ≤ rows.length → (prodL (rows.take i)).length ≤ 9 ^ i := fun i => by
      induction i with
      | zero => intro _; simp [prodL]
      | succ i ih =>
        intro hi
        have e : rows[i]? = some rows[i] := List.getElem?_eq_getElem (by omega)
        rw [take_snoc e, prodL_snoc, extL_len, Nat.pow_succ]
        exact Nat.mul_le_mul (ih (by omega)) (hrow _ (List.getElem_mem _))
    exact Nat.le_trans (hp i hi) (Nat.pow_le_pow_right (n := 9) (by omega) (Nat.le_trans hi hr2))
  refine ⟨Nat.zero_le _, sz8 (by omega), fun i ρ n' => Eqn n' n ∧ ∃ a b c d, Is ρ [.val (rowsD rows), .val (.lst ((prodL (rows.take i)).map tupI)), a, b, c, d], ⟨rfl, _, _, _, _, rfl⟩, ?_, ?_⟩
  · rintro i d ρ n' hd ⟨rfl, a, b, c, d', rfl⟩
    rw [List.getElem?_map] at hd
    obtain ⟨g, hx', rfl⟩ := Option.map_eq_some_iff.mp hd
    have hi := len_at hx'
    have hL := hgs i (by omega)
    have hE := hrow g (List.mem_of_getElem? hx')
    simp only [SSeq, SNil, SIf, SRet, SSet, SAsg, SPar, SMuL, SApp, SExt, SPut, SFz, frzR, SNo, TVar, TC, TOp, TB, TNil, TCons, TTup, TLst, TKey, oIx, seqOf, TAnd, TOr, TNot, TAndV, TOrV, TNotV, TIf, TCB, cLen, cAbs, cMax2, cMin2, cAll, cList, cTuple, cInt, TIsi, isD, tyD, TCall, TChain, TLc, TLc0, SFor, ISeq, IRg1, IRg2, IZip, TSl, TPs, TPn, slD, cut1, opII, opI0, TNeg, oAdd, oIsN, oNotN, oIsB, opEq, eqD, getS, startR, GName, GNil, GCons, GTup, List.map_cons, List.map_nil, List.length_cons, List.length_nil, List.cons_append, List.nil_append, List.set_cons_zero, List.set_cons_succ, List.replicate, List.append_nil, Option.map_some, Bool.not_true, Bool.not_false, Bool.false_eq_true, if_true, if_false, ite_true, ite_false, reduceIte, Nat.sub_self, Nat.reduceAdd, Nat.reduceSub, Bool.or_true, Bool.or_false, Bool.true_or, Bool.false_or, Bool.and_true, Bool.and_false, decide_true, decide_false, List.getElem?_cons_zero, List.getElem?_cons_succ, Option.some.injEq, exists_eq_left', exists_eq_left, true_and, and_true, at0, at1, at2, at3, List.length_map, List.cons.injEq, Int.cast_ofNat_Int, Int.reduceEq, Int.reduceLT, Int.reduceLE, D.int.injEq, D.str.injEq, D.bl.injEq, D.tup.injEq, D.lst.injEq, exists_const, Int.zero_add, Nat.zero_add, Int.natCast_add, Int.natCast_one, Int.reduceAdd]
    refine ⟨Nat.zero_le _, fun j ρ n2 => Eqn n2 n' ∧ ∃ a b, Is ρ [.val (rowsD rows), .val (.lst ((prodL (rows.take i)).map tupI)), .val (intsD g), .mu (.lst ((extL ((prodL (rows.take i)).take j) g).map tupI)), a, b], ⟨rfl, _, _, rfl⟩, ?_, ?_⟩
    · rintro j d ρ n2 hd ⟨rfl, a, b, rfl⟩
      rw [List.getElem?_map] at hd
      obtain ⟨x, hxj, rfl⟩ := Option.map_eq_some_iff.mp hd
      simp only [SSeq, SNil, SIf, SRet, SSet, SAsg, SPar, SMuL, SApp, SExt, SPut, SFz, frzR, SNo, TVar, TC, TOp, TB, TNil, TCons, TTup, TLst, TKey, oIx, seqOf, TAnd, TOr, TNot, TAndV, TOrV, TNotV, TIf, TCB, cLen, cAbs, cMax2, cMin2, cAll, cList, cTuple, cInt, TIsi, isD, tyD, TCall, TChain, TLc, TLc0, SFor, ISeq, IRg1, IRg2, IZip, TSl, TPs, TPn, slD, cut1, opII, opI0, TNeg, oAdd, oIsN, oNotN, oIsB, opEq, eqD, getS, startR, GName, GNil, GCons, GTup, List.map_cons, List.map_nil, List.length_cons, List.length_nil, List.cons_append, List.nil_append, List.set_cons_zero, List.set_cons_succ, List.replicate, List.append_nil, Option.map_some, Bool.not_true, Bool.not_false, Bool.false_eq_true, if_true, if_false, ite_true, ite_false, reduceIte, Nat.sub_self, Nat.reduceAdd, Nat.reduceSub, Bool.or_true, Bool.or_false, Bool.true_or, Bool.false_or, Bool.and_true, Bool.and_false, decide_true, decide_false, List.getElem?_cons_zero, List.getElem?_cons_succ, Option.some.injEq, exists_eq_left', exists_eq_left, true_and, and_true, at0, at1, at2, at3, List.length_map, List.cons.injEq, Int.cast_ofNat_Int, Int.reduceEq, Int.reduceLT, Int.reduceLE, D.int.injEq, D.str.injEq, D.bl.injEq, D.tup.injEq, D.lst.injEq, exists_const, Int.zero_add, Nat.zero_add, Int.natCast_add, Int.natCast_one, Int.reduceAdd, intsD]
      refine lc_mapF g D.int (fun y => tupI (x ++ [y])) (sz1000 (by omega)) (fun y hy Q hQ => ?_) ?_
      · simp only [SSeq, SNil, SIf, SRet, SSet, SAsg, SPar, SMuL, SApp, SExt, SPut, SFz, frzR, SNo, TVar, TC, TOp, TB, TNil, TCons, TTup, TLst, TKey, oIx, seqOf, TAnd, TOr, TNot, TAndV, TOrV, TNotV, TIf, TCB, cLen, cAbs, cMax2, cMin2, cAll, cList, cTuple, cInt, TIsi, isD, tyD, TCall, TChain, TLc, TLc0, SFor, ISeq, IRg1, IRg2, IZip, TSl, TPs, TPn, slD, cut1, opII, opI0, TNeg, oAdd, oIsN, oNotN, oIsB, opEq, eqD, getS, startR, GName, GNil, GCons, GTup, List.map_cons, List.map_nil, List.length_cons, List.length_nil, List.cons_append, List.nil_append, List.set_cons_zero, List.set_cons_succ, List.replicate, List.append_nil, Option.map_some, Bool.not_true, Bool.not_false, Bool.false_eq_true, if_true, if_false, ite_true, ite_false, reduceIte, Nat.sub_self, Nat.reduceAdd, Nat.reduceSub, Bool.or_true, Bool.or_false, Bool.true_or, Bool.false_or, Bool.and_true, Bool.and_false, decide_true, decide_false, List.getElem?_cons_zero, List.getElem?_cons_succ, Option.some.injEq, exists_eq_left', exists_eq_left, true_and, and_true, at0, at1, at2, at3, List.length_map, List.cons.injEq, Int.cast_ofNat_Int, Int.reduceEq, Int.reduceLT, Int.reduceLE, D.int.injEq, D.str.injEq, D.bl.injEq, D.tup.injEq, D.lst.injEq, exists_const, Int.zero_add, Nat.zero_add, Int.natCast_add, Int.natCast_one, Int.reduceAdd, wipeR, tupI]
        refine ⟨sz8 (by omega), sz1000 ?_, ?_⟩
        · have := (mem_prodL.mp (List.mem_of_getElem? hxj)).len
          rw [List.length_take] at this
          omega
        · simpa [tupI] using hQ
      · refine ⟨?_, rfl, .val (tupI x), b, ?_⟩
        · rw [List.length_map]
          refine sz1000 ?_
          rw [extL_len, List.length_take]
          have := Nat.mul_le_mul (show min j (prodL (rows.take i)).length ≤ 81 by omega) hE
          omega
        · rw [take_snoc hxj]
          unfold extL
          simp [List.flatMap_append, List.map_append, List.map_map, Function.comp_def, tupI, rowsD]
          rfl
    · rintro ρ n2 ⟨rfl, a, b, rfl⟩
      rw [List.take_length]
      simp only [SSeq, SNil, SIf, SRet, SSet, SAsg, SPar, SMuL, SApp, SExt, SPut, SFz, frzR, SNo, TVar, TC, TOp, TB, TNil, TCons, TTup, TLst, TKey, oIx, seqOf, TAnd, TOr, TNot, TAndV, TOrV, TNotV, TIf, TCB, cLen, cAbs, cMax2, cMin2, cAll, cList, cTuple, cInt, TIsi, isD, tyD, TCall, TChain, TLc, TLc0, SFor, ISeq, IRg1, IRg2, IZip, TSl, TPs, TPn, slD, cut1, opII, opI0, TNeg, oAdd, oIsN, oNotN, oIsB, opEq, eqD, getS, startR, GName, GNil, GCons, GTup, List.map_cons, List.map_nil, List.length_cons, List.length_nil, List.cons_append, List.nil_append, List.set_cons_zero, List.set_cons_succ, List.replicate, List.append_nil, Option.map_some, Bool.not_true, Bool.not_false, Bool.false_eq_true, if_true, if_false, ite_true, ite_false, reduceIte, Nat.sub_self, Nat.reduceAdd, Nat.reduceSub, Bool.or_true, Bool.or_false, Bool.true_or, Bool.false_or, Bool.and_true, Bool.and_false, decide_true, decide_false, List.getElem?_cons_zero, List.getElem?_cons_succ, Option.some.injEq, exists_eq_left', exists_eq_left, true_and, and_true, at0, at1, at2, at3, List.length_map, List.cons.injEq, Int.cast_ofNat_Int, Int.reduceEq, Int.reduceLT, Int.reduceLE, D.int.injEq, D.str.injEq, D.bl.injEq, D.tup.injEq, D.lst.injEq, exists_const, Int.zero_add, Nat.zero_add, Int.natCast_add, Int.natCast_one, Int.reduceAdd, MO.d]
      refine ⟨rfl, ?_, ?_, ?_, ?_, ?_⟩
      rotate_left 4
      rw [take_snoc hx', prodL_snoc]
      rfl
  · rintro ρ n' ⟨rfl, a, b, c, d', rfl⟩
    simp only [SSeq, SNil, SIf, SRet, SSet, SAsg, SPar, SMuL, SApp, SExt, SPut, SFz, frzR, SNo, TVar, TC, TOp, TB, TNil, TCons, TTup, TLst, TKey, oIx, seqOf, TAnd, TOr, TNot, TAndV, TOrV, TNotV, TIf, TCB, cLen, cAbs, cMax2, cMin2, cAll, cList, cTuple, cInt, TIsi, isD, tyD, TCall, TChain, TLc, TLc0, SFor, ISeq, IRg1, IRg2, IZip, TSl, TPs, TPn, slD, cut1, opII, opI0, TNeg, oAdd, oIsN, oNotN, oIsB, opEq, eqD, getS, startR, GName, GNil, GCons, GTup, List.map_cons, List.map_nil, List.length_cons, List.length_nil, List.cons_append, List.nil_append, List.set_cons_zero, List.set_cons_succ, List.replicate, List.append_nil, Option.map_some, Bool.not_true, Bool.not_false, Bool.false_eq_true, if_true, if_false, ite_true, ite_false, reduceIte, Nat.sub_self, Nat.reduceAdd, Nat.reduceSub, Bool.or_true, Bool.or_false, Bool.true_or, Bool.false_or, Bool.and_true, Bool.and_false, decide_true, decide_false, List.getElem?_cons_zero, List.getElem?_cons_succ, Option.some.injEq, exists_eq_left', exists_eq_left, true_and, and_true, at0, at1, at2, at3, List.length_map, List.cons.injEq, Int.cast_ofNat_Int, Int.reduceEq, Int.reduceLT, Int.reduceLE, D.int.injEq, D.str.injEq, D.bl.injEq, D.tup.injEq, D.lst.injEq, exists_const, Int.zero_add, Nat.zero_add, Int.natCast_add, Int.natCast_one, Int.reduceAdd]
    rw [List.take_length]
    exact h
abbrev s_l_sets : Stmt := top 68
theorem sc_l_sets : FnScope ["_law_many", "_law_of", "_law_found", "_law_k", "_law_some"] ["_law_many", "_law_of"] (defScope s_l_sets) := ⟨rfl, rfl, rfl, by decide +kernel, rfl, by decide +kernel, by decide +kernel⟩
theorem ok_l_sets (F0 : Df K mg "_law_sets" s_l_sets) (B : Bt mg) (C : Cs K w mg)  : Has Pr w K mg base "_law_sets" ["_law_many", "_law_of"] k_l_sets sp_l_sets := by
  have sc := sc_l_sets
  refine has_mk (k := _) F0 sc (fun _ _ _ _ _ _ us hl => match us, hl with | [_, _], _ => rfl) len_l_sets (fun f cdv A outer s H E hr => ⟨_,
    (bCons (sSet 2 sc.nd (vLst (aCons (vKey aNil) aNil)))
    (bCons (sFor .never (iRg1 B.range (aCons (vN 1) aNil)) (gN 3 sc.nd)
      (bOne (sSet 2 sc.nd (vAdd (vN 2) (vLc (own := [("_law_some", 4)]) sc.nd (iL (vN 2)) (fun _ _ _ _ _ => (gN 4 sc.nd)) (fun _ _ _ _ _ => t1 (bLt (vLen B.len (aCons (vN 4) aNil)) (vN 0))) (fun _ _ _ _ _ => (vAdd (vN 4) (vKey (aCons (vN 3) aNil)))))))))
    (bOne (sRet (vLc (own := [("_law_some", 4)]) sc.nd (iL (vN 2)) (fun _ _ _ _ _ => (gN 4 sc.nd)) (fun _ _ _ _ _ => t1 (bEq hr (vLen B.len (aCons (vN 4) aNil)) (vN 0))) (fun _ _ _ _ _ => (vN 4))))))), ?_⟩)
  rintro _ n P ⟨m, N, rfl, hm, hN, h⟩
  simp only [SSeq, SNil, SIf, SRet, SSet, SAsg, SPar, SMuL, SApp, SExt, SPut, SFz, frzR, SNo, TVar, TC, TOp, TB, TNil, TCons, TTup, TLst, TKey, oIx, seqOf, TAnd, TOr, TNot, TAndV, TOrV, TNotV, TIf, TCB, cLen, cAbs, cMax2, cMin2, cAll, cList, cTuple, cInt, TIsi, isD, tyD, TCall, TChain, TLc, TLc0, SFor, ISeq, IRg1, IRg2, IZip, TSl, TPs, TPn, slD, cut1, opII, opI0, TNeg, oAdd, oIsN, oNotN, oIsB, opEq, eqD, getS, startR, GName, GNil, GCons, GTup, List.map_cons, List.map_nil, List.length_cons, List.length_nil, List.cons_append, List.nil_append, List.set_cons_zero, List.set_cons_succ, List.replicate, List.append_nil, Option.map_some, Bool.not_true, Bool.not_false, Bool.false_eq_true, if_true, if_false, ite_true, ite_false, reduceIte, Nat.sub_self, Nat.reduceAdd, Nat.reduceSub, Bool.or_true, Bool.or_false, Bool.true_or, Bool.false_or, Bool.and_true, Bool.and_false, decide_true, decide_false, List.getElem?_cons_zero, List.getElem?_cons_succ, Option.some.injEq, exists_eq_left', exists_eq_left, true_and, and_true, at0, at1, at2, at3, List.length_map, List.cons.injEq, Int.cast_ofNat_Int, Int.reduceEq, Int.reduceLT, Int.reduceLE, D.int.injEq, D.str.injEq, D.bl.injEq, D.tup.injEq, D.lst.injEq, exists_const, Int.zero_add, Nat.zero_add, Int.natCast_add, Int.natCast_one, Int.reduceAdd]
  refine ⟨Nat.zero_le _, [], rfl, sz8 (by omega), small62 (by omega), fun i ρ n' => Eqn n' n ∧ ∃ a b, Is ρ [.val (.int m), .val (.int N), .val (.lst ((((rgI 0 (N : Int)).take i).foldl (lawStep m) [[]]).map D.key)), a, b], ⟨rfl, _, _, rfl⟩, ?_, ?_⟩
  · rintro i d ρ n' hd ⟨rfl, a, b, rfl⟩
    obtain ⟨rfl, hi⟩ := rgI_get hd
    have hi2 : i < N := by omega
    have hb1 := fold_bd (m := m) hN i (by omega)
    have hml := fold_mlen m ((rgI 0 (N : Int)).take i) [[]] (fun S hS => by rw [List.mem_singleton.mp hS]; simp)
    dsimp only
    rw [take_snoc (rgI_getD hi2), List.foldl_append]
    generalize ((rgI 0 (N : Int)).take i).foldl (lawStep m) [[]] = l at hb1 hml ⊢
    simp only [SSeq, SNil, SIf, SRet, SSet, SAsg, SPar, SMuL, SApp, SExt, SPut, SFz, frzR, SNo, TVar, TC, TOp, TB, TNil, TCons, TTup, TLst, TKey, oIx, seqOf, TAnd, TOr, TNot, TAndV, TOrV, TNotV, TIf, TCB, cLen, cAbs, cMax2, cMin2, cAll, cList, cTuple, cInt, TIsi, isD, tyD, TCall, TChain, TLc, TLc0, SFor, ISeq, IRg1, IRg2, IZip, TSl, TPs, TPn, slD, cut1, opII, opI0, TNeg, oAdd, oIsN, oNotN, oIsB, opEq, eqD, getS, startR, GName, GNil, GCons, GTup, List.map_cons, List.map_nil, List.length_cons, List.length_nil, List.cons_append, List.nil_append, List.set_cons_zero, List.set_cons_succ, List.replicate, List.append_nil, Option.map_some, Bool.not_true, Bool.not_false, Bool.false_eq_true, if_true, if_false, ite_true, ite_false, reduceIte, Nat.sub_self, Nat.reduceAdd, Nat.reduceSub, Bool.or_true, Bool.or_false, Bool.true_or, Bool.false_or, Bool.and_true, Bool.and_false, decide_true, decide_false, List.getElem?_cons_zero, List.getElem?_cons_succ, Option.some.injEq, exists_eq_left', exists_eq_left, true_and, and_true, at0, at1, at2, at3, List.length_map, List.cons.injEq, Int.cast_ofNat_Int, Int.reduceEq, Int.reduceLT, Int.reduceLE, D.int.injEq, D.str.injEq, D.bl.injEq, D.tup.injEq, D.lst.injEq, exists_const, Int.zero_add, Nat.zero_add, Int.natCast_add, Int.natCast_one, Int.reduceAdd]
    refine lc_filtF l D.key (fun S => decide (S.length < m)) (fun S => .key (S ++ [(i : Int)])) (sz1000 (by omega)) (fun S hS Q Q0 h1 h2 => ?_) ?_
    · simp only [SSeq, SNil, SIf, SRet, SSet, SAsg, SPar, SMuL, SApp, SExt, SPut, SFz, frzR, SNo, TVar, TC, TOp, TB, TNil, TCons, TTup, TLst, TKey, oIx, seqOf, TAnd, TOr, TNot, TAndV, TOrV, TNotV, TIf, TCB, cLen, cAbs, cMax2, cMin2, cAll, cList, cTuple, cInt, TIsi, isD, tyD, TCall, TChain, TLc, TLc0, SFor, ISeq, IRg1, IRg2, IZip, TSl, TPs, TPn, slD, cut1, opII, opI0, TNeg, oAdd, oIsN, oNotN, oIsB, opEq, eqD, getS, startR, GName, GNil, GCons, GTup, List.map_cons, List.map_nil, List.length_cons, List.length_nil, List.cons_append, List.nil_append, List.set_cons_zero, List.set_cons_succ, List.replicate, List.append_nil, Option.map_some, Bool.not_true, Bool.not_false, Bool.false_eq_true, if_true, if_false, ite_true, ite_false, reduceIte, Nat.sub_self, Nat.reduceAdd, Nat.reduceSub, Bool.or_true, Bool.or_false, Bool.true_or, Bool.false_or, Bool.and_true, Bool.and_false, decide_true, decide_false, List.getElem?_cons_zero, List.getElem?_cons_succ, Option.some.injEq, exists_eq_left', exists_eq_left, true_and, and_true, at0, at1, at2, at3, List.length_map, List.cons.injEq, Int.cast_ofNat_Int, Int.reduceEq, Int.reduceLT, Int.reduceLE, D.int.injEq, D.str.injEq, D.bl.injEq, D.tup.injEq, D.lst.injEq, exists_const, Int.zero_add, Nat.zero_add, Int.natCast_add, Int.natCast_one, Int.reduceAdd, wipeR]
      have e1 : decide ((S.length : Int) < m) = decide (S.length < m) := decide_eq_decide.mpr (by omega)
      rw [e1]
      have := hml S hS
      cases e : decide (S.length < m)
      · exact iteF (h2 e)
      · exact iteT ⟨sz8 (by omega), [(i : Int)], rfl, sz1000 (by show S.length + 1 ≤ 1000; omega), h1 e⟩
    · have := List.length_filter_le (fun S => decide (S.length < m)) l
      refine ⟨by rw [List.length_map]; exact sz1000 (by omega), rfl, .val (.int i), b, ?_⟩
      have e : (l.map D.key ++ (l.filter fun S => decide (S.length < m)).map fun S => D.key (S ++ [(i : Int)])) = ([(i : Int)].foldl (lawStep m) l).map D.key := by
        show _ = (lawStep m l i).map D.key
        unfold lawStep
        rw [List.map_append, List.map_map]
        rfl
      rw [e]
      rfl
  · rintro ρ n' ⟨rfl, a, b, rfl⟩
    rw [rgI_len]
    have hb1 := fold_bd (m := m) hN N (Nat.le_refl _)
    rw [show (rgI 0 (N : Int)).take N = rgI 0 (N : Int) from List.take_of_length_le (by rw [rgI_len]; omega)] at hb1 ⊢
    simp only [SSeq, SNil, SIf, SRet, SSet, SAsg, SPar, SMuL, SApp, SExt, SPut, SFz, frzR, SNo, TVar, TC, TOp, TB, TNil, TCons, TTup, TLst, TKey, oIx, seqOf, TAnd, TOr, TNot, TAndV, TOrV, TNotV, TIf, TCB, cLen, cAbs, cMax2, cMin2, cAll, cList, cTuple, cInt, TIsi, isD, tyD, TCall, TChain, TLc, TLc0, SFor, ISeq, IRg1, IRg2, IZip, TSl, TPs, TPn, slD, cut1, opII, opI0, TNeg, oAdd, oIsN, oNotN, oIsB, opEq, eqD, getS, startR, GName, GNil, GCons, GTup, List.map_cons, List.map_nil, List.length_cons, List.length_nil, List.cons_append, List.nil_append, List.set_cons_zero, List.set_cons_succ, List.replicate, List.append_nil, Option.map_some, Bool.not_true, Bool.not_false, Bool.false_eq_true, if_true, if_false, ite_true, ite_false, reduceIte, Nat.sub_self, Nat.reduceAdd, Nat.reduceSub, Bool.or_true, Bool.or_false, Bool.true_or, Bool.false_or, Bool.and_true, Bool.and_false, decide_true, decide_false, List.getElem?_cons_zero, List.getElem?_cons_succ, Option.some.injEq, exists_eq_left', exists_eq_left, true_and, and_true, at0, at1, at2, at3, List.length_map, List.cons.injEq, Int.cast_ofNat_Int, Int.reduceEq, Int.reduceLT, Int.reduceLE, D.int.injEq, D.str.injEq, D.bl.injEq, D.tup.injEq, D.lst.injEq, exists_const, Int.zero_add, Nat.zero_add, Int.natCast_add, Int.natCast_one, Int.reduceAdd]
    refine lc_filtF _ D.key (fun S => decide (S.length = m)) D.key (sz1000 (by omega)) (fun S hS Q Q0 h1 h2 => ?_) h
    simp only [SSeq, SNil, SIf, SRet, SSet, SAsg, SPar, SMuL, SApp, SExt, SPut, SFz, frzR, SNo, TVar, TC, TOp, TB, TNil, TCons, TTup, TLst, TKey, oIx, seqOf, TAnd, TOr, TNot, TAndV, TOrV, TNotV, TIf, TCB, cLen, cAbs, cMax2, cMin2, cAll, cList, cTuple, cInt, TIsi, isD, tyD, TCall, TChain, TLc, TLc0, SFor, ISeq, IRg1, IRg2, IZip, TSl, TPs, TPn, slD, cut1, opII, opI0, TNeg, oAdd, oIsN, oNotN, oIsB, opEq, eqD, getS, startR, GName, GNil, GCons, GTup, List.map_cons, List.map_nil, List.length_cons, List.length_nil, List.cons_append, List.nil_append, List.set_cons_zero, List.set_cons_succ, List.replicate, List.append_nil, Option.map_some, Bool.not_true, Bool.not_false, Bool.false_eq_true, if_true, if_false, ite_true, ite_false, reduceIte, Nat.sub_self, Nat.reduceAdd, Nat.reduceSub, Bool.or_true, Bool.or_false, Bool.true_or, Bool.false_or, Bool.and_true, Bool.and_false, decide_true, decide_false, List.getElem?_cons_zero, List.getElem?_cons_succ, Option.some.injEq, exists_eq_left', exists_eq_left, true_and, and_true, at0, at1, at2, at3, List.length_map, List.cons.injEq, Int.cast_ofNat_Int, Int.reduceEq, Int.reduceLT, Int.reduceLE, D.int.injEq, D.str.injEq, D.bl.injEq, D.tup.injEq, D.lst.injEq, exists_const, Int.zero_add, Nat.zero_add, Int.natCast_add, Int.natCast_one, Int.reduceAdd, wipeR]
    have e1 : decide ((S.length : Int) = m) = decide (S.length = m) := decide_eq_decide.mpr (by omega)
    rw [e1]
    cases e : decide (S.length = m)
    · exact iteF (h2 e)
    · exact iteT (h1 e)
abbrev s_l_side_looks : Stmt := top 69
theorem sc_l_side_looks : FnScope ["_law_numbers", "_law_base", "_law_family", "_law_found", "_law_a", "_law_t", "_law_b"] ["_law_numbers", "_law_base", "_law_family"] (defScope s_l_side_looks) := ⟨rfl, rfl, rfl, by decide +kernel, rfl, by decide +kernel, by decide +kernel⟩
theorem ok_l_side_looks (F0 : Df K mg "_law_side_looks" s_l_side_looks) (B : Bt mg) (C : Cs K w mg)  : Has Pr w K mg base "_law_side_looks" ["_law_numbers", "_law_base", "_law_family"] k_l_side_looks sp_l_side_looks := by
  have sc := sc_l_side_looks
  refine has_mk (k := _) F0 sc (fun _ _ _ _ _ _ us hl => match us, hl with | [_, _, _], _ => rfl) len_l_side_looks (fun f cdv A outer s H E hr => ⟨_,
    (bCons (sIf (bEq hr (vN 2) vS)
      (bOne (sRet (vLc (own := [("_law_t", 5)]) sc.nd (iL (vAdd (vN 0) (vLst (aCons (vN 1) aNil)))) (fun _ _ _ _ _ => (gN 5 sc.nd)) (fun _ _ _ _ _ => tN) (fun _ _ _ _ _ => (vTup (aCons vS (aCons vI (aCons (vN 5) aNil))))))))
      bNil)
    bNo), ?_⟩)
  rintro _ n P ⟨ns, b, rfl, hl, h⟩
  simp only [SSeq, SNil, SIf, SRet, SSet, SAsg, SPar, SMuL, SApp, SExt, SPut, SFz, frzR, SNo, TVar, TC, TOp, TB, TNil, TCons, TTup, TLst, TKey, oIx, seqOf, TAnd, TOr, TNot, TAndV, TOrV, TNotV, TIf, TCB, cLen, cAbs, cMax2, cMin2, cAll, cList, cTuple, cInt, TIsi, isD, tyD, TCall, TChain, TLc, TLc0, SFor, ISeq, IRg1, IRg2, IZip, TSl, TPs, TPn, slD, cut1, opII, opI0, TNeg, oAdd, oIsN, oNotN, oIsB, opEq, eqD, getS, startR, GName, GNil, GCons, GTup, List.map_cons, List.map_nil, List.length_cons, List.length_nil, List.cons_append, List.nil_append, List.set_cons_zero, List.set_cons_succ, List.replicate, List.append_nil, Option.map_some, Bool.not_true, Bool.not_false, Bool.false_eq_true, if_true, if_false, ite_true, ite_false, reduceIte, Nat.sub_self, Nat.reduceAdd, Nat.reduceSub, Bool.or_true, Bool.or_false, Bool.true_or, Bool.false_or, Bool.and_true, Bool.and_false, decide_true, decide_false, List.getElem?_cons_zero, List.getElem?_cons_succ, Option.some.injEq, exists_eq_left', exists_eq_left, true_and, and_true, at0, at1, at2, at3, List.length_map, List.cons.injEq, Int.cast_ofNat_Int, Int.reduceEq, Int.reduceLT, Int.reduceLE, D.int.injEq, D.str.injEq, D.bl.injEq, D.tup.injEq, D.lst.injEq, exists_const, Int.zero_add, Nat.zero_add, Int.natCast_add, Int.natCast_one, Int.reduceAdd, intsD]
  refine ⟨sz8 (by omega), sz1000 (by omega), ?_⟩
  have e : ns.map D.int ++ [D.int b] = (ns ++ [b]).map D.int := by rw [List.map_append]; rfl
  rw [e]
  refine lc_mapF (ns ++ [b]) D.int toD (by rw [List.length_append, List.length_singleton]; exact sz1000 (by omega)) (fun x hx Q hQ => ?_) h
  simp only [SSeq, SNil, SIf, SRet, SSet, SAsg, SPar, SMuL, SApp, SExt, SPut, SFz, frzR, SNo, TVar, TC, TOp, TB, TNil, TCons, TTup, TLst, TKey, oIx, seqOf, TAnd, TOr, TNot, TAndV, TOrV, TNotV, TIf, TCB, cLen, cAbs, cMax2, cMin2, cAll, cList, cTuple, cInt, TIsi, isD, tyD, TCall, TChain, TLc, TLc0, SFor, ISeq, IRg1, IRg2, IZip, TSl, TPs, TPn, slD, cut1, opII, opI0, TNeg, oAdd, oIsN, oNotN, oIsB, opEq, eqD, getS, startR, GName, GNil, GCons, GTup, List.map_cons, List.map_nil, List.length_cons, List.length_nil, List.cons_append, List.nil_append, List.set_cons_zero, List.set_cons_succ, List.replicate, List.append_nil, Option.map_some, Bool.not_true, Bool.not_false, Bool.false_eq_true, if_true, if_false, ite_true, ite_false, reduceIte, Nat.sub_self, Nat.reduceAdd, Nat.reduceSub, Bool.or_true, Bool.or_false, Bool.true_or, Bool.false_or, Bool.and_true, Bool.and_false, decide_true, decide_false, List.getElem?_cons_zero, List.getElem?_cons_succ, Option.some.injEq, exists_eq_left', exists_eq_left, true_and, and_true, at0, at1, at2, at3, List.length_map, List.cons.injEq, Int.cast_ofNat_Int, Int.reduceEq, Int.reduceLT, Int.reduceLE, D.int.injEq, D.str.injEq, D.bl.injEq, D.tup.injEq, D.lst.injEq, exists_const, Int.zero_add, Nat.zero_add, Int.natCast_add, Int.natCast_one, Int.reduceAdd, wipeR]
  exact ⟨sz8 (by omega), hQ⟩
abbrev s_l_side_size : Stmt := top 70
theorem sc_l_side_size : FnScope ["_law_look", "_law_base", "_law_word", "_law_a", "_law_b"] ["_law_look", "_law_base"] (defScope s_l_side_size) := ⟨rfl, rfl, rfl, by decide +kernel, rfl, by decide +kernel, by decide +kernel⟩
theorem ok_l_side_size (F0 : Df K mg "_law_side_size" s_l_side_size) (B : Bt mg) (C : Cs K w mg)  : Has Pr w K mg base "_law_side_size" ["_law_look", "_law_base"] k_l_side_size sp_l_side_size := by
  have sc := sc_l_side_size
  refine has_mk (k := _) F0 sc (fun _ _ _ _ _ _ us hl => match us, hl with | [_, _], _ => rfl) len_l_side_size (fun f cdv A outer s H E hr => ⟨_,
    (bCons (sAsg (vN 0) (gTup (m := 3) (gCons (gN 2 sc.nd) (gCons (gN 3 sc.nd) (gCons (gN 4 sc.nd) gNil)))))
    (bCons (sIf (bEq hr (vN 2) vS)
      (bOne (sRet (vMax2 B.max (aCons vI (aCons (vN 4) aNil)))))
      bNil)
    bNo)), ?_⟩)
  rintro _ n P ⟨t, b, rfl, h0, h⟩
  simp only [SSeq, SNil, SIf, SRet, SSet, SAsg, SPar, SMuL, SApp, SExt, SPut, SFz, frzR, SNo, TVar, TC, TOp, TB, TNil, TCons, TTup, TLst, TKey, oIx, seqOf, TAnd, TOr, TNot, TAndV, TOrV, TNotV, TIf, TCB, cLen, cAbs, cMax2, cMin2, cAll, cList, cTuple, cInt, TIsi, isD, tyD, TCall, TChain, TLc, TLc0, SFor, ISeq, IRg1, IRg2, IZip, TSl, TPs, TPn, slD, cut1, opII, opI0, TNeg, oAdd, oIsN, oNotN, oIsB, opEq, eqD, getS, startR, GName, GNil, GCons, GTup, List.map_cons, List.map_nil, List.length_cons, List.length_nil, List.cons_append, List.nil_append, List.set_cons_zero, List.set_cons_succ, List.replicate, List.append_nil, Option.map_some, Bool.not_true, Bool.not_false, Bool.false_eq_true, if_true, if_false, ite_true, ite_false, reduceIte, Nat.sub_self, Nat.reduceAdd, Nat.reduceSub, Bool.or_true, Bool.or_false, Bool.true_or, Bool.false_or, Bool.and_true, Bool.and_false, decide_true, decide_false, List.getElem?_cons_zero, List.getElem?_cons_succ, Option.some.injEq, exists_eq_left', exists_eq_left, true_and, and_true, at0, at1, at2, at3, List.length_map, List.cons.injEq, Int.cast_ofNat_Int, Int.reduceEq, Int.reduceLT, Int.reduceLE, D.int.injEq, D.str.injEq, D.bl.injEq, D.tup.injEq, D.lst.injEq, exists_const, Int.zero_add, Nat.zero_add, Int.natCast_add, Int.natCast_one, Int.reduceAdd, toD]
  have e : (if t > 0 then t else 0) = t := by split <;> omega
  rw [e]
  exact h
abbrev s_l_lies : Stmt := top 71
theorem sc_l_lies : FnScope ["_law_look", "_law_x", "_law_is_shut", "_law_word", "_law_a", "_law_b"] ["_law_look", "_law_x", "_law_is_shut"] (defScope s_l_lies) := ⟨rfl, rfl, rfl, by decide +kernel, rfl, by decide +kernel, by decide +kernel⟩
theorem ok_l_lies (F0 : Df K mg "_law_lies" s_l_lies) (B : Bt mg) (C : Cs K w mg)  : Has Pr w K mg base "_law_lies" ["_law_look", "_law_x", "_law_is_shut"] k_l_lies sp_l_lies := by
  have sc := sc_l_lies
  refine has_mk (k := _) F0 sc (fun _ _ _ _ _ _ us hl => match us, hl with | [_, _, _], _ => rfl) len_l_lies (fun f cdv A outer s H E hr => ⟨_,
    (bCons (sAsg (vN 0) (gTup (m := 3) (gCons (gN 3 sc.nd) (gCons (gN 4 sc.nd) (gCons (gN 5 sc.nd) gNil)))))
    (bCons (sIf (bEq hr (vN 3) vS)
      (bOne (sRet (vIf (bVal (vN 2)) (vLe (vN 1) (vN 5)) (vLt (vN 1) (vN 5)))))
      bNil)
    bNo)), ?_⟩)
  rintro _ n P ⟨t, x, shut, rfl, h⟩
  simp only [SSeq, SNil, SIf, SRet, SSet, SAsg, SPar, SMuL, SApp, SExt, SPut, SFz, frzR, SNo, TVar, TC, TOp, TB, TNil, TCons, TTup, TLst, TKey, oIx, seqOf, TAnd, TOr, TNot, TAndV, TOrV, TNotV, TIf, TCB, cLen, cAbs, cMax2, cMin2, cAll, cList, cTuple, cInt, TIsi, isD, tyD, TCall, TChain, TLc, TLc0, SFor, ISeq, IRg1, IRg2, IZip, TSl, TPs, TPn, slD, cut1, opII, opI0, TNeg, oAdd, oIsN, oNotN, oIsB, opEq, eqD, getS, startR, GName, GNil, GCons, GTup, List.map_cons, List.map_nil, List.length_cons, List.length_nil, List.cons_append, List.nil_append, List.set_cons_zero, List.set_cons_succ, List.replicate, List.append_nil, Option.map_some, Bool.not_true, Bool.not_false, Bool.false_eq_true, if_true, if_false, ite_true, ite_false, reduceIte, Nat.sub_self, Nat.reduceAdd, Nat.reduceSub, Bool.or_true, Bool.or_false, Bool.true_or, Bool.false_or, Bool.and_true, Bool.and_false, decide_true, decide_false, List.getElem?_cons_zero, List.getElem?_cons_succ, Option.some.injEq, exists_eq_left', exists_eq_left, true_and, and_true, at0, at1, at2, at3, List.length_map, List.cons.injEq, Int.cast_ofNat_Int, Int.reduceEq, Int.reduceLT, Int.reduceLE, D.int.injEq, D.str.injEq, D.bl.injEq, D.tup.injEq, D.lst.injEq, exists_const, Int.zero_add, Nat.zero_add, Int.natCast_add, Int.natCast_one, Int.reduceAdd, toD]
  cases shut <;> exact h
abbrev s_l_whole : Stmt := top 75
theorem sc_l_whole : FnScope ["_law_case", "_law_whole_here", "_law_row"] ["_law_case"] (defScope s_l_whole) := ⟨rfl, rfl, rfl, by decide +kernel, rfl, by decide +kernel, by decide +kernel⟩
theorem ok_l_whole (F0 : Df K mg "_law_whole" s_l_whole) (B : Bt mg) (C : Cs K w mg)  : Has Pr w K mg base "_law_whole" ["_law_case"] k_l_whole sp_l_whole := by
  have sc := sc_l_whole
  refine has_mk (k := _) F0 sc (fun _ _ _ _ _ _ us hl => match us, hl with | [_], _ => rfl) len_l_whole (fun f cdv A outer s H E hr => ⟨_,
    (bCons (sSet 1 sc.nd vI)
    (bCons (sFor .never (iL (vIx (vN 0) vI)) (gN 2 sc.nd)
      (bOne (sSet 1 sc.nd (vMul (vN 1) (vIx (vN 0) vI)))))
    (bOne (sRet (vN 1))))), ?_⟩)
  rintro _ n P ⟨b, rows, rfl, hr, h⟩
  simp only [SSeq, SNil, SIf, SRet, SSet, SAsg, SPar, SMuL, SApp, SExt, SPut, SFz, frzR, SNo, TVar, TC, TOp, TB, TNil, TCons, TTup, TLst, TKey, oIx, seqOf, TAnd, TOr, TNot, TAndV, TOrV, TNotV, TIf, TCB, cLen, cAbs, cMax2, cMin2, cAll, cList, cTuple, cInt, TIsi, isD, tyD, TCall, TChain, TLc, TLc0, SFor, ISeq, IRg1, IRg2, IZip, TSl, TPs, TPn, slD, cut1, opII, opI0, TNeg, oAdd, oIsN, oNotN, oIsB, opEq, eqD, getS, startR, GName, GNil, GCons, GTup, List.map_cons, List.map_nil, List.length_cons, List.length_nil, List.cons_append, List.nil_append, List.set_cons_zero, List.set_cons_succ, List.replicate, List.append_nil, Option.map_some, Bool.not_true, Bool.not_false, Bool.false_eq_true, if_true, if_false, ite_true, ite_false, reduceIte, Nat.sub_self, Nat.reduceAdd, Nat.reduceSub, Bool.or_true, Bool.or_false, Bool.true_or, Bool.false_or, Bool.and_true, Bool.and_false, decide_true, decide_false, List.getElem?_cons_zero, List.getElem?_cons_succ, Option.some.injEq, exists_eq_left', exists_eq_left, true_and, and_true, at0, at1, at2, at3, List.length_map, List.cons.injEq, Int.cast_ofNat_Int, Int.reduceEq, Int.reduceLT, Int.reduceLE, D.int.injEq, D.str.injEq, D.bl.injEq, D.tup.injEq, D.lst.injEq, exists_const, Int.zero_add, Nat.zero_add, Int.natCast_add, Int.natCast_one, Int.reduceAdd, caseD, rowsD]
  refine ⟨fun i ρ n' => Eqn n' n ∧ ∃ a, Is ρ [.val (caseD b rows), .val (.int ((b : Int) ^ i)), a], ⟨rfl, _, rfl⟩, ?_, ?_⟩
  · rintro i d ρ n' hd ⟨rfl, a, rfl⟩
    simp only [SSeq, SNil, SIf, SRet, SSet, SAsg, SPar, SMuL, SApp, SExt, SPut, SFz, frzR, SNo, TVar, TC, TOp, TB, TNil, TCons, TTup, TLst, TKey, oIx, seqOf, TAnd, TOr, TNot, TAndV, TOrV, TNotV, TIf, TCB, cLen, cAbs, cMax2, cMin2, cAll, cList, cTuple, cInt, TIsi, isD, tyD, TCall, TChain, TLc, TLc0, SFor, ISeq, IRg1, IRg2, IZip, TSl, TPs, TPn, slD, cut1, opII, opI0, TNeg, oAdd, oIsN, oNotN, oIsB, opEq, eqD, getS, startR, GName, GNil, GCons, GTup, List.map_cons, List.map_nil, List.length_cons, List.length_nil, List.cons_append, List.nil_append, List.set_cons_zero, List.set_cons_succ, List.replicate, List.append_nil, Option.map_some, Bool.not_true, Bool.not_false, Bool.false_eq_true, if_true, if_false, ite_true, ite_false, reduceIte, Nat.sub_self, Nat.reduceAdd, Nat.reduceSub, Bool.or_true, Bool.or_false, Bool.true_or, Bool.false_or, Bool.and_true, Bool.and_false, decide_true, decide_false, List.getElem?_cons_zero, List.getElem?_cons_succ, Option.some.injEq, exists_eq_left', exists_eq_left, true_and, and_true, at0, at1, at2, at3, List.length_map, List.cons.injEq, Int.cast_ofNat_Int, Int.reduceEq, Int.reduceLT, Int.reduceLE, D.int.injEq, D.str.injEq, D.bl.injEq, D.tup.injEq, D.lst.injEq, exists_const, Int.zero_add, Nat.zero_add, Int.natCast_add, Int.natCast_one, Int.reduceAdd, caseD]
    have := hr.b997
    refine ⟨.inr ⟨by omega, by omega⟩, rfl, .val d, ?_⟩
    rw [Int.pow_succ]
    rfl
  · rintro ρ n' ⟨rfl, a, rfl⟩
    simp only [SSeq, SNil, SIf, SRet, SSet, SAsg, SPar, SMuL, SApp, SExt, SPut, SFz, frzR, SNo, TVar, TC, TOp, TB, TNil, TCons, TTup, TLst, TKey, oIx, seqOf, TAnd, TOr, TNot, TAndV, TOrV, TNotV, TIf, TCB, cLen, cAbs, cMax2, cMin2, cAll, cList, cTuple, cInt, TIsi, isD, tyD, TCall, TChain, TLc, TLc0, SFor, ISeq, IRg1, IRg2, IZip, TSl, TPs, TPn, slD, cut1, opII, opI0, TNeg, oAdd, oIsN, oNotN, oIsB, opEq, eqD, getS, startR, GName, GNil, GCons, GTup, List.map_cons, List.map_nil, List.length_cons, List.length_nil, List.cons_append, List.nil_append, List.set_cons_zero, List.set_cons_succ, List.replicate, List.append_nil, Option.map_some, Bool.not_true, Bool.not_false, Bool.false_eq_true, if_true, if_false, ite_true, ite_false, reduceIte, Nat.sub_self, Nat.reduceAdd, Nat.reduceSub, Bool.or_true, Bool.or_false, Bool.true_or, Bool.false_or, Bool.and_true, Bool.and_false, decide_true, decide_false, List.getElem?_cons_zero, List.getElem?_cons_succ, Option.some.injEq, exists_eq_left', exists_eq_left, true_and, and_true, at0, at1, at2, at3, List.length_map, List.cons.injEq, Int.cast_ofNat_Int, Int.reduceEq, Int.reduceLT, Int.reduceLE, D.int.injEq, D.str.injEq, D.bl.injEq, D.tup.injEq, D.lst.injEq, exists_const, Int.zero_add, Nat.zero_add, Int.natCast_add, Int.natCast_one, Int.reduceAdd]
    exact h
abbrev s_l_handed : Stmt := top 76
theorem sc_l_handed : FnScope ["_law_case", "_law_row", "_law_x"] ["_law_case"] (defScope s_l_handed) := ⟨rfl, rfl, rfl, by decide +kernel, rfl, by decide +kernel, by decide +kernel⟩
theorem ok_l_handed (F0 : Df K mg "_law_handed" s_l_handed) (B : Bt mg) (C : Cs K w mg) (h_l_low : Has Pr w K mg base "_law_low" ["_law_top", "_law_bottom"] k_l_low sp_l_low) : Has Pr w K mg base "_law_handed" ["_law_case"] k_l_handed sp_l_handed := by
  have sc := sc_l_handed
  refine has_mk (k := _) F0 sc (fun _ _ _ _ _ _ us hl => match us, hl with | [_], _ => rfl) len_l_handed (fun f cdv A outer s H E hr => ⟨_,
    (bOne (sRet (vTuple B.tuple (aCons (vLc (own := [("_law_row", 1)]) sc.nd (iL (vIx (vN 0) vI)) (fun _ _ _ _ _ => (gN 1 sc.nd)) (fun _ _ _ _ _ => tN) (fun _ _ _ _ _ => (vTuple B.tuple (aCons (vLc (own := [("_law_x", 2)]) sc.nd (iL (vN 1)) (fun _ _ _ _ _ => (gN 2 sc.nd)) (fun _ _ _ _ _ => tN) (fun _ _ _ _ _ => (vCall h_l_low hr (aCons (vN 2) (aCons (vIx (vN 0) vI) aNil))))) aNil)))) aNil)))), ?_⟩)
  rintro _ n P ⟨b, rows, rfl, hr, h⟩
  simp only [SSeq, SNil, SIf, SRet, SSet, SAsg, SPar, SMuL, SApp, SExt, SPut, SFz, frzR, SNo, TVar, TC, TOp, TB, TNil, TCons, TTup, TLst, TKey, oIx, seqOf, TAnd, TOr, TNot, TAndV, TOrV, TNotV, TIf, TCB, cLen, cAbs, cMax2, cMin2, cAll, cList, cTuple, cInt, TIsi, isD, tyD, TCall, TChain, TLc, TLc0, SFor, ISeq, IRg1, IRg2, IZip, TSl, TPs, TPn, slD, cut1, opII, opI0, TNeg, oAdd, oIsN, oNotN, oIsB, opEq, eqD, getS, startR, GName, GNil, GCons, GTup, List.map_cons, List.map_nil, List.length_cons, List.length_nil, List.cons_append, List.nil_append, List.set_cons_zero, List.set_cons_succ, List.replicate, List.append_nil, Option.map_some, Bool.not_true, Bool.not_false, Bool.false_eq_true, if_true, if_false, ite_true, ite_false, reduceIte, Nat.sub_self, Nat.reduceAdd, Nat.reduceSub, Bool.or_true, Bool.or_false, Bool.true_or, Bool.false_or, Bool.and_true, Bool.and_false, decide_true, decide_false, List.getElem?_cons_zero, List.getElem?_cons_succ, Option.some.injEq, exists_eq_left', exists_eq_left, true_and, and_true, at0, at1, at2, at3, List.length_map, List.cons.injEq, Int.cast_ofNat_Int, Int.reduceEq, Int.reduceLT, Int.reduceLE, D.int.injEq, D.str.injEq, D.bl.injEq, D.tup.injEq, D.lst.injEq, exists_const, Int.zero_add, Nat.zero_add, Int.natCast_add, Int.natCast_one, Int.reduceAdd, caseD, rowsD]
  have hb := hr.b9
  have hb2 := hr.b997
  refine lc_mapF rows intsD (fun r => ptD (r.map fun x => mkRat x b)) (sz8 (by have := hr.s2; omega)) (fun r hrm Q hQ => ?_) ?_
  · simp only [SSeq, SNil, SIf, SRet, SSet, SAsg, SPar, SMuL, SApp, SExt, SPut, SFz, frzR, SNo, TVar, TC, TOp, TB, TNil, TCons, TTup, TLst, TKey, oIx, seqOf, TAnd, TOr, TNot, TAndV, TOrV, TNotV, TIf, TCB, cLen, cAbs, cMax2, cMin2, cAll, cList, cTuple, cInt, TIsi, isD, tyD, TCall, TChain, TLc, TLc0, SFor, ISeq, IRg1, IRg2, IZip, TSl, TPs, TPn, slD, cut1, opII, opI0, TNeg, oAdd, oIsN, oNotN, oIsB, opEq, eqD, getS, startR, GName, GNil, GCons, GTup, List.map_cons, List.map_nil, List.length_cons, List.length_nil, List.cons_append, List.nil_append, List.set_cons_zero, List.set_cons_succ, List.replicate, List.append_nil, Option.map_some, Bool.not_true, Bool.not_false, Bool.false_eq_true, if_true, if_false, ite_true, ite_false, reduceIte, Nat.sub_self, Nat.reduceAdd, Nat.reduceSub, Bool.or_true, Bool.or_false, Bool.true_or, Bool.false_or, Bool.and_true, Bool.and_false, decide_true, decide_false, List.getElem?_cons_zero, List.getElem?_cons_succ, Option.some.injEq, exists_eq_left', exists_eq_left, true_and, and_true, at0, at1, at2, at3, List.length_map, List.cons.injEq, Int.cast_ofNat_Int, Int.reduceEq, Int.reduceLT, Int.reduceLE, D.int.injEq, D.str.injEq, D.bl.injEq, D.tup.injEq, D.lst.injEq, exists_const, Int.zero_add, Nat.zero_add, Int.natCast_add, Int.natCast_one, Int.reduceAdd, wipeR, intsD]
    refine lc_mapF r D.int (fun x => fr (mkRat x b)) (sz8 (hr.row r hrm)) (fun x hx Q2 hQ2 => ?_) ?_
    · simp only [SSeq, SNil, SIf, SRet, SSet, SAsg, SPar, SMuL, SApp, SExt, SPut, SFz, frzR, SNo, TVar, TC, TOp, TB, TNil, TCons, TTup, TLst, TKey, oIx, seqOf, TAnd, TOr, TNot, TAndV, TOrV, TNotV, TIf, TCB, cLen, cAbs, cMax2, cMin2, cAll, cList, cTuple, cInt, TIsi, isD, tyD, TCall, TChain, TLc, TLc0, SFor, ISeq, IRg1, IRg2, IZip, TSl, TPs, TPn, slD, cut1, opII, opI0, TNeg, oAdd, oIsN, oNotN, oIsB, opEq, eqD, getS, startR, GName, GNil, GCons, GTup, List.map_cons, List.map_nil, List.length_cons, List.length_nil, List.cons_append, List.nil_append, List.set_cons_zero, List.set_cons_succ, List.replicate, List.append_nil, Option.map_some, Bool.not_true, Bool.not_false, Bool.false_eq_true, if_true, if_false, ite_true, ite_false, reduceIte, Nat.sub_self, Nat.reduceAdd, Nat.reduceSub, Bool.or_true, Bool.or_false, Bool.true_or, Bool.false_or, Bool.and_true, Bool.and_false, decide_true, decide_false, List.getElem?_cons_zero, List.getElem?_cons_succ, Option.some.injEq, exists_eq_left', exists_eq_left, true_and, and_true, at0, at1, at2, at3, List.length_map, List.cons.injEq, Int.cast_ofNat_Int, Int.reduceEq, Int.reduceLT, Int.reduceLE, D.int.injEq, D.str.injEq, D.bl.injEq, D.tup.injEq, D.lst.injEq, exists_const, Int.zero_add, Nat.zero_add, Int.natCast_add, Int.natCast_one, Int.reduceAdd, wipeR, sp_l_low]
      exact ⟨x, b, ⟨rfl, rfl⟩, by omega, by omega, hQ2⟩
    · simpa [ptD, Function.comp_def] using hQ
  · simpa [gridD, gsOf, Function.comp_def] using h
abbrev s_l_boxes : Stmt := top 77
theorem sc_l_boxes : FnScope ["_law_case", "_law_row"] ["_law_case"] (defScope s_l_boxes) := ⟨rfl, rfl, rfl, by decide +kernel, rfl, by decide +kernel, by decide +kernel⟩
theorem ok_l_boxes (F0 : Df K mg "_law_boxes" s_l_boxes) (B : Bt mg) (C : Cs K w mg) (h_l_places : Has Pr w K mg base "_law_places" ["_law_rows"] k_l_places sp_l_places) : Has Pr w K mg base "_law_boxes" ["_law_case"] k_l_boxes sp_l_boxes := by
  have sc := sc_l_boxes
  refine has_mk (k := _) F0 sc (fun _ _ _ _ _ _ us hl => match us, hl with | [_], _ => rfl) len_l_boxes (fun f cdv A outer s H E hr => ⟨_,
    (bOne (sRet (vCall h_l_places hr (aCons (vLc (own := [("_law_row", 1)]) sc.nd (iL (vIx (vN 0) vI)) (fun _ _ _ _ _ => (gN 1 sc.nd)) (fun _ _ _ _ _ => tN) (fun _ _ _ _ _ => (vAdd (vN 1) (vLst (aCons (vIx (vN 0) vI) aNil))))) aNil)))), ?_⟩)
  rintro _ n P ⟨b, rows, rfl, hr, h⟩
  simp only [SSeq, SNil, SIf, SRet, SSet, SAsg, SPar, SMuL, SApp, SExt, SPut, SFz, frzR, SNo, TVar, TC, TOp, TB, TNil, TCons, TTup, TLst, TKey, oIx, seqOf, TAnd, TOr, TNot, TAndV, TOrV, TNotV, TIf, TCB, cLen, cAbs, cMax2, cMin2, cAll, cList, cTuple, cInt, TIsi, isD, tyD, TCall, TChain, TLc, TLc0, SFor, ISeq, IRg1, IRg2, IZip, TSl, TPs, TPn, slD, cut1, opII, opI0, TNeg, oAdd, oIsN, oNotN, oIsB, opEq, eqD, getS, startR, GName, GNil, GCons, GTup, List.map_cons, List.map_nil, List.length_cons, List.length_nil, List.cons_append, List.nil_append, List.set_cons_zero, List.set_cons_succ, List.replicate, List.append_nil, Option.map_some, Bool.not_true, Bool.not_false, Bool.false_eq_true, if_true, if_false, ite_true, ite_false, reduceIte, Nat.sub_self, Nat.reduceAdd, Nat.reduceSub, Bool.or_true, Bool.or_false, Bool.true_or, Bool.false_or, Bool.and_true, Bool.and_false, decide_true, decide_false, List.getElem?_cons_zero, List.getElem?_cons_succ, Option.some.injEq, exists_eq_left', exists_eq_left, true_and, and_true, at0, at1, at2, at3, List.length_map, List.cons.injEq, Int.cast_ofNat_Int, Int.reduceEq, Int.reduceLT, Int.reduceLE, D.int.injEq, D.str.injEq, D.bl.injEq, D.tup.injEq, D.lst.injEq, exists_const, Int.zero_add, Nat.zero_add, Int.natCast_add, Int.natCast_one, Int.reduceAdd, caseD, rowsD]
  refine lc_mapF rows intsD (fun r => intsD (r ++ [(b : Int)])) (sz8 (by have := hr.s2; omega)) (fun r hrm Q hQ => ?_) ?_
  · simp only [SSeq, SNil, SIf, SRet, SSet, SAsg, SPar, SMuL, SApp, SExt, SPut, SFz, frzR, SNo, TVar, TC, TOp, TB, TNil, TCons, TTup, TLst, TKey, oIx, seqOf, TAnd, TOr, TNot, TAndV, TOrV, TNotV, TIf, TCB, cLen, cAbs, cMax2, cMin2, cAll, cList, cTuple, cInt, TIsi, isD, tyD, TCall, TChain, TLc, TLc0, SFor, ISeq, IRg1, IRg2, IZip, TSl, TPs, TPn, slD, cut1, opII, opI0, TNeg, oAdd, oIsN, oNotN, oIsB, opEq, eqD, getS, startR, GName, GNil, GCons, GTup, List.map_cons, List.map_nil, List.length_cons, List.length_nil, List.cons_append, List.nil_append, List.set_cons_zero, List.set_cons_succ, List.replicate, List.append_nil, Option.map_some, Bool.not_true, Bool.not_false, Bool.false_eq_true, if_true, if_false, ite_true, ite_false, reduceIte, Nat.sub_self, Nat.reduceAdd, Nat.reduceSub, Bool.or_true, Bool.or_false, Bool.true_or, Bool.false_or, Bool.and_true, Bool.and_false, decide_true, decide_false, List.getElem?_cons_zero, List.getElem?_cons_succ, Option.some.injEq, exists_eq_left', exists_eq_left, true_and, and_true, at0, at1, at2, at3, List.length_map, List.cons.injEq, Int.cast_ofNat_Int, Int.reduceEq, Int.reduceLT, Int.reduceLE, D.int.injEq, D.str.injEq, D.bl.injEq, D.tup.injEq, D.lst.injEq, exists_const, Int.zero_add, Nat.zero_add, Int.natCast_add, Int.natCast_one, Int.reduceAdd, wipeR, intsD]
    have := hr.row r hrm
    exact ⟨sz8 (by omega), sz1000 (by omega), by simpa [intsD] using hQ⟩
  · refine ⟨rows.map fun r => r ++ [(b : Int)], by simp [rowsD, Function.comp_def], by rw [List.length_map]; exact hr.s2, fun r hrm => ?_, h⟩
    obtain ⟨q, hq, rfl⟩ := List.mem_map.mp hrm
    have := hr.row q hq
    rw [List.length_append, List.length_singleton]
    omega
abbrev s_l_in : Stmt := top 78
theorem sc_l_in : FnScope ["_law_place", "_law_box", "_law_is_shut", "_law_x", "_law_t"] ["_law_place", "_law_box", "_law_is_shut"] (defScope s_l_in) := ⟨rfl, rfl, rfl, by decide +kernel, rfl, by decide +kernel, by decide +kernel⟩
theorem ok_l_in (F0 : Df K mg "_law_in" s_l_in) (B : Bt mg) (C : Cs K w mg)  : Has Pr w K mg base "_law_in" ["_law_place", "_law_box", "_law_is_shut"] k_l_in sp_l_in := by
  have sc := sc_l_in
  refine has_mk (k := _) F0 sc (fun _ _ _ _ _ _ us hl => match us, hl with | [_, _, _], _ => rfl) len_l_in (fun f cdv A outer s H E hr => ⟨_,
    (bOne (sRet (vNotIn vB (vLc (own := [("_law_x", 3), ("_law_t", 4)]) sc.nd (iZip B.zip (aCons (vN 0) (aCons (vN 1) aNil))) (fun _ _ _ _ _ => (gTup (m := 2) (gCons (gN 3 sc.nd) (gCons (gN 4 sc.nd) gNil)))) (fun _ _ _ _ _ => tN) (fun _ _ _ _ _ => (vIf (bVal (vN 2)) (vLe (vN 3) (vN 4)) (vLt (vN 3) (vN 4)))))))), ?_⟩)
  rintro _ n P ⟨xs, ts, shut, rfl, hl, h⟩
  simp only [SSeq, SNil, SIf, SRet, SSet, SAsg, SPar, SMuL, SApp, SExt, SPut, SFz, frzR, SNo, TVar, TC, TOp, TB, TNil, TCons, TTup, TLst, TKey, oIx, seqOf, TAnd, TOr, TNot, TAndV, TOrV, TNotV, TIf, TCB, cLen, cAbs, cMax2, cMin2, cAll, cList, cTuple, cInt, TIsi, isD, tyD, TCall, TChain, TLc, TLc0, SFor, ISeq, IRg1, IRg2, IZip, TSl, TPs, TPn, slD, cut1, opII, opI0, TNeg, oAdd, oIsN, oNotN, oIsB, opEq, eqD, getS, startR, GName, GNil, GCons, GTup, List.map_cons, List.map_nil, List.length_cons, List.length_nil, List.cons_append, List.nil_append, List.set_cons_zero, List.set_cons_succ, List.replicate, List.append_nil, Option.map_some, Bool.not_true, Bool.not_false, Bool.false_eq_true, if_true, if_false, ite_true, ite_false, reduceIte, Nat.sub_self, Nat.reduceAdd, Nat.reduceSub, Bool.or_true, Bool.or_false, Bool.true_or, Bool.false_or, Bool.and_true, Bool.and_false, decide_true, decide_false, List.getElem?_cons_zero, List.getElem?_cons_succ, Option.some.injEq, exists_eq_left', exists_eq_left, true_and, and_true, at0, at1, at2, at3, List.length_map, List.cons.injEq, Int.cast_ofNat_Int, Int.reduceEq, Int.reduceLT, Int.reduceLE, D.int.injEq, D.str.injEq, D.bl.injEq, D.tup.injEq, D.lst.injEq, exists_const, Int.zero_add, Nat.zero_add, Int.natCast_add, Int.natCast_one, Int.reduceAdd, tupI, opIn]
  rw [List.zip_map, List.map_map]
  have hz : (xs.zip ts).length ≤ sizeLine := by
    rw [List.length_zip]
    exact sz8 (by omega)
  refine lc_mapF (xs.zip ts) _ (fun p => .bl (lesI p.1 p.2 shut)) hz (fun p hp Q hQ => ?_) ?_
  · simp only [SSeq, SNil, SIf, SRet, SSet, SAsg, SPar, SMuL, SApp, SExt, SPut, SFz, frzR, SNo, TVar, TC, TOp, TB, TNil, TCons, TTup, TLst, TKey, oIx, seqOf, TAnd, TOr, TNot, TAndV, TOrV, TNotV, TIf, TCB, cLen, cAbs, cMax2, cMin2, cAll, cList, cTuple, cInt, TIsi, isD, tyD, TCall, TChain, TLc, TLc0, SFor, ISeq, IRg1, IRg2, IZip, TSl, TPs, TPn, slD, cut1, opII, opI0, TNeg, oAdd, oIsN, oNotN, oIsB, opEq, eqD, getS, startR, GName, GNil, GCons, GTup, List.map_cons, List.map_nil, List.length_cons, List.length_nil, List.cons_append, List.nil_append, List.set_cons_zero, List.set_cons_succ, List.replicate, List.append_nil, Option.map_some, Bool.not_true, Bool.not_false, Bool.false_eq_true, if_true, if_false, ite_true, ite_false, reduceIte, Nat.sub_self, Nat.reduceAdd, Nat.reduceSub, Bool.or_true, Bool.or_false, Bool.true_or, Bool.false_or, Bool.and_true, Bool.and_false, decide_true, decide_false, List.getElem?_cons_zero, List.getElem?_cons_succ, Option.some.injEq, exists_eq_left', exists_eq_left, true_and, and_true, at0, at1, at2, at3, List.length_map, List.cons.injEq, Int.cast_ofNat_Int, Int.reduceEq, Int.reduceLT, Int.reduceLE, D.int.injEq, D.str.injEq, D.bl.injEq, D.tup.injEq, D.lst.injEq, exists_const, Int.zero_add, Nat.zero_add, Int.natCast_add, Int.natCast_one, Int.reduceAdd, wipeR, Function.comp_apply, Prod.map_fst, Prod.map_snd]
    cases shut <;> exact hQ
  · refine ⟨(xs.zip ts).map fun p => lesI p.1 p.2 shut, by rw [List.map_map]; rfl, ?_⟩
    have e : (!decide (false ∈ (xs.zip ts).map fun p => lesI p.1 p.2 shut)) = inI xs ts shut := by
      unfold inI
      rw [Bool.eq_iff_iff, Bool.not_eq_true', decide_eq_false_iff_not, List.all_eq_true, List.mem_map]
      constructor
      · intro hn p hp
        cases q : lesI p.1 p.2 shut
        · exact absurd ⟨p, hp, q⟩ hn
        · rfl
      · rintro ha ⟨p, hp, q⟩
        rw [ha p hp] at q
        cases q
    show P (.bl (!decide (false ∈ (xs.zip ts).map fun p => lesI p.1 p.2 shut))) n
    rw [e]
    exact h
abbrev s_l_shown : Stmt := top 79
theorem sc_l_shown : FnScope ["_law_case", "_law_many", "_law_held", "_law_free", "_law_box", "_law_is_over", "_law_places_here", "_law_size", "_law_t", "_law_one", "_law_other", "_law_count", "_law_g"] ["_law_case", "_law_many", "_law_held", "_law_free", "_law_box", "_law_is_over"] (defScope s_l_shown) := ⟨rfl, rfl, rfl, by decide +kernel, rfl, by decide +kernel, by decide +kernel⟩
theorem ok_l_shown (F0 : Df K mg "_law_shown" s_l_shown) (B : Bt mg) (C : Cs K w mg) (h_l_whole : Has Pr w K mg base "_law_whole" ["_law_case"] k_l_whole sp_l_whole) (h_l_in : Has Pr w K mg base "_law_in" ["_law_place", "_law_box", "_law_is_shut"] k_l_in sp_l_in) (h_l_places : Has Pr w K mg base "_law_places" ["_law_rows"] k_l_places sp_l_places) : Has Pr w K mg base "_law_shown" ["_law_case", "_law_many", "_law_held", "_law_free", "_law_box", "_law_is_over"] k_l_shown sp_l_shown := by
  have sc := sc_l_shown
  refine has_mk (k := _) F0 sc (fun _ _ _ _ _ _ us hl => match us, hl with | [_, _, _, _, _, _], _ => rfl) len_l_shown (fun f cdv A outer s H E hr => ⟨_,
    (bCons (sSet 6 sc.nd (vCall h_l_places hr (aCons (vIx (vN 0) vI) aNil)))
    (bCons (sSet 7 sc.nd vI)
    (bCons (sFor .never (iT (vN 4)) (gN 8 sc.nd)
      (bOne (sSet 7 sc.nd (vMul (vN 7) (vN 8)))))
    (bCons (sLc 9 (own := [("_law_g", 12)]) sc.nd (iL (vN 2)) (fun _ _ _ _ _ => (gN 12 sc.nd)) (fun _ _ _ _ _ => t1 (bVal (vCall h_l_in hr (aCons (vIx (vN 6) (vN 12)) (aCons (vN 4) (aCons (vN 5) aNil)))))) (fun _ _ _ _ _ => (vN 12)))
    (bCons (sLc 10 (own := [("_law_g", 12)]) sc.nd (iL (vAdd (vN 2) (vN 3))) (fun _ _ _ _ _ => (gN 12 sc.nd)) (fun _ _ _ _ _ => t1 (bVal (vCall h_l_in hr (aCons (vIx (vN 6) (vN 12)) (aCons (vN 4) (aCons (vN 5) aNil)))))) (fun _ _ _ _ _ => (vN 12)))
    (bCons (sIf (bVal (vN 5))
      (bCons (sSet 11 sc.nd (vMax2 B.max (aCons (vLen B.len (aCons (vN 9) aNil)) (aCons (vSub (vN 1) (vSub (vAdd (vLen B.len (aCons (vN 2) aNil)) (vLen B.len (aCons (vN 3) aNil))) (vLen B.len (aCons (vN 10) aNil)))) aNil))))
      (bOne (sRet (vSub (vMul (vN 11) (vCall h_l_whole hr (aCons (vN 0) aNil))) (vMul (vN 1) (vN 7))))))
      bNil)
    (bCons (sSet 11 sc.nd (vMin2 B.min (aCons (vLen B.len (aCons (vN 10) aNil)) (aCons (vSub (vN 1) (vSub (vLen B.len (aCons (vN 2) aNil)) (vLen B.len (aCons (vN 9) aNil)))) aNil))))
    (bOne (sRet (vSub (vMul (vN 1) (vN 7)) (vMul (vN 11) (vCall h_l_whole hr (aCons (vN 0) aNil))))))))))))), ?_⟩)
  rintro _ n P ⟨b, rows, m, held, free, ts, over, rfl, hr, h1, h3, hh, hf, ht, h⟩
  have hb := hr.b9
  have hb2 := hr.b997
  have hl2 : ts.length ≤ 2 := by rw [ht.len]; exact hr.s2
  obtain ⟨z0, z1⟩ := sizeI_bd ht.bd hb2 hl2
  obtain ⟨w0, w1⟩ := wholeI_bd hr
  have hN := hr.len
  have hlen := hh.len
  have hlenf := hf.len
  have hin : ∀ ks : List Int, (∀ k ∈ ks, 0 ≤ k ∧ k < (prodL rows).length) → ∀ k ∈ ks, ∀ (ρ : Rho) (n : Nat) (Q : D → Nat → Prop) (Q0 : Nat → Prop), (inI ((prodL rows).getD k.toNat []) ts over = true → Q (.int k) n) → (inI ((prodL rows).getD k.toNat []) ts over = false → Q0 n) →
      ∃ d, atI ((prodL rows).map tupI) k = some d ∧ sp_l_in [d, tupI ts, .bl over] n fun d n' => match d with
        | .bl c => if c = true then Q (.int k) n' else Q0 n'
        | _ => False := fun ks hks k hk ρ n Q Q0 q1 q2 => by
    obtain ⟨k0, k1⟩ := hks k hk
    have hk2 : k.toNat < (prodL rows).length := by omega
    have ek : k = (k.toNat : Int) := by omega
    refine ⟨tupI ((prodL rows).getD k.toNat []), ?_, (prodL rows).getD k.toNat [], ts, over, rfl, ?_, ?_⟩
    · rw [ek, atI_nat, List.getElem?_map, Int.toNat_natCast, List.getElem?_eq_getElem hk2, List.getD_eq_getElem?_getD, List.getElem?_eq_getElem hk2]
      rfl
    · rw [List.getD_eq_getElem?_getD, List.getElem?_eq_getElem hk2]
      have := (mem_prodL.mp (List.getElem_mem hk2)).len
      show ((prodL rows)[k.toNat]).length ≤ 2
      rw [this]
      exact hr.s2
    · cases e : inI ((prodL rows).getD k.toNat []) ts over
      · exact iteF (q2 e)
      · exact iteT (q1 e)
  simp only [SSeq, SNil, SIf, SRet, SSet, SAsg, SPar, SMuL, SApp, SExt, SPut, SFz, frzR, SNo, TVar, TC, TOp, TB, TNil, TCons, TTup, TLst, TKey, oIx, seqOf, TAnd, TOr, TNot, TAndV, TOrV, TNotV, TIf, TCB, cLen, cAbs, cMax2, cMin2, cAll, cList, cTuple, cInt, TIsi, isD, tyD, TCall, TChain, TLc, TLc0, SFor, ISeq, IRg1, IRg2, IZip, TSl, TPs, TPn, slD, cut1, opII, opI0, TNeg, oAdd, oIsN, oNotN, oIsB, opEq, eqD, getS, startR, GName, GNil, GCons, GTup, List.map_cons, List.map_nil, List.length_cons, List.length_nil, List.cons_append, List.nil_append, List.set_cons_zero, List.set_cons_succ, List.replicate, List.append_nil, Option.map_some, Bool.not_true, Bool.not_false, Bool.false_eq_true, if_true, if_false, ite_true, ite_false, reduceIte, Nat.sub_self, Nat.reduceAdd, Nat.reduceSub, Bool.or_true, Bool.or_false, Bool.true_or, Bool.false_or, Bool.and_true, Bool.and_false, decide_true, decide_false, List.getElem?_cons_zero, List.getElem?_cons_succ, Option.some.injEq, exists_eq_left', exists_eq_left, true_and, and_true, at0, at1, at2, at3, List.length_map, List.cons.injEq, Int.cast_ofNat_Int, Int.reduceEq, Int.reduceLT, Int.reduceLE, D.int.injEq, D.str.injEq, D.bl.injEq, D.tup.injEq, D.lst.injEq, exists_const, Int.zero_add, Nat.zero_add, Int.natCast_add, Int.natCast_one, Int.reduceAdd, caseD, rowsD, intsD, tupI, sp_l_places]
  refine ⟨rows, rfl, hr.s2, fun r hrm => by have := hr.row r hrm; omega, fun i ρ n' => Eqn n' n ∧ ∃ a b' c d e, Is ρ [.val (caseD b rows), .val (.int m), .val (intsD held), .val (intsD free), .val (tupI ts), .val (.bl over), .val (.lst ((prodL rows).map tupI)), .val (.int ((ts.take i).foldl (· * ·) 1)), a, b', c, d, e], ⟨rfl, _, _, _, _, _, rfl⟩, ?_, ?_⟩
  · rintro i d ρ n' hd ⟨rfl, a, b', c, d', e, rfl⟩
    rw [List.getElem?_map] at hd
    obtain ⟨t, hti, rfl⟩ := Option.map_eq_some_iff.mp hd
    simp only [SSeq, SNil, SIf, SRet, SSet, SAsg, SPar, SMuL, SApp, SExt, SPut, SFz, frzR, SNo, TVar, TC, TOp, TB, TNil, TCons, TTup, TLst, TKey, oIx, seqOf, TAnd, TOr, TNot, TAndV, TOrV, TNotV, TIf, TCB, cLen, cAbs, cMax2, cMin2, cAll, cList, cTuple, cInt, TIsi, isD, tyD, TCall, TChain, TLc, TLc0, SFor, ISeq, IRg1, IRg2, IZip, TSl, TPs, TPn, slD, cut1, opII, opI0, TNeg, oAdd, oIsN, oNotN, oIsB, opEq, eqD, getS, startR, GName, GNil, GCons, GTup, List.map_cons, List.map_nil, List.length_cons, List.length_nil, List.cons_append, List.nil_append, List.set_cons_zero, List.set_cons_succ, List.replicate, List.append_nil, Option.map_some, Bool.not_true, Bool.not_false, Bool.false_eq_true, if_true, if_false, ite_true, ite_false, reduceIte, Nat.sub_self, Nat.reduceAdd, Nat.reduceSub, Bool.or_true, Bool.or_false, Bool.true_or, Bool.false_or, Bool.and_true, Bool.and_false, decide_true, decide_false, List.getElem?_cons_zero, List.getElem?_cons_succ, Option.some.injEq, exists_eq_left', exists_eq_left, true_and, and_true, at0, at1, at2, at3, List.length_map, List.cons.injEq, Int.cast_ofNat_Int, Int.reduceEq, Int.reduceLT, Int.reduceLE, D.int.injEq, D.str.injEq, D.bl.injEq, D.tup.injEq, D.lst.injEq, exists_const, Int.zero_add, Nat.zero_add, Int.natCast_add, Int.natCast_one, Int.reduceAdd]
    obtain ⟨t0, t1⟩ := ht.bd t (List.mem_of_getElem? hti)
    refine ⟨.inr ⟨by omega, by omega⟩, rfl, .val (.int t), b', c, d', e, ?_⟩
    rw [take_snoc hti, List.foldl_append]
    rfl
  · rintro ρ n' ⟨rfl, a, b', c, d', e, rfl⟩
    rw [List.take_length]
    simp only [SSeq, SNil, SIf, SRet, SSet, SAsg, SPar, SMuL, SApp, SExt, SPut, SFz, frzR, SNo, TVar, TC, TOp, TB, TNil, TCons, TTup, TLst, TKey, oIx, seqOf, TAnd, TOr, TNot, TAndV, TOrV, TNotV, TIf, TCB, cLen, cAbs, cMax2, cMin2, cAll, cList, cTuple, cInt, TIsi, isD, tyD, TCall, TChain, TLc, TLc0, SFor, ISeq, IRg1, IRg2, IZip, TSl, TPs, TPn, slD, cut1, opII, opI0, TNeg, oAdd, oIsN, oNotN, oIsB, opEq, eqD, getS, startR, GName, GNil, GCons, GTup, List.map_cons, List.map_nil, List.length_cons, List.length_nil, List.cons_append, List.nil_append, List.set_cons_zero, List.set_cons_succ, List.replicate, List.append_nil, Option.map_some, Bool.not_true, Bool.not_false, Bool.false_eq_true, if_true, if_false, ite_true, ite_false, reduceIte, Nat.sub_self, Nat.reduceAdd, Nat.reduceSub, Bool.or_true, Bool.or_false, Bool.true_or, Bool.false_or, Bool.and_true, Bool.and_false, decide_true, decide_false, List.getElem?_cons_zero, List.getElem?_cons_succ, Option.some.injEq, exists_eq_left', exists_eq_left, true_and, and_true, at0, at1, at2, at3, List.length_map, List.cons.injEq, Int.cast_ofNat_Int, Int.reduceEq, Int.reduceLT, Int.reduceLE, D.int.injEq, D.str.injEq, D.bl.injEq, D.tup.injEq, D.lst.injEq, exists_const, Int.zero_add, Nat.zero_add, Int.natCast_add, Int.natCast_one, Int.reduceAdd, intsD]
    refine lc_filtF held D.int (fun k => inI ((prodL rows).getD k.toNat []) ts over) D.int (sz8 hlen) (fun k hk Q Q0 h1 h2 => ?_) ?_
    · simp only [SSeq, SNil, SIf, SRet, SSet, SAsg, SPar, SMuL, SApp, SExt, SPut, SFz, frzR, SNo, TVar, TC, TOp, TB, TNil, TCons, TTup, TLst, TKey, oIx, seqOf, TAnd, TOr, TNot, TAndV, TOrV, TNotV, TIf, TCB, cLen, cAbs, cMax2, cMin2, cAll, cList, cTuple, cInt, TIsi, isD, tyD, TCall, TChain, TLc, TLc0, SFor, ISeq, IRg1, IRg2, IZip, TSl, TPs, TPn, slD, cut1, opII, opI0, TNeg, oAdd, oIsN, oNotN, oIsB, opEq, eqD, getS, startR, GName, GNil, GCons, GTup, List.map_cons, List.map_nil, List.length_cons, List.length_nil, List.cons_append, List.nil_append, List.set_cons_zero, List.set_cons_succ, List.replicate, List.append_nil, Option.map_some, Bool.not_true, Bool.not_false, Bool.false_eq_true, if_true, if_false, ite_true, ite_false, reduceIte, Nat.sub_self, Nat.reduceAdd, Nat.reduceSub, Bool.or_true, Bool.or_false, Bool.true_or, Bool.false_or, Bool.and_true, Bool.and_false, decide_true, decide_false, List.getElem?_cons_zero, List.getElem?_cons_succ, Option.some.injEq, exists_eq_left', exists_eq_left, true_and, and_true, at0, at1, at2, at3, List.length_map, List.cons.injEq, Int.cast_ofNat_Int, Int.reduceEq, Int.reduceLT, Int.reduceLE, D.int.injEq, D.str.injEq, D.bl.injEq, D.tup.injEq, D.lst.injEq, exists_const, Int.zero_add, Nat.zero_add, Int.natCast_add, Int.natCast_one, Int.reduceAdd, wipeR]
      exact hin held hh.at_ k hk [] n' Q Q0 h1 h2
    · simp only [SSeq, SNil, SIf, SRet, SSet, SAsg, SPar, SMuL, SApp, SExt, SPut, SFz, frzR, SNo, TVar, TC, TOp, TB, TNil, TCons, TTup, TLst, TKey, oIx, seqOf, TAnd, TOr, TNot, TAndV, TOrV, TNotV, TIf, TCB, cLen, cAbs, cMax2, cMin2, cAll, cList, cTuple, cInt, TIsi, isD, tyD, TCall, TChain, TLc, TLc0, SFor, ISeq, IRg1, IRg2, IZip, TSl, TPs, TPn, slD, cut1, opII, opI0, TNeg, oAdd, oIsN, oNotN, oIsB, opEq, eqD, getS, startR, GName, GNil, GCons, GTup, List.map_cons, List.map_nil, List.length_cons, List.length_nil, List.cons_append, List.nil_append, List.set_cons_zero, List.set_cons_succ, List.replicate, List.append_nil, Option.map_some, Bool.not_true, Bool.not_false, Bool.false_eq_true, if_true, if_false, ite_true, ite_false, reduceIte, Nat.sub_self, Nat.reduceAdd, Nat.reduceSub, Bool.or_true, Bool.or_false, Bool.true_or, Bool.false_or, Bool.and_true, Bool.and_false, decide_true, decide_false, List.getElem?_cons_zero, List.getElem?_cons_succ, Option.some.injEq, exists_eq_left', exists_eq_left, true_and, and_true, at0, at1, at2, at3, List.length_map, List.cons.injEq, Int.cast_ofNat_Int, Int.reduceEq, Int.reduceLT, Int.reduceLE, D.int.injEq, D.str.injEq, D.bl.injEq, D.tup.injEq, D.lst.injEq, exists_const, Int.zero_add, Nat.zero_add, Int.natCast_add, Int.natCast_one, Int.reduceAdd]
      refine ⟨sz1000 (by omega), ?_⟩
      rw [← List.map_append]
      refine lc_filtF (held ++ free) D.int (fun k => inI ((prodL rows).getD k.toNat []) ts over) D.int (by rw [List.length_append]; exact sz1000 (by omega)) (fun k hk Q Q0 h1 h2 => ?_) ?_
      · simp only [SSeq, SNil, SIf, SRet, SSet, SAsg, SPar, SMuL, SApp, SExt, SPut, SFz, frzR, SNo, TVar, TC, TOp, TB, TNil, TCons, TTup, TLst, TKey, oIx, seqOf, TAnd, TOr, TNot, TAndV, TOrV, TNotV, TIf, TCB, cLen, cAbs, cMax2, cMin2, cAll, cList, cTuple, cInt, TIsi, isD, tyD, TCall, TChain, TLc, TLc0, SFor, ISeq, IRg1, IRg2, IZip, TSl, TPs, TPn, slD, cut1, opII, opI0, TNeg, oAdd, oIsN, oNotN, oIsB, opEq, eqD, getS, startR, GName, GNil, GCons, GTup, List.map_cons, List.map_nil, List.length_cons, List.length_nil, List.cons_append, List.nil_append, List.set_cons_zero, List.set_cons_succ, List.replicate, List.append_nil, Option.map_some, Bool.not_true, Bool.not_false, Bool.false_eq_true, if_true, if_false, ite_true, ite_false, reduceIte, Nat.sub_self, Nat.reduceAdd, Nat.reduceSub, Bool.or_true, Bool.or_false, Bool.true_or, Bool.false_or, Bool.and_true, Bool.and_false, decide_true, decide_false, List.getElem?_cons_zero, List.getElem?_cons_succ, Option.some.injEq, exists_eq_left', exists_eq_left, true_and, and_true, at0, at1, at2, at3, List.length_map, List.cons.injEq, Int.cast_ofNat_Int, Int.reduceEq, Int.reduceLT, Int.reduceLE, D.int.injEq, D.str.injEq, D.bl.injEq, D.tup.injEq, D.lst.injEq, exists_const, Int.zero_add, Nat.zero_add, Int.natCast_add, Int.natCast_one, Int.reduceAdd, wipeR]
        exact hin (held ++ free) (fun k hk => (List.mem_append.mp hk).elim (hh.at_ k) (hf.at_ k)) k hk [] n' Q Q0 h1 h2
      · unfold shownI at h
        refine ite2 (fun ho => ?_) (fun ho => ?_)
        · subst ho
          rw [if_pos rfl] at h
          simp only [SSeq, SNil, SIf, SRet, SSet, SAsg, SPar, SMuL, SApp, SExt, SPut, SFz, frzR, SNo, TVar, TC, TOp, TB, TNil, TCons, TTup, TLst, TKey, oIx, seqOf, TAnd, TOr, TNot, TAndV, TOrV, TNotV, TIf, TCB, cLen, cAbs, cMax2, cMin2, cAll, cList, cTuple, cInt, TIsi, isD, tyD, TCall, TChain, TLc, TLc0, SFor, ISeq, IRg1, IRg2, IZip, TSl, TPs, TPn, slD, cut1, opII, opI0, TNeg, oAdd, oIsN, oNotN, oIsB, opEq, eqD, getS, startR, GName, GNil, GCons, GTup, List.map_cons, List.map_nil, List.length_cons, List.length_nil, List.cons_append, List.nil_append, List.set_cons_zero, List.set_cons_succ, List.replicate, List.append_nil, Option.map_some, Bool.not_true, Bool.not_false, Bool.false_eq_true, if_true, if_false, ite_true, ite_false, reduceIte, Nat.sub_self, Nat.reduceAdd, Nat.reduceSub, Bool.or_true, Bool.or_false, Bool.true_or, Bool.false_or, Bool.and_true, Bool.and_false, decide_true, decide_false, List.getElem?_cons_zero, List.getElem?_cons_succ, Option.some.injEq, exists_eq_left', exists_eq_left, true_and, and_true, at0, at1, at2, at3, List.length_map, List.cons.injEq, Int.cast_ofNat_Int, Int.reduceEq, Int.reduceLT, Int.reduceLE, D.int.injEq, D.str.injEq, D.bl.injEq, D.tup.injEq, D.lst.injEq, exists_const, Int.zero_add, Nat.zero_add, Int.natCast_add, Int.natCast_one, Int.reduceAdd, sp_l_whole]
          exact ⟨b, rows, rfl, hr, .inr ⟨by omega, by omega⟩, .inl ⟨by omega, by omega⟩, h⟩
        · have ho2 : over = false := by simpa using ho
          subst ho2
          rw [if_neg (by simp)] at h
          simp only [SSeq, SNil, SIf, SRet, SSet, SAsg, SPar, SMuL, SApp, SExt, SPut, SFz, frzR, SNo, TVar, TC, TOp, TB, TNil, TCons, TTup, TLst, TKey, oIx, seqOf, TAnd, TOr, TNot, TAndV, TOrV, TNotV, TIf, TCB, cLen, cAbs, cMax2, cMin2, cAll, cList, cTuple, cInt, TIsi, isD, tyD, TCall, TChain, TLc, TLc0, SFor, ISeq, IRg1, IRg2, IZip, TSl, TPs, TPn, slD, cut1, opII, opI0, TNeg, oAdd, oIsN, oNotN, oIsB, opEq, eqD, getS, startR, GName, GNil, GCons, GTup, List.map_cons, List.map_nil, List.length_cons, List.length_nil, List.cons_append, List.nil_append, List.set_cons_zero, List.set_cons_succ, List.replicate, List.append_nil, Option.map_some, Bool.not_true, Bool.not_false, Bool.false_eq_true, if_true, if_false, ite_true, ite_false, reduceIte, Nat.sub_self, Nat.reduceAdd, Nat.reduceSub, Bool.or_true, Bool.or_false, Bool.true_or, Bool.false_or, Bool.and_true, Bool.and_false, decide_true, decide_false, List.getElem?_cons_zero, List.getElem?_cons_succ, Option.some.injEq, exists_eq_left', exists_eq_left, true_and, and_true, at0, at1, at2, at3, List.length_map, List.cons.injEq, Int.cast_ofNat_Int, Int.reduceEq, Int.reduceLT, Int.reduceLE, D.int.injEq, D.str.injEq, D.bl.injEq, D.tup.injEq, D.lst.injEq, exists_const, Int.zero_add, Nat.zero_add, Int.natCast_add, Int.natCast_one, Int.reduceAdd, sp_l_whole]
          exact ⟨.inl ⟨by omega, by omega⟩, b, rows, rfl, hr, .inr ⟨by omega, by omega⟩, h⟩
end
end Pu

/-! W8: a drawn grid, the worst box by whole numbers. -/
namespace Pu
open PySem PySem.Spec PyProof.Rows L2
structure RowOk (b : Nat) (m : Int) (r : List Int) : Prop where
  pos : 1 ≤ r.length
  len : (r.length : Int) ≤ m
  srt : r.Pairwise (· < ·)
  nums : ∀ x ∈ r, 0 ≤ x ∧ x < b
def Fits (b : Nat) : List Int → List (List Int) → Prop
  | [], [] => True
  | m :: ms, r :: rs => RowOk b m r ∧ Fits b ms rs
  | _, _ => False
theorem fits_snoc {b : Nat} {m : Int} {r : List Int} : ∀ {ms : List Int} {rs : List (List Int)}, Fits b ms rs → RowOk b m r → Fits b (ms ++ [m]) (rs ++ [r])
  | [], [], _, h => ⟨h, trivial⟩
  | _ :: _, _ :: _, h, h2 => ⟨h.1, fits_snoc h.2 h2⟩
theorem fits_len {b : Nat} : ∀ {ms : List Int} {rs : List (List Int)}, Fits b ms rs → rs.length = ms.length
  | [], [], _ => rfl
  | _ :: _, _ :: _, h => by simp [fits_len h.2]
def MostOk (ms : List Int) : Prop := ms = [8] ∨ ms = [3, 2] ∨ ms = [4, 2]
theorem prod1 (r : List Int) : (prodL [r]).length = r.length := by
  have : prodL [r] = extL [[]] r := rfl
  rw [this, extL_len]; simp
theorem prod2 (r q : List Int) : (prodL [r, q]).length = r.length * q.length := by
  have : prodL [r, q] = extL (extL [[]] r) q := rfl
  rw [this, extL_len, extL_len]; simp
theorem okR_of {b : Nat} {ms : List Int} {rows : List (List Int)} (b9 : 9 ≤ b) (b997 : b ≤ 997) (hm : MostOk ms) (hf : Fits b ms rows) : OkR b rows := by
  have two : ∀ (p q : Int) (r1 r2 : List Int), 0 ≤ p → p * q ≤ 8 → p ≤ 8 → q ≤ 8 → RowOk b p r1 → RowOk b q r2 → OkR b [r1, r2] := fun p q r1 r2 hp0 hpq hp hq h1 h2 => by
    have l1 := h1.len
    have l2 := h2.len
    have p1 := h1.pos
    have p2 := h2.pos
    refine ⟨b9, b997, by simp, by simp, fun r hr => ?_, fun r hr => ?_, fun r hr => ?_, ?_, ?_⟩
    · rcases List.mem_cons.mp hr with rfl | hr
      · omega
      · rw [List.mem_singleton.mp hr]; omega
    · rcases List.mem_cons.mp hr with rfl | hr
      · exact h1.nums
      · rw [List.mem_singleton.mp hr]; exact h2.nums
    · rcases List.mem_cons.mp hr with rfl | hr
      · exact h1.srt
      · rw [List.mem_singleton.mp hr]; exact h2.srt
    · rw [prod2]; exact Nat.mul_pos p1 p2
    · rw [prod2]
      have : (r1.length : Int) * r2.length ≤ p * q := Int.mul_le_mul l1 l2 (by omega) hp0
      have : ((r1.length * r2.length : Nat) : Int) ≤ 8 := by rw [Int.natCast_mul]; omega
      omega
  rcases hm with rfl | rfl | rfl
  · match rows, hf with
    | [r], hf =>
      have l1 := hf.1.len
      have p1 := hf.1.pos
      refine ⟨b9, b997, by simp, by simp, fun q hq => ?_, fun q hq => ?_, fun q hq => ?_, ?_, ?_⟩
      · rw [List.mem_singleton.mp hq]; omega
      · rw [List.mem_singleton.mp hq]; exact hf.1.nums
      · rw [List.mem_singleton.mp hq]; exact hf.1.srt
      · rw [prod1]; exact p1
      · rw [prod1]; omega
  · match rows, hf with
    | [r, q], hf => exact two 3 2 r q (by omega) (by omega) (by omega) (by omega) hf.1 hf.2.1
  · match rows, hf with
    | [r, q], hf => exact two 4 2 r q (by omega) (by omega) (by omega) (by omega) hf.1 hf.2.1
theorem nodup_len {α : Type} [DecidableEq α] : ∀ {l k : List α}, l.Nodup → (∀ x ∈ l, x ∈ k) → l.length ≤ k.length
  | [], _, _, _ => by simp
  | a :: l, k, hn, hs => by
    have ha : a ∈ k := hs a List.mem_cons_self
    have hl : l.length ≤ (k.erase a).length := nodup_len (List.nodup_cons.mp hn).2 fun x hx => by
      have hne : x ≠ a := fun e => (List.nodup_cons.mp hn).1 (e ▸ hx)
      exact (List.mem_erase_of_ne hne).mpr (hs x (List.mem_cons_of_mem _ hx))
    rw [List.length_erase_of_mem ha] at hl
    have := List.length_pos_of_mem ha
    rw [List.length_cons]
    omega
theorem srt_row {b : Nat} {m : Int} {ks ns : List Int} (hs : ns.Pairwise (· < ·)) (hm : ∀ k, k ∈ ns ↔ k ∈ ks) (h1 : 1 ≤ ks.length) (h2 : (ks.length : Int) ≤ m) (hk : ∀ x ∈ ks, 0 ≤ x ∧ x < (b : Int)) : RowOk b m ns := by
  have nd : ns.Nodup := hs.imp fun {a c} h e => by omega
  have hl := nodup_len nd fun x hx => (hm x).mp hx
  refine ⟨?_, by omega, hs, fun x hx => hk x ((hm x).mp hx)⟩
  match ks, h1 with
  | k :: _, _ => exact List.length_pos_of_mem ((hm k).mpr List.mem_cons_self)
theorem base_at {r : Int} (h0 : 0 ≤ r) (h1 : r < 6) : ∃ b : Nat, atI [D.int 9, D.int 10, D.int 12, D.int 24, D.int 97, D.int 997] r = some (.int b) ∧ 9 ≤ b ∧ b ≤ 997 := by
  have : r = 0 ∨ r = 1 ∨ r = 2 ∨ r = 3 ∨ r = 4 ∨ r = 5 := by omega
  rcases this with rfl | rfl | rfl | rfl | rfl | rfl
  · exact ⟨9, rfl, by omega, by omega⟩
  · exact ⟨10, rfl, by omega, by omega⟩
  · exact ⟨12, rfl, by omega, by omega⟩
  · exact ⟨24, rfl, by omega, by omega⟩
  · exact ⟨97, rfl, by omega, by omega⟩
  · exact ⟨997, rfl, by omega, by omega⟩
theorem most_at {r : Int} (h0 : 0 ≤ r) (h1 : r < 4) : ∃ ms : List Int, atI [D.lst [D.int 8], D.lst [D.int 3, D.int 2], D.lst [D.int 3, D.int 2], D.lst [D.int 4, D.int 2]] r = some (intsD ms) ∧ MostOk ms := by
  have : r = 0 ∨ r = 1 ∨ r = 2 ∨ r = 3 := by omega
  rcases this with rfl | rfl | rfl | rfl
  · exact ⟨[8], rfl, .inl rfl⟩
  · exact ⟨[3, 2], rfl, .inr (.inl rfl)⟩
  · exact ⟨[3, 2], rfl, .inr (.inl rfl)⟩
  · exact ⟨[4, 2], rfl, .inr (.inr rfl)⟩
theorem most_bd {ms : List Int} (h : MostOk ms) : ms.length ≤ 2 ∧ ∀ m ∈ ms, 2 ≤ m ∧ m ≤ 8 := by
  rcases h with rfl | rfl | rfl
  · exact ⟨by simp, fun m hm => by simp at hm; omega⟩
  · exact ⟨by simp, fun m hm => by simp at hm; omega⟩
  · exact ⟨by simp, fun m hm => by simp at hm; omega⟩
/-- points by whole numbers -/
structure OkP (b s : Nat) (pl : List (List Int)) : Prop where
  b9 : 9 ≤ b
  b997 : b ≤ 997
  s1 : 1 ≤ s
  s2 : s ≤ 2
  m1 : 1 ≤ pl.length
  m3 : pl.length ≤ 3
  w : ∀ xs ∈ pl, xs.length = s
  nums : ∀ xs ∈ pl, ∀ x ∈ xs, 0 ≤ x ∧ x < b
def EdgeI (pl : List (List Int)) (b : Nat) (j : Nat) (t : Int) : Prop := t = b ∨ ∃ xs ∈ pl, t = xs.getD j 0
def PickI (pl : List (List Int)) (b i : Nat) (ts : List Int) : Prop := ts.length = i ∧ ∀ j t, ts[j]? = some t → EdgeI pl b j t
def kIn (pl : List (List Int)) (ts : List Int) (shut : Bool) : List Int := (rgI 0 pl.length).filter fun k => inI (pl.getD k.toNat []) ts shut
def ovI (b s : Nat) (pl : List (List Int)) (ts : List Int) : Int := (kIn pl ts true).length * (b : Int) ^ s - pl.length * sizeI ts
def lkI (b s : Nat) (pl : List (List Int)) (ts : List Int) : Int := pl.length * sizeI ts - (kIn pl ts false).length * (b : Int) ^ s
def WorstI (b s : Nat) (pl : List (List Int)) (v : Int) : Prop := (∃ ts, PickI pl b s ts ∧ (v = ovI b s pl ts ∨ v = lkI b s pl ts)) ∧ ∀ ts, PickI pl b s ts → ovI b s pl ts ≤ v ∧ lkI b s pl ts ≤ v
def rowT (pl : List (List Int)) (ts : List Int) : D := .tup [.int (sizeI ts), intsD (kIn pl ts true), intsD (kIn pl ts false)]
theorem pick_snoc {pl : List (List Int)} {b i : Nat} {ts : List Int} {t : Int} (h : PickI pl b i ts) (ht : EdgeI pl b i t) : PickI pl b (i + 1) (ts ++ [t]) := by
  refine ⟨by rw [List.length_append, h.1]; rfl, fun j x hx => ?_⟩
  by_cases hj : j < ts.length
  · rw [List.getElem?_append_left hj] at hx
    exact h.2 j x hx
  · rw [List.getElem?_append_right (by omega)] at hx
    have h0 : j - ts.length = 0 := by
      have := len_at hx
      simp at this
      omega
    rw [h0] at hx
    cases hx
    have : j = i := by have := h.1; omega
    rw [this]
    exact ht
theorem pick_split {pl : List (List Int)} {b i : Nat} {ts : List Int} (h : PickI pl b (i + 1) ts) : ∃ us t, ts = us ++ [t] ∧ PickI pl b i us ∧ EdgeI pl b i t := by
  have ne : ts ≠ [] := fun e => by subst e; cases h.1
  have e := List.dropLast_concat_getLast ne
  have hl : ts.dropLast.length = i := by rw [List.length_dropLast, h.1]; rfl
  refine ⟨ts.dropLast, ts.getLast ne, e.symm, ⟨hl, fun j t hj => ?_⟩, ?_⟩
  · refine h.2 j t ?_
    rw [← e, List.getElem?_append_left (len_at hj)]
    exact hj
  · refine h.2 i _ ?_
    have q : (ts.dropLast ++ [ts.getLast ne])[i]? = some (ts.getLast ne) := by
      rw [List.getElem?_append_right (by omega), hl, Nat.sub_self]
      simp
    rwa [e] at q
theorem inI_snoc {xs ts : List Int} {t : Int} {shut : Bool} (h : ts.length < xs.length) : inI xs (ts ++ [t]) shut = (inI xs ts shut && lesI (xs.getD ts.length 0) t shut) := by
  unfold inI
  have e : xs = xs.take ts.length ++ xs.getD ts.length 0 :: xs.drop (ts.length + 1) := by
    have h2 : xs.getD ts.length 0 = xs[ts.length] := by rw [List.getD_eq_getElem?_getD, List.getElem?_eq_getElem h]; rfl
    rw [h2, ← List.drop_eq_getElem_cons h, List.take_append_drop]
  have hl : (xs.take ts.length).length = ts.length := by rw [List.length_take]; omega
  have z1 : xs.zip (ts ++ [t]) = (xs.take ts.length).zip ts ++ [(xs.getD ts.length 0, t)] := by
    conv => lhs; rw [e]
    rw [List.zip_append hl]
    simp
  have z2 : xs.zip ts = (xs.take ts.length).zip ts := by
    have z3 := List.zip_append (r₁ := xs.getD ts.length 0 :: xs.drop (ts.length + 1)) (r₂ := []) hl
    rw [← e, List.append_nil] at z3
    rw [z3]
    simp
  rw [z1, z2, List.all_append]
  simp
theorem kIn_snoc {pl : List (List Int)} {s : Nat} {ts : List Int} {t : Int} {shut : Bool} (hw : ∀ xs ∈ pl, xs.length = s) (h : ts.length < s) :
    kIn pl (ts ++ [t]) shut = (kIn pl ts shut).filter fun k => decide (k ∈ (rgI 0 pl.length).filter fun k => lesI ((pl.getD k.toNat []).getD ts.length 0) t shut) := by
  unfold kIn
  rw [List.filter_filter]
  refine List.filter_congr fun k hk => ?_
  have := mem_rgI.mp hk
  have hk2 : k.toNat < pl.length := by omega
  have hx : (pl.getD k.toNat []).length = s := by
    rw [List.getD_eq_getElem?_getD, List.getElem?_eq_getElem hk2]
    exact hw _ (List.getElem_mem hk2)
  rw [inI_snoc (by rw [hx]; exact h), Bool.and_comm]
  congr 1
  rw [Bool.eq_iff_iff, decide_eq_true_eq, List.mem_filter]
  exact ⟨fun q => ⟨hk, q⟩, fun q => q.2⟩
theorem edge_bd {b s : Nat} {pl : List (List Int)} {j : Nat} {t : Int} (h : OkP b s pl) (hj : j < s) (ht : EdgeI pl b j t) : 0 ≤ t ∧ t ≤ b := by
  rcases ht with rfl | ⟨xs, hxs, rfl⟩
  · exact ⟨by omega, Int.le_refl _⟩
  · have hl : j < xs.length := by rw [h.w xs hxs]; exact hj
    have e : xs.getD j 0 = xs[j] := by rw [List.getD_eq_getElem?_getD, List.getElem?_eq_getElem hl]; rfl
    rw [e]
    have := h.nums xs hxs xs[j] (List.getElem_mem hl)
    omega
theorem pick_bd {b s i : Nat} {pl : List (List Int)} {ts : List Int} (h : OkP b s pl) (hi : i ≤ s) (ht : PickI pl b i ts) : ∀ t ∈ ts, 0 ≤ t ∧ t ≤ (b : Int) := fun t hm => by
  obtain ⟨j, hj, e⟩ := List.mem_iff_getElem.mp hm
  refine edge_bd h (j := j) (by have := ht.1; omega) (ht.2 j t ?_)
  rw [List.getElem?_eq_getElem hj, e]
theorem for_mk {W : TrI} {g : TrG} {S : TrS} {E : PEnds} {ρ : Rho} {n : Nat} (ds : List D) (n1 : Nat) (Inv : Nat → Rho → Nat → Prop) (hW : ∀ P : List D → Nat → Prop, P ds n1 → W ρ n P) (h0 : Inv 0 ρ n1) (hd : ∀ ρ n, Inv ds.length ρ n → E.nx ρ n)
    (hs : ∀ i d ρ n, ds[i]? = some d → Inv i ρ n → ∀ NX : Rho → Nat → Prop, (∀ ρ n, Inv (i + 1) ρ n → NX ρ n) → ∀ BK : Rho → Nat → Prop, g d ρ fun ρ2 => S { E with nx := NX, ct := NX, bk := BK } ρ2 n) : SFor W g S E ρ n :=
  hW _ ⟨Inv, h0, fun i d ρ n e hi => hs i d ρ n e hi _ (fun _ _ h => h) _, hd⟩
abbrev k_l_grid : Nat := 3
def sp_l_grid : PSp := fun ds n P => ds = [.tape] ∧ n + 100 < 2 ^ 40 ∧ ∀ b rows n', OkR b rows → n' ≤ n + 60 → P (caseD b rows) n'
abbrev k_l_worst : Nat := 2
def sp_l_worst : PSp := fun ds n P => ∃ (b s : Nat) (pl : List (List Int)), ds = [.lst (pl.map tupI), .int b, .str "corner"] ∧ OkP b s pl ∧ ∀ v, WorstI b s pl v → P (.int v) n
theorem len_l_grid : ∀ ds n P, sp_l_grid ds n P → ds.length = (["_law_tape_here"] : List Str).length := by rintro _ n P ⟨rfl, _⟩; rfl
theorem len_l_worst : ∀ ds n P, sp_l_worst ds n P → ds.length = (["_law_spots", "_law_base", "_law_family"] : List Str).length := by rintro _ n P ⟨_, _, _, rfl, _⟩; rfl
section
variable {Pr : Program} {w : World} {K : PySem.W.Frag} {mg : Str → Option Value} {base : Heap}
abbrev s_l_grid : Stmt := top 66
theorem sc_l_grid : FnScope ["_law_tape_here", "_law_base", "_law_most", "_law_rows", "_law_many", "_law_row", "_law_k"] ["_law_tape_here"] (defScope s_l_grid) := ⟨rfl, rfl, rfl, by decide +kernel, rfl, by decide +kernel, by decide +kernel⟩
theorem ok_l_grid (F0 : Df K mg "_law_grid" s_l_grid) (B : Bt mg) (C : Cs K w mg) (h_l_draw : Has Pr w K mg base "_law_draw" ["_law_tape_here", "_law_many"] k_l_draw sp_l_draw) : Has Pr w K mg base "_law_grid" ["_law_tape_here"] k_l_grid sp_l_grid := by
  have sc := sc_l_grid
  refine has_mk (k := _) F0 sc (fun _ _ _ _ _ _ us hl => match us, hl with | [_], _ => rfl) len_l_grid (fun f cdv A outer s H E hr => ⟨_,
    (bCons (sSet 1 sc.nd (vIx (vLst (aCons vI (aCons vI (aCons vI (aCons vI (aCons vI (aCons vI aNil))))))) (vCall h_l_draw hr (aCons (vN 0) (aCons vI aNil)))))
    (bCons (sSet 2 sc.nd (vIx (vLst (aCons (vLst (aCons vI aNil)) (aCons (vLst (aCons vI (aCons vI aNil))) (aCons (vLst (aCons vI (aCons vI aNil))) (aCons (vLst (aCons vI (aCons vI aNil))) aNil))))) (vCall h_l_draw hr (aCons (vN 0) (aCons vI aNil)))))
    (bCons (sMuL 3 sc.nd aNil)
    (bCons (sFor .never (iL (vN 2)) (gN 4 sc.nd)
      (bCons (sMuLc 5 (own := [("_law_k", 6)]) sc.nd (iRg1 B.range (aCons (vAdd vI (vCall h_l_draw hr (aCons (vN 0) (aCons (vN 4) aNil)))) aNil)) (fun _ _ _ _ _ => (gN 6 sc.nd)) (fun _ _ _ _ _ => tN) (fun _ _ _ _ _ => (vCall h_l_draw hr (aCons (vN 0) (aCons (vN 1) aNil)))))
      (bCons (sIf (bEq hr (vCall h_l_draw hr (aCons (vN 0) (aCons vI aNil))) vI)
        (bOne (sPut 5 vI))
        bNil)
      (bOne (sFz 5 (sApp 3 (vSortSet B.sorted B.set (vN 5))))))))
    (bOne (sFz 3 (sRet (vTup (aCons (vN 1) (aCons (vN 3) aNil)))))))))), ?_⟩)
  rintro _ n P ⟨rfl, hn, h⟩
  simp only [SSeq, SNil, SIf, SRet, SSet, SAsg, SPar, SMuL, SApp, SExt, SPut, SFz, frzR, SNo, TVar, TC, TOp, TB, TNil, TCons, TTup, TLst, TKey, oIx, seqOf, TAnd, TOr, TNot, TAndV, TOrV, TNotV, TIf, TCB, cLen, cAbs, cMax2, cMin2, cAll, cList, cTuple, cInt, TIsi, isD, tyD, TCall, TChain, TLc, TLc0, SFor, ISeq, IRg1, IRg2, IZip, TSl, TPs, TPn, slD, cut1, opII, opI0, TNeg, oAdd, oIsN, oNotN, oIsB, opEq, eqD, getS, startR, GName, GNil, GCons, GTup, List.map_cons, List.map_nil, List.length_cons, List.length_nil, List.cons_append, List.nil_append, List.set_cons_zero, List.set_cons_succ, List.replicate, List.append_nil, Option.map_some, Bool.not_true, Bool.not_false, Bool.false_eq_true, if_true, if_false, ite_true, ite_false, reduceIte, Nat.sub_self, Nat.reduceAdd, Nat.reduceSub, Bool.or_true, Bool.or_false, Bool.true_or, Bool.false_or, Bool.and_true, Bool.and_false, decide_true, decide_false, List.getElem?_cons_zero, List.getElem?_cons_succ, Option.some.injEq, exists_eq_left', exists_eq_left, true_and, and_true, at0, at1, at2, at3, List.length_map, List.cons.injEq, Int.cast_ofNat_Int, Int.reduceEq, Int.reduceLT, Int.reduceLE, D.int.injEq, D.str.injEq, D.bl.injEq, D.tup.injEq, D.lst.injEq, exists_const, Int.zero_add, Nat.zero_add, Int.natCast_add, Int.natCast_one, Int.reduceAdd, sp_l_draw]
  refine ⟨sz8 (by omega), by omega, fun r hr0 hr1 => ?_⟩
  obtain ⟨b, hb, b9, b997⟩ := base_at hr0 hr1
  refine ⟨_, hb, sz8 (by omega), sz8 (by omega), sz8 (by omega), sz8 (by omega), sz8 (by omega), by omega, fun r2 hs0 hs1 => ?_⟩
  obtain ⟨ms, hms, hmo⟩ := most_at hs0 hs1
  obtain ⟨ml, mb⟩ := most_bd hmo
  refine ⟨_, hms, Nat.zero_le _, ?_⟩
  simp only [SSeq, SNil, SIf, SRet, SSet, SAsg, SPar, SMuL, SApp, SExt, SPut, SFz, frzR, SNo, TVar, TC, TOp, TB, TNil, TCons, TTup, TLst, TKey, oIx, seqOf, TAnd, TOr, TNot, TAndV, TOrV, TNotV, TIf, TCB, cLen, cAbs, cMax2, cMin2, cAll, cList, cTuple, cInt, TIsi, isD, tyD, TCall, TChain, TLc, TLc0, SFor, ISeq, IRg1, IRg2, IZip, TSl, TPs, TPn, slD, cut1, opII, opI0, TNeg, oAdd, oIsN, oNotN, oIsB, opEq, eqD, getS, startR, GName, GNil, GCons, GTup, List.map_cons, List.map_nil, List.length_cons, List.length_nil, List.cons_append, List.nil_append, List.set_cons_zero, List.set_cons_succ, List.replicate, List.append_nil, Option.map_some, Bool.not_true, Bool.not_false, Bool.false_eq_true, if_true, if_false, ite_true, ite_false, reduceIte, Nat.sub_self, Nat.reduceAdd, Nat.reduceSub, Bool.or_true, Bool.or_false, Bool.true_or, Bool.false_or, Bool.and_true, Bool.and_false, decide_true, decide_false, List.getElem?_cons_zero, List.getElem?_cons_succ, Option.some.injEq, exists_eq_left', exists_eq_left, true_and, and_true, at0, at1, at2, at3, List.length_map, List.cons.injEq, Int.cast_ofNat_Int, Int.reduceEq, Int.reduceLT, Int.reduceLE, D.int.injEq, D.str.injEq, D.bl.injEq, D.tup.injEq, D.lst.injEq, exists_const, Int.zero_add, Nat.zero_add, Int.natCast_add, Int.natCast_one, Int.reduceAdd, intsD]
  refine ⟨fun i ρ n' => n' ≤ n + 2 + 20 * i ∧ ∃ (rows : List (List Int)) (a b' c : Sl), Fits b (ms.take i) rows ∧ Is ρ [.val .tape, .val (.int b), .val (intsD ms), .mu (.lst (rows.map intsD)), a, b', c], ⟨by omega, [], _, _, _, trivial, rfl⟩, ?_, ?_⟩
  · rintro i d ρ n' hd ⟨hn', rows, a, b', c, hF, rfl⟩
    rw [List.getElem?_map] at hd
    obtain ⟨m, hmi, rfl⟩ := Option.map_eq_some_iff.mp hd
    have hi := len_at hmi
    obtain ⟨m2, m8⟩ := mb m (List.mem_of_getElem? hmi)
    simp only [SSeq, SNil, SIf, SRet, SSet, SAsg, SPar, SMuL, SApp, SExt, SPut, SFz, frzR, SNo, TVar, TC, TOp, TB, TNil, TCons, TTup, TLst, TKey, oIx, seqOf, TAnd, TOr, TNot, TAndV, TOrV, TNotV, TIf, TCB, cLen, cAbs, cMax2, cMin2, cAll, cList, cTuple, cInt, TIsi, isD, tyD, TCall, TChain, TLc, TLc0, SFor, ISeq, IRg1, IRg2, IZip, TSl, TPs, TPn, slD, cut1, opII, opI0, TNeg, oAdd, oIsN, oNotN, oIsB, opEq, eqD, getS, startR, GName, GNil, GCons, GTup, List.map_cons, List.map_nil, List.length_cons, List.length_nil, List.cons_append, List.nil_append, List.set_cons_zero, List.set_cons_succ, List.replicate, List.append_nil, Option.map_some, Bool.not_true, Bool.not_false, Bool.false_eq_true, if_true, if_false, ite_true, ite_false, reduceIte, Nat.sub_self, Nat.reduceAdd, Nat.reduceSub, Bool.or_true, Bool.or_false, Bool.true_or, Bool.false_or, Bool.and_true, Bool.and_false, decide_true, decide_false, List.getElem?_cons_zero, List.getElem?_cons_succ, Option.some.injEq, exists_eq_left', exists_eq_left, true_and, and_true, at0, at1, at2, at3, List.length_map, List.cons.injEq, Int.cast_ofNat_Int, Int.reduceEq, Int.reduceLT, Int.reduceLE, D.int.injEq, D.str.injEq, D.bl.injEq, D.tup.injEq, D.lst.injEq, exists_const, Int.zero_add, Nat.zero_add, Int.natCast_add, Int.natCast_one, Int.reduceAdd, SMuLc, sp_l_draw]
    refine ⟨by omega, by omega, by omega, fun q hq0 hq1 => ⟨by unfold Small62; omega, ?_⟩⟩
    refine ⟨fun j acc n2 => n2 = n' + 1 + j ∧ ∃ xs : List Int, acc = xs.map D.int ∧ xs.length = j ∧ ∀ x ∈ xs, 0 ≤ x ∧ x < (b : Int), ⟨rfl, [], rfl, rfl, fun x hx => nomatch hx⟩, ?_, ?_⟩
    · rintro j d acc n2 hd ⟨rfl, xs, rfl, hxl, hxs⟩
      obtain ⟨rfl, hj⟩ := rgI_get hd
      simp only [SSeq, SNil, SIf, SRet, SSet, SAsg, SPar, SMuL, SApp, SExt, SPut, SFz, frzR, SNo, TVar, TC, TOp, TB, TNil, TCons, TTup, TLst, TKey, oIx, seqOf, TAnd, TOr, TNot, TAndV, TOrV, TNotV, TIf, TCB, cLen, cAbs, cMax2, cMin2, cAll, cList, cTuple, cInt, TIsi, isD, tyD, TCall, TChain, TLc, TLc0, SFor, ISeq, IRg1, IRg2, IZip, TSl, TPs, TPn, slD, cut1, opII, opI0, TNeg, oAdd, oIsN, oNotN, oIsB, opEq, eqD, getS, startR, GName, GNil, GCons, GTup, List.map_cons, List.map_nil, List.length_cons, List.length_nil, List.cons_append, List.nil_append, List.set_cons_zero, List.set_cons_succ, List.replicate, List.append_nil, Option.map_some, Bool.not_true, Bool.not_false, Bool.false_eq_true, if_true, if_false, ite_true, ite_false, reduceIte, Nat.sub_self, Nat.reduceAdd, Nat.reduceSub, Bool.or_true, Bool.or_false, Bool.true_or, Bool.false_or, Bool.and_true, Bool.and_false, decide_true, decide_false, List.getElem?_cons_zero, List.getElem?_cons_succ, Option.some.injEq, exists_eq_left', exists_eq_left, true_and, and_true, at0, at1, at2, at3, List.length_map, List.cons.injEq, Int.cast_ofNat_Int, Int.reduceEq, Int.reduceLT, Int.reduceLE, D.int.injEq, D.str.injEq, D.bl.injEq, D.tup.injEq, D.lst.injEq, exists_const, Int.zero_add, Nat.zero_add, Int.natCast_add, Int.natCast_one, Int.reduceAdd, wipeR, sp_l_draw]
      refine ⟨by omega, by omega, by omega, fun x hx0 hx1 => ⟨by exact sz1001 (by omega), by omega, xs ++ [x], by simp, by rw [List.length_append, hxl]; rfl, fun y hy => ?_⟩⟩
      rcases List.mem_append.mp hy with hy | hy
      · exact hxs y hy
      · rw [List.mem_singleton.mp hy]; exact ⟨hx0, hx1⟩
    · rintro acc n2 ⟨rfl, xs, rfl, hxl, hxs⟩
      have hxl2 : (xs.length : Int) = 1 + q := by
        rw [hxl, List.length_map, rgI_length]
        omega
      have hfin : ∀ (ys ns : List Int) (n3 : Nat) (A B C : Sl), ys.length = xs.length → (∀ y ∈ ys, 0 ≤ y ∧ y < (b : Int)) → ns.Pairwise (· < ·) → (∀ k, k ∈ ns ↔ k ∈ ys) → n3 ≤ n + 2 + 20 * (i + 1) →
          rows.length < sizeLine ∧ n3 ≤ n + 2 + 20 * (i + 1) ∧ ∃ (rows_1 : List (List Int)) (a b' c : Sl), Fits b (ms.take (i + 1)) rows_1 ∧
            Is [.val .tape, .val (.int b), .val (intsD ms), .mu (.lst (rows.map intsD ++ [.lst (ns.map D.int)])), A, B, C] [.val .tape, .val (.int b), .val (intsD ms), .mu (.lst (rows_1.map intsD)), a, b', c] := fun ys ns n3 A B C hyl hys hns hmem hn3 => by
        refine ⟨by have := fits_len hF; rw [List.length_take] at this; exact sz1001 (by omega), hn3, rows ++ [ns], A, B, C, ?_, ?_⟩
        · rw [take_snoc hmi]
          exact fits_snoc hF (srt_row hns hmem (by omega) (by omega) hys)
        · rw [List.map_append]
          rfl
      simp only [SSeq, SNil, SIf, SRet, SSet, SAsg, SPar, SMuL, SApp, SExt, SPut, SFz, frzR, SNo, TVar, TC, TOp, TB, TNil, TCons, TTup, TLst, TKey, oIx, seqOf, TAnd, TOr, TNot, TAndV, TOrV, TNotV, TIf, TCB, cLen, cAbs, cMax2, cMin2, cAll, cList, cTuple, cInt, TIsi, isD, tyD, TCall, TChain, TLc, TLc0, SFor, ISeq, IRg1, IRg2, IZip, TSl, TPs, TPn, slD, cut1, opII, opI0, TNeg, oAdd, oIsN, oNotN, oIsB, opEq, eqD, getS, startR, GName, GNil, GCons, GTup, List.map_cons, List.map_nil, List.length_cons, List.length_nil, List.cons_append, List.nil_append, List.set_cons_zero, List.set_cons_succ, List.replicate, List.append_nil, Option.map_some, Bool.not_true, Bool.not_false, Bool.false_eq_true, if_true, if_false, ite_true, ite_false, reduceIte, Nat.sub_self, Nat.reduceAdd, Nat.reduceSub, Bool.or_true, Bool.or_false, Bool.true_or, Bool.false_or, Bool.and_true, Bool.and_false, decide_true, decide_false, List.getElem?_cons_zero, List.getElem?_cons_succ, Option.some.injEq, exists_eq_left', exists_eq_left, true_and, and_true, at0, at1, at2, at3, List.length_map, List.cons.injEq, Int.cast_ofNat_Int, Int.reduceEq, Int.reduceLT, Int.reduceLE, D.int.injEq, D.str.injEq, D.bl.injEq, D.tup.injEq, D.lst.injEq, exists_const, Int.zero_add, Nat.zero_add, Int.natCast_add, Int.natCast_one, Int.reduceAdd, sp_l_draw]
      have hrl : (rgI 0 (1 + q)).length = xs.length := by rw [rgI_length]; omega
      rw [hrl]
      refine ⟨by omega, fun r3 ht0 ht1 => ite2 (fun _ => ⟨by omega, ?_⟩) (fun _ => ?_)⟩
      · simp only [SSeq, SNil, SIf, SRet, SSet, SAsg, SPar, SMuL, SApp, SExt, SPut, SFz, frzR, SNo, TVar, TC, TOp, TB, TNil, TCons, TTup, TLst, TKey, oIx, seqOf, TAnd, TOr, TNot, TAndV, TOrV, TNotV, TIf, TCB, cLen, cAbs, cMax2, cMin2, cAll, cList, cTuple, cInt, TIsi, isD, tyD, TCall, TChain, TLc, TLc0, SFor, ISeq, IRg1, IRg2, IZip, TSl, TPs, TPn, slD, cut1, opII, opI0, TNeg, oAdd, oIsN, oNotN, oIsB, opEq, eqD, getS, startR, GName, GNil, GCons, GTup, List.map_cons, List.map_nil, List.length_cons, List.length_nil, List.cons_append, List.nil_append, List.set_cons_zero, List.set_cons_succ, List.replicate, List.append_nil, Option.map_some, Bool.not_true, Bool.not_false, Bool.false_eq_true, if_true, if_false, ite_true, ite_false, reduceIte, Nat.sub_self, Nat.reduceAdd, Nat.reduceSub, Bool.or_true, Bool.or_false, Bool.true_or, Bool.false_or, Bool.and_true, Bool.and_false, decide_true, decide_false, List.getElem?_cons_zero, List.getElem?_cons_succ, Option.some.injEq, exists_eq_left', exists_eq_left, true_and, and_true, at0, at1, at2, at3, List.length_map, List.cons.injEq, Int.cast_ofNat_Int, Int.reduceEq, Int.reduceLT, Int.reduceLE, D.int.injEq, D.str.injEq, D.bl.injEq, D.tup.injEq, D.lst.injEq, exists_const, Int.zero_add, Nat.zero_add, Int.natCast_add, Int.natCast_one, Int.reduceAdd, TSortSet, MO.d]
        refine ⟨xs.set 0 0, by rw [List.map_set], by rw [List.length_set]; omega, fun ns hns hmem => hfin (xs.set 0 0) ns _ _ _ _ (by rw [List.length_set]) (fun y hy => ?_) hns hmem (by omega)⟩
        rcases List.mem_or_eq_of_mem_set hy with hy | rfl
        · exact hxs y hy
        · omega
      · simp only [SSeq, SNil, SIf, SRet, SSet, SAsg, SPar, SMuL, SApp, SExt, SPut, SFz, frzR, SNo, TVar, TC, TOp, TB, TNil, TCons, TTup, TLst, TKey, oIx, seqOf, TAnd, TOr, TNot, TAndV, TOrV, TNotV, TIf, TCB, cLen, cAbs, cMax2, cMin2, cAll, cList, cTuple, cInt, TIsi, isD, tyD, TCall, TChain, TLc, TLc0, SFor, ISeq, IRg1, IRg2, IZip, TSl, TPs, TPn, slD, cut1, opII, opI0, TNeg, oAdd, oIsN, oNotN, oIsB, opEq, eqD, getS, startR, GName, GNil, GCons, GTup, List.map_cons, List.map_nil, List.length_cons, List.length_nil, List.cons_append, List.nil_append, List.set_cons_zero, List.set_cons_succ, List.replicate, List.append_nil, Option.map_some, Bool.not_true, Bool.not_false, Bool.false_eq_true, if_true, if_false, ite_true, ite_false, reduceIte, Nat.sub_self, Nat.reduceAdd, Nat.reduceSub, Bool.or_true, Bool.or_false, Bool.true_or, Bool.false_or, Bool.and_true, Bool.and_false, decide_true, decide_false, List.getElem?_cons_zero, List.getElem?_cons_succ, Option.some.injEq, exists_eq_left', exists_eq_left, true_and, and_true, at0, at1, at2, at3, List.length_map, List.cons.injEq, Int.cast_ofNat_Int, Int.reduceEq, Int.reduceLT, Int.reduceLE, D.int.injEq, D.str.injEq, D.bl.injEq, D.tup.injEq, D.lst.injEq, exists_const, Int.zero_add, Nat.zero_add, Int.natCast_add, Int.natCast_one, Int.reduceAdd, TSortSet, MO.d]
        exact ⟨xs, rfl, by omega, fun ns hns hmem => hfin xs ns _ _ _ _ rfl hxs hns hmem (by omega)⟩
  · rintro ρ n' ⟨hn', rows, a, b', c, hF, rfl⟩
    rw [List.take_length] at hF
    simp only [SSeq, SNil, SIf, SRet, SSet, SAsg, SPar, SMuL, SApp, SExt, SPut, SFz, frzR, SNo, TVar, TC, TOp, TB, TNil, TCons, TTup, TLst, TKey, oIx, seqOf, TAnd, TOr, TNot, TAndV, TOrV, TNotV, TIf, TCB, cLen, cAbs, cMax2, cMin2, cAll, cList, cTuple, cInt, TIsi, isD, tyD, TCall, TChain, TLc, TLc0, SFor, ISeq, IRg1, IRg2, IZip, TSl, TPs, TPn, slD, cut1, opII, opI0, TNeg, oAdd, oIsN, oNotN, oIsB, opEq, eqD, getS, startR, GName, GNil, GCons, GTup, List.map_cons, List.map_nil, List.length_cons, List.length_nil, List.cons_append, List.nil_append, List.set_cons_zero, List.set_cons_succ, List.replicate, List.append_nil, Option.map_some, Bool.not_true, Bool.not_false, Bool.false_eq_true, if_true, if_false, ite_true, ite_false, reduceIte, Nat.sub_self, Nat.reduceAdd, Nat.reduceSub, Bool.or_true, Bool.or_false, Bool.true_or, Bool.false_or, Bool.and_true, Bool.and_false, decide_true, decide_false, List.getElem?_cons_zero, List.getElem?_cons_succ, Option.some.injEq, exists_eq_left', exists_eq_left, true_and, and_true, at0, at1, at2, at3, List.length_map, List.cons.injEq, Int.cast_ofNat_Int, Int.reduceEq, Int.reduceLT, Int.reduceLE, D.int.injEq, D.str.injEq, D.bl.injEq, D.tup.injEq, D.lst.injEq, exists_const, Int.zero_add, Nat.zero_add, Int.natCast_add, Int.natCast_one, Int.reduceAdd, MO.d]
    refine ⟨sz8 (by omega), h b rows n' (okR_of b9 b997 hmo hF) (by omega)⟩
abbrev s_l_worst : Stmt := top 72
theorem sc_l_worst : FnScope ["_law_spots", "_law_base", "_law_family", "_law_many", "_law_rows", "_law_whole_here", "_law_side", "_law_overs", "_law_numbers", "_law_longer", "_law_look", "_law_by", "_law_shut", "_law_bare", "_law_size", "_law_one", "_law_other", "_law_k", "_law_spot"] ["_law_spots", "_law_base", "_law_family"] (defScope s_l_worst) := ⟨rfl, rfl, rfl, by decide +kernel, rfl, by decide +kernel, by decide +kernel⟩
theorem ok_l_worst (F0 : Df K mg "_law_worst" s_l_worst) (B : Bt mg) (C : Cs K w mg) (h_l_side_looks : Has Pr w K mg base "_law_side_looks" ["_law_numbers", "_law_base", "_law_family"] k_l_side_looks sp_l_side_looks) (h_l_lies : Has Pr w K mg base "_law_lies" ["_law_look", "_law_x", "_law_is_shut"] k_l_lies sp_l_lies) (h_l_side_size : Has Pr w K mg base "_law_side_size" ["_law_look", "_law_base"] k_l_side_size sp_l_side_size) : Has Pr w K mg base "_law_worst" ["_law_spots", "_law_base", "_law_family"] k_l_worst sp_l_worst := by
  have sc := sc_l_worst
  refine has_mk (k := _) F0 sc (fun _ _ _ _ _ _ us hl => match us, hl with | [_, _, _], _ => rfl) len_l_worst (fun f cdv A outer s H E hr => ⟨_,
    (bCons (sSet 3 sc.nd (vLen B.len (aCons (vN 0) aNil)))
    (bCons (sSet 4 sc.nd (vLst (aCons (vTup (aCons vI (aCons (vListRg B.list B.range (vN 3)) (aCons (vListRg B.list B.range (vN 3)) aNil)))) aNil)))
    (bCons (sSet 5 sc.nd vI)
    (bCons (sFor .never (iRg1 B.range (aCons (vLen B.len (aCons (vIx (vN 0) vI) aNil)) aNil)) (gN 6 sc.nd)
      (bCons (sSet 5 sc.nd (vMul (vN 5) (vN 1)))
      (bCons (sSet 8 sc.nd (vSortSet B.sorted B.set (vLc (own := [("_law_spot", 18)]) sc.nd (iL (vN 0)) (fun _ _ _ _ _ => (gN 18 sc.nd)) (fun _ _ _ _ _ => tN) (fun _ _ _ _ _ => (vIx (vN 18) (vN 6))))))
      (bCons (sMuL 9 sc.nd aNil)
      (bCons (sFor .never (iL (vCall h_l_side_looks hr (aCons (vN 8) (aCons (vN 1) (aCons (vN 2) aNil))))) (gN 10 sc.nd)
        (bCons (sSet 11 sc.nd (vCall h_l_side_size hr (aCons (vN 10) (aCons (vN 1) aNil))))
        (bCons (sSet 12 sc.nd (vLc (own := [("_law_k", 17)]) sc.nd (iRg1 B.range (aCons (vN 3) aNil)) (fun _ _ _ _ _ => (gN 17 sc.nd)) (fun _ _ _ _ _ => t1 (bVal (vCall h_l_lies hr (aCons (vN 10) (aCons (vIx (vIx (vN 0) (vN 17)) (vN 6)) (aCons vB aNil)))))) (fun _ _ _ _ _ => (vN 17))))
        (bCons (sSet 13 sc.nd (vLc (own := [("_law_k", 17)]) sc.nd (iRg1 B.range (aCons (vN 3) aNil)) (fun _ _ _ _ _ => (gN 17 sc.nd)) (fun _ _ _ _ _ => t1 (bVal (vCall h_l_lies hr (aCons (vN 10) (aCons (vIx (vIx (vN 0) (vN 17)) (vN 6)) (aCons vB aNil)))))) (fun _ _ _ _ _ => (vN 17))))
        (bOne (sFor .never (iL (vN 4)) (gTup (m := 3) (gCons (gN 14 sc.nd) (gCons (gN 15 sc.nd) (gCons (gN 16 sc.nd) gNil))))
          (bOne (sApp 9 (vTup (aCons (vMul (vN 14) (vN 11)) (aCons (vLc (own := [("_law_k", 17)]) sc.nd (iL (vN 15)) (fun _ _ _ _ _ => (gN 17 sc.nd)) (fun _ _ _ _ _ => t1 (bIn (vN 17) (vN 12))) (fun _ _ _ _ _ => (vN 17))) (aCons (vLc (own := [("_law_k", 17)]) sc.nd (iL (vN 16)) (fun _ _ _ _ _ => (gN 17 sc.nd)) (fun _ _ _ _ _ => t1 (bIn (vN 17) (vN 13))) (fun _ _ _ _ _ => (vN 17))) aNil))))))))))))
      (bOne (sFz 9 (sSet 4 sc.nd (vN 9)))))))))
    (bCons (sLc 7 (own := [("_law_size", 14), ("_law_one", 15), ("_law_other", 16)]) sc.nd (iL (vN 4)) (fun _ _ _ _ _ => (gTup (m := 3) (gCons (gN 14 sc.nd) (gCons (gN 15 sc.nd) (gCons (gN 16 sc.nd) gNil))))) (fun _ _ _ _ _ => tN) (fun _ _ _ _ _ => (vSub (vMul (vLen B.len (aCons (vN 15) aNil)) (vN 5)) (vMul (vN 3) (vN 14)))))
    (bOne (sRet (vMaxL B.max (aCons (vAdd (vN 7) (vLc (own := [("_law_size", 14), ("_law_one", 15), ("_law_other", 16)]) sc.nd (iL (vN 4)) (fun _ _ _ _ _ => (gTup (m := 3) (gCons (gN 14 sc.nd) (gCons (gN 15 sc.nd) (gCons (gN 16 sc.nd) gNil))))) (fun _ _ _ _ _ => tN) (fun _ _ _ _ _ => (vSub (vMul (vN 3) (vN 14)) (vMul (vLen B.len (aCons (vN 16) aNil)) (vN 5)))))) aNil))))))))), ?_⟩)
  rintro _ n P ⟨b, s, pl, rfl, hp, h⟩
  simp only [SSeq, SNil, SIf, SRet, SSet, SAsg, SPar, SMuL, SApp, SExt, SPut, SFz, frzR, SNo, TVar, TC, TOp, TB, TNil, TCons, TTup, TLst, TKey, oIx, seqOf, TAnd, TOr, TNot, TAndV, TOrV, TNotV, TIf, TCB, cLen, cAbs, cMax2, cMin2, cAll, cList, cTuple, cInt, TIsi, isD, tyD, TCall, TChain, TLc, TLc0, ISeq, IRg1, IRg2, IZip, TSl, TPs, TPn, slD, cut1, opII, opI0, TNeg, oAdd, oIsN, oNotN, oIsB, opEq, eqD, getS, startR, GName, GNil, GCons, GTup, List.map_cons, List.map_nil, List.length_cons, List.length_nil, List.cons_append, List.nil_append, List.set_cons_zero, List.set_cons_succ, List.replicate, List.append_nil, Option.map_some, Bool.not_true, Bool.not_false, Bool.false_eq_true, if_true, if_false, ite_true, ite_false, reduceIte, Nat.sub_self, Nat.reduceAdd, Nat.reduceSub, Bool.or_true, Bool.or_false, Bool.true_or, Bool.false_or, Bool.and_true, Bool.and_false, decide_true, decide_false, List.getElem?_cons_zero, List.getElem?_cons_succ, Option.some.injEq, exists_eq_left', exists_eq_left, true_and, and_true, at0, at1, at2, at3, List.length_map, List.cons.injEq, Int.cast_ofNat_Int, Int.reduceEq, Int.reduceLT, Int.reduceLE, D.int.injEq, D.str.injEq, D.bl.injEq, D.tup.injEq, D.lst.injEq, exists_const, Int.zero_add, Nat.zero_add, Int.natCast_add, Int.natCast_one, Int.reduceAdd, TLstRg1]
  have hm3 := hp.m3
  have hm1 := hp.m1
  have hb9 := hp.b9
  have hb997 := hp.b997
  have hs2 := hp.s2
  have hx0 : ∃ x0, atI (pl.map tupI) 0 = some (tupI x0) ∧ x0.length = s := by
    match pl, hm1, hp.w with
    | x :: r, _, hw => exact ⟨x, at0, hw x List.mem_cons_self⟩
  obtain ⟨x0, hx1, hx2⟩ := hx0
  have rg : RgOk 0 pl.length := by unfold RgOk; omega
  have e00 : rowT pl [] = .tup [.int 1, .lst ((rgI 0 pl.length).map D.int), .lst ((rgI 0 pl.length).map D.int)] := by
    have : ∀ sh, kIn pl [] sh = rgI 0 pl.length := fun sh => by
      unfold kIn
      rw [List.filter_eq_self]
      intro k hk
      simp [inI]
    unfold rowT intsD
    rw [this, this]
    rfl
  have hpow : ∀ i, i ≤ s → (0 : Int) ≤ (b : Int) ^ i ∧ (b : Int) ^ i ≤ 1000000 := fun i hi => by
    refine ⟨Int.pow_nonneg (by omega), ?_⟩
    have h1 : b ^ i ≤ 997 ^ i := Nat.pow_le_pow_left hb997 i
    have h2 : 997 ^ i ≤ 997 ^ 2 := Nat.pow_le_pow_right (by omega) (by omega)
    have h3 : ((b ^ i : Nat) : Int) ≤ 1000000 := by omega
    rw [Int.natCast_pow] at h3
    exact h3
  refine ⟨rg, rg, sz8 (by omega), sz8 (by omega), ?_⟩
  refine for_mk ((rgI 0 s).map D.int) n (fun i ρ n' => Eqn n' n ∧ ∃ (tss : List (List Int)) (r : Rho), ρ = .val (.lst (pl.map tupI)) :: .val (.int b) :: .val (.str "corner") :: .val (.int pl.length) :: .val (.lst (tss.map (rowT pl))) :: .val (.int ((b : Int) ^ i)) :: r ∧ r.length = 13 ∧
    tss.length ≤ 9 ^ i ∧ ∀ ts, ts ∈ tss ↔ PickI pl b i ts) (fun P hP => ?_) ⟨rfl, [[]], [.un, .un, .un, .un, .un, .un, .un, .un, .un, .un, .un, .un, .un], ?_, rfl, by simp, fun ts => ?_⟩ ?_ ?_
  · refine ⟨_, hx1, x0.map D.int, rfl, ?_⟩
    rw [List.length_map, hx2]
    exact ⟨small62 (by omega), hP⟩
  · rw [← e00]; rfl
  · rw [List.mem_singleton]
    constructor
    · rintro rfl; exact ⟨rfl, fun j t h => by simp at h⟩
    · intro h; exact List.eq_nil_of_length_eq_zero h.1
  · rintro ρ n' ⟨rfl, tss, r, rfl, hr, htl, htm⟩
    match r, hr with
    | [r0, r1, r2, r3, r4, r5, r6, r7, r8, r9, r10, r11, r12], _ =>
    rw [List.length_map, rgI_len] at htl htm
    rw [List.length_map, rgI_len]
    simp only [SSeq, SNil, SIf, SRet, SSet, SAsg, SPar, SMuL, SApp, SExt, SPut, SFz, frzR, SNo, TVar, TC, TOp, TB, TNil, TCons, TTup, TLst, TKey, oIx, seqOf, TAnd, TOr, TNot, TAndV, TOrV, TNotV, TIf, TCB, cLen, cAbs, cMax2, cMin2, cAll, cList, cTuple, cInt, TIsi, isD, tyD, TCall, TChain, TLc, TLc0, ISeq, IRg1, IRg2, IZip, TSl, TPs, TPn, slD, cut1, opII, opI0, TNeg, oAdd, oIsN, oNotN, oIsB, opEq, eqD, getS, startR, GName, GNil, GCons, GTup, List.map_cons, List.map_nil, List.length_cons, List.length_nil, List.cons_append, List.nil_append, List.set_cons_zero, List.set_cons_succ, List.replicate, List.append_nil, Option.map_some, Bool.not_true, Bool.not_false, Bool.false_eq_true, if_true, if_false, ite_true, ite_false, reduceIte, Nat.sub_self, Nat.reduceAdd, Nat.reduceSub, Bool.or_true, Bool.or_false, Bool.true_or, Bool.false_or, Bool.and_true, Bool.and_false, decide_true, decide_false, List.getElem?_cons_zero, List.getElem?_cons_succ, Option.some.injEq, exists_eq_left', exists_eq_left, true_and, and_true, at0, at1, at2, at3, List.length_map, List.cons.injEq, Int.cast_ofNat_Int, Int.reduceEq, Int.reduceLT, Int.reduceLE, D.int.injEq, D.str.injEq, D.bl.injEq, D.tup.injEq, D.lst.injEq, exists_const, Int.zero_add, Nat.zero_add, Int.natCast_add, Int.natCast_one, Int.reduceAdd]
    have hL := Nat.le_trans htl (pow9 hs2)
    refine lc_mapF tss (rowT pl) (fun ts => .int (ovI b s pl ts)) (sz1000 (by omega)) (fun ts hts Q hQ => ?_) ?_
    · have := pick_bd hp (Nat.le_refl s) ((htm ts).mp hts)
      obtain ⟨z0, z1⟩ := sizeI_bd this hb997 (by rw [((htm ts).mp hts).1]; exact hs2)
      simp only [SSeq, SNil, SIf, SRet, SSet, SAsg, SPar, SMuL, SApp, SExt, SPut, SFz, frzR, SNo, TVar, TC, TOp, TB, TNil, TCons, TTup, TLst, TKey, oIx, seqOf, TAnd, TOr, TNot, TAndV, TOrV, TNotV, TIf, TCB, cLen, cAbs, cMax2, cMin2, cAll, cList, cTuple, cInt, TIsi, isD, tyD, TCall, TChain, TLc, TLc0, SFor, ISeq, IRg1, IRg2, IZip, TSl, TPs, TPn, slD, cut1, opII, opI0, TNeg, oAdd, oIsN, oNotN, oIsB, opEq, eqD, getS, startR, GName, GNil, GCons, GTup, List.map_cons, List.map_nil, List.length_cons, List.length_nil, List.cons_append, List.nil_append, List.set_cons_zero, List.set_cons_succ, List.replicate, List.append_nil, Option.map_some, Bool.not_true, Bool.not_false, Bool.false_eq_true, if_true, if_false, ite_true, ite_false, reduceIte, Nat.sub_self, Nat.reduceAdd, Nat.reduceSub, Bool.or_true, Bool.or_false, Bool.true_or, Bool.false_or, Bool.and_true, Bool.and_false, decide_true, decide_false, List.getElem?_cons_zero, List.getElem?_cons_succ, Option.some.injEq, exists_eq_left', exists_eq_left, true_and, and_true, at0, at1, at2, at3, List.length_map, List.cons.injEq, Int.cast_ofNat_Int, Int.reduceEq, Int.reduceLT, Int.reduceLE, D.int.injEq, D.str.injEq, D.bl.injEq, D.tup.injEq, D.lst.injEq, exists_const, Int.zero_add, Nat.zero_add, Int.natCast_add, Int.natCast_one, Int.reduceAdd, wipeR, rowT, intsD]
      exact ⟨.inr ⟨by have := hpow s (Nat.le_refl s); omega, by have := hpow s (Nat.le_refl s); omega⟩, .inr ⟨by omega, by omega⟩, hQ⟩
    · refine lc_mapF tss (rowT pl) (fun ts => .int (lkI b s pl ts)) (sz1000 (by omega)) (fun ts hts Q hQ => ?_) ?_
      · have := pick_bd hp (Nat.le_refl s) ((htm ts).mp hts)
        obtain ⟨z0, z1⟩ := sizeI_bd this hb997 (by rw [((htm ts).mp hts).1]; exact hs2)
        simp only [SSeq, SNil, SIf, SRet, SSet, SAsg, SPar, SMuL, SApp, SExt, SPut, SFz, frzR, SNo, TVar, TC, TOp, TB, TNil, TCons, TTup, TLst, TKey, oIx, seqOf, TAnd, TOr, TNot, TAndV, TOrV, TNotV, TIf, TCB, cLen, cAbs, cMax2, cMin2, cAll, cList, cTuple, cInt, TIsi, isD, tyD, TCall, TChain, TLc, TLc0, SFor, ISeq, IRg1, IRg2, IZip, TSl, TPs, TPn, slD, cut1, opII, opI0, TNeg, oAdd, oIsN, oNotN, oIsB, opEq, eqD, getS, startR, GName, GNil, GCons, GTup, List.map_cons, List.map_nil, List.length_cons, List.length_nil, List.cons_append, List.nil_append, List.set_cons_zero, List.set_cons_succ, List.replicate, List.append_nil, Option.map_some, Bool.not_true, Bool.not_false, Bool.false_eq_true, if_true, if_false, ite_true, ite_false, reduceIte, Nat.sub_self, Nat.reduceAdd, Nat.reduceSub, Bool.or_true, Bool.or_false, Bool.true_or, Bool.false_or, Bool.and_true, Bool.and_false, decide_true, decide_false, List.getElem?_cons_zero, List.getElem?_cons_succ, Option.some.injEq, exists_eq_left', exists_eq_left, true_and, and_true, at0, at1, at2, at3, List.length_map, List.cons.injEq, Int.cast_ofNat_Int, Int.reduceEq, Int.reduceLT, Int.reduceLE, D.int.injEq, D.str.injEq, D.bl.injEq, D.tup.injEq, D.lst.injEq, exists_const, Int.zero_add, Nat.zero_add, Int.natCast_add, Int.natCast_one, Int.reduceAdd, wipeR, rowT, intsD]
        exact ⟨.inr ⟨by omega, by omega⟩, .inr ⟨by have := hpow s (Nat.le_refl s); omega, by have := hpow s (Nat.le_refl s); omega⟩, hQ⟩
      · refine ⟨by rw [List.length_map, List.length_map]; exact sz1000 (by omega), tss.map (ovI b s pl) ++ tss.map (lkI b s pl), by rw [List.map_append, List.map_map, List.map_map]; rfl, ?_, fun v hv hmx => h v ⟨?_, fun ts hts => ⟨hmx _ ?_, hmx _ ?_⟩⟩⟩
        · intro e
          have : (List.replicate s (b : Int)) ∈ tss := (htm _).mpr ⟨by simp, fun j t hj => .inl (List.eq_of_mem_replicate (List.mem_of_getElem? hj))⟩
          have e2 := List.append_eq_nil_iff.mp e
          rw [List.map_eq_nil_iff] at e2
          rw [e2.1] at this
          cases this
        · rcases List.mem_append.mp hv with hv | hv
          · obtain ⟨ts, hts, rfl⟩ := List.mem_map.mp hv
            exact ⟨ts, (htm ts).mp hts, .inl rfl⟩
          · obtain ⟨ts, hts, rfl⟩ := List.mem_map.mp hv
            exact ⟨ts, (htm ts).mp hts, .inr rfl⟩
        · exact List.mem_append_left _ (List.mem_map.mpr ⟨ts, (htm ts).mpr hts, rfl⟩)
        · exact List.mem_append_right _ (List.mem_map.mpr ⟨ts, (htm ts).mpr hts, rfl⟩)
  · rintro i d ρ n' hd ⟨rfl, tss, r, rfl, hr, htl, htm⟩ NX hNX BK
    obtain ⟨rfl, hi⟩ := rgI_get hd
    have hi2 : i < s := by omega
    have hL := Nat.le_trans htl (pow9 (show i ≤ 2 by omega))
    match r, hr with
    | [r0, r1, r2, r3, r4, r5, r6, r7, r8, r9, r10, r11, r12], _ =>
    simp only [SSeq, SNil, SIf, SRet, SSet, SAsg, SPar, SMuL, SApp, SExt, SPut, SFz, frzR, SNo, TVar, TC, TOp, TB, TNil, TCons, TTup, TLst, TKey, oIx, seqOf, TAnd, TOr, TNot, TAndV, TOrV, TNotV, TIf, TCB, cLen, cAbs, cMax2, cMin2, cAll, cList, cTuple, cInt, TIsi, isD, tyD, TCall, TChain, TLc, TLc0, ISeq, IRg1, IRg2, IZip, TSl, TPs, TPn, slD, cut1, opII, opI0, TNeg, oAdd, oIsN, oNotN, oIsB, opEq, eqD, getS, startR, GName, GNil, GCons, GTup, List.map_cons, List.map_nil, List.length_cons, List.length_nil, List.cons_append, List.nil_append, List.set_cons_zero, List.set_cons_succ, List.replicate, List.append_nil, Option.map_some, Bool.not_true, Bool.not_false, Bool.false_eq_true, if_true, if_false, ite_true, ite_false, reduceIte, Nat.sub_self, Nat.reduceAdd, Nat.reduceSub, Bool.or_true, Bool.or_false, Bool.true_or, Bool.false_or, Bool.and_true, Bool.and_false, decide_true, decide_false, List.getElem?_cons_zero, List.getElem?_cons_succ, Option.some.injEq, exists_eq_left', exists_eq_left, true_and, and_true, at0, at1, at2, at3, List.length_map, List.cons.injEq, Int.cast_ofNat_Int, Int.reduceEq, Int.reduceLT, Int.reduceLE, D.int.injEq, D.str.injEq, D.bl.injEq, D.tup.injEq, D.lst.injEq, exists_const, Int.zero_add, Nat.zero_add, Int.natCast_add, Int.natCast_one, Int.reduceAdd, TSortSet]
    refine ⟨.inr ⟨by omega, by omega⟩, ?_⟩
    refine lc_mapF pl tupI (fun xs => .int (xs.getD i 0)) (sz8 (by omega)) (fun xs hxs Q hQ => ?_) ?_
    · simp only [SSeq, SNil, SIf, SRet, SSet, SAsg, SPar, SMuL, SApp, SExt, SPut, SFz, frzR, SNo, TVar, TC, TOp, TB, TNil, TCons, TTup, TLst, TKey, oIx, seqOf, TAnd, TOr, TNot, TAndV, TOrV, TNotV, TIf, TCB, cLen, cAbs, cMax2, cMin2, cAll, cList, cTuple, cInt, TIsi, isD, tyD, TCall, TChain, TLc, TLc0, SFor, ISeq, IRg1, IRg2, IZip, TSl, TPs, TPn, slD, cut1, opII, opI0, TNeg, oAdd, oIsN, oNotN, oIsB, opEq, eqD, getS, startR, GName, GNil, GCons, GTup, List.map_cons, List.map_nil, List.length_cons, List.length_nil, List.cons_append, List.nil_append, List.set_cons_zero, List.set_cons_succ, List.replicate, List.append_nil, Option.map_some, Bool.not_true, Bool.not_false, Bool.false_eq_true, if_true, if_false, ite_true, ite_false, reduceIte, Nat.sub_self, Nat.reduceAdd, Nat.reduceSub, Bool.or_true, Bool.or_false, Bool.true_or, Bool.false_or, Bool.and_true, Bool.and_false, decide_true, decide_false, List.getElem?_cons_zero, List.getElem?_cons_succ, Option.some.injEq, exists_eq_left', exists_eq_left, true_and, and_true, at0, at1, at2, at3, List.length_map, List.cons.injEq, Int.cast_ofNat_Int, Int.reduceEq, Int.reduceLT, Int.reduceLE, D.int.injEq, D.str.injEq, D.bl.injEq, D.tup.injEq, D.lst.injEq, exists_const, Int.zero_add, Nat.zero_add, Int.natCast_add, Int.natCast_one, Int.reduceAdd, wipeR, tupI]
      have hxl : i < xs.length := by rw [hp.w xs hxs]; exact hi2
      refine ⟨_, ?_, hQ⟩
      rw [atI_nat, List.getElem?_map, List.getElem?_eq_getElem hxl, List.getD_eq_getElem?_getD, List.getElem?_eq_getElem hxl]
      rfl
    refine ⟨pl.map fun xs => xs.getD i 0, by rw [List.map_map]; rfl, by rw [List.length_map]; omega, fun ns hns hmem => ⟨Nat.zero_le _, ?_⟩⟩
    have nd : ns.Nodup := hns.imp fun {a c} h e => by omega
    have hnl := nodup_len nd fun x hx => (hmem x).mp hx
    rw [List.length_map] at hnl
    have hedge : ∀ t, t ∈ ns ++ [(b : Int)] ↔ EdgeI pl b i t := fun t => by
      unfold EdgeI
      rw [List.mem_append, List.mem_singleton, hmem, List.mem_map]
      constructor
      · rintro (⟨xs, hxs, rfl⟩ | rfl)
        · exact .inr ⟨xs, hxs, rfl⟩
        · exact .inl rfl
      · rintro (rfl | ⟨xs, hxs, rfl⟩)
        · exact .inr rfl
        · exact .inl ⟨xs, hxs, rfl⟩
    refine for_mk ((ns ++ [(b : Int)]).map toD) n' (fun j ρ n2 => Eqn n2 n' ∧ ∃ (us : List (List Int)) (r : Rho), ρ = .val (.lst (pl.map tupI)) :: .val (.int b) :: .val (.str "corner") :: .val (.int pl.length) :: .val (.lst (tss.map (rowT pl))) :: .val (.int ((b : Int) ^ i * b)) :: .val (.int i) :: r1 :: .val (.lst (ns.map D.int)) :: .mu (.lst (us.map (rowT pl))) :: r ∧ r.length = 9 ∧
      us.length ≤ tss.length * j ∧ ∀ ts, ts ∈ us ↔ ∃ u t, u ∈ tss ∧ t ∈ (ns ++ [(b : Int)]).take j ∧ ts = u ++ [t]) (fun P hP => ?_) ⟨rfl, [], _, rfl, rfl, by simp, fun ts => by simp⟩ ?_ ?_
    · simp only [SSeq, SNil, SIf, SRet, SSet, SAsg, SPar, SMuL, SApp, SExt, SPut, SFz, frzR, SNo, TVar, TC, TOp, TB, TNil, TCons, TTup, TLst, TKey, oIx, seqOf, TAnd, TOr, TNot, TAndV, TOrV, TNotV, TIf, TCB, cLen, cAbs, cMax2, cMin2, cAll, cList, cTuple, cInt, TIsi, isD, tyD, TCall, TChain, TLc, TLc0, SFor, ISeq, IRg1, IRg2, IZip, TSl, TPs, TPn, slD, cut1, opII, opI0, TNeg, oAdd, oIsN, oNotN, oIsB, opEq, eqD, getS, startR, GName, GNil, GCons, GTup, List.map_cons, List.map_nil, List.length_cons, List.length_nil, List.cons_append, List.nil_append, List.set_cons_zero, List.set_cons_succ, List.replicate, List.append_nil, Option.map_some, Bool.not_true, Bool.not_false, Bool.false_eq_true, if_true, if_false, ite_true, ite_false, reduceIte, Nat.sub_self, Nat.reduceAdd, Nat.reduceSub, Bool.or_true, Bool.or_false, Bool.true_or, Bool.false_or, Bool.and_true, Bool.and_false, decide_true, decide_false, List.getElem?_cons_zero, List.getElem?_cons_succ, Option.some.injEq, exists_eq_left', exists_eq_left, true_and, and_true, at0, at1, at2, at3, List.length_map, List.cons.injEq, Int.cast_ofNat_Int, Int.reduceEq, Int.reduceLT, Int.reduceLE, D.int.injEq, D.str.injEq, D.bl.injEq, D.tup.injEq, D.lst.injEq, exists_const, Int.zero_add, Nat.zero_add, Int.natCast_add, Int.natCast_one, Int.reduceAdd, sp_l_side_looks]
      exact ⟨ns, b, ⟨rfl, rfl⟩, by omega, hP⟩
    · rintro ρ n2 ⟨rfl, us, r, rfl, hr, hul, hum⟩
      match r, hr with
      | [q0, q1, q2, q3, q4, q5, q6, q7, q8], _ =>
      rw [List.length_map, List.length_append, List.length_singleton] at hul hum
      rw [List.take_of_length_le (by rw [List.length_append, List.length_singleton]; omega)] at hum
      simp only [SSeq, SNil, SIf, SRet, SSet, SAsg, SPar, SMuL, SApp, SExt, SPut, SFz, frzR, SNo, TVar, TC, TOp, TB, TNil, TCons, TTup, TLst, TKey, oIx, seqOf, TAnd, TOr, TNot, TAndV, TOrV, TNotV, TIf, TCB, cLen, cAbs, cMax2, cMin2, cAll, cList, cTuple, cInt, TIsi, isD, tyD, TCall, TChain, TLc, TLc0, ISeq, IRg1, IRg2, IZip, TSl, TPs, TPn, slD, cut1, opII, opI0, TNeg, oAdd, oIsN, oNotN, oIsB, opEq, eqD, getS, startR, GName, GNil, GCons, GTup, List.map_cons, List.map_nil, List.length_cons, List.length_nil, List.cons_append, List.nil_append, List.set_cons_zero, List.set_cons_succ, List.replicate, List.append_nil, Option.map_some, Bool.not_true, Bool.not_false, Bool.false_eq_true, if_true, if_false, ite_true, ite_false, reduceIte, Nat.sub_self, Nat.reduceAdd, Nat.reduceSub, Bool.or_true, Bool.or_false, Bool.true_or, Bool.false_or, Bool.and_true, Bool.and_false, decide_true, decide_false, List.getElem?_cons_zero, List.getElem?_cons_succ, Option.some.injEq, exists_eq_left', exists_eq_left, true_and, and_true, at0, at1, at2, at3, List.length_map, List.cons.injEq, Int.cast_ofNat_Int, Int.reduceEq, Int.reduceLT, Int.reduceLE, D.int.injEq, D.str.injEq, D.bl.injEq, D.tup.injEq, D.lst.injEq, exists_const, Int.zero_add, Nat.zero_add, Int.natCast_add, Int.natCast_one, Int.reduceAdd, MO.d]
      refine hNX _ _ ⟨rfl, us, [.val (.int i), r1, .val (.lst (ns.map D.int)), .val (.lst (us.map (rowT pl))), q0, q1, q2, q3, q4, q5, q6, q7, q8], ?_, rfl, ?_, fun ts => ?_⟩
      · rw [Int.pow_succ]
      · rw [Nat.pow_succ]
        exact Nat.le_trans hul (Nat.mul_le_mul htl (by omega))
      · rw [hum]
        constructor
        · rintro ⟨u, t, hu, ht, rfl⟩
          exact pick_snoc ((htm u).mp hu) ((hedge t).mp ht)
        · intro hpk
          obtain ⟨u, t, rfl, hu, ht⟩ := pick_split hpk
          exact ⟨u, t, (htm u).mpr hu, (hedge t).mpr ht, rfl⟩
    · rintro j d ρ n2 hd ⟨rfl, us, r, rfl, hr, hul, hum⟩ NX2 hNX2 BK2
      match r, hr with
      | [q0, q1, q2, q3, q4, q5, q6, q7, q8], _ =>
      rw [List.getElem?_map] at hd
      obtain ⟨t, htj, rfl⟩ := Option.map_eq_some_iff.mp hd
      have hjl := len_at htj
      rw [List.length_append, List.length_singleton] at hjl
      have hte := (hedge t).mp (List.mem_of_getElem? htj)
      obtain ⟨t0, t1⟩ := edge_bd hp hi2 hte
      have hul2 : us.length ≤ 324 := Nat.le_trans hul (Nat.mul_le_mul hL (show j ≤ 4 by omega))
      have lies : ∀ (sh : Bool) (k : Int), k ∈ rgI 0 pl.length → ∃ xs, atI (pl.map tupI) k = some (tupI xs) ∧ ∃ d, atI (xs.map D.int) i = some d ∧ ∀ (n : Nat) (Q : D → Nat → Prop), Q (.bl (lesI ((pl.getD k.toNat []).getD i 0) t sh)) n → sp_l_lies [toD t, d, .bl sh] n Q := fun sh k hk => by
        have := mem_rgI.mp hk
        have hk2 : k.toNat < pl.length := by omega
        have ek : k = (k.toNat : Int) := by omega
        have hxl : i < (pl[k.toNat]).length := by rw [hp.w _ (List.getElem_mem hk2)]; exact hi2
        refine ⟨pl[k.toNat], ?_, .int (pl[k.toNat])[i], ?_, fun n Q hQ => ?_⟩
        · conv => lhs; rw [ek]
          rw [atI_nat, List.getElem?_map, List.getElem?_eq_getElem hk2]
          rfl
        · rw [atI_nat, List.getElem?_map, List.getElem?_eq_getElem hxl]
          rfl
        · refine ⟨t, _, sh, rfl, ?_⟩
          have e1 : pl.getD k.toNat [] = pl[k.toNat] := by rw [List.getD_eq_getElem?_getD, List.getElem?_eq_getElem hk2]; rfl
          have e2 : (pl[k.toNat]).getD i 0 = (pl[k.toNat])[i] := by rw [List.getD_eq_getElem?_getD, List.getElem?_eq_getElem hxl]; rfl
          rw [e1, e2] at hQ
          exact hQ
      simp only [SSeq, SNil, SIf, SRet, SSet, SAsg, SPar, SMuL, SApp, SExt, SPut, SFz, frzR, SNo, TVar, TC, TOp, TB, TNil, TCons, TTup, TLst, TKey, oIx, seqOf, TAnd, TOr, TNot, TAndV, TOrV, TNotV, TIf, TCB, cLen, cAbs, cMax2, cMin2, cAll, cList, cTuple, cInt, TIsi, isD, tyD, TCall, TChain, TLc, TLc0, ISeq, IRg1, IRg2, IZip, TSl, TPs, TPn, slD, cut1, opII, opI0, TNeg, oAdd, oIsN, oNotN, oIsB, opEq, eqD, getS, startR, GName, GNil, GCons, GTup, List.map_cons, List.map_nil, List.length_cons, List.length_nil, List.cons_append, List.nil_append, List.set_cons_zero, List.set_cons_succ, List.replicate, List.append_nil, Option.map_some, Bool.not_true, Bool.not_false, Bool.false_eq_true, if_true, if_false, ite_true, ite_false, reduceIte, Nat.sub_self, Nat.reduceAdd, Nat.reduceSub, Bool.or_true, Bool.or_false, Bool.true_or, Bool.false_or, Bool.and_true, Bool.and_false, decide_true, decide_false, List.getElem?_cons_zero, List.getElem?_cons_succ, Option.some.injEq, exists_eq_left', exists_eq_left, true_and, and_true, at0, at1, at2, at3, List.length_map, List.cons.injEq, Int.cast_ofNat_Int, Int.reduceEq, Int.reduceLT, Int.reduceLE, D.int.injEq, D.str.injEq, D.bl.injEq, D.tup.injEq, D.lst.injEq, exists_const, Int.zero_add, Nat.zero_add, Int.natCast_add, Int.natCast_one, Int.reduceAdd, sp_l_side_size]
      refine ⟨t, _, ⟨rfl, rfl⟩, t0, small62 (by omega), ?_⟩
      have rgz : (rgI 0 (pl.length : Int)).length ≤ sizeLine := by rw [rgI_len]; exact sz8 (by omega)
      refine lc_filtF (rgI 0 pl.length) D.int (fun k => lesI ((pl.getD k.toNat []).getD i 0) t true) D.int rgz (fun k hk Q Q0 h1 h2 => ?_) ?_
      · obtain ⟨xs, hx, d, hd, hl⟩ := lies true k hk
        simp only [SSeq, SNil, SIf, SRet, SSet, SAsg, SPar, SMuL, SApp, SExt, SPut, SFz, frzR, SNo, TVar, TC, TOp, TB, TNil, TCons, TTup, TLst, TKey, oIx, seqOf, TAnd, TOr, TNot, TAndV, TOrV, TNotV, TIf, TCB, cLen, cAbs, cMax2, cMin2, cAll, cList, cTuple, cInt, TIsi, isD, tyD, TCall, TChain, TLc, TLc0, SFor, ISeq, IRg1, IRg2, IZip, TSl, TPs, TPn, slD, cut1, opII, opI0, TNeg, oAdd, oIsN, oNotN, oIsB, opEq, eqD, getS, startR, GName, GNil, GCons, GTup, List.map_cons, List.map_nil, List.length_cons, List.length_nil, List.cons_append, List.nil_append, List.set_cons_zero, List.set_cons_succ, List.replicate, List.append_nil, Option.map_some, Bool.not_true, Bool.not_false, Bool.false_eq_true, if_true, if_false, ite_true, ite_false, reduceIte, Nat.sub_self, Nat.reduceAdd, Nat.reduceSub, Bool.or_true, Bool.or_false, Bool.true_or, Bool.false_or, Bool.and_true, Bool.and_false, decide_true, decide_false, List.getElem?_cons_zero, List.getElem?_cons_succ, Option.some.injEq, exists_eq_left', exists_eq_left, true_and, and_true, at0, at1, at2, at3, List.length_map, List.cons.injEq, Int.cast_ofNat_Int, Int.reduceEq, Int.reduceLT, Int.reduceLE, D.int.injEq, D.str.injEq, D.bl.injEq, D.tup.injEq, D.lst.injEq, exists_const, Int.zero_add, Nat.zero_add, Int.natCast_add, Int.natCast_one, Int.reduceAdd, wipeR]
        refine ⟨_, hx, ?_⟩
        simp only [SSeq, SNil, SIf, SRet, SSet, SAsg, SPar, SMuL, SApp, SExt, SPut, SFz, frzR, SNo, TVar, TC, TOp, TB, TNil, TCons, TTup, TLst, TKey, oIx, seqOf, TAnd, TOr, TNot, TAndV, TOrV, TNotV, TIf, TCB, cLen, cAbs, cMax2, cMin2, cAll, cList, cTuple, cInt, TIsi, isD, tyD, TCall, TChain, TLc, TLc0, SFor, ISeq, IRg1, IRg2, IZip, TSl, TPs, TPn, slD, cut1, opII, opI0, TNeg, oAdd, oIsN, oNotN, oIsB, opEq, eqD, getS, startR, GName, GNil, GCons, GTup, List.map_cons, List.map_nil, List.length_cons, List.length_nil, List.cons_append, List.nil_append, List.set_cons_zero, List.set_cons_succ, List.replicate, List.append_nil, Option.map_some, Bool.not_true, Bool.not_false, Bool.false_eq_true, if_true, if_false, ite_true, ite_false, reduceIte, Nat.sub_self, Nat.reduceAdd, Nat.reduceSub, Bool.or_true, Bool.or_false, Bool.true_or, Bool.false_or, Bool.and_true, Bool.and_false, decide_true, decide_false, List.getElem?_cons_zero, List.getElem?_cons_succ, Option.some.injEq, exists_eq_left', exists_eq_left, true_and, and_true, at0, at1, at2, at3, List.length_map, List.cons.injEq, Int.cast_ofNat_Int, Int.reduceEq, Int.reduceLT, Int.reduceLE, D.int.injEq, D.str.injEq, D.bl.injEq, D.tup.injEq, D.lst.injEq, exists_const, Int.zero_add, Nat.zero_add, Int.natCast_add, Int.natCast_one, Int.reduceAdd, tupI]
        refine ⟨d, hd, hl _ _ ?_⟩
        simp only [SSeq, SNil, SIf, SRet, SSet, SAsg, SPar, SMuL, SApp, SExt, SPut, SFz, frzR, SNo, TVar, TC, TOp, TB, TNil, TCons, TTup, TLst, TKey, oIx, seqOf, TAnd, TOr, TNot, TAndV, TOrV, TNotV, TIf, TCB, cLen, cAbs, cMax2, cMin2, cAll, cList, cTuple, cInt, TIsi, isD, tyD, TCall, TChain, TLc, TLc0, SFor, ISeq, IRg1, IRg2, IZip, TSl, TPs, TPn, slD, cut1, opII, opI0, TNeg, oAdd, oIsN, oNotN, oIsB, opEq, eqD, getS, startR, GName, GNil, GCons, GTup, List.map_cons, List.map_nil, List.length_cons, List.length_nil, List.cons_append, List.nil_append, List.set_cons_zero, List.set_cons_succ, List.replicate, List.append_nil, Option.map_some, Bool.not_true, Bool.not_false, Bool.false_eq_true, if_true, if_false, ite_true, ite_false, reduceIte, Nat.sub_self, Nat.reduceAdd, Nat.reduceSub, Bool.or_true, Bool.or_false, Bool.true_or, Bool.false_or, Bool.and_true, Bool.and_false, decide_true, decide_false, List.getElem?_cons_zero, List.getElem?_cons_succ, Option.some.injEq, exists_eq_left', exists_eq_left, true_and, and_true, at0, at1, at2, at3, List.length_map, List.cons.injEq, Int.cast_ofNat_Int, Int.reduceEq, Int.reduceLT, Int.reduceLE, D.int.injEq, D.str.injEq, D.bl.injEq, D.tup.injEq, D.lst.injEq, exists_const, Int.zero_add, Nat.zero_add, Int.natCast_add, Int.natCast_one, Int.reduceAdd]
        cases e : lesI ((pl.getD k.toNat []).getD i 0) t true
        · exact iteF (h2 e)
        · exact iteT (h1 e)
      refine ⟨small62 (by omega), ?_⟩
      refine lc_filtF (rgI 0 pl.length) D.int (fun k => lesI ((pl.getD k.toNat []).getD i 0) t false) D.int rgz (fun k hk Q Q0 h1 h2 => ?_) ?_
      · obtain ⟨xs, hx, d, hd, hl⟩ := lies false k hk
        simp only [SSeq, SNil, SIf, SRet, SSet, SAsg, SPar, SMuL, SApp, SExt, SPut, SFz, frzR, SNo, TVar, TC, TOp, TB, TNil, TCons, TTup, TLst, TKey, oIx, seqOf, TAnd, TOr, TNot, TAndV, TOrV, TNotV, TIf, TCB, cLen, cAbs, cMax2, cMin2, cAll, cList, cTuple, cInt, TIsi, isD, tyD, TCall, TChain, TLc, TLc0, SFor, ISeq, IRg1, IRg2, IZip, TSl, TPs, TPn, slD, cut1, opII, opI0, TNeg, oAdd, oIsN, oNotN, oIsB, opEq, eqD, getS, startR, GName, GNil, GCons, GTup, List.map_cons, List.map_nil, List.length_cons, List.length_nil, List.cons_append, List.nil_append, List.set_cons_zero, List.set_cons_succ, List.replicate, List.append_nil, Option.map_some, Bool.not_true, Bool.not_false, Bool.false_eq_true, if_true, if_false, ite_true, ite_false, reduceIte, Nat.sub_self, Nat.reduceAdd, Nat.reduceSub, Bool.or_true, Bool.or_false, Bool.true_or, Bool.false_or, Bool.and_true, Bool.and_false, decide_true, decide_false, List.getElem?_cons_zero, List.getElem?_cons_succ, Option.some.injEq, exists_eq_left', exists_eq_left, true_and, and_true, at0, at1, at2, at3, List.length_map, List.cons.injEq, Int.cast_ofNat_Int, Int.reduceEq, Int.reduceLT, Int.reduceLE, D.int.injEq, D.str.injEq, D.bl.injEq, D.tup.injEq, D.lst.injEq, exists_const, Int.zero_add, Nat.zero_add, Int.natCast_add, Int.natCast_one, Int.reduceAdd, wipeR]
        refine ⟨_, hx, ?_⟩
        simp only [SSeq, SNil, SIf, SRet, SSet, SAsg, SPar, SMuL, SApp, SExt, SPut, SFz, frzR, SNo, TVar, TC, TOp, TB, TNil, TCons, TTup, TLst, TKey, oIx, seqOf, TAnd, TOr, TNot, TAndV, TOrV, TNotV, TIf, TCB, cLen, cAbs, cMax2, cMin2, cAll, cList, cTuple, cInt, TIsi, isD, tyD, TCall, TChain, TLc, TLc0, SFor, ISeq, IRg1, IRg2, IZip, TSl, TPs, TPn, slD, cut1, opII, opI0, TNeg, oAdd, oIsN, oNotN, oIsB, opEq, eqD, getS, startR, GName, GNil, GCons, GTup, List.map_cons, List.map_nil, List.length_cons, List.length_nil, List.cons_append, List.nil_append, List.set_cons_zero, List.set_cons_succ, List.replicate, List.append_nil, Option.map_some, Bool.not_true, Bool.not_false, Bool.false_eq_true, if_true, if_false, ite_true, ite_false, reduceIte, Nat.sub_self, Nat.reduceAdd, Nat.reduceSub, Bool.or_true, Bool.or_false, Bool.true_or, Bool.false_or, Bool.and_true, Bool.and_false, decide_true, decide_false, List.getElem?_cons_zero, List.getElem?_cons_succ, Option.some.injEq, exists_eq_left', exists_eq_left, true_and, and_true, at0, at1, at2, at3, List.length_map, List.cons.injEq, Int.cast_ofNat_Int, Int.reduceEq, Int.reduceLT, Int.reduceLE, D.int.injEq, D.str.injEq, D.bl.injEq, D.tup.injEq, D.lst.injEq, exists_const, Int.zero_add, Nat.zero_add, Int.natCast_add, Int.natCast_one, Int.reduceAdd, tupI]
        refine ⟨d, hd, hl _ _ ?_⟩
        simp only [SSeq, SNil, SIf, SRet, SSet, SAsg, SPar, SMuL, SApp, SExt, SPut, SFz, frzR, SNo, TVar, TC, TOp, TB, TNil, TCons, TTup, TLst, TKey, oIx, seqOf, TAnd, TOr, TNot, TAndV, TOrV, TNotV, TIf, TCB, cLen, cAbs, cMax2, cMin2, cAll, cList, cTuple, cInt, TIsi, isD, tyD, TCall, TChain, TLc, TLc0, SFor, ISeq, IRg1, IRg2, IZip, TSl, TPs, TPn, slD, cut1, opII, opI0, TNeg, oAdd, oIsN, oNotN, oIsB, opEq, eqD, getS, startR, GName, GNil, GCons, GTup, List.map_cons, List.map_nil, List.length_cons, List.length_nil, List.cons_append, List.nil_append, List.set_cons_zero, List.set_cons_succ, List.replicate, List.append_nil, Option.map_some, Bool.not_true, Bool.not_false, Bool.false_eq_true, if_true, if_false, ite_true, ite_false, reduceIte, Nat.sub_self, Nat.reduceAdd, Nat.reduceSub, Bool.or_true, Bool.or_false, Bool.true_or, Bool.false_or, Bool.and_true, Bool.and_false, decide_true, decide_false, List.getElem?_cons_zero, List.getElem?_cons_succ, Option.some.injEq, exists_eq_left', exists_eq_left, true_and, and_true, at0, at1, at2, at3, List.length_map, List.cons.injEq, Int.cast_ofNat_Int, Int.reduceEq, Int.reduceLT, Int.reduceLE, D.int.injEq, D.str.injEq, D.bl.injEq, D.tup.injEq, D.lst.injEq, exists_const, Int.zero_add, Nat.zero_add, Int.natCast_add, Int.natCast_one, Int.reduceAdd]
        cases e : lesI ((pl.getD k.toNat []).getD i 0) t false
        · exact iteF (h2 e)
        · exact iteT (h1 e)
      try simp only [SSeq, SNil, SIf, SRet, SSet, SAsg, SPar, SMuL, SApp, SExt, SPut, SFz, frzR, SNo, TVar, TC, TOp, TB, TNil, TCons, TTup, TLst, TKey, oIx, seqOf, TAnd, TOr, TNot, TAndV, TOrV, TNotV, TIf, TCB, cLen, cAbs, cMax2, cMin2, cAll, cList, cTuple, cInt, TIsi, isD, tyD, TCall, TChain, TLc, TLc0, ISeq, IRg1, IRg2, IZip, TSl, TPs, TPn, slD, cut1, opII, opI0, TNeg, oAdd, oIsN, oNotN, oIsB, opEq, eqD, getS, startR, GName, GNil, GCons, GTup, List.map_cons, List.map_nil, List.length_cons, List.length_nil, List.cons_append, List.nil_append, List.set_cons_zero, List.set_cons_succ, List.replicate, List.append_nil, Option.map_some, Bool.not_true, Bool.not_false, Bool.false_eq_true, if_true, if_false, ite_true, ite_false, reduceIte, Nat.sub_self, Nat.reduceAdd, Nat.reduceSub, Bool.or_true, Bool.or_false, Bool.true_or, Bool.false_or, Bool.and_true, Bool.and_false, decide_true, decide_false, List.getElem?_cons_zero, List.getElem?_cons_succ, Option.some.injEq, exists_eq_left', exists_eq_left, true_and, and_true, at0, at1, at2, at3, List.length_map, List.cons.injEq, Int.cast_ofNat_Int, Int.reduceEq, Int.reduceLT, Int.reduceLE, D.int.injEq, D.str.injEq, D.bl.injEq, D.tup.injEq, D.lst.injEq, exists_const, Int.zero_add, Nat.zero_add, Int.natCast_add, Int.natCast_one, Int.reduceAdd]
      refine for_mk (tss.map (rowT pl)) n2 (fun l ρ n3 => Eqn n3 n2 ∧ ∃ (r : Rho), ρ = .val (.lst (pl.map tupI)) :: .val (.int b) :: .val (.str "corner") :: .val (.int pl.length) :: .val (.lst (tss.map (rowT pl))) :: .val (.int ((b : Int) ^ i * b)) :: .val (.int i) :: r1 :: .val (.lst (ns.map D.int)) ::
          .mu (.lst ((us ++ (tss.take l).map fun u => u ++ [t]).map (rowT pl))) :: .val (toD t) :: .val (.int t) :: .val (.lst (((rgI 0 pl.length).filter fun k => lesI ((pl.getD k.toNat []).getD i 0) t true).map D.int)) :: .val (.lst (((rgI 0 pl.length).filter fun k => lesI ((pl.getD k.toNat []).getD i 0) t false).map D.int)) :: r ∧ r.length = 5)
        (fun P hP => hP) ⟨rfl, [q4, q5, q6, q7, q8], by simp, rfl⟩ ?_ ?_
      · rintro ρ n3 ⟨rfl, r, rfl, hr⟩
        rw [List.length_map, List.take_length]
        refine hNX2 _ _ ⟨rfl, _, _, rfl, by simp [hr], ?_, fun ts => ?_⟩
        · rw [List.length_append, List.length_map, Nat.mul_add]
          omega
        · rw [List.mem_append, hum, take_snoc htj, List.mem_map]
          constructor
          · rintro (⟨u, x, hu, hx, rfl⟩ | ⟨u, hu, rfl⟩)
            · exact ⟨u, x, hu, List.mem_append_left _ hx, rfl⟩
            · exact ⟨u, t, hu, List.mem_append_right _ (List.mem_singleton.mpr rfl), rfl⟩
          · rintro ⟨u, x, hu, hx, rfl⟩
            rcases List.mem_append.mp hx with hx | hx
            · exact .inl ⟨u, x, hu, hx, rfl⟩
            · rw [List.mem_singleton.mp hx]; exact .inr ⟨u, hu, rfl⟩
      · rintro l d ρ n3 hd ⟨rfl, r, rfl, hr⟩ NX3 hNX3 BK3
        match r, hr with
        | [p0, p1, p2, p3, p4], _ =>
        rw [List.getElem?_map] at hd
        obtain ⟨u, hul, rfl⟩ := Option.map_eq_some_iff.mp hd
        have hu := (htm u).mp (List.mem_of_getElem? hul)
        have hub := pick_bd hp (by omega) hu
        obtain ⟨z0, z1⟩ := sizeI_bd hub hb997 (by rw [hu.1]; omega)
        have hkl : ∀ sh, (kIn pl u sh).length ≤ sizeLine := fun sh => by
          have := List.length_filter_le (fun k => inI (pl.getD k.toNat []) u sh) (rgI 0 (pl.length : Int))
          rw [rgI_len] at this
          exact sz8 (by unfold kIn; omega)
        have hlen3 : ((us ++ (tss.take l).map fun u => u ++ [t])).length < sizeLine := by
          rw [List.length_append, List.length_map, List.length_take]
          exact sz1001 (by omega)
        simp only [SSeq, SNil, SIf, SRet, SSet, SAsg, SPar, SMuL, SApp, SExt, SPut, SFz, frzR, SNo, TVar, TC, TOp, TB, TNil, TCons, TTup, TLst, TKey, oIx, seqOf, TAnd, TOr, TNot, TAndV, TOrV, TNotV, TIf, TCB, cLen, cAbs, cMax2, cMin2, cAll, cList, cTuple, cInt, TIsi, isD, tyD, TCall, TChain, TLc, TLc0, ISeq, IRg1, IRg2, IZip, TSl, TPs, TPn, slD, cut1, opII, opI0, TNeg, oAdd, oIsN, oNotN, oIsB, opEq, eqD, getS, startR, GName, GNil, GCons, GTup, List.map_cons, List.map_nil, List.length_cons, List.length_nil, List.cons_append, List.nil_append, List.set_cons_zero, List.set_cons_succ, List.replicate, List.append_nil, Option.map_some, Bool.not_true, Bool.not_false, Bool.false_eq_true, if_true, if_false, ite_true, ite_false, reduceIte, Nat.sub_self, Nat.reduceAdd, Nat.reduceSub, Bool.or_true, Bool.or_false, Bool.true_or, Bool.false_or, Bool.and_true, Bool.and_false, decide_true, decide_false, List.getElem?_cons_zero, List.getElem?_cons_succ, Option.some.injEq, exists_eq_left', exists_eq_left, true_and, and_true, at0, at1, at2, at3, List.length_map, List.cons.injEq, Int.cast_ofNat_Int, Int.reduceEq, Int.reduceLT, Int.reduceLE, D.int.injEq, D.str.injEq, D.bl.injEq, D.tup.injEq, D.lst.injEq, exists_const, Int.zero_add, Nat.zero_add, Int.natCast_add, Int.natCast_one, Int.reduceAdd, rowT, intsD]
        refine ⟨.inr ⟨by omega, by omega⟩, ?_⟩
        refine lc_filtF (kIn pl u true) D.int (fun k => decide (k ∈ (rgI 0 pl.length).filter fun k => lesI ((pl.getD k.toNat []).getD i 0) t true)) D.int (hkl true) (fun k hk Q Q0 h1 h2 => ?_) ?_
        · simp only [SSeq, SNil, SIf, SRet, SSet, SAsg, SPar, SMuL, SApp, SExt, SPut, SFz, frzR, SNo, TVar, TC, TOp, TB, TNil, TCons, TTup, TLst, TKey, oIx, seqOf, TAnd, TOr, TNot, TAndV, TOrV, TNotV, TIf, TCB, cLen, cAbs, cMax2, cMin2, cAll, cList, cTuple, cInt, TIsi, isD, tyD, TCall, TChain, TLc, TLc0, SFor, ISeq, IRg1, IRg2, IZip, TSl, TPs, TPn, slD, cut1, opII, opI0, TNeg, oAdd, oIsN, oNotN, oIsB, opEq, eqD, getS, startR, GName, GNil, GCons, GTup, List.map_cons, List.map_nil, List.length_cons, List.length_nil, List.cons_append, List.nil_append, List.set_cons_zero, List.set_cons_succ, List.replicate, List.append_nil, Option.map_some, Bool.not_true, Bool.not_false, Bool.false_eq_true, if_true, if_false, ite_true, ite_false, reduceIte, Nat.sub_self, Nat.reduceAdd, Nat.reduceSub, Bool.or_true, Bool.or_false, Bool.true_or, Bool.false_or, Bool.and_true, Bool.and_false, decide_true, decide_false, List.getElem?_cons_zero, List.getElem?_cons_succ, Option.some.injEq, exists_eq_left', exists_eq_left, true_and, and_true, at0, at1, at2, at3, List.length_map, List.cons.injEq, Int.cast_ofNat_Int, Int.reduceEq, Int.reduceLT, Int.reduceLE, D.int.injEq, D.str.injEq, D.bl.injEq, D.tup.injEq, D.lst.injEq, exists_const, Int.zero_add, Nat.zero_add, Int.natCast_add, Int.natCast_one, Int.reduceAdd, wipeR, opIn, inD]
          refine ⟨_, rfl, ?_⟩
          try simp only [SSeq, SNil, SIf, SRet, SSet, SAsg, SPar, SMuL, SApp, SExt, SPut, SFz, frzR, SNo, TVar, TC, TOp, TB, TNil, TCons, TTup, TLst, TKey, oIx, seqOf, TAnd, TOr, TNot, TAndV, TOrV, TNotV, TIf, TCB, cLen, cAbs, cMax2, cMin2, cAll, cList, cTuple, cInt, TIsi, isD, tyD, TCall, TChain, TLc, TLc0, SFor, ISeq, IRg1, IRg2, IZip, TSl, TPs, TPn, slD, cut1, opII, opI0, TNeg, oAdd, oIsN, oNotN, oIsB, opEq, eqD, getS, startR, GName, GNil, GCons, GTup, List.map_cons, List.map_nil, List.length_cons, List.length_nil, List.cons_append, List.nil_append, List.set_cons_zero, List.set_cons_succ, List.replicate, List.append_nil, Option.map_some, Bool.not_true, Bool.not_false, Bool.false_eq_true, if_true, if_false, ite_true, ite_false, reduceIte, Nat.sub_self, Nat.reduceAdd, Nat.reduceSub, Bool.or_true, Bool.or_false, Bool.true_or, Bool.false_or, Bool.and_true, Bool.and_false, decide_true, decide_false, List.getElem?_cons_zero, List.getElem?_cons_succ, Option.some.injEq, exists_eq_left', exists_eq_left, true_and, and_true, at0, at1, at2, at3, List.length_map, List.cons.injEq, Int.cast_ofNat_Int, Int.reduceEq, Int.reduceLT, Int.reduceLE, D.int.injEq, D.str.injEq, D.bl.injEq, D.tup.injEq, D.lst.injEq, exists_const, Int.zero_add, Nat.zero_add, Int.natCast_add, Int.natCast_one, Int.reduceAdd]
          cases e : decide (k ∈ (rgI 0 pl.length).filter fun k => lesI ((pl.getD k.toNat []).getD i 0) t true)
          · exact iteF (h2 e)
          · exact iteT (h1 e)
        try simp only [SSeq, SNil, SIf, SRet, SSet, SAsg, SPar, SMuL, SApp, SExt, SPut, SFz, frzR, SNo, TVar, TC, TOp, TB, TNil, TCons, TTup, TLst, TKey, oIx, seqOf, TAnd, TOr, TNot, TAndV, TOrV, TNotV, TIf, TCB, cLen, cAbs, cMax2, cMin2, cAll, cList, cTuple, cInt, TIsi, isD, tyD, TCall, TChain, TLc, TLc0, ISeq, IRg1, IRg2, IZip, TSl, TPs, TPn, slD, cut1, opII, opI0, TNeg, oAdd, oIsN, oNotN, oIsB, opEq, eqD, getS, startR, GName, GNil, GCons, GTup, List.map_cons, List.map_nil, List.length_cons, List.length_nil, List.cons_append, List.nil_append, List.set_cons_zero, List.set_cons_succ, List.replicate, List.append_nil, Option.map_some, Bool.not_true, Bool.not_false, Bool.false_eq_true, if_true, if_false, ite_true, ite_false, reduceIte, Nat.sub_self, Nat.reduceAdd, Nat.reduceSub, Bool.or_true, Bool.or_false, Bool.true_or, Bool.false_or, Bool.and_true, Bool.and_false, decide_true, decide_false, List.getElem?_cons_zero, List.getElem?_cons_succ, Option.some.injEq, exists_eq_left', exists_eq_left, true_and, and_true, at0, at1, at2, at3, List.length_map, List.cons.injEq, Int.cast_ofNat_Int, Int.reduceEq, Int.reduceLT, Int.reduceLE, D.int.injEq, D.str.injEq, D.bl.injEq, D.tup.injEq, D.lst.injEq, exists_const, Int.zero_add, Nat.zero_add, Int.natCast_add, Int.natCast_one, Int.reduceAdd]
        refine lc_filtF (kIn pl u false) D.int (fun k => decide (k ∈ (rgI 0 pl.length).filter fun k => lesI ((pl.getD k.toNat []).getD i 0) t false)) D.int (hkl false) (fun k hk Q Q0 h1 h2 => ?_) ?_
        · simp only [SSeq, SNil, SIf, SRet, SSet, SAsg, SPar, SMuL, SApp, SExt, SPut, SFz, frzR, SNo, TVar, TC, TOp, TB, TNil, TCons, TTup, TLst, TKey, oIx, seqOf, TAnd, TOr, TNot, TAndV, TOrV, TNotV, TIf, TCB, cLen, cAbs, cMax2, cMin2, cAll, cList, cTuple, cInt, TIsi, isD, tyD, TCall, TChain, TLc, TLc0, SFor, ISeq, IRg1, IRg2, IZip, TSl, TPs, TPn, slD, cut1, opII, opI0, TNeg, oAdd, oIsN, oNotN, oIsB, opEq, eqD, getS, startR, GName, GNil, GCons, GTup, List.map_cons, List.map_nil, List.length_cons, List.length_nil, List.cons_append, List.nil_append, List.set_cons_zero, List.set_cons_succ, List.replicate, List.append_nil, Option.map_some, Bool.not_true, Bool.not_false, Bool.false_eq_true, if_true, if_false, ite_true, ite_false, reduceIte, Nat.sub_self, Nat.reduceAdd, Nat.reduceSub, Bool.or_true, Bool.or_false, Bool.true_or, Bool.false_or, Bool.and_true, Bool.and_false, decide_true, decide_false, List.getElem?_cons_zero, List.getElem?_cons_succ, Option.some.injEq, exists_eq_left', exists_eq_left, true_and, and_true, at0, at1, at2, at3, List.length_map, List.cons.injEq, Int.cast_ofNat_Int, Int.reduceEq, Int.reduceLT, Int.reduceLE, D.int.injEq, D.str.injEq, D.bl.injEq, D.tup.injEq, D.lst.injEq, exists_const, Int.zero_add, Nat.zero_add, Int.natCast_add, Int.natCast_one, Int.reduceAdd, wipeR, opIn, inD]
          refine ⟨_, rfl, ?_⟩
          try simp only [SSeq, SNil, SIf, SRet, SSet, SAsg, SPar, SMuL, SApp, SExt, SPut, SFz, frzR, SNo, TVar, TC, TOp, TB, TNil, TCons, TTup, TLst, TKey, oIx, seqOf, TAnd, TOr, TNot, TAndV, TOrV, TNotV, TIf, TCB, cLen, cAbs, cMax2, cMin2, cAll, cList, cTuple, cInt, TIsi, isD, tyD, TCall, TChain, TLc, TLc0, SFor, ISeq, IRg1, IRg2, IZip, TSl, TPs, TPn, slD, cut1, opII, opI0, TNeg, oAdd, oIsN, oNotN, oIsB, opEq, eqD, getS, startR, GName, GNil, GCons, GTup, List.map_cons, List.map_nil, List.length_cons, List.length_nil, List.cons_append, List.nil_append, List.set_cons_zero, List.set_cons_succ, List.replicate, List.append_nil, Option.map_some, Bool.not_true, Bool.not_false, Bool.false_eq_true, if_true, if_false, ite_true, ite_false, reduceIte, Nat.sub_self, Nat.reduceAdd, Nat.reduceSub, Bool.or_true, Bool.or_false, Bool.true_or, Bool.false_or, Bool.and_true, Bool.and_false, decide_true, decide_false, List.getElem?_cons_zero, List.getElem?_cons_succ, Option.some.injEq, exists_eq_left', exists_eq_left, true_and, and_true, at0, at1, at2, at3, List.length_map, List.cons.injEq, Int.cast_ofNat_Int, Int.reduceEq, Int.reduceLT, Int.reduceLE, D.int.injEq, D.str.injEq, D.bl.injEq, D.tup.injEq, D.lst.injEq, exists_const, Int.zero_add, Nat.zero_add, Int.natCast_add, Int.natCast_one, Int.reduceAdd]
          cases e : decide (k ∈ (rgI 0 pl.length).filter fun k => lesI ((pl.getD k.toNat []).getD i 0) t false)
          · exact iteF (h2 e)
          · exact iteT (h1 e)
        try simp only [SSeq, SNil, SIf, SRet, SSet, SAsg, SPar, SMuL, SApp, SExt, SPut, SFz, frzR, SNo, TVar, TC, TOp, TB, TNil, TCons, TTup, TLst, TKey, oIx, seqOf, TAnd, TOr, TNot, TAndV, TOrV, TNotV, TIf, TCB, cLen, cAbs, cMax2, cMin2, cAll, cList, cTuple, cInt, TIsi, isD, tyD, TCall, TChain, TLc, TLc0, ISeq, IRg1, IRg2, IZip, TSl, TPs, TPn, slD, cut1, opII, opI0, TNeg, oAdd, oIsN, oNotN, oIsB, opEq, eqD, getS, startR, GName, GNil, GCons, GTup, List.map_cons, List.map_nil, List.length_cons, List.length_nil, List.cons_append, List.nil_append, List.set_cons_zero, List.set_cons_succ, List.replicate, List.append_nil, Option.map_some, Bool.not_true, Bool.not_false, Bool.false_eq_true, if_true, if_false, ite_true, ite_false, reduceIte, Nat.sub_self, Nat.reduceAdd, Nat.reduceSub, Bool.or_true, Bool.or_false, Bool.true_or, Bool.false_or, Bool.and_true, Bool.and_false, decide_true, decide_false, List.getElem?_cons_zero, List.getElem?_cons_succ, Option.some.injEq, exists_eq_left', exists_eq_left, true_and, and_true, at0, at1, at2, at3, List.length_map, List.cons.injEq, Int.cast_ofNat_Int, Int.reduceEq, Int.reduceLT, Int.reduceLE, D.int.injEq, D.str.injEq, D.bl.injEq, D.tup.injEq, D.lst.injEq, exists_const, Int.zero_add, Nat.zero_add, Int.natCast_add, Int.natCast_one, Int.reduceAdd]
        have er : rowT pl (u ++ [t]) = .tup [.int (sizeI u * t), .lst (((kIn pl u true).filter fun k => decide (k ∈ (rgI 0 pl.length).filter fun k => lesI ((pl.getD k.toNat []).getD i 0) t true)).map D.int),
            .lst (((kIn pl u false).filter fun k => decide (k ∈ (rgI 0 pl.length).filter fun k => lesI ((pl.getD k.toNat []).getD i 0) t false)).map D.int)] := by
          unfold rowT intsD
          rw [kIn_snoc hp.w (by rw [hu.1]; exact hi2), kIn_snoc hp.w (by rw [hu.1]; exact hi2), hu.1]
          have : sizeI (u ++ [t]) = sizeI u * t := by unfold sizeI; rw [List.foldl_append]; rfl
          rw [this]
        refine ⟨sz8 (by omega), hlen3, ?_⟩
        rw [← er]
        refine hNX3 _ _ ⟨rfl, [.val (.int (sizeI u)), .val (intsD (kIn pl u true)), .val (intsD (kIn pl u false)), p3, p4], ?_, rfl⟩
        rw [take_snoc hul]
        simp only [List.map_append, List.map_cons, List.map_nil, List.append_assoc, intsD]
end
end Pu

/-! M2: fractions over one base and whole numbers. -/
namespace Pu
open PySem PySem.Spec PyProof.Rows L2
def fb (b : Nat) (x : Int) : Rat := mkRat x b
theorem gsOf_eq (b : Nat) (rows : List (List Int)) : gsOf b rows = rows.map (List.map (fb b)) := rfl
theorem prod_gs (b : Nat) (rows : List (List Int)) : prodL (gsOf b rows) = (prodL rows).map (List.map (fb b)) := prodL_map _ rows
theorem ahead_shut {b : Nat} (hb : 0 < b) (x t : Int) : ahead (fb b x) (fb b t) "shut" = lesI x t true := by
  unfold ahead lesI fb
  have e1 : decide (mkRat x b < mkRat t b) = decide (x < t) := decide_eq_decide.mpr (mk_lt_same hb)
  have e2 : decide (mkRat x b = mkRat t b) = decide (x = t) := decide_eq_decide.mpr (mk_inj hb)
  rw [e1, e2, if_pos rfl, decide_eq_true rfl, Bool.and_true, Bool.eq_iff_iff, Bool.or_eq_true, decide_eq_true_eq, decide_eq_true_eq, decide_eq_true_eq]
  omega
theorem ahead_open {b : Nat} (hb : 0 < b) (x t : Int) : ahead (fb b x) (fb b t) "open" = lesI x t false := by
  unfold ahead lesI fb
  have e1 : decide (mkRat x b < mkRat t b) = decide (x < t) := decide_eq_decide.mpr (mk_lt_same hb)
  have e2 : decide (("open" : Str) = "shut") = false := by decide
  rw [e1, e2, Bool.and_false, Bool.or_false, if_neg (by decide)]
theorem inB_fb {b : Nat} (way : Str) (sh : Bool) (h : ∀ x t, ahead (fb b x) (fb b t) way = lesI x t sh) : ∀ xs ts : List Int, inB (xs.map (fb b)) (ts.map (fb b)) way = inI xs ts sh
  | [], ts => by simp [inB, inI]
  | _ :: _, [] => by simp [inB, inI]
  | x :: xs, t :: ts => by
    have ih := inB_fb way sh h xs ts
    unfold inB inI at ih ⊢
    rw [List.map_cons, List.map_cons, List.zip_cons_cons, List.all_cons, ih, List.zip_cons_cons, List.all_cons, h]
theorem getD_fb {b : Nat} (pl : List (List Int)) (k : Nat) : (pl.map (List.map (fb b))).getD k [] = (pl.getD k []).map (fb b) := by
  rw [List.getD_eq_getElem?_getD, List.getD_eq_getElem?_getD, List.getElem?_map]
  cases pl[k]? <;> rfl
theorem lyN_fb {b : Nat} (way : Str) (sh : Bool) (h : ∀ x t, ahead (fb b x) (fb b t) way = lesI x t sh) (pl : List (List Int)) (ks ts : List Int) : lyN (pl.map (List.map (fb b))) ks (ts.map (fb b)) way = cntI pl ks ts sh := by
  unfold lyN cntI
  congr 1
  refine List.filter_congr fun k _ => ?_
  rw [getD_fb, inB_fb way sh h]
theorem sizeQ_fb {b : Nat} (hb : 0 < b) : ∀ (ts : List Int) (c : Int) (d : Nat), 0 < d → (∀ t ∈ ts, 0 ≤ t) → (ts.map (fb b)).foldl (fun f q => f * up0 q) (mkRat c d) = mkRat (ts.foldl (· * ·) c) (d * b ^ ts.length)
  | [], c, d, _, _ => by simp
  | t :: ts, c, d, hd, h => by
    have ht := h t List.mem_cons_self
    have e : up0 (fb b t) = mkRat t b := by
      unfold up0 fb
      rw [if_neg (Rat.not_lt.mpr ((mk_pos hb).mpr ht))]
    rw [List.map_cons, List.foldl_cons, e, Rat.mkRat_mul_mkRat, sizeQ_fb hb ts _ _ (Nat.mul_pos hd hb) fun x hx => h x (List.mem_cons_of_mem _ hx), List.foldl_cons, List.length_cons, Nat.pow_succ, Nat.mul_assoc, Nat.mul_comm b]
theorem size_fb {b : Nat} (hb : 0 < b) {ts : List Int} (h : ∀ t ∈ ts, 0 ≤ t) : sizeQ (ts.map (fb b)) = mkRat (sizeI ts) (b ^ ts.length) := by
  have := sizeQ_fb hb ts 1 1 (by omega) h
  rw [Nat.one_mul] at this
  exact this
theorem cntI_app (pl : List (List Int)) (a c ts : List Int) (sh : Bool) : cntI pl (a ++ c) ts sh = cntI pl a ts sh + cntI pl c ts sh := by
  unfold cntI
  rw [List.filter_append, List.length_append]
def unit (b m s : Nat) : Nat := m * b ^ s
theorem unit_pos {b m s : Nat} (hb : 0 < b) (hm : 1 ≤ m) : 0 < unit b m s := Nat.mul_pos hm (Nat.pow_pos hb)
theorem over_fb {b m : Nat} {rows : List (List Int)} {tk fr_ ts : List Int} (hb : 0 < b) (hm : 1 ≤ m) (hl : ts.length = rows.length) (ht : ∀ t ∈ ts, 0 ≤ t) :
    overBy (prodL (gsOf b rows)) m tk fr_ (ts.map (fb b)) = mkRat (shownI b rows m tk fr_ ts true) (unit b m rows.length) := by
  have hp : 0 < b ^ ts.length := Nat.pow_pos hb
  unfold overBy
  rw [size_fb hb ht, mk_sub (by omega) hp, hl]
  have e : overCnt (prodL (gsOf b rows)) m tk fr_ (ts.map (fb b)) * ((b ^ rows.length : Nat) : Int) - sizeI ts * m = shownI b rows m tk fr_ ts true := by
    unfold overCnt shownI wholeI
    rw [prod_gs, lyN_fb "shut" true (ahead_shut hb), lyN_fb "shut" true (ahead_shut hb), cntI_app, if_pos rfl, Int.natCast_pow, Int.mul_comm (sizeI ts)]
    dsimp only
    have e2 : (m : Int) - ((tk.length : Int) + fr_.length - (cntI (prodL rows) tk ts true) - (cntI (prodL rows) fr_ ts true)) = m - ((tk.length : Int) + fr_.length - ((cntI (prodL rows) tk ts true + cntI (prodL rows) fr_ ts true : Nat) : Int)) := by omega
    rw [e2]
  rw [e]
  rfl
theorem lack_fb {b m : Nat} {rows : List (List Int)} {tk fr_ ts : List Int} (hb : 0 < b) (hm : 1 ≤ m) (hl : ts.length = rows.length) (ht : ∀ t ∈ ts, 0 ≤ t) :
    lackBy (prodL (gsOf b rows)) m tk fr_ (ts.map (fb b)) = mkRat (shownI b rows m tk fr_ ts false) (unit b m rows.length) := by
  have hp : 0 < b ^ ts.length := Nat.pow_pos hb
  unfold lackBy
  rw [size_fb hb ht, mk_sub hp (by omega), hl]
  have e : sizeI ts * m - lackCnt (prodL (gsOf b rows)) m tk fr_ (ts.map (fb b)) * ((b ^ rows.length : Nat) : Int) = shownI b rows m tk fr_ ts false := by
    unfold lackCnt shownI wholeI
    rw [prod_gs, lyN_fb "open" false (ahead_open hb), lyN_fb "open" false (ahead_open hb), cntI_app, if_neg Bool.false_ne_true, Int.natCast_pow, Int.mul_comm (sizeI ts), Int.natCast_add]
  rw [e]
  unfold unit
  rw [Nat.mul_comm]
/-- a leaf shows so much -/
theorem leaf_over {b m : Nat} {rows : List (List Int)} {tk fr_ ts : List Int} {v : Int} (hb : 0 < b) (hm : 1 ≤ m) (hl : ts.length = rows.length) (ht : ∀ t ∈ ts, 0 ≤ t) :
    leafB (gsOf b rows) m (mkRat v (unit b m rows.length)) "over" [boxD (ts.map (fb b))] tk fr_ = decide (v ≤ shownI b rows m tk fr_ ts true) := by
  unfold leafB
  rw [if_neg (by decide), if_neg (by decide)]
  dsimp only
  rw [if_pos rfl, unbox_box, over_fb hb hm hl ht]
  have := unit_pos (s := rows.length) hb hm
  rw [Bool.eq_iff_iff, Bool.not_eq_true', decide_eq_false_iff_not, decide_eq_true_eq, mk_lt_same this]
  omega
theorem leaf_lack {b m : Nat} {rows : List (List Int)} {tk fr_ ts : List Int} {v : Int} (hb : 0 < b) (hm : 1 ≤ m) (hl : ts.length = rows.length) (ht : ∀ t ∈ ts, 0 ≤ t) :
    leafB (gsOf b rows) m (mkRat v (unit b m rows.length)) "lack" [boxD (ts.map (fb b))] tk fr_ = decide (v ≤ shownI b rows m tk fr_ ts false) := by
  unfold leafB
  rw [if_neg (by decide), if_neg (by decide)]
  dsimp only
  rw [if_neg (by decide), unbox_box, lack_fb hb hm hl ht]
  have := unit_pos (s := rows.length) hb hm
  rw [Bool.eq_iff_iff, Bool.not_eq_true', decide_eq_false_iff_not, decide_eq_true_eq, mk_lt_same this]
  omega
theorem frac_ed (q : Rat) (h : Ed q) : isEdge (fr q) = true := by
  have hp := q.den_pos
  have h1 := (Rat.le_iff (-1) q).mp h.lo
  have h2 := (Rat.le_iff q 1).mp h.hi
  have e1 : ((-1 : Rat).num) = -1 := rfl
  have e2 : ((-1 : Rat).den) = 1 := rfl
  have e3 : ((1 : Rat).num) = 1 := rfl
  have e4 : ((1 : Rat).den) = 1 := rfl
  rw [e1, e2] at h1
  rw [e3, e4] at h2
  show (fracB (.int q.num) (.int q.den) && edgeB (.int q.num) (.int q.den)) = true
  have hg : Int.gcd q.num q.den = 1 := q.reduced
  simp only [fracB, edgeB, Bool.and_eq_true, decide_eq_true_eq]
  exact ⟨⟨by omega, hg⟩, by omega, by omega⟩
theorem corner_ok {s : Nat} {qs : List Rat} (hl : qs.length = s) (h : ∀ q ∈ qs, Ed q) : isCorner s (boxD qs) = true := by
  have e2 : (longOf "to").getD 0 = 2 := by decide
  have hs : ∀ q, Ed q → isSide (sideD q) = true := fun q hq => by
    show (decide ((longOf "to").getD 0 = (([fr q] : List D).length : Int) + 1) && [fr q].all isEdge) = true
    rw [e2]
    simp [frac_ed q hq]
  show (isBox s (.tup (qs.map sideD)) && (qs.map sideD).all isTo) = true
  have h1 : (qs.map sideD).all isSide = true := by
    rw [List.all_map, List.all_eq_true]
    exact fun q hq => hs q (h q hq)
  have h2 : (qs.map sideD).all isTo = true := by
    rw [List.all_map, List.all_eq_true]
    intro q _
    rfl
  show ((decide (((qs.map sideD).length : Int) = s) && (qs.map sideD).all isSide) && (qs.map sideD).all isTo) = true
  rw [h1, h2, List.length_map, hl]
  simp
theorem ed_fb {b : Nat} {t : Int} (hb : 0 < b) (hb2 : b ≤ 1000) (h0 : 0 ≤ t) (h1 : t ≤ b) : Ed (fb b t) := by
  obtain ⟨a, c, d⟩ := frac_bds hb h0 h1
  exact ⟨Rat.le_trans (by decide) a, c, by unfold fb; omega⟩
end Pu

/-! W9: odd and bent papers, a tree of the law's own. -/
namespace Pu
open PySem PySem.Spec PyProof.Rows L2
/-- data of a paper: whole numbers up to B, lengths up to L, depth up to the last -/
def OkU (B L : Nat) : Nat → D → Prop
  | 0, _ => False
  | _ + 1, .non => True
  | _ + 1, .bl _ => True
  | _ + 1, .int i => -(B : Int) ≤ i ∧ i ≤ B
  | _ + 1, .str x => PyData.strOk x = true
  | k + 1, .tup ds => ds.length ≤ L ∧ ∀ d ∈ ds, OkU B L k d
  | k + 1, .lst ds => ds.length ≤ L ∧ ∀ d ∈ ds, OkU B L k d
  | _ + 1, _ => False
theorem OkU.mono {B L C M : Nat} (hB : B ≤ C) (hL : L ≤ M) : ∀ {k j : Nat} {d : D}, OkU B L k d → k ≤ j → OkU C M j d
  | k + 1, j + 1, .non, _, _ => trivial
  | k + 1, j + 1, .bl _, _, _ => trivial
  | k + 1, j + 1, .int i, h, _ => ⟨by have := h.1; omega, by have := h.2; omega⟩
  | k + 1, j + 1, .str _, h, _ => h
  | k + 1, j + 1, .tup ds, h, q => ⟨Nat.le_trans h.1 hL, fun d hd => OkU.mono hB hL (h.2 d hd) (by omega)⟩
  | k + 1, j + 1, .lst ds, h, q => ⟨Nat.le_trans h.1 hL, fun d hd => OkU.mono hB hL (h.2 d hd) (by omega)⟩
  | 0, _, _, h, _ => h.elim
  | _ + 1, 0, _, _, q => by omega
theorem OkU.okT {B L : Nat} (hB : B ≤ 1000) (hL : L ≤ 8) : ∀ {k : Nat} {d : D}, OkU B L k d → OkT k d
  | k + 1, .non, _ => trivial
  | k + 1, .bl _, _ => trivial
  | k + 1, .int i, h => ⟨by have := h.1; omega, by have := h.2; omega⟩
  | k + 1, .str _, h => h
  | k + 1, .tup ds, h => ⟨Nat.le_trans h.1 hL, fun d hd => OkU.okT hB hL (h.2 d hd)⟩
  | k + 1, .lst ds, h => ⟨Nat.le_trans h.1 hL, fun d hd => OkU.okT hB hL (h.2 d hd)⟩
  | 0, _, h => h.elim
theorem lay_of : ∀ ds : List D, (∀ d ∈ ds, d.py.canLay0 = true) → PyData.canLayAll0 (pyL ds) = true
  | [], _ => rfl
  | d :: ds, h => by
    show (d.py.canLay0 && PyData.canLayAll0 (pyL ds)) = true
    rw [h d List.mem_cons_self, lay_of ds fun x hx => h x (List.mem_cons_of_mem _ hx)]
    rfl
theorem dep_of (n : Nat) : ∀ ds : List D, (∀ d ∈ ds, d.py.depth ≤ n) → PyData.depthAll (pyL ds) ≤ n
  | [], _ => Nat.zero_le _
  | d :: ds, h => by
    show max d.py.depth (PyData.depthAll (pyL ds)) ≤ n
    exact Nat.max_le.mpr ⟨h d List.mem_cons_self, dep_of n ds fun x hx => h x (List.mem_cons_of_mem _ hx)⟩
theorem OkU.lay {B L : Nat} : ∀ {k : Nat} {d : D}, OkU B L k d → d.py.canLay0 = true ∧ d.py.depth ≤ k ∧ d.plain = true
  | k + 1, .non, _ => ⟨rfl, Nat.zero_le _, rfl⟩
  | k + 1, .bl _, _ => ⟨rfl, Nat.zero_le _, rfl⟩
  | k + 1, .int i, h => ⟨rfl, Nat.zero_le _, rfl⟩
  | k + 1, .str _, h => ⟨h, Nat.zero_le _, rfl⟩
  | k + 1, .tup ds, h => ⟨lay_of ds fun d hd => (OkU.lay (h.2 d hd)).1, Nat.succ_le_succ (dep_of k ds fun d hd => (OkU.lay (h.2 d hd)).2.1), plainL_of ds fun d hd => (OkU.lay (h.2 d hd)).2.2⟩
  | k + 1, .lst ds, h => ⟨lay_of ds fun d hd => (OkU.lay (h.2 d hd)).1, Nat.succ_le_succ (dep_of k ds fun d hd => (OkU.lay (h.2 d hd)).2.1), plainL_of ds fun d hd => (OkU.lay (h.2 d hd)).2.2⟩
  | 0, _, h => h.elim
theorem OkU.shaped {B L k : Nat} {d : D} (h : OkU B L k d) (hk : k ≤ 64) : SeqAt.shaped d.py = true := by
  obtain ⟨a, c, _⟩ := h.lay
  unfold SeqAt.shaped
  rw [Bool.and_eq_true, decide_eq_true_eq]
  exact ⟨a, by omega⟩
theorem okU_cases {C : D → Prop} {B L k : Nat} {d : D} (h : OkU B L (k + 1) d) (non : C .non) (bl : ∀ b, C (.bl b)) (int : ∀ i, -(B : Int) ≤ i → i ≤ B → C (.int i)) (str : ∀ x, C (.str x)) (tup : ∀ ds, ds.length ≤ L → (∀ d ∈ ds, OkU B L k d) → C (.tup ds)) (lst : ∀ ds, C (.lst ds)) : C d := by
  cases d with
  | non => exact non
  | bl b => exact bl b
  | int i => exact int i h.1 h.2
  | str x => exact str x
  | tup ds => exact tup ds h.1 h.2
  | lst ds => exact lst ds
  | key _ => exact h.elim
  | tape => exact h.elim
  | obj _ _ _ => exact h.elim
  | tab _ _ => exact h.elim
  | raw _ => exact h.elim
theorem cut_take {α : Type} {xs : List α} {k : Nat} : cutD xs none (some (k : Int)) = xs.take k := by
  unfold cutD
  rw [HT.sIx_none, HT.sIx_nat, List.drop_zero, Nat.sub_zero, ← List.take_eq_take_min]
theorem cut_drop {α : Type} {xs : List α} {k : Nat} : cutD xs (some (k : Int)) none = xs.drop k := by
  unfold cutD
  rw [HT.sIx_nat, HT.sIx_none]
  have : (xs.drop (min k xs.length)).length ≤ xs.length - min k xs.length := by rw [List.length_drop]; omega
  rw [List.take_of_length_le this]
  by_cases h : k ≤ xs.length
  · rw [Nat.min_eq_left h]
  · rw [Nat.min_eq_right (by omega), List.drop_of_length_le (Nat.le_refl _), List.drop_of_length_le (by omega)]
def odds : List D := [.int 0, .int 1, .int (-1), .int 2, .bl true, .bl false, .non, .str "", .str "cut", .str "over", .tup [], .tup [.int 0, .int 1], .tup [.int 2, .int 2], .tup [.int 1, .int 0], .lst [.int 0, .int 1], .tup [.tup [.int 0, .int 1]], .tup [.int 1, .int 2]]
theorem odds_ok {B L : Nat} (hB : 2 ≤ B) (hL : 2 ≤ L) : ∀ d ∈ odds, OkU B L 3 d := by
  have pr : ∀ i j : Int, -2 ≤ i → i ≤ 2 → -2 ≤ j → j ≤ 2 → ∀ d ∈ [D.int i, D.int j], OkU B L 1 d := fun i j h1 h2 h3 h4 d hd => by
    rcases List.mem_cons.mp hd with rfl | hd
    · exact ⟨by omega, by omega⟩
    · rw [List.mem_singleton.mp hd]; exact ⟨by omega, by omega⟩
  have pu : ∀ i j : Int, -2 ≤ i → i ≤ 2 → -2 ≤ j → j ≤ 2 → OkU B L 2 (.tup [.int i, .int j]) := fun i j h1 h2 h3 h4 => ⟨by simpa using hL, pr i j h1 h2 h3 h4⟩
  have pl : ∀ i j : Int, -2 ≤ i → i ≤ 2 → -2 ≤ j → j ≤ 2 → OkU B L 3 (.lst [.int i, .int j]) := fun i j h1 h2 h3 h4 => OkU.mono (Nat.le_refl _) (Nat.le_refl _) (k := 2) ⟨by simpa using hL, pr i j h1 h2 h3 h4⟩ (by omega)
  have up : ∀ d, OkU B L 2 d → OkU B L 3 d := fun d h => OkU.mono (Nat.le_refl _) (Nat.le_refl _) h (by omega)
  intro d hd
  simp only [odds, List.mem_cons, List.not_mem_nil, or_false] at hd
  rcases hd with rfl | rfl | rfl | rfl | rfl | rfl | rfl | rfl | rfl | rfl | rfl | rfl | rfl | rfl | rfl | rfl | rfl
  · exact ⟨by omega, by omega⟩
  · exact ⟨by omega, by omega⟩
  · exact ⟨by omega, by omega⟩
  · exact ⟨by omega, by omega⟩
  · trivial
  · trivial
  · trivial
  · show PyData.strOk "" = true; decide +kernel
  · show PyData.strOk "cut" = true; decide +kernel
  · show PyData.strOk "over" = true; decide +kernel
  · exact ⟨by simp, fun d h => nomatch h⟩
  · exact up _ (pu 0 1 (by omega) (by omega) (by omega) (by omega))
  · exact up _ (pu 2 2 (by omega) (by omega) (by omega) (by omega))
  · exact up _ (pu 1 0 (by omega) (by omega) (by omega) (by omega))
  · exact pl 0 1 (by omega) (by omega) (by omega) (by omega)
  · exact ⟨by simp; omega, fun d h => by rw [List.mem_singleton.mp h]; exact pu 0 1 (by omega) (by omega) (by omega) (by omega)⟩
  · exact up _ (pu 1 2 (by omega) (by omega) (by omega) (by omega))
theorem atI_mem {ds : List D} {r : Int} (h0 : 0 ≤ r) (h1 : r < ds.length) : ∃ d, atI ds r = some d ∧ d ∈ ds := by
  have hr : r.toNat < ds.length := by omega
  have e : r = (r.toNat : Int) := by omega
  refine ⟨ds[r.toNat], ?_, List.getElem_mem hr⟩
  conv => lhs; rw [e]
  rw [atI_nat, List.getElem?_eq_getElem hr]
theorem eqD_tup0 (xs : List D) (P : Bool → Prop) : eqD (.tup xs) (.tup []) P = ((D.tup xs).plain = true ∧ SeqAt.shaped (D.tup xs).py = true ∧ P xs.isEmpty) := by
  unfold eqD
  split <;> simp_all
theorem eqD_lst0 (xs : List D) (P : Bool → Prop) : eqD (.lst xs) (.lst []) P = ((D.lst xs).plain = true ∧ SeqAt.shaped (D.lst xs).py = true ∧ P xs.isEmpty) := by
  unfold eqD
  split <;> simp_all
theorem eqD_int (i j : Int) (P : Bool → Prop) : eqD (.int i) (.int j) P = P (decide (i = j)) := rfl
theorem prod_le9 {gs : List (List Int)} (h : ∀ g ∈ gs, g.length ≤ 9) (h2 : gs.length ≤ 2) : (prodL gs).length ≤ 81 := by
  have hp : ∀ i, i ≤ gs.length → (prodL (gs.take i)).length ≤ 9 ^ i := fun i => by
    induction i with
    | zero => intro _; simp [prodL]
    | succ i ih =>
      intro hi
      have e : gs[i]? = some gs[i] := List.getElem?_eq_getElem (by omega)
      rw [take_snoc e, prodL_snoc, extL_len, Nat.pow_succ]
      exact Nat.mul_le_mul (ih (by omega)) (h _ (List.getElem_mem _))
  have := hp gs.length (Nat.le_refl _)
  rw [List.take_length] at this
  exact Nat.le_trans this (pow9 h2)
def boxesI (b : Nat) (rows : List (List Int)) : List (List Int) := prodL (rows.map fun r => r ++ [(b : Int)])
theorem boxes_len {b : Nat} {rows : List (List Int)} (h : OkR b rows) : (boxesI b rows).length ≤ 81 := by
  refine prod_le9 (fun g hg => ?_) (by rw [List.length_map]; exact h.s2)
  obtain ⟨r, hr, rfl⟩ := List.mem_map.mp hg
  have := h.row r hr
  rw [List.length_append, List.length_singleton]
  omega
theorem boxes_ts {b : Nat} {rows : List (List Int)} (h : OkR b rows) {ts : List Int} (hm : ts ∈ boxesI b rows) : OkTs b rows ts := by
  have hp := mem_prodL.mp hm
  refine ⟨by rw [hp.len, List.length_map], fun t ht => ?_⟩
  obtain ⟨g, hg, htg⟩ := hp.of_mem t ht
  obtain ⟨r, hr, rfl⟩ := List.mem_map.mp hg
  rcases List.mem_append.mp htg with q | q
  · have := h.nums r hr t q; omega
  · rw [List.mem_singleton.mp q]; omega
theorem boxes_ne {b : Nat} {rows : List (List Int)} : boxesI b rows ≠ [] := by
  have : ∀ rows : List (List Int), Pick (List.replicate rows.length (b : Int)) (rows.map fun r => r ++ [(b : Int)]) := fun rows => by
    induction rows with
    | nil => trivial
    | cons r rows ih => exact ⟨by simp, ih⟩
  have hm := mem_prodL.mpr (this rows)
  intro e
  unfold boxesI at e
  rw [e] at hm
  cases hm
/-- what a leaf may hold -/
def candL (b : Nat) (rows : List (List Int)) (m : Nat) (held free : List Int) (c : List Int × Bool) : D := .tup [.int (shownI b rows m held free c.1 c.2), .bl c.2, tupI c.1]
def leafCs (b : Nat) (rows : List (List Int)) : List (List Int × Bool) := (boxesI b rows).flatMap fun ts => [(ts, true), (ts, false)]
theorem alike_ints : ∀ xs ys : List Int, PySem.W.alikeAll (xs.map PyData.int) (ys.map PyData.int) = true
  | [], _ => by simp [PySem.W.alikeAll]
  | _ :: _, [] => by simp [PySem.W.alikeAll]
  | x :: xs, y :: ys => by simp [PySem.W.alikeAll, PySem.W.alike, alike_ints xs ys]
theorem pyL_map {α : Type} (f : α → D) : ∀ l : List α, pyL (l.map f) = l.map fun a => (f a).py
  | [] => rfl
  | a :: l => by
    show (f a).py :: pyL (l.map f) = _
    rw [pyL_map f l]; rfl
theorem cand_py (b : Nat) (rows : List (List Int)) (m : Nat) (held free : List Int) (c : List Int × Bool) : (candL b rows m held free c).py = .tuple [.int (shownI b rows m held free c.1 c.2), .bool c.2, .tuple (c.1.map PyData.int)] := by
  show PyData.tuple [_, _, .tuple (pyL (c.1.map D.int))] = _
  rw [pyL_ints]
  rfl
theorem cands_ok (b : Nat) (rows : List (List Int)) (m : Nat) (held free : List Int) (l : List (List Int × Bool)) : plainL (l.map (candL b rows m held free)) = true ∧ PySem.W.AlikeAll (pyL (l.map (candL b rows m held free))) ∧ PyData.depthAll (pyL (l.map (candL b rows m held free))) ≤ 60 := by
  refine ⟨plainL_of _ fun d hd => ?_, ⟨fun x hx y hy => ?_, fun x hx => ?_⟩, Nat.le_trans (dep_of 3 _ fun d hd => ?_) (by omega)⟩
  · obtain ⟨c, _, rfl⟩ := List.mem_map.mp hd
    show plainL [_, _, tupI c.1] = true
    refine plainL_of _ fun d hd => ?_
    simp only [List.mem_cons, List.not_mem_nil, or_false] at hd
    rcases hd with rfl | rfl | rfl
    · rfl
    · rfl
    · exact plain_ints c.1
  · rw [pyL_map] at hx hy
    obtain ⟨c, _, rfl⟩ := List.mem_map.mp hx
    obtain ⟨e, _, rfl⟩ := List.mem_map.mp hy
    rw [cand_py, cand_py]
    simp [PySem.W.alike, PySem.W.alikeAll, alike_ints]
  · rw [pyL_map] at hx
    obtain ⟨c, _, rfl⟩ := List.mem_map.mp hx
    rw [cand_py]
    exact fun z => by cases z
  · obtain ⟨c, _, rfl⟩ := List.mem_map.mp hd
    rw [cand_py]
    have := dep_ints c.1
    simp only [PyData.depth, PyData.depthAll]
    omega
theorem filt_nodup {l : List Int} {A : Nat} (hn : l.Nodup) (h : A < l.length) : (l.filter fun k => decide (k ≠ l[A])) = l.take A ++ l.drop (A + 1) := by
  have e : l = l.take A ++ l[A] :: l.drop (A + 1) := by rw [← List.drop_eq_getElem_cons h, List.take_append_drop]
  have hn2 : (l.take A ++ l[A] :: l.drop (A + 1)).Nodup := e ▸ hn
  obtain ⟨n1, n2, n3⟩ := List.nodup_append.mp hn2
  obtain ⟨n4, n5⟩ := List.nodup_cons.mp n2
  have f1 : (l.take A).filter (fun k => decide (k ≠ l[A])) = l.take A := List.filter_eq_self.mpr fun k hk => by
    simpa using fun z => n3 k hk l[A] List.mem_cons_self z
  have f2 : (l.drop (A + 1)).filter (fun k => decide (k ≠ l[A])) = l.drop (A + 1) := List.filter_eq_self.mpr fun k hk => by
    simpa using fun z => n4 (by rw [← z]; exact hk)
  have f3 : (l.take A ++ l[A] :: l.drop (A + 1)).filter (fun k => decide (k ≠ l[A])) = l.take A ++ l.drop (A + 1) := by
    rw [List.filter_append, f1, List.filter_cons_of_neg (by simp), f2]
  conv => lhs; arg 2; rw [e]
  exact f3
def oD : Option Int → D
  | none => .non
  | some w => .int w
def letB (o : Option Int) (v : Int) : Bool := match o with
  | none => true
  | some w => decide (v ≤ w)
/-- let by for no more than it shows -/
def Shows (b : Nat) (rows : List (List Int)) (m : Nat) (held free : List Int) (d : D) (o : Option Int) : Prop :=
  ∀ (f : Nat) (v : Int), free.length ≤ f → goB (gsOf b rows) m (mkRat v (unit b m rows.length)) f d held free = letB o v
abbrev k_l_odd : Nat := 3
def sp_l_odd : PSp := fun ds n P => ds = [.tape] ∧ n + 2 < 2 ^ 40 ∧ ∀ d ∈ odds, P d (n + 1)
abbrev k_l_bent (f : Nat) : Nat := f + 5
def sp_l_bent : Nat → PSp
  | 0 => fun _ _ _ => False
  | f + 1 => fun ds n P => ∃ (B L : Nat) (d : D), ds = [.tape, d] ∧ OkU B L (f + 1) d ∧ 2 ≤ B ∧ 2 ≤ L ∧ L ≤ 100 ∧ f ≤ 50 ∧ n + 4 * f + 10 < 2 ^ 40 ∧ ∀ d' n', OkU (B + 1) (L + 1) (f + 4) d' → n' ≤ n + 4 * (f + 1) → P d' n'
abbrev k_l_leaf : Nat := 4
def sp_l_leaf : PSp := fun ds n P => ∃ (b : Nat) (rows : List (List Int)) (m : Nat) (held free : List Int), ds = [.tape, caseD b rows, .int m, intsD held, intsD free] ∧ OkR b rows ∧ 1 ≤ m ∧ m ≤ 3 ∧ OkK rows held ∧ OkK rows free ∧ n + 10 < 2 ^ 40 ∧
  ∀ d o n', Shows b rows m held free d o → OkU 997 4 6 d → n' ≤ n + 3 → P (.tup [d, oD o]) n'
abbrev k_l_tree (f : Nat) : Nat := f + 5
def sp_l_tree : Nat → PSp
  | 0 => fun _ _ _ => False
  | f + 1 => fun ds n P => ∃ (b : Nat) (rows : List (List Int)) (m : Nat) (held free : List Int) (deep : Int), ds = [.tape, caseD b rows, .int m, intsD held, intsD free, .int deep] ∧ OkR b rows ∧ 1 ≤ m ∧ m ≤ 3 ∧ OkK rows held ∧ OkK rows free ∧ free.Nodup ∧ held.length + free.length ≤ 8 ∧ deep ≤ f ∧ n + 4 * 2 ^ f + 10 < 2 ^ 40 ∧
    ∀ d o n', Shows b rows m held free d o → OkU 997 4 (f + 6) d → n' + 1 ≤ n + 4 * 2 ^ f → P (.tup [d, oD o]) n'
theorem len_l_odd : ∀ ds n P, sp_l_odd ds n P → ds.length = (["_law_tape_here"] : List Str).length := by rintro _ n P ⟨rfl, _⟩; rfl
theorem len_l_bent : ∀ fl ds n P, sp_l_bent fl ds n P → ds.length = (["_law_tape_here", "_law_thing"] : List Str).length
  | 0, _, _, _, h => h.elim
  | _ + 1, _, n, P, h => by obtain ⟨_, _, _, rfl, _⟩ := h; rfl
theorem len_l_leaf : ∀ ds n P, sp_l_leaf ds n P → ds.length = (["_law_tape_here", "_law_case", "_law_many", "_law_held", "_law_free"] : List Str).length := by rintro _ n P ⟨_, _, _, _, _, rfl, _⟩; rfl
theorem len_l_tree : ∀ fl ds n P, sp_l_tree fl ds n P → ds.length = (["_law_tape_here", "_law_case", "_law_many", "_law_held", "_law_free", "_law_deep"] : List Str).length
  | 0, _, _, _, h => h.elim
  | _ + 1, _, n, P, h => by obtain ⟨_, _, _, _, _, _, rfl, _⟩ := h; rfl
section
variable {Pr : Program} {w : World} {K : PySem.W.Frag} {mg : Str → Option Value} {base : Heap}
abbrev s_l_odd : Stmt := top 73
theorem sc_l_odd : FnScope ["_law_tape_here", "_law_odd_here"] ["_law_tape_here"] (defScope s_l_odd) := ⟨rfl, rfl, rfl, by decide +kernel, rfl, by decide +kernel, by decide +kernel⟩
theorem ok_l_odd (F0 : Df K mg "_law_odd" s_l_odd) (B : Bt mg) (C : Cs K w mg) (h_l_draw : Has Pr w K mg base "_law_draw" ["_law_tape_here", "_law_many"] k_l_draw sp_l_draw) : Has Pr w K mg base "_law_odd" ["_law_tape_here"] k_l_odd sp_l_odd := by
  have sc := sc_l_odd
  refine has_mk (k := _) F0 sc (fun _ _ _ _ _ _ us hl => match us, hl with | [_], _ => rfl) len_l_odd (fun f cdv A outer s H E hr => ⟨_,
    (bCons (sSet 1 sc.nd (vLst (aCons vI (aCons vI (aCons (vNeg vI) (aCons vI (aCons vB (aCons vB (aCons vO (aCons vS (aCons vS (aCons vS (aCons (vTup aNil) (aCons (vTup (aCons vI (aCons vI aNil))) (aCons (vTup (aCons vI (aCons vI aNil))) (aCons (vTup (aCons vI (aCons vI aNil))) (aCons (vLst (aCons vI (aCons vI aNil))) (aCons (vTup (aCons (vTup (aCons vI (aCons vI aNil))) aNil)) (aCons (vTup (aCons vI (aCons vI aNil))) aNil)))))))))))))))))))
    (bOne (sRet (vIx (vN 1) (vCall h_l_draw hr (aCons (vN 0) (aCons vI aNil))))))), ?_⟩)
  rintro _ n P ⟨rfl, hn, h⟩
  simp only [SSeq, SNil, SIf, SRet, SSet, SAsg, SPar, SMuL, SApp, SExt, SPut, SFz, frzR, SNo, TVar, TC, TOp, TB, TNil, TCons, TTup, TLst, TKey, oIx, seqOf, TAnd, TOr, TNot, TAndV, TOrV, TNotV, TIf, TCB, cLen, cAbs, cMax2, cMin2, cAll, cList, cTuple, cInt, TIsi, isD, tyD, TCall, TChain, TLc, TLc0, SFor, ISeq, IRg1, IRg2, IZip, TSl, TPs, TPn, slD, cut1, opII, opI0, TNeg, oAdd, oIsN, oNotN, oIsB, opEq, eqD, getS, startR, GName, GNil, GCons, GTup, List.map_cons, List.map_nil, List.length_cons, List.length_nil, List.cons_append, List.nil_append, List.set_cons_zero, List.set_cons_succ, List.replicate, List.append_nil, Option.map_some, Bool.not_true, Bool.not_false, Bool.false_eq_true, if_true, if_false, ite_true, ite_false, reduceIte, Nat.sub_self, Nat.reduceAdd, Nat.reduceSub, Bool.or_true, Bool.or_false, Bool.true_or, Bool.false_or, Bool.and_true, Bool.and_false, decide_true, decide_false, List.getElem?_cons_zero, List.getElem?_cons_succ, Option.some.injEq, exists_eq_left', exists_eq_left, true_and, and_true, at0, at1, at2, at3, List.length_map, List.cons.injEq, Int.cast_ofNat_Int, Int.reduceEq, Int.reduceLT, Int.reduceLE, D.int.injEq, D.str.injEq, D.bl.injEq, D.tup.injEq, D.lst.injEq, exists_const, Int.zero_add, Nat.zero_add, Int.natCast_add, Int.natCast_one, Int.reduceAdd, sp_l_draw]
  have z2 : 2 ≤ sizeLine := sz8 (by omega)
  refine ⟨Nat.zero_le _, z2, z2, z2, z2, z2, sz8 (by omega), z2, sz1000 (by omega), by omega, fun r h0 h1 => ?_⟩
  obtain ⟨d, hd, hm⟩ := atI_mem (ds := odds) h0 h1
  exact ⟨d, hd, h d hm⟩
abbrev s_l_bent : Stmt := top 74
theorem sc_l_bent : FnScope ["_law_tape_here", "_law_thing", "_law_way", "_law_at"] ["_law_tape_here", "_law_thing"] (defScope s_l_bent) := ⟨rfl, rfl, rfl, by decide +kernel, rfl, by decide +kernel, by decide +kernel⟩
theorem step_l_bent (fl : Nat) (F0 : Df K mg "_law_bent" s_l_bent) (B : Bt mg) (C : Cs K w mg) (h_l_bent : Has Pr w K mg base "_law_bent" ["_law_tape_here", "_law_thing"] (k_l_bent fl) (sp_l_bent fl)) (h_l_draw : Has Pr w K mg base "_law_draw" ["_law_tape_here", "_law_many"] k_l_draw sp_l_draw) (h_l_odd : Has Pr w K mg base "_law_odd" ["_law_tape_here"] k_l_odd sp_l_odd) : Has Pr w K mg base "_law_bent" ["_law_tape_here", "_law_thing"] (k_l_bent (fl + 1)) (sp_l_bent (fl + 1)) := by
  have sc := sc_l_bent
  refine has_mk (k := _) F0 sc (fun _ _ _ _ _ _ us hl => match us, hl with | [_, _], _ => rfl) (len_l_bent (fl + 1)) (fun f cdv A outer s H E hr => ⟨_,
    (bCons (sSet 2 sc.nd (vCall h_l_draw hr (aCons (vN 0) (aCons vI aNil)) (hj := Nat.le_trans (by decide) (Nat.le_add_left _ _))))
    (bCons (sIf (bW (wOr (bNot (bVal (vIsi (T := "tuple") (by decide) B.isi B.tuple (vN 1)))) (wOr (bEq hr (vN 1) (vTup aNil)) (wOr1 (bEq hr (vN 2) vI)))))
      (bCons (sIf (bW (wAnd (bVal (vIsi (T := "int") (by decide) B.isi B.int (vN 1))) (wAnd (bNot (bVal (vIsi (T := "bool") (by decide) B.isi B.bool (vN 1)))) (wAnd1 (bGt (vN 2) vI)))))
        (bOne (sRet (vAdd (vN 1) (vIx (vLst (aCons vI (aCons (vNeg vI) aNil))) (vCall h_l_draw hr (aCons (vN 0) (aCons vI aNil)) (hj := Nat.le_trans (by decide) (Nat.le_add_left _ _)))))))
        bNil)
      (bOne (sRet (vCall h_l_odd hr (aCons (vN 0) aNil) (hj := Nat.le_trans (by decide) (Nat.le_add_left _ _))))))
      bNil)
    (bCons (sSet 3 sc.nd (vCall h_l_draw hr (aCons (vN 0) (aCons (vLen B.len (aCons (vN 1) aNil)) aNil)) (hj := Nat.le_trans (by decide) (Nat.le_add_left _ _))))
    (bCons (sIf (bEq hr (vN 2) vI)
      (bOne (sRet (vIx (vLst (aCons (vAdd (vSl (vN 1) oN (oS (vN 3))) (vSl (vN 1) (oS (vAdd (vN 3) vI)) oN)) (aCons (vAdd (vSl (vN 1) oN (oS (vAdd (vN 3) vI))) (vSl (vN 1) (oS (vN 3)) oN)) (aCons (vRev (vN 1)) (aCons (vList B.list (aCons (vN 1) aNil)) aNil))))) (vCall h_l_draw hr (aCons (vN 0) (aCons vI aNil)) (hj := Nat.le_trans (by decide) (Nat.le_add_left _ _))))))
      bNil)
    (bOne (sRet (vAdd (vAdd (vSl (vN 1) oN (oS (vN 3))) (vTup (aCons (vCall h_l_bent hr (aCons (vN 0) (aCons (vIx (vN 1) (vN 3)) aNil)) (hj := Nat.le_refl _)) aNil))) (vSl (vN 1) (oS (vAdd (vN 3) vI)) oN)))))))), ?_⟩)
  rintro _ n P ⟨B, L, d, rfl, hd, hB, hL, hL2, hf, hn, h⟩
  have hodd : ∀ n1, n1 ≤ n + 3 → sp_l_odd [.tape] n1 P := fun n1 hn1 => ⟨rfl, by omega, fun d hd => h d (n1 + 1) (OkU.mono (Nat.le_refl _) (Nat.le_refl _) (odds_ok (by omega) (by omega) d hd) (by omega)) (by omega)⟩
  refine okU_cases (C := fun d => OkU B L (fl + 1) d → SSeq _ _ _ (startR _ [.tape, d]) n) hd (fun hd => ?_) (fun x hd => ?_) (fun i hi0 hi1 hd => ?_) (fun x hd => ?_) (fun ds hdl hds hd => ?_) (fun x hd => ?_) hd
  · simp only [SSeq, SNil, SIf, SRet, SSet, SAsg, SPar, SMuL, SApp, SExt, SPut, SFz, frzR, SNo, TVar, TC, TOp, TB, TNil, TCons, TTup, TLst, TKey, oIx, seqOf, TAnd, TOr, TNot, TAndV, TOrV, TNotV, TIf, TCB, cLen, cAbs, cMax2, cMin2, cAll, cList, cTuple, cInt, TIsi, isD, tyD, TCall, TChain, TLc, TLc0, SFor, ISeq, IRg1, IRg2, IZip, TSl, TPs, TPn, slD, cut1, opII, opI0, TNeg, oAdd, oIsN, oNotN, oIsB, opEq, eqD, getS, startR, GName, GNil, GCons, GTup, List.map_cons, List.map_nil, List.length_cons, List.length_nil, List.cons_append, List.nil_append, List.set_cons_zero, List.set_cons_succ, List.replicate, List.append_nil, Option.map_some, Bool.not_true, Bool.not_false, Bool.false_eq_true, if_true, if_false, ite_true, ite_false, reduceIte, Nat.sub_self, Nat.reduceAdd, Nat.reduceSub, Bool.or_true, Bool.or_false, Bool.true_or, Bool.false_or, Bool.and_true, Bool.and_false, decide_true, decide_false, List.getElem?_cons_zero, List.getElem?_cons_succ, Option.some.injEq, exists_eq_left', exists_eq_left, true_and, and_true, at0, at1, at2, at3, List.length_map, List.cons.injEq, Int.cast_ofNat_Int, Int.reduceEq, Int.reduceLT, Int.reduceLE, D.int.injEq, D.str.injEq, D.bl.injEq, D.tup.injEq, D.lst.injEq, exists_const, Int.zero_add, Nat.zero_add, Int.natCast_add, Int.natCast_one, Int.reduceAdd, sp_l_draw]
    exact ⟨by omega, fun r _ _ => hodd _ (by omega)⟩
  · simp only [SSeq, SNil, SIf, SRet, SSet, SAsg, SPar, SMuL, SApp, SExt, SPut, SFz, frzR, SNo, TVar, TC, TOp, TB, TNil, TCons, TTup, TLst, TKey, oIx, seqOf, TAnd, TOr, TNot, TAndV, TOrV, TNotV, TIf, TCB, cLen, cAbs, cMax2, cMin2, cAll, cList, cTuple, cInt, TIsi, isD, tyD, TCall, TChain, TLc, TLc0, SFor, ISeq, IRg1, IRg2, IZip, TSl, TPs, TPn, slD, cut1, opII, opI0, TNeg, oAdd, oIsN, oNotN, oIsB, opEq, eqD, getS, startR, GName, GNil, GCons, GTup, List.map_cons, List.map_nil, List.length_cons, List.length_nil, List.cons_append, List.nil_append, List.set_cons_zero, List.set_cons_succ, List.replicate, List.append_nil, Option.map_some, Bool.not_true, Bool.not_false, Bool.false_eq_true, if_true, if_false, ite_true, ite_false, reduceIte, Nat.sub_self, Nat.reduceAdd, Nat.reduceSub, Bool.or_true, Bool.or_false, Bool.true_or, Bool.false_or, Bool.and_true, Bool.and_false, decide_true, decide_false, List.getElem?_cons_zero, List.getElem?_cons_succ, Option.some.injEq, exists_eq_left', exists_eq_left, true_and, and_true, at0, at1, at2, at3, List.length_map, List.cons.injEq, Int.cast_ofNat_Int, Int.reduceEq, Int.reduceLT, Int.reduceLE, D.int.injEq, D.str.injEq, D.bl.injEq, D.tup.injEq, D.lst.injEq, exists_const, Int.zero_add, Nat.zero_add, Int.natCast_add, Int.natCast_one, Int.reduceAdd, sp_l_draw]
    exact ⟨by omega, fun r _ _ => hodd _ (by omega)⟩
  · simp only [SSeq, SNil, SIf, SRet, SSet, SAsg, SPar, SMuL, SApp, SExt, SPut, SFz, frzR, SNo, TVar, TC, TOp, TB, TNil, TCons, TTup, TLst, TKey, oIx, seqOf, TAnd, TOr, TNot, TAndV, TOrV, TNotV, TIf, TCB, cLen, cAbs, cMax2, cMin2, cAll, cList, cTuple, cInt, TIsi, isD, tyD, TCall, TChain, TLc, TLc0, SFor, ISeq, IRg1, IRg2, IZip, TSl, TPs, TPn, slD, cut1, opII, opI0, TNeg, oAdd, oIsN, oNotN, oIsB, opEq, eqD, getS, startR, GName, GNil, GCons, GTup, List.map_cons, List.map_nil, List.length_cons, List.length_nil, List.cons_append, List.nil_append, List.set_cons_zero, List.set_cons_succ, List.replicate, List.append_nil, Option.map_some, Bool.not_true, Bool.not_false, Bool.false_eq_true, if_true, if_false, ite_true, ite_false, reduceIte, Nat.sub_self, Nat.reduceAdd, Nat.reduceSub, Bool.or_true, Bool.or_false, Bool.true_or, Bool.false_or, Bool.and_true, Bool.and_false, decide_true, decide_false, List.getElem?_cons_zero, List.getElem?_cons_succ, Option.some.injEq, exists_eq_left', exists_eq_left, true_and, and_true, at0, at1, at2, at3, List.length_map, List.cons.injEq, Int.cast_ofNat_Int, Int.reduceEq, Int.reduceLT, Int.reduceLE, D.int.injEq, D.str.injEq, D.bl.injEq, D.tup.injEq, D.lst.injEq, exists_const, Int.zero_add, Nat.zero_add, Int.natCast_add, Int.natCast_one, Int.reduceAdd, sp_l_draw, String.reduceEq, decide_false]
    refine ⟨by omega, fun r _ _ => ite2 (fun _ => ⟨sz8 (by omega), by omega, fun s hs0 hs1 => ?_⟩) (fun _ => hodd _ (by omega))⟩
    have hs : s = 0 ∨ s = 1 := by omega
    rcases hs with rfl | rfl
    · exact ⟨.int 1, rfl, h _ _ ⟨by omega, by omega⟩ (by omega)⟩
    · exact ⟨.int (-1), rfl, h _ _ ⟨by omega, by omega⟩ (by omega)⟩
  · simp only [SSeq, SNil, SIf, SRet, SSet, SAsg, SPar, SMuL, SApp, SExt, SPut, SFz, frzR, SNo, TVar, TC, TOp, TB, TNil, TCons, TTup, TLst, TKey, oIx, seqOf, TAnd, TOr, TNot, TAndV, TOrV, TNotV, TIf, TCB, cLen, cAbs, cMax2, cMin2, cAll, cList, cTuple, cInt, TIsi, isD, tyD, TCall, TChain, TLc, TLc0, SFor, ISeq, IRg1, IRg2, IZip, TSl, TPs, TPn, slD, cut1, opII, opI0, TNeg, oAdd, oIsN, oNotN, oIsB, opEq, eqD, getS, startR, GName, GNil, GCons, GTup, List.map_cons, List.map_nil, List.length_cons, List.length_nil, List.cons_append, List.nil_append, List.set_cons_zero, List.set_cons_succ, List.replicate, List.append_nil, Option.map_some, Bool.not_true, Bool.not_false, Bool.false_eq_true, if_true, if_false, ite_true, ite_false, reduceIte, Nat.sub_self, Nat.reduceAdd, Nat.reduceSub, Bool.or_true, Bool.or_false, Bool.true_or, Bool.false_or, Bool.and_true, Bool.and_false, decide_true, decide_false, List.getElem?_cons_zero, List.getElem?_cons_succ, Option.some.injEq, exists_eq_left', exists_eq_left, true_and, and_true, at0, at1, at2, at3, List.length_map, List.cons.injEq, Int.cast_ofNat_Int, Int.reduceEq, Int.reduceLT, Int.reduceLE, D.int.injEq, D.str.injEq, D.bl.injEq, D.tup.injEq, D.lst.injEq, exists_const, Int.zero_add, Nat.zero_add, Int.natCast_add, Int.natCast_one, Int.reduceAdd, sp_l_draw]
    exact ⟨by omega, fun r _ _ => hodd _ (by omega)⟩
  · have hpl := (OkU.lay hd).2.2
    have hsh := OkU.shaped hd (by omega)
    simp only [SSeq, SNil, SIf, SRet, SSet, SAsg, SPar, SMuL, SApp, SExt, SPut, SFz, frzR, SNo, TVar, TC, TOp, TB, TNil, TCons, TTup, TLst, TKey, oIx, seqOf, TAnd, TOr, TNot, TAndV, TOrV, TNotV, TIf, TCB, cLen, cAbs, cMax2, cMin2, cAll, cList, cTuple, cInt, TIsi, isD, tyD, TCall, TChain, TLc, TLc0, SFor, ISeq, IRg1, IRg2, IZip, TSl, TPs, TPn, slD, cut1, opII, opI0, TNeg, oAdd, oIsN, oNotN, oIsB, opEq, getS, startR, GName, GNil, GCons, GTup, List.map_cons, List.map_nil, List.length_cons, List.length_nil, List.cons_append, List.nil_append, List.set_cons_zero, List.set_cons_succ, List.replicate, List.append_nil, Option.map_some, Bool.not_true, Bool.not_false, Bool.false_eq_true, if_true, if_false, ite_true, ite_false, reduceIte, Nat.sub_self, Nat.reduceAdd, Nat.reduceSub, Bool.or_true, Bool.or_false, Bool.true_or, Bool.false_or, Bool.and_true, Bool.and_false, decide_true, decide_false, List.getElem?_cons_zero, List.getElem?_cons_succ, Option.some.injEq, exists_eq_left', exists_eq_left, true_and, and_true, at0, at1, at2, at3, List.length_map, List.cons.injEq, Int.cast_ofNat_Int, Int.reduceEq, Int.reduceLT, Int.reduceLE, D.int.injEq, D.str.injEq, D.bl.injEq, D.tup.injEq, D.lst.injEq, exists_const, Int.zero_add, Nat.zero_add, Int.natCast_add, Int.natCast_one, Int.reduceAdd, sp_l_draw, eqD_tup0, eqD_int, String.reduceEq, decide_false]
    refine ⟨by omega, fun w hw0 hw1 => ⟨Nat.zero_le _, hpl, hsh, ite2 (fun _ => hodd _ (by omega)) (fun hne => ite2 (fun _ => hodd _ (by omega)) (fun hw => ?_))⟩⟩
    have hpos : 1 ≤ ds.length := by
      cases ds with
      | nil => simp at hne
      | cons _ _ => simp
    refine ⟨by omega, by omega, by omega, fun a ha0 ha1 => ?_⟩
    obtain ⟨A, rfl⟩ := Int.eq_ofNat_of_zero_le ha0
    have hA : A < ds.length := by omega
    have eA : (A : Int) + 1 = ((A + 1 : Nat) : Int) := by omega
    rw [eA]
    simp only [cut_take, cut_drop]
    have hup : ∀ d ∈ ds, OkU (B + 1) (L + 1) (fl + 3) d := fun d hd => OkU.mono (by omega) (by omega) (hds d hd) (by omega)
    have hlt : ∀ k, (ds.take k).length ≤ ds.length := fun k => by rw [List.length_take]; omega
    have hld : ∀ k, (ds.drop k).length ≤ ds.length := fun k => by rw [List.length_drop]; omega
    have l1 := hlt A
    have l2 := hlt (A + 1)
    have l3 := hld A
    have l4 := hld (A + 1)
    have lt := List.length_take (i := A) (l := ds)
    have ld := List.length_drop (i := A + 1) (l := ds)
    have lt2 := List.length_take (i := A + 1) (l := ds)
    have ld2 := List.length_drop (i := A) (l := ds)
    refine ite2 (fun _ => ?_) (fun _ => ?_)
    · refine ⟨sz1000 (by omega), sz1000 (by omega), ?_⟩
      simp only [SSeq, SNil, SIf, SRet, SSet, SAsg, SPar, SMuL, SApp, SExt, SPut, SFz, frzR, SNo, TVar, TC, TOp, TB, TNil, TCons, TTup, TLst, TKey, oIx, seqOf, TAnd, TOr, TNot, TAndV, TOrV, TNotV, TIf, TCB, cLen, cAbs, cMax2, cMin2, cAll, cList, cTuple, cInt, TIsi, isD, tyD, TCall, TChain, TLc, TLc0, SFor, ISeq, IRg1, IRg2, IZip, TSl, TPs, TPn, slD, cut1, opII, opI0, TNeg, oAdd, oIsN, oNotN, oIsB, opEq, eqD, getS, startR, GName, GNil, GCons, GTup, List.map_cons, List.map_nil, List.length_cons, List.length_nil, List.cons_append, List.nil_append, List.set_cons_zero, List.set_cons_succ, List.replicate, List.append_nil, Option.map_some, Bool.not_true, Bool.not_false, Bool.false_eq_true, if_true, if_false, ite_true, ite_false, reduceIte, Nat.sub_self, Nat.reduceAdd, Nat.reduceSub, Bool.or_true, Bool.or_false, Bool.true_or, Bool.false_or, Bool.and_true, Bool.and_false, decide_true, decide_false, List.getElem?_cons_zero, List.getElem?_cons_succ, Option.some.injEq, exists_eq_left', exists_eq_left, true_and, and_true, at0, at1, at2, at3, List.length_map, List.cons.injEq, Int.cast_ofNat_Int, Int.reduceEq, Int.reduceLT, Int.reduceLE, D.int.injEq, D.str.injEq, D.bl.injEq, D.tup.injEq, D.lst.injEq, exists_const, Int.zero_add, Nat.zero_add, Int.natCast_add, Int.natCast_one, Int.reduceAdd, TRev]
      refine ⟨sz8 (by omega), by omega, fun r hr0 hr1 => ?_⟩
      obtain ⟨x, hx, hxm⟩ := atI_mem (ds := [.tup (ds.take A ++ ds.drop (A + 1)), .tup (ds.take (A + 1) ++ ds.drop A), .tup ds.reverse, .lst ds]) hr0 hr1
      refine ⟨x, hx, h x _ ?_ (by omega)⟩
      have hap : ∀ p q, ∀ d ∈ ds.take p ++ ds.drop q, OkU (B + 1) (L + 1) (fl + 3) d := fun p q d hd => (List.mem_append.mp hd).elim (fun z => hup d (List.mem_of_mem_take z)) (fun z => hup d (List.mem_of_mem_drop z))
      simp only [List.mem_cons, List.not_mem_nil, or_false] at hxm
      rcases hxm with rfl | rfl | rfl | rfl
      · exact ⟨by rw [List.length_append]; omega, hap _ _⟩
      · exact ⟨by rw [List.length_append]; omega, hap _ _⟩
      · exact ⟨by rw [List.length_reverse]; omega, fun d hd => hup d (List.mem_reverse.mp hd)⟩
      · exact ⟨by omega, hup⟩
    · have hi := hds ds[A] (List.getElem_mem hA)
      cases fl with
      | zero => exact hi.elim
      | succ g =>
        refine ⟨ds[A], by rw [atI_nat, List.getElem?_eq_getElem hA], B, L, ds[A], rfl, hi, hB, hL, hL2, by omega, by omega, fun d' n' hd' hn' => ⟨sz8 (by omega), sz1000 (by omega), sz1000 (by rw [List.length_append, List.length_singleton]; omega), h _ _ ⟨?_, fun x hx => ?_⟩ (by omega)⟩⟩
        · rw [List.length_append, List.length_append, List.length_singleton]
          omega
        · rcases List.mem_append.mp hx with hx | hx
          · rcases List.mem_append.mp hx with hx | hx
            · exact hup x (List.mem_of_mem_take hx)
            · rw [List.mem_singleton.mp hx]; exact hd'
          · exact hup x (List.mem_of_mem_drop hx)
  · simp only [SSeq, SNil, SIf, SRet, SSet, SAsg, SPar, SMuL, SApp, SExt, SPut, SFz, frzR, SNo, TVar, TC, TOp, TB, TNil, TCons, TTup, TLst, TKey, oIx, seqOf, TAnd, TOr, TNot, TAndV, TOrV, TNotV, TIf, TCB, cLen, cAbs, cMax2, cMin2, cAll, cList, cTuple, cInt, TIsi, isD, tyD, TCall, TChain, TLc, TLc0, SFor, ISeq, IRg1, IRg2, IZip, TSl, TPs, TPn, slD, cut1, opII, opI0, TNeg, oAdd, oIsN, oNotN, oIsB, opEq, eqD, getS, startR, GName, GNil, GCons, GTup, List.map_cons, List.map_nil, List.length_cons, List.length_nil, List.cons_append, List.nil_append, List.set_cons_zero, List.set_cons_succ, List.replicate, List.append_nil, Option.map_some, Bool.not_true, Bool.not_false, Bool.false_eq_true, if_true, if_false, ite_true, ite_false, reduceIte, Nat.sub_self, Nat.reduceAdd, Nat.reduceSub, Bool.or_true, Bool.or_false, Bool.true_or, Bool.false_or, Bool.and_true, Bool.and_false, decide_true, decide_false, List.getElem?_cons_zero, List.getElem?_cons_succ, Option.some.injEq, exists_eq_left', exists_eq_left, true_and, and_true, at0, at1, at2, at3, List.length_map, List.cons.injEq, Int.cast_ofNat_Int, Int.reduceEq, Int.reduceLT, Int.reduceLE, D.int.injEq, D.str.injEq, D.bl.injEq, D.tup.injEq, D.lst.injEq, exists_const, Int.zero_add, Nat.zero_add, Int.natCast_add, Int.natCast_one, Int.reduceAdd, sp_l_draw]
    exact ⟨by omega, fun r _ _ => hodd _ (by omega)⟩
abbrev s_l_leaf : Stmt := top 80
theorem sc_l_leaf : FnScope ["_law_tape_here", "_law_case", "_law_many", "_law_held", "_law_free", "_law_some", "_law_box", "_law_found", "_law_sides", "_law_t", "_law_is_over"] ["_law_tape_here", "_law_case", "_law_many", "_law_held", "_law_free"] (defScope s_l_leaf) := ⟨rfl, rfl, rfl, by decide +kernel, rfl, by decide +kernel, by decide +kernel⟩
theorem ok_l_leaf (F0 : Df K mg "_law_leaf" s_l_leaf) (B : Bt mg) (C : Cs K w mg) (h_l_low : Has Pr w K mg base "_law_low" ["_law_top", "_law_bottom"] k_l_low sp_l_low) (h_l_draw : Has Pr w K mg base "_law_draw" ["_law_tape_here", "_law_many"] k_l_draw sp_l_draw) (h_l_boxes : Has Pr w K mg base "_law_boxes" ["_law_case"] k_l_boxes sp_l_boxes) (h_l_shown : Has Pr w K mg base "_law_shown" ["_law_case", "_law_many", "_law_held", "_law_free", "_law_box", "_law_is_over"] k_l_shown sp_l_shown) : Has Pr w K mg base "_law_leaf" ["_law_tape_here", "_law_case", "_law_many", "_law_held", "_law_free"] k_l_leaf sp_l_leaf := by
  have sc := sc_l_leaf
  refine has_mk (k := _) F0 sc (fun _ _ _ _ _ _ us hl => match us, hl with | [_, _, _, _, _], _ => rfl) len_l_leaf (fun f cdv A outer s H E hr => ⟨_,
    (bCons (sIf (bGt (vLen B.len (aCons (vN 3) aNil)) (vN 2))
      (bOne (sRet (vTup (aCons (vTup (aCons vS aNil)) (aCons vO aNil)))))
      bNil)
    (bCons (sIf (bLt (vAdd (vLen B.len (aCons (vN 3) aNil)) (vLen B.len (aCons (vN 4) aNil))) (vN 2))
      (bOne (sRet (vTup (aCons (vTup (aCons vS aNil)) (aCons vO aNil)))))
      bNil)
    (bCons (sMuL 5 sc.nd aNil)
    (bCons (sFor .never (iL (vCall h_l_boxes hr (aCons (vN 1) aNil))) (gN 6 sc.nd)
      (bOne (sExt 5 (vLc (own := [("_law_is_over", 10)]) sc.nd (iL (vLst (aCons vB (aCons vB aNil)))) (fun _ _ _ _ _ => (gN 10 sc.nd)) (fun _ _ _ _ _ => tN) (fun _ _ _ _ _ => (vTup (aCons (vCall h_l_shown hr (aCons (vN 1) (aCons (vN 2) (aCons (vN 3) (aCons (vN 4) (aCons (vN 6) (aCons (vN 10) aNil))))))) (aCons (vN 10) (aCons (vN 6) aNil)))))))))
    (bCons (sFz 5 (sSet 7 sc.nd (vMaxD hr B.max (aCons (vN 5) aNil))))
    (bCons (sIf (bEq hr (vCall h_l_draw hr (aCons (vN 0) (aCons vI aNil))) vI)
      (bOne (sFz 5 (sSet 7 sc.nd (vIx (vN 5) (vCall h_l_draw hr (aCons (vN 0) (aCons (vLen B.len (aCons (vN 5) aNil)) aNil)))))))
      bNil)
    (bCons (sSet 8 sc.nd (vTuple B.tuple (aCons (vLc (own := [("_law_t", 9)]) sc.nd (iT (vIx (vN 7) vI)) (fun _ _ _ _ _ => (gN 9 sc.nd)) (fun _ _ _ _ _ => tN) (fun _ _ _ _ _ => (vTup (aCons vS (aCons (vCall h_l_low hr (aCons (vN 9) (aCons (vIx (vN 1) vI) aNil))) aNil))))) aNil)))
    (bOne (sRet (vTup (aCons (vTup (aCons (vIx (vLst (aCons vS (aCons vS aNil))) (vInt B.int (aCons (vIx (vN 7) vI) aNil))) (aCons (vN 8) aNil))) (aCons (vIx (vN 7) vI) aNil)))))))))))), ?_⟩)
  rintro _ n P ⟨b, rows, m, held, free, rfl, hr, h1, h3, hh, hf, hn, h⟩
  have hb : 0 < b := by have := hr.b9; omega
  have hb2 := hr.b997
  have sz2 : 2 ≤ sizeLine := sz8 (by omega)
  simp only [SSeq, SNil, SIf, SRet, SSet, SAsg, SPar, SMuL, SApp, SExt, SPut, SFz, frzR, SNo, TVar, TC, TOp, TB, TNil, TCons, TTup, TLst, TKey, oIx, seqOf, TAnd, TOr, TNot, TAndV, TOrV, TNotV, TIf, TCB, cLen, cAbs, cMax2, cMin2, cAll, cList, cTuple, cInt, TIsi, isD, tyD, TCall, TChain, TLc, TLc0, ISeq, IRg1, IRg2, IZip, TSl, TPs, TPn, slD, cut1, opII, opI0, TNeg, oAdd, oIsN, oNotN, oIsB, opEq, getS, startR, GName, GNil, GCons, GTup, List.map_cons, List.map_nil, List.length_cons, List.length_nil, List.cons_append, List.nil_append, List.set_cons_zero, List.set_cons_succ, List.replicate, List.append_nil, Option.map_some, Bool.not_true, Bool.not_false, Bool.false_eq_true, if_true, if_false, ite_true, ite_false, reduceIte, Nat.sub_self, Nat.reduceAdd, Nat.reduceSub, Bool.or_true, Bool.or_false, Bool.true_or, Bool.false_or, Bool.and_true, Bool.and_false, decide_true, decide_false, List.getElem?_cons_zero, List.getElem?_cons_succ, Option.some.injEq, exists_eq_left', exists_eq_left, true_and, and_true, at0, at1, at2, at3, List.length_map, List.cons.injEq, Int.cast_ofNat_Int, Int.reduceEq, Int.reduceLT, Int.reduceLE, D.int.injEq, D.str.injEq, D.bl.injEq, D.tup.injEq, D.lst.injEq, exists_const, Int.zero_add, Nat.zero_add, Int.natCast_add, Int.natCast_one, Int.reduceAdd, caseD, intsD]
  refine ite2 (fun e1 => ⟨sz8 (by omega), sz2, ?_⟩) (fun e1 => ite2 (fun e2 => ⟨sz8 (by omega), sz2, ?_⟩) (fun e2 => ?_))
  · refine h (.tup [.str "many"]) none n (fun f v _ => ?_) ⟨by simp, fun d hd => ?_⟩ (by omega)
    · rw [go_many]
      simp only [decide_eq_true_eq] at e1
      unfold leafB
      rw [if_pos rfl]
      exact decide_eq_true (by omega)
    · rw [List.mem_singleton.mp hd]
      show PyData.strOk "many" = true
      decide +kernel
  · refine h (.tup [.str "few"]) none n (fun f v _ => ?_) ⟨by simp, fun d hd => ?_⟩ (by omega)
    · rw [go_few]
      simp only [decide_eq_true_eq] at e2
      unfold leafB
      rw [if_neg (by decide), if_pos rfl]
      exact decide_eq_true (by omega)
    · rw [List.mem_singleton.mp hd]
      show PyData.strOk "few" = true
      decide +kernel
  · refine ⟨Nat.zero_le _, ?_⟩
    have hbl := boxes_len hr
    refine for_mk ((boxesI b rows).map tupI) n (fun i ρ n' => Eqn n' n ∧ ∃ r : Rho, ρ = .val .tape :: .val (caseD b rows) :: .val (.int m) :: .val (intsD held) :: .val (intsD free) :: .mu (.lst ((((boxesI b rows).take i).flatMap fun ts => [(ts, true), (ts, false)]).map (candL b rows m held free))) :: r ∧ r.length = 5)
      (fun P hP => ?_) ⟨rfl, _, rfl, rfl⟩ ?_ ?_
    · simp only [SSeq, SNil, SIf, SRet, SSet, SAsg, SPar, SMuL, SApp, SExt, SPut, SFz, frzR, SNo, TVar, TC, TOp, TB, TNil, TCons, TTup, TLst, TKey, oIx, seqOf, TAnd, TOr, TNot, TAndV, TOrV, TNotV, TIf, TCB, cLen, cAbs, cMax2, cMin2, cAll, cList, cTuple, cInt, TIsi, isD, tyD, TCall, TChain, TLc, TLc0, SFor, ISeq, IRg1, IRg2, IZip, TSl, TPs, TPn, slD, cut1, opII, opI0, TNeg, oAdd, oIsN, oNotN, oIsB, opEq, eqD, getS, startR, GName, GNil, GCons, GTup, List.map_cons, List.map_nil, List.length_cons, List.length_nil, List.cons_append, List.nil_append, List.set_cons_zero, List.set_cons_succ, List.replicate, List.append_nil, Option.map_some, Bool.not_true, Bool.not_false, Bool.false_eq_true, if_true, if_false, ite_true, ite_false, reduceIte, Nat.sub_self, Nat.reduceAdd, Nat.reduceSub, Bool.or_true, Bool.or_false, Bool.true_or, Bool.false_or, Bool.and_true, Bool.and_false, decide_true, decide_false, List.getElem?_cons_zero, List.getElem?_cons_succ, Option.some.injEq, exists_eq_left', exists_eq_left, true_and, and_true, at0, at1, at2, at3, List.length_map, List.cons.injEq, Int.cast_ofNat_Int, Int.reduceEq, Int.reduceLT, Int.reduceLE, D.int.injEq, D.str.injEq, D.bl.injEq, D.tup.injEq, D.lst.injEq, exists_const, Int.zero_add, Nat.zero_add, Int.natCast_add, Int.natCast_one, Int.reduceAdd, sp_l_boxes]
      exact ⟨b, rows, rfl, hr, hP⟩
    · rintro ρ n' ⟨rfl, r, rfl, hrl⟩
      match r, hrl with
      | [r0, r1, r2, r3, r4], _ =>
      rw [List.length_map, List.take_length]
      obtain ⟨p1, p2, p3⟩ := cands_ok b rows m held free (leafCs b rows)
      have hne : (leafCs b rows).map (candL b rows m held free) ≠ [] := by
        intro e
        rw [List.map_eq_nil_iff] at e
        unfold leafCs at e
        cases hbx : boxesI b rows with
        | nil => exact boxes_ne hbx
        | cons x l => rw [hbx] at e; cases e
      have fin : ∀ d ∈ (leafCs b rows).map (candL b rows m held free), ∀ n2, n2 ≤ n' + 2 → SSeq (SSet 8 (TCB cTuple (TCons (TLc (ISeq false (TOp oIx (TVar 7) (TC (.int 2)))) (GName 9) TYes (TTup (TCons (TC (.str "to")) (TCons (TCall sp_l_low (TCons (TVar 9) (TCons (TOp oIx (TVar 1) (TC (.int 0))) TNil))) TNil))) [9]) TNil)))
          (SRet (TTup (TCons (TTup (TCons (TOp oIx (TLst (TCons (TC (.str "lack")) (TCons (TC (.str "over")) TNil))) (TCB cInt (TCons (TOp oIx (TVar 7) (TC (.int 1))) TNil))) (TCons (TVar 8) TNil))) (TCons (TOp oIx (TVar 7) (TC (.int 0))) TNil))))
          { nx := fun x n' => P .non n', rt := P } [.val .tape, .val (caseD b rows), .val (.int m), .val (intsD held), .val (intsD free), .val (.lst ((leafCs b rows).map (candL b rows m held free))), r0, .val d, r2, r3, r4] n2 := fun d hd n2 hn2 => by
        obtain ⟨c, hc, rfl⟩ := List.mem_map.mp hd
        obtain ⟨ts, hts, hc2⟩ := List.mem_flatMap.mp hc
        have hc1 : c.1 = ts := by
          simp only [List.mem_cons, List.not_mem_nil, or_false] at hc2
          rcases hc2 with rfl | rfl <;> rfl
        have ht := boxes_ts hr (hc1 ▸ hts : c.1 ∈ boxesI b rows)
        obtain ⟨ts2, o⟩ := c
        have htl := ht.len
        have hs2 := hr.s2
        dsimp only at ht htl
        simp only [SSeq, SNil, SIf, SRet, SSet, SAsg, SPar, SMuL, SApp, SExt, SPut, SFz, frzR, SNo, TVar, TC, TOp, TB, TNil, TCons, TTup, TLst, TKey, oIx, seqOf, TAnd, TOr, TNot, TAndV, TOrV, TNotV, TIf, TCB, cLen, cAbs, cMax2, cMin2, cAll, cList, cTuple, cInt, TIsi, isD, tyD, TCall, TChain, TLc, TLc0, SFor, ISeq, IRg1, IRg2, IZip, TSl, TPs, TPn, slD, cut1, opII, opI0, TNeg, oAdd, oIsN, oNotN, oIsB, opEq, eqD, getS, startR, GName, GNil, GCons, GTup, List.map_cons, List.map_nil, List.length_cons, List.length_nil, List.cons_append, List.nil_append, List.set_cons_zero, List.set_cons_succ, List.replicate, List.append_nil, Option.map_some, Bool.not_true, Bool.not_false, Bool.false_eq_true, if_true, if_false, ite_true, ite_false, reduceIte, Nat.sub_self, Nat.reduceAdd, Nat.reduceSub, Bool.or_true, Bool.or_false, Bool.true_or, Bool.false_or, Bool.and_true, Bool.and_false, decide_true, decide_false, List.getElem?_cons_zero, List.getElem?_cons_succ, Option.some.injEq, exists_eq_left', exists_eq_left, true_and, and_true, at0, at1, at2, at3, List.length_map, List.cons.injEq, Int.cast_ofNat_Int, Int.reduceEq, Int.reduceLT, Int.reduceLE, D.int.injEq, D.str.injEq, D.bl.injEq, D.tup.injEq, D.lst.injEq, exists_const, Int.zero_add, Nat.zero_add, Int.natCast_add, Int.natCast_one, Int.reduceAdd, candL, tupI, caseD]
        refine lc_mapF ts2 D.int (fun t => sideD (fb b t)) (sz8 (by omega)) (fun t ht2 Q hQ => ?_) ?_
        · simp only [SSeq, SNil, SIf, SRet, SSet, SAsg, SPar, SMuL, SApp, SExt, SPut, SFz, frzR, SNo, TVar, TC, TOp, TB, TNil, TCons, TTup, TLst, TKey, oIx, seqOf, TAnd, TOr, TNot, TAndV, TOrV, TNotV, TIf, TCB, cLen, cAbs, cMax2, cMin2, cAll, cList, cTuple, cInt, TIsi, isD, tyD, TCall, TChain, TLc, TLc0, SFor, ISeq, IRg1, IRg2, IZip, TSl, TPs, TPn, slD, cut1, opII, opI0, TNeg, oAdd, oIsN, oNotN, oIsB, opEq, eqD, getS, startR, GName, GNil, GCons, GTup, List.map_cons, List.map_nil, List.length_cons, List.length_nil, List.cons_append, List.nil_append, List.set_cons_zero, List.set_cons_succ, List.replicate, List.append_nil, Option.map_some, Bool.not_true, Bool.not_false, Bool.false_eq_true, if_true, if_false, ite_true, ite_false, reduceIte, Nat.sub_self, Nat.reduceAdd, Nat.reduceSub, Bool.or_true, Bool.or_false, Bool.true_or, Bool.false_or, Bool.and_true, Bool.and_false, decide_true, decide_false, List.getElem?_cons_zero, List.getElem?_cons_succ, Option.some.injEq, exists_eq_left', exists_eq_left, true_and, and_true, at0, at1, at2, at3, List.length_map, List.cons.injEq, Int.cast_ofNat_Int, Int.reduceEq, Int.reduceLT, Int.reduceLE, D.int.injEq, D.str.injEq, D.bl.injEq, D.tup.injEq, D.lst.injEq, exists_const, Int.zero_add, Nat.zero_add, Int.natCast_add, Int.natCast_one, Int.reduceAdd, wipeR, sp_l_low]
          exact ⟨t, b, ⟨rfl, rfl⟩, hb, by omega, sz2, hQ⟩
        have eb : D.tup (ts2.map fun t => sideD (fb b t)) = boxD (ts2.map (fb b)) := by
          unfold boxD
          rw [List.map_map]
          rfl
        have hed : ∀ q ∈ ts2.map (fb b), Ed q := fun q hq => by
          obtain ⟨t, htm, rfl⟩ := List.mem_map.mp hq
          obtain ⟨t0, t1⟩ := ht.bd t htm
          exact ed_fb hb (by omega) t0 t1
        have hok : OkU 997 4 5 (boxD (ts2.map (fb b))) := by
          refine ⟨by rw [List.length_map, List.length_map]; omega, fun d hd => ?_⟩
          obtain ⟨q, hq, rfl⟩ := List.mem_map.mp hd
          obtain ⟨t, htm, rfl⟩ := List.mem_map.mp hq
          obtain ⟨t0, t1⟩ := ht.bd t htm
          obtain ⟨f0, f1, f2⟩ := frac_bds hb t0 t1
          obtain ⟨g0, g1⟩ := num_le_den f0 f1
          refine ⟨by simp, fun d hd => ?_⟩
          simp only [List.mem_cons, List.not_mem_nil, or_false] at hd
          rcases hd with rfl | rfl
          · show PyData.strOk "to" = true
            decide +kernel
          · refine ⟨by simp, fun d hd => ?_⟩
            simp only [List.mem_cons, List.not_mem_nil, or_false] at hd
            unfold fb at hd
            rcases hd with rfl | rfl
            · exact ⟨by omega, by omega⟩
            · exact ⟨by omega, by omega⟩
        have ht0 : ∀ t ∈ ts2, 0 ≤ t := fun t h => (ht.bd t h).1
        have hcor : isCorner (gsOf b rows).length (boxD (ts2.map (fb b))) = true := corner_ok (by rw [List.length_map, gsOf, List.length_map]; exact htl) hed
        cases o with
        | true =>
          simp only [SSeq, SNil, SIf, SRet, SSet, SAsg, SPar, SMuL, SApp, SExt, SPut, SFz, frzR, SNo, TVar, TC, TOp, TB, TNil, TCons, TTup, TLst, TKey, oIx, seqOf, TAnd, TOr, TNot, TAndV, TOrV, TNotV, TIf, TCB, cLen, cAbs, cMax2, cMin2, cAll, cList, cTuple, cInt, TIsi, isD, tyD, TCall, TChain, TLc, TLc0, SFor, ISeq, IRg1, IRg2, IZip, TSl, TPs, TPn, slD, cut1, opII, opI0, TNeg, oAdd, oIsN, oNotN, oIsB, opEq, eqD, getS, startR, GName, GNil, GCons, GTup, List.map_cons, List.map_nil, List.length_cons, List.length_nil, List.cons_append, List.nil_append, List.set_cons_zero, List.set_cons_succ, List.replicate, List.append_nil, Option.map_some, Bool.not_true, Bool.not_false, Bool.false_eq_true, if_true, if_false, ite_true, ite_false, reduceIte, Nat.sub_self, Nat.reduceAdd, Nat.reduceSub, Bool.or_true, Bool.or_false, Bool.true_or, Bool.false_or, Bool.and_true, Bool.and_false, decide_true, decide_false, List.getElem?_cons_zero, List.getElem?_cons_succ, Option.some.injEq, exists_eq_left', exists_eq_left, true_and, and_true, at0, at1, at2, at3, List.length_map, List.cons.injEq, Int.cast_ofNat_Int, Int.reduceEq, Int.reduceLT, Int.reduceLE, D.int.injEq, D.str.injEq, D.bl.injEq, D.tup.injEq, D.lst.injEq, exists_const, Int.zero_add, Nat.zero_add, Int.natCast_add, Int.natCast_one, Int.reduceAdd]
          refine ⟨sz2, sz2, sz2, ?_⟩
          rw [eb]
          refine h (.tup [.str "over", boxD (ts2.map (fb b))]) (some _) n2 (fun f v _ => ?_) ⟨by simp, fun d hd => ?_⟩ (by omega)
          · rw [go_over, hcor, Bool.true_and]
            exact leaf_over hb h1 htl ht0
          · simp only [List.mem_cons, List.not_mem_nil, or_false] at hd
            rcases hd with rfl | rfl
            · show PyData.strOk "over" = true
              decide +kernel
            · exact hok
        | false =>
          simp only [SSeq, SNil, SIf, SRet, SSet, SAsg, SPar, SMuL, SApp, SExt, SPut, SFz, frzR, SNo, TVar, TC, TOp, TB, TNil, TCons, TTup, TLst, TKey, oIx, seqOf, TAnd, TOr, TNot, TAndV, TOrV, TNotV, TIf, TCB, cLen, cAbs, cMax2, cMin2, cAll, cList, cTuple, cInt, TIsi, isD, tyD, TCall, TChain, TLc, TLc0, SFor, ISeq, IRg1, IRg2, IZip, TSl, TPs, TPn, slD, cut1, opII, opI0, TNeg, oAdd, oIsN, oNotN, oIsB, opEq, eqD, getS, startR, GName, GNil, GCons, GTup, List.map_cons, List.map_nil, List.length_cons, List.length_nil, List.cons_append, List.nil_append, List.set_cons_zero, List.set_cons_succ, List.replicate, List.append_nil, Option.map_some, Bool.not_true, Bool.not_false, Bool.false_eq_true, if_true, if_false, ite_true, ite_false, reduceIte, Nat.sub_self, Nat.reduceAdd, Nat.reduceSub, Bool.or_true, Bool.or_false, Bool.true_or, Bool.false_or, Bool.and_true, Bool.and_false, decide_true, decide_false, List.getElem?_cons_zero, List.getElem?_cons_succ, Option.some.injEq, exists_eq_left', exists_eq_left, true_and, and_true, at0, at1, at2, at3, List.length_map, List.cons.injEq, Int.cast_ofNat_Int, Int.reduceEq, Int.reduceLT, Int.reduceLE, D.int.injEq, D.str.injEq, D.bl.injEq, D.tup.injEq, D.lst.injEq, exists_const, Int.zero_add, Nat.zero_add, Int.natCast_add, Int.natCast_one, Int.reduceAdd]
          refine ⟨sz2, sz2, sz2, ?_⟩
          rw [eb]
          refine h (.tup [.str "lack", boxD (ts2.map (fb b))]) (some _) n2 (fun f v _ => ?_) ⟨by simp, fun d hd => ?_⟩ (by omega)
          · rw [go_lack, hcor, Bool.true_and]
            exact leaf_lack hb h1 htl ht0
          · simp only [List.mem_cons, List.not_mem_nil, or_false] at hd
            rcases hd with rfl | rfl
            · show PyData.strOk "lack" = true
              decide +kernel
            · exact hok
      have hll : ((leafCs b rows).map (candL b rows m held free)).length ≤ 1000 := by
        rw [List.length_map]
        unfold leafCs
        have : ∀ l : List (List Int), (l.flatMap fun ts => [(ts, true), (ts, false)]).length = 2 * l.length := fun l => by
          induction l with
          | nil => rfl
          | cons x l ih => rw [List.flatMap_cons, List.length_append, ih, List.length_cons]; simp; omega
        rw [this]
        omega
      simp only [SSeq, SNil, SIf, SRet, SSet, SAsg, SPar, SMuL, SApp, SExt, SPut, SFz, frzR, SNo, TVar, TC, TOp, TB, TNil, TCons, TTup, TLst, TKey, oIx, seqOf, TAnd, TOr, TNot, TAndV, TOrV, TNotV, TIf, TCB, cLen, cAbs, cMax2, cMin2, cAll, cList, cTuple, cInt, TIsi, isD, tyD, TCall, TChain, TLc, TLc0, SFor, ISeq, IRg1, IRg2, IZip, TSl, TPs, TPn, slD, cut1, opII, opI0, TNeg, oAdd, oIsN, oNotN, oIsB, opEq, eqD, getS, startR, GName, GNil, GCons, GTup, List.map_cons, List.map_nil, List.length_cons, List.length_nil, List.cons_append, List.nil_append, List.set_cons_zero, List.set_cons_succ, List.replicate, List.append_nil, Option.map_some, Bool.not_true, Bool.not_false, Bool.false_eq_true, if_true, if_false, ite_true, ite_false, reduceIte, Nat.sub_self, Nat.reduceAdd, Nat.reduceSub, Bool.or_true, Bool.or_false, Bool.true_or, Bool.false_or, Bool.and_true, Bool.and_false, decide_true, decide_false, List.getElem?_cons_zero, List.getElem?_cons_succ, Option.some.injEq, exists_eq_left', exists_eq_left, true_and, and_true, at0, at1, at2, at3, List.length_map, List.cons.injEq, Int.cast_ofNat_Int, Int.reduceEq, Int.reduceLT, Int.reduceLE, D.int.injEq, D.str.injEq, D.bl.injEq, D.tup.injEq, D.lst.injEq, exists_const, Int.zero_add, Nat.zero_add, Int.natCast_add, Int.natCast_one, Int.reduceAdd] at fin
      simp only [SSeq, SNil, SIf, SRet, SSet, SAsg, SPar, SMuL, SApp, SExt, SPut, SFz, frzR, SNo, TVar, TC, TOp, TB, TNil, TCons, TTup, TLst, TKey, oIx, seqOf, TAnd, TOr, TNot, TAndV, TOrV, TNotV, TIf, TCB, cLen, cAbs, cMax2, cMin2, cAll, cList, cTuple, cInt, TIsi, isD, tyD, TCall, TChain, TLc, TLc0, SFor, ISeq, IRg1, IRg2, IZip, TSl, TPs, TPn, slD, cut1, opII, opI0, TNeg, oAdd, oIsN, oNotN, oIsB, opEq, eqD, getS, startR, GName, GNil, GCons, GTup, List.map_cons, List.map_nil, List.length_cons, List.length_nil, List.cons_append, List.nil_append, List.set_cons_zero, List.set_cons_succ, List.replicate, List.append_nil, Option.map_some, Bool.not_true, Bool.not_false, Bool.false_eq_true, if_true, if_false, ite_true, ite_false, reduceIte, Nat.sub_self, Nat.reduceAdd, Nat.reduceSub, Bool.or_true, Bool.or_false, Bool.true_or, Bool.false_or, Bool.and_true, Bool.and_false, decide_true, decide_false, List.getElem?_cons_zero, List.getElem?_cons_succ, Option.some.injEq, exists_eq_left', exists_eq_left, true_and, and_true, at0, at1, at2, at3, List.length_map, List.cons.injEq, Int.cast_ofNat_Int, Int.reduceEq, Int.reduceLT, Int.reduceLE, D.int.injEq, D.str.injEq, D.bl.injEq, D.tup.injEq, D.lst.injEq, exists_const, Int.zero_add, Nat.zero_add, Int.natCast_add, Int.natCast_one, Int.reduceAdd, MO.d, cMaxD, sp_l_draw]
      show plainL ((leafCs b rows).map (candL b rows m held free)) = true ∧ _
      refine ⟨p1, p2, hne, p3, fun d hd => ⟨by omega, fun r hr0 hr1 => ite2 (fun _ => ?_) (fun _ => fin d hd _ (by omega))⟩⟩
      have hl1 : 1 ≤ (leafCs b rows).length := by
        cases hc : leafCs b rows with
        | nil => rw [hc] at hne; exact absurd rfl hne
        | cons _ _ => simp
      rw [List.length_map] at hll
      refine ⟨(by show (1 : Int) ≤ ((leafCs b rows).length : Int); omega), (by show ((leafCs b rows).length : Int) < 1073741824; omega), by omega, fun r2 hr2 hr3 => ?_⟩
      obtain ⟨d2, hd2, hm2⟩ := atI_mem (ds := (leafCs b rows).map (candL b rows m held free)) hr2 (by rw [List.length_map]; exact hr3)
      exact ⟨d2, hd2, fin d2 hm2 _ (by omega)⟩
    · rintro i d ρ n' hd ⟨rfl, r, rfl, hrl⟩ NX hNX BK
      match r, hrl with
      | [r0, r1, r2, r3, r4], _ =>
      rw [List.getElem?_map] at hd
      obtain ⟨ts, hti, rfl⟩ := Option.map_eq_some_iff.mp hd
      have ht := boxes_ts hr (List.mem_of_getElem? hti)
      have hi := len_at hti
      simp only [SSeq, SNil, SIf, SRet, SSet, SAsg, SPar, SMuL, SApp, SExt, SPut, SFz, frzR, SNo, TVar, TC, TOp, TB, TNil, TCons, TTup, TLst, TKey, oIx, seqOf, TAnd, TOr, TNot, TAndV, TOrV, TNotV, TIf, TCB, cLen, cAbs, cMax2, cMin2, cAll, cList, cTuple, cInt, TIsi, isD, tyD, TCall, TChain, TLc, TLc0, SFor, ISeq, IRg1, IRg2, IZip, TSl, TPs, TPn, slD, cut1, opII, opI0, TNeg, oAdd, oIsN, oNotN, oIsB, opEq, eqD, getS, startR, GName, GNil, GCons, GTup, List.map_cons, List.map_nil, List.length_cons, List.length_nil, List.cons_append, List.nil_append, List.set_cons_zero, List.set_cons_succ, List.replicate, List.append_nil, Option.map_some, Bool.not_true, Bool.not_false, Bool.false_eq_true, if_true, if_false, ite_true, ite_false, reduceIte, Nat.sub_self, Nat.reduceAdd, Nat.reduceSub, Bool.or_true, Bool.or_false, Bool.true_or, Bool.false_or, Bool.and_true, Bool.and_false, decide_true, decide_false, List.getElem?_cons_zero, List.getElem?_cons_succ, Option.some.injEq, exists_eq_left', exists_eq_left, true_and, and_true, at0, at1, at2, at3, List.length_map, List.cons.injEq, Int.cast_ofNat_Int, Int.reduceEq, Int.reduceLT, Int.reduceLE, D.int.injEq, D.str.injEq, D.bl.injEq, D.tup.injEq, D.lst.injEq, exists_const, Int.zero_add, Nat.zero_add, Int.natCast_add, Int.natCast_one, Int.reduceAdd, sp_l_shown]
      have hfl : ∀ l : List (List Int), (l.flatMap fun ts => [(ts, true), (ts, false)]).length = 2 * l.length := fun l => by
        induction l with
        | nil => rfl
        | cons x l ih => rw [List.flatMap_cons, List.length_append, ih, List.length_cons]; simp; omega
      refine ⟨sz2, ?_⟩
      refine lc_mapF [true, false] D.bl (fun o => candL b rows m held free (ts, o)) (sz8 (by simp)) (fun o _ Q hQ => ?_) ?_
      · simp only [SSeq, SNil, SIf, SRet, SSet, SAsg, SPar, SMuL, SApp, SExt, SPut, SFz, frzR, SNo, TVar, TC, TOp, TB, TNil, TCons, TTup, TLst, TKey, oIx, seqOf, TAnd, TOr, TNot, TAndV, TOrV, TNotV, TIf, TCB, cLen, cAbs, cMax2, cMin2, cAll, cList, cTuple, cInt, TIsi, isD, tyD, TCall, TChain, TLc, TLc0, SFor, ISeq, IRg1, IRg2, IZip, TSl, TPs, TPn, slD, cut1, opII, opI0, TNeg, oAdd, oIsN, oNotN, oIsB, opEq, eqD, getS, startR, GName, GNil, GCons, GTup, List.map_cons, List.map_nil, List.length_cons, List.length_nil, List.cons_append, List.nil_append, List.set_cons_zero, List.set_cons_succ, List.replicate, List.append_nil, Option.map_some, Bool.not_true, Bool.not_false, Bool.false_eq_true, if_true, if_false, ite_true, ite_false, reduceIte, Nat.sub_self, Nat.reduceAdd, Nat.reduceSub, Bool.or_true, Bool.or_false, Bool.true_or, Bool.false_or, Bool.and_true, Bool.and_false, decide_true, decide_false, List.getElem?_cons_zero, List.getElem?_cons_succ, Option.some.injEq, exists_eq_left', exists_eq_left, true_and, and_true, at0, at1, at2, at3, List.length_map, List.cons.injEq, Int.cast_ofNat_Int, Int.reduceEq, Int.reduceLT, Int.reduceLE, D.int.injEq, D.str.injEq, D.bl.injEq, D.tup.injEq, D.lst.injEq, exists_const, Int.zero_add, Nat.zero_add, Int.natCast_add, Int.natCast_one, Int.reduceAdd, wipeR, sp_l_shown]
        exact ⟨b, rows, m, held, free, ts, o, ⟨rfl, rfl, rfl, rfl, rfl, rfl⟩, hr, h1, h3, hh, hf, ht, sz8 (by omega), hQ⟩
      · refine ⟨by rw [hfl, List.length_take, List.length_map]; exact sz1000 (by simp; omega), ?_⟩
        refine hNX _ _ ⟨rfl, [.val (tupI ts), r1, r2, r3, r4], ?_, rfl⟩
        rw [take_snoc hti, List.flatMap_append, List.map_append]
        rfl
abbrev s_l_tree : Stmt := top 81
theorem sc_l_tree : FnScope ["_law_tape_here", "_law_case", "_law_many", "_law_held", "_law_free", "_law_deep", "_law_at", "_law_left", "_law_worth", "_law_one", "_law_first", "_law_other", "_law_last", "_law_x"] ["_law_tape_here", "_law_case", "_law_many", "_law_held", "_law_free", "_law_deep"] (defScope s_l_tree) := ⟨rfl, rfl, rfl, by decide +kernel, rfl, by decide +kernel, by decide +kernel⟩
theorem step_l_tree (fl : Nat) (F0 : Df K mg "_law_tree" s_l_tree) (B : Bt mg) (C : Cs K w mg) (h_l_tree : Has Pr w K mg base "_law_tree" ["_law_tape_here", "_law_case", "_law_many", "_law_held", "_law_free", "_law_deep"] (k_l_tree fl) (sp_l_tree fl)) (h_l_draw : Has Pr w K mg base "_law_draw" ["_law_tape_here", "_law_many"] k_l_draw sp_l_draw) (h_l_leaf : Has Pr w K mg base "_law_leaf" ["_law_tape_here", "_law_case", "_law_many", "_law_held", "_law_free"] k_l_leaf sp_l_leaf) : Has Pr w K mg base "_law_tree" ["_law_tape_here", "_law_case", "_law_many", "_law_held", "_law_free", "_law_deep"] (k_l_tree (fl + 1)) (sp_l_tree (fl + 1)) := by
  have sc := sc_l_tree
  refine has_mk (k := _) F0 sc (fun _ _ _ _ _ _ us hl => match us, hl with | [_, _, _, _, _, _], _ => rfl) (len_l_tree (fl + 1)) (fun f cdv A outer s H E hr => ⟨_,
    (bCons (sIf (bW (wOr (bLt (vN 5) vI) (wOr (bEq hr (vN 4) (vLst aNil)) (wOr (bGt (vLen B.len (aCons (vN 3) aNil)) (vN 2)) (wOr1 (bLt (vAdd (vLen B.len (aCons (vN 3) aNil)) (vLen B.len (aCons (vN 4) aNil))) (vN 2)))))))
      (bOne (sRet (vCall h_l_leaf hr (aCons (vN 0) (aCons (vN 1) (aCons (vN 2) (aCons (vN 3) (aCons (vN 4) aNil))))) (hj := Nat.le_trans (by decide) (Nat.le_add_left _ _)))))
      bNil)
    (bCons (sSet 6 sc.nd (vCall h_l_draw hr (aCons (vN 0) (aCons (vLen B.len (aCons (vN 4) aNil)) aNil)) (hj := Nat.le_trans (by decide) (Nat.le_add_left _ _))))
    (bCons (sSet 7 sc.nd (vAdd (vSl (vN 4) oN (oS (vN 6))) (vSl (vN 4) (oS (vAdd (vN 6) vI)) oN)))
    (bCons (sAsg (vCall h_l_tree hr (aCons (vN 0) (aCons (vN 1) (aCons (vN 2) (aCons (vAdd (vN 3) (vLst (aCons (vIx (vN 4) (vN 6)) aNil))) (aCons (vN 7) (aCons (vSub (vN 5) vI) aNil)))))) (hj := Nat.le_refl _)) (gTup (m := 2) (gCons (gN 9 sc.nd) (gCons (gN 10 sc.nd) gNil))))
    (bCons (sAsg (vCall h_l_tree hr (aCons (vN 0) (aCons (vN 1) (aCons (vN 2) (aCons (vN 3) (aCons (vN 7) (aCons (vSub (vN 5) vI) aNil)))))) (hj := Nat.le_refl _)) (gTup (m := 2) (gCons (gN 11 sc.nd) (gCons (gN 12 sc.nd) gNil))))
    (bCons (sLc 8 (own := [("_law_x", 13)]) sc.nd (iL (vLst (aCons (vN 10) (aCons (vN 12) aNil)))) (fun _ _ _ _ _ => (gN 13 sc.nd)) (fun _ _ _ _ _ => t1 (bNotN (vN 13) vO)) (fun _ _ _ _ _ => (vN 13)))
    (bOne (sRet (vTup (aCons (vTup (aCons vS (aCons (vIx (vN 4) (vN 6)) (aCons (vN 9) (aCons (vN 11) aNil))))) (aCons (vIf (bNe hr (vN 8) (vLst aNil)) (vMinL B.min (aCons (vN 8) aNil)) vO) aNil))))))))))), ?_⟩)
  rintro _ n P ⟨b, rows, m, held, free, deep, rfl, hR, h1, h3, hh, hf, hnd, h8, hdp, hn, h⟩
  have pw : 1 ≤ 2 ^ fl := Nat.one_le_two_pow
  have leaf : sp_l_leaf [.tape, caseD b rows, .int m, .lst (held.map D.int), .lst (free.map D.int)] n P :=
    ⟨b, rows, m, held, free, rfl, hR, h1, h3, hh, hf, by omega, fun d o n' hs hd hn' => h d o n' hs (OkU.mono (Nat.le_refl _) (Nat.le_refl _) hd (by omega)) (by omega)⟩
  simp only [SSeq, SNil, SIf, SRet, SSet, SAsg, SPar, SMuL, SApp, SExt, SPut, SFz, frzR, SNo, TVar, TC, TOp, TB, TNil, TCons, TTup, TLst, TKey, oIx, seqOf, TAnd, TOr, TNot, TAndV, TOrV, TNotV, TIf, TCB, cLen, cAbs, cMax2, cMin2, cAll, cList, cTuple, cInt, TIsi, isD, tyD, TCall, TChain, TLc, TLc0, SFor, ISeq, IRg1, IRg2, IZip, TSl, TPs, TPn, slD, cut1, opII, opI0, TNeg, oAdd, oIsN, oNotN, oIsB, opEq, getS, startR, GName, GNil, GCons, GTup, List.map_cons, List.map_nil, List.length_cons, List.length_nil, List.cons_append, List.nil_append, List.set_cons_zero, List.set_cons_succ, List.replicate, List.append_nil, Option.map_some, Bool.not_true, Bool.not_false, Bool.false_eq_true, if_true, if_false, ite_true, ite_false, reduceIte, Nat.sub_self, Nat.reduceAdd, Nat.reduceSub, Bool.or_true, Bool.or_false, Bool.true_or, Bool.false_or, Bool.and_true, Bool.and_false, decide_true, decide_false, List.getElem?_cons_zero, List.getElem?_cons_succ, Option.some.injEq, exists_eq_left', exists_eq_left, true_and, and_true, at0, at1, at2, at3, List.length_map, List.cons.injEq, Int.cast_ofNat_Int, Int.reduceEq, Int.reduceLT, Int.reduceLE, D.int.injEq, D.str.injEq, D.bl.injEq, D.tup.injEq, D.lst.injEq, exists_const, Int.zero_add, Nat.zero_add, Int.natCast_add, Int.natCast_one, Int.reduceAdd, sp_l_draw, eqD_lst0, eqD_int, intsD]
  refine ite2 (fun _ => leaf) (fun e0 => ⟨Nat.zero_le _, plain_ints free, shaped_ints free, ite2 (fun _ => leaf) (fun e1 => ite2 (fun _ => leaf) (fun e2 => ite2 (fun _ => leaf) (fun e3 => ?_)))⟩)
  have hfp : 1 ≤ free.length := by
    cases free with
    | nil => simp at e1
    | cons _ _ => simp
  have hdeep : 1 ≤ deep := by simp at e0; omega
  refine ⟨by omega, by omega, by omega, fun a ha0 ha1 => ?_⟩
  obtain ⟨A, rfl⟩ := Int.eq_ofNat_of_zero_le ha0
  have hA : A < free.length := by omega
  have eA : (A : Int) + 1 = ((A + 1 : Nat) : Int) := by omega
  rw [eA]
  simp only [cut_take, cut_drop]
  have ed : atI (free.map D.int) (A : Int) = some (.int free[A]) := by
    rw [atI_nat, List.getElem?_map, List.getElem?_eq_getElem hA]; rfl
  have ell : (free.map D.int).take A ++ (free.map D.int).drop (A + 1) = (free.filter fun k => decide (k ≠ free[A])).map D.int := by
    rw [List.map_take.symm, List.map_drop.symm, ← List.map_append]
    congr 1
    exact (filt_nodup hnd hA).symm
  have hfl2 := filt_len (List.getElem_mem hA)
  have hk1 : OkK rows (held ++ [free[A]]) := ⟨by rw [List.length_append, List.length_singleton]; omega, fun k hk => (List.mem_append.mp hk).elim (hh.at_ k) (fun z => by rw [List.mem_singleton.mp z]; exact hf.at_ _ (List.getElem_mem hA))⟩
  have hk2 : OkK rows (free.filter fun k => decide (k ≠ free[A])) := ⟨by omega, fun k hk => hf.at_ k (List.mem_filter.mp hk).1⟩
  have hnd2 : (free.filter fun k => decide (k ≠ free[A])).Nodup := hnd.filter _
  cases fl with
  | zero => omega
  | succ g =>
    have pg : 2 ^ (g + 1) = 2 * 2 ^ g := by rw [Nat.pow_succ]; omega
    have pg1 : 1 ≤ 2 ^ g := Nat.one_le_two_pow
    refine ⟨?_, .int free[A], ed, sz8 (by omega), sz1000 (by omega), ?_⟩
    · rw [← List.length_append, ell, List.length_map]
      exact sz1000 (by omega)
    rw [ell]
    refine ⟨b, rows, m, held ++ [free[A]], free.filter (fun k => decide (k ≠ free[A])), deep - 1, ?_, hR, h1, h3, hk1, hk2, hnd2, by rw [List.length_append, List.length_singleton]; omega, by omega, by omega, fun d1 o1 n1 hs1 hd1 hn1 => ?_⟩
    · rw [intsD, intsD, List.map_append]; rfl
    simp only [SSeq, SNil, SIf, SRet, SSet, SAsg, SPar, SMuL, SApp, SExt, SPut, SFz, frzR, SNo, TVar, TC, TOp, TB, TNil, TCons, TTup, TLst, TKey, oIx, seqOf, TAnd, TOr, TNot, TAndV, TOrV, TNotV, TIf, TCB, cLen, cAbs, cMax2, cMin2, cAll, cList, cTuple, cInt, TIsi, isD, tyD, TCall, TChain, TLc, TLc0, SFor, ISeq, IRg1, IRg2, IZip, TSl, TPs, TPn, slD, cut1, opII, opI0, TNeg, oAdd, oIsN, oNotN, oIsB, opEq, getS, startR, GName, GNil, GCons, GTup, List.map_cons, List.map_nil, List.length_cons, List.length_nil, List.cons_append, List.nil_append, List.set_cons_zero, List.set_cons_succ, List.replicate, List.append_nil, Option.map_some, Bool.not_true, Bool.not_false, Bool.false_eq_true, if_true, if_false, ite_true, ite_false, reduceIte, Nat.sub_self, Nat.reduceAdd, Nat.reduceSub, Bool.or_true, Bool.or_false, Bool.true_or, Bool.false_or, Bool.and_true, Bool.and_false, decide_true, decide_false, List.getElem?_cons_zero, List.getElem?_cons_succ, Option.some.injEq, exists_eq_left', exists_eq_left, true_and, and_true, at0, at1, at2, at3, List.length_map, List.cons.injEq, Int.cast_ofNat_Int, Int.reduceEq, Int.reduceLT, Int.reduceLE, D.int.injEq, D.str.injEq, D.bl.injEq, D.tup.injEq, D.lst.injEq, exists_const, Int.zero_add, Nat.zero_add, Int.natCast_add, Int.natCast_one, Int.reduceAdd, sp_l_draw, eqD_lst0, eqD_int, intsD]
    refine ⟨b, rows, m, held, free.filter (fun k => decide (k ≠ free[A])), deep - 1, rfl, hR, h1, h3, hh, hk2, hnd2, by omega, by omega, by omega, fun d2 o2 n2 hs2 hd2 hn2 => ?_⟩
    simp only [SSeq, SNil, SIf, SRet, SSet, SAsg, SPar, SMuL, SApp, SExt, SPut, SFz, frzR, SNo, TVar, TC, TOp, TB, TNil, TCons, TTup, TLst, TKey, oIx, seqOf, TAnd, TOr, TNot, TAndV, TOrV, TNotV, TIf, TCB, cLen, cAbs, cMax2, cMin2, cAll, cList, cTuple, cInt, TIsi, isD, tyD, TCall, TChain, TLc, TLc0, SFor, ISeq, IRg1, IRg2, IZip, TSl, TPs, TPn, slD, cut1, opII, opI0, TNeg, oAdd, oIsN, oNotN, oIsB, opEq, getS, startR, GName, GNil, GCons, GTup, List.map_cons, List.map_nil, List.length_cons, List.length_nil, List.cons_append, List.nil_append, List.set_cons_zero, List.set_cons_succ, List.replicate, List.append_nil, Option.map_some, Bool.not_true, Bool.not_false, Bool.false_eq_true, if_true, if_false, ite_true, ite_false, reduceIte, Nat.sub_self, Nat.reduceAdd, Nat.reduceSub, Bool.or_true, Bool.or_false, Bool.true_or, Bool.false_or, Bool.and_true, Bool.and_false, decide_true, decide_false, List.getElem?_cons_zero, List.getElem?_cons_succ, Option.some.injEq, exists_eq_left', exists_eq_left, true_and, and_true, at0, at1, at2, at3, List.length_map, List.cons.injEq, Int.cast_ofNat_Int, Int.reduceEq, Int.reduceLT, Int.reduceLE, D.int.injEq, D.str.injEq, D.bl.injEq, D.tup.injEq, D.lst.injEq, exists_const, Int.zero_add, Nat.zero_add, Int.natCast_add, Int.natCast_one, Int.reduceAdd, sp_l_draw, eqD_lst0, eqD_int, intsD]
    have hU : ∀ d ∈ [D.str "take", D.int free[A], d1, d2], OkU 997 4 (g + 6) d := fun d hd => by
      simp only [List.mem_cons, List.not_mem_nil, or_false] at hd
      rcases hd with rfl | rfl | rfl | rfl
      · show PyData.strOk "take" = true
        decide +kernel
      · have := hf.at_ _ (List.getElem_mem hA)
        have := hR.len
        exact ⟨by omega, by omega⟩
      · exact hd1
      · exact hd2
    have hfin : ∀ o : Option Int, (∀ v : Int, letB o v = (letB o1 v && letB o2 v)) → P (.tup [.tup [.str "take", .int free[A], d1, d2], oD o]) n2 := fun o ho => by
      refine h _ o n2 (fun f v hfv => ?_) ⟨by simp, hU⟩ (by omega)
      cases f with
      | zero => omega
      | succ f =>
        rw [go_take, decide_eq_true (List.getElem_mem hA), Bool.true_and, hs1 f v (by omega), hs2 f v (by omega)]
        exact (ho v).symm
    refine ⟨sz8 (by omega), ?_⟩
    refine lc_filtF [o1, o2] oD Option.isSome oD (sz8 (by simp)) (fun o _ Q Q0 q1 q2 => ?_) ?_
    · cases o with
      | none => simp only [SSeq, SNil, SIf, SRet, SSet, SAsg, SPar, SMuL, SApp, SExt, SPut, SFz, frzR, SNo, TVar, TC, TOp, TB, TNil, TCons, TTup, TLst, TKey, oIx, seqOf, TAnd, TOr, TNot, TAndV, TOrV, TNotV, TIf, TCB, cLen, cAbs, cMax2, cMin2, cAll, cList, cTuple, cInt, TIsi, isD, tyD, TCall, TChain, TLc, TLc0, SFor, ISeq, IRg1, IRg2, IZip, TSl, TPs, TPn, slD, cut1, opII, opI0, TNeg, oAdd, oIsN, oNotN, oIsB, opEq, eqD, getS, startR, GName, GNil, GCons, GTup, List.map_cons, List.map_nil, List.length_cons, List.length_nil, List.cons_append, List.nil_append, List.set_cons_zero, List.set_cons_succ, List.replicate, List.append_nil, Option.map_some, Bool.not_true, Bool.not_false, Bool.false_eq_true, if_true, if_false, ite_true, ite_false, reduceIte, Nat.sub_self, Nat.reduceAdd, Nat.reduceSub, Bool.or_true, Bool.or_false, Bool.true_or, Bool.false_or, Bool.and_true, Bool.and_false, decide_true, decide_false, List.getElem?_cons_zero, List.getElem?_cons_succ, Option.some.injEq, exists_eq_left', exists_eq_left, true_and, and_true, at0, at1, at2, at3, List.length_map, List.cons.injEq, Int.cast_ofNat_Int, Int.reduceEq, Int.reduceLT, Int.reduceLE, D.int.injEq, D.str.injEq, D.bl.injEq, D.tup.injEq, D.lst.injEq, exists_const, Int.zero_add, Nat.zero_add, Int.natCast_add, Int.natCast_one, Int.reduceAdd, wipeR, oD, isNonD]; exact q2 rfl
      | some w => simp only [SSeq, SNil, SIf, SRet, SSet, SAsg, SPar, SMuL, SApp, SExt, SPut, SFz, frzR, SNo, TVar, TC, TOp, TB, TNil, TCons, TTup, TLst, TKey, oIx, seqOf, TAnd, TOr, TNot, TAndV, TOrV, TNotV, TIf, TCB, cLen, cAbs, cMax2, cMin2, cAll, cList, cTuple, cInt, TIsi, isD, tyD, TCall, TChain, TLc, TLc0, SFor, ISeq, IRg1, IRg2, IZip, TSl, TPs, TPn, slD, cut1, opII, opI0, TNeg, oAdd, oIsN, oNotN, oIsB, opEq, eqD, getS, startR, GName, GNil, GCons, GTup, List.map_cons, List.map_nil, List.length_cons, List.length_nil, List.cons_append, List.nil_append, List.set_cons_zero, List.set_cons_succ, List.replicate, List.append_nil, Option.map_some, Bool.not_true, Bool.not_false, Bool.false_eq_true, if_true, if_false, ite_true, ite_false, reduceIte, Nat.sub_self, Nat.reduceAdd, Nat.reduceSub, Bool.or_true, Bool.or_false, Bool.true_or, Bool.false_or, Bool.and_true, Bool.and_false, decide_true, decide_false, List.getElem?_cons_zero, List.getElem?_cons_succ, Option.some.injEq, exists_eq_left', exists_eq_left, true_and, and_true, at0, at1, at2, at3, List.length_map, List.cons.injEq, Int.cast_ofNat_Int, Int.reduceEq, Int.reduceLT, Int.reduceLE, D.int.injEq, D.str.injEq, D.bl.injEq, D.tup.injEq, D.lst.injEq, exists_const, Int.zero_add, Nat.zero_add, Int.natCast_add, Int.natCast_one, Int.reduceAdd, wipeR, oD, isNonD]; exact q1 rfl
    refine ⟨_, ed, sz8 (by omega), Nat.zero_le _, ?_⟩
    have hmin : ∀ ws : List Int, ws ≠ [] → ∀ d1 : D, ((ws.map D.int).isEmpty = false) := fun ws hne _ => by cases ws; exact absurd rfl hne; rfl
    cases o1 with
    | none =>
      cases o2 with
      | none => exact ⟨plain_ints [], shaped_ints [], sz8 (by omega), hfin none fun v => rfl⟩
      | some w =>
        refine ⟨plain_ints [w], shaped_ints [w], [w], rfl, by simp, fun x hx _ => ⟨sz8 (by omega), ?_⟩⟩
        rw [List.mem_singleton.mp hx]
        exact hfin (some w) fun v => by simp [letB]
    | some u =>
      cases o2 with
      | none =>
        refine ⟨plain_ints [u], shaped_ints [u], [u], rfl, by simp, fun x hx _ => ⟨sz8 (by omega), ?_⟩⟩
        rw [List.mem_singleton.mp hx]
        exact hfin (some u) fun v => by simp [letB]
      | some w =>
        refine ⟨plain_ints [u, w], shaped_ints [u, w], [u, w], rfl, by simp, fun x hx hmx => ⟨sz8 (by omega), ?_⟩⟩
        refine hfin (some x) fun v => ?_
        have m1 := hmx u (by simp)
        have m2 := hmx w (by simp)
        simp only [List.mem_cons, List.not_mem_nil, or_false] at hx
        unfold letB
        rw [Bool.eq_iff_iff, Bool.and_eq_true, decide_eq_true_eq, decide_eq_true_eq, decide_eq_true_eq]
        rcases hx with rfl | rfl <;> omega
end
end Pu

/-! W10: what the checker lets by, the least by whole numbers. -/
namespace Pu
open PySem PySem.Spec PyProof.Rows L2
def plS (rows : List (List Int)) (S : List Int) : List (List Int) := S.map fun k => (prodL rows).getD k.toNat []
def NR (rows : List (List Int)) : Nat := (prodL rows).length
theorem sets_same : ∀ (N : Fin 9) (m : Fin 4), ((lawSets (N.val : Int) m.val).all fun S => decide (S ∈ setsI (N.val : Int) m.val)) && ((setsI (N.val : Int) m.val).all fun S => decide (S ∈ lawSets (N.val : Int) m.val)) = true := by
  decide +kernel
theorem mem_sets {N m : Nat} (hN : N ≤ 8) (hm : m ≤ 3) {S : List Int} : S ∈ lawSets N m ↔ S ∈ setsI N m := by
  have h := sets_same ⟨N, by omega⟩ ⟨m, by omega⟩
  simp only [Bool.and_eq_true, List.all_eq_true, decide_eq_true_eq] at h
  exact ⟨h.1 S, h.2 S⟩
theorem worstI_one {b s : Nat} {pl : List (List Int)} {v u : Int} (h : WorstI b s pl v) (k : WorstI b s pl u) : v = u := by
  obtain ⟨⟨t1, p1, e1⟩, m1⟩ := h
  obtain ⟨⟨t2, p2, e2⟩, m2⟩ := k
  obtain ⟨a1, a2⟩ := m1 t2 p2
  obtain ⟨a3, a4⟩ := m2 t1 p1
  rcases e1 with rfl | rfl <;> rcases e2 with rfl | rfl <;> omega
/-- the least of all sets -/
def LeastI (b : Nat) (rows : List (List Int)) (m : Nat) (v : Int) : Prop := (∃ S ∈ setsI (NR rows) m, WorstI b rows.length (plS rows S) v) ∧ ∀ S ∈ setsI (NR rows) m, ∀ u, WorstI b rows.length (plS rows S) u → v ≤ u
theorem okP_of {b : Nat} {rows : List (List Int)} {m : Nat} {S : List Int} (h : OkR b rows) (h1 : 1 ≤ m) (h3 : m ≤ 3) (hS : S ∈ setsI (NR rows) m) : OkP b rows.length (plS rows S) := by
  obtain ⟨hl, hi⟩ := mem_setsI.mp hS
  have hm : ∀ xs ∈ plS rows S, xs ∈ prodL rows := fun xs hx => by
    obtain ⟨k, hk, rfl⟩ := List.mem_map.mp hx
    have := inc_ge hi hk
    have hk2 : k.toNat < (prodL rows).length := by unfold NR at this; omega
    rw [List.getD_eq_getElem?_getD, List.getElem?_eq_getElem hk2]
    exact List.getElem_mem _
  have hlen : (plS rows S).length = m := by rw [plS, List.length_map, hl]
  refine ⟨h.b9, h.b997, h.s1, h.s2, by omega, by omega, fun xs hx => (mem_prodL.mp (hm xs hx)).len, fun xs hx x hxx => ?_⟩
  obtain ⟨g, hg, hxg⟩ := (mem_prodL.mp (hm xs hx)).of_mem x hxx
  exact h.nums g hg x hxg
abbrev k_l_lets : Nat := 21
def sp_l_lets : PSp := fun ds n P => ∃ (k b : Nat) (rows : List (List Int)) (m : Nat) (q : Rat) (d : D), ds = [caseD b rows, .int m, fr q, d] ∧ OkR b rows ∧ 1 ≤ m ∧ m ≤ 3 ∧ q.den < 2 ^ 64 ∧ OkT k d ∧
  P (.str (if goB (gsOf b rows) m q 8 d [] (rgI 0 (NR rows)) = true then "yes" else "no")) n
abbrev k_l_least : Nat := 3
def sp_l_least : PSp := fun ds n P => ∃ (b : Nat) (rows : List (List Int)) (m : Nat), ds = [caseD b rows, .int m] ∧ OkR b rows ∧ 1 ≤ m ∧ m ≤ 3 ∧ m ≤ NR rows ∧ ∀ v, LeastI b rows m v → P (.int v) n
theorem len_l_lets : ∀ ds n P, sp_l_lets ds n P → ds.length = (["_law_case", "_law_many", "_law_number", "_law_thing"] : List Str).length := by rintro _ n P ⟨_, _, _, _, _, _, rfl, _⟩; rfl
theorem len_l_least : ∀ ds n P, sp_l_least ds n P → ds.length = (["_law_case", "_law_many"] : List Str).length := by rintro _ n P ⟨_, _, _, rfl, _⟩; rfl
section
variable {Pr : Program} {w : World} {K : PySem.W.Frag} {mg : Str → Option Value} {base : Heap} {C CN : Addr}
abbrev s_l_lets : Stmt := top 82
theorem sc_l_lets : FnScope ["_law_case", "_law_many", "_law_number", "_law_thing", "_law_found"] ["_law_case", "_law_many", "_law_number", "_law_thing"] (defScope s_l_lets) := ⟨rfl, rfl, rfl, by decide +kernel, rfl, by decide +kernel, by decide +kernel⟩
theorem ok_l_lets (F0 : Df K mg "_law_lets" s_l_lets) (B : Bt mg) (Wk : WkF K mg C) (NP : NoP K mg CN (inClass (top 4) 0)) (C0 : Cs K w mg) (h_lets_least : HasX Pr w K mg base CN "lets_least" ["grid", "many", "number", "thing"] k_lets_least sp_lets_least) (h_l_handed : Has Pr w K mg base "_law_handed" ["_law_case"] k_l_handed sp_l_handed) : Has Pr w K mg base "_law_lets" ["_law_case", "_law_many", "_law_number", "_law_thing"] k_l_lets sp_l_lets := by
  have sc := sc_l_lets
  refine has_mk (k := _) F0 sc (fun _ _ _ _ _ _ us hl => match us, hl with | [_, _, _, _], _ => rfl) len_l_lets (fun f cdv A outer s H E hr => ⟨_,
    (bCons (sSet 4 sc.nd vS)
    (bCons (sTry 4 NP.exm NP.glo rfl rfl sc.nd rfl rfl (fun _ => rfl)
      (fun W pn xe tk => (xOne (xIfIs (xCall tk h_lets_least hr (aCons (vCall h_l_handed hr (aCons (vN 0) aNil)) (aCons (vN 1) (aCons (vN 2) (aCons (vN 3) aNil))))) (xLs (bOne (sSet 4 sc.nd vS))) (xLs bNil)))))
    (bOne (sRet (vN 4))))), ?_⟩)
  rintro _ n P ⟨k, b, rows, m, q, d, rfl, hr, h1, h3, hq, hd, h⟩
  simp only [SSeq, SNil, SIf, SRet, SSet, SAsg, SPar, SMuL, SApp, SExt, SPut, SFz, frzR, SNo, TVar, TC, TOp, TB, TNil, TCons, TTup, TLst, TKey, oIx, seqOf, TAnd, TOr, TNot, TAndV, TOrV, TNotV, TIf, TCB, cLen, cAbs, cMax2, cMin2, cAll, cList, cTuple, cInt, TIsi, isD, tyD, TCall, TChain, TLc, TLc0, SFor, ISeq, IRg1, IRg2, IZip, TSl, TPs, TPn, slD, cut1, opII, opI0, TNeg, oAdd, oIsN, oNotN, oIsB, opEq, eqD, getS, startR, GName, GNil, GCons, GTup, List.map_cons, List.map_nil, List.length_cons, List.length_nil, List.cons_append, List.nil_append, List.set_cons_zero, List.set_cons_succ, List.replicate, List.append_nil, Option.map_some, Bool.not_true, Bool.not_false, Bool.false_eq_true, if_true, if_false, ite_true, ite_false, reduceIte, Nat.sub_self, Nat.reduceAdd, Nat.reduceSub, Bool.or_true, Bool.or_false, Bool.true_or, Bool.false_or, Bool.and_true, Bool.and_false, decide_true, decide_false, List.getElem?_cons_zero, List.getElem?_cons_succ, Option.some.injEq, exists_eq_left', exists_eq_left, true_and, and_true, at0, at1, at2, at3, List.length_map, List.cons.injEq, Int.cast_ofNat_Int, Int.reduceEq, Int.reduceLT, Int.reduceLE, D.int.injEq, D.str.injEq, D.bl.injEq, D.tup.injEq, D.lst.injEq, exists_const, Int.zero_add, Nat.zero_add, Int.natCast_add, Int.natCast_one, Int.reduceAdd, XSeq, XIf, XRaise, XExp, XRet, XMeth, XCall, XIfIs, STry, TFld, TMeth, lk_wide, lk_spots, lk_many, lk_num, ne_mt, ne_ft, ne_ot, ne_lt, ne_fm, ne_om, ne_lm, ne_of, ne_lf, ne_lo, sp_l_handed, sp_lets_least]
  have e : (prodL (gsOf b rows)).length = NR rows := by rw [prod_gs, List.length_map]; rfl
  refine ⟨b, rows, rfl, hr, k, gsOf b rows, m, q, d, ⟨rfl, rfl, rfl, rfl⟩, hd, okG_of hr, h1, h3, hq, ?_⟩
  rw [e]
  cases hg : goB (gsOf b rows) m q 8 d [] (rgI 0 (NR rows)) with
  | true => rw [hg] at h; exact iteT h
  | false => rw [hg] at h; exact iteF h
abbrev s_l_least : Stmt := top 83
theorem sc_l_least : FnScope ["_law_case", "_law_many", "_law_places_here", "_law_found", "_law_some", "_law_g"] ["_law_case", "_law_many"] (defScope s_l_least) := ⟨rfl, rfl, rfl, by decide +kernel, rfl, by decide +kernel, by decide +kernel⟩
theorem ok_l_least (F0 : Df K mg "_law_least" s_l_least) (B : Bt mg) (C : Cs K w mg) (h_l_sets : Has Pr w K mg base "_law_sets" ["_law_many", "_law_of"] k_l_sets sp_l_sets) (h_l_worst : Has Pr w K mg base "_law_worst" ["_law_spots", "_law_base", "_law_family"] k_l_worst sp_l_worst) (h_l_places : Has Pr w K mg base "_law_places" ["_law_rows"] k_l_places sp_l_places) : Has Pr w K mg base "_law_least" ["_law_case", "_law_many"] k_l_least sp_l_least := by
  have sc := sc_l_least
  refine has_mk (k := _) F0 sc (fun _ _ _ _ _ _ us hl => match us, hl with | [_, _], _ => rfl) len_l_least (fun f cdv A outer s H E hr => ⟨_,
    (bCons (sSet 2 sc.nd (vCall h_l_places hr (aCons (vIx (vN 0) vI) aNil)))
    (bCons (sMuL 3 sc.nd aNil)
    (bCons (sFor .never (iL (vCall h_l_sets hr (aCons (vN 1) (aCons (vLen B.len (aCons (vN 2) aNil)) aNil)))) (gN 4 sc.nd)
      (bOne (sApp 3 (vCall h_l_worst hr (aCons (vLc (own := [("_law_g", 5)]) sc.nd (iT (vN 4)) (fun _ _ _ _ _ => (gN 5 sc.nd)) (fun _ _ _ _ _ => tN) (fun _ _ _ _ _ => (vIx (vN 2) (vN 5)))) (aCons (vIx (vN 0) vI) (aCons vS aNil)))))))
    (bOne (sFz 3 (sRet (vMinL B.min (aCons (vN 3) aNil)))))))), ?_⟩)
  rintro _ n P ⟨b, rows, m, rfl, hr, h1, h3, hN, h⟩
  have hN8 : NR rows ≤ 8 := hr.len
  simp only [SSeq, SNil, SIf, SRet, SSet, SAsg, SPar, SMuL, SApp, SExt, SPut, SFz, frzR, SNo, TVar, TC, TOp, TB, TNil, TCons, TTup, TLst, TKey, oIx, seqOf, TAnd, TOr, TNot, TAndV, TOrV, TNotV, TIf, TCB, cLen, cAbs, cMax2, cMin2, cAll, cList, cTuple, cInt, TIsi, isD, tyD, TCall, TChain, TLc, TLc0, ISeq, IRg1, IRg2, IZip, TSl, TPs, TPn, slD, cut1, opII, opI0, TNeg, oAdd, oIsN, oNotN, oIsB, opEq, eqD, getS, startR, GName, GNil, GCons, GTup, List.map_cons, List.map_nil, List.length_cons, List.length_nil, List.cons_append, List.nil_append, List.set_cons_zero, List.set_cons_succ, List.replicate, List.append_nil, Option.map_some, Bool.not_true, Bool.not_false, Bool.false_eq_true, if_true, if_false, ite_true, ite_false, reduceIte, Nat.sub_self, Nat.reduceAdd, Nat.reduceSub, Bool.or_true, Bool.or_false, Bool.true_or, Bool.false_or, Bool.and_true, Bool.and_false, decide_true, decide_false, List.getElem?_cons_zero, List.getElem?_cons_succ, Option.some.injEq, exists_eq_left', exists_eq_left, true_and, and_true, at0, at1, at2, at3, List.length_map, List.cons.injEq, Int.cast_ofNat_Int, Int.reduceEq, Int.reduceLT, Int.reduceLE, D.int.injEq, D.str.injEq, D.bl.injEq, D.tup.injEq, D.lst.injEq, exists_const, Int.zero_add, Nat.zero_add, Int.natCast_add, Int.natCast_one, Int.reduceAdd, caseD, sp_l_places]
  refine ⟨rows, rfl, hr.s2, fun r hrm => by have := hr.row r hrm; omega, Nat.zero_le _, ?_⟩
  have hsl : (lawSets (NR rows) m).length ≤ 256 := by
    unfold lawSets
    have h1 := List.length_filter_le (fun S => decide (S.length = m)) ((rgI 0 ((NR rows : Nat) : Int)).foldl (lawStep m) [[]])
    have h2 := fold_bd (m := m) hN8 (NR rows) (Nat.le_refl _)
    rw [show (rgI 0 ((NR rows : Nat) : Int)).take (NR rows) = rgI 0 ((NR rows : Nat) : Int) from List.take_of_length_le (by rw [rgI_len]; omega)] at h2
    omega
  refine for_mk ((lawSets (NR rows) m).map D.key) n (fun i ρ n' => Eqn n' n ∧ ∃ (ws : List Int) (a c : Sl), Is ρ [.val (caseD b rows), .val (.int m), .val (.lst ((prodL rows).map tupI)), .mu (.lst (ws.map D.int)), a, c] ∧ ws.length = i ∧ ∀ j S, j < i → (lawSets (NR rows) m)[j]? = some S → ∃ v, ws[j]? = some v ∧ WorstI b rows.length (plS rows S) v)
    (fun P hP => ?_) ⟨rfl, [], _, _, rfl, rfl, fun j S hj => by omega⟩ ?_ ?_
  · simp only [SSeq, SNil, SIf, SRet, SSet, SAsg, SPar, SMuL, SApp, SExt, SPut, SFz, frzR, SNo, TVar, TC, TOp, TB, TNil, TCons, TTup, TLst, TKey, oIx, seqOf, TAnd, TOr, TNot, TAndV, TOrV, TNotV, TIf, TCB, cLen, cAbs, cMax2, cMin2, cAll, cList, cTuple, cInt, TIsi, isD, tyD, TCall, TChain, TLc, TLc0, SFor, ISeq, IRg1, IRg2, IZip, TSl, TPs, TPn, slD, cut1, opII, opI0, TNeg, oAdd, oIsN, oNotN, oIsB, opEq, eqD, getS, startR, GName, GNil, GCons, GTup, List.map_cons, List.map_nil, List.length_cons, List.length_nil, List.cons_append, List.nil_append, List.set_cons_zero, List.set_cons_succ, List.replicate, List.append_nil, Option.map_some, Bool.not_true, Bool.not_false, Bool.false_eq_true, if_true, if_false, ite_true, ite_false, reduceIte, Nat.sub_self, Nat.reduceAdd, Nat.reduceSub, Bool.or_true, Bool.or_false, Bool.true_or, Bool.false_or, Bool.and_true, Bool.and_false, decide_true, decide_false, List.getElem?_cons_zero, List.getElem?_cons_succ, Option.some.injEq, exists_eq_left', exists_eq_left, true_and, and_true, at0, at1, at2, at3, List.length_map, List.cons.injEq, Int.cast_ofNat_Int, Int.reduceEq, Int.reduceLT, Int.reduceLE, D.int.injEq, D.str.injEq, D.bl.injEq, D.tup.injEq, D.lst.injEq, exists_const, Int.zero_add, Nat.zero_add, Int.natCast_add, Int.natCast_one, Int.reduceAdd, sp_l_sets]
    exact ⟨m, NR rows, ⟨rfl, rfl⟩, h3, hN8, hP⟩
  · rintro ρ n' ⟨rfl, ws, a, c, rfl, hwl, hws⟩
    rw [List.length_map] at hwl hws
    simp only [SSeq, SNil, SIf, SRet, SSet, SAsg, SPar, SMuL, SApp, SExt, SPut, SFz, frzR, SNo, TVar, TC, TOp, TB, TNil, TCons, TTup, TLst, TKey, oIx, seqOf, TAnd, TOr, TNot, TAndV, TOrV, TNotV, TIf, TCB, cLen, cAbs, cMax2, cMin2, cAll, cList, cTuple, cInt, TIsi, isD, tyD, TCall, TChain, TLc, TLc0, ISeq, IRg1, IRg2, IZip, TSl, TPs, TPn, slD, cut1, opII, opI0, TNeg, oAdd, oIsN, oNotN, oIsB, opEq, eqD, getS, startR, GName, GNil, GCons, GTup, List.map_cons, List.map_nil, List.length_cons, List.length_nil, List.cons_append, List.nil_append, List.set_cons_zero, List.set_cons_succ, List.replicate, List.append_nil, Option.map_some, Bool.not_true, Bool.not_false, Bool.false_eq_true, if_true, if_false, ite_true, ite_false, reduceIte, Nat.sub_self, Nat.reduceAdd, Nat.reduceSub, Bool.or_true, Bool.or_false, Bool.true_or, Bool.false_or, Bool.and_true, Bool.and_false, decide_true, decide_false, List.getElem?_cons_zero, List.getElem?_cons_succ, Option.some.injEq, exists_eq_left', exists_eq_left, true_and, and_true, at0, at1, at2, at3, List.length_map, List.cons.injEq, Int.cast_ofNat_Int, Int.reduceEq, Int.reduceLT, Int.reduceLE, D.int.injEq, D.str.injEq, D.bl.injEq, D.tup.injEq, D.lst.injEq, exists_const, Int.zero_add, Nat.zero_add, Int.natCast_add, Int.natCast_one, Int.reduceAdd, MO.d, cMinL]
    have hall : ∀ S ∈ lawSets (NR rows) m, ∃ v ∈ ws, WorstI b rows.length (plS rows S) v := fun S hS => by
      obtain ⟨j, hj, e⟩ := List.mem_iff_getElem.mp hS
      obtain ⟨v, hv, hw⟩ := hws j S hj (by rw [List.getElem?_eq_getElem hj, e])
      exact ⟨v, List.mem_of_getElem? hv, hw⟩
    refine ⟨ws, rfl, ?_, fun v hv hmn => h v ⟨?_, fun S hS u hu => ?_⟩⟩
    · rintro rfl
      have : (rgI 0 (m : Int)) ∈ setsI (NR rows) m := mem_setsI.mpr ⟨by rw [rgI_length]; omega, inc_up (inc_rg _ rfl (Int.le_refl _)) (by omega)⟩
      obtain ⟨v, hv, _⟩ := hall _ ((mem_sets hN8 h3).mpr this)
      cases hv
    · obtain ⟨j, hj, e⟩ := List.mem_iff_getElem.mp hv
      have hj2 : j < (lawSets (NR rows) m).length := by omega
      obtain ⟨u, hu, hw⟩ := hws j _ hj2 (List.getElem?_eq_getElem hj2)
      rw [List.getElem?_eq_getElem hj, e] at hu
      cases hu
      exact ⟨_, (mem_sets hN8 h3).mp (List.getElem_mem hj2), hw⟩
    · obtain ⟨v2, hv2, hw2⟩ := hall S ((mem_sets hN8 h3).mpr hS)
      rw [worstI_one hu hw2]
      exact hmn v2 hv2
  · rintro i d ρ n' hd ⟨rfl, ws, a, c, rfl, hwl, hws⟩ NX hNX BK
    rw [List.getElem?_map] at hd
    obtain ⟨S, hSi, rfl⟩ := Option.map_eq_some_iff.mp hd
    have hS := (mem_sets hN8 h3).mp (List.mem_of_getElem? hSi)
    obtain ⟨hSl, hSi2⟩ := mem_setsI.mp hS
    have hi := len_at hSi
    simp only [SSeq, SNil, SIf, SRet, SSet, SAsg, SPar, SMuL, SApp, SExt, SPut, SFz, frzR, SNo, TVar, TC, TOp, TB, TNil, TCons, TTup, TLst, TKey, oIx, seqOf, TAnd, TOr, TNot, TAndV, TOrV, TNotV, TIf, TCB, cLen, cAbs, cMax2, cMin2, cAll, cList, cTuple, cInt, TIsi, isD, tyD, TCall, TChain, TLc, TLc0, ISeq, IRg1, IRg2, IZip, TSl, TPs, TPn, slD, cut1, opII, opI0, TNeg, oAdd, oIsN, oNotN, oIsB, opEq, eqD, getS, startR, GName, GNil, GCons, GTup, List.map_cons, List.map_nil, List.length_cons, List.length_nil, List.cons_append, List.nil_append, List.set_cons_zero, List.set_cons_succ, List.replicate, List.append_nil, Option.map_some, Bool.not_true, Bool.not_false, Bool.false_eq_true, if_true, if_false, ite_true, ite_false, reduceIte, Nat.sub_self, Nat.reduceAdd, Nat.reduceSub, Bool.or_true, Bool.or_false, Bool.true_or, Bool.false_or, Bool.and_true, Bool.and_false, decide_true, decide_false, List.getElem?_cons_zero, List.getElem?_cons_succ, Option.some.injEq, exists_eq_left', exists_eq_left, true_and, and_true, at0, at1, at2, at3, List.length_map, List.cons.injEq, Int.cast_ofNat_Int, Int.reduceEq, Int.reduceLT, Int.reduceLE, D.int.injEq, D.str.injEq, D.bl.injEq, D.tup.injEq, D.lst.injEq, exists_const, Int.zero_add, Nat.zero_add, Int.natCast_add, Int.natCast_one, Int.reduceAdd]
    refine lc_mapF S D.int (fun k => tupI ((prodL rows).getD k.toNat [])) (sz8 (by omega)) (fun k hk Q hQ => ?_) ?_
    · simp only [SSeq, SNil, SIf, SRet, SSet, SAsg, SPar, SMuL, SApp, SExt, SPut, SFz, frzR, SNo, TVar, TC, TOp, TB, TNil, TCons, TTup, TLst, TKey, oIx, seqOf, TAnd, TOr, TNot, TAndV, TOrV, TNotV, TIf, TCB, cLen, cAbs, cMax2, cMin2, cAll, cList, cTuple, cInt, TIsi, isD, tyD, TCall, TChain, TLc, TLc0, SFor, ISeq, IRg1, IRg2, IZip, TSl, TPs, TPn, slD, cut1, opII, opI0, TNeg, oAdd, oIsN, oNotN, oIsB, opEq, eqD, getS, startR, GName, GNil, GCons, GTup, List.map_cons, List.map_nil, List.length_cons, List.length_nil, List.cons_append, List.nil_append, List.set_cons_zero, List.set_cons_succ, List.replicate, List.append_nil, Option.map_some, Bool.not_true, Bool.not_false, Bool.false_eq_true, if_true, if_false, ite_true, ite_false, reduceIte, Nat.sub_self, Nat.reduceAdd, Nat.reduceSub, Bool.or_true, Bool.or_false, Bool.true_or, Bool.false_or, Bool.and_true, Bool.and_false, decide_true, decide_false, List.getElem?_cons_zero, List.getElem?_cons_succ, Option.some.injEq, exists_eq_left', exists_eq_left, true_and, and_true, at0, at1, at2, at3, List.length_map, List.cons.injEq, Int.cast_ofNat_Int, Int.reduceEq, Int.reduceLT, Int.reduceLE, D.int.injEq, D.str.injEq, D.bl.injEq, D.tup.injEq, D.lst.injEq, exists_const, Int.zero_add, Nat.zero_add, Int.natCast_add, Int.natCast_one, Int.reduceAdd, wipeR]
      have := inc_ge hSi2 hk
      have hk2 : k.toNat < (prodL rows).length := by unfold NR at this; omega
      have ek : k = (k.toNat : Int) := by omega
      refine ⟨_, ?_, hQ⟩
      conv => lhs; rw [ek]
      rw [atI_nat, List.getElem?_map, List.getElem?_eq_getElem hk2, List.getD_eq_getElem?_getD, List.getElem?_eq_getElem hk2]
      rfl
    simp only [SSeq, SNil, SIf, SRet, SSet, SAsg, SPar, SMuL, SApp, SExt, SPut, SFz, frzR, SNo, TVar, TC, TOp, TB, TNil, TCons, TTup, TLst, TKey, oIx, seqOf, TAnd, TOr, TNot, TAndV, TOrV, TNotV, TIf, TCB, cLen, cAbs, cMax2, cMin2, cAll, cList, cTuple, cInt, TIsi, isD, tyD, TCall, TChain, TLc, TLc0, ISeq, IRg1, IRg2, IZip, TSl, TPs, TPn, slD, cut1, opII, opI0, TNeg, oAdd, oIsN, oNotN, oIsB, opEq, eqD, getS, startR, GName, GNil, GCons, GTup, List.map_cons, List.map_nil, List.length_cons, List.length_nil, List.cons_append, List.nil_append, List.set_cons_zero, List.set_cons_succ, List.replicate, List.append_nil, Option.map_some, Bool.not_true, Bool.not_false, Bool.false_eq_true, if_true, if_false, ite_true, ite_false, reduceIte, Nat.sub_self, Nat.reduceAdd, Nat.reduceSub, Bool.or_true, Bool.or_false, Bool.true_or, Bool.false_or, Bool.and_true, Bool.and_false, decide_true, decide_false, List.getElem?_cons_zero, List.getElem?_cons_succ, Option.some.injEq, exists_eq_left', exists_eq_left, true_and, and_true, at0, at1, at2, at3, List.length_map, List.cons.injEq, Int.cast_ofNat_Int, Int.reduceEq, Int.reduceLT, Int.reduceLE, D.int.injEq, D.str.injEq, D.bl.injEq, D.tup.injEq, D.lst.injEq, exists_const, Int.zero_add, Nat.zero_add, Int.natCast_add, Int.natCast_one, Int.reduceAdd, caseD, sp_l_worst]
    refine ⟨b, rows.length, plS rows S, ⟨by rw [plS, List.map_map]; rfl, rfl⟩, okP_of hr h1 h3 hS, fun v hv => ⟨by exact sz1001 (by omega), hNX _ _ ⟨rfl, ws ++ [v], .val (.key S), c, ?_, ?_, fun j T hj hT => ?_⟩⟩⟩
    · rw [List.map_append]; rfl
    · rw [List.length_append, hwl]; rfl
    · by_cases hji : j < i
      · obtain ⟨u, hu, hw⟩ := hws j T hji hT
        exact ⟨u, by rw [List.getElem?_append_left (by omega)]; exact hu, hw⟩
      · have : j = i := by omega
        subst this
        rw [hSi] at hT
        cases hT
        exact ⟨v, by rw [List.getElem?_append_right (by omega), hwl, Nat.sub_self]; rfl, hv⟩
end
end Pu

/-! PuL: a def that shows data by repr: it is called where no repr runs. -/
namespace Pu
open PySem PySem.Spec PyProof.Rows L2
structure FnG (P : Program) (w : World) (K : PySem.W.Frag) (mg : Str → Option Value) (base : Heap) (k : Nat) (f : Addr) (fd : FuncData) (ps : List Str) (sp : Sp) : Prop where
  len : ∀ vs H Q E, sp vs H Q E → vs.length = ps.length
  run : ∀ (A : Around) (outer : List Env) (s : Shared) (H : Hp) (args : Args) (us : List Value) (vs : List V) (Q : VK) (E : XK), A.guards = some [] → Room k A → Env0 P w K mg base A outer s H → BindsTo s fd args (ps.zip us) → Vals vs us → sp vs H Q E →
    codeAny (model P w) A (.call (.ref f) args) (CR CX0 outer P w H s Q E) s
structure HasG (P : Program) (w : World) (K : PySem.W.Frag) (mg : Str → Option Value) (base : Heap) (x : Str) (ps : List Str) (k : Nat) (sp : PSp) : Prop where
  ex : ∃ f fd, FnG P w K mg base k f fd ps (spOf K sp) ∧ mg x = some (.ref f) ∧ PySem.W.keepIn K (.ref f) = true ∧ Binds K fd ps []
section
variable {X : Cx} {e : Expr} {es : List Expr} {TR : TrA} {p pos : Pos} {j k : Nat} {x : Str} {ps : List Str} {sp : PSp}
theorem vCallG (F : HasG X.prog X.w X.K X.mg X.base x ps k sp) (hgd : X.A.guards = some []) (hr : Room j X.A) (ha : PVs X (e :: es) TR) (hj : k ≤ j := by decide) (hg : Gl X x := by rfl) (hdb : (x == ("__debug__" : Str)) = false := by decide)
    (he : starEach (e :: es) X.env = (false, eval e X.env) :: starEach es X.env := by rfl) (hpl : (backTo pos (starEach es X.env)).any (·.1) = false := by rfl) : PV X (.Call (.Name x p) (e :: es) [] pos) (TCall sp TR) := by
  obtain ⟨t, p1, q1⟩ := ha.ex
  obtain ⟨f, fd, F1, hm, hk, hb⟩ := F.ex
  refine ⟨tCall (spOf X.K sp) [] E0 t, ⟨fun pins s σ H Q I h => ?_⟩, snd_call q1⟩
  refine wpAny_Call_Name_kw (ld_glob I hg hm ?_ hdb)
  refine PySem.W.callWith_K (h₀ := X.base) I.ok.mod.kin hk (thn (p1.run pos pins s σ H _ I h) fun us s1 got => ?_) he hpl
  obtain ⟨vs, H1, I1, r, q⟩ := got
  refine ⟨I1.kIn, ?_⟩
  rw [List.append_nil] at q
  have same : us.length = ps.length := by
    rw [← r.length]
    exact F1.len _ _ _ _ q
  have bt := hb s1 us I1.kIn (by simpa using same)
  rw [List.append_nil] at bt
  refine wpAny_call (codeAny_mono (F1.run X.A X.stack s1 H1 ⟨us, []⟩ us vs Q E0 hgd (hr.mono hj) I1.env0 bt r q) fun out s2 hout => ?_)
  match out, hout with
  | .error u, hout => exact pass0 pins σ H1 s1 u s2 I1 hout
  | .ok (.ret u), hout => exact I1.after hout
  | .ok .next, hout => exact hout.elim
  | .ok .brk, hout => exact hout.elim
  | .ok .cont, hout => exact hout.elim
end
section
variable {P : Program} {w : World} {K : PySem.W.Frag} {mg : Str → Option Value} {base : Heap}
theorem fnG_of {x qual : Str} {st : Stmt} {f : Addr} {fd : FuncData} {N ps : List Str} {k : Nat} {sp : Sp} (F : FunD K x qual (defArgs st) (defBody st) (defScope st) [] [] f fd) (S : FnScope N ps (defScope st)) (len : ∀ vs H Q E, sp vs H Q E → vs.length = ps.length)
    (body : ∀ (cdv : Value) (A : Around) (outer : List Env) (s : Shared) (H : Hp) (vs : List V) (Q : VK) (E : XK), A.guards = some [] → Room k (A.deeper (envOfC qual (defScope st) s.heap.objs.size f cdv)) → sp vs H Q E →
      ∃ t, PSs (cxOf CX0 P w K mg base N qual (defScope st) f cdv A outer s H E) (defBody st) t ∧ t { nx := fun _ H' => Q .non H', rt := Q } (L2.start N vs) H) : FnG P w K mg base (k + 1) f fd ps sp := by
  obtain ⟨oc, od, dV, kV, doc, pm, an, cdv, ct, osl, rfl, at_, code, _, _⟩ := F.ex
  refine ⟨len, ?_⟩
  intro A outer s H args us vs Q E gd room env bt rel promise
  have szs := len _ _ _ _ promise
  have kin : K.In s.heap := env.mod.kin.keeps fun a o q => (env.bs a o q).1
  have nolim : s.heap.NoLimit := env.mod.nolimit.keeps fun a o q => (env.bs a o q).1
  have kinds : ∀ z ∈ ps.zip us, (defScope st).names.lookup z.1 = some .local ∨ ((defScope st).names.lookup z.1 = some .cell ∧ ((cellsFrom (s.heap.objs.size + 1) (defScope st).names []).lookup z.1).isSome = true) := by
    rintro ⟨nm, v⟩ hz
    rcases S.par nm (List.of_mem_zip hz).1 with loc | cel
    · exact .inl loc
    · exact .inr ⟨cel, PySem.W.cellsFrom_some _ _ _ (.inl cel)⟩
  refine codeAny_call_function room.depth (kin _ _ at_) rfl S.co S.gen rfl (PySem.W.codeRec_of kin code) (bt _ _ _ _ ?_)
  refine wpAny_newFunctionEnv_cells S.kind kinds ?_
  intro env1 isEnv s1 entered
  subst isEnv
  refine ⟨nolim.keeps entered.toInCall.keep, codeAny_func ?_⟩
  obtain ⟨t, walk, reads⟩ := body cdv A outer s H vs Q E gd (room.deeper _) promise
  have inv : Inv (cxOf CX0 P w K mg base N qual (defScope st) f cdv A outer s H E) [] (L2.start N vs) H s1 := inv_start S room.hd env szs rel entered
  refine wpAny_mono (walk.run [] s1 (L2.start N vs) H _ inv reads) ?_ fun _ _ z => z
  intro fl s2 went
  have back : ∀ {σ2 : L2.St} {H2 : Hp} {v : V} {u : Value}, Inv (cxOf CX0 P w K mg base N qual (defScope st) f cdv A outer s H E) [] σ2 H2 s2 → RelV v u → Q v H2 → CE outer P w H s Q u s2 :=
    fun {σ2 H2 v u} J rv q => ⟨v, H2, J.os, J.bare, J.base, J.hok, rv, q⟩
  match fl, went with
  | .ret u, ⟨v, σ2, H2, J, rv, q⟩ => exact back J rv q
  | .next, ⟨σ2, H2, J, q⟩ => exact back (v := V.non) (u := Value.none) J rfl q
  | .brk, ⟨_, _, _, q⟩ => exact q.elim
  | .cont, ⟨_, _, _, q⟩ => exact q.elim
theorem has_mkG {x : Str} {st : Stmt} {N ps : List Str} {k : Nat} {sp : PSp} (F : Df K mg x st) (sc : FnScope N ps (defScope st))
    (hb : ∀ (kV doc pm : Value) (an : Option Addr) (cdv ct : Value) (us : List Value), us.length = ps.length → bindArgs (PySem.W.fnOf x x (defArgs st) (defBody st) (defScope st) .none kV doc pm an cdv ct) ⟨us, []⟩ = pure (ps.zip us))
    (len : ∀ ds n P, sp ds n P → ds.length = ps.length)
    (body : ∀ (f : Addr) (cdv : Value) (A : Around) (outer : List Env) (s : Shared) (H : Hp) (E : XK), (A.deeper (envOfC x (defScope st) s.heap.objs.size f cdv)).guards = some [] → Room k (A.deeper (envOfC x (defScope st) s.heap.objs.size f cdv)) →
      ∃ S, PSts (cxOf CX0 P w K mg base N x (defScope st) f cdv A outer s H E).nox (defBody st) S ∧ ∀ ds n P, sp ds n P → S { nx := fun _ n' => P .non n', rt := P } (startR N ds) n) : HasG P w K mg base x ps (k + 1) sp := by
  obtain ⟨f, fd, F1, hm⟩ := F.ex
  have bn : Binds K fd ps [] := F1.bindsN hb
  refine ⟨f, fd, fnG_of F1 sc (spOf_len len) fun cdv A outer s H vs Q E gd hr hsp => ?_, hm, F1.kp, bn⟩
  obtain ⟨S, hS, h⟩ := body f cdv A outer s H E gd hr
  obtain ⟨t, h1, h2⟩ := hS.ex
  exact ⟨t, h1.nox, body_ok h2 h hsp⟩
end
end Pu

set_option exponentiation.threshold 2000
/-! M3: how long the shown text of a datum is. -/
namespace Pu
open PySem PySem.Spec PyProof PyProof.Rows L2
/-- shown in at most B letters -/
structure Sh (B e : Nat) (d : PyData) : Prop where
  sh : d.showable = true
  nd : d.hasDict = false
  dp : d.depth ≤ e
  len : d.shown.length ≤ B
theorem Sh.int {i : Int} (h : i.natAbs < 10 ^ 10) : Sh 11 0 (.int i) := by
  refine ⟨?_, by simp only [PyData.hasDict], by simp [PyData.depth], ?_⟩
  · simp only [PyData.showable]
    have : i.natAbs.log2 < 1920 := by
      by_cases h0 : i.natAbs = 0
      · rw [h0]; decide
      · exact (Nat.log2_lt h0).mpr (Nat.lt_of_lt_of_le h (by decide))
    exact decide_eq_true this
  · simp only [PyData.shown]
    have := int_text_length_le10 (k := 10) (by decide) h
    have e : (Str.ofString (toString i)).length = (toString i).length := PySem.ofString_length _
    exact Nat.le_trans (Nat.le_of_eq e) this
theorem Sh.tuple {B e N : Nat} {ds : List PyData} (h : ∀ d ∈ ds, Sh B e d) (hN : ds.length ≤ N) : Sh (N * (B + 2) + 3) (e + 1) (.tuple ds) := by
  have hp : ∀ l : List PyData, (∀ d ∈ l, Sh B e d) → piled (PyData.shownAll l) ≤ l.length * (B + 2) := by
    intro l
    induction l with
    | nil => intro _; simp [PyData.shownAll, piled]
    | cons d l ih =>
      intro h
      have h1 := (h d List.mem_cons_self).len
      have h2 := ih fun x hx => h x (List.mem_cons_of_mem _ hx)
      rw [PyData.shownAll_cons, piled_cons, List.length_cons, Nat.succ_mul]
      omega
  refine ⟨?_, ?_, ?_, ?_⟩
  · simp only [PyData.showable]
    exact showableAll_of fun x hx => (h x hx).sh
  · simp only [PyData.hasDict]
    clear hN hp
    induction ds with
    | nil => simp only [PyData.hasDictAll]
    | cons d l ih =>
      simp only [PyData.hasDictAll, Bool.or_eq_false_iff]
      exact ⟨(h d List.mem_cons_self).nd, ih fun x hx => h x (List.mem_cons_of_mem _ hx)⟩
  · simp only [PyData.depth]
    have : PyData.depthAll ds ≤ e := by
      clear hN hp
      induction ds with
      | nil => simp only [PyData.depthAll]; omega
      | cons d l ih =>
        simp only [PyData.depthAll]
        exact Nat.max_le.mpr ⟨(h d List.mem_cons_self).dp, ih fun x hx => h x (List.mem_cons_of_mem _ hx)⟩
    omega
  · simp only [PyData.shown]
    have h1 := hp ds h
    have h2 : ds.length * (B + 2) ≤ N * (B + 2) := Nat.mul_le_mul_right _ hN
    unfold tupleText
    rw [PySem.strLen_append, PySem.strLen_append]
    have e1 : ((("(" : String) : Str)).length = 1 := rfl
    have e3 : (((if (PyData.shownAll ds).length == 1 then ",)" else ")" : String) : Str)).length ≤ 2 := by split <;> decide
    rw [e1]
    by_cases h : PyData.shownAll ds = []
    · rw [h]
      have : (Str.join ", " []).length = 0 := rfl
      rw [h] at e3
      omega
    · have := join_length_add _ h
      omega
/-- fit for repr -/
structure Rp (B e : Nat) (d : D) : Prop where
  sq : (seqOf d).isSome = true
  pl : d.plain = true
  sh : Sh B e d.py
theorem rp_fr {q : Rat} (h1 : q.num.natAbs < 10 ^ 10) (h2 : q.den < 10 ^ 10) : Rp 29 1 (fr q) := by
  refine ⟨rfl, rfl, ?_⟩
  have h3 : (q.den : Int).natAbs < 10 ^ 10 := by omega
  refine Sh.tuple (B := 11) (N := 2) (ds := [.int q.num, .int q.den]) (fun d hd => ?_) (Nat.le_refl _)
  rcases List.mem_cons.mp hd with rfl | hd
  · exact Sh.int h1
  · rcases List.mem_cons.mp hd with rfl | hd
    · exact Sh.int h3
    · cases hd
theorem rp_tup {α : Type} {B e N : Nat} {f : α → D} {xs : List α} (h : ∀ x ∈ xs, Rp B e (f x)) (hN : xs.length ≤ N) : Rp (N * (B + 2) + 3) (e + 1) (.tup (xs.map f)) := by
  refine ⟨rfl, plainL_of _ fun d hd => ?_, ?_⟩
  · obtain ⟨x, hx, rfl⟩ := List.mem_map.mp hd
    exact (h x hx).pl
  · show Sh _ _ (.tuple (pyL (xs.map f)))
    rw [pyL_map]
    refine Sh.tuple (fun d hd => ?_) (by rw [List.length_map]; exact hN)
    obtain ⟨x, hx, rfl⟩ := List.mem_map.mp hd
    exact (h x hx).sh
theorem rp_key {S : List Int} {N : Nat} (h : ∀ k ∈ S, k.natAbs < 10 ^ 10) (hN : S.length ≤ N) : Rp (N * 13 + 3) 1 (.key S) := by
  refine ⟨rfl, rfl, ?_⟩
  show Sh _ _ (.tuple (S.map PyData.int))
  refine Sh.tuple (B := 11) (fun d hd => ?_) (by rw [List.length_map]; exact hN)
  obtain ⟨x, hx, rfl⟩ := List.mem_map.mp hd
  exact Sh.int (h x hx)
theorem Rp.weak {B C e : Nat} {d : D} (h : Rp B e d) (hB : B ≤ C) : Rp C e d := ⟨h.sq, h.pl, h.sh.sh, h.sh.nd, h.sh.dp, Nat.le_trans h.sh.len hB⟩
theorem Rp.all {B e : Nat} {d : D} (h : Rp B e d) {P : D → Prop} (hB : B ≤ sizeLine) (he : e ≤ 60) (k : P (.str d.py.shown)) : cRepr [d] P :=
  ⟨h.sq, h.pl, h.sh.sh, h.sh.nd, Nat.le_trans h.sh.dp he, Nat.le_trans h.sh.len hB, k⟩
end Pu

/-! W11: whether the told least set is right. -/
namespace Pu
open PySem PySem.Spec PyProof PyProof.Rows L2
theorem mk_den {v : Int} {u : Nat} (hu : 0 < u) : (mkRat v u).den ≤ u := by
  rw [Rat.den_mkRat v u]
  split
  · omega
  · exact Nat.div_le_self _ _
theorem rp_low {v : Int} {u : Nat} (hv : v.natAbs < 10 ^ 10) (hu : 0 < u) (hu2 : u < 10 ^ 10) : Rp 29 1 (fr (mkRat v u)) := by
  have h1 := mk_den (v := v) hu
  have h2 : (mkRat v u).num.natAbs ≤ v.natAbs := by
    have := Rat.num_mkRat v u
    rw [this]
    split
    · simp
    · rw [Int.natAbs_ediv_of_dvd]
      · exact Nat.div_le_self _ _
      · exact Int.ofNat_dvd_left.mpr (Nat.gcd_dvd_right _ _)
  exact rp_fr (by omega) (by omega)
theorem neS (a : Str) (P : D → Prop) : oNe (.str a) (.str a) P = P (.bl false) := by
  show P (.bl (!decide (a = a))) = _
  rw [decide_eq_true rfl]; rfl
theorem neI (a c : Int) (P : D → Prop) : oNe (.int a) (.int c) P = P (.bl (!decide (a = c))) := rfl
theorem eqS (a : Str) (P : D → Prop) : oEq (.str a) (.str a) P = P (.bl true) := by
  show P (.bl (decide (a = a))) = _
  rw [decide_eq_true rfl]
theorem eqF (q : Rat) (P : D → Prop) : oEq (fr q) (fr q) P = P (.bl true) := by
  show P (.bl (decide (q.num = q.num ∧ (q.den : Int) = q.den))) = _
  rw [decide_eq_true ⟨rfl, rfl⟩]
theorem sets_len {N m : Nat} (hN8 : N ≤ 8) : (lawSets (N : Int) m).length ≤ 256 := by
  unfold lawSets
  have h1 := List.length_filter_le (fun S => decide (S.length = m)) ((rgI 0 ((N : Nat) : Int)).foldl (lawStep m) [[]])
  have h2 := fold_bd (m := m) hN8 N (Nat.le_refl _)
  rw [show (rgI 0 ((N : Nat) : Int)).take N = rgI 0 ((N : Nat) : Int) from List.take_of_length_le (by rw [rgI_len]; omega)] at h2
  omega
theorem unit_lt {b m : Nat} {rows : List (List Int)} (hr : OkR b rows) (h3 : m ≤ 3) : unit b m rows.length < 3000000 := by
  unfold unit
  have h1 : b ^ rows.length ≤ 997 ^ 2 := Nat.le_trans (Nat.pow_le_pow_left hr.b997 _) (Nat.pow_le_pow_right (by omega) hr.s2)
  have h2 : m * b ^ rows.length ≤ 3 * 997 ^ 2 := Nat.mul_le_mul h3 h1
  omega
theorem whole_bd {b : Nat} {rows : List (List Int)} (hr : OkR b rows) : 0 ≤ wholeI b rows ∧ wholeI b rows ≤ 994009 := by
  unfold wholeI
  have h1 : b ^ rows.length ≤ 997 ^ 2 := Nat.le_trans (Nat.pow_le_pow_left hr.b997 _) (Nat.pow_le_pow_right (by omega) hr.s2)
  rw [← Int.natCast_pow]
  omega
theorem at_key {rows : List (List Int)} {k : Int} (h0 : 0 ≤ k) (h1 : k < NR rows) : atI ((prodL rows).map tupI) k = some (tupI ((prodL rows).getD k.toNat [])) := by
  have hk2 : k.toNat < (prodL rows).length := by unfold NR at h1; omega
  have ek : k = (k.toNat : Int) := by omega
  conv => lhs; rw [ek]
  rw [atI_nat, List.getElem?_map, List.getElem?_eq_getElem hk2, List.getD_eq_getElem?_getD, List.getElem?_eq_getElem hk2]
  rfl
abbrev k_l_told_right : Nat := 22
def sp_l_told_right : PSp := fun ds n P => ∃ (k b : Nat) (rows : List (List Int)) (m : Nat) (v : Int) (S : List Int) (d : D), ds = [caseD b rows, .int m, .tup [fr (mkRat v (unit b m rows.length)), .key S, d], fr (mkRat v (unit b m rows.length))] ∧ OkR b rows ∧ 1 ≤ m ∧ m ≤ 3 ∧
  S ∈ setsI (NR rows) m ∧ WorstI b rows.length (plS rows S) v ∧ v.natAbs < 10 ^ 10 ∧ OkT k d ∧ goB (gsOf b rows) m (mkRat v (unit b m rows.length)) 8 d [] (rgI 0 (NR rows)) = true ∧ P (.bl true) n
theorem len_l_told_right : ∀ ds n P, sp_l_told_right ds n P → ds.length = (["_law_case", "_law_many", "_law_found", "_law_due"] : List Str).length := by rintro _ n P ⟨_, _, _, _, _, _, _, rfl, _⟩; rfl
section
variable {Pr : Program} {w : World} {K : PySem.W.Frag} {mg : Str → Option Value} {base : Heap} {C CN : Addr}
abbrev s_l_told_right : Stmt := top 84
theorem sc_l_told_right : FnScope ["_law_case", "_law_many", "_law_found", "_law_due", "_law_places_here", "_law_unit", "_law_greatest", "_law_some", "_law_g"] ["_law_case", "_law_many", "_law_found", "_law_due"] (defScope s_l_told_right) := ⟨rfl, rfl, rfl, by decide +kernel, rfl, by decide +kernel, by decide +kernel⟩
theorem ok_l_told_right (F0 : Df K mg "_law_told_right" s_l_told_right) (B : Bt mg) (C : Cs K w mg) (h_l_lets : Has Pr w K mg base "_law_lets" ["_law_case", "_law_many", "_law_number", "_law_thing"] k_l_lets sp_l_lets) (h_l_low : Has Pr w K mg base "_law_low" ["_law_top", "_law_bottom"] k_l_low sp_l_low) (h_l_worst : Has Pr w K mg base "_law_worst" ["_law_spots", "_law_base", "_law_family"] k_l_worst sp_l_worst) (h_l_whole : Has Pr w K mg base "_law_whole" ["_law_case"] k_l_whole sp_l_whole) (h_l_sets : Has Pr w K mg base "_law_sets" ["_law_many", "_law_of"] k_l_sets sp_l_sets) (h_l_places : Has Pr w K mg base "_law_places" ["_law_rows"] k_l_places sp_l_places) : HasG Pr w K mg base "_law_told_right" ["_law_case", "_law_many", "_law_found", "_law_due"] k_l_told_right sp_l_told_right := by
  have sc := sc_l_told_right
  refine has_mkG (k := _) F0 sc (fun _ _ _ _ _ _ us hl => match us, hl with | [_, _, _, _], _ => rfl) len_l_told_right (fun f cdv A outer s H E hgd hr => ⟨_,
    (bCons (sSet 4 sc.nd (vCall h_l_places hr (aCons (vIx (vN 0) vI) aNil)))
    (bCons (sIf (bW (wOr (bNot (bVal (vIsi (T := "tuple") (by decide) B.isi B.tuple (vN 2)))) (wOr (bNe hr (vLen B.len (aCons (vN 2) aNil)) vI) (wOr1 (bNe hr (vRepr hgd hr B.repr (aCons (vIx (vN 2) vI) aNil)) (vRepr hgd hr B.repr (aCons (vN 3) aNil)))))))
      (bOne (sRet vB))
      bNil)
    (bCons (sIf (bNotIn (vRepr hgd hr B.repr (aCons (vIx (vN 2) vI) aNil)) (vLc (own := [("_law_some", 7)]) sc.nd (iL (vCall h_l_sets hr (aCons (vN 1) (aCons (vLen B.len (aCons (vN 4) aNil)) aNil)))) (fun _ _ _ _ _ => (gN 7 sc.nd)) (fun _ _ _ _ _ => tN) (fun _ _ _ _ _ => (vRepr hgd hr B.repr (aCons (vN 7) aNil)))))
      (bOne (sRet vB))
      bNil)
    (bCons (sSet 5 sc.nd (vMul (vN 1) (vCall h_l_whole hr (aCons (vN 0) aNil))))
    (bCons (sSet 6 sc.nd (vCall h_l_worst hr (aCons (vLc (own := [("_law_g", 8)]) sc.nd (iT (vIx (vN 2) vI)) (fun _ _ _ _ _ => (gN 8 sc.nd)) (fun _ _ _ _ _ => tN) (fun _ _ _ _ _ => (vIx (vN 4) (vN 8)))) (aCons (vIx (vN 0) vI) (aCons vS aNil)))))
    (bOne (sRet (vAnd (vEq hr (vCall h_l_low hr (aCons (vN 6) (aCons (vN 5) aNil))) (vIx (vN 2) vI)) (v1 (vEq hr (vCall h_l_lets hr (aCons (vN 0) (aCons (vN 1) (aCons (vN 3) (aCons (vIx (vN 2) vI) aNil))))) vS)))))))))), ?_⟩)
  rintro _ n P ⟨k, b, rows, m, v, S, d, rfl, hr, h1, h3, hS, hw, hv, hd, hgo, h⟩
  have hN8 : NR rows ≤ 8 := hr.len
  obtain ⟨hSl, hSi⟩ := mem_setsI.mp hS
  have hb : 0 < b := by have := hr.b9; omega
  have hu := unit_pos (s := rows.length) hb h1
  have hu2 := unit_lt hr h3
  have rq := rp_low hv hu (by omega)
  have rk : ∀ T, T ∈ setsI (NR rows) m → Rp (3 * 13 + 3) 1 (.key T) := fun T hT => by
    obtain ⟨a, c⟩ := mem_setsI.mp hT
    exact rp_key (fun k hk => by have := inc_ge c hk; omega) (by omega)
  simp only [SSeq, SNil, SIf, SRet, SSet, SAsg, SPar, SMuL, SApp, SExt, SPut, SFz, frzR, SNo, TVar, TC, TOp, TB, TNil, TCons, TTup, TLst, TKey, oIx, seqOf, TAnd, TOr, TNot, TAndV, TOrV, TNotV, TIf, TCB, cLen, cAbs, cMax2, cMin2, cAll, cList, cTuple, cInt, TIsi, isD, tyD, TCall, TChain, TLc, TLc0, SFor, ISeq, IRg1, IRg2, IZip, TSl, TPs, TPn, slD, cut1, opII, opI0, TNeg, oAdd, oIsN, oNotN, oIsB, getS, startR, GName, GNil, GCons, GTup, List.map_cons, List.map_nil, List.length_cons, List.length_nil, List.cons_append, List.nil_append, List.set_cons_zero, List.set_cons_succ, List.replicate, List.append_nil, Option.map_some, Bool.not_true, Bool.not_false, Bool.false_eq_true, if_true, if_false, ite_true, ite_false, reduceIte, Nat.sub_self, Nat.reduceAdd, Nat.reduceSub, Bool.or_true, Bool.or_false, Bool.true_or, Bool.false_or, Bool.and_true, Bool.and_false, decide_true, decide_false, List.getElem?_cons_zero, List.getElem?_cons_succ, Option.some.injEq, exists_eq_left', exists_eq_left, true_and, and_true, at0, at1, at2, at3, List.length_map, List.cons.injEq, Int.cast_ofNat_Int, Int.reduceEq, Int.reduceLT, Int.reduceLE, D.int.injEq, D.str.injEq, D.bl.injEq, D.tup.injEq, D.lst.injEq, exists_const, Int.zero_add, Nat.zero_add, Int.natCast_add, Int.natCast_one, Int.reduceAdd, caseD, sp_l_places, wipeR, neI]
  refine ⟨rows, rfl, hr.s2, fun r hrm => by have := hr.row r hrm; omega, ?_⟩
  refine rq.all (by decide) (by decide) ?_
  refine rq.all (by decide) (by decide) ?_
  simp only [SSeq, SNil, SIf, SRet, SSet, SAsg, SPar, SMuL, SApp, SExt, SPut, SFz, frzR, SNo, TVar, TC, TOp, TB, TNil, TCons, TTup, TLst, TKey, oIx, seqOf, TAnd, TOr, TNot, TAndV, TOrV, TNotV, TIf, TCB, cLen, cAbs, cMax2, cMin2, cAll, cList, cTuple, cInt, TIsi, isD, tyD, TCall, TChain, TLc, TLc0, SFor, ISeq, IRg1, IRg2, IZip, TSl, TPs, TPn, slD, cut1, opII, opI0, TNeg, oAdd, oIsN, oNotN, oIsB, getS, startR, GName, GNil, GCons, GTup, List.map_cons, List.map_nil, List.length_cons, List.length_nil, List.cons_append, List.nil_append, List.set_cons_zero, List.set_cons_succ, List.replicate, List.append_nil, Option.map_some, Bool.not_true, Bool.not_false, Bool.false_eq_true, if_true, if_false, ite_true, ite_false, reduceIte, Nat.sub_self, Nat.reduceAdd, Nat.reduceSub, Bool.or_true, Bool.or_false, Bool.true_or, Bool.false_or, Bool.and_true, Bool.and_false, decide_true, decide_false, List.getElem?_cons_zero, List.getElem?_cons_succ, Option.some.injEq, exists_eq_left', exists_eq_left, true_and, and_true, at0, at1, at2, at3, List.length_map, List.cons.injEq, Int.cast_ofNat_Int, Int.reduceEq, Int.reduceLT, Int.reduceLE, D.int.injEq, D.str.injEq, D.bl.injEq, D.tup.injEq, D.lst.injEq, exists_const, Int.zero_add, Nat.zero_add, Int.natCast_add, Int.natCast_one, Int.reduceAdd, neS]
  refine (rk S hS).all (by decide) (by decide) ⟨m, NR rows, rfl, h3, hN8, ?_⟩
  refine lc_mapF (lawSets (NR rows) m) D.key (fun T => D.str (D.key T).py.shown) (sz1000 (Nat.le_trans (sets_len hN8) (by decide))) (fun T hT Q hQ => ?_) ?_
  · simp only [SSeq, SNil, SIf, SRet, SSet, SAsg, SPar, SMuL, SApp, SExt, SPut, SFz, frzR, SNo, TVar, TC, TOp, TB, TNil, TCons, TTup, TLst, TKey, oIx, seqOf, TAnd, TOr, TNot, TAndV, TOrV, TNotV, TIf, TCB, cLen, cAbs, cMax2, cMin2, cAll, cList, cTuple, cInt, TIsi, isD, tyD, TCall, TChain, TLc, TLc0, SFor, ISeq, IRg1, IRg2, IZip, TSl, TPs, TPn, slD, cut1, opII, opI0, TNeg, oAdd, oIsN, oNotN, oIsB, opEq, eqD, getS, startR, GName, GNil, GCons, GTup, List.map_cons, List.map_nil, List.length_cons, List.length_nil, List.cons_append, List.nil_append, List.set_cons_zero, List.set_cons_succ, List.replicate, List.append_nil, Option.map_some, Bool.not_true, Bool.not_false, Bool.false_eq_true, if_true, if_false, ite_true, ite_false, reduceIte, Nat.sub_self, Nat.reduceAdd, Nat.reduceSub, Bool.or_true, Bool.or_false, Bool.true_or, Bool.false_or, Bool.and_true, Bool.and_false, decide_true, decide_false, List.getElem?_cons_zero, List.getElem?_cons_succ, Option.some.injEq, exists_eq_left', exists_eq_left, true_and, and_true, at0, at1, at2, at3, List.length_map, List.cons.injEq, Int.cast_ofNat_Int, Int.reduceEq, Int.reduceLT, Int.reduceLE, D.int.injEq, D.str.injEq, D.bl.injEq, D.tup.injEq, D.lst.injEq, exists_const, Int.zero_add, Nat.zero_add, Int.natCast_add, Int.natCast_one, Int.reduceAdd, wipeR]
    exact (rk T ((mem_sets hN8 h3).mp hT)).all (by decide) (by decide) hQ
  have hin : (D.key S).py.shown ∈ (lawSets (NR rows) m).map fun T => (D.key T).py.shown := List.mem_map.mpr ⟨S, (mem_sets hN8 h3).mpr hS, rfl⟩
  refine ⟨(lawSets (NR rows) m).map fun T => (D.key T).py.shown, by rw [List.map_map]; rfl, ?_⟩
  rw [decide_eq_true hin]
  simp only [SSeq, SNil, SIf, SRet, SSet, SAsg, SPar, SMuL, SApp, SExt, SPut, SFz, frzR, SNo, TVar, TC, TOp, TB, TNil, TCons, TTup, TLst, TKey, oIx, seqOf, TAnd, TOr, TNot, TAndV, TOrV, TNotV, TIf, TCB, cLen, cAbs, cMax2, cMin2, cAll, cList, cTuple, cInt, TIsi, isD, tyD, TCall, TChain, TLc, TLc0, SFor, ISeq, IRg1, IRg2, IZip, TSl, TPs, TPn, slD, cut1, opII, opI0, TNeg, oAdd, oIsN, oNotN, oIsB, getS, startR, GName, GNil, GCons, GTup, List.map_cons, List.map_nil, List.length_cons, List.length_nil, List.cons_append, List.nil_append, List.set_cons_zero, List.set_cons_succ, List.replicate, List.append_nil, Option.map_some, Bool.not_true, Bool.not_false, Bool.false_eq_true, if_true, if_false, ite_true, ite_false, reduceIte, Nat.sub_self, Nat.reduceAdd, Nat.reduceSub, Bool.or_true, Bool.or_false, Bool.true_or, Bool.false_or, Bool.and_true, Bool.and_false, decide_true, decide_false, List.getElem?_cons_zero, List.getElem?_cons_succ, Option.some.injEq, exists_eq_left', exists_eq_left, true_and, and_true, at0, at1, at2, at3, List.length_map, List.cons.injEq, Int.cast_ofNat_Int, Int.reduceEq, Int.reduceLT, Int.reduceLE, D.int.injEq, D.str.injEq, D.bl.injEq, D.tup.injEq, D.lst.injEq, exists_const, Int.zero_add, Nat.zero_add, Int.natCast_add, Int.natCast_one, Int.reduceAdd, sp_l_whole]
  have hwb := whole_bd hr
  refine ⟨b, rows, rfl, hr, cmul_r hwb.1 (by omega), ?_⟩
  refine lc_mapF S D.int (fun k => tupI ((prodL rows).getD k.toNat [])) (sz8 (by omega)) (fun k hk Q hQ => ?_) ?_
  · simp only [SSeq, SNil, SIf, SRet, SSet, SAsg, SPar, SMuL, SApp, SExt, SPut, SFz, frzR, SNo, TVar, TC, TOp, TB, TNil, TCons, TTup, TLst, TKey, oIx, seqOf, TAnd, TOr, TNot, TAndV, TOrV, TNotV, TIf, TCB, cLen, cAbs, cMax2, cMin2, cAll, cList, cTuple, cInt, TIsi, isD, tyD, TCall, TChain, TLc, TLc0, SFor, ISeq, IRg1, IRg2, IZip, TSl, TPs, TPn, slD, cut1, opII, opI0, TNeg, oAdd, oIsN, oNotN, oIsB, opEq, eqD, getS, startR, GName, GNil, GCons, GTup, List.map_cons, List.map_nil, List.length_cons, List.length_nil, List.cons_append, List.nil_append, List.set_cons_zero, List.set_cons_succ, List.replicate, List.append_nil, Option.map_some, Bool.not_true, Bool.not_false, Bool.false_eq_true, if_true, if_false, ite_true, ite_false, reduceIte, Nat.sub_self, Nat.reduceAdd, Nat.reduceSub, Bool.or_true, Bool.or_false, Bool.true_or, Bool.false_or, Bool.and_true, Bool.and_false, decide_true, decide_false, List.getElem?_cons_zero, List.getElem?_cons_succ, Option.some.injEq, exists_eq_left', exists_eq_left, true_and, and_true, at0, at1, at2, at3, List.length_map, List.cons.injEq, Int.cast_ofNat_Int, Int.reduceEq, Int.reduceLT, Int.reduceLE, D.int.injEq, D.str.injEq, D.bl.injEq, D.tup.injEq, D.lst.injEq, exists_const, Int.zero_add, Nat.zero_add, Int.natCast_add, Int.natCast_one, Int.reduceAdd, wipeR]
    have := inc_ge hSi hk
    exact ⟨_, at_key (by omega) (by omega), hQ⟩
  simp only [SSeq, SNil, SIf, SRet, SSet, SAsg, SPar, SMuL, SApp, SExt, SPut, SFz, frzR, SNo, TVar, TC, TOp, TB, TNil, TCons, TTup, TLst, TKey, oIx, seqOf, TAnd, TOr, TNot, TAndV, TOrV, TNotV, TIf, TCB, cLen, cAbs, cMax2, cMin2, cAll, cList, cTuple, cInt, TIsi, isD, tyD, TCall, TChain, TLc, TLc0, SFor, ISeq, IRg1, IRg2, IZip, TSl, TPs, TPn, slD, cut1, opII, opI0, TNeg, oAdd, oIsN, oNotN, oIsB, getS, startR, GName, GNil, GCons, GTup, List.map_cons, List.map_nil, List.length_cons, List.length_nil, List.cons_append, List.nil_append, List.set_cons_zero, List.set_cons_succ, List.replicate, List.append_nil, Option.map_some, Bool.not_true, Bool.not_false, Bool.false_eq_true, if_true, if_false, ite_true, ite_false, reduceIte, Nat.sub_self, Nat.reduceAdd, Nat.reduceSub, Bool.or_true, Bool.or_false, Bool.true_or, Bool.false_or, Bool.and_true, Bool.and_false, decide_true, decide_false, List.getElem?_cons_zero, List.getElem?_cons_succ, Option.some.injEq, exists_eq_left', exists_eq_left, true_and, and_true, at0, at1, at2, at3, List.length_map, List.cons.injEq, Int.cast_ofNat_Int, Int.reduceEq, Int.reduceLT, Int.reduceLE, D.int.injEq, D.str.injEq, D.bl.injEq, D.tup.injEq, D.lst.injEq, exists_const, Int.zero_add, Nat.zero_add, Int.natCast_add, Int.natCast_one, Int.reduceAdd, sp_l_worst]
  refine ⟨b, rows.length, plS rows S, ⟨by rw [plS, List.map_map]; rfl, rfl⟩, okP_of hr h1 h3 hS, fun u hu => ?_⟩
  obtain rfl := worstI_one hu hw
  have eu : (m : Int) * wholeI b rows = ((unit b m rows.length : Nat) : Int) := by unfold wholeI unit; rw [Int.natCast_mul, Int.natCast_pow]
  rw [eu]
  refine ⟨u, unit b m rows.length, rfl, unit_pos hb h1, by omega, ?_⟩
  simp only [SSeq, SNil, SIf, SRet, SSet, SAsg, SPar, SMuL, SApp, SExt, SPut, SFz, frzR, SNo, TVar, TC, TOp, TB, TNil, TCons, TTup, TLst, TKey, oIx, seqOf, TAnd, TOr, TNot, TAndV, TOrV, TNotV, TIf, TCB, cLen, cAbs, cMax2, cMin2, cAll, cList, cTuple, cInt, TIsi, isD, tyD, TCall, TChain, TLc, TLc0, SFor, ISeq, IRg1, IRg2, IZip, TSl, TPs, TPn, slD, cut1, opII, opI0, TNeg, oAdd, oIsN, oNotN, oIsB, getS, startR, GName, GNil, GCons, GTup, List.map_cons, List.map_nil, List.length_cons, List.length_nil, List.cons_append, List.nil_append, List.set_cons_zero, List.set_cons_succ, List.replicate, List.append_nil, Option.map_some, Bool.not_true, Bool.not_false, Bool.false_eq_true, if_true, if_false, ite_true, ite_false, reduceIte, Nat.sub_self, Nat.reduceAdd, Nat.reduceSub, Bool.or_true, Bool.or_false, Bool.true_or, Bool.false_or, Bool.and_true, Bool.and_false, decide_true, decide_false, List.getElem?_cons_zero, List.getElem?_cons_succ, Option.some.injEq, exists_eq_left', exists_eq_left, true_and, and_true, at0, at1, at2, at3, List.length_map, List.cons.injEq, Int.cast_ofNat_Int, Int.reduceEq, Int.reduceLT, Int.reduceLE, D.int.injEq, D.str.injEq, D.bl.injEq, D.tup.injEq, D.lst.injEq, exists_const, Int.zero_add, Nat.zero_add, Int.natCast_add, Int.natCast_one, Int.reduceAdd, eqF]
  refine ⟨k, b, rows, m, _, d, rfl, hr, h1, h3, Nat.lt_of_le_of_lt (mk_den (unit_pos hb h1)) (by omega), hd, ?_⟩
  rw [hgo, if_pos rfl]
  simp only [SSeq, SNil, SIf, SRet, SSet, SAsg, SPar, SMuL, SApp, SExt, SPut, SFz, frzR, SNo, TVar, TC, TOp, TB, TNil, TCons, TTup, TLst, TKey, oIx, seqOf, TAnd, TOr, TNot, TAndV, TOrV, TNotV, TIf, TCB, cLen, cAbs, cMax2, cMin2, cAll, cList, cTuple, cInt, TIsi, isD, tyD, TCall, TChain, TLc, TLc0, SFor, ISeq, IRg1, IRg2, IZip, TSl, TPs, TPn, slD, cut1, opII, opI0, TNeg, oAdd, oIsN, oNotN, oIsB, getS, startR, GName, GNil, GCons, GTup, List.map_cons, List.map_nil, List.length_cons, List.length_nil, List.cons_append, List.nil_append, List.set_cons_zero, List.set_cons_succ, List.replicate, List.append_nil, Option.map_some, Bool.not_true, Bool.not_false, Bool.false_eq_true, if_true, if_false, ite_true, ite_false, reduceIte, Nat.sub_self, Nat.reduceAdd, Nat.reduceSub, Bool.or_true, Bool.or_false, Bool.true_or, Bool.false_or, Bool.and_true, Bool.and_false, decide_true, decide_false, List.getElem?_cons_zero, List.getElem?_cons_succ, Option.some.injEq, exists_eq_left', exists_eq_left, true_and, and_true, at0, at1, at2, at3, List.length_map, List.cons.injEq, Int.cast_ofNat_Int, Int.reduceEq, Int.reduceLT, Int.reduceLE, D.int.injEq, D.str.injEq, D.bl.injEq, D.tup.injEq, D.lst.injEq, exists_const, Int.zero_add, Nat.zero_add, Int.natCast_add, Int.natCast_one, Int.reduceAdd, eqS]
  exact h
end
end Pu

/-! M4: what the checker lets by is never above a set's worst. -/
namespace Pu
open PySem PySem.Spec PyProof.Rows L2
theorem rat_sub {a b c d : Rat} (h : a ≤ b) (k : c ≤ d) : a - d ≤ b - c := by grind
theorem rat_tr {a b c : Rat} (h : a ≤ b) (k : b ≤ c) : a ≤ c := Rat.le_trans h k
/-! ### points and boxes side by side -/
theorem inB_iff {way : Str} : ∀ {s : Nat} {xs qs : List Rat}, xs.length = s → qs.length = s → (inB xs qs way = true ↔ ∀ j, j < s → ahead (xs.getD j 0) (qs.getD j 0) way = true)
  | 0, [], [], _, _ => by simp [inB]
  | s + 1, x :: xs, q :: qs, h, k => by
    have ih := inB_iff (way := way) (s := s) (xs := xs) (qs := qs) (by simpa using h) (by simpa using k)
    unfold inB at ih ⊢
    rw [List.zip_cons_cons, List.all_cons, Bool.and_eq_true, ih]
    constructor
    · rintro ⟨a, b⟩ j hj
      cases j with
      | zero => exact a
      | succ j => exact b j (by omega)
    · intro h
      exact ⟨h 0 (by omega), fun j hj => h (j + 1) (by omega)⟩
theorem up0_nn (q : Rat) : 0 ≤ up0 q := by
  unfold up0
  split
  · exact Rat.le_refl
  · rename_i h; exact Rat.not_lt.mp h
theorem up0_mono {q t : Rat} (h : q ≤ t) : up0 q ≤ up0 t := by
  unfold up0
  split
  · split
    · exact Rat.le_refl
    · rename_i h; exact Rat.not_lt.mp h
  · rename_i h1
    split
    · rename_i h2
      grind
    · exact h
theorem size_mono_aux : ∀ {s : Nat} {qs ts : List Rat} {c e : Rat}, qs.length = s → ts.length = s → (∀ j, j < s → up0 (qs.getD j 0) ≤ up0 (ts.getD j 0)) → 0 ≤ c → c ≤ e → qs.foldl (fun f q => f * up0 q) c ≤ ts.foldl (fun f q => f * up0 q) e
  | 0, [], [], _, _, _, _, _, _, h => h
  | s + 1, q :: qs, t :: ts, c, e, h, k, hj, hc, hce => by
    have h0 : up0 q ≤ up0 t := hj 0 (by omega)
    have h2 : c * up0 q ≤ e * up0 t := rat_tr (Rat.mul_le_mul_of_nonneg_left h0 hc) (Rat.mul_le_mul_of_nonneg_right hce (up0_nn t))
    exact size_mono_aux (s := s) (qs := qs) (ts := ts) (by simpa using h) (by simpa using k) (fun j h => hj (j + 1) (by omega)) (Rat.mul_nonneg hc (up0_nn q)) h2
theorem size_mono {s : Nat} {qs ts : List Rat} (h : qs.length = s) (k : ts.length = s) (hj : ∀ j, j < s → up0 (qs.getD j 0) ≤ up0 (ts.getD j 0)) : sizeQ qs ≤ sizeQ ts :=
  size_mono_aux h k hj (by decide) Rat.le_refl
theorem size_nn_aux : ∀ (qs : List Rat) (c : Rat), 0 ≤ c → 0 ≤ qs.foldl (fun f q => f * up0 q) c
  | [], _, h => h
  | q :: qs, c, h => size_nn_aux qs _ (Rat.mul_nonneg h (up0_nn q))
theorem size_nn (qs : List Rat) : 0 ≤ sizeQ qs := size_nn_aux qs 1 (by decide)
theorem cnt_mono {pts : List (List Rat)} {qs ts : List Rat} {way : Str} (h : ∀ xs ∈ pts, inB xs qs way = true → inB xs ts way = true) : cntB pts qs way ≤ cntB pts ts way := by
  unfold cntB
  induction pts with
  | nil => simp
  | cons x pts ih =>
    have ih := ih fun xs hx => h xs (List.mem_cons_of_mem _ hx)
    rw [List.filter_cons, List.filter_cons]
    by_cases e : inB x qs way = true
    · rw [if_pos e, if_pos (h x List.mem_cons_self e)]
      simpa using ih
    · rw [if_neg e]
      split
      · rw [List.length_cons]; omega
      · exact ih
theorem cnt_all {pts : List (List Rat)} {qs : List Rat} {way : Str} (h : ∀ xs ∈ pts, inB xs qs way = true) : cntB pts qs way = pts.length := by
  unfold cntB
  rw [List.filter_eq_self.mpr h]
theorem cnt_none {pts : List (List Rat)} {qs : List Rat} {way : Str} (h : ∀ xs ∈ pts, inB xs qs way ≠ true) : cntB pts qs way = 0 := by
  unfold cntB
  rw [List.filter_eq_nil_iff.mpr h]; rfl
theorem mem_looks {s : Nat} {pts : List (List Rat)} {ts : List Rat} (hl : ts.length = s) (h : ∀ j, j < s → ts.getD j 0 ∈ edges pts j) : ts ∈ looksQ s pts := by
  refine mem_prodL.mpr ?_
  have gen : ∀ (ts : List Rat) (o : Nat), (∀ j, j < ts.length → ts.getD j 0 ∈ edges pts (o + j)) → Pick ts ((List.range' o ts.length).map (edges pts)) := by
    intro ts
    induction ts with
    | nil => intro o _; trivial
    | cons t ts ih =>
      intro o h
      rw [List.length_cons, List.range'_succ, List.map_cons]
      refine ⟨h 0 (by simp), ih (o + 1) fun j hj => ?_⟩
      have := h (j + 1) (by simpa using hj)
      rw [show o + (j + 1) = o + 1 + j from by omega] at this
      exact this
  have := gen ts 0 fun j hj => by rw [Nat.zero_add]; exact h j (by omega)
  rw [List.range_eq_range', ← hl]
  exact this
theorem looks_mem {s : Nat} {pts : List (List Rat)} {ts : List Rat} (h : ts ∈ looksQ s pts) : ts.length = s ∧ ∀ j, j < s → ts.getD j 0 ∈ edges pts j := by
  have hp := mem_prodL.mp h
  have hl := hp.len
  rw [List.length_map, List.length_range] at hl
  refine ⟨hl, ?_⟩
  have gen : ∀ (ts : List Rat) (o : Nat), Pick ts ((List.range' o ts.length).map (edges pts)) → ∀ j, j < ts.length → ts.getD j 0 ∈ edges pts (o + j) := by
    intro ts
    induction ts with
    | nil => intro o _ j hj; cases hj
    | cons t ts ih =>
      intro o h j hj
      rw [List.length_cons, List.range'_succ, List.map_cons] at h
      cases j with
      | zero => exact h.1
      | succ j =>
        have := ih (o + 1) h.2 j (by simpa using hj)
        rw [show o + (j + 1) = o + 1 + j from by omega]
        exact this
  rw [List.range_eq_range', ← hl] at hp
  intro j hj
  have := gen ts 0 hp j (by omega)
  rw [Nat.zero_add] at this
  exact this
theorem mem_edges {pts : List (List Rat)} {j : Nat} {t : Rat} : t ∈ edges pts j ↔ t = 1 ∨ ∃ xs ∈ pts, t = xs.getD j 0 := by
  unfold edges nums
  rw [List.mem_append, srt_mem, List.mem_map, List.mem_singleton]
  constructor
  · rintro (⟨x, hx, rfl⟩ | rfl)
    · exact .inr ⟨x, hx, rfl⟩
    · exact .inl rfl
  · rintro (rfl | ⟨x, hx, rfl⟩)
    · exact .inr rfl
    · exact .inl ⟨x, hx, rfl⟩
/-! ### any box is no worse than one by the numbers -/
theorem has_max : ∀ l : List Rat, l ≠ [] → ∃ t ∈ l, ∀ x ∈ l, x ≤ t
  | [x], _ => ⟨x, List.mem_cons_self, fun y hy => by rw [List.mem_singleton.mp hy]; exact Rat.le_refl⟩
  | x :: y :: l, _ => by
    obtain ⟨t, ht, hm⟩ := has_max (y :: l) (by simp)
    by_cases h : x ≤ t
    · exact ⟨t, List.mem_cons_of_mem _ ht, fun z hz => (List.mem_cons.mp hz).elim (fun e => e ▸ h) (hm z)⟩
    · have hx : t ≤ x := Rat.le_of_lt (Rat.not_le.mp h)
      exact ⟨x, List.mem_cons_self, fun z hz => (List.mem_cons.mp hz).elim (fun e => e ▸ Rat.le_refl) fun q => rat_tr (hm z q) hx⟩
theorem has_min : ∀ l : List Rat, l ≠ [] → ∃ t ∈ l, ∀ x ∈ l, t ≤ x
  | [x], _ => ⟨x, List.mem_cons_self, fun y hy => by rw [List.mem_singleton.mp hy]; exact Rat.le_refl⟩
  | x :: y :: l, _ => by
    obtain ⟨t, ht, hm⟩ := has_min (y :: l) (by simp)
    by_cases h : t ≤ x
    · exact ⟨t, List.mem_cons_of_mem _ ht, fun z hz => (List.mem_cons.mp hz).elim (fun e => e ▸ h) (hm z)⟩
    · have hx : x ≤ t := Rat.le_of_lt (Rat.not_le.mp h)
      exact ⟨x, List.mem_cons_self, fun z hz => (List.mem_cons.mp hz).elim (fun e => e ▸ Rat.le_refl) fun q => rat_tr hx (hm z q)⟩
theorem shut_iff {x q : Rat} : ahead x q "shut" = true ↔ x ≤ q := by
  unfold ahead
  rw [decide_eq_true (rfl : ("shut" : Str) = "shut"), Bool.and_true, Bool.or_eq_true, decide_eq_true_eq, decide_eq_true_eq]
  constructor
  · rintro (h | rfl)
    · exact Rat.le_of_lt h
    · exact Rat.le_refl
  · intro h
    by_cases e : x = q
    · exact .inr e
    · exact .inl (Rat.not_le.mp fun h2 => e (Rat.le_antisymm h h2))
theorem open_iff {x q : Rat} : ahead x q "open" = true ↔ x < q := by
  unfold ahead
  have e2 : decide (("open" : Str) = "shut") = false := by decide
  rw [e2, Bool.and_false, Bool.or_false, decide_eq_true_eq]
theorem getD_map_range {s : Nat} (t : Nat → Rat) {j : Nat} (hj : j < s) : ((List.range s).map t).getD j 0 = t j := by
  rw [List.getD_eq_getElem?_getD, List.getElem?_map, List.getElem?_range hj]; rfl
theorem over_top {s : Nat} {pts : List (List Rat)} {Q : Rat} {qs : List Rat} (hp : Pts s pts) (hu : ∀ xs ∈ pts, ∀ x ∈ xs, 0 ≤ x ∧ x ≤ 1) (h : ∀ b ∈ looksQ s pts, overQ pts b ≤ Q ∧ lackQ pts b ≤ Q) (hl : qs.length = s) : overQ pts qs ≤ Q := by
  have hm : 0 < pts.length := List.length_pos_iff.mpr hp.ok.ne
  by_cases hc : ∃ xs ∈ pts, inB xs qs "shut" = true
  · obtain ⟨x0, hx0, hi0⟩ := hc
    have ex : ∀ j, ∃ t, j < s → t ∈ edges pts j ∧ t ≤ qs.getD j 0 ∧ ∀ xs ∈ pts, inB xs qs "shut" = true → xs.getD j 0 ≤ t := fun j => by
      by_cases hj : j < s
      · obtain ⟨t, ht, hmx⟩ := has_max (((pts.filter fun xs => inB xs qs "shut")).map fun xs => xs.getD j 0) (by
          intro e
          rw [List.map_eq_nil_iff] at e
          have : x0 ∈ pts.filter fun xs => inB xs qs "shut" := List.mem_filter.mpr ⟨hx0, hi0⟩
          rw [e] at this; cases this)
        obtain ⟨x1, hx1, rfl⟩ := List.mem_map.mp ht
        obtain ⟨hx1, hi1⟩ := List.mem_filter.mp hx1
        refine ⟨_, fun _ => ⟨mem_edges.mpr (.inr ⟨x1, hx1, rfl⟩), shut_iff.mp ((inB_iff (hp.w x1 hx1) hl).mp hi1 j hj), fun xs hx hi => hmx _ (List.mem_map.mpr ⟨xs, List.mem_filter.mpr ⟨hx, hi⟩, rfl⟩)⟩⟩
      · exact ⟨0, fun h => absurd h hj⟩
    let t : Nat → Rat := fun j => (ex j).choose
    have ht : ∀ j, j < s → t j ∈ edges pts j ∧ t j ≤ qs.getD j 0 ∧ ∀ xs ∈ pts, inB xs qs "shut" = true → xs.getD j 0 ≤ t j := fun j hj => (ex j).choose_spec hj
    have hlt : ((List.range s).map t).length = s := by rw [List.length_map, List.length_range]
    have hin : (List.range s).map t ∈ looksQ s pts := mem_looks hlt fun j hj => by rw [getD_map_range t hj]; exact (ht j hj).1
    refine rat_tr ?_ (h _ hin).1
    unfold overQ
    refine rat_sub ?_ (size_mono hlt hl fun j hj => up0_mono (by rw [getD_map_range t hj]; exact (ht j hj).2.1))
    rw [mk_le_same hm]
    have := cnt_mono (pts := pts) (qs := qs) (ts := (List.range s).map t) (way := "shut") fun xs hx hi => (inB_iff (hp.w xs hx) hlt).mpr fun j hj => by
      rw [getD_map_range t hj]
      exact shut_iff.mpr ((ht j hj).2.2 xs hx hi)
    omega
  · have hz : cntB pts qs "shut" = 0 := cnt_none fun xs hx hi => hc ⟨xs, hx, hi⟩
    -- the whole box shows nothing
    have hlt : ((List.range s).map fun _ => (1 : Rat)).length = s := by rw [List.length_map, List.length_range]
    have hin : ((List.range s).map fun _ => (1 : Rat)) ∈ looksQ s pts := mem_looks hlt fun j hj => by rw [getD_map_range (fun _ => 1) hj]; exact mem_edges.mpr (.inl rfl)
    have hall : cntB pts ((List.range s).map fun _ => (1 : Rat)) "shut" = pts.length := cnt_all fun xs hx => (inB_iff (hp.w xs hx) hlt).mpr fun j hj => by
      rw [getD_map_range (fun _ => 1) hj]
      refine shut_iff.mpr (hu xs hx _ ?_).2
      have hw := hp.w xs hx
      rw [List.getD_eq_getElem?_getD, List.getElem?_eq_getElem (by omega)]
      exact List.getElem_mem _
    have hs1 : sizeQ ((List.range s).map fun _ => (1 : Rat)) = 1 := by
      have : ∀ n : Nat, sizeQ (List.replicate n (1 : Rat)) = 1 := fun n => by
        unfold sizeQ
        induction n with
        | zero => rfl
        | succ n ih =>
          rw [List.replicate_succ, List.foldl_cons]
          have e : (1 : Rat) * up0 1 = 1 := by decide +kernel
          rw [e]; exact ih
      rw [List.map_const', List.length_range]
      exact this s
    have h0 := (h _ hin).1
    unfold overQ at h0 ⊢
    rw [hall, hs1] at h0
    rw [hz]
    have e1 : mkRat (pts.length : Int) pts.length = 1 := by
      have := mk_inj (a := (pts.length : Int)) (c := (pts.length : Int)) hm
      rw [show (1 : Rat) = mkRat 1 1 from by decide +kernel]
      refine Rat.le_antisymm ((mk_le hm (by omega)).mpr ?_) ((mk_le (by omega) hm).mpr ?_) <;> omega
    have e0 : mkRat ((0 : Nat) : Int) pts.length = 0 := by simp
    rw [e1] at h0
    rw [e0]
    have := size_nn qs
    grind
theorem lack_top {s : Nat} {pts : List (List Rat)} {Q : Rat} {qs : List Rat} (hp : Pts s pts) (h : ∀ b ∈ looksQ s pts, overQ pts b ≤ Q ∧ lackQ pts b ≤ Q) (hl : qs.length = s) (h1 : ∀ q ∈ qs, q ≤ 1) : lackQ pts qs ≤ Q := by
  have hm : 0 < pts.length := List.length_pos_iff.mpr hp.ok.ne
  have ex : ∀ j, ∃ t, j < s → t ∈ edges pts j ∧ qs.getD j 0 ≤ t ∧ ∀ xs ∈ pts, xs.getD j 0 < t → xs.getD j 0 < qs.getD j 0 := fun j => by
    by_cases hj : j < s
    · have hq1 : qs.getD j 0 ≤ 1 := h1 _ (by
        rw [List.getD_eq_getElem?_getD, List.getElem?_eq_getElem (by omega)]
        exact List.getElem_mem _)
      obtain ⟨t, ht, hmn⟩ := has_min ((edges pts j).filter fun t => decide (qs.getD j 0 ≤ t)) (by
        intro e
        have : (1 : Rat) ∈ (edges pts j).filter fun t => decide (qs.getD j 0 ≤ t) := List.mem_filter.mpr ⟨mem_edges.mpr (.inl rfl), decide_eq_true hq1⟩
        rw [e] at this; cases this)
      obtain ⟨ht, hq⟩ := List.mem_filter.mp ht
      refine ⟨t, fun _ => ⟨ht, of_decide_eq_true hq, fun xs hx hlt => Rat.not_le.mp fun hge => ?_⟩⟩
      exact Rat.not_le.mpr hlt (hmn _ (List.mem_filter.mpr ⟨mem_edges.mpr (.inr ⟨xs, hx, rfl⟩), decide_eq_true hge⟩))
    · exact ⟨0, fun h => absurd h hj⟩
  let t : Nat → Rat := fun j => (ex j).choose
  have ht : ∀ j, j < s → t j ∈ edges pts j ∧ qs.getD j 0 ≤ t j ∧ ∀ xs ∈ pts, xs.getD j 0 < t j → xs.getD j 0 < qs.getD j 0 := fun j hj => (ex j).choose_spec hj
  have hlt : ((List.range s).map t).length = s := by rw [List.length_map, List.length_range]
  have hin : (List.range s).map t ∈ looksQ s pts := mem_looks hlt fun j hj => by rw [getD_map_range t hj]; exact (ht j hj).1
  refine rat_tr ?_ (h _ hin).2
  unfold lackQ
  refine rat_sub (size_mono hl hlt fun j hj => up0_mono (by rw [getD_map_range t hj]; exact (ht j hj).2.1)) ?_
  rw [mk_le_same hm]
  have := cnt_mono (pts := pts) (qs := (List.range s).map t) (ts := qs) (way := "open") fun xs hx hi => (inB_iff (hp.w xs hx) hl).mpr fun j hj => by
    have := (inB_iff (hp.w xs hx) hlt).mp hi j hj
    rw [getD_map_range t hj] at this
    exact open_iff.mpr ((ht j hj).2.2 xs hx (open_iff.mp this))
  omega
end Pu

/-! M5: whole numbers and fractions of a set's worst; a paper that is let by. -/
namespace Pu
open PySem PySem.Spec PyProof.Rows L2
theorem ptsOf_fb (b : Nat) (rows : List (List Int)) (S : List Int) : ptsOf (gsOf b rows) S = (plS rows S).map (List.map (fb b)) := by
  unfold ptsOf plS
  rw [List.map_map]
  refine List.map_congr_left fun k _ => ?_
  rw [prod_gs, getD_fb]; rfl
theorem self_rg (pl : List (List Int)) : pl = (rgI 0 pl.length).map fun k => pl.getD k.toNat [] := by
  refine List.ext_getElem? fun i => ?_
  unfold rgI
  rw [List.map_map, List.getElem?_map]
  by_cases h : i < pl.length
  · rw [List.getElem?_range (by omega), List.getElem?_eq_getElem h]
    show _ = some (pl.getD (0 + (i : Int)).toNat [])
    rw [show (0 + (i : Int)).toNat = i from by omega, List.getD_eq_getElem?_getD, List.getElem?_eq_getElem h]; rfl
  · rw [List.getElem?_eq_none (by omega), List.getElem?_eq_none (by rw [List.length_range]; omega)]; rfl
theorem kIn_len (pl : List (List Int)) (ts : List Int) (sh : Bool) : (kIn pl ts sh).length = (pl.filter fun xs => inI xs ts sh).length := by
  unfold kIn
  conv => rhs; rw [self_rg pl, List.filter_map, List.length_map]
  rfl
theorem cnt_fb {b : Nat} (way : Str) (sh : Bool) (h : ∀ x t, ahead (fb b x) (fb b t) way = lesI x t sh) (pl : List (List Int)) (ts : List Int) : cntB (pl.map (List.map (fb b))) (ts.map (fb b)) way = (kIn pl ts sh).length := by
  rw [kIn_len]
  unfold cntB
  rw [List.filter_map, List.length_map]
  congr 1
  refine List.filter_congr fun xs _ => ?_
  exact inB_fb way sh h xs ts
theorem overQ_fb {b s : Nat} {pl : List (List Int)} {ts : List Int} (hb : 0 < b) (hm : 1 ≤ pl.length) (hl : ts.length = s) (ht : ∀ t ∈ ts, 0 ≤ t) : overQ (pl.map (List.map (fb b))) (ts.map (fb b)) = mkRat (ovI b s pl ts) (unit b pl.length s) := by
  have hp : 0 < b ^ ts.length := Nat.pow_pos hb
  unfold overQ
  rw [size_fb hb ht, cnt_fb "shut" true (ahead_shut hb), List.length_map, mk_sub (by omega) hp, hl]
  unfold ovI unit
  rw [Int.natCast_pow, Int.mul_comm (sizeI ts)]
theorem lackQ_fb {b s : Nat} {pl : List (List Int)} {ts : List Int} (hb : 0 < b) (hm : 1 ≤ pl.length) (hl : ts.length = s) (ht : ∀ t ∈ ts, 0 ≤ t) : lackQ (pl.map (List.map (fb b))) (ts.map (fb b)) = mkRat (lkI b s pl ts) (unit b pl.length s) := by
  have hp : 0 < b ^ ts.length := Nat.pow_pos hb
  unfold lackQ
  rw [size_fb hb ht, cnt_fb "open" false (ahead_open hb), List.length_map, mk_sub hp (by omega), hl]
  unfold lkI unit
  rw [Int.natCast_pow, Int.mul_comm (sizeI ts), Nat.mul_comm]
theorem edge_fb {b : Nat} {pl : List (List Int)} {s j : Nat} (hb : 0 < b) (hw : ∀ xs ∈ pl, xs.length = s) (hj : j < s) {q : Rat} : q ∈ edges (pl.map (List.map (fb b))) j ↔ ∃ t, EdgeI pl b j t ∧ q = fb b t := by
  have e1 : fb b (b : Int) = 1 := by
    unfold fb
    rw [show (1 : Rat) = mkRat 1 1 from by decide +kernel]
    refine Rat.le_antisymm ((mk_le hb (by omega)).mpr ?_) ((mk_le (by omega) hb).mpr ?_) <;> omega
  have e2 : ∀ xs ∈ pl, (xs.map (fb b)).getD j 0 = fb b (xs.getD j 0) := fun xs hx => by
    have := hw xs hx
    rw [List.getD_eq_getElem?_getD, List.getElem?_map, List.getD_eq_getElem?_getD, List.getElem?_eq_getElem (by omega)]; rfl
  rw [mem_edges]
  constructor
  · rintro (rfl | ⟨ys, hy, rfl⟩)
    · exact ⟨b, .inl rfl, e1.symm⟩
    · obtain ⟨xs, hx, rfl⟩ := List.mem_map.mp hy
      exact ⟨_, .inr ⟨xs, hx, rfl⟩, e2 xs hx⟩
  · rintro ⟨t, rfl | ⟨xs, hx, rfl⟩, rfl⟩
    · exact .inl e1
    · exact .inr ⟨_, List.mem_map_of_mem hx, (e2 xs hx).symm⟩
theorem looks_fb {b s : Nat} {pl : List (List Int)} (hP : OkP b s pl) {qs : List Rat} : qs ∈ looksQ s (pl.map (List.map (fb b))) ↔ ∃ ts, PickI pl b s ts ∧ qs = ts.map (fb b) := by
  have hb : 0 < b := by have := hP.b9; omega
  constructor
  · intro h
    obtain ⟨hl, he⟩ := looks_mem h
    have ex : ∀ j, ∃ t, j < s → EdgeI pl b j t ∧ qs.getD j 0 = fb b t := fun j => by
      by_cases hj : j < s
      · obtain ⟨t, h1, h2⟩ := (edge_fb hb hP.w hj).mp (he j hj)
        exact ⟨t, fun _ => ⟨h1, h2⟩⟩
      · exact ⟨0, fun h => absurd h hj⟩
    let t : Nat → Int := fun j => (ex j).choose
    have ht : ∀ j, j < s → EdgeI pl b j (t j) ∧ qs.getD j 0 = fb b (t j) := fun j hj => (ex j).choose_spec hj
    refine ⟨(List.range s).map t, ⟨by rw [List.length_map, List.length_range], fun j u hu => ?_⟩, ?_⟩
    · rw [List.getElem?_map] at hu
      obtain ⟨i, hi, rfl⟩ := Option.map_eq_some_iff.mp hu
      have hj := len_at hi
      rw [List.length_range] at hj
      rw [List.getElem?_range hj] at hi
      cases hi
      exact (ht j hj).1
    · refine List.ext_getElem? fun j => ?_
      rw [List.map_map, List.getElem?_map]
      by_cases hj : j < s
      · rw [List.getElem?_range hj, List.getElem?_eq_getElem (by omega)]
        have := (ht j hj).2
        rw [List.getD_eq_getElem?_getD, List.getElem?_eq_getElem (by omega)] at this
        exact congrArg some this
      · rw [List.getElem?_eq_none (by omega), List.getElem?_eq_none (by rw [List.length_range]; omega)]; rfl
  · rintro ⟨ts, ⟨hl, he⟩, rfl⟩
    refine mem_looks (by rw [List.length_map, hl]) fun j hj => (edge_fb hb hP.w hj).mpr ⟨ts.getD j 0, he j _ ?_, ?_⟩
    · rw [List.getD_eq_getElem?_getD, List.getElem?_eq_getElem (by omega)]; rfl
    · rw [List.getD_eq_getElem?_getD, List.getElem?_map, List.getD_eq_getElem?_getD, List.getElem?_eq_getElem (by omega)]; rfl
/-- the set's worst, by fractions and by whole numbers -/
theorem worst_fb {b s : Nat} {pl : List (List Int)} (hP : OkP b s pl) {q : Rat} {way : Str} {bx : List Rat} (h : Worst s (pl.map (List.map (fb b))) q way bx) : ∃ v, WorstI b s pl v ∧ q = mkRat v (unit b pl.length s) := by
  have hb : 0 < b := by have := hP.b9; omega
  have hu := unit_pos (s := s) hb hP.m1
  obtain ⟨h1, h2, h3⟩ := h
  obtain ⟨ts, hts, rfl⟩ := (looks_fb hP).mp h1
  have all : ∀ v : Int, q = mkRat v (unit b pl.length s) → ∀ us, PickI pl b s us → ovI b s pl us ≤ v ∧ lkI b s pl us ≤ v := fun v e us hus => by
    have h4 := h3 _ ((looks_fb hP).mpr ⟨us, hus, rfl⟩)
    have hn : ∀ t ∈ us, 0 ≤ t := fun t ht => (pick_bd hP (Nat.le_refl _) hus t ht).1
    rw [overQ_fb hb hP.m1 hus.1 hn, lackQ_fb hb hP.m1 hus.1 hn, e, mk_le_same hu, mk_le_same hu] at h4
    exact h4
  have hn : ∀ t ∈ ts, 0 ≤ t := fun t ht => (pick_bd hP (Nat.le_refl _) hts t ht).1
  rcases h2 with ⟨_, e⟩ | ⟨_, e⟩
  · rw [overQ_fb hb hP.m1 hts.1 hn] at e
    exact ⟨_, ⟨⟨ts, hts, .inl rfl⟩, all _ e⟩, e⟩
  · rw [lackQ_fb hb hP.m1 hts.1 hn] at e
    exact ⟨_, ⟨⟨ts, hts, .inr rfl⟩, all _ e⟩, e⟩
theorem top_fb {b s : Nat} {pl : List (List Int)} (hP : OkP b s pl) {v : Int} (h : WorstI b s pl v) : ∀ qs ∈ looksQ s (pl.map (List.map (fb b))), overQ (pl.map (List.map (fb b))) qs ≤ mkRat v (unit b pl.length s) ∧ lackQ (pl.map (List.map (fb b))) qs ≤ mkRat v (unit b pl.length s) := by
  have hb : 0 < b := by have := hP.b9; omega
  have hu := unit_pos (s := s) hb hP.m1
  intro qs hq
  obtain ⟨ts, hts, rfl⟩ := (looks_fb hP).mp hq
  have hn : ∀ t ∈ ts, 0 ≤ t := fun t ht => (pick_bd hP (Nat.le_refl _) hts t ht).1
  rw [overQ_fb hb hP.m1 hts.1 hn, lackQ_fb hb hP.m1 hts.1 hn, mk_le_same hu, mk_le_same hu]
  exact h.2 ts hts
/-! ### counts -/
theorem len_sub {l r : List Int} (hn : l.Nodup) (h : ∀ k ∈ l, k ∈ r) : l.length ≤ r.length := hn.length_le_of_subset h
theorem lyN_pts (gs : List (List Rat)) (S : List Int) (qs : List Rat) (way : Str) : lyN (prodL gs) S qs way = cntB (ptsOf gs S) qs way := by
  unfold lyN cntB ptsOf
  rw [List.filter_map, List.length_map]; rfl
theorem lyN_le {pl : List (List Rat)} {qs : List Rat} {way : Str} {l r : List Int} (hn : l.Nodup) (h : ∀ k ∈ l, k ∈ r) : lyN pl l qs way ≤ lyN pl r qs way :=
  len_sub (hn.filter _) fun k hk => List.mem_filter.mpr ⟨h k (List.mem_filter.mp hk).1, (List.mem_filter.mp hk).2⟩
theorem lyN_app (pl : List (List Rat)) (a c : List Int) (qs : List Rat) (way : Str) : lyN pl (a ++ c) qs way = lyN pl a qs way + lyN pl c qs way := by
  unfold lyN
  rw [List.filter_append, List.length_append]
theorem out_le {pl : List (List Rat)} {qs : List Rat} {way : Str} {l r : List Int} (hn : l.Nodup) (h : ∀ k ∈ l, k ∈ r) : l.length + lyN pl r qs way ≤ r.length + lyN pl l qs way := by
  have e : ∀ l : List Int, l.length = lyN pl l qs way + (l.filter fun k => !inB (pl.getD k.toNat []) qs way).length := fun l => by
    unfold lyN
    rw [← List.countP_eq_length_filter, ← List.countP_eq_length_filter]
    have := List.length_eq_countP_add_countP (fun k => inB (pl.getD k.toNat []) qs way) (l := l)
    rw [this]
    congr 1
    refine List.countP_congr fun k _ => ?_
    simp
  have h1 := e l
  have h2 := e r
  have h3 := len_sub (hn.filter fun k => !inB (pl.getD k.toNat []) qs way) (r := r.filter fun k => !inB (pl.getD k.toNat []) qs way) fun k hk => List.mem_filter.mpr ⟨h k (List.mem_filter.mp hk).1, (List.mem_filter.mp hk).2⟩
  omega
theorem lyN_len (pl : List (List Rat)) (l : List Int) (qs : List Rat) (way : Str) : lyN pl l qs way ≤ l.length := List.length_filter_le _ _
/-! ### what is let by -/
/-- the set fits what is taken and free -/
structure FitsS (m : Nat) (tk fr_ S : List Int) : Prop where
  nd : (tk ++ fr_).Nodup
  sn : S.Nodup
  len : S.length = m
  lo : ∀ k ∈ tk, k ∈ S
  hi : ∀ k ∈ S, k ∈ tk ++ fr_
theorem over_le {gs : List (List Rat)} {m : Nat} {tk fr_ S : List Int} {qs : List Rat} (h1 : 1 ≤ m) (F : FitsS m tk fr_ S) : overBy (prodL gs) m tk fr_ qs ≤ overQ (ptsOf gs S) qs := by
  unfold overBy overQ
  have hl : (ptsOf gs S).length = m := by unfold ptsOf; rw [List.length_map, F.len]
  rw [hl, ← lyN_pts]
  refine rat_sub ((mk_le_same (by omega)).mpr ?_) Rat.le_refl
  have a1 : lyN (prodL gs) tk qs "shut" ≤ lyN (prodL gs) S qs "shut" := lyN_le (List.nodup_append.mp F.nd).1 F.lo
  have a2 := out_le (pl := prodL gs) (qs := qs) (way := "shut") F.sn F.hi
  rw [lyN_app, List.length_append, F.len] at a2
  unfold overCnt
  dsimp only
  split <;> omega
theorem lack_le {gs : List (List Rat)} {m : Nat} {tk fr_ S : List Int} {qs : List Rat} (h1 : 1 ≤ m) (F : FitsS m tk fr_ S) : lackBy (prodL gs) m tk fr_ qs ≤ lackQ (ptsOf gs S) qs := by
  unfold lackBy lackQ
  have hl : (ptsOf gs S).length = m := by unfold ptsOf; rw [List.length_map, F.len]
  rw [hl, ← lyN_pts]
  refine rat_sub Rat.le_refl ((mk_le_same (by omega)).mpr ?_)
  have a1 : lyN (prodL gs) S qs "open" ≤ lyN (prodL gs) (tk ++ fr_) qs "open" := lyN_le F.sn F.hi
  rw [lyN_app] at a1
  have a2 := out_le (pl := prodL gs) (qs := qs) (way := "open") (List.nodup_append.mp F.nd).1 F.lo
  rw [F.len] at a2
  unfold lackCnt
  dsimp only
  split <;> omega
theorem sound_aux {gs : List (List Rat)} {m : Nat} {q Q : Rat} {S : List Int} (hg : OkG gs) (h1 : 1 ≤ m) (h3 : m ≤ 3) (hS : S ∈ setsI (prodL gs).length m)
    (ht : ∀ b ∈ looksQ gs.length (ptsOf gs S), overQ (ptsOf gs S) b ≤ Q ∧ lackQ (ptsOf gs S) b ≤ Q) : ∀ (f k : Nat) (d : D) (tk fr_ : List Int), OkT k d → FitsS m tk fr_ S → goB gs m q f d tk fr_ = true → q ≤ Q := by
  obtain ⟨hp, hnum⟩ := pts_ok hg h1 h3 hS
  have hu : ∀ xs ∈ ptsOf gs S, ∀ x ∈ xs, 0 ≤ x ∧ x ≤ 1 := fun xs hx x hxx => ⟨(hnum xs hx x hxx).1, (hnum xs hx x hxx).2.1⟩
  have box : ∀ (k : Nat) (b : D) (tk fr_ : List Int), OkT k b → FitsS m tk fr_ S → isCorner gs.length b = true → ∀ z : Str, z ≠ "many" → z ≠ "few" → leafB gs m q z [b] tk fr_ = true → q ≤ Q := by
    intro k b tk fr_ hb F hc z z1 z2 hl
    obtain ⟨qs, rfl, hql, hqe⟩ := corner_box hb hc
    have hql : qs.length = gs.length := by omega
    unfold leafB at hl
    rw [if_neg z1, if_neg z2] at hl
    dsimp only at hl
    rw [unbox_box] at hl
    split at hl
    · rw [Bool.not_eq_true', decide_eq_false_iff_not] at hl
      exact rat_tr (Rat.not_lt.mp hl) (rat_tr (over_le h1 F) (over_top hp hu ht hql))
    · rw [Bool.not_eq_true', decide_eq_false_iff_not] at hl
      exact rat_tr (Rat.not_lt.mp hl) (rat_tr (lack_le h1 F) (lack_top hp ht hql fun q hq => (hqe q hq).hi))
  intro f
  induction f with
  | zero =>
    intro k d tk fr_ hd F h
    by_cases hs : isShaped d = true
    · rcases shaped_cases hs with ⟨p, a, b, rfl⟩ | rfl | rfl | ⟨b, rfl⟩ | ⟨b, rfl⟩
      · by_cases hi : ∃ i, p = .int i
        · obtain ⟨i, rfl⟩ := hi
          rw [go_take0] at h; cases h
        · rw [go_notake (fun i e => hi ⟨i, e⟩)] at h; cases h
      · rw [go_many] at h
        have h : decide (m < tk.length) = true := h
        have := len_sub (List.nodup_append.mp F.nd).1 F.lo
        rw [F.len] at this
        rw [decide_eq_true_eq] at h; omega
      · rw [go_few] at h
        have h : decide (tk.length + fr_.length < m) = true := h
        have := len_sub F.sn F.hi
        rw [F.len, List.length_append] at this
        rw [decide_eq_true_eq] at h; omega
      · rw [go_over, Bool.and_eq_true] at h
        exact box _ b tk fr_ ((okT_at hd).2 b (by simp)) F h.1 "over" (by decide) (by decide) h.2
      · rw [go_lack, Bool.and_eq_true] at h
        exact box _ b tk fr_ ((okT_at hd).2 b (by simp)) F h.1 "lack" (by decide) (by decide) h.2
    · rw [shaped_no (by simpa using hs)] at h; cases h
  | succ f ih =>
    intro k d tk fr_ hd F h
    by_cases hs : isShaped d = true
    · rcases shaped_cases hs with ⟨p, a, b, rfl⟩ | rfl | rfl | ⟨b, rfl⟩ | ⟨b, rfl⟩
      · by_cases hi : ∃ i, p = .int i
        · obtain ⟨i, rfl⟩ := hi
          rw [go_take, Bool.and_eq_true, Bool.and_eq_true, decide_eq_true_eq] at h
          obtain ⟨hin, hA, hB⟩ := h
          obtain ⟨n1, n2, n3⟩ := List.nodup_append.mp F.nd
          have hnt : i ∉ tk := fun hi => n3 i hi i hin rfl
          have mf : ∀ k, k ∈ fr_.filter (fun k => decide (k ≠ i)) ↔ k ∈ fr_ ∧ k ≠ i := fun k => by simp [List.mem_filter]
          by_cases hiS : i ∈ S
          · refine ih _ a _ _ ((okT_at hd).2 a (by simp)) ⟨?_, F.sn, F.len, fun k hk => ?_, fun k hk => ?_⟩ hA
            · refine List.nodup_append.mpr ⟨List.nodup_append.mpr ⟨n1, by simp, fun x hx y hy e => ?_⟩, n2.filter _, fun x hx y hy e => ?_⟩
              · rw [List.mem_singleton.mp hy] at e; exact hnt (e ▸ hx)
              · subst e
                obtain ⟨y1, y2⟩ := (mf x).mp hy
                rcases List.mem_append.mp hx with q | q
                · exact n3 x q x y1 rfl
                · exact y2 (List.mem_singleton.mp q)
            · rcases List.mem_append.mp hk with q | q
              · exact F.lo k q
              · rw [List.mem_singleton.mp q]; exact hiS
            · by_cases e : k = i
              · rw [e]; simp
              · rcases List.mem_append.mp (F.hi k hk) with q | q
                · exact List.mem_append_left _ (List.mem_append_left _ q)
                · exact List.mem_append_right _ ((mf k).mpr ⟨q, e⟩)
          · refine ih _ b _ _ ((okT_at hd).2 b (by simp)) ⟨?_, F.sn, F.len, F.lo, fun k hk => ?_⟩ hB
            · exact List.nodup_append.mpr ⟨n1, n2.filter _, fun x hx y hy e => n3 x hx y ((mf y).mp hy).1 e⟩
            · rcases List.mem_append.mp (F.hi k hk) with q | q
              · exact List.mem_append_left _ q
              · exact List.mem_append_right _ ((mf k).mpr ⟨q, fun e => hiS (e ▸ hk)⟩)
        · rw [go_notake (fun i e => hi ⟨i, e⟩)] at h; cases h
      · rw [go_many] at h
        have h : decide (m < tk.length) = true := h
        have := len_sub (List.nodup_append.mp F.nd).1 F.lo
        rw [F.len] at this
        rw [decide_eq_true_eq] at h; omega
      · rw [go_few] at h
        have h : decide (tk.length + fr_.length < m) = true := h
        have := len_sub F.sn F.hi
        rw [F.len, List.length_append] at this
        rw [decide_eq_true_eq] at h; omega
      · rw [go_over, Bool.and_eq_true] at h
        exact box _ b tk fr_ ((okT_at hd).2 b (by simp)) F h.1 "over" (by decide) (by decide) h.2
      · rw [go_lack, Bool.and_eq_true] at h
        exact box _ b tk fr_ ((okT_at hd).2 b (by simp)) F h.1 "lack" (by decide) (by decide) h.2
    · rw [shaped_no (by simpa using hs)] at h; cases h
theorem inc_nodup {N : Int} : ∀ {S : List Int} {lo : Int}, Inc lo N S → S.Nodup
  | [], _, _ => List.nodup_nil
  | a :: S, lo, h => List.nodup_cons.mpr ⟨fun hm => by have := inc_ge h.2.2 hm; omega, inc_nodup h.2.2⟩
theorem rg_nodup (N : Int) : (rgI 0 N).Nodup := inc_nodup (N := N) (inc_rg _ rfl (Int.le_refl 0))
theorem NR_eq (b : Nat) (rows : List (List Int)) : (prodL (gsOf b rows)).length = NR rows := by rw [prod_gs, List.length_map]; rfl
/-- what is let by is no more than any set's worst -/
theorem sound {b : Nat} {rows : List (List Int)} {m k f : Nat} {v u : Int} {d : D} {S : List Int} (hr : OkR b rows) (h1 : 1 ≤ m) (h3 : m ≤ 3) (hd : OkT k d) (hS : S ∈ setsI (NR rows) m) (hu : WorstI b rows.length (plS rows S) u)
    (h : goB (gsOf b rows) m (mkRat v (unit b m rows.length)) f d [] (rgI 0 (NR rows)) = true) : v ≤ u := by
  have hP := okP_of hr h1 h3 hS
  have hb : 0 < b := by have := hr.b9; omega
  have hun := unit_pos (s := rows.length) hb h1
  obtain ⟨hl, hi⟩ := mem_setsI.mp hS
  have hlen : (plS rows S).length = m := by rw [plS, List.length_map, hl]
  have ht := top_fb hP hu
  rw [← ptsOf_fb, hlen] at ht
  have e : (gsOf b rows).length = rows.length := List.length_map _
  refine (mk_le_same hun).mp (sound_aux (okG_of hr) h1 h3 (by rw [NR_eq]; exact hS) (by rw [e]; exact ht) f k d [] _ hd ⟨by rw [List.nil_append]; exact rg_nodup _, inc_nodup hi, hl, fun k hk => (nomatch hk), fun k hk => ?_⟩ h)
  rw [List.nil_append]
  exact mem_rgI.mpr (by have := inc_ge hi hk; omega)
end Pu

/-! M6: the told tree is let by; the law's own tree shows no more than the least. -/
namespace Pu
open PySem PySem.Spec PyProof.Rows L2
theorem shB_over (b : D) : shB [b] (.str "over") = true := by rfl
theorem over_full {gs : List (List Rat)} {m : Nat} {tk fr_ S : List Int} {qs : List Rat} (h1 : 1 ≤ m) (hl : S.length = m) (h : (tk = S) ∨ (tk ++ fr_ = S)) : overQ (ptsOf gs S) qs ≤ overBy (prodL gs) m tk fr_ qs := by
  unfold overBy overQ
  have hp : (ptsOf gs S).length = m := by unfold ptsOf; rw [List.length_map, hl]
  rw [hp, ← lyN_pts]
  refine rat_sub ((mk_le_same (by omega)).mpr ?_) Rat.le_refl
  unfold overCnt
  dsimp only
  rcases h with rfl | rfl
  · split <;> omega
  · rw [lyN_app]
    rw [List.length_append] at hl
    split <;> omega
theorem lack_full {gs : List (List Rat)} {m : Nat} {tk fr_ S : List Int} {qs : List Rat} (h1 : 1 ≤ m) (hl : S.length = m) (h : (tk = S) ∨ (tk ++ fr_ = S)) : lackQ (ptsOf gs S) qs ≤ lackBy (prodL gs) m tk fr_ qs := by
  unfold lackBy lackQ
  have hp : (ptsOf gs S).length = m := by unfold ptsOf; rw [List.length_map, hl]
  rw [hp, ← lyN_pts]
  refine rat_sub Rat.le_refl ((mk_le_same (by omega)).mpr ?_)
  unfold lackCnt
  dsimp only
  rcases h with rfl | rfl
  · split <;> omega
  · rw [lyN_app]
    rw [List.length_append] at hl
    split <;> omega
theorem leaf_by {gs : List (List Rat)} {m f : Nat} {q : Rat} {W : Wf} {tk fr_ S : List Int} (hg : OkG gs) (h1 : 1 ≤ m) (h3 : m ≤ 3) (hS : S ∈ setsI (prodL gs).length m) (hW : Worst gs.length (ptsOf gs S) (W S).1 (W S).2.1 (W S).2.2) (hq : q ≤ (W S).1) (h : tk = S ∨ tk ++ fr_ = S) : goB gs m q f (leafD (W S)) tk fr_ = true := by
  obtain ⟨hl, hi⟩ := mem_setsI.mp hS
  obtain ⟨hp, hnum⟩ := pts_ok hg h1 h3 hS
  obtain ⟨w1, w2, w3⟩ := hW
  obtain ⟨bl, be⟩ := looks_mem w1
  have ed : ∀ x ∈ (W S).2.2, Ed x := fun x hx => by
    obtain ⟨j, hj, rfl⟩ := List.mem_iff_getElem.mp hx
    have he := be j (by omega)
    rw [List.getD_eq_getElem?_getD, List.getElem?_eq_getElem hj] at he
    rcases mem_edges.mp he with e | ⟨xs, hxs, e⟩
    · have e : (W S).2.2[j] = 1 := e
      rw [e]; exact ⟨by decide, by decide, by decide⟩
    · have e : (W S).2.2[j] = xs.getD j 0 := e
      have hw := hp.w xs hxs
      have := hnum xs hxs (xs.getD j 0) (by rw [List.getD_eq_getElem?_getD, List.getElem?_eq_getElem (by omega)]; exact List.getElem_mem _)
      rw [e]
      exact ⟨rat_tr (by decide) this.1, this.2.1, this.2.2⟩
  have hc := corner_ok (s := gs.length) bl ed
  unfold leafD
  rcases w2 with ⟨e1, e2⟩ | ⟨e1, e2⟩
  · rw [e1, go_over, hc, Bool.true_and]
    unfold leafB
    rw [if_neg (by decide), if_neg (by decide)]
    dsimp only
    rw [if_pos rfl, unbox_box, Bool.not_eq_true', decide_eq_false_iff_not]
    exact Rat.not_lt.mpr (rat_tr hq (e2 ▸ over_full h1 hl h))
  · rw [e1, go_lack, hc, Bool.true_and]
    unfold leafB
    rw [if_neg (by decide), if_neg (by decide)]
    dsimp only
    rw [if_neg (by decide), unbox_box, Bool.not_eq_true', decide_eq_false_iff_not]
    exact Rat.not_lt.mpr (rat_tr hq (e2 ▸ lack_full h1 hl h))
theorem filt_rg {a N : Int} (h : a < N) : (rgI a N).filter (fun k => decide (k ≠ a)) = rgI (a + 1) N := by
  rw [rgI_cons h, List.filter_cons_of_neg (by simp)]
  refine List.filter_eq_self.mpr fun k hk => ?_
  have := mem_rgI.mp hk
  simp; omega
theorem tree_by {gs : List (List Rat)} {m : Nat} {q : Rat} {W : Wf} (hg : OkG gs) (h1 : 1 ≤ m) (h3 : m ≤ 3) (hW : Worsts gs m W (setsI (prodL gs).length m)) (hq : ∀ S ∈ setsI (prodL gs).length m, q ≤ (W S).1) :
    ∀ (f f2 : Nat) (tk : List Int) (at_ : Int), Inc 0 at_ tk → 0 ≤ at_ → at_ ≤ (prodL gs).length → tk.length ≤ m → (m : Int) ≤ (tk.length : Int) + (prodL gs).length - at_ → ((prodL gs).length : Int) - at_ ≤ f → ((prodL gs).length : Int) - at_ ≤ f2 → goB gs m q f2 (treeD W (prodL gs).length m f tk at_) tk (rgI at_ (prodL gs).length) = true := by
  intro f
  induction f with
  | zero =>
    intro f2 tk at_ hi h0 hN hl hm hf hff
    unfold treeD
    by_cases e1 : tk.length = m
    · rw [if_pos e1]
      have hS : tk ∈ setsI (prodL gs).length m := mem_setsI.mpr ⟨e1, inc_up hi hN⟩
      exact leaf_by hg h1 h3 hS (hW _ hS) (hq _ hS) (.inl rfl)
    · exfalso; omega
  | succ f ih =>
    intro f2 tk at_ hi h0 hN hl hm hf hff
    unfold treeD
    by_cases e1 : tk.length = m
    · rw [if_pos e1]
      have hS : tk ∈ setsI (prodL gs).length m := mem_setsI.mpr ⟨e1, inc_up hi hN⟩
      exact leaf_by hg h1 h3 hS (hW _ hS) (hq _ hS) (.inl rfl)
    · rw [if_neg e1]
      by_cases e2 : (tk.length : Int) + (prodL gs).length - at_ = m
      · rw [if_pos e2]
        have hS : tk ++ rgI at_ (prodL gs).length ∈ setsI (prodL gs).length m := mem_setsI.mpr ⟨by rw [List.length_append, rgI_length]; omega, inc_cat hi hN (fun lo hlo => inc_rg _ rfl hlo) h0⟩
        exact leaf_by hg h1 h3 hS (hW _ hS) (hq _ hS) (.inr rfl)
      · rw [if_neg e2]
        dsimp only
        match f2, hff with
        | 0, hff => exfalso; omega
        | g + 1, hff =>
          rw [go_take, filt_rg (by omega), Bool.and_eq_true, Bool.and_eq_true, decide_eq_true_eq]
          refine ⟨mem_rgI.mpr (by omega), ih g _ _ (inc_snoc_at hi h0) (by omega) (by omega) ?_ ?_ (by omega) (by omega), ih g _ _ (inc_up hi (by omega)) (by omega) (by omega) (by omega) (by omega) (by omega) (by omega)⟩
          · rw [List.length_append, List.length_singleton]; omega
          · rw [List.length_append, List.length_singleton]; omega
theorem strs_ok : PyData.strOk "take" = true ∧ PyData.strOk "over" = true ∧ PyData.strOk "lack" = true ∧ PyData.strOk "to" = true := by decide +kernel
theorem okU_fr {B L : Nat} {q : Rat} (hL : 2 ≤ L) (h1 : -(B : Int) ≤ q.num) (h2 : q.num ≤ B) (h3 : q.den ≤ B) : OkU B L 2 (fr q) := by
  refine ⟨hL, fun d hd => ?_⟩
  rcases List.mem_cons.mp hd with rfl | hd
  · exact ⟨h1, h2⟩
  · rw [List.mem_singleton.mp hd]
    exact ⟨by omega, by omega⟩
theorem okU_box {B L : Nat} {qs : List Rat} (hL : 2 ≤ L) (hl : qs.length ≤ L) (h : ∀ q ∈ qs, -(B : Int) ≤ q.num ∧ q.num ≤ B ∧ q.den ≤ B) : OkU B L 4 (boxD qs) := by
  refine ⟨by rw [List.length_map]; exact hl, fun d hd => ?_⟩
  obtain ⟨q, hq, rfl⟩ := List.mem_map.mp hd
  refine ⟨hL, fun d hd => ?_⟩
  rcases List.mem_cons.mp hd with rfl | hd
  · exact strs_ok.2.2.2
  · rw [List.mem_singleton.mp hd]
    obtain ⟨a, c, e⟩ := h q hq
    exact okU_fr hL a c e
theorem okU_leaf {B L : Nat} {qs : List Rat} {way : Str} (hw : way = "over" ∨ way = "lack") (hL : 2 ≤ L) (hl : qs.length ≤ L) (h : ∀ q ∈ qs, -(B : Int) ≤ q.num ∧ q.num ≤ B ∧ q.den ≤ B) : OkU B L 5 (.tup [.str way, boxD qs]) := by
  refine ⟨hL, fun d hd => ?_⟩
  rcases List.mem_cons.mp hd with rfl | hd
  · rcases hw with rfl | rfl
    · exact strs_ok.2.1
    · exact strs_ok.2.2.1
  · rw [List.mem_singleton.mp hd]
    exact okU_box hL hl h
theorem mk_num {v : Int} {u : Nat} : (mkRat v u).num.natAbs ≤ v.natAbs := by
  rw [Rat.num_mkRat v u]
  split
  · simp
  · rw [Int.natAbs_ediv_of_dvd]
    · exact Nat.div_le_self _ _
    · exact Int.ofNat_dvd_left.mpr (Nat.gcd_dvd_right _ _)
theorem mk_den' {v : Int} {u : Nat} (hu : 0 < u) : (mkRat v u).den ≤ u := by
  rw [Rat.den_mkRat v u]
  split
  · omega
  · exact Nat.div_le_self _ _
theorem leaf_okU {b : Nat} {rows : List (List Int)} {m : Nat} {W : Wf} {S : List Int} (hr : OkR b rows) (h1 : 1 ≤ m) (h3 : m ≤ 3) (hS : S ∈ setsI (NR rows) m) (hW : Worst rows.length (ptsOf (gsOf b rows) S) (W S).1 (W S).2.1 (W S).2.2) : OkU 997 4 5 (leafD (W S)) := by
  have hP := okP_of hr h1 h3 hS
  have hb : 0 < b := by have := hr.b9; omega
  have hb2 := hr.b997
  obtain ⟨w1, w2, w3⟩ := hW
  rw [ptsOf_fb] at w1
  obtain ⟨ts, hts, e⟩ := (looks_fb hP).mp w1
  refine okU_leaf (w2.imp And.left And.left) (by omega) ?_ fun q hq => ?_
  · rw [e, List.length_map, hts.1]; have := hr.s2; omega
  · rw [e] at hq
    obtain ⟨t, ht, rfl⟩ := List.mem_map.mp hq
    obtain ⟨t0, t1⟩ := pick_bd hP (Nat.le_refl _) hts t ht
    have a1 : (mkRat t b).num.natAbs ≤ t.natAbs := mk_num
    have a2 : (mkRat t b).den ≤ b := mk_den' hb
    unfold fb
    omega
theorem tree_okU {b : Nat} {rows : List (List Int)} {m : Nat} {W : Wf} (hr : OkR b rows) (h1 : 1 ≤ m) (h3 : m ≤ 3) (hW : ∀ S ∈ setsI (NR rows) m, Worst rows.length (ptsOf (gsOf b rows) S) (W S).1 (W S).2.1 (W S).2.2) :
    ∀ (f : Nat) (tk : List Int) (at_ : Int), Inc 0 at_ tk → 0 ≤ at_ → at_ ≤ NR rows → tk.length ≤ m → (m : Int) ≤ (tk.length : Int) + NR rows - at_ → OkU 997 4 (f + 5) (treeD W (NR rows) m f tk at_) := by
  have hN8 : NR rows ≤ 8 := hr.len
  intro f
  induction f with
  | zero =>
    intro tk at_ hi h0 hN hl hm
    unfold treeD
    by_cases e1 : tk.length = m
    · rw [if_pos e1]
      have hS : tk ∈ setsI (NR rows) m := mem_setsI.mpr ⟨e1, inc_up hi hN⟩
      exact leaf_okU hr h1 h3 hS (hW _ hS)
    · rw [if_neg e1]
      by_cases e2 : (tk.length : Int) + NR rows - at_ = m
      · rw [if_pos e2]
        have hS : tk ++ rgI at_ (NR rows) ∈ setsI (NR rows) m := mem_setsI.mpr ⟨by rw [List.length_append, rgI_length]; omega, inc_cat hi hN (fun lo hlo => inc_rg _ rfl hlo) h0⟩
        exact leaf_okU hr h1 h3 hS (hW _ hS)
      · rw [if_neg e2]; trivial
  | succ f ih =>
    intro tk at_ hi h0 hN hl hm
    unfold treeD
    by_cases e1 : tk.length = m
    · rw [if_pos e1]
      have hS : tk ∈ setsI (NR rows) m := mem_setsI.mpr ⟨e1, inc_up hi hN⟩
      exact OkU.mono (Nat.le_refl _) (Nat.le_refl _) (leaf_okU hr h1 h3 hS (hW _ hS)) (by omega)
    · rw [if_neg e1]
      by_cases e2 : (tk.length : Int) + NR rows - at_ = m
      · rw [if_pos e2]
        have hS : tk ++ rgI at_ (NR rows) ∈ setsI (NR rows) m := mem_setsI.mpr ⟨by rw [List.length_append, rgI_length]; omega, inc_cat hi hN (fun lo hlo => inc_rg _ rfl hlo) h0⟩
        exact OkU.mono (Nat.le_refl _) (Nat.le_refl _) (leaf_okU hr h1 h3 hS (hW _ hS)) (by omega)
      · rw [if_neg e2]
        dsimp only
        refine ⟨by simp, fun d hd => ?_⟩
        simp only [List.mem_cons, List.not_mem_nil, or_false] at hd
        rcases hd with rfl | rfl | rfl | rfl
        · exact strs_ok.1
        · exact ⟨by omega, by omega⟩
        · refine ih _ _ (inc_snoc_at hi h0) (by omega) (by omega) ?_ ?_
          · rw [List.length_append, List.length_singleton]; omega
          · rw [List.length_append, List.length_singleton]; omega
        · exact ih _ _ (inc_up hi (by omega)) (by omega) (by omega) (by omega) (by omega)
/-- all of what the told least set is -/
theorem told_ok {b : Nat} {rows : List (List Int)} {m : Nat} {v : Int} {W : Wf} {S : List Int} (hr : OkR b rows) (h1 : 1 ≤ m) (h3 : m ≤ 3) (hmN : m ≤ NR rows) (hv : LeastI b rows m v)
    (hW : Worsts (gsOf b rows) m W (setsI (NR rows) m)) (hS : S ∈ setsI (NR rows) m) (hmin : ∀ T ∈ setsI (NR rows) m, (W S).1 ≤ (W T).1) :
    (W S).1 = mkRat v (unit b m rows.length) ∧ WorstI b rows.length (plS rows S) v ∧ goB (gsOf b rows) m (mkRat v (unit b m rows.length)) 8 (treeD W (NR rows) m 9 [] 0) [] (rgI 0 (NR rows)) = true := by
  have hb : 0 < b := by have := hr.b9; omega
  have hun := unit_pos (s := rows.length) hb h1
  have e : (gsOf b rows).length = rows.length := List.length_map _
  have hW2 : ∀ T ∈ setsI (NR rows) m, ∃ u, WorstI b rows.length (plS rows T) u ∧ (W T).1 = mkRat u (unit b m rows.length) := fun T hT => by
    have hw := hW T hT
    have hP := okP_of hr h1 h3 hT
    rw [e, ptsOf_fb] at hw
    obtain ⟨u, a, c⟩ := worst_fb hP hw
    have hl : (plS rows T).length = m := by rw [plS, List.length_map, (mem_setsI.mp hT).1]
    rw [hl] at c
    exact ⟨u, a, c⟩
  obtain ⟨u, hu, eu⟩ := hW2 S hS
  obtain ⟨⟨S0, hS0, hv0⟩, hle⟩ := hv
  obtain ⟨u0, hu0, eu0⟩ := hW2 S0 hS0
  have e0 := worstI_one hu0 hv0
  subst e0
  have h4 := hmin S0 hS0
  rw [eu, eu0, mk_le_same hun] at h4
  have h5 := hle S hS u hu
  have huv : u = u0 := by omega
  subst huv
  refine ⟨eu, hu, ?_⟩
  have hN := NR_eq b rows
  have hN8 : NR rows ≤ 8 := hr.len
  have := tree_by (gs := gsOf b rows) (q := mkRat u (unit b m rows.length)) (okG_of hr) h1 h3 (W := W) (by rw [hN]; exact hW) (by rw [hN, ← eu]; exact hmin) 9 8 [] 0 trivial (Int.le_refl _) (by omega) (by simp) (by rw [List.length_nil]; omega) (by omega) (by omega)
  rw [hN] at this
  exact this
theorem told_okU {b : Nat} {rows : List (List Int)} {m : Nat} {W : Wf} (hr : OkR b rows) (h1 : 1 ≤ m) (h3 : m ≤ 3) (hmN : m ≤ NR rows) (hW : Worsts (gsOf b rows) m W (setsI (NR rows) m)) : OkU 997 4 14 (treeD W (NR rows) m 9 [] 0) := by
  have e : (gsOf b rows).length = rows.length := List.length_map _
  refine tree_okU hr h1 h3 (fun S hS => ?_) 9 [] 0 trivial (Int.le_refl _) (by omega) (by simp) (by rw [List.length_nil]; omega)
  have := hW S hS
  rw [e] at this
  exact this
/-- a tree of the law's own -/
theorem own_ok {b : Nat} {rows : List (List Int)} {m k : Nat} {v : Int} {d : D} {o : Option Int} (hr : OkR b rows) (h1 : 1 ≤ m) (h3 : m ≤ 3) (hd : OkT k d) (hv : LeastI b rows m v) (h : Shows b rows m [] (rgI 0 (NR rows)) d o) : ∃ w, o = some w ∧ w ≤ v ∧ goB (gsOf b rows) m (mkRat w (unit b m rows.length)) 8 d [] (rgI 0 (NR rows)) = true ∧ goB (gsOf b rows) m (mkRat (w + 1) (unit b m rows.length)) 8 d [] (rgI 0 (NR rows)) = false := by
  have hN8 : NR rows ≤ 8 := hr.len
  have hf : (rgI 0 (NR rows)).length ≤ 8 := by rw [rgI_len]; exact hN8
  obtain ⟨⟨S0, hS0, hv0⟩, _⟩ := hv
  cases o with
  | none =>
    exfalso
    have := sound hr h1 h3 hd hS0 hv0 (h 8 (v + 1) hf)
    omega
  | some w =>
    have a1 := h 8 w hf
    have a2 := h 8 (w + 1) hf
    have e1 : letB (some w) w = true := decide_eq_true (Int.le_refl w)
    have e2 : letB (some w) (w + 1) = false := decide_eq_false (by omega)
    rw [e1] at a1
    rw [e2] at a2
    exact ⟨w, rfl, sound hr h1 h3 hd hS0 hv0 a1, a1, a2⟩
theorem worstI_bd {b s : Nat} {pl : List (List Int)} {v : Int} (hP : OkP b s pl) (h : WorstI b s pl v) : v.natAbs < 10 ^ 8 := by
  obtain ⟨⟨ts, hts, e⟩, _⟩ := h
  have hb := pick_bd hP (Nat.le_refl _) hts
  obtain ⟨a, c⟩ := sizeI_bd hb hP.b997 (by rw [hts.1]; exact hP.s2)
  have hm := hP.m3
  have hk : ∀ sh, (kIn pl ts sh).length ≤ 3 := fun sh => by
    rw [kIn_len]
    exact Nat.le_trans (List.length_filter_le _ _) hm
  have hw : (b : Int) ^ s ≤ 994009 := by
    have h1 : b ^ s ≤ 997 ^ 2 := Nat.le_trans (Nat.pow_le_pow_left hP.b997 _) (Nat.pow_le_pow_right (by omega) hP.s2)
    rw [← Int.natCast_pow]; omega
  have hw0 : 0 ≤ (b : Int) ^ s := Int.pow_nonneg (by omega)
  have m1 : 0 ≤ (pl.length : Int) * sizeI ts := Int.mul_nonneg (by omega) a
  have m2 : (pl.length : Int) * sizeI ts ≤ 3 * 1000000 := Int.mul_le_mul (by omega) c a (by omega)
  have n1 : ∀ sh, 0 ≤ ((kIn pl ts sh).length : Int) * (b : Int) ^ s := fun sh => Int.mul_nonneg (by omega) hw0
  have n2 : ∀ sh, ((kIn pl ts sh).length : Int) * (b : Int) ^ s ≤ 3 * 994009 := fun sh => Int.mul_le_mul (by have := hk sh; omega) hw hw0 (by omega)
  have a1 := n1 true
  have a2 := n2 true
  have a3 := n1 false
  have a4 := n2 false
  rcases e with e | e
  · unfold ovI at e; omega
  · unfold lkI at e; omega
end Pu

/-! W12: the law. -/
namespace Pu
open PySem PySem.Spec PyProof PyProof.Rows L2
abbrev lawN : List Str := ["_law_script", "_law_tape_here", "_law_case", "_law_places_here", "_law_due", "_law_many", "_law_unit", "_law_least_here", "_law_told", "_law_more", "_law_papers", "_law_side", "_law_paper", "_law_tree_here", "_law_worth", "_law_number", "_law_found", "_law_spot", "_law_k", "_law_word", "_law_x"]
abbrev s_law : Stmt := top 85
theorem sc_law : FnScope lawN ["_law_script"] (defScope s_law) := ⟨rfl, rfl, rfl, by decide +kernel, rfl, by decide +kernel, by decide +kernel⟩
def yesE : PEnds := { nx := fun _ _ => False, rt := fun d _ => d = .bl true }
section
variable {Pr : Program} {w : World} {K : PySem.W.Frag} {mg : Str → Option Value} {base : Heap} {C CN : Addr}
abbrev lawX (Pr : Program) (w : World) (K : PySem.W.Frag) (mg : Str → Option Value) (base : Heap) (f : Addr) (cdv : Value) (A : Around) (outer : List Env) (s : Shared) (H : Hp) (E : XK) : Cx := (cxOf CX0 Pr w K mg base lawN "law" (defScope s_law) f cdv A outer s H E).nox
abbrev lawA (A : Around) (s : Shared) (f : Addr) (cdv : Value) : Around := A.deeper (envOfC "law" (defScope s_law) s.heap.objs.size f cdv)
theorem neS2 (a c : Str) (P : D → Prop) : oNe (.str a) (.str c) P = P (.bl (!decide (a = c))) := rfl
theorem eqS2 (a c : Str) (P : D → Prop) : oEq (.str a) (.str c) P = P (.bl (decide (a = c))) := rfl
def ForT (g : TrG) (S : TrS) (E : PEnds) (ds : List D) (ρ : Rho) (n1 : Nat) : Prop := ∃ Inv : Nat → Rho → Nat → Prop, Inv 0 ρ n1 ∧
  (∀ i d ρ n, ds[i]? = some d → Inv i ρ n → g d ρ fun ρ2 => S { E with nx := Inv (i + 1), ct := Inv (i + 1), bk := E.nx } ρ2 n) ∧ ∀ ρ n, Inv ds.length ρ n → E.nx ρ n
theorem sfor_eq {W : TrI} {g : TrG} {S : TrS} {E : PEnds} {ρ : Rho} {n : Nat} (h : W ρ n fun ds n1 => ForT g S E ds ρ n1) : SFor W g S E ρ n := h
theorem forT_mk {g : TrG} {S : TrS} {E : PEnds} {ds : List D} {ρ : Rho} {n1 : Nat} (Inv : Nat → Rho → Nat → Prop) (h0 : Inv 0 ρ n1) (hd : ∀ ρ n, Inv ds.length ρ n → E.nx ρ n)
    (hs : ∀ i d ρ n, ds[i]? = some d → Inv i ρ n → ∀ NX : Rho → Nat → Prop, (∀ ρ n, Inv (i + 1) ρ n → NX ρ n) → ∀ BK : Rho → Nat → Prop, g d ρ fun ρ2 => S { E with nx := NX, ct := NX, bk := BK } ρ2 n) : ForT g S E ds ρ n1 :=
  ⟨Inv, h0, fun i d ρ n e hi => hs i d ρ n e hi _ (fun _ _ h => h) _, hd⟩
theorem bent_mk (f : Nat) {B L : Nat} {d : D} {n : Nat} {P : D → Nat → Prop} (hf : f ≤ 50) (h1 : OkU B L (f + 1) d) (hB : 2 ≤ B) (hL : 2 ≤ L) (hL2 : L ≤ 100) (hn : n ≤ 100000) (h : ∀ d' n', OkU (B + 1) (L + 1) (f + 4) d' → n' ≤ n + 4 * (f + 1) → P d' n') : sp_l_bent (f + 1) [.tape, d] n P :=
  ⟨B, L, d, rfl, h1, hB, hL, hL2, hf, by omega, h⟩
theorem yes_other : decide (("yes" : Str) = "other") = false := by decide
theorem no_other : decide (("no" : Str) = "other") = false := by decide
theorem yes_yes : decide (("yes" : Str) = "yes") = true := by decide
theorem no_yes : decide (("no" : Str) = "yes") = false := by decide
theorem no_no : decide (("no" : Str) = "no") = true := by decide
theorem tree_mk (f : Nat) {b : Nat} {rows : List (List Int)} {m : Nat} {held free : List Int} {deep : Int} {n : Nat} {P : D → Nat → Prop} (hr : OkR b rows) (h1 : 1 ≤ m) (h3 : m ≤ 3) (hh : OkK rows held) (hf : OkK rows free) (hn : free.Nodup) (hl : held.length + free.length ≤ 8) (hd : deep ≤ f) (hn2 : n + 4 * 2 ^ f + 10 < 2 ^ 40)
    (h : ∀ d o n', Shows b rows m held free d o → OkU 997 4 (f + 6) d → n' + 1 ≤ n + 4 * 2 ^ f → P (.tup [d, oD o]) n') : sp_l_tree (f + 1) [.tape, caseD b rows, .int m, intsD held, intsD free, .int deep] n P :=
  ⟨b, rows, m, held, free, deep, rfl, hr, h1, h3, hh, hf, hn, hl, hd, hn2, h⟩
/-- the papers are tried -/
theorem law_end (f : Addr) (cdv : Value) (A : Around) (outer : List Env) (s : Shared) (H : Hp) (E : XK) (B : Bt mg) (Cc : Cs K w mg) (hr : Room 30 (lawA A s f cdv))
    (h_l_bent2 : Has Pr w K mg base "_law_bent" ["_law_tape_here", "_law_thing"] (k_l_bent 18) (sp_l_bent 18)) (h_l_draw : Has Pr w K mg base "_law_draw" ["_law_tape_here", "_law_many"] k_l_draw sp_l_draw) (h_l_lets : Has Pr w K mg base "_law_lets" ["_law_case", "_law_many", "_law_number", "_law_thing"] k_l_lets sp_l_lets) (h_l_low : Has Pr w K mg base "_law_low" ["_law_top", "_law_bottom"] k_l_low sp_l_low) :
    ∃ S, PSts (lawX Pr w K mg base f cdv A outer s H E) ((defBody s_law).drop 19) S ∧ ∀ (b : Nat) (rows : List (List Int)) (m : Nat) (v u : Int) (papers : List D) (t0 t3 t4 t8 t9 t11 t12 t13 t15 t16 t17 t18 t19 t20 : Sl) (n : Nat), OkR b rows → 1 ≤ m → m ≤ 3 → LeastI b rows m v → 6 ≤ papers.length → papers.length ≤ 20 → (∀ d ∈ papers, OkU 998 5 18 d) → n ≤ 5000 →
      S yesE [t0, .val .tape, .val (caseD b rows), t3, t4, .val (.int m), .val (.int (unit b m rows.length : Nat)), .val (.int v), t8, t9, .val (.lst papers), t11, t12, t13, .val (.int u), t15, t16, t17, t18, t19, t20] n := by
  have sc := sc_law
  refine ⟨_, (bCons (sFz 10 (sFor .never (iL (vAdd (vN 10) (vLst (aCons (vCall h_l_bent2 hr (aCons (vN 1) (aCons (vIx (vN 10) vI) aNil))) (aCons (vCall h_l_bent2 hr (aCons (vN 1) (aCons (vIx (vN 10) vI) aNil))) aNil))))) (gN 12 sc.nd)
      (bOne (sFor .never (iL (vLst (aCons (vAdd (vN 7) vI) (aCons (vIx (vLst (aCons (vAdd (vN 14) vI) (aCons (vN 6) (aCons (vN 7) (aCons vI (aCons (vDiv (vAdd (vN 7) (vN 6)) vI) aNil)))))) (vCall h_l_draw hr (aCons (vN 1) (aCons vI aNil)))) aNil)))) (gN 15 sc.nd)
        (bCons (sSet 16 sc.nd (vCall h_l_lets hr (aCons (vN 2) (aCons (vN 5) (aCons (vCall h_l_low hr (aCons (vN 15) (aCons (vN 6) aNil))) (aCons (vN 12) aNil))))))
        (bOne (sIf (bW (wOr (bEq hr (vN 16) vS) (wOr1 (bW (wAnd (bEq hr (vN 16) vS) (wAnd1 (bGt (vN 15) (vN 7))))))))
          (bOne (sRet vB))
          bNil))))))) (bOne (sRet vB))), ?_⟩
  intro b rows m v u papers t0 t3 t4 t8 t9 t11 t12 t13 t15 t16 t17 t18 t19 t20 n hrr h1 h3 hv hp6 hp20 hpa hn
  simp only [SSeq, SNil, SIf, SRet, SSet, SAsg, SPar, SMuL, SApp, SExt, SPut, SFz, frzR, SNo, TVar, TC, TOp, TB, TNil, TCons, TTup, TLst, TKey, oIx, seqOf, TAnd, TOr, TNot, TAndV, TOrV, TNotV, TIf, TCB, cLen, cAbs, cMax2, cMin2, cAll, cList, cTuple, cInt, TIsi, isD, tyD, TCall, TChain, TLc, TLc0, ISeq, IRg1, IRg2, IZip, TSl, TPs, TPn, slD, cut1, opII, opI0, TNeg, oAdd, oIsN, oNotN, oIsB, opEq, eqD, getS, startR, GName, GNil, GCons, GTup, List.map_cons, List.map_nil, List.length_cons, List.length_nil, List.cons_append, List.nil_append, List.set_cons_zero, List.set_cons_succ, List.replicate, List.append_nil, Option.map_some, Bool.not_true, Bool.not_false, Bool.false_eq_true, if_true, if_false, ite_true, ite_false, reduceIte, Nat.sub_self, Nat.reduceAdd, Nat.reduceSub, Bool.or_true, Bool.or_false, Bool.true_or, Bool.false_or, Bool.and_true, Bool.and_false, decide_true, decide_false, List.getElem?_cons_zero, List.getElem?_cons_succ, Option.some.injEq, exists_eq_left', exists_eq_left, true_and, and_true, at0, at1, at2, at3, List.length_map, List.cons.injEq, Int.cast_ofNat_Int, Int.reduceEq, Int.reduceLT, Int.reduceLE, D.int.injEq, D.str.injEq, D.bl.injEq, D.tup.injEq, D.lst.injEq, exists_const, Int.zero_add, Nat.zero_add, Int.natCast_add, Int.natCast_one, Int.reduceAdd, yesE]
  refine sfor_eq ?_
  simp only [SSeq, SNil, SIf, SRet, SSet, SAsg, SPar, SMuL, SApp, SExt, SPut, SFz, frzR, SNo, TVar, TC, TOp, TB, TNil, TCons, TTup, TLst, TKey, oIx, seqOf, TAnd, TOr, TNot, TAndV, TOrV, TNotV, TIf, TCB, cLen, cAbs, cMax2, cMin2, cAll, cList, cTuple, cInt, TIsi, isD, tyD, TCall, TChain, TLc, TLc0, ISeq, IRg1, IRg2, IZip, TSl, TPs, TPn, slD, cut1, opII, opI0, TNeg, oAdd, oIsN, oNotN, oIsB, opEq, eqD, getS, startR, GName, GNil, GCons, GTup, List.map_cons, List.map_nil, List.length_cons, List.length_nil, List.cons_append, List.nil_append, List.set_cons_zero, List.set_cons_succ, List.replicate, List.append_nil, Option.map_some, Bool.not_true, Bool.not_false, Bool.false_eq_true, if_true, if_false, ite_true, ite_false, reduceIte, Nat.sub_self, Nat.reduceAdd, Nat.reduceSub, Bool.or_true, Bool.or_false, Bool.true_or, Bool.false_or, Bool.and_true, Bool.and_false, decide_true, decide_false, List.getElem?_cons_zero, List.getElem?_cons_succ, Option.some.injEq, exists_eq_left', exists_eq_left, true_and, and_true, at0, at1, at2, at3, List.length_map, List.cons.injEq, Int.cast_ofNat_Int, Int.reduceEq, Int.reduceLT, Int.reduceLE, D.int.injEq, D.str.injEq, D.bl.injEq, D.tup.injEq, D.lst.injEq, exists_const, Int.zero_add, Nat.zero_add, Int.natCast_add, Int.natCast_one, Int.reduceAdd]
  obtain ⟨p4, q4, m4⟩ := atI_mem (ds := papers) (r := 4) (by omega) (by omega)
  obtain ⟨p5, q5, m5⟩ := atI_mem (ds := papers) (r := 5) (by omega) (by omega)
  refine ⟨p4, q4, bent_mk 17 (by omega) (hpa _ m4) (by omega) (by omega) (by omega) (by omega) fun d1 n1 o1 hn1 => ?_⟩
  refine ⟨p5, q5, bent_mk 17 (by omega) (hpa _ m5) (by omega) (by omega) (by omega) (by omega) fun d2 n2 o2 hn2 => ?_⟩
  refine ⟨sz8 (by omega), sz1000 (by omega), ?_⟩
  have hall : ∀ d ∈ papers ++ [d1, d2], OkT 21 d := fun d hd => by
    rcases List.mem_append.mp hd with q | q
    · exact ((hpa d q).mono (Nat.le_refl _) (Nat.le_refl _) (by omega)).okT (by omega) (by omega)
    · rcases List.mem_cons.mp q with rfl | q
      · exact o1.okT (by omega) (by omega)
      · rw [List.mem_singleton.mp q]; exact o2.okT (by omega) (by omega)
  have hlen : (papers ++ [d1, d2]).length ≤ 22 := by rw [List.length_append, List.length_cons, List.length_cons, List.length_nil]; omega
  clear m4 m5 q4 q5 o1 o2
  generalize papers ++ [d1, d2] = ps at hall hlen
  obtain ⟨⟨S0, hS0, hv0⟩, _⟩ := id hv
  have hun := unit_pos (s := rows.length) (by have := hrr.b9; omega : 0 < b) h1
  have hun2 := unit_lt hrr h3
  have hsound : ∀ d ∈ ps, ∀ x : Int, goB (gsOf b rows) m (mkRat x (unit b m rows.length)) 8 d [] (rgI 0 (NR rows)) = true → x ≤ v := fun d hd x hx => sound hrr h1 h3 (hall d hd) hS0 hv0 hx
  refine forT_mk (fun i ρ n => n ≤ n2 + i ∧ ∃ a12 a15 a16 : Sl, Is ρ [t0, .val .tape, .val (caseD b rows), t3, t4, .val (.int m), .val (.int (unit b m rows.length : Nat)), .val (.int v), t8, t9, .val (.lst papers), t11, a12, t13, .val (.int u), a15, a16, t17, t18, t19, t20]) ⟨Nat.le_refl _, _, _, _, rfl⟩ ?_ ?_
  · rintro ρ n3 ⟨_, a12, a15, a16, rfl⟩
    simp only [SSeq, SNil, SIf, SRet, SSet, SAsg, SPar, SMuL, SApp, SExt, SPut, SFz, frzR, SNo, TVar, TC, TOp, TB, TNil, TCons, TTup, TLst, TKey, oIx, seqOf, TAnd, TOr, TNot, TAndV, TOrV, TNotV, TIf, TCB, cLen, cAbs, cMax2, cMin2, cAll, cList, cTuple, cInt, TIsi, isD, tyD, TCall, TChain, TLc, TLc0, SFor, ISeq, IRg1, IRg2, IZip, TSl, TPs, TPn, slD, cut1, opII, opI0, TNeg, oAdd, oIsN, oNotN, oIsB, opEq, eqD, getS, startR, GName, GNil, GCons, GTup, List.map_cons, List.map_nil, List.length_cons, List.length_nil, List.cons_append, List.nil_append, List.set_cons_zero, List.set_cons_succ, List.replicate, List.append_nil, Option.map_some, Bool.not_true, Bool.not_false, Bool.false_eq_true, if_true, if_false, ite_true, ite_false, reduceIte, Nat.sub_self, Nat.reduceAdd, Nat.reduceSub, Bool.or_true, Bool.or_false, Bool.true_or, Bool.false_or, Bool.and_true, Bool.and_false, decide_true, decide_false, List.getElem?_cons_zero, List.getElem?_cons_succ, Option.some.injEq, exists_eq_left', exists_eq_left, true_and, and_true, at0, at1, at2, at3, List.length_map, List.cons.injEq, Int.cast_ofNat_Int, Int.reduceEq, Int.reduceLT, Int.reduceLE, D.int.injEq, D.str.injEq, D.bl.injEq, D.tup.injEq, D.lst.injEq, exists_const, Int.zero_add, Nat.zero_add, Int.natCast_add, Int.natCast_one, Int.reduceAdd]
  · rintro i d ρ n3 hd ⟨hn3, a12, a15, a16, rfl⟩ NX hNX BK
    have hdm := List.mem_of_getElem? hd
    have hi := len_at hd
    simp only [SSeq, SNil, SIf, SRet, SSet, SAsg, SPar, SMuL, SApp, SExt, SPut, SFz, frzR, SNo, TVar, TC, TOp, TB, TNil, TCons, TTup, TLst, TKey, oIx, seqOf, TAnd, TOr, TNot, TAndV, TOrV, TNotV, TIf, TCB, cLen, cAbs, cMax2, cMin2, cAll, cList, cTuple, cInt, TIsi, isD, tyD, TCall, TChain, TLc, TLc0, ISeq, IRg1, IRg2, IZip, TSl, TPs, TPn, slD, cut1, opII, opI0, TNeg, oAdd, oIsN, oNotN, oIsB, opEq, eqD, getS, startR, GName, GNil, GCons, GTup, List.map_cons, List.map_nil, List.length_cons, List.length_nil, List.cons_append, List.nil_append, List.set_cons_zero, List.set_cons_succ, List.replicate, List.append_nil, Option.map_some, Bool.not_true, Bool.not_false, Bool.false_eq_true, if_true, if_false, ite_true, ite_false, reduceIte, Nat.sub_self, Nat.reduceAdd, Nat.reduceSub, Bool.or_true, Bool.or_false, Bool.true_or, Bool.false_or, Bool.and_true, Bool.and_false, decide_true, decide_false, List.getElem?_cons_zero, List.getElem?_cons_succ, Option.some.injEq, exists_eq_left', exists_eq_left, true_and, and_true, at0, at1, at2, at3, List.length_map, List.cons.injEq, Int.cast_ofNat_Int, Int.reduceEq, Int.reduceLT, Int.reduceLE, D.int.injEq, D.str.injEq, D.bl.injEq, D.tup.injEq, D.lst.injEq, exists_const, Int.zero_add, Nat.zero_add, Int.natCast_add, Int.natCast_one, Int.reduceAdd]
    refine sfor_eq ?_
    simp only [SSeq, SNil, SIf, SRet, SSet, SAsg, SPar, SMuL, SApp, SExt, SPut, SFz, frzR, SNo, TVar, TC, TOp, TB, TNil, TCons, TTup, TLst, TKey, oIx, seqOf, TAnd, TOr, TNot, TAndV, TOrV, TNotV, TIf, TCB, cLen, cAbs, cMax2, cMin2, cAll, cList, cTuple, cInt, TIsi, isD, tyD, TCall, TChain, TLc, TLc0, ISeq, IRg1, IRg2, IZip, TSl, TPs, TPn, slD, cut1, opII, opI0, TNeg, oAdd, oIsN, oNotN, oIsB, opEq, eqD, getS, startR, GName, GNil, GCons, GTup, List.map_cons, List.map_nil, List.length_cons, List.length_nil, List.cons_append, List.nil_append, List.set_cons_zero, List.set_cons_succ, List.replicate, List.append_nil, Option.map_some, Bool.not_true, Bool.not_false, Bool.false_eq_true, if_true, if_false, ite_true, ite_false, reduceIte, Nat.sub_self, Nat.reduceAdd, Nat.reduceSub, Bool.or_true, Bool.or_false, Bool.true_or, Bool.false_or, Bool.and_true, Bool.and_false, decide_true, decide_false, List.getElem?_cons_zero, List.getElem?_cons_succ, Option.some.injEq, exists_eq_left', exists_eq_left, true_and, and_true, at0, at1, at2, at3, List.length_map, List.cons.injEq, Int.cast_ofNat_Int, Int.reduceEq, Int.reduceLT, Int.reduceLE, D.int.injEq, D.str.injEq, D.bl.injEq, D.tup.injEq, D.lst.injEq, exists_const, Int.zero_add, Nat.zero_add, Int.natCast_add, Int.natCast_one, Int.reduceAdd]
    refine ⟨⟨by omega, by omega⟩, sz8 (by omega), 5, rfl, by omega, by omega, by omega, fun r r0 r1 => ?_⟩
    obtain ⟨dx, hdx, hmx⟩ := atI_mem (ds := [D.int (u + 1), D.int (unit b m rows.length : Nat), D.int v, D.int 0, D.int ((v + (unit b m rows.length : Nat)) / 2)]) (r := r) r0 (by simpa using r1)
    have hx : ∃ x : Int, dx = .int x := by
      simp only [List.mem_cons, List.not_mem_nil, or_false] at hmx
      rcases hmx with rfl | rfl | rfl | rfl | rfl <;> exact ⟨_, rfl⟩
    obtain ⟨x, rfl⟩ := hx
    refine ⟨_, hdx, sz8 (by omega), ?_⟩
    refine forT_mk (fun j ρ n => n = n3 + 1 ∧ ∃ a15 a16 : Sl, Is ρ [t0, .val .tape, .val (caseD b rows), t3, t4, .val (.int m), .val (.int (unit b m rows.length : Nat)), .val (.int v), t8, t9, .val (.lst papers), t11, .val d, t13, .val (.int u), a15, a16, t17, t18, t19, t20]) ⟨rfl, _, _, rfl⟩ ?_ ?_
    · rintro ρ n4 ⟨rfl, a15, a16, rfl⟩
      exact hNX _ _ ⟨by omega, _, _, _, rfl⟩
    · rintro j dj ρ n4 hdj ⟨rfl, a15, a16, rfl⟩ NY hNY BK2
      have hdj2 := List.mem_of_getElem? hdj
      have hy : ∃ y : Int, dj = .int y := by
        simp only [List.mem_cons, List.not_mem_nil, or_false] at hdj2
        rcases hdj2 with rfl | rfl <;> exact ⟨_, rfl⟩
      obtain ⟨y, rfl⟩ := hy
      simp only [SSeq, SNil, SIf, SRet, SSet, SAsg, SPar, SMuL, SApp, SExt, SPut, SFz, frzR, SNo, TVar, TC, TOp, TB, TNil, TCons, TTup, TLst, TKey, oIx, seqOf, TAnd, TOr, TNot, TAndV, TOrV, TNotV, TIf, TCB, cLen, cAbs, cMax2, cMin2, cAll, cList, cTuple, cInt, TIsi, isD, tyD, TCall, TChain, TLc, TLc0, SFor, ISeq, IRg1, IRg2, IZip, TSl, TPs, TPn, slD, cut1, opII, opI0, TNeg, oAdd, oIsN, oNotN, oIsB, getS, startR, GName, GNil, GCons, GTup, List.map_cons, List.map_nil, List.length_cons, List.length_nil, List.cons_append, List.nil_append, List.set_cons_zero, List.set_cons_succ, List.replicate, List.append_nil, Option.map_some, Bool.not_true, Bool.not_false, Bool.false_eq_true, if_true, if_false, ite_true, ite_false, reduceIte, Nat.sub_self, Nat.reduceAdd, Nat.reduceSub, Bool.or_true, Bool.or_false, Bool.true_or, Bool.false_or, Bool.and_true, Bool.and_false, decide_true, decide_false, List.getElem?_cons_zero, List.getElem?_cons_succ, Option.some.injEq, exists_eq_left', exists_eq_left, true_and, and_true, at0, at1, at2, at3, List.length_map, List.cons.injEq, Int.cast_ofNat_Int, Int.reduceEq, Int.reduceLT, Int.reduceLE, D.int.injEq, D.str.injEq, D.bl.injEq, D.tup.injEq, D.lst.injEq, exists_const, Int.zero_add, Nat.zero_add, Int.natCast_add, Int.natCast_one, Int.reduceAdd, sp_l_low]
      refine ⟨y, unit b m rows.length, ⟨rfl, rfl⟩, hun, by omega, 21, b, rows, m, _, d, rfl, hrr, h1, h3, Nat.lt_of_le_of_lt (mk_den hun) (by omega), hall d hdm, ?_⟩
      simp only [SSeq, SNil, SIf, SRet, SSet, SAsg, SPar, SMuL, SApp, SExt, SPut, SFz, frzR, SNo, TVar, TC, TOp, TB, TNil, TCons, TTup, TLst, TKey, oIx, seqOf, TAnd, TOr, TNot, TAndV, TOrV, TNotV, TIf, TCB, cLen, cAbs, cMax2, cMin2, cAll, cList, cTuple, cInt, TIsi, isD, tyD, TCall, TChain, TLc, TLc0, SFor, ISeq, IRg1, IRg2, IZip, TSl, TPs, TPn, slD, cut1, opII, opI0, TNeg, oAdd, oIsN, oNotN, oIsB, getS, startR, GName, GNil, GCons, GTup, List.map_cons, List.map_nil, List.length_cons, List.length_nil, List.cons_append, List.nil_append, List.set_cons_zero, List.set_cons_succ, List.replicate, List.append_nil, Option.map_some, Bool.not_true, Bool.not_false, Bool.false_eq_true, if_true, if_false, ite_true, ite_false, reduceIte, Nat.sub_self, Nat.reduceAdd, Nat.reduceSub, Bool.or_true, Bool.or_false, Bool.true_or, Bool.false_or, Bool.and_true, Bool.and_false, decide_true, decide_false, List.getElem?_cons_zero, List.getElem?_cons_succ, Option.some.injEq, exists_eq_left', exists_eq_left, true_and, and_true, at0, at1, at2, at3, List.length_map, List.cons.injEq, Int.cast_ofNat_Int, Int.reduceEq, Int.reduceLT, Int.reduceLE, D.int.injEq, D.str.injEq, D.bl.injEq, D.tup.injEq, D.lst.injEq, exists_const, Int.zero_add, Nat.zero_add, Int.natCast_add, Int.natCast_one, Int.reduceAdd]
      have hs := hsound d hdm y
      generalize goB (gsOf b rows) m (mkRat y (unit b m rows.length)) 8 d [] (rgI 0 (NR rows)) = g at hs ⊢
      cases g with
      | true =>
        have hy : decide (v < y) = false := decide_eq_false (by have := hs rfl; omega)
        simp only [SSeq, SNil, SIf, SRet, SSet, SAsg, SPar, SMuL, SApp, SExt, SPut, SFz, frzR, SNo, TVar, TC, TOp, TB, TNil, TCons, TTup, TLst, TKey, oIx, seqOf, TAnd, TOr, TNot, TAndV, TOrV, TNotV, TIf, TCB, cLen, cAbs, cMax2, cMin2, cAll, cList, cTuple, cInt, TIsi, isD, tyD, TCall, TChain, TLc, TLc0, SFor, ISeq, IRg1, IRg2, IZip, TSl, TPs, TPn, slD, cut1, opII, opI0, TNeg, oAdd, oIsN, oNotN, oIsB, getS, startR, GName, GNil, GCons, GTup, List.map_cons, List.map_nil, List.length_cons, List.length_nil, List.cons_append, List.nil_append, List.set_cons_zero, List.set_cons_succ, List.replicate, List.append_nil, Option.map_some, Bool.not_true, Bool.not_false, Bool.false_eq_true, if_true, if_false, ite_true, ite_false, reduceIte, Nat.sub_self, Nat.reduceAdd, Nat.reduceSub, Bool.or_true, Bool.or_false, Bool.true_or, Bool.false_or, Bool.and_true, Bool.and_false, decide_true, decide_false, List.getElem?_cons_zero, List.getElem?_cons_succ, Option.some.injEq, exists_eq_left', exists_eq_left, true_and, and_true, at0, at1, at2, at3, List.length_map, List.cons.injEq, Int.cast_ofNat_Int, Int.reduceEq, Int.reduceLT, Int.reduceLE, D.int.injEq, D.str.injEq, D.bl.injEq, D.tup.injEq, D.lst.injEq, exists_const, Int.zero_add, Nat.zero_add, Int.natCast_add, Int.natCast_one, Int.reduceAdd, eqS2, yes_other, yes_yes, hy]
        exact hNY _ _ ⟨rfl, _, _, rfl⟩
      | false =>
        simp only [SSeq, SNil, SIf, SRet, SSet, SAsg, SPar, SMuL, SApp, SExt, SPut, SFz, frzR, SNo, TVar, TC, TOp, TB, TNil, TCons, TTup, TLst, TKey, oIx, seqOf, TAnd, TOr, TNot, TAndV, TOrV, TNotV, TIf, TCB, cLen, cAbs, cMax2, cMin2, cAll, cList, cTuple, cInt, TIsi, isD, tyD, TCall, TChain, TLc, TLc0, SFor, ISeq, IRg1, IRg2, IZip, TSl, TPs, TPn, slD, cut1, opII, opI0, TNeg, oAdd, oIsN, oNotN, oIsB, getS, startR, GName, GNil, GCons, GTup, List.map_cons, List.map_nil, List.length_cons, List.length_nil, List.cons_append, List.nil_append, List.set_cons_zero, List.set_cons_succ, List.replicate, List.append_nil, Option.map_some, Bool.not_true, Bool.not_false, Bool.false_eq_true, if_true, if_false, ite_true, ite_false, reduceIte, Nat.sub_self, Nat.reduceAdd, Nat.reduceSub, Bool.or_true, Bool.or_false, Bool.true_or, Bool.false_or, Bool.and_true, Bool.and_false, decide_true, decide_false, List.getElem?_cons_zero, List.getElem?_cons_succ, Option.some.injEq, exists_eq_left', exists_eq_left, true_and, and_true, at0, at1, at2, at3, List.length_map, List.cons.injEq, Int.cast_ofNat_Int, Int.reduceEq, Int.reduceLT, Int.reduceLE, D.int.injEq, D.str.injEq, D.bl.injEq, D.tup.injEq, D.lst.injEq, exists_const, Int.zero_add, Nat.zero_add, Int.natCast_add, Int.natCast_one, Int.reduceAdd, eqS2, no_other, no_yes]
        exact hNY _ _ ⟨rfl, _, _, rfl⟩
/-- the papers are gathered -/
theorem law_mid (f : Addr) (cdv : Value) (A : Around) (outer : List Env) (s : Shared) (H : Hp) (E : XK) (B : Bt mg) (Cc : Cs K w mg) (hr : Room 30 (lawA A s f cdv)) (S9 : TrS) (hS9 : PSts (lawX Pr w K mg base f cdv A outer s H E) ((defBody s_law).drop 19) S9)
    (hE9 : ∀ (b : Nat) (rows : List (List Int)) (m : Nat) (v u : Int) (papers : List D) (t0 t3 t4 t8 t9 t11 t12 t13 t15 t16 t17 t18 t19 t20 : Sl) (n : Nat), OkR b rows → 1 ≤ m → m ≤ 3 → LeastI b rows m v → 6 ≤ papers.length → papers.length ≤ 20 → (∀ d ∈ papers, OkU 998 5 18 d) → n ≤ 5000 →
      S9 yesE [t0, .val .tape, .val (caseD b rows), t3, t4, .val (.int m), .val (.int (unit b m rows.length : Nat)), .val (.int v), t8, t9, .val (.lst papers), t11, t12, t13, .val (.int u), t15, t16, t17, t18, t19, t20] n)
    (h_l_bent : Has Pr w K mg base "_law_bent" ["_law_tape_here", "_law_thing"] (k_l_bent 15) (sp_l_bent 15)) (h_l_draw : Has Pr w K mg base "_law_draw" ["_law_tape_here", "_law_many"] k_l_draw sp_l_draw) (h_least_set : Has Pr w K mg base "least_set" ["grid", "many"] k_least_set sp_least_set) (h_l_handed : Has Pr w K mg base "_law_handed" ["_law_case"] k_l_handed sp_l_handed) (h_l_places : Has Pr w K mg base "_law_places" ["_law_rows"] k_l_places sp_l_places) (h_l_grid : Has Pr w K mg base "_law_grid" ["_law_tape_here"] k_l_grid sp_l_grid) :
    ∃ S, PSts (lawX Pr w K mg base f cdv A outer s H E) ((defBody s_law).drop 13) S ∧ ∀ (b : Nat) (rows : List (List Int)) (m : Nat) (v u : Int) (e1 e2 d1 d2 : D) (t0 t4 t9 t10 t11 t12 t15 t16 t17 t18 t19 t20 : Sl) (n : Nat), OkR b rows → 1 ≤ m → m ≤ 3 → LeastI b rows m v → OkU 997 4 15 d1 → OkU 997 4 15 d2 → n ≤ 1000 →
      S yesE [t0, .val .tape, .val (caseD b rows), .val (.lst ((prodL rows).map tupI)), t4, .val (.int m), .val (.int (unit b m rows.length : Nat)), .val (.int v), .val (.tup [e1, e2, d1]), t9, t10, t11, t12, .val d2, .val (.int u), t15, t16, t17, t18, t19, t20] n := by
  have sc := sc_law
  refine ⟨_, (bCons (sSet 9 sc.nd (vCall h_l_grid hr (aCons (vN 1) aNil))) (bCons (sMuL 10 sc.nd (aCons (vIx (vN 8) vI) (aCons (vN 13) (aCons (vIx (vCall h_least_set hr (aCons (vCall h_l_handed hr (aCons (vN 9) aNil)) (aCons (vAdd vI (vCall h_l_draw hr (aCons (vN 1) (aCons (vMin2 B.min (aCons vI (aCons (vLen B.len (aCons (vCall h_l_places hr (aCons (vIx (vN 9) vI) aNil)) aNil)) aNil))) aNil)))) aNil))) vI) aNil)))) (bCons (sApp 10 (vIx (vCall h_least_set hr (aCons (vCall h_l_handed hr (aCons (vN 2) aNil)) (aCons (vAdd vI (vCall h_l_draw hr (aCons (vN 1) (aCons (vMin2 B.min (aCons vI (aCons (vLen B.len (aCons (vN 3) aNil)) aNil))) aNil)))) aNil))) vI)) (bCons (sFz 10 (sSet 10 sc.nd (vAdd (vN 10) (vLc (own := [("_law_k", 18)]) sc.nd (iRg1 B.range (aCons vI aNil)) (fun _ _ _ _ _ => (gN 18 sc.nd)) (fun _ _ _ _ _ => tN) (fun _ _ _ _ _ => (vCall h_l_bent hr (aCons (vN 1) (aCons (vIx (vN 10) (vCall h_l_draw hr (aCons (vN 1) (aCons vI aNil)))) aNil)))))))) (bCons (sSet 11 sc.nd (vTup (aCons vS (aCons (vIx (vLst (aCons (vTup (aCons (vNeg vI) (aCons vI aNil))) (aCons (vTup (aCons (vNeg vI) (aCons vI aNil))) (aCons (vTup (aCons (vNeg vI) (aCons vI aNil))) aNil)))) (vCall h_l_draw hr (aCons (vN 1) (aCons vI aNil)))) aNil)))) (bCons (sFz 10 (sSet 10 sc.nd (vAdd (vN 10) (vLc (own := [("_law_word", 19)]) sc.nd (iL (vLst (aCons vS (aCons vS aNil)))) (fun _ _ _ _ _ => (gN 19 sc.nd)) (fun _ _ _ _ _ => tN) (fun _ _ _ _ _ => (vTup (aCons (vN 19) (aCons (vRep (vTup (aCons (vN 11) aNil)) (vLen B.len (aCons (vIx (vN 2) vI) aNil))) aNil)))))))) hS9)))))), ?_⟩
  intro b rows m v u e1 e2 d1 d2 t0 t4 t9 t10 t11 t12 t15 t16 t17 t18 t19 t20 n hrr h1 h3 hv o1 o2 hn
  simp only [SSeq, SNil, SIf, SRet, SSet, SAsg, SPar, SMuL, SApp, SExt, SPut, SFz, frzR, SNo, TVar, TC, TOp, TB, TNil, TCons, TTup, TLst, TKey, oIx, seqOf, TAnd, TOr, TNot, TAndV, TOrV, TNotV, TIf, TCB, cLen, cAbs, cMax2, cMin2, cAll, cList, cTuple, cInt, TIsi, isD, tyD, TCall, TChain, TLc, TLc0, ISeq, IRg1, IRg2, IZip, TSl, TPs, TPn, slD, cut1, opII, opI0, TNeg, oAdd, oIsN, oNotN, oIsB, opEq, eqD, getS, startR, GName, GNil, GCons, GTup, List.map_cons, List.map_nil, List.length_cons, List.length_nil, List.cons_append, List.nil_append, List.set_cons_zero, List.set_cons_succ, List.replicate, List.append_nil, Option.map_some, Bool.not_true, Bool.not_false, Bool.false_eq_true, if_true, if_false, ite_true, ite_false, reduceIte, Nat.sub_self, Nat.reduceAdd, Nat.reduceSub, Bool.or_true, Bool.or_false, Bool.true_or, Bool.false_or, Bool.and_true, Bool.and_false, decide_true, decide_false, List.getElem?_cons_zero, List.getElem?_cons_succ, Option.some.injEq, exists_eq_left', exists_eq_left, true_and, and_true, at0, at1, at2, at3, List.length_map, List.cons.injEq, Int.cast_ofNat_Int, Int.reduceEq, Int.reduceLT, Int.reduceLE, D.int.injEq, D.str.injEq, D.bl.injEq, D.tup.injEq, D.lst.injEq, exists_const, Int.zero_add, Nat.zero_add, Int.natCast_add, Int.natCast_one, Int.reduceAdd, yesE]
  refine ⟨rfl, by omega, fun b2 rows2 n2 hr2 hn2 => ?_⟩
  simp only [SSeq, SNil, SIf, SRet, SSet, SAsg, SPar, SMuL, SApp, SExt, SPut, SFz, frzR, SNo, TVar, TC, TOp, TB, TNil, TCons, TTup, TLst, TKey, oIx, seqOf, TAnd, TOr, TNot, TAndV, TOrV, TNotV, TIf, TCB, cLen, cAbs, cMax2, cMin2, cAll, cList, cTuple, cInt, TIsi, isD, tyD, TCall, TChain, TLc, TLc0, ISeq, IRg1, IRg2, IZip, TSl, TPs, TPn, slD, cut1, opII, opI0, TNeg, oAdd, oIsN, oNotN, oIsB, opEq, eqD, getS, startR, GName, GNil, GCons, GTup, List.map_cons, List.map_nil, List.length_cons, List.length_nil, List.cons_append, List.nil_append, List.set_cons_zero, List.set_cons_succ, List.replicate, List.append_nil, Option.map_some, Bool.not_true, Bool.not_false, Bool.false_eq_true, if_true, if_false, ite_true, ite_false, reduceIte, Nat.sub_self, Nat.reduceAdd, Nat.reduceSub, Bool.or_true, Bool.or_false, Bool.true_or, Bool.false_or, Bool.and_true, Bool.and_false, decide_true, decide_false, List.getElem?_cons_zero, List.getElem?_cons_succ, Option.some.injEq, exists_eq_left', exists_eq_left, true_and, and_true, at0, at1, at2, at3, List.length_map, List.cons.injEq, Int.cast_ofNat_Int, Int.reduceEq, Int.reduceLT, Int.reduceLE, D.int.injEq, D.str.injEq, D.bl.injEq, D.tup.injEq, D.lst.injEq, exists_const, Int.zero_add, Nat.zero_add, Int.natCast_add, Int.natCast_one, Int.reduceAdd, sp_l_handed, caseD, sp_l_places]
  have hpo := hr2.pos
  have hpo1 := hrr.pos
  refine ⟨b2, rows2, ⟨rfl, rfl⟩, hr2, rows2, rfl, hr2.s2, fun r hrm => by have := hr2.row r hrm; omega, (if ((prodL rows2).length : Int) < 3 then ((prodL rows2).length : Int) else 3), rfl, by split <;> omega, by split <;> omega, by omega, fun r r0 r1 => ?_⟩
  have hm2 : 1 ≤ (1 + r).toNat ∧ (1 + r).toNat ≤ 3 ∧ (1 + r).toNat ≤ NR rows2 ∧ ((1 + r).toNat : Int) = 1 + r := by
    unfold NR
    split at r1 <;> omega
  simp only [SSeq, SNil, SIf, SRet, SSet, SAsg, SPar, SMuL, SApp, SExt, SPut, SFz, frzR, SNo, TVar, TC, TOp, TB, TNil, TCons, TTup, TLst, TKey, oIx, seqOf, TAnd, TOr, TNot, TAndV, TOrV, TNotV, TIf, TCB, cLen, cAbs, cMax2, cMin2, cAll, cList, cTuple, cInt, TIsi, isD, tyD, TCall, TChain, TLc, TLc0, ISeq, IRg1, IRg2, IZip, TSl, TPs, TPn, slD, cut1, opII, opI0, TNeg, oAdd, oIsN, oNotN, oIsB, opEq, eqD, getS, startR, GName, GNil, GCons, GTup, List.map_cons, List.map_nil, List.length_cons, List.length_nil, List.cons_append, List.nil_append, List.set_cons_zero, List.set_cons_succ, List.replicate, List.append_nil, Option.map_some, Bool.not_true, Bool.not_false, Bool.false_eq_true, if_true, if_false, ite_true, ite_false, reduceIte, Nat.sub_self, Nat.reduceAdd, Nat.reduceSub, Bool.or_true, Bool.or_false, Bool.true_or, Bool.false_or, Bool.and_true, Bool.and_false, decide_true, decide_false, List.getElem?_cons_zero, List.getElem?_cons_succ, Option.some.injEq, exists_eq_left', exists_eq_left, true_and, and_true, at0, at1, at2, at3, List.length_map, List.cons.injEq, Int.cast_ofNat_Int, Int.reduceEq, Int.reduceLT, Int.reduceLE, D.int.injEq, D.str.injEq, D.bl.injEq, D.tup.injEq, D.lst.injEq, exists_const, Int.zero_add, Nat.zero_add, Int.natCast_add, Int.natCast_one, Int.reduceAdd, sp_least_set]
  refine ⟨gsOf b2 rows2, (1 + r).toNat, ⟨rfl, by rw [hm2.2.2.2]⟩, okG_of hr2, hm2.1, hm2.2.1, by rw [NR_eq]; exact hm2.2.2.1, fun W2 S2 hW2 hS2 hmin2 => ?_⟩
  rw [NR_eq] at hW2 ⊢
  have o3 := (told_okU hr2 hm2.1 hm2.2.1 hm2.2.2.1 hW2).mono (Nat.le_refl _) (Nat.le_refl _) (j := 15) (by omega)
  refine ⟨sz8 (by omega), b, rows, ⟨rfl, rfl⟩, hrr, (if ((prodL rows).length : Int) < 3 then ((prodL rows).length : Int) else 3), rfl, by split <;> omega, by split <;> omega, by omega, fun r' r0' r1' => ?_⟩
  have hm3 : 1 ≤ (1 + r').toNat ∧ (1 + r').toNat ≤ 3 ∧ (1 + r').toNat ≤ NR rows ∧ ((1 + r').toNat : Int) = 1 + r' := by
    unfold NR
    split at r1' <;> omega
  refine ⟨gsOf b rows, (1 + r').toNat, ⟨rfl, by rw [hm3.2.2.2]⟩, okG_of hrr, hm3.1, hm3.2.1, by rw [NR_eq]; exact hm3.2.2.1, fun W3 S3 hW3 hS3 hmin3 => ?_⟩
  rw [NR_eq] at hW3 ⊢
  have o4 := (told_okU hrr hm3.1 hm3.2.1 hm3.2.2.1 hW3).mono (Nat.le_refl _) (Nat.le_refl _) (j := 15) (by omega)
  generalize treeD W2 (NR rows2) (1 + r).toNat 9 [] 0 = d3 at o3 ⊢
  generalize treeD W3 (NR rows) (1 + r').toNat 9 [] 0 = d4 at o4 ⊢
  have hof : ∀ d ∈ [d1, d2, d3, d4], OkU 997 4 15 d := fun d hd => by
    simp only [List.mem_cons, List.not_mem_nil, or_false] at hd
    rcases hd with rfl | rfl | rfl | rfl
    · exact o1
    · exact o2
    · exact o3
    · exact o4
  refine ⟨sz1001 (by omega), ⟨by omega, by omega⟩, ?_⟩
  refine ⟨fun i acc n' => n' ≤ n2 + 2 + i * 61 ∧ acc.length = i ∧ ∀ d ∈ acc, OkU 998 5 18 d, ⟨by omega, rfl, fun d hd => nomatch hd⟩, ?_, ?_⟩
  · rintro i d acc n' hd ⟨hn', hal, hac⟩
    have hi : i < 5 := by
      have := len_at hd
      rw [List.length_map, rgI_length] at this
      omega
    simp only [SSeq, SNil, SIf, SRet, SSet, SAsg, SPar, SMuL, SApp, SExt, SPut, SFz, frzR, SNo, TVar, TC, TOp, TB, TNil, TCons, TTup, TLst, TKey, oIx, seqOf, TAnd, TOr, TNot, TAndV, TOrV, TNotV, TIf, TCB, cLen, cAbs, cMax2, cMin2, cAll, cList, cTuple, cInt, TIsi, isD, tyD, TCall, TChain, TLc, TLc0, ISeq, IRg1, IRg2, IZip, TSl, TPs, TPn, slD, cut1, opII, opI0, TNeg, oAdd, oIsN, oNotN, oIsB, opEq, eqD, getS, startR, GName, GNil, GCons, GTup, List.map_cons, List.map_nil, List.length_cons, List.length_nil, List.cons_append, List.nil_append, List.set_cons_zero, List.set_cons_succ, List.replicate, List.append_nil, Option.map_some, Bool.not_true, Bool.not_false, Bool.false_eq_true, if_true, if_false, ite_true, ite_false, reduceIte, Nat.sub_self, Nat.reduceAdd, Nat.reduceSub, Bool.or_true, Bool.or_false, Bool.true_or, Bool.false_or, Bool.and_true, Bool.and_false, decide_true, decide_false, List.getElem?_cons_zero, List.getElem?_cons_succ, Option.some.injEq, exists_eq_left', exists_eq_left, true_and, and_true, at0, at1, at2, at3, List.length_map, List.cons.injEq, Int.cast_ofNat_Int, Int.reduceEq, Int.reduceLT, Int.reduceLE, D.int.injEq, D.str.injEq, D.bl.injEq, D.tup.injEq, D.lst.injEq, exists_const, Int.zero_add, Nat.zero_add, Int.natCast_add, Int.natCast_one, Int.reduceAdd, wipeR, MO.d, TYes]
    refine ⟨4, rfl, by omega, by omega, by omega, fun r3 r30 r31 => ?_⟩
    obtain ⟨d', hd', hm'⟩ := atI_mem (ds := [d1, d2, d3, d4]) (r := r3) r30 (by simpa using r31)
    refine ⟨d', hd', bent_mk 14 (by omega) (hof _ hm') (by omega) (by omega) (by omega) (by omega) fun y n3 oy hn3 => ⟨sz1001 (by omega), by omega, by rw [List.length_append, hal]; rfl, fun z hz => ?_⟩⟩
    rcases List.mem_append.mp hz with q | q
    · exact hac z q
    · rw [List.mem_singleton.mp q]; exact oy
  · rintro acc n' ⟨hn', hal, hac⟩
    have e5 : (List.map D.int (rgI 0 5)).length = 5 := by rw [List.length_map, rgI_length]; rfl
    rw [e5] at hn' hal
    simp only [SSeq, SNil, SIf, SRet, SSet, SAsg, SPar, SMuL, SApp, SExt, SPut, SFz, frzR, SNo, TVar, TC, TOp, TB, TNil, TCons, TTup, TLst, TKey, oIx, seqOf, TAnd, TOr, TNot, TAndV, TOrV, TNotV, TIf, TCB, cLen, cAbs, cMax2, cMin2, cAll, cList, cTuple, cInt, TIsi, isD, tyD, TCall, TChain, TLc, TLc0, ISeq, IRg1, IRg2, IZip, TSl, TPs, TPn, slD, cut1, opII, opI0, TNeg, oAdd, oIsN, oNotN, oIsB, opEq, eqD, getS, startR, GName, GNil, GCons, GTup, List.map_cons, List.map_nil, List.length_cons, List.length_nil, List.cons_append, List.nil_append, List.set_cons_zero, List.set_cons_succ, List.replicate, List.append_nil, Option.map_some, Bool.not_true, Bool.not_false, Bool.false_eq_true, if_true, if_false, ite_true, ite_false, reduceIte, Nat.sub_self, Nat.reduceAdd, Nat.reduceSub, Bool.or_true, Bool.or_false, Bool.true_or, Bool.false_or, Bool.and_true, Bool.and_false, decide_true, decide_false, List.getElem?_cons_zero, List.getElem?_cons_succ, Option.some.injEq, exists_eq_left', exists_eq_left, true_and, and_true, at0, at1, at2, at3, List.length_map, List.cons.injEq, Int.cast_ofNat_Int, Int.reduceEq, Int.reduceLT, Int.reduceLE, D.int.injEq, D.str.injEq, D.bl.injEq, D.tup.injEq, D.lst.injEq, exists_const, Int.zero_add, Nat.zero_add, Int.natCast_add, Int.natCast_one, Int.reduceAdd, wipeR, MO.d]
    refine ⟨sz1000 (by omega), sz8 (by omega), sz8 (by omega), sz8 (by omega), sz8 (by omega), 3, rfl, by omega, by omega, by omega, fun r3 r30 r31 => ?_⟩
    obtain ⟨de, hde, hme⟩ := atI_mem (ds := [D.tup [D.int (-1), D.int 1], D.tup [D.int (-1), D.int 2], D.tup [D.int (-2), D.int 3]]) (r := r3) r30 (by simpa using r31)
    have oe : OkU 998 5 2 de := by
      have pr : ∀ i j : Int, -2 ≤ i → i ≤ 2 → 0 ≤ j → j ≤ 3 → OkU 998 5 2 (.tup [.int i, .int j]) := fun i j h1 h2 h3 h4 => ⟨by simp, fun d hd => by
        rcases List.mem_cons.mp hd with rfl | hd
        · exact ⟨by omega, by omega⟩
        · rw [List.mem_singleton.mp hd]; exact ⟨by omega, by omega⟩⟩
      simp only [List.mem_cons, List.not_mem_nil, or_false] at hme
      rcases hme with rfl | rfl | rfl
      · exact pr (-1) 1 (by omega) (by omega) (by omega) (by omega)
      · exact pr (-1) 2 (by omega) (by omega) (by omega) (by omega)
      · exact pr (-2) 3 (by omega) (by omega) (by omega) (by omega)
    have hs2 := hrr.s2
    have hs1 := hrr.s1
    refine ⟨de, hde, sz8 (by omega), sz8 (by omega), ?_⟩
    refine lc_mapF (["over", "lack"] : List Str) D.str (fun z => D.tup [.str z, .tup (List.replicate rows.length [D.tup [.str "to", de]]).flatten]) (sz8 (by decide)) (fun z hz Q hQ => ?_) ?_
    · simp only [SSeq, SNil, SIf, SRet, SSet, SAsg, SPar, SMuL, SApp, SExt, SPut, SFz, frzR, SNo, TVar, TC, TOp, TB, TNil, TCons, TTup, TLst, TKey, oIx, seqOf, TAnd, TOr, TNot, TAndV, TOrV, TNotV, TIf, TCB, cLen, cAbs, cMax2, cMin2, cAll, cList, cTuple, cInt, TIsi, isD, tyD, TCall, TChain, TLc, TLc0, ISeq, IRg1, IRg2, IZip, TSl, TPs, TPn, slD, cut1, opII, opI0, TNeg, oAdd, oIsN, oNotN, oIsB, opEq, eqD, getS, startR, GName, GNil, GCons, GTup, List.map_cons, List.map_nil, List.length_cons, List.length_nil, List.cons_append, List.nil_append, List.set_cons_zero, List.set_cons_succ, List.replicate, List.append_nil, Option.map_some, Bool.not_true, Bool.not_false, Bool.false_eq_true, if_true, if_false, ite_true, ite_false, reduceIte, Nat.sub_self, Nat.reduceAdd, Nat.reduceSub, Bool.or_true, Bool.or_false, Bool.true_or, Bool.false_or, Bool.and_true, Bool.and_false, decide_true, decide_false, List.getElem?_cons_zero, List.getElem?_cons_succ, Option.some.injEq, exists_eq_left', exists_eq_left, true_and, and_true, at0, at1, at2, at3, List.length_map, List.cons.injEq, Int.cast_ofNat_Int, Int.reduceEq, Int.reduceLT, Int.reduceLE, D.int.injEq, D.str.injEq, D.bl.injEq, D.tup.injEq, D.lst.injEq, exists_const, Int.zero_add, Nat.zero_add, Int.natCast_add, Int.natCast_one, Int.reduceAdd, wipeR, rowsD]
      exact ⟨sz8 (by omega), by simp, by omega, by omega, by simp, sz8 (by omega), hQ⟩
    refine ⟨sz1000 (by rw [List.length_map]; simp only [List.length_cons, List.length_nil]; omega), ?_⟩
    refine hE9 b rows m v u _ _ _ _ _ _ _ _ _ _ _ _ _ _ _ (n' + 1) hrr h1 h3 hv ?_ ?_ ?_ ?_
    · simp <;> omega
    · simp <;> omega
    · have up : ∀ d, OkU 997 4 15 d → OkU 998 5 18 d := fun d h => h.mono (by omega) (by omega) (by omega)
      intro d hd
      simp only [List.mem_cons, List.mem_append, List.mem_map, List.not_mem_nil, or_false] at hd
      rcases hd with rfl | rfl | rfl | rfl | hd | ⟨z, hz, rfl⟩
      · exact up _ o1
      · exact up _ o2
      · exact up _ o3
      · exact up _ o4
      · exact hac d hd
      · have oz : PyData.strOk z = true := by
          rcases hz with rfl | rfl
          · exact strs_ok.2.1
          · exact strs_ok.2.2.1
        have os : OkU 998 5 3 (D.tup [D.str "to", de]) := ⟨by simp, fun d hd => by
          rcases List.mem_cons.mp hd with rfl | hd
          · exact strs_ok.2.2.2
          · rw [List.mem_singleton.mp hd]; exact oe⟩
        refine OkU.mono (Nat.le_refl _) (Nat.le_refl _) (k := 5) ⟨by simp, fun d hd => ?_⟩ (by omega)
        rcases List.mem_cons.mp hd with rfl | hd
        · exact oz
        · rw [List.mem_singleton.mp hd]
          refine ⟨by simp; omega, fun d hd => ?_⟩
          simp only [List.mem_flatten, List.mem_replicate] at hd
          obtain ⟨l, ⟨_, rfl⟩, hd⟩ := hd
          rw [List.mem_singleton.mp hd]
          exact os
    · omega
/-- the least set and a tree of one's own are tried -/
theorem law_own (f : Addr) (cdv : Value) (A : Around) (outer : List Env) (s : Shared) (H : Hp) (E : XK) (B : Bt mg) (Cc : Cs K w mg) (hr : Room 30 (lawA A s f cdv)) (hgd : (lawA A s f cdv).guards = some []) (S9 : TrS) (hS9 : PSts (lawX Pr w K mg base f cdv A outer s H E) ((defBody s_law).drop 13) S9)
    (hE9 : ∀ (b : Nat) (rows : List (List Int)) (m : Nat) (v u : Int) (e1 e2 d1 d2 : D) (t0 t4 t9 t10 t11 t12 t15 t16 t17 t18 t19 t20 : Sl) (n : Nat), OkR b rows → 1 ≤ m → m ≤ 3 → LeastI b rows m v → OkU 997 4 15 d1 → OkU 997 4 15 d2 → n ≤ 1000 →
      S9 yesE [t0, .val .tape, .val (caseD b rows), .val (.lst ((prodL rows).map tupI)), t4, .val (.int m), .val (.int (unit b m rows.length : Nat)), .val (.int v), .val (.tup [e1, e2, d1]), t9, t10, t11, t12, .val d2, .val (.int u), t15, t16, t17, t18, t19, t20] n)
    (h_l_draw : Has Pr w K mg base "_law_draw" ["_law_tape_here", "_law_many"] k_l_draw sp_l_draw) (h_l_lets : Has Pr w K mg base "_law_lets" ["_law_case", "_law_many", "_law_number", "_law_thing"] k_l_lets sp_l_lets) (h_l_low : Has Pr w K mg base "_law_low" ["_law_top", "_law_bottom"] k_l_low sp_l_low)
    (h_l_tree : Has Pr w K mg base "_law_tree" ["_law_tape_here", "_law_case", "_law_many", "_law_held", "_law_free", "_law_deep"] (k_l_tree 6) (sp_l_tree 6)) (h_l_told_right : HasG Pr w K mg base "_law_told_right" ["_law_case", "_law_many", "_law_found", "_law_due"] k_l_told_right sp_l_told_right) :
    ∃ S, PSts (lawX Pr w K mg base f cdv A outer s H E) ((defBody s_law).drop 9) S ∧ ∀ (b : Nat) (rows : List (List Int)) (m : Nat) (v : Int) (W : Wf) (SS : List Int) (t0 t4 t9 t10 t11 t12 t13 t14 t15 t16 t17 t18 t19 t20 : Sl) (n : Nat), OkR b rows → 1 ≤ m → m ≤ 3 → m ≤ NR rows → LeastI b rows m v →
      Worsts (gsOf b rows) m W (setsI (NR rows) m) → SS ∈ setsI (NR rows) m → (∀ T ∈ setsI (NR rows) m, (W SS).1 ≤ (W T).1) → n ≤ 500 →
      S yesE [t0, .val .tape, .val (caseD b rows), .val (.lst ((prodL rows).map tupI)), t4, .val (.int m), .val (.int (unit b m rows.length : Nat)), .val (.int v), .val (.tup [fr (W SS).1, .key SS, treeD W (NR rows) m 9 [] 0]), t9, t10, t11, t12, t13, t14, t15, t16, t17, t18, t19, t20] n := by
  have sc := sc_law
  refine ⟨_, (bCons (sIf (bNot (bVal (vCallG h_l_told_right hgd hr (aCons (vN 2) (aCons (vN 5) (aCons (vN 8) (aCons (vCall h_l_low hr (aCons (vN 7) (aCons (vN 6) aNil))) aNil)))))))
      (bOne (sRet vB))
      bNil) (bCons (sAsg (vCall h_l_tree hr (aCons (vN 1) (aCons (vN 2) (aCons (vN 5) (aCons (vLst aNil) (aCons (vListRg B.list B.range (vLen B.len (aCons (vN 3) aNil))) (aCons (vCall h_l_draw hr (aCons (vN 1) (aCons vI aNil))) aNil))))))) (gTup (m := 2) (gCons (gN 13 sc.nd) (gCons (gN 14 sc.nd) gNil)))) (bCons (sIf (bW (wOr (bIsN (vN 14) vO) (wOr (bGt (vN 14) (vN 7)) (wOr1 (bNe hr (vCall h_l_lets hr (aCons (vN 2) (aCons (vN 5) (aCons (vCall h_l_low hr (aCons (vN 14) (aCons (vN 6) aNil))) (aCons (vN 13) aNil))))) vS)))))
      (bOne (sRet vB))
      bNil) (bCons (sIf (bNe hr (vCall h_l_lets hr (aCons (vN 2) (aCons (vN 5) (aCons (vCall h_l_low hr (aCons (vAdd (vN 14) vI) (aCons (vN 6) aNil))) (aCons (vN 13) aNil))))) vS)
      (bOne (sRet vB))
      bNil) hS9)))), ?_⟩
  intro b rows m v W SS t0 t4 t9 t10 t11 t12 t13 t14 t15 t16 t17 t18 t19 t20 n hrr h1 h3 hmN hv hW hSS hmin hn
  obtain ⟨eW, hwI, hgo⟩ := told_ok hrr h1 h3 hmN hv hW hSS hmin
  have oU := told_okU hrr h1 h3 hmN hW
  have hun := unit_pos (s := rows.length) (by have := hrr.b9; omega : 0 < b) h1
  have hun2 := unit_lt hrr h3
  have hvb := worstI_bd (okP_of hrr h1 h3 hSS) hwI
  rw [eW]
  generalize treeD W (NR rows) m 9 [] 0 = d1 at hgo oU ⊢
  simp only [SSeq, SNil, SIf, SRet, SSet, SAsg, SPar, SMuL, SApp, SExt, SPut, SFz, frzR, SNo, TVar, TC, TOp, TB, TNil, TCons, TTup, TLst, TKey, oIx, seqOf, TAnd, TOr, TNot, TAndV, TOrV, TNotV, TIf, TCB, cLen, cAbs, cMax2, cMin2, cAll, cList, cTuple, cInt, TIsi, isD, tyD, TCall, TChain, TLc, TLc0, SFor, ISeq, IRg1, IRg2, IZip, TSl, TPs, TPn, slD, cut1, opII, opI0, TNeg, oAdd, oIsN, oNotN, oIsB, getS, startR, GName, GNil, GCons, GTup, List.map_cons, List.map_nil, List.length_cons, List.length_nil, List.cons_append, List.nil_append, List.set_cons_zero, List.set_cons_succ, List.replicate, List.append_nil, Option.map_some, Bool.not_true, Bool.not_false, Bool.false_eq_true, if_true, if_false, ite_true, ite_false, reduceIte, Nat.sub_self, Nat.reduceAdd, Nat.reduceSub, Bool.or_true, Bool.or_false, Bool.true_or, Bool.false_or, Bool.and_true, Bool.and_false, decide_true, decide_false, List.getElem?_cons_zero, List.getElem?_cons_succ, Option.some.injEq, exists_eq_left', exists_eq_left, true_and, and_true, at0, at1, at2, at3, List.length_map, List.cons.injEq, Int.cast_ofNat_Int, Int.reduceEq, Int.reduceLT, Int.reduceLE, D.int.injEq, D.str.injEq, D.bl.injEq, D.tup.injEq, D.lst.injEq, exists_const, Int.zero_add, Nat.zero_add, Int.natCast_add, Int.natCast_one, Int.reduceAdd, yesE, sp_l_low]
  refine ⟨v, unit b m rows.length, ⟨rfl, rfl⟩, hun, by omega, 14, b, rows, m, v, SS, d1, rfl, hrr, h1, h3, hSS, hwI, by omega, oU.okT (by omega) (by omega), hgo, ?_⟩
  simp only [SSeq, SNil, SIf, SRet, SSet, SAsg, SPar, SMuL, SApp, SExt, SPut, SFz, frzR, SNo, TVar, TC, TOp, TB, TNil, TCons, TTup, TLst, TKey, oIx, seqOf, TAnd, TOr, TNot, TAndV, TOrV, TNotV, TIf, TCB, cLen, cAbs, cMax2, cMin2, cAll, cList, cTuple, cInt, TIsi, isD, tyD, TCall, TChain, TLc, TLc0, SFor, ISeq, IRg1, IRg2, IZip, TSl, TPs, TPn, slD, cut1, opII, opI0, TNeg, oAdd, oIsN, oNotN, oIsB, getS, startR, GName, GNil, GCons, GTup, List.map_cons, List.map_nil, List.length_cons, List.length_nil, List.cons_append, List.nil_append, List.set_cons_zero, List.set_cons_succ, List.replicate, List.append_nil, Option.map_some, Bool.not_true, Bool.not_false, Bool.false_eq_true, if_true, if_false, ite_true, ite_false, reduceIte, Nat.sub_self, Nat.reduceAdd, Nat.reduceSub, Bool.or_true, Bool.or_false, Bool.true_or, Bool.false_or, Bool.and_true, Bool.and_false, decide_true, decide_false, List.getElem?_cons_zero, List.getElem?_cons_succ, Option.some.injEq, exists_eq_left', exists_eq_left, true_and, and_true, at0, at1, at2, at3, List.length_map, List.cons.injEq, Int.cast_ofNat_Int, Int.reduceEq, Int.reduceLT, Int.reduceLE, D.int.injEq, D.str.injEq, D.bl.injEq, D.tup.injEq, D.lst.injEq, exists_const, Int.zero_add, Nat.zero_add, Int.natCast_add, Int.natCast_one, Int.reduceAdd, TLstRg1]
  have hN8 : NR rows ≤ 8 := hrr.len
  have hNl : (prodL rows).length = NR rows := rfl
  refine ⟨Nat.zero_le _, ⟨by omega, by omega⟩, 6, rfl, by omega, by omega, by omega, fun r r0 r1 => ?_⟩
  refine tree_mk 5 (held := []) (free := rgI 0 (NR rows)) (deep := r) hrr h1 h3 ⟨by simp, fun k hk => nomatch hk⟩ ⟨by rw [rgI_len]; exact hN8, fun k hk => by have := mem_rgI.mp hk; omega⟩ (rg_nodup _) (by rw [rgI_len]; simpa using hN8) (by omega) (by omega) fun d2 o n3 hsh o2 hn3 => ?_
  obtain ⟨u, rfl, huv, ha, hna⟩ := own_ok hrr h1 h3 (o2.okT (by omega) (by omega)) hv hsh
  have huv2 : decide (v < u) = false := decide_eq_false (by omega)
  simp only [SSeq, SNil, SIf, SRet, SSet, SAsg, SPar, SMuL, SApp, SExt, SPut, SFz, frzR, SNo, TVar, TC, TOp, TB, TNil, TCons, TTup, TLst, TKey, oIx, seqOf, TAnd, TOr, TNot, TAndV, TOrV, TNotV, TIf, TCB, cLen, cAbs, cMax2, cMin2, cAll, cList, cTuple, cInt, TIsi, isD, tyD, TCall, TChain, TLc, TLc0, SFor, ISeq, IRg1, IRg2, IZip, TSl, TPs, TPn, slD, cut1, opII, opI0, TNeg, oAdd, oIsN, oNotN, oIsB, getS, startR, GName, GNil, GCons, GTup, List.map_cons, List.map_nil, List.length_cons, List.length_nil, List.cons_append, List.nil_append, List.set_cons_zero, List.set_cons_succ, List.replicate, List.append_nil, Option.map_some, Bool.not_true, Bool.not_false, Bool.false_eq_true, if_true, if_false, ite_true, ite_false, reduceIte, Nat.sub_self, Nat.reduceAdd, Nat.reduceSub, Bool.or_true, Bool.or_false, Bool.true_or, Bool.false_or, Bool.and_true, Bool.and_false, decide_true, decide_false, List.getElem?_cons_zero, List.getElem?_cons_succ, Option.some.injEq, exists_eq_left', exists_eq_left, true_and, and_true, at0, at1, at2, at3, List.length_map, List.cons.injEq, Int.cast_ofNat_Int, Int.reduceEq, Int.reduceLT, Int.reduceLE, D.int.injEq, D.str.injEq, D.bl.injEq, D.tup.injEq, D.lst.injEq, exists_const, Int.zero_add, Nat.zero_add, Int.natCast_add, Int.natCast_one, Int.reduceAdd, oD]
  refine ⟨false, rfl, ?_⟩
  have hu1 : (mkRat u (unit b m rows.length)).den < 2 ^ 64 := Nat.lt_of_le_of_lt (mk_den hun) (by omega)
  have hu2 : (mkRat (u + 1) (unit b m rows.length)).den < 2 ^ 64 := Nat.lt_of_le_of_lt (mk_den hun) (by omega)
  simp only [SSeq, SNil, SIf, SRet, SSet, SAsg, SPar, SMuL, SApp, SExt, SPut, SFz, frzR, SNo, TVar, TC, TOp, TB, TNil, TCons, TTup, TLst, TKey, oIx, seqOf, TAnd, TOr, TNot, TAndV, TOrV, TNotV, TIf, TCB, cLen, cAbs, cMax2, cMin2, cAll, cList, cTuple, cInt, TIsi, isD, tyD, TCall, TChain, TLc, TLc0, SFor, ISeq, IRg1, IRg2, IZip, TSl, TPs, TPn, slD, cut1, opII, opI0, TNeg, oAdd, oIsN, oNotN, oIsB, getS, startR, GName, GNil, GCons, GTup, List.map_cons, List.map_nil, List.length_cons, List.length_nil, List.cons_append, List.nil_append, List.set_cons_zero, List.set_cons_succ, List.replicate, List.append_nil, Option.map_some, Bool.not_true, Bool.not_false, Bool.false_eq_true, if_true, if_false, ite_true, ite_false, reduceIte, Nat.sub_self, Nat.reduceAdd, Nat.reduceSub, Bool.or_true, Bool.or_false, Bool.true_or, Bool.false_or, Bool.and_true, Bool.and_false, decide_true, decide_false, List.getElem?_cons_zero, List.getElem?_cons_succ, Option.some.injEq, exists_eq_left', exists_eq_left, true_and, and_true, at0, at1, at2, at3, List.length_map, List.cons.injEq, Int.cast_ofNat_Int, Int.reduceEq, Int.reduceLT, Int.reduceLE, D.int.injEq, D.str.injEq, D.bl.injEq, D.tup.injEq, D.lst.injEq, exists_const, Int.zero_add, Nat.zero_add, Int.natCast_add, Int.natCast_one, Int.reduceAdd, huv2]
  refine ⟨u, unit b m rows.length, ⟨rfl, rfl⟩, hun, by omega, 20, b, rows, m, _, d2, rfl, hrr, h1, h3, hu1, (o2.mono (Nat.le_refl _) (Nat.le_refl _) (j := 20) (by omega)).okT (by omega) (by omega), ?_⟩
  rw [ha]
  simp only [SSeq, SNil, SIf, SRet, SSet, SAsg, SPar, SMuL, SApp, SExt, SPut, SFz, frzR, SNo, TVar, TC, TOp, TB, TNil, TCons, TTup, TLst, TKey, oIx, seqOf, TAnd, TOr, TNot, TAndV, TOrV, TNotV, TIf, TCB, cLen, cAbs, cMax2, cMin2, cAll, cList, cTuple, cInt, TIsi, isD, tyD, TCall, TChain, TLc, TLc0, SFor, ISeq, IRg1, IRg2, IZip, TSl, TPs, TPn, slD, cut1, opII, opI0, TNeg, oAdd, oIsN, oNotN, oIsB, getS, startR, GName, GNil, GCons, GTup, List.map_cons, List.map_nil, List.length_cons, List.length_nil, List.cons_append, List.nil_append, List.set_cons_zero, List.set_cons_succ, List.replicate, List.append_nil, Option.map_some, Bool.not_true, Bool.not_false, Bool.false_eq_true, if_true, if_false, ite_true, ite_false, reduceIte, Nat.sub_self, Nat.reduceAdd, Nat.reduceSub, Bool.or_true, Bool.or_false, Bool.true_or, Bool.false_or, Bool.and_true, Bool.and_false, decide_true, decide_false, List.getElem?_cons_zero, List.getElem?_cons_succ, Option.some.injEq, exists_eq_left', exists_eq_left, true_and, and_true, at0, at1, at2, at3, List.length_map, List.cons.injEq, Int.cast_ofNat_Int, Int.reduceEq, Int.reduceLT, Int.reduceLE, D.int.injEq, D.str.injEq, D.bl.injEq, D.tup.injEq, D.lst.injEq, exists_const, Int.zero_add, Nat.zero_add, Int.natCast_add, Int.natCast_one, Int.reduceAdd, neS2, yes_yes]
  refine ⟨u + 1, unit b m rows.length, ⟨rfl, rfl⟩, hun, by omega, 20, b, rows, m, _, d2, rfl, hrr, h1, h3, hu2, (o2.mono (Nat.le_refl _) (Nat.le_refl _) (j := 20) (by omega)).okT (by omega) (by omega), ?_⟩
  rw [hna]
  simp only [SSeq, SNil, SIf, SRet, SSet, SAsg, SPar, SMuL, SApp, SExt, SPut, SFz, frzR, SNo, TVar, TC, TOp, TB, TNil, TCons, TTup, TLst, TKey, oIx, seqOf, TAnd, TOr, TNot, TAndV, TOrV, TNotV, TIf, TCB, cLen, cAbs, cMax2, cMin2, cAll, cList, cTuple, cInt, TIsi, isD, tyD, TCall, TChain, TLc, TLc0, SFor, ISeq, IRg1, IRg2, IZip, TSl, TPs, TPn, slD, cut1, opII, opI0, TNeg, oAdd, oIsN, oNotN, oIsB, getS, startR, GName, GNil, GCons, GTup, List.map_cons, List.map_nil, List.length_cons, List.length_nil, List.cons_append, List.nil_append, List.set_cons_zero, List.set_cons_succ, List.replicate, List.append_nil, Option.map_some, Bool.not_true, Bool.not_false, Bool.false_eq_true, if_true, if_false, ite_true, ite_false, reduceIte, Nat.sub_self, Nat.reduceAdd, Nat.reduceSub, Bool.or_true, Bool.or_false, Bool.true_or, Bool.false_or, Bool.and_true, Bool.and_false, decide_true, decide_false, List.getElem?_cons_zero, List.getElem?_cons_succ, Option.some.injEq, exists_eq_left', exists_eq_left, true_and, and_true, at0, at1, at2, at3, List.length_map, List.cons.injEq, Int.cast_ofNat_Int, Int.reduceEq, Int.reduceLT, Int.reduceLE, D.int.injEq, D.str.injEq, D.bl.injEq, D.tup.injEq, D.lst.injEq, exists_const, Int.zero_add, Nat.zero_add, Int.natCast_add, Int.natCast_one, Int.reduceAdd, neS2, no_no]
  exact hE9 b rows m v u _ _ _ _ _ _ _ _ _ _ _ _ _ _ _ _ _ hrr h1 h3 hv (oU.mono (Nat.le_refl _) (Nat.le_refl _) (by omega)) (o2.mono (Nat.le_refl _) (Nat.le_refl _) (by omega)) (by omega)
theorem due_eq (b : Nat) (rows : List (List Int)) : (prodL (gsOf b rows)).map ptD = (prodL rows).map fun xs => D.tup (xs.map fun x => fr (mkRat x b)) := by
  rw [prod_gs, List.map_map]
  refine List.map_congr_left fun xs _ => ?_
  show D.tup ((xs.map (fb b)).map fr) = _
  rw [List.map_map]; rfl
theorem due_rp {b : Nat} {rows : List (List Int)} (hr : OkR b rows) : Rp 539 3 (.tup ((prodL rows).map fun xs => D.tup (xs.map fun x => fr (mkRat x b)))) := by
  have hb := hr.b9
  have hb2 := hr.b997
  refine rp_tup (B := 65) (e := 2) (N := 8) (fun xs hx => ?_) hr.len
  have hp := mem_prodL.mp hx
  refine (rp_tup (B := 29) (e := 1) (N := 2) (xs := xs) (f := fun x => fr (mkRat x b)) (fun x hxx => ?_) (by rw [hp.len]; exact hr.s2))
  obtain ⟨g, hg, hxg⟩ := hp.of_mem x hxx
  have := hr.nums g hg x hxg
  exact rp_low (by omega) (by omega) (by omega)
/-- what is handed in, the least by whole numbers, and the told least set -/
theorem law_top (f : Addr) (cdv : Value) (A : Around) (outer : List Env) (s : Shared) (H : Hp) (E : XK) (B : Bt mg) (Cc : Cs K w mg) (hr : Room 30 (lawA A s f cdv)) (hgd : (lawA A s f cdv).guards = some []) (S9 : TrS) (hS9 : PSts (lawX Pr w K mg base f cdv A outer s H E) ((defBody s_law).drop 9) S9)
    (hE9 : ∀ (b : Nat) (rows : List (List Int)) (m : Nat) (v : Int) (W : Wf) (SS : List Int) (t0 t4 t9 t10 t11 t12 t13 t14 t15 t16 t17 t18 t19 t20 : Sl) (n : Nat), OkR b rows → 1 ≤ m → m ≤ 3 → m ≤ NR rows → LeastI b rows m v →
      Worsts (gsOf b rows) m W (setsI (NR rows) m) → SS ∈ setsI (NR rows) m → (∀ T ∈ setsI (NR rows) m, (W SS).1 ≤ (W T).1) → n ≤ 500 →
      S9 yesE [t0, .val .tape, .val (caseD b rows), .val (.lst ((prodL rows).map tupI)), t4, .val (.int m), .val (.int (unit b m rows.length : Nat)), .val (.int v), .val (.tup [fr (W SS).1, .key SS, treeD W (NR rows) m 9 [] 0]), t9, t10, t11, t12, t13, t14, t15, t16, t17, t18, t19, t20] n)
    (h_l_draw : Has Pr w K mg base "_law_draw" ["_law_tape_here", "_law_many"] k_l_draw sp_l_draw) (h_l_low : Has Pr w K mg base "_law_low" ["_law_top", "_law_bottom"] k_l_low sp_l_low) (h_least_set : Has Pr w K mg base "least_set" ["grid", "many"] k_least_set sp_least_set) (h_l_handed : Has Pr w K mg base "_law_handed" ["_law_case"] k_l_handed sp_l_handed) (h_l_places : Has Pr w K mg base "_law_places" ["_law_rows"] k_l_places sp_l_places) (h_l_grid : Has Pr w K mg base "_law_grid" ["_law_tape_here"] k_l_grid sp_l_grid)
    (h_l_least : Has Pr w K mg base "_law_least" ["_law_case", "_law_many"] k_l_least sp_l_least) (h_l_whole : Has Pr w K mg base "_law_whole" ["_law_case"] k_l_whole sp_l_whole) (h_places_of : Has Pr w K mg base "places_of" ["grid"] k_places_of sp_places_of) :
    ∃ S, PSts (lawX Pr w K mg base f cdv A outer s H E) ((defBody s_law).drop 1) S ∧ ∀ t0 : Sl, S yesE [t0, .val .tape, .un, .un, .un, .un, .un, .un, .un, .un, .un, .un, .un, .un, .un, .un, .un, .un, .un, .un, .un] 0 := by
  have sc := sc_law
  refine ⟨_, (bCons (sSet 2 sc.nd (vCall h_l_grid hr (aCons (vN 1) aNil))) (bCons (sSet 3 sc.nd (vCall h_l_places hr (aCons (vIx (vN 2) vI) aNil))) (bCons (sSet 4 sc.nd (vTuple B.tuple (aCons (vLc (own := [("_law_spot", 17)]) sc.nd (iL (vN 3)) (fun _ _ _ _ _ => (gN 17 sc.nd)) (fun _ _ _ _ _ => tN) (fun _ _ _ _ _ => (vTuple B.tuple (aCons (vLc (own := [("_law_x", 20)]) sc.nd (iT (vN 17)) (fun _ _ _ _ _ => (gN 20 sc.nd)) (fun _ _ _ _ _ => tN) (fun _ _ _ _ _ => (vCall h_l_low hr (aCons (vN 20) (aCons (vIx (vN 2) vI) aNil))))) aNil)))) aNil))) (bCons (sIf (bNe hr (vRepr hgd hr B.repr (aCons (vCall h_places_of hr (aCons (vCall h_l_handed hr (aCons (vN 2) aNil)) aNil)) aNil)) (vRepr hgd hr B.repr (aCons (vN 4) aNil)))
      (bOne (sRet vB))
      bNil) (bCons (sSet 5 sc.nd (vAdd vI (vCall h_l_draw hr (aCons (vN 1) (aCons (vMin2 B.min (aCons vI (aCons (vLen B.len (aCons (vN 3) aNil)) aNil))) aNil))))) (bCons (sSet 6 sc.nd (vMul (vN 5) (vCall h_l_whole hr (aCons (vN 2) aNil)))) (bCons (sSet 7 sc.nd (vCall h_l_least hr (aCons (vN 2) (aCons (vN 5) aNil)))) (bCons (sSet 8 sc.nd (vCall h_least_set hr (aCons (vCall h_l_handed hr (aCons (vN 2) aNil)) (aCons (vN 5) aNil)))) hS9)))))))), ?_⟩
  intro t0
  simp only [SSeq, SNil, SIf, SRet, SSet, SAsg, SPar, SMuL, SApp, SExt, SPut, SFz, frzR, SNo, TVar, TC, TOp, TB, TNil, TCons, TTup, TLst, TKey, oIx, seqOf, TAnd, TOr, TNot, TAndV, TOrV, TNotV, TIf, TCB, cLen, cAbs, cMax2, cMin2, cAll, cList, cTuple, cInt, TIsi, isD, tyD, TCall, TChain, TLc, TLc0, SFor, ISeq, IRg1, IRg2, IZip, TSl, TPs, TPn, slD, cut1, opII, opI0, TNeg, oAdd, oIsN, oNotN, oIsB, getS, startR, GName, GNil, GCons, GTup, List.map_cons, List.map_nil, List.length_cons, List.length_nil, List.cons_append, List.nil_append, List.set_cons_zero, List.set_cons_succ, List.replicate, List.append_nil, Option.map_some, Bool.not_true, Bool.not_false, Bool.false_eq_true, if_true, if_false, ite_true, ite_false, reduceIte, Nat.sub_self, Nat.reduceAdd, Nat.reduceSub, Bool.or_true, Bool.or_false, Bool.true_or, Bool.false_or, Bool.and_true, Bool.and_false, decide_true, decide_false, List.getElem?_cons_zero, List.getElem?_cons_succ, Option.some.injEq, exists_eq_left', exists_eq_left, true_and, and_true, at0, at1, at2, at3, List.length_map, List.cons.injEq, Int.cast_ofNat_Int, Int.reduceEq, Int.reduceLT, Int.reduceLE, D.int.injEq, D.str.injEq, D.bl.injEq, D.tup.injEq, D.lst.injEq, exists_const, Int.zero_add, Nat.zero_add, Int.natCast_add, Int.natCast_one, Int.reduceAdd, yesE, sp_l_grid, sp_l_handed, sp_l_places]
  refine ⟨by omega, fun b rows n hrr hn => ?_⟩
  simp only [SSeq, SNil, SIf, SRet, SSet, SAsg, SPar, SMuL, SApp, SExt, SPut, SFz, frzR, SNo, TVar, TC, TOp, TB, TNil, TCons, TTup, TLst, TKey, oIx, seqOf, TAnd, TOr, TNot, TAndV, TOrV, TNotV, TIf, TCB, cLen, cAbs, cMax2, cMin2, cAll, cList, cTuple, cInt, TIsi, isD, tyD, TCall, TChain, TLc, TLc0, SFor, ISeq, IRg1, IRg2, IZip, TSl, TPs, TPn, slD, cut1, opII, opI0, TNeg, oAdd, oIsN, oNotN, oIsB, getS, startR, GName, GNil, GCons, GTup, List.map_cons, List.map_nil, List.length_cons, List.length_nil, List.cons_append, List.nil_append, List.set_cons_zero, List.set_cons_succ, List.replicate, List.append_nil, Option.map_some, Bool.not_true, Bool.not_false, Bool.false_eq_true, if_true, if_false, ite_true, ite_false, reduceIte, Nat.sub_self, Nat.reduceAdd, Nat.reduceSub, Bool.or_true, Bool.or_false, Bool.true_or, Bool.false_or, Bool.and_true, Bool.and_false, decide_true, decide_false, List.getElem?_cons_zero, List.getElem?_cons_succ, Option.some.injEq, exists_eq_left', exists_eq_left, true_and, and_true, at0, at1, at2, at3, List.length_map, List.cons.injEq, Int.cast_ofNat_Int, Int.reduceEq, Int.reduceLT, Int.reduceLE, D.int.injEq, D.str.injEq, D.bl.injEq, D.tup.injEq, D.lst.injEq, exists_const, Int.zero_add, Nat.zero_add, Int.natCast_add, Int.natCast_one, Int.reduceAdd, caseD]
  refine ⟨rows, rfl, hrr.s2, fun r hrm => by have := hrr.row r hrm; omega, ?_⟩
  have hN8 : NR rows ≤ 8 := hrr.len
  have hNl : (prodL rows).length = NR rows := rfl
  have hb9 := hrr.b9
  have hb997 := hrr.b997
  have hpos := hrr.pos
  refine lc_mapF (prodL rows) tupI (fun xs => D.tup (xs.map fun x => fr (mkRat x b))) (sz8 (by omega)) (fun xs hxs Q hQ => ?_) ?_
  · have hxl := (mem_prodL.mp hxs).len
    have hs2 := hrr.s2
    simp only [SSeq, SNil, SIf, SRet, SSet, SAsg, SPar, SMuL, SApp, SExt, SPut, SFz, frzR, SNo, TVar, TC, TOp, TB, TNil, TCons, TTup, TLst, TKey, oIx, seqOf, TAnd, TOr, TNot, TAndV, TOrV, TNotV, TIf, TCB, cLen, cAbs, cMax2, cMin2, cAll, cList, cTuple, cInt, TIsi, isD, tyD, TCall, TChain, TLc, TLc0, SFor, ISeq, IRg1, IRg2, IZip, TSl, TPs, TPn, slD, cut1, opII, opI0, TNeg, oAdd, oIsN, oNotN, oIsB, getS, startR, GName, GNil, GCons, GTup, List.map_cons, List.map_nil, List.length_cons, List.length_nil, List.cons_append, List.nil_append, List.set_cons_zero, List.set_cons_succ, List.replicate, List.append_nil, Option.map_some, Bool.not_true, Bool.not_false, Bool.false_eq_true, if_true, if_false, ite_true, ite_false, reduceIte, Nat.sub_self, Nat.reduceAdd, Nat.reduceSub, Bool.or_true, Bool.or_false, Bool.true_or, Bool.false_or, Bool.and_true, Bool.and_false, decide_true, decide_false, List.getElem?_cons_zero, List.getElem?_cons_succ, Option.some.injEq, exists_eq_left', exists_eq_left, true_and, and_true, at0, at1, at2, at3, List.length_map, List.cons.injEq, Int.cast_ofNat_Int, Int.reduceEq, Int.reduceLT, Int.reduceLE, D.int.injEq, D.str.injEq, D.bl.injEq, D.tup.injEq, D.lst.injEq, exists_const, Int.zero_add, Nat.zero_add, Int.natCast_add, Int.natCast_one, Int.reduceAdd, wipeR, tupI]
    refine lc_mapF xs D.int (fun x => fr (mkRat x b)) (sz8 (by omega)) (fun x hx Q2 hQ2 => ?_) hQ
    simp only [SSeq, SNil, SIf, SRet, SSet, SAsg, SPar, SMuL, SApp, SExt, SPut, SFz, frzR, SNo, TVar, TC, TOp, TB, TNil, TCons, TTup, TLst, TKey, oIx, seqOf, TAnd, TOr, TNot, TAndV, TOrV, TNotV, TIf, TCB, cLen, cAbs, cMax2, cMin2, cAll, cList, cTuple, cInt, TIsi, isD, tyD, TCall, TChain, TLc, TLc0, SFor, ISeq, IRg1, IRg2, IZip, TSl, TPs, TPn, slD, cut1, opII, opI0, TNeg, oAdd, oIsN, oNotN, oIsB, getS, startR, GName, GNil, GCons, GTup, List.map_cons, List.map_nil, List.length_cons, List.length_nil, List.cons_append, List.nil_append, List.set_cons_zero, List.set_cons_succ, List.replicate, List.append_nil, Option.map_some, Bool.not_true, Bool.not_false, Bool.false_eq_true, if_true, if_false, ite_true, ite_false, reduceIte, Nat.sub_self, Nat.reduceAdd, Nat.reduceSub, Bool.or_true, Bool.or_false, Bool.true_or, Bool.false_or, Bool.and_true, Bool.and_false, decide_true, decide_false, List.getElem?_cons_zero, List.getElem?_cons_succ, Option.some.injEq, exists_eq_left', exists_eq_left, true_and, and_true, at0, at1, at2, at3, List.length_map, List.cons.injEq, Int.cast_ofNat_Int, Int.reduceEq, Int.reduceLT, Int.reduceLE, D.int.injEq, D.str.injEq, D.bl.injEq, D.tup.injEq, D.lst.injEq, exists_const, Int.zero_add, Nat.zero_add, Int.natCast_add, Int.natCast_one, Int.reduceAdd, wipeR]
    exact ⟨x, b, rfl, by omega, by omega, hQ2⟩
  simp only [SSeq, SNil, SIf, SRet, SSet, SAsg, SPar, SMuL, SApp, SExt, SPut, SFz, frzR, SNo, TVar, TC, TOp, TB, TNil, TCons, TTup, TLst, TKey, oIx, seqOf, TAnd, TOr, TNot, TAndV, TOrV, TNotV, TIf, TCB, cLen, cAbs, cMax2, cMin2, cAll, cList, cTuple, cInt, TIsi, isD, tyD, TCall, TChain, TLc, TLc0, SFor, ISeq, IRg1, IRg2, IZip, TSl, TPs, TPn, slD, cut1, opII, opI0, TNeg, oAdd, oIsN, oNotN, oIsB, getS, startR, GName, GNil, GCons, GTup, List.map_cons, List.map_nil, List.length_cons, List.length_nil, List.cons_append, List.nil_append, List.set_cons_zero, List.set_cons_succ, List.replicate, List.append_nil, Option.map_some, Bool.not_true, Bool.not_false, Bool.false_eq_true, if_true, if_false, ite_true, ite_false, reduceIte, Nat.sub_self, Nat.reduceAdd, Nat.reduceSub, Bool.or_true, Bool.or_false, Bool.true_or, Bool.false_or, Bool.and_true, Bool.and_false, decide_true, decide_false, List.getElem?_cons_zero, List.getElem?_cons_succ, Option.some.injEq, exists_eq_left', exists_eq_left, true_and, and_true, at0, at1, at2, at3, List.length_map, List.cons.injEq, Int.cast_ofNat_Int, Int.reduceEq, Int.reduceLT, Int.reduceLE, D.int.injEq, D.str.injEq, D.bl.injEq, D.tup.injEq, D.lst.injEq, exists_const, Int.zero_add, Nat.zero_add, Int.natCast_add, Int.natCast_one, Int.reduceAdd, sp_places_of, sp_l_whole, sp_l_least, sp_least_set]
  refine ⟨b, rows, ⟨rfl, rfl⟩, hrr, gsOf b rows, rfl, okG_of hrr, ?_⟩
  rw [due_eq]
  refine (due_rp hrr).all (by decide) (by decide) ?_
  refine (due_rp hrr).all (by decide) (by decide) ?_
  simp only [SSeq, SNil, SIf, SRet, SSet, SAsg, SPar, SMuL, SApp, SExt, SPut, SFz, frzR, SNo, TVar, TC, TOp, TB, TNil, TCons, TTup, TLst, TKey, oIx, seqOf, TAnd, TOr, TNot, TAndV, TOrV, TNotV, TIf, TCB, cLen, cAbs, cMax2, cMin2, cAll, cList, cTuple, cInt, TIsi, isD, tyD, TCall, TChain, TLc, TLc0, SFor, ISeq, IRg1, IRg2, IZip, TSl, TPs, TPn, slD, cut1, opII, opI0, TNeg, oAdd, oIsN, oNotN, oIsB, getS, startR, GName, GNil, GCons, GTup, List.map_cons, List.map_nil, List.length_cons, List.length_nil, List.cons_append, List.nil_append, List.set_cons_zero, List.set_cons_succ, List.replicate, List.append_nil, Option.map_some, Bool.not_true, Bool.not_false, Bool.false_eq_true, if_true, if_false, ite_true, ite_false, reduceIte, Nat.sub_self, Nat.reduceAdd, Nat.reduceSub, Bool.or_true, Bool.or_false, Bool.true_or, Bool.false_or, Bool.and_true, Bool.and_false, decide_true, decide_false, List.getElem?_cons_zero, List.getElem?_cons_succ, Option.some.injEq, exists_eq_left', exists_eq_left, true_and, and_true, at0, at1, at2, at3, List.length_map, List.cons.injEq, Int.cast_ofNat_Int, Int.reduceEq, Int.reduceLT, Int.reduceLE, D.int.injEq, D.str.injEq, D.bl.injEq, D.tup.injEq, D.lst.injEq, exists_const, Int.zero_add, Nat.zero_add, Int.natCast_add, Int.natCast_one, Int.reduceAdd, neS]
  refine ⟨(if ((prodL rows).length : Int) < 3 then ((prodL rows).length : Int) else 3), rfl, by split <;> omega, by split <;> omega, by omega, fun r r0 r1 => ?_⟩
  have hm : 1 ≤ (1 + r).toNat ∧ (1 + r).toNat ≤ 3 ∧ (1 + r).toNat ≤ NR rows ∧ 1 + r = ((1 + r).toNat : Int) := by
    split at r1 <;> omega
  dsimp only
  rw [hm.2.2.2]
  generalize (1 + r).toNat = m at hm ⊢
  obtain ⟨h1, h3, hmN, em⟩ := hm
  have hwb := whole_bd hrr
  have eu : (m : Int) * wholeI b rows = ((unit b m rows.length : Nat) : Int) := by unfold wholeI unit; rw [Int.natCast_mul, Int.natCast_pow]
  refine ⟨b, rows, rfl, hrr, cmul_r hwb.1 (by omega), b, rows, m, ⟨rfl, rfl⟩, hrr, h1, h3, hmN, fun v hv => ?_⟩
  refine ⟨b, rows, ⟨rfl, rfl⟩, hrr, gsOf b rows, m, ⟨rfl, rfl⟩, okG_of hrr, h1, h3, by rw [NR_eq]; exact hmN, fun W SS hW hSS hmin => ?_⟩
  rw [NR_eq] at hW hSS hmin ⊢
  rw [eu]
  exact hE9 b rows m v W SS _ _ _ _ _ _ _ _ _ _ _ _ _ _ _ hrr h1 h3 hmN hv hW hSS hmin (by omega)
end
end Pu

/-! W13: the law, from its script. -/
namespace Pu
open PySem PySem.Spec PyProof PyProof.Rows L2
def spLaw (K : PySem.W.Frag) : Sp := fun vs H Q _ => ∃ (a : Addr) (ks : List Int), vs = [.ref a] ∧ SqL K H a (ks.map V.int) ∧ ∀ H' : Hp, Q (.bl true) H'
section
variable {Pr : Program} {w : World} {K : PySem.W.Frag} {mg : Str → Option Value} {base : Heap} {C CN : Addr}
theorem ok_law {f : Addr} {fd : FuncData} (F1 : FunD K "law" "law" (defArgs s_law) (defBody s_law) (defScope s_law) [] [] f fd) (B : Bt mg) (Cc : Cs K w mg)
    (h_l_bent : Has Pr w K mg base "_law_bent" ["_law_tape_here", "_law_thing"] (k_l_bent 15) (sp_l_bent 15)) (h_l_bent2 : Has Pr w K mg base "_law_bent" ["_law_tape_here", "_law_thing"] (k_l_bent 18) (sp_l_bent 18))
    (h_l_draw : Has Pr w K mg base "_law_draw" ["_law_tape_here", "_law_many"] k_l_draw sp_l_draw) (h_l_lets : Has Pr w K mg base "_law_lets" ["_law_case", "_law_many", "_law_number", "_law_thing"] k_l_lets sp_l_lets) (h_l_low : Has Pr w K mg base "_law_low" ["_law_top", "_law_bottom"] k_l_low sp_l_low)
    (h_least_set : Has Pr w K mg base "least_set" ["grid", "many"] k_least_set sp_least_set) (h_l_handed : Has Pr w K mg base "_law_handed" ["_law_case"] k_l_handed sp_l_handed) (h_l_places : Has Pr w K mg base "_law_places" ["_law_rows"] k_l_places sp_l_places) (h_l_grid : Has Pr w K mg base "_law_grid" ["_law_tape_here"] k_l_grid sp_l_grid)
    (h_l_least : Has Pr w K mg base "_law_least" ["_law_case", "_law_many"] k_l_least sp_l_least) (h_l_whole : Has Pr w K mg base "_law_whole" ["_law_case"] k_l_whole sp_l_whole) (h_places_of : Has Pr w K mg base "places_of" ["grid"] k_places_of sp_places_of)
    (h_l_tree : Has Pr w K mg base "_law_tree" ["_law_tape_here", "_law_case", "_law_many", "_law_held", "_law_free", "_law_deep"] (k_l_tree 6) (sp_l_tree 6)) (h_l_told_right : HasG Pr w K mg base "_law_told_right" ["_law_case", "_law_many", "_law_found", "_law_due"] k_l_told_right sp_l_told_right)
    (h_l_tape : ∃ f fd, FnOk Pr w K mg base CX0 1 f fd ["_law_script"] (spT K) ∧ mg "_law_tape" = some (.ref f) ∧ PySem.W.keepIn K (.ref f) = true ∧ Binds K fd ["_law_script"] []) :
    FnG Pr w K mg base 31 f fd ["_law_script"] (spLaw K) := by
  have sc := sc_law
  refine fnG_of F1 sc_law (fun vs H Q E h => ?_) fun cdv A outer s H vs Q E hgd hr hsp => ?_
  · obtain ⟨_, _, rfl, _⟩ := h; rfl
  obtain ⟨S4, p4, e4⟩ := law_end f cdv A outer s H E B Cc hr h_l_bent2 h_l_draw h_l_lets h_l_low
  obtain ⟨S3, p3, e3⟩ := law_mid f cdv A outer s H E B Cc hr S4 p4 e4 h_l_bent h_l_draw h_least_set h_l_handed h_l_places h_l_grid
  obtain ⟨S2, p2, e2⟩ := law_own f cdv A outer s H E B Cc hr hgd S3 p3 e3 h_l_draw h_l_lets h_l_low h_l_tree h_l_told_right
  obtain ⟨S1, p1, e1⟩ := law_top f cdv A outer s H E B Cc hr hgd S2 p2 e2 h_l_draw h_l_low h_least_set h_l_handed h_l_places h_l_grid h_l_least h_l_whole h_places_of
  obtain ⟨t1, q1, z1⟩ := p1.ex
  obtain ⟨ft, fdt, Ft, hmt, hkt, hbt⟩ := h_l_tape
  refine ⟨_, PSs.nox (pss_cons (ps_set (i := 1) sc.nd rfl (by first | exact .inl rfl | exact .inr rfl) (pe_call Ft (hr.mono (by omega)) (by rfl) hmt hkt hbt .nil pass0 (pa_cons (pe_var (i := 0) rfl (by first | exact Or.inl rfl | exact Or.inr (Or.inl rfl) | exact Or.inr (Or.inr rfl)) (by decide) (by decide)) pa_nil (by rfl)) (by decide) (by rfl) (by rfl)) (by rfl)) q1), ?_⟩
  obtain ⟨a, ks, rfl, hq, h⟩ := hsp
  refine ⟨V.ref a, rfl, a, ks, rfl, hq, fun H' ca tp cells hcl hold hca hne htp => ?_⟩
  let G : Hp := fun b => if b = tp then none else H' b
  have hG : ∀ b, b ≠ tp → G b = H' b := fun b hb => if_neg hb
  have hG0 : G tp = none := if_pos rfl
  have g : Good K tp 0 G H' := by
    refine ⟨fun b o hb => ?_, hG0, ca, 0, 0, 0, cells, htp, ?_, hcl, Int.le_refl _, Int.le_refl _, Int.le_refl _, Int.le_refl _⟩
    · by_cases e : b = tp
      · subst e; rw [hG0] at hb; cases hb
      · rw [hG b e] at hb; exact hb
    · rw [hG ca hne]; exact hca
  refine z1 tp 0 G H' G H' _ _ yesE _ ⟨g, Step.refl, ?_, ?_⟩ (e1 (.val (.raw (.ref a)))) ⟨fun _ _ _ _ _ _ _ h' => h'.elim, fun d n' v G' H2 g' s' a' h' => ?_, fun _ _ _ _ _ _ _ h' => h'.elim, fun _ _ _ _ _ _ _ h' => h'.elim⟩
  · exact env_start (N := lawN) (vs := [.ref a, .ref tp]) (ds := [.raw (.ref a), .tape]) (.cons (.raw _) (.cons .tape .nil))
  · exact own_start (N := lawN) (vs := [.ref a, .ref tp]) (ds := [.raw (.ref a), .tape])
  · have h' : d = .bl true := h'
    subst h'
    cases a'
    exact h H2
end
end Pu

/-! W14: all defs of the text together. -/
namespace Pu
open PySem PySem.Spec PyProof.Rows L2
section
variable {Pr : Program} {w : World} {K : PySem.W.Frag} {mg : Str → Option Value} {base : Heap} {C CN : Addr}
/-- no call: any bound -/
theorem has_none {x : Str} {st : Stmt} {ps : List Str} {sp : PSp} (F : Df K mg x st) (hb : ∀ (kV doc pm : Value) (an : Option Addr) (cdv ct : Value) (us : List Value), us.length = ps.length → bindArgs (PySem.W.fnOf x x (defArgs st) (defBody st) (defScope st) .none kV doc pm an cdv ct) ⟨us, []⟩ = pure (ps.zip us))
    (hn : ∀ ds n P, ¬ sp ds n P) (j : Nat) : Has Pr w K mg base x ps j sp := by
  obtain ⟨f, fd, F1, hm⟩ := F.ex
  have bn : Binds K fd ps [] := F1.bindsN hb
  have no : ∀ vs H Q E, ¬ spOf K sp vs H Q E := by
    rintro vs H Q E ⟨tp, n, G, ds, P, g, a, h, k⟩
    exact hn _ _ _ h
  exact ⟨f, fd, ⟨fun vs H Q E h => absurd h (no _ _ _ _), fun A outer s H args us vs Q E _ _ _ _ h => absurd h (no _ _ _ _)⟩, hm, F1.kp, bn⟩
structure Defs (K : PySem.W.Frag) (mg : Str → Option Value) (C : Addr) : Prop where
  D_is_whole : Df K mg "is_whole" s_is_whole
  D_shared : Df K mg "shared" s_shared
  D_fraction : Df K mg "fraction" s_fraction
  D_less : Df K mg "less" s_less
  D_times : Df K mg "times" s_times
  D_is_below : Df K mg "is_below" s_is_below
  D_from_nought : Df K mg "from_nought" s_from_nought
  D_is_fraction : Df K mg "is_fraction" s_is_fraction
  D_is_edge : Df K mg "is_edge" s_is_edge
  D_is_side : Df K mg "is_side" s_is_side
  D_is_box : Df K mg "is_box" s_is_box
  D_is_of : Df K mg "is_of" s_is_of
  D_is_corner : Df K mg "is_corner" s_is_corner
  D_side_size : Df K mg "side_size" s_side_size
  D_size_of : Df K mg "size_of" s_size_of
  D_is_ahead : Df K mg "is_ahead" s_is_ahead
  D_lies : Df K mg "lies" s_lies
  D_lies_in : Df K mg "lies_in" s_lies_in
  D_inside : Df K mg "inside" s_inside
  D_over_of : Df K mg "over_of" s_over_of
  D_lack_of : Df K mg "lack_of" s_lack_of
  D_in_size : Df K mg "in_size" s_in_size
  D_sides_of : Df K mg "sides_of" s_sides_of
  D_numbers_at : Df K mg "numbers_at" s_numbers_at
  D_side_looks : Df K mg "side_looks" s_side_looks
  D_many_at_side : Df K mg "many_at_side" s_many_at_side
  D_many_looks : Df K mg "many_looks" s_many_looks
  D_looks : Df K mg "looks" s_looks
  D_misses_of : Df K mg "misses_of" s_misses_of
  D_worst : Df K mg "worst" s_worst
  D_places_of : Df K mg "places_of" s_places_of
  D_many_sets : Df K mg "many_sets" s_many_sets
  D_sets_of : Df K mg "sets_of" s_sets_of
  D_tree_of : Df K mg "tree_of" s_tree_of
  D_least_set : Df K mg "least_set" s_least_set
  D_is_shaped : Df K mg "is_shaped" s_is_shaped
  D_lying : Df K mg "lying" s_lying
  D_over_by : Df K mg "over_by" s_over_by
  D_lack_by : Df K mg "lack_by" s_lack_by
  D_Walk_leaf_holds : DfM K C "leaf_holds" "Walk.leaf_holds" s_Walk_leaf_holds
  D_Walk_go : DfM K C "go" "Walk.go" s_Walk_go
  D_lets_least : Df K mg "lets_least" s_lets_least
  D_l_draw : Df K mg "_law_draw" s_l_draw
  D_l_tape : Df K mg "_law_tape" s_l_tape
  D_l_low : Df K mg "_law_low" s_l_low
  D_l_places : Df K mg "_law_places" s_l_places
  D_l_sets : Df K mg "_law_sets" s_l_sets
  D_l_side_looks : Df K mg "_law_side_looks" s_l_side_looks
  D_l_side_size : Df K mg "_law_side_size" s_l_side_size
  D_l_lies : Df K mg "_law_lies" s_l_lies
  D_l_whole : Df K mg "_law_whole" s_l_whole
  D_l_handed : Df K mg "_law_handed" s_l_handed
  D_l_boxes : Df K mg "_law_boxes" s_l_boxes
  D_l_in : Df K mg "_law_in" s_l_in
  D_l_shown : Df K mg "_law_shown" s_l_shown
  D_l_grid : Df K mg "_law_grid" s_l_grid
  D_l_worst : Df K mg "_law_worst" s_l_worst
  D_l_odd : Df K mg "_law_odd" s_l_odd
  D_l_bent : Df K mg "_law_bent" s_l_bent
  D_l_leaf : Df K mg "_law_leaf" s_l_leaf
  D_l_tree : Df K mg "_law_tree" s_l_tree
  D_l_lets : Df K mg "_law_lets" s_l_lets
  D_l_least : Df K mg "_law_least" s_l_least
  D_l_told_right : Df K mg "_law_told_right" s_l_told_right
  D_law : Df K mg "law" s_law
theorem all_ok (D : Defs K mg C) (B : Bt mg) (Cc : Cs K w mg) (Wk : WkF K mg C) (NP : NoP K mg CN (inClass (top 4) 0)) {f : Addr} {fd : FuncData} (F1 : FunD K "law" "law" (defArgs s_law) (defBody s_law) (defScope s_law) [] [] f fd) : FnG Pr w K mg base 31 f fd ["_law_script"] (spLaw K) := by
  have h_is_whole := ok_is_whole (Pr := Pr) (w := w) (base := base) D.D_is_whole B Cc
  have h_shared := ok_shared (Pr := Pr) (w := w) (base := base) D.D_shared B Cc
  have h_fraction := ok_fraction (Pr := Pr) (w := w) (base := base) D.D_fraction B Cc h_shared
  have h_less := ok_less (Pr := Pr) (w := w) (base := base) D.D_less B Cc h_fraction
  have h_times := ok_times (Pr := Pr) (w := w) (base := base) D.D_times B Cc h_fraction
  have h_is_below := ok_is_below (Pr := Pr) (w := w) (base := base) D.D_is_below B Cc
  have h_from_nought := ok_from_nought (Pr := Pr) (w := w) (base := base) D.D_from_nought B Cc h_is_below
  have h_is_fraction := ok_is_fraction (Pr := Pr) (w := w) (base := base) D.D_is_fraction B Cc h_shared h_is_whole
  have h_is_edge := ok_is_edge (Pr := Pr) (w := w) (base := base) D.D_is_edge B Cc h_is_fraction
  have h_is_side := ok_is_side (Pr := Pr) (w := w) (base := base) D.D_is_side B Cc h_is_edge
  have h_is_box := ok_is_box (Pr := Pr) (w := w) (base := base) D.D_is_box B Cc h_is_side
  have h_is_of := ok_is_of (Pr := Pr) (w := w) (base := base) D.D_is_of B Cc
  have h_is_corner := ok_is_corner (Pr := Pr) (w := w) (base := base) D.D_is_corner B Cc h_is_of h_is_box
  have h_side_size := ok_side_size (Pr := Pr) (w := w) (base := base) D.D_side_size B Cc h_from_nought
  have h_size_of := ok_size_of (Pr := Pr) (w := w) (base := base) D.D_size_of B Cc h_times h_side_size
  have h_is_ahead := ok_is_ahead (Pr := Pr) (w := w) (base := base) D.D_is_ahead B Cc h_is_below
  have h_lies := ok_lies (Pr := Pr) (w := w) (base := base) D.D_lies B Cc h_is_ahead
  have h_lies_in := ok_lies_in (Pr := Pr) (w := w) (base := base) D.D_lies_in B Cc h_lies
  have h_inside := ok_inside (Pr := Pr) (w := w) (base := base) D.D_inside B Cc h_lies_in
  have h_over_of := ok_over_of (Pr := Pr) (w := w) (base := base) D.D_over_of B Cc h_less h_size_of h_fraction h_inside
  have h_lack_of := ok_lack_of (Pr := Pr) (w := w) (base := base) D.D_lack_of B Cc h_less h_fraction h_inside h_size_of
  have h_in_size := ok_in_size (Pr := Pr) (w := w) (base := base) D.D_in_size B Cc h_is_below
  have h_sides_of := ok_sides_of (Pr := Pr) (w := w) (base := base) D.D_sides_of B Cc
  have h_numbers_at := ok_numbers_at (Pr := Pr) (w := w) (base := base) D.D_numbers_at B Cc h_in_size
  have h_side_looks := ok_side_looks (Pr := Pr) (w := w) (base := base) D.D_side_looks B Cc
  have h_many_at_side := ok_many_at_side (Pr := Pr) (w := w) (base := base) D.D_many_at_side B Cc
  have h_many_looks := ok_many_looks (Pr := Pr) (w := w) (base := base) D.D_many_looks B Cc h_sides_of h_many_at_side h_numbers_at
  have h_looks := ok_looks (Pr := Pr) (w := w) (base := base) D.D_looks B Cc h_sides_of h_side_looks h_numbers_at h_many_looks
  have h_misses_of := ok_misses_of (Pr := Pr) (w := w) (base := base) D.D_misses_of B Cc h_lack_of h_over_of
  have h_worst := ok_worst (Pr := Pr) (w := w) (base := base) D.D_worst B Cc h_looks h_misses_of h_is_below
  have h_places_of := ok_places_of (Pr := Pr) (w := w) (base := base) D.D_places_of B Cc
  have h_many_sets := ok_many_sets (Pr := Pr) (w := w) (base := base) D.D_many_sets B Cc
  have h_sets_of := ok_sets_of (Pr := Pr) (w := w) (base := base) D.D_sets_of B Cc
  have r_tree_of : ∀ fl, Has Pr w K mg base "tree_of" ["known", "places", "many", "taken", "at"] (k_tree_of fl) (sp_tree_of fl) := fun fl => by
    induction fl with
    | zero => exact has_none D.D_tree_of (fun _ _ _ _ _ _ us hl => match us, hl with | [_, _, _, _, _], _ => rfl) (fun _ _ _ h => h) _
    | succ fl ih => exact step_tree_of fl D.D_tree_of B Cc ih
  have h_least_set := ok_least_set (Pr := Pr) (w := w) (base := base) D.D_least_set B Cc (r_tree_of 10) h_sets_of h_is_below h_worst h_many_sets h_places_of
  have h_is_shaped := ok_is_shaped (Pr := Pr) (w := w) (base := base) D.D_is_shaped B Cc
  have h_lying := ok_lying (Pr := Pr) (w := w) (base := base) D.D_lying B Cc h_lies_in
  have h_over_by := ok_over_by (Pr := Pr) (w := w) (base := base) D.D_over_by B Cc h_less h_size_of h_fraction h_lying
  have h_lack_by := ok_lack_by (Pr := Pr) (w := w) (base := base) D.D_lack_by B Cc h_less h_fraction h_size_of h_lying
  have h_Walk_leaf_holds := ok_Walk_leaf_holds (Pr := Pr) (w := w) (base := base) D.D_Walk_leaf_holds B Wk NP Cc h_is_below h_over_by h_lack_by
  have r_Walk_go : ∀ fl, HasMX Pr w K mg base CN C "go" ["self", "thing", "path", "taken", "free"] (k_Walk_go fl) (sp_Walk_go C fl) := fun fl => by
    induction fl with
    | zero => exact hasMX_zero D.D_Walk_go (fun _ _ _ _ _ _ us hl => match us, hl with | [_, _, _, _, _], _ => rfl) (fun _ _ _ _ h => h) _
    | succ fl ih => exact step_Walk_go fl D.D_Walk_go B Wk NP Cc h_Walk_leaf_holds h_is_corner ih h_is_shaped
  have h_lets_least := ok_lets_least (Pr := Pr) (w := w) (base := base) D.D_lets_least B Wk NP Cc (r_Walk_go 9) h_places_of
  have h_l_draw := ok_l_draw (Pr := Pr) (w := w) (base := base) D.D_l_draw B
  have h_l_tape := ok_l_tape (Pr := Pr) (w := w) (base := base) D.D_l_tape B
  have h_l_low := ok_l_low (Pr := Pr) (w := w) (base := base) D.D_l_low B Cc
  have h_l_places := ok_l_places (Pr := Pr) (w := w) (base := base) D.D_l_places B Cc
  have h_l_sets := ok_l_sets (Pr := Pr) (w := w) (base := base) D.D_l_sets B Cc
  have h_l_side_looks := ok_l_side_looks (Pr := Pr) (w := w) (base := base) D.D_l_side_looks B Cc
  have h_l_side_size := ok_l_side_size (Pr := Pr) (w := w) (base := base) D.D_l_side_size B Cc
  have h_l_lies := ok_l_lies (Pr := Pr) (w := w) (base := base) D.D_l_lies B Cc
  have h_l_whole := ok_l_whole (Pr := Pr) (w := w) (base := base) D.D_l_whole B Cc
  have h_l_handed := ok_l_handed (Pr := Pr) (w := w) (base := base) D.D_l_handed B Cc h_l_low
  have h_l_boxes := ok_l_boxes (Pr := Pr) (w := w) (base := base) D.D_l_boxes B Cc h_l_places
  have h_l_in := ok_l_in (Pr := Pr) (w := w) (base := base) D.D_l_in B Cc
  have h_l_shown := ok_l_shown (Pr := Pr) (w := w) (base := base) D.D_l_shown B Cc h_l_whole h_l_in h_l_places
  have h_l_grid := ok_l_grid (Pr := Pr) (w := w) (base := base) D.D_l_grid B Cc h_l_draw
  have h_l_worst := ok_l_worst (Pr := Pr) (w := w) (base := base) D.D_l_worst B Cc h_l_side_looks h_l_lies h_l_side_size
  have h_l_odd := ok_l_odd (Pr := Pr) (w := w) (base := base) D.D_l_odd B Cc h_l_draw
  have r_l_bent : ∀ fl, Has Pr w K mg base "_law_bent" ["_law_tape_here", "_law_thing"] (k_l_bent fl) (sp_l_bent fl) := fun fl => by
    induction fl with
    | zero => exact has_none D.D_l_bent (fun _ _ _ _ _ _ us hl => match us, hl with | [_, _], _ => rfl) (fun _ _ _ h => h) _
    | succ fl ih => exact step_l_bent fl D.D_l_bent B Cc ih h_l_draw h_l_odd
  have h_l_leaf := ok_l_leaf (Pr := Pr) (w := w) (base := base) D.D_l_leaf B Cc h_l_low h_l_draw h_l_boxes h_l_shown
  have r_l_tree : ∀ fl, Has Pr w K mg base "_law_tree" ["_law_tape_here", "_law_case", "_law_many", "_law_held", "_law_free", "_law_deep"] (k_l_tree fl) (sp_l_tree fl) := fun fl => by
    induction fl with
    | zero => exact has_none D.D_l_tree (fun _ _ _ _ _ _ us hl => match us, hl with | [_, _, _, _, _, _], _ => rfl) (fun _ _ _ h => h) _
    | succ fl ih => exact step_l_tree fl D.D_l_tree B Cc ih h_l_draw h_l_leaf
  have h_l_lets := ok_l_lets (Pr := Pr) (w := w) (base := base) D.D_l_lets B Wk NP Cc h_lets_least h_l_handed
  have h_l_least := ok_l_least (Pr := Pr) (w := w) (base := base) D.D_l_least B Cc h_l_sets h_l_worst h_l_places
  have h_l_told_right := ok_l_told_right (Pr := Pr) (w := w) (base := base) D.D_l_told_right B Cc h_l_lets h_l_low h_l_worst h_l_whole h_l_sets h_l_places
  exact ok_law F1 B Cc (r_l_bent 15) (r_l_bent 18) h_l_draw h_l_lets h_l_low h_least_set h_l_handed h_l_places h_l_grid h_l_least h_l_whole h_places_of (r_l_tree 6) h_l_told_right h_l_tape
end
end Pu

/-! W15: the law's promise where it is called from outside, no repr under way. -/
namespace Pu
open PySem PySem.Spec PyProof.Rows L2
section
variable {Pr : Program} {w : World} {K : PySem.W.Frag} {mg mbi : Str → Option Value} {k : Nat} {fl sa : Addr} {fd : FuncData} {x : Str} {sp : Sp} {st : Shared} {us : List Value} {ks : List Int}
/-- a heap that tracks the script at most -/
structure Scr (Pr : Program) (w : World) (K : PySem.W.Frag) (st : Shared) (sa : Addr) (ks : List Int) (T : Hp) : Prop where
  only : Only T
  seq : SqL K T sa (ks.map V.int)
  hok : HOk Pr w T st.heap
  one : ∀ c, T c ≠ none → c = sa
  kno : T sa ≠ none → K.lookup sa = none
theorem Scr.cases {T : Hp} (S : Scr Pr w K st sa ks T) (c : Addr) : T c = none ∨ c = sa := by
  by_cases q : T c = none
  · exact .inl q
  · exact .inr (S.one c q)
theorem Scr.mod {T : Hp} (S : Scr Pr w K st sa ks T) (KI : K.In st.heap) (hm : st.heap.Ns mainGlobals mg) (hb : st.heap.Ns builtinsNs mbi) (hbb : ∀ y : Str, y ≠ "__name__" → mbi y = bootBuiltins y) (hl : st.heap.NoLimit)
    (hs : st.heap.get? sa = some { cls := .type "list", data := .seq us.toArray }) : Mod K mg (hidT st.heap T) := by
  have noD : ∀ {c : Addr} {o : Obj} {en : Array DictEntry} {n : Nat}, st.heap.get? c = some o → o.data = .dict en n → T c = none := fun {c o en n} g d => (S.cases c).elim id fun q => by
    exfalso
    rw [q, hs] at g
    cases g
    have z : Data.seq us.toArray _ = Data.dict en n := d
    cases z
  have ns : ∀ {c : Addr} {m : Str → Option Value}, st.heap.Ns c m → (hidT st.heap T).Ns c m := fun {c m} ⟨o, en, n, g, d, r⟩ => ⟨o, en, n, hidT_get g (noD g d), d, r⟩
  obtain ⟨ml, l1, l2⟩ := hl
  refine ⟨fun c o g => hidT_get (KI c o g) ((S.cases c).elim id fun q => ?_), ns hm, ⟨mbi, ns hb, hbb⟩, ml, ns l1, l2⟩
  by_cases z : T c = none
  · exact z
  · rw [q] at z g
    rw [S.kno z] at g
    cases g
theorem Scr.call {T : Hp} (S : Scr Pr w K st sa ks T) (KI : K.In st.heap) (hm : st.heap.Ns mainGlobals mg) (hb : st.heap.Ns builtinsNs mbi) (hbb : ∀ y : Str, y ≠ "__name__" → mbi y = bootBuiltins y) (hl : st.heap.NoLimit) (hg : st.gens = #[])
    (hs : st.heap.get? sa = some { cls := .type "list", data := .seq us.toArray }) (hr : Room k callerA)
    (F : ∀ bs : Heap, K.In bs → bs.Ns mainGlobals mg → FnG Pr w K mg bs k fl fd [x] sp) (bt : Binds K fd [x] [])
    (hsp : ∀ T : Hp, Only T → SqL K T sa (ks.map V.int) → sp [.ref sa] T (fun v _ => v = .bl true) fun _ _ _ => False) :
    codeAny (model Pr w) callerA (.call (.ref fl) ⟨[.ref sa], []⟩) (fun r s2 => r = .ok (.ret (.bool true)) ∧ OldK st.heap s2.heap ∧ s2.os = st.os ∧ AllBare s2.gens) st := by
  have M := S.mod KI hm hb hbb hl hs
  have env : Env0 Pr w K mg (hidT st.heap T) callerA [] st T :=
    ⟨rfl, M, fun c o e => of_hidT e, Nat.le_of_eq (hidT_size _ _), trivial, fun c hc => (nomatch hc), S.hok, .of_eq hg⟩
  have run := (F _ M.kin M.glob).run callerA [] st T ⟨[.ref sa], []⟩ [.ref sa] [.ref sa] _ _ rfl hr env (bt st [.ref sa] KI rfl) (.cons rfl .nil) (hsp T S.only S.seq)
  refine codeAny_mono run fun r s2 hq => ?_
  match r, hq with
  | .error e, hq => exact hq.elim
  | .ok .next, hq => exact hq.elim
  | .ok .brk, hq => exact hq.elim
  | .ok .cont, hq => exact hq.elim
  | .ok (.ret u), ⟨v, T2, o1, o2, un, h2, rv, q⟩ =>
    have q : v = .bl true := q
    subst q
    have ru : u = Value.bool true := rv
    subst ru
    refine ⟨rfl, OldK.of_keep fun c o g => ?_, o1, o2⟩
    cases z : T c with
    | none => exact un.keep c o g z (fun y => (nomatch y)) (by simp)
    | some t =>
      rcases S.only c with y | ⟨ob, xs, y⟩
      · rw [z] at y; cases y
      · obtain ⟨a1, _⟩ := S.hok c _ y
        obtain ⟨a2, _⟩ := h2 c _ (un.frzs c ob _ y)
        rw [g] at a1
        cases a1
        exact a2
/-- the law's promise, behind the top -/
theorem law_callG (KI : K.In st.heap) (hm : st.heap.Ns mainGlobals mg) (hb : st.heap.Ns builtinsNs mbi) (hbb : ∀ y : Str, y ≠ "__name__" → mbi y = bootBuiltins y) (hl : st.heap.NoLimit) (hg : st.gens = #[])
    (hs : st.heap.get? sa = some { cls := .type "list", data := .seq us.toArray }) (hi : IntsAre us ks) (hz : ks.length ≤ sizeLine) (hr : Room k callerA)
    (F : ∀ bs : Heap, K.In bs → bs.Ns mainGlobals mg → FnG Pr w K mg bs k fl fd [x] sp) (bt : Binds K fd [x] [])
    (hsp : ∀ T : Hp, Only T → SqL K T sa (ks.map V.int) → sp [.ref sa] T (fun v _ => v = .bl true) fun _ _ _ => False) :
    codeAny (model Pr w) callerA (.call (.ref fl) ⟨[.ref sa], []⟩) (fun r s2 => r = .ok (.ret (.bool true)) ∧ OldK st.heap s2.heap ∧ s2.os = st.os ∧ AllBare s2.gens) st := by
  have rv := vals_ints hi
  have hlen := hi.length
  cases kn : K.lookup sa with
  | some o =>
    have g := KI sa o kn
    rw [hs] at g
    cases g
    have S : Scr Pr w K st sa ks fun _ => none :=
      { only := fun _ => .inl rfl
        seq := .inr ⟨_, us.toArray, _, kn, rfl, rfl, rfl, by rw [List.size_toArray, hlen]; exact hz, by simpa using rv⟩
        hok := fun c t z => nomatch z
        one := fun c z => absurd rfl z
        kno := fun z => absurd rfl z }
    exact S.call KI hm hb hbb hl hg hs hr F bt hsp
  | none =>
    let T : Hp := fun c => if c = sa then some (.frz { cls := .type "list", data := .seq us.toArray } (.lst (ks.map V.int))) else none
    have t1 : T sa = some (.frz { cls := .type "list", data := .seq us.toArray } (.lst (ks.map V.int))) := if_pos rfl
    have t0 : ∀ c, c ≠ sa → T c = none := fun c hc => if_neg hc
    have S : Scr Pr w K st sa ks T :=
      { only := fun c => by
          by_cases hc : c = sa
          · subst hc; exact .inr ⟨_, _, t1⟩
          · exact .inl (t0 c hc)
        seq := .inl (.inr ⟨_, t1⟩)
        hok := fun c t z => by
          by_cases hc : c = sa
          · subst hc
            rw [t1] at z
            cases z
            exact ⟨hs, by rw [List.length_map]; exact hz, us, _, rv, hs⟩
          · rw [t0 c hc] at z; cases z
        one := fun c z => by
          by_cases hc : c = sa
          · exact hc
          · exact absurd (t0 c hc) z
        kno := fun _ => kn }
    exact S.call KI hm hb hbb hl hg hs hr F bt hsp
end
/-- a law of a script, by a promise where no repr is under way -/
theorem walk_G {l : PySem.W.OpenLaw} {n k : Nat} {q : Program} {loose : List Str} {XP : (Str → Option Value) → Heap → Prop} {YP : World → Heap → Prop} {d : DefRec} {x : Str} (hn : l.most = some n) (hn2 : n ≤ sizeLine) (hd : d.params.defaults = []) (hr : Room k callerA)
    (F : ∀ (w : World) (mg : Str → Option Value) (fl : Addr) (h : Heap), YP w h → h.Ns mainGlobals mg → mg d.name = some (.ref fl) →
      ∃ (K : PySem.W.Frag) (fd : FuncData) (sp : Sp), K.In h ∧ Binds K fd [x] [] ∧
        (∀ (T : Hp) (sa : Addr) (ks : List Int), Only T → SqL K T sa (ks.map V.int) → sp [.ref sa] T (fun v _ => v = .bl true) fun _ _ _ => False) ∧
        ∀ bs : Heap, K.In bs → bs.Ns mainGlobals mg → FnG l.prog w K mg bs k fl fd [x] sp) :
    PySem.W.WalkO q loose XP YP l.row.toRowW d [] (fun f vs => PySem.call f vs) := by
  refine Att.attach_call hn hd fun w s0 st mg mbi fl o pm cd doc sa us ks G Y ho hdt hc hmg hs hi hlen hg => ?_
  obtain ⟨K, fd, sp, KI, bt, hsp, FF⟩ := F w mg fl _ Y G.T.g hmg
  exact law_callG KI G.T.g G.T.b G.T.builtins G.T.nolimit hg hs hi (Nat.le_trans hlen hn2) hr FF bt fun T hO hS => hsp T sa ks hO hS
end Pu

/-! FxB: what the top leaves, by names. -/
namespace Pu
open PySem PySem.Spec PyProof.Rows L2
section
variable {w : World} {K : PySem.W.Frag} {h : Heap} {mg : Str → Option Value}
theorem df_of {d : He.DefD} {x : Str} {s : Stmt} (X : K.In h) (G : h.Ns mainGlobals mg) (hd : ∃ fd, FunD K d.name d.qual d.params d.body d.scope (d.dvs K) (d.kws K) (He.fAd K d.at_) fd) (hg : (He.Fa.glo x).ok K = true) (e : d = ⟨(x, none), x, x, defArgs s, defBody s, defScope s, [], []⟩) : Df K mg x s := by
  subst e
  obtain ⟨fd, q⟩ := hd
  exact ⟨_, fd, q, He.glo_ok X G hg⟩
theorem dfM_of {d : He.DefD} {c m q : Str} {s : Stmt} (hd : ∃ fd, FunD K d.name d.qual d.params d.body d.scope (d.dvs K) (d.kws K) (He.fAd K d.at_) fd) (hg : (He.Fa.meth c m).ok K = true) (e : d = ⟨(c, some m), m, q, defArgs s, defBody s, defScope s, [], []⟩) : DfM K (He.ga K c) m q s := by
  subst e
  obtain ⟨fd, z⟩ := hd
  exact ⟨_, fd, z, He.meth_ok hg⟩
theorem dic_ent {a : Addr} {ks : List Str} (q : He.dicW K a = some (He.keysIn w.params ks)) : ∃ es n, K.lookup a = some ⟨.type "dict", none, .dict es n, #[]⟩ ∧ es.toList.map He.keyOf = He.keysIn w.params ks := by
  obtain ⟨es, n, D⟩ := He.dicW_ok q
  refine ⟨es, n, D.at_, ?_⟩
  have z := q
  unfold He.dicW at z
  rw [D.at_] at z
  have z : (match decide (("dict" : String) = "dict") && ((#[] : Array (Option Value)).isEmpty && !(a == sysModules)) with
    | true => some (es.toList.map He.keyOf)
    | false => none) = some (He.keysIn w.params ks) := z
  rw [D.low] at z
  exact Option.some.inj z
theorem ents_none {P : Params} (z : Str) : ∀ (ks : List Str) (es : List DictEntry), es.map He.keyOf = He.keysIn P ks → z ∉ ks → es.find? (·.key.isStr z) = none ∧ es.any (·.refKey) = false
  | _, [], _, _ => ⟨rfl, rfl⟩
  | [], _ :: _, q, _ => nomatch q
  | k :: ks, e :: es, q, hz => by
    have q1 : He.keyOf e = some (k, PyData.keyHash P k) := (List.cons.inj q).1
    have q2 : es.map He.keyOf = He.keysIn P ks := (List.cons.inj q).2
    obtain ⟨a, c⟩ := ents_none z ks es q2 fun m => hz (List.mem_cons_of_mem _ m)
    unfold He.keyOf at q1
    split at q1
    · rename_i x t hk
      obtain ⟨rfl, _⟩ := Prod.mk.inj (Option.some.inj q1)
      have hx : (x == z) = false := by
        cases y : x == z with
        | false => rfl
        | true => exact absurd (by rw [← (beq_iff_eq.mp y)]; exact List.mem_cons_self) hz
      have e1 : e.key.isStr z = false := by rw [hk]; exact hx
      have e2 : e.refKey = false := by unfold DictEntry.refKey; rw [hk]
      refine ⟨?_, ?_⟩
      · rw [List.find?_cons, e1]; exact a
      · rw [List.any_cons, e2, c]; rfl
    · cases q1
theorem dic_none {a : Addr} {ks : List Str} (q : He.dicW K a = some (He.keysIn w.params ks)) {z : Str} (hz : z ∉ ks) : PySem.W.nsIn K a z = some none := by
  obtain ⟨es, n, q1, q2⟩ := dic_ent q
  obtain ⟨a1, a2⟩ := ents_none z ks es.toList q2 hz
  unfold PySem.W.nsIn
  rw [q1]
  show (match es.toList.find? (·.key.isStr z) with
    | some e => some (some e.val)
    | none => if es.toList.any (·.refKey) then none else some none) = _
  rw [a1, a2]
  rfl
theorem tabX_of {x : Str} {ks : List Str} {kvs : List (Str × He.Dv)} {f : Str → Option Int} (X : K.In h) (G : h.Ns mainGlobals mg) (hg : (He.Fa.glo x).ok K = true) (q : He.dicW K (He.ga K x) = some (He.keysIn w.params ks)) (hv : He.valsB K (He.ga K x) kvs = true)
    (h1 : ∀ z i, f z = some i → (z, He.Dv.int i) ∈ kvs) (h2 : ∀ z, f z = none → z ∉ ks) : TabX K w mg x f := by
  obtain ⟨es, n, D⟩ := He.dicW_ok q
  refine ⟨_, es, n, He.glo_ok X G hg, D, fun z i e => ?_, fun z e => dic_none q (h2 z e)⟩
  obtain ⟨u, a, c⟩ := He.valsB_ok hv (h1 z i e)
  have c : RelV (V.int i) u := c
  obtain ⟨t, rfl⟩ := c
  exact ⟨t, a⟩
theorem conX_of {x : Str} {a c : Int} {q : Rat} (X : K.In h) (G : h.Ns mainGlobals mg) (hg : (He.Fa.glo x).ok K = true) (ht : He.tupB K x [.int a, .int c] = true) (e : fr q = .tup [.int a, .int c]) : ∃ p, mg x = some (.ref p) ∧ ∀ tp G, At K tp G (.ref p) (fr q) := by
  refine ⟨_, He.glo_ok X G hg, fun tp H => ?_⟩
  rw [e]
  exact .tup (He.tupB_ok ht H) (.cons (.int a) (.cons (.int c) .nil))
theorem oex_of {C : Addr} (q : oexB K C = true) (sa : PySem.W.findIn K (.ref C) "__setattr__" = some (some (.builtin "object.__setattr__"))) (ec : PySem.W.subIn K (.ref C) (.type "BaseException") = some true) (ty : PySem.W.typeIn K (.ref C) = some (.type "type")) (kc : PySem.W.keepIn K (.ref C) = true) : OexC K C := by
  refine ⟨?_, sa, ec, ty, kc⟩
  unfold oexB at q
  split at q
  · rename_i dd cd sl hl
    split at q
    · rename_i C' bm k0 k1 k2 k3 n k5 hm hs
      simp only [Bool.and_eq_true, Bool.not_eq_true', beq_iff_eq] at q
      obtain ⟨rfl, rfl, hdel, hdct, hve⟩ := q
      obtain ⟨nm, bs, mro, ns, qn, hd, sn, sb, ab, col, del⟩ := cd
      dsimp only at hm hdel hdct
      subst hm hdel hdct
      have hsl : sl = #[k0, k1, k2, k3, some (.builtin "ValueError.__new__"), k5] := by
        rw [← Array.toList_inj, hs]
      subst hsl
      exact ⟨nm, qn, ns, bs, bm, sn, sb, ab, col, dd, k0, k1, k2, k3, k5, hl, hve⟩
    · cases q
  · cases q
theorem ex_of (q : ex K = true) : True := trivial
theorem defs_of (X : K.In h) (G : h.Ns mainGlobals mg) (S : Says w K) : Defs K mg (He.ga K "Walk") := by
  have c := S.t.d
  exact {
    D_is_whole := df_of X G (c.def_ 3) (c.fact 0) rfl
    D_shared := df_of X G (c.def_ 4) (c.fact 1) rfl
    D_fraction := df_of X G (c.def_ 6) (c.fact 3) rfl
    D_less := df_of X G (c.def_ 8) (c.fact 5) rfl
    D_times := df_of X G (c.def_ 9) (c.fact 6) rfl
    D_is_below := df_of X G (c.def_ 10) (c.fact 7) rfl
    D_from_nought := df_of X G (c.def_ 16) (c.fact 13) rfl
    D_is_fraction := df_of X G (c.def_ 5) (c.fact 2) rfl
    D_is_edge := df_of X G (c.def_ 12) (c.fact 9) rfl
    D_is_side := df_of X G (c.def_ 13) (c.fact 10) rfl
    D_is_box := df_of X G (c.def_ 14) (c.fact 11) rfl
    D_is_of := df_of X G (c.def_ 15) (c.fact 12) rfl
    D_is_corner := df_of X G (c.def_ 43) (c.fact 40) rfl
    D_side_size := df_of X G (c.def_ 17) (c.fact 14) rfl
    D_size_of := df_of X G (c.def_ 18) (c.fact 15) rfl
    D_is_ahead := df_of X G (c.def_ 20) (c.fact 17) rfl
    D_lies := df_of X G (c.def_ 21) (c.fact 18) rfl
    D_lies_in := df_of X G (c.def_ 22) (c.fact 19) rfl
    D_inside := df_of X G (c.def_ 23) (c.fact 20) rfl
    D_over_of := df_of X G (c.def_ 24) (c.fact 21) rfl
    D_lack_of := df_of X G (c.def_ 25) (c.fact 22) rfl
    D_in_size := df_of X G (c.def_ 11) (c.fact 8) rfl
    D_sides_of := df_of X G (c.def_ 26) (c.fact 23) rfl
    D_numbers_at := df_of X G (c.def_ 27) (c.fact 24) rfl
    D_side_looks := df_of X G (c.def_ 28) (c.fact 25) rfl
    D_many_at_side := df_of X G (c.def_ 29) (c.fact 26) rfl
    D_many_looks := df_of X G (c.def_ 30) (c.fact 27) rfl
    D_looks := df_of X G (c.def_ 31) (c.fact 28) rfl
    D_misses_of := df_of X G (c.def_ 32) (c.fact 29) rfl
    D_worst := df_of X G (c.def_ 33) (c.fact 30) rfl
    D_places_of := df_of X G (c.def_ 34) (c.fact 31) rfl
    D_many_sets := df_of X G (c.def_ 35) (c.fact 32) rfl
    D_sets_of := df_of X G (c.def_ 36) (c.fact 33) rfl
    D_tree_of := df_of X G (c.def_ 38) (c.fact 35) rfl
    D_least_set := df_of X G (c.def_ 37) (c.fact 34) rfl
    D_is_shaped := df_of X G (c.def_ 39) (c.fact 36) rfl
    D_lying := df_of X G (c.def_ 40) (c.fact 37) rfl
    D_over_by := df_of X G (c.def_ 41) (c.fact 38) rfl
    D_lack_by := df_of X G (c.def_ 42) (c.fact 39) rfl
    D_Walk_leaf_holds := dfM_of (c.def_ 45) (c.fact 89) rfl
    D_Walk_go := dfM_of (c.def_ 46) (c.fact 90) rfl
    D_lets_least := df_of X G (c.def_ 47) (c.fact 41) rfl
    D_l_draw := df_of X G (c.def_ 49) (c.fact 43) rfl
    D_l_tape := df_of X G (c.def_ 48) (c.fact 42) rfl
    D_l_low := df_of X G (c.def_ 50) (c.fact 44) rfl
    D_l_places := df_of X G (c.def_ 52) (c.fact 46) rfl
    D_l_sets := df_of X G (c.def_ 53) (c.fact 47) rfl
    D_l_side_looks := df_of X G (c.def_ 54) (c.fact 48) rfl
    D_l_side_size := df_of X G (c.def_ 55) (c.fact 49) rfl
    D_l_lies := df_of X G (c.def_ 56) (c.fact 50) rfl
    D_l_whole := df_of X G (c.def_ 60) (c.fact 54) rfl
    D_l_handed := df_of X G (c.def_ 61) (c.fact 55) rfl
    D_l_boxes := df_of X G (c.def_ 62) (c.fact 56) rfl
    D_l_in := df_of X G (c.def_ 63) (c.fact 57) rfl
    D_l_shown := df_of X G (c.def_ 64) (c.fact 58) rfl
    D_l_grid := df_of X G (c.def_ 51) (c.fact 45) rfl
    D_l_worst := df_of X G (c.def_ 57) (c.fact 51) rfl
    D_l_odd := df_of X G (c.def_ 58) (c.fact 52) rfl
    D_l_bent := df_of X G (c.def_ 59) (c.fact 53) rfl
    D_l_leaf := df_of X G (c.def_ 65) (c.fact 59) rfl
    D_l_tree := df_of X G (c.def_ 66) (c.fact 60) rfl
    D_l_lets := df_of X G (c.def_ 67) (c.fact 61) rfl
    D_l_least := df_of X G (c.def_ 68) (c.fact 62) rfl
    D_l_told_right := df_of X G (c.def_ 69) (c.fact 63) rfl
    D_law := df_of X G (c.def_ 70) (c.fact 64) rfl
  }
theorem bt_of (X : K.In h) (G : h.Ns mainGlobals mg) (S : Says w K) : Bt mg := by
  have c := S.t.d
  exact ⟨He.free_ok X G (c.fact 67), He.free_ok X G (c.fact 68), He.free_ok X G (c.fact 69), He.free_ok X G (c.fact 70), He.free_ok X G (c.fact 71), He.free_ok X G (c.fact 72), He.free_ok X G (c.fact 73), He.free_ok X G (c.fact 74), He.free_ok X G (c.fact 75), He.free_ok X G (c.fact 76), He.free_ok X G (c.fact 77), He.free_ok X G (c.fact 78), He.free_ok X G (c.fact 79), He.free_ok X G (c.fact 80), He.free_ok X G (c.fact 81), He.free_ok X G (c.fact 82)⟩
theorem wk_of (X : K.In h) (G : h.Ns mainGlobals mg) (S : Says w K) : WkF K mg (He.ga K "Walk") := by
  have c := S.t.d
  refine ⟨He.cls_ok (c.fact 83), He.glo_ok X G (c.fact 66), He.noat_ok (c.fact 85), He.noat_ok (c.fact 86), He.noat_ok (c.fact 87), He.noat_ok (c.fact 88), ?_⟩
  obtain ⟨fd, q⟩ := c.def_ 44
  exact ⟨_, fd, q, He.mkr_ok (c.fact 84)⟩
theorem cs_of (X : K.In h) (G : h.Ns mainGlobals mg) (S : Says w K) : Cs K w mg := by
  have c := S.t.d
  have q := S.x
  obtain ⟨q1, q⟩ := He.ba q
  obtain ⟨q2, q⟩ := He.ba q
  obtain ⟨q3, q⟩ := He.ba q
  obtain ⟨_, q⟩ := He.ba q
  obtain ⟨_, q⟩ := He.ba q
  obtain ⟨_, q⟩ := He.ba q
  obtain ⟨_, q⟩ := He.ba q
  obtain ⟨_, q⟩ := He.ba q
  obtain ⟨_, q⟩ := He.ba q
  obtain ⟨_, q⟩ := He.ba q
  obtain ⟨_, q⟩ := He.ba q
  obtain ⟨_, q⟩ := He.ba q
  obtain ⟨_, q⟩ := He.ba q
  obtain ⟨_, q⟩ := He.ba q
  obtain ⟨q4, q5⟩ := He.ba q
  have tb : ts.map (fun t => He.dicW K (t.1 K)) = ts.map fun t => some (He.keysIn w.params t.2) := congrArg (fun z : He.AlT => z.2) S.t
  have t1 : He.dicW K (He.ga K "LONG") = some (He.keysIn w.params ["to", "from", "round"]) := (List.cons.inj tb).1
  have t2 : He.dicW K (He.ga K "THINGS") = some (He.keysIn w.params ["take", "many", "few", "over", "lack"]) := (List.cons.inj (List.cons.inj tb).2).1
  refine ⟨conX_of X G (c.fact 93) q1 rfl, conX_of X G (c.fact 94) q2 rfl, conX_of X G (c.fact 95) q3 rfl, He.int_ok X G (c.fact 91), He.int_ok X G (c.fact 92), tabX_of X G (c.fact 96) t1 q4 (fun z i e => ?_) (fun z e m => ?_), tabX_of X G (c.fact 97) t2 q5 (fun z i e => ?_) (fun z e m => ?_)⟩
  · unfold longOf at e
    split at e
    · rename_i hz; subst hz; cases e; exact .head _
    · split at e
      · rename_i hz; subst hz; cases e; exact .tail _ (.head _)
      · split at e
        · rename_i hz; subst hz; cases e; exact .tail _ (.tail _ (.head _))
        · cases e
  · simp only [List.mem_cons, List.not_mem_nil, or_false] at m
    rcases m with rfl | rfl | rfl <;> exact absurd e (by decide)
  · unfold thingsOf at e
    split at e
    · rename_i hz; subst hz; cases e; exact .head _
    · split at e
      · rename_i hz; subst hz; cases e; exact .tail _ (.head _)
      · split at e
        · rename_i hz; subst hz; cases e; exact .tail _ (.tail _ (.head _))
        · split at e
          · rename_i hz; subst hz; cases e; exact .tail _ (.tail _ (.tail _ (.head _)))
          · split at e
            · rename_i hz; subst hz; cases e; exact .tail _ (.tail _ (.tail _ (.tail _ (.head _))))
            · cases e
  · simp only [List.mem_cons, List.not_mem_nil, or_false] at m
    rcases m with rfl | rfl | rfl | rfl | rfl <;> exact absurd e (by decide)
theorem np_of (X : K.In h) (G : h.Ns mainGlobals mg) (S : Says w K) : NoP K mg (He.ga K "NoPaper") (inClass (top 4) 0) := by
  have c := S.t.d
  have q := S.x
  obtain ⟨_, q⟩ := He.ba q
  obtain ⟨_, q⟩ := He.ba q
  obtain ⟨_, q⟩ := He.ba q
  obtain ⟨_, q⟩ := He.ba q
  obtain ⟨q1, q⟩ := He.ba q
  obtain ⟨q2, q⟩ := He.ba q
  obtain ⟨q3, q⟩ := He.ba q
  obtain ⟨q4, q⟩ := He.ba q
  obtain ⟨q5, q⟩ := He.ba q
  obtain ⟨q6, q⟩ := He.ba q
  obtain ⟨q7, q⟩ := He.ba q
  obtain ⟨q8, q⟩ := He.ba q
  obtain ⟨q9, q⟩ := He.ba q
  obtain ⟨q10, _⟩ := He.ba q
  obtain ⟨fd, z⟩ := c.def_ 2
  exact ⟨oex_of q1 (He.eqO_ok q2) (of_decide_eq_true q3) (of_decide_eq_true q4) q5, He.glo_ok X G (c.fact 65), He.eqO_ok q6, He.eqO_ok q7, of_decide_eq_true q10, _, fd, z, He.eqO_ok q8, of_decide_eq_true q9⟩
end
end Pu

/-! End: the law holds. -/
namespace Pu
open PySem PySem.Spec L2
theorem end_of {h : Heap} {mg : Str → Option Value} {fl : Addr} (w : World) (Y : hk.says w h) (G : h.Ns mainGlobals mg) (hm : mg ("law" : Str) = some (.ref fl)) :
    ∃ (K : PySem.W.Frag) (fd : FuncData) (sp : Sp), K.In h ∧ Binds K fd ["_law_script"] [] ∧ (∀ (T : Hp) (sa : Addr) (ks : List Int), Only T → SqL K T sa (ks.map V.int) → sp [.ref sa] T (fun v _ => v = .bl true) fun _ _ _ => False) ∧
      ∀ bs : Heap, K.In bs → bs.Ns mainGlobals mg → FnG (PySem.Challenge.rw_evenpoints_k94_whole_least_papers_let_by).prog w K mg bs 31 fl fd ["_law_script"] sp := by
  obtain ⟨K, KI, S⟩ := Y
  obtain ⟨f, fd, F1, hf⟩ := (defs_of KI G S).D_law
  rw [hm] at hf
  cases hf
  refine ⟨K, fd, spLaw K, KI, F1.bindsN (fun _ _ _ _ _ _ us hl => match us, hl with | [_], _ => rfl), fun T sa ks _ hs => ⟨sa, ks, rfl, hs, fun _ => rfl⟩, fun bs KB GB => ?_⟩
  exact all_ok (defs_of KI G S) (bt_of KI G S) (cs_of KI G S) (wk_of KI G S) (np_of KI G S) F1
end Pu
open PySem PySem.W PySem.Calls PyProof.Rows
theorem PySem.Challenge.cw_evenpoints_k94_whole_least_papers_let_by_holds : PySem.Challenge.rw_evenpoints_k94_whole_least_papers_let_by.Holds := by
  refine Pu.head_law fun q loose XP => ?_
  refine Pu.walk_G (l := PySem.Challenge.rw_evenpoints_k94_whole_least_papers_let_by) (n := 63) (k := 31) (x := "_law_script") rfl (by decide) Pu.law_dfl ⟨rfl, by decide, by decide⟩ ?F
  intro w mg fl h Y G hmg0
  have hmg : mg ("law" : PySem.Str) = some (.ref fl) := by
    rw [← Pu.law_name]
    exact hmg0
  exact Pu.end_of w Y G hmg

